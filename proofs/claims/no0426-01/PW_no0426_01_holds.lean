import PyProof.Rows.All
import Wide.All
import OpenK.AllK
import Wide.FinOn
import Lean
import PySem.Challenge.RW_no0426_01
set_option Elab.async false
set_option linter.all false
set_option maxRecDepth 100000
set_option genInjectivity false
set_option genSizeOf false
set_option bootstrap.genMatcherCode false
set_option genCtorIdx false
set_option tactic.hygienic false
namespace Mine
namespace Internal
section
open PySem PySem.W PyProof.Rows
open Sem (wp)
noncomputable def clean:Code->Bool
 |.builtin id _=>!Builtin.Bytes.decodersThatHold.contains id
 |_=>true
noncomputable def CleanL(l:List (Code×Pos)):Prop:=∀x∈l,clean x.1=true
section
variable{α β:Type}
noncomputable def wpB(M:Model)(A:Around)(t:Sem α)(Q:α->Shared->Prop)(E:Value->Shared->Prop)(s:Shared):Prop:=
 ∀Γ p,Γ.In A->clean Γ.code=true->CleanL Γ.below->wp M Γ t (λa _ s'=>Q a s') (λe _ s'=>E e s') p s
noncomputable def codeB(M:Model)(A:Around)(c:Code)(R:Result->Shared->Prop)(s:Shared):Prop:=
 ∀Γ p,Γ.code=c->Γ.Below A->CleanL Γ.below->wpCode M Γ R p s
variable{M:Model}{A:Around}{E:Value->Shared->Prop}{s:Shared}
theorem wpB.of{t:Sem α}{Q:α->Shared->Prop}(h:wpAny M A t Q E s):wpB M A t Q E s:=λΓ p hΓ _ _=>h Γ p hΓ
theorem codeB.of{c:Code}{R:Result->Shared->Prop}(h:codeAny M A c R s):codeB M A c R s:=λΓ p hc hΓ _=>h Γ p hc hΓ
theorem za4{a:α}{Q:α->Shared->Prop}(h:Q a s):wpB M A (pure a) Q E s:=.of (wpAny_pure h)
theorem zaZ{t:Sem α}{Q Q':α->Shared->Prop}{E':Value->Shared->Prop}(h:wpB M A t Q E s)(hQ:∀a s,Q a s->Q' a s)(hE:∀e s,E e s->E' e s):wpB M A t Q' E' s:=
 λΓ p h1 h2 h3=>Sem.wp_mono M Γ t (λa _ s=>hQ a s) (λe _ s=>hE e s) p s (h Γ p h1 h2 h3)
theorem za0{m:Sem α}{k:α->Sem β}{Q:β->Shared->Prop}(h:wpB M A m (λa s'=>wpB M A (k a) Q E s') E s):wpB M A (m >>= k) Q E s:=λΓ p h1 h2 h3=>by
 rw[Sem.wp_bind'];exact Sem.wp_mono M Γ m (λa p' s' h'=>h' Γ p' h1 h2 h3) (λ_ _ _ h'=>h') p s (h Γ p h1 h2 h3)
theorem zeN{m:Sem α}{k:Value->Sem Unit}{Q:α->Shared->Prop}(h:wpB M A m Q (λe s'=>wpB M A (k e) (λ_ s''=>E e s'') E s') s):wpB M A (m.onRaise k) Q E s:=λΓ p h1 h2 h3=>by
 rw[Sem.wp_onRaise];exact Sem.wp_mono M Γ m (λ_ _ _ h'=>h') (λe p' s' h'=>h' Γ p' h1 h2 h3) p s (h Γ p h1 h2 h3)
theorem wpB_attempt{m:Sem α}{Q:Except Value α->Shared->Prop}(h:wpB M A m (λa=>Q (.ok a)) (λe=>Q (.error e)) s):wpB M A m.attempt Q E s:=λΓ p h1 h2 h3=>by
 rw[Sem.wp_attempt];exact h Γ p h1 h2 h3
theorem zaH{vs:List Value}{m:Sem α}{Q:α->Shared->Prop}(h:wpB M A m Q E s):wpB M A (holding vs m) Q E s:=λΓ p h1 h2 h3=>by
 rw[Sem.wp_holding];exact h Γ p h1 h2 h3
theorem zaS{pos:Pos}{Q:Unit->Shared->Prop}(h:Q () s):wpB M A (standAt pos) Q E s:=.of (wpAny_standAt h)
theorem wpB_point{Q:Unit->Shared->Prop}(h:Q () s):wpB M A point Q E s:=.of (wpAny_point h)
theorem wpB_of_eq{t u:Sem α}{Q:α->Shared->Prop}(e:t=u)(h:wpB M A u Q E s):wpB M A t Q E s:=e▸h
theorem za8{m:Sem α}{k:α->Sem β}{Q:β->Shared->Prop}(h:wpAny M A m (λa s'=>wpB M A (k a) Q E s') E s):wpB M A (m >>= k) Q E s:=za0 (.of h)
theorem wpB_operate{vs:List Value}{m:Sem Value}{Q:Value->Shared->Prop}(h:wpB M A m Q E s):wpB M A (operate vs m) Q E s:=λΓ p h1 h2 h3=>by
 rw[Sem.wp_operate];exact h Γ p h1 h2 h3
theorem clean_enter{Γ:Ctx}{c:Code}{hd:Option Value}{p:Pos}(h2:clean Γ.code=true)(h3:CleanL Γ.below):CleanL (Γ.enter c hd p).below:=by
 intro x hx;rcases List.mem_cons.mp hx with rfl|hx
 ·exact h2
 ·exact h3 x hx
theorem wpB_run{c:Code}{h:Option Value}{Q:Flow->Shared->Prop}
  (hc:codeB M (A.mark h) c (λr s'=>match r with|.ok f=>Q f s'|.error e=>E e s') s) (hnb:h≠some byPass):wpB M A (run c h) Q E s:=λΓ p h1 h2 h3=>by
 rw[Sem.wp_run];exact hc _ p rfl (h1.enter c h p hnb) (clean_enter h2 h3)
theorem wpB_runValue{c:Code}{Q:Value->Shared->Prop}
  (hc:codeB M A c (λr s'=>match r with|.ok (.ret v)=>Q v s'|.ok _=>False|.error e=>E e s') s):wpB M A (runValue c) Q E s:=λΓ p h1 h2 h3=>by
 rw[Sem.wp_runValue];exact hc _ p rfl (h1.enter c none p (by intro x;cases x)) (clean_enter h2 h3)
theorem zeO{f:Value}{pos:List Value}{kw:List (Str×Value)}{Q:Value->Shared->Prop}
  (hc:codeB M A (.call f ⟨pos,kw⟩) (λr s'=>match r with|.ok (.ret v)=>Q v s'|.ok _=>False|.error e=>E e s') s):wpB M A (call f pos kw) Q E s:=wpB_runValue hc
theorem codeB_mono{c:Code}{R R':Result->Shared->Prop}(h:codeB M A c R s)(hR:∀r s,R r s->R' r s):codeB M A c R' s:=λΓ p hc h1 h2=>wpCode_mono hR (h Γ p hc h1 h2)
theorem zaX{c:Code}{R:Result->Shared->Prop}(hcl:clean c=true)
  (h:wpB M (A.under c) (M.den c) (λfin s'=>match fin with|.done f=>R (.ok f) s'|.again c'=>c'.quiet=true/\codeB M A c' R s') (λe s'=>R (.error e) s') s):codeB M A c R s:=λΓ p hc h1 h2=>by
 rw[wpCode_iff_wp,hc];refine Sem.wp_mono M Γ _ (λfin p' s' h'=>?_) (λ_ _ _ h'=>h') p s (h Γ p (hc▸h1.in) (hc▸hcl) h2)
 induction fin with
 |done f=>exact h'
 |again c'=>exact ⟨h'.1,h'.2 (Γ.goto c') p' rfl (h1.goto c') h2⟩
theorem held_none {id:String} {a:Args} {q:Pos} {v:Value} (h1:id ≠ "bytearray.__contains__") (h2:id ≠ "bytearray.__mod__") (h3:id ≠ "bytearray.__rmod__") (h4:id ≠ "_struct.pack_into.held") (h5:id ≠ "bytearray.find.held") (hc:Builtin.Bytes.decodersThatHold.contains id=false) :
  (match ((.builtin id a,q):Code×Pos) with
  |(.builtin "bytearray.__contains__" ⟨v'::_,_⟩,_)|(.builtin "bytearray.__mod__" ⟨v'::_,_⟩,_)
  |(.builtin "bytearray.__rmod__" ⟨_::v'::_,_⟩,_)|(.builtin "_struct.pack_into.held" ⟨v'::_,_⟩,_)=>Builtin.Bytes.sameRef v' v
  |(.builtin "bytearray.find.held" ⟨_::_::held,_⟩,_)=>held.any (Builtin.Bytes.sameRef v)
  |(.builtin id ⟨v'::_,_⟩,_)=>Builtin.Bytes.sameRef v' v&&Builtin.Bytes.decodersThatHold.contains id
  |_=>false)=false:=by
 delta held_none.match_1
 refine (dif_neg h1).trans <| (dif_neg h2).trans <| (dif_neg h3).trans <| (dif_neg h4).trans <| (dif_neg h5).trans ?_
 obtain ⟨ps,kw⟩:=a;induction ps using List.casesOn with
 |nil=>rfl
 |cons x r=>exact Bool.and_eq_false_imp.mpr λ_=>hc
theorem wpB_exported{v:Value}{Q:Bool->Shared->Prop}(hg:A.guards=some [])(h:Q false s):wpB M A (Builtin.Bytes.exported v) Q E s:=λΓ p h1 h2 h3=>by
 unfold Builtin.Bytes.exported;show Q (((Γ.code,p)::Γ.below).any _) s
 have hgs:guardsOf ((Γ.code,p)::Γ.below)=[]:=by
  rw[guardsOf_cons];exact h1.2.2.2.1 [] hg
 have hno:∀x∈((Γ.code,p)::Γ.below),x.1.isGuard=false:=by
  intro x hx;induction q:x.1.isGuard with
  |false=>rfl
  |true=>
   have:x.1∈guardsOf ((Γ.code,p)::Γ.below):=by
    unfold guardsOf;rw[List.mem_filter];exact ⟨List.mem_map.mpr ⟨x,hx,rfl⟩,q⟩
   rw[hgs] at this;cases this
 have hcl:CleanL ((Γ.code,p)::Γ.below):=by
  intro x hx;rcases List.mem_cons.mp hx with rfl|hx
  ·exact h2
  ·exact h3 x hx
 have e:∀(f:Code×Pos->Bool),(∀x:Code×Pos,x.1.isGuard=false->clean x.1=true->f x=false)->((Γ.code,p)::Γ.below).any f=false:=by
  intro f hf;rw[List.any_eq_false];intro x hx;rw[hf x (hno x hx) (hcl x hx)];exact Bool.false_ne_true
 rw[e]
 ·exact h
 ·rintro ⟨c,q⟩ hgd hc
  induction c with
  |builtin id a=>
   have hn:∀x,Code.isGuard (.builtin x a)=true->id≠x:=λx hx e=>by subst e;exact absurd (hgd.symm.trans hx) nofun
   exact held_none (hn _ rfl) (hn _ rfl) (hn _ rfl) (hn _ rfl) (hn _ rfl) (by rw[←Bool.not_eq_true'];exact hc)
  |_=>rfl
end
end
set_option backward.match.sparseCases false
section
open PySem
noncomputable abbrev Byt:=List UInt8
noncomputable abbrev Op3:=Int×Byt×Byt
structure Row where
 index:Int
 client:Int
 number:Int
 kind:Int
 key:Byt
 word:Byt
 code:Int
 old:Option Byt
set_option genCtorIdx true in
inductive Ty where
 |int|byt|ob|pair|row|op|ops|kv|seat
noncomputable def Ty.den:Ty->Type
 |.int=>Int
 |.byt=>Byt
 |.ob=>Option Byt
 |.pair=>Int×Int
 |.row=>Row
 |.op=>Op3
 |.ops=>List Op3
 |.kv=>Byt×Byt
 |.seat=>Int×Int×Bool×Byt
inductive DV where
 |none|bool (b:Bool)|int (i:Int)|str|bytes (b:Byt)|ob (o:Option Byt)
 |tup (xs:List DV)|lst (xs:List DV)|obj (c:Str) (fs:List (Str×DV))
 |tl (ty:Ty) (xs:List ty.den)|tt (ty:Ty) (xs:List ty.den)
 |rng (a b s:Int)
noncomputable def DV.ctorIdx(x:DV):Nat:=DV.casesOn x 0 (λ_=>1) (λ_=>2) 3 (λ_=>4) (λ_=>5) (λ_=>6) (λ_=>7) (λ_ _=>8) (λ_ _=>9) (λ_ _=>10) (λ_ _ _=>11)
noncomputable def Ty.emb:(ty:Ty)->ty.den->DV
 |.int,i=>.int i
 |.byt,b=>.bytes b
 |.ob,o=>.ob o
 |.pair,(a,b)=>.tup [.int a,.int b]
 |.row,r=>.tup [.int r.index,.int r.client,.int r.number,.int r.kind,.bytes r.key,.bytes r.word,.int r.code,.ob r.old]
 |.op,(a,b,c)=>.tup [.int a,.bytes b,.bytes c]
 |.ops,l=>.tl .op l
 |.kv,(a,b)=>.tup [.bytes a,.bytes b]
 |.seat,(a,b,c,d)=>.tup [.int a,.int b,.bool c,.bytes d]
noncomputable def DV.int?:DV->Option Int
 |.int i=>some i
 |_=>Option.none
noncomputable def DV.byt?:DV->Option Byt
 |.bytes b=>some b
 |_=>Option.none
noncomputable def DV.ob?:DV->Option (Option Byt)
 |.ob b=>some b
 |_=>Option.none
noncomputable def DV.bool?:DV->Option Bool
 |.bool b=>some b
 |_=>Option.none
noncomputable def DV.ops?:DV->Option (List Op3)
 |.tl ty l=>(match ty,l with
  |.op,l=>some l
  |_,_=>Option.none)
 |_=>Option.none
noncomputable def tk{β:Type}(f:List DV->Option β):DV->Option β
 |.tup xs=>f xs
 |_=>Option.none
noncomputable def uk{α β:Type}(p:DV->Option α)(k:α->List DV->Option β):List DV->Option β
 |[]=>Option.none
 |x::r=>match p x with|some a=>k a r|Option.none=>Option.none
noncomputable def ue{β:Type}(b:β):List DV->Option β
 |[]=>some b
 |_::_=>Option.none
noncomputable def Ty.parse:(ty:Ty)->DV->Option ty.den
 |.int,d=>d.int?
 |.byt,d=>d.byt?
 |.ob,d=>d.ob?
 |.pair,d=>tk (uk DV.int? λa=>uk DV.int? λb=>ue (a,b)) d
 |.row,d=>tk (uk DV.int? λa=>uk DV.int? λb=>uk DV.int? λc=>uk DV.int? λe=>uk DV.byt? λk=>uk DV.byt? λw=>uk DV.int? λg=>uk DV.ob? λo=>ue (⟨a,b,c,e,k,w,g,o⟩:Row)) d
 |.op,d=>tk (uk DV.int? λa=>uk DV.byt? λb=>uk DV.byt? λc=>ue (a,b,c)) d
 |.ops,d=>d.ops?
 |.kv,d=>tk (uk DV.byt? λa=>uk DV.byt? λb=>ue (a,b)) d
 |.seat,d=>tk (uk DV.int? λa=>uk DV.int? λb=>uk DV.bool? λc=>uk DV.byt? λe=>ue (a,b,c,e)) d
inductive AV where
 |d (x:DV)|r (i:Nat)
noncomputable def AV.ctorIdx(x:AV):Nat:=AV.casesOn x (λ_=>0) (λ_=>1)
inductive MObj where
 |inst (c:Str) (fs:List (Str×AV))|lst (xs:List DV)|tl (ty:Ty) (xs:List ty.den)|dict (es:List (Byt×Byt))|ba (b:Byt)
noncomputable def MObj.ctorIdx(x:MObj):Nat:=MObj.casesOn x (λ_ _=>0) (λ_=>1) (λ_ _=>2) (λ_=>3) (λ_=>4)
noncomputable abbrev Env':=List (Str×AV)
noncomputable abbrev Objs:=List MObj
inductive CRes where
 |ok (a:AV)|exc (c:Str)
noncomputable def CRes.ctorIdx(x:CRes):Nat:=CRes.casesOn x (λ_=>0) (λ_=>1)
inductive Fl where
 |next|brk|cont|ret (a:AV)|exc (c:Str)
inductive Key where
 |fn (f:Str)|mt (c m:Str)
inductive Ans where
 |b (v:Bool)|call (r:CRes) (os:Objs)|loop (f:Fl) (e:Env') (os:Objs)|comp (o:MObj)|con (d:DV)|re (x:Str) (d:DV)|reo (i:Nat) (o:MObj)
structure Spec where
 call:Key->List AV->Objs->CRes->Objs->Prop
 loop:Expr->List Stmt->AV->List DV->Env'->Objs->Fl->Env'->Objs->Prop
 comp:Scope->Expr->Str->List Expr->AV->List DV->Env'->Objs->MObj->Prop
 swap:Str->Scope->Prop
 con:Str->DV->Prop
 fn:Str->Prop
 meth:Str->Str->Prop
 attr:Str->Str->Prop
 sameD:DV->DV->Prop
 sameO:MObj->MObj->Prop
structure S where
 env:Env'
 objs:Objs
 h:Bool
 ans:List Ans
 obl:List Prop
inductive Res where
 |v (a:AV)|vs (as:List AV)|b (b:Bool)|fl (f:Fl)|exc (made:Bool) (c:Str)|u
noncomputable def Res.ctorIdx(x:Res):Nat:=Res.casesOn x (λ_=>0) (λ_=>1) (λ_=>2) (λ_=>3) (λ_ _=>4) 5
noncomputable abbrev Out:=Option (Res×S)
noncomputable def cd(s:Str):Nat:=s.cps.toList.foldl (λa c=>a*256+c) 0
noncomputable def eqN(a b:Str):Bool:=match Nat.beq (cd a) (cd b) with
 |true=>decide (a=b)
 |false=>false
noncomputable def hasS(x:Str):List Str->Bool
 |[]=>false
 |y::r=>match eqN x y with|true=>true|false=>hasS x r
noncomputable def look{α:Type}(x:Str):List (Str×α)->Option α
 |[]=>none
 |(y,v)::r=>match eqN x y with|true=>some v|false=>look x r
noncomputable def putE{α:Type}(x:Str)(v:α):List (Str×α)->List (Str×α)
 |[]=>[(x,v)]
 |(y,w)::r=>match eqN x y with|true=>(y,v)::r|false=>(y,w)::putE x v r
noncomputable def bsel{α:Type}(c:Bool)(a b:Option α):Option α:=match c with
 |true=>a
 |false=>b
noncomputable def opb{α β:Type}(a:Option α)(k:α->Option β):Option β:=match a with
 |some x=>k x
 |none=>none
noncomputable def eqI(a b:Int):Bool:=decide (a=b)
noncomputable def ltI(a b:Int):Bool:=decide (a<b)
noncomputable def leI(a b:Int):Bool:=decide (a<=b)
noncomputable def eqB(a b:Byt):Bool:=decide (a=b)
noncomputable def eqO(a b:Option Byt):Bool:=decide (a=b)
noncomputable def eqLI(a b:List Int):Bool:=decide (a=b)
noncomputable def eqLK(a b:List (Byt×Byt)):Bool:=decide (a=b)
noncomputable def eqLS(a b:List (Int×Int×Bool×Byt)):Bool:=decide (a=b)
noncomputable def ltB:Byt->Byt->Bool
 |_,[]=>false
 |[],_::_=>true
 |a::r,b::s=>match decide (a.toNat<b.toNat) with|true=>true|false=>(match decide (b.toNat<a.toNat) with|true=>false|false=>ltB r s)
noncomputable def u8(i:Int):UInt8:=UInt8.ofNat i.toNat
noncomputable def zc1(i:Int):Prop:=0<=i/\i<256
noncomputable def lenI{α:Type}(l:List α):Int:=(l.length:Int)
noncomputable def getT{α:Type}:List α->Nat->Option α
 |[],_=>none
 |x::_,0=>some x
 |_::r,n+1=>getT r n
noncomputable def dget(k:Byt):List (Byt×Byt)->Option Byt
 |[]=>none
 |(a,v)::r=>bif decide (a=k) then some v else dget k r
noncomputable def dput(k v:Byt):List (Byt×Byt)->List (Byt×Byt)
 |[]=>[(k,v)]
 |(a,w)::r=>bif decide (a=k) then (a,v)::r else (a,w)::dput k v r
noncomputable def ddel(k:Byt):List (Byt×Byt)->List (Byt×Byt)
 |[]=>[]
 |(a,w)::r=>bif decide (a=k) then r else (a,w)::ddel k r
noncomputable def MObj.items:MObj->Option (List DV)
 |.lst xs=>some xs
 |.tl ty xs=>some (xs.map ty.emb)
 |_=>none
noncomputable def upTo(a b:Int):List DV:=(List.range (b - a).toNat).map λ(i:Nat)=>.int (a+i)
noncomputable def zf8(a b:Int):List DV:=(List.range (a - b).toNat).map λ(i:Nat)=>.int (a - i)
noncomputable def DV.items:DV->Option (List DV)
 |.rng a b s=>bsel (decide (s=1)) (some (upTo a b)) (bsel (decide (s=-1)) (some (zf8 a b)) Option.none)
 |.lst xs=>some xs
 |.tup xs=>some xs
 |.tl ty xs=>some (xs.map ty.emb)
 |.tt ty xs=>some (xs.map ty.emb)
 |.bytes b=>some (b.map λc=>.int (c.toNat:Int))
 |_=>Option.none
noncomputable def zaM(os:Objs):AV->Option (List DV)
 |.d x=>x.items
 |.r i=>opb (getT os i) MObj.items
noncomputable def asD(os:Objs):AV->Option DV
 |.d x=>some x
 |.r i=>match getT os i with|some (.lst xs)=>some (.lst xs)|some (.tl ty xs)=>some (.tl ty xs)|_=>none
noncomputable def eqDs(p:DV->DV->Option Bool):List DV->List DV->Option Bool
 |[],ys=>(match ys with
  |[]=>some true
  |_::_=>none)
 |x::xs,ys=>(match ys with
  |[]=>none
  |y::ys=>opb (p x y) λa=>opb (eqDs p xs ys) λb=>some (a&&b))
noncomputable def eqDn:Nat->DV->DV->Option Bool
 |0,_,_=>none
 |n+1,x,y=>match x with
  |.none=>(match y with
   |.none=>some true
   |.ob b=>some b.isNone
   |.bytes _=>some false
   |_=>none)
  |.bool a=>(match y with
   |.bool b=>some (a==b)
   |_=>none)
  |.int a=>(match y with
   |.int b=>some (eqI a b)
   |_=>none)
  |.bytes a=>(match y with
   |.bytes b=>some (eqB a b)
   |.ob b=>some (eqO (some a) b)
   |.none=>some false
   |_=>none)
  |.ob a=>(match y with
   |.ob b=>some (eqO a b)
   |.bytes b=>some (eqO a (some b))
   |.none=>some a.isNone
   |_=>none)
  |.tup xs=>(match y with
   |.tup ys=>eqDs (eqDn n) xs ys
   |_=>none)
  |.tt ty xs=>(match ty,xs with
   |.int,xs=>(match y with
    |.tt ty ys=>(match ty,ys with
     |.int,ys=>some (eqLI xs ys)
     |_,_=>none)
    |.tup []=>some xs.isEmpty
    |_=>none)
   |_,_=>none)
  |.tl ty xs=>(match ty,xs with
   |.kv,xs=>(match y with
    |.tl ty ys=>(match ty,ys with
     |.kv,ys=>some (eqLK xs ys)
     |_,_=>none)
    |_=>none)
   |.seat,xs=>(match y with
    |.tl ty ys=>(match ty,ys with
     |.seat,ys=>some (eqLS xs ys)
     |_,_=>none)
    |_=>none)
   |_,_=>none)
  |_=>none
noncomputable def eqD(x y:DV):Option Bool:=eqDn 3 x y
noncomputable def hasN(i:Nat):List Nat->Bool
 |[]=>false
 |j::r=>match Nat.beq i j with|true=>true|false=>hasN i r
noncomputable def reachA:Nat->Objs->AV->List Nat->List Nat
 |0,_,_,acc=>acc
 |_+1,_,.d _,acc=>acc
 |n+1,os,.r i,acc=>match hasN i acc with
  |true=>acc
  |false=>match getT os i with
   |some (.inst _ fs)=>fs.foldl (λacc f=>reachA n os f.2 acc) (acc++[i])
   |_=>acc++[i]
noncomputable def reach(os:Objs)(as:List AV):List Nat:=as.foldl (λacc a=>reachA 6 os a acc) []
noncomputable def zcQ(i:Nat):List Nat->Nat->Option Nat
 |[],_=>none
 |j::r,k=>match Nat.beq i j with|true=>some k|false=>zcQ i r (k+1)
noncomputable def renA(f:Nat->Option Nat):AV->Option AV
 |.d x=>some (.d x)
 |.r i=>opb (f i) λj=>some (.r j)
noncomputable def mapO{α β:Type}(f:α->Option β):List α->Option (List β)
 |[]=>some []
 |x::r=>opb (f x) λy=>opb (mapO f r) λys=>some (y::ys)
noncomputable def renF(f:Nat->Option Nat)(p:Str×AV):Option (Str×AV):=opb (renA f p.2) λa=>some (p.1,a)
noncomputable def renO(f:Nat->Option Nat):MObj->Option MObj
 |.inst c fs=>opb (mapO (renF f) fs) λfs=>some (.inst c fs)
 |o=>some o
noncomputable def okK(n:Nat):List Nat->Bool
 |[]=>true
 |i::r=>Nat.blt i n&&!(hasN i r)&&okK n r
noncomputable def backN(κ:List Nat)(n:Nat)(j:Nat):Option Nat:=match Nat.blt j κ.length with
 |true=>getT κ j
 |false=>some (n+(j - κ.length))
noncomputable def setT{α:Type}:List α->Nat->α->List α
 |[],_,_=>[]
 |_::r,0,v=>v::r
 |x::r,n+1,v=>x::setT r n v
noncomputable def zdV:Objs->List Nat->Objs->Objs
 |os,i::κ,o::r=>zdV (setT os i o) κ r
 |os,[],r=>os++r
 |os,_::_,[]=>os
noncomputable def zi0(κ:List Nat)(os:Objs):Option Objs:=mapO (λi=>opb (getT os i) λo=>renO (λj=>zcQ j κ 0) o) κ
noncomputable def renC(f:Nat->Option Nat):CRes->Option CRes
 |.ok a=>match renA f a with|some a=>some (.ok a)|none=>none
 |.exc c=>some (.exc c)
noncomputable abbrev Nms:=List Str×List Str
variable(Sp:Spec)(lc:Nms)
noncomputable def takeCall:List Ans->Option ((CRes×Objs)×List Ans)
 |[]=>none
 |a::r=>(match a with
  |.call cr os=>some ((cr,os),r)
  |_=>none)
noncomputable def callN(k:Key)(avs:List AV)(st:S):Out:=bsel (!st.h) (opb (takeCall st.ans) λq=>
 let κ:=reach st.objs avs
 bsel (okK st.objs.length κ) (opb (mapO (renA λj=>zcQ j κ 0) avs) λavs'=>opb (zi0 κ st.objs) λos=>opb (mapO (renO (backN κ st.objs.length)) q.1.2) λbs=>
  bsel (Nat.ble κ.length bs.length) (match q.1.1 with
   |.ok a=>opb (renA (backN κ st.objs.length) a) λa'=>some (.v a',⟨st.env,zdV st.objs κ bs,st.h,q.2,st.obl++[Sp.call k avs' os q.1.1 q.1.2]⟩)
   |.exc c=>some (.exc false c,⟨st.env,zdV st.objs κ bs,st.h,q.2,st.obl++[Sp.call k avs' os q.1.1 q.1.2]⟩)) none) none) none
noncomputable def val(x:DV)(st:S):Out:=some (.v (.d x),st)
noncomputable def S.need(st:S)(p:Prop):S:={st with obl:=st.obl++[p]}
noncomputable def newO(o:MObj)(st:S):Out:=some (.v (.r st.objs.length),{st with objs:=st.objs++[o]})
noncomputable def intL:List DV->Option (List Int)
 |[]=>some []
 |x::r=>match x.int? with
  |some i=>(match intL r with|some l=>some (i::l)|none=>none)
  |none=>none
noncomputable def zhP:List Int->List Prop
 |[]=>[]
 |i::r=>zc1 i::zhP r
noncomputable def dOf:AV->Option DV
 |.d x=>some x
 |.r _=>none
noncomputable def datas(os:Objs):List AV->Option (List DV)
 |[]=>some []
 |a::r=>opb (dOf a) λx=>opb (datas os r) λl=>some (x::l)
noncomputable def one:List AV->Option AV
 |[]=>none
 |a::r=>match r with|[]=>some a|_::_=>none
noncomputable def intsA:List AV->Option (List Int)
 |[]=>some []
 |a::r=>match a with
  |.d x=>(match x.int? with
   |some i=>(match intsA r with|some l=>some (i::l)|none=>none)
   |none=>none)
  |.r _=>none
noncomputable def lenA(st:S):AV->Option Int
 |.d x=>(match x with
  |.bytes b=>some (lenI b)
  |.tl _ xs=>some (lenI xs)
  |.lst xs=>some (lenI xs)
  |_=>none)
 |.r i=>(match getT st.objs i with
  |some o=>(match o with
   |.lst xs=>some (lenI xs)
   |.tl _ xs=>some (lenI xs)
   |_=>none)
  |none=>none)
noncomputable def biBytes(st:S):AV->Option Out
 |.d x=>(match x.byt? with
  |some b=>some (val (.bytes b) st)
  |none=>none)
 |.r i=>(match getT st.objs i with
  |some o=>(match o with
   |.ba b=>some (val (.bytes b) st)
   |.lst xs=>(match intL xs with
    |some l=>(match st.h with
     |false=>some (val (.bytes (l.map u8)) {st with obl:=st.obl++zhP l})
     |true=>none)
    |none=>none)
   |_=>none)
  |none=>none)
noncomputable def biRange(st:S):List Int->Option Out
 |[b]=>some (val (.rng 0 b 1) st)
 |[a,b]=>some (val (.rng a b 1) st)
 |[a,b,s]=>some (val (.rng a b s) (st.need (s≠0/\s.natAbs<1073741824)))
 |_=>none
noncomputable def biTwo(k:Int->Int->Int)(st:S):List Int->Option Out
 |[a,b]=>(match st.h with
  |false=>some (val (.int (k a b)) st)
  |true=>none)
 |_=>none
noncomputable def biLen(avs:List AV)(st:S):Option Out:=opb (one avs) λa=>opb (lenA st a) λn=>some (val (.int n) st)
noncomputable def biByt(avs:List AV)(st:S):Option Out:=opb (one avs) λa=>biBytes st a
noncomputable def biBa(avs:List AV)(st:S):Option Out:=match avs with
 |[]=>some (newO (.ba []) st)
 |_::_=>none
noncomputable def biInts(k:S->List Int->Option Out)(avs:List AV)(st:S):Option Out:=opb (intsA avs) λl=>k st l
noncomputable def minI(a b:Int):Int:=bif ltI b a then b else a
noncomputable def maxI(a b:Int):Int:=bif ltI a b then b else a
noncomputable def bi6 (f:Str) (avs:List AV) (st:S):Option Out:=bsel (eqN f "max") (biInts (biTwo maxI) avs st) none
noncomputable def bi5 (f:Str) (avs:List AV) (st:S):Option Out:=bsel (eqN f "min") (biInts (biTwo minI) avs st) (bi6 f avs st)
noncomputable def bi4 (f:Str) (avs:List AV) (st:S):Option Out:=bsel (eqN f "range") (biInts biRange avs st) (bi5 f avs st)
noncomputable def bi3 (f:Str) (avs:List AV) (st:S):Option Out:=bsel (eqN f "bytearray") (biBa avs st) (bi4 f avs st)
noncomputable def bi2 (f:Str) (avs:List AV) (st:S):Option Out:=bsel (eqN f "bytes") (biByt avs st) (bi3 f avs st)
noncomputable def builtin (f:Str) (avs:List AV) (st:S):Option Out:=bsel (eqN f "len") (biLen avs st) (bi2 f avs st)
noncomputable def intop(op:Operator)(a b:Int)(st:S):Out:=match op with
 |.Add=>val (.int (a+b)) st
 |.Sub=>val (.int (a - b)) st
 |.Mult=>val (.int (a*b)) (st.need (a.natAbs<2 ^ 62/\b.natAbs<2 ^ 62))
 |.FloorDiv=>val (.int (a.fdiv b)) (st.need (b≠0/\b.natAbs<1073741824))
 |.Mod=>val (.int (a.fmod b)) (st.need (b≠0))
 |.BitAnd=>val (.int (Builtin.bitAnd a b)) st
 |.BitOr=>val (.int (Builtin.bitOr a b)) st
 |.LShift=>val (.int (a*2 ^ b.toNat)) (st.need (0<=b/\b<=1000/\a.natAbs<2 ^ 64))
 |.RShift=>val (.int (a.fdiv (2 ^ b.toNat))) (st.need (0<=b))
 |_=>none
noncomputable def binop(op:Operator)(a b:DV)(st:S):Out:=match a with
 |.int a=>(match b with
  |.int b=>intop op a b st
  |_=>none)
 |.bytes a=>(match b with
  |.bytes b=>(match op with
   |.Add=>val (.bytes (a++b)) (st.need (a.length+b.length<=1000000))
   |_=>none)
  |_=>none)
 |_=>none
noncomputable def fmtV(fmt:Str)(b:AV)(st:S):Out:=match b with
 |.d x=>(match x with
  |.int n=>bsel (eqN fmt "no command is of kind %d") (val .str (st.need (0<=n/\n<10 ^ 10))) none
  |.tup xs=>opb (uk DV.int? (λi=>uk DV.int? λj=>ue (i,j)) xs) λp=>bsel (eqN fmt "entry %d does not follow %d") (val .str (st.need (0<=p.1/\p.1<10 ^ 10/\0<=p.2/\p.2<10 ^ 10))) none
  |_=>none)
 |.r _=>none
noncomputable def isNone(a b:AV):Option Bool:=match b with
 |.d .none=>(match a with
  |.r _=>some false
  |.d x=>(match x with
   |.none=>some true
   |.ob o=>some o.isNone
   |.bytes _=>some false
   |.obj _ _=>some false
   |.int _=>some false
   |_=>none))
 |_=>none
noncomputable def notNone(a b:AV):Option Bool:=match b with
 |.d .none=>(match a with
  |.r _=>some true
  |.d x=>(match x with
   |.none=>some false
   |.ob o=>some o.isSome
   |.bytes _=>some true
   |.obj _ _=>some true
   |.int _=>some true
   |_=>none))
 |_=>none
noncomputable def cmpop(op:CmpOp)(a b:AV)(st:S):Option Bool:=match op with
 |.Is=>isNone a b
 |.IsNot=>notNone a b
 |.Eq=>match asD st.objs a,asD st.objs b with|some a,some b=>eqD a b|_,_=>none
 |.NotEq=>match asD st.objs a,asD st.objs b with|some a,some b=>(match eqD a b with|some r=>some (!r)|none=>none)|_,_=>none
 |.Lt=>match a,b with
  |.d (.int a),.d (.int b)=>some (ltI a b)
  |.d (.bytes a),.d (.bytes b)=>some (ltB a b)
  |_,_=>none
 |.LtE=>match a,b with|.d (.int a),.d (.int b)=>some (leI a b)|_,_=>none
 |.Gt=>match a,b with|.d (.int a),.d (.int b)=>some (ltI b a)|_,_=>none
 |.GtE=>match a,b with
  |.d (.int a),.d (.int b)=>some (leI b a)
  |.d (.bytes a),.d (.bytes b)=>some (!(ltB a b))
  |_,_=>none
 |.In=>match a,b with
  |.d (.bytes k),.r i=>match getT st.objs i with|some (.dict es)=>some (dget k es).isSome|_=>none
  |_,_=>none
 |_=>none
noncomputable def truth(st:S):AV->Option Bool
 |.d .none=>some false
 |.d (.bool b)=>some b
 |.d (.lst xs)=>some (!xs.isEmpty)
 |.r i=>match getT st.objs i with|some (.lst xs)=>some (!xs.isEmpty)|some (.tl _ xs)=>some (!xs.isEmpty)|_=>none
 |_=>none
noncomputable def atI(n:Nat)(i:Int):Nat:=(bif ltI i 0 then i+n else i).toNat
noncomputable def zcD(n:Nat)(i:Int):Prop:=-(n:Int)<=i/\i<n
noncomputable def Ty.dflt:(ty:Ty)->ty.den
 |.int=>(0:Int)
 |.byt=>([]:Byt)
 |.ob=>(none:Option Byt)
 |.pair=>((0,0):Int×Int)
 |.row=>(⟨0,0,0,0,[],[],0,none⟩:Row)
 |.op=>((0,[],[]):Op3)
 |.ops=>([]:List Op3)
 |.kv=>(([],[]):Byt×Byt)
 |.seat=>((0,0,false,[]):Int×Int×Bool×Byt)
noncomputable def idxV(o i:DV)(st:S):Out:=match o with
 |.tup xs=>(match i with
  |.int j=>(match j with
   |.ofNat n=>opb (getT xs n) λx=>val x st
   |.negSucc _=>none)
  |_=>none)
 |.lst xs=>(match i with
  |.int j=>(match j with
   |.ofNat n=>opb (getT xs n) λx=>val x st
   |.negSucc m=>(match m with
    |0=>opb xs.getLast? λx=>val x st
    |_+1=>none))
  |_=>none)
 |.tl ty xs=>opb i.int? λi=>val (ty.emb (xs.getD (atI xs.length i) ty.dflt)) (st.need (zcD xs.length i))
 |.bytes b=>opb i.int? λi=>val (.int ((b.getD i.toNat 0).toNat:Int)) (st.need (0<=i/\i<(b.length:Int)))
 |_=>none
noncomputable def dictV(o i:AV)(st:S):Out:=match o with
 |.r j=>(match i with
  |.d x=>opb x.byt? λk=>opb (getT st.objs j) λo=>(match o with
   |.dict es=>val (.bytes ((dget k es).getD [])) (st.need ((dget k es).isSome=true))
   |_=>none)
  |.r _=>none)
 |.d _=>none
noncomputable def subV(o i:AV)(st:S):Out:=match asD st.objs o with
 |some d=>(match i with
  |.d i=>idxV d i st
  |.r _=>none)
 |none=>dictV o i st
noncomputable def zbT(n:Nat)(i:Int):Nat:=(bif ltI i 0 then (bif ltI (i+n) 0 then 0 else i+n) else (bif ltI n i then (n:Int) else i)).toNat
noncomputable def sl{α:Type}(xs:List α)(l u:Option Int):List α:=
 let a:=match l with|some l=>zbT xs.length l|none=>0
 let b:=match u with|some u=>zbT xs.length u|none=>xs.length
 (xs.drop a).take (b - a)
noncomputable def bound:AV->Option (Option Int)
 |.d .none=>some none
 |.d (.int i)=>some (some i)
 |_=>none
noncomputable def sliceV(d:DV)(l u:Option Int)(st:S):Out:=match d with
 |.bytes b=>val (.bytes (sl b l u)) st
 |.lst xs=>newO (.lst (sl xs l u)) st
 |.tl ty xs=>newO (.tl ty (sl xs l u)) st
 |_=>none
noncomputable def lookD(x:Str)(env:Env'):Option DV:=opb (look x env) λa=>(match a with
 |.d d=>some d
 |.r _=>none)
noncomputable def zeS:List Ans->S->S
 |[],st=>{st with ans:=[]}
 |a::r,st=>(match a with
  |.re x d=>(match lookD x st.env with
   |some d0=>zeS r {st with env:=putE x (.d d) st.env,ans:=r,obl:=st.obl++[Sp.sameD d0 d]}
   |none=>{st with ans:=.re x d::r})
  |.reo i o=>(match getT st.objs i with
   |some o0=>zeS r {st with objs:=setT st.objs i o,ans:=r,obl:=st.obl++[Sp.sameO o0 o]}
   |none=>{st with ans:=.reo i o::r})
  |a=>{st with ans:=a::r})
inductive Task where
 |fs (es:List Expr)|ev (e:Expr)|evs (es:List Expr)|tst (e:Expr)|ex (s:Stmt)|exs (ss:List Stmt)|asg (t:Expr) (a:AV)|unp (ts:List Expr) (xs:List DV)
 |ands (xs:List Expr)|ors (xs:List Expr)|hands (c:Str) (hs:List ExceptHandler)
noncomputable def nameOf:Expr->Option Str
 |.Name x _=>some x
 |_=>none
noncomputable def strOf:Expr->Option Str
 |.Constant c _ _=>(match c with
  |.str s=>some s
  |_=>none)
 |_=>none
noncomputable def fmtOf(a:Expr):Operator->Option Str
 |.Mod=>strOf a
 |_=>none
noncomputable def zdI:Expr->Bool
 |.Call _ [] [] _=>false
 |_=>true
noncomputable def zfI:Expr->Bool
 |.Name ..=>true
 |.Call ..=>true
 |.Attribute ..=>true
 |.Subscript ..=>true
 |.Constant ..=>true
 |_=>false
noncomputable def zf7:List Expr->Bool
 |[]=>true
 |.Starred ..::_=>false
 |_::r=>zf7 r
noncomputable def callOK(apos pos:Pos)(as:List Expr):Bool:=Nat.beq apos.endLine pos.line&&Nat.blt as.length 30&&zf7 as
noncomputable def noComp:Expr->Bool
 |.ListComp ..=>false
 |.SetComp ..=>false
 |.DictComp ..=>false
 |_=>true
noncomputable def isTup:Expr->Bool
 |.Tuple ..=>true
 |_=>false
noncomputable def isLst:Expr->Bool
 |.List ..=>true
 |_=>false
noncomputable def noSwap(t e:Expr):Bool:=noComp e&&(!isLst t&&!(isTup t&&isTup e))
noncomputable def notSet:Expr->Bool
 |.Set ..=>false
 |_=>true
noncomputable def excNames:List Str:=["Corrupt", "ShortOctets", "BadOption", "BatchRefused", "BadCommand", "SessionUnknown", "SessionStale", "AppliedGap"]
noncomputable def exSub (c x:Str):Bool:=eqN c x||(eqN c "ShortOctets"&&eqN x "Corrupt")
noncomputable def zaK(o:Out)(k:AV->S->Out):Out:=opb o λp=>match p.1 with
 |.v a=>k a p.2
 |.exc m c=>some (.exc m c,p.2)
 |_=>none
noncomputable def zc8(o:Out)(k:List AV->S->Out):Out:=opb o λp=>match p.1 with
 |.vs a=>k a p.2
 |.exc m c=>some (.exc m c,p.2)
 |_=>none
noncomputable def thenB(o:Out)(k:Bool->S->Out):Out:=opb o λp=>match p.1 with
 |.b a=>k a p.2
 |.exc m c=>some (.exc m c,p.2)
 |_=>none
noncomputable def thenU(o:Out)(k:S->Out):Out:=opb o λp=>match p.1 with
 |.u=>k p.2
 |.exc m c=>some (.exc m c,p.2)
 |_=>none
noncomputable def takeB:List Ans->Option (Bool×List Ans)
 |[]=>none
 |a::r=>(match a with
  |.b v=>some (v,r)
  |_=>none)
noncomputable def takeCon:List Ans->Option (DV×List Ans)
 |[]=>none
 |a::r=>(match a with
  |.con d=>some (d,r)
  |_=>none)
noncomputable def takeComp:List Ans->Option (MObj×List Ans)
 |[]=>none
 |a::r=>(match a with
  |.comp o=>some (o,r)
  |_=>none)
noncomputable def takeLoop:List Ans->Option ((Fl×Env'×Objs)×List Ans)
 |[]=>none
 |a::r=>(match a with
  |.loop f e os=>some ((f,e,os),r)
  |_=>none)
noncomputable def ask(c:Bool)(st:S)(k:Bool->S->Out):Out:=opb (takeB st.ans) λq=>k q.1 {st with ans:=q.2,obl:=st.obl++[c=q.1]}
noncomputable def intA:AV->Option Int
 |.d x=>x.int?
 |.r _=>none
noncomputable def augop(op:Operator)(a b:AV):Option Int:=opb (intA a) λa=>opb (intA b) λb=>match op with
 |.Add=>some (a+b)
 |.BitOr=>some (Builtin.bitOr a b)
 |_=>none
noncomputable def attrGet(o:AV)(a:Str)(st:S):Out:=match o with
 |.r i=>opb (getT st.objs i) λo=>(match o with
  |.inst _ fs=>opb (look a fs) λv=>some (.v v,st)
  |_=>none)
 |.d x=>(match x with
  |.obj _ fs=>opb (look a fs) λv=>some (.v (.d v),st)
  |_=>none)
noncomputable def attrPut(i:Nat)(c:Str)(fs:List (Str×AV))(a:Str)(v:AV)(st:S):Option AV->Out
 |some _=>some (.u,{st with objs:=setT st.objs i (.inst c (putE a v fs))})
 |none=>some (.u,{st with objs:=setT st.objs i (.inst c (fs++[(a,v)])),obl:=st.obl++[Sp.attr c a]})
noncomputable def attrSet(o:AV)(a:Str)(v:AV)(st:S):Out:=match o with
 |.r i=>opb (getT st.objs i) λo=>(match o with
  |.inst c fs=>bsel (Nat.ble fs.length 100) (attrPut Sp i c fs a v st (look a fs)) none
  |_=>none)
 |.d _=>none
inductive MK where
 |own (c:Str)|lapp|bapp|bext|dget
noncomputable def MK.ctorIdx(x:MK):Nat:=MK.casesOn x (λ_=>0) 1 2 3 4
noncomputable def ownK{α:Type}(c:Str):Option α->Option MK
 |none=>some (.own c)
 |some _=>none
noncomputable def objKind(m:Str):MObj->Option MK
 |.inst c fs=>ownK c (look m fs)
 |.lst _=>bsel (eqN m "append") (some .lapp) none
 |.tl _ _=>bsel (eqN m "append") (some .lapp) none
 |.ba _=>bsel (eqN m "append") (some .bapp) (bsel (eqN m "extend") (some .bext) none)
 |.dict _=>bsel (eqN m "get") (some .dget) none
noncomputable def methKind(os:Objs)(o:AV)(m:Str):Option MK:=match o with
 |.r i=>opb (getT os i) λo=>objKind m o
 |.d x=>(match x with
  |.obj c fs=>ownK c (look m fs)
  |_=>none)
noncomputable def zbZ(k:MK)(m:Str)(st:S):S:=match k with
 |.own c=>st.need (Sp.meth c m)
 |_=>st
noncomputable def argR(o:AV)(as:List AV):Option (Nat×DV):=match o with
 |.r i=>opb (one as) λa=>(match a with
  |.d x=>some (i,x)
  |.r _=>none)
 |.d _=>none
noncomputable def methOn(k:MK)(i:Nat)(o:MObj)(x:DV)(st:S):Out:=match k with
 |.lapp=>(match o with
  |.lst xs=>val .none {st with objs:=setT st.objs i (.lst (xs++[x])),obl:=st.obl++[xs.length<1000000]}
  |.tl ty xs=>opb (ty.parse x) λy=>val .none {st with objs:=setT st.objs i (.tl ty (xs++[y])),obl:=st.obl++[xs.length<1000000]}
  |_=>none)
 |.bapp=>(match o with
  |.ba b=>opb x.int? λn=>val .none {st with objs:=setT st.objs i (.ba (b++[u8 n])),obl:=st.obl++[zc1 n/\b.length<1000000]}
  |_=>none)
 |.bext=>(match o with
  |.ba b=>opb x.byt? λc=>val .none {st with objs:=setT st.objs i (.ba (b++c)),obl:=st.obl++[b.length+c.length<1000000]}
  |_=>none)
 |.dget=>(match o with
  |.dict es=>opb x.byt? λk=>val (.ob (dget k es)) st
  |_=>none)
 |.own _=>none
noncomputable def methRun(k:MK)(o:AV)(m:Str)(as:List AV)(st:S):Out:=match k with
 |.own c=>callN Sp (.mt c m) (o::as) st
 |k=>opb (argR o as) λp=>opb (getT st.objs p.1) λb=>methOn k p.1 b p.2 st
noncomputable def isBi (x:Str):Bool:=eqN x "len"||eqN x "bytes"||eqN x "bytearray"||eqN x "range"||eqN x "min"||eqN x "max"
noncomputable def noCtx (c:Str):Bool:=!(eqN c "BadCommand")
noncomputable def raisedOf:Expr->Option Str
 |.Call f as kw _=>opb (nameOf f) λy=>(match as with
  |[]=>none
  |c::r=>opb (strOf c) λ_=>(match r with
   |[]=>(match kw with
    |[]=>some y
    |_::_=>none)
   |_::_=>none))
 |_=>none
noncomputable def raiseOf:Stmt->Option Str
 |.Raise e c _=>(match c with
  |none=>opb e raisedOf
  |some _=>none)
 |_=>none
noncomputable def handOf:ExceptHandler->Option (Str×List Stmt)
 |.ExceptHandler ty nm b _=>(match nm with
  |none=>opb ty λe=>opb (nameOf e) λx=>some (x,b)
  |some _=>none)
noncomputable def suite(ih:Task->S->Out)(c:Str)(b:List Stmt)(st:S):Out:=match b with
 |[]=>none
 |s::r=>(match raiseOf s with
  |some y=>(match r with
   |[]=>bsel (hasS y lc.2&&hasS y excNames&&(noCtx c&&!(noCtx y))) (some (.exc true y,st)) none
   |_::_=>none)
  |none=>match ih (.exs (s::r)) {st with h:=true} with
   |some (.fl f,st)=>some (.fl f,{st with h:=false})
   |_=>none)
structure CompAsg where
 (z:Str) (zp:Pos) (e:Expr) (x:Str) (it:Expr) (ifs:List Expr) (csc:Scope) (cp:Pos)
noncomputable def genOf:Comprehension->Option (Str×Expr×List Expr)
 |⟨t,it,ifs,a⟩=>(match a with
  |.ofNat n=>(match n with
   |0=>opb (nameOf t) λx=>some (x,it,ifs)
   |_+1=>none)
  |.negSucc _=>none)
noncomputable def posOf:Expr->Pos
 |.Name _ p=>p
 |_=>⟨0,0,0,0⟩
noncomputable def compOf(t e:Expr):Option CompAsg:=match e with
 |.ListComp e gs csc cp=>opb (nameOf t) λz=>(match gs with
  |[]=>none
  |g::r=>(match r with
   |[]=>opb (genOf g) λq=>some ⟨z,posOf t,e,q.1,q.2.1,q.2.2,csc,cp⟩
   |_::_=>none))
 |_=>none
noncomputable def compEnd(c:CompAsg)(st:S):Res->Out
 |.v it=>opb (zaM st.objs it) λxs=>opb (takeComp st.ans) λq=>bsel (!st.h) (some (.fl .next,{st with objs:=st.objs++[q.1],env:=putE c.z (.r st.objs.length) st.env,ans:=q.2,obl:=st.obl++[Sp.comp c.csc c.e c.x c.ifs it xs st.env st.objs q.1/\Sp.swap c.z c.csc]})) none
 |_=>none
noncomputable def asgComp(ih:Task->S->Out)(c:CompAsg)(st:S):Out:=bsel (hasS c.z lc.1&&Nat.beq c.zp.line c.cp.line&&notSet c.it) (opb (ih (.ev c.it) st) λp=>compEnd Sp c p.2 p.1) none
noncomputable def asgPlain(ih:Task->S->Out)(t e:Expr)(st:S):Out:=match noSwap t e with
 |false=>none
 |true=>zaK (ih (.ev e) st) λa st=>thenU (ih (.asg t a) st) λst=>some (.fl .next,st)
noncomputable def setItem(o i a:AV)(st:S):Out:=match o with
 |.r j=>opb (getT st.objs j) λo=>(match i with
  |.d i=>(match a with
   |.d x=>(match o with
    |.dict es=>opb i.byt? λk=>opb x.byt? λv=>some (.u,{st with objs:=setT st.objs j (.dict (dput k v es)),obl:=st.obl++[es.length<1000000]})
    |.tl ty xs=>opb i.int? λi=>opb (ty.parse x) λy=>some (.u,{st with objs:=setT st.objs j (.tl ty (xs.set i.toNat y)),obl:=st.obl++[0<=i/\i<(xs.length:Int)]})
    |_=>none)
   |.r _=>none)
  |.r _=>none)
 |.d _=>none
noncomputable def loopRes:Fl->Res
 |.exc c=>.exc true c
 |f=>.fl f
noncomputable def delItem(o i:AV)(st:S):Out:=match o with
 |.r j=>(match i with
  |.d x=>opb x.byt? λk=>opb (getT st.objs j) λo=>(match o with
   |.dict es=>some (.fl .next,{st with objs:=setT st.objs j (.dict (ddel k es)),obl:=st.obl++[(dget k es).isSome=true]})
   |_=>none)
  |.r _=>none)
 |.d _=>none
noncomputable def thenN(o:Out)(k:S->Out):Out:=opb o λp=>match p.1 with
 |.fl f=>(match f with
  |.next=>k p.2
  |f=>some (.fl f,p.2))
 |r=>some (r,p.2)
noncomputable def tryEnd(k:Str->S->Out)(st:S):Res->Out
 |.exc m c=>(match m with
  |false=>k c st
  |true=>none)
 |.fl f=>some (.fl f,st)
 |_=>none
noncomputable def exBody(ih:Task->S->Out)(s:Stmt)(st:S):Out:=match s with
 |.Expr e _=>(match noComp e with
  |false=>none
  |true=>zaK (ih (.ev e) st) λ_ st=>some (.fl .next,st))
 |.Return (some e) _=>zaK (ih (.ev e) st) λa st=>some (.fl (.ret a),st)
 |.Assign [t] e _=>(match compOf t e with
  |some c=>asgComp Sp lc ih c st
  |none=>asgPlain ih t e st)
 |.AugAssign (.Name x _) op e _=>bsel (hasS x lc.1) (opb (look x st.env) λa=>zaK (ih (.ev e) st) λb st=>opb (augop op a b) λi=>some (.fl .next,{st with env:=putE x (.d (.int i)) st.env})) none
 |.AugAssign (.Attribute o x _) op e _=>zaK (ih (.ev o) st) λo st=>zaK (attrGet o x st) λa st=>zaK (ih (.ev e) st) λb st=>opb (augop op a b) λi=>thenU (attrSet Sp o x (.d (.int i)) st) λst=>some (.fl .next,st)
 |.If c a b _=>thenB (ih (.tst c) st) λc st=>match c with|true=>ih (.exs a) st|false=>ih (.exs b) st
 |.For t it b [] _=>(match notSet it with
  |false=>none
  |true=>zaK (ih (.ev it) st) λit st=>opb (zaM st.objs it) λxs=>opb (takeLoop st.ans) λq=>bsel (!st.h) (some (loopRes q.1.1,⟨q.1.2.1,q.1.2.2,st.h,q.2,st.obl++[Sp.loop t b it xs st.env st.objs q.1.1 q.1.2.1 q.1.2.2]⟩)) none)
 |.While c _ [] _=>(match ih (.tst c) st with|some (.b false,st)=>some (.fl .next,st)|_=>none)
 |.Raise (some (.Call (.Name x _) as [] _)) none _=>(match hasS x lc.2&&hasS x excNames&&(zf7 as&&(Nat.ble as.length 100&&!st.h)) with
  |false=>none
  |true=>zc8 (ih (.evs as) st) λ_ st=>some (.exc true x,st))
 |.Try b (h::hs) [] [] _=>(match st.h with
  |true=>none
  |false=>opb (ih (.exs b) st) λp=>tryEnd (λc st=>ih (.hands c (h::hs)) st) p.2 p.1)
 |.Delete [.Subscript o i _] _=>zaK (ih (.ev o) st) λo st=>zaK (ih (.ev i) st) λi st=>delItem o i st
 |.Pass _=>some (.fl .next,st)
 |.Break _=>some (.fl .brk,st)
 |.Continue _=>some (.fl .cont,st)
 |_=>none
noncomputable def zaJ(ih:Task->S->Out):Task->S->Out
 |.ev e,st=>match e with
  |.Constant c _ _=>(match c with
   |.none=>val .none st
   |.bool b=>val (.bool b) st
   |.int i=>val (.int i) st
   |.str _=>val .str st
   |.bytes b=>(match Nat.ble b.length 1000 with|true=>val (.bytes b) st|false=>none)
   |_=>none)
  |.Name x _=>(match look x st.env with
   |some a=>some (.v a,st)
   |none=>opb (takeCon st.ans) λq=>val q.1 {st with ans:=q.2,obl:=st.obl++[Sp.con x q.1]})
  |.Attribute o a _=>match zdI o with
   |false=>none
   |true=>zaK (ih (.ev o) st) λo st=>attrGet o a st
  |.Subscript o (.Slice l u none _) _=>zaK (ih (.ev o) st) λov st=>
   zaK (match l with|some l=>ih (.ev l) st|none=>val .none st) λlv st=>
   zaK (match u with|some u=>ih (.ev u) st|none=>val .none st) λuv st=>
   opb (asD st.objs ov) λd=>opb (bound lv) λl=>opb (bound uv) λu=>sliceV d l u st
  |.Subscript o i _=>zaK (ih (.ev o) st) λo st=>zaK (ih (.ev i) st) λi st=>subV o i st
  |.BinOp a op b _=>(match fmtOf a op with
   |some fmt=>zaK (ih (.ev b) st) λb st=>fmtV fmt b st
   |none=>zaK (ih (.ev a) st) λa st=>zaK (ih (.ev b) st) λb st=>
    match a,b with
    |.d a,.d b=>binop op a b st
    |_,_=>none)
  |.UnaryOp .USub a _=>zaK (ih (.ev a) st) λa st=>match a with|.d (.int i)=>val (.int (-i)) st|_=>none
  |.BoolOp .And [a,b] _=>zaK (ih (.ev a) st) λa st=>match truth st a with
   |some c=>ask c st λc st=>match c with|true=>ih (.ev b) st|false=>some (.v a,st)
   |none=>none
  |.BoolOp .Or [a,b] _=>zaK (ih (.ev a) st) λa st=>match truth st a with
   |some c=>ask c st λc st=>match c with|true=>some (.v a,st)|false=>ih (.ev b) st
   |none=>none
  |.Compare a [op] [b] _=>match behindInMarks op b with
   |true=>none
   |false=>zaK (ih (.ev a) st) λa st=>zaK (ih (.ev b) st) λb st=>
    match cmpop op a b st with|some c=>val (.bool c) st|none=>none
  |.IfExp c a b _=>thenB (ih (.tst c) st) λc st=>match c with|true=>ih (.ev a) st|false=>ih (.ev b) st
  |.Call (.Name f _) as [] _=>match hasS f lc.2&&zf7 as with
   |false=>none
   |true=>match isBi f with
    |true=>zc8 (ih (.evs as) st) λas st=>(match builtin f as st with|some o=>o|none=>none)
    |false=>zc8 (ih (.evs as) (st.need (Sp.fn f))) λas st=>callN Sp (.fn f) as st
  |.Call (.Attribute o m apos) as [] pos=>match zdI o&&callOK apos pos as with
   |false=>none
   |true=>zaK (ih (.ev o) st) λo st=>(match methKind st.objs o m with
    |some k=>zc8 (ih (.evs as) (zbZ Sp k m st)) λas st=>methRun Sp k o m as st
    |none=>none)
  |.List es _=>match Nat.ble es.length 100 with
   |false=>none
   |true=>zc8 (ih (.evs es) st) λas st=>match datas st.objs as with|some xs=>newO (.lst xs) st|none=>none
  |.Tuple es _ _=>match Nat.ble es.length 100 with
   |false=>none
   |true=>zc8 (ih (.evs es) st) λas st=>match datas st.objs as with|some xs=>val (.tup xs) st|none=>none
  |.Dict [] [] _=>newO (.dict []) st
  |.ListComp e [⟨.Name x _,it,ifs,0⟩] csc _=>(match notSet it with
   |false=>none
   |true=>zaK (ih (.ev it) st) λit st=>opb (zaM st.objs it) λxs=>opb (takeComp st.ans) λq=>bsel (!st.h) (newO q.1 {st with ans:=q.2,obl:=st.obl++[Sp.comp csc e x ifs it xs st.env st.objs q.1]}) none)
  |.JoinedStr (a::b::r) _=>match Nat.ble (a::b::r).length 1000 with|true=>ih (.fs (a::b::r)) st|false=>none
  |_=>none
 |.fs es,st=>match es with
  |[]=>val .str st
  |.Constant (.str x) _ _::r=>(match Nat.ble x.cps.size 1000 with|true=>ih (.fs r) st|false=>none)
  |.FormattedValue e (.negSucc 0) none _::r=>zaK (ih (.ev e) st) λa st=>(match a with
   |.d (.int i)=>ih (.fs r) (st.need (i.natAbs<1000000000))
   |_=>none)
  |_=>none
 |.evs es,st=>match es with
  |[]=>some (.vs [],st)
  |e::r=>zaK (ih (.ev e) st) λa st=>zc8 (ih (.evs r) st) λas st=>some (.vs (a::as),st)
 |.tst e,st=>match e with
  |.UnaryOp .Not x _=>thenB (ih (.tst x) st) λb st=>some (.b (!b),st)
  |.BoolOp .And xs _=>ih (.ands xs) st
  |.BoolOp .Or xs _=>ih (.ors xs) st
  |.Compare a [op] [b] _=>match behindInMarks op b with
   |true=>none
   |false=>zaK (ih (.ev a) st) λa st=>zaK (ih (.ev b) st) λb st=>
    match cmpop op a b st with|some c=>ask c st λc st=>some (.b c,st)|none=>none
  |e=>match zfI e with
   |false=>none
   |true=>zaK (ih (.ev e) st) λa st=>match truth st a with|some c=>ask c st λc st=>some (.b c,st)|none=>none
 |.ands xs,st=>match xs with
  |[]=>some (.b true,st)
  |x::r=>thenB (ih (.tst x) st) λb st=>match b with|true=>ih (.ands r) st|false=>some (.b false,st)
 |.ors xs,st=>match xs with
  |[]=>some (.b false,st)
  |x::r=>thenB (ih (.tst x) st) λb st=>match b with|true=>some (.b true,st)|false=>ih (.ors r) st
 |.asg t a,st=>match t with
  |.Name x _=>(match hasS x lc.1 with
   |true=>some (.u,{st with env:=putE x a st.env})
   |false=>none)
  |.Attribute o x _=>zaK (ih (.ev o) st) λo st=>attrSet Sp o x a st
  |.Subscript o i _=>zaK (ih (.ev o) st) λo st=>zaK (ih (.ev i) st) λi st=>setItem o i a st
  |.Tuple ts _ _=>opb (asD st.objs a) λd=>(match d with
   |.tup xs=>bsel (!st.h&&Nat.beq ts.length xs.length) (ih (.unp ts xs) st) none
   |_=>none)
  |_=>none
 |.unp ts xs,st=>match ts with
  |[]=>(match xs with
   |[]=>some (.u,st)
   |_::_=>none)
  |t::ts=>(match xs with
   |[]=>none
   |v::xs=>opb (nameOf t) λx=>bsel (hasS x lc.1) (ih (.unp ts xs) {st with env:=putE x (.d v) st.env}) none)
 |.exs ss,st=>match ss with
  |[]=>some (.fl .next,st)
  |s::r=>thenN (ih (.ex s) st) λst=>ih (.exs r) st
 |.ex s,st=>exBody Sp lc ih s (zeS Sp st.ans st)
 |.hands c hs,st=>match hs with
  |[]=>none
  |h::r=>opb (handOf h) λq=>bsel (hasS q.1 lc.2&&hasS q.1 excNames&&hasS c excNames) (bsel (exSub c q.1) (suite lc ih c q.2 st) (ih (.hands c r) st)) none
noncomputable def run:Nat->Task->S->Out
 |0=>λ_ _=>none
 |n+1=>zaJ Sp lc (run n)
noncomputable def za2(i:Nat):Option Stmt:=getT Challenge.pw_no0426_01.main.body i
noncomputable def za7(i j:Nat):Option Stmt:=match getT Challenge.pw_no0426_01.main.body i with
 |some (.ClassDef _ _ _ b ..)=>getT b j
 |_=>none
noncomputable def zbM:Option Stmt->List Stmt
 |some (.FunctionDef _ _ b ..)=>b
 |_=>[]
noncomputable def zb7:Option Stmt->Scope
 |some (.FunctionDef _ _ _ _ _ _ sc ..)=>sc
 |_=>⟨.function,[],false,false,[]⟩
noncomputable def paramsOf:Option Stmt->Arguments
 |some (.FunctionDef _ a ..)=>a
 |_=>⟨[],[],none,[],[],none,[]⟩
noncomputable def locsOf(sc:Scope):List Str:=(sc.names.filter λp=>p.2==.local||p.2==.cell).map (·.1)
noncomputable def globsOf(sc:Scope):List Str:=(sc.names.filter λp=>p.2==.globalImplicit).map (·.1)
noncomputable def nmsOf(sc:Scope):Nms:=(locsOf sc,globsOf sc)
end
section
open PySem PySem.W PyProof.Rows
theorem eqN_iff{a b:Str}:eqN a b=true↔a=b:=by
 unfold eqN;constructor
 ·intro h
  split at h
  ·simpa using h
  ·cases h
 ·rintro rfl
  rw[Nat.beq_refl];simp
theorem eqN_refl(a:Str):eqN a a=true:=eqN_iff.mpr rfl
theorem zb9{α:Type}(x y:Str)(v:α)(r:List (Str×α)):look x ((y,v)::r)=if x=y then some v else look x r:=by
 show (match eqN x y with|true=>some v|false=>look x r)=_
 by_cases h:x=y
 ·subst h;rw[eqN_refl];simp
 ·rw[Bool.eq_false_iff.mpr (λe=>h (eqN_iff.mp e))];simp[h]
theorem putE_cons{α:Type}(x y:Str)(v w:α)(r:List (Str×α)):putE x v ((y,w)::r)=match eqN x y with|true=>(y,v)::r|false=>(y,w)::putE x v r:=rfl
theorem look_putE{α:Type}(x z:Str)(v:α):∀l:List (Str×α),look z (putE x v l)=if z=x then some v else look z l:=by
 intro l;induction l with
 |nil=>exact zb9 z x v []
 |cons hd r ih=>
  obtain ⟨y,w⟩:=hd;rw[putE_cons];by_cases h:x=y
  ·subst h
   rw[eqN_refl];simp only[zb9];by_cases hz:z=x <;> simp[hz]
  ·rw[Bool.eq_false_iff.mpr (λe=>h (eqN_iff.mp e))]
   simp only[zb9,ih];by_cases hz:z=y
   ·subst hz;simp[Ne.symm h]
   ·simp[hz]
theorem hasS_cons(x y:Str)(r:List Str):hasS x (y::r)=match eqN x y with|true=>true|false=>hasS x r:=rfl
theorem hasN_cons(i j:Nat)(r:List Nat):hasN i (j::r)=match Nat.beq i j with|true=>true|false=>hasN i r:=rfl
theorem okK_cons(n i:Nat)(r:List Nat):okK n (i::r)=(Nat.blt i n&&!(hasN i r)&&okK n r):=rfl
theorem placeN_cons(i j k:Nat)(r:List Nat):zcQ i (j::r) k=match Nat.beq i j with|true=>some k|false=>zcQ i r (k+1):=rfl
theorem zcZ(k a v:Byt)(r:List (Byt×Byt)):dget k ((a,v)::r)=bif decide (a=k) then some v else dget k r:=rfl
theorem zeF(k v a w:Byt)(r:List (Byt×Byt)):dput k v ((a,w)::r)=bif decide (a=k) then (a,v)::r else (a,w)::dput k v r:=rfl
theorem zhE(k a w:Byt)(r:List (Byt×Byt)):ddel k ((a,w)::r)=bif decide (a=k) then r else (a,w)::ddel k r:=rfl
theorem ltB_cons(a b:UInt8)(r s:Byt):ltB (a::r) (b::s)=match decide (a.toNat<b.toNat) with|true=>true|false=>(match decide (b.toNat<a.toNat) with|true=>false|false=>ltB r s):=rfl
theorem hasS_iff{x:Str}:∀{l:List Str},hasS x l=true↔x∈l:=by
 intro l;induction l with
 |nil=>simp[hasS]
 |cons y r ih=>
  rw[hasS_cons];by_cases h:x=y
  ·subst h;rw[eqN_refl];simp
  ·rw[Bool.eq_false_iff.mpr (λe=>h (eqN_iff.mp e))]
   simp only[ih,List.mem_cons,h,false_or]
theorem ze8{α:Type}(l:List α):∀(i:Nat),getT l i=l[i]?:=by
 induction l with
 |nil=>intro i;induction i using Nat.casesAuxOn <;> rfl
 |cons x r ih=>
  intro i;induction i using Nat.casesAuxOn with
  |zero=>rfl
  |succ n=>exact ih n
theorem zeR{α:Type}(l:List α):∀(i:Nat) (v:α),setT l i v=l.set i v:=by
 induction l with
 |nil=>intro i v;induction i using Nat.casesAuxOn <;> rfl
 |cons x r ih=>
  intro i v;induction i using Nat.casesAuxOn with
  |zero=>rfl
  |succ n=>exact congrArg (x::·) (ih n v)
inductive PV where
 |none|bool (b:Bool)|int (i:Int)|str|bytes (b:Byt)|tup (xs:List PV)|lst (xs:List PV)|obj (c:Str) (fs:List (Str×PV))|rng (a b s:Int)
noncomputable def PV.ctorIdx(x:PV):Nat:=PV.casesOn x 0 (λ_=>1) (λ_=>2) 3 (λ_=>4) (λ_=>5) (λ_=>6) (λ_ _=>7) (λ_ _ _=>8)
noncomputable def obP:Option Byt->PV
 |none=>.none
 |some b=>.bytes b
noncomputable def opP(p:Op3):PV:=.tup [.int p.1,.bytes p.2.1,.bytes p.2.2]
noncomputable def rowP(r:Row):PV:=.tup [.int r.index,.int r.client,.int r.number,.int r.kind,.bytes r.key,.bytes r.word,.int r.code,obP r.old]
noncomputable def Ty.plain:(ty:Ty)->ty.den->PV
 |.int,i=>.int i
 |.byt,b=>.bytes b
 |.ob,o=>obP o
 |.pair,(a,b)=>.tup [.int a,.int b]
 |.row,r=>rowP r
 |.op,p=>opP p
 |.ops,l=>.lst (l.map opP)
 |.kv,(a,b)=>.tup [.bytes a,.bytes b]
 |.seat,(a,b,c,d)=>.tup [.int a,.int b,.bool c,.bytes d]
mutual
noncomputable def plain:DV->PV
 |.none=>.none
 |.bool b=>.bool b
 |.int i=>.int i
 |.str=>.str
 |.bytes b=>.bytes b
 |.ob o=>obP o
 |.tup xs=>.tup (zaU xs)
 |.lst xs=>.lst (zaU xs)
 |.obj c fs=>.obj c (plainF fs)
 |.tl ty xs=>.lst (xs.map ty.plain)
 |.tt ty xs=>.tup (xs.map ty.plain)
 |.rng a b s=>.rng a b s
noncomputable def zaU:List DV->List PV
 |[]=>[]
 |x::r=>plain x::zaU r
noncomputable def plainF:List (Str×DV)->List (Str×PV)
 |[]=>[]
 |(n,x)::r=>(n,plain x)::plainF r
end
theorem zaC:∀l:List DV,zaU l=l.map plain
 |[]=>rfl
 |x::r=>congrArg (plain x::·) (zaC r)
theorem plain_emb:∀(ty:Ty) (x:ty.den),plain (ty.emb x)=ty.plain x
 |.int,x=>rfl
 |.byt,x=>rfl
 |.ob,x=>rfl
 |.pair,(a,b)=>rfl
 |.row,r=>rfl
 |.op,(a,b,c)=>rfl
 |.ops,l=>rfl
 |.kv,(a,b)=>rfl
 |.seat,(a,b,c,d)=>rfl
theorem nn{α:Type}{x:α}{P:Prop}(h:(none:Option α)=some x):P:=nomatch h
theorem nm{α:Type}{x:α}{P:Prop}(h:x∈([]:List α)):P:=(List.not_mem_nil h).elim
theorem ff{P:Prop}(h:false=true):P:=nomatch h
theorem za3{α β:Type}{a:Option α}{k:α->Option β}{o:β}(e:opb a k=some o):∃x,a=some x/\k x=some o:=by
 induction a with
 |none=>exact nn e
 |some x=>exact ⟨x,rfl,e⟩
theorem mapO_inv{α β:Type}{f:α->Option β}{x:α}{l:List α}{r:List β}(h:mapO f (x::l)=some r):∃y ys,f x=some y/\mapO f l=some ys/\r=y::ys:=by
 obtain ⟨y,e1,h⟩:=za3 h;obtain ⟨ys,e2,h⟩:=za3 h;exact ⟨y,ys,e1,e2,(Option.some.inj h).symm⟩
theorem mapO_some{α β:Type}{f:α->Option β}{l:List α}:∀{r:List β},mapO f l=some r->r.length=l.length/\∀(i:Nat) (x:α),l[i]?=some x->∃y,f x=some y/\r[i]?=some y:=by
 induction l with
 |nil=>intro r h;cases h;exact ⟨rfl,λi x h=>nn h⟩
 |cons a l ih=>
  intro r h;obtain ⟨y,ys,e1,e2,rfl⟩:=mapO_inv h;obtain ⟨h1,h2⟩:=ih e2;refine ⟨congrArg (·+1) h1,λi x hx=>?_⟩
  induction i using Nat.casesAuxOn with
  |zero=>exact ⟨y,Option.some.inj hx▸e1,rfl⟩
  |succ n=>exact h2 n x hx
theorem zdK{α:Type}{c:Bool}{a b:Option α}{o:α}(e:bsel c a b=some o):(c=true/\a=some o)\/b=some o:=by
 induction c with
 |true=>exact .inl ⟨rfl,e⟩
 |false=>exact .inr e
theorem ze0{α:Type}{c:Bool}{a:Option α}{o:α}(e:bsel c a none=some o):c=true/\a=some o:=by
 induction c with
 |true=>exact ⟨rfl,e⟩
 |false=>exact nn e
theorem zbC{α β:Type}{p:DV->Option α}{g:α->PV}{k:α->List DV->Option β}{xs:List DV}{b:β}(hp:∀x a,p x=some a->plain x=g a)(h:uk p k xs=some b):∃a r,zaU xs=g a::zaU r/\k a r=some b:=by
 induction xs using List.casesOn with
 |nil=>exact nn h
 |cons x r=>
  have h:(match p x with|some a=>k a r|none=>none)=some b:=h
  induction q:p x with
  |none=>rw[q] at h;exact nn h
  |some a=>rw[q] at h;exact ⟨a,r,congrArg (·::zaU r) (hp x a q),h⟩
theorem tk_some{β:Type}{f:List DV->Option β}{d:DV}{b:β}(h:tk f d=some b):∃xs,plain d=.tup (zaU xs)/\f xs=some b:=by
 induction d using DV.casesOn with
 |tup xs=>exact ⟨xs,rfl,h⟩
 |_=>exact nn h
theorem zhX{β:Type}{a b:β}{xs:List DV}(h:ue a xs=some b):zaU xs=[]/\b=a:=by
 induction xs using List.casesOn with
 |nil=>cases h;exact ⟨rfl,rfl⟩
 |cons x r=>cases h
theorem int?_plain(d:DV)(i:Int)(h:d.int?=some i):plain d=.int i:=by
 induction d using DV.casesOn with
 |int j=>cases h;rfl
 |_=>exact nn h
theorem byt?_plain(d:DV)(i:Byt)(h:d.byt?=some i):plain d=.bytes i:=by
 induction d using DV.casesOn with
 |bytes j=>cases h;rfl
 |_=>exact nn h
theorem ob?_plain(d:DV)(i:Option Byt)(h:d.ob?=some i):plain d=obP i:=by
 induction d using DV.casesOn with
 |ob j=>cases h;rfl
 |_=>exact nn h
theorem bool?_plain(d:DV)(i:Bool)(h:d.bool?=some i):plain d=.bool i:=by
 induction d using DV.casesOn with
 |bool j=>cases h;rfl
 |_=>exact nn h
theorem ops?_plain(d:DV)(l:List Op3)(h:d.ops?=some l):plain d=.lst (l.map opP):=by
 induction d using DV.casesOn with
 |tl ty xs=>
  induction ty with
  |op=>cases h;rfl
  |_=>exact nn h
 |_=>exact nn h
theorem plain_parse{ty:Ty}{d:DV}{x:ty.den}(h:ty.parse d=some x):plain d=ty.plain x:=by
 induction ty with
 |int=>exact int?_plain d x h
 |byt=>exact byt?_plain d x h
 |ob=>exact ob?_plain d x h
 |ops=>exact ops?_plain d x h
 |pair=>
  obtain ⟨xs,e,h⟩:=tk_some h;obtain ⟨a,r1,e1,h⟩:=zbC int?_plain h;obtain ⟨b,r2,e2,h⟩:=zbC int?_plain h;obtain ⟨e3,rfl⟩:=zhX h;rw[e,e1,e2,e3];rfl
 |kv=>
  obtain ⟨xs,e,h⟩:=tk_some h;obtain ⟨a,r1,e1,h⟩:=zbC byt?_plain h;obtain ⟨b,r2,e2,h⟩:=zbC byt?_plain h;obtain ⟨e3,rfl⟩:=zhX h;rw[e,e1,e2,e3];rfl
 |op=>
  obtain ⟨xs,e,h⟩:=tk_some h;obtain ⟨a,r1,e1,h⟩:=zbC int?_plain h;obtain ⟨b,r2,e2,h⟩:=zbC byt?_plain h;obtain ⟨c,r3,e3,h⟩:=zbC byt?_plain h;obtain ⟨e4,rfl⟩:=zhX h;rw[e,e1,e2,e3,e4];rfl
 |seat=>
  obtain ⟨xs,e,h⟩:=tk_some h;obtain ⟨a,r1,e1,h⟩:=zbC int?_plain h;obtain ⟨b,r2,e2,h⟩:=zbC int?_plain h;obtain ⟨c,r3,e3,h⟩:=zbC bool?_plain h;obtain ⟨c,r4,e4,h⟩:=zbC byt?_plain h;obtain ⟨e5,rfl⟩:=zhX h;rw[e,e1,e2,e3,e4,e5];rfl
 |row=>
  obtain ⟨xs,e,h⟩:=tk_some h;obtain ⟨a,r1,e1,h⟩:=zbC int?_plain h;obtain ⟨b,r2,e2,h⟩:=zbC int?_plain h;obtain ⟨c,r3,e3,h⟩:=zbC int?_plain h;obtain ⟨g,r4,e4,h⟩:=zbC int?_plain h;obtain ⟨k,r5,e5,h⟩:=zbC byt?_plain h;obtain ⟨w,r6,e6,h⟩:=zbC byt?_plain h;obtain ⟨i,r7,e7,h⟩:=zbC int?_plain h;obtain ⟨o,r8,e8,h⟩:=zbC ob?_plain h;obtain ⟨e9,rfl⟩:=zhX h;rw[e,e1,e2,e3,e4,e5,e6,e7,e8,e9];rfl
theorem plains_emb(ty:Ty)(xs:List ty.den):zaU (xs.map ty.emb)=xs.map ty.plain:=by
 rw[zaC,List.map_map];exact List.map_congr_left λx _=>plain_emb ty x
set_option tactic.hygienic true in
theorem plainF_look{fs:List (Str×DV)}{a:Str}{d:DV}(h:look a fs=some d):look a (plainF fs)=some (plain d):=by
 induction fs with
 |nil=>cases h
 |cons p r ih=>
  obtain ⟨n,x⟩:=p;rw[plainF,zb9];rw[zb9] at h;split at h
  ·rename_i e;cases h;rw[if_pos e]
  ·rename_i e;rw[if_neg e];exact ih h
structure Cx where
 prog:Program
 w:World
 K:Frag
 p:Program
 loose:List Str
 mean:ExcName->Option Value
 mg:Str->Option Value
 mb:Str->Option Value
 base:Heap
 XB:K.In base
 TB:Top p loose mean mg mb base
noncomputable abbrev Cx.M(c:Cx):Model:=model c.prog c.w
noncomputable def clsA(K:Frag)(c:Str):Option Addr:=match nsIn K mainGlobals c with
 |some (some (.ref a))=>some a
 |_=>none
noncomputable def zdL(K:Frag)(C:Addr)(a:Str):Bool:=
 plainGet K C a&&hasDictIn K C&&findIn K (.ref C) a==some none&&noGet K none&&takerIn K C a==some none&&plainOver K C&&findIn K (.ref C) "__setattr__"==some (some (.builtin "object.__setattr__"))
noncomputable def zfJ (o:Obj) (vs:List Value):Prop:=o.cls=.type "tuple"/\∃n,o.data=.seq vs.toArray n
noncomputable def zg9 (o:Obj) (vs:List Value):Prop:=o.cls=.type "list"/\∃n,o.data=.seq vs.toArray n
noncomputable def isRngO (o:Obj) (a b s:Int):Prop:=∃t u v,o={cls:=.type "range",dict:=none,data:=.fields #[.int a t,.int b u,.int s v],slots:=#[]}
noncomputable abbrev big:Nat:=16000000
inductive RefX(G:Addr->Obj->Prop)(I:Obj->List Value->Prop)(n:Nat)(P:List Value->Prop)(v:Value):Prop
 |mk (a:Addr) (o:Obj) (vs:List Value) (e:v=.ref a) (g:G a o) (i:I o vs) (l:n<=big) (q:P vs)
inductive ObjX(K:Frag)(G:Addr->Obj->Prop)(c:Str)(P:Addr->List DictEntry->Prop)(v:Value):Prop
 |mk (a C dx:Addr) (es:List DictEntry) (k:Nat) (e:v=.ref a) (h:clsA K c=some C) (g:G a (instObj C dx)) (d:G dx (dictOf es k)) (q:P C es)
inductive ConsX(P:Value->Prop)(Q:List Value->Prop)(vs:List Value):Prop
 |mk (v:Value) (vr:List Value) (e:vs=v::vr) (p:P v) (q:Q vr)
inductive FieldX(K:Frag)(C:Addr)(n:Str)(P:Value->Prop)(Q:List DictEntry->Prop)(es:List DictEntry):Prop
 |mk (e:DictEntry) (er:List DictEntry) (t:Nat) (h:es=e::er) (k:e.key=.str n t) (p:P e.val) (a:zdL K C n=true) (q:Q er)
section
variable(K:Frag)(G:Addr->Obj->Prop)
mutual
noncomputable def VP:PV->Value->Prop
 |.none,v=>v=.none
 |.bool b,v=>v=.bool b
 |.int i,v=>∃t,v=.int i t
 |.str,v=>∃s t,v=.str s t
 |.bytes b,v=>b.length<=big/\∃t,v=.bytes b.toArray t
 |.tup xs,v=>RefX G zfJ xs.length (λvs=>VPs xs vs) v
 |.lst xs,v=>RefX G zg9 xs.length (λvs=>VPs xs vs) v
 |.obj c fs,v=>ObjX K G c (λC es=>FP C fs es) v
 |.rng a b s,v=>∃r o,v=.ref r/\G r o/\isRngO o a b s
noncomputable def VPs:List PV->List Value->Prop
 |[],vs=>vs=[]
 |x::r,vs=>ConsX (λv=>VP x v) (λvr=>VPs r vr) vs
noncomputable def FP(C:Addr):List (Str×PV)->List DictEntry->Prop
 |[],es=>es=[]
 |(n,x)::r,es=>FieldX K C n (λv=>VP x v) (λer=>FP C r er) es
end
end
section
variable{K:Frag}{G G':Addr->Obj->Prop}
theorem RefX.mono{I:Obj->List Value->Prop}{n:Nat}{P P':List Value->Prop}{v:Value}(h:∀a o,G a o->G' a o)(hp:∀{vs},P vs->P' vs)(e:RefX G I n P v):RefX G' I n P' v:=
 e.casesOn λa o vs e g i l q=>⟨a,o,vs,e,h _ _ g,i,l,hp q⟩
mutual
theorem VP.mono(h:∀a o,G a o->G' a o):∀{x:PV} {v:Value},VP K G x v->VP K G' x v
 |.none,_,e=>e
 |.bool _,_,e=>e
 |.int _,_,e=>e
 |.str,_,e=>e
 |.bytes _,_,e=>e
 |.tup xs,v,e=>RefX.mono h (λq=>VPs.mono h q) e
 |.lst xs,v,e=>RefX.mono h (λq=>VPs.mono h q) e
 |.obj c fs,v,e=>ObjX.casesOn e λa C dx es k e1 e2 e3 e4 e5=>ObjX.mk a C dx es k e1 e2 (h _ _ e3) (h _ _ e4) (FP.mono h e5)
 |.rng a b s,v,e=>Exists.imp (λr=>Exists.imp λo q=>⟨q.1,h _ _ q.2.1,q.2.2⟩) e
theorem VPs.mono(h:∀a o,G a o->G' a o):∀{xs:List PV} {vs:List Value},VPs K G xs vs->VPs K G' xs vs
 |[],_,e=>e
 |x::r,vs,e=>ConsX.casesOn e λv vr e1 e2 e3=>ConsX.mk v vr e1 (VP.mono h e2) (VPs.mono h e3)
theorem FP.mono(h:∀a o,G a o->G' a o){C:Addr}:∀{fs:List (Str×PV)} {es:List DictEntry},FP K G C fs es->FP K G' C fs es
 |[],_,e=>e
 |(n,x)::r,es,e=>FieldX.casesOn e λa er t e1 e2 e3 e4 e5=>FieldX.mk a er t e1 e2 (VP.mono h e3) e4 (FP.mono h e5)
end
theorem VPs.nil:VPs K G [] []:=rfl
theorem VPs.c{x:PV}{xs:List PV}{v:Value}{vs:List Value}(p:VP K G x v)(q:VPs K G xs vs):VPs K G (x::xs) (v::vs):=ConsX.mk v vs rfl p q
theorem VPs.length{xs:List PV}:∀{vs:List Value},VPs K G xs vs->vs.length=xs.length:=by
 induction xs with
 |nil=>intro vs e;cases (e:vs=[]);rfl
 |cons x r ih=>
  intro vs e;obtain ⟨v,vr,rfl,_,e3⟩:=e;exact congrArg (·+1) (ih e3)
theorem VPs.get{xs:List PV}:∀{vs:List Value},VPs K G xs vs->∀{i:Nat} {x:PV},xs[i]?=some x->∃v,vs[i]?=some v/\VP K G x v:=by
 induction xs with
 |nil=>exact @λ_ _ i x h=>nn h
 |cons y r ih=>
  intro vs e i x h;obtain ⟨v,vr,rfl,e2,e3⟩:=e;induction i using Nat.casesAuxOn with
  |zero=>exact ⟨v,rfl,Option.some.inj h▸e2⟩
  |succ n=>exact ih e3 h
theorem VPs.append{xs ys:List PV}{us:List Value}:∀{vs:List Value},VPs K G xs vs->VPs K G ys us->VPs K G (xs++ys) (vs++us):=by
 induction xs with
 |nil=>intro vs e f;cases (e:vs=[]);exact f
 |cons x r ih=>
  intro vs e f;obtain ⟨v,vr,rfl,e2,e3⟩:=e;exact .c e2 (ih e3 f)
theorem VPs.take{xs:List PV}:∀{vs:List Value},VPs K G xs vs->∀n,VPs K G (xs.take n) (vs.take n):=by
 induction xs with
 |nil=>intro vs e n;cases (e:vs=[]);rw[List.take_nil,List.take_nil];exact .nil
 |cons x r ih=>
  intro vs e n;obtain ⟨v,vr,rfl,e2,e3⟩:=e;induction n using Nat.casesAuxOn with
  |zero=>exact .nil
  |succ n=>exact .c e2 (ih e3 n)
theorem VPs.drop{xs:List PV}:∀{vs:List Value},VPs K G xs vs->∀n,VPs K G (xs.drop n) (vs.drop n):=by
 induction xs with
 |nil=>intro vs e n;cases (e:vs=[]);rw[List.drop_nil,List.drop_nil];exact .nil
 |cons x r ih=>
  intro vs e n;obtain ⟨v,vr,rfl,e2,e3⟩:=e;induction n using Nat.casesAuxOn with
  |zero=>exact .c e2 e3
  |succ n=>exact ih e3 n
theorem VPs.set{xs:List PV}:∀{vs:List Value},VPs K G xs vs->∀(n:Nat) {x:PV} {v:Value},VP K G x v->VPs K G (xs.set n x) (vs.set n v):=by
 induction xs with
 |nil=>intro vs e n x v _;cases (e:vs=[]);exact .nil
 |cons y r ih=>
  intro vs e n x v h;obtain ⟨u,vr,rfl,e2,e3⟩:=e;induction n using Nat.casesAuxOn with
  |zero=>exact .c h e3
  |succ n=>exact .c e2 (ih e3 n h)
theorem FP.get{C:Addr}:∀{fs:List (Str×PV)} {es:List DictEntry},FP K G C fs es->∀{a:Str} {x:PV},look a fs=some x->∃v,getL a es=some (some v)/\VP K G x v/\zdL K C a=true:=by
 intro l;induction l with
 |nil=>exact @λ_ _ a x h=>by cases h
 |cons hd r ih=>
  obtain ⟨n,y⟩:=hd;intro es e a x h;have e:FieldX K C n (λv=>VP K G y v) (λer=>FP K G C r er) es:=e
  obtain ⟨en,er,t,rfl,ek,ev,ea,e5⟩:=e;rw[zb9] at h;unfold getL;rw[List.find?_cons];by_cases q:a=n
  ·subst q
   rw[if_pos rfl] at h;cases h
   rw[ek];simp only[Value.isStr,beq_self_eq_true];exact ⟨en.val,rfl,ev,ea⟩
  ·rw[if_neg q] at h
   have:en.key.isStr a=false:=by rw[ek];simp only[Value.isStr];exact beq_eq_false_iff_ne.mpr (Ne.symm q)
   rw[this];dsimp only;obtain ⟨v,h1,h2,h3⟩:=ih e5 h;refine ⟨v,?_,h2,h3⟩;unfold getL at h1;have hr:en.refKey=false:=by simp[DictEntry.refKey,ek]
   rw[List.any_cons,hr,Bool.false_or];exact h1
end
end
local macro_rules | `(tactic| injection $e:ident) => `(tactic| first | subst $e | (replace $e := Option.some.inj $e; subst $e) | (replace $e := Prod.mk.inj (Option.some.inj $e); obtain ⟨h1, h2⟩ := $e; subst h1; subst h2) | exact nn $e | cases ($e))
section
open PySem PySem.W PyProof.Rows
inductive TrX(h base:Heap)(e:Addr)(cls:Value)(z:Bool)(fl:Value):Prop
 |mk (oe:Obj) (vs:Array Value) (T:Addr) (oT:Obj) (ts:Array Value) (h1:h.get? e=some oe) (h2:oe.cls=cls) (h3:oe.data=.fields vs) (h4:z=true->vs[2]?=some .none) (h5:vs[1]?=some (.ref T)) (h6:base.get? T=none) (h7:T≠e)
  (h8:h.get? T=some oT) (h9:oT.data=.fields ts) (h10:ts[3]?=some fl)
structure FlX(base:Heap)(l:List Env)(e:Addr)(cls:Value)(z:Bool)(fl:Value)(h:Heap):Prop where
 h1:base.StaysIn h
 h2:base.get? e=none
 h3:h.FunFrames base l
 h4:TrX h base e cls z fl
inductive NewX(h0 h:Heap)(e:Addr)(cls:Value)(z:Bool):Prop
 |mk (h1:∀b o,h0.get? b=some o->h.get? b=some o) (h2:h0.get? e=none) (oe:Obj) (vs:Array Value) (h3:h.get? e=some oe) (h4:oe.cls=cls) (h5:oe.data=.fields vs) (h6:z=true->vs[2]?=some .none) (h7:vs[1]?=some .none)
theorem NewX.of{h0 h:Heap}{e:Addr}{cls:Value}{args:List Value}(x:Heap.MadeExcOf h0 h e cls args){z:Bool}:NewX h0 h e cls z:=by
 obtain ⟨t,he,_,_⟩:=x.there;exact ⟨x.keeps,x.new,_,_,he,rfl,rfl,λ_=>rfl,rfl⟩
theorem FlX.there{base h:Heap}{l:List Env}{e:Addr}{cls fl:Value}{z:Bool}(x:FlX base l e cls z fl h):∃oe,h.get? e=some oe/\oe.cls=cls:=by
 obtain ⟨_,_,_,oe,_,_,_,_,he,hc,_⟩:=x;exact ⟨oe,he,hc⟩
section
variable{M:Model}{A:Around}{E:Value->Shared->Prop}{s:Shared}{base:Heap}{env:Env}{outer l:List Env}{L e:Addr}{cls:Value}{z:Bool}
theorem entryX{oe:Obj}{vs:Array Value}{head:Value}{hadNext:Bool}{Q:Unit->Shared->Prop}(hfr:A.frames=some (env::outer))(hl:s.heap.FunFrames base (env::outer))(hf:env.frame=some L)
  (he:s.heap.get? e=some oe) (hkb:base.StaysIn s.heap) (hen:base.get? e=none) (hd:oe.data=.fields vs) (hsz:1<vs.size) (h2:z=true->vs[2]?=some .none)
  (h:∀h',FlX base (env::outer) e oe.cls z (rawInt L) h'->s.heap.UpToSlots h'->Q () {s with heap:=h'}) :
  wpAny M A (do let a ←frameOf env;let pl ←entryPlaceOf L hadNext;let b ←EntryCells.newEntry head a .none (rawInt L) .none pl;setField (.ref e) 1 b) Q E s:=by
 have nf:e∉(env::outer).filterMap (·.frame):=λhm=>by
  obtain ⟨_,o,ho,hn⟩:=hl.mem hm;rw[he] at ho;cases ho
  exact hn vs hd
 refine wpAny_bind (wpAny_frameOf_fun hfr hl hf λh₁ s1=>wpAny_bind (wpAny_entryPlaceOf λpl hpl=>?_))
 unfold EntryCells.newEntry newFields;refine wpAny_bind (wpAny_newObj_type ?_ (hpl.sizeOk5 _ _ _ _ _));have e1:h₁.get? e=some oe:=(s1.2.1 e nf).trans he;have k1:base.StaysIn h₁:=λb o q=>(s1.2.1 b λhm=>by rw[(hl.mem hm).1] at q;cases q).trans (hkb b o q)
 generalize hT:({cls:=.type "traceback",dict:=none,data:=.fields ([head,.ref L,.none,rawInt L,.none]++(if pl.isEmpty then List.replicate 6 Value.none else pl)).toArray}:Obj)=oT
 have hTd:oT.data=.fields ([head,.ref L,.none,rawInt L,.none]++(if pl.isEmpty then List.replicate 6 Value.none else pl)).toArray:=by rw[←hT]
 have e2:=Heap.get?_push_of_some (h:=h₁) oT e1;refine wpAny_setField e2 hd hsz (h _ ?_ ?_)
 ·have ne:h₁.objs.size≠e:=Nat.ne_of_gt (Heap.lt_size e1)
  have d3:=Obj.data_mapFields hd (·.setIfInBounds 1 (Value.ref h₁.objs.size))
  have e3:=Heap.get?_update_self (Obj.mapFields (·.setIfInBounds 1 (Value.ref h₁.objs.size))) e2 (Obj.isFreed_of_fields d3)
  have t3:=(Heap.get?_update_other (h₁.push oT) (Obj.mapFields (·.setIfInBounds 1 (Value.ref h₁.objs.size))) (Ne.symm ne)).trans (Heap.get?_push_size h₁ (Obj.isFreed_of_fields hTd))
  have keep:∀b o,b≠e->h₁.get? b=some o->((h₁.push oT).update e (Obj.mapFields (·.setIfInBounds 1 (Value.ref h₁.objs.size)))).get? b=some o:=λb o q hb=>
   (Heap.get?_update_other _ _ (Ne.symm q)).trans (Heap.get?_push_of_some _ hb)
  refine ⟨λb o q=>keep b o (λy=>by rw[y,hen] at q;cases q) (k1 b o q),hen,hl.of_keeps λb o hb hn=>?_,?_⟩
  ·obtain ⟨sl,hs⟩:=s1.2.2 b o hb
   exact ⟨_,keep b _ (λy=>by rw[y,he] at hb;cases hb;exact hn vs hd) hs,rfl⟩
  ·refine ⟨_,_,h₁.objs.size,_,_,e3,Obj.cls_mapFields _ _,d3,λq=>?_,by simp[hsz],k1.fresh,ne,t3,hTd,by simp⟩
   rw[Array.getElem?_setIfInBounds_ne (by decide)]
   exact h2 q
 ·intro b o hb hn
  obtain ⟨sl,hs⟩:=s1.2.2 b o hb;exact ⟨sl,(Heap.get?_update_other _ _ (λy=>by rw[←y,he] at hb;cases hb;exact hn vs hd)).trans (Heap.get?_push_of_some _ hs)⟩
theorem noteX_new{h0:Heap}{Q:Unit->Shared->Prop}(hfr:A.frames=some (env::outer))(hl:h0.FunFrames base (env::outer))(hf:env.frame=some L)(hkb:base.StaysIn h0)(hx:NewX h0 s.heap e cls z)
  (h:∀h',FlX base (env::outer) e cls z (rawInt L) h'->s.heap.UpToSlots h'->Q () {s with heap:=h'}):wpAny M A (noteFrame (.ref e) env) Q E s:=by
 obtain ⟨hk,hn,oe,vs,he,hc,hd,h2,h1⟩:=hx;subst hc;unfold noteFrame;simp only[hf];refine wpAny_bind (wpAny_field he hd h1 ?_);rw[if_neg (by decide)]
 refine entryX hfr (hl.of_keeps λb o hb _=>⟨o,hk b o hb,rfl⟩) hf he (λb o q=>hk b o (hkb b o q)) ?_ hd (Array.getElem?_eq_some_iff.mp h1).1 h2 h
 induction q:base.get? e with
 |none=>rfl
 |some o=>rw[hkb e o q] at hn;cases hn
theorem noteX_on{Q:Unit->Shared->Prop}(hfr:A.frames=some (env::outer))(hf:env.frame=some L)(hx:FlX base (env::outer) e cls z .none s.heap)
  (h:∀h',FlX base (env::outer) e cls z (rawInt L) h'->s.heap.UpToSlots h'->Q () {s with heap:=h'}):wpAny M A (noteFrame (.ref e) env) Q E s:=by
 obtain ⟨hkb,hen,hl,oe,vs,T,oT,ts,he,hc,hd,h2,h1,hnT,hTe,hT,hdT,h3⟩:=hx;subst hc;unfold noteFrame;simp only[hf];refine wpAny_bind (wpAny_field he hd h1 ?_);rw[if_pos (show (Value.ref T != Value.none)=true from by simp)]
 refine wpAny_bind (wpAny_field hT hdT h3 ?_);rw[if_neg (show ¬ ((Value.none==rawInt L)=true) from by simp[rawInt])]
 refine wpAny_bind (wpAny_setField hT hdT (Array.getElem?_eq_some_iff.mp h3).1 ?_);have oth:∀b,b≠T->(s.heap.update T (Obj.mapFields (·.setIfInBounds 3 Value.none))).get? b=s.heap.get? b:=λb hb=>Heap.get?_update_other _ _ (Ne.symm hb)
 have nr:∀b o,s.heap.get? b=some o->(∀vs,o.data≠.fields vs)->b≠T:=λb o hb hn q=>by
  rw[q,hT] at hb;cases hb
  exact hn ts hdT
 refine entryX hfr (hl.of_keeps λb o hb hn=>⟨o,(oth b (nr b o hb hn)).trans hb,rfl⟩) hf ((oth e (Ne.symm hTe)).trans he) (λb o q=>(oth b λy=>by rw[y,hnT] at q;cases q).trans (hkb b o q)) hen hd
  (Array.getElem?_eq_some_iff.mp h1).1 h2 λh' x1 x2=>h h' x1 λb o hb hn=>x2 b o ((oth b (nr b o hb hn)).trans hb) hn
theorem noteX_again{Q:Unit->Shared->Prop}(hf:env.frame=some L)(hx:FlX base l e cls z (rawInt L) s.heap)(h:Q () s):wpAny M A (noteFrame (.ref e) env) Q E s:=by
 obtain ⟨hkb,hen,hl,oe,vs,T,oT,ts,he,hc,hd,h2,h1,hnT,hTe,hT,hdT,h3⟩:=hx;unfold noteFrame;simp only[hf];refine wpAny_bind (wpAny_field he hd h1 ?_);rw[if_pos (show (Value.ref T != Value.none)=true from by simp)]
 refine wpAny_bind (wpAny_field hT hdT h3 ?_);rw[if_pos (show (rawInt L==rawInt L)=true from by simp)]
 exact wpAny_pure h
theorem flightX{fl:Value}{F:Option Addr}{Q:Unit->Shared->Prop}(hx:FlX base l e cls z fl s.heap)
  (h:∀h',FlX base l e cls z (F.elim .none λf=>rawInt f) h'->s.heap.UpToSlots h'->Q () {s with heap:=h'}):wpAny M A (setFlight (.ref e) F) Q E s:=by
 obtain ⟨hkb,hen,hl,oe,vs,T,oT,ts,he,hc,hd,h2,h1,hnT,hTe,hT,hdT,h3⟩:=hx;have hsz:=(Array.getElem?_eq_some_iff.mp h3).1;have oth:∀b,b≠T->(s.heap.update T (Obj.mapFields (·.setIfInBounds 3 (F.elim Value.none λf=>rawInt f)))).get? b=s.heap.get? b:=λb hb=>Heap.get?_update_other _ _ (Ne.symm hb)
 have nr:∀b o,s.heap.get? b=some o->(∀vs,o.data≠.fields vs)->b≠T:=λb o hb hn q=>by
  rw[q,hT] at hb;cases hb
  exact hn ts hdT
 unfold setFlight;refine wpAny_bind (wpAny_field he hd h1 ?_);rw[if_pos (show (Value.ref T != Value.none)=true from by simp)]
 refine wpAny_setField hT hdT hsz (h _ ⟨λb o q=>(oth b λy=>by rw[y,hnT] at q;cases q).trans (hkb b o q),hen,hl.of_keeps λb o hb hn=>⟨o,(oth b (nr b o hb hn)).trans hb,rfl⟩,?_⟩ λb o hb hn=>⟨o.slots,(oth b (nr b o hb hn)).trans hb⟩)
 exact ⟨oe,vs,T,_,_,(oth e (Ne.symm hTe)).trans he,hc,hd,h2,h1,hnT,hTe,Heap.get?_update_self _ hT (Obj.isFreed_of_fields (Obj.data_mapFields hdT _)),Obj.data_mapFields hdT _,by simp[hsz]⟩
theorem backX{fl:Value}{Q:Value->Shared->Prop}(hf:env.frame=some L)(hx:FlX base l e cls z fl s.heap)(h:∀h',FlX base l e cls z (rawInt L) h'->s.heap.UpToSlots h'->Q (.ref e) {s with heap:=h'}):
  cameBackBy M A env Q (.ref e) s:=by
 have hx':=hx;obtain ⟨hkb,hen,hl,oe,vs,T,oT,ts,he,hc,hd,h2,h1,hnT,hTe,hT,hdT,h3⟩:=hx;unfold cameBackBy;refine wpAny_bind (wpAny_field he hd h1 ?_);rw[if_neg (show ¬ ((Value.ref T==Value.none)=true) from by simp),hf]
 exact flightX (F:=some L) hx' h
end
end
section
open PySem PySem.W PyProof.Rows
noncomputable abbrev Led:=List (Addr×Obj)
noncomputable def baObj (b:Byt):Obj:={cls:=.type "bytearray",data:=.bytearray b.toArray 0}
noncomputable def Fz(base:Heap)(Z:Led)(a:Addr)(o:Obj):Prop:=(a,o)∈Z\/base.get? a=some o
theorem Fz.mono{base:Heap}{Z Z':Led}(h:∀p∈Z,p∈Z'){a:Addr}{o:Obj}(x:Fz base Z a o):Fz base Z' a o:=x.imp (h _) id
section
variable(K:Frag)(G:Addr->Obj->Prop)(ρ:List Addr)
noncomputable def VA:AV->Value->Prop
 |.d x,v=>VP K G (plain x) v
 |.r i,v=>∃a,ρ[i]?=some a/\v=.ref a
end
noncomputable def FA(K:Frag)(G:Addr->Obj->Prop)(ρ:List Addr)(C:Addr):List (Str×AV)->List DictEntry->Prop
 |[],es=>es=[]
 |(n,x)::r,es=>∃e er t,es=e::er/\e.key=.str n t/\VA K G ρ x e.val/\zdL K C n=true/\FA K G ρ C r er
noncomputable def KV:List (Byt×Byt)->List (Byt×Value)->Prop
 |[],kvs=>kvs=[]
 |(k,v)::r,kvs=>∃t kr,kvs=(k,.bytes v.toArray t)::kr/\v.length<=big/\KV r kr
inductive MInst(cx:Cx)(news:Led)(G:Addr->Obj->Prop)(ρ:List Addr)(a d:Addr)(c:Str)(fs:List (Str×AV)):Prop
 |mk (C:Addr) (es:List DictEntry) (k:Nat) (h1:clsA cx.K c=some C) (h2:G a (instObj C d)) (h3:(d,dictOf es k)∈news) (h4:FA cx.K G ρ C fs es)
inductive MSeq(cx:Cx)(news:Led)(G:Addr->Obj->Prop)(a d:Addr)(k:Nat)(ps:List PV):Prop
 |mk (e:a=d) (h1:k<=big) (vs:List Value) (n:Nat) (h2:(d,listOf vs.toArray n)∈news) (h3:VPs cx.K G ps vs)
inductive MDict(cx:Cx)(news:Led)(a d:Addr)(es:List (Byt×Byt)):Prop
 |mk (e:a=d) (h1:es.length<=big) (o:Obj) (kvs:List (Byt×Value)) (h2:(d,o)∈news) (h3:(d==sysModules)=false) (h4:o.IsDictOf (bytesKind cx.prog cx.w) kvs) (h5:KV es kvs)
noncomputable def MO(cx:Cx)(news:Led)(G:Addr->Obj->Prop)(ρ:List Addr)(a d:Addr):MObj->Prop
 |.inst c fs=>MInst cx news G ρ a d c fs
 |.lst xs=>MSeq cx news G a d xs.length (zaU xs)
 |.tl ty xs=>MSeq cx news G a d xs.length (xs.map ty.plain)
 |.dict es=>MDict cx news a d es
 |.ba b=>a=d/\b.length<=big/\(d,baObj b)∈news
inductive ObAt(cx:Cx)(news:Led)(G:Addr->Obj->Prop)(ρ μ:List Addr)(i:Nat)(o:MObj):Prop
 |mk (a d:Addr) (h1:ρ[i]?=some a) (h2:μ[i]?=some d) (h3:MO cx news G ρ a d o)
structure Rel(cx:Cx)(news Z:Led)(ρ μ cl:List Addr)(objs:Objs):Prop where
 nd:(news.map (·.1)).Nodup
 zin:∀p∈Z,p∈news
 zmu:∀p∈Z,p.1∉μ
 zcl:∀p∈Z,p.1∉cl
 mcl:∀a∈μ,a∉cl
 mnd:μ.Nodup
 lr:ρ.length=objs.length
 lm:μ.length=objs.length
 ob:∀(i:Nat) (o:MObj),objs[i]?=some o->ObAt cx news (Fz cx.base Z) ρ μ i o
structure FC where
 cx:Cx
 A₀:Around
 g₀:Heap
 outer:List Env
 L:Addr
 cn:Str
 sc:Scope
 fa:Addr
 ccd:Value
 news₀:Led
 Z₀:Led
 ρ₀:List Addr
 μ₀:List Addr
 s₀:Shared
 lev:Nat
 hk:sc.kind=.function
noncomputable abbrev FC.env(f:FC):Env:=envOfC f.cn f.sc f.L f.fa f.ccd
noncomputable abbrev FC.fs(f:FC):List Addr:=f.outer.filterMap (·.frame)
noncomputable abbrev FC.cells(f:FC):List (Str×Addr):=cellsFrom (f.L+1) f.sc.names []
noncomputable abbrev FC.ca(f:FC):List Addr:=f.cells.map (·.2)
noncomputable def LocAt(f:FC)(m:Str->Option Value)(news:Led)(x:Str)(v:Value):Prop:=
 (f.sc.names.lookup x=some .local/\m x=some v)\/(f.sc.names.lookup x=some .cell/\∃c o,f.cells.lookup x=some c/\(c,o)∈news/\o.data=.cell (some v))
structure Kept(news₀ Z₀:Led)(ρ₀ μ₀:List Addr)(news Z:Led)(ρ μ:List Addr):Prop where
 old:∀p∈news₀,p.1∉μ₀->p∈news
 zold:∀p∈Z₀,p∈Z
 znew:∀p∈Z,p∈Z₀\/p.1∉news₀.map (·.1)
 rpre:ρ₀ <+: ρ
 mpre:μ₀ <+: μ
 mnew:∀a∈μ,a∈μ₀\/a∉news₀.map (·.1)
structure CoreP(f:FC)(g:Heap)(m:Str->Option Value)(news Z:Led)(ρ μ:List Addr)(env:Env')(objs:Objs):Prop where
 turn:KtsTurn f.fs f.g₀ g
 below:Below f.A₀ f.cx.base f.outer g
 above:g.objs.size<=f.L
 rel:Rel f.cx news Z ρ μ f.ca objs
 cells:∀c∈f.ca,c∉f.news₀.map (·.1)/\∃o v,(c,o)∈news/\o.data=.cell v
 envr:∀(x:Str) (av:AV),look x env=some av->∃v,VA f.cx.K (Fz f.cx.base Z) ρ av v/\LocAt f m news x v
 kept:Kept f.news₀ f.Z₀ f.ρ₀ f.μ₀ news Z ρ μ
structure Core(f:FC)(g:Heap)(m:Str->Option Value)(news Z:Led)(ρ μ:List Addr)(env:Env')(objs:Objs)(tm:List (AV×Value))(h:Heap):Prop extends CoreP f g m news Z ρ μ env objs where
 fr:Fr g f.L h m
 nw:News g f.L h news
 tmr:∀p∈tm,VA f.cx.K (Fz f.cx.base Z) ρ p.1 p.2
inductive Cfg(f:FC)(env:Env')(objs:Objs)(tm:List (AV×Value))(s:Shared):Prop
 |mk (h:Heap) (tk:Nat) (g:Heap) (m:Str->Option Value) (news Z:Led) (ρ μ:List Addr) (e:s={f.s₀ with heap:=h,toks:=tk}) (c:Core f g m news Z ρ μ env objs tm h)
section
variable{f:FC}{g:Heap}{m:Str->Option Value}{news Z:Led}{ρ μ:List Addr}{env:Env'}{objs:Objs}{tm:List (AV×Value)}{h:Heap}
theorem Core.X(c:Core f g m news Z ρ μ env objs tm h):f.cx.K.In g:=f.cx.XB.keeps c.below.stays
theorem Core.T(c:Core f g m news Z ρ μ env objs tm h):Top f.cx.p f.cx.loose f.cx.mean f.cx.mg f.cx.mb g:=f.cx.TB.keeps c.below.stays
theorem Core.TR(c:Core f g m news Z ρ μ env objs tm h):TopRead f.cx.p f.cx.loose f.cx.mg f.cx.mb g:=topRead_of c.T
theorem Core.fz(c:Core f g m news Z ρ μ env objs tm h){a:Addr}{o:Obj}(x:Fz f.cx.base Z a o):h.get? a=some o:=
 x.elim (λq=>(c.nw _ (c.rel.zin _ q)).1) λq=>c.fr.keep _ _ (c.below.stays _ _ q)
theorem Core.obj(c:Core f g m news Z ρ μ env objs tm h){i:Nat}{o:MObj}(x:getT objs i=some o):ObAt f.cx news (Fz f.cx.base Z) ρ μ i o:=
 c.rel.ob i o (by rw[←ze8];exact x)
theorem Core.tmp(c:Core f g m news Z ρ μ env objs tm h){a:AV}{v:Value}(x:VA f.cx.K (Fz f.cx.base Z) ρ a v):Core f g m news Z ρ μ env objs ((a,v)::tm) h:=
 {c with tmr:=λp hp=>by rcases List.mem_cons.mp hp with rfl|hp;exact x;exact c.tmr p hp}
theorem Core.drop(c:Core f g m news Z ρ μ env objs tm h){tm':List (AV×Value)}(x:∀p∈tm',p∈tm):Core f g m news Z ρ μ env objs tm' h:=
 {c with tmr:=λp hp=>c.tmr p (x p hp)}
theorem VA.mono{K:Frag}{G G':Addr->Obj->Prop}(hG:∀a o,G a o->G' a o){ρ ρ':List Addr}(hρ:ρ <+: ρ'){a:AV}{v:Value}(x:VA K G ρ a v):VA K G' ρ' a v:=by
 induction a with
 |d y=>exact VP.mono hG x
 |r i=>
  obtain ⟨b,h1,h2⟩:=x;obtain ⟨t,rfl⟩:=hρ;exact ⟨b,List.getElem?_append_left (List.getElem?_eq_some_iff.mp h1).1▸h1,h2⟩
theorem FA.mono{K:Frag}{G G':Addr->Obj->Prop}(hG:∀a o,G a o->G' a o){ρ ρ':List Addr}(hρ:ρ <+: ρ'){C:Addr}:∀{fs:List (Str×AV)} {es:List DictEntry},FA K G ρ C fs es->FA K G' ρ' C fs es:=by
 intro l;induction l with
 |nil=>exact @λ_ x=>x
 |cons hd r ih=>
  obtain ⟨n,y⟩:=hd;intro es x;obtain ⟨e,er,t,h1,h2,h3,h4,h5⟩:=x;exact ⟨e,er,t,h1,h2,h3.mono hG hρ,h4,ih h5⟩
theorem FA.length{K:Frag}{G:Addr->Obj->Prop}{ρ:List Addr}{C:Addr}:∀{fs:List (Str×AV)} {es:List DictEntry},FA K G ρ C fs es->es.length=fs.length:=by
 intro l;induction l with
 |nil=>exact @λ_ x=>by cases x;rfl
 |cons hd r ih=>
  obtain ⟨n,y⟩:=hd;intro es x;obtain ⟨e,er,t,rfl,h2,h3,h4,h5⟩:=x;simp[ih h5]
theorem FA.get{K:Frag}{G:Addr->Obj->Prop}{ρ:List Addr}{C:Addr}:∀{fs:List (Str×AV)} {es:List DictEntry},FA K G ρ C fs es->∀{a:Str} {x:AV},look a fs=some x ->
  ∃v,getL a es=some (some v)/\VA K G ρ x v/\zdL K C a=true:=by
 intro l;induction l with
 |nil=>exact @λ_ _ a x h=>by injection h
 |cons hd r ih=>
  obtain ⟨n,y⟩:=hd;intro es e a x h;obtain ⟨en,er,t,rfl,ek,ev,ea,e5⟩:=e;rw[zb9] at h;unfold getL;rw[List.find?_cons];by_cases q:a=n
  ·subst q
   rw[if_pos rfl] at h;injection h;rw[ek];simp only[Value.isStr,beq_self_eq_true];exact ⟨en.val,rfl,ev,ea⟩
  ·rw[if_neg q] at h
   have:en.key.isStr a=false:=by rw[ek];simp only[Value.isStr];exact beq_eq_false_iff_ne.mpr (Ne.symm q)
   rw[this];dsimp only;obtain ⟨v,h1,h2,h3⟩:=ih e5 h;refine ⟨v,?_,h2,h3⟩;unfold getL at h1;have hr:en.refKey=false:=by simp[DictEntry.refKey,ek]
   rw[List.any_cons,hr,Bool.false_or];exact h1
theorem FA.put{K:Frag}{G:Addr->Obj->Prop}{ρ:List Addr}{C:Addr}{a:Str}{x:AV}{v:Value}(hx:VA K G ρ x v)(hsh:Int)(t:Tok)(hok:zdL K C a=true):∀{fs:List (Str×AV)} {es:List DictEntry},
  FA K G ρ C fs es->FA K G ρ C (putE a x fs) (putL a hsh (.str a t) v es):=by
 intro l;induction l with
 |nil=>exact @λes e=>by injection e;exact ⟨_,[],t,rfl,rfl,hx,hok,rfl⟩
 |cons hd r ih=>
  obtain ⟨n,y⟩:=hd;intro es e;obtain ⟨en,er,u,rfl,ek,ev,ea,e5⟩:=e;rw[putE_cons];unfold putL;by_cases q:a=n
  ·subst q
   rw[eqN_refl,ek];simp only[Value.isStr,beq_self_eq_true,if_true];exact ⟨_,er,u,rfl,by first|exact ek|rfl,hx,ea,e5⟩
  ·rw[Bool.eq_false_iff.mpr (λz=>q (eqN_iff.mp z))]
   have:en.key.isStr a=false:=by rw[ek];simp only[Value.isStr];exact beq_eq_false_iff_ne.mpr (Ne.symm q)
   rw[this];simp only[Bool.false_eq_true,if_false];exact ⟨en,_,u,rfl,ek,ev,ea,ih e5⟩
theorem FA.getSome{K:Frag}{G:Addr->Obj->Prop}{ρ:List Addr}{C:Addr}{a:Str}:∀{fs:List (Str×AV)} {es:List DictEntry},FA K G ρ C fs es->(getL a es).isSome=true:=by
 intro l;induction l with
 |nil=>exact @λes e=>by injection e;rfl
 |cons hd r ih=>
  obtain ⟨n,y⟩:=hd;intro es e;obtain ⟨en,er,t,rfl,ek,ev,ea,e5⟩:=e;have ih:=ih e5;unfold getL at ih ⊢;rw[List.find?_cons];induction q:en.key.isStr a with
  |true=>rfl
  |false=>
   have hr:en.refKey=false:=by simp[DictEntry.refKey,ek]
   dsimp only;rw[List.any_cons,hr,Bool.false_or];exact ih
set_option tactic.hygienic true in
theorem FA.getNone{K:Frag}{G:Addr->Obj->Prop}{ρ:List Addr}{C:Addr}{a:Str}:∀{fs:List (Str×AV)} {es:List DictEntry},FA K G ρ C fs es->look a fs=none->getL a es=some none:=by
 intro l;induction l with
 |nil=>exact @λes e _=>by injection e;rfl
 |cons hd r ih=>
  obtain ⟨n,y⟩:=hd;intro es e h;obtain ⟨en,er,t,rfl,ek,ev,ea,e5⟩:=e;rw[zb9] at h;split at h
  ·injection h
  rename_i q
  have ih:=ih e5 h;unfold getL at ih ⊢;have:en.key.isStr a=false:=by rw[ek];simp only[Value.isStr];exact beq_eq_false_iff_ne.mpr (Ne.symm q)
  have hr:en.refKey=false:=by simp[DictEntry.refKey,ek]
  rw[List.find?_cons,this];dsimp only;rw[List.any_cons,hr,Bool.false_or];exact ih
theorem MO.mono{cx:Cx}{news news':Led}{G G':Addr->Obj->Prop}(hG:∀a o,G a o->G' a o){ρ ρ':List Addr}(hρ:ρ <+: ρ'){a d:Addr}(hn:∀o,(d,o)∈news->(d,o)∈news'){o:MObj}(x:MO cx news G ρ a d o):MO cx news' G' ρ' a d o:=by
 induction o with
 |inst c fs=>obtain ⟨C,es,k,h1,h2,h3,h4⟩:=x;exact ⟨C,es,k,h1,hG _ _ h2,hn _ h3,h4.mono hG hρ⟩
 |lst xs=>obtain ⟨h1,l,vs,n,h2,h3⟩:=x;exact ⟨h1,l,vs,n,hn _ h2,h3.mono hG⟩
 |tl ty xs=>obtain ⟨h1,l,vs,n,h2,h3⟩:=x;exact ⟨h1,l,vs,n,hn _ h2,h3.mono hG⟩
 |dict es=>obtain ⟨h1,l,o,kvs,h2,h3,h4,h5⟩:=x;exact ⟨h1,l,o,kvs,hn _ h2,h3,h4,h5⟩
 |ba b=>exact ⟨x.1,x.2.1,hn _ x.2.2⟩
theorem MO.mem{cx:Cx}{news:Led}{G:Addr->Obj->Prop}{ρ:List Addr}{a d:Addr}{o:MObj}(x:MO cx news G ρ a d o):∃ob,(d,ob)∈news:=by
 induction o with
 |inst c fs=>obtain ⟨C,es,k,h1,h2,h3,h4⟩:=x;exact ⟨_,h3⟩
 |lst xs=>obtain ⟨h1,l,vs,n,h2,h3⟩:=x;exact ⟨_,h2⟩
 |tl ty xs=>obtain ⟨h1,l,vs,n,h2,h3⟩:=x;exact ⟨_,h2⟩
 |dict es=>obtain ⟨h1,l,o,kvs,h2,h3,h4,h5⟩:=x;exact ⟨_,h2⟩
 |ba b=>exact ⟨_,x.2.2⟩
set_option tactic.hygienic true in
theorem LocAt.mono{f:FC}{m:Str->Option Value}{news news':Led}(hn:∀c∈f.ca,∀o,(c,o)∈news->(c,o)∈news'){x:Str}{v:Value}(l:LocAt f m news x v):LocAt f m news' x v:=by
 rcases l with l|⟨h1,c,o,h2,h3,h4⟩
 ·exact .inl l
 ·refine .inr ⟨h1,c,o,h2,hn c ?_ o h3,h4⟩
  exact List.mem_map.mpr ⟨(x,c),by
   clear h1 h3;revert h2;generalize f.cells=l;induction l with
   |nil=>intro h;injection h
   |cons p r ih=>
    intro h;rw[List.lookup_cons] at h;split at h
    ·rename_i q;injection h;rw[beq_iff_eq.mp q];exact .head _
    ·exact .tail _ (ih h),rfl⟩
theorem Core.freezeNew(c:Core f g m news Z ρ μ env objs tm h){h':Heap}{a:Addr}{o:Obj}(F:Fr g f.L h' m)(N:News g f.L h' ((a,o)::news))(ha:∀p∈news,p.1≠a):
  Core f g m ((a,o)::news) ((a,o)::Z) ρ μ env objs tm h':=by
 have hG:∀b x,Fz f.cx.base Z b x->Fz f.cx.base ((a,o)::Z) b x:=λb x q=>q.mono λp hp=>.tail _ hp
 have hk:a∉f.news₀.map (·.1)\/True:=.inr trivial
 refine {turn:=c.turn,below:=c.below,above:=c.above,fr:=F,nw:=N,rel:=?_,cells:=?_,envr:=?_,tmr:=?_,kept:=?_}
 ·refine ⟨?_,?_,?_,?_,c.rel.mcl,c.rel.mnd,c.rel.lr,c.rel.lm,λi x hx=>?_⟩
  ·rw[List.map_cons,List.nodup_cons]
   exact ⟨λq=>by obtain ⟨p,hp,e⟩:=List.mem_map.mp q;exact ha p hp e,c.rel.nd⟩
  ·intro p hp
   rcases List.mem_cons.mp hp with rfl|hp
   ·exact .head _
   ·exact .tail _ (c.rel.zin p hp)
  ·intro p hp
   rcases List.mem_cons.mp hp with rfl|hp
   ·intro q
    obtain ⟨i,hi⟩:=List.getElem?_of_mem q;have hl:=(List.getElem?_eq_some_iff.mp hi).1;rw[c.rel.lm] at hl;obtain ⟨b,d,h1,h2,h3⟩:=c.rel.ob i objs[i] (by simp[hl])
    rw[hi] at h2;injection h2;obtain ⟨ob,hob⟩:=h3.mem;exact ha _ hob rfl
   ·exact c.rel.zmu p hp
  ·intro p hp
   rcases List.mem_cons.mp hp with rfl|hp
   ·intro q
    obtain ⟨_,ob,v,h1,_⟩:=c.cells _ q;exact ha _ h1 rfl
   ·exact c.rel.zcl p hp
  ·obtain ⟨b,d,h1,h2,h3⟩:=c.rel.ob i x hx
   exact ⟨b,d,h1,h2,h3.mono hG (List.prefix_refl _) λ_ q=>.tail _ q⟩
 ·intro b hb
  obtain ⟨h1,ob,v,h2,h3⟩:=c.cells b hb;exact ⟨h1,ob,v,.tail _ h2,h3⟩
 ·intro x av hx
  obtain ⟨v,h1,h2⟩:=c.envr x av hx;exact ⟨v,h1.mono hG (List.prefix_refl _),h2.mono λ_ _ _ q=>.tail _ q⟩
 ·refine ⟨λp hp q=>.tail _ (c.kept.old p hp q),λp hp=>.tail _ (c.kept.zold p hp),λp hp=>?_,c.kept.rpre,c.kept.mpre,c.kept.mnew⟩
  rcases List.mem_cons.mp hp with rfl|hp
  ·refine .inr λq=>?_
   obtain ⟨p,hp,e⟩:=List.mem_map.mp q;by_cases hm:p.1∈f.μ₀
   ·obtain ⟨t,ht⟩:=c.kept.mpre
    have:p.1∈μ:=by rw[←ht];exact List.mem_append_left _ hm
    obtain ⟨i,hi⟩:=List.getElem?_of_mem this;have hl:=(List.getElem?_eq_some_iff.mp hi).1;rw[c.rel.lm] at hl;obtain ⟨b,d,h1,h2,h3⟩:=c.rel.ob i objs[i] (by simp[hl])
    rw[hi] at h2;injection h2;obtain ⟨ob,hob⟩:=h3.mem;exact ha _ hob e
   ·exact ha _ (c.kept.old p hp hm) e
  ·exact c.kept.znew p hp
 ·exact λp hp=>(c.tmr p hp).mono hG (List.prefix_refl _)
end
end
section
open PySem PySem.W PyProof.Rows
theorem nodup_inj{α:Type}{l:List α}(h:l.Nodup){i j:Nat}(hi:i<l.length)(hj:j<l.length)(e:l[i]=l[j]):i=j:=by
 rcases Nat.lt_trichotomy i j with q|q|q
 ·exact absurd e (List.pairwise_iff_getElem.mp h i j hi hj q)
 ·exact q
 ·exact absurd e.symm (List.pairwise_iff_getElem.mp h j i hj hi q)
noncomputable def zbQ(d:Addr)(o':Obj):Led->Led
 |[]=>[]
 |p::r=>if p.1=d then (d,o')::r else p::zbQ d o' r
theorem zcR(d:Addr)(o':Obj)(p:Addr×Obj)(r:Led):zbQ d o' (p::r)=if p.1=d then (d,o')::r else p::zbQ d o' r:=rfl
theorem zgI(d:Addr)(o':Obj):∀l:Led,(zbQ d o' l).map (·.1)=l.map (·.1):=by
 intro l;induction l with
 |nil=>exact rfl
 |cons p r ih=>
  rw[zcR];by_cases h:p.1=d
  ·rw[if_pos h];simp[h]
  ·rw[if_neg h];simp[ih]
theorem zaO{d:Addr}{o':Obj}{l:Led}:∀{p:Addr×Obj},p∈l->p.1≠d->p∈zbQ d o' l:=by
 induction l with
 |nil=>intro p h;injection h
 |cons q r ih=>
  intro p h n;rw[zcR];rcases List.mem_cons.mp h with e|h
  ·subst e;rw[if_neg n];exact .head _
  ·by_cases z:q.1=d
   ·rw[if_pos z];exact .tail _ h
   ·rw[if_neg z];exact .tail _ (ih h n)
theorem zbD{d:Addr}{o o':Obj}{l:Led}:(d,o)∈l->(d,o')∈zbQ d o' l:=by
 induction l with
 |nil=>intro h;injection h
 |cons q r ih=>
  intro h;rw[zcR];by_cases z:q.1=d
  ·rw[if_pos z];exact .head _
  ·rw[if_neg z]
   rcases List.mem_cons.mp h with e|h
   ·exact absurd (by rw[←e]) z
   ·exact .tail _ (ih h)
theorem zhW{d:Addr}{o o':Obj}{l:Led}:(l.map (·.1)).Nodup->(d,o)∈l->Upd d o o' l (zbQ d o' l):=by
 induction l with
 |nil=>intro n h;injection h
 |cons q r ih=>
  intro n h;rw[List.map_cons,List.nodup_cons] at n;rw[zcR];rcases List.mem_cons.mp h with e|h
  ·subst e
   rw[if_pos rfl];exact .head λp hp e=>n.1 (List.mem_map.mpr ⟨p,hp,e⟩)
  ·have z:q.1≠d:=λe=>n.1 (List.mem_map.mpr ⟨_,h,e.symm⟩)
   rw[if_neg z];exact .tail z (ih n.2 h)
theorem zgH{d:Addr}{o:Obj}{l:Led}:(l.map (·.1)).Nodup->(d,o)∈l->UpdF d o l λo'=>zbQ d o' l:=by
 induction l with
 |nil=>intro n h;injection h
 |cons q r ih=>
  intro n h;rw[List.map_cons,List.nodup_cons] at n;rcases List.mem_cons.mp h with e|h
  ·subst e
   have e:(λo'=>zbQ d o' ((d,o)::r))=λo'=>(d,o')::r:=by funext o';rw[zcR,if_pos rfl]
   rw[e];exact .head λp hp e=>n.1 (List.mem_map.mpr ⟨p,hp,e⟩)
  ·have z:q.1≠d:=λe=>n.1 (List.mem_map.mpr ⟨_,h,e.symm⟩)
   have e:(λo'=>zbQ d o' (q::r))=λo'=>q::zbQ d o' r:=by funext o';rw[zcR,if_neg z]
   rw[e];exact .tail z (ih n.2 h)
section
variable{f:FC}{g:Heap}{m:Str->Option Value}{news Z:Led}{ρ μ:List Addr}{env:Env'}{objs:Objs}{tm:List (AV×Value)}{h h':Heap}
theorem Core.step(c:Core f g m news Z ρ μ env objs tm h)(F:Fr g f.L h' m)(N:News g f.L h' news):Core f g m news Z ρ μ env objs tm h':={c with fr:=F,nw:=N}
theorem Core.mu_key(c:Core f g m news Z ρ μ env objs tm h){a:Addr}(q:a∈μ):a∈news.map (·.1):=by
 obtain ⟨i,hi⟩:=List.getElem?_of_mem q;have hl:=(List.getElem?_eq_some_iff.mp hi).1;rw[c.rel.lm] at hl;obtain ⟨b,d,h1,h2,h3⟩:=c.rel.ob i objs[i] (by simp[hl])
 rw[hi] at h2;injection h2;obtain ⟨ob,hob⟩:=h3.mem;exact List.mem_map.mpr ⟨_,hob,rfl⟩
theorem Core.old_key(c:Core f g m news Z ρ μ env objs tm h){a:Addr}(q:a∈f.news₀.map (·.1)):a∈news.map (·.1):=by
 obtain ⟨p,hp,rfl⟩:=List.mem_map.mp q;by_cases hm:p.1∈f.μ₀
 ·obtain ⟨t,ht⟩:=c.kept.mpre
  exact c.mu_key (by rw[←ht];exact List.mem_append_left _ hm)
 ·exact List.mem_map.mpr ⟨p,c.kept.old p hp hm,rfl⟩
theorem Core.stLocal(c:Core f g m news Z ρ μ env objs tm h){x:Str}{a:AV}{v:Value}(hx:f.sc.names.lookup x=some .local)(hv:VA f.cx.K (Fz f.cx.base Z) ρ a v)
  (F:Fr g f.L h' (λy=>if y=x then some v else m y)) (N:News g f.L h' news):Core f g (λy=>if y=x then some v else m y) news Z ρ μ (putE x a env) objs tm h':=
 {turn:=c.turn,below:=c.below,above:=c.above,fr:=F,nw:=N,rel:=c.rel,cells:=c.cells,tmr:=c.tmr,kept:=c.kept,envr:=λy av hy=>by
   rw[look_putE] at hy;by_cases q:y=x
   ·subst q
    rw[if_pos rfl] at hy;injection hy;exact ⟨v,hv,.inl ⟨hx,by simp⟩⟩
   ·rw[if_neg q] at hy
    obtain ⟨u,h1,h2⟩:=c.envr y av hy;refine ⟨u,h1,?_⟩;rcases h2 with ⟨h2,h3⟩|h2
    ·exact .inl ⟨h2,by simp only[if_neg q];exact h3⟩
    ·exact .inr h2}
theorem Core.turnObj(c:Core f g m news Z ρ μ env objs tm h){i:Nat}{o':MObj}{a d:Addr}{ob ob':Obj}(ha:ρ[i]?=some a)(hd:μ[i]?=some d)(hm:(d,ob)∈news)
  (F:Fr g f.L h' m) (N:News g f.L h' (zbQ d ob' news)) (hi:i<objs.length) (hn:MO f.cx (zbQ d ob' news) (Fz f.cx.base Z) ρ a d o') :
  Core f g m (zbQ d ob' news) Z ρ μ env (setT objs i o') tm h':=by
 have hdm:d∈μ:=List.mem_of_getElem? hd;refine {turn:=c.turn,below:=c.below,above:=c.above,fr:=F,nw:=N,rel:=?_,cells:=?_,envr:=?_,tmr:=c.tmr,kept:=?_}
 ·refine ⟨by rw[zgI];exact c.rel.nd,λp hp=>zaO (c.rel.zin p hp) λe=>c.rel.zmu p hp (e▸hdm),c.rel.zmu,c.rel.zcl,c.rel.mcl,c.rel.mnd,by rw[zeR,List.length_set];exact c.rel.lr,by rw[zeR,List.length_set];exact c.rel.lm,λj x hx=>?_⟩
  rw[zeR] at hx;by_cases q:j=i
  ·subst q
   rw[List.getElem?_set_self hi] at hx;injection hx;exact ⟨a,d,ha,hd,hn⟩
  ·rw[List.getElem?_set_ne (Ne.symm q)] at hx
   obtain ⟨b,e,h1,h2,h3⟩:=c.rel.ob j x hx;refine ⟨b,e,h1,h2,h3.mono (λ_ _ y=>y) (List.prefix_refl _) λo ho=>zaO ho λz=>q ?_⟩
   obtain ⟨l1,e1⟩:=List.getElem?_eq_some_iff.mp h2;obtain ⟨l2,e2⟩:=List.getElem?_eq_some_iff.mp hd;exact nodup_inj c.rel.mnd l1 l2 (e1.trans (z.trans e2.symm))
 ·intro b hb
  obtain ⟨h1,o,v,h2,h3⟩:=c.cells b hb;exact ⟨h1,o,v,zaO h2 λe=>c.rel.mcl d hdm (by have:b=d:=e;exact this▸hb),h3⟩
 ·intro x av hx
  obtain ⟨v,h1,h2⟩:=c.envr x av hx;exact ⟨v,h1,h2.mono λb hb o ho=>zaO ho λe=>c.rel.mcl d hdm (by have:b=d:=e;exact this▸hb)⟩
 ·refine ⟨λp hp q=>zaO (c.kept.old p hp q) λe=>?_,c.kept.zold,c.kept.znew,c.kept.rpre,c.kept.mpre,c.kept.mnew⟩
  rcases c.kept.mnew d hdm with z|z
  ·exact q (e▸z)
  ·exact z (List.mem_map.mpr ⟨p,hp,e⟩)
theorem Core.stCell(c:Core f g m news Z ρ μ env objs tm h){x:Str}{a:AV}{v:Value}{cc:Addr}{ob ob':Obj}(hx:f.sc.names.lookup x=some .cell)(hc:f.cells.lookup x=some cc)(hinj:∀y,f.cells.lookup y=some cc->y=x)
  (hin:cc∈f.ca) (hm:(cc,ob)∈news) (hob:ob'.data=.cell (some v)) (hv:VA f.cx.K (Fz f.cx.base Z) ρ a v)
  (F:Fr g f.L h' m) (N:News g f.L h' (zbQ cc ob' news)):Core f g m (zbQ cc ob' news) Z ρ μ (putE x a env) objs tm h':=by
 refine {turn:=c.turn,below:=c.below,above:=c.above,fr:=F,nw:=N,rel:=?_,cells:=?_,envr:=?_,tmr:=c.tmr,kept:=?_}
 ·refine ⟨by rw[zgI];exact c.rel.nd,λp hp=>zaO (c.rel.zin p hp) λe=>c.rel.zcl p hp (e▸hin),c.rel.zmu,c.rel.zcl,c.rel.mcl,c.rel.mnd,c.rel.lr,c.rel.lm,λj o ho=>?_⟩
  obtain ⟨b,e,h1,h2,h3⟩:=c.rel.ob j o ho;exact ⟨b,e,h1,h2,h3.mono (λ_ _ y=>y) (List.prefix_refl _) λo ho=>zaO ho λz=>c.rel.mcl e (List.mem_of_getElem? h2) (by have:e=cc:=z;exact this▸hin)⟩
 ·intro b hb
  obtain ⟨h1,o,u,h2,h3⟩:=c.cells b hb;by_cases q:b=cc
  ·subst q;exact ⟨h1,ob',some v,zbD hm,hob⟩
  ·exact ⟨h1,o,u,zaO h2 q,h3⟩
 ·intro y av hy
  rw[look_putE] at hy;by_cases q:y=x
  ·subst q
   rw[if_pos rfl] at hy;injection hy;exact ⟨v,hv,.inr ⟨hx,cc,ob',hc,zbD hm,hob⟩⟩
  ·rw[if_neg q] at hy
   obtain ⟨u,h1,h2⟩:=c.envr y av hy;refine ⟨u,h1,?_⟩;rcases h2 with h2|⟨k1,c2,o2,k2,k3,k4⟩
   ·exact .inl h2
   ·exact .inr ⟨k1,c2,o2,k2,zaO k3 λz=>q (hinj y (by have:c2=cc:=z;exact this▸k2)),k4⟩
 ·refine ⟨λp hp q=>zaO (c.kept.old p hp q) λe=>?_,c.kept.zold,c.kept.znew,c.kept.rpre,c.kept.mpre,c.kept.mnew⟩
  exact (c.cells cc hin).1 (List.mem_map.mpr ⟨p,hp,e⟩)
theorem Core.newObj(c:Core f g m news Z ρ μ env objs tm h){news' Z':Led}{a d:Addr}{o:MObj}(F:Fr g f.L h' m)(N:News g f.L h' news')(hnd:(news'.map (·.1)).Nodup)(hsub:∀p∈news,p∈news')
  (hz:∀p∈Z',p∈Z\/(p∈news'/\p.1∉news.map (·.1)/\p.1≠d)) (hzz:∀p∈Z,p∈Z') (hd:d∉news.map (·.1)) (hn:MO f.cx news' (Fz f.cx.base Z') (ρ++[a]) a d o) :
  Core f g m news' Z' (ρ++[a]) (μ++[d]) env (objs++[o]) tm h':=by
 have hG:∀b x,Fz f.cx.base Z b x->Fz f.cx.base Z' b x:=λb x q=>q.mono hzz
 have pre:ρ <+: ρ++[a]:=List.prefix_append _ _;refine {turn:=c.turn,below:=c.below,above:=c.above,fr:=F,nw:=N,rel:=?_,cells:=?_,envr:=?_,tmr:=?_,kept:=?_}
 ·refine ⟨hnd,λp hp=>(hz p hp).elim (λq=>hsub p (c.rel.zin p q)) λq=>q.1,λp hp q=>?_,λp hp q=>?_,λb hb q=>?_,?_,by simp[c.rel.lr],by simp[c.rel.lm],λi x hx=>?_⟩
  ·rcases hz p hp with z|⟨z1,z2,z3⟩
   ·rcases List.mem_append.mp q with q|q
    ·exact c.rel.zmu p z q
    ·exact hd (List.mem_singleton.mp q▸List.mem_map.mpr ⟨p,c.rel.zin p z,rfl⟩)
   ·rcases List.mem_append.mp q with q|q
    ·exact z2 (c.mu_key q)
    ·exact z3 (List.mem_singleton.mp q)
  ·rcases hz p hp with z|⟨z1,z2,z3⟩
   ·exact c.rel.zcl p z q
   ·obtain ⟨_,ob,v,h1,_⟩:=c.cells _ q
    exact z2 (List.mem_map.mpr ⟨_,h1,rfl⟩)
  ·rcases List.mem_append.mp hb with hb|hb
   ·exact c.rel.mcl b hb q
   ·obtain ⟨_,ob,v,h1,_⟩:=c.cells _ q
    exact hd (List.mem_singleton.mp hb▸List.mem_map.mpr ⟨_,h1,rfl⟩)
  ·rw[List.nodup_append]
   refine ⟨c.rel.mnd,by simp,λx hx y hy e=>?_⟩
   rw[List.mem_singleton.mp hy] at e;exact hd (e▸c.mu_key hx)
  ·by_cases q:i<objs.length
   ·rw[List.getElem?_append_left q] at hx
    obtain ⟨b,e,h1,h2,h3⟩:=c.rel.ob i x hx;exact ⟨b,e,by rw[List.getElem?_append_left (by rw[c.rel.lr];exact q)];exact h1,by rw[List.getElem?_append_left (by rw[c.rel.lm];exact q)];exact h2,h3.mono hG pre λo ho=>hsub _ ho⟩
   ·have e:i=objs.length:=by
     have:=(List.getElem?_eq_some_iff.mp hx).1;simp at this;lia
    subst e;rw[List.getElem?_append_right (Nat.le_refl _)] at hx;simp at hx;subst hx;exact ⟨a,d,by rw[List.getElem?_append_right (by rw[c.rel.lr];exact Nat.le_refl _)];simp[c.rel.lr],by rw[List.getElem?_append_right (by rw[c.rel.lm];exact Nat.le_refl _)];simp[c.rel.lm],hn⟩
 ·intro b hb
  obtain ⟨h1,ob,v,h2,h3⟩:=c.cells b hb;exact ⟨h1,ob,v,hsub _ h2,h3⟩
 ·intro x av hx
  obtain ⟨v,h1,h2⟩:=c.envr x av hx;exact ⟨v,h1.mono hG pre,h2.mono λ_ _ _ q=>hsub _ q⟩
 ·refine ⟨λp hp q=>hsub _ (c.kept.old p hp q),λp hp=>hzz _ (c.kept.zold p hp),λp hp=>?_,c.kept.rpre.trans pre,c.kept.mpre.trans (List.prefix_append _ _),λb hb=>?_⟩
  ·rcases hz p hp with z|⟨z1,z2,z3⟩
   ·exact c.kept.znew p z
   ·exact .inr λq=>z2 (c.old_key q)
  ·rcases List.mem_append.mp hb with hb|hb
   ·exact c.kept.mnew b hb
   ·exact .inr λq=>hd (List.mem_singleton.mp hb▸c.old_key q)
 ·exact λp hp=>(c.tmr p hp).mono hG pre
end
end
section
open PySem PySem.W PyProof.Rows
noncomputable abbrev FC.M(f:FC):Model:=model f.cx.prog f.cx.w
structure AOK(f:FC)(h:Bool)(A:Around):Prop where
 frames:A.frames=some (f.env::f.outer)
 room:A.depth+f.lev<=recursionLimit
 units:A.units+8*f.lev+100<cLine
 hand:h=false->A.handled=none
 guards:A.guards=some []
inductive Fly(f:FC)(g:Heap)(m:Str->Option Value)(news:Led)(e:Addr)(c:Str)(cls fl:Value)(h:Heap):Prop
 |mk (B:Heap) (h1:f.cx.base.StaysIn B) (h2:∀b o,g.get? b=some o->b∉f.fs->B.get? b=some o) (h3:∀q∈news,B.get? q.1=some q.2/\g.get? q.1=none)
  (h4:FlX B (f.env::f.outer) e cls (noCtx c) fl h) (h5:h.Ns f.L m) (h6:∀b o,g.get? b=some o->b∈f.fs->∃sl,h.get? b=some {o with slots:=sl})
noncomputable abbrev Flying(f:FC)(g:Heap)(m:Str->Option Value)(news:Led)(e:Addr)(c:Str)(cls:Value)(h:Heap):Prop:=Fly f g m news e c cls .none h
noncomputable abbrev HeldIn(f:FC)(g:Heap)(m:Str->Option Value)(news:Led)(e:Addr)(c:Str)(cls:Value)(h:Heap):Prop:=Fly f g m news e c cls (rawInt f.L) h
noncomputable def ThrownK(f:FC)(g:Heap)(m:Str->Option Value)(news:Led)(ea:Addr)(c:Str)(C:Addr)(h:Heap):Bool->Prop
 |true=>(∃h0,Fr g f.L h0 m/\News g f.L h0 news/\NewX h0 h ea (.ref C) (noCtx c))\/HeldIn f g m news ea c (.ref C) h
 |false=>Flying f g m news ea c (.ref C) h
inductive Thrown(f:FC)(k:Bool)(c:Str)(env:Env')(objs:Objs)(e:Value)(s':Shared):Prop
 |mk (ea C:Addr) (h1:e=.ref ea) (h2:clsA f.cx.K c=some C) (h:Heap) (tk:Nat) (g:Heap) (m:Str->Option Value) (news Z:Led) (ρ μ:List Addr) (h3:s'={f.s₀ with heap:=h,toks:=tk}) (h4:CoreP f g m news Z ρ μ env objs) (h5:ThrownK f g m news ea c C h k)
noncomputable def Holds(l:List Prop):Prop:=∀p∈l,p
theorem Holds.sub{a b:List Prop}(h:Holds b)(s:∀p∈a,p∈b):Holds a:=λp hp=>h p (s p hp)
noncomputable abbrev Pst(α:Type):=Res->S->(α->Shared->Prop)->(Value->Shared->Prop)->Prop
noncomputable def excP(f:FC)(k:Bool)(c:Str)(st:S)(E:Value->Shared->Prop):Prop:=∀e s',Thrown f k c st.env st.objs e s'->E e s'
noncomputable def pV(f:FC)(tm:List (AV×Value)):Pst Value:=λr st' Q E=>match r with
 |.v a=>∀v s',Cfg f st'.env st'.objs ((a,v)::tm) s'->Q v s'
 |.exc k c=>excP f k c st' E
 |_=>False
noncomputable def pVs(f:FC)(tm:List (AV×Value)):Pst (List Value):=λr st' Q E=>match r with
 |.vs as=>∀vs s',vs.length=as.length->Cfg f st'.env st'.objs (as.zip vs++tm) s'->Q vs s'
 |.exc k c=>excP f k c st' E
 |_=>False
noncomputable def pB(f:FC)(tm:List (AV×Value)):Pst Bool:=λr st' Q E=>match r with
 |.b b=>∀s',Cfg f st'.env st'.objs tm s'->Q b s'
 |.exc k c=>excP f k c st' E
 |_=>False
noncomputable def pU(f:FC)(tm:List (AV×Value)):Pst Unit:=λr st' Q E=>match r with
 |.u=>∀s',Cfg f st'.env st'.objs tm s'->Q () s'
 |.exc k c=>excP f k c st' E
 |_=>False
noncomputable def pF(f:FC):Pst Flow:=λr st' Q E=>match r with
 |.fl .next=>∀s',Cfg f st'.env st'.objs [] s'->Q .next s'
 |.fl .brk=>∀s',Cfg f st'.env st'.objs [] s'->Q .brk s'
 |.fl .cont=>∀s',Cfg f st'.env st'.objs [] s'->Q .cont s'
 |.fl (.ret a)=>∀v s',Cfg f st'.env st'.objs [(a,v)] s'->Q (.ret v) s'
 |.exc k c=>excP f k c st' E
 |_=>False
structure ExcOK(f:FC){α:Type}(post:Pst α):Prop where
 exc:∀k c st' Q E,post (.exc k c) st' Q E->excP f k c st' E
theorem pV.exc{f tm}:ExcOK f (pV f tm):=⟨λ_ _ _ _ _ h=>h⟩
theorem pVs.exc{f tm}:ExcOK f (pVs f tm):=⟨λ_ _ _ _ _ h=>h⟩
theorem pB.exc{f tm}:ExcOK f (pB f tm):=⟨λ_ _ _ _ _ h=>h⟩
theorem pU.exc{f tm}:ExcOK f (pU f tm):=⟨λ_ _ _ _ _ h=>h⟩
theorem pF.exc{f}:ExcOK f (pF f):=⟨λ_ _ _ _ _ h=>h⟩
structure SimR(f:FC)(tm:List (AV×Value))(st:S){α:Type}(c:Sem α)(post:Pst α)(r:Res)(st':S):Prop where
 h1:st'.h=st.h
 h2:∀p∈st.obl,p∈st'.obl
 h3:Holds st'.obl->∀A,AOK f st.h A->∀s Q E,Cfg f st.env st.objs tm s->post r st' Q E->wpB f.M A c Q E s
noncomputable def Sim(f:FC)(tm:List (AV×Value))(st:S)(o:Out){α:Type}(c:Sem α)(post:Pst α):Prop:=
 ∀r st',o=some (r,st')->SimR f tm st c post r st'
theorem Cfg.drop{f:FC}{env:Env'}{objs:Objs}{tm tm':List (AV×Value)}{s:Shared}(c:Cfg f env objs tm s)(x:∀p∈tm',p∈tm):Cfg f env objs tm' s:=by
 obtain ⟨h,tk,g,m,news,Z,ρ,μ,e,k⟩:=c;exact ⟨h,tk,g,m,news,Z,ρ,μ,e,k.drop x⟩
theorem Cfg.tmp{f:FC}{env:Env'}{objs:Objs}{tm:List (AV×Value)}{s:Shared}(c:Cfg f env objs tm s){x:DV}{v:Value}(tk:Nat)(hx:∀G,VP f.cx.K G (plain x) v):Cfg f env objs ((.d x,v)::tm) {s with toks:=tk}:=by
 obtain ⟨h,_,g,m,news,Z,ρ,μ,rfl,k⟩:=c;exact ⟨h,tk,g,m,news,Z,ρ,μ,rfl,k.tmp (a:=.d x) (hx _)⟩
theorem Cfg.tok{f:FC}{env:Env'}{objs:Objs}{tm:List (AV×Value)}{s:Shared}(c:Cfg f env objs tm s)(tk:Nat):Cfg f env objs tm {s with toks:=tk}:=by
 obtain ⟨h,_,g,m,news,Z,ρ,μ,rfl,k⟩:=c;exact ⟨h,tk,g,m,news,Z,ρ,μ,rfl,k⟩
section
variable{f:FC}{tm:List (AV×Value)}{st:S}{o:Out}{α β:Type}{c:Sem α}
theorem zhY{o:Out}{k:AV->S->Out}{r:Res}{st':S}(h:zaK o k=some (r,st')):
  (∃a st1,o=some (.v a,st1)/\k a st1=some (r,st'))\/∃m x,o=some (.exc m x,st')/\r=.exc m x:=by
 obtain ⟨⟨w,st1⟩,rfl,h⟩:=za3 h;induction w with
 |v a=>exact .inl ⟨_,_,rfl,h⟩
 |exc m c=>injection h;exact .inr ⟨_,_,rfl,rfl⟩
 |_=>exact nn h
theorem zeP{o:Out}{k:List AV->S->Out}{r:Res}{st':S}(h:zc8 o k=some (r,st')):
  (∃a st1,o=some (.vs a,st1)/\k a st1=some (r,st'))\/∃m x,o=some (.exc m x,st')/\r=.exc m x:=by
 obtain ⟨⟨w,st1⟩,rfl,h⟩:=za3 h;induction w with
 |vs a=>exact .inl ⟨_,_,rfl,h⟩
 |exc m c=>injection h;exact .inr ⟨_,_,rfl,rfl⟩
 |_=>exact nn h
theorem thenB_some{o:Out}{k:Bool->S->Out}{r:Res}{st':S}(h:thenB o k=some (r,st')):
  (∃a st1,o=some (.b a,st1)/\k a st1=some (r,st'))\/∃m x,o=some (.exc m x,st')/\r=.exc m x:=by
 obtain ⟨⟨w,st1⟩,rfl,h⟩:=za3 h;induction w with
 |b a=>exact .inl ⟨_,_,rfl,h⟩
 |exc m c=>injection h;exact .inr ⟨_,_,rfl,rfl⟩
 |_=>exact nn h
theorem thenU_some{o:Out}{k:S->Out}{r:Res}{st':S}(h:thenU o k=some (r,st')):
  (∃st1,o=some (.u,st1)/\k st1=some (r,st'))\/∃m x,o=some (.exc m x,st')/\r=.exc m x:=by
 obtain ⟨⟨w,st1⟩,rfl,h⟩:=za3 h;induction w with
 |u=>exact .inl ⟨_,rfl,h⟩
 |exc m c=>injection h;exact .inr ⟨_,_,rfl,rfl⟩
 |_=>exact nn h
theorem AOK.h{f:FC}{a b:Bool}{A:Around}(e:b=a)(x:AOK f a A):AOK f b A:=e▸x
theorem Sim.bindV{c:Sem Value}{d:Value->Sem β}{k:AV->S->Out}{post:Pst β}(x:Sim f tm st o c (pV f tm))(X:ExcOK f post)
  (hk:∀a st1 v,o=some (.v a,st1)->st1.h=st.h->Sim f ((a,v)::tm) st1 (k a st1) (d v) post):Sim f tm st (zaK o k) (c >>= d) post:=by
 intro r st' h;rcases zhY h with ⟨a,st1,e1,e2⟩|⟨m,y,e1,rfl⟩
 ·obtain ⟨h1,h2,h3⟩:=x _ _ e1
  obtain ⟨h4,h5,_⟩:=hk a st1 .none e1 h1 _ _ e2;refine ⟨h4.trans h1,λp hp=>h5 p (h2 p hp),λhob A hA s Q E C hp=>za0 (h3 (hob.sub h5) A hA s _ E C λv s' C'=>?_)⟩
  exact (hk a st1 v e1 h1 _ _ e2).3 hob A (hA.h h1) s' Q E C' hp
 ·obtain ⟨h1,h2,h3⟩:=x _ _ e1
  exact ⟨h1,h2,λhob A hA s Q E C hp=>za0 (h3 hob A hA s _ E C (X.exc _ _ _ _ _ hp))⟩
theorem Sim.bindVs{c:Sem (List Value)}{d:List Value->Sem β}{k:List AV->S->Out}{post:Pst β}(x:Sim f tm st o c (pVs f tm))(X:ExcOK f post)
  (hk:∀as st1 vs,o=some (.vs as,st1)->st1.h=st.h->vs.length=as.length->Sim f (as.zip vs++tm) st1 (k as st1) (d vs) post):Sim f tm st (zc8 o k) (c >>= d) post:=by
 intro r st' h;rcases zeP h with ⟨a,st1,e1,e2⟩|⟨m,y,e1,rfl⟩
 ·obtain ⟨h1,h2,h3⟩:=x _ _ e1
  obtain ⟨h4,h5,_⟩:=hk a st1 (a.map λ_=>.none) e1 h1 (by simp) _ _ e2
  refine ⟨h4.trans h1,λp hp=>h5 p (h2 p hp),λhob A hA s Q E C hp=>za0 (h3 (hob.sub h5) A hA s _ E C λv s' l C'=>?_)⟩
  exact (hk a st1 v e1 h1 l _ _ e2).3 hob A (hA.h h1) s' Q E C' hp
 ·obtain ⟨h1,h2,h3⟩:=x _ _ e1
  exact ⟨h1,h2,λhob A hA s Q E C hp=>za0 (h3 hob A hA s _ E C (X.exc _ _ _ _ _ hp))⟩
theorem Sim.bindB{c:Sem Bool}{d:Bool->Sem β}{k:Bool->S->Out}{post:Pst β}(x:Sim f tm st o c (pB f tm))(X:ExcOK f post)
  (hk:∀b st1,o=some (.b b,st1)->st1.h=st.h->Sim f tm st1 (k b st1) (d b) post):Sim f tm st (thenB o k) (c >>= d) post:=by
 intro r st' h;rcases thenB_some h with ⟨a,st1,e1,e2⟩|⟨m,y,e1,rfl⟩
 ·obtain ⟨h1,h2,h3⟩:=x _ _ e1
  obtain ⟨h4,h5,h6⟩:=hk a st1 e1 h1 _ _ e2;exact ⟨h4.trans h1,λp hp=>h5 p (h2 p hp),λhob A hA s Q E C hp=>za0 (h3 (hob.sub h5) A hA s _ E C λs' C'=>h6 hob A (hA.h h1) s' Q E C' hp)⟩
 ·obtain ⟨h1,h2,h3⟩:=x _ _ e1
  exact ⟨h1,h2,λhob A hA s Q E C hp=>za0 (h3 hob A hA s _ E C (X.exc _ _ _ _ _ hp))⟩
theorem Sim.bindU{c:Sem Unit}{d:Unit->Sem β}{k:S->Out}{post:Pst β}(x:Sim f tm st o c (pU f tm))(X:ExcOK f post)
  (hk:∀st1,o=some (.u,st1)->st1.h=st.h->Sim f tm st1 (k st1) (d ()) post):Sim f tm st (thenU o k) (c >>= d) post:=by
 intro r st' h;rcases thenU_some h with ⟨st1,e1,e2⟩|⟨m,y,e1,rfl⟩
 ·obtain ⟨h1,h2,h3⟩:=x _ _ e1
  obtain ⟨h4,h5,h6⟩:=hk st1 e1 h1 _ _ e2;exact ⟨h4.trans h1,λp hp=>h5 p (h2 p hp),λhob A hA s Q E C hp=>za0 (h3 (hob.sub h5) A hA s _ E C λs' C'=>h6 hob A (hA.h h1) s' Q E C' hp)⟩
 ·obtain ⟨h1,h2,h3⟩:=x _ _ e1
  exact ⟨h1,h2,λhob A hA s Q E C hp=>za0 (h3 hob A hA s _ E C (X.exc _ _ _ _ _ hp))⟩
theorem Sim.cong{c':Sem α}{post:Pst α}(x:Sim f tm st o c post)(hc:∀A s Q E,AOK f st.h A->Cfg f st.env st.objs tm s->wpB f.M A c Q E s->wpB f.M A c' Q E s):Sim f tm st o c' post:=λr st' h=>
 let ⟨h1,h2,h3⟩:=x r st' h
 ⟨h1,h2,λhob A hA s Q E C hp=>hc A s Q E hA C (h3 hob A hA s Q E C hp)⟩
theorem Sim.holding{post:Pst α}{vs:List Value}(x:Sim f tm st o c post):Sim f tm st o (holding vs c) post:=x.cong λ_ _ _ _ _ _ h=>zaH h
theorem Sim.stand{c:Unit->Sem α}{post:Pst α}{pos:Pos}(x:Sim f tm st o (c ()) post):Sim f tm st o (standAt pos >>= c) post:=x.cong λ_ _ _ _ _ _ h=>za0 (zaS h)
theorem Sim.oper{c:Sem Value}{post:Pst Value}{vs:List Value}(x:Sim f tm st o c post):Sim f tm st o (operate vs c) post:=x.cong λ_ _ _ _ _ _ h=>wpB_operate h
theorem Sim.none{post:Pst α}:Sim f tm st none c post:=λ_ _ h=>by injection h
theorem zaI{α β:Type}{a:Option α}{k:α->Out}{c:Sem β}{post:Pst β}(h:∀x,a=some x->Sim f tm st (k x) c post):Sim f tm st (opb a k) c post:=by
 induction a with
 |none=>exact Sim.none
 |some x=>exact h x rfl
theorem zc4{β:Type}{b:Bool}{o:Out}{c:Sem β}{post:Pst β}(h:b=true->Sim f tm st o c post):Sim f tm st (bsel b o none) c post:=by
 induction b with
 |true=>exact h rfl
 |false=>exact Sim.none
theorem pV.sub{tm tm':List (AV×Value)}(h:∀p∈tm,p∈tm'){r st' Q E}(x:pV f tm r st' Q E):pV f tm' r st' Q E:=by
 induction r with
 |v a=>exact λv s' C=>x v s' (C.drop λp hp=>by
   rcases List.mem_cons.mp hp with rfl|hp
   ·exact .head _
   ·exact .tail _ (h p hp))
 |exc k c=>exact x
 |_=>cases x
theorem pVs.sub{tm tm':List (AV×Value)}(h:∀p∈tm,p∈tm'){r st' Q E}(x:pVs f tm r st' Q E):pVs f tm' r st' Q E:=by
 induction r with
 |vs a=>exact λv s' l C=>x v s' l (C.drop λp hp=>by
   rcases List.mem_append.mp hp with hp|hp
   ·exact List.mem_append_left _ hp
   ·exact List.mem_append_right _ (h p hp))
 |exc k c=>exact x
 |_=>cases x
theorem pB.sub{tm tm':List (AV×Value)}(h:∀p∈tm,p∈tm'){r st' Q E}(x:pB f tm r st' Q E):pB f tm' r st' Q E:=by
 induction r with
 |b a=>exact λs' C=>x s' (C.drop h)
 |exc k c=>exact x
 |_=>cases x
theorem pU.sub{tm tm':List (AV×Value)}(h:∀p∈tm,p∈tm'){r st' Q E}(x:pU f tm r st' Q E):pU f tm' r st' Q E:=by
 induction r with
 |u=>exact λs' C=>x s' (C.drop h)
 |exc k c=>exact x
 |_=>cases x
theorem Sim.post{post post':Pst α}(x:Sim f tm st o c post)(h:∀r st' Q E,post' r st' Q E->post r st' Q E):Sim f tm st o c post':=λr st' e=>
 let ⟨h1,h2,h3⟩:=x r st' e
 ⟨h1,h2,λhob A hA s Q E C hp=>h3 hob A hA s Q E C (h _ _ _ _ hp)⟩
theorem Sim.up{c:Sem Value}{tm':List (AV×Value)}(x:Sim f tm st o c (pV f tm))(h:∀p∈tm',p∈tm):Sim f tm st o c (pV f tm'):=x.post λ_ _ _ _ y=>y.sub h
theorem Sim.val{x:DV}{c:Sem Value}{obl:List Prop}(ho:∀p∈st.obl,p∈obl)
  (h:Holds obl->∀A,AOK f st.h A->∀s Q E,Cfg f st.env st.objs tm s->(∀v tk,(∀G,VP f.cx.K G (plain x) v)->Q v {s with toks:=tk})->wpAny f.M A c Q E s) :
  Sim f tm st (Internal.val x {st with obl:=obl}) c (pV f tm):=by
 intro r st' e;injection e;exact ⟨rfl,ho,λhob A hA s Q E C hp=>.of (h hob A hA s Q E C λv tk hv=>hp v _ (C.tmp tk hv))⟩
theorem zaL{l:List Prop}{q:Prop}:∀p∈l,p∈l++[q]:=λp hp=>List.mem_append_left _ hp
theorem Holds.last{l:List Prop}{q:Prop}(h:Holds (l++[q])):q:=h q (List.mem_append_right _ (.head _))
end
end
section
open PySem PySem.W PyProof.Rows
noncomputable def MObj.plain:MObj->Option (List PV)
 |.lst xs=>some (zaU xs)
 |.tl ty xs=>some (xs.map ty.plain)
 |_=>none
inductive BiName:Str->Value->Prop
 |len:BiName "len" (.builtin "len")
 |bytes:BiName "bytes" (.type "bytes")
 |bytearray:BiName "bytearray" (.type "bytearray")
 |range:BiName "range" (.type "range")
 |min:BiName "min" (.builtin "min")
 |max:BiName "max" (.builtin "max")
structure Hyp(f:FC)(Sp:Spec)(lc:Nms):Prop where
 dbg:f.sc.names.lookup ("__debug__":Str)=none
 lcl:∀x,hasS x lc.1=true->f.sc.names.lookup x=some .local\/(f.sc.names.lookup x=some .cell/\∃c,f.cells.lookup x=some c/\∀y,f.cells.lookup y=some c->y=x)
 con:∀x d,Sp.con x d->f.sc.names.lookup x=some .globalImplicit/\∃v,nsIn f.cx.K mainGlobals x=some (some v)/\VP f.cx.K (λa o=>f.cx.base.get? a=some o) (plain d) v
 glb:∀x,hasS x lc.2=true->f.sc.names.lookup x=some .globalImplicit
 bi:∀x v,BiName x v->nsIn f.cx.K mainGlobals x=some none
 attr:∀c a,Sp.attr c a->∀C,clsA f.cx.K c=some C->zdL f.cx.K C a=true
 sameD:∀d d',Sp.sameD d d'->plain d=plain d'
 sameO:∀o o',Sp.sameO o o'->∃l,o.plain=some l/\o'.plain=some l
structure IH(f:FC)(ih:Task->S->Out):Prop where
 ev:∀e st tm,Sim f tm st (ih (.ev e) st) (eval e f.env) (pV f tm)
 star:∀e x st,ih (.ev (.Starred e x)) st=none
 evs:∀es pos st tm,Sim f tm st (ih (.evs es) st) (spliced (backTo pos (starEach es f.env))) (pVs f tm)
 tst:∀e st tm,Sim f tm st (ih (.tst e) st) (isTrue e f.env (eval e f.env)) (pB f tm)
 ands:∀xs st tm,Sim f tm st (ih (.ands xs) st) (allTrue .And xs f.env) (pB f tm)
 ors:∀xs st tm,Sim f tm st (ih (.ors xs) st) (allTrue .Or xs f.env) (pB f tm)
 asg:∀t a v st tm,(a,v)∈tm->Sim f tm st (ih (.asg t a) st) (assign t f.env v) (pU f tm)
 ex:∀s st,Sim f [] st (ih (.ex s) st) (exec s f.env) (pF f)
 exs:∀ss st,Sim f [] st (ih (.exs ss) st) (execs ss f.env) (pF f)
section
variable{f:FC}{Sp:Spec}{lc:Nms}{ih:Task->S->Out}{tm:List (AV×Value)}{st:S}
theorem not_dbg (H:Hyp f Sp lc) {x:Str} {k:NameKind} (h:f.sc.names.lookup x=some k):(x==("__debug__":Str))=false:=
 beq_eq_false_iff_ne.mpr λe=>by rw[e,H.dbg] at h;injection h
theorem ev_look(H:Hyp f Sp lc){x:Str}{pos:Pos}{a:AV}(h:look x st.env=some a):Sim f tm st (some (.v a,st)) (eval (.Name x pos) f.env) (pV f tm):=by
 intro r st' e;injection e;refine ⟨rfl,λp hp=>hp,λhob A hA s Q E C hp=>?_⟩
 obtain ⟨hh,tk,g,m,news,Z,ρ,μ,rfl,c⟩:=C;obtain ⟨v,hv,hl⟩:=c.envr _ _ h;have fin:Q v {f.s₀ with heap:=hh,toks:=tk}:=hp v _ ⟨hh,tk,g,m,news,Z,ρ,μ,rfl,c.tmp hv⟩
 rcases hl with ⟨h1,h2⟩|⟨h1,cc,o,h2,h3,h4⟩
 ·exact .of <| nameX_L (cl:=f.cells) c.fr h2 fin f.hk h1 (not_dbg H h1)
 ·exact .of <| nameX_C (cl:=f.cells) c.nw h2 h3 h4 fin f.hk h1 (not_dbg H h1)
theorem ev_con(H:Hyp f Sp lc){x:Str}{pos:Pos}{d:DV}{ans:List Ans}:
  Sim f tm st (val d {st with ans:=ans,obl:=st.obl++[Sp.con x d]}) (eval (.Name x pos) f.env) (pV f tm):=by
 intro r st' e;injection e;refine ⟨rfl,zaL,λhob A hA s Q E C hp=>?_⟩
 obtain ⟨h1,v,h2,h3⟩:=H.con _ _ hob.last;obtain ⟨hh,tk,g,m,news,Z,ρ,μ,rfl,c⟩:=C;exact .of <| nameX_K (cl:=f.cells) c.fr c.X c.TR h2 (hp v _ ⟨hh,tk,g,m,news,Z,ρ,μ,rfl,c.tmp (a:=.d d) (h3.mono λa o q=>.inr q)⟩) f.hk h1 (not_dbg H h1)
theorem step_Constant{c:Const}{k:Nat}{pos:Pos}:Sim f tm st (zaJ Sp lc ih (.ev (.Constant c k pos)) st) (eval (.Constant c k pos) f.env) (pV f tm):=by
 show Sim f tm st (match c with
   |.none=>val .none st
   |.bool b=>val (.bool b) st
   |.int i=>val (.int i) st
   |.str _=>val .str st
   |.bytes b=>(match Nat.ble b.length 1000 with|true=>val (.bytes b) st|false=>none)
   |_=>none) _ _
 induction c with
 |none=>exact Sim.val (x:=.none) (λp hp=>hp) λhob A hA s Q E C h=>λ_ _ _=>h .none s.toks λG=>rfl
 |bool b=>exact Sim.val (x:=.bool b) (λp hp=>hp) λhob A hA s Q E C h=>λ_ _ _=>h (.bool b) s.toks λG=>rfl
 |int i=>exact Sim.val (x:=.int i) (λp hp=>hp) λhob A hA s Q E C h=>λ_ _ _=>h (.int i s.toks) (s.toks+1) λG=>⟨_,rfl⟩
 |str x=>exact Sim.val (x:=.str) (λp hp=>hp) λhob A hA s Q E C h=>λ_ _ _=>h (.str x s.toks) (s.toks+1) λG=>⟨_,_,rfl⟩
 |bytes b=>
  dsimp only;induction q:Nat.ble b.length 1000 with
  |false=>exact Sim.none
  |true=>exact Sim.val (x:=.bytes b) (λp hp=>hp) λhob A hA s Q E C h=>Constant_bytes (h _ (s.toks+1) λG=>⟨Nat.le_trans (Nat.le_of_ble_eq_true q) (by decide),_,rfl⟩)
 |_=>exact Sim.none
theorem step_Name(H:Hyp f Sp lc){x:Str}{pos:Pos}:Sim f tm st (zaJ Sp lc ih (.ev (.Name x pos)) st) (eval (.Name x pos) f.env) (pV f tm):=by
 show Sim f tm st (match look x st.env with
   |some a=>some (.v a,st)
   |none=>opb (takeCon st.ans) λq=>val q.1 {st with ans:=q.2,obl:=st.obl++[Sp.con x q.1]}) _ _
 induction q:look x st.env with
 |some a=>exact ev_look H q
 |none=>exact zaI λq _=>ev_con H
theorem attrOK_at{K:Frag}{C:Addr}{a:Str}(h:zdL K C a=true):plainGet K C a=true/\hasDictIn K C=true/\findIn K (.ref C) a=some none/\noGet K none=true/\takerIn K C a=some none/\plainOver K C=true /\
  findIn K (.ref C) "__setattr__"=some (some (.builtin "object.__setattr__")):=by
 unfold zdL at h;simp only[Bool.and_eq_true,beq_iff_eq] at h;obtain ⟨⟨⟨⟨⟨⟨h1,h2⟩,h3⟩,h4⟩,h5⟩,h6⟩,h7⟩:=h;exact ⟨h1,h2,h3,h4,h5,h6,h7⟩
noncomputable def PV.isObj:PV->Bool
 |.tup _|.lst _|.obj _ _|.rng _ _ _=>true
 |_=>false
theorem VP.isRef{K:Frag}{G:Addr->Obj->Prop}{x:PV}{v:Value}(h:VP K G x v)(q:x.isObj=true):∃a,v=.ref a:=by
 induction x using PV.casesOn with
 |tup xs=>obtain ⟨a,_,_,e,_⟩:=(h:RefX G zfJ xs.length (VPs K G xs) v);exact ⟨a,e⟩
 |lst xs=>obtain ⟨a,_,_,e,_⟩:=(h:RefX G zg9 xs.length (VPs K G xs) v);exact ⟨a,e⟩
 |obj c fs=>obtain ⟨a,_,_,_,_,e,_⟩:=h;exact ⟨a,e⟩
 |rng a b s=>obtain ⟨r,_,e,_⟩:=(h:∃r o,v=.ref r/\G r o/\isRngO o a b s);exact ⟨r,e⟩
 |_=>injection q
theorem VP.handed{K:Frag}{G:Addr->Obj->Prop}{x:PV}{v:Value}(h:VP K G x v):handedIn v=true:=by
 induction x using PV.casesOn with
 |none=>cases (h:v=.none);rfl
 |bool b=>cases (h:v=.bool b);rfl
 |int i=>obtain ⟨t,rfl⟩:=(h:∃t,v=.int i t);rfl
 |str=>obtain ⟨s,t,rfl⟩:=(h:∃s t,v=.str s t);rfl
 |bytes b=>obtain ⟨_,t,rfl⟩:=(h:b.length<=big/\∃t,v=.bytes b.toArray t);rfl
 |_=>obtain ⟨a,rfl⟩:=VP.isRef h rfl;rfl
theorem VA.handed{K:Frag}{G:Addr->Obj->Prop}{ρ:List Addr}{x:AV}{v:Value}(h:VA K G ρ x v):handedIn v=true:=by
 induction x with
 |d x=>exact VP.handed h
 |r i=>obtain ⟨a,_,rfl⟩:=h;rfl
section
variable{A:Around}{Q:Value->Shared->Prop}{E:Value->Shared->Prop}{hh g:Heap}{tk:Nat}{m:Str->Option Value}{news Z:Led}{ρ μ:List Addr}{a:Str}{v:Value}
theorem got_at(c:Core f g m news Z ρ μ st.env st.objs tm hh){b d C:Addr}{es:List DictEntry}{k:Nat}(h4:hh.get? b=some (instObj C d))(h5:hh.get? d=some (dictOf es k))(h8:getL a es=some (some v))(hv:handedIn v=true)(h10:zdL f.cx.K C a=true)
  (h:Q v {f.s₀ with heap:=hh,toks:=tk+1}):wpAny f.M A (getAttr (.ref b) a true) Q E {f.s₀ with heap:=hh,toks:=tk}:=
 have x:=attrOK_at h10
 get_own (ox:=instObj C d) c.fr c.X ⟨h4,rfl,rfl,h5⟩ x.1 x.2.1 x.2.2.1 x.2.2.2.1 h8 hv h
end
theorem sim_attrGet{o:AV}{u:Value}{a:Str}(hm:(o,u)∈tm):Sim f tm st (attrGet o a st) (getAttr u a true) (pV f tm):=by
 have fin:∀{x:AV},(∀{A:Around} {hh tk g m news Z ρ μ} {Q:Value->Shared->Prop} {E:Value->Shared->Prop},Core f g m news Z ρ μ st.env st.objs tm hh->(∀v,VA f.cx.K (Fz f.cx.base Z) ρ x v->Q v {f.s₀ with heap:=hh,toks:=tk+1}) ->
   wpAny f.M A (getAttr u a true) Q E {f.s₀ with heap:=hh,toks:=tk})->Sim f tm st (some (.v x,st)) (getAttr u a true) (pV f tm):=by
  intro x h r st' e;injection e;refine ⟨rfl,λp hp=>hp,λhob A hA s Q E C hp=>?_⟩
  obtain ⟨hh,tk,g,m,news,Z,ρ,μ,rfl,c⟩:=C;exact .of (h c λv hv=>hp v _ ⟨hh,tk+1,g,m,news,Z,ρ,μ,rfl,c.tmp hv⟩)
 induction o with
 |r i=>
  refine zaI λo ho=>?_
  induction o with
  |inst cn fs=>
   refine zaI λx hx=>fin λc hq=>?_
   obtain ⟨b,d,h1,h2,C,es,k,h3,h4,h5,h6⟩:=c.obj ho;obtain ⟨b',h7,rfl⟩:=c.tmr _ hm;cases h1.symm.trans h7
   obtain ⟨val,h8,h9,h10⟩:=h6.get hx;exact got_at c (c.fz h4) (c.nw _ h5).1 h8 h9.handed h10 (hq _ h9)
  |_=>exact Sim.none
 |d y=>
  induction y using DV.casesOn with
  |obj cn fs=>
   refine zaI λx hx=>fin λ{A hh tk g m news Z ρ μ Q E} c hq=>?_
   obtain ⟨b,C,dx,es,k,rfl,h3,h4,h5,h6⟩:=c.tmr _ hm;obtain ⟨val,h8,h9,h10⟩:=h6.get (plainF_look hx);exact got_at c (c.fz h4) (c.fz h5) h8 h9.handed h10 (hq _ h9)
  |_=>exact Sim.none
theorem zdH{x:AV×Value}:∀p∈tm,p∈x::tm:=λp hp=>.tail _ hp
theorem base_eq{o:Expr}{a:Str}{env:Env}{c:Sem Value}(h:zdI o=true):attributeBase o a env c=c:=by
 induction o using Expr.casesOn with
 |Call g as kw p=>
  induction as using List.casesOn with
  |cons _ _=>cases g <;> rfl
  |nil=>
   induction kw using List.casesOn with
   |cons _ _=>cases g <;> rfl
   |nil=>exact ff h
 |_=>rfl
theorem step_Attribute(I:IH f ih){o:Expr}{a:Str}{pos:Pos}:Sim f tm st (zaJ Sp lc ih (.ev (.Attribute o a pos)) st) (eval (.Attribute o a pos) f.env) (pV f tm):=by
 show Sim f tm st (match zdI o with
   |false=>none
   |true=>zaK (ih (.ev o) st) λo st=>attrGet o a st) _ _
 induction q:zdI o with
 |false=>exact Sim.none
 |true=>
  rw[arm_eval_Attribute,base_eq q];refine (I.ev o st tm).bindV pV.exc λb st1 v _ _=>Sim.stand ?_
  refine ((sim_attrGet (a:=a) (.head tm)).up zdH).cong λA s Q E hA C h=>za0 (zaH (zaZ h (λ_ _ h=>za8 (wpAny_letTemporaryGo (za4 h))) λ_ _ h=>h))
end
end
section
open PySem PySem.W PyProof.Rows
section
variable{f:FC}{g:Heap}{m:Str->Option Value}{news Z:Led}{ρ μ:List Addr}{env:Env'}{objs:Objs}{ea:Addr}{c:Str}{cls fl:Value}{h:Heap}
theorem Fly.move(x:Fly f g m news ea c cls fl h):∃B,FlX B (f.env::f.outer) ea cls (noCtx c) fl h/\∀h' fl',FlX B (f.env::f.outer) ea cls (noCtx c) fl' h'->h.UpToSlots h'->Fly f g m news ea c cls fl' h':=by
 obtain ⟨B,x1,x2,x3,x4,x5,x6⟩:=x;refine ⟨B,x4,λh' fl' y1 y2=>⟨B,x1,x2,x3,y1,y2.ns x5,λb o e hb=>?_⟩⟩
 obtain ⟨sl,hs⟩:=x6 b o e hb
 have hm:b∈(f.env::f.outer).filterMap (·.frame):=by
  obtain ⟨en,he,hf⟩:=List.mem_filterMap.mp hb;exact List.mem_filterMap.mpr ⟨en,.tail _ he,hf⟩
 obtain ⟨_,o',ho',hn⟩:=x4.h3.mem hm;obtain ⟨sl',hs'⟩:=y2 b _ ho' hn;rw[hs] at ho';injection ho';exact ⟨sl',hs'⟩
theorem Fly.there(x:Fly f g m news ea c cls fl h):∃oe,h.get? ea=some oe/\oe.cls=cls:=by
 obtain ⟨B,x1,x2,x3,x4,x5,x6⟩:=x;exact x4.there
theorem Fly.land(k:CoreP f g m news Z ρ μ env objs)(x:Fly f g m news ea c cls fl h):∃g',Core f g' m news Z ρ μ env objs [] h/\Fly f g' m news ea c cls fl h:=by
 obtain ⟨B,x1,x2,x3,x4,x5,x6⟩:=x;have hL:B.get? f.L=none:=(x4.h3.mem (b:=f.L) (List.mem_filterMap.mpr ⟨f.env,.head _,rfl⟩)).1;have K:=k.below
 obtain ⟨T,S⟩:=kts_turn_at (h:=h) (fs:=f.fs) (g:=g)
  (λb hb=>by
   obtain ⟨_,o,ho,_⟩:=K.frames.mem hb
   exact ⟨o,ho⟩)
  (λb o e nm=>x4.1 b o (x2 b o e nm)) x6
 have N:News (ktsHeap h f.fs g) f.L h news:=λq hq=>⟨x4.1 _ _ (x3 q hq).1,(λz=>by have:=(x3 q hq).1;rw[z,hL] at this;injection this),T.none_ _ (x3 q hq).2⟩
 have Bl:Below f.A₀ f.cx.base f.outer (ktsHeap h f.fs g):=by
  refine ⟨K.stack,λb o e=>T.other b o (K.stays b o e) (λhm=>by
   rw[(K.frames.mem hm).1] at e
   injection e),K.frames.of_keeps λb o e _=>?_⟩
  obtain ⟨sl,hs⟩:=T.up e;exact ⟨_,hs,rfl⟩
 have ab:(ktsHeap h f.fs g).objs.size<=f.L:=by rw[T.size];exact k.above
 refine ⟨_,{k with turn:=k.turn.trans T,below:=Bl,above:=ab,fr:=⟨x5,S,ab⟩,nw:=N,tmr:=λp hp=>nomatch hp},B,x1,λb o e nm=>?_,λq hq=>⟨(x3 q hq).1,(N q hq).2.2⟩,x4,x5,λb o e hm=>⟨o.slots,S b o e⟩⟩
 refine x2 b o ?_ nm;induction q:g.get? b with
 |none=>rw[T.none_ b q] at e;injection e
 |some o'=>rw[T.other b o' q nm] at e;exact e
theorem Fly.made{A:Around}{M:Model}{h0:Heap}{s:Shared}{Q:Unit->Shared->Prop}{E:Value->Shared->Prop}(hfr:A.frames=some (f.env::f.outer))(K:Below f.A₀ f.cx.base f.outer g)(F:Fr g f.L h0 m)(N:News g f.L h0 news)(x:NewX h0 s.heap ea cls (noCtx c))
  (hQ:∀h',HeldIn f g m news ea c cls h'->Q () {s with heap:=h'}):wpAny M A (noteFrame (.ref ea) f.env) Q E s:=by
 have gL:g.get? f.L=none:=kts_self F
 have memL:∀b,b∈(f.env::f.outer).filterMap (·.frame)->b=f.L\/b∈f.fs:=λb hm=>by
  obtain ⟨en,he,hf⟩:=List.mem_filterMap.mp hm;rcases List.mem_cons.mp he with rfl|he
  ·exact .inl (Option.some.inj hf).symm
  ·exact .inr (List.mem_filterMap.mpr ⟨en,he,hf⟩)
 have base_L:f.cx.base.get? f.L=none:=by
  induction q:f.cx.base.get? f.L with
  |none=>rfl
  |some o=>rw[K.stays _ _ q] at gL;cases gL
 have kb:∀b o,f.cx.base.get? b=some o->h0.get? b=some o:=λb o e=>F.keep b o (K.stays b o e)
 have ff:h0.FunFrames f.cx.base (f.env::f.outer):=.cons (by show f.sc.kind≠.module;rw[f.hk];decide) rfl F.ns base_L (K.frames.of_keeps λb o e _=>⟨o,F.keep b o e,rfl⟩)
 have hin:∀en∈(f.env::f.outer),∀b,en.frame=some b->b∈(f.env::f.outer).filterMap (·.frame):=λen he b hb=>List.mem_filterMap.mpr ⟨en,he,hb⟩
 have st:f.cx.base.StaysIn (hideAll h0 ((f.env::f.outer).filterMap (·.frame))):=λb o q=>hideAll_get _ (kb b o q) λhm=>by
  rw[(ff.mem hm).1] at q;injection q
 have sg:∀b o,g.get? b=some o->b∉f.fs->(hideAll h0 ((f.env::f.outer).filterMap (·.frame))).get? b=some o:=λb o q nm=>hideAll_get _ (F.keep b o q) λhm=>by
  rcases memL b hm with z|z
  ·rw[z,gL] at q
   injection q
  ·exact nm z
 have hl:∀q∈news,(hideAll h0 ((f.env::f.outer).filterMap (·.frame))).get? q.1=some q.2/\g.get? q.1=none:=λq hq=>by
  refine ⟨hideAll_get _ (N q hq).1 λhm=>?_,(N q hq).2.2⟩
  rcases memL _ hm with z|z
  ·exact (N q hq).2.1 z
  ·obtain ⟨_,o,ho,_⟩:=K.frames.mem z
   rw[(N q hq).2.2] at ho;injection ho
 refine noteX_new hfr (funFrames_hide ff hin) rfl (λb o q=>of_hideAll _ q) x λh' y1 y2=>hQ h' ⟨_,st,sg,hl,y1,y2.ns ?_,λb o e hb=>?_⟩
 ·exact (Heap.UpToSlots.of_keeps x.1).ns F.ns
 ·obtain ⟨_,o',ho',hn⟩:=K.frames.mem hb
  rw[e] at ho';injection ho';exact y2 b o (x.1 b o (F.keep b o e)) hn
end
section
variable{M:Model}{A:Around}{E:Value->Shared->Prop}{s:Shared}{env:Env}
theorem zfT{c:Code}{h:Option Value}{Q:Flow->Shared->Prop}(hc:codeB M (A.mark h) c (λr s'=>match r with|.ok f=>Q f s'|.error e=>cameBackBy M A env E e s') s)(hnb:h≠some byPass):wpB M A (runOwn c env h) Q E s:=by
 unfold runOwn;exact zeN (zaZ (wpB_run (E:=cameBackBy M A env E) hc hnb) (λ_ _ q=>q) λe s' q=>.of q)
theorem wpB_noted{α:Type}{m:Sem α}{Q:α->Shared->Prop}(h:wpB M A m Q (notedBy M A env E) s):wpB M A (m.onRaise λx=>do noteFrame x env;theTreesLotGoes x) Q E s:=
 zeN (zaZ h (λ_ _ q=>q) λ_ _ hx=>.of (wpAny_bind (wpAny_mono hx (λ_ _ e=>wpAny_theTreesLotGoes e) λ_ _ e=>e)))
theorem tryStmtB{body orelse:Sem Flow}{h₀:ExceptHandler}{hs:List ExceptHandler}{Q:Flow->Shared->Prop}
  (h:wpB M A body (λf s₁=>match f with|.next=>wpB M A orelse Q E s₁|f=>Q f s₁) (λe s₁=>wpB M A (noteFrame e env) (λ_ s₂=>wpB M A (setFlight e none) (λ_ s₃=>wpB M A (handleBy e env (h₀::hs)) Q E s₃) E s₂) E s₁) s) :
  wpB M A (tryStmt false body (h₀::hs) orelse [] env) Q E s:=by
 show wpB M A (body.attempt >>= _) Q E s
 refine za0 (wpB_attempt (zaZ h (λf s₁ h₁=>?_) λe s₁ h₁=>?_))
 ·cases f <;> first|exact h₁|exact za4 h₁
 ·exact za0 (zaZ h₁ (λ_ _ h₂=>za0 h₂) λ_ _ x=>x)
theorem handleByB{e:Value}{t:Expr}{body:List Stmt}{pos:Pos}{rest:List ExceptHandler}{Q:Flow->Shared->Prop}
  (h:codeB M (A.mark (some e)) (.handlers e [.ExceptHandler (some t) none [] pos] env) (λr s₁=>match r with
   |.ok .brk=>codeB M (A.mark (some e)) (.handlers e [.ExceptHandler none none body pos] env) (λr s₂=>match r with
     |.ok f=>Q f s₂
     |.error x=>cameBackBy M A env E x s₂) s₁
   |.ok _=>wpB M A (handleBy e env rest) Q E s₁
   |.error x=>cameBackBy M A env E x s₁) s) (hnb:e≠byPass) :
  wpB M A (handleBy e env (.ExceptHandler (some t) none body pos::rest)) Q E s:=by
 rw[handleBy];have hnb':(some e:Option Value)≠some byPass:=λx=>hnb (Option.some.inj x)
 refine za0 (zaH (zfT (codeB_mono h (λr s₁ h₁=>?_)) hnb'))
 induction r with
 |error x=>exact h₁
 |ok f=>
  induction f with
  |brk=>
   refine za0 (za4 ?_);simp only[Bool.not_true,Bool.false_eq_true,if_false];refine za0 (zaH (zfT (codeB_mono h₁ (λr s₂ h₂=>?_)) hnb'))
   induction r with
   |error x=>exact h₂
   |ok f=>exact za4 h₂
  |_=>
   refine za0 (za4 ?_);simp only[Bool.not_false,if_true];exact h₁
end
section
variable{prog:Program}{w:World}{A:Around}{s:Shared}{env:Env}{R:Result->Shared->Prop}
theorem suiteB{e:Value}{b₀:Stmt}{body:List Stmt}{pos:Pos}
  (h:wpB (model prog w) A (setFlight e none) (λ_ s₁=>wpB (model prog w) A (execs (b₀::body) env) (λf s₂=>R (.ok f) s₂) (notedBy (model prog w) A env λx s₂=>R (.error x) s₂) s₁) (notedBy (model prog w) A env λx s₁=>R (.error x) s₁) s) :
  codeB (model prog w) A (.handlers e [.ExceptHandler none none (b₀::body) pos] env) R s:=by
 refine zaX rfl ?_
 show wpB _ A (do return Fin.done (←(handleWith e env [.ExceptHandler none none (b₀::body) pos]).onRaise (λx=>do noteFrame x env;theTreesLotGoes x))) _ _ s
 refine za0 (wpB_noted ?_);unfold handleWith;exact za0 (zaS (za0 (zaZ h (λ_ s₁ h₁=>zaZ h₁ (λf s₂ h₂=>za4 h₂) λ_ _ x=>x) λ_ _ x=>x)))
end
end
section
open PySem PySem.W PyProof.Rows
theorem big63{n:Nat}(h:n<=big):(n:Int)<2 ^ 63:=by
 have h:n<=16000000:=h;lia
theorem isE_length{α β:Type}:∀{a:List α} {b:List β} (h:a.length=b.length),a.isEmpty=b.isEmpty
 |[],[],_=>rfl
 |_::_,_::_,_=>rfl
 |[],_::_,h=>by injection h
 |_::_,[],h=>by injection h
theorem truthy_none{M:Model}{A:Around}{E:Value->Shared->Prop}{s:Shared}{Q:Bool->Shared->Prop}(h:Q false s):wpAny M A (truthy .none) Q E s:=λ_ _ _=>h
section
variable{f:FC}{Sp:Spec}{lc:Nms}{ih:Task->S->Out}{tm:List (AV×Value)}{st:S}
theorem Cfg.vp{env:Env'}{objs:Objs}{s:Shared}(C:Cfg f env objs tm s){x:DV}{v:Value}(h:(AV.d x,v)∈tm):∃Z,VP f.cx.K (Fz f.cx.base Z) (plain x) v:=by
 obtain ⟨hh,tk,g,m,news,Z,ρ,μ,rfl,c⟩:=C;exact ⟨Z,c.tmr _ h⟩
theorem Cfg.int{env:Env'}{objs:Objs}{s:Shared}(C:Cfg f env objs tm s){i:Int}{v:Value}(h:(AV.d (.int i),v)∈tm):∃t,v=.int i t:=(C.vp h).elim λ_ q=>q
theorem Cfg.bytes{env:Env'}{objs:Objs}{s:Shared}(C:Cfg f env objs tm s){b:Byt}{v:Value}(h:(AV.d (.bytes b),v)∈tm):b.length<=big/\∃t,v=.bytes b.toArray t:=(C.vp h).elim λ_ q=>q
theorem Cfg.bool{env:Env'}{objs:Objs}{s:Shared}(C:Cfg f env objs tm s){b:Bool}{v:Value}(h:(AV.d (.bool b),v)∈tm):v=.bool b:=(C.vp h).elim λ_ q=>q
theorem Cfg.none{env:Env'}{objs:Objs}{s:Shared}(C:Cfg f env objs tm s){v:Value}(h:(AV.d .none,v)∈tm):v=.none:=(C.vp h).elim λ_ q=>q
set_option tactic.hygienic true in
theorem bits_small{a:Int}(h:a.natAbs<2 ^ 62):Builtin.Int.intBits a<=64:=by
 unfold Builtin.Int.intBits;split
 ·lia
 ·rename_i q
  have q:a≠0:=by simpa using q
  have:a.natAbs≠0:=by lia
  have:=(Nat.log2_lt this).mpr h;lia
theorem zdA{op:Operator}{x y z:Int}{v u:Value}{obl:List Prop}(hv:(AV.d (.int x),v)∈tm)(hu:(AV.d (.int y),u)∈tm)(ho:∀p∈st.obl,p∈obl)
  (h:∀{A:Around} {s:Shared} {Q:Value->Shared->Prop} {E:Value->Shared->Prop} {t t':Tok},Holds obl->Q (.int z s.toks) {s with toks:=s.toks+1}->wpAny (model f.cx.prog f.cx.w) A (binaryOp op (.int x t) (.int y t')) Q E s) :
  Sim f tm st (val (.int z) {st with obl:=obl}) (binaryOp op v u) (pV f tm):=
 Sim.val ho λhob A _ s Q E C h'=>by
  obtain ⟨t,rfl⟩:=C.int hv;obtain ⟨t',rfl⟩:=C.int hu;exact h hob (h' (.int z s.toks) (s.toks+1) λG=>⟨s.toks,rfl⟩)
theorem sim_intop{op:Operator}{x y:Int}{v u:Value}(hv:(AV.d (.int x),v)∈tm)(hu:(AV.d (.int y),u)∈tm):Sim f tm st (intop op x y st) (binaryOp op v u) (pV f tm):=by
 induction op with
 |Add=>refine zdA hv hu (λp hp=>hp) λ_ h=>?_;exact add_int h
 |Sub=>refine zdA hv hu (λp hp=>hp) λ_ h=>?_;exact sub_int' h
 |Mult=>refine zdA hv hu zaL λo h=>?_;exact mul_int h (IntMulOk.of_left (bits_small o.last.1))
 |FloorDiv=>refine zdA hv hu zaL λo h=>?_;exact floordiv_int o.last.1 h (.inl (PyProof.noPylong_small o.last.2))
 |Mod=>refine zdA hv hu zaL λo h=>?_;exact mod_int' o.last h
 |BitAnd=>refine zdA hv hu (λp hp=>hp) λ_ h=>?_;exact and_int h
 |BitOr=>refine zdA hv hu (λp hp=>hp) λ_ h=>?_;exact or_int h
 |LShift=>refine zdA hv hu zaL λo h=>?_;exact lshift_int_small o.last.1 (Int.le_trans o.last.2.1 (by decide)) o.last.2.2 h
 |RShift=>refine zdA hv hu zaL λo h=>?_;exact rshift_int o.last h
 |_=>exact Sim.none
theorem sim_binop{op:Operator}{x y:DV}{v u:Value}(hv:(AV.d x,v)∈tm)(hu:(AV.d y,u)∈tm):Sim f tm st (binop op x y st) (binaryOp op v u) (pV f tm):=by
 induction x using DV.casesOn with
 |int a=>
  induction y using DV.casesOn with
  |int b=>exact sim_intop hv hu
  |_=>exact Sim.none
 |bytes a=>
  induction y using DV.casesOn with
  |bytes b=>
   induction op with
   |Add=>
    exact Sim.val zaL λhob A hA s Q E C h=>by
     obtain ⟨hl,t,rfl⟩:=C.bytes hv;obtain ⟨hl',t',rfl⟩:=C.bytes hu;have e:a.toArray++b.toArray=(a++b).toArray:=by simp
     refine KBy.add_bytes (by rw[List.size_toArray,List.size_toArray];exact Nat.le_trans hob.last (by decide)) λt'' k=>h _ k λG=>⟨by rw[List.length_append];exact Nat.le_trans hob.last (by decide),t'',by rw[e]⟩
   |_=>exact Sim.none
  |_=>exact Sim.none
 |_=>exact Sim.none
theorem asD_lst{objs:Objs}{i:Nat}{xs:List DV}(h:getT objs i=some (.lst xs)):asD objs (.r i)=some (.lst xs):=by
 show (match getT objs i with|some (.lst xs)=>some (DV.lst xs)|some (.tl ty xs)=>some (.tl ty xs)|_=>none)=_
 rw[h]
theorem asD_tl{objs:Objs}{i:Nat}{ty:Ty}{xs:List ty.den}(h:getT objs i=some (.tl ty xs)):asD objs (.r i)=some (.tl ty xs):=by
 show (match getT objs i with|some (.lst xs)=>some (DV.lst xs)|some (.tl ty xs)=>some (.tl ty xs)|_=>none)=_
 rw[h]
theorem zeJ{objs:Objs}{a:AV}{d:DV}(e:asD objs a=some d):a=.d d\/∃i,a=.r i/\((∃xs,getT objs i=some (.lst xs)/\d=.lst xs)\/∃ty xs,getT objs i=some (.tl ty xs)/\d=.tl ty xs):=by
 induction a with
 |d x=>injection e;exact .inl rfl
 |r i=>
  have e:(match getT objs i with|some (.lst xs)=>some (DV.lst xs)|some (.tl ty xs)=>some (.tl ty xs)|_=>none)=some d:=e
  refine .inr ⟨i,rfl,?_⟩;induction q:getT objs i with
  |none=>rw[q] at e;exact nn e
  |some o=>
   rw[q] at e;induction o with
   |lst xs=>injection e;exact .inl ⟨xs,rfl,rfl⟩
   |tl ty xs=>injection e;exact .inr ⟨ty,xs,rfl,rfl⟩
   |_=>exact nn e
theorem Core.seqList{g h:Heap}{m:Str->Option Value}{news Z:Led}{ρ μ:List Addr}{env:Env'}{objs:Objs}(c:Core f g m news Z ρ μ env objs tm h){b d:Addr}{k:Nat}{ps:List PV}(x:MSeq f.cx news (Fz f.cx.base Z) b d k ps)(hl:ps.length=k):
  ∃vs:List Value,h.IsList b vs.toArray/\VPs f.cx.K (Fz f.cx.base Z) ps vs/\ps.length<=big:=by
 obtain ⟨rfl,hk,vs,n,h3,h4⟩:=x;exact ⟨vs,⟨_,(c.nw _ h3).1,rfl,n,rfl⟩,h4,hl▸hk⟩
theorem Core.asList{g h:Heap}{m:Str->Option Value}{news Z:Led}{ρ μ:List Addr}{env:Env'}{objs:Objs}(c:Core f g m news Z ρ μ env objs tm h){a:AV}{u:Value}{d:DV}{ps:List PV}(e:asD objs a=some d)(hd:plain d=.lst ps)
  (hu:VA f.cx.K (Fz f.cx.base Z) ρ a u):∃(b:Addr) (vs:List Value),u=.ref b/\h.IsList b vs.toArray/\VPs f.cx.K (Fz f.cx.base Z) ps vs/\ps.length<=big:=by
 rcases zeJ e with rfl|⟨i,rfl,⟨xs,ho,rfl⟩|⟨ty,xs,ho,rfl⟩⟩
 ·have hu:VP f.cx.K (Fz f.cx.base Z) (plain d) u:=hu
  rw[hd] at hu;obtain ⟨b,o,vs,rfl,hG,⟨hc,n,hdd⟩,hl,hv⟩:=(hu:RefX (Fz f.cx.base Z) zg9 ps.length (VPs f.cx.K (Fz f.cx.base Z) ps) u);exact ⟨b,vs,rfl,⟨o,c.fz hG,hc,n,hdd⟩,hv,hl⟩
 ·obtain ⟨b,dd,h1,h2,x⟩:=c.obj ho
  obtain ⟨b',h7,rfl⟩:=hu;cases h1.symm.trans h7
  injection hd;obtain ⟨vs,h⟩:=c.seqList x (by rw[zaC,List.length_map])
  exact ⟨b,vs,rfl,h⟩
 ·obtain ⟨b,dd,h1,h2,x⟩:=c.obj ho
  obtain ⟨b',h7,rfl⟩:=hu;cases h1.symm.trans h7
  injection hd;obtain ⟨vs,h⟩:=c.seqList x (List.length_map ..);exact ⟨b,vs,rfl,h⟩
theorem Cfg.asList{env:Env'}{objs:Objs}{s:Shared}(C:Cfg f env objs tm s){a:AV}{u:Value}{d:DV}{ps:List PV}(e:asD objs a=some d)(hd:plain d=.lst ps)(hm:(a,u)∈tm):
  ∃(b:Addr) (vs:List Value),u=.ref b/\s.heap.IsList b vs.toArray/\vs.length=ps.length/\ps.length<=big:=by
 obtain ⟨hh,tk,g,m,news,Z,ρ,μ,rfl,c⟩:=C;obtain ⟨b,vs,h1,h2,h3,h4⟩:=c.asList e hd (c.tmr _ hm);exact ⟨b,vs,h1,h2,h3.length,h4⟩
theorem truthy_lst{prog:Program}{w:World}{A:Around}{E:Value->Shared->Prop}{s:Shared}{Q:Bool->Shared->Prop}{b:Addr}{vs:List Value}{n:Nat}{c:Bool}(hl:s.heap.IsList b vs.toArray)(hv:vs.length=n)(hb:n<=big)(hc:vs.isEmpty=!c)
  (h:∀tk,Q c {s with toks:=tk}):wpAny (model prog w) A (truthy (.ref b)) Q E s:=by
 refine wpAny_truthy_list hl (by rw[List.size_toArray,hv];exact big63 hb) ?_
 rw[List.isEmpty_toArray,hc,Bool.not_not];exact h _
theorem truth_ok{a:AV}{u:Value}{c:Bool}(e:truth st a=some c)(hm:(a,u)∈tm){A:Around}{s:Shared}{Q:Bool->Shared->Prop}{E:Value->Shared->Prop}
  (C:Cfg f st.env st.objs tm s) (h:∀tk,Q c {s with toks:=tk}):wpAny f.M A (truthy u) Q E s:=by
 have h0:Q c s:=h s.toks
 have go:∀{d:DV} {ps:List PV} {n:Nat},asD st.objs a=some d->plain d=.lst ps->ps.length=n->(n==0)=!c->wpAny f.M A (truthy u) Q E s:=by
  intro d ps n e1 e2 e3 e4;obtain ⟨b,vs,rfl,hl,hv,hb⟩:=C.asList e1 e2 hm;subst e3;refine truthy_lst hl hv hb ?_ h;rw[←e4,←hv];cases vs <;> rfl
 induction a with
 |d x=>
  induction x using DV.casesOn with
  |none=>injection e;rw[C.none hm];exact truthy_none h0
  |bool b=>injection e;rw[C.bool hm];exact wpAny_truthy_bool h0
  |lst xs=>injection e;exact go (d:=.lst xs) rfl rfl rfl (by rw[zaC];cases xs <;> rfl)
  |_=>exact nn e
 |r i=>
  have e:(match getT st.objs i with|some (.lst xs)=>some (!xs.isEmpty)|some (.tl _ xs)=>some (!xs.isEmpty)|_=>none)=some c:=e
  induction q:getT st.objs i with
  |none=>rw[q] at e;exact nn e
  |some o=>
   rw[q] at e;induction o with
   |lst xs=>injection e;exact go (asD_lst q) rfl rfl (by rw[zaC];cases xs <;> rfl)
   |tl ty xs=>injection e;exact go (asD_tl q) rfl (List.length_map ..) (by cases xs <;> rfl)
   |_=>exact nn e
end
end
section
open PySem PySem.W PyProof.Rows PySem.SeqAt
theorem zdU:Slot "bytes" (cmpInfo .Eq).2.2 "bytes.__eq__":=FB.slot_bytes_eq
theorem zdT:Slot "bytes" (cmpInfo .NotEq).2.2 "bytes.__ne__":=FB.slot_bytes_ne
theorem zh9(b:Array UInt8)(u:Tok):Gives (Builtin.«NoneType.__eq__» ⟨[.none,.bytes b u],[]⟩) (.val (Value.notImplemented)):=
 .of_wp λM A E s Q h=>by obtain ⟨hp,g,d,tk,os⟩:=s;wp_walk;exact ⟨_,rfl,h⟩
theorem zh8(b:Array UInt8)(u:Tok):Gives (Builtin.«NoneType.__ne__» ⟨[.none,.bytes b u],[]⟩) (.val (Value.notImplemented)):=
 .of_wp λM A E s Q h=>by obtain ⟨hp,g,d,tk,os⟩:=s;wp_walk;exact ⟨_,rfl,h⟩
theorem zhN(b:Array UInt8)(u:Tok):Gives (Builtin.«bytes.__eq__» ⟨[.bytes b u,.none],[]⟩) (.val (Value.notImplemented)):=
 .of_wp λM A E s Q h=>by
  obtain ⟨hp,g,d,tk,os⟩:=s;have f1:=F.sub_NoneType_bytes
  wp_walk
  exact ⟨_,rfl,h⟩
theorem zhM(b:Array UInt8)(u:Tok):Gives (Builtin.«bytes.__ne__» ⟨[.bytes b u,.none],[]⟩) (.val (Value.notImplemented)):=
 .of_wp λM A E s Q h=>by
  obtain ⟨hp,g,d,tk,os⟩:=s;have f1:=F.sub_NoneType_bytes
  wp_walk
  exact ⟨_,rfl,h⟩
section
variable{A:Around}{s:Shared}
theorem zh4(b:Array UInt8)(u:Tok):RcAt A s .none (.bytes b u) false:=λprog w E Q h=>
 rc_eq_decline_or (k:=false) rfl (typeIs_bytes s b u) (by decide) F.sub_bytes_NoneType F.slot_NoneType_eq zdU
  (λ_ hq=>call_gives F.slot_NoneType_eq rfl F.entry_NoneType_eq (F.args_NoneType_eq_2 _ _) (zh9 b u) hq)
  (λ_ hq=>call_gives zdU (typeIs_bytes s b u) FB.entry_bytes_eq (FB.args_bytes_eq_2 _ _) (zhN b u) hq)
  (λ_ hq=>wpAny_of_eq (rfl:isSame .none (.bytes b u)=pure false) hq) (.inl rfl) h
theorem zh5(b:Array UInt8)(u:Tok):RcAt A s (.bytes b u) .none false:=λprog w E Q h=>
 rc_eq_decline_or (k:=false) (typeIs_bytes s b u) rfl (by decide) F.sub_NoneType_bytes FB.slot_bytes_eq F.slot_NoneType_eq
  (λ_ hq=>call_gives FB.slot_bytes_eq (typeIs_bytes s b u) FB.entry_bytes_eq (FB.args_bytes_eq_2 _ _) (zhN b u) hq)
  (λ_ hq=>call_gives F.slot_NoneType_eq rfl F.entry_NoneType_eq (F.args_NoneType_eq_2 _ _) (zh9 b u) hq)
  (λ_ hq=>wpAny_of_eq (rfl:isSame (.bytes b u) .none=pure false) hq) (.inl rfl) h
theorem rn_none_bytes(b:Array UInt8)(u:Tok):RcNeAt A s .none (.bytes b u) true:=λprog w E Q h=>
 rc_ne_decline_or (k:=false) rfl (typeIs_bytes s b u) (by decide) F.sub_bytes_NoneType F.slot_NoneType_ne zdT
  (λ_ hq=>call_gives F.slot_NoneType_ne rfl F.entry_NoneType_ne (F.args_NoneType_ne_2 _ _) (zh8 b u) hq)
  (λ_ hq=>call_gives zdT (typeIs_bytes s b u) FB.entry_bytes_ne (FB.args_bytes_ne_2 _ _) (zhM b u) hq)
  (λ_ hq=>wpAny_of_eq (rfl:isSame .none (.bytes b u)=pure false) hq) (.inl rfl) h
theorem rn_bytes_none(b:Array UInt8)(u:Tok):RcNeAt A s (.bytes b u) .none true:=λprog w E Q h=>
 rc_ne_decline_or (k:=false) (typeIs_bytes s b u) rfl (by decide) F.sub_NoneType_bytes FB.slot_bytes_ne F.slot_NoneType_ne
  (λ_ hq=>call_gives FB.slot_bytes_ne (typeIs_bytes s b u) FB.entry_bytes_ne (FB.args_bytes_ne_2 _ _) (zhM b u) hq)
  (λ_ hq=>call_gives F.slot_NoneType_ne rfl F.entry_NoneType_ne (F.args_NoneType_ne_2 _ _) (zh8 b u) hq)
  (λ_ hq=>wpAny_of_eq (rfl:isSame (.bytes b u) .none=pure false) hq) (.inl rfl) h
theorem rc_bytes(b c:Array UInt8)(t u:Tok):RcAt A s (.bytes b t) (.bytes c u) (b.toList==c.toList):=λprog w E Q h=>eq_bytes h
theorem rn_bytes(b c:Array UInt8)(t u:Tok):RcNeAt A s (.bytes b t) (.bytes c u) (b.toList != c.toList):=λprog w E Q h=>ne_bytes h
theorem eqAt_none_bytes(b:Array UInt8)(u:Tok):EqAt A s .none (.bytes b u) false:=λprog w E Q h=>by
 unfold eqBool;refine wpAny_holding ?_
 refine wpAny_ite_split (λhab=>absurd (eq_of_beq hab) nofun) (λ_=>?_)
 exact wpAny_bind (zh4 b u prog w E _ (wpAny_truthy_bool h))
theorem eqAt_bytes_none(b:Array UInt8)(u:Tok):EqAt A s (.bytes b u) .none false:=λprog w E Q h=>by
 unfold eqBool;refine wpAny_holding ?_
 refine wpAny_ite_split (λhab=>absurd (eq_of_beq hab) nofun) (λ_=>?_)
 exact wpAny_bind (zh5 b u prog w E _ (wpAny_truthy_bool h))
theorem eqAt_bytes(b c:Array UInt8)(t u:Tok):EqAt A s (.bytes b t) (.bytes c u) (decide (b.toList=c.toList)):=λprog w E Q h=>eqBool_bytes h
end
end
section
open PySem PySem.W PyProof.Rows PySem.SeqAt
noncomputable def zd9(p:PV->PV->Option Bool):List PV->List PV->Option Bool
 |[],_=>some true
 |x::xs,ys=>(match ys with
  |[]=>some true
  |y::ys=>opb (p x y) λa=>opb (zd9 p xs ys) λb=>some (a&&b))
noncomputable def peqN:Nat->PV->PV->Option Bool
 |0,_,_=>none
 |n+1,x,y=>match x with
  |.none=>(match y with
   |.none=>some true
   |.bytes _=>some false
   |_=>none)
  |.bool a=>(match y with
   |.bool b=>some (a==b)
   |_=>none)
  |.int a=>(match y with
   |.int b=>some (a==b)
   |_=>none)
  |.bytes a=>(match y with
   |.bytes b=>some (decide (a=b))
   |.none=>some false
   |_=>none)
  |.tup xs=>(match y with
   |.tup ys=>opb (zd9 (peqN n) xs ys) λr=>some (r&&xs.length==ys.length)
   |_=>none)
  |.lst xs=>(match y with
   |.lst ys=>(match xs.length==ys.length with|true=>zd9 (peqN n) xs ys|false=>some false)
   |_=>none)
  |_=>none
section
variable{K:Frag}{G:Addr->Obj->Prop}{A:Around}{s:Shared}
theorem zeM{p:PV->PV->Option Bool}{xs:List PV}:∀{ys:List PV} {r:Bool},zd9 p xs ys=some r->∃e:Nat->Bool,(∀j x y,xs[j]?=some x->ys[j]?=some y->p x y=some (e j))/\r=(List.range (min xs.length ys.length)).all e:=by
 induction xs with
 |nil=>intro ys r h;injection h;exact ⟨λ_=>true,λj x y h=>nn h,by rw[List.length_nil,Nat.zero_min];rfl⟩
 |cons x xs ih=>
  intro ys r h;induction ys using List.casesOn with
  |nil=>injection h;exact ⟨λ_=>true,λj x y _ h=>nn h,by rw[List.length_nil,Nat.min_zero];rfl⟩
  |cons y ys=>
   obtain ⟨a,e1,h⟩:=za3 h;obtain ⟨b,e2,h⟩:=za3 h;injection h;obtain ⟨e,h1,rfl⟩:=ih e2;refine ⟨λj=>Nat.rec a (λj _=>e j) j,λj u v hu hv=>?_,?_⟩
   ·induction j using Nat.casesAuxOn with
    |zero=>injection hu;injection hv;exact e1
    |succ j=>exact h1 j u v hu hv
   ·rw[List.length_cons,List.length_cons,Nat.add_min_add_right,List.range_succ_eq_map,List.all_cons,List.all_map]
    rfl
inductive PEq(n:Nat):PV->PV->Bool->Prop
 |nn:PEq n .none .none true
 |nb (b:Byt):PEq n .none (.bytes b) false
 |bn (b:Byt):PEq n (.bytes b) .none false
 |bool (a b:Bool):PEq n (.bool a) (.bool b) (a==b)
 |int (a b:Int):PEq n (.int a) (.int b) (a==b)
 |bytes (a b:Byt):PEq n (.bytes a) (.bytes b) (decide (a=b))
 |tup (xs ys:List PV) (r:Bool) (h:zd9 (peqN n) xs ys=some r):PEq n (.tup xs) (.tup ys) (r&&xs.length==ys.length)
 |lst (xs ys:List PV) (r:Bool) (h:(match xs.length==ys.length with|true=>zd9 (peqN n) xs ys|false=>some false)=some r):PEq n (.lst xs) (.lst ys) r
theorem peqN_inv{n:Nat}{x y:PV}{r:Bool}(h:peqN (n+1) x y=some r):PEq n x y r:=by
 induction x using PV.casesOn with
 |none=>
  induction y using PV.casesOn with
  |none=>injection h;exact .nn
  |bytes b=>injection h;exact .nb b
  |_=>exact nn h
 |bool a=>
  induction y using PV.casesOn with
  |bool b=>injection h;exact .bool a b
  |_=>exact nn h
 |int a=>
  induction y using PV.casesOn with
  |int b=>injection h;exact .int a b
  |_=>exact nn h
 |bytes a=>
  induction y using PV.casesOn with
  |bytes b=>injection h;exact .bytes a b
  |none=>injection h;exact .bn a
  |_=>exact nn h
 |tup xs=>
  induction y using PV.casesOn with
  |tup ys=>obtain ⟨r',q,h⟩:=za3 h;injection h;exact .tup xs ys r' q
  |_=>exact nn h
 |lst xs=>
  induction y using PV.casesOn with
  |lst ys=>exact .lst xs ys r h
  |_=>exact nn h
 |_=>exact nn h
theorem seq_one{o:Obj}{xs ys:List Value}{n k:Nat}(h1:o.data=.seq xs.toArray n)(h2:o.data=.seq ys.toArray k):xs=ys:=by
 rw[h1] at h2;injection h2 with h2 _
 injection h2;rfl
theorem VP.same{x y:PV}{v:Value}:∀{n:Nat} {r:Bool},peqN n x y=some r->VP K G x v->VP K G y v->(∀a o o',G a o->G a o'->o=o')->r=true:=by
 intro n;induction n generalizing x y v with
 |zero=>intro r h;injection h
 |succ n ih=>
  intro r h;have i:=peqN_inv h;clear h
  have go:∀{xs ys:List PV} {vs:List Value} {e:Nat->Bool},VPs K G xs vs->VPs K G ys vs->(∀j x y,xs[j]?=some x->ys[j]?=some y->peqN n x y=some (e j))->(∀a o o',G a o->G a o'->o=o')->(List.range (min xs.length ys.length)).all e=true:=by
   intro xs ys vs e h1 h2 he hG;rw[List.all_eq_true];intro j hj;have hj:=List.mem_range.mp hj;have a1:j<xs.length:=Nat.lt_of_lt_of_le hj (Nat.min_le_left _ _);have a2:j<ys.length:=Nat.lt_of_lt_of_le hj (Nat.min_le_right _ _);obtain ⟨v,b1,b2⟩:=h1.get (List.getElem?_eq_getElem a1);obtain ⟨v',b3,b4⟩:=h2.get (List.getElem?_eq_getElem a2);rw[b1] at b3;cases b3
   exact ih (he j _ _ (List.getElem?_eq_getElem a1) (List.getElem?_eq_getElem a2)) b2 b4 hG
  induction i with
  |nn=>exact λ_ _ _=>rfl
  |nb b=>
   intro hx hy hG;obtain ⟨_,t,e⟩:=(hy:b.length<=big/\∃t,v=.bytes b.toArray t);cases (hx:v=.none).symm.trans e
  |bn b=>
   intro hx hy hG;obtain ⟨_,t,e⟩:=(hx:b.length<=big/\∃t,v=.bytes b.toArray t);cases e.symm.trans (hy:v=.none)
  |bool a b=>
   intro hx hy hG;cases (hx:v=.bool a).symm.trans (hy:v=.bool b);exact beq_self_eq_true a
  |int a b=>
   intro hx hy hG;obtain ⟨t,e⟩:=(hx:∃t,v=.int a t);obtain ⟨t',e'⟩:=(hy:∃t,v=.int b t);cases e.symm.trans e'
   exact beq_self_eq_true a
  |bytes a b=>
   intro hx hy hG;obtain ⟨_,t,e⟩:=(hx:a.length<=big/\∃t,v=.bytes a.toArray t);obtain ⟨_,t',e'⟩:=(hy:b.length<=big/\∃t,v=.bytes b.toArray t);cases e.symm.trans e'
   exact decide_eq_true rfl
  |tup xs ys r' q=>
   intro hx hy hG;obtain ⟨a,o,vs,e,g1,⟨_,n1,d1⟩,_,v1⟩:=(hx:RefX G zfJ xs.length (VPs K G xs) v);obtain ⟨a',o',vs',e',g2,⟨_,n2,d2⟩,_,v2⟩:=(hy:RefX G zfJ ys.length (VPs K G ys) v);cases e.symm.trans e'
   cases hG _ _ _ g1 g2
   cases seq_one d1 d2
   obtain ⟨ee,h1,rfl⟩:=zeM q;rw[go v1 v2 h1 hG,←v1.length,←v2.length,beq_self_eq_true];rfl
  |lst xs ys _ h=>
   intro hx hy hG;obtain ⟨a,o,vs,e,g1,⟨_,n1,d1⟩,_,v1⟩:=(hx:RefX G zg9 xs.length (VPs K G xs) v);obtain ⟨a',o',vs',e',g2,⟨_,n2,d2⟩,_,v2⟩:=(hy:RefX G zg9 ys.length (VPs K G ys) v);cases e.symm.trans e'
   cases hG _ _ _ g1 g2
   cases seq_one d1 d2
   rw[←v1.length,←v2.length,beq_self_eq_true] at h;obtain ⟨ee,h1,rfl⟩:=zeM h;exact go v1 v2 h1 hG
noncomputable abbrev E3(A:Around)(s:Shared)(v u:Value)(r:Bool):Prop:=EqAt A s v u r/\RcAt A s v u r/\RcNeAt A s v u (!r)
theorem peq_refs{x y:PV}{v u:Value}{r:Bool}{n:Nat}{a b:Addr}(h:peqN n x y=some r)(hx:VP K G x v)(hy:VP K G y u)(hG:∀a o,G a o->s.heap.get? a=some o)(e1:v=.ref a)(e2:u=.ref b)(h1:RcAt A s v u r)(h2:RcNeAt A s v u (!r)):E3 A s v u r:=by
 refine ⟨?_,h1,h2⟩;subst e1 e2;by_cases q:a=b
 ·subst q
  rw[VP.same h hx hy λa o o' h1 h2=>Option.some.inj ((hG _ _ h1).symm.trans (hG _ _ h2))]
  exact EqAt.same _
 ·exact EqAt.of_refs q h1
theorem byt_beq{a b:Byt}:(a==b)=decide (a=b):=by by_cases q:a=b <;> simp[q]
theorem peq_bytes{a b:Byt}{t t':Tok}:E3 A s (.bytes a.toArray t) (.bytes b.toArray t') (decide (a=b)):=by
 refine ⟨eqAt_bytes _ _ _ _,?_,?_⟩
 ·have:=rc_bytes (A:=A) (s:=s) a.toArray b.toArray t t'
  rw[byt_beq] at this;exact this
 ·have:=rn_bytes (A:=A) (s:=s) a.toArray b.toArray t t'
  rw[bne,byt_beq] at this;exact this
noncomputable def GoAt(K:Frag)(G:Addr->Obj->Prop)(A:Around)(s:Shared)(n:Nat):Prop:=∀{xs ys:List PV} {vs us:List Value} {e:Nat->Bool},VPs K G xs vs->VPs K G ys us->(∀j x y,xs[j]?=some x->ys[j]?=some y->peqN n x y=some (e j)) ->
 ∀j (h1:j<vs.toArray.size) (h2:j<us.toArray.size),EqAt A.in1 s vs.toArray[j] us.toArray[j] (e j)
theorem peq_tup{n:Nat}{xs ys:List PV}{v u:Value}{r:Bool}(go:GoAt K G A s n)(hu':A.units<cLine)(h:peqN (n+1) (.tup xs) (.tup ys)=some r)(hx:VP K G (.tup xs) v)(hy:VP K G (.tup ys) u)(hG:∀a o,G a o->s.heap.get? a=some o):E3 A s v u r:=by
 obtain ⟨r',q,h0⟩:=za3 h;injection h0;obtain ⟨ee,h1,rfl⟩:=zeM q;obtain ⟨a,o,vs,e1,g1,⟨c1,n1,d1⟩,_,v1⟩:=(id hx:RefX G zfJ xs.length (VPs K G xs) v);obtain ⟨a',o',vs',e2,g2,⟨c2,n2,d2⟩,_,v2⟩:=(id hy:RefX G zfJ ys.length (VPs K G ys) u);subst e1 e2;have t1:s.heap.IsTuple a vs.toArray:=⟨o,hG _ _ g1,c1,n1,d1⟩;have t2:s.heap.IsTuple a' vs'.toArray:=⟨o',hG _ _ g2,c2,n2,d2⟩;have k1:=RcAt.tuples t1 t2 hu' (go v1 v2 h1);have k2:=RcNeAt.tuples t1 t2 hu' (go v1 v2 h1);rw[List.size_toArray,List.size_toArray,v1.length,v2.length] at k1 k2;exact peq_refs h hx hy hG rfl rfl k1 k2
theorem peq_lst{n:Nat}{xs ys:List PV}{v u:Value}{r:Bool}(go:GoAt K G A s n)(hu':A.units<cLine)(h:peqN (n+1) (.lst xs) (.lst ys)=some r)(hx:VP K G (.lst xs) v)(hy:VP K G (.lst ys) u)(hG:∀a o,G a o->s.heap.get? a=some o):E3 A s v u r:=by
 have h0:(match xs.length==ys.length with|true=>zd9 (peqN n) xs ys|false=>some false)=some r:=h
 obtain ⟨a,o,vs,e1,g1,⟨c1,n1,d1⟩,_,v1⟩:=(id hx:RefX G zg9 xs.length (VPs K G xs) v);obtain ⟨a',o',vs',e2,g2,⟨c2,n2,d2⟩,_,v2⟩:=(id hy:RefX G zg9 ys.length (VPs K G ys) u);subst e1 e2;have t1:s.heap.IsList a vs.toArray:=⟨o,hG _ _ g1,c1,n1,d1⟩;have t2:s.heap.IsList a' vs'.toArray:=⟨o',hG _ _ g2,c2,n2,d2⟩;have z1:vs.toArray.size=xs.length:=v1.length;have z2:vs'.toArray.size=ys.length:=v2.length;induction q:xs.length==ys.length with
 |true=>
  rw[q] at h0;have q:=beq_iff_eq.mp q;obtain ⟨ee,h1,rfl⟩:=zeM h0;have hz:vs.toArray.size=vs'.toArray.size:=(z1.trans q).trans z2.symm;have k1:=RcAt.lists t1 t2 hz hu' (go v1 v2 h1);have k2:=RcNeAt.lists t1 t2 hz hu' (go v1 v2 h1);rw[z1,show xs.length=min xs.length ys.length by rw[q,Nat.min_self]] at k1 k2
  exact peq_refs h hx hy hG rfl rfl k1 k2
 |false=>
  rw[q] at h0;injection h0;have hz:(vs.toArray.size != vs'.toArray.size)=true:=by rw[z1,z2,bne,q];rfl
  exact peq_refs h hx hy hG rfl rfl (RcAt.lists_lengths t1 t2 hz hu') (RcNeAt.lists_lengths t1 t2 hz hu')
theorem peq_at:∀{n:Nat} {x y:PV} {v u:Value} {r:Bool} {A:Around},peqN n x y=some r->VP K G x v->VP K G y u->(∀a o,G a o->s.heap.get? a=some o)->A.units+n<cLine->E3 A s v u r:=by
 intro n;induction n with
 |zero=>intro x y v u r A h;injection h
 |succ n ih=>
  intro x y v u r A h hx hy hG hu
  have go:GoAt K G A s n:=by
   intro xs ys vs us e h1 h2 he j a1 a2;have b1:j<xs.length:=h1.length▸a1;have b2:j<ys.length:=h2.length▸a2;obtain ⟨w1,c1,c2⟩:=h1.get (List.getElem?_eq_getElem b1);obtain ⟨w2,c3,c4⟩:=h2.get (List.getElem?_eq_getElem b2);cases (List.getElem?_eq_getElem (l:=vs) a1).symm.trans c1
   cases (List.getElem?_eq_getElem (l:=us) a2).symm.trans c3
   exact (ih (he j _ _ (List.getElem?_eq_getElem b1) (List.getElem?_eq_getElem b2)) c2 c4 hG (by show A.units+1+n<cLine;rw[Nat.add_assoc,Nat.add_comm 1 n];exact hu)).1
  have hu':A.units<cLine:=Nat.lt_of_le_of_lt (Nat.le_add_right _ _) hu;induction peqN_inv h with
  |nn=>cases (hx:v=.none);cases (hy:u=.none);exact ⟨EqAt.same _,RcAt.none_none,RcNeAt.none_none⟩
  |nb b=>
   cases (hx:v=.none)
   obtain ⟨_,t,rfl⟩:=(hy:b.length<=big/\∃t,u=.bytes b.toArray t);exact ⟨eqAt_none_bytes _ _,zh4 _ _,rn_none_bytes _ _⟩
  |bn b=>
   cases (hy:u=.none)
   obtain ⟨_,t,rfl⟩:=(hx:b.length<=big/\∃t,v=.bytes b.toArray t);exact ⟨eqAt_bytes_none _ _,zh5 _ _,rn_bytes_none _ _⟩
  |bool a b=>cases (hx:v=.bool a);cases (hy:u=.bool b);exact ⟨EqAt.bool_bool _ _,RcAt.bool_bool _ _,RcNeAt.bool_bool _ _⟩
  |int a b=>
   obtain ⟨t,rfl⟩:=(hx:∃t,v=.int a t);obtain ⟨t',rfl⟩:=(hy:∃t,u=.int b t);exact ⟨EqAt.int_int _ _ _ _,RcAt.int_int _ _ _ _,RcNeAt.int_int _ _ _ _⟩
  |bytes a b=>
   obtain ⟨_,t,rfl⟩:=(hx:a.length<=big/\∃t,v=.bytes a.toArray t);obtain ⟨_,t',rfl⟩:=(hy:b.length<=big/\∃t,u=.bytes b.toArray t);exact peq_bytes
  |tup xs ys r' q=>exact peq_tup go hu' h hx hy hG
  |lst xs ys _ q=>exact peq_lst go hu' h hx hy hG
end
theorem eqDs_zip{p:DV->DV->Option Bool}{q:PV->PV->Option Bool}{xs:List DV}(hp:∀x y r,p x y=some r->q (plain x) (plain y)=some r):∀{ys:List DV} {r:Bool},eqDs p xs ys=some r->zd9 q (zaU xs) (zaU ys)=some r/\xs.length=ys.length:=by
 induction xs with
 |nil=>
  intro ys r h;induction ys using List.casesOn with
  |nil=>injection h;exact ⟨rfl,rfl⟩
  |cons _ _=>exact nn h
 |cons x xs ih=>
  intro ys r h;induction ys using List.casesOn with
  |nil=>exact nn h
  |cons y ys=>
   obtain ⟨a,e1,h⟩:=za3 h;obtain ⟨b,e2,h⟩:=za3 h;injection h;obtain ⟨h1,h2⟩:=ih e2;refine ⟨?_,congrArg (·+1) h2⟩
   show opb (q (plain x) (plain y)) (λa=>opb (zd9 q (zaU xs) (zaU ys)) λb=>some (a&&b))=_
   rw[hp _ _ _ e1,h1];rfl
theorem zi7{a b c:Prop}[Decidable a][Decidable b][Decidable c](h:c↔a/\b):(decide a&&decide b)=decide c:=by
 rw[←Bool.decide_and];exact decide_eq_decide.mpr h.symm
theorem zip_map{α:Type}[DecidableEq α]{f:α->PV}{q:PV->PV->Option Bool}(h:∀a b,q (f a) (f b)=some (decide (a=b))){xs:List α}:∀{ys:List α},xs.length=ys.length->zd9 q (xs.map f) (ys.map f)=some (decide (xs=ys)):=by
 induction xs with
 |nil=>intro ys e;cases List.length_eq_zero_iff.mp e.symm;rfl
 |cons x xs ih=>
  intro ys e;induction ys using List.casesOn with
  |nil=>injection e
  |cons y ys=>
   show opb (q (f x) (f y)) (λa=>opb (zd9 q (xs.map f) (ys.map f)) λb=>some (a&&b))=_
   rw[h,ih (Nat.succ.inj e)];exact congrArg some (zi7 List.cons_eq_cons)
theorem zip_mapT{α:Type}[DecidableEq α]{f:α->PV}{q:PV->PV->Option Bool}(h:∀a b,q (f a) (f b)=some (decide (a=b))){xs:List α}:∀{ys:List α},∃r,zd9 q (xs.map f) (ys.map f)=some r/\(r&&xs.length==ys.length)=decide (xs=ys):=by
 induction xs with
 |nil=>intro ys;refine ⟨true,rfl,?_⟩;cases ys <;> rfl
 |cons x xs ih=>
  intro ys;induction ys using List.casesOn with
  |nil=>exact ⟨true,rfl,rfl⟩
  |cons y ys=>
   obtain ⟨r,h1,h2⟩:=ih (ys:=ys);refine ⟨decide (x=y)&&r,?_,?_⟩
   ·show opb (q (f x) (f y)) (λa=>opb (zd9 q (xs.map f) (ys.map f)) λb=>some (a&&b))=_
    rw[h,h1];rfl
   ·show (decide (x=y)&&r&&(xs.length+1==ys.length+1))=_
    rw[Bool.and_assoc,show (xs.length+1==ys.length+1)=(xs.length==ys.length) from by simp,h2]
    exact zi7 List.cons_eq_cons
theorem peq_kv(n:Nat)(a b:Byt×Byt):peqN (n+2) (Ty.plain .kv a) (Ty.plain .kv b)=some (decide (a=b)):=by
 obtain ⟨a1,a2⟩:=a;obtain ⟨b1,b2⟩:=b;show some ((decide (a1=b1)&&(decide (a2=b2)&&true))&&true)=_
 rw[Bool.and_true,Bool.and_true];exact congrArg some (zi7 (iff_of_eq (Prod.mk.injEq ..)))
theorem peq_seat(n:Nat)(a b:Int×Int×Bool×Byt):peqN (n+2) (Ty.plain .seat a) (Ty.plain .seat b)=some (decide (a=b)):=by
 obtain ⟨a1,a2,a3,a4⟩:=a;obtain ⟨b1,b2,b3,b4⟩:=b;show some (((a1==b1)&&((a2==b2)&&((a3==b3)&&(decide (a4=b4)&&true))))&&true)=_
 rw[Bool.and_true,Bool.and_true];exact congrArg some ((congrArg ((a1==b1)&&·) ((congrArg ((a2==b2)&&·) (zi7 (a:=a3=b3) (iff_of_eq (Prod.mk.injEq ..)))).trans (zi7 (a:=a2=b2) (iff_of_eq (Prod.mk.injEq ..))))).trans (zi7 (a:=a1=b1) (iff_of_eq (Prod.mk.injEq ..))))
theorem peq_int(n:Nat)(a b:Int):peqN (n+1) (Ty.plain .int a) (Ty.plain .int b)=some (decide (a=b)):=by
 show some (a==b)=_
 by_cases q:a=b <;> simp[q]
theorem peq_tups{α:Type}[DecidableEq α]{g:α->PV}{n:Nat}(h:∀a b,peqN n (g a) (g b)=some (decide (a=b)))(xs ys:List α):peqN (n+1) (.tup (xs.map g)) (.tup (ys.map g))=some (decide (xs=ys)):=by
 obtain ⟨r,h1,h2⟩:=zip_mapT (xs:=xs) (ys:=ys) h;show opb (zd9 (peqN n) (xs.map g) (ys.map g)) (λr=>some (r&&(xs.map g).length==(ys.map g).length))=_
 rw[h1,List.length_map,List.length_map];exact congrArg some h2
theorem peq_lists{α:Type}[DecidableEq α]{g:α->PV}{n:Nat}(h:∀a b,peqN n (g a) (g b)=some (decide (a=b)))(xs ys:List α):peqN (n+1) (.lst (xs.map g)) (.lst (ys.map g))=some (decide (xs=ys)):=by
 show (match (xs.map g).length==(ys.map g).length with|true=>zd9 (peqN n) (xs.map g) (ys.map g)|false=>some false)=_
 rw[List.length_map,List.length_map];by_cases q:xs.length=ys.length
 ·rw[beq_iff_eq.mpr q];exact zip_map h q
 ·rw[beq_eq_false_iff_ne.mpr q]
  exact congrArg some (Eq.symm (decide_eq_false λe=>q (congrArg List.length e)))
theorem obP_eq{n:Nat}{a b:Option Byt}:peqN (n+1) (obP a) (obP b)=some (eqO a b):=by
 induction a with
 |none=>cases b <;> rfl
 |some a=>
  induction b with
  |none=>rfl
  |some b=>exact congrArg some (decide_eq_decide.mpr (Option.some_inj).symm)
inductive DEq(n:Nat):DV->DV->Bool->Prop
 |p (x y:DV) (r:Bool) (h:peqN (n+4) (plain x) (plain y)=some r):DEq n x y r
 |tup (xs ys:List DV) (r:Bool) (h:eqDs (eqDn n) xs ys=some r):DEq n (.tup xs) (.tup ys) r
theorem eqDn_inv{n:Nat}{x y:DV}{r:Bool}(h:eqDn (n+1) x y=some r):DEq n x y r:=by
 induction x using DV.casesOn with
 |none=>
  induction y using DV.casesOn with
  |none=>injection h;exact .p _ _ _ rfl
  |ob b=>injection h;exact .p _ _ _ (by cases b <;> rfl)
  |bytes b=>injection h;exact .p _ _ _ rfl
  |_=>exact nn h
 |bool a=>
  induction y using DV.casesOn with
  |bool b=>injection h;exact .p _ _ _ rfl
  |_=>exact nn h
 |int a=>
  induction y using DV.casesOn with
  |int b=>injection h;exact .p _ _ _ (peq_int (n+3) a b)
  |_=>exact nn h
 |bytes a=>
  induction y using DV.casesOn with
  |bytes b=>injection h;exact .p _ _ _ rfl
  |ob b=>injection h;exact .p _ _ _ (obP_eq (a:=some a))
  |none=>injection h;exact .p _ _ _ rfl
  |_=>exact nn h
 |ob a=>
  induction y using DV.casesOn with
  |ob b=>injection h;exact .p _ _ _ obP_eq
  |bytes b=>injection h;exact .p _ _ _ (obP_eq (b:=some b))
  |none=>injection h;exact .p _ _ _ (by cases a <;> rfl)
  |_=>exact nn h
 |tup xs=>
  induction y using DV.casesOn with
  |tup ys=>exact .tup xs ys r h
  |_=>exact nn h
 |tt ty xs=>
  induction ty with
  |int=>
   induction y using DV.casesOn with
   |tt ty ys=>
    induction ty with
    |int=>injection h;exact .p _ _ _ (peq_tups (α:=Int) (peq_int (n+2)) xs ys)
    |_=>exact nn h
   |tup ys=>
    induction ys using List.casesOn with
    |nil=>injection h;exact .p _ _ _ (by cases xs <;> rfl)
    |cons y ys=>exact nn h
   |_=>exact nn h
  |_=>exact nn h
 |tl ty xs=>
  induction ty with
  |kv=>
   induction y using DV.casesOn with
   |tl ty ys=>
    induction ty with
    |kv=>injection h;exact .p _ _ _ (peq_lists (α:=Byt×Byt) (peq_kv (n+1)) xs ys)
    |_=>exact nn h
   |_=>exact nn h
  |seat=>
   induction y using DV.casesOn with
   |tl ty ys=>
    induction ty with
    |seat=>injection h;exact .p _ _ _ (peq_lists (α:=Int×Int×Bool×Byt) (peq_seat (n+1)) xs ys)
    |_=>exact nn h
   |_=>exact nn h
  |_=>exact nn h
 |_=>exact nn h
theorem eqDn_plain{n:Nat}:∀{x y:DV} {r:Bool},eqDn n x y=some r->peqN (n+3) (plain x) (plain y)=some r:=by
 induction n with
 |zero=>intro x y r h;injection h
 |succ n ih=>
  intro x y r h;cases eqDn_inv h with
  |p _ _ _ h=>exact h
  |tup xs ys _ h=>
   obtain ⟨h1,h2⟩:=eqDs_zip (q:=peqN (n+3)) (λx y r e=>ih e) h
   show opb (zd9 (peqN (n+3)) (zaU xs) (zaU ys)) (λr=>some (r&&(zaU xs).length==(zaU ys).length))=_
   rw[h1,zaC,zaC,List.length_map,List.length_map,h2,beq_self_eq_true];exact congrArg some (Bool.and_true _)
end
section
open PySem PySem.W PyProof.Rows PySem.SeqAt
theorem zeQ:Slot "bytes" (cmpInfo .Lt).2.1 "bytes.__lt__":=
 .of (owner := "bytes") (n := "__lt__") (by rw[typeLookup_type,builtinLookup_eq_fast];kernel_rfl) (by decide +kernel) (by decide +kernel) (by decide +kernel)
  (by first|exact .inl (by decide +kernel)|exact .inr (by decide +kernel)) (by rw[isSubtype_type];kernel_rfl)
theorem slot_bytes_ge:Slot "bytes" (cmpInfo .GtE).2.1 "bytes.__ge__":=
 .of (owner := "bytes") (n := "__ge__") (by rw[typeLookup_type,builtinLookup_eq_fast];kernel_rfl) (by decide +kernel) (by decide +kernel) (by decide +kernel)
  (by first|exact .inl (by decide +kernel)|exact .inr (by decide +kernel)) (by rw[isSubtype_type];kernel_rfl)
theorem zgB:entryFor table "bytes.__lt__"=some Builtin.«bytes.__lt__»:=entryFor_of_tree (by kernel_rfl)
theorem entry_bytes_ge:entryFor table "bytes.__ge__"=some Builtin.«bytes.__ge__»:=entryFor_of_tree (by kernel_rfl)
theorem zhO (a b:Value):argsOk "bytes.__lt__" ⟨[a,b],[]⟩:=by
 unfold argsOk;rw[signature?_of (id := "bytes.__lt__") (n:=['_','_','t','l','_','_']) (o:=['s','e','t','y','b']) (by kernel_rfl) FB.owner_bytes];kernel_rfl
theorem args_bytes_ge (a b:Value):argsOk "bytes.__ge__" ⟨[a,b],[]⟩:=by
 unfold argsOk;rw[signature?_of (id := "bytes.__ge__") (n:=['_','_','e','g','_','_']) (o:=['s','e','t','y','b']) (by kernel_rfl) FB.owner_bytes];kernel_rfl
theorem order_lt:∀a b:List UInt8,(Builtin.Bytes.order a b==.lt)=ltB a b/\(Builtin.Bytes.order a b != .lt)=!ltB a b
 |[],[]=>⟨rfl,rfl⟩
 |[],_::_=>⟨rfl,rfl⟩
 |_::_,[]=>⟨rfl,rfl⟩
 |x::a,y::b=>by
  have k:(Builtin.Bytes.order (x::a) (y::b)==.lt)=ltB (x::a) (y::b):=by
   unfold Builtin.Bytes.order ltB;by_cases h1:x<y
   ·have:x.toNat<y.toNat:=h1
    simp[h1,this]
   ·have n1:¬ x.toNat<y.toNat:=h1
    by_cases h2:x>y
    ·have:y.toNat<x.toNat:=h2
     simp[h1,h2,n1,this]
    ·have n2:¬ y.toNat<x.toNat:=h2
     simp[h1,h2,n1,n2,(order_lt a b).1]
  exact ⟨k,by rw[bne,k]⟩
theorem zgA(b c:Array UInt8)(t u:Tok):Gives (Builtin.«bytes.__lt__» ⟨[.bytes b t,.bytes c u],[]⟩) (.val (.bool (ltB b.toList c.toList))):=by
 refine .of_wp λM A E s Q hq=>?_
 show wpAny M A (isInstance (.bytes c u) (.type "bytes") >>= λr=>_) _ E s
 refine wpAny_bind (wpAny_isInstance (typeIs_bytes s c u) F.sub_bytes_bytes ?_);exact wpAny_pure ⟨_,rfl,by rw[←(order_lt _ _).1] at hq;exact hq⟩
theorem gives_bytes_ge(b c:Array UInt8)(t u:Tok):Gives (Builtin.«bytes.__ge__» ⟨[.bytes b t,.bytes c u],[]⟩) (.val (.bool (!ltB b.toList c.toList))):=by
 refine .of_wp λM A E s Q hq=>?_
 show wpAny M A (isInstance (.bytes c u) (.type "bytes") >>= λr=>_) _ E s
 refine wpAny_bind (wpAny_isInstance (typeIs_bytes s c u) F.sub_bytes_bytes ?_);exact wpAny_pure ⟨_,rfl,by rw[←(order_lt _ _).2] at hq;exact hq⟩
section
variable{prog:Program}{w:World}{A:Around}{E:Value->Shared->Prop}{s:Shared}{b c:Array UInt8}{t u:Tok}{Q:Value->Shared->Prop}
theorem lt_bytes(h:Q (.bool (ltB b.toList c.toList)) s):wpAny (model prog w) A (compareOp .Lt (.bytes b t) (.bytes c u)) Q E s:=
 compareOp_gives (op:=.Lt) (typeIs_bytes s b t) (typeIs_bytes s c u) zeQ zgB (zhO _ _) (zgA b c t u) (λe=>nomatch e) h
theorem ge_bytes(h:Q (.bool (!ltB b.toList c.toList)) s):wpAny (model prog w) A (compareOp .GtE (.bytes b t) (.bytes c u)) Q E s:=
 compareOp_gives (op:=.GtE) (typeIs_bytes s b t) (typeIs_bytes s c u) slot_bytes_ge entry_bytes_ge (args_bytes_ge _ _) (gives_bytes_ge b c t u) (λe=>nomatch e) h
end
section
variable{f:FC}{Sp:Spec}{lc:Nms}{ih:Task->S->Out}{tm:List (AV×Value)}{st:S}
noncomputable def At(h:Heap)(a:Addr)(o:Obj):Prop:=h.get? a=some o
theorem Core.seqVP{g h:Heap}{m:Str->Option Value}{news Z:Led}{ρ μ:List Addr}{env:Env'}{objs:Objs}(c:Core f g m news Z ρ μ env objs tm h){b d:Addr}{k:Nat}{ps:List PV}(x:MSeq f.cx news (Fz f.cx.base Z) b d k ps)(hl:ps.length=k):VP f.cx.K (At h) (.lst ps) (.ref b):=by
 obtain ⟨rfl,hk,vs,n,h3,h4⟩:=x;exact ⟨b,_,vs,rfl,(c.nw _ h3).1,⟨rfl,n,rfl⟩,hl▸hk,h4.mono λa o q=>c.fz q⟩
theorem Core.asVP{g h:Heap}{m:Str->Option Value}{news Z:Led}{ρ μ:List Addr}{env:Env'}{objs:Objs}(c:Core f g m news Z ρ μ env objs tm h){a:AV}{u:Value}{d:DV}(e:asD objs a=some d)
  (hu:VA f.cx.K (Fz f.cx.base Z) ρ a u):VP f.cx.K (At h) (plain d) u:=by
 rcases zeJ e with rfl|⟨i,rfl,⟨xs,ho,rfl⟩|⟨ty,xs,ho,rfl⟩⟩
 ·exact VP.mono (λa o q=>c.fz q) hu
 ·obtain ⟨b,dd,h1,h2,x⟩:=c.obj ho
  obtain ⟨b',h7,rfl⟩:=hu;cases h1.symm.trans h7
  exact c.seqVP x (by rw[zaC,List.length_map])
 ·obtain ⟨b,dd,h1,h2,x⟩:=c.obj ho
  obtain ⟨b',h7,rfl⟩:=hu;cases h1.symm.trans h7
  exact c.seqVP x (List.length_map ..)
theorem VP.isNone{K:Frag}{G:Addr->Obj->Prop}{x:PV}{v:Value}(h:VP K G x v)(hx:x≠.none):v≠.none/\(∀y,v≠.builtin y):=by
 induction x using PV.casesOn with
 |none=>exact absurd rfl hx
 |bool b=>cases (h:v=.bool b);exact ⟨nofun,nofun⟩
 |int i=>obtain ⟨t,rfl⟩:=(h:∃t,v=.int i t);exact ⟨nofun,nofun⟩
 |str=>obtain ⟨s,t,rfl⟩:=(h:∃s t,v=.str s t);exact ⟨nofun,nofun⟩
 |bytes b=>obtain ⟨_,t,rfl⟩:=(h:b.length<=big/\∃t,v=.bytes b.toArray t);exact ⟨nofun,nofun⟩
 |_=>obtain ⟨a,rfl⟩:=VP.isRef h rfl;exact ⟨nofun,nofun⟩
theorem zdW{v:Value}(h:∀y,v≠.builtin y):PySem.plainIs v .none=true:=by
 induction v with
 |builtin y=>exact absurd rfl (h y)
 |_=>rfl
theorem is_none{M:Model}{A:Around}{E:Value->Shared->Prop}{s:Shared}{Q:Value->Shared->Prop}{x:PV}{v:Value}{K:Frag}{G:Addr->Obj->Prop}{c:Bool}(h:VP K G x v)(hc:(c=true↔x=.none))
  (hq:Q (.bool c) s):wpAny M A (compareOp .Is v .none) Q E s:=by
 by_cases q:x=.none
 ·subst q
  cases (h:v=.none)
  rw[hc.mpr rfl] at hq;exact wpAny_is_self rfl hq
 ·obtain ⟨h1,h2⟩:=h.isNone q
  have:c=false:=by induction c with|false=>rfl|true=>exact absurd (hc.mp rfl) q
  subst this;exact wpAny_is_other (zdW h2) h1 hq
theorem isnot_none{M:Model}{A:Around}{E:Value->Shared->Prop}{s:Shared}{Q:Value->Shared->Prop}{x:PV}{v:Value}{K:Frag}{G:Addr->Obj->Prop}{c:Bool}(h:VP K G x v)(hc:(c=false↔x=.none))
  (hq:Q (.bool c) s):wpAny M A (compareOp .IsNot v .none) Q E s:=by
 by_cases q:x=.none
 ·subst q
  cases (h:v=.none)
  rw[hc.mpr rfl] at hq;exact wpAny_isNot_self rfl hq
 ·obtain ⟨h1,h2⟩:=h.isNone q
  have:c=true:=by induction c with|true=>rfl|false=>exact absurd (hc.mp rfl) q
  subst this;exact wpAny_isNot_other (zdW h2) h1 hq
theorem zfU:∀{es:List (Byt×Byt)} {kvs:List (Byt×Value)},KV es kvs->∀k,match dget k es with|some v=>v.length<=big/\∃t,valueAt kvs k=some (.bytes v.toArray t)|none=>valueAt kvs k=none:=by
 intro l;induction l with
 |nil=>exact @λ_ h k=>by injection h;rfl
 |cons hd r ih=>
  obtain ⟨a,v⟩:=hd;intro _ h k;obtain ⟨t,kr,rfl,hl,h'⟩:=h;have ih:=ih h' k;rw[zcZ];by_cases q:a=k
  ·subst q
   simp only[decide_true,cond_true];exact ⟨hl,t,by simp[valueAt]⟩
  ·have e:valueAt ((a,Value.bytes v.toArray t)::kr) k=valueAt kr k:=by
    simp[valueAt,List.find?_cons,q]
   simp only[q,decide_false,cond_false];rw[e];exact ih
end
end
section
open PySem PySem.W PyProof.Rows PySem.SeqAt
section
variable{f:FC}{Sp:Spec}{lc:Nms}{ih:Task->S->Out}{tm:List (AV×Value)}{st:S}
theorem dictOf_at{prog:Program}{w:World}{knd:PySem.KeyKind prog w (List UInt8)}{h:Heap}{a:Addr}{o:Obj}{kvs:List (List UInt8×Value)}(hg:h.get? a=some o)(x:o.IsDictOf knd kvs):h.DictOf knd a kvs:=by
 obtain ⟨es,ep,x1,x2,x3,x4,x5⟩:=x;exact ⟨o,es,ep,hg,x1,x2,x3,x4,x5⟩
theorem is_ref{M:Model}{A:Around}{E:Value->Shared->Prop}{s:Shared}{Q:Value->Shared->Prop}{K:Frag}{G:Addr->Obj->Prop}{ρ:List Addr}{i:Nat}{v:Value}(h:VA K G ρ (.r i) v)(hq:Q (.bool false) s):wpAny M A (compareOp .Is v .none) Q E s:=by
 obtain ⟨a,_,rfl⟩:∃a,ρ[i]?=some a/\v=.ref a:=h;exact wpAny_is_other (zdW λ_=>nofun) (by nofun) hq
theorem isnot_ref{M:Model}{A:Around}{E:Value->Shared->Prop}{s:Shared}{Q:Value->Shared->Prop}{K:Frag}{G:Addr->Obj->Prop}{ρ:List Addr}{i:Nat}{v:Value}(h:VA K G ρ (.r i) v)(hq:Q (.bool true) s):wpAny M A (compareOp .IsNot v .none) Q E s:=by
 obtain ⟨a,_,rfl⟩:∃a,ρ[i]?=some a/\v=.ref a:=h;exact wpAny_isNot_other (zdW λ_=>nofun) (by nofun) hq
set_option genCtorIdx true in
theorem isNone_at{a b:AV}{r:Bool}(e:isNone a b=some r):b=.d .none/\((∃i,a=.r i/\r=false)\/∃x,a=.d x/\(r=true↔plain x=.none)):=by
 induction b with
 |r j=>exact nn e
 |d y=>
  induction y using DV.casesOn with
  |none=>
   refine ⟨rfl,?_⟩;induction a with
   |r i=>injection e;exact .inl ⟨i,rfl,rfl⟩
   |d x=>
    refine .inr ⟨x,rfl,?_⟩;induction x using DV.casesOn with
    |none=>injection e;exact ⟨λ_=>rfl,λ_=>rfl⟩
    |ob o=>injection e;cases o <;> exact ⟨λh=>by cases h <;> rfl,λh=>by cases h <;> rfl⟩
    |bytes _=>injection e;exact ⟨nofun,nofun⟩
    |obj _ _=>injection e;exact ⟨nofun,nofun⟩
    |int _=>injection e;exact ⟨nofun,nofun⟩
    |_=>exact nn e
  |_=>exact nn e
theorem notNone_at{a b:AV}{r:Bool}(e:notNone a b=some r):isNone a b=some (!r):=by
 induction b with
 |r j=>exact nn e
 |d y=>
  induction y using DV.casesOn with
  |none=>
   induction a with
   |r i=>injection e;rfl
   |d x=>
    induction x using DV.casesOn with
    |ob o=>injection e;cases o <;> rfl
    |none|bytes _|obj _ _|int _=>injection e;rfl
    |_=>exact nn e
  |_=>exact nn e
section
variable{a b:AV}{v u:Value}{r:Bool}{A:Around}{s:Shared}{Q:Value->Shared->Prop}{E:Value->Shared->Prop}
theorem cmp_eqs(hv:(a,v)∈tm)(hu:(b,u)∈tm)(hA:AOK f st.h A)(C:Cfg f st.env st.objs tm s){x y:DV}(e1:asD st.objs a=some x)(e2:asD st.objs b=some y)(e3:eqD x y=some r):E3 A s v u r:=by
 obtain ⟨hh,tk,g,m,news,Z,ρ,μ,rfl,c⟩:=C;exact peq_at (s:={f.s₀ with heap:=hh,toks:=tk}) (eqDn_plain e3) (c.asVP e1 (c.tmr _ hv)) (c.asVP e2 (c.tmr _ hu)) (λa o q=>q) (by have:=hA.units;lia)
theorem cmp_is(e:isNone a b=some r)(hv:(a,v)∈tm)(hu:(b,u)∈tm)(C:Cfg f st.env st.objs tm s)(h:Q (.bool r) s):wpAny f.M A (compareOp .Is v u) Q E s:=by
 obtain ⟨rfl,x⟩:=isNone_at e;rw[C.none hu];obtain ⟨hh,tk,g,m,news,Z,ρ,μ,rfl,c⟩:=C;rcases x with ⟨i,rfl,rfl⟩|⟨x,rfl,q⟩
 ·exact is_ref (c.tmr _ hv) h
 ·exact is_none (c.tmr _ hv) q h
theorem cmp_isnot(e:notNone a b=some r)(hv:(a,v)∈tm)(hu:(b,u)∈tm)(C:Cfg f st.env st.objs tm s)(h:Q (.bool r) s):wpAny f.M A (compareOp .IsNot v u) Q E s:=by
 obtain ⟨rfl,x⟩:=isNone_at (notNone_at e);rw[C.none hu];obtain ⟨hh,tk,g,m,news,Z,ρ,μ,rfl,c⟩:=C;rcases x with ⟨i,rfl,q⟩|⟨x,rfl,q⟩
 ·cases r
  ·injection q
  ·exact isnot_ref (c.tmr _ hv) h
 ·exact isnot_none (c.tmr _ hv) (by cases r <;> simpa using q) h
theorem cmp_in{k:Byt}{i:Nat}{es:List (Byt×Byt)}(ho:getT st.objs i=some (.dict es))(hv:(AV.d (.bytes k),v)∈tm)(hu:(AV.r i,u)∈tm)(C:Cfg f st.env st.objs tm s)(h:∀tk,Q (.bool (dget k es).isSome) {s with toks:=tk}):wpAny f.M A (compareOp .In v u) Q E s:=by
 obtain ⟨_,t,rfl⟩:=C.bytes hv;obtain ⟨hh,tk,g,m,news,Z,ρ,μ,rfl,c⟩:=C;obtain ⟨b,d,h1,h2,rfl,hl,o,kvs,h3,h4,h5,h6⟩:=c.obj ho;obtain ⟨b',h7,rfl⟩:=c.tmr _ hu;cases h1.symm.trans h7
 refine wpAny_in_of (bytesKind_is _ _ k t) h4 (dictOf_at (c.nw _ h3).1 h5).mapOf ?_
 have kv:=zfU h6 k
 have e:(valueAt kvs k).isSome=(dget k es).isSome:=by
  induction q:dget k es with
  |some v=>rw[q] at kv;obtain ⟨_,t,e⟩:=kv;rw[e];rfl
  |none=>rw[q] at kv;rw[kv];rfl
 rw[e];exact h _
theorem cmp_lt(e:cmpop .Lt a b st=some r)(hv:(a,v)∈tm)(hu:(b,u)∈tm)(C:Cfg f st.env st.objs tm s)(h:Q (.bool r) s):wpAny f.M A (compareOp .Lt v u) Q E s:=by
 induction a with
 |r _=>exact nn e
 |d x=>
  induction b with
  |r _=>cases x <;> exact nn e
  |d y=>
   induction x using DV.casesOn with
   |int x=>
    induction y using DV.casesOn with
    |int y=>injection e;obtain ⟨t,rfl⟩:=C.int hv;obtain ⟨t',rfl⟩:=C.int hu;exact lt_int h
    |_=>exact nn e
   |bytes x=>
    induction y using DV.casesOn with
    |bytes y=>injection e;obtain ⟨_,t,rfl⟩:=C.bytes hv;obtain ⟨_,t',rfl⟩:=C.bytes hu;exact lt_bytes h
    |_=>exact nn e
   |_=>exact nn e
theorem cmp_ge(e:cmpop .GtE a b st=some r)(hv:(a,v)∈tm)(hu:(b,u)∈tm)(C:Cfg f st.env st.objs tm s)(h:Q (.bool r) s):wpAny f.M A (compareOp .GtE v u) Q E s:=by
 induction a with
 |r _=>exact nn e
 |d x=>
  induction b with
  |r _=>cases x <;> exact nn e
  |d y=>
   induction x using DV.casesOn with
   |int x=>
    induction y using DV.casesOn with
    |int y=>injection e;obtain ⟨t,rfl⟩:=C.int hv;obtain ⟨t',rfl⟩:=C.int hu;exact ge_int h
    |_=>exact nn e
   |bytes x=>
    induction y using DV.casesOn with
    |bytes y=>injection e;obtain ⟨_,t,rfl⟩:=C.bytes hv;obtain ⟨_,t',rfl⟩:=C.bytes hu;exact ge_bytes h
    |_=>exact nn e
   |_=>exact nn e
theorem two_ints{α:Type}{k:Int->Int->α}{z:α}(e:(match a,b with|.d (.int a),.d (.int b)=>some (k a b)|_,_=>none)=some z):∃x y,a=.d (.int x)/\b=.d (.int y)/\z=k x y:=by
 induction a with
 |r _=>exact nn e
 |d x=>
  induction x using DV.casesOn with
  |int x=>
   induction b with
   |r _=>exact nn e
   |d y=>
    induction y using DV.casesOn with
    |int y=>injection e;exact ⟨x,y,rfl,rfl,rfl⟩
    |_=>exact nn e
  |_=>exact nn e
theorem cmp_ok{op:CmpOp}(e:cmpop op a b st=some r)(hv:(a,v)∈tm)(hu:(b,u)∈tm)(hA:AOK f st.h A)(C:Cfg f st.env st.objs tm s)(h:∀tk,Q (.bool r) {s with toks:=tk}):wpAny f.M A (compareOp op v u) Q E s:=by
 have h0:Q (.bool r) s:=h s.toks;induction op with
 |Is=>exact cmp_is e hv hu C h0
 |IsNot=>exact cmp_isnot e hv hu C h0
 |Lt=>exact cmp_lt e hv hu C h0
 |GtE=>exact cmp_ge e hv hu C h0
 |LtE=>
  obtain ⟨x,y,rfl,rfl,rfl⟩:=two_ints (k:=leI) e;obtain ⟨t,rfl⟩:=C.int hv;obtain ⟨t',rfl⟩:=C.int hu;exact le_int h0
 |Gt=>
  obtain ⟨x,y,rfl,rfl,rfl⟩:=two_ints (k:=λa b=>ltI b a) e
  obtain ⟨t,rfl⟩:=C.int hv;obtain ⟨t',rfl⟩:=C.int hu;exact gt_int h0
 |Eq=>
  have e:(match asD st.objs a,asD st.objs b with|some a,some b=>eqD a b|_,_=>none)=some r:=e
  induction e1:asD st.objs a with
  |none=>rw[e1] at e;exact nn e
  |some x=>
   induction e2:asD st.objs b with
   |none=>rw[e1,e2] at e;exact nn e
   |some y=>rw[e1,e2] at e;exact cmp_ofEq ((cmp_eqs hv hu hA C e1 e2 e).2.1 f.cx.prog f.cx.w E Q h0)
 |NotEq=>
  have e:(match asD st.objs a,asD st.objs b with|some a,some b=>(match eqD a b with|some r=>some (!r)|none=>none)|_,_=>none)=some r:=e
  induction e1:asD st.objs a with
  |none=>rw[e1] at e;exact nn e
  |some x=>
   induction e2:asD st.objs b with
   |none=>rw[e1,e2] at e;exact nn e
   |some y=>
    rw[e1,e2] at e;have e:(match eqD x y with|some r=>some (!r)|none=>none)=some r:=e
    induction e3:eqD x y with
    |none=>rw[e3] at e;exact nn e
    |some r'=>rw[e3] at e;injection e;exact cmp_ofNotEq ((cmp_eqs hv hu hA C e1 e2 e3).2.2 f.cx.prog f.cx.w E Q h0)
 |In=>
  induction a with
  |r _=>exact nn e
  |d x=>
   induction x using DV.casesOn with
   |bytes k=>
    induction b with
    |d _=>exact nn e
    |r i=>
     have e:(match getT st.objs i with|some (.dict es)=>some (dget k es).isSome|_=>none)=some r:=e
     induction ho:getT st.objs i with
     |none=>rw[ho] at e;exact nn e
     |some o=>
      rw[ho] at e;induction o with
      |dict es=>injection e;exact cmp_in ho hv hu C h
      |_=>exact nn e
   |_=>exact nn e
 |NotIn=>exact nn e
end
theorem sim_ask{α:Type}{c:Bool}{k:Bool->S->Out}{m:Bool->Sem α}{post:Pst α}
  (h:∀v ans,Sim f tm {st with ans:=ans,obl:=st.obl++[c=v]} (k v {st with ans:=ans,obl:=st.obl++[c=v]}) (m v) post):Sim f tm st (ask c st k) (m c) post:=by
 refine zaI λq _=>?_
 obtain ⟨v,ans⟩:=q;intro r st' e;obtain ⟨h1,h2,h3⟩:=h v ans r st' e;refine ⟨h1,λp hp=>h2 p (zaL p hp),λhob A hA s Q E C hp=>?_⟩
 rw[(hob.sub h2).last];exact h3 hob A hA s Q E C hp
theorem sim_b{c:Bool}:Sim f tm st (some (.b c,st)) (pure c) (pB f tm):=λr st' e=>by
 injection e;exact ⟨rfl,λp hp=>hp,λhob A hA s Q E C hp=>za4 (hp s C)⟩
theorem sim_v{a:AV}{v:Value}(hv:(a,v)∈tm):Sim f tm st (some (.v a,st)) (pure v) (pV f tm):=λr st' e=>by
 injection e;refine ⟨rfl,λp hp=>hp,λhob A hA s Q E C hp=>za4 (hp v s (C.drop λp hp=>?_))⟩
 rcases List.mem_cons.mp hp with rfl|hp
 ·exact hv
 ·exact hp
theorem pB.up{α:Type}{tm':List (AV×Value)}{o:Out}{c:Sem Bool}(x:Sim f tm st o c (pB f tm))(h:∀p∈tm',p∈tm):Sim f tm st o c (pB f tm'):=x.post λ_ _ _ _ y=>y.sub h
theorem zhZ{x y:AV×Value}:∀p∈tm,p∈x::y::tm:=λp hp=>.tail _ (.tail _ hp)
theorem truthy_pure{M:Model}{A:Around}{E:Value->Shared->Prop}{s:Shared}{Q:Bool->Shared->Prop}{c:Bool}(h:wpB M A (pure c) Q E s):wpB M A (truthy (.bool c)) Q E s:=h
theorem Sim.after{α β:Type}{m:Sem β}{d:β->Sem α}{x:β}{o:Out}{post:Pst α}(y:Sim f tm st o (d x) post)
  (h:∀A s Q E,AOK f st.h A->Cfg f st.env st.objs tm s->(∀tk,Q x {s with toks:=tk})->wpAny f.M A m Q E s):Sim f tm st o (m >>= d) post:=λr st' e=>
 let ⟨h1,h2,h3⟩:=y r st' e
 ⟨h1,h2,λhob A hA s Q E C hp=>za8 (h A s _ E hA C λtk=>h3 hob A hA _ Q E (C.tok tk) hp)⟩
theorem sim_test{op:CmpOp}{a b:AV}{v u:Value}{c:Bool}(e:cmpop op a b st=some c)(hv:(a,v)∈tm)(hu:(b,u)∈tm):
  Sim f tm st (ask c st λc st=>some (.b c,st)) (operate [v,u] (compareOp op v u) >>= λc=>holding [c] (truthy c)) (pB f tm):=by
 have x:Sim f tm st (ask c st λc st=>some (.b c,st)) (holding [.bool c] (truthy (.bool c))) (pB f tm):=
  sim_ask (m:=λc=>holding [.bool c] (truthy (.bool c))) λv ans=>sim_b.cong λA s Q E hA C h=>zaH (truthy_pure h)
 exact x.after (d:=λc=>holding [c] (truthy c)) λA s Q E hA C h=>wpAny_operate' (cmp_ok e hv hu hA C h)
theorem sim_truth{a:AV}{v:Value}{c:Bool}(e:truth st a=some c)(hv:(a,v)∈tm):
  Sim f tm st (ask c st λc st=>some (.b c,st)) (holding [v] (truthy v)) (pB f tm):=by
 have x:Sim f tm st (ask c st λc st=>some (.b c,st)) (pure c) (pB f tm):=sim_ask (m:=λc=>pure c) λv ans=>sim_b
 have y:=x.after (m:=holding [v] (truthy v)) (d:=λc=>pure c) λA s Q E hA C h=>wpAny_holding (truth_ok e hv C h)
 rwa [bind_pure] at y
theorem testChain_one(pos:Pos)(v:Value)(op:CmpOp)(r:Sem Value):testChain pos v [op] [r]=(do let rv ←holding [v] r;standAt pos;let c ←operate [v,rv] (compareOp op v rv);holding [c] (truthy c)):=rfl
set_option tactic.hygienic true in
theorem step_tst_Compare(I:IH f ih){a b:Expr}{op:CmpOp}{pos:Pos}:Sim f tm st (zaJ Sp lc ih (.tst (.Compare a [op] [b] pos)) st) (isTrue (.Compare a [op] [b] pos) f.env (eval (.Compare a [op] [b] pos) f.env)) (pB f tm):=by
 show Sim f tm st (match behindInMarks op b with
   |true=>none
   |false=>zaK (ih (.ev a) st) λa st=>zaK (ih (.ev b) st) λb st=>
    match cmpop op a b st with|some c=>ask c st λc st=>some (.b c,st)|none=>none) _ _
 induction q:behindInMarks op b with
 |true=>exact Sim.none
 |false=>
  rw[arm_isTrue_Compare]
  have e1:markedEach [op] [b] (evalEach [b] f.env)=[eval b f.env]:=by
   rw[arm_evalEach_cons,arm_evalEach_nil];show [markedBehindIn op b (eval b f.env)]=_
   unfold markedBehindIn;rw[q]
  rw[e1];refine (I.ev a st tm).bindV pB.exc λx st1 v _ _=>?_
  show Sim f _ st1 _ (testChain pos v [op] [eval b f.env]) _
  rw[testChain_one];refine (((I.ev b st1 ((x,v)::tm)).holding).bindV pB.exc λy st2 u _ _=>Sim.stand ?_)
  split
  ·rename_i c e
   exact pB.up (α:=Unit) (sim_test (f:=f) (tm:=(y,u)::(x,v)::tm) (st:=st2) e (.tail _ (.head _)) (.head _)) zhZ
  ·exact Sim.none
theorem step_tst_Not(I:IH f ih){x:Expr}{pos:Pos}:Sim f tm st (zaJ Sp lc ih (.tst (.UnaryOp .Not x pos)) st) (isTrue (.UnaryOp .Not x pos) f.env (eval (.UnaryOp .Not x pos) f.env)) (pB f tm):=by
 show Sim f tm st (thenB (ih (.tst x) st) λb st=>some (.b (!b),st)) _ _
 rw[arm_isTrue_UnaryOp];exact (I.tst x st tm).bindB pB.exc λb st1 _ _=>sim_b
theorem step_tst_And(I:IH f ih){xs:List Expr}{pos:Pos}:Sim f tm st (zaJ Sp lc ih (.tst (.BoolOp .And xs pos)) st) (isTrue (.BoolOp .And xs pos) f.env (eval (.BoolOp .And xs pos) f.env)) (pB f tm):=I.ands xs st tm
theorem step_tst_Or(I:IH f ih){xs:List Expr}{pos:Pos}:Sim f tm st (zaJ Sp lc ih (.tst (.BoolOp .Or xs pos)) st) (isTrue (.BoolOp .Or xs pos) f.env (eval (.BoolOp .Or xs pos) f.env)) (pB f tm):=I.ors xs st tm
theorem plain_isTrue{e:Expr}{env:Env}{c:Sem Value}(h:zfI e=true):isTrue e env c=(do let v ←c;standAt e.pos;holding [v] (truthy v)):=by
 induction e using Expr.casesOn with
 |Name _ _|Call _ _ _ _|Attribute _ _ _|Subscript _ _ _|Constant _ _ _=>rfl
 |_=>exact ff h
set_option tactic.hygienic true in
theorem tst_plain(I:IH f ih){e:Expr}(q:zfI e=true):
  Sim f tm st (zaK (ih (.ev e) st) λa st=>match truth st a with|some c=>ask c st λc st=>some (.b c,st)|none=>none) (isTrue e f.env (eval e f.env)) (pB f tm):=by
 rw[plain_isTrue q];refine (I.ev e st tm).bindV pB.exc λa st1 v _ _=>Sim.stand ?_
 split
 ·rename_i c e
  exact pB.up (α:=Unit) (sim_truth (f:=f) (tm:=(a,v)::tm) (st:=st1) e (.head _)) zdH
 ·exact Sim.none
theorem step_tst(I:IH f ih){e:Expr}:Sim f tm st (zaJ Sp lc ih (.tst e) st) (isTrue e f.env (eval e f.env)) (pB f tm):=by
 have d:Sim f tm st (match zfI e with
   |false=>none
   |true=>zaK (ih (.ev e) st) λa st=>match truth st a with|some c=>ask c st λc st=>some (.b c,st)|none=>none) (isTrue e f.env (eval e f.env)) (pB f tm):=by
  induction q:zfI e with
  |false=>exact Sim.none
  |true=>exact tst_plain I q
 induction e using Expr.casesOn with
 |UnaryOp op x pos=>cases op <;> first|exact step_tst_Not I|exact d
 |BoolOp op xs pos=>induction op with
  |And=>exact step_tst_And I
  |Or=>exact step_tst_Or I
 |Compare a ops bs pos=>
  induction ops using List.casesOn with
  |nil=>exact d
  |cons op r=>
   induction r using List.casesOn with
   |cons _ _=>exact d
   |nil=>
    induction bs using List.casesOn with
    |nil=>exact d
    |cons b r'=>
     induction r' using List.casesOn with
     |nil=>exact step_tst_Compare I
     |cons _ _=>exact d
 |_=>exact d
theorem step_ands(I:IH f ih){xs:List Expr}:Sim f tm st (zaJ Sp lc ih (.ands xs) st) (allTrue .And xs f.env) (pB f tm):=by
 induction xs using List.casesOn with
 |nil=>exact sim_b (c:=true)
 |cons x r=>
  show Sim f tm st (thenB (ih (.tst x) st) λb st=>match b with|true=>ih (.ands r) st|false=>some (.b false,st)) _ _
  rw[arm_allTrue_cons];refine (I.tst x st tm).bindB pB.exc λb st1 _ _=>?_
  induction b with
  |true=>exact I.ands r st1 tm
  |false=>exact sim_b
theorem step_ors(I:IH f ih){xs:List Expr}:Sim f tm st (zaJ Sp lc ih (.ors xs) st) (allTrue .Or xs f.env) (pB f tm):=by
 induction xs using List.casesOn with
 |nil=>exact sim_b (c:=false)
 |cons x r=>
  show Sim f tm st (thenB (ih (.tst x) st) λb st=>match b with|true=>some (.b true,st)|false=>ih (.ors r) st) _ _
  rw[arm_allTrue_cons];refine (I.tst x st tm).bindB pB.exc λb st1 _ _=>?_
  induction b with
  |true=>exact sim_b
  |false=>exact I.ors r st1 tm
end
end
section
open PySem PySem.W PyProof.Rows PySem.SeqAt
section
variable{f:FC}{Sp:Spec}{lc:Nms}{ih:Task->S->Out}{tm:List (AV×Value)}{st:S}
theorem spliced_cons'{x:Sem Value}{rest:List (Bool×Sem Value)}:spliced ((false,x)::rest)=(do let v ←x;let here ←pure [v];return here++(←holding here (spliced rest))):=rfl
theorem sim_vs{as:List AV}{vs:List Value}(h:∀p∈as.zip vs,p∈tm)(l:vs.length=as.length):Sim f tm st (some (.vs as,st)) (pure vs) (pVs f tm):=λr st' e=>by
 injection e;refine ⟨rfl,λp hp=>hp,λhob A hA s Q E C hp=>za4 (hp vs s l (C.drop λp hp=>?_))⟩
 rcases List.mem_append.mp hp with hp|hp
 ·exact h p hp
 ·exact hp
theorem step_evs(I:IH f ih){es:List Expr}{pos:Pos}:Sim f tm st (zaJ Sp lc ih (.evs es) st) (spliced (backTo pos (starEach es f.env))) (pVs f tm):=by
 induction es using List.casesOn with
 |nil=>exact sim_vs (as:=[]) (vs:=[]) (λ_ h=>by injection h) rfl
 |cons e r=>
  show Sim f tm st (zaK (ih (.ev e) st) λa st=>zc8 (ih (.evs r) st) λas st=>some (.vs (a::as),st)) _ _
  by_cases hs:∃x p,e=.Starred x p
  ·obtain ⟨x,p,rfl⟩:=hs
   rw[I.star];exact Sim.none
  ·have e1:starEach (e::r) f.env=(false,eval e f.env)::starEach r f.env:=by
    cases e <;> first|rfl|exact absurd ⟨_,_,rfl⟩ hs
   rw[e1];show Sim f tm st _ (spliced ((false,eval e f.env)::backTo pos (starEach r f.env))) _
   rw[spliced_cons'];refine (I.ev e st tm).bindV pVs.exc λa st1 v _ _=>?_
   refine Sim.cong (c:=holding [v] (spliced (backTo pos (starEach r f.env))) >>= λvs=>pure ([v]++vs)) ?_ λA s Q E hA C h=>za0 (za4 h)
   refine ((I.evs r pos st1 ((a,v)::tm)).holding.bindVs (post:=pVs f tm) pVs.exc λas st2 vs _ _ l=>?_)
   refine (sim_vs (as:=a::as) (vs:=v::vs) (λp hp=>?_) (by simp[l])).post λ_ _ _ _ y=>y.sub λp hp=>?_
   ·rw[List.zip_cons_cons] at hp
    rcases List.mem_cons.mp hp with rfl|hp
    ·exact List.mem_append_right _ (.head _)
    ·exact List.mem_append_left _ hp
   ·exact List.mem_append_right _ (.tail _ hp)
theorem bin_plain(I:IH f ih){a b:Expr}{op:Operator}{pos:Pos}:Sim f tm st (zaK (ih (.ev a) st) λa st=>zaK (ih (.ev b) st) λb st=>
   match a,b with
   |.d a,.d b=>binop op a b st
   |_,_=>none) (eval (.BinOp a op b pos) f.env) (pV f tm):=by
 rw[arm_eval_BinOp];refine (I.ev a st tm).bindV pV.exc λx st1 v _ _=>?_
 refine (I.ev b st1 ((x,v)::tm)).holding.bindV pV.exc λy st2 u _ _=>Sim.stand (Sim.oper ?_)
 split
 ·exact (sim_binop (.tail _ (.head _)) (.head _)).up zhZ
 ·exact Sim.none
theorem step_USub(I:IH f ih){a:Expr}{pos:Pos}:Sim f tm st (zaJ Sp lc ih (.ev (.UnaryOp .USub a pos)) st) (eval (.UnaryOp .USub a pos) f.env) (pV f tm):=by
 show Sim f tm st (zaK (ih (.ev a) st) λa st=>match a with|.d (.int i)=>val (.int (-i)) st|_=>none) _ _
 rw[arm_eval_UnaryOp];refine (I.ev a st tm).bindV pV.exc λx st1 v _ _=>Sim.stand (Sim.holding ?_)
 induction x with
 |r i=>exact Sim.none
 |d x=>
  induction x using DV.casesOn with
  |int i=>
   refine Sim.up (tm':=tm) (tm:=(.d (.int i),v)::tm) ?_ zdH
   exact Sim.val (λp hp=>hp) λhob A hA s Q E C h=>by
    obtain ⟨t,rfl⟩:=C.int (.head _);exact neg_int (h _ (s.toks+1) λG=>⟨_,rfl⟩)
  |_=>exact Sim.none
theorem step_IfExp(I:IH f ih){c a b:Expr}{pos:Pos}:Sim f tm st (zaJ Sp lc ih (.ev (.IfExp c a b pos)) st) (eval (.IfExp c a b pos) f.env) (pV f tm):=by
 show Sim f tm st (thenB (ih (.tst c) st) λc st=>match c with|true=>ih (.ev a) st|false=>ih (.ev b) st) _ _
 rw[arm_eval_IfExp];refine (I.tst c st tm).bindB pV.exc λx st1 _ _=>?_
 induction x with
 |true=>exact I.ev a st1 tm
 |false=>exact I.ev b st1 tm
theorem compareChain_one(pos:Pos)(v:Value)(op:CmpOp)(r:Sem Value):compareChain pos v [op] [r]=(do let rv ←holding [v] r;standAt pos;operate [v,rv] (compareOp op v rv)):=rfl
set_option tactic.hygienic true in
theorem step_Compare(I:IH f ih){a b:Expr}{op:CmpOp}{pos:Pos}:Sim f tm st (zaJ Sp lc ih (.ev (.Compare a [op] [b] pos)) st) (eval (.Compare a [op] [b] pos) f.env) (pV f tm):=by
 show Sim f tm st (match behindInMarks op b with
   |true=>none
   |false=>zaK (ih (.ev a) st) λa st=>zaK (ih (.ev b) st) λb st=>
    match cmpop op a b st with|some c=>val (.bool c) st|none=>none) _ _
 induction q:behindInMarks op b with
 |true=>exact Sim.none
 |false=>
  rw[arm_eval_Compare]
  have e1:markedEach [op] [b] (evalEach [b] f.env)=[eval b f.env]:=by
   rw[arm_evalEach_cons,arm_evalEach_nil];show [markedBehindIn op b (eval b f.env)]=_
   unfold markedBehindIn;rw[q]
  rw[e1];refine (I.ev a st tm).bindV pV.exc λx st1 v _ _=>?_
  show Sim f _ st1 _ (compareChain pos v [op] [eval b f.env]) _
  rw[compareChain_one];refine (((I.ev b st1 ((x,v)::tm)).holding).bindV pV.exc λy st2 u _ _=>Sim.stand (Sim.oper ?_))
  split
  ·rename_i c e
   refine Sim.up (tm:=(y,u)::(x,v)::tm) ?_ zhZ;exact Sim.val (λp hp=>hp) λhob A hA s Q E C h=>cmp_ok e (.tail _ (.head _)) (.head _) hA C λtk=>h _ tk λG=>rfl
  ·exact Sim.none
set_option tactic.hygienic true in
set_option backward.match.sparseCases true in
theorem step_And(I:IH f ih){a b:Expr}{pos:Pos}:Sim f tm st (zaJ Sp lc ih (.ev (.BoolOp .And [a,b] pos)) st) (eval (.BoolOp .And [a,b] pos) f.env) (pV f tm):=by
 show Sim f tm st (zaK (ih (.ev a) st) λa st=>match truth st a with
   |some c=>ask c st λc st=>match c with|true=>ih (.ev b) st|false=>some (.v a,st)
   |none=>none) _ _
 rw[arm_eval_BoolOp,arm_evalEach_cons,arm_evalEach_cons,arm_evalEach_nil];show Sim f tm st _ (eval a f.env >>= λv=>standAt pos >>= λ_=>holding [v] (truthy v) >>= λt=>match BoolOp.And,t with|.And,false|.Or,true=>pure v|_,_=>boolOp pos .And [eval b f.env]) _
 refine (I.ev a st tm).bindV pV.exc λx st1 v _ _=>Sim.stand ?_
 split
 ·rename_i c e
  refine (sim_ask (m:=λt=>match BoolOp.And,t with|.And,false|.Or,true=>pure v|_,_=>boolOp pos .And [eval b f.env]) (post:=pV f tm) λt ans=>?_).after
   (m:=holding [v] (truthy v)) (d:=λt=>match BoolOp.And,t with|.And,false|.Or,true=>pure v|_,_=>boolOp pos .And [eval b f.env]) λA s Q E hA C h=>wpAny_holding (truth_ok e (.head _) C h)
  induction t with
  |true=>exact (I.ev b _ _).up zdH
  |false=>exact (sim_v (.head _)).up zdH
 ·exact Sim.none
set_option tactic.hygienic true in
set_option backward.match.sparseCases true in
theorem step_Or(I:IH f ih){a b:Expr}{pos:Pos}:Sim f tm st (zaJ Sp lc ih (.ev (.BoolOp .Or [a,b] pos)) st) (eval (.BoolOp .Or [a,b] pos) f.env) (pV f tm):=by
 show Sim f tm st (zaK (ih (.ev a) st) λa st=>match truth st a with
   |some c=>ask c st λc st=>match c with|true=>some (.v a,st)|false=>ih (.ev b) st
   |none=>none) _ _
 rw[arm_eval_BoolOp,arm_evalEach_cons,arm_evalEach_cons,arm_evalEach_nil];show Sim f tm st _ (eval a f.env >>= λv=>standAt pos >>= λ_=>holding [v] (truthy v) >>= λt=>match BoolOp.Or,t with|.And,false|.Or,true=>pure v|_,_=>boolOp pos .Or [eval b f.env]) _
 refine (I.ev a st tm).bindV pV.exc λx st1 v _ _=>Sim.stand ?_
 split
 ·rename_i c e
  refine (sim_ask (m:=λt=>match BoolOp.Or,t with|.And,false|.Or,true=>pure v|_,_=>boolOp pos .Or [eval b f.env]) (post:=pV f tm) λt ans=>?_).after
   (m:=holding [v] (truthy v)) (d:=λt=>match BoolOp.Or,t with|.And,false|.Or,true=>pure v|_,_=>boolOp pos .Or [eval b f.env]) λA s Q E hA C h=>wpAny_holding (truth_ok e (.head _) C h)
  induction t with
  |false=>exact (I.ev b _ _).up zdH
  |true=>exact (sim_v (.head _)).up zdH
 ·exact Sim.none
end
end
section
open PySem PySem.W PyProof.Rows PySem.SeqAt
section
variable{f:FC}{Sp:Spec}{lc:Nms}{ih:Task->S->Out}{tm:List (AV×Value)}{st:S}
theorem Sim.valH{x:DV}{c:Sem Value}{obl:List Prop}(ho:∀p∈st.obl,p∈obl)
  (h:Holds obl->∀A,AOK f st.h A->∀hh tk g m news Z ρ μ,Core f g m news Z ρ μ st.env st.objs tm hh->∀Q E,
   (∀v h' tk',Fr g f.L h' m->News g f.L h' news->VP f.cx.K (Fz f.cx.base Z) (plain x) v->Q v {f.s₀ with heap:=h',toks:=tk'})->wpAny f.M A c Q E {f.s₀ with heap:=hh,toks:=tk}) :
  Sim f tm st (Internal.val x {st with obl:=obl}) c (pV f tm):=by
 intro r st' e;injection e;refine ⟨rfl,ho,λhob A hA s Q E C hp=>?_⟩
 obtain ⟨hh,tk,g,m,news,Z,ρ,μ,rfl,c⟩:=C;exact .of <| h hob A hA hh tk g m news Z ρ μ c Q E λv h' tk' F' N' hv=>hp v _ ⟨h',tk',g,m,news,Z,ρ,μ,rfl,(c.step F' N').tmp (a:=.d x) hv⟩
theorem zdG(slice:Expr)(o i:Value):∃ops,subscripted slice false o i=operate ops (getItem o i):=by
 induction slice using Expr.casesOn with
 |Slice l u s p=>cases s <;> exact ⟨_,rfl⟩
 |_=>exact ⟨_,rfl⟩
theorem tail_of{prog:Program}{w:World}{A:Around}{E:Value->Shared->Prop}{s:Shared}{value slice:Expr}{o i:Value}{T id:String}{Q:Value->Shared->Prop}(hT:s.TypeIs o T)
  (hl:typeLookup (.type T) "__getitem__"=pure (some (.builtin id))) (hg:wpAny (model prog w) A (getItem o i) Q E s):wpAny (model prog w) A (subscriptTail value slice o i) Q E s:=by
 obtain ⟨ops,e⟩:=zdG slice o i;exact tail_any hT hl hg e
theorem plains_get{xs:List DV}{n:Nat}{x:DV}(h:getT xs n=some x):(zaU xs)[n]?=some (plain x):=by
 rw[zaC,List.getElem?_map,←ze8,h];rfl
theorem isTup_of{h:Heap}{a:Addr}{o:Obj}{vs:List Value}(hg:h.get? a=some o)(x:zfJ o vs):IsTup h a vs.toArray:=⟨o,hg,x.1,x.2⟩
theorem seqIndex_nat{k n:Nat}(h:k<n):seqIndex? (k:Int) n=some k:=by
 have h1:¬ ((k:Int)<0):=by lia
 have h2:(0:Int)<=k:=by lia
 have h3:(k:Int)<n:=by lia
 simp[seqIndex?,h1,h3,h2]
section
variable{u iv:Value}{Q:Value->Shared->Prop}{E:Value->Shared->Prop}{A:Around}{g hh:Heap}{tk:Nat}{m:Str->Option Value}{news Z:Led}{ρ μ:List Addr}
theorem idx_list(c:Core f g m news Z ρ μ st.env st.objs tm hh){ov:AV}{d:DV}{ps:List PV}{y:PV}{i:Int}{t:Tok}(e:asD st.objs ov=some d)(hd:plain d=.lst ps)(hu:(ov,u)∈tm)(hi:zcD ps.length i)(hy:ps[atI ps.length i]?=some y)(value slice:Expr)
  (hq:∀v,VP f.cx.K (Fz f.cx.base Z) y v->Q v {f.s₀ with heap:=hh,toks:=tk}):wpAny f.M A (subscriptTail value slice u (.int i t)) Q E {f.s₀ with heap:=hh,toks:=tk}:=by
 obtain ⟨k1,k2⟩:=hi;obtain ⟨b,vs,rfl,hl,hv,hb⟩:=c.asList e hd (c.tmr _ hu);have hb:ps.length<=16000000:=hb;obtain ⟨v,h1,h2⟩:=hv.get hy;have hz:vs.toArray.size=ps.length:=hv.length;have h1:vs.toArray[atI ps.length i]?=some v:=by rw[List.getElem?_toArray];exact h1
 refine tail_of (s:={f.s₀ with heap:=hh,toks:=tk}) hl.typeIs slot_list_getitem.lookup ?_
 by_cases q:i<0
 ·have ea:atI ps.length i=(i+(ps.length:Int)).toNat:=by unfold atI ltI;rw[decide_eq_true q];rfl
  rw[ea,←hz] at h1;exact wpAny_getItem_list_neg (s:={f.s₀ with heap:=hh,toks:=tk}) hl q (by rw[hz];exact k1) (by lia) h1 (hq v h2)
 ·have ea:atI ps.length i=i.toNat:=by unfold atI ltI;rw[decide_eq_false q];rfl
  rw[ea] at h1;exact wpAny_getItem_list (s:={f.s₀ with heap:=hh,toks:=tk}) hl (Int.not_lt.mp q) (by lia) h1 (hq v h2)
theorem idx_tup(c:Core f g m news Z ρ μ st.env st.objs tm hh){ps:List PV}{y:PV}{n:Nat}{t:Tok}(hu:VP f.cx.K (Fz f.cx.base Z) (.tup ps) u)(hy:ps[n]?=some y)(value slice:Expr)
  (hq:∀v,VP f.cx.K (Fz f.cx.base Z) y v->Q v {f.s₀ with heap:=hh,toks:=tk}):wpAny f.M A (subscriptTail value slice u (.int n t)) Q E {f.s₀ with heap:=hh,toks:=tk}:=by
 obtain ⟨a,o,vs,rfl,hG,ht,hl,hv⟩:=(hu:RefX (Fz f.cx.base Z) zfJ ps.length (VPs f.cx.K (Fz f.cx.base Z) ps) u);obtain ⟨v,h1,h2⟩:=hv.get hy;have tup:=isTup_of (c.fz hG) ht;have hn:n<vs.toArray.size:=(List.getElem?_eq_some_iff.mp h1).1;have hb:n<16000000:=Nat.lt_of_lt_of_le (List.getElem?_eq_some_iff.mp hy).1 hl;exact tail_of (s:={f.s₀ with heap:=hh,toks:=tk}) tup.typeIs slot_tuple_getitem.lookup (PyProof.Rows.getItem_tuple (s:={f.s₀ with heap:=hh,toks:=tk}) tup (by lia) (by lia) (seqIndex_nat hn) (by rw[List.getElem?_toArray];exact h1) (hq v h2))
end
theorem asD_byt{i:DV}{k:Byt}(h:i.byt?=some k):i=.bytes k:=by
 induction i using DV.casesOn with
 |bytes _=>injection h;rfl
 |_=>exact nn h
theorem asD_int{i:DV}{k:Int}(h:i.int?=some k):i=.int k:=by
 induction i using DV.casesOn with
 |int _=>injection h;rfl
 |_=>exact nn h
theorem sim_idx{ov:AV}{u iv:Value}{d i:DV}(e:asD st.objs ov=some d)(hu:(ov,u)∈tm)(hi:(AV.d i,iv)∈tm)(value slice:Expr):
  Sim f tm st (idxV d i st) (subscriptTail value slice u iv) (pV f tm):=by
 have lists:∀{ps:List PV} {j:Int} {x:DV} {obl:List Prop},i=.int j->plain d=.lst ps->(∀p∈st.obl,p∈obl)->(Holds obl->zcD ps.length j/\ps[atI ps.length j]?=some (plain x))->Sim f tm st (val x {st with obl:=obl}) (subscriptTail value slice u iv) (pV f tm):=by
  intro ps j x obl ei hd ho h;subst ei;refine Sim.valH ho λhob A hA hh tk g m news Z ρ μ c Q E hq=>?_
  obtain ⟨t,rfl⟩:=(show ∃t,iv=.int j t from c.tmr _ hi)
  exact idx_list c e hd hu (h hob).1 (h hob).2 value slice λv hv=>hq v hh tk c.fr c.nw hv
 have flat:∀{y:DV},(∀a,plain y≠.lst a)->asD st.objs ov=some y->ov=.d y:=by
  intro y hy h;rcases zeJ h with h|⟨_,_,⟨xs,_,rfl⟩|⟨ty,xs,_,rfl⟩⟩
  ·exact h
  ·exact absurd rfl (hy _)
  ·exact absurd rfl (hy _)
 induction d using DV.casesOn with
 |tup xs=>
  induction i using DV.casesOn with
  |int j=>
   induction j with
   |negSucc _=>exact Sim.none
   |ofNat n=>
     refine zaI λx hx=>?_
     refine Sim.valH (λp hp=>hp) λhob A hA hh tk g m news Z ρ μ c Q E hq=>?_
     obtain ⟨t,rfl⟩:=(show ∃t,iv=.int (Int.ofNat n) t from c.tmr _ hi)
     have hu':=c.tmr _ hu;cases flat (y:=.tup xs) (λ_ h=>nomatch (h:PV.tup _=PV.lst _)) e
     exact idx_tup c hu' (plains_get hx) value slice λv hv=>hq v hh tk c.fr c.nw hv
  |_=>exact Sim.none
 |lst xs=>
  have lp:(zaU xs).length=xs.length:=by rw[zaC,List.length_map]
  induction i using DV.casesOn with
  |int j=>
   induction j with
   |ofNat n=>
     refine zaI λx hx=>?_
     refine lists (ps:=zaU xs) (x:=x) rfl rfl (λp hp=>hp) λ_=>?_
     have h1:=plains_get hx;have hn:=(List.getElem?_eq_some_iff.mp h1).1;exact ⟨⟨by show -((zaU xs).length:Int)<=(n:Int);lia,by show (n:Int)<_;lia⟩,h1⟩
   |negSucc k=>
    induction k using Nat.casesAuxOn with
    |succ _=>exact Sim.none
    |zero=>
      refine zaI λx hx=>?_
      refine lists (ps:=zaU xs) (x:=x) rfl rfl (λp hp=>hp) λ_=>?_
      have hx':xs[xs.length - 1]?=some x:=by rw[←List.getLast?_eq_getElem?];exact hx
      have hn:=(List.getElem?_eq_some_iff.mp hx').1
      have ha:atI (zaU xs).length (Int.negSucc 0)=xs.length - 1:=by
       rw[lp];show (Int.negSucc 0+(xs.length:Int)).toNat=_
       lia
      rw[ha,lp];exact ⟨⟨by show -(xs.length:Int)<=-1;lia,by show (-1:Int)<_;lia⟩,by rw[zaC,List.getElem?_map,hx'];rfl⟩
  |_=>exact Sim.none
 |tl ty xs=>
   refine zaI λj hj=>?_
   refine lists (ps:=xs.map ty.plain) (j:=j) (asD_int hj) rfl zaL λhob=>?_
   rw[List.length_map];refine ⟨hob.last,?_⟩;obtain ⟨k1,k2⟩:=hob.last;have hlt:atI xs.length j<xs.length:=by unfold atI ltI;by_cases q:j<0 <;> simp[q] <;> lia
   rw[List.getElem?_map,List.getElem?_eq_getElem hlt,plain_emb,List.getD_eq_getElem?_getD,List.getElem?_eq_getElem hlt];rfl
 |bytes b=>
   refine zaI λj hj=>?_
   refine Sim.valH zaL λhob A hA hh tk g m news Z ρ μ c Q E hq=>?_
   obtain ⟨k1,k2⟩:=hob.last;cases asD_int hj
   obtain ⟨t,rfl⟩:=(show ∃t,iv=.int j t from c.tmr _ hi)
   have hu':=c.tmr _ hu;cases flat (y:=.bytes b) (λ_ h=>nomatch (h:PV.bytes _=PV.lst _)) e
   obtain ⟨hl,t',rfl⟩:=(show b.length<=big/\∃t,u=.bytes b.toArray t from hu')
   have hl:b.length<=16000000:=hl;exact tail_of (s:={f.s₀ with heap:=hh,toks:=tk}) (typeIs_bytes _ _ _) FB.slot_bytes_getitem.lookup (getItem_bytes (by lia) k1 k2 (hq _ hh (tk+1) c.fr c.nw ⟨_,rfl⟩))
 |_=>exact Sim.none
theorem zhC{K:Frag}{G:Addr->Obj->Prop}{x:DV}{v:Value}{l:Option Int}(e:bound (.d x)=some l)(h:VP K G (plain x) v):IsPart v l:=by
 induction x using DV.casesOn with
 |none=>injection e;cases (h:v=.none);exact .none
 |int i=>injection e;obtain ⟨t,rfl⟩:=(h:∃t,v=.int i t);exact .int _ _
 |_=>exact nn e
theorem clip_lo(l:Option Int)(n:Nat):l.elim 0 (PySem.clipAt n)=kms_lo l n:=Int.ofNat.inj (congrArg Prod.fst ((sliceBounds_plain l none n).symm.trans (kms_bounds l none n)))
theorem clip_hi(l:Option Int)(n:Nat):l.elim n (PySem.clipAt n)=kms_hi l n:=Int.ofNat.inj (congrArg (·.2.1) ((sliceBounds_plain none l n).symm.trans (kms_bounds none l n)))
theorem clamp_clip(n:Nat)(x:Int):zbT n x=PySem.clipAt n x:=by
 unfold zbT PySem.clipAt ltI;by_cases h:x<0
 ·rw[decide_eq_true h,if_pos h,Int.min_eq_left (by lia)]
  by_cases h2:x+n<0
  ·rw[decide_eq_true h2,Int.max_eq_left (Int.le_of_lt h2)];rfl
  ·rw[decide_eq_false h2,Int.max_eq_right (Int.not_lt.mp h2)];rfl
 ·rw[decide_eq_false h,if_neg h]
  by_cases h2:(n:Int)<x
  ·rw[decide_eq_true h2,Int.min_eq_right (Int.le_of_lt h2),Int.max_eq_right (Int.natCast_nonneg n)];rfl
  ·rw[decide_eq_false h2,Int.min_eq_left (Int.not_lt.mp h2),Int.max_eq_right (Int.not_lt.mp h)];rfl
theorem clamp_lo(l:Option Int)(n:Nat):(match l with|some l=>zbT n l|none=>0)=kms_lo l n:=by
 rw[←clip_lo];induction l with
 |none=>rfl
 |some x=>exact clamp_clip n x
theorem clamp_hi(l:Option Int)(n:Nat):(match l with|some l=>zbT n l|none=>n)=kms_hi l n:=by
 rw[←clip_hi];induction l with
 |none=>rfl
 |some x=>exact clamp_clip n x
theorem sl_eq{α:Type}(xs:List α)(l u:Option Int):sl xs l u=(xs.drop (kms_lo l xs.length)).take (kms_hi u xs.length - kms_lo l xs.length):=by
 show (xs.drop (match l with|some l=>zbT xs.length l|none=>0)).take ((match u with|some u=>zbT xs.length u|none=>xs.length) - (match l with|some l=>zbT xs.length l|none=>0))=_
 rw[clamp_lo,clamp_hi]
theorem bytes_sl(b:Byt)(l u:Option Int):KBy.picked b.toArray l u=(sl b l u).toArray:=by
 rw[KBc.picked_eq,sl_eq];simp only[clip_lo,clip_hi,List.size_toArray]
theorem sl_length{α:Type}(xs:List α)(l u:Option Int):(sl xs l u).length<=xs.length:=by
 rw[sl_eq];exact ((List.take_sublist _ _).trans (List.drop_sublist _ _)).length_le
theorem VPs.sl{K:Frag}{G:Addr->Obj->Prop}{xs:List PV}{vs:List Value}(h:VPs K G xs vs)(l u:Option Int):VPs K G (Internal.sl xs l u) (kms_pick vs l u):=by
 rw[sl_eq];unfold kms_pick;rw[h.length];exact (h.drop _).take _
theorem sl_map{α β:Type}(g:α->β)(xs:List α)(l u:Option Int):(Internal.sl xs l u).map g=Internal.sl (xs.map g) l u:=by
 rw[sl_eq,sl_eq,List.map_take,List.map_drop,List.length_map]
theorem Core.newList{g hh h':Heap}{m:Str->Option Value}{news Z:Led}{ρ μ:List Addr}{env:Env'}{objs:Objs}(c:Core f g m news Z ρ μ env objs tm hh){D:Addr}{n:Nat}{vs:List Value}{o:MObj}
  (F:Fr g f.L h' m) (N:News g f.L h' ((D,listOf vs.toArray n)::news)) (hD:∀p∈news,p.1<D)
  (ho:MO f.cx ((D,listOf vs.toArray n)::news) (Fz f.cx.base Z) (ρ++[D]) D D o) :
  Core f g m ((D,listOf vs.toArray n)::news) Z (ρ++[D]) (μ++[D]) env (objs++[o]) tm h':=by
 have hd:D∉news.map (·.1):=λq=>by
  obtain ⟨p,hp,e⟩:=List.mem_map.mp q;exact absurd (hD p hp) (by rw[e];exact Nat.lt_irrefl _)
 refine c.newObj F N ?_ (λp hp=>.tail _ hp) (λp hp=>.inl hp) (λp hp=>hp) hd ho
 rw[List.map_cons,List.nodup_cons];exact ⟨hd,c.rel.nd⟩
theorem Sim.newH{o:MObj}{c:Sem Value}
  (h:∀A,AOK f st.h A->∀hh tk g m news Z ρ μ,Core f g m news Z ρ μ st.env st.objs tm hh->∀Q E,
   (∀a h' tk' news' Z' d,Core f g m news' Z' (ρ++[a]) (μ++[d]) st.env (st.objs++[o]) tm h'->Q (.ref a) {f.s₀ with heap:=h',toks:=tk'})->wpAny f.M A c Q E {f.s₀ with heap:=hh,toks:=tk}) :
  Sim f tm st (newO o st) c (pV f tm):=by
 intro r st' e;injection e;refine ⟨rfl,λp hp=>hp,λhob A hA s Q E C hp=>?_⟩
 obtain ⟨hh,tk,g,m,news,Z,ρ,μ,rfl,c⟩:=C;refine .of <| h A hA hh tk g m news Z ρ μ c Q E λa h' tk' news' Z' d c'=>hp _ _ ⟨h',tk',g,m,news',Z',ρ++[a],μ++[d],rfl,c'.tmp (a:=.r st.objs.length) ⟨a,?_,rfl⟩⟩
 rw[List.getElem?_append_right (by rw[c.rel.lr];exact Nat.le_refl _)]
 simp[c.rel.lr]
section
variable{ov:AV}{u lv uv:Value}{l r:Option Int}{lx ux:DV}
theorem slice_list(hu:(ov,u)∈tm)(hl:(AV.d lx,lv)∈tm)(hr:(AV.d ux,uv)∈tm)(el:bound (.d lx)=some l)(er:bound (.d ux)=some r)(value slice:Expr)(pos:Pos){d:DV}{ps:List PV}{o:MObj}(e:asD st.objs ov=some d)(hd:plain d=.lst ps)
  (ho:∀{cx news G ρ D vs n},(D,listOf (vs:List Value).toArray n)∈news->VPs cx.K G (sl ps l r) vs->ps.length<=big->MO cx news G ρ D D o) :
  Sim f tm st (newO o st) (newFields "slice" [lv,uv,.none] >>= λi=>standAt pos >>= λ_=>subscriptTail value slice u i) (pV f tm):=by
 refine Sim.newH λA hA hh tk g m news Z ρ μ c Q E hq=>?_
 obtain ⟨b,vs,rfl,hl',hv,hb⟩:=c.asList e hd (c.tmr _ hu);refine wpAny_bind ?_
 unfold newFields;refine wpAny_newObj_type (wpAny_bind (wpAny_standAt ?_));have hb':ps.length<=16000000:=hb;obtain ⟨ops,es⟩:=zdG slice (.ref b) (.ref hh.objs.size);have F1:=c.fr.push {cls:=.type "slice",data:=.fields [lv,uv,Value.none].toArray}
 have N1:News g f.L (hh.push {cls:=.type "slice",data:=.fields [lv,uv,Value.none].toArray}) news:=c.nw.pushKeep _
 have hl2:=hl'.at λo e=>Heap.get?_push_of_some (h:=hh) {cls:=.type "slice",data:=.fields [lv,uv,Value.none].toArray} e
 have hs:(hh.push {cls:=.type "slice",data:=.fields [lv,uv,Value.none].toArray}).get? hh.objs.size=some _:=Heap.get?_push_size _ rfl
 generalize hh.push {cls:=.type "slice",data:=.fields [lv,uv,Value.none].toArray}=h' at *
 refine tail_any (s:={f.s₀ with heap:=h',toks:=tk}) hl2.typeIs slot_list_getitem.lookup ?_ es
 refine wpAny_getItem_list_slice (s:={f.s₀ with heap:=h',toks:=tk}) hl2 ⟨_,hs,rfl,rfl⟩ (zhC el (c.tmr _ hl)) (zhC er (c.tmr _ hr)) .none (λe=>nomatch e) ?_
  (by rw[List.size_toArray,hv.length,sizeLine_eq];lia)
 rw[show slicePick vs.toArray l r none=(kms_pick vs l r).toArray from kms_pick_eq vs.toArray l r]
 exact hq _ _ _ _ _ _ ((c.step F1 N1).newList (F1.push _) (N1.push F1 _) (λp hp=>Heap.lt_size (N1 p hp).1) (ho (.head _) (hv.sl l r) hb))
theorem slice_bytes{b:Byt}(hu:(AV.d (.bytes b),u)∈tm)(hl:(AV.d lx,lv)∈tm)(hr:(AV.d ux,uv)∈tm)(el:bound (.d lx)=some l)(er:bound (.d ux)=some r)(value slice:Expr)(pos:Pos):
  Sim f tm st (val (.bytes (sl b l r)) st) (newFields "slice" [lv,uv,.none] >>= λi=>standAt pos >>= λ_=>subscriptTail value slice u i) (pV f tm):=by
 refine Sim.valH (λp hp=>hp) λhob A hA hh tk g m news Z ρ μ c Q E hq=>?_
 obtain ⟨hlb,t',rfl⟩:=(show b.length<=big/\∃t,u=.bytes b.toArray t from c.tmr _ hu)
 have hlb':b.length<=16000000:=hlb;refine wpAny_bind ?_
 unfold newFields;refine wpAny_newObj_type (wpAny_bind (wpAny_standAt ?_));obtain ⟨ops,es⟩:=zdG slice (.bytes b.toArray t') (.ref hh.objs.size);have F1:=c.fr.push {cls:=.type "slice",data:=.fields [lv,uv,Value.none].toArray}
 have N1:News g f.L (hh.push {cls:=.type "slice",data:=.fields [lv,uv,Value.none].toArray}) news:=c.nw.pushKeep _
 have hs:(hh.push {cls:=.type "slice",data:=.fields [lv,uv,Value.none].toArray}).get? hh.objs.size=some _:=Heap.get?_push_size _ rfl
 generalize hh.push {cls:=.type "slice",data:=.fields [lv,uv,Value.none].toArray}=h' at *
 refine tail_any (s:={f.s₀ with heap:=h',toks:=tk}) (typeIs_bytes _ _ _) FB.slot_bytes_getitem.lookup ?_ es
 refine getItem_meets (typeIs_bytes _ _ _) (by decide) FB.slot_bytes_getitem FB.entry_bytes_getitem (FB.args_bytes_getitem_2 _ _) (KBc.meets_slice2 b.toArray t' hh.objs.size (zhC el (c.tmr _ hl)) (zhC er (c.tmr _ hr))) ⟨⟨_,hs,rfl,rfl⟩,?_,λt'' k=>?_⟩
 ·have:=KBc.size_picked_le b.toArray l r
  have h2:b.toArray.size=b.length:=List.size_toArray;rw[h2] at this;rw[sizeLine_eq];lia
 ·rw[bytes_sl]
  exact hq _ _ _ F1 N1 ⟨Nat.le_trans (sl_length b l r) hlb,t'',rfl⟩
theorem sim_slice{d:DV}(e:asD st.objs ov=some d)(hu:(ov,u)∈tm)(hl:(AV.d lx,lv)∈tm)(hr:(AV.d ux,uv)∈tm)(el:bound (.d lx)=some l)(er:bound (.d ux)=some r)(value slice:Expr)(pos:Pos):
  Sim f tm st (sliceV d l r st) (newFields "slice" [lv,uv,.none] >>= λi=>standAt pos >>= λ_=>subscriptTail value slice u i) (pV f tm):=by
 induction d using DV.casesOn with
 |bytes b=>
  rcases zeJ e with rfl|⟨_,_,⟨xs,_,h⟩|⟨ty,xs,_,h⟩⟩
  ·exact slice_bytes hu hl hr el er value slice pos
  ·cases h
  ·cases h
 |lst xs=>
  refine slice_list hu hl hr el er value slice pos e rfl λh1 h2 h3=>⟨rfl,Nat.le_trans (sl_length xs l r) (by rw[zaC,List.length_map] at h3;exact h3),_,_,h1,?_⟩
  rw[zaC,sl_map,←zaC];exact h2
 |tl ty xs=>
  refine slice_list hu hl hr el er value slice pos e rfl λh1 h2 h3=>⟨rfl,Nat.le_trans (sl_length xs l r) (by rw[List.length_map] at h3;exact h3),_,_,h1,?_⟩
  rw[sl_map];exact h2
 |_=>exact Sim.none
end
end
end
section
open PySem PySem.W PyProof.Rows PySem.SeqAt
open Sem (wp)
section
variable{α β γ:Type}{M:Model}{A:Around}{E:Value->Shared->Prop}{s:Shared}
theorem wpB_assoc{m:Sem α}{f:α->Sem β}{k:β->Sem γ}{Q:γ->Shared->Prop}(h:wpB M A (m >>= λa=>f a >>= k) Q E s):wpB M A ((m >>= f) >>= k) Q E s:=λΓ p h1 h2 h3=>by
 have x:=h Γ p h1 h2 h3;rw[Sem.wp_bind'] at x;rw[Sem.wp_bind',Sem.wp_bind'];refine Sem.wp_mono M Γ m (λa p' s' h'=>?_) (λ_ _ _ h'=>h') p s x
 rw[Sem.wp_bind'] at h';exact h'
theorem wpB_hold_assoc{vs:List Value}{m:Sem α}{f:α->Sem β}{k:β->Sem γ}{Q:γ->Shared->Prop}(h:wpB M A (m >>= λa=>f a >>= k) Q E s):wpB M A (holding vs (m >>= f) >>= k) Q E s:=λΓ p h1 h2 h3=>by
 have x:=h Γ p h1 h2 h3;rw[Sem.wp_bind'] at x;rw[Sem.wp_bind',Sem.wp_holding,Sem.wp_bind'];refine Sem.wp_mono M Γ m (λa p' s' h'=>?_) (λ_ _ _ h'=>h') p s x
 rw[Sem.wp_bind'] at h';exact h'
theorem zgY{m:Sem α}{k k':α->Sem β}{Q:β->Shared->Prop}(h:wpB M A (m >>= k) Q E s)(e:∀a Γ p s',wp M Γ (k a) (λa _ s'=>Q a s') (λe _ s'=>E e s') p s'->wp M Γ (k' a) (λa _ s'=>Q a s') (λe _ s'=>E e s') p s'):wpB M A (m >>= k') Q E s:=λΓ p h1 h2 h3=>by
 have x:=h Γ p h1 h2 h3;rw[Sem.wp_bind'] at x ⊢;exact Sem.wp_mono M Γ m (λa p' s' h'=>e a Γ p' s' h') (λ_ _ _ h'=>h') p s x
end
section
variable{f:FC}{Sp:Spec}{lc:Nms}{ih:Task->S->Out}{tm:List (AV×Value)}{st:S}
noncomputable def FS(f:FC)(ih:Task->S->Out):Prop:=∀es st tm (out:Str),out.length+2000*es.length<=10000000->Sim f tm st (ih (.fs es) st) (joinParts out (evalEach es f.env)) (pV f tm)
theorem wpB_join{M:Model}{A:Around}{E:Value->Shared->Prop}{s:Shared}{out:Str}{x:Sem Value}{rest:List (Sem Value)}{Q:Value->Shared->Prop}(h:wpB M A (x >>= λv=>joinParts out (pure v::rest)) Q E s):wpB M A (joinParts out (x::rest)) Q E s:=λΓ p h1 h2 h3=>by
 have y:=h Γ p h1 h2 h3;rw[Sem.wp_bind'] at y;rw[joinParts,Sem.wp_bind'];refine Sem.wp_mono M Γ x (λa p' s' h'=>?_) (λ_ _ _ h'=>h') p s y
 rw[joinParts,Sem.wp_bind'] at h';exact h'
theorem joinPure{M:Model}{A:Around}{E:Value->Shared->Prop}{s:Shared}{out y:Str}{t:Tok}{rest:List (Sem Value)}{Q:Value->Shared->Prop}(hz:(out++y).length<=sizeLine)(h:wpB M A (joinParts (out++y) rest) Q E s):wpB M A (joinParts out (pure (.str y t)::rest)) Q E s:=by
 rw[joinParts];have hz':¬ (out.length+y.length>sizeLine):=by rw[←strLen_append];exact Nat.not_lt.mpr hz
 refine za0 (za4 ?_);refine za0 (za4 ?_);show wpB M A (if out.length+y.length>sizeLine then _ else _) Q E s
 rw[if_neg hz']
 first|exact h|exact za0 (za4 h)
set_option exponentiation.threshold 2000 in
theorem zi5{prog:Program}{w:World}{A:Around}{E:Value->Shared->Prop}{s:Shared}{a:Int}{t:Tok}{Q:Value->Shared->Prop}(hd:a.natAbs<1000000000)
  (h:∀y t' tk,Str.length y<=10->Q (.str y t') {s with toks:=tk}):wpAny (model prog w) A (formatField (.int a t) Str.empty) Q E s:=by
 refine PySem.wpAny_formatField_int ?_ (h _ _ _ ?_)
 ·by_cases q:a.natAbs=0
  ·rw[q];decide
  ·exact (Nat.log2_lt q).mpr (Nat.lt_of_lt_of_le hd (Nat.le_trans (by decide:1000000000<=2 ^ 30) (Nat.pow_le_pow_right (by decide) (by decide))))
 ·rw[PySem.ofString_length]
  exact int_text_length_le10 (k:=9) (by decide) hd
theorem step_fs(I:IH f ih)(IF:FS f ih){es:List Expr}{out:Str}(hl:out.length+2000*es.length<=10000000):Sim f tm st (zaJ Sp lc ih (.fs es) st) (joinParts out (evalEach es f.env)) (pV f tm):=by
 have hz:sizeLine=16777216:=sizeLine_eq;induction es using List.casesOn with
 |nil=>
  rw[arm_evalEach_nil];exact Sim.val (x:=.str) (λp hp=>hp) λhob A hA s Q E C h=>joinParts_nil (h _ (s.toks+1) λG=>⟨_,_,rfl⟩) (by simp at hl;lia)
 |cons e r=>
  rw[List.length_cons] at hl;rw[arm_evalEach_cons];induction e using Expr.casesOn with
  |Constant c k pos=>
   induction c with
   |str x=>
    show Sim f tm st (match Nat.ble x.cps.size 1000 with|true=>ih (.fs r) st|false=>none) _ _
    induction q:Nat.ble x.cps.size 1000 with
    |false=>exact Sim.none
    |true=>
     have hx:x.length<=1000:=Nat.le_of_ble_eq_true q;have hs:(out++x).length=out.length+x.length:=strLen_append ..;intro res st' e1;obtain ⟨z1,z2,z3⟩:=IF r st tm (out++x) (by lia) res st' e1
     refine ⟨z1,z2,λhob A hA s Q E C hp=>wpB_join ?_⟩
     refine za8 (m:=eval (.Constant (.str x) k pos) f.env) (λ_ _ _=>?_)
     exact joinPure (by lia) (z3 hob A hA _ Q E (C.tok (s.toks+1)) hp)
   |_=>exact Sim.none
  |FormattedValue e' conv spec pos=>
   induction conv with
   |ofNat _=>exact Sim.none
   |negSucc n=>
    induction n using Nat.casesAuxOn with
    |succ _=>exact Sim.none
    |zero=>
     induction spec with
     |some _=>exact Sim.none
     |none=>
      have sub:Sim f tm st (zaK (ih (.ev e') st) λa st=>(match a with
       |.d (.int i)=>ih (.fs r) (st.need (i.natAbs<1000000000))
       |_=>none)) (eval e' f.env >>= λv=>standAt pos >>= λ_=>formatField v Str.empty >>= λsv=>joinParts out (pure sv::evalEach r f.env)) (pV f tm):=by
       refine (I.ev e' st tm).bindV pV.exc λa st1 v _ _=>Sim.stand ?_
       induction a with
       |r i=>exact Sim.none
       |d x=>
        induction x using DV.casesOn with
        |int i=>
         dsimp only;refine (Sim.up (tm':=tm) (tm:=(.d (.int i),v)::tm) ?_ zdH);intro res st' e1;obtain ⟨z1,z2,_⟩:=IF r (st1.need (i.natAbs<1000000000)) ((.d (.int i),v)::tm) out (by lia) res st' e1
         refine ⟨z1,λp hp=>z2 p (zaL p hp),λhob A hA s Q E C hp=>?_⟩
         obtain ⟨t,rfl⟩:=C.int (.head _);have hi:=(hob.sub z2).last;refine za8 (zi5 hi λy t' tk hy=>?_)
         have hs:(out++y).length=out.length+y.length:=strLen_append ..;refine joinPure (by lia) ?_
         exact (IF r (st1.need (i.natAbs<1000000000)) ((.d (.int i),.int i t)::tm) (out++y) (by lia) res st' e1).3 hob A hA _ Q E (C.tok tk) hp
        |_=>exact Sim.none
      refine sub.cong λA s Q E hA C h=>wpB_join ?_
      rw[arm_eval_FormattedValue];refine wpB_assoc (zgY h λv Γ p s' y=>?_)
      rw[Sem.wp_bind'] at y;rw[Sem.wp_bind',Sem.wp_bind'];refine Sem.wp_mono f.M Γ _ (λa p' s'' y'=>?_) (λ_ _ _ y'=>y') p s' y
      rw[Sem.wp_bind'] at y';rw[Sem.wp_bind',Sem.wp_holding];exact y'
  |_=>exact Sim.none
end
end
section
open PySem PySem.W PyProof.Rows PySem.SeqAt
open Sem (wp)
section
variable{f:FC}{Sp:Spec}{lc:Nms}{ih:Task->S->Out}{tm:List (AV×Value)}{st:S}
theorem sub_three{x y z:AV×Value}:∀p∈tm,p∈x::y::z::tm:=λp hp=>.tail _ (.tail _ (.tail _ hp))
theorem sim_dictV{x y:AV}{v u:Value}(hx:(x,v)∈tm)(hy:(y,u)∈tm)(value slice:Expr):Sim f tm st (dictV x y st) (subscriptTail value slice v u) (pV f tm):=by
 induction x with
 |d _=>exact Sim.none
 |r j=>
  induction y with
  |r _=>exact Sim.none
  |d y=>
   refine zaI λk hk=>zaI λo ho=>?_
   cases asD_byt hk
   induction o with
   |dict es=>
    refine Sim.valH zaL λhob A hA hh tk g m news Z ρ μ c Q E hq=>?_
    obtain ⟨_,t,rfl⟩:=(show k.length<=big/\∃t,u=.bytes k.toArray t from c.tmr _ hy)
    obtain ⟨b,d,h1,h2,rfl,hl,o,kvs,h3,h4,h5,h6⟩:=c.obj ho;obtain ⟨b',h7,rfl⟩:=(show ∃b,ρ[j]?=some b/\v=.ref b from c.tmr _ hx)
    cases h1.symm.trans h7
    have hs:(dget k es).isSome=true:=hob.last;have kv:=zfU h6 k;induction q:dget k es with
    |none=>rw[q] at hs;exact ff hs
    |some w=>
     rw[q] at kv hq;obtain ⟨hw,t',e⟩:=kv;have hm:=(dictOf_at (c.nw _ h3).1 h5).mapOf;exact tail_of (s:={f.s₀ with heap:=hh,toks:=tk}) hm.typeIs slot_dict_getitem.lookup (wpAny_getItem_of (s:={f.s₀ with heap:=hh,toks:=tk}) (bytesKind_is _ _ k t) hm e (hq _ hh (tk+1) c.fr c.nw ⟨hw,t',rfl⟩))
   |_=>exact Sim.none
theorem sub_plain(I:IH f ih){o i:Expr}{pos:Pos}:Sim f tm st (zaK (ih (.ev o) st) λo st=>zaK (ih (.ev i) st) λi st=>subV o i st) (eval (.Subscript o i pos) f.env) (pV f tm):=by
 rw[eval_Subscript];refine (I.ev o st tm).bindV pV.exc λx st1 v _ _=>?_
 refine (I.ev i st1 ((x,v)::tm)).holding.bindV pV.exc λy st2 u _ _=>Sim.stand ?_
 show Sim f _ st2 (match asD st2.objs x with
  |some d=>(match (generalizing:=false) y with
   |.d z=>idxV d z st2
   |.r _=>none)
  |none=>dictV x y st2) _ _
 induction q:asD st2.objs x with
 |none=>exact (sim_dictV (tm:=(y,u)::(x,v)::tm) (.tail _ (.head _)) (.head _) o i).up zhZ
 |some d=>
  induction y with
  |r _=>exact Sim.none
  |d y=>exact (sim_idx (tm:=(.d y,u)::(x,v)::tm) q (.tail _ (.head _)) (.head _) o i).up zhZ
theorem sim_opt(I:IH f ih){l:Option Expr}:Sim f tm st (match l with|some l=>ih (.ev l) st|none=>val .none st) (valueOrNone (evalOpt l f.env)) (pV f tm):=by
 induction l with
 |none=>exact Sim.val (x:=.none) (λp hp=>hp) λhob A hA s Q E C h=>wpAny_pure (h .none s.toks λG=>rfl)
 |some e=>exact I.ev e st tm
theorem sub_slice(I:IH f ih){o:Expr}{l u:Option Expr}{p pos:Pos}:Sim f tm st (zaK (ih (.ev o) st) λov st=>
   zaK (match l with|some l=>ih (.ev l) st|none=>val .none st) λlv st=>
   zaK (match u with|some u=>ih (.ev u) st|none=>val .none st) λuv st=>
   opb (asD st.objs ov) λd=>opb (bound lv) λl=>opb (bound uv) λu=>sliceV d l u st) (eval (.Subscript o (.Slice l u none p) pos) f.env) (pV f tm):=by
 rw[eval_Subscript];refine (I.ev o st tm).bindV pV.exc λx st1 v _ _=>?_
 have e1:eval (.Slice l u none p) f.env=(valueOrNone (evalOpt l f.env) >>= λlv=>holding [lv] (valueOrNone (evalOpt u f.env)) >>= λuv=>holding [lv,uv] (pure Value.none) >>= λs=>newFields "slice" [lv,uv,s]):=rfl
 rw[e1];refine Sim.cong (c:=valueOrNone (evalOpt l f.env) >>= λlv=>holding [lv] (valueOrNone (evalOpt u f.env)) >>= λuv=>newFields "slice" [lv,uv,.none] >>= λi=>standAt pos >>= λ_=>subscriptTail o (.Slice l u none p) v i) ?_ λA s Q E hA C h=>?_
 ·refine (sim_opt I).bindV pV.exc λlv st2 lw _ _=>?_
  refine (sim_opt I).holding.bindV pV.exc λuv st3 uw _ _=>?_
  refine zaI λd hd=>zaI λl' hl=>zaI λu' hr=>?_
  induction lv with
  |r j=>exact nn hl
  |d lx=>
   induction uv with
   |r j=>exact nn hr
   |d ux=>exact (sim_slice (f:=f) (st:=st3) (tm:=(.d ux,uw)::(.d lx,lw)::(x,v)::tm) (ov:=x) (u:=v) hd (.tail _ (.tail _ (.head _))) (.tail _ (.head _)) (.head _) hl hr o (.Slice l u none p) pos).up sub_three
 ·refine wpB_hold_assoc (zgY h λa Γ p s' y=>?_)
  rw[Sem.wp_bind'] at y;rw[Sem.wp_bind',Sem.wp_bind'];refine Sem.wp_mono f.M Γ _ (λb p' s'' y'=>?_) (λ_ _ _ y'=>y') p s' y
  rw[Sem.wp_bind'] at y';rw[Sem.wp_bind',Sem.wp_holding];exact y'
theorem datas_vps{K:Frag}{G:Addr->Obj->Prop}{ρ:List Addr}{os:Objs}{as:List AV}:∀{vs:List Value} {xs:List DV},datas os as=some xs->vs.length=as.length->(∀p∈as.zip vs,VA K G ρ p.1 p.2)->VPs K G (zaU xs) vs:=by
 induction as with
 |nil=>
  intro vs xs h l _;injection h;rw[List.eq_nil_of_length_eq_zero l];exact .nil
 |cons a as ih=>
  intro vs xs h l hv;induction vs using List.casesOn with
  |nil=>cases l
  |cons v vr=>
   obtain ⟨x,e1,h⟩:=za3 h;obtain ⟨ys,e,h⟩:=za3 h;injection h;induction a with
   |r i=>exact nn e1
   |d x=>injection e1;exact .c (hv _ (.head _)) (ih e (Nat.succ.inj l) λp hp=>hv p (.tail _ hp))
theorem datas_len{os:Objs}{as:List AV}:∀{xs:List DV},datas os as=some xs->xs.length=as.length:=by
 induction as with
 |nil=>intro xs h;injection h;rfl
 |cons a as ih=>
  intro xs h;obtain ⟨x,e1,h⟩:=za3 h;obtain ⟨ys,e,h⟩:=za3 h;injection h;exact congrArg (·+1) (ih e)
theorem Sim.valZ{x:DV}{c:Sem Value}{obl:List Prop}(ho:∀p∈st.obl,p∈obl)
  (h:Holds obl->∀A,AOK f st.h A->∀hh tk g m news Z ρ μ,Core f g m news Z ρ μ st.env st.objs tm hh->∀Q E,
   (∀v h' tk' news' Z',Core f g m news' Z' ρ μ st.env st.objs tm h'->VP f.cx.K (Fz f.cx.base Z') (plain x) v->Q v {f.s₀ with heap:=h',toks:=tk'})->wpAny f.M A c Q E {f.s₀ with heap:=hh,toks:=tk}) :
  Sim f tm st (Internal.val x {st with obl:=obl}) c (pV f tm):=by
 intro r st' e;injection e;refine ⟨rfl,ho,λhob A hA s Q E C hp=>?_⟩
 obtain ⟨hh,tk,g,m,news,Z,ρ,μ,rfl,c⟩:=C;exact .of <| h hob A hA hh tk g m news Z ρ μ c Q E λv h' tk' news' Z' c' hv=>hp v _ ⟨h',tk',g,m,news',Z',ρ,μ,rfl,c'.tmp (a:=.d x) hv⟩
theorem ble_le{n:Nat}(q:Nat.ble n 100=true):n<=100:=Nat.le_of_ble_eq_true q
noncomputable def LEN(ih:Task->S->Out):Prop:=∀es st as st',ih (.evs es) st=some (.vs as,st')->as.length=es.length
set_option tactic.hygienic true in
theorem step_List(I:IH f ih)(IL:LEN ih){es:List Expr}{pos:Pos}:Sim f tm st (zaJ Sp lc ih (.ev (.List es pos)) st) (eval (.List es pos) f.env) (pV f tm):=by
 show Sim f tm st (match Nat.ble es.length 100 with
   |false=>none
   |true=>zc8 (ih (.evs es) st) λas st=>match datas st.objs as with|some xs=>newO (.lst xs) st|none=>none) _ _
 induction q:Nat.ble es.length 100 with
 |false=>exact Sim.none
 |true=>
  have q:=ble_le q;rw[arm_eval_List];refine Sim.stand ?_
  refine (I.evs es pos st tm).bindVs pV.exc λas st1 vs e1 _ l=>?_
  have hl:=IL _ _ _ _ e1;split
  ·rename_i xs e
   refine Sim.up (tm:=as.zip vs++tm) ?_ λp hp=>List.mem_append_right _ hp
   refine Sim.newH λA hA hh tk g m news Z ρ μ c Q E hq=>?_
   have hx:=datas_len e;refine wpAny_newList ?_ (by rw[l,hl,sizeLine_eq];lia)
   have hv:=datas_vps e l λp hp=>c.tmr p (List.mem_append_left _ hp)
   exact hq _ _ _ _ _ _ (c.newList (n:=0) (vs:=vs) (c.fr.push _) (c.nw.push c.fr _) (λp hp=>Heap.lt_size (c.nw p hp).1) ⟨rfl,by show xs.length<=16000000;lia,vs,0,.head _,hv⟩)
  ·exact Sim.none
set_option tactic.hygienic true in
theorem step_Tuple(I:IH f ih)(IL:LEN ih){es:List Expr}{k:Nat}{pos:Pos}:Sim f tm st (zaJ Sp lc ih (.ev (.Tuple es k pos)) st) (eval (.Tuple es k pos) f.env) (pV f tm):=by
 show Sim f tm st (match Nat.ble es.length 100 with
   |false=>none
   |true=>zc8 (ih (.evs es) st) λas st=>match datas st.objs as with|some xs=>val (.tup xs) st|none=>none) _ _
 induction q:Nat.ble es.length 100 with
 |false=>exact Sim.none
 |true=>
  have q:=ble_le q;rw[arm_eval_Tuple];refine Sim.stand ?_
  refine (I.evs es pos st tm).bindVs pV.exc λas st1 vs e1 _ l=>?_
  have hl:=IL _ _ _ _ e1;split
  ·rename_i xs e
   refine Sim.up (tm:=as.zip vs++tm) ?_ λp hp=>List.mem_append_right _ hp
   refine Sim.valZ (λp hp=>hp) λhob A hA hh tk g m news Z ρ μ c Q E hq=>?_
   have hx:=datas_len e;refine wpAny_newTuple ?_ (by rw[l,hl,sizeLine_eq];lia)
   have hv:=datas_vps e l λp hp=>c.tmr p (List.mem_append_left _ hp)
   refine hq _ _ _ _ _ (c.freezeNew (c.fr.push _) (c.nw.push c.fr _) (λp hp=>Nat.ne_of_lt (Heap.lt_size (c.nw p hp).1))) ?_
   exact RefX.mk _ _ vs rfl (.inl (.head _)) ⟨rfl,0,rfl⟩ (by rw[zaC,List.length_map];show xs.length<=16000000;lia) (hv.mono λ_ _ z=>z.mono λp hp=>.tail _ hp)
  ·exact Sim.none
theorem step_Dict{pos:Pos}:Sim f tm st (zaJ Sp lc ih (.ev (.Dict [] [] pos)) st) (eval (.Dict [] [] pos) f.env) (pV f tm):=by
 show Sim f tm st (newO (.dict []) st) _ _
 refine Sim.newH λA hA hh tk g m news Z ρ μ c Q E hq=>?_
 refine Dict_empty_made (s:={f.s₀ with heap:=hh,toks:=tk}) (bytesKind f.cx.prog f.cx.w) (λb=>PyData.int 0) c.fr c.nw (modules_low c.T.nolimit) λh' o F' N' lo hd _ hap=>?_
 refine hq _ _ _ _ _ _ (c.newObj F' N' ?_ (λp hp=>.tail _ hp) (λp hp=>.inl hp) (λp hp=>hp) ?_ ⟨rfl,by decide,o,[],.head _,lo,hd,rfl⟩)
 ·rw[List.map_cons,List.nodup_cons]
  exact ⟨λq=>by obtain ⟨p,hp,e⟩:=List.mem_map.mp q;exact hap p hp e,c.rel.nd⟩
 ·exact λq=>by obtain ⟨p,hp,e⟩:=List.mem_map.mp q;exact hap p hp e
end
end
section
open PySem PySem.W PyProof.Rows PySem.SeqAt
open Sem (wp)
section
variable{M:Model}{A:Around}{E:Value->Shared->Prop}{s:Shared}
theorem evalArgsB{f:Value}{args:List (Bool×Sem Value)}{Q:Args->Shared->Prop}(hplain:args.any (·.1)=false)(h:wpB M A (spliced args) (λvs s'=>Q ⟨vs,[]⟩ s') E s):wpB M A (evalArgs f true args []) Q E s:=by
 unfold evalArgs
 have go:wpB M A (spliced args >>= λx=>pure (x,(none:Option Value)) >>= λ(y:List Value×Option Value)=>holding (y.1++y.2.toList) (evalAll [] >>= λks=>pure (⟨y.1,[]⟩:Args))) Q E s:=by
  refine za0 (zaZ h (λvs s' h'=>?_) λ_ _ x=>x)
  exact za0 (za4 (zaH (za0 (za4 (za4 h')))))
 induction args using List.casesOn with
 |nil=>
  refine za0 (zaZ h (λvs s' h'=>?_) λ_ _ x=>x)
  refine za0 (za4 (zaH ?_));exact za0 (za4 (za0 (za4 (za4 h'))))
 |cons x r=>
  obtain ⟨b,x⟩:=x
  have hb:b=false:=by
   induction b with
   |false=>rfl
   |true=>cases hplain
  subst hb;show wpB M A (spliced ((false,x)::r) >>= _) Q E s
  refine za0 (zaZ h (λvs s' h'=>?_) λ_ _ x=>x)
  refine zaH ?_
  exact za0 (za4 (za0 (za4 (za4 h'))))
theorem wpB_keep{α:Type}{vs:List Value}{m:Sem α}{Q:α->Shared->Prop}(h:wpB M A m Q E s):wpB M A (m.keep vs) Q E s:=λΓ p h1 h2 h3=>by rw[Sem.wp_keep];exact h Γ p h1 h2 h3
theorem zfK{pos:Pos}{f:Value}{first:List Value}{args:List (Bool×Sem Value)}{Q:Value->Shared->Prop}(hplain:args.any (·.1)=false)
  (h:wpB M A (spliced args) (λvs s₁=>(∃k,Looks M s₁.heap (keeperOf f) k)/\wpB M A (call f (first++vs)) Q E s₁) E s):wpB M A (callWith pos f first args []) Q E s:=by
 unfold callWith;refine za0 (zaH (evalArgsB hplain (zaZ h (λvs s₁ h₁=>za0 (zaS ?_)) λ_ _ x=>x)))
 obtain ⟨⟨k,L⟩,h₁⟩:=h₁;simp only[hplain,List.any_nil,Bool.or_false];refine za8 (L.here ?_)
 have tail:∀{t:Sem Value},wpB M A t Q E s₁->wpB M A (t >>= λr=>holding [r] point >>= λ_=>pure r) Q E s₁:=
  λht=>za0 (zaZ ht (λr s₂ hr=>za0 (zaH (wpB_point (za4 hr)))) λ_ _ x=>x)
 have marked (mk:Value):wpB M A (callMarked mk f (first++vs) []) Q E s₁:=by unfold callMarked;exact wpB_keep h₁
 cases k <;> dsimp only <;> first|exact tail h₁|(split <;> first|exact tail h₁|exact tail (marked _))|exact tail (wpB_operate h₁)
theorem zfW:∀{as:List Expr} {pos:Pos} {env:Env},zf7 as=true->(backTo pos (starEach as env)).any (·.1)=false:=by
 intro l;induction l with
 |nil=>exact @λ_ _ _=>rfl
 |cons e r ih=>
  intro pos env h
  have key:zf7 r=true/\starEach (e::r) env=(false,eval e env)::starEach r env:=by
   cases e <;> first|exact ⟨h,rfl⟩|injection h
  rw[key.2];exact ih (pos:=pos) (env:=env) key.1
end
section
variable{f:FC}{Sp:Spec}{lc:Nms}{ih:Task->S->Out}{tm:List (AV×Value)}{st:S}
theorem Sim.args{fv:Value}{first:List Value}{args:List (Bool×Sem Value)}{o:Out}{k:List AV->S->Out}{pos:Pos}(hplain:args.any (·.1)=false)(x:Sim f tm st o (spliced args) (pVs f tm))
  (hkp:Holds st.obl->∀{env objs tm s},Cfg f env objs tm s->∃k,Looks f.M s.heap (keeperOf fv) k)
  (hk:∀as st1 vs,o=some (.vs as,st1)->st1.h=st.h->vs.length=as.length->Sim f (as.zip vs++tm) st1 (k as st1) (call fv (first++vs)) (pV f tm)) :
  Sim f tm st (zc8 o k) (callWith pos fv first args []) (pV f tm):=by
 intro r st' h;rcases zeP h with ⟨a,st1,e1,e2⟩|⟨m,y,e1,rfl⟩
 ·obtain ⟨h1,h2,h3⟩:=x _ _ e1
  obtain ⟨h4,h5,_⟩:=hk a st1 (a.map λ_=>.none) e1 h1 (by simp) _ _ e2
  refine ⟨h4.trans h1,λp hp=>h5 p (h2 p hp),λhob A hA s Q E C hp=>zfK hplain (h3 (hob.sub h5) A hA s _ E C λv s' l C'=>⟨hkp (hob.sub λp hp=>h5 p (h2 p hp)) C',?_⟩)⟩
  exact (hk a st1 v e1 h1 l _ _ e2).3 hob A (hA.h h1) s' Q E C' hp
 ·obtain ⟨h1,h2,h3⟩:=x _ _ e1
  exact ⟨h1,h2,λhob A hA s Q E C hp=>zfK hplain (h3 hob A hA s _ E C hp)⟩
theorem zcY{fv:Value}(h:∀a,fv≠.ref a){M:Model}{hp:Heap}:∃k,Looks M hp (keeperOf fv) k:=by
 refine ⟨.machine,?_⟩;unfold keeperOf;split
 ·exact absurd rfl (h _)
 ·exact Looks.of_pure rfl
end
end
section
open PySem PySem.W PyProof.Rows PySem.SeqAt
open Sem (wp)
theorem zg8:Slot "bytearray" "append" "bytearray.append":=
 .of (owner := "bytearray") (n := "append") (by rw[typeLookup_type,builtinLookup_eq_fast];kernel_rfl) (by decide +kernel) (by decide +kernel) (by decide +kernel)
  (by first|exact .inl (by decide +kernel)|exact .inr (by decide +kernel)) (by rw[isSubtype_type];kernel_rfl)
theorem zg7:Slot "bytearray" "extend" "bytearray.extend":=
 .of (owner := "bytearray") (n := "extend") (by rw[typeLookup_type,builtinLookup_eq_fast];kernel_rfl) (by decide +kernel) (by decide +kernel) (by decide +kernel)
  (by first|exact .inl (by decide +kernel)|exact .inr (by decide +kernel)) (by rw[isSubtype_type];kernel_rfl)
theorem slot_ba_init:Slot "bytearray" "__init__" "bytearray.__init__":=
 .of (owner := "bytearray") (n := "__init__") (by rw[typeLookup_type,builtinLookup_eq_fast];kernel_rfl) (by decide +kernel) (by decide +kernel) (by decide +kernel)
  (by first|exact .inl (by decide +kernel)|exact .inr (by decide +kernel)) (by rw[isSubtype_type];kernel_rfl)
theorem ba_mro:mroOf (.type "bytearray")=pure [.type "bytearray",.type "object"]:=by rw[mroOf_type];kernel_rfl
theorem ba_lookup_new:typeLookup (.type "bytearray") "__new__"=pure (some (.builtin "bytearray.__new__")):=by rw[typeLookup_type,builtinLookup_eq_fast];kernel_rfl
theorem ba_called:TypeCalled "bytearray" "bytearray.__new__" "bytearray.__init__":=
 ⟨by decide +kernel,by decide +kernel,⟨_,_,ba_mro⟩,madeBy_type ba_mro ba_lookup_new (by decide +kernel),by decide +kernel,by rw[isSubtype_type];kernel_rfl,slot_ba_init⟩
theorem ba_typeCall:checkTypeCall "bytearray" ⟨[],[]⟩=pure ():=by kernel_rfl
theorem ba_newCall:checkBuiltinCall "bytearray.__new__" ⟨[.type "bytearray"],[]⟩=pure ():=by kernel_rfl
theorem ba_entry_new:entryFor table "bytearray.__new__"=some Builtin.«list.__new__»:=
 entryFor_alias (id' := "list.__new__") (by kernel_rfl) (by first|rfl|decide +kernel) (by decide +kernel) (by kernel_rfl)
theorem ba_plain_new:plainId "bytearray.__new__"=true:=by decide +kernel
theorem ba_entry_init:entryFor table "bytearray.__init__"=some Builtin.«bytearray.__init__»:=entryFor_of_tree (by kernel_rfl)
theorem ba_entry_append:entryFor table "bytearray.append"=some Builtin.«bytearray.append»:=entryFor_of_tree (by kernel_rfl)
theorem ba_entry_extend:entryFor table "bytearray.extend"=some Builtin.«bytearray.extend»:=entryFor_of_tree (by kernel_rfl)
theorem ba_args_append (a b:Value):argsOk "bytearray.append" ⟨[a,b],[]⟩:=by
 unfold argsOk;kernel_rfl
theorem ba_args_extend (a b:Value):argsOk "bytearray.extend" ⟨[a,b],[]⟩:=by
 unfold argsOk;kernel_rfl
theorem ba_args_init (a:Value):argsOk "bytearray.__init__" ⟨[a],[]⟩:=by
 unfold argsOk;kernel_rfl
set_option maxRecDepth 1000000 in
set_option maxHeartbeats 4000000 in
theorem owner_ba_new:("bytearray.__new__".splitOn ".__new__").headD "" = "bytearray":=by simp +decide [String.splitOn,String.splitOnAux]
theorem zgU:isSubtype (.type "bytearray") (.type "bytearray")=pure true:=by rw[isSubtype_type];kernel_rfl
theorem ba_bind:Builtin.Bytes.bindOptional "bytearray.__init__" "bytearray" ["source", "encoding", "errors"] [] []=pure [none,none,none]:=by kernel_rfl
theorem ba_release:typeLookup (.type "bytearray") "__release_buffer__"=pure (some (.builtin "bytearray.__release_buffer__")):=by rw[typeLookup_type,builtinLookup_eq_fast];kernel_rfl
theorem ba_buffer:typeLookup (.type "bytearray") "__buffer__"=pure (some (.builtin "bytearray.__buffer__")):=by rw[typeLookup_type,builtinLookup_eq_fast];kernel_rfl
theorem ba_no_bytes:typeLookup (.type "bytearray") "__bytes__"=pure none:=by rw[typeLookup_type,builtinLookup_eq_fast];kernel_rfl
theorem ba_no_index:typeLookup (.type "bytearray") "__index__"=pure none:=by rw[typeLookup_type,builtinLookup_eq_fast];kernel_rfl
theorem zeI:typeLookup (.type "bytes") "__buffer__"=pure (some (.builtin "bytes.__buffer__")):=by rw[typeLookup_type,builtinLookup_eq_fast];kernel_rfl
theorem by_release:typeLookup (.type "bytes") "__release_buffer__"=pure none:=by rw[typeLookup_type,builtinLookup_eq_fast];kernel_rfl
theorem by_bytes:typeLookup (.type "bytes") "__bytes__"=pure (some (.builtin "bytes.__bytes__")):=by rw[typeLookup_type,builtinLookup_eq_fast];kernel_rfl
end
section
open PySem PySem.W PyProof.Rows PySem.SeqAt
open Sem (wp)
section
variable{prog:Program}{w:World}{A:Around}{E:Value->Shared->Prop}{s:Shared}
theorem zbH{α:Type}{M:Model}{c:Prop}[Decidable c]{a b:Sem α}{Q:α->Shared->Prop}(hc:¬ c)(h:wpB M A b Q E s):wpB M A (if c then a else b) Q E s:=by rw[if_neg hc];exact h
theorem zhF{id:String}{args:Args}{b:Builtin}{R:Result->Shared->Prop}(hb:entryFor table id=some b)(hcl:Builtin.Bytes.decodersThatHold.contains id=false)
  (h:wpB (model prog w) (A.under (.builtin id args)) (b args) (λfin s'=>match fin with|.done f=>R (.ok f) s'|.again c'=>c'.quiet=true/\codeB (model prog w) A c' R s') (λe s'=>R (.error e) s') s) :
  codeB (model prog w) A (.builtin id args) R s:=by
 refine zaX (by show (!Builtin.Bytes.decodersThatHold.contains id)=true;rw[hcl];rfl) ?_
 show wpB _ _ (match entryFor table id with|some b=>b args|none=>unsupported ((withoutEnding? id "#data").getD id)) _ _ s
 rw[hb];exact h
theorem zgQ{T:String}{name:Str}{id:String}{b:Builtin}{self:Value}{rest:List Value}{Q:Value->Shared->Prop}(h:Slot T name id)(hT:s.TypeIs self T)(hb:entryFor table id=some b)
  (hcl:Builtin.Bytes.decodersThatHold.contains id=false)
  (hc:wpB (model prog w) A.in1 (b ⟨self::rest,[]⟩) (λfin s'=>∃v,fin=.done (.ret v)/\Q v s') E s) (ha:argsOk id ⟨self::rest,[]⟩) :
  wpB (model prog w) A (call (.builtin id) (self::rest)) Q E s:=by
 refine zeO (zaX rfl ?_);show wpB _ A.in1 (do checkBuiltinCall id ⟨self::rest,[]⟩;again (.builtin id ⟨self::rest,[]⟩)) _ _ s
 refine za8 (h.check _ _ _ _ _ _ _ _ hT ha (za4 ⟨plainId_quiet h.plain _,zaX (by show (!Builtin.Bytes.decodersThatHold.contains id)=true;rw[hcl];rfl) ?_⟩))
 rw[Around.under_plainId h.plain];show wpB _ _ (match entryFor table id with|some b=>b ⟨self::rest,[]⟩|none=>unsupported ((withoutEnding? id "#data").getD id)) _ _ s
 rw[hb];exact zaZ hc (λfin s' h'=>by obtain ⟨v,rfl,hv⟩:=h';exact hv) λ_ _ h'=>h'
theorem checkResizeB {a:Addr} {b:Array UInt8} {Q:Unit->Shared->Prop} (hg:A.guards=some []) (ho:s.heap.get? a=some {cls:=.type "bytearray",data:=.bytearray b 0}) (h:Q () s) :
  wpB (model prog w) A (Builtin.Bytes.checkResize (.ref a)) Q E s:=by
 unfold Builtin.Bytes.checkResize;refine za0 ?_
 show wpB _ _ (Builtin.Bytes.exported (.ref a) >>= λx=>_) _ _ _
 refine za0 (wpB_exported hg (za0 ?_));unfold Builtin.Bytes.exportsOf;refine za8 (wpAny_load ho (za4 (za4 ?_)));show wpB _ _ (if (decide (0>0))=true then _ else _) _ _ _
 rw[if_neg (by decide)]
 exact za4 h
theorem writeB {a:Addr} {b:Array UInt8} {k:Array UInt8->Array UInt8} {Q:Unit->Shared->Prop} (ho:s.heap.get? a=some {cls:=.type "bytearray",data:=.bytearray b 0}) (hz:(k b).size<=sizeLine)
  (h:∀h',h'.get? a=some {cls:=.type "bytearray",data:=.bytearray (k b) 0}->Heap.SameBut a s.heap h'->Q () {s with heap:=h'}):wpAny (model prog w) A (Builtin.Bytes.write (.ref a) k) Q E s:=by
 unfold Builtin.Bytes.write updateBytearray;refine wpAny_bind (wpAny_load ho ?_);show wpAny _ _ (update a (Obj.mapBytearray k) >>= λ_=>lookBehind a) _ _ _
 refine wpAny_bind (wpAny_update ho ?_);have h2:(s.heap.update a (Obj.mapBytearray k)).get? a=some {cls:=.type "bytearray",data:=.bytearray (k b) 0}:=Heap.get?_update_self (Obj.mapBytearray k) ho rfl
 refine wpAny_lookBehind h2 ?_ (h _ h2 (Heap.SameBut.update ..));show (if (k b).size>sizeLine then some "bytearray:memory" else none)=none
 rw[if_neg (Nat.not_lt.mpr hz)]
theorem byteValue_ok{n:Int}{t:Tok}{Q:UInt8->Shared->Prop}(h0:0<=n)(h1:n<256)(h:Q (u8 n) s):wpAny (model prog w) A (Builtin.Bytes.byteValue (.int n t)) Q E s:=by
 unfold Builtin.Bytes.byteValue;refine wpAny_bind (wpAny_of_eq (rfl:asIndex (.int n t)=pure n) ?_);show wpAny _ _ (if (decide (n<0)||decide (n≥256))=true then _ else _) _ _ _
 rw[if_neg (by simp;lia)]
 exact wpAny_pure h
theorem ba_appendB {a:Addr} {b:Array UInt8} {n:Int} {t:Tok} {Q:Value->Shared->Prop} (hg:A.guards=some []) (ho:s.heap.get? a=some {cls:=.type "bytearray",data:=.bytearray b 0}) (h0:0<=n) (h1:n<256) (hz:b.size<sizeLine)
  (h:∀h',h'.get? a=some {cls:=.type "bytearray",data:=.bytearray (b.push (u8 n)) 0}->Heap.SameBut a s.heap h'->Q .none {s with heap:=h'}) :
  wpB (model prog w) A (call (.builtin "bytearray.append") [.ref a,.int n t]) Q E s:=by
 refine zgQ zg8 ⟨_,ho,rfl⟩ ba_entry_append (by decide +kernel) ?_ (ba_args_append _ _)
 unfold Builtin.«bytearray.append»;refine za8 (m:=selfAndOne "bytearray.append" _) (wpAny_pure ?_)
 refine za8 (byteValue_ok h0 h1 ?_);refine za0 (checkResizeB hg ho ?_);refine za8 (writeB (k:=(·.push (u8 n))) ho (by rw[Array.size_push];exact hz) λh' e1 e2=>za4 ⟨_,rfl,h h' e1 e2⟩)
theorem ends_buffer:("bytes.__buffer__".endsWith ("." ++ "__buffer__"))=true:=by decide +kernel
theorem zf5 {b:Array UInt8} {t:Tok} {Q:Bool->Shared->Prop} (h:Q true s):wpAny (model prog w) A (Builtin.Bytes.slotIsOwn (.bytes b t) "__buffer__") Q E s:=by
 unfold Builtin.Bytes.slotIsOwn;refine wpAny_bind (wpAny_specialOf (typeIs_bytes s b t) zeI ?_);show wpAny _ _ (if (!("bytes.__buffer__".endsWith ("." ++ "__buffer__")))=true then _ else _) _ _ _
 rw[if_neg (by rw[ends_buffer];decide)]
 have e:("bytes.__buffer__".dropRight ("__buffer__".length+1)) = "bytes":=by decide +kernel
 rw[e];exact wpAny_isInstance (typeIs_bytes s b t) F.sub_bytes_bytes h
theorem ends_ba_buffer:("bytearray.__buffer__".endsWith ("." ++ "__buffer__"))=true:=by decide +kernel
theorem ends_ba_release:("bytearray.__release_buffer__".endsWith ("." ++ "__release_buffer__"))=true:=by decide +kernel
theorem drop_ba_buffer:("bytearray.__buffer__".dropRight ("__buffer__".length+1)) = "bytearray":=by decide +kernel
theorem drop_ba_release:("bytearray.__release_buffer__".dropRight ("__release_buffer__".length+1)) = "bytearray":=by decide +kernel
theorem slotIsOwn_ba {a:Addr} {Q:Bool->Shared->Prop} (hT:s.TypeIs (.ref a) "bytearray") (h:Q true s):wpAny (model prog w) A (Builtin.Bytes.slotIsOwn (.ref a) "__buffer__") Q E s:=by
 unfold Builtin.Bytes.slotIsOwn;refine wpAny_bind (wpAny_specialOf hT ba_buffer ?_);show wpAny _ _ (if (!("bytearray.__buffer__".endsWith ("." ++ "__buffer__")))=true then _ else _) _ _ _
 rw[if_neg (by rw[ends_ba_buffer];decide),drop_ba_buffer]
 exact wpAny_isInstance hT zgU h
theorem release_ba {a:Addr} {Q:Bool->Shared->Prop} (hT:s.TypeIs (.ref a) "bytearray") (h:Q false s):wpAny (model prog w) A (Builtin.Bytes.ownRelease (.ref a)) Q E s:=by
 unfold Builtin.Bytes.ownRelease;refine wpAny_bind ?_
 unfold Builtin.Bytes.slotIsOwn;refine wpAny_bind (wpAny_specialOf hT ba_release ?_);show wpAny _ _ (if (!("bytearray.__release_buffer__".endsWith ("." ++ "__release_buffer__")))=true then _ else _) _ _ _
 rw[if_neg (by rw[ends_ba_release];decide),drop_ba_release]
 exact wpAny_isInstance hT zgU (wpAny_pure h)
theorem release_bytes{b:Array UInt8}{t:Tok}{Q:Bool->Shared->Prop}(h:Q false s):wpAny (model prog w) A (Builtin.Bytes.ownRelease (.bytes b t)) Q E s:=by
 unfold Builtin.Bytes.ownRelease;refine wpAny_bind ?_
 unfold Builtin.Bytes.slotIsOwn;refine wpAny_bind (wpAny_specialOf (typeIs_bytes s b t) by_release ?_);exact wpAny_pure (wpAny_pure h)
theorem payload_ba {a:Addr} {b:Array UInt8} {n:Nat} {Q:Array UInt8->Shared->Prop} (ho:s.heap.get? a=some {cls:=.type "bytearray",data:=.bytearray b n}) (h:Q b s):wpAny (model prog w) A (Builtin.Bytes.payload (.ref a)) Q E s:=by
 unfold Builtin.Bytes.payload Builtin.Bytes.payload?;exact wpAny_bind (wpAny_bind (wpAny_load ho (wpAny_pure (wpAny_pure h))))
theorem buffer_bytes{id:String}{b:Array UInt8}{t:Tok}{full:Bool}{Q:Option (Array UInt8)->Shared->Prop}(h:Q (some b) s):wpAny (model prog w) A (Builtin.Bytes.buffer? id (.bytes b t) full) Q E s:=by
 unfold Builtin.Bytes.buffer?;refine wpAny_bind (wpAny_specialOf (typeIs_bytes s b t) zeI ?_);refine wpAny_bind (zf5 ?_);show wpAny _ _ (if (!true)=true then _ else _) _ _ _
 rw[if_neg (by decide)]
 refine wpAny_bind (wpAny_specialOf (typeIs_bytes s b t) zeI ?_);refine wpAny_bind (release_bytes ?_);show wpAny _ _ (if false=true then _ else _) _ _ _
 rw[if_neg (by decide)]
 exact wpAny_bind (wpAny_of_eq (a:=b) rfl (wpAny_pure h))
theorem buffer_ba {id:String} {a:Addr} {b:Array UInt8} {n:Nat} {full:Bool} {Q:Option (Array UInt8)->Shared->Prop} (ho:s.heap.get? a=some {cls:=.type "bytearray",data:=.bytearray b n}) (h:Q (some b) s):wpAny (model prog w) A (Builtin.Bytes.buffer? id (.ref a) full) Q E s:=by
 have hT:s.TypeIs (.ref a) "bytearray":=⟨_,ho,rfl⟩
 unfold Builtin.Bytes.buffer?;refine wpAny_bind (wpAny_specialOf hT ba_buffer ?_);refine wpAny_bind (slotIsOwn_ba hT ?_);show wpAny _ _ (if (!true)=true then _ else _) _ _ _
 rw[if_neg (by decide)]
 refine wpAny_bind (wpAny_specialOf hT ba_buffer ?_);refine wpAny_bind (release_ba hT ?_);show wpAny _ _ (if false=true then _ else _) _ _ _
 rw[if_neg (by decide)]
 exact wpAny_bind (payload_ba ho (wpAny_pure h))
theorem takeQuiet_bytes{id:String}{b:Array UInt8}{t:Tok}{Q:Option (Array UInt8×Option Value)->Shared->Prop}(h:Q (some (b,none)) s):wpAny (model prog w) A (Builtin.Bytes.takeBufferQuiet? id (.bytes b t) 0) Q E s:=by
 unfold Builtin.Bytes.takeBufferQuiet?;refine wpAny_bind (wpAny_attempt ?_);unfold Builtin.Bytes.takeBuffer?;refine wpAny_bind (wpAny_specialOf (typeIs_bytes s b t) zeI ?_);refine wpAny_bind (zf5 ?_);show wpAny _ _ (if (!true)=true then _ else _) _ _ _
 rw[if_neg (by decide)]
 refine wpAny_bind (wpAny_specialOf (typeIs_bytes s b t) zeI ?_);exact wpAny_bind (buffer_bytes (wpAny_pure (wpAny_pure h)))
theorem ba_extendB {a:Addr} {b c:Array UInt8} {t:Tok} {Q:Value->Shared->Prop} (hg:A.guards=some []) (ho:s.heap.get? a=some {cls:=.type "bytearray",data:=.bytearray b 0}) (hz:b.size+c.size<=sizeLine)
  (h:∀h',h'.get? a=some {cls:=.type "bytearray",data:=.bytearray (b++c) 0}->Heap.SameBut a s.heap h'->Q .none {s with heap:=h'}) :
  wpB (model prog w) A (call (.builtin "bytearray.extend") [.ref a,.bytes c t]) Q E s:=by
 refine zgQ zg7 ⟨_,ho,rfl⟩ ba_entry_extend (by decide +kernel) ?_ (ba_args_extend _ _)
 unfold Builtin.«bytearray.extend»;refine za8 (m:=selfAndOne "bytearray.extend" _) (wpAny_pure ?_)
 refine za8 (wpAny_specialOf (typeIs_bytes s c t) zeI ?_);show wpB _ _ (if true=true then _ else _) _ _ _
 rw[if_pos rfl];refine za8 (wpAny_rule ?_);refine za8 (payload_ba ho ?_);refine za8 (takeQuiet_bytes ?_);show wpB _ _ (if true=true then _ else _) _ _ _
 rw[if_pos rfl]
 have fin:wpB (model prog w) A.in1 (Builtin.Bytes.write (.ref a) (·++c) >>= λ_=>(ret .none:Sem Fin)) (λfin s'=>∃v,fin=.done (.ret v)/\Q v s') E s:=
  za8 (writeB (k:=(·++c)) ho (by rw[Array.size_append];exact hz) λh' e1 e2=>za4 ⟨_,rfl,h h' e1 e2⟩)
 show wpB _ _ (if (!c.isEmpty)=true then (Builtin.Bytes.checkResize (.ref a) >>= λ_=>Builtin.Bytes.write (.ref a) (·++c) >>= λ_=>(ret .none:Sem Fin)) else (Builtin.Bytes.write (.ref a) (·++c) >>= λ_=>(ret .none:Sem Fin))) _ _ _
 by_cases q:(!c.isEmpty)=true
 ·rw[if_pos q]
  exact za0 (checkResizeB hg ho fin)
 ·rw[if_neg q]
  exact fin
theorem code_ba_new {Q₁:Value->Shared->Prop} (h:Q₁ (.ref s.heap.objs.size) {s with heap:=s.heap.push {cls:=.type "bytearray",data:=.bytearray #[] 0}}) :
  codeAny (model prog w) A (.call (.builtin "bytearray.__new__") ⟨[.type "bytearray"],[]⟩) (wants Q₁ E) s:=by
 refine codeAny_of_tree ?_
 show wpAny _ A.in1 (do checkBuiltinCall "bytearray.__new__" ⟨[.type "bytearray"],[]⟩;again (.builtin "bytearray.__new__" ⟨[.type "bytearray"],[]⟩)) _ _ s
 refine wpAny_bind (wpAny_of_eq ba_newCall (wpAny_pure ⟨plainId_quiet ba_plain_new _,codeAny_builtin_stack ba_entry_new rfl λp st=>?_⟩))
 rw[Around.under_plainId ba_plain_new _];have hsub:=zgU;have hown:=owner_ba_new;obtain ⟨hp,g,d,tk,os⟩:=s;simp only[hown]
 wp_walk
 exact h
theorem ba_newB {Q:Value->Shared->Prop} (hg:A.guards=some []) (h:∀h',h'.get? s.heap.objs.size=some {cls:=.type "bytearray",data:=.bytearray #[] 0}->Heap.SameBut s.heap.objs.size (s.heap.push {cls:=.type "bytearray",data:=.bytearray #[] 0}) h'->Q (.ref s.heap.objs.size) {s with heap:=h'}) :
  wpB (model prog w) A (call (.type "bytearray") []) Q E s:=by
 refine zeO (zaX rfl ?_);show wpB _ _ (callAny (.type "bytearray") ⟨[],[]⟩) _ _ _
 refine za4 ⟨Code.quiet_builtin _ (by decide +kernel),zhF F.entry_type_call (by decide +kernel) ?_⟩
 rw[Around.under_plain (weight_type_call_type "bytearray" [] []) (units_type_call_type "bytearray" [] [])]
 obtain ⟨c,tl,hmro⟩:=ba_called.mro;have hmade:=ba_called.made;have hsub:=ba_called.sub;have h1:=ba_called.notType;have h2:=ba_called.canCreate;unfold Builtin.«type.__call__»;refine zbH (by decide) ?_
 refine zbH (λe=>absurd (h2.symm.trans e) (by decide)) ?_
 refine za8 (wpAny_of_eq ba_typeCall ?_);refine za8 (wpAny_of_eq hmro ?_);refine zbH (by simp) ?_
 refine za8 (wpAny_of_eq hmade ?_);refine za8 (wpAny_pure ?_);refine za0 (zaH (zeO (.of (codeAny_mono (code_ba_new (E:=E) (Q₁:=λv s'=>v=.ref s.heap.objs.size/\s'={s with heap:=s.heap.push {cls:=.type "bytearray",data:=.bytearray #[] 0}}) ⟨rfl,rfl⟩) λr s' hr=>?_))))
 rcases r with e|(v|_|_|_) <;> first|exact hr|exact hr.elim|skip
 obtain ⟨rfl,rfl⟩:=hr;have hx:(s.heap.push {cls:=.type "bytearray",data:=.bytearray #[] 0}).get? s.heap.objs.size=some {cls:=.type "bytearray",data:=.bytearray #[] 0}:=Heap.get?_push_size _ rfl
 have hT:({s with heap:=s.heap.push {cls:=.type "bytearray",data:=.bytearray #[] 0}}:Shared).TypeIs (.ref s.heap.objs.size) "bytearray":=⟨_,hx,rfl⟩
 refine za8 (wpAny_isInstance hT hsub ?_);refine zbH (by decide) ?_
 refine za0 (zaH ?_);simp only[callSpecial?];refine za8 (wpAny_specialOf hT slot_ba_init.lookup ?_);simp only[slot_ba_init.bind];refine zaH (za8 (wpAny_pure ?_));refine za0 (zgQ slot_ba_init hT ba_entry_init (by decide +kernel) ?_ (ba_args_init _))
 unfold Builtin.«bytearray.__init__»;refine za8 (release_ba hT ?_);refine zbH (by decide) ?_
 refine za8 (wpAny_of_eq ba_bind ?_);refine za8 (wpAny_of_eq (a:=()) rfl ?_);refine za8 (wpAny_of_eq (a:=()) rfl ?_);refine za0 ?_
 show wpB _ _ (Builtin.Bytes.exported (.ref s.heap.objs.size) >>= λx=>_) _ _ _
 refine za0 (wpB_exported hg (za0 ?_));unfold Builtin.Bytes.exportsOf;refine za8 (wpAny_load hx (za4 (za4 ?_)));refine zbH (by decide) ?_
 refine za8 (writeB (k:=λ_=>#[]) hx (by simp) λh' e1 e2=>?_)
 exact za4 ⟨_,rfl,za4 (zbH (by decide) (za4 (h h' e1 e2)))⟩
theorem zg5 {b:Array UInt8} {t:Tok} {Q:Value->Shared->Prop} (h:Q (.bytes b t) s):codeAny (model prog w) A (.call (.builtin "bytes.__new__") ⟨[.type "bytes",.bytes b t],[]⟩) (wants Q E) s:=by
 refine codeAny_of_tree ?_
 show wpAny _ A.in1 (do checkBuiltinCall "bytes.__new__" ⟨[.type "bytes",.bytes b t],[]⟩;again (.builtin "bytes.__new__" ⟨[.type "bytes",.bytes b t],[]⟩)) _ _ s
 refine wpAny_bind (wpAny_of_eq (F.bm_newCall _) (wpAny_pure ⟨plainId_quiet F.bm_plain _,codeAny_builtin F.bm_entry ?_⟩));rw[Around.under_plainId F.bm_plain _];unfold Builtin.«bytes.__new__»;refine wpAny_bind (wpAny_of_eq (a:=true) rfl ?_);refine bm_if_false rfl ?_
 refine wpAny_bind (wpAny_of_eq F.bm_sub ?_);refine bm_if_false rfl ?_
 refine wpAny_bind (wpAny_of_eq (F.bm_bind _) ?_);refine wpAny_bind (wpAny_of_eq (a:=()) rfl ?_);refine wpAny_bind (wpAny_of_eq (a:=()) rfl ?_);refine bm_if_false rfl ?_
 refine wpAny_bind (wpAny_specialOf (typeIs_bytes s b t) by_bytes ?_);refine wpAny_bind (wpAny_rule ?_);refine wpAny_bind (wpAny_typeOf (typeIs_bytes s b t) ?_);refine bm_if_true (by decide) ?_
 show wpAny _ _ (if (Value.type "bytes"==Value.type "bytes")=true then _ else _) _ _ _
 refine bm_if_true (by decide) ?_
 first
  |exact wpAny_pure h
  |exact wpAny_bind (wpAny_pure (wpAny_pure h))
theorem zi8 {a:Addr} {b:Array UInt8} {Q:Value->Shared->Prop} (ho:s.heap.get? a=some {cls:=.type "bytearray",data:=.bytearray b 0}) (hz:b.size<=sizeLine) (h:∀t k,Q (.bytes b t) {s with toks:=k}):codeAny (model prog w) A (.call (.builtin "bytes.__new__") ⟨[.type "bytes",.ref a],[]⟩) (wants Q E) s:=by
 have hT:s.TypeIs (.ref a) "bytearray":=⟨_,ho,rfl⟩
 refine codeAny_of_tree ?_
 show wpAny _ A.in1 (do checkBuiltinCall "bytes.__new__" ⟨[.type "bytes",.ref a],[]⟩;again (.builtin "bytes.__new__" ⟨[.type "bytes",.ref a],[]⟩)) _ _ s
 refine wpAny_bind (wpAny_of_eq (F.bm_newCall _) (wpAny_pure ⟨plainId_quiet F.bm_plain _,codeAny_builtin F.bm_entry ?_⟩));rw[Around.under_plainId F.bm_plain _];unfold Builtin.«bytes.__new__»;refine wpAny_bind (wpAny_of_eq (a:=true) rfl ?_);refine bm_if_false rfl ?_
 refine wpAny_bind (wpAny_of_eq F.bm_sub ?_);refine bm_if_false rfl ?_
 refine wpAny_bind (wpAny_of_eq (F.bm_bind _) ?_);refine wpAny_bind (wpAny_of_eq (a:=()) rfl ?_);refine wpAny_bind (wpAny_of_eq (a:=()) rfl ?_);refine bm_if_false rfl ?_
 refine wpAny_bind (wpAny_specialOf hT ba_no_bytes ?_);refine wpAny_bind (wpAny_bind ?_);show wpAny _ _ (load a >>= _) _ _ _
 refine wpAny_bind (wpAny_load ho ?_);refine wpAny_pure (wpAny_pure ?_);refine bm_if_false rfl ?_
 refine wpAny_bind (wpAny_specialOf hT ba_no_index ?_);refine bm_if_true rfl ?_
 first
  |show wpAny _ _ (Builtin.Bytes.buffer? "bytes.__new__" (.ref a) true >>= _) _ _ _
  |(refine wpAny_bind ?_;show wpAny _ _ (Builtin.Bytes.buffer? "bytes.__new__" (.ref a) true >>= _) _ _ _)
 refine wpAny_bind (buffer_ba ho ?_);refine wpAny_bind (wpAny_rule ?_);refine wpAny_bind (wpAny_mkBytes ?_ hz);show wpAny _ _ (if (Value.type "bytes"==Value.type "bytes")=true then _ else _) _ _ _
 refine bm_if_true (by decide) ?_
 first
  |exact wpAny_pure (h _ _)
  |exact wpAny_bind (wpAny_pure (wpAny_pure (h _ _)))
theorem call_bytes_bytes {b:Array UInt8} {t:Tok} {Q:Value->Shared->Prop} (h:Q (.bytes b t) s):wpAny (model prog w) A (call (.type "bytes") [.bytes b t]) Q E s:=by
 refine callType_codes (Q₁:=λobj s₁=>s₁.TypeIs obj "bytes"/\Q obj s₁) F.bm_called (F.bm_typeCall _) F.entry_object_init
  (zg5 ⟨PySem.W.typeIs_bytes _ _ _,h⟩) λobj s₁ h₁=>?_
 exact ⟨h₁.1,F.args_object_init_2 obj _,object_init_meets F.bm_called.init.lookup F.bm_called.made (by decide) prog w A.in1 _ s₁ ⟨h₁.1,rfl,h₁.2⟩⟩
theorem call_bytes_ba {a:Addr} {b:Array UInt8} {Q:Value->Shared->Prop} (ho:s.heap.get? a=some {cls:=.type "bytearray",data:=.bytearray b 0}) (hz:b.size<=sizeLine) (h:∀t k,Q (.bytes b t) {s with toks:=k}):wpAny (model prog w) A (call (.type "bytes") [.ref a]) Q E s:=by
 refine callType_codes (Q₁:=λobj s₁=>s₁.TypeIs obj "bytes"/\Q obj s₁) F.bm_called (F.bm_typeCall _) F.entry_object_init
  (zi8 ho hz λt k=>⟨PySem.W.typeIs_bytes _ _ _,h t k⟩) λobj s₁ h₁=>?_
 exact ⟨h₁.1,F.args_object_init_2 obj _,object_init_meets F.bm_called.init.lookup F.bm_called.made (by decide) prog w A.in1 _ s₁ ⟨h₁.1,rfl,h₁.2⟩⟩
end
end
section
open PySem PySem.W PyProof.Rows PySem.SeqAt
open Sem (wp)
theorem bi_boot:∀{x:Str} {v:Value},BiName x v->bootBuiltins x=some v/\x ≠ "__name__"/\(x==("__debug__":Str))=false/\∀a,v≠.ref a:=by
 intro x v h;injection h
 ·exact ⟨by boot_by_name,by decide,by decide,λ_=>nofun⟩
 ·exact ⟨by boot_by_name,by decide,by decide,λ_=>nofun⟩
 ·exact ⟨by boot_by_name,by decide,by decide,λ_=>nofun⟩
 ·exact ⟨by boot_by_name,by decide,by decide,λ_=>nofun⟩
 ·exact ⟨by boot_by_name,by decide,by decide,λ_=>nofun⟩
 ·exact ⟨by boot_by_name,by decide,by decide,λ_=>nofun⟩
section
variable{f:FC}{Sp:Spec}{lc:Nms}{ih:Task->S->Out}{tm:List (AV×Value)}{st:S}
theorem zip1{a:AV}{vs:List Value}(l:vs.length=[a].length):∃v,vs=[v]:=List.length_eq_one_iff.mp l
theorem zip2{a b:AV}{vs:List Value}(l:vs.length=[a,b].length):∃v u,vs=[v,u]:=by
 induction vs using List.casesOn with
 |nil=>cases l
 |cons v r=>obtain ⟨u,rfl⟩:=zip1 (a:=a) (Nat.succ.inj l);exact ⟨v,u,rfl⟩
theorem zip3{a b c:AV}{vs:List Value}(l:vs.length=[a,b,c].length):∃v u w,vs=[v,u,w]:=by
 induction vs using List.casesOn with
 |nil=>cases l
 |cons v r=>obtain ⟨u,w,rfl⟩:=zip2 (a:=a) (b:=b) (Nat.succ.inj l);exact ⟨v,u,w,rfl⟩
theorem zip0{vs:List Value}(l:vs.length=([]:List AV).length):vs=[]:=List.eq_nil_of_length_eq_zero l
theorem sim_len {a:AV} {u:Value} {d:DV} {ps:List PV} {n:Int} (e:asD st.objs a=some d) (hd:plain d=.lst ps) (hn:n=ps.length) (hu:(a,u)∈tm):Sim f tm st (val (.int n) st) (call (.builtin "len") [u]) (pV f tm):=by
 refine Sim.valH (λp hp=>hp) λhob A hA hh tk g m news Z ρ μ c Q E hq=>?_
 obtain ⟨b,vs,rfl,hl,hv,hb⟩:=c.asList e hd (c.tmr _ hu);have hb:ps.length<=16000000:=hb;have hz:vs.toArray.size=ps.length:=by rw[List.size_toArray];exact hv.length
 refine PySem.Calls.call_len_list (s:={f.s₀ with heap:=hh,toks:=tk}) hl (by rw[hz];lia) ?_
 rw[hz,←hn];exact hq _ _ _ c.fr c.nw ⟨_,rfl⟩
theorem ints_are{K:Frag}{G:Addr->Obj->Prop}:∀{xs:List DV} {l:List Int} {vs:List Value},Internal.intL xs=some l->VPs K G (zaU xs) vs->IntsAre vs l:=by
 intro xs;induction xs with
 |nil=>intro l vs h hv;injection h;cases (hv:vs=[]);exact .nil
 |cons x r ih=>
  intro l vs h hv;have h:(match x.int? with|some i=>(match Internal.intL r with|some l=>some (i::l)|none=>none)|none=>none)=some l:=h
  induction q:x.int? with
  |none=>rw[q] at h;exact nn h
  |some i=>
   induction q':Internal.intL r with
   |none=>rw[q,q'] at h;exact nn h
   |some l'=>
    rw[q,q'] at h;injection h;obtain ⟨v,vr,rfl,h1,h2⟩:=hv;rw[int?_plain x i q] at h1;obtain ⟨t,rfl⟩:=(h1:∃t,v=.int i t);exact .cons _ _ (ih q' h2)
theorem one_some{as:List AV}{a:AV}(h:one as=some a):as=[a]:=by
 induction as using List.casesOn with
 |nil=>exact nn h
 |cons x r=>
  induction r using List.casesOn with
  |nil=>injection h;rfl
  |cons _ _=>exact nn h
theorem int?_eq{x:DV}{i:Int}(h:x.int?=some i):x=.int i:=by
 induction x using DV.casesOn with
 |int _=>injection h;rfl
 |_=>exact nn h
theorem byt?_eq{x:DV}{b:Byt}(h:x.byt?=some b):x=.bytes b:=by
 induction x using DV.casesOn with
 |bytes _=>injection h;rfl
 |_=>exact nn h
theorem zdF:∀{as:List AV} {l:List Int},intsA as=some l->as=l.map λi=>.d (.int i):=by
 intro as;induction as with
 |nil=>intro l h;injection h;rfl
 |cons a r ih=>
  intro l h;induction a with
  |r i=>exact nn h
  |d x=>
   have h:(match x.int? with|some i=>(match intsA r with|some l=>some (i::l)|none=>none)|none=>none)=some l:=h
   induction q:x.int? with
   |none=>rw[q] at h;exact nn h
   |some i=>
    induction q':intsA r with
    |none=>rw[q,q'] at h;exact nn h
    |some l'=>
     rw[q,q'] at h;injection h;rw[int?_eq q,ih q'];rfl
theorem allBytes_of:∀{l:List Int} {obl:List Prop},Holds (obl++zhP l)->∀n∈l,0<=n/\n<256:=by
 intro l;induction l with
 |nil=>exact @λ_ _ n hn=>by injection hn
 |cons i r ih=>
  intro obl h n hn;rcases List.mem_cons.mp hn with rfl|hn
  ·exact h (zc1 _) (List.mem_append_right _ (.head _))
  ·refine ih (obl:=[]) (λp hp=>?_) n hn
   exact h p (List.mem_append_right _ (.tail _ (by rw[List.nil_append] at hp;exact hp)))
theorem Core.turnFN{g hh h':Heap}{m:Str->Option Value}{news Z:Led}{ρ μ:List Addr}{env:Env'}{objs:Objs}(c:Core f g m news Z ρ μ env objs tm hh){d:Addr}{ob ob':Obj}(hm:(d,ob)∈news)(hs:Heap.SameBut d hh h')(ho:h'.get? d=some ob'):
  Fr g f.L h' m/\News g f.L h' (zbQ d ob' news):=by
 have N:=c.nw;have F:=c.fr;have U:=zhW c.rel.nd hm (o':=ob');generalize zbQ d ob' news=news' at U;obtain ⟨pre,post,e1,e2,a,b⟩:=U.split;subst e1 e2;have z:=N _ hm;exact ⟨F.change hs z.2.1 z.2.2,news_set N a b hs ho⟩
theorem bi_len {a:AV} {v:Value} {n:Int} (e:lenA st a=some n) (hm:(a,v)∈tm):Sim f tm st (val (.int n) st) (call (.builtin "len") [v]) (pV f tm):=by
 induction a with
 |d x=>
  induction x using DV.casesOn with
  |bytes b=>
   injection e;refine Sim.valH (λp hp=>hp) λhob A hA hh tk g m news Z ρ μ c Q E hq=>?_
   obtain ⟨hb,t,rfl⟩:=(show b.length<=big/\∃t,v=.bytes b.toArray t from c.tmr _ hm)
   have hb:b.length<=16000000:=hb;refine len_bytes (by rw[List.size_toArray];lia) ?_
   exact hq _ _ _ c.fr c.nw ⟨_,by rw[List.size_toArray];rfl⟩
  |tl ty xs=>injection e;exact sim_len (d:=.tl ty xs) (ps:=xs.map ty.plain) rfl rfl (by rw[List.length_map];rfl) hm
  |lst xs=>injection e;exact sim_len (d:=.lst xs) (ps:=zaU xs) rfl rfl (by rw[zaC,List.length_map];rfl) hm
  |_=>exact nn e
 |r i=>
  have e:(match getT st.objs i with|some o=>(match o with|.lst xs=>some (lenI xs)|.tl _ xs=>some (lenI xs)|_=>none)|none=>none)=some n:=e
  induction q:getT st.objs i with
  |none=>rw[q] at e;exact nn e
  |some o=>
   rw[q] at e;induction o with
   |lst xs=>injection e;exact sim_len (asD_lst q) rfl (by rw[zaC,List.length_map];rfl) hm
   |tl ty xs=>injection e;exact sim_len (asD_tl q) rfl (by rw[List.length_map];rfl) hm
   |_=>exact nn e
theorem bi_bytes {a:AV} {v:Value} {o:Out} (e:biBytes st a=some o) (hm:(a,v)∈tm):Sim f tm st o (call (.type "bytes") [v]) (pV f tm):=by
 induction a with
 |d x=>
  have e:(match x.byt? with|some b=>some (val (.bytes b) st)|none=>none)=some o:=e
  induction q:x.byt? with
  |none=>rw[q] at e;exact nn e
  |some b=>
   rw[q] at e;injection e;cases byt?_eq q
   refine Sim.valH (λp hp=>hp) λhob A hA hh tk g m news Z ρ μ c Q E hq=>?_
   obtain ⟨hb,t,rfl⟩:=(show b.length<=big/\∃t,v=.bytes b.toArray t from c.tmr _ hm)
   exact call_bytes_bytes (hq _ _ _ c.fr c.nw ⟨hb,_,rfl⟩)
 |r i=>
  have e:(match getT st.objs i with
   |some o=>(match o with
    |.ba b=>some (val (.bytes b) st)
    |.lst xs=>(match Internal.intL xs with
     |some l=>(match st.h with
      |false=>some (val (.bytes (l.map u8)) {st with obl:=st.obl++zhP l})
      |true=>none)
     |none=>none)
    |_=>none)
   |none=>none)=some o:=e
  induction ho:getT st.objs i with
  |none=>rw[ho] at e;exact nn e
  |some ob=>
   rw[ho] at e;induction ob with
   |ba b=>
    injection e;refine Sim.valH (λp hp=>hp) λhob A hA hh tk g m news Z ρ μ c Q E hq=>?_
    obtain ⟨a,d,h1,h2,rfl,hb,h4⟩:=c.obj ho;obtain ⟨a',h5,rfl⟩:=(show ∃a,ρ[i]?=some a/\v=.ref a from c.tmr _ hm)
    cases h1.symm.trans h5
    have hb':b.length<=16000000:=hb;exact call_bytes_ba (s:={f.s₀ with heap:=hh,toks:=tk}) (c.nw _ h4).1 (by rw[List.size_toArray,sizeLine_eq];lia) λt k=>hq _ _ _ c.fr c.nw ⟨hb,t,rfl⟩
   |lst xs=>
    have e:(match Internal.intL xs with
     |some l=>(match st.h with
      |false=>some (val (.bytes (l.map u8)) {st with obl:=st.obl++zhP l})
      |true=>none)
     |none=>none)=some o:=e
    induction hi:Internal.intL xs with
    |none=>rw[hi] at e;exact nn e
    |some is=>
     rw[hi] at e;induction hh0:st.h with
     |true=>rw[hh0] at e;exact nn e
     |false=>
      rw[hh0] at e;injection e;rw[←hh0];refine Sim.valH (λp hp=>List.mem_append_left _ hp) λhob A hA hh tk g m news Z ρ μ c Q E hq=>?_
      obtain ⟨b,vs,rfl,hl,hv,hb⟩:=c.asList (asD_lst ho) rfl (c.tmr _ hm);have hI:=ints_are hi hv;have hb:(zaU xs).length<=16000000:=hb;have hvl:=hv.length;refine bytes_K (s:={f.s₀ with heap:=hh,toks:=tk}) c.fr c.nw hl hI (allBytes_of hob) (by rw[sizeLine_eq];lia) (hA.hand hh0) λh' t k F' N' _=>?_
      refine hq _ _ _ F' N' ⟨?_,t,rfl⟩;rw[List.length_map,←hI.length];exact hvl▸hb
   |_=>exact nn e
theorem bi_ba:Sim f tm st (newO (.ba []) st) (call (.type "bytearray") []) (pV f tm):=by
 intro r st' e';injection e';refine ⟨rfl,λp hp=>hp,λhob A hA s Q E C hp=>?_⟩
 obtain ⟨hh,tk,g,m,news,Z,ρ,μ,rfl,c⟩:=C;refine ba_newB (s:={f.s₀ with heap:=hh,toks:=tk}) hA.guards λh' h1 h2=>?_
 have hk:∀b o,(hh.push {cls:=.type "bytearray",data:=.bytearray #[] 0}).get? b=some o->h'.get? b=some o:=λb o hb=>by
  by_cases q:b=hh.objs.size
  ·subst q
   rw[Heap.get?_push_size _ rfl] at hb;injection hb;exact h1
  ·exact (h2.2 b q).trans hb
 have no:hh.objs.size∉news.map (·.1):=λq=>by obtain ⟨p,hp,e⟩:=List.mem_map.mp q;exact absurd (Heap.lt_size (c.nw p hp).1) (by rw[e];exact Nat.lt_irrefl _)
 have C':=c.newObj (a:=hh.objs.size) (d:=hh.objs.size) (o:=.ba []) (news':=(hh.objs.size,baObj [])::news) ((c.fr.push {cls:=.type "bytearray",data:=.bytearray #[] 0}).grownK hk) ((c.nw.push c.fr {cls:=.type "bytearray",data:=.bytearray #[] 0}).grown hk)
  (by rw[List.map_cons,List.nodup_cons];exact ⟨no,c.rel.nd⟩) (λp hp=>.tail _ hp) (λp hp=>.inl hp) (λp hp=>hp) no ⟨rfl,by decide,.head _⟩
 refine hp _ _ ⟨h',tk,g,m,_,Z,_,_,rfl,C'.tmp (a:=.r st.objs.length) ⟨hh.objs.size,?_,rfl⟩⟩;rw[List.getElem?_append_right (by rw[c.rel.lr];exact Nat.le_refl _),c.rel.lr,Nat.sub_self]
 rfl
theorem rng_new{g hh:Heap}{m:Str->Option Value}{news Z:Led}{ρ μ:List Addr}{a b s:Int}{t u v:Tok}(c:Core f g m news Z ρ μ st.env st.objs tm hh){Q:Value->Shared->Prop}{k:Nat}
  (hq:∀v h' tk' news' Z',Core f g m news' Z' ρ μ st.env st.objs tm h'->VP f.cx.K (Fz f.cx.base Z') (plain (.rng a b s)) v->Q v {f.s₀ with heap:=h',toks:=tk'}) :
  Q (.ref hh.objs.size) {f.s₀ with heap:=hh.push {cls:=.type "range",data:=.fields #[.int a t,.int b u,.int s v]},toks:=k}:=
 hq _ _ _ _ _ (c.freezeNew (c.fr.push _) (c.nw.push c.fr _) (λp hp=>Nat.ne_of_lt (Heap.lt_size (c.nw p hp).1))) ⟨_,_,rfl,.inl (.head _),t,u,v,rfl⟩
theorem zg6{g hh:Heap}{m:Str->Option Value}{news Z:Led}{ρ μ:List Addr}{i:Int}{v:Value}(c:Core f g m news Z ρ μ st.env st.objs tm hh)(h:(AV.d (.int i),v)∈tm):∃t,v=.int i t:=c.tmr _ h
theorem bi_range {l:List Int} {vs:List Value} {o:Out} (e:biRange st l=some o) (hl:vs.length=l.length) (hm:∀p∈(l.map λi=>AV.d (.int i)).zip vs,p∈tm):Sim f tm st o (call (.type "range") vs) (pV f tm):=by
 match l,e with
 |[b],e=>
  injection e;obtain ⟨v,rfl⟩:=zip1 (a:=.d .none) hl;refine Sim.valZ (λp hp=>hp) λhob A hA hh tk g m news Z ρ μ c Q E hq=>?_
  obtain ⟨t,rfl⟩:=zg6 c (hm _ (.head _));exact PySem.call_range_1 (s:={f.s₀ with heap:=hh,toks:=tk}) (rng_new c hq)
 |[a,b],e=>
  injection e;obtain ⟨v,u,rfl⟩:=zip2 (a:=.d .none) (b:=.d .none) hl;refine Sim.valZ (λp hp=>hp) λhob A hA hh tk g m news Z ρ μ c Q E hq=>?_
  obtain ⟨t,rfl⟩:=zg6 c (hm _ (.head _));obtain ⟨t',rfl⟩:=zg6 c (hm _ (.tail _ (.head _)));exact PySem.call_range_2 (s:={f.s₀ with heap:=hh,toks:=tk}) (rng_new c hq)
 |[a,b,s],e=>
  injection e;obtain ⟨v,u,x,rfl⟩:=zip3 (a:=.d .none) (b:=.d .none) (c:=.d .none) hl;refine Sim.valZ zaL λhob A hA hh tk g m news Z ρ μ c Q E hq=>?_
  obtain ⟨t,rfl⟩:=zg6 c (hm _ (.head _));obtain ⟨t',rfl⟩:=zg6 c (hm _ (.tail _ (.head _)));obtain ⟨t'',rfl⟩:=zg6 c (hm _ (.tail _ (.tail _ (.head _))));exact call_range_3 (s:={f.s₀ with heap:=hh,toks:=tk}) hob.last.1 (rng_new c hq) (.inl (PyProof.noPylong_small hob.last.2))
theorem biTwo_some{k:Int->Int->Int}{l:List Int}{o:Out}(e:biTwo k st l=some o):∃a b,l=[a,b]/\st.h=false/\o=val (.int (k a b)) st:=by
 match l,e with
 |[a,b],e=>
  have e:(match st.h with|false=>some (val (.int (k a b)) st)|true=>none)=some o:=e
  induction q:st.h with
  |true=>rw[q] at e;exact nn e
  |false=>rw[q] at e;injection e;exact ⟨a,b,rfl,rfl,rfl⟩
theorem bi_min {l:List Int} {vs:List Value} {o:Out} (e:biTwo minI st l=some o) (hl:vs.length=l.length) (hm:∀p∈(l.map λi=>AV.d (.int i)).zip vs,p∈tm):Sim f tm st o (call (.builtin "min") vs) (pV f tm):=by
 obtain ⟨a,b,rfl,hh0,rfl⟩:=biTwo_some e;obtain ⟨v,u,rfl⟩:=zip2 (a:=.d .none) (b:=.d .none) hl;refine Sim.valH (λp hp=>hp) λhob A hA hh tk g m news Z ρ μ c Q E hq=>?_
 obtain ⟨t,rfl⟩:=zg6 c (hm _ (.head _));obtain ⟨t',rfl⟩:=zg6 c (hm _ (.tail _ (.head _)));refine min_two_N (s:={f.s₀ with heap:=hh,toks:=tk}) (hA.hand hh0) c.fr c.nw λh' k F' N'=>hq _ _ _ F' N' ⟨if b<a then t' else t,?_⟩
 by_cases q:b<a <;> simp[minI,ltI,q]
theorem bi_max {l:List Int} {vs:List Value} {o:Out} (e:biTwo maxI st l=some o) (hl:vs.length=l.length) (hm:∀p∈(l.map λi=>AV.d (.int i)).zip vs,p∈tm):Sim f tm st o (call (.builtin "max") vs) (pV f tm):=by
 obtain ⟨a,b,rfl,hh0,rfl⟩:=biTwo_some e;obtain ⟨v,u,rfl⟩:=zip2 (a:=.d .none) (b:=.d .none) hl;refine Sim.valH (λp hp=>hp) λhob A hA hh tk g m news Z ρ μ c Q E hq=>?_
 obtain ⟨t,rfl⟩:=zg6 c (hm _ (.head _));obtain ⟨t',rfl⟩:=zg6 c (hm _ (.tail _ (.head _)));refine max_two_N (s:={f.s₀ with heap:=hh,toks:=tk}) (hA.hand hh0) c.fr c.nw λh' k F' N'=>hq _ _ _ F' N' ⟨if b>a then t' else t,?_⟩
 by_cases q:b>a
 ·have:a<b:=q;simp[maxI,ltI,q,this]
 ·have:¬ a<b:=q;simp[maxI,ltI,q,this]
theorem sim_builtin{fn:Str}{as:List AV}{vs:List Value}{o:Out}(e:builtin fn as st=some o)(l:vs.length=as.length)(hm:∀p∈as.zip vs,p∈tm):∃fv,BiName fn fv/\Sim f tm st o (call fv vs) (pV f tm):=by
 have lz:∀{is:List Int},as=is.map (λi=>.d (.int i))->vs.length=is.length:=λh=>by rw[l,h,List.length_map]
 rcases zdK e with ⟨q,y⟩|e
 ·obtain ⟨a,e1,z⟩:=za3 y
  obtain ⟨n,e2,w⟩:=za3 z;cases one_some e1
  obtain ⟨v,rfl⟩:=zip1 l;cases w
  exact ⟨_,eqN_iff.mp q▸.len,bi_len e2 (hm _ (.head _))⟩
 rcases zdK e with ⟨q,y⟩|e
 ·obtain ⟨a,e1,z⟩:=za3 y
  cases one_some e1
  obtain ⟨v,rfl⟩:=zip1 l;exact ⟨_,eqN_iff.mp q▸.bytes,bi_bytes z (hm _ (.head _))⟩
 rcases zdK e with ⟨q,y⟩|e
 ·induction as using List.casesOn with
  |nil=>cases y;cases zip0 l;exact ⟨_,eqN_iff.mp q▸.bytearray,bi_ba⟩
  |cons _ _=>exact nn y
 rcases zdK e with ⟨q,y⟩|e
 ·obtain ⟨is,e1,z⟩:=za3 y
  exact ⟨_,eqN_iff.mp q▸.range,bi_range z (lz (zdF e1)) (zdF e1▸hm)⟩
 rcases zdK e with ⟨q,y⟩|e
 ·obtain ⟨is,e1,z⟩:=za3 y
  exact ⟨_,eqN_iff.mp q▸.min,bi_min z (lz (zdF e1)) (zdF e1▸hm)⟩
 obtain ⟨q,y⟩:=ze0 e;obtain ⟨is,e1,z⟩:=za3 y;exact ⟨_,eqN_iff.mp q▸.max,bi_max z (lz (zdF e1)) (zdF e1▸hm)⟩
end
end
section
open PySem PySem.W PyProof.Rows PySem.SeqAt
open Sem (wp)
noncomputable def FnVal(cx:Cx)(f:Str)(fv:Value):Prop:=
 (nsIn cx.K mainGlobals f=some (some fv)/\keepIn cx.K fv=true)\/(nsIn cx.K mainGlobals f=some none/\bootBuiltins f=some fv/\f ≠ "__name__"/\∀a,fv≠.ref a)
noncomputable def zc7(cx:Cx)(c m:Str)(fv:Value):Prop:=
 ∃C fa,fv=.ref fa/\clsA cx.K c=some C/\findIn cx.K (.ref C) m=some (some (.ref fa))/\isFn cx.K (.ref fa)=true/\plainGet cx.K C m=true/\keepIn cx.K (.ref fa)=true
noncomputable def zcA(cx:Cx):Key->Value->Prop
 |.fn f,v=>FnVal cx f v
 |.mt c m,v=>zc7 cx c m v
noncomputable def CallOK(cx:Cx)(n:Nat)(k:Key)(avs:List AV)(os:Objs)(cr:CRes)(os':Objs):Prop:=
 ∀fv,zcA cx k fv->∀f:FC,f.cx=cx->n<=f.lev->∀A,AOK f false A->∀(g:Heap) (m:Str->Option Value) (news Z:Led) (ρ μ:List Addr) (h:Heap) (tk:Nat) (vs:List Value) (Q E:Value->Shared->Prop),
  Below f.A₀ f.cx.base f.outer g->g.objs.size<=f.L->Fr g f.L h m->News g f.L h news->Rel f.cx news Z ρ μ [] os ->
  vs.length=avs.length->(∀p∈avs.zip vs,VA f.cx.K (Fz f.cx.base Z) ρ p.1 p.2) ->
  (∀v h' tk' g' news' Z' ρ' μ' a,cr=.ok a->KtsTurn f.fs g g'->Below f.A₀ f.cx.base f.outer g'->Fr g' f.L h' m->News g' f.L h' news'->Rel f.cx news' Z' ρ' μ' [] os'->Kept news Z ρ μ news' Z' ρ' μ' ->
   VA f.cx.K (Fz f.cx.base Z') ρ' a v->Q v {f.s₀ with heap:=h',toks:=tk'}) ->
  (∀ea C h' tk' g' news' Z' ρ' μ' c,cr=.exc c->clsA f.cx.K c=some C->KtsTurn f.fs g g'->Below f.A₀ f.cx.base f.outer g'->Rel f.cx news' Z' ρ' μ' [] os'->Kept news Z ρ μ news' Z' ρ' μ' ->
   Flying f g' m news' ea c (.ref C) h'->E (.ref ea) {f.s₀ with heap:=h',toks:=tk'}) ->
  wpB f.M A (call fv vs) Q E {f.s₀ with heap:=h,toks:=tk}
theorem hasN_iff{i:Nat}:∀{l:List Nat},hasN i l=true↔i∈l:=by
 intro l;induction l with
 |nil=>simp[hasN]
 |cons j r ih=>
  rw[hasN_cons];by_cases h:i=j
  ·subst h;rw[Nat.beq_refl];simp
  ·have:Nat.beq i j=false:=by rw[Bool.eq_false_iff];intro e;exact h (Nat.eq_of_beq_eq_true e)
   rw[this];simp only[ih,List.mem_cons,h,false_or]
theorem okK_iff{n:Nat}:∀{κ:List Nat},okK n κ=true->(∀i∈κ,i<n)/\κ.Nodup:=by
 intro l;induction l with
 |nil=>exact @λ_=>⟨λ_ h=>(by injection h),List.nodup_nil⟩
 |cons i r ih=>
  intro h;rw[okK_cons] at h;simp only[Bool.and_eq_true,Bool.not_eq_true'] at h;obtain ⟨⟨h1,h2⟩,h3⟩:=h;obtain ⟨k1,k2⟩:=ih h3;refine ⟨λj hj=>?_,List.nodup_cons.mpr ⟨λq=>?_,k2⟩⟩
  ·rcases List.mem_cons.mp hj with rfl|hj
   ·exact Nat.le_of_ble_eq_true h1
   ·exact k1 j hj
  ·rw[hasN_iff.mpr q] at h2;injection h2
theorem zgO{i j:Nat}:∀{κ:List Nat} {k:Nat},zcQ i κ k=some j->∃t,j=k+t/\κ[t]?=some i:=by
 intro l;induction l with
 |nil=>exact @λk h=>by injection h
 |cons a r ih=>
  intro k h;rw[placeN_cons] at h;induction q:Nat.beq i a with
  |true=>rw[q] at h;injection h;exact ⟨0,rfl,by rw[Nat.eq_of_beq_eq_true q];rfl⟩
  |false=>
   rw[q] at h;obtain ⟨t,h1,h2⟩:=ih h;exact ⟨t+1,by lia,by simpa using h2⟩
theorem backN_some{κ:List Nat}{n i j:Nat}(h:backN κ n j=some i):(j<κ.length/\κ[j]?=some i)\/(κ.length<=j/\i=n+(j - κ.length)):=by
 unfold backN at h;induction q:Nat.blt j κ.length with
 |true=>
  rw[q] at h;exact .inl ⟨Nat.le_of_ble_eq_true q,by rw[←ze8];exact h⟩
 |false=>
  rw[q] at h;injection h;refine .inr ⟨?_,rfl⟩;by_cases z:j<κ.length
  ·have:Nat.blt j κ.length=true:=Nat.ble_eq_true_of_le z
   rw[this] at q;injection q
  ·lia
section
variable{K:Frag}{G:Addr->Obj->Prop}{ρ ρ':List Addr}{φ:Nat->Option Nat}
theorem renA_VA(hφ:∀i j x,φ i=some j->ρ[i]?=some x->ρ'[j]?=some x){a a':AV}{v:Value}(e:renA φ a=some a')(h:VA K G ρ a v):VA K G ρ' a' v:=by
 induction a with
 |d x=>injection e;exact h
 |r i=>
  obtain ⟨j,hi,e⟩:=za3 e;injection e;obtain ⟨x,h1,h2⟩:=h;exact ⟨x,hφ _ _ _ hi h1,h2⟩
theorem renF_FA(hφ:∀i j x,φ i=some j->ρ[i]?=some x->ρ'[j]?=some x){C:Addr}{fs:List (Str×AV)}:∀{fs':List (Str×AV)} {es:List DictEntry},mapO (renF φ) fs=some fs'->FA K G ρ C fs es->FA K G ρ' C fs' es:=by
 induction fs with
 |nil=>intro fs' es e h;injection e;exact h
 |cons hd r ih=>
  obtain ⟨n,a⟩:=hd;intro fs' es e h;obtain ⟨y,ys,e1,e2,rfl⟩:=mapO_inv e;obtain ⟨a',ea,e1⟩:=za3 e1;injection e1;obtain ⟨en,er,t,rfl,h2,h3,h4,h5⟩:=h;exact ⟨en,er,t,rfl,h2,renA_VA hφ ea h3,h4,ih e2 h5⟩
theorem renO_MO{cx:Cx}{news:Led}(hφ:∀i j x,φ i=some j->ρ[i]?=some x->ρ'[j]?=some x){a d:Addr}{o o':MObj}(e:renO φ o=some o')(h:MO cx news G ρ a d o):MO cx news G ρ' a d o':=by
 induction o with
 |inst c fs=>
  obtain ⟨fs',ef,e⟩:=za3 e;injection e;obtain ⟨C,es,k,h1,h2,h3,h4⟩:=h;exact ⟨C,es,k,h1,h2,h3,renF_FA hφ ef h4⟩
 |_=>injection e;exact h
end
theorem putAll_get:∀{κ:List Nat} {os bs:Objs},(∀i∈κ,i<os.length)->κ.Nodup->κ.length<=bs.length ->
  (zdV os κ bs).length=os.length+(bs.length - κ.length)/\(∀i,i<os.length->i∉κ->(zdV os κ bs)[i]?=os[i]?)/\(∀(j i:Nat),κ[j]?=some i->(zdV os κ bs)[i]?=bs[j]?) /\
  ∀t:Nat,(zdV os κ bs)[os.length+t]?=bs[κ.length+t]?
 |[],os,bs,_,_,_=>by
  have e:zdV os [] bs=os++bs:=by cases bs <;> rfl
  rw[e];refine ⟨by simp,λi hi _=>List.getElem?_append_left hi,λj i h=>by simp at h,λt=>?_⟩
  rw[List.getElem?_append_right (by lia)]
  simp
 |i::κ,os,[],_,_,h=>by simp at h
 |i::κ,os,b::bs,h1,h2,h3=>by
  show (zdV (setT os i b) κ bs).length=_/\_
  rw[List.nodup_cons] at h2;have hl:(setT os i b).length=os.length:=by rw[zeR,List.length_set]
  have hi:=h1 i (.head _);obtain ⟨k1,k2,k3,k4⟩:=putAll_get (κ:=κ) (os:=setT os i b) (bs:=bs) (λj hj=>by rw[hl];exact h1 j (.tail _ hj)) h2.2 (by simpa using h3)
  refine ⟨by rw[k1,hl];simp,λj hj hn=>?_,λj k hk=>?_,λt=>?_⟩
  ·show (zdV (setT os i b) κ bs)[j]?=_
   rw[k2 j (by rw[hl];exact hj) (λq=>hn (.tail _ q)),zeR,List.getElem?_set_ne (λq:i=j=>hn (by rw[q];exact List.mem_cons_self ..))]
  ·show (zdV (setT os i b) κ bs)[k]?=_
   induction j using Nat.casesAuxOn with
   |zero=>
    simp at hk
    subst hk;rw[k2 i (by rw[hl];exact hi) h2.1,zeR,List.getElem?_set_self hi]
    rfl
   |succ j=>
    simp at hk
    rw[k3 j k hk];simp
  ·show (zdV (setT os i b) κ bs)[os.length+t]?=_
   have:=k4 t;rw[hl] at this;rw[this];have e:(i::κ).length+t=(κ.length+t)+1:=by rw[List.length_cons];lia
   rw[e,List.getElem?_cons_succ]
theorem Kept.trans{n₀ Z₀:Led}{ρ₀ μ₀:List Addr}{n Z:Led}{ρ μ:List Addr}{n' Z':Led}{ρ' μ':List Addr}(a:Kept n₀ Z₀ ρ₀ μ₀ n Z ρ μ)(h:∀p∈n,p.1∉μ->p∈n')(hz:∀p∈Z,p∈Z')(hzn:∀p∈Z',p∈Z\/p.1∉n.map (·.1))
  (hmu:∀a∈μ,a∈n.map (·.1)) (hr:ρ <+: ρ') (hm:μ <+: μ') (hmn:∀a∈μ',a∈μ\/a∉n.map (·.1)):Kept n₀ Z₀ ρ₀ μ₀ n' Z' ρ' μ':=by
 have key:∀b,b∈n₀.map (·.1)->b∈n.map (·.1):=by
  intro b hb;obtain ⟨p,hp,rfl⟩:=List.mem_map.mp hb;by_cases q:p.1∈μ₀
  ·obtain ⟨t,ht⟩:=a.mpre
   exact hmu _ (by rw[←ht];exact List.mem_append_left _ q)
  ·exact List.mem_map.mpr ⟨p,a.old p hp q,rfl⟩
 refine ⟨λp hp q=>h p (a.old p hp q) λz=>?_,λp hp=>hz p (a.zold p hp),λp hp=>?_,a.rpre.trans hr,a.mpre.trans hm,λb hb=>?_⟩
 ·rcases a.mnew _ z with y|y
  ·exact q y
  ·exact y (List.mem_map.mpr ⟨p,hp,rfl⟩)
 ·rcases hzn p hp with y|y
  ·exact a.znew p y
  ·exact .inr λz=>y (key _ z)
 ·rcases hmn b hb with y|y
  ·exact a.mnew b y
  ·exact .inr λz=>y (key _ z)
end
section
open PySem PySem.W PyProof.Rows PySem.SeqAt
open Sem (wp)
section
variable{f:FC}{g hh:Heap}{m:Str->Option Value}{news Z:Led}{ρ μ:List Addr}{env:Env'}{objs:Objs}{tm:List (AV×Value)}
noncomputable def pick(κ:List Nat)(ρ:List Addr):List Addr:=κ.filterMap λi=>ρ[i]?
theorem zeT{κ:List Nat}{ρ:List Addr}:(∀i∈κ,i<ρ.length)->(pick κ ρ).length=κ.length/\∀(j:Nat),(pick κ ρ)[j]?=(κ[j]?).bind λi=>ρ[i]?:=by
 induction κ with
 |nil=>intro _;exact ⟨rfl,λj=>by simp[pick]⟩
 |cons a r ih=>
  intro h;obtain ⟨k1,k2⟩:=ih λi hi=>h i (.tail _ hi)
  have ha:=h a (.head _)
  have e:pick (a::r) ρ=ρ[a]::pick r ρ:=by
   unfold pick;rw[List.filterMap_cons,List.getElem?_eq_getElem ha]
  rw[e];refine ⟨by simp[k1],λj=>?_⟩
  induction j using Nat.casesAuxOn with
  |zero=>simp[ha]
  |succ j=>simp[k2]
theorem zfV{κ:List Nat}{ρ:List Addr}{a:Addr}(h:a∈pick κ ρ):a∈ρ:=by
 unfold pick at h;obtain ⟨i,_,hi⟩:=List.mem_filterMap.mp h;exact List.mem_of_getElem? hi
set_option tactic.hygienic true in
theorem pick_nodup{κ:List Nat}{ρ:List Addr}(hρ:ρ.Nodup):κ.Nodup->(pick κ ρ).Nodup:=by
 induction κ with
 |nil=>intro _;exact List.nodup_nil
 |cons a r ih=>
  intro h;rw[List.nodup_cons] at h;unfold pick;rw[List.filterMap_cons];split
  ·exact ih h.2
  ·rename_i x hx
   rw[List.nodup_cons];refine ⟨λq=>?_,ih h.2⟩
   obtain ⟨i,hi,e⟩:=List.mem_filterMap.mp q;obtain ⟨l1,e1⟩:=List.getElem?_eq_some_iff.mp hx;obtain ⟨l2,e2⟩:=List.getElem?_eq_some_iff.mp e;have:=nodup_inj hρ l1 l2 (e1.trans e2.symm);exact h.1 (this▸hi)
theorem Rel.sub{cx:Cx}{cl:List Addr}(c:Rel cx news Z ρ μ cl objs){κ:List Nat}(hκ:okK objs.length κ=true){os:Objs}(e:zi0 κ objs=some os):Rel cx news Z (pick κ ρ) (pick κ μ) cl os:=by
 obtain ⟨h1,h2⟩:=okK_iff hκ;have r1:=zeT (κ:=κ) (ρ:=ρ) λi hi=>by rw[c.lr];exact h1 i hi
 have r2:=zeT (κ:=κ) (ρ:=μ) λi hi=>by rw[c.lm];exact h1 i hi
 obtain ⟨k1,k2⟩:=mapO_some e;refine ⟨c.nd,c.zin,λp hp q=>c.zmu p hp (zfV q),c.zcl,λa ha=>c.mcl a (zfV ha),pick_nodup c.mnd h2,by rw[r1.1,k1],by rw[r2.1,k1],λj o ho=>?_⟩
 have hj:j<κ.length:=by rw[←k1];exact (List.getElem?_eq_some_iff.mp ho).1
 have hi:κ[j]?=some κ[j]:=List.getElem?_eq_getElem hj;obtain ⟨o',e1,e2⟩:=k2 j κ[j] hi;rw[ho] at e2;injection e2;obtain ⟨ob,hob,e1⟩:=za3 e1;obtain ⟨a,d,z1,z2,z3⟩:=c.ob _ ob (by rw[←ze8];exact hob)
 refine ⟨a,d,by rw[r1.2,hi];exact z1,by rw[r2.2,hi];exact z2,renO_MO (λi t x hit hx=>?_) e1 z3⟩
 obtain ⟨t',q1,q2⟩:=zgO hit;have:t=t':=by lia
 subst this;rw[r1.2,q2];exact hx
theorem Core.sub(c:Core f g m news Z ρ μ env objs tm hh){κ:List Nat}(hκ:okK objs.length κ=true){os:Objs}(e:zi0 κ objs=some os):Rel f.cx news Z (pick κ ρ) (pick κ μ) [] os:=
 {c.rel.sub hκ e with zcl:=λ_ _=>nofun,mcl:=λ_ _=>nofun}
theorem sub_args(c:Core f g m news Z ρ μ env objs tm hh){κ:List Nat}(hκ:okK objs.length κ=true):∀{avs avs':List AV} {vs:List Value},mapO (renA λj=>zcQ j κ 0) avs=some avs'->(∀p∈avs.zip vs,VA f.cx.K (Fz f.cx.base Z) ρ p.1 p.2) ->
  (∀p∈avs'.zip vs,VA f.cx.K (Fz f.cx.base Z) (pick κ ρ) p.1 p.2)/\avs'.length=avs.length:=by
 obtain ⟨h1,h2⟩:=okK_iff hκ;have r1:=zeT (κ:=κ) (ρ:=ρ) λi hi=>by rw[c.rel.lr];exact h1 i hi
 intro avs;induction avs with
 |nil=>intro avs' vs e h;injection e;exact ⟨λp hp=>(by injection hp),rfl⟩
 |cons a r ih=>
  intro avs' vs e h;obtain ⟨y,ys,e1,e2,rfl⟩:=mapO_inv e;induction vs using List.casesOn with
  |nil=>exact ⟨λp hp=>nm hp,congrArg (·+1) (ih (vs:=[]) e2 λp hp=>nm (by rw[List.zip_nil_right] at hp;exact hp)).2⟩
  |cons v vr=>
   obtain ⟨z1,z2⟩:=ih (vs:=vr) e2 λp hp=>h p (.tail _ hp)
   refine ⟨λp hp=>?_,congrArg (·+1) z2⟩
   rw[List.zip_cons_cons] at hp;rcases List.mem_cons.mp hp with rfl|hp
   ·refine renA_VA (λi t x hit hx=>?_) e1 (h _ (.head _))
    obtain ⟨t',q1,q2⟩:=zgO hit;have:t=t':=by lia
    subst this;rw[r1.2,q2];exact hx
   ·exact z1 p hp
theorem CoreP.back(c:Core f g m news Z ρ μ env objs tm hh){κ:List Nat}(hκ:okK objs.length κ=true){g':Heap}{news' Z':Led}{ρ' μ':List Addr}{os' bs:Objs}(T:KtsTurn f.fs g g')(B:Below f.A₀ f.cx.base f.outer g')
  (R:Rel f.cx news' Z' ρ' μ' [] os') (Kp:Kept news Z (pick κ ρ) (pick κ μ) news' Z' ρ' μ') (eb:mapO (renO (backN κ objs.length)) os'=some bs) (hbl:κ.length<=bs.length) :
  ∃ρ'' μ'',CoreP f g' m news' Z' ρ'' μ'' env (zdV objs κ bs)/\(∀a a' v,renA (backN κ objs.length) a=some a'->VA f.cx.K (Fz f.cx.base Z') ρ' a v->VA f.cx.K (Fz f.cx.base Z') ρ'' a' v)/\ρ <+: ρ''/\(∀p∈Z,p∈Z'):=by
 obtain ⟨h1,h2⟩:=okK_iff hκ;have r1:=zeT (κ:=κ) (ρ:=ρ) λi hi=>by rw[c.rel.lr];exact h1 i hi
 have r2:=zeT (κ:=κ) (ρ:=μ) λi hi=>by rw[c.rel.lm];exact h1 i hi
 obtain ⟨ρx,eρ⟩:=Kp.rpre;obtain ⟨μx,eμ⟩:=Kp.mpre;obtain ⟨b1,b2⟩:=mapO_some eb;obtain ⟨p1,p2,p3,p4⟩:=putAll_get h1 h2 hbl;have lρ:ρ'.length=κ.length+ρx.length:=by rw[←eρ,List.length_append,r1.1]
 have lμ:μ'.length=κ.length+μx.length:=by rw[←eμ,List.length_append,r2.1]
 have loρ:os'.length=ρ'.length:=R.lr.symm;have loμ:os'.length=μ'.length:=R.lm.symm;have pre:ρ <+: ρ++ρx:=List.prefix_append _ _;have keyμ:∀a∈μ,a∈news.map (·.1):=λa ha=>c.mu_key ha
 have fresh:∀a∈μx,a∉news.map (·.1):=λa ha=>by
  have hnd:=R.mnd;rw[←eμ,List.nodup_append] at hnd;rcases Kp.mnew a (by rw[←eμ];exact List.mem_append_right _ ha) with q|q
  ·exact absurd rfl (hnd.2.2 a q a ha)
  ·exact q
 have hG:∀a o,Fz f.cx.base Z a o->Fz f.cx.base Z' a o:=λa o q=>q.mono Kp.zold
 have hφ:∀i j x,backN κ objs.length i=some j->ρ'[i]?=some x->(ρ++ρx)[j]?=some x:=by
  intro i j x hij hx;rcases backN_some hij with ⟨q1,q2⟩|⟨q1,q2⟩
  ·have hj:=h1 j (List.mem_of_getElem? q2)
   rw[List.getElem?_append_left (by rw[c.rel.lr];exact hj)]
   rw[←eρ,List.getElem?_append_left (by rw[r1.1];exact q1),r1.2,q2] at hx
   exact hx
  ·subst q2
   rw[List.getElem?_append_right (by rw[c.rel.lr];lia),c.rel.lr]
   rw[←eρ,List.getElem?_append_right (by rw[r1.1];exact q1),r1.1] at hx
   have:objs.length+(i - κ.length) - objs.length=i - κ.length:=by lia
   rw[this];exact hx
 have old_news:∀p∈news,p.1∉μ->p∈news':=λp hp q=>Kp.old p hp λz=>q (zfV z)
 have cell_old:∀cc∈f.ca,∀o,(cc,o)∈news->(cc,o)∈news':=λcc hcc o ho=>Kp.old _ ho λz=>c.rel.mcl _ (zfV z) hcc
 have cell_key:∀cc∈f.ca,cc∈news.map (·.1):=λcc hcc=>by
  obtain ⟨_,o,v,ho,_⟩:=c.cells cc hcc;exact List.mem_map.mpr ⟨_,ho,rfl⟩
 refine ⟨ρ++ρx,μ++μx,?_,λa a' v e h=>renA_VA hφ e h,pre,Kp.zold⟩
 refine {turn:=c.turn.trans T,below:=B,above:=by rw[T.size];exact c.above,rel:=?_,cells:=?_,envr:=?_,kept:=?_}
 ·refine ⟨R.nd,R.zin,λp hp q=>?_,λp hp q=>?_,λa ha q=>?_,?_,?_,?_,λi o ho=>?_⟩
  ·rcases List.mem_append.mp q with q|q
   ·rcases Kp.znew p hp with z|z
    ·exact c.rel.zmu p z q
    ·exact z (keyμ _ q)
   ·exact R.zmu p hp (by rw[←eμ];exact List.mem_append_right _ q)
  ·rcases Kp.znew p hp with z|z
   ·exact c.rel.zcl p z q
   ·exact z (cell_key _ q)
  ·rcases List.mem_append.mp ha with z|z
   ·exact c.rel.mcl a z q
   ·exact fresh a z (cell_key _ q)
  ·rw[List.nodup_append]
   have hnd:=R.mnd;rw[←eμ,List.nodup_append] at hnd;exact ⟨c.rel.mnd,hnd.2.1,λx hx y hy e=>fresh y hy (e▸keyμ x hx)⟩
  ·rw[p1,List.length_append,c.rel.lr,b1,loρ,lρ];lia
  ·rw[p1,List.length_append,c.rel.lm,b1,loμ,lμ];lia
  ·by_cases hi:i<objs.length
   ·by_cases hk:i∈κ
    ·obtain ⟨j,hj⟩:=List.getElem?_of_mem hk
     rw[p3 j i hj] at ho;have hjl:j<κ.length:=(List.getElem?_eq_some_iff.mp hj).1;have hjo:j<os'.length:=by rw[←b1];exact (List.getElem?_eq_some_iff.mp ho).1
     obtain ⟨o',e1,e2⟩:=b2 j os'[j] (List.getElem?_eq_getElem hjo);rw[ho] at e2;injection e2;obtain ⟨a,d,z1,z2,z3⟩:=R.ob j os'[j] (List.getElem?_eq_getElem hjo);refine ⟨a,d,?_,?_,renO_MO hφ e1 z3⟩
     ·rw[List.getElem?_append_left (by rw[c.rel.lr];exact hi)]
      rw[←eρ,List.getElem?_append_left (by rw[r1.1];exact hjl),r1.2,hj] at z1
      exact z1
     ·rw[List.getElem?_append_left (by rw[c.rel.lm];exact hi)]
      rw[←eμ,List.getElem?_append_left (by rw[r2.1];exact hjl),r2.2,hj] at z2
      exact z2
    ·rw[p2 i hi hk] at ho
     obtain ⟨a,d,z1,z2,z3⟩:=c.rel.ob i o ho;refine ⟨a,d,by rw[List.getElem?_append_left (by rw[c.rel.lr];exact hi)];exact z1,by rw[List.getElem?_append_left (by rw[c.rel.lm];exact hi)];exact z2,z3.mono hG pre λob hob=>Kp.old _ hob λq=>?_⟩
     obtain ⟨t,ht,e⟩:=List.mem_filterMap.mp q;obtain ⟨l1,e1⟩:=List.getElem?_eq_some_iff.mp e;obtain ⟨l2,e2⟩:=List.getElem?_eq_some_iff.mp z2;have:=nodup_inj c.rel.mnd l1 l2 (e1.trans e2.symm);exact hk (this▸ht)
   ·obtain ⟨t,rfl⟩:∃t,i=objs.length+t:=⟨i - objs.length,by lia⟩
    rw[p4 t] at ho;have hjo:κ.length+t<os'.length:=by rw[←b1];exact (List.getElem?_eq_some_iff.mp ho).1
    obtain ⟨o',e1,e2⟩:=b2 (κ.length+t) os'[κ.length+t] (List.getElem?_eq_getElem hjo);rw[ho] at e2;injection e2;obtain ⟨a,d,z1,z2,z3⟩:=R.ob (κ.length+t) os'[κ.length+t] (List.getElem?_eq_getElem hjo);refine ⟨a,d,?_,?_,renO_MO hφ e1 z3⟩
    ·rw[List.getElem?_append_right (by rw[c.rel.lr];lia),c.rel.lr]
     rw[←eρ,List.getElem?_append_right (by rw[r1.1];lia),r1.1] at z1
     have e3:objs.length+t - objs.length=t:=by lia
     have e4:κ.length+t - κ.length=t:=by lia
     rw[e3];rw[e4] at z1;exact z1
    ·rw[List.getElem?_append_right (by rw[c.rel.lm];lia),c.rel.lm]
     rw[←eμ,List.getElem?_append_right (by rw[r2.1];lia),r2.1] at z2
     have e3:objs.length+t - objs.length=t:=by lia
     have e4:κ.length+t - κ.length=t:=by lia
     rw[e3];rw[e4] at z2;exact z2
 ·intro cc hcc
  obtain ⟨k1,o,v,k2,k3⟩:=c.cells cc hcc;exact ⟨k1,o,v,cell_old cc hcc o k2,k3⟩
 ·intro x av hx
  obtain ⟨v,k1,k2⟩:=c.envr x av hx;exact ⟨v,k1.mono hG pre,k2.mono cell_old⟩
 ·refine c.kept.trans old_news Kp.zold Kp.znew keyμ pre (List.prefix_append _ _) λa ha=>?_
  rcases List.mem_append.mp ha with z|z
  ·exact .inl z
  ·exact .inr (fresh a z)
end
section
variable{f:FC}{Sp:Spec}{lc:Nms}{ih:Task->S->Out}{tm:List (AV×Value)}{st:S}
noncomputable def EndsAs(κ:List Nat)(n:Nat)(w:Res):CRes->Prop
 |.ok a=>∃a',renA (backN κ n) a=some a'/\w=.v a'
 |.exc c=>w=.exc false c
theorem callN_end(hC:∀k as os cr os',Sp.call k as os cr os'->CallOK f.cx f.lev k as os cr os'){k:Key}{avs avs':List AV}{vs:List Value}{fv:Value}{κ:List Nat}{os os' bs:Objs}{cr:CRes}{w:Res}{ans:List Ans}(hk:Holds st.obl->zcA f.cx k fv)(hl:vs.length=avs.length)(hm:∀p∈avs.zip vs,p∈tm)(hh0:st.h=false)
  (q1:okK st.objs.length κ=true) (q2:mapO (renA λj=>zcQ j κ 0) avs=some avs') (q3:zi0 κ st.objs=some os) (q5:mapO (renO (backN κ st.objs.length)) os'=some bs) (hbl:κ.length<=bs.length) (hw:EndsAs κ st.objs.length w cr) :
  Sim f tm st (some (w,⟨st.env,zdV st.objs κ bs,st.h,ans,st.obl++[Sp.call k avs' os cr os']⟩)) (call fv vs) (pV f tm):=by
 intro r st' e;injection e;refine ⟨rfl,zaL,λhob A hA s Q E C hp=>?_⟩
 obtain ⟨hh,tk,g,m,news,Z,ρ,μ,rfl,c⟩:=C;have hsub:=sub_args c q1 q2 λp hp=>c.tmr p (hm p hp)
 refine hC _ _ _ _ _ hob.last fv (hk (hob.sub zaL)) f rfl (Nat.le_refl _) A (hA.h hh0.symm) g m news Z _ _ hh tk vs Q E c.below c.above c.fr c.nw (c.sub q1 q3) (hl.trans hsub.2.symm) hsub.1 ?_ ?_
 ·intro v h' tk' g' news' Z' ρ' μ' a ecr T B F N R Kp hv
  subst ecr;obtain ⟨a',ea,rfl⟩:=hw;obtain ⟨ρ'',μ'',c1,c2,c3,c4⟩:=CoreP.back c q1 T B R Kp q5 hbl;refine hp v _ ⟨h',tk',g',m,news',Z',ρ'',μ'',rfl,{c1 with fr:=F,nw:=N,tmr:=λp hp=>?_}⟩
  rcases List.mem_cons.mp hp with rfl|hp
  ·exact c2 _ _ _ ea hv
  ·exact (c.tmr p hp).mono (λa o z=>z.mono c4) c3
 ·intro ea C h' tk' g' news' Z' ρ' μ' cn ecr hC' T B R Kp Fl
  subst ecr;cases hw
  obtain ⟨ρ'',μ'',c1,c2,c3,c4⟩:=CoreP.back c q1 T B R Kp q5 hbl;exact hp _ _ ⟨ea,C,rfl,hC',h',tk',g',m,news',Z',ρ'',μ'',rfl,c1,Fl⟩
theorem sim_callN(hC:∀k as os cr os',Sp.call k as os cr os'->CallOK f.cx f.lev k as os cr os'){k:Key}{avs:List AV}{vs:List Value}{fv:Value}(hk:Holds st.obl->zcA f.cx k fv)(hl:vs.length=avs.length)(hm:∀p∈avs.zip vs,p∈tm):
  Sim f tm st (callN Sp k avs st) (call fv vs) (pV f tm):=by
 refine zc4 λhh0=>zaI λq _=>zc4 λq1=>zaI λavs' q2=>zaI λos q3=>zaI λbs q5=>zc4 λq6=>?_
 have hh0:st.h=false:=by rw[Bool.not_eq_true'] at hh0;exact hh0
 obtain ⟨⟨cr,os'⟩,ans⟩:=q;induction cr with
 |ok a=>exact zaI λa' ea=>callN_end hC hk hl hm hh0 q1 q2 q3 q5 (Nat.le_of_ble_eq_true q6) ⟨a',ea,rfl⟩
 |exc c=>exact callN_end hC hk hl hm hh0 q1 q2 q3 q5 (Nat.le_of_ble_eq_true q6) rfl
end
end
section
open PySem PySem.W PyProof.Rows PySem.SeqAt
open Sem (wp)
structure HypC(f:FC)(Sp:Spec):Prop where
 fn:∀x,Sp.fn x->∃fv,FnVal f.cx x fv
 meth:∀c m,Sp.meth c m->∃fv,zc7 f.cx c m fv
 call:∀k as os cr os',Sp.call k as os cr os'->CallOK f.cx f.lev k as os cr os'
theorem zh7:PlainAttrs "bytearray":=
 ⟨⟨"bytearray.__getattribute__",by rw[typeLookup_type,builtinLookup_eq_fast];kernel_rfl,by decide +kernel⟩,by rw[typeLookup_type,builtinLookup_eq_fast];kernel_rfl⟩
theorem type_ba_append:typeOf (.builtin "bytearray.append")=pure (.type "method_descriptor"):=by kernel_rfl
theorem type_ba_extend:typeOf (.builtin "bytearray.extend")=pure (.type "method_descriptor"):=by kernel_rfl
theorem type_l_append:typeOf (.builtin "list.append")=pure (.type "method_descriptor"):=by kernel_rfl
noncomputable def fvOf(cx:Cx)(k:Key):Value:=Classical.epsilon (zcA cx k)
theorem fvOf_is{cx:Cx}{k:Key}(h:∃v,zcA cx k v):zcA cx k (fvOf cx k):=Classical.epsilon_spec h
noncomputable def mkVal(cx:Cx)(k:MK)(m:Str):Value:=match k with
 |.own c=>fvOf cx (.mt c m)
 |.lapp=>.builtin "list.append"
 |.bapp=>.builtin "bytearray.append"
 |.bext=>.builtin "bytearray.extend"
 |.dget=>.builtin "dict.get"
section
variable{f:FC}{Sp:Spec}{lc:Nms}{ih:Task->S->Out}{tm:List (AV×Value)}{st:S}
set_option tactic.hygienic true in
theorem plainF_none{a:Str}:∀{fs:List (Str×DV)},look a fs=none->look a (plainF fs)=none:=by
 intro l;induction l with
 |nil=>exact @λ_=>rfl
 |cons hd r ih=>
  obtain ⟨n,x⟩:=hd;intro h;rw[plainF,zb9];rw[zb9] at h;split at h
  ·first|exact nn h|injection h
  ·rename_i q;rw[if_neg q];exact ih h
set_option tactic.hygienic true in
theorem FP.getNone{K:Frag}{G:Addr->Obj->Prop}{C:Addr}{a:Str}:∀{fs:List (Str×PV)} {es:List DictEntry},FP K G C fs es->look a fs=none->getL a es=some none:=by
 intro l;induction l with
 |nil=>exact @λes e _=>by cases (e:es=[]);rfl
 |cons hd r ih=>
  obtain ⟨n,y⟩:=hd;intro es e h;obtain ⟨en,er,t,rfl,ek,ev,ea,e5⟩:=e;rw[zb9] at h;split at h
  ·first|exact nn h|injection h
  rename_i q
  have ih:=ih e5 h;unfold getL at ih ⊢;have:en.key.isStr a=false:=by rw[ek];simp only[Value.isStr];exact beq_eq_false_iff_ne.mpr (Ne.symm q)
  have hr:en.refKey=false:=by simp[DictEntry.refKey,ek]
  rw[List.find?_cons,this];dsimp only;rw[List.any_cons,hr,Bool.false_or];exact ih
theorem ownK_some{α:Type}{c:Str}{a:Option α}{k:MK}(e:ownK c a=some k):a=none/\k=.own c:=by
 induction a with
 |none=>injection e;exact ⟨rfl,rfl⟩
 |some _=>exact nn e
theorem one_sel{α:Type}{c:Bool}{a x:α}(e:bsel c (some a) none=some x):c=true/\x=a:=by
 induction c with
 |true=>injection e;exact ⟨rfl,rfl⟩
 |false=>exact nn e
theorem found_own{m cn:Str}{b d:Addr}{C:Addr}{es:List DictEntry}{kk tk:Nat}{g hh:Heap}{mm:Str->Option Value}{news Z:Led}{ρ μ:List Addr}{A:Around}{pl:Sem Bool}{Q:Value×List Value->Shared->Prop}{E:Value->Shared->Prop}(c:Core f g mm news Z ρ μ st.env st.objs tm hh)
  (K1:zcA f.cx (.mt cn m) (fvOf f.cx (.mt cn m))) (h3:clsA f.cx.K cn=some C) (h4:hh.get? b=some (instObj C d)) (h5:hh.get? d=some (dictOf es kk)) (h6:getL m es=some none) (h:Q (fvOf f.cx (.mt cn m),[.ref b]) {f.s₀ with heap:=hh,toks:=tk}):wpAny f.M A (getMethod (.ref b) m pl) Q E {f.s₀ with heap:=hh,toks:=tk}:=by
 obtain ⟨C',fa,e1,e2,e3,e4,e5,e6⟩:=K1;cases h3.symm.trans e2
 rw[e1] at h;exact method_inst (ox:=instObj C d) c.fr c.X ⟨h4,rfl,rfl,h5⟩ e5 e3 e4 h6 h
section
variable{g hh:Heap}{tk:Nat}{mm:Str->Option Value}{news Z:Led}{ρ μ:List Addr}{A:Around}{pl:Sem Bool}{Q:Value×List Value->Shared->Prop}{E:Value->Shared->Prop}{b:Addr}
theorem found_lst (c:Core f g mm news Z ρ μ st.env st.objs tm hh) {m:Str} {a d:Addr} {k:Nat} {ps:List PV} (x:MSeq f.cx news (Fz f.cx.base Z) a d k ps) (hm:m = "append") (h:Q (.builtin "list.append",[.ref a]) {f.s₀ with heap:=hh,toks:=tk}) :
  wpAny f.M A (getMethod (.ref a) m pl) Q E {f.s₀ with heap:=hh,toks:=tk}:=by
 obtain ⟨rfl,hl,vs,n,h3,h4⟩:=x;subst hm;exact getMethod_builtin (s:={f.s₀ with heap:=hh,toks:=tk}) ⟨_,(c.nw _ h3).1,rfl⟩ PySem.F.plainAttrs_list slot_list_append type_l_append (λa e=>by injection e;exact ⟨_,(c.nw _ h3).1,rfl⟩) h
theorem meth_on(H:HypC f Sp)(c:Core f g mm news Z ρ μ st.env st.objs tm hh){m:Str}{k:MK}{i:Nat}{o:MObj}(ho:getT st.objs i=some o)(e:objKind m o=some k)(hu:ρ[i]?=some b)(hob:Holds (zbZ Sp k m st).obl)(h:Q (mkVal f.cx k m,[.ref b]) {f.s₀ with heap:=hh,toks:=tk}):
  wpAny f.M A (getMethod (.ref b) m pl) Q E {f.s₀ with heap:=hh,toks:=tk}:=by
 obtain ⟨b',d,h1,h2,x⟩:=c.obj ho;cases hu.symm.trans h1
 induction o with
 |inst cn fs=>
  obtain ⟨hl,rfl⟩:=ownK_some e;obtain ⟨C,es,kk,h3,h4,h5,h6⟩:=x;exact found_own c (fvOf_is (k:=.mt cn m) (H.meth _ _ hob.last)) h3 (c.fz h4) (c.nw _ h5).1 (h6.getNone hl) h
 |lst xs=>obtain ⟨q,rfl⟩:=one_sel e;exact found_lst c x (eqN_iff.mp q) h
 |tl ty xs=>obtain ⟨q,rfl⟩:=one_sel e;exact found_lst c x (eqN_iff.mp q) h
 |ba b=>
  obtain ⟨rfl,hb,h4⟩:=x;rcases zdK e with ⟨q,e'⟩|e'
  ·injection e'
   rw[eqN_iff.mp q];exact getMethod_builtin (s:={f.s₀ with heap:=hh,toks:=tk}) ⟨_,(c.nw _ h4).1,rfl⟩ zh7 zg8 type_ba_append (λa e=>by injection e;exact ⟨_,(c.nw _ h4).1,rfl⟩) h
  ·obtain ⟨q,rfl⟩:=one_sel e'
   rw[eqN_iff.mp q];exact getMethod_builtin (s:={f.s₀ with heap:=hh,toks:=tk}) ⟨_,(c.nw _ h4).1,rfl⟩ zh7 zg7 type_ba_extend (λa e=>by injection e;exact ⟨_,(c.nw _ h4).1,rfl⟩) h
 |dict es=>
  obtain ⟨q,rfl⟩:=one_sel e;rw[eqN_iff.mp q];obtain ⟨rfl,hl,o,kvs,h3,h4,h5,h6⟩:=x;exact kdg_method (s:={f.s₀ with heap:=hh,toks:=tk}) c.nw h3 h5 h
end
theorem meth_found(H:HypC f Sp){o:AV}{u:Value}{m:Str}{k:MK}(e:methKind st.objs o m=some k)(hu:(o,u)∈tm)(hob:Holds (zbZ Sp k m st).obl){A:Around}{s:Shared}{pl:Sem Bool}{Q:Value×List Value->Shared->Prop}{E:Value->Shared->Prop}
  (C:Cfg f st.env st.objs tm s) (h:Q (mkVal f.cx k m,[u]) s):wpAny f.M A (getMethod u m pl) Q E s:=by
 obtain ⟨hh,tk,g,mm,news,Z,ρ,μ,rfl,c⟩:=C;have hu':=c.tmr _ hu;induction o with
 |r i=>
  obtain ⟨o,ho,e⟩:=za3 e;obtain ⟨b',h7,rfl⟩:=hu';exact meth_on H c ho e h7 hob h
 |d x=>
  induction x using DV.casesOn with
  |obj cn fs=>
   obtain ⟨hl,rfl⟩:=ownK_some e;obtain ⟨b,C,dx,es,kk,rfl,h3,h4,h5,h6⟩:=hu';exact found_own c (fvOf_is (k:=.mt cn m) (H.meth _ _ hob.last)) h3 (c.fz h4) (c.fz h5) (h6.getNone (plainF_none hl)) h
  |_=>exact nn e
end
end
section
open PySem PySem.W PyProof.Rows PySem.SeqAt
open Sem (wp)
section
variable{f:FC}{Sp:Spec}{lc:Nms}{ih:Task->S->Out}{tm:List (AV×Value)}{st:S}
theorem VPs.one{K:Frag}{G:Addr->Obj->Prop}{x:PV}{v:Value}(h:VP K G x v):VPs K G [x] [v]:=.c h .nil
theorem Sim.turn{i:Nat}{o o':MObj}{c:Sem Value}{q:Prop}(ho:getT st.objs i=some o)
  (h:q->∀A,AOK f st.h A->∀hh tk g m news Z ρ μ,Core f g m news Z ρ μ st.env st.objs tm hh->∀a d,ρ[i]?=some a->μ[i]?=some d->MO f.cx news (Fz f.cx.base Z) ρ a d o->∀Q E,
   (∀ob ob' h',(d,ob)∈news->Heap.SameBut d hh h'->h'.get? d=some ob'->MO f.cx (zbQ d ob' news) (Fz f.cx.base Z) ρ a d o'->∀tk',Q .none {f.s₀ with heap:=h',toks:=tk'})->wpB f.M A c Q E {f.s₀ with heap:=hh,toks:=tk}) :
  Sim f tm st (Internal.val .none {st with objs:=setT st.objs i o',obl:=st.obl++[q]}) c (pV f tm):=by
 intro r st' e;injection e;refine ⟨rfl,zaL,λhob A hA s Q E C hp=>?_⟩
 obtain ⟨hh,tk,g,m,news,Z,ρ,μ,rfl,c⟩:=C;obtain ⟨a,d,h1,h2,h3⟩:=c.obj ho;have hi:i<st.objs.length:=by rw[ze8] at ho;exact (List.getElem?_eq_some_iff.mp ho).1
 refine h hob.last A hA hh tk g m news Z ρ μ c a d h1 h2 h3 Q E λob ob' h' hm hs ho' hmo tk'=>?_
 obtain ⟨F',N'⟩:=c.turnFN hm hs ho';exact hp _ _ ⟨h',tk',g,m,_,Z,ρ,μ,rfl,(c.turnObj h1 h2 hm F' N' hi hmo).tmp (a:=.d .none) rfl⟩
theorem append_list {vs:List Value} {v:Value} {n:Nat}:({cls:=.type "list",data:=.seq (vs.toArray.push v) (n+1)}:Obj)=listOf (vs++[v]).toArray (n+1):=by
 show _=({cls:=.type "list",data:=.seq (vs++[v]).toArray (n+1)}:Obj)
 simp
theorem argR_some{o:AV}{as:List AV}{p:Nat×DV}(e:argR o as=some p):o=.r p.1/\as=[.d p.2]:=by
 induction o with
 |d _=>exact nn e
 |r i=>
  obtain ⟨a,e1,e⟩:=za3 e;cases one_some e1
  induction a with
  |r _=>exact nn e
  |d x=>injection e;exact ⟨rfl,rfl⟩
section
variable{i:Nat}{u v:Value}
theorem sim_grow{o o':MObj}{q:Prop}{k:Nat}{ps:List PV}{y:PV}{x:DV}(ho:getT st.objs i=some o)(hu:(AV.r i,u)∈tm)(hv:(AV.d x,v)∈tm)(hy:plain x=y)(hq:q->k<1000000)(hk:ps.length=k)
  (h1:∀news G ρ a d,MO f.cx news G ρ a d o->MSeq f.cx news G a d k ps) (h2:∀news G ρ a d,MSeq f.cx news G a d (k+1) (ps++[y])->MO f.cx news G ρ a d o') :
  Sim f tm st (val .none {st with objs:=setT st.objs i o',obl:=st.obl++[q]}) (call (.builtin "list.append") [u,v]) (pV f tm):=by
 refine Sim.turn ho λhq' A hA hh tk g m' news Z ρ μ c a d z1 z2 z3 Q E hp=>?_
 obtain ⟨rfl,hl,vs,n,h4,h5⟩:=h1 _ _ _ _ _ z3;obtain ⟨b',h7,rfl⟩:=(show ∃a,ρ[i]?=some a/\u=.ref a from c.tmr _ hu)
 cases z1.symm.trans h7
 have hv:VP f.cx.K (Fz f.cx.base Z) (plain x) v:=c.tmr _ hv;rw[hy] at hv;have hk':=hq hq';have hvs:vs.length=k:=h5.length.trans hk;refine .of (append_at (s:={f.s₀ with heap:=hh,toks:=tk}) (c.nw _ h4).1 (λh' hs ho'=>?_) (by rw[List.size_toArray,sizeLine_eq];lia))
 rw[append_list] at ho';exact hp _ _ h' h4 hs ho' (h2 _ _ _ _ _ ⟨rfl,Nat.le_trans hk' (by decide),vs++[v],n+1,zbD h4,h5.append (VPs.one hv)⟩) _
theorem sim_bapp{b:Byt}{n:Int}(ho:getT st.objs i=some (.ba b))(hu:(AV.r i,u)∈tm)(hv:(AV.d (.int n),v)∈tm):
  Sim f tm st (val .none {st with objs:=setT st.objs i (.ba (b++[u8 n])),obl:=st.obl++[zc1 n/\b.length<1000000]}) (call (.builtin "bytearray.append") [u,v]) (pV f tm):=by
 refine Sim.turn ho λhq A hA hh tk g m' news Z ρ μ c a d h1 h2 h3 Q E hp=>?_
 obtain ⟨hb0,hb1⟩:=hq;obtain ⟨rfl,hl,h4⟩:=h3;obtain ⟨b',h7,rfl⟩:=(show ∃a,ρ[i]?=some a/\u=.ref a from c.tmr _ hu)
 cases h1.symm.trans h7
 obtain ⟨t,rfl⟩:=(show ∃t,v=.int n t from c.tmr _ hv)
 refine ba_appendB (s:={f.s₀ with heap:=hh,toks:=tk}) hA.guards (c.nw _ h4).1 hb0.1 hb0.2 (by rw[List.size_toArray,sizeLine_eq];lia) λh' ho' hs=>?_
 have e:b.toArray.push (u8 n)=(b++[u8 n]).toArray:=by simp
 rw[e] at ho';exact hp _ _ h' h4 hs ho' ⟨rfl,by rw[List.length_append];exact Nat.le_trans hb1 (by decide),zbD h4⟩ _
theorem sim_bext{b x:Byt}(ho:getT st.objs i=some (.ba b))(hu:(AV.r i,u)∈tm)(hv:(AV.d (.bytes x),v)∈tm):
  Sim f tm st (val .none {st with objs:=setT st.objs i (.ba (b++x)),obl:=st.obl++[b.length+x.length<1000000]}) (call (.builtin "bytearray.extend") [u,v]) (pV f tm):=by
 refine Sim.turn ho λhq A hA hh tk g m' news Z ρ μ c a d h1 h2 h3 Q E hp=>?_
 obtain ⟨rfl,hl,h4⟩:=h3;obtain ⟨b',h7,rfl⟩:=(show ∃a,ρ[i]?=some a/\u=.ref a from c.tmr _ hu)
 cases h1.symm.trans h7
 obtain ⟨_,t,rfl⟩:=(show x.length<=big/\∃t,v=.bytes x.toArray t from c.tmr _ hv)
 refine ba_extendB (s:={f.s₀ with heap:=hh,toks:=tk}) hA.guards (c.nw _ h4).1 (by rw[List.size_toArray,List.size_toArray,sizeLine_eq];lia) λh' ho' hs=>?_
 have e:b.toArray++x.toArray=(b++x).toArray:=by simp
 rw[e] at ho';exact hp _ _ h' h4 hs ho' ⟨rfl,by rw[List.length_append];exact Nat.le_trans (Nat.le_of_lt hq) (by decide),zbD h4⟩ _
theorem sim_dget {es:List (Byt×Byt)} {k:Byt} (ho:getT st.objs i=some (.dict es)) (hu:(AV.r i,u)∈tm) (hv:(AV.d (.bytes k),v)∈tm):Sim f tm st (val (.ob (dget k es)) st) (call (.builtin "dict.get") [u,v]) (pV f tm):=by
 refine Sim.valH (λp hp=>hp) λhob A hA hh tk g m news Z ρ μ c Q E hq=>?_
 obtain ⟨b,d,h1,h2,rfl,hl,o,kvs,h3,h4,h5,h6⟩:=c.obj ho;obtain ⟨b',h7,rfl⟩:=(show ∃a,ρ[i]?=some a/\u=.ref a from c.tmr _ hu)
 cases h1.symm.trans h7
 obtain ⟨_,t,rfl⟩:=(show k.length<=big/\∃t,v=.bytes k.toArray t from c.tmr _ hv)
 refine kdg_get1 (s:={f.s₀ with heap:=hh,toks:=tk}) c.nw h3 h5 h4 (bytesKind_is _ _ k t) _ rfl (hq _ _ _ c.fr c.nw ?_)
 have kv:=zfU h6 k;show VP _ _ (obP (dget k es)) _
 induction q:dget k es with
 |none=>rw[q] at kv;rw[kv];rfl
 |some x=>rw[q] at kv;obtain ⟨hx,t,e⟩:=kv;rw[e];exact ⟨hx,t,rfl⟩
theorem sim_methOn{m:Str}{k:MK}{o:MObj}{x:DV}(hk:∀c,k≠.own c)(ho:getT st.objs i=some o)(hu:(AV.r i,u)∈tm)(hv:(AV.d x,v)∈tm):Sim f tm st (methOn k i o x st) (call (mkVal f.cx k m) [u,v]) (pV f tm):=by
 induction k with
 |own c=>exact absurd rfl (hk c)
 |lapp=>
  induction o with
  |lst xs=>
   refine sim_grow ho hu hv rfl id (by rw[zaC,List.length_map]) (λ_ _ _ _ _ h=>h) λ_ _ _ _ _ h=>?_
   have e:zaU (xs++[x])=zaU xs++[plain x]:=by rw[zaC,zaC,List.map_append];rfl
   show MSeq _ _ _ _ _ _ _
   rw[e,List.length_append];exact h
  |tl ty xs=>
   refine zaI λy hy=>sim_grow ho hu hv (plain_parse hy) id (List.length_map ..) (λ_ _ _ _ _ h=>h) λ_ _ _ _ _ h=>?_
   show MSeq _ _ _ _ _ _ _
   rw[List.map_append,List.length_append];exact h
  |_=>exact Sim.none
 |bapp=>
  induction o with
  |ba b=>exact zaI λn hn=>by cases int?_eq hn;exact sim_bapp ho hu hv
  |_=>exact Sim.none
 |bext=>
  induction o with
  |ba b=>exact zaI λn hn=>by cases byt?_eq hn;exact sim_bext ho hu hv
  |_=>exact Sim.none
 |dget=>
  induction o with
  |dict es=>exact zaI λn hn=>by cases byt?_eq hn;exact sim_dget ho hu hv
  |_=>exact Sim.none
end
theorem sim_methRun(H:HypC f Sp){o:AV}{u:Value}{m:Str}{k:MK}{as:List AV}{vs:List Value}(hob0:∀c,k=.own c->Holds st.obl->zcA f.cx (.mt c m) (fvOf f.cx (.mt c m)))(l:vs.length=as.length)(hu:(o,u)∈tm)(hm:∀p∈as.zip vs,p∈tm):
  Sim f tm st (methRun Sp k o m as st) (call (mkVal f.cx k m) ([u]++vs)) (pV f tm):=by
 have go:(∀c,k≠.own c)->Sim f tm st (opb (argR o as) λp=>opb (getT st.objs p.1) λb=>methOn k p.1 b p.2 st) (call (mkVal f.cx k m) ([u]++vs)) (pV f tm):=λhk=>
  zaI λp hp=>zaI λb hb=>by
   obtain ⟨rfl,rfl⟩:=argR_some hp;obtain ⟨v,rfl⟩:=zip1 l;exact sim_methOn hk hb hu (hm _ (.head _))
 induction k with
 |own c=>
  refine sim_callN H.call (k:=.mt c m) (avs:=o::as) (hob0 c rfl) (by simp[l]) λp hp=>?_
  rcases List.mem_cons.mp hp with rfl|hp
  ·exact hu
  ·exact hm p hp
 |_=>exact go nofun
end
end
section
open PySem PySem.W PyProof.Rows PySem.SeqAt
open Sem (wp)
section
variable{f:FC}{Sp:Spec}{lc:Nms}{ih:Task->S->Out}{tm:List (AV×Value)}{st:S}
theorem zb1{a b:Bool}(h:(a&&b)=true):a=true/\b=true:=by cases a <;> cases b <;> simp_all
theorem isBi_name{x:Str}(h:isBi x=true):∃v,BiName x v:=by
 unfold isBi at h;simp only[Bool.or_eq_true,eqN_iff] at h;rcases h with ((((rfl|rfl)|rfl)|rfl)|rfl)|rfl
 ·exact ⟨_,.len⟩
 ·exact ⟨_,.bytes⟩
 ·exact ⟨_,.bytearray⟩
 ·exact ⟨_,.range⟩
 ·exact ⟨_,.min⟩
 ·exact ⟨_,.max⟩
theorem BiName.one{x:Str}{u v:Value}(a:BiName x u)(b:BiName x v):u=v:=by
 obtain ⟨h1,_⟩:=bi_boot a;obtain ⟨h2,_⟩:=bi_boot b;rw[h1] at h2;injection h2;rfl
theorem FnVal.name(H:Hyp f Sp lc){x:Str}{fv:Value}(hv:FnVal f.cx x fv)(hx:hasS x lc.2=true){env:Env'}{objs:Objs}{s:Shared}(C:Cfg f env objs tm s){pos:Pos}{A:Around}{Q:Value->Shared->Prop}{E:Value->Shared->Prop}(h:Q fv s):
  wpAny f.M A (eval (.Name x pos) f.env) Q E s:=by
 have hg:=H.glb x hx;obtain ⟨hh,tk,g,m,news,Z,ρ,μ,rfl,c⟩:=C;rcases hv with ⟨a,_⟩|⟨a,b,d,_⟩
 ·exact nameX_K (cl:=f.cells) c.fr c.X c.TR a h f.hk hg (not_dbg H hg)
 ·exact nameX_B (cl:=f.cells) c.fr c.X c.TR a b d h f.hk hg (not_dbg H hg)
theorem FnVal.keeper{cx:Cx}{x:Str}{fv:Value}(hv:FnVal f.cx x fv){env:Env'}{objs:Objs}{s:Shared}(C:Cfg f env objs tm s):∃k,Looks f.M s.heap (keeperOf fv) k:=by
 obtain ⟨hh,tk,g,m,news,Z,ρ,μ,rfl,c⟩:=C;rcases hv with ⟨_,a⟩|⟨_,_,_,a⟩
 ·obtain ⟨k,_,L⟩:=looks_keep (M:=f.M) a (c.X.keeps c.fr.keep)
  exact ⟨k,L⟩
 ·exact zcY a
theorem BiName.fn(H:Hyp f Sp lc){x:Str}{v:Value}(h:BiName x v):FnVal f.cx x v:=by
 obtain ⟨h1,h2,h3,h4⟩:=bi_boot h;exact .inr ⟨H.bi x v h,h1,h2,h4⟩
theorem Sim.need{α:Type}{p:Prop}{o:Out}{c:Sem α}{post:Pst α}(x:Sim f tm (st.need p) o c post):Sim f tm st o c post:=λr st' e=>
 let ⟨h1,h2,h3⟩:=x r st' e
 ⟨h1,λq hq=>h2 q (zaL q hq),h3⟩
set_option tactic.hygienic true in
theorem step_CallName(H:Hyp f Sp lc)(HC:HypC f Sp)(I:IH f ih){x:Str}{p pos:Pos}{as:List Expr}:
  Sim f tm st (zaJ Sp lc ih (.ev (.Call (.Name x p) as [] pos)) st) (eval (.Call (.Name x p) as [] pos) f.env) (pV f tm):=by
 show Sim f tm st (match hasS x lc.2&&zf7 as with
   |false=>none
   |true=>match isBi x with
    |true=>zc8 (ih (.evs as) st) λas st=>(match builtin x as st with|some o=>o|none=>none)
    |false=>zc8 (ih (.evs as) (st.need (Sp.fn x))) λas st=>callN Sp (.fn x) as st) _ _
 induction q:hasS x lc.2&&zf7 as with
 |false=>exact Sim.none
 |true=>
  obtain ⟨hx,hs⟩:=zb1 q;have hp:=zfW (pos:=pos) (env:=f.env) hs;rw[arm_eval_Call_Name'];induction q2:isBi x with
  |true=>
   obtain ⟨fv,hb⟩:=isBi_name q2;have hv:=hb.fn H;refine Sim.cong (c:=callWith pos fv [] (backTo pos (starEach as f.env)) []) ?_ λA s Q E hA C h=>za8 (hv.name H hx C h)
   refine Sim.args hp (I.evs as pos st tm) (λ_ _ _ _ _ C=>hv.keeper (cx:=f.cx) C) λbs st1 vs _ _ l=>?_
   split
   ·rename_i o e
    obtain ⟨fv',hb',S'⟩:=sim_builtin (f:=f) (tm:=bs.zip vs++tm) e l λp hp=>List.mem_append_left _ hp
    rw[hb.one hb'];exact S'.up λp hp=>List.mem_append_right _ hp
   ·exact Sim.none
  |false=>
   refine Sim.need (p:=Sp.fn x) ?_
   have hf:Holds (st.need (Sp.fn x)).obl->FnVal f.cx x (fvOf f.cx (.fn x)):=λhob=>fvOf_is (k:=.fn x) (HC.fn x hob.last)
   have S1:Sim f tm (st.need (Sp.fn x)) (zc8 (ih (.evs as) (st.need (Sp.fn x))) λas st=>callN Sp (.fn x) as st) (callWith pos (fvOf f.cx (.fn x)) [] (backTo pos (starEach as f.env)) []) (pV f tm):=by
    refine Sim.args hp (I.evs as pos _ tm) (λhob _ _ _ _ C=>(hf hob).keeper (cx:=f.cx) C) λbs st1 vs e1 _ l=>?_
    obtain ⟨_,h2,_⟩:=I.evs as pos _ tm _ _ e1;exact (sim_callN HC.call (k:=.fn x) (tm:=bs.zip vs++tm) (λhob=>hf (hob.sub h2)) l λp hp=>List.mem_append_left _ hp).up λp hp=>List.mem_append_right _ hp
   intro r st' e;obtain ⟨h1,h2,h3⟩:=S1 r st' e;refine ⟨h1,h2,λhob A hA s Q E C hp=>za8 ((hf (hob.sub h2)).name H hx C ?_)⟩
   exact h3 hob A hA s Q E C hp
theorem noStar_all:∀{as:List Expr} {pos:Pos} {env:Env},zf7 as=true->(backTo pos (starEach as env)).all (!·.1)=true
 |[],_,_,_=>rfl
 |e::r,pos,env,h=>by
  have key:zf7 r=true/\starEach (e::r) env=(false,eval e env)::starEach r env:=by
   cases e <;> first|exact ⟨h,rfl⟩|injection h
  rw[key.2];exact noStar_all (as:=r) (pos:=pos) (env:=env) key.1
theorem methNeed_st{k:MK}{m:Str}:(zbZ Sp k m st).env=st.env/\(zbZ Sp k m st).objs=st.objs/\(zbZ Sp k m st).h=st.h/\∀p∈st.obl,p∈(zbZ Sp k m st).obl:=by
 cases k <;> first|exact ⟨rfl,rfl,rfl,λp hp=>hp⟩|exact ⟨rfl,rfl,rfl,λp hp=>zaL p hp⟩
set_option tactic.hygienic true in
theorem step_CallAttr(HC:HypC f Sp)(I:IH f ih){o:Expr}{m:Str}{apos pos:Pos}{as:List Expr}:
  Sim f tm st (zaJ Sp lc ih (.ev (.Call (.Attribute o m apos) as [] pos)) st) (eval (.Call (.Attribute o m apos) as [] pos) f.env) (pV f tm):=by
 show Sim f tm st (match zdI o&&callOK apos pos as with
   |false=>none
   |true=>zaK (ih (.ev o) st) λo st=>(match methKind st.objs o m with
    |some k=>zc8 (ih (.evs as) (zbZ Sp k m st)) λas st=>methRun Sp k o m as st
    |none=>none)) _ _
 induction q:zdI o&&callOK apos pos as with
 |false=>exact Sim.none
 |true=>
  obtain ⟨q1,q2⟩:=zb1 q;unfold callOK at q2;obtain ⟨q2,q5⟩:=zb1 q2;obtain ⟨q3,q4⟩:=zb1 q2;have hp:=zfW (pos:=pos) (env:=f.env) q5
  have few:methodCallForm (as.length+([]:List Keyword).length) (backTo pos (starEach as f.env)) (backToKw pos (keywordEach [] f.env))=true:=by
   unfold methodCallForm;rw[noStar_all q5];have:as.length<30:=Nat.le_of_ble_eq_true q4;rw[arm_keywordEach_nil];simp[backToKw,this]
  have hpos:methodCallPos true o f.env apos pos=pure pos:=by
   unfold methodCallPos;have:apos.endLine=pos.line:=Nat.eq_of_beq_eq_true q3;simp[this]
  rw[arm_eval_Call,base_eq q1];refine (I.ev o st tm).bindV pV.exc λx st1 v _ _=>Sim.stand ?_
  split
  ·rename_i k e
   show Sim f _ st1 _ (methodCall o m apos pos f.env v _ _ _) _
   unfold methodCall;rw[few,hpos];obtain ⟨n1,n2,n3,n4⟩:=methNeed_st (Sp:=Sp) (st:=st1) (k:=k) (m:=m)
   have hk:∀c,k=.own c->Holds (zbZ Sp k m st1).obl->zcA f.cx (.mt c m) (fvOf f.cx (.mt c m)):=λc ec hob=>by
    subst ec;exact fvOf_is (k:=.mt c m) (HC.meth c m hob.last)
   have S1:Sim f ((x,v)::tm) (zbZ Sp k m st1) (zc8 (ih (.evs as) (zbZ Sp k m st1)) λas st=>methRun Sp k x m as st) (callWith pos (mkVal f.cx k m) [v] (backTo pos (starEach as f.env)) []) (pV f ((x,v)::tm)):=by
    refine Sim.args hp (I.evs as pos _ _) (λhob env objs tm' s C=>?_) λbs st2 vs e1 _ l=>?_
    ·induction k with
     |own c=>
      obtain ⟨_,fa,z1,_,_,_,_,z2⟩:=hk c rfl hob;obtain ⟨hh,tk,g,mm,news,Z,ρ,μ,rfl,cc⟩:=C;obtain ⟨kk,_,L⟩:=looks_keep (M:=f.M) z2 (cc.X.keeps cc.fr.keep);show ∃kk,Looks f.M _ (keeperOf (fvOf f.cx (.mt c m))) kk
      rw[z1];exact ⟨kk,L⟩
     |lapp=>exact zcY (fv:=.builtin "list.append") λ_=>nofun
     |bapp=>exact zcY (fv:=.builtin "bytearray.append") λ_=>nofun
     |bext=>exact zcY (fv:=.builtin "bytearray.extend") λ_=>nofun
     |dget=>exact zcY (fv:=.builtin "dict.get") λ_=>nofun
    ·obtain ⟨_,h2,_⟩:=I.evs as pos _ ((x,v)::tm) _ _ e1
     exact (sim_methRun HC (tm:=bs.zip vs++(x,v)::tm) (λc ec hob=>hk c ec (hob.sub h2)) l (List.mem_append_right _ (.head _)) λp hp=>List.mem_append_left _ hp).up λp hp=>List.mem_append_right _ hp
   intro r st' e';obtain ⟨h1,h2,h3⟩:=S1 r st' e';refine ⟨h1.trans n3,λp hp=>h2 p (n4 p hp),λhob A hA s Q E C hp=>?_⟩
   have C1:Cfg f (zbZ Sp k m st1).env (zbZ Sp k m st1).objs ((x,v)::tm) s:=by rw[n1,n2];exact C
   refine za0 (zaH (.of (meth_found HC e (.head _) (hob.sub h2) C ?_)));refine za0 (za4 ?_);exact h3 hob A (hA.h n3) s Q E C1 (hp.sub zdH)
  ·exact Sim.none
end
end
section
open PySem PySem.W PyProof.Rows PySem.SeqAt
open Sem (wp)
section
variable{f:FC}{Sp:Spec}{lc:Nms}{ih:Task->S->Out}{tm:List (AV×Value)}{st:S}
theorem Sim.turnU{i:Nat}{o o':MObj}{c:Sem Unit}{obl:List Prop}(ho:getT st.objs i=some o)(hobl:∀p∈st.obl,p∈obl)
  (h:Holds obl->∀A,AOK f st.h A->∀hh tk g m news Z ρ μ,Core f g m news Z ρ μ st.env st.objs tm hh->∀a d,ρ[i]?=some a->μ[i]?=some d->MO f.cx news (Fz f.cx.base Z) ρ a d o->∀Q E,
   (∀ob ob' h' tk',(d,ob)∈news->Fr g f.L h' m->News g f.L h' (zbQ d ob' news)->MO f.cx (zbQ d ob' news) (Fz f.cx.base Z) ρ a d o'->Q () {f.s₀ with heap:=h',toks:=tk'})->wpAny f.M A c Q E {f.s₀ with heap:=hh,toks:=tk}) :
  Sim f tm st (some (.u,{st with objs:=setT st.objs i o',obl:=obl})) c (pU f tm):=by
 intro r st' e;injection e;refine ⟨rfl,hobl,λhob A hA s Q E C hp=>?_⟩
 obtain ⟨hh,tk,g,m,news,Z,ρ,μ,rfl,c⟩:=C;obtain ⟨a,d,h1,h2,h3⟩:=c.obj ho;have hi:i<st.objs.length:=by rw[ze8] at ho;exact (List.getElem?_eq_some_iff.mp ho).1
 refine .of (h hob A hA hh tk g m news Z ρ μ c a d h1 h2 h3 Q E λob ob' h' tk' hm F' N' hmo=>?_)
 exact hp _ ⟨h',tk',g,m,_,Z,ρ,μ,rfl,c.turnObj h1 h2 hm F' N' hi hmo⟩
set_option tactic.hygienic true in
theorem putE_none{α:Type}{a:Str}{v:α}:∀{fs:List (Str×α)},look a fs=none->putE a v fs=fs++[(a,v)]:=by
 intro l;induction l with
 |nil=>exact @λ_=>rfl
 |cons hd r ih=>
  obtain ⟨n,x⟩:=hd;intro h;rw[zb9] at h;split at h
  ·first|exact nn h|injection h
  ·rename_i q
   rw[putE_cons];rw[Bool.eq_false_iff.mpr (λz=>q (eqN_iff.mp z))]
   dsimp only;rw[ih h];rfl
theorem putL_len(a:Str)(x:Int)(y z:Value)(l:List DictEntry):(putL a x y z l).length<=l.length+1:=by
 induction l with
 |nil=>exact Nat.le_refl 1
 |cons e r ih=>unfold putL;split <;> (rw[List.length_cons,List.length_cons];lia)
theorem attr_put{o v:AV}{u w:Value}{a:Str}(hu:(o,u)∈tm)(hw:(v,w)∈tm){i:Nat}{c:Str}{fs:List (Str×AV)}{obl:List Prop}(ei:o=.r i)(ho:getT st.objs i=some (.inst c fs))(hlen:fs.length<=100)(hobl:∀p∈st.obl,p∈obl)
  (hok:Holds obl->∀C,clsA f.cx.K c=some C->∀G ρ es,FA f.cx.K G ρ C fs es->zdL f.cx.K C a=true) :
  Sim f tm st (some (.u,{st with objs:=setT st.objs i (.inst c (putE a v fs)),obl:=obl})) (setAttr u a w) (pU f tm):=by
 subst ei;refine Sim.turnU ho hobl λhob A hA hh tk g m news Z ρ μ cc b d h1 h2 h3 Q E hq=>?_
 obtain ⟨C,es,k,h4,h5,h6,h7⟩:=h3;obtain ⟨b',h8,rfl⟩:=(show ∃b,ρ[i]?=some b/\u=.ref b from cc.tmr _ hu)
 cases h1.symm.trans h8
 have hok':=hok hob C h4 _ _ es h7;have x:=attrOK_at hok';refine set_dict (ox:=instObj C d) (s:={f.s₀ with heap:=hh,toks:=tk}) cc.fr cc.X cc.nw ⟨cc.fz h5,rfl,rfl,(cc.nw _ h6).1⟩ rfl x.2.2.2.2.2.2 x.2.2.2.2.2.1 x.2.2.2.2.1 x.2.1 h7.getSome rfl (zhW cc.rel.nd h6) ?_ λh' F' N'=>hq _ _ h' _ h6 F' N' ⟨C,_,_,h4,h5,zbD h6,h7.put (cc.tmr _ hw) _ _ hok'⟩
 exact Nat.le_trans (putL_len _ _ _ _ _) (by rw[h7.length];lia)
theorem sim_attrSet(H:Hyp f Sp lc){o v:AV}{u w:Value}{a:Str}(hu:(o,u)∈tm)(hw:(v,w)∈tm):Sim f tm st (attrSet Sp o a v st) (setAttr u a w) (pU f tm):=by
 induction o with
 |d _=>exact Sim.none
 |r i=>
  refine zaI λo ho=>?_
  induction o with
  |inst c fs=>
   refine zc4 λq1=>?_
   induction q2:look a fs with
   |some x=>exact attr_put hu hw rfl ho (Nat.le_of_ble_eq_true q1) (λp hp=>hp) λ_ C hC G ρ es hfa=>(hfa.get q2).elim λ_ h=>h.2.2
   |none=>
    have x:=attr_put (a:=a) hu hw rfl ho (Nat.le_of_ble_eq_true q1) zaL λhob C hC _ _ _ _=>H.attr c a hob.last C hC
    rw[putE_none q2] at x;exact x
  |_=>exact Sim.none
theorem KV.keys:∀{es:List (Byt×Byt)} {kvs:List (Byt×Value)},KV es kvs->kvs.map (·.1)=es.map (·.1):=by
 intro l;induction l with
 |nil=>exact @λ_ h=>by injection h;rfl
 |cons hd r ih=>
  obtain ⟨k,v⟩:=hd;intro _ h;obtain ⟨t,kr,rfl,hl,h'⟩:=h;simp[ih h']
theorem KV.app:∀{es:List (Byt×Byt)} {kvs:List (Byt×Value)} {k v:Byt} {t:Tok},KV es kvs->v.length<=big->KV (es++[(k,v)]) (kvs++[(k,.bytes v.toArray t)]):=by
 intro l;induction l with
 |nil=>exact @λ_ k v t h hv=>by injection h;exact ⟨t,[],rfl,hv,rfl⟩
 |cons hd r ih=>
  obtain ⟨a,x⟩:=hd;intro _ k v t h hv;obtain ⟨t',kr,rfl,hl,h'⟩:=h;exact ⟨t',_,rfl,hl,ih h' hv⟩
theorem dput_new:∀{es:List (Byt×Byt)} {k v:Byt},k∉es.map (·.1)->dput k v es=es++[(k,v)]:=by
 intro l;induction l with
 |nil=>exact @λ_ _ _=>rfl
 |cons hd r ih=>
  obtain ⟨a,w⟩:=hd;intro k v h;rw[List.map_cons,List.mem_cons,not_or] at h;rw[zeF];have:¬ a=k:=λe=>h.1 e.symm
  simp only[this,decide_false,cond_false];rw[ih h.2];rfl
theorem KV.mapput:∀{es:List (Byt×Byt)} {kvs:List (Byt×Value)} {k v:Byt} {t:Tok},KV es kvs->v.length<=big->(es.map (·.1)).Nodup->k∈es.map (·.1) ->
  KV (dput k v es) (kvs.map λkv=>if kv.1=k then (kv.1,.bytes v.toArray t) else kv):=by
 intro l;induction l with
 |nil=>exact @λ_ k v t h hv hn hk=>by injection hk
 |cons hd r ih=>
  obtain ⟨a,x⟩:=hd;intro _ k v t h hv hn hk;obtain ⟨t',kr,rfl,hl,h'⟩:=h;rw[List.map_cons,List.nodup_cons] at hn;rw[zeF];by_cases e:a=k
  ·subst e
   simp only[decide_true,cond_true,List.map_cons,if_true];refine ⟨t,kr,?_,hv,h'⟩
   congr 1
   have hne:∀kv∈kr,kv.1≠a:=λkv hkv e=>hn.1 (by rw[←h'.keys];exact List.mem_map.mpr ⟨kv,hkv,e⟩)
   conv=>rhs;rw[←List.map_id kr]
   exact List.map_congr_left λkv hkv=>by rw[if_neg (hne kv hkv)];rfl
  ·simp only[e,decide_false,cond_false,List.map_cons,if_false]
   refine ⟨t',_,rfl,hl,ih h' hv hn.2 ?_⟩;rw[List.map_cons,List.mem_cons] at hk;exact hk.resolve_left λz=>e z.symm
theorem KV.put{es:List (Byt×Byt)}{kvs:List (Byt×Value)}{k v:Byt}{t:Tok}(h:KV es kvs)(hv:v.length<=big)(hn:(kvs.map (·.1)).Nodup):KV (dput k v es) (stored kvs k (.bytes v.toArray t)):=by
 unfold stored;have hk:=h.keys;by_cases q:k∈es.map (·.1)
 ·rw[if_pos]
  ·exact h.mapput hv (hk▸hn) q
  ·rw[←hk] at q
   obtain ⟨kv,h1,h2⟩:=List.mem_map.mp q;exact List.any_eq_true.mpr ⟨kv,h1,by simp[h2]⟩
 ·rw[if_neg,dput_new q]
  ·exact h.app hv
  ·intro z
   obtain ⟨kv,h1,h2⟩:=List.any_eq_true.mp z;exact q (by rw[←hk];exact List.mem_map.mpr ⟨kv,h1,by simpa using h2⟩)
theorem KV.del:∀{es:List (Byt×Byt)} {kvs:List (Byt×Value)} {k:Byt},KV es kvs->(es.map (·.1)).Nodup->KV (ddel k es) (without kvs k):=by
 intro l;induction l with
 |nil=>exact @λ_ k h hn=>by injection h;rfl
 |cons hd r ih=>
  obtain ⟨a,x⟩:=hd;intro _ k h hn;obtain ⟨t',kr,rfl,hl,h'⟩:=h;rw[List.map_cons,List.nodup_cons] at hn;unfold ddel without;by_cases e:a=k
  ·subst e
   simp only[decide_true,cond_true,ne_eq,not_true_eq_false,decide_false,List.filter_cons,Bool.false_eq_true,if_false];have hne:∀kv∈kr,kv.1≠a:=λkv hkv e=>hn.1 (by rw[←h'.keys];exact List.mem_map.mpr ⟨kv,hkv,e⟩)
   rw[List.filter_eq_self.mpr λkv hkv=>by simp[hne kv hkv]]
   exact h'
  ·simp only[e,decide_false,cond_false,ne_eq,not_false_eq_true,decide_true,List.filter_cons,if_true]
   exact ⟨t',_,rfl,hl,ih h' hn.2⟩
theorem dput_len:∀{es:List (Byt×Byt)} {k v:Byt},(dput k v es).length<=es.length+1:=by
 intro l;induction l with
 |nil=>exact @λ_ _=>by simp[dput]
 |cons hd r ih=>
  obtain ⟨a,w⟩:=hd;intro k v;rw[zeF];by_cases e:a=k
  ·simp[e]
  ·simp only[e,decide_false,cond_false,List.length_cons];have:=ih (k:=k) (v:=v);lia
theorem ddel_len:∀{es:List (Byt×Byt)} {k:Byt},(ddel k es).length<=es.length:=by
 intro l;induction l with
 |nil=>exact @λ_=>by simp[ddel]
 |cons hd r ih=>
  obtain ⟨a,w⟩:=hd;intro k;rw[zhE];by_cases e:a=k
  ·simp[e]
  ·simp only[e,decide_false,cond_false,List.length_cons];have:=ih (k:=k);lia
theorem KV.len{es:List (Byt×Byt)}{kvs:List (Byt×Value)}(h:KV es kvs):kvs.length=es.length:=by
 have:=congrArg List.length h.keys;simpa using this
end
end
section
open PySem PySem.W PyProof.Rows PySem.SeqAt
open Sem (wp)
section
variable{f:FC}{Sp:Spec}{lc:Nms}{ih:Task->S->Out}{tm:List (AV×Value)}{st:S}
theorem mem_of_lookup{x:Str}{c:Addr}:∀{l:List (Str×Addr)},l.lookup x=some c->c∈l.map (·.2):=by
 intro l;induction l with
 |nil=>exact @λh=>by injection h
 |cons p r ih=>
  intro h;rw[List.lookup_cons] at h;split at h
  ·injection h;exact .head _
  ·exact .tail _ (ih h)
theorem storeN_ok(H:Hyp f Sp lc){x:Str}{a:AV}{v:Value}{env:Env'}{objs:Objs}(hx:hasS x lc.1=true)(hv:(a,v)∈tm){A:Around}{s:Shared}{Q:Unit->Shared->Prop}{E:Value->Shared->Prop}
  (C:Cfg f env objs tm s) (h:∀s',Cfg f (putE x a env) objs tm s'->Q () s'):wpAny f.M A (storeName f.env x v) Q E s:=by
 obtain ⟨hh,tk,g,m,news,Z,ρ,μ,rfl,c⟩:=C;rcases H.lcl x hx with q|⟨q,cc,q2,q3⟩
 ·refine storeX_L (cl:=f.cells) (s:={f.s₀ with heap:=hh,toks:=tk}) c.fr c.nw (λh' F' N'=>h _ ⟨h',tk+1,g,_,news,Z,ρ,μ,rfl,c.stLocal q (c.tmr _ hv) F' N'⟩) f.hk q
 ·have hin:=mem_of_lookup q2
  obtain ⟨_,ob,v₀,hm,hob⟩:=c.cells cc hin;refine storeX_C (cl:=f.cells) (s:={f.s₀ with heap:=hh,toks:=tk}) c.fr c.nw q2 (zgH c.rel.nd hm) hob (λh' o' F' N' d'=>h _ ⟨h',tk,g,m,_,Z,ρ,μ,rfl,c.stCell q q2 q3 hin hm d' (c.tmr _ hv) F' N'⟩) f.hk q
theorem store_ok(H:Hyp f Sp lc){x:Str}{a:AV}{v:Value}{pos:Pos}{env:Env'}{objs:Objs}(hx:hasS x lc.1=true)(hv:(a,v)∈tm){A:Around}{s:Shared}{Q:Unit->Shared->Prop}{E:Value->Shared->Prop}
  (C:Cfg f env objs tm s) (h:∀s',Cfg f (putE x a env) objs tm s'->Q () s'):wpAny f.M A (assign (.Name x pos) f.env v) Q E s:=wpAny_assign_Name (storeN_ok H hx hv C h)
theorem step_asg_Name(H:Hyp f Sp lc){x:Str}{pos:Pos}{a:AV}{v:Value}(hv:(a,v)∈tm):Sim f tm st (zaJ Sp lc ih (.asg (.Name x pos) a) st) (assign (.Name x pos) f.env v) (pU f tm):=by
 show Sim f tm st (match hasS x lc.1 with
   |true=>some (.u,{st with env:=putE x a st.env})
   |false=>none) _ _
 induction q:hasS x lc.1 with
 |false=>exact Sim.none
 |true=>
  intro r st' e;injection e;exact ⟨rfl,λp hp=>hp,λhob A hA s Q E C hp=>.of (store_ok H q hv C hp)⟩
theorem pU.up{tm':List (AV×Value)}{o:Out}{c:Sem Unit}(x:Sim f tm st o c (pU f tm))(h:∀p∈tm',p∈tm):Sim f tm st o c (pU f tm'):=x.post λ_ _ _ _ y=>y.sub h
theorem zh1(H:Hyp f Sp lc)(I:IH f ih){o:Expr}{x:Str}{pos:Pos}{a:AV}{v:Value}(hv:(a,v)∈tm):
  Sim f tm st (zaJ Sp lc ih (.asg (.Attribute o x pos) a) st) (assign (.Attribute o x pos) f.env v) (pU f tm):=by
 show Sim f tm st (zaK (ih (.ev o) st) λo st=>attrSet Sp o x a st) _ _
 rw[arm_assign_Attribute];refine (I.ev o st tm).holding.bindV pU.exc λb st1 u _ _=>Sim.stand ?_
 refine (pU.up (sim_attrSet H (tm:=(b,u)::tm) (.head _) (.tail _ hv)) zdH).cong λA s Q E hA C h=>za0 (zaH (zaZ h (λ_ _ h=>.of (wpAny_release h)) λ_ _ h=>h))
theorem isDict_nodup{prog:Program}{w:World}{o:Obj}{kvs:List (Byt×Value)}(h:o.IsDictOf (bytesKind prog w) kvs):(kvs.map (·.1)).Nodup:=by
 obtain ⟨_,_,_,_,_,_,h⟩:=h;exact h
section
variable{u w v:Value}{j:Nat}{ai ax:DV}
theorem set_dictI{es:List (Byt×Byt)}{k vv:Byt}(ho:getT st.objs j=some (.dict es))(hu:(AV.r j,u)∈tm)(hw:(AV.d (.bytes k),w)∈tm)(hv:(AV.d (.bytes vv),v)∈tm):
  Sim f tm st (some (.u,{st with objs:=setT st.objs j (.dict (dput k vv es)),obl:=st.obl++[es.length<1000000]})) (PySem.setItem u w v) (pU f tm):=by
 refine Sim.turnU ho zaL λhob A hA hh tk g m news Z ρ μ c b' d h1 h2 h3 Q E hq=>?_
 obtain ⟨rfl,hl,o,kvs,h4,h5,h6,h7⟩:=h3;obtain ⟨b'',h8,rfl⟩:=(show ∃b,ρ[j]?=some b/\u=.ref b from c.tmr _ hu)
 cases h1.symm.trans h8
 obtain ⟨_,t,rfl⟩:=(show k.length<=big/\∃t,w=.bytes k.toArray t from c.tmr _ hw)
 obtain ⟨hvl,t',rfl⟩:=(show vv.length<=big/\∃t,v=.bytes vv.toArray t from c.tmr _ hv)
 have hlast:=hob.last;refine kda_set (s:={f.s₀ with heap:=hh,toks:=tk}) c.fr c.nw (zgH c.rel.nd h4) h6 (bytesKind_is _ _ k t) (by rw[h7.len,sizeLine_eq];lia) λh' o' F' N' d'=>?_
 exact hq _ _ h' _ h4 F' N' ⟨rfl,Nat.le_trans dput_len (Nat.le_trans hlast (by decide)),o',_,zbD h4,h5,d',h7.put hvl (isDict_nodup h6)⟩
theorem set_listI{ty:Ty}{xs:List ty.den}{k:Int}{x:DV}{y:ty.den}(ho:getT st.objs j=some (.tl ty xs))(hy:ty.parse x=some y)(hu:(AV.r j,u)∈tm)(hw:(AV.d (.int k),w)∈tm)(hv:(AV.d x,v)∈tm):
  Sim f tm st (some (.u,{st with objs:=setT st.objs j (.tl ty (xs.set k.toNat y)),obl:=st.obl++[0<=k/\k<(xs.length:Int)]})) (PySem.setItem u w v) (pU f tm):=by
 refine Sim.turnU ho zaL λhob A hA hh tk g m news Z ρ μ c b' d h1 h2 h3 Q E hq=>?_
 obtain ⟨k1,k2⟩:=hob.last;obtain ⟨rfl,hl,vs,n,h4,h5⟩:=h3;obtain ⟨b'',h8,rfl⟩:=(show ∃b,ρ[j]?=some b/\u=.ref b from c.tmr _ hu)
 cases h1.symm.trans h8
 obtain ⟨t,rfl⟩:=(show ∃t,w=.int k t from c.tmr _ hw)
 have hv':VP f.cx.K (Fz f.cx.base Z) (plain x) v:=c.tmr _ hv;rw[plain_parse hy] at hv';have hvs:=h5.length;rw[List.length_map] at hvs;have hl':xs.length<=16000000:=hl;refine ki_setAt (s:={f.s₀ with heap:=hh,toks:=tk}) (c.nw _ h4).1 k1 (by lia) (by rw[List.size_toArray];lia) ?_
 have U:=zhW (o':=listOf (vs.set k.toNat v).toArray n) c.rel.nd h4;have F':=c.fr.change (h':=hh.update b' (Obj.mapSeq (·.setIfInBounds k.toNat v))) (Heap.SameBut.update ..) (c.nw _ h4).2.1 (c.nw _ h4).2.2
 have N':News g f.L (hh.update b' (Obj.mapSeq (·.setIfInBounds k.toNat v))) (zbQ b' (listOf (vs.set k.toNat v).toArray n) news):=by
  have N:=c.nw;generalize zbQ b' (listOf (vs.set k.toNat v).toArray n) news=news' at U;obtain ⟨pre,post,rfl,rfl,z1,z2⟩:=U.split;refine ki_turn _ N z1 z2 (Array.toList_inj.mp ?_) ?_
  ·rw[Array.toList_setIfInBounds]
  ·simp
 refine hq _ _ _ _ h4 F' N' ⟨rfl,by rw[List.length_set];exact hl,_,n,zbD h4,?_⟩
 rw[List.map_set];exact h5.set _ hv'
end
theorem sim_setItem{o i a:AV}{u w v:Value}(hu:(o,u)∈tm)(hw:(i,w)∈tm)(hv:(a,v)∈tm):Sim f tm st (Internal.setItem o i a st) (PySem.setItem u w v) (pU f tm):=by
 induction o with
 |d _=>exact Sim.none
 |r j=>
  refine zaI λo ho=>?_
  induction i with
  |r _=>exact Sim.none
  |d i=>
   induction a with
   |r _=>exact Sim.none
   |d x=>
    induction o with
    |dict es=>exact zaI λk hk=>zaI λvv hx=>by cases asD_byt hk;cases asD_byt hx;exact set_dictI ho hu hw hv
    |tl ty xs=>exact zaI λk hk=>zaI λy hy=>by cases asD_int hk;exact set_listI ho hy hu hw hv
    |_=>exact Sim.none
theorem zh0(I:IH f ih){o i:Expr}{pos:Pos}{a:AV}{v:Value}(hv:(a,v)∈tm):Sim f tm st (zaJ Sp lc ih (.asg (.Subscript o i pos) a) st) (assign (.Subscript o i pos) f.env v) (pU f tm):=by
 show Sim f tm st (zaK (ih (.ev o) st) λo st=>zaK (ih (.ev i) st) λi st=>Internal.setItem o i a st) (assign (.Subscript o i pos) f.env v) (pU f tm)
 rw[arm_assign_Subscript];refine (I.ev o st tm).holding.bindV pU.exc λb st1 u _ _=>?_
 refine (I.ev i st1 _).holding.bindV pU.exc λj st2 w _ _=>Sim.stand ?_
 exact (pU.up (sim_setItem (tm:=(j,w)::(b,u)::tm) (.tail _ (.head _)) (.head _) (.tail _ (.tail _ hv))) zhZ).cong λA s Q E hA C h=>za0 (zaH (zaZ h (λ_ _ h=>.of (wpAny_release h)) λ_ _ h=>h))
theorem zcS{e:Expr}{x:Str}(h:nameOf e=some x):e=.Name x (posOf e):=by
 induction e using Expr.casesOn with
 |Name y p=>injection h;rfl
 |_=>exact nn h
noncomputable def UNP(f:FC)(ih:Task->S->Out):Prop:=∀ts xs vs st tm,vs.length=xs.length->(∀p∈(xs.map AV.d).zip vs,p∈tm)->Sim f tm st (ih (.unp ts xs) st) (assignInOrder ((assignEach ts f.env).map (·.2)) vs) (pU f tm)
theorem step_unp(H:Hyp f Sp lc)(IU:UNP f ih){ts:List Expr}{xs:List DV}{vs:List Value}(l:vs.length=xs.length)(hm:∀p∈(xs.map AV.d).zip vs,p∈tm):
  Sim f tm st (zaJ Sp lc ih (.unp ts xs) st) (assignInOrder ((assignEach ts f.env).map (·.2)) vs) (pU f tm):=by
 induction ts using List.casesOn with
 |nil=>
  induction xs using List.casesOn with
  |cons _ _=>exact Sim.none
  |nil=>
   cases List.length_eq_zero_iff.mp l
   intro r st' e;injection e;exact ⟨rfl,λp hp=>hp,λhob A hA s Q E C hp=>za4 (hp s C)⟩
 |cons t ts=>
  induction xs using List.casesOn with
  |nil=>exact Sim.none
  |cons y xs=>
   refine zaI λx hx=>zc4 λq=>?_
   rw[zcS hx];induction vs using List.casesOn with
   |nil=>cases l
   |cons u vr=>
    intro r st' e;obtain ⟨z1,z2,z3⟩:=IU ts xs vr {st with env:=putE x (.d y) st.env} tm (Nat.succ.inj l) (λp hp=>hm p (.tail _ hp)) r st' e
    refine ⟨z1,z2,λhob A hA s Q E C hp=>?_⟩
    show wpB f.M A (holding vr (assign (.Name x (posOf t)) f.env u) >>= λ_=>assignInOrder ((assignEach ts f.env).map (·.2)) vr) Q E s
    exact za0 (zaH (.of (store_ok H q (hm (.d y,u) (.head _)) C λs' C'=>z3 hob A hA s' Q E C' hp)))
theorem assignEach_length:∀(es:List Expr) (env:Env),(assignEach es env).length=es.length:=by
 intro l;induction l with
 |nil=>exact @λ_=>rfl
 |cons e r ih=>exact @λenv=>by induction e using Expr.casesOn <;> exact congrArg (·+1) (ih env)
theorem zip_vps{K:Frag}{G:Addr->Obj->Prop}{ρ:List Addr}{xs:List DV}:∀{vs:List Value},VPs K G (zaU xs) vs->∀p∈(xs.map AV.d).zip vs,VA K G ρ p.1 p.2:=by
 induction xs with
 |nil=>intro vs _ p hp;exact nm hp
 |cons x r ih=>
  intro vs h p hp;obtain ⟨v,vr,rfl,h1,h2⟩:=h;rcases List.mem_cons.mp hp with rfl|hp
  ·exact h1
  ·exact ih h2 p hp
theorem step_asg_Tuple(IU:UNP f ih)(hst:∀(ts:List Expr) xs (st:S) r st',ih (.unp ts xs) st=some (r,st')->∀x∈assignEach ts f.env,x.1=false){ts:List Expr}{k:Nat}{pos:Pos}{a:AV}{v:Value}(hv:(a,v)∈tm):
  Sim f tm st (zaJ Sp lc ih (.asg (.Tuple ts k pos) a) st) (assign (.Tuple ts k pos) f.env v) (pU f tm):=by
 refine zaI λd e=>?_
 induction d using DV.casesOn with
 |tup xs=>
  refine zc4 λq=>?_
  obtain ⟨hh0,q⟩:=zb1 q;rw[Bool.not_eq_true'] at hh0;have q:=Nat.eq_of_beq_eq_true q;rw[arm_assign_Tuple];refine Sim.stand λr st' e1=>?_
  have hs:=hst _ _ _ _ _ e1;obtain ⟨z1,z2,_⟩:=IU ts xs (xs.map λ_=>.none) st ((xs.map AV.d).zip (xs.map λ_=>Value.none)++tm) (List.length_map ..) (λp hp=>List.mem_append_left _ hp) r st' e1
  refine ⟨z1,z2,λhob A hA s Q E C hp=>?_⟩
  obtain ⟨hh,tk,g,m,news,Z,ρ,μ,rfl,c⟩:=C;rcases zeJ e with rfl|⟨_,_,⟨_,_,h⟩|⟨_,_,_,h⟩⟩
  ·obtain ⟨b,o,vs,rfl,hG,ht,hl,hvs⟩:=(c.tmr _ hv:RefX (Fz f.cx.base Z) zfJ (zaU xs).length (VPs f.cx.K (Fz f.cx.base Z) (zaU xs)) v)
   have tup:=isTup_of (c.fz hG) ht;have hlen:vs.length=xs.length:=by rw[hvs.length,zaC,List.length_map]
   have hfi:(assignEach ts f.env).findIdx? (·.1)=none:=List.findIdx?_eq_none_iff.mpr λx hx=>by rw[hs x hx]
   unfold unpack;rw[hfi];refine za0 (zaH (.of (unpackItemsN_ (s:={f.s₀ with heap:=hh,toks:=tk}) c.fr c.nw tup (hA.hand hh0) (by rw[assignEach_length,q,List.size_toArray,hlen]) λh' F' N'=>?_)))
   exact (IU ts xs vs st ((xs.map AV.d).zip vs++tm) hlen (λp hp=>List.mem_append_left _ hp) r st' e1).3 hob A hA _ Q E ⟨h',tk,g,m,news,Z,ρ,μ,rfl,{c.step F' N' with tmr:=λp hp=>(List.mem_append.mp hp).elim (zip_vps hvs p) (c.tmr p)}⟩ (hp.sub λp hp=>List.mem_append_right _ hp)
  ·cases h
  ·cases h
 |_=>exact Sim.none
end
end
section
open PySem PySem.W PyProof.Rows PySem.SeqAt
open Sem (wp)
section
variable{f:FC}{Sp:Spec}{lc:Nms}{ih:Task->S->Out}{tm:List (AV×Value)}{st:S}
theorem MO.seq{cx:Cx}{news:Led}{G:Addr->Obj->Prop}{ρ:List Addr}{a d:Addr}{o:MObj}{l:List PV}(e:o.plain=some l):MO cx news G ρ a d o↔MSeq cx news G a d l.length l:=by
 induction o with
 |lst xs=>injection e;show MSeq _ _ _ _ _ _ _↔_;rw[zaC,List.length_map]
 |tl ty xs=>injection e;show MSeq _ _ _ _ _ _ _↔_;rw[List.length_map]
 |_=>exact nn e
theorem MO.rw{cx:Cx}{news:Led}{G:Addr->Obj->Prop}{ρ:List Addr}{a d:Addr}{o o':MObj}{l:List PV}(e:o.plain=some l)(e':o'.plain=some l)(h:MO cx news G ρ a d o):MO cx news G ρ a d o':=(MO.seq e').mpr ((MO.seq e).mp h)
structure RwOK(f:FC)(st st':S):Prop where
 h:st'.h=st.h
 obl:∀p∈st.obl,p∈st'.obl
 cfg:Holds st'.obl->∀tm s,Cfg f st.env st.objs tm s->Cfg f st'.env st'.objs tm s
theorem rw_env(H:Hyp f Sp lc){x:Str}{d0 d:DV}{env:Env'}{objs:Objs}{s:Shared}(e:lookD x env=some d0)(hd:plain d0=plain d)(C:Cfg f env objs tm s):Cfg f (putE x (.d d) env) objs tm s:=by
 obtain ⟨hh,tk,g,m,news,Z,ρ,μ,rfl,c⟩:=C;refine ⟨hh,tk,g,m,news,Z,ρ,μ,rfl,{c with envr:=λy av hy=>?_}⟩
 rw[look_putE] at hy;by_cases q:y=x
 ·subst q
  rw[if_pos rfl] at hy;injection hy;obtain ⟨a,e1,e⟩:=za3 e;induction a with
  |r _=>exact nn e
  |d z=>
   injection e;obtain ⟨v,k1,k2⟩:=c.envr _ _ e1;exact ⟨v,by show VP _ _ (plain d) v;rw[←hd];exact k1,k2⟩
 ·rw[if_neg q] at hy
  exact c.envr _ _ hy
theorem rw_obj{i:Nat}{o0 o:MObj}{l:List PV}{env:Env'}{objs:Objs}{s:Shared}(e:getT objs i=some o0)(e1:o0.plain=some l)(e2:o.plain=some l)(C:Cfg f env objs tm s):Cfg f env (setT objs i o) tm s:=by
 obtain ⟨hh,tk,g,m,news,Z,ρ,μ,rfl,c⟩:=C;have hi:i<objs.length:=by rw[ze8] at e;exact (List.getElem?_eq_some_iff.mp e).1
 refine ⟨hh,tk,g,m,news,Z,ρ,μ,rfl,{c with rel:={c.rel with lr:=by rw[zeR,List.length_set];exact c.rel.lr,lm:=by rw[zeR,List.length_set];exact c.rel.lm,ob:=λj x hx=>?_}}⟩
 rw[zeR] at hx;by_cases q:j=i
 ·subst q
  rw[List.getElem?_set_self hi] at hx;injection hx;obtain ⟨a,d,k1,k2,k3⟩:=c.obj e;exact ⟨a,d,k1,k2,k3.rw e1 e2⟩
 ·rw[List.getElem?_set_ne (Ne.symm q)] at hx
  exact c.rel.ob j x hx
theorem rewrites_ok(H:Hyp f Sp lc)(ans:List Ans):∀st:S,RwOK f st (zeS Sp ans st):=by
 induction ans with
 |nil=>exact λst=>⟨rfl,λp hp=>hp,λ_ tm s C=>C⟩
 |cons a r ih=>
  intro st;induction a with
  |re x d=>
   show RwOK f st (match lookD x st.env with
    |some d0=>zeS Sp r {st with env:=putE x (.d d) st.env,ans:=r,obl:=st.obl++[Sp.sameD d0 d]}
    |none=>{st with ans:=.re x d::r})
   induction e:lookD x st.env with
   |none=>exact ⟨rfl,λp hp=>hp,λ_ tm s C=>C⟩
   |some d0=>
    have y:=ih {st with env:=putE x (.d d) st.env,ans:=r,obl:=st.obl++[Sp.sameD d0 d]}
    exact ⟨y.h,λp hp=>y.obl p (zaL p hp),λhob tm s C=>y.cfg hob tm s (rw_env H e (H.sameD _ _ (hob.sub y.obl).last) C)⟩
  |reo i o=>
   show RwOK f st (match getT st.objs i with
    |some o0=>zeS Sp r {st with objs:=setT st.objs i o,ans:=r,obl:=st.obl++[Sp.sameO o0 o]}
    |none=>{st with ans:=.reo i o::r})
   induction e:getT st.objs i with
   |none=>exact ⟨rfl,λp hp=>hp,λ_ tm s C=>C⟩
   |some o0=>
    have y:=ih {st with objs:=setT st.objs i o,ans:=r,obl:=st.obl++[Sp.sameO o0 o]}
    refine ⟨y.h,λp hp=>y.obl p (zaL p hp),λhob tm s C=>y.cfg hob tm s ?_⟩
    obtain ⟨l,e1,e2⟩:=H.sameO _ _ (hob.sub y.obl).last;exact rw_obj e e1 e2 C
  |_=>exact ⟨rfl,λp hp=>hp,λ_ tm s C=>C⟩
theorem Sim.rw(H:Hyp f Sp lc){α:Type}{o:Out}{c:Sem α}{post:Pst α}(x:Sim f tm (zeS Sp st.ans st) o c post):Sim f tm st o c post:=λr st' e=>
 let ⟨h1,h2,h3⟩:=x r st' e
 let ⟨k1,k2,k3⟩:=rewrites_ok H st.ans st
 ⟨h1.trans k1,λp hp=>h2 p (k2 p hp),λhob A hA s Q E C hp=>h3 hob A (hA.h k1) s Q E (k3 (hob.sub h2) tm s C) hp⟩
theorem sim_f{fl:Fl}{w:Flow}(h:∀s' Q E,Cfg f st.env st.objs tm s'->pF f (.fl fl) st Q E->Q w s'):Sim f tm st (some (.fl fl,st)) (pure w) (pF f):=λr st' e=>by
 injection e;exact ⟨rfl,λp hp=>hp,λhob A hA s Q E C hp=>za4 (h s Q E C hp)⟩
theorem zh2:Sim f tm st (some (.fl .next,st)) (pure .next) (pF f):=sim_f λs' Q E C hp=>hp s' (C.drop λ_ h=>by injection h)
theorem zi1{pos:Pos}{w:Flow}{fl:Fl}(h:Sim f tm st (some (.fl fl,st)) (pure w) (pF f)):Sim f tm st (some (.fl fl,st)) (standAt pos >>= λ_=>pure w) (pF f):=Sim.stand (c:=λ_=>pure w) h
theorem step_Pass{pos:Pos}:Sim f tm st (some (.fl .next,st)) (exec (.Pass pos) f.env) (pF f):=zi1 zh2
theorem step_Break{pos:Pos}:Sim f tm st (some (.fl .brk,st)) (exec (.Break pos) f.env) (pF f):=zi1 (sim_f λs' Q E C hp=>hp s' (C.drop λ_ h=>by injection h))
theorem step_Continue{pos:Pos}:Sim f tm st (some (.fl .cont,st)) (exec (.Continue pos) f.env) (pF f):=zi1 (sim_f λs' Q E C hp=>hp s' (C.drop λ_ h=>by injection h))
theorem fc_interactive:interactive f.env=false:=by
 unfold interactive;have:f.env.scope.kind=.function:=f.hk;rw[this];rfl
theorem swaps_no{e:Expr}{t:Option Expr}{ln:Nat}{env:Env}(h:noComp e=true):swapsWith e t ln env=pure false:=by
 induction e using Expr.casesOn with
 |ListComp _ _ _ _|SetComp _ _ _ _|DictComp _ _ _ _ _=>injection h
 |_=>rfl
theorem step_Expr(I:IH f ih){e:Expr}{pos:Pos}:Sim f tm st (match noComp e with
   |false=>none
   |true=>zaK (ih (.ev e) st) λ_ st=>some (.fl .next,st)) (exec (.Expr e pos) f.env) (pF f):=by
 induction q:noComp e with
 |false=>exact Sim.none
 |true=>
  rw[arm_exec_Expr];refine Sim.stand ?_
  rw[fc_interactive,swaps_no q];refine Sim.cong (c:=eval e f.env >>= λv=>dropValue e pos v) ?_ λA s Q E hA C h=>za0 (za4 h)
  refine (I.ev e st tm).bindV pF.exc λa st1 v _ _=>?_
  intro r st' e';injection e';exact ⟨rfl,λp hp=>hp,λhob A hA s Q E C hp=>.of (wpAny_dropValue (hp s (C.drop λ_ h=>by injection h)))⟩
theorem step_Return(I:IH f ih){e:Expr}{pos:Pos}:Sim f tm st (zaK (ih (.ev e) st) λa st=>some (.fl (.ret a),st)) (exec (.Return (some e) pos) f.env) (pF f):=by
 rw[arm_exec_Return];refine Sim.stand ?_
 show Sim f tm st _ (eval e f.env >>= λx=>pure (Flow.ret x)) _
 refine (I.ev e st tm).bindV pF.exc λa st1 v _ _=>?_
 intro r st' e';injection e';exact ⟨rfl,λp hp=>hp,λhob A hA s Q E C hp=>za4 (hp v s (C.drop λp hp=>by rw[List.mem_singleton.mp hp];exact .head _))⟩
theorem isLst_not{t e:Expr}{env:Env}(h1:isLst t=false)(h2:isTup t=false):swappedStores [t] e env=pure none:=by
 induction t using Expr.casesOn with
 |List _ _=>exact ff h1.symm
 |Tuple _ _ _=>exact ff h2.symm
 |_=>rfl
theorem isTup_not{ts:List Expr}{k:Nat}{p:Pos}{e:Expr}{env:Env}(h:isTup e=false):swappedStores [.Tuple ts k p] e env=pure none:=by
 induction e using Expr.casesOn with
 |Tuple _ _ _=>exact ff h.symm
 |_=>rfl
theorem isTup_some{t:Expr}(h:isTup t=true):∃ts k p,t=.Tuple ts k p:=by
 induction t using Expr.casesOn with
 |Tuple ts k p=>exact ⟨ts,k,p,rfl⟩
 |_=>exact ff h
theorem swapped_none{t e:Expr}{env:Env}(h:noSwap t e=true):swappedStores [t] e env=pure none/\∀ln,swapsWithSole [t] e ln env=pure false:=by
 obtain ⟨hc,h⟩:=Bool.and_eq_true_iff.mp h;obtain ⟨h1,h2⟩:=Bool.and_eq_true_iff.mp h;refine ⟨?_,λln=>swaps_no hc⟩
 rw[Bool.not_eq_true'] at h1;induction q:isTup t with
 |false=>exact isLst_not h1 q
 |true=>
  rw[q,Bool.true_and,Bool.not_eq_true'] at h2;obtain ⟨ts,k,p,rfl⟩:=isTup_some q;exact isTup_not h2
theorem noSwap_each{t e:Expr}{env:Env}(hs:∀x p,t≠.Starred x p):assignEach [t] env=[(false,assign t env)]:=by
 induction t using Expr.casesOn <;> first|rfl|exact absurd rfl (hs _ _)
noncomputable def NST(ih:Task->S->Out):Prop:=∀x p a st,ih (.asg (.Starred x p) a) st=none
theorem step_Assign(I:IH f ih)(IN:NST ih){t e:Expr}{pos:Pos}:Sim f tm st (match noSwap t e with
   |false=>none
   |true=>zaK (ih (.ev e) st) λa st=>thenU (ih (.asg t a) st) λst=>some (.fl .next,st)) (exec (.Assign [t] e pos) f.env) (pF f):=by
 induction q:noSwap t e with
 |false=>exact Sim.none
 |true=>
  obtain ⟨h1,h2⟩:=swapped_none (env:=f.env) q;by_cases hs:∃x p,t=.Starred x p
  ·obtain ⟨x,p,rfl⟩:=hs
   intro r st' e';rcases zhY e' with ⟨a,st1,e1,e2⟩|⟨m,y,e1,rfl⟩
   ·rw[IN] at e2;exact nn e2
   ·rw[arm_exec_Assign,h2,h1]
    obtain ⟨z1,z2,z3⟩:=I.ev e st tm _ _ e1;exact ⟨z1,z2,λhob A hA s Q E C hp=>za0 (zaS (za0 (za4 (za0 (z3 hob A hA s _ E C hp)))))⟩
  rw[arm_exec_Assign,h2,h1];refine Sim.stand ?_
  refine Sim.cong (c:=eval e f.env >>= λv=>assign t f.env v >>= λ_=>pure Flow.next) ?_ λA s Q E hA C h=>?_
  ·refine (I.ev e st tm).bindV pF.exc λa st1 v _ _=>?_
   exact (I.asg t a v st1 _ (.head _)).bindU pF.exc λst2 _ _=>zh2
  ·refine za0 (za4 ?_)
   refine zgY h λv Γ p s' y=>?_
   rw[noSwap_each (e:=e) λx p ht=>hs ⟨x,p,ht⟩]
   exact y
theorem intA_some{a:AV}{i:Int}(h:intA a=some i):a=.d (.int i):=by
 induction a with
 |r _=>exact nn h
 |d x=>cases int?_eq h;rfl
theorem augop_ok{op:Operator}{a b:AV}{u w:Value}{i:Int}(e:augop op a b=some i){A:Around}{s:Shared}{Q:Value->Shared->Prop}{E:Value->Shared->Prop}(C:Cfg f st.env st.objs tm s)(hu:(a,u)∈tm)(hw:(b,w)∈tm)
  (h:∀v tk,(∃t,v=.int i t)->Q v {s with toks:=tk}):wpAny f.M A (inplaceOp op u w) Q E s:=by
 obtain ⟨x,e1,e⟩:=za3 e;obtain ⟨y,e2,e⟩:=za3 e;cases intA_some e1
 cases intA_some e2
 obtain ⟨t,rfl⟩:=C.int hu;obtain ⟨t',rfl⟩:=C.int hw;induction op with
 |Add=>injection e;exact AutoIntOps.iadd_0 (h _ (s.toks+1) ⟨_,rfl⟩)
 |BitOr=>injection e;exact ior_int (h _ (s.toks+1) ⟨_,rfl⟩)
 |_=>exact nn e
theorem load_ok(H:Hyp f Sp lc){x:Str}{a:AV}(hx:hasS x lc.1=true)(h:look x st.env=some a){A:Around}{s:Shared}{Q:Value->Shared->Prop}{E:Value->Shared->Prop}(C:Cfg f st.env st.objs tm s)
  (hq:∀v,Cfg f st.env st.objs ((a,v)::tm) s->Q v s):wpAny f.M A (loadName f.env x) Q E s:=by
 obtain ⟨hh,tk,g,m,news,Z,ρ,μ,rfl,c⟩:=C;obtain ⟨v,hv,hl⟩:=c.envr _ _ h;have fin:Q v {f.s₀ with heap:=hh,toks:=tk}:=hq v ⟨hh,tk,g,m,news,Z,ρ,μ,rfl,c.tmp hv⟩
 rcases hl with ⟨h1,h2⟩|⟨h1,cc,o,h2,h3,h4⟩
 ·exact wpAny_loadName_local (env:=f.env) f.hk h1 c.fr.ns h2 fin
 ·exact wpAny_loadName_cell (env:=f.env) f.hk h1 h2 ⟨o,c.nw.get h3,h4⟩ fin
theorem step_AugName(H:Hyp f Sp lc)(I:IH f ih){x:Str}{p:Pos}{op:Operator}{e:Expr}{pos:Pos}:Sim f tm st (bsel (hasS x lc.1) (opb (look x st.env) λa=>zaK (ih (.ev e) st) λb st=>opb (augop op a b) λi=>some (.fl .next,{st with env:=putE x (.d (.int i)) st.env})) none) (exec (.AugAssign (.Name x p) op e pos) f.env) (pF f):=by
 refine zc4 λhx=>zaI λa ha=>?_
 rw[arm_exec_AugAssign];refine Sim.stand ?_
 have body:∀u,Sim f ((a,u)::tm) st (zaK (ih (.ev e) st) λb st=>opb (augop op a b) λi=>some (.fl .next,{st with env:=putE x (.d (.int i)) st.env})) (holding [u] (eval e f.env) >>= λv=>standAt pos >>= λ_=>operate [u,v] (inplaceOp op u v) >>= λnew=>standAt p >>= λ_=>bindName f.env x new >>= λ_=>pure Flow.next) (pF f):=by
  intro u;refine (I.ev e st _).holding.bindV pF.exc λb st1 w _ _=>Sim.stand (zaI λi ei=>?_)
  intro r st' e';injection e';refine ⟨rfl,λp hp=>hp,λhob A hA s Q E C hp=>?_⟩
  refine za8 (wpAny_operate' (augop_ok (st:=st1) ei C (.tail _ (.head _)) (.head _) λv tk hv=>?_))
  have C':Cfg f st1.env st1.objs ((.d (.int i),v)::(b,w)::(a,u)::tm) {s with toks:=tk}:=C.tmp tk λG=>hv
  exact za0 (zaS (za8 (wpAny_bindName (storeN_ok H hx (.head _) C' λs' C''=>za4 (hp s' (C''.drop λ_ h=>nm h))))))
 intro r st' e';obtain ⟨z1,z2,z3⟩:=body .none r st' e';exact ⟨z1,z2,λhob A hA s Q E C hp=>za8 (load_ok H hx ha C λv C'=>(body v r st' e').3 hob A hA s Q E C' hp)⟩
end
end
section
open PySem PySem.W PyProof.Rows PySem.SeqAt
open Sem (wp)
section
variable{f:FC}{Sp:Spec}{lc:Nms}{ih:Task->S->Out}{tm:List (AV×Value)}{st:S}
theorem step_AugAttr(H:Hyp f Sp lc)(I:IH f ih){o:Expr}{x:Str}{p:Pos}{op:Operator}{e:Expr}{pos:Pos}:Sim f tm st (zaK (ih (.ev o) st) λo st=>zaK (attrGet o x st) λa st=>zaK (ih (.ev e) st) λb st=>opb (augop op a b) λi=>thenU (attrSet Sp o x (.d (.int i)) st) λst=>some (.fl .next,st)) (exec (.AugAssign (.Attribute o x p) op e pos) f.env) (pF f):=by
 rw[arm_exec_AugAssign_2];refine Sim.stand ?_
 refine Sim.cong (c:=eval o f.env >>= λov=>standAt p.atName >>= λ_=>getAttr ov x true >>= λold=>holding [old] (eval e f.env) >>= λv=>standAt pos >>= λ_=>operate [old,v] (inplaceOp op old v) >>= λnew=>
  standAt p.atName >>= λ_=>holding [new,ov] (setAttr ov x new) >>= λ_=>release [new,ov] [] >>= λ_=>pure Flow.next) ?_ λA s Q E hA C h=>?_
 ·refine (I.ev o st tm).bindV pF.exc λov st1 u _ _=>Sim.stand ?_
  refine (sim_attrGet (tm:=(ov,u)::tm) (.head _)).bindV pF.exc λa st2 old _ _=>?_
  refine (I.ev e st2 _).holding.bindV pF.exc λb st3 w _ _=>Sim.stand (zaI λi ei=>?_)
  have S1:∀v,Sim f ((.d (.int i),v)::(b,w)::(a,old)::(ov,u)::tm) st3 (thenU (attrSet Sp ov x (.d (.int i)) st3) λst=>some (.fl .next,st)) (holding [v,u] (setAttr u x v) >>= λ_=>release [v,u] [] >>= λ_=>pure Flow.next) (pF f):=λv=>
   (sim_attrSet H (tm:=(.d (.int i),v)::(b,w)::(a,old)::(ov,u)::tm) (.tail _ (.tail _ (.tail _ (.head _)))) (.head _)).holding.bindU pF.exc λst4 _ _=>(zh2).cong λA s Q E hA C h=>za8 (wpAny_release h)
  intro r st' e';obtain ⟨z1,z2,_⟩:=S1 .none r st' e';refine ⟨z1,z2,λhob A hA s Q E C hp=>?_⟩
  exact za8 (wpAny_operate' (augop_ok (st:=st3) ei C (.tail _ (.head _)) (.head _) λv tk hv=>za0 (zaS ((S1 v r st' e').3 hob A hA _ Q E (C.tmp tk λG=>hv) hp))))
 ·refine zgY h λov Γ q s' y=>?_
  simp only[Sem.wp_bind',Sem.wp_holding] at y ⊢;exact y
theorem step_If(I:IH f ih){c:Expr}{a b:List Stmt}{pos:Pos}(IX:∀ss st,Sim f tm st (ih (.exs ss) st) (execs ss f.env) (pF f)):Sim f tm st (thenB (ih (.tst c) st) λc st=>match c with|true=>ih (.exs a) st|false=>ih (.exs b) st) (exec (.If c a b pos) f.env) (pF f):=by
 rw[arm_exec_If];refine Sim.stand ?_
 refine (I.tst c st tm).bindB pF.exc λx st1 _ _=>?_
 induction x with
 |true=>exact IX a st1
 |false=>exact IX b st1
theorem flow_on{c:Sem Flow}{r:Res}(hn:r≠.fl .next){A:Around}{Q:Flow->Shared->Prop}{E:Value->Shared->Prop}(hp:pF f r st Q E):pF f r st (λx s=>wpB f.M A (match x with|.next=>c|x=>pure x) Q E s) E:=by
 induction r with
 |fl w=>
  induction w with
  |next=>exact absurd rfl hn
  |brk=>exact λs' C'=>za4 (hp s' C')
  |cont=>exact λs' C'=>za4 (hp s' C')
  |ret a=>exact λv s' C'=>za4 (hp v s' C')
  |exc c=>exact hp
 |_=>exact hp
theorem step_exs(I:IH f ih){ss:List Stmt}:Sim f [] st (zaJ Sp lc ih (.exs ss) st) (execs ss f.env) (pF f):=by
 induction ss using List.casesOn with
 |nil=>exact zh2
 |cons s r=>
  rw[arm_execs_cons];intro res st' e;obtain ⟨⟨r1,st1⟩,q,e⟩:=za3 e;obtain ⟨h1,h2,h3⟩:=I.ex s st _ _ q;by_cases hn:r1=.fl .next
  ·subst hn
   obtain ⟨k1,k2,k3⟩:=I.exs r st1 _ _ e;exact ⟨k1.trans h1,λp hp=>k2 p (h2 p hp),λhob A hA s Q E C hp=>za0 (h3 (hob.sub k2) A hA s _ E C λs' C'=>k3 hob A (hA.h h1) s' Q E C' hp)⟩
  ·have e2:r1=res/\st1=st':=by
    induction r1 with
    |fl w=>
     induction w with
     |next=>exact absurd rfl hn
     |_=>exact Prod.mk.inj (Option.some.inj e)
    |_=>exact Prod.mk.inj (Option.some.inj e)
   obtain ⟨rfl,rfl⟩:=e2;exact ⟨h1,h2,λhob A hA s Q E C hp=>za0 (h3 hob A hA s _ E C (flow_on hn hp))⟩
theorem sim_delItem{o i:AV}{u w:Value}(hu:(o,u)∈tm)(hw:(i,w)∈tm):Sim f tm st (thenU (opb (Internal.delItem o i st) λp=>some (.u,p.2)) λst=>some (.fl .next,st)) (holding [u,w] (PySem.delItem u w) >>= λ_=>release [u,w] [] >>= λ_=>pure Flow.next) (pF f):=by
 have S1:Sim f tm st (opb (Internal.delItem o i st) λp=>some (.u,p.2)) (PySem.delItem u w) (pU f tm):=by
  induction o with
  |d _=>exact Sim.none
  |r j=>
   induction i with
   |r _=>exact Sim.none
   |d i=>
    refine zaI λp hp=>?_
    obtain ⟨k,hk,hp⟩:=za3 hp;obtain ⟨ob,ho,hp⟩:=za3 hp;cases asD_byt hk
    induction ob with
    |dict es=>
     injection hp;refine Sim.turnU ho zaL λhob A hA hh tk g m news Z ρ μ c b' d h1 h2 h3 Q E hq=>?_
     obtain ⟨rfl,hl,oo,kvs,h4,h5,h6,h7⟩:=h3;obtain ⟨b'',h8,rfl⟩:=(show ∃b,ρ[j]?=some b/\u=.ref b from c.tmr _ hu)
     cases h1.symm.trans h8
     obtain ⟨_,t,rfl⟩:=(show k.length<=big/\∃t,w=.bytes k.toArray t from c.tmr _ hw)
     have hsome:(valueAt kvs k).isSome=true:=by
      have kv:=zfU h7 k;have hl:=hob.last;induction q:dget k es with
      |none=>rw[q] at hl;exact ff hl
      |some x=>rw[q] at kv;obtain ⟨_,t',e⟩:=kv;rw[e];rfl
     have hl':es.length<=16000000:=hl;refine kob_del (s:={f.s₀ with heap:=hh,toks:=tk}) c.fr c.nw (zgH c.rel.nd h4) h6 (bytesKind_is _ _ k t) hsome (by rw[h7.len,sizeLine_eq];lia) λh' o' F' N' d'=>?_
     exact hq _ _ h' _ h4 F' N' ⟨rfl,Nat.le_trans ddel_len hl,o',_,zbD h4,h5,d',h7.del (by rw[←h7.keys];exact isDict_nodup h6)⟩
    |_=>exact nn hp
 exact S1.holding.bindU pF.exc λst4 _ _=>(zh2).cong λA s Q E hA C h=>za8 (wpAny_release h)
theorem del_same{o i:AV}:Internal.delItem o i st=thenU (opb (Internal.delItem o i st) λp=>some (.u,p.2)) λst=>some (.fl .next,st):=by
 have go:∀{x:Out},(∀p,x=some p->p.1=.fl .next)->x=thenU (opb x λp=>some (.u,p.2)) λst=>some (.fl .next,st):=by
  intro x h;induction x with
  |none=>rfl
  |some p=>exact congrArg (λr=>some (r,p.2)) (h p rfl)
 refine go λp hp=>?_
 induction o with
 |d _=>exact nn hp
 |r j=>
  induction i with
  |r _=>exact nn hp
  |d i=>
   obtain ⟨k,_,hp⟩:=za3 hp;obtain ⟨ob,_,hp⟩:=za3 hp;induction ob with
   |dict es=>injection hp;rfl
   |_=>exact nn hp
theorem step_Delete(I:IH f ih){o i:Expr}{p pos:Pos}:Sim f tm st (zaK (ih (.ev o) st) λo st=>zaK (ih (.ev i) st) λi st=>Internal.delItem o i st) (exec (.Delete [.Subscript o i p] pos) f.env) (pF f):=by
 rw[arm_exec_Delete,arm_deleteEach_cons,arm_delete_Subscript,arm_deleteEach_nil];refine Sim.stand ?_
 refine Sim.cong (c:=eval o f.env >>= λov=>holding [ov] (eval i f.env) >>= λiv=>standAt p >>= λ_=>holding [ov,iv] (PySem.delItem ov iv) >>= λ_=>release [ov,iv] [] >>= λ_=>pure Flow.next) ?_ λA s Q E hA C h=>?_
 ·refine (I.ev o st tm).bindV pF.exc λb st1 u _ _=>?_
  refine (I.ev i st1 _).holding.bindV pF.exc λj st2 w _ _=>Sim.stand ?_
  rw[del_same];exact sim_delItem (.tail _ (.head _)) (.head _)
 ·intro Γ q h1 h2 h3
  have y:=h Γ q h1 h2 h3;simp only[Sem.wp_bind'] at y ⊢;exact y
end
end
section
open PySem PySem.W PyProof.Rows PySem.SeqAt
open Sem (wp)
noncomputable def mroHas(K:Frag)(C D:Addr):Bool:=match K.lookup C with
 |some ⟨_,_,.cls cd,_⟩=>cd.mro.contains (.ref D)
 |_=>false
noncomputable abbrev bmE:List Value:=[.type "Exception",.type "BaseException",.type "object"]
structure HypE(K:Frag):Prop where
 cls:∀x,hasS x excNames=true->∃C,nsIn K mainGlobals x=some (some (.ref C))/\excIn K C bmE "Exception.__new__"=true/\keepIn K (.ref C)=true
 sub:∀c x C D,hasS c excNames=true->hasS x excNames=true->nsIn K mainGlobals c=some (some (.ref C))->nsIn K mainGlobals x=some (some (.ref D))->mroHas K C D=exSub c x
theorem clsA_of{K:Frag}{c:Str}{C:Addr}(h:nsIn K mainGlobals c=some (some (.ref C))):clsA K c=some C:=by unfold clsA;rw[h]
inductive ExcObj(K:Frag)(h:Heap)(C:Addr)(bmB:List Value)(newId:String):Prop
 |mk (bm:List Value) (N:Addr) (nm qn bs hdct sn sub ab col dd k0 k1 k2 k3 k5) (mN:Str->Option Value)
  (h1:h.get? C=some (excClassObj nm qn C N bs bm hdct sn sub ab col dd k0 k1 k2 k3 k5 newId)) (h2:h.Ns N mN) (h3:mN "__init__"=none) (h4:OwnTail h bmB bm) (h5:∀D,mroHas K C D=(Value.ref C::bm).contains (.ref D))
theorem exc_obj{K:Frag}{h:Heap}{mg mb:Str->Option Value}{p:Program}{loose:List Str}{x:Str}{C:Addr}{bmB:List Value}{newId:String}(X:K.In h)(T:TopRead p loose mg mb h)(e:nsIn K mainGlobals x=some (some (.ref C)))(q:excIn K C bmB newId=true):
  ExcObj K h C bmB newId:=by
 obtain ⟨bm,N,nm,qn,bs,hdct,sn,sub,ab,col,dd,k0,k1,k2,k3,k5,mN,hC,hN,hni,TL⟩:=(own_of_in X T e q).obj;refine ⟨bm,N,nm,qn,bs,hdct,sn,sub,ab,col,dd,k0,k1,k2,k3,k5,mN,hC,hN,hni,TL,λD=>?_⟩
 induction hl:K.lookup C with
 |none=>unfold excIn at q;rw[hl] at q;injection q
 |some o=>
  have:=X _ _ hl;rw[hC] at this;injection this;unfold mroHas;rw[hl]
section
variable{prog:Program}{w:World}{A:Around}{E:Value->Shared->Prop}{s:Shared}{env:Env}
theorem raise_split{x:Sem Value}:raiseStmt env (some x) none=x >>= λv=>raiseStmt env (some (pure v)) none:=by
 show (x >>= λxv=>_)=x >>= λv=>(pure v >>= λxv=>_)
 congr 1
theorem entry_unchain:entryFor table "proto.unchain"=some Builtin.«proto.unchain»:=entryFor_of_fast (by kernel_rfl)
theorem code_builtin{id:String}{args:Args}{b:Builtin}{R:Result->Shared->Prop}(hb:entryFor table id=some b)
  (h:wpAny (model prog w) (A.under (.builtin id args)) (b args) (λfin s'=>match fin with|.done f=>R (.ok f) s'|.again c'=>c'.quiet=true/\codeAny (model prog w) A c' R s') (λe s'=>R (.error e) s') s) :
  codeAny (model prog w) A (.builtin id args) R s:=by
 refine codeAny_of_tree ?_
 show wpAny _ _ (match entryFor table id with|some b=>b args|none=>unsupported ((withoutEnding? id "#data").getD id)) _ _ s
 rw[hb];exact h
theorem unchain_none{e hd:Value}{Q:Value->Shared->Prop}{a:Addr}{od:Obj}{ws:Array Value}(ho:s.heap.get? a=some od)(hw:od.data=.fields ws)(h2:ws[2]?=some .none)(h:Q .none s):
  wpAny (model prog w) A (runValue (.builtin "proto.unchain" ⟨[e,.ref a,hd,.bool false],[]⟩)) Q E s:=by
 refine wpAny_runValue (code_builtin entry_unchain ?_);unfold Builtin.«proto.unchain»;dsimp only;refine wpAny_bind (wpAny_field ho hw h2 ?_);rw[if_pos (by decide)]
 exact wpAny_pure h
end
section
variable{prog:Program}{w:World}{A:Around}{E:Value->Shared->Prop}{s:Shared}{env:Env}
variable{nm q:Str}{C N:Addr}{bs bm:List Value}{hdct:Bool}{sn:List Str}{sub:List Value}{ab:Bool}{col:Option Bool}{dd:Option Addr}{k0 k1 k2 k3 k5:Option Value}{newId:String}
theorem raise_handled {hd e t:Addr} {Q:Flow->Shared->Prop} {od:Obj} {ws:Array Value} (hbase:bm.contains (.type "BaseException")=true) (hh:A.handled=some (.ref hd)) (hC:s.heap.get? C=some (excClassObj nm q C N bs bm hdct sn sub ab col dd k0 k1 k2 k3 k5 newId))
  (he:s.heap.get? e=some {cls:=.ref C,data:=.fields #[.ref t,.none,.none,.none,.bool false,.none]}) (ne:hd≠e) (ho:s.heap.get? hd=some od) (hw:od.data=.fields ws) (h2:ws[2]?=some .none)
  (h:∀h',h'.get? e=some {cls:=.ref C,data:=.fields #[.ref t,.none,.ref hd,.none,.bool false,.none]}->(∀b,b≠e->h'.get? b=s.heap.get? b)->E (.ref e) {s with heap:=h'}) :
  wpAny (model prog w) A (raiseStmt env (some (pure (.ref e))) none) Q E s:=by
 have hcB:(Value.ref C::bm).contains (.type "BaseException")=true:=by rw[List.contains_cons,hbase,Bool.or_true]
 unfold raiseStmt;refine wpAny_bind (wpAny_pure ?_);obtain ⟨hp,g,d,tk,os⟩:=s
 repeat (first|with_reducible refine wpAny_loadPart_at he ?_|with_reducible refine wpAny_loadPart_at hC ?_|(with_reducible refine wpAny_isSubtype_exc hC ?_;rw[hcB])|wp_step)
 unfold raiseNew;refine wpAny_bind (wpAny_handled ?_);rw[hh];dsimp only;rw[if_pos (show ((Value.ref hd != Value.ref e)=true) from by simp[ne])]
 refine wpAny_bind (wpAny_holding (unchain_none ho hw h2 (wpAny_bind ?_)));unfold updateField;refine wpAny_bind (wpAny_load he ?_);dsimp only;rw[if_pos (by simp)]
 refine wpAny_update he (wpAny_throw (h _ ?_ λb hb=>Heap.get?_update_other _ _ (Ne.symm hb)))
 exact Heap.get?_update_self _ he rfl
end
end
section
open PySem PySem.W PyProof.Rows PySem.SeqAt
open Sem (wp)
section
variable{f:FC}{Sp:Spec}{lc:Nms}{ih:Task->S->Out}{tm:List (AV×Value)}{st:S}
theorem make_exc(HE:HypE f.cx.K){x:Str}(hx:hasS x excNames=true):∃C,nsIn f.cx.K mainGlobals x=some (some (.ref C))/\clsA f.cx.K x=some C/\FnVal f.cx x (.ref C) /\
  ∀{env:Env'} {objs:Objs} {tm:List (AV×Value)} {hh:Heap} {tk:Nat} {g:Heap} {m:Str->Option Value} {news Z:Led} {ρ μ:List Addr} (_:Core f g m news Z ρ μ env objs tm hh) {vs:List Value} (_:vs.length<=100) {A:Around} {Q:Value->Shared->Prop} {E:Value->Shared->Prop},
   (∀h' e,Heap.MadeExcOf hh h' e (.ref C) vs->Q (.ref e) {f.s₀ with heap:=h',toks:=tk})->wpAny f.M A (call (.ref C) vs) Q E {f.s₀ with heap:=hh,toks:=tk}:=by
 obtain ⟨C,h1,h2,h3⟩:=HE.cls x hx;refine ⟨C,h1,clsA_of h1,.inl ⟨h1,h3⟩,λ{env objs tm hh tk g m news Z ρ μ} c {vs} hl {A Q E} hq=>?_⟩
 obtain ⟨bm,N,nm,qn,bs,hdct,sn,sub,ab,col,dd,k0,k1,k2,k3,k5,mN,hC,hN,hni,TL,_⟩:=exc_obj c.X c.TR h1 h2;exact wpAny_call_exc_subU PySem.F.excBase_Exception (by decide +kernel) PySem.F.excBase_Exception (TL.keeps c.fr.keep) (c.fr.keep _ _ hC) (hN.keeps c.fr.keep) hni hq (Nat.le_trans hl (by decide +kernel))
theorem step_Raise(H:Hyp f Sp lc)(HE:HypE f.cx.K)(I:IH f ih)(IL:LEN ih){x:Str}{np cpos pos:Pos}{as:List Expr}:
  Sim f [] st (match hasS x lc.2&&hasS x excNames&&(zf7 as&&(Nat.ble as.length 100&&!st.h)) with
   |false=>none
   |true=>zc8 (ih (.evs as) st) λ_ st=>some (.exc true x,st)) (exec (.Raise (some (.Call (.Name x np) as [] cpos)) none pos) f.env) (pF f):=by
 induction q:hasS x lc.2&&hasS x excNames&&(zf7 as&&(Nat.ble as.length 100&&!st.h)) with
 |false=>exact Sim.none
 |true=>
  obtain ⟨q,q2⟩:=zb1 q;obtain ⟨hx,hxe⟩:=zb1 q;obtain ⟨hs,q2⟩:=zb1 q2;obtain ⟨hn,hh⟩:=zb1 q2;have hn:=Nat.le_of_ble_eq_true hn;have hh:st.h=false:=by induction e:st.h with|false=>rfl|true=>rw[e] at hh;injection hh
  have hp:=zfW (pos:=cpos) (env:=f.env) hs;obtain ⟨C,hC1,hC2,hv,mk⟩:=make_exc HE hxe;intro r st' e
  have key:∀{A s} {Q:Flow->Shared->Prop} {E:Value->Shared->Prop},wpB f.M A (callWith cpos (.ref C) [] (backTo cpos (starEach as f.env)) []) (λv s'=>wpB f.M A (raiseStmt f.env (some (pure v)) none) Q E s') E s->Cfg f st.env st.objs [] s ->
    wpB f.M A (exec (.Raise (some (.Call (.Name x np) as [] cpos)) none pos) f.env) Q E s:=by
   intro A s Q E h C';rw[arm_exec_Raise];refine za0 (zaS ?_);show wpB f.M A (raiseStmt f.env (some (eval (.Call (.Name x np) as [] cpos) f.env >>= λv=>standAt pos >>= λ_=>pure v)) none) Q E s
   rw[raise_split];refine za0 (za0 ?_);rw[arm_eval_Call_Name'];refine za8 (hv.name H hx C' ?_);exact zaZ h (λv s' h'=>za0 (zaS (za4 h'))) λ_ _ y=>y
  rcases zeP e with ⟨bs,st1,e1,e2⟩|⟨k,y,e1,rfl⟩
  ·injection e2
   obtain ⟨h1,h2,h3⟩:=I.evs as cpos st [] _ _ e1;refine ⟨h1,h2,λhob A hA s Q E C' hp'=>key (zfK hp (h3 hob A hA s _ E C' λvs s' l C2=>⟨hv.keeper (cx:=f.cx) C2,?_⟩)) C'⟩
   obtain ⟨hh',tk,g,m,news,Z,ρ,μ,rfl,c⟩:=C2
   have hl:vs.length<=100:=by
    rw[l];refine Nat.le_trans (Nat.le_of_eq ?_) hn;exact IL _ _ _ _ e1
   refine .of (mk c hl λh' ea hm=>?_)
   obtain ⟨bm,N,nm,qn,bs',hdct,sn,sub,ab,col,dd,k0,k1,k2,k3,k5,mN,hC,hN,hni,TL,_⟩:=exc_obj c.X c.TR hC1 (by obtain ⟨C',a1,a2,a3⟩:=HE.cls x hxe;rw[hC1] at a1;cases a1;exact a2)
   obtain ⟨t,ht,_,_⟩:=hm.there;refine .of (wpAny_raiseStmt_made_sub (C:=C) (TL.hasType (by decide +kernel)) (hA.hand hh) (wpAny_pure ⟨ea,t,rfl,hm.keeps _ _ (c.fr.keep _ _ hC),ht,?_⟩))
   exact hp' _ _ ⟨ea,C,rfl,hC2,h',tk,g,m,news,Z,ρ,μ,rfl,c.toCoreP,.inl ⟨hh',c.fr,c.nw,NewX.of hm⟩⟩
  ·obtain ⟨h1,h2,h3⟩:=I.evs as cpos st [] _ _ e1
   exact ⟨h1,h2,λhob A hA s Q E C' hp'=>key (zfK hp (h3 hob A hA s _ E C' hp')) C'⟩
end
end
section
open PySem PySem.W PyProof.Rows PySem.SeqAt
open Sem (wp)
section
variable{M:Model}{A:Around}{E:Value->Shared->Prop}{s:Shared}
variable{nm q:Str}{C N:Addr}{bs bm:List Value}{hdct:Bool}{sn:List Str}{sub:List Value}{ab:Bool}{col:Option Bool}{dd:Option Addr}{k0 k1 k2 k3 k5:Option Value}{newId:String}
variable{nm' q':Str}{D N':Addr}{bs' bm':List Value}{hdct':Bool}{sn':List Str}{sub':List Value}{ab':Bool}{col':Option Bool}{dd':Option Addr}{k0' k1' k2' k3' k5':Option Value}{newId':String}
theorem exc_matches{e:Addr}{oe:Obj}{Q:Bool->Shared->Prop}(hC:s.heap.get? C=some (excClassObj nm q C N bs bm hdct sn sub ab col dd k0 k1 k2 k3 k5 newId))(hD:s.heap.get? D=some (excClassObj nm' q' D N' bs' bm' hdct' sn' sub' ab' col' dd' k0' k1' k2' k3' k5' newId'))
  (he:s.heap.get? e=some oe) (hcls:oe.cls=.ref C) (hbase:bm'.contains (.type "BaseException")=true) (hq:Q ((Value.ref C::bm).contains (.ref D)) s):wpAny M A (excMatches (.ref e) (.ref D)) Q E s:=by
 have hcB:(Value.ref D::bm').contains (.type "BaseException")=true:=by rw[List.contains_cons,hbase,Bool.or_true]
 have f:=tc_notTuple;obtain ⟨hp,g,d,tk,os⟩:=s;generalize hb:(Value.ref C::bm).contains (.ref D)=b at hq;unfold excMatches
 repeat (first|(with_reducible refine wpAny_loadPart_at he ?_;rw[hcls])|with_reducible refine wpAny_loadPart_at hD ?_|(with_reducible refine wpAny_isSubtype_exc hD ?_;rw[hcB])|(with_reducible refine wpAny_isSubtype_exc hC ?_;rw[hb])|wp_step)
 cases b <;> (wp_walk;exact hq)
end
section
variable{f:FC}{Sp:Spec}{lc:Nms}{ih:Task->S->Out}{tm:List (AV×Value)}{st:S}
inductive Landed(f:FC)(c:Str)(env:Env')(objs:Objs)(ea:Addr)(s:Shared):Prop
 |mk (C:Addr) (h1:clsA f.cx.K c=some C) (h:Heap) (tk:Nat) (g:Heap) (m:Str->Option Value) (news Z:Led) (ρ μ:List Addr) (h2:s={f.s₀ with heap:=h,toks:=tk}) (h3:Core f g m news Z ρ μ env objs [] h) (h4:Fly f g m news ea c (.ref C) .none h)
noncomputable def HANDS(f:FC)(ih:Task->S->Out):Prop:=∀c hs st r st',st.h=false->ih (.hands c hs) st=some (r,st')->st'.h=st.h/\(∀p∈st.obl,p∈st'.obl) /\
 (Holds st'.obl->∀A,AOK f false A->∀s Q E ea,Landed f c st.env st.objs ea s->pF f r st' Q E->wpB f.M A (handleBy (.ref ea) f.env hs) Q E s)
theorem Landed.cfg{c:Str}{env:Env'}{objs:Objs}{ea:Addr}{s:Shared}(x:Landed f c env objs ea s):Cfg f env objs [] s:=by
 obtain ⟨C,_,h,tk,g,m,news,Z,ρ,μ,rfl,k,_⟩:=x;exact ⟨h,tk,g,m,news,Z,ρ,μ,rfl,k⟩
theorem exc_cls (HE:HypE f.cx.K) {c:Str} {C:Addr} (hc:hasS c excNames=true) (h:clsA f.cx.K c=some C):nsIn f.cx.K mainGlobals c=some (some (.ref C))/\excIn f.cx.K C bmE "Exception.__new__"=true:=by
 obtain ⟨C',a1,a2,a3⟩:=HE.cls c hc;have:=clsA_of a1;rw[h] at this;injection this;exact ⟨a1,a2⟩
theorem AOK.marked{A:Around}{b:Bool}{e:Value}(h:AOK f b A):AOK f true (A.mark (some e)):=⟨h.frames,h.room,h.units,(by intro q;injection q),h.guards⟩
theorem test_clause(H:Hyp f Sp lc)(HE:HypE f.cx.K){c x:Str}{np pos:Pos}{env:Env'}{objs:Objs}{ea:Addr}{s:Shared}(L:Landed f c env objs ea s)(hc:hasS c excNames=true)(hx:hasS x excNames=true)(hg:hasS x lc.2=true){A:Around}{R:Result->Shared->Prop}
  (h:R (.ok (if exSub c x then .brk else .next)) s):codeB f.M A (.handlers (.ref ea) [.ExceptHandler (some (.Name x np)) none [] pos] f.env) R s:=by
 obtain ⟨D,hD1,hD2,hv,_⟩:=make_exc HE hx;refine .of (codeAny_handlers_test (hv.name H hg L.cfg ?_));obtain ⟨C,hC,hh,tk,g,m,news,Z,ρ,μ,rfl,k,fl⟩:=L;obtain ⟨oe,he,hcls⟩:=fl.there;obtain ⟨hC1,hC2⟩:=exc_cls HE hc hC;obtain ⟨bm,N,nm,qn,bs',hdct,sn,sub,ab,col,dd,k0,k1,k2,k3,k5,mN,oC,hN,hni,TL,ms⟩:=exc_obj k.X k.TR hC1 hC2;obtain ⟨hD3,hD4⟩:=exc_cls HE hx hD2;obtain ⟨bm',N',nm',qn',bs'',hdct',sn',sub',ab',col',dd',k0',k1',k2',k3',k5',mN',oD,hN',hni',TL',_⟩:=exc_obj k.X k.TR hD3 hD4;refine exc_matches (k.fr.keep _ _ oC) (k.fr.keep _ _ oD) he hcls (TL'.hasType (by decide +kernel)) ?_
 rw[←ms,HE.sub c x C D hc hx hC1 hD3];exact h
theorem const_str{M:Model}{A:Around}{E:Value->Shared->Prop}{s:Shared}{w:Str}{k:Nat}{kp:Pos}{env:Env}{Q:Value->Shared->Prop}(h:Q (.str w s.toks) {s with toks:=s.toks+1}):wpAny M A (eval (.Constant (.str w) k kp) env) Q E s:=λ_ _ _=>h
theorem raise_suite(H:Hyp f Sp lc)(HE:HypE f.cx.K){c y:Str}{np cpos pos kp:Pos}{k:Nat}{w:Str}{env:Env'}{objs:Objs}{ea:Addr}{s:Shared}(L:Landed f c env objs ea s)(hz:noCtx c=true)(hz':noCtx y=false)(hx:hasS y excNames=true)(hg:hasS y lc.2=true)
  {A:Around} (hA:AOK f false A) {Q:Flow->Shared->Prop} {E:Value->Shared->Prop} (h:∀e s',Thrown f true y env objs e s'->E e s') :
  wpB f.M (A.mark (some (.ref ea))) (execs [.Raise (some (.Call (.Name y np) [.Constant (.str w) k kp] [] cpos)) none pos] f.env) Q (notedBy f.M (A.mark (some (.ref ea))) f.env (cameBackBy f.M A f.env E)) s:=by
 obtain ⟨D,hD1,hD2,hv,mk⟩:=make_exc HE hx;have hp:(backTo cpos (starEach [.Constant (.str w) k kp] f.env)).any (·.1)=false:=zfW rfl
 rw[arm_execs_cons,arm_exec_Raise];refine za0 (za0 (zaS ?_));show wpB f.M _ (raiseStmt f.env (some (eval (.Call (.Name y np) [.Constant (.str w) k kp] [] cpos) f.env >>= λv=>standAt pos >>= λ_=>pure v)) none) _ _ s
 rw[raise_split];refine za0 (za0 ?_);rw[arm_eval_Call_Name'];refine za8 (hv.name H hg L.cfg ?_);refine zfK hp (.of (spliced_more (const_str (spliced_none ?_))));generalize s.toks+1=tk';generalize (Value.str w s.toks)=v;obtain ⟨C,hC,hh,tk,g,m,news,Z,ρ,μ,rfl,c0,fl⟩:=L;refine ⟨hv.keeper (cx:=f.cx) (tm:=[]) (env:=env) (objs:=objs) ⟨hh,tk',g,m,news,Z,ρ,μ,rfl,c0⟩,?_⟩;refine .of (mk c0 (vs:=[v]) (by show 1<=100;decide) λh' eb hm=>?_)
 refine za0 (zaS (za4 ?_));obtain ⟨bm',N',nm',qn',bs'',hdct',sn',sub',ab',col',dd',k0',k1',k2',k3',k5',mN',oD,hN',hni',TL',_⟩:=exc_obj c0.X c0.TR (exc_cls HE hx hD2).1 (exc_cls HE hx hD2).2;obtain ⟨t,ht,_,_⟩:=hm.there;obtain ⟨B,b1,b2,b3,b4,b5,b6⟩:=fl;obtain ⟨_,_,_,oe,ws,T,oT,ts,w1,w2,w3,w4,_⟩:=b4;have ne:ea≠eb:=λq=>by rw[←q] at hm;have:=hm.new;rw[w1] at this;injection this
 refine .of (raise_handled (TL'.hasType (by decide +kernel)) rfl (hm.keeps _ _ (c0.fr.keep _ _ oD)) ht ne (hm.keeps _ _ w1) w3 (w4 hz) λh'' z1 z2=>?_)
 have nx:NewX hh h'' eb (.ref D) (noCtx y):=⟨λb o q=>(z2 b λq'=>by rw[q',hm.new] at q;injection q).trans (hm.keeps _ _ q),hm.new,_,_,z1,rfl,rfl,(λq=>by rw[hz'] at q;injection q),rfl⟩
 refine Fly.made (c:=y) (f:=f) (A:=A.mark (some (.ref ea))) hA.frames c0.below c0.fr c0.nw nx λh3 hl=>?_
 obtain ⟨B',x1,x2⟩:=hl.move;refine backX (L:=f.L) rfl x1 λh4 y1 y2=>h _ _ ⟨eb,D,rfl,hD2,h4,tk',g,m,news,Z,ρ,μ,rfl,c0.toCoreP,.inr (x2 _ _ y1 y2)⟩
end
end
section
open PySem PySem.W PyProof.Rows PySem.SeqAt
open Sem (wp)
section
variable{f:FC}{Sp:Spec}{lc:Nms}{ih:Task->S->Out}{tm:List (AV×Value)}{st:S}
noncomputable def SUITE(f:FC)(c:Str)(st:S)(o:Out)(b:List Stmt):Prop:=∀r st',st.h=false->o=some (r,st')->∃b₀ bs,b=b₀::bs/\st'.h=st.h/\(∀p∈st.obl,p∈st'.obl) /\
 (Holds st'.obl->∀A,AOK f false A->∀s (Q:Flow->Shared->Prop) E ea,Landed f c st.env st.objs ea s->pF f r st' Q E ->
  wpB f.M (A.mark (some (.ref ea))) (execs b f.env) Q (notedBy f.M (A.mark (some (.ref ea))) f.env (cameBackBy f.M A f.env E)) s)
theorem suite_gen(I:IH f ih){c:Str}{s:Stmt}{r:List Stmt}:SUITE f c st (match ih (.exs (s::r)) {st with h:=true} with
  |some (.fl f,st)=>some (.fl f,{st with h:=false})
  |_=>none) (s::r):=by
 intro res st' hh e;induction q:ih (.exs (s::r)) {st with h:=true} with
 |none=>rw[q] at e;exact nn e
 |some p=>
  obtain ⟨a,st1⟩:=p;rw[q] at e;induction a with
  |fl w=>
   injection e;obtain ⟨h1,h2,h3⟩:=I.exs (s::r) {st with h:=true} _ _ q
   refine ⟨s,r,rfl,hh.symm,h2,λhob A hA s' Q E ea L hp=>?_⟩
   exact h3 hob _ hA.marked s' Q _ L.cfg (by cases w <;> exact hp)
  |_=>exact nn e
theorem strOf_some{a:Expr}{s:Str}(h:strOf a=some s):∃k p,a=.Constant (.str s) k p:=by
 induction a using Expr.casesOn with
 |Constant c k p=>
  induction c with
  |str x=>injection h;exact ⟨k,p,rfl⟩
  |_=>exact nn h
 |_=>exact nn h
theorem raisedOf_some{e:Expr}{y:Str}(h:raisedOf e=some y):∃np w k kp cp,e=.Call (.Name y np) [.Constant (.str w) k kp] [] cp:=by
 induction e using Expr.casesOn with
 |Call g as kw cp=>
  obtain ⟨y',e1,h⟩:=za3 h;induction as using List.casesOn with
  |nil=>exact nn h
  |cons c r=>
   obtain ⟨w,e2,h⟩:=za3 h;obtain ⟨k,kp,rfl⟩:=strOf_some e2;induction r using List.casesOn with
   |cons _ _=>exact nn h
   |nil=>
    induction kw using List.casesOn with
    |cons _ _=>exact nn h
    |nil=>injection h;exact ⟨posOf g,w,k,kp,cp,by rw[←zcS e1]⟩
 |_=>exact nn h
theorem raiseOf_some{s:Stmt}{y:Str}(h:raiseOf s=some y):∃e p,s=.Raise (some e) none p/\raisedOf e=some y:=by
 induction s using Stmt.casesOn with
 |Raise e c p=>
  induction c with
  |some _=>exact nn h
  |none=>obtain ⟨e,rfl,h⟩:=za3 h;exact ⟨e,p,rfl,h⟩
 |_=>exact nn h
theorem suite_ok(H:Hyp f Sp lc)(HE:HypE f.cx.K)(I:IH f ih){c:Str}{b:List Stmt}:SUITE f c st (suite lc ih c b st) b:=by
 induction b using List.casesOn with
 |nil=>exact λ_ _ _ e=>nn e
 |cons s r=>
  show SUITE f c st (match raiseOf s with
   |some y=>(match r with
    |[]=>bsel (hasS y lc.2&&hasS y excNames&&(noCtx c&&!(noCtx y))) (some (.exc true y,st)) none
    |_::_=>none)
   |none=>match ih (.exs (s::r)) {st with h:=true} with
    |some (.fl f,st)=>some (.fl f,{st with h:=false})
    |_=>none) (s::r)
  induction q0:raiseOf s with
  |none=>exact suite_gen I
  |some y=>
   intro res st' hh e;induction r using List.casesOn with
   |cons _ _=>exact nn e
   |nil=>
    obtain ⟨q,e⟩:=ze0 e;injection e;obtain ⟨q1,q2⟩:=zb1 q;obtain ⟨q3,q4⟩:=zb1 q1;obtain ⟨q5,q6⟩:=zb1 q2;obtain ⟨e,p,rfl,q7⟩:=raiseOf_some q0;obtain ⟨np,w,k,kp,cp,rfl⟩:=raisedOf_some q7;refine ⟨_,_,rfl,rfl,λp hp=>hp,λhob A hA s' Q E ea L hp=>?_⟩
    exact raise_suite H HE L q5 (Bool.not_eq_true' _▸q6) q4 q3 hA hp
theorem handOf_some{h:ExceptHandler}{q:Str×List Stmt}(e:handOf h=some q):∃np pos,h=.ExceptHandler (some (.Name q.1 np)) none q.2 pos:=by
 obtain ⟨ty,nm,b,pos⟩:=h;induction nm with
 |some _=>exact nn e
 |none=>
  obtain ⟨g,rfl,e⟩:=za3 e;obtain ⟨x,e1,e⟩:=za3 e;injection e;exact ⟨posOf g,pos,by rw[←zcS e1]⟩
theorem step_hands(H:Hyp f Sp lc)(HE:HypE f.cx.K)(I:IH f ih)(IHd:HANDS f ih):HANDS f (zaJ Sp lc ih):=by
 intro c hs st r st' hh e;induction hs using List.casesOn with
 |nil=>exact nn e
 |cons h rest=>
  obtain ⟨⟨x,b⟩,e1,e⟩:=za3 e;obtain ⟨np,pos,rfl⟩:=handOf_some e1;obtain ⟨q,e⟩:=ze0 e;obtain ⟨q,q3⟩:=zb1 q;obtain ⟨q1,q2⟩:=zb1 q;induction q4:exSub c x with
  |true=>
   rw[q4] at e;obtain ⟨b₀,bs,rfl,h1,h2,h3⟩:=suite_ok H HE I (c:=c) (b:=b) _ _ hh e;refine ⟨h1,h2,λhob A hA s Q E ea L hp=>handleByB (test_clause H HE L q3 q2 q1 ?_) (by intro q;injection q)⟩
   rw[q4];refine suiteB ?_
   obtain ⟨C,hC,hh',tk,g,m,news,Z,ρ,μ,rfl,k,fl⟩:=L;obtain ⟨B,x1,x2⟩:=fl.move;refine .of (flightX (F:=none) x1 λh' y1 y2=>?_)
   obtain ⟨g',k',fl'⟩:=(x2 _ _ y1 y2).land k.toCoreP;exact h3 hob A hA _ _ E ea ⟨C,hC,h',tk,g',m,news,Z,ρ,μ,rfl,k',fl'⟩ hp
  |false=>
   rw[q4] at e;obtain ⟨h1,h2,h3⟩:=IHd c rest st _ _ hh e;refine ⟨h1,h2,λhob A hA s Q E ea L hp=>handleByB (test_clause H HE L q3 q2 q1 ?_) (by intro q;injection q)⟩
   rw[q4];exact h3 hob A hA s Q E ea L hp
theorem step_Try(I:IH f ih)(IHd:HANDS f ih){b:List Stmt}{h₀:ExceptHandler}{hs:List ExceptHandler}{pos:Pos}:
  Sim f [] st (match st.h with
   |true=>none
   |false=>opb (ih (.exs b) st) λp=>tryEnd (λc st=>ih (.hands c (h₀::hs)) st) p.2 p.1) (exec (.Try b (h₀::hs) [] [] pos) f.env) (pF f):=by
 intro r st' e;induction hh:st.h with
 |true=>rw[hh] at e;exact nn e
 |false=>
  rw[hh] at e;obtain ⟨⟨w,st1⟩,e1,e⟩:=za3 e;rw[arm_exec_Try];induction w with
  |exc m c=>
   induction m with
   |true=>exact nn e
   |false=>
    obtain ⟨h1,h2,h3⟩:=I.exs b st _ _ e1;obtain ⟨k1,k2,k3⟩:=IHd c _ st1 _ _ (h1.trans hh) e;refine ⟨k1.trans h1,λp hp=>k2 p (h2 p hp),λhob A hA s Q E C hp=>za0 (zaS (tryStmtB (h3 (hob.sub k2) A hA s _ _ C ?_)))⟩
    intro e s' T;obtain ⟨ea,C,rfl,hC,h,tk,g,m,news,Z,ρ,μ,rfl,k,fl⟩:=T;have fl:Flying f g m news ea c (.ref C) h:=fl;obtain ⟨B,x1,x2⟩:=fl.move;refine .of (noteX_on hA.frames (L:=f.L) rfl x1 λh4 y1 y2=>.of (flightX (F:=none) y1 λh5 z1 z2=>?_))
    obtain ⟨g',k',fl'⟩:=(x2 _ _ z1 (y2.trans z2)).land k;exact k3 hob A (hA.h hh.symm) _ Q E ea ⟨C,hC,h5,tk,g',m,news,Z,ρ,μ,rfl,k',fl'⟩ hp
  |fl w=>
   injection e;obtain ⟨h1,h2,h3⟩:=I.exs b st _ _ e1;refine ⟨h1,h2,λhob A hA s Q E C hp=>za0 (zaS (tryStmtB (h3 hob A hA s _ _ C ?_)))⟩
   induction w with
   |next=>exact λs' C'=>za4 (hp s' C')
   |brk=>exact hp
   |cont=>exact hp
   |ret a=>exact hp
   |exc c=>exact hp.elim
  |_=>exact nn e
end
end
section
open PySem PySem.W PyProof.Rows PySem.SeqAt
open Sem (wp)
noncomputable def listy:AV->Bool
 |.d (.lst _)=>true
 |.d (.tl _ _)=>true
 |.r _=>true
 |_=>false
noncomputable def forable:AV->Bool
 |.d (.rng _ _ _)=>true
 |.d (.bytes _)=>true
 |a=>listy a
noncomputable def zeW:AV->Prop
 |.d (.rng a b _)=>a.natAbs<2 ^ 40/\b.natAbs<2 ^ 40
 |_=>True
inductive ItAt:AV->Value->Nat->Nat->Obj->Prop
 |list {it:AV} {a:Addr} {n k:Nat} {o:Obj}:listy it=true->o.cls=.type "list_iterator"->o.data=.fields #[.ref a,.int (k:Nat) 0]->ItAt it (.ref a) n k o
 |range {a b s:Int} {v:Value} {n k:Nat}:ItAt (.d (.rng a b s)) v n k {cls:=.type "range_iterator",dict:=none,data:=.fields #[rawInt (a+(k:Int)*s),rawInt ((n:Int) - (k:Int)),rawInt s],slots:=#[]}
 |bytes {b:Byt} {t:Tok} {n k:Nat} {o:Obj}:o.cls=.type "bytes_iterator"->o.data=.fields #[.bytes b.toArray t,.int (k:Nat) 0]->ItAt (.d (.bytes b)) (.bytes b.toArray t) n k o
theorem ItAt.fields{it:AV}{v:Value}{n k:Nat}{o:Obj}(x:ItAt it v n k o):∃vs,o.data=.fields vs:=by
 induction x with
 |list _ _ h=>exact ⟨_,h⟩
 |range=>exact ⟨_,rfl⟩
 |bytes _ h=>exact ⟨_,h⟩
section
variable{f:FC}{g h:Heap}{m:Str->Option Value}{news Z:Led}{ρ μ:List Addr}{env:Env'}{objs:Objs}{tm:List (AV×Value)}
theorem zgP(c:Core f g m news Z ρ μ env objs tm h){it:AV}{v:Value}(hv:VA f.cx.K (Fz f.cx.base Z) ρ it v){all:List DV}(hi:zaM objs it=some all)(hl:listy it=true):
  ∃a o vs,v=.ref a/\h.get? a=some o/\zg9 o vs/\VPs f.cx.K (Fz f.cx.base Z) (all.map plain) vs:=by
 have fz:∀{ps:List PV},VP f.cx.K (Fz f.cx.base Z) (.lst ps) v->∃a o vs,v=.ref a/\h.get? a=some o/\zg9 o vs/\VPs f.cx.K (Fz f.cx.base Z) ps vs:=λ{ps} hv=>
  RefX.casesOn hv λa o vs e h1 h2 _ h4=>⟨a,o,vs,e,c.fz h1,h2,h4⟩
 induction it with
 |r i=>
  obtain ⟨o,ho,hi⟩:=za3 hi;obtain ⟨b,d,h1,h2,h3⟩:=c.obj ho;obtain ⟨b',h4,rfl⟩:=hv;cases h1.symm.trans h4
  induction o with
  |lst xs=>
   cases hi
   obtain ⟨rfl,hl,vs,n,h5,h6⟩:=h3;exact ⟨_,_,vs,rfl,(c.nw _ h5).1,⟨rfl,n,rfl⟩,by rw[←zaC];exact h6⟩
  |tl ty xs=>
   cases hi
   obtain ⟨rfl,hl,vs,n,h5,h6⟩:=h3;exact ⟨_,_,vs,rfl,(c.nw _ h5).1,⟨rfl,n,rfl⟩,by rw[←zaC,plains_emb];exact h6⟩
  |_=>exact nn hi
 |d x=>
  induction x using DV.casesOn with
  |lst xs=>cases hi;rw[←zaC];exact fz hv
  |tl ty xs=>cases hi;rw[←zaC,plains_emb];exact fz hv
  |_=>exact ff hl
theorem upTo_get{a b:Int}{k:Nat}:(upTo a b)[k]?=if k<(b - a).toNat then some (.int (a+k)) else none:=by
 unfold upTo;rw[List.getElem?_map];by_cases h:k<(b - a).toNat
 ·rw[if_pos h,List.getElem?_range h];rfl
 ·rw[if_neg h,List.getElem?_eq_none (by simpa using h)];rfl
theorem downTo_get{a b:Int}{k:Nat}:(zf8 a b)[k]?=if k<(a - b).toNat then some (.int (a - k)) else none:=by
 unfold zf8;rw[List.getElem?_map];by_cases h:k<(a - b).toNat
 ·rw[if_pos h,List.getElem?_range h];rfl
 ·rw[if_neg h,List.getElem?_eq_none (by simpa using h)];rfl
theorem zh3{a b s:Int}{all:List DV}(hi:zaM objs (.d (.rng a b s))=some all):(s=1/\all=upTo a b)\/(s=-1/\all=zf8 a b):=by
 rcases zdK hi with ⟨q,hi⟩|hi
 ·cases hi;exact .inl ⟨of_decide_eq_true q,rfl⟩
 ·obtain ⟨q,hi⟩:=ze0 hi
  cases hi
  exact .inr ⟨of_decide_eq_true q,rfl⟩
theorem size_up{a b:Int}:((upTo a b).length:Int)=Builtin.Range.rangeSize a b 1:=by
 unfold upTo Builtin.Range.rangeSize;rw[List.length_map,List.length_range,if_pos (by decide)]
 by_cases h:a<b
 ·rw[if_pos h,Int.ediv_one];lia
 ·rw[if_neg h];lia
theorem size_down{a b:Int}:((zf8 a b).length:Int)=Builtin.Range.rangeSize a b (-1):=by
 unfold zf8 Builtin.Range.rangeSize;rw[List.length_map,List.length_range,if_neg (by decide)]
 by_cases h:a>b
 ·rw[if_pos h,show -(-1:Int)=1 from rfl,Int.ediv_one];lia
 ·rw[if_neg h];lia
theorem rng_len{a b s:Int}{all:List DV}(hi:zaM objs (.d (.rng a b s))=some all):(all.length:Int)=Builtin.Range.rangeSize a b s:=by
 rcases zh3 hi with ⟨rfl,rfl⟩|⟨rfl,rfl⟩
 ·exact size_up
 ·exact size_down
theorem rng_at{a b s:Int}{all:List DV}(hi:zaM objs (.d (.rng a b s))=some all){k:Nat}{x:DV}(hx:all[k]?=some x):x=.int (a+k*s):=by
 rcases zh3 hi with ⟨rfl,rfl⟩|⟨rfl,rfl⟩
 ·rw[upTo_get] at hx
  split at hx
  ·cases hx;rw[Int.mul_one]
  ·exact nn hx
 ·rw[downTo_get] at hx
  split at hx
  ·cases hx;rw[Int.mul_neg,Int.mul_one];rfl
  ·exact nn hx
theorem rng_small{a b s:Int}{all:List DV}(hi:zaM objs (.d (.rng a b s))=some all)(n1:a.natAbs<2 ^ 40)(n2:b.natAbs<2 ^ 40):(all.length:Int)<=2 ^ 42:=by
 rcases zh3 hi with ⟨rfl,rfl⟩|⟨rfl,rfl⟩
 ·unfold upTo;rw[List.length_map,List.length_range];lia
 ·unfold zf8;rw[List.length_map,List.length_range];lia
theorem iter_ok(c:Core f g m news Z ρ μ env objs tm h){it:AV}{v:Value}(hv:VA f.cx.K (Fz f.cx.base Z) ρ it v){all:List DV}(hi:zaM objs it=some all)(hf:forable it=true)(hn:zeW it){A:Around}{tk:Nat}{Q:Value->Shared->Prop}{E:Value->Shared->Prop}
  (hq:∀o,ItAt it v all.length 0 o->Q (.ref h.objs.size) {f.s₀ with heap:=h.push o,toks:=tk}):wpAny f.M A (pyIter v) Q E {f.s₀ with heap:=h,toks:=tk}:=by
 induction hl:listy it with
 |true=>
  obtain ⟨a,o,vs,rfl,e2,⟨e3,n,e4⟩,e5⟩:=zgP c hv hi hl;exact wpAny_pyIter_list (s:={f.s₀ with heap:=h,toks:=tk}) ⟨o,e2,e3,n,e4⟩ (hq _ (.list hl rfl rfl))
 |false=>
  induction it with
  |r i=>injection hl
  |d x=>
   induction x using DV.casesOn with
   |rng a b s=>
    obtain ⟨r,o,rfl,e2,t,u,w,rfl⟩:=(hv:∃r o,v=.ref r/\Fz f.cx.base Z r o/\isRngO o a b s);obtain ⟨n1,n2⟩:=hn;have k2:=rng_len hi;refine wpAny_pyIter_range (s:={f.s₀ with heap:=h,toks:=tk}) (c.fz e2) ?_ ?_
    ·unfold Builtin.Range.small Builtin.Range.rangeFitsLong
     rw[←k2];have:=rng_small hi n1 n2;rcases zh3 hi with ⟨rfl,_⟩|⟨rfl,_⟩ <;> simp <;> lia
    ·have:=hq _ (.range (v:=.ref r) (n:=all.length) (k:=0) (a:=a) (b:=b) (s:=s))
     rw[k2] at this;simpa using this
   |bytes b=>
    obtain ⟨hb,t,rfl⟩:=(show b.length<=big/\∃t,v=.bytes b.toArray t from hv)
    exact KBw.pyIter_bytes (s:={f.s₀ with heap:=h,toks:=tk}) (hq _ (.bytes rfl rfl))
   |lst xs=>injection hl
   |tl ty xs=>injection hl
   |_=>first|exact nn hf|injection hf
theorem next_ok(c:Core f g m news Z ρ μ env objs tm h){it:AV}{v:Value}(hv:VA f.cx.K (Fz f.cx.base Z) ρ it v){all:List DV}(hi:zaM objs it=some all){I:Addr}{o:Obj}(hI:h.get? I=some o){k:Nat}(ho:ItAt it v all.length k o)(hk:k<=all.length){A:Around}(hh:A.handled=none){tk:Nat}
  {Q:Option Value->Shared->Prop} {E:Value->Shared->Prop}
  (h1:∀x,all[k]?=some x->∀w h' o' tk',VA f.cx.K (Fz f.cx.base Z) ρ (.d x) w->Heap.SameBut I h h'->h'.get? I=some o'->ItAt it v all.length (k+1) o'->Q (some w) {f.s₀ with heap:=h',toks:=tk'})
  (h2:all[k]?=none->∀h',Heap.ExtBut I h h'->Q none {f.s₀ with heap:=h',toks:=tk}):wpAny f.M A (pyNext (.ref I)) Q E {f.s₀ with heap:=h,toks:=tk}:=by
 cases ho with
 |@list _ a _ _ _ hl oc od=>
  obtain ⟨a',ol,vs,e1,e2,⟨e3,n,e4⟩,e5⟩:=zgP c hv hi hl;injection e1;induction hx:all[k]? with
  |some x=>
   obtain ⟨w,w1,w2⟩:=e5.get (i:=k) (x:=plain x) (by rw[List.getElem?_map,hx];rfl)
   refine wpAny_pyNext_list_item (s:={f.s₀ with heap:=h,toks:=tk}) (l:=a) ⟨o,hI,oc,od⟩ ⟨ol,e2,e3,n,e4⟩ (i:=k) (x:=w) (by simpa using w1) λh' hit hs=>?_
   obtain ⟨o',q1,q2,q3⟩:=hit;exact h1 x hx w h' o' _ w2 hs q1 (.list hl q2 q3)
  |none=>
   refine wpAny_pyNext_list_end (s:={f.s₀ with heap:=h,toks:=tk}) (l:=a) hh ⟨o,hI,oc,od⟩ ⟨ol,e2,e3,n,e4⟩ (i:=k) ?_ λh' hs=>h2 hx h' hs
   have:=e5.length;rw[List.length_map] at this;rw[List.getElem?_eq_none_iff] at hx;simp;lia
 |@range a b s _ _ _=>
  induction hx:all[k]? with
  |some x=>
   have hlt:=(List.getElem?_eq_some_iff.mp hx).1;refine wpAny_pyNext_range_item (s:={f.s₀ with heap:=h,toks:=tk}) hI (by lia) λh' hit hs=>?_
   refine h1 x hx _ h' _ _ ?_ hs hit ?_
   ·rw[rng_at hi hx];exact ⟨_,rfl⟩
   ·have e1:a+(k:Int)*s+s=a+((k+1:Nat):Int)*s:=by rw[Int.natCast_add,Int.add_mul];lia
    have e2:(all.length:Int) - (k:Int) - 1=(all.length:Int) - ((k+1:Nat):Int):=by lia
    rw[e1,e2];exact .range
  |none=>
   rw[List.getElem?_eq_none_iff] at hx;exact wpAny_pyNext_range_end (s:={f.s₀ with heap:=h,toks:=tk}) hh hI (by lia) λh' hs=>h2 (List.getElem?_eq_none_iff.mpr hx) h' hs
 |@bytes b t _ _ _ oc od=>
  have hi:some (b.map λc=>DV.int (c.toNat:Int))=some all:=hi
  injection hi;induction hx:b[k]? with
  |some x=>
   refine KBw.next_item (s:={f.s₀ with heap:=h,toks:=tk}) ⟨o,hI,oc,od⟩ (i:=k) (c:=x) (by simpa using hx) λh' hit hs=>?_
   obtain ⟨o',q1,q2,q3⟩:=hit;exact h1 (.int (x.toNat:Int)) (by rw[List.getElem?_map,hx];rfl) _ h' o' _ ⟨_,rfl⟩ hs q1 (.bytes q2 q3)
  |none=>
   exact KBw.next_end (s:={f.s₀ with heap:=h,toks:=tk}) hh ⟨o,hI,oc,od⟩ (i:=k) (by simpa using hx) λh' hs=>h2 (by rw[List.getElem?_map,hx];rfl) h' hs
end
end
section
open PySem PySem.W PyProof.Rows PySem.SeqAt
open Sem (wp)
noncomputable def envW(κ:List Nat)(env:Env'):List Str->Option Env'
 |[]=>some []
 |x::r=>opb (look x env) λa=>opb (renA (λj=>zcQ j κ 0) a) λa'=>opb (envW κ env r) λe=>some ((x,a')::e)
noncomputable def preK:Nat->Nat->List Nat->Bool
 |0,_,_=>true
 |k+1,i,j::r=>match Nat.beq i j with|true=>preK k (i+1) r|false=>false
 |_,_,[]=>false
noncomputable def zg4(k:Nat)(κ:List Nat)(ns:List Str)(env:Env')(objs:Objs):Option (Env'×Objs):=
 bsel (okK objs.length κ) (bsel (preK k 0 κ) (opb (envW κ env ns) λe=>opb (zi0 κ objs) λo=>some (e,o)) none) none
structure WO(k:Nat)(κ:List Nat)(ns:List Str)(env:Env')(objs:Objs)(e:Env')(o:Objs):Prop where
 ok:okK objs.length κ=true
 pre:preK k 0 κ=true
 env:envW κ env ns=some e
 sub:zi0 κ objs=some o
theorem weakO_some{k:Nat}{κ:List Nat}{ns:List Str}{env e:Env'}{objs o:Objs}(h:zg4 k κ ns env objs=some (e,o)):WO k κ ns env objs e o:=by
 obtain ⟨h1,h⟩:=ze0 h;obtain ⟨h2,h⟩:=ze0 h;obtain ⟨_,h3,h⟩:=za3 h;obtain ⟨_,h4,h⟩:=za3 h;injection h;exact ⟨h1,h2,h3,h4⟩
theorem preK_get{k:Nat}:∀{i:Nat} {κ:List Nat},preK k i κ=true->∀j,j<k->κ[j]?=some (i+j):=by
 induction k using Nat.rec with
 |zero=>intro i κ _ j hj;exact absurd hj (Nat.not_lt_zero j)
 |succ k ih=>
  intro i κ h j hj;induction κ using List.casesOn with
  |nil=>exact ff h
  |cons a r=>
   have h:(match Nat.beq i a with|true=>preK k (i+1) r|false=>false)=true:=h
   induction q:Nat.beq i a with
   |false=>rw[q] at h;exact ff h
   |true=>
    rw[q] at h;induction j using Nat.casesAuxOn with
    |zero=>exact congrArg some (Nat.eq_of_beq_eq_true q).symm
    |succ j=>exact (ih h j (Nat.lt_of_succ_lt_succ hj)).trans (congrArg some (Nat.add_right_comm i 1 j))
theorem envW_look{κ:List Nat}{env:Env'}{ns:List Str}:∀{e:Env'},envW κ env ns=some e->∀x a',look x e=some a'->∃a,look x env=some a/\renA (λj=>zcQ j κ 0) a=some a':=by
 induction ns with
 |nil=>intro e h x a' hx;injection h;exact nn hx
 |cons y r ih=>
  intro e h x a' hx;obtain ⟨a,ea,h⟩:=za3 h;obtain ⟨b,e1,h⟩:=za3 h;obtain ⟨e',e2,h⟩:=za3 h;injection h;rw[zb9] at hx;by_cases q:x=y
  ·rw[if_pos q] at hx;subst q;injection hx;exact ⟨a,ea,e1⟩
  ·rw[if_neg q] at hx;exact ih e2 x a' hx
section
variable{f:FC}{g h h':Heap}{m:Str->Option Value}{news Z:Led}{ρ μ:List Addr}{env:Env'}{objs:Objs}{tm:List (AV×Value)}
theorem weak_pre{κ:List Nat}{k:Nat}(hp:preK k 0 κ=true){l ρ:List Addr}(hl:l.length<=k)(h:l <+: ρ)(hκ:∀i∈κ,i<ρ.length):l <+: pick κ ρ:=by
 obtain ⟨p1,p2⟩:=zeT hκ;rw[List.prefix_iff_eq_take];apply List.ext_getElem?;intro i;rw[List.getElem?_take];by_cases q:i<l.length
 ·rw[if_pos q,p2,preK_get hp i (by lia)]
  obtain ⟨t,rfl⟩:=h;simp[List.getElem?_append_left q]
 ·rw[if_neg q,List.getElem?_eq_none (by lia)]
theorem CoreP.weak(c:CoreP f g m news Z ρ μ env objs){k:Nat}{κ:List Nat}{ns:List Str}{env':Env'}{objs':Objs}(e:zg4 k κ ns env objs=some (env',objs'))(hρ:f.ρ₀.length<=k)(hμ:f.μ₀.length<=k):
  CoreP f g m news Z (pick κ ρ) (pick κ μ) env' objs'/\(∀a a' v,renA (λj=>zcQ j κ 0) a=some a'->VA f.cx.K (Fz f.cx.base Z) ρ a v->VA f.cx.K (Fz f.cx.base Z) (pick κ ρ) a' v)/\∀i,i<k->(pick κ ρ)[i]?=ρ[i]?:=by
 obtain ⟨q1,q2,q3,q4⟩:=weakO_some e;obtain ⟨h1,h2⟩:=okK_iff q1;have hk1:∀i∈κ,i<ρ.length:=λi hi=>by rw[c.rel.lr];exact h1 i hi
 have hk2:∀i∈κ,i<μ.length:=λi hi=>by rw[c.rel.lm];exact h1 i hi
 have r1:=zeT hk1
 have hv:∀a a' v,renA (λj=>zcQ j κ 0) a=some a'->VA f.cx.K (Fz f.cx.base Z) ρ a v->VA f.cx.K (Fz f.cx.base Z) (pick κ ρ) a' v:=λa a' v e1 h=>renA_VA (λi t x hit hx=>by
  obtain ⟨t',z1,z2⟩:=zgO hit;have:t=t':=by lia
  subst this;rw[r1.2,z2]
  exact hx) e1 h
 refine ⟨{turn:=c.turn,below:=c.below,above:=c.above,rel:=c.rel.sub q1 q4,cells:=c.cells,envr:=?_,kept:=?_},hv,λi hi=>?_⟩
 ·intro x a' hx
  obtain ⟨a,e1,e2⟩:=envW_look q3 x a' hx;obtain ⟨v,w1,w2⟩:=c.envr x a e1;exact ⟨v,hv a a' v e2 w1,w2⟩
 ·exact ⟨c.kept.old,c.kept.zold,c.kept.znew,weak_pre q2 hρ c.kept.rpre hk1,weak_pre q2 hμ c.kept.mpre hk2,λa ha=>c.kept.mnew a (zfV ha)⟩
 ·rw[r1.2,preK_get q2 i hi]
  simp
theorem Core.turnI(c:Core f g m news Z ρ μ env objs tm h){I:Addr}{o o':Obj}(hI:(I,o)∈news)(h1:I∉μ)(h2:∀p∈Z,p.1≠I)(h3:I∉f.ca)(h4:I∉f.news₀.map (·.1))(hs:Heap.SameBut I h h')(ho:h'.get? I=some o'):
  Core f g m (zbQ I o' news) Z ρ μ env objs tm h':=by
 obtain ⟨F,N⟩:=c.turnFN hI hs ho;refine {turn:=c.turn,below:=c.below,above:=c.above,fr:=F,nw:=N,rel:=?_,cells:=?_,envr:=?_,tmr:=c.tmr,kept:=?_}
 ·refine ⟨by rw[zgI];exact c.rel.nd,λp hp=>zaO (c.rel.zin p hp) (h2 p hp),c.rel.zmu,c.rel.zcl,c.rel.mcl,c.rel.mnd,c.rel.lr,c.rel.lm,λj x hx=>?_⟩
  obtain ⟨b,e,k1,k2,k3⟩:=c.rel.ob j x hx;exact ⟨b,e,k1,k2,k3.mono (λ_ _ y=>y) (List.prefix_refl _) λob hob=>zaO hob λz=>h1 (by have:e=I:=z;exact this▸List.mem_of_getElem? k2)⟩
 ·intro b hb
  obtain ⟨k1,ob,v,k2,k3⟩:=c.cells b hb;exact ⟨k1,ob,v,zaO k2 λe=>h3 (by have:b=I:=e;exact this▸hb),k3⟩
 ·intro x av hx
  obtain ⟨v,k1,k2⟩:=c.envr x av hx;exact ⟨v,k1,k2.mono λb hb ob hob=>zaO hob λe=>h3 (by have:b=I:=e;exact this▸hb)⟩
 ·exact ⟨λp hp q=>zaO (c.kept.old p hp q) λe=>h4 (List.mem_map.mpr ⟨p,hp,e⟩),c.kept.zold,c.kept.znew,c.kept.rpre,c.kept.mpre,c.kept.mnew⟩
theorem Core.dropI(c:Core f g m news Z ρ μ env objs tm h){I:Addr}(h1:I∉μ)(h2:∀p∈Z,p.1≠I)(h3:I∉f.ca)(h4:I∉f.news₀.map (·.1))(hs:Heap.ExtBut I h h')(hL:I≠f.L)(hg:g.get? I=none):
  Core f g m (news.filter λp=>p.1 != I) Z ρ μ env objs tm h':=by
 have mem:∀p∈news,p.1≠I->p∈news.filter λp=>p.1 != I:=λp hp q=>List.mem_filter.mpr ⟨hp,by simp[q]⟩
 have F:Fr g f.L h' m:=⟨c.fr.ns.at' λo e=>hs _ _ (Ne.symm hL) e,λb o e=>hs b o (λq=>by rw[q,hg] at e;injection e) (c.fr.keep b o e),c.fr.above⟩
 have N:News g f.L h' (news.filter λp=>p.1 != I):=by
  intro p hp;obtain ⟨q1,q2⟩:=List.mem_filter.mp hp;obtain ⟨n1,n2,n3⟩:=c.nw p q1;exact ⟨hs _ _ (by simpa using q2) n1,n2,n3⟩
 refine {turn:=c.turn,below:=c.below,above:=c.above,fr:=F,nw:=N,rel:=?_,cells:=?_,envr:=?_,tmr:=c.tmr,kept:=?_}
 ·refine ⟨?_,λp hp=>mem p (c.rel.zin p hp) (h2 p hp),c.rel.zmu,c.rel.zcl,c.rel.mcl,c.rel.mnd,c.rel.lr,c.rel.lm,λj x hx=>?_⟩
  ·exact (List.Sublist.map _ (List.filter_sublist)).nodup c.rel.nd
  ·obtain ⟨b,e,k1,k2,k3⟩:=c.rel.ob j x hx
   exact ⟨b,e,k1,k2,k3.mono (λ_ _ y=>y) (List.prefix_refl _) λob hob=>mem _ hob λz=>h1 (by have:e=I:=z;exact this▸List.mem_of_getElem? k2)⟩
 ·intro b hb
  obtain ⟨k1,ob,v,k2,k3⟩:=c.cells b hb;exact ⟨k1,ob,v,mem _ k2 λe=>h3 (by have:b=I:=e;exact this▸hb),k3⟩
 ·intro x av hx
  obtain ⟨v,k1,k2⟩:=c.envr x av hx;exact ⟨v,k1,k2.mono λb hb ob hob=>mem _ hob λe=>h3 (by have:b=I:=e;exact this▸hb)⟩
 ·exact ⟨λp hp q=>mem p (c.kept.old p hp q) λe=>h4 (List.mem_map.mpr ⟨p,hp,e⟩),c.kept.zold,c.kept.znew,c.kept.rpre,c.kept.mpre,c.kept.mnew⟩
theorem Core.addI(c:Core f g m news Z ρ μ env objs tm h){I:Addr}{o:Obj}(F:Fr g f.L h' m)(N:News g f.L h' ((I,o)::news))(hI:I∉news.map (·.1)):Core f g m ((I,o)::news) Z ρ μ env objs tm h':=by
 refine {turn:=c.turn,below:=c.below,above:=c.above,fr:=F,nw:=N,rel:=?_,cells:=?_,envr:=?_,tmr:=c.tmr,kept:=?_}
 ·refine ⟨?_,λp hp=>.tail _ (c.rel.zin p hp),c.rel.zmu,c.rel.zcl,c.rel.mcl,c.rel.mnd,c.rel.lr,c.rel.lm,λj x hx=>?_⟩
  ·rw[List.map_cons,List.nodup_cons];exact ⟨hI,c.rel.nd⟩
  ·obtain ⟨b,e,k1,k2,k3⟩:=c.rel.ob j x hx
   exact ⟨b,e,k1,k2,k3.mono (λ_ _ y=>y) (List.prefix_refl _) λob hob=>.tail _ hob⟩
 ·intro b hb
  obtain ⟨k1,ob,v,k2,k3⟩:=c.cells b hb;exact ⟨k1,ob,v,.tail _ k2,k3⟩
 ·intro x av hx
  obtain ⟨v,k1,k2⟩:=c.envr x av hx;exact ⟨v,k1,k2.mono λb hb ob hob=>.tail _ hob⟩
 ·exact ⟨λp hp q=>.tail _ (c.kept.old p hp q),c.kept.zold,c.kept.znew,c.kept.rpre,c.kept.mpre,c.kept.mnew⟩
noncomputable abbrev FC.at(f:FC)(I:Addr)(o:Obj)(Z:Led)(ρ μ:List Addr):FC:={f with news₀:=(I,o)::f.news₀,Z₀:=Z,ρ₀:=ρ,μ₀:=μ}
theorem CoreP.rebase(c:CoreP f g m news Z ρ μ env objs){I:Addr}{o:Obj}(hI:(I,o)∈news)(h1:I∉μ)(h2:∀p∈Z,p.1≠I)(h3:I∉f.ca){k:Nat}(hμ:f.μ₀.length<=k):CoreP (f.at I o Z (ρ.take k) (μ.take k)) g m news Z ρ μ env objs:=by
 refine {turn:=c.turn,below:=c.below,above:=c.above,rel:=c.rel,cells:=?_,envr:=c.envr,kept:=?_}
 ·intro b hb
  obtain ⟨k1,r⟩:=c.cells b hb;refine ⟨λq=>?_,r⟩
  rcases List.mem_cons.mp q with e|q
  ·exact h3 (by have:b=I:=e;exact this▸hb)
  ·exact k1 q
 ·have pm:f.μ₀ <+: μ.take k:=by
   obtain ⟨t,ht⟩:=c.kept.mpre;rw[←ht,List.take_append];rw[List.take_of_length_le hμ];exact List.prefix_append _ _
  refine ⟨λp hp q=>?_,λp hp=>hp,λp hp=>.inl hp,List.take_prefix _ _,List.take_prefix _ _,λa ha=>?_⟩
  ·rcases List.mem_cons.mp hp with rfl|hp
   ·exact hI
   ·exact c.kept.old p hp λz=>q (by obtain ⟨t,ht⟩:=pm;rw[←ht];exact List.mem_append_left _ z)
  ·rcases c.kept.mnew a ha with z|z
   ·left;obtain ⟨t,ht⟩:=pm;rw[←ht];exact List.mem_append_left _ z
   ·refine .inr λq=>?_
    rcases List.mem_cons.mp q with e|q
    ·exact h1 (by have:a=I:=e;exact this▸ha)
    ·exact z q
theorem CoreP.unbase{I:Addr}{o:Obj}{k:Nat}(c₀:CoreP f g m news Z ρ μ env objs)(hρ:f.ρ₀.length<=k)(hμ:f.μ₀.length<=k){g':Heap}{m':Str->Option Value}{news' Z':Led}{ρ' μ':List Addr}{env':Env'}{objs':Objs}
  (c:CoreP (f.at I o Z (ρ.take k) (μ.take k)) g' m' news' Z' ρ' μ' env' objs'):CoreP f g' m' news' Z' ρ' μ' env' objs':=by
 refine {turn:=c.turn,below:=c.below,above:=c.above,rel:=c.rel,cells:=?_,envr:=c.envr,kept:=?_}
 ·intro b hb
  obtain ⟨k1,r⟩:=c.cells b hb;exact ⟨λq=>k1 (.tail _ q),r⟩
 ·refine ⟨λp hp q=>c.kept.old p (.tail _ hp) λz=>?_,λp hp=>c.kept.zold p (c₀.kept.zold p hp),λp hp=>?_,?_,?_,λa ha=>?_⟩
  ·rcases c₀.kept.mnew _ (List.mem_of_mem_take z) with y|y
   ·exact q y
   ·exact y (List.mem_map.mpr ⟨p,hp,rfl⟩)
  ·rcases c.kept.znew p hp with y|y
   ·exact c₀.kept.znew p y
   ·exact .inr λq=>y (.tail _ q)
  ·have:f.ρ₀ <+: ρ.take k:=by
    obtain ⟨t,ht⟩:=c₀.kept.rpre;rw[←ht,List.take_append,List.take_of_length_le hρ];exact List.prefix_append _ _
   exact this.trans c.kept.rpre
  ·have:f.μ₀ <+: μ.take k:=by
    obtain ⟨t,ht⟩:=c₀.kept.mpre;rw[←ht,List.take_append,List.take_of_length_le hμ];exact List.prefix_append _ _
   exact this.trans c.kept.mpre
  ·rcases c.kept.mnew a ha with y|y
   ·exact c₀.kept.mnew a (List.mem_of_mem_take y)
   ·exact .inr λq=>y (.tail _ q)
end
end
section
open PySem PySem.W PyProof.Rows PySem.SeqAt
open Sem (wp)
noncomputable def zfG(Sp:Spec)(lc:Nms)(n:Nat)(t:Expr)(b:List Stmt)(x:DV)(env:Env')(objs:Objs)(ans:List Ans):Out:=
 opb (run Sp lc n (.asg t (.d x)) ⟨env,objs,false,ans,[]⟩) λp=>match p.1 with
  |.u=>run Sp lc n (.exs b) p.2
  |_=>none
inductive LoopRun(Sp:Spec)(lc:Nms)(k:Nat)(t:Expr)(b:List Stmt)(it:AV)(all:List DV):List DV->Env'->Objs->Fl->Env'->Objs->Prop
 |done {env objs κ ns env' objs'}:zaM objs it=some all->zg4 k κ ns env objs=some (env',objs')->LoopRun Sp lc k t b it all [] env objs .next env' objs'
 |next {x xs env objs n ans h w env1 objs1 obl κ ns env2 objs2 fl env' objs'}:zaM objs it=some all->zfG Sp lc n t b x env objs ans=some (.fl w,⟨env1,objs1,h,[],obl⟩)->Holds obl->(w=.next\/w=.cont) ->
   zg4 k κ ns env1 objs1=some (env2,objs2)->LoopRun Sp lc k t b it all xs env2 objs2 fl env' objs'->LoopRun Sp lc k t b it all (x::xs) env objs fl env' objs'
 |brk {x xs env objs n ans h env1 objs1 obl κ ns env' objs'}:zaM objs it=some all->zfG Sp lc n t b x env objs ans=some (.fl .brk,⟨env1,objs1,h,[],obl⟩)->Holds obl ->
   zg4 k κ ns env1 objs1=some (env',objs')->LoopRun Sp lc k t b it all (x::xs) env objs .next env' objs'
 |ret {x xs env objs n ans h a a' env1 objs1 obl κ ns env' objs'}:zaM objs it=some all->zfG Sp lc n t b x env objs ans=some (.fl (.ret a),⟨env1,objs1,h,[],obl⟩)->Holds obl ->
   zg4 k κ ns env1 objs1=some (env',objs')->renA (λj=>zcQ j κ 0) a=some a'->LoopRun Sp lc k t b it all (x::xs) env objs (.ret a') env' objs'
 |exc {x xs env objs n ans h kk c env1 objs1 obl κ ns env' objs'}:zaM objs it=some all->zfG Sp lc n t b x env objs ans=some (.exc kk c,⟨env1,objs1,h,[],obl⟩)->Holds obl ->
   zg4 k κ ns env1 objs1=some (env',objs')->LoopRun Sp lc k t b it all (x::xs) env objs (.exc c) env' objs'
section
variable{f:FC}{Sp:Spec}{lc:Nms}{k:Nat}{t:Expr}{b:List Stmt}{it:AV}{all:List DV}
noncomputable def LPost(f:FC)(fl:Fl)(env:Env')(objs:Objs)(R:Result->Shared->Prop):Prop:=match fl with
 |.next=>∀s',Cfg f env objs [] s'->R (.ok .next) s'
 |.ret a=>∀v s',Cfg f env objs [(a,v)] s'->R (.ok (.ret v)) s'
 |.exc c=>∀ea C h tk g m news Z ρ μ,clsA f.cx.K c=some C->CoreP f g m news Z ρ μ env objs->HeldIn f g m news ea c (.ref C) h->R (.error (.ref ea)) {f.s₀ with heap:=h,toks:=tk}
 |_=>True
theorem letGo_ok{v w:Value}{n i:Nat}{o:Obj}{I:Addr}{s:Shared}{A:Around}{E:Value->Shared->Prop}{M:Model}(x:ItAt it v n i o)(hI:s.heap.get? I=some o){Q:Unit->Shared->Prop}(h:Q () s):wpAny M A (letOwnedTupleGo t (.ref I) w) Q E s:=by
 obtain ⟨vs,hv⟩:=x.fields
 have hc:o.cls=.type "list_iterator"\/o.cls=.type "range_iterator"\/o.cls=.type "bytes_iterator":=by
  induction x with
  |list _ h _=>exact .inl h
  |range=>exact .inr (.inl rfl)
  |bytes h _=>exact .inr (.inr h)
 have go:wpAny M A (letOwnedTupleGo (.Tuple [] 0 ⟨0,0,0,0⟩) (.ref I) w) Q E s:=by
  unfold letOwnedTupleGo;induction w with
  |ref a=>
   refine wpAny_bind (wpAny_load hI ?_);rcases hc with hc|hc|hc <;> (rw[hc,hv];exact wpAny_pure h)
  |_=>exact wpAny_pure h
 induction t using Expr.casesOn with
 |Tuple _ _ _=>exact go
 |List _ _=>exact go
 |_=>exact wpAny_pure h
theorem thrown_noted{A:Around}(hA:AOK f false A){kk:Bool}{c:Str}{env:Env'}{objs:Objs}{e:Value}{s:Shared}(T:Thrown f kk c env objs e s){E:Value->Shared->Prop}
  (h:∀ea C h tk g m news Z ρ μ,clsA f.cx.K c=some C->CoreP f g m news Z ρ μ env objs->HeldIn f g m news ea c (.ref C) h->E (.ref ea) {f.s₀ with heap:=h,toks:=tk}):notedBy f.M A f.env E e s:=by
 obtain ⟨ea,C,rfl,hC,hh,tk,g,m,news,Z,ρ,μ,rfl,cp,T⟩:=T;unfold notedBy;induction kk with
 |true=>
  rcases T with ⟨h0,F,N,x⟩|T
  ·exact Fly.made hA.frames cp.below F N x λh' hl=>h _ _ _ _ _ _ _ _ _ _ hC cp hl
  ·obtain ⟨B,x1,x2⟩:=T.move
   exact noteX_again (L:=f.L) rfl x1 (h _ _ _ _ _ _ _ _ _ _ hC cp T)
 |false=>
  have T:Flying f g m news ea c (.ref C) hh:=T;obtain ⟨B,x1,x2⟩:=T.move;exact noteX_on hA.frames (L:=f.L) rfl x1 λh' y1 y2=>h _ _ _ _ _ _ _ _ _ _ hC cp (x2 _ _ y1 y2)
theorem VA.keep{K:Frag}{G G':Addr->Obj->Prop}(hG:∀a o,G a o->G' a o){ρ ρ':List Addr}{it:AV}(hit:∀i,it=.r i->ρ'[i]?=ρ[i]?){v:Value}(h:VA K G ρ it v):VA K G' ρ' it v:=by
 induction it with
 |d x=>exact VP.mono hG h
 |r i=>obtain ⟨a,h1,h2⟩:=h;exact ⟨a,(hit i rfl).trans h1,h2⟩
theorem turnRun_some{n:Nat}{x:DV}{env:Env'}{objs:Objs}{ans:List Ans}{r:Res}{st':S}(e:zfG Sp lc n t b x env objs ans=some (r,st')):
  ∃st1,run Sp lc n (.asg t (.d x)) ⟨env,objs,false,ans,[]⟩=some (.u,st1)/\run Sp lc n (.exs b) st1=some (r,st'):=by
 obtain ⟨⟨w,st1⟩,e1,e⟩:=za3 e;induction w with
 |u=>exact ⟨st1,e1,e⟩
 |_=>exact nn e
inductive BehindX(f:FC)(it:AV)(v:Value)(I:Addr)(o:Obj)(env:Env')(objs:Objs)(tm:List (AV×Value))(s:Shared):Prop
 |mk (h:Heap) (tk:Nat) (g:Heap) (m:Str->Option Value) (news Z:Led) (ρ μ:List Addr) (h1:s={f.s₀ with heap:=h,toks:=tk}) (h2:Core f g m news Z ρ μ env objs tm h) (h3:(I,o)∈news) (h4:I∉μ) (h5:∀p∈Z,p.1≠I) (h6:VA f.cx.K (Fz f.cx.base Z) ρ it v)
structure Behind(f:FC)(k:Nat)(it:AV)(v:Value)(I:Addr)(o:Obj)(env:Env')(objs:Objs)(tm:List (AV×Value))(s:Shared):Prop where
 ex:BehindX f it v I o env objs tm s
theorem Fly.unat{f:FC}{I:Addr}{o:Obj}{Z:Led}{ρ μ:List Addr}{g h:Heap}{m:Str->Option Value}{news:Led}{e:Addr}{c:Str}{cls fl:Value}(x:Fly (f.at I o Z ρ μ) g m news e c cls fl h):Fly f g m news e c cls fl h:=by
 obtain ⟨B,x1,x2,x3,x4,x5,x6⟩:=x;exact ⟨B,x1,x2,x3,x4,x5,x6⟩
noncomputable def TurnEnd(f:FC)(k:Nat)(it:AV)(v:Value)(I:Addr)(o:Obj)(env1:Env')(objs1:Objs)(Q:Flow->Shared->Prop)(E:Value->Shared->Prop):Res->Prop
 |.fl fl=>(match fl with
  |.next=>∀s',Behind f k it v I o env1 objs1 [] s'->Q .next s'
  |.cont=>∀s',Behind f k it v I o env1 objs1 [] s'->Q .cont s'
  |.brk=>∀s',Behind f k it v I o env1 objs1 [] s'->Q .brk s'
  |.ret a=>∀u s',Cfg f env1 objs1 [(a,u)] s'->Q (.ret u) s'
  |.exc _=>False)
 |.exc kk cc=>∀e s',Thrown f kk cc env1 objs1 e s'->E e s'
 |_=>False
theorem body_ok{P:FC->Prop}(T:∀f,P f->∀n,IH f (run Sp lc n))(hP:∀(f:FC) (I:Addr) (o:Obj) (Z:Led) (ρ μ:List Addr),P f->P (f.at I o Z (ρ.take k) (μ.take k)))(hf:P f)(hρ:f.ρ₀.length<=k)(hμ:f.μ₀.length<=k)(hit:∀i,it=.r i->i<k){A:Around}(hA:AOK f false A)
  {g h:Heap} {m:Str->Option Value} {news Z:Led} {ρ μ:List Addr} {env:Env'} {objs:Objs} {tk:Nat} {I:Addr} {o:Obj} {v w:Value} {x:DV} (c:Core f g m news Z ρ μ env objs [] h) (hI:(I,o)∈news) (h1:I∉μ) (h2:∀p∈Z,p.1≠I) (h3:I∉f.ca)
  (hv:VA f.cx.K (Fz f.cx.base Z) ρ it v) (hw:VA f.cx.K (Fz f.cx.base Z) ρ (.d x) w) {n:Nat} {ans:List Ans} {r:Res} {env1:Env'} {objs1:Objs} {hb:Bool} {obl:List Prop} (e:zfG Sp lc n t b x env objs ans=some (r,⟨env1,objs1,hb,[],obl⟩)) (hob:Holds obl)
  {Q:Flow->Shared->Prop} {E:Value->Shared->Prop}
  (hq:TurnEnd f k it v I o env1 objs1 Q E r) :
  wpB f.M A (assign t f.env w) (λ_ s'=>wpB f.M A (execs b f.env) Q E s') E {f.s₀ with heap:=h,toks:=tk}:=by
 obtain ⟨st1,e1,e2⟩:=turnRun_some e;have hf':=hP f I o Z ρ μ hf;have I':=T _ hf' n;obtain ⟨a1,a2,a3⟩:=I'.asg t (.d x) w ⟨env,objs,false,ans,[]⟩ [(.d x,w)] (.head _) _ _ e1;obtain ⟨b1,b2,b3⟩:=I'.exs b st1 _ _ e2;have hA':AOK (f.at I o Z (ρ.take k) (μ.take k)) false A:=⟨hA.frames,hA.room,hA.units,hA.hand,hA.guards⟩;have cp:=c.toCoreP
 have C':Cfg (f.at I o Z (ρ.take k) (μ.take k)) env objs [(.d x,w)] {f.s₀ with heap:=h,toks:=tk}:=
  ⟨h,tk,g,m,news,Z,ρ,μ,rfl,{cp.rebase hI h1 h2 h3 hμ with fr:=c.fr,nw:=c.nw,tmr:=λp hp=>by rcases List.mem_cons.mp hp with rfl|hp;exact hw;cases hp}⟩
 have back:∀{env':Env'} {objs':Objs} {tm:List (AV×Value)} {s':Shared},Cfg (f.at I o Z (ρ.take k) (μ.take k)) env' objs' tm s'->Behind f k it v I o env' objs' tm s':=by
  rintro env' objs' tm s' ⟨h',tk',g',m',news',Z',ρ',μ',rfl,c'⟩
  refine ⟨h',tk',g',m',news',Z',ρ',μ',rfl,{CoreP.unbase cp hρ hμ c'.toCoreP with fr:=c'.fr,nw:=c'.nw,tmr:=c'.tmr},c'.kept.old _ (.head _) (λz=>h1 (List.mem_of_mem_take z)),λz=>?_,λp hp z=>?_,?_⟩
  ·rcases c'.kept.mnew _ z with y|y
   ·exact h1 (List.mem_of_mem_take y)
   ·exact y (.head _)
  ·rcases c'.kept.znew p hp with y|y
   ·exact h2 p y z
   ·exact y (by rw[z];exact .head _)
  ·refine hv.keep (λa o q=>q.mono c'.kept.zold) λi hi=>?_
   obtain ⟨tl,ht⟩:=c'.kept.rpre;subst hi;obtain ⟨a,ha,_⟩:=hv;have hlt:=(List.getElem?_eq_some_iff.mp ha).1;have hik:=hit i rfl;rw[←ht,List.getElem?_append_left (by rw[List.length_take];lia),List.getElem?_take_of_lt hik]
 refine a3 (hob.sub b2) A hA' _ _ E C' λs2 C2=>b3 hob A (hA'.h a1) s2 Q E (C2.drop λp hp=>nomatch hp) ?_
 induction r with
 |fl fl=>
  induction fl with
  |next=>exact λs' C=>hq s' (back C)
  |cont=>exact λs' C=>hq s' (back C)
  |brk=>exact λs' C=>hq s' (back C)
  |ret a=>
   intro u s' C;obtain ⟨h',tk',g',m',news',Z',ρ',μ',rfl,c',_⟩:=(back C).ex;exact hq u _ ⟨h',tk',g',m',news',Z',ρ',μ',rfl,c'⟩
  |exc c=>exact hq
 |exc kk cc=>
  intro e s' T;obtain ⟨ea,C,rfl,hC,h',tk',g',m',news',Z',ρ',μ',rfl,c',T⟩:=T;refine hq _ _ ⟨ea,C,rfl,hC,h',tk',g',m',news',Z',ρ',μ',rfl,CoreP.unbase cp hρ hμ c',?_⟩;induction kk with
  |true=>exact T.imp id Fly.unat
  |false=>exact Fly.unat T
 |_=>exact hq
theorem codeB_block_nil{A:Around}{R:Result->Shared->Prop}{s:Shared}{env:Env}(h:R (.ok .next) s):codeB f.M A (.block [] env) R s:=.of (codeAny_block (by rw[arm_execs_nil];exact wpAny_pure h))
section
variable{A:Around}{v:Value}{I:Addr}{R:Result->Shared->Prop}{env:Env'}{objs:Objs}{o:Obj}{s:Shared}
theorem loop_turn(hA:AOK f false A)(hI3:I∉f.ca)(hI4:I∉f.news₀.map (·.1)){j:Nat}(hi:zaM objs it=some all)(hj:j<=all.length)(ho:ItAt it v all.length j o)(B:Behind f k it v I o env objs [] s)
  (h1:∀x w o' g h m news Z ρ μ tk,all[j]?=some x->Core f g m news Z ρ μ env objs [] h->(I,o')∈news->I∉μ->(∀p∈Z,p.1≠I)->VA f.cx.K (Fz f.cx.base Z) ρ it v->VA f.cx.K (Fz f.cx.base Z) ρ (.d x) w->ItAt it v all.length (j+1) o' ->
    wpB f.M A (assign t f.env w) (λ_ s'=>wpB f.M A (execs b f.env) (λfw s'=>match fw with
      |.next|.cont=>codeB f.M A (.forLoop t (.ref I) b [] f.env) R s'
      |.brk=>R (.ok .next) s'
      |.ret u=>R (.ok (.ret u)) s') (notedBy f.M A f.env λe s'=>R (.error e) s') s') (notedBy f.M A f.env λe s'=>R (.error e) s') {f.s₀ with heap:=h,toks:=tk})
  (h2:all[j]?=none->∀g h m news Z ρ μ tk,Core f g m news Z ρ μ env objs [] h->R (.ok .next) {f.s₀ with heap:=h,toks:=tk}) :
  codeB f.M A (.forLoop t (.ref I) b [] f.env) R s:=by
 obtain ⟨hh,tk,g,m,news,Z,ρ,μ,rfl,c,b1,b2,b3,b4⟩:=B.ex;refine zaX rfl ?_
 show wpB _ A ((forTurn t (.ref I) b [] f.env).onRaise (λx=>do noteFrame x f.env;theTreesLotGoes x)) _ _ _
 refine wpB_noted ?_
 simp only[forTurn];refine za0 (zaS (za0 (zeN (.of (next_ok c b4 hi (c.nw _ b1).1 ho hj (hA.hand rfl) (λx hx w h' o' tk' hw hs ho' hit'=>?_) λhx h' hs=>?_)))))
 ·have c':=c.turnI b1 b2 b3 hI3 hI4 hs ho'
  refine za0 (.of (letGo_ok (t:=t) hit' ho' ?_));refine za0 (zaZ (h1 x w o' g h' m _ Z ρ μ tk' hx c' (zbD b1) b2 b3 b4 hw hit') (λ_ s2 h3=>za0 (zaZ h3 (λfw s3 h4=>?_) λ_ _ y=>y)) λ_ _ y=>y)
  induction fw with
  |next=>exact za4 ⟨rfl,h4⟩
  |cont=>exact za4 ⟨rfl,h4⟩
  |brk=>exact za4 h4
  |ret u=>exact za4 h4
 ·exact za4 ⟨rfl,codeB_block_nil (h2 hx _ _ _ _ _ _ _ _ (c.dropI b2 b3 hI3 hI4 hs (c.nw _ b1).2.1 (c.nw _ b1).2.2))⟩
theorem loop_head{j:Nat}{x:DV}{xs:List DV}(h:all.drop j=x::xs):all[j]?=some x/\all.drop (j+1)=xs/\j<all.length:=by
 have h0:(all.drop j)[0]?=some x:=by rw[h];rfl
 rw[List.getElem?_drop] at h0;exact ⟨h0,by rw[←List.drop_drop,h];rfl,(List.getElem?_eq_some_iff.mp h0).1⟩
theorem weakB(hρ:f.ρ₀.length<=k)(hμ:f.μ₀.length<=k)(hit:∀i,it=.r i->i<k){κ:List Nat}{ns:List Str}{env2:Env'}{objs2:Objs}(e:zg4 k κ ns env objs=some (env2,objs2))(B:Behind f k it v I o env objs [] s):Behind f k it v I o env2 objs2 [] s:=by
 obtain ⟨hh,tk,g,m,news,Z,ρ,μ,rfl,c,b1,b2,b3,b4⟩:=B.ex;obtain ⟨w1,w2,w3⟩:=c.toCoreP.weak e hρ hμ;exact ⟨hh,tk,g,m,news,Z,_,_,rfl,{w1 with fr:=c.fr,nw:=c.nw,tmr:=λp hp=>nm hp},b1,λz=>b2 (zfV z),b3,b4.keep (λ_ _ q=>q) λi hi=>w3 i (hit i hi)⟩
theorem Behind.cfg(B:Behind f k it v I o env objs [] s):Cfg f env objs [] s:=by
 obtain ⟨hh,tk,g,m,news,Z,ρ,μ,rfl,c,_⟩:=B.ex;exact ⟨hh,tk,g,m,news,Z,ρ,μ,rfl,c⟩
theorem zhB{P:FC->Prop}(T:∀f,P f->∀n,IH f (run Sp lc n))(hP:∀(f:FC) (I:Addr) (o:Obj) (Z:Led) (ρ μ:List Addr),P f->P (f.at I o Z (ρ.take k) (μ.take k)))(hf:P f)(hρ:f.ρ₀.length<=k)(hμ:f.μ₀.length<=k)(hit:∀i,it=.r i->i<k)
  (hA:AOK f false A) (hI3:I∉f.ca) (hI4:I∉f.news₀.map (·.1)) {j:Nat} {x:DV} {xs:List DV} (hd:all.drop j=x::xs) (hi:zaM objs it=some all) (hj:j<=all.length) (ho:ItAt it v all.length j o) (B:Behind f k it v I o env objs [] s)
  {n:Nat} {ans:List Ans} {r:Res} {env1:Env'} {objs1:Objs} {hb:Bool} {obl:List Prop} (e:zfG Sp lc n t b x env objs ans=some (r,⟨env1,objs1,hb,[],obl⟩)) (hob:Holds obl)
  (hq:∀o',ItAt it v all.length (j+1) o'->TurnEnd f k it v I o' env1 objs1 (λfw s'=>match fw with
      |.next|.cont=>codeB f.M A (.forLoop t (.ref I) b [] f.env) R s'
      |.brk=>R (.ok .next) s'
      |.ret u=>R (.ok (.ret u)) s') (notedBy f.M A f.env λe s'=>R (.error e) s') r):codeB f.M A (.forLoop t (.ref I) b [] f.env) R s:=by
 have d1:=(loop_head hd).1;refine loop_turn hA hI3 hI4 hi hj ho B (λx' w' o' g h m news Z ρ μ tk hx c c1 c2 c3 c4 c5 c6=>?_) λhx=>nn (hx.symm.trans d1)
 cases hx.symm.trans d1
 exact body_ok T hP hf hρ hμ hit hA c c1 c2 c3 hI3 c4 c5 e hob (hq o' c6)
end
theorem loop_code{P:FC->Prop}(T:∀f,P f->∀n,IH f (run Sp lc n))(hP:∀(f:FC) (I:Addr) (o:Obj) (Z:Led) (ρ μ:List Addr),P f->P (f.at I o Z (ρ.take k) (μ.take k)))(hf:P f)(hρ:f.ρ₀.length<=k)(hμ:f.μ₀.length<=k)(hit:∀i,it=.r i->i<k)
  {A:Around} (hA:AOK f false A) {v:Value} {I:Addr} (hI3:I∉f.ca) (hI4:I∉f.news₀.map (·.1)) {R:Result->Shared->Prop} {xs:List DV} {env:Env'} {objs:Objs} {fl:Fl} {env':Env'} {objs':Objs} (L:LoopRun Sp lc k t b it all xs env objs fl env' objs') :
  ∀(j:Nat) (o:Obj),all.drop j=xs->j<=all.length->ItAt it v all.length j o->LPost f fl env' objs' R->∀s,Behind f k it v I o env objs [] s->codeB f.M A (.forLoop t (.ref I) b [] f.env) R s:=by
 induction L with
 |@done env objs κ ns env' objs' hi hw=>
  intro j o hd hj ho hp s B;refine loop_turn hA hI3 hI4 hi hj ho B (λx w o' g h m news Z ρ μ tk hx _ _ _ _ _ _ _=>absurd (Nat.lt_of_lt_of_le (List.getElem?_eq_some_iff.mp hx).1 (List.drop_eq_nil_iff.mp hd)) (Nat.lt_irrefl _)) λhx g h m news Z ρ μ tk c=>?_
  exact hp _ ⟨h,tk,g,m,news,Z,_,_,rfl,{(c.toCoreP.weak hw hρ hμ).1 with fr:=c.fr,nw:=c.nw,tmr:=λp hp=>nm hp}⟩
 |@next x xs env objs n ans hb w env1 objs1 obl κ ns env2 objs2 fl env' objs' hi e hob hw hwk _ ih=>
  intro j o hd hj ho hp s B;refine zhB T hP hf hρ hμ hit hA hI3 hI4 hd hi hj ho B e hob λo' c6=>?_
  have go:∀s',Behind f k it v I o' env1 objs1 [] s'->codeB f.M A (.forLoop t (.ref I) b [] f.env) R s':=λs' B'=>ih (j+1) o' (loop_head hd).2.1 (loop_head hd).2.2 c6 hp s' (weakB hρ hμ hit hwk B')
  rcases hw with rfl|rfl
  ·exact go
  ·exact go
 |@brk x xs env objs n ans hb env1 objs1 obl κ ns env' objs' hi e hob hwk=>
  intro j o hd hj ho hp s B;exact zhB T hP hf hρ hμ hit hA hI3 hI4 hd hi hj ho B e hob λo' c6 s' B'=>hp s' (weakB hρ hμ hit hwk B').cfg
 |@ret x xs env objs n ans hb a a' env1 objs1 obl κ ns env' objs' hi e hob hwk ha=>
  intro j o hd hj ho hp s B;refine zhB T hP hf hρ hμ hit hA hI3 hI4 hd hi hj ho B e hob λo' c6 u s' C=>?_
  obtain ⟨hh,tk,g,m,news,Z,ρ,μ,rfl,c⟩:=C;obtain ⟨w1,w2,w3⟩:=c.toCoreP.weak hwk hρ hμ;refine hp u _ ⟨hh,tk,g,m,news,Z,_,_,rfl,{w1 with fr:=c.fr,nw:=c.nw,tmr:=λp hp=>?_}⟩
  cases List.mem_singleton.mp hp
  exact w2 _ _ _ ha (c.tmr _ (.head _))
 |@exc x xs env objs n ans hb kk cc env1 objs1 obl κ ns env' objs' hi e hob hwk=>
  intro j o hd hj ho hp s B;exact zhB T hP hf hρ hμ hit hA hI3 hI4 hd hi hj ho B e hob λo' c6 e s' Th=>thrown_noted hA Th λea C h tk g m news Z ρ μ hC cp hl=>hp ea C h tk g m news Z _ _ hC (cp.weak hwk hρ hμ).1 hl
end
end
section
open PySem PySem.W PyProof.Rows PySem.SeqAt
open Sem (wp)
section
variable{f:FC}{Sp:Spec}{lc:Nms}{ih:Task->S->Out}{st:S}
noncomputable def LEnd(f:FC)(fl:Fl)(env:Env')(objs:Objs)(Q:Flow->Shared->Prop)(E:Value->Shared->Prop):Prop:=match fl with
 |.next=>∀s',Cfg f env objs [] s'->Q .next s'
 |.ret a=>∀v s',Cfg f env objs [(a,v)] s'->Q (.ret v) s'
 |.exc c=>∀e s',Thrown f true c env objs e s'->E e s'
 |_=>True
noncomputable def LoopOK(f:FC)(t:Expr)(b:List Stmt)(it:AV)(all:List DV)(env:Env')(objs:Objs)(fl:Fl)(env':Env')(objs':Objs):Prop:=
 zaM objs it=some all->∀A,AOK f false A->∀s v Q E,Cfg f env objs [(it,v)] s->LEnd f fl env' objs' Q E->wpB f.M A (holding [v] (pyIter v) >>= λiv=>runOwn (.forLoop t iv b [] f.env) f.env) Q E s
theorem loop_ok{k:Nat}{t:Expr}{b:List Stmt}{it:AV}{all:List DV}{env:Env'}{objs:Objs}{fl:Fl}{env':Env'}{objs':Objs}{P:FC->Prop}(T:∀f,P f->∀n,IH f (run Sp lc n))
  (hP:∀(f:FC) (I:Addr) (o:Obj) (Z:Led) (ρ μ:List Addr),P f->P (f.at I o Z (ρ.take k) (μ.take k))) (hf:P f) (hρ:f.ρ₀.length<=k) (hμ:f.μ₀.length<=k) (hit:∀i,it=.r i->i<k) (h1:forable it=true) (h2:zeW it)
  (L:LoopRun Sp lc k t b it all all env objs fl env' objs'):LoopOK f t b it all env objs fl env' objs':=by
 intro hi A hA s v Q E C hp;obtain ⟨hh,tk,g,m,news,Z,ρ,μ,rfl,c⟩:=C;have hv:=c.tmr _ (.head _);have alloc:∀p∈news,p.1<hh.objs.size:=λp hp=>Heap.lt_size (c.nw p hp).1
 have fresh:hh.objs.size∉news.map (·.1):=λq=>by
  obtain ⟨p,hp,e⟩:=List.mem_map.mp q;exact Nat.lt_irrefl _ (Nat.lt_of_lt_of_eq (alloc p hp) e.symm)
 refine za0 (zaH (.of (iter_ok c hv hi h1 h2 λo ho=>?_)))
 have F':Fr g f.L (hh.push o) m:=c.fr.push o
 have N':News g f.L (hh.push o) ((hh.objs.size,o)::news):=by
  obtain ⟨vs,hd⟩:=ho.fields;intro p hp;rcases List.mem_cons.mp hp with rfl|hp
  ·refine ⟨Heap.get?_push_size _ (Obj.isFreed_of_fields hd),λe=>?_,Heap.get?_none_of_le ?_⟩
   ·have:=c.fr.ns.lt;rw[←e] at this;exact absurd this (Nat.lt_irrefl _)
   ·exact Nat.le_trans c.above (Nat.le_of_lt c.fr.ns.lt)
  ·exact ⟨Heap.get?_push_of_some _ (c.nw p hp).1,(c.nw p hp).2⟩
 have c':=c.addI F' N' fresh
 refine zfT (loop_code (R:=λr s'=>match r with|.ok f=>Q f s'|.error e=>cameBackBy f.M A (f.env) E e s') T hP hf hρ hμ hit (A:=A.mark none) ⟨hA.frames,hA.room,hA.units,hA.hand,hA.guards⟩ (I:=hh.objs.size) (v:=v) (λq=>?_) (λq=>?_) L 0 o (by rw[List.drop_zero]) (Nat.zero_le _) ho ?_ _
  ⟨hh.push o,tk,g,m,_,Z,ρ,μ,rfl,c'.drop λp hp=>(nomatch hp),.head _,λq=>fresh (c.mu_key q),λp hp e=>fresh (List.mem_map.mpr ⟨p,c.rel.zin p hp,e⟩),hv⟩) nofun
 ·obtain ⟨_,ob,u,h3,_⟩:=c.cells _ q
  exact fresh (List.mem_map.mpr ⟨_,h3,rfl⟩)
 ·obtain ⟨p,hp',e⟩:=List.mem_map.mp q
  by_cases z:p.1∈f.μ₀
  ·obtain ⟨tl,ht⟩:=c.kept.mpre
   exact fresh (e▸c.mu_key (by rw[←ht];exact List.mem_append_left _ z))
  ·exact fresh (List.mem_map.mpr ⟨p,c.kept.old p hp' z,e⟩)
 ·induction fl with
  |next=>exact hp
  |ret a=>exact hp
  |exc cc=>
   intro ea C h tk g m news Z ρ μ hC cp hl;obtain ⟨B,x1,x2⟩:=hl.move;exact backX (L:=f.L) rfl x1 λh4 y1 y2=>hp _ _ ⟨ea,C,rfl,hC,h4,tk,g,m,news,Z,ρ,μ,rfl,cp,.inr (x2 _ _ y1 y2)⟩
  |_=>trivial
theorem step_For(HL:∀t b it xs env objs fl e os,Sp.loop t b it xs env objs fl e os->LoopOK f t b it xs env objs fl e os)(I:IH f ih){t it:Expr}{b:List Stmt}{pos:Pos}:
  Sim f [] st (match notSet it with
   |false=>none
   |true=>zaK (ih (.ev it) st) λit st=>opb (zaM st.objs it) λxs=>opb (takeLoop st.ans) λq=>bsel (!st.h) (some (loopRes q.1.1,⟨q.1.2.1,q.1.2.2,st.h,q.2,st.obl++[Sp.loop t b it xs st.env st.objs q.1.1 q.1.2.1 q.1.2.2]⟩)) none) (exec (.For t it b [] pos) f.env) (pF f):=by
 induction q:notSet it with
 |false=>exact Sim.none
 |true=>
  have hs:∀x,foldedSetIterable it f.env x=pure x:=by
   intro x;induction it using Expr.casesOn with
   |Set _ _ _=>exact ff q
   |_=>rfl
  rw[exec_For];refine Sim.stand (c:=λ_=>eval it f.env >>= λx=>foldedSetIterable it f.env x >>= λx=>standAt it.pos >>= λ_=>holding [x] (pyIter x) >>= λiv=>runOwn (.forLoop t iv b [] f.env) f.env) ?_
  refine (I.ev it st []).bindV pF.exc λa st1 v _ hst=>zaI λxs hi=>zaI λw _=>zc4 λhh=>?_
  rw[Bool.not_eq_true'] at hh;obtain ⟨⟨fl,e,os⟩,ans⟩:=w;intro r st' er;injection er;refine ⟨rfl,zaL,λhob A hA s Q E C hp=>?_⟩
  refine za0 (wpB_of_eq (hs v) (za4 (za0 (zaS ?_))));exact HL _ _ _ _ _ _ _ _ _ hob.last hi A (hA.h hh.symm) s v Q E C (by cases fl <;> first|exact hp|trivial)
end
end
section
open PySem PySem.W PyProof.Rows PySem.SeqAt
open Sem (wp)
noncomputable def cmpI:CmpOp->Int->Int->Bool
 |.Eq,a,b=>a==b
 |.Gt,a,b=>decide (b<a)
 |.LtE,a,b=>decide (a<=b)
 |_,_,_=>false
noncomputable def cmpKnown:CmpOp->Bool
 |.Eq=>true
 |.Gt=>true
 |.LtE=>true
 |_=>false
noncomputable def rowJ(k:Nat)(r:Row):Int:=match k with
 |0=>r.index
 |1=>r.client
 |_=>r.number
noncomputable def zgL(csc sc:Scope)(x:Str):Bool:=
 sc.kind==.function&&sc.names.lookup x==some .local&&!(x==("__debug__":Str)) &&
  sc.names.all λp=>(p.2 != .cell)&&(p.2 != .local||sc.names.lookup p.1==some .local)&&(p.2 != .free||csc.names.lookup p.1==some .cell)
noncomputable def rowD(r:Row):DV:=Ty.emb .row r
theorem plain_rowD(r:Row):plain (rowD r)=rowP r:=rfl
inductive CompX(csc sc:Scope)(x:Str)(env:Env'):Expr->List Expr->List DV->MObj->Prop
 |mod {p1 p2 p3:Pos} {n:Int} {kk:Nat} {l:List Int}:n≠0->CompX csc sc x env (.BinOp (.Name x p1) .Mod (.Constant (.int n) kk p2) p3) [] (l.map .int) (.tl .int (l.map (·.fmod n)))
 |sel {y:Str} {p1 p2 p3 p4 p5 p6:Pos} {k kk:Nat} {op:CmpOp} {n:Int} {rows:List Row}:k<3->cmpKnown op=true->sc.names.lookup y=some .free->csc.names.lookup y=some .cell->look y env=some (.d (.int n)) ->
   CompX csc sc x env (.Name x p1) [.Compare (.Subscript (.Name x p2) (.Constant (.int (k:Nat)) kk p3) p4) [op] [.Name y p5] p6] (rows.map rowD) (.tl .row (rows.filter λr=>cmpI op (rowJ k r) n))
noncomputable abbrev CompIs(csc sc:Scope)(e:Expr)(x:Str)(ifs:List Expr)(xs:List DV)(env:Env')(o:MObj):Prop:=CompX csc sc x env e ifs xs o
noncomputable def closL(cells:List (Str×Addr)):List (Str×NameKind)->List (Str×Addr)->List (Str×Addr)
 |[],cs=>cs
 |(n,k)::r,cs=>closL cells r (if k==.free then (n,(cells.lookup n).getD 0)::cs else cs)
theorem zi9(cells:List (Str×Addr))(n:Str)(k:NameKind)(r:List (Str×NameKind))(cs:List (Str×Addr)):closL cells ((n,k)::r) cs=closL cells r (if k==.free then (n,(cells.lookup n).getD 0)::cs else cs):=rfl
theorem closureFor_eq{scope:Scope}{env:Env}(h:∀p∈scope.names,p.2=.free->∃c,env.cells.lookup p.1=some c):closureFor scope env=pure (closL env.cells scope.names []):=by
 unfold closureFor
 have go:∀(l:List (Str×NameKind)) (cs:List (Str×Addr)),(∀p∈l,p.2=.free->∃c,env.cells.lookup p.1=some c) ->
   (forIn l cs λ(x:Str×NameKind) (r:List (Str×Addr))=>(match x with|(name,kind)=>if (kind==NameKind.free)=true then do let a ←cellOf env name;pure (ForInStep.yield ((name,a)::r)) else pure (ForInStep.yield r):Sem (ForInStep (List (Str×Addr)))))=pure (closL env.cells l cs):=by
  intro l;induction l with
  |nil=>intro cs _;rfl
  |cons p r ih=>
   intro cs hp;obtain ⟨n,k⟩:=p;rw[List.forIn_cons];dsimp only;induction hk:(k==NameKind.free) with
   |true=>
    rw[if_pos rfl];obtain ⟨c,hc⟩:=hp (n,k) (.head _) (by simpa using hk)
    have:cellOf env n=pure c:=by unfold cellOf;rw[hc]
    rw[this,pure_bind,pure_bind];dsimp only;rw[ih _ λq hq=>hp q (.tail _ hq),zi9,hk,show env.cells.lookup n=some c from hc]
    rfl
   |false=>
    rw[if_neg (by simp),pure_bind]
    dsimp only;rw[ih _ λq hq=>hp q (.tail _ hq),zi9,hk]
    rfl
 exact (congrArg (λt:Sem (List (Str×Addr))=>t >>= λcs=>pure cs) (go scope.names [] h)).trans (pure_bind _ _)
theorem closL_look{cells:List (Str×Addr)}{y:Str}{c:Addr}(hc:cells.lookup y=some c):∀{l:List (Str×NameKind)} {cs:List (Str×Addr)},(cs.lookup y=some c\/(cs.lookup y=none/\∃p∈l,p.1=y/\p.2=.free))->(closL cells l cs).lookup y=some c:=by
 intro l;induction l with
 |nil=>
  intro cs h;rcases h with h|⟨_,p,hp,_⟩
  ·exact h
  ·first|exact nn hp|injection hp
 |cons hd r ih=>
  obtain ⟨n,k⟩:=hd;intro cs h;rw[zi9];apply ih;by_cases q:n=y
  ·subst q
   induction hk:(k==NameKind.free) with
   |true=>left;rw[if_pos rfl,List.lookup_cons,beq_self_eq_true,hc];rfl
   |false=>
    rw[if_neg (by simp)]
    rcases h with h|⟨h,p,hp,e1,e2⟩
    ·exact .inl h
    ·rcases List.mem_cons.mp hp with rfl|hp
     ·rw[show k=.free from e2] at hk;injection hk
     ·exact .inr ⟨h,p,hp,e1,e2⟩
  ·have ne:(y==n)=false:=beq_eq_false_iff_ne.mpr (Ne.symm q)
   have e:(if (k==NameKind.free)=true then (n,(cells.lookup n).getD 0)::cs else cs).lookup y=cs.lookup y:=by
    split
    ·rw[List.lookup_cons,ne]
    ·rfl
   rw[e];rcases h with h|⟨h,p,hp,e1,e2⟩
   ·exact .inl h
   ·rcases List.mem_cons.mp hp with rfl|hp
    ·exact absurd e1 q
    ·exact .inr ⟨h,p,hp,e1,e2⟩
theorem relabel_cell{env:Env}{y:Str}(hk:env.scope.kind=.function)(hy:env.kindOf y=some .cell):∀{names:List (Str×NameKind)},names.lookup y=some .free ->
  (names.map λ(n,k)=>if (k==NameKind.free&&env.scope.kind==.function&&env.kindOf n==some .cell) then (n,NameKind.cell) else (n,k)).lookup y=some .cell:=by
 intro l;induction l with
 |nil=>exact @λh=>by simp at h
 |cons hd r ih=>
  obtain ⟨n,k⟩:=hd;intro h;show List.lookup y ((if (k==NameKind.free&&env.scope.kind==.function&&env.kindOf n==some .cell)=true then (n,NameKind.cell) else (n,k))::_)=_
  induction hx:y==n with
  |true=>
   simp only[List.lookup_cons,hx] at h;injection h;have e:=beq_iff_eq.mp hx;subst e;rw[if_pos (by rw[hk,hy];rfl)]
   simp[List.lookup_cons]
  |false=>
   simp only[List.lookup_cons,hx] at h;have ih:=ih h;split <;> (simp only[List.lookup_cons,hx];exact ih)
end
section
open PySem PySem.W PyProof.Rows PySem.SeqAt
open Sem (wp)
section
variable{K:Frag}{G:Addr->Obj->Prop}
theorem VPs_of_at{xs:List PV}:∀{vs:List Value},vs.length=xs.length->(∀(j:Nat) (w:Value),vs[j]?=some w->∃y,xs[j]?=some y/\VP K G y w)->VPs K G xs vs:=by
 induction xs with
 |nil=>
  intro vs e _;rw[List.eq_nil_of_length_eq_zero e];exact .nil
 |cons x xr ih=>
  intro vs e hp;induction vs using List.casesOn with
  |nil=>cases e
  |cons v vr=>
   obtain ⟨y,h1,h2⟩:=hp 0 v rfl;cases h1
   exact .c h2 (ih (Nat.succ.inj e) λj w hw=>hp (j+1) w hw)
theorem VPs_filter{p:Value->Bool}{q:Row->Bool}(hpq:∀r v,VP K G (rowP r) v->p v=q r){rows:List Row}:∀{vs:List Value},VPs K G (rows.map rowP) vs->VPs K G ((rows.filter q).map rowP) (vs.filter p):=by
 induction rows with
 |nil=>
  intro vs h;cases (h:vs=[])
  exact .nil
 |cons r rr ih=>
  intro vs h;obtain ⟨v,vr,rfl,h1,h2⟩:=h;rw[List.filter_cons,List.filter_cons,hpq r v h1];induction q r with
  |true=>exact .c h1 (ih h2)
  |false=>exact ih h2
theorem paired_eq:∀{l r:List Value},Paired (λv y=>y=v) l r->r=l
 |_,_,.nil=>rfl
 |_,_,.cons h t=>by rw[h,paired_eq t]
theorem paired_mod{n:Int}{l:List Int}:∀{vs ys:List Value},VPs K G (l.map PV.int) vs->Paired (λv y=>∃a t t',v=Value.int a t/\y=Value.int (a.fmod n) t') vs ys->VPs K G ((l.map (·.fmod n)).map PV.int) ys:=by
 induction l with
 |nil=>
  intro vs ys h p;cases (h:vs=[])
  cases p
  exact .nil
 |cons a l ih=>
  intro vs ys h p;obtain ⟨v,vr,rfl,h1,h2⟩:=h;cases p with
  |cons h3 h4=>
   obtain ⟨b,t,t',rfl,rfl⟩:=h3;obtain ⟨u,hu⟩:=(show ∃t,Value.int b _=.int a t from h1)
   injection hu;exact .c ⟨_,rfl⟩ (ih h2 h4)
theorem row_at{r:Row}{v:Value}(h:VP K G (rowP r) v){k:Nat}(hk:k<3):∃a o vs t,v=.ref a/\G a o/\zfJ o vs/\vs[k]?=some (.int (rowJ k r) t):=by
 obtain ⟨a,o,vs,rfl,h1,h2,_,h4⟩:=h
 have:([PV.int r.index,.int r.client,.int r.number,.int r.kind,.bytes r.key,.bytes r.word,.int r.code,obP r.old]:List PV)[k]?=some (.int (rowJ k r)):=by
  match k,hk with
  |0,_=>rfl
  |1,_=>rfl
  |2,_=>rfl
 obtain ⟨w,h5,h6⟩:=h4.get this;obtain ⟨t,rfl⟩:=(show ∃t,w=.int (rowJ k r) t from h6)
 exact ⟨a,o,vs,t,rfl,h1,h2,h5⟩
noncomputable def rowSel(h:Heap)(k:Nat)(op:CmpOp)(n:Int)(v:Value):Bool:=match v with
 |.ref a=>match h.get? a with
  |some o=>match o.data with
   |.seq arr _=>match arr[k]? with
    |some (.int i _)=>cmpI op i n
    |_=>false
   |_=>false
  |none=>false
 |_=>false
theorem rowSel_eq{h:Heap}(hG:∀a o,G a o->h.get? a=some o){r:Row}{v:Value}(hv:VP K G (rowP r) v){k:Nat}(hk:k<3){op:CmpOp}{n:Int}:rowSel h k op n v=cmpI op (rowJ k r) n:=by
 obtain ⟨a,o,vs,t,rfl,h1,⟨h2,m,h3⟩,h4⟩:=row_at hv hk;unfold rowSel;simp only[hG _ _ h1,h3];rw[show vs.toArray[k]?=some (.int (rowJ k r) t) by simpa using h4]
end
section
variable{f:FC}{g h:Heap}{m:Str->Option Value}{news Z:Led}{ρ μ:List Addr}{env:Env'}{objs:Objs}{tm:List (AV×Value)}
theorem cmp_known{M:Model}{op:CmpOp}(h:cmpKnown op=true){a b:Int}{t u:Tok}{prog:Program}{w:World}{A:Around}{s:Shared}{Q:Value->Shared->Prop}{E:Value->Shared->Prop}(hq:Q (.bool (cmpI op a b)) s):wpAny (model prog w) A (compareOp op (.int a t) (.int b u)) Q E s:=by
 induction op with
 |Eq=>exact eq_int hq
 |Gt=>exact gt_int hq
 |LtE=>exact le_int hq
 |_=>first|exact nn h|injection h
theorem scopeOK_at {csc sc:Scope} {x:Str} (h:zgL csc sc x=true):sc.kind=.function/\sc.names.lookup x=some .local/\(x==("__debug__":Str))=false/\(∀y∈sc.names,y.2≠.cell)/\(∀z∈sc.names,z.2=.local->sc.names.lookup z.1=some .local)/\∀z∈sc.names,z.2=.free->csc.names.lookup z.1=some .cell:=by
 unfold zgL at h;simp only[Bool.and_eq_true,beq_iff_eq,Bool.not_eq_true',List.all_eq_true,bne_iff_ne,ne_eq,Bool.or_eq_true] at h;obtain ⟨⟨⟨h1,h2⟩,h3⟩,h4⟩:=h;refine ⟨h1,h2,h3,λy hy=>(h4 y hy).1.1,λz hz e=>?_,λz hz e=>?_⟩
 ·rcases (h4 z hz).1.2 with q|q
  ·exact absurd e q
  ·exact q
 ·rcases (h4 z hz).2 with q|q
  ·exact absurd e q
  ·exact q
theorem const_int{M:Model}{A:Around}{E:Value->Shared->Prop}{s:Shared}{n:Int}{k:Nat}{kp:Pos}{env:Env}{Q:Value->Shared->Prop}(h:Q (.int n s.toks) {s with toks:=s.toks+1}):wpAny M A (eval (.Constant (.int n) k kp) env) Q E s:=λ_ _ _=>h
set_option tactic.hygienic true in
theorem zeC{α:Type}{y:Str}{v:α}:∀{l:List (Str×α)},l.lookup y=some v->(y,v)∈l:=by
 intro l;induction l with
 |nil=>exact @λh=>by injection h
 |cons hd r ih=>
  obtain ⟨n,k⟩:=hd;intro h;rw[List.lookup_cons] at h;split at h
  ·rename_i q;injection h;rw[beq_iff_eq.mp q];exact .head _
  ·exact .tail _ (ih h)
structure QuietC(f:FC)(Z:Led)(h:Heap)(sc:Scope)(e:Expr)(x:Str)(ifs:List Expr)(xs:List DV)(o:MObj)(p:Value->Bool)(F:Value->Value->Prop):Prop where
 quiet:∀(A:Around) (h2:Heap) (tk2:Nat) (wr:List Addr) (P:Nat->Value->Prop),(∀b ob,h.get? b=some ob->h2.get? b=some ob)->(∀b∈wr,h.get? b=none)->(∀(i:Nat) (w:Value),P i w->∃y,xs[i]?=some y/\VP f.cx.K (Fz f.cx.base Z) (plain y) w) ->
  QuietOnC f.cx.prog f.cx.w A f.env sc (closL f.cells sc.names []) x ifs e wr P p F {f.s₀ with heap:=h2,toks:=tk2}
 made:∀(vs ys:List Value),vs.length=xs.length->(∀(j:Nat) (w:Value),vs[j]?=some w->∃y,xs[j]?=some y/\VP f.cx.K (Fz f.cx.base Z) (plain y) w)->Paired F (vs.filter p) ys->xs.length<=big ->
  ∃ty l,o=.tl ty l/\l.length<=big/\VPs f.cx.K (Fz f.cx.base Z) (l.map ty.plain) ys
theorem comp_quiet (hdbg:f.sc.names.lookup ("__debug__":Str)=none) (c:Core f g m news Z ρ μ env objs tm h) {sc:Scope} {e:Expr} {x:Str} {ifs:List Expr} {xs:List DV} {o:MObj} (hs:zgL f.sc sc x=true) (ci:CompIs f.sc sc e x ifs xs env o):∃p F,QuietC f Z h sc e x ifs xs o p F:=by
 obtain ⟨s1,s2,s3,s4,s5,s6⟩:=scopeOK_at hs;have lx:∀{C:Addr},(compEnvC sc (closL f.cells sc.names []) C f.env).kindOf x=some .local:=lookup_relabel_local s2;have kd:∀{C:Addr},(compEnvC sc (closL f.cells sc.names []) C f.env).scope.kind=.function:=s1;induction ci with
 |@mod p1 p2 p3 n kk l hn=>
  refine ⟨λ_=>true,λv y=>∃a t t',v=Value.int a t/\y=Value.int (a.fmod n) t',⟨λA h2 tk2 wr P hk hw hP=>⟨?_,?_⟩,?_⟩⟩
  ·intro C i v s₃ m₃ E' _ hv hns hm hkp _
   exact wpAny_tests_nil ⟨rfl,s₃.heap,s₃.toks,rfl,λ_ _ q=>q⟩
  ·intro C i v s₃ m₃ E' _ hv _ hns hm hkp _
   obtain ⟨y,hy,hyv⟩:=hP i v hv;rw[List.getElem?_map] at hy;induction ha:l[i]? with
   |none=>rw[ha] at hy;injection hy
   |some a=>
    rw[ha] at hy;injection hy;obtain ⟨t,rfl⟩:=(show ∃t,v=.int a t from hyv)
    rw[arm_eval_BinOp];refine wpAny_bind (wpAny_Name (wpAny_loadName_local kd lx hns hm (wpAny_bind (wpAny_holding (const_int (wpAny_bind (wpAny_standAt (wpAny_operate' (mod_int' hn ?_)))))))) s3);exact ⟨⟨a,t,_,rfl,rfl⟩,s₃.heap,_,rfl,λ_ _ q=>q⟩
  ·intro vs ys hl hv hp hb
   have e1:vs.filter (λ_=>true)=vs:=by simp
   rw[e1] at hp;rw[List.length_map] at hb;refine ⟨.int,_,rfl,by show (List.map (λ(x:Int)=>x.fmod n) l).length<=big;rw[List.length_map];exact hb,?_⟩
   have:VPs f.cx.K (Fz f.cx.base Z) (l.map PV.int) vs:=VPs_of_at (by rw[hl,List.length_map,List.length_map]) λj w hw=>by
    obtain ⟨y,k1,k2⟩:=hv j w hw;rw[List.getElem?_map] at k1;induction ha:l[j]? with
    |none=>rw[ha] at k1;cases k1
    |some a=>rw[ha] at k1;cases k1;exact ⟨.int a,by rw[List.getElem?_map,ha];rfl,k2⟩
   exact paired_mod this hp
 |@sel y p1 p2 p3 p4 p5 p6 k kk op n rows hk3 hop hy1 hy2 hy3=>
  obtain ⟨nv,q1,q2⟩:=c.envr y _ hy3;obtain ⟨tn,rfl⟩:=(show ∃t,nv=.int n t from q1)
  have q2:f.sc.names.lookup y=some .cell/\∃c o,f.cells.lookup y=some c/\(c,o)∈news/\o.data=.cell (some (.int n tn)):=by
   rcases q2 with q2|q2
   ·rw[hy2] at q2;cases q2.1
   ·exact q2
  obtain ⟨_,cy,oy,q3,q4,q5⟩:=q2;have ly:∀{C:Addr},(compEnvC sc (closL f.cells sc.names []) C f.env).kindOf y=some .cell:=relabel_cell (env:=f.env) f.hk hy2 hy1;have lc:∀{C:Addr},(compEnvC sc (closL f.cells sc.names []) C f.env).cells.lookup y=some cy:=closL_look q3 (.inr ⟨rfl,(y,.free),zeC hy1,rfl,rfl⟩);have dy:(y==("__debug__":Str))=false:=beq_eq_false_iff_ne.mpr λe=>by rw[e,hdbg] at hy2;cases hy2
  refine ⟨rowSel h k op n,λv y=>y=v,⟨λA h2 tk2 wr P hk hw hP=>⟨?_,?_⟩,?_⟩⟩
  ·intro C i v s₃ m₃ E' _ hv hns hm hkp _
   obtain ⟨d,hd,hdv⟩:=hP i v hv;rw[List.getElem?_map] at hd;induction hr:rows[i]? with
   |none=>rw[hr] at hd;injection hd
   |some r=>
    rw[hr] at hd;injection hd;have hdv:VP f.cx.K (Fz f.cx.base Z) (rowP r) v:=by rw[plain_rowD] at hdv;exact hdv
    have sel:=rowSel_eq (h:=h) (λa o z=>c.fz z) hdv hk3 (op:=op) (n:=n)
    obtain ⟨a,ob,vs,t,rfl,g1,g2,g3⟩:=row_at hdv hk3;have old:∀b x,h.get? b=some x->s₃.heap.get? b=some x:=λb x e=>hkp b x (λz=>by rw[hw b z] at e;injection e) (hk b x e)
    have tup:IsTup s₃.heap a vs.toArray:=isTup_of (old _ _ (c.fz g1)) g2;have hn:k<vs.length:=(List.getElem?_eq_some_iff.mp g3).1;refine wpAny_tests_one (wpAny_isTrue_Compare1 ?_);rw[eval_Subscript];refine wpAny_bind (wpAny_Name (wpAny_loadName_local kd lx hns hm (wpAny_bind (wpAny_holding (const_int (wpAny_bind (wpAny_standAt ?_)))))) s3);refine tail_of (s:={s₃ with toks:=s₃.toks+1}) tup.typeIs slot_tuple_getitem.lookup (PyProof.Rows.getItem_tuple (s:={s₃ with toks:=s₃.toks+1}) tup (by lia) (by lia) (seqIndex_nat (by simpa using hn)) (by simpa using g3) ?_)
    refine wpAny_Name (wpAny_loadName_cell kd ly lc ⟨oy,old _ _ (c.nw _ q4).1,q5⟩ ?_) dy;refine cmp_known (M:=f.M) hop ?_
    refine wpAny_truthy_bool ⟨sel.symm,s₃.heap,_,rfl,λ_ _ z=>z⟩
  ·intro C i v s₃ m₃ E' _ hv _ hns hm hkp _
   exact wpAny_Name (wpAny_loadName_local kd lx hns hm ⟨rfl,s₃.heap,s₃.toks,rfl,λ_ _ z=>z⟩) s3
  ·intro vs ys hl hv hp hb
   rw[paired_eq hp];rw[List.length_map] at hb;refine ⟨.row,_,rfl,Nat.le_trans (List.length_filter_le ..) hb,?_⟩;refine VPs_filter (λr v hv=>rowSel_eq (h:=h) (λa o z=>c.fz z) hv hk3) ?_
   refine VPs_of_at (by rw[hl,List.length_map,List.length_map]) λj w hw=>?_
   obtain ⟨d,k1,k2⟩:=hv j w hw;rw[List.getElem?_map] at k1;induction hr:rows[j]? with
   |none=>rw[hr] at k1;cases k1
   |some r=>rw[hr] at k1;cases k1;exact ⟨rowP r,by rw[List.getElem?_map,hr];rfl,by rw[plain_rowD] at k2;exact k2⟩
end
end
section
open PySem PySem.W PyProof.Rows PySem.SeqAt
open Sem (wp)
section
variable{f:FC}{g hh:Heap}{m:Str->Option Value}{news Z:Led}{ρ μ:List Addr}{env:Env'}{objs:Objs}{tm:List (AV×Value)}
theorem comp_split{e:Expr}{sc:Scope}{env:Env}{pos:Pos}{na:Sem Value}{b:Bool}{first:Sem Value}{use:Option (Value->Sem Unit)}:comprehension e sc env pos na b first use=first >>= λx=>comprehension e sc env pos na b (pure x) use:=by
 unfold comprehension
 congr 1
theorem comp_run (hdbg:f.sc.names.lookup ("__debug__":Str)=none) (hcells:∀n,f.sc.names.lookup n=some .cell->∃c,f.cells.lookup n=some c) (c:Core f g m news Z ρ μ env objs tm hh) {it:AV} {v:Value} (hv:VA f.cx.K (Fz f.cx.base Z) ρ it v) {xs:List DV} (hi:zaM objs it=some xs) (hl:listy it=true)
  {sc:Scope} {e:Expr} {x:Str} {ifs:List Expr} {o:MObj} (hs:zgL f.sc sc x=true) (ci:CompIs f.sc sc e x ifs xs env o) (hb:xs.length<=big) {A:Around} (hA:A.handled=none) {tk:Nat} {itE:Expr} {xp cp pos:Pos} (hns:∀y,foldedSetIterable itE f.env y=pure y) {use:Option (Value->Sem Unit)}
  {Q:Value->Shared->Prop} {E:Value->Shared->Prop}
  (k:∀D C h' tk' news' m' oC,Core f g m news' Z (ρ++[D]) (μ++[D]) env (objs++[o]) tm h'->(C,oC)∈news'->(∀h2:Heap,h2.get? C=some oC->h2.Ns C m')->C∉μ++[D]->(∀p∈Z,p.1≠C)->C∉f.ca->C∉f.news₀.map (·.1) ->
   compPost f.M A E use Q (.ref D) C (.ok .next) {f.s₀ with heap:=h',toks:=tk'}) :
  wpAny f.M A (comprehension (.ListComp e [⟨.Name x xp,itE,ifs,0⟩] sc cp) sc f.env pos (newList []) false (pure v) use) Q E {f.s₀ with heap:=hh,toks:=tk}:=by
 obtain ⟨s1,s2,s3,s4,s5,s6⟩:=scopeOK_at hs;obtain ⟨p,F,qc⟩:=comp_quiet hdbg c hs ci;obtain ⟨a,ob,vs,rfl,e2,⟨e3,n,e4⟩,e5⟩:=zgP c hv hi hl;have alloc:∀p∈news,p.1<hh.objs.size:=λp hp=>Heap.lt_size (c.nw p hp).1
 have fresh:∀b,hh.get? b=none->b∉news.map (·.1):=λb hb q=>by
  obtain ⟨p,hp,e⟩:=List.mem_map.mp q;rw[←e,(c.nw p hp).1] at hb;injection hb
 have frca:∀b,b∉news.map (·.1)->b∉f.ca:=λb hb q=>by
  obtain ⟨_,ob,u,h3,_⟩:=c.cells _ q;exact hb (List.mem_map.mpr ⟨_,h3,rfl⟩)
 have fr0:∀b,b∉news.map (·.1)->b∉f.news₀.map (·.1):=λb hb q=>by
  obtain ⟨p,hp',e⟩:=List.mem_map.mp q;by_cases z:p.1∈f.μ₀
  ·obtain ⟨tl,ht⟩:=c.kept.mpre
   exact hb (e▸c.mu_key (by rw[←ht];exact List.mem_append_left _ z))
  ·exact hb (List.mem_map.mpr ⟨p,c.kept.old p hp' z,e⟩)
 refine wpAny_comprehension_free (use:=use) rfl hns (closureFor_eq λq hq e=>hcells _ (s6 q hq e)) s1 s5 (wpAny_pure (wpAny_pyIter_list (s:={f.s₀ with heap:=hh,toks:=tk}) ⟨ob,e2,e3,n,e4⟩ ?_))
 generalize hio:({cls:=.type "list_iterator",data:=.fields #[.ref a,.int 0 0]}:Obj)=oI
 have hne:a≠hh.objs.size:=Nat.ne_of_lt (Heap.lt_size e2);have W:=Walks.list (prog:=f.cx.prog) (w:=f.cx.w) hA hh.objs.size a hne vs.toArray;have lv:vs.length=xs.length:=by rw[e5.length,List.length_map]
 have items:∀(i:Nat) (w:Value),vs.toArray[i]?=some w->∃y,xs[i]?=some y/\VP f.cx.K (Fz f.cx.base Z) (plain y) w:=λi w hw=>by
  have hw:vs[i]?=some w:=by simpa using hw
  have hlt:=(List.getElem?_eq_some_iff.mp hw).1;have hx:xs[i]?=some xs[i]:=List.getElem?_eq_getElem (by lia)
  obtain ⟨w',h1,h2⟩:=e5.get (i:=i) (x:=plain xs[i]) (by rw[List.getElem?_map,hx];rfl)
  rw[hw] at h1;injection h1;exact ⟨_,hx,h2⟩
 have up:∀b o,hh.get? b=some o->(hh.push oI).get? b=some o:=λb o e=>Heap.get?_push_of_some _ e
 refine comp_block_walkC (RR:=λacc C=>compPost f.M A E use Q acc C) W (by rw[List.size_toArray,lv,sizeLine_eq];exact Nat.le_trans hb (by decide)) p F s4 s1 s2 ?_ ?_
  (qc.quiet A (hh.push oI) tk [hh.objs.size] _ up (λb hb=>by rw[List.mem_singleton.mp hb];exact Heap.get?_none_of_le (Nat.le_refl _)) items) ?_
 ·exact ⟨⟨_,by rw[←hio];exact Heap.get?_push_size _ rfl,rfl,rfl⟩,⟨ob,up _ _ e2,e3,n,e4⟩⟩
 ·intro b hb
  rw[Heap.size_push];rcases List.mem_cons.mp hb with rfl|hb
  ·exact Nat.lt_succ_self _
  ·rw[List.mem_singleton.mp hb];exact Nat.lt_succ_of_lt (Heap.lt_size e2)
 ·intro D C h' tk' m' ys ws hD hC hDC hn hlD hpl hlen hP hF hk
  have hk':∀b o,hh.get? b=some o->h'.get? b=some o:=λb o e=>hk b o (λq=>by rw[List.mem_singleton.mp q,Heap.get?_none_of_le (Nat.le_refl _)] at e;injection e) (up b o e)
  have hD':hh.get? D=none:=by
   induction q:hh.get? D with
   |none=>rfl
   |some o=>rw[up _ _ q] at hD;injection hD
  have hC':hh.get? C=none:=by
   induction q:hh.get? C with
   |none=>rfl
   |some o=>rw[up _ _ q] at hC;injection hC
  obtain ⟨ty,l,rfl,hll,hys⟩:=qc.made ws ys.toList (by rw[hlen,List.size_toArray,lv]) (λj w hw=>items j w (hP j w hw)) hF hb
  obtain ⟨nD,hDo⟩:=hpl;have FF:Fr g f.L h' m:=c.fr.grownK hk'
  have gn:∀b,hh.get? b=none->g.get? b=none:=λb hb=>by
   induction q:g.get? b with
   |none=>rfl
   |some o=>rw[c.fr.keep _ _ q] at hb;injection hb
  have nL:∀b,hh.get? b=none->b≠f.L:=λb hb q=>by
   obtain ⟨oL,_,_,hL,_⟩:=c.fr.ns;rw[q,hL] at hb;injection hb
  have N1:News g f.L h' ((D,listOf ys.toList.toArray nD)::news):=λq hq=>by
   rcases List.mem_cons.mp hq with rfl|hq
   ·refine ⟨?_,nL _ hD',gn _ hD'⟩
    show h'.get? D=some (listOf ys.toList.toArray nD)
    rw[hDo]
   ·exact ⟨hk' _ _ (c.nw q hq).1,(c.nw q hq).2⟩
  have c1:Core f g m ((D,listOf ys.toList.toArray nD)::news) Z (ρ++[D]) (μ++[D]) env (objs++[.tl ty l]) tm h':=
   c.newObj FF N1 (by rw[List.map_cons,List.nodup_cons];exact ⟨fresh _ hD',c.rel.nd⟩) (λq hq=>.tail _ hq) (λq hq=>.inl hq) (λq hq=>hq) (fresh _ hD') ⟨rfl,hll,_,nD,.head _,hys⟩
  have hCn:C∉((D,listOf ys.toList.toArray nD)::news).map (·.1):=λq=>by
   rw[List.map_cons] at q;rcases List.mem_cons.mp q with q|q
   ·exact hDC q.symm
   ·exact fresh _ hC' q
  obtain ⟨oC,es,ep,hCo,hCd,r1,r2⟩:=hn
  have N2:News g f.L h' ((C,oC)::(D,listOf ys.toList.toArray nD)::news):=λq hq=>by
   rcases List.mem_cons.mp hq with rfl|hq
   ·exact ⟨hCo,nL _ hC',gn _ hC'⟩
   ·exact N1 q hq
  refine k D C h' tk' _ m' oC (c1.addI FF N2 hCn) (.head _) (λh2 e=>⟨oC,es,ep,e,hCd,r1,r2⟩) (λq=>?_) (λq hq e=>?_) (frca _ (fresh _ hC')) (fr0 _ (fresh _ hC'))
  ·exact hCn (c1.mu_key q)
  ·exact fresh _ hC' (List.mem_map.mpr ⟨q,c.rel.zin q hq,e⟩)
end
end
section
open PySem PySem.W PyProof.Rows PySem.SeqAt
open Sem (wp)
structure HypK(f:FC)(Sp:Spec):Prop where
 comp:∀csc e x ifs a xs env objs o,Sp.comp csc e x ifs a xs env objs o->listy a=true/\zgL f.sc csc x=true/\CompIs f.sc csc e x ifs xs env o/\xs.length<=big
 swap:∀z csc,Sp.swap z csc->f.sc.names.lookup z=some .local/\(csc.names.any λp=>p.1==z&&(p.2==.local||p.2==.cell))=false
 cells:∀n,f.sc.names.lookup n=some .cell->∃c,f.cells.lookup n=some c
section
variable{f:FC}{Sp:Spec}{lc:Nms}{ih:Task->S->Out}{tm:List (AV×Value)}{st:S}
theorem folded_plain{it:Expr}{env:Env}(q:notSet it=true):∀x,foldedSetIterable it env x=pure x:=by
 intro x;induction it using Expr.casesOn with
 |Set _ _ _=>exact ff q
 |_=>rfl
theorem last_r{ρ:List Addr}{D:Addr}{objs:Objs}(h:ρ.length=objs.length):(ρ++[D])[objs.length]?=some D:=by
 rw[List.getElem?_append_right (by rw[h];exact Nat.le_refl _)]
 simp[h]
theorem step_ListComp(H:Hyp f Sp lc)(HK:HypK f Sp)(I:IH f ih){e it:Expr}{x:Str}{xp cp:Pos}{ifs:List Expr}{csc:Scope}:
  Sim f tm st (match notSet it with
   |false=>none
   |true=>zaK (ih (.ev it) st) λit st=>opb (zaM st.objs it) λxs=>opb (takeComp st.ans) λq=>bsel (!st.h) (newO q.1 {st with ans:=q.2,obl:=st.obl++[Sp.comp csc e x ifs it xs st.env st.objs q.1]}) none) (eval (.ListComp e [⟨.Name x xp,it,ifs,0⟩] csc cp) f.env) (pV f tm):=by
 induction q:notSet it with
 |false=>exact Sim.none
 |true=>
  rw[eval_ListComp,comp_split];refine (I.ev it st tm).bindV pV.exc λa st1 v _ hst=>zaI λxs hi=>zaI λw _=>zc4 λhh=>?_
  rw[Bool.not_eq_true'] at hh;intro r st' er;injection er;refine ⟨rfl,zaL,λhob A hA s Q E C hp=>?_⟩
  have kk:=HK.comp _ _ _ _ _ _ _ _ _ hob.last;obtain ⟨hp0,tk,g,m,news,Z,ρ,μ,rfl,c⟩:=C;refine .of (comp_run (use:=none) H.dbg HK.cells c (c.tmr _ (.head _)) hi kk.1 kk.2.1 kk.2.2.1 kk.2.2.2 (hA.hand hh) (folded_plain q) λD C h' tk' news' m' oC c2 hC hn h1 h2 h3 h4=>?_)
  refine ⟨m',hn _ (c2.nw _ hC).1,λh'' hs=>?_⟩
  exact hp _ _ ⟨h'',tk',g,m,_,Z,_,_,rfl,((c2.dropI h1 h2 h3 h4 hs.extBut (c2.nw _ hC).2.1 (c2.nw _ hC).2.2).drop λp hp=>.tail _ hp).tmp (a:=.r st1.objs.length) ⟨D,last_r c.rel.lr,rfl⟩⟩
theorem swaps_true(hz:f.sc.names.lookup z=some .local){csc:Scope}(hc:(csc.names.any λp=>p.1==z&&(p.2==.local||p.2==.cell))=false){e it:Expr}{x:Str}{xp zp cp:Pos}{ifs:List Expr}{n:Nat}(hl:zp.line=cp.line):
  swapsWith (.ListComp e [⟨.Name x xp,it,ifs,0⟩] csc cp) (some (.Name z zp)) n f.env=pure true:=by
 have hb:f.env.blockKind=.function:=by
  have:f.env.scope.kind=.function:=f.hk;unfold Env.blockKind;rw[this];rfl
 have hk:f.env.kindOf z=some .local:=hz;show pure (f.env.blockKind==.function&&f.env.kindOf z==some .local&&zp.line==cp.line&&!(csc.names.any λp=>p.1==z&&(p.2==.local||p.2==.cell)))=pure true
 rw[hb,hk,hc,hl];simp
theorem step_AssignComp(H:Hyp f Sp lc)(HK:HypK f Sp)(I:IH f ih){e it:Expr}{x z:Str}{xp cp zp ap:Pos}{ifs:List Expr}{csc:Scope}:
  Sim f [] st (asgComp Sp lc ih ⟨z,zp,e,x,it,ifs,csc,cp⟩ st) (exec (.Assign [.Name z zp] (.ListComp e [⟨.Name x xp,it,ifs,0⟩] csc cp) ap) f.env) (pF f):=by
 refine zc4 λq1=>?_
 obtain ⟨q1,q⟩:=zb1 q1;obtain ⟨hz,hl⟩:=zb1 q1;have hl:=Nat.eq_of_beq_eq_true hl;intro r st' er;obtain ⟨⟨w,st1⟩,e1,er⟩:=za3 er;induction w with
 |v a=>
  obtain ⟨xs,hi,er⟩:=za3 er;obtain ⟨o,_,er⟩:=za3 er;obtain ⟨hh,er⟩:=ze0 er;rw[Bool.not_eq_true'] at hh;injection er;obtain ⟨h1,h2,h3⟩:=I.ev it st [] _ _ e1;refine ⟨h1,λp hp=>zaL p (h2 p hp),λhob A hA s Q E C hp=>?_⟩
  have kk:=HK.comp _ _ _ _ _ _ _ _ _ hob.last.1;have ww:=HK.swap _ _ hob.last.2;rw[exec_Assign_Name_used _ _ _ _ (swaps_true ww.1 ww.2 hl)];refine za0 (zaS (za0 ?_));show wpB f.M A (comprehension (.ListComp e [⟨.Name x xp,it,ifs,0⟩] csc cp) csc f.env _ (newList []) false (eval it f.env) (some (assign (.Name z zp) f.env)) >>= λ_=>pure ()) _ _ s
  rw[comp_split];refine za0 (za0 (h3 (hob.sub zaL) A hA s _ E C λv s' C'=>?_))
  obtain ⟨hp0,tk,g,m,news,Z,ρ,μ,rfl,c⟩:=C';refine .of (comp_run (use:=some (assign (.Name z zp) f.env)) H.dbg HK.cells c (c.tmr _ (.head _)) hi kk.1 kk.2.1 kk.2.2.1 kk.2.2.2 (hA.hand (h1▸hh)) (folded_plain q) λD C h' tk' news' m' oC c2 hC hn g1 g2 g3 g4=>?_)
  show wpAny f.M A (assign (.Name z zp) f.env (.ref D)) _ _ _
  refine wpAny_assign_Name (storeX_L (cl:=f.cells) (s:={f.s₀ with heap:=h',toks:=tk'}) c2.fr c2.nw (λh2' F' N'=>?_) f.hk ww.1)
  have c3:=c2.stLocal (a:=.r st1.objs.length) ww.1 ⟨D,last_r c.rel.lr,rfl⟩ F' N';refine ⟨m',hn _ (c3.nw _ hC).1,λh'' hs=>?_⟩
  exact za4 (za4 (hp _ ⟨h'',tk'+1,g,_,_,Z,_,_,rfl,(c3.dropI g1 g2 g3 g4 hs.extBut (c3.nw _ hC).2.1 (c3.nw _ hC).2.2).drop λp hp=>nm hp⟩))
 |_=>exact nn er
end
end
section
open PySem PySem.W PyProof.Rows PySem.SeqAt PySem.Builtin PySem.Builtin.Str
open Sem (wp)
theorem zcE{α:Type}{M:Model}{A:Around}{t t':Sem α}{Q:α->Shared->Prop}{E:Value->Shared->Prop}{s:Shared}(e:t=t')(h:wpAny M A t' Q E s):wpAny M A t Q E s:=e▸h
section
variable{prog:Program}{w:World}{A:Around}{E:Value->Shared->Prop}{s:Shared}{Q:Value->Shared->Prop}{n i j:Int}{t u:Tok}
theorem fmt_kind (h0:0<=n) (h1:n<10 ^ 10) (h:∀x t' k,Q (.str x t') {s with toks:=k}):wpAny (model prog w) A (binaryOp .Mod (.str (PySem.Str.ofString "no command is of kind %d") t) (.int n u)) Q E s:=by
 refine' KPc.mod_int ?kpcF h0 h1 ?kpcm ?_
 case kpcF=>kpc_eq
 case kpcm=>
  intros
  apply KPc.meets_of;intro _ _ _ _ _ _ _;rw[KPc.entry_is];unfold Builtin.Str.percentFormat;refine wpAny_bind (wpAny_isInstance (typeIs_int _ _ _) F.sub_int_tuple ?_);refine wpAny_bind (wpAny_of_eq (a:=none) rfl ?_);refine wpAny_bind (wpAny_of_eq (KPc.fills _ _) ?_)
  kpc_if
  refine wpAny_bind (wpAny_pure ?_);refine wpAny_bind ?_
  rw[KPc.range_list];refine KPc.start ?_
  intro _ _;refine KPc.turn ?_
  kpc_check
  refine wpAny_of_eq (a:=ForInStep.yield _) rfl ?_
  kpc_piece
  refine KPc.turn ?_
  kpc_check
  refine zcE (t':=_ >>= _) rfl ?_
  refine wpAny_bind ?_;refine wpAny_holding ?_
  refine zcE (t':=_ >>= _) rfl ?_
  refine wpAny_bind (wpAny_of_eq (a:=_) rfl ?_);refine zcE (t':=_ >>= _) rfl ?_
  refine wpAny_bind (wpAny_mkInt ?_);refine wpAny_bind (call_gives F.slot_int_repr (typeIs_int _ _ _) F.entry_int_repr (F.args_int_repr_1 _) (gives_int_repr _ _ (by with_reducible assumption)) ⟨int_text_fits (by with_reducible assumption),?_⟩)
  refine wpAny_bind (wpAny_of_eq (a:=some _) rfl ?_);refine wpAny_pure ?_;refine wpAny_pure ?_;kpc_piece;refine KPc.turn ?_
  kpc_check
  refine zcE (t':=pure _) rfl ?_
  kpc_close
 intro t' k;exact h _ _ _
theorem fmt_entry {b:Addr} {t1 t2:Tok} (ht:IsTup s.heap b #[.int i t1,.int j t2]) (h0:0<=i) (h1:i<10 ^ 10) (h2:0<=j) (h3:j<10 ^ 10) (h:∀x t' k,Q (.str x t') {s with toks:=k}):wpAny (model prog w) A (binaryOp .Mod (.str (PySem.Str.ofString "entry %d does not follow %d") t) (.ref b)) Q E s:=by
 have hT:s.TypeIs (.ref b) "tuple":=by
  obtain ⟨o,ho,hc,_⟩:=ht;exact ⟨o,ho,hc⟩
 have go:∀{X X' T:PySem.Str},X=X'->Meets («str.__mod__» ⟨[.str X' t,.ref b],[]⟩) (λ_ R s=>IsTup s.heap b #[.int i t1,.int j t2]/\∀t' k,R (.ok (.ret (.str T t'))) {s with toks:=k})->wpAny (model prog w) A (binaryOp .Mod (.str X t) (.ref b)) Q E s:=by
  intro X X' T hX hm;subst hX
  exact KPt.bin_left (T := "str") (U := "tuple") (op:=.Mod) (by decide) (typeIs_str s X t) hT F.fills_str_mod KPt.fills_tuple F.slot_str_mod
   (call_meets F.slot_str_mod (typeIs_str s X t) F.entry_str_mod (F.args_str_mod_2 _ _) hm ⟨ht,λt' k=>⟨(λe=>nomatch e),h T t' k⟩⟩)
 refine' go ?kpcF ?kpcm
 case kpcF=>kpt_eq
 case kpcm=>
  apply KPt.meets_tup;intro _ _ _ _ _ _ kptH _;obtain ⟨kptO,kptG,kptC,kptN,kptD⟩:=kptH;rw[KPt.entry_is_r];unfold Builtin.Str.percentFormat;refine wpAny_bind (wpAny_isInstance (T := "tuple") ⟨kptO,kptG,kptC⟩ KPt.sub_tt ?_)
  refine wpAny_bind (KPt.asStr_ref kptG kptD ?_);refine wpAny_bind (KPt.fills_ref ⟨kptO,kptG,kptC⟩ ?_);intro _
  kpc_if
  refine wpAny_bind (wpAny_seqItems kptG kptD ?_);refine wpAny_bind (wpAny_pure ?_);refine wpAny_bind ?_
  rw[KPc.range_list];refine KPc.start ?_
  intro _ _;refine KPc.turn ?_
  kpc_check
  refine wpAny_of_eq (a:=ForInStep.yield _) rfl ?_
  kpt_piece
  refine KPc.turn ?_
  kpc_check
  refine zcE (t':=_ >>= _) rfl ?_
  refine wpAny_bind ?_;refine wpAny_holding ?_
  refine zcE (t':=_ >>= _) rfl ?_
  refine wpAny_bind (wpAny_of_eq (a:=_) rfl ?_);refine zcE (t':=_ >>= _) rfl ?_
  refine wpAny_bind (wpAny_mkInt ?_);refine wpAny_bind (call_gives F.slot_int_repr (typeIs_int _ _ _) F.entry_int_repr (F.args_int_repr_1 _) (gives_int_repr _ _ (KPt.hd2 (by kpt_hd))) ⟨int_text_fits (KPt.hd2 (by kpt_hd)),?_⟩)
  refine wpAny_bind (wpAny_of_eq (a:=some _) rfl ?_);refine wpAny_pure ?_;refine wpAny_pure ?_;kpt_piece;refine KPc.turn ?_
  kpc_check
  refine wpAny_of_eq (a:=ForInStep.yield _) rfl ?_
  kpt_piece
  refine KPc.turn ?_
  kpc_check
  refine zcE (t':=_ >>= _) rfl ?_
  refine wpAny_bind ?_;refine wpAny_holding ?_
  refine zcE (t':=_ >>= _) rfl ?_
  refine wpAny_bind (wpAny_of_eq (a:=_) rfl ?_);refine zcE (t':=_ >>= _) rfl ?_
  refine wpAny_bind (wpAny_mkInt ?_);refine wpAny_bind (call_gives F.slot_int_repr (typeIs_int _ _ _) F.entry_int_repr (F.args_int_repr_1 _) (gives_int_repr _ _ (KPt.hd2 (by kpt_hd))) ⟨int_text_fits (KPt.hd2 (by kpt_hd)),?_⟩)
  refine wpAny_bind (wpAny_of_eq (a:=some _) rfl ?_);refine wpAny_pure ?_;refine wpAny_pure ?_;kpt_piece;refine KPc.turn ?_
  kpc_check
  refine zcE (t':=pure _) rfl ?_
  kpc_close
end
section
variable{f:FC}{Sp:Spec}{lc:Nms}{ih:Task->S->Out}{tm:List (AV×Value)}{st:S}
theorem sim_fmt{fmt:PySem.Str}{b:AV}{u:Value}{t:Tok}(hu:(b,u)∈tm):Sim f tm st (fmtV fmt b st) (binaryOp .Mod (.str fmt t) u) (pV f tm):=by
 induction b with
 |r _=>exact Sim.none
 |d x=>
  induction x using DV.casesOn with
  |int n=>
   refine zc4 λq=>?_
   cases eqN_iff.mp q
   refine Sim.valH zaL λhob A hA hh tk g m news Z ρ μ c Q E hq=>?_
   obtain ⟨t',rfl⟩:=(show ∃t,u=.int n t from c.tmr _ hu)
   exact fmt_kind (s:={f.s₀ with heap:=hh,toks:=tk}) hob.last.1 hob.last.2 λx t' k=>hq _ hh k c.fr c.nw ⟨_,_,rfl⟩
  |tup xs=>
   refine zaI λp hp=>zc4 λq=>?_
   cases eqN_iff.mp q
   obtain ⟨i,r1,e1,hp⟩:=zbC int?_plain hp;obtain ⟨j,r2,e2,hp⟩:=zbC int?_plain hp;obtain ⟨e3,rfl⟩:=zhX hp;refine Sim.valH zaL λhob A hA hh tk g m news Z ρ μ c Q E hq=>?_
   obtain ⟨a,o,vs,rfl,h1,h2,_,h4⟩:=(c.tmr _ hu:RefX (Fz f.cx.base Z) zfJ (zaU xs).length (VPs f.cx.K (Fz f.cx.base Z) (zaU xs)) u);rw[e1,e2,e3] at h4;obtain ⟨v1,r1,rfl,h5,v2,r2,rfl,h6,h7⟩:=h4;cases (h7:r2=[])
   obtain ⟨t1,rfl⟩:=(show ∃t,v1=.int i t from h5)
   obtain ⟨t2,rfl⟩:=(show ∃t,v2=.int j t from h6)
   have k:=hob.last;exact fmt_entry (s:={f.s₀ with heap:=hh,toks:=tk}) (isTup_of (c.fz h1) h2) k.1 k.2.1 k.2.2.1 k.2.2.2 λx t' k=>hq _ hh k c.fr c.nw ⟨_,_,rfl⟩
  |_=>exact Sim.none
theorem step_Fmt(I:IH f ih){fmt:PySem.Str}{b:Expr}{k:Nat}{kp pos:Pos}:Sim f tm st (zaK (ih (.ev b) st) λb st=>fmtV fmt b st) (eval (.BinOp (.Constant (.str fmt) k kp) .Mod b pos) f.env) (pV f tm):=by
 rw[arm_eval_BinOp]
 have S1:∀t:Tok,Sim f tm st (zaK (ih (.ev b) st) λb st=>fmtV fmt b st) (holding [.str fmt t] (eval b f.env) >>= λu=>standAt pos >>= λ_=>operate [.str fmt t,u] (binaryOp .Mod (.str fmt t) u)) (pV f tm):=λt=>
  (I.ev b st tm).holding.bindV pV.exc λy st2 u _ _=>Sim.stand (Sim.oper ((sim_fmt (tm:=(y,u)::tm) (.head _)).up zdH))
 intro r st' e;obtain ⟨h1,h2,_⟩:=S1 0 r st' e;exact ⟨h1,h2,λhob A hA s Q E C hp=>za8 (const_str ((S1 s.toks r st' e).3 hob A hA _ Q E (C.tok _) hp))⟩
end
end
section
open PySem PySem.W PyProof.Rows PySem.SeqAt
open Sem (wp)
structure Laws(f:FC)(Sp:Spec)(lc:Nms):Prop where
 H:Hyp f Sp lc
 C:HypC f Sp
 E:HypE f.cx.K
 K:HypK f Sp
 L:∀t b it xs env objs fl e os,Sp.loop t b it xs env objs fl e os->LoopOK f t b it xs env objs fl e os
structure Runs(f:FC)(ih:Task->S->Out):Prop where
 I:IH f ih
 len:LEN ih
 fs:FS f ih
 unp:UNP f ih
 ust:∀(ts:List Expr) xs (st:S) r st',ih (.unp ts xs) st=some (r,st')->∀x∈assignEach ts f.env,x.1=false
 nst:NST ih
 hd:HANDS f ih
section
variable{f:FC}{Sp:Spec}{lc:Nms}{ih:Task->S->Out}{tm:List (AV×Value)}{st:S}
theorem step_Joined(R:Runs f ih){a b:Expr}{r:List Expr}{pos:Pos}:Sim f tm st (match Nat.ble (a::b::r).length 1000 with|true=>ih (.fs (a::b::r)) st|false=>none) (eval (.JoinedStr (a::b::r) pos) f.env) (pV f tm):=by
 induction q:Nat.ble (a::b::r).length 1000 with
 |false=>exact Sim.none
 |true=>
  have hq:=Nat.le_of_ble_eq_true q;rw[arm_eval_JoinedStr]
  exact R.fs (a::b::r) st tm Str.empty (by
   have:Str.empty.length=0:=rfl
   lia)
set_option tactic.hygienic true in
theorem step_While(R:Runs f ih){c:Expr}{b:List Stmt}{pos:Pos}:Sim f [] st (match ih (.tst c) st with|some (.b false,st)=>some (.fl .next,st)|_=>none) (exec (.While c b [] pos) f.env) (pF f):=by
 intro r st' e;split at e
 ·rename_i st1 e1
  injection e;obtain ⟨h1,h2,h3⟩:=R.I.tst c st [] _ _ e1;refine ⟨h1,h2,λhob A hA s Q E C hp=>?_⟩
  rw[exec_While];refine za0 (zaS (zfT (zaX rfl ?_) nofun));show wpB _ _ ((whileTurn c b [] f.env).onRaise (λx=>do noteFrame x f.env;theTreesLotGoes x)) _ _ s
  refine wpB_noted ?_
  simp only[whileTurn];have hA':AOK f st.h ((A.mark none).under (.whileLoop c b [] f.env)):=⟨hA.frames,hA.room,hA.units,hA.hand,hA.guards⟩;refine za0 (h3 hob _ hA' s _ _ C λs' C'=>?_)
  show wpB _ _ (execs [] f.env >>= λf=>pure (Fin.done f)) _ _ s'
  rw[arm_execs_nil];exact za0 (za4 (za4 (hp s' C')))
 ·first|exact nn e|injection e
theorem fmtOf_some{a:Expr}{op:Operator}{s:Str}(h:fmtOf a op=some s):op=.Mod/\∃k p,a=.Constant (.str s) k p:=by
 induction op with
 |Mod=>exact ⟨rfl,strOf_some h⟩
 |_=>exact nn h
theorem step_BinOp(X:Laws f Sp lc)(R:Runs f ih){a b:Expr}{op:Operator}{p:Pos}:Sim f tm st (zaJ Sp lc ih (.ev (.BinOp a op b p)) st) (eval (.BinOp a op b p) f.env) (pV f tm):=by
 show Sim f tm st (match fmtOf a op with
  |some fmt=>zaK (ih (.ev b) st) λb st=>fmtV fmt b st
  |none=>zaK (ih (.ev a) st) λa st=>zaK (ih (.ev b) st) λb st=>
    match a,b with
    |.d a,.d b=>binop op a b st
    |_,_=>none) _ _
 induction q:fmtOf a op with
 |some fmt=>obtain ⟨rfl,k,p',rfl⟩:=fmtOf_some q;exact step_Fmt R.I
 |none=>exact bin_plain R.I
theorem step_Sub(R:Runs f ih){o i:Expr}{p:Pos}:Sim f tm st (zaJ Sp lc ih (.ev (.Subscript o i p)) st) (eval (.Subscript o i p) f.env) (pV f tm):=by
 induction i using Expr.casesOn with
 |Slice l u s q=>
  induction s with
  |none=>exact sub_slice R.I
  |some _=>exact sub_plain R.I
 |_=>exact sub_plain R.I
theorem step_Bool(R:Runs f ih){op:BoolOp}{xs:List Expr}{p:Pos}:Sim f tm st (zaJ Sp lc ih (.ev (.BoolOp op xs p)) st) (eval (.BoolOp op xs p) f.env) (pV f tm):=by
 match xs with
 |[]|[_]|_::_::_::_=>cases op <;> exact Sim.none
 |[a,b]=>
  induction op with
  |And=>exact step_And (Sp:=Sp) (lc:=lc) R.I
  |Or=>exact step_Or (Sp:=Sp) (lc:=lc) R.I
theorem step_Cmp(R:Runs f ih){a:Expr}{ops:List CmpOp}{bs:List Expr}{p:Pos}:Sim f tm st (zaJ Sp lc ih (.ev (.Compare a ops bs p)) st) (eval (.Compare a ops bs p) f.env) (pV f tm):=by
 induction ops using List.casesOn with
 |nil=>exact Sim.none
 |cons op r=>
  induction r using List.casesOn with
  |cons _ _=>exact Sim.none
  |nil=>
   induction bs using List.casesOn with
   |nil=>exact Sim.none
   |cons b r=>
    induction r using List.casesOn with
    |cons _ _=>exact Sim.none
    |nil=>exact step_Compare (Sp:=Sp) (lc:=lc) R.I
theorem step_Call(X:Laws f Sp lc)(R:Runs f ih){g:Expr}{as:List Expr}{kw:List Keyword}{p:Pos}:Sim f tm st (zaJ Sp lc ih (.ev (.Call g as kw p)) st) (eval (.Call g as kw p) f.env) (pV f tm):=by
 induction g using Expr.casesOn with
 |Name x q=>
  induction kw using List.casesOn with
  |nil=>exact step_CallName X.H X.C R.I
  |cons _ _=>exact Sim.none
 |Attribute o m q=>
  induction kw using List.casesOn with
  |nil=>exact step_CallAttr (lc:=lc) X.C R.I
  |cons _ _=>exact Sim.none
 |_=>exact Sim.none
theorem step_LC(X:Laws f Sp lc)(R:Runs f ih){e:Expr}{gs:List Comprehension}{csc:Scope}{p:Pos}:Sim f tm st (zaJ Sp lc ih (.ev (.ListComp e gs csc p)) st) (eval (.ListComp e gs csc p) f.env) (pV f tm):=by
 induction gs using List.casesOn with
 |nil=>exact Sim.none
 |cons g r=>
  induction r using List.casesOn with
  |cons _ _=>obtain ⟨t,it,ifs,a⟩:=g;cases t <;> first|exact Sim.none|(induction a with|ofNat n=>cases n <;> exact Sim.none|negSucc n=>exact Sim.none)
  |nil=>
   obtain ⟨t,it,ifs,a⟩:=g;induction t using Expr.casesOn with
   |Name x q=>
    induction a with
    |negSucc _=>exact Sim.none
    |ofNat n=>
     induction n using Nat.casesAuxOn with
     |succ _=>exact Sim.none
     |zero=>exact step_ListComp X.H X.K R.I
   |_=>exact Sim.none
theorem step_ev(X:Laws f Sp lc)(R:Runs f ih){e:Expr}:Sim f tm st (zaJ Sp lc ih (.ev e) st) (eval e f.env) (pV f tm):=by
 have I:=R.I;induction e using Expr.casesOn with
 |Constant c k p=>exact step_Constant (Sp:=Sp) (lc:=lc) (ih:=ih)
 |Name x p=>exact step_Name (lc:=lc) (ih:=ih) X.H
 |Attribute o a p=>exact step_Attribute (Sp:=Sp) (lc:=lc) I
 |Subscript o i p=>exact step_Sub R
 |BinOp a op b p=>exact step_BinOp X R
 |UnaryOp op a p=>cases op <;> first|exact step_USub (Sp:=Sp) (lc:=lc) I|exact Sim.none
 |BoolOp op xs p=>exact step_Bool R
 |Compare a ops bs p=>exact step_Cmp R
 |IfExp c a b p=>exact step_IfExp (Sp:=Sp) (lc:=lc) I
 |Call g as kw p=>exact step_Call X R
 |List es p=>exact step_List (Sp:=Sp) (lc:=lc) I R.len
 |Tuple es k p=>exact step_Tuple (Sp:=Sp) (lc:=lc) I R.len
 |Dict ks vs p=>
  induction ks using List.casesOn with
  |cons _ _=>exact Sim.none
  |nil=>
   induction vs using List.casesOn with
   |cons _ _=>exact Sim.none
   |nil=>exact step_Dict (Sp:=Sp) (lc:=lc) (ih:=ih)
 |ListComp e gs csc p=>exact step_LC X R
 |JoinedStr es p=>
  match es with
  |[]|[_]=>exact Sim.none
  |a::b::r=>exact step_Joined R
 |_=>exact Sim.none
end
end
section
open PySem PySem.W PyProof.Rows PySem.SeqAt
open Sem (wp)
section
variable{f:FC}{Sp:Spec}{lc:Nms}{ih:Task->S->Out}{tm:List (AV×Value)}{st:S}
theorem step_asg(X:Laws f Sp lc)(R:Runs f ih){t:Expr}{a:AV}{v:Value}(hv:(a,v)∈tm):Sim f tm st (zaJ Sp lc ih (.asg t a) st) (assign t f.env v) (pU f tm):=by
 have I:=R.I;induction t using Expr.casesOn with
 |Name x pos=>exact step_asg_Name X.H hv
 |Attribute o x pos=>exact zh1 X.H I hv
 |Subscript o i pos=>exact zh0 (Sp:=Sp) (lc:=lc) I hv
 |Tuple ts k pos=>exact step_asg_Tuple (Sp:=Sp) (lc:=lc) R.unp R.ust hv
 |_=>exact Sim.none
theorem genOf_some{g:Comprehension}{q:Str×Expr×List Expr}(h:genOf g=some q):∃xp,g=⟨.Name q.1 xp,q.2.1,q.2.2,0⟩:=by
 obtain ⟨t,it,ifs,a⟩:=g;induction a with
 |negSucc _=>exact nn h
 |ofNat n=>
  induction n using Nat.casesAuxOn with
  |succ _=>exact nn h
  |zero=>
   obtain ⟨x,e,h⟩:=za3 h;injection h;exact ⟨posOf t,by rw[←zcS e];rfl⟩
theorem compOf_some{t e:Expr}{c:CompAsg}(h:compOf t e=some c):∃xp,t=.Name c.z c.zp/\e=.ListComp c.e [⟨.Name c.x xp,c.it,c.ifs,0⟩] c.csc c.cp:=by
 induction e using Expr.casesOn with
 |ListComp e gs csc cp=>
  obtain ⟨z,e1,h⟩:=za3 h;induction gs using List.casesOn with
  |nil=>exact nn h
  |cons g r=>
   induction r using List.casesOn with
   |cons _ _=>exact nn h
   |nil=>
    obtain ⟨q,e2,h⟩:=za3 h;injection h;obtain ⟨xp,e3⟩:=genOf_some e2;exact ⟨xp,zcS e1,by rw[e3]⟩
 |_=>exact nn h
theorem step_Asg1(X:Laws f Sp lc)(R:Runs f ih){t e:Expr}{p:Pos}:Sim f [] st (exBody Sp lc ih (.Assign [t] e p) st) (exec (.Assign [t] e p) f.env) (pF f):=by
 have I:=R.I;induction q:compOf t e with
 |some c=>
  obtain ⟨xp,rfl,rfl⟩:=compOf_some q;exact step_AssignComp X.H X.K I
 |none=>
  show Sim f [] st (match compOf t e with
   |some c=>asgComp Sp lc ih c st
   |none=>asgPlain ih t e st) _ _
  rw[q];exact step_Assign I R.nst
theorem step_Rs(X:Laws f Sp lc)(R:Runs f ih){e:Expr}{c:Option Expr}{p:Pos}:Sim f [] st (exBody Sp lc ih (.Raise (some e) c p) st) (exec (.Raise (some e) c p) f.env) (pF f):=by
 induction e using Expr.casesOn with
 |Call g as kw q=>
  induction g using Expr.casesOn with
  |Name x xp=>
   induction kw using List.casesOn with
   |cons _ _=>exact Sim.none
   |nil=>
    induction c with
    |some _=>exact Sim.none
    |none=>exact step_Raise X.H X.E R.I R.len
  |_=>exact Sim.none
 |_=>exact Sim.none
theorem step_Del(R:Runs f ih){ts:List Expr}{p:Pos}:Sim f [] st (exBody Sp lc ih (.Delete ts p) st) (exec (.Delete ts p) f.env) (pF f):=by
 induction ts using List.casesOn with
 |nil=>exact Sim.none
 |cons t r=>
  induction r using List.casesOn with
  |cons _ _=>cases t <;> exact Sim.none
  |nil=>
   induction t using Expr.casesOn with
   |Subscript o i q=>exact step_Delete R.I
   |_=>exact Sim.none
theorem exec_body{s:Stmt}(X:Laws f Sp lc)(R:Runs f ih):Sim f [] st (exBody Sp lc ih s st) (exec s f.env) (pF f):=by
 have I:=R.I;induction s using Stmt.casesOn with
 |Expr e p=>exact step_Expr I
 |Return e p=>
  induction e with
  |none=>exact Sim.none
  |some e=>exact step_Return I
 |Assign ts e p=>
  induction ts using List.casesOn with
  |nil=>exact Sim.none
  |cons t r=>
   induction r using List.casesOn with
   |cons _ _=>cases t <;> exact Sim.none
   |nil=>exact step_Asg1 X R
 |AugAssign t op e p=>
  induction t using Expr.casesOn with
  |Name x q=>exact step_AugName X.H I
  |Attribute o x q=>exact step_AugAttr X.H I
  |_=>exact Sim.none
 |If c a b p=>exact step_If I I.exs
 |For t it b o p=>
  induction o using List.casesOn with
  |nil=>exact step_For X.L I
  |cons _ _=>exact Sim.none
 |While c b o p=>
  induction o using List.casesOn with
  |nil=>exact step_While R
  |cons _ _=>exact Sim.none
 |Raise e c p=>
  induction e with
  |none=>exact Sim.none
  |some e=>exact step_Rs X R
 |Try b hs o fb p=>
  induction hs using List.casesOn with
  |nil=>exact Sim.none
  |cons h hs=>
   induction o using List.casesOn with
   |cons _ _=>exact Sim.none
   |nil=>
    induction fb using List.casesOn with
    |cons _ _=>exact Sim.none
    |nil=>exact step_Try I R.hd
 |Delete ts p=>exact step_Del R
 |Pass p=>exact step_Pass
 |Break p=>exact step_Break
 |Continue p=>exact step_Continue
 |_=>exact Sim.none
theorem step_ex(X:Laws f Sp lc)(R:Runs f ih){s:Stmt}:Sim f [] st (zaJ Sp lc ih (.ex s) st) (exec s f.env) (pF f):=Sim.rw X.H (exec_body X R)
theorem stepLen(R:Runs f ih):LEN (zaJ Sp lc ih):=by
 intro es st as st' e;induction es using List.casesOn with
 |nil=>injection e;rfl
 |cons x r=>
  have e:zaK (ih (.ev x) st) (λa st=>zc8 (ih (.evs r) st) λas st=>some (.vs (a::as),st))=some (.vs as,st'):=e
  rcases zhY e with ⟨a,st1,e1,e2⟩|⟨_,_,_,e2⟩
  ·rcases zeP e2 with ⟨bs,st2,e3,e4⟩|⟨_,_,_,e4⟩
   ·injection e4
    rw[List.length_cons,List.length_cons,R.len _ _ _ _ e3]
   ·first|exact nn e4|injection e4
  ·first|exact nn e2|injection e2
theorem stepUst(R:Runs f ih):∀(ts:List Expr) xs (st:S) r st',zaJ Sp lc ih (.unp ts xs) st=some (r,st')->∀x∈assignEach ts f.env,x.1=false:=by
 intro ts xs st r st' e;induction ts using List.casesOn with
 |nil=>intro x hx;exact nm hx
 |cons t ts=>
  induction xs using List.casesOn with
  |nil=>exact nn e
  |cons y ys=>
   obtain ⟨z,hz,e⟩:=za3 e;obtain ⟨_,e⟩:=ze0 e;rw[zcS hz];intro x hx;rcases List.mem_cons.mp hx with rfl|hx
   ·rfl
   ·exact R.ust _ _ _ _ _ e x hx
theorem stepRuns(X:Laws f Sp lc)(R:Runs f ih):Runs f (zaJ Sp lc ih) where
 I:={
  ev:=λe st tm=>step_ev X R
  star:=λe x st=>rfl
  evs:=λes pos st tm=>step_evs R.I
  tst:=λe st tm=>step_tst R.I
  ands:=λxs st tm=>step_ands R.I
  ors:=λxs st tm=>step_ors R.I
  asg:=λt a v st tm hv=>step_asg X R hv
  ex:=λs st=>step_ex X R
  exs:=λss st=>step_exs R.I}
 len:=stepLen R
 fs:=λes st tm out hl=>step_fs R.I R.fs hl
 unp:=λts xs vs st tm h1 h2=>step_unp X.H R.unp h1 h2
 ust:=stepUst R
 nst:=λx p a st=>rfl
 hd:=step_hands X.H X.E R.I R.hd
theorem runRuns(X:Laws f Sp lc):∀n,Runs f (run Sp lc n):=by
 intro l;induction l with
 |zero=>exact {
  I:=⟨λ_ _ _=>Sim.none,λ_ _ _=>rfl,λ_ _ _ _=>Sim.none,λ_ _ _=>Sim.none,λ_ _ _=>Sim.none,λ_ _ _=>Sim.none,λ_ _ _ _ _ _=>Sim.none,λ_ _=>Sim.none,λ_ _=>Sim.none⟩
  len:=λ_ _ _ _ e=>by injection e
  fs:=λ_ _ _ _ _=>Sim.none
  unp:=λ_ _ _ _ _ _ _=>Sim.none
  ust:=λ_ _ _ _ _ e=>by injection e
  nst:=λ_ _ _ _=>rfl
  hd:=λ_ _ _ _ _ _ e=>by cases e}
 |succ n ih=>exact stepRuns X (ih)
end
end
section
open PySem PySem.W PyProof.Rows PySem.SeqAt
open Sem (wp)
noncomputable def Spec0(cx:Cx)(sc:Scope)(lev:Nat)(lp:Expr->List Stmt->AV->List DV->Env'->Objs->Fl->Env'->Objs->Prop):Spec where
 call:=CallOK cx lev
 loop:=lp
 comp:=λcsc e x ifs a xs env objs o=>listy a=true/\zgL sc csc x=true/\CompIs sc csc e x ifs xs env o/\xs.length<=big
 swap:=λz csc=>sc.names.lookup z=some .local/\(csc.names.any λp=>p.1==z&&(p.2==.local||p.2==.cell))=false
 con:=λx d=>sc.names.lookup x=some .globalImplicit/\∃v,nsIn cx.K mainGlobals x=some (some v)/\VP cx.K (λa o=>cx.base.get? a=some o) (plain d) v
 fn:=λx=>∃fv,FnVal cx x fv
 meth:=λc m=>∃fv,zc7 cx c m fv
 attr:=λc a=>∀C,clsA cx.K c=some C->zdL cx.K C a=true
 sameD:=λd d'=>plain d=plain d'
 sameO:=λo o'=>∃l,o.plain=some l/\o'.plain=some l
noncomputable def zfB(cx:Cx)(sc:Scope)(lev:Nat):Nat->Nat->Spec
 |0,_=>Spec0 cx sc lev λ_ _ _ _ _ _ _ _ _=>False
 |d+1,k=>Spec0 cx sc lev λt b it all env objs fl e os=>forable it=true/\zeW it/\∃k1,k<=k1/\(∀i,it=.r i->i<k1)/\LoopRun (zfB cx sc lev d k1) (nmsOf sc) k1 t b it all all env objs fl e os
structure Glob(K:Frag):Prop where
 bi:∀x v,BiName x v->nsIn K mainGlobals x=some none
 exc:HypE K
structure ScOK(sc:Scope):Prop where
 kind:sc.kind=.function
 dbg:sc.names.lookup ("__debug__":Str)=none
 nd:(sc.names.map (·.1)).Nodup
structure FOK(cx:Cx)(sc:Scope)(lev k:Nat)(f:FC):Prop where
 cx:f.cx=cx
 sc:f.sc=sc
 lev:lev<=f.lev
 hρ:f.ρ₀.length<=k
 hμ:f.μ₀.length<=k
theorem CallOK.mono{cx:Cx}{n n':Nat}(h:n<=n'){k:Key}{avs:List AV}{os:Objs}{cr:CRes}{os':Objs}(x:CallOK cx n k avs os cr os'):CallOK cx n' k avs os cr os':=λfv hk f hf hl=>x fv hk f hf (Nat.le_trans h hl)
theorem nd_lookup{α:Type}{x:Str}{k:α}:∀{l:List (Str×α)},(l.map (·.1)).Nodup->(x,k)∈l->l.lookup x=some k:=by
 intro l;induction l with
 |nil=>exact @λ_ h=>by injection h
 |cons hd r ih=>
  obtain ⟨n,j⟩:=hd;intro hn h;rw[List.map_cons,List.nodup_cons] at hn;rw[List.lookup_cons];rcases List.mem_cons.mp h with e|h
  ·injection e;rw[beq_self_eq_true]
  ·have:(x==n)=false:=beq_eq_false_iff_ne.mpr λe=>hn.1 (e▸List.mem_map.mpr ⟨_,h,rfl⟩)
   rw[this];exact ih hn.2 h
theorem locs_at{sc:Scope}(hn:(sc.names.map (·.1)).Nodup){x:Str}(h:hasS x (nmsOf sc).1=true):sc.names.lookup x=some .local\/sc.names.lookup x=some .cell:=by
 obtain ⟨⟨y,k⟩,hp,rfl⟩:=List.mem_map.mp (hasS_iff.mp h);obtain ⟨h1,h2⟩:=List.mem_filter.mp hp;simp only[Bool.or_eq_true,beq_iff_eq] at h2;rcases h2 with rfl|rfl
 ·exact .inl (nd_lookup hn h1)
 ·exact .inr (nd_lookup hn h1)
theorem globs_at{sc:Scope}(hn:(sc.names.map (·.1)).Nodup){x:Str}(h:hasS x (nmsOf sc).2=true):sc.names.lookup x=some .globalImplicit:=by
 obtain ⟨⟨y,k⟩,hp,rfl⟩:=List.mem_map.mp (hasS_iff.mp h);obtain ⟨h1,h2⟩:=List.mem_filter.mp hp;simp only[beq_iff_eq] at h2;subst h2;exact nd_lookup hn h1
theorem cells_inj:∀(names:List (Str×NameKind)) (n:Nat) (acc:List (Str×Addr)),(∀p∈acc,p.2<n)->(∀p∈acc,∀q∈acc,p.2=q.2->p=q)->∀p∈cellsFrom n names acc,∀q∈cellsFrom n names acc,p.2=q.2->p=q:=by
 intro l;induction l with
 |nil=>exact @λ_ _ _ h=>h
 |cons hd r ih=>
  obtain ⟨x,k⟩:=hd;intro n acc h1 h2;unfold cellsFrom;split
  ·refine ih (n+1) ((x,n)::acc) (λp hp=>?_) λp hp q hq e=>?_
   ·rcases List.mem_cons.mp hp with rfl|hp
    ·exact Nat.lt_succ_self _
    ·exact Nat.lt_succ_of_lt (h1 p hp)
   ·rcases List.mem_cons.mp hp with rfl|hp <;> rcases List.mem_cons.mp hq with rfl|hq
    ·rfl
    ·exact absurd e.symm (Nat.ne_of_lt (h1 q hq))
    ·exact absurd e (Nat.ne_of_lt (h1 p hp))
    ·exact h2 p hp q hq e
  ·exact ih n acc h1 h2
theorem zfZ{sc:Scope}{n:Nat}{x:Str}(h:sc.names.lookup x=some .cell):∃c,(cellsFrom n sc.names []).lookup x=some c/\∀y,(cellsFrom n sc.names []).lookup y=some c->y=x:=by
 have:=cellsFrom_some sc.names n [] (.inl h);induction q:(cellsFrom n sc.names []).lookup x with
 |none=>rw[q] at this;injection this
 |some c=>
  refine ⟨c,rfl,λy hy=>?_⟩
  have:=cells_inj sc.names n [] (λp hp=>nomatch hp) (λp hp=>nomatch hp) (y,c) (zeC hy) (x,c) (zeC q) rfl
  exact congrArg Prod.fst this
theorem laws_at{cx:Cx}{sc:Scope}{lev:Nat}(GK:Glob cx.K)(SO:ScOK sc):∀(d k:Nat) (f:FC),FOK cx sc lev k f->Laws f (zfB cx sc lev d k) (nmsOf sc):=by
 have base:∀(k:Nat) (f:FC) lp,FOK cx sc lev k f->(∀t b it xs env objs fl e os,lp t b it xs env objs fl e os->LoopOK f t b it xs env objs fl e os)->Laws f (Spec0 cx sc lev lp) (nmsOf sc):=by
  intro k f lp hf hl;obtain ⟨rfl,rfl,h3,h4,h5⟩:=hf
  exact {
   H:={
    dbg:=SO.dbg
    lcl:=λx hx=>(locs_at SO.nd hx).imp id λq=>⟨q,zfZ q⟩
    con:=λx d h=>h
    glb:=λx hx=>globs_at SO.nd hx
    bi:=GK.bi
    attr:=λc a h=>h
    sameD:=λd d' h=>h
    sameO:=λo o' h=>h}
   C:=⟨λx h=>h,λc m h=>h,λk as os cr os' h=>h.mono h3⟩
   E:=GK.exc
   K:=⟨λcsc e x ifs a xs env objs o h=>h,λz csc h=>h,λn h=>let ⟨c,hc,_⟩:=zfZ (n:=f.L+1) h;⟨c,hc⟩⟩
   L:=hl}
 intro d;induction d with
 |zero=>exact λk f hf=>base k f _ hf λ_ _ _ _ _ _ _ _ _ h=>h.elim
 |succ d ih=>
  intro k f hf;refine base k f _ hf ?_
  intro t b it xs env objs fl e os h;obtain ⟨h1,h2,k1,h3,h4,L⟩:=h;have hf':FOK cx sc lev k1 f:=⟨hf.cx,hf.sc,hf.lev,Nat.le_trans hf.hρ h3,Nat.le_trans hf.hμ h3⟩;exact loop_ok (P:=FOK cx sc lev k1) (λf' hf' n=>(runRuns (ih k1 f' hf') n).I) (λf' I o Z ρ μ hf'=>⟨hf'.cx,hf'.sc,hf'.lev,by show (ρ.take k1).length<=k1;rw[List.length_take];lia,by show (μ.take k1).length<=k1;rw[List.length_take];lia⟩) hf' hf'.hρ hf'.hμ h4 h1 h2 L
end
section
open PySem PySem.W PyProof.Rows PySem.SeqAt
open Sem (wp)
section
variable{prog:Program}{w:World}{A:Around}{s:Shared}{R:Result->Shared->Prop}
theorem callFnB{a:Addr}{args:Args}{o:Obj}{fd:FuncData}{body:List Stmt}(hroom:A.depth<recursionLimit)(ho:s.heap.get? a=some o)
  (hd':o.data=.func fd) (hco:fd.scope.isCoroutine=false) (hgen:fd.scope.isGenerator=false) (hbody:fd.body=.stmts body) (hcd:s.heap.CodeRec fd.code fd.qualname)
  (h:wpAny (model prog w) A.in1 (bindArgs fd args) (λbinds s₁=>wpAny (model prog w) A.in1 (newFunctionEnv fd.scope fd.globals fd.closure binds (fd.qualname ++ ".<locals>.") (some a) fd.code none fd.builtins)
    (λenv s₂=>s₂.heap.NoLimit/\codeB (model prog w) A (.func body env) R s₂) (λe s'=>R (.error e) s') s₁) (λe s'=>R (.error e) s') s):codeB (model prog w) A (.call (.ref a) args) R s:=by
 obtain ⟨o1,o2,o3,o4⟩:=o;cases (hd':o3=_)
 obtain ⟨n,q,ps,bd,⟨k1,k2,k3,k4,k5⟩,gl,clo,dV,kV,doc,pm,an,cd,ct,bi⟩:=fd;cases (hbody:bd=_)
 cases (hgen:k3=false)
 cases (hco:k4=false)
 obtain ⟨c,oc,vs,tq,hc,hoc,hdc,hq⟩:=hcd;cases (hc:cd=_)
 refine zaX rfl ?_
 show wpB _ A.in1 (load a >>= _) _ _ s
 refine .of (wpAny_bind (wpAny_load ho ?_));refine wpAny_bind (m:=field (.ref c) 1) (wpAny_field hoc hdc hq (wpAny_bind (wpAny_pure ?_)));exact wpAny_bind (wpAny_mono h (λbinds s₁ h₁=>wpAny_bind (wpAny_mono h₁ (λenv s₂ h₂=>wpAny_bind (wpAny_enterFrame h₂.1 hroom (wpAny_pure (And.intro rfl h₂.2)))) λ_ _ h'=>h')) λ_ _ h'=>h')
set_option backward.match.sparseCases true in
theorem funcB{body:List Stmt}{env:Env}
  (h:wpB (model prog w) (A.deeper env) (execs body env) (λf s'=>R (.ok (.ret (match f with|.ret v=>v|_=>.none))) s')
   (λe s'=>wpAny (model prog w) (A.deeper env) (leaving env e) (λ_ s''=>R (.error e) s'') (λe' s''=>R (.error e') s'') s') s):codeB (model prog w) A (.func body env) R s:=by
 refine zaX rfl ?_
 show wpB _ (A.deeper env) (do point;match ←(execs body env).onRaise (leaving env) with|.ret v=>ret v|_=>ret .none) _ _ s
 refine za0 (wpB_point (za0 (zeN (zaZ h (λf s' h'=>?_) λ_ _ h'=>.of h'))))
 cases f <;> exact za4 h'
end
section
theorem cellsFrom_has{x:Str}{c:Addr}:∀(names:List (Str×NameKind)) (n:Nat) (acc:List (Str×Addr)),(x,c)∈cellsFrom n names acc->(x,c)∈acc\/n<=c:=by
 intro l;induction l with
 |nil=>exact @λ_ _ h=>.inl h
 |cons hd r ih=>
  obtain ⟨y,k⟩:=hd;intro n acc h;unfold cellsFrom at h;split at h
  ·rcases ih (n+1) _ h with h|h
   ·rcases List.mem_cons.mp h with e|h
    ·injection e;exact .inr (Nat.le_refl _)
    ·exact .inl h
   ·exact .inr (Nat.le_of_succ_le h)
  ·exact ih n acc h
theorem cells_nd:∀(names:List (Str×NameKind)) (n:Nat) (acc:List (Str×Addr)),(∀p∈acc,p.2<n)->(acc.map (·.2)).Nodup->((cellsFrom n names acc).map (·.2)).Nodup:=by
 intro l;induction l with
 |nil=>exact @λ_ _ _ h=>h
 |cons hd r ih=>
  obtain ⟨x,k⟩:=hd;intro n acc h1 h2;unfold cellsFrom;split
  ·refine ih (n+1) ((x,n)::acc) (λp hp=>?_) ?_
   ·rcases List.mem_cons.mp hp with rfl|hp
    ·exact Nat.lt_succ_self _
    ·exact Nat.lt_succ_of_lt (h1 p hp)
   ·rw[List.map_cons,List.nodup_cons]
    refine ⟨λq=>?_,h2⟩
    obtain ⟨p,hp,e⟩:=List.mem_map.mp q;exact Nat.lt_irrefl _ (e▸h1 p hp)
  ·exact ih n acc h1 h2
theorem CellsAre.keys{cm:Str->Option Value}:∀{cs:List (Str×Addr)} {cells:Led},CellsAre cm cs cells->cells.map (·.1)=cs.map (·.2):=by
 intro _ _ h;induction h with
 |nil=>rfl
 |cons _ _ ih=>rw[List.map_cons,List.map_cons,ih]
theorem CellsAre.at{cm:Str->Option Value}{x:Str}{c:Addr}:∀{cs:List (Str×Addr)} {cells:Led},CellsAre cm cs cells->(x,c)∈cs->∃o,(c,o)∈cells/\o.data=.cell (cm x):=by
 intro _ _ h;induction h with
 |nil=>exact λh=>nm h
 |cons hd r ih=>
  intro h;rcases List.mem_cons.mp h with e|h
  ·injection e;exact ⟨_,.head _,hd⟩
  ·obtain ⟨o,h1,h2⟩:=ih h;exact ⟨o,.tail _ h1,h2⟩
theorem bindL_at{kind:Str->Option NameKind}{x:Str}{v:Value}(hk:kind x=some .local):∀{binds:List (Str×Value)} {m:Str->Option Value},(binds.map (·.1)).Nodup->((x,v)∈binds\/(m x=some v/\x∉binds.map (·.1)))->bindL kind binds m x=some v:=by
 intro l;induction l with
 |nil=>
  intro m _ h;rcases h with h|h
  ·first|exact nn h|injection h
  ·exact h.1
 |cons hd r ih=>
  obtain ⟨y,u⟩:=hd;intro m hn h;rw[List.map_cons,List.nodup_cons] at hn;unfold bindL;refine ih hn.2 ?_
  rcases h with h|⟨h1,h2⟩
  ·rcases List.mem_cons.mp h with e|h
   ·injection e
    exact .inr ⟨by rw[if_pos hk];simp,hn.1⟩
   ·exact .inl h
  ·rw[List.map_cons] at h2
   refine .inr ⟨?_,λq=>h2 (.tail _ q)⟩
   split
   ·show (if x=y then some u else m x)=some v;rw[if_neg (show ¬ x=y from λe=>h2 (by rw[e];exact List.mem_cons_self ..))];exact h1
   ·exact h1
theorem bindC_at{kind:Str->Option NameKind}{x:Str}{v:Value}(hk:kind x=some .cell):∀{binds:List (Str×Value)} {m:Str->Option Value},(binds.map (·.1)).Nodup->((x,v)∈binds\/(m x=some v/\x∉binds.map (·.1)))->bindC kind binds m x=some v:=by
 intro l;induction l with
 |nil=>
  intro m _ h;rcases h with h|h
  ·first|exact nn h|injection h
  ·exact h.1
 |cons hd r ih=>
  obtain ⟨y,u⟩:=hd;intro m hn h;rw[List.map_cons,List.nodup_cons] at hn;unfold bindC;refine ih hn.2 ?_
  rcases h with h|⟨h1,h2⟩
  ·rcases List.mem_cons.mp h with e|h
   ·injection e
    exact .inr ⟨by rw[if_neg (by rw[hk];decide)];simp,hn.1⟩
   ·exact .inl h
  ·rw[List.map_cons] at h2
   refine .inr ⟨?_,λq=>h2 (.tail _ q)⟩
   split
   ·exact h1
   ·show (if x=y then some u else m x)=some v;rw[if_neg (show ¬ x=y from λe=>h2 (by rw[e];exact List.mem_cons_self ..))];exact h1
end
end
section
open PySem PySem.W PyProof.Rows PySem.SeqAt
open Sem (wp)
section
variable{f:FC}
noncomputable abbrev FC.callee(f:FC)(A:Around)(h:Heap)(qual:Str)(sc:Scope)(fa:Addr)(cdv:Value)(news Z:Led)(ρ μ:List Addr)(n:Nat)(hk:sc.kind=.function):FC:=
 {cx:=f.cx,A₀:=A,g₀:=hideAll h (news.map (·.1)),outer:=f.env::f.outer,L:=h.objs.size,cn:=qual,sc:=sc,fa:=fa,ccd:=cdv,news₀:=news,Z₀:=Z,ρ₀:=ρ,μ₀:=μ,s₀:=f.s₀,lev:=n,hk:=hk}
theorem Rel.mu_key{cx:Cx}{news Z:Led}{ρ μ cl:List Addr}{objs:Objs}(R:Rel cx news Z ρ μ cl objs):∀a∈μ,a∈news.map (·.1):=by
 intro a ha;obtain ⟨i,hi⟩:=List.getElem?_of_mem ha;have hl:=(List.getElem?_eq_some_iff.mp hi).1;rw[R.lm] at hl;obtain ⟨b,d,h1,h2,h3⟩:=R.ob i objs[i] (by simp[hl])
 rw[hi] at h2;injection h2;obtain ⟨ob,hob⟩:=h3.mem;exact List.mem_map.mpr ⟨_,hob,rfl⟩
theorem ground_back{A:Around}{g h h' gc gc':Heap}{m:Str->Option Value}{news news':Led}(hA:A.frames=some (f.env::f.outer))(B:Below f.A₀ f.cx.base f.outer g)(F:Fr g f.L h m)(N:News g f.L h news)(hgc:gc=hideAll h (news.map (·.1)))
  (T:KtsTurn (f.L::f.fs) gc gc') (ho:∀b o,gc'.get? b=some o->b∉f.L::f.fs->h'.get? b=some o) (hs:∀b o,gc'.get? b=some o->b∈f.L::f.fs->∃sl,h'.get? b=some {o with slots:=sl}) (hn:∀p∈news',h'.get? p.1=some p.2/\gc'.get? p.1=none) :
  ∃g',KtsTurn f.fs g g'/\Below f.A₀ f.cx.base f.outer g'/\Fr g' f.L h' m/\News g' f.L h' news'/\∀b o,g'.get? b=some o->b∉f.fs->gc'.get? b=some o/\b∉f.L::f.fs:=by
 subst hgc;have gL:g.get? f.L=none:=kts_self F
 have st:∀b o,g.get? b=some o->(hideAll h (news.map (·.1))).get? b=some o:=λb o e=>hideAll_get _ (F.keep b o e) λq=>by
  obtain ⟨p,hp,e'⟩:=List.mem_map.mp q;rw[←e',(N p hp).2.2] at e;injection e
 have nL:∀b o,g.get? b=some o->b≠f.L:=λb o e q=>by rw[q,gL] at e;injection e
 have out:∀b o,g.get? b=some o->b∉f.fs->b∉f.L::f.fs:=λb o e nm q=>by
  rcases List.mem_cons.mp q with q|q
  ·exact nL b o e q
  ·exact nm q
 obtain ⟨oL,es,ep,hL,hLd,r⟩:=F.ns
 have nLn:f.L∉news.map (·.1):=λq=>by
  obtain ⟨p,hp,e⟩:=List.mem_map.mp q;exact (N p hp).2.1 e
 have gcL:=hideAll_get (news.map (·.1)) hL nLn
 obtain ⟨sL,gcL'⟩:=T.frame _ _ gcL (.head _);obtain ⟨sL',hL'⟩:=hs _ _ gcL' (.head _)
 obtain ⟨T',S⟩:=kts_turn_at (h:=h') (fs:=f.fs) (g:=g)
  (λb hb=>by
   obtain ⟨_,o,ho,_⟩:=B.frames.mem hb
   exact ⟨o,ho⟩)
  (λb o e nm=>ho b o (T.other b o (st b o e) (out b o e nm)) (out b o e nm))
  (λb o e hm=>by
   obtain ⟨s1,e1⟩:=T.frame b o (st b o e) (.tail _ hm);obtain ⟨s2,e2⟩:=hs b _ e1 (.tail _ hm)
   exact ⟨s2,e2⟩)
 refine ⟨_,T',⟨B.stack,λb o e=>T'.other b o (B.stays b o e) (λhm=>by
   rw[(B.frames.mem hm).1] at e
   injection e),B.frames.of_keeps λb o e _=>?_⟩,⟨⟨_,es,ep,hL',hLd,r⟩,S,by rw[T'.size];exact F.above⟩,λp hp=>⟨(hn p hp).1,λq=>?_,T'.none_ _ ?_⟩,λb o e nm=>?_⟩
 ·obtain ⟨sl,hs⟩:=T'.up e
  exact ⟨_,hs,rfl⟩
 ·have:=(hn p hp).2;rw[q,gcL'] at this;injection this
 ·induction q:g.get? p.1 with
  |none=>rfl
  |some o=>
   obtain ⟨sl,e⟩:=T.up (st _ _ q);rw[(hn p hp).2] at e;injection e
 ·have e0:g.get? b=some o:=by
   induction q:g.get? b with
   |none=>rw[T'.none_ b q] at e;injection e
   |some o'=>rw[T'.other b o' q nm] at e;exact e
  exact ⟨T.other b o (st b o e0) (out b o e0 nm),out b o e0 nm⟩
theorem thrown_leaves{A:Around}(hA:AOK f false A){kk:Bool}{c:Str}{env:Env'}{objs:Objs}{e:Value}{s:Shared}(T:Thrown f kk c env objs e s){Q:Unit->Shared->Prop}{E:Value->Shared->Prop}
  (h:∀ea C h tk g m news Z ρ μ,e=.ref ea->clsA f.cx.K c=some C->CoreP f g m news Z ρ μ env objs->Flying f g m news ea c (.ref C) h->Q () {f.s₀ with heap:=h,toks:=tk}):wpAny f.M A (leaving f.env e) Q E s:=by
 obtain ⟨ea,C,rfl,hC,hh,tk,g,m,news,Z,ρ,μ,rfl,cp,T⟩:=T
 have fin:∀h',HeldIn f g m news ea c (.ref C) h'->wpAny f.M A (setFlight (.ref ea) none) Q E {f.s₀ with heap:=h',toks:=tk}:=λh' hl=>by
  obtain ⟨B,x1,x2⟩:=hl.move;exact flightX (F:=none) x1 λh'' y1 y2=>h _ _ _ _ _ _ _ _ _ _ rfl hC cp (x2 _ _ y1 y2)
 unfold leaving;refine wpAny_bind ?_
 induction kk with
 |true=>
  rcases T with ⟨h0,F,N,x⟩|T
  ·exact Fly.made hA.frames cp.below F N x λh' hl=>fin h' hl
  ·obtain ⟨B,x1,x2⟩:=T.move
   exact noteX_again (L:=f.L) rfl x1 (fin _ T)
 |false=>
  have T:Flying f g m news ea c (.ref C) hh:=T;obtain ⟨B,x1,x2⟩:=T.move;exact noteX_on hA.frames (L:=f.L) rfl x1 λh' y1 y2=>fin h' (x2 _ _ y1 y2)
end
end
section
open PySem PySem.W PyProof.Rows PySem.SeqAt
open Sem (wp)
inductive DefEx(K:Frag)(fa:Addr)(body:List Stmt)(sc:Scope)(names:List Str)(ds:List Value):Prop
 |mk (name qual params dV kV doc pm an cdv ct oc od osl) (h1:K.lookup fa=some ⟨oc,od,.func (fnOf name qual params body sc dV kV doc pm an cdv ct),osl⟩) (h2:codeIn K cdv qual=true)
  (h3:∀(h:Heap) (s:Shared),K.In h->(∀b o,h.get? b=some o->s.heap.get? b=some o)->∀vs:List Value,(vs++ds).length=names.length->BindsTo s (fnOf name qual params body sc dV kV doc pm an cdv ct) ⟨vs,[]⟩ (names.zip (vs++ds)))
structure DefAt(K:Frag)(fa:Addr)(body:List Stmt)(sc:Scope)(names:List Str)(ds:List Value):Prop where
 ex:DefEx K fa body sc names ds
structure ScFn(sc:Scope)(names:List Str):Prop extends ScOK sc where
 co:sc.isCoroutine=false
 gen:sc.isGenerator=false
 loc:∀x∈names,sc.names.lookup x=some .local\/sc.names.lookup x=some .cell
 nnd:names.Nodup
 cnd:((cellsFrom 0 sc.names []).map (·.1)).Nodup
set_option tactic.hygienic true in
theorem zi4{x:Str}{a:AV}:∀{names:List Str} {vs:List Value} {avs:List AV},vs.length=names.length->avs.length=names.length->look x (names.zip avs)=some a->∃v,(x,v)∈names.zip vs/\(a,v)∈avs.zip vs
 |[],_,_,_,_,h=>by injection h
 |n::nr,[],_,h,_,_=>by simp at h
 |n::nr,v::vr,[],_,h,_=>by simp at h
 |n::nr,v::vr,b::ar,h1,h2,h=>by
  rw[List.zip_cons_cons,zb9] at h;split at h
  ·rename_i q;subst q;injection h;exact ⟨v,.head _,.head _⟩
  ·obtain ⟨u,k1,k2⟩:=zi4 (names:=nr) (vs:=vr) (avs:=ar) (by simpa using h1) (by simpa using h2) h
   exact ⟨u,.tail _ k1,.tail _ k2⟩
section
variable{f:FC}
theorem enter_core{A:Around}{g h h₁:Heap}{m:Str->Option Value}{news Z:Led}{ρ μ:List Addr}{qual:Str}{sc:Scope}{fa:Addr}{cdv:Value}{n:Nat}{names:List Str}{avs:List AV}{vs:List Value}{os:Objs}{cells:Led}(SF:ScFn sc names)
  (hA:A.frames=some (f.env::f.outer)) (B:Below f.A₀ f.cx.base f.outer g) (F:Fr g f.L h m) (N:News g f.L h news) (R:Rel f.cx news Z ρ μ [] os) (l1:vs.length=names.length) (l2:avs.length=names.length) (hv:∀p∈avs.zip vs,VA f.cx.K (Fz f.cx.base Z) ρ p.1 p.2)
  (hns:h₁.Ns h.objs.size (bindL (envOfC qual sc h.objs.size fa cdv).kindOf (names.zip vs) λ_=>none)) (hk₁:∀b o,h.get? b=some o->h₁.get? b=some o) (NC:News h h.objs.size h₁ cells)
  (Y:CellsAre (bindC (envOfC qual sc h.objs.size fa cdv).kindOf (names.zip vs) λ_=>none) (cellsFrom (h.objs.size+1) sc.names []) cells) :
  Core (f.callee A h qual sc fa cdv news Z ρ μ n SF.kind) (hideAll h (news.map (·.1))) (bindL (envOfC qual sc h.objs.size fa cdv).kindOf (names.zip vs) λ_=>none) (cells++news) Z ρ μ (names.zip avs) os [] h₁:=by
 obtain ⟨FG,BG,st,_⟩:=groundX (s:={f.s₀ with heap:=h}) (R:=λ_ _=>True) B F N hA (env:=f.env) rfl f.hk
 have zk:names.map id=names:=by simp
 have zn:((names.zip vs).map (·.1))=names:=by rw[List.map_fst_zip];lia
 have alloc:∀p∈news,p.1<h.objs.size:=λp hp=>Heap.lt_size (N p hp).1
 have ca_gt:∀c∈(cellsFrom (h.objs.size+1) sc.names []).map (·.2),h.objs.size<c:=λc hc=>by
  obtain ⟨⟨x,c'⟩,hp,rfl⟩:=List.mem_map.mp hc;rcases cellsFrom_has _ _ _ hp with q|q
  ·first|exact nn q|injection q
  ·exact q
 have ck:=CellsAre.keys Y;have F1:Fr (hideAll h (news.map (·.1))) h.objs.size h₁ (bindL (envOfC qual sc h.objs.size fa cdv).kindOf (names.zip vs) λ_=>none):=⟨hns,λb o e=>hk₁ b o (of_hideAll _ e),Nat.le_of_eq (hideAll_size _ _)⟩
 have N1:News (hideAll h (news.map (·.1))) h.objs.size h₁ (cells++news):=λp hp=>by
  rcases List.mem_append.mp hp with hp|hp
  ·refine ⟨(NC p hp).1,(NC p hp).2.1,?_⟩
   induction q:(hideAll h (news.map (·.1))).get? p.1 with
   |none=>rfl
   |some o=>have:=of_hideAll _ q;rw[(NC p hp).2.2] at this;injection this
  ·exact ⟨hk₁ _ _ (N p hp).1,Nat.ne_of_lt (Heap.lt_size (N p hp).1),hideAll_none _ (List.mem_map_of_mem hp)⟩
 have key_lt:∀a∈news.map (·.1),a<h.objs.size:=λa ha=>by
  obtain ⟨p,hp,e⟩:=List.mem_map.mp ha;exact e▸alloc p hp
 refine {turn:=KtsTurn.refl,below:=BG,above:=Nat.le_of_eq (hideAll_size _ _),fr:=F1,nw:=N1,rel:=?_,cells:=?_,envr:=?_,tmr:=λp hp=>(nomatch hp),kept:=?_}
 ·refine ⟨?_,λp hp=>List.mem_append_right _ (R.zin p hp),R.zmu,λp hp q=>?_,λa ha q=>?_,R.mnd,R.lr,R.lm,λi o ho=>?_⟩
  ·rw[List.map_append,List.nodup_append]
   refine ⟨?_,R.nd,λx hx y hy e=>?_⟩
   ·rw[ck];exact cells_nd _ _ _ (λp hp=>nomatch hp) List.nodup_nil
   ·rw[ck] at hx
    have h1:=ca_gt x hx;have h2:=key_lt y hy;subst e;exact absurd (Nat.lt_trans h1 h2) (Nat.lt_irrefl _)
  ·have h1:=ca_gt _ q
   have h2:=key_lt p.1 (List.mem_map.mpr ⟨p,R.zin p hp,rfl⟩);exact absurd (Nat.lt_trans h1 h2) (Nat.lt_irrefl _)
  ·have h1:=ca_gt _ q
   have h2:=key_lt a (R.mu_key a ha);exact absurd (Nat.lt_trans h1 h2) (Nat.lt_irrefl _)
  ·obtain ⟨a,d,h1,h2,h3⟩:=R.ob i o ho
   exact ⟨a,d,h1,h2,h3.mono (λ_ _ y=>y) (List.prefix_refl _) λob hob=>List.mem_append_right _ hob⟩
 ·intro c hc
  obtain ⟨⟨x,c'⟩,hp,rfl⟩:=List.mem_map.mp hc;refine ⟨λq=>absurd (Nat.lt_trans (ca_gt _ hc) (key_lt _ q)) (Nat.lt_irrefl _),?_⟩
  obtain ⟨o,h1,h2⟩:=CellsAre.at Y hp;exact ⟨o,_,List.mem_append_left _ h1,h2⟩
 ·intro x av hx
  obtain ⟨v,h1,h2⟩:=zi4 l1 l2 hx;refine ⟨v,hv _ h2,?_⟩;have hxn:x∈names:=(List.of_mem_zip h1).1;rcases SF.loc x hxn with q|q
  ·exact .inl ⟨q,bindL_at q (by rw[zn];exact SF.nnd) (.inl h1)⟩
  ·obtain ⟨c,hc,_⟩:=zfZ (n:=h.objs.size+1) q
   obtain ⟨o,k1,k2⟩:=CellsAre.at Y (zeC hc);refine .inr ⟨q,c,o,hc,List.mem_append_left _ k1,?_⟩;rw[k2,bindC_at q (by rw[zn];exact SF.nnd) (.inl h1)]
 ·exact ⟨λp hp _=>List.mem_append_right _ hp,λp hp=>hp,λp hp=>.inl hp,List.prefix_refl _,List.prefix_refl _,λa ha=>.inl ha⟩
end
end
section
open PySem PySem.W PyProof.Rows PySem.SeqAt
open Sem (wp)
theorem Rel.nocl{cx:Cx}{news Z:Led}{ρ μ cl:List Addr}{objs:Objs}(R:Rel cx news Z ρ μ cl objs):Rel cx news Z ρ μ [] objs:=
 ⟨R.nd,R.zin,R.zmu,λ_ _=>(by simp),λ_ _=>(by simp),R.mnd,R.lr,R.lm,R.ob⟩
noncomputable def Shows(κ:List Nat):Res->CRes->Prop
 |.fl (.ret a),cr=>∃a',renA (λj=>zcQ j κ 0) a=some a'/\cr=.ok a'
 |.fl .next,cr=>cr=.ok (.d .none)
 |.exc _ c,cr=>cr=.exc c
 |_,_=>False
structure IsCallee(f f':FC)(h:Heap)(news Z:Led)(ρ μ:List Addr)(n:Nat):Prop where
 cx:f'.cx=f.cx
 s:f'.s₀=f.s₀
 outer:f'.outer=f.env::f.outer
 g:f'.g₀=hideAll h (news.map (·.1))
 nw:f'.news₀=news
 z:f'.Z₀=Z
 ρ:f'.ρ₀=ρ
 μ:f'.μ₀=μ
 fs:f'.fs=f.L::f.fs
 lev:f'.lev=n
inductive BackAt(f:FC)(g:Heap)(m:Str->Option Value)(news Z:Led)(ρ μ:List Addr)(κ:List Nat)(os':Objs)(gc' h':Heap)(news' Z':Led)(ρ':List Addr):Prop
 |mk (g':Heap) (ρ'' μ'':List Addr) (T:KtsTurn f.fs g g') (B:Below f.A₀ f.cx.base f.outer g') (F:Fr g' f.L h' m) (N:News g' f.L h' news') (R:Rel f.cx news' Z' ρ'' μ'' [] os') (K:Kept news Z ρ μ news' Z' ρ'' μ'')
  (v:∀a a' v,renA (λj=>zcQ j κ 0) a=some a'->VA f.cx.K (Fz f.cx.base Z') ρ' a v->VA f.cx.K (Fz f.cx.base Z') ρ'' a' v) (o:∀b o,g'.get? b=some o->b∉f.fs->gc'.get? b=some o/\b∉f.L::f.fs)
section
variable{f f':FC}{A:Around}{g h gc' h':Heap}{m m':Str->Option Value}{news Z news' Z':Led}{ρ μ ρ' μ':List Addr}{n:Nat}{κ:List Nat}{os os':Objs}{env':Env'}{objs':Objs}
theorem call_back(I:IsCallee f f' h news Z ρ μ n)(hA:AOK f false A)(B:Below f.A₀ f.cx.base f.outer g)(F:Fr g f.L h m)(Nw:News g f.L h news)(R:Rel f.cx news Z ρ μ [] os)(hw:zg4 os.length κ [] env' objs'=some ([],os'))
  (cp:CoreP f' gc' m' news' Z' ρ' μ' env' objs') (ho:∀b o,gc'.get? b=some o->b∉f.L::f.fs->h'.get? b=some o) (hs:∀b o,gc'.get? b=some o->b∈f.L::f.fs->∃sl,h'.get? b=some {o with slots:=sl}) (hn:∀p∈news',h'.get? p.1=some p.2/\gc'.get? p.1=none) :
  BackAt f g m news Z ρ μ κ os' gc' h' news' Z' ρ':=by
 obtain ⟨w1,w2,_⟩:=cp.weak hw (by rw[I.ρ,R.lr];exact Nat.le_refl _) (by rw[I.μ,R.lm];exact Nat.le_refl _)
 have T':=cp.turn;rw[I.fs,I.g] at T';obtain ⟨g',k1,k2,k3,k4,k5⟩:=ground_back hA.frames B F Nw rfl T' ho hs hn;have w3:=w1.kept;have w4:=w1.rel;rw[I.nw,I.z,I.ρ,I.μ] at w3;rw[I.cx] at w4 w2;exact ⟨g',_,_,k1,k2,k3,k4,w4.nocl,w3,w2,k5⟩
theorem callee_aok(I:IsCallee f f' h news Z ρ μ n)(hA:AOK f false A)(hl:n+1<=f.lev):AOK f' false (A.deeper f'.env):=by
 refine ⟨?_,?_,?_,λ_=>hA.hand rfl,hA.guards⟩
 ·show A.frames.map (f'.env::·)=_
  rw[hA.frames,I.outer];rfl
 ·have:=hA.room
  have e:=I.lev;show A.depth+1+f'.lev<=_
  lia
 ·have:=hA.units
  have e:=I.lev;show A.units+3+8*f'.lev+100<_
  lia
theorem call_ret(I:IsCallee f f' h news Z ρ μ n)(hA:AOK f false A)(B:Below f.A₀ f.cx.base f.outer g)(F:Fr g f.L h m)(Nw:News g f.L h news)(R:Rel f.cx news Z ρ μ [] os)(hw:zg4 os.length κ [] env' objs'=some ([],os')){cr:CRes}{Q:Value->Shared->Prop}
  (hok:∀v h' tk' g' news' Z' ρ' μ' a,cr=.ok a->KtsTurn f.fs g g'->Below f.A₀ f.cx.base f.outer g'->Fr g' f.L h' m->News g' f.L h' news'->Rel f.cx news' Z' ρ' μ' [] os'->Kept news Z ρ μ news' Z' ρ' μ' ->
   VA f.cx.K (Fz f.cx.base Z') ρ' a v->Q v {f.s₀ with heap:=h',toks:=tk'})
  {a a':AV} {v:Value} {s':Shared} (C:Cfg f' env' objs' [(a,v)] s') (ha:renA (λj=>zcQ j κ 0) a=some a') (hcr:cr=.ok a'):Q v s':=by
 obtain ⟨h',tk',gc',m',news',Z',ρ',μ',rfl,c'⟩:=C;obtain ⟨g',ρ'',μ'',k1,k2,k3,k4,k5,k6,k7,_⟩:=call_back I hA B F Nw R hw c'.toCoreP (h':=h') (λb o e _=>c'.fr.keep b o e) (λb o e _=>⟨o.slots,c'.fr.keep b o e⟩) (λp hp=>⟨(c'.nw p hp).1,(c'.nw p hp).2.2⟩)
 have hva:=c'.tmr _ (.head _);rw[I.cx] at hva;rw[I.s];exact hok v h' tk' g' news' Z' ρ'' μ'' a' hcr k1 k2 k3 k4 k5 k6 (k7 a a' v ha hva)
theorem call_exc(I:IsCallee f f' h news Z ρ μ n)(hA:AOK f false A)(B:Below f.A₀ f.cx.base f.outer g)(F:Fr g f.L h m)(Nw:News g f.L h news)(R:Rel f.cx news Z ρ μ [] os)(hw:zg4 os.length κ [] env' objs'=some ([],os')){cr:CRes}{E:Value->Shared->Prop}{c:Str}(hcr:cr=.exc c)
  (hexc:∀ea C h' tk' g' news' Z' ρ' μ' c,cr=.exc c->clsA f.cx.K c=some C->KtsTurn f.fs g g'->Below f.A₀ f.cx.base f.outer g'->Rel f.cx news' Z' ρ' μ' [] os'->Kept news Z ρ μ news' Z' ρ' μ' ->
   Flying f g' m news' ea c (.ref C) h'->E (.ref ea) {f.s₀ with heap:=h',toks:=tk'})
  {ea C:Addr} {tk':Nat} (hC:clsA f'.cx.K c=some C) (cp:CoreP f' gc' m' news' Z' ρ' μ' env' objs') (fl:Flying f' gc' m' news' ea c (.ref C) h'):E (.ref ea) {f'.s₀ with heap:=h',toks:=tk'}:=by
 obtain ⟨B',b1,b2,b3,b4,b5,b6⟩:=fl;rw[I.fs] at b2 b6;obtain ⟨g',ρ'',μ'',k1,k2,k3,k4,k5,k6,_,k8⟩:=call_back I hA B F Nw R hw cp (h':=h') (λb o e nm=>b4.1 b o (b2 b o e nm)) b6 (λp hp=>⟨b4.1 _ _ (b3 p hp).1,(b3 p hp).2⟩)
 rw[I.s];rw[I.cx] at hC b1;obtain ⟨c1,c2,c3,c4⟩:=b4;rw[I.outer] at c3;refine hexc ea C h' tk' g' news' Z' ρ'' μ'' c hcr hC k1 k2 k5 k6 ⟨B',b1,λb o e nm=>?_,λq hq=>⟨(b3 q hq).1,(k4 q hq).2.2⟩,⟨c1,c2,c3.2.2,c4⟩,k3.ns,λb o e hb=>⟨o.slots,k3.keep b o e⟩⟩
 obtain ⟨y1,y2⟩:=k8 b o e nm;exact b2 b o y1 y2
end
set_option backward.match.sparseCases true in
theorem call_defD{cx:Cx}{n:Nat}{key:Key}{fa:Addr}{body:List Stmt}{sc:Scope}{names:List Str}{avs dvs:List AV}{ds:List Value}{os:Objs}{d N:Nat}{ans:List Ans}{r:Res}{env':Env'}{objs':Objs}{hb:Bool}{obl:List Prop}{κ:List Nat}{os':Objs}{cr:CRes}
  (hone:∀fv,zcA cx key fv->fv=.ref fa) (hD:DefAt cx.K fa body sc names ds) (SF:ScFn sc names) (GK:Glob cx.K) (l2:(avs++dvs).length=names.length) (ld:ds.length=dvs.length) (hds:∀p∈dvs.zip ds,∀G ρ,VA cx.K G ρ p.1 p.2)
  (hrun:run (zfB cx sc n d os.length) (nmsOf sc) N (.exs body) ⟨names.zip (avs++dvs),os,false,ans,[]⟩=some (r,⟨env',objs',hb,[],obl⟩)) (hob:Holds obl) (hw:zg4 os.length κ [] env' objs'=some ([],os')) (hr:Shows κ r cr):CallOK cx (n+1) key avs os cr os':=by
 intro fv hk f hf hl A hA g m news Z ρ μ h tk vs Q E B ab F Nw R lv hv hok hexc;cases hone fv hk
 subst hf;obtain ⟨name,qual,params,dV,kV,doc,pm,an,cdv,ct,oc,od,osl,hlk,hcode,hbind⟩:=hD.ex;have X:f.cx.K.In g:=f.cx.XB.keeps B.stays;have T:Top f.cx.p f.cx.loose f.cx.mean f.cx.mg f.cx.mb g:=f.cx.TB.keeps B.stays;have Xh:f.cx.K.In h:=X.keeps F.keep;have lvn:(vs++ds).length=names.length:=by rw[←l2,List.length_append,List.length_append,lv,ld]
 have hv:∀p∈(avs++dvs).zip (vs++ds),VA f.cx.K (Fz f.cx.base Z) ρ p.1 p.2:=λp hp=>by
  rw[List.zip_append lv.symm] at hp;exact (List.mem_append.mp hp).elim (hv p) λhp=>hds p hp _ _
 refine zeO (callFnB (A:=A) (Nat.lt_of_lt_of_le (Nat.lt_add_of_pos_right (Nat.lt_of_lt_of_le (Nat.succ_pos n) hl)) hA.room) (Xh _ _ hlk) rfl SF.co SF.gen rfl (codeRec_of Xh hcode) (hbind g _ X F.keep vs lvn _ _ _ _ ?_))
 have hkind:∀k,∀x∈names.zip (vs++ds),sc.names.lookup x.1=some .local\/(sc.names.lookup x.1=some .cell/\((cellsFrom k sc.names []).lookup x.1).isSome=true):=λk x hx=>
  (SF.loc x.1 (List.of_mem_zip hx).1).imp id λq=>⟨q,cellsFrom_some _ _ _ (.inl q)⟩
 refine wpAny_newFunctionEnv_cells SF.kind (hkind _) λenv1 he s1 x=>?_
 subst he;refine ⟨(T.nolimit.keeps F.keep).keeps x.toInCall.keep,funcB ?_⟩;obtain ⟨h₁,tk1,rfl,_⟩:=x.done;obtain ⟨cells,NC,Y⟩:=Cl.news (h₀:=h) (Nat.le_refl _) λn c hm=>⟨x.cell n c (lookup_of_mem_nodup (cellsFrom_names sc.names 0 (h.objs.size+1) [] [] rfl▸SF.cnd) hm),x.above n c hm⟩
 have C0:=enter_core (f:=f) (n:=n) (qual:=qual) (fa:=fa) (cdv:=cdv) (os:=os) SF hA.frames B F Nw R lvn l2 hv x.toInCall.ns x.toInCall.keep NC Y;have I:IsCallee f (f.callee A h qual sc fa cdv news Z ρ μ n SF.kind) h news Z ρ μ n:=⟨rfl,rfl,rfl,rfl,rfl,rfl,rfl,rfl,rfl,rfl⟩;have FO:FOK f.cx sc n os.length (f.callee A h qual sc fa cdv news Z ρ μ n SF.kind):=⟨rfl,rfl,Nat.le_refl _,Nat.le_of_eq R.lr,Nat.le_of_eq R.lm⟩;have e3:(f.callee A h qual sc fa cdv news Z ρ μ n SF.kind).env=envOfC qual sc h.objs.size fa cdv:=rfl;have M1:(f.callee A h qual sc fa cdv news Z ρ μ n SF.kind).M=f.M:=rfl;have C1:Cfg (f.callee A h qual sc fa cdv news Z ρ μ n SF.kind) (names.zip (avs++dvs)) os [] {f.s₀ with heap:=h₁,toks:=tk1}:=⟨h₁,tk1,_,_,_,Z,ρ,μ,rfl,C0⟩
 clear C0 hbind;generalize f.callee A h qual sc fa cdv news Z ρ μ n SF.kind=f' at *;have hA':=callee_aok I hA hl
 have key:=((runRuns (laws_at GK SF.toScOK d os.length f' FO) N).I.exs body ⟨names.zip (avs++dvs),os,false,ans,[]⟩ _ _ hrun).3 hob (A.deeper f'.env) hA' {f.s₀ with heap:=h₁,toks:=tk1} (λfl s'=>match (match fl with|.ret v=>v|_=>Value.none) with|v=>Q v s')
  (λe s'=>wpAny f.M (A.deeper f'.env) (leaving f'.env e) (λ_ s''=>E e s'') (λe' s''=>E e' s'') s') C1 ?_
 ·rw[M1,e3] at key
  exact key
 ·induction r with
  |fl w=>
   induction w with
   |ret a=>
    obtain ⟨a',ha,hcr⟩:=hr;exact λv s' C=>call_ret I hA B F Nw R hw hok C ha hcr
   |next=>exact λs' C=>call_ret I hA B F Nw R hw hok (a:=.d .none) (by
     obtain ⟨h',tk',gc',m',news',Z',ρ',μ',rfl,c'⟩:=C
     exact ⟨h',tk',gc',m',news',Z',ρ',μ',rfl,c'.tmp (a:=.d .none) rfl⟩) rfl hr
   |_=>exact hr.elim
  |exc kk c=>
   intro e s' Th;rw[←M1];refine thrown_leaves hA' Th λea C h' tk' gc' m' news' Z' ρ' μ' he hC cp fl=>?_
   subst he;exact call_exc I hA B F Nw R hw hr hexc hC cp fl
  |_=>exact hr.elim
end
section
open PySem PySem.W PyProof.Rows PySem.SeqAt PySem.Calls
open Sem (wp)
section
variable{prog:Program}{w:World}{A:Around}{C:Addr}{R:Result->Shared->Prop}{h:Heap}{g:Array GenState}{d:Drawn}{t:Nat}{os:OsState}
theorem make_coreB {rest:List Value} {init:Value} (Y:Makes (model prog w) h C) (hi:Looks (model prog w) h (typeLookup (.ref C) "__init__") (some init))
  (hb:∀self,Looks (model prog w) h (bindSpecial init self) (init,[self])) (hne:(some init != some (Value.builtin "object.__init__"))=true)
  (hq:wpB (model prog w) (A.under (.builtin "type.__call__" ⟨.ref C::rest,[]⟩)) (call init (.ref (h.objs.size+1)::rest)) (λv s'=>v=.none/\R (.ok (.ret (.ref (h.objs.size+1)))) s') (λe s'=>R (.error e) s') ⟨(h.push emptyDict).push (instObj C h.objs.size),g,d,t,os⟩) :
  codeB (model prog w) A (.call (.ref C) ⟨rest,[]⟩) R ⟨h,g,d,t,os⟩:=by
 have Y':=Y;obtain ⟨⟨oc,od,cd,sl,hC,e1,e2,e4⟩,made,base,self,top,call,typ⟩:=Y;refine zaX rfl ?_
 show wpB _ _ (callAny (.ref C) _) _ _ _
 refine .of (nd_load hC ?_);show wpAny _ _ (callAny.viaDunder (.ref C) _) _ _ _
 unfold callAny.viaDunder;refine wpAny_bind (call.at ?_);dsimp only;rw[tc_bind];refine wpAny_bind (wpAny_pure (wpAny_bind (wpAny_pure ?_)));refine wpAny_pure (a:=Fin.again (.call (.builtin "type.__call__") ⟨.ref C::rest,[]⟩)) (And.intro rfl ?_)
 refine zaX rfl ?_
 show wpB _ A.in1 (do checkBuiltinCall "type.__call__" ⟨.ref C::rest,[]⟩;again (.builtin "type.__call__" ⟨.ref C::rest,[]⟩)) _ _ _
 refine za8 (check_slot tc_kind tc_split typ (tc_args _ _ _) (za4 ⟨Code.quiet_builtin _ (by decide +kernel),zhF entry_typeCall (by decide +kernel) ?_⟩))
 have hm:Looks (model prog w) h (mroOf (.ref C)) cd.mro:=((Looks.ld (part:=none) hC).andThen .now).andThen .now;unfold Builtin.«type.__call__»;refine zbH (by simp) ?_
 dsimp only;refine za8 (hm.at ?_);refine zbH (by rw[e4];decide) ?_
 refine za8 (made.at ?_);refine za8 (wpAny_pure ?_);refine za0 (zaH (zeO (.of (new_K Y' hi (.inl hne) ?_))));have k:∀b o,h.get? b=some o->((h.push emptyDict).push (instObj C h.objs.size)).get? b=some o:=λb o e=>Heap.get?_push_of_some _ (Heap.get?_push_of_some _ e)
 have hx:((h.push emptyDict).push (instObj C h.objs.size)).get? (h.objs.size+1)=some (instObj C h.objs.size):=by heap_get
 have t1:Looks (model prog w) ((h.push emptyDict).push (instObj C h.objs.size)) (typeOf (.ref (h.objs.size+1))) (.ref C):=(Looks.ld hx).andThen .now;have s1:=self.keeps k;have i1:=hi.keeps k;have b1:=(hb (.ref (h.objs.size+1))).keeps k;have inst:Looks (model prog w) ((h.push emptyDict).push (instObj C h.objs.size)) (isInstance (.ref (h.objs.size+1)) (.ref C)) true:=t1.andThen s1;have spec:Looks (model prog w) ((h.push emptyDict).push (instObj C h.objs.size)) (specialOf (.ref (h.objs.size+1)) "__init__") (some init):=t1.andThen i1
 dsimp only;refine za8 (inst.at ?_);refine zbH (by decide) ?_
 refine za0 (zaH ?_);unfold callSpecial?;refine za8 (spec.at ?_);dsimp only;refine zaH (za8 (b1.at ?_));dsimp only;refine za0 (zaZ hq (λv s' z=>?_) λ_ _ z=>z)
 obtain ⟨rfl,z⟩:=z;exact za4 (zbH (by decide) (za4 z))
end
theorem call_new{cx:Cx}{n:Nat}{c:Str}{avs:List AV}{os os':Objs}{C fI:Addr}(hone:∀fv,zcA cx (.fn c) fv->fv=.ref C)(hc:clsA cx.K c=some C)(hm:makesIn cx.K C=true)
  (hi:findIn cx.K (.ref C) "__init__"=some (some (.ref fI))) (hf:typeIn cx.K (.ref fI)=some (.type "function")) (hinit:zcA cx (.mt c "__init__") (.ref fI))
  (hI:CallOK cx n (.mt c "__init__") (.r os.length::avs) (os++[.inst c []]) (.ok (.d .none)) os'):CallOK cx (n+1) (.fn c) avs os (.ok (.r os.length)) os':=by
 intro fv hk f hfc hl A hA g m news Z ρ μ h tk vs Q E B ab F N R lv hv hok hexc;obtain rfl:=hone fv hk;subst hfc;have X:f.cx.K.In g:=f.cx.XB.keeps B.stays;have Xh:f.cx.K.In h:=X.keeps F.keep;refine zeO (make_coreB (makes_of Xh hm) (looks_findIn Xh hi) (λself=>bind_fn Xh self hf) rfl ?_)
 have hA':AOK {f with lev:=f.lev - 1} false (A.under (.builtin "type.__call__" ⟨.ref C::vs,[]⟩)):=by
  have w1:(Code.builtin "type.__call__" ⟨.ref C::vs,[]⟩).weight=1:=by kernel_rfl
  have w2:(Code.builtin "type.__call__" ⟨.ref C::vs,[]⟩).cUnits=1:=by kernel_rfl
  have w3:(Code.builtin "type.__call__" ⟨.ref C::vs,[]⟩).envs=[]:=by kernel_rfl
  have w4:(Code.builtin "type.__call__" ⟨.ref C::vs,[]⟩).guards=[]:=by kernel_rfl
  refine ⟨?_,?_,?_,λ_=>hA.hand rfl,?_⟩
  ·show pushEnvs (Code.builtin "type.__call__" ⟨.ref C::vs,[]⟩).envs A.frames=_
   rw[w3];exact hA.frames
  ·show A.depth+(Code.builtin "type.__call__" ⟨.ref C::vs,[]⟩).weight+(f.lev - 1)<=_
   rw[w1];have:=hA.room;lia
  ·show A.units+(Code.builtin "type.__call__" ⟨.ref C::vs,[]⟩).cUnits+8*(f.lev - 1)+100<_
   rw[w2];have:=hA.units;lia
  ·show pushGuards (Code.builtin "type.__call__" ⟨.ref C::vs,[]⟩).guards A.guards=_
   rw[w4];exact hA.guards
 have alloc:∀p∈news,p.1<h.objs.size:=λp hp=>Heap.lt_size (N p hp).1
 have key_lt:∀a∈news.map (·.1),a<h.objs.size:=λa ha=>by
  obtain ⟨p,hp,e⟩:=List.mem_map.mp ha;exact e▸alloc p hp
 have F':Fr g f.L ((h.push emptyDict).push (instObj C h.objs.size)) m:=(F.push _).push _
 have N':News g f.L ((h.push emptyDict).push (instObj C h.objs.size)) ((h.objs.size+1,instObj C h.objs.size)::(h.objs.size,emptyDict)::news):=by
  have:=(N.push F emptyDict).push (F.push _) (instObj C h.objs.size)
  rwa [Heap.size_push] at this
 have fx:h.objs.size+1∉news.map (·.1):=λq=>by have:=key_lt _ q;lia
 have fd:h.objs.size∉news.map (·.1):=λq=>by have:=key_lt _ q;lia
 have R':Rel f.cx ((h.objs.size+1,instObj C h.objs.size)::(h.objs.size,emptyDict)::news) ((h.objs.size+1,instObj C h.objs.size)::Z) (ρ++[h.objs.size+1]) (μ++[h.objs.size]) [] (os++[.inst c []]):=by
  have hG:∀b x,Fz f.cx.base Z b x->Fz f.cx.base ((h.objs.size+1,instObj C h.objs.size)::Z) b x:=λb x q=>q.mono λp hp=>.tail _ hp
  refine ⟨?_,λp hp=>?_,λp hp q=>?_,λp hp q=>(by injection q),λa ha q=>(by injection q),?_,by simp[R.lr],by simp[R.lm],λi o ho=>?_⟩
  ·rw[List.map_cons,List.nodup_cons,List.map_cons,List.nodup_cons]
   refine ⟨λq=>?_,fd,R.nd⟩
   rcases List.mem_cons.mp q with q|q
   ·have:h.objs.size+1=h.objs.size:=q
    lia
   ·exact fx q
  ·rcases List.mem_cons.mp hp with rfl|hp
   ·exact .head _
   ·exact .tail _ (.tail _ (R.zin p hp))
  ·rcases List.mem_cons.mp hp with rfl|hp
   ·rcases List.mem_append.mp q with q|q
    ·exact fx (R.mu_key _ q)
    ·have:h.objs.size+1=h.objs.size:=List.mem_singleton.mp q
     lia
   ·rcases List.mem_append.mp q with q|q
    ·exact R.zmu p hp q
    ·exact fd (List.mem_map.mpr ⟨p,R.zin p hp,List.mem_singleton.mp q⟩)
  ·rw[List.nodup_append]
   exact ⟨R.mnd,by simp,λa ha b hb e=>fd (by rw[←List.mem_singleton.mp hb,←e];exact R.mu_key a ha)⟩
  ·by_cases hi':i<os.length
   ·rw[List.getElem?_append_left hi'] at ho
    obtain ⟨a,dd,h1,h2,h3⟩:=R.ob i o ho;exact ⟨a,dd,by rw[List.getElem?_append_left (by rw[R.lr];exact hi')];exact h1,by rw[List.getElem?_append_left (by rw[R.lm];exact hi')];exact h2,h3.mono hG (List.prefix_append _ _) λob hob=>.tail _ (.tail _ hob)⟩
   ·have e:i=os.length:=by
     have:=(List.getElem?_eq_some_iff.mp ho).1;rw[List.length_append,List.length_singleton] at this;lia
    subst e;rw[List.getElem?_append_right (Nat.le_refl _)] at ho;simp at ho;subst ho;exact ⟨_,_,last_r R.lr,last_r R.lm,C,[],0,hc,.inl (.head _),.tail _ (.head _),rfl⟩
 have step:Kept news Z ρ μ ((h.objs.size+1,instObj C h.objs.size)::(h.objs.size,emptyDict)::news) ((h.objs.size+1,instObj C h.objs.size)::Z) (ρ++[h.objs.size+1]) (μ++[h.objs.size]):=by
  refine ⟨λp hp _=>.tail _ (.tail _ hp),λp hp=>.tail _ hp,λp hp=>?_,List.prefix_append _ _,List.prefix_append _ _,λa ha=>?_⟩
  ·rcases List.mem_cons.mp hp with rfl|hp
   ·exact .inr fx
   ·exact .inl hp
  ·rcases List.mem_append.mp ha with q|q
   ·exact .inl q
   ·rw[List.mem_singleton.mp q];exact .inr fd
 have lastx:∀{ρ'},(ρ++[h.objs.size+1]) <+: ρ'->ρ'[os.length]?=some (h.objs.size+1):=by
  rintro ρ' ⟨tl,rfl⟩
  rw[List.getElem?_append_left (by simp[R.lr])]
  exact last_r R.lr
 have kt:∀{news' Z':Led} {ρ' μ':List Addr},Kept ((h.objs.size+1,instObj C h.objs.size)::(h.objs.size,emptyDict)::news) ((h.objs.size+1,instObj C h.objs.size)::Z) (ρ++[h.objs.size+1]) (μ++[h.objs.size]) news' Z' ρ' μ'->Kept news Z ρ μ news' Z' ρ' μ':=
  λk=>step.trans k.old k.zold k.znew (R'.mu_key) k.rpre k.mpre k.mnew
 refine hI (.ref fI) hinit {f with lev:=f.lev - 1} rfl (by show n<=f.lev - 1;lia) _ hA' g m _ _ _ _ _ tk (.ref (h.objs.size+1)::vs) _ _ B ab F' N' R' (by simp[lv]) (λp hp=>?_) ?_ ?_
 ·rw[List.zip_cons_cons] at hp
  rcases List.mem_cons.mp hp with rfl|hp
  ·exact ⟨_,last_r R.lr,rfl⟩
  ·exact (hv p hp).mono (λa o q=>q.mono λp hp=>.tail _ hp) (List.prefix_append _ _)
 ·intro v h' tk' g' news' Z' ρ' μ' a ea T' B' F'' N'' R'' K'' hva
  cases ea
  refine ⟨hva,?_⟩;exact hok _ h' tk' g' news' Z' ρ' μ' (.r os.length) rfl T' B' F'' N'' R'' (kt K'') ⟨_,lastx K''.rpre,rfl⟩
 ·intro ea C' h' tk' g' news' Z' ρ' μ' c' ec
  cases ec
end
section
open PySem PySem.W PyProof.Rows
noncomputable def cOf(K:Frag)(x:Str):Addr:=(clsA K x).getD 0
noncomputable def isCls(K:Frag)(x:Str):Bool:=(clsA K x).isSome
theorem clsA_at{K:Frag}{x:Str}{a:Addr}:clsA K x=some a->nsIn K mainGlobals x=some (some (.ref a)):=by
 unfold clsA;generalize nsIn K mainGlobals x=z;intro h;induction z with
 |none=>exact nn h
 |some o=>
  induction o with
  |none=>exact nn h
  |some v=>
   induction v with
   |ref b=>injection h;rfl
   |_=>exact nn h
theorem isCls_at{K:Frag}{x:Str}(h:isCls K x=true):nsIn K mainGlobals x=some (some (.ref (cOf K x))):=by
 obtain ⟨a,e⟩:=Option.isSome_iff_exists.mp h;unfold cOf;rw[e];exact clsA_at e
noncomputable def biOK (K:Frag):Bool:=(["len", "bytes", "bytearray", "range", "min", "max"]:List Str).all λx=>nsIn K mainGlobals x==some none
noncomputable def exOK (K:Frag):Bool:=excNames.all λx=>isCls K x&&excIn K (cOf K x) bmE "Exception.__new__"&&keepIn K (.ref (cOf K x))
noncomputable def subOK(K:Frag):Bool:=excNames.all λc=>excNames.all λx=>mroHas K (cOf K c) (cOf K x)==exSub c x
theorem glob_of{K:Frag}(h1:biOK K=true)(h2:exOK K=true)(h3:subOK K=true):Glob K where
 bi:=λx v b=>by
  have:=λy hy=>beq_iff_eq.mp (List.all_eq_true.mp h1 y hy)
  cases b <;> exact this _ (by simp)
 exc:={
  cls:=λx hx=>by
   have:=List.all_eq_true.mp h2 x (hasS_iff.mp hx);obtain ⟨this,k3⟩:=zb1 this;obtain ⟨k1,k2⟩:=zb1 this;exact ⟨_,isCls_at k1,k2,k3⟩
  sub:=λc x C D hc hx e1 e2=>by
   have:=beq_iff_eq.mp (List.all_eq_true.mp (List.all_eq_true.mp h3 c (hasS_iff.mp hc)) x (hasS_iff.mp hx));have i1:cOf K c=C:=by unfold cOf;rw[clsA_of e1];rfl
   have i2:cOf K x=D:=by unfold cOf;rw[clsA_of e2];rfl
   rw[i1,i2] at this
   exact this}
noncomputable def scOK(sc:Scope)(names:List Str):Bool:=
 (sc.kind==.function)&&(sc.names.lookup ("__debug__":Str)).isNone&&decide (sc.names.map (·.1)).Nodup&&!sc.isCoroutine&&!sc.isGenerator &&
  names.all (λx=>sc.names.lookup x==some .local||sc.names.lookup x==some .cell)&&decide names.Nodup&&decide ((cellsFrom 0 sc.names []).map (·.1)).Nodup
theorem scFn_of{sc:Scope}{names:List Str}(h:scOK sc names=true):ScFn sc names:=by
 unfold scOK at h;simp only[Bool.and_eq_true,beq_iff_eq,Bool.not_eq_true',decide_eq_true_eq,List.all_eq_true,Bool.or_eq_true,Option.isNone_iff_eq_none] at h;obtain ⟨⟨⟨⟨⟨⟨⟨h1,h2⟩,h3⟩,h4⟩,h5⟩,h6⟩,h7⟩,h8⟩:=h;exact {kind:=h1,dbg:=h2,nd:=h3,co:=h4,gen:=h5,loc:=h6,nnd:=h7,cnd:=h8}
noncomputable def funcD:Data->Option FuncData
 |.func fd=>some fd
 |_=>none
noncomputable def seqD:Data->Option (Array Value)
 |.seq xs _=>some xs
 |_=>none
noncomputable def fdAt(K:Frag)(a:Addr):Option FuncData:=opb (K.lookup a) λo=>funcD o.data
noncomputable def dfAt(K:Frag)(T:Addr):Option (Array Value):=opb (K.lookup T) λo=>seqD o.data
theorem dfAt_some{K:Frag}{a:Addr}{xs:Array Value}(h:dfAt K a=some xs):∃c d n sl,K.lookup a=some ⟨c,d,.seq xs n,sl⟩:=by
 obtain ⟨⟨c,d,dd,sl⟩,hl,e⟩:=za3 h;induction dd with
 |seq ys n=>injection e;exact ⟨c,d,n,sl,hl⟩
 |_=>exact nn e
noncomputable def fdSees(K:Frag)(fd:FuncData):FuncBody×Scope×Addr×List (Str×Addr)×Addr×Bool×Arguments×Value×Value:=(fd.body,fd.scope,fd.globals,fd.closure,fd.builtins,codeIn K fd.code fd.qualname,fd.params,fd.defaults,fd.kwdefaults)
inductive FdX(K:Frag)(a:Addr)(body:List Stmt)(sc:Scope)(params:Arguments)(dV kV:Value):Prop
 |mk (name qual doc pm an cdv ct oc od osl) (h:K.lookup a=some ⟨oc,od,.func (fnOf name qual params body sc dV kV doc pm an cdv ct),osl⟩) (h2:codeIn K cdv qual=true)
theorem fdAt_some{K:Frag}{a:Addr}{body:List Stmt}{sc:Scope}{params:Arguments}{dV kV:Value}(h:(fdAt K a).map (fdSees K)=some (.stmts body,sc,mainGlobals,[],builtinsNs,true,params,dV,kV)):FdX K a body sc params dV kV:=by
 obtain ⟨fd,h1,h2⟩:=Option.map_eq_some_iff.mp h;clear h;obtain ⟨⟨oc,od,dd,osl⟩,hl,e⟩:=za3 h1;induction dd with
 |func fe=>
  obtain ⟨name,qual,ps,bd,s',gl,clo,dV',kV',doc,pm,an,cdv,ct,bn⟩:=fe;injection e;clear h1;unfold fdSees at h2;simp only[Prod.mk.injEq] at h2;obtain ⟨e1,e2,e3,e4,e5,hc,e6,e7,e8⟩:=h2;rw[e1,e2,e3,e4,e5,e6,e7,e8] at hl;exact ⟨name,qual,doc,pm,an,cdv,ct,oc,od,osl,hl,hc⟩
 |_=>exact nn e
theorem defAt_of{K:Frag}{a:Addr}{body:List Stmt}{sc:Scope}{params:Arguments}{names:List Str}(h:(fdAt K a).map (fdSees K)=some (.stmts body,sc,mainGlobals,[],builtinsNs,true,params,.none,.none))
  (hb:∀name qual doc pm an cdv ct (vs:List Value),vs.length=names.length->bindArgs (fnOf name qual params body sc .none .none doc pm an cdv ct) ⟨vs,[]⟩=pure (names.zip vs)):DefAt K a body sc names []:=by
 obtain ⟨name,qual,doc,pm,an,cdv,ct,oc,od,osl,hl,hc⟩:=fdAt_some h;exact ⟨name,qual,params,.none,.none,doc,pm,an,cdv,ct,oc,od,osl,hl,hc,λh s hX hk vs hv=>by rw[List.append_nil] at hv ⊢;exact .of_eq (hb _ _ _ _ _ _ _ vs hv)⟩
theorem defAt_ofD{K:Frag}{a T:Addr}{body:List Stmt}{sc:Scope}{params:Arguments}{names:List Str}{ds:List Value}{xs:Array Value}(h:(fdAt K a).map (fdSees K)=some (.stmts body,sc,mainGlobals,[],builtinsNs,true,params,.ref T,.none))(hT:dfAt K T=some xs)
  (hb:∀name qual doc pm an cdv ct (vs:List Value),(vs++ds).length=names.length->∃k,bindArgs (fnOf name qual params body sc (.ref T) .none doc pm an cdv ct) ⟨vs,[]⟩=seqItems? (.ref T) >>= k/\k (some xs)=pure (names.zip (vs++ds))):DefAt K a body sc names ds:=by
 obtain ⟨name,qual,doc,pm,an,cdv,ct,oc,od,osl,hl,hc⟩:=fdAt_some h;obtain ⟨c,d,n,sl,hd⟩:=dfAt_some hT;refine ⟨name,qual,params,.ref T,.none,doc,pm,an,cdv,ct,oc,od,osl,hl,hc,λh s hX hk vs hv=>?_⟩
 obtain ⟨k,h1,h2⟩:=hb name qual doc pm an cdv ct vs hv;exact BindsTo.of_defaults rfl (hk _ _ (hX _ _ hd)) rfl h1 h2
theorem one_fn{cx:Cx}{x:Str}{fa:Addr}(h:nsIn cx.K mainGlobals x=some (some (.ref fa))):∀fv,zcA cx (.fn x) fv->fv=.ref fa:=by
 intro fv hk;rcases (show FnVal cx x fv from hk) with ⟨a,_⟩|⟨a,_⟩
 ·rw[h] at a;cases a;rfl
 ·rw[h] at a;cases a
theorem one_mt{cx:Cx}{c m:Str}{C fa:Addr}(hc:clsA cx.K c=some C)(h:findIn cx.K (.ref C) m=some (some (.ref fa))):∀fv,zcA cx (.mt c m) fv->fv=.ref fa:=by
 intro fv hk;obtain ⟨C',fa',rfl,h1,h2,_⟩:=(show zc7 cx c m fv from hk)
 rw[hc] at h1;injection h1;rw[h] at h2;injection h2;rfl
end
section
open PySem PySem.W PyProof.Rows PySem.SeqAt PySem.Calls
open Sem (wp)
section
variable{f:FC}{g h:Heap}{m:Str->Option Value}{news Z:Led}{ρ μ:List Addr}{os:Objs}
theorem fz_at(B:Below f.A₀ f.cx.base f.outer g)(F:Fr g f.L h m)(N:News g f.L h news)(R:Rel f.cx news Z ρ μ [] os){a:Addr}{o:Obj}(x:Fz f.cx.base Z a o):h.get? a=some o:=
 x.elim (λq=>(N _ (R.zin _ q)).1) λq=>F.keep _ _ (B.stays _ _ q)
inductive ListAt(f:FC)(h:Heap)(Z:Led)(ps:List PV)(v:Value):Prop
 |mk (l:Addr) (o:Obj) (vs:List Value) (n:Nat) (e:v=.ref l) (h1:h.get? l=some o) (h2:o.cls=.type "list") (h3:o.data=.seq vs.toArray n) (h4:VPs f.cx.K (Fz f.cx.base Z) ps vs) (h5:ps.length<=big)
theorem seq_at(N:News g f.L h news){b d:Addr}{k:Nat}{ps:List PV}(x:MSeq f.cx news (Fz f.cx.base Z) b d k ps)(hl:ps.length=k):ListAt f h Z ps (.ref b):=by
 obtain ⟨rfl,hk,vs,n,h3,h4⟩:=x;exact ⟨_,_,vs,n,rfl,(N _ h3).1,rfl,rfl,h4,hl▸hk⟩
theorem list_at(B:Below f.A₀ f.cx.base f.outer g)(F:Fr g f.L h m)(N:News g f.L h news)(R:Rel f.cx news Z ρ μ [] os){a:AV}{v:Value}{d:DV}{ps:List PV}(e:asD os a=some d)(hd:plain d=.lst ps)(hv:VA f.cx.K (Fz f.cx.base Z) ρ a v):ListAt f h Z ps v:=by
 rcases zeJ e with rfl|⟨i,rfl,⟨xs,ho,rfl⟩|⟨ty,xs,ho,rfl⟩⟩
 ·have hv:VP f.cx.K (Fz f.cx.base Z) (plain d) v:=hv
  rw[hd] at hv;obtain ⟨l,o,vs,e,h1,⟨h2,n,h3⟩,h4,h5⟩:=(hv:RefX (Fz f.cx.base Z) zg9 ps.length (VPs f.cx.K (Fz f.cx.base Z) ps) v);exact ⟨l,o,vs,n,e,fz_at B F N R h1,h2,h3,h5,h4⟩
 ·obtain ⟨b,dd,h1,h2,x⟩:=R.ob i _ (by rw[←ze8];exact ho)
  obtain ⟨b',h7,rfl⟩:=hv;cases h1.symm.trans h7
  cases hd
  exact seq_at N x (by rw[zaC,List.length_map])
 ·obtain ⟨b,dd,h1,h2,x⟩:=R.ob i _ (by rw[←ze8];exact ho)
  obtain ⟨b',h7,rfl⟩:=hv;cases h1.symm.trans h7
  cases hd
  exact seq_at N x (List.length_map ..)
theorem Rel.frozen(R:Rel f.cx news Z ρ μ [] os){D:Addr}{o:Obj}(hD:D∉news.map (·.1)):Rel f.cx ((D,o)::news) ((D,o)::Z) ρ μ [] os/\Kept news Z ρ μ ((D,o)::news) ((D,o)::Z) ρ μ:=by
 have hG:∀b x,Fz f.cx.base Z b x->Fz f.cx.base ((D,o)::Z) b x:=λb x q=>q.mono λp hp=>.tail _ hp
 refine ⟨⟨by rw[List.map_cons,List.nodup_cons];exact ⟨hD,R.nd⟩,λp hp=>?_,λp hp q=>?_,λp hp q=>(by injection q),λa ha q=>(by injection q),R.mnd,R.lr,R.lm,λi x hx=>?_⟩,λp hp _=>.tail _ hp,λp hp=>.tail _ hp,λp hp=>?_,List.prefix_refl _,List.prefix_refl _,λa ha=>.inl ha⟩
 ·rcases List.mem_cons.mp hp with rfl|hp
  ·exact .head _
  ·exact .tail _ (R.zin p hp)
 ·rcases List.mem_cons.mp hp with rfl|hp
  ·exact hD (R.mu_key _ q)
  ·exact R.zmu p hp q
 ·obtain ⟨a,d,h1,h2,h3⟩:=R.ob i x hx
  exact ⟨a,d,h1,h2,h3.mono hG (List.prefix_refl _) λob hob=>.tail _ hob⟩
 ·rcases List.mem_cons.mp hp with rfl|hp
  ·exact .inr hD
  ·exact .inl hp
end
theorem one_bi{cx:Cx}{x:Str}{fv0:Value}(h:nsIn cx.K mainGlobals x=some none)(hb:bootBuiltins x=some fv0):∀fv,zcA cx (.fn x) fv->fv=fv0:=by
 intro fv hk;rcases (show FnVal cx x fv from hk) with ⟨a,_⟩|⟨_,a,_⟩
 ·rw[h] at a;cases a
 ·rw[hb] at a;cases a;rfl
theorem zcU{cx:Cx}{n:Nat}{x:Str}{fv0:Value}{a:AV}{os:Objs}{d:DV}(h1:nsIn cx.K mainGlobals x=some none)(hb:bootBuiltins x=some fv0)
  (hcall:∀(f:FC) (A:Around) (g h:Heap) (m:Str->Option Value) (news Z:Led) (ρ μ:List Addr) (tk:Nat) (v:Value) (Q E:Value->Shared->Prop),f.cx=cx->AOK f false A->Below f.A₀ f.cx.base f.outer g->Fr g f.L h m->News g f.L h news->Rel f.cx news Z ρ μ [] os->VA f.cx.K (Fz f.cx.base Z) ρ a v ->
   (∀D o h' tk',Fr g f.L h' m->News g f.L h' ((D,o)::news)->D∉news.map (·.1)->VP f.cx.K (Fz f.cx.base ((D,o)::Z)) (plain d) (.ref D)->Q (.ref D) {f.s₀ with heap:=h',toks:=tk'})->wpAny f.M A (call fv0 [v]) Q E {f.s₀ with heap:=h,toks:=tk}) :
  CallOK cx n (.fn x) [a] os (.ok (.d d)) os:=by
 intro fv hk f hf hl A hA g m news Z ρ μ h tk vs Q E B ab F N R lv hv hok hexc;obtain rfl:=one_bi h1 hb fv hk;induction vs using List.casesOn with
 |nil=>exact absurd lv nofun
 |cons v vs=>
  induction vs using List.casesOn with
  |cons _ _=>exact absurd (Nat.succ.inj lv) nofun
  |nil=>
  refine .of (hcall f A g h m news Z ρ μ tk v Q E hf hA B F N R (hv (a,v) (.head _)) λD o h' tk' F' N' hD hva=>?_)
  obtain ⟨R',K'⟩:=R.frozen (o:=o) hD;exact hok _ h' tk' g _ _ ρ μ (.d d) rfl KtsTurn.refl B F' N' R' K' hva
theorem fresh_key{g h:Heap}{L:Addr}{news:Led}(N:News g L h news){D:Addr}(hD:h.get? D=none):D∉news.map (·.1):=λq=>by
 obtain ⟨p,hp,e⟩:=List.mem_map.mp q;rw[←e,(N p hp).1] at hD;injection hD
theorem news_new{g h h':Heap}{L:Addr}{m:Str->Option Value}{news:Led}{D:Addr}{o:Obj}(F:Fr g L h m)(N:News g L h news)(hk:∀b o,h.get? b=some o->h'.get? b=some o)(hD:h.get? D=none)(hDo:h'.get? D=some o):News g L h' ((D,o)::news):=λp hp=>by
 rcases List.mem_cons.mp hp with rfl|hp
 ·refine ⟨hDo,λq=>?_,?_⟩
  ·obtain ⟨oL,_,_,hL,_⟩:=F.ns
   rw[show D=L from q,hL] at hD;injection hD
  ·induction q:g.get? D with
   |none=>rfl
   |some o'=>rw[F.keep _ _ q] at hD;injection hD
 ·exact ⟨hk _ _ (N p hp).1,(N p hp).2⟩
theorem call_list {cx:Cx} {n:Nat} {a:AV} {os:Objs} {d:DV} {ps:List PV} (h1:nsIn cx.K mainGlobals "list"=some none) (e:asD os a=some d) (hd:plain d=.lst ps):CallOK cx n (.fn "list") [a] os (.ok (.d d)) os:=
 zcU (fv0:=.type "list") h1 (by decide +kernel) λf A g h m news Z ρ μ tk v Q E hf hA B F N R hv hq=>by
  obtain ⟨l,o,vs,k,rfl,h2,h3,h4,h5,h6⟩:=list_at B F N R e hd hv;have hl:=h5.length;have hDn:h.get? h.objs.size=none:=Heap.get?_none_of_le (Nat.le_refl _);refine call_list_seq (s:={f.s₀ with heap:=h,toks:=tk}) l (T := "list") (.inl rfl) h2 h3 h4 (λh' c' hk hD=>?_) (by rw[List.size_toArray,hl,sizeLine_eq];exact Nat.le_trans h6 (by decide))
  refine hq _ _ h' tk (F.grownK hk) (news_new F N hk hDn hD) (fresh_key N hDn) ?_
  rw[hd];exact RefX.mk _ _ vs rfl (.inl (.head _)) ⟨rfl,_,rfl⟩ h6 (h5.mono λa o q=>q.mono λp hp=>.tail _ hp)
theorem call_tuple {cx:Cx} {n:Nat} {a:AV} {os:Objs} {d d':DV} {ps:List PV} (h1:nsIn cx.K mainGlobals "tuple"=some none) (e:asD os a=some d) (hd:plain d=.lst ps) (hd':plain d'=.tup ps):CallOK cx n (.fn "tuple") [a] os (.ok (.d d')) os:=
 zcU (fv0:=.type "tuple") h1 (by decide +kernel) λf A g h m news Z ρ μ tk v Q E hf hA B F N R hv hq=>by
  obtain ⟨l,o,vs,k,rfl,h2,h3,h4,h5,h6⟩:=list_at B F N R e hd hv;have hl:=h5.length;refine call_tuple_list (s:={f.s₀ with heap:=h,toks:=tk}) ⟨o,h2,h3,k,h4⟩ (λh' hk=>?_) (by rw[List.size_toArray,hl,sizeLine_eq];exact Nat.le_trans h6 (by decide))
  have hD:h.get? h'.objs.size=none:=by
   induction q:h.get? h'.objs.size with
   |none=>rfl
   |some o=>exact absurd (Heap.lt_size (hk _ _ q)) (Nat.lt_irrefl _)
  have hk':∀b o,h.get? b=some o->(h'.push {cls:=.type "tuple",data:=.seq vs.toArray}).get? b=some o:=λb o e=>Heap.get?_push_of_some _ (hk b o e)
  refine hq _ _ _ tk (F.grownK hk') (news_new F N hk' hD (Heap.get?_push_size _ rfl)) (fresh_key N hD) ?_
  rw[hd'];exact RefX.mk _ _ vs rfl (.inl (.head _)) ⟨rfl,_,rfl⟩ h6 (h5.mono λa o q=>q.mono λp hp=>.tail _ hp)
theorem intsAre_of{K:Frag}{G:Addr->Obj->Prop}{ns:List Int}:∀{vs:List Value},VPs K G (ns.map PV.int) vs->IntsAre vs ns:=by
 induction ns with
 |nil=>intro vs h;cases (h:vs=[]);exact .nil
 |cons a r ih=>
  intro vs h;obtain ⟨v,vr,rfl,h1,h2⟩:=h;obtain ⟨t,rfl⟩:=(show ∃t,v=.int a t from h1)
  exact .cons a t (ih h2)
theorem zi3{K:Frag}{G:Addr->Obj->Prop}{vs:List Value}{ns:List Int}(h:IntsAre vs ns):VPs K G (ns.map PV.int) vs:=by
 induction h with
 |nil=>exact rfl
 |cons a t _ ih=>exact ⟨_,_,rfl,⟨t,rfl⟩,ih⟩
theorem call_sorted {cx:Cx} {n:Nat} {a:AV} {os:Objs} {d:DV} {ns sl:List Int} (h1:nsIn cx.K mainGlobals "sorted"=some none) (e:asD os a=some d) (hd:plain d=.lst (ns.map PV.int)) (h64:ns.length<64) (hs:sl.Pairwise (·<=·)) (hp:sl.Perm ns) :
  CallOK cx n (.fn "sorted") [a] os (.ok (.d (.tl .int sl))) os:=
 zcU (fv0:=.builtin "sorted") h1 (by decide +kernel) λf A g h m news Z ρ μ tk v Q E hf hA B F N R hv hq=>by
  obtain ⟨l,o,vs,k,rfl,h2,h3,h4,h5,h6⟩:=list_at B F N R e hd hv;refine kso_sorted (s:={f.s₀ with heap:=h,toks:=tk}) F N ⟨o,h2,h3,k,h4⟩ (intsAre_of h5) h64 λD vs' ns' c h' F' N' hlt hi hlen hperm hsort _=>?_
  have e1:ns'=sl:=(hperm.trans hp.symm).eq_of_pairwise (λa b _ _ h1 h2=>Int.le_antisymm h1 h2) hsort hs
  subst e1
  have hDn:D∉news.map (·.1):=λq=>by
   obtain ⟨p,hp,e⟩:=List.mem_map.mp q;have:=hlt p hp;rw[e] at this;exact Nat.lt_irrefl _ this
  refine hq D _ h' tk F' N' hDn ?_
  show VP _ _ (.lst (ns'.map (Ty.plain .int))) _
  refine RefX.mk _ _ vs' rfl (.inl (.head _)) ⟨rfl,_,rfl⟩ ?_ (zi3 hi);show (List.map (λ(x:Int)=>PV.int x) ns').length<=16000000
  rw[List.length_map];lia
end
section
open PySem PySem.W PyProof.Rows PySem.SeqAt PySem.Calls
open Sem (wp)
noncomputable def octs(b:Byt):List Nat:=b.map (·.toNat)
theorem ltB_octs:∀a b:Byt,ltB a b=decide (octs a<octs b)
 |[],[]=>by simp[ltB,octs]
 |x::a,[]=>by simp[ltB,octs]
 |[],y::b=>by simp[ltB,octs]
 |x::a,y::b=>by
  rw[ltB_cons];have ih:=ltB_octs a b
  have key:decide (octs (x::a)<octs (y::b))=decide (x.toNat<y.toNat\/x.toNat=y.toNat/\octs a<octs b):=by
   apply decide_eq_decide.mpr;exact List.cons_lt_cons_iff
  rw[key];by_cases h:x.toNat<y.toNat
  ·simp[h]
  ·by_cases h':y.toNat<x.toNat
   ·have:x.toNat≠y.toNat:=by lia
    simp[h,h',this]
   ·have e:x.toNat=y.toNat:=by lia
    simp[h,h',e,ih]
@[reducible] noncomputable def bytKind:PyProof.Rows.KeyKind where
 α:=List Nat
 blt a b:=decide (a<b)
 irrefl a:=by simpa using List.lt_irrefl a
 trans a b c h1 h2:=by simp only[decide_eq_true_eq] at *;exact List.lt_trans h1 h2
 negTrans a b c h:=by
  simp only[decide_eq_true_eq] at *;by_cases hab:a<b
  ·exact .inl hab
  ·exact .inr (List.lt_of_le_of_lt (List.not_lt.mp hab) h)
 total a b h1 h2:=by simp only[decide_eq_false_iff_not] at *;exact List.le_antisymm (List.not_lt.mp h2) (List.not_lt.mp h1)
 keyOf v:=match v with|.bytes b _=>some (octs b.toList)|_=>none
 dflt:=[]
section
variable{prog:Program}{w:World}{A:Around}{E:Value->Shared->Prop}{s:Shared}
theorem oneLt_bytes{a b:Array UInt8}{t u:Tok}{Q:Bool->Shared->Prop}(h:Q (ltB a.toList b.toList) s):wpAny (model prog w) A (oneLt' true (.bytes a t) (.bytes b u)) Q E s:=by
 rw[oneLt'_eq];simp only[if_true];refine wpAny_bind (wpAny_cRoomFor_byValue rfl ?_);refine wpAny_bind (wpAny_callSpecialIfBound?_slot (typeIs_bytes s a t) zeQ (call_gives zeQ (typeIs_bytes s a t) zgB (zhO _ _) (zgA a b t u) ?_));exact wpAny_truthy_bool h
end
theorem bytKind_oneLt:bytKind.OneLt:=by
 intro prog w A E s x y a b Q ha hb h;cases x <;> simp only[bytKind,reduceCtorEq,Option.some.injEq] at ha
 cases y <;> simp only[bytKind,reduceCtorEq,Option.some.injEq] at hb
 injection ha;injection hb;exact oneLt_bytes (by rw[ltB_octs];exact h)
inductive BytsAre:List Value->List Byt->Prop
 |nil:BytsAre [] []
 |cons {b:Byt} {t:Tok} {vs:List Value} {bs:List Byt}:BytsAre vs bs->BytsAre (.bytes b.toArray t::vs) (b::bs)
theorem bytsAre_first:∀{vs:List Value} {bs:List Byt},BytsAre vs bs->vs.mapM firstOfTuple'=pure (vs.map λ_=>none):=by
 intro _ _ h;induction h with
 |nil=>simp
 |@cons b t _ _ _ ih=>rw[List.mapM_cons,show firstOfTuple' (.bytes b.toArray t)=pure none from rfl,ih];simp
theorem bytsAre_type:∀{vs:List Value} {bs:List Byt},BytsAre vs bs->vs.mapM typeOf=pure (vs.map λ_=>Value.type "bytes")
 |_,_,.nil=>by simp
 |_,_,.cons h=>by
  rw[List.mapM_cons,bytsAre_type h];show (pure (Value.type "bytes") >>= λb=>pure _ >>= λbs=>pure (b::bs))=_
  simp
theorem keyKind_byts{v₁ v₂:Value}{vs:List Value}{bs:List Byt}(hS:BytsAre (v₁::v₂::vs) bs):keyKind' (v₁::v₂::vs).toArray=pure oneType':=by
 rw[keyKind'_eq,List.mapM_toArray,bytsAre_first hS];simp only[map_pure,pure_bind];rw[if_neg (by simp),if_neg (by simp)]
 rw[oneTypeOnly'_eq,List.mapM_toArray,bytsAre_type hS];simp only[map_pure,pure_bind]
 have hall:((List.map (λ_=>Value.type "bytes") (v₁::v₂::vs)).toArray.all λx=>x==Value.type "bytes")=true:=by
  simp only[List.all_toArray,List.all_map,List.all_eq_true];intro _ _;rfl
 have h0:(List.map (λ_=>Value.type "bytes") (v₁::v₂::vs)).toArray[0]?=some (Value.type "bytes"):=by simp
 rw[h0];simp only[hall,if_true,pure_bind,Option.isSome_some]
noncomputable def bOf:Value->Byt
 |.bytes b _=>b.toList
 |_=>[]
theorem BytsAre.all:∀{vs:List Value} {bs:List Byt},BytsAre vs bs->∀v∈vs,∃b t,v=.bytes (b:Byt).toArray t:=by
 intro _ _ h;induction h with
 |nil=>exact λ_ h=>nm h
 |cons _ ih=>
  intro v hv;rcases List.mem_cons.mp hv with rfl|hv
  ·exact ⟨_,_,rfl⟩
  ·exact ih v hv
theorem BytsAre.map:∀{vs:List Value} {bs:List Byt},BytsAre vs bs->vs.map bOf=bs
 |_,_,.nil=>rfl
 |_,_,.cons h=>by rw[List.map_cons,BytsAre.map h];rfl
theorem bytsAre_map:∀{vs:List Value},(∀v∈vs,∃b t,v=.bytes (b:Byt).toArray t)->BytsAre vs (vs.map bOf)
 |[],_=>.nil
 |v::r,h=>by
  obtain ⟨b,t,rfl⟩:=h v (.head _);exact .cons (bytsAre_map λu hu=>h u (.tail _ hu))
theorem sorted_byts{vs:List Value}{bs:List Byt}(hS:BytsAre vs bs){xs:Array Keyed}(hp:xs.Perm (pairsOf vs))(hs:SortedToK bytKind xs (pairsOf vs).size):
  ∃bs',BytsAre (xs.map (·.2)).toList bs'/\bs'.Perm bs/\bs'.Pairwise λa b=>ltB b a=false:=by
 have hl:xs.toList.Perm (vs.zip vs):=by rw[←pairsOf_toList];exact Array.perm_iff_toList_perm.mp hp
 have hmem:∀p,p∈xs.toList->p.1=p.2/\p.1∈vs:=λp hp'=>mem_zip_self (hl.mem_iff.mp hp')
 refine ⟨xs.toList.map (λp=>bOf p.1),?_,?_,?_⟩
 ·have e:(xs.map (·.2)).toList=xs.toList.map (·.1):=by
   rw[Array.toList_map];exact List.map_congr_left λp hp'=>(hmem p hp').1.symm
  rw[e]
  have h1:=bytsAre_map (vs:=xs.toList.map (·.1)) (by
   intro v hv;obtain ⟨p,hp',rfl⟩:=List.mem_map.mp hv
   exact BytsAre.all hS _ (hmem p hp').2)
  rwa [List.map_map] at h1
 ·have h1:=hl.map (λp=>bOf p.1)
  have e2:(vs.zip vs).map (λp=>bOf p.1)=bs:=by
   have:(vs.zip vs).map (λp=>bOf p.1)=((vs.zip vs).map Prod.fst).map bOf:=by rw[List.map_map];rfl
   rw[this,List.map_fst_zip (Nat.le_refl _),BytsAre.map hS]
  rwa [e2] at h1
 ·rw[List.pairwise_iff_getElem]
  intro i j hi hj hij;have hi':i<xs.size:=by simpa using hi
  have hj':j<xs.size:=by simpa using hj
  have h1:=hs i j (Nat.le_of_lt hij) (by rw[←hp.size_eq];exact hj')
  obtain ⟨x,t,ex⟩:=BytsAre.all hS _ (hmem xs[i] (by simp)).2
  obtain ⟨y,u,ey⟩:=BytsAre.all hS _ (hmem xs[j] (by simp)).2
  have kk:∀{i:Nat} (hi:i<xs.size) {x:Byt} {t:Tok},xs[i].1=.bytes x.toArray t->KK bytKind xs i=octs x:=by
   intro i hi x t e;unfold KK;rw[getElem?_pos xs i hi];show (bytKind.keyOf xs[i].1).getD _=_
   rw[e];rfl
  rw[kk hi' ex,kk hj' ey] at h1
  change decide (octs y<octs x)=false at h1
  simp only[List.getElem_map,Array.getElem_toList];rw[ex,ey,ltB_octs];exact h1
end
section
open PySem PySem.W PyProof.Rows PySem.SeqAt PySem.Calls
open Sem (wp)
set_option tactic.hygienic true in
theorem bytesKind_of{prog:Program}{w:World}{k:List UInt8}{v:Value}(h:(bytesKind prog w).is k v=true):∃t,v=.bytes k.toArray t:=by
 cases v <;> first|(simp[bytesKind,isBytes] at h;done)|skip
 rename_i b t
 simp[bytesKind,isBytes] at h
 exact ⟨t,by rw[←h]⟩
theorem KV.at{es:List (Byt×Byt)}{kvs:List (Byt×Value)}(h:KV es kvs):kvs.map (·.1)=es.map (·.1):=by
 induction es generalizing kvs with
 |nil=>cases (h:_=[]);rfl
 |cons p r ih=>
  obtain ⟨k,v⟩:=p;obtain ⟨t,kr,rfl,_,h2⟩:=h;rw[List.map_cons,List.map_cons,ih h2]
theorem bytsAre_keys{prog:Program}{w:World}:∀{kvs:List (Byt×Value)} {vs:List Value},vs.length=kvs.length->(∀(j:Nat) (v:Value),vs[j]?=some v->∃k x,kvs[j]?=some (k,x)/\(bytesKind prog w).is k v=true)->BytsAre vs (kvs.map (·.1))
 |[],[],_,_=>.nil
 |[],_::_,h,_=>by simp at h
 |_::_,[],h,_=>by simp at h
 |p::kr,v::vr,h,hp=>by
  obtain ⟨k,x,e,hk⟩:=hp 0 v rfl;simp at e;subst e;obtain ⟨t,rfl⟩:=bytesKind_of hk;refine .cons (bytsAre_keys (prog:=prog) (w:=w) (by simpa using h) λj u hu=>?_)
  obtain ⟨k',x',e',hk'⟩:=hp (j+1) u (by simpa using hu)
  exact ⟨k',x',by simpa using e',hk'⟩
theorem of_bytsAre{K:Frag}{G:Addr->Obj->Prop}:∀{vs:List Value} {bs:List Byt},BytsAre vs bs->(∀b∈bs,b.length<=big)->VPs K G (bs.map PV.bytes) vs:=by
 intro _ _ h;induction h with
 |nil=>exact λ_=>rfl
 |@cons b t _ _ h ih=>
  intro hb;exact ⟨_,_,rfl,⟨hb _ (.head _),t,rfl⟩,ih λc hc=>hb c (.tail _ hc)⟩
theorem call_sortedD {cx:Cx} {n:Nat} {i:Nat} {os:Objs} {es:List (Byt×Byt)} {sl:List Byt} (h1:nsIn cx.K mainGlobals "sorted"=some none) (ho:getT os i=some (.dict es)) (h64:es.length<64) (hbig:∀b∈sl,b.length<=big)
  (hs:sl.Pairwise λa b=>ltB b a=false) (hp:sl.Perm (es.map (·.1))):CallOK cx n (.fn "sorted") [.r i] os (.ok (.d (.tl .byt sl))) os:=
 zcU (fv0:=.builtin "sorted") h1 (by decide +kernel) λf A g h m news Z ρ μ tk v Q E hf hA B F N R hv hq=>by
  obtain ⟨b',h7,rfl⟩:=hv;obtain ⟨b,d,r1,r2,rfl,hl,o,kvs,h3,h4,h5,h6⟩:=R.ob i _ (by rw[←ze8];exact ho)
  rw[r1] at h7;injection h7;obtain ⟨ep,hat⟩:=(dictOf_at (N _ h3).1 h5).dictAt;have hk:=KV.at h6;have hlen:kvs.length=es.length:=by have:=congrArg List.length hk;simpa using this
  refine kdu_sorted (s:={f.s₀ with heap:=h,toks:=tk}) (kdl_dict (knd:=bytesKind f.cx.prog f.cx.w) (kvs:=kvs) (ep:=ep) h4) (hA.hand rfl) F N hat (by rw[hlen,sizeLine_eq];lia) λD h' tk' vs F' N' hlt hvl hvs=>?_
  have hBy:=bytsAre_keys hvl hvs;rw[hk] at hBy;have hD:=(N' _ (.head _)).1;have hvl':vs.length<64:=by rw[hvl,hlen];exact h64
  refine wpAny_call_entry (s:={f.s₀ with heap:=h',toks:=tk'}) slot_list_sort ⟨_,hD,rfl⟩ entry_list_sort ?_ (args_list_sort _)
  have ho':h'.get? D=some (seqObj "list" vs.toArray 0):=hD
  refine list_sort_treeK (s:={f.s₀ with heap:=h',toks:=tk'}) bytKind_oneLt ho' (λp hp=>?_) (λv₁ v₂ rest e=>keyKind_byts (by rw[←e];exact hBy)) hvl' λst' hpm hst=>⟨_,rfl,?_⟩
  ·have:p∈vs.zip vs:=by rw[←pairsOf_toList];exact hp
   obtain ⟨b,t,e⟩:=BytsAre.all hBy _ (List.of_mem_zip this).1;exact ⟨_,by rw[e]⟩
  ·obtain ⟨bs',q1,q2,q3⟩:=sorted_byts hBy hpm hst
   have e1:bs'=sl:=(q2.trans hp.symm).eq_of_pairwise (λa b _ _ k1 k2=>by
    rw[ltB_octs] at k1 k2;have k1:=of_decide_eq_false k1;have k2:=of_decide_eq_false k2;have e:=List.le_antisymm (List.not_lt.mp k1) (List.not_lt.mp k2);unfold octs at e
    exact (List.map_inj_right (λx y h=>UInt8.toNat_inj.mp h)).mp e) q3 hs
   subst e1;obtain ⟨e,he⟩:=sortedHeap_at (out:=(arrOf st').map (·.2)) ho'
   have hDL:D≠f.L:=(N' _ (.head _)).2.1;have hDg:g.get? D=none:=(N' _ (.head _)).2.2;have old:∀b o,b≠D->h'.get? b=some o->(sortedHeap h' D vs ((arrOf st').map (·.2))).get? b=some o:=λb o hb e=>(sortedHeap_old hb (Heap.lt_size e)).trans e
   have hDn:D∉news.map (·.1):=λq=>by
    obtain ⟨p,hp,e⟩:=List.mem_map.mp q;have:=hlt p hp;rw[e] at this;exact Nat.lt_irrefl _ this
   refine hq D (seqObj "list" ((arrOf st').map (·.2)) e) _ tk' ?_ ?_ hDn ?_
   ·exact ⟨F'.ns.at' λo e=>old _ o (Ne.symm hDL) e,λb o e=>old b o (λz=>by rw[z,hDg] at e;injection e) (F'.keep b o e),F'.above⟩
   ·intro p hp
    rcases List.mem_cons.mp hp with rfl|hp
    ·exact ⟨he,hDL,hDg⟩
    ·exact ⟨old _ _ (λz=>hDn (List.mem_map.mpr ⟨p,hp,z⟩)) (N' _ (.tail _ hp)).1,(N' _ (.tail _ hp)).2⟩
   ·show VP _ _ (.lst (bs'.map (Ty.plain .byt))) _
    refine RefX.mk _ _ (((arrOf st').map (·.2)).toList) rfl (.inl (.head _)) ⟨rfl,e,by rw[Array.toArray_toList]⟩ ?_ (of_bytsAre q1 hbig)
    show (List.map (λ(x:Byt)=>PV.bytes x) bs').length<=16000000
    rw[List.length_map,q2.length_eq,List.length_map];lia
end
section
open PySem PySem.W PyProof.Rows PySem.SeqAt PySem.Calls
open Sem (wp)
theorem call_listRange {cx:Cx} {n:Nat} {os:Objs} {a b:Int} {k:Nat} (h1:nsIn cx.K mainGlobals "list"=some none) (hk:b=a+(k:Int)) (hk2:k<=1000) (ha:a.natAbs<2 ^ 40) :
  CallOK cx n (.fn "list") [.d (.rng a b 1)] os (.ok (.d (.tl .int (rangeKs a k)))) os:=
 zcU (fv0:=.type "list") h1 (by decide +kernel) λf A g h m news Z ρ μ tk v Q E hf hA B F N R hv hq=>by
  have hv:VP f.cx.K (Fz f.cx.base Z) (.rng a b 1) v:=hv;obtain ⟨r,o,rfl,e2,t,u,w,rfl⟩:=hv;have hr:=fz_at B F N R e2
  have hn:Builtin.Range.rangeSize a b 1=(k:Int):=by
   unfold Builtin.Range.rangeSize;split <;> split <;> first|lia|(simp at *;lia)
  refine kll_range (s:={f.s₀ with heap:=h,toks:=tk}) (hA.hand rfl) F N hr ?_ hn (by lia) λD us c h' tk' F' N' hlt hi=>?_
  ·unfold Builtin.Range.small Builtin.Range.rangeFitsLong
   rw[hn];simp;lia
  ·have hDn:D∉news.map (·.1):=λq=>by
    obtain ⟨p,hp,e⟩:=List.mem_map.mp q;have:=hlt p hp;rw[e] at this;exact Nat.lt_irrefl _ this
   refine hq D _ h' tk' F' N' hDn ?_
   show VP _ _ (.lst ((rangeKs a k).map (Ty.plain .int))) _
   refine RefX.mk _ _ us rfl (.inl (.head _)) ⟨rfl,c,rfl⟩ ?_ (zi3 hi);show (List.map (λ(x:Int)=>PV.int x) (rangeKs a k)).length<=16000000
   rw[List.length_map,rangeKs_length];lia
end
section
open PySem PySem.W PyProof.Rows PySem.SeqAt PySem.Calls
open Sem (wp)
section
variable{prog:Program}{w:World}{A:Around}{E:Value->Shared->Prop}{s:Shared}{r:Addr}{a b c:Int}{t u v:Tok}{n:Nat}
theorem collectRange{R:List Value->Shared->Prop}(hh:A.handled=none)(hr:IsRange s.heap r a b c t u v)(hsmall:Builtin.Range.small a b c=true)(hn:Builtin.Range.rangeSize a b c=n)(hlen:n<=2 ^ 24)
  (h:∀(h':Heap) (tk:Nat) (acc:Array Value),(∀b o,s.heap.get? b=some o->h'.get? b=some o)->ItemsOf (λi v=>∃t,v=.int (a+i*c) t) acc n->R acc.toList {s with heap:=h',toks:=tk}) :
  wpAny (model prog w) A (collect (.ref r)) R E s:=by
 unfold collect;refine wpAny_bind (wpAny_runValue (codeAny_builtin entry_proto_collect' ?_));rw[Around.under_plainId PySem.F.plain_proto_collect _];show wpAny _ A.in1 (newList [] >>= λl=>again (.builtin "list.__iadd__" ⟨[l,.ref r],[]⟩)) _ _ s
 refine wpAny_bind (wpAny_newObj_type ?_);refine wpAny_pure ⟨plainId_quiet PySem.F.plain_list_iadd _,codeAny_builtin entry_list_iadd' ?_⟩;rw[Around.under_plainId PySem.F.plain_list_iadd _];have hS₁:(s.heap.push {cls:=.type "list",data:=.seq ([]:List Value).toArray}).get? s.heap.objs.size=some {cls:=.type "list",data:=.seq #[]}:=Heap.get?_push_size _ rfl
 show wpAny _ A.in1 (Builtin.List.listExtendWith (.ref s.heap.objs.size) (.ref r) (.ref s.heap.objs.size)) _ _ _
 refine wpAny_mono (wpAny_extend_range (A:=A) (s:={s with heap:=s.heap.push {cls:=.type "list",data:=.seq ([]:List Value).toArray}})
  (R:=λ(q:Result) (s':Shared)=>∃(h':Heap) (tk:Nat) (acc':Array Value) (c':Nat),q=.ok (.ret (.ref s.heap.objs.size))/\s'={s with heap:=h',toks:=tk} /\
   (∀b o,s.heap.get? b=some o->h'.get? b=some o)/\h'.get? s.heap.objs.size=some {cls:=.type "list",dict:=none,data:=.seq acc' c',slots:=#[]}/\ItemsOf (λi v=>∃t,v=.int (a+i*c) t) acc' n)
  hh (Heap.get?_push_of_some _ hr) hsmall hn hlen s.heap.objs.size (.ref s.heap.objs.size) 0 hS₁
  (λh' tk acc' c' hk hS' hacc=>⟨h',tk,acc',c',rfl,rfl,λb o e=>hk b o (Nat.ne_of_lt (Heap.lt_size e)) (Heap.get?_push_of_some _ e),hS',hacc⟩)) (λfin s' x=>?_) λe s' x=>?_
 ·induction fin with
  |done f=>
   obtain ⟨h',tk,acc',c',e,rfl,hk,hS',hacc⟩:=x;injection e;show wpAny _ A (load s.heap.objs.size >>= _) _ _ _
   refine wpAny_bind (wpAny_load hS' ?_);exact wpAny_pure (h h' tk acc' hk hacc)
  |again c₁=>
   refine ⟨x.1,codeAny_mono x.2 λq s₂ y=>?_⟩
   obtain ⟨h',tk,acc',c',rfl,rfl,hk,hS',hacc⟩:=y;show wpAny _ A (load s.heap.objs.size >>= _) _ _ _
   refine wpAny_bind (wpAny_load hS' ?_);exact wpAny_pure (h h' tk acc' hk hacc)
 ·obtain ⟨_,_,_,_,e',_⟩:=x
  injection e'
theorem code_tuple_range{Q₁:Value->Shared->Prop}(hh:A.handled=none)(hr:IsRange s.heap r a b c t u v)(hsmall:Builtin.Range.small a b c=true)(hn:Builtin.Range.rangeSize a b c=n)(hlen:n<=2 ^ 24)
  (h:∀(h':Heap) (tk:Nat) (acc:Array Value),(∀b o,s.heap.get? b=some o->h'.get? b=some o)->ItemsOf (λi v=>∃t,v=.int (a+i*c) t) acc n->Q₁ (.ref h'.objs.size) {s with heap:=h'.push {cls:=.type "tuple",data:=.seq acc},toks:=tk}) :
  codeAny (model prog w) A (.call (.builtin "tuple.__new__") ⟨[.type "tuple",.ref r],[]⟩) (wants Q₁ E) s:=by
 refine codeAny_of_tree ?_
 show wpAny _ A.in1 (do checkBuiltinCall "tuple.__new__" ⟨[.type "tuple",.ref r],[]⟩;again (.builtin "tuple.__new__" ⟨[.type "tuple",.ref r],[]⟩)) _ _ s
 refine wpAny_bind (wpAny_of_eq (F.newCall_tuple_1 _) (wpAny_pure ⟨plainId_quiet F.plain_tuple_new _,codeAny_builtin F.entry_tuple_new ?_⟩));rw[Around.under_plainId F.plain_tuple_new _];have hsub:=sub_tuple_self;have hinit:=init_tuple_lookup;have hmh:=madeHere_tuple;have hTI:s.TypeIs (.ref r) "range":=⟨_,hr,rfl⟩
 wp_walk using wpAny_typeOf hTI,collectRange (A:=A.in1) hh hr hsmall hn hlen
 intro h' tk acc hk hacc;show wpAny _ _ (Builtin.Tuple.tupleExact acc.toList.toArray >>= λv=>ret v) _ _ _
 unfold Builtin.Tuple.tupleExact;refine wpAny_bind (wpAny_newObj_type ?_ (by show acc.toList.toArray.size<=sizeLine;simp only[Array.toArray_toList];rw[hacc.1,sizeLine_eq];lia))
 refine wpAny_pure ?_
 have e:acc.toList.toArray=acc:=by simp
 rw[e];exact h h' tk acc hk hacc
theorem call_tuple_range{Q:Value->Shared->Prop}(hh:A.handled=none)(hr:IsRange s.heap r a b c t u v)(hsmall:Builtin.Range.small a b c=true)(hn:Builtin.Range.rangeSize a b c=n)(hlen:n<=2 ^ 24)
  (h:∀(h':Heap) (tk:Nat) (acc:Array Value),(∀b o,s.heap.get? b=some o->h'.get? b=some o)->ItemsOf (λi v=>∃t,v=.int (a+i*c) t) acc n->Q (.ref h'.objs.size) {s with heap:=h'.push {cls:=.type "tuple",data:=.seq acc},toks:=tk}) :
  wpAny (model prog w) A (call (.type "tuple") [.ref r]) Q E s:=by
 refine callType_codes (Q₁:=λobj s₁=>s₁.TypeIs obj "tuple"/\Q obj s₁) F.called_tuple (F.typeCall_tuple_1 _) F.entry_object_init
  (code_tuple_range (A:=A.in1) hh hr hsmall hn hlen λh' tk acc hk hacc=>⟨⟨_,Heap.get?_push_size _ rfl,rfl⟩,h h' tk acc hk hacc⟩) λobj s₁ h₁=>?_
 exact ⟨h₁.1,F.args_object_init_2 obj _,object_init_meets F.called_tuple.init.lookup F.called_tuple.made (by decide) prog w A.in1 _ s₁ ⟨h₁.1,rfl,h₁.2⟩⟩
end
end
section
open PySem PySem.W PyProof.Rows PySem.SeqAt PySem.Calls
open Sem (wp)
theorem call_tupleRange {cx:Cx} {n:Nat} {os:Objs} {a b:Int} {k:Nat} (h1:nsIn cx.K mainGlobals "tuple"=some none) (hk:b=a+(k:Int)) (hk2:k<=1000) (ha:a.natAbs<2 ^ 40) :
  CallOK cx n (.fn "tuple") [.d (.rng a b 1)] os (.ok (.d (.tt .int (rangeKs a k)))) os:=
 zcU (fv0:=.type "tuple") h1 (by decide +kernel) λf A g h m news Z ρ μ tk v Q E hf hA B F N R hv hq=>by
  have hv:VP f.cx.K (Fz f.cx.base Z) (.rng a b 1) v:=hv;obtain ⟨r,o,rfl,e2,t,u,w,rfl⟩:=hv;have hr:=fz_at B F N R e2
  have hn:Builtin.Range.rangeSize a b 1=(k:Int):=by
   unfold Builtin.Range.rangeSize;split <;> split <;> first|lia|(simp at *;lia)
  refine call_tuple_range (s:={f.s₀ with heap:=h,toks:=tk}) (hA.hand rfl) hr ?_ hn (by lia) λh' tk' acc hkk hI=>?_
  ·unfold Builtin.Range.small Builtin.Range.rangeFitsLong
   rw[hn];simp;lia
  ·have hD:h.get? h'.objs.size=none:=by
    induction q:h.get? h'.objs.size with
    |none=>rfl
    |some o=>exact absurd (Heap.lt_size (hkk _ _ q)) (Nat.lt_irrefl _)
   have hk':∀b o,h.get? b=some o->(h'.push {cls:=.type "tuple",data:=.seq acc}).get? b=some o:=λb o e=>Heap.get?_push_of_some _ (hkk b o e)
   refine hq _ _ _ tk' (F.grownK hk') (news_new F N hk' hD (Heap.get?_push_size _ rfl)) (fresh_key N hD) ?_
   have hi:IntsAre acc.toList (rangeKs a k):=kll_ints _ _ _ (by rw[Array.length_toList];exact hI.1) λj v hj=>hI.2 j v (by rw[←hj,Array.getElem?_toList])
   show VP _ _ (.tup ((rangeKs a k).map (Ty.plain .int))) _
   refine RefX.mk _ _ acc.toList rfl (.inl (.head _)) ⟨rfl,_,by rw[Array.toArray_toList]⟩ ?_ (zi3 hi)
   show (List.map (λ(x:Int)=>PV.int x) (rangeKs a k)).length<=16000000
   rw[List.length_map,rangeKs_length];lia
end
section
open PySem PySem.W PyProof.Rows
theorem hnil:Holds []:=λ_ h=>nomatch h
theorem zeE{p:Prop}{l:List Prop}(h:p)(t:Holds l):Holds (p::l):=λq hq=>by
 rcases List.mem_cons.mp hq with rfl|hq
 ·exact h
 ·exact t q hq
noncomputable def showR(κ:List Nat):Res->Option CRes
 |.fl f=>(match f with
  |.ret a=>opb (renA (λj=>zcQ j κ 0) a) λa'=>some (.ok a')
  |.next=>some (.ok (.d .none))
  |.brk=>none
  |.cont=>none
  |.exc _=>none)
 |.exc _ c=>some (.exc c)
 |.v _=>none
 |.vs _=>none
 |.b _=>none
 |.u=>none
noncomputable def fin(κ:List Nat)(k:Nat)(o:Out):Option (CRes×Objs×List Prop):=opb o λp=>(match p.2.ans with
 |[]=>opb (zg4 k κ [] p.2.env p.2.objs) λq=>opb (showR κ p.1) λcr=>some (cr,q.2,p.2.obl)
 |_::_=>none)
theorem showR_some{κ:List Nat}{r:Res}{cr:CRes}(h:showR κ r=some cr):Shows κ r cr:=by
 induction r with
 |fl f=>
  induction f with
  |ret a=>
   obtain ⟨a',ha,h⟩:=za3 h;injection h;exact ⟨a',ha,rfl⟩
  |next=>injection h;rfl
  |_=>exact nn h
 |exc _ c=>injection h;rfl
 |_=>exact nn h
inductive FinX(κ:List Nat)(k:Nat)(o:Out)(cr:CRes)(os':Objs)(obl:List Prop):Prop
 |mk (r:Res) (env':Env') (objs':Objs) (hb:Bool) (a:o=some (r,⟨env',objs',hb,[],obl⟩)) (b:zg4 k κ [] env' objs'=some ([],os')) (c:Shows κ r cr)
theorem fin_some{κ:List Nat}{k:Nat}{o:Out}{cr:CRes}{os':Objs}{obl:List Prop}(h:fin κ k o=some (cr,os',obl)):FinX κ k o cr os' obl:=by
 obtain ⟨⟨r,env',objs',hb,an,obl'⟩,ho,h⟩:=za3 h;induction an using List.casesOn with
 |cons _ _=>exact nn h
 |nil=>
  obtain ⟨⟨e,os1⟩,h1,h⟩:=za3 h;obtain ⟨cr1,h2,h⟩:=za3 h;have he:=(weakO_some h1).env;cases h
  injection he with he
  subst he;exact ⟨r,env',objs',hb,ho,h1,showR_some h2⟩
theorem call_by{cx:Cx}{n:Nat}{key:Key}{fa:Addr}{body:List Stmt}{sc:Scope}{names:List Str}{avs dvs:List AV}{ds:List Value}{os os':Objs}{cr:CRes}{obl:List Prop}(d N:Nat)(κ:List Nat)(ans:List Ans)
  (hone:∀fv,zcA cx key fv->fv=.ref fa) (hD:DefAt cx.K fa body sc names ds) (SF:ScFn sc names) (GK:Glob cx.K) (l2:(avs++dvs).length=names.length) (ld:ds.length=dvs.length) (hds:∀p∈dvs.zip ds,∀G ρ,VA cx.K G ρ p.1 p.2)
  (hob:Holds obl) (hfin:fin κ os.length (run (zfB cx sc n d os.length) (nmsOf sc) N (.exs body) ⟨names.zip (avs++dvs),os,false,ans,[]⟩)=some (cr,os',obl)):CallOK cx (n+1) key avs os cr os':=by
 obtain ⟨r,env',objs',hb,h1,h2,h3⟩:=fin_some hfin;exact call_defD hone hD SF GK l2 ld hds h1 hob h2 h3
end
section
open PySem PySem.W PyProof.Rows
noncomputable section
noncomputable def te(k:Str)(t:Nat)(v:Value):Str×Nat×Value:=(k,t,v)
noncomputable def tEnt(P:Params):Str×Nat×Value->DictEntry
 |(k,t,v)=>⟨PyData.keyHash P k,.str k t,v⟩
noncomputable def tDict (P:Params) (es:List (Str×Nat×Value)) (n:Nat):Obj:=⟨.type "dict",none,.dict ⟨es.map (tEnt P)⟩ n,⟨[]⟩⟩
noncomputable def tTup (vs:List Value):Obj:=⟨.type "tuple",none,.seq ⟨vs⟩ 0,⟨[]⟩⟩
noncomputable def tFld(vs:List Value):Obj:=⟨.none,none,.fields ⟨vs⟩,⟨[]⟩⟩
noncomputable def tInt(n:Nat):Value:=.int (.ofNat n) 0
noncomputable def tFile (t:Nat):Value:=.str (Str.ofString "/claim/cut.py") t
noncomputable def tToks:List Str->Nat->List Value
 |[],_=>[]
 |x::r,t=>.str x t::tToks r (t+1)
noncomputable def tCode(name qual:Str)(t v ln args flags:Nat)(fn:Bool)(a1 a2:Nat)(x y z:Value):Obj:=
 ⟨.type "code",none,.fields ⟨[.str name t,.str qual (t+1),tFile (t+2),tInt ln,tInt args,tInt 0,tInt 0,tInt flags,.ref a1,.bool fn,tInt 181,.ref a2,.none,x,y,z,tInt (t+3+v),tInt ln,tFile (t+4+v)]⟩,⟨[]⟩⟩
noncomputable def tFunc(name qual:Str)(ps:Arguments)(b:List Stmt)(sc:Scope)(g:Nat)(dv md cd:Value):FuncData:=
 {name:=name,qualname:=qual,params:=ps,body:=.stmts b,scope:=sc,globals:=g,closure:=[],defaults:=dv,kwdefaults:=.none,pyModule:=md,code:=cd}
noncomputable def tFn(name qual:Str)(ps:Arguments)(b:List Stmt)(sc:Scope)(ln:Nat)(vs:Option (List Str))(dv md:Value)(a t:Nat):List Obj:=
 let pl:Obj:=⟨.none,none,.func (tFunc name qual ps b sc 0 .none .none .none),⟨[]⟩⟩
 let f (c:Nat):Obj:=⟨.type "function",none,.func (tFunc name qual ps b sc 3 dv md (.ref c)),⟨[]⟩⟩
 match vs with
 |some vs=>[tTup [],tFld [],tTup (tToks vs (t+3)),tTup [],pl,tCode name qual t vs.length ln ps.args.length 3 true a (a+1) (.ref (a+2)) (.ref (a+3)) (.ref (a+4)),f (a+5)]
 |none=>[tTup [],tFld [],pl,tCode name qual t 0 ln ps.args.length 3 true a (a+1) .none .none (.ref (a+2)),f (a+3)]
noncomputable def tLocs(sc:Scope):List Str:=(sc.names.filter λp=>p.2==.local||p.2==.cell).map (·.1)
noncomputable def tEnd(vs:Option (List Str))(a t:Nat):Nat×Nat×Nat×Nat:=match vs with
 |some vs=>(a+5,a+6,a+7,t+5+vs.length)
 |none=>(a+3,a+4,a+5,t+5)
noncomputable def tKin:List (Nat×Nat×Nat):=[(44,31,3),(56,44,4),(68,56,5),(80,44,6),(92,44,7),(104,31,8),(116,104,9),(128,104,10),(140,104,11),(152,104,12)]
noncomputable def tSubs(K a:Nat):List (Nat×Nat×Nat)->List Value
 |[]=>[]
 |(c,b,i)::r=>match Nat.beq a b&&Nat.blt i K with
  |true=>.ref c::tSubs K a r
  |false=>tSubs K a r
noncomputable def tBase(a:Nat):List (Nat×Nat×Nat)->Nat
 |[]=>0
 |(c,b,_)::r=>match Nat.beq a c with
  |true=>b
  |false=>tBase a r
noncomputable def tMro:Nat->Nat->List Value
 |0,_=>[]
 |n+1,a=>.ref a::(match Nat.beq a 31 with
  |true=>[.type "Exception",.type "BaseException",.type "object"]
  |false=>tMro n (tBase a tKin))
structure CS where
 n:Nat
 t:Nat
 es:List (Str×Nat×Value)
 fs:List Value
 os:List Obj
noncomputable def tMeth(cls:Str)(md:Value)(s:CS):Stmt->CS
 |.FunctionDef name ps b _ _ _ sc _ _ pos=>
  let qual:=cls ++ "."++name
  let vs:=some (tLocs sc)
  match ps.defaults with
  |[]=>
   let e:=tEnd vs s.n s.t
   ⟨e.2.2.1,e.2.2.2+1,s.es++[(name,e.2.2.2,.ref e.2.1)],s.fs++[tInt pos.line,tInt pos.col,.ref e.1],s.os++tFn name qual ps b sc pos.line vs .none md s.n s.t⟩
  |_=>
   let e:=tEnd vs (s.n+1) (s.t+1)
   ⟨e.2.2.1,e.2.2.2+1,s.es++[(name,e.2.2.2,.ref e.2.1)],s.fs++[tInt pos.line,tInt pos.col,.ref e.1],s.os++tTup [.int 0 s.t]::tFn name qual ps b sc pos.line vs (.ref s.n) md (s.n+1) (s.t+1)⟩
 |_=>s
noncomputable def tBi (id:String) (v:Value):Obj:=⟨.type "builtin_function_or_method",none,.fields ⟨[.builtin id,v]⟩,⟨[]⟩⟩
noncomputable def tSup (c:Nat):Obj:=⟨.type "super",none,.fields ⟨[.ref c,.ref c,.ref c]⟩,⟨[]⟩⟩
noncomputable def tGs (n:Str) (t c:Nat) (x y:Value):Obj:=⟨.type "getset_descriptor",none,.fields ⟨[.str n t,.ref c,x,y]⟩,⟨[]⟩⟩
noncomputable def tCls(name:Str)(t:Nat)(tup new:Value)(bases mro subs:List Value)(ns:Nat):Obj:=
 ⟨.type "type",none,.cls {name:=name,bases:=bases,mro:=mro,ns:=ns,qualname:=name,subclasses:=subs},⟨[match tup with|Value.none=>none|v=>some v,none,some (.str name t),some (.str name (t+8)),some new,some (.bool true)]⟩⟩
noncomputable def tTab:List (Nat×Nat):=[(15,187),(22,194),(22,196),(35,216),(47,232),(59,248),(71,264),(83,280),(95,296),(107,312),(119,328),(131,344),(143,360),(155,376),(155,378),(155,380),(155,382),(162,391),(169,405),(176,412),(183,420),(190,427),(197,435),(204,443),(211,450),(218,457),(225,465),(232,473),(239,482),(324,587),(401,678),(401,680),(401,682),(401,684),(401,686),(485,789),(485,791),(485,793),(492,802),(499,810),(548,873),(583,924),(590,933),(597,943),(604,951),(611,964),(611,966),(611,968),(611,970),(611,972),(611,974),(611,976),(611,978),(611,980),(611,982),(611,984),(611,986),(611,988),(611,990),(611,992),(611,994),(611,996),(646,1049),(653,1057),(660,1064),(667,1078),(674,1087),(681,1097),(688,1106),(695,1113),(702,1121),(709,1130),(716,1140),(723,1151),(842,1333),(849,1341),(919,1437),(919,1439),(926,1445),(933,1451),(940,1457),(947,1463),(954,1469),(961,1475),(968,1481),(975,1489),(982,1508),(987,1514),(994,1521),(1001,1530),(1006,1536),(1011,1542)]
noncomputable def tMd(i:Nat):Value:=match Nat.ble i 1 with
 |true=>.str "__main__" 164
 |false=>match Nat.ble i 13 with
 |true=>.str "raftkeep.errors" 194
 |false=>match Nat.ble i 30 with
 |true=>.str "raftkeep.octets" 376
 |false=>match Nat.ble i 35 with
 |true=>.str "raftkeep.keys" 678
 |false=>match Nat.ble i 45 with
 |true=>.str "raftkeep.messages" 789
 |false=>match Nat.ble i 76 with
 |true=>.str "raftkeep.commands" 964
 |false=>.str "law_no0426_01" 1437
noncomputable def tVs(i:Nat)(sc:Scope):Option (List Str):=match Nat.beq i 86||Nat.beq i 89||Nat.beq i 90 with|true=>none|false=>some (tLocs sc)
noncomputable def tC0 (name:Str) (md:Value) (a t:Nat) (pos:Pos):CS:=⟨a+7,t+12,[te "__module__" (t+7) md,te "__qualname__" (t+9) (.str name (t+8)),te "__firstlineno__" (t+11) (.int (.ofNat pos.line) (t+10))],[],[]⟩
noncomputable def tHd(P:Params)(name:Str)(md:Value)(a t:Nat)(pos:Pos)(sa:List Str)(c:CS)(es:List (Str×Nat×Value))(tup:Obj):List Obj:=
 tup::tBi "type.__prepare__" (.type "type")::tDict P es es.length::tTup []::tFld c.fs::tCode name name (t+2) 0 pos.line 0 0 false (a+3) (a+4) .none .none .none ::
  ⟨.type "frame",none,.plain,⟨[some (.ref (a+5)),some (.ref 3),some (.ref (a+2)),none,some md,none,some (.ref 0)]⟩⟩::(c.os++[tTup (tToks sa c.t)])
noncomputable def tNews(P:Params)(K i a t:Nat)(md:Value):Stmt->List Obj
 |.FunctionDef name ps b _ _ _ sc _ _ pos=>tFn name name ps b sc pos.line (tVs i sc) .none md a t
 |.ClassDef name _ _ b _ _ _ _ _ sa pos=>
  let c:=b.foldl (tMeth name md) (tC0 name md a t pos)
  let sat:=c.t+sa.length
  let es1:=c.es++[te "__static_attributes__" sat (.ref c.n)]
  let es2:=es1.eraseIdx 1
  let nd:=c.n+1
  let cc:=c.n+2
  match Nat.beq i 2 with
  |true=>tHd P name md a t pos sa c es1 (tTup [.type "Exception"])++[tDict P (es2++[te "__weakref__" (sat+2) (.ref (cc+1)),te "__doc__" (sat+3) .none]) 3,
    tCls name t (.ref a) (.builtin "Exception.__new__") [.type "Exception"] (tMro 6 cc) (tSubs K cc tKin) nd,tGs "__weakref__" (sat+1) cc (.builtin "ExceptionGroup.__weakref__") .none,tSup cc,tBi "object.__init_subclass__" (.ref cc)]
  |false=>match Nat.blt i 13 with
   |true=>tHd P name md a t pos sa c es1 (tTup [.ref (tBase cc tKin)])++[tDict P (es2++[te "__doc__" (sat+1) .none]) 2,
     tCls name t (.ref a) (.builtin "Exception.__new__") [.ref (tBase cc tKin)] (tMro 6 cc) (tSubs K cc tKin) nd,tSup cc,tBi "object.__init_subclass__" (.ref cc)]
   |false=>tHd P name md a t pos sa c es1 (tTup [])++[tDict P (es2++[te "__dict__" (sat+2) (.ref (cc+1)),te "__weakref__" (sat+4) (.ref (cc+2)),te "__doc__" (sat+5) .none]) 4,
     tCls name t .none (.builtin "object.__new__") [.type "object"] [.ref cc,.type "object"] [] nd,
     tGs "__dict__" (sat+1) cc (.builtin "function.__dict__") (.builtin "function.__dict__#set"),tGs "__weakref__" (sat+3) cc (.builtin "ExceptionGroup.__weakref__") .none,tSup cc,tBi "object.__init_subclass__" (.ref cc)]
 |_=>[]
noncomputable def tMdAt(i:Nat):Bool:=Nat.beq i 1||Nat.beq i 13||Nat.beq i 30||Nat.beq i 35||Nat.beq i 45||Nat.beq i 76
noncomputable def tBinds(i a t b u:Nat):Stmt->List (Str×Nat×Value)
 |.FunctionDef name _ _ _ _ _ _ _ _ _=>[(name,u - 1,.ref (b - 1))]
 |.Assign [.Name x _] (.Constant c _ _) _=>(match tMdAt i with
  |true=>[]
  |false=>[(x,t+1,match c with|.int n=>.int n t|.bytes b=>.bytes ⟨b⟩ t|_=>.none)])
 |.ClassDef name _ _ _ _ _ _ _ _ _ _=>[(name,u - 1,.ref (match Nat.beq i 2 with|true=>b - 4|false=>match Nat.blt i 13 with|true=>b - 3|false=>b - 5))]
 |_=>[]
noncomputable def tField(a b:Nat):Stmt->List Value
 |.FunctionDef _ _ _ _ _ _ _ _ _ pos=>[tInt pos.line,tInt pos.col,.ref (b - 2)]
 |.ClassDef _ _ _ _ _ _ _ _ _ _ pos=>[tInt pos.line,tInt pos.col,.ref (a+5)]
 |_=>[]
noncomputable def tGo{α:Type}(f:Nat->Nat->Nat->Nat->Nat->Stmt->List α):Nat->Nat->List Stmt->List (Nat×Nat)->List α
 |k+1,i,st::r,(a,t)::(b,u)::q=>f i a t b u st++tGo f k (i+1) r ((b,u)::q)
 |_,_,_,_=>[]
noncomputable def tBody:List Stmt:=Challenge.pw_no0426_01.main.body
noncomputable def tAt:List (Nat×Nat)->Nat->Nat×Nat
 |x::_,0=>x
 |_::r,k+1=>tAt r k
 |[],_=>(0,0)
noncomputable def tMain (k:Nat):List (Str×Nat×Value):=te "__name__" 165 (tMd k)::te "__doc__" 166 .none::te "__package__" 167 .none::te "__loader__" 168 (.builtin "__main__.__loader__#opaque")::te "__spec__" 169 .none::te "__annotations__" 170 (.ref 6)::te "__builtins__" 171 (.ref 4)::te "__file__" 173 (tFile 172)::te "__cached__" 174 .none ::
 tGo tBinds k 0 tBody tTab
noncomputable def tStat(k:Nat):List (Str×Nat×Value):=match Nat.blt 2 k with
 |true=>[te "type.__subclasses__.Exception.0" 212 (tInt 31),te "type.__subclasses__.Exception.n" 213 (tInt 1)]
 |false=>[]
noncomputable def tModCode:Obj:=⟨.type "code",none,.fields ⟨[.str "<module>" 182,.str "<module>" 183,tFile 184,tInt 1,tInt 0,tInt 0,tInt 0,tInt 0,.ref 11,.bool false,tInt 181,.ref 12,.none,.none,.none,.none,tInt 185,tInt 1,tFile 186]⟩,⟨[]⟩⟩
noncomputable def tFrame:Obj:=⟨.type "frame",none,.plain,⟨[some (.ref 13),some (.ref 3),some (.ref 3),none,some (.str "__main__" 164),none,some (.ref 0)]⟩⟩
noncomputable def tOpen(P:Params)(k:Nat):List Obj:=[boot_o_0 P,boot_o_1 P,⟨.none,none,.dict ⟨(tStat k).map (tEnt P)⟩ (tStat k).length,⟨[]⟩⟩,tDict P (tMain k) (tMain k).length,boot_o_4 P,boot_o_5 P,boot_o_6 P,boot_o_7 P,boot_o_8 P,boot_o_9 P,boot_o_10 P,
 tTup [],tFld (tGo (λ_ a _ b _ st=>tField a b st) k 0 tBody tTab),tModCode,tFrame]
noncomputable def tCap(k:Nat):Nat:=match Nat.blt k 13 with|true=>k|false=>13
noncomputable def tObjs(P:Params)(k:Nat):List Obj:=tOpen P k++tGo (λi a t _ _ st=>tNews P (tCap k) i a t (tMd i) st) k 0 tBody tTab
noncomputable def tOdd:List Obj->List Obj
 |[]=>[]
 |[x]=>[x]
 |x::_::r=>x::tOdd r
noncomputable def tEven:List Obj->List Obj
 |[]=>[]
 |[_]=>[]
 |_::y::r=>y::tEven r
noncomputable def tTree:Nat->List Obj->BT
 |0,_=>.nil
 |_+1,[]=>.nil
 |n+1,o::r=>.node o (tTree n (tOdd r)) (tTree n (tEven r))
noncomputable def tSh(P:Params)(k:Nat)(os:OsState):SharedT:=⟨tTree 12 (tObjs P k),(tAt tTab k).1,{},⟨[]⟩,boot_drawn,(tAt tTab k).2,os⟩
noncomputable abbrev pw:Program:=Challenge.pw_no0426_01
noncomputable def tEnv:Env:={scope:=pw.main.scope,locals:=mainNs,globals:=mainNs,cells:=[],code:=.ref 13,frame:=some 14}
noncomputable def tQ:Pos:=⟨0,0,0,0⟩
noncomputable def tC:Code:=.body (behindTheImports pw) tEnv
noncomputable def tSts(i m:Nat):List Stmt:=(tBody.drop i).take m
noncomputable def tPosOf:Stmt->Pos
 |.FunctionDef _ _ _ _ _ _ _ _ _ p=>p
 |.ClassDef _ _ _ _ _ _ _ _ _ _ p=>p
 |.Assign [.Name _ p] _ _=>p
 |_=>tQ
noncomputable def tPosAt:Nat->List Stmt->Pos
 |0,_=>tQ
 |1,st::_=>tPosOf st
 |k+2,_::r=>tPosAt (k+1) r
 |_+1,[]=>tQ
noncomputable def tPos(k:Nat):Pos:=tPosAt k tBody
noncomputable abbrev Seg(i m N:Nat):Prop:=∀w:World,(λos=>segRunT treeTable pw w 11 (some (.ref 6)) 1 N (tSh w.params i os) (piecesOf (tSts i m) tEnv tC (tPos i) [topFrame tQ]))=λos=>some (.next,tSh w.params (Nat.add i m) os,tC,tPos (Nat.add i m))
theorem segF:@segRunT=@Fast.tw10110043849684766642:=Fast.te10110043849684766642
theorem tabF:@treeTable=@Fast.tw14364793385576792824:=Fast.te14364793385576792824
end
end
section
open PySem PySem.W PyProof.Rows
theorem seg0:Seg 0 3 235:=by intro w;rw[segF,tabF];kernel_rfl
theorem seg1:Seg 3 2 441:=by intro w;rw[segF,tabF];kernel_rfl
theorem seg2:Seg 5 2 469:=by intro w;rw[segF,tabF];kernel_rfl
theorem seg3:Seg 7 2 441:=by intro w;rw[segF,tabF];kernel_rfl
theorem seg4:Seg 9 2 455:=by intro w;rw[segF,tabF];kernel_rfl
theorem seg5:Seg 11 2 455:=by intro w;rw[segF,tabF];kernel_rfl
theorem seg6:Seg 13 15 392:=by intro w;rw[segF,tabF];kernel_rfl
theorem seg7:Seg 28 1 516:=by intro w;rw[segF,tabF];kernel_rfl
theorem seg8:Seg 29 5 513:=by intro w;rw[segF,tabF];kernel_rfl
theorem seg9:Seg 34 5 592:=by intro w;rw[segF,tabF];kernel_rfl
theorem seg10:Seg 39 1 353:=by intro w;rw[segF,tabF];kernel_rfl
theorem seg11:Seg 40 5 421:=by intro w;rw[segF,tabF];kernel_rfl
theorem seg12:Seg 45 16 145:=by intro w;rw[segF,tabF];kernel_rfl
theorem seg13:Seg 61 1 295:=by intro w;rw[segF,tabF];kernel_rfl
theorem seg14:Seg 62 11 345:=by intro w;rw[segF,tabF];kernel_rfl
theorem seg15:Seg 73 1 712:=by intro w;rw[segF,tabF];kernel_rfl
theorem seg16:Seg 74 1 31:=by intro w;rw[segF,tabF];kernel_rfl
theorem seg17:Seg 75 1 458:=by intro w;rw[segF,tabF];kernel_rfl
theorem seg18:Seg 76 10 277:=by intro w;rw[segF,tabF];kernel_rfl
theorem seg19:Seg 86 5 139:=by intro w;rw[segF,tabF];kernel_rfl
end
section
open PySem PySem.W PyProof.Rows
noncomputable section
noncomputable abbrev tAnn:Option Value:=some (.ref 6)
noncomputable abbrev tF:List Frame:=[topFrame tQ]
theorem sts_app(i m:Nat):tSts i m++tBody.drop (Nat.add i m)=tBody.drop i:=by
 show (tBody.drop i).take m++tBody.drop (i+m)=_
 rw[←List.drop_drop,List.take_append_drop]
theorem zb4{i m N M:Nat}(h:Seg i m N){w:World}{os:OsState}{r:Shared}
  (k:topRun treeTable pw w 11 tAnn M (tSh w.params (Nat.add i m) os).abs (restOf (tBody.drop (Nat.add i m)) tEnv tC (tPos (Nat.add i m)) tF)=some r) :
  topRun treeTable pw w 11 tAnn (N+M) (tSh w.params i os).abs (restOf (tBody.drop i) tEnv tC (tPos i) tF)=some r:=by
 have z:=piece_app (segRun_of (congrFun (h w) os)) k;rw[sts_app] at z;exact z
theorem tPre(w:World):(λos=>topGo treeTable pw w 11 tAnn 12 ⟨boot_heap w.params,⟨[]⟩,boot_drawn,boot_toks,os⟩ (topStub pw))=λos=>some ((tSh w.params 0 os).abs,⟨denote treeTable tC,tC,tQ,tF⟩):=by
 kernel_rfl
theorem tBlock(w:World):(λos=>segRun treeTable pw w 11 tAnn 1 1 (tSh w.params 0 os).abs (blockOf tBody tEnv tC tQ tF))=λos=>some (.next,(tSh w.params 0 os).abs,tC,tQ):=by
 kernel_rfl
theorem tFin(w:World):(λos=>topRun treeTable pw w 11 tAnn 2 (tSh w.params 91 os).abs ⟨doneF .next,tC,tPos 91,tF⟩)=λos=>some (tSh w.params 91 os).abs:=by
 kernel_rfl
noncomputable def tSum:Nat:=12+(1+(235+(441+(469+(441+(455+(455+(392+(516+(513+(592+(353+(421+(145+(295+(345+(712+(31+(458+(277+(139+(2))))))))))))))))))))))
theorem tTop(w:World)(os:OsState):topRun treeTable pw w 11 tAnn tSum ⟨boot_heap w.params,⟨[]⟩,boot_drawn,boot_toks,os⟩ (topStub pw)=some (tSh w.params 91 os).abs:=
 go_top (congrFun (tPre w) os) (piece_block (congrFun (tBlock w) os) (zb4 seg0 (zb4 seg1 (zb4 seg2 (zb4 seg3 (zb4 seg4 (zb4 seg5 (zb4 seg6 (zb4 seg7 (zb4 seg8 (zb4 seg9 (zb4 seg10 (zb4 seg11 (zb4 seg12 (zb4 seg13 (zb4 seg14 (zb4 seg15 (zb4 seg16 (zb4 seg17 (zb4 seg18 (zb4 seg19 (piece_nil (congrFun (tFin w) os)))))))))))))))))))))))
end
end
section
open PySem PySem.W PyProof.Rows
noncomputable section
noncomputable def kNth:List Obj->Nat->Obj
 |[],_=>default
 |x::_,0=>x
 |_::r,k+1=>kNth r k
noncomputable def kFind(P:Params)(a:Nat):Nat->List Stmt->List (Nat×Nat)->Obj
 |i,st::r,(b,t)::q=>(match q with
  |[]=>default
  |(c,_)::_=>(match Nat.blt a c with
   |true=>kNth (tNews P 13 i b t (tMd i) st) (a - b)
   |false=>kFind P a (i+1) r q))
 |_,_,_=>default
noncomputable def kObj(P:Params)(a:Nat):Obj:=match Nat.blt a 15 with
 |true=>kNth (tOpen P 91) a
 |false=>kFind P a 0 tBody tTab
noncomputable def kAs:List Addr:=[2,3,13,20,21,24,27,30,31,32,37,40,43,44,49,52,55,56,61,64,67,68,73,76,79,80,85,88,91,92,97,100,103,104,109,112,115,116,121,124,127,128,133,136,139,140,145,148,151,152,160,161,167,168,174,175,181,182,188,189,195,196,202,203,209,210,216,217,223,224,230,231,237,238,241,244,246,252,253,259,260,266,267,273,274,280,281,287,288,294,295,301,302,308,309,315,316,318,319,320,321,326,329,336,337,343,344,350,351,357,358,364,365,371,372,378,379,385,386,392,393,395,396,397,398,403,406,413,414,420,421,427,428,434,435,441,442,448,449,455,456,462,463,469,470,476,477,479,480,481,482,490,491,497,498,501,504,511,512,518,519,525,526,532,533,539,540,542,543,544,545,550,553,560,561,567,568,574,575,577,578,579,580,588,589,595,596,602,603,609,610,613,616,623,624,630,631,637,638,640,641,642,643,651,652,658,659,665,666,672,673,679,680,686,687,693,694,700,701,707,708,714,715,721,722,725,728,735,736,742,743,749,750,756,757,763,764,770,771,777,778,784,785,791,792,798,799,805,806,812,813,819,820,826,827,833,834,836,837,838,839,847,848,851,854,861,862,868,869,875,876,882,883,889,890,896,897,903,904,910,911,913,914,915,916,924,925,931,932,938,939,945,946,952,953,959,960,966,967,973,974,980,981,985,986,992,993,999,1000,1004,1005,1009,1010]
noncomputable def kK(P:Params):Frag:=kAs.map λa=>(a,kObj P a)
noncomputable def kH(P:Params):Heap:=absHeap (tTree 12 (tObjs P 91)) 1011 {}
theorem kGet(P:Params):kAs.map (λa=>(tTree 12 (tObjs P 91)).get a)=kAs.map λa=>some (kObj P a):=by kernel_rfl
theorem kSmall:(kAs.all λa=>Nat.blt a 1011)=true:=by kernel_rfl
end
end
section
open PySem PySem.W PyProof.Rows
noncomputable section
noncomputable def tView:Program:=view pw [90]
noncomputable def tLoose:List Str:=(tGo tBinds 90 0 tBody tTab).map (·.1)
theorem kAliveAll(P:Params):(kAs.map λa=>PySem.W.alive (kObj P a))=kAs.map λa=>some (kObj P a):=by kernel_rfl
theorem kHas(P:Params):kAs.map (kH P).get?=(kK P).map λp=>some p.2:=by
 unfold kK;rw[List.map_map];refine List.map_congr_left λa ha=>?_
 have h1:=List.map_inj_left.mp (kGet P) a ha;have h2:=List.map_inj_left.mp (kAliveAll P) a ha;have h3:=Nat.le_of_ble_eq_true (List.all_eq_true.mp kSmall a ha);exact (abs_get h3 h1).trans h2
theorem tOpens:opening pw=plainProg pw.main.scope.names:=by kernel_rfl
theorem tFence(s:Shared):fenceModules? pw s=some s:=by kernel_rfl
theorem tSize (w:World):((boot_heap w.params).isNs mainGlobals&&(Array.size (⟨[]⟩:Array GenState))==0,(boot_heap w.params).objs.size,(boot_heap w.params).nsMap mainGlobals "__annotations__")=(true,11,some (.ref 6)):=by kernel_rfl
theorem look1(P:Params):staticsOk (importedModules pw.main.body) (boot_heap P) (kH P)=true:=by kernel_rfl
theorem look2(P:Params):namesBound pw (kH P)=true:=by kernel_rfl
theorem look4(P:Params):laidKept (boot_heap P) (kH P)=true:=by kernel_rfl
theorem look5(w:World):(λos=>openSeen tView tLoose (importedModules pw.main.body) (λ_=>true) true ⟨kH w.params,⟨[]⟩,boot_drawn,(tAt tTab 91).2,os⟩)=λ_=>openGood tView tLoose:=by kernel_rfl
end
end
section
open PySem PySem.W PyProof.Rows PySem.Calls
noncomputable section
theorem tAt91:tAt tTab 91=(1011,1542):=by kernel_rfl
noncomputable def tObs(s:Shared):List (Option Obj):=kAs.map s.heap.get?
noncomputable def tVal(w:World):List (Option Obj):=(kK w.params).map λp=>some p.2
theorem tLeft:LeftO pw tView tLoose (λ_=>true) tObs tVal tSum:=by
 refine LeftO.of_pieces (H₀:=boot_heap) (H₁:=kH) (gs₀:=⟨[]⟩) (gs₁:=⟨[]⟩) (d₀:=boot_drawn) (d₁:=boot_drawn) (k₀:=boot_toks) (k₁:=(tAt tTab 91).2) (m₀:=11) (ann:=some (.ref 6)) (M:=tSum)
  (boot_open tOpens (by decide) tFence) tSize (λw os=>?_) (by decide +kernel) λw=>?_
 ·refine (tTop w os).trans ?_
  show some (⟨absHeap (tTree 12 (tObjs w.params 91)) (tAt tTab 91).1 {},_,_,_,_⟩:Shared)=some ⟨absHeap (tTree 12 (tObjs w.params 91)) 1011 {},_,_,_,_⟩
  rw[show (tAt tTab 91).1=1011 from congrArg Prod.fst tAt91]
  rfl
 ·funext os
  refine looks_pair ?_ (looks_pair (congrFun (look5 w) os) (kHas w.params));show (((_&&_)&&gensDone _)&&_)=true
  rw[show staticsOk _ _ _=true from look1 w.params,show namesBound _ _=true from look2 w.params,show laidKept _ _=true from look4 w.params]
  rfl
theorem ends_B{prog:Program}{w:World}{t:Sem Fin}{s:Shared}{R:Result->Shared->Prop}(hreg:s.asleep)
  (h:wpB (model prog w) callerA t (λfin s'=>∃f,fin=.done f/\(R (.ok f) s'/\leftWithCleanup s'.gens=false)) (λe s'=>R (.error e) s'/\leftWithCleanup s'.gens=false) s) :
  ∃n r s' s'',runN (denote table) prog w n s ⟨t,.builtin "claim.caller" {},default,[]⟩=.halted (outcomeOf r) s' /\
   schedN (denote table) prog w n (.single s ⟨t,.builtin "claim.caller" {},default,[]⟩)=.halted (outcomeOf r) s'/\s'.forget=s''.forget/\R r s'':=by
 obtain ⟨n,r,s₁,s₂,hs,hn,hfo,hR⟩:=wp_halts_full (M:=model prog w) (R:=R) (c:=.builtin "claim.caller" {}) (p:=default) hreg
  (Sem.wp_mono _ _ t (λfin p' s' h'=>by obtain ⟨f,rfl,hf⟩:=h';exact hf) (λ_ _ _ h'=>h') default s (h _ default caller_in rfl λ_ hx=>(nomatch hx)))
 exact ⟨n,r,s₂,s₁,hn,hs,hfo,hR⟩
abbrev lw:OpenLaw:=Challenge.rw_no0426_01
abbrev lr:OpenRow:=lw.row
theorem ends_out{c:ClaimW}{s s₁ s':Shared}{args:List WData}{vs:List Value}{r:Result}{free:Addr->Prop}(h:c.Ends s args vs s₁ r s'):
  (∃v,outcomeOf r=.done (.ret v)/\(∀cls,c.raises args cls=false) /\
    (∃d ds as bs,ReadsW c.records (classAt s.heap) s'.heap v d as/\ReadsAllW c.records (classAt s.heap) s'.heap vs ds bs/\c.post args d ds=true /\
     (c.unshared=true->as.Nodup/\(∀a∈as,s₁.heap.get? a=none)/\∀a∈as,a∉bs) /\
     (∀as₀,ReadsAllW c.records (classAt s.heap) s₁.heap vs args as₀ ->
      c.ident (as.map (whence s₁.heap as₀ (as++bs))) (bs.map (whence s₁.heap as₀ (as++bs)))=true)) /\
    (∀i,c.same=some i->vs[i]?=some v) /\
    (∀b o,s₁.heap.get? b=some o->¬ free b->(∀i∈c.mutates,vs[i]?=some (.ref b)->o.dict≠none) ->
     (∀i∈c.within,∀v d as,vs[i]?=some v->ReadsW c.records (classAt s.heap) s₁.heap v d as->b∉as) ->
     asItWas s₁.heap s'.heap b o) /\
    (∀i∈c.within,∀v d as,vs[i]?=some v->ReadsW c.records (classAt s.heap) s₁.heap v d as->∀b∈as,∀o,s₁.heap.get? b=some o->o.dict≠none ->
     ∃o',s'.heap.get? b=some o'/\o'.cls=o.cls/\o'.dict=o.dict)) \/
   (∃e ob cls,outcomeOf r=.uncaught (.ref e)/\s'.heap.get? e=some ob/\ExcName.means s.heap cls=some ob.cls/\c.raises args cls=true/\s₁.heap.get? e=none /\
    (∀b o,s₁.heap.get? b=some o->¬ free b->asItWas s₁.heap s'.heap b o)):=
 h.imp (Exists.imp λ_=>And.imp (congrArg outcomeOf) (And.imp_right (And.imp_right (And.imp_right (And.imp_left λd b o y _=>d b o y)))))
  (Exists.imp λ_=>Exists.imp λ_=>Exists.imp λ_=>And.imp (congrArg outcomeOf) (And.imp_right (And.imp_right (And.imp_right (And.imp_right λd b o y _=>d b o y)))))
theorem callFrom_B{c:ClaimW}{tree:List Value->Sem Fin}{w:World}{s:Shared}{free:Addr->Prop}{gens:Prop}{kept:Heap->Prop}(hz:s.asleep)(hgens:s.gens=#[])
  (hspec:∀args,c.pre args=true->WData.layableAll args=true ->
   ∀ord:List DictEntry->List DictEntry,(∀l,(ord l).Perm l) ->
   ∃vs s₁,layAllW c.records (classAt s.heap) w.params ord args s=some (vs,s₁) /\
    wpB (model c.prog w) callerA (tree vs) (λfin s'=>∃f,fin=.done f/\(c.Ends s args vs s₁ (.ok f) s'/\s'.os=s.os/\AllBare s'.gens/\kept s'.heap))
     (λe s'=>c.Ends s args vs s₁ (.error e) s'/\s'.os=s.os/\AllBare s'.gens/\kept s'.heap) s₁) :
  c.CallFrom (λvs=>⟨tree vs,.builtin "claim.caller" {},default,[]⟩) w free gens kept s:=by
 intro args hpre hlay ord hord;obtain ⟨vs,s₁,hlaid,hcode⟩:=hspec args hpre hlay ord hord;have hal:=layAllW_rest _ _ _ hlaid
 obtain ⟨k,r,s',s'',hx⟩:=ends_B (prog:=c.prog) (w:=w) (t:=tree vs) (s:=s₁)
  (R:=λr s'=>c.Ends s args vs s₁ r s'/\s'.os=s.os/\kept s'.heap)
  (Shared.asleep_of_life hal.2.2.2 hz)
  (zaZ hcode (λfin s' ⟨f,e,h⟩=>⟨f,e,⟨h.1,h.2.1,h.2.2.2⟩,leftWithCleanup_false_of_bare h.2.2.1⟩)
   λe s' h=>⟨⟨h.1,h.2.1,h.2.2.2⟩,leftWithCleanup_false_of_bare h.2.2.1⟩)
 have fe:=Shared.forget_eq hx.2.2.1;have hR:=hx.2.2.2;have hcase:=hR.1.congr fe.1;have hos:=hR.2.1;have hkp:=hR.2.2;rw[←fe.1] at hkp;rw[←fe.2.2.2.1] at hos;refine ⟨vs,s₁,hlaid,k,_,s',hx.2.1,ends_out hcase,(λ_ i x hx=>by rw[hgens] at hx;exact nomatch hx),hkp,congrArg _ ((runN_life _ _ _ hx.1).trans hal.2.2.2),Shared.rest_eq hos⟩
noncomputable abbrev LawCall:Prop:=∀(w:World) (s₀ s₁:Shared) (mg mb:Str->Option Value),Top tView (looseW tView tLoose) (ExcName.means s₀.heap) mg mb s₁.heap->(kK w.params).In s₁.heap->s₁.gens=#[]->mg "law"=some (.ref 1010) ->
 ∀(args:List WData) (vs:List Value) (as:List Addr),lr.claim.pre args=true->WData.layableAll args=true->ReadsAllW lr.records (classAt s₀.heap) s₁.heap vs args as->WellAll w.params s₁.heap vs args->(∀a∈as,(a==sysModules)=false) ->
  wpB (model pw w) callerA (PySem.call (.ref 1010) vs) (λv s'=>GoodWG lr.claim (classAt s₀.heap) (ExcName.means s₀.heap) args s₁ (.ok (.ret v)) s') (λe s'=>GoodWG lr.claim (classAt s₀.heap) (ExcName.means s₀.heap) args s₁ (.error e) s') s₁
theorem tPromised:lr.toRowW.promised:=by w_witness2
theorem law_in (P:Params):(match some (kObj P 3) with|some o=>(match o.data with|.dict es _=>nsFind es "law" |_=>none)|none=>none)=some (.ref 1010):=by kernel_rfl
theorem law_at {h:Heap} {o:Obj} (e:h.get? 3=some o) (P:Params) (ho:o=kObj P 3):h.nsMap mainGlobals "law"=some (.ref 1010):=by
 subst ho
 have q:h.nsMap 3 "law"=(match some (kObj P 3) with|some o=>(match o.data with|.dict es _=>nsFind es "law" |_=>none)|none=>none):=by
  unfold Heap.nsMap;rw[e]
  kernel_rfl
 exact q.trans (law_in P)
theorem law_def:(defOf tView lr.name).isSome=true:=by kernel_rfl
theorem law_the:(defOf tView lr.name).map (λx=>(x.1.params,x.1.body,x.1.scope))=lr.prog.theDef lr.name:=by kernel_rfl
theorem law_kw:((defOf tView lr.name).bind λx=>kwWritten? x.1.params.kwonlyargs x.1.params.kw_defaults)=(defOf tView lr.name).map (·.2):=by kernel_rfl
theorem open_B(call:LawCall):lr.toRowW.claim.HoldsOpenBy (callStub lr.name) [lr.name] lr.keeps false:=by
 have hch:chainsOk tView=true:=by kernel_rfl
 have o1:opensWell pw=true:=by kernel_rfl
 refine ⟨⟨⟨rfl,rfl,rfl,rfl,rfl,by decide +kernel⟩,o1,rfl⟩,tPromised.witness,λw=>⟨(tLeft.behind (XP:=λ_ _=>True) (λ_ _=>trivial) hch w).1,λs' hs'=>?_⟩⟩
 obtain ⟨s₀,hf,hg0,s,hT,hz,hgens,hg,G,y⟩:=(tLeft.behind (XP:=λ_ _=>True) (λ_ _=>trivial) hch w).2 s' hs'
 have hgens:s.gens=#[]:=Array.eq_empty_of_size_eq_zero (beq_iff_eq.mp hgens);have KX:(kK w.params).In s.heap:=Frag.in_of (by unfold kK;rw[List.map_map];exact (List.map_id _).symm) y
 refine ⟨s₀,hf,hg0,s,hT,λn hn=>?_,(λx hx=>by cases hx),(λx hx=>by cases hx),?_⟩
 ·obtain rfl:n=lr.name:=by simpa using hn
  obtain ⟨⟨d,kw⟩,hd⟩:=Option.isSome_iff_exists.mp law_def;have hp:=law_the;have hk:=law_kw;rw[hd] at hp hk;exact pinned_of_view hg G hd hp.symm hk
 refine callFrom_B (c:=lr.toRowW.claim) hz hgens λargs hpre hlay ord hord=>?_
 obtain ⟨⟨vs,s₁⟩,hlaid⟩:=Option.isSome_iff_exists.mp (layAllW_isSome (P:=w.params) (ord:=ord) G.has args lr.args s (pre_splitW hpre).1);have keeps:=layAllW_keeps _ _ _ hlaid;have hal:=layAllW_rest _ _ _ hlaid;obtain ⟨as,hrd,hin,hold⟩:=reads_layAllW hord _ _ _ hlaid hlay s₁.heap (λ_ _ e=>e)
 have L:Laid lr.records w s s₁ args vs as:=⟨⟨ord,hord,hlaid⟩,hrd,hin,hold,keeps,hal.1.trans hgens,hal.2.2.1⟩;have G₁:=G.keeps (λ_ _ _ _ _=>trivial) keeps
 have hi:=ident_freeW (r:=lr.toRowW) rfl rfl rfl
 have hlaw:s.heap.nsMap mainGlobals "law"=some (.ref 1010):=by
  have e:=KX 3 (kObj w.params 3) (by kernel_rfl)
  exact law_at e w.params rfl
 have h:=call w s s₁ _ _ G₁.T (KX.keeps keeps) L.gens hlaw args vs as hpre hlay L.reads L.well (L.low G.low)
 have fin:∀(r:Result) (s':Shared),GoodWG lr.claim (classAt s.heap) (ExcName.means s.heap) args s₁ r s'->lr.claim.Ends s args vs s₁ r s'/\s'.os=s.os/\AllBare s'.gens/\(False->namesKept lr.prog lr.keeps s.heap s'.heap/\∀x∈lr.claim.records,∀a,classAt s.heap x.1=some a->recordClass s'.heap a x.1 (x.2.map (·.1))=true):=λr s' g=>
  have z:=g.laid (c:=lr.toRowW.claim) rfl rfl hi L
  ⟨z.1,z.2.1,z.2.2,λq=>q.elim⟩
 refine ⟨vs,s₁,hlaid,za0 (.of (wpAny_nsGet G₁.T.g ?_))⟩;rw[show lr.name=("law":Str) from rfl,hlaw]
 refine za0 (zaZ h (λv s' g=>za4 ⟨_,rfl,?_⟩) λe s' g=>?_)
 ·have z:=fin _ _ g
  exact ⟨z.1,z.2.1,z.2.2.1,λq=>nomatch q⟩
 ·have z:=fin _ _ g
  exact ⟨z.1,z.2.1,z.2.2.1,λq=>nomatch q⟩
end
end
section
open PySem PySem.W PyProof.Rows
structure On(cx:Cx)(P:PySem.Params):Prop where
 eq:cx.K=kK P
theorem On.g{cx:Cx}{P:PySem.Params}(X:On cx P):Glob cx.K:=X.eq▸glob_of (by kernel_rfl) (by kernel_rfl) (by kernel_rfl)
inductive FnA(cx:Cx)(key:Key)(names:List Str)(df:Option Stmt)(ds:List Value):Prop
 |mk (fa:Addr) (a:zcA cx key (.ref fa)) (b:∀fv,zcA cx key fv->fv=.ref fa) (c:DefAt cx.K fa (zbM df) (zb7 df) names ds) (d:typeIn cx.K (.ref fa)=some (.type "function"))
structure Fn(cx:Cx)(key:Key)(names:List Str)(df:Option Stmt)(ds:List Value):Prop where
 fa:FnA cx key names df ds
 sc:ScFn (zb7 df) names
 g:Glob cx.K
inductive NewA(cx:Cx)(c:Str):Prop
 |mk (C fI:Addr) (a:∀fv,zcA cx (.fn c) fv->fv=.ref C) (b:clsA cx.K c=some C) (d:makesIn cx.K C=true) (e:findIn cx.K (.ref C) "__init__"=some (some (.ref fI))) (f:typeIn cx.K (.ref fI)=some (.type "function")) (g:zcA cx (.mt c "__init__") (.ref fI))
structure New(cx:Cx)(c:Str):Prop where
 ex:NewA cx c
 val:∃fv,FnVal cx c fv
noncomputable abbrev BA(df:Option Stmt)(names:List Str)(vs:List Value):Prop:=∀name qual doc pm an cdv ct,bindArgs (fnOf name qual (paramsOf df) (zbM df) (zb7 df) .none .none doc pm an cdv ct) ⟨vs,[]⟩=pure (names.zip vs)
noncomputable abbrev FD(P:PySem.Params)(a:Nat)(df:Option Stmt):Prop:=(fdAt (kK P) a).map (fdSees (kK P))=some (.stmts (zbM df),zb7 df,mainGlobals,[],builtinsNs,true,paramsOf df,.none,.none)
theorem ar0{Q:List Value->Prop}(h:Q []):∀vs:List Value,vs.length=0->Q vs:=λvs e=>by
 induction vs using List.casesOn with
 |nil=>exact h
 |cons _ _=>injection e
theorem arS{n:Nat}{Q:List Value->Prop}(h:∀a,∀vs:List Value,vs.length=n->Q (a::vs)):∀vs:List Value,vs.length=n+1->Q vs:=λvs e=>by
 induction vs using List.casesOn with
 |nil=>injection e
 |cons a vs=>exact h a vs (Nat.succ.inj e)
theorem ba1{Q:List Value->Prop}(h:∀a,Q [a]):∀vs:List Value,vs.length=1->Q vs:=arS λa=>ar0 (h a)
theorem ba2{Q:List Value->Prop}(h:∀a b,Q [a,b]):∀vs:List Value,vs.length=2->Q vs:=arS λa=>arS λb=>ar0 (h a b)
theorem ba3{Q:List Value->Prop}(h:∀a b c,Q [a,b,c]):∀vs:List Value,vs.length=3->Q vs:=arS λa=>arS λb=>arS λc=>ar0 (h a b c)
theorem ba4{Q:List Value->Prop}(h:∀a b c d,Q [a,b,c,d]):∀vs:List Value,vs.length=4->Q vs:=arS λa=>arS λb=>arS λc=>arS λd=>ar0 (h a b c d)
theorem ba5{Q:List Value->Prop}(h:∀a b c d e,Q [a,b,c,d,e]):∀vs:List Value,vs.length=5->Q vs:=arS λa=>arS λb=>arS λc=>arS λd=>arS λe=>ar0 (h a b c d e)
theorem ba6{Q:List Value->Prop}(h:∀a b c d e u,Q [a,b,c,d,e,u]):∀vs:List Value,vs.length=6->Q vs:=arS λa=>arS λb=>arS λc=>arS λd=>arS λe=>arS λu=>ar0 (h a b c d e u)
theorem ba7{Q:List Value->Prop}(h:∀a b c d e u v,Q [a,b,c,d,e,u,v]):∀vs:List Value,vs.length=7->Q vs:=arS λa=>arS λb=>arS λc=>arS λd=>arS λe=>arS λu=>arS λv=>ar0 (h a b c d e u v)
noncomputable def BAs(df:Option Stmt)(names:List Str):Prop:=∀vs:List Value,vs.length=names.length->BA df names vs
noncomputable def fnL(K:Frag)(a:Nat)(names:List Str)(df:Option Stmt):=(keepIn K (.ref a),(fdAt K a).map (fdSees K),typeIn K (.ref a),scOK (zb7 df) names)
noncomputable def fnR (df:Option Stmt):=(true,some (FuncBody.stmts (zbM df),zb7 df,mainGlobals,([]:List (Str×Addr)),builtinsNs,true,paramsOf df,Value.none,Value.none),some (Value.type "function"),true)
noncomputable def mtL(K:Frag)(c m:Str)(C a:Nat):=(clsA K c,findIn K (.ref C) m,isFn K (.ref a),plainGet K C m)
noncomputable def mtR(C a:Nat):=(some C,some (some (Value.ref a)),true,true)
theorem zbK{cx:Cx}{P:PySem.Params}(X:On cx P){x:Str}{df:Option Stmt}{names:List Str}(a:Nat)(h1:nsIn (kK P) mainGlobals x=some (some (.ref a)))(h:fnL (kK P) a names df=fnR df)
  (hb:BAs df names):Fn cx (.fn x) names df []:=by
 rw[←X.eq] at h1 h;have h2:=congrArg (·.1) h
 exact ⟨⟨a,.inl ⟨h1,h2⟩,one_fn h1,defAt_of (congrArg (·.2.1) h) λname qual doc pm an cdv ct vs hv=>hb vs hv name qual doc pm an cdv ct,congrArg (·.2.2.1) h⟩,scFn_of (congrArg (·.2.2.2) h),X.g⟩
theorem zbE{cx:Cx}{P:PySem.Params}(X:On cx P){c m:Str}{df:Option Stmt}{names:List Str}(C a:Nat)(h1:mtL (kK P) c m C a=mtR C a)(h:fnL (kK P) a names df=fnR df)
  (hb:BAs df names):Fn cx (.mt c m) names df []:=by
 rw[←X.eq] at h1 h;have h0:clsA cx.K c=some C:=congrArg (·.1) h1
 have hf:findIn cx.K (.ref C) m=some (some (.ref a)):=congrArg (·.2.1) h1
 exact ⟨⟨a,⟨C,a,rfl,h0,hf,congrArg (·.2.2.1) h1,congrArg (·.2.2.2) h1,congrArg (·.1) h⟩,one_mt h0 hf,defAt_of (congrArg (·.2.1) h) λname qual doc pm an cdv ct vs hv=>hb vs hv name qual doc pm an cdv ct,congrArg (·.2.2.1) h⟩,scFn_of (congrArg (·.2.2.2) h),X.g⟩
theorem Fn.kv{cx:Cx}{x:Str}{names:List Str}{df:Option Stmt}{ds:List Value}(F:Fn cx (.fn x) names df ds):∃fv,FnVal cx x fv:=by induction F.fa with|mk a h=>exact ⟨_,h⟩
theorem Fn.mv{cx:Cx}{c m:Str}{names:List Str}{df:Option Stmt}{ds:List Value}(F:Fn cx (.mt c m) names df ds):∃fv,zc7 cx c m fv:=by induction F.fa with|mk a h=>exact ⟨_,h⟩
theorem new_of {cx:Cx} {P:PySem.Params} (X:On cx P) {c:Str} {names:List Str} {df:Option Stmt} {ds:List Value} (C a:Nat) (F:Fn cx (.mt c "__init__") names df ds) (h0:clsA (kK P) c=some C) (h1:nsIn (kK P) mainGlobals c=some (some (.ref C))) (h2:keepIn (kK P) (.ref C)=true) (h3:makesIn (kK P) C=true)
  (h4:findIn (kK P) (.ref C) "__init__"=some (some (.ref a))):New cx c:=by
 have e:=X.eq;obtain ⟨fa,k1,k2,k3,k4⟩:=F.fa;have k1':=k1;obtain ⟨C',fa',e1,q1,q2,_⟩:=k1';injection e1 with e1
 subst e1;have:C'=C:=by rw[e,h0] at q1;exact (Option.some.inj q1).symm
 subst this;exact ⟨⟨C',fa,one_fn (by rw[e];exact h1),q1,by rw[e];exact h3,q2,k4,k1⟩,⟨_,.inl ⟨by rw[e];exact h1,by rw[e];exact h2⟩⟩⟩
theorem bi_is {cx:Cx} {x:Str} {fv:Value} (h:nsIn cx.K mainGlobals x=some none) (hb:bootBuiltins x=some fv) (hn:x ≠ "__name__") (hr:∀a,fv≠.ref a):∃fv,FnVal cx x fv:=⟨_,.inr ⟨h,hb,hn,hr⟩⟩
theorem cb{cx:Cx}{n:Nat}{key:Key}{df:Option Stmt}{names:List Str}{avs:List AV}{os os':Objs}{cr:CRes}{obl:List Prop}(F:Fn cx key names df [])(d N:Nat)(κ:List Nat)(ans:List Ans)
  (hob:Holds obl) (hfin:fin κ os.length (run (zfB cx (zb7 df) n d os.length) (nmsOf (zb7 df)) N (.exs (zbM df)) ⟨names.zip avs,os,false,ans,[]⟩)=some (cr,os',obl)) (l2:avs.length=names.length:=by rfl):CallOK cx (n+1) key avs os cr os':=by
 obtain ⟨fa,_,h1,h2,_⟩:=F.fa;exact call_by (dvs:=[]) d N κ ans h1 h2 F.sc F.g (by rw[List.append_nil];exact l2) rfl (λp hp=>nomatch hp) hob (by rw[List.append_nil];exact hfin)
theorem cnew {cx:Cx} {n:Nat} {c:Str} {avs:List AV} {os os':Objs} (W:New cx c) (hI:CallOK cx n (.mt c "__init__") (.r os.length::avs) (os++[.inst c []]) (.ok (.d .none)) os'):CallOK cx (n+1) (.fn c) avs os (.ok (.r os.length)) os':=by
 obtain ⟨C,fI,h1,h2,h3,h4,h5,h6⟩:=W.ex;exact call_new h1 h2 h3 h4 h5 h6 hI
section
variable{cx:Cx}{P:PySem.Params}(X:On cx P)
include X
theorem FG0:Fn cx (.fn "read_groups") ["data", "at", "octets", "most"] (za2 17) []/\Fn cx (.fn "read_varint") ["data", "at"] (za2 19) []/\Fn cx (.fn "put_varint32") ["n"] (za2 20) []/\Fn cx (.fn "read_varint32") ["data", "at"] (za2 21) []/\Fn cx (.fn "varint_length") ["n"] (za2 22) []/\Fn cx (.fn "put_fixed32") ["n"] (za2 23) []/\Fn cx (.fn "put_fixed64") ["n"] (za2 24) []/\Fn cx (.fn "read_lengthed") ["data", "at"] (za2 27) []:=⟨zbK X 168 (by kernel_rfl) (by kernel_rfl) (ba4 λ_ _ _ _ _ _ _ _ _ _ _=>by kernel_rfl),zbK X 182 (by kernel_rfl) (by kernel_rfl) (ba2 λ_ _ _ _ _ _ _ _ _=>by kernel_rfl),zbK X 189 (by kernel_rfl) (by kernel_rfl) (ba1 λ_ _ _ _ _ _ _ _=>by kernel_rfl),zbK X 196 (by kernel_rfl) (by kernel_rfl) (ba2 λ_ _ _ _ _ _ _ _ _=>by kernel_rfl),zbK X 203 (by kernel_rfl) (by kernel_rfl) (ba1 λ_ _ _ _ _ _ _ _=>by kernel_rfl),zbK X 210 (by kernel_rfl) (by kernel_rfl) (ba1 λ_ _ _ _ _ _ _ _=>by kernel_rfl),zbK X 217 (by kernel_rfl) (by kernel_rfl) (ba1 λ_ _ _ _ _ _ _ _=>by kernel_rfl),zbK X 238 (by kernel_rfl) (by kernel_rfl) (ba2 λ_ _ _ _ _ _ _ _ _=>by kernel_rfl)⟩
theorem zdE:Fn cx (.fn "read_groups") ["data", "at", "octets", "most"] (za2 17) []:=(FG0 X).1
theorem zhS:Fn cx (.fn "read_varint") ["data", "at"] (za2 19) []:=(FG0 X).2.1
theorem zgC:Fn cx (.fn "put_varint32") ["n"] (za2 20) []:=(FG0 X).2.2.1
theorem zbV:Fn cx (.fn "read_varint32") ["data", "at"] (za2 21) []:=(FG0 X).2.2.2.1
theorem zcI:Fn cx (.fn "varint_length") ["n"] (za2 22) []:=(FG0 X).2.2.2.2.1
theorem zf1:Fn cx (.fn "put_fixed32") ["n"] (za2 23) []:=(FG0 X).2.2.2.2.2.1
theorem zf0:Fn cx (.fn "put_fixed64") ["n"] (za2 24) []:=(FG0 X).2.2.2.2.2.2.1
theorem zbW:Fn cx (.fn "read_lengthed") ["data", "at"] (za2 27) []:=(FG0 X).2.2.2.2.2.2.2
theorem FG1:Fn cx (.mt "Cursor" "left") ["self"] (za7 28 1) []/\Fn cx (.mt "Cursor" "varint") ["self"] (za7 28 2) []/\Fn cx (.mt "Cursor" "lengthed") ["self"] (za7 28 5) []/\Fn cx (.mt "Cursor" "octet") ["self"] (za7 28 6) []/\Fn cx (.mt "Cursor" "flag") ["self"] (za7 28 7) []/\Fn cx (.mt "Cursor" "done") ["self"] (za7 28 9) []/\Fn cx (.mt "Sink" "__init__") ["self"] (za7 29 0) []/\Fn cx (.mt "Sink" "varint") ["self", "n"] (za7 29 1) []:=⟨zbE X 319 260 (by kernel_rfl) (by kernel_rfl) (ba1 λ_ _ _ _ _ _ _ _=>by kernel_rfl),zbE X 319 267 (by kernel_rfl) (by kernel_rfl) (ba1 λ_ _ _ _ _ _ _ _=>by kernel_rfl),zbE X 319 288 (by kernel_rfl) (by kernel_rfl) (ba1 λ_ _ _ _ _ _ _ _=>by kernel_rfl),zbE X 319 295 (by kernel_rfl) (by kernel_rfl) (ba1 λ_ _ _ _ _ _ _ _=>by kernel_rfl),zbE X 319 302 (by kernel_rfl) (by kernel_rfl) (ba1 λ_ _ _ _ _ _ _ _=>by kernel_rfl),zbE X 319 316 (by kernel_rfl) (by kernel_rfl) (ba1 λ_ _ _ _ _ _ _ _=>by kernel_rfl),zbE X 396 337 (by kernel_rfl) (by kernel_rfl) (ba1 λ_ _ _ _ _ _ _ _=>by kernel_rfl),zbE X 396 344 (by kernel_rfl) (by kernel_rfl) (ba2 λ_ _ _ _ _ _ _ _ _=>by kernel_rfl)⟩
theorem zf4:Fn cx (.mt "Cursor" "left") ["self"] (za7 28 1) []:=(FG1 X).1
theorem za5:Fn cx (.mt "Cursor" "varint") ["self"] (za7 28 2) []:=(FG1 X).2.1
theorem za9:Fn cx (.mt "Cursor" "lengthed") ["self"] (za7 28 5) []:=(FG1 X).2.2.1
theorem zgG:Fn cx (.mt "Cursor" "octet") ["self"] (za7 28 6) []:=(FG1 X).2.2.2.1
theorem zbB:Fn cx (.mt "Cursor" "flag") ["self"] (za7 28 7) []:=(FG1 X).2.2.2.2.1
theorem zb6:Fn cx (.mt "Cursor" "done") ["self"] (za7 28 9) []:=(FG1 X).2.2.2.2.2.1
theorem zfR:Fn cx (.mt "Sink" "__init__") ["self"] (za7 29 0) []:=(FG1 X).2.2.2.2.2.2.1
theorem zc0:Fn cx (.mt "Sink" "varint") ["self", "n"] (za7 29 1) []:=(FG1 X).2.2.2.2.2.2.2
theorem FG2:Fn cx (.mt "Sink" "lengthed") ["self", "b"] (za7 29 4) []/\Fn cx (.mt "Sink" "octet") ["self", "n"] (za7 29 5) []/\Fn cx (.mt "Sink" "flag") ["self", "b"] (za7 29 6) []/\Fn cx (.mt "Sink" "done") ["self"] (za7 29 8) []:=⟨zbE X 396 365 (by kernel_rfl) (by kernel_rfl) (ba2 λ_ _ _ _ _ _ _ _ _=>by kernel_rfl),zbE X 396 372 (by kernel_rfl) (by kernel_rfl) (ba2 λ_ _ _ _ _ _ _ _ _=>by kernel_rfl),zbE X 396 379 (by kernel_rfl) (by kernel_rfl) (ba2 λ_ _ _ _ _ _ _ _ _=>by kernel_rfl),zbE X 396 393 (by kernel_rfl) (by kernel_rfl) (ba1 λ_ _ _ _ _ _ _ _=>by kernel_rfl)⟩
theorem zcM:Fn cx (.mt "Sink" "lengthed") ["self", "b"] (za7 29 4) []:=(FG2 X).1
theorem zfQ:Fn cx (.mt "Sink" "octet") ["self", "n"] (za7 29 5) []:=(FG2 X).2.1
theorem zcV:Fn cx (.mt "Sink" "flag") ["self", "b"] (za7 29 6) []:=(FG2 X).2.2.1
theorem zcW:Fn cx (.mt "Sink" "done") ["self"] (za7 29 8) []:=(FG2 X).2.2.2
theorem N_Sink:New cx "Sink":=new_of X 396 337 (zfR X) (by kernel_rfl) (by kernel_rfl) (by kernel_rfl) (by kernel_rfl) (by kernel_rfl)
theorem FG3:Fn cx (.mt "WriteBatch" "__init__") ["self"] (za7 34 0) []/\Fn cx (.mt "WriteBatch" "put") ["self", "key", "value"] (za7 34 1) []/\Fn cx (.mt "WriteBatch" "delete") ["self", "key"] (za7 34 2) []/\Fn cx (.mt "WriteBatch" "take_op") ["self", "kind", "key", "value"] (za7 34 3) []/\Fn cx (.mt "WriteBatch" "count") ["self"] (za7 34 5) []/\Fn cx (.mt "WriteBatch" "ops") ["self"] (za7 34 8) []:=⟨zbE X 480 414 (by kernel_rfl) (by kernel_rfl) (ba1 λ_ _ _ _ _ _ _ _=>by kernel_rfl),zbE X 480 421 (by kernel_rfl) (by kernel_rfl) (ba3 λ_ _ _ _ _ _ _ _ _ _=>by kernel_rfl),zbE X 480 428 (by kernel_rfl) (by kernel_rfl) (ba2 λ_ _ _ _ _ _ _ _ _=>by kernel_rfl),zbE X 480 435 (by kernel_rfl) (by kernel_rfl) (ba4 λ_ _ _ _ _ _ _ _ _ _ _=>by kernel_rfl),zbE X 480 449 (by kernel_rfl) (by kernel_rfl) (ba1 λ_ _ _ _ _ _ _ _=>by kernel_rfl),zbE X 480 470 (by kernel_rfl) (by kernel_rfl) (ba1 λ_ _ _ _ _ _ _ _=>by kernel_rfl)⟩
theorem zd4:Fn cx (.mt "WriteBatch" "__init__") ["self"] (za7 34 0) []:=(FG3 X).1
theorem zb5:Fn cx (.mt "WriteBatch" "put") ["self", "key", "value"] (za7 34 1) []:=(FG3 X).2.1
theorem zdQ:Fn cx (.mt "WriteBatch" "delete") ["self", "key"] (za7 34 2) []:=(FG3 X).2.2.1
theorem zbF:Fn cx (.mt "WriteBatch" "take_op") ["self", "kind", "key", "value"] (za7 34 3) []:=(FG3 X).2.2.2.1
theorem zcL:Fn cx (.mt "WriteBatch" "count") ["self"] (za7 34 5) []:=(FG3 X).2.2.2.2.1
theorem zd8:Fn cx (.mt "WriteBatch" "ops") ["self"] (za7 34 8) []:=(FG3 X).2.2.2.2.2
theorem zd0:New cx "WriteBatch":=new_of X 480 414 (zd4 X) (by kernel_rfl) (by kernel_rfl) (by kernel_rfl) (by kernel_rfl) (by kernel_rfl)
theorem FG4:Fn cx (.fn "rising") ["ids"] (za2 37) []/\Fn cx (.fn "take_count") ["cursor"] (za2 38) []/\Fn cx (.mt "Entry" "__init__") ["self", "term", "index", "kind", "data"] (za7 39 0) []:=⟨zbK X 491 (by kernel_rfl) (by kernel_rfl) (ba1 λ_ _ _ _ _ _ _ _=>by kernel_rfl),zbK X 498 (by kernel_rfl) (by kernel_rfl) (ba1 λ_ _ _ _ _ _ _ _=>by kernel_rfl),zbE X 543 512 (by kernel_rfl) (by kernel_rfl) (ba5 λ_ _ _ _ _ _ _ _ _ _ _ _=>by kernel_rfl)⟩
theorem zbS:Fn cx (.fn "rising") ["ids"] (za2 37) []:=(FG4 X).1
theorem F_take_count:Fn cx (.fn "take_count") ["cursor"] (za2 38) []:=(FG4 X).2.1
theorem zfD:Fn cx (.mt "Entry" "__init__") ["self", "term", "index", "kind", "data"] (za7 39 0) []:=(FG4 X).2.2
theorem N_Entry:New cx "Entry":=new_of X 543 512 (zfD X) (by kernel_rfl) (by kernel_rfl) (by kernel_rfl) (by kernel_rfl) (by kernel_rfl)
theorem FG5:Fn cx (.mt "ConfState" "__init__") ["self", "voters", "learners", "outgoing", "learners_next", "auto_leave"] (za7 40 0) []/\Fn cx (.mt "ConfState" "row") ["self"] (za7 40 1) []:=⟨zbE X 578 561 (by kernel_rfl) (by kernel_rfl) (ba6 λ_ _ _ _ _ _ _ _ _ _ _ _ _=>by kernel_rfl),zbE X 578 568 (by kernel_rfl) (by kernel_rfl) (ba1 λ_ _ _ _ _ _ _ _=>by kernel_rfl)⟩
theorem zbG:Fn cx (.mt "ConfState" "__init__") ["self", "voters", "learners", "outgoing", "learners_next", "auto_leave"] (za7 40 0) []:=(FG5 X).1
theorem zfS:Fn cx (.mt "ConfState" "row") ["self"] (za7 40 1) []:=(FG5 X).2
theorem zbN:New cx "ConfState":=new_of X 578 561 (zbG X) (by kernel_rfl) (by kernel_rfl) (by kernel_rfl) (by kernel_rfl) (by kernel_rfl)
theorem FG6:Fn cx (.fn "put_ids") ["sink", "ids"] (za2 41) []/\Fn cx (.fn "take_ids") ["cursor"] (za2 42) []/\Fn cx (.fn "encode_conf") ["conf"] (za2 43) []/\Fn cx (.fn "decode_conf") ["data"] (za2 44) []/\Fn cx (.mt "Command" "__init__") ["self", "kind", "client", "number", "key", "value", "expect"] (za7 61 0) []:=⟨zbK X 589 (by kernel_rfl) (by kernel_rfl) (ba2 λ_ _ _ _ _ _ _ _ _=>by kernel_rfl),zbK X 596 (by kernel_rfl) (by kernel_rfl) (ba1 λ_ _ _ _ _ _ _ _=>by kernel_rfl),zbK X 603 (by kernel_rfl) (by kernel_rfl) (ba1 λ_ _ _ _ _ _ _ _=>by kernel_rfl),zbK X 610 (by kernel_rfl) (by kernel_rfl) (ba1 λ_ _ _ _ _ _ _ _=>by kernel_rfl),zbE X 641 624 (by kernel_rfl) (by kernel_rfl) (ba7 λ_ _ _ _ _ _ _ _ _ _ _ _ _ _=>by kernel_rfl)⟩
theorem zfP:Fn cx (.fn "put_ids") ["sink", "ids"] (za2 41) []:=(FG6 X).1
theorem zeL:Fn cx (.fn "take_ids") ["cursor"] (za2 42) []:=(FG6 X).2.1
theorem zf2:Fn cx (.fn "encode_conf") ["conf"] (za2 43) []:=(FG6 X).2.2.1
theorem zhT:Fn cx (.fn "decode_conf") ["data"] (za2 44) []:=(FG6 X).2.2.2.1
theorem ze6:Fn cx (.mt "Command" "__init__") ["self", "kind", "client", "number", "key", "value", "expect"] (za7 61 0) []:=(FG6 X).2.2.2.2
theorem N_Command:New cx "Command":=new_of X 641 624 (ze6 X) (by kernel_rfl) (by kernel_rfl) (by kernel_rfl) (by kernel_rfl) (by kernel_rfl)
theorem FG7:Fn cx (.fn "put_maybe") ["sink", "octets"] (za2 62) []/\Fn cx (.fn "take_maybe") ["cursor"] (za2 63) []/\Fn cx (.fn "decode_command") ["data"] (za2 64) []/\Fn cx (.fn "make_reply") ["code", "old"] (za2 65) []/\Fn cx (.fn "read_reply") ["data"] (za2 66) []/\Fn cx (.fn "demand") ["data"] (za2 67) []/\Fn cx (.fn "data_key") ["key"] (za2 68) []/\Fn cx (.fn "session_key") ["client"] (za2 69) []:=⟨zbK X 652 (by kernel_rfl) (by kernel_rfl) (ba2 λ_ _ _ _ _ _ _ _ _=>by kernel_rfl),zbK X 659 (by kernel_rfl) (by kernel_rfl) (ba1 λ_ _ _ _ _ _ _ _=>by kernel_rfl),zbK X 666 (by kernel_rfl) (by kernel_rfl) (ba1 λ_ _ _ _ _ _ _ _=>by kernel_rfl),zbK X 673 (by kernel_rfl) (by kernel_rfl) (ba2 λ_ _ _ _ _ _ _ _ _=>by kernel_rfl),zbK X 680 (by kernel_rfl) (by kernel_rfl) (ba1 λ_ _ _ _ _ _ _ _=>by kernel_rfl),zbK X 687 (by kernel_rfl) (by kernel_rfl) (ba1 λ_ _ _ _ _ _ _ _=>by kernel_rfl),zbK X 694 (by kernel_rfl) (by kernel_rfl) (ba1 λ_ _ _ _ _ _ _ _=>by kernel_rfl),zbK X 701 (by kernel_rfl) (by kernel_rfl) (ba1 λ_ _ _ _ _ _ _ _=>by kernel_rfl)⟩
theorem zeZ:Fn cx (.fn "put_maybe") ["sink", "octets"] (za2 62) []:=(FG7 X).1
theorem zbA:Fn cx (.fn "take_maybe") ["cursor"] (za2 63) []:=(FG7 X).2.1
theorem zb8:Fn cx (.fn "decode_command") ["data"] (za2 64) []:=(FG7 X).2.2.1
theorem zaV:Fn cx (.fn "make_reply") ["code", "old"] (za2 65) []:=(FG7 X).2.2.2.1
theorem ze2:Fn cx (.fn "read_reply") ["data"] (za2 66) []:=(FG7 X).2.2.2.2.1
theorem zg3:Fn cx (.fn "demand") ["data"] (za2 67) []:=(FG7 X).2.2.2.2.2.1
theorem F_data_key:Fn cx (.fn "data_key") ["key"] (za2 68) []:=(FG7 X).2.2.2.2.2.2.1
theorem zcJ:Fn cx (.fn "session_key") ["client"] (za2 69) []:=(FG7 X).2.2.2.2.2.2.2
theorem FG8:Fn cx (.fn "client_of") ["key"] (za2 70) []/\Fn cx (.fn "encode_session") ["last", "is_open", "reply"] (za2 71) []/\Fn cx (.fn "decode_session") ["data"] (za2 72) []/\Fn cx (.mt "Machine" "__init__") ["self", "store"] (za7 73 0) []/\Fn cx (.mt "Machine" "load") ["self"] (za7 73 1) []/\Fn cx (.mt "Machine" "mark_durable") ["self"] (za7 73 2) []/\Fn cx (.mt "Machine" "put_applied") ["self", "batch", "index", "term", "conf_octets"] (za7 73 3) []/\Fn cx (.mt "Machine" "begin") ["self", "index", "term", "conf"] (za7 73 4) []:=⟨zbK X 708 (by kernel_rfl) (by kernel_rfl) (ba1 λ_ _ _ _ _ _ _ _=>by kernel_rfl),zbK X 715 (by kernel_rfl) (by kernel_rfl) (ba3 λ_ _ _ _ _ _ _ _ _ _=>by kernel_rfl),zbK X 722 (by kernel_rfl) (by kernel_rfl) (ba1 λ_ _ _ _ _ _ _ _=>by kernel_rfl),zbE X 837 736 (by kernel_rfl) (by kernel_rfl) (ba2 λ_ _ _ _ _ _ _ _ _=>by kernel_rfl),zbE X 837 743 (by kernel_rfl) (by kernel_rfl) (ba1 λ_ _ _ _ _ _ _ _=>by kernel_rfl),zbE X 837 750 (by kernel_rfl) (by kernel_rfl) (ba1 λ_ _ _ _ _ _ _ _=>by kernel_rfl),zbE X 837 757 (by kernel_rfl) (by kernel_rfl) (ba5 λ_ _ _ _ _ _ _ _ _ _ _ _=>by kernel_rfl),zbE X 837 764 (by kernel_rfl) (by kernel_rfl) (ba4 λ_ _ _ _ _ _ _ _ _ _ _=>by kernel_rfl)⟩
theorem zgW:Fn cx (.fn "client_of") ["key"] (za2 70) []:=(FG8 X).1
theorem zfC:Fn cx (.fn "encode_session") ["last", "is_open", "reply"] (za2 71) []:=(FG8 X).2.1
theorem zd7:Fn cx (.fn "decode_session") ["data"] (za2 72) []:=(FG8 X).2.2.1
theorem ze5:Fn cx (.mt "Machine" "__init__") ["self", "store"] (za7 73 0) []:=(FG8 X).2.2.2.1
theorem zbP:Fn cx (.mt "Machine" "load") ["self"] (za7 73 1) []:=(FG8 X).2.2.2.2.1
theorem zaA:Fn cx (.mt "Machine" "mark_durable") ["self"] (za7 73 2) []:=(FG8 X).2.2.2.2.2.1
theorem zbY:Fn cx (.mt "Machine" "put_applied") ["self", "batch", "index", "term", "conf_octets"] (za7 73 3) []:=(FG8 X).2.2.2.2.2.2.1
theorem zbJ:Fn cx (.mt "Machine" "begin") ["self", "index", "term", "conf"] (za7 73 4) []:=(FG8 X).2.2.2.2.2.2.2
theorem FG9:Fn cx (.mt "Machine" "apply") ["self", "entry", "conf"] (za7 73 5) []/\Fn cx (.mt "Machine" "command_of") ["self", "entry"] (za7 73 6) []/\Fn cx (.mt "Machine" "do_command") ["self", "command", "batch"] (za7 73 7) []/\Fn cx (.mt "Machine" "do_effect") ["self", "command", "batch"] (za7 73 8) []/\Fn cx (.mt "Machine" "get") ["self", "key"] (za7 73 9) []/\Fn cx (.mt "Machine" "session_row") ["self", "client"] (za7 73 10) []/\Fn cx (.mt "Machine" "rows") ["self"] (za7 73 12) []/\Fn cx (.mt "Machine" "sessions") ["self"] (za7 73 13) []:=⟨zbE X 837 771 (by kernel_rfl) (by kernel_rfl) (ba3 λ_ _ _ _ _ _ _ _ _ _=>by kernel_rfl),zbE X 837 778 (by kernel_rfl) (by kernel_rfl) (ba2 λ_ _ _ _ _ _ _ _ _=>by kernel_rfl),zbE X 837 785 (by kernel_rfl) (by kernel_rfl) (ba3 λ_ _ _ _ _ _ _ _ _ _=>by kernel_rfl),zbE X 837 792 (by kernel_rfl) (by kernel_rfl) (ba3 λ_ _ _ _ _ _ _ _ _ _=>by kernel_rfl),zbE X 837 799 (by kernel_rfl) (by kernel_rfl) (ba2 λ_ _ _ _ _ _ _ _ _=>by kernel_rfl),zbE X 837 806 (by kernel_rfl) (by kernel_rfl) (ba2 λ_ _ _ _ _ _ _ _ _=>by kernel_rfl),zbE X 837 820 (by kernel_rfl) (by kernel_rfl) (ba1 λ_ _ _ _ _ _ _ _=>by kernel_rfl),zbE X 837 827 (by kernel_rfl) (by kernel_rfl) (ba1 λ_ _ _ _ _ _ _ _=>by kernel_rfl)⟩
theorem zaR:Fn cx (.mt "Machine" "apply") ["self", "entry", "conf"] (za7 73 5) []:=(FG9 X).1
theorem zaT:Fn cx (.mt "Machine" "command_of") ["self", "entry"] (za7 73 6) []:=(FG9 X).2.1
theorem zaY:Fn cx (.mt "Machine" "do_command") ["self", "command", "batch"] (za7 73 7) []:=(FG9 X).2.2.1
theorem zaF:Fn cx (.mt "Machine" "do_effect") ["self", "command", "batch"] (za7 73 8) []:=(FG9 X).2.2.2.1
theorem zhV:Fn cx (.mt "Machine" "get") ["self", "key"] (za7 73 9) []:=(FG9 X).2.2.2.2.1
theorem zaQ:Fn cx (.mt "Machine" "session_row") ["self", "client"] (za7 73 10) []:=(FG9 X).2.2.2.2.2.1
theorem zgF:Fn cx (.mt "Machine" "rows") ["self"] (za7 73 12) []:=(FG9 X).2.2.2.2.2.2.1
theorem ze4:Fn cx (.mt "Machine" "sessions") ["self"] (za7 73 13) []:=(FG9 X).2.2.2.2.2.2.2
theorem zhQ:New cx "Machine":=new_of X 837 736 (ze5 X) (by kernel_rfl) (by kernel_rfl) (by kernel_rfl) (by kernel_rfl) (by kernel_rfl)
theorem FG10:Fn cx (.fn "same_maybe") ["a", "b"] (za2 74) []/\Fn cx (.mt "MemStore" "__init__") ["self"] (za7 75 0) []/\Fn cx (.mt "MemStore" "write") ["self", "batch", "sync"] (za7 75 1) []/\Fn cx (.mt "MemStore" "take") ["self", "ops"] (za7 75 2) []/\Fn cx (.mt "MemStore" "sync") ["self"] (za7 75 3) []/\Fn cx (.mt "MemStore" "is_durable") ["self"] (za7 75 4) []/\Fn cx (.mt "MemStore" "get") ["self", "key"] (za7 75 5) []/\Fn cx (.mt "MemStore" "scan") ["self", "low", "high", "snap"] (za7 75 6) []:=⟨zbK X 848 (by kernel_rfl) (by kernel_rfl) (ba2 λ_ _ _ _ _ _ _ _ _=>by kernel_rfl),zbE X 914 862 (by kernel_rfl) (by kernel_rfl) (ba1 λ_ _ _ _ _ _ _ _=>by kernel_rfl),zbE X 914 869 (by kernel_rfl) (by kernel_rfl) (ba3 λ_ _ _ _ _ _ _ _ _ _=>by kernel_rfl),zbE X 914 876 (by kernel_rfl) (by kernel_rfl) (ba2 λ_ _ _ _ _ _ _ _ _=>by kernel_rfl),zbE X 914 883 (by kernel_rfl) (by kernel_rfl) (ba1 λ_ _ _ _ _ _ _ _=>by kernel_rfl),zbE X 914 890 (by kernel_rfl) (by kernel_rfl) (ba1 λ_ _ _ _ _ _ _ _=>by kernel_rfl),zbE X 914 897 (by kernel_rfl) (by kernel_rfl) (ba2 λ_ _ _ _ _ _ _ _ _=>by kernel_rfl),zbE X 914 904 (by kernel_rfl) (by kernel_rfl) (ba4 λ_ _ _ _ _ _ _ _ _ _ _=>by kernel_rfl)⟩
theorem zd1:Fn cx (.fn "same_maybe") ["a", "b"] (za2 74) []:=(FG10 X).1
theorem zdS:Fn cx (.mt "MemStore" "__init__") ["self"] (za7 75 0) []:=(FG10 X).2.1
theorem zc6:Fn cx (.mt "MemStore" "write") ["self", "batch", "sync"] (za7 75 1) []:=(FG10 X).2.2.1
theorem zcN:Fn cx (.mt "MemStore" "take") ["self", "ops"] (za7 75 2) []:=(FG10 X).2.2.2.1
theorem zcO:Fn cx (.mt "MemStore" "sync") ["self"] (za7 75 3) []:=(FG10 X).2.2.2.2.1
theorem zbX:Fn cx (.mt "MemStore" "is_durable") ["self"] (za7 75 4) []:=(FG10 X).2.2.2.2.2.1
theorem zb2:Fn cx (.mt "MemStore" "get") ["self", "key"] (za7 75 5) []:=(FG10 X).2.2.2.2.2.2.1
theorem zdR:Fn cx (.mt "MemStore" "scan") ["self", "low", "high", "snap"] (za7 75 6) []:=(FG10 X).2.2.2.2.2.2.2
theorem zgE:Fn cx (.mt "MemStore" "cut") ["self", "pick"] (za7 75 7) []:=zbE X 914 911 (by kernel_rfl) (by kernel_rfl) (ba2 λ_ _ _ _ _ _ _ _ _=>by kernel_rfl)
theorem zg1:New cx "MemStore":=new_of X 914 862 (zdS X) (by kernel_rfl) (by kernel_rfl) (by kernel_rfl) (by kernel_rfl) (by kernel_rfl)
theorem FG11:Fn cx (.fn "_law_clients") [] (za2 77) []/\Fn cx (.fn "_law_tokens") [] (za2 78) []/\Fn cx (.fn "_law_keys") [] (za2 79) []/\Fn cx (.fn "_law_words") [] (za2 80) []/\Fn cx (.fn "_law_expects") [] (za2 81) []/\Fn cx (.fn "_law_kinds") [] (za2 82) []/\Fn cx (.fn "_law_steps") [] (za2 83) []/\Fn cx (.fn "_law_draw") ["nums", "i"] (za2 84) []:=⟨zbK X 925 (by kernel_rfl) (by kernel_rfl) (ar0 λ_ _ _ _ _ _ _=>by kernel_rfl),zbK X 932 (by kernel_rfl) (by kernel_rfl) (ar0 λ_ _ _ _ _ _ _=>by kernel_rfl),zbK X 939 (by kernel_rfl) (by kernel_rfl) (ar0 λ_ _ _ _ _ _ _=>by kernel_rfl),zbK X 946 (by kernel_rfl) (by kernel_rfl) (ar0 λ_ _ _ _ _ _ _=>by kernel_rfl),zbK X 953 (by kernel_rfl) (by kernel_rfl) (ar0 λ_ _ _ _ _ _ _=>by kernel_rfl),zbK X 960 (by kernel_rfl) (by kernel_rfl) (ar0 λ_ _ _ _ _ _ _=>by kernel_rfl),zbK X 967 (by kernel_rfl) (by kernel_rfl) (ar0 λ_ _ _ _ _ _ _=>by kernel_rfl),zbK X 974 (by kernel_rfl) (by kernel_rfl) (ba2 λ_ _ _ _ _ _ _ _ _=>by kernel_rfl)⟩
theorem zeA:Fn cx (.fn "_law_clients") [] (za2 77) []:=(FG11 X).1
theorem zhU:Fn cx (.fn "_law_tokens") [] (za2 78) []:=(FG11 X).2.1
theorem zgX:Fn cx (.fn "_law_keys") [] (za2 79) []:=(FG11 X).2.2.1
theorem F__law_words:Fn cx (.fn "_law_words") [] (za2 80) []:=(FG11 X).2.2.2.1
theorem zgD:Fn cx (.fn "_law_expects") [] (za2 81) []:=(FG11 X).2.2.2.2.1
theorem F__law_kinds:Fn cx (.fn "_law_kinds") [] (za2 82) []:=(FG11 X).2.2.2.2.2.1
theorem F__law_steps:Fn cx (.fn "_law_steps") [] (za2 83) []:=(FG11 X).2.2.2.2.2.2.1
theorem zf3:Fn cx (.fn "_law_draw") ["nums", "i"] (za2 84) []:=(FG11 X).2.2.2.2.2.2.2
theorem FG12:Fn cx (.fn "_law_value") ["done", "key"] (za2 85) []/\Fn cx (.fn "_law_told") ["done", "client", "number", "kind", "key", "expect"] (za2 86) []/\Fn cx (.fn "_law_maybe") ["word"] (za2 87) []/\Fn cx (.fn "_law_demanded") ["reply", "code", "old"] (za2 88) []/\Fn cx (.fn "_law_agree") ["machine", "done", "log"] (za2 89) []/\Fn cx (.fn "law") ["script"] (za2 90) []:=⟨zbK X 981 (by kernel_rfl) (by kernel_rfl) (ba2 λ_ _ _ _ _ _ _ _ _=>by kernel_rfl),zbK X 986 (by kernel_rfl) (by kernel_rfl) (ba6 λ_ _ _ _ _ _ _ _ _ _ _ _ _=>by kernel_rfl),zbK X 993 (by kernel_rfl) (by kernel_rfl) (ba1 λ_ _ _ _ _ _ _ _=>by kernel_rfl),zbK X 1000 (by kernel_rfl) (by kernel_rfl) (ba3 λ_ _ _ _ _ _ _ _ _ _=>by kernel_rfl),zbK X 1005 (by kernel_rfl) (by kernel_rfl) (ba3 λ_ _ _ _ _ _ _ _ _ _=>by kernel_rfl),zbK X 1010 (by kernel_rfl) (by kernel_rfl) (ba1 λ_ _ _ _ _ _ _ _=>by kernel_rfl)⟩
theorem zd2:Fn cx (.fn "_law_value") ["done", "key"] (za2 85) []:=(FG12 X).1
theorem zaW:Fn cx (.fn "_law_told") ["done", "client", "number", "kind", "key", "expect"] (za2 86) []:=(FG12 X).2.1
theorem zd3:Fn cx (.fn "_law_maybe") ["word"] (za2 87) []:=(FG12 X).2.2.1
theorem zcK:Fn cx (.fn "_law_demanded") ["reply", "code", "old"] (za2 88) []:=(FG12 X).2.2.2.1
theorem ze3:Fn cx (.fn "_law_agree") ["machine", "done", "log"] (za2 89) []:=(FG12 X).2.2.2.2.1
theorem F_law:Fn cx (.fn "law") ["script"] (za2 90) []:=(FG12 X).2.2.2.2.2
theorem b_list:nsIn cx.K mainGlobals "list"=some none:=by rw[X.eq];kernel_rfl
theorem k_list:∃fv,FnVal cx "list" fv:=bi_is (fv:=.type "list") (b_list X) (by decide +kernel) (by decide +kernel) (λ_=>nofun)
theorem b_tuple:nsIn cx.K mainGlobals "tuple"=some none:=by rw[X.eq];kernel_rfl
theorem k_tuple:∃fv,FnVal cx "tuple" fv:=bi_is (fv:=.type "tuple") (b_tuple X) (by decide +kernel) (by decide +kernel) (λ_=>nofun)
theorem b_sorted:nsIn cx.K mainGlobals "sorted"=some none:=by rw[X.eq];kernel_rfl
theorem k_sorted:∃fv,FnVal cx "sorted" fv:=bi_is (fv:=.builtin "sorted") (b_sorted X) (by decide +kernel) (by decide +kernel) (λ_=>nofun)
end
end
section
open PySem PySem.W PyProof.Rows
section
variable{cx:Cx}{P:PySem.Params}(X:On cx P)
include X
theorem zcX:Fn cx (.mt "Cursor" "__init__") ["self", "data", "at"] (za7 28 0) [.int 0 494]:=by
 have e:=X.eq;refine ⟨⟨253,⟨319,253,rfl,by rw[e];kernel_rfl,by rw[e];kernel_rfl,by rw[e];kernel_rfl,by rw[e];kernel_rfl,by rw[e];kernel_rfl⟩,one_mt (C:=319) (by rw[e];kernel_rfl) (by rw[e];kernel_rfl),?_,by rw[e];kernel_rfl⟩,scFn_of (by kernel_rfl),X.g⟩
 rw[e];refine defAt_ofD (T:=246) (xs:=⟨[.int 0 494]⟩) (params:=paramsOf (za7 28 0)) (by kernel_rfl) (by kernel_rfl) λname qual doc pm an cdv ct vs hv=>?_
 obtain ⟨a,b,rfl⟩:∃a b,vs=[a,b]:=arS (Q:=λvs=>∃a b,vs=[a,b]) (λa=>arS (Q:=λvs=>∃x b,a::vs=[x,b]) λb=>ar0 ⟨a,b,rfl⟩) vs (by simpa using hv)
 exact ⟨_,rfl,by kernel_rfl⟩
theorem zdC:New cx "Cursor":=new_of X 319 253 (zcX X) (by kernel_rfl) (by kernel_rfl) (by kernel_rfl) (by kernel_rfl) (by kernel_rfl)
end
end
section
open PySem PySem.W PyProof.Rows
noncomputable abbrev I(n:Int):AV:=.d (.int n)
noncomputable abbrev Y(b:Byt):AV:=.d (.bytes b)
noncomputable abbrev Ob(o:Option Byt):AV:=.d (.ob o)
noncomputable abbrev Bo(b:Bool):AV:=.d (.bool b)
noncomputable abbrev Nn:AV:=.d .none
theorem lei{a b:Int}(h:a<=b):leI a b=true:=decide_eq_true h
theorem lti{a b:Int}(h:a<b):ltI a b=true:=decide_eq_true h
theorem nlei{a b:Int}(h:b<a):leI a b=false:=decide_eq_false (by lia)
theorem nlti{a b:Int}(h:b<=a):ltI a b=false:=decide_eq_false (by lia)
theorem h1{a:Prop}(x:a):Holds [a]:=zeE x hnil
theorem h2{a b:Prop}(x:a)(y:b):Holds [a,b]:=zeE x (h1 y)
theorem h3{a b c:Prop}(x:a)(y:b)(z:c):Holds [a,b,c]:=zeE x (h2 y z)
theorem h4{a b c d:Prop}(x:a)(y:b)(z:c)(u:d):Holds [a,b,c,d]:=zeE x (h3 y z u)
theorem h5{a b c d e:Prop}(x:a)(y:b)(z:c)(u:d)(v:e):Holds [a,b,c,d,e]:=zeE x (h4 y z u v)
theorem h6{a b c d e f:Prop}(x:a)(y:b)(z:c)(u:d)(v:e)(w:f):Holds [a,b,c,d,e,f]:=zeE x (h5 y z u v w)
theorem h7{a b c d e f g:Prop}(x:a)(y:b)(z:c)(u:d)(v:e)(w:f)(t:g):Holds [a,b,c,d,e,f,g]:=zeE x (h6 y z u v w t)
theorem happ{l m:List Prop}(x:Holds l)(y:Holds m):Holds (l++m):=λp hp=>(List.mem_append.mp hp).elim (x p) (y p)
noncomputable def Con(cx:Cx)(x:Str)(d:DV):Prop:=∃v,nsIn cx.K mainGlobals x=some (some v)/\VP cx.K (λa o=>cx.base.get? a=some o) (plain d) v
noncomputable abbrev HasCon(cx:Cx)(df:Option Stmt)(x:Str)(d:DV):Prop:=(zb7 df).names.lookup x=some .globalImplicit/\Con cx x d
noncomputable abbrev aL(l:List Ans):List Ans:=l
noncomputable abbrev oL(l:Objs):Objs:=l
theorem kc{cx:Cx}(df:Option Stmt){x:Str}{d:DV}(K:Con cx x d)(h:(zb7 df).names.lookup x=some .globalImplicit:=by kernel_rfl):HasCon cx df x d:=⟨h,K⟩
theorem zb3{cx:Cx}{P:PySem.Params}(X:On cx P){c a:Str}(C:Nat)(e1:clsA (kK P) c=some C)(e2:zdL (kK P) C a=true):∀C',clsA cx.K c=some C'->zdL cx.K C' a=true:=by
 rw[X.eq,e1];intro C' e;injection e;exact e2
theorem CallOK.up{cx:Cx}{n n':Nat}{k:Key}{avs:List AV}{os:Objs}{cr:CRes}{os':Objs}(x:CallOK cx n k avs os cr os')(h:n<=n':=by decide):CallOK cx n' k avs os cr os':=x.mono h
theorem rd{D:Byt}{a:Nat}{c:UInt8}{r:Byt}(h:D.drop a=c::r):a<D.length/\D.getD a 0=c/\D.drop (a+1)=r:=by
 have hl:a<D.length:=by
  by_cases q:a<D.length
  ·exact q
  ·rw[List.drop_eq_nil_of_le (Nat.le_of_not_lt q)] at h;injection h
 refine ⟨hl,?_,?_⟩
 ·rw[List.drop_eq_getElem_cons hl] at h
  simp only[List.getD_eq_getElem?_getD,List.getElem?_eq_getElem hl,Option.getD_some];exact (List.cons.inj h).1
 ·rw[←List.drop_drop,h];rfl
theorem rdEnd{D:Byt}{a:Nat}(h:D.drop a=[]):D.length<=a:=List.drop_eq_nil_iff.mp h
section
variable{cx:Cx}{P:PySem.Params}(X:On cx P)
include X
theorem K_MAX_64:Con cx "MAX_64" (.int 18446744073709551615):=⟨.int 18446744073709551615 380,by rw[X.eq];kernel_rfl,380,rfl⟩
theorem K_MAX_32:Con cx "MAX_32" (.int 4294967295):=⟨.int 4294967295 378,by rw[X.eq];kernel_rfl,378,rfl⟩
theorem c_put_varint32 {i:Int} (e0:0<=i) (e1:i<128):CallOK cx 1 (.fn "put_varint32") [I i] [] (.ok (Y [u8 i])) []:=
 cb (zgC X) 0 40 [] [.b true,.b true] (h3 (lei e0) (lti e1) (show zc1 i from ⟨e0,by lia⟩)) (by kernel_rfl)
theorem zdJ {i:Int} (e0:0<=i) (e1:i<128):CallOK cx 1 (.fn "varint_length") [I i] [] (.ok (I 1)) []:=
 cb (zcI X) 0 40 [] [.b false,.con (.int 18446744073709551615),.b false,.b false] (h4 (nlti e0) (kc (za2 22) (K_MAX_64 X)) (nlti (show i<=18446744073709551615 by lia)) (nlei e1)) (by kernel_rfl)
theorem zfM {D:Byt} {a:Nat} {c:UInt8} {r:Byt} (h:D.drop a=c::r) (hc:c.toNat<128):CallOK cx 1 (.fn "read_varint32") [Y D,I a] [] (.ok (.d (.tup [.int c.toNat,.int ((a+1:Nat))]))) []:=by
 obtain ⟨hl,rfl,_⟩:=rd h;exact cb (zbV X) 0 40 [] [.b true,.b true,.b true] (h5 (lei (show (0:Int)<=a by lia)) (lti (show (a:Int)<lenI D by unfold lenI;lia)) (show 0<=(a:Int)/\(a:Int)<(D.length:Int) by lia) (lti (show ((D.getD a 0).toNat:Int)<128 by lia)) (show 0<=(a:Int)/\(a:Int)<(D.length:Int) by lia)) (by kernel_rfl)
end
end
section
open PySem PySem.W PyProof.Rows
noncomputable def forT:Option Stmt->Expr
 |some (.For t _ _ _ _)=>t
 |_=>.Name "" ⟨0,0,0,0⟩
noncomputable def forB:Option Stmt->List Stmt
 |some (.For _ _ b _ _)=>b
 |_=>[]
noncomputable abbrev LP(cx:Cx)(df:Option Stmt)(n d k:Nat)(st:Option Stmt)(it:AV)(all:List DV)(env:Env')(objs:Objs)(fl:Fl)(e:Env')(os:Objs):Prop:=(zfB cx (zb7 df) n (d+1) k).loop (forT st) (forB st) it all env objs fl e os
noncomputable abbrev LR(cx:Cx)(df:Option Stmt)(n d k:Nat)(st:Option Stmt)(it:AV)(all xs:List DV)(env:Env')(objs:Objs)(fl:Fl)(e:Env')(os:Objs):Prop:=LoopRun (zfB cx (zb7 df) n d k) (nmsOf (zb7 df)) k (forT st) (forB st) it all xs env objs fl e os
theorem lp{cx:Cx}{df:Option Stmt}{n d k:Nat}{st:Option Stmt}{it:AV}{all:List DV}{env:Env'}{objs:Objs}{fl:Fl}{e:Env'}{os:Objs}(k1:Nat)(hk:k<=k1)(hi:∀i,it=.r i->i<k1)(h1:forable it=true)(h2:zeW it)(L:LR cx df n d k1 st it all all env objs fl e os):LP cx df n d k st it all env objs fl e os:=
 ⟨h1,h2,k1,hk,hi,L⟩
noncomputable def tfw(κ:List Nat)(p:Env'×Objs)(obl:List Prop):Fl->Option (Fl×Env'×Objs×List Prop)
 |.ret a=>opb (renA (λj=>zcQ j κ 0) a) λa'=>some (.ret a',p.1,p.2,obl)
 |.exc _=>none
 |.next=>some (.next,p.1,p.2,obl)
 |.brk=>some (.brk,p.1,p.2,obl)
 |.cont=>some (.cont,p.1,p.2,obl)
noncomputable def tfr(k:Nat)(κ:List Nat)(ns:List Str)(env:Env')(objs:Objs)(obl:List Prop):Res->Option (Fl×Env'×Objs×List Prop)
 |.fl w=>opb (zg4 k κ ns env objs) λp=>tfw κ p obl w
 |.exc _ c=>opb (zg4 k κ ns env objs) λp=>some (.exc c,p.1,p.2,obl)
 |.v _=>none
 |.vs _=>none
 |.b _=>none
 |.u=>none
noncomputable def tfin(k:Nat)(κ:List Nat)(ns:List Str)(o:Out):Option (Fl×Env'×Objs×List Prop):=opb o λp=>(match p.2.ans with
 |[]=>tfr k κ ns p.2.env p.2.objs p.2.obl p.1
 |_::_=>none)
section
variable{cx:Cx}{df:Option Stmt}{n d k:Nat}{st:Option Stmt}{it:AV}{all xs:List DV}{x:DV}{env env2 e:Env'}{objs objs2 os:Objs}{fl:Fl}{obl:List Prop}(N:Nat)(κ:List Nat)(ns:List Str)(ans:List Ans)
noncomputable abbrev TR(cx:Cx)(df:Option Stmt)(n d k:Nat)(st:Option Stmt)(N:Nat)(x:DV)(env:Env')(objs:Objs)(ans:List Ans):Out:=zfG (zfB cx (zb7 df) n d k) (nmsOf (zb7 df)) N (forT st) (forB st) x env objs ans
noncomputable def LA(cx:Cx)(df:Option Stmt)(n d k:Nat)(st:Option Stmt)(it:AV)(all xs:List DV)(env2:Env')(objs2:Objs)(o:Fl×Env'×Objs):Fl->Prop
 |.next=>LR cx df n d k st it all xs env2 objs2 o.1 o.2.1 o.2.2
 |.cont=>LR cx df n d k st it all xs env2 objs2 o.1 o.2.1 o.2.2
 |.brk=>(.next,env2,objs2)=o
 |.ret a=>(.ret a,env2,objs2)=o
 |.exc a=>(.exc a,env2,objs2)=o
theorem lr_any{q:Fl×Env'×Objs×List Prop}{o:Fl×Env'×Objs}(hi:zaM objs it=some all)(hob:Holds q.2.2.2)(h:tfin k κ ns (TR cx df n d k st N x env objs ans)=some q)(L:LA cx df n d k st it all xs q.2.1 q.2.2.1 o q.1):LR cx df n d k st it all (x::xs) env objs o.1 o.2.1 o.2.2:=by
 obtain ⟨⟨r,env1,objs1,hh,an,obl1⟩,e1,h⟩:=za3 h;induction an using List.casesOn with
 |cons _ _=>exact nn h
 |nil=>
  induction r with
  |fl w1=>
   obtain ⟨p,e3,h⟩:=za3 h;induction w1 with
   |next=>injection h;exact .next hi e1 hob (.inl rfl) e3 L
   |cont=>injection h;exact .next hi e1 hob (.inr rfl) e3 L
   |brk=>injection h;injection L;exact .brk hi e1 hob e3
   |ret a=>
    obtain ⟨a',e4,h⟩:=za3 h;injection h;injection L;exact .ret hi e1 hob e3 e4
   |exc _=>exact nn h
  |exc kk c=>
   obtain ⟨p,e3,h⟩:=za3 h;injection h;injection L;exact .exc hi e1 hob e3
  |_=>exact nn h
theorem zaB(hi:zaM objs it=some all)(hob:Holds obl)(h:tfin k κ ns (TR cx df n d k st N x env objs ans)=some (.next,env2,objs2,obl))(L:LR cx df n d k st it all xs env2 objs2 fl e os):LR cx df n d k st it all (x::xs) env objs fl e os:=lr_any N κ ns ans hi hob h (o:=(_,_,_)) L
theorem lr_cont(hi:zaM objs it=some all)(hob:Holds obl)(h:tfin k κ ns (TR cx df n d k st N x env objs ans)=some (.cont,env2,objs2,obl))(L:LR cx df n d k st it all xs env2 objs2 fl e os):LR cx df n d k st it all (x::xs) env objs fl e os:=lr_any N κ ns ans hi hob h (o:=(_,_,_)) L
theorem lr_brk(hi:zaM objs it=some all)(hob:Holds obl)(h:tfin k κ ns (TR cx df n d k st N x env objs ans)=some (.brk,env2,objs2,obl)):LR cx df n d k st it all (x::xs) env objs .next env2 objs2:=lr_any N κ ns ans hi hob h (o:=(_,_,_)) (xs:=xs) rfl
theorem lr_ret{a:AV}(hi:zaM objs it=some all)(hob:Holds obl)(h:tfin k κ ns (TR cx df n d k st N x env objs ans)=some (.ret a,env2,objs2,obl)):LR cx df n d k st it all (x::xs) env objs (.ret a) env2 objs2:=lr_any N κ ns ans hi hob h (o:=(_,_,_)) (xs:=xs) rfl
theorem lr_exc{c:Str}(hi:zaM objs it=some all)(hob:Holds obl)(h:tfin k κ ns (TR cx df n d k st N x env objs ans)=some (.exc c,env2,objs2,obl)):LR cx df n d k st it all (x::xs) env objs (.exc c) env2 objs2:=lr_any N κ ns ans hi hob h (o:=(_,_,_)) (xs:=xs) rfl
end
section
variable{cx:Cx}{P:PySem.Params}(X:On cx P)
noncomputable def rgS:Option Stmt:=getT (zbM (za2 17)) 3
noncomputable def rgE (D:Byt) (a:Nat) (o m n:Int) (s:Nat):Env':=[("data",Y D),("at",I a),("octets",I o),("most",I m),("n",I n),("shift",I s)]
theorem zfH{lv:Nat}{all xs:List DV}{D:Byt}{a:Nat}{c:UInt8}{r:Byt}{o m n:Int}{s:Nat}{x:Int}{fl:Fl}{e:Env'}{os:Objs}{it:AV}(hit:zaM [] it=some all)(h:D.drop a=c::r)(hc:128<=c.toNat)(hs:s<=100)
  (L:LR cx (za2 17) lv 0 0 rgS it all xs (rgE D (a+1) o m (Builtin.bitOr n (Builtin.bitAnd (c.toNat:Int) 127*2 ^ s)) (s+7)) [] fl e os):LR cx (za2 17) lv 0 0 rgS it all (.int x::xs) (rgE D a o m n s) [] fl e os:=by
 obtain ⟨hl,rfl,_⟩:=rd h
 have hb:(Builtin.bitAnd ((D.getD a 0).toNat:Int) 127).natAbs<2 ^ 64:=by
  have h2:=UInt8.toNat_lt (D.getD a 0);generalize (D.getD a 0).toNat=q at h2;revert q
  decide
 exact zaB 40 [] ["data", "at", "octets", "most", "n", "shift"] [.b false,.b false] hit
  (h4 (nlei (show (a:Int)<lenI D by unfold lenI;lia)) (show 0<=(a:Int)/\(a:Int)<(D.length:Int) by lia) (show (0:Int)<=s/\(s:Int)<=1000/\(Builtin.bitAnd ((D.getD a 0).toNat:Int) 127).natAbs<2 ^ 64 from ⟨by lia,by lia,hb⟩) (nlti (show (128:Int)<=(D.getD a 0).toNat by lia))) (by kernel_rfl) L
theorem rg_last{lv:Nat}{all xs:List DV}{D:Byt}{a:Nat}{c:UInt8}{r:Byt}{o m n:Int}{s:Nat}{x:Int}{it:AV}(hit:zaM [] it=some all)(h:D.drop a=c::r)(hc:c.toNat<128)(hs:s<=100)(hm:Builtin.bitOr n (Builtin.bitAnd (c.toNat:Int) 127*2 ^ s)<=m):
  LR cx (za2 17) lv 0 0 rgS it all (.int x::xs) (rgE D a o m n s) [] (.ret (.d (.tup [.int (Builtin.bitOr n (Builtin.bitAnd (c.toNat:Int) 127*2 ^ s)),.int ((a+1:Nat))]))) [] []:=by
 obtain ⟨hl,rfl,_⟩:=rd h
 have hb:(Builtin.bitAnd ((D.getD a 0).toNat:Int) 127).natAbs<2 ^ 64:=by
  have h2:=UInt8.toNat_lt (D.getD a 0);generalize (D.getD a 0).toNat=q at h2;revert q
  decide
 exact lr_ret 40 [] [] [.b false,.b true,.b false] hit
  (h5 (nlei (show (a:Int)<lenI D by unfold lenI;lia)) (show 0<=(a:Int)/\(a:Int)<(D.length:Int) by lia) (show (0:Int)<=s/\(s:Int)<=1000/\(Builtin.bitAnd ((D.getD a 0).toNat:Int) 127).natAbs<2 ^ 64 from ⟨by lia,by lia,hb⟩) (lti (show ((D.getD a 0).toNat:Int)<128 by lia)) (nlti hm)) (by kernel_rfl)
noncomputable abbrev up10:List DV:=[.int 0,.int 1,.int 2,.int 3,.int 4,.int 5,.int 6,.int 7,.int 8,.int 9]
include X
theorem c_read_groups{D:Byt}{a:Nat}{r:Byt}(h:D.drop a=130::130::128::128::128::128::128::128::1::r):
  CallOK cx 1 (.fn "read_groups") [Y D,I a,I 10,I 18446744073709551615] [] (.ok (.d (.tup [.int 72057594037928194,.int ((a+9:Nat))]))) []:=by
 have d1:=(rd h).2.2;have d2:=(rd d1).2.2;have d3:=(rd d2).2.2;have d4:=(rd d3).2.2;have d5:=(rd d4).2.2;have d6:=(rd d5).2.2;have d7:=(rd d6).2.2;have d8:=(rd d7).2.2;have hit:zaM [] (.d (.rng 0 10 1))=some up10:=by kernel_rfl
 exact cb (zdE X) 1 60 [] [.b false,.loop (.ret (.d (.tup [.int 72057594037928194,.int ((a+9:Nat))]))) [] []]
  (h2 (nlti (show (0:Int)<=a by lia)) (show LP cx (za2 17) 0 0 0 rgS (.d (.rng 0 10 1)) up10 (rgE D a 10 18446744073709551615 0 0) [] _ [] [] from
   lp 0 (Nat.le_refl _) (λ_ e=>nomatch e) rfl ⟨by decide,by decide⟩
    (zfH hit h (by decide) (by decide) (zfH hit d1 (by decide) (by decide) (zfH hit d2 (by decide) (by decide) (zfH hit d3 (by decide) (by decide) (zfH hit d4 (by decide) (by decide)
     (zfH hit d5 (by decide) (by decide) (zfH hit d6 (by decide) (by decide) (zfH hit d7 (by decide) (by decide) (rg_last hit d8 (by decide) (by decide) (by decide +kernel))))))))))) ) (by kernel_rfl)
theorem ziB {D:Byt} {a:Nat} (h:D.drop a=[]):CallOK cx 1 (.fn "read_groups") [Y D,I a,I 5,I 4294967295] [] (.exc "ShortOctets") []:=by
 have hl:=rdEnd h
 exact cb (zdE X) 1 60 [] [.b false,.loop (.exc "ShortOctets") [] []]
  (h2 (nlti (show (0:Int)<=a by lia)) (show LP cx (za2 17) 0 0 0 rgS (.d (.rng 0 5 1)) [.int 0,.int 1,.int 2,.int 3,.int 4] (rgE D a 5 4294967295 0 0) [] (.exc "ShortOctets") [] [] from
   lp 0 (Nat.le_refl _) (λ_ e=>nomatch e) rfl ⟨by decide,by decide⟩
    (lr_exc 40 [] [] [.b true] (by kernel_rfl) (h1 (lei (show lenI D<=(a:Int) by unfold lenI;lia))) (by kernel_rfl)))) (by kernel_rfl)
theorem ziA{D:Byt}{a:Nat}{r:Byt}(h:D.drop a=130::130::128::128::128::128::128::128::1::r):
  CallOK cx 2 (.fn "read_varint") [Y D,I a] [] (.ok (.d (.tup [.int 72057594037928194,.int ((a+9:Nat))]))) []:=by
 obtain ⟨hl,hc,_⟩:=rd h
 exact cb (zhS X) 0 40 [] [.b true,.b true,.b false,.con (.int 18446744073709551615),.call (.ok (.d (.tup [.int 72057594037928194,.int ((a+9:Nat))]))) []]
  (h7 (lei (show (0:Int)<=a by lia)) (lti (show (a:Int)<lenI D by unfold lenI;lia)) (show 0<=(a:Int)/\(a:Int)<(D.length:Int) by lia) (nlti (show (128:Int)<=(D.getD a 0).toNat by rw[hc];decide)) (zdE X).kv (kc (za2 19) (K_MAX_64 X)) (c_read_groups X h)) (by kernel_rfl)
theorem zgS {D:Byt} {a:Nat} (h:D.drop a=[]):CallOK cx 2 (.fn "read_varint32") [Y D,I a] [] (.exc "ShortOctets") []:=by
 have hl:=rdEnd h
 exact cb (zbV X) 0 40 [] [.b true,.b false,.con (.int 4294967295),.call (.exc "ShortOctets") []]
  (h5 (lei (show (0:Int)<=a by lia)) (nlti (show lenI D<=(a:Int) by unfold lenI;lia)) (zdE X).kv (kc (za2 21) (K_MAX_32 X)) (ziB X h)) (by kernel_rfl)
theorem c_read_lengthed{D:Byt}{a:Nat}{c:UInt8}{b r:Byt}(h:D.drop a=c::(b++r))(hc:c.toNat=b.length)(hb:b.length<128):
  CallOK cx 2 (.fn "read_lengthed") [Y D,I a] [] (.ok (.d (.tup [.bytes b,.int ((a+1+b.length:Nat))]))) []:=by
 obtain ⟨hl,_,hd⟩:=rd h
 have hL:a+1+b.length<=D.length:=by
  have:=congrArg List.length hd;rw[List.length_drop,List.length_append] at this;lia
 have e:sl D (some ((a+1:Nat):Int)) (some (((a+1:Nat):Int)+(b.length:Int)))=b:=by
  unfold sl;dsimp only
  have q1:zbT D.length ((a+1:Nat):Int)=a+1:=by
   unfold zbT;rw[nlti (show (0:Int)<=((a+1:Nat):Int) by lia),nlti (show ((a+1:Nat):Int)<=(D.length:Int) by lia)]
   simp
  have q2:zbT D.length (((a+1:Nat):Int)+(b.length:Int))=a+1+b.length:=by
   unfold zbT;rw[nlti (show (0:Int)<=((a+1:Nat):Int)+(b.length:Int) by lia),nlti (show ((a+1:Nat):Int)+(b.length:Int)<=(D.length:Int) by lia)]
   show (((a+1:Nat):Int)+(b.length:Int)).toNat=_
   lia
  rw[q1,q2,hd,Nat.add_sub_cancel_left,List.take_left'];rfl
 have key:CallOK cx 2 (.fn "read_lengthed") [Y D,I a] [] (.ok (.d (.tup [.bytes (sl D (some ((a+1:Nat):Int)) (some (((a+1:Nat):Int)+(c.toNat:Int)))),.int (((a+1:Nat):Int)+(c.toNat:Int))]))) []:=
  cb (zbW X) 0 40 [] [.call (.ok (.d (.tup [.int c.toNat,.int ((a+1:Nat))]))) [],.b false]
   (h3 (zbV X).kv (zfM X h (by lia)) (nlti (show ((a+1:Nat):Int)+(c.toNat:Int)<=lenI D by unfold lenI;lia))) (by kernel_rfl)
 rw[hc,e] at key;exact key
theorem zfO {D:Byt} {a:Nat} {c:UInt8} {r:Byt} (h:D.drop a=c::r) (hc:c.toNat<128) (hr:r.length<c.toNat):CallOK cx 2 (.fn "read_lengthed") [Y D,I a] [] (.exc "ShortOctets") []:=by
 obtain ⟨hl,_,hd⟩:=rd h;have q:=congrArg List.length hd;rw[List.length_drop] at q
 exact cb (zbW X) 0 40 [] [.call (.ok (.d (.tup [.int c.toNat,.int ((a+1:Nat))]))) [],.b true]
  (h5 (zbV X).kv (zfM X h hc) (lti (show lenI D<((a+1:Nat):Int)+(c.toNat:Int) by unfold lenI;lia)) (show (c.toNat:Int).natAbs<1000000000 by lia) (show (lenI D - ((a+1:Nat):Int)).natAbs<1000000000 by unfold lenI;lia)) (by kernel_rfl)
theorem zgT {D:Byt} {a:Nat} (h:D.drop a=[]):CallOK cx 3 (.fn "read_lengthed") [Y D,I a] [] (.exc "ShortOctets") []:=
 cb (zbW X) 0 40 [] [.call (.exc "ShortOctets") []] (h2 (zbV X).kv (zgS X h)) (by kernel_rfl)
theorem zdB{i:Int}(l:Byt)(e0:0<=i)(e1:i<=4294967295)(q0:zc1 (Builtin.bitAnd i 255))(q1:zc1 (Builtin.bitAnd (i.fdiv (2 ^ 8)) 255))(q2:zc1 (Builtin.bitAnd (i.fdiv (2 ^ 16)) 255))(q3:zc1 (i.fdiv (2 ^ 24)))
  (e:[u8 (Builtin.bitAnd i 255),u8 (Builtin.bitAnd (i.fdiv (2 ^ 8)) 255),u8 (Builtin.bitAnd (i.fdiv (2 ^ 16)) 255),u8 (i.fdiv (2 ^ 24))]=l):CallOK cx 1 (.fn "put_fixed32") [I i] [] (.ok (Y l)) []:=by
 subst e;exact cb (zf1 X) 0 40 [] [.b false,.con (.int 4294967295),.b false] (h3 (nlti e0) (kc (za2 23) (K_MAX_32 X)) (nlti e1) |> λx=>happ x (h7 (show (0:Int)<=8 by decide) (show (0:Int)<=16 by decide) (show (0:Int)<=24 by decide) q0 q1 q2 q3)) (by kernel_rfl)
theorem zhI {i lo hi:Int} {l h:Byt} (e0:0<=i) (e1:i<=18446744073709551615) (el:Builtin.bitAnd i 4294967295=lo) (eh:i.fdiv (2 ^ 32)=hi) (c1:CallOK cx 1 (.fn "put_fixed32") [I lo] [] (.ok (Y l)) []) (c2:CallOK cx 1 (.fn "put_fixed32") [I hi] [] (.ok (Y h)) []) (hl:l.length+h.length<=1000000) :
  CallOK cx 2 (.fn "put_fixed64") [I i] [] (.ok (Y (l++h))) []:=by
 subst el;subst eh
 exact cb (zf0 X) 0 40 [] [.b false,.con (.int 18446744073709551615),.b false,.con (.int 4294967295),.call (.ok (Y l)) [],.call (.ok (Y h)) []]
  (happ (h3 (nlti e0) (kc (za2 24) (K_MAX_64 X)) (nlti e1)) (zeE (zf1 X).kv (zeE (kc (za2 24) (K_MAX_32 X)) (zeE c1 (zeE (zf1 X).kv (h3 (show (0:Int)<=32 by decide) c2 hl)))))) (by kernel_rfl)
noncomputable def cliN:Bool->Int
 |false=>5
 |true=>72057594037928194
noncomputable def cliB:Bool->Byt
 |false=>[5,0,0,0,0,0,0,0]
 |true=>[2,1,0,0,0,0,0,1]
theorem c_put_fixed64_cli (b:Bool):CallOK cx 2 (.fn "put_fixed64") [I (cliN b)] [] (.ok (Y (cliB b))) []:=by
 induction b with
 |false=>
  exact zhI X (i:=5) (lo:=5) (hi:=0) (l:=[5,0,0,0]) (h:=[0,0,0,0]) (by decide) (by decide) (by decide) (by decide)
   (zdB X _ (by decide) (by decide) ⟨by decide,by decide⟩ ⟨by decide,by decide⟩ ⟨by decide,by decide⟩ ⟨by decide,by decide⟩ (by decide))
   (zdB X _ (by decide) (by decide) ⟨by decide,by decide⟩ ⟨by decide,by decide⟩ ⟨by decide,by decide⟩ ⟨by decide,by decide⟩ (by decide)) (by decide)
 |true=>
  exact zhI X (i:=72057594037928194) (lo:=258) (hi:=16777216) (l:=[2,1,0,0]) (h:=[0,0,0,1]) (by decide) (by decide) (by decide) (by decide)
   (zdB X _ (by decide) (by decide) ⟨by decide,by decide⟩ ⟨by decide,by decide⟩ ⟨by decide,by decide⟩ ⟨by decide,by decide⟩ (by decide))
   (zdB X _ (by decide) (by decide) ⟨by decide,by decide⟩ ⟨by decide,by decide⟩ ⟨by decide,by decide⟩ ⟨by decide,by decide⟩ (by decide)) (by decide)
end
end
section
open PySem PySem.W PyProof.Rows
noncomputable def cu (D:Byt) (a:Nat):MObj:=.inst "Cursor" [("data",.d (.bytes D)),("at",.d (.int a))]
noncomputable def sk (b:Byt):Objs:=[.inst "Sink" [("parts",.r 1)],.ba b]
noncomputable def wb (rows:List Op3) (w:Int):Objs:=[.inst "WriteBatch" [("rows",.r 1),("weight",I w)],.tl .op rows]
section
variable{cx:Cx}{P:PySem.Params}(X:On cx P)
include X
theorem K_BATCH_HEAD:Con cx "BATCH_HEAD" (.int 12):=⟨.int 12 684,by rw[X.eq];kernel_rfl,684,rfl⟩
theorem zcB:Con cx "KIND_VALUE" (.int 1):=⟨.int 1 682,by rw[X.eq];kernel_rfl,682,rfl⟩
theorem K_KIND_DELETE:Con cx "KIND_DELETE" (.int 0):=⟨.int 0 680,by rw[X.eq];kernel_rfl,680,rfl⟩
theorem zhL {D:Byt}:CallOK cx 2 (.fn "Cursor") [Y D] [] (.ok (.r 0)) [cu D 0]:=by
 refine cnew (zdC X) ?_
 obtain ⟨fa,_,e1,e2,_⟩:=(zcX X).fa
 exact call_by (dvs:=[I 0]) 0 40 [0] [.b false,.b false] e1 e2 (zcX X).sc X.g rfl rfl
  (λp hp G ρ=>by rw[List.mem_singleton.mp hp];exact ⟨494,rfl⟩)
  (h4 (nlti (show (0:Int)<=0 by decide)) (nlti (show (0:Int)<=lenI D by unfold lenI;lia)) (zb3 X 319 (c := "Cursor") (a := "data") (by kernel_rfl) (by kernel_rfl)) (zb3 X 319 (c := "Cursor") (a := "at") (by kernel_rfl) (by kernel_rfl))) (by kernel_rfl)
theorem c_left {D:Byt} {a:Nat}:CallOK cx 1 (.mt "Cursor" "left") [.r 0] [cu D a] (.ok (I (lenI D - a))) [cu D a]:=cb (zf4 X) 0 40 [0] [] hnil (by kernel_rfl)
theorem zdX {D:Byt} {a:Nat} {c:UInt8} {r:Byt} (h:D.drop a=c::r) (hc:c.toNat<128):CallOK cx 1 (.mt "Cursor" "varint") [.r 0] [cu D a] (.ok (I c.toNat)) [cu D (a+1)]:=by
 obtain ⟨hl,rfl,_⟩:=rd h;exact cb (za5 X) 0 40 [0] [.b true,.b true] (h4 (lti (show (a:Int)<lenI D by unfold lenI;lia)) (show 0<=(a:Int)/\(a:Int)<(D.length:Int) by lia) (lti (show ((D.getD a 0).toNat:Int)<128 by lia)) (show 0<=(a:Int)/\(a:Int)<(D.length:Int) by lia)) (by kernel_rfl)
theorem c_varint_tok {D:Byt} {a:Nat} {r:Byt} (h:D.drop a=130::130::128::128::128::128::128::128::1::r):CallOK cx 3 (.mt "Cursor" "varint") [.r 0] [cu D a] (.ok (I 72057594037928194)) [cu D (a+9)]:=by
 obtain ⟨hl,hc,_⟩:=rd h
 exact cb (za5 X) 0 40 [0] [.b true,.b false,.call (.ok (.d (.tup [.int 72057594037928194,.int ((a+9:Nat))]))) []]
  (h5 (lti (show (a:Int)<lenI D by unfold lenI;lia)) (show 0<=(a:Int)/\(a:Int)<(D.length:Int) by lia) (nlti (show (128:Int)<=(D.getD a 0).toNat by rw[hc];decide)) (zhS X).kv (ziA X h)) (by kernel_rfl)
theorem zeH {D:Byt} {a:Nat} {c:UInt8} {b r:Byt} (h:D.drop a=c::(b++r)) (hc:c.toNat=b.length) (hb:b.length<128):CallOK cx 3 (.mt "Cursor" "lengthed") [.r 0] [cu D a] (.ok (Y b)) [cu D (a+1+b.length)]:=
 cb (za9 X) 0 40 [0] [.call (.ok (.d (.tup [.bytes b,.int ((a+1+b.length:Nat))]))) []] (h2 (zbW X).kv (c_read_lengthed X h hc hb)) (by kernel_rfl)
theorem c_lengthed_bad {n:Nat} {D:Byt} {a:Nat} (h:CallOK cx n (.fn "read_lengthed") [Y D,I a] [] (.exc "ShortOctets") []):CallOK cx (n+1) (.mt "Cursor" "lengthed") [.r 0] [cu D a] (.exc "ShortOctets") [cu D a]:=
 cb (za9 X) 0 40 [0] [.call (.exc "ShortOctets") []] (h2 (zbW X).kv h) (by kernel_rfl)
theorem c_octet {D:Byt} {a:Nat} {c:UInt8} {r:Byt} (h:D.drop a=c::r):CallOK cx 1 (.mt "Cursor" "octet") [.r 0] [cu D a] (.ok (I c.toNat)) [cu D (a+1)]:=by
 obtain ⟨hl,rfl,_⟩:=rd h;exact cb (zgG X) 0 40 [0] [.b false] (h2 (nlei (show (a:Int)<lenI D by unfold lenI;lia)) (show 0<=(a:Int)/\(a:Int)<(D.length:Int) by lia)) (by kernel_rfl)
noncomputable def flB(b:Bool):UInt8:=match b with|true=>1|false=>0
theorem c_flag {D:Byt} {a:Nat} {b:Bool} {r:Byt} (h:D.drop a=flB b::r):CallOK cx 1 (.mt "Cursor" "flag") [.r 0] [cu D a] (.ok (Bo b)) [cu D (a+1)]:=by
 obtain ⟨hl,hc,_⟩:=rd h;have hv:((D.getD a 0).toNat:Int)<=1:=by rw[hc];cases b <;> decide
 have key:CallOK cx 1 (.mt "Cursor" "flag") [.r 0] [cu D a] (.ok (Bo (eqI ((D.getD a 0).toNat:Int) 1))) [cu D (a+1)]:=
  cb (zbB X) 0 40 [0] [.b false,.b false] (h3 (nlei (show (a:Int)<lenI D by unfold lenI;lia)) (show 0<=(a:Int)/\(a:Int)<(D.length:Int) by lia) (nlti hv)) (by kernel_rfl)
 rw[hc] at key;have e:eqI ((flB b).toNat:Int) 1=b:=by cases b <;> decide
 rw[e] at key;exact key
theorem c_flag_end {D:Byt} {a:Nat} (h:D.drop a=[]):CallOK cx 1 (.mt "Cursor" "flag") [.r 0] [cu D a] (.exc "ShortOctets") [cu D a]:=by
 have hl:=rdEnd h;exact cb (zbB X) 0 40 [0] [.b true] (h1 (lei (show lenI D<=(a:Int) by unfold lenI;lia))) (by kernel_rfl)
theorem c_done {D:Byt} {a:Nat} (h:D.drop a=[]):CallOK cx 1 (.mt "Cursor" "done") [.r 0] [cu D a] (.ok Nn) [cu D a]:=by
 have hl:=rdEnd h;exact cb (zb6 X) 0 40 [0] [.b false] (h1 (nlti (show lenI D<=(a:Int) by unfold lenI;lia))) (by kernel_rfl)
theorem c_done_bad {D:Byt} {a:Nat} {c:UInt8} {r:Byt} (h:D.drop a=c::r) (hD:D.length<1000000):CallOK cx 2 (.mt "Cursor" "done") [.r 0] [cu D a] (.exc "Corrupt") [cu D a]:=by
 obtain ⟨hl,_,_⟩:=rd h;exact cb (zb6 X) 0 40 [0] [.b true,.call (.ok (I (lenI D - a))) [cu D a]] (h4 (lti (show (a:Int)<lenI D by unfold lenI;lia)) (zf4 X).mv (c_left X (D:=D) (a:=a)) (show (lenI D - (a:Int)).natAbs<1000000000 by unfold lenI;lia)) (by kernel_rfl)
theorem c_Sink:CallOK cx 2 (.fn "Sink") [] [] (.ok (.r 0)) (sk []):=
 cnew (N_Sink X) (cb (zfR X) 0 40 [0,1] [] (h1 (zb3 X 396 (c := "Sink") (a := "parts") (by kernel_rfl) (by kernel_rfl))) (by kernel_rfl))
theorem zfL {b:Byt} {n:Int} (e0:0<=n) (e1:n<128) (hb:b.length<1000000):CallOK cx 1 (.mt "Sink" "varint") [.r 0,I n] (sk b) (.ok Nn) (sk (b++[u8 n])):=
 cb (zc0 X) 0 40 [0,1] [.b true,.b true] (h3 (lei e0) (lti e1) (show zc1 n/\b.length<1000000 from ⟨⟨e0,by lia⟩,hb⟩)) (by kernel_rfl)
theorem zgR {b c:Byt} (hc:c.length<128) (hb:b.length<100000):CallOK cx 2 (.mt "Sink" "lengthed") [.r 0,Y c] (sk b) (.ok Nn) (sk (b++[u8 (lenI c)]++c)):=
 cb (zcM X) 0 40 [0,1] [.call (.ok (Y [u8 (lenI c)])) []]
  (h4 (zgC X).kv (c_put_varint32 X (show (0:Int)<=lenI c by unfold lenI;lia) (show lenI c<128 by unfold lenI;lia)) (show b.length+[u8 (lenI c)].length<1000000 by simp;lia) (show (b++[u8 (lenI c)]).length+c.length<1000000 by simp;lia)) (by kernel_rfl)
theorem c_soctet {b:Byt} {n:Int} (e0:0<=n) (e1:n<=255) (hb:b.length<1000000):CallOK cx 1 (.mt "Sink" "octet") [.r 0,I n] (sk b) (.ok Nn) (sk (b++[u8 n])):=
 cb (zfQ X) 0 40 [0,1] [.b false,.b false] (h3 (nlti e0) (nlti e1) (show zc1 n/\b.length<1000000 from ⟨⟨e0,by lia⟩,hb⟩)) (by kernel_rfl)
theorem c_sflag {b:Byt} {z:Bool} (hb:b.length<1000000):CallOK cx 1 (.mt "Sink" "flag") [.r 0,Bo z] (sk b) (.ok Nn) (sk (b++[flB z])):=by
 induction hz:z with
 |true=>exact cb (zcV X) 0 40 [0,1] [.b true] (h2 (show true=true from rfl) (show zc1 1/\b.length<1000000 from ⟨⟨by decide,by decide⟩,hb⟩)) (by kernel_rfl)
 |false=>exact cb (zcV X) 0 40 [0,1] [.b false] (h2 (show false=false from rfl) (show zc1 0/\b.length<1000000 from ⟨⟨by decide,by decide⟩,hb⟩)) (by kernel_rfl)
theorem c_sdone {b:Byt}:CallOK cx 1 (.mt "Sink" "done") [.r 0] (sk b) (.ok (Y b)) (sk b):=cb (zcW X) 0 40 [0,1] [] hnil (by kernel_rfl)
theorem zdZ:CallOK cx 2 (.fn "WriteBatch") [] [] (.ok (.r 0)) (wb [] 12):=
 cnew (zd0 X) (cb (zd4 X) 0 40 [0,1] [.reo 1 (.tl .op []),.con (.int 12)] (h4 (zb3 X 480 (c := "WriteBatch") (a := "rows") (by kernel_rfl) (by kernel_rfl)) (show ∃l,(MObj.lst []).plain=some l/\(MObj.tl .op []).plain=some l from ⟨[],rfl,rfl⟩) (kc (za7 34 0) (K_BATCH_HEAD X)) (zb3 X 480 (c := "WriteBatch") (a := "weight") (by kernel_rfl) (by kernel_rfl))) (by kernel_rfl))
noncomputable def wput(w:Int)(k v:Byt):Int:=w+(1+1+lenI k)+(1+lenI v)
noncomputable def wdel(w:Int)(k:Byt):Int:=w+(1+1+lenI k)
theorem c_take_op1 {rows:List Op3} {w:Int} {k v:Byt} (hk:k.length<128) (hv:v.length<128) (hr:rows.length<1000):CallOK cx 2 (.mt "WriteBatch" "take_op") [.r 0,I 1,Y k,Y v] (wb rows w) (.ok Nn) (wb (rows++[(1,k,v)]) (wput w k v)):=
 cb (zbF X) 0 40 [0,1] [.call (.ok (I 1)) [],.con (.int 1),.b true,.call (.ok (I 1)) []]
  (h7 (zcI X).kv (zdJ X (i:=lenI k) (by unfold lenI;lia) (by unfold lenI;lia)) (kc (za7 34 3) (zcB X)) (show eqI 1 1=true from rfl) (zcI X).kv (zdJ X (i:=lenI v) (by unfold lenI;lia) (by unfold lenI;lia)) (show rows.length<1000000 by lia)) (by kernel_rfl)
theorem c_take_op0 {rows:List Op3} {w:Int} {k v:Byt} (hk:k.length<128) (hr:rows.length<1000):CallOK cx 2 (.mt "WriteBatch" "take_op") [.r 0,I 0,Y k,Y v] (wb rows w) (.ok Nn) (wb (rows++[(0,k,v)]) (wdel w k)):=
 cb (zbF X) 0 40 [0,1] [.call (.ok (I 1)) [],.con (.int 1),.b false]
  (h5 (zcI X).kv (zdJ X (i:=lenI k) (by unfold lenI;lia) (by unfold lenI;lia)) (kc (za7 34 3) (zcB X)) (show eqI 0 1=false from rfl) (show rows.length<1000000 by lia)) (by kernel_rfl)
theorem c_wput {rows:List Op3} {w:Int} {k v:Byt} (hk:k.length<128) (hv:v.length<128) (hr:rows.length<1000):CallOK cx 3 (.mt "WriteBatch" "put") [.r 0,Y k,Y v] (wb rows w) (.ok Nn) (wb (rows++[(1,k,v)]) (wput w k v)):=
 cb (zb5 X) 0 40 [0,1] [.con (.int 1),.call (.ok Nn) (wb (rows++[(1,k,v)]) (wput w k v))] (h3 (zbF X).mv (kc (za7 34 1) (zcB X)) (c_take_op1 X (w:=w) hk hv hr)) (by kernel_rfl)
theorem c_wdel {rows:List Op3} {w:Int} {k:Byt} (hk:k.length<128) (hr:rows.length<1000):CallOK cx 3 (.mt "WriteBatch" "delete") [.r 0,Y k] (wb rows w) (.ok Nn) (wb (rows++[(0,k,[])]) (wdel w k)):=
 cb (zdQ X) 0 40 [0,1] [.con (.int 0),.call (.ok Nn) (wb (rows++[(0,k,[])]) (wdel w k))] (h3 (zbF X).mv (kc (za7 34 2) (K_KIND_DELETE X)) (c_take_op0 X (w:=w) (v:=[]) hk hr)) (by kernel_rfl)
theorem c_wcount {rows:List Op3} {w:Int}:CallOK cx 1 (.mt "WriteBatch" "count") [.r 0] (wb rows w) (.ok (I (lenI rows))) (wb rows w):=cb (zcL X) 0 40 [0,1] [] hnil (by kernel_rfl)
theorem c_wops {rows:List Op3} {w:Int}:CallOK cx 1 (.mt "WriteBatch" "ops") [.r 0] (wb rows w) (.ok (.d (.tl .op rows))) (wb rows w):=
 cb (zd8 X) 0 40 [0,1] [.call (.ok (.d (.tl .op rows))) [.tl .op rows]] (h2 (k_list X) (call_list (n:=0) (ps:=rows.map Ty.op.plain) (b_list X) (a:=.r 0) (os:=[.tl .op rows]) (d:=.tl .op rows) rfl rfl)) (by kernel_rfl)
end
end
section
open PySem PySem.W PyProof.Rows
noncomputable def Ord(l:List Int):Prop:=l.Pairwise (·<·)
structure Ids(l:List Int):Prop where
 ord:Ord l
 few:l.length<60
 small:∀x∈l,0<=x/\x<128
theorem Ids.nil:Ids []:=⟨.nil,by decide,λ_ h=>nomatch h⟩
noncomputable def rsA(b:Bool)(l:List Int):AV:=match b with|true=>.r 0|false=>.d (.tl .int l)
noncomputable def rsO(b:Bool)(l:List Int):Objs:=match b with|true=>[.tl .int l]|false=>[]
noncomputable def rsI(b:Bool):Nat:=match b with|true=>1|false=>0
theorem last_at{p:List Int}{y d:Int}:(p++[y]).getD (atI (p++[y]).length (-1)) d=y:=by
 have:atI (p++[y]).length (-1)=p.length:=by
  unfold atI;rw[lti (show (-1:Int)<0 by decide)]
  simp only[cond_true,List.length_append,List.length_singleton];lia
 rw[this];simp
theorem idx_last{α:Type}{p:List α}{y:α}:zcD (p++[y]).length (-1):=⟨by simp;lia,by simp;lia⟩
theorem zgK{α:Type}:∀{p:List α},p≠[]->∃q y,p=q++[y]:=λ{p} h=>⟨p.dropLast,p.getLast h,(List.dropLast_concat_getLast h).symm⟩
section
variable{cx:Cx}{P:PySem.Params}(X:On cx P)
theorem rising_loop(b:Bool)(l:List Int){lv:Nat}{all:List DV}(hall:zaM (rsO b l++[.tl .int l]) (.d (.tl .int l))=some all):∀(r p:List Int),Ord (p++r)->p.length+r.length<1000 ->
  LR cx (za2 37) lv 0 (rsI b) (getT (zbM (za2 37)) 1) (.d (.tl .int l)) all (r.map .int) [("ids",rsA b l),("out",.r (rsI b))] (rsO b l++[.tl .int p]) .next [("ids",rsA b l),("out",.r (rsI b))] (rsO b l++[.tl .int (p++r)]):=by
 intro l;induction l with
 |nil=>
  intro p _ _;rw[List.append_nil];induction b with
  |true=>exact .done (κ:=[0,1]) (ns:=["ids", "out"]) hall (by kernel_rfl)
  |false=>exact .done (κ:=[0]) (ns:=["ids", "out"]) hall (by kernel_rfl)
 |cons x r ih=>
  intro p ho hl;have ih:=ih (p++[x]) (by rw[List.append_assoc];exact ho) (by rw[List.length_append,List.length_singleton];simp at hl;lia)
  rw[List.append_assoc,List.singleton_append] at ih;have hp:p.length<1000000:=by simp at hl;lia
  by_cases hn:p=[]
  ·subst hn
   induction b with
   |true=>exact zaB 40 [0,1] ["ids", "out"] [.b false] hall (h2 (show (!([]:List Int).isEmpty)=false from rfl) (show ([]:List Int).length<1000000 by decide)) (by kernel_rfl) ih
   |false=>exact zaB 40 [0] ["ids", "out"] [.b false] hall (h2 (show (!([]:List Int).isEmpty)=false from rfl) (show ([]:List Int).length<1000000 by decide)) (by kernel_rfl) ih
  ·obtain ⟨q,y,rfl⟩:=zgK hn
   have hlt:y<x:=by
    have:=(List.pairwise_append.mp ho).2.2 y (by simp) x (by simp)
    exact this
   have e1:(!(q++[y]).isEmpty)=true:=by cases q <;> rfl
   have e2:(!eqI ((q++[y]).getD (atI (q++[y]).length (-1)) 0) x)=true:=by
    rw[last_at];unfold eqI;rw[decide_eq_false (by lia)]
    rfl
   induction b with
   |true=>exact zaB 40 [0,1] ["ids", "out"] [.b true,.b true] hall (h4 e1 (idx_last (p:=q) (y:=y)) e2 hp) (by kernel_rfl) ih
   |false=>exact zaB 40 [0] ["ids", "out"] [.b true,.b true] hall (h4 e1 (idx_last (p:=q) (y:=y)) e2 hp) (by kernel_rfl) ih
include X
theorem zc5 (b:Bool) {l:List Int} (h:Ids l):CallOK cx 1 (.fn "rising") [rsA b l] (rsO b l) (.ok (.r (rsI b))) (rsO b l++[.tl .int l]):=by
 have hs:CallOK cx 0 (.fn "sorted") [rsA b l] (rsO b l) (.ok (.d (.tl .int l))) (rsO b l):=
  call_sorted (d:=.tl .int l) (ns:=l) (b_sorted X) (by cases b <;> rfl) (by show PV.lst (l.map Ty.int.plain)=_;rfl) (Nat.lt_of_lt_of_le h.few (by decide)) (h.ord.imp λh=>Int.le_of_lt h) (.refl _)
 have hl:=rising_loop (cx:=cx) b l (lv:=0) (all:=l.map .int) (by cases b <;> rfl) l [] (by simpa using h.ord) (by have:=h.few;simp;lia)
 induction b with
 |true=>
  exact cb (zbS X) 1 60 [0,1] [.reo 1 (.tl .int []),.call (.ok (.d (.tl .int l))) [.tl .int l],.loop .next [("ids",.r 0),("out",.r 1)] [.tl .int l,.tl .int l]]
   (h4 (show ∃l,(MObj.lst []).plain=some l/\(MObj.tl .int []).plain=some l from ⟨[],rfl,rfl⟩) (k_sorted X) hs (show LP cx (za2 37) 0 0 1 (getT (zbM (za2 37)) 1) (.d (.tl .int l)) (l.map .int) [("ids",.r 0),("out",.r 1)] [.tl .int l,.tl .int []] .next [("ids",.r 0),("out",.r 1)] [.tl .int l,.tl .int l] from lp 1 (Nat.le_refl _) (λ_ e=>nomatch e) rfl trivial hl)) (by kernel_rfl)
 |false=>
  exact cb (zbS X) 1 60 [0] [.reo 0 (.tl .int []),.call (.ok (.d (.tl .int l))) [],.loop .next [("ids",.d (.tl .int l)),("out",.r 0)] [.tl .int l]]
   (h4 (show ∃l,(MObj.lst []).plain=some l/\(MObj.tl .int []).plain=some l from ⟨[],rfl,rfl⟩) (k_sorted X) hs (show LP cx (za2 37) 0 0 0 (getT (zbM (za2 37)) 1) (.d (.tl .int l)) (l.map .int) [("ids",.d (.tl .int l)),("out",.r 0)] [.tl .int []] .next [("ids",.d (.tl .int l)),("out",.r 0)] [.tl .int l] from lp 0 (Nat.le_refl _) (λ_ e=>nomatch e) rfl trivial hl)) (by kernel_rfl)
theorem c_take_count {D:Byt} {a:Nat} {c:UInt8} {r:Byt} (h:D.drop a=c::r) (hc:c.toNat<128) (hr:c.toNat<=r.length):CallOK cx 2 (.fn "take_count") [.r 0] [cu D a] (.ok (I c.toNat)) [cu D (a+1)]:=by
 obtain ⟨hl,_,hd⟩:=rd h;have q:=congrArg List.length hd;rw[List.length_drop] at q
 exact cb (F_take_count X) 0 60 [0] [.call (.ok (I c.toNat)) [cu D (a+1)],.call (.ok (I (lenI D - ((a+1:Nat):Int)))) [cu D (a+1)],.b false]
  (h5 (za5 X).mv (zdX X h hc) (zf4 X).mv (c_left X (D:=D) (a:=a+1)) (nlti (show (c.toNat:Int)<=lenI D - ((a+1:Nat):Int) by unfold lenI;lia))) (by kernel_rfl)
noncomputable def entD (t i k:Int) (b:Byt):MObj:=.inst "Entry" [("term",I t),("index",I i),("kind",I k),("data",Y b)]
theorem c_Entry {t i k:Int} {b:Byt}:CallOK cx 2 (.fn "Entry") [I t,I i,I k,Y b] [] (.ok (.r 0)) [entD t i k b]:=
 cnew (N_Entry X) (cb (zfD X) 0 60 [0] [] (h4 (zb3 X 543 (c := "Entry") (a := "term") (by kernel_rfl) (by kernel_rfl)) (zb3 X 543 (c := "Entry") (a := "index") (by kernel_rfl) (by kernel_rfl)) (zb3 X 543 (c := "Entry") (a := "kind") (by kernel_rfl) (by kernel_rfl)) (zb3 X 543 (c := "Entry") (a := "data") (by kernel_rfl) (by kernel_rfl))) (by kernel_rfl))
noncomputable def zb0 (i:Nat) (l:List Int):Objs:=[.inst "ConfState" [("voters",.r (i+1)),("learners",.r (i+2)),("outgoing",.r (i+3)),("learners_next",.r (i+4)),("auto_leave",Bo false)],.tl .int l,.tl .int [],.tl .int [],.tl .int []]
theorem zdM (a:Str) (h:zdL (kK P) 578 a=true):∀C',clsA cx.K "ConfState"=some C'->zdL cx.K C' a=true:=zb3 X 578 (by kernel_rfl) h
theorem c_Conf{xs ys zs us:List DV}{l:List Int}(h:Ids l)(e:zaU xs=l.map PV.int)(e1:zaU ys=[])(e2:zaU zs=[])(e3:zaU us=[]):
  CallOK cx 3 (.fn "ConfState") [.r 0,.r 1,.r 2,.r 3,Bo false] [.lst xs,.lst ys,.lst zs,.lst us] (.ok (.r 4)) ([.tl .int l,.tl .int [],.tl .int [],.tl .int []]++zb0 4 l):=
 cnew (zbN X) (cb (zbG X) 0 60 [0,1,2,3,4,5,6,7,8] [.reo 0 (.tl .int l),.reo 1 (.tl .int []),.reo 2 (.tl .int []),.reo 3 (.tl .int []),.call (.ok (.r 1)) [.tl .int l,.tl .int l],.call (.ok (.r 1)) [.tl .int [],.tl .int []],.call (.ok (.r 1)) [.tl .int [],.tl .int []],.call (.ok (.r 1)) [.tl .int [],.tl .int []]]
  (zeE (show ∃l',(MObj.lst xs).plain=some l'/\(MObj.tl .int l).plain=some l' from ⟨_,rfl,by rw[e];rfl⟩) (zeE (show ∃l',(MObj.lst ys).plain=some l'/\(MObj.tl .int []).plain=some l' from ⟨_,rfl,by rw[e1];rfl⟩) (zeE (show ∃l',(MObj.lst zs).plain=some l'/\(MObj.tl .int []).plain=some l' from ⟨_,rfl,by rw[e2];rfl⟩) (zeE (show ∃l',(MObj.lst us).plain=some l'/\(MObj.tl .int []).plain=some l' from ⟨_,rfl,by rw[e3];rfl⟩)
   (happ (h3 (zbS X).kv (zc5 X true h) (zdM X "voters" (by kernel_rfl))) (happ (h3 (zbS X).kv (zc5 X true .nil) (zdM X "learners" (by kernel_rfl))) (happ (h3 (zbS X).kv (zc5 X true .nil) (zdM X "outgoing" (by kernel_rfl))) (h4 (zbS X).kv (zc5 X true .nil) (zdM X "learners_next" (by kernel_rfl)) (zdM X "auto_leave" (by kernel_rfl)))))))))) (by kernel_rfl))
theorem c_ConfT {l:List Int} (h:Ids l):CallOK cx 3 (.fn "ConfState") [.r 0,.r 1,.r 2,.r 3,Bo false] [.tl .int l,.tl .int [],.tl .int [],.tl .int []] (.ok (.r 4)) ([.tl .int l,.tl .int [],.tl .int [],.tl .int []]++zb0 4 l):=
 cnew (zbN X) (cb (zbG X) 0 60 [0,1,2,3,4,5,6,7,8] [.call (.ok (.r 1)) [.tl .int l,.tl .int l],.call (.ok (.r 1)) [.tl .int [],.tl .int []],.call (.ok (.r 1)) [.tl .int [],.tl .int []],.call (.ok (.r 1)) [.tl .int [],.tl .int []]]
   (happ (h3 (zbS X).kv (zc5 X true h) (zdM X "voters" (by kernel_rfl))) (happ (h3 (zbS X).kv (zc5 X true .nil) (zdM X "learners" (by kernel_rfl))) (happ (h3 (zbS X).kv (zc5 X true .nil) (zdM X "outgoing" (by kernel_rfl))) (h4 (zbS X).kv (zc5 X true .nil) (zdM X "learners_next" (by kernel_rfl)) (zdM X "auto_leave" (by kernel_rfl)))))) (by kernel_rfl))
theorem c_ConfD{ys zs us:List DV}{l:List Int}(h:Ids l)(e1:zaU ys=[])(e2:zaU zs=[])(e3:zaU us=[]):
  CallOK cx 3 (.fn "ConfState") [.d (.tl .int l),.r 0,.r 1,.r 2,Bo false] [.lst ys,.lst zs,.lst us] (.ok (.r 3)) ([.tl .int [],.tl .int [],.tl .int []]++zb0 3 l):=
 cnew (zbN X) (cb (zbG X) 0 60 [0,1,2,3,4,5,6,7] [.reo 0 (.tl .int []),.reo 1 (.tl .int []),.reo 2 (.tl .int []),.call (.ok (.r 0)) [.tl .int l],.call (.ok (.r 1)) [.tl .int [],.tl .int []],.call (.ok (.r 1)) [.tl .int [],.tl .int []],.call (.ok (.r 1)) [.tl .int [],.tl .int []]]
  (zeE (show ∃l',(MObj.lst ys).plain=some l'/\(MObj.tl .int []).plain=some l' from ⟨_,rfl,by rw[e1];rfl⟩) (zeE (show ∃l',(MObj.lst zs).plain=some l'/\(MObj.tl .int []).plain=some l' from ⟨_,rfl,by rw[e2];rfl⟩) (zeE (show ∃l',(MObj.lst us).plain=some l'/\(MObj.tl .int []).plain=some l' from ⟨_,rfl,by rw[e3];rfl⟩)
   (happ (h3 (zbS X).kv (zc5 X false h) (zdM X "voters" (by kernel_rfl))) (happ (h3 (zbS X).kv (zc5 X true .nil) (zdM X "learners" (by kernel_rfl))) (happ (h3 (zbS X).kv (zc5 X true .nil) (zdM X "outgoing" (by kernel_rfl))) (h4 (zbS X).kv (zc5 X true .nil) (zdM X "learners_next" (by kernel_rfl)) (zdM X "auto_leave" (by kernel_rfl))))))))) (by kernel_rfl))
end
end
section
open PySem PySem.W PyProof.Rows
noncomputable def idB(l:List Int):Byt:=u8 (lenI l)::l.map u8
noncomputable def zaE(l:List Int):Byt:=idB l++[0,0,0,0]
theorem zfF{x:Int}(h0:0<=x)(h1:x<256):((u8 x).toNat:Int)=x:=by
 unfold u8;rw[UInt8.toNat_ofNat',Nat.mod_eq_of_lt (by show x.toNat<256;lia)]
 lia
theorem zbR{α:Type}{D b r:List α}{a:Nat}(h:D.drop a=b++r):D.drop (a+b.length)=r:=by
 rw[←List.drop_drop,h,List.drop_left]
section
variable{cx:Cx}{P:PySem.Params}(X:On cx P)
include X
theorem put_loop{l:List Int}(hl:Ids l){lv:Nat}:∀(r:List Int) (b:Byt),(∀x∈r,0<=x/\x<128)->b.length+r.length<10000 ->
  LR cx (za2 41) (lv+1) 0 3 (getT (zbM (za2 41)) 1) (.r 2) (l.map .int) (r.map .int) [("sink",.r 0),("ids",.r 2)] (sk b++[.tl .int l]) .next [("sink",.r 0),("ids",.r 2)] (sk (b++r.map u8)++[.tl .int l]):=by
 intro l;induction l with
 |nil=>
  intro b _ _;rw[show b++List.map u8 []=b from List.append_nil b]
  exact .done (κ:=[0,1,2]) (ns:=["sink", "ids"]) rfl (by kernel_rfl)
 |cons x r ih=>
  intro b hx hb;have ih:=ih (b++[u8 x]) (λy hy=>hx y (.tail _ hy)) (by simp at hb ⊢;lia)
  rw[List.append_assoc,List.singleton_append] at ih;have h1:=hx x (.head _);exact zaB 40 [0,1,2] ["sink", "ids"] [.call (.ok Nn) (sk (b++[u8 x]))] rfl (h2 (zc0 X).mv ((zfL X (b:=b) h1.1 h1.2 (by simp at hb;lia)).up (n':=lv+1) (by lia))) (by kernel_rfl) ih
theorem zhH {l:List Int} (hl:Ids l) {b:Byt} (hb:b.length<1000):CallOK cx 2 (.fn "put_ids") [.r 0,.r 2] (sk b++[.tl .int l]) (.ok Nn) (sk (b++idB l)++[.tl .int l]):=by
 have h:=put_loop X hl (lv:=0) l (b++[u8 (lenI l)]) hl.small (by have:=hl.few;simp;lia)
 rw[List.append_assoc,List.singleton_append] at h;have q:=hl.few
 exact cb (zfP X) 1 60 [0,1,2] [.call (.ok Nn) (sk (b++[u8 (lenI l)])),.loop .next [("sink",.r 0),("ids",.r 2)] (sk (b++idB l)++[.tl .int l])]
  (h3 (zc0 X).mv (zfL X (b:=b) (n:=lenI l) (by unfold lenI;lia) (by unfold lenI;lia) (by lia))
   (show LP cx (za2 41) 1 0 3 (getT (zbM (za2 41)) 1) (.r 2) (l.map .int) [("sink",.r 0),("ids",.r 2)] (sk (b++[u8 (lenI l)])++[.tl .int l]) .next [("sink",.r 0),("ids",.r 2)] (sk (b++idB l)++[.tl .int l]) from lp 3 (Nat.le_refl _) (λi e=>by injection e;decide) rfl trivial h)) (by kernel_rfl)
theorem take_loop{D:Byt}{lv:Nat}{it:AV}{all:List DV}(hit:∀os,zaM os it=some all):∀(r:List Int) (xs:List DV) (p:List Int) (a:Nat) (tl:Byt),D.drop a=r.map u8++tl->xs.length=r.length->Ord (p++r)->(∀x∈r,0<=x/\x<128)->p.length+r.length<1000 ->
  LR cx (za2 42) (lv+1) 0 1 (getT (zbM (za2 42)) 1) it all xs [("cursor",.r 0),("out",.r 1)] [cu D a,.tl .int p] .next [("cursor",.r 0),("out",.r 1)] [cu D (a+r.length),.tl .int (p++r)]
 |[],[],p,a,tl,_,_,_,_,_=>by
  rw[List.append_nil];exact .done (κ:=[0,1]) (ns:=["cursor", "out"]) (hit _) (by kernel_rfl)
 |x::r,z::xs,p,a,tl,hD,hxs,ho,hx,hn=>by
  have e1:=hx x (.head _);have e2:((u8 x).toNat:Int)=x:=zfF e1.1 (by lia)
  have hD:D.drop a=u8 x::(r.map u8++tl):=hD;have ih:=take_loop (lv:=lv) hit r xs (p++[x]) (a+1) tl (rd hD).2.2 (Nat.succ.inj hxs) (by rw[List.append_assoc];exact ho) (λy hy=>hx y (.tail _ hy)) (by simp at hn ⊢;lia)
  rw[List.append_assoc,List.singleton_append,show a+1+r.length=a+(x::r).length by simp;lia] at ih
  have cv:CallOK cx (lv+1) (.mt "Cursor" "varint") [.r 0] [cu D a] (.ok (I x)) [cu D (a+1)]:=by
   have:=zdX X hD (by lia)
   rw[e2] at this;exact this.up (by lia)
  have hp:p.length<1000000:=by simp at hn;lia
  by_cases hn:p=[]
  ·subst hn
   exact zaB 40 [0,1] ["cursor", "out"] [.call (.ok (I x)) [cu D (a+1)],.b false] (hit _) (h4 (za5 X).mv cv (show (!([]:List Int).isEmpty)=false from rfl) (show ([]:List Int).length<1000000 by decide)) (by kernel_rfl) ih
  ·obtain ⟨q,y,rfl⟩:=zgK hn
   have hlt:y<x:=(List.pairwise_append.mp ho).2.2 y (by simp) x (by simp)
   have e3:(!(q++[y]).isEmpty)=true:=by cases q <;> rfl
   have e4:leI x ((q++[y]).getD (atI (q++[y]).length (-1)) 0)=false:=by rw[last_at];exact nlei hlt
   exact zaB 40 [0,1] ["cursor", "out"] [.call (.ok (I x)) [cu D (a+1)],.b true,.b false] (hit _) (h6 (za5 X).mv cv e3 (idx_last (p:=q) (y:=y)) e4 hp) (by kernel_rfl) ih
theorem zg0 {l:List Int} (hl:Ids l) {D r:Byt} {a:Nat} (h:D.drop a=idB l++r):CallOK cx 3 (.fn "take_ids") [.r 0] [cu D a] (.ok (.r 1)) [cu D (a+1+l.length),.tl .int l]:=by
 have q:=hl.few;have e1:((u8 (lenI l)).toNat:Int)=lenI l:=zfF (by unfold lenI;lia) (by unfold lenI;lia)
 have h':D.drop a=u8 (lenI l)::(l.map u8++r):=h
 have ct:CallOK cx 2 (.fn "take_count") [.r 0] [cu D a] (.ok (I (lenI l))) [cu D (a+1)]:=by
  have e0:lenI l=(l.length:Int):=rfl;have:=c_take_count X h' (by lia) (by rw[List.length_append,List.length_map];lia)
  rw[e1] at this;exact this
 have L:=take_loop X (D:=D) (lv:=1) (it:=.d (.rng 0 (lenI l) 1)) (all:=upTo 0 (lenI l)) (λ_=>rfl) l (upTo 0 (lenI l)) [] (a+1) r (rd h').2.2 (by unfold upTo lenI;simp) (by simpa using hl.ord) hl.small (by simp;lia)
 exact cb (zeL X) 1 60 [0,1] [.reo 1 (.tl .int []),.call (.ok (I (lenI l))) [cu D (a+1)],.loop .next [("cursor",.r 0),("out",.r 1)] [cu D (a+1+l.length),.tl .int l]]
  (h4 (show ∃l,(MObj.lst []).plain=some l/\(MObj.tl .int []).plain=some l from ⟨[],rfl,rfl⟩) (F_take_count X).kv ct
   (show LP cx (za2 42) 2 0 1 (getT (zbM (za2 42)) 1) (.d (.rng 0 (lenI l) 1)) (upTo 0 (lenI l)) [("cursor",.r 0),("out",.r 1)] [cu D (a+1),.tl .int []] .next [("cursor",.r 0),("out",.r 1)] [cu D (a+1+l.length),.tl .int l] from
    lp 1 (Nat.le_refl _) (λi e=>nomatch e) rfl ⟨by decide,by unfold lenI;lia⟩ L)) (by kernel_rfl)
theorem zhK {l:List Int} (hl:Ids l):CallOK cx 3 (.fn "encode_conf") [.r 0] (zb0 0 l) (.ok (Y (zaE l))) (zb0 0 l):=by
 have q:=hl.few;have len:(idB l).length<100:=by unfold idB;simp;lia
 have e:idB l++idB []++idB []++idB []++[flB false]=zaE l:=by unfold zaE;simp[idB,lenI,flB,u8]
 have key:CallOK cx 3 (.fn "encode_conf") [.r 0] (zb0 0 l) (.ok (Y (idB l++idB []++idB []++idB []++[flB false]))) (zb0 0 l):=
  cb (zf2 X) 0 60 [0,1,2,3,4] [.call (.ok (.r 0)) (sk []),.call (.ok Nn) (sk (idB l)++[.tl .int l]),.call (.ok Nn) (sk (idB l++idB [])++[.tl .int []]),.call (.ok Nn) (sk (idB l++idB []++idB [])++[.tl .int []]),.call (.ok Nn) (sk (idB l++idB []++idB []++idB [])++[.tl .int []]),.call (.ok Nn) (sk (idB l++idB []++idB []++idB []++[flB false])),.call (.ok (Y (idB l++idB []++idB []++idB []++[flB false]))) (sk (idB l++idB []++idB []++idB []++[flB false]))]
   (happ (h4 (N_Sink X).val (c_Sink X) (zfP X).kv (zhH X hl (b:=[]) (by decide))) (happ (h6 (zfP X).kv (zhH X .nil (b:=idB l) (by lia)) (zfP X).kv (zhH X .nil (b:=idB l++idB []) (by simp[idB];lia)) (zfP X).kv (zhH X .nil (b:=idB l++idB []++idB []) (by simp[idB];lia)))
    (h4 (zcV X).mv ((c_sflag X (b:=idB l++idB []++idB []++idB []) (z:=false) (by simp[idB];lia)).up (n':=2)) (zcW X).mv ((c_sdone X (b:=idB l++idB []++idB []++idB []++[flB false])).up (n':=2))))) (by kernel_rfl)
 rw[e] at key;exact key
theorem c_decode_conf {l:List Int} (hl:Ids l):CallOK cx 4 (.fn "decode_conf") [Y (zaE l)] [] (.ok (.r 0)) (zb0 0 l):=by
 have d0:(zaE l).drop 0=idB l++(idB []++[0,0,0]):=rfl;have d1:(zaE l).drop (0+1+l.length)=idB []++[0,0,0]:=by have:=zbR d0;rw[show 0+(idB l).length=0+1+l.length by unfold idB;simp;lia] at this;exact this
 have d2:(zaE l).drop (0+1+l.length+1)=idB []++[0,0]:=zbR (b:=[0]) d1;have d3:(zaE l).drop (0+1+l.length+1+1)=idB []++[0]:=zbR (b:=[0]) d2;have d4:(zaE l).drop (0+1+l.length+1+1+1)=flB false::[]:=zbR (b:=[0]) d3;have d5:(zaE l).drop (0+1+l.length+1+1+1+1)=[]:=zbR (b:=[0]) d4
 exact cb (zhT X) 0 60 [5,6,7,8,9] [.call (.ok (.r 0)) [cu (zaE l) 0],.call (.ok (.r 1)) [cu (zaE l) (0+1+l.length),.tl .int l],.call (.ok (.r 1)) [cu (zaE l) (0+1+l.length+1),.tl .int []],.call (.ok (.r 1)) [cu (zaE l) (0+1+l.length+1+1),.tl .int []],.call (.ok (.r 1)) [cu (zaE l) (0+1+l.length+1+1+1),.tl .int []],
   .call (.ok (Bo false)) [cu (zaE l) (0+1+l.length+1+1+1+1)],.call (.ok Nn) [cu (zaE l) (0+1+l.length+1+1+1+1)],.call (.ok (.r 4)) ([.tl .int l,.tl .int [],.tl .int [],.tl .int []]++zb0 4 l)]
  (happ (h6 (zdC X).val ((zhL X (D:=zaE l)).up (n':=3)) (zeL X).kv (zg0 X hl d0) (zeL X).kv (zg0 X .nil d1)) (happ (h4 (zeL X).kv (zg0 X .nil d2) (zeL X).kv (zg0 X .nil d3))
   (h6 (zbB X).mv ((c_flag X d4).up (n':=3)) (zb6 X).mv ((c_done X d5).up (n':=3)) (zbN X).val (c_ConfT X hl)))) (by kernel_rfl)
end
end
section
open PySem PySem.W PyProof.Rows
noncomputable def cmD (k c n:Int) (ke va:Byt) (e:Option Byt):MObj:=.inst "Command" [("kind",I k),("client",I c),("number",I n),("key",Y ke),("value",Y va),("expect",Ob e)]
noncomputable def mv:Option Byt->DV
 |none=>.none
 |some b=>.bytes b
theorem mv_same(e:Option Byt):plain (mv e)=plain (.ob e):=by cases e <;> rfl
noncomputable def mbB:Option Byt->Byt
 |none=>[0]
 |some b=>1::u8 (lenI b)::b
noncomputable def zbL(e:Option Byt):Prop:=∀b,e=some b->b.length<128
noncomputable def tokB:Bool->Byt
 |false=>[5]
 |true=>[130,130,128,128,128,128,128,128,1]
noncomputable def cmdB(k n:Int)(w:Bool)(ke va:Byt)(e:Option Byt):Byt:=u8 k::(tokB w++u8 n::u8 (lenI ke)::(ke++u8 (lenI va)::(va++mbB e)))
noncomputable def repB(c:Int)(e:Option Byt):Byt:=u8 c::mbB e
noncomputable def skey(w:Bool):Byt:=match w with
 |false=>[115,0,0,0,0,0,0,0,5]
 |true=>[115,1,0,0,0,0,0,1,2]
noncomputable def sesB(last:Int)(z:Bool)(r:Byt):Byt:=u8 last::flB z::u8 (lenI r)::r
theorem mbB_len(e:Option Byt)(h:zbL e):(mbB e).length<130:=by
 induction e with
 |none=>decide
 |some b=>have:=h b rfl;simp[mbB];lia
section
variable{cx:Cx}{P:PySem.Params}(X:On cx P)
include X
theorem zdO:Con cx "CMD_CLOSE" (.int 6):=⟨.int 6 976,by rw[X.eq];kernel_rfl,976,rfl⟩
theorem zbO:Con cx "REPLY_OK" (.int 0):=⟨.int 0 978,by rw[X.eq];kernel_rfl,978,rfl⟩
theorem zcG:Con cx "REPLY_UNKNOWN" (.int 2):=⟨.int 2 982,by rw[X.eq];kernel_rfl,982,rfl⟩
theorem zdD:Con cx "REPLY_STALE" (.int 3):=⟨.int 3 984,by rw[X.eq];kernel_rfl,984,rfl⟩
theorem zgV:Con cx "DATA_HEAD" (.bytes [100]):=⟨.bytes ⟨[100]⟩ 988,by rw[X.eq];kernel_rfl,by decide,988,rfl⟩
theorem zc3:Con cx "SESSION_HEAD" (.bytes [115]):=⟨.bytes ⟨[115]⟩ 992,by rw[X.eq];kernel_rfl,by decide,992,rfl⟩
theorem c_Command {k c n:Int} {ke va:Byt} {e:Option Byt}:CallOK cx 2 (.fn "Command") [I k,I c,I n,Y ke,Y va,Ob e] [] (.ok (.r 0)) [cmD k c n ke va e]:=
 cnew (N_Command X) (cb (ze6 X) 0 60 [0] [] (h6 (zb3 X 641 (c := "Command") (a := "kind") (by kernel_rfl) (by kernel_rfl)) (zb3 X 641 (c := "Command") (a := "client") (by kernel_rfl) (by kernel_rfl)) (zb3 X 641 (c := "Command") (a := "number") (by kernel_rfl) (by kernel_rfl)) (zb3 X 641 (c := "Command") (a := "key") (by kernel_rfl) (by kernel_rfl)) (zb3 X 641 (c := "Command") (a := "value") (by kernel_rfl) (by kernel_rfl)) (zb3 X 641 (c := "Command") (a := "expect") (by kernel_rfl) (by kernel_rfl))) (by kernel_rfl))
theorem c_put_maybe {e:Option Byt} {b:Byt} (hb:b.length<10000) (he:zbL e):CallOK cx 3 (.fn "put_maybe") [.r 0,Ob e] (sk b) (.ok Nn) (sk (b++mbB e)):=by
 induction e with
 |none=>exact cb (zeZ X) 0 60 [0,1] [.call (.ok Nn) (sk (b++[0])),.b false] (h3 (zcV X).mv ((c_sflag X (b:=b) (z:=false) (by lia)).up (n':=2)) (show false=false from rfl)) (by kernel_rfl)
 |some c=>
  have hc:=he c rfl
  have key:CallOK cx 3 (.fn "put_maybe") [.r 0,Ob (some c)] (sk b) (.ok Nn) (sk (b++[1]++[u8 (lenI c)]++c)):=
   cb (zeZ X) 0 60 [0,1] [.call (.ok Nn) (sk (b++[1])),.b true,.re "octets" (.bytes c),.call (.ok Nn) (sk (b++[1]++[u8 (lenI c)]++c))]
    (h6 (zcV X).mv ((c_sflag X (b:=b) (z:=true) (by lia)).up (n':=2)) (show true=true from rfl) (show plain (.ob (some c))=plain (.bytes c) from rfl) (zcM X).mv (zgR X (b:=b++[1]) hc (by simp;lia))) (by kernel_rfl)
  rw[show b++[1]++[u8 (lenI c)]++c=b++mbB (some c) by simp[mbB]] at key
  exact key
theorem zdY {e:Option Byt} {D r:Byt} {a:Nat} (h:D.drop a=mbB e++r) (he:zbL e):CallOK cx 4 (.fn "take_maybe") [.r 0] [cu D a] (.ok (.d (mv e))) [cu D (a+(mbB e).length)]:=by
 induction e with
 |none=>exact cb (zbA X) 0 60 [0] [.call (.ok (Bo false)) [cu D (a+1)],.b false] (h3 (zbB X).mv ((c_flag X (b:=false) h).up (n':=3)) (show false=false from rfl)) (by kernel_rfl)
 |some b=>
  have hb:=he b rfl;have hd:D.drop (a+1)=u8 (lenI b)::(b++r):=(rd h).2.2;have e1:(u8 (lenI b)).toNat=b.length:=by have:=zfF (x:=lenI b) (by unfold lenI;lia) (by unfold lenI;lia);have e0:lenI b=(b.length:Int):=rfl;lia
  have key:CallOK cx 4 (.fn "take_maybe") [.r 0] [cu D a] (.ok (Y b)) [cu D (a+1+1+b.length)]:=
   cb (zbA X) 0 60 [0] [.call (.ok (Bo true)) [cu D (a+1)],.b true,.call (.ok (Y b)) [cu D (a+1+1+b.length)]]
    (h5 (zbB X).mv ((c_flag X (b:=true) h).up (n':=3)) (show true=true from rfl) (za9 X).mv (zeH X hd e1 hb)) (by kernel_rfl)
  rw[show a+1+1+b.length=a+(mbB (some b)).length by simp[mbB];lia] at key
  exact key
theorem c_take_maybe_end {D:Byt} {a:Nat} (h:D.drop a=[]):CallOK cx 2 (.fn "take_maybe") [.r 0] [cu D a] (.exc "ShortOctets") [cu D a]:=
 cb (zbA X) 0 60 [0] [.call (.exc "ShortOctets") [cu D a]] (h2 (zbB X).mv (c_flag_end X h)) (by kernel_rfl)
theorem zf9 {n:Nat} {D r:Byt} {a:Nat} (h:D.drop a=1::r) (hb:CallOK cx n (.fn "read_lengthed") [Y D,I ((a+1:Nat))] [] (.exc "ShortOctets") []):CallOK cx (n+2) (.fn "take_maybe") [.r 0] [cu D a] (.exc "ShortOctets") [cu D (a+1)]:=
 cb (zbA X) 0 60 [0] [.call (.ok (Bo true)) [cu D (a+1)],.b true,.call (.exc "ShortOctets") [cu D (a+1)]]
  (h5 (zbB X).mv ((c_flag X (b:=true) h).up (n':=n+1) (by lia)) (show true=true from rfl) (za9 X).mv (c_lengthed_bad X hb)) (by kernel_rfl)
theorem c_varint_cli {D r:Byt} {a:Nat} {w:Bool} (h:D.drop a=tokB w++r):CallOK cx 3 (.mt "Cursor" "varint") [.r 0] [cu D a] (.ok (I (cliN w))) [cu D (a+(tokB w).length)]:=by
 induction w with
 |false=>exact (zdX X (c:=5) h (by decide)).up
 |true=>exact c_varint_tok X h
structure CmdAt(D:Byt)(k n:Int)(w:Bool)(ke va:Byt)(r:Byt):Prop where
 eq:D=u8 k::(tokB w++u8 n::u8 (lenI ke)::(ke++u8 (lenI va)::(va++r)))
 k0:0<=k
 k1:k<128
 n0:0<=n
 n1:n<128
 kl:ke.length<128
 vl:va.length<128
noncomputable def cA3(w:Bool):Nat:=1+(tokB w).length+1
noncomputable def cA5(w:Bool)(ke va:Byt):Nat:=cA3 w+1+ke.length+1+va.length
omit X in
theorem u8_len{b:Byt}(h:b.length<128):(u8 (lenI b)).toNat=b.length:=by have:=zfF (x:=lenI b) (by unfold lenI;lia) (by unfold lenI;lia);have e0:lenI b=(b.length:Int):=rfl;lia
omit X in
theorem zgZ{x:Int}(h0:0<=x)(h1:x<128):(u8 x).toNat<128:=by have:=zfF h0 (show x<256 by lia);lia
theorem zhG{D ke va r:Byt}{k n:Int}{w:Bool}(h:CmdAt D k n w ke va r):
  (CallOK cx 4 (.fn "Cursor") [Y D] [] (.ok (.r 0)) [cu D 0]/\CallOK cx 4 (.mt "Cursor" "varint") [.r 0] [cu D 0] (.ok (I k)) [cu D 1]/\CallOK cx 4 (.mt "Cursor" "varint") [.r 0] [cu D 1] (.ok (I (cliN w))) [cu D (1+(tokB w).length)] /\
   CallOK cx 4 (.mt "Cursor" "varint") [.r 0] [cu D (1+(tokB w).length)] (.ok (I n)) [cu D (cA3 w)]) /\
  (CallOK cx 4 (.mt "Cursor" "lengthed") [.r 0] [cu D (cA3 w)] (.ok (Y ke)) [cu D (cA3 w+1+ke.length)]/\CallOK cx 4 (.mt "Cursor" "lengthed") [.r 0] [cu D (cA3 w+1+ke.length)] (.ok (Y va)) [cu D (cA5 w ke va)])/\D.drop (cA5 w ke va)=r:=by
 have d0:D.drop 0=u8 k::(tokB w++u8 n::u8 (lenI ke)::(ke++u8 (lenI va)::(va++r))):=h.eq;have d1:=(rd d0).2.2;have d2:=zbR d1;have d3:=(rd d2).2.2;have d4:=(rd d3).2.2;have d5:=zbR d4;have d6:=(rd d5).2.2;have d7:=zbR d6;rw[Nat.zero_add] at d1 d2 d3 d4 d5 d6 d7;have e1:=zfF h.k0 (show k<256 by have:=h.k1;lia)
 have e2:=zfF h.n0 (show n<256 by have:=h.n1;lia)
 refine ⟨⟨(zhL X).up,?_,(c_varint_cli X d1).up,?_⟩,⟨(zeH X d3 (u8_len h.kl) h.kl).up,(zeH X d5 (u8_len h.vl) h.vl).up⟩,d7⟩
 ·have:=zdX X d0 (zgZ h.k0 h.k1)
  rw[e1] at this;exact this.up
 ·have:=zdX X d2 (zgZ h.n0 h.n1)
  rw[e2] at this;exact this.up
theorem c_decode{k n:Int}{w:Bool}{ke va:Byt}{e:Option Byt}(hk:0<=k/\k<=6)(hn:0<=n/\n<128)(hke:ke.length<128)(hva:va.length<128)(he:zbL e):
  CallOK cx 5 (.fn "decode_command") [Y (cmdB k n w ke va e)] [] (.ok (.r 0)) [cmD k (cliN w) n ke va e]:=by
 obtain ⟨⟨q1,q2,q3,q4⟩,⟨q5,q6⟩,d⟩:=zhG X (D:=cmdB k n w ke va e) ⟨rfl,hk.1,by lia,hn.1,hn.2,hke,hva⟩
 have d':(cmdB k n w ke va e).drop (cA5 w ke va)=mbB e++[]:=by rw[List.append_nil];exact d
 have dz:=zbR d'
 exact cb (zb8 X) 0 60 [1] [.call (.ok (.r 0)) [cu (cmdB k n w ke va e) 0],.call (.ok (I k)) [cu (cmdB k n w ke va e) 1],.call (.ok (I (cliN w))) [cu (cmdB k n w ke va e) (1+(tokB w).length)],.call (.ok (I n)) [cu (cmdB k n w ke va e) (cA3 w)],.call (.ok (Y ke)) [cu (cmdB k n w ke va e) (cA3 w+1+ke.length)],.call (.ok (Y va)) [cu (cmdB k n w ke va e) (cA5 w ke va)],
   .call (.ok (.d (mv e))) [cu (cmdB k n w ke va e) (cA5 w ke va+(mbB e).length)],.re "expect" (.ob e),.call (.ok Nn) [cu (cmdB k n w ke va e) (cA5 w ke va+(mbB e).length)],.con (.int 6),.b false,.call (.ok (.r 0)) [cmD k (cliN w) n ke va e]]
  (happ (h6 (zdC X).val q1 (za5 X).mv q2 (za5 X).mv q3) (happ (h6 (za5 X).mv q4 (za9 X).mv q5 (za9 X).mv q6) (happ (h3 (zbA X).kv (zdY X d' he) (mv_same e))
   (h6 (zb6 X).mv ((c_done X dz).up (n':=4)) (kc (za2 64) (zdO X)) (nlti (show k<=6 by lia)) (N_Command X).val ((c_Command X (k:=k) (c:=cliN w) (n:=n) (ke:=ke) (va:=va) (e:=e)).up (n':=4)))))) (by kernel_rfl)
theorem c_decode_kind{k n:Int}{w:Bool}{ke va:Byt}{e:Option Byt}(hk:6<k/\k<128)(hn:0<=n/\n<128)(hke:ke.length<128)(hva:va.length<128)(he:zbL e):
  CallOK cx 5 (.fn "decode_command") [Y (cmdB k n w ke va e)] [] (.exc "BadCommand") []:=by
 obtain ⟨⟨q1,q2,q3,q4⟩,⟨q5,q6⟩,d⟩:=zhG X (D:=cmdB k n w ke va e) ⟨rfl,by lia,by lia,hn.1,hn.2,hke,hva⟩
 have d':(cmdB k n w ke va e).drop (cA5 w ke va)=mbB e++[]:=by rw[List.append_nil];exact d
 have dz:=zbR d'
 exact cb (zb8 X) 0 60 [] [.call (.ok (.r 0)) [cu (cmdB k n w ke va e) 0],.call (.ok (I k)) [cu (cmdB k n w ke va e) 1],.call (.ok (I (cliN w))) [cu (cmdB k n w ke va e) (1+(tokB w).length)],.call (.ok (I n)) [cu (cmdB k n w ke va e) (cA3 w)],.call (.ok (Y ke)) [cu (cmdB k n w ke va e) (cA3 w+1+ke.length)],.call (.ok (Y va)) [cu (cmdB k n w ke va e) (cA5 w ke va)],
   .call (.ok (.d (mv e))) [cu (cmdB k n w ke va e) (cA5 w ke va+(mbB e).length)],.call (.ok Nn) [cu (cmdB k n w ke va e) (cA5 w ke va+(mbB e).length)],.con (.int 6),.b true]
  (happ (h6 (zdC X).val q1 (za5 X).mv q2 (za5 X).mv q3) (happ (h6 (za5 X).mv q4 (za9 X).mv q5 (za9 X).mv q6) (happ (h2 (zbA X).kv (zdY X d' he))
   (h5 (zb6 X).mv ((c_done X dz).up (n':=4)) (kc (za2 64) (zdO X)) (lti (show 6<k by lia)) (show 0<=k/\k<10 ^ 10 by lia))))) (by kernel_rfl)
theorem c_decode_more{k n:Int}{w:Bool}{ke va:Byt}{e:Option Byt}{z:UInt8}(hk:0<=k/\k<128)(hn:0<=n/\n<128)(hke:ke.length<128)(hva:va.length<128)(he:zbL e):
  CallOK cx 5 (.fn "decode_command") [Y (cmdB k n w ke va e++[z])] [] (.exc "BadCommand") []:=by
 have hD:cmdB k n w ke va e++[z]=u8 k::(tokB w++u8 n::u8 (lenI ke)::(ke++u8 (lenI va)::(va++(mbB e++[z])))):=by unfold cmdB;simp
 obtain ⟨⟨q1,q2,q3,q4⟩,⟨q5,q6⟩,d⟩:=zhG X (D:=cmdB k n w ke va e++[z]) ⟨hD,hk.1,hk.2,hn.1,hn.2,hke,hva⟩;have dz:=zbR d
 have hl:(cmdB k n w ke va e++[z]).length<1000000:=by
  rw[hD];have:=mbB_len e he;have:(tokB w).length<=9:=by cases w <;> decide
  simp
  lia
 generalize cmdB k n w ke va e++[z]=D at *
 exact cb (zb8 X) 0 60 [] [.call (.ok (.r 0)) [cu D 0],.call (.ok (I k)) [cu D 1],.call (.ok (I (cliN w))) [cu D (1+(tokB w).length)],.call (.ok (I n)) [cu D (cA3 w)],.call (.ok (Y ke)) [cu D (cA3 w+1+ke.length)],.call (.ok (Y va)) [cu D (cA5 w ke va)],
   .call (.ok (.d (mv e))) [cu D (cA5 w ke va+(mbB e).length)],.call (.exc "Corrupt") [cu D (cA5 w ke va+(mbB e).length)]]
  (happ (h6 (zdC X).val q1 (za5 X).mv q2 (za5 X).mv q3) (happ (h6 (za5 X).mv q4 (za9 X).mv q5 (za9 X).mv q6) (h4 (zbA X).kv (zdY X d he) (zb6 X).mv ((c_done_bad X dz hl).up (n':=4))))) (by kernel_rfl)
theorem c_decode_less{k n:Int}{w:Bool}{ke va:Byt}{e:Option Byt}(hk:0<=k/\k<128)(hn:0<=n/\n<128)(hke:ke.length<128)(hva:va.length<128)(he:zbL e):
  CallOK cx 6 (.fn "decode_command") [Y (cmdB k n w ke va e).dropLast] [] (.exc "BadCommand") []:=by
 have hD:(cmdB k n w ke va e).dropLast=u8 k::(tokB w++u8 n::u8 (lenI ke)::(ke++u8 (lenI va)::(va++(mbB e).dropLast))):=by
  have hne:mbB e≠[]:=by cases e <;> simp[mbB]
  have s1:cmdB k n w ke va e=(u8 k::(tokB w++u8 n::u8 (lenI ke)::(ke++u8 (lenI va)::va)))++mbB e:=by unfold cmdB;simp
  rw[s1,List.dropLast_append_of_ne_nil hne];simp
 obtain ⟨⟨q1,q2,q3,q4⟩,⟨q5,q6⟩,d⟩:=zhG X (D:=(cmdB k n w ke va e).dropLast) ⟨hD,hk.1,hk.2,hn.1,hn.2,hke,hva⟩
 obtain ⟨a,ht⟩:∃a,CallOK cx 5 (.fn "take_maybe") [.r 0] [cu (cmdB k n w ke va e).dropLast (cA5 w ke va)] (.exc "ShortOctets") [cu (cmdB k n w ke va e).dropLast a]:=by
  induction e with
  |none=>exact ⟨_,(c_take_maybe_end X d).up⟩
  |some b=>
   have hb:=he b rfl;by_cases hn:b=[]
   ·subst hn
    exact ⟨_,zf9 X (r:=[]) d (zgT X (rd d).2.2)⟩
   ·have d2:((cmdB k n w ke va (some b)).dropLast).drop (cA5 w ke va)=1::u8 (lenI b)::b.dropLast:=by
     rw[d];obtain ⟨q,y,rfl⟩:=zgK hn;show ((1::u8 (lenI (q++[y]))::q)++[y]).dropLast=_
     rw[List.dropLast_concat,List.dropLast_concat]
    exact ⟨_,(zf9 X d2 (zfO X (rd d2).2.2 (by rw[u8_len hb];exact hb) (by rw[u8_len hb,List.length_dropLast];have:=List.length_pos_iff.mpr hn;lia))).up⟩
 generalize (cmdB k n w ke va e).dropLast=D at *
 exact cb (zb8 X) 0 60 [] [.call (.ok (.r 0)) [cu D 0],.call (.ok (I k)) [cu D 1],.call (.ok (I (cliN w))) [cu D (1+(tokB w).length)],.call (.ok (I n)) [cu D (cA3 w)],.call (.ok (Y ke)) [cu D (cA3 w+1+ke.length)],.call (.ok (Y va)) [cu D (cA5 w ke va)],.call (.exc "ShortOctets") [cu D a]]
  (happ (h6 (zdC X).val (q1.up (n':=5)) (za5 X).mv (q2.up (n':=5)) (za5 X).mv (q3.up (n':=5))) (happ (h6 (za5 X).mv (q4.up (n':=5)) (za9 X).mv (q5.up (n':=5)) (za9 X).mv (q6.up (n':=5))) (h2 (zbA X).kv ht))) (by kernel_rfl)
end
end
section
open PySem PySem.W PyProof.Rows
section
variable{cx:Cx}{P:PySem.Params}(X:On cx P)
include X
theorem zbU {k:Int} {e:Option Byt} (hk:0<=k/\k<=3) (he:zbL e):CallOK cx 4 (.fn "make_reply") [I k,Ob e] [] (.ok (Y (repB k e))) []:=
 cb (zaV X) 0 60 [] [.call (.ok (.r 0)) (sk []),.call (.ok Nn) (sk [u8 k]),.call (.ok Nn) (sk (repB k e)),.call (.ok (Y (repB k e))) (sk (repB k e))]
  (happ (h4 (N_Sink X).val ((c_Sink X).up (n':=3)) (zfQ X).mv ((c_soctet X (b:=[]) (n:=k) hk.1 (by lia) (by decide)).up (n':=3))) (h4 (zeZ X).kv (c_put_maybe X (b:=[u8 k]) (by simp) he) (zcW X).mv ((c_sdone X (b:=repB k e)).up (n':=3)))) (by kernel_rfl)
theorem zeY {k:Int} (hk:0<=k/\k<=3):CallOK cx 4 (.fn "make_reply") [I k,Nn] [] (.ok (Y (repB k none))) []:=
 cb (zaV X) 0 60 [] [.re "old" (.ob none),.call (.ok (.r 0)) (sk []),.call (.ok Nn) (sk [u8 k]),.call (.ok Nn) (sk (repB k none)),.call (.ok (Y (repB k none))) (sk (repB k none))]
  (happ (h5 (show plain .none=plain (.ob none) from rfl) (N_Sink X).val ((c_Sink X).up (n':=3)) (zfQ X).mv ((c_soctet X (b:=[]) (n:=k) hk.1 (by lia) (by decide)).up (n':=3))) (h4 (zeZ X).kv (c_put_maybe X (b:=[u8 k]) (e:=none) (by simp) (λ_ h=>nomatch h)) (zcW X).mv ((c_sdone X (b:=repB k none)).up (n':=3)))) (by kernel_rfl)
theorem zfN {k:Int} {e:Option Byt} (hk:0<=k/\k<=3) (he:zbL e):CallOK cx 5 (.fn "read_reply") [Y (repB k e)] [] (.ok (.d (.tup [.int k,.ob e]))) []:=by
 have d0:(repB k e).drop 0=u8 k::(mbB e++[]):=by rw[List.append_nil];rfl
 have d1:=(rd d0).2.2;have d2:=zbR d1;have e1:=zfF hk.1 (show k<256 by lia)
 have q2:=c_octet X d0;rw[e1] at q2
 exact cb (ze2 X) 0 60 [] [.call (.ok (.r 0)) [cu (repB k e) 0],.call (.ok (I k)) [cu (repB k e) (0+1)],.con (.int 3),.b false,.call (.ok (.d (mv e))) [cu (repB k e) (0+1+(mbB e).length)],.re "old" (.ob e),.call (.ok Nn) [cu (repB k e) (0+1+(mbB e).length)]]
  (happ (h6 (zdC X).val ((zhL X (D:=repB k e)).up (n':=4)) (zgG X).mv (q2.up (n':=4)) (kc (za2 66) (zdD X)) (nlti hk.2)) (h5 (zbA X).kv (zdY X d1 he) (mv_same e) (zb6 X).mv ((c_done X d2).up (n':=4)))) (by kernel_rfl)
theorem c_demand {k:Int} {e:Option Byt} (hk:0<=k/\k<=1) (he:zbL e):CallOK cx 6 (.fn "demand") [Y (repB k e)] [] (.ok (.d (.tup [.bool (eqI k 0),.ob e]))) []:=
 cb (zg3 X) 0 60 [] [.call (.ok (.d (.tup [.int k,.ob e]))) [],.con (.int 2),.b false,.con (.int 3),.b false,.con (.int 0)]
  (h7 (ze2 X).kv (zfN X ⟨hk.1,by lia⟩ he) (kc (za2 67) (zcG X)) (show eqI k 2=false from decide_eq_false (by lia)) (kc (za2 67) (zdD X)) (show eqI k 3=false from decide_eq_false (by lia)) (kc (za2 67) (zbO X))) (by kernel_rfl)
theorem c_demand2 {e:Option Byt} (he:zbL e):CallOK cx 6 (.fn "demand") [Y (repB 2 e)] [] (.exc "SessionUnknown") []:=
 cb (zg3 X) 0 60 [] [.call (.ok (.d (.tup [.int 2,.ob e]))) [],.con (.int 2),.b true]
  (h4 (ze2 X).kv (zfN X (k:=2) (by decide) he) (kc (za2 67) (zcG X)) (show eqI 2 2=true from rfl)) (by kernel_rfl)
theorem c_demand3 {e:Option Byt} (he:zbL e):CallOK cx 6 (.fn "demand") [Y (repB 3 e)] [] (.exc "SessionStale") []:=
 cb (zg3 X) 0 60 [] [.call (.ok (.d (.tup [.int 3,.ob e]))) [],.con (.int 2),.b false,.con (.int 3),.b true]
  (h6 (ze2 X).kv (zfN X (k:=3) (by decide) he) (kc (za2 67) (zcG X)) (show eqI 3 2=false from rfl) (kc (za2 67) (zdD X)) (show eqI 3 3=true from rfl)) (by kernel_rfl)
theorem c_data_key {k:Byt} (hk:k.length<1000):CallOK cx 1 (.fn "data_key") [Y k] [] (.ok (Y (100::k))) []:=
 cb (F_data_key X) 0 60 [] [.con (.bytes [100])] (h2 (kc (za2 68) (zgV X)) (show ([100]:Byt).length+k.length<=1000000 by simp;lia)) (by kernel_rfl)
theorem zeX (w:Bool):CallOK cx 3 (.fn "session_key") [I (cliN w)] [] (.ok (Y (skey w))) []:=by
 have ix:∀i:Nat,i<8->(0:Int)<=(i:Int)/\(i:Int)<(8:Nat):=λi hi=>by lia
 have bo:∀c:UInt8,zc1 (c.toNat:Int):=λc=>⟨by lia,by have:=UInt8.toNat_lt c;lia⟩
 have h:=c_put_fixed64_cli X w;induction w with
 |false=>
  exact cb (zcJ X) 0 60 [] [.call (.ok (Y (cliB false))) [],.con (.bytes [115])] (happ (h3 (zf0 X).kv h (kc (za2 69) (zc3 X))) (zeE (ix 7 (by decide)) (happ (h7 (ix 6 (by decide)) (ix 5 (by decide)) (ix 4 (by decide)) (ix 3 (by decide)) (ix 2 (by decide)) (ix 1 (by decide)) (ix 0 (by decide)))
   (happ (h7 (bo 0) (bo 0) (bo 0) (bo 0) (bo 0) (bo 0) (bo 0)) (h2 (bo 5) (show ([115]:Byt).length+8<=1000000 by decide)))))) (by kernel_rfl)
 |true=>
  exact cb (zcJ X) 0 60 [] [.call (.ok (Y (cliB true))) [],.con (.bytes [115])] (happ (h3 (zf0 X).kv h (kc (za2 69) (zc3 X))) (zeE (ix 7 (by decide)) (happ (h7 (ix 6 (by decide)) (ix 5 (by decide)) (ix 4 (by decide)) (ix 3 (by decide)) (ix 2 (by decide)) (ix 1 (by decide)) (ix 0 (by decide)))
   (happ (h7 (bo 1) (bo 0) (bo 0) (bo 0) (bo 0) (bo 0) (bo 1)) (h2 (bo 2) (show ([115]:Byt).length+8<=1000000 by decide)))))) (by kernel_rfl)
noncomputable def clS:Option Stmt:=getT (zbM (za2 70)) 1
omit X in
theorem zc2{lv:Nat}{it:AV}{all xs:List DV}{K:Byt}{c x:Int}{e:Env'}(hit:zaM [] it=some all)(hc:c.natAbs<2 ^ 64)
  (L:LR cx (za2 70) lv 0 0 clS it all xs [("key",Y K),("client",I (Builtin.bitOr (c*2 ^ 8) x))] [] .next e []):LR cx (za2 70) lv 0 0 clS it all (.int x::xs) [("key",Y K),("client",I c)] [] .next e []:=
 zaB 40 [] ["key", "client"] [] hit (h1 (show (0:Int)<=8/\(8:Int)<=1000/\c.natAbs<2 ^ 64 from ⟨by decide,by decide,hc⟩)) (by kernel_rfl) L
theorem c_client_of (w:Bool):CallOK cx 1 (.fn "client_of") [Y (skey w)] [] (.ok (I (cliN w))) []:=by
 induction w with
 |false=>
  have hit:zaM [] (Y [0,0,0,0,0,0,0,5])=some [.int 0,.int 0,.int 0,.int 0,.int 0,.int 0,.int 0,.int 5]:=by kernel_rfl
  exact cb (zgW X) 1 60 [] [.con (.bytes [115]),.loop .next [("key",Y (skey false)),("client",I 5)] []]
   (h2 (kc (za2 70) (zc3 X)) (show LP cx (za2 70) 0 0 0 clS (Y [0,0,0,0,0,0,0,5]) [.int 0,.int 0,.int 0,.int 0,.int 0,.int 0,.int 0,.int 5] [("key",Y (skey false)),("client",I 0)] [] .next [("key",Y (skey false)),("client",I 5)] [] from
    lp 0 (Nat.le_refl _) (λ_ e=>nomatch e) rfl trivial (zc2 hit (by decide) (zc2 hit (by decide +kernel) (zc2 hit (by decide +kernel) (zc2 hit (by decide +kernel) (zc2 hit (by decide +kernel) (zc2 hit (by decide +kernel) (zc2 hit (by decide +kernel) (zc2 hit (by decide +kernel) (.done (κ:=[]) (ns:=["key", "client"]) hit (by kernel_rfl)))))))))))) (by kernel_rfl)
 |true=>
  have hit:zaM [] (Y [1,0,0,0,0,0,1,2])=some [.int 1,.int 0,.int 0,.int 0,.int 0,.int 0,.int 1,.int 2]:=by kernel_rfl
  exact cb (zgW X) 1 60 [] [.con (.bytes [115]),.loop .next [("key",Y (skey true)),("client",I 72057594037928194)] []]
   (h2 (kc (za2 70) (zc3 X)) (show LP cx (za2 70) 0 0 0 clS (Y [1,0,0,0,0,0,1,2]) [.int 1,.int 0,.int 0,.int 0,.int 0,.int 0,.int 1,.int 2] [("key",Y (skey true)),("client",I 0)] [] .next [("key",Y (skey true)),("client",I 72057594037928194)] [] from
    lp 0 (Nat.le_refl _) (λ_ e=>nomatch e) rfl trivial (zc2 hit (by decide) (zc2 hit (by decide +kernel) (zc2 hit (by decide +kernel) (zc2 hit (by decide +kernel) (zc2 hit (by decide +kernel) (zc2 hit (by decide +kernel) (zc2 hit (by decide +kernel) (zc2 hit (by decide +kernel) (.done (κ:=[]) (ns:=["key", "client"]) hit (by kernel_rfl)))))))))))) (by kernel_rfl)
theorem c_encode_session {n:Int} {z:Bool} {r:Byt} (hn:0<=n/\n<128) (hr:r.length<128):CallOK cx 3 (.fn "encode_session") [I n,Bo z,Y r] [] (.ok (Y (sesB n z r))) []:=
 cb (zfC X) 0 60 [] [.call (.ok (.r 0)) (sk []),.call (.ok Nn) (sk [u8 n]),.call (.ok Nn) (sk [u8 n,flB z]),.call (.ok Nn) (sk (sesB n z r)),.call (.ok (Y (sesB n z r))) (sk (sesB n z r))]
  (happ (h6 (N_Sink X).val (c_Sink X) (zc0 X).mv ((zfL X (b:=[]) hn.1 hn.2 (by decide)).up (n':=2)) (zcV X).mv ((c_sflag X (b:=[u8 n]) (z:=z) (by simp)).up (n':=2))) (h4 (zcM X).mv (zgR X (b:=[u8 n,flB z]) hr (by simp)) (zcW X).mv ((c_sdone X (b:=sesB n z r)).up (n':=2)))) (by kernel_rfl)
theorem zfA {n:Int} {z:Bool} {r:Byt} (hn:0<=n/\n<128) (hr:r.length<128):CallOK cx 4 (.fn "decode_session") [Y (sesB n z r)] [] (.ok (.d (.tup [.int n,.bool z,.bytes r]))) []:=by
 have d0:(sesB n z r).drop 0=u8 n::(flB z::u8 (lenI r)::(r++[])):=by rw[List.append_nil];rfl
 have d1:=(rd d0).2.2;have d2:=(rd d1).2.2;have d3:=zbR (rd d2).2.2;have q:=zdX X d0 (zgZ hn.1 hn.2);rw[zfF hn.1 (by lia)] at q
 exact cb (zd7 X) 0 60 [] [.call (.ok (.r 0)) [cu (sesB n z r) 0],.call (.ok (I n)) [cu (sesB n z r) (0+1)],.call (.ok (Bo z)) [cu (sesB n z r) (0+1+1)],.call (.ok (Y r)) [cu (sesB n z r) (0+1+1+1+r.length)],.call (.ok Nn) [cu (sesB n z r) (0+1+1+1+r.length)]]
  (happ (h6 (zdC X).val ((zhL X (D:=sesB n z r)).up (n':=3)) (za5 X).mv (q.up (n':=3)) (zbB X).mv ((c_flag X d1).up (n':=3))) (h4 (za9 X).mv (zeH X d2 (u8_len hr) hr) (zb6 X).mv ((c_done X d3).up (n':=3)))) (by kernel_rfl)
end
end
section
open PySem PySem.W PyProof.Rows
noncomputable def confD (l:List Int):DV:=.obj "ConfState" [("voters",.tl .int l),("learners",.tl .int []),("outgoing",.tl .int []),("learners_next",.tl .int []),("auto_leave",.bool false)]
inductive Frz(K:Frag)(G:Addr->Obj->Prop)(ρ:List Addr)(G':Addr->Obj->Prop):List (Str×AV)->List (Str×PV)->Prop
 |nil:Frz K G ρ G' [] []
 |cons {n:Str} {a:AV} {x:PV} {r:List (Str×AV)} {s:List (Str×PV)} (h:∀w,VA K G ρ a w->VP K G' x w) (t:Frz K G ρ G' r s):Frz K G ρ G' ((n,a)::r) ((n,x)::s)
theorem Frz.fp{K:Frag}{G G':Addr->Obj->Prop}{ρ:List Addr}{C:Addr}{fs:List (Str×AV)}{ps:List (Str×PV)}(x:Frz K G ρ G' fs ps):∀{es:List DictEntry},FA K G ρ C fs es->FP K G' C ps es:=by
 induction x with
 |nil=>exact λh=>h
 |cons h t ih=>
  intro es hf;obtain ⟨e,er,u,rfl,k1,v1,o1,hf⟩:=hf;exact ⟨e,er,u,rfl,k1,h _ v1,o1,ih hf⟩
theorem frz_list{K:Frag}{G G':Addr->Obj->Prop}{ρ:List Addr}{i:Nat}{d:Addr}{ps:List PV}{vs:List Value}{n:Nat}(hr:ρ[i]?=some d)(hx:ps.length<=big)(hz:G' d (listOf vs.toArray n))(hv:VPs K G ps vs)(up:∀a o,G a o->G' a o)(w:Value)(hw:VA K G ρ (.r i) w):VP K G' (.lst ps) w:=by
 obtain ⟨b,hb,rfl⟩:=hw;cases hr.symm.trans hb
 exact ⟨d,_,vs,rfl,hz,⟨rfl,n,rfl⟩,hx,VPs.mono up hv⟩
theorem freeze_conf{cx:Cx}{n:Nat}{key:Key}{avs:List AV}{l:List Int}(h:CallOK cx n key avs [] (.ok (.r 0)) (zb0 0 l)):CallOK cx n key avs [] (.ok (.d (confD l))) []:=by
 intro fv hk f hf hl A hA g m news Z ρ μ hh tk vs Q E B ab F N R lv hv hok hexc;cases List.length_eq_zero_iff.mp R.lr
 cases List.length_eq_zero_iff.mp R.lm
 refine h fv hk f hf hl A hA g m news Z [] [] hh tk vs Q E B ab F N R lv hv ?_ (λ_ _ _ _ _ _ _ _ _ _ ec=>nomatch ec)
 intro v h' tk' g' news' Z' ρ' μ' a ea T' B' F' N' R' K' hva;cases ea
 obtain ⟨a0,e0,rfl⟩:∃a,ρ'[0]?=some a/\v=.ref a:=hva;obtain ⟨b0,d0,q1,q2,C,es,k,hC,hG,hm,hfa⟩:=R'.ob 0 _ rfl;cases e0.symm.trans q1
 obtain ⟨d1,_,r1,m1,rfl,s1,vs1,n1,t1,w1⟩:=R'.ob 1 (.tl .int l) rfl;obtain ⟨d2,_,r2,m2,rfl,s2,vs2,n2,t2,w2⟩:=R'.ob 2 (.tl .int []) rfl;obtain ⟨d3,_,r3,m3,rfl,s3,vs3,n3,t3,w3⟩:=R'.ob 3 (.tl .int []) rfl;obtain ⟨d4,_,r4,m4,rfl,s4,vs4,n4,t4,w4⟩:=R'.ob 4 (.tl .int []) rfl;have hnew:∀{i:Nat} {d:Addr},μ'[i]?=some d->d∉news.map (·.1):=λhd=>(K'.mnew _ (List.mem_of_getElem? hd)).resolve_left λq=>nomatch q
 obtain ⟨ZZ,z⟩:∃ZZ:Led,∀p,p∈ZZ↔p=(d0,dictOf es k)\/p=(d1,listOf vs1.toArray n1)\/p=(d2,listOf vs2.toArray n2)\/p=(d3,listOf vs3.toArray n3)\/p=(d4,listOf vs4.toArray n4)\/p∈Z':=
  ⟨(d0,dictOf es k)::(d1,listOf vs1.toArray n1)::(d2,listOf vs2.toArray n2)::(d3,listOf vs3.toArray n3)::(d4,listOf vs4.toArray n4)::Z',λp=>by simp only[List.mem_cons]⟩
 have z0:=(z _).mpr (.inl rfl);have z1:=(z _).mpr (.inr (.inl rfl));have z2:=(z _).mpr (.inr (.inr (.inl rfl)));have z3:=(z _).mpr (.inr (.inr (.inr (.inl rfl))));have z4:=(z _).mpr (.inr (.inr (.inr (.inr (.inl rfl)))));have sub:∀p∈Z',p∈ZZ:=λp hp=>(z p).mpr (.inr (.inr (.inr (.inr (.inr hp)))))
 have inv:∀p∈ZZ,p∈news'/\(p.1∉news.map (·.1)\/p∈Z'):=λp hp=>by
  rcases (z p).mp hp with rfl|rfl|rfl|rfl|rfl|hp
  ·exact ⟨hm,.inl (hnew q2)⟩
  ·exact ⟨t1,.inl (hnew m1)⟩
  ·exact ⟨t2,.inl (hnew m2)⟩
  ·exact ⟨t3,.inl (hnew m3)⟩
  ·exact ⟨t4,.inl (hnew m4)⟩
  ·exact ⟨R'.zin p hp,.inr hp⟩
 clear z;have mono:∀b x,Fz f.cx.base Z' b x->Fz f.cx.base ZZ b x:=λb x q=>q.mono sub
 refine hok (.ref a0) h' tk' g' news' ZZ [] [] _ rfl T' B' F' N' ?_ ?_ ?_
 ·exact ⟨R'.nd,λp hp=>(inv p hp).1,λ_ _ q=>(nomatch q),λ_ _ q=>(nomatch q),λ_ q=>(nomatch q),List.nodup_nil,rfl,rfl,λi o e=>nomatch e⟩
 ·exact ⟨K'.old,λp hp=>sub p (K'.zold p hp),λp hp=>(inv p hp).2.elim .inr (K'.znew p),List.prefix_refl _,List.prefix_refl _,λ_ q=>(nomatch q)⟩
 ·exact ⟨a0,C,d0,es,k,rfl,hC,mono _ _ hG,.inl z0,Frz.fp (.cons (frz_list (ps:=l.map PV.int) r1 (by rw[List.length_map];exact s1) (.inl z1) w1 mono) <| .cons (frz_list (ps:=[]) r2 s2 (.inl z2) w2 mono) <| .cons (frz_list (ps:=[]) r3 s3 (.inl z3) w3 mono) <| .cons (frz_list (ps:=[]) r4 s4 (.inl z4) w4 mono) <| .cons (a:=.d (.bool false)) (x:=.bool false) (λw hw=>hw) .nil) hfa⟩
end
section
open PySem PySem.W PyProof.Rows
structure SO where
 now:List (Byt×Byt)
 bats:List (List Op3)
 kept:Int
 last:Int
noncomputable def za1 (i:Nat) (s:SO):Objs:=[.inst "MemStore" [("now",.r (i+1)),("batches",.r (i+2)),("kept",I s.kept),("last",I s.last)],.dict s.now,.tl .ops s.bats]
noncomputable def op1(now:List (Byt×Byt))(o:Op3):List (Byt×Byt):=bif eqI o.1 1 then dput o.2.1 o.2.2 now else bif (dget o.2.1 now).isSome then ddel o.2.1 now else now
noncomputable def ze7(now:List (Byt×Byt))(ops:List Op3):List (Byt×Byt):=ops.foldl op1 now
noncomputable def SO.take(s:SO)(ops:List Op3):SO:=⟨ze7 s.now ops,s.bats++[ops],s.kept,s.last+lenI ops⟩
noncomputable def SO.sync(s:SO):SO:=⟨s.now,s.bats,lenI s.bats,s.last⟩
noncomputable def SO.new:SO:=⟨[],[],0,0⟩
noncomputable def SO.small(s:SO):Prop:=s.now.length<1000/\s.bats.length<1000
theorem op1_len(now:List (Byt×Byt))(o:Op3):(op1 now o).length<=now.length+1:=by
 unfold op1;induction eqI o.1 1 with
 |true=>exact dput_len
 |false=>
  induction (dget o.2.1 now).isSome with
  |true=>exact Nat.le_succ_of_le ddel_len
  |false=>exact Nat.le_succ _
section
variable{cx:Cx}{P:PySem.Params}(X:On cx P)
include X
theorem c_MemStore:CallOK cx 2 (.fn "MemStore") [] [] (.ok (.r 0)) (za1 0 .new):=
 cnew (zg1 X) (cb (zdS X) 0 60 [0,1,2] [.reo 2 (.tl .ops [])] (h5 (zb3 X 914 (c := "MemStore") (a := "now") (by kernel_rfl) (by kernel_rfl)) (zb3 X 914 (c := "MemStore") (a := "batches") (by kernel_rfl) (by kernel_rfl)) (show ∃l,(MObj.lst []).plain=some l/\(MObj.tl .ops []).plain=some l from ⟨[],rfl,rfl⟩) (zb3 X 914 (c := "MemStore") (a := "kept") (by kernel_rfl) (by kernel_rfl)) (zb3 X 914 (c := "MemStore") (a := "last") (by kernel_rfl) (by kernel_rfl))) (by kernel_rfl))
noncomputable abbrev takeS:Option Stmt:=getT (zbM (za7 75 2)) 0
theorem stake_loop{lv:Nat}{ops:List Op3}{b:List (List Op3)}{kp la:Int}:∀(r:List Op3) (now:List (Byt×Byt)),now.length+r.length<3000 ->
  LR cx (za7 75 2) lv 0 3 takeS (.d (.tl .op ops)) (ops.map Ty.op.emb) (r.map Ty.op.emb) [("self",.r 0),("ops",.d (.tl .op ops))] (za1 0 ⟨now,b,kp,la⟩) .next [("self",.r 0),("ops",.d (.tl .op ops))] (za1 0 ⟨ze7 now r,b,kp,la⟩):=by
 intro l;induction l with
 |nil=>exact @λnow _=>.done (κ:=[0,1,2]) (ns:=["self", "ops"]) rfl (by kernel_rfl)
 |cons hd r ih=>
  obtain ⟨a,k,v⟩:=hd;intro now hl;have ih:=ih (op1 now (a,k,v)) (by have:=op1_len now (a,k,v);simp at hl;lia)
  have hn:now.length<1000000:=by simp at hl;lia
  have hu:ze7 now ((a,k,v)::r)=ze7 (op1 now (a,k,v)) r:=rfl;rw[hu];induction q:eqI a 1 with
  |true=>
   have e:op1 now (a,k,v)=dput k v now:=by unfold op1;dsimp only;rw[q];rfl
   rw[e] at ih ⊢;exact zaB 40 [0,1,2] ["self", "ops"] [.con (.int 1),.b true] rfl (h3 (kc (za7 75 2) (zcB X)) q hn) (by kernel_rfl) ih
  |false=>
   induction q2:(dget k now).isSome with
   |true=>
    have e:op1 now (a,k,v)=ddel k now:=by unfold op1;dsimp only;rw[q,q2];rfl
    rw[e] at ih ⊢;exact zaB 40 [0,1,2] ["self", "ops"] [.con (.int 1),.b false,.b true] rfl (h4 (kc (za7 75 2) (zcB X)) q q2 q2) (by kernel_rfl) ih
   |false=>
    have e:op1 now (a,k,v)=now:=by unfold op1;dsimp only;rw[q,q2];rfl
    rw[e] at ih ⊢;exact zaB 40 [0,1,2] ["self", "ops"] [.con (.int 1),.b false,.b false] rfl (h3 (kc (za7 75 2) (zcB X)) q q2) (by kernel_rfl) ih
theorem c_stake {s:SO} {ops:List Op3} (hs:s.small) (ho:ops.length<1000):CallOK cx 1 (.mt "MemStore" "take") [.r 0,.d (.tl .op ops)] (za1 0 s) (.ok Nn) (za1 0 (s.take ops)):=
 cb (zcN X) 1 60 [0,1,2] [.loop .next [("self",.r 0),("ops",.d (.tl .op ops))] (za1 0 ⟨ze7 s.now ops,s.bats,s.kept,s.last⟩)]
  (h2 (show LP cx (za7 75 2) 0 0 3 takeS (.d (.tl .op ops)) (ops.map Ty.op.emb) [("self",.r 0),("ops",.d (.tl .op ops))] (za1 0 ⟨s.now,s.bats,s.kept,s.last⟩) .next [("self",.r 0),("ops",.d (.tl .op ops))] (za1 0 ⟨ze7 s.now ops,s.bats,s.kept,s.last⟩) from
   lp 3 (Nat.le_refl _) (λ_ e=>nomatch e) rfl trivial (stake_loop X ops s.now (by have:=hs.1;lia))) (show s.bats.length<1000000 by have:=hs.2;lia)) (by kernel_rfl)
theorem c_ssync {s:SO}:CallOK cx 1 (.mt "MemStore" "sync") [.r 0] (za1 0 s) (.ok Nn) (za1 0 s.sync):=cb (zcO X) 0 60 [0,1,2] [] hnil (by kernel_rfl)
theorem c_durable {s:SO}:CallOK cx 1 (.mt "MemStore" "is_durable") [.r 0] (za1 0 s) (.ok (Bo (eqI s.kept (lenI s.bats)))) (za1 0 s):=cb (zbX X) 0 60 [0,1,2] [] hnil (by kernel_rfl)
theorem c_sget {s:SO} {k:Byt}:CallOK cx 1 (.mt "MemStore" "get") [.r 0,Y k] (za1 0 s) (.ok (Ob (dget k s.now))) (za1 0 s):=cb (zb2 X) 0 60 [0,1,2] [] hnil (by kernel_rfl)
noncomputable def wbAt (i:Nat) (rows:List Op3) (w:Int):Objs:=[.inst "WriteBatch" [("rows",.r (i+1)),("weight",I w)],.tl .op rows]
theorem c_write1 {s:SO} {ops:List Op3} {w:Int} (hs:s.small) (ho:ops.length<1000) (hn:ops≠[]):CallOK cx 2 (.mt "MemStore" "write") [.r 0,.r 3,Bo true] (za1 0 s++wbAt 3 ops w) (.ok (I ((s.take ops).sync.last))) (za1 0 (s.take ops).sync++wbAt 3 ops w):=
 cb (zc6 X) 0 60 [0,1,2,3,4] [.call (.ok (I (lenI ops))) (wb ops w),.b false,.call (.ok (.d (.tl .op ops))) (wb ops w),.call (.ok Nn) (za1 0 (s.take ops)),.b true,.call (.ok Nn) (za1 0 (s.take ops).sync)]
  (happ (h3 (zcL X).mv (c_wcount X (rows:=ops) (w:=w)) (show eqI (lenI ops) 0=false from decide_eq_false (by unfold lenI;have:=List.length_pos_iff.mpr hn;lia))) (h7 (zcN X).mv (zd8 X).mv (c_wops X (rows:=ops) (w:=w)) (c_stake X hs ho) (show true=true from rfl) (zcO X).mv (c_ssync X (s:=s.take ops)))) (by kernel_rfl)
theorem c_write0 {s:SO} {ops:List Op3} {w:Int} (hs:s.small) (ho:ops.length<1000) (hn:ops≠[]):CallOK cx 2 (.mt "MemStore" "write") [.r 0,.r 3,Bo false] (za1 0 s++wbAt 3 ops w) (.ok (I ((s.take ops).last))) (za1 0 (s.take ops)++wbAt 3 ops w):=
 cb (zc6 X) 0 60 [0,1,2,3,4] [.call (.ok (I (lenI ops))) (wb ops w),.b false,.call (.ok (.d (.tl .op ops))) (wb ops w),.call (.ok Nn) (za1 0 (s.take ops)),.b false]
  (happ (h3 (zcL X).mv (c_wcount X (rows:=ops) (w:=w)) (show eqI (lenI ops) 0=false from decide_eq_false (by unfold lenI;have:=List.length_pos_iff.mpr hn;lia))) (h5 (zcN X).mv (zd8 X).mv (c_wops X (rows:=ops) (w:=w)) (c_stake X hs ho) (show false=false from rfl))) (by kernel_rfl)
noncomputable def inR(lo hi k:Byt):Bool:=!(ltB k lo)&&ltB k hi
noncomputable def zeB(now:List (Byt×Byt))(lo hi:Byt)(sl:List Byt):List (Byt×Byt):=(sl.filter (inR lo hi)).map λk=>(k,(dget k now).getD [])
noncomputable abbrev scanS:Option Stmt:=getT (zbM (za7 75 6)) 2
omit X in
theorem scan_loop{lv:Nat}{s:SO}{lo hi:Byt}{sl:List Byt}:∀(r:List Byt) (p:List (Byt×Byt)),(∀k∈r,(dget k s.now).isSome=true)->p.length+r.length<3000 ->
  LR cx (za7 75 6) lv 0 4 scanS (.d (.tl .byt sl)) (sl.map Ty.byt.emb) (r.map Ty.byt.emb) [("self",.r 0),("low",Y lo),("high",Y hi),("snap",Nn),("found",.r 3)] (za1 0 s++[.tl .kv p]) .next [("self",.r 0),("low",Y lo),("high",Y hi),("snap",Nn),("found",.r 3)] (za1 0 s++[.tl .kv (p++zeB s.now lo hi r)]):=by
 intro l;induction l with
 |nil=>
  intro p _ _;rw[show p++zeB s.now lo hi []=p from List.append_nil p]
  exact .done (κ:=[0,1,2,3]) (ns:=["self", "low", "high", "snap", "found"]) rfl (by kernel_rfl)
 |cons k r ih=>
  intro p hk hl;have hk0:=hk k (.head _);have ih:=λp' h'=>ih p' (λk h=>hk k (.tail _ h)) h'
  induction q1:ltB k lo with
  |true=>
   have e:zeB s.now lo hi (k::r)=zeB s.now lo hi r:=by unfold zeB;rw[List.filter_cons,inR,q1];rfl
   rw[e];exact lr_cont 40 [0,1,2,3] ["self", "low", "high", "snap", "found"] [.b true,.b true] rfl (h2 (show true=true from rfl) q1) (by kernel_rfl) (ih p (by simp at hl;lia))
  |false=>
   induction q2:ltB k hi with
   |false=>
    have e:zeB s.now lo hi (k::r)=zeB s.now lo hi r:=by unfold zeB;rw[List.filter_cons,inR,q1,q2];rfl
    rw[e];exact lr_cont 40 [0,1,2,3] ["self", "low", "high", "snap", "found"] [.b true,.b false,.b true,.b true] rfl (h4 (show true=true from rfl) q1 (show true=true from rfl) (show (!(ltB k hi))=true by rw[q2];rfl)) (by kernel_rfl) (ih p (by simp at hl;lia))
   |true=>
    have e:p++zeB s.now lo hi (k::r)=(p++[(k,(dget k s.now).getD [])])++zeB s.now lo hi r:=by unfold zeB;rw[List.filter_cons,inR,q1,q2,List.append_assoc];rfl
    rw[e];exact zaB 40 [0,1,2,3] ["self", "low", "high", "snap", "found"] [.b true,.b false,.b true,.b false] rfl (h6 (show true=true from rfl) q1 (show true=true from rfl) (show (!(ltB k hi))=false by rw[q2];rfl) hk0 (show p.length<1000000 by simp at hl;lia)) (by kernel_rfl) (ih _ (by simp at hl ⊢;lia))
theorem c_scan{s:SO}{lo hi:Byt}{sl:List Byt}(h64:s.now.length<64)(hs:sl.Pairwise λa b=>ltB b a=false)(hp:sl.Perm (s.now.map (·.1)))(hbig:∀b∈sl,b.length<=big):
  CallOK cx 1 (.mt "MemStore" "scan") [.r 0,Y lo,Y hi,Nn] (za1 0 s) (.ok (.r 3)) (za1 0 s++[.tl .kv (zeB s.now lo hi sl)]):=by
 have hk:∀k∈sl,(dget k s.now).isSome=true:=λk h=>by
  have h:=hp.mem_iff.mp h;generalize s.now=es at h;induction es with
  |nil=>injection h
  |cons p r ih=>
   obtain ⟨a,v⟩:=p;rw[zcZ];by_cases e:a=k
   ·rw[decide_eq_true e];rfl
   ·rw[decide_eq_false e]
    rcases List.mem_cons.mp h with q|q
    ·exact absurd q.symm e
    ·exact ih q
 have hlen:=hp.length_eq
 exact cb (zdR X) 1 60 [0,1,2,3] [.b false,.reo 3 (.tl .kv []),.call (.ok (.d (.tl .byt sl))) [.dict s.now],.loop .next [("self",.r 0),("low",Y lo),("high",Y hi),("snap",Nn),("found",.r 3)] (za1 0 s++[.tl .kv (zeB s.now lo hi sl)])]
  (h5 (show false=false from rfl) (show ∃l,(MObj.lst []).plain=some l/\(MObj.tl .kv []).plain=some l from ⟨[],rfl,rfl⟩) (k_sorted X) (call_sortedD (n:=0) (i:=0) (os:=[.dict s.now]) (b_sorted X) rfl h64 hbig hs hp)
   (show LP cx (za7 75 6) 0 0 3 scanS (.d (.tl .byt sl)) (sl.map Ty.byt.emb) [("self",.r 0),("low",Y lo),("high",Y hi),("snap",Nn),("found",.r 3)] (za1 0 s++[.tl .kv []]) .next [("self",.r 0),("low",Y lo),("high",Y hi),("snap",Nn),("found",.r 3)] (za1 0 s++[.tl .kv (zeB s.now lo hi sl)]) from
    lp 4 (by decide) (λ_ e=>nomatch e) rfl trivial (scan_loop (cx:=cx) sl [] hk (by rw[hlen,List.length_map];simp;lia)))) (by kernel_rfl)
end
end
section
open PySem PySem.W PyProof.Rows
structure MM where
 applied:Int
 term:Int
 conf:Byt
 durable:Int
 sync:Bool
noncomputable def machAt (i:Nat) (m:MM):MObj:=.inst "Machine" [("store",.r i),("applied",I m.applied),("term",I m.term),("conf_octets",Y m.conf),("durable",I m.durable),("sync_each",Bo m.sync)]
noncomputable def zaG(m:MM)(s:SO):Objs:=machAt 1 m::za1 1 s
noncomputable def rowA(i t:Int)(cf:Byt):Byt:=u8 i::u8 t::u8 (lenI cf)::cf
noncomputable def MM.mark(m:MM)(s:SO):MM:=⟨m.applied,m.term,m.conf,bif eqI s.kept (lenI s.bats) then m.applied else m.durable,m.sync⟩
noncomputable def MM.at(m:MM)(i t:Int)(cf:Byt):MM:=⟨i,t,cf,m.durable,m.sync⟩
noncomputable def SO.write(s:SO)(ops:List Op3)(z:Bool):SO:=bif z then (s.take ops).sync else s.take ops
section
variable{cx:Cx}{P:PySem.Params}(X:On cx P)
include X
theorem zcH:Con cx "APPLIED_KEY" (.bytes [97]):=⟨.bytes ⟨[97]⟩ 986,by rw[X.eq];kernel_rfl,by decide,986,rfl⟩
theorem K_DATA_END:Con cx "DATA_END" (.bytes [101]):=⟨.bytes ⟨[101]⟩ 990,by rw[X.eq];kernel_rfl,by decide,990,rfl⟩
theorem K_SESSION_END:Con cx "SESSION_END" (.bytes [116]):=⟨.bytes ⟨[116]⟩ 994,by rw[X.eq];kernel_rfl,by decide,994,rfl⟩
theorem ze1:Con cx "ENTRY_CONF" (.int 2):=⟨.int 2 791,by rw[X.eq];kernel_rfl,791,rfl⟩
theorem c_write {s:SO} {ops:List Op3} {w:Int} (z:Bool) (hs:s.small) (ho:ops.length<1000) (hn:ops≠[]):CallOK cx 2 (.mt "MemStore" "write") [.r 0,.r 3,Bo z] (za1 0 s++wbAt 3 ops w) (.ok (I ((s.write ops z).last))) (za1 0 (s.write ops z)++wbAt 3 ops w):=by
 induction z with
 |true=>exact c_write1 X hs ho hn
 |false=>exact c_write0 X hs ho hn
theorem c_Machine {s:SO}:CallOK cx 2 (.fn "Machine") [.r 0] (za1 0 s) (.ok (.r 3)) (za1 0 s++[machAt 0 ⟨0,0,[],0,false⟩]):=
 cnew (zhQ X) (cb (ze5 X) 0 60 [0,1,2,3] [] (h6 (zb3 X 837 (c := "Machine") (a := "store") (by kernel_rfl) (by kernel_rfl)) (zb3 X 837 (c := "Machine") (a := "applied") (by kernel_rfl) (by kernel_rfl)) (zb3 X 837 (c := "Machine") (a := "term") (by kernel_rfl) (by kernel_rfl)) (zb3 X 837 (c := "Machine") (a := "conf_octets") (by kernel_rfl) (by kernel_rfl)) (zb3 X 837 (c := "Machine") (a := "durable") (by kernel_rfl) (by kernel_rfl)) (zb3 X 837 (c := "Machine") (a := "sync_each") (by kernel_rfl) (by kernel_rfl))) (by kernel_rfl))
theorem c_mark {m:MM} {s:SO}:CallOK cx 2 (.mt "Machine" "mark_durable") [.r 0] (zaG m s) (.ok Nn) (zaG (m.mark s) s):=by
 induction q:eqI s.kept (lenI s.bats) with
 |true=>
  have e:m.mark s=⟨m.applied,m.term,m.conf,m.applied,m.sync⟩:=by unfold MM.mark;rw[q];rfl
  rw[e];exact cb (zaA X) 0 60 [0,1,2,3] [.call (.ok (Bo (eqI s.kept (lenI s.bats)))) (za1 0 s),.b true] (h3 (zbX X).mv (c_durable X (s:=s)) q) (by kernel_rfl)
 |false=>
  have e:m.mark s=⟨m.applied,m.term,m.conf,m.durable,m.sync⟩:=by unfold MM.mark;rw[q];rfl
  rw[e];exact cb (zaA X) 0 60 [0,1,2,3] [.call (.ok (Bo (eqI s.kept (lenI s.bats)))) (za1 0 s),.b false] (h3 (zbX X).mv (c_durable X (s:=s)) q) (by kernel_rfl)
theorem c_load0 {m:MM} {s:SO} (h:dget [97] s.now=none):CallOK cx 3 (.mt "Machine" "load") [.r 0] (zaG m s) (.ok (.d (.tup [.int 0,.int 0,.none]))) (zaG (MM.mark ⟨0,0,[],bif ltI 0 m.durable then 0 else m.durable,m.sync⟩ s) s):=by
 have hg:=c_sget X (s:=s) (k:=[97]);rw[h] at hg
 exact cb (zbP X) 0 60 [0,1,2,3] [.con (.bytes [97]),.call (.ok (Ob none)) (za1 0 s),.b true,.b false,.call (.ok Nn) (zaG (MM.mark ⟨0,0,[],bif ltI 0 m.durable then 0 else m.durable,m.sync⟩ s) s)]
  (h7 (zb2 X).mv (kc (za7 73 1) (zcH X)) (hg.up (n':=2)) (show (none:Option Byt).isNone=true from rfl) (show (!(eqB [] []))=false from rfl) (zaA X).mv (c_mark X (m:=⟨0,0,[],bif ltI 0 m.durable then 0 else m.durable,m.sync⟩) (s:=s))) (by kernel_rfl)
theorem c_decode_confD {l:List Int} (hl:Ids l):CallOK cx 4 (.fn "decode_conf") [Y (zaE l)] [] (.ok (.d (confD l))) []:=freeze_conf (c_decode_conf X hl)
theorem c_load{m:MM}{s:SO}{i t:Int}{l:List Int}(hl:Ids l)(hi:0<=i/\i<128)(ht:0<=t/\t<128)(h:dget [97] s.now=some (rowA i t (zaE l))):
  CallOK cx 5 (.mt "Machine" "load") [.r 0] (zaG m s) (.ok (.d (.tup [.int i,.int t,confD l]))) (zaG (MM.mark ⟨i,t,zaE l,bif ltI i m.durable then i else m.durable,m.sync⟩ s) s):=by
 have hg:=c_sget X (s:=s) (k:=[97]);rw[h] at hg;have q:=hl.few;have cl:(zaE l).length<128:=by unfold zaE idB;simp;lia
 generalize hc:zaE l=cf at *;have d0:(rowA i t cf).drop 0=u8 i::u8 t::u8 (lenI cf)::(cf++[]):=by rw[List.append_nil];rfl
 have d1:=(rd d0).2.2;have d2:=(rd d1).2.2;have d3:=zbR (rd d2).2.2;have v1:=zdX X d0 (zgZ hi.1 hi.2);have v2:=zdX X d1 (zgZ ht.1 ht.2);rw[zfF hi.1 (by lia)] at v1
 rw[zfF ht.1 (by lia)] at v2
 have hd:=c_decode_confD X hl;rw[hc] at hd;have hne:(!(eqB cf []))=true:=by rw[←hc];rfl
 exact cb (zbP X) 0 60 [0,1,2,3] [.con (.bytes [97]),.call (.ok (Ob (some (rowA i t cf)))) (za1 0 s),.b false,.re "data" (.bytes (rowA i t cf)),.call (.ok (.r 0)) [cu (rowA i t cf) 0],.call (.ok (I i)) [cu (rowA i t cf) (0+1)],.call (.ok (I t)) [cu (rowA i t cf) (0+1+1)],.call (.ok (Y cf)) [cu (rowA i t cf) (0+1+1+1+cf.length)],.call (.ok Nn) [cu (rowA i t cf) (0+1+1+1+cf.length)],.b true,.call (.ok (.d (confD l))) [],.call (.ok Nn) (zaG (MM.mark ⟨i,t,cf,bif ltI i m.durable then i else m.durable,m.sync⟩ s) s)]
  (happ (h5 (zb2 X).mv (kc (za7 73 1) (zcH X)) (hg.up (n':=4)) (show (some (rowA i t cf)).isNone=false from rfl) (show plain (.ob (some (rowA i t cf)))=plain (.bytes (rowA i t cf)) from rfl)) (happ (h6 (zdC X).val ((zhL X (D:=rowA i t cf)).up (n':=4)) (za5 X).mv (v1.up (n':=4)) (za5 X).mv (v2.up (n':=4)))
   (happ (h5 (za9 X).mv ((zeH X d2 (u8_len cl) cl).up (n':=4)) (zb6 X).mv ((c_done X d3).up (n':=4)) hne) (h4 (zhT X).kv hd (zaA X).mv ((c_mark X (m:=⟨i,t,cf,bif ltI i m.durable then i else m.durable,m.sync⟩) (s:=s)).up (n':=4)))))) (by kernel_rfl)
theorem zhJ{m:MM}{s:SO}{i t:Int}{cf:Byt}{rows:List Op3}{w:Int}(hi:0<=i/\i<128)(ht:0<=t/\t<128)(hc:cf.length<100)(hr:rows.length<1000):
  CallOK cx 4 (.mt "Machine" "put_applied") [.r 0,.r 4,I i,I t,Y cf] (zaG m s++wbAt 4 rows w) (.ok Nn) (zaG m s++wbAt 4 (rows++[(1,[97],rowA i t cf)]) (wput w [97] (rowA i t cf))):=
 cb (zbY X) 0 60 [0,1,2,3,4,5] [.call (.ok (.r 0)) (sk []),.call (.ok Nn) (sk [u8 i]),.call (.ok Nn) (sk [u8 i,u8 t]),.call (.ok Nn) (sk (rowA i t cf)),.con (.bytes [97]),.call (.ok (Y (rowA i t cf))) (sk (rowA i t cf)),.call (.ok Nn) (wb (rows++[(1,[97],rowA i t cf)]) (wput w [97] (rowA i t cf)))]
  (happ (h6 (N_Sink X).val ((c_Sink X).up (n':=3)) (zc0 X).mv ((zfL X (b:=[]) hi.1 hi.2 (by decide)).up (n':=3)) (zc0 X).mv ((zfL X (b:=[u8 i]) ht.1 ht.2 (by simp)).up (n':=3)))
   (h7 (zcM X).mv ((zgR X (b:=[u8 i,u8 t]) (c:=cf) (by lia) (by simp)).up (n':=3)) (zb5 X).mv (kc (za7 73 3) (zcH X)) (zcW X).mv ((c_sdone X (b:=rowA i t cf)).up (n':=3)) (c_wput X (rows:=rows) (w:=w) (k:=[97]) (v:=rowA i t cf) (by decide) (by unfold rowA;simp;lia) hr))) (by kernel_rfl)
theorem c_begin{m:MM}{s:SO}{i t:Int}{l:List Int}(hl:Ids l)(hi:0<=i/\i<128)(ht:0<=t/\t<128)(hs:s.small)(h:dget [97] s.now=none):
  CallOK cx 5 (.mt "Machine" "begin") [.r 0,I i,I t,.r 4] (zaG m s++zb0 4 l) (.ok Nn) (zaG ((m.at i t (zaE l)).mark (s.write [(1,[97],rowA i t (zaE l))] true)) (s.write [(1,[97],rowA i t (zaE l))] true)++zb0 4 l):=by
 have hg:=c_sget X (s:=s) (k:=[97]);rw[h] at hg;have q:=hl.few;have cl:(zaE l).length<100:=by unfold zaE idB;simp;lia
 exact cb (zbJ X) 0 60 [0,1,2,3,4,5,6,7,8] [.con (.bytes [97]),.call (.ok (Ob none)) (za1 0 s),.b false,.call (.ok (.r 0)) (wb [] 12),.call (.ok (Y (zaE l))) (zb0 0 l),.call (.ok Nn) (zaG m s++wbAt 4 [(1,[97],rowA i t (zaE l))] (wput 12 [97] (rowA i t (zaE l)))),.call (.ok (I ((s.write [(1,[97],rowA i t (zaE l))] true).last))) (za1 0 (s.write [(1,[97],rowA i t (zaE l))] true)++wbAt 3 [(1,[97],rowA i t (zaE l))] (wput 12 [97] (rowA i t (zaE l)))),.call (.ok Nn) (zaG ((m.at i t (zaE l)).mark (s.write [(1,[97],rowA i t (zaE l))] true)) (s.write [(1,[97],rowA i t (zaE l))] true))]
  (happ (h4 (zb2 X).mv (kc (za7 73 4) (zcH X)) (hg.up (n':=4)) (show (none:Option Byt).isSome=false from rfl)) (happ (h6 (zd0 X).val ((zdZ X).up (n':=4)) (zf2 X).kv ((zhK X hl).up (n':=4)) (zbY X).mv (zhJ X (m:=m) (s:=s) (rows:=[]) (w:=12) hi ht cl (by decide)))
   (h4 (zc6 X).mv ((c_write X (w:=wput 12 [97] (rowA i t (zaE l))) true hs (ops:=[(1,[97],rowA i t (zaE l))]) (by simp) (by simp)).up (n':=4)) (zaA X).mv ((c_mark X (m:=m.at i t (zaE l)) (s:=s.write [(1,[97],rowA i t (zaE l))] true)).up (n':=4))))) (by kernel_rfl)
theorem c_begin_bad {m:MM} {s:SO} {i t:Int} {l:List Int} {D:Byt} (h:dget [97] s.now=some D):CallOK cx 5 (.mt "Machine" "begin") [.r 0,I i,I t,.r 4] (zaG m s++zb0 4 l) (.exc "AppliedGap") (zaG m s++zb0 4 l):=by
 have hg:=c_sget X (s:=s) (k:=[97]);rw[h] at hg;exact cb (zbJ X) 0 60 [0,1,2,3,4,5,6,7,8] [.con (.bytes [97]),.call (.ok (Ob (some D))) (za1 0 s),.b true] (h4 (zb2 X).mv (kc (za7 73 4) (zcH X)) (hg.up (n':=4)) (show (some D).isSome=true from rfl)) (by kernel_rfl)
theorem c_mget {m:MM} {s:SO} {k:Byt} (hk:k.length<1000):CallOK cx 2 (.mt "Machine" "get") [.r 0,Y k] (zaG m s) (.ok (Ob (dget (100::k) s.now))) (zaG m s):=
 cb (zhV X) 0 60 [0,1,2,3] [.call (.ok (Y (100::k))) [],.call (.ok (Ob (dget (100::k) s.now))) (za1 0 s)] (h4 (zb2 X).mv (F_data_key X).kv (c_data_key X hk) (c_sget X (s:=s) (k:=100::k))) (by kernel_rfl)
theorem c_session_row0 {m:MM} {s:SO} {w:Bool} (h:dget (skey w) s.now=none):CallOK cx 4 (.mt "Machine" "session_row") [.r 0,I (cliN w)] (zaG m s) (.ok (.d (.tup [.int (-1),.bool false,.bytes []]))) (zaG m s):=by
 have hg:=c_sget X (s:=s) (k:=skey w);rw[h] at hg;exact cb (zaQ X) 0 60 [0,1,2,3] [.call (.ok (Y (skey w))) [],.call (.ok (Ob none)) (za1 0 s),.b true] (h5 (zb2 X).mv (zcJ X).kv (zeX X w) (hg.up (n':=3)) (show (none:Option Byt).isNone=true from rfl)) (by kernel_rfl)
theorem c_session_row {m:MM} {s:SO} {w z:Bool} {n:Int} {r:Byt} (hn:0<=n/\n<128) (hr:r.length<128) (h:dget (skey w) s.now=some (sesB n z r)):CallOK cx 5 (.mt "Machine" "session_row") [.r 0,I (cliN w)] (zaG m s) (.ok (.d (.tup [.int n,.bool z,.bytes r]))) (zaG m s):=by
 have hg:=c_sget X (s:=s) (k:=skey w);rw[h] at hg
 exact cb (zaQ X) 0 60 [0,1,2,3] [.call (.ok (Y (skey w))) [],.call (.ok (Ob (some (sesB n z r)))) (za1 0 s),.b false,.re "data" (.bytes (sesB n z r)),.call (.ok (.d (.tup [.int n,.bool z,.bytes r]))) []]
  (happ (h5 (zb2 X).mv (zcJ X).kv ((zeX X w).up (n':=4)) (hg.up (n':=4)) (show (some (sesB n z r)).isNone=false from rfl)) (h3 (show plain (.ob (some (sesB n z r)))=plain (.bytes (sesB n z r)) from rfl) (zd7 X).kv (zfA X (z:=z) hn hr))) (by kernel_rfl)
theorem c_same_maybe (a b:Option Byt):CallOK cx 1 (.fn "same_maybe") [Ob a,Ob b] [] (.ok (Bo (eqO a b))) []:=by
 induction a with
 |none=>
  have e:eqO none b=b.isNone:=by cases b <;> rfl
  rw[e];exact cb (zd1 X) 0 60 [] [.b true,.b true] (h2 (show (none:Option Byt).isNone=true from rfl) (show (none:Option Byt).isNone=true from rfl)) (by kernel_rfl)
 |some x=>
  induction b with
  |none=>exact cb (zd1 X) 0 60 [] [.b false,.b true,.b false] (h3 (show (some x).isNone=false from rfl) (show (none:Option Byt).isNone=true from rfl) (show (some x).isNone=false from rfl)) (by kernel_rfl)
  |some y=>exact cb (zd1 X) 0 60 [] [.b false,.b false] (h2 (show (some x).isNone=false from rfl) (show (some y).isNone=false from rfl)) (by kernel_rfl)
end
end
section
open PySem PySem.W PyProof.Rows
noncomputable def effR(now:List (Byt×Byt))(k:Int)(ke va:Byt)(e:Option Byt):Int×Option Byt×List Op3:=
 bif eqI k 0||(eqI k 5||eqI k 6) then (0,none,[])
 else bif eqI k 1 then (0,dget (100::ke) now,[(1,100::ke,va)])
 else bif eqI k 2 then (0,dget (100::ke) now,bif (dget (100::ke) now).isSome then [(0,100::ke,[])] else [])
 else bif eqI k 3 then bif eqO (dget (100::ke) now) e then (0,dget (100::ke) now,[(1,100::ke,va)]) else (1,dget (100::ke) now,[])
 else (0,dget (100::ke) now,[(1,100::ke,match dget (100::ke) now with|none=>va|some o=>o++va)])
noncomputable abbrev EO(m:MM)(s:SO)(k c n:Int)(ke va:Byt)(e:Option Byt)(rows:List Op3)(w:Int):Objs:=zaG m s++[cmD k c n ke va e]++wbAt 5 rows w
noncomputable def eqIf{a b:Int}(h:a≠b):eqI a b=false:=decide_eq_false h
section
variable{cx:Cx}{P:PySem.Params}(X:On cx P)
include X
theorem zg2:Con cx "CMD_NONE" (.int 0):=⟨.int 0 966,by rw[X.eq];kernel_rfl,966,rfl⟩
theorem zdN:Con cx "CMD_PUT" (.int 1):=⟨.int 1 968,by rw[X.eq];kernel_rfl,968,rfl⟩
theorem zcC:Con cx "CMD_DELETE" (.int 2):=⟨.int 2 970,by rw[X.eq];kernel_rfl,970,rfl⟩
theorem zhR:Con cx "CMD_CAS" (.int 3):=⟨.int 3 972,by rw[X.eq];kernel_rfl,972,rfl⟩
theorem zeK:Con cx "CMD_OPEN" (.int 5):=⟨.int 5 974,by rw[X.eq];kernel_rfl,974,rfl⟩
theorem K_REPLY_NO:Con cx "REPLY_NO" (.int 1):=⟨.int 1 980,by rw[X.eq];kernel_rfl,980,rfl⟩
noncomputable abbrev E8:Option Stmt:=za7 73 8
theorem c_eff0{m:MM}{s:SO}{k c n:Int}{ke va:Byt}{e:Option Byt}{rows:List Op3}{w:Int}(hk:k=0\/k=5\/k=6):
  CallOK cx 5 (.mt "Machine" "do_effect") [.r 0,.r 4,.r 5] (EO m s k c n ke va e rows w) (.ok (Y (repB 0 none))) (EO m s k c n ke va e rows w):=by
 have mr:=zeY X (k:=0) (by decide)
 rcases hk with rfl|rfl|rfl
 ·exact cb (zaF X) 0 60 [0,1,2,3,4,5,6] [.con (.int 0),.b true,.con (.int 0),.call (.ok (Y (repB 0 none))) []] (h5 (kc E8 (zg2 X)) (show eqI 0 0=true from rfl) (zaV X).kv (kc E8 (zbO X)) mr) (by kernel_rfl)
 ·exact cb (zaF X) 0 60 [0,1,2,3,4,5,6] [.con (.int 0),.b false,.con (.int 5),.b true,.con (.int 0),.call (.ok (Y (repB 0 none))) []] (h7 (kc E8 (zg2 X)) (show eqI 5 0=false from rfl) (kc E8 (zeK X)) (show eqI 5 5=true from rfl) (zaV X).kv (kc E8 (zbO X)) mr) (by kernel_rfl)
 ·exact cb (zaF X) 0 60 [0,1,2,3,4,5,6] [.con (.int 0),.b false,.con (.int 5),.b false,.con (.int 6),.b true,.con (.int 0),.call (.ok (Y (repB 0 none))) []] (happ (h6 (kc E8 (zg2 X)) (show eqI 6 0=false from rfl) (kc E8 (zeK X)) (show eqI 6 5=false from rfl) (kc E8 (zdO X)) (show eqI 6 6=true from rfl)) (h3 (zaV X).kv (kc E8 (zbO X)) mr)) (by kernel_rfl)
theorem zfY{s:SO}{k:Int}{ke:Byt}(hk:k≠0/\k≠5/\k≠6)(hl:ke.length<100):
  Holds [HasCon cx E8 "CMD_NONE" (.int 0),eqI k 0=false,HasCon cx E8 "CMD_OPEN" (.int 5),eqI k 5=false,HasCon cx E8 "CMD_CLOSE" (.int 6),eqI k 6=false,∃fv,FnVal cx "data_key" fv,CallOK cx 4 (.fn "data_key") [Y ke] [] (.ok (Y (100::ke))) [],∃fv,zc7 cx "MemStore" "get" fv,CallOK cx 4 (.mt "MemStore" "get") [.r 0,Y (100::ke)] (za1 0 s) (.ok (Ob (dget (100::ke) s.now))) (za1 0 s)]:=
 happ (h6 (kc E8 (zg2 X)) (eqIf hk.1) (kc E8 (zeK X)) (eqIf hk.2.1) (kc E8 (zdO X)) (eqIf hk.2.2)) (h4 (F_data_key X).kv ((c_data_key X (k:=ke) (by lia)).up (n':=4)) (zb2 X).mv ((c_sget X (s:=s) (k:=100::ke)).up (n':=4)))
theorem c_eff1{m:MM}{s:SO}{c n:Int}{ke va:Byt}{e:Option Byt}{rows:List Op3}{w:Int}(hl:ke.length<100)(hv:va.length<100)(ho:zbL (dget (100::ke) s.now))(hr:rows.length<1000):
  CallOK cx 5 (.mt "Machine" "do_effect") [.r 0,.r 4,.r 5] (EO m s 1 c n ke va e rows w) (.ok (Y (repB 0 (dget (100::ke) s.now)))) (EO m s 1 c n ke va e (rows++[(1,100::ke,va)]) (wput w (100::ke) va)):=
 cb (zaF X) 0 60 [0,1,2,3,4,5,6] [.con (.int 0),.b false,.con (.int 5),.b false,.con (.int 6),.b false,.call (.ok (Y (100::ke))) [],.call (.ok (Ob (dget (100::ke) s.now))) (za1 0 s),.con (.int 1),.b true,.call (.ok Nn) (wb (rows++[(1,100::ke,va)]) (wput w (100::ke) va)),.con (.int 0),.call (.ok (Y (repB 0 (dget (100::ke) s.now)))) []]
  (happ (zfY X (s:=s) (k:=1) (by decide) hl) (h7 (kc E8 (zdN X)) (show eqI 1 1=true from rfl) (zb5 X).mv ((c_wput X (rows:=rows) (w:=w) (k:=100::ke) (v:=va) (by simp;lia) (by lia) hr).up (n':=4)) (zaV X).kv (kc E8 (zbO X)) (zbU X (k:=0) (by decide) ho))) (by kernel_rfl)
theorem c_eff2{m:MM}{s:SO}{c n:Int}{ke va:Byt}{e:Option Byt}{rows:List Op3}{w:Int}(hl:ke.length<100)(ho:zbL (dget (100::ke) s.now))(hr:rows.length<1000):
  ∃w',CallOK cx 5 (.mt "Machine" "do_effect") [.r 0,.r 4,.r 5] (EO m s 2 c n ke va e rows w) (.ok (Y (repB 0 (dget (100::ke) s.now)))) (EO m s 2 c n ke va e (rows++bif (dget (100::ke) s.now).isSome then [(0,100::ke,[])] else []) w'):=by
 induction q:(dget (100::ke) s.now).isSome with
 |true=>
  exact ⟨_,cb (zaF X) 0 60 [0,1,2,3,4,5,6] [.con (.int 0),.b false,.con (.int 5),.b false,.con (.int 6),.b false,.call (.ok (Y (100::ke))) [],.call (.ok (Ob (dget (100::ke) s.now))) (za1 0 s),.con (.int 1),.b false,.con (.int 2),.b true,.b true,.call (.ok Nn) (wb (rows++[(0,100::ke,[])]) (wdel w (100::ke))),.con (.int 0),.call (.ok (Y (repB 0 (dget (100::ke) s.now)))) []]
   (happ (zfY X (s:=s) (k:=2) (by decide) hl) (happ (h5 (kc E8 (zdN X)) (show eqI 2 1=false from rfl) (kc E8 (zcC X)) (show eqI 2 2=true from rfl) q) (h5 (zdQ X).mv ((c_wdel X (rows:=rows) (w:=w) (k:=100::ke) (by simp;lia) hr).up (n':=4)) (zaV X).kv (kc E8 (zbO X)) (zbU X (k:=0) (by decide) ho)))) (os':=EO m s 2 c n ke va e (rows++[(0,100::ke,[])]) (wdel w (100::ke))) (by kernel_rfl)⟩
 |false=>
  rw[show (bif false then [((0:Int),100::ke,([]:Byt))] else [])=[] from rfl,List.append_nil]
  exact ⟨w,cb (zaF X) 0 60 [0,1,2,3,4,5,6] [.con (.int 0),.b false,.con (.int 5),.b false,.con (.int 6),.b false,.call (.ok (Y (100::ke))) [],.call (.ok (Ob (dget (100::ke) s.now))) (za1 0 s),.con (.int 1),.b false,.con (.int 2),.b true,.b false,.con (.int 0),.call (.ok (Y (repB 0 (dget (100::ke) s.now)))) []]
   (happ (zfY X (s:=s) (k:=2) (by decide) hl) (happ (h5 (kc E8 (zdN X)) (show eqI 2 1=false from rfl) (kc E8 (zcC X)) (show eqI 2 2=true from rfl) q) (h3 (zaV X).kv (kc E8 (zbO X)) (zbU X (k:=0) (by decide) ho)))) (by kernel_rfl)⟩
theorem c_eff3{m:MM}{s:SO}{c n:Int}{ke va:Byt}{e:Option Byt}{rows:List Op3}{w:Int}(hl:ke.length<100)(hv:va.length<100)(ho:zbL (dget (100::ke) s.now))(hr:rows.length<1000):
  ∃w',CallOK cx 5 (.mt "Machine" "do_effect") [.r 0,.r 4,.r 5] (EO m s 3 c n ke va e rows w) (.ok (Y (repB (bif eqO (dget (100::ke) s.now) e then 0 else 1) (dget (100::ke) s.now)))) (EO m s 3 c n ke va e (rows++bif eqO (dget (100::ke) s.now) e then [(1,100::ke,va)] else []) w'):=by
 have hm:=c_same_maybe X (dget (100::ke) s.now) e;induction q:eqO (dget (100::ke) s.now) e with
 |true=>
  rw[q] at hm
  exact ⟨_,cb (zaF X) 0 60 [0,1,2,3,4,5,6] [.con (.int 0),.b false,.con (.int 5),.b false,.con (.int 6),.b false,.call (.ok (Y (100::ke))) [],.call (.ok (Ob (dget (100::ke) s.now))) (za1 0 s),.con (.int 1),.b false,.con (.int 2),.b false,.con (.int 3),.b true,.call (.ok (Bo true)) [],.b true,.call (.ok Nn) (wb (rows++[(1,100::ke,va)]) (wput w (100::ke) va)),.con (.int 0),.call (.ok (Y (repB 0 (dget (100::ke) s.now)))) []]
   (happ (zfY X (s:=s) (k:=3) (by decide) hl) (happ (h6 (kc E8 (zdN X)) (show eqI 3 1=false from rfl) (kc E8 (zcC X)) (show eqI 3 2=false from rfl) (kc E8 (zhR X)) (show eqI 3 3=true from rfl)) (happ (h3 (zd1 X).kv (hm.up (n':=4)) (show true=true from rfl)) (h5 (zb5 X).mv ((c_wput X (rows:=rows) (w:=w) (k:=100::ke) (v:=va) (by simp;lia) (by lia) hr).up (n':=4)) (zaV X).kv (kc E8 (zbO X)) (zbU X (k:=0) (by decide) ho))))) (os':=EO m s 3 c n ke va e (rows++[(1,100::ke,va)]) (wput w (100::ke) va)) (by kernel_rfl)⟩
 |false=>
  rw[q] at hm;rw[show (bif false then [((1:Int),100::ke,va)] else [])=[] from rfl,List.append_nil]
  exact ⟨w,cb (zaF X) 0 60 [0,1,2,3,4,5,6] [.con (.int 0),.b false,.con (.int 5),.b false,.con (.int 6),.b false,.call (.ok (Y (100::ke))) [],.call (.ok (Ob (dget (100::ke) s.now))) (za1 0 s),.con (.int 1),.b false,.con (.int 2),.b false,.con (.int 3),.b true,.call (.ok (Bo false)) [],.b false,.con (.int 1),.call (.ok (Y (repB 1 (dget (100::ke) s.now)))) []]
   (happ (zfY X (s:=s) (k:=3) (by decide) hl) (happ (h6 (kc E8 (zdN X)) (show eqI 3 1=false from rfl) (kc E8 (zcC X)) (show eqI 3 2=false from rfl) (kc E8 (zhR X)) (show eqI 3 3=true from rfl)) (happ (h3 (zd1 X).kv (hm.up (n':=4)) (show false=false from rfl)) (h3 (zaV X).kv (kc E8 (K_REPLY_NO X)) (zbU X (k:=1) (by decide) ho))))) (by kernel_rfl)⟩
theorem c_eff4{m:MM}{s:SO}{c n:Int}{ke va:Byt}{e:Option Byt}{rows:List Op3}{w:Int}(hl:ke.length<100)(hv:va.length<20)(ho:∀b,dget (100::ke) s.now=some b->b.length<100)(hr:rows.length<1000):
  ∃w',CallOK cx 5 (.mt "Machine" "do_effect") [.r 0,.r 4,.r 5] (EO m s 4 c n ke va e rows w) (.ok (Y (repB 0 (dget (100::ke) s.now)))) (EO m s 4 c n ke va e (rows++[(1,100::ke,match dget (100::ke) s.now with|none=>va|some o=>o++va)]) w'):=by
 have op:=zfY X (s:=s) (k:=4) (by decide) hl
 induction q:dget (100::ke) s.now with
 |none=>
  rw[q] at op
  exact ⟨_,cb (zaF X) 0 60 [0,1,2,3,4,5,6] [.con (.int 0),.b false,.con (.int 5),.b false,.con (.int 6),.b false,.call (.ok (Y (100::ke))) [],.call (.ok (Ob none)) (za1 0 s),.con (.int 1),.b false,.con (.int 2),.b false,.con (.int 3),.b false,.b true,.call (.ok Nn) (wb (rows++[(1,100::ke,va)]) (wput w (100::ke) va)),.con (.int 0),.call (.ok (Y (repB 0 none))) []]
   (happ op (happ (h7 (kc E8 (zdN X)) (show eqI 4 1=false from rfl) (kc E8 (zcC X)) (show eqI 4 2=false from rfl) (kc E8 (zhR X)) (show eqI 4 3=false from rfl) (show (none:Option Byt).isNone=true from rfl)) (h5 (zb5 X).mv ((c_wput X (rows:=rows) (w:=w) (k:=100::ke) (v:=va) (by simp;lia) (by lia) hr).up (n':=4)) (zaV X).kv (kc E8 (zbO X)) (zbU X (k:=0) (e:=none) (by decide) (λ_ h=>nomatch h))))) (os':=EO m s 4 c n ke va e (rows++[(1,100::ke,va)]) (wput w (100::ke) va)) (by kernel_rfl)⟩
 |some o=>
  rw[q] at op;have hol:=ho o q
  exact ⟨_,cb (zaF X) 0 60 [0,1,2,3,4,5,6] [.con (.int 0),.b false,.con (.int 5),.b false,.con (.int 6),.b false,.call (.ok (Y (100::ke))) [],.call (.ok (Ob (some o))) (za1 0 s),.con (.int 1),.b false,.con (.int 2),.b false,.con (.int 3),.b false,.b false,.re "old" (.bytes o),.call (.ok Nn) (wb (rows++[(1,100::ke,o++va)]) (wput w (100::ke) (o++va))),.re "old" (.ob (some o)),.con (.int 0),.call (.ok (Y (repB 0 (some o)))) []]
   (happ op (happ (h7 (kc E8 (zdN X)) (show eqI 4 1=false from rfl) (kc E8 (zcC X)) (show eqI 4 2=false from rfl) (kc E8 (zhR X)) (show eqI 4 3=false from rfl) (show (some o).isNone=false from rfl)) (happ (h4 (show plain (.ob (some o))=plain (.bytes o) from rfl) (zb5 X).mv (show o.length+va.length<=1000000 by lia) ((c_wput X (rows:=rows) (w:=w) (k:=100::ke) (v:=o++va) (by simp;lia) (by simp;lia) hr).up (n':=4))) (h4 (show plain (.bytes o)=plain (.ob (some o)) from rfl) (zaV X).kv (kc E8 (zbO X)) (zbU X (k:=0) (e:=some o) (by decide) (λb hb=>by injection hb;lia)))))) (os':=EO m s 4 c n ke va e (rows++[(1,100::ke,o++va)]) (wput w (100::ke) (o++va))) (by kernel_rfl)⟩
theorem c_eff{m:MM}{s:SO}{k c n:Int}{ke va:Byt}{e:Option Byt}{rows:List Op3}{w:Int}(hk:0<=k/\k<=6)(hl:ke.length<100)(hv:va.length<20)(ho:∀b,dget (100::ke) s.now=some b->b.length<100)(hr:rows.length<1000):
  ∃w',CallOK cx 5 (.mt "Machine" "do_effect") [.r 0,.r 4,.r 5] (EO m s k c n ke va e rows w) (.ok (Y (repB (effR s.now k ke va e).1 (effR s.now k ke va e).2.1))) (EO m s k c n ke va e (rows++(effR s.now k ke va e).2.2) w'):=by
 have hs:zbL (dget (100::ke) s.now):=λb hb=>by have:=ho b hb;lia
 have:k=0\/k=1\/k=2\/k=3\/k=4\/k=5\/k=6:=by lia
 rcases this with rfl|rfl|rfl|rfl|rfl|rfl|rfl
 ·exact ⟨w,by show CallOK cx 5 _ _ _ (.ok (Y (repB 0 none))) (EO m s 0 c n ke va e (rows++[]) w);rw[List.append_nil];exact c_eff0 X (.inl rfl)⟩
 ·exact ⟨_,c_eff1 X hl (by lia) hs hr⟩
 ·exact c_eff2 X hl hs hr
 ·obtain ⟨w',h⟩:=c_eff3 X (m:=m) (s:=s) (c:=c) (n:=n) (ke:=ke) (va:=va) (e:=e) (rows:=rows) (w:=w) hl (by lia) hs hr
  refine ⟨w',?_⟩;show CallOK cx 5 _ _ _ (.ok (Y (repB (bif eqO (dget (100::ke) s.now) e then (0,dget (100::ke) s.now,[((1:Int),100::ke,va)]) else (1,dget (100::ke) s.now,[])).1 (bif eqO (dget (100::ke) s.now) e then (0,dget (100::ke) s.now,[((1:Int),100::ke,va)]) else (1,dget (100::ke) s.now,[])).2.1))) (EO m s 3 c n ke va e (rows++(bif eqO (dget (100::ke) s.now) e then (0,dget (100::ke) s.now,[((1:Int),100::ke,va)]) else ((1:Int),dget (100::ke) s.now,[])).2.2) w')
  cases q:eqO (dget (100::ke) s.now) e <;> rw[q] at h <;> exact h
 ·exact c_eff4 X hl hv ho hr
 ·exact ⟨w,by show CallOK cx 5 _ _ _ (.ok (Y (repB 0 none))) (EO m s 5 c n ke va e (rows++[]) w);rw[List.append_nil];exact c_eff0 X (.inr (.inl rfl))⟩
 ·exact ⟨w,by show CallOK cx 5 _ _ _ (.ok (Y (repB 0 none))) (EO m s 6 c n ke va e (rows++[]) w);rw[List.append_nil];exact c_eff0 X (.inr (.inr rfl))⟩
end
end
section
open PySem PySem.W PyProof.Rows
section
variable{cx:Cx}{P:PySem.Params}(X:On cx P)
noncomputable abbrev SRow (cx:Cx) (m:MM) (s:SO) (w:Bool) (la:Int) (z:Bool) (rp:Byt):Prop:=CallOK cx 5 (.mt "Machine" "session_row") [.r 0,I (cliN w)] (zaG m s) (.ok (.d (.tup [.int la,.bool z,.bytes rp]))) (zaG m s)
noncomputable abbrev DoC(cx:Cx)(m:MM)(s:SO)(k n:Int)(wh:Bool)(ke va:Byt)(e:Option Byt)(rows:List Op3)(w:Int)(r:Byt)(rows':List Op3)(w':Int):Prop:=
 CallOK cx 6 (.mt "Machine" "do_command") [.r 0,.r 4,.r 5] (EO m s k (cliN wh) n ke va e rows w) (.ok (Y r)) (EO m s k (cliN wh) n ke va e rows' w')
noncomputable abbrev E7:Option Stmt:=za7 73 7
include X
theorem c_do_again{m:MM}{s:SO}{k n la:Int}{wh z:Bool}{ke va rp:Byt}{e:Option Byt}{rows:List Op3}{w:Int}(hs:SRow cx m s wh la z rp)(h:n=la):DoC cx m s k n wh ke va e rows w rp rows w:=
 cb (zaY X) 0 60 [0,1,2,3,4,5,6] [.call (.ok (.d (.tup [.int la,.bool z,.bytes rp]))) (zaG m s),.b true] (h3 (zaQ X).mv hs (show eqI n la=true from decide_eq_true h)) (by kernel_rfl)
theorem c_do_stale{m:MM}{s:SO}{k n la:Int}{wh z:Bool}{ke va rp:Byt}{e:Option Byt}{rows:List Op3}{w:Int}(hs:SRow cx m s wh la z rp)(h:n<la):DoC cx m s k n wh ke va e rows w (repB 3 none) rows w:=
 cb (zaY X) 0 60 [0,1,2,3,4,5,6] [.call (.ok (.d (.tup [.int la,.bool z,.bytes rp]))) (zaG m s),.b false,.b true,.con (.int 3),.call (.ok (Y (repB 3 none))) []]
  (h7 (zaQ X).mv hs (show eqI n la=false from eqIf (by lia)) (lti h) (zaV X).kv (kc E7 (zdD X)) ((zeY X (k:=3) (by decide)).up (n':=5))) (by kernel_rfl)
theorem c_do_unknown{m:MM}{s:SO}{k n la:Int}{wh:Bool}{ke va rp:Byt}{e:Option Byt}{rows:List Op3}{w:Int}(hs:SRow cx m s wh la false rp)(h:la<n)(hk:k≠5):DoC cx m s k n wh ke va e rows w (repB 2 none) rows w:=
 cb (zaY X) 0 60 [0,1,2,3,4,5,6] [.call (.ok (.d (.tup [.int la,.bool false,.bytes rp]))) (zaG m s),.b false,.b false,.b false,.con (.int 5),.b true,.con (.int 2),.call (.ok (Y (repB 2 none))) []]
  (happ (h5 (zaQ X).mv hs (show eqI n la=false from eqIf (by lia)) (nlti (show la<=n by lia)) (show false=false from rfl)) (h5 (kc E7 (zeK X)) (show (!(eqI k 5))=true by rw[eqIf hk];rfl) (zaV X).kv (kc E7 (zcG X)) ((zeY X (k:=2) (by decide)).up (n':=5)))) (by kernel_rfl)
theorem c_do_new{m:MM}{s:SO}{k n la:Int}{wh z:Bool}{ke va rp:Byt}{e:Option Byt}{rows:List Op3}{w:Int}(hs:SRow cx m s wh la z rp)(h:la<n)(hz:z=true\/k=5)(hn:0<=n/\n<128)
  (hk:0<=k/\k<=6) (hl:ke.length<100) (hv:va.length<20) (ho:∀b,dget (100::ke) s.now=some b->b.length<100) (hr:rows.length<500) :
  ∃w',DoC cx m s k n wh ke va e rows w (repB (effR s.now k ke va e).1 (effR s.now k ke va e).2.1) (rows++(effR s.now k ke va e).2.2++[(1,skey wh,sesB n (!eqI k 6) (repB (effR s.now k ke va e).1 (effR s.now k ke va e).2.1))]) w':=by
 obtain ⟨w1,he⟩:=c_eff X (m:=m) (s:=s) (k:=k) (c:=cliN wh) (n:=n) (ke:=ke) (va:=va) (e:=e) (rows:=rows) (w:=w) hk hl hv ho (by lia)
 have ob:∀b,(effR s.now k ke va e).2.1=some b->b.length<100:=by
  intro b
  have:(effR s.now k ke va e).2.1=none\/(effR s.now k ke va e).2.1=dget (100::ke) s.now:=by
   unfold effR
   repeat' (first|(cases eqI k 0||(eqI k 5||eqI k 6) <;> dsimp only[cond])|(cases eqI k 1 <;> dsimp only[cond])|(cases eqI k 2 <;> dsimp only[cond])|(cases eqI k 3 <;> dsimp only[cond])|(cases eqO (dget (100::ke) s.now) e <;> dsimp only[cond]))
   all_goals first|exact .inl rfl|exact .inr rfl
  rcases this with q|q <;> rw[q]
  ·exact λh=>nomatch h
  ·exact ho b
 have el:(effR s.now k ke va e).2.2.length<=1:=by
  unfold effR
  repeat' (first|(cases eqI k 0||(eqI k 5||eqI k 6) <;> dsimp only[cond])|(cases eqI k 1 <;> dsimp only[cond])|(cases eqI k 2 <;> dsimp only[cond])|(cases eqI k 3 <;> dsimp only[cond])|(cases eqO (dget (100::ke) s.now) e <;> dsimp only[cond])|(cases (dget (100::ke) s.now).isSome <;> dsimp only[cond]))
  all_goals simp
 generalize hE:effR s.now k ke va e=E at *;obtain ⟨co,old,op⟩:=E
 have rl:(repB co old).length<128:=by
  induction old with
  |none=>simp[repB,mbB]
  |some b=>have:=ob b rfl;simp[repB,mbB];lia
 have tail:Holds [∃fv,zc7 cx "Machine" "do_effect" fv,CallOK cx 5 (.mt "Machine" "do_effect") [.r 0,.r 4,.r 5] (EO m s k (cliN wh) n ke va e rows w) (.ok (Y (repB co old))) (EO m s k (cliN wh) n ke va e (rows++op) w1),∃fv,FnVal cx "encode_session" fv,HasCon cx E7 "CMD_CLOSE" (.int 6),CallOK cx 5 (.fn "encode_session") [I n,Bo (!eqI k 6),Y (repB co old)] [] (.ok (Y (sesB n (!eqI k 6) (repB co old)))) [],
   ∃fv,zc7 cx "WriteBatch" "put" fv,∃fv,FnVal cx "session_key" fv,CallOK cx 5 (.fn "session_key") [I (cliN wh)] [] (.ok (Y (skey wh))) [],CallOK cx 5 (.mt "WriteBatch" "put") [.r 0,Y (skey wh),Y (sesB n (!eqI k 6) (repB co old))] (wb (rows++op) w1) (.ok Nn) (wb (rows++op++[(1,skey wh,sesB n (!eqI k 6) (repB co old))]) (wput w1 (skey wh) (sesB n (!eqI k 6) (repB co old))))]:=
  happ (h5 (zaF X).mv he (zfC X).kv (kc E7 (zdO X)) ((c_encode_session X (n:=n) (z:=!eqI k 6) (r:=repB co old) hn rl).up (n':=5))) (h4 (zb5 X).mv (zcJ X).kv ((zeX X wh).up (n':=5)) ((c_wput X (rows:=rows++op) (w:=w1) (k:=skey wh) (v:=sesB n (!eqI k 6) (repB co old)) (by cases wh <;> decide) (by
   induction old with
   |none=>simp[sesB,repB,mbB]
   |some b=>have:=ob b rfl;simp[sesB,repB,mbB];lia) (by have:op.length<=1:=el;simp;lia)).up (n':=5)))
 refine ⟨wput w1 (skey wh) (sesB n (!eqI k 6) (repB co old)),?_⟩;induction z with
 |true=>
  exact cb (zaY X) 0 60 [0,1,2,3,4,5,6] [.call (.ok (.d (.tup [.int la,.bool true,.bytes rp]))) (zaG m s),.b false,.b false,.b true,.call (.ok (Y (repB co old))) (EO m s k (cliN wh) n ke va e (rows++op) w1),.con (.int 6),.call (.ok (Y (sesB n (!eqI k 6) (repB co old)))) [],.call (.ok (Y (skey wh))) [],.call (.ok Nn) (wb (rows++op++[(1,skey wh,sesB n (!eqI k 6) (repB co old))]) (wput w1 (skey wh) (sesB n (!eqI k 6) (repB co old))))]
   (happ (h5 (zaQ X).mv hs (show eqI n la=false from eqIf (by lia)) (nlti (show la<=n by lia)) (show true=true from rfl)) tail) (by kernel_rfl)
 |false=>
  have hk5:k=5:=hz.resolve_left (λh=>nomatch h)
  exact cb (zaY X) 0 60 [0,1,2,3,4,5,6] [.call (.ok (.d (.tup [.int la,.bool false,.bytes rp]))) (zaG m s),.b false,.b false,.b false,.con (.int 5),.b false,.call (.ok (Y (repB co old))) (EO m s k (cliN wh) n ke va e (rows++op) w1),.con (.int 6),.call (.ok (Y (sesB n (!eqI k 6) (repB co old)))) [],.call (.ok (Y (skey wh))) [],.call (.ok Nn) (wb (rows++op++[(1,skey wh,sesB n (!eqI k 6) (repB co old))]) (wput w1 (skey wh) (sesB n (!eqI k 6) (repB co old))))]
   (happ (h7 (zaQ X).mv hs (show eqI n la=false from eqIf (by lia)) (nlti (show la<=n by lia)) (show false=false from rfl) (kc E7 (zeK X)) (show (!(eqI k 5))=false by rw[hk5];rfl)) tail) (by kernel_rfl)
noncomputable abbrev MEo(m:MM)(s:SO)(t i k:Int)(D:Byt):Objs:=zaG m s++[entD t i k D]
noncomputable abbrev E6:Option Stmt:=za7 73 6
inductive NoCmd(cx:Cx)(k:Int)(D:Byt):Prop
 |conf:k=2->NoCmd cx k D
 |empty:k≠2->D=[]->NoCmd cx k D
 |bad:k≠2->D≠[]->CallOK cx 6 (.fn "decode_command") [Y D] [] (.exc "BadCommand") []->NoCmd cx k D
theorem c_cmdof0 {m:MM} {s:SO} {t i k:Int} {D:Byt} (h:NoCmd cx k D):CallOK cx 7 (.mt "Machine" "command_of") [.r 0,.r 4] (MEo m s t i k D) (.ok Nn) (MEo m s t i k D):=by
 induction h with
 |conf h=>exact cb (zaT X) 0 60 [0,1,2,3,4] [.con (.int 2),.b true] (h2 (kc E6 (ze1 X)) (show eqI k 2=true from decide_eq_true h)) (by kernel_rfl)
 |empty h1 h2=>
  subst h2;exact cb (zaT X) 0 60 [0,1,2,3,4] [.con (.int 2),.b false,.b true] (h3 (kc E6 (ze1 X)) (show eqI k 2=false from eqIf h1) (show eqI (lenI ([]:Byt)) 0=true from rfl)) (by kernel_rfl)
 |bad h1 h2 h3=>exact cb (zaT X) 0 60 [0,1,2,3,4] [.con (.int 2),.b false,.b false,.call (.exc "BadCommand") []] (h5 (kc E6 (ze1 X)) (show eqI k 2=false from eqIf h1) (show eqI (lenI D) 0=false from eqIf (by unfold lenI;have:=List.length_pos_iff.mpr h2;lia)) (zb8 X).kv h3) (by kernel_rfl)
theorem c_cmdof {m:MM} {s:SO} {t i k kk c n:Int} {D ke va:Byt} {e:Option Byt} (h1:k≠2) (h2:D≠[]) (h:CallOK cx 5 (.fn "decode_command") [Y D] [] (.ok (.r 0)) [cmD kk c n ke va e]):CallOK cx 7 (.mt "Machine" "command_of") [.r 0,.r 4] (MEo m s t i k D) (.ok (.r 5)) (MEo m s t i k D++[cmD kk c n ke va e]):=
 cb (zaT X) 0 60 [0,1,2,3,4,5] [.con (.int 2),.b false,.b false,.call (.ok (.r 0)) [cmD kk c n ke va e]] (h5 (kc E6 (ze1 X)) (show eqI k 2=false from eqIf h1) (show eqI (lenI D) 0=false from eqIf (by unfold lenI;have:=List.length_pos_iff.mpr h2;lia)) (zb8 X).kv (h.up (n':=6))) (by kernel_rfl)
theorem c_apply_gap {m:MM} {s:SO} {t i k:Int} {D:Byt} (h:i≠m.applied+1) (hi:0<=i/\i<1000) (ha:0<=m.applied/\m.applied<1000):CallOK cx 8 (.mt "Machine" "apply") [.r 0,.r 4,Nn] (MEo m s t i k D) (.exc "AppliedGap") (MEo m s t i k D):=
 cb (zaR X) 0 60 [0,1,2,3,4] [.b true] (h2 (show (!(eqI i (m.applied+1)))=true by rw[eqIf h];rfl) (show 0<=i/\i<10 ^ 10/\0<=m.applied/\m.applied<10 ^ 10 from ⟨hi.1,by lia,ha.1,by lia⟩)) (by kernel_rfl)
noncomputable def MM.next(m:MM)(s:SO)(i t:Int)(cf:Byt):MM:=bif m.sync then (m.at i t cf).mark s else m.at i t cf
end
end
section
open PySem PySem.W PyProof.Rows
section
variable{cx:Cx}{P:PySem.Params}(X:On cx P)
include X
noncomputable abbrev rw1(i t:Int)(cf:Byt):Op3:=(1,[97],rowA i t cf)
theorem ap_tail{m:MM}{s:SO}{i t:Int}{cf:Byt}{rows:List Op3}{w:Int}(hs:s.small)(hi:0<=i/\i<128)(ht:0<=t/\t<128)(hc:cf.length<100)(hr:rows.length<500):
  Holds [∃fv,zc7 cx "Machine" "put_applied" fv,CallOK cx 7 (.mt "Machine" "put_applied") [.r 0,.r 4,I i,I t,Y cf] (zaG m s++wbAt 4 rows w) (.ok Nn) (zaG m s++wbAt 4 (rows++[rw1 i t cf]) (wput w [97] (rowA i t cf))),
   ∃fv,zc7 cx "MemStore" "write" fv,CallOK cx 7 (.mt "MemStore" "write") [.r 0,.r 3,Bo m.sync] (za1 0 s++wbAt 3 (rows++[rw1 i t cf]) (wput w [97] (rowA i t cf))) (.ok (I ((s.write (rows++[rw1 i t cf]) m.sync).last))) (za1 0 (s.write (rows++[rw1 i t cf]) m.sync)++wbAt 3 (rows++[rw1 i t cf]) (wput w [97] (rowA i t cf)))]:=
 h4 (zbY X).mv ((zhJ X (m:=m) (s:=s) (rows:=rows) (w:=w) hi ht hc (by lia)).up (n':=7)) (zc6 X).mv ((c_write X (s:=s) (ops:=rows++[rw1 i t cf]) (w:=wput w [97] (rowA i t cf)) m.sync hs (by simp;lia) (by simp)).up (n':=7))
theorem ap_mark {m:MM} {s:SO} {i t:Int} {cf:Byt} (z:Bool) (hz:m.sync=z):z=true->Holds [m.sync=true,∃fv,zc7 cx "Machine" "mark_durable" fv,CallOK cx 7 (.mt "Machine" "mark_durable") [.r 0] (zaG (m.at i t cf) s) (.ok Nn) (zaG ((m.at i t cf).mark s) s)]:=λe=>
 h3 (show m.sync=true from hz.trans e) (zaA X).mv ((c_mark X (m:=m.at i t cf) (s:=s)).up (n':=7))
omit X in
theorem next1{m:MM}{S:SO}{i t:Int}{cf:Byt}(z:m.sync=true):m.next S i t cf=(m.at i t cf).mark S:=by unfold MM.next;rw[z];rfl
omit X in
theorem next0{m:MM}{S:SO}{i t:Int}{cf:Byt}(z:m.sync=false):m.next S i t cf=m.at i t cf:=by unfold MM.next;rw[z];rfl
theorem c_apply0{m:MM}{s:SO}{t i k:Int}{D:Byt}(hs:s.small)(hx:i=m.applied+1)(hi:0<=i/\i<128)(ht:0<=t/\t<128)(hc:m.conf.length<100)(hn:NoCmd cx k D):
  CallOK cx 8 (.mt "Machine" "apply") [.r 0,.r 4,Nn] (MEo m s t i k D) (.ok Nn) (MEo (m.next (s.write [rw1 i t m.conf] m.sync) i t m.conf) (s.write [rw1 i t m.conf] m.sync) t i k D):=by
 have e0:(!(eqI i (m.applied+1)))=false:=by rw[show eqI i (m.applied+1)=true from decide_eq_true hx];rfl
 have hd:Holds [(!(eqI i (m.applied+1)))=false,false=false,∃fv,FnVal cx "WriteBatch" fv,CallOK cx 7 (.fn "WriteBatch") [] [] (.ok (.r 0)) (wb [] 12),∃fv,zc7 cx "Machine" "command_of" fv,CallOK cx 7 (.mt "Machine" "command_of") [.r 0,.r 4] (MEo m s t i k D) (.ok Nn) (MEo m s t i k D),false=false]:=
  h7 e0 rfl (zd0 X).val ((zdZ X).up (n':=7)) (zaT X).mv (c_cmdof0 X hn) rfl
 have tl:=ap_tail X (m:=m) (s:=s) (i:=i) (t:=t) (cf:=m.conf) (rows:=[]) (w:=12) hs hi ht hc (by decide)
 induction z:m.sync with
 |true=>
  rw[←z,next1 z]
  exact cb (zaR X) 0 60 [0,1,2,3,4] [.b false,.b false,.call (.ok (.r 0)) (wb [] 12),.call (.ok Nn) (MEo m s t i k D),.b false,.call (.ok Nn) (zaG m s++wbAt 4 [rw1 i t m.conf] (wput 12 [97] (rowA i t m.conf))),.call (.ok (I ((s.write [rw1 i t m.conf] m.sync).last))) (za1 0 (s.write [rw1 i t m.conf] m.sync)++wbAt 3 [rw1 i t m.conf] (wput 12 [97] (rowA i t m.conf))),.b true,.call (.ok Nn) (zaG ((m.at i t m.conf).mark (s.write [rw1 i t m.conf] m.sync)) (s.write [rw1 i t m.conf] m.sync))]
   (happ hd (happ tl (ap_mark X (i:=i) (t:=t) (cf:=m.conf) (s:=s.write [rw1 i t m.conf] m.sync) true z rfl))) (by kernel_rfl)
 |false=>
  rw[←z,next0 z]
  exact cb (zaR X) 0 60 [0,1,2,3,4] [.b false,.b false,.call (.ok (.r 0)) (wb [] 12),.call (.ok Nn) (MEo m s t i k D),.b false,.call (.ok Nn) (zaG m s++wbAt 4 [rw1 i t m.conf] (wput 12 [97] (rowA i t m.conf))),.call (.ok (I ((s.write [rw1 i t m.conf] m.sync).last))) (za1 0 (s.write [rw1 i t m.conf] m.sync)++wbAt 3 [rw1 i t m.conf] (wput 12 [97] (rowA i t m.conf))),.b false]
   (happ hd (happ tl (h1 z))) (by kernel_rfl)
theorem c_applyC{m:MM}{s:SO}{t i k:Int}{D:Byt}{l:List Int}(hl:Ids l)(hs:s.small)(hx:i=m.applied+1)(hi:0<=i/\i<128)(ht:0<=t/\t<128)(hn:NoCmd cx k D):
  CallOK cx 8 (.mt "Machine" "apply") [.r 0,.r 4,.r 5] (MEo m s t i k D++zb0 5 l) (.ok Nn) (MEo (m.next (s.write [rw1 i t (zaE l)] m.sync) i t (zaE l)) (s.write [rw1 i t (zaE l)] m.sync) t i k D++zb0 5 l):=by
 have e0:(!(eqI i (m.applied+1)))=false:=by rw[show eqI i (m.applied+1)=true from decide_eq_true hx];rfl
 have q:=hl.few;have hc:(zaE l).length<100:=by unfold zaE idB;simp;lia
 have hd:Holds [(!(eqI i (m.applied+1)))=false,true=true,∃fv,FnVal cx "encode_conf" fv,CallOK cx 7 (.fn "encode_conf") [.r 0] (zb0 0 l) (.ok (Y (zaE l))) (zb0 0 l),∃fv,FnVal cx "WriteBatch" fv,CallOK cx 7 (.fn "WriteBatch") [] [] (.ok (.r 0)) (wb [] 12),∃fv,zc7 cx "Machine" "command_of" fv,CallOK cx 7 (.mt "Machine" "command_of") [.r 0,.r 4] (MEo m s t i k D) (.ok Nn) (MEo m s t i k D),false=false]:=
  happ (h4 e0 rfl (zf2 X).kv ((zhK X hl).up (n':=7))) (h5 (zd0 X).val ((zdZ X).up (n':=7)) (zaT X).mv (c_cmdof0 X hn) rfl)
 have tl:=ap_tail X (m:=m) (s:=s) (i:=i) (t:=t) (cf:=zaE l) (rows:=[]) (w:=12) hs hi ht hc (by decide)
 induction z:m.sync with
 |true=>
  rw[←z,next1 z]
  exact cb (zaR X) 0 60 [0,1,2,3,4,5,6,7,8,9] [.b false,.b true,.call (.ok (Y (zaE l))) (zb0 0 l),.call (.ok (.r 0)) (wb [] 12),.call (.ok Nn) (MEo m s t i k D),.b false,.call (.ok Nn) (zaG m s++wbAt 4 [rw1 i t (zaE l)] (wput 12 [97] (rowA i t (zaE l)))),.call (.ok (I ((s.write [rw1 i t (zaE l)] m.sync).last))) (za1 0 (s.write [rw1 i t (zaE l)] m.sync)++wbAt 3 [rw1 i t (zaE l)] (wput 12 [97] (rowA i t (zaE l)))),.b true,.call (.ok Nn) (zaG ((m.at i t (zaE l)).mark (s.write [rw1 i t (zaE l)] m.sync)) (s.write [rw1 i t (zaE l)] m.sync))]
   (happ hd (happ tl (ap_mark X (i:=i) (t:=t) (cf:=zaE l) (s:=s.write [rw1 i t (zaE l)] m.sync) true z rfl))) (by kernel_rfl)
 |false=>
  rw[←z,next0 z]
  exact cb (zaR X) 0 60 [0,1,2,3,4,5,6,7,8,9] [.b false,.b true,.call (.ok (Y (zaE l))) (zb0 0 l),.call (.ok (.r 0)) (wb [] 12),.call (.ok Nn) (MEo m s t i k D),.b false,.call (.ok Nn) (zaG m s++wbAt 4 [rw1 i t (zaE l)] (wput 12 [97] (rowA i t (zaE l)))),.call (.ok (I ((s.write [rw1 i t (zaE l)] m.sync).last))) (za1 0 (s.write [rw1 i t (zaE l)] m.sync)++wbAt 3 [rw1 i t (zaE l)] (wput 12 [97] (rowA i t (zaE l)))),.b false]
   (happ hd (happ tl (h1 z))) (by kernel_rfl)
theorem c_apply{m:MM}{s:SO}{t i k kk n:Int}{D ke va r:Byt}{e:Option Byt}{wh:Bool}{rows:List Op3}{w:Int}(hs:s.small)(hx:i=m.applied+1)(hi:0<=i/\i<128)(ht:0<=t/\t<128)(hc:m.conf.length<100)(hr:rows.length<500)
  (k2:k≠2) (hD:D≠[]) (hd:CallOK cx 5 (.fn "decode_command") [Y D] [] (.ok (.r 0)) [cmD kk (cliN wh) n ke va e]) (hdo:DoC cx m s kk n wh ke va e [] 12 r rows w) :
  CallOK cx 8 (.mt "Machine" "apply") [.r 0,.r 4,Nn] (MEo m s t i k D) (.ok (Y r)) (MEo (m.next (s.write (rows++[rw1 i t m.conf]) m.sync) i t m.conf) (s.write (rows++[rw1 i t m.conf]) m.sync) t i k D):=by
 have e0:(!(eqI i (m.applied+1)))=false:=by rw[show eqI i (m.applied+1)=true from decide_eq_true hx];rfl
 have hd:Holds [(!(eqI i (m.applied+1)))=false,false=false,∃fv,FnVal cx "WriteBatch" fv,CallOK cx 7 (.fn "WriteBatch") [] [] (.ok (.r 0)) (wb [] 12),∃fv,zc7 cx "Machine" "command_of" fv,CallOK cx 7 (.mt "Machine" "command_of") [.r 0,.r 4] (MEo m s t i k D) (.ok (.r 5)) (MEo m s t i k D++[cmD kk (cliN wh) n ke va e]),true=true,
   ∃fv,zc7 cx "Machine" "do_command" fv,CallOK cx 7 (.mt "Machine" "do_command") [.r 0,.r 4,.r 5] (EO m s kk (cliN wh) n ke va e [] 12) (.ok (Y r)) (EO m s kk (cliN wh) n ke va e rows w)]:=
  happ (h7 e0 rfl (zd0 X).val ((zdZ X).up (n':=7)) (zaT X).mv (c_cmdof X k2 hD hd) rfl) (h2 (zaY X).mv (hdo.up (n':=7)))
 have tl:=ap_tail X (m:=m) (s:=s) (i:=i) (t:=t) (cf:=m.conf) (rows:=rows) (w:=w) hs hi ht hc hr;induction z:m.sync with
 |true=>
  rw[←z,next1 z]
  exact cb (zaR X) 0 60 [0,1,2,3,4] [.b false,.b false,.call (.ok (.r 0)) (wb [] 12),.call (.ok (.r 5)) (MEo m s t i k D++[cmD kk (cliN wh) n ke va e]),.b true,.call (.ok (Y r)) (EO m s kk (cliN wh) n ke va e rows w),.call (.ok Nn) (zaG m s++wbAt 4 (rows++[rw1 i t m.conf]) (wput w [97] (rowA i t m.conf))),.call (.ok (I ((s.write (rows++[rw1 i t m.conf]) m.sync).last))) (za1 0 (s.write (rows++[rw1 i t m.conf]) m.sync)++wbAt 3 (rows++[rw1 i t m.conf]) (wput w [97] (rowA i t m.conf))),.b true,.call (.ok Nn) (zaG ((m.at i t m.conf).mark (s.write (rows++[rw1 i t m.conf]) m.sync)) (s.write (rows++[rw1 i t m.conf]) m.sync))]
   (happ hd (happ tl (ap_mark X (i:=i) (t:=t) (cf:=m.conf) (s:=s.write (rows++[rw1 i t m.conf]) m.sync) true z rfl))) (by kernel_rfl)
 |false=>
  rw[←z,next0 z]
  exact cb (zaR X) 0 60 [0,1,2,3,4] [.b false,.b false,.call (.ok (.r 0)) (wb [] 12),.call (.ok (.r 5)) (MEo m s t i k D++[cmD kk (cliN wh) n ke va e]),.b true,.call (.ok (Y r)) (EO m s kk (cliN wh) n ke va e rows w),.call (.ok Nn) (zaG m s++wbAt 4 (rows++[rw1 i t m.conf]) (wput w [97] (rowA i t m.conf))),.call (.ok (I ((s.write (rows++[rw1 i t m.conf]) m.sync).last))) (za1 0 (s.write (rows++[rw1 i t m.conf]) m.sync)++wbAt 3 (rows++[rw1 i t m.conf]) (wput w [97] (rowA i t m.conf))),.b false]
   (happ hd (happ tl (h1 z))) (by kernel_rfl)
noncomputable abbrev rowsS:Option Stmt:=getT (zbM (za7 73 12)) 1
theorem rows_loop{m:MM}{s:SO}{kv:List (Byt×Byt)}{lv:Nat}:∀(r:List (Byt×Byt)) (p:List (Byt×Byt)),p.length+r.length<3000 ->
  LR cx (za7 73 12) lv 0 6 rowsS (.r 5) (kv.map Ty.kv.emb) (r.map Ty.kv.emb) [("self",.r 0),("found",.r 4)] (zaG m s++[.tl .kv p,.tl .kv kv]) .next [("self",.r 0),("found",.r 4)] (zaG m s++[.tl .kv (p++r.map λx=>(sl x.1 (some 1) none,x.2)),.tl .kv kv]):=by
 intro l;induction l with
 |nil=>
  intro p _;rw[show p++List.map (λx:Byt×Byt=>(sl x.1 (some 1) none,x.2)) []=p from List.append_nil p]
  exact .done (κ:=[0,1,2,3,4,5]) (ns:=["self", "found"]) rfl (by kernel_rfl)
 |cons hd r ih=>
  obtain ⟨k,v⟩:=hd;intro p hl;have ih:=ih (p++[(sl k (some 1) none,v)]) (by simp at hl ⊢;lia)
  rw[List.append_assoc] at ih;exact zaB 40 [0,1,2,3,4,5] ["self", "found"] [.con (.bytes [100])] rfl (h2 (kc (za7 73 12) (zgV X)) (show p.length<1000000 by simp at hl;lia)) (by kernel_rfl) ih
theorem c_rows {m:MM} {s:SO} {kv:List (Byt×Byt)} (h:CallOK cx 1 (.mt "MemStore" "scan") [.r 0,Y [100],Y [101],Nn] (za1 0 s) (.ok (.r 3)) (za1 0 s++[.tl .kv kv])) (hl:kv.length<1000) :
  CallOK cx 2 (.mt "Machine" "rows") [.r 0] (zaG m s) (.ok (.r 4)) (zaG m s++[.tl .kv (kv.map λx=>(sl x.1 (some 1) none,x.2))]):=
 cb (zgF X) 1 60 [0,1,2,3,4] [.reo 4 (.tl .kv []),.con (.bytes [100]),.con (.bytes [101]),.call (.ok (.r 3)) (za1 0 s++[.tl .kv kv]),.loop .next [("self",.r 0),("found",.r 4)] (zaG m s++[.tl .kv (kv.map λx=>(sl x.1 (some 1) none,x.2)),.tl .kv kv])]
  (h6 (show ∃l,(MObj.lst []).plain=some l/\(MObj.tl .kv []).plain=some l from ⟨[],rfl,rfl⟩) (zdR X).mv (kc (za7 73 12) (zgV X)) (kc (za7 73 12) (K_DATA_END X)) h
   (show LP cx (za7 73 12) 1 0 4 rowsS (.r 5) (kv.map Ty.kv.emb) [("self",.r 0),("found",.r 4)] (zaG m s++[.tl .kv [],.tl .kv kv]) .next [("self",.r 0),("found",.r 4)] (zaG m s++[.tl .kv (kv.map λx=>(sl x.1 (some 1) none,x.2)),.tl .kv kv]) from
    lp 6 (by decide) (λi e=>by injection e;decide) rfl trivial (rows_loop X kv [] (by simp;lia)))) (by kernel_rfl)
noncomputable abbrev Ses:=Bool×Int×Bool×Byt
noncomputable def sesKV(x:Ses):Byt×Byt:=(skey x.1,sesB x.2.1 x.2.2.1 x.2.2.2)
noncomputable def seatOf(x:Ses):Int×Int×Bool×Byt:=(cliN x.1,x.2.1,x.2.2.1,x.2.2.2)
noncomputable abbrev sesS:Option Stmt:=getT (zbM (za7 73 13)) 1
theorem ses_loop{m:MM}{s:SO}{kv:List (Byt×Byt)}{lv:Nat}:∀(r:List Ses) (p:List (Int×Int×Bool×Byt)),(∀x∈r,(0<=x.2.1/\x.2.1<128)/\x.2.2.2.length<128)->p.length+r.length<3000 ->
  LR cx (za7 73 13) (lv+4) 0 6 sesS (.r 5) (kv.map Ty.kv.emb) ((r.map sesKV).map Ty.kv.emb) [("self",.r 0),("found",.r 4)] (zaG m s++[.tl .seat p,.tl .kv kv]) .next [("self",.r 0),("found",.r 4)] (zaG m s++[.tl .seat (p++r.map seatOf),.tl .kv kv]):=by
 intro l;induction l with
 |nil=>
  intro p _ _;rw[show p++List.map seatOf []=p from List.append_nil p]
  exact .done (κ:=[0,1,2,3,4,5]) (ns:=["self", "found"]) rfl (by kernel_rfl)
 |cons hd r ih=>
  obtain ⟨wh,n,z,rp⟩:=hd;intro p hx hl;have ih:=ih (p++[(cliN wh,n,z,rp)]) (λx h=>hx x (.tail _ h)) (by simp at hl ⊢;lia)
  rw[List.append_assoc] at ih;have h0:=hx _ (.head _)
  exact zaB 40 [0,1,2,3,4,5] ["self", "found"] [.call (.ok (.d (.tup [.int n,.bool z,.bytes rp]))) [],.call (.ok (I (cliN wh))) []] rfl
   (h5 (zd7 X).kv ((zfA X (n:=n) (z:=z) (r:=rp) h0.1 h0.2).up (n':=lv+4) (by lia)) (zgW X).kv ((c_client_of X wh).up (n':=lv+4) (by lia)) (show p.length<1000000 by simp at hl;lia)) (by kernel_rfl) ih
theorem c_sessions {m:MM} {s:SO} {r:List Ses} (h:CallOK cx 1 (.mt "MemStore" "scan") [.r 0,Y [115],Y [116],Nn] (za1 0 s) (.ok (.r 3)) (za1 0 s++[.tl .kv (r.map sesKV)])) (hx:∀x∈r,(0<=x.2.1/\x.2.1<128)/\x.2.2.2.length<128) (hl:r.length<1000) :
  CallOK cx 5 (.mt "Machine" "sessions") [.r 0] (zaG m s) (.ok (.r 4)) (zaG m s++[.tl .seat (r.map seatOf)]):=
 cb (ze4 X) 1 60 [0,1,2,3,4] [.reo 4 (.tl .seat []),.con (.bytes [115]),.con (.bytes [116]),.call (.ok (.r 3)) (za1 0 s++[.tl .kv (r.map sesKV)]),.loop .next [("self",.r 0),("found",.r 4)] (zaG m s++[.tl .seat (r.map seatOf),.tl .kv (r.map sesKV)])]
  (h6 (show ∃l,(MObj.lst []).plain=some l/\(MObj.tl .seat []).plain=some l from ⟨[],rfl,rfl⟩) (zdR X).mv (kc (za7 73 13) (zc3 X)) (kc (za7 73 13) (K_SESSION_END X)) (h.up (n':=4))
   (show LP cx (za7 73 13) 4 0 4 sesS (.r 5) ((r.map sesKV).map Ty.kv.emb) [("self",.r 0),("found",.r 4)] (zaG m s++[.tl .seat [],.tl .kv (r.map sesKV)]) .next [("self",.r 0),("found",.r 4)] (zaG m s++[.tl .seat (r.map seatOf),.tl .kv (r.map sesKV)]) from
    lp 6 (by decide) (λi e=>by injection e;decide) rfl trivial (ses_loop X (lv:=0) r [] hx (by simp;lia)))) (by kernel_rfl)
noncomputable def SO.replay(l:List (List Op3)):SO:=l.foldl SO.take .new
noncomputable abbrev cutS:Option Stmt:=getT (zbM (za7 75 7)) 2
theorem cut_loop{s:SO}{b:List (List Op3)}{y kp:Int}{lv:Nat}:∀(r:List (List Op3)) (s':SO),s'.now.length+(r.map List.length).sum<900->s'.bats.length+r.length<900 ->
  LR cx (za7 75 7) (lv+1) 0 7 cutS (.r 6) (b.map Ty.ops.emb) (r.map Ty.ops.emb) [("self",.r 0),("pick",I y),("keep",I kp),("other",.r 3)] (za1 0 s++za1 3 s'++[.tl .ops b]) .next [("self",.r 0),("pick",I y),("keep",I kp),("other",.r 3)] (za1 0 s++za1 3 (r.foldl SO.take s')++[.tl .ops b]):=by
 intro l;induction l with
 |nil=>exact @λs' _ _=>.done (κ:=[0,1,2,3,4,5,6]) (ns:=["self", "pick", "keep", "other"]) rfl (by kernel_rfl)
 |cons o r ih=>
  intro s' h1 h2'
  have hop:∀(ops:List Op3) (now:List (Byt×Byt)),(ze7 now ops).length<=now.length+ops.length:=by
   intro ops;induction ops with
   |nil=>intro now;exact Nat.le_refl _
   |cons a q ih=>
    intro now;have:=ih (op1 now a);have h:=op1_len now a;show (ze7 (op1 now a) q).length<=_
    simp
    lia
  have hn:=hop o s'.now;have e1:(s'.take o).now=ze7 s'.now o:=rfl;have e2:(s'.take o).bats=s'.bats++[o]:=rfl;have ih:=ih (s'.take o) (by simp at h1;rw[e1];lia) (by simp at h2';rw[e2];simp;lia)
  exact zaB 40 [0,1,2,3,4,5,6] ["self", "pick", "keep", "other"] [.call (.ok Nn) (za1 0 (s'.take o))] rfl
   (h2 (zcN X).mv ((c_stake X (s:=s') (ops:=o) ⟨by simp at h1;lia,by simp at h2';lia⟩ (by simp at h1;lia)).up (n':=lv+1) (by lia))) (by kernel_rfl) ih
theorem c_cut{s:SO}{y:Int}{j:Nat}(hj:s.kept+y.fmod (lenI s.bats - s.kept+1)=(j:Int))(hj2:j<=s.bats.length)(hne:lenI s.bats - s.kept+1≠0)(h1:((s.bats.take j).map List.length).sum<900)(h2':s.bats.length<900):
  CallOK cx 3 (.mt "MemStore" "cut") [.r 0,I y] (za1 0 s) (.ok (.r 3)) (za1 0 s++za1 3 (SO.replay (s.bats.take j)).sync):=by
 have e:sl s.bats none (some (s.kept+y.fmod (lenI s.bats - s.kept+1)))=s.bats.take j:=by
  rw[hj];unfold sl;dsimp only
  have q:zbT s.bats.length (j:Int)=j:=by
   unfold zbT;rw[nlti (show (0:Int)<=(j:Int) by lia),nlti (show (j:Int)<=(s.bats.length:Int) by lia)]
   simp
  rw[q,List.drop_zero,Nat.sub_zero]
 have L:=cut_loop X (s:=s) (b:=s.bats.take j) (y:=y) (kp:=s.kept+y.fmod (lenI s.bats - s.kept+1)) (lv:=1) (s.bats.take j) .new (by simpa[SO.new] using h1) (by simp[SO.new];lia)
 rw[←e] at L ⊢
 exact cb (zgE X) 1 60 [0,1,2,3,4,5] [.call (.ok (.r 0)) (za1 0 .new),.loop .next [("self",.r 0),("pick",I y),("keep",I (s.kept+y.fmod (lenI s.bats - s.kept+1))),("other",.r 3)] (za1 0 s++za1 3 (SO.replay (sl s.bats none (some (s.kept+y.fmod (lenI s.bats - s.kept+1)))))++[.tl .ops (sl s.bats none (some (s.kept+y.fmod (lenI s.bats - s.kept+1))))]),.call (.ok Nn) (za1 0 (SO.replay (sl s.bats none (some (s.kept+y.fmod (lenI s.bats - s.kept+1))))).sync)]
  (h6 hne (zg1 X).val (c_MemStore X)
   (show LP cx (za7 75 7) 2 0 3 cutS (.r 6) ((sl s.bats none (some (s.kept+y.fmod (lenI s.bats - s.kept+1)))).map Ty.ops.emb) [("self",.r 0),("pick",I y),("keep",I (s.kept+y.fmod (lenI s.bats - s.kept+1))),("other",.r 3)] (za1 0 s++za1 3 .new++[.tl .ops (sl s.bats none (some (s.kept+y.fmod (lenI s.bats - s.kept+1))))]) .next [("self",.r 0),("pick",I y),("keep",I (s.kept+y.fmod (lenI s.bats - s.kept+1))),("other",.r 3)] (za1 0 s++za1 3 (SO.replay (sl s.bats none (some (s.kept+y.fmod (lenI s.bats - s.kept+1)))))++[.tl .ops (sl s.bats none (some (s.kept+y.fmod (lenI s.bats - s.kept+1))))]) from
    lp 7 (by decide) (λi e=>by injection e;decide) rfl trivial L)
   (zcO X).mv ((c_ssync X (s:=SO.replay (sl s.bats none (some (s.kept+y.fmod (lenI s.bats - s.kept+1)))))).up (n':=2))) (by kernel_rfl)
end
end
section
open PySem PySem.W PyProof.Rows
theorem CallOK.retype{cx:Cx}{n:Nat}{key:Key}{avs:List AV}{o o':MObj}{l:List PV}(h:CallOK cx n key avs [] (.ok (.r 0)) [o])(e:o.plain=some l)(e':o'.plain=some l):CallOK cx n key avs [] (.ok (.r 0)) [o']:=by
 intro fv hk f hf hl A hA g m news Z ρ μ hh tk vs Q E B ab F N R lv hv hok hexc;refine h fv hk f hf hl A hA g m news Z ρ μ hh tk vs Q E B ab F N R lv hv ?_ (λ_ _ _ _ _ _ _ _ _ _ ec=>by cases ec)
 intro v h' tk' g' news' Z' ρ' μ' a ea T' B' F' N' R' K' hva;refine hok v h' tk' g' news' Z' ρ' μ' a ea T' B' F' N' ⟨R'.nd,R'.zin,R'.zmu,R'.zcl,R'.mcl,R'.mnd,R'.lr,R'.lm,λi x hx=>?_⟩ K' hva
 induction i using Nat.casesAuxOn with
 |succ i=>simp at hx
 |zero=>
  injection hx;obtain ⟨a,d,q1,q2,q3⟩:=R'.ob 0 o rfl;exact ⟨a,d,q1,q2,q3.rw e e'⟩
noncomputable def lClients:List Int:=[5,72057594037928194]
noncomputable def lTokens:List Byt:=[[5],[130,130,128,128,128,128,128,128,1]]
noncomputable def lKeys:List Byt:=[[],[107]]
noncomputable def lWords:List Byt:=[[120],[],[120,121]]
noncomputable def lExpects:List (Option Byt):=[none,some [],some [120],some [120,121]]
noncomputable def lKinds:List Int:=[4,1,3,3,2,4,6,5,0,3]
noncomputable def lSteps:List Int:=[1,0,1,2,1,-1]
noncomputable def zaP(nums:List Int)(i:Int):Int:=nums.getD (atI nums.length (i.fmod (lenI nums))) 0+31*i.fdiv (lenI nums)
section
variable{cx:Cx}{P:PySem.Params}(X:On cx P)
include X
theorem c_clients:CallOK cx 1 (.fn "_law_clients") [] [] (.ok (.r 0)) [.tl .int lClients]:=
 (cb (zeA X) 0 40 [0] [] (os':=[.lst [.int 5,.int 72057594037928194]]) hnil (by kernel_rfl)).retype (l:=[.int 5,.int 72057594037928194]) rfl rfl
theorem c_tokens:CallOK cx 1 (.fn "_law_tokens") [] [] (.ok (.r 0)) [.tl .byt lTokens]:=
 (cb (zhU X) 0 40 [0] [] (os':=[.lst [.bytes [5],.bytes [130,130,128,128,128,128,128,128,1]]]) hnil (by kernel_rfl)).retype rfl rfl
theorem c_keys:CallOK cx 1 (.fn "_law_keys") [] [] (.ok (.r 0)) [.tl .byt lKeys]:=
 (cb (zgX X) 0 40 [0] [] (os':=[.lst [.bytes [],.bytes [107]]]) hnil (by kernel_rfl)).retype rfl rfl
theorem c_words:CallOK cx 1 (.fn "_law_words") [] [] (.ok (.r 0)) [.tl .byt lWords]:=
 (cb (F__law_words X) 0 40 [0] [] (os':=[.lst [.bytes [120],.bytes [],.bytes [120,121]]]) hnil (by kernel_rfl)).retype rfl rfl
theorem c_expects:CallOK cx 1 (.fn "_law_expects") [] [] (.ok (.r 0)) [.tl .ob lExpects]:=
 (cb (zgD X) 0 40 [0] [] (os':=[.lst [.none,.bytes [],.bytes [120],.bytes [120,121]]]) hnil (by kernel_rfl)).retype rfl rfl
theorem c_kinds:CallOK cx 1 (.fn "_law_kinds") [] [] (.ok (.r 0)) [.tl .int lKinds]:=
 (cb (F__law_kinds X) 0 40 [0] [] (os':=[.lst [.int 4,.int 1,.int 3,.int 3,.int 2,.int 4,.int 6,.int 5,.int 0,.int 3]]) hnil (by kernel_rfl)).retype rfl rfl
theorem c_steps:CallOK cx 1 (.fn "_law_steps") [] [] (.ok (.r 0)) [.tl .int lSteps]:=
 (cb (F__law_steps X) 0 40 [0] [] (os':=[.lst [.int 1,.int 0,.int 1,.int 2,.int 1,.int (-1)]]) hnil (by kernel_rfl)).retype rfl rfl
end
end
section
open PySem PySem.W PyProof.Rows
noncomputable abbrev zgM(done:List Row)(j:Nat):Row:=done.getD (atI done.length (j:Int)) (Ty.dflt .row)
noncomputable def zd5(key:Byt):List Row->Byt->Bool->Option Byt×Byt×Bool
 |[],t,g=>(none,t,g)
 |r::rs,t,g=>bif !eqB r.key key then zd5 key rs t g else bif !eqI r.code 0 then zd5 key rs t g
  else bif eqI r.kind 4 then zd5 key rs (r.word++t) true
  else bif eqI r.kind 1 then (some (r.word++t),t,g) else bif eqI r.kind 3 then (some (r.word++t),t,g)
  else bif eqI r.kind 2 then (none,t,g) else zd5 key rs t g
theorem valGo_cons(key:Byt)(r:Row)(rs:List Row)(t:Byt)(g:Bool):zd5 key (r::rs) t g=(bif !eqB r.key key then zd5 key rs t g else bif !eqI r.code 0 then zd5 key rs t g
  else bif eqI r.kind 4 then zd5 key rs (r.word++t) true
  else bif eqI r.kind 1 then (some (r.word++t),t,g) else bif eqI r.kind 3 then (some (r.word++t),t,g)
  else bif eqI r.kind 2 then (none,t,g) else zd5 key rs t g):=rfl
noncomputable def zaN(done:List Row)(key:Byt):Option Byt:=match zd5 key done.reverse [] false with
 |(some b,_,_)=>some b
 |(none,t,g)=>bif g then some t else none
noncomputable def dn:Nat->List DV
 |0=>[]
 |n+1=>.int (n:Int)::dn n
theorem downTo_dn(n:Nat):zf8 ((n:Int) - 1) (-1)=dn n:=by
 unfold zf8;rw[show ((n:Int) - 1 - -1).toNat=n by lia]
 induction n with
 |zero=>rfl
 |succ n ih=>
  rw[List.range_succ_eq_map,List.map_cons,List.map_map];unfold dn;rw[←ih]
  congr 1
  ·show DV.int (((n+1:Nat):Int) - 1 - ((0:Nat):Int))=DV.int (n:Int)
   congr 1;lia
  ·refine List.map_congr_left λi _=>?_
   show DV.int (((n+1:Nat):Int) - 1 - ((i+1:Nat):Int))=DV.int ((n:Int) - 1 - (i:Int))
   congr 1;lia
theorem atI_nat(n j:Nat):atI n (j:Int)=j:=by
 unfold atI;rw[nlti (show (0:Int)<=(j:Int) by lia)]
 simp
theorem getD_lt{α:Type}{l:List α}{j:Nat}{d:α}(h:j<l.length):l.getD j d=l[j]:=by
 simp only[List.getD_eq_getElem?_getD,List.getElem?_eq_getElem h,Option.getD_some]
theorem rowAt_eq{done:List Row}{j:Nat}(h:j<done.length):zgM done j=done[j]:=by
 unfold zgM;rw[atI_nat];exact getD_lt h
theorem rowAt_rev{done:List Row}{j:Nat}(h:j<done.length):(done.take (j+1)).reverse=zgM done j::(done.take j).reverse:=by
 rw[rowAt_eq h,List.take_succ_eq_append_getElem h,List.reverse_append];rfl
theorem idx_nat{α:Type}{l:List α}{j:Nat}(h:j<l.length):zcD l.length (j:Int):=⟨by lia,by lia⟩
noncomputable def flOf:Option Byt->Fl
 |none=>.next
 |some b=>.ret (Y b)
noncomputable def vE (key t:Byt) (g:Bool):Env':=[("done",.r 0),("key",Y key),("tail",Y t),("grew",Bo g)]
noncomputable abbrev valS:Option Stmt:=getT (zbM (za2 85)) 2
section
variable{cx:Cx}{P:PySem.Params}(X:On cx P)
theorem val_loop{lv:Nat}{done:List Row}{key:Byt}{it:AV}{all:List DV}(hit:zaM [.tl .row done] it=some all)(hw:∀r∈done,r.word.length<=10):∀(j:Nat) (t:Byt) (g:Bool),j<=done.length->t.length+10*j<=10000 ->
  LR cx (za2 85) lv 0 1 valS it all (dn j) (vE key t g) [.tl .row done] (flOf (zd5 key (done.take j).reverse t g).1) (vE key (zd5 key (done.take j).reverse t g).2.1 (zd5 key (done.take j).reverse t g).2.2) [.tl .row done]:=by
 intro l;induction l with
 |zero=>exact @λt g _ _=>.done (κ:=[0]) (ns:=["done", "key", "tail", "grew"]) hit (by kernel_rfl)
 |succ j ih=>
  intro t g hj hl;have hlt:j<done.length:=hj;have ix:=idx_nat hlt;have ih:=ih
  have hm:zgM done j∈done:=by
   rw[rowAt_eq hlt];exact List.getElem_mem hlt
  have hwl:=hw _ hm;have hsum:(zgM done j).word.length+t.length<=1000000:=by lia
  rw[rowAt_rev hlt];rw[valGo_cons];induction q1:eqB (zgM done j).key key with
  |false=>exact lr_cont 60 [0] ["done", "key", "tail", "grew"] [.b true] hit (h2 ix (show (!eqB (zgM done j).key key)=true by rw[q1];rfl)) (by kernel_rfl) (ih t g (by lia) (by lia))
  |true=>
   have e1:(!eqB (zgM done j).key key)=false:=by rw[q1];rfl
   induction q2:eqI (zgM done j).code 0 with
   |false=>exact lr_cont 60 [0] ["done", "key", "tail", "grew"] [.b false,.b true] hit (h3 ix e1 (show (!eqI (zgM done j).code 0)=true by rw[q2];rfl)) (by kernel_rfl) (ih t g (by lia) (by lia))
   |true=>
    have e2:(!eqI (zgM done j).code 0)=false:=by rw[q2];rfl
    induction q3:eqI (zgM done j).kind 4 with
    |true=>exact zaB 60 [0] ["done", "key", "tail", "grew"] [.b false,.b false,.b true] hit (h5 ix e1 e2 q3 hsum) (by kernel_rfl) (ih _ true (by lia) (by rw[List.length_append];lia))
    |false=>
     induction q4:eqI (zgM done j).kind 1 with
     |true=>exact lr_ret 60 [0] ["done", "key", "tail", "grew"] [.b false,.b false,.b false,.b true] hit (h6 ix e1 e2 q3 q4 hsum) (by kernel_rfl)
     |false=>
      induction q5:eqI (zgM done j).kind 3 with
      |true=>exact lr_ret 60 [0] ["done", "key", "tail", "grew"] [.b false,.b false,.b false,.b false,.b true] hit (h7 ix e1 e2 q3 q4 q5 hsum) (by kernel_rfl)
      |false=>
       induction q6:eqI (zgM done j).kind 2 with
       |true=>exact lr_brk 60 [0] ["done", "key", "tail", "grew"] [.b false,.b false,.b false,.b false,.b false,.b true] hit (h7 ix e1 e2 q3 q4 q5 q6) (by kernel_rfl)
       |false=>exact zaB 60 [0] ["done", "key", "tail", "grew"] [.b false,.b false,.b false,.b false,.b false,.b false] hit (h7 ix e1 e2 q3 q4 q5 q6) (by kernel_rfl) (ih t g (by lia) (by lia))
include X
theorem c_value {done:List Row} {key:Byt} (hn:done.length<=100) (hw:∀r∈done,r.word.length<=10):CallOK cx 1 (.fn "_law_value") [.r 0,Y key] [.tl .row done] (.ok (.d (mv (zaN done key)))) [.tl .row done]:=by
 have hit:zaM [.tl .row done] (.d (.rng (lenI done - 1) (-1) (-1)))=some (dn done.length):=by
  rw[←downTo_dn];rfl
 have L:=val_loop (cx:=cx) (lv:=0) (key:=key) hit hw done.length [] false (Nat.le_refl _) (by simp;lia)
 rw[List.take_length,←downTo_dn] at L;have need:(-1:Int)≠0/\(-1:Int).natAbs<1073741824:=by decide
 unfold zaN;generalize zd5 key done.reverse [] false=v at L;obtain ⟨o,t,g⟩:=v;induction o with
 |some b=>
  exact cb (zd2 X) 1 60 [0] [.loop (.ret (Y b)) (vE key t g) [.tl .row done]] (h2 need (show LP cx (za2 85) 0 0 1 valS (.d (.rng (lenI done - 1) (-1) (-1))) (zf8 ((done.length:Int) - 1) (-1)) (vE key [] false) [.tl .row done] (.ret (Y b)) (vE key t g) [.tl .row done] from lp 1 (Nat.le_refl _) (λ_ e=>nomatch e) rfl (by unfold zeW lenI;exact ⟨by lia,by decide⟩) L)) (by kernel_rfl)
 |none=>
  induction g with
  |true=>exact cb (zd2 X) 1 60 [0] [.loop .next (vE key t true) [.tl .row done],.b true] (h3 need (show LP cx (za2 85) 0 0 1 valS (.d (.rng (lenI done - 1) (-1) (-1))) (zf8 ((done.length:Int) - 1) (-1)) (vE key [] false) [.tl .row done] .next (vE key t true) [.tl .row done] from lp 1 (Nat.le_refl _) (λ_ e=>nomatch e) rfl (by unfold zeW lenI;exact ⟨by lia,by decide⟩) L) (show true=true from rfl)) (by kernel_rfl)
  |false=>exact cb (zd2 X) 1 60 [0] [.loop .next (vE key t false) [.tl .row done],.b false] (h3 need (show LP cx (za2 85) 0 0 1 valS (.d (.rng (lenI done - 1) (-1) (-1))) (zf8 ((done.length:Int) - 1) (-1)) (vE key [] false) [.tl .row done] .next (vE key t false) [.tl .row done] from lp 1 (Nat.le_refl _) (λ_ e=>nomatch e) rfl (by unfold zeW lenI;exact ⟨by lia,by decide⟩) L) (show false=false from rfl)) (by kernel_rfl)
end
end
section
open PySem PySem.W PyProof.Rows
noncomputable def za6(done:List Row)(c:Int):List Row:=done.filter λr=>cmpI .Eq (rowJ 1 r) c
noncomputable def ze9(mine:List Row)(n:Int):List Row:=mine.filter λr=>cmpI .Gt (rowJ 2 r) n
noncomputable def findN(n:Int):List Row->Option Row
 |[]=>none
 |r::rs=>bif eqI r.number n then some r else findN n rs
theorem zi6(n:Int)(r:Row)(rs:List Row):findN n (r::rs)=bif eqI r.number n then some r else findN n rs:=rfl
noncomputable abbrev zcT(mine:List Row):Row:=mine.getD (atI mine.length (-1)) (Ty.dflt .row)
noncomputable def zcP(done:List Row)(c n k:Int)(key:Byt)(e:Option Byt):Int×Option Byt×Bool:=
 bif ltI 0 (lenI (ze9 (za6 done c) n)) then (3,none,false)
 else match findN n (za6 done c) with
  |some r=>(r.code,r.old,false)
  |none=>bif !eqI k 5&&(eqI (lenI (za6 done c)) 0||eqI (zcT (za6 done c)).kind 6) then (2,none,false)
   else bif eqI k 0||ltI 4 k then (0,none,true)
   else bif eqI k 3&&!eqO (zaN done key) e then (1,zaN done key,true) else (0,zaN done key,true)
noncomputable def cscR (y:Str):Scope:=⟨.function,[(".0",.local),("row",.local),(y,.free)],false,false,[]⟩
noncomputable abbrev zdP(cx:Cx)(df:Option Stmt)(n d k:Nat)(y:Str)(kk:Nat)(op:CmpOp)(L a b c l:Nat)(it:AV)(rows:List Row)(env:Env')(objs:Objs)(o:MObj):Prop:=
 (zfB cx (zb7 df) n (d+1) k).comp (cscR y) (.Name "row" ⟨L,a,L,a+3⟩) "row" [.Compare (.Subscript (.Name "row" ⟨L,b,L,b+3⟩) (.Constant (.int (kk:Nat)) 0 ⟨L,b+4,L,b+5⟩) ⟨L,b,L,b+6⟩) [op] [.Name y ⟨L,c,L,c+l⟩] ⟨L,b,L,c+l⟩] it (rows.map rowD) env objs o
theorem selEv {cx:Cx} {df:Option Stmt} {n d k:Nat} {y:Str} {kk:Nat} {op:CmpOp} {L a b c l:Nat} {it:AV} {rows:List Row} {env:Env'} {objs:Objs} {v:Int} (hk:kk<3) (ho:cmpKnown op=true) (h1:listy it=true) (h2:zgL (zb7 df) (cscR y) "row"=true) (h3:(cscR y).names.lookup y=some .free) (h4:(zb7 df).names.lookup y=some .cell) (h5:look y env=some (.d (.int v))) (hl:rows.length<=1000) :
  zdP cx df n d k y kk op L a b c l it rows env objs (.tl .row (rows.filter λr=>cmpI op (rowJ kk r) v)):=⟨h1,h2,.sel hk ho h3 h4 h5,by rw[List.length_map];show rows.length<=16000000;lia⟩
noncomputable abbrev zd6(df:Option Stmt)(z:Str)(csc:Scope):Prop:=(zb7 df).names.lookup z=some .local/\(csc.names.any λp=>p.1==z&&(p.2==.local||p.2==.cell))=false
noncomputable def tE (c n k:Int) (key:Byt) (e:Option Byt):Env':=[("done",.r 0),("client",I c),("number",I n),("kind",I k),("key",Y key),("expect",Ob e)]
noncomputable def tE' (c n k:Int) (key:Byt) (e:Option Byt):Env':=[("done",.r 0),("client",I c),("number",I n),("kind",I k),("key",Y key),("expect",Ob e),("mine",.r 1)]
noncomputable abbrev tolS:Option Stmt:=getT (zbM (za2 86)) 2
noncomputable def toF(o:Option Row):Fl:=match o with
 |none=>.next
 |some r=>.ret (.d (.tup [.int r.code,.ob r.old,.bool false]))
section
variable{cx:Cx}{P:PySem.Params}(X:On cx P)
theorem told_loop{lv:Nat}{done mine:List Row}{c n k:Int}{key:Byt}{e:Option Byt}:∀r:List Row,
  LR cx (za2 86) lv 0 2 tolS (.r 1) (mine.map Ty.row.emb) (r.map Ty.row.emb) (tE' c n k key e) [.tl .row done,.tl .row mine] (toF (findN n r)) (tE' c n k key e) [.tl .row done,.tl .row mine]:=by
 intro l;induction l with
 |nil=>exact .done (κ:=[0,1]) (ns:=["done", "client", "number", "kind", "key", "expect", "mine"]) rfl (by kernel_rfl)
 |cons r rs ih=>
  rw[zi6];induction q:eqI r.number n with
  |true=>exact lr_ret 60 [0,1] ["done", "client", "number", "kind", "key", "expect", "mine"] [.b true] rfl (h1 q) (by kernel_rfl)
  |false=>exact zaB 60 [0,1] ["done", "client", "number", "kind", "key", "expect", "mine"] [.b false] rfl (h1 q) (by kernel_rfl) (ih)
theorem told_start{lv:Nat}{done mine ab:List Row}{c n k:Int}{key:Byt}{e:Option Byt}:∀r:List Row,
  LR cx (za2 86) lv 0 2 tolS (.r 1) (mine.map Ty.row.emb) (r.map Ty.row.emb) (tE' c n k key e) [.tl .row done,.tl .row mine,.tl .row ab] (toF (findN n r)) (tE' c n k key e) [.tl .row done,.tl .row mine]
 |[]=>.done (κ:=[0,1]) (ns:=["done", "client", "number", "kind", "key", "expect", "mine"]) rfl (by kernel_rfl)
 |r::rs=>by
  rw[zi6];induction q:eqI r.number n with
  |true=>exact lr_ret 60 [0,1] ["done", "client", "number", "kind", "key", "expect", "mine"] [.b true] rfl (h1 q) (by kernel_rfl)
  |false=>exact zaB 60 [0,1] ["done", "client", "number", "kind", "key", "expect", "mine"] [.b false] rfl (h1 q) (by kernel_rfl) (told_loop rs)
include X
theorem c_told{done:List Row}{c n k:Int}{key:Byt}{e:Option Byt}(hn:done.length<=100)(hw:∀r∈done,r.word.length<=10):
  ∃x:DV,plain x=plain (.ob (zcP done c n k key e).2.1)/\CallOK cx 2 (.fn "_law_told") [.r 0,I c,I n,I k,Y key,Ob e] [.tl .row done] (.ok (.d (.tup [.int (zcP done c n k key e).1,x,.bool (zcP done c n k key e).2.2]))) [.tl .row done]:=by
 have e1:zdP cx (za2 86) 1 0 1 "client" 1 .Eq 650 12 35 45 6 (.r 0) done (tE c n k key e) [.tl .row done] (.tl .row (za6 done c)):=
  selEv (by decide) rfl rfl (by kernel_rfl) (by kernel_rfl) (by kernel_rfl) (by kernel_rfl) (by lia)
 have s1:zd6 (za2 86) "mine" (cscR "client"):=⟨by kernel_rfl,by kernel_rfl⟩
 have hm:(za6 done c).length<=100:=Nat.le_trans (List.length_filter_le _ _) hn
 have e2:zdP cx (za2 86) 1 0 1 "number" 2 .Gt 651 12 35 44 6 (.r 1) (za6 done c) (tE' c n k key e) [.tl .row done,.tl .row (za6 done c)] (.tl .row (ze9 (za6 done c) n)):=
  selEv (by decide) rfl rfl (by kernel_rfl) (by kernel_rfl) (by kernel_rfl) (by kernel_rfl) (by lia)
 have L:=told_start (cx:=cx) (lv:=1) (done:=done) (mine:=za6 done c) (ab:=ze9 (za6 done c) n) (c:=c) (n:=n) (k:=k) (key:=key) (e:=e) (za6 done c)
 have LPv:∀f,toF (findN n (za6 done c))=f->LP cx (za2 86) 1 0 1 tolS (.r 1) ((za6 done c).map Ty.row.emb) (tE' c n k key e) [.tl .row done,.tl .row (za6 done c),.tl .row (ze9 (za6 done c) n)] f (tE' c n k key e) [.tl .row done,.tl .row (za6 done c)]:=λf hf=>
  hf▸lp 2 (by decide) (λi e=>by injection e;decide) rfl trivial L
 have cv:=c_value X (key:=key) hn hw;unfold zcP;generalize hmi:za6 done c=mine at *;generalize hab:ze9 mine n=ab at *;induction q1:ltI 0 (lenI ab) with
 |true=>exact ⟨.none,rfl,cb (zaW X) 1 60 [0] [.comp (.tl .row mine),.comp (.tl .row ab),.b true] (h3 (show zdP cx (za2 86) 1 0 1 "client" 1 .Eq 650 12 35 45 6 (.r 0) done (tE c n k key e) [.tl .row done] (.tl .row mine)/\zd6 (za2 86) "mine" (cscR "client") from ⟨e1,s1⟩) e2 q1) (by kernel_rfl)⟩
 |false=>
  have op:Holds [zdP cx (za2 86) 1 0 1 "client" 1 .Eq 650 12 35 45 6 (.r 0) done (tE c n k key e) [.tl .row done] (.tl .row mine)/\zd6 (za2 86) "mine" (cscR "client"),zdP cx (za2 86) 1 0 1 "number" 2 .Gt 651 12 35 44 6 (.r 1) mine (tE' c n k key e) [.tl .row done,.tl .row mine] (.tl .row ab),ltI 0 (lenI ab)=false]:=h3 ⟨e1,s1⟩ e2 q1
  induction q2:findN n mine with
  |some r=>exact ⟨.ob r.old,rfl,cb (zaW X) 1 60 [0] [.comp (.tl .row mine),.comp (.tl .row ab),.b false,.loop (.ret (.d (.tup [.int r.code,.ob r.old,.bool false]))) (tE' c n k key e) [.tl .row done,.tl .row mine]] (happ op (h1 (LPv _ (by rw[q2])))) (by kernel_rfl)⟩
  |none=>
   have op:=happ op (h1 (LPv .next (by rw[q2];rfl)))
   dsimp only;induction q3:(!eqI k 5&&(eqI (lenI mine) 0||eqI (zcT mine).kind 6)) with
   |true=>
    refine ⟨.none,rfl,?_⟩;obtain ⟨k5,q4⟩:=Bool.and_eq_true_iff.mp q3;induction q5:eqI (lenI mine) 0 with
    |true=>exact cb (zaW X) 1 60 [0] [.comp (.tl .row mine),.comp (.tl .row ab),.b false,.loop .next (tE' c n k key e) [.tl .row done,.tl .row mine],.b true,.b true] (happ op (h2 k5 q5)) (by kernel_rfl)
    |false=>
     rw[q5,Bool.false_or] at q4
     have ix:zcD mine.length (-1):=by
      have:lenI mine≠0:=of_decide_eq_false q5;unfold lenI at this;exact ⟨by lia,by lia⟩
     exact cb (zaW X) 1 60 [0] [.comp (.tl .row mine),.comp (.tl .row ab),.b false,.loop .next (tE' c n k key e) [.tl .row done,.tl .row mine],.b true,.b false,.b true] (happ op (h4 k5 q5 ix q4)) (by kernel_rfl)
   |false=>
    obtain ⟨as,ob,ho,ha⟩:∃(as:List Ans) (ob:List Prop),Holds ob/\((as=[.b false]/\ob=[(!eqI k 5)=false])\/(as=[.b true,.b false,.b false]/\ob=[(!eqI k 5)=true,eqI (lenI mine) 0=false,zcD mine.length (-1),eqI (zcT mine).kind 6=false])):=by
     induction q4:(!eqI k 5) with
     |false=>exact ⟨[.b false],_,h1 q4,.inl ⟨rfl,by rw[q4]⟩⟩
     |true=>
      rw[q4,Bool.true_and] at q3;obtain ⟨q5,q6⟩:=Bool.or_eq_false_iff.mp q3
      have ix:zcD mine.length (-1):=by
       have:lenI mine≠0:=of_decide_eq_false q5;unfold lenI at this;exact ⟨by lia,by lia⟩
      exact ⟨[.b true,.b false,.b false],_,h4 q4 q5 ix q6,.inr ⟨rfl,by rw[q4]⟩⟩
    have cvx:CallOK cx 1 (.fn "_law_value") [.r 0,Y key] [.tl .row done] (.ok (.d (mv (zaN done key)))) [.tl .row done]:=cv
    generalize hv:zaN done key=old at *;induction q7:(eqI k 0||ltI 4 k) with
    |true=>
     refine ⟨.none,rfl,?_⟩;induction q8:eqI k 0 with
     |true=>
      rcases ha with ⟨rfl,rfl⟩|⟨rfl,rfl⟩
      ·exact cb (zaW X) 1 60 [0] (aL [.comp (.tl .row mine),.comp (.tl .row ab),.b false,.loop .next (tE' c n k key e) [.tl .row done,.tl .row mine]]++aL [.b false]++aL [.b true]) (happ (happ op ho) (h1 q8)) (by kernel_rfl)
      ·exact cb (zaW X) 1 60 [0] (aL [.comp (.tl .row mine),.comp (.tl .row ab),.b false,.loop .next (tE' c n k key e) [.tl .row done,.tl .row mine]]++aL [.b true,.b false,.b false]++aL [.b true]) (happ (happ op ho) (h1 q8)) (by kernel_rfl)
     |false=>
      rw[q8,Bool.false_or] at q7;rcases ha with ⟨rfl,rfl⟩|⟨rfl,rfl⟩
      ·exact cb (zaW X) 1 60 [0] (aL [.comp (.tl .row mine),.comp (.tl .row ab),.b false,.loop .next (tE' c n k key e) [.tl .row done,.tl .row mine]]++aL [.b false]++aL [.b false,.b true]) (happ (happ op ho) (h2 q8 q7)) (by kernel_rfl)
      ·exact cb (zaW X) 1 60 [0] (aL [.comp (.tl .row mine),.comp (.tl .row ab),.b false,.loop .next (tE' c n k key e) [.tl .row done,.tl .row mine]]++aL [.b true,.b false,.b false]++aL [.b false,.b true]) (happ (happ op ho) (h2 q8 q7)) (by kernel_rfl)
    |false=>
     obtain ⟨q8,q9⟩:=Bool.or_eq_false_iff.mp q7;refine ⟨.ob old,by cases (eqI k 3&&!eqO old e) <;> rfl,?_⟩
     have mid:=h5 q8 q9 (zd2 X).kv cvx (mv_same old);induction q10:eqI k 3 with
     |false=>
      rcases ha with ⟨rfl,rfl⟩|⟨rfl,rfl⟩
      ·exact cb (zaW X) 1 60 [0] (aL [.comp (.tl .row mine),.comp (.tl .row ab),.b false,.loop .next (tE' c n k key e) [.tl .row done,.tl .row mine]]++aL [.b false]++aL [.b false,.b false,.call (.ok (.d (mv old))) [.tl .row done],.re "old" (.ob old),.b false]) (happ (happ op ho) (happ mid (h1 q10))) (by kernel_rfl)
      ·exact cb (zaW X) 1 60 [0] (aL [.comp (.tl .row mine),.comp (.tl .row ab),.b false,.loop .next (tE' c n k key e) [.tl .row done,.tl .row mine]]++aL [.b true,.b false,.b false]++aL [.b false,.b false,.call (.ok (.d (mv old))) [.tl .row done],.re "old" (.ob old),.b false]) (happ (happ op ho) (happ mid (h1 q10))) (by kernel_rfl)
     |true=>
      induction q11:(!eqO old e) with
      |true=>
       rcases ha with ⟨rfl,rfl⟩|⟨rfl,rfl⟩
       ·exact cb (zaW X) 1 60 [0] (aL [.comp (.tl .row mine),.comp (.tl .row ab),.b false,.loop .next (tE' c n k key e) [.tl .row done,.tl .row mine]]++aL [.b false]++aL [.b false,.b false,.call (.ok (.d (mv old))) [.tl .row done],.re "old" (.ob old),.b true,.b true]) (happ (happ op ho) (happ mid (h2 q10 q11))) (by kernel_rfl)
       ·exact cb (zaW X) 1 60 [0] (aL [.comp (.tl .row mine),.comp (.tl .row ab),.b false,.loop .next (tE' c n k key e) [.tl .row done,.tl .row mine]]++aL [.b true,.b false,.b false]++aL [.b false,.b false,.call (.ok (.d (mv old))) [.tl .row done],.re "old" (.ob old),.b true,.b true]) (happ (happ op ho) (happ mid (h2 q10 q11))) (by kernel_rfl)
      |false=>
       rcases ha with ⟨rfl,rfl⟩|⟨rfl,rfl⟩
       ·exact cb (zaW X) 1 60 [0] (aL [.comp (.tl .row mine),.comp (.tl .row ab),.b false,.loop .next (tE' c n k key e) [.tl .row done,.tl .row mine]]++aL [.b false]++aL [.b false,.b false,.call (.ok (.d (mv old))) [.tl .row done],.re "old" (.ob old),.b true,.b false]) (happ (happ op ho) (happ mid (h2 q10 q11))) (by kernel_rfl)
       ·exact cb (zaW X) 1 60 [0] (aL [.comp (.tl .row mine),.comp (.tl .row ab),.b false,.loop .next (tE' c n k key e) [.tl .row done,.tl .row mine]]++aL [.b true,.b false,.b false]++aL [.b false,.b false,.call (.ok (.d (mv old))) [.tl .row done],.re "old" (.ob old),.b true,.b false]) (happ (happ op ho) (happ mid (h2 q10 q11))) (by kernel_rfl)
end
end
section
open PySem PySem.W PyProof.Rows
noncomputable abbrev AO(m:MM)(s:SO)(done:List Row)(log:List (Int×Int)):Objs:=zaG m s++[.tl .row done,.tl .pair log]
noncomputable abbrev AE:Env':=[("machine",.r 0),("done",.r 4),("log",.r 5),("rows",.r 6)]
noncomputable abbrev AE2:Env':=[("machine",.r 0),("done",.r 4),("log",.r 5),("rows",.r 6),("seats",.r 8)]
noncomputable abbrev AE3 (c:Int):Env':=[("machine",.r 0),("done",.r 4),("log",.r 5),("rows",.r 6),("seats",.r 8),("client",I c)]
noncomputable abbrev A1o(m:MM)(s:SO)(done:List Row)(log:List (Int×Int))(kv:List (Byt×Byt)):Objs:=AO m s done log++[.tl .kv kv,.tl .byt lKeys]
noncomputable abbrev A2o(m:MM)(s:SO)(done:List Row)(log:List (Int×Int))(kv:List (Byt×Byt))(st:List (Int×Int×Bool×Byt)):Objs:=A1o m s done log kv++[.tl .seat st,.tl .int lClients]
noncomputable abbrev zaD(log:List (Int×Int)):Int×Int:=log.getD (atI log.length (-1)) (Ty.dflt .pair)
noncomputable def kvOf(k:Byt):Option Byt->List (Byt×Byt)
 |none=>[]
 |some b=>[(k,b)]
noncomputable def zfE(done:List Row):List (Byt×Byt):=kvOf [] (zaN done [])++kvOf [107] (zaN done [107])
noncomputable def seatL(done:List Row)(c:Int):List (Int×Int×Bool×Byt):=bif ltI 0 (lenI (za6 done c)) then [(c,(zcT (za6 done c)).number,!eqI (zcT (za6 done c)).kind 6,repB (zcT (za6 done c)).code (zcT (za6 done c)).old)] else []
noncomputable def zf6(done:List Row):List (Int×Int×Bool×Byt):=seatL done 5++seatL done 72057594037928194
noncomputable abbrev agS1:Option Stmt:=getT (zbM (za2 89)) 1
noncomputable abbrev agS3:Option Stmt:=getT (zbM (za2 89)) 3
theorem at_snoc{α:Type}(p:List α)(y:α):atI (p++[y]).length (-1)=p.length:=by
 unfold atI;rw[lti (show (-1:Int)<0 by decide)]
 simp only[cond_true,List.length_append,List.length_singleton];lia
theorem get_snoc{α:Type}(p:List α)(y d:α):(p++[y]).getD (atI (p++[y]).length (-1)) d=y:=by
 rw[at_snoc,getD_lt (by simp)]
 simp
theorem zfX(p:List Row)(y:Row):zcT (p++[y])=y:=get_snoc p y _
theorem zbI{α:Type}{l:List α}(h:l≠[]):zcD l.length (-1):=by
 have:=List.length_pos_iff.mpr h;exact ⟨by lia,by lia⟩
section
variable{cx:Cx}{P:PySem.Params}(X:On cx P)
include X
theorem c_draw {nums:List Int} {i:Int} (hn:nums≠[]) (hl:nums.length<=7) (hi:0<=i/\i<=7):CallOK cx 1 (.fn "_law_draw") [.r 0,I i] [.tl .int nums] (.ok (I (zaP nums i))) [.tl .int nums]:=by
 have hp:=List.length_pos_iff.mpr hn;have e0:lenI nums=(nums.length:Int):=rfl;have m0:0<=i.fmod (lenI nums):=Int.fmod_nonneg hi.1 (by lia)
 have m1:i.fmod (lenI nums)<lenI nums:=Int.fmod_lt_of_pos _ (by lia)
 have d0:0<=i.fdiv (lenI nums):=Int.fdiv_nonneg hi.1 (by lia)
 have d1:i.fdiv (lenI nums)<=7:=by
  have:=Int.mul_fdiv_add_fmod i (lenI nums);have:lenI nums*i.fdiv (lenI nums)<=7:=by lia
  have:i.fdiv (lenI nums)<=lenI nums*i.fdiv (lenI nums):=by
   have:=Int.mul_le_mul_of_nonneg_right (show (1:Int)<=lenI nums by lia) d0
   lia
  lia
 exact cb (zf3 X) 0 60 [0] [] (h4 (show lenI nums≠0 by lia) (show zcD nums.length (i.fmod (lenI nums)) from ⟨by lia,by lia⟩) (show lenI nums≠0/\(lenI nums).natAbs<1073741824 by lia) (show Int.natAbs 31<2 ^ 62/\(i.fdiv (lenI nums)).natAbs<2 ^ 62 from ⟨by decide,by lia⟩)) (by kernel_rfl)
theorem c_maybe {o:Option Byt} (h:zbL o):CallOK cx 1 (.fn "_law_maybe") [Ob o] [] (.ok (Y (mbB o))) []:=by
 induction o with
 |none=>exact cb (zd3 X) 0 60 [] [.b true] (h1 (show (none:Option Byt).isNone=true from rfl)) (by kernel_rfl)
 |some b=>
  have hb:=h b rfl;have e0:lenI b=(b.length:Int):=rfl;exact cb (zd3 X) 0 60 [] [.b false,.re "word" (.bytes b)] (h5 (show (some b).isNone=false from rfl) (show plain (.ob (some b))=plain (.bytes b) from rfl) (show zc1 1 from ⟨by decide,by decide⟩) (show zc1 (lenI b) from ⟨by lia,by lia⟩) (show [u8 1,u8 (lenI b)].length+b.length<=1000000 by simp;lia)) (by kernel_rfl)
theorem c_demanded {c:Int} {o:Option Byt} (hc:0<=c/\c<=3) (h:zbL o):CallOK cx 7 (.fn "_law_demanded") [Y (repB c o),I c,Ob o] [] (.ok (Bo true)) []:=by
 have e:(eqI c 0==eqI c 0&&(eqO o o&&true))=true:=by
  have:eqO o o=true:=decide_eq_true rfl;rw[this];simp
 by_cases h2':c<=1
 ·have key:CallOK cx 7 (.fn "_law_demanded") [Y (repB c o),I c,Ob o] [] (.ok (Bo (ltI c 2))) []:=
   cb (zcK X) 0 60 [] [.call (.ok (.d (.tup [.bool (eqI c 0),.ob o]))) [],.b true] (h3 (zg3 X).kv (c_demand X ⟨hc.1,h2'⟩ h) e) (by kernel_rfl)
  rw[lti (show c<2 by lia)] at key
  exact key
 ·have:c=2\/c=3:=by lia
  rcases this with rfl|rfl
  ·exact cb (zcK X) 0 60 [] [.call (.exc "SessionUnknown") []] (h2 (zg3 X).kv (c_demand2 X h)) (by kernel_rfl)
  ·exact cb (zcK X) 0 60 [] [.call (.exc "SessionStale") []] (h2 (zg3 X).kv (c_demand3 X h)) (by kernel_rfl)
theorem ag_turn{lv:Nat}{m:MM}{s:SO}{done:List Row}{log:List (Int×Int)}{kv:List (Byt×Byt)}{k:Byt}{xs:List DV}{e:Env'}{os:Objs}(hn:done.length<=100)(hw:∀r∈done,r.word.length<=10)(hk:k.length<100)(hg:dget (100::k) s.now=zaN done k)(hkv:kv.length<1000)
  (L:LR cx (za2 89) (lv+5) 0 8 agS1 (.r 7) [.bytes [],.bytes [107]] xs AE (A1o m s done log (kv++kvOf k (zaN done k))) .next e os):LR cx (za2 89) (lv+5) 0 8 agS1 (.r 7) [.bytes [],.bytes [107]] (.bytes k::xs) AE (A1o m s done log kv) .next e os:=by
 have cv:=(c_value X (key:=k) hn hw).up (n':=lv+5) (by lia)
 have cg:=(c_mget X (m:=m) (s:=s) (k:=k) (by lia)).up (n':=lv+5) (by lia)
 rw[hg] at cg;have op:=h6 (zd2 X).kv cv (mv_same (zaN done k)) (zhV X).mv cg (show (!eqO (zaN done k) (zaN done k))=false by rw[show eqO (zaN done k) (zaN done k)=true from decide_eq_true rfl];rfl)
 induction q:zaN done k with
 |none=>
  rw[q] at L op;rw[show kv++kvOf k none=kv from List.append_nil kv] at L
  exact zaB 60 [0,1,2,3,4,5,6,7] ["machine", "done", "log", "rows"] [.call (.ok (.d (mv none))) [.tl .row done],.re "value" (.ob none),.call (.ok (Ob none)) (zaG m s),.b false,.b false] rfl (happ op (h1 (show (none:Option Byt).isSome=false from rfl))) (by kernel_rfl) L
 |some b=>
  rw[q] at L op
  exact zaB 60 [0,1,2,3,4,5,6,7] ["machine", "done", "log", "rows"] [.call (.ok (.d (mv (some b)))) [.tl .row done],.re "value" (.ob (some b)),.call (.ok (Ob (some b))) (zaG m s),.b false,.b true,.re "value" (.bytes b)] rfl
   (happ op (h3 (show (some b).isSome=true from rfl) (show plain (.ob (some b))=plain (.bytes b) from rfl) (show kv.length<1000000 by lia))) (by kernel_rfl) L
theorem ag_seat{lv:Nat}{m:MM}{s:SO}{done:List Row}{log:List (Int×Int)}{kv:List (Byt×Byt)}{st:List (Int×Int×Bool×Byt)}{c:Int}{xs:List DV}{e:Env'}{os:Objs}(hn:done.length<=100)(hs:∀r∈done,(0<=r.code/\r.code<=3)/\zbL r.old)(hst:st.length<1000)
  (L:LR cx (za2 89) (lv+5) 0 10 agS3 (.r 9) [.int 5,.int 72057594037928194] xs AE2 (A2o m s done log kv (st++seatL done c)) .next e os):LR cx (za2 89) (lv+5) 0 10 agS3 (.r 9) [.int 5,.int 72057594037928194] (.int c::xs) AE2 (A2o m s done log kv st) .next e os:=by
 have hc:zdP cx (za2 89) (lv+5) 0 10 "client" 1 .Eq 685 16 39 49 6 (.r 4) done (AE3 c) (A2o m s done log kv st) (.tl .row (za6 done c)):=
  selEv (by decide) rfl rfl (by kernel_rfl) (by kernel_rfl) (by kernel_rfl) (by kernel_rfl) (by lia)
 have sw:zd6 (za2 89) "mine" (cscR "client"):=⟨by kernel_rfl,by kernel_rfl⟩
 unfold seatL at L;induction q:ltI 0 (lenI (za6 done c)) with
 |false=>
  rw[q,show st++(bif false then [(c,(zcT (za6 done c)).number,!eqI (zcT (za6 done c)).kind 6,repB (zcT (za6 done c)).code (zcT (za6 done c)).old)] else [])=st from List.append_nil st] at L
  exact zaB 60 [0,1,2,3,4,5,6,7,8,9] ["machine", "done", "log", "rows", "seats"] [.comp (.tl .row (za6 done c)),.b false] rfl (h2 (show zdP cx (za2 89) (lv+5) 0 10 "client" 1 .Eq 685 16 39 49 6 (.r 4) done (AE3 c) (A2o m s done log kv st) (.tl .row (za6 done c))/\zd6 (za2 89) "mine" (cscR "client") from ⟨hc,sw⟩) q) (by kernel_rfl) L
 |true=>
  rw[q] at L;have hne:za6 done c≠[]:=λe=>by rw[e] at q;exact absurd q (by decide)
  have hm:zcT (za6 done c)∈done:=by
   obtain ⟨p,y,hy⟩:=zgK hne;have:zcT (za6 done c)=y:=by rw[hy];exact zfX p y
   rw[this];exact (List.mem_filter.mp (show y∈za6 done c by rw[hy];simp)).1
  obtain ⟨h1',h2'⟩:=hs _ hm;have bo:zc1 (zcT (za6 done c)).code:=⟨h1'.1,by lia⟩
  exact zaB 60 [0,1,2,3,4,5,6,7,8,9] ["machine", "done", "log", "rows", "seats"] [.comp (.tl .row (za6 done c)),.b true,.call (.ok (Y (mbB (zcT (za6 done c)).old))) []] rfl
   (happ (h3 (show zdP cx (za2 89) (lv+5) 0 10 "client" 1 .Eq 685 16 39 49 6 (.r 4) done (AE3 c) (A2o m s done log kv st) (.tl .row (za6 done c))/\zd6 (za2 89) "mine" (cscR "client") from ⟨hc,sw⟩) q (zbI hne)) (h5 bo (zd3 X).kv ((c_maybe X h2').up (n':=lv+5) (by lia)) (show ([u8 (zcT (za6 done c)).code]).length+(mbB (zcT (za6 done c)).old).length<=1000000 by have:=mbB_len _ h2';simp;lia) (show st.length<1000000 by lia))) (by kernel_rfl) L
theorem c_agree{m:MM}{s:SO}{done:List Row}{log:List (Int×Int)}(hn:done.length<=100)(hw:∀r∈done,r.word.length<=10)(hs:∀r∈done,(0<=r.code/\r.code<=3)/\zbL r.old)(hg:∀k∈lKeys,dget (100::k) s.now=zaN done k)(hl:log≠[])
  (hr:CallOK cx 5 (.mt "Machine" "rows") [.r 0] (zaG m s) (.ok (.r 4)) (zaG m s++[.tl .kv (zfE done)])) (hz:CallOK cx 5 (.mt "Machine" "sessions") [.r 0] (zaG m s) (.ok (.r 4)) (zaG m s++[.tl .seat (zf6 done)])) :
  CallOK cx 6 (.fn "_law_agree") [.r 0,.r 4,.r 5] (AO m s done log) (.ok (Bo (eqI m.applied (lenI log)&&(eqI m.term (zaD log).1&&true)))) (AO m s done log):=by
 have L1:LR cx (za2 89) 5 0 8 agS1 (.r 7) [.bytes [],.bytes [107]] [.bytes [],.bytes [107]] AE (A1o m s done log []) .next AE (A1o m s done log (zfE done)):=
  ag_turn X (lv:=0) hn hw (by decide) (hg [] (.head _)) (by decide) (ag_turn X (lv:=0) hn hw (by decide) (hg [107] (.tail _ (.head _))) (by cases zaN done [] <;> simp[kvOf])
   (.done (κ:=[0,1,2,3,4,5,6,7]) (ns:=["machine", "done", "log", "rows"]) rfl (by kernel_rfl)))
 have sl:∀c,(seatL done c).length<=1:=λc=>by unfold seatL;cases ltI 0 (lenI (za6 done c)) <;> simp
 have L2:LR cx (za2 89) 5 0 10 agS3 (.r 9) [.int 5,.int 72057594037928194] [.int 5,.int 72057594037928194] AE2 (A2o m s done log (zfE done) []) .next AE2 (A2o m s done log (zfE done) (zf6 done)):=
  ag_seat X (lv:=0) hn hs (by decide) (ag_seat X (lv:=0) hn hs (by have:=sl 5;simp;lia)
   (.done (κ:=[0,1,2,3,4,5,6,7,8,9]) (ns:=["machine", "done", "log", "rows", "seats"]) rfl (by kernel_rfl)))
 have q1:(!eqLK (zfE done) (zfE done))=false:=by rw[show eqLK (zfE done) (zfE done)=true from decide_eq_true rfl];rfl
 have q2:(!eqLS (zf6 done) (zf6 done))=false:=by rw[show eqLS (zf6 done) (zf6 done)=true from decide_eq_true rfl];rfl
 exact cb (ze3 X) 1 60 [0,1,2,3,4,5] [.reo 6 (.tl .kv []),.call (.ok (.r 0)) [.tl .byt lKeys],.loop .next AE (A1o m s done log (zfE done)),.reo 8 (.tl .seat []),.call (.ok (.r 0)) [.tl .int lClients],.loop .next AE2 (A2o m s done log (zfE done) (zf6 done)),.call (.ok (.r 4)) (zaG m s++[.tl .kv (zfE done)]),.b false,.call (.ok (.r 4)) (zaG m s++[.tl .seat (zf6 done)]),.b false]
  (happ (h4 (show ∃l,(MObj.lst []).plain=some l/\(MObj.tl .kv []).plain=some l from ⟨[],rfl,rfl⟩) (zgX X).kv ((c_keys X).up (n':=5)) (show LP cx (za2 89) 5 0 6 agS1 (.r 7) [.bytes [],.bytes [107]] AE (A1o m s done log []) .next AE (A1o m s done log (zfE done)) from lp 8 (by decide) (λi e=>by injection e;decide) rfl trivial L1))
   (happ (h4 (show ∃l,(MObj.lst []).plain=some l/\(MObj.tl .seat []).plain=some l from ⟨[],rfl,rfl⟩) (zeA X).kv ((c_clients X).up (n':=5)) (show LP cx (za2 89) 5 0 6 agS3 (.r 9) [.int 5,.int 72057594037928194] AE2 (A2o m s done log (zfE done) []) .next AE2 (A2o m s done log (zfE done) (zf6 done)) from lp 10 (by decide) (λi e=>by injection e;decide) rfl trivial L2))
    (h7 (zgF X).mv hr q1 (ze4 X).mv hz q2 (zbI hl)))) (by kernel_rfl)
end
end
section
open PySem PySem.W PyProof.Rows
noncomputable def LE (safe:Int):Env':=[("nums",.r 0),("machine",.r 1),("store",.r 2),("log",.r 5),("done",.r 6),("held",.r 7),("safe",I safe)]
noncomputable def LO(_ns nums:List Int)(m:MM)(s:SO)(log:List (Int×Int))(done:List Row)(hs:List Int):Objs:=[.tl .int nums,machAt 2 m]++za1 2 s++[.tl .pair log,.tl .row done,.tl .int hs]
noncomputable abbrev lawS:Option Stmt:=getT (zbM (za2 90)) 15
noncomputable abbrev kap:List Nat:=[0,1,2,3,4,5,6,7]
noncomputable abbrev nms:List Str:=["nums", "machine", "store", "log", "done", "held", "safe"]
noncomputable abbrev LW(cx:Cx)(xs:List DV)(safe:Int)(os:Objs)(e:Env')(os':Objs):Prop:=LR cx (za2 90) 8 1 0 lawS (.d (.rng 0 6 1)) (upTo 0 6) xs (LE safe) os .next e os'
noncomputable def preA(nums:List Int)(x:Int)(a y w st k:Int)(ke wo:Byt)(ex:Option Byt):List Ans:=
 [.call (.ok (I x)) [.tl .int nums],.call (.ok (.r 0)) [.tl .int lSteps],.call (.ok (.r 0)) [.tl .int lKinds],.call (.ok (.r 0)) [.tl .byt lKeys],.call (.ok (.r 0)) [.tl .byt lWords],.call (.ok (.r 0)) [.tl .ob lExpects],
  .re "act" (.int a),.re "y" (.int y),.re "who" (.int w),.re "step" (.int st),.re "kind" (.int k),.re "key" (.bytes ke),.re "word" (.bytes wo),.re "expect" (.ob ex)]
structure Dr(x a y w st k:Int)(ke wo:Byt)(ex:Option Byt):Prop where
 ha:x.fmod 10=a
 hy:x.fdiv 10=y
 hw:(x.fdiv 10).fmod 2=w
 hst:lSteps.getD (atI lSteps.length (((x.fdiv 10).fdiv 2).fmod 6)) 0=st
 hk:lKinds.getD (atI lKinds.length (((x.fdiv 10).fdiv 12).fmod 10)) 0=k
 hke:lKeys.getD (atI lKeys.length (x.fmod 2)) (Ty.dflt .byt)=ke
 hwo:lWords.getD (atI lWords.length (((x.fdiv 10).fdiv 240).fmod 3)) (Ty.dflt .byt)=wo
 hex:lExpects.getD (atI lExpects.length (((x.fdiv 10).fdiv 12).fmod 4)) (Ty.dflt .ob)=ex
theorem idx_mod{n:Nat}{a b:Int}(h:b=(n:Int))(hb:0<n):zcD n (a.fmod b):=by
 have h0:0<=a.fmod b:=Int.fmod_nonneg_of_pos _ (by lia)
 have h1:a.fmod b<b:=Int.fmod_lt_of_pos _ (by lia)
 exact ⟨by lia,by lia⟩
noncomputable abbrev hAt(hs:List Int)(w:Int):Int:=hs.getD (atI hs.length w) 0
noncomputable abbrev mx0(a:Int):Int:=bif ltI 0 a then a else 0
noncomputable def wI:Bool->Int
 |false=>0
 |true=>1
noncomputable def d1B(k n:Int)(w:Bool)(ke:Byt):Byt:=u8 k::(tokB w++u8 n::u8 (lenI ke)::ke)
noncomputable def datA(k n t:Int)(wh:Bool)(ke wo:Byt)(ex:Option Byt):List Ans:=
 [.re "number" (.int n),.call (.ok (.r 0)) [.tl .byt lTokens],.re "data" (.bytes (d1B k n wh ke)),.call (.ok (Y (mbB ex))) [],.re "data" (.bytes (cmdB k n wh ke wo ex)),.re "term" (.int t)]
section
variable{cx:Cx}{P:PySem.Params}(X:On cx P)
noncomputable def preE{nums:List Int}{i x a y w st k:Int}{ke wo:Byt}{ex:Option Byt}(hn:nums≠[])(hl:nums.length<=7)(hi:0<=1+i/\1+i<=7)(hx:zaP nums (1+i)=x)(D:Dr x a y w st k ke wo ex):=
 happ (h7 (zf3 X).kv ((hx▸c_draw X hn hl hi:CallOK cx 1 (.fn "_law_draw") [.r 0,I (1+i)] [.tl .int nums] (.ok (I x)) [.tl .int nums]).up (n':=8)) (show (10:Int)≠0 by decide) (show (10:Int)≠0/\Int.natAbs 10<1073741824 by decide) (show (2:Int)≠0 by decide) (F__law_steps X).kv ((c_steps X).up (n':=8)))
 (happ (h7 (show (2:Int)≠0/\Int.natAbs 2<1073741824 by decide) (show (6:Int)≠0 by decide) (idx_mod (n:=lSteps.length) (a:=(x.fdiv 10).fdiv 2) (b:=6) rfl (by decide)) (F__law_kinds X).kv ((c_kinds X).up (n':=8)) (show (12:Int)≠0/\Int.natAbs 12<1073741824 by decide) (show (10:Int)≠0 by decide))
 (happ (h7 (idx_mod (n:=lKinds.length) (a:=(x.fdiv 10).fdiv 12) (b:=10) rfl (by decide)) (zgX X).kv ((c_keys X).up (n':=8)) (show (2:Int)≠0 by decide) (idx_mod (n:=lKeys.length) (a:=x) (b:=2) rfl (by decide)) (F__law_words X).kv ((c_words X).up (n':=8)))
 (happ (h7 (show (240:Int)≠0/\Int.natAbs 240<1073741824 by decide) (show (3:Int)≠0 by decide) (idx_mod (n:=lWords.length) (a:=(x.fdiv 10).fdiv 240) (b:=3) rfl (by decide)) (zgD X).kv ((c_expects X).up (n':=8)) (show (12:Int)≠0/\Int.natAbs 12<1073741824 by decide) (show (4:Int)≠0 by decide))
 (happ (h1 (idx_mod (n:=lExpects.length) (a:=(x.fdiv 10).fdiv 12) (b:=4) rfl (by decide)))
 (happ (h4 (show plain (.int (x.fmod 10))=plain (.int a) by rw[D.ha]) (show plain (.int (x.fdiv 10))=plain (.int y) by rw[D.hy]) (show plain (.int ((x.fdiv 10).fmod 2))=plain (.int w) by rw[D.hw]) (show plain (.int (lSteps.getD (atI lSteps.length (((x.fdiv 10).fdiv 2).fmod 6)) 0))=plain (.int st) by rw[D.hst]))
 (h4 (show plain (.int (lKinds.getD (atI lKinds.length (((x.fdiv 10).fdiv 12).fmod 10)) 0))=plain (.int k) by rw[D.hk]) (show plain (.bytes (lKeys.getD (atI lKeys.length (x.fmod 2)) (Ty.dflt .byt)))=plain (.bytes ke) by rw[D.hke]) (show plain (.bytes (lWords.getD (atI lWords.length (((x.fdiv 10).fdiv 240).fmod 3)) (Ty.dflt .byt)))=plain (.bytes wo) by rw[D.hwo]) (show plain (.ob (lExpects.getD (atI lExpects.length (((x.fdiv 10).fdiv 12).fmod 4)) (Ty.dflt .ob)))=plain (.ob ex) by rw[D.hex])))))))
structure CB(k n:Int)(ke wo:Byt)(ex:Option Byt):Prop where
 k:0<=k/\k<=6
 n:0<=n/\n<128
 ke:ke.length<=1
 wo:wo.length<=2
 ex:∀b,ex=some b->b.length<=2
theorem CB.k7{k n:Int}{ke wo:Byt}{ex:Option Byt}(B:CB k n ke wo ex):0<=k/\k<128:=⟨B.k.1,Int.lt_of_le_of_lt B.k.2 (by decide)⟩
theorem CB.ke7{k n:Int}{ke wo:Byt}{ex:Option Byt}(B:CB k n ke wo ex):ke.length<128:=Nat.lt_of_le_of_lt B.ke (by decide)
theorem CB.wo7{k n:Int}{ke wo:Byt}{ex:Option Byt}(B:CB k n ke wo ex):wo.length<128:=Nat.lt_of_le_of_lt B.wo (by decide)
theorem CB.so{k n:Int}{ke wo:Byt}{ex:Option Byt}(B:CB k n ke wo ex):zbL ex:=λb e=>Nat.lt_of_le_of_lt (B.ex b e) (by decide)
theorem idx_w{l n:Nat}(wh:Bool)(h:l=2):zcD l (wI wh):=by subst h;cases wh <;> exact ⟨by decide,by decide⟩
theorem tok_at(wh:Bool):lTokens.getD (atI lTokens.length (wI wh)) (Ty.dflt .byt)=tokB wh:=by cases wh <;> rfl
theorem zgJ(wh:Bool):(tokB wh).length<=9:=by cases wh <;> decide
noncomputable def datE{k n st t y w:Int}{hs:List Int}{wh:Bool}{ke wo:Byt}{ex:Option Byt}{log:List (Int×Int)}(B:CB k n ke wo ex)(hw:w=wI wh)(h2s:hs.length=2)(hn:mx0 (hAt hs w+st)=n)(hl:log≠[])(ht:(zaD log).1+(y.fdiv 3).fmod 2=t):=
 happ (h7 (show zcD hs.length w from hw▸idx_w (n:=0) wh h2s) (show plain (.int (mx0 (hAt hs w+st)))=plain (.int n) by rw[hn]) (show zc1 k from ⟨B.k.1,by have:=B.k.2;lia⟩) (zhU X).kv ((c_tokens X).up (n':=8)) (show zcD lTokens.length w from hw▸idx_w (n:=0) wh rfl) (show [u8 k].length+(lTokens.getD (atI lTokens.length w) (Ty.dflt .byt)).length<=1000000 by have:=zgJ wh;rw[hw,tok_at];simp;lia))
 (happ (h5 (show zc1 n from ⟨B.n.1,by have:=B.n.2;lia⟩) (show zc1 (lenI ke) from ⟨by unfold lenI;lia,by have:=B.ke;unfold lenI;lia⟩) (show ([u8 k]++lTokens.getD (atI lTokens.length w) (Ty.dflt .byt)).length+[u8 n,u8 (lenI ke)].length<=1000000 by have:=zgJ wh;rw[hw,tok_at];simp;lia)
  (show ([u8 k]++lTokens.getD (atI lTokens.length w) (Ty.dflt .byt)++[u8 n,u8 (lenI ke)]).length+ke.length<=1000000 by have:=zgJ wh;have:=B.ke;rw[hw,tok_at];simp;lia) (show plain (.bytes ([u8 k]++lTokens.getD (atI lTokens.length w) (Ty.dflt .byt)++[u8 n,u8 (lenI ke)]++ke))=plain (.bytes (d1B k n wh ke)) by rw[hw,tok_at];congr 1;unfold d1B;simp))
 (happ (h7 (show zc1 (lenI wo) from ⟨by unfold lenI;lia,by have:=B.wo;unfold lenI;lia⟩) (show (d1B k n wh ke).length+[u8 (lenI wo)].length<=1000000 by have:=zgJ wh;have:=B.ke;unfold d1B;simp;lia) (show (d1B k n wh ke++[u8 (lenI wo)]).length+wo.length<=1000000 by have:=zgJ wh;have:=B.ke;have:=B.wo;unfold d1B;simp;lia)
  (zd3 X).kv ((c_maybe X B.so).up (n':=8)) (show (d1B k n wh ke++[u8 (lenI wo)]++wo).length+(mbB ex).length<=1000000 by have:=zgJ wh;have:=B.ke;have:=B.wo;have:=mbB_len ex B.so;unfold d1B;simp;lia) (show plain (.bytes (d1B k n wh ke++[u8 (lenI wo)]++wo++mbB ex))=plain (.bytes (cmdB k n wh ke wo ex)) by congr 1;unfold d1B cmdB;simp))
 (h4 (show zcD log.length (-1) from zbI hl) (show (3:Int)≠0/\Int.natAbs 3<1073741824 by decide) (show (2:Int)≠0 by decide) (show plain (.int ((zaD log).1+(y.fdiv 3).fmod 2))=plain (.int t) by rw[ht]))))
end
end
section
open PySem PySem.W PyProof.Rows
theorem cli_at(wh:Bool):lClients.getD (atI lClients.length (wI wh)) 0=cliN wh:=by cases wh <;> rfl
noncomputable def telA(m':MM)(s':SO)(done:List Row)(li t cd:Int)(wh new:Bool)(od:DV)(old:Option Byt)(dat:Byt):List Ans:=
 [.call (.ok (.r 0)) [.tl .int lClients],.re "client" (.int (cliN wh)),.call (.ok (.d (.tup [.int cd,od,.bool new]))) [.tl .row done],.re "old" (.ob old),
  .call (.ok (.r 0)) [entD t (li+1) 0 dat],.call (.ok (Y (repB cd old))) (zaG m' s'++[entD t (li+1) 0 dat]),.call (.ok (Y (mbB old))) [],.b false,.call (.ok (Bo true)) [],.b true,.b new]
noncomputable def endA(m':MM)(s':SO)(z:Bool):List Ans:=[.b z,.call (.ok Nn) (zaG (m'.mark s') s'),.b false]
noncomputable abbrev nextH(hs:List Int)(w n:Int):List Int:=hs.set w.toNat (bif ltI (hAt hs w) n then n else hAt hs w)
section
variable{cx:Cx}{P:PySem.Params}(X:On cx P)
noncomputable def endE{m':MM}{s':SO}{log':List (Int×Int)}{safe':Int}(z:Bool)(hz:m'.sync=z)(ha:(m'.mark s').applied=lenI log')(hd:(m'.mark s').durable=safe'):=
 h4 hz (zaA X).mv ((c_mark X (m:=m') (s:=s')).up (n':=8)) (show (!(eqI (m'.mark s').applied (lenI log')&&(eqI (m'.mark s').durable safe'&&true)))=false by rw[ha,hd,show eqI (lenI log') (lenI log')=true from decide_eq_true rfl,show eqI safe' safe'=true from decide_eq_true rfl];rfl)
noncomputable def telE{m m':MM}{s s':SO}{done:List Row}{log:List (Int×Int)}{w n k t cd:Int}{wh new:Bool}{ke dat:Byt}{ex old:Option Byt}{od:DV}(hw:w=wI wh)
  (ht:CallOK cx 2 (.fn "_law_told") [.r 0,I (cliN wh),I n,I k,Y ke,Ob ex] [.tl .row done] (.ok (.d (.tup [.int cd,od,.bool new]))) [.tl .row done]) (ho:plain od=plain (.ob old))
  (hap:CallOK cx 8 (.mt "Machine" "apply") [.r 0,.r 4,Nn] (MEo m s t (lenI log+1) 0 dat) (.ok (Y (repB cd old))) (MEo m' s' t (lenI log+1) 0 dat)) (hc:0<=cd/\cd<=3) (hs':zbL old) (hl:log≠[]) (hl2:log.length<100):=
 happ (h7 (zeA X).kv ((c_clients X).up (n':=8)) (show zcD lClients.length w from hw▸idx_w (n:=0) wh rfl) (show plain (.int (lClients.getD (atI lClients.length w) 0))=plain (.int (cliN wh)) by rw[hw,cli_at]) (zaW X).kv (ht.up (n':=8)) ho)
 (happ (h7 (zaR X).mv (N_Entry X).val ((c_Entry X (t:=t) (i:=lenI log+1) (k:=0) (b:=dat)).up (n':=8)) hap (show zc1 cd from ⟨hc.1,by lia⟩) (zd3 X).kv ((c_maybe X hs').up (n':=8)))
 (happ (h1 (show [u8 cd].length+(mbB old).length<=1000000 by have:=mbB_len old hs';simp;lia))
 (happ (h4 (show (!eqB (repB cd old) (u8 cd::mbB old))=false by rw[show eqB (repB cd old) (u8 cd::mbB old)=true from decide_eq_true rfl];rfl) (zcK X).kv ((c_demanded X hc hs').up (n':=8)) (show true=true from rfl))
 (h2 (show zcD log.length (-1) from zbI hl) (show log.length<1000000 by lia)))))
include X in
theorem turn_tell{nums ns:List Int}{i x a y w st k n t cd safe:Int}{ke wo:Byt}{ex old:Option Byt}{od:DV}{m m':MM}{s s':SO}{log:List (Int×Int)}{done:List Row}{hs:List Int}{wh new:Bool}{xs:List DV}{e:Env'}{os:Objs}
  (hn:nums≠[]) (hl:nums.length<=7) (hi:0<=1+i/\1+i<=7) (hx:zaP nums (1+i)=x) (D:Dr x a y w st k ke wo ex) (B:CB k n ke wo ex) (hw:w=wI wh) (h2s:hs.length=2) (hnn:mx0 (hAt hs w+st)=n) (hlg:log≠[]) (hl2:log.length<100) (hd2:done.length<100) (htt:(zaD log).1+(y.fdiv 3).fmod 2=t)
  (i0:i≠0) (a4:3<a)
  (ht:CallOK cx 2 (.fn "_law_told") [.r 0,I (cliN wh),I n,I k,Y ke,Ob ex] [.tl .row done] (.ok (.d (.tup [.int cd,od,.bool new]))) [.tl .row done]) (ho:plain od=plain (.ob old))
  (hap:CallOK cx 8 (.mt "Machine" "apply") [.r 0,.r 4,Nn] (MEo m s t (lenI log+1) 0 (cmdB k n wh ke wo ex)) (.ok (Y (repB cd old))) (MEo m' s' t (lenI log+1) 0 (cmdB k n wh ke wo ex))) (hc:0<=cd/\cd<=3) (hs':zbL old)
  (ha:(m'.mark s').applied=lenI (log++[(t,(zaD log).2)])) (hd:(m'.mark s').durable=bif m'.sync then lenI (log++[(t,(zaD log).2)]) else safe)
  (L:LW cx xs (bif m'.sync then lenI (log++[(t,(zaD log).2)]) else safe) (LO ns nums (m'.mark s') s' (log++[(t,(zaD log).2)]) (bif new then done++[⟨lenI log+1,cliN wh,n,k,ke,wo,cd,old⟩] else done) (nextH hs w n)) e os) :
  LW cx (.int i::xs) safe (LO ns nums m s log done hs) e os:=by
 have P0:=preE X (i:=i) hn hl hi hx D;have P1:Holds [eqI i 0=false,eqI a 0=false,eqI a 1=false]:=h3 (eqIf i0) (eqIf (by lia)) (eqIf (by lia))
 have P2:=datE X (st:=st) B hw h2s hnn hlg htt;have P3:Holds [eqI a 2=false,eqI a 3=false]:=h2 (eqIf (by lia)) (eqIf (by lia))
 have P4:=telE X (n:=n) (k:=k) hw ht ho hap hc hs' hlg hl2;have P6:Holds [zcD hs.length w,0<=w/\w<hs.length]:=h2 (show zcD hs.length w from hw▸idx_w (n:=0) wh h2s) (by rw[hw,h2s];cases wh <;> decide)
 induction z:m'.sync with
 |true=>
  rw[z] at hd L;have P7:=endE X true z ha hd;induction new with
  |true=>
   exact zaB 60 kap nms (preA nums x a y w st k ke wo ex++aL [.b false,.b false,.b false]++datA k n t wh ke wo ex++aL [.b false,.b false]++telA m' s' done (lenI log) t cd wh true od old (cmdB k n wh ke wo ex)++endA m' s' true) rfl
    (happ P0 (happ P1 (happ P2 (happ P3 (happ P4 (happ (h2 (show true=true from rfl) (show done.length<1000000 by lia)) (happ P6 P7))))))) (by kernel_rfl) L
  |false=>
   exact zaB 60 kap nms (preA nums x a y w st k ke wo ex++aL [.b false,.b false,.b false]++datA k n t wh ke wo ex++aL [.b false,.b false]++telA m' s' done (lenI log) t cd wh false od old (cmdB k n wh ke wo ex)++endA m' s' true) rfl
    (happ P0 (happ P1 (happ P2 (happ P3 (happ P4 (happ (h1 (show false=false from rfl)) (happ P6 P7))))))) (by kernel_rfl) L
 |false=>
  rw[z] at hd L;have P7:=endE X false z ha hd;induction new with
  |true=>
   exact zaB 60 kap nms (preA nums x a y w st k ke wo ex++aL [.b false,.b false,.b false]++datA k n t wh ke wo ex++aL [.b false,.b false]++telA m' s' done (lenI log) t cd wh true od old (cmdB k n wh ke wo ex)++endA m' s' false) rfl
    (happ P0 (happ P1 (happ P2 (happ P3 (happ P4 (happ (h2 (show true=true from rfl) (show done.length<1000000 by lia)) (happ P6 P7))))))) (by kernel_rfl) L
  |false=>
   exact zaB 60 kap nms (preA nums x a y w st k ke wo ex++aL [.b false,.b false,.b false]++datA k n t wh ke wo ex++aL [.b false,.b false]++telA m' s' done (lenI log) t cd wh false od old (cmdB k n wh ke wo ex)++endA m' s' false) rfl
    (happ P0 (happ P1 (happ P2 (happ P3 (happ P4 (happ (h1 (show false=false from rfl)) (happ P6 P7))))))) (by kernel_rfl) L
end
end
section
open PySem PySem.W PyProof.Rows
section
variable{cx:Cx}{P:PySem.Params}(X:On cx P)
include X
theorem turn_sync{nums ns:List Int}{i x y w st k safe:Int}{ke wo:Byt}{ex:Option Byt}{m:MM}{s:SO}{log:List (Int×Int)}{done:List Row}{hs:List Int}{xs:List DV}{e:Env'}{os:Objs}
  (hn:nums≠[]) (hl:nums.length<=7) (hi:0<=1+i/\1+i<=7) (hx:zaP nums (1+i)=x) (D:Dr x 1 y w st k ke wo ex) (i0:i≠0)
  (ha:((m.mark s.sync).mark s.sync).applied=lenI log) (hd:((m.mark s.sync).mark s.sync).durable=lenI log)
  (L:LW cx xs (lenI log) (LO ns nums ((m.mark s.sync).mark s.sync) s.sync log done hs) e os) :
  LW cx (.int i::xs) safe (LO ns nums m s log done hs) e os:=by
 have P0:=preE X (i:=i) hn hl hi hx D;have P1:Holds [eqI i 0=false,eqI 1 0=false,eqI 1 1=true]:=h3 (eqIf i0) rfl rfl;have P2:=h4 (zcO X).mv ((c_ssync X (s:=s)).up (n':=8)) (zaA X).mv ((c_mark X (m:=m) (s:=s.sync)).up (n':=8));have P3:=h3 (zaA X).mv ((c_mark X (m:=m.mark s.sync) (s:=s.sync)).up (n':=8)) (show (!(eqI ((m.mark s.sync).mark s.sync).applied (lenI log)&&(eqI ((m.mark s.sync).mark s.sync).durable (lenI log)&&true)))=false by rw[ha,hd,show eqI (lenI log) (lenI log)=true from decide_eq_true rfl];rfl)
 exact zaB 60 kap nms (preA nums x 1 y w st k ke wo ex++aL [.b false,.b false,.b true]++aL [.call (.ok Nn) (za1 0 s.sync),.call (.ok Nn) (zaG (m.mark s.sync) s.sync)]++aL [.call (.ok Nn) (zaG ((m.mark s.sync).mark s.sync) s.sync),.b false]) rfl
  (happ P0 (happ P1 (happ P2 P3))) (by kernel_rfl) L
end
end
section
open PySem PySem.W PyProof.Rows
noncomputable def thenOf:Option Stmt->List Stmt
 |some (.If _ a _ _)=>a
 |_=>[]
noncomputable def elseOf:Option Stmt->List Stmt
 |some (.If _ _ b _)=>b
 |_=>[]
noncomputable abbrev act0S:Option Stmt:=getT (forB lawS) 11
noncomputable abbrev act1S:Option Stmt:=getT (elseOf act0S) 0
noncomputable abbrev act2S:Option Stmt:=getT (elseOf act1S) 4
noncomputable abbrev gapS:Option Stmt:=getT (thenOf act2S) 0
noncomputable def LT (safe top:Int):Env':=[("nums",.r 0),("machine",.r 1),("store",.r 2),("log",.r 5),("done",.r 6),("held",.r 7),("safe",I safe),("top",I top)]
noncomputable def GE (safe i x a y w st k:Int) (ke wo:Byt) (ex:Option Byt) (top n:Int) (dat:Byt) (t:Int):Env':=[("nums",.r 0),("machine",.r 1),("store",.r 2),("log",.r 5),("done",.r 6),("held",.r 7),("safe",I safe),("i",I i),("x",I x),("act",I a),("y",I y),("who",I w),("step",I st),("kind",I k),("key",Y ke),("word",Y wo),("expect",Ob ex),("top",I top),("number",I n),("data",Y dat),("term",I t)]
noncomputable def GO(k n top:Int)(ke wo:Byt):Objs:=[.tl .int lSteps,.tl .int lKinds,.tl .byt lKeys,.tl .byt lWords,.tl .ob lExpects,.lst [.int k],.tl .byt lTokens,.lst [.int n,.int (lenI ke)],.lst [.int (lenI wo)],.lst [.int top,.int (top+2)]]
noncomputable abbrev gns:List Str:=["nums", "machine", "store", "log", "done", "held", "safe", "i", "x", "act", "y", "who", "step", "kind", "key", "word", "expect", "top", "number", "data", "term"]
noncomputable abbrev gka:List Nat:=[0,1,2,3,4,5,6,7,8,9,10,11,12,13,14,15,16,17]
section
variable{cx:Cx}{P:PySem.Params}(X:On cx P)
include X
theorem gap_turn{ns nums hs:List Int}{safe i x a y w st k top n t j:Int}{ke wo dat:Byt}{ex:Option Byt}{m:MM}{s:SO}{log:List (Int×Int)}{done:List Row}{xs:List DV}{e:Env'}{os:Objs}
  (hj:j≠m.applied+1) (hj2:0<=j/\j<1000) (ha:0<=m.applied/\m.applied<1000)
  (L:LR cx (za2 90) 8 0 18 gapS (.r 17) [.int top,.int (top+2)] xs (GE safe i x a y w st k ke wo ex top n dat t) (LO ns nums m s log done hs++GO k n top ke wo) .next e os) :
  LR cx (za2 90) 8 0 18 gapS (.r 17) [.int top,.int (top+2)] (.int j::xs) (GE safe i x a y w st k ke wo ex top n dat t) (LO ns nums m s log done hs++GO k n top ke wo) .next e os:=
 zaB 60 gka gns [.call (.ok (.r 0)) [entD t j 0 dat],.call (.exc "AppliedGap") (MEo m s t j 0 dat),.b true] rfl
  (h5 (zaR X).mv (N_Entry X).val ((c_Entry X (t:=t) (i:=j) (k:=0) (b:=dat)).up (n':=8)) ((c_apply_gap X (t:=t) (k:=0) (D:=dat) (s:=s) hj hj2 ha).up (n':=8)) (show true=true from rfl)) (by kernel_rfl) L
theorem turn_gap{nums ns:List Int}{i x y w st k n t safe:Int}{ke wo:Byt}{ex:Option Byt}{m m':MM}{s:SO}{log:List (Int×Int)}{done:List Row}{hs ll:List Int}{wh:Bool}{xs:List DV}{e:Env'}{os:Objs}
  (hn:nums≠[]) (hl:nums.length<=7) (hi:0<=1+i/\1+i<=7) (hx:zaP nums (1+i)=x) (D:Dr x 2 y w st k ke wo ex) (B:CB k n ke wo ex) (hw:w=wI wh) (h2s:hs.length=2) (hnn:mx0 (hAt hs w+st)=n) (hlg:log≠[]) (hl2:log.length<100) (htt:(zaD log).1+(y.fdiv 3).fmod 2=t)
  (i0:i≠0) (hap:m.applied=lenI log)
  (hld:CallOK cx 5 (.mt "Machine" "load") [.r 0] (zaG m s) (.ok (.d (.tup [.int (lenI log),.int (zaD log).1,confD ll]))) (zaG m' s))
  (ha:(m'.mark s).applied=lenI log) (hd:(m'.mark s).durable=bif m'.sync then lenI log else safe)
  (L:LW cx xs (bif m'.sync then lenI log else safe) (LO ns nums (m'.mark s) s log done hs) e os) :
  LW cx (.int i::xs) safe (LO ns nums m s log done hs) e os:=by
 have P0:=preE X (i:=i) hn hl hi hx D;have P1:Holds [eqI i 0=false,eqI 2 0=false,eqI 2 1=false]:=h3 (eqIf i0) rfl rfl;have P2:=datE X (st:=st) B hw h2s hnn hlg htt;have e0:lenI log=(log.length:Int):=rfl
 have G:LP cx (za2 90) 8 0 0 gapS (.r 17) [.int (lenI log),.int (lenI log+2)] (GE safe i x 2 y w st k ke wo ex (lenI log) n (cmdB k n wh ke wo ex) t) (LO ns nums m s log done hs++GO k n (lenI log) ke wo) .next (LT safe (lenI log)) (LO ns nums m s log done hs++GO k n (lenI log) ke wo):=
  lp 18 (by decide) (λi e=>by injection e;decide) rfl trivial
   (gap_turn X (by lia) (by lia) (by lia) (gap_turn X (by lia) (by lia) (by lia) (.done (κ:=gka) (ns:=["nums", "machine", "store", "log", "done", "held", "safe", "top"]) rfl (by kernel_rfl))))
 have P3:=h6 (show eqI 2 2=true from rfl) G (zbP X).mv (hld.up (n':=8)) (show zcD log.length (-1) from zbI hlg) (show (!(eqI (lenI log) (lenI log)&&(eqI (zaD log).1 (zaD log).1&&true)))=false by rw[show eqI (lenI log) (lenI log)=true from decide_eq_true rfl,show eqI (zaD log).1 (zaD log).1=true from decide_eq_true rfl];rfl)
 induction z:m'.sync with
 |true=>
  rw[z] at hd L
  exact zaB 60 kap nms (preA nums x 2 y w st k ke wo ex++aL [.b false,.b false,.b false]++datA k n t wh ke wo ex++aL [.b true,.loop .next (LT safe (lenI log)) (LO ns nums m s log done hs++GO k n (lenI log) ke wo),.call (.ok (.d (.tup [.int (lenI log),.int (zaD log).1,confD ll]))) (zaG m' s),.b false]++endA m' s true) rfl
   (happ P0 (happ P1 (happ P2 (happ P3 (endE X true z ha hd))))) (by kernel_rfl) L
 |false=>
  rw[z] at hd L
  exact zaB 60 kap nms (preA nums x 2 y w st k ke wo ex++aL [.b false,.b false,.b false]++datA k n t wh ke wo ex++aL [.b true,.loop .next (LT safe (lenI log)) (LO ns nums m s log done hs++GO k n (lenI log) ke wo),.call (.ok (.d (.tup [.int (lenI log),.int (zaD log).1,confD ll]))) (zaG m' s),.b false]++endA m' s false) rfl
   (happ P0 (happ P1 (happ P2 (happ P3 (endE X false z ha hd))))) (by kernel_rfl) L
end
end
section
open PySem PySem.W PyProof.Rows
theorem cmdB_len{k n:Int}{wh:Bool}{ke wo:Byt}{ex:Option Byt}(B:CB k n ke wo ex):(cmdB k n wh ke wo ex).length<200:=by
 have:=zgJ wh;have:=B.ke;have:=B.wo;have:=mbB_len ex B.so;unfold cmdB;simp;lia
theorem sl_last(D:Byt):sl D none (some (-1))=D.dropLast:=by
 have e:zbT D.length (-1)=D.length - 1:=by
  unfold zbT;rw[lti (show (-1:Int)<0 by decide)]
  simp only[cond_true];by_cases h:D.length=0
  ·rw[h];rfl
  ·rw[nlti (show 0<=-1+(D.length:Int) by lia)]
   simp only[cond_false];lia
 unfold sl;simp only[e];rw[List.drop_zero,List.dropLast_eq_take];rfl
theorem sl_tail(c:UInt8)(D:Byt):sl (c::D) (some 1) none=D:=by
 have e:zbT (c::D).length 1=1:=by
  unfold zbT;rw[nlti (show (0:Int)<=1 by decide)]
  simp only[cond_false];rw[nlti (show (1:Int)<=((c::D).length:Int) by simp;lia)]
  rfl
 unfold sl;simp only[e];rw[List.drop_one,List.tail_cons];exact List.take_of_length_le (by simp)
noncomputable def entA(m':MM)(s':SO)(li t kk:Int)(D:Byt):List Ans:=[.call (.ok (.r 0)) [entD t (li+1) kk D],.call (.ok Nn) (MEo m' s' t (li+1) kk D),.b false]
section
variable{cx:Cx}{P:PySem.Params}(X:On cx P)
noncomputable def entE{m m':MM}{s s':SO}{log:List (Int×Int)}{t kk:Int}{D:Byt}(o:Int)(b:Bool)(hb:eqI (Int.fmod o 5) 0=b)(hl2:log.length<100)
  (hap:CallOK cx 8 (.mt "Machine" "apply") [.r 0,.r 4,Nn] (MEo m s t (lenI log+1) kk D) (.ok Nn) (MEo m' s' t (lenI log+1) kk D)):=
 happ (h4 (N_Entry X).val (show (5:Int)≠0 by decide) hb ((c_Entry X (t:=t) (i:=lenI log+1) (k:=kk) (b:=D)).up (n':=8))) (h4 (zaR X).mv hap (show false=false from rfl) (show log.length<1000000 by lia))
include X
theorem turn_none1{nums ns:List Int}{i x y w st k n t safe:Int}{ke wo:Byt}{ex:Option Byt}{m m':MM}{s s':SO}{log:List (Int×Int)}{done:List Row}{hs:List Int}{wh:Bool}{xs:List DV}{e:Env'}{os:Objs}
  (hn:nums≠[]) (hl:nums.length<=7) (hi:0<=1+i/\1+i<=7) (hx:zaP nums (1+i)=x) (D:Dr x 3 y w st k ke wo ex) (B:CB k n ke wo ex) (hw:w=wI wh) (h2s:hs.length=2) (hnn:mx0 (hAt hs w+st)=n) (hlg:log≠[]) (hl2:log.length<100) (htt:(zaD log).1+(y.fdiv 3).fmod 2=t)
  (i0:i≠0) (ho:y.fmod 6=1)
  (hap:CallOK cx 8 (.mt "Machine" "apply") [.r 0,.r 4,Nn] (MEo m s t (lenI log+1) 0 []) (.ok Nn) (MEo m' s' t (lenI log+1) 0 []))
  (ha:(m'.mark s').applied=lenI (log++[(t,(zaD log).2)])) (hd:(m'.mark s').durable=bif m'.sync then lenI (log++[(t,(zaD log).2)]) else safe)
  (L:LW cx xs (bif m'.sync then lenI (log++[(t,(zaD log).2)]) else safe) (LO ns nums (m'.mark s') s' (log++[(t,(zaD log).2)]) done hs) e os) :
  LW cx (.int i::xs) safe (LO ns nums m s log done hs) e os:=by
 have P0:=preE X (i:=i) hn hl hi hx D;have P1:Holds [eqI i 0=false,eqI 3 0=false,eqI 3 1=false]:=h3 (eqIf i0) rfl rfl;have P2:=datE X (st:=st) B hw h2s hnn hlg htt;have P3:=h5 (show eqI 3 2=false from rfl) (show eqI 3 3=true from rfl) (show (6:Int)≠0 by decide) (show plain (.int (y.fmod 6))=plain (.int 1) by rw[ho]) (show zcD log.length (-1) from zbI hlg)
 have P4:=h2 (show eqI 1 0=false from rfl) (show eqI 1 1=true from rfl)
 have P5:=entE X 1 false rfl hl2 hap;induction z:m'.sync with
 |true=>
  rw[z] at hd L
  exact zaB 60 kap nms (preA nums x 3 y w st k ke wo ex++aL [.b false,.b false,.b false]++datA k n t wh ke wo ex++aL [.b false,.b true,.re "odd" (.int 1),.b false,.b true,.b false]++entA m' s' (lenI log) t 0 []++endA m' s' true) rfl
   (happ P0 (happ P1 (happ P2 (happ P3 (happ P4 (happ P5 (endE X true z ha hd))))))) (by kernel_rfl) L
 |false=>
  rw[z] at hd L
  exact zaB 60 kap nms (preA nums x 3 y w st k ke wo ex++aL [.b false,.b false,.b false]++datA k n t wh ke wo ex++aL [.b false,.b true,.re "odd" (.int 1),.b false,.b true,.b false]++entA m' s' (lenI log) t 0 []++endA m' s' false) rfl
   (happ P0 (happ P1 (happ P2 (happ P3 (happ P4 (happ P5 (endE X false z ha hd))))))) (by kernel_rfl) L
theorem turn_none2{nums ns:List Int}{i x y w st k n t safe:Int}{ke wo:Byt}{ex:Option Byt}{m m':MM}{s s':SO}{log:List (Int×Int)}{done:List Row}{hs:List Int}{wh:Bool}{xs:List DV}{e:Env'}{os:Objs}
  (hn:nums≠[]) (hl:nums.length<=7) (hi:0<=1+i/\1+i<=7) (hx:zaP nums (1+i)=x) (D:Dr x 3 y w st k ke wo ex) (B:CB k n ke wo ex) (hw:w=wI wh) (h2s:hs.length=2) (hnn:mx0 (hAt hs w+st)=n) (hlg:log≠[]) (hl2:log.length<100) (htt:(zaD log).1+(y.fdiv 3).fmod 2=t)
  (i0:i≠0) (ho:y.fmod 6=2)
  (hap:CallOK cx 8 (.mt "Machine" "apply") [.r 0,.r 4,Nn] (MEo m s t (lenI log+1) 0 (cmdB k n wh ke wo ex++[0])) (.ok Nn) (MEo m' s' t (lenI log+1) 0 (cmdB k n wh ke wo ex++[0])))
  (ha:(m'.mark s').applied=lenI (log++[(t,(zaD log).2)])) (hd:(m'.mark s').durable=bif m'.sync then lenI (log++[(t,(zaD log).2)]) else safe)
  (L:LW cx xs (bif m'.sync then lenI (log++[(t,(zaD log).2)]) else safe) (LO ns nums (m'.mark s') s' (log++[(t,(zaD log).2)]) done hs) e os) :
  LW cx (.int i::xs) safe (LO ns nums m s log done hs) e os:=by
 have P0:=preE X (i:=i) hn hl hi hx D;have P1:Holds [eqI i 0=false,eqI 3 0=false,eqI 3 1=false]:=h3 (eqIf i0) rfl rfl;have P2:=datE X (st:=st) B hw h2s hnn hlg htt;have P3:=h5 (show eqI 3 2=false from rfl) (show eqI 3 3=true from rfl) (show (6:Int)≠0 by decide) (show plain (.int (y.fmod 6))=plain (.int 2) by rw[ho]) (show zcD log.length (-1) from zbI hlg)
 have P4:=h3 (show eqI 2 0=false from rfl) (show eqI 2 1=false from rfl) (show eqI 2 2=true from rfl)
 have P5:=entE X 2 false rfl hl2 hap;have PR:=h1 (show (cmdB k n wh ke wo ex).length+([0]:Byt).length<=1000000 by have:=cmdB_len (wh:=wh) B;simp;lia)
 induction z:m'.sync with
 |true=>
  rw[z] at hd L
  exact zaB 60 kap nms (preA nums x 3 y w st k ke wo ex++aL [.b false,.b false,.b false]++datA k n t wh ke wo ex++aL [.b false,.b true,.re "odd" (.int 2),.b false,.b false,.b true,.b false]++entA m' s' (lenI log) t 0 (cmdB k n wh ke wo ex++[0])++endA m' s' true) rfl
   (happ P0 (happ P1 (happ P2 (happ P3 (happ P4 (happ PR (happ P5 (endE X true z ha hd)))))))) (by kernel_rfl) L
 |false=>
  rw[z] at hd L
  exact zaB 60 kap nms (preA nums x 3 y w st k ke wo ex++aL [.b false,.b false,.b false]++datA k n t wh ke wo ex++aL [.b false,.b true,.re "odd" (.int 2),.b false,.b false,.b true,.b false]++entA m' s' (lenI log) t 0 (cmdB k n wh ke wo ex++[0])++endA m' s' false) rfl
   (happ P0 (happ P1 (happ P2 (happ P3 (happ P4 (happ PR (happ P5 (endE X false z ha hd)))))))) (by kernel_rfl) L
theorem turn_none3{nums ns:List Int}{i x y w st k n t safe:Int}{ke wo:Byt}{ex:Option Byt}{m m':MM}{s s':SO}{log:List (Int×Int)}{done:List Row}{hs:List Int}{wh:Bool}{xs:List DV}{e:Env'}{os:Objs}
  (hn:nums≠[]) (hl:nums.length<=7) (hi:0<=1+i/\1+i<=7) (hx:zaP nums (1+i)=x) (D:Dr x 3 y w st k ke wo ex) (B:CB k n ke wo ex) (hw:w=wI wh) (h2s:hs.length=2) (hnn:mx0 (hAt hs w+st)=n) (hlg:log≠[]) (hl2:log.length<100) (htt:(zaD log).1+(y.fdiv 3).fmod 2=t)
  (i0:i≠0) (ho:y.fmod 6=3)
  (hap:CallOK cx 8 (.mt "Machine" "apply") [.r 0,.r 4,Nn] (MEo m s t (lenI log+1) 0 (cmdB k n wh ke wo ex).dropLast) (.ok Nn) (MEo m' s' t (lenI log+1) 0 (cmdB k n wh ke wo ex).dropLast))
  (ha:(m'.mark s').applied=lenI (log++[(t,(zaD log).2)])) (hd:(m'.mark s').durable=bif m'.sync then lenI (log++[(t,(zaD log).2)]) else safe)
  (L:LW cx xs (bif m'.sync then lenI (log++[(t,(zaD log).2)]) else safe) (LO ns nums (m'.mark s') s' (log++[(t,(zaD log).2)]) done hs) e os) :
  LW cx (.int i::xs) safe (LO ns nums m s log done hs) e os:=by
 have P0:=preE X (i:=i) hn hl hi hx D;have P1:Holds [eqI i 0=false,eqI 3 0=false,eqI 3 1=false]:=h3 (eqIf i0) rfl rfl;have P2:=datE X (st:=st) B hw h2s hnn hlg htt;have P3:=h5 (show eqI 3 2=false from rfl) (show eqI 3 3=true from rfl) (show (6:Int)≠0 by decide) (show plain (.int (y.fmod 6))=plain (.int 3) by rw[ho]) (show zcD log.length (-1) from zbI hlg)
 have P4:=h4 (show eqI 3 0=false from rfl) (show eqI 3 1=false from rfl) (show eqI 3 2=false from rfl) (show eqI 3 3=true from rfl)
 rw[←sl_last] at hap;have P5:=entE X 3 false rfl hl2 hap;induction z:m'.sync with
 |true=>
  rw[z] at hd L
  exact zaB 60 kap nms (preA nums x 3 y w st k ke wo ex++aL [.b false,.b false,.b false]++datA k n t wh ke wo ex++aL [.b false,.b true,.re "odd" (.int 3),.b false,.b false,.b false,.b true,.b false]++entA m' s' (lenI log) t 0 (sl (cmdB k n wh ke wo ex) none (some (-1)))++endA m' s' true) rfl
   (happ P0 (happ P1 (happ P2 (happ P3 (happ P4 (happ P5 (endE X true z ha hd))))))) (by kernel_rfl) L
 |false=>
  rw[z] at hd L
  exact zaB 60 kap nms (preA nums x 3 y w st k ke wo ex++aL [.b false,.b false,.b false]++datA k n t wh ke wo ex++aL [.b false,.b true,.re "odd" (.int 3),.b false,.b false,.b false,.b true,.b false]++entA m' s' (lenI log) t 0 (sl (cmdB k n wh ke wo ex) none (some (-1)))++endA m' s' false) rfl
   (happ P0 (happ P1 (happ P2 (happ P3 (happ P4 (happ P5 (endE X false z ha hd))))))) (by kernel_rfl) L
theorem turn_none4{nums ns:List Int}{i x y w st k n t safe:Int}{ke wo:Byt}{ex:Option Byt}{m m':MM}{s s':SO}{log:List (Int×Int)}{done:List Row}{hs:List Int}{wh:Bool}{xs:List DV}{e:Env'}{os:Objs}
  (hn:nums≠[]) (hl:nums.length<=7) (hi:0<=1+i/\1+i<=7) (hx:zaP nums (1+i)=x) (D:Dr x 3 y w st k ke wo ex) (B:CB k n ke wo ex) (hw:w=wI wh) (h2s:hs.length=2) (hnn:mx0 (hAt hs w+st)=n) (hlg:log≠[]) (hl2:log.length<100) (htt:(zaD log).1+(y.fdiv 3).fmod 2=t)
  (i0:i≠0) (ho:y.fmod 6=4)
  (hap:CallOK cx 8 (.mt "Machine" "apply") [.r 0,.r 4,Nn] (MEo m s t (lenI log+1) 0 (cmdB 7 n wh ke wo ex)) (.ok Nn) (MEo m' s' t (lenI log+1) 0 (cmdB 7 n wh ke wo ex)))
  (ha:(m'.mark s').applied=lenI (log++[(t,(zaD log).2)])) (hd:(m'.mark s').durable=bif m'.sync then lenI (log++[(t,(zaD log).2)]) else safe)
  (L:LW cx xs (bif m'.sync then lenI (log++[(t,(zaD log).2)]) else safe) (LO ns nums (m'.mark s') s' (log++[(t,(zaD log).2)]) done hs) e os) :
  LW cx (.int i::xs) safe (LO ns nums m s log done hs) e os:=by
 have P0:=preE X (i:=i) hn hl hi hx D;have P1:Holds [eqI i 0=false,eqI 3 0=false,eqI 3 1=false]:=h3 (eqIf i0) rfl rfl;have P2:=datE X (st:=st) B hw h2s hnn hlg htt;have P3:=h5 (show eqI 3 2=false from rfl) (show eqI 3 3=true from rfl) (show (6:Int)≠0 by decide) (show plain (.int (y.fmod 6))=plain (.int 4) by rw[ho]) (show zcD log.length (-1) from zbI hlg)
 have P4:=h5 (show eqI 4 0=false from rfl) (show eqI 4 1=false from rfl) (show eqI 4 2=false from rfl) (show eqI 4 3=false from rfl) (show eqI 4 4=true from rfl)
 rw[show cmdB 7 n wh ke wo ex=[7]++sl (cmdB k n wh ke wo ex) (some 1) none by unfold cmdB;rw[sl_tail];rfl] at hap
 have P5:=entE X 4 false rfl hl2 hap;have PR:=h1 (show ([7]:Byt).length+(sl (cmdB k n wh ke wo ex) (some 1) none).length<=1000000 by have:=cmdB_len (wh:=wh) B;unfold cmdB at *;rw[sl_tail];simp at *;lia)
 induction z:m'.sync with
 |true=>
  rw[z] at hd L
  exact zaB 60 kap nms (preA nums x 3 y w st k ke wo ex++aL [.b false,.b false,.b false]++datA k n t wh ke wo ex++aL [.b false,.b true,.re "odd" (.int 4),.b false,.b false,.b false,.b false,.b true,.b false]++entA m' s' (lenI log) t 0 ([7]++sl (cmdB k n wh ke wo ex) (some 1) none)++endA m' s' true) rfl
   (happ P0 (happ P1 (happ P2 (happ P3 (happ P4 (happ PR (happ P5 (endE X true z ha hd)))))))) (by kernel_rfl) L
 |false=>
  rw[z] at hd L
  exact zaB 60 kap nms (preA nums x 3 y w st k ke wo ex++aL [.b false,.b false,.b false]++datA k n t wh ke wo ex++aL [.b false,.b true,.re "odd" (.int 4),.b false,.b false,.b false,.b false,.b true,.b false]++entA m' s' (lenI log) t 0 ([7]++sl (cmdB k n wh ke wo ex) (some 1) none)++endA m' s' false) rfl
   (happ P0 (happ P1 (happ P2 (happ P3 (happ P4 (happ PR (happ P5 (endE X false z ha hd)))))))) (by kernel_rfl) L
theorem turn_none5{nums ns:List Int}{i x y w st k n t safe:Int}{ke wo:Byt}{ex:Option Byt}{m m':MM}{s s':SO}{log:List (Int×Int)}{done:List Row}{hs:List Int}{wh:Bool}{xs:List DV}{e:Env'}{os:Objs}
  (hn:nums≠[]) (hl:nums.length<=7) (hi:0<=1+i/\1+i<=7) (hx:zaP nums (1+i)=x) (D:Dr x 3 y w st k ke wo ex) (B:CB k n ke wo ex) (hw:w=wI wh) (h2s:hs.length=2) (hnn:mx0 (hAt hs w+st)=n) (hlg:log≠[]) (hl2:log.length<100) (htt:(zaD log).1+(y.fdiv 3).fmod 2=t)
  (i0:i≠0) (ho:y.fmod 6=5)
  (hap:CallOK cx 8 (.mt "Machine" "apply") [.r 0,.r 4,Nn] (MEo m s t (lenI log+1) 2 (cmdB k n wh ke wo ex)) (.ok Nn) (MEo m' s' t (lenI log+1) 2 (cmdB k n wh ke wo ex)))
  (ha:(m'.mark s').applied=lenI (log++[(t,(zaD log).2)])) (hd:(m'.mark s').durable=bif m'.sync then lenI (log++[(t,(zaD log).2)]) else safe)
  (L:LW cx xs (bif m'.sync then lenI (log++[(t,(zaD log).2)]) else safe) (LO ns nums (m'.mark s') s' (log++[(t,(zaD log).2)]) done hs) e os) :
  LW cx (.int i::xs) safe (LO ns nums m s log done hs) e os:=by
 have P0:=preE X (i:=i) hn hl hi hx D;have P1:Holds [eqI i 0=false,eqI 3 0=false,eqI 3 1=false]:=h3 (eqIf i0) rfl rfl;have P2:=datE X (st:=st) B hw h2s hnn hlg htt;have P3:=h5 (show eqI 3 2=false from rfl) (show eqI 3 3=true from rfl) (show (6:Int)≠0 by decide) (show plain (.int (y.fmod 6))=plain (.int 5) by rw[ho]) (show zcD log.length (-1) from zbI hlg)
 have P4:=h5 (show eqI 5 0=false from rfl) (show eqI 5 1=false from rfl) (show eqI 5 2=false from rfl) (show eqI 5 3=false from rfl) (show eqI 5 4=false from rfl)
 have P5:=entE X 5 true rfl hl2 hap;induction z:m'.sync with
 |true=>
  rw[z] at hd L
  exact zaB 60 kap nms (preA nums x 3 y w st k ke wo ex++aL [.b false,.b false,.b false]++datA k n t wh ke wo ex++aL [.b false,.b true,.re "odd" (.int 5),.b false,.b false,.b false,.b false,.b false,.b true]++entA m' s' (lenI log) t 2 (cmdB k n wh ke wo ex)++endA m' s' true) rfl
   (happ P0 (happ P1 (happ P2 (happ P3 (happ P4 (happ P5 (endE X true z ha hd))))))) (by kernel_rfl) L
 |false=>
  rw[z] at hd L
  exact zaB 60 kap nms (preA nums x 3 y w st k ke wo ex++aL [.b false,.b false,.b false]++datA k n t wh ke wo ex++aL [.b false,.b true,.re "odd" (.int 5),.b false,.b false,.b false,.b false,.b false,.b true]++entA m' s' (lenI log) t 2 (cmdB k n wh ke wo ex)++endA m' s' false) rfl
   (happ P0 (happ P1 (happ P2 (happ P3 (happ P4 (happ P5 (endE X false z ha hd))))))) (by kernel_rfl) L
end
end
section
open PySem PySem.W PyProof.Rows
section
variable{cx:Cx}{P:PySem.Params}(X:On cx P)
include X
theorem turn_conf{nums ns:List Int}{i x y w st k n t safe mem:Int}{ke wo:Byt}{ex:Option Byt}{m m':MM}{s s':SO}{log:List (Int×Int)}{done:List Row}{hs ll:List Int}{wh:Bool}{xs:List DV}{e:Env'}{os:Objs}
  (hn:nums≠[]) (hl:nums.length<=7) (hi:0<=1+i/\1+i<=7) (hx:zaP nums (1+i)=x) (D:Dr x 3 y w st k ke wo ex) (B:CB k n ke wo ex) (hw:w=wI wh) (h2s:hs.length=2) (hnn:mx0 (hAt hs w+st)=n) (hlg:log≠[]) (hl2:log.length<100) (htt:(zaD log).1+(y.fdiv 3).fmod 2=t)
  (i0:i≠0) (ho:y.fmod 6=0) (hm:1+(y.fdiv 5).fmod 3=mem) (hI:Ids ll)
  (hr:CallOK cx 0 (.fn "list") [.d (.rng 1 (mem+1) 1)] [] (.ok (.d (.tl .int ll))) [])
  (hap:CallOK cx 8 (.mt "Machine" "apply") [.r 0,.r 4,.r 5] (MEo m s t (lenI log+1) 2 (cmdB k n wh ke wo ex)++zb0 5 ll) (.ok Nn) (MEo m' s' t (lenI log+1) 2 (cmdB k n wh ke wo ex)++zb0 5 ll))
  (ha:(m'.mark s').applied=lenI (log++[(t,mem)])) (hd:(m'.mark s').durable=bif m'.sync then lenI (log++[(t,mem)]) else safe)
  (L:LW cx xs (bif m'.sync then lenI (log++[(t,mem)]) else safe) (LO ns nums (m'.mark s') s' (log++[(t,mem)]) done hs) e os) :
  LW cx (.int i::xs) safe (LO ns nums m s log done hs) e os:=by
 subst hm;have P0:=preE X (i:=i) hn hl hi hx D;have P1:Holds [eqI i 0=false,eqI 3 0=false,eqI 3 1=false]:=h3 (eqIf i0) rfl rfl;have P2:=datE X (st:=st) B hw h2s hnn hlg htt;have P3:=h5 (show eqI 3 2=false from rfl) (show eqI 3 3=true from rfl) (show (6:Int)≠0 by decide) (show plain (.int (y.fmod 6))=plain (.int 0) by rw[ho]) (show zcD log.length (-1) from zbI hlg)
 have P4:=h3 (show eqI 0 0=true from rfl) (show (5:Int)≠0/\Int.natAbs 5<1073741824 by decide) (show (3:Int)≠0 by decide)
 have P5:=h4 (zbN X).val (k_list X) (hr.up (n':=8)) ((c_ConfD X (ys:=[]) (zs:=[]) (us:=[]) hI rfl rfl rfl).up (n':=8));have P6:=happ (h4 (N_Entry X).val (show (5:Int)≠0 by decide) (show eqI (Int.fmod 0 5) 0=true from rfl) ((c_Entry X (t:=t) (i:=lenI log+1) (k:=2) (b:=(cmdB k n wh ke wo ex))).up (n':=8))) (h4 (zaR X).mv hap (show false=false from rfl) (show log.length<1000000 by lia))
 induction z:m'.sync with
 |true=>
  rw[z] at hd L
  exact zaB 60 kap nms (preA nums x 3 y w st k ke wo ex++aL [.b false,.b false,.b false]++datA k n t wh ke wo ex++aL [.b false,.b true,.re "odd" (.int 0),.b true,.call (.ok (.d (.tl .int ll))) [],.call (.ok (.r 3)) ([.tl .int [],.tl .int [],.tl .int []]++zb0 3 ll),.b true,.call (.ok (.r 0)) [entD t (lenI log+1) 2 (cmdB k n wh ke wo ex)],.call (.ok Nn) (MEo m' s' t (lenI log+1) 2 (cmdB k n wh ke wo ex)++zb0 5 ll),.b false]++endA m' s' true) rfl
   (happ P0 (happ P1 (happ P2 (happ P3 (happ P4 (happ P5 (happ P6 (endE X true z ha hd)))))))) (by kernel_rfl) L
 |false=>
  rw[z] at hd L
  exact zaB 60 kap nms (preA nums x 3 y w st k ke wo ex++aL [.b false,.b false,.b false]++datA k n t wh ke wo ex++aL [.b false,.b true,.re "odd" (.int 0),.b true,.call (.ok (.d (.tl .int ll))) [],.call (.ok (.r 3)) ([.tl .int [],.tl .int [],.tl .int []]++zb0 3 ll),.b true,.call (.ok (.r 0)) [entD t (lenI log+1) 2 (cmdB k n wh ke wo ex)],.call (.ok Nn) (MEo m' s' t (lenI log+1) 2 (cmdB k n wh ke wo ex)++zb0 5 ll),.b false]++endA m' s' false) rfl
   (happ P0 (happ P1 (happ P2 (happ P3 (happ P4 (happ P5 (happ P6 (endE X false z ha hd)))))))) (by kernel_rfl) L
end
end
section
open PySem PySem.W PyProof.Rows
noncomputable abbrev cscS:Scope:=⟨.function,[(".0",.local),("row",.local),("safe",.free)],false,false,[]⟩
noncomputable def CE (safe i x y w st k:Int) (ke wo:Byt) (ex:Option Byt) (top ix t:Int) (ll:List Int):Env':=[("nums",.r 0),("machine",.r 16),("store",.r 13),("log",.r 17),("done",.r 6),("held",.r 7),("safe",I safe),("i",I i),("x",I x),("act",I 0),("y",I y),("who",I w),("step",I st),("kind",I k),("key",Y ke),("word",Y wo),("expect",Ob ex),("top",I top),("fresh",.r 16),("index",I ix),("term",I t),("conf",.d (confD ll))]
noncomputable def CO(ns nums hs:List Int)(m m2:MM)(s s2:SO)(log lg2:List (Int×Int))(done:List Row):Objs:=LO ns nums m s log done hs++[.tl .int lSteps,.tl .int lKinds,.tl .byt lKeys,.tl .byt lWords,.tl .ob lExpects]++za1 13 s2++[machAt 13 m2,.tl .pair lg2]
section
variable{cx:Cx}{P:PySem.Params}(X:On cx P)
include X
theorem c_conf_rowD {l:List Int}:CallOK cx 1 (.mt "ConfState" "row") [.d (confD l)] [] (.ok (.d (.tup [.tt .int l,.tt .int [],.tt .int [],.tt .int [],.bool false]))) []:=
 have c:∀l:List Int,CallOK cx 0 (.fn "tuple") [.d (.tl .int l)] [] (.ok (.d (.tt .int l))) []:=λl=>call_tuple (ps:=l.map PV.int) (b_tuple X) (d:=.tl .int l) rfl rfl rfl
 cb (zfS X) 0 60 [] [.call (.ok (.d (.tt .int l))) [],.call (.ok (.d (.tt .int []))) [],.call (.ok (.d (.tt .int []))) [],.call (.ok (.d (.tt .int []))) []]
  (happ (h2 (k_tuple X) (c l)) (happ (h2 (k_tuple X) (c [])) (h4 (k_tuple X) (c []) (k_tuple X) (c [])))) (by kernel_rfl)
theorem turn_cut{nums ns:List Int}{i x y w st k safe safe2:Int}{ke wo:Byt}{ex:Option Byt}{m m2:MM}{s s2:SO}{log lg2:List (Int×Int)}{done:List Row}{hs ll:List Int}{xs:List DV}{e:Env'}{os:Objs}
  (hn:nums≠[]) (hl:nums.length<=7) (hi:0<=1+i/\1+i<=7) (hx:zaP nums (1+i)=x) (D:Dr x 0 y w st k ke wo ex) (i0:i≠0)
  (hd100:done.length<=100) (hsf:safe+y.fmod (lenI log - safe+1)=safe2) (hne:lenI log - safe+1≠0) (hlg:sl log none (some safe2)=lg2) (hl2:lg2≠[])
  (hcut:CallOK cx 3 (.mt "MemStore" "cut") [.r 0,I y] (za1 0 s) (.ok (.r 3)) (za1 0 s++za1 3 s2))
  (hld:CallOK cx 5 (.mt "Machine" "load") [.r 0] (zaG ⟨0,0,[],0,m.sync⟩ s2) (.ok (.d (.tup [.int safe2,.int (zaD lg2).1,confD ll]))) (zaG m2 s2))
  (hrg:CallOK cx 0 (.fn "tuple") [.d (.rng 1 ((zaD lg2).2+1) 1)] [] (.ok (.d (.tt .int ll))) [])
  (hag:CallOK cx 6 (.fn "_law_agree") [.r 0,.r 4,.r 5] (AO m2 s2 (done.filter λr=>cmpI .LtE (rowJ 0 r) safe2) lg2) (.ok (Bo true)) (AO m2 s2 (done.filter λr=>cmpI .LtE (rowJ 0 r) safe2) lg2))
  (ha:(m2.mark s2).applied=lenI lg2) (hd:(m2.mark s2).durable=safe2)
  (L:LW cx xs safe2 (LO ns nums (m2.mark s2) s2 lg2 (done.filter λr=>cmpI .LtE (rowJ 0 r) safe2) hs) e os) :
  LW cx (.int i::xs) safe (LO ns nums m s log done hs) e os:=by
 subst hlg;subst hsf;have P0:=preE X (i:=i) hn hl hi hx D;have P1:Holds [eqI i 0=false,eqI 0 0=true]:=h2 (eqIf i0) rfl;have P2:=h5 (zgE X).mv (hcut.up (n':=8)) (zhQ X).val ((c_Machine X (s:=s2)).up (n':=8)) (show lenI log - safe+1≠0 from hne)
 have P3:=h2 (zbP X).mv (hld.up (n':=8))
 have hc:zdP cx (za2 90) 8 1 0 "safe" 0 .LtE 739 20 43 53 4 (.r 6) done (CE (safe+y.fmod (lenI log - safe+1)) i x y w st k ke wo ex (lenI log) (safe+y.fmod (lenI log - safe+1)) (zaD (sl log none (some (safe+y.fmod (lenI log - safe+1))))).1 ll) (CO ns nums hs m m2 s s2 log (sl log none (some (safe+y.fmod (lenI log - safe+1)))) done) (.tl .row (done.filter λr=>cmpI .LtE (rowJ 0 r) (safe+y.fmod (lenI log - safe+1)))):=
  selEv (by decide) rfl rfl (by kernel_rfl) (by kernel_rfl) (by kernel_rfl) (by kernel_rfl) (by lia)
 have sw:zd6 (za2 90) "done" cscS:=⟨by kernel_rfl,by kernel_rfl⟩
 have q1:(!(eqI (safe+y.fmod (lenI log - safe+1)) (safe+y.fmod (lenI log - safe+1))&&(eqI (zaD (sl log none (some (safe+y.fmod (lenI log - safe+1))))).1 (zaD (sl log none (some (safe+y.fmod (lenI log - safe+1))))).1&&true)))=false:=by rw[show eqI (safe+y.fmod (lenI log - safe+1)) (safe+y.fmod (lenI log - safe+1))=true from decide_eq_true rfl,show eqI (zaD (sl log none (some (safe+y.fmod (lenI log - safe+1))))).1 (zaD (sl log none (some (safe+y.fmod (lenI log - safe+1))))).1=true from decide_eq_true rfl];rfl
 have q2:(!(eqLI ll ll&&true))=false:=by rw[show eqLI ll ll=true from decide_eq_true rfl];rfl
 have P4:=h3 (show zdP cx (za2 90) 8 1 0 "safe" 0 .LtE 739 20 43 53 4 (.r 6) done (CE (safe+y.fmod (lenI log - safe+1)) i x y w st k ke wo ex (lenI log) (safe+y.fmod (lenI log - safe+1)) (zaD (sl log none (some (safe+y.fmod (lenI log - safe+1))))).1 ll) (CO ns nums hs m m2 s s2 log (sl log none (some (safe+y.fmod (lenI log - safe+1)))) done) (.tl .row (done.filter λr=>cmpI .LtE (rowJ 0 r) (safe+y.fmod (lenI log - safe+1))))/\zd6 (za2 90) "done" cscS from ⟨hc,sw⟩) (show zcD (sl log none (some (safe+y.fmod (lenI log - safe+1)))).length (-1) from zbI hl2) q1
 have P5:=happ (h6 (zfS X).mv ((c_conf_rowD X (l:=ll)).up (n':=8)) (k_tuple X) (show zcD (sl log none (some (safe+y.fmod (lenI log - safe+1)))).length (-1) from zbI hl2) (hrg.up (n':=8)) q2) (h3 (ze3 X).kv (hag.up (n':=8)) (show true=true from rfl))
 have P6:=h3 (zaA X).mv ((c_mark X (m:=m2) (s:=s2)).up (n':=8)) (show (!(eqI (m2.mark s2).applied (lenI (sl log none (some (safe+y.fmod (lenI log - safe+1)))))&&(eqI (m2.mark s2).durable (safe+y.fmod (lenI log - safe+1))&&true)))=false by rw[ha,hd,show eqI (lenI (sl log none (some (safe+y.fmod (lenI log - safe+1))))) (lenI (sl log none (some (safe+y.fmod (lenI log - safe+1)))))=true from decide_eq_true rfl,show eqI (safe+y.fmod (lenI log - safe+1)) (safe+y.fmod (lenI log - safe+1))=true from decide_eq_true rfl];rfl)
 exact zaB 60 [0,16,13,14,15,17,18,7] nms (preA nums x 0 y w st k ke wo ex++aL [.b false,.b true,.call (.ok (.r 3)) (za1 0 s++za1 3 s2),.call (.ok (.r 3)) (za1 0 s2++[machAt 0 ⟨0,0,[],0,false⟩]),
  .call (.ok (.d (.tup [.int (safe+y.fmod (lenI log - safe+1)),.int (zaD (sl log none (some (safe+y.fmod (lenI log - safe+1))))).1,confD ll]))) (zaG m2 s2),.comp (.tl .row (done.filter λr=>cmpI .LtE (rowJ 0 r) (safe+y.fmod (lenI log - safe+1)))),.b false,
  .call (.ok (.d (.tup [.tt .int ll,.tt .int [],.tt .int [],.tt .int [],.bool false]))) [],.call (.ok (.d (.tt .int ll))) [],.b false,.call (.ok (Bo true)) (AO m2 s2 (done.filter λr=>cmpI .LtE (rowJ 0 r) (safe+y.fmod (lenI log - safe+1))) (sl log none (some (safe+y.fmod (lenI log - safe+1))))),.b true,
  .call (.ok Nn) (zaG (m2.mark s2) s2),.b false]) rfl
  (happ P0 (happ P1 (happ P2 (happ P3 (happ P4 (happ P5 P6)))))) (by kernel_rfl) L
end
end
section
open PySem PySem.W PyProof.Rows
noncomputable def E0 (o:Nat) (ns:List Int) (v safe:Int):Env':=[("script",.d (.tl .int ns)),("nums",.r (o+1)),("setup",I v),("store",.r (o+2)),("machine",.r (o+5)),("twice",Bo true),("log",.r (o+24)),("done",.r (o+25)),("held",.r (o+26)),("safe",I safe)]
noncomputable def O0(pre:Objs)(o:Nat)(_ns n7 nums:List Int)(m:MM)(s:SO)(l1 l2:List Int)(log:List (Int×Int))(done:List Row)(hs:List Int):Objs:=
 oL [.tl .int n7]++pre++oL [.tl .int nums]++za1 (o+2) s++oL [machAt (o+2) m,.tl .int l1,.tl .int [],.tl .int [],.tl .int []]++zb0 (o+10) l1++oL [.tl .int l2,.tl .int [],.tl .int [],.tl .int []]++zb0 (o+19) l2++oL [.tl .pair log,.tl .row done,.tl .int hs]
section
variable{cx:Cx}{P:PySem.Params}(X:On cx P)
include X
theorem turn_first0{nums ns n7 l1 l2:List Int}{x a0 y w0 st0 k0 t cd safe v:Int}{ke wo:Byt}{ex old:Option Byt}{od:DV}{m m':MM}{s s':SO}{log:List (Int×Int)}{done:List Row}{hs:List Int}{xs:List DV}{e:Env'}{os:Objs}
  (hn:nums≠[]) (hl:nums.length<=7) (hx:zaP nums (1+0)=x) (D:Dr x a0 y w0 st0 k0 ke wo ex) (B:CB 5 0 ke wo ex) (h2s:hs.length=2) (hnn:mx0 (hAt hs 0+0)=0) (hlg:log≠[]) (hl2:log.length<100) (hd2:done.length<100) (htt:(zaD log).1+(y.fdiv 3).fmod 2=t)
  (ht:CallOK cx 2 (.fn "_law_told") [.r 0,I (cliN false),I 0,I 5,Y ke,Ob ex] [.tl .row done] (.ok (.d (.tup [.int cd,od,.bool true]))) [.tl .row done]) (ho:plain od=plain (.ob old))
  (hap:CallOK cx 8 (.mt "Machine" "apply") [.r 0,.r 4,Nn] (MEo m s t (lenI log+1) 0 (cmdB 5 0 false ke wo ex)) (.ok (Y (repB cd old))) (MEo m' s' t (lenI log+1) 0 (cmdB 5 0 false ke wo ex))) (hc:0<=cd/\cd<=3) (hs':zbL old)
  (ha:(m'.mark s').applied=lenI (log++[(t,(zaD log).2)])) (hd:(m'.mark s').durable=bif m'.sync then lenI (log++[(t,(zaD log).2)]) else safe)
  (L:LW cx xs (bif m'.sync then lenI (log++[(t,(zaD log).2)]) else safe) (LO ns nums (m'.mark s') s' (log++[(t,(zaD log).2)]) (done++[⟨lenI log+1,cliN false,0,5,ke,wo,cd,old⟩]) (nextH hs 0 0)) e os) :
  LR cx (za2 90) 8 1 0 lawS (.d (.rng 0 6 1)) (upTo 0 6) (.int 0::xs) (E0 0 ns v safe) (O0 [] 0 ns n7 nums m s l1 l2 log done hs) .next e os:=by
 have P0:=preE X (i:=0) hn hl (by decide) hx D
 have P1:Holds [eqI 0 0=true,eqI 9 0=false,eqI 9 1=false]:=h3 rfl rfl rfl;have P2:=datE X (st:=0) (w:=0) (wh:=false) B rfl h2s hnn hlg htt;have P3:Holds [eqI 9 2=false,eqI 9 3=false]:=h2 rfl rfl;have P4:=telE X (w:=0) (n:=0) (k:=5) (wh:=false) rfl ht ho hap hc hs' hlg hl2;have P6:Holds [zcD hs.length 0,(0:Int)<=0/\(0:Int)<hs.length]:=h2 (idx_w (n:=0) false h2s) (by rw[h2s];decide)
 induction z:m'.sync with
 |true=>
  rw[z] at hd L;have P7:=endE X true z ha hd
  exact zaB 60 [1,5,2,3,4,24,25,26] nms (preA nums x a0 y w0 st0 k0 ke wo ex++aL [.b true,.b false,.b false]++datA 5 0 t false ke wo ex++aL [.b false,.b false]++telA m' s' done (lenI log) t cd false true od old (cmdB 5 0 false ke wo ex)++endA m' s' true) rfl
    (happ P0 (happ P1 (happ P2 (happ P3 (happ P4 (happ (h2 (show true=true from rfl) (show done.length<1000000 by lia)) (happ P6 P7))))))) (by kernel_rfl) L
 |false=>
  rw[z] at hd L;have P7:=endE X false z ha hd
  exact zaB 60 [1,5,2,3,4,24,25,26] nms (preA nums x a0 y w0 st0 k0 ke wo ex++aL [.b true,.b false,.b false]++datA 5 0 t false ke wo ex++aL [.b false,.b false]++telA m' s' done (lenI log) t cd false true od old (cmdB 5 0 false ke wo ex)++endA m' s' false) rfl
    (happ P0 (happ P1 (happ P2 (happ P3 (happ P4 (happ (h2 (show true=true from rfl) (show done.length<1000000 by lia)) (happ P6 P7))))))) (by kernel_rfl) L
theorem turn_first1{nums ns n7 l1 l2:List Int}{x a0 y w0 st0 k0 t cd safe v:Int}{ke wo:Byt}{ex old:Option Byt}{od:DV}{m m':MM}{s s':SO}{log:List (Int×Int)}{done:List Row}{hs:List Int}{xs:List DV}{e:Env'}{os:Objs}
  (hn:nums≠[]) (hl:nums.length<=7) (hx:zaP nums (1+0)=x) (D:Dr x a0 y w0 st0 k0 ke wo ex) (B:CB 5 0 ke wo ex) (h2s:hs.length=2) (hnn:mx0 (hAt hs 0+0)=0) (hlg:log≠[]) (hl2:log.length<100) (hd2:done.length<100) (htt:(zaD log).1+(y.fdiv 3).fmod 2=t)
  (ht:CallOK cx 2 (.fn "_law_told") [.r 0,I (cliN false),I 0,I 5,Y ke,Ob ex] [.tl .row done] (.ok (.d (.tup [.int cd,od,.bool true]))) [.tl .row done]) (ho:plain od=plain (.ob old))
  (hap:CallOK cx 8 (.mt "Machine" "apply") [.r 0,.r 4,Nn] (MEo m s t (lenI log+1) 0 (cmdB 5 0 false ke wo ex)) (.ok (Y (repB cd old))) (MEo m' s' t (lenI log+1) 0 (cmdB 5 0 false ke wo ex))) (hc:0<=cd/\cd<=3) (hs':zbL old)
  (ha:(m'.mark s').applied=lenI (log++[(t,(zaD log).2)])) (hd:(m'.mark s').durable=bif m'.sync then lenI (log++[(t,(zaD log).2)]) else safe)
  (L:LW cx xs (bif m'.sync then lenI (log++[(t,(zaD log).2)]) else safe) (LO ns nums (m'.mark s') s' (log++[(t,(zaD log).2)]) (done++[⟨lenI log+1,cliN false,0,5,ke,wo,cd,old⟩]) (nextH hs 0 0)) e os) :
  LR cx (za2 90) 8 1 0 lawS (.d (.rng 0 6 1)) (upTo 0 6) (.int 0::xs) (E0 1 ns v safe) (O0 [.tl .int []] 1 ns n7 nums m s l1 l2 log done hs) .next e os:=by
 have P0:=preE X (i:=0) hn hl (by decide) hx D
 have P1:Holds [eqI 0 0=true,eqI 9 0=false,eqI 9 1=false]:=h3 rfl rfl rfl;have P2:=datE X (st:=0) (w:=0) (wh:=false) B rfl h2s hnn hlg htt;have P3:Holds [eqI 9 2=false,eqI 9 3=false]:=h2 rfl rfl;have P4:=telE X (w:=0) (n:=0) (k:=5) (wh:=false) rfl ht ho hap hc hs' hlg hl2;have P6:Holds [zcD hs.length 0,(0:Int)<=0/\(0:Int)<hs.length]:=h2 (idx_w (n:=0) false h2s) (by rw[h2s];decide)
 induction z:m'.sync with
 |true=>
  rw[z] at hd L;have P7:=endE X true z ha hd
  exact zaB 60 [2,6,3,4,5,25,26,27] nms (preA nums x a0 y w0 st0 k0 ke wo ex++aL [.b true,.b false,.b false]++datA 5 0 t false ke wo ex++aL [.b false,.b false]++telA m' s' done (lenI log) t cd false true od old (cmdB 5 0 false ke wo ex)++endA m' s' true) rfl
    (happ P0 (happ P1 (happ P2 (happ P3 (happ P4 (happ (h2 (show true=true from rfl) (show done.length<1000000 by lia)) (happ P6 P7))))))) (by kernel_rfl) L
 |false=>
  rw[z] at hd L;have P7:=endE X false z ha hd
  exact zaB 60 [2,6,3,4,5,25,26,27] nms (preA nums x a0 y w0 st0 k0 ke wo ex++aL [.b true,.b false,.b false]++datA 5 0 t false ke wo ex++aL [.b false,.b false]++telA m' s' done (lenI log) t cd false true od old (cmdB 5 0 false ke wo ex)++endA m' s' false) rfl
    (happ P0 (happ P1 (happ P2 (happ P3 (happ P4 (happ (h2 (show true=true from rfl) (show done.length<1000000 by lia)) (happ P6 P7))))))) (by kernel_rfl) L
end
end
section
open PySem PySem.W PyProof.Rows
noncomputable abbrev M1(z:Bool):MM:=MM.mark ⟨0,0,[],bif ltI 0 0 then 0 else 0,z⟩ SO.new
noncomputable abbrev S1:SO:=SO.new.write [(1,[97],rowA 1 1 (zaE [1]))] true
noncomputable abbrev M2(z:Bool):MM:=((M1 z).at 1 1 (zaE [1])).mark S1
noncomputable abbrev cscX:Scope:=⟨.function,[(".0",.local),("x",.local)],false,false,[]⟩
noncomputable abbrev HasMod (cx:Cx) (ns n7 nums:List Int):Prop:=(zfB cx (zb7 (za2 90)) 8 2 0).comp cscX (.BinOp (.Name "x" ⟨694,12,694,13⟩) .Mod (.Constant (.int 999983) 0 ⟨694,16,694,22⟩) ⟨694,12,694,22⟩) "x" [] (.r 0) (n7.map .int) [("script",.d (.tl .int ns))] [.tl .int n7] (.tl .int nums)
noncomputable def LawRuns (cx:Cx) (ns:List Int):Prop:=∃ans obl,Holds obl/\fin [] 0 (run (zfB cx (zb7 (za2 90)) 8 2 0) (nmsOf (zb7 (za2 90))) 60 (.exs (zbM (za2 90))) ⟨[("script",.d (.tl .int ns))],[],false,ans,[]⟩)=some (.ok (Bo true),[],obl)
theorem ids1(n:Int)(h:0<=n/\n<128):Ids [n]:=⟨by unfold Ord;simp,by simp,by simp;exact h⟩
theorem s1_row:dget [97] S1.now=some (rowA 1 1 (zaE [1])):=by kernel_rfl
section
variable{cx:Cx}{P:PySem.Params}(X:On cx P)
include X
theorem has_mod{ns n7:List Int}(h:n7.length<=1000):HasMod cx ns n7 (n7.map (·.fmod 999983)):=
 ⟨by kernel_rfl,by kernel_rfl,.mod (by decide),by rw[List.length_map];show n7.length<=16000000;lia⟩
theorem c_law0{ns n7 nums hs':List Int}{safe':Int}{m':MM}{s':SO}{log':List (Int×Int)}{done':List Row}(h7':sl ns none (some 7)=n7)(hm:HasMod cx ns n7 nums)(hnn:nums≠[])(hl:nums.length<=7)
  (L:LR cx (za2 90) 8 1 0 lawS (.d (.rng 0 6 1)) (upTo 0 6) (upTo 0 6) (E0 0 ns (zaP nums 0) 1) (O0 [] 0 ns n7 nums (M2 (eqI ((zaP nums 0).fmod 3) 1)) S1 [1] [2] [(1,1)] [] [0,0]) .next (LE safe') (LO ns nums m' s' log' done' hs'))
  (hag:CallOK cx 6 (.fn "_law_agree") [.r 0,.r 4,.r 5] (AO m' s' done' log') (.ok (Bo true)) (AO m' s' done' log')) :
  LawRuns cx ns:=by
 subst h7';have sw:zd6 (za2 90) "nums" cscX:=⟨by kernel_rfl,by kernel_rfl⟩
 have e0:eqI (lenI nums) 0=false:=eqIf (by unfold lenI;have:=List.length_pos_iff.mpr hnn;lia)
 have P0:=h2 (show HasMod cx ns (sl ns none (some 7)) nums/\zd6 (za2 90) "nums" cscX from ⟨hm,sw⟩) e0
 have hd:=(c_draw X (nums:=nums) (i:=0) hnn hl (by decide)).up (n':=8)
 generalize hv:zaP nums 0=v at *;have P1:=h6 (zf3 X).kv hd (zg1 X).val ((c_MemStore X).up (n':=8)) (zhQ X).val ((c_Machine X (s:=SO.new)).up (n':=8));have P2:=h4 (show (3:Int)≠0 by decide) (zbP X).mv ((c_load0 X (m:=⟨0,0,[],0,eqI (v.fmod 3) 1⟩) (s:=SO.new) rfl).up (n':=8)) (show (!(eqI 0 0&&(eqI 0 0&&(true&&true))))=false from rfl)
 have P3:=h4 (zbJ X).mv (zbN X).val ((c_Conf X (xs:=[.int 1]) (ys:=[]) (zs:=[]) (us:=[]) (ids1 1 (by decide)) rfl rfl rfl rfl).up (n':=8)) ((c_begin X (m:=M1 (eqI (v.fmod 3) 1)) (s:=SO.new) (i:=1) (t:=1) (ids1 1 (by decide)) (by decide) (by decide) ⟨by decide,by decide⟩ rfl).up (n':=8))
 have P4:=h4 (zbJ X).mv (zbN X).val ((c_Conf X (xs:=[.int 2]) (ys:=[]) (zs:=[]) (us:=[]) (ids1 2 (by decide)) rfl rfl rfl rfl).up (n':=8)) ((c_begin_bad X (m:=M2 (eqI (v.fmod 3) 1)) (s:=S1) (i:=2) (t:=2) (l:=[2]) s1_row).up (n':=8))
 have P5:=h4 (show true=true from rfl) (show ∃l,(MObj.lst [.tup [.int 1,.int 1]]).plain=some l/\(MObj.tl .pair [(1,1)]).plain=some l from ⟨_,rfl,rfl⟩) (show ∃l,(MObj.lst []).plain=some l/\(MObj.tl .row []).plain=some l from ⟨[],rfl,rfl⟩) (show ∃l,(MObj.lst [.int 0,.int 0]).plain=some l/\(MObj.tl .int ([0,0]:List Int)).plain=some l from ⟨_,rfl,rfl⟩)
 have P6:=h3 (show LP cx (za2 90) 8 1 0 lawS (.d (.rng 0 6 1)) (upTo 0 6) (E0 0 ns v 1) (O0 [] 0 ns (sl ns none (some 7)) nums (M2 (eqI (v.fmod 3) 1)) S1 [1] [2] [(1,1)] [] [0,0]) .next (LE safe') (LO ns nums m' s' log' done' hs') from lp 0 (by decide) (λi e=>by injection e) rfl (by unfold zeW;decide) L) (ze3 X).kv (hag.up (n':=8))
 refine ⟨[.comp (.tl .int nums),.b false,.call (.ok (I v)) [.tl .int (nums:List Int)],.call (.ok (.r 0)) (za1 0 SO.new),.call (.ok (.r 3)) (za1 0 SO.new++[machAt 0 ⟨0,0,[],0,false⟩]),
  .call (.ok (.d (.tup [.int 0,.int 0,.none]))) (zaG (M1 (eqI (v.fmod 3) 1)) SO.new),.b false,.call (.ok (.r 4)) ([.tl .int ([1]:List Int),.tl .int [],.tl .int [],.tl .int []]++zb0 4 [1]),.call (.ok Nn) (zaG (M2 (eqI (v.fmod 3) 1)) S1++zb0 4 [1]),
  .call (.ok (.r 4)) ([.tl .int ([2]:List Int),.tl .int [],.tl .int [],.tl .int []]++zb0 4 [2]),.call (.exc "AppliedGap") (zaG (M2 (eqI (v.fmod 3) 1)) S1++zb0 4 [2]),.b true,
  .reo 24 (.tl .pair [((1:Int),(1:Int))]),.reo 25 (.tl .row []),.reo 26 (.tl .int ([0,0]:List Int)),.loop .next (LE safe') (LO ns nums m' s' log' done' hs'),.call (.ok (Bo true)) (AO m' s' done' log')],_,
  (happ P0 (happ P1 (happ P2 (happ P3 (happ P4 (happ P5 P6)))))),(by kernel_rfl)⟩
theorem c_law1{ns n7 hs':List Int}{safe':Int}{m':MM}{s':SO}{log':List (Int×Int)}{done':List Row}(h7':sl ns none (some 7)=n7)(hm:HasMod cx ns n7 ([]:List Int))(hl:[8].length<=7)
  (L:LR cx (za2 90) 8 1 0 lawS (.d (.rng 0 6 1)) (upTo 0 6) (upTo 0 6) (E0 1 ns (zaP [8] 0) 1) (O0 [.tl .int []] 1 ns n7 [8] (M2 (eqI ((zaP [8] 0).fmod 3) 1)) S1 [1] [2] [(1,1)] [] [0,0]) .next (LE safe') (LO ns [8] m' s' log' done' hs'))
  (hag:CallOK cx 6 (.fn "_law_agree") [.r 0,.r 4,.r 5] (AO m' s' done' log') (.ok (Bo true)) (AO m' s' done' log')) :
  LawRuns cx ns:=by
 subst h7';have sw:zd6 (za2 90) "nums" cscX:=⟨by kernel_rfl,by kernel_rfl⟩
 have hnn:([8]:List Int)≠[]:=by decide
 have P0:=h3 (show HasMod cx ns (sl ns none (some 7)) ([]:List Int)/\zd6 (za2 90) "nums" cscX from ⟨hm,sw⟩) (show eqI (lenI ([]:List Int)) 0=true from rfl) (show ∃l,(MObj.lst [.int 8]).plain=some l/\(MObj.tl .int ([8]:List Int)).plain=some l from ⟨_,rfl,rfl⟩)
 have hd:=(c_draw X (nums:=[8]) (i:=0) hnn hl (by decide)).up (n':=8)
 generalize hv:zaP [8] 0=v at *;have P1:=h6 (zf3 X).kv hd (zg1 X).val ((c_MemStore X).up (n':=8)) (zhQ X).val ((c_Machine X (s:=SO.new)).up (n':=8));have P2:=h4 (show (3:Int)≠0 by decide) (zbP X).mv ((c_load0 X (m:=⟨0,0,[],0,eqI (v.fmod 3) 1⟩) (s:=SO.new) rfl).up (n':=8)) (show (!(eqI 0 0&&(eqI 0 0&&(true&&true))))=false from rfl)
 have P3:=h4 (zbJ X).mv (zbN X).val ((c_Conf X (xs:=[.int 1]) (ys:=[]) (zs:=[]) (us:=[]) (ids1 1 (by decide)) rfl rfl rfl rfl).up (n':=8)) ((c_begin X (m:=M1 (eqI (v.fmod 3) 1)) (s:=SO.new) (i:=1) (t:=1) (ids1 1 (by decide)) (by decide) (by decide) ⟨by decide,by decide⟩ rfl).up (n':=8))
 have P4:=h4 (zbJ X).mv (zbN X).val ((c_Conf X (xs:=[.int 2]) (ys:=[]) (zs:=[]) (us:=[]) (ids1 2 (by decide)) rfl rfl rfl rfl).up (n':=8)) ((c_begin_bad X (m:=M2 (eqI (v.fmod 3) 1)) (s:=S1) (i:=2) (t:=2) (l:=[2]) s1_row).up (n':=8))
 have P5:=h4 (show true=true from rfl) (show ∃l,(MObj.lst [.tup [.int 1,.int 1]]).plain=some l/\(MObj.tl .pair [(1,1)]).plain=some l from ⟨_,rfl,rfl⟩) (show ∃l,(MObj.lst []).plain=some l/\(MObj.tl .row []).plain=some l from ⟨[],rfl,rfl⟩) (show ∃l,(MObj.lst [.int 0,.int 0]).plain=some l/\(MObj.tl .int ([0,0]:List Int)).plain=some l from ⟨_,rfl,rfl⟩)
 have P6:=h3 (show LP cx (za2 90) 8 1 0 lawS (.d (.rng 0 6 1)) (upTo 0 6) (E0 1 ns v 1) (O0 [.tl .int []] 1 ns (sl ns none (some 7)) [8] (M2 (eqI (v.fmod 3) 1)) S1 [1] [2] [(1,1)] [] [0,0]) .next (LE safe') (LO ns [8] m' s' log' done' hs') from lp 0 (by decide) (λi e=>by injection e) rfl (by unfold zeW;decide) L) (ze3 X).kv (hag.up (n':=8))
 refine ⟨[.comp (.tl .int ([]:List Int)),.b true,.reo 2 (.tl .int ([8]:List Int)),.call (.ok (I v)) [.tl .int ([8]:List Int)],.call (.ok (.r 0)) (za1 0 SO.new),.call (.ok (.r 3)) (za1 0 SO.new++[machAt 0 ⟨0,0,[],0,false⟩]),
  .call (.ok (.d (.tup [.int 0,.int 0,.none]))) (zaG (M1 (eqI (v.fmod 3) 1)) SO.new),.b false,.call (.ok (.r 4)) ([.tl .int ([1]:List Int),.tl .int [],.tl .int [],.tl .int []]++zb0 4 [1]),.call (.ok Nn) (zaG (M2 (eqI (v.fmod 3) 1)) S1++zb0 4 [1]),
  .call (.ok (.r 4)) ([.tl .int ([2]:List Int),.tl .int [],.tl .int [],.tl .int []]++zb0 4 [2]),.call (.exc "AppliedGap") (zaG (M2 (eqI (v.fmod 3) 1)) S1++zb0 4 [2]),.b true,
  .reo 25 (.tl .pair [((1:Int),(1:Int))]),.reo 26 (.tl .row []),.reo 27 (.tl .int ([0,0]:List Int)),.loop .next (LE safe') (LO ns [8] m' s' log' done' hs'),.call (.ok (Bo true)) (AO m' s' done' log')],_,
  (happ P0 (happ P1 (happ P2 (happ P3 (happ P4 (happ P5 P6)))))),(by kernel_rfl)⟩
end
end
section
open PySem
noncomputable abbrev zc9(es:List (Byt×Byt)):List Byt:=es.map (·.1)
theorem zcF{a k v:Byt}:∀es:List (Byt×Byt),dget k (dput a v es)=bif decide (a=k) then some v else dget k es:=by
 intro l;induction l with
 |nil=>exact rfl
 |cons hd r ih=>
  obtain ⟨b,w⟩:=hd;rw[zeF];by_cases h:b=a
  ·subst h
   simp only[decide_true,cond_true];rw[zcZ,zcZ];cases q:decide (b=k) <;> simp
  ·simp only[h,decide_false,cond_false]
   rw[zcZ,zcZ];by_cases h2:b=k
   ·subst h2
    have:¬ a=b:=λe=>h e.symm
    simp[this]
   ·simp only[h2,decide_false,cond_false]
    exact ih
theorem dget_none{k:Byt}:∀{es:List (Byt×Byt)},k∉zc9 es->dget k es=none:=by
 intro l;induction l with
 |nil=>exact @λ_=>rfl
 |cons hd r ih=>
  obtain ⟨b,w⟩:=hd;intro h;rw[zcZ];have h1:¬ b=k:=λe=>h (by simp[zc9,e])
  simp only[h1,decide_false,cond_false];exact ih λq=>h (by simp only[zc9,List.map_cons];exact .tail _ q)
theorem dget_some{k:Byt}:∀{es:List (Byt×Byt)},k∈zc9 es->(dget k es).isSome=true
 |(b,w)::r,h=>by
  rw[zcZ];by_cases q:b=k
  ·simp[q]
  ·simp only[q,decide_false,cond_false]
   cases h with
   |head=>exact absurd rfl q
   |tail _ h=>exact dget_some h
theorem dget_del{a k:Byt}:∀{es:List (Byt×Byt)},(zc9 es).Nodup->dget k (ddel a es)=bif decide (a=k) then none else dget k es:=by
 intro l;induction l with
 |nil=>exact @λ_=>by unfold ddel dget;cases decide (a=k) <;> rfl
 |cons hd r ih=>
  obtain ⟨b,w⟩:=hd;intro h;have h':=List.nodup_cons.mp h;rw[zhE];by_cases q:b=a
  ·subst q
   simp only[decide_true,cond_true];by_cases q2:b=k
   ·subst q2
    simp only[decide_true,cond_true];exact dget_none h'.1
   ·simp only[q2,decide_false,cond_false]
    rw[dget];simp[q2]
  ·simp only[q,decide_false,cond_false]
   rw[dget,ih h'.2];by_cases q2:b=k
   ·subst q2
    have:¬ a=b:=λe=>q e.symm
    rw[dget];simp[this]
   ·simp only[q2,decide_false,cond_false]
    rw[dget.eq_2];simp[q2]
theorem keys_put{a v:Byt}:∀{es:List (Byt×Byt)} {k:Byt},k∈zc9 (dput a v es)->k=a\/k∈zc9 es:=by
 intro l;induction l with
 |nil=>exact @λk h=>by cases h with
  |head=>exact .inl rfl
  |tail _ h=>injection h
 |cons hd r ih=>
  obtain ⟨b,w⟩:=hd;intro k h;rw[zeF] at h;by_cases q:b=a
  ·simp only[q,decide_true,cond_true] at h
   right;rw[←q] at h;exact h
  ·simp only[q,decide_false,cond_false] at h
   cases h with
   |head=>exact .inr (.head _)
   |tail _ h=>exact (ih h).imp id (.tail _)
theorem nodup_put{a v:Byt}:∀{es:List (Byt×Byt)},(zc9 es).Nodup->(zc9 (dput a v es)).Nodup:=by
 intro l;induction l with
 |nil=>exact @λ_=>by simp[dput,zc9]
 |cons hd r ih=>
  obtain ⟨b,w⟩:=hd;intro h;have h':=List.nodup_cons.mp h;rw[zeF];by_cases q:b=a
  ·simp only[q,decide_true,cond_true]
   rw[←q];exact h
  ·simp only[q,decide_false,cond_false]
   exact List.nodup_cons.mpr ⟨λm=>(keys_put m).elim q h'.1,ih h'.2⟩
theorem keys_del{a:Byt}:∀{es:List (Byt×Byt)} {k:Byt},k∈zc9 (ddel a es)->k∈zc9 es
 |(b,w)::r,k,h=>by
  rw[zhE] at h;by_cases q:b=a
  ·simp only[q,decide_true,cond_true] at h
   exact .tail _ h
  ·simp only[q,decide_false,cond_false] at h
   cases h with
   |head=>exact .head _
   |tail _ h=>exact .tail _ (keys_del h)
theorem nodup_del{a:Byt}:∀{es:List (Byt×Byt)},(zc9 es).Nodup->(zc9 (ddel a es)).Nodup:=by
 intro l;induction l with
 |nil=>exact @λh=>h
 |cons hd r ih=>
  obtain ⟨b,w⟩:=hd;intro h;have h':=List.nodup_cons.mp h;rw[zhE];by_cases q:b=a
  ·simp only[q,decide_true,cond_true]
   exact h'.2
  ·simp only[q,decide_false,cond_false]
   exact List.nodup_cons.mpr ⟨λm=>h'.1 (keys_del m),ih h'.2⟩
noncomputable def K5:List Byt:=[[97],[100],[100,107],skey false,skey true]
structure Good(now:List (Byt×Byt)):Prop where
 nd:(zc9 now).Nodup
 few:∀k∈zc9 now,k∈K5
theorem Good.put{now:List (Byt×Byt)}{k v:Byt}(g:Good now)(h:k∈K5):Good (dput k v now):=
 ⟨nodup_put g.nd,λx hx=>(keys_put hx).elim (λe=>e▸h) (g.few x)⟩
theorem Good.del{now:List (Byt×Byt)}{k:Byt}(g:Good now):Good (ddel k now):=⟨nodup_del g.nd,λx hx=>g.few x (keys_del hx)⟩
noncomputable def zi2(now:List (Byt×Byt)):List Byt:=K5.filter λk=>(dget k now).isSome
theorem mem_keys{now:List (Byt×Byt)}{k:Byt}:k∈zc9 now↔(dget k now).isSome=true:=
 ⟨dget_some,λh=>Classical.byContradiction λq=>by rw[dget_none q] at h;cases h⟩
theorem zh6{now:List (Byt×Byt)}(g:Good now):(zi2 now).Perm (zc9 now):=by
 refine (List.perm_ext_iff_of_nodup ?_ g.nd).mpr λk=>?_
 ·exact List.Pairwise.filter _ (show K5.Nodup by decide)
 ·rw[mem_keys,zi2,List.mem_filter]
  exact ⟨λh=>h.2,λh=>⟨g.few k (mem_keys.mpr h),h⟩⟩
theorem k5_sorted:K5.Pairwise λa b=>ltB b a=false:=by decide
theorem pres_sorted(now:List (Byt×Byt)):(zi2 now).Pairwise λa b=>ltB b a=false:=k5_sorted.sublist List.filter_sublist
theorem good_len{now:List (Byt×Byt)}(g:Good now):now.length<=5:=by
 have h:=(zh6 g).length_eq;have h2:(zi2 now).length<=5:=List.length_filter_le _ _;simp only[zc9,List.length_map] at h;lia
theorem scan_pres{now:List (Byt×Byt)}{lo hi:Byt}{l:List Byt}(h:K5.filter (inR lo hi)=l):zeB now lo hi (zi2 now)=(l.filter λk=>(dget k now).isSome).map λk=>(k,(dget k now).getD []):=by
 unfold zeB zi2;rw[List.filter_filter];rw[←h,List.filter_filter]
 congr 2
 funext k
 exact Bool.and_comm _ _
end
section
open PySem
noncomputable def resV:Option Byt×Byt×Bool->Option Byt
 |(some b,_,_)=>some b
 |(none,t,g)=>bif g then some t else none
theorem value_res(done:List Row)(key:Byt):zaN done key=resV (zd5 key done.reverse [] false):=by
 unfold zaN resV;rcases zd5 key done.reverse [] false with ⟨_|b,t,g⟩ <;> rfl
theorem go_tail(key:Byt):∀(rs:List Row) (t:Byt) (g:Bool),resV (zd5 key rs t g)=match resV (zd5 key rs [] false) with
  |some v=>some (v++t)
  |none=>bif g then some t else none:=by
 intro l;induction l with
 |nil=>exact @λt g=>rfl
 |cons r rs ih=>
  intro t g;rw[zd5,zd5];induction (!eqB r.key key) with
  |true=>exact ih t g
  |false=>
   induction (!eqI r.code 0) with
   |true=>exact ih t g
   |false=>
    induction eqI r.kind 4 with
    |true=>
     dsimp only[cond];rw[ih (r.word++t) true,ih (r.word++[]) true];induction resV (zd5 key rs [] false) with
     |none=>simp
     |some v=>simp
    |false=>
     induction eqI r.kind 1 with
     |true=>simp[resV]
     |false=>
      induction eqI r.kind 3 with
      |true=>simp[resV]
      |false=>
       induction eqI r.kind 2 with
       |true=>rfl
       |false=>exact ih t g
theorem value_snoc(done:List Row)(r:Row)(key:Byt):zaN (done++[r]) key =
  bif !eqB r.key key then zaN done key else bif !eqI r.code 0 then zaN done key
  else bif eqI r.kind 4 then some ((zaN done key).getD []++r.word)
  else bif eqI r.kind 1 then some r.word else bif eqI r.kind 3 then some r.word
  else bif eqI r.kind 2 then none else zaN done key:=by
 rw[value_res,value_res,List.reverse_append,List.reverse_singleton,List.singleton_append,zd5];induction (!eqB r.key key) with
 |true=>rfl
 |false=>
  induction (!eqI r.code 0) with
  |true=>rfl
  |false=>
   induction eqI r.kind 4 with
   |true=>
    dsimp only[cond];rw[go_tail];induction resV (zd5 key done.reverse [] false) with
    |none=>simp
    |some v=>simp
   |false=>
    induction eqI r.kind 1 with
    |true=>simp[resV]
    |false=>
     induction eqI r.kind 3 with
     |true=>simp[resV]
     |false=>
      induction eqI r.kind 2 with
      |true=>rfl
      |false=>rfl
theorem go_len(key:Byt):∀(rs:List Row) (t:Byt) (g:Bool) (b:Byt),(∀r∈rs,r.word.length<=2)->resV (zd5 key rs t g)=some b->b.length<=t.length+2*rs.length:=by
 intro l;induction l with
 |nil=>
  intro t g b _ h;induction g with
  |true=>injection h;simp
  |false=>injection h
 |cons r rs ih=>
  intro t g b hw h;have h0:=hw r (.head _);have hr:∀x∈rs,x.word.length<=2:=λx hx=>hw x (.tail _ hx)
  have go:=λt g h=>ih t g b hr h
  rw[zd5] at h;simp only[List.length_cons];induction q1:(!eqB r.key key) with
  |true=>rw[q1] at h;have:=go t g h;lia
  |false=>
   rw[q1] at h;induction q2:(!eqI r.code 0) with
   |true=>rw[q2] at h;have:=go t g h;lia
   |false=>
    rw[q2] at h;induction q3:eqI r.kind 4 with
    |true=>rw[q3] at h;have:=go _ true h;simp only[List.length_append] at this;lia
    |false=>
     rw[q3] at h;induction q4:eqI r.kind 1 with
     |true=>rw[q4] at h;injection h;simp only[List.length_append];lia
     |false=>
      rw[q4] at h;induction q5:eqI r.kind 3 with
      |true=>rw[q5] at h;injection h;simp only[List.length_append];lia
      |false=>
       rw[q5] at h;induction q6:eqI r.kind 2 with
       |true=>
        rw[q6] at h;induction g with
        |true=>injection h;lia
        |false=>injection h
       |false=>rw[q6] at h;have:=go t g h;lia
theorem value_len{done:List Row}{key b:Byt}(hw:∀r∈done,r.word.length<=2)(h:zaN done key=some b):b.length<=2*done.length:=by
 rw[value_res] at h;have:=go_len key done.reverse [] false b (λr hr=>hw r (List.mem_reverse.mp hr)) h
 simpa using this
theorem mine_snoc(done:List Row)(r:Row)(c:Int):za6 (done++[r]) c=za6 done c++bif r.client==c then [r] else []:=by
 unfold za6;rw[List.filter_append]
 congr 1
end
section
open PySem
noncomputable def Rise(l:List Row):Prop:=l.Pairwise λa b=>a.number<b.number
noncomputable def effT(now:List (Byt×Byt))(k:Int)(ke wo:Byt)(ex:Option Byt):Int×Option Byt×Bool:=((effR now k ke wo ex).1,(effR now k ke wo ex).2.1,true)
theorem eqi{a b:Int}(h:a=b):eqI a b=true:=decide_eq_true h
theorem eff_told{now:List (Byt×Byt)}{k:Int}{ke wo:Byt}{ex v:Option Byt}(hk:0<=k/\k<=6)(hv:dget (100::ke) now=v):
  (bif eqI k 0||ltI 4 k then ((0:Int),(none:Option Byt),true) else bif eqI k 3&&!eqO v ex then (1,v,true) else (0,v,true))=effT now k ke wo ex:=by
 unfold effT effR;rw[hv];have:k=0\/k=1\/k=2\/k=3\/k=4\/k=5\/k=6:=by lia
 rcases this with rfl|rfl|rfl|rfl|rfl|rfl|rfl
 ·rfl
 ·rfl
 ·rfl
 ·show (bif true&&!eqO v ex then ((1:Int),v,true) else (0,v,true))=((bif eqO v ex then ((0:Int),v,([(1,100::ke,wo)]:List Op3)) else (1,v,[])).1,(bif eqO v ex then ((0:Int),v,([(1,100::ke,wo)]:List Op3)) else (1,v,[])).2.1,true)
  cases eqO v ex <;> rfl
 ·rfl
 ·rfl
 ·rfl
theorem above_nil{mine:List Row}{n:Int}(h:∀r∈mine,r.number<=n):ze9 mine n=[]:=by
 unfold ze9;refine List.filter_eq_nil_iff.mpr λr hr=>?_
 have:=h r hr;show ¬ decide (n<r.number)=true
 simp;lia
theorem above_pos{mine:List Row}{n:Int}{r:Row}(hr:r∈mine)(h:n<r.number):ltI 0 (lenI (ze9 mine n))=true:=by
 have:r∈ze9 mine n:=List.mem_filter.mpr ⟨hr,show decide (n<r.number)=true from decide_eq_true h⟩
 have:=List.length_pos_of_mem this;exact lti (by unfold lenI;lia)
theorem find_none{n:Int}:∀{l:List Row},(∀r∈l,r.number≠n)->findN n l=none:=by
 intro l;induction l with
 |nil=>exact @λ_=>rfl
 |cons r rs ih=>
  intro h;rw[zi6];rw[eqIf (h r (.head _))];exact ih λx hx=>h x (.tail _ hx)
theorem find_last{n:Int}{r:Row}(hr:r.number=n):∀{l:List Row},(∀x∈l,x.number≠n)->findN n (l++[r])=some r:=by
 intro l;induction l with
 |nil=>
  intro _;show (bif eqI r.number n then some r else findN n [])=some r
  rw[eqi hr];rfl
 |cons x xs ih=>
  intro h;show (bif eqI x.number n then some x else findN n (xs++[r]))=some r
  rw[eqIf (h x (.head _))];exact ih λy hy=>h y (.tail _ hy)
theorem told_none{done:List Row}{c n k:Int}{ke wo:Byt}{ex:Option Byt}{now:List (Byt×Byt)}(hm:za6 done c=[])(hk:0<=k/\k<=6)(hv:dget (100::ke) now=zaN done ke):
  zcP done c n k ke ex=bif eqI k 5 then effT now k ke wo ex else (2,none,false):=by
 unfold zcP;rw[hm,←eff_told (wo:=wo) hk hv];by_cases h:k=5
 ·subst h;rfl
 ·rw[eqIf h];rfl
theorem told_some{done p:List Row}{r:Row}{c n k:Int}{ke wo:Byt}{ex:Option Byt}{now:List (Byt×Byt)}(hm:za6 done c=p++[r])(hp:∀x∈p,x.number<r.number)(hk:0<=k/\k<=6)(hv:dget (100::ke) now=zaN done ke):
  zcP done c n k ke ex=bif ltI n r.number then (3,none,false) else bif eqI n r.number then (r.code,r.old,false)
   else bif !eqI k 5&&eqI r.kind 6 then (2,none,false) else effT now k ke wo ex:=by
 unfold zcP;rw[hm,zfX,←eff_told (wo:=wo) hk hv];by_cases h1:n<r.number
 ·rw[above_pos (r:=r) (by simp) h1,lti h1];rfl
 ·have e0:ze9 (p++[r]) n=[]:=above_nil λx hx=>by
   rcases List.mem_append.mp hx with hx|hx
   ·have:=hp x hx;lia
   ·cases List.mem_singleton.mp hx;lia
  rw[e0,show ltI 0 (lenI ([]:List Row))=false from rfl,nlti (by lia:r.number<=n)]
  dsimp only[cond];by_cases h2:n=r.number
  ·rw[find_last h2.symm (λx hx=>by have:=hp x hx;lia),eqi h2]
  ·rw[find_none (λx hx=>by
    rcases List.mem_append.mp hx with hx|hx
    ·have:=hp x hx;lia
    ·cases List.mem_singleton.mp hx;lia),eqIf h2]
   dsimp only[cond];have e1:eqI (lenI (p++[r])) 0=false:=eqIf (by unfold lenI;simp;lia)
   rw[e1,Bool.false_or]
end
section
open PySem PySem.W
noncomputable def memL(mem:Int):List Int:=rangeKs 1 mem.toNat
noncomputable def sesOf(done:List Row)(c:Int):Option Byt:=bif ltI 0 (lenI (za6 done c)) then some (sesB (zcT (za6 done c)).number (!eqI (zcT (za6 done c)).kind 6) (repB (zcT (za6 done c)).code (zcT (za6 done c)).old)) else none
structure St(now:List (Byt×Byt))(i t mem:Int)(done:List Row):Prop where
 good:Good now
 row:dget [97] now=some (rowA i t (zaE (memL mem)))
 val:∀ke,ke=[]\/ke=[107]->dget (100::ke) now=zaN done ke
 ses:∀w,dget (skey w) now=sesOf done (cliN w)
theorem St.same{now:List (Byt×Byt)}{i t mem i' t' mem':Int}{done:List Row}(h:St now i t mem done):St (ze7 now [rw1 i' t' (zaE (memL mem'))]) i' t' mem' done:=by
 show St (dput [97] (rowA i' t' (zaE (memL mem'))) now) i' t' mem' done
 refine ⟨h.good.put (by decide),?_,λke hke=>?_,λw=>?_⟩
 ·rw[zcF];rfl
 ·rw[zcF,show decide (([97]:Byt)=100::ke)=false from decide_eq_false (λe=>by injection e with a b;exact absurd a (by decide))]
  exact h.val ke hke
 ·rw[zcF,show decide (([97]:Byt)=skey w)=false from decide_eq_false (by cases w <;> decide)]
  exact h.ses w
theorem cli_ne{w w':Bool}(h:w≠w'):cliN w≠cliN w':=by cases w <;> cases w' <;> first|exact absurd rfl h|decide
theorem skey_ne{w w':Bool}(h:w≠w'):skey w≠skey w':=by cases w <;> cases w' <;> first|exact absurd rfl h|decide
theorem opsOn_app(now:List (Byt×Byt))(a b:List Op3):ze7 now (a++b)=ze7 (ze7 now a) b:=List.foldl_append
noncomputable abbrev nowE(now:List (Byt×Byt))(k:Int)(ke wo:Byt)(ex:Option Byt):List (Byt×Byt):=ze7 now (effR now k ke wo ex).2.2
theorem key_in{ke:Byt}(h:ke=[]\/ke=[107]):(100::ke:Byt)∈K5:=by rcases h with rfl|rfl <;> decide
theorem eff_good{now:List (Byt×Byt)}{k:Int}{ke wo:Byt}{ex:Option Byt}(g:Good now)(hke:ke=[]\/ke=[107]):Good (nowE now k ke wo ex):=by
 unfold nowE effR;induction eqI k 0||(eqI k 5||eqI k 6) with
 |true=>exact g
 |false=>
  induction eqI k 1 with
  |true=>exact g.put (key_in hke)
  |false=>
   induction eqI k 2 with
   |true=>
    dsimp only[cond];induction q:(dget (100::ke) now).isSome with
    |true=>
     show Good (op1 now (0,100::ke,[]))
     show Good (bif (dget (100::ke) now).isSome then ddel (100::ke) now else now)
     rw[q];exact g.del
    |false=>exact g
   |false=>
    induction eqI k 3 with
    |true=>
     dsimp only[cond];induction eqO (dget (100::ke) now) ex with
     |true=>exact g.put (key_in hke)
     |false=>exact g
    |false=>exact g.put (key_in hke)
theorem eqb_self(b:Byt):eqB b b=true:=decide_eq_true rfl
theorem eff_val{now:List (Byt×Byt)}{k i' c n:Int}{ke wo:Byt}{ex:Option Byt}{done:List Row}(g:Good now)(hk:0<=k/\k<=6)(hv:dget (100::ke) now=zaN done ke)(x:Byt):
  dget x (nowE now k ke wo ex)=bif decide (100::ke=x) then zaN (done++[⟨i',c,n,k,ke,wo,(effR now k ke wo ex).1,(effR now k ke wo ex).2.1⟩]) ke else dget x now:=by
 rw[value_snoc];dsimp only;rw[eqb_self]
 have no:∀{v:Option Byt},dget (100::ke) now=v->dget x now=bif decide (100::ke=x) then v else dget x now:=by
  intro v hv;by_cases h:(100::ke)=x
  ·subst h;simp[hv]
  ·simp[h]
 unfold nowE effR;have:k=0\/k=1\/k=2\/k=3\/k=4\/k=5\/k=6:=by lia
 rcases this with rfl|rfl|rfl|rfl|rfl|rfl|rfl
 ·exact no hv
 ·exact zcF now
 ·show dget x (ze7 now (bif (dget (100::ke) now).isSome then [(0,100::ke,[])] else []))=bif decide (100::ke=x) then none else dget x now
  induction q:(dget (100::ke) now).isSome with
  |true=>
   show dget x (bif (dget (100::ke) now).isSome then ddel (100::ke) now else now)=_
   rw[q];exact dget_del g.nd
  |false=>
   exact no (by induction h:dget (100::ke) now with
    |none=>rfl
    |some v=>rw[h] at q;injection q)
 ·show dget x (ze7 now (bif eqO (dget (100::ke) now) ex then ((0:Int),dget (100::ke) now,([(1,100::ke,wo)]:List Op3)) else (1,dget (100::ke) now,[])).2.2)=bif decide (100::ke=x) then (bif !eqI (bif eqO (dget (100::ke) now) ex then ((0:Int),dget (100::ke) now,([(1,100::ke,wo)]:List Op3)) else (1,dget (100::ke) now,[])).1 0 then zaN done ke else some wo) else dget x now
  induction eqO (dget (100::ke) now) ex with
  |true=>exact zcF now
  |false=>exact no hv
 ·show dget x (dput (100::ke) (match dget (100::ke) now with|none=>wo|some o=>o++wo) now)=bif decide (100::ke=x) then some ((zaN done ke).getD []++wo) else dget x now
  rw[zcF,←hv];cases dget (100::ke) now <;> rfl
 ·exact no hv
 ·exact no hv
theorem St.new{now:List (Byt×Byt)}{i t mem i' t' mem' k n:Int}{done:List Row}{ke wo:Byt}{ex:Option Byt}{w:Bool}(h:St now i t mem done)(hk:0<=k/\k<=6)(hke:ke=[]\/ke=[107]):
  St (ze7 now ((effR now k ke wo ex).2.2++[(1,skey w,sesB n (!eqI k 6) (repB (effR now k ke wo ex).1 (effR now k ke wo ex).2.1))]++[rw1 i' t' (zaE (memL mem'))])) i' t' mem' (done++[⟨i',cliN w,n,k,ke,wo,(effR now k ke wo ex).1,(effR now k ke wo ex).2.1⟩]):=by
 have hv:=h.val ke hke;rw[opsOn_app,opsOn_app];have ev:=λx=>eff_val (wo:=wo) (ex:=ex) (i':=i') (c:=cliN w) (n:=n) h.good hk hv x
 have eg:=eff_good (k:=k) (wo:=wo) (ex:=ex) h.good hke;generalize hr:(⟨i',cliN w,n,k,ke,wo,(effR now k ke wo ex).1,(effR now k ke wo ex).2.1⟩:Row)=r at *;generalize hb:repB (effR now k ke wo ex).1 (effR now k ke wo ex).2.1=rp at *;show St (dput [97] (rowA i' t' (zaE (memL mem'))) (dput (skey w) (sesB n (!eqI k 6) rp) (nowE now k ke wo ex))) i' t' mem' (done++[r])
 have n1:∀ke':Byt,decide (([97]:Byt)=100::ke')=false:=λke'=>decide_eq_false (λe=>by injection e with a b;exact absurd a (by decide))
 have n2:∀w',decide (([97]:Byt)=skey w')=false:=λw'=>decide_eq_false (by cases w' <;> decide)
 have n3:∀ke':Byt,decide (skey w=100::ke')=false:=λke'=>decide_eq_false (λe=>by cases w <;> (injection e with a b;exact absurd a (by decide)))
 have n4:∀w',decide ((100::ke:Byt)=skey w')=false:=λw'=>decide_eq_false (λe=>by cases w' <;> (injection e with a b;exact absurd a (by decide)))
 refine ⟨(eg.put (by cases w <;> decide)).put (by decide),?_,λke' hke'=>?_,λw'=>?_⟩
 ·rw[zcF];rfl
 ·rw[zcF,n1,cond_false,zcF,n3,cond_false,ev]
  by_cases q:ke=ke'
  ·subst q;simp
  ·rw[show decide ((100::ke:Byt)=100::ke')=false from decide_eq_false (λe=>q (List.cons.inj e).2),cond_false,h.val ke' hke',value_snoc]
   have:eqB r.key ke'=false:=by rw[←hr];exact decide_eq_false q
   rw[this];rfl
 ·rw[zcF,n2,cond_false,zcF]
  by_cases q:w=w'
  ·subst q
   rw[show decide (skey w=skey w)=true from decide_eq_true rfl,cond_true]
   unfold sesOf;rw[mine_snoc,show (r.client==cliN w)=true by rw[←hr];simp,cond_true,zfX,show ltI 0 (lenI (za6 done (cliN w)++[r]))=true from lti (by unfold lenI;simp),cond_true]
   rw[←hb,←hr]
  ·rw[show decide (skey w=skey w')=false from decide_eq_false (skey_ne q),cond_false,ev,n4,cond_false,h.ses w']
   unfold sesOf;rw[mine_snoc,show (r.client==cliN w')=false by rw[←hr];exact beq_eq_false_iff_ne.mpr (cli_ne q),cond_false,List.append_nil]
end
section
open PySem PySem.W
structure DOK(done:List Row)(L:Nat):Prop where
 idx:∀r∈done,r.index<=(L:Int)
 word:∀r∈done,r.word.length<=2
 code:∀r∈done,0<=r.code/\r.code<=1
 old:∀r∈done,∀b,r.old=some b->b.length<100
 num:∀r∈done,0<=r.number/\r.number<128
 rise:∀w,Rise (za6 done (cliN w))
 few:done.length<=L
theorem DOK.up{done:List Row}{L:Nat}(h:DOK done L):DOK done (L+1):=⟨λr hr=>by have:=h.idx r hr;lia,h.word,h.code,h.old,h.num,h.rise,by have:=h.few;lia⟩
structure PB(p:Int×Int)(L:Nat):Prop where
 t:1<=p.1/\p.1<=(L:Int)
 m:1<=p.2/\p.2<=3
inductive Hist:List (List Op3)->List (Int×Int)->List Row->Prop
 |one:Hist [[rw1 1 1 (zaE [1])]] [(1,1)] []
 |snoc {b:List (List Op3)} {l:List (Int×Int)} {d d':List Row} {ops:List Op3} {p:Int×Int}:Hist b l d->ops.length<=3->(d'=d\/∃r,d'=d++[r]/\r.index=(l.length:Int)+1)->DOK d' (l.length+1)->PB p (l.length+1) ->
   St (ze7 (SO.replay b).now ops) (l.length+1) p.1 p.2 d'->Hist (b++[ops]) (l++[p]) d'
theorem zgN(b:List (List Op3))(ops:List Op3):SO.replay (b++[ops])=(SO.replay b).take ops:=by
 unfold SO.replay;rw[List.foldl_append];rfl
theorem replay_bats':∀(b:List (List Op3)) (s:SO),(b.foldl SO.take s).bats=s.bats++b
 |[],s=>(List.append_nil _).symm
 |o::r,s=>by
  rw[List.foldl_cons,replay_bats' r];show s.bats++[o]++r=_
  rw[List.append_assoc];rfl
theorem replay_bats(b:List (List Op3)):(SO.replay b).bats=b:=replay_bats' b .new
theorem zeD(l:List (Int×Int))(p:Int×Int):zaD (l++[p])=p:=get_snoc l p _
theorem Hist.len{b:List (List Op3)}{l:List (Int×Int)}{d:List Row}(h:Hist b l d):b.length=l.length/\1<=l.length:=by
 induction h with
 |one=>exact ⟨rfl,by decide⟩
 |snoc _ _ _ _ _ _ ih=>simp;exact ih.1
theorem Hist.st{b:List (List Op3)}{l:List (Int×Int)}{d:List Row}(h:Hist b l d):St (SO.replay b).now l.length (zaD l).1 (zaD l).2 d/\DOK d l.length/\PB (zaD l) l.length:=by
 induction h with
 |one=>
  refine ⟨⟨⟨by decide,by decide⟩,by kernel_rfl,λke hke=>?_,λw=>?_⟩,⟨λ_ h=>nm h,λ_ h=>nm h,λ_ h=>nm h,λ_ h=>nm h,λ_ h=>nm h,λw=>?_,by decide⟩,⟨by decide,by decide⟩⟩
  ·rcases hke with rfl|rfl <;> kernel_rfl
  ·cases w <;> kernel_rfl
  ·exact List.Pairwise.nil
 |snoc h1 h2 h3 h4 h5 h6=>
  rw[zeD,zgN,List.length_append];exact ⟨h6,h4,h5⟩
theorem Hist.sum{b:List (List Op3)}{l:List (Int×Int)}{d:List Row}(h:Hist b l d):∀j,((b.take j).map List.length).sum<=3*b.length:=by
 intro j
 have all:∀o∈b,o.length<=3:=by
  induction h with
  |one=>intro o ho;cases List.mem_singleton.mp ho;decide
  |snoc _ h2 _ _ _ _ ih=>
   intro o ho;rcases List.mem_append.mp ho with ho|ho
   ·exact ih o ho
   ·cases List.mem_singleton.mp ho;exact h2
 have go:∀(l:List (List Op3)),(∀o∈l,o.length<=3)->(l.map List.length).sum<=3*l.length:=by
  intro l;induction l with
  |nil=>intro _;exact Nat.le_refl 0
  |cons x r ih=>
   intro h;have:=h x (.head _);have:=ih λo ho=>h o (.tail _ ho)
   simp only[List.map_cons,List.sum_cons,List.length_cons];lia
 have:=go (b.take j) λo ho=>all o (List.mem_of_mem_take ho)
 have:=List.length_take_le' j b;lia
noncomputable abbrev upToR(d:List Row)(j:Int):List Row:=d.filter λr=>cmpI .LtE (rowJ 0 r) j
theorem upToR_all{d:List Row}{L:Nat}{j:Int}(h:DOK d L)(hj:(L:Int)<=j):upToR d j=d:=by
 refine List.filter_eq_self.mpr λr hr=>?_
 have:=h.idx r hr;show decide (r.index<=j)=true
 exact decide_eq_true (by lia)
theorem Hist.cut{b:List (List Op3)}{l:List (Int×Int)}{d:List Row}(h:Hist b l d):∀j:Nat,1<=j->j<=b.length->Hist (b.take j) (l.take j) (upToR d j):=by
 induction h with
 |one=>
  intro j h1 h2;have:j=1:=by simp at h2;lia
  subst this;exact .one
 |@snoc b l d d' ops p h1 h2 h3 h4 h5 h6 ih=>
  intro j hj1 hj2;obtain ⟨e1,e2⟩:=h1.len;simp only[List.length_append,List.length_singleton] at hj2;by_cases q:j<=b.length
  ·rw[List.take_append_of_le_length q,List.take_append_of_le_length (by lia)]
   have:upToR d' j=upToR d j:=by
    rcases h3 with rfl|⟨r,rfl,hr⟩
    ·rfl
    ·show List.filter _ (d++[r])=_
     rw[List.filter_append]
     have:List.filter (λr=>cmpI .LtE (rowJ 0 r) (j:Int)) [r]=[]:=by
      rw[List.filter_cons_of_neg]
      ·rfl
      ·show ¬ decide (r.index<=(j:Int))=true
       simp;lia
     rw[this,List.append_nil]
   rw[this];exact ih j hj1 q
  ·have e:j=b.length+1:=by lia
   rw[List.take_of_length_le (by simp;lia),List.take_of_length_le (by simp;lia),upToR_all h4 (by lia)]
   exact .snoc h1 h2 h3 h4 h5 h6
theorem rows_scan{now:List (Byt×Byt)}{i t mem:Int}{d:List Row}(h:St now i t mem d):(zeB now [100] [101] (zi2 now)).map (λx=>(x.1.drop 1,x.2))=zfE d:=by
 rw[scan_pres (l:=[[100],[100,107]]) (by decide)]
 have v0:=h.val [] (.inl rfl);have v1:=h.val [107] (.inr rfl);unfold zfE;rw[←v0,←v1];cases q0:dget [100] now <;> cases q1:dget [100,107] now <;> simp[List.filter,q0,q1,kvOf]
noncomputable def sesR(d:List Row)(w:Bool):List Ses:=bif ltI 0 (lenI (za6 d (cliN w))) then [(w,(zcT (za6 d (cliN w))).number,!eqI (zcT (za6 d (cliN w))).kind 6,repB (zcT (za6 d (cliN w))).code (zcT (za6 d (cliN w))).old)] else []
theorem ses_scan{now:List (Byt×Byt)}{i t mem:Int}{d:List Row}(h:St now i t mem d):zeB now [115] [116] (zi2 now)=(sesR d false++sesR d true).map sesKV:=by
 rw[scan_pres (l:=[skey false,skey true]) (by decide)]
 have v0:=h.ses false;have v1:=h.ses true;unfold sesOf at v0 v1;unfold sesR;cases q0:ltI 0 (lenI (za6 d (cliN false))) <;> cases q1:ltI 0 (lenI (za6 d (cliN true))) <;> rw[q0] at v0 <;> rw[q1] at v1 <;> simp only[cond_true,cond_false] at v0 v1 <;> simp[List.filter,v0,v1,sesKV]
theorem seats_of(d:List Row):(sesR d false++sesR d true).map seatOf=zf6 d:=by
 unfold sesR zf6 seatL;show _=(bif ltI 0 (lenI (za6 d (cliN false))) then _ else _)++(bif ltI 0 (lenI (za6 d (cliN true))) then _ else _)
 cases ltI 0 (lenI (za6 d (cliN false))) <;> cases ltI 0 (lenI (za6 d (cliN true))) <;> rfl
end
section
open PySem PySem.W
structure Inv(i:Nat)(m:MM)(s:SO)(log:List (Int×Int))(done:List Row)(hs:List Int)(safe:Int):Prop where
 h:Hist s.bats log done
 now:s.now=(SO.replay s.bats).now
 ap:m.applied=lenI log
 tm:m.term=(zaD log).1
 cf:m.conf=zaE (memL (zaD log).2)
 kept:s.kept=safe
 dur:m.durable=safe
 sf:1<=safe/\safe<=lenI log
 len:log.length<=i+1
 hs2:hs.length=2
 hsb:∀x∈hs,0<=x/\x<=2*(i:Int)
 sy:m.sync=true->safe=lenI log
theorem zeU{α:Type}(l:List α):lenI l=(l.length:Int):=rfl
theorem Inv.st{i:Nat}{m:MM}{s:SO}{log:List (Int×Int)}{done:List Row}{hs:List Int}{safe:Int}(I:Inv i m s log done hs safe):St s.now (lenI log) (zaD log).1 (zaD log).2 done:=by
 rw[I.now];exact I.h.st.1
theorem zhA(m:MM)(s:SO)(h:m.durable=s.kept)(h2:s.kept=lenI s.bats->m.applied=s.kept):m.mark s=m:=by
 unfold MM.mark;induction q:eqI s.kept (lenI s.bats) with
 |true=>
  have:=h2 (of_decide_eq_true q);cases m
  simp only[cond_true] at *;subst h;subst this;rfl
 |false=>cases m;rfl
theorem write_inv{i:Nat}{m:MM}{s:SO}{log:List (Int×Int)}{done d':List Row}{hs hs':List Int}{safe:Int}{ops:List Op3}{p:Int×Int}{t:Int}{cf:Byt}{j:Int}(I:Inv i m s log done hs safe)(ho:ops.length<=3)
  (hd:d'=done\/∃r,d'=done++[r]/\r.index=(log.length:Int)+1) (dk:DOK d' (log.length+1)) (pb:PB p (log.length+1)) (st:St (ze7 s.now ops) (lenI log+1) p.1 p.2 d') (h2:hs'.length=2) (hb:∀x∈hs',0<=x/\x<=2*((i+1:Nat):Int)) (hj:j=lenI log+1) (ht:t=p.1) (hcf:cf=zaE (memL p.2)) :
  ((m.next (s.write ops m.sync) j t cf).mark (s.write ops m.sync)).applied=lenI (log++[p])
  /\ ((m.next (s.write ops m.sync) j t cf).mark (s.write ops m.sync)).durable=(bif (m.next (s.write ops m.sync) j t cf).sync then lenI (log++[p]) else safe)
  /\ Inv (i+1) ((m.next (s.write ops m.sync) j t cf).mark (s.write ops m.sync)) (s.write ops m.sync) (log++[p]) d' hs' (bif (m.next (s.write ops m.sync) j t cf).sync then lenI (log++[p]) else safe):=by
 subst hj;subst ht;subst hcf;have e1:lenI (log++[p])=lenI log+1:=by unfold lenI;simp
 have e2:s.bats.length=log.length:=I.h.len.1;have hH:Hist (s.bats++[ops]) (log++[p]) d':=.snoc I.h ho hd dk pb (by rw[←I.now];exact st)
 have hlen:=I.len;have hsafe:=I.sf;have l0:=zeU log;rw[e1];induction z:m.sync with
 |true=>
  have ez:(m.next (s.write ops true) (lenI log+1) p.1 (zaE (memL p.2)))=⟨lenI log+1,p.1,zaE (memL p.2),lenI log+1,true⟩:=by
   unfold MM.next;rw[z];show (m.at _ _ _).mark (s.take ops).sync=_
   unfold MM.mark MM.at;rw[show eqI (s.take ops).sync.kept (lenI (s.take ops).sync.bats)=true from decide_eq_true rfl,z]
   rfl
  rw[ez]
  have ek:(s.take ops).sync.kept=lenI log+1:=by
   show lenI (s.bats++[ops])=_
   unfold lenI;simp[e2]
  have em:MM.mark ⟨lenI log+1,p.1,zaE (memL p.2),lenI log+1,true⟩ (s.write ops true)=⟨lenI log+1,p.1,zaE (memL p.2),lenI log+1,true⟩:=zhA _ _ ek.symm λ_=>ek.symm
  rw[em];refine ⟨rfl,rfl,⟨hH,?_,e1.symm,by rw[zeD],by rw[zeD],ek,rfl,⟨by show (1:Int)<=lenI log+1;lia,by rw[e1];exact Int.le_refl _⟩,by simp;lia,h2,hb,λ_=>e1.symm⟩⟩
  show ze7 s.now ops=(SO.replay (s.bats++[ops])).now
  rw[zgN,I.now];rfl
 |false=>
  have ez:(m.next (s.write ops false) (lenI log+1) p.1 (zaE (memL p.2)))=⟨lenI log+1,p.1,zaE (memL p.2),safe,false⟩:=by
   unfold MM.next;rw[z];show m.at _ _ _=_
   unfold MM.at;rw[z,I.dur]
  rw[ez]
  have em:MM.mark ⟨lenI log+1,p.1,zaE (memL p.2),safe,false⟩ (s.write ops false)=⟨lenI log+1,p.1,zaE (memL p.2),safe,false⟩:=
   zhA _ _ (show safe=s.kept from I.kept.symm) λq=>by
    have:s.kept=lenI (s.bats++[ops]):=q;have e3:lenI (s.bats++[ops])=lenI log+1:=by unfold lenI;simp[e2]
    have:=I.kept;lia
  rw[em];refine ⟨rfl,rfl,⟨hH,?_,e1.symm,by rw[zeD],by rw[zeD],I.kept,rfl,⟨hsafe.1,by rw[e1];show safe<=lenI log+1;lia⟩,by simp;lia,h2,hb,λq=>by cases q⟩⟩
  show ze7 s.now ops=(SO.replay (s.bats++[ops])).now
  rw[zgN,I.now];rfl
theorem Inv.up{i:Nat}{m:MM}{s:SO}{log:List (Int×Int)}{done:List Row}{hs:List Int}{safe:Int}(I:Inv i m s log done hs safe):Inv (i+1) m s log done hs safe:=
 {I with len:=by have:=I.len;lia,hsb:=λx hx=>by have:=I.hsb x hx;lia}
theorem Inv.mark{i:Nat}{m:MM}{s:SO}{log:List (Int×Int)}{done:List Row}{hs:List Int}{safe:Int}(I:Inv i m s log done hs safe):m.mark s=m:=
 zhA m s (by rw[I.dur,I.kept]) λq=>by
  rw[q,I.ap];unfold lenI;rw[I.h.len.1]
theorem sync_inv{i:Nat}{m:MM}{s:SO}{log:List (Int×Int)}{done:List Row}{hs:List Int}{safe:Int}(I:Inv i m s log done hs safe):
  ((m.mark s.sync).mark s.sync).applied=lenI log/\((m.mark s.sync).mark s.sync).durable=lenI log/\Inv (i+1) ((m.mark s.sync).mark s.sync) s.sync log done hs (lenI log):=by
 have e0:lenI s.bats=lenI log:=by unfold lenI;rw[I.h.len.1]
 have e1:m.mark s.sync=⟨lenI log,m.term,m.conf,lenI log,m.sync⟩:=by
  unfold MM.mark;rw[show eqI s.sync.kept (lenI s.sync.bats)=true from decide_eq_true rfl,I.ap];rfl
 rw[e1];have e2:MM.mark ⟨lenI log,m.term,m.conf,lenI log,m.sync⟩ s.sync=⟨lenI log,m.term,m.conf,lenI log,m.sync⟩:=zhA _ _ e0.symm λ_=>e0.symm
 rw[e2];have hs:=I.sf;exact ⟨rfl,rfl,(⟨I.h,I.now,rfl,I.tm,I.cf,e0,rfl,⟨by lia,Int.le_refl _⟩,I.len,I.hs2,I.hsb,λ_=>rfl⟩:Inv i ⟨lenI log,m.term,m.conf,lenI log,m.sync⟩ s.sync log done _ (lenI log)).up⟩
end
section
open PySem PySem.W PyProof.Rows
theorem pres_big{now:List (Byt×Byt)}:∀b∈zi2 now,b.length<=big:=λb hb=>by
 have h:b∈K5:=(List.mem_filter.mp hb).1;have:∀x∈K5,x.length<=9:=by decide
 exact Nat.le_trans (this b h) (by decide)
theorem DOK.ok{done:List Row}{L:Nat}(h:DOK done L):∀r∈done,(0<=r.code/\r.code<=3)/\zbL r.old:=λr hr=>⟨by have:=h.code r hr;lia,λb hb=>by have:=h.old r hr b hb;lia⟩
theorem mine_in{done:List Row}{c:Int}{r:Row}(h:r∈za6 done c):r∈done/\r.client=c:=⟨(List.mem_filter.mp h).1,by have:=(List.mem_filter.mp h).2;exact beq_iff_eq.mp this⟩
theorem rep_len{r:Row}(h:∀b,r.old=some b->b.length<100):(repB r.code r.old).length<128:=by
 unfold repB;induction q:r.old with
 |none=>show 2<128;decide
 |some b=>have:=h b q;simp only[mbB,List.length_cons];lia
theorem last_in{done:List Row}{c:Int}(h:ltI 0 (lenI (za6 done c))=true):∃p r,za6 done c=p++[r]/\zcT (za6 done c)=r/\r∈done/\r.client=c:=by
 have h:0<lenI (za6 done c):=of_decide_eq_true h;have hne:za6 done c≠[]:=λe=>by rw[e] at h;exact absurd h (by decide)
 obtain ⟨p,y,hy⟩:=zgK hne;obtain ⟨a,b⟩:=mine_in (show y∈za6 done c by rw[hy];simp)
 exact ⟨p,y,hy,by rw[hy];exact zfX p y,a,b⟩
theorem sesR_ok{done:List Row}{L:Nat}(h:DOK done L):∀x∈sesR done false++sesR done true,(0<=x.2.1/\x.2.1<128)/\x.2.2.2.length<128:=by
 have one:∀w,∀x∈sesR done w,(0<=x.2.1/\x.2.1<128)/\x.2.2.2.length<128:=by
  intro w x hx;unfold sesR at hx;induction q:ltI 0 (lenI (za6 done (cliN w))) with
  |false=>rw[q] at hx;injection hx
  |true=>
   rw[q] at hx;obtain ⟨p,r,_,e,hr,_⟩:=last_in q;cases List.mem_singleton.mp hx
   dsimp only;rw[e];exact ⟨h.num r hr,rep_len (h.old r hr)⟩
 intro x hx;rcases List.mem_append.mp hx with hx|hx
 ·exact one _ x hx
 ·exact one _ x hx
section
variable{cx:Cx}{P:PySem.Params}(X:On cx P)
include X
theorem rows_ok {m:MM} {s:SO} {i t mem:Int} {d:List Row} (h:St s.now i t mem d):CallOK cx 5 (.mt "Machine" "rows") [.r 0] (zaG m s) (.ok (.r 4)) (zaG m s++[.tl .kv (zfE d)]):=by
 have hl:=good_len h.good
 have c:=c_rows X (m:=m) (c_scan X (s:=s) (lo:=[100]) (hi:=[101]) (sl:=zi2 s.now) (by lia) (pres_sorted _) (zh6 h.good) pres_big)
  (by have:=(zh6 h.good).length_eq;simp only[zc9,List.length_map] at this;unfold zeB;rw[List.length_map];have:=List.length_filter_le (inR [100] [101]) (zi2 s.now);lia)
 have e:((zeB s.now [100] [101] (zi2 s.now)).map λx=>(sl x.1 (some 1) none,x.2))=zfE d:=by
  rw[←rows_scan h,scan_pres (l:=[[100],[100,107]]) (by decide),List.map_map,List.map_map]
  refine List.map_congr_left λk hk=>?_
  have:k=[100]\/k=[100,107]:=by
   have:=(List.mem_filter.mp hk).1;simpa using this
  rcases this with rfl|rfl <;> rfl
 exact Eq.mp (congrArg (λl:List (Byt×Byt)=>CallOK cx 5 (.mt "Machine" "rows") [.r 0] (zaG m s) (.ok (.r 4)) (zaG m s++[.tl .kv l])) e) c.up
theorem sess_ok {m:MM} {s:SO} {i t mem:Int} {d:List Row} {L:Nat} (h:St s.now i t mem d) (dk:DOK d L):CallOK cx 5 (.mt "Machine" "sessions") [.r 0] (zaG m s) (.ok (.r 4)) (zaG m s++[.tl .seat (zf6 d)]):=by
 have hl:=good_len h.good;have c:=c_scan X (s:=s) (lo:=[115]) (hi:=[116]) (sl:=zi2 s.now) (by lia) (pres_sorted _) (zh6 h.good) pres_big
 rw[ses_scan h] at c
 have:=c_sessions X (m:=m) c (sesR_ok dk) (by
  have:∀w,(sesR d w).length<=1:=λw=>by unfold sesR;cases ltI 0 (lenI (za6 d (cliN w))) <;> simp
  have h1:=this false;have h2:=this true
  rw[List.length_append];lia)
 exact Eq.mp (congrArg (λl:List (Int×Int×Bool×Byt)=>CallOK cx 5 (.mt "Machine" "sessions") [.r 0] (zaG m s) (.ok (.r 4)) (zaG m s++[.tl .seat l])) (seats_of d)) this
theorem agree_ok{i:Nat}{m:MM}{s:SO}{log:List (Int×Int)}{done:List Row}{hs:List Int}{safe:Int}(I:Inv i m s log done hs safe)(hi:i<=6):
  CallOK cx 6 (.fn "_law_agree") [.r 0,.r 4,.r 5] (AO m s done log) (.ok (Bo true)) (AO m s done log):=by
 obtain ⟨st,dk,pb⟩:=I.h.st;have hl:=I.len;have:=dk.few
 have e:=c_agree X (m:=m) (s:=s) (done:=done) (log:=log) (by lia) (λr hr=>Nat.le_trans (dk.word r hr) (by decide)) dk.ok (λk hk=>I.st.val k (by
  unfold lKeys at hk;simpa using hk)) (λe=>by have:=I.h.len.2;rw[e] at this;exact absurd this (by decide)) (rows_ok X I.st) (sess_ok X I.st dk)
 rw[I.ap,I.tm,eqi rfl,eqi rfl] at e;exact e
noncomputable def opsT(now:List (Byt×Byt))(k n:Int)(w:Bool)(ke wo:Byt)(ex:Option Byt)(T:Int×Option Byt×Bool):List Op3:=bif T.2.2 then (effR now k ke wo ex).2.2++[(1,skey w,sesB n (!eqI k 6) (repB T.1 T.2.1))] else []
theorem do_ok{i:Nat}{m:MM}{s:SO}{log:List (Int×Int)}{done:List Row}{hs:List Int}{safe:Int}{k n:Int}{wh:Bool}{ke wo:Byt}{ex:Option Byt}(I:Inv i m s log done hs safe)(hi:i<=6)(B:CB k n ke wo ex)(hke:ke=[]\/ke=[107]):
  ∃w',DoC cx m s k n wh ke wo ex [] 12 (repB (zcP done (cliN wh) n k ke ex).1 (zcP done (cliN wh) n k ke ex).2.1) (opsT s.now k n wh ke wo ex (zcP done (cliN wh) n k ke ex)) w':=by
 obtain ⟨st,dk,pb⟩:=I.h.st;have St:=I.st;have hl:=I.len;have hf:=dk.few;have hv:=St.val ke hke
 have ho:∀b,dget (100::ke) s.now=some b->b.length<100:=λb hb=>by
  rw[hv] at hb;have:=value_len dk.word hb;lia
 have hses:=St.ses wh;unfold sesOf at hses;induction q:ltI 0 (lenI (za6 done (cliN wh))) with
 |false=>
  rw[q] at hses
  have hm:za6 done (cliN wh)=[]:=by
   have:¬ 0<lenI (za6 done (cliN wh)):=of_decide_eq_false q;exact List.length_eq_zero_iff.mp (by unfold lenI at this;lia)
  rw[told_none (wo:=wo) hm B.k hv];have sr:SRow cx m s wh (-1) false []:=(c_session_row0 X (m:=m) (w:=wh) hses).up;have hn:-1<n:=by have:=B.n.1;lia
  by_cases k5:k=5
  ·rw[eqi k5]
   obtain ⟨w',h⟩:=c_do_new X (wh:=wh) (ke:=ke) (va:=wo) (e:=ex) (rows:=[]) (w:=12) sr hn (.inr k5) B.n B.k (by have:=B.ke;lia) (by have:=B.wo;lia) ho (by decide)
   exact ⟨w',h⟩
  ·rw[eqIf k5]
   exact ⟨12,c_do_unknown X sr hn k5⟩
 |true=>
  rw[q] at hses;obtain ⟨p,r,hm,hla,hr,hrc⟩:=last_in q;rw[hla] at hses
  have hp:∀x∈p,x.number<r.number:=by
   have:=dk.rise wh;rw[hm] at this;exact λx hx=>(List.pairwise_append.mp this).2.2 x hx r (by simp)
  rw[told_some (wo:=wo) hm hp B.k hv];have sr:SRow cx m s wh r.number (!eqI r.kind 6) (repB r.code r.old):=c_session_row X (m:=m) (w:=wh) (dk.num r hr) (rep_len (dk.old r hr)) hses;by_cases h1:n<r.number
  ·rw[lti h1]
   exact ⟨12,c_do_stale X sr h1⟩
  ·rw[nlti (by lia:r.number<=n)]
   by_cases h2:n=r.number
   ·rw[eqi h2]
    exact ⟨12,c_do_again X sr h2⟩
   ·rw[eqIf h2]
    have hlt:r.number<n:=by lia
    by_cases k5:k=5
    ·obtain ⟨w',h⟩:=c_do_new X (wh:=wh) (ke:=ke) (va:=wo) (e:=ex) (rows:=[]) (w:=12) sr hlt (.inr k5) B.n B.k (by have:=B.ke;lia) (by have:=B.wo;lia) ho (by decide)
     rw[eqi k5];exact ⟨w',h⟩
    ·rw[eqIf k5]
     induction k6:eqI r.kind 6 with
     |true=>
      rw[k6] at sr;exact ⟨12,c_do_unknown X sr hlt k5⟩
     |false=>
      rw[k6] at sr;obtain ⟨w',h⟩:=c_do_new X (wh:=wh) (ke:=ke) (va:=wo) (e:=ex) (rows:=[]) (w:=12) sr hlt (.inl rfl) B.n B.k (by have:=B.ke;lia) (by have:=B.wo;lia) ho (by decide)
      exact ⟨w',h⟩
end
end
section
open PySem PySem.W PyProof.Rows
theorem zeV{α:Type}{p:α->Prop}{l:List α}{d:α}(h:∀x∈l,p x)(hd:p d)(j:Nat):p (l.getD j d):=by
 rw[List.getD_eq_getElem?_getD];induction q:l[j]? with
 |none=>exact hd
 |some x=>exact h x (List.mem_of_getElem? q)
theorem told_new{done:List Row}{now:List (Byt×Byt)}{L:Nat}{n k:Int}{w:Bool}{ke wo:Byt}{ex:Option Byt}(dk:DOK done L)(hk:0<=k/\k<=6)(hn:0<=n)(hv:dget (100::ke) now=zaN done ke)(h:(zcP done (cliN w) n k ke ex).2.2=true):
  zcP done (cliN w) n k ke ex=effT now k ke wo ex/\∀x∈za6 done (cliN w),x.number<n:=by
 by_cases hm:za6 done (cliN w)=[]
 ·have e:=told_none (n:=n) (wo:=wo) (ex:=ex) hm hk hv
  rw[e] at h ⊢;induction q:eqI k 5 with
  |true=>exact ⟨rfl,by rw[hm];exact λ_ q=>nm q⟩
  |false=>rw[q] at h;injection h
 ·obtain ⟨p,r,hy⟩:=zgK hm
  have hp:∀x∈p,x.number<r.number:=by
   have:=dk.rise w;rw[hy] at this;exact λx hx=>(List.pairwise_append.mp this).2.2 x hx r (by simp)
  have e:=told_some (n:=n) (wo:=wo) (ex:=ex) hy hp hk hv;rw[e] at h ⊢;induction q1:ltI n r.number with
  |true=>rw[q1] at h;injection h
  |false=>
   rw[q1] at h;induction q2:eqI n r.number with
   |true=>rw[q2] at h;injection h
   |false=>
    rw[q2] at h;induction q3:(!eqI k 5&&eqI r.kind 6) with
    |true=>rw[q3] at h;injection h
    |false=>
     refine ⟨rfl,λx hx=>?_⟩
     have g1:¬ n<r.number:=of_decide_eq_false q1;have g2:¬ n=r.number:=of_decide_eq_false q2;rw[hy] at hx;rcases List.mem_append.mp hx with hx|hx
     ·have:=hp x hx;lia
     ·cases List.mem_singleton.mp hx;lia
theorem z01:(0:Int)<=0/\(0:Int)<=1:=by decide
theorem z11:(0:Int)<=1/\(1:Int)<=1:=by decide
theorem z03{a:Int}(h:a=2\/a=3):0<=a/\a<=3:=by lia
theorem eff_code(now:List (Byt×Byt))(k:Int)(ke wo:Byt)(ex:Option Byt):(0<=(effR now k ke wo ex).1/\(effR now k ke wo ex).1<=1)/\((effR now k ke wo ex).2.1=none\/(effR now k ke wo ex).2.1=dget (100::ke) now)/\(effR now k ke wo ex).2.2.length<=1:=by
 unfold effR;induction eqI k 0||(eqI k 5||eqI k 6) with
 |true=>exact ⟨z01,.inl rfl,Nat.zero_le 1⟩
 |false=>
  induction eqI k 1 with
  |true=>exact ⟨z01,.inr rfl,Nat.le_refl 1⟩
  |false=>
   induction eqI k 2 with
   |true=>exact ⟨z01,.inr rfl,by dsimp only[cond];cases (dget (100::ke) now).isSome <;> simp⟩
   |false=>
    induction eqI k 3 with
    |true => 
     induction eqO (dget (100::ke) now) ex with
     |true=>exact ⟨z01,.inr rfl,Nat.le_refl 1⟩
     |false=>exact ⟨z11,.inr rfl,Nat.zero_le 1⟩
    |false=>exact ⟨z01,.inr rfl,Nat.le_refl 1⟩
theorem told_ok{done:List Row}{now:List (Byt×Byt)}{L:Nat}{n k:Int}{w:Bool}{ke wo:Byt}{ex:Option Byt}(dk:DOK done L)(hL:L<=20)(hk:0<=k/\k<=6)(hv:dget (100::ke) now=zaN done ke):
  (0<=(zcP done (cliN w) n k ke ex).1/\(zcP done (cliN w) n k ke ex).1<=3)/\∀b,(zcP done (cliN w) n k ke ex).2.1=some b->b.length<100:=by
 obtain ⟨c1,c2,_⟩:=eff_code now k ke wo ex;have hf:=dk.few
 have hE:(0<=(effT now k ke wo ex).1/\(effT now k ke wo ex).1<=3)/\∀b,(effT now k ke wo ex).2.1=some b->b.length<100:=by
  refine ⟨⟨c1.1,by show (effR now k ke wo ex).1<=3;lia⟩,λb hb=>?_⟩
  rcases c2 with c2|c2
  ·have:(effR now k ke wo ex).2.1=some b:=hb
   rw[c2] at this;injection this
  ·have:(effR now k ke wo ex).2.1=some b:=hb
   rw[c2,hv] at this;have:=value_len dk.word this;lia
 by_cases hm:za6 done (cliN w)=[]
 ·rw[told_none (n:=n) (wo:=wo) (ex:=ex) hm hk hv]
  induction eqI k 5 with
  |true=>exact hE
  |false=>exact ⟨z03 (.inl rfl),λb hb=>by cases hb⟩
 ·obtain ⟨p,r,hy⟩:=zgK hm
  obtain ⟨hr,_⟩:=mine_in (show r∈za6 done (cliN w) by rw[hy];simp)
  have hp:∀x∈p,x.number<r.number:=by
   have:=dk.rise w;rw[hy] at this;exact λx hx=>(List.pairwise_append.mp this).2.2 x hx r (by simp)
  rw[told_some (n:=n) (wo:=wo) (ex:=ex) hy hp hk hv];induction ltI n r.number with
  |true=>exact ⟨z03 (.inr rfl),λb hb=>by cases hb⟩
  |false=>
   induction eqI n r.number with
   |true=>exact ⟨by have:=dk.code r hr;exact ⟨this.1,by show r.code<=3;lia⟩,dk.old r hr⟩
   |false=>
    induction (!eqI k 5&&eqI r.kind 6) with
    |true=>exact ⟨z03 (.inl rfl),λb hb=>by cases hb⟩
    |false=>exact hE
theorem DOK.snoc{done:List Row}{L:Nat}{r:Row}{w:Bool}(dk:DOK done L)(hc:r.client=cliN w)(hi:r.index=(L:Int)+1)(hw:r.word.length<=2)(h1:0<=r.code/\r.code<=1)(h2:∀b,r.old=some b->b.length<100)(h3:0<=r.number/\r.number<128)(h4:∀x∈za6 done (cliN w),x.number<r.number):DOK (done++[r]) (L+1):=by
 have mem:∀{p:Row->Prop},(∀x∈done,p x)->p r->∀x∈done++[r],p x:=λa b x hx=>by
  rcases List.mem_append.mp hx with hx|hx
  ·exact a x hx
  ·cases List.mem_singleton.mp hx;exact b
 refine ⟨mem (λx hx=>by have:=dk.idx x hx;lia) (by lia),mem dk.word hw,mem dk.code h1,mem dk.old h2,mem dk.num h3,λw'=>?_,by have:=dk.few;simp;lia⟩
 rw[mine_snoc,hc];by_cases q:w=w'
 ·subst q
  rw[show (cliN w==cliN w)=true by simp,cond_true]
  exact List.pairwise_append.mpr ⟨dk.rise w,by simp,λa ha b hb=>by cases List.mem_singleton.mp hb;exact h4 a ha⟩
 ·rw[show (cliN w==cliN w')=false from beq_eq_false_iff_ne.mpr (cli_ne q),cond_false,List.append_nil]
  exact dk.rise w'
theorem tell_inv{i:Nat}{m:MM}{s:SO}{log:List (Int×Int)}{done:List Row}{hs hs':List Int}{safe t k n:Int}{wh:Bool}{ke wo:Byt}{ex:Option Byt}(I:Inv i m s log done hs safe)(hi:i<=6)(B:CB k n ke wo ex)(hke:ke=[]\/ke=[107])(ht:(zaD log).1<=t/\t<=(zaD log).1+1)(h2:hs'.length=2)(hb:∀x∈hs',0<=x/\x<=2*((i+1:Nat):Int)):
  let T:=zcP done (cliN wh) n k ke ex
  let ops:=opsT s.now k n wh ke wo ex T++[rw1 (lenI log+1) t m.conf]
  let p:=(t,(zaD log).2)
  let m':=m.next (s.write ops m.sync) (lenI log+1) t m.conf
  (m'.mark (s.write ops m.sync)).applied=lenI (log++[p])
  /\ (m'.mark (s.write ops m.sync)).durable=(bif m'.sync then lenI (log++[p]) else safe)
  /\ Inv (i+1) (m'.mark (s.write ops m.sync)) (s.write ops m.sync) (log++[p]) (bif T.2.2 then done++[⟨lenI log+1,cliN wh,n,k,ke,wo,T.1,T.2.1⟩] else done) hs' (bif m'.sync then lenI (log++[p]) else safe):=by
 obtain ⟨st,dk,pb⟩:=I.h.st;have hl:=I.len;have St:=I.st;have hv:=St.val ke hke;obtain ⟨c1,c2,c3⟩:=eff_code s.now k ke wo ex;have hPB:PB (t,(zaD log).2) (log.length+1):=⟨by have:=pb.t;dsimp only;lia,pb.m⟩
 dsimp only;rw[I.cf];induction q:(zcP done (cliN wh) n k ke ex).2.2 with
 |true=>
  obtain ⟨eT,hn⟩:=told_new (wo:=wo) dk B.k B.n.1 hv q;have e1:(zcP done (cliN wh) n k ke ex).1=(effR s.now k ke wo ex).1:=by rw[eT];rfl
  have e2:(zcP done (cliN wh) n k ke ex).2.1=(effR s.now k ke wo ex).2.1:=by rw[eT];rfl
  have eo:opsT s.now k n wh ke wo ex (zcP done (cliN wh) n k ke ex)=(effR s.now k ke wo ex).2.2++[(1,skey wh,sesB n (!eqI k 6) (repB (effR s.now k ke wo ex).1 (effR s.now k ke wo ex).2.1))]:=by
   unfold opsT;rw[q,e1,e2];rfl
  rw[eo,e1,e2]
  have hold:∀b,(effR s.now k ke wo ex).2.1=some b->b.length<100:=by
   have:=(told_ok (n:=n) (w:=wh) (wo:=wo) (ex:=ex) dk (by lia) B.k hv).2
   rw[e2] at this;exact this
  exact write_inv I (by simp only[List.length_append,List.length_singleton];lia) (.inr ⟨_,rfl,rfl⟩) (dk.snoc (w:=wh) rfl rfl B.wo c1 hold B.n hn) hPB (St.new B.k hke) h2 hb rfl rfl rfl
 |false=>
  have eo:opsT s.now k n wh ke wo ex (zcP done (cliN wh) n k ke ex)=[]:=by unfold opsT;rw[q];rfl
  rw[eo,List.nil_append];exact write_inv I (by simp) (.inl rfl) dk.up hPB St.same h2 hb rfl rfl rfl
end
section
open PySem PySem.W PyProof.Rows
noncomputable def Stp(cx:Cx)(ns nums:List Int)(i:Nat)(m:MM)(s:SO)(log:List (Int×Int))(done:List Row)(hs:List Int)(safe:Int):Prop:=
 ∃m' s' log' done' hs' safe',Inv (i+1) m' s' log' done' hs' safe'/\∀xs e os,LW cx xs safe' (LO ns nums m' s' log' done' hs') e os->LW cx (.int (i:Int)::xs) safe (LO ns nums m s log done hs) e os
theorem ib{i:Nat}(hi:1<=i/\i<=5):(0<=1+(i:Int)/\1+(i:Int)<=7)/\(i:Int)≠0:=by lia
theorem Inv.lg{i:Nat}{m:MM}{s:SO}{log:List (Int×Int)}{done:List Row}{hs:List Int}{safe:Int}(I:Inv i m s log done hs safe)(hi:i<=6):log.length<100:=Nat.lt_of_le_of_lt I.len (Nat.lt_of_le_of_lt (Nat.succ_le_succ hi) (by decide))
theorem Inv.nx{i:Nat}{m:MM}{s:SO}{log:List (Int×Int)}{done:List Row}{hs:List Int}{safe:Int}(I:Inv i m s log done hs safe)(hi:i<=6):0<=lenI log+1/\lenI log+1<128:=by have:=I.lg hi;rw[zeU];lia
theorem draws(x:Int):∃(k st:Int) (wh:Bool) (ke wo:Byt) (ex:Option Byt),Dr x (x.fmod 10) (x.fdiv 10) (wI wh) st k ke wo ex/\(0<=k/\k<=6)/\(-1<=st/\st<=2)/\(ke=[]\/ke=[107])/\wo.length<=2/\∀b,ex=some b->b.length<=2:=by
 have hw:∃wh,(x.fdiv 10).fmod 2=wI wh:=by
  have h0:0<=(x.fdiv 10).fmod 2:=Int.fmod_nonneg_of_pos _ (by decide)
  have h1:(x.fdiv 10).fmod 2<2:=Int.fmod_lt_of_pos _ (by decide)
  have:(x.fdiv 10).fmod 2=0\/(x.fdiv 10).fmod 2=1:=by lia
  rcases this with h|h
  ·exact ⟨false,h⟩
  ·exact ⟨true,h⟩
 obtain ⟨wh,hw⟩:=hw
 exact ⟨_,_,wh,_,_,_,⟨rfl,rfl,hw,rfl,rfl,rfl,rfl,rfl⟩,zeV (p:=λk:Int=>0<=k/\k<=6) (by decide) (by decide) _,zeV (p:=λk:Int=>-1<=k/\k<=2) (by decide) (by decide) _,
  zeV (p:=λke:Byt=>ke=[]\/ke=[107]) (d:=Ty.dflt .byt) (by decide) (.inl rfl) _,zeV (p:=λwo:Byt=>wo.length<=2) (d:=Ty.dflt .byt) (by decide) (show ([]:Byt).length<=2 by decide) _,
  zeV (p:=λex:Option Byt=>∀b,ex=some b->b.length<=2) (by intro x hx b hb;subst hb;simp only[lExpects,List.mem_cons,List.mem_nil_iff,or_false,Option.some.injEq,reduceCtorEq,false_or] at hx;rcases hx with rfl|rfl|rfl <;> decide) (d:=Ty.dflt .ob) (λb hb=>nomatch (show (none:Option Byt)=some b from hb)) _⟩
theorem zeG{mem:Int}(h:1<=mem/\mem<=3):(zaE (memL mem)).length<100/\Ids (memL mem):=by
 have:mem=1\/mem=2\/mem=3:=by lia
 rcases this with rfl|rfl|rfl
 ·exact ⟨by decide,⟨show ([1]:List Int).Pairwise (·<·) by decide,by decide,show ∀x∈([1]:List Int),0<=x/\x<128 by decide⟩⟩
 ·exact ⟨by decide,⟨show ([1,2]:List Int).Pairwise (·<·) by decide,by decide,show ∀x∈([1,2]:List Int),0<=x/\x<128 by decide⟩⟩
 ·exact ⟨by decide,⟨show ([1,2,3]:List Int).Pairwise (·<·) by decide,by decide,show ∀x∈([1,2,3]:List Int),0<=x/\x<128 by decide⟩⟩
theorem hat_b{i:Nat}{hs:List Int}{wh:Bool}(hb:∀x∈hs,0<=x/\x<=2*(i:Int)):0<=hAt hs (wI wh)/\hAt hs (wI wh)<=2*(i:Int):=
 zeV (p:=λx:Int=>0<=x/\x<=2*(i:Int)) hb ⟨Int.le_refl 0,by lia⟩ _
theorem mx0_b(a:Int):mx0 a=a/\0<=a\/mx0 a=0/\a<=0:=by
 unfold mx0;by_cases h:0<a
 ·rw[lti h];exact .inl ⟨rfl,by lia⟩
 ·rw[nlti (by lia)];exact .inr ⟨rfl,by lia⟩
theorem nextH_b{i:Nat}{hs:List Int}{w n:Int}(hb:∀x∈hs,0<=x/\x<=2*(i:Int))(hn:0<=n/\n<=2*(i:Int)+2):∀x∈nextH hs w n,0<=x/\x<=2*((i+1:Nat):Int):=by
 intro x hx;rcases List.mem_or_eq_of_mem_set hx with hx|hx
 ·have:=hb x hx;lia
 ·have h0:0<=hAt hs w/\hAt hs w<=2*(i:Int):=zeV (p:=λx:Int=>0<=x/\x<=2*(i:Int)) hb ⟨Int.le_refl 0,by lia⟩ _
  induction q:ltI (hAt hs w) n with
  |true=>rw[q] at hx;have:x=n:=hx;lia
  |false=>rw[q] at hx;have:x=hAt hs w:=hx;lia
theorem small_of{i:Nat}{m:MM}{s:SO}{log:List (Int×Int)}{done:List Row}{hs:List Int}{safe:Int}(I:Inv i m s log done hs safe)(hi:i<=6):s.small:=by
 have:=good_len I.st.good;have:=I.h.len.1;have:=I.len;exact ⟨by lia,by lia⟩
theorem t_b(y:Int):0<=(y.fdiv 3).fmod 2/\(y.fdiv 3).fmod 2<=1:=⟨Int.fmod_nonneg_of_pos _ (by decide),by have:=Int.fmod_lt_of_pos (y.fdiv 3) (show (0:Int)<2 by decide);lia⟩
section
variable{cx:Cx}{P:PySem.Params}(X:On cx P)
include X
theorem tell_pair{i:Nat}{m:MM}{s:SO}{log:List (Int×Int)}{done:List Row}{hs:List Int}{safe t k n:Int}{wh:Bool}{ke wo:Byt}{ex:Option Byt}(I:Inv i m s log done hs safe)(hi:i<=6)(B:CB k n ke wo ex)(hke:ke=[]\/ke=[107])(ht:0<=t/\t<128):
  CallOK cx 8 (.mt "Machine" "apply") [.r 0,.r 4,Nn] (MEo m s t (lenI log+1) 0 (cmdB k n wh ke wo ex)) (.ok (Y (repB (zcP done (cliN wh) n k ke ex).1 (zcP done (cliN wh) n k ke ex).2.1)))
   (MEo (m.next (s.write (opsT s.now k n wh ke wo ex (zcP done (cliN wh) n k ke ex)++[rw1 (lenI log+1) t m.conf]) m.sync) (lenI log+1) t m.conf) (s.write (opsT s.now k n wh ke wo ex (zcP done (cliN wh) n k ke ex)++[rw1 (lenI log+1) t m.conf]) m.sync) t (lenI log+1) 0 (cmdB k n wh ke wo ex)):=by
 obtain ⟨st,dk,pb⟩:=I.h.st;obtain ⟨w',hdo⟩:=do_ok X I hi B hke (wh:=wh);have hl:=I.len;have l0:=zeU log;obtain ⟨c1,c2,c3⟩:=eff_code s.now k ke wo ex;refine c_apply X (small_of I hi) (by rw[I.ap]) (I.nx hi) ht (by rw[I.cf];exact (zeG pb.m).1) ?_ (by decide) (by unfold cmdB;exact nofun) (c_decode X B.k B.n B.ke7 B.wo7 B.so) hdo
 unfold opsT;induction (zcP done (cliN wh) n k ke ex).2.2 with
 |true=>simp only[cond_true,List.length_append,List.length_singleton];lia
 |false=>simp
theorem step_tell{ns nums:List Int}{i:Nat}{m:MM}{s:SO}{log:List (Int×Int)}{done:List Row}{hs:List Int}{safe:Int}(I:Inv i m s log done hs safe)(hi:1<=i/\i<=5)(hn:nums≠[])(hl:nums.length<=7)(ha:3<(zaP nums (1+(i:Int))).fmod 10):Stp cx ns nums i m s log done hs safe:=by
 obtain ⟨k,st,wh,ke,wo,ex,D,bk,bs,bke,bwo,bex⟩:=draws (zaP nums (1+(i:Int)));obtain ⟨_,dk,pb⟩:=I.h.st;have h0:=hat_b (wh:=wh) I.hsb;have hl1:=I.len;have l0:=zeU log;have pt:=pb.t;have tb:=t_b ((zaP nums (1+(i:Int))).fdiv 10);have hnb:0<=mx0 (hAt hs (wI wh)+st)/\mx0 (hAt hs (wI wh)+st)<=2*(i:Int)+2:=by rcases mx0_b (hAt hs (wI wh)+st) with h|h <;> lia
 have B:CB k (mx0 (hAt hs (wI wh)+st)) ke wo ex:=⟨bk,by lia,by rcases bke with rfl|rfl <;> decide,bwo,bex⟩
 obtain ⟨od,ho,hc⟩:=c_told X (done:=done) (c:=cliN wh) (n:=mx0 (hAt hs (wI wh)+st)) (k:=k) (key:=ke) (e:=ex) (by have:=dk.few;lia) (λr hr=>Nat.le_trans (dk.word r hr) (by decide))
 have hap:=tell_pair X (wh:=wh) (t:=(zaD log).1+(((zaP nums (1+(i:Int))).fdiv 10).fdiv 3).fmod 2) I (by lia) B bke (by lia)
 obtain ⟨q1,q2,q3⟩:=tell_inv (wh:=wh) (t:=(zaD log).1+(((zaP nums (1+(i:Int))).fdiv 10).fdiv 3).fmod 2) (hs':=nextH hs (wI wh) (mx0 (hAt hs (wI wh)+st))) I (by lia) B bke (by lia) (by rw[List.length_set];exact I.hs2) (nextH_b I.hsb hnb)
 have tk:=told_ok (n:=mx0 (hAt hs (wI wh)+st)) (w:=wh) (wo:=wo) (ex:=ex) dk (by lia) bk (I.st.val ke bke)
 exact ⟨_,_,_,_,_,_,q3,λxs e os L=>turn_tell X hn hl (ib hi).1 rfl D B rfl I.hs2 rfl (λe=>by have:=I.h.len.2;rw[e] at this;exact absurd this (by decide)) (I.lg (Nat.le_succ_of_le hi.2)) (Nat.lt_of_le_of_lt dk.few (I.lg (Nat.le_succ_of_le hi.2))) rfl (ib hi).2 ha hc ho hap tk.1 (λb hb=>by have:=tk.2 b hb;lia) q1 q2 L⟩
end
end
section
open PySem PySem.W PyProof.Rows
theorem Inv.ne{i:Nat}{m:MM}{s:SO}{log:List (Int×Int)}{done:List Row}{hs:List Int}{safe:Int}(I:Inv i m s log done hs safe):log≠[]:=λe=>by have:=I.h.len.2;rw[e] at this;exact absurd this (by decide)
structure Hd(nums:List Int)(i:Nat)(hs:List Int)(log:List (Int×Int))(a k st n t:Int)(wh:Bool)(ke wo:Byt)(ex:Option Byt):Prop where
 D:Dr (zaP nums (1+(i:Int))) a ((zaP nums (1+(i:Int))).fdiv 10) (wI wh) st k ke wo ex
 B:CB k n ke wo ex
 hke:ke=[]\/ke=[107]
 hn:mx0 (hAt hs (wI wh)+st)=n
 ht:(zaD log).1+(((zaP nums (1+(i:Int))).fdiv 10).fdiv 3).fmod 2=t
 tb:(zaD log).1<=t/\t<=(zaD log).1+1
theorem hd_of{nums:List Int}{i:Nat}{m:MM}{s:SO}{log:List (Int×Int)}{done:List Row}{hs:List Int}{safe:Int}(I:Inv i m s log done hs safe)(hi:i<=5){a:Int}(ha:(zaP nums (1+(i:Int))).fmod 10=a):∃k st n t wh ke wo ex,Hd nums i hs log a k st n t wh ke wo ex:=by
 obtain ⟨k,st,wh,ke,wo,ex,D,bk,bs,bke,bwo,bex⟩:=draws (zaP nums (1+(i:Int)));have h0:=hat_b (wh:=wh) I.hsb;have tb:=t_b ((zaP nums (1+(i:Int))).fdiv 10);have hnb:0<=mx0 (hAt hs (wI wh)+st)/\mx0 (hAt hs (wI wh)+st)<=2*(i:Int)+2:=by rcases mx0_b (hAt hs (wI wh)+st) with h|h <;> lia
 exact ⟨k,st,_,_,wh,ke,wo,ex,ha▸D,⟨bk,by lia,by rcases bke with rfl|rfl <;> decide,bwo,bex⟩,bke,rfl,rfl,by lia⟩
noncomputable def same_st{i:Nat}{m:MM}{s:SO}{log:List (Int×Int)}{done:List Row}{hs:List Int}{safe t mem:Int}{cf:Byt}(I:Inv i m s log done hs safe)(ht:(zaD log).1<=t/\t<=(zaD log).1+1)(hm:1<=mem/\mem<=3)(hcf:cf=zaE (memL mem)):=
 write_inv (hs':=hs) (j:=lenI log+1) (t:=t) (cf:=cf) (p:=(t,mem)) (ops:=[rw1 (lenI log+1) t cf]) I (by simp) (.inl rfl) I.h.st.2.1.up (by have:=I.h.st.2.2.t;exact ⟨by dsimp only;lia,hm⟩) (by rw[hcf];exact I.st.same) I.hs2 (λx hx=>by have:=I.hsb x hx;lia) rfl rfl hcf
section
variable{cx:Cx}{P:PySem.Params}(X:On cx P)
include X
theorem step_sync{ns nums:List Int}{i:Nat}{m:MM}{s:SO}{log:List (Int×Int)}{done:List Row}{hs:List Int}{safe:Int}(I:Inv i m s log done hs safe)(hi:1<=i/\i<=5)(hn:nums≠[])(hl:nums.length<=7)(ha:(zaP nums (1+(i:Int))).fmod 10=1):Stp cx ns nums i m s log done hs safe:=by
 obtain ⟨k,st,n,t,wh,ke,wo,ex,H⟩:=hd_of I hi.2 ha;obtain ⟨q1,q2,q3⟩:=sync_inv I;exact ⟨_,_,_,_,_,_,q3,λxs e os L=>turn_sync X hn hl (ib hi).1 rfl H.D (ib hi).2 q1 q2 L⟩
theorem step_gap{ns nums:List Int}{i:Nat}{m:MM}{s:SO}{log:List (Int×Int)}{done:List Row}{hs:List Int}{safe:Int}(I:Inv i m s log done hs safe)(hi:1<=i/\i<=5)(hn:nums≠[])(hl:nums.length<=7)(ha:(zaP nums (1+(i:Int))).fmod 10=2):Stp cx ns nums i m s log done hs safe:=by
 obtain ⟨k,st,n,t,wh,ke,wo,ex,H⟩:=hd_of I hi.2 ha;obtain ⟨_,dk,pb⟩:=I.h.st;have hl1:=I.len;have lg:=I.lg (Nat.le_succ_of_le hi.2);have l0:=zeU log;have pt:=pb.t;have sf:=I.sf;have ld:=c_load X (m:=m) (s:=s) (i:=lenI log) (t:=(zaD log).1) (zeG pb.m).2 ⟨by lia,by lia⟩ ⟨by lia,by lia⟩ I.st.row
 have em:MM.mark ⟨lenI log,(zaD log).1,zaE (memL (zaD log).2),bif ltI (lenI log) m.durable then lenI log else m.durable,m.sync⟩ s=m:=by
  rw[nlti (by rw[I.dur];lia:m.durable<=lenI log),←I.ap,←I.tm,←I.cf]
  exact I.mark
 rw[em] at ld
 exact ⟨_,_,_,_,_,_,(I.up),λxs e os L=>turn_gap X hn hl (ib hi).1 rfl H.D H.B rfl I.hs2 H.hn I.ne lg H.ht (ib hi).2 I.ap ld (by rw[I.mark];exact I.ap)
  (by rw[I.mark,I.dur];induction z:m.sync with
   |true=>exact I.sy z
   |false=>rfl) (by rw[I.mark];induction z:m.sync with
   |true=>have:=I.sy z;rw[←this];exact L
   |false=>exact L)⟩
theorem step_none{ns nums:List Int}{i:Nat}{m:MM}{s:SO}{log:List (Int×Int)}{done:List Row}{hs:List Int}{safe:Int}(I:Inv i m s log done hs safe)(hi:1<=i/\i<=5)(hn:nums≠[])(hl:nums.length<=7)(ha:(zaP nums (1+(i:Int))).fmod 10=3):Stp cx ns nums i m s log done hs safe:=by
 obtain ⟨k,st,n,t,wh,ke,wo,ex,H⟩:=hd_of I hi.2 ha;obtain ⟨_,dk,pb⟩:=I.h.st;have hl1:=I.len;have lg:=I.lg (Nat.le_succ_of_le hi.2);have l0:=zeU log;have pt:=pb.t;have tb:=H.tb;have B:=H.B;have sm:=small_of I (Nat.le_succ_of_le hi.2);have nx:=I.nx (Nat.le_succ_of_le hi.2);have t7:0<=t/\t<128:=by lia
 have o0:0<=((zaP nums (1+(i:Int))).fdiv 10).fmod 6:=Int.fmod_nonneg_of_pos _ (by decide)
 have o1:((zaP nums (1+(i:Int))).fdiv 10).fmod 6<6:=Int.fmod_lt_of_pos _ (by decide)
 obtain ⟨q1,q2,q3⟩:=same_st (cf:=m.conf) I H.tb pb.m I.cf
 have ap0:∀{kk:Int} {D:Byt},NoCmd cx kk D->CallOK cx 8 (.mt "Machine" "apply") [.r 0,.r 4,Nn] (MEo m s t (lenI log+1) kk D) (.ok Nn) (MEo (m.next (s.write [rw1 (lenI log+1) t m.conf] m.sync) (lenI log+1) t m.conf) (s.write [rw1 (lenI log+1) t m.conf] m.sync) t (lenI log+1) kk D):=λh=>
  c_apply0 X sm (by rw[I.ap]) nx t7 (by rw[I.cf];exact (zeG pb.m).1) h
 have ne:cmdB k n wh ke wo ex≠[]:=by unfold cmdB;exact nofun
 have:((zaP nums (1+(i:Int))).fdiv 10).fmod 6=0\/((zaP nums (1+(i:Int))).fdiv 10).fmod 6=1\/((zaP nums (1+(i:Int))).fdiv 10).fmod 6=2\/((zaP nums (1+(i:Int))).fdiv 10).fmod 6=3\/((zaP nums (1+(i:Int))).fdiv 10).fmod 6=4\/((zaP nums (1+(i:Int))).fdiv 10).fmod 6=5:=by lia
 rcases this with h|h|h|h|h|h
 ·have mb:1<=1+(((zaP nums (1+(i:Int))).fdiv 10).fdiv 5).fmod 3/\1+(((zaP nums (1+(i:Int))).fdiv 10).fdiv 5).fmod 3<=3:=by
   have:=Int.fmod_nonneg_of_pos (((zaP nums (1+(i:Int))).fdiv 10).fdiv 5) (show (0:Int)<3 by decide)
   have:=Int.fmod_lt_of_pos (((zaP nums (1+(i:Int))).fdiv 10).fdiv 5) (show (0:Int)<3 by decide)
   lia
  generalize hm:1+(((zaP nums (1+(i:Int))).fdiv 10).fdiv 5).fmod 3=mem at mb;obtain ⟨p1,p2,p3⟩:=same_st (cf:=zaE (memL mem)) I H.tb mb rfl;have hap:=c_applyC X (m:=m) (s:=s) (t:=t) (i:=lenI log+1) (k:=2) (D:=cmdB k n wh ke wo ex) (zeG mb).2 sm (by rw[I.ap]) nx t7 (.conf rfl)
  exact ⟨_,_,_,_,_,_,p3,λxs e os L=>turn_conf X hn hl (ib hi).1 rfl H.D H.B rfl I.hs2 H.hn I.ne lg H.ht (ib hi).2 h hm (zeG mb).2 (call_listRange (b_list X) (by lia) (by lia) (by decide)) hap p1 p2 L⟩
 ·exact ⟨_,_,_,_,_,_,q3,λxs e os L=>turn_none1 X hn hl (ib hi).1 rfl H.D H.B rfl I.hs2 H.hn I.ne lg H.ht (ib hi).2 h (ap0 (.empty (by decide) rfl)) q1 q2 L⟩
 ·exact ⟨_,_,_,_,_,_,q3,λxs e os L=>turn_none2 X hn hl (ib hi).1 rfl H.D H.B rfl I.hs2 H.hn I.ne lg H.ht (ib hi).2 h (ap0 (.bad (by decide) (by simp) ((c_decode_more X (z:=0) B.k7 B.n B.ke7 B.wo7 B.so).up))) q1 q2 L⟩
 ·exact ⟨_,_,_,_,_,_,q3,λxs e os L=>turn_none3 X hn hl (ib hi).1 rfl H.D H.B rfl I.hs2 H.hn I.ne lg H.ht (ib hi).2 h (ap0 (.bad (by decide) (by unfold cmdB;cases wh <;> exact nofun) (c_decode_less X B.k7 B.n B.ke7 B.wo7 B.so))) q1 q2 L⟩
 ·exact ⟨_,_,_,_,_,_,q3,λxs e os L=>turn_none4 X hn hl (ib hi).1 rfl H.D H.B rfl I.hs2 H.hn I.ne lg H.ht (ib hi).2 h (ap0 (.bad (by decide) (by unfold cmdB;exact nofun) ((c_decode_kind X (by decide) B.n B.ke7 B.wo7 B.so).up))) q1 q2 L⟩
 ·exact ⟨_,_,_,_,_,_,q3,λxs e os L=>turn_none5 X hn hl (ib hi).1 rfl H.D H.B rfl I.hs2 H.hn I.ne lg H.ht (ib hi).2 h (ap0 (.conf rfl)) q1 q2 L⟩
end
end
section
open PySem PySem.W PyProof.Rows
theorem sl_take{α:Type}{l:List α}{j:Nat}(h:j<=l.length):sl l none (some (j:Int))=l.take j:=by
 have e:zbT l.length (j:Int)=j:=by
  unfold zbT;rw[nlti (show (0:Int)<=(j:Int) by lia),cond_false]
  by_cases q:(l.length:Int)<(j:Int)
  ·lia
  ·rw[nlti (by lia)];rfl
 unfold sl;simp only[e];rw[List.drop_zero];rfl
section
variable{cx:Cx}{P:PySem.Params}(X:On cx P)
include X
theorem step_cut{ns nums:List Int}{i:Nat}{m:MM}{s:SO}{log:List (Int×Int)}{done:List Row}{hs:List Int}{safe:Int}(I:Inv i m s log done hs safe)(hi:1<=i/\i<=5)(hn:nums≠[])(hl:nums.length<=7)(ha:(zaP nums (1+(i:Int))).fmod 10=0):Stp cx ns nums i m s log done hs safe:=by
 obtain ⟨k,st,n,t,wh,ke,wo,ex,H⟩:=hd_of I hi.2 ha;have hl1:=I.len;have l0:=zeU log;have l1:=I.h.len;have sf:=I.sf;have y0:0<=((zaP nums (1+(i:Int))).fdiv 10).fmod (lenI log - safe+1):=Int.fmod_nonneg_of_pos _ (by lia)
 have y1:((zaP nums (1+(i:Int))).fdiv 10).fmod (lenI log - safe+1)<lenI log - safe+1:=Int.fmod_lt_of_pos _ (by lia)
 obtain ⟨j,hj⟩:∃j:Nat,safe+((zaP nums (1+(i:Int))).fdiv 10).fmod (lenI log - safe+1)=(j:Int):=⟨(safe+((zaP nums (1+(i:Int))).fdiv 10).fmod (lenI log - safe+1)).toNat,by lia⟩
 have e0:lenI s.bats=lenI log:=by unfold lenI;rw[l1.1]
 have j1:j<=log.length:=by lia
 have j0:1<=j:=by lia
 have lg:=I.lg (Nat.le_succ_of_le hi.2);have j7:0<=(j:Int)/\(j:Int)<128:=by lia
 have jb:j<=s.bats.length:=by rw[l1.1];exact j1
 have ne1:lenI log - safe+1≠0:=by lia
 have hc:=I.h.cut j j0 jb;obtain ⟨St',dk,pb⟩:=hc.st;have hsum:=I.h.sum j;have c1:=c_cut X (s:=s) (y:=(zaP nums (1+(i:Int))).fdiv 10) (j:=j) (by rw[I.kept,e0];exact hj) jb (by rw[I.kept,e0];exact ne1) (by rw[l1.1] at hsum;lia) (by rw[l1.1];lia)
 have elen:(log.take j).length=j:=by rw[List.length_take];exact Nat.min_eq_left j1
 have elI:lenI (log.take j)=(j:Int):=by unfold lenI;rw[elen]
 rw[elen] at St' dk pb;have pt:=pb.t;have ld:=c_load X (m:=⟨0,0,[],0,m.sync⟩) (s:=(SO.replay (s.bats.take j)).sync) (i:=(j:Int)) (t:=(zaD (log.take j)).1) (zeG pb.m).2 j7 (by lia) St'.row
 have eb:(SO.replay (s.bats.take j)).sync.bats=s.bats.take j:=replay_bats _
 have ek:(SO.replay (s.bats.take j)).sync.kept=(j:Int):=by
  show lenI (SO.replay (s.bats.take j)).bats=_
  rw[replay_bats];unfold lenI;rw[List.length_take,Nat.min_eq_left jb]
 have em:MM.mark ⟨(j:Int),(zaD (log.take j)).1,zaE (memL (zaD (log.take j)).2),bif ltI (j:Int) 0 then (j:Int) else 0,m.sync⟩ (SO.replay (s.bats.take j)).sync=⟨(j:Int),(zaD (log.take j)).1,zaE (memL (zaD (log.take j)).2),(j:Int),m.sync⟩:=by
  unfold MM.mark;rw[show eqI (SO.replay (s.bats.take j)).sync.kept (lenI (SO.replay (s.bats.take j)).sync.bats)=true from decide_eq_true rfl];rfl
 rw[em] at ld
 have J:Inv (i+1) ⟨(j:Int),(zaD (log.take j)).1,zaE (memL (zaD (log.take j)).2),(j:Int),m.sync⟩ (SO.replay (s.bats.take j)).sync (log.take j) (upToR done (j:Int)) hs (j:Int):=by
  refine ⟨by rw[eb];exact hc,by rw[eb];rfl,elI.symm,rfl,rfl,ek,rfl,⟨by lia,by rw[elI];exact Int.le_refl _⟩,by lia,I.hs2,λx hx=>by have:=I.hsb x hx;lia,λ_=>elI.symm⟩
 have hm:=J.mark;have hmem:=pb.m
 exact ⟨_,_,_,_,_,_,J,λxs e os L=>turn_cut X hn hl (ib hi).1 rfl H.D (ib hi).2 (by have:=I.h.st.2.1.few;lia) hj (by lia) (sl_take (by lia)) J.ne c1 ld
  (call_tupleRange (b_tuple X) (by lia) (by lia) (by decide)) (agree_ok X J (by lia)) (by rw[hm];exact J.ap) (by rw[hm]) (by rw[hm];exact L)⟩
theorem step{ns nums:List Int}{i:Nat}{m:MM}{s:SO}{log:List (Int×Int)}{done:List Row}{hs:List Int}{safe:Int}(I:Inv i m s log done hs safe)(hi:1<=i/\i<=5)(hn:nums≠[])(hl:nums.length<=7):Stp cx ns nums i m s log done hs safe:=by
 have h0:0<=(zaP nums (1+(i:Int))).fmod 10:=Int.fmod_nonneg_of_pos _ (by decide)
 have:(zaP nums (1+(i:Int))).fmod 10=0\/(zaP nums (1+(i:Int))).fmod 10=1\/(zaP nums (1+(i:Int))).fmod 10=2\/(zaP nums (1+(i:Int))).fmod 10=3\/3<(zaP nums (1+(i:Int))).fmod 10:=by lia
 rcases this with h|h|h|h|h
 ·exact step_cut X I hi hn hl h
 ·exact step_sync X I hi hn hl h
 ·exact step_gap X I hi hn hl h
 ·exact step_none X I hi hn hl h
 ·exact step_tell X I hi hn hl h
noncomputable def Fin'(cx:Cx)(ns nums:List Int)(xs:List DV)(safe:Int)(os:Objs):Prop:=
 ∃m' s' log' done' hs' safe',Inv 6 m' s' log' done' hs' safe'/\LW cx xs safe os (LE safe') (LO ns nums m' s' log' done' hs')
theorem fin_end{ns nums:List Int}{m:MM}{s:SO}{log:List (Int×Int)}{done:List Row}{hs:List Int}{safe:Int}(I:Inv 6 m s log done hs safe):Fin' cx ns nums [] safe (LO ns nums m s log done hs):=
 ⟨_,_,_,_,_,_,I,.done (κ:=kap) (ns:=nms) rfl (by kernel_rfl)⟩
theorem zhD{ns nums:List Int}{i:Nat}{xs:List DV}{m:MM}{s:SO}{log:List (Int×Int)}{done:List Row}{hs:List Int}{safe:Int}(I:Inv i m s log done hs safe)(hi:1<=i/\i<=5)(hn:nums≠[])(hl:nums.length<=7)
  (h:∀m s log done hs safe,Inv (i+1) m s log done hs safe->Fin' cx ns nums xs safe (LO ns nums m s log done hs)):Fin' cx ns nums (.int (i:Int)::xs) safe (LO ns nums m s log done hs):=by
 obtain ⟨m',s',log',done',hs',safe',J,g⟩:=step X (ns:=ns) I hi hn hl;obtain ⟨m2,s2,log2,done2,hs2,safe2,J2,L⟩:=h _ _ _ _ _ _ J;exact ⟨m2,s2,log2,done2,hs2,safe2,J2,g _ _ _ L⟩
theorem fin_all{ns nums:List Int}{m:MM}{s:SO}{log:List (Int×Int)}{done:List Row}{hs:List Int}{safe:Int}(I:Inv 1 m s log done hs safe)(hn:nums≠[])(hl:nums.length<=7):Fin' cx ns nums [.int 1,.int 2,.int 3,.int 4,.int 5] safe (LO ns nums m s log done hs):=
 zhD X (i:=1) I (by decide) hn hl λ_ _ _ _ _ _ I=>zhD X (i:=2) I (by decide) hn hl λ_ _ _ _ _ _ I=>zhD X (i:=3) I (by decide) hn hl λ_ _ _ _ _ _ I=>zhD X (i:=4) I (by decide) hn hl λ_ _ _ _ _ _ I=>zhD X (i:=5) I (by decide) hn hl λ_ _ _ _ _ _ I=>fin_end X I
theorem inv0(z:Bool):Inv 0 (M2 z) S1 [(1,1)] [] [0,0] 1:=by
 refine ⟨.one,by kernel_rfl,rfl,rfl,rfl,rfl,rfl,by decide,by decide,rfl,λx hx=>?_,λ_=>rfl⟩
 simp at hx
 subst hx
 decide
end
end
section
open PySem PySem.W PyProof.Rows
theorem told_first(ke:Byt)(ex:Option Byt):(zcP [] (cliN false) 0 5 ke ex).2.2=true:=rfl
section
variable{cx:Cx}{P:PySem.Params}(X:On cx P)
include X
theorem loop0{ns n7 nums:List Int}{v:Int}{z:Bool}(hn:nums≠[])(hl:nums.length<=7):∃m' s' log' done' hs' safe',Inv 6 m' s' log' done' hs' safe' /\
  LR cx (za2 90) 8 1 0 lawS (.d (.rng 0 6 1)) (upTo 0 6) (upTo 0 6) (E0 0 ns v 1) (O0 [] 0 ns n7 nums (M2 z) S1 [1] [2] [(1,1)] [] [0,0]) .next (LE safe') (LO ns nums m' s' log' done' hs'):=by
 have I:=inv0 X z;obtain ⟨k0,st0,w0,ke,wo,ex,D,bk,bs,bke,bwo,bex⟩:=draws (zaP nums (1+0));have B:CB 5 0 ke wo ex:=⟨by decide,by decide,by rcases bke with rfl|rfl <;> decide,bwo,bex⟩
 have tb:=t_b ((zaP nums (1+0)).fdiv 10);have lt:(zaD [((1:Int),(1:Int))]).1=1:=rfl;have dk:=I.h.st.2.1;obtain ⟨od,ho,hc⟩:=c_told X (done:=[]) (c:=cliN false) (n:=0) (k:=5) (key:=ke) (e:=ex) (by decide) λ_ q=>nm q
 have hap:=tell_pair X (wh:=false) (n:=0) (k:=5) (t:=(zaD [((1:Int),(1:Int))]).1+(((zaP nums (1+0)).fdiv 10).fdiv 3).fmod 2) I (by decide) B bke (by lia)
 obtain ⟨q1,q2,q3⟩:=tell_inv (wh:=false) (n:=0) (k:=5) (t:=(zaD [((1:Int),(1:Int))]).1+(((zaP nums (1+0)).fdiv 10).fdiv 3).fmod 2) (hs':=nextH [0,0] 0 0) I (by decide) B bke (by lia) rfl (nextH_b I.hsb (by decide))
 have tk:=told_ok (n:=0) (w:=false) (wo:=wo) (ex:=ex) (k:=5) dk (by decide) B.k (I.st.val ke bke)
 rw[told_first ke ex] at hc q3;obtain ⟨m',s',log',done',hs',safe',J,L⟩:=fin_all X (ns:=ns) (nums:=nums) q3 hn hl;exact ⟨m',s',log',done',hs',safe',J,turn_first0 X (v:=v) (n7:=n7) (l1:=[1]) (l2:=[2]) hn hl rfl D B rfl rfl (by decide) (by decide) (by decide) rfl hc ho hap tk.1 (λb hb=>by have:=tk.2 b hb;lia) q1 q2 L⟩
theorem loop1{ns n7 nums:List Int}{v:Int}{z:Bool}(hn:nums≠[])(hl:nums.length<=7):∃m' s' log' done' hs' safe',Inv 6 m' s' log' done' hs' safe' /\
  LR cx (za2 90) 8 1 0 lawS (.d (.rng 0 6 1)) (upTo 0 6) (upTo 0 6) (E0 1 ns v 1) (O0 [.tl .int []] 1 ns n7 nums (M2 z) S1 [1] [2] [(1,1)] [] [0,0]) .next (LE safe') (LO ns nums m' s' log' done' hs'):=by
 have I:=inv0 X z;obtain ⟨k0,st0,w0,ke,wo,ex,D,bk,bs,bke,bwo,bex⟩:=draws (zaP nums (1+0));have B:CB 5 0 ke wo ex:=⟨by decide,by decide,by rcases bke with rfl|rfl <;> decide,bwo,bex⟩
 have tb:=t_b ((zaP nums (1+0)).fdiv 10);have lt:(zaD [((1:Int),(1:Int))]).1=1:=rfl;have dk:=I.h.st.2.1;obtain ⟨od,ho,hc⟩:=c_told X (done:=[]) (c:=cliN false) (n:=0) (k:=5) (key:=ke) (e:=ex) (by decide) λ_ q=>nm q
 have hap:=tell_pair X (wh:=false) (n:=0) (k:=5) (t:=(zaD [((1:Int),(1:Int))]).1+(((zaP nums (1+0)).fdiv 10).fdiv 3).fmod 2) I (by decide) B bke (by lia)
 obtain ⟨q1,q2,q3⟩:=tell_inv (wh:=false) (n:=0) (k:=5) (t:=(zaD [((1:Int),(1:Int))]).1+(((zaP nums (1+0)).fdiv 10).fdiv 3).fmod 2) (hs':=nextH [0,0] 0 0) I (by decide) B bke (by lia) rfl (nextH_b I.hsb (by decide))
 have tk:=told_ok (n:=0) (w:=false) (wo:=wo) (ex:=ex) (k:=5) dk (by decide) B.k (I.st.val ke bke)
 rw[told_first ke ex] at hc q3;obtain ⟨m',s',log',done',hs',safe',J,L⟩:=fin_all X (ns:=ns) (nums:=nums) q3 hn hl;exact ⟨m',s',log',done',hs',safe',J,turn_first1 X (v:=v) (n7:=n7) (l1:=[1]) (l2:=[2]) hn hl rfl D B rfl rfl (by decide) (by decide) (by decide) rfl hc ho hap tk.1 (λb hb=>by have:=tk.2 b hb;lia) q1 q2 L⟩
omit X in
theorem sl7_len(ns:List Int):(sl ns none (some 7)).length<=7:=by
 unfold sl;rw[List.length_take]
 have:zbT ns.length 7<=7:=by
  unfold zbT;rw[nlti (show (0:Int)<=7 by decide),cond_false]
  by_cases q:(ns.length:Int)<7
  ·rw[lti q];simp only[cond_true];lia
  ·rw[nlti (by lia)];exact Nat.le_refl 7
 dsimp only;lia
theorem c_law(ns:List Int):LawRuns cx ns:=by
 have h7':=sl7_len ns;by_cases h:sl ns none (some 7)=[]
 ·obtain ⟨m',s',log',done',hs',safe',J,L⟩:=loop1 X (ns:=ns) (n7:=sl ns none (some 7)) (nums:=[8]) (v:=zaP [8] 0) (z:=eqI ((zaP [8] 0).fmod 3) 1) (by decide) (by decide)
  have hm:=has_mod X (ns:=ns) (n7:=sl ns none (some 7)) (by lia)
  rw[show ((sl ns none (some 7)).map (·.fmod 999983))=[] by rw[h];rfl] at hm
  exact c_law1 X rfl hm (by decide) L (agree_ok X J (by decide))
 ·obtain ⟨m',s',log',done',hs',safe',J,L⟩:=loop0 X (ns:=ns) (n7:=sl ns none (some 7)) (nums:=(sl ns none (some 7)).map (·.fmod 999983)) (v:=zaP ((sl ns none (some 7)).map (·.fmod 999983)) 0) (z:=eqI ((zaP ((sl ns none (some 7)).map (·.fmod 999983)) 0).fmod 3) 1) (λe=>h (List.map_eq_nil_iff.mp e)) (by rw[List.length_map];exact h7')
  exact c_law0 X rfl (has_mod X (by lia)) (λe=>h (List.map_eq_nil_iff.mp e)) (by rw[List.length_map];exact h7') L (agree_ok X J (by decide))
end
end
section
open PySem PySem.W PyProof.Rows PySem.SeqAt
open Sem (wp)
noncomputable abbrev FCg(cx:Cx)(qual:Str)(sc:Scope)(fa:Addr)(cdv:Value)(n:Nat)(s:Shared)(hk:sc.kind=.function):FC:=
 {cx:=cx,A₀:=callerA,g₀:=s.heap,outer:=[],L:=s.heap.objs.size,cn:=qual,sc:=sc,fa:=fa,ccd:=cdv,news₀:=[],Z₀:=[],ρ₀:=[],μ₀:=[],s₀:=s,lev:=n,hk:=hk}
theorem below_base{b h:Heap}(e:b=h):Below callerA b [] h:=e▸below_caller b
theorem enter_ground{cx:Cx}{s:Shared}{h₁:Heap}{qual:Str}{sc:Scope}{fa:Addr}{cdv:Value}{n:Nat}{names:List Str}{avs:List AV}{vs:List Value}{cells:Led}(SF:ScFn sc names)(hb:cx.base=s.heap)
  (l1:vs.length=names.length) (l2:avs.length=names.length) (hv:∀p∈avs.zip vs,VA cx.K (Fz cx.base []) [] p.1 p.2)
  (hns:h₁.Ns s.heap.objs.size (bindL (envOfC qual sc s.heap.objs.size fa cdv).kindOf (names.zip vs) λ_=>none)) (hk₁:∀b o,s.heap.get? b=some o->h₁.get? b=some o) (NC:News s.heap s.heap.objs.size h₁ cells)
  (Y:CellsAre (bindC (envOfC qual sc s.heap.objs.size fa cdv).kindOf (names.zip vs) λ_=>none) (cellsFrom (s.heap.objs.size+1) sc.names []) cells) :
  Core (FCg cx qual sc fa cdv n s SF.kind) s.heap (bindL (envOfC qual sc s.heap.objs.size fa cdv).kindOf (names.zip vs) λ_=>none) cells [] [] [] (names.zip avs) [] [] h₁:=by
 have zn:((names.zip vs).map (·.1))=names:=by rw[List.map_fst_zip];lia
 have ck:=CellsAre.keys Y;refine {turn:=KtsTurn.refl,below:=below_base hb,above:=Nat.le_refl _,fr:=⟨hns,hk₁,Nat.le_refl _⟩,nw:=NC,rel:=?_,cells:=?_,envr:=?_,tmr:=λp hp=>(nomatch hp),kept:=?_}
 ·refine ⟨?_,λp hp=>(nomatch hp),λp hp=>(nomatch hp),λp hp=>(nomatch hp),λp hp=>(nomatch hp),List.nodup_nil,rfl,rfl,λi o ho=>by simp at ho⟩
  rw[ck];exact cells_nd _ _ _ (λp hp=>nomatch hp) List.nodup_nil
 ·intro c hc
  obtain ⟨⟨x,c'⟩,hp,rfl⟩:=List.mem_map.mp hc;refine ⟨λq=>(nomatch q),?_⟩
  obtain ⟨o,h1,h2⟩:=CellsAre.at Y hp;exact ⟨o,_,h1,h2⟩
 ·intro x av hx
  obtain ⟨v,h1,h2⟩:=zi4 l1 l2 hx;refine ⟨v,hv _ h2,?_⟩;have hxn:x∈names:=(List.of_mem_zip h1).1;rcases SF.loc x hxn with q|q
  ·exact .inl ⟨q,bindL_at q (by rw[zn];exact SF.nnd) (.inl h1)⟩
  ·obtain ⟨c,hc,_⟩:=zfZ (n:=s.heap.objs.size+1) q
   obtain ⟨o,k1,k2⟩:=CellsAre.at Y (zeC hc);refine .inr ⟨q,c,o,hc,k1,?_⟩;rw[k2,bindC_at q (by rw[zn];exact SF.nnd) (.inl h1)]
 ·exact ⟨λp hp=>(nomatch hp),λp hp=>(nomatch hp),λp hp=>(nomatch hp),List.prefix_refl _,List.prefix_refl _,λp hp=>(nomatch hp)⟩
end
section
open PySem PySem.W PyProof.Rows PySem.SeqAt
open Sem (wp)
set_option backward.match.sparseCases true in
theorem call_ground{cx:Cx}{n:Nat}{fa:Addr}{body:List Stmt}{sc:Scope}{names:List Str}{avs:List AV}{vs:List Value}{s:Shared}{d N:Nat}{ans:List Ans}{a:AV}{env':Env'}{objs':Objs}{hb':Bool}{obl:List Prop}{Q E:Value->Shared->Prop}
  (hb:cx.base=s.heap) (hD:DefAt cx.K fa body sc names []) (SF:ScFn sc names) (GK:Glob cx.K) (l2:avs.length=names.length) (lv:vs.length=avs.length) (hv:∀p∈avs.zip vs,VA cx.K (Fz cx.base []) [] p.1 p.2)
  (hrun:run (zfB cx sc n d 0) (nmsOf sc) N (.exs body) ⟨names.zip avs,[],false,ans,[]⟩=some (.fl (.ret a),⟨env',objs',hb',[],obl⟩)) (hob:Holds obl) (hn:n<=20)
  (hok:∀v h' tk' G ρ,(∀b o,s.heap.get? b=some o->h'.get? b=some o)->VA cx.K G ρ a v->Q v {s with heap:=h',toks:=tk'}):wpB cx.M callerA (call (.ref fa) vs) Q E s:=by
 obtain ⟨name,qual,params,dV,kV,doc,pm,an,cdv,ct,oc,od,osl,hlk,hcode,hbind⟩:=hD.ex;have Xh:cx.K.In s.heap:=hb▸cx.XB;have T:Top cx.p cx.loose cx.mean cx.mg cx.mb s.heap:=hb▸cx.TB;have lvn:(vs++[]).length=names.length:=by rw[List.append_nil,lv,l2]
 have lvn':vs.length=names.length:=by rw[lv,l2]
 have d0:callerA.depth=301:=rfl;have u0:callerA.units=4:=rfl;have r0:recursionLimit=1000:=rfl;have c0:cLine=9900:=rfl;refine zeO (callFnB (A:=callerA) (by lia) (Xh _ _ hlk) rfl SF.co SF.gen rfl (codeRec_of Xh hcode) (hbind s.heap _ Xh (λ_ _ e=>e) vs lvn _ _ _ _ ?_))
 rw[List.append_nil]
 have hkind:∀k,∀x∈names.zip vs,sc.names.lookup x.1=some .local\/(sc.names.lookup x.1=some .cell/\((cellsFrom k sc.names []).lookup x.1).isSome=true):=λk x hx=>
  (SF.loc x.1 (List.of_mem_zip hx).1).imp id λq=>⟨q,cellsFrom_some _ _ _ (.inl q)⟩
 refine wpAny_newFunctionEnv_cells SF.kind (hkind _) λenv1 he s1 x=>?_
 subst he;refine ⟨T.nolimit.keeps x.toInCall.keep,funcB ?_⟩;obtain ⟨h₁,tk1,rfl,_⟩:=x.done;obtain ⟨cells,NC,Y⟩:=Cl.news (h₀:=s.heap) (Nat.le_refl _) λn c hm=>⟨x.cell n c (lookup_of_mem_nodup (cellsFrom_names sc.names 0 (s.heap.objs.size+1) [] [] rfl▸SF.cnd) hm),x.above n c hm⟩
 have C0:=enter_ground (cx:=cx) (s:=s) (n:=n) (qual:=qual) (fa:=fa) (cdv:=cdv) SF hb lvn' l2 hv x.toInCall.ns x.toInCall.keep NC Y;generalize hf':FCg cx qual sc fa cdv n s SF.kind=f' at C0;have e1:f'.cx=cx:=by rw[←hf']
 have e2:f'.s₀=s:=by rw[←hf']
 have e3:f'.env=envOfC qual sc s.heap.objs.size fa cdv:=by rw[←hf']
 have e4:f'.outer=[]:=by rw[←hf']
 have e5:f'.g₀=s.heap:=by rw[←hf']
 have e6:f'.lev=n:=by rw[←hf']
 have e7:f'.fs=[]:=by rw[←hf'];rfl
 have hA':AOK f' false (callerA.deeper f'.env):=by
  refine ⟨?_,?_,?_,λ_=>rfl,rfl⟩
  ·show some (f'.env::[])=_
   rw[e4]
  ·show callerA.depth+1+f'.lev<=_
   lia
  ·show callerA.units+3+8*f'.lev+100<_
   lia
 have FO:FOK cx sc n 0 f':=⟨e1,by rw[←hf'],by rw[←hf'];exact Nat.le_refl _,by rw[←hf'];exact Nat.le_refl _,by rw[←hf'];exact Nat.le_refl _⟩
 obtain ⟨z1,z2,z3⟩:=(runRuns (laws_at GK SF.toScOK d 0 f' FO) N).I.exs body ⟨names.zip avs,[],false,ans,[]⟩ _ _ hrun;have M1:f'.M=cx.M:=by show model f'.cx.prog f'.cx.w=_;rw[e1]
 have C1:Cfg f' (names.zip avs) [] [] {s with heap:=h₁,toks:=tk1}:=⟨h₁,tk1,_,_,_,_,_,_,by rw[e2],C0⟩
 have key:=z3 hob (callerA.deeper f'.env) hA' {s with heap:=h₁,toks:=tk1} (λfl s'=>match (match fl with|.ret v=>v|_=>Value.none) with|v=>Q v s')
  (λe s'=>wpAny cx.M (callerA.deeper f'.env) (leaving f'.env e) (λ_ s''=>E e s'') (λe' s''=>E e' s'') s') C1 ?_
 ·rw[M1,e3] at key
  exact key
 ·intro v s' C
  obtain ⟨h',tk',gc',m',news',Z',ρ',μ',rfl,c'⟩:=C;have hva:=c'.tmr _ (.head _);rw[e1] at hva;rw[e2];refine hok v h' tk' _ _ (λb o e=>c'.fr.keep b o ?_) hva
  have t:=c'.turn;rw[e5,e7] at t;exact t.other b o e (λq=>nomatch q)
end
section
open PySem PySem.W PyProof.Rows PySem.Calls
theorem items_int{R:WRecords}:∀{xs:List WData},WShape.hasItems R xs .int=true->∃ns:List Int,xs=ns.map .int:=by
 intro l;induction l with
 |nil=>exact @λ_=>⟨[],rfl⟩
 |cons x r ih=>
  intro h;have h:(WShape.has R x .int&&WShape.hasItems R r .int)=true:=h;obtain ⟨h1,h2⟩:=Bool.and_eq_true_iff.mp h;obtain ⟨i,rfl⟩:=hasW_int h1;obtain ⟨ns,rfl⟩:=ih h2;exact ⟨i::ns,rfl⟩
theorem most_of(xs:List WData)(h2:(lr:OpenRow).pre.holds [] {args:=[.list xs]}=true):xs.length<=63:=by
 have h2:(WTm.and (.not (.lt (.lit (.int 63)) (.len (.arg 0)))) (.lit (.bool true))).holds [] {args:=[.list xs]}=true:=h2;unfold WTm.holds at h2;simp only[WTm.value,List.getElem?_cons_zero] at h2;have e:less? (WData.int 63) (WData.int ↑xs.length)=some (decide ((63:Int)<xs.length)):=rfl;rw[e] at h2;by_cases q:(63:Int)<xs.length
 ·rw[decide_eq_true q] at h2
  exact ff h2
 ·lia
theorem script_of{args:List WData}(h:lr.claim.pre args=true):∃ns:List Int,args=[.list (ns.map .int)]/\ns.length<=63:=by
 obtain ⟨h1,h2⟩:=pre_splitW (r:=lr.toRowW) h;have h1:WShape.hasAll [] args [.list .int]=true:=h1
 match args,h1 with
 |x::r,h1=>
  have h1:(WShape.has [] x (.list .int)&&WShape.hasAll [] r [])=true:=h1;obtain ⟨a,b⟩:=Bool.and_eq_true_iff.mp h1;obtain ⟨xs,rfl,hx⟩:=hasW_list a;obtain ⟨ns,rfl⟩:=items_int hx
  match r,b with
  |[],_=>
   refine ⟨ns,rfl,?_⟩;have:=most_of _ h2
   rwa [List.length_map] at this
noncomputable def RW1(R:WRecords)(cl:Str->Option Addr)(h:Heap)(v:Value):WData->Prop
 |.int i=>∃t,v=.int i t
 |.list ds=>∃a o vs n as,v=.ref a/\h.get? a=some o/\o.cls=.type "list"/\o.data=.seq vs n/\ReadsAllW R cl h vs.toList ds as
 |_=>True
noncomputable def RW2(R:WRecords)(cl:Str->Option Addr)(h:Heap)(vs:List Value):List WData->Prop
 |[]=>vs=[]
 |d::ds=>∃v vs' as,vs=v::vs'/\RW1 R cl h v d/\ReadsAllW R cl h vs' ds as
section
variable{R:WRecords}{cl:Str->Option Addr}{h:Heap}
theorem rdw{v:Value}{d:WData}{as:List Addr}(r:ReadsW R cl h v d as):RW1 R cl h v d:=by
 induction r using ReadsW.casesOn with
 |int _ t=>exact ⟨t,rfl⟩
 |list a b c d=>exact ⟨_,_,_,_,_,rfl,a,b,c,d⟩
 |_=>exact True.intro
theorem rdws{vs:List Value}{ds:List WData}{as:List Addr}(r:ReadsAllW R cl h vs ds as):RW2 R cl h vs ds:=by
 induction r using ReadsAllW.casesOn with
 |nil=>rfl
 |cons a b=>exact ⟨_,_,_,rfl,rdw a,b⟩
theorem reads_ints{K:Frag}{G:Addr->Obj->Prop}{ns:List Int}:∀{vs:List Value} {as:List Addr},ReadsAllW R cl h vs (ns.map .int) as->VPs K G (ns.map PV.int) vs:=by
 induction ns with
 |nil=>exact λr=>rdws r
 |cons i ns ih=>
  intro _ _ r;obtain ⟨_,_,_,e,⟨t,e2⟩,b⟩:RW2 R cl h _ (.int i::ns.map .int):=rdws r;exact ⟨_,_,e,⟨t,e2⟩,ih b⟩
theorem script_at{K:Frag}{ns:List Int}{v:Value}{as:List Addr}(hl:ns.length<=63)(r:ReadsW R cl h v (.list (ns.map .int)) as):VA K (Fz h []) [] (.d (.tl .int ns)) v:=by
 obtain ⟨a,o,vs,n,as,rfl,e,c,d,r⟩:RW1 R cl h v (.list (ns.map .int)):=rdw r;show VP K (Fz h []) (.lst (ns.map PV.int)) (.ref a)
 exact RefX.mk a o vs.toList rfl (.inr e) ⟨c,n,d⟩ (by rw[List.length_map];exact Nat.le_trans hl (by decide)) (reads_ints r)
end
theorem ends_true{r:Res}(h:Shows [] r (.ok (Bo true))):r=.fl (.ret (Bo true)):=by
 induction r with
 |fl w=>
  induction w with
  |ret a=>
   obtain ⟨a',h1,h2⟩:=h;injection h2;induction a with
   |d x=>injection h1;rfl
   |r i=>exact nn h1
  |next=>injection h
  |_=>injection h
 |exc k c=>injection h
 |_=>injection h
theorem law_post{args:List WData}:lr.claim.post args (.bool true) args=true:=postW_of (r:=lr.toRowW) rfl rfl (by decide +kernel)
theorem one_arg{R:WRecords}{cl:Str->Option Addr}{h:Heap}{vs:List Value}{d:WData}{as:List Addr}(r:ReadsAllW R cl h vs [d] as):∃v,vs=[v]/\∃as',ReadsW R cl h v d as':=by
 cases r with
 |cons r1 r2=>exact ⟨_,congrArg _ (rdws r2),_,r1⟩
theorem lawCall:LawCall:=by
 intro w s₀ s₁ mg mb T KX hg _ args vs as hpre _ hrd _ _;obtain ⟨ns,rfl,hl⟩:=script_of hpre
 let cx:Cx:={prog:=pw,w:=w,K:=kK w.params,p:=tView,loose:=looseW tView tLoose,mean:=ExcName.means s₀.heap,mg:=mg,mb:=mb,base:=s₁.heap,XB:=KX,TB:=T}
 have X:On cx w.params:=⟨rfl⟩;obtain ⟨ans,obl,ho,hf⟩:=c_law X ns;obtain ⟨r,env',objs',hb,h1,h2,h3⟩:=fin_some hf;obtain rfl:=ends_true h3;have hD:DefAt cx.K 1010 (zbM (za2 90)) (zb7 (za2 90)) ["script"] []:=defAt_of (by kernel_rfl) λname qual doc pm an cdv ct vs hv=>(arS (Q:=BA (za2 90) ["script"]) λa0=>ar0 λ_ _ _ _ _ _ _=>by kernel_rfl) vs hv name qual doc pm an cdv ct
 obtain ⟨v,rfl,as',hv⟩:=one_arg hrd;have hva:VA cx.K (Fz cx.base []) [] (.d (.tl .int ns)) v:=script_at hl hv;refine call_ground (cx:=cx) (s:=s₁) (avs:=[.d (.tl .int ns)]) rfl hD (F_law X).sc X.g rfl rfl (λp hp=>?_) h1 ho (by decide) λv h' tk' G ρ hk hv=>?_
 ·obtain rfl:=List.mem_singleton.mp hp
  exact hva
 ·have hv:v=.bool true:=hv
  subst hv;exact ⟨.inl ⟨_,.bool true,[],rfl,λ_=>rfl,(.bool true:ReadsW lr.records _ _ _ _ _),law_post,λ_=>⟨List.nodup_nil,λ_ h=>nomatch h⟩⟩,.of_keep hk,rfl,.of_eq hg⟩
end
section
open PySem PySem.W PyProof.Rows PySem.Calls
theorem lawSaid2:lw.wellSaid=true:=by
 rw[show @OpenLaw.wellSaid=@Fast.tw9446332074065402090 from Fast.te9446332074065402090]
 kernel_rfl
theorem law_holds2:lw.Holds:=holds_law lawSaid2 λk1=>⟨k1,tPromised,open_B lawCall⟩
end
end Internal
end Mine
open PySem PySem.W in
theorem PySem.Challenge.cw_no0426_01_holds : PySem.Challenge.rw_no0426_01.Holds :=
 Mine.Internal.law_holds2
