import PyProof.Rows.All
import Open.Line
import OpenK.KWalk
import OpenK.KCell
import OpenK.KList
import KE.KBytesCut
import KE.KItem
import KE.KIntText
import KE.LcSums
import KE.KSorted
import KE.BytesMake
import Wide.BytesRules
import Open.Pieces
import Open.Tops
import OpenK.KQuick
import Wide.FinOn
import PyProof.Rows.RotEnd
import PyProof.WalksMore
import PyProof.ZipIter
import PyProof.ExcBaseAll.Exception
import PyProof.InstStoreFacts
import PyProof.CompFree
import PyProof.Cells
import PySem.Challenge.RW_nn0075_01
set_option Elab.async false
set_option linter.all false
local macro_rules
 | `(⋯)=> `(by kernel_rfl)
local macro_rules
 | `(∅)=> `(by decide)
namespace Mine
section
open PySem PySem.W PySem.Calls PyProof.Rows PySem.SeqAt
set_option genInjectivity false
set_option genSizeOf false
set_option maxRecDepth 1000000
theorem aC{α:Type _}{a b:α}(h:some a=some b):a=b:=Option.some.inj h
theorem ca{a b:Bool}(h:a=true/\b=true):(a&&b)=true:=Bool.and_eq_true_iff.mpr h
theorem bG{a b:Bool}(h:(a&&b)=true):a=true/\b=true:=Bool.and_eq_true_iff.mp h
theorem aT{p:Prop}[Decidable p](h:decide p=true):p:=of_decide_eq_true h
theorem bU{p:Prop}[Decidable p](h:p):decide p=true:=decide_eq_true h
theorem bz{a b c:Nat}(h:a<=b)(g:b<=c):a<=c:=Nat.le_trans h g
theorem dt{α:Type _}{a b:α}(h:a∈ [b]):a=b:=List.mem_singleton.mp h
theorem ac{α:Sort _}{β:Sort _}{a b:α}(f:α->β)(h:a=b):f a=f b:=congrArg f h
theorem gj{α:Type _}{p:α->Bool}{l:List α}(h:l.all p=true): ∀x∈l,p x=true:=List.all_eq_true.mp h
theorem dA{a b c:Nat}(h:a<b)(g:b<=c):a<c:=Nat.lt_of_lt_of_le h g
theorem eS{a b:Nat}(h:Nat.beq a b=true):a=b:=Nat.eq_of_beq_eq_true h
theorem cW{α:Type _}{a b:α}{l:List α}(h:a∈b::l):a=b\/a∈l:=List.mem_cons.mp h
theorem ch{α:Type _}{l:List α}{i:Nat}{a:α}(h:l[i]?=some a): ∃q:i<l.length,l[i]=a:=List.getElem?_eq_some_iff.mp h
theorem gz{α:Type _}{l:List α}{i:Nat}{a:α}(h:l[i]?=some a):a∈l:=List.mem_of_getElem? h
noncomputable abbrev am:= @wpAny_bind
noncomputable abbrev bq:= @wpAny_pure
noncomputable abbrev bv:= @Heap.get?_push_of_some
noncomputable abbrev dX:= @Heap.get?_push_size
noncomputable abbrev bS:=Value->Shared->Prop
theorem so{α β:Type}{a c:α}{b d:β}(h:some (a,b)=some (c,d)):a=c/\b=d:=Prod.mk.inj (aC h)
theorem bA{α β:Type}{o:Option α}{f:α->Option β}{b:β}{p:Prop}(h:o.bind f=some b)(k: ∀a,o=some a->f a=some b->p):p:=(Option.bind_eq_some_iff.mp h).elim λa h=>k a h.1 h.2
theorem ed{α β:Type}{o:Option α}{f:α->β}{b:β}{p:Prop}(h:o.map f=some b)(k: ∀a,o=some a->f a=b->p):p:=(Option.map_eq_some_iff.mp h).elim λa h=>k a h.1 h.2
theorem Th{α β:Type}{o:Option α}{f:α->β}{g b:β}{p:Prop}(h:o.elim g f=b)(k: ∀a,o=some a->f a=b->p)(k':g=b->p):p:=by
 cases o with
 |none=>exact k' h
 |some a=>exact k a rfl h
theorem Ui{α:Type}{c}{x y:α}{p:Prop}{z:α}(h:cond c x y=z)(k:c=true->x=z->p)(k':y=z->p):p:=by
 cases c with
 |false=>exact k' h
 |true=>exact k rfl h
theorem aB{α:Type}{a:α}{p:Prop}(h:none=some a):p:=by cases h
theorem eV{α:Type}{c}{x:Option α}{p:Prop}{z:α}(h:cond c x none=some z)(k:c=true->x=some z->p):p:=Ui h k aB
theorem ml{α:Type}{c:Prop}[Decidable c]{x:Option α}{z:α}{p:Prop}(h:(if c then x else none)=some z)(k:c->x=some z->p):p:=(Classical.em c).elim (λq=>k q ((if_pos q).symm.trans h)) λq=>aB ((if_neg q).symm.trans h)
theorem F1{α:Type}{β:Sort 1}{o:Option α}{f:α->β}{g:β}{P:β->Prop}(h0:o=none->P g)(h1: ∀a,o=some a->P (f a)):P (o.elim g f):=by
 cases o with
 |none=>exact h0 rfl
 |some a=>exact h1 a rfl
theorem Ie{α:Type}{c}{y:Option α}{p:Prop}{z:α}(h:cond c none y=some z)(k':c=false->y=some z->p):p:=by
 cases c with
 |false=>exact k' rfl h
 |true=>exact aB h
theorem Px{α:Type}{x y z:α}(h:cond true x y=z):x=z:=h
theorem lg{α:Type}{a:α}{p:Prop}(h:some a=none):p:=by cases h
theorem wh{α:Type}{x:Option α}(h: ∀a,x=some a->False):x=none:=by
 cases x with
 |none=>rfl
 |some a=>exact(h a rfl).elim
theorem tf{p:Prop}(h:true=false):p:=by cases h
theorem ft{p:Prop}(h:false=true):p:=by cases h
theorem N5{α:Type}{a:α}{l:List α}{p:Prop}(h:[]=a::l):p:=by cases h
theorem ON{α:Type}{a:α}{l:List α}{p:Prop}(h:a::l=[]):p:=by cases h
theorem fP{α:Type}{a:α}{p:Prop}(h:a∈([]:List α)):p:=by cases h
inductive AV where
 |none|bool (b:Bool)|int (i:Int)|str (s:Str)|bytes (b:List UInt8)
 |cst (v:Value)|ref (k:Nat)
 |tup (l:List AV)|lst (l:List AV)
 |Tl (ks:List Str) (l:List AV)|Tz (ks:List Int) (l:List AV)|dct (ks:List (Int×Int×Int)) (l:List AV)
 |obj (C:Addr) (l:List AV)
 deriving Inhabited
abbrev aV:=List AV
inductive AO where
 |lst (l:List AV)
 |Tl (ks:List Str) (l:List AV)
 |Tz (ks:List Int) (l:List AV)
 |dct (ks:List (Int×Int×Int)) (l:List AV)
 |obj (C:Addr) (l:List AV)
 |Tg (t:AV)
 |dead
 deriving Inhabited
abbrev aX:=List AO
abbrev Gm:=Addr->Option Obj
abbrev Rm:=List (Addr×Addr)
def hM{K:Type}(R:K->Value->Prop)(hs:K->Int)(ks:List K):List DictEntry->Prop:=ks.rec (λes=>es=[]) λx _ ih es=> ∃e r,es=e::r/\R x e.key/\e.hash=hs x/\ih r
def cU(w:World):List Str->List DictEntry->Prop:=hM (λx v=> ∃t,v= .str x t) (PyData.keyHash w.params)
def iO(w:World)(a:Addr)(ks:List Str)(es:List DictEntry):Prop:=cU w ks es/\ks.Nodup/\(a==sysModules)=false
def Fj:List Int->List DictEntry->Prop:=hM (λx v=> ∃t,v= .int x t) hashInt
def iz(a:Addr)(ks:List Int)(es:List DictEntry):Prop:=Fj ks es/\ks.Nodup/\(a==sysModules)=false
noncomputable def AN:List Str:=List.map Str.ofString ["name","kinds","opcode","escape","digit","size","must","is_wide","number","places","kind","register","worth","base","index","scale","segment","operands","prefix","is_data","repeat","is_lock","rex","instruction","length","form","prefixes","begin","code_at","w","r","x","b","modrm_at","mod","reg","rm","sib","disp","width","rest_at","forms","by_name","by_code","__init__","told","has_rex","at","is_narrow","slots","take_code","take_must","has_modrm","take_modrm","has_plus"]
noncomputable def wm:List (Addr×List Nat):=[(227,[0,1,2,3,4,5,6,7,8,9]),(283,[10]),(318,[10,11]),(352,[10,12,0]),(446,[10,13,14,15,12,5,16,0]),(499,[0,17,18]),(555,[0,10,8,5]),(731,[16,19,20,21,22]),(780,[23,24,25,26]),(836,[27,26,28,29,30,31,32,3,2,6,33,34,35,36,37,38,39,40]),(1130,[41,42,43])]
noncomputable def lay(C:Addr):List Nat:=((wm.find? (·.1==C)).map (·.2)).getD []
theorem ym(h:n∈lay C): ∃x∈wm,x.1=C/\n∈x.2:=by
 unfold lay at h;cases e:wm.find? (·.1==C) with
 |none=>rw[e] at h;cases h
 |some x=>rw[e] at h;exact⟨x,List.mem_of_find?_eq_some e,eq_of_beq (List.find?_some e:),h⟩
noncomputable def AB(C:Addr)(n:Nat):List Str:=((lay C).take n).map λi=>AN.getD i Str.empty
noncomputable def mf(k:Int×Int×Int):Int:=reduceHash (Builtin.Tuple.tupleHashOf [hashInt k.1,hashInt k.2.1,hashInt k.2.2])
def gA(G:Gm):List (Int×Int×Int)->List DictEntry->Prop:=hM (λk v=> ∃p t1 t2 t3 n,v= .ref p/\G p=some {cls:= .type "tuple",data:= .seq #[.int k.1 t1,.int k.2.1 t2,.int k.2.2 t3] n}) mf
def dD(a:Addr)(G:Gm)(ks:List (Int×Int×Int))(es:List DictEntry):Prop:=gA G ks es/\ks.Nodup/\(a==sysModules)=false
def jY(G:Gm)(c:String)(R:List Value->Prop)(v:Value):Prop:= ∃a vs n,v= .ref a/\G a=some {cls:= .type c,data:= .seq (List.toArray vs) n}/\R vs
def gP(G:Gm)(K:Addr->List DictEntry->Prop)(R:List Value->Prop)(v:Value):Prop:= ∃a es n,v= .ref a/\G a=some (dictOf es n)/\K a es/\R (es.map (·.val))
mutual
def ar(w:World)(G:Gm)(ρ:Rm):AV->Value->Prop
 | .none,v=>v= .none
 | .bool b,v=>v= .bool b
 | .int i,v=> ∃t,v= .int i t
 | .str x,v=> ∃t,v= .str x t
 | .bytes b,v=> ∃t,v= .bytes b.toArray t
 | .cst c,v=>v=c
 | .ref k,v=> ∃p,ρ[k]?=some p/\v= .ref p.1
 | .tup l,v=>jY G "tuple" (ag w G ρ l) v
 | .lst l,v=>jY G "list" (ag w G ρ l) v
 | .Tl ks l,v=>gP G (λa=>iO w a ks) (ag w G ρ l) v
 | .Tz ks l,v=>gP G (λa=>iz a ks) (ag w G ρ l) v
 | .dct ks l,v=>gP G (λa=>dD a G ks) (ag w G ρ l) v
 | .obj C l,v=> ∃a d es n,v= .ref a/\G a=some {cls:= .ref C,dict:=some d}/\G d=some (dictOf es n)/\cU w (AB C l.length) es/\ag w G ρ l (es.map (·.val))
def ag(w:World)(G:Gm)(ρ:Rm):aV->List Value->Prop
 | [],vs=>vs=[]
 |a::l,vs=> ∃v r,vs=v::r/\ar w G ρ a v/\ag w G ρ l r
end
def dF(G G':Gm):Prop:= ∀b o,G b=some o->G' b=some o
theorem dF.rfl{G}:dF G G:=λ_ _ e=>e
theorem dF.trans{G G' G''}(x:dF G G')(y:dF G' G''):dF G G'':=λb o e=>y b o (x b o e)
def fk(ρ ρ':Rm):Prop:= ∀(k:Nat) (p:Addr×Addr),ρ[k]?=some p->ρ'[k]?=some p
theorem fk.rfl{ρ}:fk ρ ρ:=λ_ _ e=>e
theorem fk.trans{a b c}(x:fk a b)(y:fk b c):fk a c:=λk p e=>y k p (x k p e)
theorem fk.app{ρ t}:fk ρ (ρ++t):=λk p e=>by
 rw[List.getElem?_append_left (ch e).1];exact e
theorem hM.mono{K:Type}{R R':K->Value->Prop}{hs:K->Int}(h: ∀k v,R k v->R' k v){ks}: ∀{es},hM R hs ks es->hM R' hs ks es:=by
 induction ks with
 |nil=>exact id
 |cons x ks ih=>
  intro es q;obtain⟨e,r,e1,k,eh,q⟩:=q;exact⟨e,r,e1,h _ _ k,eh,ih q⟩
theorem gA.mono{G G'}(g:dF G G'){ks es}(h:gA G ks es):gA G' ks es:=hM.mono (λk v h=>by
 obtain⟨p,t1,t2,t3,n,e,q⟩:=h;exact⟨p,t1,t2,t3,n,e,g _ _ q⟩) h
theorem dD.mono{a}{G G'}(g:dF G G'){ks es}(h:dD a G ks es):dD a G' ks es:=⟨h.1.mono g,h.2⟩
theorem jY.mono{G G'}{c}{R R':List Value->Prop}{v}(g:dF G G')(r: ∀{vs},R vs->R' vs)(h:jY G c R v):jY G' c R' v:=by
 obtain⟨a,vs,n,e,h,x⟩:=h;exact⟨a,vs,n,e,g _ _ h,r x⟩
theorem gP.mono{G G'}{K K':Addr->List DictEntry->Prop}{R R':List Value->Prop}{v}(g:dF G G')(k: ∀{a es},K a es->K' a es)(r: ∀{vs},R vs->R' vs)(h:gP G K R v):gP G' K' R' v:=by
 obtain⟨a,es,n,e,h,q,x⟩:=h;exact⟨a,es,n,e,g _ _ h,k q,r x⟩
section
variable {w:World} {G G':Gm} {ρ ρ':Rm} (g:dF G G') (r:fk ρ ρ')
def L1(w:World)(G G':Gm)(ρ ρ':Rm)(a:AV):Prop:= ∀{v:Value},ar w G ρ a v->ar w G' ρ' a v
def GZ(w:World)(G G':Gm)(ρ ρ':Rm)(l:aV):Prop:= ∀{vs:List Value},ag w G ρ l vs->ag w G' ρ' l vs
include g r
theorem ag.U3(l)(ih: ∀a∈l,L1 w G G' ρ ρ' a):GZ w G G' ρ ρ' l:=by
 induction l with
 |nil=>exact id
 |cons a l ihl=>
  intro vs h;obtain⟨v,t,e,h,x⟩:=h;exact⟨v,t,e,ih a (.head _) h,ihl (λb hb=>ih b (.tail _ hb)) x⟩
theorem ar.mono: ∀(a:AV) {v:Value},ar w G ρ a v->ar w G' ρ' a v:=
 AV.rec (motive_1:=L1 w G G' ρ ρ') (motive_2:=GZ w G G' ρ ρ') id (λ_=>id) (λ_=>id) (λ_=>id) (λ_=>id) (λ_=>id) (λ_ _ h=>h.imp λ_ h=>⟨r _ _ h.1,h.2⟩)
  (λ_ ih _ h=>jY.mono g ih h) (λ_ ih _ h=>jY.mono g ih h) (λ_ _ ih _ h=>gP.mono g id ih h) (λ_ _ ih _ h=>gP.mono g id ih h) (λ_ _ ih _ h=>gP.mono g (dD.mono g) ih h)
  (λC l ih v h=>by
   obtain⟨a,d,es,n,e,h,h2,k,x⟩:=h;exact⟨a,d,es,n,e,g _ _ h,g _ _ h2,k,ih x⟩) id (λ_ _ h1 h2 _ h=>by
   obtain⟨v,t,e,h,x⟩:=h;exact⟨v,t,e,h1 h,h2 x⟩)
theorem ag.mono(l): ∀{vs:List Value},ag w G ρ l vs->ag w G' ρ' l vs:=ag.U3 g r l λa _=>ar.mono g r a
end
section
variable {w:World} {G:Gm} {ρ:Rm}
theorem ag.length{l}: ∀{vs:List Value},ag w G ρ l vs->vs.length=l.length:=by
 induction l with
 |nil=>exact λh=>ac List.length h
 |cons a l ih=>
  intro vs h;obtain⟨v,r,e,_,x⟩:=h;exact e▸ac Nat.succ (ih x)
theorem ag.get{l}: ∀{vs:List Value} {i:Nat} {a:AV},ag w G ρ l vs->l[i]?=some a-> ∃v,vs[i]?=some v/\ar w G ρ a v:=by
 induction l with
 |nil=>exact λ_ q=>aB q
 |cons b l ih=>
  intro vs i a h q;obtain⟨v,r,rfl,h,x⟩:=h;cases i with
  |zero=>exact⟨v,rfl,aC q▸h⟩
  |succ i=>exact ih (i:=i) x q
theorem ag.append{l l'}{vs'}: ∀{vs:List Value},ag w G ρ l vs->ag w G ρ l' vs'->ag w G ρ (l++l') (vs++vs'):=by
 induction l with
 |nil=>exact λh y=>(h:_=_)▸y
 |cons a l ih=>
  intro vs h y;obtain⟨v,r,rfl,h,x⟩:=h;exact⟨v,_,rfl,h,ih x y⟩
theorem ag.one{a}{v}(h:ar w G ρ a v):ag w G ρ [a] [v]:=⟨v,[],rfl,h,rfl⟩
theorem ag.set{l}: ∀{vs:List Value} {a:AV} {v:Value} (i:Nat),ag w G ρ l vs->ar w G ρ a v->ag w G ρ (l.set i a) (vs.set i v):=by
 induction l with
 |nil=>exact λi h _=>(h:_=_)▸rfl
 |cons b l ih=>
  intro vs a v i h y;obtain⟨u,r,rfl,h,x⟩:=h;cases i with
  |zero=>exact⟨v,r,rfl,y,x⟩
  |succ i=>exact⟨u,_,rfl,h,ih i x y⟩
theorem ag.take{l}: ∀{vs:List Value} (i:Nat),ag w G ρ l vs->ag w G ρ (l.take i) (vs.take i):=by
 induction l with
 |nil=>exact λi h=>(h:_=_)▸by cases i<;>rfl
 |cons b l ih=>
  intro vs i h;obtain⟨u,r,rfl,h,x⟩:=h;cases i with
  |zero=>rfl
  |succ i=>exact⟨u,_,rfl,h,ih i x⟩
theorem ag.drop{l}: ∀{vs:List Value} (i:Nat),ag w G ρ l vs->ag w G ρ (l.drop i) (vs.drop i):=by
 induction l with
 |nil=>exact λi h=>(h:_=_)▸by cases i<;>rfl
 |cons b l ih=>
  intro vs i h;obtain⟨u,r,rfl,h',x⟩:=id h;cases i with
  |zero=>exact h
  |succ i=>exact ih i x
end
noncomputable def fp:AO->Addr×Addr->List Addr
 | .lst _,p=>[p.1]
 | .Tl _ _,p=>[p.1]
 | .Tz _ _,p=>[p.1]
 | .dct _ _,p=>[p.1]
 | .obj _ _,p=>[p.1,p.2]
 | .Tg _,_=>[]
 | .dead,_=>[]
def bK(ρ:Rm)(σ:aX)(b:Addr):Prop:= ∃(k:Nat) (p:Addr×Addr) (o:AO),ρ[k]?=some p/\σ[k]?=some o/\b∈fp o p
def tV(h:Heap)(a:Addr)(R:List Value->Prop):Prop:= ∃vs n,h.get? a=some (listOf (List.toArray vs) n)/\R vs
def fq(h:Heap)(a:Addr)(K:List DictEntry->Prop)(R:List Value->Prop):Prop:= ∃es n,h.get? a=some (dictOf es n)/\K es/\R (es.map (·.val))
def dh(w:World)(G:Gm)(ρ:Rm)(h:Heap):AO->Addr×Addr->Prop
 | .lst l,p=>tV h p.1 (ag w G ρ l)
 | .Tl ks l,p=>fq h p.1 (iO w p.1 ks) (ag w G ρ l)
 | .Tz ks l,p=>fq h p.1 (iz p.1 ks) (ag w G ρ l)
 | .dct ks l,p=>fq h p.1 (dD p.1 G ks) (ag w G ρ l)
 | .obj C l,p=>h.get? p.1=some {cls:= .ref C,dict:=some p.2}/\p.1≠p.2/\fq h p.2 (cU w (AB C l.length)) (ag w G ρ l)
 | .Tg t,p=>ar w G ρ t (.ref p.1)
 | .dead,_=>True
theorem tV.mono{h h'}{a}{R R':List Value->Prop}(k: ∀x,h.get? a=some x->h'.get? a=some x)(r: ∀{vs},R vs->R' vs)(q:tV h a R):tV h' a R':=by
 obtain⟨vs,n,e,x⟩:=q;exact⟨vs,n,k _ e,r x⟩
theorem fq.mono{h h'}{a}{K K':List DictEntry->Prop}{R R':List Value->Prop}(k: ∀x,h.get? a=some x->h'.get? a=some x)(c: ∀{es},K es->K' es)(r: ∀{vs},R vs->R' vs)(q:fq h a K R):fq h' a K' R':=by
 obtain⟨es,n,e,y,x⟩:=q;exact⟨es,n,k _ e,c y,r x⟩
theorem dh.mono{w}{G G'}{ρ ρ'}{h h'}(g:dF G G')(r:fk ρ ρ'){o}{p:Addr×Addr}:(∀b∈fp o p,∀x,h.get? b=some x->h'.get? b=some x)->dh w G ρ h o p->dh w G' ρ' h' o p:=
 o.casesOn (motive:=λo=>(∀b∈fp o p,∀x,h.get? b=some x->h'.get? b=some x)->dh w G ρ h o p->dh w G' ρ' h' o p) (λl k s=>tV.mono (k _ (.head _)) (ag.mono g r l) s) (λ_ l k s=>fq.mono (k _ (.head _)) id (ag.mono g r l) s) (λ_ l k s=>fq.mono (k _ (.head _)) id (ag.mono g r l) s)
  (λ_ l k s=>fq.mono (k _ (.head _)) (dD.mono g) (ag.mono g r l) s) (λ_ l k s=>⟨k _ (.head _) _ s.1,s.2.1,fq.mono (k _ (.tail _ (.head _))) id (ag.mono g r l) s.2.2⟩) (λt _ s=>ar.mono g r t s) λ_ s=>s
def apart(ρ:Rm)(σ:aX):Prop:= ∀(i j:Nat) (p q:Addr×Addr) (x y:AO),ρ[i]?=some p->ρ[j]?=some q->σ[i]?=some x->σ[j]?=some y->i≠j-> ∀b∈fp x p,b∉fp y q
structure iB (w:World) (B G:Gm) (ρ:Rm) (σ:aX) (fr:List Env) (h:Heap):Prop where
 base:dF B G
 Tg: ∀b o,G b=some o->h.get? b=some o
 len:ρ.length=σ.length
 rep: ∀(k:Nat) (p:Addr×Addr) (o:AO),ρ[k]?=some p->σ[k]?=some o->dh w G ρ h o p
 TU:apart ρ σ
 off: ∀b,bK ρ σ b->G b=none
 frs: ∀e∈fr,e.scope.kind≠ .module/\ ∃L o,e.frame=some L/\h.get? L=some o/\(∀vs,o.data≠ .fields vs)/\G L=none/\ ¬bK ρ σ L
noncomputable def aG(fr:List Env):List Addr:=fr.filterMap (·.frame)
structure aH (G:Gm) (ρ:Rm) (σ:aX) (h:Heap) (G':Gm) (ρ':Rm) (σ':aX) (h':Heap) (frs Tc:List Addr):Prop where
 gl:dF G G'
 rl:fk ρ ρ'
 keep: ∀b o,h.get? b=some o-> ¬bK ρ σ b->b∉Tc-> ∃sl,h'.get? b=some {o with slots:=sl}/\(b∉frs->sl=o.slots)
 fresh: ∀b,bK ρ' σ' b->bK ρ σ b\/h.get? b=none
 Tr: ∀b o,G' b=some o->G b=some o\/bK ρ σ b\/h.get? b=none
 alive: ∀b o,h.get? b=some o-> ∃o',h'.get? b=some o'
theorem none_of{h h':Heap}(al: ∀b o,h.get? b=some o-> ∃o',h'.get? b=some o'){b:Addr}(e:h'.get? b=none):h.get? b=none:=wh λo q=>(al b o q).elim λo' e'=>lg (e'.symm.trans e)
theorem aH.rfl{G}{ρ}{σ}{h}{frs Tc}:aH G ρ σ h G ρ σ h frs Tc:=
 ⟨dF.rfl,fk.rfl,λb o e _ _=>⟨o.slots,e,λ_=>Eq.refl _⟩,λ_ x=> .inl x,λ_ _ x=> .inl x,λ_ o e=>⟨o,e⟩⟩
theorem aH.trans{G G' G'':Gm}{ρ ρ' VP:Rm}{σ σ' VQ:aX}{h h' h'':Heap}{frs Tc:List Addr}(x:aH G ρ σ h G' ρ' σ' h' frs Tc)(y:aH G' ρ' σ' h' G'' VP VQ h'' frs Tc):
  aH G ρ σ h G'' VP VQ h'' frs Tc:=
 ⟨x.gl.trans y.gl,x.rl.trans y.rl,λb o e nf np=>(x.keep b o e nf np).elim λsl q1=>(y.keep b _ q1.1 (λq=>(x.fresh b q).elim nf λz=>lg (e.symm.trans z)) np).imp λsl2 q2=>⟨q2.1,λnb=>(q2.2 nb).trans (q1.2 nb)⟩,
  λb q=>(y.fresh b q).elim (x.fresh b) λz=> .inr (none_of x.alive z),
  λb o q=>(y.Tr b o q).elim (x.Tr b o) λz=>z.elim (λz=> .inr ((x.fresh b z).imp id id)) λz=> .inr (.inr (none_of x.alive z)),
  λb o e=>(x.alive b o e).elim λo' e'=>y.alive b o' e'⟩
inductive Res (α:Type) where
 |ok (a:α)
 |exc (C:Addr)
structure St where
 loc:List (Option AV)
 S9:aX
inductive Fl where
 |next|cont|ret (v:AV)
abbrev Out(α:Type):=Option (Res α×St)
theorem Om{α:Type}{a b:α}(h:Res.ok a=Res.ok b):a=b:=by cases h;rfl
theorem Oo{α β:Type}{a b:α}{s t:β}(h:some (Res.ok a,s)=some (Res.ok b,t)):a=b/\s=t:=⟨Om (so h).1,(so h).2⟩
theorem RS{α β:Type}{a:α}{b}{s t:β}{p:Prop}(h:some (Res.ok a,s)=some (Res.exc b,t)):p:=by cases h
inductive OU where
 |len|int|str|bytes|tuple|list|any|sorted|min|abs|sum
inductive SM where
 |split0|split1|lstrip|index|append|extend|TX
inductive IK where
 |seq|enum|range|zip
inductive IE where
 |k (c:AV)
 |var (i:Nat)
 |glob (i:Nat)
 |bin (op:Operator) (a b:IE)
 |neg (i:Int)
 |nt (t:IE)
 |Td (t a b:IE)
 |lst (l:List IE)|tup (l:List IE)
 |Tl (ks:List Str) (l:List IE)
 |Tz (ks:List Int) (l:List IE)
 |cmp (op:CmpOp) (a b:IE)
 |Uh (o₁ o₂:CmpOp) (a b c:IE)
 |and (l:List IE)|or (l:List IE)
 |attr (e:IE) (n:Nat)
 |sub (e i:IE)
 |TL (e:IE) (lo hi:Option IE)
 |Tf (g:Nat) (args:List IE)
 |ccl (g:Nat) (args:List IE)
 |sup (g:Nat) (n:Nat) (args:List IE)
 |blt (b:OU) (g:Nat) (args:List IE)
 |TG (o:IE) (n:Nat) (args:List IE)
 |stm (m:SM) (o:IE) (args:List IE)
 |comp (elt:IE) (cap:List Nat) (ik:IK) (g:Nat) (src:IE) (cond:List IE)
inductive IT where
 |var (i:Nat)
 |tup (l:List IT)
 |attr (e:IE) (n:Nat)
 |sub (e i:IE)
inductive IS where
 |asg (t:IT) (e:IE)
 |exp (e:IE)
 |ret (e:IE)
 |Ud
 |Td (t:IE) (a b:List IS)
 |fr (ik:IK) (g:Nat) (es:List IE) (t:IT) (body:List IS)
 |whl (t:IE) (body:List IS)
 |cont|pass
 |TM (g:Nat) (msg:Str)
 |tri (body:List IS) (g:Nat) (i:Nat)
noncomputable def Res.Th{α:Type}{β:Sort 1}(r:Res α)(f:α->β)(g:Addr->β):β:=r.casesOn (motive:=λ_=>β) f g
noncomputable def ao{α β:Type}(x:Out α)(f:α->St->Out β):Out β:=x.bind λp=>p.1.Th (λa=>f a p.2) λC=>some (.exc C,p.2)
structure gF where
 byref:Bool
 TB:Bool
 run:aV->aX->Option (Res AV×aX)
structure Tb where
 fn:Addr->Option gF
 init:Addr->Option Addr
 mt:Addr->Nat->Option Addr
 lay:Addr->List Nat
inductive VW where
 |lst (l:aV)|tup (l:aV)|Tl (ks:List Str) (l:aV)|Tz (ks:List Int) (l:aV)|dct (ks:List (Int×Int×Int)) (l:aV)|obj (C:Addr) (l:aV)|no
noncomputable def AV.tree(x:AV):VW:=x.casesOn (motive_1:=λ_=>VW) .no (λ_=> .no) (λ_=> .no) (λ_=> .no) (λ_=> .no) (λ_=> .no) (λ_=> .no) .tup .lst .Tl .Tz .dct .obj
noncomputable def AO.vw(o:AO):VW:=o.casesOn (motive:=λ_=>VW) .lst .Tl .Tz .dct .obj AV.tree .no
noncomputable def AV.r?(x:AV):Option Nat:=x.casesOn (motive_1:=λ_=>Option Nat) .none (λ_=> .none) (λ_=> .none) (λ_=> .none) (λ_=> .none) (λ_=> .none) some (λ_=> .none) (λ_=> .none) (λ_ _=> .none) (λ_ _=> .none) (λ_ _=> .none) (λ_ _=> .none)
theorem nx{x:AV}:x.r?=some i->x= .ref i:=x.casesOn (motive_1:=λx=>x.r?=some i->x= .ref i) aB (λ_=>aB) (λ_=>aB) (λ_=>aB) (λ_=>aB) (λ_=>aB) (λ_ h=>ac _ (aC h)) (λ_=>aB) (λ_=>aB) (λ_ _=>aB) (λ_ _=>aB) (λ_ _=>aB) (λ_ _=>aB)
noncomputable def AO.f?(x:AO):Option AV:=x.casesOn (motive:=λ_=>Option AV) (λ_=> .none) (λ_ _=> .none) (λ_ _=> .none) (λ_ _=> .none) (λ_ _=> .none) some .none
theorem of_eq{x:AO}:x.f?=some i->x= .Tg i:=x.casesOn (motive:=λx=>x.f?=some i->x= .Tg i) (λ_=>aB) (λ_ _=>aB) (λ_ _=>aB) (λ_ _=>aB) (λ_ _=>aB) (λ_ h=>ac _ (aC h)) aB
noncomputable def AV.kids(x:AV):aV:=x.casesOn (motive_1:=λ_=>aV) [] (λ_=>[]) (λ_=>[]) (λ_=>[]) (λ_=>[]) (λ_=>[]) (λ_=>[]) id id (λ_ l=>l) (λ_ _=>[]) (λ_ _=>[]) (λ_ l=>l)
noncomputable def AV.Us(g:aV->aV)(x:AV):AV:=x.casesOn (motive_1:=λ_=>AV) .none .bool .int .str .bytes .cst .ref (λl=> .tup (g l)) (λl=> .lst (g l)) (λk l=> .Tl k (g l)) (λk l=> .Tz k (g l)) (λk l=> .dct k (g l)) (λk l=> .obj k (g l))
noncomputable def AO.toV(o:AO):Option (AV×aV):=o.casesOn (motive:=λ_=>Option (AV×aV)) (λl=>some (.lst l,l)) (λk l=>some (.Tl k l,l)) (λk l=>some (.Tz k l,l)) (λk l=>some (.dct k l,l)) (λk l=>some (.obj k l,l)) (λ_=>none) none
noncomputable def fz(n:Nat):AV->aX->aX:=n.rec (λ_ σ=>σ) λ_ f v σ=>v.r?.elim (v.kids.foldl (λσ v=>f v σ) σ) λk=>(σ[k]?.bind AO.toV).elim σ λp=>p.2.foldl (λσ v=>f v σ) (σ.set k (.Tg p.1))
noncomputable def rs(n:Nat)(σ:aX):AV->AV:=n.rec id λ_ f v=>v.r?.elim (v.Us (·.map f)) λk=>(σ[k]?.bind AO.f?).elim (.ref k) f
mutual
noncomputable def flat:AV->Bool
 | .ref _=>false
 | .tup l=>aM l
 | .lst l=>aM l
 | .Tl _ l=>aM l
 | .Tz _ l=>aM l
 | .dct _ l=>aM l
 | .obj _ l=>aM l
 |_=>true
noncomputable def aM:aV->Bool
 | []=>true
 |a::l=>flat a&&aM l
end
noncomputable def qX(n:Nat)(σ:aX)(o:AO):AO:=o.casesOn (motive:=λ_=>AO) (λl=> .lst (l.map (rs n σ))) (λk l=> .Tl k (l.map (rs n σ))) (λk l=> .Tz k (l.map (rs n σ))) (λk l=> .dct k (l.map (rs n σ))) (λk l=> .obj k (l.map (rs n σ))) .Tg .dead
noncomputable def du:AO->Bool
 | .lst l=>aM l
 | .Tl _ l=>aM l
 | .Tz _ l=>aM l
 | .dct _ l=>aM l
 | .obj _ l=>aM l
 |_=>true
noncomputable def jd(o:AO):AO:=o.toV.elim o λp=> .Tg p.1
noncomputable def view(σ:aX)(x:AV):VW:=x.r?.elim x.tree λk=>σ[k]?.elim .no AO.vw
noncomputable def AV.i?(x:AV):Option Int:=x.casesOn (motive_1:=λ_=>Option Int) .none (λ_=> .none) some (λ_=> .none) (λ_=> .none) (λ_=> .none) (λ_=> .none) (λ_=> .none) (λ_=> .none) (λ_ _=> .none) (λ_ _=> .none) (λ_ _=> .none) (λ_ _=> .none)
noncomputable def AV.s?(x:AV):Option Str:=x.casesOn (motive_1:=λ_=>Option Str) .none (λ_=> .none) (λ_=> .none) some (λ_=> .none) (λ_=> .none) (λ_=> .none) (λ_=> .none) (λ_=> .none) (λ_ _=> .none) (λ_ _=> .none) (λ_ _=> .none) (λ_ _=> .none)
noncomputable def AV.b?(x:AV):Option (List UInt8):=x.casesOn (motive_1:=λ_=>Option (List UInt8)) .none (λ_=> .none) (λ_=> .none) (λ_=> .none) some (λ_=> .none) (λ_=> .none) (λ_=> .none) (λ_=> .none) (λ_ _=> .none) (λ_ _=> .none) (λ_ _=> .none) (λ_ _=> .none)
noncomputable def AV.t?(x:AV):Option (aV):=x.casesOn (motive_1:=λ_=>Option (aV)) .none (λ_=> .none) (λ_=> .none) (λ_=> .none) (λ_=> .none) (λ_=> .none) (λ_=> .none) some (λ_=> .none) (λ_ _=> .none) (λ_ _=> .none) (λ_ _=> .none) (λ_ _=> .none)
noncomputable def AV.b(x:AV):Option Bool:=x.casesOn (motive_1:=λ_=>Option Bool) .none some (λ_=> .none) (λ_=> .none) (λ_=> .none) (λ_=> .none) (λ_=> .none) (λ_=> .none) (λ_=> .none) (λ_ _=> .none) (λ_ _=> .none) (λ_ _=> .none) (λ_ _=> .none)
theorem qN{x:AV}:x.b=some i->x= .bool i:=x.casesOn (motive_1:=λx=>x.b=some i->x= .bool i) aB (λ_ h=>ac _ (aC h)) (λ_=>aB) (λ_=>aB) (λ_=>aB) (λ_=>aB) (λ_=>aB) (λ_=>aB) (λ_=>aB) (λ_ _=>aB) (λ_ _=>aB) (λ_ _=>aB) (λ_ _=>aB)
noncomputable def AV.T5(x:AV):Bool:=x.casesOn (motive_1:=λ_=>Bool) true (λ_=>false) (λ_=>false) (λ_=>false) (λ_=>false) (λ_=>false) (λ_=>false) (λ_=>false) (λ_=>false) (λ_ _=>false) (λ_ _=>false) (λ_ _=>false) (λ_ _=>false)
theorem jl{x:AV}:x.i?=some i->x= .int i:=x.casesOn (motive_1:=λx=>x.i?=some i->x= .int i) aB (λ_=>aB) (λ_ h=>ac _ (aC h)) (λ_=>aB) (λ_=>aB) (λ_=>aB) (λ_=>aB) (λ_=>aB) (λ_=>aB) (λ_ _=>aB) (λ_ _=>aB) (λ_ _=>aB) (λ_ _=>aB)
theorem yv{x:AV}:x.s?=some i->x= .str i:=x.casesOn (motive_1:=λx=>x.s?=some i->x= .str i) aB (λ_=>aB) (λ_=>aB) (λ_ h=>ac _ (aC h)) (λ_=>aB) (λ_=>aB) (λ_=>aB) (λ_=>aB) (λ_=>aB) (λ_ _=>aB) (λ_ _=>aB) (λ_ _=>aB) (λ_ _=>aB)
theorem Bz{x:AV}:x.b?=some i->x= .bytes i:=x.casesOn (motive_1:=λx=>x.b?=some i->x= .bytes i) aB (λ_=>aB) (λ_=>aB) (λ_=>aB) (λ_ h=>ac _ (aC h)) (λ_=>aB) (λ_=>aB) (λ_=>aB) (λ_=>aB) (λ_ _=>aB) (λ_ _=>aB) (λ_ _=>aB) (λ_ _=>aB)
theorem yY{x:AV}:x.t?=some i->x= .tup i:=x.casesOn (motive_1:=λx=>x.t?=some i->x= .tup i) aB (λ_=>aB) (λ_=>aB) (λ_=>aB) (λ_=>aB) (λ_=>aB) (λ_=>aB) (λ_ h=>ac _ (aC h)) (λ_=>aB) (λ_ _=>aB) (λ_ _=>aB) (λ_ _=>aB) (λ_ _=>aB)
theorem tU{x:AV}:x.T5=true->x= .none:=x.casesOn (motive_1:=λx=>x.T5=true->x= .none) (λ_=>rfl) (λ_=>ft) (λ_=>ft) (λ_=>ft) (λ_=>ft) (λ_=>ft) (λ_=>ft) (λ_=>ft) (λ_=>ft) (λ_ _=>ft) (λ_ _=>ft) (λ_ _=>ft) (λ_ _=>ft)
noncomputable def VW.l(x:VW):Option (aV):=x.casesOn (motive:=λ_=>Option (aV)) some (λ_=>none) (λ_ _=>none) (λ_ _=>none) (λ_ _=>none) (λ_ _=>none) none
theorem VW.Vs{x:VW}:x.l=some p->x= .lst p:=x.casesOn (motive:=λx=>x.l=some p->x= .lst p) (λ_ h=>ac _ (aC h)) (λ_=>aB) (λ_ _=>aB) (λ_ _=>aB) (λ_ _=>aB) (λ_ _=>aB) aB
noncomputable def VW.t(x:VW):Option (aV):=x.casesOn (motive:=λ_=>Option (aV)) (λ_=>none) some (λ_ _=>none) (λ_ _=>none) (λ_ _=>none) (λ_ _=>none) none
theorem VW.Ue{x:VW}:x.t=some p->x= .tup p:=x.casesOn (motive:=λx=>x.t=some p->x= .tup p) (λ_=>aB) (λ_ h=>ac _ (aC h)) (λ_ _=>aB) (λ_ _=>aB) (λ_ _=>aB) (λ_ _=>aB) aB
noncomputable def VW.s(x:VW):Option (List Str×aV):=x.casesOn (motive:=λ_=>Option (List Str×aV)) (λ_=>none) (λ_=>none) (λk l=>some (k,l)) (λ_ _=>none) (λ_ _=>none) (λ_ _=>none) none
theorem VW.s_eq{x:VW}:x.s=some p->x= .Tl p.1 p.2:=x.casesOn (motive:=λx=>x.s=some p->x= .Tl p.1 p.2) (λ_=>aB) (λ_=>aB) (λ_ _ h=>by obtain rfl:=aC h;rfl) (λ_ _=>aB) (λ_ _=>aB) (λ_ _=>aB) aB
noncomputable def VW.i(x:VW):Option (List Int×aV):=x.casesOn (motive:=λ_=>Option (List Int×aV)) (λ_=>none) (λ_=>none) (λ_ _=>none) (λk l=>some (k,l)) (λ_ _=>none) (λ_ _=>none) none
theorem VW.Vr{x:VW}:x.i=some p->x= .Tz p.1 p.2:=x.casesOn (motive:=λx=>x.i=some p->x= .Tz p.1 p.2) (λ_=>aB) (λ_=>aB) (λ_ _=>aB) (λ_ _ h=>by obtain rfl:=aC h;rfl) (λ_ _=>aB) (λ_ _=>aB) aB
noncomputable def VW.k(x:VW):Option (List (Int×Int×Int)×aV):=x.casesOn (motive:=λ_=>Option (List (Int×Int×Int)×aV)) (λ_=>none) (λ_=>none) (λ_ _=>none) (λ_ _=>none) (λk l=>some (k,l)) (λ_ _=>none) none
theorem VW.k_eq{x:VW}:x.k=some p->x= .dct p.1 p.2:=x.casesOn (motive:=λx=>x.k=some p->x= .dct p.1 p.2) (λ_=>aB) (λ_=>aB) (λ_ _=>aB) (λ_ _=>aB) (λ_ _ h=>by obtain rfl:=aC h;rfl) (λ_ _=>aB) aB
noncomputable def iq(σ:aX)(x:AV):Option (aV):=(view σ x).l
noncomputable def zQ(σ:aX)(x:AV):Option (aV):=(view σ x).t
theorem oV(h:iq σ x=some l):view σ x= .lst l:=VW.Vs h
theorem Ff(h:zQ σ x=some l):view σ x= .tup l:=VW.Ue h
section
variable {α:Type}
noncomputable def qt(l:aV)(f:AV->aV->Option α):Option α:=l.casesOn (motive:=λ_=>Option α) none f
theorem On{l}{f:AV->aV->Option α}{a:α}{p:Prop}:qt l f=some a->(∀x t,l=x::t->f x t=some a->p)->p:=l.casesOn (motive:=λl=>qt l f=some a->(∀x t,l=x::t->f x t=some a->p)->p) aB λx t h k=>k x t rfl h
noncomputable def EL(l:aV)(x:Option α):Option α:=l.casesOn (motive:=λ_=>Option α) x λ_ _=>none
theorem um{l}{x:Option α}:EL l x=some a->l=[]/\x=some a:=l.casesOn (motive:=λl=>EL l x=some a->l=[]/\x=some a) (λh=>⟨rfl,h⟩) λ_ _=>aB
noncomputable def iw(l:aV)(f:AV->Option α):Option α:=qt l λx t=>EL t (f x)
theorem ut{l}{f:AV->Option α}{a:α}{p:Prop}(h:iw l f=some a)(k: ∀x,l=[x]->f x=some a->p):p:=On h λx _ e h=>k x (e.trans (ac _ (um h).1)) (um h).2
noncomputable def zT(l:aV)(f:AV->AV->Option α):Option α:=qt l λx t=>iw t (f x)
theorem Lk{l}{f:AV->AV->Option α}{a:α}{p:Prop}(h:zT l f=some a)(k: ∀x y,l=[x,y]->f x y=some a->p):p:=On h λx _ e h=>ut h λy e' h=>k x y (e.trans (ac _ e')) h
end
noncomputable def AV.c?(x:AV):Option Value:=x.casesOn (motive_1:=λ_=>Option Value) .none (λ_=> .none) (λ_=> .none) (λ_=> .none) (λ_=> .none) some (λ_=> .none) (λ_=> .none) (λ_=> .none) (λ_ _=> .none) (λ_ _=> .none) (λ_ _=> .none) (λ_ _=> .none)
theorem Hr{x:AV}:x.c?=some i->x= .cst i:=x.casesOn (motive_1:=λx=>x.c?=some i->x= .cst i) aB (λ_=>aB) (λ_=>aB) (λ_=>aB) (λ_=>aB) (λ_ h=>ac _ (aC h)) (λ_=>aB) (λ_=>aB) (λ_=>aB) (λ_ _=>aB) (λ_ _=>aB) (λ_ _=>aB) (λ_ _=>aB)
noncomputable def AV.l?(x:AV):Option (aV):=x.casesOn (motive_1:=λ_=>Option (aV)) .none (λ_=> .none) (λ_=> .none) (λ_=> .none) (λ_=> .none) (λ_=> .none) (λ_=> .none) (λ_=> .none) some (λ_ _=> .none) (λ_ _=> .none) (λ_ _=> .none) (λ_ _=> .none)
theorem yI{x:AV}:x.l?=some i->x= .lst i:=x.casesOn (motive_1:=λx=>x.l?=some i->x= .lst i) aB (λ_=>aB) (λ_=>aB) (λ_=>aB) (λ_=>aB) (λ_=>aB) (λ_=>aB) (λ_=>aB) (λ_ h=>ac _ (aC h)) (λ_ _=>aB) (λ_ _=>aB) (λ_ _=>aB) (λ_ _=>aB)
noncomputable def AO.s?(x:AO):Option (List Str×aV):=x.casesOn (motive:=λ_=>Option (List Str×aV)) (λ_=> .none) (λk l=>some (k,l)) (λ_ _=> .none) (λ_ _=> .none) (λ_ _=> .none) (λ_=> .none) .none
theorem os_eq{x:AO}:x.s?=some i->x= .Tl i.1 i.2:=x.casesOn (motive:=λx=>x.s?=some i->x= .Tl i.1 i.2) (λ_=>aB) (λ_ _ h=>by obtain rfl:=aC h;rfl) (λ_ _=>aB) (λ_ _=>aB) (λ_ _=>aB) (λ_=>aB) aB
noncomputable def AO.k?(x:AO):Option (List (Int×Int×Int)×aV):=x.casesOn (motive:=λ_=>Option (List (Int×Int×Int)×aV)) (λ_=> .none) (λ_ _=> .none) (λ_ _=> .none) (λk l=>some (k,l)) (λ_ _=> .none) (λ_=> .none) .none
theorem GT{x:AO}:x.k?=some i->x= .dct i.1 i.2:=x.casesOn (motive:=λx=>x.k?=some i->x= .dct i.1 i.2) (λ_=>aB) (λ_ _=>aB) (λ_ _=>aB) (λ_ _ h=>by obtain rfl:=aC h;rfl) (λ_ _=>aB) (λ_=>aB) aB
noncomputable def AO.o?(x:AO):Option (Addr×aV):=x.casesOn (motive:=λ_=>Option (Addr×aV)) (λ_=> .none) (λ_ _=> .none) (λ_ _=> .none) (λ_ _=> .none) (λk l=>some (k,l)) (λ_=> .none) .none
theorem Nj{x:AO}:x.o?=some i->x= .obj i.1 i.2:=x.casesOn (motive:=λx=>x.o?=some i->x= .obj i.1 i.2) (λ_=>aB) (λ_ _=>aB) (λ_ _=>aB) (λ_ _=>aB) (λ_ _ h=>by obtain rfl:=aC h;rfl) (λ_=>aB) aB
noncomputable def VW.o(x:VW):Option (Addr×aV):=x.casesOn (motive:=λ_=>Option (Addr×aV)) (λ_=> .none) (λ_=> .none) (λ_ _=> .none) (λ_ _=> .none) (λ_ _=> .none) (λk l=>some (k,l)) .none
theorem VW.U5{x:VW}:x.o=some q->x= .obj q.1 q.2:=x.casesOn (motive:=λx=>x.o=some q->x= .obj q.1 q.2) (λ_=>aB) (λ_=>aB) (λ_ _=>aB) (λ_ _=>aB) (λ_ _=>aB) (λ_ _ h=>by obtain rfl:=aC h;rfl) aB
noncomputable def rJ(v:Value):Option Addr:=match v with| .ref a=>some a|_=>none
theorem jP{v}(h:rJ v=some a):v= .ref a:=by
 unfold rJ at h;split at h
 ·exact ac _ (aC h)
 ·exact aB h
noncomputable def yG{α:Type}(x y:AV)(f:Int->Int->Option α):Option α:=x.i?.bind λi=>y.i?.bind λj=>f i j
theorem RF{α:Type}{x y:AV}{f:Int->Int->Option α}{a:α}{p:Prop}(h:yG x y f=some a)(k: ∀i j,x= .int i->y= .int j->f i j=some a->p):p:=bA h λi e h=>bA h λj e' h=>k i j (jl e) (jl e') h
noncomputable def AO.l?(x:AO):Option (aV):=x.casesOn (motive:=λ_=>Option (aV)) some (λ_ _=> .none) (λ_ _=> .none) (λ_ _=> .none) (λ_ _=> .none) (λ_=> .none) .none
theorem CM{x:AO}:x.l?=some i->x= .lst i:=x.casesOn (motive:=λx=>x.l?=some i->x= .lst i) (λ_ h=>ac _ (aC h)) (λ_ _=>aB) (λ_ _=>aB) (λ_ _=>aB) (λ_ _=>aB) (λ_=>aB) aB
noncomputable def Ft(σ:aX)(x:AV):Option (Nat×aV):=x.r?.bind λk=>(σ[k]?.bind AO.l?).map λl=>(k,l)
theorem oL{σ:aX}{x:AV}{p:Nat×aV}(h:Ft σ x=some p):x= .ref p.1/\σ[p.1]?=some (.lst p.2):=
 bA h λ_ e h=>ed h λ_ h h3=>bA h λ_ e1 h=>h3▸⟨nx e,e1.trans (ac _ (CM h))⟩
noncomputable def Qr{α:Type}(o:AV)(args:aV)(f:Str->Str->Option α):Option α:=o.s?.bind λs=>iw args λy=>y.s?.bind λx=>f s x
noncomputable def Jq(σ:aX)(x:AV):Option (List (Int×Int×Int)×aV):=(view σ x).k
theorem Gk(h:Jq σ x=some p):view σ x= .dct p.1 p.2:=VW.k_eq h
noncomputable def small(a:Int):Bool:=decide (a.natAbs<2 ^ 63)
noncomputable def binI(σ:aX)(op:Operator)(x y:AV):Option AV:=match op with
 | .Add=>x.i?.elim (x.s?.elim ((iq σ x).bind λl=>(iq σ y).bind λl'=>if l.length+l'.length<=100000 then some (.lst (l++l')) else none) λa=>y.s?.bind λb=>if a.length+b.length<=100000 then some (.str (a++b)) else none) λa=>y.i?.bind λb=>some (.int (a+b))
 | .Sub=>yG x y λa b=>some (.int (a-b))
 | .Mult=>yG x y λa b=>if small b then some (.int (a*b)) else none
 | .FloorDiv=>yG x y λa b=>if small b&&b !=0 then some (.int (Int.fdiv a b)) else none
 | .Mod=>yG x y λa b=>if b !=0 then some (.int (Int.fmod a b)) else none
 | .Pow=>yG x y λa n=>if small a&&decide (0<=n)&&decide (n<=1000) then some (.int (a ^ n.toNat)) else none
 | .LShift=>yG x y λa n=>if small a&&decide (0<=n)&&decide (n<=1000) then some (.int (a*2 ^ n.toNat)) else none
 | .RShift=>yG x y λa n=>if decide (0<=n) then some (.int (Int.fdiv a (2 ^ n.toNat))) else none
 | .BitAnd=>yG x y λa b=>some (.int (Builtin.bitAnd a b))
 | .BitOr=>yG x y λa b=>some (.int (Builtin.bitOr a b))
 |_=>none
noncomputable def Rv(f:AV->AV->Bool)(x y:AV):Bool:=x.i?.elim (x.s?.elim (x.t?.elim (x.T5&&y.T5) λl=>y.t?.elim false λl'=>l.length==l'.length&&(l.zip l').all λp=>f p.1 p.2) λa=>y.s?.elim false (a== ·)) λa=>y.i?.elim false (a== ·)
noncomputable def eqT(n:Nat):AV->AV->Bool:=n.rec (λ_ _=>false) λ_ f=>Rv f
noncomputable def Od(σ:aX)(x y:AV):Option Bool:=x.i?.elim (x.s?.elim (x.b?.elim (x.t?.elim (cond (x.T5&&y.T5) (some true) ((iq σ x).bind λl=>(iq σ y).bind λl'=>cond l'.isEmpty (some l.isEmpty) none))
 λl=>y.t?.bind λl'=>cond (l.length==l'.length&&(l.zip l').all λp=>eqT 7 p.1 p.2) (some true) none) λa=>y.b?.map (a== ·)) λa=>y.s?.map (a== ·)) λa=>y.i?.map (a== ·)
noncomputable def tN{K:Type}(g:AV->Option K)(l:aV):Option (List K):=l.rec (some []) λa _ r=>(g a).bind λk=>r.map (k:: ·)
noncomputable def intsOf:aV->Option (List Int):=tN AV.i?
noncomputable def strsOf:aV->Option (List Str):=tN AV.s?
noncomputable def boolsOf:aV->Option (List Bool):=tN AV.b
noncomputable def LQ(l:aV):Option (Int×Int×Int):=qt l λa t=>zT t λb c=>a.i?.bind λi=>b.i?.bind λj=>c.i?.map λk=>(i,j,k)
theorem F0{l:aV}(h:LQ l=some p):l=[.int p.1,.int p.2.1,.int p.2.2]:=
 On h λa t e h=>Lk h λb c e' h=>bA h λi e1 h=>bA h λj e2 h=>ed h λk e3 h=>by rw[e,e',jl e1,jl e2,jl e3,<-h]
noncomputable def wa(x:AV):Option (Int×Int×Int):=x.t?.bind LQ
theorem Ex{x:AV}(h:wa x=some p):x= .tup [.int p.1,.int p.2.1,.int p.2.2]:=bA h λ_ e h=>(yY e).trans (ac _ (F0 h))
noncomputable def Je{K:Type}[BEq K](σ:aX)(y:AV)(f:aV->Option (List K))(a:K)(r:Option Bool):Option Bool:=(zQ σ y).elim ((iq σ y).elim r λl=>(f l).map λns=>ns.any (· ==a)) λl=>(f l).map λns=>ns.any (· ==a)
noncomputable def O7(σ:aX)(x y:AV):Option Bool:=x.i?.elim (x.s?.elim ((wa x).bind λk=>(view σ y).k.elim ((view σ y).s.bind λp=>cond p.1.isEmpty (some false) none) λp=>some (p.1.contains k))
 λa=>y.s?.elim (Je σ y strsOf a ((view σ y).s.map λp=>p.1.contains a)) λb=>some (Txt.contains b a)) λa=>Je σ y intsOf a ((view σ y).i.map λp=>p.1.contains a)
noncomputable def AV.UK(x:AV):Bool:=x.casesOn (motive_1:=λ_=>Bool) false (λ_=>true) (λ_=>true) (λ_=>true) (λ_=>true) (λ_=>false) (λ_=>true) (λ_=>true) (λ_=>true) (λ_ _=>true) (λ_ _=>true) (λ_ _=>true) (λ_ _=>true)
noncomputable def QK(x y:AV):Option Bool:=cond y.T5 (cond x.T5 (some true) (cond x.UK (some false) none)) none
noncomputable def ltI(f:Int->Int->Bool)(x y:AV):Option Bool:=yG x y λa b=>some (f a b)
noncomputable def eP(σ:aX)(op:CmpOp)(x y:AV):Option Bool:=match op with
 | .Eq=>Od σ x y
 | .NotEq=>(Od σ x y).map (!·)
 | .Lt=>ltI (λa b=>decide (a<b)) x y
 | .LtE=>ltI (λa b=>decide (a<=b)) x y
 | .Gt=>ltI (λa b=>decide (b<a)) x y
 | .GtE=>ltI (λa b=>decide (b<=a)) x y
 | .In=>O7 σ x y
 | .NotIn=>(O7 σ x y).map (!·)
 | .Is=>QK x y
 | .IsNot=>(QK x y).map (!·)
noncomputable def cN{K:Type}[BEq K](ks:List K)(l:aV)(k:K):Option AV:=ks.rec (motive:=λ_=>aV->Option AV) (λ_=>none) (λx _ ih l=>l.casesOn (motive:=λ_=>Option AV) none λa t=>cond (x==k) (some a) (ih t)) l
theorem oJ{K:Type}[BEq K]{x:K}{ks:List K}{l:aV}{k:K}{b:AV}{p:Prop}(h:cN (x::ks) l k=some b)(k1: ∀a t,l=a::t->(x==k)=true->a=b->p)(k2: ∀a t,l=a::t->(x==k)=false->cN ks t k=some b->p):p:=by
 cases l with
 |nil=>exact aB h
 |cons a t=>
  cases q:x==k with
  |true=>exact k1 a t rfl q (aC ((ac (cond · _ _) q).symm.trans h))
  |false=>exact k2 a t rfl q ((ac (cond · _ _) q).symm.trans h)
noncomputable def fit(i:Int):Bool:=decide (-(2 ^ 63)<=i)&&decide (i<2 ^ 63)
noncomputable def wf{α:Type}(l:List α)(i:Int):Option α:=(seqIndex? i l.length).bind (l[·]?)
noncomputable def dZ(σ:aX)(x i:AV):Option AV:=x.b?.elim (x.s?.elim ((iq σ x).elim ((zQ σ x).elim ((view σ x).s.elim ((view σ x).i.elim ((view σ x).k.bind λp=>(wa i).bind λk=>cN p.1 p.2 k) λp=>i.i?.bind λk=>cN p.1 p.2 k) λp=>i.s?.bind λk=>cN p.1 p.2 k)
 λl=>i.i?.bind λi=>cond (fit i) (wf l i) none) λl=>i.i?.bind λi=>cond (fit i) (wf l i) none) λs=>i.i?.bind λi=>cond (fit i) ((Txt.charAt s i).map λc=> .str ⟨#[c]⟩) none)
 λb=>i.i?.bind λi=>cond (fit i&&decide (b.length<=100000)) ((wf b i).map λc=> .int c.toNat) none
noncomputable def cf{α:Type}(l:List α)(lo hi:Option Int):List α:=(l.drop (lo.elim 0 (clipAt l.length))).take (hi.elim l.length (clipAt l.length)-lo.elim 0 (clipAt l.length))
noncomputable def vC(σ:aX)(x:AV)(lo hi:Option Int):Option AV:=x.b?.elim (x.s?.elim ((iq σ x).bind λl=>cond (decide (l.length<=100000)) (some (.lst (cf l lo hi))) none) λs=>cond (decide (s.length<=100000)) (some (.str (Txt.slice s lo hi))) none)
 λb=>cond (decide (b.length<=100000)) (some (.bytes (cf b lo hi))) none
noncomputable def AV.isC(x:AV):Bool:=x.c?.isSome
noncomputable def dz(σ:aX)(x:AV)(n:Nat):Option AV:=(view σ x).o.bind λp=>(cN (lay p.1) p.2 n).bind λr=>cond r.isC none (some r)
noncomputable def n5(ks:List Nat)(l:aV)(n:Nat)(v:AV):Option (aV):=ks.rec (motive:=λ_=>aV->Option (aV)) (λ_=>none) (λk _ ih l=>l.casesOn (motive:=λ_=>Option (aV)) (cond (k==n) (some [v]) none) λa l=>cond (k==n) (some (v::l)) ((ih l).map (a:: ·))) l
noncomputable def putD{K:Type}[BEq K](ks:List K)(l:aV)(k:K)(v:AV):List K×aV:=(ks.findIdx? (· ==k)).elim (ks++ [k],l++ [v]) λi=>(ks,l.set i v)
noncomputable def OO(o:AO)(y v:AV):Option AO:=o.l?.elim (o.s?.elim (o.k?.bind λp=>(wa y).bind λk=>cond (decide (p.2.length<=100000)) (some (.dct (putD p.1 p.2 k v).1 (putD p.1 p.2 k v).2)) none)
 λp=>y.s?.bind λk=>cond (decide (p.2.length<=100000)) (some (.Tl (putD p.1 p.2 k v).1 (putD p.1 p.2 k v).2)) none)
 λl=>y.i?.bind λj=>cond (decide (0<=j)&&decide (j<l.length)&&decide (l.length<=100000)) (some (.lst (l.set j.toNat v))) none
noncomputable def Nl(σ:aX)(x y v:AV):Option (Nat×AO):=x.r?.bind λk=>σ[k]?.bind λo=>(OO o y v).map λo'=>(k,o')
noncomputable def PE(σ:aX)(x y v:AV):Option (Nat×AO):=x.r?.bind λk=>(σ[k]?.bind AO.s?).bind λp=>cond (p.1.isEmpty&&p.2.isEmpty) ((wa y).map λkey=>(k,.dct [key] [v])) none
noncomputable def jB(x y v:AV)(s:St):Option (Nat×AO):=(PE s.S9 x y v).elim (Nl s.S9 x y v) some
noncomputable def putAt(x:AV)(n:Nat)(v:AV)(s:St):Option (Nat×AO):=x.r?.bind λk=>(s.S9[k]?.bind AO.o?).bind λp=>(n5 (lay p.1) p.2 n v).map λl=>(k,.obj p.1 l)
noncomputable def cL(σ:aX)(b:OU)(args:aV):Option AV:=match b with
 | .len=>iw args λx=>x.b?.elim ((iq σ x).elim ((zQ σ x).elim none λl=>if l.length<=100000 then some (.int l.length) else none) λl=>if l.length<=100000 then some (.int l.length) else none) λb=>if b.length<=100000 then some (.int b.length) else none
 | .int=>iw args λx=>x.i?.elim (x.s?.bind λs=>if s.length<=9 then(PySem.intText? s).map .int else none) λi=>some (.int i)
 | .str=>iw args λx=>x.i?.bind λi=>if 0<=i/\i<100 then some (.str (toString i)) else none
 | .bytes=>iw args λx=>x.b?.elim ((iq σ x).bind λl=>if l.length<=1000 then(intsOf l).bind λns=>if ns.all (λn=>decide (0<=n)&&decide (n<256)) then some (.bytes (ns.map λn=>n.toNat.toUInt8)) else none else none) λb=>some (.bytes b)
 | .tuple=>iw args λx=>x.t?.elim ((iq σ x).bind λl=>if l.length<=100000 then some (.tup l) else none) λl=>some (.tup l)
 | .list=>iw args λx=>(iq σ x).elim ((zQ σ x).bind λl=>if l.length<=100000 then some (.lst l) else none) λl=>if l.length<=100000 then some (.lst l) else none
 | .any=>iw args λx=>(iq σ x).bind λl=>if l.length<=1000 then(boolsOf l).map λl=> .bool (l.any id) else none
 | .sorted=>iw args λx=>(iq σ x).bind λl=>zT l λx y=>yG x y λa b=>some (if b<a then .lst [.int b,.int a] else .lst [.int a,.int b])
 | .min=>zT args λx y=>yG x y λa b=>some (.int (if b<a then b else a))
 | .abs=>iw args λx=>x.i?.bind λa=>some (.int (if a<0 then-a else a))
 | .sum=>iw args λx=>(iq σ x).bind λl=>if l.length<=1000 then(intsOf l).map λns=> .int ns.sum else none
noncomputable def gT(σ:aX)(m:SM)(o:AV)(args:aV):Option (AV×aX):=match m with
 | .split0=>o.s?.bind λs=>EL args (if s.length<=1000 then some (.lst ((Txt.words s).map .str),σ) else none)
 | .split1=>Qr o args λs x=>if s.length<=1000&&x.length !=0 then some (.lst ((Txt.split s x).map .str),σ) else none
 | .lstrip=>Qr o args λs x=>if s.length<=1000 then some (.str (Txt.lstripChars s x),σ) else none
 | .index=>Qr o args λs x=>if decide (0<=Txt.find s x) then some (.int (Txt.find s x),σ) else none
 | .append=>(Ft σ o).bind λp=>iw args λv=>if p.2.length<=100000 then some (.none,σ.set p.1 (.lst (p.2++ [v]))) else none
 | .extend=>(Ft σ o).bind λp=>iw args λv=>(iq σ v).bind λl=>if p.2.length+l.length<=100000 then some (.none,σ.set p.1 (.lst (p.2++l))) else none
 | .TX=>zT args λx d=>(wa x).bind λk=>(Jq σ o).map λp=>((cN p.1 p.2 k).getD d,σ)
noncomputable def C8(σ:aX)(m:SM)(x:AV):Bool:=match m with
 | .append=>(iq σ x).isSome
 | .extend=>(iq σ x).isSome
 | .TX=>(Jq σ x).isSome
 |_=>x.s?.isSome
noncomputable def jk(l:aV)(σ:aX):aX:=l.foldl (λσ v=>fz 8 v σ) σ
noncomputable def AO.live:AO->Bool
 | .Tg _=>false
 | .dead=>false
 |_=>true
noncomputable def AO.isObj:AO->Bool
 | .obj _ _=>true
 |_=>false
noncomputable def AO.vals:AO->aV
 | .lst l=>l
 | .Tl _ l=>l
 | .Tz _ l=>l
 | .dct _ l=>l
 | .obj _ l=>l
 |_=>[]
noncomputable def MD(l:aX):Option AO:=l.casesOn (motive:=λ_=>Option AO) none λx t=>cond t.isEmpty (some x) none
noncomputable def yd(sp:gF)(args:aV)(σ:aX):Option (Res AV×aX):=cond (aM (args.map (rs 8 (jk args σ)))) ((sp.run (args.map (rs 8 (jk args σ))) []).bind λq=>q.1.Th (λv=>cond (flat v) (some (.ok v,jk args σ)) none) λC=>some (.exc C,jk args σ)) none
noncomputable def qu(sp:gF)(k:Nat)(args:aV)(σ2:aX):Option (Res AV×aX):=(σ2[k]?).bind λo1=>cond (o1.live&&du (qX 8 σ2 o1)&&aM (args.map (rs 8 σ2)))
 ((sp.run (.ref 0::args.map (rs 8 σ2)) [qX 8 σ2 o1]).bind λq=>q.1.Th (λv=>(MD q.2).bind λo'=>cond (flat v&&du o'&&o'.live&&o1.isObj==o'.isObj) (some (.ok v,σ2.set k o')) none) λC=>some (.exc C,σ2.set k .dead)) none
noncomputable def cR(sp:gF)(args:aV)(σ:aX):Option (Res AV×aX):=cond sp.TB (sp.run args σ) (cond sp.byref (qt args λx args=>x.r?.bind λk=>((jk args σ)[k]?).bind λo=>qu sp k args (jk o.vals (jk args σ))) (yd sp args σ))
noncomputable def bN(σ:aX)(ik:IK)(vs:aV):Option (aV):=match ik with
 | .seq=>iw vs λx=>x.b?.elim (x.t?.elim (x.l?.elim (x.r?.bind λk=>(σ[k]?.bind AO.f?).bind AV.l?) some) some) λb=>some (b.map λc=> .int c.toNat)
 | .enum=>iw vs λx=>x.b?.map λb=>b.zipIdx.map λp=> .tup [.int p.2,.int p.1.toNat]
 | .zip=>zT vs λx y=>x.t?.bind λa=>y.l?.map λb=>(a.zip b).map λp=> .tup [p.1,p.2]
 | .range=>iw vs λx=>x.i?.bind λn=>cond (decide (0<=n)&&decide (n<=100000)) (some ((List.range n.toNat).map fun(i:Nat)=> .int (Int.ofNat i))) none
noncomputable def bo{α:Type}(s:St)(x:Option α):Out α:=x.map λa=>(.ok a,s)
noncomputable def pA(s:St)(x:Option (Res AV×aX)):Out AV:=x.map λq=>(q.1,{s with S9:=q.2})
noncomputable def zJ(t:Option (Nat×AO))(s:St):Out Unit:=t.map λp=>(.ok (),{s with S9:=s.S9.set p.1 p.2})
noncomputable def fh{α β:Type}(o:Option α)(s:St)(k:α->St->Out β):Out β:=o.bind λa=>k a s
noncomputable def Mp{α:Type}(x:AV)(s:St)(k:Addr->St->Out α):Out α:=(view s.S9 x).o.bind λp=>k p.1 s
noncomputable def r5{α:Type}(v:AV)(s:St)(f:Bool->St->Out α):Out α:=v.b.bind λb=>f b s
noncomputable def KX{α:Type}(b:Bool)(s:St)(k:St->Out α):Out α:=cond b (k s) none
noncomputable def we{α β:Type}(x:Out α)(f:α->St->Out β):Out β:=x.bind λp=>p.1.Th (λa=>f a p.2) λ_=>none
noncomputable def Ku(sp:gF)(C:Addr)(vs:aV)(σ:aX):Option (Res AV×aX):=(cR sp (.ref σ.length::vs) (σ++ [.obj C []])).bind λq=>cond (q.1.Th AV.T5 λ_=>false) (some (.ok (.ref σ.length),q.2)) none
noncomputable def xB(b:Bool)(s:St)(o:AO):Out AV:=cond b (some (.ok (.ref s.S9.length),{s with S9:=s.S9++ [o]})) none
abbrev Gl:=List (Str×AV)
noncomputable def Ek(gl:Gl)(g:Nat):Option Addr:=gl[g]?.bind λp=>p.2.c?.bind rJ
noncomputable def LS{α:Type}(gl:Gl)(g:Nat)(s:St)(k:Addr->St->Out α):Out α:=(Ek gl g).bind λf=>k f s
noncomputable def uj{α:Type}(l:aV)(step:AV->St->Out α)(s:St):Out (List α):=match l with
 | []=>some (.ok [],s)
 |a::l=>ao (step a s) λx s=>ao (uj l step s) λxs s=>some (.ok (x::xs),s)
section
variable (T:Tb) (gl:Gl)
mutual
noncomputable def aw:IE->St->Out AV
 | .k c,s=>some (.ok c,s)
 | .var i,s=>bo s (s.loc[i]?).join
 | .glob i,s=>bo s (gl[i]?.map (·.2))
 | .bin op a b,s=>ao (aw a s) λx s=>ao (aw b s) λy s=>bo s (binI s.S9 op x y)
 | .neg i,s=>some (.ok (.int (-i)),s)
 | .nt t,s=>ao (aw t s) λx s=>r5 x s λb s=>some (.ok (.bool !b),s)
 | .Td t a b,s=>ao (cg t (aw t) s) λc s=>cond c (aw a s) (aw b s)
 | .lst l,s=>ao (br l s) λvs s=>xB (decide (vs.length<=1000)) s (.lst vs)
 | .tup l,s=>ao (br l s) λvs s=>bo s (cond (decide (vs.length<=1000)) (some (.tup vs)) none)
 | .Tl ks l,s=>ao (br l s) λvs s=>xB (ks.length==vs.length) s (.Tl ks vs)
 | .Tz ks l,s=>ao (br l s) λvs s=>xB (ks.length==vs.length) s (.Tz ks vs)
 | .cmp op a b,s=>ao (aw a s) λx s=>ao (aw b s) λy s=>bo s ((eP s.S9 op x y).map .bool)
 | .Uh ..,_=>none
 | .and l,s=>th l s
 | .or l,s=>Fh l s
 | .attr e n,s=>ao (aw e s) λx s=>bo s (dz s.S9 x n)
 | .sub e i,s=>ao (aw e s) λx s=>ao (aw i s) λy s=>bo s (dZ s.S9 x y)
 | .TL e lo hi,s=>ao (aw e s) λx s=>ao (zF lo s) λa s=>ao (zF hi s) λb s=>bo s (vC s.S9 x a b)
 | .Tf g args,s=>LS gl g s λf s=>fh (T.fn f) s λsp s=>ao (br args s) λvs s=>pA s (cR sp vs s.S9)
 | .ccl g args,s=>LS gl g s λC s=>fh (T.init C) s λf s=>fh (T.fn f) s λsp s=>ao (br args s) λvs s=>pA s (Ku sp C vs s.S9)
 | .sup g n args,s=>LS gl g s λC s=>fh (T.mt C n) s λf s=>fh (T.fn f) s λsp s=>ao (br args s) λvs s=>pA s (cR sp vs s.S9)
 | .blt b _ args,s=>ao (br args s) λvs s=>bo s (cL s.S9 b vs)
 | .TG o n args,s=>ao (aw o s) λx s=>Mp x s λC s=>fh (T.mt C n) s λf s=>fh (T.fn f) s λsp s=>ao (br args s) λvs s=>pA s (cR sp (x::vs) s.S9)
 | .stm m o args,s=>ao (aw o s) λx s=>KX (C8 s.S9 m x) s λs=>ao (br args s) λvs s=>pA s ((gT s.S9 m x vs).map λp=>(.ok p.1,p.2))
 | .comp elt cap ik _ src conds,s=>ao (aw src s) λx s=>fh (bN s.S9 ik [x]) s λitems s=>KX (decide (items.length<=100000)) s λs=>we (uj items (λa s'=>we (fF conds ⟨some a::cap.map λi=>(s.loc[i]?).join,s'.S9⟩) λb s1=>
   cond b (we (aw elt s1) λv s2=>some (.ok [v],⟨s.loc,s2.S9⟩)) (some (.ok [],⟨s.loc,s1.S9⟩))) s) λvs s=>some (.ok (.lst vs.flatten),s)
noncomputable def br:List IE->St->Out (aV)
 | [],s=>some (.ok [],s)
 |e::l,s=>ao (aw e s) λv s=>ao (br l s) λvs s=>some (.ok (v::vs),s)
noncomputable def zF:Option IE->St->Out (Option Int)
 |none,s=>some (.ok none,s)
 |some e,s=>ao (aw e s) λv s=>bo s (v.i?.map some)
noncomputable def th:List IE->St->Out AV
 | [],_=>none
 |e::l,s=>ao (aw e s) λv s=>r5 v s λb s=>cond (b&& !l.isEmpty) (th l s) (some (.ok (.bool b),s))
noncomputable def Fh:List IE->St->Out AV
 | [],_=>none
 |e::l,s=>ao (aw e s) λv s=>r5 v s λb s=>cond (!b&& !l.isEmpty) (Fh l s) (some (.ok (.bool b),s))
noncomputable def cg:IE->(St->Out AV)->St->Out Bool
 | .nt t,_,s=>ao (cg t (aw t) s) λb s=>some (.ok !b,s)
 | .and l,_,s=>vp true l s
 | .or l,_,s=>vp false l s
 | .Td t a b,_,s=>ao (cg t (aw t) s) λc s=>cond c (cg a (aw a) s) (cg b (aw b) s)
 | .cmp op a b,_,s=>ao (aw a s) λx s=>ao (aw b s) λy s=>bo s (eP s.S9 op x y)
 | .Uh p q a b c,_,s=>ao (aw a s) λx s=>ao (aw b s) λy s=>ao (bo s (eP s.S9 p x y)) λu s=>
   cond u (ao (aw c s) λz s=>bo s (eP s.S9 q y z)) (some (.ok false,s))
 |_,w,s=>ao (w s) λv s=>bo s v.b
noncomputable def vp(stop:Bool):List IE->St->Out Bool
 | [],s=>some (.ok stop,s)
 |e::l,s=>ao (cg e (aw e) s) λb s=>cond (b==stop) (vp stop l s) (some (.ok b,s))
noncomputable def fF:List IE->St->Out Bool
 | [],s=>some (.ok true,s)
 |e::l,s=>ao (cg e (aw e) s) λb s=>cond b (fF l s) (some (.ok false,s))
end
noncomputable def A1:IT->AV->St->Out Unit
 | .var i,v,s=>cond (decide (i<s.loc.length)) (some (.ok (),{s with loc:=s.loc.set i (some v)})) none
 | .attr e n,v,s=>ao (aw T gl e s) λx s=>zJ (putAt x n v s) s
 | .sub e i,v,s=>ao (aw T gl e s) λx s=>ao (aw T gl i s) λy s=>zJ (jB x y v s) s
 | .tup _,_,_=>none
noncomputable def pn:List IT->aV->St->Out Unit
 | [],[],s=>some (.ok (),s)
 |t::ts,v::vs,s=>ao (A1 T gl t v s) λ_ s=>pn ts vs s
 |_,_,_=>none
noncomputable def nZ(t:IT)(v:AV)(s:St):Out Unit:=match t with
 | .tup ts=>(v.t?.elim v.l? some).bind λl=>cond (ts.length==l.length) (pn T gl ts l s) none
 |t=>A1 T gl t v s
noncomputable def Fl.Th{β:Sort 1}(f:Fl)(a:β)(g:AV->β):β:=f.casesOn (motive:=λ_=>β) a a g
noncomputable def dk(step:AV->St->Out Fl):aV->St->Out Fl
 | [],s=>some (.ok .next,s)
 |a::l,s=>ao (step a s) λf s=>f.Th (dk step l s) λv=>some (.ok (.ret v),s)
noncomputable def iD(test:St->Out Bool)(body:St->Out Fl):Nat->St->Out Fl
 |0,_=>none
 |n+1,s=>ao (test s) λb s=>cond b (ao (body s) λf s=>f.Th (iD test body n s) λv=>some (.ok (.ret v),s)) (some (.ok .next,s))
noncomputable def Fl.seq{β:Sort 1}(f:Fl)(a b:β):β:=f.casesOn (motive:=λ_=>β) a b λ_=>b
mutual
noncomputable def bf:IS->St->Out Fl
 | .asg t e,s=>ao (aw T gl e s) λv s=>ao (nZ T gl t v s) λ_ s=>some (.ok .next,s)
 | .exp e,s=>ao (aw T gl e s) λv s=>cond v.T5 (some (.ok .next,s)) none
 | .ret e,s=>ao (aw T gl e s) λv s=>some (.ok (.ret v),s)
 | .Ud,s=>some (.ok (.ret .none),s)
 | .Td t a b,s=>ao (cg T gl t (aw T gl t) s) λc s=>cond c (ae a s) (ae b s)
 | .fr ik _ es t body,s=>ao (br T gl es s) λvs s=>fh (bN s.S9 ik vs) s λitems s=>dk (λa s=>ao (nZ T gl t a s) λ_ s=>ae body s) items s
 | .whl t body,s=>iD (cg T gl t (aw T gl t)) (ae body) 1000 s
 | .cont,s=>some (.ok .cont,s)
 | .pass,s=>some (.ok .next,s)
 | .TM g _,s=>LS gl g s λC s=>cond (C==83) (some (.exc C,s)) none
 | .tri body g i,s=>(ae body s).bind λp=>p.1.Th (λf=>f.seq (some (.ok .next,p.2)) none) λC=>LS gl g p.2 λC' s=>cond (C==C'&&decide (i<s.loc.length)) (some (.ok .next,{s with loc:=s.loc.set i (some .none)})) none
noncomputable def ae:List IS->St->Out Fl
 | [],s=>some (.ok .next,s)
 |e::l,s=>ao (bf e s) λf s=>f.seq (ae l s) (some (.ok f,s))
end
end
noncomputable def lB(n:Nat)(σ:aX):aX:=σ.take n++(σ.drop n).map jd
noncomputable def td(v:AV)(n:Nat)(σ:aX):Option (Res AV×aX):=cond (flat (rs 8 (lB n σ) v)&&(((lB n σ).take n).map (qX 8 (lB n σ))).all du) (some (.ok (rs 8 (lB n σ) v),((lB n σ).take n).map (qX 8 (lB n σ)))) none
noncomputable def Ms(v:AV)(σ:aX):Option (Res AV×aX):=some (.ok v,σ)
noncomputable def Fl.val(f:Fl):Option AV:=f.casesOn (motive:=λ_=>Option AV) (some .none) none some
noncomputable def kh(T:Tb)(gl:Gl)(nl:Nat)(TB:Bool)(body:List IS)(args:aV)(σ:aX):Option (Res AV×aX):=
 (ae T gl body ⟨args.map some++List.replicate (nl-args.length) none,σ⟩).bind λp=>p.1.Th (λf=>f.val.bind λv=>cond TB (Ms v p.2.S9) (td v σ.length p.2.S9)) λC=>cond TB none (some (.exc C,σ.map λ_=> .dead))
noncomputable def c0(np:Nat)(d:aV)(args:aV):aV:=args++d.drop (args.length-(np-d.length))
noncomputable def k9(T:Tb)(gl:Gl)(nl np:Nat)(d:aV)(TB:Bool)(body:List IS)(args:aV)(σ:aX):Option (Res AV×aX):=
 cond (decide (np-d.length<=args.length)&&decide (args.length<=np)) (kh T gl nl TB body (c0 np d args) σ) none
end
end Mine
namespace Mine
section
open PySem PySem.W PySem.Calls PyProof.Rows PySem.SeqAt
noncomputable abbrev aa:IE:= .var 0
noncomputable abbrev aj:IE:= .var 1
noncomputable abbrev ay:IE:= .var 2
noncomputable abbrev aJ:IE:= .var 3
noncomputable abbrev aW:IE:= .var 4
noncomputable abbrev bQ:IE:= .var 5
noncomputable abbrev bZ:IE:= .var 6
noncomputable abbrev ej:IE:= .var 7
noncomputable abbrev lr:IE:= .var 8
noncomputable abbrev qr:IE:= .var 9
noncomputable abbrev iG:IE:= .var 10
noncomputable abbrev fH:IE:= .var 11
noncomputable abbrev ui:IE:= .var 12
noncomputable abbrev pU:IE:= .var 13
noncomputable abbrev tn:IE:= .var 14
noncomputable abbrev Da:IE:= .var 15
noncomputable abbrev aF:IE:= .k (.int 0)
noncomputable abbrev bn:IE:= .k (.int 1)
noncomputable abbrev cH:IE:= .k (.int 2)
noncomputable abbrev iX:IE:= .k (.int 3)
noncomputable abbrev cz:IE:= .k (.int 4)
noncomputable abbrev se:IE:= .k (.int 5)
noncomputable abbrev y0:IE:= .k (.int 6)
noncomputable abbrev xY:IE:= .k (.int 7)
noncomputable abbrev bc:IE:= .k (.int 8)
noncomputable abbrev dE:IE:= .k (.int 16)
noncomputable abbrev iu:IE:= .k (.int 32)
noncomputable abbrev wT:IE:= .k (.int 46)
noncomputable abbrev cb:IE:= .k (.int 64)
noncomputable abbrev lH:IE:= .k (.int 128)
noncomputable abbrev l4:IE:= .k (.int 131)
noncomputable abbrev tH:IE:= .k (.int 132)
noncomputable abbrev ug:IE:= .k (.int 168)
noncomputable abbrev lP:IE:= .k (.int 246)
noncomputable abbrev oX:IE:= .k (.int 254)
noncomputable abbrev sT:IE:= .k (.int 255)
noncomputable abbrev oG:IE:= .k (.int 256)
noncomputable abbrev au(x:Str):IE:= .k (.str x)
noncomputable abbrev aE(a:Addr):AV:= .cst (.ref a)
noncomputable def Gf:List IS:=[.ret (.bin .Sub (.bin .LShift bn aa) bn)]
noncomputable def ww:Gl:=[]
noncomputable def GQ:List IS:=[.ret (.bin .BitAnd aa (.Tf 0 [aj]))]
noncomputable def xJ:Gl:=[("mask",aE 92)]
noncomputable def Ao:List IS:=[.asg (.var 2) (.Tf 0 [aa,aj]),.Td (.cmp .Eq (.bin .RShift ay (.bin .Sub aj bn)) bn) [.ret (.bin .Sub ay (.bin .LShift bn aj))] [],.ret ay]
noncomputable def sv:Gl:=[("wrap",aE 99)]
noncomputable def qg:List IS:=[.asg (.var 1) aF,.asg (.var 2) aF,.fr .seq 0 [aa] (.var 3) [.asg (.var 1) (.bin .BitOr aj (.bin .LShift aJ ay)),.asg (.var 2) (.bin .Add ay bc)],.ret aj]
noncomputable def l3:Gl:=[]
noncomputable def jj:List IS:=[.Td (.cmp .Eq (.blt .len 0 [aa]) aF) [.ret aF] [],.ret (.Tf 1 [.Tf 2 [aa],.bin .Mult bc (.blt .len 0 [aa])])]
noncomputable def gK:Gl:=[("len",.cst (.builtin "len")),("signed",aE 106),("from_little",aE 113)]
noncomputable def uK:List IS:=[.ret (.cmp .In aa (.tup [au "al",au "ax",au "eax",au "rax",au "cl",au "dx"]))]
noncomputable def qb:Gl:=[]
noncomputable def ou:List IS:=[.ret (.cmp .In (au "imm") aa)]
noncomputable def kK:Gl:=[]
noncomputable def qG:List IS:=[.ret (.cmp .Eq (.TL aa none (some iX)) (au "rel"))]
noncomputable def lV:Gl:=[]
noncomputable def oh:List IS:=[.ret (.or [.cmp .Eq (.TL aa none (some bn)) (au "m"),.cmp .Eq (.TL aa none (some cH)) (au "rm"),.cmp .Eq (.TL aa none (some cH)) (au "xm")])]
noncomputable def kR:Gl:=[]
noncomputable def tx:List IS:=[.Td (.or [.cmp .In aa (.tup [au "m",au "one"]),.Tf 0 [aa],.Tf 1 [aa]]) [.ret aF] [],.Td (.Tf 2 [aa]) [.ret (.sub (.Tl ["al","ax","eax","rax","cl","dx"] [bc,dE,iu,cb,bc,dE]) aa)] [],.Td (.cmp .Eq aa (au "x")) [.ret lH] [],.ret (.blt .int 3 [.stm .lstrip aa [au "rmox"]])]
noncomputable def nV:Gl:=[("is_immediate",aE 134),("is_relative",aE 141),("is_fixed",aE 127),("int",.cst (.type "int"))]
noncomputable def rI:List IS:=[.Td (.Tf 0 [aa]) [.ret (.bin .FloorDiv (.blt .int 1 [.TL aa (some (.bin .Add (.stm .index aa [au "imm"]) iX)) none]) bc)] [],.Td (.Tf 2 [aa]) [.ret (.bin .FloorDiv (.blt .int 1 [.TL aa (some iX) none]) bc)] [],.ret aF]
noncomputable def nu:Gl:=[("is_immediate",aE 134),("int",.cst (.type "int")),("is_relative",aE 141)]
noncomputable def xL:List IS:=[.Td (.or [.Tf 0 [aa],.cmp .Eq aa (au "one")]) [.ret (au "fixed")] [],.Td (.Tf 1 [aa]) [.ret (au "imm")] [],.Td (.Tf 2 [aa]) [.ret (au "rel")] [],.Td (.Tf 3 [aa]) [.ret (au "rm")] [],.ret (.Td (.cmp .Eq (.TL aa none (some bn)) (au "o")) (au "plus") (au "reg"))]
noncomputable def q7:Gl:=[("is_fixed",aE 127),("is_immediate",aE 134),("is_relative",aE 141),("takes_memory",aE 148)]
noncomputable def tB:List IS:=[.asg (.attr aa 0) aj,.asg (.attr aa 1) (.blt .tuple 0 [ay]),.asg (.attr aa 2) aJ,.asg (.attr aa 3) aW,.asg (.attr aa 4) bQ,.asg (.attr aa 5) bZ,.asg (.attr aa 6) ej,.asg (.attr aa 7) lr,.asg (.attr aa 8) (.neg 1),.asg (.attr aa 9) (.blt .tuple 0 [.comp (.Tf 1 [aa]) [] .seq 0 (.attr aa 1) []])]
noncomputable def n6:Gl:=[("tuple",.cst (.type "tuple")),("slot_of",aE 169)]
noncomputable def rB:List IS:=[.ret (.blt .list 0 [.attr aa 9])]
noncomputable def nj:Gl:=[("list",.cst (.type "list"))]
noncomputable def lD:List IS:=[.ret (.or [.cmp .GtE (.attr aa 4) aF,.cmp .In (au "rm") (.attr aa 9),.cmp .In (au "reg") (.attr aa 9)])]
noncomputable def jG:Gl:=[]
noncomputable def mC:List IS:=[.ret (.cmp .In (au "plus") (.attr aa 9))]
noncomputable def j1:Gl:=[]
noncomputable def vU:List IS:=[.ret (.and [.cmp .In (.attr aa 0) (.stm .split1 (.glob 0) [au " "]),.cmp .Gt (.blt .len 1 [.attr aa 1]) aF,.Tf 2 [.sub (.attr aa 1) aF]])]
noncomputable def pJ:Gl:=[("LOCKED",.str "add adc and or sbb sub xor inc dec neg not xchg xadd cmpxchg bts btr btc"),("len",.cst (.builtin "len")),("takes_memory",aE 148)]
noncomputable def wB:List IS:=[.Td (.cmp .In aa (.stm .split1 (.glob 0) [au " "])) [.ret (.lst [au "rep"])] [],.ret (.Td (.cmp .In aa (.stm .split1 (.glob 1) [au " "])) (.lst [au "rep",au "repne"]) (.lst []))]
noncomputable def rC:Gl:=[("MOVED",.str "movsb movsw movsd movsq stosb stosw stosd stosq lodsb lodsw lodsd lodsq"),("COMPARED",.str "cmpsb cmpsw cmpsd cmpsq scasb scasw scasd scasq")]
noncomputable def ox:List IS:=[.asg (.attr aa 10) aj]
noncomputable def kE:Gl:=[]
noncomputable def u7:List IS:=[.exp (.sup 0 44 [aa,au "reg"]),.asg (.attr aa 11) aj]
noncomputable def pZ:Gl:=[("Operand",aE 283)]
noncomputable def uC:List IS:=[.ret (.tup [au "reg",.attr (.attr aa 11) 0])]
noncomputable def qa:Gl:=[]
noncomputable def uy:List IS:=[.exp (.sup 0 44 [aa,au "imm"]),.asg (.attr aa 12) aj,.asg (.attr aa 0) ay]
noncomputable def pR:Gl:=[("Operand",aE 283)]
noncomputable def vJ:List IS:=[.ret (.tup [au "imm",.attr aa 12,.attr aa 0])]
noncomputable def qD:Gl:=[]
noncomputable def uJ:List IS:=[.exp (.sup 0 44 [aa,au "mem"]),.asg (.attr aa 13) aj,.asg (.attr aa 14) ay,.asg (.attr aa 15) aJ,.asg (.attr aa 12) aW,.asg (.attr aa 5) bQ,.asg (.attr aa 16) bZ,.asg (.attr aa 0) ej]
noncomputable def pY:Gl:=[("Operand",aE 283)]
noncomputable def uH:List IS:=[.asg (.var 1) (.Td (.cmp .Is (.attr aa 13) (.k .none)) (au "") (.attr (.attr aa 13) 0)),.asg (.var 2) (.Td (.cmp .Is (.attr aa 14) (.k .none)) (au "") (.attr (.attr aa 14) 0)),.ret (.tup [au "mem",aj,ay,.attr aa 15,.attr aa 12,.attr aa 5,.attr aa 16,.attr aa 0])]
noncomputable def qe:Gl:=[]
noncomputable def fK:List IS:=[.asg (.attr aa 0) aj,.asg (.attr aa 17) (.blt .tuple 0 [ay]),.asg (.attr aa 18) aJ]
noncomputable def eD:Gl:=[("tuple",.cst (.type "tuple"))]
noncomputable def fM:List IS:=[.ret (.tup [.attr aa 0,.attr aa 18,.blt .tuple 0 [.comp (.TG aa 45 []) [] .seq 0 (.attr aa 17) []]])]
noncomputable def cP:Gl:=[("tuple",.cst (.type "tuple"))]
noncomputable def mu:List IS:=[.asg (.attr aa 0) aj,.asg (.attr aa 10) ay,.asg (.attr aa 8) aJ,.asg (.attr aa 5) aW]
noncomputable def jX:Gl:=[]
noncomputable def p8:List IS:=[.Td (.cmp .Eq aa cb) [.ret (.stm .split0 (.glob 0) [])] [],.Td (.cmp .Eq aa iu) [.ret (.stm .split0 (.glob 1) [])] [],.Td (.cmp .Eq aa dE) [.ret (.stm .split0 (.glob 2) [])] [],.Td (.cmp .Eq aa bc) [.ret (.stm .split0 (.glob 3) [])] [],.ret (.lst [])]
noncomputable def lu:Gl:=[("NAMES_64",.str "rax rcx rdx rbx rsp rbp rsi rdi"),("NAMES_32",.str "eax ecx edx ebx esp ebp esi edi"),("NAMES_16",.str "ax cx dx bx sp bp si di"),("NAMES_8",.str "al cl dl bl spl bpl sil dil")]
noncomputable def pw:List IS:=[.Td (.cmp .Eq aa iu) [.ret (au "d")] [],.Td (.cmp .Eq aa dE) [.ret (au "w")] [],.Td (.cmp .Eq aa bc) [.ret (au "b")] [],.ret (au "")]
noncomputable def lK:Gl:=[]
noncomputable def J6:List IS:=[.asg (.var 2) (.Tf 0 [aj]),.Td (.or [.cmp .Eq ay (.lst []),.nt (.Uh .LtE .LtE aF aa (.k (.int 15)))]) [.TM 1 "no such register"] [],.Td (.cmp .Lt aa bc) [.ret (.ccl 2 [.sub ay aa,au "gpr",aa,aj])] [],.ret (.ccl 2 [.bin .Add (.bin .Add (au "r") (.blt .str 3 [aa])) (.Tf 4 [aj]),au "gpr",aa,aj])]
noncomputable def AI:Gl:=[("early_names",aE 566),("OperandError",aE 59),("Register",aE 555),("str",.cst (.type "str")),("late_ending",aE 573)]
noncomputable def Ez:List IS:=[.Td (.nt (.Uh .LtE .LtE cz aa xY)) [.TM 0 "no such high register"] [],.ret (.ccl 1 [.sub (.stm .split0 (.glob 2) []) (.bin .Sub aa cz),au "high",aa,bc])]
noncomputable def xD:Gl:=[("OperandError",aE 59),("Register",aE 555),("HIGH_NAMES",.str "ah ch dh bh")]
noncomputable def Jp:List IS:=[.ret (.ccl 0 [au "rip",au "rip",aF,cb])]
noncomputable def zU:Gl:=[("Register",aE 555)]
noncomputable def on:List IS:=[.ret (.tup [.bin .FloorDiv aa cb,.bin .Mod (.bin .FloorDiv aa bc) bc,.bin .Mod aa bc])]
noncomputable def kM:Gl:=[]
noncomputable def oj:List IS:=[.ret (.Tf 0 [aa])]
noncomputable def kB:Gl:=[("unpack_three",aE 608)]
noncomputable def rG:List IS:=[.ret (.Tf 0 [aa])]
noncomputable def mN:Gl:=[("unpack_three",aE 608)]
noncomputable def vN:List IS:=[.Td (.cmp .GtE aj (.blt .len 0 [aa])) [.TM 1 "the octets end"] [],.ret (.sub aa aj)]
noncomputable def qL:Gl:=[("len",.cst (.builtin "len")),("DecodeError",aE 83)]
noncomputable def mK:List IS:=[.Td (.cmp .Eq aa iX) [.ret aF] [],.Td (.cmp .Eq aa bn) [.ret bn] [],.Td (.cmp .Eq aa cH) [.ret cz] [],.Td (.cmp .Eq aj (.glob 0)) [.ret cz] [],.ret (.Td (.and [.cmp .Eq aj (.glob 1),.cmp .Eq (.bin .Mod ay bc) (.glob 2)]) cz aF)]
noncomputable def jR:Gl:=[("FROM_RIP",.int 5),("WITH_SIB",.int 4),("NO_BASE",.int 5)]
noncomputable def gC:List IS:=[.asg (.tup [.var 2,.var 3,.var 4]) (.Tf 0 [.Tf 1 [aa,aj]]),.asg (.var 1) (.bin .Add aj bn),.asg (.var 5) (.neg 1),.Td (.and [.cmp .NotEq ay iX,.cmp .Eq aW (.glob 2)]) [.asg (.var 5) (.Tf 1 [aa,aj]),.asg (.var 1) (.bin .Add aj bn)] [],.asg (.var 6) (.Tf 3 [ay,aW,bQ]),.Td (.cmp .Gt (.bin .Add aj bZ) (.blt .len 4 [aa])) [.TM 5 "the octets end"] [],.asg (.var 7) (.Td (.cmp .Gt bZ aF) (.Tf 6 [.TL aa (some aj) (some (.bin .Add aj bZ))]) aF),.ret (.tup [ay,aJ,aW,bQ,ej,bZ,.bin .Add aj bZ])]
noncomputable def fa:Gl:=[("unpack_modrm",aE 615),("octet_at",aE 629),("WITH_SIB",.int 4),("disp_width_of",aE 636),("len",.cst (.builtin "len")),("DecodeError",aE 83),("from_little_signed",aE 120)]
noncomputable def sU:List IS:=[.Td (.cmp .NotEq aj (.glob 0)) [.Td (.and [.cmp .Eq aa aF,.cmp .Eq aj (.glob 1)]) [.ret (.ccl 2 [.Tf 3 [],.k .none,bn,aJ,bZ,ej])] [],.ret (.ccl 2 [.Tf 4 [.bin .Add aj (.bin .Mult bc bQ),cb],.k .none,bn,aJ,bZ,ej])] [],.asg (.tup [.var 8,.var 9,.var 10]) (.Tf 5 [ay]),.asg (.var 11) (.Td (.and [.cmp .Eq aa aF,.cmp .Eq iG (.glob 6)]) (.k .none) (.Tf 4 [.bin .Add iG (.bin .Mult bc bQ),cb])),.Td (.and [.cmp .Eq qr (.glob 7),.cmp .Eq aW aF]) [.ret (.ccl 2 [fH,.k .none,bn,aJ,bZ,ej])] [],.ret (.ccl 2 [fH,.Tf 4 [.bin .Add qr (.bin .Mult bc aW),cb],.bin .LShift bn lr,aJ,bZ,ej])]
noncomputable def nW:Gl:=[("WITH_SIB",.int 4),("FROM_RIP",.int 5),("Mem",aE 446),("rip",aE 601),("gpr",aE 580),("unpack_sib",aE 622),("NO_BASE",.int 5),("NO_INDEX",.int 4)]
noncomputable def ux:List IS:=[.Td (.cmp .Lt aa aF) [.ret (.tup [aF,aF,aF,aF])] [],.ret (.tup [.bin .Mod (.bin .FloorDiv aa bc) cH,.bin .Mod (.bin .FloorDiv aa cz) cH,.bin .Mod (.bin .FloorDiv aa cH) cH,.bin .Mod aa cH])]
noncomputable def pd:Gl:=[]
noncomputable def Au:List IS:=[.ret (.cmp .Eq (.bin .FloorDiv aa dE) cz)]
noncomputable def ue:Gl:=[]
noncomputable def wj:List IS:=[.Td (.or [.cmp .Eq aa (.glob 0),.cmp .Eq aa (.glob 1)]) [.ret (au "segment")] [],.Td (.cmp .Eq aa (.glob 2)) [.ret (au "data")] [],.Td (.or [.cmp .Eq aa (.glob 3),.cmp .Eq aa (.glob 4)]) [.ret (au "repeat")] [],.Td (.cmp .Eq aa (.glob 5)) [.ret (au "lock")] [],.ret (.Td (.cmp .In aa (.tup [.k (.int 38),wT,.k (.int 54),.k (.int 62),.k (.int 103)])) (au "barred") (au ""))]
noncomputable def rg:Gl:=[("FS",.int 100),("GS",.int 101),("DATA_prefixes",.int 102),("REP",.int 243),("REPNE",.int 242),("LOCK",.int 240)]
noncomputable def mv:List IS:=[.asg (.attr aa 16) aj,.asg (.attr aa 19) ay,.asg (.attr aa 20) aJ,.asg (.attr aa 21) aW,.asg (.attr aa 22) bQ]
noncomputable def jW:Gl:=[]
noncomputable def jT:List IS:=[.ret (.cmp .GtE (.attr aa 22) aF)]
noncomputable def iN:Gl:=[]
noncomputable def vS:List IS:=[.ret (.ccl 0 [.attr aa 16,.attr aa 19,.attr aa 20,.attr aa 21,aj])]
noncomputable def pF:Gl:=[("Prefixes",aE 731)]
noncomputable def pt:List IS:=[.asg (.var 2) (.Tf 0 [aj]),.Td (.cmp .Eq ay (au "barred")) [.TM 1 "a prefix that is not taken"] [],.Td (.TG aa 46 []) [.TM 1 "a prefix behind REX"] [],.Td (.cmp .Eq ay (au "segment")) [.Td (.cmp .NotEq (.attr aa 16) (au "")) [.TM 1 "two segments"] [],.asg (.var 3) (.Td (.cmp .Eq aj (.glob 2)) (au "fs") (au "gs")),.ret (.ccl 3 [aJ,.attr aa 19,.attr aa 20,.attr aa 21])] [],.Td (.cmp .Eq ay (au "data")) [.Td (.attr aa 19) [.TM 1 "0x66 twice"] [],.ret (.ccl 3 [.attr aa 16,.k (.bool true),.attr aa 20,.attr aa 21])] [],.Td (.cmp .Eq ay (au "repeat")) [.Td (.or [.cmp .NotEq (.attr aa 20) aF,.attr aa 21]) [.TM 1 "a repeat twice, or beside lock"] [],.ret (.ccl 3 [.attr aa 16,.attr aa 19,aj,.k (.bool false)])] [],.Td (.or [.attr aa 21,.cmp .NotEq (.attr aa 20) aF]) [.TM 1 "lock twice, or beside a repeat"] [],.ret (.ccl 3 [.attr aa 16,.attr aa 19,aF,.k (.bool true)])]
noncomputable def lI:Gl:=[("sort_of",aE 678),("DecodeError",aE 83),("FS",.int 100),("Prefixes",aE 731)]
noncomputable def mX:List IS:=[.asg (.var 2) (.ccl 0 []),.whl (.cmp .Lt aj (.blt .len 1 [aa])) [.asg (.var 3) (.sub aa aj),.Td (.Tf 2 [aJ]) [.Td (.TG ay 46 []) [.TM 3 "REX twice"] [],.asg (.var 2) (.Tf 4 [ay,aJ])] [.Td (.cmp .NotEq (.Tf 5 [aJ]) (au "")) [.asg (.var 2) (.Tf 6 [ay,aJ])] [.ret (.tup [ay,aj])]],.asg (.var 1) (.bin .Add aj bn)],.ret (.tup [ay,aj])]
noncomputable def bC:Gl:=[("Prefixes",aE 731),("len",.cst (.builtin "len")),("is_rex",aE 664),("DecodeError",aE 83),("with_rex",aE 742),("sort_of",aE 678),("with_legacy",aE 749)]
noncomputable def iY:List IS:=[.asg (.attr aa 23) aj,.asg (.attr aa 24) ay,.asg (.attr aa 25) aJ,.asg (.attr aa 26) aW]
noncomputable def gd:Gl:=[]
noncomputable def iU:List IS:=[.ret (.tup [.TG (.attr aa 23) 45 [],.attr aa 24])]
noncomputable def f7:Gl:=[]
noncomputable def rz:List IS:=[.asg (.attr aa 27) aj,.asg (.attr aa 26) ay,.asg (.attr aa 28) aJ,.asg (.var 4) (.Tf 0 [.attr ay 22]),.asg (.attr aa 29) (.sub aW aF),.asg (.attr aa 30) (.sub aW bn),.asg (.attr aa 31) (.sub aW cH),.asg (.attr aa 32) (.sub aW iX),.asg (.attr aa 3) aF,.asg (.attr aa 2) aF,.asg (.attr aa 6) aF,.asg (.attr aa 33) aJ,.asg (.attr aa 34) (.neg 1),.asg (.attr aa 35) aF,.asg (.attr aa 36) aF,.asg (.attr aa 37) (.neg 1),.asg (.attr aa 38) aF,.asg (.attr aa 39) aF,.asg (.attr aa 40) aJ]
noncomputable def mF:Gl:=[("rex_bits",aE 657)]
noncomputable def nh:List IS:=[.ret (.cmp .GtE (.attr (.attr aa 26) 22) aF)]
noncomputable def jV:Gl:=[]
noncomputable def kS:List IS:=[.ret (.and [.attr (.attr aa 26) 19,.cmp .NotEq (.attr aa 6) (.glob 0)])]
noncomputable def i7:Gl:=[("DATA_decoder",.int 102)]
noncomputable def kq:List IS:=[.asg (.var 2) (.attr aa 28),.Td (.cmp .Eq (.TL aj (some ay) (some (.bin .Add ay bn))) (.blt .bytes 0 [.lst [.glob 1]])) [.asg (.attr aa 3) bn,.asg (.var 2) (.bin .Add ay bn)] [],.Td (.cmp .GtE ay (.blt .len 2 [aj])) [.TM 3 "the octets end ahead of the opcode"] [],.asg (.attr aa 2) (.sub aj ay),.asg (.attr aa 33) (.bin .Add ay bn),.asg (.attr aa 40) (.bin .Add ay bn)]
noncomputable def jc:Gl:=[("bytes",.cst (.type "bytes")),("ESCAPE",.int 15),("len",.cst (.builtin "len")),("DecodeError",aE 83)]
noncomputable def kt:List IS:=[.fr .seq 0 [.tup [.attr (.attr aa 26) 20,.Td (.attr (.attr aa 26) 19) (.glob 0) aF]] (.var 2) [.Td (.and [.cmp .NotEq ay aF,.cmp .NotEq (.TG aj 47 [ay,.attr aa 3,.attr aa 2]) (.lst [])]) [.asg (.attr aa 6) ay,.Ud] []]]
noncomputable def jf:Gl:=[("DATA_decoder",.int 102)]
noncomputable def jZ:List IS:=[.asg (.var 2) (.Tf 0 [aj,.attr aa 33]),.asg (.tup [.attr aa 34,.attr aa 35,.attr aa 36]) (.tup [.sub ay aF,.sub ay bn,.sub ay cH]),.asg (.tup [.attr aa 37,.attr aa 38,.attr aa 39]) (.tup [.sub ay iX,.sub ay cz,.sub ay se]),.asg (.attr aa 40) (.sub ay y0)]
noncomputable def iE:Gl:=[("read_modrm",aE 643)]
noncomputable def tv:List IS:=[.Td (.or [.cmp .Eq (.attr aa 5) aF,.cmp .Eq (.attr aa 5) bc]) [.ret (.k (.bool true))] [],.Td (.attr aa 7) [.ret (.cmp .Eq (.attr aa 5) (.Td (.TG aj 48 []) dE cb))] [],.Td (.cmp .Eq (.attr aj 29) bn) [.ret (.cmp .Eq (.attr aa 5) cb)] [],.ret (.cmp .Eq (.attr aa 5) (.Td (.TG aj 48 []) dE iu))]
noncomputable def nY:Gl:=[]
noncomputable def uF:List IS:=[.ret (.or [.cmp .Lt aj (.glob 0),.nt (.blt .any 1 [.comp (.cmp .Eq (.TL aa none (some bn)) (au "m")) [] .seq 0 (.attr aa 1) []])])]
noncomputable def pa:Gl:=[("REGISTER",.int 3),("any",.cst (.builtin "any"))]
noncomputable def vP:List IS:=[.Td (.or [.cmp .Eq (.attr aj 3) bn,.cmp .NotEq (.attr aj 2) (.glob 0)]) [.ret (.k (.bool true))] [],.asg (.var 2) (.and [.cmp .Eq (.attr aj 32) aF,.cmp .Eq (.attr aj 29) aF,.nt (.attr (.attr aj 26) 19)]),.ret (.cmp .Eq (.cmp .Eq (.attr aa 0) (au "nop")) ay)]
noncomputable def qV:Gl:=[("NOP",.int 144)]
noncomputable def rS:List IS:=[.fr .seq 0 [aa] (.var 2) [.Td (.and [.cmp .GtE (.attr ay 4) aF,.cmp .NotEq (.attr ay 4) (.attr aj 35)]) [.cont] [],.Td (.and [.Tf 0 [ay,aj],.Tf 1 [ay,.attr aj 34],.Tf 2 [ay,aj]]) [.ret ay] []],.TM 3 "no instruction has this opcode"]
noncomputable def eE:Gl:=[("fits_size",aE 847),("fits_mod",aE 852),("fits_nop",aE 859),("DecodeError",aE 83)]
noncomputable def qn:List IS:=[.Td (.and [.cmp .Eq aj bc,.nt ay,.Uh .LtE .LtE cz aa xY]) [.ret (.Tf 0 [aa])] [],.ret (.Tf 1 [aa,aj])]
noncomputable def l9:Gl:=[("high",aE 587),("gpr",aE 580)]
noncomputable def qw:List IS:=[.asg (.var 2) (.bin .Add (.attr aj 35) (.bin .Mult bc (.attr aj 30))),.Td (.cmp .Eq aa (au "x")) [.ret (.ccl 0 [.Tf 1 [ay]])] [],.ret (.ccl 0 [.Tf 2 [ay,.Tf 3 [aa],.TG aj 46 []]])]
noncomputable def lU:Gl:=[("Reg",aE 318),("xmm",aE 594),("register_at",aE 873),("kind_size",aE 155)]
noncomputable def km:List IS:=[.Td (.cmp .Lt (.attr aj 34) (.glob 0)) [.asg (.tup [.var 2,.var 3]) (.tup [.Tf 1 [aa],.attr (.attr aj 26) 16]),.ret (.Tf 2 [.attr aj 34,.attr aj 36,.attr aj 37,.attr aj 38,.attr aj 31,.attr aj 32,ay,aJ])] [],.asg (.var 4) (.bin .Add (.attr aj 36) (.bin .Mult bc (.attr aj 32))),.Td (.cmp .Eq (.TL aa none (some bn)) (au "x")) [.ret (.ccl 3 [.Tf 4 [aW]])] [],.ret (.ccl 3 [.Tf 5 [aW,.Tf 1 [aa],.TG aj 46 []]])]
noncomputable def gW:Gl:=[("REGISTER",.int 3),("kind_size",aE 155),("memory_of",aE 650),("Reg",aE 318),("xmm",aE 594),("register_at",aE 873)]
noncomputable def nc:List IS:=[.Td (.cmp .Eq aa (au "one")) [.ret (.ccl 0 [bn])] [],.Td (.cmp .Eq aa (au "cl")) [.ret (.ccl 1 [.Tf 2 [bn,bc]])] [],.Td (.cmp .Eq aa (au "dx")) [.ret (.ccl 1 [.Tf 2 [cH,dE]])] [],.ret (.ccl 1 [.Tf 2 [aF,.Tf 3 [aa]]])]
noncomputable def jS:Gl:=[("Imm",aE 352),("Reg",aE 318),("gpr",aE 580),("kind_size",aE 155)]
noncomputable def uV:List IS:=[.asg (.var 3) (.blt .bytes 0 [.TL aa (some aj) (some (.bin .Add aj ay))]),.Td (.cmp .Lt (.blt .len 1 [aJ]) ay) [.TM 2 "the octets end within an immediate"] [],.ret aJ]
noncomputable def pK:Gl:=[("bytes",.cst (.type "bytes")),("len",.cst (.builtin "len")),("DecodeError",aE 83)]
noncomputable def kW:List IS:=[.Td (.cmp .Eq aj (au "rel")) [.ret (.ccl 0 [.Tf 1 [ay]])] [],.Td (.or [.cmp .Eq aa (au "simm8"),.cmp .Eq aa (au "simm32")]) [.ret (.ccl 2 [.Tf 1 [ay]])] [],.ret (.ccl 2 [.Tf 3 [ay]])]
noncomputable def i9:Gl:=[("Rel",aE 393),("from_little_signed",aE 120),("Imm",aE 352),("from_little",aE 113)]
noncomputable def cZ:List IS:=[.asg (.tup [.var 3,.var 4]) (.tup [.lst [],.attr aj 40]),.fr .zip 0 [.attr aa 1,.TG aa 49 []] (.tup [.var 5,.var 6]) [.Td (.cmp .Eq bZ (au "reg")) [.exp (.stm .append aJ [.Tf 1 [bQ,aj]])] [.Td (.cmp .Eq bZ (au "rm")) [.exp (.stm .append aJ [.Tf 2 [bQ,aj]])] [.Td (.cmp .Eq bZ (au "plus")) [.exp (.stm .append aJ [.Tf 3 [bQ,aj]])] [.Td (.or [.cmp .Eq bZ (au "fixed"),.cmp .Eq bQ (au "one")]) [.exp (.stm .append aJ [.Tf 4 [bQ]])] [.asg (.var 7) (.Tf 5 [bQ]),.exp (.stm .append aJ [.Tf 6 [bQ,bZ,.Tf 7 [ay,aW,ej]]]),.asg (.var 4) (.bin .Add aW ej)]]]]],.ret (.tup [aJ,aW])]
noncomputable def cr:Gl:=[("zip",.cst (.type "zip")),("reg_operand",aE 880),("rm_operand",aE 887),("plus_operand",aE 894),("fixed_operand",aE 901),("kind_width",aE 162),("written_operand",aE 915),("field_at",aE 908)]
noncomputable def cw:List IS:=[.Td (.and [.TG aj 48 [],.cmp .NotEq (.attr aa 5) dE]) [.TM 0 "0x66 is not used"] [],.Td (.attr (.attr aj 26) 21) [.Td (.or [.nt (.Tf 1 [aa]),.cmp .NotEq (.attr (.sub ay aF) 10) (au "mem")]) [.TM 0 "lock is not used"] []] [],.Td (.and [.cmp .NotEq (.attr (.attr aj 26) 16) (au ""),.nt (.blt .any 2 [.comp (.cmp .Eq (.attr aa 10) (au "mem")) [] .seq 0 ay []])]) [.TM 0 "the segment is not used"] []]
noncomputable def bI:Gl:=[("DecodeError",aE 83),("can_lock",aE 238),("any",.cst (.builtin "any"))]
noncomputable def p9:List IS:=[.Td (.attr (.attr aj 26) 21) [.ret (au "lock")] [],.asg (.var 2) (.attr (.attr aj 26) 20),.Td (.or [.cmp .Eq ay aF,.cmp .Eq ay (.attr aj 6)]) [.ret (au "")] [],.asg (.var 3) (.Td (.cmp .Eq ay (.k (.int 243))) (au "rep") (au "repne")),.Td (.cmp .NotIn aJ (.Tf 0 [.attr aa 0])) [.TM 1 "the repeat is not used"] [],.ret aJ]
noncomputable def lS:Gl:=[("repeats",aE 245),("DecodeError",aE 83)]
noncomputable def fo:List IS:=[.asg (.tup [.var 3,.var 4]) (.Tf 0 [aj,ay]),.asg (.var 5) (.ccl 1 [ay,aJ,aW]),.exp (.TG bQ 50 [aj]),.exp (.TG bQ 51 [aa]),.asg (.var 6) (.TG aa 47 [.attr bQ 6,.attr bQ 3,.attr bQ 2]),.Td (.blt .any 2 [.comp (.TG aa 52 []) [] .seq 0 bZ []]) [.exp (.TG bQ 53 [aj])] [],.ret (.tup [bQ,.Tf 3 [bZ,bQ]])]
noncomputable def bg:Gl:=[("read_prefixes",aE 756),("Frame",aE 836),("any",.cst (.builtin "any")),("picked",aE 866)]
noncomputable def rQ:List IS:=[.asg (.tup [.var 3,.var 4]) (.Tf 0 [aa,aj,ay]),.asg (.tup [.var 5,.var 6]) (.Tf 1 [aW,aJ,aj]),.Td (.cmp .Gt (.bin .Sub bZ ay) (.glob 2)) [.TM 3 "an instruction has at most 15 octets"] [],.exp (.Tf 4 [aW,aJ,bQ]),.asg (.var 7) (.ccl 5 [.attr aW 0,bQ,.Tf 6 [aW,aJ]]),.ret (.ccl 7 [ej,.bin .Sub bZ ay,aW,.attr aJ 26])]
noncomputable def lC:Gl:=[("read_frame",aE 939),("operands_of",aE 922),("MOST_OCTETS",.int 15),("DecodeError",aE 83),("check_used",aE 927),("Instruction",aE 499),("prefix_word",aE 934),("Decoded",aE 780)]
noncomputable def rH:List IS:=[.ret (.lst [dE,iu,cb])]
noncomputable def mT:Gl:=[]
noncomputable def ra:List IS:=[.ret (.lst [bc,dE,iu,cb])]
noncomputable def nr:Gl:=[]
noncomputable def xa:List IS:=[.ret (.bin .Add aa (.blt .str 0 [aj]))]
noncomputable def rt:Gl:=[("str",.cst (.type "str"))]
noncomputable def qk:List IS:=[.Td (.cmp .Eq aa bc) [.ret (au "al")] [],.Td (.cmp .Eq aa dE) [.ret (au "ax")] [],.ret (.Td (.cmp .Eq aa iu) (au "eax") (au "rax"))]
noncomputable def lW:Gl:=[]
noncomputable def kG:List IS:=[.ret (.Td (.cmp .Eq aa cb) (au "simm32") (.bin .Add (au "imm") (.blt .str 0 [aa])))]
noncomputable def jb:Gl:=[("str",.cst (.type "str"))]
noncomputable def zL:List IS:=[.ret (.Td (.cmp .Eq aj bc) aa (.bin .Add aa bn))]
noncomputable def un:Gl:=[]
noncomputable def pi:List IS:=[.asg (.var 3) (.lst []),.fr .seq 0 [.Tf 0 []] (.var 4) [.asg (.var 5) (.tup [.Tf 1 [au "rm",aW],.Tf 1 [au "r",aW]]),.exp (.stm .append aJ [.ccl 2 [aa,bQ,.Tf 3 [aj,aW],ay,.neg 1,aW]])],.ret aJ]
noncomputable def lp:Gl:=[("every_size",aE 961),("kind_of",aE 968),("Form",aE 227),("paired",aE 989)]
noncomputable def rE:List IS:=[.asg (.var 3) (.lst []),.fr .seq 0 [.Tf 0 []] (.var 4) [.asg (.var 5) (.tup [.Tf 1 [au "r",aW],.Tf 1 [au "rm",aW]]),.exp (.stm .append aJ [.ccl 2 [aa,bQ,.Tf 3 [aj,aW],ay,.neg 1,aW]])],.ret aJ]
noncomputable def mH:Gl:=[("every_size",aE 961),("kind_of",aE 968),("Form",aE 227),("paired",aE 989)]
noncomputable def py:List IS:=[.asg (.var 3) (.lst []),.fr .seq 0 [.Tf 0 []] (.var 4) [.exp (.stm .append aJ [.ccl 1 [aa,.tup [.Tf 2 [au "rm",aW]],.Tf 3 [aj,aW],aF,ay,aW]])],.ret aJ]
noncomputable def lz:Gl:=[("every_size",aE 961),("Form",aE 227),("kind_of",aE 968),("paired",aE 989)]
noncomputable def ku:List IS:=[.asg (.var 3) (.lst []),.fr .seq 0 [.Tf 0 []] (.var 4) [.asg (.var 5) (.tup [.Tf 1 [au "rm",aW],.Tf 2 [aW]]),.exp (.stm .append aJ [.ccl 3 [aa,bQ,.Tf 4 [aj,aW],aF,ay,aW]])],.ret aJ]
noncomputable def ji:Gl:=[("every_size",aE 961),("kind_of",aE 968),("whole_immediate",aE 982),("Form",aE 227),("paired",aE 989)]
noncomputable def qP:List IS:=[.asg (.var 3) (.lst []),.fr .seq 0 [.Tf 0 []] (.var 4) [.exp (.stm .append aJ [.ccl 1 [aa,.tup [.Tf 2 [au "rm",aW],au "simm8"],aj,aF,ay,aW]])],.ret aJ]
noncomputable def lq:Gl:=[("wide_sizes",aE 954),("Form",aE 227),("kind_of",aE 968)]
noncomputable def jo:List IS:=[.asg (.var 2) (.lst []),.fr .seq 0 [.Tf 0 []] (.var 3) [.asg (.var 4) (.tup [.Tf 1 [aJ],.Tf 2 [aJ]]),.exp (.stm .append ay [.ccl 3 [aa,aW,.Tf 4 [aj,aJ],aF,.neg 1,aJ]])],.ret ay]
noncomputable def im:Gl:=[("every_size",aE 961),("accumulator",aE 975),("whole_immediate",aE 982),("Form",aE 227),("paired",aE 989)]
noncomputable def gE:List IS:=[.asg (.var 2) (.bin .Mult bc aj),.asg (.var 3) (.Tf 0 [aa,ay]),.exp (.stm .extend aJ [.Tf 1 [aa,.bin .Add ay cH]]),.exp (.stm .extend aJ [.Tf 2 [aa,l4,aj]]),.exp (.stm .extend aJ [.Tf 3 [aa,.bin .Add ay cz]]),.exp (.stm .extend aJ [.Tf 4 [aa,lH,aj]]),.ret aJ]
noncomputable def fb:Gl:=[("store_forms",aE 997),("load_forms",aE 1005),("short_forms",aE 1026),("accumulator_forms",aE 1033),("immediate_forms",aE 1019)]
noncomputable def q6:List IS:=[.asg (.var 0) (.Tf 0 [au "test",tH]),.exp (.stm .extend aa [.Tf 1 [au "test",ug]]),.exp (.stm .extend aa [.Tf 2 [au "test",lP,aF]]),.ret aa]
noncomputable def mR:Gl:=[("store_forms",aE 997),("accumulator_forms",aE 1033),("immediate_forms",aE 1019)]
noncomputable def n4:List IS:=[.asg (.var 0) (.Tf 0 [au "inc",oX,aF]),.exp (.stm .extend aa [.Tf 0 [au "dec",oX,bn]]),.exp (.stm .extend aa [.Tf 0 [au "not",lP,cH]]),.exp (.stm .extend aa [.Tf 0 [au "neg",lP,iX]]),.ret aa]
noncomputable def kO:Gl:=[("group_forms",aE 1012)]
noncomputable def nT:List IS:=[.Td (.nt (.TG aa 54 [])) [.ret (.lst [.tup [.attr aa 6,.attr aa 3,.attr aa 2]])] [],.ret (.comp (.tup [.attr aj 6,.attr aj 3,.bin .Add (.attr aj 2) aa]) [0] .range 0 bc [])]
noncomputable def jC:Gl:=[("range",.cst (.type "range"))]
noncomputable def cQ:List IS:=[.asg (.attr aa 41) (.blt .list 0 [aj]),.asg (.attr aa 42) (.Tl [] []),.asg (.attr aa 43) (.Tl [] []),.fr .range 1 [.blt .len 2 [.attr aa 41]] (.var 2) [.asg (.var 3) (.sub (.attr aa 41) ay),.asg (.attr aJ 8) ay,.Td (.cmp .NotIn (.attr aJ 0) (.attr aa 42)) [.asg (.sub (.attr aa 42) (.attr aJ 0)) (.lst [])] [],.exp (.stm .append (.sub (.attr aa 42) (.attr aJ 0)) [aJ]),.fr .seq 0 [.Tf 3 [aJ]] (.var 4) [.Td (.cmp .NotIn aW (.attr aa 43)) [.asg (.sub (.attr aa 43) aW) (.lst [])] [],.exp (.stm .append (.sub (.attr aa 43) aW) [aJ])]]]
noncomputable def aL:Gl:=[("list",.cst (.type "list")),("range",.cst (.type "range")),("len",.cst (.builtin "len")),("codes_of",aE 1059)]
noncomputable def dp:List IS:=[.ret (.blt .list 0 [.stm .TX (.attr aa 43) [.tup [aj,ay,aJ],.lst []]])]
noncomputable def cI:Gl:=[("list",.cst (.type "list"))]
noncomputable def nM:List IS:=[.ret (.lst [.comp (.blt .int 0 [aa]) [] .seq 0 (.TL aa none (some (.k (.int 40)))) [],aF,aF])]
noncomputable def eI:Gl:=[("int",.cst (.type "int"))]
noncomputable def bw:List IS:=[.Td (.cmp .Gt (.sub aa cH) aF) [.asg (.var 2) (.bin .Mod (.blt .int 0 [.sub aa cH]) aj),.asg (.sub aa cH) (.bin .FloorDiv (.blt .int 0 [.sub aa cH]) aj),.ret ay] [],.asg (.var 3) (.sub aa bn),.asg (.sub aa bn) (.bin .Add aJ bn),.asg (.var 4) (.bin .Add (.bin .Add (.bin .Mult (.k (.int 60917)) aJ) (.k (.int 2293))) (.bin .Mod (.blt .int 0 [.blt .sum 1 [.TL (.sub aa aF) none (some bn)]]) (.k (.int 1000003)))),.Td (.cmp .NotEq (.sub aa aF) (.lst [])) [.asg (.var 4) (.sub (.sub aa aF) (.bin .Mod (.blt .int 0 [aJ]) (.blt .len 2 [.sub aa aF])))] [],.Td (.and [.cmp .Lt aJ (.blt .len 2 [.sub aa aF]),.cmp .GtE (.blt .abs 3 [aW]) (.bin .Pow (.k (.int 10)) (.k (.int 18)))]) [.asg (.var 5) (.bin .Sub (.blt .abs 3 [aW]) (.bin .Pow (.k (.int 10)) (.k (.int 18)))),.asg (.sub aa cH) (.bin .FloorDiv (.blt .int 0 [bQ]) aj),.ret (.bin .Mod (.blt .int 0 [bQ]) aj)] [],.asg (.var 6) (.bin .Mod (.blt .int 0 [.bin .Pow (.bin .Add (.bin .Add (.bin .Mod (.blt .int 0 [aW]) (.k (.int 2147483587))) (.bin .Mult (.k (.int 60917)) aJ)) (.k (.int 2293))) se]) (.k (.int 2147483629))),.asg (.var 6) (.bin .Mod (.blt .int 0 [.bin .Pow (.bin .Add (.bin .Add (.bin .Mult bZ (.bin .Add (.bin .Mult cH aJ) (.k (.int 5113)))) (.bin .Mult (.bin .Mult (.k (.int 40693)) aJ) aJ)) (.k (.int 37))) iX]) (.k (.int 2147483579))),.ret (.bin .Mod (.blt .int 0 [.bin .FloorDiv bZ iu]) aj)]
noncomputable def bF:Gl:=[("int",.cst (.type "int")),("sum",.cst (.builtin "sum")),("len",.cst (.builtin "len")),("abs",.cst (.builtin "abs"))]
noncomputable def lx:List IS:=[.ret (.sub aj (.Tf 0 [aa,.blt .len 1 [aj]]))]
noncomputable def iS:Gl:=[("_law_draw",aE 1146),("len",.cst (.builtin "len"))]
noncomputable def j8:List IS:=[.ret (.Tf 0 [aa,.lst [aF,sT,lH,.k (.int 127),bn,.Tf 1 [aa,oG]]])]
noncomputable def gQ:Gl:=[("_law_pick",aE 1153),("_law_draw",aE 1146)]
noncomputable def bJ:List IS:=[.asg (.var 2) (.lst []),.fr .range 0 [.Tf 1 [aa,cz]] (.var 3) [.exp (.stm .append ay [.Tf 2 [aa,.lst [.k (.int 102),.k (.int 72),.bin .Add cb (.Tf 1 [aa,dE]),.k (.int 100),.k (.int 240),.k (.int 102),.k (.int 101),.k (.int 65),.k (.int 243),wT]]])],.asg (.var 4) (.lst [.bin .Add (.bin .Mult bc (.sub aj aF)) (.Tf 1 [aa,y0]),.bin .Add (.bin .Mult bc (.sub aj bn)) (.Tf 1 [aa,y0])]),.asg (.var 4) (.bin .Add aW (.lst [lH,.k (.int 129),l4,l4,tH,.k (.int 133),ug,.k (.int 169),lP,.k (.int 247),oX,sT,.Tf 1 [aa,oG]])),.exp (.stm .append ay [.Tf 2 [aa,aW]]),.asg (.var 5) (.Tf 1 [aa,cz]),.asg (.var 6) (.Tf 2 [aa,.lst [.sub aj aF,.sub aj bn,aF,cH,iX,.Tf 1 [aa,bc]]]),.asg (.var 7) (.Tf 2 [aa,.lst [se,cz,cz,.Tf 1 [aa,bc]]]),.exp (.stm .append ay [.bin .Add (.bin .Add (.bin .Mult cb bQ) (.bin .Mult bc bZ)) ej]),.exp (.stm .append ay [.bin .Add (.bin .Add (.bin .Mult cb (.Tf 1 [aa,cz])) (.bin .Mult bc (.Tf 2 [aa,.lst [cz,.Tf 1 [aa,bc]]]))) (.Tf 2 [aa,.lst [se,cz,.Tf 1 [aa,bc]]])]),.fr .range 0 [bc] (.var 3) [.exp (.stm .append ay [.Tf 3 [aa]])],.asg (.var 8) (.Td (.cmp .Gt (.Tf 1 [aa,cz]) aF) (.blt .len 4 [ay]) (.Tf 1 [aa,.blt .len 4 [ay]])),.ret (.blt .bytes 5 [.TL ay none (some lr)])]
noncomputable def bh:Gl:=[("range",.cst (.type "range")),("_law_draw",aE 1146),("_law_pick",aE 1153),("_law_octet",aE 1160),("len",.cst (.builtin "len")),("bytes",.cst (.type "bytes"))]
noncomputable def mO:List IS:=[.asg (.var 1) (.Tz [100,101,102,242,243,240] [au "segment",au "segment",au "data",au "repeat",au "repeat",au "lock"]),.asg (.var 2) (.Tl ["segment","data","repeat","lock","rex"] [aF,aF,aF,aF,.neg 1]),.fr .enum 0 [aa] (.tup [.var 3,.var 4]) [.Td (.cmp .Eq (.bin .FloorDiv aW dE) cz) [.Td (.cmp .GtE (.sub ay (au "rex")) aF) [.ret (.k .none)] [],.asg (.sub ay (au "rex")) aW] [.Td (.cmp .In aW (.tup [.k (.int 38),wT,.k (.int 54),.k (.int 62),.k (.int 103)])) [.ret (.k .none)] [.Td (.cmp .In aW aj) [.Td (.or [.cmp .GtE (.sub ay (au "rex")) aF,.cmp .Gt (.sub ay (.sub aj aW)) aF]) [.ret (.k .none)] [],.asg (.sub ay (.sub aj aW)) aW] [.ret (.tup [ay,aJ])]]]],.ret (.k .none)]
noncomputable def aS:Gl:=[("enumerate",.cst (.type "enumerate"))]
noncomputable def sQ:List IS:=[.asg (.var 3) (.stm .split1 (.glob 0) [au " "]),.Td (.and [.cmp .Lt aa cb,.cmp .Lt (.bin .Mod aa bc) y0]) [.asg (.var 4) (.sub (.lst [.lst [au "rm",au "reg"],.lst [au "reg",au "rm"],.lst [au "acc",au "imm"]]) (.bin .FloorDiv (.bin .Mod aa bc) cH)),.ret (.Td (.cmp .In (.bin .FloorDiv aa bc) ay) (.tup [.sub aJ (.bin .FloorDiv aa bc),aW]) (.k .none))] [],.Td (.cmp .In aa (.tup [lH,.k (.int 129),l4])) [.ret (.Td (.cmp .In aj ay) (.tup [.sub aJ aj,.lst [au "rm",.Td (.cmp .Eq aa l4) (au "short") (au "imm")]]) (.k .none))] [],.Td (.cmp .In aa (.tup [tH,.k (.int 133)])) [.ret (.tup [au "test",.lst [au "rm",au "reg"]])] [],.Td (.cmp .In aa (.tup [ug,.k (.int 169)])) [.ret (.tup [au "test",.lst [au "acc",au "imm"]])] [],.Td (.and [.cmp .In aa (.tup [lP,.k (.int 247)]),.cmp .In aj (.tup [aF,cH,iX])]) [.ret (.tup [.sub (.lst [au "test",au "",au "not",au "neg"]) aj,.Td (.cmp .Eq aj aF) (.lst [au "rm",au "imm"]) (.lst [au "rm"])])] [],.ret (.Td (.and [.cmp .In aa (.tup [oX,sT]),.cmp .In aj (.tup [aF,bn])]) (.tup [.sub (.lst [au "inc",au "dec"]) aj,.lst [au "rm"]]) (.k .none))]
noncomputable def n9:Gl:=[("_law_folds",.str "add or adc sbb and sub xor cmp")]
noncomputable def nq:List IS:=[.asg (.var 3) (.stm .split1 (au "ax cx dx bx sp bp si di") [au " "]),.Td (.cmp .Gt aa xY) [.ret (.bin .Add (.bin .Add (au "r") (.blt .str 0 [aa])) (.sub (.Tz [8,16,32,64] [au "b",au "w",au "d",au ""]) aj))] [],.Td (.cmp .Gt aj bc) [.ret (.bin .Add (.sub (.Tz [16,32,64] [au "",au "e",au "r"]) aj) (.sub aJ aa))] [],.Td (.cmp .Lt aa cz) [.ret (.bin .Add (.sub (.sub aJ aa) aF) (au "l"))] [],.ret (.Td ay (.bin .Add (.sub aJ aa) (au "l")) (.bin .Add (.sub (.sub aJ (.bin .Sub aa cz)) aF) (au "h")))]
noncomputable def j0:Gl:=[("str",.cst (.type "str"))]
noncomputable def rh:List IS:=[.asg (.var 2) aF,.fr .enum 0 [aa] (.tup [.var 3,.var 4]) [.asg (.var 2) (.bin .Add ay (.bin .Mult aW (.bin .Pow oG aJ)))],.ret (.Td (.and [aj,.cmp .NotEq aa (.k (.bytes [])),.cmp .Gt (.sub aa (.neg 1)) (.k (.int 127))]) (.bin .Sub ay (.bin .Pow oG (.blt .len 1 [aa]))) ay)]
noncomputable def fi:Gl:=[("enumerate",.cst (.type "enumerate")),("len",.cst (.builtin "len"))]
noncomputable def be:List IS:=[.asg (.tup [.var 6,.var 7]) (.tup [.bin .FloorDiv (.sub aa aj) cb,.bin .Mod (.sub aa aj) bc]),.asg (.tup [.var 8,.var 9,.var 10,.var 11]) (.tup [.Tf 0 [.bin .Add ej (.bin .Mult bc aJ),cb,.k (.bool true)],au "",bn,.sub (.lst [aF,bn,cz]) bZ]),.asg (.var 1) (.bin .Add aj bn),.Td (.cmp .Eq ej cz) [.Td (.cmp .GtE aj (.blt .len 1 [aa])) [.ret (.k .none)] [],.asg (.tup [.var 12,.var 13,.var 14]) (.tup [.bin .FloorDiv (.sub aa aj) cb,.bin .Mod (.bin .FloorDiv (.sub aa aj) bc) bc,.bin .Mod (.sub aa aj) bc]),.asg (.tup [.var 1,.var 8]) (.tup [.bin .Add aj bn,.Tf 0 [.bin .Add tn (.bin .Mult bc aJ),cb,.k (.bool true)]]),.Td (.or [.cmp .NotEq pU cz,.cmp .Eq ay bn]) [.asg (.tup [.var 9,.var 10]) (.tup [.Tf 0 [.bin .Add pU (.bin .Mult bc ay),cb,.k (.bool true)],.bin .Pow cH ui])] [],.Td (.and [.cmp .Eq tn se,.cmp .Eq bZ aF]) [.asg (.tup [.var 8,.var 11]) (.tup [au "",cz])] []] [.Td (.and [.cmp .Eq ej se,.cmp .Eq bZ aF]) [.asg (.tup [.var 8,.var 11]) (.tup [au "rip",cz])] []],.asg (.var 15) (.TL aa (some aj) (some (.bin .Add aj fH))),.Td (.cmp .Lt (.blt .len 1 [Da]) fH) [.ret (.k .none)] [],.ret (.tup [.tup [au "mem",lr,qr,iG,.Tf 2 [Da,.k (.bool true)],aW,bQ,au ""],.bin .Add aj fH])]
noncomputable def aI:Gl:=[("_law_register",aE 1188),("len",.cst (.builtin "len")),("_law_worth",aE 1195)]
noncomputable def az:List IS:=[.asg (.tup [.var 6,.var 7,.var 8,.var 9]) aW,.asg (.tup [.var 10,.var 11]) (.tup [.Tl ["acc"] [.tup [au "reg",.Tf 0 [aF,aJ,bZ]]],aj]),.Td (.cmp .In (au "rm") ay) [.Td (.cmp .GtE aj (.blt .len 1 [aa])) [.ret (.k .none)] [],.asg (.sub iG (au "reg")) (.tup [au "reg",.Tf 0 [.bin .Add (.bin .Mod (.bin .FloorDiv (.sub aa aj) bc) bc) (.bin .Mult bc ej),aJ,bZ]]),.asg (.var 12) (.tup [.tup [au "reg",.Tf 0 [.bin .Add (.bin .Mod (.sub aa aj) bc) (.bin .Mult bc qr),aJ,bZ]],.bin .Add aj bn]),.Td (.cmp .Lt (.sub aa aj) (.k (.int 192))) [.asg (.var 12) (.Tf 2 [aa,aj,lr,qr,aJ,bQ])] [],.Td (.cmp .Is ui (.k .none)) [.ret (.k .none)] [],.asg (.tup [.sub iG (au "rm"),.var 11]) ui] [],.Td (.cmp .In (.sub ay (.neg 1)) (.tup [au "imm",au "short"])) [.asg (.var 13) (.Td (.or [.cmp .Eq aJ bc,.cmp .Eq (.sub ay (.neg 1)) (au "short")]) bn (.blt .min 3 [cz,.bin .FloorDiv aJ bc])),.asg (.var 14) (.TL aa (some fH) (some (.bin .Add fH pU))),.Td (.cmp .Lt (.blt .len 1 [tn]) pU) [.ret (.k .none)] [],.asg (.sub iG (.sub ay (.neg 1))) (.tup [au "imm",.Tf 4 [tn,.or [.cmp .Eq (.sub ay (.neg 1)) (au "short"),.cmp .Eq aJ cb]],au ""]),.asg (.var 11) (.bin .Add fH pU)] [],.ret (.tup [.blt .tuple 5 [.comp (.sub aj aa) [10] .seq 0 ay []],fH])]
noncomputable def ak:Gl:=[("_law_register",aE 1188),("len",.cst (.builtin "len")),("_law_memory",aE 1202),("min",.cst (.builtin "min")),("_law_worth",aE 1195),("tuple",.cst (.type "tuple"))]
noncomputable def ah:List IS:=[.asg (.var 2) (.Tf 0 [aa]),.Td (.or [.cmp .Is ay (.k .none),.cmp .Gt (.bin .Mult (.sub (.sub ay aF) (au "lock")) (.sub (.sub ay aF) (au "repeat"))) aF]) [.ret (.k .none)] [],.asg (.tup [.var 3,.var 4]) ay,.asg (.tup [.var 5,.var 6]) (.tup [.sub aa aW,.comp (.Td (.cmp .GtE (.sub aj (au "rex")) aF) (.bin .Mod (.bin .FloorDiv (.sub aj (au "rex")) (.bin .Pow cH aa)) cH) aF) [3] .seq 0 (.tup [iX,cH,bn,aF]) []]),.asg (.var 7) (.Tf 1 [bQ,.Td (.cmp .Lt (.bin .Add aW bn) (.blt .len 2 [aa])) (.bin .Mod (.bin .FloorDiv (.sub aa (.bin .Add aW bn)) bc) bc) (.neg 1),aj]),.asg (.var 8) (.Td (.cmp .Eq (.bin .Mod bQ cH) aF) bc (.Td (.cmp .Eq (.sub bZ aF) bn) cb (.Td (.cmp .Gt (.sub aJ (au "data")) aF) dE iu))),.Td (.or [.cmp .Is ej (.k .none),.cmp .Gt (.sub aJ (au "repeat")) aF,.and [.cmp .Gt (.sub aJ (au "data")) aF,.cmp .NotEq lr dE]]) [.ret (.k .none)] [],.asg (.var 9) (.sub (.Tz [0,100,101] [au "",au "fs",au "gs"]) (.sub aJ (au "segment"))),.asg (.var 10) (.Tf 3 [aa,.bin .Add aW bn,.sub ej bn,lr,.bin .Add (.lst [.cmp .GtE (.sub aJ (au "rex")) aF]) (.TL bZ (some bn) none),qr]),.Td (.cmp .Is iG (.k .none)) [.ret (.k .none)] [],.asg (.tup [.var 11,.var 12]) iG,.Td (.and [.cmp .Gt (.sub aJ (au "segment")) aF,.cmp .Eq (.comp aa [] .seq 0 fH [.cmp .Eq (.sub aa aF) (au "mem")]) (.lst [])]) [.ret (.k .none)] [],.Td (.and [.cmp .Gt (.sub aJ (au "lock")) aF,.or [.cmp .NotEq (.sub (.sub fH aF) aF) (au "mem"),.cmp .In (.sub ej aF) (.tup [au "cmp",au "test"])]]) [.ret (.k .none)] [],.ret (.tup [.tup [.sub ej aF,.Td (.cmp .Gt (.sub aJ (au "lock")) aF) (au "lock") (au ""),fH],ui])]
noncomputable def aK:Gl:=[("_law_prefixes",aE 1174),("_law_plan",aE 1181),("len",.cst (.builtin "len")),("_law_operands",aE 1207)]
noncomputable def dB:List IS:=[.asg (.var 1) (.Tf 0 [aa]),.asg (.var 2) (.Tf 1 [aj,bc]),.asg (.var 3) (.blt .sorted 2 [.lst [ay,.bin .Mod (.blt .int 3 [.bin .Add (.bin .Add ay bn) (.Tf 1 [aj,xY])]) bc]]),.asg (.var 4) (.bin .Add (.Tf 4 []) (.Tf 5 [])),.fr .seq 0 [aJ] (.var 5) [.asg (.var 4) (.bin .Add aW (.Tf 6 [.sub (.stm .split1 (.glob 7) [au " "]) bQ,bQ]))],.asg (.var 6) (.ccl 8 [aW]),.fr .range 9 [cz] (.var 7) [.asg (.tup [.var 8,.var 9]) (.tup [.Tf 10 [aj,aJ],.k .none]),.asg (.var 10) (.Tf 11 [lr,aJ]),.tri [.asg (.var 9) (.TG (.Tf 12 [bZ,lr]) 45 [])] 13 9,.Td (.cmp .NotEq qr iG) [.ret (.k (.bool false))] []],.ret (.k (.bool true))]
noncomputable def bT:Gl:=[("_law_pen",aE 1139),("_law_draw",aE 1146),("sorted",.cst (.builtin "sorted")),("int",.cst (.type "int")),("test_forms",aE 1047),("single_forms",aE 1054),("fold_forms",aE 1040),("_law_folds",.str "add or adc sbb and sub xor cmp"),("InstructionSet",aE 1130),("range",.cst (.type "range")),("_law_row",aE 1167),("_law_read",aE 1212),("decode",aE 947),("DecodeError",aE 83)]
noncomputable def Oj:List (Addr×Addr):=[(227,182),(283,259),(318,301),(352,335),(446,410),(499,463),(555,517),(731,693),(780,770),(836,798),(1130,1073)]
noncomputable def xT(C:Addr):Option Addr:=(Oj.find? (·.1==C)).map (·.2)
noncomputable def Oc:List (Addr×Nat×Addr):=[(227,44,182),(227,49,196),(227,52,203),(227,54,210),(283,44,259),(318,44,301),(318,45,308),(352,44,335),(352,45,342),(446,44,410),(446,45,417),(499,44,463),(499,45,468),(555,44,517),(731,44,693),(731,46,707),(780,44,770),(780,45,777),(836,44,798),(836,46,805),(836,48,812),(836,50,819),(836,51,826),(836,53,833),(1130,44,1073),(1130,47,1099)]
noncomputable def K3(C:Addr)(n:Nat):Option Addr:=(Oc.find? λx=>x.1==C&&x.2.1==n).map (·.2.2)
abbrev Info:=Addr×Bool×Bool×Nat×Nat×aV×Gl×List IS
noncomputable def dY:List Info:=[
 (92,false,false,1,1,[],ww,Gf),
 (99,false,false,2,2,[],xJ,GQ),
 (106,false,false,2,3,[],sv,Ao),
 (113,false,false,1,4,[],l3,qg),
 (120,false,false,1,1,[],gK,jj),
 (127,false,false,1,1,[],qb,uK),
 (134,false,false,1,1,[],kK,ou),
 (141,false,false,1,1,[],lV,qG),
 (148,false,false,1,1,[],kR,oh),
 (155,false,false,1,1,[],nV,tx),
 (162,false,false,1,1,[],nu,rI),
 (169,false,false,1,1,[],q7,xL),
 (182,true,false,9,9,[.int 0,.int (-1),.int 0,.int 0,.bool false],n6,tB),
 (196,false,false,1,1,[],nj,rB),
 (203,false,false,1,1,[],jG,lD),
 (210,false,false,1,1,[],j1,mC),
 (238,false,false,1,1,[],pJ,vU),
 (245,false,false,1,1,[],rC,wB),
 (259,true,false,2,2,[],kE,ox),
 (301,true,false,2,2,[],pZ,u7),
 (308,false,false,1,1,[],qa,uC),
 (335,true,false,3,3,[.str ""],pR,uy),
 (342,false,false,1,1,[],qD,vJ),
 (410,true,false,8,8,[.int 0,.str "",.str ""],pY,uJ),
 (417,false,false,1,3,[],qe,uH),
 (463,true,false,4,4,[.str ""],eD,fK),
 (468,false,false,1,1,[],cP,fM),
 (517,true,false,5,5,[],jX,mu),
 (566,false,false,1,1,[],lu,p8),
 (573,false,false,1,1,[],lK,pw),
 (580,false,false,2,3,[],AI,J6),
 (587,false,false,1,1,[],xD,Ez),
 (601,false,false,0,0,[],zU,Jp),
 (608,false,false,1,1,[],kM,on),
 (615,false,false,1,1,[],kB,oj),
 (622,false,false,1,1,[],mN,rG),
 (629,false,false,2,2,[],qL,vN),
 (636,false,false,3,3,[],jR,mK),
 (643,false,false,2,8,[],fa,gC),
 (650,false,false,8,12,[],nW,sU),
 (657,false,false,1,1,[],pd,ux),
 (664,false,false,1,1,[],ue,Au),
 (678,false,false,1,1,[],rg,wj),
 (693,true,false,6,6,[.str "",.bool false,.int 0,.bool false,.int (-1)],jW,mv),
 (707,false,false,1,1,[],iN,jT),
 (742,false,false,2,2,[],pF,vS),
 (749,false,false,2,4,[],lI,pt),
 (756,false,false,2,4,[],bC,mX),
 (770,true,false,5,5,[],gd,iY),
 (777,false,false,1,1,[],f7,iU),
 (798,true,false,4,5,[],mF,rz),
 (805,false,false,1,1,[],jV,nh),
 (812,false,false,1,1,[],i7,kS),
 (819,true,false,2,3,[],jc,kq),
 (826,true,false,2,3,[],jf,kt),
 (833,true,false,2,3,[],iE,jZ),
 (847,false,false,2,2,[],nY,tv),
 (852,false,false,2,2,[],pa,uF),
 (859,false,false,2,3,[],qV,vP),
 (866,false,false,2,3,[],eE,rS),
 (873,false,false,3,3,[],l9,qn),
 (880,false,false,2,3,[],lU,qw),
 (887,false,false,2,5,[],gW,km),
 (901,false,false,1,1,[],jS,nc),
 (908,false,false,3,4,[],pK,uV),
 (915,false,false,3,3,[],i9,kW),
 (922,false,false,3,8,[],cr,cZ),
 (927,false,false,3,3,[],bI,cw),
 (934,false,false,2,4,[],lS,p9),
 (939,false,false,3,7,[],bg,fo),
 (947,false,false,3,8,[.int 0],lC,rQ),
 (954,false,false,0,0,[],mT,rH),
 (961,false,false,0,0,[],nr,ra),
 (968,false,false,2,2,[],rt,xa),
 (975,false,false,1,1,[],lW,qk),
 (982,false,false,1,1,[],jb,kG),
 (989,false,false,2,2,[],un,zL),
 (997,false,true,3,6,[.int 0],lp,pi),
 (1005,false,true,3,6,[.int 0],mH,rE),
 (1012,false,true,3,5,[],lz,py),
 (1019,false,true,3,6,[],ji,ku),
 (1026,false,true,3,5,[],lq,qP),
 (1033,false,true,2,5,[],im,jo),
 (1040,false,true,2,4,[],fb,gE),
 (1047,false,true,0,1,[],mR,q6),
 (1054,false,true,0,1,[],kO,n4),
 (1059,false,false,1,1,[],jC,nT),
 (1073,true,true,2,5,[],aL,cQ),
 (1099,false,false,4,4,[],cI,dp),
 (1139,false,true,1,1,[],eI,nM),
 (1146,true,false,2,7,[],bF,bw),
 (1153,true,false,2,2,[],iS,lx),
 (1160,true,false,1,1,[],gQ,j8),
 (1167,true,false,2,9,[],bh,bJ),
 (1174,false,false,1,5,[],aS,mO),
 (1181,false,false,3,5,[],n9,sQ),
 (1188,false,false,3,4,[],j0,nq),
 (1195,false,false,2,5,[],fi,rh),
 (1202,false,false,6,16,[],aI,be),
 (1207,false,false,6,15,[],ak,az),
 (1212,false,false,2,13,[],aK,ah),
 (1219,false,true,1,11,[],bT,dB)]
noncomputable def kD(T:Tb)(x:Info):gF:=⟨x.2.1,x.2.2.1,λargs σ=>k9 T x.2.2.2.2.2.2.1 x.2.2.2.2.1 x.2.2.2.1 x.2.2.2.2.2.1 x.2.2.1 x.2.2.2.2.2.2.2 args σ⟩
noncomputable def aU:Nat->Tb
 |0=>⟨λ_=>none,xT,K3,lay⟩
 |n+1=>⟨λa=>(dY.find? (·.1==a)).map (kD (aU n)),xT,K3,lay⟩
end
end Mine
namespace MineH
section
open PySem PySem.W PyProof.Rows
set_option maxHeartbeats 8000000
set_option maxRecDepth 1000000
noncomputable abbrev P:Program:=PySem.Challenge.pw_nn0075_01
noncomputable abbrev vn:Value:= .none
noncomputable abbrev vs(s:Str)(n:Nat):Value:= .str s n
noncomputable abbrev vi(i:Int):Value:= .int i 0
noncomputable abbrev vr(a:Addr):Value:= .ref a
noncomputable abbrev vt(s:String):Value:= .type s
noncomputable abbrev vb(s:String):Value:= .builtin s
noncomputable def ot(l:List Value):Obj:={cls:= .type "tuple",data:= .seq (Array.mk l)}
noncomputable def oa(c:Value)(l:List Value):Obj:={cls:=c,data:= .fields (Array.mk l)}
noncomputable def Rb(l:List (Option Value)):Obj:={cls:= .type "frame",slots:=Array.mk l}
noncomputable def oc(n:Str)(b m:List Value)(ns:Addr)(sub:List Value)(l:List (Option Value)):Obj:={cls:= .type "type",data:= .cls {name:=n,bases:=b,mro:=m,ns:=ns,qualname:=n,subclasses:=sub},slots:=Array.mk l}
noncomputable def de(P:Params)(k:Str)(t:Nat)(v:Value):DictEntry:={hash:=PyData.keyHash P k,key:= .str k t,val:=v}
noncomputable def od(c:Value)(l:List DictEntry)(n:Nat):Obj:={cls:=c,data:= .dict (Array.mk l) n}
noncomputable def K0{α:Type}(d:α)(l:List α)(n:Nat):α:=match l,n with
 | [],_=>d
 |a::_,0=>a
 |_::l,n+1=>K0 d l n
noncomputable def ft(i:Nat):Stmt:=K0 default P.main.body i
noncomputable def fd(i j:Nat):Stmt:=match ft i with
 | .ClassDef _ _ _ b _ _ _ _ _ _ _=>K0 default b j
 |s=>s
noncomputable def Rl(s:Stmt)(c:Value)(q:Str)(g:Addr)(df m:Value)(cd:Value):Obj:=match s with
 | .FunctionDef n a b _ _ _ sc _ _ _=>{cls:=c,data:= .func {name:=n,qualname:=q,params:=a,body:= .stmts b,scope:=sc,globals:=g,closure:=[],defaults:=df,kwdefaults:= .none,pyModule:=m,code:=cd}}
 |_=>default
noncomputable def of(s:Stmt)(q:Str)(g:Addr)(df m:Value)(cd:Addr):Obj:=Rl s (vt "function") q g df m (vr cd)
noncomputable def og(s:Stmt)(q:Str)(g:Addr)(df:Value):Obj:=Rl s vn q g df vn vn
noncomputable def ol(n q:Str)(t l a f r1:Nat)(b:Bool)(r2:Nat)(c1 c2 c3:Value)(ln t4:Nat):Obj:=oa (vt "code") [vs n t,vs q (t+1),vs "/claim/cut.py" (t+2),vi l,vi a,vi 0,vi 0,vi f,vr r1,.bool b,vi 181,vr r2,vn,c1,c2,c3,vi ln,vi l,vs "/claim/cut.py" t4]
noncomputable def ok(n q:Str)(t l a r1 r2 c1 c2 c3 ln t4:Nat):Obj:=ol n q t l a 3 r1 true r2 (vr c1) (vr c2) (vr c3) ln t4
noncomputable def oe:Obj:=ot []
noncomputable def ov:Obj:=oa vn []
noncomputable def QZ:List Str->Nat->List Value
 | [],_=>[]
 |a::l,n=>vs a n::QZ l (n+1)
noncomputable def ow(l:List Str)(n:Nat):Obj:=ot (QZ l n)
noncomputable def bp:Obj:=oa (vt "builtin_function_or_method") [vb "type.__prepare__",vt "type"]
noncomputable def bu(a:Addr):Obj:=oa (vt "builtin_function_or_method") [vb "object.__init_subclass__",vr a]
noncomputable def su(a:Addr):Obj:=oa (vt "super") [vr a,vr a,vr a]
noncomputable def vj(i:Int)(t:Nat):Value:=Value.int i t
noncomputable def om(n q:Str)(t l a r u:Nat):Obj:=ok n q t l a r (r+1) (r+2) (r+3) (r+4) u (u+1)
noncomputable def oK(n:Str)(t l a r u:Nat):Obj:=om n n t l a r u
noncomputable def KW(s:Stmt):Str:=match s with
 | .FunctionDef n _ _ _ _ _ _ _ _ _=>n
 | .ClassDef n _ _ _ _ _ _ _ _ _ _=>n
 |_=> ""
noncomputable def qS(i j:Nat):Str:=KW (ft i)++ "." ++KW (fd i j)
noncomputable def tF(i:Nat)(m:Value)(a:Addr):Obj:=of (ft i) (KW (ft i)) 3 vn m a
noncomputable def tG(i:Nat):Obj:=og (ft i) (KW (ft i)) 0 vn
noncomputable def tK(i t l a r u:Nat):Obj:=oK (KW (ft i)) t l a r u
noncomputable def cD(i j d:Nat)(m:Value)(a:Addr):Obj:=of (fd i j) (qS i j) 3 (vr d) m a
noncomputable def cF(i j:Nat)(m:Value)(a:Addr):Obj:=of (fd i j) (qS i j) 3 vn m a
noncomputable def cG(i j:Nat):Obj:=og (fd i j) (qS i j) 0 vn
noncomputable def cM(i j t l a r u:Nat):Obj:=om (KW (fd i j)) (qS i j) t l a r u
noncomputable def dm(P:Params)(t:Nat)(m:Value):DictEntry:=de P "__module__" t m
noncomputable def dl(P:Params)(l t:Nat):DictEntry:=de P "__firstlineno__" (t+1) (vj l t)
noncomputable def ds(P:Params)(t a:Nat):DictEntry:=de P "__static_attributes__" t (vr a)
noncomputable def dq(P:Params)(n:Str)(t:Nat):DictEntry:=de P "__qualname__" (t+1) (vs n t)
noncomputable def dd(P:Params)(t:Nat):DictEntry:=de P "__doc__" t vn
noncomputable def dr(P:Params)(n:Str)(t a:Nat):DictEntry:=de P n t (vr a)
noncomputable def wi(a b:Addr)(m:Value):Obj:=Rb [some (vr a),some (vr 3),some (vr b),none,some m,none,some (vr 0)]
noncomputable def m0:Value:=vs "law_nn0075_01" 1695
noncomputable def m1:Value:=vs "octetmint.arith" 1452
noncomputable def m2:Value:=vs "octetmint.basics" 194
noncomputable def m3:Value:=vs "octetmint.decoder" 1161
noncomputable def m4:Value:=vs "octetmint.forms" 323
noncomputable def m5:Value:=vs "octetmint.iset" 1591
noncomputable def m6:Value:=vs "octetmint.modrm" 934
noncomputable def m7:Value:=vs "octetmint.operands" 477
noncomputable def m8:Value:=vs "octetmint.prefixes" 1014
noncomputable def m9:Value:=vs "octetmint.registers" 809
noncomputable def aU:Nat->(Nat->Obj)->Nat->Nat->Nat->BT
 |0,_,_,_,_=> .nil
 |k+1,f,n,a,b=>match Nat.blt b n with
  |true=> .node (f b) (aU k f n (2*a) (a+b)) (aU k f n (2*a) (2*a+b))
  |false=> .nil
noncomputable def RN(P:Params):List DictEntry:=[dd P 166,de P "__package__" 167 vn,de P "__loader__" 168 (vb "__main__.__loader__#opaque"),de P "__spec__" 169 vn,dr P "__annotations__" 170 6,dr P "__builtins__" 171 4,de P "__file__" 173 (vs "/claim/cut.py" 172),de P "__cached__" 174 vn,dr P "_wall" 193 21,dr P "MintError" 233 46]
noncomputable def Q6(P:Params)(m:Value):List DictEntry:=de P "__name__" 165 m::RN P
noncomputable def Rd(P:Params)(m:Value):List DictEntry:=Q6 P m++ [dr P "OperandError" 249 59]
noncomputable def Rq(P:Params)(m:Value):List DictEntry:=Rd P m++ [dr P "EncodeError" 265 71]
noncomputable def RD(P:Params)(m:Value):List DictEntry:=Rq P m++ [dr P "DecodeError" 281 83,dr P "mask" 288 92,dr P "wrap" 296 99,dr P "signed" 305 106,dr P "from_little" 315 113,dr P "from_little_signed" 322 120,de P "LOCKED" 326 (vs "add adc and or sbb sub xor inc dec neg not xchg xadd cmpxchg bts btr btc" 325),de P "MOVED" 328 (vs "movsb movsw movsd movsq stosb stosw stosd stosq lodsb lodsw lodsd lodsq" 327),de P "COMPARED" 330 (vs "cmpsb cmpsw cmpsd cmpsq scasb scasw scasd scasq" 329)]
noncomputable def QR(P:Params)(m:Value):List DictEntry:=RD P m++ [dr P "is_fixed" 337 127,dr P "is_immediate" 344 134,dr P "is_relative" 351 141,dr P "takes_memory" 358 148,dr P "kind_size" 365 155,dr P "kind_width" 372 162,dr P "slot_of" 379 169]
noncomputable def Q8(P:Params)(m:Value):List DictEntry:=QR P m++ [dr P "Form" 462 227]
noncomputable def Rn(P:Params)(m:Value):List DictEntry:=Q8 P m++ [dr P "can_lock" 469 238,dr P "repeats" 476 245,dr P "Operand" 528 283]
noncomputable def Q2(P:Params)(m:Value):List DictEntry:=Rn P m++ [dr P "Reg" 567 318]
noncomputable def Rs(P:Params)(m:Value):List DictEntry:=Q2 P m++ [dr P "Imm" 609 352]
noncomputable def Q7(P:Params)(m:Value):List DictEntry:=Rs P m++ [dr P "Rel" 659 393]
noncomputable def LI(P:Params)(m:Value):List DictEntry:=Q7 P m++ [dr P "Mem" 735 446]
noncomputable def Lz(P:Params)(m:Value):List DictEntry:=LI P m++ [dr P "Instruction" 808 499]
noncomputable def L4(P:Params)(m:Value):List DictEntry:=Lz P m++ [de P "NAMES_8" 812 (vs "al cl dl bl spl bpl sil dil" 811),de P "NAMES_16" 814 (vs "ax cx dx bx sp bp si di" 813),de P "NAMES_32" 816 (vs "eax ecx edx ebx esp ebp esi edi" 815),de P "NAMES_64" 818 (vs "rax rcx rdx rbx rsp rbp rsi rdi" 817),de P "HIGH_NAMES" 820 (vs "ah ch dh bh" 819)]
noncomputable def Ly(P:Params)(m:Value):List DictEntry:=L4 P m++ [dr P "Register" 890 555]
noncomputable def Lx(P:Params)(m:Value):List DictEntry:=Ly P m++ [dr P "early_names" 897 566,dr P "late_ending" 904 573,dr P "gpr" 913 580,dr P "high" 920 587,dr P "xmm" 927 594,dr P "rip" 933 601,de P "NO_INDEX" 937 (vj 4 936),de P "NO_BASE" 939 (vj 5 938),de P "WITH_SIB" 941 (vj 4 940),de P "FROM_RIP" 943 (vj 5 942),dr P "unpack_three" 950 608,dr P "unpack_modrm" 957 615,dr P "unpack_sib" 964 622,dr P "octet_at" 972 629,dr P "disp_width_of" 981 636]
noncomputable def N4(P:Params)(m:Value):List DictEntry:=Lx P m++ [dr P "read_modrm" 995 643,dr P "memory_of" 1013 650,de P "FS" 1017 (vj 100 1016),de P "GS" 1019 (vj 101 1018),de P "DATA_prefixes" 1021 (vj 102 1020),de P "REPNE" 1023 (vj 242 1022),de P "REP" 1025 (vj 243 1024),de P "LOCK" 1027 (vj 240 1026),dr P "rex_bits" 1034 657,dr P "is_rex" 1041 664,dr P "segment_octet" 1048 671,dr P "sort_of" 1055 678]
noncomputable def MV(P:Params)(m:Value):List DictEntry:=N4 P m++ [dr P "Prefixes" 1132 731]
noncomputable def Ni(P:Params)(m:Value):List DictEntry:=MV P m++ [dr P "with_rex" 1140 742,dr P "with_legacy" 1150 749,dr P "read_prefixes" 1160 756,de P "MOST_OCTETS" 1164 (vj 15 1163),de P "ESCAPE" 1166 (vj 15 1165),de P "DATA_decoder" 1168 (vj 102 1167),de P "NOP" 1170 (vj 144 1169),de P "REGISTER" 1172 (vj 3 1171)]
noncomputable def MP(P:Params)(m:Value):List DictEntry:=Ni P m++ [dr P "Decoded" 1214 780]
noncomputable def MZ(P:Params)(m:Value):List DictEntry:=MP P m++ [dr P "Frame" 1304 836]
noncomputable def Mi(P:Params)(m:Value):List DictEntry:=MZ P m++ [dr P "fits_size" 1312 847,dr P "fits_mod" 1318 852,dr P "fits_nop" 1327 859,dr P "picked" 1336 866,dr P "register_at" 1345 873,dr P "reg_operand" 1354 880,dr P "rm_operand" 1365 887,dr P "plus_operand" 1374 894,dr P "fixed_operand" 1381 901,dr P "field_at" 1391 908,dr P "written_operand" 1400 915,dr P "operands_of" 1414 922,dr P "check_used" 1420 927]
noncomputable def Mw(P:Params)(m:Value):List DictEntry:=Mi P m++ [dr P "prefix_word" 1430 934,dr P "read_frame" 1436 939,dr P "decode" 1451 947,dr P "wide_sizes" 1459 954,dr P "every_size" 1465 961,dr P "kind_of" 1473 968,dr P "accumulator" 1480 975,dr P "whole_immediate" 1487 982,dr P "paired" 1495 989,dr P "store_forms" 1508 997,dr P "load_forms" 1521 1005,dr P "group_forms" 1532 1012]
noncomputable def K7(P:Params)(m:Value):List DictEntry:=Mw P m++ [dr P "immediate_forms" 1544 1019,dr P "short_forms" 1555 1026,dr P "accumulator_forms" 1566 1033,dr P "fold_forms" 1576 1040,dr P "test_forms" 1583 1047,dr P "single_forms" 1590 1054,dr P "codes_of" 1598 1059]
noncomputable def NV(P:Params)(m:Value):List DictEntry:=K7 P m++ [dr P "InstructionSet" 1694 1130]
noncomputable def Mc(P:Params)(m:Value):List DictEntry:=NV P m++ [de P "_law_folds" 1698 (vs "add or adc sbb and sub xor cmp" 1697),dr P "_law_pen" 1704 1139,dr P "_law_draw" 1717 1146,dr P "_law_pick" 1725 1153,dr P "_law_octet" 1732 1160,dr P "_law_row" 1747 1167,dr P "_law_prefixes" 1758 1174,dr P "_law_plan" 1769 1181,dr P "_law_register" 1779 1188,dr P "_law_worth" 1790 1195,dr P "_law_memory" 1812 1202,dr P "_law_operands" 1818 1207]
noncomputable def QM(P:Params)(m:Value):List DictEntry:=Mc P m++ [dr P "_law_read" 1824 1212,dr P "law" 1841 1219]
noncomputable def tl:List Value:=[vi 1,vi 0,vr 20,vi 5,vi 0,vr 27,vi 16,vi 0,vr 55,vi 18,vi 0,vr 67,vi 20,vi 0,vr 79,vi 22,vi 0,vr 91,vi 24,vi 0,vr 98,vi 26,vi 0,vr 105,vi 31,vi 0,vr 112,vi 38,vi 0,vr 119,vi 46,vi 0,vr 126,vi 48,vi 0,vr 133,vi 50,vi 0,vr 140,vi 52,vi 0,vr 147,vi 54,vi 0,vr 154,vi 62,vi 0,vr 161,vi 68,vi 0,vr 168,vi 78,vi 0,vr 175,vi 109,vi 0,vr 237,vi 111,vi 0,vr 244,vi 116,vi 0,vr 251,vi 129,vi 0,vr 293,vi 140,vi 0,vr 326,vi 152,vi 0,vr 360,vi 167,vi 0,vr 401,vi 195,vi 0,vr 454,vi 226,vi 0,vr 509,vi 248,vi 0,vr 565,vi 258,vi 0,vr 572,vi 266,vi 0,vr 579,vi 273,vi 0,vr 586,vi 277,vi 0,vr 593,vi 281,vi 0,vr 600,vi 288,vi 0,vr 607,vi 290,vi 0,vr 614,vi 292,vi 0,vr 621,vi 294,vi 0,vr 628,vi 298,vi 0,vr 635,vi 308,vi 0,vr 642,vi 320,vi 0,vr 649,vi 337,vi 0,vr 656,vi 341,vi 0,vr 663,vi 343,vi 0,vr 670,vi 349,vi 0,vr 677,vi 359,vi 0,vr 684,vi 399,vi 0,vr 741,vi 401,vi 0,vr 748,vi 423,vi 0,vr 755,vi 443,vi 0,vr 762,vi 453,vi 0,vr 790,vi 504,vi 0,vr 846,vi 512,vi 0,vr 851,vi 514,vi 0,vr 858,vi 519,vi 0,vr 865,vi 526,vi 0,vr 872,vi 530,vi 0,vr 879,vi 535,vi 0,vr 886,vi 543,vi 0,vr 893,vi 546,vi 0,vr 900,vi 554,vi 0,vr 907,vi 559,vi 0,vr 914,vi 565,vi 0,vr 921,vi 581,vi 0,vr 926,vi 589,vi 0,vr 933,vi 599,vi 0,vr 938,vi 608,vi 0,vr 946,vi 617,vi 0,vr 953,vi 619,vi 0,vr 960,vi 621,vi 0,vr 967,vi 623,vi 0,vr 974,vi 629,vi 0,vr 981,vi 631,vi 0,vr 988,vi 633,vi 0,vr 996,vi 639,vi 0,vr 1004,vi 645,vi 0,vr 1011,vi 650,vi 0,vr 1018,vi 656,vi 0,vr 1025,vi 661,vi 0,vr 1032,vi 667,vi 0,vr 1039,vi 675,vi 0,vr 1046,vi 680,vi 0,vr 1053,vi 687,vi 0,vr 1058,vi 691,vi 0,vr 1065,vi 733,vi 0,vr 1138,vi 735,vi 0,vr 1145,vi 752,vi 0,vr 1152,vi 754,vi 0,vr 1159,vi 756,vi 0,vr 1166,vi 772,vi 0,vr 1173,vi 789,vi 0,vr 1180,vi 803,vi 0,vr 1187,vi 812,vi 0,vr 1194,vi 817,vi 0,vr 1201,vi 836,vi 0,vr 1206,vi 857,vi 0,vr 1211,vi 877,vi 0,vr 1218]
noncomputable def R7(P:Params):List (List Obj):=[[boot_o_0 P,boot_o_1 P,od vn [de P "type.__subclasses__.Exception.0" 230 (vi 46),de P "type.__subclasses__.Exception.n" 231 (vi 1)] 2,od (vt "dict") (QM P m0) 129,boot_o_4 P,boot_o_5 P,boot_o_6 P,boot_o_7 P,boot_o_8 P,boot_o_9 P],
 [boot_o_10 P,oe,oa vn (tl.take 288),ol "<module>" "<module>" 182 1 0 0 11 false 12 vn vn vn 185 186,Rb [some (vr 13),some (vr 3),some (vr 3),none,some (vs "__main__" 164),none,some (vr 0)],oe,ov,ot [vs "k" 190],oe,tG 0],
 [tK 0 187 1 1 15 191,tF 0 (vs "__main__" 164) 20,ot [vt "Exception"],bp,od (vt "dict") [dm P 203 m2,dq P "MintError" 204,dl P 5 206,dr P "__init__" 216 36,dr P "told" 223 43,ds P 226 44] 6,oe,oa vn [vi 7,vi 4,vr 35,vi 12,vi 4,vr 42],ol "MintError" "MintError" 198 5 0 0 25 false 26 vn vn vn 201 202,wi 27 24 m2,ot [vn]],
 [oe,ov,ow ["self","what","at"] 211,oe,cG 2 0,cM 2 0 208 7 3 30 214,cD 2 0 29 m2 35,oe,ov,ot [vs "self" 220]],
 [oe,cG 2 1,cM 2 1 217 12 1 37 221,cF 2 1 m2 42,ow ["at","what"] 224,od (vt "dict") [dm P 203 m2,dl P 5 206,dr P "__init__" 216 36,dr P "told" 223 43,ds P 226 44,dr P "__weakref__" 228 47,dd P 229] 3,oc "MintError" [vt "Exception"] [vr 46,vt "Exception",vt "BaseException",vt "object"] 45 [vr 59,vr 71,vr 83] [some (vr 22),none,some (vs "MintError" 196),some (vs "MintError" 204),some (vb "Exception.__new__"),some (Value.bool true)],oa (vt "getset_descriptor") [vs "__weakref__" 227,vr 46,vb "ExceptionGroup.__weakref__",vn],su 46,bu 46],
 [ot [vr 46],bp,od (vt "dict") [dm P 241 m2,dq P "OperandError" 242,dl P 16 244,ds P 246 57] 4,oe,ov,ol "OperandError" "OperandError" 236 16 0 0 53 false 54 vn vn vn 239 240,wi 55 52 m2,oe,od (vt "dict") [dm P 241 m2,dl P 16 244,ds P 246 57,dd P 247] 2,oc "OperandError" [vr 46] [vr 59,vr 46,vt "Exception",vt "BaseException",vt "object"] 58 [] [some (vr 50),none,some (vs "OperandError" 234),some (vs "OperandError" 242),some (vb "Exception.__new__"),some (Value.bool true)]],
 [su 59,bu 59,ot [vr 46],bp,od (vt "dict") [dm P 257 m2,dq P "EncodeError" 258,dl P 18 260,ds P 262 69] 4,oe,ov,ol "EncodeError" "EncodeError" 252 18 0 0 65 false 66 vn vn vn 255 256,wi 67 64 m2,oe],
 [od (vt "dict") [dm P 257 m2,dl P 18 260,ds P 262 69,dd P 263] 2,oc "EncodeError" [vr 46] [vr 71,vr 46,vt "Exception",vt "BaseException",vt "object"] 70 [] [some (vr 62),none,some (vs "EncodeError" 250),some (vs "EncodeError" 258),some (vb "Exception.__new__"),some (Value.bool true)],su 71,bu 71,ot [vr 46],bp,od (vt "dict") [dm P 273 m2,dq P "DecodeError" 274,dl P 20 276,ds P 278 81] 4,oe,ov,ol "DecodeError" "DecodeError" 268 20 0 0 77 false 78 vn vn vn 271 272],
 [wi 79 76 m2,oe,od (vt "dict") [dm P 273 m2,dl P 20 276,ds P 278 81,dd P 279] 2,oc "DecodeError" [vr 46] [vr 83,vr 46,vt "Exception",vt "BaseException",vt "object"] 82 [] [some (vr 74),none,some (vs "DecodeError" 266),some (vs "DecodeError" 274),some (vb "Exception.__new__"),some (Value.bool true)],su 83,bu 83,oe,ov,ot [vs "size" 285],oe],
 [tG 6,tK 6 282 22 1 86 286,tF 6 m2 91,oe,ov,ow ["worth","size"] 292,oe,tG 7,tK 7 289 24 2 93 294,tF 7 m2 98]]
noncomputable def Se(P:Params):List (List Obj):=[[oe,ov,ow ["worth","size","low"] 300,oe,tG 8,tK 8 297 26 2 100 303,tF 8 m2 105,oe,ov,ow ["octets","worth","shift","octet"] 309],
 [oe,tG 9,tK 9 306 31 1 107 313,tF 9 m2 112,oe,ov,ot [vs "octets" 319],oe,tG 10,tK 10 316 38 1 114 320],
 [tF 10 m2 119,oe,ov,ot [vs "kind" 334],oe,tG 15,tK 15 331 46 1 121 335,tF 15 m4 126,oe,ov],
 [ot [vs "kind" 341],oe,tG 16,tK 16 338 48 1 128 342,tF 16 m4 133,oe,ov,ot [vs "kind" 348],oe,tG 17],
 [tK 17 345 50 1 135 349,tF 17 m4 140,oe,ov,ot [vs "kind" 355],oe,tG 18,tK 18 352 52 1 142 356,tF 18 m4 147,oe],
 [ov,ot [vs "kind" 362],oe,tG 19,tK 19 359 54 1 149 363,tF 19 m4 154,oe,ov,ot [vs "kind" 369],oe],
 [tG 20,tK 20 366 62 1 156 370,tF 20 m4 161,oe,ov,ot [vs "kind" 376],oe,tG 21,tK 21 373 68 1 163 377,tF 21 m4 168],
 [oe,bp,od (vt "dict") [dm P 387 m4,dq P "Form" 388,dl P 78 390,dr P "__init__" 402 182,dr P "told" 409 189,dr P "slots" 416 196,dr P "has_modrm" 423 203,dr P "has_plus" 430 210,dr P "memory_size" 437 217,dr P "needs_memory" 444 224,ds P 455 225] 11,oe,oa vn [vi 80,vi 4,vr 181,vi 92,vi 4,vr 188,vi 95,vi 4,vr 195,vi 98,vi 4,vr 202,vi 101,vi 4,vr 209,vi 104,vi 4,vr 216,vi 107,vi 4,vr 223],ol "Form" "Form" 382 78 0 0 173 false 174 vn vn vn 385 386,wi 175 172 m4,ot [Value.int 0 392,Value.int (-1) 394,Value.int 0 395,Value.int 0 396,Value.bool false],oe,ov],
 [cG 22 0,ol "__init__" "Form.__init__" 397 80 9 3 178 true 179 vn vn (vr 180) 400 401,cD 22 0 177 m4 181,oe,ov,ot [vs "self" 406],oe,cG 22 1,cM 22 1 403 92 1 183 407,cF 22 1 m4 188],
 [oe,ov,ot [vs "self" 413],oe,cG 22 2,cM 22 2 410 95 1 190 414,cF 22 2 m4 195,oe,ov,ot [vs "self" 420]]]
noncomputable def R9(P:Params):List (List Obj):=[[oe,cG 22 3,cM 22 3 417 98 1 197 421,cF 22 3 m4 202,oe,ov,ot [vs "self" 427],oe,cG 22 4,cM 22 4 424 101 1 204 428],
 [cF 22 4 m4 209,oe,ov,ot [vs "self" 434],oe,cG 22 5,cM 22 5 431 104 1 211 435,cF 22 5 m4 216,oe,ov],
 [ot [vs "self" 441],oe,cG 22 6,cM 22 6 438 107 1 218 442,cF 22 6 m4 223,ow ["digit","escape","is_wide","kinds","must","name","number","opcode","places","size"] 445,od (vt "dict") [dm P 387 m4,dl P 78 390,dr P "__init__" 402 182,dr P "told" 409 189,dr P "slots" 416 196,dr P "has_modrm" 423 203,dr P "has_plus" 430 210,dr P "memory_size" 437 217,dr P "needs_memory" 444 224,ds P 455 225,dr P "__dict__" 457 228,dr P "__weakref__" 459 229,dd P 460] 4,oc "Form" [vt "object"] [vr 227,vt "object"] 226 [] [none,none,some (vs "Form" 380),some (vs "Form" 388),some (vb "object.__new__"),some (Value.bool true)],oa (vt "getset_descriptor") [vs "__dict__" 456,vr 227,vb "function.__dict__",vb "function.__dict__#set"],oa (vt "getset_descriptor") [vs "__weakref__" 458,vr 227,vb "ExceptionGroup.__weakref__",vn]],
 [su 227,bu 227,oe,ov,ot [vs "form" 466],oe,tG 23,tK 23 463 109 1 232 467,tF 23 m4 237,oe],
 [ov,ot [vs "name" 473],oe,tG 24,tK 24 470 111 1 239 474,tF 24 m4 244,oe,bp,od (vt "dict") [dm P 486 m7,dq P "Operand" 487,dl P 116 489,dr P "__init__" 498 259,dr P "told" 505 266,dr P "symbol" 512 273,dr P "registers" 519 280,ds P 521 281] 8,oe],
 [oa vn [vi 118,vi 4,vr 258,vi 121,vi 4,vr 265,vi 124,vi 4,vr 272,vi 127,vi 4,vr 279],ol "Operand" "Operand" 481 116 0 0 249 false 250 vn vn vn 484 485,wi 251 248 m7,oe,ov,ow ["self","kind"] 494,oe,cG 26 0,cM 26 0 491 118 2 253 496,cF 26 0 m7 258],
 [oe,ov,ot [vs "self" 502],oe,cG 26 1,cM 26 1 499 121 1 260 503,cF 26 1 m7 265,oe,ov,ot [vs "self" 509]],
 [oe,cG 26 2,cM 26 2 506 124 1 267 510,cF 26 2 m7 272,oe,ov,ot [vs "self" 516],oe,cG 26 3,cM 26 3 513 127 1 274 517],
 [cF 26 3 m7 279,ot [vs "kind" 520],od (vt "dict") [dm P 486 m7,dl P 116 489,dr P "__init__" 498 259,dr P "told" 505 266,dr P "symbol" 512 273,dr P "registers" 519 280,ds P 521 281,dr P "__dict__" 523 284,dr P "__weakref__" 525 285,dd P 526] 4,oc "Operand" [vt "object"] [vr 283,vt "object"] 282 [vr 318,vr 352,vr 393,vr 446] [none,none,some (vs "Operand" 479),some (vs "Operand" 487),some (vb "object.__new__"),some (Value.bool true)],oa (vt "getset_descriptor") [vs "__dict__" 522,vr 283,vb "function.__dict__",vb "function.__dict__#set"],oa (vt "getset_descriptor") [vs "__weakref__" 524,vr 283,vb "ExceptionGroup.__weakref__",vn],su 283,bu 283,ot [vr 283],bp],
 [od (vt "dict") [dm P 536 m7,dq P "Reg" 537,dl P 129 539,dr P "__init__" 548 301,dr P "told" 555 308,dr P "registers" 562 315,ds P 564 316] 7,oe,oa vn [vi 131,vi 4,vr 300,vi 135,vi 4,vr 307,vi 138,vi 4,vr 314],ol "Reg" "Reg" 531 129 0 0 291 false 292 vn vn vn 534 535,wi 293 290 m7,oe,ov,ow ["self","register"] 544,oe,cG 27 0]]
noncomputable def SU(P:Params):List (List Obj):=[[cM 27 0 541 131 2 295 546,cF 27 0 m7 300,oe,ov,ot [vs "self" 552],oe,cG 27 1,cM 27 1 549 135 1 302 553,cF 27 1 m7 307,oe],
 [ov,ot [vs "self" 559],oe,cG 27 2,cM 27 2 556 138 1 309 560,cF 27 2 m7 314,ot [vs "register" 563],od (vt "dict") [dm P 536 m7,dl P 129 539,dr P "__init__" 548 301,dr P "told" 555 308,dr P "registers" 562 315,ds P 564 316,dd P 565] 2,oc "Reg" [vr 283] [vr 318,vr 283,vt "object"] 317 [] [some (vr 288),none,some (vs "Reg" 529),some (vs "Reg" 537),some (vb "object.__new__"),some (Value.bool true)],su 318],
 [bu 318,ot [vr 283],bp,od (vt "dict") [dm P 575 m7,dq P "Imm" 576,dl P 140 578,dr P "__init__" 589 335,dr P "told" 596 342,dr P "symbol" 603 349,ds P 606 350] 7,oe,oa vn [vi 142,vi 4,vr 334,vi 147,vi 4,vr 341,vi 150,vi 4,vr 348],ol "Imm" "Imm" 570 140 0 0 324 false 325 vn vn vn 573 574,wi 326 323 m7,ot [vs "" 580],oe],
 [ov,ow ["self","worth","name"] 584,oe,cG 28 0,cM 28 0 581 142 3 329 587,cD 28 0 328 m7 334,oe,ov,ot [vs "self" 593],oe],
 [cG 28 1,cM 28 1 590 147 1 336 594,cF 28 1 m7 341,oe,ov,ot [vs "self" 600],oe,cG 28 2,cM 28 2 597 150 1 343 601,cF 28 2 m7 348],
 [ow ["name","worth"] 604,od (vt "dict") [dm P 575 m7,dl P 140 578,dr P "__init__" 589 335,dr P "told" 596 342,dr P "symbol" 603 349,ds P 606 350,dd P 607] 2,oc "Imm" [vr 283] [vr 352,vr 283,vt "object"] 351 [] [some (vr 321),none,some (vs "Imm" 568),some (vs "Imm" 576),some (vb "object.__new__"),some (Value.bool true)],su 352,bu 352,ot [vr 283],bp,od (vt "dict") [dm P 617 m7,dq P "Rel" 618,dl P 152 620,dr P "__init__" 631 369,dr P "told" 638 376,dr P "symbol" 645 383,dr P "target" 653 390,ds P 656 391] 8,oe,oa vn [vi 154,vi 4,vr 368,vi 159,vi 4,vr 375,vi 162,vi 4,vr 382,vi 165,vi 4,vr 389]],
 [ol "Rel" "Rel" 612 152 0 0 358 false 359 vn vn vn 615 616,wi 360 357 m7,ot [vs "" 622],oe,ov,ow ["self","worth","name"] 626,oe,cG 29 0,cM 29 0 623 154 3 363 629,cD 29 0 362 m7 368],
 [oe,ov,ot [vs "self" 635],oe,cG 29 1,cM 29 1 632 159 1 370 636,cF 29 1 m7 375,oe,ov,ot [vs "self" 642]],
 [oe,cG 29 2,cM 29 2 639 162 1 377 643,cF 29 2 m7 382,oe,ov,ow ["self","behind"] 649,oe,cG 29 3,cM 29 3 646 165 2 384 651],
 [cF 29 3 m7 389,ow ["name","worth"] 654,od (vt "dict") [dm P 617 m7,dl P 152 620,dr P "__init__" 631 369,dr P "told" 638 376,dr P "symbol" 645 383,dr P "target" 653 390,ds P 656 391,dd P 657] 2,oc "Rel" [vr 283] [vr 393,vr 283,vt "object"] 392 [] [some (vr 355),none,some (vs "Rel" 610),some (vs "Rel" 618),some (vb "object.__new__"),some (Value.bool true)],su 393,bu 393,ot [vr 283],bp,od (vt "dict") [dm P 667 m7,dq P "Mem" 668,dl P 167 670,dr P "__init__" 688 410,dr P "told" 697 417,dr P "symbol" 704 424,dr P "registers" 710 429,dr P "is_rip" 717 436,dr P "is_absolute" 724 443,ds P 732 444] 10,oe]]
noncomputable def Sr(P:Params):List (List Obj):=[[oa vn [vi 169,vi 4,vr 409,vi 179,vi 4,vr 416,vi 184,vi 4,vr 423,vi 187,vi 4,vr 428,vi 190,vi 4,vr 435,vi 193,vi 4,vr 442],ol "Mem" "Mem" 662 167 0 0 399 false 400 vn vn vn 665 666,wi 401 398 m7,ot [Value.int 0 672,vs "" 673,vs "" 674],oe,ov,ow ["self","base","index","scale","worth","size","segment","name"] 678,oe,cG 30 0,cM 30 0 675 169 8 404 686],
 [cD 30 0 403 m7 409,oe,ov,ow ["self","base","index"] 692,oe,cG 30 1,cM 30 1 689 179 1 411 695,cF 30 1 m7 416,oe,ov],
 [ot [vs "self" 701],oe,cG 30 2,cM 30 2 698 184 1 418 702,cF 30 2 m7 423,oe,ov,cG 30 3,ol "registers" "Mem.registers" 705 187 1 3 425 true 426 vn vn (vr 427) 708 709,cF 30 3 m7 428],
 [oe,ov,ot [vs "self" 714],oe,cG 30 4,cM 30 4 711 190 1 430 715,cF 30 4 m7 435,oe,ov,ot [vs "self" 721]],
 [oe,cG 30 5,cM 30 5 718 193 1 437 722,cF 30 5 m7 442,ow ["base","index","name","scale","segment","size","worth"] 725,od (vt "dict") [dm P 667 m7,dl P 167 670,dr P "__init__" 688 410,dr P "told" 697 417,dr P "symbol" 704 424,dr P "registers" 710 429,dr P "is_rip" 717 436,dr P "is_absolute" 724 443,ds P 732 444,dd P 733] 2,oc "Mem" [vr 283] [vr 446,vr 283,vt "object"] 445 [] [some (vr 396),none,some (vs "Mem" 660),some (vs "Mem" 668),some (vb "object.__new__"),some (Value.bool true)],su 446,bu 446,oe],
 [bp,od (vt "dict") [dm P 743 m7,dq P "Instruction" 744,dl P 195 746,dr P "__init__" 758 463,dr P "told" 764 468,dr P "memory_at" 773 475,dr P "memory" 781 482,dr P "symbols" 788 489,dr P "replaced" 797 496,ds P 801 497] 10,oe,oa vn [vi 197,vi 4,vr 462,vi 202,vi 4,vr 467,vi 205,vi 4,vr 474,vi 211,vi 4,vr 481,vi 215,vi 4,vr 488,vi 218,vi 4,vr 495],ol "Instruction" "Instruction" 738 195 0 0 452 false 453 vn vn vn 741 742,wi 454 451 m7,ot [vs "" 748],oe,ov,ow ["self","name","operands","prefix"] 752],
 [oe,cG 31 0,cM 31 0 749 197 4 457 756,cD 31 0 456 m7 462,oe,ov,cG 31 1,ol "told" "Instruction.told" 759 202 1 3 464 true 465 vn vn (vr 466) 762 763,cF 31 1 m7 467,oe],
 [ov,ow ["self","at","operand"] 768,oe,cG 31 2,cM 31 2 765 205 1 469 771,cF 31 2 m7 474,oe,ov,ow ["self","at"] 777,oe],
 [cG 31 3,cM 31 3 774 211 1 476 779,cF 31 3 m7 481,oe,ov,ot [vs "self" 785],oe,cG 31 4,cM 31 4 782 215 1 483 786,cF 31 4 m7 488],
 [oe,ov,ow ["self","at","operand"] 792,oe,cG 31 5,cM 31 5 789 218 3 490 795,cF 31 5 m7 495,ow ["name","operands","prefix"] 798,od (vt "dict") [dm P 743 m7,dl P 195 746,dr P "__init__" 758 463,dr P "told" 764 468,dr P "memory_at" 773 475,dr P "memory" 781 482,dr P "symbols" 788 489,dr P "replaced" 797 496,ds P 801 497,dr P "__dict__" 803 500,dr P "__weakref__" 805 501,dd P 806] 4,oc "Instruction" [vt "object"] [vr 499,vt "object"] 498 [] [none,none,some (vs "Instruction" 736),some (vs "Instruction" 744),some (vb "object.__new__"),some (Value.bool true)]]]
noncomputable def RW(P:Params):List (List Obj):=[[oa (vt "getset_descriptor") [vs "__dict__" 802,vr 499,vb "function.__dict__",vb "function.__dict__#set"],oa (vt "getset_descriptor") [vs "__weakref__" 804,vr 499,vb "ExceptionGroup.__weakref__",vn],su 499,bu 499,oe,bp,od (vt "dict") [dm P 828 m9,dq P "Register" 829,dl P 226 831,dr P "__init__" 843 517,dr P "code" 850 524,dr P "is_extended" 857 531,dr P "is_high" 864 538,dr P "needs_rex" 871 545,dr P "told" 878 552,ds P 883 553] 10,oe,oa vn [vi 228,vi 4,vr 516,vi 234,vi 4,vr 523,vi 237,vi 4,vr 530,vi 240,vi 4,vr 537,vi 243,vi 4,vr 544,vi 246,vi 4,vr 551],ol "Register" "Register" 823 226 0 0 507 false 508 vn vn vn 826 827],
 [wi 509 506 m9,oe,ov,ow ["self","name","kind","number","size"] 836,oe,cG 38 0,cM 38 0 833 228 5 511 841,cF 38 0 m9 516,oe,ov],
 [ot [vs "self" 847],oe,cG 38 1,cM 38 1 844 234 1 518 848,cF 38 1 m9 523,oe,ov,ot [vs "self" 854],oe,cG 38 2],
 [cM 38 2 851 237 1 525 855,cF 38 2 m9 530,oe,ov,ot [vs "self" 861],oe,cG 38 3,cM 38 3 858 240 1 532 862,cF 38 3 m9 537,oe],
 [ov,ot [vs "self" 868],oe,cG 38 4,cM 38 4 865 243 1 539 869,cF 38 4 m9 544,oe,ov,ot [vs "self" 875],oe],
 [cG 38 5,cM 38 5 872 246 1 546 876,cF 38 5 m9 551,ow ["kind","name","number","size"] 879,od (vt "dict") [dm P 828 m9,dl P 226 831,dr P "__init__" 843 517,dr P "code" 850 524,dr P "is_extended" 857 531,dr P "is_high" 864 538,dr P "needs_rex" 871 545,dr P "told" 878 552,ds P 883 553,dr P "__dict__" 885 556,dr P "__weakref__" 887 557,dd P 888] 4,oc "Register" [vt "object"] [vr 555,vt "object"] 554 [] [none,none,some (vs "Register" 821),some (vs "Register" 829),some (vb "object.__new__"),some (Value.bool true)],oa (vt "getset_descriptor") [vs "__dict__" 884,vr 555,vb "function.__dict__",vb "function.__dict__#set"],oa (vt "getset_descriptor") [vs "__weakref__" 886,vr 555,vb "ExceptionGroup.__weakref__",vn],su 555,bu 555],
 [oe,ov,ot [vs "size" 894],oe,tG 39,tK 39 891 248 1 560 895,tF 39 m9 565,oe,ov,ot [vs "size" 901]],
 [oe,tG 40,tK 40 898 258 1 567 902,tF 40 m9 572,oe,ov,ow ["number","size","names"] 908,oe,tG 41,tK 41 905 266 2 574 911],
 [tF 41 m9 579,oe,ov,ot [vs "number" 917],oe,tG 42,tK 42 914 273 1 581 918,tF 42 m9 586,oe,ov],
 [ot [vs "number" 924],oe,tG 43,tK 43 921 277 1 588 925,tF 43 m9 593,oe,ov,oe,oe,tG 44]]
noncomputable def RZ(P:Params):List (List Obj):=[[tK 44 928 281 0 595 931,tF 44 m9 600,oe,ov,ot [vs "octet" 947],oe,tG 50,tK 50 944 288 1 602 948,tF 50 m6 607,oe],
 [ov,ot [vs "octet" 954],oe,tG 51,tK 51 951 290 1 609 955,tF 51 m6 614,oe,ov,ot [vs "octet" 961],oe],
 [tG 52,tK 52 958 292 1 616 962,tF 52 m6 621,oe,ov,ow ["octets","at"] 968,oe,tG 53,tK 53 965 294 2 623 970,tF 53 m6 628],
 [oe,ov,ow ["mod","rm","sib"] 976,oe,tG 54,tK 54 973 298 3 630 979,tF 54 m6 635,oe,ov,ow ["octets","at","mod","reg","rm","sib","width","disp"] 985],
 [oe,tG 55,tK 55 982 308 2 637 993,tF 55 m6 642,oe,ov,ow ["mod","rm","sib","disp","x","b","size","segment","shift","index","base","first"] 999,oe,tG 56,tK 56 996 320 8 644 1011],
 [tF 56 m6 649,oe,ov,ot [vs "octet" 1031],oe,tG 64,tK 64 1028 337 1 651 1032,tF 64 m8 656,oe,ov],
 [ot [vs "octet" 1038],oe,tG 65,tK 65 1035 341 1 658 1039,tF 65 m8 663,oe,ov,ot [vs "segment" 1045],oe,tG 66],
 [tK 66 1042 343 1 665 1046,tF 66 m8 670,oe,ov,ot [vs "octet" 1052],oe,tG 67,tK 67 1049 349 1 672 1053,tF 67 m8 677,oe],
 [bp,od (vt "dict") [dm P 1063 m8,dq P "Prefixes" 1064,dl P 359 1066,dr P "__init__" 1083 693,dr P "told" 1090 700,dr P "has_rex" 1097 707,dr P "bits" 1104 714,dr P "count" 1111 721,dr P "octets" 1119 728,ds P 1125 729] 10,oe,oa vn [vi 361,vi 4,vr 692,vi 368,vi 4,vr 699,vi 371,vi 4,vr 706,vi 374,vi 4,vr 713,vi 377,vi 4,vr 720,vi 380,vi 4,vr 727],ol "Prefixes" "Prefixes" 1058 359 0 0 682 false 683 vn vn vn 1061 1062,wi 684 681 m8,ot [vs "" 1068,Value.bool false,Value.int 0 1069,Value.bool false,Value.int (-1) 1071],oe,ov,ow ["self","segment","is_data","repeat","is_lock","rex"] 1075],
 [oe,cG 68 0,cM 68 0 1072 361 6 687 1081,cD 68 0 686 m8 692,oe,ov,ot [vs "self" 1087],oe,cG 68 1,cM 68 1 1084 368 1 694 1088]]
noncomputable def RP(P:Params):List (List Obj):=[[cF 68 1 m8 699,oe,ov,ot [vs "self" 1094],oe,cG 68 2,cM 68 2 1091 371 1 701 1095,cF 68 2 m8 706,oe,ov],
 [ot [vs "self" 1101],oe,cG 68 3,cM 68 3 1098 374 1 708 1102,cF 68 3 m8 713,oe,ov,ot [vs "self" 1108],oe,cG 68 4],
 [cM 68 4 1105 377 1 715 1109,cF 68 4 m8 720,oe,ov,ow ["self","found"] 1115,oe,cG 68 5,cM 68 5 1112 380 1 722 1117,cF 68 5 m8 727,ow ["is_data","is_lock","repeat","rex","segment"] 1120],
 [od (vt "dict") [dm P 1063 m8,dl P 359 1066,dr P "__init__" 1083 693,dr P "told" 1090 700,dr P "has_rex" 1097 707,dr P "bits" 1104 714,dr P "count" 1111 721,dr P "octets" 1119 728,ds P 1125 729,dr P "__dict__" 1127 732,dr P "__weakref__" 1129 733,dd P 1130] 4,oc "Prefixes" [vt "object"] [vr 731,vt "object"] 730 [] [none,none,some (vs "Prefixes" 1056),some (vs "Prefixes" 1064),some (vb "object.__new__"),some (Value.bool true)],oa (vt "getset_descriptor") [vs "__dict__" 1126,vr 731,vb "function.__dict__",vb "function.__dict__#set"],oa (vt "getset_descriptor") [vs "__weakref__" 1128,vr 731,vb "ExceptionGroup.__weakref__",vn],su 731,bu 731,oe,ov,ow ["prefixes","rex"] 1136,oe],
 [tG 69,tK 69 1133 399 2 736 1138,tF 69 m8 741,oe,ov,ow ["prefixes","octet","sort","segment"] 1144,oe,tG 70,tK 70 1141 401 2 743 1148,tF 70 m8 748],
 [oe,ov,ow ["octets","at","found","octet"] 1154,oe,tG 71,tK 71 1151 423 2 750 1158,tF 71 m8 755,oe,bp,od (vt "dict") [dm P 1180 m3,dq P "Decoded" 1181,dl P 443 1183,dr P "__init__" 1195 770,dr P "told" 1202 777,ds P 1207 778] 6],
 [oe,oa vn [vi 445,vi 4,vr 769,vi 451,vi 4,vr 776],ol "Decoded" "Decoded" 1175 443 0 0 760 false 761 vn vn vn 1178 1179,wi 762 759 m3,oe,ov,ow ["self","instruction","length","form","prefixes"] 1188,oe,cG 78 0,cM 78 0 1185 445 5 764 1193],
 [cF 78 0 m3 769,oe,ov,ot [vs "self" 1199],oe,cG 78 1,cM 78 1 1196 451 1 771 1200,cF 78 1 m3 776,ow ["form","instruction","length","prefixes"] 1203,od (vt "dict") [dm P 1180 m3,dl P 443 1183,dr P "__init__" 1195 770,dr P "told" 1202 777,ds P 1207 778,dr P "__dict__" 1209 781,dr P "__weakref__" 1211 782,dd P 1212] 4],
 [oc "Decoded" [vt "object"] [vr 780,vt "object"] 779 [] [none,none,some (vs "Decoded" 1173),some (vs "Decoded" 1181),some (vb "object.__new__"),some (Value.bool true)],oa (vt "getset_descriptor") [vs "__dict__" 1208,vr 780,vb "function.__dict__",vb "function.__dict__#set"],oa (vt "getset_descriptor") [vs "__weakref__" 1210,vr 780,vb "ExceptionGroup.__weakref__",vn],su 780,bu 780,oe,bp,od (vt "dict") [dm P 1222 m3,dq P "Frame" 1223,dl P 453 1225,dr P "__init__" 1237 798,dr P "has_rex" 1244 805,dr P "is_narrow" 1251 812,dr P "take_code" 1260 819,dr P "take_must" 1269 826,dr P "take_modrm" 1278 833,ds P 1297 834] 10,oe,oa vn [vi 455,vi 4,vr 797,vi 476,vi 4,vr 804,vi 479,vi 4,vr 811,vi 482,vi 4,vr 818,vi 493,vi 4,vr 825,vi 499,vi 4,vr 832]],
 [ol "Frame" "Frame" 1217 453 0 0 788 false 789 vn vn vn 1220 1221,wi 790 787 m3,oe,ov,ow ["self","begin","prefixes","code_at","bits"] 1230,oe,cG 79 0,cM 79 0 1227 455 4 792 1235,cF 79 0 m3 797,oe]]
noncomputable def Sv(P:Params):List (List Obj):=[[ov,ot [vs "self" 1241],oe,cG 79 1,cM 79 1 1238 476 1 799 1242,cF 79 1 m3 804,oe,ov,ot [vs "self" 1248],oe],
 [cG 79 2,cM 79 2 1245 479 1 806 1249,cF 79 2 m3 811,oe,ov,ow ["self","octets","at"] 1255,oe,cG 79 3,cM 79 3 1252 482 2 813 1258,cF 79 3 m3 818],
 [oe,ov,ow ["self","iset","must"] 1264,oe,cG 79 4,cM 79 4 1261 493 2 820 1267,cF 79 4 m3 825,oe,ov,ow ["self","octets","told"] 1273],
 [oe,cG 79 5,cM 79 5 1270 499 2 827 1276,cF 79 5 m3 832,ow ["b","begin","code_at","disp","escape","mod","modrm_at","must","opcode","prefixes","r","reg","rest_at","rm","sib","w","width","x"] 1279,od (vt "dict") [dm P 1222 m3,dl P 453 1225,dr P "__init__" 1237 798,dr P "has_rex" 1244 805,dr P "is_narrow" 1251 812,dr P "take_code" 1260 819,dr P "take_must" 1269 826,dr P "take_modrm" 1278 833,ds P 1297 834,dr P "__dict__" 1299 837,dr P "__weakref__" 1301 838,dd P 1302] 4,oc "Frame" [vt "object"] [vr 836,vt "object"] 835 [] [none,none,some (vs "Frame" 1215),some (vs "Frame" 1223),some (vb "object.__new__"),some (Value.bool true)],oa (vt "getset_descriptor") [vs "__dict__" 1298,vr 836,vb "function.__dict__",vb "function.__dict__#set"],oa (vt "getset_descriptor") [vs "__weakref__" 1300,vr 836,vb "ExceptionGroup.__weakref__",vn],su 836],
 [bu 836,oe,ov,ow ["form","frame"] 1308,oe,tG 80,tK 80 1305 504 2 841 1310,tF 80 m3 846,oe,ov],
 [tG 81,ol "fits_mod" "fits_mod" 1313 512 2 3 848 true 849 vn vn (vr 850) 1316 1317,tF 81 m3 851,oe,ov,ow ["form","frame","is_plain"] 1322,oe,tG 82,tK 82 1319 514 2 853 1325,tF 82 m3 858],
 [oe,ov,ow ["forms","frame","form"] 1331,oe,tG 83,tK 83 1328 519 2 860 1334,tF 83 m3 865,oe,ov,ow ["number","size","has_rex"] 1340],
 [oe,tG 84,tK 84 1337 526 3 867 1343,tF 84 m3 872,oe,ov,ow ["kind","frame","number"] 1349,oe,tG 85,tK 85 1346 530 2 874 1352],
 [tF 85 m3 879,oe,ov,ow ["kind","frame","size","segment","number"] 1358,oe,tG 86,tK 86 1355 535 2 881 1363,tF 86 m3 886,oe,ov],
 [ow ["kind","frame","number"] 1369,oe,tG 87,tK 87 1366 543 2 888 1372,tF 87 m3 893,oe,ov,ot [vs "kind" 1378],oe,tG 88]]
noncomputable def Sl(P:Params):List (List Obj):=[[tK 88 1375 546 1 895 1379,tF 88 m3 900,oe,ov,ow ["octets","at","width","field"] 1385,oe,tG 89,tK 89 1382 554 3 902 1389,tF 89 m3 907,oe],
 [ov,ow ["kind","slot","field"] 1395,oe,tG 90,tK 90 1392 559 3 909 1398,tF 90 m3 914,oe,ov,ow ["form","frame","octets","found","end","kind","slot","width"] 1404,oe],
 [tG 91,tK 91 1401 565 3 916 1412,tF 91 m3 921,oe,ov,tG 92,ol "check_used" "check_used" 1415 581 3 3 923 true 924 vn vn (vr 925) 1418 1419,tF 92 m3 926,oe,ov],
 [ow ["form","frame","repeat","word"] 1424,oe,tG 93,tK 93 1421 589 2 928 1428,tF 93 m3 933,oe,ov,tG 94,ol "read_frame" "read_frame" 1431 599 3 3 935 true 936 vn vn (vr 937) 1434 1435,tF 94 m3 938],
 [ot [Value.int 0 1437],oe,ov,ow ["iset","octets","at","frame","form","operands","end","instruction"] 1441,oe,tG 95,tK 95 1438 608 3 941 1449,of (ft 95) "decode" 3 (vr 940) m3 946,oe,ov],
 [oe,oe,tG 97,tK 97 1454 617 0 948 1457,tF 97 m1 953,oe,ov,oe,oe,tG 98],
 [tK 98 1460 619 0 955 1463,tF 98 m1 960,oe,ov,ow ["stem","size"] 1469,oe,tG 99,tK 99 1466 621 2 962 1471,tF 99 m1 967,oe],
 [ov,ot [vs "size" 1477],oe,tG 100,tK 100 1474 623 1 969 1478,tF 100 m1 974,oe,ov,ot [vs "size" 1484],oe],
 [tG 101,tK 101 1481 629 1 976 1485,tF 101 m1 981,oe,ov,ow ["opcode","size"] 1491,oe,tG 102,tK 102 1488 631 2 983 1493,tF 102 m1 988],
 [ot [Value.int 0 1496],oe,ov,ow ["name","opcode","escape","found","size","kinds"] 1500,oe,tG 103,tK 103 1497 633 3 991 1506,of (ft 103) "store_forms" 3 (vr 990) m1 996,ot [Value.int 0 1509],oe]]
noncomputable def Pa(P:Params):List (List Obj):=[[ov,ow ["name","opcode","escape","found","size","kinds"] 1513,oe,tG 104,tK 104 1510 639 3 999 1519,of (ft 104) "load_forms" 3 (vr 998) m1 1004,oe,ov,ow ["name","opcode","digit","found","size"] 1525,oe],
 [tG 105,tK 105 1522 645 3 1006 1530,tF 105 m1 1011,oe,ov,ow ["name","opcode","digit","found","size","kinds"] 1536,oe,tG 106,tK 106 1533 650 3 1013 1542,tF 106 m1 1018],
 [oe,ov,ow ["name","opcode","digit","found","size"] 1548,oe,tG 107,tK 107 1545 656 3 1020 1553,tF 107 m1 1025,oe,ov,ow ["name","opcode","found","size","kinds"] 1559],
 [oe,tG 108,tK 108 1556 661 2 1027 1564,tF 108 m1 1032,oe,ov,ow ["name","digit","base","found"] 1570,oe,tG 109,tK 109 1567 667 2 1034 1574],
 [tF 109 m1 1039,oe,ov,ot [vs "found" 1580],oe,tG 110,tK 110 1577 675 0 1041 1581,tF 110 m1 1046,oe,ov],
 [ot [vs "found" 1587],oe,tG 111,tK 111 1584 680 0 1048 1588,tF 111 m1 1053,oe,ov,tG 113,ol "codes_of" "codes_of" 1593 687 1 3 1055 true 1056 vn vn (vr 1057) 1596 1597,tF 113 m5 1058],
 [oe,bp,od (vt "dict") [dm P 1606 m5,dq P "InstructionSet" 1607,dl P 691 1609,dr P "__init__" 1621 1073,dr P "told" 1627 1078,dr P "find" 1635 1085,dr P "has" 1643 1092,dr P "at" 1653 1099,dr P "names" 1660 1106,dr P "codes" 1667 1113,dr P "counts" 1675 1120,dr P "memory_sizes" 1683 1127,ds P 1687 1128] 13,oe,oa vn [vi 693,vi 4,vr 1072,vi 708,vi 4,vr 1077,vi 711,vi 4,vr 1084,vi 714,vi 4,vr 1091,vi 717,vi 4,vr 1098,vi 720,vi 4,vr 1105,vi 723,vi 4,vr 1112,vi 726,vi 4,vr 1119,vi 729,vi 4,vr 1126],ol "InstructionSet" "InstructionSet" 1601 691 0 0 1063 false 1064 vn vn vn 1604 1605,wi 1065 1062 m5,oe,ov,ow ["self","forms","number","form","code"] 1614],
 [oe,cG 114 0,cM 114 0 1611 693 2 1067 1619,cF 114 0 m5 1072,oe,ov,cG 114 1,ol "told" "InstructionSet.told" 1622 708 1 3 1074 true 1075 vn vn (vr 1076) 1625 1626,cF 114 1 m5 1077,oe],
 [ov,ow ["self","name"] 1631,oe,cG 114 2,cM 114 2 1628 711 2 1079 1633,cF 114 2 m5 1084,oe,ov,ow ["self","name"] 1639,oe],
 [cG 114 3,cM 114 3 1636 714 2 1086 1641,cF 114 3 m5 1091,oe,ov,ow ["self","must","escape","opcode"] 1647,oe,cG 114 4,cM 114 4 1644 717 4 1093 1651,cF 114 4 m5 1098]]
noncomputable def OK(P:Params):List (List Obj):=[[oe,ov,ot [vs "self" 1657],oe,cG 114 5,cM 114 5 1654 720 1 1100 1658,cF 114 5 m5 1105,oe,ov,ot [vs "self" 1664]],
 [oe,cG 114 6,cM 114 6 1661 723 1 1107 1665,cF 114 6 m5 1112,oe,ov,ow ["self","name"] 1671,oe,cG 114 7,cM 114 7 1668 726 2 1114 1673],
 [cF 114 7 m5 1119,oe,ov,ow ["self","name"] 1679,oe,cG 114 8,cM 114 8 1676 729 2 1121 1681,cF 114 8 m5 1126,ow ["by_code","by_name","forms"] 1684,od (vt "dict") [dm P 1606 m5,dl P 691 1609,dr P "__init__" 1621 1073,dr P "told" 1627 1078,dr P "find" 1635 1085,dr P "has" 1643 1092,dr P "at" 1653 1099,dr P "names" 1660 1106,dr P "codes" 1667 1113,dr P "counts" 1675 1120,dr P "memory_sizes" 1683 1127,ds P 1687 1128,dr P "__dict__" 1689 1131,dr P "__weakref__" 1691 1132,dd P 1692] 4],
 [oc "InstructionSet" [vt "object"] [vr 1130,vt "object"] 1129 [] [none,none,some (vs "InstructionSet" 1599),some (vs "InstructionSet" 1607),some (vb "object.__new__"),some (Value.bool true)],oa (vt "getset_descriptor") [vs "__dict__" 1688,vr 1130,vb "function.__dict__",vb "function.__dict__#set"],oa (vt "getset_descriptor") [vs "__weakref__" 1690,vr 1130,vb "ExceptionGroup.__weakref__",vn],su 1130,bu 1130,oe,ov,tG 117,ol "_law_pen" "_law_pen" 1699 733 1 3 1135 true 1136 vn vn (vr 1137) 1702 1703,tF 117 m0 1138],
 [oe,ov,ow ["pen","many","digit","spot","cell","great","mixed"] 1708,oe,tG 118,tK 118 1705 735 2 1140 1715,tF 118 m0 1145,oe,ov,ow ["pen","some"] 1721],
 [oe,tG 119,tK 119 1718 752 2 1147 1723,tF 119 m0 1152,oe,ov,ot [vs "pen" 1729],oe,tG 120,tK 120 1726 754 1 1154 1730],
 [tF 120 m0 1159,oe,ov,ow ["pen","digits","row","turn","codes","mod","reg","rm","end"] 1736,oe,tG 121,tK 121 1733 756 2 1161 1745,tF 121 m0 1166,oe,ov],
 [ow ["octets","sorts","told","at","octet"] 1751,oe,tG 122,tK 122 1748 772 1 1168 1756,tF 122 m0 1173,oe,ov,ow ["code","digit","digits","names","slots"] 1762,oe,tG 123],
 [tK 123 1759 789 3 1175 1767,tF 123 m0 1180,oe,ov,ow ["number","size","is_rexed","old"] 1773,oe,tG 124,tK 124 1770 803 3 1182 1777,tF 124 m0 1187,oe],
 [ov,ow ["tail","is_signed","found","at","octet"] 1783,oe,tG 125,tK 125 1780 812 2 1189 1788,tF 125 m0 1194,oe,ov,ow ["octets","at","x","b","size","lead","mod","rm","base","index","scale","width","shift","inner","outer","tail"] 1794,oe]]
noncomputable def OD(P:Params):List (List Obj):=[[tG 126,tK 126 1791 817 6 1196 1810,tF 126 m0 1201,oe,ov,tG 127,ol "_law_operands" "_law_operands" 1813 836 6 3 1203 true 1204 vn vn (vr 1205) 1816 1817,tF 127 m0 1206,oe,ov],
 [tG 128,ol "_law_read" "_law_read" 1819 857 2 3 1208 true 1209 vn vn (vr 1210) 1822 1823,tF 128 m0 1211,oe,ov,ow ["script","pen","one","digits","forms","digit","iset","turn","octets","heard","due"] 1828,oe,tG 129,tK 129 1825 877 1 1213 1839,tF 129 m0 1218]]
noncomputable def RV(P:Params):List (List (List Obj)):=[R7 P,Se P,R9 P,SU P,Sr P,RW P,RZ P,RP P,Sv P,Sl P,Pa P,OK P,OD P]
noncomputable def ff(P:Params)(b:Nat):Obj:=K0 default (K0 [] (K0 [] (RV P) (b/100)) (b/10 % 10)) (b % 10)
noncomputable abbrev pz:Pos:=⟨0,0,0,0⟩
noncomputable def RQ(P:Params)(b:Nat):Obj:=match Nat.beq b 2 with|true=>boot_o_2 P|false=>match Nat.beq b 3 with|true=>boot_o_3 P|false=>match Nat.beq b 12 with|true=>oa vn (tl.take 0)|false=>ff P b
noncomputable def Lv(P:Params):BT:=aU 12 (RQ P) 15 1 0
noncomputable def R0(P:Params)(b:Nat):Obj:=match Nat.beq b 3 with|true=>od (vt "dict") (Q6 P m2) 11|false=>match Nat.beq b 12 with|true=>oa vn (tl.take 6)|false=>match Nat.beq b 46 with|true=>oc "MintError" [vt "Exception"] [vr 46,vt "Exception",vt "BaseException",vt "object"] 45 [] [some (vr 22),none,some (vs "MintError" 196),some (vs "MintError" 204),some (vb "Exception.__new__"),some (Value.bool true)]|false=>ff P b
noncomputable def Rt(P:Params):BT:=aU 12 (R0 P) 50 1 0
noncomputable def RM(P:Params)(b:Nat):Obj:=match Nat.beq b 3 with|true=>od (vt "dict") (Rd P m2) 12|false=>match Nat.beq b 12 with|true=>oa vn (tl.take 9)|false=>match Nat.beq b 46 with|true=>oc "MintError" [vt "Exception"] [vr 46,vt "Exception",vt "BaseException",vt "object"] 45 [vr 59] [some (vr 22),none,some (vs "MintError" 196),some (vs "MintError" 204),some (vb "Exception.__new__"),some (Value.bool true)]|false=>ff P b
noncomputable def QQ(P:Params):BT:=aU 12 (RM P) 62 1 0
noncomputable def R5(P:Params)(b:Nat):Obj:=match Nat.beq b 3 with|true=>od (vt "dict") (Rq P m2) 13|false=>match Nat.beq b 12 with|true=>oa vn (tl.take 12)|false=>match Nat.beq b 46 with|true=>oc "MintError" [vt "Exception"] [vr 46,vt "Exception",vt "BaseException",vt "object"] 45 [vr 59,vr 71] [some (vr 22),none,some (vs "MintError" 196),some (vs "MintError" 204),some (vb "Exception.__new__"),some (Value.bool true)]|false=>ff P b
noncomputable def QP(P:Params):BT:=aU 12 (R5 P) 74 1 0
noncomputable def RH(P:Params)(b:Nat):Obj:=match Nat.beq b 3 with|true=>od (vt "dict") (RD P m4) 22|false=>match Nat.beq b 12 with|true=>oa vn (tl.take 30)|false=>ff P b
noncomputable def Ro(P:Params):BT:=aU 12 (RH P) 121 1 0
noncomputable def RT(P:Params)(b:Nat):Obj:=match Nat.beq b 3 with|true=>od (vt "dict") (QR P m4) 29|false=>match Nat.beq b 12 with|true=>oa vn (tl.take 51)|false=>ff P b
noncomputable def Q4(P:Params):BT:=aU 12 (RT P) 170 1 0
noncomputable def SZ(P:Params)(b:Nat):Obj:=match Nat.beq b 3 with|true=>od (vt "dict") (Q8 P m4) 30|false=>match Nat.beq b 12 with|true=>oa vn (tl.take 54)|false=>ff P b
noncomputable def Ra(P:Params):BT:=aU 12 (SZ P) 232 1 0
noncomputable def RG(P:Params)(b:Nat):Obj:=match Nat.beq b 3 with|true=>od (vt "dict") (Rn P m7) 33|false=>match Nat.beq b 12 with|true=>oa vn (tl.take 63)|false=>match Nat.beq b 283 with|true=>oc "Operand" [vt "object"] [vr 283,vt "object"] 282 [] [none,none,some (vs "Operand" 479),some (vs "Operand" 487),some (vb "object.__new__"),some (Value.bool true)]|false=>ff P b
noncomputable def QT(P:Params):BT:=aU 12 (RG P) 288 1 0
noncomputable def Si(P:Params)(b:Nat):Obj:=match Nat.beq b 3 with|true=>od (vt "dict") (Q2 P m7) 34|false=>match Nat.beq b 12 with|true=>oa vn (tl.take 66)|false=>match Nat.beq b 283 with|true=>oc "Operand" [vt "object"] [vr 283,vt "object"] 282 [vr 318] [none,none,some (vs "Operand" 479),some (vs "Operand" 487),some (vb "object.__new__"),some (Value.bool true)]|false=>ff P b
noncomputable def Ru(P:Params):BT:=aU 12 (Si P) 321 1 0
noncomputable def SQ(P:Params)(b:Nat):Obj:=match Nat.beq b 3 with|true=>od (vt "dict") (Rs P m7) 35|false=>match Nat.beq b 12 with|true=>oa vn (tl.take 69)|false=>match Nat.beq b 283 with|true=>oc "Operand" [vt "object"] [vr 283,vt "object"] 282 [vr 318,vr 352] [none,none,some (vs "Operand" 479),some (vs "Operand" 487),some (vb "object.__new__"),some (Value.bool true)]|false=>ff P b
noncomputable def QX(P:Params):BT:=aU 12 (SQ P) 355 1 0
noncomputable def OF(P:Params)(b:Nat):Obj:=match Nat.beq b 3 with|true=>od (vt "dict") (Q7 P m7) 36|false=>match Nat.beq b 12 with|true=>oa vn (tl.take 72)|false=>match Nat.beq b 283 with|true=>oc "Operand" [vt "object"] [vr 283,vt "object"] 282 [vr 318,vr 352,vr 393] [none,none,some (vs "Operand" 479),some (vs "Operand" 487),some (vb "object.__new__"),some (Value.bool true)]|false=>ff P b
noncomputable def NL(P:Params):BT:=aU 12 (OF P) 396 1 0
noncomputable def PC(P:Params)(b:Nat):Obj:=match Nat.beq b 3 with|true=>od (vt "dict") (LI P m7) 37|false=>match Nat.beq b 12 with|true=>oa vn (tl.take 75)|false=>ff P b
noncomputable def MQ(P:Params):BT:=aU 12 (PC P) 449 1 0
noncomputable def OH(P:Params)(b:Nat):Obj:=match Nat.beq b 3 with|true=>od (vt "dict") (Lz P m9) 38|false=>match Nat.beq b 12 with|true=>oa vn (tl.take 78)|false=>ff P b
noncomputable def MB(P:Params):BT:=aU 12 (OH P) 504 1 0
noncomputable def Qh(P:Params)(b:Nat):Obj:=match Nat.beq b 3 with|true=>od (vt "dict") (L4 P m9) 43|false=>match Nat.beq b 12 with|true=>oa vn (tl.take 78)|false=>ff P b
noncomputable def Nu(P:Params):BT:=aU 12 (Qh P) 504 1 0
noncomputable def Pw(P:Params)(b:Nat):Obj:=match Nat.beq b 3 with|true=>od (vt "dict") (Ly P m9) 44|false=>match Nat.beq b 12 with|true=>oa vn (tl.take 81)|false=>ff P b
noncomputable def Nh(P:Params):BT:=aU 12 (Pw P) 560 1 0
noncomputable def OC(P:Params)(b:Nat):Obj:=match Nat.beq b 3 with|true=>od (vt "dict") (Lx P m6) 59|false=>match Nat.beq b 12 with|true=>oa vn (tl.take 114)|false=>ff P b
noncomputable def LM(P:Params):BT:=aU 12 (OC P) 637 1 0
noncomputable def OM(P:Params)(b:Nat):Obj:=match Nat.beq b 3 with|true=>od (vt "dict") (N4 P m8) 71|false=>match Nat.beq b 12 with|true=>oa vn (tl.take 132)|false=>ff P b
noncomputable def N3(P:Params):BT:=aU 12 (OM P) 679 1 0
noncomputable def Qv(P:Params)(b:Nat):Obj:=match Nat.beq b 3 with|true=>od (vt "dict") (MV P m8) 72|false=>match Nat.beq b 12 with|true=>oa vn (tl.take 135)|false=>ff P b
noncomputable def La(P:Params):BT:=aU 12 (Qv P) 736 1 0
noncomputable def Qg(P:Params)(b:Nat):Obj:=match Nat.beq b 3 with|true=>od (vt "dict") (Ni P m3) 80|false=>match Nat.beq b 12 with|true=>oa vn (tl.take 144)|false=>ff P b
noncomputable def Ma(P:Params):BT:=aU 12 (Qg P) 757 1 0
noncomputable def Pj(P:Params)(b:Nat):Obj:=match Nat.beq b 3 with|true=>od (vt "dict") (MP P m3) 81|false=>match Nat.beq b 12 with|true=>oa vn (tl.take 147)|false=>ff P b
noncomputable def LG(P:Params):BT:=aU 12 (Pj P) 785 1 0
noncomputable def Qs(P:Params)(b:Nat):Obj:=match Nat.beq b 3 with|true=>od (vt "dict") (MZ P m3) 82|false=>match Nat.beq b 12 with|true=>oa vn (tl.take 150)|false=>ff P b
noncomputable def Nt(P:Params):BT:=aU 12 (Qs P) 841 1 0
noncomputable def OG(P:Params)(b:Nat):Obj:=match Nat.beq b 3 with|true=>od (vt "dict") (Mi P m3) 95|false=>match Nat.beq b 12 with|true=>oa vn (tl.take 189)|false=>ff P b
noncomputable def MO(P:Params):BT:=aU 12 (OG P) 928 1 0
noncomputable def Ps(P:Params)(b:Nat):Obj:=match Nat.beq b 3 with|true=>od (vt "dict") (Mw P m1) 107|false=>match Nat.beq b 12 with|true=>oa vn (tl.take 225)|false=>ff P b
noncomputable def MK(P:Params):BT:=aU 12 (Ps P) 1013 1 0
noncomputable def OT(P:Params)(b:Nat):Obj:=match Nat.beq b 3 with|true=>od (vt "dict") (K7 P m5) 114|false=>match Nat.beq b 12 with|true=>oa vn (tl.take 246)|false=>ff P b
noncomputable def NZ(P:Params):BT:=aU 12 (OT P) 1060 1 0
noncomputable def OW(P:Params)(b:Nat):Obj:=match Nat.beq b 3 with|true=>od (vt "dict") (NV P m5) 115|false=>match Nat.beq b 12 with|true=>oa vn (tl.take 249)|false=>ff P b
noncomputable def M6(P:Params):BT:=aU 12 (OW P) 1135 1 0
noncomputable def Qu(P:Params)(b:Nat):Obj:=match Nat.beq b 3 with|true=>od (vt "dict") (Mc P m0) 127|false=>match Nat.beq b 12 with|true=>oa vn (tl.take 282)|false=>ff P b
noncomputable def Mx(P:Params):BT:=aU 12 (Qu P) 1208 1 0
noncomputable def Qi(P:Params)(b:Nat):Obj:=ff P b
noncomputable def IH(P:Params):BT:=aU 12 (Qi P) 1220 1 0
noncomputable def wM:Env:={scope:=P.main.scope,locals:=mainNs,globals:=mainNs,cells:=[],code:= .ref 13,frame:=some 14}
noncomputable def sg(d k:Nat):List Stmt:=((behindTheImports P).drop d).take k
noncomputable def St(t:Params->BT)(n k:Nat)(w:World)(os:OsState):SharedT:={tree:=t w.params,n:=n,life:={},gens:= #[],drawn:={},toks:=k,os:=os}
def Pc(N:Nat)(t:Params->BT)(n k d c:Nat)(q:Pos)(t':Params->BT)(n' k':Nat)(q':Pos):Prop:= ∀w:World,(fun(p:Program) (b:List Stmt) (os:OsState)=>segRunT treeTable p w 11 (some (Value.ref 6)) 1 N (St t n k w os) (piecesOf (sg d c) wM (Code.body b wM) q [topFrame pz]))=λp b os=>some (Flow.next,St t' n' k' w os,Code.body b wM,q')
local macro_rules
 | `(tactic|ext)=> `(tactic|(intro w;rw[PySem.W.Fast.te10110043849684766642,PySem.W.Fast.te14364793385576792824];kernel_rfl))
theorem R3:Pc 301 Lv 15 187 0 3 ⟨0,0,0,0⟩ Rt 50 234 ⟨5,0,15,29⟩:=by
 ext
theorem SJ:Pc 214 Rt 50 234 3 1 ⟨5,0,15,29⟩ QQ 62 250 ⟨16,0,17,8⟩:=by
 ext
theorem Sy:Pc 214 QQ 62 250 4 1 ⟨16,0,17,8⟩ QP 74 266 ⟨18,0,19,8⟩:=by
 ext
theorem SD:Pc 401 QP 74 266 5 10 ⟨18,0,19,8⟩ Ro 121 331 ⟨45,0,45,8⟩:=by
 ext
theorem R4:Pc 204 Ro 121 331 15 7 ⟨45,0,45,8⟩ Q4 170 380 ⟨68,0,77,47⟩:=by
 ext
theorem Sn:Pc 424 Q4 170 380 22 1 ⟨68,0,77,47⟩ Ra 232 463 ⟨78,0,108,16⟩:=by
 ext
theorem RU:Pc 383 Ra 232 463 23 4 ⟨78,0,108,16⟩ QT 288 529 ⟨116,0,128,17⟩:=by
 ext
theorem Sx:Pc 308 QT 288 529 27 1 ⟨116,0,128,17⟩ Ru 321 568 ⟨129,0,139,30⟩:=by
 ext
theorem R6:Pc 312 Ru 321 568 28 1 ⟨129,0,139,30⟩ QX 355 610 ⟨140,0,151,24⟩:=by
 ext
theorem Sm:Pc 344 QX 355 610 29 1 ⟨140,0,151,24⟩ NL 396 660 ⟨152,0,166,44⟩:=by
 ext
theorem Pb:Pc 416 NL 396 660 30 1 ⟨152,0,166,44⟩ MQ 449 736 ⟨167,0,194,16⟩:=by
 ext
theorem OB:Pc 395 MQ 449 736 31 2 ⟨167,0,194,16⟩ MB 504 811 ⟨220,0,220,8⟩:=by
 ext
theorem O2:Pc 46 MB 504 811 33 5 ⟨220,0,220,8⟩ Nu 504 821 ⟨225,0,225,10⟩:=by
 ext
theorem Pp:Pc 384 Nu 504 821 38 1 ⟨225,0,225,10⟩ Nh 560 891 ⟨226,0,247,24⟩:=by
 ext
theorem PL:Pc 369 Nh 560 891 39 16 ⟨226,0,247,24⟩ LM 637 982 ⟨298,0,307,60⟩:=by
 ext
theorem Pk:Pc 256 LM 637 982 55 13 ⟨298,0,307,60⟩ N3 679 1056 ⟨349,0,358,61⟩:=by
 ext
theorem Qm:Pc 396 N3 679 1056 68 1 ⟨349,0,358,61⟩ La 736 1133 ⟨359,0,398,27⟩:=by
 ext
theorem PN:Pc 149 La 736 1133 69 9 ⟨359,0,398,27⟩ Ma 757 1173 ⟨442,0,442,8⟩:=by
 ext
theorem Qj:Pc 260 Ma 757 1173 78 1 ⟨442,0,442,8⟩ LG 785 1215 ⟨443,0,452,53⟩:=by
 ext
theorem Ql:Pc 404 LG 785 1215 79 1 ⟨443,0,452,53⟩ Nt 841 1305 ⟨453,0,503,30⟩:=by
 ext
theorem O4:Pc 399 Nt 841 1305 80 13 ⟨453,0,503,30⟩ MO 928 1421 ⟨581,0,588,52⟩:=by
 ext
theorem Qz:Pc 385 MO 928 1421 93 13 ⟨581,0,588,52⟩ MK 1013 1533 ⟨645,0,649,16⟩:=by
 ext
theorem O9:Pc 226 MK 1013 1533 106 8 ⟨645,0,649,16⟩ NZ 1060 1599 ⟨687,0,690,82⟩:=by
 ext
theorem Pd:Pc 480 NZ 1060 1599 114 1 ⟨687,0,690,82⟩ M6 1135 1695 ⟨691,0,730,17⟩:=by
 ext
theorem QO:Pc 377 M6 1135 1695 115 13 ⟨691,0,730,17⟩ Mx 1208 1819 ⟨836,0,856,56⟩:=by
 ext
theorem PM:Pc 66 Mx 1208 1819 128 2 ⟨836,0,856,56⟩ IH 1220 1842 ⟨877,0,894,15⟩:=by
 ext
noncomputable abbrev BB:List Stmt:=behindTheImports P
noncomputable abbrev TR(w:World)(N:Nat)(s:Shared)(l:List Stmt)(q:Pos):Option Shared:=topRun treeTable P w 11 (some (.ref 6)) N s (restOf l wM (Code.body BB wM) q [topFrame pz])
theorem Pc.app{N n k d c n' k' M:Nat}{t t':Params->BT}{q q':Pos}(h:Pc N t n k d c q t' n' k' q'){w:World}{os:OsState}{r:Shared}(z:TR w M (St t' n' k' w os).abs (BB.drop (d+c)) q'=some r):TR w (N+M) (St t n k w os).abs (BB.drop d) q=some r:=by
 have e:BB.drop d=sg d c++BB.drop (d+c):=by unfold sg;rw[<-List.drop_drop,List.take_append_drop]
 unfold TR;rw[e];exact piece_app (segRun_of (congrFun (congrFun (congrFun (h w) P) BB) os)) z
noncomputable def H1(p:Params):Heap:=absHeap (IH p) 1220 {}
noncomputable abbrev Sk(w:World)(os:OsState):Shared:=⟨H1 w.params,#[],{},1842,os⟩
noncomputable abbrev Ge:Pos:=⟨877,0,894,15⟩
theorem Nf(w:World)(os:OsState):TR w 2 (Sk w os) [] Ge=some (Sk w os):=by
 unfold TR;rw[PySem.W.Fast.te14082659384304107361,PySem.W.Fast.te14364793385576792824];kernel_rfl
theorem Mg:BB.drop 130=[]:=⋯
theorem D0(w:World)(os:OsState):TR w 8115 (St Lv 15 187 w os).abs BB pz=some (Sk w os):=by
 have z:=Nf w os;rw[<-Mg] at z;have z:=R3.app (SJ.app (Sy.app (SD.app (R4.app (Sn.app (RU.app (Sx.app (R6.app (Sm.app (Pb.app (OB.app (O2.app (Pp.app (PL.app (Pk.app (Qm.app (PN.app (Qj.app (Ql.app (O4.app (Qz.app (O9.app (Pd.app (QO.app (PM.app z)))))))))))))))))))))))));exact z
noncomputable def q:Program:={P with main:={P.main with body:=P.main.body.drop 129}}
noncomputable def loose:List Str:=(P.main.scope.names.map (·.1)).dropLast
noncomputable abbrev cB:Code:=Code.body BB wM
theorem LZ(w:World)(os:OsState):topGo treeTable P w 11 (some (.ref 6)) 12 ⟨boot_heap w.params,#[],boot_drawn,boot_toks,os⟩ (topStub P)=some ((St Lv 15 187 w os).abs,⟨denote treeTable cB,cB,pz,[topFrame pz]⟩):=by
 unfold topStub;rw[PySem.W.Fast.te15667345088766844465,PySem.W.Fast.te14364793385576792824,PySem.W.Fast.te17154629097778926822,PySem.W.Fast.te12822647523644345616,PySem.W.Fast.te11892475500146522536];kernel_rfl
theorem Ea(w:World)(os:OsState):segRun treeTable P w 11 (some (.ref 6)) 1 1 (St Lv 15 187 w os).abs (blockOf BB wM cB pz [topFrame pz])=some (.next,(St Lv 15 187 w os).abs,cB,pz):=by
 rw[PySem.W.Fast.te14374325043358763698,PySem.W.Fast.te14364793385576792824];kernel_rfl
theorem Nr(w:World)(os:OsState):topRun treeTable P w 11 (some (.ref 6)) 8128 ⟨boot_heap w.params,#[],boot_drawn,boot_toks,os⟩ (topStub P)=some (Sk w os):=
 go_top (LZ w os) (piece_block (n:=1) (Ea w os) (D0 w os))
theorem Kt: ∀w:World,(fencedOpening treeTable P w 20000).map (λs=>(s.heap,s.gens,s.drawn,s.toks))=some (boot_heap w.params,#[],boot_drawn,boot_toks):=
 boot_open ⋯ (by decide+kernel) (λs=>⋯)
theorem Iy: ∀w:World,((boot_heap w.params).isNs mainGlobals&&(#[]:Array GenState).size==0,(boot_heap w.params).objs.size,(boot_heap w.params).nsMap mainGlobals "__annotations__")=(true,11,some (.ref 6)):=by
 intro w;kernel_rfl
theorem l1(w:World)(os:OsState):(staticsOk (importedModules P.main.body) (boot_heap w.params) (H1 w.params)&&namesBound P (H1 w.params)&&gensDone (Sk w os)&&laidKept (boot_heap w.params) (H1 w.params))=true:=by
 unfold staticsOk namesBound laidKept;simp only[PySem.W.Fast.te8920871248978507458];kernel_rfl
theorem l2(w:World)(os:OsState):openSeen q loose (importedModules P.main.body) (λ_=>true) true (Sk w os)=openGood q loose:=by
 rw[PySem.W.Fast.te4187177175401517315];kernel_rfl
theorem left:LeftO P q loose (λ_=>true) (λs=>s.heap) (λw=>H1 w.params) 20000:=
 LeftO.of_pieces (H₀:=boot_heap) (H₁:=H1) (gs₀:= #[]) (gs₁:= #[]) (d₀:=boot_drawn) (d₁:={}) (k₀:=boot_toks) (k₁:=1842) (m₀:=11) (ann:=some (.ref 6)) (M:=8128)
  Kt Iy Nr (by decide+kernel) (λw=>funext λos=>Prod.ext (l1 w os) (Prod.ext (l2 w os) rfl))
theorem Ss:(chainsOk q&&opensWell P&&(frees PySem.Challenge.rw_nn0075_01.row.toRowW&&PySem.Challenge.rw_nn0075_01.row.toRowW.within.isEmpty))=true:=⋯
theorem HW:PySem.Challenge.rw_nn0075_01.row.toRowW.promised:=by w_witness2
end
end MineH
namespace Mine
section
open PySem PySem.W PySem.Calls PyProof.Rows PySem.SeqAt
set_option genInjectivity false
set_option genSizeOf false
set_option maxRecDepth 1000000
structure Base (w:World) where
 prog:Program
 B:Gm
 mg:Str->Option Value
 mb:Str->Option Value
 K:Frag
 hg: ∀h:Heap,(∀b o,B b=some o->h.get? b=some o)->h.Ns mainGlobals mg
 hb: ∀h:Heap,(∀b o,B b=some o->h.get? b=some o)->h.Ns builtinsNs mb
 hK: ∀h:Heap,(∀b o,B b=some o->h.get? b=some o)->K.In h
 lim: ∀h:Heap,(∀b o,B b=some o->h.get? b=some o)->h.NoLimit
 two: ∀h:Heap,(∀b o,B b=some o->h.get? b=some o)->1<h.objs.size
 attr: ∀C n,n∈lay C->plainGet K C (AN.getD n Str.empty)=true/\hasDictIn K C=true/\findIn K (.ref C) "__setattr__" =some (some (.builtin "object.__setattr__"))/\plainOver K C=true/\takerIn K C (AN.getD n Str.empty)=some none/\
  ∃a,findIn K (.ref C) (AN.getD n Str.empty)=some a/\noGet K a=true
structure Cx where
 env:Env
 fenv:Env
 outer:List Env
 nm:List Str
 gl:Gl
 lvl:Nat
 Tc:List Addr
noncomputable def Cx.fr(X:Cx):List Env:=X.fenv::X.outer
def xC{w:World}(Bs:Base w)(x:Str)(a:AV):Prop:= ∃v,ar w (λ_=>none) [] a v/\(Bs.mg x=some v\/(Bs.mg x=none/\Bs.mb x=some v))
structure Cx.Ok {w:World} (X:Cx) (Bs:Base w):Prop where
 fn:X.env.scope.kind= .function
 gl:X.env.globals=mainGlobals
 bl:X.env.builtins=builtinsNs
 nd:X.nm.Nodup
 loc: ∀x∈X.nm,(x==("__debug__" :Str))=false/\(x==("__classdict__" :Str))=false/\(X.env.kindOf x=some .local\/X.env.kindOf x=some .cell\/X.env.kindOf x=some .free)
 UU: ∀p∈X.gl,(p.1==("__debug__" :Str))=false/\xC Bs p.1 p.2
 fr:X.fenv.frame=some X.fenv.locals
 VY:X.env.cells=[]\/ ∃x c,X.env.cells=[(x,c)]
 V1:X.env.frame=some X.fenv.locals
 Uz: ∀x,X.env.kindOf x=some .cell-> ∃c,X.env.cells.lookup x=some c
def lN(lvl:Nat)(fr:List Env)(A:Around):Prop:=A.depth+3*lvl+10<=1000/\A.units+30*lvl+100<=9900/\A.handled=none/\A.frames=some fr
structure aZ {w:World} (Bs:Base w) (X:Cx) (G:Gm) (ρ:Rm) (st:St) (h:Heap):Prop where
 g:iB w Bs.B G ρ st.S9 X.fr h
 len:st.loc.length=X.nm.length
 l: ∃m,h.Ns X.env.locals m/\(∀(i:Nat) (a:AV),st.loc[i]?=some (some a)-> ∃x v,X.nm[i]?=some x/\ar w G ρ a v/\
  ((X.env.kindOf x=some .local/\m x=some v)\/((X.env.kindOf x=some .cell\/X.env.kindOf x=some .free)/\ ∃c,X.env.cells.lookup x=some c/\h.IsCell c (some v))))/\ ∀(x:Str) (c:Addr),X.env.cells.lookup x=some c-> ∃v,h.IsCell c v
 p: ∀b,b∈X.env.locals::X.env.cells.map (·.2)\/b∈X.Tc->G b=none/\ ¬bK ρ st.S9 b/\ ∃o,h.get? b=some o
 pl:X.env.locals∈X.Tc
inductive ExcAt (h₀:Heap) (L:Addr) (G:Gm) (ρ:Rm) (σ:aX) (h:Heap) (x C:Addr):Prop where
 |mk (f1:h₀.get? x=none) (f2:G x=none) (f3: ¬bK ρ σ x) (oe:Obj) (vs:Array Value) (a0:Value) (he:h.get? x=some oe) (hc:oe.cls= .ref C) (hd:oe.data= .fields vs) (h0:vs[0]?=some a0)
  (alt:vs[1]?=some .none\/ ∃T oT ts fl,vs[1]?=some (.ref T)/\h₀.get? T=none/\T≠x/\G T=none/\ ¬bK ρ σ T/\h.get? T=some oT/\oT.data= .fields ts/\ts[3]?=some fl/\(fl= .none\/fl=rawInt L))
theorem ExcAt.le{h₀ h₁}{L}{G}{ρ}{σ}{h}{x C}(al: ∀b o,h₁.get? b=some o-> ∃o',h₀.get? b=some o')(e:ExcAt h₀ L G ρ σ h x C):ExcAt h₁ L G ρ σ h x C:=by
 obtain⟨f1,f2,f3,oe,vs,a0,he,hc,hd,h0,alt⟩:=e;exact⟨none_of al f1,f2,f3,oe,vs,a0,he,hc,hd,h0,alt.imp id λh=>h.imp λT h=>h.imp λoT h=>h.imp λts h=>h.imp λfl h=>⟨h.1,none_of al h.2.1,h.2.2⟩⟩
abbrev WP(α:Type):=Around->(α->Shared->Prop)->(Value->Shared->Prop)->Shared->Prop
noncomputable def WP.bind{α β:Type}(W:WP α)(U:α->WP β):WP β:=λA Q E s=>W A (λa s'=>U a A Q E s') E s
section
variable {w:World} (Bs:Base w) (X:Cx)
noncomputable def wp{α:Type}(t:Sem α):WP α:=λA Q E s=>wpAny (model Bs.prog w) A t Q E s
def er{α β:Type}(R:Gm->Rm->β->α->Prop)(r:Res β)(G':Gm)(ρ':Rm)(σ':aX)(h₀:Heap)(s:Shared)(h':Heap)(tk:Nat)(Q:α->Shared->Prop)(E:bS):Prop:=match r with
 | .ok b=> ∀a,R G' ρ' b a->Q a {s with heap:=h',toks:=tk}
 | .exc C=> ∀x,ExcAt h₀ X.fenv.locals G' ρ' σ' h' x C->E (.ref x) {s with heap:=h',toks:=tk}
def uu{α β:Type}(Pre:Gm->Rm->Prop)(W:WP α)(R:Gm->Rm->β->α->Prop)(st:St)(r:Res β)(st':St):Prop:=
 ∀A G ρ (s:Shared),lN X.lvl X.fr A->aZ Bs X G ρ st s.heap->Pre G ρ-> ∀Q E,
  (∀G' ρ' h' tk,aZ Bs X G' ρ' st' h'->aH G ρ st.S9 s.heap G' ρ' st'.S9 h' (aG X.fr) X.Tc->er X R r G' ρ' st'.S9 s.heap s h' tk Q E)->W A Q E s
def SE{α β:Type}(Pre:Gm->Rm->Prop)(W:WP α)(m:St->Out β)(R:Gm->Rm->β->α->Prop):Prop:= ∀st r st',m st=some (r,st')->uu Bs X Pre W R st r st'
def aR(Pre:Gm->Rm->Prop):Prop:= ∀G G' ρ ρ',dF G G'->fk ρ ρ'->Pre G ρ->Pre G' ρ'
def VR:Gm->Rm->AV->Value->Prop:=λG ρ a v=>ar w G ρ a v
def vL:Gm->Rm->aV->List Value->Prop:=λG ρ a v=>ag w G ρ a v
def UR:Gm->Rm->Unit->Unit->Prop:=λ_ _ _ _=>True
def BR:Gm->Rm->Bool->Bool->Prop:=λ_ _ a b=>a=b
variable {Bs X}
theorem bO{α β:Type}{x:Out α}{f:α->St->Out β}{r:Res β}{s'}{p:Prop}(h:ao x f=some (r,s'))(h1: ∀C,x=some (.exc C,s')->r= .exc C->p)(h2: ∀a s1,x=some (.ok a,s1)->f a s1=some (r,s')->p):p:=
 bA h λq=>match q with
  |(.ok a,s1)=>λe h=>h2 a s1 e h
  |(.exc C,s1)=>λe h=>h1 C ((so h).2▸e) (so h).1.symm
theorem SE.of{α β:Type}{Pre:Gm->Rm->Prop}{W:WP α}{m:St->Out β}{R:Gm->Rm->β->α->Prop}(h: ∀st q,m st=some q->uu Bs X Pre W R st q.1 q.2):SE Bs X Pre W m R:=λst r st' hm=>h st (r,st') hm
theorem SE.Ui{α β:Type}{Pre:Gm->Rm->Prop}{W:WP α}{c}{m n:St->Out β}{R:Gm->Rm->β->α->Prop}(h1:c=true->SE Bs X Pre W m R)(h2:c=false->SE Bs X Pre W n R):SE Bs X Pre W (λs=>cond c (m s) (n s)) R:=by
 cases c with
 |true=>exact h1 rfl
 |false=>exact h2 rfl
theorem SE.no{α β:Type}{Pre:Gm->Rm->Prop}{W:WP α}{R:Gm->Rm->β->α->Prop}:SE Bs X Pre W (λ_=>none) R:=λ_ _ _ hm=>aB hm
theorem er.from{α β:Type}{R:Gm->Rm->β->α->Prop}{r:Res β}{G}{ρ}{σ}{s}{g1 g2}{T3 tk2}{Q:α->Shared->Prop}{E:bS}(al: ∀b o,s.heap.get? b=some o-> ∃o',g1.get? b=some o')(z:er X R r G ρ σ s.heap s g2 tk2 Q E):
  er X R r G ρ σ g1 {s with heap:=g1,toks:=T3} g2 tk2 Q E:=by
 cases r with
 |ok c=>exact z
 |exc C=>exact λx hx=>z x (hx.le al)
theorem uu.bind{α β γ δ:Type}{Pre:Gm->Rm->Prop}{W:WP α}{R:Gm->Rm->β->α->Prop}{U:α->WP γ}{R':Gm->Rm->δ->γ->Prop}{b:β}{st s1 st'}{r:Res δ}
  (hp:aR Pre) (h1:uu Bs X Pre W R st (.ok b) s1) (h2: ∀a,uu Bs X (λG ρ=>Pre G ρ/\R G ρ b a) (U a) R' s1 r st'):uu Bs X Pre (W.bind U) R' st r st':=λA G ρ s hA hI hP Q E k=>
 h1 A G ρ s hA hI hP _ _ λG1 ρ1 g1 T3 I1 S1 a ha=>h2 a A G1 ρ1 _ hA I1 ⟨hp _ _ _ _ S1.gl S1.rl hP,ha⟩ Q E λG2 ρ2 g2 tk2 I2 S2=>er.from S1.alive (k G2 ρ2 g2 tk2 I2 (S1.trans S2))
theorem uu.exc{α β γ δ:Type}{Pre:Gm->Rm->Prop}{W:WP α}{R:Gm->Rm->β->α->Prop}{U:α->WP γ}{R':Gm->Rm->δ->γ->Prop}{st st'}{C}(h1:uu Bs X Pre W R st (.exc C) st'):uu Bs X Pre (W.bind U) R' st (.exc C) st':=
 λA G ρ s hA hI hP Q E k=>h1 A G ρ s hA hI hP _ E k
theorem SE.bind{α β γ δ:Type}{Pre:Gm->Rm->Prop}{W:WP α}{m:St->Out β}{R:Gm->Rm->β->α->Prop}{U:α->WP γ}{f:β->St->Out δ}{R':Gm->Rm->δ->γ->Prop}
  (hp:aR Pre) (h1:SE Bs X Pre W m R) (h2: ∀b a,SE Bs X (λG ρ=>Pre G ρ/\R G ρ b a) (U a) (f b) R'):SE Bs X Pre (W.bind U) (λs=>ao (m s) f) R':=λst r st' hm=>
 bO hm (λC e e'=>e'▸(h1 _ _ _ e).exc) λb s1 e1 e2=>(h1 _ _ _ e1).bind hp λa=>h2 b a _ _ _ e2
theorem SE.le{α β:Type}{Pre:Gm->Rm->Prop}{W U:WP α}{m:St->Out β}{R:Gm->Rm->β->α->Prop}(h:SE Bs X Pre W m R)(le: ∀A Q E s,W A Q E s->U A Q E s):SE Bs X Pre U m R:=
 λst r st' hm A G ρ s hA hI hP Q E k=>le _ _ _ _ (h st r st' hm A G ρ s hA hI hP Q E k)
theorem SE.pre(h:SE Bs X Pre W m R)(le: ∀G ρ,Ve G ρ->Pre G ρ):SE Bs X Ve W m R:=
 λst r st' hm A G ρ s hA hI hP Q E k=>h st r st' hm A G ρ s hA hI (le _ _ hP) Q E k
theorem aZ.ok{st}{G}{ρ}{s}{α β:Type}{R:Gm->Rm->β->α->Prop}{b:β}{Q:α->Shared->Prop}{E:bS}(hI:aZ Bs X G ρ st s.heap)
  (k: ∀G' ρ' h' tk,aZ Bs X G' ρ' st h'->aH G ρ st.S9 s.heap G' ρ' st.S9 h' (aG X.fr) X.Tc->er X R (.ok b) G' ρ' st.S9 s.heap s h' tk Q E) {a:α} (ha:R G ρ b a) (tk:Nat):Q a {s with toks:=tk}:=
 k G ρ s.heap tk hI aH.rfl a ha
theorem aR.true:aR λ_ _=>True:=λ_ _ _ _ _ _ _=>trivial
theorem aR.and(x:aR P)(y:aR R):aR λG ρ=>P G ρ/\R G ρ:=λ_ _ _ _ g r h=>⟨x _ _ _ _ g r h.1,y _ _ _ _ g r h.2⟩
theorem aR.Wr(a)(v):aR λG ρ=>vL (w:=w) G ρ a v:=λ_ _ _ _ g r h=>ag.mono g r a h
theorem aR.vr(a)(v):aR λG ρ=>VR (w:=w) G ρ a v:=λ_ _ _ _ g r h=>ar.mono g r a h
theorem SE.one{α β:Type}{Pre:Gm->Rm->Prop}{W:WP α}{b:β}{R:Gm->Rm->β->α->Prop}(h: ∀st A G ρ (s:Shared),lN X.lvl X.fr A->aZ Bs X G ρ st s.heap->Pre G ρ-> ∀Q E,(∀a tk,R G ρ b a->Q a {s with toks:=tk})->W A Q E s):SE Bs X Pre W (λs=>some (.ok b,s)) R:=
 SE.of λst q hm=>aC hm▸λA G ρ s hA hI hP Q E k=>h st A G ρ s hA hI hP Q E λa tk ha=>hI.ok k ha tk
theorem SE.lift{α β:Type}{Pre:Gm->Rm->Prop}{W:WP α}{f:St->Option β}{R:Gm->Rm->β->α->Prop}(h: ∀st b,f st=some b-> ∀A G ρ (s:Shared),lN X.lvl X.fr A->aZ Bs X G ρ st s.heap->Pre G ρ-> ∀Q E,(∀a tk,R G ρ b a->Q a {s with toks:=tk})->W A Q E s):SE Bs X Pre W (λs=>bo s (f s)) R:=
 SE.of λst q hm=>ed hm λb e hm=>hm▸λA G ρ s hA hI hP Q E k=>h st b e A G ρ s hA hI hP Q E λa tk ha=>hI.ok k ha tk
theorem jn{α:Type}{o}{a:α}(h:o.join=some a):o=some (some a):=by
 cases o with
 |none=>exact aB h
 |some x=>exact ac some h
theorem Io(hX:X.Ok Bs)(hx:X.nm[i]?=some x):SE Bs X (λ_ _=>True) (wp Bs (eval (.Name x p) X.env)) (aw T gl (.var i)) (VR (w:=w)):=by
 refine SE.lift (f:=λst=>(st.loc[i]?).join) λst a hm A G ρ s hA hI hP Q E k=> ?_;obtain⟨m,hns,hl,_⟩:=hI.l;obtain⟨y,v,hy,hv,hc⟩:=hl i a (jn hm);obtain rfl:x=y:=aC (hx.symm.trans hy);have d:=hX.loc x (gz hx);have q:Q v s:=k v s.toks hv;exact hc.elim (λc=>wpAny_Name (wpAny_loadName_local hX.fn c.1 hns c.2 q) d.1) λc=>c.2.elim λa z=>c.1.elim (λkc=>wpAny_Name (wpAny_loadName_cell hX.fn kc z.1 z.2 q) d.1) λkc=>wpAny_Name (wpAny_loadName_free hX.fn kc z.1 z.2 q d.2.1) d.1
theorem ar.const: ∀{a:AV} {v:Value},ar w (λ_=>none) [] a v->ar w G ρ a v:=fun{a} {v} h=>
 ar.mono (λ_ _ e=>by cases e) (λ_ _ e=>by simp at e) a h
theorem ER(hX:X.Ok Bs)(hx:X.gl[i]?=some (x,a))(kg:X.env.kindOf x=some .globalImplicit):SE Bs X (λ_ _=>True) (wp Bs (eval (.Name x p) X.env)) (aw T X.gl (.glob i)) (VR (w:=w)):=by
 refine SE.lift (f:=λ_=>X.gl[i]?.map (·.2)) λst b hm A G ρ s hA hI hP Q E k=> ?_;rw[hx] at hm;obtain rfl:=aC hm;obtain⟨d1,v,hv,hg⟩:=hX.UU _ (gz hx);have q:Q v s:=k v s.toks (ar.const hv);have hk: ∀b o,Bs.B b=some o->s.heap.get? b=some o:=λb o e=>hI.g.Tg b o (hI.g.base b o e);have ng:=hX.gl.symm▸Bs.hg _ hk;have nb:=hX.bl.symm▸Bs.hb _ hk;exact hg.elim (λhg=>Name_function_global hX.fn kg (loadGlobal_global ng hg q) d1) λhg=>Name_function_global hX.fn kg (loadGlobal_builtin ng hg.1 nb hg.2 q) d1
end
end
end Mine
namespace Mine
section
open PySem PySem.W PySem.Calls PyProof.Rows PySem.SeqAt
set_option maxRecDepth 1000000
noncomputable def jt:Heap:=⟨#[],{}⟩
theorem qi(b):jt.get? b=none:=by
 unfold jt Heap.get?;simp
noncomputable def eB(h:Heap)(L:Addr):List (Addr×Obj):=(List.range h.objs.size).filterMap λa=>if a=L then none else(h.get? a).map λo=>(a,o)
theorem dW:(b,o)∈eB h L↔b≠L/\h.get? b=some o:=by
 unfold eB;rw[List.mem_filterMap];constructor
 ·rintro ⟨a,_,e⟩
  by_cases hn:a=L
  ·exact aB ((if_pos hn).symm.trans e)
  ·refine ed ((if_neg hn).symm.trans e) λo' e1 e2=> ?_;rw[<-(Prod.mk.inj e2).1,<-(Prod.mk.inj e2).2];exact⟨hn,e1⟩
 ·exact λz=>⟨b,List.mem_range.mpr (Heap.lt_size z.2),(if_neg z.1).trans (ac (Option.map λo=>(b,o)) z.2)⟩
theorem eG(h)(L):News jt L h (eB h L):=λp hp=>⟨(dW.mp hp).2,(dW.mp hp).1,qi p.1⟩
theorem gB(n:h.Ns L m):Fr jt L h m:=⟨n,(λb o e=>by rw[qi] at e;cases e),Nat.zero_le _⟩
theorem fu(N:News h₀ L h' (more++eB h L)): ∀b o,b≠L->h.get? b=some o->h'.get? b=some o:=
 λb o n e=>(N (b,o) (List.mem_append_right _ (dW.mpr ⟨n,e⟩))).1
section
variable {w:World} {Bs:Base w} {X:Cx}
theorem iL{h:Heap}{b:Addr}{o:Obj}(e:h.get? b=some o):b<h.objs.size:=Heap.lt_size e
theorem aD{h:Heap}{b:Addr}{o:Obj}(e:h.get? b=some o)(n:h.get? b=none):False:=lg (e.symm.trans n)
theorem bj{h:Heap}{b:Addr}(l:h.objs.size<=b):h.get? b=none:=wh λo q=>absurd (iL q) (Nat.not_lt.mpr l)
theorem L7{h}{o}{p:Addr×Addr}{b}:dh w G ρ h o p->b∈fp o p-> ∃x,h.get? b=some x:=
 o.casesOn (motive:=λo=>dh w G ρ h o p->b∈fp o p-> ∃x,h.get? b=some x) (λ_ r e=>r.elim λ_ r=>r.elim λ_ r=>dt e▸⟨_,r.1⟩) (λ_ _ r e=>r.elim λ_ r=>r.elim λ_ r=>dt e▸⟨_,r.1⟩) (λ_ _ r e=>r.elim λ_ r=>r.elim λ_ r=>dt e▸⟨_,r.1⟩)
  (λ_ _ r e=>r.elim λ_ r=>r.elim λ_ r=>dt e▸⟨_,r.1⟩) (λ_ _ r e=>(cW e).elim (λe=>e▸⟨_,r.1⟩) λe=>r.2.2.elim λ_ r=>r.elim λ_ r=>dt e▸⟨_,r.1⟩) (λ_ _ e=>fP e) λ_ e=>fP e
theorem fR(I:iB w B G ρ σ fr h)(q:bK ρ σ b): ∃o,h.get? b=some o:=q.elim λk q=>q.elim λp q=>q.elim λo q=>L7 (I.rep k p o q.1 q.2.1) q.2.2
theorem kQ{h:Heap}{L:Addr}{m:Str->Option Value}(x:h.Ns L m): ∃o,h.get? L=some o/\ ∀vs,o.data≠ .fields vs:=x.imp λo z=>z.elim λes z=>z.elim λep z=>⟨z.1,λvs q=>by cases z.2.1.symm.trans q⟩
theorem o9{h:Heap}{L:Addr}{m:Str->Option Value}{o:Obj}{v:Option Value}{p:Prop}(x:h.Ns L m)(e:h.get? L=some o)(d:o.data= .cell v):p:=x.elim λo' x=>x.elim λes x=>x.elim λep x=>by
 obtain rfl:=aC (e.symm.trans x.1);cases d.symm.trans x.2.1
theorem ur{h h':Heap}{L c:Addr}{m:Str->Option Value}{v:Option Value}(x:h.Ns L m)(ext: ∀b o,b≠L->h.get? b=some o->h'.get? b=some o)(z:h.IsCell c v):h'.IsCell c v:=z.imp λo z=>⟨ext c o (λq=>o9 x (q▸z.1) z.2) z.1,z.2⟩
theorem aZ.grow{G G':Gm}{ρ:Rm}{st:St}{h h':Heap}(hI:aZ Bs X G ρ st h)(ext: ∀b o,b≠X.env.locals->h.get? b=some o->h'.get? b=some o)(hns: ∀m,h.Ns X.env.locals m->h'.Ns X.env.locals m)
  (hG: ∀b o,G' b=some o->G b=some o\/(h.get? b=none/\h'.get? b=some o)) (gl:dF G G'):
  aZ Bs X G' ρ st h'/\aH G ρ st.S9 h G' ρ st.S9 h' (aG X.fr) X.Tc:=by
 have hL:=hI.p X.env.locals (.inl (.head _));have Tp: ∀b,G b=none->(∃o,h.get? b=some o)->G' b=none:=λb e z=>wh λo q=>(hG b o q).elim (λy=>lg (y.symm.trans e)) λy=>z.elim λx l=>aD l y.1;obtain⟨m,hm,hl,hcl⟩:=hI.l;have cases': ∀(b:Addr) {p:Prop},(b=X.env.locals->p)->(b≠X.env.locals->p)->p:=λb p f g=>(Classical.em _).elim f g;have al: ∀b o,h.get? b=some o-> ∃o',h'.get? b=some o':=λb o e=>cases' b (λq=>q▸(kQ (hns m hm)).imp λo z=>z.1) λq=>⟨o,ext b o q e⟩;refine⟨⟨⟨hI.g.base.trans gl,λb o e=>(hG b o e).elim (λz=>ext b o (λq=>lg (z.symm.trans (q▸hL.1))) (hI.g.Tg b o z)) λz=>z.2,hI.g.len,λk p o e1 e2=>(hI.g.rep k p o e1 e2).mono gl fk.rfl λb hb x e=>ext b x (λz=>hL.2.1 (z▸⟨k,p,o,e1,e2,hb⟩)) e,hI.g.TU,λb q=>Tp b (hI.g.off b q) (fR hI.g q),λe he=> ?_⟩,
  hI.len,⟨m,hns m hm,λi av e=> ?_,λx c lk=>(hcl x c lk).imp λv=>ur hm ext⟩,λb hb=> ?_,hI.pl⟩,⟨gl,fk.rfl,λb o e nf np=>⟨o.slots,ext b o (λq=>np (q▸hI.pl)) e,λ_=>rfl⟩,λb q=> .inl q,λb o q=>(hG b o q).imp id λz=> .inr z.1,al⟩⟩
 ·refine(hI.g.frs e he).imp id λz=>z.imp λL z=>z.elim λo z=>cases' L (λq=> ?_) λq=>⟨o,z.1,ext L o q z.2.1,z.2.2.1,Tp L z.2.2.2.1 ⟨_,z.2.1⟩,z.2.2.2.2⟩;exact(q.symm▸kQ (hns m hm): ∃o,h'.get? L=some o/\ ∀vs,o.data≠ .fields vs).imp λo' y=>⟨z.1,y.1,y.2,Tp L z.2.2.2.1 ⟨_,z.2.1⟩,z.2.2.2.2⟩
 ·exact(hl i av e).imp λx z=>z.imp λv z=>⟨z.1,ar.mono gl fk.rfl av z.2.1,z.2.2.imp id λy=>⟨y.1,y.2.imp λcc y=>⟨y.1,ur hm ext y.2⟩⟩⟩
 ·have z:=hI.p b hb;exact⟨Tp b z.1 z.2.2,z.2.1,z.2.2.elim (al b)⟩
noncomputable def f6(G:Gm)(n:Addr)(o:Obj):Gm:=λb=>if b=n then some o else G b
theorem jN{p:Prop}(h:f6 G n o b=some x)(k1:b=n->o=x->p)(k2:G b=some x->p):p:=(Classical.em (b=n)).elim (λq=>k1 q (aC ((if_pos q).symm.trans h))) λq=>k2 ((if_neg q).symm.trans h)
theorem dR:f6 G n o n=some o:=if_pos rfl
theorem ez(e:G n=none):dF G (f6 G n o):=λb x q=>(if_neg (c:=b=n) λz=>lg (q.symm.trans (z▸e))).trans q
theorem aZ.none_of{G:Gm}{ρ:Rm}{st:St}{h:Heap}(hI:aZ Bs X G ρ st h){b:Addr}(l:h.get? b=none):G b=none:=wh λo q=>aD (hI.g.Tg b o q) l
theorem aZ.TA{G:Gm}{ρ:Rm}{st:St}{h:Heap}(hI:aZ Bs X G ρ st h){b:Addr}(l:h.objs.size<=b):G b=none:=hI.none_of (bj l)
theorem aZ.one{G}{ρ}{st}{h h'}{n}{o}(hI:aZ Bs X G ρ st h)(ext: ∀b o,b≠X.env.locals->h.get? b=some o->h'.get? b=some o)(hns: ∀m,h.Ns X.env.locals m->h'.Ns X.env.locals m)
  (h0:h.get? n=none) (hn:h'.get? n=some o):aZ Bs X (f6 G n o) ρ st h'/\aH G ρ st.S9 h (f6 G n o) ρ st.S9 h' (aG X.fr) X.Tc:=
 hI.grow ext hns (λb x e=>jN e (λq e=> .inr (q▸e▸⟨h0,hn⟩)) .inl) (ez (hI.none_of h0))
theorem lT(h:Heap)(o:Obj)(L:Addr): ∀b x,b≠L->h.get? b=some x->(h.push o).get? b=some x:=λb x _ e=>bv _ e
theorem oH(h:Heap)(o:Obj)(L:Addr): ∀m,h.Ns L m->(h.push o).Ns L m:=λm x=>x.imp λx z=>z.imp λes z=>z.imp λep z=>⟨bv _ z.1,z.2⟩
theorem Gy{α β:Type}{Pre:Gm->Rm->Prop}{t:Sem α}{m:St->Option β}{R:Gm->Rm->β->α->Prop}
  (h: ∀st b,m st=some b-> ∀A G ρ (s:Shared),lN X.lvl X.fr A->aZ Bs X G ρ st s.heap->Pre G ρ-> ∀Q E,(∀a tk,R G ρ b a->Q a {s with toks:=tk})->wpAny (model Bs.prog w) A t Q E s):SE Bs X Pre (wp Bs t) (λs=>bo s (m s)) R:=SE.lift h
theorem HU{α β:Type}{Pre:Gm->Rm->Prop}{t:Sem α}{m:St->Option β}{R:Gm->Rm->β->α->Prop}
  (h: ∀st b,m st=some b-> ∀A G ρ (s:Shared),lN X.lvl X.fr A->aZ Bs X G ρ st s.heap->Pre G ρ-> ∀Q E,(∀a tk,R G ρ b a->Q a {s with toks:=tk})->
   (∀n o h' a tk,(∀b o,b≠X.env.locals->s.heap.get? b=some o->h'.get? b=some o)->(∀m,s.heap.Ns X.env.locals m->h'.Ns X.env.locals m)->s.heap.get? n=none->h'.get? n=some o->
    R (f6 G n o) ρ b a->Q a {s with heap:=h',toks:=tk})->wpAny (model Bs.prog w) A t Q E s):SE Bs X Pre (wp Bs t) (λs=>bo s (m s)) R:=
 SE.of λst q hm=>ed hm λb e hm=>hm▸λA G ρ s hA hI hP Q E k=>h st b e A G ρ s hA hI hP Q E (λa tk ha=>hI.ok k ha tk) λn o h' a tk x1 x2 x0 x3 ha=>k _ _ h' tk (hI.one x1 x2 x0 x3).1 (hI.one x1 x2 x0 x3).2 a ha
theorem DB{c}{k}{p}{T}{gl}{env}(hc: ∀(A:Around) G ρ (s:Shared) (Q E:bS),(∀v tk,ar w G ρ a v->Q v {s with toks:=tk})->wpAny (model Bs.prog w) A (eval (.Constant c k p) env) Q E s):
  SE Bs X (λ_ _=>True) (wp Bs (eval (.Constant c k p) env)) (aw T gl (.k a)) (VR (w:=w)):=SE.one λst A G ρ s hA hI hP Q E k=>hc A G ρ s Q E k
end
theorem pq(h:small b=true):b.natAbs<2 ^ 63:=aT h
theorem pX(h:small b=true):Builtin.Int.intBits b<=64:=by
 have:=pq h;unfold Builtin.Int.intBits;split
 ·exact Nat.zero_le _
 ·by_cases z:b.natAbs=0
  ·rw[z];decide
  ·have:=(Nat.log2_lt z).mpr (show b.natAbs<2 ^ 63 from this);omega
theorem tD(h:small b=true):Builtin.divisionGoesByPylong a b=false:=by
 have:=pq h;unfold Builtin.divisionGoesByPylong;have: ¬((if b==0 then 0 else b.natAbs.log2/30+1)>300):=by
  split
  ·decide
  ·by_cases z:b.natAbs=0
   ·rw[z];decide
   ·have:=(Nat.log2_lt z).mpr (show b.natAbs<2 ^ 63 from this);omega
 simp only[this,decide_false,Bool.false_and]
section
variable {w:World} {Bs:Base w} {X:Cx}
def lZ(w:World)(G:Gm)(ρ:Rm)(h:Heap):VW->Addr->Prop
 | .lst l,c=>tV h c (ag w G ρ l)
 | .tup l,c=> ∃vs n,h.get? c=some {cls:= .type "tuple",data:= .seq (List.toArray vs) n}/\ag w G ρ l vs
 | .Tl ks l,c=>fq h c (iO w c ks) (ag w G ρ l)
 | .Tz ks l,c=>fq h c (iz c ks) (ag w G ρ l)
 | .dct ks l,c=>fq h c (dD c G ks) (ag w G ρ l)
 | .obj C l,c=> ∃d es n,h.get? c=some {cls:= .ref C,dict:=some d}/\h.get? d=some (dictOf es n)/\cU w (AB C l.length) es/\ag w G ρ l (es.map (·.val))
 | .no,_=>True
section
variable {h:Heap} {G:Gm} (hG: ∀b o,G b=some o->h.get? b=some o)
include hG
theorem jY.to(z:jY G t R v): ∃c,v= .ref c/\ ∃vs n,h.get? c=some {cls:= .type t,data:= .seq (List.toArray vs) n}/\R vs:=z.imp λc z=>z.elim λvs z=>z.elim λn z=>⟨z.1,vs,n,hG _ _ z.2.1,z.2.2⟩
theorem gP.to{K:Addr->List DictEntry->Prop}(z:gP G K R v): ∃c,v= .ref c/\fq h c (K c) R:=z.imp λc z=>z.elim λes z=>z.elim λn z=>⟨z.1,es,n,hG _ _ z.2.1,z.2.2⟩
theorem uU:a.tree≠ .no->ar w G ρ a v-> ∃c,v= .ref c/\lZ w G ρ h a.tree c:=
 a.casesOn (motive_1:=λa=>a.tree≠ .no->ar w G ρ a v-> ∃c,v= .ref c/\lZ w G ρ h a.tree c) (absurd rfl) (λ_=>absurd rfl) (λ_=>absurd rfl) (λ_=>absurd rfl) (λ_=>absurd rfl) (λ_=>absurd rfl) (λ_=>absurd rfl)
  (λ_ _ z=>jY.to hG z) (λ_ _ z=>jY.to hG z) (λ_ _ _ z=>gP.to hG z) (λ_ _ _ z=>gP.to hG z) (λ_ _ _ z=>gP.to hG z) λ_ _ _ z=>z.imp λc z=>z.elim λd z=>z.elim λes z=>z.elim λn z=>⟨z.1,d,es,n,hG _ _ z.2.1,hG _ _ z.2.2.1,z.2.2.2⟩
theorem Jw{o}{p:Addr×Addr}:o.vw≠ .no->dh w G ρ h o p-> ∃c,Value.ref p.1= .ref c/\lZ w G ρ h o.vw c:=
 o.casesOn (motive:=λo=>o.vw≠ .no->dh w G ρ h o p-> ∃c,Value.ref p.1= .ref c/\lZ w G ρ h o.vw c) (λ_ _ r=>⟨_,rfl,r⟩) (λ_ _ _ r=>⟨_,rfl,r⟩) (λ_ _ _ r=>⟨_,rfl,r⟩) (λ_ _ _ r=>⟨_,rfl,r⟩)
  (λ_ _ _ r=>⟨_,rfl,_,r.2.2.choose,r.2.2.choose_spec.choose,r.1,r.2.2.choose_spec.choose_spec⟩) (λ_ ne r=>uU hG ne r) (absurd rfl)
end
theorem ip(hI:iB w B G ρ σ fr h)(e:view σ a=x)(ne:x≠ .no)(hv:ar w G ρ a v): ∃c,v= .ref c/\lZ w G ρ h x c:=
 e▸F1 (P:=λx=>x≠ .no-> ∃c,v= .ref c/\lZ w G ρ h x c) (λ_ ne=>uU hI.Tg ne hv) (λk hk=>F1 (P:=λx=>x≠ .no-> ∃c,v= .ref c/\lZ w G ρ h x c) (λ_=>absurd rfl) λo ho ne=>
  (nx hk▸hv:ar w G ρ (.ref k) v).elim λp q=>q.2▸Jw hI.Tg ne (hI.rep k p o q.1 ho)) (e.symm▸ne:view σ a≠ .no)
theorem rM{P:Value->Prop}(hI:iB w B G ρ σ fr h)(e:view σ a=x)(ne:x≠ .no)(hv:ar w G ρ a v)(k: ∀c,lZ w G ρ h x c->P (.ref c)):P v:=by
 obtain⟨c,rfl,q⟩:=ip hI e ne hv;exact k c q
theorem yS{P:Value->Prop}(hI:iB w B G ρ σ fr h)(e:zQ σ a=some l)(hv:ar w G ρ a v)(k: ∀c vs n,h.get? c=some {cls:= .type "tuple",data:= .seq (List.toArray vs) n}->ag w G ρ l vs->P (.ref c)):P v:=
 rM hI (Ff e) (by nofun) hv λc q=>q.elim λvs q=>q.elim λn q=>k c vs n q.1 q.2
theorem gm{P:Value->Prop}(hI:iB w B G ρ σ fr h)(e:iq σ a=some l)(hv:ar w G ρ a v)(k: ∀c vs n,h.get? c=some {cls:= .type "list",data:= .seq (List.toArray vs) n}->ag w G ρ l vs->P (.ref c)):P v:=
 rM hI (oV e) (by nofun) hv λc q=>q.elim λvs q=>q.elim λn q=>k c vs n q.1 q.2
theorem BN{P:Value->Prop}(hI:iB w B G ρ σ fr h)(e:(view σ a).s=some p)(hv:ar w G ρ a v)(k: ∀c es n,h.get? c=some (dictOf es n)->iO w c p.1 es->ag w G ρ p.2 (es.map (·.val))->P (.ref c)):P v:=
 rM hI (VW.s_eq e) (by nofun) hv λc q=>q.elim λes q=>q.elim λn q=>k c es n q.1 q.2.1 q.2.2
theorem GU{P:Value->Prop}(hI:iB w B G ρ σ fr h)(e:(view σ a).i=some p)(hv:ar w G ρ a v)(k: ∀c es n,h.get? c=some (dictOf es n)->iz c p.1 es->ag w G ρ p.2 (es.map (·.val))->P (.ref c)):P v:=
 rM hI (VW.Vr e) (by nofun) hv λc q=>q.elim λes q=>q.elim λn q=>k c es n q.1 q.2.1 q.2.2
theorem CQ{P:Value->Prop}(hI:iB w B G ρ σ fr h)(e:(view σ a).k=some p)(hv:ar w G ρ a v)(k: ∀c es n,h.get? c=some (dictOf es n)->dD c G p.1 es->ag w G ρ p.2 (es.map (·.val))->P (.ref c)):P v:=
 rM hI (VW.k_eq e) (by nofun) hv λc q=>q.elim λes q=>q.elim λn q=>k c es n q.1 q.2.1 q.2.2
theorem ar.int(h:ar w G ρ a v)(e:a.i?=some i): ∃t,v= .int i t:=(jl e▸h:ar w G ρ (.int i) v)
theorem ar.str(h:ar w G ρ a v)(e:a.s?=some i): ∃t,v= .str i t:=(yv e▸h:ar w G ρ (.str i) v)
theorem ar.Uu(h:ar w G ρ a v)(e:a.b?=some i): ∃t,v= .bytes i.toArray t:=(Bz e▸h:ar w G ρ (.bytes i) v)
theorem ar.tpl(h:ar w G ρ a v)(e:a.t?=some l):jY G "tuple" (ag w G ρ l) v:=(yY e▸h:ar w G ρ (.tup l) v)
theorem ar.non(h:ar w G ρ a v)(e:a.T5=true):v= .none:=(tU e▸h:ar w G ρ .none v)
theorem ag.c{P:List Value->Prop}(h:ag w G ρ (a::l) vs)(k: ∀v r,ar w G ρ a v->ag w G ρ l r->P (v::r)):P vs:=h.elim λv z=>z.elim λr z=>z.1▸k v r z.2.1 z.2.2
theorem ag.r1{P:List Value->Prop}(h:ag w G ρ [a] vs)(k: ∀v,ar w G ρ a v->P [v]):P vs:=h.c λv r h z=>(z:r=[]).symm▸k v h
theorem ag.r2{P:List Value->Prop}(h:ag w G ρ [a,b] vs)(k: ∀v u,ar w G ρ a v->ar w G ρ b u->P [v,u]):P vs:=h.c λv r h z=>z.r1 (P:=λr=>P (v::r)) λu h'=>k v u h h'
theorem ar.Va(h:ar w G ρ a v)(e:wa a=some j): ∃c t1 t2 t3 n,v= .ref c/\G c=some {cls:= .type "tuple",data:= .seq #[.int j.1 t1,.int j.2.1 t2,.int j.2.2 t3] n}:=
 (Ex e▸h:ar w G ρ (.tup [.int j.1,.int j.2.1,.int j.2.2]) v).elim λc z=>z.elim λvs z=>z.elim λn z=>z.2.2.c (P:=λvs=>G c=some {cls:= .type "tuple",data:= .seq (List.toArray vs) n}->_) (λx r h y=>y.r2 (P:=λr=>G c=some {cls:= .type "tuple",data:= .seq (List.toArray (x::r)) n}->_) λy u h' h'' q=>
  h.elim λt1 e1=>h'.elim λt2 e2=>h''.elim λt3 e3=>⟨c,t1,t2,t3,n,z.1,e1▸e2▸e3▸q⟩) z.2.1
theorem AD{h:Heap}{a:Addr}{m m':Str->Option Value}(x:h.Ns a m)(y:h.Ns a m'):m=m':=by
 obtain⟨o,es,ep,ho,hd,_,hf⟩:=x;obtain⟨o',es',ep',ho',hd',_,hf'⟩:=y;obtain rfl:=aC (ho.symm.trans ho');obtain⟨rfl,_⟩:=Data.dict.inj (hd.symm.trans hd');exact funext λn=>(hf n).symm.trans (hf' n)
theorem my{h h':Heap}{a:Addr}{m:Str->Option Value}(x:h.Ns a m)(y:h'.Ns a m): ∀m',h.Ns a m'->h'.Ns a m':=λm' z=>AD x z▸y
theorem jH(e:G n=none)(hv:ag w G ρ l vs):ar w (f6 G n {cls:= .type "list",data:= .seq (List.toArray vs) k}) ρ (.lst l) (.ref n):=
 ⟨n,vs,k,rfl,dR,hv.mono (ez e) fk.rfl⟩
theorem sE(e:G n=none)(hv:ag w G ρ l vs):ar w (f6 G n {cls:= .type "tuple",data:= .seq (List.toArray vs) k}) ρ (.tup l) (.ref n):=
 ⟨n,vs,k,rfl,dR,hv.mono (ez e) fk.rfl⟩
theorem Ls{b:Nat}{n:Int}(h:b<=64)(h0:0<=n)(h1:n<=1000):(b:Int)*n<=2 ^ 27:=Int.le_trans (Int.mul_le_mul (Int.ofNat_le.mpr h) h1 h0 ∅) ∅
theorem eJ{f:Int->Int->Option AV}{op}{x y b}{v u}{A}{s}{Q E:bS}(hb:yG x y f=some b)(hx:ar w G ρ x v)(hy:ar w G ρ y u)
  (h: ∀i j t t',f i j=some b->wpAny (model Bs.prog w) A (binaryOp op (.int i t) (.int j t')) Q E s):wpAny (model Bs.prog w) A (binaryOp op v u) Q E s:=
 bA hb λi e1 hb=>bA hb λj e2 hb=>(hx.int e1).elim λt q=>(hy.int e2).elim λt' q'=>by
  rw[q,q'];exact h i j t t' hb
theorem AE{x y b:AV}{v u:Value}{A:Around}{st:St}{s:Shared}{Q E:bS}(hI:aZ Bs X G ρ st s.heap)(hb:binI st.S9 .Add x y=some b)(hx:ar w G ρ x v)(hy:ar w G ρ y u)(k: ∀a tk,ar w G ρ b a->Q a {s with toks:=tk})
  (k2: ∀n o h' a tk,(∀b o,b≠X.env.locals->s.heap.get? b=some o->h'.get? b=some o)->(∀m,s.heap.Ns X.env.locals m->h'.Ns X.env.locals m)->s.heap.get? n=none->h'.get? n=some o->ar w (f6 G n o) ρ b a->Q a {s with heap:=h',toks:=tk}):
  wpAny (model Bs.prog w) A (binaryOp .Add v u) Q E s:=by
 refine Th hb (λa e hb=>bA hb λc e' hb=> ?_) λhb=>Th hb (λa e hb=>bA hb λc e' hb=>ml hb λq hb=> ?_) λhb=>bA hb λl e1 hb=>bA hb λl' e2 hb=>ml hb λq hb=> ?_
 ·obtain⟨t,rfl⟩:=hx.int e;obtain⟨t',rfl⟩:=hy.int e';exact add_int (k _ _ (aC hb▸⟨_,rfl⟩))
 ·obtain⟨t,rfl⟩:=hx.str e;obtain⟨t',rfl⟩:=hy.str e';exact add_str (λt' tk=>k _ _ (aC hb▸⟨_,rfl⟩)) (bz q ∅)
 ·refine gm (P:=λv=>wpAny (model Bs.prog w) A (binaryOp .Add v u) Q E s) hI.g e1 hx λc vs n h1 r1=>gm (P:=λu=>wpAny (model Bs.prog w) A (binaryOp .Add (.ref c) u) Q E s) hI.g e2 hy λc' vs' n' h2 r2=> ?_;obtain⟨m,hm,_⟩:=hI.l;refine add_arrays (news:=eB s.heap X.env.locals) (gB hm) (eG _ _) ⟨_,h1,rfl,_,rfl⟩ ⟨_,h2,rfl,_,rfl⟩ (λh' F N=> ?_) (by rw[List.size_toArray,List.size_toArray,r1.length,r2.length];exact bz q ∅);exact k2 _ _ h' _ s.toks (fu (more:=[_]) N) (my hm F.ns) (bj (Nat.le_refl _)) (N.get (.head _)) (aC hb▸jH (hI.TA (Nat.le_refl _)) (r1.append r2))
theorem Ci{op:Operator}{x y:AV}{v u:Value}{P:Gm->Rm->Prop}:SE Bs X (λG ρ=>(P G ρ/\VR (w:=w) G ρ x v)/\VR (w:=w) G ρ y u) (wp Bs (binaryOp op v u)) (λs=>bo s (binI s.S9 op x y)) (VR (w:=w)):=by
 refine HU λst b hb A G ρ s hA hI hP Q E k k2=> ?_;have hx:=hP.1.2;have hy:=hP.2;have ki: ∀r,some (AV.int r)=some b-> ∀t tk,Q (.int r t) {s with toks:=tk}:=λr e t tk=>k _ _ (aC e▸⟨t,rfl⟩);clear hP;cases op
 case Add=>exact AE hI hb hx hy k k2
 case Sub=>exact eJ hb hx hy λi j t t' e=>sub_int (ki _ e _ _)
 case BitAnd=>exact eJ hb hx hy λi j t t' e=>and_int (ki _ e _ _)
 case BitOr=>exact eJ hb hx hy λi j t t' e=>or_int (ki _ e _ _)
 case Mult=>exact eJ hb hx hy λi j t t' e=>ml e λq e=>mul_int (ki _ e _ _) (IntMulOk.of_right (pX q))
 case FloorDiv=>exact eJ hb hx hy λi j t t' e=>ml e λq e=>floordiv_int (bne_iff_ne.mp (bG q).2) (ki _ e _ _) (.inl (tD (bG q).1))
 case Mod=>exact eJ hb hx hy λi j t t' e=>ml e λq e=>mod_int' (bne_iff_ne.mp q) (ki _ e _ _)
 case RShift=>exact eJ hb hx hy λi j t t' e=>ml e λq e=>rshift_int (aT q) (ki _ e _ _)
 case LShift=>exact eJ hb hx hy λi j t t' e=>ml e λq e=>lshift_int_small (aT (bG (bG q).1).2) (Int.le_trans (aT (bG q).2) ∅) (Nat.lt_trans (pq (bG (bG q).1).1) ∅) (ki _ e _ _)
 case Pow=>exact eJ hb hx hy λi j t t' e=>ml e λq e=>pow_int (aT (bG (bG q).1).2) (Ls (pX (bG (bG q).1).1) (aT (bG (bG q).1).2) (aT (bG q).2)) (ki _ e _ _)
 all_goals exact aB hb
end
theorem xu{K:Type}{g:AV->Option K}{R:List Value->List K->Prop}{f:aV->Option (List K)}{w}{G}{ρ}(h0:f []=some [])(hf: ∀a l,f (a::l)=(g a).bind λk=>(f l).map (k:: ·))(hn:R [] [])
  (hc: ∀a k v vs ks,g a=some k->ar w G ρ a v->R vs ks->R (v::vs) (k::ks)) (l:aV): ∀{ks vs},f l=some ks->ag w G ρ l vs->R vs ks:=by
 induction l with
 |nil=>
  intro ks vs e h;obtain rfl:=aC (h0.symm.trans e);obtain rfl:vs=[]:=h;exact hn
 |cons a l ih=>
  intro ks vs e ⟨v,r,e1,h,x⟩;refine bA ((hf a l).symm.trans e) λk e2 e=>ed e λns e3 e=> ?_;rw[e1,<-e];exact hc _ _ _ _ _ e2 h (ih e3 x)
theorem lw(h:intsOf l=some ns):ag w G ρ l vs->IntsAre vs ns:=
 xu (g:=AV.i?) (f:=intsOf) rfl (λ_ _=>rfl) .nil (λ_ k _ _ _ e h x=>let ⟨t,e1⟩:=(jl e▸h:ar _ _ _ (.int k) _);e1▸ .cons _ t x) l h
theorem Bu(h:strsOf l=some ns):ag w G ρ l vs->StrsAre vs ns:=
 xu (g:=AV.s?) (f:=strsOf) rfl (λ_ _=>rfl) .nil (λ_ k _ _ _ e h x=>let ⟨t,e1⟩:=(yv e▸h:ar _ _ _ (.str k) _);e1▸ .cons _ t x) l h
noncomputable def iZ{K:Type}(ks:List K)(es:List DictEntry):List (K×Value):=List.zipWith (λk e=>(k,e.val)) ks es
section
variable {prog:Program} {w:World}
theorem hM.dictOf{K:Type}[DecidableEq K]{R:K->Value->Prop}{knd:KeyKind prog w K}(hR: ∀k v,R k v->knd.is k v=true){h:Heap}{a:Addr}{ks:List K}{es:List DictEntry}{n:Nat}(ho:h.get? a=some (dictOf es n))(k:hM R knd.hash ks es)(nd:ks.Nodup):
  h.DictOf knd a (iZ ks es)/\(iZ ks es).map (·.2)=es.map (·.val)/\(iZ ks es).map (·.1)=ks:=by
 have:(∀e∈es,∃k,knd.is k e.key=true/\e.hash=knd.hash k)/\Pairs knd es (iZ ks es)/\(iZ ks es).map (·.2)=es.map (·.val)/\(iZ ks es).map (·.1)=ks:=by
  clear ho nd
  induction ks generalizing es with
  |nil=>exact(k:_=_)▸⟨λ_ h=>fP h,.nil,rfl,rfl⟩
  |cons x ks ih=>
   obtain⟨e,r,rfl,ek,eh,k⟩:=k;have q:=ih k;exact⟨λe' he=>(cW he).elim (λz=>z▸⟨x,hR _ _ ek,eh⟩) (q.1 e'),.cons (hR _ _ ek) rfl q.2.1,ac (e.val:: ·) q.2.2.1,ac (x:: ·) q.2.2.2⟩
 exact⟨⟨_,es.toArray,n,ho,⟨rfl,rfl,rfl⟩,rfl,λe he=>this.1 e (by simpa using he),this.2.1,this.2.2.2.symm▸nd⟩,this.2.2⟩
theorem kC(i:Int)(t):(intKind prog w).is i (.int i t)=true:=beq_self_eq_true i
theorem pI(i:Str)(t:Tok):(PySem.strKind prog w).is i (.str i t)=true:=beq_self_eq_true i
theorem iz.dictOf{h:Heap}{a:Addr}{ks:List Int}{es:List DictEntry}{n:Nat}(ho:h.get? a=some (dictOf es n))(k:iz a ks es):h.DictOf (intKind prog w) a (iZ ks es)/\(iZ ks es).map (·.2)=es.map (·.val)/\(iZ ks es).map (·.1)=ks:=
 hM.dictOf (knd:=intKind prog w) (λk v q=>q.elim λt e=>e▸kC k t) ho k.1 k.2.1
theorem cU.dictOf{h:Heap}{a:Addr}{ks:List Str}{es:List DictEntry}{n:Nat}(ho:h.get? a=some (dictOf es n))(k:iO w a ks es):h.DictOf (strKind prog w) a (iZ ks es)/\(iZ ks es).map (·.2)=es.map (·.val)/\(iZ ks es).map (·.1)=ks:=
 hM.dictOf (knd:=PySem.strKind prog w) (λk v q=>q.elim λt e=>e▸pI k t) ho k.1 k.2.1
noncomputable def O6(v:Value):Addr:=match v with| .ref p=>p|_=>0
noncomputable def f8(ks:List (Int×Int×Int))(es:List DictEntry):List (List Int×Addr×Value):=List.zipWith (λk e=>([k.1,k.2.1,k.2.2],O6 e.key,e.val)) ks es
theorem f5{a b:Int×Int×Int}(h:[a.1,a.2.1,a.2.2]=[b.1,b.2.1,b.2.2]):a=b:=
 Prod.ext (List.cons.inj h).1 (Prod.ext (List.cons.inj (List.cons.inj h).2).1 (List.cons.inj (List.cons.inj (List.cons.inj h).2).2).1)
theorem vI{h}{p}{k:Int×Int×Int}{t1 t2 t3}{n:Nat}(e:h.get? p=some {cls:= .type "tuple",data:= .seq #[.int k.1 t1,.int k.2.1 t2,.int k.2.2 t3] n}):
  (tupleKind (intKind prog w)).is h [k.1,k.2.1,k.2.2] p:=
 ⟨_,_,n,e,rfl,rfl,.cons (kC _ _) (.cons (kC _ _) (.cons (kC _ _) .nil))⟩
theorem dD.dictOf{G:Gm}{h:Heap}(hG: ∀b o,G b=some o->h.get? b=some o){a:Addr}{ks:List (Int×Int×Int)}{es:List DictEntry}{n:Nat}(ho:h.get? a=some (dictOf es n))(k:dD a G ks es):
  h.DictOfH (tupleKind (intKind prog w)) a (f8 ks es)/\(f8 ks es).map (·.2.2)=es.map (·.val)/\(f8 ks es).map (·.1)=ks.map λk=>[k.1,k.2.1,k.2.2]:=by
 obtain⟨k,nd,_⟩:=k;have:es=(f8 ks es).map (entryOfKey (tupleKind (intKind prog w)))/\(∀x∈f8 ks es,(tupleKind (intKind prog w)).is h x.1 x.2.1)/\(f8 ks es).map (·.2.2)=es.map (·.val)/\(f8 ks es).map (·.1)=ks.map λk=>[k.1,k.2.1,k.2.2]:=by
  clear ho nd
  induction ks generalizing es with
  |nil=>exact(k:_=_)▸⟨rfl,λ_ h=>fP h,rfl,rfl⟩
  |cons x ks ih=>
   obtain⟨e,r,rfl,⟨p,t1,t2,t3,n,ek,eg⟩,eh,k⟩:=k;have q:=ih k;obtain⟨eh',ek',ev⟩:=e;obtain rfl:eh'=mf x:=eh;obtain rfl:ek'= .ref p:=ek;exact⟨ac _ q.1,λy hy=>(cW hy).elim (λz=>z▸vI (hG _ _ eg)) (q.2.1 y),ac _ q.2.2.1,ac _ q.2.2.2⟩
 exact⟨⟨_,es.toArray,n,ho,⟨rfl,rfl,rfl⟩,rfl,this.1,this.2.1,this.2.2.2.symm▸List.pairwise_map.mpr (nd.imp λne e=>ne (f5 e))⟩,this.2.2⟩
end
theorem js{K:Type}[DecidableEq K][BEq K][LawfulBEq K]{kvs:List (K×Value)}{ks:List K}(e:kvs.map (·.1)=ks)(k:K):(valueAt kvs k).isSome=ks.contains k:=by
 subst e
 induction kvs with
 |nil=>rfl
 |cons x l ih=>
  rw[List.map_cons,List.contains_cons];by_cases h:x.1=k
  ·subst h;simp[valueAt]
  ·have:(k==x.1)=false:=beq_eq_false_iff_ne.mpr (Ne.symm h);rw[this,Bool.false_or,<-ih];simp[valueAt,h]
section
variable {w:World} {Bs:Base w} {X:Cx}
theorem Dr:EqAt A s (.int i t) (.int i u) true:=λprog w E Q h=>wpAny_eqBool_int (by rw[beq_self_eq_true];exact h)
theorem C2:EqAt A s (.str i t) (.str i u) true:=λprog w E Q h=>wpAny_eqBool_str (by rw[bU rfl];exact h)
section
variable {f:AV->AV->Bool} {A:Around} {s:Shared} {G:Gm} {ρ:Rm} (hG: ∀b o,G b=some o->s.heap.get? b=some o) (hu:A.units<cLine) (hf: ∀a b v u,f a b=true->ar w G ρ a v->ar w G ρ b u->EqAt A.in1 s v u true)
include hG hu hf
theorem BQ{l l'}{c c'}{vs vs'}{k k'}(e:(l.length==l'.length&&(l.zip l').all λp=>f p.1 p.2)=true)(h1:G c=some {cls:= .type "tuple",data:= .seq (List.toArray vs) k})(r1:ag w G ρ l vs)
  (h2:G c'=some {cls:= .type "tuple",data:= .seq (List.toArray vs') k'}) (r2:ag w G ρ l' vs'):RcAt A s (.ref c) (.ref c') true/\RcNeAt A s (.ref c) (.ref c') (!true):=by
 have e2:=gj (bG e).2;have h3: ∀j (h1:j<vs.toArray.size) (h2:j<vs'.toArray.size),EqAt A.in1 s vs.toArray[j] vs'.toArray[j] true:=λj q1 q2=>by
  have l1:j<l.length:=r1.length▸q1;have l2:j<l'.length:=r2.length▸q2;obtain⟨x,hx,rx⟩:=r1.get (List.getElem?_eq_getElem l1);obtain⟨y,hy,ry⟩:=r2.get (List.getElem?_eq_getElem l2);refine hf l[j] l'[j] _ _ (e2 (l[j],l'[j]) (gz (i:=j) ?_)) ((aC ((List.getElem?_eq_getElem (l:=vs) q1).symm.trans hx))▸rx) ((aC ((List.getElem?_eq_getElem (l:=vs') q2).symm.trans hy))▸ry);rw[List.getElem?_zip_eq_some];exact⟨List.getElem?_eq_getElem l1,List.getElem?_eq_getElem l2⟩
 have h4:((List.range (min vs.toArray.size vs'.toArray.size)).all (λ_=>true)&&vs.toArray.size==vs'.toArray.size)=true:=
  ca ⟨List.all_eq_true.mpr λ_ _=>rfl,(congr (ac _ r1.length) r2.length).trans (bG e).1⟩
 have a1:s.heap.IsTuple c vs.toArray:=⟨_,hG _ _ h1,rfl,_,rfl⟩;have a2:s.heap.IsTuple c' vs'.toArray:=⟨_,hG _ _ h2,rfl,_,rfl⟩;exact h4▸⟨RcAt.tuples a1 a2 hu h3,RcNeAt.tuples a1 a2 hu h3⟩
theorem Jm{a b}{v u}(e:Rv f a b=true)(ha:ar w G ρ a v)(hb:ar w G ρ b u):EqAt A s v u true:=by
 refine Th e (λi e1 e=>Th e (λj e2 e=> ?_) ft) λe=>Th e (λi e1 e=>Th e (λj e2 e=> ?_) ft) λe=>Th e (λl e1 e=>Th e (λl' e2 e=> ?_) ft) λe=> ?_
 ·obtain⟨t,rfl⟩:=ha.int e1;obtain⟨t',rfl⟩:=hb.int e2;exact eq_of_beq e▸Dr
 ·obtain⟨t,rfl⟩:=ha.str e1;obtain⟨t',rfl⟩:=hb.str e2;exact eq_of_beq e▸C2
 ·obtain⟨c,vs,k,rfl,h1,r1⟩:=ha.tpl e1;obtain⟨c',vs',k',rfl,h2,r2⟩:=hb.tpl e2;by_cases hc:c=c'
  ·exact hc▸EqAt.same _
  ·exact EqAt.of_refs hc (BQ hG hu hf e h1 r1 h2 r2).1
 ·rw[ha.non (bG e).1,hb.non (bG e).2];exact EqAt.same _
end
theorem HH(hG: ∀b o,G b=some o->s.heap.get? b=some o)(n): ∀(A:Around),A.units+n<cLine+1-> ∀(a b:AV) (v u:Value),eqT n a b=true->ar w G ρ a v->ar w G ρ b u->EqAt A s v u true:=by
 induction n with
 |zero=>exact λ_ _ _ _ _ _ e=>ft e
 |succ n ih=>exact λA hu a b v u e=>Jm hG (dA (Nat.lt_succ_of_le (Nat.le_add_right _ n)) (Nat.le_of_lt_succ hu)) (ih A.in1 (by show A.units+1+n<_;rwa [Nat.add_right_comm])) e
theorem room(h:lN lvl fr A):A.units+100<=9900:=bz (Nat.add_le_add_right (Nat.le_add_right _ _) _) h.2.1
theorem si(h:lN lvl fr A):A.units+8<cLine:=dA (Nat.add_lt_add_left (by decide:8<100) _) (bz (room h) (by unfold cLine;decide))
def kH(Bs:Base w)(A:Around)(s:Shared)(op op':CmpOp)(v u:Value)(b:Bool):Prop:= ∀(Q:bS) (E:bS),
 ((∀tk,Q (.bool b) {s with toks:=tk})->wpAny (model Bs.prog w) A (compareOp op v u) Q E s)/\((∀tk,Q (.bool !b) {s with toks:=tk})->wpAny (model Bs.prog w) A (compareOp op' v u) Q E s)
theorem vY{A}{G}{ρ}{st}{s}(hA:lN X.lvl X.fr A)(hI:aZ Bs X G ρ st s.heap){x y}{v u}{b}(e:Od st.S9 x y=some b)(hx:ar w G ρ x v)(hy:ar w G ρ y u):kH Bs A s .Eq .NotEq v u b:=by
 have hu:A.units<cLine:=Nat.lt_of_le_of_lt (Nat.le_add_right _ 8) (si hA);refine Th e (λi e1 e=>ed e λj e2 e=> ?_) λe=>Th e (λi e1 e=>ed e λj e2 e=> ?_) λe=>Th e (λi e1 e=>ed e λj e2 e=> ?_) λe=>Th e (λl e1 e=>bA e λl' e2 e=>eV e λq e=> ?_) λe=>
  Ui e (λq e=> ?_) λe=>bA e λl e1 e=>bA e λl' e2 e=>eV e λq e=> ?_
 ·obtain⟨t,rfl⟩:=hx.int e1;obtain⟨t',rfl⟩:=hy.int e2;exact λQ E=>e▸⟨λk=>eq_int (k _),λk=>ne_int (k _)⟩
 ·obtain⟨t,rfl⟩:=hx.str e1;obtain⟨t',rfl⟩:=hy.str e2;exact λQ E=>e▸⟨λk=>PyProof.Rows.eq_str (k _),λk=>PyProof.Rows.ne_str (k _)⟩
 ·obtain⟨t,rfl⟩:=hx.Uu e1;obtain⟨t',rfl⟩:=hy.Uu e2;exact λQ E=>e▸⟨λk=>eq_bytes (k _),λk=>ne_bytes (k _)⟩
 ·obtain⟨c,vs,n,rfl,h1,r1⟩:=hx.tpl e1;obtain⟨c',vs',n',rfl,h2,r2⟩:=hy.tpl e2;have z:=BQ hI.g.Tg hu (HH hI.g.Tg 7 A.in1 (Nat.lt_succ_of_lt (si hA))) q h1 r1 h2 r2;exact λQ E=>aC e▸⟨λk=>z.1 Bs.prog w E Q (k s.toks),λk=>z.2 Bs.prog w E Q (k s.toks)⟩
 ·rw[hx.non (bG q).1,hy.non (bG q).2];exact λQ E=>aC e▸⟨λk=>EqNone.eq_none_none (k s.toks),λk=>EqNone.ne_none_none (k s.toks)⟩
 ·refine gm (P:=λv=>kH Bs A s .Eq .NotEq v u b) hI.g e1 hx λc vs n h1 r1=>gm (P:=λu=>kH Bs A s .Eq .NotEq (.ref c) u b) hI.g e2 hy λc' vs' n' h2 r2=> ?_;obtain rfl:l'=[]:=List.isEmpty_iff.mp q;obtain rfl:vs'=[]:=r2;refine λQ E=>aC e▸ ?_;cases l with
  |nil=>
   obtain rfl:vs=[]:=r1;exact⟨λk=>RcAt.lists (e:=λ_=>true) ⟨_,h1,rfl,_,rfl⟩ ⟨_,h2,rfl,_,rfl⟩ rfl hu (λj h=>absurd h (Nat.not_lt_zero _)) Bs.prog w E Q (k s.toks),
    λk=>RcNeAt.lists (e:=λ_=>true) ⟨_,h1,rfl,_,rfl⟩ ⟨_,h2,rfl,_,rfl⟩ rfl hu (λj h=>absurd h (Nat.not_lt_zero _)) Bs.prog w E Q (k s.toks)⟩
  |cons a l=>
   obtain⟨v,r,rfl,_⟩:=r1;exact⟨λk=>RcAt.lists_lengths ⟨_,h1,rfl,_,rfl⟩ ⟨_,h2,rfl,_,rfl⟩ rfl hu Bs.prog w E Q (k s.toks),λk=>RcNeAt.lists_lengths ⟨_,h1,rfl,_,rfl⟩ ⟨_,h2,rfl,_,rfl⟩ rfl hu Bs.prog w E Q (k s.toks)⟩
theorem l8{xs:List (List Int×Addr×Value)}{ks:List (Int×Int×Int)}(e:xs.map (·.1)=ks.map λk=>[k.1,k.2.1,k.2.2])(k:Int×Int×Int):(atKey xs [k.1,k.2.1,k.2.2]).isSome=ks.contains k:=by
 induction xs generalizing ks with
 |nil=>cases ks with
  |nil=>rfl
  |cons _ _=>exact N5 e
 |cons x l ih=>cases ks with
  |nil=>exact ON e
  |cons y ks=>
   obtain⟨e1,e2⟩:=List.cons.inj e;rw[List.contains_cons,<-ih e2];by_cases h:k=y
   ·subst h;simp[atKey,e1]
   ·have h': ¬x.1=[k.1,k.2.1,k.2.2]:=λq=>h (f5 (q.symm.trans e1));rw[beq_eq_false_iff_ne.mpr h,Bool.false_or];simp[atKey,h']
theorem nF{x}{v}:x.UK=true->ar w G ρ x v->v≠ .none:=
 x.casesOn (motive_1:=λx=>x.UK=true->ar w G ρ x v->v≠ .none) ft (λ_ _ h=>h▸nofun) (λ_ _ h=>h.elim λ_ h=>h▸nofun) (λ_ _ h=>h.elim λ_ h=>h▸nofun) (λ_ _ h=>h.elim λ_ h=>h▸nofun) (λ_=>ft) (λ_ _ h=>h.elim λ_ h=>h.2▸nofun)
  (λ_ _ h=>h.elim λ_ h=>h.elim λ_ h=>h.elim λ_ h=>h.1▸nofun) (λ_ _ h=>h.elim λ_ h=>h.elim λ_ h=>h.elim λ_ h=>h.1▸nofun) (λ_ _ _ h=>h.elim λ_ h=>h.elim λ_ h=>h.elim λ_ h=>h.1▸nofun)
  (λ_ _ _ h=>h.elim λ_ h=>h.elim λ_ h=>h.elim λ_ h=>h.1▸nofun) (λ_ _ _ h=>h.elim λ_ h=>h.elim λ_ h=>h.elim λ_ h=>h.1▸nofun) λ_ _ _ h=>h.elim λ_ h=>h.elim λ_ h=>h.elim λ_ h=>h.elim λ_ h=>h.1▸nofun
section
variable {A:Around} {G:Gm} {ρ:Rm} {st:St} {s:Shared} (hA:lN X.lvl X.fr A) (hI:aZ Bs X G ρ st s.heap)
include hI
theorem CK{K:Type}[BEq K]{R:List Value->List K->Prop}{f:aV->Option (List K)}{a:K}{y:AV}{v u:Value}{b:Bool}{r:Option Bool}(hf: ∀l ks vs,f l=some ks->ag w G ρ l vs->R vs ks)
  (ht: ∀c vs ks,s.heap.IsTuple c (List.toArray vs)->R vs ks->kH Bs A s .In .NotIn v (.ref c) (ks.any (· ==a))) (hl: ∀c vs ks,s.heap.IsList c (List.toArray vs)->R vs ks->kH Bs A s .In .NotIn v (.ref c) (ks.any (· ==a)))
  (hr:r=some b->kH Bs A s .In .NotIn v u b) (e:Je st.S9 y f a r=some b) (hy:ar w G ρ y u):kH Bs A s .In .NotIn v u b:=
 Th e (λl e1 e=>ed e λks e2 e=>yS (P:=λu=>kH Bs A s .In .NotIn v u b) hI.g e1 hy λc vs n h1 r1=>e▸ht c vs ks ⟨_,h1,rfl,_,rfl⟩ (hf l ks vs e2 r1))
  λe=>Th e (λl e1 e=>ed e λks e2 e=>gm (P:=λu=>kH Bs A s .In .NotIn v u b) hI.g e1 hy λc vs n h1 r1=>e▸hl c vs ks ⟨_,h1,rfl,_,rfl⟩ (hf l ks vs e2 r1)) hr
include hA
theorem vQ{x y:AV}{v u:Value}{b:Bool}(e:O7 st.S9 x y=some b)(hx:ar w G ρ x v)(hy:ar w G ρ y u):kH Bs A s .In .NotIn v u b:=by
 refine Th e (λi e1 e=> ?_) λe=>Th e (λi e1 e=> ?_) λe=>bA e λk e1 e=> ?_
 ·obtain⟨t,rfl⟩:=hx.int e1;refine CK hI (λl ks vs=>lw) (λc vs ks h r Q E=>⟨λk=>in_tuple_ints h r (k _),λk=>notin_tuple_ints h r (k _)⟩) (λc vs ks h r Q E=>⟨λk=>in_list_ints h r (k _),λk=>notin_list_ints h r (k _)⟩) (λe=>ed e λp e1 e=> ?_) e hy;refine GU (P:=λu=>kH Bs A s .In .NotIn _ u b) hI.g e1 hy λc es n h1 k1 r1=> ?_;have D:=iz.dictOf (prog:=Bs.prog) (w:=w) h1 k1;rw[<-e,<-js D.2.2];exact λQ E=>⟨λk=>wpAny_in_of (knd:=intKind Bs.prog w) (kC _ t) k1.2.2 D.1.mapOf (k _),λk=>wpAny_notIn_of (knd:=intKind Bs.prog w) (kC _ t) k1.2.2 D.1.mapOf (k _)⟩
 ·obtain⟨t,rfl⟩:=hx.str e1;refine Th e (λb' e2 e=>(hy.str e2).elim λt' q=>q▸λQ E=>aC e▸⟨λk=>SB.contains (k _),λk=>SB.notContains (k _)⟩) λe=> ?_;refine CK hI (λl ks vs=>Bu) (λc vs ks h r Q E=>⟨λk=>in_tuple_strs h r (k _),λk=>notin_tuple_strs h r (k _)⟩) (λc vs ks h r Q E=>⟨λk=>in_list_strs h r (k _),λk=>notin_list_strs h r (k _)⟩) (λe=>ed e λp e1 e=> ?_) e hy;refine BN (P:=λu=>kH Bs A s .In .NotIn _ u b) hI.g e1 hy λc es n h1 k1 r1=> ?_;have D:=cU.dictOf (prog:=Bs.prog) (w:=w) h1 k1;rw[<-e,<-js D.2.2];exact λQ E=>⟨λk=>wpAny_in_of (knd:=PySem.strKind Bs.prog w) (pI _ t) k1.2.2 D.1.mapOf (k _),λk=>wpAny_notIn_of (knd:=PySem.strKind Bs.prog w) (pI _ t) k1.2.2 D.1.mapOf (k _)⟩
 ·obtain⟨c,t1,t2,t3,n,rfl,h0⟩:=hx.Va e1;have is:=vI (prog:=Bs.prog) (w:=w) (k:=k) (hI.g.Tg _ _ h0);have hu':(tupleKind (intKind Bs.prog w)).room A.in1:=Nat.lt_of_le_of_lt (Nat.add_le_add_left (by decide:1<=8) _) (si hA);refine Th e (λp e1 e=>CQ (P:=λu=>kH Bs A s .In .NotIn _ u b) hI.g e1 hy λd es m h1 k1 r1=> ?_) λe=>bA e λp e1 e=>eV e λq e=>BN (P:=λu=>kH Bs A s .In .NotIn _ u b) hI.g e1 hy λd es m h1 k1 r1=> ?_
  ·have D:=dD.dictOf (prog:=Bs.prog) (w:=w) hI.g.Tg h1 k1;rw[<-aC e,<-l8 D.2.2];exact λQ E=>⟨λk=>wpAny_in_heap hu' is k1.2.2 D.1 (k _),λk=>wpAny_notIn_heap hu' is k1.2.2 D.1 (k _)⟩
  ·obtain rfl:es=[]:=(List.isEmpty_iff.mp q▸k1.1:cU w [] es);have D:s.heap.DictOfH (tupleKind (intKind Bs.prog w)) d []:=⟨_,#[],m,h1,⟨rfl,rfl,rfl⟩,rfl,rfl,λ_ h=>fP h,List.nodup_nil⟩;exact λQ E=>aC e▸⟨λk=>wpAny_in_heap hu' is k1.2.2 D (k _),λk=>wpAny_notIn_heap hu' is k1.2.2 D (k _)⟩
theorem md{f:Int->Int->Bool}{op}{x y}{v u}{b}{Q E:bS}(e:ltI f x y=some b)(hx:ar w G ρ x v)(hy:ar w G ρ y u)(h: ∀i j t t',Q (.bool (f i j)) s->wpAny (model Bs.prog w) A (compareOp op (.int i t) (.int j t')) Q E s)(k:Q (.bool b) s):
  wpAny (model Bs.prog w) A (compareOp op v u) Q E s:=
 bA e λi e1 e=>bA e λj e2 e=>(hx.int e1).elim λt q=>(hy.int e2).elim λt' q'=>by
  rw[q,q'];exact h i j t t' (aC e▸k)
theorem uT{x y}{v u}{b}(e:QK x y=some b)(hx:ar w G ρ x v)(hy:ar w G ρ y u):kH Bs A s .Is .IsNot v u b:=eV e λq e=>by
 obtain rfl:=hy.non q;refine Ui e (λq e=> ?_) λe=>eV e λq e=>λQ E=>aC e▸⟨λk=>is_none_ne (nF q hx) (k s.toks),λk=>isnot_none_ne (nF q hx) (k s.toks)⟩;obtain rfl:=hx.non q;exact λQ E=>aC e▸⟨λk=>is_none_none (k s.toks),λk=>isnot_none_none (k s.toks)⟩
theorem rK{op}{x y}{v u}{b}(e:eP st.S9 op x y=some b)(hx:ar w G ρ x v)(hy:ar w G ρ y u)
  {Q:bS} {E:bS} (k: ∀tk,Q (.bool b) {s with toks:=tk}):wpAny (model Bs.prog w) A (compareOp op v u) Q E s:=by
 cases op
 case Eq=>exact(vY hA hI e hx hy Q E).1 k
 case NotEq=>exact ed e λc e' e=>(vY hA hI e' hx hy Q E).2 (e▸k)
 case Lt=>exact md hA hI e hx hy (λ_ _ _ _=>lt_int) (k s.toks)
 case LtE=>exact md hA hI e hx hy (λ_ _ _ _=>le_int) (k s.toks)
 case Gt=>exact md hA hI e hx hy (λ_ _ _ _=>gt_int) (k s.toks)
 case GtE=>exact md hA hI e hx hy (λ_ _ _ _=>ge_int) (k s.toks)
 case In=>exact(vQ hA hI e hx hy Q E).1 k
 case NotIn=>exact ed e λc e' e=>(vQ hA hI e' hx hy Q E).2 (e▸k)
 case Is=>exact(uT hA hI e hx hy Q E).1 k
 case IsNot=>exact ed e λc e' e=>(uT hA hI e' hx hy Q E).2 (e▸k)
end
end
theorem mem_lookup{β:Type}{x:Str}{c:β}{l:List (Str×β)}(h:l.lookup x=some c):(x,c)∈l:=by
 induction l with
 |nil=>exact aB h
 |cons p l ih=>
  rw[List.lookup_cons] at h;split at h
  ·rename_i q;rw[eq_of_beq q,<-aC h];exact .head _
  ·exact .tail _ (ih h)
theorem OE{α:Type}{l:List α}{a b:α}{k}{P:Prop}(h:(l++ [a])[k]?=some b)(k1:k<l.length->l[k]?=some b->P)(k2:k=l.length->a=b->P):P:=
 (Nat.lt_or_ge k l.length).elim (λq=>k1 q ((List.getElem?_append_left q).symm.trans h)) λq=>by
  have z:k<l.length+1:=by have:=(ch h).1;rwa [List.length_append] at this
  obtain rfl:=Nat.le_antisymm (Nat.le_of_lt_succ z) q;exact k2 rfl (aC (List.getElem?_concat_length.symm.trans h))
theorem Ng{α β:Type}{l:List α}{m:List β}{a b:α}{c d:β}{k}{P:Prop}(hl:l.length=m.length)(e1:(l++ [a])[k]?=some b)(e2:(m++ [c])[k]?=some d)(k1:l[k]?=some b->m[k]?=some d->P)(k2:k=l.length->a=b->c=d->P):P:=
 OE e1 (λl1 x=>OE e2 (λ_ y=>k1 x y) λe _=>absurd (e.trans hl.symm) (Nat.ne_of_lt l1)) λe x=>OE e2 (λl1 _=>absurd (e.trans hl) (Nat.ne_of_lt l1)) λ_ y=>k2 e x y
section
variable {w:World} {Bs:Base w} {X:Cx}
theorem Cp(hl:ρ.length=σ.length):bK (ρ++ [p]) (σ++ [o]) b↔bK ρ σ b\/b∈fp o p:=
 ⟨λq=>q.elim λk q=>q.elim λa q=>q.elim λx q=>Ng hl q.1 q.2.1 (λe1 e2=> .inl ⟨k,a,x,e1,e2,q.2.2⟩) λ_ e e'=> .inr (e▸e'▸q.2.2),
 λq=>q.elim (λq=>q.imp λk q=>q.imp λa q=>q.imp λx q=>⟨(List.getElem?_append_left (ch q.1).1).trans q.1,(List.getElem?_append_left (ch q.2.1).1).trans q.2.1,q.2.2⟩)
  λq=>⟨ρ.length,p,o,List.getElem?_concat_length,hl▸List.getElem?_concat_length,q⟩⟩
theorem aZ.slot{G0 G}{ρ0 ρ}{st0 st}{h0 h2 h3}{p:Addr×Addr}{o}(I0:aZ Bs X G0 ρ0 st0 h0)(I:aZ Bs X G ρ st h2)(S:aH G0 ρ0 st0.S9 h0 G ρ st.S9 h2 (aG X.fr) X.Tc)
  (ext: ∀b x,b∉fp o p->h2.get? b=some x->h3.get? b=some x) (hfp: ∀b∈fp o p,h0.get? b=none/\G b=none/\ ¬bK ρ st.S9 b)
  (rep:dh w G (ρ++ [p]) h3 o p):aZ Bs X G (ρ++ [p]) {st with S9:=st.S9++ [o]} h3/\aH G0 ρ0 st0.S9 h0 G (ρ++ [p]) (st.S9++ [o]) h3 (aG X.fr) X.Tc:=by
 have old: ∀b,(∃x,h0.get? b=some x)->b∉fp o p:=λb l q=>l.elim λx l=>aD l (hfp b q).1;have Ut:=λb hb=>old b (I0.p b hb).2.2;have inf: ∀b {P:Prop},(bK ρ st.S9 b->P)->(b∈fp o p->P)->bK (ρ++ [p]) (st.S9++ [o]) b->P:=λb P f g q=>((Cp I.g.len).mp q).elim f g;have len:=I.g.len;refine⟨⟨⟨I.g.base,λb x e=>ext b x (λq=>lg (e.symm.trans (hfp b q).2.1)) (I.g.Tg b x e),by rw[List.length_append,List.length_append,len];rfl,
   λk q x e1 e2=>Ng len e1 e2 (λe1 e2=>(I.g.rep k q x e1 e2).mono dF.rfl fk.app λb hb y e=>ext b y (λz=>(hfp b z).2.2 ⟨k,q,x,e1,e2,hb⟩) e) λ_ e e'=>e▸e'▸rep,
   λi j q r x y e1 e2 e3 e4 ne b hb hc=>Ng len e1 e3 (λa1 c1=>Ng len e2 e4 (λa2 c2=>I.g.TU i j q r x y a1 a2 c1 c2 ne b hb hc) λ_ z z'=>(hfp b (z▸z'▸hc)).2.2 ⟨i,q,x,a1,c1,hb⟩)
    λl z z'=>Ng len e2 e4 (λa2 c2=>(hfp b (z▸z'▸hb)).2.2 ⟨j,r,y,a2,c2,hc⟩) λl' _ _=>ne (l.trans l'.symm),
   λb=>inf b (I.g.off b) λz=>(hfp b z).2.1,λe he=>(I.g.frs e he).imp id λz=>z.imp λL z=>z.imp λx z=> ?_⟩,I.len,?_,λb hb=>⟨(I.p b hb).1,inf b (I.p b hb).2.1 (Ut b hb),(I.p b hb).2.2.imp λx d=>ext b x (Ut b hb) d⟩,I.pl⟩,
  ⟨S.gl,S.rl.trans fk.app,λb x e nf np=>(S.keep b x e nf np).imp λsl q=>⟨ext b _ (old b ⟨_,e⟩) q.1,q.2⟩,λb=>inf b (S.fresh b) λz=> .inr (hfp b z).1,S.Tr,λb x e=>(S.alive b x e).imp λy hy=>ext b y (old b ⟨_,e⟩) hy⟩⟩
 ·obtain⟨m,hm,hl,hcl⟩:=I.l;have cell: ∀(x:Str) cc v,X.env.cells.lookup x=some cc->h2.IsCell cc v->h3.IsCell cc v:=λx cc v lk z=>z.imp λy z=>⟨ext cc y (Ut cc (.inl (.tail _ (List.mem_map.mpr ⟨_,mem_lookup lk,rfl⟩)))) z.1,z.2⟩;exact⟨m,hm.imp λx z=>z.imp λes z=>z.imp λep z=>⟨ext _ x (Ut _ (.inl (.head _))) z.1,z.2⟩,λi a e=>(hl i a e).imp λy z=>z.imp λv z=>⟨z.1,ar.mono dF.rfl fk.app a z.2.1,z.2.2.imp id λz=>⟨z.1,z.2.imp λc z=>⟨z.1,cell y c _ z.1 z.2⟩⟩⟩,λx c lk=>(hcl x c lk).imp λv=>cell x c v lk⟩
 ·have nL:=old L ((I0.g.frs e he).2.elim λL' y=>y.elim λx' y=>aC (y.1.symm.trans z.1)▸⟨_,y.2.1⟩);exact⟨z.1,ext L x nL z.2.1,z.2.2.1,z.2.2.2.1,inf L z.2.2.2.2 nL⟩
theorem IA{op}{p}(h1:SE Bs X (λ_ _=>True) (wp Bs (eval l env)) ma (VR (w:=w)))(h2:SE Bs X (λ_ _=>True) (wp Bs (eval r env)) mb (VR (w:=w))):
  SE Bs X (λ_ _=>True) (wp Bs (eval (.BinOp l op r p) env)) (λs=>ao (ma s) λx s=>ao (mb s) λy s=>bo s (binI s.S9 op x y)) (VR (w:=w)):=
 SE.le (SE.bind aR.true h1 λx v=>SE.bind (aR.and aR.true (aR.vr x v)) (h2.pre λ_ _ _=>trivial) λy u=>Ci) λA Q E s h=>wpAny_BinOp h
theorem ve{op}{x y}{v u}{P:Gm->Rm->Prop}:SE Bs X (λG ρ=>(P G ρ/\VR (w:=w) G ρ x v)/\VR (w:=w) G ρ y u) (wp Bs (compareOp op v u)) (λs=>bo s (eP s.S9 op x y)) (λ_ _ b a=>a= .bool b):=
 SE.lift λst b hb A G ρ s hA hI hP Q E k=>rK hA hI hb hP.1.2 hP.2 λtk=>k _ tk rfl
theorem EB{op}{x y}{v u}{P:Gm->Rm->Prop}:SE Bs X (λG ρ=>(P G ρ/\VR (w:=w) G ρ x v)/\VR (w:=w) G ρ y u) (wp Bs (compareOp op v u)) (λs=>bo s ((eP s.S9 op x y).map .bool)) (VR (w:=w)):=
 SE.lift λst b hb A G ρ s hA hI hP Q E k=>ed hb λc hc e=>rK hA hI hc hP.1.2 hP.2 λtk=>k _ tk (e▸rfl)
theorem HG{p}(hm:behindInMarks op r=false)(h1:SE Bs X (λ_ _=>True) (wp Bs (eval l env)) ma (VR (w:=w)))(h2:SE Bs X (λ_ _=>True) (wp Bs (eval r env)) mb (VR (w:=w))):
  SE Bs X (λ_ _=>True) (wp Bs (eval (.Compare l [op] [r] p) env)) (λs=>ao (ma s) λx s=>ao (mb s) λy s=>bo s ((eP s.S9 op x y).map .bool)) (VR (w:=w)):=
 SE.le (SE.bind aR.true h1 λx v=>SE.bind (aR.and aR.true (aR.vr x v)) (h2.pre λ_ _ _=>trivial) λy u=>EB) λA Q E s h=>wpAny_Compare1 h hm
theorem SE.truthy{W:WP Value}{U:WP Bool}{m:St->Out Bool}(h:SE Bs X Pre W m λ_ _ b a=>a= .bool b)(le: ∀A Q E s,W A (λc s=>wpAny (model Bs.prog w) A (truthy c) Q E s) E s->U A Q E s):SE Bs X Pre U m BR:=λst r st' hm A G ρ s hA hI hp Q E k=>
 le _ _ _ _ (h st r st' hm A G ρ s hA hI hp _ E λG' ρ' h' tk I S=>by
  have z:=k G' ρ' h' tk I S;cases r with
  |exc C=>exact z
  |ok b=>exact λa ha=>ha▸wpAny_truthy_bool (z b rfl))
theorem DY{p}{whole:Sem Value}(hm:behindInMarks op r=false)(h1:SE Bs X (λ_ _=>True) (wp Bs (eval l env)) ma (VR (w:=w)))(h2:SE Bs X (λ_ _=>True) (wp Bs (eval r env)) mb (VR (w:=w))):
  SE Bs X (λ_ _=>True) (wp Bs (isTrue (.Compare l [op] [r] p) env whole)) (λs=>ao (ma s) λx s=>ao (mb s) λy s=>bo s (eP s.S9 op x y)) BR:=
 SE.truthy (SE.bind aR.true h1 λx v=>SE.bind (aR.and aR.true (aR.vr x v)) (h2.pre λ_ _ _=>trivial) λy u=>ve) λA Q E s h=>wpAny_isTrue_Compare1 h hm
theorem SE.bool{α β:Type}{Pre:Gm->Rm->Prop}{W:WP α}{v}{f:Bool->St->Out β}{R:Gm->Rm->β->α->Prop}(h: ∀b,v= .bool b->SE Bs X Pre W (f b) R):SE Bs X Pre W (λs=>r5 v s f) R:=λst r st' hm=>bA hm λb e hm=>h b (qN e) st r st' hm
theorem gX{b}(e:x= .bool b)(h:ar w G ρ x v):v= .bool b:=(e▸h:ar w G ρ (.bool b) v)
theorem JM{p}(h:SE Bs X (λ_ _=>True) (wp Bs (eval x env)) m (VR (w:=w))):
  SE Bs X (λ_ _=>True) (wp Bs (eval (.UnaryOp .Not x p) env)) (λs=>ao (m s) λx s=>r5 x s λb s=>some (.ok (.bool !b),s)) (VR (w:=w)):=
 SE.le (SE.bind (U:=λv=>wp Bs (unaryOp .Not v)) aR.true h λx v=>SE.bool λb e=>SE.one λst A G ρ s hA hI hp Q E k=>gX e hp.2▸PyProof.Rows.not_of (wpAny_truthy_bool (k _ s.toks rfl))) λA Q E s h=>wpAny_UnaryOp h
theorem Kp:SE Bs X (λ_ _=>True) (wp Bs (eval (.UnaryOp .USub (.Constant (.int i) k q) p) env)) (aw T gl (.neg i)) (VR (w:=w)):=
 SE.one λst A G ρ s hA hI hp Q E kk=>wpAny_UnaryOp (wpAny_Constant_int (PyProof.Rows.neg_int (kk _ _ ⟨_,rfl⟩)))
noncomputable def WP.ite{α:Type}(c:Bool)(W U:WP α):WP α:=λA Q E s=>if c then W A Q E s else U A Q E s
theorem Dm{α β:Type}{x c}{W U:WP α}{ma mb:St->Out β}{R:Gm->Rm->β->α->Prop}(h1:SE Bs X (λ_ _=>True) W ma R)(h2:SE Bs X (λ_ _=>True) U mb R):
  SE Bs X (λG ρ=>True/\BR G ρ x c) (WP.ite c W U) (λs=>cond x (ma s) (mb s)) R:=λst r st' hm A G ρ s hA hI hp=>by
 obtain rfl:x=c:=hp.2;cases x with
 |true=>exact h1 st r st' hm A G ρ s hA hI trivial
 |false=>exact h2 st r st' hm A G ρ s hA hI trivial
theorem IB{t a b}{p}{env}{mt:St->Out Bool}{ma mb:St->Out AV}(h1:SE Bs X (λ_ _=>True) (wp Bs (isTrue t env (eval t env))) mt BR)
  (h2:SE Bs X (λ_ _=>True) (wp Bs (eval a env)) ma (VR (w:=w))) (h3:SE Bs X (λ_ _=>True) (wp Bs (eval b env)) mb (VR (w:=w))):
  SE Bs X (λ_ _=>True) (wp Bs (eval (.IfExp t a b p) env)) (λs=>ao (mt s) λc s=>cond c (ma s) (mb s)) (VR (w:=w)):=
 SE.le (SE.bind (U:=λc=>WP.ite c (wp Bs (eval a env)) (wp Bs (eval b env))) aR.true h1 λx v=>Dm h2 h3) λA Q E s h=>wpAny_IfExp h
theorem El{t a b}{p}{env}{whole:Sem Value}{mt:St->Out Bool}{ma mb:St->Out Bool}(h1:SE Bs X (λ_ _=>True) (wp Bs (isTrue t env (eval t env))) mt BR)
  (h2:SE Bs X (λ_ _=>True) (wp Bs (isTrue a env (eval a env))) ma BR) (h3:SE Bs X (λ_ _=>True) (wp Bs (isTrue b env (eval b env))) mb BR):
  SE Bs X (λ_ _=>True) (wp Bs (isTrue (.IfExp t a b p) env whole)) (λs=>ao (mt s) λc s=>cond c (ma s) (mb s)) BR:=
 SE.le (SE.bind (U:=λc=>WP.ite c (wp Bs (isTrue a env (eval a env))) (wp Bs (isTrue b env (eval b env)))) aR.true h1 λx v=>Dm h2 h3) λA Q E s h=>isTrue_IfExp h
theorem GN{p}{whole:Sem Value}(h:SE Bs X (λ_ _=>True) (wp Bs (isTrue x env (eval x env))) m BR):
  SE Bs X (λ_ _=>True) (wp Bs (isTrue (.UnaryOp .Not x p) env whole)) (λs=>ao (m s) λb s=>some (.ok !b,s)) BR:=
 SE.le (SE.bind (U:=λc=>λA Q E s=>Q (!c) s) aR.true h λx v=>SE.one λst A G ρ s hA hI hp Q E k=>k _ s.toks (ac (!·) hp.2)) λA Q E s h=>PyProof.Rows.isTrue_not h
theorem Be(he:isTrue e env whole=(do let v<-whole;standAt e.pos;holding [v] (truthy v)))(h:SE Bs X (λ_ _=>True) (wp Bs whole) m (VR (w:=w))):
  SE Bs X (λ_ _=>True) (wp Bs (isTrue e env whole)) (λs=>ao (m s) λv s=>bo s v.b) BR:=
 SE.le (SE.bind (U:=λv=>wp Bs (truthy v)) aR.true h λx v=>SE.lift λst b e A G ρ s hA hI hp Q E k=>gX (qN e) hp.2▸wpAny_truthy_bool (k b s.toks rfl)) λA Q E s h=>PyProof.Rows.isTrue_plain h he
end
theorem qq{prog:Program}{w:World}{K:Type}[DecidableEq K]{knd:KeyKind prog w K}{R:K->Value->Prop}(hR: ∀k v,knd.is k v=true->R k v){h:Heap}{a:Addr}{kvs:List (K×Value)}(d:h.DictOf knd a kvs):
  ∃es n,h.get? a=some (dictOf es n)/\hM R knd.hash (kvs.map (·.1)) es/\(kvs.map (·.1)).Nodup/\es.map (·.val)=kvs.map (·.2):=by
 obtain⟨o,es,n,ho,⟨c1,c2,c3⟩,hd,hk,hp,hn⟩:=d;refine⟨es.toList,n,?_,?_⟩
 ·obtain⟨oc,od,UL,os⟩:=o;rw[ho,show oc=_ from c1,show od=_ from c2,show os=_ from c3,show UL=_ from hd]
 ·refine⟨?_,hn,?_⟩
  ·replace hk: ∀e∈es.toList,∃k,knd.is k e.key=true/\e.hash=knd.hash k:=λe he=>hk e (by simpa using he)
   clear hn hd ho;generalize es.toList=l at hp hk
   induction hp with
   |nil=>rfl
   | @cons e kv l kvs h1 h2 _ ih=>exact⟨e,l,rfl,hR _ _ h1,(hk e (.head _)).elim λk q=>q.2.trans (ac knd.hash (knd.inj _ _ _ q.1 h1)),ih λx hx=>hk x (.tail _ hx)⟩
  ·clear hn hd ho hk;generalize es.toList=l at hp
   induction hp with
   |nil=>rfl
   | @cons e kv l kvs h1 h2 _ ih=>rw[List.map_cons,List.map_cons,h2,ih]
theorem xh{prog:Program}{w:World}{h:Heap}{a:Addr}{kvs:List (Int×Value)}(d:h.DictOf (intKind prog w) a kvs)(ns:(a==sysModules)=false):
  ∃es n,h.get? a=some (dictOf es n)/\iz a (kvs.map (·.1)) es/\es.map (·.val)=kvs.map (·.2):=(qq (R:=λx v=> ∃t,v= .int x t) (λ_ _=>Value.isInt_shape) d).imp λes z=>z.imp λn z=>⟨z.1,⟨z.2.1,z.2.2.1,ns⟩,z.2.2.2⟩
theorem ph{prog:Program}{w:World}{h:Heap}{a:Addr}{kvs:List (Str×Value)}(d:h.DictOf (PySem.strKind prog w) a kvs)(ns:(a==sysModules)=false):
  ∃es n,h.get? a=some (dictOf es n)/\iO w a (kvs.map (·.1)) es/\es.map (·.val)=kvs.map (·.2):=(qq (R:=λx v=> ∃t,v= .str x t) (λ_ _=>Value.isStrOf_shape) d).imp λes z=>z.imp λn z=>⟨z.1,⟨z.2.1,z.2.2.1,ns⟩,z.2.2.2⟩
theorem stored_new{K:Type}[DecidableEq K]{kvs:List (K×Value)}{k:K}{v:Value}(h:k∉kvs.map (·.1)):PySem.stored kvs k v=kvs++ [(k,v)]:=by
 unfold PySem.stored;rw[if_neg];intro q;obtain⟨x,hx,e⟩:=List.any_eq_true.mp q;exact h (List.mem_map.mpr ⟨x,hx,aT e⟩)
theorem pc{K:Type}[DecidableEq K]: ∀(more kvs:List (K×Value)),((kvs++more).map (·.1)).Nodup->PySem.merged kvs more=kvs++more
 | [],kvs,_=>by simp[PySem.merged]
 |x::more,kvs,h=>by
  show PySem.merged (PySem.stored kvs x.1 x.2) more=_;have:x.1∉kvs.map (·.1):=by
   intro q;rw[List.map_append,List.nodup_append] at h;exact h.2.2 x.1 q x.1 (by simp) rfl
  rw[stored_new this,pc more _ (by simpa using h)];simp
section
variable {w:World} {Bs:Base w} {X:Cx}
theorem Bg:SE Bs X (λ_ _=>True) (wp Bs (spliced (backTo p (starEach [] env)))) (br T gl []) (vL (w:=w)):=SE.one λst A G ρ s hA hI hp Q E k=>wpAny_items_nil (k _ s.toks rfl)
theorem yg{p}{is}(he:starEach (e::es) env=(false,eval e env)::starEach es env)(h1:SE Bs X (λ_ _=>True) (wp Bs (eval e env)) (aw T gl i) (VR (w:=w)))
  (h2:SE Bs X (λ_ _=>True) (wp Bs (spliced (backTo p (starEach es env)))) (br T gl is) (vL (w:=w))):SE Bs X (λ_ _=>True) (wp Bs (spliced (backTo p (starEach (e::es) env)))) (br T gl (i::is)) (vL (w:=w)):=
 SE.le (SE.bind (U:=λv=>WP.bind (wp Bs (spliced (backTo p (starEach es env)))) λvs A Q E s=>Q (v::vs) s) aR.true h1 λx v=>SE.bind (aR.and aR.true (aR.vr x v)) (h2.pre λ_ _ _=>trivial) λxs vs=>SE.one λst A G ρ s hA hI hp Q E k=>k _ s.toks ⟨v,vs,rfl,hp.1.2,hp.2⟩) λA Q E s h=>wpAny_items_cons h he
theorem ix{G}{ρ}{st}{h}(I:aZ Bs X G ρ st h){b}(l:h.get? b=none):b∉aG X.fr/\b∉X.Tc/\ ¬bK ρ st.S9 b:=
 ⟨λq=>(List.mem_filterMap.mp q).elim λe z=>(I.g.frs e z.1).2.elim λL y=>y.elim λo y=>aD y.2.1 (aC (z.2.symm.trans y.1)▸l),λq=>(I.p b (.inr q)).2.2.elim λo e=>aD e l,λq=>(fR I.g q).elim λo e=>aD e l⟩
noncomputable def WP.made(c:String)(vs:List Value):WP Value:=λA Q E s=>vs.length<=sizeLine/\Q (.ref s.heap.objs.size) {s with heap:=s.heap.push {cls:= .type c,data:= .seq vs.toArray}}
theorem zf{xs:aV}(h:ag w G ρ xs vs)(hl:decide (xs.length<=1000)=true):vs.length<=sizeLine:=h.length▸bz (aT hl) ∅
theorem B7{n}(h:SE Bs X (λ_ _=>True) (wp Bs (spliced (backTo p (starEach elts env)))) m (vL (w:=w))):
  SE Bs X (λ_ _=>True) (wp Bs (eval (.Tuple elts n p) env)) (λs=>ao (m s) λvs s=>bo s (cond (decide (vs.length<=1000)) (some (.tup vs)) none)) (VR (w:=w)):=
 SE.le (SE.bind (U:=WP.made "tuple") aR.true h λxs vs=>SE.of λst q hm=>ed hm λb e hm=>hm▸eV e λhl e A G ρ s hA hI hp Q E k=>
  have z:=hI.one (o:={cls:= .type "tuple",data:= .seq vs.toArray}) (lT _ _ _) (oH _ _ _) (bj (Nat.le_refl _)) (dX _ rfl)
  ⟨zf hp.2 hl,k _ _ _ s.toks z.1 z.2 _ (aC e▸sE (hI.TA (Nat.le_refl _)) hp.2)⟩) λA Q E s h=>wpAny_Tuple h
theorem aZ.push{G:Gm}{ρ:Rm}{st:St}{s:Shared}{ob:Obj}{o:AO}{q:Addr}(hI:aZ Bs X G ρ st s.heap)(hf:fp o (s.heap.objs.size,q)=[s.heap.objs.size])(rep:dh w G (ρ++ [(s.heap.objs.size,q)]) (s.heap.push ob) o (s.heap.objs.size,q)):
  aZ Bs X G (ρ++ [(s.heap.objs.size,q)]) {st with S9:=st.S9++ [o]} (s.heap.push ob)/\aH G ρ st.S9 s.heap G (ρ++ [(s.heap.objs.size,q)]) (st.S9++ [o]) (s.heap.push ob) (aG X.fr) X.Tc:=
 aZ.slot hI hI aH.rfl (λb x _ e=>bv _ e) (λb hb=>by
  rw[hf] at hb;rw[dt hb];exact⟨bj (Nat.le_refl _),hI.TA (Nat.le_refl _),(ix hI (bj (Nat.le_refl _))).2.2⟩) rep
theorem oO{ρ:Rm}{p:Addr×Addr}{σ:aX}(hl:ρ.length=σ.length):ar w G (ρ++ [p]) (.ref σ.length) (.ref p.1):=⟨p,hl▸List.getElem?_concat_length,rfl⟩
theorem EG(h:SE Bs X (λ_ _=>True) (wp Bs (spliced (backTo p (starEach elts env)))) m (vL (w:=w))):
  SE Bs X (λ_ _=>True) (wp Bs (eval (.List elts p) env)) (λs=>ao (m s) λvs s=>xB (decide (vs.length<=1000)) s (.lst vs)) (VR (w:=w)):=
 SE.le (SE.bind (U:=WP.made "list") aR.true h λxs vs=>SE.of λst q hm=>eV hm λhl hm=>aC hm▸λA G ρ s hA hI hp Q E k=>
  have z:=hI.push (q:=0) (o:= .lst xs) (ob:={cls:= .type "list",data:= .seq vs.toArray}) rfl ⟨vs,0,dX _ rfl,hp.2.mono dF.rfl fk.app⟩
  ⟨zf hp.2 hl,k _ _ _ s.toks z.1 z.2 _ (oO hI.g.len)⟩) λA Q E s h=>wpAny_List h
theorem DW{st}(hm:th T gl [i] st=some (r,st')):aw T gl i st=some (r,st'):=
 bO hm (λC e e'=>e'▸e) λv s1 e1 e2=>bA e2 λb e e2=>(qN e▸e1).trans ((ac (cond · (th T gl [] s1) (some (Res.ok (AV.bool b),s1))) (Bool.and_false b)).symm.trans e2)
theorem H9{st}(hm:Fh T gl [i] st=some (r,st')):aw T gl i st=some (r,st'):=
 bO hm (λC e e'=>e'▸e) λv s1 e1 e2=>bA e2 λb e e2=>(qN e▸e1).trans ((ac (cond · (Fh T gl [] s1) (some (Res.ok (AV.bool b),s1))) (Bool.and_false (!b))).symm.trans e2)
theorem SE.sub{α β:Type}{Pre:Gm->Rm->Prop}{W:WP α}{m n:St->Out β}{R:Gm->Rm->β->α->Prop}(h:SE Bs X Pre W n R)(le: ∀{st r st'},m st=some (r,st')->n st=some (r,st')):SE Bs X Pre W m R:=λst r st' hm=>h st r st' (le hm)
theorem Es{p}(h:SE Bs X (λ_ _=>True) (wp Bs (eval e env)) (aw T gl i) (VR (w:=w))):SE Bs X (λ_ _=>True) (wp Bs (eval (.BoolOp .And [e] p) env)) (th T gl [i]) (VR (w:=w)):=SE.le (h.sub DW) λA Q E s h=>BoolOp_one h
theorem H2{p}(h:SE Bs X (λ_ _=>True) (wp Bs (eval e env)) (aw T gl i) (VR (w:=w))):SE Bs X (λ_ _=>True) (wp Bs (eval (.BoolOp .Or [e] p) env)) (Fh T gl [i]) (VR (w:=w)):=SE.le (h.sub H9) λA Q E s h=>BoolOp_one h
theorem GE{e f}{es}{p}{i j}{is}(h1:SE Bs X (λ_ _=>True) (wp Bs (eval e env)) (aw T gl i) (VR (w:=w)))
  (h2:SE Bs X (λ_ _=>True) (wp Bs (eval (.BoolOp .And (f::es) p) env)) (th T gl (j::is)) (VR (w:=w))):SE Bs X (λ_ _=>True) (wp Bs (eval (.BoolOp .And (e::f::es) p) env)) (th T gl (i::j::is)) (VR (w:=w)):=
 SE.le (SE.bind (U:=λv A Q E s=>wpAny (model Bs.prog w) A (truthy v) (λb s=>if b=true then wpAny (model Bs.prog w) A (eval (.BoolOp .And (f::es) p) env) Q E s else Q v s) E s) aR.true h1 λx v=>SE.bool λb e=>by
  cases b with
  |true=>exact λst r st' hm A G ρ s hA hI hp Q E k=>gX e hp.2▸wpAny_truthy_bool (h2 st r st' hm A G ρ s hA hI trivial Q E k)
  |false=>exact SE.one λst A G ρ s hA hI hp Q E k=>gX e hp.2▸wpAny_truthy_bool (k _ s.toks rfl)) λA Q E s h=>BoolOp_and h
theorem Kf{e f}{es}{p}{i j}{is}(h1:SE Bs X (λ_ _=>True) (wp Bs (eval e env)) (aw T gl i) (VR (w:=w)))
  (h2:SE Bs X (λ_ _=>True) (wp Bs (eval (.BoolOp .Or (f::es) p) env)) (Fh T gl (j::is)) (VR (w:=w))):SE Bs X (λ_ _=>True) (wp Bs (eval (.BoolOp .Or (e::f::es) p) env)) (Fh T gl (i::j::is)) (VR (w:=w)):=
 SE.le (SE.bind (U:=λv A Q E s=>wpAny (model Bs.prog w) A (truthy v) (λb s=>if b=true then Q v s else wpAny (model Bs.prog w) A (eval (.BoolOp .Or (f::es) p) env) Q E s) E s) aR.true h1 λx v=>SE.bool λb e=>by
  cases b with
  |false=>exact λst r st' hm A G ρ s hA hI hp Q E k=>gX e hp.2▸wpAny_truthy_bool (h2 st r st' hm A G ρ s hA hI trivial Q E k)
  |true=>exact SE.one λst A G ρ s hA hI hp Q E k=>gX e hp.2▸wpAny_truthy_bool (k _ s.toks rfl)) λA Q E s h=>BoolOp_or h
theorem EY:SE Bs X (λ_ _=>True) (wp Bs (isTrue (.BoolOp op [] p) env whole)) (vp T gl (op== .And) []) BR:=SE.one λst A G ρ s hA hI hp Q E k=>by
 cases op
 ·exact isTrue_and_nil (k _ s.toks rfl)
 ·exact isTrue_or_nil (k _ s.toks rfl)
theorem JF{stop x v}{W:WP Bool}{m:St->Out Bool}(h:SE Bs X (λ_ _=>True) W m BR):SE Bs X (λG ρ=>True/\BR G ρ x v) (λA Q E s=>if v=stop then W A Q E s else Q v s) (λs=>cond (x==stop) (m s) (some (.ok x,s))) BR:=λst r st' hm A G ρ s hA hI hp=>by
 obtain rfl:x=v:=hp.2;cases x<;>cases stop
 ·exact h st r st' hm A G ρ s hA hI trivial
 ·exact SE.one (Pre:=λ_ _=>True) (W:=λA Q E s=>Q false s) (λst A G ρ s hA hI hp Q E k=>k _ s.toks rfl) st r st' hm A G ρ s hA hI trivial
 ·exact SE.one (Pre:=λ_ _=>True) (W:=λA Q E s=>Q true s) (λst A G ρ s hA hI hp Q E k=>k _ s.toks rfl) st r st' hm A G ρ s hA hI trivial
 ·exact h st r st' hm A G ρ s hA hI trivial
theorem DM{op}{es}{p}{whole:Sem Value}{is}(h1:SE Bs X (λ_ _=>True) (wp Bs (isTrue e env (eval e env))) (cg T gl i (aw T gl i)) BR)
  (h2:SE Bs X (λ_ _=>True) (wp Bs (isTrue (.BoolOp op es p) env whole)) (vp T gl (op== .And) is) BR):SE Bs X (λ_ _=>True) (wp Bs (isTrue (.BoolOp op (e::es) p) env whole)) (vp T gl (op== .And) (i::is)) BR:=
 SE.le (SE.bind (U:=λc A Q E s=>if c=(op== .And) then wpAny (model Bs.prog w) A (isTrue (.BoolOp op es p) env whole) Q E s else Q c s) aR.true h1 λx v=>JF h2) λA Q E s go=>by
  cases op with
  |And=>exact isTrue_and (wpAny_mono go (λc s' h'=>by cases c<;>exact h') λ_ _ e=>e)
  |Or=>exact isTrue_or (wpAny_mono go (λc s' h'=>by cases c<;>exact h') λ_ _ e=>e)
end
theorem C0:AN.Nodup:=by decide+kernel
theorem xk(hi:i<55)(hj:j<55)(e:AN.getD i Str.empty=AN.getD j Str.empty):i=j:=by
 have l:AN.length=55:=rfl;rw[List.getD_eq_getElem?_getD,List.getD_eq_getElem?_getD,List.getElem?_eq_getElem (i:=i) (by omega),List.getElem?_eq_getElem (i:=j) (by omega)] at e;exact(List.getElem_inj C0).mp e
theorem qI(h:n∈lay C):n<55:=
 let ⟨x,hx,_,h⟩:=ym h
 (by decide+kernel: ∀x∈wm,∀n∈x.2,n<55) x hx n h
section
variable {w:World} {Bs:Base w} {X:Cx}
theorem Ad{K:Type}[BEq K][LawfulBEq K]{ks:List K}{n:K}{a:AV}: ∀{l:aV},cN ks l n=some a-> ∃i:Nat,ks[i]?=some n/\l[i]?=some a:=by
 induction ks with
 |nil=>exact λh=>aB h
 |cons x ks ih=>exact λh=>oJ h (λb t e q e'=>⟨0,ac some (eq_of_beq q),e▸ac some e'⟩) λb t e _ h=>(ih h).elim λi z=>⟨i+1,z.1,e▸z.2⟩
theorem CZ{e}{r}{x}{t}(ek:e.key= .str x t):getL x (e::r)=some (some e.val):=by
 unfold getL;rw[List.find?_cons,ek,show(Value.str x t).isStr x=true from beq_self_eq_true x]
theorem Aq{e}{r}{x y}{t}(ek:e.key= .str x t)(ne:(x==y)=false):getL y (e::r)=getL y r:=by
 unfold getL;rw[List.find?_cons,ek,show(Value.str x t).isStr y=false from ne,List.any_cons,show e.refKey=false by unfold DictEntry.refKey;rw[ek]];rfl
theorem Fd{ks}{n}{a}{G}{ρ}(hn:n<55): ∀{l:aV} {es:List DictEntry},(∀k∈ks,k<55)->cN ks l n=some a->
  cU w ((ks.take l.length).map λi=>AN.getD i Str.empty) es->ag w G ρ l (es.map (·.val))-> ∃v,getL (AN.getD n Str.empty) es=some (some v)/\ar w G ρ a v:=by
 induction ks with
 |nil=>exact λ_ h=>aB h
 |cons x ks ih=>
  intro l es hk h hs hv;refine oJ h (λb l e q e'=> ?_) λb l e q h'=> ?_<;>subst e
  all_goals
   obtain⟨e,r,rfl,⟨t,ek⟩,eh,hs⟩:=hs;obtain⟨v,r',ev,hv1,hv2⟩:=hv;obtain⟨rfl,rfl⟩:=List.cons.inj ev
  ·exact⟨e.val,eq_of_beq q▸CZ ek,e'▸hv1⟩
  ·exact(ih (λk z=>hk k (.tail _ z)) h' hs hv2).imp λv z=>⟨(Aq ek (beq_eq_false_iff_ne.mpr λz=>beq_eq_false_iff_ne.mp q (xk (hk x (.head _)) hn z))).trans z.1,z.2⟩
theorem yy(hv:lZ w G ρ h (.obj C l) c): ∃d es n,InstAt h c {cls:= .ref C,dict:=some d} C (some (dictOf es n))/\cU w (AB C l.length) es/\ag w G ρ l (es.map (·.val)):=by
 obtain⟨d,es,n,a,b,k,r⟩:=hv;exact⟨d,es,n,⟨a,rfl,rfl,b⟩,k,r⟩
theorem ub{a}{v}:a.isC=false->ar w G ρ a v->handedIn v=true:=
 a.casesOn (motive_1:=λa=>a.isC=false->ar w G ρ a v->handedIn v=true) (λ_ h=>h▸rfl) (λ_ _ h=>h▸rfl) (λ_ _ h=>h.elim λ_ h=>h▸rfl) (λ_ _ h=>h.elim λ_ h=>h▸rfl) (λ_ _ h=>h.elim λ_ h=>h▸rfl) (λ_=>tf) (λ_ _ h=>h.elim λ_ h=>h.2▸rfl)
  (λ_ _ h=>h.elim λ_ h=>h.elim λ_ h=>h.elim λ_ h=>h.1▸rfl) (λ_ _ h=>h.elim λ_ h=>h.elim λ_ h=>h.elim λ_ h=>h.1▸rfl) (λ_ _ _ h=>h.elim λ_ h=>h.elim λ_ h=>h.elim λ_ h=>h.1▸rfl)
  (λ_ _ _ h=>h.elim λ_ h=>h.elim λ_ h=>h.elim λ_ h=>h.1▸rfl) (λ_ _ _ h=>h.elim λ_ h=>h.elim λ_ h=>h.elim λ_ h=>h.1▸rfl) λ_ _ _ h=>h.elim λ_ h=>h.elim λ_ h=>h.elim λ_ h=>h.elim λ_ h=>h.1▸rfl
theorem aZ.Ur{G}{ρ}{st}{h}(I:aZ Bs X G ρ st h):Bs.K.In h:=Bs.hK h λb o e=>I.g.Tg b o (I.g.base b o e)
theorem wV{x}{v}{n:Nat}{P:Gm->Rm->Prop}:SE Bs X (λG ρ=>P G ρ/\VR (w:=w) G ρ x v) (wp Bs (getAttr v (AN.getD n Str.empty) true)) (λs=>bo s (dz s.S9 x n)) (VR (w:=w)):=by
 refine SE.lift λst b hb A G ρ s hA hI hP Q E k=>bA hb λp e1 hb=>bA hb λb' hl hb=>Ie hb λq hb=> ?_;refine rM (P:=λv=>wpAny (model Bs.prog w) A (getAttr v (AN.getD n Str.empty) true) Q E s) hI.g (VW.U5 e1) (by nofun) hP.2 λc hv=> ?_;obtain⟨d,es,m,I,hk,hr⟩:=yy hv;have hn:=(Ad hl).elim λi z=>gz z.1;obtain⟨a1,a2,a3,a4,a5,at',a6,a7⟩:=Bs.attr p.1 n hn;obtain⟨u,h1,h2⟩:=Fd (qI hn) (λk hk=>qI hk) hl hk hr;exact get_value hI.Ur I (plainGet_of a1).1 (findObj_own a2 a6 a7 h1) (ub q h2) (k _ _ (aC hb▸h2))
theorem Ee{T}{gl}{i}(hx:AN.getD n Str.empty=x)(he:eval (.Attribute e x p) env=(do
   let o<-eval e env
   standAt p.atName
   let r<-holding [o] (getAttr o x true)
   letTemporaryGo e o r
   pure r)) (h:SE Bs X (λ_ _=>True) (wp Bs (eval e env)) (aw T gl i) (VR (w:=w))):
  SE Bs X (λ_ _=>True) (wp Bs (eval (.Attribute e x p) env)) (aw T gl (.attr i n)) (VR (w:=w)):=by
 subst hx;exact SE.le (SE.bind aR.true h λx v=>wV) λA Q E s h=>Attribute_any_ h he
theorem dP{α:Type}{l:List α}{k i}{a x y:α}{P:Prop}(hk:l[k]?=some y)(e:(l.set k a)[i]?=some x)(k1:i=k->x=a->P)(k2:i≠k->l[i]?=some x->P):P:=
 (Classical.em (i=k)).elim (λq=>k1 q (aC ((q▸e:(l.set k a)[k]?=some x).symm.trans (List.getElem?_set_self (ch hk).1)))) λq=>k2 q ((List.getElem?_set_ne (Ne.symm q)).symm.trans e)
theorem aZ.upd{G}{ρ}{st}{h h'}{k}{p:Addr×Addr}{o o'}(hI:aZ Bs X G ρ st h)(hp:ρ[k]?=some p)(ho:st.S9[k]?=some o)
  (ext: ∀b x,b≠X.env.locals->b∉fp o p->h.get? b=some x->h'.get? b=some x) (hns: ∀m,h.Ns X.env.locals m->h'.Ns X.env.locals m)
  (sub: ∀b∈fp o' p,b∈fp o p) (VV: ∀b∈fp o p,∃y,h'.get? b=some y) (rep:dh w G ρ h' o' p):
  aZ Bs X G ρ {st with S9:=st.S9.set k o'} h'/\aH G ρ st.S9 h G ρ (st.S9.set k o') h' (aG X.fr) X.Tc:=by
 have hL:=hI.p X.env.locals (.inl (.head _));have inf: ∀b,b∈fp o p->bK ρ st.S9 b:=λb hb=>⟨k,p,o,hp,ho,hb⟩;obtain⟨m,hm,hl,hcl⟩:=hI.l;have cases': ∀(b:Addr) {p:Prop},(b=X.env.locals->p)->(b≠X.env.locals->p)->p:=λb p f g=>(Classical.em _).elim f g;have cell: ∀(x:Str) cc v,X.env.cells.lookup x=some cc->h.IsCell cc v->h'.IsCell cc v:=λx cc v lk z=>z.imp λy z=>⟨ext cc y (λq=>o9 hm (q▸z.1) z.2) (λq=>(hI.p cc (.inl (.tail _ (List.mem_map.mpr ⟨_,mem_lookup lk,rfl⟩)))).2.1 (inf cc q)) z.1,z.2⟩;have Ux: ∀{q},ρ[k]?=some q->q=p:=λe=>aC (e.symm.trans hp);have al: ∀b x,h.get? b=some x-> ∃y,h'.get? b=some y:=λb x e=>cases' b (λq=>q▸(kQ (hns m hm)).imp λo z=>z.1) λq=>(Classical.em (b∈fp o p)).elim (VV b) λz=>⟨x,ext b x q z e⟩;have TJ: ∀b,bK ρ (st.S9.set k o') b->bK ρ st.S9 b:=λb q=>q.elim λi q=>q.elim λa q=>q.elim λx q=>dP ho q.2.1 (λe e'=>inf b (sub b (Ux (e▸q.1)▸e'▸q.2.2))) λne h2=>⟨i,a,x,q.1,h2,q.2.2⟩;refine⟨⟨⟨hI.g.base,λb x e=>ext b x (λq=>lg (e.symm.trans (q▸hL.1))) (λq=>lg (e.symm.trans (hI.g.off b (inf b q)))) (hI.g.Tg b x e),by rw[List.length_set];exact hI.g.len,
   λi q x e1 e2=>dP ho e2 (λe e'=>Ux (e▸e1)▸e'▸rep) λne e2=>(hI.g.rep i q x e1 e2).mono dF.rfl fk.rfl λb hb y e=>ext b y (λz=>hL.2.1 (z▸⟨i,q,x,e1,e2,hb⟩)) (λz=>hI.g.TU i k q p x o e1 hp e2 ho ne b hb z) e,
   λi j q r x y e1 e2 e3 e4 ne b hb hc=>dP ho e3 (λe e'=>dP ho e4 (λf _=>ne (e.trans f.symm)) λn2 h4=>hI.g.TU k j p r o y hp e2 ho h4 (Ne.symm n2) b (sub b (Ux (e▸e1)▸e'▸hb)) hc)
    λn1 h3=>dP ho e4 (λf f'=>hI.g.TU i k q p x o e1 hp h3 ho n1 b hb (sub b (Ux (f▸e2)▸f'▸hc))) λn2 h4=>hI.g.TU i j q r x y e1 e2 h3 h4 ne b hb hc,
   λb q=>hI.g.off b (TJ b q),λe he=>(hI.g.frs e he).imp id λz=>z.imp λL z=>z.elim λx z=>cases' L (λq=> ?_) λq=>⟨x,z.1,ext L x q (λy=>z.2.2.2.2 (inf L y)) z.2.1,z.2.2.1,z.2.2.2.1,λy=>z.2.2.2.2 (TJ _ y)⟩⟩,hI.len,
   ⟨m,hns m hm,λi av e=>(hl i av e).imp λx z=>z.imp λv z=>⟨z.1,z.2.1,z.2.2.imp id λz=>⟨z.1,z.2.imp λc z=>⟨z.1,cell x c _ z.1 z.2⟩⟩⟩,λx c lk=>(hcl x c lk).imp λv=>cell x c v lk⟩,λb hb=>⟨(hI.p b hb).1,λq=>(hI.p b hb).2.1 (TJ b q),(hI.p b hb).2.2.elim (al b)⟩,hI.pl⟩,
  ⟨dF.rfl,fk.rfl,λb x e nf np=>⟨x.slots,ext b x (λq=>np (q▸hI.pl)) (λq=>nf (inf b q)) e,λ_=>rfl⟩,λb q=> .inl (TJ b q),λb x q=> .inl q,al⟩⟩
 exact(q.symm▸kQ (hns m hm): ∃o,h'.get? L=some o/\ ∀vs,o.data≠ .fields vs).imp λo' y=>⟨z.1,y.1,y.2,z.2.2.2.1,λy=>z.2.2.2.2 (TJ _ y)⟩
end
section
variable {w:World} {Bs:Base w} {X:Cx}
theorem dJ{prog}{A}{E:bS}{s}{value slice}{o i}{T id}{Q:bS}(hT:s.TypeIs o T)
  (hl:typeLookup (.type T) "__getitem__" =pure (some (.builtin id))) (h:wpAny (model prog w) A (getItem o i) Q E s):wpAny (model prog w) A (subscriptTail value slice o i) Q E s:=by
 unfold subscriptTail;refine am ?_;rw[getitemInPython_of_ne hT.not_modules];refine am (wpAny_specialOf hT hl ?_);have fin:wpAny (model prog w) A (subscripted slice false o i) (λr s₃=>wpAny (model prog w) A (letTemporaryGo value o r>>=λ_=>pure r) Q E s₃) E s:=by
  have hs: ∃vs,subscripted slice false o i=operate vs (getItem o i):=by
   cases slice
   case Slice a b st p=>cases st<;>exact⟨_,rfl⟩
   all_goals exact⟨_,rfl⟩
  obtain⟨vs,hs⟩:=hs;rw[hs];exact wpAny_operating (wpAny_mono h (λr s₃ h₃=>am (wpAny_letTemporaryGo (bq h₃))) λ_ _ x=>x)
 first
  |exact bq (am fin)
  |exact am (bq (am fin))
  |exact am fin
theorem lj{i}(h:fit i=true): -(2 ^ 63)<=i/\i<2 ^ 63:=by simpa [fit] using h
theorem xG{α:Type}{p:α->Bool}{x:α}{l:List α}(h:p x=true):(x::l).find? p=some x:=by rw[List.find?_cons,h]
theorem oE{α:Type}{p:α->Bool}{x:α}{l:List α}(h:p x=false):(x::l).find? p=l.find? p:=by rw[List.find?_cons,h]
theorem Im{K:Type}[DecidableEq K]{x:K×Value}{l}{k}(h:x.1=k):valueAt (x::l) k=some x.2:=ac (Option.map λkv:K×Value=>kv.2) (xG (p:=λkv:K×Value=>decide (kv.1=k)) (bU h))
theorem DO{K:Type}[DecidableEq K]{x:K×Value}{l}{k}(h: ¬x.1=k):valueAt (x::l) k=valueAt l k:=ac (Option.map λkv:K×Value=>kv.2) (oE (p:=λkv:K×Value=>decide (kv.1=k)) (decide_eq_false h))
theorem JV{K:Type}[DecidableEq K]{x:K×Addr×Value}{l}{k}(h:x.1=k):atKey (x::l) k=some x.2:=ac (Option.map λkv:K×Addr×Value=>kv.2) (xG (p:=λkv:K×Addr×Value=>decide (kv.1=k)) (bU h))
theorem Fy{K:Type}[DecidableEq K]{x:K×Addr×Value}{l}{k}(h: ¬x.1=k):atKey (x::l) k=atKey l k:=ac (Option.map λkv:K×Addr×Value=>kv.2) (oE (p:=λkv:K×Addr×Value=>decide (kv.1=k)) (decide_eq_false h))
theorem nS{K:Type}[DecidableEq K][BEq K][LawfulBEq K]{G}{ρ}{kvs}{k}{a}: ∀{ks:List K} {l:aV},kvs.map (·.1)=ks->ag w G ρ l (kvs.map (·.2))->cN ks l k=some a-> ∃v,valueAt kvs k=some v/\ar w G ρ a v:=by
 induction kvs with
 |nil=>exact λe _ h=>aB (e▸h)
 |cons x kvs ih=>
  intro ks l e hv h;subst e;refine oJ h (λb t e q e'=> ?_) λb t e q h'=> ?_<;>subst e
  all_goals
   obtain⟨v,r,ev,h1,h2⟩:=hv;obtain⟨rfl,rfl⟩:=List.cons.inj ev
  ·exact⟨x.2,Im (eq_of_beq q),e'▸h1⟩
  ·exact(ih rfl h2 h').imp λv z=>⟨(DO (beq_eq_false_iff_ne.mp q)).trans z.1,z.2⟩
theorem vv{G}{ρ}{xs}{k:Int×Int×Int}{a}: ∀{ks:List (Int×Int×Int)} {l:aV},(xs.map (·.1)=ks.map λk=>[k.1,k.2.1,k.2.2])->ag w G ρ l (xs.map (·.2.2))->cN ks l k=some a->
  ∃p,atKey xs [k.1,k.2.1,k.2.2]=some p/\ar w G ρ a p.2:=by
 induction xs with
 |nil=>
  intro ks l e _ h;cases ks with
  |nil=>exact aB h
  |cons _ _=>exact N5 e
 |cons x xs ih=>
  intro ks l e hv h;cases ks with
  |nil=>exact ON e
  |cons y ks=>
   obtain⟨e1,e2⟩:=List.cons.inj e;refine oJ h (λb t e q e'=> ?_) λb t e q h'=> ?_<;>subst e
   all_goals
    obtain⟨v,r,ev,h1,h2⟩:=hv;obtain⟨rfl,rfl⟩:=List.cons.inj ev
   ·exact⟨x.2,JV (eq_of_beq q▸e1),e'▸h1⟩
   ·exact(ih e2 h2 h').imp λp z=>⟨(Fy λy=>beq_eq_false_iff_ne.mp q (f5 (e1.symm.trans y))).trans z.1,z.2⟩
theorem yH{α:Type}{l:List α}{i}{a:α}(h:wf l i=some a): ∃j,seqIndex? i l.length=some j/\l[j]?=some a:=Option.bind_eq_some_iff.mp h
theorem yh{G}{ρ}{vs}(h:wf l i=some b)(r:ag w G ρ l vs): ∃j v,seqIndex? i vs.toArray.size=some j/\vs.toArray[j]?=some v/\ar w G ρ b v:=
 (yH h).elim λj z=>(r.get z.2).elim λv y=>⟨j,v,(ac (seqIndex? i) r.length).trans z.1,List.getElem?_toArray.trans y.1,y.2⟩
theorem Km{i}(h:fit i=true):fitsSsize i=true:=by
 have:=lj h;unfold fitsSsize;rw[Bool.not_eq_true'];simp;omega
theorem pE(h:seqIndex? i n=some j):(i<0/\ -(n:Int)<=i/\j=(i+n).toNat)\/(0<=i/\i<n/\j=i.toNat):=by
 unfold seqIndex? at h;by_cases h0:i<0
 ·simp only[h0,if_true] at h;by_cases hc:(decide (0<=i+(n:Int))&&decide (i+(n:Int)<n))=true
  ·rw[if_pos hc] at h;simp only[Bool.and_eq_true,decide_eq_true_eq] at hc;exact .inl ⟨h0,by omega,(aC h).symm⟩
  ·rw[if_neg hc] at h;cases h
 ·simp only[h0,if_false] at h;by_cases hc:(decide (0<=i)&&decide (i<(n:Int)))=true
  ·rw[if_pos hc] at h;simp only[Bool.and_eq_true,decide_eq_true_eq] at hc;exact .inr ⟨hc.1,hc.2,(aC h).symm⟩
  ·rw[if_neg hc] at h;cases h
section
variable {A:Around} {G:Gm} {ρ:Rm} {st:St} {s:Shared} (hA:lN X.lvl X.fr A) (hI:aZ Bs X G ρ st s.heap) {x y b:AV} {v u:Value} {value slice:Expr} {Q E:bS}
abbrev wS(Bs:Base w)(A:Around)(s:Shared)(value slice:Expr)(Q E:bS)(v u:Value):Prop:=wpAny (model Bs.prog w) A (subscriptTail value slice v u) Q E s
theorem Dq{c}{vs}{n}{l}{i}{t}(h1:s.heap.get? c=some {cls:= .type "list",data:= .seq (List.toArray vs) n})(r1:ag w G ρ l vs)(q:fit i=true)(hb:wf l i=some b)(k: ∀a,ar w G ρ b a->Q a s):wS Bs A s value slice Q E (.ref c) (.int i t):=by
 obtain⟨j,v,h3,hv,rv⟩:=yh hb r1;have UG:s.heap.IsList c vs.toArray:=⟨_,h1,rfl,_,rfl⟩;exact dJ UG.typeIs slot_list_getitem.lookup ((pE h3).elim (λz=>wpAny_getItem_list_neg UG z.1 z.2.1 (lj q).1 (z.2.2▸hv) (k _ rv)) λz=>wpAny_getItem_list UG z.1 (lj q).2 (z.2.2▸hv) (k _ rv))
include hA hI
theorem zH(hb:dZ st.S9 x y=some b)(hx:ar w G ρ x v)(hy:ar w G ρ y u)(k: ∀a tk,ar w G ρ b a->Q a {s with toks:=tk}):wS Bs A s value slice Q E v u:=by
 refine Th hb (λb e hb=>bA hb λi e' hb=>eV hb λq hb=>ed hb λc hc hb=> ?_) λhb=>Th hb (λsx e hb=>bA hb λi e' hb=>eV hb λq hb=>ed hb λc hc hb=> ?_) λhb=>Th hb (λl e hb=>bA hb λi e' hb=>eV hb λq hb=> ?_) λhb=>Th hb (λl e hb=>bA hb λi e' hb=>eV hb λq hb=> ?_) λhb=>
  Th hb (λp e hb=>bA hb λi e' hb=> ?_) λhb=>Th hb (λp e hb=>bA hb λi e' hb=> ?_) λhb=>bA hb λp e hb=>bA hb λi e' hb=> ?_
 ·obtain⟨t,rfl⟩:=hx.Uu e;obtain⟨t',rfl⟩:=hy.int e';have q:=bG q;exact dJ (typeIs_bytes _ _ _) FB.slot_bytes_getitem.lookup (getItem_gives (typeIs_bytes s _ t) ∅ FB.slot_bytes_getitem FB.entry_bytes_getitem (FB.args_bytes_getitem_2 _ _) (gives_bytes_getitem _ _ t t' c q.1 ((yH hc).elim λj z=>(ac (Option.bind · _) z.1).trans (List.getElem?_toArray.trans z.2))) (k _ _ (hb▸⟨_,rfl⟩)))
 ·obtain⟨t,rfl⟩:=hx.str e;obtain⟨t',rfl⟩:=hy.int e';refine dJ (typeIs_str _ _ _) F.slot_str_getitem.lookup (SB.getItem (Km q) (by rw[hc];rfl) ?_);rw[show Txt.item sx i=⟨#[c]⟩ by unfold Txt.item;rw[hc];rfl];exact k _ _ (hb▸⟨_,rfl⟩)
 ·obtain⟨t',rfl⟩:=hy.int e';exact gm (P:=λv=>wS Bs A s value slice Q E v _) hI.g e hx λc vs n h1 r1=>Dq h1 r1 q hb λa ha=>k a s.toks ha
 ·obtain⟨t',rfl⟩:=hy.int e';refine yS (P:=λv=>wS Bs A s value slice Q E v _) hI.g e hx λc vs n h1 r1=> ?_;obtain⟨j,v,h3,hv,rv⟩:=yh hb r1;have ht:IsTup s.heap c vs.toArray:=⟨_,h1,rfl,_,rfl⟩;exact dJ ht.typeIs slot_tuple_getitem.lookup (PyProof.Rows.getItem_tuple ht (lj q).1 (lj q).2 h3 hv (k _ s.toks rv))
 ·obtain⟨t',rfl⟩:=hy.str e';refine BN (P:=λv=>wS Bs A s value slice Q E v _) hI.g e hx λc es n h1 k1 r1=> ?_;have D:=cU.dictOf (prog:=Bs.prog) (w:=w) h1 k1;obtain⟨v,hv,rv⟩:=nS D.2.2 (D.2.1▸r1) hb;exact dJ D.1.typeIs slot_dict_getitem.lookup (wpAny_getItem_of (knd:=PySem.strKind Bs.prog w) (pI _ _) D.1.mapOf hv (k _ _ rv))
 ·obtain⟨t',rfl⟩:=hy.int e';refine GU (P:=λv=>wS Bs A s value slice Q E v _) hI.g e hx λc es n h1 k1 r1=> ?_;have D:=iz.dictOf (prog:=Bs.prog) (w:=w) h1 k1;obtain⟨v,hv,rv⟩:=nS D.2.2 (D.2.1▸r1) hb;exact dJ D.1.typeIs slot_dict_getitem.lookup (wpAny_getItem_of (knd:=intKind Bs.prog w) (kC _ _) D.1.mapOf hv (k _ _ rv))
 ·obtain⟨pp,t1,t2,t3,n,rfl,h0⟩:=hy.Va e';have is:=vI (prog:=Bs.prog) (w:=w) (k:=i) (hI.g.Tg _ _ h0);have hu':(tupleKind (intKind Bs.prog w)).room A.in1:=Nat.lt_of_le_of_lt (Nat.add_le_add_left (by decide:1<=8) _) (si hA);refine CQ (P:=λv=>wS Bs A s value slice Q E v _) hI.g e hx λc es m h1 k1 r1=> ?_;have D:=dD.dictOf (prog:=Bs.prog) (w:=w) hI.g.Tg h1 k1;obtain⟨q,hq,rq⟩:=vv D.2.2 (D.2.1▸r1) hb;exact dJ D.1.typeIs slot_dict_getitem.lookup (wpAny_getItem_heap hu' is D.1 hq (k _ _ rq))
end
theorem Ib{p}(h1:SE Bs X (λ_ _=>True) (wp Bs (eval e env)) ma (VR (w:=w)))(h2:SE Bs X (λ_ _=>True) (wp Bs (eval i env)) mb (VR (w:=w))):
  SE Bs X (λ_ _=>True) (wp Bs (eval (.Subscript e i p) env)) (λs=>ao (ma s) λx s=>ao (mb s) λy s=>bo s (dZ s.S9 x y)) (VR (w:=w)):=
 SE.le (SE.bind (U:=λv=>WP.bind (wp Bs (eval i env)) λu=>wp Bs (subscriptTail e i v u)) aR.true h1 λx v=>SE.bind (aR.and aR.true (aR.vr x v)) (h2.pre λ_ _ _=>trivial) λy u=>
  Gy λst b hb A G ρ s hA hI hP Q E k=>zH hA hI hb hP.1.2 hP.2 λa tk ha=>k a tk ha) λA Q E s h=>PyProof.Rows.Subscript_ h
def OR:Gm->Rm->Option Int->Value->Prop:=λ_ _ a v=>IsPart v a
theorem aR.or(a)(v):aR λG ρ=>OR G ρ a v:=λ_ _ _ _ _ _ h=>h
theorem A4:SE Bs X (λ_ _=>True) (wp Bs (evalPart none env)) (zF T gl none) OR:=SE.one λst A G ρ s hA hI hp Q E k=>bq (k _ s.toks .none)
theorem B5(h:SE Bs X (λ_ _=>True) (wp Bs (eval e env)) (aw T gl i) (VR (w:=w))):SE Bs X (λ_ _=>True) (wp Bs (evalPart (some e) env)) (zF T gl (some i)) OR:=
 SE.le (SE.bind (U:=λv A Q E s=>Q v s) aR.true h λx v=>SE.lift λst b hb A G ρ s hA hI hp Q E k=>ed hb λi e e'=>(ar.int hp.2 e).elim λt q=>k v s.toks (q▸e'▸ .int _ _)) λA Q E s h=>by rw[evalPart_some];exact h
noncomputable def di(l u:Value):Obj:={cls:= .type "slice",data:= .fields #[l,u,.none]}
noncomputable def WP.slice{w:World}(Bs:Base w)(value slice:Expr)(v l u:Value):WP Value:=λA Q E s=>wpAny (model Bs.prog w) A (subscriptTail value slice v (.ref s.heap.objs.size)) Q E {s with heap:=s.heap.push (di l u)}
theorem zx(lo hi)(h:ag w G ρ l vs):ag w G ρ (cf l lo hi) (cf vs lo hi):=by
 unfold cf;rw[h.length];exact(h.drop _).take _
section
variable {A:Around} {G:Gm} {ρ:Rm} {s:Shared} {v l u:Value} {lo hi:Option Int} {value slice:Expr} {Q E:bS} (hl:IsPart l lo) (hu:IsPart u hi)
theorem vf:(s.heap.push (di l u)).IsSliceOf s.heap.objs.size l u .none:=⟨_,dX _ rfl,rfl,rfl⟩
include hl hu
theorem AJ(q:b.length<=100000)(k: ∀a tk,ar w G ρ (.bytes (cf b lo hi)) a->Q a {s with heap:=s.heap.push (di l u),toks:=tk}):WP.slice Bs value slice (.bytes b.toArray t) l u A Q E s:=
 dJ (typeIs_bytes _ _ _) FB.slot_bytes_getitem.lookup (getItem_meets (typeIs_bytes _ _ _) ∅ FB.slot_bytes_getitem FB.entry_bytes_getitem (FB.args_bytes_getitem_2 _ _) (KBc.meets_slice2 _ t _ hl hu)
  ⟨vf,bz (KBc.size_picked_le _ _ _) (bz q ∅),λt' tk=>k _ _ ⟨t',by rw[KBc.picked_eq];simp[cf]⟩⟩)
theorem Fk(q:sx.length<=100000)(k: ∀a tk,ar w G ρ (.str (Txt.slice sx lo hi)) a->Q a {s with heap:=s.heap.push (di l u),toks:=tk}):WP.slice Bs value slice (.str sx t) l u A Q E s:=by
 refine dJ (typeIs_str _ _ _) F.slot_str_getitem.lookup ?_;have key: ∀(l u:Option (Int×Tok)),(∀a tk,ar w G ρ (.str (Txt.slice sx (l.map (·.1)) (u.map (·.1)))) a->Q a {s with heap:=s.heap.push (di (partValue l) (partValue u)),toks:=tk})->
   wpAny (model Bs.prog w) A (getItem (.str sx t) (.ref s.heap.objs.size)) Q E {s with heap:=s.heap.push (di (partValue l) (partValue u))}:=λl u k=>
  have hs:(s.heap.push (di (partValue l) (partValue u))).IsSlice s.heap.objs.size l u none:=⟨_,dX _ rfl,rfl,rfl⟩
  wpAny_getItem_str_slice (s:={s with heap:=s.heap.push (di (partValue l) (partValue u))}) hs rfl (post_val_or_str ⟨bz (Txt.slice_le _ _ _) (bz q ∅),λt' tk=>k _ tk ⟨t',rfl⟩⟩)
 cases hl<;>cases hu
 ·exact key none none k
 ·exact key none (some (_,_)) k
 ·exact key (some (_,_)) none k
 ·exact key (some (_,_)) (some (_,_)) k
end
theorem xt{x}{v l u}{lo hi}{value slice}{P:Gm->Rm->Prop}:SE Bs X (λG ρ=>((P G ρ/\VR (w:=w) G ρ x v)/\OR G ρ lo l)/\OR G ρ hi u) (WP.slice Bs value slice v l u) (λs=>bo s (vC s.S9 x lo hi)) (VR (w:=w)):=by
 refine SE.of λst q hm=>ed hm λb hb hm=>hm▸λA G ρ s hA hI hp Q E k=> ?_;have g:=hI.grow (G':=G) (h':=s.heap.push (di l u)) (lT _ _ _) (oH _ _ _) (λb o e=> .inl e) dF.rfl;refine Th hb (λbs e hb=>eV hb λq hb=> ?_) λhb=>Th hb (λsx e hb=>eV hb λq hb=> ?_) λhb=>bA hb λxs e hb=>eV hb λq hb=> ?_
 ·obtain⟨t,rfl⟩:=ar.Uu hp.1.1.2 e;exact AJ hp.1.2 hp.2 (aT q) λa tk ha=>k G ρ _ tk g.1 g.2 a (aC hb▸ha)
 ·obtain⟨t,rfl⟩:=ar.str hp.1.1.2 e;exact Fk hp.1.2 hp.2 (aT q) λa tk ha=>k G ρ _ tk g.1 g.2 a (aC hb▸ha)
 ·refine gm (P:=λv=>WP.slice Bs value slice v l u A Q E s) hI.g e hp.1.1.2 λc vs n h1 r1=> ?_;refine dJ (s:={s with heap:=s.heap.push (di l u)}) (T:= "list") ⟨_,bv _ h1,rfl⟩ slot_list_getitem.lookup ?_;refine wpAny_getItem_list_slice (s:={s with heap:=s.heap.push (di l u)}) (items:=vs.toArray) ⟨_,bv _ h1,rfl,_,rfl⟩ vf hp.1.2 hp.2 .none (λh=>nomatch h) ?_ (by rw[List.size_toArray,r1.length];exact bz (aT q) ∅);rw[show slicePick vs.toArray lo hi none=(cf vs lo hi).toArray by rw[slicePick_plain];simp[cf]];have g2:=g.1.one (o:={cls:= .type "list",data:= .seq (cf vs lo hi).toArray}) (lT _ _ _) (oH _ _ _) (bj (Nat.le_refl _)) (dX _ rfl);exact k _ _ _ s.toks g2.1 (g.2.trans g2.2) _ (aC hb▸jH (g.1.TA (Nat.le_refl _)) (zx lo hi r1))
theorem Kb{lo hi}{p q}{ma mb:St->Out (Option Int)}(h1:SE Bs X (λ_ _=>True) (wp Bs (eval e env)) m (VR (w:=w)))(h2:SE Bs X (λ_ _=>True) (wp Bs (evalPart lo env)) ma OR)
  (h3:SE Bs X (λ_ _=>True) (wp Bs (evalPart hi env)) mb OR):
  SE Bs X (λ_ _=>True) (wp Bs (eval (.Subscript e (.Slice lo hi none q) p) env)) (λs=>ao (m s) λx s=>ao (ma s) λa s=>ao (mb s) λb s=>bo s (vC s.S9 x a b)) (VR (w:=w)):=by
 refine SE.le (SE.bind (U:=λv=>WP.bind (wp Bs (evalPart lo env)) λl=>WP.bind (wp Bs (evalPart hi env)) λu=>WP.slice Bs e (.Slice lo hi none q) v l u) aR.true h1 λx v=>
  SE.bind (aR.and aR.true (aR.vr x v)) (h2.pre λ_ _ _=>trivial) λa l=>SE.bind (aR.and (aR.and aR.true (aR.vr x v)) (aR.or a l)) (h3.pre λ_ _ _=>trivial) λb u=>xt) λA Q E s h=>PyProof.Rows.Subscript_ ?_
 refine wpAny_mono h (λv s1 h1=>wpAny_Slice ?_) λ_ _ x=>x;exact wpAny_mono h1 (λl s2 h2=>wpAny_mono h2 (λu s3 h3=>bq h3) λ_ _ x=>x) λ_ _ x=>x
end
section
variable {w:World} {Bs:Base w} {X:Cx}
def Lu{K:Type}[DecidableEq K](knd:PySem.KeyKind Bs.prog w K)(ks:List K):Gm->Rm->aV->List (Value×Value)->Prop:=λG ρ as vs=>
 ∃kvs,Carries knd vs kvs/\kvs.map (·.1)=ks/\ag w G ρ as (kvs.map (·.2))
theorem AW{K:Type}[DecidableEq K]{knd:PySem.KeyKind Bs.prog w K}{p}{env}{T}{gl}:SE Bs X (λ_ _=>True) (wp Bs (evalPairs (pairTrees [] [] env p))) (br T gl []) (Lu knd []):=SE.one λst A G ρ s hA hI hp Q E k=>pairTrees_nil_walk (k _ s.toks ⟨[],trivial,rfl,rfl⟩)
theorem aR.c{p:Prop}:aR λ_ _=>p:=λ_ _ _ _ _ _ h=>h
theorem CS{K:Type}[DecidableEq K]{knd:PySem.KeyKind Bs.prog w K}{kc:K->Const}{k}{ks}{n}{kp}{ke}{p}{env}{T}{gl}{e}{es}{i}{is}
  (hk: ∀A (Q:bS) E s,(∀v tk,knd.is k v=true->Q v {s with toks:=tk})->wpAny (model Bs.prog w) A (eval (.Constant (kc k) n kp) env) Q E s)
  (h1:SE Bs X (λ_ _=>True) (wp Bs (eval e env)) (aw T gl i) (VR (w:=w))) (h2:SE Bs X (λ_ _=>True) (wp Bs (evalPairs (pairTrees ke es env p))) (br T gl is) (Lu knd ks)):
  SE Bs X (λ_ _=>True) (wp Bs (evalPairs (pairTrees (some (.Constant (kc k) n kp)::ke) (e::es) env p))) (br T gl (i::is)) (Lu knd (k::ks)):=
 SE.le (SE.bind (U:=λkv=>WP.bind (wp Bs (eval e env)) λa=>WP.bind (wp Bs (evalPairs (pairTrees ke es env p))) λvs A Q E s=>Q ((kv,a)::vs) s) (R:=λ_ _ (_:Unit) v=>knd.is k v=true) aR.true (SE.one (b:=()) λst A G ρ s hA hI hp Q E k=>hk A Q E s λv tk hv=>k v tk hv)
  λ_ kv=>SE.bind (aR.and aR.true aR.c) (h1.pre λ_ _ _=>trivial) λb a=>SE.bind (aR.and (aR.and aR.true aR.c) (aR.vr b a)) (h2.pre λ_ _ _=>trivial) λbs as=>SE.one (b:=b::bs) λst A G ρ s hA hI hp Q E kk=>
   kk _ s.toks (hp.2.elim λkvs z=>⟨(k,a)::kvs,⟨hp.1.1.2,rfl,z.1⟩,ac (k:: ·) z.2.1,a,_,rfl,hp.1.2,z.2.2⟩)) λA Q E s h=>pairTrees_cons_walk h
theorem aZ.two{G}{ρ}{st}{h}(I:aZ Bs X G ρ st h):1<h.objs.size:=Bs.two h λb o e=>I.g.Tg b o (I.g.base b o e)
theorem aH.mine{G G':Gm}{ρ ρ':Rm}{st st':St}{h h1 h2:Heap}(I:aZ Bs X G ρ st h)(l:h.get? n=none)(ho:h1.get? n=some o)
  (S:aH G ρ st.S9 h1 G' ρ' st'.S9 h2 (aG X.fr) X.Tc):h2.get? n=some o/\G' n=none/\ ¬bK ρ' st'.S9 n:=
 have f:=ix I l
 ⟨(S.keep n o ho f.2.2 f.2.1).elim λsl q=>q.1.trans (ac (λsl=>some {o with slots:=sl}) (q.2 f.1)),wh λx q=>(S.Tr n x q).elim (λz=>lg (z.symm.trans (I.none_of l))) λz=>z.elim f.2.2 (aD ho),λq=>(S.fresh n q).elim f.2.2 (aD ho)⟩
theorem ET{K:Type}[DecidableEq K]{knd:PySem.KeyKind Bs.prog w K}{mk:List K->aV->AO}{ks:List K}{keys:List (Option Expr)}{values:List Expr}{p:Pos}{env:Env}{T:Tb}{gl:Gl}{is:List IE}
  (hfp: ∀as q,fp (mk ks as) q=[q.1]) (hrep: ∀(G:Gm) ρ h (a:Addr) kvs as,(a==sysModules)=false->h.DictOf knd a kvs->kvs.map (·.1)=ks->ag w G ρ as (kvs.map (·.2))->dh w G ρ h (mk ks as) (a,0)) (hn:ks.Nodup)
  (hall:keys.all (·.isSome)=true) (hl:keys.length=values.length) (hlen:keys.length<=15) (h0:keys=[]->ks=[]/\is=[])
  (h:SE Bs X (λ_ _=>True) (wp Bs (evalPairs (pairTrees keys values env p))) (br T gl is) (Lu knd ks)):
  SE Bs X (λ_ _=>True) (wp Bs (eval (.Dict keys values p) env)) (λs=>ao (br T gl is s) λvs s=>xB (ks.length==vs.length) s (mk ks vs)) (VR (w:=w)):=by
 refine SE.of λst q hm A G ρ s hA hI hp Q E k=> ?_;have hsm:(s.heap.objs.size==sysModules)=false:=beq_eq_false_iff_ne.mpr λq=>absurd (q▸hI.two:1<sysModules) ∅;by_cases hk:keys=[]
 ·obtain⟨rfl,rfl⟩:=h0 hk;subst hk;obtain rfl:values=[]:=List.length_eq_zero_iff.mp hl.symm;obtain rfl:=aC (hm:some (Res.ok (AV.ref st.S9.length),({st with S9:=st.S9++ [mk [] []]}:St))=some q);have z:=hI.push (q:=0) (o:=mk [] []) (ob:={cls:= .type "dict",data:= .dict #[]}) (hfp _ _) (hrep _ _ _ _ [] [] hsm (Heap.DictOf.new _) rfl rfl);exact wpAny_Dict_empty (k _ _ _ s.toks z.1 z.2 _ (oO hI.g.len))
 ·have g0:=hI.grow (G':=G) (h':=s.heap.push {cls:= .type "dict",data:= .dict #[]}) (lT _ _ _) (oH _ _ _) (λb o e=> .inl e) dF.rfl;refine wpAny_Dict_walk (knd:=knd) hall hl hk hlen (bO (r:=q.1) (s':=q.2) hm (λC e e'=> ?_) λas s1 e1 e2=> ?_)
  ·exact h _ _ _ e A G ρ _ hA g0.1 hp _ _ λG' ρ' h' tk I S x hx=>(e'▸k G' ρ' h' tk I (g0.2.trans S):er _ _ (Res.exc C) _ _ _ _ _ _ _ _ _) x (hx.le g0.2.alive)
  ·refine h _ _ _ e1 A G ρ _ hA g0.1 hp _ _ λG1 ρ1 g1 T3 I1 S1 vs hvs=>eV e2 λ_ e2=> ?_;obtain⟨kvs,c1,c2,c3⟩:=hvs;have m:=S1.mine hI (bj (Nat.le_refl _)) (dX _ rfl);refine⟨kvs,c1,⟨_,#[],0,m.1,⟨rfl,rfl,rfl⟩,rfl,λ_ he=>by simp at he,.nil,List.nodup_nil⟩,λh' hd hs=> ?_⟩;rw[pc kvs [] (by rw[List.nil_append,c2];exact hn),List.nil_append] at hd;have z:=aZ.slot (p:=(s.heap.objs.size,0)) (o:=mk ks as) hI I1 (g0.2.trans S1) (h3:=h') (λb x nb e=>(hs.2 b λq=>nb (by rw[hfp,q];exact .head _)).trans e)
    (λb hb=>by rw[dt (hfp as (s.heap.objs.size,0)▸hb:b∈ [s.heap.objs.size])];exact⟨bj (Nat.le_refl _),m.2⟩) (hrep _ _ _ _ kvs as hsm hd c2 (c3.mono dF.rfl fk.app))
   obtain rfl:(Res.ok (AV.ref s1.S9.length),({s1 with S9:=s1.S9++ [mk ks as]}:St))=q:=aC e2;exact k _ _ _ _ z.1 z.2 _ (oO I1.g.len)
theorem FG(ns:(a==sysModules)=false)(d:h.DictOf (intKind prog w) a kvs)(e:kvs.map (·.1)=ks)(r:ag w G ρ as (kvs.map (·.2))):
  dh w G ρ h (.Tz ks as) (a,0):=by
 obtain⟨es,n,x,y,z⟩:=xh d ns;exact⟨es,n,x,e▸y,z▸r⟩
theorem FF(ns:(a==sysModules)=false)(d:h.DictOf (PySem.strKind prog w) a kvs)(e:kvs.map (·.1)=ks)(r:ag w G ρ as (kvs.map (·.2))):
  dh w G ρ h (.Tl ks as) (a,0):=by
 obtain⟨es,n,x,y,z⟩:=ph d ns;exact⟨es,n,x,e▸y,z▸r⟩
end
theorem q8(h)(L):(eB h L).Pairwise λp q=>p.1≠q.1:=by
 unfold eB;rw[List.pairwise_filterMap];refine List.Pairwise.imp ?_ (List.nodup_range (n:=h.objs.size));have f: ∀{a:Addr} {p:Addr×Obj},(if a=L then none else(h.get? a).map λo=>(a,o))=some p->a=p.1:=fun{a p} e=>by
  split at e
  ·exact aB e
  ·exact ed e λo _ e=>e▸rfl
 exact fun{a b} ne p hp q hq z=>ne ((f hp).trans (z.trans (f hq).symm))
theorem rD(ne:d≠L)(e:h.get? d=some o): ∃pre post,eB h L=pre++(d,o)::post/\(∀p∈pre,p.1≠d)/\ ∀p∈post,p.1≠d:=by
 obtain⟨pre,post,q⟩:=List.append_of_mem (dW.mpr ⟨ne,e⟩);have nd:=List.pairwise_append.mp (q▸q8 h L);exact⟨pre,post,q,λp hp=>nd.2.2 p hp _ (.head _),λp hp=>Ne.symm ((List.pairwise_cons.mp nd.2.1).1 p hp)⟩
theorem map_set{α κ:Type}{l:List α}{key:α->κ}{f:α->α}{i}{x a:α}(nd:(l.map key).Nodup)(h:l[i]?=some x)(hx:f x=a)(hf: ∀y,key y≠key x->f y=y):l.map f=l.set i a:=by
 refine List.ext_getElem? λj=> ?_;rw[List.getElem?_map];by_cases q:i=j
 ·subst q;rw[h,List.getElem?_set_self (ch h).1];exact ac some hx
 ·rw[List.getElem?_set_ne q];cases e:l[j]? with
  |none=>rfl
  |some y=>exact ac some (hf y λz=>q ((List.getElem?_inj ((List.length_map (f:=key)).symm▸(ch h).1) nd).mp (by rw[List.getElem?_map,List.getElem?_map,h,e];exact ac some z.symm)))
section
variable {K:Type} [DecidableEq K] [BEq K] [LawfulBEq K] {ks:List K} {l:aV} {k:K} {a:AV}
theorem kF{P:List K×aV->Prop}(h1:k∉ks->P (ks++ [k],l++ [a]))(h2: ∀i,ks[i]?=some k->P (ks,l.set i a)):P (putD ks l k a):=
 F1 (P:=P) (λe=>h1 λq=>tf ((beq_self_eq_true k).symm.trans (List.findIdx?_eq_none_iff.mp e k q))) λi e=>h2 i ((List.findIdx?_eq_some_iff_getElem.mp e).elim λl z=>(List.getElem?_eq_getElem l).trans (ac some (eq_of_beq z.1)))
theorem set_same(h:ks[i]?=some k):ks.set i k=ks:=by
 obtain⟨l,e⟩:=ch h;rw[<-e,List.set_getElem_self]
theorem w9(nd:ks.Nodup):(putD ks l k a).1.Nodup:=kF (P:=λq=>q.1.Nodup) (λh=>List.nodup_append.mpr ⟨nd,List.pairwise_singleton _ _,λx hx y hy e=>h (dt hy▸e▸hx)⟩) λ_ _=>nd
theorem zS{kvs}{i}{v}(nd:(kvs.map (·.1)).Nodup)(h:(kvs.map (·.1))[i]?=some k):PySem.stored kvs k v=kvs.set i (k,v):=by
 rw[List.getElem?_map] at h;refine ed h λx e q=> ?_;unfold PySem.stored;rw[if_pos (List.any_eq_true.mpr ⟨x,gz e,bU q⟩)];exact map_set nd e ((if_pos q).trans (ac (·,v) q)) λy ne=>if_neg (q▸ne)
theorem B4{kvs}{v}(nd:(kvs.map (·.1)).Nodup)(hl:ag w G ρ l (kvs.map (·.2)))(hv:ar w G ρ a v):
  (PySem.stored kvs k v).map (·.1)=(putD (kvs.map (·.1)) l k a).1/\ag w G ρ (putD (kvs.map (·.1)) l k a).2 ((PySem.stored kvs k v).map (·.2)):=
 kF (P:=λq=>(PySem.stored kvs k v).map (·.1)=q.1/\ag w G ρ q.2 ((PySem.stored kvs k v).map (·.2))) (λh=>by rw[stored_new h,List.map_append,List.map_append];exact⟨rfl,hl.append (.one hv)⟩)
  λi h=>by rw[zS nd h,List.map_set,List.map_set];exact⟨set_same h,hl.set i hv⟩
end
theorem wP{xs}{k}{p}{v}{i}{x:List Int×Addr×Value}(nd:(xs.map (·.1)).Nodup)(h:xs[i]?=some x)(q:x.1=k):storedH xs k p v=xs.set i (x.1,x.2.1,v):=by
 unfold storedH;have z:(atKey xs k).isSome=true:=by
  unfold atKey;rw[Option.isSome_map,List.find?_isSome];exact⟨x,gz h,bU q⟩
 rw[if_pos z];exact map_set nd h (if_pos q) λy ne=>if_neg (q▸ne)
theorem storedH_new{xs:List (List Int×Addr×Value)}{k:List Int}{p:Addr}{v:Value}(h:k∉xs.map (·.1)):storedH xs k p v=xs++ [(k,p,v)]:=by
 unfold storedH;refine if_neg λz=> ?_;unfold atKey at z;rw[Option.isSome_map,List.find?_isSome] at z;exact z.elim λx z=>h (List.mem_map.mpr ⟨x,z.1,aT z.2⟩)
section
variable {K:Type} {R:K->Value->Prop} {hs:K->Int} {ks:List K}
theorem hM.app(h1:R k e.key)(h2:e.hash=hs k): ∀{es},hM R hs ks es->hM R hs (ks++ [k]) (es++ [e]):=by
 induction ks with
 |nil=>
  intro es h;obtain rfl:es=[]:=h;exact⟨e,[],rfl,h1,h2,rfl⟩
 |cons x ks ih=>exact λh=>h.imp λe' h=>h.elim λr h=>⟨r++ [e],h.1▸rfl,h.2.1,h.2.2.1,ih h.2.2.2⟩
theorem hM.set: ∀{es:List DictEntry} {i:Nat},hM R hs ks es->es[i]?=some e->hM R hs ks (es.set i {e with val:=v}):=by
 induction ks with
 |nil=>exact λh e=>aB ((h:_=_)▸e)
 |cons x ks ih=>
  intro es i h q;obtain⟨e',r,rfl,h1,h2,h⟩:=h;cases i with
  |zero=>exact aC q▸⟨_,r,rfl,h1,h2,h⟩
  |succ i=>exact⟨e',_,rfl,h1,h2,ih h q⟩
end
theorem xE: ∀{es:List DictEntry},gA G ks es->(f8 ks es).map (entryOfKey (tupleKind (intKind prog w)))=es:=by
 induction ks with
 |nil=>exact λh=>(h:_=_).symm▸rfl
 |cons x ks ih=>
  intro es h;obtain⟨⟨eh',ek',ev⟩,r,rfl,⟨q,u1,u2,u3,m,ek,eg⟩,eh,h⟩:=h;obtain rfl:eh'=mf x:=eh;obtain rfl:ek'= .ref q:=ek;exact ac _ (ih h)
theorem Ec{prog}{k:Int×Int×Int}{p}{t1 t2 t3}{n:Nat}{ks}{es}{l}{a}{v}(hp:G p=some {cls:= .type "tuple",data:= .seq #[.int k.1 t1,.int k.2.1 t2,.int k.2.2 t3] n})(hv:ar w G ρ a v)
  (h:gA G ks es) (nd:ks.Nodup) (hk:(f8 ks es).map (·.1)=ks.map λk=>[k.1,k.2.1,k.2.2]) (hl:ag w G ρ l (es.map (·.val))):
  gA G (putD ks l k a).1 ((storedH (f8 ks es) [k.1,k.2.1,k.2.2] p v).map (entryOfKey (tupleKind (intKind prog w))))/\
   ag w G ρ (putD ks l k a).2 (((storedH (f8 ks es) [k.1,k.2.1,k.2.2] p v).map (entryOfKey (tupleKind (intKind prog w)))).map (·.val)):=by
 have tb:=xE (w:=w) (prog:=prog) h;refine kF (P:=λq=>gA G q.1 ((storedH (f8 ks es) [k.1,k.2.1,k.2.2] p v).map (entryOfKey (tupleKind (intKind prog w))))/\ag w G ρ q.2 (((storedH (f8 ks es) [k.1,k.2.1,k.2.2] p v).map (entryOfKey (tupleKind (intKind prog w)))).map (·.val))) (λhn=> ?_) λi hi=> ?_
 ·rw[storedH_new (by rw[hk];exact λz=>(List.mem_map.mp z).elim λy z=>hn (f5 z.2▸z.1)),List.map_append,List.map_append,tb];exact⟨hM.app (hs:=mf) (e:=entryOfKey (tupleKind (intKind prog w)) ([k.1,k.2.1,k.2.2],p,v)) ⟨p,t1,t2,t3,n,rfl,hp⟩ rfl h,hl.append (.one hv)⟩
 ·have z:(f8 ks es).map (·.1)=_:=hk;have e:((f8 ks es).map (·.1))[i]?=some [k.1,k.2.1,k.2.2]:=by rw[hk,List.getElem?_map,hi];rfl
  rw[List.getElem?_map] at e;refine ed e λx ex qx=> ?_;have y:es[i]?=some (entryOfKey (tupleKind (intKind prog w)) x):=by rw[<-tb,List.getElem?_map,ex];rfl
  rw[wP (by rw[hk];exact List.pairwise_map.mpr (nd.imp λne e=>ne (f5 e))) ex qx,List.map_set,List.map_set,tb];exact⟨hM.set (hs:=mf) (e:=entryOfKey (tupleKind (intKind prog w)) x) h y,hl.set i hv⟩
section
variable {w:World} {Bs:Base w} {X:Cx}
theorem aZ.Um{G}{ρ}{st}{h h'}{k}{p:Addr×Addr}{o o'}(hI:aZ Bs X G ρ st h)(hp:ρ[k]?=some p)(ho:st.S9[k]?=some o)(hs:Heap.SameBut p.1 h h')(hfp:fp o p=[p.1])(Vm:fp o' p=[p.1])
  (ha: ∃y,h'.get? p.1=some y) (rep:dh w G ρ h' o' p):aZ Bs X G ρ {st with S9:=st.S9.set k o'} h'/\aH G ρ st.S9 h G ρ (st.S9.set k o') h' (aG X.fr) X.Tc:=by
 have i1:p.1∈fp o p:=hfp▸ .head _;have ne:X.env.locals≠p.1:=λq=>(hI.p X.env.locals (.inl (.head _))).2.1 ⟨k,p,o,hp,ho,q▸i1⟩;exact hI.upd hp ho (λb x _ nb e=>(hs.2 b λq=>nb (q▸i1)).trans e) (λm hm=>hm.imp λx z=>z.imp λes z=>z.imp λep z=>⟨(hs.2 _ ne).trans z.1,z.2⟩) (λb hb=>hfp.symm▸Vm▸hb) (λb hb=>by rw[dt (hfp▸hb:b∈ [p.1])];exact ha) rep
theorem slot_of{G}{ρ}{st}{h}(hI:aZ Bs X G ρ st h){k}{v}{o}(hx:ar w G ρ (.ref k) v)(ho:st.S9[k]?=some o): ∃p,ρ[k]?=some p/\v= .ref p.1/\dh w G ρ h o p:=hx.imp λp z=>⟨z.1,z.2,hI.g.rep k p o z.1 ho⟩
theorem tt{A}{G}{ρ}{st}{s}(hI:aZ Bs X G ρ st s.heap){k}{l}{a}{v u}(hx:ar w G ρ (.ref k) u)(ho:st.S9[k]?=some (.lst l))(hz:l.length<=100000)(hv:ar w G ρ a v)
  {Q:bS} {E:bS} (K: ∀h',aZ Bs X G ρ {st with S9:=st.S9.set k (.lst (l++ [a]))} h'->aH G ρ st.S9 s.heap G ρ (st.S9.set k (.lst (l++ [a]))) h' (aG X.fr) X.Tc->Q .none {s with heap:=h'}):
  wpAny (model Bs.prog w) A (call (.builtin "list.append") [u,v]) Q E s:=by
 obtain⟨p,hp,rfl,vs,n,h1,r1⟩:=slot_of hI hx ho;refine wpAny_list_append_plain (items:=vs.toArray) ⟨n,h1⟩ (λh' hl hs=>hl.elim λn' hl=> ?_) (by rw[List.size_toArray,r1.length];exact bz hz ∅);rw[show vs.toArray.push v=(vs++ [v]).toArray by simp] at hl;have z:=hI.Um (o':= .lst (l++ [a])) hp ho hs rfl rfl ⟨_,hl⟩ ⟨vs++ [v],n',hl,r1.append (.one hv)⟩;exact K h' z.1 z.2
theorem s7{A}{G}{ρ}{st}{s}(hI:aZ Bs X G ρ st s.heap){k}{l l'}{a}{v u}(hx:ar w G ρ (.ref k) u)(ho:st.S9[k]?=some (.lst l))(hz:l.length+l'.length<=100000)(hv:ar w G ρ a v)(hl':view st.S9 a= .lst l')
  {Q:bS} {E:bS} (K: ∀h',aZ Bs X G ρ {st with S9:=st.S9.set k (.lst (l++l'))} h'->aH G ρ st.S9 s.heap G ρ (st.S9.set k (.lst (l++l'))) h' (aG X.fr) X.Tc->Q .none {s with heap:=h'}):
  wpAny (model Bs.prog w) A (call (.builtin "list.extend") [u,v]) Q E s:=by
 obtain⟨p,hp,rfl,vs,n,h1,r1⟩:=slot_of hI hx ho;obtain⟨c,rfl,ws,n2,h2,r2⟩:=ip hI.g hl' (λh=>nomatch h) hv;have z:vs.toArray.size+ws.toArray.size<=sizeLine:=by rw[List.size_toArray,List.size_toArray,r1.length,r2.length];exact bz hz ∅
 refine call_meets F.slot_list_extend ⟨_,h1,rfl⟩ F.entry_list_extend (F.args_list_extend_2 _ _) (AutoSeq1.list_extend_list_list_0 p.1 vs.toArray n c ws.toArray n2 (extend_door z) (by omega) (Nat.le_succ_of_le z)) ⟨h1,h2,?_⟩;have e0:vs.toArray++ws.toArray=(vs++ws).toArray:=by simp
 have e:Obj.mapSeq (λx=>x++ws.toArray) {cls:= .type "list",data:= .seq vs.toArray n}={cls:= .type "list",data:= .seq (vs.toArray++ws.toArray) (if(vs.toArray++ws.toArray).size==vs.toArray.size then n else n+1)}:=rfl;rw[e0] at e;have g:=Heap.get?_update_self (Obj.mapSeq λx=>x++ws.toArray) h1 (by rw[e];rfl);rw[e] at g;obtain⟨I',S⟩:=hI.Um (o':= .lst (l++l')) hp ho (Heap.SameBut.update ..) rfl rfl ⟨_,g⟩ ⟨vs++ws,_,g,r1.append r2⟩;exact K _ I' S
section
variable {A:Around} {G:Gm} {ρ:Rm} {st:St} {s:Shared} (hI:aZ Bs X G ρ st s.heap) {y a:AV} {i v:Value} {k:Nat} {p:Addr×Addr} {o':AO} {Q:Unit->Shared->Prop} {E:bS} (hp:ρ[k]?=some p) (hv:ar w G ρ a v) (K: ∀h' tk,aZ Bs X G ρ {st with S9:=st.S9.set k o'} h'->aH G ρ st.S9 s.heap G ρ (st.S9.set k o') h' (aG X.fr) X.Tc->Q () {s with heap:=h',toks:=tk})
include hI hp hv K
theorem EJ{l}{j:Int}{t}(hk:st.S9[k]?=some (.lst l))(r:tV s.heap p.1 (ag w G ρ l))(q:(decide (0<=j)&&decide (j<l.length)&&decide (l.length<=100000))=true)(ho: .lst (l.set j.toNat a)=o'):wpAny (model Bs.prog w) A (setItem (.ref p.1) (.int j t) v) Q E s:=by
 obtain⟨vs,n,h1,r1⟩:=r;simp only[Bool.and_eq_true,decide_eq_true_eq] at q;refine ki_setAt (items:=vs.toArray) h1 q.1.1 (by omega) (by rw[List.size_toArray,r1.length];exact q.1.2) ?_;have e0:vs.toArray.setIfInBounds j.toNat v=(vs.set j.toNat v).toArray:=Array.toList_inj.mp (by simp);have g:=Heap.get?_update_self (Obj.mapSeq (·.setIfInBounds j.toNat v)) h1 rfl;rw[show Obj.mapSeq (·.setIfInBounds j.toNat v) {cls:= .type "list",data:= .seq vs.toArray n}={cls:= .type "list",data:= .seq (vs.toArray.setIfInBounds j.toNat v) (if(vs.toArray.setIfInBounds j.toNat v).size==vs.toArray.size then n else n+1)} from rfl,e0] at g;subst ho;have z:=hI.Um (o':= .lst (l.set j.toNat a)) hp hk (Heap.SameBut.update ..) rfl rfl ⟨_,g⟩ ⟨_,_,g,r1.set _ hv⟩;exact K _ s.toks z.1 z.2
theorem Fq{ks}{l}{x}{t}(hk:st.S9[k]?=some (.Tl ks l))(r:fq s.heap p.1 (iO w p.1 ks) (ag w G ρ l))(q:l.length<=100000)(ho: .Tl (putD ks l x a).1 (putD ks l x a).2=o'):wpAny (model Bs.prog w) A (setItem (.ref p.1) (.str x t) v) Q E s:=by
 obtain⟨es,n,h1,k1,r1⟩:=r;obtain⟨D,D1,D2⟩:=cU.dictOf (prog:=Bs.prog) (w:=w) h1 k1;refine wpAny_setItem_pairs (knd:=PySem.strKind Bs.prog w) (pI _ _) D (λh' hd hs=> ?_) (by rw[<-List.length_map (f:=λx:Str×Value=>x.2),D1,r1.length];exact bz q ∅);obtain⟨e1,e2⟩:=B4 (k:=x) (v:=v) (a:=a) (D2.symm▸k1.2.1) (D1▸r1) hv;rw[D2] at e1 e2;obtain⟨es',n',x1,x2,x3⟩:=ph hd k1.2.2;subst ho;have z:=hI.Um (o':= .Tl (putD ks l x a).1 (putD ks l x a).2) hp hk hs rfl rfl ⟨_,x1⟩ ⟨es',n',x1,e1▸x2,x3▸e2⟩;exact K h' _ z.1 z.2
theorem GC{ks}{l}{x:Int×Int×Int}{c}{t1 t2 t3}{m}(hu:A.units+8<cLine)(h0:G c=some {cls:= .type "tuple",data:= .seq #[.int x.1 t1,.int x.2.1 t2,.int x.2.2 t3] m})(hk:st.S9[k]?=some (.dct ks l))(r:fq s.heap p.1 (dD p.1 G ks) (ag w G ρ l))(q:l.length<=100000)
  (ho: .dct (putD ks l x a).1 (putD ks l x a).2=o'):wpAny (model Bs.prog w) A (setItem (.ref p.1) (.ref c) v) Q E s:=by
 obtain⟨es,n,h1,k1,r1⟩:=r;have is:=vI (prog:=Bs.prog) (w:=w) (k:=x) (hI.g.Tg _ _ h0);have hu':(tupleKind (intKind Bs.prog w)).room A.in1:=Nat.lt_of_le_of_lt (Nat.add_le_add_left (by decide:1<=8) _) hu;obtain⟨D,D1,D2⟩:=dD.dictOf (prog:=Bs.prog) (w:=w) hI.g.Tg h1 k1;refine wpAny_setItem_heap hu' is D (λh' hd hs=> ?_) (by rw[<-List.length_map (f:=λx:List Int×Addr×Value=>x.2.2),D1,r1.length];exact bz q ∅);obtain⟨o,es',n',ho',⟨c1,c2,c3⟩,hdat,hes,_,_⟩:=hd;obtain⟨q1,q2⟩:=Ec (w:=w) (prog:=Bs.prog) (k:=x) h0 hv k1.1 k1.2.1 D2 r1;have g:h'.get? p.1=some (dictOf es'.toList n'):=by
  obtain⟨oc,od,UL,os⟩:=o;rw[ho',show oc=_ from c1,show od=_ from c2,show os=_ from c3,show UL=_ from hdat]
 rw[<-hes] at q1 q2;subst ho;have z:=hI.Um (o':= .dct (putD ks l x a).1 (putD ks l x a).2) hp hk hs rfl rfl ⟨_,g⟩ ⟨es'.toList,n',g,⟨q1,w9 k1.2.1,k1.2.2⟩,q2⟩;exact K h' _ z.1 z.2
end
theorem j2{A}{G}{ρ}{st}{s}(hA:lN X.lvl X.fr A)(hI:aZ Bs X G ρ st s.heap){x y a}{u i v}{k:Nat}{o'}(T7:Nl st.S9 x y a=some (k,o'))(hx:ar w G ρ x u)(hy:ar w G ρ y i)(hv:ar w G ρ a v)
  {Q:Unit->Shared->Prop} {E:bS} (K: ∀h' tk,aZ Bs X G ρ {st with S9:=st.S9.set k o'} h'->aH G ρ st.S9 s.heap G ρ (st.S9.set k o') h' (aG X.fr) X.Tc->Q () {s with heap:=h',toks:=tk}):
  wpAny (model Bs.prog w) A (setItem u i v) Q E s:=by
 refine bA T7 λk' e1 h1=>bA h1 λo hk h2=>ed h2 λo1 h e=> ?_;clear T7 h1 h2;obtain⟨rfl,rfl⟩:=Prod.mk.inj e;obtain⟨p,hp,rfl,hr⟩:=slot_of hI (nx e1▸hx) hk;refine Th h (λl e h=>bA h λj e' h=>eV h λq h=> ?_) λh=>Th h (λd e h=>bA h λj e' h=>eV h λq h=> ?_) λh=>bA h λd e h=>bA h λj e' h=>eV h λq h=> ?_
 ·obtain⟨t,rfl⟩:=hy.int e';exact EJ hI hp hv K (CM e▸hk) (CM e▸hr:dh w G ρ s.heap (.lst l) p) q (aC h)
 ·obtain⟨t,rfl⟩:=hy.str e';exact Fq hI hp hv K (os_eq e▸hk) (os_eq e▸hr:dh w G ρ s.heap (.Tl d.1 d.2) p) (aT q) (aC h)
 ·obtain⟨c,t1,t2,t3,m,rfl,h0⟩:=hy.Va e';exact GC hI hp hv K (si hA) h0 (GT e▸hk) (GT e▸hr:dh w G ρ s.heap (.dct d.1 d.2) p) (aT q) (aC h)
theorem rR: ∀{es:List DictEntry},cU w ks es->es.any (·.refKey)=false:=by
 induction ks with
 |nil=>exact λh=>(h:_=_)▸rfl
 |cons x ks ih=>
  rintro es ⟨e,r,rfl,⟨t,ek⟩,_,h⟩
  rw[List.any_cons,ih h,show e.refKey=false by unfold DictEntry.refKey;rw[ek]];rfl
theorem zO(h:cU w ks es)(n):(getL n es).isSome=true:=by
 unfold getL;rw[rR h];cases es.find? (·.key.isStr n)<;>rfl
theorem B1{p:Prop}(h:n5 (x::ks) l n a=some l')(k0:l=[]->x=n->l'=[a]->p)(k1: ∀b t,l=b::t->x=n->l'=a::t->p)(k2: ∀b t r,l=b::t->x≠n->n5 ks t n a=some r->l'=b::r->p):p:=by
 cases l with
 |nil=>exact eV h λq e=>k0 rfl (eq_of_beq q) (aC e).symm
 |cons b t=>
  cases q:x==n with
  |true=>exact k1 b t rfl (eq_of_beq q) (aC ((ac (cond · (some (a::t)) ((n5 ks t n a).map (b:: ·))) q).symm.trans h)).symm
  |false=>exact ed ((ac (cond · (some (a::t)) ((n5 ks t n a).map (b:: ·))) q).symm.trans h) λr e e'=>k2 b t r rfl (beq_eq_false_iff_ne.mp q) e e'.symm
theorem CN: ∀{l l':aV},l.length<=ks.length->n5 ks l n a=some l'->n∈ks/\l'.length<=ks.length:=by
 induction ks with
 |nil=>exact λ_ h=>aB h
 |cons x ks ih=>exact λhl h=>B1 h (λ_ e e'=>⟨e▸ .head _,e'▸Nat.succ_le_succ (Nat.zero_le _)⟩) (λb t e q e'=>⟨q▸ .head _,e'▸(e▸hl:(b::t).length<=_)⟩) λb t r e _ h e'=>(ih (Nat.le_of_succ_le_succ (e▸hl:(b::t).length<=(x::ks).length)) h).imp (.tail _) λz=>e'▸Nat.succ_le_succ z
theorem wC: ∀{es:List DictEntry},cU w ks es->es.length=ks.length:=by
 induction ks with
 |nil=>exact λh=>(h:_=_)▸rfl
 |cons x ks ih=>rintro es ⟨e,r,rfl,_,_,h⟩;exact ac Nat.succ (ih h)
theorem CE{t}(hv:ar w G ρ a v)(hn:n<55): ∀{l l':aV} {es:List DictEntry},(∀k∈ks,k<55)->n5 ks l n a=some l'->
  cU w ((ks.take l.length).map λi=>AN.getD i Str.empty) es->ag w G ρ l (es.map (·.val))->
  cU w ((ks.take l'.length).map λi=>AN.getD i Str.empty) (putL (AN.getD n Str.empty) (PyData.keyHash w.params (AN.getD n Str.empty)) (.str (AN.getD n Str.empty) t) v es)/\
   ag w G ρ l' ((putL (AN.getD n Str.empty) (PyData.keyHash w.params (AN.getD n Str.empty)) (.str (AN.getD n Str.empty) t) v es).map (·.val)):=by
 induction ks with
 |nil=>exact λ_ h=>aB h
 |cons k ks ih=>
  intro l l' es hk h hs hl;refine B1 h (λe q e'=> ?_) (λb l e q e'=> ?_) λb l r e q h' e'=> ?_<;>subst e<;>subst e'
  ·subst q;obtain rfl:es=[]:=hs;exact⟨⟨_,_,rfl,⟨t,rfl⟩,rfl,rfl⟩,.one hv⟩
  all_goals
   obtain⟨e,r,rfl,⟨t',ek⟩,eh,hs⟩:=hs;obtain⟨u,r',eu,h1,h2⟩:=hl;obtain⟨rfl,rfl⟩:=List.cons.inj eu
  ·subst q;simp only[putL,show e.key.isStr (AN.getD k Str.empty)=true by rw[ek];exact beq_self_eq_true (AN.getD k Str.empty),if_true];exact⟨⟨_,_,rfl,⟨t',ek⟩,eh,hs⟩,⟨v,_,rfl,hv,h2⟩⟩
  ·have z:=ih (λk hk'=>hk k (.tail _ hk')) h' hs h2;simp only[putL,show e.key.isStr (AN.getD n Str.empty)=false by rw[ek];exact beq_eq_false_iff_ne.mpr λz=>q (xk (hk k (.head _)) hn z),Bool.false_eq_true,if_false];exact⟨⟨_,_,rfl,⟨t',ek⟩,eh,z.1⟩,⟨e.val,_,rfl,h1,z.2⟩⟩
theorem D6(C):(lay C).length<=18:=by
 unfold lay;cases e:wm.find? (·.1==C) with
 |none=>exact Nat.zero_le _
 |some x=>exact(by decide+kernel: ∀x∈wm,x.2.length<=18) x (List.mem_of_find?_eq_some e)
theorem rb{A}{G}{ρ}{st}{s}(hI:aZ Bs X G ρ st s.heap){k n}{C}{l l'}{a}{u v}(hx:ar w G ρ (.ref k) u)(hk:st.S9[k]?=some (.obj C l))(T7:n5 (lay C) l n a=some l')(hv:ar w G ρ a v)
  {Q:Unit->Shared->Prop} {E:bS} (K: ∀h' tk,aZ Bs X G ρ {st with S9:=st.S9.set k (.obj C l')} h'->aH G ρ st.S9 s.heap G ρ (st.S9.set k (.obj C l')) h' (aG X.fr) X.Tc->Q () {s with heap:=h',toks:=tk}):
  wpAny (model Bs.prog w) A (setAttr u (AN.getD n Str.empty) v) Q E s:=by
 obtain⟨p,hp,rfl,h0,ne,es,m,h1,k1,r1⟩:=slot_of hI hx hk;have ll:l.length<=(lay C).length:=by
  have z:=wC k1;rw[AB,List.length_map,List.length_take,<-List.length_map (f:=λx:DictEntry=>x.val),r1.length] at z;omega
 obtain⟨hn,hlen⟩:=CN ll T7;obtain⟨a1,a2,a3,a4,a5,_⟩:=Bs.attr C n hn;have I:InstAt s.heap p.1 {cls:= .ref C,dict:=some p.2} C (some (dictOf es m)):=⟨h0,rfl,rfl,h1⟩;have hL:=hI.p X.env.locals (.inl (.head _));have n1:p.1≠X.env.locals:=λq=>hL.2.1 ⟨k,p,_,hp,hk,q▸ .head _⟩;have n2:p.2≠X.env.locals:=λq=>hL.2.1 ⟨k,p,_,hp,hk,q▸ .tail _ (.head _)⟩;obtain⟨pre,post,e1,e2,e3⟩:=rD n2 h1;obtain⟨mm,hm,_⟩:=hI.l;have N:=eG s.heap X.env.locals;rw[e1] at N;obtain⟨q1,q2⟩:=CE (t:=s.toks+1) hv (qI hn) (λk hk=>qI hk) T7 k1 r1;have hz:(putL (AN.getD n Str.empty) (PyData.keyHash w.params (AN.getD n Str.empty)) (.str (AN.getD n Str.empty) (s.toks+1)) v es).length<=1000:=by
  rw[<-List.length_map (f:=λx:DictEntry=>x.val),q2.length];exact bz hlen (bz (D6 C) ∅)
 refine set_plain hI.Ur I a3 (osa_dict (s:={s with toks:=s.toks+1}) (gB hm) N hI.Ur I rfl a4 a5 a2 (zO k1 _) e2 e3 (putName_dict ..) rfl hz λh' F' N'=> ?_);have keep: ∀b x,b≠X.env.locals->b≠p.2->s.heap.get? b=some x->h'.get? b=some x:=λb x b1 b2 e=>
  (N' (b,x) (List.mem_append.mpr ((List.mem_append.mp (e1▸dW.mpr ⟨b1,e⟩:(b,x)∈pre++(p.2,dictOf es m)::post)).imp id λz=>(cW z).elim (λz=>absurd (ac Prod.fst z) b2) (.tail _)))).1
 have g2:=(N' (p.2,_) (List.mem_append_right _ (.head _))).1;have g1:=keep p.1 _ n1 ne h0;have z:=hI.upd (o':= .obj C l') (h':=h') hp hk (λb x b1 b2 e=>keep b x b1 (λq=>b2 (q▸ .tail _ (.head _))) e) (my hm F'.ns) (λb hb=>hb)
  (λb hb=>(cW hb).elim (λq=>q▸⟨_,g1⟩) λhb=>dt hb▸⟨_,g2⟩) ⟨g1,ne,_,_,g2,q1,q2⟩
 exact K h' _ z.1 z.2
end
theorem Dj:typeLookup (.type "bytes") "__bytes__" =pure (some (.builtin "bytes.__bytes__")):=by rw[typeLookup_type,builtinLookup_eq_fast];kernel_rfl
theorem Aw{prog}{w}{A}{E:bS}(hQ:Q (.bytes b t) s):
  codeAny (model prog w) A (.call (.builtin "bytes.__new__") ⟨[.type "bytes",.bytes b t],[]⟩) (wants Q E) s:=by
 refine codeAny_of_tree ?_;show wpAny _ A.in1 (do checkBuiltinCall "bytes.__new__" ⟨[.type "bytes",.bytes b t],[]⟩;again (.builtin "bytes.__new__" ⟨[.type "bytes",.bytes b t],[]⟩)) _ _ s;refine am (wpAny_of_eq (F.bm_newCall _) (bq ⟨plainId_quiet F.bm_plain _,codeAny_builtin F.bm_entry ?_⟩));rw[Around.under_plainId F.bm_plain _];have hT:s.TypeIs (.bytes b t) "bytes" :=typeIs_bytes _ _ _;unfold Builtin.«bytes.__new__»;refine am (wpAny_of_eq (a:=true) rfl ?_);refine bm_if_false rfl ?_;refine am (wpAny_of_eq F.bm_sub ?_);refine bm_if_false rfl ?_;refine am (wpAny_of_eq (F.bm_bind _) ?_);refine am (wpAny_of_eq (a:=()) rfl ?_);refine am (wpAny_of_eq (a:=()) rfl ?_);refine bm_if_false rfl ?_;refine am (wpAny_specialOf hT Dj ?_);refine am (wpAny_rule ?_);refine am (wpAny_typeOf hT ?_);refine bm_if_true ∅ ?_;exact bq hQ
theorem nn{prog}{w}{A}{E:bS}(hQ:Q (.bytes b t) s):
  wpAny (model prog w) A (call (.type "bytes") [.bytes b t]) Q E s:=by
 refine callType_codes (Q₁:=λobj s₁=>s₁.TypeIs obj "bytes" /\Q obj s₁) F.bm_called (F.bm_typeCall _) F.entry_object_init (Aw ⟨typeIs_bytes _ _ _,hQ⟩) λobj s₁ h₁=> ?_;exact⟨h₁.1,F.args_object_init_2 obj _,object_init_meets F.bm_called.init.lookup F.bm_called.made ∅ prog w A.in1 _ s₁ ⟨h₁.1,rfl,h₁.2⟩⟩
noncomputable def BH:OU->Value
 | .len=> .builtin "len"
 | .int=> .type "int"
 | .str=> .type "str"
 | .bytes=> .type "bytes"
 | .tuple=> .type "tuple"
 | .list=> .type "list"
 | .any=> .builtin "any"
 | .sorted=> .builtin "sorted"
 | .min=> .builtin "min"
 | .abs=> .builtin "abs"
 | .sum=> .builtin "sum"
section
variable {w:World} {Bs:Base w} {X:Cx}
theorem zC(h:boolsOf l=some ns):ag w G ρ l vs->LSm.BoolsAre vs ns:=
 xu (g:=AV.b) (f:=boolsOf) rfl (λ_ _=>rfl) .nil (λ_ k _ _ _ e h x=>(qN e▸h:ar _ _ _ (.bool k) _)▸ .cons _ x) l h
theorem ag.sz(r:ag w G ρ l ws)(q:l.length<=n)(h:n<=m):(List.toArray ws).size<=m:=bz (Nat.le_of_eq r.length) (bz q h)
theorem ag.VM(r:ag w G ρ l ws)(q:l.length<=100000):((List.toArray ws).size:Int)<2 ^ 63:=Int.ofNat_lt.mpr (Nat.lt_of_le_of_lt (r.sz q (Nat.le_refl _)) ∅)
theorem xo{h h':Heap}(hk: ∀b o,h.get? b=some o->h'.get? b=some o): ∀m,h.Ns L m->h'.Ns L m:=λm x=>x.imp λx z=>z.imp λes z=>z.imp λep z=>⟨hk _ _ z.1,z.2⟩
theorem aZ.ext{G:Gm}{ρ:Rm}{st:St}{h h':Heap}(hI:aZ Bs X G ρ st h)(hk: ∀b o,h.get? b=some o->h'.get? b=some o):aZ Bs X G ρ st h'/\aH G ρ st.S9 h G ρ st.S9 h' (aG X.fr) X.Tc:=
 hI.grow (λb o _ e=>hk b o e) (xo hk) (λb o e=> .inl e) dF.rfl
theorem aZ.UB{G:Gm}{ρ:Rm}{st:St}{h h':Heap}{n:Addr}{o:Obj}(hI:aZ Bs X G ρ st h)(hk: ∀b o,h.get? b=some o->h'.get? b=some o)(h0:h.get? n=none)(hn:h'.get? n=some o):aZ Bs X (f6 G n o) ρ st h'/\aH G ρ st.S9 h (f6 G n o) ρ st.S9 h' (aG X.fr) X.Tc:=
 hI.one (λb o _ e=>hk b o e) (xo hk) h0 hn
theorem aZ.news{G}{ρ}{st}{h h'}{m:Str->Option Value}(hI:aZ Bs X G ρ st h)(hm:h.Ns X.env.locals m)(F:Fr jt X.env.locals h' m)(N:News jt X.env.locals h' (eB h X.env.locals)):aZ Bs X G ρ st h'/\aH G ρ st.S9 h G ρ st.S9 h' (aG X.fr) X.Tc:=
 hI.grow (fu (more:=[]) N) (my hm F.ns) (λb o e=> .inl e) dF.rfl
theorem CI{vs:List Value}{ns:List Int}(h:IntsAre vs ns):ag w G ρ (ns.map .int) vs:=by
 induction h with
 |nil=>rfl
 |cons n t r ih=>exact⟨_,_,rfl,⟨t,rfl⟩,ih⟩
theorem wz{ns}{a b:Int}(hp:ns.Perm [a,b])(hs:ns.Pairwise (· <= ·)):ns=if b<a then[b,a] else[a,b]:=by
 have go: ∀{x y:Int},ns.Perm [x,y]->x<=y->ns=[x,y]:=λhp h=>List.Perm.eq_of_pairwise (λ_ _ _ _=>Int.le_antisymm) hs (List.pairwise_pair.mpr h) hp;split
 ·exact go (hp.trans (.swap _ _ _)) (Int.le_of_lt (by assumption))
 ·exact go hp (Int.not_lt.mp (by assumption))
section
variable {A:Around} {G:Gm} {ρ:Rm} {st:St} {s:Shared} (hA:lN X.lvl X.fr A) (hI:aZ Bs X G ρ st s.heap) {as:aV} {a:AV} {vs:List Value} {Q E:bS} {x:AV} {v:Value} {l:aV}
def KG(Bs:Base w)(X:Cx)(G:Gm)(ρ:Rm)(st:St)(s:Shared)(a:AV)(Q:bS):Prop:= ∀G' h' tk v,aZ Bs X G' ρ st h'->aH G ρ st.S9 s.heap G' ρ st.S9 h' (aG X.fr) X.Tc->ar w G' ρ a v->Q v {s with heap:=h',toks:=tk}
abbrev CG(Bs:Base w)(A:Around)(s:Shared)(f:Value)(Q E:bS)(vs:List Value):Prop:=wpAny (model Bs.prog w) A (call f vs) Q E s
abbrev C1(Bs:Base w)(A:Around)(s:Shared)(f:Value)(Q E:bS)(v:Value):Prop:=CG Bs A s f Q E [v]
variable (K:KG Bs X G ρ st s a Q)
include hI K
theorem KG.same(e:some b=some a)(h:ar w G ρ b v)(tk:Tok):Q v {s with toks:=tk}:=K G s.heap tk v hI aH.rfl (aC e▸h)
theorem EA(hb:cL st.S9 .len as=some a)(hv:ag w G ρ as vs):CG Bs A s (.builtin "len") Q E vs:=
 ut hb λx e hb=>ag.r1 (P:=CG Bs A s (.builtin "len") Q E) (e▸hv) λv hx=>Th hb (λb e hb=>ml hb λq hb=>(hx.Uu e).elim λt z=>z▸PySem.W.len_bytes (bz q ∅) (KG.same hI K hb ⟨_,rfl⟩ _))
  λhb=>Th hb (λl e hb=>ml hb λq hb=>gm (P:=C1 Bs A s (.builtin "len") Q E) hI.g e hx λc ws n h1 r1=>call_len_list ⟨_,h1,rfl,_,rfl⟩ (r1.VM q) (KG.same hI K hb ⟨_,ac (λn=>Value.int (Int.ofNat n) _) r1.length⟩ _))
  λhb=>Th hb (λl e hb=>ml hb λq hb=>yS (P:=C1 Bs A s (.builtin "len") Q E) hI.g e hx λc ws n h1 r1=>PyProof.Rows.len_tuple ⟨_,h1,rfl,_,rfl⟩ (r1.VM q) (KG.same hI K hb ⟨_,ac (λn=>Value.int (Int.ofNat n) _) r1.length⟩ _)) aB
theorem Gv(hb:cL st.S9 .int as=some a)(hv:ag w G ρ as vs):CG Bs A s (.type "int") Q E vs:=
 ut hb λx e hb=>ag.r1 (P:=CG Bs A s (.type "int") Q E) (e▸hv) λv hx=>Th hb (λi e hb=>(hx.int e).elim λt z=>z▸call_int_int (KG.same hI K hb ⟨_,rfl⟩ s.toks))
  λhb=>bA hb λb e hb=>ml hb λq hb=>ed hb λn hn hb=>(hx.str e).elim λt z=>z▸KIN.call_text hn (bz q ∅) (KG.same hI K (ac some hb) ⟨_,rfl⟩ _)
theorem Ew(hb:cL st.S9 .str as=some a)(hv:ag w G ρ as vs):CG Bs A s (.type "str") Q E vs:=
 ut hb λx e hb=>ag.r1 (P:=CG Bs A s (.type "str") Q E) (e▸hv) λv hx=>bA hb λi e hb=>ml hb λq hb=>(hx.int e).elim λt z=>z▸P.str_of_int (by
  by_cases z:i.natAbs=0
  ·rw[z];decide
  ·exact Nat.lt_trans ((Nat.log2_lt z).mpr (show i.natAbs<2 ^ 7 by omega)) ∅) (KG.same hI K hb ⟨_,rfl⟩ _)
include hA in
theorem zi(hb:cL st.S9 .bytes as=some a)(hv:ag w G ρ as vs):CG Bs A s (.type "bytes") Q E vs:=
 ut hb λx e hb=>ag.r1 (P:=CG Bs A s (.type "bytes") Q E) (e▸hv) λv hx=>Th hb (λi e hb=>(hx.Uu e).elim λt z=>z▸nn (KG.same hI K hb ⟨_,rfl⟩ s.toks))
  λhb=>bA hb λl e hb=>ml hb λq hb=>bA hb λns e2 hb=>ml hb λq2 hb=>gm (P:=C1 Bs A s (.type "bytes") Q E) hI.g e hx λc ws n h1 r1=>
   call_bytes_ints ⟨_,h1,rfl,_,rfl⟩ (lw e2 r1) (λn hn=>(bG (gj q2 n hn)).imp aT aT) (r1.length▸bz q ∅) hA.2.2.1 λh' t tk hk=>K G h' tk _ (hI.ext hk).1 (hI.ext hk).2 (aC hb▸⟨t,rfl⟩)
theorem zu(hb:cL st.S9 .tuple as=some a)(hv:ag w G ρ as vs):CG Bs A s (.type "tuple") Q E vs:=
 ut hb λx e hb=>ag.r1 (P:=CG Bs A s (.type "tuple") Q E) (e▸hv) λv hx=>Th hb (λl e hb=>by
   obtain⟨c,ws,n,rfl,h1,r1⟩:=hx.tpl e;exact call_tuple_same ⟨_,hI.g.Tg _ _ h1,rfl,_,rfl⟩ (KG.same hI K hb (yY e▸hx) s.toks))
  λhb=>bA hb λl e hb=>ml hb λq hb=>gm (P:=C1 Bs A s (.type "tuple") Q E) hI.g e hx λc ws n h1 r1=>call_tuple_list ⟨_,h1,rfl,_,rfl⟩ (λh' hk=>by
   have h0:s.heap.get? h'.objs.size=none:=none_of (λb o e=>⟨o,hk b o e⟩) (bj (Nat.le_refl _));have z:=hI.UB (n:=h'.objs.size) (h':=h'.push {cls:= .type "tuple",data:= .seq ws.toArray}) (λb o e=>bv _ (hk b o e)) h0 (dX _ rfl);exact K _ _ s.toks _ z.1 z.2 (aC hb▸sE (hI.none_of h0) r1)) (r1.sz q ∅)
theorem A6(hb:cL st.S9 .list as=some a)(hv:ag w G ρ as vs):CG Bs A s (.type "list") Q E vs:=by
 refine ut hb λx e hb=>ag.r1 (P:=CG Bs A s (.type "list") Q E) (e▸hv) λv hx=> ?_;have go: ∀{t:String} {c:Addr} {ws:List Value} {n:Nat} {l:aV},t= "list" \/t= "tuple" ->s.heap.get? c=some {cls:= .type t,data:= .seq ws.toArray n}->ag w G ρ l ws->l.length<=100000->some (AV.lst l)=some a->C1 Bs A s (.type "list") Q E (.ref c):=fun{t c ws n l} ht h1 r1 q hb=>
  call_list_seq c ht h1 rfl rfl (λh' c' hk hn=>K _ _ s.toks _ (hI.UB hk (bj (Nat.le_refl _)) hn).1 (hI.UB hk (bj (Nat.le_refl _)) hn).2 (aC hb▸jH (hI.TA (Nat.le_refl _)) r1)) (r1.sz q ∅)
 exact Th hb (λl e hb=>ml hb λq hb=>gm (P:=C1 Bs A s (.type "list") Q E) hI.g e hx λc ws n h1 r1=>go (.inl rfl) h1 r1 q hb) λhb=>bA hb λl e hb=>ml hb λq hb=>yS (P:=C1 Bs A s (.type "list") Q E) hI.g e hx λc ws n h1 r1=>go (.inr rfl) h1 r1 q hb
theorem Gu(hb:cL st.S9 .abs as=some a)(hv:ag w G ρ as vs):CG Bs A s (.builtin "abs") Q E vs:=
 ut hb λx e hb=>ag.r1 (P:=CG Bs A s (.builtin "abs") Q E) (e▸hv) λv hx=>bA hb λi e hb=>(hx.int e).elim λt z=>z▸call_abs_int λu tk=>KG.same hI K hb ⟨_,rfl⟩ _
theorem wX(hb:cL st.S9 .sorted as=some a)(hv:ag w G ρ as vs):CG Bs A s (.builtin "sorted") Q E vs:=
 ut hb λx e hb=>ag.r1 (P:=CG Bs A s (.builtin "sorted") Q E) (e▸hv) λv hx=>bA hb λl e hb=>Lk hb λy z e1 hb=>RF hb λi j e2 e3 hb=>gm (P:=C1 Bs A s (.builtin "sorted") Q E) hI.g e hx λc ws n h1 r1=>by
  obtain⟨mm,hm,_⟩:=hI.l;subst e1 e2 e3;refine sorted_N (gB hm) (eG s.heap X.env.locals) (ns:=[i,j]) ⟨_,h1,rfl,_,rfl⟩ (lw (ns:=[i,j]) rfl r1) (by rw[r1.length];exact dA (show 2<3 from by decide) ∅) λh' vs' ns' c' F' N' i' hp hs=> ?_;have hd:s.heap.get? (s.heap.objs.size+1)=none:=bj (Nat.le_succ _);have z:=hI.one (n:=s.heap.objs.size+1) (fu (more:=[_]) N') (my hm F'.ns) hd (N'.get (.head _));refine K _ h' s.toks _ z.1 z.2 ?_;have:=jH (k:=c') (hI.none_of hd) (CI (w:=w) (G:=G) (ρ:=ρ) i');rw[<-aC hb];rw[wz hp hs] at this;by_cases hba:j<i
  ·rw[if_pos hba] at this ⊢;exact this
  ·rw[if_neg hba] at this ⊢;exact this
include hA
theorem Gc(hb:cL st.S9 .min as=some a)(hv:ag w G ρ as vs):CG Bs A s (.builtin "min") Q E vs:=
 Lk hb λx y e hb=>RF hb λi j e1 e2 hb=>ag.r2 (P:=CG Bs A s (.builtin "min") Q E) (e▸hv) λv u hx hy=>(e1▸hx:ar w G ρ (.int i) v).elim λt q=>(e2▸hy:ar w G ρ (.int j) u).elim λt' q'=>q▸q'▸by
  obtain⟨mm,hm,_⟩:=hI.l;exact min_two_N hA.2.2.1 (gB hm) (eG s.heap X.env.locals) λh' tk F' N'=>K G h' tk _ (hI.news hm F' N').1 (hI.news hm F' N').2 (aC hb▸⟨_,rfl⟩)
theorem DU(hb:cL st.S9 .any as=some a)(hv:ag w G ρ as vs):CG Bs A s (.builtin "any") Q E vs:=
 ut hb λx e hb=>ag.r1 (P:=CG Bs A s (.builtin "any") Q E) (e▸hv) λv hx=>bA hb λl e hb=>ml hb λq hb=>ed hb λbs e2 hb=>gm (P:=C1 Bs A s (.builtin "any") Q E) hI.g e hx λc ws n h1 r1=>by
  obtain⟨mm,hm,_⟩:=hI.l;exact LSm.any_bools (gB hm) (eG s.heap X.env.locals) hA.2.2.1 ⟨_,h1,rfl,_,rfl⟩ (zC e2 r1) λh' tk F' N'=>K G h' tk _ (hI.news hm F' N').1 (hI.news hm F' N').2 (hb▸rfl)
theorem ES(hb:cL st.S9 .sum as=some a)(hv:ag w G ρ as vs):CG Bs A s (.builtin "sum") Q E vs:=
 ut hb λx e hb=>ag.r1 (P:=CG Bs A s (.builtin "sum") Q E) (e▸hv) λv hx=>bA hb λl e hb=>ml hb λq hb=>ed hb λbs e2 hb=>gm (P:=C1 Bs A s (.builtin "sum") Q E) hI.g e hx λc ws n h1 r1=>by
  obtain⟨mm,hm,_⟩:=hI.l;exact LSm.sum_ints (gB hm) (eG s.heap X.env.locals) hA.2.2.1 ⟨_,h1,rfl,_,rfl⟩ (lw e2 r1) λh' tk t' F' N'=>K G h' tk _ (hI.news hm F' N').1 (hI.news hm F' N').2 (hb▸⟨_,rfl⟩)
theorem zZ(b)(hb:cL st.S9 b as=some a)(hv:ag w G ρ as vs):CG Bs A s (BH b) Q E vs:=
 b.casesOn (motive:=λb=>cL st.S9 b as=some a->CG Bs A s (BH b) Q E vs) (λh=>EA hI K h hv) (λh=>Gv hI K h hv) (λh=>Ew hI K h hv) (λh=>zi hA hI K h hv) (λh=>zu hI K h hv) (λh=>A6 hI K h hv) (λh=>DU hA hI K h hv) (λh=>wX hI K h hv) (λh=>Gc hA hI K h hv) (λh=>Gu hI K h hv) (λh=>ES hA hI K h hv) hb
end
end
def Cd(e:Expr):Prop:= ∀r env,starEach (e::r) env=(false,eval e env)::starEach r env
def cv:List Expr->Prop
 | []=>True
 |e::es=>Cd e/\cv es
theorem cv.eq(env): ∀{es:List Expr},cv es->starEach es env=es.map λe=>(false,eval e env)
 | [],_=>rfl
 |e::es,h=>by rw[h.1,h.2.eq env,List.map_cons]
theorem cv.plain(h:cv es)(p)(env):(backTo p (starEach es env)).any (·.1)=false:=by
 rw[h.eq env];unfold backTo;rw[List.map_map,List.any_map];exact List.any_eq_false.mpr λx _=>by simp
theorem cv.all(h:cv es)(p)(env):(backTo p (starEach es env)).all (λx=> !x.1)=true:=by
 rw[h.eq env];unfold backTo;rw[List.map_map,List.all_map];exact List.all_eq_true.mpr λx _=>by simp
theorem nz{f}(hs:cv es)(h:wpAny M A (spliced (backTo p (starEach es env))) (λvs s'=>Q ⟨vs,[]⟩ s') E s):
  wpAny M A (evalArgs f true (backTo p (starEach es env)) []) Q E s:=by
 cases es with
 |nil=>
  unfold evalArgs;show wpAny M A (spliced []>>=_) Q E s;refine am (wpAny_mono h (λvs s' h'=>am (bq ?_)) λ_ _ x=>x);refine wpAny_holding ?_;exact am (bq (am (bq (bq h'))))
 |cons e es=>
  have he:=hs.1 es env;rw[he] at h ⊢;exact evalArgs_plain h
noncomputable def LW:Value->Bool
 | .builtin _=>true
 | .type _=>true
 |_=>false
theorem fQ{M}{A}{E:bS}{s}{first}{p}{env}{Q:bS}(hf:LW f=true)(hs:cv es)
  (h:wpAny M A (spliced (backTo p (starEach es env))) (λvs s'=>wpAny M A (call f (first++vs)) Q E s') E s):wpAny M A (callWith p f first (backTo p (starEach es env)) []) Q E s:=by
 refine callWith_of (P:=λ_=>True) (by rw[hs.plain];rfl) (λ_ _=>⟨.machine,.inr (.inl rfl),?_⟩) (nz hs (wpAny_mono h (λvs s' h'=>⟨trivial,h'⟩) λ_ _ e=>e));cases f<;>first|exact ft hf|exact Looks.of_pure rfl
theorem iQ{M}{A}{E:bS}{s}{K}{f}{first}{es}{p}{env}{Q:bS}(hf:keepIn K (.ref f)=true)(hs:cv es)
  (h:wpAny M A (spliced (backTo p (starEach es env))) (λvs s'=>K.In s'.heap/\wpAny M A (call (.ref f) (first++vs)) Q E s') E s):wpAny M A (callWith p (.ref f) first (backTo p (starEach es env)) []) Q E s:=
 callWith_of (P:=λh=>K.In h) (by rw[hs.plain];rfl) (λh X=>keeps_K hf h X) (nz hs h)
noncomputable def nJ:Expr->Bool
 | .Call (.Name _ _) [] [] _=>false
 |_=>true
theorem qK(h:nJ o=true)(name)(env)(t:Sem Value):attributeBase o name env t=t:=by
 cases o
 case Call f a k p=>
  cases f
  case Name x q=>
   cases a
   case nil=>
    cases k
    case nil=>exact ft h
    all_goals rfl
   all_goals rfl
  all_goals rfl
 all_goals rfl
theorem wq(h:nJ o=true)(x)(p)(env):eval (.Attribute o x p) env=(do
   let v<-eval o env
   standAt p.atName
   let r<-holding [v] (getAttr v x true)
   letTemporaryGo o v r
   pure r):=by
 rw[arm_eval_Attribute,qK h]
theorem jK{M}{A}{E:bS}{s}{name}{env}{Q:bS}(hb:nJ o=true)(hs:cv es)(hlen:es.length<29)(hline:(apos.endLine==pos.line)=true)
  (h:wpAny M A (eval o env) (λov s₁=> ∀pl,wpAny M A (getMethod ov name pl) (λfx s₂=>wpAny M A (callWith pos fx.1 fx.2 (backTo pos (starEach es env)) []) Q E s₂) E s₁) E s):
  wpAny M A (eval (.Call (.Attribute o name apos) es [] pos) env) Q E s:=by
 rw[arm_eval_Call,qK hb];refine am (wpAny_mono h (λov s₁ h₁=>am (wpAny_standAt ?_)) λ_ _ e=>e);have hform:methodCallForm (es.length+([]:List Keyword).length) (backTo pos (starEach es env)) (backToKw pos (keywordEach [] env))=true:=by
  unfold methodCallForm;rw[hs.all];simp only[Bool.true_and,Bool.and_eq_true,decide_eq_true_eq];refine⟨rfl,?_⟩;show es.length+0+_<30;have:(if(backToKw pos (keywordEach [] env)).isEmpty then 0 else 1)=0:=rfl;rw[this];omega
 have hpos:methodCallPos true o env apos pos=pure pos:=by unfold methodCallPos;simp[hline]
 unfold methodCall;rw[hform];refine am (wpAny_holding (wpAny_mono (h₁ _) (λfx s₂ h₂=> ?_) λ_ _ e=>e));exact am (wpAny_of_eq hpos h₂)
section
variable {w:World} {Bs:Base w} {X:Cx}
theorem Jd{np p}{m:St->Out (aV)}(hs:cv es)(hn: ∀st G ρ A (s:Shared),lN X.lvl X.fr A->aZ Bs X G ρ st s.heap-> ∀Q E,Q (BH b) s->wpAny (model Bs.prog w) A (eval (.Name x np) env) Q E s)
  (h:SE Bs X (λ_ _=>True) (wp Bs (spliced (backTo p (starEach es env)))) m (vL (w:=w))):
  SE Bs X (λ_ _=>True) (wp Bs (eval (.Call (.Name x np) es [] p) env)) (λs=>ao (m s) λvs s=>bo s (cL s.S9 b vs)) (VR (w:=w)):=by
 have z:=SE.bind (U:=λvs A Q E s=>wpAny (model Bs.prog w) A (call (BH b) vs) Q E s) aR.true h λas vs=>(SE.of λst q hm=>ed hm λa e hm=>hm▸λA G ρ s hA hI hp Q E k=>zZ hA hI (λG' h' tk v I' S' hv=>k G' ρ h' tk I' S' v hv) b e hp.2:
  SE Bs X _ _ (λs=>bo s (cL s.S9 b as)) (VR (w:=w)))
 exact λst r st' hm A G ρ s hA hI hp Q E k=>wpAny_Call_Name_kw (hn st G ρ A s hA hI _ _ (fQ (by cases b<;>rfl) hs (z st r st' hm A G ρ s hA hI hp Q E k)))
noncomputable def Ot:SM->Str
 | .split0=> "split" | .split1=> "split" | .lstrip=> "lstrip" | .index=> "index" | .append=> "append" | .extend=> "extend" | .TX=> "get"
noncomputable def N7:SM->String
 | .split0=> "str.split" | .split1=> "str.split" | .lstrip=> "str.lstrip" | .index=> "str.index" | .append=> "list.append" | .extend=> "list.extend" | .TX=> "dict.get"
theorem str_list(l):ag w G ρ ((l.map (·.1)).map .str) (strValues l):=by
 induction l with
 |nil=>rfl
 |cons p l ih=>exact⟨_,_,rfl,⟨p.2,rfl⟩,ih⟩
theorem wY{K:Type}[BEq K][LawfulBEq K]{ks:List K}{k:K}: ∀{l:aV},ks.length=l.length->cN ks l k=none->ks.contains k=false:=by
 induction ks with
 |nil=>exact λ_ _=>rfl
 |cons x ks ih=>
  intro l e h;cases l with
  |nil=>cases e
  |cons a l=>
   rw[List.contains_cons];cases q:x==k with
   |true=>exact lg ((ac (cond · (some a) (cN ks l k)) q).symm.trans h)
   |false=>rw[ih (Nat.succ.inj e) ((ac (cond · (some a) (cN ks l k)) q).symm.trans h),Bool.or_false];exact beq_eq_false_iff_ne.mpr λz=>beq_eq_false_iff_ne.mp q z.symm
section
variable {A:Around} {G:Gm} {ρ:Rm} {st:St} {s:Shared} (hA:lN X.lvl X.fr A) (hI:aZ Bs X G ρ st s.heap) {as:aV} {x a:AV} {vs:List Value} {Q E:bS} {u:Value} {σ':aX}
def KS(Bs:Base w)(X:Cx)(G:Gm)(ρ:Rm)(st:St)(s:Shared)(a:AV)(σ':aX)(Q:bS):Prop:= ∀G' h' tk v,aZ Bs X G' ρ {st with S9:=σ'} h'->aH G ρ st.S9 s.heap G' ρ σ' h' (aG X.fr) X.Tc->ar w G' ρ a v->Q v {s with heap:=h',toks:=tk}
abbrev SG(Bs:Base w)(A:Around)(s:Shared)(f:String)(Q E:bS)(u:Value)(vs:List Value):Prop:=wpAny (model Bs.prog w) A (call (.builtin f) (u::vs)) Q E s
variable (K:KS Bs X G ρ st s a σ' Q)
include hI K
theorem KS.same{b:AV}(e:some (b,st.S9)=some (a,σ')){v:Value}(h:ar w G ρ b v)(tk:Tok):Q v {s with toks:=tk}:=by
 obtain⟨rfl,rfl⟩:=so e;exact K G s.heap tk v hI aH.rfl h
theorem vu{tk:Tok}{n:Nat}(hm:s.heap.Ns X.env.locals m)(e:some (AV.lst (L.map .str),st.S9)=some (a,σ'))(hl:l.map (·.1)=L)(F':Fr jt X.env.locals h' m)
  (N':News jt X.env.locals h' ([(s.heap.objs.size,{cls:= .type "list",data:= .seq (List.toArray (strValues l)) n})]++eB s.heap X.env.locals)):Q (.ref s.heap.objs.size) {s with heap:=h',toks:=tk}:=by
 obtain⟨rfl,rfl⟩:=so e;have z:=hI.one (n:=s.heap.objs.size) (fu (more:=[_]) N') (my hm F'.ns) (bj (Nat.le_refl _)) (N'.get (.head _));exact K _ h' tk _ z.1 z.2 (hl▸jH (hI.TA (Nat.le_refl _)) (str_list l))
theorem xw(hb:gT st.S9 .split0 x as=some (a,σ'))(hx:ar w G ρ x u)(hv:ag w G ρ as vs):SG Bs A s "str.split" Q E u vs:=bA hb λz e hb=>(hx.str e).elim λt q=>by
 obtain⟨mm,hm,_⟩:=hI.l;obtain⟨rfl,hb⟩:=um hb;obtain rfl:vs=[]:=hv;exact ml hb λql hb=>q▸splitN0 (gB hm) (eG s.heap X.env.locals) (λl h' tk hl F' N'=>vu hI K hm hb hl F' N') (bz (Nat.add_le_add_right ql 2) ∅)
theorem wo(hb:gT st.S9 .split1 x as=some (a,σ'))(hx:ar w G ρ x u)(hv:ag w G ρ as vs):SG Bs A s "str.split" Q E u vs:=bA hb λz e hb=>ut hb λy e1 hb=>bA hb λz' e2 hb=>ml hb λql hb=>(hx.str e).elim λt q=>ag.r1 (P:=SG Bs A s "str.split" Q E u) (e1▸hv) λv hy=>(hy.str e2).elim λt' q'=>by
 obtain⟨mm,hm,_⟩:=hI.l;have ql:=bG ql;exact q▸q'▸splitN1 (gB hm) (eG s.heap X.env.locals) (by simpa using ql.2) (λl h' tk hl F' N'=>vu hI K hm hb hl F' N') (bz (Nat.add_le_add_right (aT ql.1) 2) ∅)
theorem xl(hb:gT st.S9 .lstrip x as=some (a,σ'))(hx:ar w G ρ x u)(hv:ag w G ρ as vs):SG Bs A s "str.lstrip" Q E u vs:=bA hb λz e hb=>ut hb λy e1 hb=>bA hb λz' e2 hb=>ml hb λql hb=>(hx.str e).elim λt q=>ag.r1 (P:=SG Bs A s "str.lstrip" Q E u) (e1▸hv) λv hy=>(hy.str e2).elim λt' q'=>
 q▸q'▸SC.lstripChars (λt' tk=>KS.same hI K hb ⟨t',rfl⟩ tk) (bz ql ∅)
include hA in
theorem zn(hb:gT st.S9 .index x as=some (a,σ'))(hx:ar w G ρ x u)(hv:ag w G ρ as vs):SG Bs A s "str.index" Q E u vs:=bA hb λz e hb=>ut hb λy e1 hb=>bA hb λz' e2 hb=>ml hb λql hb=>(hx.str e).elim λt q=>ag.r1 (P:=SG Bs A s "str.index" Q E u) (e1▸hv) λv hy=>(hy.str e2).elim λt' q'=>
 q▸q'▸index_or hA.2.2.1 (λe=>absurd (aT ql) (Int.not_le.mpr (e▸by decide))) λ_ _=>KS.same hI K hb ⟨_,rfl⟩ _
theorem wt(hb:gT st.S9 .append x as=some (a,σ'))(hx:ar w G ρ x u)(hv:ag w G ρ as vs):SG Bs A s "list.append" Q E u vs:=bA hb λp e hb=>ut hb λy e1 hb=>ml hb λq hb=>ag.r1 (P:=SG Bs A s "list.append" Q E u) (e1▸hv) λv hy=>by
 obtain⟨rfl,rfl⟩:=so hb;exact tt hI ((oL e).1▸hx) (oL e).2 q hy λh' I' S=>K G h' s.toks _ I' S rfl
theorem wr(hb:gT st.S9 .extend x as=some (a,σ'))(hx:ar w G ρ x u)(hv:ag w G ρ as vs):SG Bs A s "list.extend" Q E u vs:=bA hb λp e hb=>ut hb λy e1 hb=>bA hb λl e2 hb=>ml hb λq hb=>ag.r1 (P:=SG Bs A s "list.extend" Q E u) (e1▸hv) λv hy=>by
 obtain⟨rfl,rfl⟩:=so hb;exact s7 hI ((oL e).1▸hx) (oL e).2 q hy (oV e2) λh' I' S=>K G h' s.toks _ I' S rfl
include hA
theorem Bw(hb:gT st.S9 .TX x as=some (a,σ'))(hx:ar w G ρ x u)(hv:ag w G ρ as vs):SG Bs A s "dict.get" Q E u vs:=Lk hb λy z e1 hb=>bA hb λkk e2 hb=>ed hb λdd e3 hb=>ag.r2 (P:=SG Bs A s "dict.get" Q E u) (e1▸hv) λv d hy hz=>by
 obtain⟨p,t1,t2,t3,n,rfl,h0⟩:=hy.Va e2;refine CQ (P:=λu=>SG Bs A s "dict.get" Q E u [.ref p,d]) hI.g e3 hx λc es m g1 k1 r1=> ?_;have is:=vI (prog:=Bs.prog) (w:=w) (k:=kk) (hI.g.Tg _ _ h0);have hu':(tupleKind (intKind Bs.prog w)).room A.in1:=Nat.lt_of_le_of_lt (Nat.add_le_add_left (by decide:1<=8) _) (si hA);obtain⟨D,D1,D2⟩:=dD.dictOf (prog:=Bs.prog) (w:=w) hI.g.Tg g1 k1;refine call_meetsIn PySem.F.slot_dict_get D.typeIs PySem.F.entry_dict_get (PySem.F.args_dict_get_3 _ _ _) (meetsH_dict_get_default (tupleKind (intKind Bs.prog w)) c p k1.2.2 d) ⟨hu',_,_,is,D,?_⟩;refine KS.same hI K (ac some hb) ?_ _;cases q:cN dd.1 dd.2 kk with
 |some a=>
  obtain⟨y,hy,ry⟩:=vv D2 (D1▸r1) q;rw[hy];exact ry
 |none=>
  have q2:=wY (by rw[<-r1.length,<-D1,List.length_map,<-List.length_map (f:=λx:List Int×Addr×Value=>x.1),D2,List.length_map]) q;rw[<-l8 D2,Option.isSome_eq_false_iff,Option.isNone_iff_eq_none] at q2;rw[q2];exact hz
theorem zX(m)(hb:gT st.S9 m x as=some (a,σ'))(hx:ar w G ρ x u)(hv:ag w G ρ as vs):SG Bs A s (N7 m) Q E u vs:=
 m.casesOn (motive:=λm=>gT st.S9 m x as=some (a,σ')->SG Bs A s (N7 m) Q E u vs) (λh=>xw hI K h hx hv) (λh=>wo hI K h hx hv) (λh=>xl hI K h hx hv) (λh=>zn hA hI K h hx hv) (λh=>wt hI K h hx hv) (λh=>wr hI K h hx hv) (λh=>Bw hA hI K h hx hv) hb
end
theorem JD{α:Type}{o:Option α}{p:Prop}(h:o.isSome=true)(k: ∀a,o=some a->p):p:=k (o.get h) (Option.some_get h).symm
theorem Az{A}{G}{ρ}{st}{s}(hI:aZ Bs X G ρ st s.heap){m}{x}{u}(hb:C8 st.S9 m x=true)(hx:ar w G ρ x u){pl:Sem Bool}{Q:Value×List Value->Shared->Prop}{E:bS}(k:Q (.builtin (N7 m),[u]) s):
  wpAny (model Bs.prog w) A (getMethod u (Ot m) pl) Q E s:=by
 cases m
 case split0=>exact JD hb λz e=>(hx.str e).elim λt q=>by subst q;exact GM.split k
 case split1=>exact JD hb λz e=>(hx.str e).elim λt q=>by subst q;exact GM.split k
 case lstrip=>exact JD hb λz e=>(hx.str e).elim λt q=>by subst q;exact GM.lstrip k
 case index=>exact JD hb λz e=>(hx.str e).elim λt q=>by subst q;exact GM.index k
 case append=>
  refine JD hb λl e=> ?_;obtain⟨c,rfl,ws,n,h1,r1⟩:=ip hI.g (oV e) (by nofun) hx;exact getMethod_builtin ⟨_,h1,rfl⟩ PySem.F.plainAttrs_list PySem.F.slot_list_append PySem.F.type_list_append (λa e=>by cases e;exact⟨_,h1,rfl⟩) k
 case extend=>
  refine JD hb λl e=> ?_;obtain⟨c,rfl,ws,n,h1,r1⟩:=ip hI.g (oV e) (by nofun) hx;exact getMethod_builtin ⟨_,h1,rfl⟩ PySem.F.plainAttrs_list PySem.F.slot_list_extend PySem.F.type_list_extend (λa e=>by cases e;exact⟨_,h1,rfl⟩) k
 case TX=>
  refine JD hb λl e=> ?_;obtain⟨c,rfl,ws,n,h1,_⟩:=ip hI.g (Gk e) (by nofun) hx;exact getMethod_builtin ⟨_,h1,rfl⟩ PySem.F.plainAttrs_dict PySem.F.slot_dict_get PySem.F.type_dict_get (λa e=>by cases e;exact⟨_,h1,rfl⟩) k
theorem JG{env}{T}{gl}{i}{is}(hname:Ot m=name)(hb:nJ o=true)(hs:cv es)(hlen:es.length<29)(hline:(ap.endLine==p.line)=true)
  (h1:SE Bs X (λ_ _=>True) (wp Bs (eval o env)) (aw T gl i) (VR (w:=w))) (h2:SE Bs X (λ_ _=>True) (wp Bs (spliced (backTo p (starEach es env)))) (br T gl is) (vL (w:=w))):
  SE Bs X (λ_ _=>True) (wp Bs (eval (.Call (.Attribute o name ap) es [] p) env)) (aw T gl (.stm m i is)) (VR (w:=w)):=by
 subst hname;refine SE.le (SE.bind (U:=λv A Q E s=> ∀pl,wpAny (model Bs.prog w) A (getMethod v (Ot m) pl) (λfx s₂=>wpAny (model Bs.prog w) A (callWith p fx.1 fx.2 (backTo p (starEach es env)) []) Q E s₂) E s) aR.true h1 λx v=> ?_) λA Q E s h=>jK hb hs hlen hline h;intro st r st' hm A G ρ s hA hI hp Q E k pl;refine eV hm λhok hm=>Az hI hok hp.2 (fQ rfl hs ?_);exact(SE.bind (U:=λvs A Q E s=>wpAny (model Bs.prog w) A (call (.builtin (N7 m)) (v::vs)) Q E s) (aR.and aR.true (aR.vr x v)) (h2.pre λ_ _ _=>trivial) λas vs=>(SE.of λst q hm=>ed hm λa e hm=>ed e λe2 e3 e4=>hm▸e4▸λA G ρ s hA hI hp Q E k=>
  zX hA hI (λG' h' tk v I' S' hv=>k G' ρ h' tk I' S' v hv) m e3 hp.1.2 hp.2:SE Bs X _ _ (λs=>pA s ((gT s.S9 m x as).map λp=>(.ok p.1,p.2))) (VR (w:=w)))) st r st' hm A G ρ s hA hI hp Q E k
end
noncomputable def pL(h:Heap)(S:Addr->Bool):Heap:=⟨h.objs.mapIdx λi o=>if S i then{o with data:= .freed} else o,h.life⟩
theorem lM(h)(S:Addr->Bool)(b):(pL h S).get? b=if S b then none else h.get? b:=by
 unfold pL Heap.get?;simp only[Array.getElem?_mapIdx];cases q:h.objs[b]? with
 |none=>simp
 |some o=>
  simp only[Option.map_some];by_cases hs:S b=true
  ·simp[hs]
  ·simp only[hs];rfl
theorem rL(e:(pL h S).get? b=some o):S b=false/\h.get? b=some o:=by
 rw[lM] at e;cases q:S b with
 |true=>rw[q] at e;simp at e
 |false=>rw[q] at e;simpa using e
theorem fV(e:S b=true):(pL h S).get? b=none:=by rw[lM,e];rfl
section
variable {w:World} {Bs:Base w} {X:Cx}
theorem sD{hp:Heap}{b:Addr}{fr:List Env}{G:Gm}{ρ:Rm}{σ:aX}(h: ∀e∈fr,e.scope.kind≠ .module/\ ∃L o,e.frame=some L/\hp.get? L=some o/\(∀vs,o.data≠ .fields vs)/\G L=none/\ ¬bK ρ σ L)(hb:b∈aG fr): ∃o,hp.get? b=some o/\(∀vs,o.data≠ .fields vs)/\G b=none/\ ¬bK ρ σ b:=
 (List.mem_filterMap.mp hb).elim λe z=>(h e z.1).2.elim λL y=>y.elim λo y=>aC (y.1.symm.trans z.2)▸⟨o,y.2⟩
theorem kU{h:Heap}{S:Addr->Bool}{G:Gm}{ρ:Rm}{σ:aX}{fr:List Env}:(∀e∈fr,e.scope.kind≠ .module/\ ∃L o,e.frame=some L/\h.get? L=some o/\(∀vs,o.data≠ .fields vs)/\G L=none/\ ¬bK ρ σ L)->(∀L∈aG fr,S L=true)->
  h.FunFrames (pL h S) fr:=by
 induction fr with
 |nil=>exact λ_ _=>trivial
 |cons e fr ih=>
  intro hf hS;have m: ∀{x},x∈aG fr->x∈aG (e::fr):=λz=>(List.mem_filterMap.mp z).elim λy q=>List.mem_filterMap.mpr ⟨y,.tail _ q.1,q.2⟩;exact⟨(hf e (.head _)).1,(hf e (.head _)).2.imp λL z=>z.imp λo z=>⟨z.1,fV (hS L (List.mem_filterMap.mpr ⟨e,.head _,z.1⟩)),z.2.1,z.2.2.1⟩,ih (λe' he'=>hf e' (.tail _ he')) λL' hL'=>hS L' (m hL')⟩
theorem vD{x:Option Obj}{o:Obj}{sl:Array (Option Value)}(z:x=some {o with slots:=sl})(e:sl=o.slots):x=some o:=by subst e;exact z
theorem aZ.move{G G'}{ρ ρ'}{st}{σ'}{h h'}(I:aZ Bs X G ρ st h)(g:iB w Bs.B G' ρ' σ' X.fr h')(gl:dF G G')(rl:fk ρ ρ')(keep: ∀b o,b∈X.env.locals::X.env.cells.map (·.2)->h.get? b=some o-> ∃sl,h'.get? b=some {o with slots:=sl})
  (pv: ∀b,b∈X.env.locals::X.env.cells.map (·.2)\/b∈X.Tc->G' b=none/\ ¬bK ρ' σ' b/\ ∃o,h'.get? b=some o):aZ Bs X G' ρ' {st with S9:=σ'} h':=by
 obtain⟨m,hm,hl,hcl⟩:=I.l;have cell: ∀(x:Str) cc v,X.env.cells.lookup x=some cc->h.IsCell cc v->h'.IsCell cc v:=λx c v lk z=>z.elim λo z=>(keep c o (.tail _ (List.mem_map.mpr ⟨_,mem_lookup lk,rfl⟩)) z.1).elim λsl q=>⟨_,q,z.2⟩;exact⟨g,I.len,⟨m,hm.elim λx z=>z.elim λes z=>z.elim λep z=>(keep _ x (.head _) z.1).elim λsl q=>⟨_,es,ep,q,z.2⟩,λi a e=>(hl i a e).imp λy z=>z.imp λv z=>⟨z.1,ar.mono gl rl a z.2.1,z.2.2.imp id λz=>⟨z.1,z.2.imp λc z=>⟨z.1,cell y c _ z.1 z.2⟩⟩⟩,
  λx c lk=>(hcl x c lk).imp λv=>cell x c v lk⟩,pv,I.pl⟩
open Classical in
noncomputable def j7(e T:Addr)(frs:List Addr):Addr->Bool:=λb=>decide (b=e\/b=T\/b∈frs)
theorem nK(h1:b≠e)(h2:b≠T)(h3:b∉frs):j7 e T frs b=false:=by
 unfold j7;rw[decide_eq_false];rintro (h|h|h);exact h1 h;exact h2 h;exact h3 h
theorem da(h:b=e\/b=T\/b∈frs):j7 e T frs b=true:=by
 unfold j7;rw[bU h]
def HA(h₀:Heap)(G:Gm)(ρ:Rm)(σ:aX)(frs:List Addr)(h h':Heap):Prop:=
 ∀b o,h.get? b=some o->(h₀.get? b≠none\/G b≠none\/bK ρ σ b)-> ∃sl,h'.get? b=some {o with slots:=sl}/\(b∉frs->sl=o.slots)
theorem uS{h₀ h h':Heap}{frs:List Addr}(ke:h₀.get? e=none/\G e=none/\ ¬bK ρ σ e)(kT:h₀.get? T=none/\G T=none/\ ¬bK ρ σ T)
  (fr: ∀L∈frs,∃o,h.get? L=some o/\ ∀vs,o.data≠ .fields vs)
  (st:(pL h (j7 e T frs)).StaysIn h') (up: ∀b o,h.get? b=some o->(∀vs,o.data≠ .fields vs)-> ∃sl,h'.get? b=some {o with slots:=sl}):HA h₀ G ρ σ frs h h':=λb o e1 e2=>by
 have ne: ∀{x},h₀.get? x=none/\G x=none/\ ¬bK ρ σ x->b≠x:=λk q=>(q▸e2).elim (· k.1) λz=>z.elim (· k.2.1) k.2.2;by_cases hb:b∈frs
 ·exact(fr b hb).elim λx z=>(up b o e1 (aC (z.1.symm.trans e1)▸z.2)).imp λsl q=>⟨q,λz=>absurd hb z⟩
 ·exact⟨o.slots,st b o (by rw[lM,nK (ne ke) (ne kT) hb];exact e1),λ_=>rfl⟩
theorem aZ.stays{G0 G:Gm}{ρ0 ρ:Rm}{st0 st:St}{h₀ h h':Heap}(I0:aZ Bs X G0 ρ0 st0 h₀)(I:aZ Bs X G ρ st h)(S:aH G0 ρ0 st0.S9 h₀ G ρ st.S9 h (aG X.fr) X.Tc)(hs:HA h₀ G ρ st.S9 (aG X.fr) h h'):
  aZ Bs X G ρ st h'/\aH G0 ρ0 st0.S9 h₀ G ρ st.S9 h' (aG X.fr) X.Tc:=by
 have U2: ∀b o,G b=some o->h'.get? b=some o:=λb o e=>(hs b o (I.g.Tg b o e) (.inr (.inl λz=>lg (e.symm.trans z)))).elim λsl z=>vD z.1 (z.2 λhb=>(sD I.g.frs hb).elim λ_ y=>lg (e.symm.trans y.2.2.1));have keepI: ∀b,bK ρ st.S9 b-> ∀o,h.get? b=some o->h'.get? b=some o:=λb q o e=>(hs b o e (.inr (.inr q))).elim λsl z=>vD z.1 (z.2 λhb=>(sD I.g.frs hb).elim λ_ y=>y.2.2.2 q);have old: ∀b,(∃o,h₀.get? b=some o)-> ∀o,h.get? b=some o-> ∃sl,h'.get? b=some {o with slots:=sl}:=λb l o e=>(hs b o e (.inl λz=>l.elim λx l=>aD l z)).imp λsl z=>z.1;exact⟨I.move ⟨I.g.base,U2,I.g.len,λk p o e1 e2=>(I.g.rep k p o e1 e2).mono dF.rfl fk.rfl λb hb x e=>keepI b ⟨k,p,o,e1,e2,hb⟩ x e,I.g.TU,I.g.off,λe he=>(I.g.frs e he).imp id λz=>z.imp λL z=>z.elim λo z=>
   (old L ((I0.g.frs e he).2.elim λL' y=>y.elim λx' y=>aC (y.1.symm.trans z.1)▸⟨_,y.2.1⟩) o z.2.1).elim λsl q=>⟨_,z.1,q,z.2.2⟩⟩ dF.rfl fk.rfl (λb o hb=>old b (I0.p b (.inl hb)).2.2 o)
   λb hb=>⟨(I.p b hb).1,(I.p b hb).2.1,(I.p b hb).2.2.elim λx d=>(old b (I0.p b hb).2.2 x d).elim λsl q=>⟨_,q⟩⟩,
  ⟨S.gl,S.rl,λb o e nf np=>(S.keep b o e nf np).elim λsl q=>(hs b _ q.1 (.inl λz=>aD e z)).imp λsl2 q2=>⟨q2.1,λnb=>(q2.2 nb).trans (q.2 nb)⟩,S.fresh,S.Tr,λb o e=>(S.alive b o e).elim λo' e'=>(old b ⟨o,e⟩ o' e').elim λsl q=>⟨_,q⟩⟩⟩
inductive Ay (h₀:Heap) (G:Gm) (ρ:Rm) (σ:aX) (h:Heap) (x C:Addr) (fl:Value):Prop where
 |mk (f:h₀.get? x=none/\G x=none/\ ¬bK ρ σ x) (oe:Obj) (vs:Array Value) (a0:Value) (T:Addr) (oT:Obj) (ts:Array Value) (d1:h.get? x=some oe) (d2:oe.cls= .ref C) (d3:oe.data= .fields vs) (d4:vs[0]?=some a0) (d5:vs[1]?=some (.ref T)) (d6:h₀.get? T=none/\G T=none/\ ¬bK ρ σ T) (d9:T≠x)
  (Ua:h.get? T=some oT) (Uj:oT.data= .fields ts) (Up:ts[3]?=some fl)
theorem KL{G0 G:Gm}{ρ0 ρ:Rm}{st0 st:St}{h₀ h:Heap}(I:aZ Bs X G ρ st h)(S:aH G0 ρ0 st0.S9 h₀ G ρ st.S9 h (aG X.fr) X.Tc){T:Addr}(e:h.get? T=none):h₀.get? T=none/\G T=none/\ ¬bK ρ st.S9 T:=
 ⟨none_of S.alive e,I.none_of e,λq=>(fR I.g q).elim λo ho=>aD ho e⟩
theorem sw{G:Gm}{ρ:Rm}{st:St}{h:Heap}(I:aZ Bs X G ρ st h): ∀L∈aG X.fr,∃o,h.get? L=some o/\ ∀vs,o.data≠ .fields vs:=λL hL=>(sD I.g.frs hL).imp λo z=>⟨z.1,z.2.1⟩
theorem nE{G0 G:Gm}{ρ0 ρ:Rm}{st0 st:St}{h₀ h h':Heap}(I:aZ Bs X G ρ st h)(S:aH G0 ρ0 st0.S9 h₀ G ρ st.S9 h (aG X.fr) X.Tc){e T0 T:Addr}(kT:h₀.get? T0=none/\G T0=none/\ ¬bK ρ st.S9 T0)
  (hn:(pL h (j7 e T0 (aG X.fr))).get? T=none) (ne:T≠e) {oT:Obj} {ts:Array Value} (hT:h'.get? T=some oT) (hd:oT.data= .fields ts)
  (up: ∀b o,h.get? b=some o->(∀vs,o.data≠ .fields vs)-> ∃sl,h'.get? b=some {o with slots:=sl}):h₀.get? T=none/\G T=none/\ ¬bK ρ st.S9 T:=by
 by_cases q:T=T0
 ·rw[q];exact kT
 ·by_cases z:T∈aG X.fr
  ·obtain⟨o,ho,nf⟩:=sw I T z;obtain⟨sl,hs⟩:=up T o ho nf;rw[hT] at hs;cases hs;exact absurd hd (nf ts)
  ·rw[lM,nK ne q z] at hn;exact KL I S (by simpa using hn)
theorem qf{A:Around}{G0 G:Gm}{ρ0 ρ:Rm}{st0 st:St}{h₀:Heap}{s:Shared}{x C:Addr}(I0:aZ Bs X G0 ρ0 st0 h₀)(I:aZ Bs X G ρ st s.heap)(S:aH G0 ρ0 st0.S9 h₀ G ρ st.S9 s.heap (aG X.fr) X.Tc)
  (hfr:A.frames=some X.fr) (hf:X.fenv.frame=some X.fenv.locals) (hx:ExcAt h₀ X.fenv.locals G ρ st.S9 s.heap x C) {Q:Unit->Shared->Prop} {E:bS}
  (K: ∀h',aZ Bs X G ρ st h'->aH G0 ρ0 st0.S9 h₀ G ρ st.S9 h' (aG X.fr) X.Tc->Ay h₀ G ρ st.S9 h' x C (rawInt X.fenv.locals)->Q () {s with heap:=h'}):wpAny (model Bs.prog w) A (noteFrame (.ref x) X.fenv) Q E s:=by
 obtain⟨f1,f2,f3,oe,vs,a0,he,hc,hd,h0,alt⟩:=hx;have Vn:=sw I;have sub: ∀T0,(pL s.heap (j7 x T0 (aG X.fr))).StaysIn s.heap:=λT0 b o e=>(rL e).2;have fin: ∀T0 (kT:h₀.get? T0=none/\G T0=none/\ ¬bK ρ st.S9 T0) h',Heap.NotedW (pL s.heap (j7 x T0 (aG X.fr))) X.fr x oe.cls a0 (rawInt X.fenv.locals) s.heap h'->Q () {s with heap:=h'}:=by
  rintro T0 kT h' ⟨x1,x2,⟨oe',vs',T,oT,ts,y1,⟨y2,y3⟩,y4,y5,y6,y7,y8,y9,y10⟩,x4⟩
  obtain⟨I',S'⟩:=I0.stays I S (uS ⟨f1,f2,f3⟩ kT Vn x1 x4);have kn:=nE I S kT y6 y7 y8 y9 x4;exact K h' I' S' ⟨⟨f1,f2,f3⟩,oe',vs',a0,T,oT,ts,y1,y2.trans hc,y4,y3,y5,kn,y7,y8,y9,y10⟩
 rcases alt with h1|⟨T,oT,ts,fl,h1,t0,Vz,t1,t2,t3,t4,t5,t6⟩
 ·unfold noteFrame;simp only[hf];refine am (wpAny_field he hd h1 ?_);rw[if_neg ∅];exact wpAny_entryW hfr (kU I.g.frs λL hL=>da (.inr (.inr hL))) hf he (sub x) (fV (da (.inl rfl))) hd (Array.getElem?_eq_some_iff.mp h1).1 h0 (fin x ⟨f1,f2,f3⟩)
 ·rcases t6 with rfl|rfl
  ·exact wpAny_noteFrame_onW hfr (kU I.g.frs λL hL=>da (.inr (.inr hL))) hf ⟨oe,vs,T,oT,ts,he,⟨rfl,h0⟩,hd,h1,fV (da (.inr (.inl rfl))),Vz,t3,t4,t5⟩ (sub T) (fV (da (.inl rfl))) (fin T ⟨t0,t1,t2⟩)
  ·refine wpAny_noteFrame_againW (base:=pL s.heap (j7 x T (aG X.fr))) hf ⟨oe,vs,T,oT,ts,he,⟨rfl,h0⟩,hd,h1,fV (da (.inr (.inl rfl))),Vz,t3,t4,t5⟩ ?_;exact K s.heap I S ⟨⟨f1,f2,f3⟩,oe,vs,a0,T,oT,ts,he,hc,hd,h0,h1,⟨t0,t1,t2⟩,Vz,t3,t4,t5⟩
theorem kN{A:Around}{G0 G:Gm}{ρ0 ρ:Rm}{st0 st:St}{h₀:Heap}{s:Shared}{x C:Addr}{fl:Value}(I0:aZ Bs X G0 ρ0 st0 h₀)(I:aZ Bs X G ρ st s.heap)(S:aH G0 ρ0 st0.S9 h₀ G ρ st.S9 s.heap (aG X.fr) X.Tc)
  (hx:Ay h₀ G ρ st.S9 s.heap x C fl) {Q:Unit->Shared->Prop} {E:bS}
  (K: ∀h',aZ Bs X G ρ st h'->aH G0 ρ0 st0.S9 h₀ G ρ st.S9 h' (aG X.fr) X.Tc->Ay h₀ G ρ st.S9 h' x C .none->Q () {s with heap:=h'}):wpAny (model Bs.prog w) A (setFlight (.ref x) none) Q E s:=by
 obtain⟨f,oe,vs,a0,T,oT,ts,d1,d2,d3,d4,d5,d6,d9,Ua,Uj,Up⟩:=hx;refine wpAny_setFlight_noneW (base:=pL s.heap (j7 x T (aG X.fr))) (l:=X.fr) (λb o e=>(rL e).2) (kU I.g.frs λL hL=>da (.inr (.inr hL))) ⟨oe,vs,T,oT,ts,d1,⟨d2,d4⟩,d3,d5,fV (da (.inr (.inl rfl))),d9,Ua,Uj,Up⟩ λh' x1 x2 x3 x4=> ?_;obtain⟨oe',vs',T',oT',ts',y1,⟨y2,y3⟩,y4,y5,y6,y7,y8,y9,y10⟩:=x3;have up: ∀b o,s.heap.get? b=some o->(∀vs,o.data≠ .fields vs)-> ∃sl,h'.get? b=some {o with slots:=sl}:=λb o e nf=>⟨o.slots,x4 b o e nf⟩;obtain⟨I',S'⟩:=I0.stays I S (uS f d6 (sw I) x1 up);exact K h' I' S' ⟨f,oe',vs',a0,T',oT',ts',y1,y2,y4,y3,y5,nE I S d6 y6 y7 y8 y9 up,y7,y8,y9,y10⟩
theorem As{A}{G0 G}{ρ0 ρ}{st0 st}{h₀}{s}{x C}(I0:aZ Bs X G0 ρ0 st0 h₀)(I:aZ Bs X G ρ st s.heap)(S:aH G0 ρ0 st0.S9 h₀ G ρ st.S9 s.heap (aG X.fr) X.Tc)
  (hfr:A.frames=some X.fr) (hf:X.fenv.frame=some X.fenv.locals) (hx:ExcAt h₀ X.fenv.locals G ρ st.S9 s.heap x C) {Q:Unit->Shared->Prop} {E:bS}
  (K: ∀h',aZ Bs X G ρ st h'->aH G0 ρ0 st0.S9 h₀ G ρ st.S9 h' (aG X.fr) X.Tc->Ay h₀ G ρ st.S9 h' x C .none->Q () {s with heap:=h'}):wpAny (model Bs.prog w) A («leaving» X.fenv (.ref x)) Q E s:=by
 unfold «leaving»;refine am (qf I0 I S hfr hf hx λh' I' S' e'=> ?_);exact kN (s:={s with heap:=h'}) I0 I' S' e' K
end
section
variable {w:World} {Bs:Base w} {X:Cx}
theorem Iz(e:o.toV=some t):jd o= .Tg t.1:=ac (λx:Option (AV×aV)=>x.elim o λp=>AO.Tg p.1) e
section
variable {G:Gm} {ρ:Rm} {st:St} {h:Heap} {k:Nat} {o:AO} {p:Addr×Addr} {t:AV}
theorem aZ.UT(I:aZ Bs X G ρ st h)(hp:ρ[k]?=some p)(ho:st.S9[k]?=some o)(gl:dF G G')(gn: ∀b x,G' b=some x->G b=some x\/(b∈fp o p/\h.get? b=some x))(rep:ar w G' ρ t (.ref p.1)):
  aZ Bs X G' ρ {st with S9:=st.S9.set k (.Tg t)} h/\aH G ρ st.S9 h G' ρ (st.S9.set k (.Tg t)) h (aG X.fr) X.Tc:=by
 have inf: ∀b,b∈fp o p->bK ρ st.S9 b:=λb hb=>⟨k,p,o,hp,ho,hb⟩;have TJ: ∀b,bK ρ (st.S9.set k (.Tg t)) b->bK ρ st.S9 b/\b∉fp o p:=λb q=>q.elim λi q=>q.elim λa q=>q.elim λx q=>dP ho q.2.1 (λ_ e'=>fP (e'▸q.2.2:b∈fp (.Tg t) a)) λne h2=>⟨⟨i,a,x,q.1,h2,q.2.2⟩,λz=>I.g.TU i k a p x o q.1 hp h2 ho ne b q.2.2 z⟩;have Tp: ∀b,G b=none->b∉fp o p->G' b=none:=λb e nf=>wh λx q=>(gn b x q).elim (λz=>lg (z.symm.trans e)) λz=>nf z.1;exact⟨I.move ⟨I.g.base.trans gl,λb x e=>(gn b x e).elim (I.g.Tg b x) λz=>z.2,by rw[List.length_set];exact I.g.len,
   λi q x e1 e2=>dP ho e2 (λe e'=>e'▸aC (hp.symm.trans (e▸e1))▸rep) λne h2=>(I.g.rep i q x e1 h2).mono gl fk.rfl λb hb y e=>e,
   λi j q r' x y e1 e2 e3 e4 ne b hb hc=>dP ho e3 (λ_ e'=>fP (e'▸hb:b∈fp (.Tg t) q)) λn1 h3=>dP ho e4 (λ_ e'=>fP (e'▸hc:b∈fp (.Tg t) r')) λn2 h4=>I.g.TU i j q r' x y e1 e2 h3 h4 ne b hb hc,
   λb q=>Tp b (I.g.off b (TJ b q).1) (TJ b q).2,λe he=>(I.g.frs e he).imp id λz=>z.imp λL z=>z.imp λx z=>⟨z.1,z.2.1,z.2.2.1,Tp L z.2.2.2.1 (λy=>z.2.2.2.2 (inf L y)),λy=>z.2.2.2.2 (TJ L y).1⟩⟩ gl fk.rfl (λb o _ e=>⟨o.slots,e⟩)
   λb hb=>⟨Tp b (I.p b hb).1 λz=>(I.p b hb).2.1 (inf b z),λq=>(I.p b hb).2.1 (TJ b q).1,(I.p b hb).2.2⟩,
  ⟨gl,fk.rfl,λb x e _ _=>⟨x.slots,e,λ_=>rfl⟩,λb q=> .inl (TJ b q).1,λb x q=>(gn b x q).imp id λz=> .inl (inf b z.1),λb x e=>⟨x,e⟩⟩⟩
def HN(Bs:Base w)(X:Cx)(G:Gm)(ρ:Rm)(st:St)(h:Heap)(k:Nat)(t:AV):Prop:= ∃G',aZ Bs X G' ρ {st with S9:=st.S9.set k (.Tg t)} h/\aH G ρ st.S9 h G' ρ (st.S9.set k (.Tg t)) h (aG X.fr) X.Tc
theorem aZ.US(I:aZ Bs X G ρ st h)(hp:ρ[k]?=some p)(ho:st.S9[k]?=some o)(hf:fp o p=[p.1])(hx:h.get? p.1=some x)(rep:dF G (f6 G p.1 x)->ar w (f6 G p.1 x) ρ t (.ref p.1)):HN Bs X G ρ st h k t:=
 have g:=ez (o:=x) (I.g.off p.1 ⟨k,p,o,hp,ho,hf▸ .head _⟩)
 ⟨_,I.UT hp ho g (λb y e=>jN e (λq e=> .inr ⟨hf▸q▸ .head _,q▸e▸hx⟩) .inl) (rep g)⟩
theorem aZ.UD(I:aZ Bs X G ρ st h)(hp:ρ[k]?=some p)(ho:st.S9[k]?=some o)(hf:fp o p=[p.1]){K:List DictEntry->Prop}{R:List Value->Prop}(r:fq h p.1 K R)(rep: ∀{G' es n},dF G G'->G' p.1=some (dictOf es n)->K es->R (es.map (·.val))->ar w G' ρ t (.ref p.1)):HN Bs X G ρ st h k t:=
 r.elim λes r=>r.elim λn r=>I.US hp ho hf r.1 λg=>rep g dR r.2.1 r.2.2
theorem aZ.Vj{t:AV×aV}(I:aZ Bs X G ρ st h)(ho:st.S9[k]?=some o)(ht:o.toV=some t):HN Bs X G ρ st h k t.1:=by
 obtain⟨p,hp⟩: ∃p,ρ[k]?=some p:=⟨_,List.getElem?_eq_getElem (I.g.len▸(ch ho).1)⟩;have r:=I.g.rep k p o hp ho;cases o with
 |lst l=>
  obtain rfl:=aC ht;exact r.elim λvs r=>r.elim λn r=>I.US hp ho rfl r.1 λg=>⟨p.1,vs,n,rfl,dR,r.2.mono g fk.rfl⟩
 |Tl ks l=>exact aC ht▸I.UD hp ho rfl r λg e k r=>⟨p.1,_,_,rfl,e,k,r.mono g fk.rfl⟩
 |Tz ks l=>exact aC ht▸I.UD hp ho rfl r λg e k r=>⟨p.1,_,_,rfl,e,k,r.mono g fk.rfl⟩
 |dct ks l=>exact aC ht▸I.UD hp ho rfl r λg e k r=>⟨p.1,_,_,rfl,e,k.mono g,r.mono g fk.rfl⟩
 |obj C l=>
  obtain rfl:=aC ht;obtain⟨a,ne,es,n,a2,c,b⟩:=r;have g1:dF G (f6 G p.1 {cls:= .ref C,dict:=some p.2}):=ez (I.g.off p.1 ⟨k,p,_,hp,ho,.head _⟩);have g2:dF (f6 G p.1 {cls:= .ref C,dict:=some p.2}) (f6 (f6 G p.1 {cls:= .ref C,dict:=some p.2}) p.2 (dictOf es n)):=ez ((if_neg (Ne.symm ne)).trans (I.g.off p.2 ⟨k,p,_,hp,ho,.tail _ (.head _)⟩));exact⟨_,I.UT hp ho (g1.trans g2) (λb y e=>jN e (λq e=> .inr ⟨q▸ .tail _ (.head _),q▸e▸a2⟩) λe=>jN e (λq e=> .inr ⟨q▸ .head _,q▸e▸a⟩) .inl) ⟨p.1,p.2,es,n,rfl,g2 _ _ dR,dR,c,b.mono (g1.trans g2) fk.rfl⟩⟩
 |Tg t=>exact aB ht
 |dead=>exact aB ht
end
def kz(Bs:Base w)(X:Cx)(h:Heap)(ρ:Rm)(loc:List (Option AV))(σ σ':aX):Prop:=
 ∀G,aZ Bs X G ρ ⟨loc,σ⟩ h-> ∃G',aZ Bs X G' ρ ⟨loc,σ'⟩ h/\aH G ρ σ h G' ρ σ' h (aG X.fr) X.Tc
theorem kz.rfl:kz Bs X h ρ loc σ σ:=λG I=>⟨G,I,aH.rfl⟩
theorem kz.trans(x:kz Bs X h ρ loc a b)(y:kz Bs X h ρ loc b c):kz Bs X h ρ loc a c:=λG I=>by
 obtain⟨G1,I1,S1⟩:=x G I;obtain⟨G2,I2,S2⟩:=y G1 I1;exact⟨G2,I2,S1.trans S2⟩
theorem kz.one(ho:σ[k]?=some o)(ht:o.toV=some t):kz Bs X h ρ loc σ (σ.set k (.Tg t.1)):=λG I=>I.Vj ho ht
theorem kz.one'(ho:σ[k]?=some o):kz Bs X h ρ loc σ (σ.set k (jd o)):=by
 cases e:o.toV with
 |none=>
  have z:jd o=o:=ac (λx:Option (AV×aV)=>x.elim o λp=>AO.Tg p.1) e;obtain⟨l,q⟩:=ch ho;rw[z,<-q,List.set_getElem_self];exact kz.rfl
 |some t=>exact Iz e▸kz.one ho e
theorem kz.fold{h}{ρ}{loc}{α:Type}{f:aX->α->aX}(hf: ∀σ a,kz Bs X h ρ loc σ (f σ a))(l:List α): ∀(σ:aX),kz Bs X h ρ loc σ (l.foldl f σ):=by
 induction l with
 |nil=>exact λ_=>kz.rfl
 |cons a l ih=>exact λσ=>(hf σ a).trans (ih _)
theorem Kv{h}{ρ}{loc}(n): ∀(v:AV) (σ:aX),kz Bs X h ρ loc σ (fz n v σ):=by
 induction n with
 |zero=>exact λ_ _=>kz.rfl
 |succ n ih=>exact λv σ=>F1 (P:=kz Bs X h ρ loc σ) (λ_=>kz.fold (λσ a=>ih a σ) _ _) λk _=>F1 (P:=kz Bs X h ρ loc σ) (λ_=>kz.rfl) λt ht=>bA ht λo ho ht=>(kz.one ho ht).trans (kz.fold (λσ a=>ih a σ) _ _)
theorem sq{h}{ρ}{loc}(l)(σ):kz Bs X h ρ loc σ (jk l σ):=kz.fold (λσ v=>Kv 8 v σ) l σ
theorem Ep(l): ∀(σ:aX),kz Bs X h ρ loc (σ++l) (σ++l.map jd):=by
 induction l with
 |nil=>exact λ_=>kz.rfl
 |cons a l ih=>
  intro σ;have z:(σ++a::l).set σ.length (jd a)=σ++jd a::l:=by rw[List.set_append_right _ _ (Nat.le_refl _),Nat.sub_self];rfl
  have y:=ih (σ++ [jd a]);rw[List.append_assoc,List.append_assoc] at y;have e:(σ++a::l)[σ.length]?=some a:=by rw[List.getElem?_append_right (Nat.le_refl _),Nat.sub_self];rfl
  exact(z▸kz.one' e:kz Bs X h ρ loc (σ++a::l) (σ++jd a::l)).trans y
theorem Go(n)(σ):kz Bs X h ρ loc σ (σ.take n++(σ.drop n).map jd):=by
 have z:=Ep (Bs:=Bs) (X:=X) (h:=h) (ρ:=ρ) (loc:=loc) (σ.drop n) (σ.take n)
 rwa [List.take_append_drop] at z
end
theorem cJ(hf: ∀a v,ar w G ρ a v->ar w G ρ (f a) v): ∀{vs:List Value},ag w G ρ l vs->ag w G ρ (l.map f) vs:=by
 induction l with
 |nil=>exact id
 |cons a l ih=>exact λh=>h.imp λv h=>h.imp λr h=>⟨h.1,hf a v h.2.1,ih h.2.2⟩
theorem CY(hf: ∀a v,ar w G ρ a v->ar w G ρ (f a) v)(a):ar w G ρ a v->ar w G ρ (a.Us (·.map f)) v:=
 a.casesOn (motive_1:=λa=>ar w G ρ a v->ar w G ρ (a.Us (·.map f)) v) id (λ_=>id) (λ_=>id) (λ_=>id) (λ_=>id) (λ_=>id) (λ_=>id) (λ_=>jY.mono dF.rfl (cJ hf)) (λ_=>jY.mono dF.rfl (cJ hf)) (λ_ _=>gP.mono dF.rfl id (cJ hf)) (λ_ _=>gP.mono dF.rfl id (cJ hf)) (λ_ _=>gP.mono dF.rfl id (cJ hf))
  λC l h=>h.imp λa h=>h.imp λd h=>h.imp λes h=>h.imp λn h=>⟨h.1,h.2.1,h.2.2.1,(List.length_map (as:=l) f).symm▸h.2.2.2.1,cJ hf h.2.2.2.2⟩
theorem jw(I:iB w B G ρ σ fr hp)(n): ∀(a:AV) (v:Value),ar w G ρ a v->ar w G ρ (rs n σ a) v:=by
 induction n with
 |zero=>exact λ_ _ h=>h
 |succ n ih=>exact λa v h=>F1 (P:=λa=>ar w G ρ a v) (λ_=>CY ih a h) λk e=>(nx e▸h:ar w G ρ (.ref k) v).elim λp q=>F1 (P:=λa=>ar w G ρ a v) (λ_=>⟨p,q⟩) λt ht=>bA ht λo ho ht=>ih t v (q.2▸(of_eq ht▸I.rep k p o q.1 ho:dh w G ρ hp (.Tg t) p))
section
variable {w:World} {G:Gm} {ρ ρ':Rm}
def Qy(w:World)(G:Gm)(ρ ρ':Rm)(a:AV):Prop:=flat a=true-> ∀{v:Value},ar w G ρ a v->ar w G ρ' a v
def D5(w:World)(G:Gm)(ρ ρ':Rm)(l:aV):Prop:=aM l=true-> ∀{vs:List Value},ag w G ρ l vs->ag w G ρ' l vs
theorem rP:(∀a,Qy w G ρ ρ' a)/\ ∀l,D5 w G ρ ρ' l:=by
 have hc: ∀a l,Qy w G ρ ρ' a->D5 w G ρ ρ' l->D5 w G ρ ρ' (a::l):=λa l h1 h2 f vs h=>h.imp λv h=>h.imp λr h=>⟨h.1,h1 (bG f).1 h.2.1,h2 (bG f).2 h.2.2⟩;have a:=AV.rec (motive_1:=Qy w G ρ ρ') (motive_2:=D5 w G ρ ρ') (λ_=>id) (λ_ _=>id) (λ_ _=>id) (λ_ _=>id) (λ_ _=>id) (λ_ _=>id) (λ_ f=>ft f) (λ_ ih f=>jY.mono dF.rfl (ih f)) (λ_ ih f=>jY.mono dF.rfl (ih f)) (λ_ _ ih f=>gP.mono dF.rfl id (ih f)) (λ_ _ ih f=>gP.mono dF.rfl id (ih f)) (λ_ _ ih f=>gP.mono dF.rfl id (ih f))
  (λC l ih f v h=>h.imp λa h=>h.imp λd h=>h.imp λes h=>h.imp λn h=>⟨h.1,h.2.1,h.2.2.1,h.2.2.2.1,ih f h.2.2.2.2⟩) (λ_=>id) hc
 refine⟨a,λl=> ?_⟩
 induction l with
 |nil=>exact λ_=>id
 |cons x l ih=>exact hc x l (a x) ih
theorem A8(a)(f:flat a=true)(h:ar w G ρ a v):ar w G ρ' a v:=rP.1 a f h
theorem eZ(l)(f:aM l=true)(h:ag w G ρ l vs):ag w G ρ' l vs:=rP.2 l f h
end
theorem yf(I:iB w B G ρ σ fr h)(n):dh w G ρ h o p->dh w G ρ h (qX n σ o) p:=
 o.casesOn (motive:=λo=>dh w G ρ h o p->dh w G ρ h (qX n σ o) p) (λ_=>tV.mono (λ_=>id) (cJ (jw I n))) (λ_ _=>fq.mono (λ_=>id) id (cJ (jw I n))) (λ_ _=>fq.mono (λ_=>id) id (cJ (jw I n))) (λ_ _=>fq.mono (λ_=>id) id (cJ (jw I n)))
  (λC l r=>⟨r.1,r.2.1,fq.mono (λ_=>id) (λk=>(List.length_map (as:=l) (rs n σ)).symm▸k) (cJ (jw I n)) r.2.2⟩) (λ_=>id) id
theorem sB(n)(σ)(o)(p:Addr×Addr):fp (qX n σ o) p=fp o p:=by cases o<;>rfl
theorem mQ:(∀t,o≠ .Tg t)->du o=true->dh w G ρ h o p->dh w G ρ' h o p:=
 o.casesOn (motive:=λo=>(∀t,o≠ .Tg t)->du o=true->dh w G ρ h o p->dh w G ρ' h o p) (λl _ f=>tV.mono (λ_=>id) (eZ l f)) (λ_ l _ f=>fq.mono (λ_=>id) id (eZ l f)) (λ_ l _ f=>fq.mono (λ_=>id) id (eZ l f)) (λ_ l _ f=>fq.mono (λ_=>id) id (eZ l f))
  (λ_ l _ f r=>⟨r.1,r.2.1,fq.mono (λ_=>id) id (eZ l f) r.2.2⟩) (λt nl=>absurd rfl (nl t)) λ_ _=>id
section
variable {w:World} {Bs:Base w} {X:Cx}
theorem aZ.back{G G'}{ρ}{st}{h h'}{σ'}(I:aZ Bs X G ρ st h)(F:Addr->Prop)(hF: ∀b,F b->bK ρ st.S9 b)(gl:dF G G')(Vi: ∀b o,G' b=some o->h'.get? b=some o)
  (keep: ∀b o,h.get? b=some o-> ¬F b-> ∃sl,h'.get? b=some {o with slots:=sl}/\(b∉aG X.fr->sl=o.slots)) (al: ∀b o,h.get? b=some o-> ∃o',h'.get? b=some o')
  (Tr: ∀b o,G' b=some o->G b=some o\/h.get? b=none) (hlen:σ'.length=st.S9.length)
  (hσ: ∀(i:Nat) (x:AO),σ'[i]?=some x-> ∀(p:Addr×Addr),ρ[i]?=some p->(st.S9[i]?=some x/\ ∀b∈fp x p,¬F b)\/(dh w G' ρ h' x p/\ ∀b∈fp x p,(F b\/h.get? b=none)/\G' b=none)) (TU:apart ρ σ'):
  aZ Bs X G' ρ {st with S9:=σ'} h'/\aH G ρ st.S9 h G' ρ σ' h' (aG X.fr) X.Tc:=by
 have Tp: ∀b,G b=none->(∃o,h.get? b=some o)->G' b=none:=λb e l=>wh λo q=>(Tr b o q).elim (λz=>lg (z.symm.trans e)) λz=>l.elim λx l=>aD l z;have TJ: ∀b,bK ρ σ' b->bK ρ st.S9 b\/h.get? b=none:=λb q=>q.elim λi q=>q.elim λp q=>q.elim λx q=>(hσ i x q.2.1 p q.1).elim (λz=> .inl ⟨i,p,x,q.1,z.1,q.2.2⟩) λz=>(z.2 b q.2.2).1.imp (hF b) id;have U4: ∀b,¬bK ρ st.S9 b->(∃o,h.get? b=some o)-> ¬bK ρ σ' b:=λb n l z=>(TJ b z).elim n λz=>l.elim λx l=>aD l z;exact⟨I.move ⟨I.g.base.trans gl,Vi,hlen▸I.g.len,λi p x e1 e2=>(hσ i x e2 p e1).elim (λz=>(I.g.rep i p x e1 z.1).mono gl fk.rfl λb hb y e=>(keep b y e (z.2 b hb)).elim λsl q=>vD q.1 (q.2 λhf=>(sD I.g.frs hf).elim λ_ y=>y.2.2.2 ⟨i,p,x,e1,z.1,hb⟩)) λz=>z.1,TU,
   λb q=>q.elim λi q=>q.elim λp q=>q.elim λx q=>(hσ i x q.2.1 p q.1).elim (λz=>have f:bK ρ st.S9 b:=⟨i,p,x,q.1,z.1,q.2.2⟩;Tp b (I.g.off b f) (fR I.g f)) λz=>(z.2 b q.2.2).2,
   λe he=>(I.g.frs e he).imp id λz=>z.imp λL z=>z.elim λo z=>(keep L o z.2.1 λy=>z.2.2.2.2 (hF L y)).elim λsl q=>⟨_,z.1,q.1,z.2.2.1,Tp L z.2.2.2.1 ⟨_,z.2.1⟩,U4 L z.2.2.2.2 ⟨_,z.2.1⟩⟩⟩ gl fk.rfl
   (λb o hb e=>(keep b o e λz=>(I.p b (.inl hb)).2.1 (hF b z)).imp λsl q=>q.1) λb hb=>⟨Tp b (I.p b hb).1 (I.p b hb).2.2,U4 b (I.p b hb).2.1 (I.p b hb).2.2,(I.p b hb).2.2.elim (al b)⟩,
  ⟨gl,fk.rfl,λb o e nf np=>keep b o e λz=>nf (hF b z),TJ,λb o q=>(Tr b o q).imp id .inr,al⟩⟩
theorem aZ.UP{X':Cx}{G G':Gm}{ρ ρ':Rm}{st:St}{h h₀ h':Heap}{σ':aX}(I:aZ Bs X G ρ st h)(ext: ∀b o,h.get? b=some o->h₀.get? b=some o)(hp: ∀b∈X'.Tc,h.get? b=none)
  (hfr: ∀b,b∈aG X'.fr->b∈aG X.fr\/h.get? b=none) (hsub: ∀e∈X.fr,e∈X'.fr) (I':iB w Bs.B G' ρ' σ' X'.fr h') (S:aH G ρ st.S9 h₀ G' ρ' σ' h' (aG X'.fr) X'.Tc):
  aZ Bs X G' ρ' {st with S9:=σ'} h'/\aH G ρ st.S9 h G' ρ' σ' h' (aG X.fr) X.Tc:=by
 have keep: ∀b o,h.get? b=some o-> ¬bK ρ st.S9 b-> ∃sl,h'.get? b=some {o with slots:=sl}/\(b∉aG X.fr->sl=o.slots):=λb o e nf=>(S.keep b o (ext b o e) nf λz=>aD e (hp b z)).imp λsl q=>⟨q.1,λnb=>q.2 λz=>(hfr b z).elim nb λz=>aD e z⟩;have al: ∀b o,h.get? b=some o-> ∃o',h'.get? b=some o':=λb o e=>S.alive b o (ext b o e);have non: ∀b,h₀.get? b=none->h.get? b=none:=λb e=>Mine.none_of (λb o e=>⟨o,ext b o e⟩) e;exact⟨I.move ⟨I'.base,I'.Tg,I'.len,I'.rep,I'.TU,I'.off,λe he=>I'.frs e (hsub e he)⟩ S.gl S.rl (λb o hb e=>(keep b o e (I.p b (.inl hb)).2.1).imp λsl q=>q.1)
   λb hb=>⟨wh λo q=>(S.Tr b o q).elim (λz=>lg (z.symm.trans (I.p b hb).1)) λz=>z.elim (I.p b hb).2.1 λz=>(I.p b hb).2.2.elim λx l=>aD l (non b z),λz=>(S.fresh b z).elim (I.p b hb).2.1 λz=>(I.p b hb).2.2.elim λx l=>aD l (non b z),(I.p b hb).2.2.elim (al b)⟩,
  ⟨S.gl,S.rl,λb o e nf np=>keep b o e nf,λb q=>(S.fresh b q).imp id (non b),λb o q=>(S.Tr b o q).imp id λz=>z.imp id (non b),al⟩⟩
end
section
variable {w:World} (Bs:Base w) (X:Cx)
noncomputable def rW(np:Nat)(dv vs:List Value):List Value:=vs++dv.drop (vs.length-(np-dv.length))
noncomputable def xV(f:Flow):Value:=match f with| .ret v=>v|_=> .none
structure Callee (scope:Scope) (nm:List Str) (fv:List Value) (h:Heap) (env:Env) (h₀:Heap) (m:Str->Option Value):Prop where
 e1:env.scope=scope
 e2:env.globals=mainGlobals
 e3:env.builtins=builtinsNs
 e4:env.frame=some env.locals
 e5:h.get? env.locals=none
 e6:env.cells=[]\/ ∃x c,env.cells=[(x,c)]
 e7: ∀x c,env.cells.lookup x=some c->h.get? c=none/\ ∃v,h₀.IsCell c v
 VE: ∀x,env.kindOf x=some .cell-> ∃c,env.cells.lookup x=some c
 e8: ∀b o,h.get? b=some o->h₀.get? b=some o
 e9:h₀.Ns env.locals m
 e10: ∀(i:Nat) (v:Value),fv[i]?=some v-> ∃x,nm[i]?=some x/\((env.kindOf x=some .local/\m x=some v)\/((env.kindOf x=some .cell\/env.kindOf x=some .free)/\ ∃c,env.cells.lookup x=some c/\h₀.IsCell c (some v)))
def Rk(A:Around)(env:Env)(R:Result->Shared->Prop)(e:Value)(s:Shared):Prop:=wpAny (model Bs.prog w) (A.deeper env) («leaving» env e) (λ_ s'=>R (.error e) s') (λe' s'=>R (.error e') s') s
def NJ(A:Around)(env:Env)(body:List Stmt)(R:Result->Shared->Prop)(s:Shared):Prop:=wpAny (model Bs.prog w) (A.deeper env) (execs body env) (λf s'=>R (.ok (.ret (xV f))) s') (Rk Bs A env R) s
def nP(f:Addr)(scope:Scope)(body:List Stmt)(nm:List Str)(np:Nat)(dv:List Value):Prop:=
 ∀(A:Around) (R:Result->Shared->Prop) (s:Shared) (vs:List Value),A.depth<recursionLimit->(∀b o,Bs.B b=some o->s.heap.get? b=some o)->np-dv.length<=vs.length->vs.length<=np->
  (∀(env:Env) (h₀:Heap) (tk:Nat) (m:Str->Option Value),Callee scope nm (rW np dv vs) s.heap env h₀ m->NJ Bs A env body R {s with heap:=h₀,toks:=tk})->
  codeAny (model Bs.prog w) A (.call (.ref f) ⟨vs,[]⟩) R s
def vT(lvl:Nat)(fr:List Env)(A:Around):Prop:=A.depth+3*lvl+8<=1000/\A.units+30*lvl+73<=9900/\A.handled=none/\A.frames=some fr
theorem lN.one(h:lN lvl fr A):vT lvl fr A:=⟨bz (Nat.add_le_add_left ∅ _) h.1,bz (Nat.add_le_add_left ∅ _) h.2.1,h.2.2⟩
def la(f:Addr)(sp:gF):Prop:=
 ∀st args r σ',cR sp args st.S9=some (r,σ')-> ∀A G ρ (s:Shared) vs,vT X.lvl X.fr A->aZ Bs X G ρ st s.heap->ag w G ρ args vs-> ∀R:Result->Shared->Prop,
  (∀G' ρ' h' tk,aZ Bs X G' ρ' {st with S9:=σ'} h'->aH G ρ st.S9 s.heap G' ρ' σ' h' (aG X.fr) X.Tc->er X (VR (w:=w)) r G' ρ' σ' s.heap s h' tk (λv s'=>R (.ok (.ret v)) s') (λe s'=>R (.error e) s'))->
  codeAny (model Bs.prog w) A (.call (.ref f) ⟨vs,[]⟩) R s
def FR(G:Gm)(ρ:Rm)(a:Fl)(f:Flow):Prop:=a.casesOn (motive:=λ_=>Prop) (f= .next) (f= .cont) λa=> ∃v,f= .ret v/\ar w G ρ a v
structure s9 (scope:Scope) (nm:List Str) (gl:Gl):Prop where
 fn:scope.kind= .function
 nd:nm.Nodup
 loc: ∀x∈nm,(x==("__debug__" :Str))=false/\(x==("__classdict__" :Str))=false/\(scope.names.lookup x=some .local\/scope.names.lookup x=some .cell\/scope.names.lookup x=some .free)
 UU: ∀p∈gl,(p.1==("__debug__" :Str))=false/\xC Bs p.1 p.2
def BodyOk(l:Nat)(T:Tb)(gl:Gl)(ir:List IS)(nm:List Str)(scope:Scope)(body:List Stmt):Prop:=
 ∀X':Cx,X'.Ok Bs->X'.env=X'.fenv->X'.nm=nm->X'.gl=gl->X'.lvl=l->X'.env.scope=scope->(∀a∈X'.env.cells.map (·.2),a∈X'.Tc)->SE Bs X' (λ_ _=>True) (wp Bs (execs body X'.env)) (ae T gl ir) (FR (w:=w))
variable {Bs X}
theorem FR.val{G}{ρ}{a}{fl}{v}(h:FR (w:=w) G ρ a fl)(e:a.val=some v):ar w G ρ v (xV fl):=by
 cases a with
 |next=>obtain rfl:=aC e;obtain rfl:fl= .next:=h;rfl
 |cont=>exact aB e
 |ret a=>obtain rfl:=aC e;exact h.elim λv z=>z.1▸z.2
noncomputable def cV(fr:List Env)(env:Env)(nm:List Str)(gl:Gl)(l:Nat):Cx:=⟨env,env,fr,nm,gl,l,env.locals::env.cells.map (·.2)⟩
theorem Ax(h0:d.length<=np)(h1:np-d.length<=args.length)(h2:args.length<=np):(c0 np d args).length=np:=by
 unfold c0;rw[List.length_append,List.length_drop];omega
theorem BJ(hd:ag w (λ_=>none) [] d dv)(h:ag w G ρ args vs):ag w G ρ (c0 np d args) (rW np dv vs):=by
 unfold c0 rW;rw[h.length,hd.length];exact h.append ((hd.mono (λ_ _ e=>aB e) (λ_ _ e=>aB e)).drop _)
section
variable {fr:List Env} {h h₀:Heap} {env:Env} {l:Nat} {m:Str->Option Value} {full:aV} {fv:List Value}
theorem Callee.ok{l}(c:Callee scope nm fv h env h₀ m)(hS:s9 Bs scope nm gl):(cV fr env nm gl l).Ok Bs:=by
 obtain⟨rfl,e2,e3,e4,e5,e6,e7,VE,_⟩:=c;exact⟨hS.fn,e2,e3,hS.nd,hS.loc,hS.UU,e4,e6,e4,VE⟩
theorem Callee.Tc(c:Callee scope nm fv h env h₀ m): ∀b∈env.locals::env.cells.map (·.2),h.get? b=none/\ ∃o,h₀.get? b=some o:=λb hb=>
 (cW hb).elim (λq=>q▸⟨c.e5,(kQ c.e9).imp λo z=>z.1⟩) λhb=>c.e6.elim (λe=>fP (e▸hb:b∈([]:List (Str×Addr)).map (·.2))) λz=>z.elim λx z=>z.elim λd e=>
  have y:=c.e7 x d (by rw[e];simp[List.lookup])
  dt (e▸hb:b∈ [(x,d)].map (·.2))▸⟨y.1,y.2.elim λv z=>z.imp λo z=>z.1⟩
theorem Callee.hp(c:Callee scope nm fv h env h₀ m): ∀b∈(cV fr env nm gl l).Tc,h.get? b=none:=λb hb=>(c.Tc b hb).1
theorem Callee.hfr(c:Callee scope nm fv h env h₀ m): ∀b,b∈aG (cV fr env nm gl l).fr->b∈aG fr\/h.get? b=none:=λb hb=>(List.mem_filterMap.mp hb).elim λe z=>(cW z.1).elim (λq=> .inr (by rw[q] at z;exact aC (z.2.symm.trans c.e4)▸c.e5)) λq=> .inl (List.mem_filterMap.mpr ⟨e,q,z.2⟩)
theorem Callee.inv(c:Callee scope nm fv h env h₀ m)(hS:s9 Bs scope nm gl)(g:iB w Bs.B G ρ σ fr h)(hr:ag w G ρ full fv)(hlen:full.length<=nm.length):aZ Bs (cV fr env nm gl l) G ρ ⟨full.map some++List.replicate (nm.length-full.length) none,σ⟩ h₀:=by
 have gn: ∀b,h.get? b=none->G b=none:=λb e=>wh λo q=>aD (g.Tg b o q) e;have inn: ∀b,h.get? b=none-> ¬bK ρ σ b:=λb e q=>(fR g q).elim λo ho=>aD ho e;refine⟨⟨g.base,λb o e=>c.e8 b o (g.Tg b o e),g.len,λk p o e1 e2=>(g.rep k p o e1 e2).mono dF.rfl fk.rfl λb hb x e=>c.e8 b x e,g.TU,g.off,λe he=>(cW he).elim (λq=> ?_) λhe=>(g.frs e he).imp id λz=>z.imp λL z=>z.imp λo z=>⟨z.1,c.e8 L o z.2.1,z.2.2⟩⟩,?_,
  ⟨m,c.e9,λi a e=> ?_,λx d lk=>(c.e7 x d lk).2⟩,λb hb=>have z:=c.Tc b (hb.elim id id);⟨gn b z.1,inn b z.1,z.2⟩,.head _⟩
 ·rw[q];exact⟨show env.scope.kind≠ .module by rw[c.e1,hS.fn];exact(λz=>nomatch z),env.locals,(kQ c.e9).imp λo z=>⟨c.e4,z.1,z.2,gn _ c.e5,inn _ c.e5⟩⟩
 ·show(full.map some++List.replicate (nm.length-full.length) none).length=nm.length;rw[List.length_append,List.length_map,List.length_replicate,Nat.add_sub_cancel' hlen]
 ·have hi:full[i]?=some a:=by
   by_cases hi:i<full.length
   ·rw[List.getElem?_append_left (by rwa [List.length_map]),List.getElem?_map] at e;exact ed e λx e q=>e.trans q
   ·rw[List.getElem?_append_right (by rw[List.length_map];exact Nat.not_lt.mp hi),List.getElem?_replicate] at e;split at e
    ·exact lg (aC e).symm
    ·exact aB e
  exact(hr.get hi).elim λv z=>(c.e10 i v z.1).imp λx y=>⟨v,y.1,z.2,y.2⟩
end
theorem vh(hA:vT (l+1) fr A):lN (cV fr env nm gl l).lvl (cV fr env nm gl l).fr (A.deeper env):=by
 obtain⟨a,b,c,d⟩:=hA;refine⟨?_,?_,c,ac (Option.map _) d⟩
 ·show A.depth+1+3*l+10<=1000;omega
 ·show A.units+3+30*l+100<=9900;omega
theorem BM(hA:vT lvl fr A):A.depth<recursionLimit:=dA (dA (Nat.lt_add_of_pos_right ∅) (bz (Nat.add_le_add_right (Nat.le_add_right _ _) 8) hA.1)) (by unfold recursionLimit;decide)
section
variable {d:aV} {T:Tb} {ir:List IS} {byref:Bool} (hE:nP Bs f scope body nm np dv) (hS:s9 Bs scope nm gl) (hd:ag w (λ_=>none) [] d dv) (hB:BodyOk Bs l T gl ir nm scope body) (hnp:np<=nm.length) (hdn:d.length<=np)
include hE hS hd hB hnp hdn
theorem call_in{fr}{A}{G}{ρ}{σ}{s}{args}{vs}{R:Result->Shared->Prop}{q:Res Fl×St}(hA:vT (l+1) fr A)(g0:iB w Bs.B G ρ σ fr s.heap)(hv:ag w G ρ args vs)(hargs:(decide (np-d.length<=args.length)&&decide (args.length<=np))=true)
  (he:ae T gl ir ⟨(c0 np d args).map some++List.replicate (nm.length-(c0 np d args).length) none,σ⟩=some q)
  (K: ∀env h₀ tk m,Callee scope nm (rW np dv vs) s.heap env h₀ m->aZ Bs (cV fr env nm gl l) G ρ ⟨(c0 np d args).map some++List.replicate (nm.length-(c0 np d args).length) none,σ⟩ h₀-> ∀G' ρ' h' tk',aZ Bs (cV fr env nm gl l) G' ρ' q.2 h'->aH G ρ σ h₀ G' ρ' q.2.S9 h' (aG (cV fr env nm gl l).fr) (cV fr env nm gl l).Tc->
   er (cV fr env nm gl l) (FR (w:=w)) q.1 G' ρ' q.2.S9 h₀ {s with heap:=h₀,toks:=tk} h' tk' (λf s'=>R (.ok (.ret (xV f))) s') (Rk Bs A env R)):codeAny (model Bs.prog w) A (.call (.ref f) ⟨vs,[]⟩) R s:=by
 have ha:=(bG hargs).imp aT aT;refine hE A R s vs (BM hA) (λb o e=>g0.Tg b o (g0.base b o e)) (hv.length▸hd.length▸ha.1) (hv.length▸ha.2) λenv h₀ tk m c=> ?_;have I':=c.inv (fr:=fr) (l:=l) (gl:=gl) hS g0 (BJ hd hv) (by rw[Ax hdn ha.1 ha.2];exact hnp);exact hB _ (c.ok hS) rfl rfl rfl rfl c.e1 (λa ha=> .tail _ ha) _ _ _ he (A.deeper env) G ρ {s with heap:=h₀,toks:=tk} (vh hA) I' trivial _ _ (K env h₀ tk m c I')
theorem LA(hl:X.lvl=l+1):la Bs X f ⟨byref,true,λargs σ=>k9 T gl nm.length np d true ir args σ⟩:=λst args r σ' hc A G ρ s vs hA hI hv R k=>
 eV hc λhargs hc=>bA hc λq he hc=>call_in hE hS hd hB hnp hdn (hl▸hA) hI.g hv hargs he λenv h₀ tk m c I' G' ρ' h' tk' I2 S2=>by
  obtain⟨q1,st2⟩:=q;cases q1 with
  |exc C=>exact aB hc
  |ok a=>
   refine λfl hf=>bA hc λv e hc=> ?_;obtain⟨rfl,rfl⟩:=so hc;have z:=hI.UP c.e8 c.hp c.hfr (λe he=> .tail _ he) I2.g S2;exact k G' ρ' h' tk' z.1 z.2 _ (hf.val e)
end
structure Mq (X:Cx) (G1 G':Gm) (ρ0:Rm) (σ0:aX) (h h':Heap):Prop where
 gl:dF G1 G'
 Tg: ∀b o,G' b=some o->h'.get? b=some o
 keep: ∀b o,h.get? b=some o-> ¬bK ρ0 σ0 b-> ∃sl,h'.get? b=some {o with slots:=sl}/\(b∉aG X.fr->sl=o.slots)
 al: ∀b o,h.get? b=some o-> ∃o',h'.get? b=some o'
 Tr: ∀b o,G' b=some o->G1 b=some o\/h.get? b=none\/bK ρ0 σ0 b
inductive Jl (h₀:Heap) (G:Gm) (h:Heap) (x C:Addr):Prop where
 |mk (f:h₀.get? x=none/\G x=none) (oe:Obj) (vs:Array Value) (a0:Value) (T:Addr) (oT:Obj) (ts:Array Value) (d1:h.get? x=some oe) (d2:oe.cls= .ref C) (d3:oe.data= .fields vs) (d4:vs[0]?=some a0) (d5:vs[1]?=some (.ref T)) (d6:h₀.get? T=none/\G T=none) (d9:T≠x)
  (Ua:h.get? T=some oT) (Uj:oT.data= .fields ts) (Up:ts[3]?=some .none)
theorem Jl.at(inn: ∀b,h₀.get? b=none-> ¬bK ρ σ b)(e:Jl h₀ G h x C):ExcAt h₀ L G ρ σ h x C:=by
 obtain⟨⟨a,b⟩,oe,vs,a0,T,oT,ts,d1,d2,d3,d4,d5,⟨d6,d7⟩,d9,Ua,Uj,Up⟩:=e;exact⟨a,b,inn x a,oe,vs,a0,d1,d2,d3,d4,.inr ⟨T,oT,ts,.none,d5,d6,d9,d7,inn T d6,Ua,Uj,Up,.inl rfl⟩⟩
def S7(Bs:Base w)(X:Cx)(G1:Gm)(ρ0:Rm)(σ0:aX)(s:Shared)(r':Res AV)(T9:aX)(R:Result->Shared->Prop):Prop:= ∀v G' h' tk u,r'= .ok v->Mq X G1 G' ρ0 σ0 s.heap h'->ar w G' [] v u->T9.length=σ0.length->(∀(i:Nat) (o:AO) (p:Addr×Addr),T9[i]?=some o->ρ0[i]?=some p->o.live=true->dh w G' [] h' o p/\ ∀b∈fp o p,(bK ρ0 σ0 b\/s.heap.get? b=none)/\G' b=none)->apart ρ0 T9->
   R (.ok (.ret u)) {s with heap:=h',toks:=tk}
def Sa(X:Cx)(G1:Gm)(ρ0:Rm)(σ0:aX)(s:Shared)(r':Res AV)(R:Result->Shared->Prop):Prop:= ∀C h' tk x,r'= .exc C->Mq X G1 G1 ρ0 σ0 s.heap h'->Jl s.heap G1 h' x C->R (.error (.ref x)) {s with heap:=h',toks:=tk}
theorem Callee.eff(c:Callee scope nm fv h env h₀ m)(fz: ∀b o,G' b=some o->h'.get? b=some o)(S:aH G1 ρ0 σ0 h₀ G' ρ' σ' h' (aG (cV X.fr env nm gl l).fr) (cV X.fr env nm gl l).Tc):Mq X G1 G' ρ0 σ0 h h':=
 ⟨S.gl,fz,λb o e nf=>(S.keep b o (c.e8 b o e) nf λz=>aD e (c.hp b z)).imp λsl q=>⟨q.1,λnb=>q.2 λz=>(c.hfr b z).elim nb λz=>aD e z⟩,λb o e=>S.alive b o (c.e8 b o e),
  λb o q=>(S.Tr b o q).imp id λz=>z.elim .inr λz=> .inl (Mine.none_of (λb o e=>⟨o,c.e8 b o e⟩) z)⟩
theorem ID{Y:Cx}{st:St}{h h0:Heap}{r':Res AV}{v:AV}{u:Value}(hl:ρ0.length=σ0.length)(non: ∀b,h0.get? b=none->h.get? b=none)(hr:td v σ0.length st.S9=some (r',T9))(I:aZ Bs Y G2 ρ2 st h2)(S:aH G1 ρ0 σ0 h0 G2 ρ2 st.S9 h2 frs Wm)(hu:ar w G2 ρ2 v u):
  ∃G' v',aZ Bs Y G' ρ2 ⟨st.loc,lB σ0.length st.S9⟩ h2/\aH G2 ρ2 st.S9 h2 G' ρ2 (lB σ0.length st.S9) h2 (aG Y.fr) Y.Tc/\r'= .ok v'/\ar w G' [] v' u/\(aH G1 ρ0 σ0 h0 G' ρ2 (lB σ0.length st.S9) h2 frs Wm->T9.length=σ0.length/\(∀(i:Nat) (o:AO) (p:Addr×Addr),T9[i]?=some o->ρ0[i]?=some p->o.live=true->dh w G' [] h2 o p/\ ∀b∈fp o p,(bK ρ0 σ0 b\/h.get? b=none)/\G' b=none)/\apart ρ0 T9):=by
 obtain⟨G3,I3,S3⟩:=Go (Bs:=Bs) (X:=Y) σ0.length st.S9 G2 I;refine eV hr λhf hr=> ?_;obtain⟨rfl,rfl⟩:=so hr;change aZ Bs Y G3 ρ2 ⟨st.loc,lB σ0.length st.S9⟩ h2 at I3;change aH G2 ρ2 st.S9 h2 G3 ρ2 (lB σ0.length st.S9) h2 _ _ at S3;generalize lB σ0.length st.S9=σ1 at hf I3 S3 ⊢;have hf:=bG hf;have inj: ∀{i:Nat} {o:AO} {p:Addr×Addr},((σ1.take σ0.length).map (qX 8 σ1))[i]?=some o->ρ0[i]?=some p-> ∃o1,σ1[i]?=some o1/\o1∈σ1.take σ0.length/\qX 8 σ1 o1=o:=fun{i o p} h1 h2=>by
  rw[List.getElem?_map] at h1;refine ed h1 λo1 e q=>⟨o1,?_,gz e,q⟩
  rwa [List.getElem?_take,if_pos (hl▸(ch h2).1)] at e
 refine⟨G3,_,I3,S3,rfl,A8 _ hf.1 (jw I3.g 8 _ _ (ar.mono S3.gl fk.rfl v hu)),λS=>⟨?_,λi o p h1 h2 hlive=> ?_,λi j p q x y h1 h2 h3 h4 ne b hb hc=> ?_⟩⟩
 ·have z:σ0.length<=σ1.length:=by
   rw[<-I3.g.len,<-hl];cases q:ρ0.length with
   |zero=>exact Nat.zero_le _
   |succ n=>exact(ch (S.rl n _ (List.getElem?_eq_getElem (q▸Nat.lt_succ_self n)))).1
  rw[List.length_map,List.length_take,Nat.min_eq_left z]
 ·obtain⟨o1,h1',hm,rfl⟩:=inj h1 h2;have hp2:=S.rl i p h2;have ho1: ∀t,o1≠ .Tg t:=λt q=>by subst q;exact ft hlive
  refine⟨mQ (λt q=> ?_) (gj hf.2 _ (List.mem_map.mpr ⟨o1,hm,rfl⟩)) (yf I3.g 8 (I3.g.rep i p o1 hp2 h1')),λb hb=> ?_⟩
  ·cases o1 with
   |Tg t'=>exact ho1 t' rfl
   |_=>cases q
  ·have q:bK ρ2 σ1 b:=⟨i,p,o1,hp2,h1',sB 8 σ1 o1 p▸hb⟩;exact⟨(S.fresh b q).imp id (non b),I3.g.off b q⟩
 ·obtain⟨x1,h3',_,rfl⟩:=inj h3 h1;obtain⟨y1,h4',_,rfl⟩:=inj h4 h2;exact I3.g.TU i j p q x1 y1 (S.rl i p h1) (S.rl j q h2) h3' h4' ne b (sB 8 σ1 x1 p▸hb) (sB 8 σ1 y1 q▸hc)
section
variable {d:aV} {T:Tb} {ir:List IS} {byref:Bool} (hl:X.lvl=l+1) (hE:nP Bs f scope body nm np dv) (hS:s9 Bs scope nm gl) (hd:ag w (λ_=>none) [] d dv) (hB:BodyOk Bs l T gl ir nm scope body) (hnp:np<=nm.length) (hdn:d.length<=np)
include hl hE hS hd hB hnp hdn
theorem vK{A:Around}{G1:Gm}{ρ0:Rm}{σ0:aX}{s:Shared}{args:aV}{vs:List Value}{r':Res AV}{T9:aX}
  (hA:vT X.lvl X.fr A) (g0:iB w Bs.B G1 ρ0 σ0 X.fr s.heap) (hv:ag w G1 ρ0 args vs) (hrun:k9 T gl nm.length np d false ir args σ0=some (r',T9)) {R:Result->Shared->Prop} (VT:S7 Bs X G1 ρ0 σ0 s r' T9 R) (VS:Sa X G1 ρ0 σ0 s r' R):codeAny (model Bs.prog w) A (.call (.ref f) ⟨vs,[]⟩) R s:=
 eV hrun λhargs hc=>bA hc λq he hc=>call_in hE hS hd hB hnp hdn (hl▸hA) g0 hv hargs he λenv h₀ tk m c I' G2 ρ2 h2 tk2 I2 S2=>by
  have non: ∀b,h₀.get? b=none->s.heap.get? b=none:=λb e=>Mine.none_of (λb o e=>⟨o,c.e8 b o e⟩) e;obtain⟨q1,st2⟩:=q;cases q1 with
  |exc C=>
   refine λx hx=> ?_;obtain⟨rfl,rfl⟩:=so (show some ((Res.exc C:Res AV),σ0.map λ_=>AO.dead)=some (r',T9) from hc);refine As (X:=cV X.fr env nm gl l) (s:={s with heap:=h2,toks:=tk2}) I' I2 S2 (vh (hl▸hA)).2.2.2 c.e4 hx λh3 I3 S3 ht=> ?_;have ef:=c.eff I3.g.Tg S3;obtain⟨f,oe,vs',a0,T',oT,ts,d1,d2,d3,d4,d5,d6,d9,Ua,Uj,Up⟩:=ht;have gn: ∀b,G2 b=none->G1 b=none:=λb e=>wh λo q=>lg ((S2.gl b o q).symm.trans e);exact VS C h3 tk2 x rfl ⟨dF.rfl,λb o e=>ef.Tg b o (ef.gl b o e),ef.keep,ef.al,λb o q=> .inl q⟩ ⟨⟨non x f.1,gn x f.2.1⟩,oe,vs',a0,T',oT,ts,d1,d2,d3,d4,d5,⟨non T' d6.1,gn T' d6.2.1⟩,d9,Ua,Uj,Up⟩
  |ok a=>
   refine λfl hf=>bA hc λv e hr=> ?_;obtain⟨G3,v',I3,S3,e3,hu,z⟩:=ID (h:=s.heap) g0.len non hr I2 S2 (hf.val e);have S:=S2.trans S3;have z:=z S;exact VT v' G3 h2 tk2 _ e3 (c.eff I3.g.Tg S) hu z.1 z.2.1 z.2.2
end
theorem Fc(h1:o.live=true)(h2:o'.live=true)(h3:o.isObj=o'.isObj):fp o p=fp o' p:=by
 cases o<;>cases o'<;>first|rfl|exact ft h1|exact ft h2|exact ft h3|exact tf h3
theorem BI(n:Nat)(σ)(o):(qX n σ o).live=o.live/\(qX n σ o).isObj=o.isObj:=by cases o<;>exact⟨rfl,rfl⟩
theorem yM{P:Prop}(h:bK [] [] b):P:=h.elim λk h=>h.elim λp h=>h.elim λo h=>aB h.1
theorem za{o:AO}(h:o.live=true)(t:AV):o≠ .Tg t:=λq=>by subst q;exact ft h
section
variable {d:aV} {T:Tb} {ir:List IS} {byref:Bool} (hl:X.lvl=l+1) (hE:nP Bs f scope body nm np dv) (hS:s9 Bs scope nm gl) (hd:ag w (λ_=>none) [] d dv) (hB:BodyOk Bs l T gl ir nm scope body) (hnp:np<=nm.length) (hdn:d.length<=np)
include hl hE hS hd hB hnp hdn
theorem DS:la Bs X f ⟨false,false,λargs σ=>k9 T gl nm.length np d false ir args σ⟩:=by
 intro st args r σ' hc A G ρ s vs hA hI hv R k;obtain⟨G1,I1,S1⟩:=sq (Bs:=Bs) (X:=X) (h:=s.heap) (ρ:=ρ) (loc:=st.loc) args st.S9 G hI;refine eV (show yd _ args st.S9=some (r,σ') from hc) λhfl hc=>bA hc λq hrun hc=> ?_;have hv1:ag w G1 [] (args.map (rs 8 (jk args st.S9))) vs:=eZ _ hfl (cJ (jw I1.g 8) (hv.mono S1.gl fk.rfl));have g0:iB w Bs.B G1 [] [] X.fr s.heap:=⟨I1.g.base,I1.g.Tg,rfl,λk p o e=>aB e,λi j p q x y e=>aB e,λb=>yM,λe he=>(I1.g.frs e he).imp id λz=>z.imp λL z=>z.imp λo z=>⟨z.1,z.2.1,z.2.2.1,z.2.2.2.1,yM⟩⟩;have back: ∀G' h',Mq X G1 G' [] [] s.heap h'->aZ Bs X G' ρ ⟨st.loc,jk args st.S9⟩ h'/\aH G1 ρ (jk args st.S9) s.heap G' ρ (jk args st.S9) h' (aG X.fr) X.Tc:=λG' h' ef=>
  I1.back (λ_=>False) (λ_ z=>z.elim) ef.gl ef.Tg (λb o e _=>ef.keep b o e yM) ef.al (λb o q=>(ef.Tr b o q).imp id λz=>z.elim id yM) rfl (λi x e p hp=> .inl ⟨e,λ_ _ z=>z⟩) I1.g.TU
 obtain⟨q1,T9⟩:=q;refine vK hl hE hS hd hB hnp hdn hA g0 hv1 hrun (λv G' h' tk u e ef hu _ _ _=> ?_) λC h' tk x e ef hx=> ?_<;>obtain rfl:q1=_:=e
 ·refine eV hc λ_ hc=> ?_;obtain⟨rfl,rfl⟩:=so hc;have z:=back G' h' ef;exact k G' ρ h' tk z.1 (S1.trans z.2) u (ar.mono dF.rfl (λk p e=>aB e) v hu)
 ·obtain⟨rfl,rfl⟩:=so (show some ((Res.exc C:Res AV),jk args st.S9)=some (r,σ') from hc);have z:=back G1 h' ef;exact k G1 ρ h' tk z.1 (S1.trans z.2) x (hx.at λb e q=>(fR I1.g q).elim λo ho=>aD ho e)
theorem Eo:la Bs X f ⟨true,false,λargs σ=>k9 T gl nm.length np d false ir args σ⟩:=by
 intro st args r σ' hc A G ρ s vs hA hI hv R k;refine On (show qt args _=some (r,σ') from hc) λx args1 ea hc=>bA hc λk' ek hc=>bA hc λoo hoo hc=> ?_;rw[ea,nx ek] at hv;clear ea ek hoo;obtain⟨G1,I1,S1⟩:=((sq (Bs:=Bs) (X:=X) (h:=s.heap) (ρ:=ρ) (loc:=st.loc) args1 st.S9).trans (sq oo.vals (jk args1 st.S9))) G hI;generalize jk oo.vals (jk args1 st.S9)=σ2 at I1 S1 hc;refine bA hc λo1 ho1 hc=>eV hc λhcond hc=>bA hc λq hrun hc=> ?_;have hcond:=bG hcond;have hlive:=(bG hcond.1).1;obtain⟨u0,vs1,rfl,⟨p,hp,rfl⟩,hv1⟩:=hv;have Uq: ∀{b},bK [p] [qX 8 σ2 o1] b->b∈fp o1 p:=fun{b} z=>z.elim λi z=>z.elim λq z=>z.elim λx z=>by
  obtain⟨e1,e2,e3⟩:=z;cases i with
  |zero=>obtain rfl:=aC e1;obtain rfl:=aC e2;exact sB 8 σ2 o1 p▸e3
  |succ i=>exact aB e1
 have UJ: ∀b,b∈fp o1 p->bK ρ σ2 b:=λb hb=>⟨k',p,o1,hp,ho1,hb⟩;have g0:iB w Bs.B G1 [p] [qX 8 σ2 o1] X.fr s.heap:=⟨I1.g.base,I1.g.Tg,rfl,λi q o e1 e2=>by
   cases i with
   |zero=>
    obtain rfl:=aC e1;obtain rfl:=aC e2;exact mQ (za ((BI 8 σ2 o1).1.trans hlive)) (bG hcond.1).2 (yf I1.g 8 (I1.g.rep k' p o1 hp ho1))
   |succ i=>exact aB e1,λi j q q' x y e1 e2 e3 e4 ne=>by
   cases i with
   |zero=>cases j with
    |zero=>exact absurd rfl ne
    |succ j=>exact aB e2
   |succ i=>exact aB e1,λb q=>I1.g.off b (UJ b (Uq q)),λe he=>(I1.g.frs e he).imp id λz=>z.imp λL z=>z.imp λo z=>⟨z.1,z.2.1,z.2.2.1,z.2.2.2.1,λq=>z.2.2.2.2 (UJ L (Uq q))⟩⟩
 have hv2:ag w G1 [p] (.ref 0::args1.map (rs 8 σ2)) (.ref p.1::vs1):=⟨_,_,rfl,⟨p,rfl,rfl⟩,eZ _ hcond.2 (cJ (jw I1.g 8) (hv1.mono S1.gl fk.rfl))⟩;have UA: ∀{i:Nat} {x:AO} {q:Addr×Addr},i≠k'->σ2[i]?=some x->ρ[i]?=some q-> ∀b∈fp x q,b∉fp o1 p:=fun{i x q} ne e1 e2 b hb=>I1.g.TU i k' q p x o1 e2 hp e1 ho1 ne b hb;have Ux: ∀{q},ρ[k']?=some q->q=p:=λe=>aC (e.symm.trans hp);have TU: ∀o',(∀b∈fp o' p,b∈fp o1 p)->apart ρ (σ2.set k' o'):=λo' sub i j q q' x y e1 e2 e3 e4 ne b hb hc=>
  dP ho1 e3 (λe e'=>dP ho1 e4 (λf _=>ne (e.trans f.symm)) λn2 h4=>UA n2 h4 e2 b hc (sub b (Ux (e▸e1)▸e'▸hb))) λn1 h3=>dP ho1 e4 (λf f'=>UA n1 h3 e1 b hb (sub b (Ux (f▸e2)▸f'▸hc))) λn2 h4=>I1.g.TU i j q q' x y e1 e2 h3 h4 ne b hb hc
 have back: ∀G' h' o',Mq X G1 G' [p] [qX 8 σ2 o1] s.heap h'->(∀b∈fp o' p,b∈fp o1 p)->(∀b o,G' b=some o->bK [p] [qX 8 σ2 o1] b->G1 b=some o)->dh w G' ρ h' o' p/\(∀b∈fp o' p,G' b=none)->aZ Bs X G' ρ ⟨st.loc,σ2.set k' o'⟩ h'/\aH G1 ρ σ2 s.heap G' ρ (σ2.set k' o') h' (aG X.fr) X.Tc:=λG' h' o' ef sub gn rep=>
  I1.back (σ':=σ2.set k' o') (λb=>b∈fp o1 p) UJ ef.gl ef.Tg (λb o e nf=>ef.keep b o e (λq=>nf (Uq q))) ef.al (λb o q=>(ef.Tr b o q).elim .inl λz=>z.elim .inr λz=> .inl (gn b o q z)) (by rw[List.length_set])
   (λi x e q hq=>dP ho1 e (λf f'=>by subst f f';rw[Ux hq];exact .inr ⟨rep.1,λb hb=>⟨.inl (sub b hb),rep.2 b hb⟩⟩) λne h2=> .inl ⟨h2,UA ne h2 hq⟩) (TU o' sub)
 obtain⟨q1,T9⟩:=q;refine vK hl hE hS hd hB hnp hdn hA g0 hv2 hrun (λv G' h' tk u e ef hu _ hrep _=> ?_) λC h' tk x e ef hx=> ?_<;>obtain rfl:q1=_:=e
 ·refine bA hc λo' eo hc=>eV hc λhck hc=> ?_;obtain⟨rfl,rfl⟩:=so hc;have c:=bG hck;have c':=bG c.1;have c'':=bG c'.1;have es:T9[0]?=some o':=by
   cases T9 with
   |nil=>exact aB eo
   |cons x t=>exact eV eo λ_ e=>e
  obtain⟨r1,r2⟩:=hrep 0 o' p es rfl c'.2;have VF:fp o1 p=fp o' p:=Fc hlive c'.2 (eq_of_beq c.2);have z:=back G' h' o' ef (λb hb=>VF▸hb) (λb o q y=>lg (q.symm.trans (r2 b (VF▸Uq y)).2)) ⟨mQ (za c'.2) c''.2 r1,λb hb=>(r2 b hb).2⟩;exact k G' ρ h' tk z.1 (S1.trans z.2) u (ar.mono dF.rfl (λk p e=>aB e) v hu)
 ·obtain⟨rfl,rfl⟩:=so (show some ((Res.exc C:Res AV),σ2.set k' .dead)=some (r,σ') from hc);have z:=back G1 h' .dead ef (λb hb=>fP hb) (λb o q _=>q) ⟨trivial,λb hb=>fP hb⟩;exact k G1 ρ h' tk z.1 (S1.trans z.2) x (hx.at λb e q=>(z.2.fresh b q).elim (λy=>(fR I1.g y).elim λo ho=>aD ho e) λ_=>q.elim λi q=>q.elim λq1 q=>q.elim λx1 q=>dP ho1 q.2.1 (λ_ f=>fP (f▸q.2.2:b∈fp .dead q1)) λne h2=>(fR I1.g ⟨i,q1,x1,q.1,h2,q.2.2⟩).elim λo ho=>aD ho e)
theorem L5:la Bs X f ⟨byref,false,λargs σ=>k9 T gl nm.length np d false ir args σ⟩:=by
 cases byref with
 |false=>exact DS hl hE hS hd hB hnp hdn
 |true=>exact Eo hl hE hS hd hB hnp hdn
end
end
theorem rX(C)(vs):(Code.builtin "type.__call__" ⟨.ref C::vs,[]⟩).weight=1:=by
 have h:guardIds.contains "type.__call__" =false:=by decide+kernel
 show 0+1+(if guardIds.contains "type.__call__" then 1 else 0)+0=1;rw[h];rfl
theorem IR(h:lN lvl fr A):vT lvl fr (A.under (.builtin "type.__call__" ⟨.ref C::vs,[]⟩)):=by
 obtain⟨a,b,c,d⟩:=h;refine⟨?_,?_,c,?_⟩
 ·show A.depth+_+3*lvl+8<=1000;rw[rX];omega
 ·show A.units+(1+3*0)+30*lvl+73<=9900;omega
 ·exact d
section
variable {w:World} (Bs:Base w) (X:Cx)
structure AC (T:Tb):Prop where
 fn: ∀f sp,T.fn f=some sp->la Bs X f sp/\keepIn Bs.K (.ref f)=true
 mt: ∀C n f,T.mt C n=some f->n∉lay C/\n<55/\plainGet Bs.K C (AN.getD n Str.empty)=true/\findIn Bs.K (.ref C) (AN.getD n Str.empty)=some (some (.ref f))/\isFn Bs.K (.ref f)=true
 sup: ∀C f,T.mt C 44=some f-> ∃mc,specialIn Bs.K (.ref C) "__getattribute__" =some (some (.builtin "type.__getattribute__"))/\readsIn Bs.K C mc=true/\findCls Bs.K (.ref C) mc (AN.getD 44 Str.empty)=some (.val (.ref f))
 init: ∀C f,T.init C=some f->makesIn Bs.K C=true/\findIn Bs.K (.ref C) "__init__" =some (some (.ref f))/\isFn Bs.K (.ref f)=true/\keepIn Bs.K (.ref C)=true
variable {Bs X}
theorem hZ(hX:X.Ok Bs){g:Nat}{x}{c}{np}(hx:X.gl[g]?=some (x,.cst c))(kg:X.env.kindOf x=some .globalImplicit){A}{G}{ρ}{st}{s}(hI:aZ Bs X G ρ st s.heap){Q:bS}{E:bS}(k:Q c s):
  wpAny (model Bs.prog w) A (eval (.Name x np) X.env) Q E s:=by
 obtain⟨d1,v,hv,hg⟩:=hX.UU _ (gz hx);obtain rfl:v=c:=hv;have hk: ∀b o,Bs.B b=some o->s.heap.get? b=some o:=λb o e=>hI.g.Tg b o (hI.g.base b o e);have ng:=hX.gl.symm▸Bs.hg _ hk;have nb:=hX.bl.symm▸Bs.hb _ hk;exact hg.elim (λhg=>Name_function_global hX.fn kg (loadGlobal_global ng hg k) d1) λhg=>Name_function_global hX.fn kg (loadGlobal_builtin ng hg.1 nb hg.2 k) d1
theorem qo{gl}{g:Nat}{x}{v}{f}(hx:gl[g]?=some (x,v))(e:Ek gl g=some f):v= .cst (.ref f):=
 bA (show(some (x,v)).bind (λp:Str×AV=>p.2.c?.bind rJ)=some f from(ac (Option.bind · λp:Str×AV=>p.2.c?.bind rJ) hx).symm.trans e) λp e1 e=>bA e λc e2 e=>(ac Prod.snd (aC e1)).trans ((Hr e2).trans (ac _ (jP e)))
theorem sP{p:Pos}{env:Env}{m:St->Out (aV)}(hP: ∀G ρ,P G ρ->ag w G ρ af first)(Wd:aR P)(hf:la Bs X f sp)(hk:keepIn Bs.K (.ref f)=true)(hs:cv es)
  (h:SE Bs X (λ_ _=>True) (wp Bs (spliced (backTo p (starEach es env)))) m (vL (w:=w))):
  SE Bs X P (wp Bs (callWith p (.ref f) first (backTo p (starEach es env)) [])) (λs=>ao (m s) λvs s=>pA s (cR sp (af++vs) s.S9)) (VR (w:=w)):=
 SE.le (SE.bind (U:=λvs A Q E s=>Bs.K.In s.heap/\wpAny (model Bs.prog w) A (call (.ref f) (first++vs)) Q E s) Wd (h.pre λ_ _ _=>trivial) λas vs=>SE.of λst q hm=>ed hm λc hc hm=>hm▸λA G ρ s hA hI hp Q E k=>
  ⟨hI.Ur,wpAny_call (hf st _ _ _ hc A G ρ s _ hA.one hI ((hP _ _ hp.1).append hp.2) _ k)⟩) λA Q E s h=>iQ hk hs h
section
variable (hX:X.Ok Bs) {T:Tb} (hT:AC Bs X T) {g:Nat} {x:Str} {c:AV} {np p:Pos} {es:List Expr} {is:List IE} (hx:X.gl[g]?=some (x,c)) (kg:X.env.kindOf x=some .globalImplicit) (hs:cv es) (h:SE Bs X (λ_ _=>True) (wp Bs (spliced (backTo p (starEach es X.env)))) (br T X.gl is) (vL (w:=w)))
include hX hT hx kg hs h
theorem HK:SE Bs X (λ_ _=>True) (wp Bs (eval (.Call (.Name x np) es [] p) X.env)) (aw T X.gl (.Tf g is)) (VR (w:=w)):=λst r st' hm=>bA hm λf ef hm=>bA hm λsp hsp hm A G ρ s hA hI hp Q E k=>by
 obtain rfl:=qo hx ef;have c:=hT.fn f sp hsp;exact wpAny_Call_Name_kw (hZ hX hx kg hI (sP (af:=[]) (λ_ _ _=>rfl) aR.true c.1 c.2 hs h st r st' hm A G ρ s hA hI trivial Q E k))
theorem HP{name:Str}{ap:Pos}(hname:AN.getD 44 Str.empty=name)(hlen:es.length<29)(hline:(ap.endLine==p.line)=true):
  SE Bs X (λ_ _=>True) (wp Bs (eval (.Call (.Attribute (.Name x np) name ap) es [] p) X.env)) (aw T X.gl (.sup g 44 is)) (VR (w:=w)):=λst r st' hm=>bA hm λC ef hm=>bA hm λf hf hm=>bA hm λsp hsp hm A G ρ s hA hI hp Q E k=>by
 obtain rfl:=qo hx ef;subst hname;have c:=hT.fn f sp hsp;obtain⟨mc,q1,q2,q3⟩:=hT.sup C f hf;exact jK rfl hs hlen hline (hZ hX hx kg hI λpl=>W.method_cls hI.Ur q1 (cls_value hI.Ur q2 q3 rfl (sP (af:=[]) (λ_ _ _=>rfl) aR.true c.1 c.2 hs h st r st' hm A G ρ {s with toks:=s.toks+1} hA hI trivial Q E k)))
theorem Il:SE Bs X (λ_ _=>True) (wp Bs (eval (.Call (.Name x np) es [] p) X.env)) (aw T X.gl (.ccl g is)) (VR (w:=w)):=λst r st' hm=>bA hm λC ef hm=>bA hm λf hf hm=>bA hm λsp hsp hm A G ρ s hA hI hp Q E k=>by
 obtain rfl:=qo hx ef;obtain⟨c1,c2⟩:=hT.fn f sp hsp;obtain⟨i1,i2,i3,i4⟩:=hT.init C f hf;refine wpAny_Call_Name_kw (hZ hX hx kg hI (iQ i4 hs (SE.bind (U:=λvs A Q E s=>Bs.K.In s.heap/\wpAny (model Bs.prog w) A (call (.ref C) ([]++vs)) Q E s) aR.true h (λas vs=> ?_) st r st' hm A G ρ s hA hI trivial Q E k)));refine SE.of λs1 q hm=>ed hm λc hc hm=>hm▸λA G1 ρ1 s hA I1 hp Q E k=>⟨I1.Ur,wpAny_call ?_⟩;refine bA hc λq hq hc=>eV hc λhn hc=> ?_;obtain rfl:=aC hc;obtain⟨q1,σ⟩:=q;cases q1 with
 |exc C=>exact ft hn
 |ok v=>
  obtain rfl:=tU hn;obtain⟨mm,hmm,_⟩:=I1.l;refine make_K (s:=s) (gB hmm) (eG _ _) I1.Ur i1 i2 (beq_iff_eq.mp i3) λy dy h' F' N' UN Vb=> ?_;have ext:=fu (more:=[_,_]) N';have free: ∀{z o},(z,o)∈ [(y,_),(dy,_)]->(∀p∈eB s.heap X.env.locals,p.1<z)->s.heap.get? z=none:=fun{z o} hz lt=>wh λx q=>absurd (lt (z,x) (dW.mpr ⟨(N' (z,o) (List.mem_append_left _ hz)).2.1,q⟩)) (Nat.lt_irrefl _);have hy:=free (.head _) λp hp=>Nat.lt_trans (UN p hp) Vb;have hd:=free (.tail _ (.head _)) λp hp=>UN p hp;have g2:=I1.grow (G':=G1) ext (my hmm F'.ns) (λb o e=> .inl e) dF.rfl;have g3:=aZ.slot (p:=(y,dy)) (o:= .obj C []) I1 g2.1 g2.2 (h3:=h') (λb x _ e=>e) (λb hb=>(cW hb).elim (λe=>e▸⟨hy,I1.none_of hy,(ix I1 hy).2.2⟩) λhb=>dt hb▸⟨hd,I1.none_of hd,(ix I1 hd).2.2⟩)
   ⟨N'.get (.head _),(Nat.ne_of_lt Vb).symm,[],0,N'.get (.tail _ (.head _)),rfl,rfl⟩
  have Uw:ar w G1 (ρ1++ [(y,dy)]) (.ref s1.S9.length) (.ref y):=oO I1.g.len;exact c1 {s1 with S9:=s1.S9++ [.obj C []]} _ _ _ hq (A.under (.builtin "type.__call__" ⟨.ref C::vs,[]⟩)) G1 _ {s with heap:=h'} (.ref y::vs) (IR hA) g3.1 ⟨_,_,rfl,Uw,ag.mono dF.rfl fk.app _ hp.2⟩ _ λG' ρ' h4 tk I4 S4 a ha=>
   ⟨ha,k G' ρ' h4 tk I4 (g3.2.trans S4) _ (ar.mono S4.gl S4.rl (.ref s1.S9.length) Uw)⟩
end
theorem zM{ks:List Nat}{n:Nat}(hn:n<55): ∀{es:List DictEntry},(∀k∈ks,k<55)->n∉ks->cU w (ks.map λi=>AN.getD i Str.empty) es->es.find? (·.key.isStr (AN.getD n Str.empty))=none:=by
 induction ks with
 |nil=>exact λ_ _ h=>(h:_=_)▸rfl
 |cons k ks ih=>
  intro es hk hnk h;obtain⟨e,r,rfl,⟨t,ek⟩,_,h⟩:=h;exact(oE (by rw[ek];exact beq_eq_false_iff_ne.mpr λz=>hnk (xk (hk k (.head _)) hn z▸ .head _))).trans (ih (λk' h'=>hk k' (.tail _ h')) (λz=>hnk (.tail _ z)) h)
theorem zI(hn:n<55)(hnk:n∉lay C)(h:cU w (AB C m) es):getL (AN.getD n Str.empty) es=some none:=by
 unfold getL;rw[zM hn (λk hk=>qI (List.mem_of_mem_take hk)) (λz=>hnk (List.mem_of_mem_take z)) h,rR h];rfl
theorem Jv(hT:AC Bs X T){env}{gl}{i}{is}(hname:AN.getD n Str.empty=name)(hb:nJ o=true)(hs:cv es)(hlen:es.length<29)(hline:(ap.endLine==p.line)=true)
  (h1:SE Bs X (λ_ _=>True) (wp Bs (eval o env)) (aw T gl i) (VR (w:=w))) (h2:SE Bs X (λ_ _=>True) (wp Bs (spliced (backTo p (starEach es env)))) (br T gl is) (vL (w:=w))):
  SE Bs X (λ_ _=>True) (wp Bs (eval (.Call (.Attribute o name ap) es [] p) env)) (aw T gl (.TG i n is)) (VR (w:=w)):=by
 subst hname;refine SE.le (SE.bind (U:=λv A Q E s=> ∀pl,wpAny (model Bs.prog w) A (getMethod v (AN.getD n Str.empty) pl) (λfx s₂=>wpAny (model Bs.prog w) A (callWith p fx.1 fx.2 (backTo p (starEach es env)) []) Q E s₂) E s) aR.true h1 λx v=> ?_) λA Q E s h=>jK hb hs hlen hline h;refine λs1 r st' hm=>bA hm λC U0 hm=>bA hm λf hf hm=>bA hm λsp hsp hm A G1 ρ1 s hA I1 hp Q E k pl=> ?_;have c:=hT.fn f sp hsp;obtain⟨m1,m2,m3,m4,m5⟩:=hT.mt C.1 n f hf;have hv:ar w G1 ρ1 x v:=hp.2;obtain⟨c',rfl,hvw⟩:=ip I1.g (VW.U5 U0) (by nofun) hv;obtain⟨d,es',m,Ia,hk,hr⟩:=yy hvw;refine method_fn (s:=s) I1.Ur Ia (plainGet_of m3).1 (plainGet_of m3).2 m4 (beq_iff_eq.mp m5) (by show(lookIn _ (dictOf es' m)).map _=_;rw[lookIn_dict,zI m2 m1 hk];rfl) ?_;exact sP (af:=[x]) (P:=λG ρ=>ar w G ρ x (.ref c')) (λG ρ h=> .one h) (λ_ _ _ _ g r h=>ar.mono g r x h) c.1 c.2 hs h2 s1 r st' hm A G1 ρ1 s hA I1 hv Q E k
end
section
variable {w:World} {Bs:Base w} {X:Cx}
theorem aZ.store{G}{ρ}{st}{h h'}{d}{loc'}(I:aZ Bs X G ρ st h)(hd:d∈X.env.locals::X.env.cells.map (·.2))(hdp:d∈X.Tc)(hs:Heap.SameBut d h h')(hlen:loc'.length=st.loc.length)
  (hnf: ∃o,h'.get? d=some o/\ ∀vs,o.data≠ .fields vs)
  (hl: ∃m,h'.Ns X.env.locals m/\(∀(i:Nat) (a:AV),loc'[i]?=some (some a)-> ∃x v,X.nm[i]?=some x/\ar w G ρ a v/\
  ((X.env.kindOf x=some .local/\m x=some v)\/((X.env.kindOf x=some .cell\/X.env.kindOf x=some .free)/\ ∃c,X.env.cells.lookup x=some c/\h'.IsCell c (some v))))/\ ∀(x:Str) (c:Addr),X.env.cells.lookup x=some c-> ∃v,h'.IsCell c v):
  aZ Bs X G ρ {st with loc:=loc'} h'/\aH G ρ st.S9 h G ρ st.S9 h' (aG X.fr) X.Tc:=by
 have hD:=I.p d (.inl hd);have ext: ∀b o,b≠d->h.get? b=some o->h'.get? b=some o:=λb o ne e=>(hs.2 b ne).trans e;have cases': ∀(b:Addr) {p:Prop},(b=d->p)->(b≠d->p)->p:=λb p f g=>(Classical.em _).elim f g;have al: ∀b o,h.get? b=some o-> ∃o',h'.get? b=some o':=λb o e=>cases' b (λq=>q▸hnf.imp λ_ z=>z.1) λq=>⟨o,ext b o q e⟩;exact⟨⟨⟨I.g.base,λb o e=>ext b o (λq=>lg (e.symm.trans (q▸hD.1))) (I.g.Tg b o e),I.g.len,λk p o e1 e2=>(I.g.rep k p o e1 e2).mono dF.rfl fk.rfl λb hb x e=>ext b x (λq=>hD.2.1 ⟨k,p,o,e1,e2,q▸hb⟩) e,I.g.TU,I.g.off,
   λe he=>(I.g.frs e he).imp id λz=>z.imp λL z=>z.elim λo z=>cases' L (λq=>(q.symm▸hnf: ∃o,h'.get? L=some o/\ ∀vs,o.data≠ .fields vs).imp λo' y=>⟨z.1,y.1,y.2,z.2.2.2⟩) λq=>⟨o,z.1,ext L o q z.2.1,z.2.2⟩⟩,hlen▸I.len,hl,λb hb=>⟨(I.p b hb).1,(I.p b hb).2.1,(I.p b hb).2.2.elim (al b)⟩,I.pl⟩,
  ⟨dF.rfl,fk.rfl,λb o e nf np=>⟨o.slots,ext b o (λq=>np (q▸hdp)) e,λ_=>rfl⟩,λb q=> .inl q,λb o q=> .inl q,al⟩⟩
theorem gw(hX:X.Ok Bs){i}{x}(hx:X.nm[i]?=some x)(hk:X.env.kindOf x=some .local\/(X.env.kindOf x=some .cell/\ ∀c∈X.env.cells.map (·.2),c∈X.Tc)){A}{G}{ρ}{st}{s}{a}{v}(I:aZ Bs X G ρ st s.heap)(hv:ar w G ρ a v)
  (hi:i<st.loc.length) {Q:Unit->Shared->Prop} {E:bS} (K: ∀h' tk,aZ Bs X G ρ {st with loc:=st.loc.set i (some a)} h'->aH G ρ st.S9 s.heap G ρ st.S9 h' (aG X.fr) X.Tc->Q () {s with heap:=h',toks:=tk}):
  wpAny (model Bs.prog w) A (storeName X.env x v) Q E s:=by
 obtain⟨m,hns,hl,hcl⟩:=I.l;have uniq: ∀{j:Nat},X.nm[j]?=some x->j=i:=fun{j} e=>by
  have l1:=(ch e).1;have l2:=(ch hx).1;exact(List.getElem?_inj l1 hX.nd).mp (e.trans hx.symm)
 have lo: ∀{j:Nat} {b:AV} {P:Prop},(st.loc.set i (some a))[j]?=some (some b)->(j=i->b=a->P)->((∃y v,y≠x/\X.nm[j]?=some y/\ar w G ρ b v/\((X.env.kindOf y=some .local/\m y=some v)\/((X.env.kindOf y=some .cell\/X.env.kindOf y=some .free)/\ ∃c,X.env.cells.lookup y=some c/\s.heap.IsCell c (some v))))->P)->P:=fun{j b P} e f g=>
  dP (List.getElem?_eq_getElem hi) e (λq q'=>f q (aC q')) λne e=>g ((hl j b e).imp λy z=>z.imp λv z=>⟨λq=>ne (uniq (q▸z.1)),z⟩)
 rcases hk with hk|⟨hk,hcp⟩
 ·refine wpAny_storeName_local hk hns (λh' hn' hs=> ?_) (by rw[hX.fn];rfl);have cell: ∀cc v,s.heap.IsCell cc v->h'.IsCell cc v:=λcc v=>ur hns λb o ne e=>(hs.2 b ne).trans e;have z:=I.store (loc':=st.loc.set i (some a)) (.head _) I.pl hs List.length_set (kQ hn') ⟨_,hn',λj b e=>lo e (λq q'=>by subst q q';exact⟨x,v,hx,hv,.inl ⟨hk,if_pos rfl⟩⟩) λz=>z.imp λy z=>z.imp λu z=>
   ⟨z.2.1,z.2.2.1,z.2.2.2.imp (λy=>⟨y.1,(if_neg z.1).trans y.2⟩) λy=>⟨y.1,y.2.imp λc y=>⟨y.1,cell c _ y.2⟩⟩⟩,λy c lk=>(hcl y c lk).imp λv=>cell c v⟩
  exact K h' _ z.1 z.2
 ·obtain⟨c,lk⟩:=hX.Uz x hk;obtain⟨v0,hc0⟩:=hcl x c lk;have cm:c∈X.env.cells.map (·.2):=List.mem_map.mpr ⟨(x,c),mem_lookup lk,rfl⟩;refine wpAny_storeName_cell hX.fn hk lk hc0 λh' hc' hs=> ?_;have nL:X.env.locals≠c:=λq=>hc0.elim λo z=>o9 hns (q▸z.1) z.2;have only: ∀y d,X.env.cells.lookup y=some d->d=c/\y=x:=λy d e=>by
   rcases hX.VY with z|⟨x1,c1,z⟩
   ·rw[z] at lk;exact aB lk
   ·have m1:=Prod.mk.inj (dt (z▸mem_lookup lk));have m2:=Prod.mk.inj (dt (z▸mem_lookup e));exact⟨m2.2.trans m1.2.symm,m2.1.trans m1.1.symm⟩
  have z:=I.store (loc':=st.loc.set i (some a)) (.tail _ cm) (hcp c cm) hs List.length_set (hc'.imp λo z=>⟨z.1,λvs y=>by cases z.2.symm.trans y⟩) ⟨m,hns.imp λo z=>z.imp λes z=>z.imp λep z=>⟨(hs.2 _ nL).trans z.1,z.2⟩,
   λj b e=>lo e (λq q'=>by subst q q';exact⟨x,v,hx,hv,.inr ⟨.inl hk,c,lk,hc'⟩⟩) λz=>z.imp λy z=>z.imp λu z=>⟨z.2.1,z.2.2.1,z.2.2.2.imp id λq=>absurd (q.2.elim λd q=>(only y d q.1).2) z.1⟩,λy d Wj=>(only y d Wj).1▸⟨_,hc'⟩⟩
  exact K h' s.toks z.1 z.2
end
section
variable {M:Model} {A:Around} {E:bS} {s:Shared} {env:Env}
theorem iP{t value}{pos}{Q:Flow->Shared->Prop}(ht:assignEach [t] env=[(false,assign t env)])
  (h:wpAny M A (eval value env) (λv s₁=>wpAny M A (assign t env v) (λ_=>Q .next) E s₁) E s)
  (hs:swapsWith value (some t) pos.line env=pure false) (hw:swappedStores [t] value env=pure none):
  wpAny M A (exec (.Assign [t] value pos) env) Q E s:=by
 rw[exec_Assign];refine am (wpAny_standAt ?_);rw[show swapsWithSole [t] value pos.line env=pure false from hs];refine am (bq ?_);rw[if_neg ∅];refine am (wpAny_mono h (λv s₁ h₁=> ?_) λ_ _ x=>x);rw[hw];refine am (bq ?_);rw[ht];show wpAny M A (do assignAll v [assign t env];pure .next) Q E s₁;exact am (wpAny_mono h₁ (λ_ _ x=>bq x) λ_ _ x=>x)
theorem jy(h:wpAny M A (eval o env) (λov s₂=>wpAny M A (setAttr ov attr v) Q E s₂) E s):wpAny M A (assign (.Attribute o attr p) env v) Q E s:=by
 rw[assign_Attribute];refine am (wpAny_holding (wpAny_mono h (λov s₁ h₁=> ?_) λ_ _ x=>x));exact am (wpAny_standAt (am (wpAny_holding (wpAny_mono h₁ (λ_ _ x=>wpAny_release x) λ_ _ x=>x))))
theorem wl(h:wpAny M A (eval o env) (λov s₂=>wpAny M A (eval i env) (λiv s₃=>wpAny M A (setItem ov iv v) Q E s₃) E s₂) E s):wpAny M A (assign (.Subscript o i p) env v) Q E s:=by
 rw[assign_Subscript];refine am (wpAny_holding (wpAny_mono h (λov s₁ h₁=> ?_) λ_ _ x=>x));refine am (wpAny_holding (wpAny_mono h₁ (λiv s₂ h₂=> ?_) λ_ _ x=>x));exact am (wpAny_standAt (am (wpAny_holding (wpAny_mono h₂ (λ_ _ x=>wpAny_release x) λ_ _ x=>x))))
end
section
variable {w:World} {Bs:Base w} {X:Cx}
def yD(t:Expr):Prop:= ∀r env,assignEach (t::r) env=(false,assign t env)::assignEach r env
def TS(Bs:Base w)(X:Cx)(T:Tb)(gl:Gl)(t:Expr)(it:IT):Prop:=yD t/\ ∀a v,SE Bs X (λG ρ=>VR (w:=w) G ρ a v) (wp Bs (assign t X.env v)) (λs=>A1 T gl it a s) UR
def KR(Bs:Base w)(X:Cx)(T:Tb)(gl:Gl)(t:Expr)(it:IT):Prop:=yD t/\ ∀a v,SE Bs X (λG ρ=>VR (w:=w) G ρ a v) (wp Bs (assign t X.env v)) (λs=>nZ T gl it a s) UR
theorem Id(hX:X.Ok Bs)(hx:X.nm[i]?=some x)(hk:X.env.kindOf x=some .local\/(X.env.kindOf x=some .cell/\ ∀c∈X.env.cells.map (·.2),c∈X.Tc)):TS Bs X T gl (.Name x p) (.var i):=
 ⟨λ_ _=>rfl,λa v=>SE.of λst q hm=>eV hm λhi hm=>aC hm▸λA G ρ s hA hI hv Q E k=>assign_Name (gw hX hx hk hI hv (aT hi) λh' tk I' S'=>k G ρ h' tk I' S' () trivial)⟩
theorem CV:SE Bs X (λG ρ=>VR (w:=w) G ρ a v/\VR (w:=w) G ρ x u) (wp Bs (setAttr u (AN.getD n Str.empty) v)) (λs=>zJ (putAt x n a s) s) UR:=
 SE.of λst q hm=>ed hm λp hp hm=>bA hp λkk ek hp=>bA hp λp0 hk hp=>ed hp λl' T7 e=>bA hk λo ho eo=>by
  subst e hm;exact λA G ρ s hA hI hv Q E k=>rb hI (nx ek▸hv.2) (Nj eo▸ho) T7 hv.1 λh' tk I' S'=>k G ρ h' tk I' S' () trivial
theorem GG(hname:AN.getD n Str.empty=name)(h:SE Bs X (λ_ _=>True) (wp Bs (eval o X.env)) (aw T gl i) (VR (w:=w))):TS Bs X T gl (.Attribute o name p) (.attr i n):=by
 subst hname;exact⟨λ_ _=>rfl,λa v=>SE.le (SE.bind (aR.vr a v) (h.pre λ_ _ _=>trivial) λx u=>CV) λA Q E s h=>jy h⟩
theorem aZ.conv{G}{ρ}{st}{h}{k}(hI:aZ Bs X G ρ st h)(hk:st.S9[k]?=some (.Tl [] [])):aZ Bs X G ρ {st with S9:=st.S9.set k (.dct [] [])} h/\aH G ρ st.S9 h G ρ (st.S9.set k (.dct [] [])) h (aG X.fr) X.Tc:=by
 obtain⟨p,hp⟩: ∃p,ρ[k]?=some p:=⟨_,List.getElem?_eq_getElem (hI.g.len▸(ch hk).1)⟩;obtain⟨es,n,h1,h2,h3⟩:=hI.g.rep k _ _ hp hk;exact hI.upd hp hk (λb x _ _ e=>e) (λm hm=>hm) (λb hb=>hb) (λb hb=>dt hb▸⟨_,h1⟩) ⟨es,n,h1,⟨h2.1,List.nodup_nil,h2.2.2⟩,h3⟩
theorem z9{A}{G}{ρ}{st}{s}(hA:lN X.lvl X.fr A)(hI:aZ Bs X G ρ st s.heap){x y a}{u i v}{p:Nat×AO}(hp:jB x y a st=some p)(hx:ar w G ρ x u)(hy:ar w G ρ y i)(hv:ar w G ρ a v)
  {Q:Unit->Shared->Prop} {E:bS} (K: ∀h' tk,aZ Bs X G ρ {st with S9:=st.S9.set p.1 p.2} h'->aH G ρ st.S9 s.heap G ρ (st.S9.set p.1 p.2) h' (aG X.fr) X.Tc->Q () {s with heap:=h',toks:=tk}):wpAny (model Bs.prog w) A (setItem u i v) Q E s:=by
 refine Th hp (λp' hE e=>bA hE λk ek hE=>bA hE λd hd hE=>eV hE λhn hE=>ed hE λkey hkey e'=> ?_) λhp=>j2 hA hI hp hx hy hv K;obtain rfl:p'=p:=aC e;subst e';refine bA hd λo ho eo=> ?_;have hk:st.S9[k]?=some (.Tl [] []):=by
  rw[ho,os_eq eo,List.isEmpty_iff.mp (bG hn).1,List.isEmpty_iff.mp (bG hn).2]
 obtain⟨I3,S3⟩:=hI.conv hk;refine j2 (x:= .ref k) (y:=y) (k:=k) (o':= .dct [key] [a]) hA I3 ?_ (nx ek▸hx) hy hv λh' tk I' S'=> ?_
 ·show((st.S9.set k (.dct [] []))[k]?).bind _=_;rw[List.getElem?_set_self (ch hk).1];show(((wa y).bind λk=>some (AO.dct [k] [a])).map λo'=>(k,o'))=_;rw[hkey];rfl
 ·dsimp only at I' S';rw[List.set_set] at I' S';exact K h' tk I' (S3.trans S')
theorem Ks{T}{gl}{o i}{eo ei}{p}(h1:SE Bs X (λ_ _=>True) (wp Bs (eval o X.env)) (aw T gl eo) (VR (w:=w)))(h2:SE Bs X (λ_ _=>True) (wp Bs (eval i X.env)) (aw T gl ei) (VR (w:=w))):TS Bs X T gl (.Subscript o i p) (.sub eo ei):=
 ⟨λ_ _=>rfl,λa v=>SE.le (SE.bind (U:=λu=>WP.bind (wp Bs (eval i X.env)) λj A Q E s=>wpAny (model Bs.prog w) A (setItem u j v) Q E s) (aR.vr a v) (h1.pre λ_ _ _=>trivial) λx u=>SE.bind (aR.and (aR.vr a v) (aR.vr x u)) (h2.pre λ_ _ _=>trivial) λy j=>
  SE.of λst q hm=>ed hm λp hp hm=>hm▸λA G ρ s hA hI hv Q E k=>z9 hA hI hp hv.1.2 hv.2 hv.1.1 λh' tk I' S'=>k G ρ h' tk I' S' () trivial) λA Q E s h=>wl h⟩
def FV(Bs:Base w)(X:Cx)(T:Tb)(gl:Gl):List Expr->List IT->Prop
 | [],[]=>True
 |t::ts,it::its=>TS Bs X T gl t it/\FV Bs X T gl ts its
 |_,_=>False
theorem FV.each: ∀{its:List IT},FV Bs X T gl ts its->assignEach ts X.env=ts.map λt=>(false,assign t X.env):=by
 induction ts with
 |nil=>exact λ_=>rfl
 |cons t ts ih=>
  intro its h;cases its with
  |nil=>exact h.elim
  |cons it its=>rw[h.1.1,ih h.2,List.map_cons]
theorem FV.order: ∀{its:List IT},FV Bs X T gl ts its-> ∀(as:aV) (vs:List Value),SE Bs X (λG ρ=>vL (w:=w) G ρ as vs) (wp Bs (assignInOrder (ts.map λt=>assign t X.env) vs)) (λs=>pn T gl its as s) UR:=by
 induction ts with
 |nil=>
  intro its h as vs;cases its with
  |cons _ _=>exact h.elim
  |nil=>cases as with
   |nil=>exact SE.one λst A G ρ s hA hI hv Q E k=>assignInOrder_nil (k () s.toks trivial)
   |cons _ _=>exact SE.no
 |cons t ts ih=>
  intro its h as vs;cases its with
  |nil=>exact h.elim
  |cons it its=>cases as with
   |nil=>exact SE.no
   |cons a as=>
    intro st r st' hm A G ρ s hA hI hv;obtain⟨v,vs,rfl,hv⟩:=hv;exact SE.le (SE.bind (U:=λ_=>wp Bs (assignInOrder (ts.map λt=>assign t X.env) vs)) (aR.and (aR.vr a v) (aR.Wr as vs)) ((h.1.2 a v).pre λ_ _ z=>z.1) λ_ _=>(ih h.2 as vs).pre λ_ _ z=>z.1.2) (λA Q E s h=>assignInOrder_cons h) st r st' hm A G ρ s hA hI hv
theorem aZ.extBut{G}{ρ}{st}{h h'}(hI:aZ Bs X G ρ st h)(he:Heap.ExtBut h.objs.size h h'):aZ Bs X G ρ st h'/\aH G ρ st.S9 h G ρ st.S9 h' (aG X.fr) X.Tc:=by
 have ext: ∀b o,h.get? b=some o->h'.get? b=some o:=λb o e=>he b o (Nat.ne_of_lt (iL e)) e;exact hI.grow (λb o _ e=>ext b o e) (xo ext) (λb o e=> .inl e) dF.rfl
theorem rN{prog}{A}{E:bS}(hne:t≠it): ∀(n i:Nat) (s:Shared) (Q:List Value->Shared->Prop),s.heap.IsListIter it t i->s.heap.IsList t items->i+n<=items.size->
  (∀h',h'.IsListIter it t (i+n)->Heap.SameBut it s.heap h'->Q ((items.toList.drop i).take n) {s with heap:=h'})->wpAny (model prog w) A (draw (.ref it) n) Q E s
 |0,i,s,Q,hit,_,_,hQ=>by
  show wpAny _ _ (pure []) Q E s;exact bq (by simpa using hQ s.heap hit (Heap.SameBut.refl ..))
 |n+1,i,s,Q,hit,ht,hle,hQ=>by
  have hlt:i<items.size:=by omega
  show wpAny _ _ (pyNext (.ref it)>>=_) Q E s;refine am (wpAny_pyNext_list_item hit ht (x:=items[i]) (by simp[hlt]) λh₁ hit₁ hs₁=> ?_);refine am (wpAny_holding (rN hne n (i+1) _ _ hit₁ (Heap.IsList.extBut ht hs₁.extBut hne) (by omega) λh₂ hit₂ hs₂=>bq ?_));have hd:items.toList.drop i=items[i]::items.toList.drop (i+1):=by simp[List.drop_eq_getElem_cons,hlt]
  have:=hQ h₂ (by rw[show i+(n+1)=i+1+n by omega];exact hit₂) (hs₁.trans hs₂);rw[hd,List.take_succ_cons] at this;exact this
theorem nk{prog}{E:bS}{Q:List Value->Shared->Prop}(hh:A.handled=none)(ht:s.heap.IsList t items)
  (hQ: ∀h',Heap.ExtBut s.heap.objs.size s.heap h'->Q items.toList {s with heap:=h'}):wpAny (model prog w) A (unpackItems (.ref t) items.size none) Q E s:=by
 have hlt:t≠s.heap.objs.size:=by obtain⟨o,ho,_⟩:=ht;exact Nat.ne_of_lt (Heap.lt_size ho)
 unfold unpackItems;refine am ?_
 ·unfold notIterableAtAll;refine am (wpAny_specialOf (Heap.IsList.typeIs ht) slot_list_iter.lookup ?_);refine bq ?_;simp only[Bool.false_eq_true,if_false];refine am (wpAny_holding (wpAny_pyIter_list ht ?_));refine am (wpAny_holding (rN hlt items.size 0 _ _ ⟨_,dX _ rfl,rfl,rfl⟩ (Heap.IsList.push ht _) (by omega) λh₁ hit₁ hs₁=> ?_));have hall:List.take items.size (List.drop 0 items.toList)=items.toList:=by
   rw[List.drop_zero];exact List.take_of_length_le (by simp)
  rw[hall];rw[if_neg (by simp)];have ht₁:h₁.IsList t items:=(Heap.IsList.push ht _).extBut hs₁.extBut hlt;refine am (wpAny_holding (wpAny_pyNext_list_end hh hit₁ ht₁ (by simp) λh₂ he₂=> ?_));simp only[Option.isSome_none,Bool.false_eq_true,if_false];refine bq (hQ h₂ λb o hb e=>he₂ b o hb (hs₁.extBut b o hb (bv _ e)))
theorem FV.length: ∀{its:List IT},FV Bs X T gl ts its->ts.length=its.length:=by
 induction ts with
 |nil=>
  intro its h;cases its with
  |nil=>rfl
  |cons _ _=>exact h.elim
 |cons t ts ih=>
  intro its h;cases its with
  |nil=>exact h.elim
  |cons _ _=>exact ac Nat.succ (ih h.2)
theorem ly{A}{G}{ρ}{st}{s}(hA:lN X.lvl X.fr A)(hI:aZ Bs X G ρ st s.heap){l}{a}(ha:a= .tup l\/a= .lst l){v}(hv:ar w G ρ a v){n:Nat}(hn:n=l.length)
  {Q:List Value->Shared->Prop} {E:bS} (k: ∀h' vs,ag w G ρ l vs->aZ Bs X G ρ st h'->aH G ρ st.S9 s.heap G ρ st.S9 h' (aG X.fr) X.Tc->Q vs {s with heap:=h'}):wpAny (model Bs.prog w) A (unpackItems v n none) Q E s:=by
 have hh:=hA.2.2.1;rcases ha with rfl|rfl<;>obtain⟨c,vs,m,rfl,h,r⟩:=hv<;>obtain rfl:n=vs.toArray.size:=hn.trans r.length.symm
 ·exact unpackItems_tuple (items:=vs.toArray) hh ⟨_,hI.g.Tg _ _ h,rfl,_,rfl⟩ λh' he=>k h' vs r (hI.extBut he).1 (hI.extBut he).2
 ·exact nk (items:=vs.toArray) hh ⟨_,hI.g.Tg _ _ h,rfl,_,rfl⟩ λh' he=>k h' vs r (hI.extBut he).1 (hI.extBut he).2
theorem vo(h:nZ T gl (.tup its) a s=some (r,s')): ∃l,(a= .tup l\/a= .lst l)/\its.length=l.length/\pn T gl its l s=some (r,s'):=
 bA h λl el h=>eV h λq h=>⟨l,Th el (λl' e e'=> .inl (aC e'▸yY e)) λe=> .inr (yI e),eq_of_beq q,h⟩
theorem Ji(h:FV Bs X T gl ts its):KR Bs X T gl (.Tuple ts c p) (.tup its):=by
 refine⟨λ_ _=>rfl,λa v st r st' hm A G ρ s hA hI hv Q E k=> ?_⟩;obtain⟨l,ha,hl,hm⟩:=vo hm;show wpAny (model Bs.prog w) A (assign (.Tuple ts c p) X.env v) Q E s;rw[assign_Tuple];refine am (wpAny_standAt ?_);unfold unpack;rw[h.each,List.map_map,List.length_map];rw[show(ts.map λt=>(false,assign t X.env)).findIdx? (·.1)=none from List.findIdx?_eq_none_iff.mpr λx hx=>by obtain⟨t,_,rfl⟩:=List.mem_map.mp hx;rfl];exact am (wpAny_holding (ly hA hI ha hv (h.length.trans hl) λh' vs r1 I1 S1=>h.order l vs _ _ _ hm A G ρ {s with heap:=h'} hA I1 r1 Q E λG2 ρ2 g2 tk2 I2 S2=>er.from S1.alive (k G2 ρ2 g2 tk2 I2 (S1.trans S2))))
theorem TS.to(h:TS Bs X T gl t it)(hn: ∀l,it≠ .tup l):KR Bs X T gl t it:=by
 refine⟨h.1,λa v=> ?_⟩;cases it with
 |tup l=>exact absurd rfl (hn l)
 |_=>exact h.2 a v
theorem Ir{e}(ht:KR Bs X T gl t it)(hs:swapsWith value (some t) pos.line X.env=pure false)(hw:swappedStores [t] value X.env=pure none)
  (h:SE Bs X (λ_ _=>True) (wp Bs (eval value X.env)) (aw T gl e) (VR (w:=w))):SE Bs X (λ_ _=>True) (wp Bs (exec (.Assign [t] value pos) X.env)) (bf T gl (.asg it e)) (FR (w:=w)):=
 SE.le (SE.bind (U:=λv=>WP.bind (wp Bs (assign t X.env v)) λ_ (A:Around) (Q:Flow->Shared->Prop) E s=>Q .next s) aR.true h λa v=>SE.bind (aR.and aR.true (aR.vr a v)) ((ht.2 a v).pre λ_ _ z=>z.2) λ_ _=>SE.one (b:=Fl.next) λst A G ρ s hA hI hp Q E k=>k Flow.next s.toks rfl) λA Q E s h=>iP (ht.1 [] _) h hs hw
theorem xO(is:List Nat): ∀(l:aV) {s s':St} {r:Res Unit},pn T gl (is.map .var) l s=some (r,s')->
  r= .ok ()/\is.length=l.length/\(∀i∈is,i<s.loc.length)/\s'={s with loc:=(is.zip l).foldl (λloc p=>loc.set p.1 (some p.2)) s.loc}:=by
 induction is with
 |nil=>
  intro l s s' r h;cases l with
  |nil=>obtain⟨rfl,rfl⟩:=so h;exact⟨rfl,rfl,λ_ h=>fP h,rfl⟩
  |cons _ _=>exact aB h
 |cons i is ih=>
  intro l s s' r h;cases l with
  |nil=>exact aB h
  |cons a l=>
   refine bO (show ao (A1 T gl (.var i) a s) (λ_ s=>pn T gl (is.map .var) l s)=_ from h) (λC e _=>eV e λ_ e=>RS e) λu s1 e h=>eV e λhi e=> ?_;obtain rfl:=(so e).2;obtain⟨h1,h2,h3,h4⟩:=ih l h;exact⟨h1,ac Nat.succ h2,λj hj=>(cW hj).elim (λq=>q▸aT hi) λhj=>(List.length_set▸h3 j hj:j<s.loc.length),h4⟩
theorem uM(hX:X.Ok Bs)(xs:List (Str×Nat)):(∀p∈xs,X.nm[p.2]?=some p.1/\X.env.kindOf p.1=some .local)-> ∀(l:aV) (vs:List Value) {A:Around} {G:Gm} {ρ:Rm} {st:St} {s:Shared},aZ Bs X G ρ st s.heap->ag w G ρ l vs->
  (∀p∈xs,p.2<st.loc.length)-> ∀{Q:Unit->Shared->Prop} {E:bS},(∀h' tk,aZ Bs X G ρ {st with loc:=(xs.zip l).foldl (λloc p=>loc.set p.1.2 (some p.2)) st.loc} h'->aH G ρ st.S9 s.heap G ρ st.S9 h' (aG X.fr) X.Tc->Q () {s with heap:=h',toks:=tk})->
  wpAny (model Bs.prog w) A (assignInOrder (xs.map λp=>bindName X.env p.1) vs) Q E s:=by
 induction xs with
 |nil=>exact λ_ l vs A G ρ st s I hv hl Q E k=>assignInOrder_nil (k s.heap s.toks I aH.rfl)
 |cons p xs ih=>
  intro hxs l vs A G ρ st s I hv hl Q E k;cases l with
  |nil=>obtain rfl:vs=[]:=hv;exact bq (k s.heap s.toks I aH.rfl)
  |cons a l=>
   obtain⟨v,vs,rfl,h1,h2⟩:=hv;have hx:=hxs p (.head _);exact assignInOrder_cons (bindName_ (gw hX hx.1 (.inl hx.2) I h1 (hl p (.head _)) λh' tk I' S'=>ih (λp hp=>hxs p (.tail _ hp)) l vs (s:={s with heap:=h',toks:=tk}) I' h2 (λp hp=>by rw[List.length_set];exact hl p (.tail _ hp)) λh2 tk2 I2 S2=>k h2 tk2 I2 (S'.trans S2)))
theorem Cg: ∀{vs:List Value},ag w G ρ l vs->ag w G ρ l.reverse vs.reverse:=by
 induction l with
 |nil=>exact λh=>(h:_=_)▸rfl
 |cons a l ih=>
  intro vs h;obtain⟨v,vs,rfl,h1,h2⟩:=h;rw[List.reverse_cons,List.reverse_cons];exact(ih h2).append (.one h1)
theorem swap_eq{xs:List (Str×Nat)}{l:aV}{loc:List (Option AV)}(hnd:(xs.map (·.2)).Nodup)(hlen:xs.length=2\/xs.length=3)(hl:xs.length=l.length):(xs.reverse.zip l.reverse).foldl (λloc p=>loc.set p.1.2 (some p.2)) loc=((xs.map (·.2)).zip l).foldl (λloc p=>loc.set p.1 (some p.2)) loc:=by
 match xs,l,hl,hlen,hnd with
 | [(x,i),(y,j)],[a,b],_,_,nd=>
  simp only[List.map_cons,List.map_nil,List.nodup_cons,List.mem_singleton] at nd;exact List.set_comm _ _ (λq=>nd.1 q.symm)
 | [(x,i),(y,j),(z,m)],[a,b,c],_,_,nd=>
  simp only[List.map_cons,List.map_nil,List.nodup_cons,List.mem_cons,List.not_mem_nil,or_false,not_or] at nd;obtain⟨⟨n1,n2⟩,n3,_⟩:=nd;show((loc.set m (some c)).set j (some b)).set i (some a)=((loc.set i (some a)).set j (some b)).set m (some c);rw[List.set_comm (some c) (some b) (Ne.symm n3),List.set_comm (some c) (some a) (Ne.symm n2),List.set_comm (some b) (some a) (Ne.symm n1)]
section
variable (hX:X.Ok Bs) {T:Tb} {gl:Gl} {xs:List (Str×Nat)} (hxs: ∀p∈xs,X.nm[p.2]?=some p.1/\X.env.kindOf p.1=some .local) (hnd:(xs.map (·.2)).Nodup) (hlen:xs.length=2\/xs.length=3)
include hX hxs hnd hlen
noncomputable def WP.swap{w:World}(Bs:Base w)(X:Cx)(xs:List (Str×Nat))(v:Value):WP Unit:=λA Q E s=>wpAny (model Bs.prog w) A (unpackItems v (xs.map (·.1)).length none) (λvs s=>wpAny (model Bs.prog w) A (assignInOrder ((xs.map (·.1)).reverse.map (bindName X.env)) vs.reverse) Q E s) E s
theorem Ac:SE Bs X (λG ρ=>True/\VR (w:=w) G ρ a v) (WP.swap Bs X xs v) (nZ T gl (.tup ((xs.map (·.2)).map .var)) a) UR:=λs1 r st' hm=>by
 obtain⟨l,ha,hl,hm⟩:=vo hm;obtain⟨h1,h2,hlt,h4⟩:=xO _ l hm;rw[List.length_map] at h2;rw[h1,h4];refine λA G1 ρ1 s hA I1 hp Q E k=>ly hA I1 ha hp.2 ((List.length_map _).trans h2) λh' vs r1 I2 S2=> ?_;rw[<-List.map_reverse,List.map_map];exact uM hX xs.reverse (λp hp=>hxs p (List.mem_reverse.mp hp)) l.reverse vs.reverse (s:={s with heap:=h'}) I2 (Cg r1) (λp hp=>hlt _ (List.mem_map.mpr ⟨p,List.mem_reverse.mp hp,rfl⟩)) λh3 tk3 I3 S3=>k G1 ρ1 h3 tk3 (swap_eq hnd hlen h2▸I3) (S2.trans S3) () trivial
theorem FH{e}(hs:swapsWith value (some (.Tuple ts c tp)) pos.line X.env=pure false)(hw:swappedStores [.Tuple ts c tp] value X.env=pure (some (xs.map (·.1))))
  (h:SE Bs X (λ_ _=>True) (wp Bs (eval value X.env)) (aw T gl e) (VR (w:=w))):SE Bs X (λ_ _=>True) (wp Bs (exec (.Assign [.Tuple ts c tp] value pos) X.env)) (bf T gl (.asg (.tup ((xs.map (·.2)).map .var)) e)) (FR (w:=w)):=by
 have go:=SE.bind (U:=λv=>WP.bind (WP.swap Bs X xs v) λ_ A Q E s=>Q Flow.next s) (R':=FR (w:=w)) aR.true h λa v=>SE.bind (R:=UR) (aR.and aR.true (aR.vr a v)) (Ac hX hxs hnd hlen (T:=T) (gl:=gl)) λ_ _=>SE.one (b:=Fl.next) λst A G ρ s hA hI hp Q E k=>k Flow.next s.toks rfl;intro st r st' hm A G ρ s hA hI hp Q E k;refine Assign_Tuple_swapped (names:=xs.map (·.1)) ?_ hs hw;exact go st r st' hm A G ρ s hA hI hp Q E k
end
end
section
variable {w:World} {Bs:Base w} {X:Cx}
theorem BC{A}{G0 G}{ρ0 ρ}{st0 st}{h₀}{s}{x C}(I0:aZ Bs X G0 ρ0 st0 h₀)(I:aZ Bs X G ρ st s.heap)(S:aH G0 ρ0 st0.S9 h₀ G ρ st.S9 s.heap (aG X.fr) X.Tc)
  (hf:X.fenv.frame=some X.fenv.locals) (hx:Ay h₀ G ρ st.S9 s.heap x C (rawInt X.fenv.locals)) {E:bS}
  (K: ∀h',aZ Bs X G ρ st h'->aH G0 ρ0 st0.S9 h₀ G ρ st.S9 h' (aG X.fr) X.Tc->ExcAt h₀ X.fenv.locals G ρ st.S9 h' x C->E (.ref x) {s with heap:=h'}):cameBackBy (model Bs.prog w) A X.fenv E (.ref x) s:=by
 obtain⟨f,oe,vs,a0,T,oT,ts,d1,d2,d3,d4,d5,d6,d9,Ua,Uj,Up⟩:=hx;have hsz:3<ts.size:=(Array.getElem?_eq_some_iff.mp Up).1;unfold cameBackBy;refine am (wpAny_field d1 d3 d5 ?_);rw[if_neg (show¬(Value.ref T==Value.none)=true by simp)];unfold setFlight;refine am (wpAny_field d1 d3 d5 ?_);rw[if_pos (show(Value.ref T !=Value.none)=true by simp),hf];refine wpAny_setField Ua Uj hsz ?_;have other: ∀b,b≠T->(s.heap.update T (Obj.mapFields (·.setIfInBounds 3 (rawInt X.fenv.locals)))).get? b=s.heap.get? b:=λb hb=>Heap.get?_update_other _ _ (Ne.symm hb);have self:=Heap.get?_update_self (Obj.mapFields (·.setIfInBounds 3 (rawInt X.fenv.locals))) Ua (Obj.isFreed_of_fields (Obj.data_mapFields Uj _));obtain⟨I',S'⟩:=I0.stays I S (h':=s.heap.update T (Obj.mapFields (·.setIfInBounds 3 (rawInt X.fenv.locals)))) λb o e z=>by
  exact⟨o.slots,(other b λq=>(q▸z).elim (· d6.1) λz=>z.elim (· d6.2.1) d6.2.2).trans e,λ_=>rfl⟩
 refine K _ I' S' ⟨f.1,f.2.1,f.2.2,oe,vs,a0,(other x (Ne.symm d9)).trans d1,d2,d3,d4,.inr ⟨T,_,_,rawInt X.fenv.locals,d5,d6.1,d9,d6.2.1,d6.2.2,self,Obj.data_mapFields Uj _,by simp[hsz],.inr rfl⟩⟩
theorem GI{A}{G0 G}{ρ0 ρ}{st0 st}{h₀}{s}{x C}(hA:lN X.lvl X.fr A)(I0:aZ Bs X G0 ρ0 st0 h₀)(I:aZ Bs X G ρ st s.heap)(S:aH G0 ρ0 st0.S9 h₀ G ρ st.S9 s.heap (aG X.fr) X.Tc)
  (hf:X.fenv.frame=some X.fenv.locals) (hx:ExcAt h₀ X.fenv.locals G ρ st.S9 s.heap x C) {E:bS}
  (K: ∀h',aZ Bs X G ρ st h'->aH G0 ρ0 st0.S9 h₀ G ρ st.S9 h' (aG X.fr) X.Tc->ExcAt h₀ X.fenv.locals G ρ st.S9 h' x C->E (.ref x) {s with heap:=h'}):notedBy (model Bs.prog w) A X.fenv (cameBackBy (model Bs.prog w) A X.fenv E) (.ref x) s:=
 qf I0 I S hA.2.2.2 hf hx λh' I' S' e'=>BC (s:={s with heap:=h'}) I0 I' S' hf e' K
theorem lJ{G0 G2}{ρ0 ρ2}{st0 st2 st'}{C x}{r:Res Fl}{h1 h2}{tk2}{Q:Flow->Shared->Prop}{E:bS}(hX:X.Ok Bs)(hE:X.env=X.fenv)(hA:lN X.lvl X.fr A)(I0:aZ Bs X G0 ρ0 st0 s.heap)
  (k: ∀G' ρ' h' tk,aZ Bs X G' ρ' st' h'->aH G0 ρ0 st0.S9 s.heap G' ρ' st'.S9 h' (aG X.fr) X.Tc->er X (FR (w:=w)) r G' ρ' st'.S9 s.heap s h' tk Q E) (hr:some ((Res.exc C:Res Fl),st2)=some (r,st')) (I2:aZ Bs X G2 ρ2 st2 h2) (S2:aH G0 ρ0 st0.S9 s.heap G2 ρ2 st2.S9 h2 (aG X.fr) X.Tc)
  (hx:ExcAt h1 X.fenv.locals G2 ρ2 st2.S9 h2 x C) (al: ∀b o,s.heap.get? b=some o-> ∃o',h1.get? b=some o'):notedBy (model Bs.prog w) A X.env (cameBackBy (model Bs.prog w) A X.env E) (.ref x) {s with heap:=h2,toks:=tk2}:=by
 obtain⟨rfl,rfl⟩:=so hr;exact hE▸GI (s:={s with heap:=h2,toks:=tk2}) hA I0 I2 S2 hX.fr (hx.le al) λh' I' S' e'=>k G2 ρ2 h' tk2 I' S' x e'
theorem CJ(hX:X.Ok Bs)(hE:X.env=X.fenv){body}{pos}{ib}(h1:SE Bs X (λ_ _=>True) (wp Bs (isTrue test X.env (eval test X.env))) (cg T gl it (aw T gl it)) BR)
  (h2:SE Bs X (λ_ _=>True) (wp Bs (execs body X.env)) (ae T gl ib) (FR (w:=w))):SE Bs X (λ_ _=>True) (wp Bs (exec (.While test body [] pos) X.env)) (bf T gl (.whl it ib)) (FR (w:=w)):=by
 intro st r st' hm A G ρ s hA hI hp Q E k;refine wpAny_While (codeAny_whileLoop (λn s'=> ∃h tk st1 G1 ρ1,s'={s with heap:=h,toks:=tk}/\aZ Bs X G1 ρ1 st1 h/\aH G ρ st.S9 s.heap G1 ρ1 st1.S9 h (aG X.fr) X.Tc/\iD (cg T gl it (aw T gl it)) (ae T gl ib) n st1=some (r,st'))
  ?_ 1000 ⟨s.heap,s.toks,st,G,ρ,rfl,hI,aH.rfl,hm⟩)
 rintro n s' ⟨h,tk,st1,G1,ρ1,rfl,I1,S1,hw⟩
 cases n with
 |zero=>exact aB hw
 |succ n=>
  refine bO hw (λC e e'=>h1 _ _ _ e A G1 ρ1 {s with heap:=h,toks:=tk} hA I1 trivial _ _ λG' ρ' h' tk' I S x hx=>lJ (s:=s) hX hE hA hI k (ac (λr=>some (r,st')) e'.symm) I (S1.trans S) hx S1.alive) λb s1 e1 e2=>
   h1 _ _ _ e1 A G1 ρ1 {s with heap:=h,toks:=tk} hA I1 trivial _ _ λG2 ρ2 h2' tk2 I2 S2 b' hb=> ?_
  obtain rfl:b=b':=hb;have U7:=S1.trans S2;cases b with
  |false=>
   obtain⟨rfl,rfl⟩:=so e2;exact wpAny_execs_nil (k G2 ρ2 h2' tk2 I2 U7 .next rfl)
  |true=>
   refine bO (Px e2) (λC e e'=>h2 _ _ _ e A G2 ρ2 {s with heap:=h2',toks:=tk2} hA I2 trivial _ _ λG' ρ' h' tk' I S x hx=>lJ (s:=s) hX hE hA hI k (ac (λr=>some (r,st')) e'.symm) I (U7.trans S) hx U7.alive) λf s2 e3 e4=>
    h2 _ _ _ e3 A G2 ρ2 {s with heap:=h2',toks:=tk2} hA I2 trivial _ _ λG3 ρ3 h3 tk3 I3 S3 fl hf=> ?_
   have Vf:=U7.trans S3;cases f with
   |next=>
    obtain rfl:fl= .next:=hf;exact⟨n,Nat.lt_succ_self n,h3,tk3,s2,G3,ρ3,rfl,I3,Vf,e4⟩
   |cont=>
    obtain rfl:fl= .cont:=hf;exact⟨n,Nat.lt_succ_self n,h3,tk3,s2,G3,ρ3,rfl,I3,Vf,e4⟩
   |ret a=>
    obtain⟨v,rfl,hv⟩:=hf;obtain⟨rfl,rfl⟩:=so e4;exact k G3 ρ3 h3 tk3 I3 Vf (.ret v) ⟨v,rfl,hv⟩
end
structure kj (own:List Addr) (G:Gm) (h:Heap) (G':Gm) (h':Heap):Prop where
 gl:dF G G'
 keep: ∀b o,b∉own->h.get? b=some o->h'.get? b=some o
 Tr: ∀b o,G' b=some o->G b=some o\/(h.get? b=none/\h'.get? b=some o)
def Own(own:List Addr)(G:Gm)(ρ:Rm)(σ:aX):Prop:= ∀b∈own,G b=none/\ ¬bK ρ σ b
section
variable {w:World} {Bs:Base w} {X:Cx}
theorem aZ.Ul{own}{G0 G G'}{ρ0 ρ}{st0 st}{h₀ h h'}(I0:aZ Bs X G0 ρ0 st0 h₀)(I:aZ Bs X G ρ st h)(S:aH G0 ρ0 st0.S9 h₀ G ρ st.S9 h (aG X.fr) X.Tc)(hO:Own own G ρ st.S9)(hn: ∀b∈own,h₀.get? b=none)(tl:dF G G')(tk: ∀b o,b∉own->h.get? b=some o->h'.get? b=some o)(tg: ∀b o,G' b=some o->G b=some o\/((b∈own\/h.get? b=none)/\h'.get? b=some o)):
  aZ Bs X G' ρ st h'/\aH G0 ρ0 st0.S9 h₀ G' ρ st.S9 h' (aG X.fr) X.Tc:=by
 have old: ∀b,(∃o,h₀.get? b=some o)-> ∀o,h.get? b=some o->h'.get? b=some o:=λb l o e=>tk b o (λq=>l.elim λx l=>aD l (hn b q)) e;have Tp: ∀b,b∉own->G b=none->(∃o,h.get? b=some o)->G' b=none:=λb no e l=>wh λo q=>(tg b o q).elim (λz=>lg (z.symm.trans e)) λz=>z.1.elim no λz=>l.elim λx l=>aD l z;have no: ∀b,(∃o,h₀.get? b=some o)->b∉own:=λb l q=>l.elim λx l=>aD l (hn b q);refine⟨I.move ⟨I.g.base.trans tl,λb o e=>(tg b o e).elim (λz=>tk b o (λq=>lg (z.symm.trans (hO b q).1)) (I.g.Tg b o z)) λz=>z.2,I.g.len,λk p o e1 e2=>(I.g.rep k p o e1 e2).mono tl fk.rfl λb hb x e=>tk b x (λz=>(hO b z).2 ⟨k,p,o,e1,e2,hb⟩) e,I.g.TU,λb q=>Tp b (λz=>(hO b z).2 q) (I.g.off b q) (fR I.g q),
   λe he=>(I.g.frs e he).imp id λz=>z.imp λL z=>z.imp λo z=> ?_⟩ tl fk.rfl
   (λb o hb e=>⟨o.slots,old b (I0.p b (.inl hb)).2.2 o e⟩) λb hb=>⟨Tp b (no b (I0.p b hb).2.2) (I.p b hb).1 (I.p b hb).2.2,(I.p b hb).2.1,(I.p b hb).2.2.imp λx d=>old b (I0.p b hb).2.2 x d⟩,
  ⟨S.gl.trans tl,S.rl,λb o e nf np=>(S.keep b o e nf np).imp λsl q=>⟨old b ⟨o,e⟩ _ q.1,q.2⟩,S.fresh,λb o e=>(tg b o e).elim (S.Tr b o) λz=> .inr (.inr (z.1.elim (hn b) (Mine.none_of S.alive))),λb o e=>(S.alive b o e).imp λo' e'=>old b ⟨o,e⟩ o' e'⟩⟩
 have l: ∃o,h₀.get? L=some o:=(I0.g.frs e he).2.elim λL' y=>y.elim λx' y=>aC (y.1.symm.trans z.1)▸⟨_,y.2.1⟩;exact⟨z.1,old L l o z.2.1,z.2.2.1,Tp L (no L l) z.2.2.2.1 ⟨o,z.2.1⟩,z.2.2.2.2⟩
theorem aZ.touch{own}{G0 G G'}{ρ0 ρ}{st0 st}{h₀ h h'}(I0:aZ Bs X G0 ρ0 st0 h₀)(I:aZ Bs X G ρ st h)(S:aH G0 ρ0 st0.S9 h₀ G ρ st.S9 h (aG X.fr) X.Tc)(hO:Own own G ρ st.S9)(hn: ∀b∈own,h₀.get? b=none)(t:kj own G h G' h'):
  aZ Bs X G' ρ st h'/\aH G0 ρ0 st0.S9 h₀ G' ρ st.S9 h' (aG X.fr) X.Tc:=
 I0.Ul I S hO hn t.gl t.keep λb o q=>(t.Tr b o q).imp id λz=>⟨.inr z.1,z.2⟩
theorem Own.touch(hO:Own own G ρ σ)(al: ∀b∈own,∃o,h.get? b=some o)(t:kj own' G h G' h'):Own own G' ρ σ:=λb hb=>
 ⟨wh λo q=>(t.Tr b o q).elim (λz=>lg (z.symm.trans (hO b hb).1)) λz=>(al b hb).elim λo e=>aD e (And.left z),(hO b hb).2⟩
theorem Own.step(hO:Own own G ρ σ)(al: ∀b∈own,∃o,h.get? b=some o)(S:aH G ρ σ h G' ρ' σ' h' frs Tc):Own own G' ρ' σ':=λb hb=>(al b hb).elim λo e=>
 ⟨wh λo q=>(S.Tr b o q).elim (λz=>lg (z.symm.trans (hO b hb).1)) λz=>z.elim (hO b hb).2 (aD e),λq=>(S.fresh b q).elim (hO b hb).2 (aD e)⟩
theorem Du(I0:aZ Bs X G0 ρ0 st0 h₀)(hO:Own own G ρ σ)(hn: ∀b∈own,h₀.get? b=none)(S:aH G ρ σ h G' ρ' σ' h' (aG X.fr) X.Tc):
  ∀b∈own,∀o,h.get? b=some o->h'.get? b=some o:=λb hb o e=>(S.keep b o e (hO b hb).2 λz=>(I0.p b (.inr z)).2.2.elim λx hx=>aD hx (hn b hb)).elim λsl q=>vD q.1 (q.2 λz=>(sw I0 b z).elim λx hx=>aD hx.1 (hn b hb))
structure Cy (Bs:Base w) (X:Cx) (go:Value->Sem Unit) (own:List Addr) (it:Value) (items:aV) (P:Nat->Gm->Rm->Heap->Prop):Prop where
 mono: ∀i G ρ h G' ρ' h',P i G ρ h->dF G G'->fk ρ ρ'->(∀b o,(b∈own\/G b=some o)->h.get? b=some o->h'.get? b=some o)->P i G' ρ' h'
 al: ∀i G ρ h,P i G ρ h-> ∀b∈own,∃o,h.get? b=some o
 item: ∀i a,items[i]?=some a-> ∀(A:Around) G ρ st (s:Shared),A.handled=none->aZ Bs X G ρ st s.heap->P i G ρ s.heap-> ∀(Q:bS) (E:bS),
  (∀v G' h' tk,kj own G s.heap G' h'->ar w G' ρ a v->P (i+1) G' ρ h'->Q v {s with heap:=h',toks:=tk})->wpAny (model Bs.prog w) A (pyNext it) (λr s1=>match r with|none=>False|some v=>wpAny (model Bs.prog w) A (go v) (λ_ s2=>Q v s2) E s1) E s
 self: ∀i (A:Around) G ρ (s:Shared),P i G ρ s.heap-> ∀(Q:bS) (E:bS),Q it s->wpAny (model Bs.prog w) A (pyIter it) Q E s
 stop: ∀i,items[i]?=none-> ∀(A:Around) G ρ st (s:Shared),A.handled=none->aZ Bs X G ρ st s.heap->P i G ρ s.heap-> ∀(Q:Shared->Prop) (E:bS),
  (∀h' tk,kj own G s.heap G h'->Q {s with heap:=h',toks:=tk})->wpAny (model Bs.prog w) A (pyNext it) (λr s1=>match r with|none=>Q s1|some _=>False) E s
section
variable (hX:X.Ok Bs) (hE:X.env=X.fenv) {T:Tb} {gl:Gl} {t:Expr} {body:List Stmt} {ti:IT} {ib:List IS} (ht:KR Bs X T gl t ti) (hb:SE Bs X (λ_ _=>True) (wp Bs (execs body X.env)) (ae T gl ib) (FR (w:=w)))
  {A:Around} {s0:Shared} {G0:Gm} {ρ0:Rm} {st0:St} {items:aV} {own:List Addr} {it:Value} {P:Nat->Gm->Rm->Heap->Prop} (hA:lN X.lvl X.fr A) (I0:aZ Bs X G0 ρ0 st0 s0.heap) (hit:Cy Bs X (letOwnedTupleGo t it) own it items P) (hn: ∀b∈own,s0.heap.get? b=none)
  {r:Res Fl} {st':St} {Q:Flow->Shared->Prop} {E:bS}
  (k: ∀G' ρ' h' tk,aZ Bs X G' ρ' st' h'->aH G0 ρ0 st0.S9 s0.heap G' ρ' st'.S9 h' (aG X.fr) X.Tc->er X (FR (w:=w)) r G' ρ' st'.S9 s0.heap s0 h' tk Q E)
inductive MF (Bs:Base w) (X:Cx) (T:Tb) (gl:Gl) (ti:IT) (ib:List IS) (s0:Shared) (G0:Gm) (ρ0:Rm) (st0:St) (items:aV) (own:List Addr) (P:Nat->Gm->Rm->Heap->Prop) (r:Res Fl) (st':St) (n:Nat) (s':Shared):Prop
 |mk (i:Nat) (h:Heap) (tk:Nat) (st1:St) (G1:Gm) (ρ1:Rm) (en:n=items.length-i) (hi:i<=items.length) (es:s'={s0 with heap:=h,toks:=tk}) (I:aZ Bs X G1 ρ1 st1 h) (S:aH G0 ρ0 st0.S9 s0.heap G1 ρ1 st1.S9 h (aG X.fr) X.Tc) (p:P i G1 ρ1 h) (o:Own own G1 ρ1 st1.S9)
  (hm:dk (λa s=>ao (nZ T gl ti a s) λ_ s=>ae T gl ib s) (items.drop i) st1=some (r,st'))
def LF(Bs:Base w)(X:Cx)(T:Tb)(gl:Gl)(ti:IT)(ib:List IS)(s0:Shared)(G0:Gm)(ρ0:Rm)(st0:St)(items:aV)(own:List Addr)(P:Nat->Gm->Rm->Heap->Prop)(r:Res Fl)(st':St)(i:Nat)(Q:Flow->Shared->Prop)(f:Flow)(s₃:Shared):Prop:=match f with
      | .next| .cont=> ∃m,m<items.length-i/\MF Bs X T gl ti ib s0 G0 ρ0 st0 items own P r st' m s₃
      | .brk=>Q .next s₃
      | .ret v=>Q (.ret v) s₃
include hX hE ht hb hA I0 hit hn k
theorem Cn{v}{G2}{h2}{tk2}(hv:items[i]?=some a)(I1:aZ Bs X G1 ρ1 st1 h)(S1:aH G0 ρ0 st0.S9 s0.heap G1 ρ1 st1.S9 h (aG X.fr) X.Tc)(hP:P i G1 ρ1 h)(hO:Own own G1 ρ1 st1.S9)(hm:dk (λa s=>ao (nZ T gl ti a s) λ_ s=>ae T gl ib s) (items.drop i) st1=some (r,st'))
  (TT:kj own G1 h G2 h2) (hv2:ar w G2 ρ1 a v) (hP2:P (i+1) G2 ρ1 h2):wpAny (model Bs.prog w) A (assign t X.env v) (λ_ s₂=>wpAny (model Bs.prog w) A (execs body X.env) (LF Bs X T gl ti ib s0 G0 ρ0 st0 items own P r st' i Q) (notedBy (model Bs.prog w) A X.env λe s'=>cameBackBy (model Bs.prog w) A X.env E e s') s₂) (notedBy (model Bs.prog w) A X.env λe s'=>cameBackBy (model Bs.prog w) A X.env E e s') {s0 with heap:=h2,toks:=tk2}:=by
 have lt:=(ch hv).1;have hd:items.drop i=a::items.drop (i+1):=by rw[List.drop_eq_getElem_cons lt,(ch hv).2]
 rw[hd] at hm;have z:=I0.touch I1 S1 hO hn TT;have VH:=hO.touch (hit.al i _ _ _ hP) TT;have one: ∀{r3 s3},nZ T gl ti a st1=some (r3,s3)->_:=fun{r3 s3} e3=>ht.2 a v st1 r3 s3 e3 A G2 ρ1 {s0 with heap:=h2,toks:=tk2} hA z.1 hv2 (λ_ s₂=>wpAny (model Bs.prog w) A (execs body X.env) (LF Bs X T gl ti ib s0 G0 ρ0 st0 items own P r st' i Q) (notedBy (model Bs.prog w) A X.env λe s'=>cameBackBy (model Bs.prog w) A X.env E e s') s₂) (notedBy (model Bs.prog w) A X.env λe s'=>cameBackBy (model Bs.prog w) A X.env E e s');refine bO hm (λC e q=>bO e (λC' e' q'=>one e' λG' ρ' h' tk' I S x hx=> ?_) λu s3 e3 e4=>one e3 λG3 ρ3 h3 tk3 I3 S3 _ _=>hb _ _ _ e4 A G3 ρ3 {s0 with heap:=h3,toks:=tk3} hA I3 trivial _ _ λG' ρ' h' tk' I S x hx=> ?_)
  λf s2 e1 e2=>bO e1 (λC' e' q'=>nomatch q') λu s3 e3 e4=>one e3 λG3 ρ3 h3 tk3 I3 S3 _ _=>hb _ _ _ e4 A G3 ρ3 {s0 with heap:=h3,toks:=tk3} hA I3 trivial _ _ λG4 ρ4 h4 U6 I4 S4 fl hf=> ?_
 ·exact lJ (s:=s0) (C:=C') hX hE hA I0 k (by rw[q,q']) I (z.2.trans S) hx z.2.alive
 ·exact lJ (s:=s0) (C:=C) hX hE hA I0 k (by rw[q]) I ((z.2.trans S3).trans S) hx (z.2.trans S3).alive
 ·have UM:=S3.trans S4;have p4:P (i+1) G4 ρ4 h4:=hit.mono (i+1) _ _ _ _ _ _ hP2 UM.gl UM.rl λb o hb e=>hb.elim (λhb=>Du I0 VH hn UM b hb o e) λhb=>I4.g.Tg b o (UM.gl b o hb);have o4:=VH.step (hit.al _ _ _ _ hP2) UM;have Vg:=z.2.trans UM;cases f with
  |next=>obtain rfl:fl= .next:=hf;exact⟨_,Nat.sub_lt_sub_left lt (Nat.lt_succ_self i),i+1,h4,U6,s2,G4,ρ4,rfl,lt,rfl,I4,Vg,p4,o4,e2⟩
  |cont=>obtain rfl:fl= .cont:=hf;exact⟨_,Nat.sub_lt_sub_left lt (Nat.lt_succ_self i),i+1,h4,U6,s2,G4,ρ4,rfl,lt,rfl,I4,Vg,p4,o4,e2⟩
  |ret b=>
   obtain⟨v',rfl,hv'⟩:=hf;obtain⟨rfl,rfl⟩:=so e2;exact k G4 ρ4 h4 U6 I4 Vg (.ret v') ⟨v',rfl,hv'⟩
theorem Ai{T3}(I1:aZ Bs X G1 ρ1 st1 h1)(S1:aH G0 ρ0 st0.S9 s0.heap G1 ρ1 st1.S9 h1 (aG X.fr) X.Tc)(hP:P 0 G1 ρ1 h1)(hO:Own own G1 ρ1 st1.S9)
  (hm:dk (λa s=>ao (nZ T gl ti a s) λ_ s=>ae T gl ib s) items st1=some (r,st')):
  codeAny (model Bs.prog w) A (.forLoop t it body [] X.env) (λr s'=>match r with| .ok f=>Q f s'| .error e=>cameBackBy (model Bs.prog w) A X.env E e s') {s0 with heap:=h1,toks:=T3}:=by
 refine codeAny_forLoop_any (MF Bs X T gl ti ib s0 G0 ρ0 st0 items own P r st') ?_ items.length ⟨0,h1,T3,st1,G1,ρ1,rfl,Nat.zero_le _,rfl,I1,S1,hP,hO,hm⟩;clear hm hO hP S1 I1;intro n s' q;obtain⟨i,h,tk,st1,G1,ρ1,rfl,hi,rfl,I1,S1,hP,hO,hm⟩:=q;have hh:=hA.2.2.1;cases hv:items[i]? with
 |none=>
  rw[List.drop_of_length_le (List.getElem?_eq_none_iff.mp hv)] at hm;obtain⟨rfl,rfl⟩:=so hm;refine wpAny_mono (hit.stop i hv A G1 ρ1 _ {s0 with heap:=h,toks:=tk} hh I1 hP (λs'=>Q .next s') _ λh' tk' TT=>k G1 ρ1 h' tk' (I0.touch I1 S1 hO hn TT).1 (I0.touch I1 S1 hO hn TT).2 .next rfl) (λr s' h=> ?_) λ_ _ x=>x;cases r with
  |none=>exact wpAny_execs_nil h
  |some v=>exact h.elim
 |some a=>
  refine wpAny_mono (hit.item i a hv A G1 ρ1 st1 {s0 with heap:=h,toks:=tk} hh I1 hP _ _ λv G2 h2 tk2 TT hv2 hP2=>Cn hX hE ht hb hA I0 hit hn k hv I1 S1 hP hO hm TT hv2 hP2) (λr s' h=> ?_) λ_ _ x=>x;cases r with
  |none=>exact h.elim
  |some v=>exact h
end
end
section
variable {w:World} {Bs:Base w} {X:Cx}
theorem jJ(hs:Heap.ExtBut it h h'):kj [it] G h G h':=⟨dF.rfl,λb o hb e=>hs b o (λq=>hb (q▸ .head _)) e,λb o e=> .inl e⟩
def N1(it:Addr)(R:Nat->Obj->Prop)(i:Nat)(h:Heap):Prop:= ∃o,h.get? it=some o/\R i o
def C3(it:Addr)(R:Nat->Obj->Prop)(S:Gm->Rm->Prop):Nat->Gm->Rm->Heap->Prop:=λi G ρ h=>N1 it R i h/\S G ρ
theorem tZ{go:Value->Sem Unit}{it:Addr}{items:aV}{R:Nat->Obj->Prop}{S:Gm->Rm->Prop}(hgo: ∀v,go v=pure ())(hS:aR S)
  (hi: ∀i a,items[i]?=some a-> ∀(A:Around) G ρ (s:Shared),(∀b o,G b=some o->s.heap.get? b=some o)->N1 it R i s.heap->S G ρ-> ∀(Q:Option Value->Shared->Prop) (E:bS),
   (∀v h' tk,N1 it R (i+1) h'->Heap.SameBut it s.heap h'->ar w G ρ a v->Q (some v) {s with heap:=h',toks:=tk})->wpAny (model Bs.prog w) A (pyNext (.ref it)) Q E s)
  (hs: ∀i (A:Around) (s:Shared),N1 it R i s.heap-> ∀(Q:bS) (E:bS),Q (.ref it) s->wpAny (model Bs.prog w) A (pyIter (.ref it)) Q E s)
  (he: ∀i,items[i]?=none-> ∀(A:Around) G ρ (s:Shared),A.handled=none->(∀b o,G b=some o->s.heap.get? b=some o)->N1 it R i s.heap->S G ρ-> ∀(Q:Option Value->Shared->Prop) (E:bS),(∀h',Heap.ExtBut it s.heap h'->Q none {s with heap:=h'})->wpAny (model Bs.prog w) A (pyNext (.ref it)) Q E s):
  Cy Bs X go [it] (.ref it) items (C3 it R S):=
 ⟨λi G ρ h G' ρ' h' p g r k=>⟨p.1.imp λo z=>⟨k it o (.inl (.head _)) z.1,z.2⟩,hS _ _ _ _ g r p.2⟩,λi G ρ h p b hb=>dt hb▸p.1.imp λo z=>z.1,
  λi a ha A G ρ st s hh I p Q E k=>hi i a ha A G ρ s I.g.Tg p.1 p.2 _ _ λv h' tk p' hs rv=>show wpAny _ _ (go v) _ _ _ from hgo v▸bq (k v G h' tk (jJ hs.extBut) rv ⟨p',p.2⟩),
  λi A G ρ s p Q E k=>hs i A s p.1 Q E k,λi ha A G ρ st s hh I p Q E k=>he i ha A G ρ s hh I.g.Tg p.1 p.2 _ _ λh' e=>k h' s.toks (jJ e)⟩
def AK(w:World)(c:String)(a:Addr)(l:aV):Gm->Rm->Prop:=λG ρ=> ∃vs n,G a=some {cls:= .type c,data:= .seq (List.toArray vs) n}/\ag w G ρ l vs
theorem AK.mono:aR (AK w c a l):=λ_ _ _ _ g r h=>h.imp λvs h=>h.imp λn h=>⟨g _ _ h.1,h.2.mono g r⟩
theorem ye{l}{vs}{i:Nat}(r:ag w G ρ l vs)(h:l[i]?=none):(List.toArray vs)[i]?=none:=Array.getElem?_eq_none_iff.mpr (r.length.symm▸List.getElem?_eq_none_iff.mp h:vs.length<=i)
theorem Ed(hgo: ∀v,go v=pure ()):Cy Bs X go [it] (.ref it) l (C3 it (λi o=>o.cls= .type "tuple_iterator" /\o.data= .fields #[.ref c,.int i 0]) (AK w "tuple" c l)):=
 tZ hgo AK.mono (λi a ha A G ρ s fz p q Q E k=>q.elim λvs q=>q.elim λn q=>(q.2.get ha).elim λv hv=>next_tuple_item p (items:=vs.toArray) ⟨_,fz _ _ q.1,rfl,_,rfl⟩ (x:=v) (List.getElem?_toArray.trans hv.1) λh' hit hs=>k v h' s.toks hit hs hv.2)
  (λi A s p Q E k=>wpAny_pyIter_tupleiter p k) λi ha A G ρ s hh fz p q Q E k=>q.elim λvs q=>q.elim λn q=>next_tuple_end hh p (items:=vs.toArray) ⟨_,fz _ _ q.1,rfl,_,rfl⟩ (ye q.2 ha) k
theorem E6(hgo: ∀v,go v=pure ()):Cy Bs X go [it] (.ref it) l (C3 it (λi o=>o.cls= .type "list_iterator" /\o.data= .fields #[.ref c,.int i 0]) (AK w "list" c l)):=
 tZ hgo AK.mono (λi a ha A G ρ s fz p q Q E k=>q.elim λvs q=>q.elim λn q=>(q.2.get ha).elim λv hv=>wpAny_pyNext_list_item p (items:=vs.toArray) ⟨_,fz _ _ q.1,rfl,_,rfl⟩ (x:=v) (List.getElem?_toArray.trans hv.1) λh' hit hs=>k v h' s.toks hit hs hv.2)
  (λi A s p Q E k=>wpAny_pyIter_listiter p k) λi ha A G ρ s hh fz p q Q E k=>q.elim λvs q=>q.elim λn q=>wpAny_pyNext_list_end hh p (items:=vs.toArray) ⟨_,fz _ _ q.1,rfl,_,rfl⟩ (ye q.2 ha) k
theorem Eg{b:List UInt8}{t:Tok}{go:Value->Sem Unit}{it:Addr}(hgo: ∀v,go v=pure ()):Cy Bs X go [it] (.ref it) (b.map λc=> .int c.toNat) (C3 it (λi o=>o.cls= .type "bytes_iterator" /\o.data= .fields #[.bytes b.toArray t,.int i 0]) λ_ _=>True):=
 tZ hgo aR.true (λi a ha A G ρ s fz p q Q E k=>ed (List.getElem?_map.symm.trans ha) λc hc e=>KBw.next_item p (c:=c) (List.getElem?_toArray.trans hc) λh' hit hs=>k _ h' _ hit hs (e▸⟨_,rfl⟩))
  (λi A s p Q E k=>KBw.pyIter_self p k) λi ha A G ρ s hh fz p q Q E k=>KBw.next_end hh p (List.getElem?_toArray.trans (Option.map_eq_none_iff.mp (List.getElem?_map.symm.trans ha))) k
theorem GA:n-((i+1:Nat):Int)=n-i-1:=Int.sub_sub n i 1▸rfl
theorem D8(hgo: ∀v,go v=pure ())(hn:0<=n):Cy Bs X go [it] (.ref it) ((List.range n.toNat).map fun(i:Nat)=> .int (Int.ofNat i)) (C3 it (λi o=>o={cls:= .type "range_iterator",data:= .fields #[rawInt ((i:Nat):Int),rawInt (n-i),rawInt 1]}) λ_ _=>True):=
 tZ hgo aR.true (λi a ha A G ρ s fz p q Q E k=>p.elim λo p=>ed (List.getElem?_map.symm.trans ha) λc hc e=>by
  obtain⟨lt,hc⟩:=ch hc;refine wpAny_pyNext_range_item (left:=n-i) (p.2▸p.1) (Int.sub_pos_of_lt (Int.lt_toNat.mp (Nat.lt_of_lt_of_eq lt List.length_range))) λh' hit hs=>k _ h' _ ⟨_,hit,?_⟩ hs ?_
  ·exact ac (λx=>({cls:= .type "range_iterator",data:= .fields #[rawInt ((i:Int)+1),rawInt x,rawInt 1]}:Obj)) GA.symm
  ·rw[<-e,<-hc,List.getElem_range];exact⟨_,rfl⟩)
  (λi A s p Q E k=>p.elim λo p=>wpAny_pyIter_rangeiter (p.2▸p.1) k) λi ha A G ρ s hh fz p q Q E k=>p.elim λo p=>wpAny_pyNext_range_end hh (p.2▸p.1) (Int.sub_nonpos_of_le (Int.toNat_le.mp (bz (Nat.le_of_eq List.length_range.symm) (List.getElem?_eq_none_iff.mp (Option.map_eq_none_iff.mp (List.getElem?_map.symm.trans ha)))))) k
inductive Src (Bs:Base w) (X:Cx) (go:Value->Value->Sem Unit) (G:Gm) (ρ:Rm) (σ:aX) (s:Shared) (items:aV) (st':St) (it:Value) (s':Shared):Prop
 |mk (G':Gm) (ρ':Rm) (h':Heap) (tk:Nat) (own:List Addr) (P:Nat->Gm->Rm->Heap->Prop) (es:s'={s with heap:=h',toks:=tk}) (I:aZ Bs X G' ρ' st' h') (S:aH G ρ σ s.heap G' ρ' st'.S9 h' (aG X.fr) X.Tc)
   (Uk: ∀Y,Cy Bs Y (go it) own it items P) (p:P 0 G' ρ' h') (new: ∀b∈own,s.heap.get? b=none) (o:Own own G' ρ' st'.S9)
def lm(Bs:Base w)(X:Cx)(go:Value->Value->Sem Unit)(W:WP Value)(m:St->Out (aV)):Prop:=
 ∀st r st',m st=some (r,st')-> ∀A G ρ (s:Shared),lN X.lvl X.fr A->aZ Bs X G ρ st s.heap-> ∀(Q:bS) (E:bS),
  (∀C,r= .exc C-> ∀G' ρ' h' tk,aZ Bs X G' ρ' st' h'->aH G ρ st.S9 s.heap G' ρ' st'.S9 h' (aG X.fr) X.Tc-> ∀x,ExcAt s.heap X.fenv.locals G' ρ' st'.S9 h' x C->E (.ref x) {s with heap:=h',toks:=tk})->
  (∀items,r= .ok items-> ∀it s',Src Bs X go G ρ st.S9 s items st' it s'->Q it s')->W A Q E s
theorem Src.from{go:Value->Value->Sem Unit}{G G1:Gm}{ρ ρ1:Rm}{σ:aX}{s:Shared}{items:aV}{st1 st':St}{it:Value}{s':Shared}{h1:Heap}{T3:Nat}(S1:aH G ρ σ s.heap G1 ρ1 st1.S9 h1 (aG X.fr) X.Tc)(z:Src Bs X go G1 ρ1 st1.S9 {s with heap:=h1,toks:=T3} items st' it s'):Src Bs X go G ρ σ s items st' it s':=by
 obtain⟨G',ρ',h',tk,own,P,es,I,S,Uk,p,new,o⟩:=z;exact⟨G',ρ',h',tk,own,P,es,I,S1.trans S,Uk,p,λb hb=>Mine.none_of S1.alive (new b hb),o⟩
theorem BE{α β:Type}{go:Value->Value->Sem Unit}{W:WP α}{R:Gm->Rm->β->α->Prop}{m:St->Out β}{U:α->WP Value}{f:aX->β->Option (aV)}(h:SE Bs X (λ_ _=>True) W m R)
  (k: ∀st b items,f st.S9 b=some items-> ∀A G ρ (s:Shared) a,lN X.lvl X.fr A->aZ Bs X G ρ st s.heap->R G ρ b a-> ∀Q E,(∀it s',Src Bs X go G ρ st.S9 s items st it s'->Q it s')->U a A Q E s):
  lm Bs X go (W.bind U) (λs=>ao (m s) λx s=>fh (f s.S9 x) s λitems s=>some (.ok items,s)):=λst r st' hm A G ρ s hA hI Q E ke ki=>
 bO hm (λC e e'=>h _ _ _ e A G ρ s hA hI trivial _ _ (ke C e')) λx s1 e1 e2=>bA e2 λitems ei e2=>h _ _ _ e1 A G ρ s hA hI trivial _ _ λG1 ρ1 g1 T3 I1 S1 v hv=>by
  obtain⟨rfl,rfl⟩:=so e2;exact k s1 x items ei A G1 ρ1 {s with heap:=g1,toks:=T3} v hA I1 hv Q E λit s' z=>ki items rfl it s' (z.from S1)
theorem jO{G}{ρ}{st}{h}(hI:aZ Bs X G ρ st h){a}(ha:h.get? a=none):Own [a] G ρ st.S9:=λb hb=>dt hb▸⟨hI.none_of ha,(ix hI ha).2.2⟩
theorem Src.new{go:Value->Value->Sem Unit}{G}{ρ}{st}{s}{items}{P:Nat->Gm->Rm->Heap->Prop}(hI:aZ Bs X G ρ st s.heap)(ob)(tk:Nat)(Uk: ∀Y,Cy Bs Y (go (.ref s.heap.objs.size)) [s.heap.objs.size] (.ref s.heap.objs.size) items P)(p:P 0 G ρ (s.heap.push ob)):
  Src Bs X go G ρ st.S9 s items st (.ref s.heap.objs.size) {s with heap:=s.heap.push ob,toks:=tk}:=
 have z:=hI.ext λb x e=>bv ob e
 ⟨G,ρ,s.heap.push ob,tk,_,P,rfl,z.1,z.2,Uk,p,λb hb=>dt hb▸bj (Nat.le_refl _),jO hI (bj (Nat.le_refl _))⟩
theorem C3.new{h:Heap}{ob:Obj}{R:Nat->Obj->Prop}{S:Gm->Rm->Prop}(nf:Obj.isFreed ob=false)(r:R 0 ob)(q:S G ρ):C3 h.objs.size R S 0 G ρ (h.push ob):=⟨⟨ob,dX _ nf,r⟩,q⟩
theorem yb{A:Around}{go:Value->Value->Sem Unit}{G:Gm}{ρ:Rm}{st:St}{s:Shared}{l:aV}{v:Value}{Q:bS}{E:bS}(hgo: ∀it v,go it v=pure ())(hI:aZ Bs X G ρ st s.heap)(hv:ar w G ρ (.lst l) v)(k: ∀it s',Src Bs X go G ρ st.S9 s l st it s'->Q it s'):wpAny (model Bs.prog w) A (pyIter v) Q E s:=by
 obtain⟨c,vs,n,rfl,h1,h2⟩:=hv;exact wpAny_pyIter_list (items:=vs.toArray) ⟨_,hI.g.Tg _ _ h1,rfl,_,rfl⟩ (k _ _ (Src.new hI _ s.toks (λ_=>E6 (hgo _)) (C3.new rfl ⟨rfl,rfl⟩ ⟨vs,n,h1,h2⟩)))
theorem x7(hgo: ∀it v,go it v=pure ())(h:SE Bs X (λ_ _=>True) (wp Bs (eval e env)) m (VR (w:=w))):
  lm Bs X go ((wp Bs (eval e env)).bind λv=>wp Bs (pyIter v)) (λs=>ao (m s) λx s=>fh (bN s.S9 .seq [x]) s λitems s=>some (.ok items,s)):=
 BE (f:=λσ x=>bN σ .seq [x]) h λst x items hit A G ρ s v hA hI hv Q E k=>Th hit (λb e e'=>by
  obtain⟨t,rfl⟩:=ar.Uu hv e;exact KBw.pyIter_bytes (k _ _ (Src.new hI _ s.toks (λ_=>aC e'▸Eg (hgo _)) (C3.new rfl ⟨rfl,rfl⟩ trivial)))) λhit=>Th hit (λl e e'=>by
  obtain⟨c,vs,n,rfl,h1,h2⟩:=ar.tpl hv e;obtain rfl:=aC e';exact iter_tuple (items:=vs.toArray) ⟨_,hI.g.Tg _ _ h1,rfl,_,rfl⟩ (k _ _ (Src.new hI _ s.toks (λ_=>Ed (hgo _)) (C3.new rfl ⟨rfl,rfl⟩ ⟨vs,n,h1,h2⟩)))) λhit=>Th hit (λl e e'=>yb hgo hI (aC e'▸yI e▸hv) k) λhit=>bA hit λj e h1=>bA h1 λt et h2=>bA et λo eo e3=>by
  obtain rfl:=nx e;obtain⟨p,hp,rfl⟩:=hv;exact yb hgo hI (hI.g.rep _ _ _ hp (eo.trans (ac _ ((of_eq e3).trans (ac _ (yI h2)))))) k
end
section
variable {w:World} {Bs:Base w} {X:Cx}
def qm(Bs:Base w)(X:Cx)(env:Env)(x:Str)(np:Pos)(c:Value):Prop:= ∀st G ρ A (s:Shared),lN X.lvl X.fr A->aZ Bs X G ρ st s.heap-> ∀Q E,Q c s->wpAny (model Bs.prog w) A (eval (.Name x np) env) Q E s
theorem Rc{α:Type}(h:(Res.exc a:Res α)= .exc b):a=b:=by cases h;rfl
theorem qs{go:Value->Value->Sem Unit}{np p}{m:St->Out (aV)}{f:aX->aV->Option (aV)}(hs:cv es)(hn:qm Bs X env x np (.type T))
  (h:SE Bs X (λ_ _=>True) (wp Bs (spliced (backTo p (starEach es env)))) m (vL (w:=w)))
  (k: ∀st b items,f st.S9 b=some items-> ∀A G ρ (s:Shared) vs,lN X.lvl X.fr A->aZ Bs X G ρ st s.heap->ag w G ρ b vs-> ∀Q E,(∀it s',Src Bs X go G ρ st.S9 s items st it s'->Q it s')->wpAny (model Bs.prog w) A (call (.type T) vs) (λv s=>wpAny (model Bs.prog w) A (pyIter v) Q E s) E s):
  lm Bs X go ((wp Bs (eval (.Call (.Name x np) es [] p) env)).bind λv=>wp Bs (pyIter v)) (λs=>ao (m s) λx s=>fh (f s.S9 x) s λitems s=>some (.ok items,s)):=λst r st' hm A G ρ s hA hI Q E ke ki=>
 wpAny_Call_Name_kw (hn st G ρ A s hA hI _ _ (fQ rfl hs (BE (U:=λvs A Q E s=>wpAny (model Bs.prog w) A (call (.type T) vs) (λv s=>wpAny (model Bs.prog w) A (pyIter v) Q E s) E s) h k st r st' hm A G ρ s hA hI Q E ke ki)))
theorem Dv(h:0<=n):Builtin.Range.rangeSize 0 n 1=n:=(rangeSize_one 0 n).trans ((Classical.em (0<n)).elim (λq=>(if_pos q).trans (Int.sub_zero n)) λq=>(if_neg q).trans (Int.le_antisymm h (Int.not_lt.mp q)))
theorem xW(hgo: ∀it v,go it v=pure ()){np p}{m:St->Out (aV)}(hs:cv es)(hn:qm Bs X env x np (.type "range"))
  (h:SE Bs X (λ_ _=>True) (wp Bs (spliced (backTo p (starEach es env)))) m (vL (w:=w))):
  lm Bs X go ((wp Bs (eval (.Call (.Name x np) es [] p) env)).bind λv=>wp Bs (pyIter v)) (λs=>ao (m s) λvs s=>fh (bN s.S9 .range vs) s λitems s=>some (.ok items,s)):=
 qs (f:=λσ=>bN σ .range) hs hn h λst b items hit A G ρ s vs hA hI hv Q E k=>ut hit λa ea hit=>bA hit λn en hit=>eV hit λhb e=>by
  obtain rfl:=aC e;obtain⟨n0,n1⟩:=bG hb;have n0:=aT n0;obtain⟨v,_,rfl,hv1,rfl⟩:ag w G ρ [a] vs:=ea▸hv;obtain⟨t,rfl⟩:=ar.int hv1 en;refine call_range_1 (wpAny_pyIter_range (s:={s with heap:=_,toks:=s.toks+1+1}) (IsRange.new s.heap 0 n 1 s.toks t (s.toks+1)) (small_one ∅ ∅ (Int.le_trans ∅ n0) (Int.le_trans (Int.add_le_add_right (aT n1) 1) (by decide:(100000+1:Int)<=2 ^ 62))) ?_);have z:=hI.ext λb x e=>bv {cls:= .type "range",data:= .fields #[.int 0 s.toks,.int n t,.int 1 (s.toks+1)]} e;exact k _ _ (Src.from (h1:=s.heap.push _) (T3:=s.toks+1+1) z.2 (Src.new (s:={s with heap:=s.heap.push _,toks:=s.toks+1+1}) z.1 _ _ (λ_=>D8 (hgo _) n0) (C3.new rfl (by rw[Dv n0];exact ac (λx=>({cls:= .type "range_iterator",data:= .fields #[rawInt 0,rawInt x,rawInt 1]}:Obj)) (Int.sub_zero n).symm) trivial)))
theorem IC(hX:X.Ok Bs)(hE:X.env=X.fenv){body}{ib}{ik}{g}{es}{pos}(hs: ∀x,foldedSetIterable iter X.env x=pure x)(ht:KR Bs X T gl t ti)
  (hb:SE Bs X (λ_ _=>True) (wp Bs (execs body X.env)) (ae T gl ib) (FR (w:=w)))
  (TN:lm Bs X (letOwnedTupleGo t) ((wp Bs (eval iter X.env)).bind λv=>wp Bs (pyIter v)) (λs=>ao (br T gl es s) λvs s=>fh (bN s.S9 ik vs) s λitems s=>some (.ok items,s))):
  SE Bs X (λ_ _=>True) (wp Bs (exec (.For t iter body [] pos) X.env)) (bf T gl (.fr ik g es ti ib)) (FR (w:=w)):=λst r st' hm A G ρ s hA hI hp Q E k=>
 wpAny_For (bO (show ao (br T gl es st) (λvs s=>fh (bN s.S9 ik vs) s λitems s=>dk (λa s=>ao (nZ T gl ti a s) λ_ s=>ae T gl ib s) items s)=_ from hm) (λC e e'=>TN st (.exc C) st' ((ac (ao · _) e).trans rfl) A G ρ s hA hI _ _ (λC' hC G' ρ' h' tk I S x hx=>by
  obtain rfl:=Rc hC;exact(e'▸k G' ρ' h' tk I S:er X (FR (w:=w)) (.exc C) G' ρ' st'.S9 s.heap s h' tk Q E) x hx) λitems hi=>nomatch hi) λvs s1 e1 e2=>bA e2 λitems hit e2=>
  TN st (.ok items) s1 ((ac (ao · _) e1).trans (ac (Option.bind · _) hit)) A G ρ s hA hI _ _ (λC' hC=>nomatch hC) λitems' hi it s' z=>by
  obtain rfl:=Om hi;obtain⟨G1,ρ1,h1,T3,own,P,rfl,I1,S1,Uk,p,new,o⟩:=z;exact Ai hX hE ht hb hA hI (Uk X) new k I1 S1 p o e2) hs
end
section
variable {prog:Program} {w:World} {A:Around} {E:bS} {s:Shared} {b:Array UInt8} {t:Tok}
open KBw in
theorem mj{Q:bS}(hit:IsBytesIter s.heap it b t i)(hx:b[i]?=some c)
  (hQ: ∀h',IsBytesIter h' it b t (i+1)->Heap.SameBut it s.heap h'->Q (.int (c.toNat:Int) s.toks) {s with heap:=h',toks:=s.toks+1}):wpAny (model prog w) A (Builtin.SmallTypes.nextOf (.ref it)) Q E s:=by
 obtain⟨o,ho,hc,hd⟩:=id hit;unfold Builtin.SmallTypes.nextOf;refine am (wpAny_callSpecial?_slot (name:=PySem.Str.ofString "__next__") (iter_typeIs hit) slot_next
  (wpAny_call_entry slot_next (iter_typeIs hit) entry_next ?_ (args_next _)))
 show wpAny _ _ (field (.ref it) 0>>=_) _ _ s;refine am (wpAny_field ho hd (x:= .bytes b t) rfl ?_);show wpAny _ _ (if(Value.bytes b t==Value.none)=true then _ else _) _ _ s;rw[if_neg (show¬((Value.bytes b t==Value.none)=true) from Bool.false_ne_true)];show wpAny _ _ (field (.ref it) 1>>=_) _ _ s;refine am (wpAny_field ho hd (x:= .int i 0) rfl ?_);refine am (wpAny_of_eq (a:=b) rfl ?_);simp only[Int.toNat_natCast,hx];refine am (wpAny_setField ho hd (by simp) (am (wpAny_mkInt (bq ⟨_,rfl,bq (hQ _ ?_ (Heap.SameBut.update ..))⟩))));exact⟨_,Heap.get?_update_self _ ho (Obj.isFreed_of_fields (Obj.data_mapFields hd _)),(Obj.cls_mapFields ..).trans hc,by
  rw[Obj.data_mapFields hd];simp[rawInt]⟩
open KBw in
theorem mZ{Q:bS}(hh:A.handled=none)(hit:IsBytesIter s.heap it b t i)(hx:b[i]?=none)
  (hE: ∀h' e,Heap.ExtBut it s.heap h'->(∃o,h'.get? e=some o/\o.cls= .type "StopIteration")->E (.ref e) {s with heap:=h'}):wpAny (model prog w) A (Builtin.SmallTypes.nextOf (.ref it)) Q E s:=by
 obtain⟨o,ho,hc,hd⟩:=id hit;unfold Builtin.SmallTypes.nextOf;refine am (wpAny_callSpecial?_slot (name:=PySem.Str.ofString "__next__") (iter_typeIs hit) slot_next
  (wpAny_call_entry slot_next (iter_typeIs hit) entry_next ?_ (args_next _)))
 show wpAny _ _ (field (.ref it) 0>>=_) _ _ s;refine am (wpAny_field ho hd (x:= .bytes b t) rfl ?_);show wpAny _ _ (if(Value.bytes b t==Value.none)=true then _ else _) _ _ s;rw[if_neg (show¬((Value.bytes b t==Value.none)=true) from Bool.false_ne_true)];show wpAny _ _ (field (.ref it) 1>>=_) _ _ s;refine am (wpAny_field ho hd (x:= .int i 0) rfl ?_);refine am (wpAny_of_eq (a:=b) rfl ?_);simp only[Int.toNat_natCast,hx];refine am (wpAny_rule (am (wpAny_setField ho hd (by simp) ?_)));show wpAny _ _ (newExc (.type "StopIteration") []>>=_) _ _ _;refine am ?_;simp only[newExc,newTuple];refine am (wpAny_newObj_type ?_ (by size_fits));refine am (m:=firstArgMember _ _) (wpAny_of_eq (a:=Value.none) (by first|rfl|(simp only[firstArgMember];rfl)) ?_);refine wpAny_newObj_type ?_ (by size_fits);simp only[raiseNew];refine am (wpAny_handled ?_);rw[show A.in1.handled=none from hh];refine am (bq (wpAny_throw ?_));exact hE _ _ (((Heap.SameBut.update ..).extBut.push _).push _) ⟨_,dX _ rfl,rfl⟩
end
theorem nU{prog}{w}(hh:A.handled=none)(it)(b)(t):
  Draws prog w A it [it] b.size (λi v=> ∃c u,b[i]?=some c/\v= .int (c.toNat:Int) u) (λi h=>KBw.IsBytesIter h it b t i) where
 live:=λ_ _ st=>let ⟨o,ho,_⟩:=st;⟨o,ho⟩
 frame:=λ_ _ _ st hk=>let ⟨o,ho,r⟩:=st;⟨o,hk it (by simp) o ho,r⟩
 item:=λi s Q E hi st hQ=>by
  refine mj st (c:=b[i]) (by simp[hi]) λh' hit' hs'=> ?_;exact hQ _ h' (s.toks+1) ⟨_,_,by simp[hi],rfl⟩ hit' hs'
 done:=λs Q E st hE=>mZ hh st (by simp) hE
set_option maxHeartbeats 1000000 in
theorem jI(b)(t):
  Meets (Builtin.«enumerate.__new__» ⟨[.type "enumerate",.bytes b t],[]⟩) (λ_ R s=>
   R (.ok (.ret (.ref (s.heap.push {cls:= .type "bytes_iterator",data:= .fields #[.bytes b t,.int 0 0]}).objs.size)))
    {s with heap:=(s.heap.push {cls:= .type "bytes_iterator",data:= .fields #[.bytes b t,.int 0 0]}).push {cls:= .type "enumerate",data:= .fields #[.none,.bool false,.ref s.heap.objs.size,rawInt 0,.none,.none]}}):=
 .of_wp λprog w A R s h=>by
  obtain⟨hp,g,d,tk,os⟩:=s;have hsub:=sub_enumerate
  wp_walk
  refine wpAny_stack_any λst=>bq ?_;split
  ·rename_i c _ _ _ _ _;cases (c==Value.type "enumerate")
   ·wp_walk using KBw.pyIter_bytes
    exact⟨_,rfl,h⟩
   ·wp_walk using KBw.pyIter_bytes
    exact⟨_,rfl,h⟩
  ·wp_walk using KBw.pyIter_bytes
   exact⟨_,rfl,h⟩
theorem jr{prog:Program}{w:World}{A:Around}{E:bS}{s:Shared}{b:Array UInt8}{t:Tok}{Q:bS}
  (h: ∀h',IsEnum h' (s.heap.objs.size+1) s.heap.objs.size 0 .none->KBw.IsBytesIter h' s.heap.objs.size b t 0->h'.objs.size=s.heap.objs.size+2->
   (∀b o,s.heap.get? b=some o->h'.get? b=some o)->Q (.ref (s.heap.objs.size+1)) {s with heap:=h'}):
  wpAny (model prog w) A (call (.type "enumerate") [.bytes b t]) Q E s:=by
 refine callType_new F.called_enumerate ∅ (F.typeCall_enumerate_1 _) (F.newCall_enumerate_1 _) (λobj=>F.args_object_init_2 obj _) F.entry_enumerate_new
  (jI b t) ?_
 have hz:(s.heap.push {cls:= .type "bytes_iterator",data:= .fields #[.bytes b t,.int 0 0]}).objs.size=s.heap.objs.size+1:=Heap.size_push ..;show _/\_;rw[hz];have he:IsEnum ((s.heap.push {cls:= .type "bytes_iterator",data:= .fields #[.bytes b t,.int 0 0]}).push
   {cls:= .type "enumerate",data:= .fields #[.none,.bool false,.ref s.heap.objs.size,rawInt 0,.none,.none]}) (s.heap.objs.size+1) s.heap.objs.size 0 .none:=by
  have:=dX (s.heap.push {cls:= .type "bytes_iterator",data:= .fields #[.bytes b t,.int 0 0]})
   (o:={cls:= .type "enumerate",data:= .fields #[.none,.bool false,.ref s.heap.objs.size,rawInt 0,.none,.none]}) rfl
  rw[hz] at this;exact this
 refine⟨⟨_,he,rfl⟩,h _ he ⟨_,bv _ (dX _ rfl),rfl,rfl⟩ (by rw[Heap.size_push,hz]) λb o y=>bv _ (bv _ y)⟩
section
variable {w:World} {Bs:Base w} {X:Cx}
theorem kj.add{own}{G}{h h'}{o}{a}(hk: ∀b o,b∉own->h.get? b=some o->h'.get? b=some o)(hn:G a=none)(h0:h.get? a=none)(ht:h'.get? a=some o):kj own G h (f6 G a o) h':=
 ⟨ez hn,hk,λb x q=>jN q (λe1 e2=> .inr (e1▸e2▸⟨h0,ht⟩)) .inl⟩
theorem Ev{a b c:Addr}(h:c∉ [a,b]):c≠a/\c≠b:=⟨λq=>h (q▸ .head _),λq=>h (q▸ .tail _ (.head _))⟩
theorem Bq{a b c}{P:Addr->Prop}(h:c∈ [a,b])(x:P a)(y:P b):P c:=(cW h).elim (λq=>q▸x) λh=>dt h▸y
inductive Po (b:List UInt8) (t:Tok) (e it:Addr) (i:Nat) (G:Gm) (ρ:Rm) (h:Heap):Prop
 |mk (ne:e≠it) (old:Value) (h1:IsEnum h e it ((i:Nat):Int) old) (h2:KBw.IsBytesIter h it b.toArray t i) (hi:i<=b.length)
theorem EZ{elts}{c:Nat}{p}{e it}{b}{t}:
  Cy Bs X (letOwnedTupleGo (.Tuple elts c p) (.ref e)) [e,it] (.ref e) (b.zipIdx.map λp=> .tup [.int p.2,.int p.1.toNat]) (Po b t e it):=by
 refine⟨λi G ρ h G' ρ' h' q g r' k=> ?_,λi G ρ h q b hb=> ?_,?_,λi A G ρ s q Q E k=> ?_,?_⟩
 ·obtain⟨ne,old,h1,⟨o,ho,r⟩,hi⟩:=q;exact⟨ne,old,k e _ (.inl (.head _)) h1,⟨o,k it o (.inl (.tail _ (.head _))) ho,r⟩,hi⟩
 ·obtain⟨ne,old,h1,⟨o,ho,_⟩,_⟩:=q;exact Bq (P:=λb=> ∃o,h.get? b=some o) hb ⟨_,h1⟩ ⟨o,ho⟩
 ·intro i a ha A G ρ st s hh I q Q E k;obtain⟨ne,old,h1,h2,hi0⟩:=q;refine ed (List.getElem?_map.symm.trans ha) λq hq eq=>ed (List.getElem?_zipIdx.symm.trans hq) λc' hc' hj=> ?_;obtain rfl:=hj;obtain rfl:=eq;have lt:=(ch hc').1;refine wpAny_pyNext_enum_itemD (St:=λi h=>KBw.IsBytesIter h it b.toArray t i) (nU (A:=A.in1) hh it b.toArray t) h1 h2 (List.size_toArray▸lt) ne (λq=>ne (dt q)) λx h' tk hx ho hi ht hz hk=> ?_;obtain⟨c2,u,hc2,rfl⟩:=hx;obtain rfl:c2=c':=aC (hc2.symm.trans (List.getElem?_toArray.trans hc'));refine wpAny_letOwnedTupleGo_enum (s:={s with heap:=h',toks:=tk+1}) ho λh2' he2 hs2=> ?_;have Wf:=(hs2.2 _ (Nat.ne_of_gt (iL h1))).trans ht;exact k (.ref s.heap.objs.size) (f6 G s.heap.objs.size {cls:= .type "tuple",data:= .seq (List.toArray [.int i tk,.int (c2.toNat:Int) u])}) h2' (tk+1) (.add (λb o hb e'=>(hs2.2 b (Ev hb).1).trans (hk b o (Ev hb).1 (Ev hb).2 e')) (I.none_of (bj (Nat.le_refl _))) (bj (Nat.le_refl _)) Wf)
   ⟨_,_,_,rfl,dR,_,_,rfl,⟨tk,ac (λn:Nat=>Value.int n tk) (Nat.zero_add i).symm⟩,_,_,rfl,⟨_,rfl⟩,rfl⟩ ⟨ne,_,he2,hi.imp λo z=>⟨(hs2.2 it ne.symm).trans z.1,z.2⟩,lt⟩
 ·obtain⟨_,old,h1,_,_⟩:=q;exact wpAny_pyIter_enum h1 k
 ·intro i ha A G ρ st s hh I q Q E k;obtain⟨ne,old,h1,h2,hi0⟩:=q;obtain rfl:i=b.toArray.size:=(Nat.le_antisymm hi0 (bz (Nat.le_of_eq ((List.length_map ..).trans (List.length_zipIdx ..)).symm) (List.getElem?_eq_none_iff.mp ha))).trans (List.size_toArray ..).symm;exact wpAny_pyNext_enum_endD (St:=λi h=>KBw.IsBytesIter h it b.toArray t i) (nU (A:=A.in1) hh it b.toArray t) h1 h2 λh' he=>k h' s.toks ⟨dF.rfl,λx o hb e=>he x o (Ev hb).2 e,λx o e=> .inl e⟩
theorem Eu{es}{env}{x}{elts}{c}{tp}{np p}{m:St->Out (aV)}(hs:cv es)(hn:qm Bs X env x np (.type "enumerate"))
  (h:SE Bs X (λ_ _=>True) (wp Bs (spliced (backTo p (starEach es env)))) m (vL (w:=w))):
  lm Bs X (letOwnedTupleGo (.Tuple elts c tp)) ((wp Bs (eval (.Call (.Name x np) es [] p) env)).bind λv=>wp Bs (pyIter v)) (λs=>ao (m s) λvs s=>fh (bN s.S9 .enum vs) s λitems s=>some (.ok items,s)):=
 qs (f:=λσ=>bN σ .enum) hs hn h λst b items hit A G ρ s vs hA hI hv Q E k=>ut hit λa ea hit=>ed hit λbs eb e=>by
  obtain rfl:=e;obtain⟨v,_,rfl,hv1,rfl⟩:ag w G ρ [a] vs:=ea▸hv;obtain⟨t,rfl⟩:=ar.Uu hv1 eb;refine jr λh' he hi hz ext=> ?_;have z:=hI.ext ext;have n1:s.heap.get? s.heap.objs.size=none:=bj (Nat.le_refl _);have n2:s.heap.get? (s.heap.objs.size+1)=none:=bj (Nat.le_succ _);exact wpAny_pyIter_enum (s:={s with heap:=h'}) he (k _ _ ⟨G,ρ,h',s.toks,_,_,rfl,z.1,z.2,λ_=>EZ,⟨Nat.succ_ne_self _,_,he,hi,Nat.zero_le _⟩,λb hb=>Bq (P:=λb=>s.heap.get? b=none) hb n2 n1,λb hb=>Bq (P:=λb=>G b=none/\ ¬bK ρ st.S9 b) hb (jO hI n2 _ (.head _)) (jO hI n1 _ (.head _))⟩)
end
section
variable {prog:Program} {w:World} {A:Around} {E:bS} {s:Shared}
theorem mh{items}{x}{Q:bS}(hit:IsTupIter s.heap it l i)
  (hl:IsTup s.heap l items) (hx:items[i]?=some x)
  (hQ: ∀h',IsTupIter h' it l (i+1)->Heap.SameBut it s.heap h'->Q x {s with heap:=h'}):
  wpAny (model prog w) A (Builtin.SmallTypes.nextOf (.ref it)) Q E s:=by
 obtain⟨o,ho,hc,hd⟩:=id hit;obtain⟨ol,hol,_,nl,HI⟩:=hl;unfold Builtin.SmallTypes.nextOf;refine am (wpAny_callSpecial?_slot (name:=Str.ofString "__next__") hit.typeIs slot_tupleiter_next
  (wpAny_call_entry slot_tupleiter_next hit.typeIs entry_tupleiter_next ?_ (args_tupleiter_next _)))
 show wpAny _ _ (field (.ref it) 0>>=_) _ _ s;refine am (wpAny_field ho hd (x:= .ref l) rfl ?_);show wpAny _ _ (if(Value.ref l==Value.none)=true then _ else _) _ _ s;rw[if_neg (show¬((Value.ref l==Value.none)=true) from Bool.false_ne_true)];show wpAny _ _ (field (.ref it) 1>>=_) _ _ s;refine am (wpAny_field ho hd (x:= .int i 0) rfl ?_);show wpAny _ _ (seqItems? (.ref l)>>=_) _ _ s;refine am (wpAny_seqItems hol HI ?_);simp only[Int.toNat_natCast,hx];refine am (wpAny_setField ho hd (by simp) (bq ⟨x,rfl,bq (hQ _ ?_ (Heap.SameBut.update ..))⟩));exact⟨_,Heap.get?_update_self _ ho (Obj.isFreed_of_fields (Obj.data_mapFields hd _)),(Obj.cls_mapFields ..).trans hc,by
  rw[Obj.data_mapFields hd];simp[rawInt]⟩
theorem mY{it l}{i}{items}{Q:bS}(hh:A.handled=none)
  (hit:IsTupIter s.heap it l i) (hl:IsTup s.heap l items) (hx:items[i]?=none)
  (hE: ∀h' e,Heap.ExtBut it s.heap h'->(∃o,h'.get? e=some o/\o.cls= .type "StopIteration")->E (.ref e) {s with heap:=h'}):
  wpAny (model prog w) A (Builtin.SmallTypes.nextOf (.ref it)) Q E s:=by
 obtain⟨o,ho,hc,hd⟩:=id hit;obtain⟨ol,hol,_,nl,HI⟩:=hl;unfold Builtin.SmallTypes.nextOf;refine am (wpAny_callSpecial?_slot (name:=Str.ofString "__next__") hit.typeIs slot_tupleiter_next
  (wpAny_call_entry slot_tupleiter_next hit.typeIs entry_tupleiter_next ?_ (args_tupleiter_next _)))
 show wpAny _ _ (field (.ref it) 0>>=_) _ _ s;refine am (wpAny_field ho hd (x:= .ref l) rfl ?_);show wpAny _ _ (if(Value.ref l==Value.none)=true then _ else _) _ _ s;rw[if_neg (show¬((Value.ref l==Value.none)=true) from Bool.false_ne_true)];show wpAny _ _ (field (.ref it) 1>>=_) _ _ s;refine am (wpAny_field ho hd (x:= .int i 0) rfl ?_);show wpAny _ _ (seqItems? (.ref l)>>=_) _ _ s;refine am (wpAny_seqItems hol HI ?_);simp only[Int.toNat_natCast,hx];refine am (wpAny_rule (am (wpAny_setField ho hd (by simp) ?_)));show wpAny _ _ (newExc (.type "StopIteration") []>>=_) _ _ _;refine am ?_;simp only[newExc,newTuple];refine am (wpAny_newObj_type ?_ (by size_fits));refine am (m:=firstArgMember _ _) (wpAny_of_eq (a:=Value.none) (by first|rfl|(simp only[firstArgMember];rfl)) ?_);refine wpAny_newObj_type ?_ (by size_fits);simp only[raiseNew];refine am (wpAny_handled ?_)
 first|rw[show A.in1.handled=none from hh]|rw[hh]
 refine am (bq (wpAny_throw ?_));exact hE _ _ (((Heap.SameBut.update ..).extBut.push _).push _) ⟨_,dX _ rfl,rfl⟩
end
theorem IsTup.at{a items}(x:IsTup h a items)(e: ∀o,h.get? a=some o->h'.get? a=some o):IsTup h' a items:=let ⟨o,ho,r⟩:=x;⟨o,e _ ho,r⟩
theorem IsTupIter.at{a l i}(x:IsTupIter h a l i)(e: ∀o,h.get? a=some o->h'.get? a=some o):IsTupIter h' a l i:=let ⟨o,ho,r⟩:=x;⟨o,e _ ho,r⟩
theorem r9{prog}{w}(hh:A.handled=none)(it l)(hne:l≠it)(items):
  Draws prog w A it [it,l] items.size (λi v=>items[i]?=some v) (λi h=>IsTupIter h it l i/\IsTup h l items) where
 live:=λ_ _ st=>let ⟨o,ho,_⟩:=st.1;⟨o,ho⟩
 frame:=λ_ _ _ st hk=>⟨Mine.IsTupIter.at st.1 λo e=>hk it (by simp) o e,Mine.IsTup.at st.2 λo e=>hk l (by simp) o e⟩
 item:=λi s Q E hi st hQ=>by
  refine mh st.1 st.2 (x:=items[i]) (by simp[hi]) λh' hit' hs'=> ?_;exact hQ _ h' s.toks (by simp[hi]) ⟨hit',st.2.extBut hs'.extBut hne⟩ hs'
 done:=λs Q E st hE=>mY hh st.1 st.2 (by simp) hE
structure sr (z TI TO i1 i2:Addr) (f1 f2:List Addr):Prop where
 TIz:TI≠z
 TOz:TO≠z
 TITO:TI≠TO
 TIi1:TI≠i1
 TIi2:TI≠i2
 TOi1:TO≠i1
 TOi2:TO≠i2
 i1z:i1≠z
 i2z:i2≠z
 i12:i1≠i2
 z1:z∉f1
 z2:z∉f2
 VD:TO∉f1
 Vh:TO∉f2
 Wh:i2∉f1
 U1:i1∉f2
section
variable {prog:Program} {w:World} {A:Around} {E:bS} {s:Shared} {z TI TO i1 i2:Addr} {f1 f2:List Addr} {n1 n2 k:Nat} {P1 P2:Nat->Value->Prop} {S1 S2:Nat->Heap->Prop} {a b:Value}
theorem zk{Q:bS}(D:sr z TI TO i1 i2 f1 f2)(D1:Draws prog w A i1 f1 n1 P1 S1)(D2:Draws prog w A i2 f2 n2 P2 S2)
  (hz:IsZip s.heap z TI TO .none) (hTI:IsPair s.heap TI (.ref i1) (.ref i2)) (hTO:IsPair s.heap TO a b) (h1:S1 k s.heap) (h2:S2 k s.heap) (UN:k<n1) (Vb:k<n2)
  (hQ: ∀x y h' tk,P1 k x->P2 k y->IsZip h' z TI TO (rawInt s.heap.objs.size)->IsPair h' TO x y->S1 (k+1) h'->S2 (k+1) h'->IsPair h' s.heap.objs.size x y->
   (∀c o,c≠z->c≠TO->c≠i1->c≠i2->s.heap.get? c=some o->h'.get? c=some o)->Q (.ref s.heap.objs.size) {s with heap:=h',toks:=tk}):
  wpAny (model prog w) A (Builtin.«zip.__next__» ⟨[.ref z],[]⟩) (λfin s'=> ∃v,fin= .done (.ret v)/\Q v s') E s:=by
 have ki: ∀{h h':Heap} {c:Addr} {o:Obj},Heap.SameBut c h h'-> ∀d,d≠c->h.get? d=some o->h'.get? d=some o:=λhs d hd e=>by rw[hs.2 d hd];exact e
 show wpAny _ _ (field (.ref z) 2>>=_) _ _ _;refine am (wpAny_field hz rfl (x:= .bool false) rfl ?_);show wpAny _ _ (field (.ref z) 3>>=_) _ _ _;refine am (wpAny_field hz rfl (x:= .ref TI) rfl ?_);refine am (wpAny_seqItems hTI rfl ?_);show wpAny _ _ (Builtin.SmallTypes.ownedTupleIsFree (.ref z)>>=_) _ _ _;refine am ?_;unfold Builtin.SmallTypes.ownedTupleIsFree;refine am (wpAny_field hz rfl (x:= .none) rfl (bq ?_));simp only[if_true];refine am (wpAny_rule ?_);refine am (wpAny_field hz rfl (x:= .ref TO) rfl ?_);refine am (wpAny_setField_rec hz (by simp) λg₁ hz₁ hs₁=> ?_)
 replace hz₁:IsZip g₁ z TI TO .ellipsis:=hz₁
 replace hs₁:Heap.SameBut z s.heap g₁:=hs₁
 refine am ?_;simp only[List.zipIdx_cons,List.zipIdx_nil,List.forIn_cons,List.forIn_nil];have m1:S1 k g₁:=D1.frame _ _ _ h1 λc hc o e=>ki hs₁ c (λq=>D.z1 (q▸hc)) e;have m2:S2 k g₁:=D2.frame _ _ _ h2 λc hc o e=>ki hs₁ c (λq=>D.z2 (q▸hc)) e;refine am (am (wpAny_onRaise ?_));show wpAny _ _ (Builtin.SmallTypes.nextOf (.ref i1)>>=_) _ _ _;refine am (D1.item k _ _ _ UN m1 λx g₂ tk₂ hx p1 hs₂=>bq ?_)
 replace hs₂:Heap.SameBut i1 g₁ g₂:=hs₂
 have p2:S2 k g₂:=D2.frame _ _ _ m2 λc hc o e=>ki hs₂ c (λq=>D.U1 (q▸hc)) e;have hTO₂:IsPair g₂ TO a b:=ki hs₂ _ D.TOi1 (ki hs₁ _ D.TOz hTO);refine am (wpAny_seqItems hTO₂ rfl ?_);refine am (wpAny_updateSeq_pair hTO₂ λg₃ hTO₃ hs₃=> ?_)
 replace hTO₃:IsPair g₃ TO x b:=hTO₃
 replace hs₃:Heap.SameBut TO g₂ g₃:=hs₃
 refine am (wpAny_letGo (bq ?_));have q1:S1 (k+1) g₃:=D1.frame _ _ _ p1 λc hc o e=>ki hs₃ c (λq=>D.VD (q▸hc)) e;have q2:S2 k g₃:=D2.frame _ _ _ p2 λc hc o e=>ki hs₃ c (λq=>D.Vh (q▸hc)) e;refine am (am (wpAny_onRaise ?_));show wpAny _ _ (Builtin.SmallTypes.nextOf (.ref i2)>>=_) _ _ _;refine am (D2.item k _ _ _ Vb q2 λy g₄ tk₄ hy r2 hs₄=>bq ?_)
 replace hs₄:Heap.SameBut i2 g₃ g₄:=hs₄
 have r1:S1 (k+1) g₄:=D1.frame _ _ _ q1 λc hc o e=>ki hs₄ c (λq=>D.Wh (q▸hc)) e;have hTO₄:IsPair g₄ TO x b:=ki hs₄ _ D.TOi2 hTO₃;refine am (wpAny_seqItems hTO₄ rfl ?_);refine am (wpAny_updateSeq_pair hTO₄ λg₅ hTO₅ hs₅=> ?_)
 replace hTO₅:IsPair g₅ TO x y:=hTO₅
 replace hs₅:Heap.SameBut TO g₄ g₅:=hs₅
 refine am (wpAny_letGo (bq (bq ?_)));have t1:S1 (k+1) g₅:=D1.frame _ _ _ r1 λc hc o e=>ki hs₅ c (λq=>D.VD (q▸hc)) e;have t2:S2 (k+1) g₅:=D2.frame _ _ _ r2 λc hc o e=>ki hs₅ c (λq=>D.Vh (q▸hc)) e;refine am (wpAny_seqItems hTO₅ rfl ?_);refine am (wpAny_newTuple ?_);have hsz:g₅.objs.size=s.heap.objs.size:=by rw[hs₅.1,hs₄.1,hs₃.1,hs₂.1,hs₁.1]
 have hz₅:IsZip g₅ z TI TO .ellipsis:=ki hs₅ _ D.TOz.symm (ki hs₄ _ D.i2z.symm (ki hs₃ _ D.TOz.symm (ki hs₂ _ D.i1z.symm hz₁)));have hk₅: ∀c o,c≠z->c≠TO->c≠i1->c≠i2->s.heap.get? c=some o->g₅.get? c=some o:=λc o c1 c2 c3 c4 e=>
  ki hs₅ _ c2 (ki hs₄ _ c4 (ki hs₃ _ c2 (ki hs₂ _ c3 (ki hs₁ _ c1 e))))
 have hzlt:z<g₅.objs.size:=Heap.lt_size hz₅;show wpAny _ _ (Builtin.SmallTypes.ownedTupleHandOut (.ref z) (.ref g₅.objs.size)>>=_) _ _ _;refine am ?_;unfold Builtin.SmallTypes.ownedTupleHandOut;have hz₆:IsZip (g₅.push {cls:= .type "tuple",data:= .seq #[x,y]}) z TI TO .ellipsis:=bv _ hz₅;refine am (wpAny_setField_rec hz₆ (by simp) λg₇ hz₇ hs₇=> ?_)
 replace hz₇:IsZip g₇ z TI TO (rawInt g₅.objs.size):=hz₇
 refine wpAny_setField_rec hz₇ (by simp) λg₈ hz₈ hs₈=> ?_
 replace hz₈:IsZip g₈ z TI TO (rawInt g₅.objs.size):=hz₈
 have up: ∀c o,c≠z->g₅.get? c=some o->g₈.get? c=some o:=λc o c1 e=>hs₈.extBut _ _ c1 (hs₇.extBut _ _ c1 (bv _ e));have hT₈:IsPair g₈ g₅.objs.size x y:=hs₈.extBut _ _ (Nat.ne_of_gt hzlt) (hs₇.extBut _ _ (Nat.ne_of_gt hzlt) (dX _ rfl));have u1:S1 (k+1) g₈:=D1.frame _ _ _ t1 λc hc o e=>up c o (λq=>D.z1 (q▸hc)) e;have u2:S2 (k+1) g₈:=D2.frame _ _ _ t2 λc hc o e=>up c o (λq=>D.z2 (q▸hc)) e;rw[hsz] at hz₈ hT₈;refine bq ⟨_,rfl,?_⟩;show Q (.ref g₅.objs.size) _;rw[hsz];exact hQ x y g₈ _ hx hy hz₈ (up _ _ D.TOz hTO₅) u1 u2 hT₈ λc o c1 c2 c3 c4 e=>up c o c1 (hk₅ c o c1 c2 c3 c4 e)
theorem Cu{Q:Fin->Shared->Prop}(D:sr z TI TO i1 i2 f1 f2)(D1:Draws prog w A i1 f1 n1 P1 S1)(D2:Draws prog w A i2 f2 n2 P2 S2)
  (hz:IsZip s.heap z TI TO .none) (hTI:IsPair s.heap TI (.ref i1) (.ref i2)) (hTO:IsPair s.heap TO a b) (h1:S1 k s.heap) (h2:S2 k s.heap) (hend:k=n1\/(k<n1/\k=n2))
  (hE: ∀h' e tk,(∀c o,c≠z->c≠TO->c≠i1->c≠i2->s.heap.get? c=some o->h'.get? c=some o)->(∃o,h'.get? e=some o/\o.cls= .type "StopIteration")->E (.ref e) {s with heap:=h',toks:=tk}):
  wpAny (model prog w) A (Builtin.«zip.__next__» ⟨[.ref z],[]⟩) Q E s:=by
 have ki: ∀{h h':Heap} {c:Addr} {o:Obj},Heap.SameBut c h h'-> ∀d,d≠c->h.get? d=some o->h'.get? d=some o:=λhs d hd e=>by rw[hs.2 d hd];exact e
 show wpAny _ _ (field (.ref z) 2>>=_) _ _ _;refine am (wpAny_field hz rfl (x:= .bool false) rfl ?_);show wpAny _ _ (field (.ref z) 3>>=_) _ _ _;refine am (wpAny_field hz rfl (x:= .ref TI) rfl ?_);refine am (wpAny_seqItems hTI rfl ?_);show wpAny _ _ (Builtin.SmallTypes.ownedTupleIsFree (.ref z)>>=_) _ _ _;refine am ?_;unfold Builtin.SmallTypes.ownedTupleIsFree;refine am (wpAny_field hz rfl (x:= .none) rfl (bq ?_));simp only[if_true];refine am (wpAny_rule ?_);refine am (wpAny_field hz rfl (x:= .ref TO) rfl ?_);refine am (wpAny_setField_rec hz (by simp) λg₁ hz₁ hs₁=> ?_)
 replace hz₁:IsZip g₁ z TI TO .ellipsis:=hz₁
 replace hs₁:Heap.SameBut z s.heap g₁:=hs₁
 refine am ?_;simp only[List.zipIdx_cons,List.zipIdx_nil,List.forIn_cons,List.forIn_nil];have m1:S1 k g₁:=D1.frame _ _ _ h1 λc hc o e=>ki hs₁ c (λq=>D.z1 (q▸hc)) e;have m2:S2 k g₁:=D2.frame _ _ _ h2 λc hc o e=>ki hs₁ c (λq=>D.z2 (q▸hc)) e;refine am (am (wpAny_onRaise ?_));show wpAny _ _ (Builtin.SmallTypes.nextOf (.ref i1)>>=_) _ _ _;rcases hend with rfl|⟨UN,rfl⟩
 ·refine am (D1.done _ _ _ m1 λg₂ e hs₂ he=> ?_)
  replace hs₂:Heap.ExtBut i1 g₁ g₂:=hs₂
  obtain⟨oe,hoe,hce⟩:=he;have hz₂:IsZip g₂ z TI TO .ellipsis:=hs₂ _ _ D.i1z.symm hz₁;have hez:e≠z:=λx=>by subst x;rw[hz₂] at hoe;cases hoe;simp at hce
  refine wpAny_setField_rec hz₂ (by simp) λh₃ _ hs₃=>hE h₃ e _ (λc o c1 _ c3 _ x=>hs₃.extBut _ _ c1 (hs₂ _ _ c3 (ki hs₁ _ c1 x))) ⟨oe,hs₃.extBut _ _ hez hoe,hce⟩
 ·refine am (D1.item k _ _ _ UN m1 λx g₂ tk₂ hx p1 hs₂=>bq ?_)
  replace hs₂:Heap.SameBut i1 g₁ g₂:=hs₂
  have p2:S2 k g₂:=D2.frame _ _ _ m2 λc hc o e=>ki hs₂ c (λq=>D.U1 (q▸hc)) e;have hTO₂:IsPair g₂ TO a b:=ki hs₂ _ D.TOi1 (ki hs₁ _ D.TOz hTO);refine am (wpAny_seqItems hTO₂ rfl ?_);refine am (wpAny_updateSeq_pair hTO₂ λg₃ hTO₃ hs₃=> ?_)
  replace hs₃:Heap.SameBut TO g₂ g₃:=hs₃
  refine am (wpAny_letGo (bq ?_));have q2:S2 k g₃:=D2.frame _ _ _ p2 λc hc o e=>ki hs₃ c (λq=>D.Vh (q▸hc)) e;refine am (am (wpAny_onRaise ?_));show wpAny _ _ (Builtin.SmallTypes.nextOf (.ref i2)>>=_) _ _ _;refine am (D2.done _ _ _ q2 λg₄ e hs₄ he=> ?_)
  replace hs₄:Heap.ExtBut i2 g₃ g₄:=hs₄
  obtain⟨oe,hoe,hce⟩:=he;have hz₄:IsZip g₄ z TI TO .ellipsis:=hs₄ _ _ D.i2z.symm (ki hs₃ _ D.TOz.symm (ki hs₂ _ D.i1z.symm hz₁));have hez:e≠z:=λx=>by subst x;rw[hz₄] at hoe;cases hoe;simp at hce
  refine wpAny_setField_rec hz₄ (by simp) λg₅ _ hs₅=>hE g₅ e _ (λc o c1 c2 c3 c4 x=>hs₅.extBut _ _ c1 (hs₄ _ _ c4 (ki hs₃ _ c2 (ki hs₂ _ c3 (ki hs₁ _ c1 x))))) ⟨oe,hs₅.extBut _ _ hez hoe,hce⟩
end
abbrev N9(h:Heap)(l1:Addr):Heap:=h.push {cls:= .type "tuple_iterator",data:= .fields #[.ref l1,.int 0 0]}
abbrev Ow(h:Heap)(l1 l2:Addr):Heap:=(N9 h l1).push {cls:= .type "list_iterator",data:= .fields #[.ref l2,.int 0 0]}
abbrev Ol(h:Heap)(l1 l2:Addr):Heap:=(Ow h l1 l2).push {cls:= .type "tuple",data:= .seq #[.ref h.objs.size,.ref (N9 h l1).objs.size]}
abbrev Og(h:Heap)(l1 l2:Addr):Heap:=(Ol h l1 l2).push {cls:= .type "tuple",data:= .seq #[.none,.none]}
abbrev KH(h:Heap)(l1 l2:Addr):Heap:=(Og h l1 l2).push {cls:= .type "zip",data:= .fields #[.none,.bool false,.bool false,.ref (Ow h l1 l2).objs.size,.ref (Ol h l1 l2).objs.size]}
set_option maxHeartbeats 1000000 in
theorem tj(l1 l2)(xs ys):
  Meets (Builtin.«zip.__new__» ⟨[.type "zip",.ref l1,.ref l2],[]⟩) (λ_ R s=>IsTup s.heap l1 xs/\s.heap.IsList l2 ys/\
   R (.ok (.ret (.ref (Og s.heap l1 l2).objs.size))) {s with heap:=KH s.heap l1 l2}):=
 .of_wp λprog w A R s h=>by
  obtain⟨hp,g,d,tk,os⟩:=s;obtain⟨hl1,hl2,h⟩:=h;have hsub:=sub_zip;have hL1:IsTup (Shared.heap ⟨hp,g,d,tk,os⟩) l1 xs:=hl1;have hL2:Heap.IsList (Shared.heap ⟨hp.push {cls:= .type "tuple_iterator",data:= .fields #[.ref l1,.int 0 0]},g,d,tk,os⟩) l2 ys:=Heap.IsList.push hl2 _
  wp_walk using iter_tuple hL1,wpAny_pyIter_list hL2
  exact⟨_,rfl,h⟩
theorem wc{prog}{w}{A}{E:bS}{Q:bS}(hl1:IsTup s.heap l1 xs)(hl2:s.heap.IsList l2 ys)
  (h: ∀h',IsZip h' (s.heap.objs.size+4) (s.heap.objs.size+2) (s.heap.objs.size+3) .none->IsPair h' (s.heap.objs.size+2) (.ref s.heap.objs.size) (.ref (s.heap.objs.size+1))->
   IsPair h' (s.heap.objs.size+3) .none .none->IsTupIter h' s.heap.objs.size l1 0->h'.IsListIter (s.heap.objs.size+1) l2 0->h'.objs.size=s.heap.objs.size+5->
   (∀c o,s.heap.get? c=some o->h'.get? c=some o)->Q (.ref (s.heap.objs.size+4)) {s with heap:=h'}):
  wpAny (model prog w) A (call (.type "zip") [.ref l1,.ref l2]) Q E s:=by
 refine callType_new F.called_zip ∅ (F.typeCall_zip_2 _ _) (F.newCall_zip_2 _ _) (λobj=>F.args_object_init_3 obj _ _) F.entry_zip_new
  (tj l1 l2 xs ys) ⟨hl1,hl2,?_⟩
 have z1:(N9 s.heap l1).objs.size=s.heap.objs.size+1:=Heap.size_push ..;have z2:(Ow s.heap l1 l2).objs.size=s.heap.objs.size+2:=by rw[Heap.size_push,z1]
 have z3:(Ol s.heap l1 l2).objs.size=s.heap.objs.size+3:=by rw[Heap.size_push,z2]
 have z4:(Og s.heap l1 l2).objs.size=s.heap.objs.size+4:=by rw[Heap.size_push,z3]
 have z5:(KH s.heap l1 l2).objs.size=s.heap.objs.size+5:=by rw[Heap.size_push,z4]
 have g5:(KH s.heap l1 l2).get? (Og s.heap l1 l2).objs.size=some _:=dX _ rfl;have g4:(KH s.heap l1 l2).get? (Ol s.heap l1 l2).objs.size=some _:=bv _ (dX _ rfl);have g3:(KH s.heap l1 l2).get? (Ow s.heap l1 l2).objs.size=some _:=bv _ (bv _ (dX _ rfl));have g2:(KH s.heap l1 l2).get? (N9 s.heap l1).objs.size=some _:=bv _ (bv _ (bv _ (dX _ rfl)));have g1:(KH s.heap l1 l2).get? s.heap.objs.size=some _:=bv _ (bv _ (bv _ (bv _ (dX _ rfl))));show _/\_;rw[z2,z3,z4] at g5;rw[z1,z2] at g3;rw[z3] at g4;rw[z1] at g2;rw[z4];exact⟨⟨_,g5,rfl⟩,h _ g5 g3 g4 ⟨_,g1,rfl,rfl⟩ ⟨_,g2,rfl,rfl⟩ z5 λc o x=>
  bv _ (bv _ (bv _ (bv _ (bv _ x))))⟩
section
variable {w:World} {Bs:Base w} {X:Cx}
inductive Nn (w:World) (l1 l2:aV) (z TI TO i1 i2 c1 c2:Addr) (i:Nat) (G:Gm) (ρ:Rm) (h:Heap):Prop
 |mk (D:sr z TI TO i1 i2 [i1,c1] [i2,c2]) (n1:c1≠i1) (n2:c2≠i2) (hz:IsZip h z TI TO .none) (hTI:IsPair h TI (.ref i1) (.ref i2)) (a b:Value) (hTO:IsPair h TO a b) (h1:IsTupIter h i1 c1 i) (h2:h.IsListIter i2 c2 i) (le1:i<=l1.length) (le2:i<=l2.length)
   (s1:AK w "tuple" c1 l1 G ρ) (s2:AK w "list" c2 l2 G ρ)
theorem Lc{a b c d e x}{P:Addr->Prop}(h:x∈ [a,b,c,d,e])(k1:P a)(k2:P b)(k3:P c)(k4:P d)(k5:P e):P x:=
 (cW h).elim (λq=>q▸k1) λh=>(cW h).elim (λq=>q▸k2) λh=>(cW h).elim (λq=>q▸k3) λh=>Bq h k4 k5
theorem tI{a b c d e x:Addr}(h:x∉ [a,b,c,d,e]):x≠a/\x≠c/\x≠d/\x≠e:=⟨λq=>h (q▸ .head _),λq=>h (q▸ .tail _ (.tail _ (.head _))),λq=>h (q▸ .tail _ (.tail _ (.tail _ (.head _)))),λq=>h (q▸ .tail _ (.tail _ (.tail _ (.tail _ (.head _)))))⟩
theorem BY{x y}{a b}{n}(e:G n=none)(h1:ar w G ρ x a)(h2:ar w G ρ y b):ar w (f6 G n {cls:= .type "tuple",data:= .seq (List.toArray [a,b])}) ρ (.tup [x,y]) (.ref n):=sE (l:=[x,y]) (vs:=[a,b]) e ⟨a,[b],rfl,h1,b,[],rfl,h2,rfl⟩
section
variable {A:Around} {E:bS} {s:Shared} {Q:Option Value->Shared->Prop} {z TI TO i1 i2 c1 c2:Addr} {l1 l2:aV} {i:Nat} {G:Gm} {ρ:Rm} (fz: ∀b o,G b=some o->s.heap.get? b=some o) (hh:A.handled=none) (q:Nn w l1 l2 z TI TO i1 i2 c1 c2 i G ρ s.heap)
include fz hh q
theorem BZ{x y}(hx:l1[i]?=some x)(hy:l2[i]?=some y)
  (k: ∀v1 v2 h' tk,ar w G ρ x v1->ar w G ρ y v2->IsZip h' z TI TO (rawInt s.heap.objs.size)->IsPair h' TO v1 v2->IsTupIter h' i1 c1 (i+1)->h'.IsListIter i2 c2 (i+1)->IsPair h' s.heap.objs.size v1 v2->
   (∀c o,c≠z->c≠TO->c≠i1->c≠i2->s.heap.get? c=some o->h'.get? c=some o)->Q (some (.ref s.heap.objs.size)) {s with heap:=h',toks:=tk}):wpAny (model Bs.prog w) A (pyNext (.ref z)) Q E s:=by
 obtain⟨D,n1,n2,hz,hTI,a0,b0,hTO,h1,h2,le1,le2,⟨vs1,m1,g1,r1⟩,vs2,m2,g2,r2⟩:=q;obtain⟨v1,hv1,Vw⟩:=r1.get hx;obtain⟨v2,hv2,Vx⟩:=r2.get hy;have hT:s.TypeIs (.ref z) "zip" :=⟨_,hz,rfl⟩;exact am (wpAny_attempt (wpAny_callSpecial?_slot (name:=Str.ofString "__next__") hT F.slot_zip_next (wpAny_call_entry F.slot_zip_next hT F.entry_zip_next
  (zk D (r9 (A:=A.in1) hh i1 c1 n1 vs1.toArray) (Draws.list (A:=A.in1) hh i2 c2 n2 vs2.toArray) hz hTI hTO ⟨h1,_,fz _ _ g1,rfl,_,rfl⟩ ⟨h2,_,fz _ _ g2,rfl,_,rfl⟩ (ch hv1).1 (ch hv2).1
   λx' y' h' tk hx' hy' a1 a2 a3 a4 a5 a6=>bq (by
    obtain rfl:v1=x':=aC (hv1.symm.trans (List.getElem?_toArray.symm.trans hx'));obtain rfl:v2=y':=aC (hv2.symm.trans (List.getElem?_toArray.symm.trans hy'));exact k v1 v2 h' tk Vw Vx a1 a2 a3.1 a4.1 a5 a6)) (F.args_zip_next_1 _))))
theorem AZ(hi:i=l1.length\/(i<l1.length/\i=l2.length))(k: ∀h' tk,(∀c o,c≠z->c≠TO->c≠i1->c≠i2->s.heap.get? c=some o->h'.get? c=some o)->Q none {s with heap:=h',toks:=tk}):wpAny (model Bs.prog w) A (pyNext (.ref z)) Q E s:=by
 obtain⟨D,n1,n2,hz,hTI,a0,b0,hTO,h1,h2,le1,le2,⟨vs1,m1,g1,r1⟩,vs2,m2,g2,r2⟩:=q;have hT:s.TypeIs (.ref z) "zip" :=⟨_,hz,rfl⟩;exact am (wpAny_attempt (wpAny_callSpecial?_slot (name:=Str.ofString "__next__") hT F.slot_zip_next (wpAny_call_entry F.slot_zip_next hT F.entry_zip_next
  (Cu (k:=i) D (r9 (A:=A.in1) hh i1 c1 n1 vs1.toArray) (Draws.list (A:=A.in1) hh i2 c2 n2 vs2.toArray) hz hTI hTO ⟨h1,_,fz _ _ g1,rfl,_,rfl⟩ ⟨h2,_,fz _ _ g2,rfl,_,rfl⟩ (r1.length▸r2.length▸hi:i=vs1.length\/(i<vs1.length/\i=vs2.length))
   λh' e tk a1 a2=>a2.elim λo z=>am (wpAny_isInstance (T:= "StopIteration") (b:=true) ⟨o,z⟩ isSubtype_stop (bq (k h' tk a1)))) (F.args_zip_next_1 _))))
end
theorem CF{i a b:Nat}(h1:i<=a)(h2:i<=b)(h:min a b<=i):i=a\/(i<a/\i=b):=(Nat.eq_or_lt_of_le h1).imp id λq=>⟨q,Nat.le_antisymm h2 ((Nat.le_total a b).elim (λz=>absurd (Nat.min_eq_left z▸h) (Nat.not_le.mpr q)) λz=>Nat.min_eq_right z▸h)⟩
theorem EW{elts}{c:Nat}{p}{z TI TO i1 i2 c1 c2}{l1 l2}:
  Cy Bs X (letOwnedTupleGo (.Tuple elts c p) (.ref z)) [z,TI,TO,i1,i2] (.ref z) ((l1.zip l2).map λp=> .tup [p.1,p.2]) (Nn w l1 l2 z TI TO i1 i2 c1 c2):=by
 refine⟨λi G ρ h G' ρ' h' q g r k=> ?_,λi G ρ h q d hd=> ?_,λi a ha A G ρ st s hh I q Q E k=> ?_,λi A G ρ s q Q E k=>q.casesOn λ_ _ _ hz _ _ _ _ _ _ _ _ _ _=>wpAny_pyIter_zip hz k,λi ha A G ρ st s hh I q Q E k=> ?_⟩
 ·obtain⟨D,n1,n2,hz,hTI,a,b,hTO,h1,h2,le1,le2,s1,s2⟩:=q;exact⟨D,n1,n2,k z _ (.inl (.head _)) hz,k TI _ (.inl (.tail _ (.head _))) hTI,a,b,k TO _ (.inl (.tail _ (.tail _ (.head _)))) hTO,Mine.IsTupIter.at h1 (k i1 · (.inl (.tail _ (.tail _ (.tail _ (.head _)))))),h2.at (k i2 · (.inl (.tail _ (.tail _ (.tail _ (.tail _ (.head _))))))),le1,le2,AK.mono _ _ _ _ g r s1,AK.mono _ _ _ _ g r s2⟩
 ·obtain⟨D,n1,n2,hz,hTI,a,b,hTO,⟨o1,ho1,_⟩,⟨o2,ho2,_⟩,_⟩:=q;exact Lc (P:=λd=> ∃o,h.get? d=some o) hd ⟨_,hz⟩ ⟨_,hTI⟩ ⟨_,hTO⟩ ⟨_,ho1⟩ ⟨_,ho2⟩
 ·refine ed (List.getElem?_map.symm.trans ha) λxy hc e=> ?_;obtain rfl:=e;obtain⟨hx,hy⟩:=List.getElem?_zip_eq_some.mp hc;refine BZ I.g.Tg hh q hx hy λv1 v2 h' tk Vw Vx a1 a2 a3 a4 a5 a6=>wpAny_letOwnedTupleGo_zip (s:={s with heap:=h',toks:=tk}) a1 λh3 Wg hs3=> ?_;obtain⟨D,n1,n2,hz,hTI,a0,b0,hTO,h1,h2,le1,le2,s1,s2⟩:=q;have up: ∀d o,d≠z->h'.get? d=some o->h3.get? d=some o:=λd o hd e=>(hs3.2 d hd).trans e;have new:G s.heap.objs.size=none:=I.none_of (bj (Nat.le_refl _));exact k (.ref s.heap.objs.size) (f6 G s.heap.objs.size {cls:= .type "tuple",data:= .seq (List.toArray [v1,v2])}) h3 tk (.add (λd o hd e=>up d o (tI hd).1 (a6 d o (tI hd).1 (tI hd).2.1 (tI hd).2.2.1 (tI hd).2.2.2 e)) new (bj (Nat.le_refl _)) (up _ _ (Nat.ne_of_gt (iL hz)) a5)) (BY new Vw Vx)
   ⟨D,n1,n2,Wg,up _ _ D.TIz (a6 _ _ D.TIz D.TITO D.TIi1 D.TIi2 hTI),v1,v2,up _ _ D.TOz a2,Mine.IsTupIter.at a3 (up _ · D.i1z),a4.at (up _ · D.i2z),(ch hx).1,(ch hy).1,AK.mono _ _ _ _ (ez new) fk.rfl s1,AK.mono _ _ _ _ (ez new) fk.rfl s2⟩
 ·exact AZ I.g.Tg hh q (q.casesOn λ_ _ _ _ _ _ _ _ _ _ le1 le2 _ _=>CF le1 le2 (bz (Nat.le_of_eq ((List.length_map ..).trans (List.length_zip ..)).symm) (List.getElem?_eq_none_iff.mp ha))) λh' tk a1=>
   k h' tk ⟨dF.rfl,λd o hd e=>a1 d o (tI hd).1 (tI hd).2.1 (tI hd).2.2.1 (tI hd).2.2.2 e,λd o q=> .inl q⟩
theorem zt{a b c:Addr}(x:c≠a)(y:c≠b):c∉ [a,b]:=λh=>Bq (P:=λd=>d=c->False) h (λq=>x q.symm) (λq=>y q.symm) rfl
theorem HZ(b1:c1<n)(b2:c2<n):sr (n+4) (n+2) (n+3) n (n+1) [n,c1] [n+1,c2]:=
 have g: ∀{c k:Nat},c<n->n+k≠c:=λh=>Nat.ne_of_gt (dA h (Nat.le_add_right _ _));have p: ∀{j k:Nat},j≠k->n+j≠n+k:=λh q=>h (Nat.add_left_cancel q);have d: ∀{j k:Nat},decide (j=k)=false->n+j≠n+k:=λh=>p (of_decide_eq_false h)
 ⟨d rfl,d rfl,d rfl,d (k:=0) rfl,d rfl,d (k:=0) rfl,d rfl,d (j:=0) rfl,d rfl,d (j:=0) rfl,zt (d (k:=0) rfl) (g b1),zt (d rfl) (g b2),zt (d (k:=0) rfl) (g b1),zt (d rfl) (g b2),zt (d (k:=0) rfl) (g b1),zt (d (j:=0) rfl) (g (k:=0) b2)⟩
theorem GH{es}{env}{x}{elts}{c}{tp}{np p}{m:St->Out (aV)}(hs:cv es)(hn:qm Bs X env x np (.type "zip"))
  (h:SE Bs X (λ_ _=>True) (wp Bs (spliced (backTo p (starEach es env)))) m (vL (w:=w))):
  lm Bs X (letOwnedTupleGo (.Tuple elts c tp)) ((wp Bs (eval (.Call (.Name x np) es [] p) env)).bind λv=>wp Bs (pyIter v)) (λs=>ao (m s) λvs s=>fh (bN s.S9 .zip vs) s λitems s=>some (.ok items,s)):=
 qs (f:=λσ=>bN σ .zip) hs hn h λst b items hit A G ρ s vs hA hI hv Q E k=>Lk hit λa1 a2 ea hit=>bA hit λl1 e1 hit=>ed hit λl2 e2 e=>by
  obtain rfl:=e;obtain⟨v,_,rfl,hv1,u,_,rfl,hv2,rfl⟩:ag w G ρ [a1,a2] vs:=ea▸hv;obtain⟨c1,VN,m1,rfl,k1,r1⟩:=ar.tpl hv1 e1;obtain⟨c2,VO,m2,rfl,k2,r2⟩:ar w G ρ (.lst l2) u:=yI e2▸hv2;have b1:=iL (hI.g.Tg _ _ k1);have b2:=iL (hI.g.Tg _ _ k2);refine wc (xs:=VN.toArray) (ys:=VO.toArray) ⟨_,hI.g.Tg _ _ k1,rfl,_,rfl⟩ ⟨_,hI.g.Tg _ _ k2,rfl,_,rfl⟩ λh' hz hTI hTO h1 h2 hsz ext=> ?_;have y:=hI.ext ext;have new: ∀b,b∈ [s.heap.objs.size+4,s.heap.objs.size+2,s.heap.objs.size+3,s.heap.objs.size,s.heap.objs.size+1]->s.heap.get? b=none:=λb hb=>
   Lc (P:=λb=>s.heap.get? b=none) hb (bj (Nat.le_add_right _ _)) (bj (Nat.le_add_right _ _)) (bj (Nat.le_add_right _ _)) (bj (Nat.le_refl _)) (bj (Nat.le_add_right _ _))
  exact wpAny_pyIter_zip (s:={s with heap:=h'}) hz (k _ _ ⟨G,ρ,h',s.toks,_,_,rfl,y.1,y.2,λ_=>EW,⟨HZ b1 b2,Nat.ne_of_lt b1,Nat.ne_of_lt (Nat.lt_succ_of_lt b2),hz,hTI,_,_,hTO,h1,h2,Nat.zero_le _,Nat.zero_le _,⟨VN,m1,k1,r1⟩,VO,m2,k2,r2⟩,new,λb hb=>jO hI (new b hb) _ (.head _)⟩)
end
section
variable {w:World} {Bs:Base w} {X:Cx} {T:Tb} {gl:Gl}
theorem Ic(hi:interactive X.env=false)(hs:swapsWith e none pos.line X.env=pure false)(h:SE Bs X (λ_ _=>True) (wp Bs (eval e X.env)) (aw T gl i) (VR (w:=w))):
  SE Bs X (λ_ _=>True) (wp Bs (exec (.Expr e pos) X.env)) (bf T gl (.exp i)) (FR (w:=w)):=
 SE.le (SE.bind (U:=λv A Q E s=>Q Flow.next s) aR.true h λx v=>SE.Ui (λ_=>SE.one (b:=Fl.next) λst A G ρ s hA hI hp Q E k=>k _ s.toks rfl) λ_=>SE.no) λA Q E s h=>wpAny_Expr_any h hi hs
theorem HQ{pos}(h:SE Bs X (λ_ _=>True) (wp Bs (eval e X.env)) (aw T gl i) (VR (w:=w))):
  SE Bs X (λ_ _=>True) (wp Bs (exec (.Return (some e) pos) X.env)) (bf T gl (.ret i)) (FR (w:=w)):=
 SE.le (SE.bind (U:=λv A Q E s=>Q (Flow.ret v) s) aR.true h λx v=>SE.one (b:=Fl.ret x) λst A G ρ s hA hI hp Q E k=>k _ s.toks ⟨v,rfl,hp.2⟩) λA Q E s h=>wpAny_Return_some h
theorem E7:SE Bs X (λ_ _=>True) (wp Bs (exec (.Return none pos) X.env)) (bf T gl .Ud) (FR (w:=w)):=SE.one (b:=Fl.ret .none) λst A G ρ s hA hI hp Q E k=>wpAny_Return_none (k _ s.toks ⟨_,rfl,rfl⟩)
theorem Gr:SE Bs X (λ_ _=>True) (wp Bs (exec (.Pass pos) X.env)) (bf T gl .pass) (FR (w:=w)):=SE.one (b:=Fl.next) λst A G ρ s hA hI hp Q E k=>wpAny_Pass (k _ s.toks rfl)
theorem FO:SE Bs X (λ_ _=>True) (wp Bs (exec (.Continue pos) X.env)) (bf T gl .cont) (FR (w:=w)):=SE.one (b:=Fl.cont) λst A G ρ s hA hI hp Q E k=>wpAny_Continue (k _ s.toks rfl)
theorem Jy{a b}{pos}{ai bi}(h1:SE Bs X (λ_ _=>True) (wp Bs (isTrue t X.env (eval t X.env))) (cg T gl ti (aw T gl ti)) BR)
  (h2:SE Bs X (λ_ _=>True) (wp Bs (execs a X.env)) (ae T gl ai) (FR (w:=w))) (h3:SE Bs X (λ_ _=>True) (wp Bs (execs b X.env)) (ae T gl bi) (FR (w:=w))):
  SE Bs X (λ_ _=>True) (wp Bs (exec (.If t a b pos) X.env)) (bf T gl (.Td ti ai bi)) (FR (w:=w)):=
 SE.le (SE.bind (U:=λc=>WP.ite c (wp Bs (execs a X.env)) (wp Bs (execs b X.env))) aR.true h1 λx v=>Dm h2 h3) λA Q E s h=>wpAny_If h
theorem lA:SE Bs X (λ_ _=>True) (wp Bs (execs [] X.env)) (ae T gl []) (FR (w:=w)):=SE.one (b:=Fl.next) λst A G ρ s hA hI hp Q E k=>wpAny_execs_nil (k _ s.toks rfl)
theorem kb(h1:SE Bs X (λ_ _=>True) (wp Bs (exec a X.env)) (bf T gl ai) (FR (w:=w)))(h2:SE Bs X (λ_ _=>True) (wp Bs (execs l X.env)) (ae T gl li) (FR (w:=w))):
  SE Bs X (λ_ _=>True) (wp Bs (execs (a::l) X.env)) (ae T gl (ai::li)) (FR (w:=w)):=
 SE.le (SE.bind (U:=λf A Q E s=>match f with| .next=>wpAny (model Bs.prog w) A (execs l X.env) Q E s|f=>Q f s) (f:=λf s=>f.seq (ae T gl li s) (some (.ok f,s))) aR.true h1 λf fl=>λst r st' hm A G ρ s hA hI hp Q E k=>by
  have hf:=hp.2;cases f with
  |next=>
   obtain rfl:fl= .next:=hf;exact h2 st r st' hm A G ρ s hA hI trivial Q E k
  |cont=>
   obtain rfl:fl= .cont:=hf;obtain⟨rfl,rfl⟩:=so hm;exact k G ρ s.heap s.toks hI aH.rfl .cont rfl
  |ret a=>
   obtain⟨rfl,rfl⟩:=so hm;obtain⟨v,rfl,hv⟩:=id hf;exact k G ρ s.heap s.toks hI aH.rfl (.ret v) hf) λA Q E s h=>wpAny_execs_cons h
end
structure gc (C:Addr) (bm:List Value):Prop where
 b:(Value.ref C::bm).contains (.type "Exception")=true
 a:(Value.ref C::bm).contains (.type "AttributeError")=false
 n:(Value.ref C::bm).contains (.type "NameError")=false
 base:(Value.ref C::bm).contains (.type "BaseException")=true
 o:(Value.ref C::bm).contains (.type "object")=true
section
variable {prog:Program} {w:World} {A:Around} {R:Result->Shared->Prop} {h:Heap} {g:Array GenState} {d:Drawn} {t:Nat} {os:OsState}
variable {nm q:Str} {C N fI:Addr} {bs bm:List Value} {hdct:Bool} {sn:List Str} {sub:List Value} {ab:Bool} {col:Option Bool} {dd:Option Addr} {k0 k1 k2 k3 k5:Option Value} {rest:List Value}
theorem uZ{E:bS}(B:gc C bm){Q:Unit->Shared->Prop}(hC:h.get? C=some (excClassObj nm q C N bs bm hdct sn sub ab col dd k0 k1 k2 k3 k5 "Exception.__new__"))
  (hq:Q () ⟨h,g,d,t,os⟩):wpAny (model prog w) A (checkBuiltinCall "Exception.__new__" ⟨.ref C::rest,[]⟩) Q E ⟨h,g,d,t,os⟩:=by
 have F:=F.excBase_Exception;have hcont:=B.b;have hstar:=F.noStar;simp only[checkBuiltinCall,F.newKind,F.newSplit,F.newRow]
 repeat (first|refine wpAny_loadPart_at hC ?_|(refine wpAny_isSubtype_exc hC ?_;rw[hcont])|refine wpAny_staticBase_exc hC ?_|refine wpAny_madeBy_exc hC ?_|simp only[bne_self_eq_false,Bool.false_eq_true,if_false]|wp_step)
 exact hq
theorem Lm(B:gc C bm)(hC:h.get? C=some (excClassObj nm q C N bs bm hdct sn sub ab col dd k0 k1 k2 k3 k5 "Exception.__new__"))
  (hq:R (.ok (.ret (.ref (h.objs.size+1)))) ⟨(h.push {cls:= .type "tuple",data:= .seq rest.toArray}).push
   {cls:= .ref C,data:= .fields #[.ref h.objs.size,.none,.none,.none,.bool false,.none]},g,d,t,os⟩) (hrest:rest.length<=sizeLine):
  codeAny (model prog w) A (.builtin "Exception.__new__" ⟨.ref C::rest,[]⟩) R ⟨h,g,d,t,os⟩:=by
 have F:=F.excBase_Exception;have hends:=F.ends;have hcB:=B.b;have hcA:=B.a;have hcN:=B.n;refine codeAny_builtinAt F.entry ?_;unfold Builtin.«BaseException.__new__»;refine PySem.wpAt_bind ?_;show PySem.wpAt _ _ _ (stack>>=_) _ _ _;refine PySem.wpAt_bind (PySem.wpAt_stack λp below=>PySem.wpAt_of_wpAny ?_)
 wp_walk
 refine PySem.wpAt_of_wpAny ?_;rw[F.owner]
 repeat (first|with_reducible refine wpAny_madeHere_exc F.canon hC ?_|with_reducible refine wpAny_loadPart_at hC ?_|(with_reducible refine wpAny_isSubtype_exc hC ?_;first|rw[hcB]|rw[hcA]|rw[hcN])|wp_step)
 show R _ _;rw[Heap.size_push];exact hq
abbrev vy(h:Heap)(C:Addr)(rest:List Value):Heap:=(h.push {cls:= .type "tuple",data:= .seq rest.toArray}).push {cls:= .ref C,data:= .fields #[.ref h.objs.size,.none,.none,.none,.bool false,.none]}
theorem F2{Q:Fin->Shared->Prop}{E:bS}(B:gc C bm)(hC:h.get? C=some (excClassObj nm q C N bs bm hdct sn sub ab col dd k0 k1 k2 k3 k5 "Exception.__new__")){oI}
  (hi:Looks (model prog w) h (typeLookup (.ref C) "__init__") (some (.ref fI))) (hfI:h.get? fI=some oI) (hfc:oI.cls= .type "function") (hrest:rest.length<=sizeLine)
  (hq:wpAny (model prog w) A (call (.ref fI) (.ref (h.objs.size+1)::rest)) (λr s'=>r= .none/\Q (.done (.ret (.ref (h.objs.size+1)))) s') E ⟨vy h C rest,g,d,t,os⟩):
  wpAny (model prog w) A (Builtin.«type.__call__» ⟨.ref C::rest,[]⟩) Q E ⟨h,g,d,t,os⟩:=by
 have F:=F.excBase_Exception
 repeat (first|with_reducible refine wpAny_loadPart_at hC ?_|with_reducible refine wpAny_madeBy_exc hC ?_|wp_step)
 refine codeAny_call_builtin_code (Code.quiet_builtin _ F.quiet) (uZ B hC ?_);refine Lm B hC ?_ hrest;show wpAny _ _ _ _ _ _;have hC₁:=bv {cls:= .ref C,data:= .fields #[.ref h.objs.size,.none,.none,.none,.bool false,.none]}
  (bv {cls:= .type "tuple",data:= .seq rest.toArray} hC)
 have hfI₁:=bv {cls:= .ref C,data:= .fields #[.ref h.objs.size,.none,.none,.none,.bool false,.none]}
  (bv {cls:= .type "tuple",data:= .seq rest.toArray} hfI)
 have hget:(vy h C rest).get? (h.objs.size+1)=some
   {cls:= .ref C,data:= .fields #[.ref h.objs.size,.none,.none,.none,.bool false,.none]}:=by heap_get
 have hcC:(Value.ref C::bm).contains (.ref C)=true:=by simp
 unfold isInstance
 repeat (first|with_reducible refine wpAny_loadPart_at hget ?_|(with_reducible refine wpAny_isSubtype_exc hC₁ ?_;rw[hcC])|wp_step)
 show wpAny _ _ (typeLookup (.ref C) _) _ _ _;refine(hi.keeps (h':=vy h C rest) λb o e=>bv _ (bv _ e)).here (s:=⟨vy h C rest,g,d,t,os⟩) ?_;refine wpAny_holding (am ?_);unfold bindSpecial;refine am (wpAny_typeOf (T:= "function") ⟨_,hfI₁,hfc⟩ ?_);rw[if_pos ∅];refine bq (am (wpAny_mono hq (λr s' hr=> ?_) λ_ _ x=>x));obtain⟨rfl,hQ⟩:=hr
 wp_walk
 exact hQ
theorem H3{Q:bS}{E:bS}(B:gc C bm)(hC:h.get? C=some (excClassObj nm q C N bs bm hdct sn sub ab col dd k0 k1 k2 k3 k5 "Exception.__new__")){oI}
  (hi:Looks (model prog w) h (typeLookup (.ref C) "__init__") (some (.ref fI))) (hfI:h.get? fI=some oI) (hfc:oI.cls= .type "function") (hrest:rest.length<=sizeLine)
  (hq:wpAny (model prog w) (A.under (.builtin "type.__call__" ⟨.ref C::rest,[]⟩)) (call (.ref fI) (.ref (h.objs.size+1)::rest)) (λr s'=>r= .none/\Q (.ref (h.objs.size+1)) s') E ⟨vy h C rest,g,d,t,os⟩):
  wpAny (model prog w) A (call (.ref C) rest) Q E ⟨h,g,d,t,os⟩:=by
 have f1:=tc_lookup;have f2:=PySem.tc_bind (.ref C);have hT:(⟨h,g,d,t,os⟩:Shared).TypeIs (.ref C) "type" :=⟨_,hC,rfl⟩;refine wpAny_call (codeAny_of_tree ?_);show wpAny _ _ (callAny (.ref C) _) _ _ _
 repeat (any_goals (first|assumption|with_reducible refine wpAny_loadPart_at hC ?_|wp_step))
 refine⟨rfl,?_⟩;exact codeAny_call_builtin_at (Code.quiet_builtin _ (by decide+kernel)) entry_typeCall (wpAny_check_type_call_sub hC (F2 B hC hi hfI hfc hrest hq))
theorem s5{E:bS}(B:gc C bm){M}{e}{oe}{Q:Unit->Shared->Prop}
  (hC:h.get? C=some (excClassObj nm q C N bs bm hdct sn sub ab col dd k0 k1 k2 k3 k5 "Exception.__new__")) (he:h.get? e=some oe) (hcls:oe.cls= .ref C) (hq:Q () ⟨h,g,d,t,os⟩):
  wpAny M A (checkBuiltinCall "Exception.__init__" ⟨.ref e::rest,[]⟩) Q E ⟨h,g,d,t,os⟩:=by
 have F:=F.excBase_Exception;have hcB:=B.b;have hshort:=F.noStar;simp only[checkBuiltinCall,F.initKind,F.initSplit,F.initRow]
 repeat (first|(with_reducible refine wpAny_loadPart_at he ?_;rw[hcls])|with_reducible refine wpAny_loadPart_at hC ?_|(with_reducible refine wpAny_isSubtype_exc hC ?_;rw[hcB])|wp_step)
 refine wpAny_onRaise ?_;rw[show∀(a b:String) (n:Nat),Bind.check ⟨.positional,"*","Exception",.self,[⟨"args",.varPos,false⟩]⟩ a b n (List.map (λx=>x.fst) ({pos:=Value.ref e::rest}:Args).kw)=pure () from
  λa b n=>check_star_args _ _ _ _ _ _]
 exact bq hq
theorem Jk{E:bS}(B:gc C bm){e t0}{v}{Q:bS}
  (hC:h.get? C=some (excClassObj nm q C N bs bm hdct sn sub ab col dd k0 k1 k2 k3 k5 "Exception.__new__")) (he:h.get? e=some {cls:= .ref C,data:= .fields #[.ref t0,.none,.none,.none,.bool false,.none]})
  (hq: ∀h',h'.get? e=some {cls:= .ref C,data:= .fields #[.ref h.objs.size,.none,.none,.none,.bool false,.none]}->(∀b o,b≠e->h.get? b=some o->h'.get? b=some o)->Q .none ⟨h',g,d,t,os⟩):
  wpAny (model prog w) A (call (.builtin "Exception.__init__") [.ref e,v]) Q E ⟨h,g,d,t,os⟩:=by
 have F:=F.excBase_Exception;refine wpAny_call (codeAny_call_builtin F.init.plain F.initEntry (s5 B hC he rfl ?_));have V9:=bv {cls:= .type "tuple",data:= .seq #[v]} he
 wp_walk
 refine hq _ ?_ λb o hb e'=> ?_
 ·exact Heap.get?_update_self _ V9 rfl
 ·rw[Heap.get?_update_other _ _ (Ne.symm hb)];exact bv _ e'
end
end
end Mine
namespace Mine
section
open PySem PySem.W PySem.Calls PyProof.Rows PySem.SeqAt
open Builtin Builtin.ObjectAttr
set_option maxRecDepth 1000000
section
variable {prog:Program} {w:World} {A:Around} {E:bS} {h:Heap} {g:Array GenState} {d:Drawn} {t:Nat} {os:OsState}
variable {nm q:Str} {C N x:Addr} {bs bm:List Value} {sn:List Str} {sub:List Value} {ab:Bool} {col:Option Bool} {dd:Option Addr} {k0 k1 k2 k3 k5:Option Value} {newId:String}
 {mA:Str->Option Value} {name:Str} {v:Value}
theorem wR{M}{o}{nC}{Q:Unit->Shared->Prop}(B:gc C bm)
  (hC:h.get? C=some (excClassObj nm q C N bs bm true sn sub ab col dd k0 k1 k2 k3 k5 newId)) (hx:h.get? x=some o) (hc:o.cls= .ref C) (hq:Q () ⟨h,g,d,t,os⟩):
  wpAny M A (checkBuiltinCall "object.__setattr__" ⟨[.ref x,nC,v],[]⟩) Q E ⟨h,g,d,t,os⟩:=by
 have SF:=F.store_object;have hcB:=B.o;have ha:=SF.args (.ref x) nC v;simp only[checkBuiltinCall,SF.kind,SF.split];refine am ?_
 ·unfold isInstance
  repeat (first|(with_reducible refine wpAny_loadPart_at hx ?_;rw[hc])|(with_reducible refine wpAny_isSubtype_exc hC ?_;rw[hcB])|wp_step)
  exact hq
theorem FK{tk}{Q:Fin->Shared->Prop}{ns}(hpass:refuseLoop (.ref x) "__setattr__" bm=pure ())
  (hC:h.get? C=some (excClassObj nm q C N bs bm true sn sub ab col dd k0 k1 k2 k3 k5 newId)) (hl:Looks (model prog w) h (typeLookup (.ref C) name) none) (I:h.Inst x C mA)
  (hq: ∀h' tk',h'.Inst x C (λy=>if y=name then some v else mA y)->
   (∀b o,b≠x->(∀o₀ dx,h.get? x=some o₀->o₀.dict=some dx->b≠dx)->h.get? b=some o->h'.get? b=some o)->
   (∀o₀,h.get? x=some o₀-> ∃o₁,h'.get? x=some o₁/\o₁.cls=o₀.cls/\o₁.data=o₀.data/\(∀dx,o₀.dict=some dx->o₁.dict=some dx)/\(o₀.dict=none-> ∃dx,o₁.dict=some dx/\h.get? dx=none))->Q (.done (.ret .none)) ⟨h',g,d,tk',os⟩) (hw:Within mA ns) (hsz:ns.length<=100):
  wpAny (model prog w) A (Builtin.«object.__setattr__» ⟨[.ref x,.str name tk,v],[]⟩) Q E ⟨h,g,d,t,os⟩:=by
 obtain⟨o,hx,hc,hnc,hd⟩:=I;have hsz':ns.length+1<=sizeLine:=by rw[sizeLine_eq];omega
 unfold Builtin.«object.__setattr__»
 repeat (first|rw[refuse_eq]|(rw[refuseLoop_ref,hpass])|(with_reducible refine wpAny_loadPart_at hx ?_;rw[hc])|with_reducible refine wpAny_mroOf_exc hC ?_|with_reducible refine hl.here (s:=⟨h,g,d,t,os⟩) ?_|wp_step)
 rcases hd with⟨hdn,hmA⟩|⟨dx,hdx,hne,hns⟩
 ·rw[hdn,if_neg (by simp[typeHasDict])];split
  ·rename_i hcd;cases hcd
  split
  ·rename_i c hcd;exact absurd hcd (hnc c)
  ·have hx₁:(h.push {cls:= .type "dict",data:= .dict #[]}).get? x=some o:=bv _ hx;have hxs:x≠h.objs.size:=Nat.ne_of_lt (Heap.lt_size hx);refine am (wpAny_alloc' ?_);refine am (wpAny_update' hx₁ ?_);refine bq ?_;have hgd:((h.push {cls:= .type "dict",data:= .dict #[]}).update x λo=>{cls:=o.cls,dict:=some h.objs.size,data:=o.data,slots:=o.slots}).get? h.objs.size
     =some {cls:= .type "dict",data:= .dict #[]}:=
    (Heap.get?_update_ne _ _ _ _ hxs.symm).trans (Heap.get?_push_at rfl rfl)
   have hnd:((h.push {cls:= .type "dict",data:= .dict #[]}).update x λo=>{cls:=o.cls,dict:=some h.objs.size,data:=o.data,slots:=o.slots}).Ns h.objs.size (λ_=>none):=
    ⟨_,#[],_,hgd,rfl,λe he=>absurd he (by simp),λ_=>rfl⟩
   show wpAny _ _ (storeInDict h.objs.size (.str name tk) name v) _ _ _;unfold storeInDict newKeyGuard;refine am (bq (am (wpAny_nsSet1 (Heap.Ns1.of_empty hnd) λh' hn' hs=> ?_)));obtain⟨oD,esD,epD,hoD,hdD,hcD⟩:=hn'.count (Within.cons name v Within.nil);refine am (wpAny_lookBehind hoD (by rw[hdD];exact pastItsLine_dict (bz hcD (by rw[List.length_cons,List.length_nil,sizeLine_eq];omega))) ?_)
   wp_walk
   have hx':h'.get? x=some {cls:=o.cls,dict:=some h.objs.size,data:=o.data,slots:=o.slots}:= ?_;refine hq h' _ ⟨{cls:=o.cls,dict:=some h.objs.size,data:=o.data,slots:=o.slots},hx',hc,hnc,.inr ⟨h.objs.size,rfl,hxs.symm,?_⟩⟩ (λb ob hbx _ hb=> ?_)
    (λo₀ h₀=>by obtain rfl:o=o₀:=aC (hx.symm.trans h₀);exact⟨_,hx',rfl,rfl,(λdx e=>by rw[hdn] at e;cases e),λ_=>⟨_,rfl,bj (Nat.le_refl _)⟩⟩)
   ·obtain⟨o',es,ep,e1,e2,e3,eu,e4⟩:=hn';exact⟨o',es,ep,e1,e2,e3,eu,λy=>by rw[e4 y];by_cases hy:y=name<;>simp[hy,hmA]⟩
   ·exact(hs.2 b (Nat.ne_of_lt (Heap.lt_size hb))).trans ((Heap.get?_update_ne _ _ _ _ hbx).trans (bv _ hb))
   ·refine(hs.2 x hxs).trans (Heap.get?_update_self _ hx₁ ?_);have hfr:=(Heap.get?_some_iff.mp hx).2;obtain⟨oc,od,odt,osl⟩:=o;cases odt<;>first|rfl|exact hfr
 ·rw[hdx];refine bq ?_;show wpAny _ _ (storeInDict dx (.str name tk) name v) _ _ _;unfold storeInDict newKeyGuard;refine am (bq (am (wpAny_nsSet1 hns λh' hn' hs=> ?_)));obtain⟨oD,esD,epD,hoD,hdD,hcD⟩:=hn'.count (Within.cons name v hw);refine am (wpAny_lookBehind hoD (by rw[hdD];exact pastItsLine_dict (bz hcD (by rw[List.length_cons];omega))) ?_)
  wp_walk
  refine hq h' _ ⟨o,(hs.2 x hne.symm).trans hx,hc,hnc,.inr ⟨dx,hdx,hne,hn'⟩⟩ (λb ob _ hbd hb=> ?_)
   (λo₀ h₀=>⟨o₀,(hs.2 x hne.symm).trans h₀,rfl,rfl,(λ_ e=>e),λe=>by obtain rfl:o=o₀:=aC (hx.symm.trans h₀);rw[hdx] at e;cases e⟩)
  exact(hs.2 b (hbd o dx hx hdx)).trans hb
theorem A2{Q:Unit->Shared->Prop}{ns}(B:gc C bm)(hpass:refuseLoop (.ref x) "__setattr__" bm=pure ())
  (hC:h.get? C=some (excClassObj nm q C N bs bm true sn sub ab col dd k0 k1 k2 k3 k5 newId)) (We:Looks (model prog w) h (typeLookup (.ref C) "__setattr__") (some (.builtin "object.__setattr__"))) (hl:Looks (model prog w) h (typeLookup (.ref C) name) none) (I:h.Inst x C mA)
  (hq: ∀h' tk',h'.Inst x C (λy=>if y=name then some v else mA y)->
   (∀b o,b≠x->(∀o₀ dx,h.get? x=some o₀->o₀.dict=some dx->b≠dx)->h.get? b=some o->h'.get? b=some o)->
   (∀o₀,h.get? x=some o₀-> ∃o₁,h'.get? x=some o₁/\o₁.cls=o₀.cls/\o₁.data=o₀.data/\(∀dx,o₀.dict=some dx->o₁.dict=some dx)/\(o₀.dict=none-> ∃dx,o₁.dict=some dx/\h.get? dx=none))->Q () ⟨h',g,d,tk',os⟩) (hw:Within mA ns) (hsz:ns.length<=100):
  wpAny (model prog w) A (setAttr (.ref x) name v) Q E ⟨h,g,d,t,os⟩:=by
 have SF:=F.store_object;obtain⟨o,hx,hc,hnc,hd⟩:=id I;have f3:=SF.slot.bind (.ref x);have VU:Looks (model prog w) h (typeOf (.ref x)) o.cls:=(Looks.ld hx).andThen .now;have LT:Looks (model prog w) h (typeOf (.ref x)) (.ref C):=hc▸VU;refine am (wpAny_mkText (am (am (am (LT.here (s:=⟨h,g,d,t+1,os⟩) (We.here (s:=⟨h,g,d,t+1,os⟩) (wpAny_holding ?_)))))));rw[f3];refine am (bq (am (wpAny_call ?_)));refine codeAny_call_builtin SF.slot.plain SF.entry (wR B hC hx hc (FK hpass hC hl I (λh' tk' I' hk hsame=> ?_) hw hsz));exact bq (bq (hq h' tk' I' hk hsame))
end
end
end Mine
namespace Mine
section
open PySem PySem.W PySem.Calls PyProof.Rows PySem.SeqAt
set_option maxRecDepth 1000000
def Bv(body:List Stmt):Prop:= ∃p1 p2 p3 p4 p5 p6 a1 a2 a3 a4 b1 b2 b3 b4,(p2.endLine==p5.line)=true/\body=[
 .Expr (.Call (.Attribute (.Name "Exception" p1) "__init__" p2) [.Name "self" p3,.Name "what" p4] [] p5) p6,
 .Assign [.Attribute (.Name "self" a1) "what" a2] (.Name "what" a3) a4,
 .Assign [.Attribute (.Name "self" b1) "at" b2] (.Name "at" b3) b4]
noncomputable def MN:List Str:=["self","what","at"]
inductive H7 (B:Gm) (C:Addr):Prop
 |mk (nm q:Str) (N:Addr) (bs bm:List Value) (sn:List Str) (sub:List Value) (ab:Bool) (col:Option Bool) (dd:Option Addr) (k0 k1 k2 k3 k5:Option Value) (hC:B C=some (excClassObj nm q C N bs bm true sn sub ab col dd k0 k1 k2 k3 k5 "Exception.__new__")) (EM:gc C bm) (hp: ∀x,refuseLoop (.ref x) "__setattr__" bm=pure ())
structure fm {w:World} (Bs:Base w) (C fI:Addr) (scope:Scope) (body:List Stmt):Prop where
 obj:H7 Bs.B C
 keep:keepIn Bs.K (.ref C)=true
 init:findIn Bs.K (.ref C) "__init__" =some (some (.ref fI))
 fn: ∃o,Bs.B fI=some o/\o.cls= .type "function"
 sa:findIn Bs.K (.ref C) "__setattr__" =some (some (.builtin "object.__setattr__"))
 what:findIn Bs.K (.ref C) "what" =some none
 at_:findIn Bs.K (.ref C) "at" =some none
 ent:nP Bs fI scope body MN 3 [.none]
 kind:scope.kind= .function
 loc: ∀x∈MN,scope.names.lookup x=some .local
 V0:scope.names.lookup ("Exception" :Str)=some .globalImplicit
 mg:Bs.mg "Exception" =none
 mb:Bs.mb "Exception" =some (.type "Exception")
 bd:Bv body
theorem Ba:findCls [] (.type "Exception") (.type "type") "__init__" =some (.val (.builtin "Exception.__init__")):=⋯
section
variable {w:World} {Bs:Base w}
theorem fU{A}{h₀}{env}{m:Str->Option Value}{fv}{h0}{body}{C fI}{scope}(RO:fm Bs C fI scope body)(c:Callee scope MN fv h0 env h₀ m){s}{i:Nat}{x}{p}{u}{Q:bS}{E:bS}(hx:MN[i]?=some x)(hu:fv[i]?=some u)(hd:(x==("__debug__" :Str))=false)
  (hn:s.heap.Ns env.locals m) (hq:Q u s):wpAny (model Bs.prog w) A (eval (.Name x p) env) Q E s:=by
 have kl:env.kindOf x=some .local:=(c.e1▸RO.loc x (gz hx):env.scope.names.lookup x=_);obtain⟨y,hy,hz⟩:=c.e10 i u hu;obtain rfl:x=y:=aC (hx.symm.trans hy);exact wpAny_Name (wpAny_loadName_local (c.e1▸RO.kind:env.scope.kind=_) kl hn (hz.elim (λz=>z.2) λz=>z.1.elim (λz=>by cases kl.symm.trans z) λz=>by cases kl.symm.trans z) hq) hd
theorem zB(RO:fm Bs C fI scope body){e t0:Addr}{v:Value}{R:Result->Shared->Prop}(hd:A.depth<recursionLimit)(hB: ∀b o,Bs.B b=some o->s.heap.get? b=some o)
  (he:s.heap.get? e=some {cls:= .ref C,data:= .fields #[.ref t0,.none,.none,.none,.bool false,.none]}) (Wa:Bs.B e=none)
  (hR: ∀h' tk o a,h'.get? e=some o->o.cls= .ref C->o.data= .fields #[.ref a,.none,.none,.none,.bool false,.none]->(∀b ob,b≠e->s.heap.get? b=some ob->h'.get? b=some ob)->R (.ok (.ret .none)) {s with heap:=h',toks:=tk}):
  codeAny (model Bs.prog w) A (.call (.ref fI) ⟨[.ref e,v],[]⟩) R s:=by
 refine RO.ent A R s [.ref e,v] hd hB (show 2<=2 by decide) (show 2<=3 by decide) λenv h₀ tk m c=> ?_;obtain⟨nm,q,N,bs,bm,sn,sub,ab,col,dd,k0,k1,k2,k3,k5,hC,EM,hpass⟩:=RO.obj;obtain⟨p1,p2,p3,p4,p5,p6,a1,a2,a3,a4,b1,b2,b3,b4,hline,rfl⟩:=RO.bd;have ne: ∀{b:Addr} {o:Obj},Bs.B b=some o->b≠e:=λhb q=>lg ((q▸hb).symm.trans Wa);have hk:env.scope.kind= .function:=c.e1▸RO.kind;have eL:env.locals≠e:=λz=>aD he (z▸c.e5);have DK: ∀{h:Heap},(∀b o,b≠e->h₀.get? b=some o->h.get? b=some o)->h.Ns env.locals m:=fun{h} k=>c.e9.imp λo z=>z.imp λes z=>z.imp λep z=>⟨k _ _ eL z.1,z.2⟩;have U8: ∀b o,Bs.B b=some o->h₀.get? b=some o:=λb o hb=>c.e8 b o (hB b o hb);refine wpAny_execs_cons (wpAny_Expr ?_ (by unfold interactive;rw[hk];rfl) rfl);refine jK rfl ⟨λ_ _=>rfl,λ_ _=>rfl,trivial⟩ (show 2<29 by decide) hline ?_;refine Name_function_global hk (show env.scope.names.lookup _=_ from c.e1▸RO.V0) (loadGlobal_builtin (c.e2.symm▸Bs.hg _ U8) RO.mg (c.e3.symm▸Bs.hb _ U8) RO.mb λpl=> ?_);refine method_type (K:=[]) (gB c.e9) (λa o hao=>nomatch hao) ⋯ (by decide+kernel) Ba rfl ?_;refine fQ rfl ⟨λ_ _=>rfl,λ_ _=>rfl,trivial⟩ (spliced_more (fU RO c (i:=0) rfl rfl rfl c.e9 (spliced_more (fU RO c (i:=1) rfl rfl rfl c.e9 (spliced_none ?_)))));refine Jk EM (U8 _ _ hC) (c.e8 _ _ he) λh1 g1 k1=> ?_;have n1:=DK k1;have Ub: ∀b o,Bs.B b=some o->h1.get? b=some o:=λb o hb=>k1 b o (ne hb) (U8 b o hb);have K1:=Bs.hK h1 Ub;refine wpAny_execs_cons (iP rfl (fU RO c (i:=1) rfl rfl rfl n1 (jy (fU RO c (i:=0) rfl rfl rfl n1 ?_))) rfl rfl);refine A2 EM (hpass e) (Ub _ _ hC) (looks_findIn K1 RO.sa) (looks_findIn K1 RO.what) (mA:=λ_=>none) ⟨_,g1,rfl,(λc z=>nomatch z),.inl ⟨rfl,λ_=>rfl⟩⟩ (λh2 tk2 I2 k2 s2=> ?_) Within.nil ∅;obtain⟨o2,g2,c2,d2,_,x2⟩:=s2 _ g1;obtain⟨dx,x2,f2⟩:=x2 rfl;have VB: ∀b o,b≠e->h1.get? b=some o->h2.get? b=some o:=λb o hb=>k2 b o hb λo₀ dy h0 h1=>lg (h1.symm.trans (aC (g1.symm.trans h0)▸rfl));have n2:=DK λb o hb ho=>VB b o hb (k1 b o hb ho);have hB2: ∀b o,Bs.B b=some o->h2.get? b=some o:=λb o hb=>VB b o (ne hb) (Ub b o hb);have K2:=Bs.hK h2 hB2;refine wpAny_execs_cons (iP rfl (fU RO c (i:=2) rfl rfl rfl n2 (jy (fU RO c (i:=0) rfl rfl rfl n2 ?_))) rfl rfl);refine A2 EM (hpass e) (hB2 _ _ hC) (looks_findIn K2 RO.sa) (looks_findIn K2 RO.at_) I2 (λh3 tk3 I3 k3 s3=>wpAny_execs_nil ?_) (Within.cons _ _ Within.nil) ∅;obtain⟨o3,g3,c3,d3,_,_⟩:=s3 _ g2;exact hR h3 tk3 o3 _ g3 (c3.trans c2) (d3.trans d2) λb ob hb ho=>have y:=k1 b ob hb (c.e8 b ob ho)
  k3 b ob hb (λo₀ dy h0 h1' z=>aD y (z▸aC (x2.symm.trans ((aC (g2.symm.trans h0)).symm▸h1'))▸f2)) (VB b ob hb y)
end
section
variable {M:Model} {A:Around} {E:bS} {env:Env}
variable {nm q:Str} {C N:Addr} {bs bm:List Value} {hdct:Bool} {sn:List Str} {sub:List Value} {ab:Bool} {col:Option Bool} {dd:Option Addr} {k0 k1 k2 k3 k5:Option Value} {newId:String}
theorem Fu{s}{x:Sem Value}{Q:Flow->Shared->Prop}(B:gc C bm)(hh:A.handled=none)
  (h:wpAny M A x (λv s₁=> ∃e o a,v= .ref e/\s₁.heap.get? C=some (excClassObj nm q C N bs bm hdct sn sub ab col dd k0 k1 k2 k3 k5 newId)/\
   s₁.heap.get? e=some o/\o.cls= .ref C/\o.data= .fields #[.ref a,.none,.none,.none,.bool false,.none]/\E (.ref e) s₁) E s):
  wpAny M A (raiseStmt env (some x) none) Q E s:=by
 have hcB:=B.base;unfold raiseStmt;refine am (wpAny_mono h (λv s₁ h₁=> ?_) λ_ _ x=>x);obtain⟨e,o,a,rfl,hC,he,hc,hd,hE⟩:=h₁;obtain⟨hp,g,d,tk,os⟩:=s₁;obtain⟨oc,od,oda,osl⟩:=o;dsimp only at hc hd;subst hc hd
 repeat (first|with_reducible refine wpAny_loadPart_at he ?_|with_reducible refine wpAny_loadPart_at hC ?_|(with_reducible refine wpAny_isSubtype_exc hC ?_;rw[hcB])|wp_step)
 exact wpAny_raiseNew_none hh hE
end
section
variable {w:World} {Bs:Base w} {X:Cx}
theorem I8(hX:X.Ok Bs)(RO:fm Bs 83 fI scope body){T}{x msg}{np cp p pos}{kd}(hx:X.gl[g]?=some (x,v))(kg:X.env.kindOf x=some .globalImplicit):
  SE Bs X (λ_ _=>True) (wp Bs (exec (.Raise (some (.Call (.Name x np) [.Constant (.str msg) kd cp] [] p)) none pos) X.env)) (bf T X.gl (.TM g msg)) (FR (w:=w)):=by
 refine λst r st' hm=>bA hm λC eC hm=>eV hm λVk hm A G ρ s hA hI hp Q E k=> ?_;obtain rfl:C=83:=eq_of_beq Vk;obtain⟨rfl,rfl⟩:=so hm;obtain rfl:=qo hx eC;obtain⟨nm,q,N,bs,bm,sn,sub,ab,col,dd,k0,k1,k2,k3,k5,hC,EM,hpass⟩:=RO.obj;have hB: ∀b o,Bs.B b=some o->s.heap.get? b=some o:=λb o e=>hI.g.Tg b o (hI.g.base b o e);obtain⟨oI,hoI,V8⟩:=RO.fn;have hK:=Bs.hK _ hB;rw[arm_exec_Raise];refine am (wpAny_standAt ?_);show wpAny (model Bs.prog w) A (raiseStmt X.env (some (do let v<-eval (.Call (.Name x np) [.Constant (.str msg) kd cp] [] p) X.env;standAt pos;pure v)) none) Q E s;refine Fu (nm:=nm) (q:=q) (N:=N) (bs:=bs) (hdct:=true) (sn:=sn) (sub:=sub) (ab:=ab) (col:=col) (dd:=dd) (k0:=k0) (k1:=k1) (k2:=k2) (k3:=k3) (k5:=k5) (newId:= "Exception.__new__") EM hA.2.2.1 (am ?_);refine wpAny_Call_Name_kw (hZ hX hx kg hI (iQ RO.keep ⟨λ_ _=>rfl,trivial⟩ ?_));refine spliced_more (wpAny_Constant_str (spliced_none ⟨hK,?_⟩));have Ub: ∀b o,Bs.B b=some o->(vy s.heap 83 [.str msg s.toks]).get? b=some o:=λb o e=>bv _ (bv _ (hB b o e));have hge:(vy s.heap 83 [.str msg s.toks]).get? (s.heap.objs.size+1)=some {cls:= .ref 83,data:= .fields #[.ref s.heap.objs.size,.none,.none,.none,.bool false,.none]}:=by heap_get
 have fe:s.heap.get? (s.heap.objs.size+1)=none:=bj (Nat.le_succ _);have hd:=hA.1;refine H3 EM (hB _ _ hC) (looks_findIn hK RO.init) (hB _ _ hoI) V8 (by rw[sizeLine_eq];simp) (wpAny_call ?_);refine zB RO (s:={s with heap:=vy s.heap 83 [.str msg s.toks],toks:=s.toks+1}) (t0:=s.heap.objs.size) ?_ Ub hge ?_ λh' tk o a g1 c1 d1 up=>⟨rfl,am (wpAny_standAt (bq ?_))⟩
 ·show A.depth+_<1000;rw[rX];omega
 ·exact wh λo q=>aD (hB _ _ q) fe
 ·have ext: ∀b o,s.heap.get? b=some o->h'.get? b=some o:=λb o e=>up b o (λz=>aD (z▸e) fe) (bv _ (bv _ e));have z:=hI.ext ext;exact⟨s.heap.objs.size+1,o,a,rfl,ext _ _ (hB _ _ hC),g1,c1,d1,k G ρ h' tk z.1 z.2 (s.heap.objs.size+1) ⟨fe,hI.none_of fe,(ix hI fe).2.2,o,_,.ref a,g1,c1,d1,rfl,.inl rfl⟩⟩
end
section
variable {w:World} {Bs:Base w} {X:Cx}
theorem EN(hx:gl[g]?=some (x,.cst v))(e:Ek gl g=some f):v= .ref f:=by
 have z:=qo hx e;cases z;rfl
def FE(_:Value)(_:Shared):Prop:=False
theorem xf{A}{E:bS}{s}{env}{t}{b}{l}{pos}{Q:Flow->Shared->Prop}(hnb:e≠byPass)
  (h:wpAny (model Bs.prog w) (A.mark (some e)) (eval t env) (λc s1=>wpAny (model Bs.prog w) (A.mark (some e)) (excMatches e c) (λb' s2=>b'=true/\wpAny (model Bs.prog w) (A.mark (some e)) (setFlight e none) (λ_ s3=>wpAny (model Bs.prog w) (A.mark (some e)) (execs (b::l) env) Q FE s3) FE s2) FE s1) FE s):
  wpAny (model Bs.prog w) A (handleBy e env [.ExceptHandler (some t) none (b::l) pos]) Q E s:=
 wpAny_handleBy_cons (codeAny_handlers_test (wpAny_mono h (λc s1 h=>wpAny_mono h (λb' s2 h=>by
  obtain⟨rfl,h⟩:=h;exact codeAny_handlers_suite (wpAny_mono h (λ_ s3 h=>wpAny_mono h (λf s h=>h) λ_ _ z=>z.elim) λ_ _ z=>z.elim)) λ_ _ z=>z.elim) λ_ _ z=>z.elim)) hnb
theorem uu.eq{α β:Type}{Pre:Gm->Rm->Prop}{W:WP α}{R:Gm->Rm->β->α->Prop}{st s0 st'}{r0 r:Res β}(e:some (r0,s0)=some (r,st'))(x:uu Bs X Pre W R st r0 s0):uu Bs X Pre W R st r st':=by
 obtain⟨rfl,rfl⟩:=so e;exact x
section
variable {T:Tb} {tb:List Stmt} {h0:ExceptHandler} {pos:Pos} {st s1:St}
theorem H8(h:uu Bs X (λ_ _=>True) (wp Bs (execs tb X.env)) (FR (w:=w)) st (.ok .next) s1):uu Bs X (λ_ _=>True) (wp Bs (exec (.Try tb [h0] [] [] pos) X.env)) (FR (w:=w)) st (.ok .next) s1:=λA G ρ s hA hI hp Q E k=>
 wpAny_Try_except (h A G ρ s hA hI trivial _ _ λG1 ρ1 h1 T3 I1 S1 fl hf=>(hf:fl= .next).symm▸wpAny_execs_nil (k G1 ρ1 h1 T3 I1 S1 .next rfl))
variable {fI:Addr} {scope:Scope} {body:List Stmt} {g i:Nat} {x y:Str} {np yp hp ap cp:Pos} {kd:Nat} (hX:X.Ok Bs) (hE:X.env=X.fenv) (RO:fm Bs 83 fI scope body) (hx:X.gl[g]?=some (x,.cst (.ref 83))) (kg:X.env.kindOf x=some .globalImplicit) (hy:X.nm[i]?=some y) (hk:X.env.kindOf y=some .local)
include hX hE RO hx kg hy hk
theorem Bp{A}{Q:Flow->Shared->Prop}{E:bS}(I0:aZ Bs X G ρ st h₀)(I:aZ Bs X G1 ρ1 s1 s.heap)(S:aH G ρ st.S9 h₀ G1 ρ1 s1.S9 s.heap (aG X.fr) X.Tc)(he:Ay h₀ G1 ρ1 s1.S9 s.heap e 83 fl)(hi:i<s1.loc.length)
  (k: ∀h' tk,aZ Bs X G1 ρ1 {s1 with loc:=s1.loc.set i (some .none)} h'->aH G ρ st.S9 h₀ G1 ρ1 s1.S9 h' (aG X.fr) X.Tc->Q .next {s with heap:=h',toks:=tk}):
  wpAny (model Bs.prog w) A (handleBy (.ref e) X.env [.ExceptHandler (some (.Name x np)) none [.Assign [.Name y yp] (.Constant .none kd cp) ap] hp]) Q E s:=by
 obtain⟨nm,q,N,bs,bm,sn,sub,ab,col,dd,k0,k1,k2,k3,k5,hC,EM,_⟩:=RO.obj;obtain⟨_,oe,vs,a0,T0,oT,ts,d1,d2,_⟩:=id he;exact xf (λz=>nomatch z) (hZ hX hx kg I (wpAny_excMatches_sub_self (I.g.Tg _ _ (I.g.base _ _ hC)) d1 d2 ((Bool.or_eq_true _ _).mp ((List.contains_cons).symm.trans EM.base)|>.elim (λz=>nomatch z) id) ⟨rfl,
  kN I0 I S he λh4 I4 S4 e4=>wpAny_execs_cons (iP rfl (wpAny_Constant_none (assign_Name (gw hX hy (.inl hk) (s:={s with heap:=h4}) I4 (show ar w G1 ρ1 .none .none from rfl) hi λh5 Vc I5 S5=>wpAny_execs_nil (k h5 Vc I5 (S4.trans S5))))) rfl rfl)⟩))
theorem FA(h:uu Bs X (λ_ _=>True) (wp Bs (execs tb X.env)) (FR (w:=w)) st (.exc 83) s1)(hi:i<s1.loc.length):
  uu Bs X (λ_ _=>True) (wp Bs (exec (.Try tb [.ExceptHandler (some (.Name x np)) none [.Assign [.Name y yp] (.Constant .none kd cp) ap] hp] [] [] pos) X.env)) (FR (w:=w)) st (.ok .next) {s1 with loc:=s1.loc.set i (some .none)}:=λA G ρ s hA hI hp Q E k=>
 wpAny_Try_except (h A G ρ s hA hI trivial _ _ λG1 ρ1 h1 T3 I1 S1 e he=>hE.symm▸qf (s:={s with heap:=h1,toks:=T3}) hI I1 S1 hA.2.2.2 hX.fr he λh2 I2 S2 e2=>kN (s:={s with heap:=h2,toks:=T3}) hI I2 S2 e2 λh3 I3 S3 e3=>
  hE▸Bp (s:={s with heap:=h3,toks:=T3}) hX hE RO hx kg hy hk hI I3 S3 e3 hi λh' tk I' S'=>k G1 ρ1 h' tk I' S' .next rfl)
theorem KN(hb:SE Bs X (λ_ _=>True) (wp Bs (execs tb X.env)) (ae T X.gl ib) (FR (w:=w))):
  SE Bs X (λ_ _=>True) (wp Bs (exec (.Try tb [.ExceptHandler (some (.Name x np)) none [.Assign [.Name y yp] (.Constant .none kd cp) ap] hp] [] [] pos) X.env)) (bf T X.gl (.tri ib g i)) (FR (w:=w)):=λst r st' hm=>bA hm λp hex hm=>by
 obtain⟨rr,s1⟩:=p;have z:=hb _ _ _ hex;cases rr with
 |ok f=>cases f with
  |next=>exact uu.eq hm (H8 z)
  |cont=>exact aB hm
  |ret v=>exact aB hm
 |exc C=>exact bA hm λC' eC hm1=>eV hm1 λhcc hm2=>uu.eq hm2 (FA hX hE RO hx kg hy hk (Value.ref.inj (EN hx eC)▸eq_of_beq (bG hcc).1▸z) (aT (bG hcc).2))
end
end
noncomputable def j6(X:Cx)(scope:Scope)(cl:List (Str×Addr))(C:Addr)(nm:List Str):Cx:=⟨compEnvC scope cl C X.env,X.fenv,X.outer,nm,X.gl,X.lvl,[C]⟩
section
variable {w:World} (Bs:Base w) (X:Cx)
structure tm (scope:Scope) (cl:List (Str×Addr)) (x:Str) (nm:List Str) (caps:List Nat):Prop where
 ok: ∀C,(j6 X scope cl C (x::nm)).Ok Bs
 kind:scope.kind= .function
 Wk: ∀y∈scope.names,y.2≠ .cell
 names: ∀y∈scope.names,y.2= .local->scope.names.lookup y.1=some .local
 tgt:(relabel scope X.env).names.lookup x=some .local
 clos:closureFor scope X.env=pure cl
 len:caps.length=nm.length
 cap: ∀(j i:Nat) (y:Str),caps[j]?=some i->nm[j]?=some y->X.nm[i]?=some y/\X.env.kindOf y=some .cell/\(relabel scope X.env).names.lookup y=some .cell/\cl.lookup y=X.env.cells.lookup y
 sub: ∀y c,cl.lookup y=some c->X.env.cells.lookup y=some c
 mem: ∀c∈cl.map (·.2),c∈X.env.cells.map (·.2)
variable {Bs X}
theorem CB(CO:tm Bs X scope cl x nm caps)(I:aZ Bs X G ρ ⟨loc,σ⟩ h)
  {C:Addr} {m:Str->Option Value} (hC:h.Ns C m) (oC:Own [C] G ρ σ):aZ Bs (j6 X scope cl C (x::nm)) G ρ ⟨none::caps.map λi=>(loc[i]?).join,σ⟩ h:=by
 obtain⟨m0,_,hl,hcl⟩:=I.l;have pC:G C=none/\ ¬bK ρ σ C/\ ∃o,h.get? C=some o:=⟨(oC C (.head _)).1,(oC C (.head _)).2,hC.imp λo z=>z.elim λ_ z=>z.elim λ_ z=>z.1⟩;refine⟨I.g,ac Nat.succ ((List.length_map ..).trans CO.len),⟨m,hC,λi a e=> ?_,λy c lk=>hcl y c (CO.sub y c lk)⟩,λb hb=> ?_,.head _⟩
 ·cases i with
  |zero=>exact lg (aC e).symm
  |succ j=>
   refine ed (List.getElem?_map.symm.trans e) λi hi e'=> ?_;have hy:nm[j]?=some _:=List.getElem?_eq_getElem (CO.len▸(ch hi).1);have c:=CO.cap j i _ hi hy;obtain⟨y,v,h1,h2,h3⟩:=hl i a (jn e');obtain rfl:=aC (c.1.symm.trans h1);exact⟨_,v,hy,h2,h3.elim (λk=>nomatch (c.2.1.symm.trans k.1:some NameKind.cell=some .local)) λk=>k.2.elim λd k=> .inr ⟨.inl c.2.2.1,d,c.2.2.2.trans k.1,k.2⟩⟩
 ·exact hb.elim (λhb=>(cW hb).elim (λq=>q▸pC) λhb=>I.p b (.inl (.tail _ (CO.mem b hb)))) λhb=>dt hb▸pC
theorem aZ.side{G0 G G'}{ρ0 ρ ρ'}{σ σ'}{h₀ h h'}{P}(I0:aZ Bs X G0 ρ0 st0 h₀)(I:aZ Bs X G ρ ⟨loc,σ⟩ h)(S0:aH G0 ρ0 st0.S9 h₀ G ρ σ h (aG X.fr) X.Tc)
  (I':iB w Bs.B G' ρ' σ' X.fr h') (S:aH G ρ σ h G' ρ' σ' h' (aG X.fr) P) (hP: ∀b∈P,h₀.get? b=none):
  aZ Bs X G' ρ' ⟨loc,σ'⟩ h'/\aH G0 ρ0 st0.S9 h₀ G' ρ' σ' h' (aG X.fr) X.Tc:=by
 have old: ∀b,(∃o,h₀.get? b=some o)-> ¬bK ρ σ b-> ∀o,h.get? b=some o-> ∃sl,h'.get? b=some {o with slots:=sl}/\(b∉aG X.fr->sl=o.slots):=λb l nf o e=>
  S.keep b o e nf λhb=>l.elim λx hx=>aD hx (hP b hb)
 refine⟨I.move I' S.gl S.rl (λb o hb e=>(old b (I0.p b (.inl hb)).2.2 (I.p b (.inl hb)).2.1 o e).imp λsl z=>z.1) λb hb=> ?_,⟨S0.gl.trans S.gl,S0.rl.trans S.rl,λb o e nf np=> ?_,λb q=>(S.fresh b q).elim (S0.fresh b) λz=> .inr (Mine.none_of S0.alive z),
  λb o q=>(S.Tr b o q).elim (S0.Tr b o) λz=>z.elim (λz=> .inr (S0.fresh b z)) λz=> .inr (.inr (Mine.none_of S0.alive z)),λb o e=>(S0.alive b o e).elim λo' e'=>S.alive b o' e'⟩⟩
 ·exact(I.p b hb).2.2.elim λx d=>⟨wh λo q=>(S.Tr b o q).elim (λz=>lg (z.symm.trans (I.p b hb).1)) λz=>z.elim (I.p b hb).2.1 (aD d),λq=>(S.fresh b q).elim (I.p b hb).2.1 (aD d),S.alive b x d⟩
 ·exact(S0.keep b o e nf np).elim λsl z=>(old b ⟨o,e⟩ (λq=>(S0.fresh b q).elim nf (aD e)) _ z.1).imp λsl2 y=>⟨y.1,λnb=>(y.2 nb).trans (z.2 nb)⟩
theorem aZ.Vu{G0 G}{ρ0 ρ}{st0 st}{h₀ h}{D}{o}(I0:aZ Bs X G0 ρ0 st0 h₀)(I:aZ Bs X G ρ st h)(S:aH G0 ρ0 st0.S9 h₀ G ρ st.S9 h (aG X.fr) X.Tc)(hD:h₀.get? D=none)(oD:Own [D] G ρ st.S9)(ho:h.get? D=some o):
  aZ Bs X (f6 G D o) ρ st h/\aH G0 ρ0 st0.S9 h₀ (f6 G D o) ρ st.S9 h (aG X.fr) X.Tc:=
 I0.Ul I S oD (λb hb=>dt hb▸hD) (ez (oD D (.head _)).1) (λ_ _ _ e=>e) λb x q=>jN q (λe1 e2=> .inr ⟨.inl (e1▸ .head _),e1▸e2▸ho⟩) .inl
end
section
variable {w:World} {Bs:Base w} {X:Cx}
abbrev jL(Bs:Base w)(ifs:List Expr)(env:Env):WP Bool:=wp Bs (forIn ifs true λc r=>if r=true then do let ok<-isTrue c env (eval c env);pure (ForInStep.yield ok) else pure (ForInStep.yield r))
theorem zj:SE Bs X (λ_ _=>True) (jL Bs [] env) (fF T gl []) BR:=SE.one (b:=true) λst A G ρ s hA hI hp Q E k=>wpAny_tests_nil (k _ s.toks rfl)
theorem zA{st}(hm:fF T gl [i] st=some (r,st')):cg T gl i (aw T gl i) st=some (r,st'):=bO hm (λC e e'=>e'▸e) λb s1 e1 e2=>by cases b<;>exact e1.trans e2
theorem AH(h:SE Bs X (λ_ _=>True) (wp Bs (isTrue c env (eval c env))) (cg T gl i (aw T gl i)) BR):SE Bs X (λ_ _=>True) (jL Bs [c] env) (fF T gl [i]) BR:=SE.le (h.sub zA) λA Q E s h=>wpAny_tests_one h
theorem Qp{α β:Type}{x:Out α}{f:α->St->Out β}{q:Res β×St}{p:Prop}(h:we x f=some q)(k: ∀a s1,x=some (.ok a,s1)->f a s1=some q->p):p:=bA h λy=>match y with
 |(.ok a,s1)=>λe h=>k a s1 e h
 |(.exc C,s1)=>λe h=>aB h
noncomputable def g7(T:Tb)(gl:Gl)(ie:IE)(caps:List Nat)(conds:List IE)(loc:List (Option AV)):AV->St->Out (aV):=λa s'=>we (fF T gl conds ⟨some a::caps.map λi=>(loc[i]?).join,s'.S9⟩) λb s1=>
   cond b (we (aw T gl ie s1) λv s2=>some (.ok [v],⟨loc,s2.S9⟩)) (some (.ok [],⟨loc,s1.S9⟩))
structure ls (Bs:Base w) (X:Cx) (G:Gm) (ρ:Rm) (σ0:aX) (h₀:Heap) (own:List Addr) (D C:Addr) (loc:List (Option AV)) (P:Gm->Rm->Heap->Prop) (Gx:Gm) (ρx:Rm) (σ:aX) (h:Heap) (Tq:aV) (vs:List Value):Prop where
 I:aZ Bs X Gx ρx ⟨loc,σ⟩ h
 S:aH G ρ σ0 h₀ Gx ρx σ h (aG X.fr) X.Tc
 p:P Gx ρx h
 o:Own own Gx ρx σ
 c: ∃m,h.Ns C m
 oC:Own [C] Gx ρx σ
 d:h.PlainList D (List.toArray vs)
 r:ag w Gx ρx Tq vs
 oD:Own [D] Gx ρx σ
def LB(Bs:Base w)(A:Around)(env:Env)(x:Str)(px:Pos)(ifs:List Expr)(elt:Expr)(D:Addr)(J:Shared->Prop)(E:bS)(v:Value)(s:Shared):Prop:=wpAny (model Bs.prog w) A (assign (.Name x px) env v) (λ_ s₂=>
 jL Bs ifs env A (λok s₃=>if ok=true then wpAny (model Bs.prog w) A (eval elt env) (λx s₄=>wpAny (model Bs.prog w) A (call (.builtin "list.append") [.ref D,x]) (λ_ s₅=>J s₅) E s₄) E s₃ else J s₃) E s₂) E s
theorem qO{h:Heap}{a:Addr}(e:h.get? a=none): ∀b∈ [a],h.get? b=none:=λb hb=>dt hb▸e
theorem sj{h:Heap}{a:Addr}(e: ∃o,h.get? a=some o): ∀b∈ [a],∃o,h.get? b=some o:=λb hb=>dt hb▸e
theorem Hg{h:Heap}{C:Addr}(c: ∃m,h.Ns C m): ∃o,h.get? C=some o:=c.elim λm z=>z.imp λo z=>z.elim λ_ z=>z.elim λ_ z=>z.1
theorem G7{h:Heap}{D:Addr}{l:Array Value}(c:h.PlainList D l): ∃o,h.get? D=some o:=c.elim λn e=>⟨_,e⟩
theorem tW{h h':Heap}{C:Addr}{m:Str->Option Value}(c:h.Ns C m)(k: ∀o,h.get? C=some o->h'.get? C=some o):h'.Ns C m:=c.imp λo z=>z.imp λ_ z=>z.imp λ_ z=>⟨k o z.1,z.2⟩
section
variable {G:Gm} {ρ:Rm} {st:St} {s:Shared} {own:List Addr} {D C:Addr} {loc:List (Option AV)} {items:aV} {it:Value} {P:Nat->Gm->Rm->Heap->Prop} (hI:aZ Bs X G ρ st s.heap) (hn: ∀b∈own,s.heap.get? b=none) (fD:s.heap.get? D=none) (fC:s.heap.get? C=none) (Uo:D∉own) (Un:C∉own) (hDC:D≠C) (TK: ∀Y,Cy Bs Y (λ_=>pure ()) own it items P)
 {Gx:Gm} {ρx:Rm} {σ:aX} {h:Heap} {Tq:aV} {vs:List Value} {i:Nat}
include hI hn fD fC Uo Un hDC TK
theorem ls.item(Z:ls Bs X G ρ st.S9 s.heap own D C loc (P i) Gx ρx σ h Tq vs){G3:Gm}{h3:Heap}(TT:kj own Gx h G3 h3)(UW:P (i+1) G3 ρx h3):ls Bs X G ρ st.S9 s.heap own D C loc (P (i+1)) G3 ρx σ h3 Tq vs:=
 have z:=hI.touch Z.I Z.S Z.o hn TT
 ⟨z.1,z.2,UW,Z.o.touch ((TK X).al _ _ _ _ Z.p) TT,Z.c.imp λm c=>tW c λo=>TT.keep C o Un,Z.oC.touch (sj (Hg Z.c)) TT,Z.d.at λo=>TT.keep D o Uo,Z.r.mono TT.gl fk.rfl,Z.oD.touch (sj (G7 Z.d)) TT⟩
theorem ls.side(Z:ls Bs X G ρ st.S9 s.heap own D C loc (P i) Gx ρx σ h Tq vs){scope:Scope}{cl:List (Str×Addr)}{nm:List Str}{G5:Gm}{ρ5:Rm}{Vy:St}{h5:Heap}(I5:aZ Bs (j6 X scope cl C nm) G5 ρ5 Vy h5)(S5:aH Gx ρx σ h G5 ρ5 Vy.S9 h5 (aG X.fr) [C]):ls Bs X G ρ st.S9 s.heap own D C loc (P i) G5 ρ5 Vy.S9 h5 Tq vs:=by
 have z:=hI.side Z.I Z.S I5.g S5 (qO fC);have kp: ∀b,b≠C->(Gx b=none/\ ¬bK ρx σ b)->s.heap.get? b=none-> ∀o,h.get? b=some o->h5.get? b=some o:=λb hb y fr o e=>(S5.keep b o e y.2 λq=>hb (dt q)).elim λsl q=>vD q.1 (q.2 (ix hI fr).1);exact⟨z.1,z.2,(TK X).mono _ _ _ _ _ _ _ Z.p S5.gl S5.rl λb o hb e=>hb.elim (λhb=>kp b (λq=>Un (q▸hb)) (Z.o b hb) (hn b hb) o e) λhb=>z.1.g.Tg b o (S5.gl b o hb),Z.o.step ((TK X).al _ _ _ _ Z.p) S5,I5.l.imp λm y=>y.1,Z.oC.step (sj (Hg Z.c)) S5,
  Z.d.at (kp D hDC (Z.oD D (.head _)) fD),Z.r.mono S5.gl S5.rl,Z.oD.step (sj (G7 Z.d)) S5⟩
theorem ls.push(Z:ls Bs X G ρ st.S9 s.heap own D C loc (P i) Gx ρx σ h Tq vs){h7:Heap}{u:AV}{y:Value}(Vo:h7.PlainList D ((List.toArray vs).push y))(UZ:Heap.SameBut D h h7)(hy:ar w Gx ρx u y):ls Bs X G ρ st.S9 s.heap own D C loc (P i) Gx ρx σ h7 (Tq++ [u]) (vs++ [y]):=
 have z:=hI.touch Z.I Z.S Z.oD (qO fD) (jJ UZ.extBut)
 ⟨z.1,z.2,(TK X).mono _ _ _ _ _ _ _ Z.p dF.rfl fk.rfl λb o hb e=>UZ.extBut b o (λq=>hb.elim (λhb=>Uo (q▸hb)) λhb=>lg ((q▸hb).symm.trans (Z.oD D (.head _)).1)) e,Z.o,Z.c.imp λm c=>tW c λo=>UZ.extBut C o hDC.symm,Z.oC,List.push_toArray vs y▸Vo,Z.r.append (.one hy),Z.oD⟩
theorem ls.fin(Z:ls Bs X G ρ st.S9 s.heap own D C loc (P i) Gx ρx σ h Tq vs){A}{R}{h'}{tk':Nat}{Q:bS}{E:bS}(eR:Tq=R)(TT:kj own Gx h Gx h')
  (k: ∀G' ρ' h' tk,aZ Bs X G' ρ' ⟨loc,σ⟩ h'->aH G ρ st.S9 s.heap G' ρ' σ h' (aG X.fr) X.Tc-> ∀v,ar w G' ρ' (.lst R) v->Q v {s with heap:=h',toks:=tk}):compPost (model Bs.prog w) A E none Q (.ref D) C (.ok .next) {s with heap:=h',toks:=tk'}:=by
 obtain⟨m,hm⟩:=Z.c;obtain⟨nD,hd⟩:=Z.d;refine⟨m,tW hm λo=>TT.keep C o Un,λh'' hs=> ?_⟩;have z:=hI.touch Z.I Z.S Z.o hn TT;have z2:=hI.touch z.1 z.2 Z.oC (qO fC) (jJ hs.extBut);have z3:=hI.Vu z2.1 z2.2 fD Z.oD ((hs.2 D hDC).trans (TT.keep D _ Uo hd));exact k _ _ h'' tk' z3.1 z3.2 (.ref D) ⟨D,vs,nD,rfl,dR,eR▸Z.r.mono (ez (Z.oD D (.head _)).1) fk.rfl⟩
variable (hX:X.Ok Bs) {scope:Scope} {cl:List (Str×Addr)} {x:Str} {nm:List Str} {caps:List Nat} (CO:tm Bs X scope cl x nm caps) {T:Tb} {elt:Expr} {ifs:List Expr} {px:Pos} {ie:IE} {conds:List IE}
  (helt: ∀C,SE Bs (j6 X scope cl C (x::nm)) (λ_ _=>True) (wp Bs (eval elt (compEnvC scope cl C X.env))) (aw T X.gl ie) (VR (w:=w)))
  (T8: ∀C,SE Bs (j6 X scope cl C (x::nm)) (λ_ _=>True) (jL Bs ifs (compEnvC scope cl C X.env)) (fF T X.gl conds) BR) {A:Around} (hA:lN X.lvl X.fr A)
include CO helt T8 hA
theorem Aa(Z:ls Bs X G ρ st.S9 s.heap own D C loc (P i) Gx ρx σ h Tq vs){a}{v}{tk}(hv:ar w Gx ρx a v){xs}{sx}(hal:Tq.length<=100000)(f1:g7 T X.gl ie caps conds loc a ⟨loc,σ⟩=some (.ok xs,sx)){J:Shared->Prop}{E:bS}
  (K: ∀G' ρ' h' tk' vs',sx.loc=loc->xs.length<=1->ls Bs X G ρ st.S9 s.heap own D C loc (P i) G' ρ' sx.S9 h' (Tq++xs) vs'->J {s with heap:=h',toks:=tk'}):LB Bs A (compEnvC scope cl C X.env) x px ifs elt D J E v {s with heap:=h,toks:=tk}:=by
 obtain⟨m,hm⟩:=Z.c;refine assign_Name (gw (CO.ok C) (i:=0) (x:=x) rfl (.inl CO.tgt) (s:={s with heap:=h,toks:=tk}) (CB CO Z.I hm Z.oC) hv (Nat.succ_pos _) λh4 U6 I4 S4=>Qp f1 λb t1 et e2=> ?_);refine T8 C _ _ _ et A Gx ρx {s with heap:=h4,toks:=U6} hA I4 trivial _ _ λG5 ρ5 h5 Vc I5 S5 b' hb=> ?_;obtain rfl:b=b':=hb;cases b with
 |true=>
  refine Qp (Px e2) λu t2 ee e3=>helt C _ _ _ ee A G5 ρ5 {s with heap:=h5,toks:=Vc} hA I5 trivial _ _ λG6 ρ6 h6 Wn I6 S6 y hy=> ?_;obtain⟨e4,rfl⟩:=Oo e3;have Z6:=Z.side hI hn fD fC Uo Un hDC TK I6 (S4.trans (S5.trans S6));exact wpAny_list_append_plain Z6.d (λh7 Vo UZ=>K _ _ h7 Wn _ rfl (e4▸Nat.le_refl _) (e4▸Z6.push hI hn fD fC Uo Un hDC TK Vo UZ hy)) (bz (Nat.le_of_eq Z.r.length) (bz hal ∅))
 |false=>
  obtain⟨e4,rfl⟩:=Oo e2;exact K _ _ h5 Vc _ rfl (e4▸Nat.zero_le _) (e4▸(List.append_nil Tq).symm▸Z.side hI hn fD fC Uo Un hDC TK I5 (S4.trans S5))
inductive JJ (Bs:Base w) (X:Cx) (G:Gm) (ρ:Rm) (σ0:aX) (s:Shared) (own:List Addr) (D C:Addr) (loc:List (Option AV)) (P:Nat->Gm->Rm->Heap->Prop) (step:AV->St->Out (aV)) (items R:aV) (st':St) (n:Nat) (s':Shared):Prop
 |mk (i:Nat) (Gx:Gm) (ρx:Rm) (σ:aX) (h:Heap) (tk:Nat) (Tq:aV) (vs:List Value) (ws:List (aV)) (en:n=items.length-i) (hi:i<=items.length) (es:s'={s with heap:=h,toks:=tk}) (Z:ls Bs X G ρ σ0 s.heap own D C loc (P i) Gx ρx σ h Tq vs) (hal:Tq.length<=i)
   (hf:uj (items.drop i) step ⟨loc,σ⟩=some (.ok ws,st')) (eR:Tq++ws.flatten=R)
variable {iter:Expr} {pos:Pos} {R:aV} {st':St} {Q:bS} {E:bS} (hlen:items.length<=100000)
  (k: ∀G' ρ' h' tk,aZ Bs X G' ρ' st' h'->aH G ρ st.S9 s.heap G' ρ' st'.S9 h' (aG X.fr) X.Tc-> ∀v,ar w G' ρ' (.lst R) v->Q v {s with heap:=h',toks:=tk})
include hlen k
theorem zK(q:JJ Bs X G ρ st.S9 s own D C loc P (g7 T X.gl ie caps conds loc) items R st' n s'):
  codeAny (model Bs.prog w) A (.compLoop (.ListComp elt [⟨.Name x px,iter,ifs,0⟩] scope pos) 0 it (.ref D) (compEnvC scope cl C X.env)) (compPost (model Bs.prog w) A E none Q (.ref D) C) s':=by
 refine codeAny_compLoop_tests (JJ Bs X G ρ st.S9 s own D C loc P (g7 T X.gl ie caps conds loc) items R st') ?_ n q;clear q;intro n s' q;obtain⟨i,Gx,ρx,σ,h,tk,Tq,vs,ws,rfl,hi,rfl,Z,hal,hf,eR⟩:=q;have hh:=hA.2.2.1;cases hv:items[i]? with
 |none=>
  rw[List.drop_of_length_le (List.getElem?_eq_none_iff.mp hv)] at hf;obtain⟨e1,rfl⟩:=Oo hf;refine wpAny_mono ((TK X).stop i hv A Gx ρx ⟨loc,σ⟩ {s with heap:=h,toks:=tk} hh Z.I Z.p (λs'=>compPost (model Bs.prog w) A E none Q (.ref D) C (.ok .next) s') _ λh' tk' TT=>
   Z.fin hI hn fD fC Uo Un hDC TK ((List.append_nil Tq).symm.trans ((ac (λws=>Tq++List.flatten ws) e1).trans eR)) TT k) (λr s' h=> ?_) λ_ _ x=>x
  cases r with
  |none=>exact h
  |some v=>exact h.elim
 |some a=>
  have lt:=(ch hv).1;have hd:items.drop i=a::items.drop (i+1):=by rw[List.drop_eq_getElem_cons lt,(ch hv).2]
  rw[hd] at hf;refine bO hf (λC e q=>nomatch q) λxs sx f1 f2=>bO f2 (λC e q=>nomatch q) λxss s2 f3 f4=> ?_;obtain⟨e1,rfl⟩:=Oo f4;refine wpAny_mono ((TK X).item i a hv A Gx ρx ⟨loc,σ⟩ {s with heap:=h,toks:=tk} hh Z.I Z.p (LB Bs A (compEnvC scope cl C X.env) x px ifs elt D (λs₃=> ∃m,m<items.length-i/\JJ Bs X G ρ st.S9 s own D C loc P (g7 T X.gl ie caps conds loc) items R s2 m s₃) (notedBy (model Bs.prog w) A (compEnvC scope cl C X.env) λe s'=>compPost (model Bs.prog w) A E none Q (.ref D) C (.error e) s')) _ λv G3 h3 tk3 TT U9 UW=>
   Aa hI hn fD fC Uo Un hDC TK CO helt T8 hA (Z.item hI hn fD fC Uo Un hDC TK TT UW) U9 (bz hal (bz hi hlen)) f1 λG' ρ' h' tk' vs' el l1 Z'=>
    ⟨_,Nat.sub_lt_sub_left lt (Nat.lt_succ_self i),i+1,G',ρ',sx.S9,h',tk',Tq++xs,vs',xss,rfl,lt,rfl,Z',bz (Nat.le_of_eq (List.length_append ..)) (Nat.add_le_add hal l1),el▸f3,(List.append_assoc ..).trans ((ac (λws=>Tq++List.flatten ws) e1).trans eR)⟩) (λr s' h=> ?_) λ_ _ x=>x
  cases r with
  |none=>exact h.elim
  |some v=>exact am (f:=λ_=>assign (.Name x px) (compEnvC scope cl C X.env) v) h
end
section
variable {scope:Scope} {cl:List (Str×Addr)} {x:Str} {nm:List Str} {caps:List Nat} (CO:tm Bs X scope cl x nm caps) {T:Tb} {elt iter:Expr} {ifs:List Expr} {px pos:Pos} {ie src:IE} {conds:List IE} {ik:IK} {g:Nat}
  (helt: ∀C,SE Bs (j6 X scope cl C (x::nm)) (λ_ _=>True) (wp Bs (eval elt (compEnvC scope cl C X.env))) (aw T X.gl ie) (VR (w:=w)))
  (T8: ∀C,SE Bs (j6 X scope cl C (x::nm)) (λ_ _=>True) (jL Bs ifs (compEnvC scope cl C X.env)) (fF T X.gl conds) BR)
include CO helt T8
theorem wD{A}(hA:lN X.lvl X.fr A){G}{ρ}{st s1 st'}{s s2}{items}{Vd}{it}{Q:bS}{E:bS}(hI:aZ Bs X G ρ st s.heap)(z:Src Bs X (λ_ _=>pure ()) G ρ st.S9 s items s1 it s2)(hlen:items.length<=100000)
  (UE:uj items (g7 T X.gl ie caps conds s1.loc) s1=some (.ok Vd,st')) (k: ∀G' ρ' h' tk,aZ Bs X G' ρ' st' h'->aH G ρ st.S9 s.heap G' ρ' st'.S9 h' (aG X.fr) X.Tc-> ∀v,ar w G' ρ' (.lst Vd.flatten) v->Q v {s with heap:=h',toks:=tk}):
  wpAny (model Bs.prog w) A (newList []) (λacc s₃=>wpAny (model Bs.prog w) A (newFunctionEnv scope X.env.globals cl [] X.env.qual none .none (some X.env)) (λcenv s₄=>
    codeAny (model Bs.prog w) A (.compStart (.ListComp elt [⟨.Name x px,iter,ifs,0⟩] scope pos) 0 it acc {cenv with scope:=relabel scope X.env}) (compPost (model Bs.prog w) A E none Q acc cenv.locals) s₄) E s₃) E s2:=by
 obtain⟨G1,ρ1,h1,T3,own,P,rfl,I1,S1,Uk,p,new,o⟩:=z;refine wpAny_newObj_type (wpAny_newFunctionEnv CO.Wk (λy hy=>fP hy) (λh₂ hns hsb=> ?_) CO.kind);have fD:h1.get? h1.objs.size=none:=bj (Nat.le_refl _);have hsz:(h1.push {cls:= .type "list",data:= .seq ([]:List Value).toArray}).objs.size=h1.objs.size+1:=Heap.size_push ..;have fC:h1.get? (h1.push {cls:= .type "list",data:= .seq ([]:List Value).toArray}).objs.size=none:=bj (hsz▸Nat.le_succ _);have hDC:h1.objs.size≠(h1.push {cls:= .type "list",data:= .seq ([]:List Value).toArray}).objs.size:=hsz▸(Nat.succ_ne_self _).symm;have old: ∀b o,h1.get? b=some o->h₂.get? b=some o:=λb o e=>hsb.extBut b o (λq=>aD e (q▸fC)) (bv _ (bv _ e));have y:=I1.ext old;have no: ∀{a:Addr},h1.get? a=none->a∉own:=λe z=>((Uk X).al 0 _ _ _ p _ z).elim λo q=>aD q e;have p2:=(Uk X).mono 0 _ _ _ _ _ _ p dF.rfl fk.rfl λb o _ e=>old b o e;have loop: ∀tk,codeAny (model Bs.prog w) A (.compLoop (.ListComp elt [⟨.Name x px,iter,ifs,0⟩] scope pos) 0 it (.ref h1.objs.size) (compEnvC scope cl (h1.push {cls:= .type "list",data:= .seq ([]:List Value).toArray}).objs.size X.env)) (compPost (model Bs.prog w) A E none Q (.ref h1.objs.size) (h1.push {cls:= .type "list",data:= .seq ([]:List Value).toArray}).objs.size) {s with heap:=h₂,toks:=tk}:=λtk=>
  zK hI new (Mine.none_of S1.alive fD) (Mine.none_of S1.alive fC) (no fD) (no fC) hDC Uk CO helt T8 hA hlen k (n:=items.length) ⟨0,G1,ρ1,s1.S9,h₂,tk,[],[],Vd,rfl,Nat.zero_le _,rfl,⟨y.1,S1.trans y.2,p2,o,⟨_,hns⟩,jO I1 fC,⟨_,hsb.extBut _ _ hDC (bv _ (dX _ rfl))⟩,rfl,jO I1 fD⟩,Nat.le_refl _,UE,rfl⟩
 exact codeAny_compStart_list (loop _) ((Uk X).self 0 A G1 ρ1 {s with heap:=h₂,toks:=_} p2 _ _ (loop _))
theorem yF(hs: ∀y,foldedSetIterable iter X.env y=pure y)
  (TN:lm Bs X (λ_ _=>pure ()) ((wp Bs (eval iter X.env)).bind λv=>wp Bs (pyIter v)) (λs=>ao (aw T X.gl src s) λx s=>fh (bN s.S9 ik [x]) s λitems s=>some (.ok items,s))):
  SE Bs X (λ_ _=>True) (wp Bs (eval (.ListComp elt [⟨.Name x px,iter,ifs,0⟩] scope pos) X.env)) (aw T X.gl (.comp ie caps ik g src conds)) (VR (w:=w)):=λst r st' hm A G ρ s hA hI hp Q E k=>
 wpAny_comprehension_free (use:=none) rfl hs CO.clos CO.kind CO.names (bO (show ao (aw T X.gl src st) (λx s=>fh (bN s.S9 ik [x]) s λitems s=>KX (decide (items.length<=100000)) s λs=>we (uj items (g7 T X.gl ie caps conds s.loc) s) λvs s=>some (.ok (.lst vs.flatten),s))=some (r,st') from hm) (λC e e'=>TN st (.exc C) st' ((ac (ao · _) e).trans rfl) A G ρ s hA hI _ _ (λC' hC G' ρ' h' tk I S x hx=>by
  obtain rfl:=Rc hC;exact(e'▸k G' ρ' h' tk I S:er X (VR (w:=w)) (.exc C) G' ρ' st'.S9 s.heap s h' tk Q E) x hx) λitems hi=>nomatch hi) λxv s1 e1 e2=>bA e2 λitems hit e2=>eV e2 λhlen e2=>Qp e2 λVd sf UE e3=>
  TN st (.ok items) s1 ((ac (ao · _) e1).trans (ac (Option.bind · _) hit)) A G ρ s hA hI _ _ (λC' hC=>nomatch hC) λitems' hi it s2 z=>by
  obtain rfl:=Om hi;obtain⟨rfl,rfl⟩:=so e3;exact wD CO helt T8 hA hI z (aT hlen) UE k)
end
end
section
variable {w:World} {Bs:Base w} {X:Cx}
noncomputable def WP.cmp(Bs:Base w)(op:CmpOp)(v u:Value):WP Bool:=λA Q E s=>wpAny (model Bs.prog w) A (compareOp op v u) (λc s=>wpAny (model Bs.prog w) A (truthy c) Q E s) E s
theorem zc{op}{x y}{v u}{P:Gm->Rm->Prop}:SE Bs X (λG ρ=>(P G ρ/\VR (w:=w) G ρ x v)/\VR (w:=w) G ρ y u) (WP.cmp Bs op v u) (λs=>bo s (eP s.S9 op x y)) BR:=SE.truthy ve λA Q E s h=>h
theorem Ki{l r1 r2}{pos}{env}{whole:Sem Value}{T}{gl}{ia ib ic}{wI:St->Out AV}(hm:lastMarks [o1,o2] [r1,r2]=false)
  (h1:SE Bs X (λ_ _=>True) (wp Bs (eval l env)) (aw T gl ia) (VR (w:=w))) (h2:SE Bs X (λ_ _=>True) (wp Bs (eval r1 env)) (aw T gl ib) (VR (w:=w))) (h3:SE Bs X (λ_ _=>True) (wp Bs (eval r2 env)) (aw T gl ic) (VR (w:=w))):
  SE Bs X (λ_ _=>True) (wp Bs (isTrue (.Compare l [o1,o2] [r1,r2] pos) env whole)) (cg T gl (.Uh o1 o2 ia ib ic) wI) BR:=
 SE.le (SE.bind (U:=λv=>WP.bind (wp Bs (eval r1 env)) λu=>WP.bind (WP.cmp Bs o1 v u) λt=>WP.ite t (wp Bs (testChain pos u [o2] [eval r2 env])) λA Q E s=>Q false s) aR.true h1 λx v=>SE.bind (aR.and aR.true (aR.vr x v)) (h2.pre λ_ _ _=>trivial) λy u=>SE.bind (aR.and (aR.and aR.true (aR.vr x v)) (aR.vr y u)) zc λb t=>λst r st' hm A G ρ s hA hI hp=>by
  obtain rfl:b=t:=hp.2;cases b with
  |false=>exact SE.one (Pre:=λ_ _=>True) (W:=λA Q E s=>Q false s) (R:=BR) (λst A G ρ s hA hI hp Q E k=>k _ s.toks rfl) st r st' hm A G ρ s hA hI trivial
  |true=>exact SE.le (SE.bind (U:=λz=>WP.cmp Bs o2 u z) (aR.and aR.true (aR.vr y u)) (h3.pre λ_ _ _=>trivial) λz t=>zc) (λA Q E s h=>test_last h) st r st' hm A G ρ s hA hI ⟨trivial,hp.1.2⟩) λA Q E s h=>isTrue_chain (wpAny_mono h (λv s h=>test_link h) λ_ _ x=>x) hm
end
end
end Mine
namespace Mine
section
open PySem PySem.W PySem.Calls PyProof.Rows PySem.SeqAt
set_option genInjectivity false
set_option genSizeOf false
set_option maxRecDepth 1000000
structure Ck where
 sc:Scope
 nm:List Str
 gl:Gl
noncomputable def Ck.kind(c:Ck)(x:Str):Option NameKind:=c.sc.names.lookup x
noncomputable def constOk(c:Const)(a:AV):Bool:=match c with
 | .none=>a.T5
 | .bool b=>a.b.elim false (b== ·)
 | .int i=>a.i?.elim false λj=>decide (i=j)
 | .str s=>a.s?.elim false λt=>decide (s=t)
 | .bytes s=>a.b?.elim false λt=>decide (s=t)
 |_=>false
noncomputable def nC(v:Value):Option (Bool×String):=match v with
 | .builtin s=>some (true,s)
 | .type s=>some (false,s)
 |_=>none
theorem vd{v u}(h:nC v=some p)(h':nC u=some p):v=u:=by
 cases v<;>first|exact aB h|skip
 all_goals (obtain rfl:=aC h;cases u<;>first|exact aB h'|skip)
 all_goals (first|exact ac _ (Prod.mk.inj (aC h')).2.symm|exact nomatch (Prod.mk.inj (aC h')).1)
noncomputable def yt(a:AV)(v:Value):Bool:=a.c?.elim false λc=>(rJ c).elim ((nC c).elim false λp=>(nC v).elim false λq=>decide (p=q)) λx=>(rJ v).elim false λy=>decide (x=y)
theorem u6(h:yt a v=true):a= .cst v:=Th h (λc ec h=>(Hr ec).trans (ac _ (Th h (λx ex h=>Th h (λy ey h=>(jP ex).trans ((ac _ (aT h)).trans (jP ey).symm)) ft) λh=>Th h (λp ep h=>Th h (λq eq h=>vd ep (aT h▸eq)) ft) ft))) ft
noncomputable def Ck.gn(c:Ck)(g:Nat):Str:=(c.gl.getD g (Str.empty,.none)).1
noncomputable def Ck.glob(c:Ck)(g:Nat):Bool:=decide (g<c.gl.length)&&decide (c.kind (c.gn g)=some .globalImplicit)
noncomputable def Ck.Tw(c:Ck)(g:Nat)(v:Value):Bool:=c.glob g&&yt (c.gl.getD g (Str.empty,.none)).2 v
noncomputable def Ck.vn(c:Ck)(i:Nat):Str:=c.nm.getD i Str.empty
noncomputable def Ck.var(c:Ck)(i:Nat):Bool:=decide (i<c.nm.length)
noncomputable def dH(scope sc:Scope):Scope:={scope with names:=scope.names.map fun(n,k)=>if(k== .free&&sc.kind== .function&&sc.names.lookup n==some .cell) then(n,.cell) else(n,k)}
noncomputable def frees(scope:Scope):List Str:=(scope.names.filter λp=>p.2== .free).map (·.1)
noncomputable def fW(nm:List Str)(l:List Nat):List Str:=l.map λi=>nm.getD i Str.empty
noncomputable def vA(c:Ck)(scope:Scope)(x:Str)(caps:List Nat):Ck:=⟨dH scope c.sc,x::fW c.nm caps,c.gl⟩
noncomputable def sR(sc:Scope)(x:Str):Bool:=decide ((x==("__debug__" :Str))=false)&&decide ((x==("__classdict__" :Str))=false)&&(decide (sc.names.lookup x=some .local)||decide (sc.names.lookup x=some .cell)||decide (sc.names.lookup x=some .free))
noncomputable def Df(c:Ck)(scope:Scope)(x:Str)(caps:List Nat):Bool:=
 decide (scope.kind= .function)&&scope.names.all (λy=>decide (y.2≠ .cell))&&scope.names.all (λy=>decide (y.2≠ .local)||decide (scope.names.lookup y.1=some .local))&&
 decide (scope.names.lookup x=some .local)&&decide (caps.length<=1)&&decide (frees scope=fW c.nm caps)&&caps.all (λi=>decide (i<c.nm.length)&&decide (c.kind (c.nm.getD i Str.empty)=some .cell)&&decide ((dH scope c.sc).names.lookup (c.nm.getD i Str.empty)=some .cell))&&
 decide ((x::fW c.nm caps).Nodup)&&(x::fW c.nm caps).all (sR (dH scope c.sc))&&(dH scope c.sc).names.all λy=>decide (y.2≠ .cell)||(fW c.nm caps).contains y.1
structure EK where
 es:List Expr:=[]
 x:Str:=Str.empty
 k:Nat:=0
 cst:Const:= .none
 sc:Scope:=default
 keys:List (Option Expr):=[]
 pl:Bool:=false
noncomputable def HX:List Comprehension->List Expr
 | []=>[]
 |g::_=>g.target::g.iter::g.ifs
noncomputable def zo:Option Expr->Expr
 |some e=>e
 |none=>default
noncomputable def ek:Expr->EK
 | .BoolOp _ es _=>{es:=es}
 | .BinOp l _ r _=>{es:=[l,r]}
 | .UnaryOp _ x _=>{es:=[x]}
 | .IfExp a b c _=>{es:=[a,b,c]}
 | .Dict ks vs _=>{es:=vs,keys:=ks}
 | .ListComp e gs sc _=>{es:=e::HX gs,sc:=sc}
 | .Compare l _ rs _=>{es:=l::rs}
 | .Call f as _ _=>{es:=f::as,pl:=true}
 | .Constant v k _=>{cst:=v,k:=k,pl:=true}
 | .Attribute v a _=>{es:=[v],x:=a,pl:=true}
 | .Subscript v s _=>{es:=[v,s],pl:=true}
 | .Name x _=>{x:=x,pl:=true}
 | .List es _=>{es:=es}
 | .Tuple es k _=>{es:=es,k:=k}
 | .Slice l u _ _=>{es:=[zo l,zo u]}
 |_=>{}
noncomputable def hd(l:List Expr):Expr:=l.headD default
noncomputable def bL(e:Expr)(n:Nat):Expr:=(ek e).es.getD n default
noncomputable def Cw(v:Const)(e:Expr):Expr:= .Constant v (ek e).k e.pos
noncomputable def KB{K:Type}(kc:K->Const):List K->List (Option Expr)->List (Option Expr)
 | [],_=>[]
 |k::ks,es=>some (Cw (kc k) (zo (es.headD none)))::KB kc ks es.tail
mutual
noncomputable def fB:IE->Ck->Expr->Expr
 | .k _,_,e=>Cw (ek e).cst e
 | .var i,c,e=> .Name (c.vn i) e.pos
 | .glob g,c,e=> .Name (c.gn g) e.pos
 | .bin op a b,c,e=> .BinOp (fB a c (bL e 0)) op (fB b c (bL e 1)) e.pos
 | .neg i,_,e=> .UnaryOp .USub (Cw (.int i) (bL e 0)) e.pos
 | .nt t,c,e=> .UnaryOp .Not (fB t c (bL e 0)) e.pos
 | .Td t a b,c,e=> .IfExp (fB t c (bL e 0)) (fB a c (bL e 1)) (fB b c (bL e 2)) e.pos
 | .lst l,c,e=> .List (fJ l c (ek e).es) e.pos
 | .tup l,c,e=> .Tuple (fJ l c (ek e).es) (ek e).k e.pos
 | .Tl ks l,c,e=> .Dict (KB .str ks (ek e).keys) (fJ l c (ek e).es) e.pos
 | .Tz ks l,c,e=> .Dict (KB .int ks (ek e).keys) (fJ l c (ek e).es) e.pos
 | .cmp op a b,c,e=> .Compare (fB a c (bL e 0)) [op] [fB b c (bL e 1)] e.pos
 | .Uh o p a b d,c,e=> .Compare (fB a c (bL e 0)) [o,p] [fB b c (bL e 1),fB d c (bL e 2)] e.pos
 | .and l,c,e=> .BoolOp .And (fJ l c (ek e).es) e.pos
 | .or l,c,e=> .BoolOp .Or (fJ l c (ek e).es) e.pos
 | .attr i n,c,e=> .Attribute (fB i c (bL e 0)) (AN.getD n Str.empty) e.pos
 | .sub i j,c,e=> .Subscript (fB i c (bL e 0)) (fB j c (bL e 1)) e.pos
 | .TL i lo hi,c,e=> .Subscript (fB i c (bL e 0)) (.Slice (QF lo c (bL (bL e 1) 0)) (QF hi c (bL (bL e 1) 1)) none (bL e 1).pos) e.pos
 | .Tf g args,c,e=> .Call (.Name (c.gn g) (bL e 0).pos) (fJ args c (ek e).es.tail) [] e.pos
 | .ccl g args,c,e=> .Call (.Name (c.gn g) (bL e 0).pos) (fJ args c (ek e).es.tail) [] e.pos
 | .sup g n args,c,e=> .Call (.Attribute (.Name (c.gn g) (bL (bL e 0) 0).pos) (AN.getD n Str.empty) (bL e 0).pos) (fJ args c (ek e).es.tail) [] e.pos
 | .blt _ g args,c,e=> .Call (.Name (c.gn g) (bL e 0).pos) (fJ args c (ek e).es.tail) [] e.pos
 | .TG o n args,c,e=> .Call (.Attribute (fB o c (bL (bL e 0) 0)) (AN.getD n Str.empty) (bL e 0).pos) (fJ args c (ek e).es.tail) [] e.pos
 | .stm m o args,c,e=> .Call (.Attribute (fB o c (bL (bL e 0) 0)) (Ot m) (bL e 0).pos) (fJ args c (ek e).es.tail) [] e.pos
 | .comp elt caps ik g src conds,c,e=> .ListComp (fB elt (vA c (ek e).sc (ek (bL e 1)).x caps) (bL e 0)) [⟨.Name (ek (bL e 1)).x (bL e 1).pos,
   (match ik with
    | .seq=>fB src c (bL e 2)
    |_=> .Call (.Name (c.gn g) (bL (bL e 2) 0).pos) [fB src c (bL (bL e 2) 1)] [] (bL e 2).pos),fJ conds (vA c (ek e).sc (ek (bL e 1)).x caps) ((ek e).es.drop 3),0⟩] (ek e).sc e.pos
noncomputable def fJ:List IE->Ck->List Expr->List Expr
 | [],_,_=>[]
 |i::l,c,es=>fB i c (hd es)::fJ l c es.tail
noncomputable def QF:Option IE->Ck->Expr->Option Expr
 |none,_,_=>none
 |some i,c,e=>some (fB i c e)
end
noncomputable def w8(e:Expr):Bool:=(ek e).pl
noncomputable def sK(i:IE):Bool:=i.casesOn (motive_1:=λ_=>Bool) (λ_=>true) (λ_=>true) (λ_=>true) (λ_ _ _=>true) (λ_=>true) (λ_=>true) (λ_ _ _=>true) (λ_=>true) (λ_=>true) (λ_ _=>true) (λ_ _=>true) (λ_ _ _=>true) (λ_ _ _ _ _=>true) (λ_=>true) (λ_=>true) (λ_ _=>true) (λ_ _=>true) (λ_ _ _=>true) (λ_ _=>true) (λ_ _=>true) (λ_ _ _=>true) (λ_ _ _=>true) (λ_ _ _=>true) (λ_ _ _=>true) (λ_ _ _ _ _ _=>false)
mutual
noncomputable def iy:IE->Ck->Expr->Bool
 | .k a,_,e=>constOk (ek e).cst a
 | .var i,c,_=>c.var i
 | .glob g,c,_=>c.glob g
 | .bin _ a b,c,e=>iy a c (bL e 0)&&iy b c (bL e 1)
 | .neg _,_,_=>true
 | .nt t,c,e=>iy t c (bL e 0)
 | .Td t a b,c,e=>DE t (iy t c (bL e 0)) c (bL e 0)&&(iy a c (bL e 1)&&iy b c (bL e 2))
 | .lst l,c,e=>gg l c (ek e).es
 | .tup l,c,e=>gg l c (ek e).es
 | .Tl ks l,c,e=>decide (ks.Nodup/\ks.length<=15/\ks.length=l.length)&&gg l c (ek e).es
 | .Tz ks l,c,e=>decide (ks.Nodup/\ks.length<=15/\ks.length=l.length)&&gg l c (ek e).es
 | .cmp op a b,c,e=> !behindInMarks op (fB b c (bL e 1))&&(iy a c (bL e 0)&&iy b c (bL e 1))
 | .Uh _ _ _ _ _,_,_=>false
 | .and l,c,e=>gg l c (ek e).es
 | .or l,c,e=>gg l c (ek e).es
 | .attr i _,c,e=>nJ (fB i c (bL e 0))&&iy i c (bL e 0)
 | .sub i j,c,e=>iy i c (bL e 0)&&iy j c (bL e 1)
 | .TL i lo hi,c,e=>iy i c (bL e 0)&&(Ip lo c (bL (bL e 1) 0)&&Ip hi c (bL (bL e 1) 1))
 | .Tf g args,c,e=>c.glob g&&gg args c (ek e).es.tail
 | .ccl g args,c,e=>c.glob g&&gg args c (ek e).es.tail
 | .sup g n args,c,e=>decide (n=44/\args.length<29/\((bL e 0).pos.endLine==e.pos.line)=true)&&(c.glob g&&gg args c (ek e).es.tail)
 | .blt b g args,c,e=>c.Tw g (BH b)&&gg args c (ek e).es.tail
 | .TG o _ args,c,e=>decide (nJ (fB o c (bL (bL e 0) 0))=true/\args.length<29/\((bL e 0).pos.endLine==e.pos.line)=true)&&(iy o c (bL (bL e 0) 0)&&gg args c (ek e).es.tail)
 | .stm _ o args,c,e=>decide (nJ (fB o c (bL (bL e 0) 0))=true/\args.length<29/\((bL e 0).pos.endLine==e.pos.line)=true)&&(iy o c (bL (bL e 0) 0)&&gg args c (ek e).es.tail)
 | .comp elt caps ik g src conds,c,e=>Df c (ek e).sc (ek (bL e 1)).x caps&&((match ik with
   | .seq=>iy src c (bL e 2)
   | .range=>c.Tw g (.type "range")&&iy src c (bL (bL e 2) 1)
   |_=>false)&&(iy elt (vA c (ek e).sc (ek (bL e 1)).x caps) (bL e 0)&&(zs conds (vA c (ek e).sc (ek (bL e 1)).x caps) ((ek e).es.drop 3)&&decide (conds.length<=1))))
noncomputable def gg:List IE->Ck->List Expr->Bool
 | [],_,_=>true
 |i::l,c,es=>iy i c (hd es)&&gg l c es.tail
noncomputable def Ip:Option IE->Ck->Expr->Bool
 |none,_,_=>true
 |some i,c,e=>iy i c e
noncomputable def DE:IE->Bool->Ck->Expr->Bool
 | .nt t,_,c,e=>DE t (iy t c (bL e 0)) c (bL e 0)
 | .and l,_,c,e=>zs l c (ek e).es
 | .or l,_,c,e=>zs l c (ek e).es
 | .Td t a b,_,c,e=>DE t (iy t c (bL e 0)) c (bL e 0)&&(DE a (iy a c (bL e 1)) c (bL e 1)&&DE b (iy b c (bL e 2)) c (bL e 2))
 | .cmp op a b,_,c,e=> !behindInMarks op (fB b c (bL e 1))&&(iy a c (bL e 0)&&iy b c (bL e 1))
 | .Uh o p a b d,_,c,e=> !lastMarks [o,p] [fB b c (bL e 1),fB d c (bL e 2)]&&(iy a c (bL e 0)&&(iy b c (bL e 1)&&iy d c (bL e 2)))
 |i,w,c,e=>w8 (fB i c e)&&w
noncomputable def zs:List IE->Ck->List Expr->Bool
 | [],_,_=>true
 |i::l,c,es=>DE i (iy i c (hd es)) c (hd es)&&zs l c es.tail
end
end
end Mine
namespace Mine
section
open PySem PySem.W PySem.Calls PyProof.Rows PySem.SeqAt
set_option maxRecDepth 1000000
theorem jx{p:Prop}(h:false=true):p:=(Bool.false_ne_true h).elim
theorem an(h:(a&&b)=true):a=true/\b=true:=bG h
theorem pe(i)(c)(e):Cd (fB i c e):=λr env=>by cases i<;>rfl
theorem wd(i)(c)(e)(env)(x):foldedSetIterable (fB i c e) env x=pure x:=by cases i<;>rfl
theorem tJ(h:w8 e=true)(env)(whole:Sem Value):isTrue e env whole=(do let v<-whole;standAt e.pos;holding [v] (truthy v)):=by
 cases e<;>first|rfl|exact jx h
theorem dU: ∀(l:List IE) (c:Ck) (es:List Expr),cv (fJ l c es)
 | [],_,_=>trivial
 |i::l,c,es=>⟨pe i c _,dU l c es.tail⟩
theorem qU: ∀(l:List IE) (c:Ck) (es:List Expr),(fJ l c es).length=l.length
 | [],_,_=>rfl
 |i::l,c,es=>ac (· +1) (qU l c es.tail)
theorem mS{K:Type}(kc:K->Const): ∀(ks:List K) (es:List (Option Expr)),((KB kc ks es).all (·.isSome)=true)/\(KB kc ks es).length=ks.length
 | [],_=>⟨rfl,rfl⟩
 |k::ks,es=>⟨(mS kc ks es.tail).1,ac (· +1) (mS kc ks es.tail).2⟩
theorem o8:(λs=>ao (br T gl [i] s) f)=λs=>ao (aw T gl i s) λx s=>f [x] s:=by
 funext s;show ao (ao (aw T gl i s) λv s=>ao (some (.ok [],s)) λvs s=>some (.ok (v::vs),s)) f=_;cases aw T gl i s with
 |none=>rfl
 |some p=>
  obtain⟨r,s1⟩:=p;cases r<;>rfl
section
variable {w:World} {Bs:Base w} {X:Cx}
structure Ctx (Bs:Base w) (X:Cx) (c:Ck):Prop where
 ok:X.Ok Bs
 sc:X.env.scope=c.sc
 nm:X.nm=c.nm
 gl:X.gl=c.gl
theorem Ctx.kind(H:Ctx Bs X c)(x:Str):X.env.kindOf x=c.kind x:=by
 show X.env.scope.names.lookup x=_;rw[H.sc];rfl
theorem r4{α:Type}{l:List α}{d:α}{i}(h:i<l.length):l[i]?=some (l.getD i d):=by
 rw[List.getD_eq_getElem?_getD,List.getElem?_eq_getElem h];rfl
theorem Ctx.var{c}(H:Ctx Bs X c){i:Nat}(h:c.var i=true):X.nm[i]?=some (c.vn i):=H.nm▸r4 (aT h)
theorem Ctx.glob{c}(H:Ctx Bs X c){g}(h:c.glob g=true):X.gl[g]?=some (c.gn g,(c.gl.getD g (Str.empty,.none)).2)/\X.env.kindOf (c.gn g)=some .globalImplicit:=
 ⟨(ac (·[g]?) H.gl).trans (r4 (d:=(Str.empty,AV.none)) (aT (an h).1)),(H.kind _).trans (aT (an h).2)⟩
theorem Ctx.Tw(H:Ctx Bs X c)(h:c.Tw g v=true):X.gl[g]?=some (c.gn g,.cst v)/\X.env.kindOf (c.gn g)=some .globalImplicit:=
 u6 (an h).2▸H.glob (an h).1
theorem Ctx.TQ(H:Ctx Bs X c)(h:c.Tw g v=true):qm Bs X X.env (c.gn g) np v:=λst G ρ A s hA hI Q E q=>hZ H.ok (H.Tw h).1 (H.Tw h).2 hI q
theorem zG{p}{T}{gl}{env}(h:constOk c a=true):SE Bs X (λ_ _=>True) (wp Bs (eval (.Constant c k p) env)) (aw T gl (.k a)) (VR (w:=w)):=by
 refine DB ?_;cases c<;>first|exact jx h|skip
 case none=>exact λA G ρ s Q E q=>wpAny_Constant_none (q _ s.toks (tU h▸rfl))
 case bool b=>exact Th h (λb' e h A G ρ s Q E q=>wpAny_Constant_bool (q _ s.toks (qN e▸ac Value.bool (eq_of_beq h)))) ft
 case int i=>exact Th h (λj e h A G ρ s Q E q=>wpAny_Constant_int (q _ _ (jl e▸⟨_,ac (Value.int · _) (aT h)⟩))) ft
 case str i=>exact Th h (λj e h A G ρ s Q E q=>wpAny_Constant_str (q _ _ (yv e▸⟨_,ac (Value.str · _) (aT h)⟩))) ft
 case bytes i=>exact Th h (λj e h A G ρ s Q E q=>Constant_bytes (q _ _ (Bz e▸⟨_,ac (λx:List UInt8=>Value.bytes x.toArray _) (aT h)⟩))) ft
noncomputable def BA(env:Env):Str×NameKind->List (Str×Addr)->Sem (ForInStep (List (Str×Addr))):=λx r=>match x with|(name,kind)=>if(kind== .free)=true then do let c<-cellOf env name;pure (ForInStep.yield ((name,c)::r)) else pure (ForInStep.yield r)
theorem l5{α β:Type}{f:α->β->Sem (ForInStep β)}{p:α}{l:List α}{a b:β}(e:f p a=pure (.yield b)):forIn (p::l) a f=forIn l b f:=by rw[List.forIn_cons,e];rfl
theorem yL{k}{acc}(q:(k== .free)=false):BA env (n,k) acc=pure (.yield acc):=if_neg (λh=>tf (h.symm.trans q))
theorem BV{k}{acc}(q:(k== .free)=true)(ha:env.cells.lookup n=some a):BA env (n,k) acc=pure (.yield ((n,a)::acc)):=(if_pos q).trans (by unfold cellOf;rw[ha];rfl)
theorem Ht{env:Env}{names:List (Str×NameKind)}(acc:List (Str×Addr)):names.filter (λp=>p.2== .free)=[]->forIn names acc (BA env)=pure acc:=by
 induction names with
 |nil=>exact λ_=>rfl
 |cons p l ih=>
  intro h;have z:=List.filter_eq_nil_iff.mp h;exact(l5 (yL (Bool.eq_false_iff.mpr (z p (.head _))))).trans (ih (List.filter_eq_nil_iff.mpr λa ha=>z a (.tail _ ha)))
theorem NN{env:Env}{y:Str}{a:Addr}(ha:env.cells.lookup y=some a){names:List (Str×NameKind)}(acc:List (Str×Addr)):(names.filter (λp=>p.2== .free)).map (·.1)=[y]->forIn names acc (BA env)=pure ((y,a)::acc):=by
 induction names with
 |nil=>exact N5
 |cons p l ih=>
  intro h;cases q:p.2==NameKind.free with
  |true=>
   have h':=(ac (List.map (·.1)) (List.filter_cons_of_pos (l:=l) q)).symm.trans h;exact(l5 (BV q ((List.cons.inj h').1.symm▸ha))).trans (((List.cons.inj h').1:p.1=y)▸Ht _ (List.map_eq_nil_iff.mp (List.cons.inj h').2))
  |false=>exact(l5 (yL q)).trans (ih ((ac (List.map (·.1)) (List.filter_cons_of_neg (l:=l) (λz=>tf (z.symm.trans q)))).symm.trans h))
theorem yZ(h:forIn scope.names [] (BA env)=pure r):closureFor scope env=pure r:=(ac (· >>=λcs=>pure cs) h:_)
theorem lookup_mem{l:List (Str×Addr)}{y:Str}{b:Addr}:(y,b)∈l-> ∃a,l.lookup y=some a:=by
 induction l with
 |nil=>exact fP
 |cons p l ih=>
  intro h;rw[List.lookup_cons];cases q:y==p.1 with
  |true=>exact⟨p.2,rfl⟩
  |false=>exact(cW h).elim (λz=>tf ((z▸beq_self_eq_true y:(y==p.1)=true).symm.trans q)) ih
theorem lf{c:Ck}{scope:Scope}(h:X.env.scope=c.sc):relabel scope X.env=dH scope c.sc:=by
 unfold relabel dH Env.kindOf;rw[h]
section
variable {c:Ck} (H:Ctx Bs X c) {scope:Scope} {x:Str} {caps:List Nat} (h:Df c scope x caps=true)
include H h
omit H in
theorem mJ:(scope.kind= .function/\(∀y∈scope.names,y.2≠ .cell)/\(∀y∈scope.names,y.2= .local->scope.names.lookup y.1=some .local)/\scope.names.lookup x=some .local)/\(caps.length<=1/\frees scope=fW c.nm caps/\ ∀i∈caps,c.var i=true/\c.kind (c.vn i)=some .cell/\(dH scope c.sc).names.lookup (c.vn i)=some .cell)/\
  (x::fW c.nm caps).Nodup/\(∀y∈x::fW c.nm caps,sR (dH scope c.sc) y=true)/\ ∀y,(y,NameKind.cell)∈(dH scope c.sc).names->y∈fW c.nm caps:=
 have h9:=an h;have h8:=an h9.1;have h7:=an h8.1;have h6:=an h7.1;have h5:=an h6.1;have h4:=an h5.1;have h3:=an h4.1;have h2:=an h3.1;have h1:=an h2.1
 ⟨⟨aT h1.1,λy hy=>aT (gj h1.2 y hy),λy hy e=>(Bool.or_eq_true_iff.mp (gj h2.2 y hy)).elim (λq=>absurd e (aT q)) aT,aT h3.2⟩,
  ⟨aT h4.2,aT h5.2,λi hi=>have z:=an (gj h6.2 i hi);⟨(an z.1).1,aT (an z.1).2,aT z.2⟩⟩,
  aT h7.2,gj h8.2,λy hy=>(Bool.or_eq_true_iff.mp (gj h9.2 _ hy)).elim (λq=>absurd rfl (aT q)) λq=>List.contains_iff_mem.mp q⟩
theorem Eb: ∃cl:List (Str×Addr),closureFor scope X.env=pure cl/\cl.map (·.1)=fW c.nm caps/\(∀p∈cl,X.env.cells.lookup p.1=some p.2)/\(cl=[]\/ ∃x c,cl=[(x,c)]):=by
 obtain⟨h5,h6,h7⟩:=(mJ h).2.1;clear h;cases caps with
 |nil=>exact⟨[],yZ (Ht _ (List.map_eq_nil_iff.mp h6)),rfl,λp e=>fP e,.inl rfl⟩
 |cons i l=>cases l with
  |nil=>exact(H.ok.Uz _ ((H.kind _).trans (h7 i (.head _)).2.1)).elim λa ha=>⟨[(c.vn i,a)],yZ (NN ha _ h6),rfl,λp e=>dt e▸ha,.inr ⟨_,_,rfl⟩⟩
  |cons j l=>exact absurd h5 (Nat.not_le.mpr (Nat.succ_lt_succ (Nat.succ_pos _)))
theorem GF{cl:List (Str×Addr)}(c2:cl.map (·.1)=fW c.nm caps)(c5:cl=[]\/ ∃x c,cl=[(x,c)])(C:Addr):(j6 X scope cl C (x::fW c.nm caps)).Ok Bs:=by
 obtain⟨⟨h1,_⟩,_,h8,h9,h10⟩:=mJ h;have kd: ∀y,(j6 X scope cl C (x::fW c.nm caps)).env.kindOf y=(dH scope c.sc).names.lookup y:=λy=>ac (λs:Scope=>s.names.lookup y) (lf H.sc);refine⟨(ac Scope.kind (lf (X:=X) (scope:=scope) H.sc)).trans h1,H.ok.gl,H.ok.bl,h8,λy hy=>have z:=an (h9 y hy)
  have z1:=an z.1
  ⟨aT z1.1,aT z1.2,(Bool.or_eq_true_iff.mp z.2).elim (λq=>(Bool.or_eq_true_iff.mp q).imp (λq=>(kd y).trans (aT q)) λq=> .inl ((kd y).trans (aT q))) λq=> .inr (.inr ((kd y).trans (aT q)))⟩,H.ok.UU,H.ok.fr,c5,H.ok.V1,λy hy=> ?_⟩
 obtain⟨p,hp,e⟩:=List.mem_map.mp (c2▸h10 y (mem_lookup ((kd y).symm.trans hy)));exact lookup_mem (y:=y) (b:=p.2) (e▸hp)
theorem DV: ∃cl,tm Bs X scope cl x (fW c.nm caps) caps/\ ∀C,Ctx Bs (j6 X scope cl C (x::fW c.nm caps)) (vA c scope x caps):=by
 obtain⟨cl,c1,c2,c4,c5⟩:=Eb H h;obtain⟨⟨h1,h2,h3,h4⟩,⟨_,_,h7⟩,_⟩:=mJ h;have ok:=GF H h c2 c5;have rl:=lf (X:=X) (scope:=scope) H.sc;have c3: ∀y a,cl.lookup y=some a->X.env.cells.lookup y=some a:=λy a e=>c4 _ (mem_lookup e);refine⟨cl,⟨ok,h1,h2,h3,lookup_relabel_local h4,c1,(List.length_map ..).symm,λj i y hj hy=> ?_,c3,λa ha=> ?_⟩,λC=>⟨ok C,rl,rfl,H.gl⟩⟩
 ·obtain rfl:c.vn i=y:=aC ((ac (Option.map _) hj).symm.trans (List.getElem?_map.symm.trans hy));have z:=h7 i (gz hj);have zr:(relabel scope X.env).names.lookup (c.vn i)=some .cell:=(ac (λs:Scope=>s.names.lookup (c.vn i)) rl).trans z.2.2;exact⟨H.var z.1,(H.kind _).trans z.2.1,zr,((ok 0).Uz (c.vn i) zr).elim λb hb=>(hb:cl.lookup _=some b).trans (c3 _ _ hb).symm⟩
 ·exact(List.mem_map.mp ha).elim λp z=>z.2▸List.mem_map.mpr ⟨_,mem_lookup (c4 _ z.1),rfl⟩
end
end
end
end Mine
namespace Mine
section
open PySem PySem.W PySem.Calls PyProof.Rows PySem.SeqAt
set_option genInjectivity false
set_option genSizeOf false
set_option maxHeartbeats 400000
set_option maxRecDepth 1000000
section
variable {w:World} {Bs:Base w} {T:Tb} {lv:Nat} (hT: ∀Y:Cx,Y.lvl=lv->AC Bs Y T)
abbrev SV(Bs:Base w)(T:Tb)(X:Cx)(e:Expr)(i:IE):Prop:=SE Bs X (λ_ _=>True) (wp Bs (eval e X.env)) (aw T X.gl i) (VR (w:=w))
abbrev ST(Bs:Base w)(T:Tb)(X:Cx)(e:Expr)(i:IE):Prop:=SE Bs X (λ_ _=>True) (wp Bs (isTrue e X.env (eval e X.env))) (cg T X.gl i (aw T X.gl i)) BR
theorem PU(h:(!b)=true):b=false:=by cases b;rfl;exact jx h
def EP(Bs:Base w)(T:Tb)(lv:Nat)(i:IE):Prop:= ∀{c:Ck} {X:Cx} (e:Expr),Ctx Bs X c->X.lvl=lv->iy i c e=true->SV Bs T X (fB i c e) i
def TP(Bs:Base w)(T:Tb)(lv:Nat)(i:IE):Prop:= ∀{c:Ck} {X:Cx} (e:Expr),Ctx Bs X c->X.lvl=lv->DE i (iy i c e) c e=true->ST Bs T X (fB i c e) i
structure LP (Bs:Base w) (T:Tb) (lv:Nat) (l:List IE):Prop where
 es: ∀{c:Ck} {X:Cx} (es:List Expr) {p:Pos},Ctx Bs X c->X.lvl=lv->gg l c es=true->SE Bs X (λ_ _=>True) (wp Bs (spliced (backTo p (starEach (fJ l c es) X.env)))) (br T X.gl l) (vL (w:=w))
 prs: ∀{K:Type} [DecidableEq K] {knd:PySem.KeyKind Bs.prog w K} {kc:K->Const},(∀(k:K) n kp env A (Q:bS) E s,(∀v tk,knd.is k v=true->Q v {s with toks:=tk})->wpAny (model Bs.prog w) A (eval (.Constant (kc k) n kp) env) Q E s)-> ∀(ks:List K) (keys:List (Option Expr)) {c:Ck} {X:Cx} (es:List Expr) {p:Pos},Ctx Bs X c->X.lvl=lv->ks.length=l.length->gg l c es=true->
  SE Bs X (λ_ _=>True) (wp Bs (evalPairs (pairTrees (KB kc ks keys) (fJ l c es) X.env p))) (br T X.gl l) (Lu knd ks)
 and: ∀{c:Ck} {X:Cx} (es:List Expr) {p:Pos},Ctx Bs X c->X.lvl=lv->gg l c es=true->SE Bs X (λ_ _=>True) (wp Bs (eval (.BoolOp .And (fJ l c es) p) X.env)) (th T X.gl l) (VR (w:=w))
 or: ∀{c:Ck} {X:Cx} (es:List Expr) {p:Pos},Ctx Bs X c->X.lvl=lv->gg l c es=true->SE Bs X (λ_ _=>True) (wp Bs (eval (.BoolOp .Or (fJ l c es) p) X.env)) (Fh T X.gl l) (VR (w:=w))
 VA: ∀{c:Ck} {X:Cx} (es:List Expr),Ctx Bs X c->X.lvl=lv->zs l c es=true->l.length<=1->SE Bs X (λ_ _=>True) (jL Bs (fJ l c es) X.env) (fF T X.gl l) BR
 ts: ∀{c:Ck} {X:Cx} (es:List Expr) {p:Pos} {op:BoolOp} {whole:Sem Value},Ctx Bs X c->X.lvl=lv->zs l c es=true->SE Bs X (λ_ _=>True) (wp Bs (isTrue (.BoolOp op (fJ l c es) p) X.env whole)) (vp T X.gl (op== .And) l) BR
def OP(Bs:Base w)(T:Tb)(lv:Nat)(o:Option IE):Prop:= ∀{c:Ck} {X:Cx} (e:Expr),Ctx Bs X c->X.lvl=lv->Ip o c e=true->SE Bs X (λ_ _=>True) (wp Bs (evalPart (QF o c e) X.env)) (zF T X.gl o) OR
def IP(Bs:Base w)(T:Tb)(lv:Nat)(i:IE):Prop:=EP Bs T lv i/\TP Bs T lv i
theorem pl{i}(h:EP Bs T lv i)(ho: ∀b c e,DE i b c e=(w8 (fB i c e)&&b))(ht: ∀gl w,cg T gl i w=λs=>ao (w s) λv s=>bo s v.b):IP Bs T lv i:=
 ⟨h,fun{c X} e H hl q=>by
  rw[ho] at q;show SE _ _ _ _ _ _;rw[ht];exact Be (tJ (an q).1 _ _) (h e H hl (an q).2)⟩
include hT
theorem B8:LP Bs T lv []:=by
 refine⟨λes p H hl h=>Bg,fun{K} _ {knd kc} hk ks keys {c X} es p H hl q h=> ?_,λes p H hl h st r st' hm=>aB hm,λes p H hl h st r st' hm=>aB hm,λes H hl h hn=>zj,λes p op whole H hl h=>EY⟩;cases ks with
 |nil=>exact AW (knd:=knd) (p:=p)
 |cons _ _=>exact nomatch q
theorem yA(i)(l)(hi:IP Bs T lv i)(hl:LP Bs T lv l):LP Bs T lv (i::l):=by
 refine⟨fun{c X} es p H hv h=>yg (pe i c (hd es) (fJ l c es.tail) X.env) (hi.1 _ H hv (an h).1) (hl.es es.tail H hv (an h).2),fun{K} _ {knd kc} hk ks keys {c X} es p H hv q h=> ?_,λes p H hv h=> ?_,λes p H hv h=> ?_,λes H hv h hn=> ?_,λes p op whole H hv h=>DM (hi.2 _ H hv (an h).1) (hl.ts es.tail H hv (an h).2)⟩
 ·cases ks with
  |nil=>exact nomatch q
  |cons k ks=>exact CS (kc:=kc) (hk k _ _ _) (hi.1 _ H hv (an h).1) (hl.prs hk ks keys.tail es.tail H hv (Nat.succ.inj q) (an h).2)
 ·cases l with
  |nil=>exact Es (hi.1 _ H hv (an h).1)
  |cons j l=>exact GE (hi.1 _ H hv (an h).1) (hl.and es.tail H hv (an h).2)
 ·cases l with
  |nil=>exact H2 (hi.1 _ H hv (an h).1)
  |cons j l=>exact Kf (hi.1 _ H hv (an h).1) (hl.or es.tail H hv (an h).2)
 ·cases l with
  |nil=>exact AH (hi.2 _ H hv (an h).1)
  |cons j l=>exact absurd hn (Nat.not_le.mpr (Nat.succ_lt_succ (Nat.succ_pos _)))
section
variable {K:Type} [DecidableEq K] {knd:PySem.KeyKind Bs.prog w K} {kc:K->Const} (hk: ∀(k:K) n kp env A (Q:bS) E s,(∀v tk,knd.is k v=true->Q v {s with toks:=tk})->wpAny (model Bs.prog w) A (eval (.Constant (kc k) n kp) env) Q E s) {mk:List K->aV->AO} (hf: ∀ks as q,fp (mk ks as) q=[q.1])
 (hr: ∀(G:Gm) ρ h (a:Addr) kvs as ks,(a==sysModules)=false->h.DictOf knd a kvs->kvs.map (·.1)=ks->ag w G ρ as (kvs.map (·.2))->dh w G ρ h (mk ks as) (a,0)) {ks:List K} {l:List IE} (ih:LP Bs T lv l)
include hk hf hr ih
theorem xX{c}{X}(e)(H:Ctx Bs X c)(hl:X.lvl=lv)(h:(decide (ks.Nodup/\ks.length<=15/\ks.length=l.length)&&gg l c (ek e).es)=true):
  SE Bs X (λ_ _=>True) (wp Bs (eval (.Dict (KB kc ks (ek e).keys) (fJ l c (ek e).es) e.pos) X.env)) (λs=>ao (br T X.gl l s) λvs s=>xB (ks.length==vs.length) s (mk ks vs)) (VR (w:=w)):=
 have h1:=aT (an h).1;have f:=mS kc ks (ek e).keys
 ET (mk:=mk) (hf ks) (λG ρ h a kvs as=>hr G ρ h a kvs as ks) h1.1 f.1 ((f.2.trans h1.2.2).trans (qU l c _).symm) (bz (Nat.le_of_eq f.2) h1.2.1) (λq=>⟨List.length_eq_zero_iff.mp (f.2.symm.trans (ac List.length q)),List.length_eq_zero_iff.mp ((f.2.trans h1.2.2).symm.trans (ac List.length q))⟩) (ih.prs hk ks (ek e).keys _ H hl h1.2.2 (an h).2)
end
theorem Jx{elt src}{caps}{ik}{g}{conds}(ie:IP Bs T lv elt)(is:IP Bs T lv src)(ic:LP Bs T lv conds):EP Bs T lv (.comp elt caps ik g src conds):=fun{c X} e H hl h=>by
 obtain⟨cl,CO,HC⟩:=DV H (an h).1;have h2:=(an (an h).2).2;have e1:=λC=>ie.1 (bL e 0) (HC C) hl (an h2).1;have e2:=λC=>ic.VA ((ek e).es.drop 3) (HC C) hl (an (an h2).2).1 (aT (an (an h2).2).2);have h3:=(an (an h).2).1;cases ik with
 |enum=>exact jx h3
 |zip=>exact jx h3
 |seq=>exact yF CO e1 e2 (wd src c _ _) (x7 (λ_ _=>rfl) (is.1 _ H hl h3))
 |range=>
  have ps:=pe src c (bL (bL e 2) 1);have z:=xW (go:=λ_ _=>pure ()) (np:=(bL (bL e 2) 0).pos) (p:=(bL e 2).pos) (λ_ _=>rfl) (es:=[fB src c (bL (bL e 2) 1)]) ⟨ps,trivial⟩ (H.TQ (an h3).1) (yg (ps [] X.env) (is.1 _ H hl (an h3).2) Bg);rw[o8] at z;exact yF CO e1 e2 (λ_=>rfl) z
theorem HS(i):IP Bs T lv i:=
 IE.rec (motive_1:=IP Bs T lv) (motive_2:=LP Bs T lv) (motive_3:=OP Bs T lv)
  (λa=>pl (λe H hl h=>zG h) (λ_ _ _=>rfl) λ_ _=>rfl)
  (λi=>pl (λe H hl h=>Io H.ok (H.var h)) (λ_ _ _=>rfl) λ_ _=>rfl)
  (λi=>pl (λe H hl h=>ER H.ok (H.glob h).1 (H.glob h).2) (λ_ _ _=>rfl) λ_ _=>rfl)
  (λop a b ia ib=>pl (λe H hl h=>IA (ia.1 _ H hl (an h).1) (ib.1 _ H hl (an h).2)) (λ_ _ _=>rfl) λ_ _=>rfl)
  (λi=>pl (λe H hl h=>Kp) (λ_ _ _=>rfl) λ_ _=>rfl)
  (λt it=>⟨λe H hl h=>JM (it.1 _ H hl h),λe H hl h=>GN (it.2 _ H hl h)⟩)
  (λt a b it ia ib=>⟨λe H hl h=>IB (it.2 _ H hl (an h).1) (ia.1 _ H hl (an (an h).2).1) (ib.1 _ H hl (an (an h).2).2),λe H hl h=>El (it.2 _ H hl (an h).1) (ia.2 _ H hl (an (an h).2).1) (ib.2 _ H hl (an (an h).2).2)⟩)
  (λl il=>pl (λe H hl h=>EG (il.es _ H hl h)) (λ_ _ _=>rfl) λ_ _=>rfl)
  (λl il=>pl (λe H hl h=>B7 (il.es _ H hl h)) (λ_ _ _=>rfl) λ_ _=>rfl)
  (λks l il=>pl (λe H hl h=>xX hT (kc:= .str) (mk:= .Tl) (λk n kp env A Q E s q=>wpAny_Constant_str (q _ _ (bU rfl))) (λ_ _ _=>rfl) (λG ρ h a kvs as ks ns d e r=>FF ns d e r) il e H hl h) (λ_ _ _=>rfl) λ_ _=>rfl)
  (λks l il=>pl (λe H hl h=>xX hT (kc:= .int) (mk:= .Tz) (λk n kp env A Q E s q=>wpAny_Constant_int (q _ _ (bU rfl))) (λ_ _ _=>rfl) (λG ρ h a kvs as ks ns d e r=>FG ns d e r) il e H hl h) (λ_ _ _=>rfl) λ_ _=>rfl)
  (λop a b ia ib=>⟨λe H hl h=>HG (PU (an h).1) (ia.1 _ H hl (an (an h).2).1) (ib.1 _ H hl (an (an h).2).2),λe H hl h=>DY (PU (an h).1) (ia.1 _ H hl (an (an h).2).1) (ib.1 _ H hl (an (an h).2).2)⟩)
  (λo1 o2 a b d ia ib id=>⟨λe H hl h=>jx h,λe H hl h=>Ki (PU (an h).1) (ia.1 _ H hl (an (an h).2).1) (ib.1 _ H hl (an (an (an h).2).2).1) (id.1 _ H hl (an (an (an h).2).2).2)⟩)
  (λl il=>⟨λe H hl h=>il.and _ H hl h,λe H hl h=>il.ts _ H hl h⟩)
  (λl il=>⟨λe H hl h=>il.or _ H hl h,λe H hl h=>il.ts _ H hl h⟩)
  (λi n ii=>pl (λe H hl h=>Ee rfl (wq (an h).1 _ _ _) (ii.1 _ H hl (an h).2)) (λ_ _ _=>rfl) λ_ _=>rfl)
  (λi j ii ij=>pl (λe H hl h=>Ib (ii.1 _ H hl (an h).1) (ij.1 _ H hl (an h).2)) (λ_ _ _=>rfl) λ_ _=>rfl)
  (λi lo hi ii ilo ihi=>pl (λe H hl h=>Kb (ii.1 _ H hl (an h).1) (ilo _ H hl (an (an h).2).1) (ihi _ H hl (an (an h).2).2)) (λ_ _ _=>rfl) λ_ _=>rfl)
  (λg args il=>pl (fun{c X} e H hl h=>HK H.ok (hT X hl) (H.glob (an h).1).1 (H.glob (an h).1).2 (dU args c _) (il.es _ H hl (an h).2)) (λ_ _ _=>rfl) λ_ _=>rfl)
  (λg args il=>pl (fun{c X} e H hl h=>Il H.ok (hT X hl) (H.glob (an h).1).1 (H.glob (an h).1).2 (dU args c _) (il.es _ H hl (an h).2)) (λ_ _ _=>rfl) λ_ _=>rfl)
  (λg n args il=>pl (fun{c X} e H hl h=>by
   obtain⟨rfl,q3,q4⟩:=aT (an h).1;exact HP H.ok (hT X hl) (H.glob (an (an h).2).1).1 (H.glob (an (an h).2).1).2 (dU args c _) (il.es _ H hl (an (an h).2).2) rfl (Nat.lt_of_le_of_lt (Nat.le_of_eq (qU args c _)) q3) q4) (λ_ _ _=>rfl) λ_ _=>rfl)
  (λb g args il=>pl (fun{c X} e H hl h=>Jd (dU args c _) (H.TQ (an h).1) (il.es _ H hl (an h).2)) (λ_ _ _=>rfl) λ_ _=>rfl)
  (λo n args io il=>pl (fun{c X} e H hl h=>have q:=aT (an h).1;Jv (hT X hl) rfl q.1 (dU args c _) (Nat.lt_of_le_of_lt (Nat.le_of_eq (qU args c _)) q.2.1) q.2.2 (io.1 _ H hl (an (an h).2).1) (il.es _ H hl (an (an h).2).2)) (λ_ _ _=>rfl) λ_ _=>rfl)
  (λm o args io il=>pl (fun{c X} e H hl h=>have q:=aT (an h).1;JG rfl q.1 (dU args c _) (Nat.lt_of_le_of_lt (Nat.le_of_eq (qU args c _)) q.2.1) q.2.2 (io.1 _ H hl (an (an h).2).1) (il.es _ H hl (an (an h).2).2)) (λ_ _ _=>rfl) λ_ _=>rfl)
  (λelt caps ik g src conds ie is ic=>pl (Jx hT ie is ic) (λ_ _ _=>rfl) λ_ _=>rfl)
  (B8 hT) (yA hT) (fun{c X} e H hl h=>A4) (λi ii {c X} e H hl h=>B5 (ii.1 _ H hl h)) i
theorem xx(i):EP Bs T lv i:=(HS hT i).1
theorem Mv(i):TP Bs T lv i:=(HS hT i).2
theorem IN(l):LP Bs T lv l:=by
 induction l with
 |nil=>exact B8 hT
 |cons i l ih=>exact yA hT i l (HS hT i) ih
end
mutual
noncomputable def A5:IT->Ck->Expr->Expr
 | .var i,c,e=> .Name (c.vn i) e.pos
 | .attr i n,c,e=> .Attribute (fB i c (bL e 0)) (AN.getD n Str.empty) e.pos
 | .sub i j,c,e=> .Subscript (fB i c (bL e 0)) (fB j c (bL e 1)) e.pos
 | .tup l,c,e=> .Tuple (GR l c (ek e).es) (ek e).k e.pos
noncomputable def GR:List IT->Ck->List Expr->List Expr
 | [],_,_=>[]
 |t::l,c,es=>A5 t c (hd es)::GR l c es.tail
end
noncomputable def Pi(t:IT)(c:Ck)(e:Expr):Bool:=match t with
 | .var i=>c.var i&&(decide (c.kind (c.vn i)=some .local)||decide (c.kind (c.vn i)=some .cell))
 | .attr i _=>iy i c (bL e 0)
 | .sub i j=>iy i c (bL e 0)&&iy j c (bL e 1)
 | .tup _=>false
noncomputable def JX:List IT->Ck->List Expr->Bool
 | [],_,_=>true
 |t::l,c,es=>Pi t c (hd es)&&JX l c es.tail
noncomputable def JE(t:IT)(c:Ck)(e:Expr):Bool:=match t with
 | .tup l=>JX l c (ek e).es
 |t=>Pi t c e
noncomputable def envOf(sc:Scope):Env:={scope:=sc,locals:=0,globals:=0,cells:=[]}
noncomputable def pureOf{α:Type}(m:Sem α):Option α:=m.casesOn (motive:=λ_=>Option α) some (λ_=>none) (λ_=>none) (λ_=>none) (λ_ _=>none) (λ_ _=>none) (λ_ _ _=>none) (λ_ _ _ _=>none) (λ_ _=>none) (λ_ _=>none) (λ_ _=>none) (λ_ _=>none) (λ_=>none) (λ_=>none) (λ_ _ _=>none) (λ_ _ _=>none) (λ_ _ _ _ _=>none) (λ_ _=>none) (λ_ _=>none) (λ_ _=>none) (λ_ _ _ _=>none) (λ_ _ _ _=>none) (λ_=>none) (λ_ _=>none) (λ_=>none) (λ_ _ _ _ _=>none)
theorem zy{α:Type}{m:Sem α}{a:α}:pureOf m=some a->m=pure a:=m.casesOn (motive:=λm=>pureOf m=some a->m= .pure a) (λ_ h=>ac _ (aC h)) (λ_=>aB) (λ_=>aB) (λ_=>aB) (λ_ _=>aB) (λ_ _=>aB) (λ_ _ _=>aB) (λ_ _ _ _=>aB) (λ_ _=>aB) (λ_ _=>aB) (λ_ _=>aB) (λ_ _=>aB) (λ_=>aB) (λ_=>aB) (λ_ _ _=>aB) (λ_ _ _=>aB) (λ_ _ _ _ _=>aB) (λ_ _=>aB) (λ_ _=>aB) (λ_ _=>aB) (λ_ _ _ _=>aB) (λ_ _ _ _=>aB) (λ_=>aB) (λ_ _=>aB) (λ_=>aB) (λ_ _ _ _ _=>aB)
theorem KC(ts)(v)(env):swappedStores ts v env=swappedStores ts v (envOf env.scope):=rfl
noncomputable def IT.v?(t:IT):Option Nat:=t.casesOn (motive_1:=λ_=>Option Nat) some (λ_=>none) (λ_ _=>none) λ_ _=>none
noncomputable def IT.t?(t:IT):Option (List IT):=t.casesOn (motive_1:=λ_=>Option (List IT)) (λ_=>none) some (λ_ _=>none) λ_ _=>none
theorem IT.Ue{t:IT}:t.t?=some i->t= .tup i:=t.casesOn (motive_1:=λt=>t.t?=some i->t= .tup i) (λ_=>aB) (λ_ h=>ac _ (aC h)) (λ_ _=>aB) λ_ _=>aB
theorem IT.v_eq{t:IT}:t.v?=some i->t= .var i:=t.casesOn (motive_1:=λt=>t.v?=some i->t= .var i) (λ_ h=>ac _ (aC h)) (λ_=>aB) (λ_ _=>aB) λ_ _=>aB
noncomputable def gJ(l:List IT):List Nat:=l.filterMap IT.v?
noncomputable def yn(l:List IT):Bool:=l.all λt=>t.v?.isSome
theorem Al{l:List IT}:yn l=true->l=(gJ l).map .var:=by
 induction l with
 |nil=>exact λ_=>rfl
 |cons t l ih=>
  intro h;obtain⟨i,e⟩:=Option.isSome_iff_exists.mp (an h).1;exact(congr (ac List.cons (IT.v_eq e)) (ih (an h).2)).trans (ac (List.map IT.var) (List.filterMap_cons_some e)).symm
noncomputable def P8(c:Ck)(te v:Expr):Option (Option (List Str)):=pureOf (swappedStores [te] v (envOf c.sc))
noncomputable def Hz(c:Ck)(te v:Expr):Bool:=(P8 c te v).elim false Option.isNone
noncomputable def Dd(c:Ck)(l:List IT)(te v:Expr):Bool:=yn l&&(decide ((gJ l).Nodup/\((gJ l).length=2\/(gJ l).length=3))&&((gJ l).all (λi=>c.var i&&decide (c.kind (c.vn i)=some .local))&&
 (P8 c te v).elim false λo=>o.elim false λnames=>decide (names=(gJ l).map c.vn)))
noncomputable def BG(ik:IK)(g:Nat)(es:List IE)(c:Ck)(e:Expr):Expr:=match ik with
 | .seq=>fB (es.headD (.glob 0)) c e
 |_=> .Call (.Name (c.gn g) (bL e 0).pos) (fJ es c (ek e).es.tail) [] e.pos
noncomputable def G8(ik:IK)(g:Nat)(es:List IE)(c:Ck)(t:IT)(e:Expr):Bool:=match ik with
 | .seq=>t.v?.isSome&&(decide (es.length=1)&&gg es c [e])
 | .range=>t.v?.isSome&&(c.Tw g (.type "range")&&gg es c (ek e).es.tail)
 | .enum=>t.t?.isSome&&(c.Tw g (.type "enumerate")&&gg es c (ek e).es.tail)
 | .zip=>t.t?.isSome&&(c.Tw g (.type "zip")&&gg es c (ek e).es.tail)
structure SK where
 es:List Expr:=[]
 a:List Stmt:=[]
 b:List Stmt:=[]
 p:Pos:=default
 q:Pos:=default
noncomputable def HI:List ExceptHandler->List Expr×List Stmt×Pos
 | .ExceptHandler t _ b p::_=>([zo t],b,p)
 | []=>([],[],default)
noncomputable def sk:Stmt->SK
 | .Assign ts v p=>{es:=[hd ts,v],p:=p}
 | .Expr v p=>{es:=[v],p:=p}
 | .Return v p=>{es:=[zo v],p:=p}
 | .If t a b p=>{es:=[t],a:=a,b:=b,p:=p}
 | .For t i b _ p=>{es:=[t,i],a:=b,p:=p}
 | .While t b _ p=>{es:=[t],a:=b,p:=p}
 | .Raise e _ p=>{es:=[zo e],p:=p}
 | .Try b hs _ _ p=>{es:=(HI hs).1,a:=b,b:=(HI hs).2.1,p:=p,q:=(HI hs).2.2}
 | .Pass p=>{p:=p}
 | .Continue p=>{p:=p}
 |_=>{}
noncomputable def sx(s:Stmt)(n:Nat):Expr:=(sk s).es.getD n default
noncomputable def hs(l:List Stmt):Stmt:=l.headD (.Pass default)
mutual
noncomputable def Rx:IS->Ck->Stmt->Stmt
 | .asg t e,c,s=> .Assign [A5 t c (sx s 0)] (fB e c (sx s 1)) (sk s).p
 | .exp e,c,s=> .Expr (fB e c (sx s 0)) (sk s).p
 | .ret e,c,s=> .Return (some (fB e c (sx s 0))) (sk s).p
 | .Ud,_,s=> .Return none (sk s).p
 | .Td t a b,c,s=> .If (fB t c (sx s 0)) (q5 a c (sk s).a) (q5 b c (sk s).b) (sk s).p
 | .fr ik g es t body,c,s=> .For (A5 t c (sx s 0)) (BG ik g es c (sx s 1)) (q5 body c (sk s).a) [] (sk s).p
 | .whl t body,c,s=> .While (fB t c (sx s 0)) (q5 body c (sk s).a) [] (sk s).p
 | .cont,_,s=> .Continue (sk s).p
 | .pass,_,s=> .Pass (sk s).p
 | .TM g m,c,s=> .Raise (some (.Call (.Name (c.gn g) (bL (sx s 0) 0).pos) [Cw (.str m) (bL (sx s 0) 1)] [] (sx s 0).pos)) none (sk s).p
 | .tri body g i,c,s=> .Try (q5 body c (sk s).a) [.ExceptHandler (some (.Name (c.gn g) (sx s 0).pos)) none [.Assign [.Name (c.vn i) (sx (hs (sk s).b) 0).pos] (Cw .none (sx (hs (sk s).b) 1)) (sk (hs (sk s).b)).p] (sk s).q] [] [] (sk s).p
noncomputable def q5:List IS->Ck->List Stmt->List Stmt
 | [],_,_=>[]
 |i::l,c,ss=>Rx i c (hs ss)::q5 l c ss.tail
end
mutual
noncomputable def Rz:IS->Ck->Stmt->Bool
 | .asg t e,c,s=>sK e&&(iy e c (sx s 1)&&((Hz c (A5 t c (sx s 0)) (fB e c (sx s 1))&&JE t c (sx s 0))||t.t?.elim false λl=>Dd c l (A5 t c (sx s 0)) (fB e c (sx s 1))))
 | .exp e,c,s=>sK e&&iy e c (sx s 0)
 | .ret e,c,s=>iy e c (sx s 0)
 | .Ud,_,_=>true
 | .Td t a b,c,s=>DE t (iy t c (sx s 0)) c (sx s 0)&&(tE a c (sk s).a&&tE b c (sk s).b)
 | .fr ik g es t body,c,s=>JE t c (sx s 0)&&(tE body c (sk s).a&&G8 ik g es c t (sx s 1))
 | .whl t body,c,s=>DE t (iy t c (sx s 0)) c (sx s 0)&&tE body c (sk s).a
 | .cont,_,_=>true
 | .pass,_,_=>true
 | .TM g _,c,_=>c.glob g
 | .tri body g i,c,s=>c.Tw g (.ref 83)&&((c.var i&&decide (c.kind (c.vn i)=some .local))&&tE body c (sk s).a)
noncomputable def tE:List IS->Ck->List Stmt->Bool
 | [],_,_=>true
 |i::l,c,ss=>Rz i c (hs ss)&&tE l c ss.tail
end
theorem mw{i}{c}{e}(h:sK i=true)(t)(n)(env):swapsWith (fB i c e) t n env=pure false:=by
 cases i<;>first|rfl|exact jx h
section
variable {w:World} {Bs:Base w} {T:Tb} {lv:Nat} (hT: ∀Y:Cx,Y.lvl=lv->AC Bs Y T) {fI:Addr} {TH:Scope} {kh:List Stmt} (RO:fm Bs 83 fI TH kh)
variable {c:Ck} {X:Cx} (H:Ctx Bs X c) (hl:X.lvl=lv) (hE:X.env=X.fenv) (hcp: ∀a∈X.env.cells.map (·.2),a∈X.Tc)
abbrev SF(Bs:Base w)(T:Tb)(X:Cx)(a:Stmt)(i:IS):Prop:=SE Bs X (λ_ _=>True) (wp Bs (exec a X.env)) (bf T X.gl i) (FR (w:=w))
def SP(Bs:Base w)(T:Tb)(X:Cx)(c:Ck)(i:IS):Prop:= ∀s:Stmt,Rz i c s=true->SF Bs T X (Rx i c s) i
def Ri(Bs:Base w)(T:Tb)(X:Cx)(c:Ck)(l:List IS):Prop:= ∀ss:List Stmt,tE l c ss=true->SE Bs X (λ_ _=>True) (wp Bs (execs (q5 l c ss) X.env)) (ae T X.gl l) (FR (w:=w))
theorem B3(ik)(g)(es){e}{env}(x):foldedSetIterable (BG ik g es c e) env x=pure x:=by cases ik<;>first|rfl|exact wd _ _ _ _ _
include hT H hl hcp
theorem Fm(e)(h:Pi t c e=true):TS Bs X T X.gl (A5 t c e) t:=by
 cases t with
 |var i=>exact Id H.ok (H.var (an h).1) ((Bool.or_eq_true_iff.mp (an h).2).imp (λq=>(H.kind _).trans (aT q)) (λq=>⟨(H.kind _).trans (aT q),hcp⟩))
 |attr i n=>exact GG rfl (xx hT i _ H hl h)
 |sub i j=>exact Ks (xx hT i _ H hl (an h).1) (xx hT j _ H hl (an h).2)
 |tup l=>exact jx h
theorem Lr{l}: ∀(es:List Expr),JX l c es=true->FV Bs X T X.gl (GR l c es) l:=by
 induction l with
 |nil=>exact λ_ _=>trivial
 |cons t l ih=>exact λes h=>⟨Fm hT H hl hcp _ (an h).1,ih es.tail (an h).2⟩
theorem Hx(e)(h:JE t c e=true):KR Bs X T X.gl (A5 t c e) t:=by
 cases t with
 |tup l=>exact Ji (Lr hT H hl hcp _ h)
 |var i=>exact(Fm (t:= .var i) hT H hl hcp _ h).to (λl z=>nomatch z)
 |attr i n=>exact(Fm (t:= .attr i n) hT H hl hcp _ h).to (λl z=>nomatch z)
 |sub i j=>exact(Fm (t:= .sub i j) hT H hl hcp _ h).to (λl z=>nomatch z)
omit hT hl hcp in
theorem B2{te v}(h:P8 c te v=some o):swappedStores [te] v X.env=pure o:=(KC _ _ _).trans (H.sc▸zy h)
omit hT hl hcp in
theorem CT{te v}(h:Hz c te v=true):swappedStores [te] v X.env=pure none:=Th h (λo e h=>Option.isNone_iff_eq_none.mp h▸B2 H e) ft
theorem Ga{l}{e}{te v}{pos}(hn:sK e=true)(hv:SV Bs T X (fB e c v) e)(h:Dd c l (A5 (.tup l) c te) (fB e c v)=true):SF Bs T X (.Assign [A5 (.tup l) c te] (fB e c v) pos) (.asg (.tup l) e):=by
 obtain⟨h1,h⟩:=an h;obtain⟨h2,h⟩:=an h;obtain⟨h2,h3⟩:=aT h2;obtain⟨h4,h⟩:=an h;refine Th h (λo hq h=>Th h (λnames en h=> ?_) ft) ft;have e1:((gJ l).map λi=>(c.vn i,i)).map (·.1)=names:=by rw[List.map_map];exact(aT h).symm
 have e2:((gJ l).map λi=>(c.vn i,i)).map (·.2)=gJ l:=by rw[List.map_map];exact List.map_id _
 have z:=FH (xs:=(gJ l).map λi=>(c.vn i,i)) (ts:=GR l c (ek te).es) (c:=(ek te).k) (tp:=te.pos) (pos:=pos) (T:=T) (gl:=X.gl) H.ok (λp hp=>by
  obtain⟨i,hi,rfl⟩:=List.mem_map.mp hp;have y:=an (gj h4 i hi);exact⟨H.var y.1,(H.kind _).trans (aT y.2)⟩) (e2.symm▸h2) (by rw[List.length_map];exact h3) (mw hn _ _ _) (by rw[e1];exact(B2 H hq).trans (ac pure en)) hv
 rw[e2,<-Al h1] at z;exact z
omit hT H hl hcp in
theorem Hs{t:IT}{te:Expr}(h:t.v?.isSome=true)(it v:Value):letOwnedTupleGo (A5 t c te) it v=pure ():=(Option.isSome_iff_exists.mp h).elim λi e=>IT.v_eq e▸rfl
theorem JS{t:IT}{te:Expr}(e:Expr)(h:G8 ik g es c t e=true):
  lm Bs X (letOwnedTupleGo (A5 t c te)) ((wp Bs (eval (BG ik g es c e) X.env)).bind λv=>wp Bs (pyIter v)) (λs=>ao (br T X.gl es s) λvs s=>fh (bN s.S9 ik vs) s λitems s=>some (.ok items,s)):=by
 have ns:=dU es c (ek e).es.tail;cases ik with
 |seq=>
  obtain⟨i,rfl⟩:=List.length_eq_one_iff.mp (aT (an (an h).2).1);rw[o8];exact x7 (Hs (an h).1) (xx hT _ _ H hl (an (an (an h).2).2).1)
 |range=>exact xW (Hs (an h).1) ns (H.TQ (an (an h).2).1) ((IN hT _).es _ H hl (an (an h).2).2)
 |enum=>exact(Option.isSome_iff_exists.mp (an h).1).elim λl e=>IT.Ue e▸Eu ns (H.TQ (an (an h).2).1) ((IN hT _).es _ H hl (an (an h).2).2)
 |zip=>exact(Option.isSome_iff_exists.mp (an h).1).elim λl e=>IT.Ue e▸GH ns (H.TQ (an (an h).2).1) ((IN hT _).es _ H hl (an (an h).2).2)
include hE RO
theorem PJ(i:IS):SP Bs T X c i:=IS.rec (motive_1:=SP Bs T X c) (motive_2:=Ri Bs T X c)
 (λt e s h=>have hv:=xx hT e _ H hl (an (an h).2).1
  (Bool.or_eq_true_iff.mp (an (an h).2).2).elim (λq=>Ir (Hx hT H hl hcp _ (an q).2) (mw (an h).1 _ _ _) (CT H (an q).1) hv) λq=>Th q (λl el q=>IT.Ue el▸Ga hT H hl hcp (an h).1 hv (IT.Ue el▸q)) ft)
 (λe s h=>Ic (by unfold interactive;rw[H.ok.fn];rfl) (mw (an h).1 _ _ _) (xx hT _ _ H hl (an h).2))
 (λe s h=>HQ (xx hT _ _ H hl h))
 (λs h=>E7)
 (λt a b ia ib s h=>Jy (Mv hT t _ H hl (an h).1) (ia _ (an (an h).2).1) (ib _ (an (an h).2).2))
 (λik g es t body ib s h=>IC H.ok hE (B3 (c:=c) ik g es) (Hx hT H hl hcp _ (an h).1) (ib _ (an (an h).2).1) (JS hT H hl hcp _ (an (an h).2).2))
 (λt body ib s h=>CJ H.ok hE (Mv hT t _ H hl (an h).1) (ib _ (an h).2))
 (λs h=>FO) (λs h=>Gr)
 (λg m s h=>I8 H.ok RO (H.glob h).1 (H.glob h).2)
 (λbody g i ib s h=>KN H.ok hE RO (H.Tw (an h).1).1 (H.Tw (an h).1).2 (H.var (an (an (an h).2).1).1) ((H.kind _).trans (aT (an (an (an h).2).1).2)) (ib _ (an (an h).2).2))
 (λss h=>lA) (λi l ii il ss h=>kb (ii (hs ss) (an h).1) (il ss.tail (an h).2)) i
theorem Nc(l):Ri Bs T X c l:=by
 induction l with
 |nil=>exact λss h=>lA
 |cons i l ih=>exact λss h=>kb (PJ hT RO H hl hE hcp i (hs ss) (an h).1) (ih ss.tail (an h).2)
end
end
end Mine
namespace Mine
section
open PySem PySem.W PySem.Calls PyProof.Rows PySem.SeqAt
set_option genInjectivity false
set_option genSizeOf false
set_option maxRecDepth 1000000
abbrev BX(x:Str×Value)(r:List (Str×Value)):Sem (ForInStep (List (Str×Value))):=if(r.lookup x.1).isNone=true then pure (ForInStep.yield (r++ [(x.1,x.2)])) else pure (ForInStep.yield r)
abbrev wb(l:List (Str×Value))(acc:List (Str×Value)):Sem (List (Str×Value)):=forIn l acc BX
theorem kA{a b:List (Str×Value)}{n:Str}:(a++b).lookup n=(a.lookup n).or (b.lookup n):=List.lookup_append
theorem loop_spec(l:List (Str×Value)): ∀acc:List (Str×Value),∃S,wb l acc=pure S/\ ∀n,S.lookup n=(acc++l).lookup n:=by
 induction l with
 |nil=>exact λacc=>⟨acc,rfl,λn=>(List.append_nil acc).symm▸rfl⟩
 |cons x l ih=>
  intro acc;cases q:acc.lookup x.1 with
  |none=>exact(ih (acc++ [x])).imp λS z=>⟨(l5 (f:=BX) (p:=x) (if_pos (ac Option.isNone q))).trans z.1,λn=>(z.2 n).trans (ac (List.lookup n) (List.append_assoc ..))⟩
  |some v=>
   refine(ih acc).imp λS z=>⟨(l5 (f:=BX) (p:=x) (if_neg λh=>ft ((ac Option.isNone q).symm.trans h))).trans z.1,λn=>(z.2 n).trans (kA.trans (Eq.trans ?_ kA.symm))⟩;rw[List.lookup_cons];cases e:n==x.1 with
   |true=>rw[eq_of_beq e,q];rfl
   |false=>rfl
theorem wn{xs:List Str}{x:Str}(nd:xs.Nodup): ∀{vs:List Value} {i:Nat},xs[i]?=some x->(xs.zip vs).lookup x=vs[i]?:=by
 induction xs with
 |nil=>exact λh=>aB h
 |cons y xs ih=>
  intro vs i h;cases vs with
  |nil=>rfl
  |cons v vs=>
   rw[List.zip_cons_cons,List.lookup_cons];cases i with
   |zero=>obtain rfl:=aC h;rw[beq_self_eq_true];rfl
   |succ i=>
    rw[beq_eq_false_iff_ne.mpr λq=>(List.nodup_cons.mp nd).1 ((q:x=y)▸gz (h:xs[i]?=some x))];exact ih (List.nodup_cons.mp nd).2 h
theorem ru{f:Str->Option Value}{xs:List Str}: ∀{full:List Value},xs.length=full.length->(∀(i:Nat) x,xs[i]?=some x->f x=full[i]?)->xs.filterMap (λn=>(f n).map λv=>(n,v))=xs.zip full:=by
 induction xs with
 |nil=>exact λ_ _=>rfl
 |cons x xs ih=>
  intro full hl h;cases full with
  |nil=>exact nomatch hl
  |cons v full=>exact(List.filterMap_cons_some (f:=λn=>(f n).map λv=>(n,v)) (b:=(x,v)) (ac (Option.map λv=>(x,v)) (h 0 x rfl))).trans (ac (List.cons (x,v)) (ih (Nat.succ.inj hl) λi x q=>h (i+1) x q))
section
variable {xs:List Str} (nd:xs.Nodup) {vs dl:List Value} (h1:xs.length-dl.length<=vs.length) (h2:vs.length<=xs.length) (h3:dl.length<=xs.length)
noncomputable def nA(xs:List Str)(vs dl:List Value):List Value:=vs++dl.drop (vs.length-(xs.length-dl.length))
include h1 h2 h3
theorem r6:xs.length=(nA xs vs dl).length:=by
 unfold nA;rw[List.length_append,List.length_drop,Nat.sub_sub_right _ h3,Nat.sub_sub_right _ (Nat.sub_le_iff_le_add.mp h1),Nat.add_comm vs.length dl.length,Nat.add_sub_add_left,Nat.add_sub_cancel' h2]
include nd
theorem AY{i:Nat}{x}(hx:xs[i]?=some x):(xs.zip vs++(xs.drop (xs.length-dl.length)).zip dl).lookup x=(nA xs vs dl)[i]?:=by
 rw[kA,wn nd hx];unfold nA;by_cases q:i<vs.length
 ·rw[List.getElem?_append_left q,List.getElem?_eq_getElem q];rfl
 ·have q:=Nat.not_lt.mp q;have e:xs.length-dl.length+(i-(xs.length-dl.length))=i:=Nat.add_sub_cancel' (bz h1 q);rw[List.getElem?_append_right q,List.getElem?_eq_none q,List.getElem?_drop,wn (i:=i-(xs.length-dl.length)) (nd.sublist (List.drop_sublist _ _)) (List.getElem?_drop.trans ((ac (xs[·]?) e).trans hx))];exact ac (dl[·]?) ((Nat.sub_add_sub_cancel q h1).symm.trans (Nat.add_comm ..))
theorem z8{α:Type}{Uv:List Value}(e:Uv=dl){e1 e2 s0:Sem α}{rest:List (Str×Value)->Sem α}(hr: ∀S:List (Str×Value),(∀(i:Nat) x,xs[i]?=some x->S.lookup x=(nA xs vs dl)[i]?)->rest S=s0):
  (if(decide (vs.length>xs.length)&&true)=true then e1 else if(!((xs.take (xs.length-Uv.length)).filter λn=>((xs.zip vs).lookup n).isNone).isEmpty)=true then e2 else wb ((xs.drop (xs.length-Uv.length)).zip Uv) (xs.zip vs)>>=rest)=s0:=by
 subst e;have m:(xs.take (xs.length-Uv.length)).filter (λn=>((xs.zip vs).lookup n).isNone)=[]:=List.filter_eq_nil_iff.mpr λn hn=>by
  obtain⟨i,hi⟩:=List.mem_iff_getElem?.mp hn;refine ml (List.getElem?_take.symm.trans hi) λlt hx=> ?_;rw[wn nd hx,List.getElem?_eq_getElem (dA lt h1)];exact λz=>ft z
 rw[m,if_neg (by rw[decide_eq_false (Nat.not_lt.mpr h2)];exact λz=>ft z)];refine(if_neg λz=>ft z).trans ?_;obtain⟨S,q,z⟩:=loop_spec ((xs.drop (xs.length-Uv.length)).zip Uv) (xs.zip vs);rw[q];exact hr S λi x hx=>(z x).trans (AY nd h1 h2 h3 hx)
end
structure s4 (fd:FuncData) (xs:List Str):Prop where
 pos:fd.params.posonlyargs=[]
 va:fd.params.vararg=none
 ko:fd.params.kwonlyargs=[]
 kw:fd.params.kwarg=none
 names:fd.params.args.map (·.arg)=xs
 nd:xs.Nodup
theorem CP{s:Shared}{fd:FuncData}{xs:List Str}(P:s4 fd xs){vs dl:List Value}(h1:xs.length-dl.length<=vs.length)(h2:vs.length<=xs.length)(h3:dl.length<=xs.length)
  (hd: ∀(M:Model) (A:Around) (E:bS) (Q:Option (Array Value)->Shared->Prop),(∀r,(r.getD #[]).toList=dl->Q r s)->wpAny M A (seqItems? fd.defaults) Q E s):
  BindsTo s fd ⟨vs,[]⟩ (xs.zip (nA xs vs dl)):=by
 obtain⟨p1,p2,p3,p4,rfl,nd⟩:=P;obtain⟨b1,b2,⟨_,c2,_,_,c5,_,c7⟩,b4,b5,b6,b7,b8,b9,b10,Ws,Wt,Wu,Wv,Ww⟩:=fd;obtain rfl:=p1;obtain rfl:=p2;obtain rfl:=p3;obtain rfl:=p4;intro M A E Q hq;refine am (m:=seqItems? b8) (hd M A E _ λr hr=> ?_);refine wpAny_of_eq (z8 nd h1 h2 h3 (Uv:=(r.getD #[]).toList.drop ((r.getD #[]).toList.length-(c2.map (·.arg)).length)) ?_ ?_) hq
 ·rw[hr,Nat.sub_eq_zero_of_le h3];rfl
 ·exact λS hS=>(ac (λl:List Str=>(pure (l.filterMap λn=>(S.lookup n).map λv=>(n,v)):Sem (List (Str×Value)))) (List.append_nil _)).trans (ac pure (ru (r6 h1 h2 h3) hS))
section
variable {x:Str} {kd:Str->Option NameKind}
theorem xI{l}: ∀(m:Str->Option Value),x∉l.map (·.1)->bindL kd l m x=m x:=by
 induction l with
 |nil=>exact λ_ _=>rfl
 |cons p l ih=>
  intro m h;refine(ih (if kd p.1=some .local then λy=>if y=p.1 then some p.2 else m y else m) λq=>h (.tail _ q)).trans ?_;split
  ·exact if_neg λq:x=p.1=>h (q▸ .head _)
  ·rfl
theorem wQ{l}: ∀(m:Str->Option Value),x∉l.map (·.1)->bindC kd l m x=m x:=by
 induction l with
 |nil=>exact λ_ _=>rfl
 |cons p l ih=>
  intro m h;refine(ih (if kd p.1=some .local then m else λy=>if y=p.1 then some p.2 else m y) λq=>h (.tail _ q)).trans ?_;split
  ·rfl
  ·exact if_neg λq:x=p.1=>h (q▸ .head _)
theorem Bc{xs:List Str}{vs:List Value}(h:xs.length=vs.length):(xs.zip vs).map (·.1)=xs:=List.map_fst_zip (Nat.le_of_eq h)
theorem EU{v:Value}{xs:List Str}: ∀{full:List Value} (m:Str->Option Value) {i:Nat},xs.Nodup->xs.length=full.length->xs[i]?=some x->full[i]?=some v->
  (kd x=some .local->bindL kd (xs.zip full) m x=some v)/\(kd x≠some .local->bindC kd (xs.zip full) m x=some v):=by
 induction xs with
 |nil=>exact λ_ _ _ _ h=>aB h
 |cons y xs ih=>
  intro full m i nd hl h h';cases full with
  |nil=>exact aB h'
  |cons u full=>
   have nd:=List.nodup_cons.mp nd;have hl:=Nat.succ.inj hl;cases i with
   |zero=>
    obtain rfl:=aC h;obtain rfl:=aC h';have hk:y∉(xs.zip full).map (·.1):=λz=>nd.1 ((Bc hl:_=xs)▸z);exact⟨λk=>(xI _ hk).trans ((congrFun (if_pos k) y).trans (if_pos rfl)),λk=>(wQ _ hk).trans ((congrFun (if_neg k) y).trans (if_pos rfl))⟩
   |succ i=>exact⟨λk=>(ih _ nd.2 hl h h').1 k,λk=>(ih _ nd.2 hl h h').2 k⟩
theorem Ap{names}: ∀(n:Nat) (acc:List (Str×Addr)),(∃a,acc.lookup x=some a)-> ∃a,(cellsFrom n names acc).lookup x=some a:=by
 induction names with
 |nil=>exact λ_ _ h=>h
 |cons p l ih=>
  intro n acc h;unfold cellsFrom;split
  ·refine ih _ _ ?_;rw[List.lookup_cons];split
   ·exact⟨_,rfl⟩
   ·exact h
  ·exact ih _ _ h
theorem rY{names:List (Str×NameKind)}: ∀(n:Nat) (acc:List (Str×Addr)),(x,NameKind.cell)∈names-> ∃a,(cellsFrom n names acc).lookup x=some a:=by
 induction names with
 |nil=>exact λ_ _=>fP
 |cons p l ih=>
  intro n acc h;refine(cW h).elim (λq=>q▸Ap (n+1) ((x,n)::acc) ⟨n,by rw[List.lookup_cons,beq_self_eq_true]⟩) λq=> ?_;unfold cellsFrom;split
  ·exact ih _ _ q
  ·exact ih _ _ q
theorem AG{names:List (Str×NameKind)}: ∀(n:Nat) (acc:List (Str×Addr)),(cellsFrom n names acc).length=(names.filter λp=>p.2== .cell).length+acc.length:=by
 induction names with
 |nil=>exact λ_ acc=>(Nat.zero_add _).symm
 |cons p l ih=>
  intro n acc;cases q:p.2==NameKind.cell with
  |true=>
   rw[List.filter_cons_of_pos (p:=λp:Str×NameKind=>p.2== .cell) q,List.length_cons,Nat.succ_add_eq_add_succ];exact(ac List.length (if_pos q)).trans (ih (n+1) ((p.1,n)::acc))
  |false=>
   have q': ¬(p.2==NameKind.cell)=true:=λz=>tf (z.symm.trans q);rw[List.filter_cons_of_neg (p:=λp:Str×NameKind=>p.2== .cell) q'];exact(ac List.length (if_neg q')).trans (ih n acc)
theorem J0{α β:Type}{l:List (α×β)}(h:l.length<=1):l=[]\/ ∃x c,l=[(x,c)]:=match l with
 | []=> .inl rfl
 | [(x,c)]=> .inr ⟨x,c,rfl⟩
 |_::_::_=>absurd h (Nat.not_le.mpr (Nat.succ_lt_succ (Nat.succ_pos _)))
end
inductive Bj (B:Gm) (v:Value) (q:Str):Prop
 |mk (c:Addr) (o:Obj) (vs:Array Value) (t:Tok) (hv:v= .ref c) (ho:B c=some o) (hd:o.data= .fields vs) (h1:vs[1]?=some (.str q t))
structure zD {w:World} (Bs:Base w) (f:Addr) (fd:FuncData) (body:List Stmt) (nm:List Str) (np:Nat) (dv:List Value):Prop where
 obj: ∃o,Bs.B f=some o/\o.data= .func fd
 co:fd.scope.isCoroutine=false
 gen:fd.scope.isGenerator=false
 kind:fd.scope.kind= .function
 code:Bj Bs.B fd.code fd.qualname
 body:fd.body= .stmts body
 clo:fd.closure=[]
 gl:fd.globals=mainGlobals
 bl:fd.builtins=builtinsNs
 pl:s4 fd (nm.take np)
 Uy:np<=nm.length
 dn:dv.length<=np
 df:(fd.defaults= .none/\dv=[])\/ ∃T o n,fd.defaults= .ref T/\Bs.B T=some o/\o.data= .seq dv.toArray n
 kinds: ∀x∈nm.take np,fd.scope.names.lookup x=some .local\/fd.scope.names.lookup x=some .cell
 cells:(fd.scope.names.filter λp=>p.2== .cell).length<=1
section
variable {w:World} {Bs:Base w}
theorem jE{nm:List Str}{np:Nat}(h:np<=nm.length):(nm.take np).length=np:=List.length_take.trans (Nat.min_eq_left h)
theorem zD.binds{f:Addr}{fd:FuncData}{body:List Stmt}{nm:List Str}{np:Nat}{dv:List Value}{s:Shared}{vs:List Value}(F:zD Bs f fd body nm np dv)(hB: ∀b o,Bs.B b=some o->s.heap.get? b=some o)(h1:np-dv.length<=vs.length)(h2:vs.length<=np):BindsTo s fd ⟨vs,[]⟩ ((nm.take np).zip (rW np dv vs)):=by
 have z:=CP (s:=s) F.pl (vs:=vs) (dl:=dv) (by rw[jE F.Uy];exact h1) (by rw[jE F.Uy];exact h2) (by rw[jE F.Uy];exact F.dn) λM A E Q hq=>F.df.elim (λe=>e.1▸bq (hq none e.2.symm)) λe=>e.elim λT e=>e.elim λoT e=>e.elim λn e=>e.1▸wpAny_seqItems (hB _ _ e.2.1) e.2.2 (hq _ rfl);unfold nA at z;rw[jE F.Uy] at z;exact z
theorem zD.kd{f:Addr}{fd:FuncData}{body:List Stmt}{nm:List Str}{np:Nat}{dv:List Value}{y:Str}{n:Nat}(F:zD Bs f fd body nm np dv)(hy:y∈nm.take np):fd.scope.names.lookup y=some .local\/(fd.scope.names.lookup y=some .cell/\ ∃a,(cellsFrom n fd.scope.names []).lookup y=some a):=
 (F.kinds y hy).imp id λq=>⟨q,rY _ _ (mem_lookup q)⟩
theorem pj(F:zD Bs f fd body nm np dv):nP Bs f fd.scope body nm np dv:=by
 intro A R s vs hd hB h1 h2 k;obtain⟨o,ho,hdata⟩:=F.obj;obtain⟨c,oc,VZ,t,hc1,hc2,hc3,hc4⟩:=F.code;have hfl:(nm.take np).length=(rW np dv vs).length:=by
  have z:=r6 (xs:=nm.take np) (vs:=vs) (dl:=dv) (by rw[jE F.Uy];exact h1) (by rw[jE F.Uy];exact h2) (by rw[jE F.Uy];exact F.dn);unfold nA at z;rw[jE F.Uy] at z ⊢;exact z
 refine codeAny_call_function hd (hB _ _ ho) hdata F.co F.gen F.body ⟨c,oc,VZ,t,hc1,hB _ _ hc2,hc3,hc4⟩ (F.binds hB h1 h2 _ _ _ _ ?_);rw[F.clo];refine wpAny_newFunctionEnv_cells F.kind (λx hx=>(F.kd (List.of_mem_zip hx).1).imp id λq=>⟨q.1,Option.isSome_iff_exists.mpr q.2⟩) λenv he s' x=>⟨(Bs.lim _ hB).keeps x.toInCall.keep,codeAny_func ?_⟩;obtain⟨h₀,tk,rfl⟩:=x.toInCall.same;subst he;refine k _ h₀ tk _ ⟨rfl,F.gl,F.bl,rfl,bj x.toInCall.fresh,J0 (bz (Nat.le_of_eq (AG _ _)) F.cells),λy a lk=>⟨bj (Nat.le_of_lt (Nat.lt_of_le_of_lt x.toInCall.fresh (x.above y a (mem_of_lookup lk)))),_,x.cell y a lk⟩,λy hy=>rY _ _ (mem_lookup hy),x.toInCall.keep,x.toInCall.ns,λi v hv=> ?_⟩;have hx:(nm.take np)[i]?=some _:=List.getElem?_eq_getElem (hfl.symm▸(ch hv).1);have b:=EU (kd:=λy=>fd.scope.names.lookup y) (λ_=>none) F.pl.nd hfl hx hv;exact⟨_,ml (List.getElem?_take.symm.trans hx) λ_ e=>e,(F.kd (gz hx)).imp (λq=>⟨q,b.1 q⟩) λq=>⟨.inl q.1,q.2.imp λa ha=>⟨ha,b.2 (λz=>nomatch q.1.symm.trans z)▸x.cell _ a ha⟩⟩⟩
end
noncomputable def cq(sc:Scope):List Str:=(sc.names.filter λp=>p.2== .local||p.2== .cell).map (·.1)
noncomputable def vE(a:AV)(v:Value):Bool:=match v with
 | .none=>a.T5
 | .bool b=>a.b.elim false (b== ·)
 | .int i _=>a.i?.elim false λj=>decide (i=j)
 | .str s _=>a.s?.elim false λt=>decide (s=t)
 |v=>yt a v
noncomputable def ta:aV->List Value->Bool
 | [],[]=>true
 |a::l,v::vs=>vE a v&&ta l vs
 |_,_=>false
theorem jM{a}{v}(h:vE a v=true):ar w (λ_=>none) [] a v:=by
 have q:yt a v=true->ar w (λ_=>none) [] a v:=λh=>u6 h▸rfl;cases v<;>first|exact q h|skip
 case none=>exact tU h▸rfl
 case bool b=>exact Th h (λb' e h=>qN e▸ac Value.bool (eq_of_beq h)) ft
 case int i t=>exact Th h (λj e h=>jl e▸⟨t,ac (Value.int · t) (aT h)⟩) ft
 case str i t=>exact Th h (λj e h=>yv e▸⟨t,ac (Value.str · t) (aT h)⟩) ft
theorem u8{l:aV}: ∀{vs:List Value},ta l vs=true->ag w (λ_=>none) [] l vs:=by
 induction l with
 |nil=>
  intro vs h;cases vs with
  |nil=>rfl
  |cons _ _=>exact ft h
 |cons a l ih=>
  intro vs h;cases vs with
  |nil=>exact ft h
  |cons v vs=>exact⟨v,vs,rfl,jM (an h).1,ih (an h).2⟩
noncomputable def Dz(mg mb:Str->Option Value)(x:Str×AV):Bool:=decide ((x.1==("__debug__" :Str))=false)&&(mg x.1).elim ((mb x.1).elim false (vE x.2)) (vE x.2)
noncomputable def Li(d:Data):Option (List Value):=match d with
 | .seq vs _=>some vs.toList
 |_=>none
noncomputable def Lb(d:Data):Option (List Value):=match d with
 | .fields vs=>some vs.toList
 |_=>none
noncomputable def Lh(d:Data):Option FuncData:=match d with
 | .func fd=>some fd
 |_=>none
noncomputable def Hh(b:FuncBody):Option (List Stmt):=match b with
 | .stmts l=>some l
 |_=>none
theorem Ei{d}(h:Li d=some l): ∃n,d= .seq l.toArray n:=by
 cases d<;>first|exact aB h|skip
 obtain rfl:=aC h;exact⟨_,rfl⟩
theorem F9{d}(h:Lb d=some l):d= .fields l.toArray:=by
 cases d<;>first|exact aB h|skip
 obtain rfl:=aC h;rfl
theorem FC{d:Data}(h:Lh d=some l):d= .func l:=by
 cases d<;>first|exact aB h|exact ac _ (aC h)
theorem C4{b:FuncBody}(h:Hh b=some l):b= .stmts l:=by
 cases b<;>first|exact aB h|exact ac _ (aC h)
noncomputable def Hp(g:Gm)(fd:FuncData):Option (List Value):=cond (vE .none fd.defaults) (some []) ((rJ fd.defaults).bind λT=>(g T).bind λo=>Li o.data)
noncomputable def JY(v:Value):Option Str:=match v with
 | .str q _=>some q
 |_=>none
theorem sI{v}(h:JY v=some x): ∃t,v= .str x t:=by
 cases v<;>first|exact aB h|exact⟨_,ac (Value.str · _) (aC h)⟩
noncomputable def Dw(g:Gm)(fd:FuncData):Bool:=(rJ fd.code).elim false λc=>(g c).elim false λo=>(Lb o.data).elim false λl=>l[1]?.elim false λv=>(JY v).elim false λq=>decide (q=fd.qualname)
noncomputable def yR(fd:FuncData)(xs:List Str):Bool:=fd.params.posonlyargs.isEmpty&&(fd.params.vararg.isNone&&(fd.params.kwonlyargs.isEmpty&&(fd.params.kwarg.isNone&&(decide (fd.params.args.map (·.arg)=xs)&&decide xs.Nodup))))
noncomputable def fnAt(g:Gm)(f:Addr):Option (FuncData×List Stmt):=(g f).bind λo=>(Lh o.data).bind λfd=>(Hh fd.body).map λb=>(fd,b)
noncomputable def OS(g:Gm)(fd:FuncData)(np nl:Nat):Bool:= !fd.scope.isCoroutine&&(!fd.scope.isGenerator&&(decide (fd.scope.kind= .function)&&(Dw g fd&&(fd.closure.isEmpty&&(decide (fd.globals=mainGlobals)&&(decide (fd.builtins=builtinsNs)&&
 (yR fd ((cq fd.scope).take np)&&(decide (np<=(cq fd.scope).length)&&(decide ((cq fd.scope).length=nl)&&(decide (cq fd.scope).Nodup&&
 ((cq fd.scope).all (λx=>sR fd.scope x&&(decide (fd.scope.names.lookup x=some .local)||decide (fd.scope.names.lookup x=some .cell)))&&decide ((fd.scope.names.filter λp=>p.2== .cell).length<=1))))))))))))
noncomputable def Ch(P:FuncData->List Stmt->Bool)(g:Gm)(mg mb:Str->Option Value)(f:Addr)(np nl:Nat)(d:aV)(gl:Gl):Bool:=(fnAt g f).elim false λy=>OS g y.1 np nl&&((Hp g y.1).elim false (λdv=>ta d dv&&decide (dv.length<=np))&&(gl.all (Dz mg mb)&&P y.1 y.2))
noncomputable def KI(x:Info)(fd:FuncData):Ck:=⟨fd.scope,cq fd.scope,x.2.2.2.2.2.2.1⟩
noncomputable def Kz(x:Info):List IS:=x.2.2.2.2.2.2.2
noncomputable def Ii(g:Gm)(mg mb:Str->Option Value)(x:Info):Bool:=Ch (λfd body=>tE (Kz x) (KI x fd) body) g mg mb x.1 x.2.2.2.1 x.2.2.2.2.1 x.2.2.2.2.2.1 x.2.2.2.2.2.2.1
noncomputable def Ox(g:Gm)(x:Info):Option (List Stmt):=(fnAt g x.1).map λy=>q5 (Kz x) (KI x y.1) y.2
noncomputable def Ob(g:Gm)(x:Info):Option (List Stmt):=(fnAt g x.1).map (·.2)
section
variable {w:World} {Bs:Base w}
theorem Dp{p q:Prop}[Decidable p][Decidable q](h:(decide p||decide q)=true):p\/q:=(Bool.or_eq_true_iff.mp h).imp aT aT
theorem Af{g B:Gm}(hg: ∀b o,g b=some o->B b=some o)(h:Dw g fd=true):Bj B fd.code fd.qualname:=
 Th h (λc ec h=>Th h (λo eo h=>Th h (λl el h=>Th h (λv ev h=>Th h (λq eq h=>(sI eq).elim λt et=>⟨c,o,l.toArray,t,jP ec,hg _ _ eo,F9 el,List.getElem?_toArray.trans (ev.trans (ac some (et.trans (ac (Value.str · t) (aT h)))))⟩) ft) ft) ft) ft) ft
include w in
theorem Do{g B:Gm}(hg: ∀b o,g b=some o->B b=some o)(h:Hp g fd=some dv):(fd.defaults= .none/\dv=[])\/ ∃T o n,fd.defaults= .ref T/\B T=some o/\o.data= .seq dv.toArray n:=
 Ui h (λq e=> .inl ⟨(jM (w:=w) q:_=_),(aC e).symm⟩) λh=>bA h λT eT h=>bA h λo eo h=>(Ei h).elim λn hn=> .inr ⟨T,o,n,jP eT,hg _ _ eo,hn⟩
theorem An(h:sR sc x=true):(x==("__debug__" :Str))=false/\(x==("__classdict__" :Str))=false/\(sc.names.lookup x=some .local\/sc.names.lookup x=some .cell\/sc.names.lookup x=some .free):=
 ⟨aT (an (an h).1).1,aT (an (an h).1).2,(Bool.or_eq_true_iff.mp (an h).2).elim (λq=>(Dp q).imp id .inl) λq=> .inr (.inr (aT q))⟩
theorem Pu{α β:Type}{o:Option α}{f:α->β}{g b:β}{p:Prop}(h:o.elim g f=b)(k: ∀a,o=some a->f a=b->p)(k':o=none->g=b->p):p:=by
 cases o with
 |none=>exact k' rfl h
 |some a=>exact k a rfl h
theorem AA{p:Str×AV}(h:Dz Bs.mg Bs.mb p=true):(p.1==("__debug__" :Str))=false/\xC Bs p.1 p.2:=
 ⟨aT (an h).1,Pu (an h).2 (λv e q=>⟨v,jM q,.inl e⟩) λhn q=>Th q (λv e q=>⟨v,jM q,.inr ⟨hn,e⟩⟩) ft⟩
theorem wE(h:yR fd xs=true):s4 fd xs:=
 have p2:=an (an h).2;have p3:=an p2.2;have p4:=an p3.2;have p5:=an p4.2
 ⟨List.isEmpty_iff.mp (an h).1,Option.isNone_iff_eq_none.mp p2.1,List.isEmpty_iff.mp p3.1,Option.isNone_iff_eq_none.mp p4.1,aT p5.1,aT p5.2⟩
inductive FnAt (Bs:Base w) (P:FuncData->List Stmt->Bool) (g:Gm) (f:Addr) (np nl:Nat) (d:aV) (gl:Gl):Prop
 |mk (fd:FuncData) (body:List Stmt) (dv:List Value) (F:zD Bs f fd body (cq fd.scope) np dv) (S:s9 Bs fd.scope (cq fd.scope) gl) (rep:ag w (λ_=>none) [] d dv) (ck:P fd body=true) (q1:(cq fd.scope).length=nl) (q2:np<=nl) (q3:d.length<=np) (q4:fnAt g f=some (fd,body))
theorem sG(hg: ∀b o,g b=some o->Bs.B b=some o)(h:Ch P g Bs.mg Bs.mb f np nl d gl=true):FnAt Bs P g f np nl d gl:=by
 refine Th h (λy hy h=> ?_) ft;have z:=an h;have z':=an z.2;refine Th z'.1 (λdv hdv k14=> ?_) ft;refine bA hy λo ho hy'=>bA hy' λfd hfd hy'=>ed hy' λb hb e=> ?_;obtain rfl:=e;have h2:=an (an z.1).2;have h3:=an h2.2;have h4:=an h3.2;have h5:=an h4.2;have h6:=an h5.2;have h7:=an h6.2;have h8:=an h7.2;have h9:=an h8.2;have h10:=an h9.2;have h11:=an h10.2;have h12:=an h11.2;have rep:=u8 (w:=w) (an k14).1;have d2:=aT (an k14).2;have all:=gj h12.1;exact⟨fd,b,dv,⟨⟨o,hg _ _ ho,FC hfd⟩,(Bool.not_eq_true' _).mp (an z.1).1,(Bool.not_eq_true' _).mp h2.1,aT h3.1,Af hg h4.1,C4 hb,List.isEmpty_iff.mp h5.1,aT h6.1,aT h7.1,wE h8.1,aT h9.1,d2,Do (w:=w) hg hdv,λx hx=>Dp (an (all x (List.mem_of_mem_take hx))).2,aT h12.2⟩,
  ⟨aT h3.1,aT h11.1,λx hx=>An (an (all x hx)).1,λp hp=>AA (gj (an z'.2).1 p hp)⟩,rep,(an z'.2).2,aT h10.1,bz (aT h9.1) (Nat.le_of_eq (aT h10.1)),rep.length▸d2,hy⟩
theorem yi{T}{lv}(hT: ∀Y:Cx,Y.lvl=lv->AC Bs Y T){fI}{TH}{kh}(RO:fm Bs 83 fI TH kh){gl}{ir}{nm}{scope}{body}(h:tE ir ⟨scope,nm,gl⟩ body=true)(hm:q5 ir ⟨scope,nm,gl⟩ body=body):
  BodyOk Bs lv T gl ir nm scope body:=by
 intro X hX hE hnm VI hl hsc hcp;have:=Nc hT RO (c:=⟨scope,nm,gl⟩) (X:=X) ⟨hX,hsc,hnm,VI⟩ hl hE hcp ir body h;rw[VI,hm] at this;exact this
structure uo (Bs:Base w):Prop where
 fn: ∀x∈dY,(∃g:Gm,(∀b o,g b=some o->Bs.B b=some o)/\Ii g Bs.mg Bs.mb x=true/\Ox g x=Ob g x)/\keepIn Bs.K (.ref x.1)=true
 mt: ∀C n f,K3 C n=some f->n∉lay C/\n<55/\plainGet Bs.K C (AN.getD n Str.empty)=true/\findIn Bs.K (.ref C) (AN.getD n Str.empty)=some (some (.ref f))/\isFn Bs.K (.ref f)=true
 sup: ∀C f,K3 C 44=some f-> ∃mc,specialIn Bs.K (.ref C) "__getattribute__" =some (some (.builtin "type.__getattribute__"))/\readsIn Bs.K C mc=true/\findCls Bs.K (.ref C) mc (AN.getD 44 Str.empty)=some (.val (.ref f))
 init: ∀C f,xT C=some f->makesIn Bs.K C=true/\findIn Bs.K (.ref C) "__init__" =some (some (.ref f))/\isFn Bs.K (.ref f)=true/\keepIn Bs.K (.ref C)=true
theorem Ho(h:Ox g x=Ob g x)(hy:fnAt g x.1=some (fd,body)):q5 (Kz x) (KI x fd) body=body:=by
 unfold Ox Ob at h;rw[hy] at h;exact aC h
theorem Eh{X}{l}{f}{scope}{body}{nm}{np nl}{dv}{d}{T}{gl}{ir}{r b}(hl:X.lvl=l+1)(hE:nP Bs f scope body nm np dv)(hS:s9 Bs scope nm gl)(hd:ag w (λ_=>none) [] d dv)(hB:BodyOk Bs l T gl ir nm scope body)(q1:nm.length=nl)(hnp:np<=nl)(hdn:d.length<=np):
  la Bs X f ⟨r,b,λargs σ=>k9 T gl nl np d b ir args σ⟩:=by
 subst q1;cases b with
 |true=>exact LA hE hS hd hB hnp hdn hl
 |false=>exact L5 hl hE hS hd hB hnp hdn
theorem M8(ST:uo Bs){fI}{TH}{kh}(RO:fm Bs 83 fI TH kh)(n): ∀Y:Cx,Y.lvl=n->AC Bs Y (aU n):=by
 induction n with
 |zero=>exact λY hl=>⟨λf sp h=>aB h,ST.mt,ST.sup,ST.init⟩
 |succ n ih=>
  refine λY hl=>⟨λf sp h=>ed h λx hx e=>e▸(eq_of_beq (List.find?_some hx:):x.1=f)▸ ?_,ST.mt,ST.sup,ST.init⟩;have z:=ST.fn _ (List.mem_of_find?_eq_some hx);exact⟨z.1.elim λg z=>(sG z.1 z.2.1).casesOn λfd body dv F S rep ck q1 q2 q3 q4=>Eh hl (pj F) S rep (yi ih RO (lv:=n) ck (Ho z.2.2 q4)) q1 q2 q3,z.2⟩
end
end
end Mine
namespace Mine
section
open PySem PySem.W PySem.Calls PyProof.Rows PySem.SeqAt
set_option maxHeartbeats 8000000
set_option maxRecDepth 1000000
noncomputable def gt(p:Params)(a:Addr):Option Obj:=cond (Nat.blt a 1220) (((MineH.IH p).get a).bind alive) none
theorem A3(h:gt p a=some o):(MineH.H1 p).get? a=some o:=eV h λq h=>bA h λo' h1 h2=>h2▸abs_get (Nat.le_of_ble_eq_true q) h1
noncomputable def J2:List Addr:=[227,283,318,352,446,499,555,731,780,836,1130]
noncomputable def KA:List Addr:=[227,226,283,282,318,317,352,351,446,445,499,498,555,554,731,730,780,779,836,835,1130,1129,83,82,46,45,36,2]++dY.map (·.1)
noncomputable def KK(p:Params):Frag:=KA.filterMap λa=>(gt p a).map λo=>(a,o)
theorem Lp(h:(KK p).lookup a=some o):gt p a=some o:=by
 unfold KK at h;generalize KA=l at h
 induction l with
 |nil=>cases h
 |cons b l ih=>
  rw[List.filterMap_cons] at h;cases q:gt p b with
  |none=>rw[q] at h;exact ih h
  |some x=>
   rw[q] at h;simp only[Option.map_some,List.lookup_cons] at h;split at h
   ·rename_i e;cases h;rw[eq_of_beq e];exact q
   ·exact ih h
noncomputable def N0(d:Data):Option (List DictEntry):=match d with
 | .dict es _=>some es.toList
 |_=>none
theorem E2{d}(h:N0 d=some l): ∃n,d= .dict l.toArray n:=by
 cases d<;>first|exact aB h|skip
 obtain rfl:=aC h;exact⟨_,rfl⟩
noncomputable def dictAt(p:Params)(a:Addr):Option (List DictEntry):=(gt p a).bind λo=>N0 o.data
noncomputable def Jb(e:DictEntry):Option Str:=JY e.key
noncomputable def DK(name:Str):List DictEntry->Option Value
 | []=>none
 |e::l=>(Jb e).elim none λx=>cond (x==name) (some e.val) (DK name l)
noncomputable def tQ(p:Params)(a:Addr)(x:Str):Option Value:=DK x ((dictAt p a).getD [])
noncomputable def s6(p:Params)(a:Addr):Bool:=(dictAt p a).elim false λl=>l.all λe=>(Jb e).isSome
theorem BW{l}(h:l.all (λe=>(Jb e).isSome)=true)(x):nsFind l.toArray x=DK x l:=by
 show(l.toArray.find? _).map _=_;rw[<-Array.find?_toList]
 induction l with
 |nil=>rfl
 |cons e l ih=>
  have z:=an h;obtain⟨y,hk⟩:=Option.isSome_iff_exists.mp z.1;obtain⟨t,hy⟩:=sI hk;have e1:e.key.isStr x=(y==x):=ac (λv:Value=>v.isStr x) hy;have e2:DK x (e::l)=cond (y==x) (some e.val) (DK x l):=ac (λo:Option Str=>o.elim none λy=>cond (y==x) (some e.val) (DK x l)) hk;rw[e2];cases q:(y==x) with
  |true=>exact ac (Option.map _) (xG (p:=λe:DictEntry=>e.key.isStr x) (x:=e) (e1.trans q))
  |false=>exact(ac (Option.map _) (oE (p:=λe:DictEntry=>e.key.isStr x) (x:=e) (e1.trans q))).trans (ih z.2)
theorem yO(h:s6 p a=true)(hh:Heap)(k: ∀b o,(MineH.H1 p).get? b=some o->hh.get? b=some o):hh.Ns a (tQ p a):=
 Th h (λl hd h=>bA hd λo ho hl=>(E2 hl).elim λn hn=>⟨o,l.toArray,n,k _ _ (A3 ho),hn,λe he=>(Option.isSome_iff_exists.mp (gj h e (List.mem_toArray.mp he))).elim λx hx=>(sI hx).elim λt ht=>⟨x,t,ht⟩,λx=>(BW h x).trans (ac (λl=>DK x (Option.getD l [])) hd).symm⟩) ft
theorem Kj(p):s6 p mainGlobals=true:=⋯
theorem GO(p):s6 p builtinsNs=true:=⋯
theorem Ct(p):s6 p cStatics=true:=⋯
theorem LL(p):(tQ p cStatics "sys.recursionlimit").isNone=true:=⋯
noncomputable def Nv(v:Value)(s:String):Bool:=(nC v).elim false λp=>decide (p=(true,s))
noncomputable def Kc(v:Value)(a:Addr):Bool:=(rJ v).elim false λb=>decide (b=a)
theorem Fp(h:Nv v s=true):v= .builtin s:=Th h (λp e h=>vd e (aT h▸rfl)) ft
theorem yc(h:Kc v s=true):v= .ref s:=Th h (λp e h=>(jP e).trans (ac _ (aT h))) ft
noncomputable def NY(x:Option (Option Value))(f:Value->Bool):Bool:=x.elim false λy=>y.elim false f
noncomputable def GL(x:Option (Option Value))(s:String):Bool:=NY x λv=>Nv v s
noncomputable def D4(x:Option (Option Value))(a:Addr):Bool:=NY x λv=>Kc v a
noncomputable def EO{α:Type}(x:Option (Option α)):Bool:=x.elim false Option.isNone
theorem tM(h:GL x s=true):x=some (some (.builtin s)):=Th h (λy e h=>Th h (λv e' h=>e.trans (ac some (e'.trans (ac some (Fp h))))) ft) ft
theorem t7(h:D4 x a=true):x=some (some (.ref a)):=Th h (λy e h=>Th h (λv e' h=>e.trans (ac some (e'.trans (ac some (yc h))))) ft) ft
theorem tX{α:Type}{x:Option (Option α)}(h:EO x=true):x=some none:=Th h (λy e h=>e.trans (ac some (Option.isNone_iff_eq_none.mp h))) ft
noncomputable def HT(K:Frag):Bool:=J2.all λC=>hasDictIn K C&&(GL (findIn K (.ref C) "__setattr__") "object.__setattr__" &&(plainOver K C&&(lay C).all λn=>plainGet K C (AN.getD n Str.empty)&&(EO (takerIn K C (AN.getD n Str.empty))&&(findIn K (.ref C) (AN.getD n Str.empty)).elim false (noGet K))))
theorem Jo(p):HT (KK p)=true:=⋯
theorem Mn(h:K3 C n=some f):(C,n,f)∈Oc:=by
 obtain⟨x,e,rfl⟩:=Option.map_eq_some_iff.mp h;have q:=List.find?_some e;rw[Bool.and_eq_true] at q;rw[<-eq_of_beq q.1,<-eq_of_beq q.2];exact List.mem_of_find?_eq_some e
theorem Mt(h:xT C=some f):(C,f)∈Oj:=by
 obtain⟨x,e,rfl⟩:=Option.map_eq_some_iff.mp h;rw[<-eq_of_beq (List.find?_some e:)];exact List.mem_of_find?_eq_some e
noncomputable def Rf(x:Option CFound)(a:Addr):Bool:=match x with
 |some (.val v)=>Kc v a
 |_=>false
noncomputable def IU(K:Frag)(x:Addr×Nat×Addr):Bool:=decide (x.2.1∉lay x.1)&&(decide (x.2.1<55)&&(plainGet K x.1 (AN.getD x.2.1 Str.empty)&&(D4 (findIn K (.ref x.1) (AN.getD x.2.1 Str.empty)) x.2.2&&(isFn K (.ref x.2.2)&&
 (decide (x.2.1≠44)||(GL (specialIn K (.ref x.1) "__getattribute__") "type.__getattribute__" &&(readsIn K x.1 (.type "type")&&Rf (findCls K (.ref x.1) (.type "type") (AN.getD 44 Str.empty)) x.2.2)))))))
noncomputable def JP(K:Frag)(x:Addr×Addr):Bool:=makesIn K x.1&&(D4 (findIn K (.ref x.1) "__init__") x.2&&(isFn K (.ref x.2)&&keepIn K (.ref x.1)))
noncomputable def PV(p:Params):Bool:=Oc.all (IU (KK p))&&(Oj.all (JP (KK p))&&dY.all λx=>Ii (gt p) (tQ p mainGlobals) (tQ p builtinsNs) x&&keepIn (KK p) (.ref x.1))
theorem Pf(p):PV p=true:=⋯
theorem PG(p):dY.map (Ox (gt p))=dY.map (Ob (gt p)):=⋯
end
end Mine
namespace Mine
section
open PySem PySem.W PySem.Calls PyProof.Rows PySem.SeqAt
set_option maxHeartbeats 400000
set_option maxRecDepth 1000000
theorem D3(hn:n∈lay C):C∈J2:=by
 obtain⟨x,hx,rfl,_⟩:=ym hn;exact(by decide+kernel: ∀x∈wm,x.1∈J2) x hx
noncomputable def base(w:World):Base w where
 prog:=MineH.P
 B:=(MineH.H1 w.params).get?
 mg:=tQ w.params mainGlobals
 mb:=tQ w.params builtinsNs
 K:=KK w.params
 hg:=λh k=>yO (Kj _) h k
 hb:=λh k=>yO (GO _) h k
 hK:=λh k a o e=>k _ _ (A3 (Lp e))
 lim:=λh k=>⟨_,yO (Ct _) h k,Option.isNone_iff_eq_none.mp (LL _)⟩
 two:=λh k=>by
  obtain⟨o,_,_,ho,_⟩:=yO (Ct w.params) h k;exact dA ∅ (Nat.le_of_lt (iL ho))
 attr:=λC n hn=>
  have z:=an (gj (Jo w.params) C (D3 hn));have z2:=an z.2;have z3:=an z2.2;have y:=an (gj z3.2 n hn);have y2:=an y.2
  ⟨y.1,z.1,tM z2.1,z3.1,tX y2.1,Th y2.2 (λa e q=>⟨a,e,q⟩) ft⟩
theorem IJ{x}(h:Rf x a=true):x=some (.val (.ref a)):=by
 cases x with
 |none=>exact ft h
 |some y=>cases y<;>first|exact ft h|exact ac (λv=>some (CFound.val v)) (yc h)
theorem zb(w): ∀b o,gt w.params b=some o->(base w).B b=some o:=λb o e=>by
 show(MineH.H1 w.params).get? b=some o;exact A3 e
theorem tu(w):(base w).mg=tQ w.params mainGlobals:=⋯
theorem zh(w):(base w).mb=tQ w.params builtinsNs:=⋯
theorem BS(w):(base w).K=KK w.params:=⋯
theorem Gd{w}{Bs:Base w}(hB: ∀b o,gt w.params b=some o->Bs.B b=some o)(hmg:Bs.mg=tQ w.params mainGlobals)(hmb:Bs.mb=tQ w.params builtinsNs)(hK:Bs.K=KK w.params):uo Bs:=
 have k:=an (show(Oc.all (IU (KK w.params))&&(Oj.all (JP (KK w.params))&&dY.all λx=>Ii (gt w.params) (tQ w.params mainGlobals) (tQ w.params builtinsNs) x&&keepIn (KK w.params) (.ref x.1)))=true from Pf w.params);have k2:=an k.2;have m: ∀{C n f},K3 C n=some f->IU Bs.K (C,n,f)=true:=λh=>by rw[hK];exact gj k.1 _ (Mn h)
 ⟨λx hx=>have z:=an (gj k2.2 x hx)
   ⟨⟨gt w.params,hB,by rw[hmg,hmb];exact z.1,List.map_inj_left.mp (PG w.params) x hx⟩,by rw[hK];exact z.2⟩,
  λC n f h=>have z:=an (m h)
   have z2:=an z.2;have z3:=an z2.2;have z4:=an z3.2
   ⟨aT z.1,aT z2.1,z3.1,t7 z4.1,(an z4.2).1⟩,
  λC f h=>(Bool.or_eq_true_iff.mp (an (an (an (an (an (m h)).2).2).2).2).2).elim (λq=>absurd rfl (aT q)) λq=>⟨.type "type",tM (an q).1,(an (an q).2).1,IJ (an (an q).2).2⟩,
  λC f h=>have z:=an (show JP Bs.K (C,f)=true by rw[hK];exact gj k2.1 _ (Mt h))
   have z2:=an z.2
   ⟨z.1,t7 z2.1,(an z2.2).1,(an z2.2).2⟩⟩
theorem Fz(w):uo (base w):=Gd (zb w) (tu w) (zh w) (BS w)
noncomputable def QJ(d:Data):ClassData:=match d with
 | .cls cd=>cd
 |_=>default
noncomputable def J4(p:Params):Obj:=(gt p 83).getD default
noncomputable def By(p:Params)(n:Nat):Option Value:=(J4 p).slots.toList.getD n none
noncomputable def nQ(p:Params):ClassData:=QJ (J4 p).data
noncomputable def QD(p:Params):Obj:=excClassObj (nQ p).name (nQ p).qualname 83 (nQ p).ns (nQ p).bases [.ref 46,.type "Exception",.type "BaseException",.type "object"] true (nQ p).slotNames (nQ p).subclasses (nQ p).abstract (nQ p).collection (J4 p).dict (By p 0) (By p 1) (By p 2) (By p 3) (By p 5) "Exception.__new__"
theorem MY(p):gt p 83=some (QD p):=⋯
noncomputable def PA(b:List Stmt):List Stmt:=[
 .Expr (.Call (.Attribute (.Name "Exception" (bL (bL (sx (hs b) 0) 0) 0).pos) "__init__" (bL (sx (hs b) 0) 0).pos) [.Name "self" (bL (sx (hs b) 0) 1).pos,.Name "what" (bL (sx (hs b) 0) 2).pos] [] (sx (hs b) 0).pos) (sk (hs b)).p,
 .Assign [.Attribute (.Name "self" (bL (sx (hs b.tail) 0) 0).pos) "what" (sx (hs b.tail) 0).pos] (.Name "what" (sx (hs b.tail) 1).pos) (sk (hs b.tail)).p,
 .Assign [.Attribute (.Name "self" (bL (sx (hs b.tail.tail) 0) 0).pos) "at" (sx (hs b.tail.tail) 0).pos] (.Name "at" (sx (hs b.tail.tail) 1).pos) (sk (hs b.tail.tail)).p]
noncomputable def M7(fd:FuncData)(b:List Stmt):Bool:=((bL (sx (hs b) 0) 0).pos.endLine==(sx (hs b) 0).pos.line)&&(decide (cq fd.scope=MN)&&(decide (fd.scope.names.lookup ("Exception" :Str)=some .globalImplicit)&&MN.all λx=>decide (fd.scope.names.lookup x=some .local)))
noncomputable def Hc(p:Params):Bool:=keepIn (KK p) (.ref 83)&&(D4 (findIn (KK p) (.ref 83) "__init__") 36&&(GL (findIn (KK p) (.ref 83) "__setattr__") "object.__setattr__" &&(EO (findIn (KK p) (.ref 83) "what")&&(EO (findIn (KK p) (.ref 83) "at")&&Ch M7 (gt p) (tQ p mainGlobals) (tQ p builtinsNs) 36 3 3 [.none] []))))
theorem NX(p):Hc p=true:=⋯
theorem JC(p):(fnAt (gt p) 36).map (λy=>PA y.2)=(fnAt (gt p) 36).map (·.2):=⋯
theorem Np(p):(gt p 36).map Obj.cls=some (.type "function"):=⋯
theorem PW(p):tQ p mainGlobals "Exception" =none:=⋯
theorem PP(p):tQ p builtinsNs "Exception" =some (.type "Exception"):=⋯
theorem F4:gc 83 [.ref 46,.type "Exception",.type "BaseException",.type "object"]:=⟨⋯,⋯,⋯,⋯,⋯⟩
theorem I7{w}{Bs:Base w}(hB: ∀b o,gt w.params b=some o->Bs.B b=some o)(hmg:Bs.mg=tQ w.params mainGlobals)(hmb:Bs.mb=tQ w.params builtinsNs)(hK:Bs.K=KK w.params): ∃scope body,fm Bs 83 36 scope body:=by
 have k:=NX w.params;unfold Hc at k;have k:=an k;have k3:=an k.2;have k5:=an k3.2;have k6:=an k5.2;have k7:=an k6.2;have VK:=PW w.params;have kbe:=PP w.params;have k8:=k7.2;rw[<-hmg,<-hmb] at k8;rw[<-hmg] at VK;rw[<-hmb] at kbe;rw[<-hK] at k3 k5 k6 k7 k;obtain⟨fd,body,dv,F,S,rep,ck,q1,q2,q3,q4⟩:=sG (Bs:=Bs) (g:=gt w.params) hB k8;obtain⟨v,r,rfl,rfl,rfl⟩:=rep;have c:=an ck;have c2:=an c.2;have c3:=an c2.2;have hm:=JC w.params;rw[q4] at hm;exact(Option.map_eq_some_iff.mp (Np w.params)).elim λoi ho=>⟨fd.scope,body,⟨⟨_,_,_,_,_,_,_,_,_,_,_,_,_,_,_,hB _ _ (MY w.params),F4,λx=>(refuseLoop_ref ..).trans (PySem.F.store_Exception.passes _)⟩,k.1,t7 k3.1,⟨oi,hB _ _ ho.1,ho.2⟩,tM k5.1,tX k6.1,tX k7.1,aT c2.1▸pj F,F.kind,λx hx=>aT (gj c3.2 x hx),aT c3.1,VK,kbe,⟨_,_,_,_,_,_,_,_,_,_,_,_,_,_,c.1,(aC hm).symm⟩⟩⟩
theorem Ix(w): ∃scope body,fm (base w) 83 36 scope body:=I7 (zb w) (tu w) (zh w) (BS w)
end
end Mine
namespace Mine
section
open PySem PySem.W
set_option genInjectivity false
set_option genSizeOf false
set_option maxRecDepth 1000000
inductive gu where
 |a
 |b (x:Bool)
 |v (x:AV)
 |r (x:Res AV) (σ:aX)
 |f (x:Res Fl) (s:St)
 |w (x:AV)
 |p (k:Nat) (o:AO)
 |g
noncomputable abbrev gu.k(x:AV)(σ:aX):gu:= .r (.ok x) σ
noncomputable abbrev gu.i(n:Int):gu:= .v (.int n)
noncomputable def gu.isA(y:gu):Bool:=y.casesOn (motive:=λ_=>Bool) true (λ_=>false) (λ_=>false) (λ_ _=>false) (λ_ _=>false) (λ_=>false) (λ_ _=>false) false
noncomputable def gu.Wi(y:gu):Bool:=y.casesOn (motive:=λ_=>Bool) false (λ_=>false) (λ_=>false) (λ_ _=>false) (λ_ _=>false) (λ_=>false) (λ_ _=>false) true
noncomputable def gu.b?(y:gu):Option Bool:=y.casesOn (motive:=λ_=>Option Bool) none some (λ_=>none) (λ_ _=>none) (λ_ _=>none) (λ_=>none) (λ_ _=>none) none
noncomputable def gu.v?(y:gu):Option AV:=y.casesOn (motive:=λ_=>Option AV) none (λ_=>none) some (λ_ _=>none) (λ_ _=>none) (λ_=>none) (λ_ _=>none) none
noncomputable def gu.w?(y:gu):Option AV:=y.casesOn (motive:=λ_=>Option AV) none (λ_=>none) (λ_=>none) (λ_ _=>none) (λ_ _=>none) some (λ_ _=>none) none
noncomputable def gu.r?(y:gu):Option (Res AV×aX):=y.casesOn (motive:=λ_=>Option (Res AV×aX)) none (λ_=>none) (λ_=>none) (λx σ=>some (x,σ)) (λ_ _=>none) (λ_=>none) (λ_ _=>none) none
noncomputable def gu.f?(y:gu):Option (Res Fl×St):=y.casesOn (motive:=λ_=>Option (Res Fl×St)) none (λ_=>none) (λ_=>none) (λ_ _=>none) (λx s=>some (x,s)) (λ_=>none) (λ_ _=>none) none
noncomputable def gu.p?(y:gu):Option (Nat×AO):=y.casesOn (motive:=λ_=>Option (Nat×AO)) none (λ_=>none) (λ_=>none) (λ_ _=>none) (λ_ _=>none) (λ_=>none) (λk o=>some (k,o)) none
structure XS where
 loc:List (Option AV)
 S9:aX
 c:List gu
 o:List Prop
noncomputable def XS.st(s:XS):St:=⟨s.loc,s.S9⟩
abbrev XO(α:Type):=Option (Res α×XS)
inductive All:List Prop->Prop
 |nil:All []
 |cons {p:Prop} {l:List Prop} (h:p) (t:All l):All (p::l)
theorem All.hd{p:Prop}:All (p::l)->p
 | .cons h _=>h
theorem All.tl{p:Prop}:All (p::l)->All l
 | .cons _ t=>t
noncomputable def ba{α β:Type}(x:XO α)(f:α->XS->XO β):XO β:=x.bind λp=>p.1.Th (λa=>f a p.2) λC=>some (.exc C,p.2)
def SX{α:Type}(m:St->Out α)(mx:XS->XO α):Prop:= ∀s q,mx s=some q->All q.2.o->All s.o/\m s.st=some (q.1,q.2.st)
theorem mq{α:Type}{q q':Res α×XS}(e:q'=q)(k:All q.2.o):All q'.2.o:=by
 subst e;exact k
theorem SX.bind{α β:Type}{m:St->Out α}{mx:XS->XO α}{f:α->St->Out β}{fx:α->XS->XO β}(h:SX m mx)(g: ∀a,SX (f a) (fx a)):SX (λs=>ao (m s) f) (λs=>ba (mx s) fx):=λs q e k=>bA e λy=>match y with
 |(.ok a,s1)=>λe1 e2=>have z:=g a s1 q e2 k
  have y:=h s _ e1 z.1
  ⟨y.1,(ac (ao · f) y.2).trans z.2⟩
 |(.exc C,s1)=>λe1 e2=>have e3:(Res.exc C,s1)=q:=aC e2
  have y:=h s _ e1 (mq e3 k:All (Res.exc C,s1).2.o)
  ⟨y.1,(ac (ao · f) y.2).trans (e3▸rfl)⟩
theorem SX.ret{α:Type}(a:Res α):SX (λs=>some (a,s)) (λs=>some (a,s)):=λs q e k=>⟨mq (aC e) k,aC e▸rfl⟩
theorem SX.no{α:Type}{m:St->Out α}:SX m (λs=>none):=λs q e=>aB e
theorem SX.eq{α:Type}{m m':St->Out α}{mx:XS->XO α}(h:SX m mx)(e: ∀s,m' s=m s):SX m' mx:=λs q z k=>⟨(h s q z k).1,(e _).trans (h s q z k).2⟩
noncomputable def need(p:Prop)(s:XS):XS:=⟨s.loc,s.S9,s.c,p::s.o⟩
noncomputable def Oe(s:XS):Option (gu×XS):=s.c.head?.map λy=>(y,⟨s.loc,s.S9,s.c.tail,s.o⟩)
theorem xq{s}{y:gu×XS}{p:Prop}(h:Oe s=some y)(k:y.2.st=s.st->y.2.o=s.o->p):p:=ed h λa e h=>k (h▸rfl) (h▸rfl)
noncomputable def vW{α γ:Type}(pr:gu->Option γ)(t:Option γ)(k:γ->XS->Res α×XS)(s:XS):XO α:=(Oe s).bind λy=>(pr y.1).elim (cond y.1.isA (t.map λx=>k x y.2) none) λx=>some (k x (need (t=some x) y.2))
theorem sy{α γ:Type}{pr:gu->Option γ}{t:Option γ}{k:γ->XS->Res α×XS}{s}{q:Res α×XS}{p:Prop}(h:vW pr t k s=some q)(ho: ∀x s,(k x s).2.o=s.o)(a:All q.2.o)(g: ∀x s1,t=some x->s1.st=s.st->All s.o->q=k x s1->p):p:=
 bA h λy hy h=>xq hy λe1 e2=>Th h (λx ex h=>have e3:=aC h
   have z:All ((t=some x)::y.2.o):=(ac All (ho x (need (t=some x) y.2))).mp (mq e3 a)
   g x (need (t=some x) y.2) z.hd e1 (e2▸z.tl) e3.symm) λh=>eV h λ_ h=>ed h λx ex e3=>g x y.2 ex e1 (e2▸(ac All (ho x y.2)).mp (mq e3 a)) e3.symm
noncomputable def Cf{α:Type}(x:α)(s:XS):Res α×XS:=(.ok x,s)
noncomputable def keepR(x:Res AV×aX)(s:XS):Res AV×XS:=(x.1,⟨s.loc,x.2,s.c,s.o⟩)
noncomputable def Ce{α:Type}(x:Res α×St)(s:XS):Res α×XS:=(x.1,⟨x.2.loc,x.2.S9,s.c,s.o⟩)
noncomputable def TF(t:Option Bool):XS->XO Bool:=vW gu.b? t Cf
noncomputable def Uc(t:Option AV):XS->XO AV:=vW gu.v? t Cf
noncomputable def TV(t:Option (Res AV×aX)):XS->XO AV:=vW gu.r? t keepR
noncomputable def LK(t:Out Fl):XS->XO Fl:=vW gu.f? t Ce
noncomputable def MT(t:Out AV)(s:XS):XO AV:=vW (λy=>y.r?.map λp=>(p.1,⟨s.loc,p.2⟩)) t Ce s
theorem oZ{α:Type}{pr:gu->Option α}{t:Option α}{s}{q:Res α×XS}(h:vW pr t Cf s=some q)(a:All q.2.o):All s.o/\bo s.st t=some (q.1,q.2.st):=sy h (λ_ _=>rfl) a λx s1 e1 e2 k e3=>⟨k,(ac (bo s.st) e1).trans (e3▸e2▸rfl)⟩
theorem tz{α:Type}{pr:gu->Option (Res α×St)}{t:Out α}{s}{q:Res α×XS}(h:vW pr t Ce s=some q)(a:All q.2.o):All s.o/\t=some (q.1,q.2.st):=sy h (λ_ _=>rfl) a λx s1 e1 e2 k e3=>⟨k,e1.trans (e3▸rfl)⟩
theorem EI{t:Out AV}{s}{q:Res AV×XS}(h:MT t s=some q)(a:All q.2.o):All s.o/\t=some (q.1,q.2.st):=tz (pr:=λy=>y.r?.map λp:Res AV×aX=>(p.1,(⟨s.loc,p.2⟩:St))) h a
theorem SX.TF(t:St->Option Bool):SX (λs=>bo s (t s)) (λs=>Mine.TF (t s.st) s):=λs q e k=>oZ e k
theorem SX.Uc(t:St->Option AV):SX (λs=>bo s (t s)) (λs=>Mine.Uc (t s.st) s):=λs q e k=>oZ e k
theorem SX.TV(t:St->Option (Res AV×aX)):SX (λs=>pA s (t s)) (λs=>Mine.TV (t s.st) s):=λs q e a=>sy e (λ_ _=>rfl) a λx s1 e1 e2 k e3=>⟨k,(ac (pA s.st) e1).trans (e3▸ac (λu:St=>some (x.1,(⟨u.loc,x.2⟩:St))) e2.symm)⟩
noncomputable def lL(T:Tb)(f:Addr)(vs:aV)(σ:aX):Option (Res AV×aX):=(T.fn f).bind λsp=>cR sp vs σ
noncomputable def pP(T:Tb)(f C:Addr)(vs:aV)(σ:aX):Option (Res AV×aX):=(T.fn f).bind λsp=>Ku sp C vs σ
noncomputable def nG{α:Type}(t:Option α)(s:XS):XO α:=t.map λx=>(.ok x,s)
theorem yz{α:Type}{t:Option α}{s}{q:Res α×XS}(e:nG t s=some q)(k:All q.2.o):All s.o/\bo s.st t=some (q.1,q.2.st):=ed e λx ex e=>⟨mq e k,(ac (bo s.st) ex).trans (e▸rfl)⟩
theorem SX.auto{α:Type}(t:St->Option α):SX (λs=>bo s (t s)) (λs=>nG (t s.st) s):=λs q e k=>yz e k
noncomputable def Oq{α γ:Type}(pr:gu->Option γ)(alt:XO α)(k:γ->XS->XO α)(s:XS):XO α:=(Oe s).elim alt λy=>(pr y.1).elim alt λx=>k x y.2
theorem xz{α γ:Type}{pr:gu->Option γ}{alt:XO α}{k:γ->XS->XO α}{s}{q:Res α×XS}{p:Prop}(h:Oq pr alt k s=some q)(h1:alt=some q->p)(h2: ∀x s1,s1.st=s.st->s1.o=s.o->k x s1=some q->p):p:=
 Th h (λy hy h=>xq hy λe1 e2=>Th h (λx ex h=>h2 x y.2 e1 e2 h) h1) h1
noncomputable def MU(t:Option AV)(s:XS):XO AV:=Oq gu.w? (nG t s) (λv s=>some (.ok v,need (t=some v) s)) s
theorem B6{t}{s}{q:Res AV×XS}(e:MU t s=some q)(k:All q.2.o):All s.o/\bo s.st t=some (q.1,q.2.st):=xz e (λe=>yz e k) λv s1 e1 e2 h=>
 have z:All ((t=some v)::s1.o):=mq (aC h) k
 ⟨e2▸z.tl,(ac (bo s.st) z.hd).trans (e1▸aC h▸rfl)⟩
theorem SX.at(t:St->Option AV):SX (λs=>bo s (t s)) (λs=>MU (t s.st) s):=λs q e k=>B6 e k
noncomputable def Lg(op:Operator)(a b:Int):Option (Int×Bool):=match op with
 | .Mult=>some (a*b,small b)
 | .Pow=>some (a ^ b.toNat,small a&&decide (0<=b)&&decide (b<=1000))
 | .LShift=>some (a*2 ^ b.toNat,small a&&decide (0<=b)&&decide (b<=1000))
 | .RShift=>some (Int.fdiv a (2 ^ b.toNat),decide (0<=b))
 |_=>none
theorem DQ{σ}{op}{a b}(h:Lg op a b=some p)(k:p.2=true):binI σ op (.int a) (.int b)=some (.int p.1):=by
 cases op<;>first|exact aB h|(obtain rfl:=aC h;exact if_pos k)
noncomputable def LJ(op:Operator)(x y:AV)(s:XS):XO AV:=(x.i?.bind λa=>y.i?.bind λb=>Lg op a b).elim (MU (binI s.S9 op x y) s) λp=>some (.ok (.int p.1),need (p.2=true) s)
theorem SX.bin(op)(x y):SX (λs=>bo s (binI s.S9 op x y)) (λs=>LJ op x y s):=λs q e k=>Th e (λp ep h=>bA ep λa ea ep=>bA ep λb eb ep=>
 have z:All ((p.2=true)::s.o):=mq (aC h) k
 ⟨z.tl,(ac (bo s.st) ((jl ea▸jl eb▸DQ ep z.hd:binI s.S9 op x y=some (.int p.1)))).trans (aC h▸rfl)⟩) λe=>B6 e k
noncomputable def Nk(x:AV)(lo hi:Option Int)(s:XS):XO AV:=x.b?.elim (MU (vC s.S9 x lo hi) s) λb=>some (.ok (.bytes (cf b lo hi)),need (b.length<=100000) s)
theorem SX.TL(x)(lo hi):SX (λs=>bo s (vC s.S9 x lo hi)) (λs=>Nk x lo hi s):=λs q e k=>Th e (λb eb h=>
 have z:All ((b.length<=100000)::s.o):=mq (aC h) k
 ⟨z.tl,(ac (bo s.st) (show vC s.S9 x lo hi=some (AV.bytes (cf b lo hi)) from(Bz eb).symm▸ac (cond · (some (AV.bytes (cf b lo hi))) none) (bU z.hd))).trans (aC h▸rfl)⟩) λe=>B6 e k
noncomputable def qy{α:Type}(v:AV)(s:XS)(f:Bool->XS->XO α):XO α:=v.b.bind λb=>f b s
theorem SX.bool{α:Type}(v){f:Bool->St->Out α}{fx:Bool->XS->XO α}(h: ∀b,SX (f b) (fx b)):SX (λs=>r5 v s f) (λs=>qy v s fx):=λs q e k=>bA e λb eb e=>⟨(h b s q e k).1,(ac (Option.bind · λb=>f b s.st) eb).trans (h b s q e k).2⟩
theorem SX.ite{α:Type}(c){a b:St->Out α}{ax bx:XS->XO α}(h:SX a ax)(g:SX b bx):SX (λs=>cond c (a s) (b s)) (λs=>cond c (ax s) (bx s)):=by
 cases c
 ·exact g
 ·exact h
noncomputable def QU{α:Type}(t:Bool)(s:XS)(k:XS->XO α):XO α:=Oq (λy=>cond y.Wi (some ()) none) (cond t (k s) none) (λ_ s=>k (need (t=true) s)) s
theorem SX.sm{α:Type}(t:St->Bool){m:St->Out α}{mx:XS->XO α}(h:SX m mx):SX (λs=>KX (t s) s m) (λs=>QU (t s.st) s mx):=λs q e k=>xz e (λe=>eV e λht e=>⟨(h s q e k).1,(ac (cond · (m s.st) none) ht).trans (h s q e k).2⟩) λ_ s1 e1 e2 e=>
 have z:=h (need (t s.st=true) s1) q e k;have y:All ((t s.st=true)::s1.o):=z.1
 ⟨e2▸y.tl,(ac (cond · (m s.st) none) y.hd).trans (e1▸z.2:m s.st=_)⟩
noncomputable def mG{α β:Type}(o:Option α)(s:XS)(k:α->XS->XO β):XO β:=o.bind λa=>k a s
theorem SX.opt{α β:Type}(o:Option α){k:α->St->Out β}{kx:α->XS->XO β}(h: ∀a,o=some a->SX (k a) (kx a)):SX (λs=>fh o s k) (λs=>mG o s kx):=by
 cases o with
 |none=>exact SX.no
 |some a=>exact h a rfl
noncomputable def NH{α:Type}(x:AV)(s:XS)(k:Addr->XS->XO α):XO α:=(view s.S9 x).o.bind λp=>k p.1 s
theorem SX.obj{α:Type}(x){k:Addr->St->Out α}{kx:Addr->XS->XO α}(h: ∀C,SX (k C) (kx C)):SX (λs=>Mp x s k) (λs=>NH x s kx):=λs q e hk=>bA e λp ep e=>⟨(h p.1 s q e hk).1,(ac (Option.bind · λp:Addr×aV=>k p.1 s.st) ep).trans (h p.1 s q e hk).2⟩
noncomputable def GB(b:Bool)(s:XS)(o:AO):XO AV:=cond b (some (.ok (.ref s.S9.length),⟨s.loc,s.S9++ [o],s.c,s.o⟩)) none
theorem SX.add(b)(o):SX (λs=>xB b s o) (λs=>GB b s o):=λs q e k=>by
 cases b with
 |false=>exact aB e
 |true=>exact⟨mq (aC e) k,ac (λq:Res AV×XS=>some (q.1,q.2.st)) (aC e)⟩
section
variable (T:Tb) (gl:Gl)
noncomputable def L0{α:Type}(g:Nat)(s:XS)(k:Addr->XS->XO α):XO α:=mG (Ek gl g) s k
mutual
noncomputable def bH:IE->XS->XO AV
 | .k c,s=>some (.ok c,s)
 | .var i,s=>nG (s.loc[i]?).join s
 | .glob i,s=>nG (gl[i]?.map (·.2)) s
 | .bin op a b,s=>ba (bH a s) λx s=>ba (bH b s) λy s=>LJ op x y s
 | .neg i,s=>some (.ok (.int (-i)),s)
 | .nt t,s=>ba (bH t s) λx s=>qy x s λb s=>some (.ok (.bool !b),s)
 | .Td t a b,s=>ba (jz t (bH t) s) λc s=>cond c (bH a s) (bH b s)
 | .lst l,s=>ba (dQ l s) λvs s=>GB (decide (vs.length<=1000)) s (.lst vs)
 | .tup l,s=>ba (dQ l s) λvs s=>nG (cond (decide (vs.length<=1000)) (some (.tup vs)) none) s
 | .Tl ks l,s=>ba (dQ l s) λvs s=>GB (ks.length==vs.length) s (.Tl ks vs)
 | .Tz ks l,s=>ba (dQ l s) λvs s=>GB (ks.length==vs.length) s (.Tz ks vs)
 | .cmp op a b,s=>ba (bH a s) λx s=>ba (bH b s) λy s=>nG ((eP s.S9 op x y).map .bool) s
 | .Uh ..,_=>none
 | .and l,s=>KM l s
 | .or l,s=>J9 l s
 | .attr e n,s=>ba (bH e s) λx s=>MU (dz s.S9 x n) s
 | .sub e i,s=>ba (bH e s) λx s=>ba (bH i s) λy s=>Uc (dZ s.S9 x y) s
 | .TL e lo hi,s=>ba (bH e s) λx s=>ba (A7 lo s) λa s=>ba (A7 hi s) λb s=>Nk x a b s
 | .Tf g args,s=>L0 gl g s λf s=>mG (T.fn f) s λ_ s=>ba (dQ args s) λvs s=>TV (lL T f vs s.S9) s
 | .ccl g args,s=>L0 gl g s λC s=>mG (T.init C) s λf s=>mG (T.fn f) s λ_ s=>ba (dQ args s) λvs s=>TV (pP T f C vs s.S9) s
 | .sup g n args,s=>L0 gl g s λC s=>mG (T.mt C n) s λf s=>mG (T.fn f) s λ_ s=>ba (dQ args s) λvs s=>TV (lL T f vs s.S9) s
 | .blt b _ args,s=>ba (dQ args s) λvs s=>Uc (cL s.S9 b vs) s
 | .TG o n args,s=>ba (bH o s) λx s=>NH x s λC s=>mG (T.mt C n) s λf s=>mG (T.fn f) s λ_ s=>ba (dQ args s) λvs s=>TV (lL T f (x::vs) s.S9) s
 | .stm m o args,s=>ba (bH o s) λx s=>QU (C8 s.S9 m x) s λs=>ba (dQ args s) λvs s=>TV ((gT s.S9 m x vs).map λp=>(.ok p.1,p.2)) s
 | .comp elt cap ik g src cond,s=>MT (aw T gl (.comp elt cap ik g src cond) s.st) s
noncomputable def dQ:List IE->XS->XO (aV)
 | [],s=>some (.ok [],s)
 |e::l,s=>ba (bH e s) λv s=>ba (dQ l s) λvs s=>some (.ok (v::vs),s)
noncomputable def A7:Option IE->XS->XO (Option Int)
 |none,s=>some (.ok none,s)
 |some e,s=>ba (bH e s) λv s=>nG (v.i?.map some) s
noncomputable def KM:List IE->XS->XO AV
 | [],_=>none
 |e::l,s=>ba (bH e s) λv s=>qy v s λb s=>cond l.isEmpty (some (.ok (.bool b),s)) (ba (TF (some b) s) λb s=>cond b (KM l s) (some (.ok (.bool b),s)))
noncomputable def J9:List IE->XS->XO AV
 | [],_=>none
 |e::l,s=>ba (bH e s) λv s=>qy v s λb s=>cond l.isEmpty (some (.ok (.bool b),s)) (ba (TF (some b) s) λb s=>cond (!b) (J9 l s) (some (.ok (.bool b),s)))
noncomputable def jz:IE->(XS->XO AV)->XS->XO Bool
 | .nt t,_,s=>ba (jz t (bH t) s) λb s=>some (.ok !b,s)
 | .and l,_,s=>FW true l s
 | .or l,_,s=>FW false l s
 | .Td t a b,_,s=>ba (jz t (bH t) s) λc s=>cond c (jz a (bH a) s) (jz b (bH b) s)
 | .cmp op a b,_,s=>ba (bH a s) λx s=>ba (bH b s) λy s=>TF (eP s.S9 op x y) s
 | .Uh p q a b c,_,s=>ba (bH a s) λx s=>ba (bH b s) λy s=>ba (TF (eP s.S9 p x y) s) λu s=>
   cond u (ba (bH c s) λz s=>TF (eP s.S9 q y z) s) (some (.ok false,s))
 |_,w,s=>ba (w s) λv s=>qy v s λb s=>TF (some b) s
noncomputable def FW(stop:Bool):List IE->XS->XO Bool
 | [],s=>some (.ok stop,s)
 |e::l,s=>ba (jz e (bH e) s) λb s=>cond (b==stop) (FW stop l s) (some (.ok b,s))
end
theorem SX.fn(f){m:aV->St->Option (Res AV×aX)}{args:St->Out (aV)}{ax:XS->XO (aV)}(h:SX args ax)(c:aV->St->gF->Option (Res AV×aX))(hc: ∀vs s sp,T.fn f=some sp->m vs s=c vs s sp):
  SX (λs=>fh (T.fn f) s λsp s=>ao (args s) λvs s=>pA s (c vs s sp)) (λs=>mG (T.fn f) s λ_ s=>ba (ax s) λvs s=>Mine.TV (m vs s.st) s):=
 SX.opt (T.fn f) λsp hf=>SX.bind h λvs=>(SX.TV (m vs)).eq λs=>ac (pA s) (hc vs s sp hf).symm
theorem oU{α:Type}{f}{sp}{k:gF->Option α}(h:T.fn f=some sp):(T.fn f).bind k=k sp:=ac (Option.bind · k) h
def EX(i:IE):Prop:=SX (aw T gl i) (bH T gl i)/\SX (cg T gl i (aw T gl i)) (jz T gl i (bH T gl i))
structure LX (l:List IE):Prop where
 es:SX (br T gl l) (dQ T gl l)
 and:SX (th T gl l) (KM T gl l)
 or:SX (Fh T gl l) (J9 T gl l)
 all: ∀stop,SX (vp T gl stop l) (FW T gl stop l)
theorem QY{c b}{α:Type}{A B:α}:cond (b&& !c) A B=cond c B (cond b A B):=by cases c<;>cases b<;>rfl
theorem VA{w:St->Out AV}{wx:XS->XO AV}(h:SX w wx):SX (λs=>ao (w s) λv s=>bo s v.b) (λs=>ba (wx s) λv s=>qy v s λb s=>Mine.TF (some b) s):=SX.bind h λv=>λs q e k=>bA e λb eb e=>⟨(oZ e k).1,(ac (bo s.st) eb).trans (oZ e k).2⟩
variable {T gl}
theorem px{i}(h:SX (aw T gl i) (bH T gl i))(ht: ∀w,cg T gl i w=λs=>ao (w s) λv s=>bo s v.b)(hx: ∀w,jz T gl i w=λs=>ba (w s) λv s=>qy v s λb s=>Mine.TF (some b) s):EX T gl i:=
 ⟨h,by rw[ht,hx];exact VA h⟩
variable (T gl)
theorem Q5(i):EX T gl i:=
 IE.rec (motive_1:=EX T gl) (motive_2:=LX T gl) (motive_3:=λo=>SX (zF T gl o) (A7 T gl o))
  (λc=>px (SX.ret (.ok c)) (λ_=>rfl) λ_=>rfl)
  (λi=>px (SX.auto λs=>(s.loc[i]?).join) (λ_=>rfl) λ_=>rfl)
  (λi=>px (SX.auto λ_=>gl[i]?.map λp:Str×AV=>p.2) (λ_=>rfl) λ_=>rfl)
  (λop a b ia ib=>px (SX.bind ia.1 λx=>SX.bind ib.1 λy=>SX.bin op x y) (λ_=>rfl) λ_=>rfl)
  (λi=>px (SX.ret (α:=AV) (.ok (.int (-i)))) (λ_=>rfl) λ_=>rfl)
  (λt it=>⟨SX.bind it.1 λx=>SX.bool x λb=>SX.ret _,SX.bind it.2 λb=>SX.ret (.ok !b)⟩)
  (λt a b it ia ib=>⟨SX.bind it.2 λc=>SX.ite c ia.1 ib.1,SX.bind it.2 λc=>SX.ite c ia.2 ib.2⟩)
  (λl il=>px (SX.bind il.es λvs=>SX.add _ _) (λ_=>rfl) λ_=>rfl)
  (λl il=>px (SX.bind il.es λvs=>SX.auto λ_=>cond (decide (vs.length<=1000)) (some (AV.tup vs)) none) (λ_=>rfl) λ_=>rfl)
  (λks l il=>px (SX.bind il.es λvs=>SX.add _ _) (λ_=>rfl) λ_=>rfl)
  (λks l il=>px (SX.bind il.es λvs=>SX.add _ _) (λ_=>rfl) λ_=>rfl)
  (λop a b ia ib=>⟨SX.bind ia.1 λx=>SX.bind ib.1 λy=>SX.auto λs=>(eP s.S9 op x y).map AV.bool,SX.bind ia.1 λx=>SX.bind ib.1 λy=>SX.TF λs=>eP s.S9 op x y⟩)
  (λp q a b c ia ib ic=>⟨SX.no,SX.bind ia.1 λx=>SX.bind ib.1 λy=>SX.bind (SX.TF λs=>eP s.S9 p x y) λu=>SX.ite u (SX.bind ic.1 λz=>SX.TF λs=>eP s.S9 q y z) (SX.ret (.ok false))⟩)
  (λl il=>⟨il.and,il.all true⟩) (λl il=>⟨il.or,il.all false⟩)
  (λe n ie=>px (SX.bind ie.1 λx=>SX.at λs=>dz s.S9 x n) (λ_=>rfl) λ_=>rfl)
  (λe i ie ii=>px (SX.bind ie.1 λx=>SX.bind ii.1 λy=>SX.Uc λs=>dZ s.S9 x y) (λ_=>rfl) λ_=>rfl)
  (λe lo hi ie il ih=>px (SX.bind ie.1 λx=>SX.bind il λa=>SX.bind ih λb=>SX.TL x a b) (λ_=>rfl) λ_=>rfl)
  (λg args il=>px (SX.opt (Ek gl g) λf _=>SX.fn T f (m:=λvs s=>lL T f vs s.S9) il.es (λvs s sp=>cR sp vs s.S9) λvs s sp h=>oU T h) (λ_=>rfl) λ_=>rfl)
  (λg args il=>px (SX.opt (Ek gl g) λC _=>SX.opt (T.init C) λf _=>SX.fn T f (m:=λvs s=>pP T f C vs s.S9) il.es (λvs s sp=>Ku sp C vs s.S9) λvs s sp h=>oU T h) (λ_=>rfl) λ_=>rfl)
  (λg n args il=>px (SX.opt (Ek gl g) λC _=>SX.opt (T.mt C n) λf _=>SX.fn T f (m:=λvs s=>lL T f vs s.S9) il.es (λvs s sp=>cR sp vs s.S9) λvs s sp h=>oU T h) (λ_=>rfl) λ_=>rfl)
  (λb g args il=>px (SX.bind il.es λvs=>SX.Uc λs=>cL s.S9 b vs) (λ_=>rfl) λ_=>rfl)
  (λo n args io il=>px (SX.bind io.1 λx=>SX.obj x λC=>SX.opt (T.mt C n) λf _=>SX.fn T f (m:=λvs s=>lL T f (x::vs) s.S9) il.es (λvs s sp=>cR sp (x::vs) s.S9) λvs s sp h=>oU T h) (λ_=>rfl) λ_=>rfl)
  (λm o args io il=>px (SX.bind io.1 λx=>SX.sm (λs=>C8 s.S9 m x) (SX.bind il.es λvs=>SX.TV λs=>(gT s.S9 m x vs).map λp=>(Res.ok p.1,p.2))) (λ_=>rfl) λ_=>rfl)
  (λelt cap ik g src cond ie is ic=>px (λs q e k=>EI e k) (λ_=>rfl) λ_=>rfl)
  ⟨SX.ret (.ok []),SX.no,SX.no,λstop=>SX.ret (.ok stop)⟩
  (λe l ie il=>⟨SX.bind ie.1 λv=>SX.bind il.es λvs=>SX.ret (.ok (v::vs)),
   SX.bind ie.1 λv=>SX.bool v λb=>(SX.ite l.isEmpty (SX.ret (.ok (.bool b))) (SX.bind (SX.TF λ_=>some b) λb=>SX.ite b il.and (SX.ret (.ok (.bool b))))).eq λs=>QY,
   SX.bind ie.1 λv=>SX.bool v λb=>(SX.ite l.isEmpty (SX.ret (.ok (.bool b))) (SX.bind (SX.TF λ_=>some b) λb=>SX.ite (!b) il.or (SX.ret (.ok (.bool b))))).eq λs=>QY,
   λstop=>SX.bind ie.2 λb=>SX.ite (b==stop) (il.all stop) (SX.ret (.ok b))⟩)
  (SX.ret (.ok none)) (λe ie=>SX.bind ie.1 λv=>SX.auto λ_=>v.i?.map some) i
theorem CA(i):SX (aw T gl i) (bH T gl i):=(Q5 T gl i).1
theorem Q0(i):SX (cg T gl i (aw T gl i)) (jz T gl i (bH T gl i)):=(Q5 T gl i).2
theorem H5(l):SX (br T gl l) (dQ T gl l):=by
 induction l with
 |nil=>exact SX.ret (.ok [])
 |cons e l ih=>exact SX.bind (CA T gl e) λv=>SX.bind ih λvs=>SX.ret (.ok (v::vs))
end
section
variable (T:Tb) (gl:Gl)
noncomputable def Nx(t:Option (Nat×AO))(s:XS):XO Unit:=t.map λp=>(.ok (),⟨s.loc,s.S9.set p.1 p.2,s.c,s.o⟩)
noncomputable def H0(t:Option (Nat×AO))(s:XS):XO Unit:=Oq gu.p? (Nx t s) (λp s=>some (.ok (),need (t=some p) ⟨s.loc,s.S9.set p.1 p.2,s.c,s.o⟩)) s
theorem SX.set(t:St->Option (Nat×AO)):SX (λs=>zJ (t s) s) (λs=>H0 (t s.st) s):=λs q e k=>xz e (λe=>ed e λp ep e=>⟨mq e k,(ac (λo=>zJ o s.st) ep).trans (e▸rfl)⟩) λp s1 e1 e2 h=>
 have z:All ((t s.st=some p)::s1.o):=mq (aC h) k
 ⟨e2▸z.tl,(ac (λo=>zJ o s.st) z.hd).trans (aC h▸ac (λu:St=>some (Res.ok (),(⟨u.loc,u.S9.set p.1 p.2⟩:St))) e1.symm)⟩
noncomputable def JH:IT->AV->XS->XO Unit
 | .var i,v,s=>cond (decide (i<s.loc.length)) (some (.ok (),⟨s.loc.set i (some v),s.S9,s.c,s.o⟩)) none
 | .attr e n,v,s=>ba (bH T gl e s) λx s=>H0 (putAt x n v s.st) s
 | .sub e i,v,s=>ba (bH T gl e s) λx s=>ba (bH T gl i s) λy s=>H0 (jB x y v s.st) s
 | .tup _,_,_=>none
noncomputable def Bm:List IT->aV->XS->XO Unit
 | [],[],s=>some (.ok (),s)
 |t::ts,v::vs,s=>ba (JH T gl t v s) λ_ s=>Bm ts vs s
 |_,_,_=>none
noncomputable def vM(t:IT)(v:AV)(s:XS):XO Unit:=match t with
 | .tup ts=>(v.t?.elim v.l? some).bind λl=>cond (ts.length==l.length) (Bm T gl ts l s) none
 |t=>JH T gl t v s
variable {T gl}
theorem SX.loc{α:Type}{a:Res α}(c:St->Bool)(f:St->List (Option AV)):SX (λs=>cond (c s) (some (a,{s with loc:=f s})) none) (λs=>cond (c s.st) (some (a,⟨f s.st,s.S9,s.c,s.o⟩)) none):=λs q e k=>eV e λhc e=>⟨mq (aC e) k,(ac (cond · _ none) hc).trans (aC e▸rfl)⟩
theorem Oz(t)(v):SX (A1 T gl t v) (JH T gl t v):=by
 cases t with
 |var i=>exact SX.loc (λs=>decide (i<s.loc.length)) λs=>s.loc.set i (some v)
 |attr e n=>exact SX.bind (CA T gl e) λx=>SX.set λs=>putAt x n v s
 |sub e i=>exact SX.bind (CA T gl e) λx=>SX.bind (CA T gl i) λy=>SX.set λs=>jB x y v s
 |tup _=>exact SX.no
theorem PH(ts): ∀vs:aV,SX (pn T gl ts vs) (Bm T gl ts vs):=by
 induction ts with
 |nil=>intro vs;cases vs with
  |nil=>exact SX.ret (.ok ())
  |cons _ _=>exact SX.no
 |cons t ts ih=>intro vs;cases vs with
  |nil=>exact SX.no
  |cons v vs=>exact SX.bind (Oz t v) λ_=>ih vs
theorem Ik(t)(v):SX (nZ T gl t v) (vM T gl t v):=by
 cases t with
 |tup ts=>exact SX.opt (v.t?.elim v.l? some) λl _=>SX.ite (ts.length==l.length) (PH ts l) (SX.no (m:=λ_=>none))
 |var i=>exact Oz (T:=T) (gl:=gl) (.var i) v
 |attr e n=>exact Oz (T:=T) (gl:=gl) (.attr e n) v
 |sub e i=>exact Oz (T:=T) (gl:=gl) (.sub e i) v
end
noncomputable def xU(step:AV->XS->XO Fl):aV->XS->XO Fl
 | [],s=>some (.ok .next,s)
 |a::l,s=>ba (step a s) λf s=>f.Th (xU step l s) λv=>some (.ok (.ret v),s)
theorem Sw{step:AV->St->Out Fl}{sx:AV->XS->XO Fl}(h: ∀a,SX (step a) (sx a))(l):SX (dk step l) (xU sx l):=by
 induction l with
 |nil=>exact SX.ret (.ok Fl.next)
 |cons a l ih=>
  refine SX.bind (h a) λf=> ?_;cases f with
  |ret v=>exact SX.ret (.ok (Fl.ret v))
  |next=>exact ih
  |cont=>exact ih
section
variable (T:Tb) (gl:Gl)
mutual
noncomputable def qv:IS->XS->XO Fl
 | .asg t e,s=>ba (bH T gl e s) λv s=>ba (vM T gl t v s) λ_ s=>some (.ok .next,s)
 | .exp e,s=>ba (bH T gl e s) λv s=>cond v.T5 (some (.ok .next,s)) none
 | .ret e,s=>ba (bH T gl e s) λv s=>some (.ok (.ret v),s)
 | .Ud,s=>some (.ok (.ret .none),s)
 | .Td t a b,s=>ba (jz T gl t (bH T gl t) s) λc s=>cond c (dC a s) (dC b s)
 | .fr ik g es t body,s=>(Oe s).bind λy=>cond y.1.isA (ba (dQ T gl es y.2) λvs s=>mG (bN s.S9 ik vs) s λitems s=>xU (λa s=>ba (vM T gl t a s) λ_ s=>dC body s) items s) (LK (bf T gl (.fr ik g es t body) s.st) s)
 | .whl t body,s=>LK (bf T gl (.whl t body) s.st) s
 | .cont,s=>some (.ok .cont,s)
 | .pass,s=>some (.ok .next,s)
 | .TM g _,s=>L0 gl g s λC s=>cond (C==83) (some (.exc C,s)) none
 | .tri body g i,s=>(dC body s).bind λp=>p.1.Th (λf=>f.seq (some (.ok .next,p.2)) none) λC=>L0 gl g p.2 λC' s=>cond (C==C'&&decide (i<s.loc.length)) (some (.ok .next,⟨s.loc.set i (some .none),s.S9,s.c,s.o⟩)) none
noncomputable def dC:List IS->XS->XO Fl
 | [],s=>some (.ok .next,s)
 |e::l,s=>ba (qv e s) λf s=>f.seq (dC l s) (some (.ok f,s))
end
variable {T gl}
theorem SX.Vt{α β:Type}{t:St->Option α}{k:α->St->Out β}{kx:α->XS->XO β}(h: ∀a,SX (k a) (kx a)):SX (λs=>fh (t s) s k) (λs=>mG (t s.st) s kx):=λs q e hk=>bA e λa ea e=>⟨(h a s q e hk).1,(ac (Option.bind · λa=>k a s.st) ea).trans (h a s q e hk).2⟩
theorem PB{ik}{g}{es}{t}{body}(h:SX (ae T gl body) (dC T gl body)):SX (bf T gl (.fr ik g es t body)) (qv T gl (.fr ik g es t body)):=λs q e k=>bA e λy hy e=>xq hy λe1 e2=>Ui e (λ_ e=>
 have u:SX (bf T gl (.fr ik g es t body)) λs=>ba (dQ T gl es s) λvs s=>mG (bN s.S9 ik vs) s λitems s=>xU (λa s=>ba (vM T gl t a s) λ_ s=>dC T gl body s) items s:=
  SX.bind (H5 T gl es) λvs=>SX.Vt (t:=λs=>bN s.S9 ik vs) λitems=>Sw (λa=>SX.bind (Ik t a) λ_=>h) items
 have z:=u y.2 q e k
 ⟨e2▸z.1,e1▸z.2⟩) λe=>tz e k
theorem Mz{body}{g i}(h:SX (ae T gl body) (dC T gl body)):SX (bf T gl (.tri body g i)) (qv T gl (.tri body g i)):=λs q e k=>bA e λp hp e=>by
 obtain⟨x,s1⟩:=p;cases x with
 |exc C=>
  have z:=SX.opt (Ek gl g) (k:=λC' s=>cond (C==C'&&decide (i<s.loc.length)) (some (.ok Fl.next,{s with loc:=s.loc.set i (some .none)})) none) (λC' _=>SX.loc (a:= .ok Fl.next) (λs=>C==C'&&decide (i<s.loc.length)) λs=>s.loc.set i (some .none)) s1 q e k;have y:=h s _ hp z.1;exact⟨y.1,(ac (Option.bind · _) y.2).trans z.2⟩
 |ok f=>cases f with
  |next=>
   have y:=h s _ hp (mq (aC e) k:All s1.o);exact⟨y.1,(ac (Option.bind · _) y.2).trans (ac (λq:Res Fl×XS=>some (q.1,q.2.st)) (aC e))⟩
  |cont=>exact aB e
  |ret v=>exact aB e
theorem NA{e}{l}(h:SX (bf T gl e) (qv T gl e))(g:SX (ae T gl l) (dC T gl l)):SX (ae T gl (e::l)) (dC T gl (e::l)):=SX.bind h λf=>by
 cases f with
 |next=>exact g
 |cont=>exact SX.ret (.ok Fl.cont)
 |ret v=>exact SX.ret (.ok (Fl.ret v))
theorem QS(i):SX (bf T gl i) (qv T gl i):=
 IS.rec (motive_1:=λi=>SX (bf T gl i) (qv T gl i)) (motive_2:=λl=>SX (ae T gl l) (dC T gl l))
  (λt e=>SX.bind (CA T gl e) λv=>SX.bind (Ik t v) λ_=>SX.ret (.ok Fl.next))
  (λe=>SX.bind (CA T gl e) λv=>SX.ite v.T5 (SX.ret (.ok Fl.next)) (SX.no (m:=λ_=>none)))
  (λe=>SX.bind (CA T gl e) λv=>SX.ret (.ok (Fl.ret v)))
  (SX.ret (.ok (Fl.ret .none)))
  (λt a b ia ib=>SX.bind (Q0 T gl t) λc=>SX.ite c ia ib)
  (λik g es t body ib=>PB ib)
  (λt body ib s q e k=>tz e k)
  (SX.ret (.ok Fl.cont)) (SX.ret (.ok Fl.next))
  (λg m=>SX.opt (Ek gl g) λC _=>SX.ite (C==83) (SX.ret (.exc C)) (SX.no (m:=λ_=>none)))
  (λbody g i ib=>Mz ib)
  (SX.ret (.ok Fl.next)) (λe l ie il=>NA ie il) i
theorem E8(l):SX (ae T gl l) (dC T gl l):=by
 induction l with
 |nil=>exact SX.ret (.ok Fl.next)
 |cons e l ih=>exact NA (QS e) ih
theorem aY{l}{s s'}{r:Res Fl}{o}(c)(k:All o)(h:dC T gl l ⟨s.loc,s.S9,c,[]⟩=some (r,⟨s'.loc,s'.S9,[],o⟩)):ae T gl l s=some (r,s'):=(E8 l _ _ h k).2
end
end
end Mine
namespace Mine
section
open PySem PySem.W
local macro_rules |`(#[$a])=>`(.cons $a .nil)|`(#[$a,$as,*])=>`(.cons $a #[$as,*])
set_option genInjectivity false
set_option genSizeOf false
set_option maxRecDepth 1000000
noncomputable def call(n:Nat)(f:Addr)(vs:aV)(σ:aX):Option (Res AV×aX):=lL (aU n) f vs σ
noncomputable def pG:Res AV->Bool
 | .ok v=>flat v
 | .exc _=>true
theorem pS{α β:Type}{l:List α}{f:β->α->β}{b:β}(h: ∀a∈l,∀b,f b a=b):l.foldl f b=b:=by
 induction l generalizing b with
 |nil=>rfl
 |cons a l ih=>rw[List.foldl_cons,h a List.mem_cons_self];exact ih λa ha=>h a (List.mem_cons_of_mem _ ha)
theorem gO{l}:aM l=true-> ∀a∈l,flat a=true:=by
 induction l with
 |nil=>exact λ_ _=>fP
 |cons a l ih=>exact λh b hb=>(cW hb).elim (λe=>e▸(bG h).1) (ih (bG h).2 b)
theorem na{v}(h:flat v=true):v.r?=none/\aM v.kids=true:=by
 cases v with
 |ref k=>exact ft h
 |tup l=>exact⟨rfl,h⟩
 |lst l=>exact⟨rfl,h⟩
 |Tl _ l=>exact⟨rfl,h⟩
 |obj _ l=>exact⟨rfl,h⟩
 |_=>exact⟨rfl,rfl⟩
theorem sF(n): ∀{v:AV} {σ:aX},flat v=true->fz n v σ=σ:=by
 induction n with
 |zero=>exact λ_=>rfl
 |succ n ih=>exact fun{v σ} h=>(ac (λo:Option Nat=>o.elim _ _) (na h).1).trans (pS λa ha σ=>ih (gO (na h).2 a ha))
theorem uw{α:Type}{l:List α}{f:α->α}(h: ∀a∈l,f a=a):l.map f=l:=by
 induction l with
 |nil=>rfl
 |cons a l ih=>rw[List.map_cons,h a List.mem_cons_self,ih λa ha=>h a (List.mem_cons_of_mem _ ha)]
theorem En{v}{g:AV->AV}(h:flat v=true)(hg: ∀a,flat a=true->g a=a):v.Us (·.map g)=v:=by
 have z: ∀{l:aV},aM l=true->l.map g=l:=λh=>uw λa ha=>hg a (gO h a ha);cases v with
 |tup l=>exact ac AV.tup (z h)
 |lst l=>exact ac AV.lst (z h)
 |Tl ks l=>exact ac (AV.Tl ks) (z h)
 |Tz ks l=>exact ac (AV.Tz ks) (z h)
 |dct ks l=>exact ac (AV.dct ks) (z h)
 |obj C l=>exact ac (AV.obj C) (z h)
 |_=>rfl
theorem gq(n): ∀{v:AV} {σ:aX},flat v=true->rs n σ v=v:=by
 induction n with
 |zero=>exact λ_=>rfl
 |succ n ih=>exact fun{v σ} h=>(ac (λo:Option Nat=>o.elim _ _) (na h).1).trans (En h λa ha=>ih ha)
theorem wK{σ}{o}{p:AV×aV}(h:σ[k]?=some o)(e:o.toV=some p)(hf:aM p.2=true):fz (n+1) (.ref k) σ=σ.set k (.Tg p.1):=
 (ac (λx:Option AO=>(x.bind AO.toV).elim σ λp=>p.2.foldl (λσ v=>fz n v σ) (σ.set k (.Tg p.1))) h).trans ((ac (λx:Option (AV×aV)=>x.elim σ λp=>p.2.foldl (λσ v=>fz n v σ) (σ.set k (.Tg p.1))) e).trans (pS λa ha σ=>sF n (gO hf a ha)))
theorem tT{σ}{v}(h:σ[k]?=some (.Tg v))(hv:flat v=true):rs (n+1) σ (.ref k)=v:=(ac (λx:Option AO=>(x.bind AO.f?).elim (AV.ref k) (rs n σ)) h).trans (gq n hv)
theorem dG{l}{σ}(h:aM l=true):jk l σ=σ:=pS λa ha σ=>sF 8 (gO h a ha)
theorem cE{l}{σ}{n}(h:aM l=true):l.map (rs n σ)=l:=uw λa ha=>gq n (gO h a ha)
theorem ud(h1:sp.TB=false)(h2:sp.byref=false)(h3:aM vs=true)(h4:sp.run vs []=some (r,σ'))(h5:pG r=true):cR sp vs σ=some (r,σ):=by
 have e:cR sp vs σ=yd sp vs σ:=(ac (cond · _ _) h1).trans (ac (cond · _ _) h2);rw[e];unfold yd;rw[dG h3,cE h3,h3,h4];cases r with
 |ok v=>exact ac (cond · _ none) h5
 |exc C=>rfl
noncomputable def je(m:Bool)(r:Res Fl)(σ S9:aX):Option (Res AV×aX):=r.Th (λf=>f.val.bind λv=>cond m (Ms v S9) (td v σ.length S9)) λC=>cond m none (some (.exc C,σ.map λ_=> .dead))
noncomputable def Ja(T:Tb)(gl:Gl)(nl np:Nat)(d:aV)(m:Bool)(body:List IS)(args:aV)(σ:aX)(c:List gu):Option (Option (Res AV×aX)×List Prop):=
 cond (decide (np-d.length<=args.length)&&decide (args.length<=np)) ((dC T gl body ⟨(c0 np d args).map some++List.replicate (nl-(c0 np d args).length) none,σ,c,[]⟩).bind λp=>cond p.2.c.isEmpty (some (je m p.1 σ p.2.S9,p.2.o)) none) none
theorem yE{T}{gl}{nl np}{d}{m}{body}{args}{σ}{c}{x}{o}(h:Ja T gl nl np d m body args σ c=some (x,o))(k:All o):k9 T gl nl np d m body args σ=x:=
 eV h λhb h=>bA h λp hp h=>eV h λ_ h=>(ac (cond · _ none) hb).trans ((ac (Option.bind · λp:Res Fl×St=>je m p.1 σ p.2.S9) (E8 (T:=T) (gl:=gl) body _ _ hp ((so h).2▸k)).2).trans (so h).1)
noncomputable def Rh(n:Nat)(f:Addr)(vs:aV)(c:List gu):Option (Option (Res AV×aX)×List Prop):=(dY.find? (·.1==f)).bind λx=>cond (x.2.1||x.2.2.1) none (Ja (aU n) x.2.2.2.2.2.2.1 x.2.2.2.2.1 x.2.2.2.1 x.2.2.2.2.2.1 x.2.2.1 x.2.2.2.2.2.2.2 vs [] c)
theorem gv(n)(f)(vs)(σ):call (n+1) f vs σ=(dY.find? (·.1==f)).bind λx=>cR (kD (aU n) x) vs σ:=Option.bind_map ..
theorem xA(c)(k:All o)(h:Rh n f vs c=some (some (res,[]),o))(σ)(hv:aM vs=true)(hr:pG res=true):call (n+1) f vs σ=some (res,σ):=
 bA h λx hx h=>Ie h λhb h=>(gv n f vs σ).trans ((ac (Option.bind · λx=>cR (kD (aU n) x) vs σ) hx).trans (ud (sp:=kD (aU n) x) (Bool.or_eq_false_iff.mp hb).2 (Bool.or_eq_false_iff.mp hb).1 hv (yE h k) hr))
theorem Sq{a b:Int}(h:a=b):some (a==b)=some true:=ac some (beq_iff_eq.mpr h)
theorem RC{a b:Int}(h:a≠b):some (a==b)=some false:=ac some (beq_eq_false_iff_ne.mpr h)
theorem qT{p:Prop}[Decidable p](h:p):some (decide p)=some true:=ac some (bU h)
theorem qF{p:Prop}[Decidable p](h: ¬p):some (decide p)=some false:=ac some (decide_eq_false h)
theorem eY(h:b.length<=1000):cL [] .len [.bytes b]=some (.int b.length):=if_pos (bz h ∅)
noncomputable def stepI(T:Tb)(gl:Gl)(t:IT)(body:List IS)(a:AV)(s:St):Out Fl:=ao (nZ T gl t a s) λ_ s=>ae T gl body s
noncomputable def turn(T:Tb)(gl:Gl)(t:IT)(body:List IS)(a:AV)(s:St)(c:List gu):Option (Res Fl×St×List Prop):=(ba (vM T gl t a ⟨s.loc,s.S9,c,[]⟩) λ_ s=>dC T gl body s).bind λp=>cond p.2.c.isEmpty (some (p.1,p.2.st,p.2.o)) none
theorem ce{T}{gl}{t}{body}{a}{s s'}{r:Res Fl}{o}(c)(k:All o)(h:turn T gl t body a s c=some (r,s',o)):stepI T gl t body a s=some (r,s'):=
 bA h λp hp h=>eV h λ_ h=>have e:=Prod.mk.inj (aC h)
  have e2:=Prod.mk.inj e.2
  ((SX.bind (Ik (T:=T) (gl:=gl) t a) λ_=>E8 body) _ p hp (e2.2▸k)).2.trans (ac some (Prod.mk.injEq .. ▸⟨e.1,e2.1⟩))
theorem wG(h:br T gl es s=some (.ok vs,s1))(hi:bN s1.S9 ik vs=some items):bf T gl (.fr ik g es t body) s=dk (stepI T gl t body) items s1:=
 (ac (ao · λvs s=>fh (bN s.S9 ik vs) s λitems s=>dk (stepI T gl t body) items s) h).trans (ac (λo=>fh o s1 λitems s=>dk (stepI T gl t body) items s) hi)
theorem rZ(h:br T gl es s=some (.ok vs,s))(hi:bN s.S9 ik vs=some items):bf T gl (.fr ik g es t body) s=dk (stepI T gl t body) items s:=wG h hi
theorem cC{step:AV->St->Out Fl}{a}{l}{s s1}(h:step a s=some (.ok .next,s1)):dk step (a::l) s=dk step l s1:=by
 show ao (step a s) _=_;rw[h];rfl
theorem zv{step:AV->St->Out Fl}{a}{l}{s s1}(h:step a s=some (.ok .cont,s1)):dk step (a::l) s=dk step l s1:=by
 show ao (step a s) _=_;rw[h];rfl
theorem ig{step:AV->St->Out Fl}{a v}{l}{s s1}(h:step a s=some (.ok (.ret v),s1)):dk step (a::l) s=some (.ok (.ret v),s1):=by
 show ao (step a s) _=_;rw[h];rfl
noncomputable def lit:List UInt8->Int
 | []=>0
 |c::l=>c.toNat+256*lit l
noncomputable def sgn(l:List UInt8):Int:=if(l.getLast?.elim 0 UInt8.toNat)<128 then lit l else lit l-256 ^ l.length
theorem bV(c:UInt8):c.toNat<256:=c.toNat_lt
theorem Cb: ∀l,0<=lit l
 | []=>Int.le_refl 0
 |c::l=>Int.add_nonneg (Int.natCast_nonneg _) (Int.mul_nonneg ∅ (Cb l))
theorem CC: ∀l,lit l<256 ^ l.length
 | []=>by decide
 |c::l=>by
  have h:=CC l;have hc:=bV c;show(c.toNat:Int)+256*lit l<256 ^ (l.length+1);rw[Int.pow_succ];omega
theorem p256(n):(256:Int)^ n=2 ^ (8*n):=by
 rw[Int.pow_mul];rfl
theorem uP: ∀(l:List UInt8),l≠ []->((l.getLast?.elim 0 UInt8.toNat)<128↔lit l<2 ^ (8*l.length-1))
 | [c],_=>by
  show c.toNat<128↔(c.toNat:Int)+256*0<128;omega
 |c::d::l,_=>by
  have h:=uP (d::l) (List.cons_ne_nil _ _);have hc:=bV c;rw[List.getLast?_cons_cons,h];have e:(2:Int)^ (8*(c::d::l).length-1)=2 ^ (8*(d::l).length-1)*256:=by
   rw[show 8*(c::d::l).length-1=(8*(d::l).length-1)+8 by simp only[List.length_cons];omega,Int.pow_add];rfl
  rw[e];show _↔(c.toNat:Int)+256*lit (d::l)<_;generalize (2:Int)^ (8*(d::l).length-1)=z;omega
theorem uD(hW:0<=W)(hl:W<2 ^ k)(hc:0<=c):Builtin.bitOr W (c*2 ^ k)=W+c*2 ^ k:=by
 obtain⟨a,rfl⟩:=Int.eq_ofNat_of_zero_le hW;obtain⟨b,rfl⟩:=Int.eq_ofNat_of_zero_le hc;have e:((b:Int)*2 ^ k)=((b<<<k:Nat):Int):=by rw[Nat.shiftLeft_eq,Int.natCast_mul,Int.natCast_pow];rfl
 have ha:a<2 ^ k:=by exact_mod_cast hl
 rw[e];have ho:=Nat.shiftLeft_add_eq_or_of_lt ha b;generalize b<<<k=B at ho ⊢;unfold Builtin.bitOr Builtin.bitAnd Builtin.bitNot;rw[decide_eq_false (by omega),decide_eq_false (by omega)];dsimp only;rw[show(-(-(a:Int)-1)-1:Int)=a by omega,show(-(-(B:Int)-1)-1:Int)=B by omega,Int.toNat_natCast,Int.toNat_natCast,Nat.or_comm,<-ho];omega
theorem vX(hW:0<=W)(hl:W<2 ^ k):Builtin.bitAnd W (2 ^ k-1)=W:=by
 obtain⟨a,rfl⟩:=Int.eq_ofNat_of_zero_le hW;have ha:a<2 ^ k:=by exact_mod_cast hl
 have e:((2:Int)^ k-1)=((2 ^ k-1:Nat):Int):=by rw[Int.natCast_sub Nat.one_le_two_pow,Int.natCast_pow];rfl
 rw[e];unfold Builtin.bitAnd;rw[bU (Int.natCast_nonneg _),bU (Int.natCast_nonneg _)];exact ac Int.ofNat (Nat.and_two_pow_sub_one_of_lt_two_pow ha)
theorem fw{a:Int}{k:Nat}(ha:a.natAbs<2 ^ 63)(hk:k<=1000):(small a&&decide (0<=(k:Int))&&decide ((k:Int)<=1000))=true:=by
 rw[show small a=true from bU ha,bU (Int.natCast_nonneg k),bU (by omega)];rfl
theorem FX(n:Nat){k:Nat}(h:k<=1000)(σ):call (n+1) 92 [.int k] σ=some (.ok (.int (1*2 ^ k-1)),σ):=
 xA [] #[(fw (a:=1) ∅ h)] ⋯ σ rfl rfl
theorem GK(n:Nat){W:Int}{k:Nat}(h0:0<=W)(h1:W<2 ^ k)(h:k<=1000)(σ):call (n+2) 99 [.int W,.int k] σ=some (.ok (.int W),σ):=by
 have z:=xA (n:=n+1) (f:=99) (vs:=[.int W,.int k]) (res:= .ok (.int (Builtin.bitAnd W (1*2 ^ k-1)))) [.k (.int (1*2 ^ k-1)) []] #[FX n h []] ⋯ σ rfl rfl;rw[z,Int.one_mul,vX h0 h1]
theorem Cz{W z:Int}(h0:0<=W)(h1:W<z*2):(W.fdiv z=1)= ¬W<z:=by
 have hz:0<z:=by omega
 rw[Int.fdiv_eq_ediv_of_nonneg _ (by omega),Int.ediv_eq_iff_of_pos hz];exact propext ⟨λh=>by omega,λh=>by omega⟩
theorem Ab(n:Nat){W:Int}{k:Nat}(h0:0<=W)(h1:W<2 ^ (k+1))(h3:k+1<=1000)(σ):call (n+3) 106 [.int W,.int (k+1:Nat)] σ=some (.ok (.int (if W<2 ^ k then W else W-2 ^ (k+1))),σ):=by
 have hw:=GK n h0 h1 h3 [];have e:=Cz h0 (Int.pow_succ (2:Int) k▸h1);have e1:(((k+1:Nat):Int)-1).toNat=k:=by omega
 have e2:decide (0<=((k+1:Nat):Int)-1)=true:=bU (by omega);by_cases q:W<2 ^ k
 ·rw[if_pos q];exact xA [.k (.int W) [],.b false] #[(RC (a:=W.fdiv (2 ^ (((k+1:Nat):Int)-1).toNat)) (b:=1) (by rw[e1,ne_eq,e];exact not_not_intro q)),e2,hw] ⋯ σ rfl rfl
 ·rw[if_neg q,<-Int.one_mul (2 ^ (k+1))];exact xA [.k (.int W) [],.b true] #[(fw (a:=1) ∅ h3),(Sq (a:=W.fdiv (2 ^ (((k+1:Nat):Int)-1).toNat)) (b:=1) (by rw[e1,e];exact q)),e2,hw] ⋯ σ rfl rfl
theorem Bd(c:UInt8):(c.toNat:Int).natAbs<2 ^ 63:=by have:=bV c;exact dA (by assumption) ∅
theorem yJ(T)(gl)(x): ∀(l:List UInt8) (W:Int) (k:Nat) (o:Option AV),0<=W->W<2 ^ k->k+8*l.length<=1000-> ∃o',
  dk (stepI T gl (.var 3) [.asg (.var 1) (.bin .BitOr (.var 1) (.bin .LShift (.var 3) (.var 2))),.asg (.var 2) (.bin .Add (.var 2) (.k (.int 8)))]) (l.map λc=> .int c.toNat) ⟨[x,some (.int W),some (.int k),o],[]⟩=
   some (.ok .next,⟨[x,some (.int (W+2 ^ k*lit l)),some (.int (k+8*l.length:Nat)),o'],[]⟩)
 | [],W,k,o,h0,h1,h2=>⟨o,by
  rw[show W+2 ^ k*lit []=W from by show W+2 ^ k*0=W;omega];rfl⟩
 |c::l,W,k,o,h0,h1,h2=>by
  have hc:=bV c;have hp:(0:Int)<2 ^ k:=Int.pow_pos ∅;dsimp only[List.length_cons] at h2;have e8:(2:Int)^ (k+8)=2 ^ k*256:=Int.pow_add 2 k 8;have hm:(c.toNat:Int)*2 ^ k<=255*2 ^ k:=Int.mul_le_mul_of_nonneg_right (by omega) (Int.le_of_lt hp);have hn:0<=(c.toNat:Int)*2 ^ k:=Int.mul_nonneg (Int.natCast_nonneg _) (Int.le_of_lt hp);obtain⟨o',ih⟩:=yJ T gl x l (W+c.toNat*2 ^ k) (k+8) (some (.int c.toNat)) (by omega) (by rw[e8];omega) (by omega);refine⟨o',?_⟩;have st:stepI T gl (.var 3) [.asg (.var 1) (.bin .BitOr (.var 1) (.bin .LShift (.var 3) (.var 2))),.asg (.var 2) (.bin .Add (.var 2) (.k (.int 8)))] (.int c.toNat) ⟨[x,some (.int W),some (.int k),o],[]⟩=some (.ok .next,⟨[x,some (.int (Builtin.bitOr W (c.toNat*2 ^ k))),some (.int (k+8:Nat)),some (.int c.toNat)],[]⟩):=
   ce [] #[(fw (k:=k) (Bd c) (by omega))] ⋯
  rw[uD h0 h1 (Int.natCast_nonneg _)] at st;refine(cC st).trans (ih.trans ?_);rw[e8];have e1:W+c.toNat*2 ^ k+2 ^ k*256*lit l=W+2 ^ k*lit (c::l):=by
   show _=W+2 ^ k*(c.toNat+256*lit l);rw[Int.mul_add,Int.mul_comm (2 ^ k) (c.toNat:Int),<-Int.mul_assoc];omega
  have e2:k+8+8*l.length=k+8*(c::l).length:=by rw[List.length_cons];omega
  rw[e1,e2]
theorem jA(n)(h:b.length<=100)(σ):call (n+1) 113 [.bytes b] σ=some (.ok (.int (lit b)),σ):=by
 obtain⟨o,ho⟩:=yJ (aU n) [] (some (.bytes b)) b 0 0 none ∅ ∅ (by omega);have e:(0:Int)+2 ^ 0*lit b=lit b:=by rw[Int.pow_zero,Int.one_mul,Int.zero_add]
 rw[e] at ho;exact xA [.f (.ok .next) ⟨[some (.bytes b),some (.int (lit b)),some (.int (0+8*b.length:Nat)),o],[]⟩] #[(rZ (ik:= .seq) (g:=0) (es:=[.var 0]) (vs:=[.bytes b]) rfl rfl).trans ho] ⋯ σ rfl rfl
theorem eW(n)(h:b.length<=100)(σ):call (n+4) 120 [.bytes b] σ=some (.ok (.int (sgn b)),σ):=by
 have h2:=jA (n+2) h [];have hl:cL [] .len [.bytes b]=some (.int b.length):=if_pos (by omega);cases hb:b with
 |nil=>exact xA [.a,.a] .nil ⋯ σ rfl rfl
 |cons x r=>
  rw[<-hb];have hn:b≠ []:=by rw[hb];exact List.cons_ne_nil _ _
  obtain⟨k,hk⟩: ∃k,8*b.length=k+1:=⟨8*b.length-1,by rw[hb,List.length_cons];omega⟩;have hlt:lit b<2 ^ (k+1):=by have:=CC b;rw[p256,hk] at this;exact this
  have h3:=Ab n (Cb b) hlt (by omega) [];have e:(if lit b<2 ^ k then lit b else lit b-2 ^ (k+1))=sgn b:=by
   have:=uP b hn;rw[hk,Nat.add_sub_cancel] at this;unfold sgn;rw[p256,hk];by_cases q:lit b<2 ^ k
   ·rw[if_pos q,if_pos (this.mpr q)]
   ·rw[if_neg q,if_neg (λz=>q (this.mp z))]
  rw[e,<-hk] at h3;exact xA [.i b.length,.b false,.k (.int (lit b)) [],.i b.length,.k (.int (sgn b)) []]
   #[h3,(bU (by omega:(b.length:Int).natAbs<2 ^ 63):small b.length=true),hl,h2,(RC (a:=b.length) (b:=0) (by omega)),hl] ⋯ σ rfl rfl
theorem xZ{i:Nat}(h:i<=100000):fit (i:Int)=true:=by
 unfold fit;rw[bU (by omega),bU (by omega)];rfl
theorem J1{α:Type}{l:List α}{i}(h:0<=i):wf l i=l[i.toNat]?:=by
 have h': ¬i<0:=by omega
 unfold wf seqIndex?;simp only[h',if_false];by_cases q:i<l.length
 ·simp[h,q]
 ·simp[h,q]
theorem oP{α:Type}(l:List α)(i:Nat):wf l (i:Int)=l[i]?:=J1 (Int.natCast_nonneg i)
theorem Cj{α:Type}{l:List α}:wf l (-1)=l.getLast?:=by
 unfold wf seqIndex?;have h:(-1:Int)<0:=by decide
 dsimp only[h,if_true];cases l with
 |nil=>rfl
 |cons a l=>
  rw[show(-1+((a::l).length:Int))=(l.length:Int) by simp;omega];have q:(l.length:Int)<(l.length:Int)+1:=by omega
  simp[List.getLast?_eq_getElem?,q]
theorem jU{b:List UInt8}{i:Nat}{c:UInt8}(h:b[i]?=some c):i<b.length:=(ch h).1
theorem subB(σ)(b)(i):dZ σ (.bytes b) (.int i)=cond (fit i&&decide (b.length<=100000)) ((wf b i).map λc=> .int c.toNat) none:=rfl
theorem QL(σ)(l)(i):dZ σ (.lst l) (.int i)=cond (fit i) (wf l i) none:=rfl
theorem xj{σ}{l}{i:Nat}(h:i<=100000):dZ σ (.lst l) (.int (i:Int))=l[i]?:=(QL σ l i).trans ((ac (cond · (wf l (i:Int)) none) (xZ h)).trans (oP l i))
theorem fL{b:List UInt8}(hb:b.length<=1000){i:Nat}{c:UInt8}(h:b[i]?=some c):dZ [] (.bytes b) (.int (i:Int))=some (.int c.toNat):=by
 rw[subB,xZ (by have:=jU h;omega),bU (by omega),oP,h];rfl
theorem gN(n:Nat){b:List UInt8}{i:Nat}{c:UInt8}(hb:b.length<=1000)(h:b[i]?=some c)(σ:aX):call (n+1) 629 [.bytes b,.int i] σ=some (.ok (.int c.toNat),σ):=
 xA [.i b.length,.b false,.i c.toNat] #[fL hb h,(qF (p:=(b.length:Int)<=i) (by have:=jU h;omega)),eY hb] ⋯ σ rfl rfl
theorem ka(n:Nat){b}{i:Nat}(hb:b.length<=1000)(h:b[i]?=none)(σ):call (n+1) 629 [.bytes b,.int i] σ=some (.exc 83,σ):=
 xA [.i b.length,.b true] #[(qT (p:=(b.length:Int)<=i) (by have:=List.getElem?_eq_none_iff.mp h;omega)),eY hb] ⋯ σ rfl rfl
theorem pb(n k:Nat):clipAt n (k:Int)=min k n:=by
 unfold clipAt;rw[if_neg (Int.not_lt.mpr (Int.natCast_nonneg k))];exact(Nat.le_total k n).elim (λh=>by rw[Int.min_eq_left (Int.ofNat_le.mpr h),Int.max_eq_right (Int.natCast_nonneg k),Nat.min_eq_left h];rfl) λh=>by rw[Int.min_eq_right (Int.ofNat_le.mpr h),Int.max_eq_right (Int.natCast_nonneg n),Nat.min_eq_right h];rfl
theorem EH(i w n:Nat):min (min (i+w) n-i) (n-i)=min w (n-i):=by rw[<-Nat.sub_min_sub_right,Nat.add_sub_cancel_left,Nat.min_assoc,Nat.min_self]
theorem gY{α:Type}(l:List α)(i w:Nat):cf l (some (i:Int)) (some ((i:Int)+(w:Int)))=(l.drop i).take w:=by
 show(l.drop (clipAt l.length (i:Int))).take (clipAt l.length ((i+w:Nat):Int)-clipAt l.length (i:Int))=_;rw[pb,pb];exact(Nat.le_total i l.length).elim (λh=>(Nat.min_eq_left h).symm▸List.take_eq_take_iff.mpr ((List.length_drop (l:=l) (i:=i)).symm▸EH i w l.length)) λh=>(Nat.min_eq_right h).symm▸(List.drop_length (l:=l)).symm▸(List.drop_of_length_le h).symm▸List.take_nil.trans List.take_nil.symm
theorem mB{α:Type}(l:List α)(k:Nat):cf l none (some (k:Int))=l.take k:=by
 show(l.drop 0).take (clipAt l.length (k:Int)-0)=_;rw[pb];exact List.take_eq_take_iff.mpr (by show min (min k l.length-0) l.length=min k l.length;rw[Nat.sub_zero,Nat.min_assoc,Nat.min_self])
theorem oY{α:Type}(l:List α)(i w):((l.drop i).take w).length=min w (l.length-i):=by rw[List.length_take,List.length_drop]
noncomputable def worth(b:List UInt8)(sg:Bool):Int:=if sg then sgn b else lit b
theorem w6(h:k<=7):256 ^ k<2 ^ 63:=Nat.lt_of_le_of_lt (Nat.pow_le_pow_right ∅ h) ∅
theorem yT(T)(gl)(x y): ∀(l:List UInt8) (W:Int) (k:Nat) (o p:Option AV),k+l.length<=8-> ∃o' p',
  dk (stepI T gl (.tup [.var 3,.var 4]) [.asg (.var 2) (.bin .Add (.var 2) (.bin .Mult (.var 4) (.bin .Pow (.k (.int 256)) (.var 3))))]) ((l.zipIdx k).map fun(c,i)=> .tup [.int i,.int c.toNat]) ⟨[x,y,some (.int W),o,p],[]⟩=
   some (.ok .next,⟨[x,y,some (.int (W+256 ^ k*lit l)),o',p'],[]⟩)
 | [],W,k,o,p,h2=>⟨o,p,by
  show some (Res.ok Fl.next,_)=_;rw[show W+256 ^ k*lit []=W from by show W+256 ^ k*0=W;omega]⟩
 |c::l,W,k,o,p,h2=>by
  dsimp only[List.length_cons] at h2;obtain⟨o',p',ih⟩:=yT T gl x y l (W+c.toNat*256 ^ k) (k+1) (some (.int k)) (some (.int c.toNat)) (by omega);refine⟨o',p',?_⟩;have st:stepI T gl (.tup [.var 3,.var 4]) [.asg (.var 2) (.bin .Add (.var 2) (.bin .Mult (.var 4) (.bin .Pow (.k (.int 256)) (.var 3))))] (.tup [.int k,.int c.toNat]) ⟨[x,y,some (.int W),o,p],[]⟩=some (.ok .next,⟨[x,y,some (.int (W+c.toNat*256 ^ k)),some (.int k),some (.int c.toNat)],[]⟩):=
   ce [] #[(show small (256 ^ k)=true from bU (by rw[Int.natAbs_pow];exact w6 (by omega))),(fw (a:=256) (k:=k) ∅ (by omega))] ⋯
  rw[List.zipIdx_cons,List.map_cons];refine(cC st).trans (ih.trans ?_);have e1:W+c.toNat*256 ^ k+256 ^ (k+1)*lit l=W+256 ^ k*lit (c::l):=by
   show _=W+256 ^ k*(c.toNat+256*lit l);rw[Int.mul_add,Int.mul_comm (256 ^ k) (c.toNat:Int),<-Int.mul_assoc,Int.pow_succ];omega
  rw[e1]
theorem lR(n){b}(h:b.length<=7)(sg)(σ):call (n+1) 1195 [.bytes b,.bool sg] σ=some (.ok (.int (worth b sg)),σ):=by
 obtain⟨o,p,ho⟩:=yT (aU n) fi (some (.bytes b)) (some (.bool sg)) b 0 0 none none (by omega);rw[show(0:Int)+256 ^ 0*lit b=lit b from by rw[Int.pow_zero,Int.one_mul,Int.zero_add]] at ho;have hf:bf (aU n) fi (.fr .enum 0 [.var 0] (.tup [.var 3,.var 4]) [.asg (.var 2) (.bin .Add (.var 2) (.bin .Mult (.var 4) (.bin .Pow (.k (.int 256)) (.var 3))))]) ⟨[some (.bytes b),some (.bool sg),some (.int 0),none,none],[]⟩=_:=(rZ (vs:=[.bytes b]) rfl rfl).trans ho;have hl:cL [] .len [.bytes b]=some (.int b.length):=if_pos (by omega);cases sg with
 |false=>exact xA [.f (.ok .next) ⟨[some (.bytes b),some (.bool false),some (.int (lit b)),o,p],[]⟩,.a] #[hf] ⋯ σ rfl rfl
 |true=>
  cases hb:b with
  |nil=>exact xA [.a,.a,.a] .nil ⋯ σ rfl rfl
  |cons y r=>
   rw[<-hb];obtain⟨c,hc⟩: ∃c,b.getLast?=some c:=⟨(y::r).getLast (List.cons_ne_nil y r),by rw[hb];exact List.getLast?_eq_some_getLast _⟩;have hne:(b==([]:List UInt8))=false:=by rw[hb];rfl
   have hs:dZ [] (.bytes b) (.int (-1))=some (.int c.toNat):=by
    rw[subB,show fit (-1)=true from by decide,bU (by omega),Cj,hc];rfl
   have hg:(small 256&&decide (0<=(b.length:Int))&&decide ((b.length:Int)<=1000))=true:=fw (a:=256) ∅ (by omega);by_cases q:c.toNat<128
   ·have e:worth b true=lit b:=by show sgn b=_;unfold sgn;rw[hc];exact if_pos q
    rw[e];exact xA [.f (.ok .next) ⟨[some (.bytes b),some (.bool true),some (.int (lit b)),o,p],[]⟩,.a,.b true,.i c.toNat,.b false]
     #[(qF (p:=(127:Int)<c.toNat) (by omega)),hs,(ac (λx=>some (!x)) hne:some (!(b==[]))=some true),hf] ⋯ σ rfl rfl
   ·have e:worth b true=lit b-256 ^ b.length:=by show sgn b=_;unfold sgn;rw[hc];exact if_neg q
    rw[e];exact xA [.f (.ok .next) ⟨[some (.bytes b),some (.bool true),some (.int (lit b)),o,p],[]⟩,.a,.b true,.i c.toNat,.b true,.i b.length]
     #[hg,hl,(qT (p:=(127:Int)<c.toNat) (by omega)),hs,(ac (λx=>some (!x)) hne:some (!(b==[]))=some true),hf] ⋯ σ rfl rfl
noncomputable def rc(n:Nat)(f:Addr)(vs:aV):Option (Res AV×aX):=match dY.find? (·.1==f) with
 |some (_,false,false,np,nl,d,gl,body)=>k9 (aU n) gl nl np d false body vs []
 |_=>none
theorem lh{n}{f}{vs}{res:Res AV}(h:rc n f vs=some (res,[]))(σ)(hv:aM vs=true)(hr:pG res=true):call (n+1) f vs σ=some (res,σ):=by
 unfold rc at h;rw[gv];generalize dY.find? (·.1==f)=y at h ⊢;cases y with
 |none=>exact aB h
 |some y=>
  obtain⟨f',r,b,np,nl,d,gl,body⟩:=y;cases r<;>cases b<;>first|cases h;done|skip
  exact ud (sp:=⟨false,false,λargs σ=>k9 (aU n) gl nl np d false body args σ⟩) rfl rfl hv h hr
theorem aA{α β:Type}{l:List α}{f g:α->β}(h:l.map f=l.map g){a:α}(ha:a∈l):f a=g a:=List.map_inj_left.mp h a ha
noncomputable def jh(v:AV):Option (Res AV×aX):=some (.ok v,[])
inductive Sz where
 |b8|T4|T6|Tv
noncomputable def Sz.i:Sz->Int
 | .b8=>8| .T4=>16| .T6=>32| .Tv=>64
noncomputable def fE:List Sz:=[.b8,.T4,.T6,.Tv]
theorem tq(s):s∈fE:=by cases s<;>repeat (first|exact .head _|apply List.Mem.tail)
inductive K where
 |rm (s:Sz)|r (s:Sz)|acc (s:Sz)|Tn (s:Sz)|s8
noncomputable def xr:List K:=(fE.map λs=>[.rm s,.r s,.acc s,.Tn s]).flatten++ [.s8]
theorem Ae(k):k∈xr:=by cases k<;>(try (rename_i s;cases s))<;>repeat (first|exact .head _|apply List.Mem.tail)
noncomputable def gh:K->Str
 | .rm .b8=> "rm8" | .rm .T4=> "rm16" | .rm .T6=> "rm32" | .rm .Tv=> "rm64"
 | .r .b8=> "r8" | .r .T4=> "r16" | .r .T6=> "r32" | .r .Tv=> "r64"
 | .acc .b8=> "al" | .acc .T4=> "ax" | .acc .T6=> "eax" | .acc .Tv=> "rax"
 | .Tn .b8=> "imm8" | .Tn .T4=> "imm16" | .Tn .T6=> "imm32" | .Tn .Tv=> "simm32"
 | .s8=> "simm8"
noncomputable def EQ:K->Bool
 | .Tn _=>true
 | .s8=>true
 |_=>false
noncomputable def yq:K->Int
 | .rm s=>s.i| .r s=>s.i| .acc s=>s.i|_=>0
noncomputable def eH:K->Nat
 | .Tn .b8=>1| .Tn .T4=>2| .Tn .T6=>4| .Tn .Tv=>4| .s8=>1|_=>0
noncomputable def qJ:K->Str
 | .rm _=> "rm" | .r _=> "reg" | .acc _=> "fixed" |_=> "imm"
theorem lG(n)(k)(σ):call (n+2) 155 [.str (gh k)] σ=some (.ok (.int (yq k)),σ):=
 lh (aA (f:=λk=>rc (n+1) 155 [.str (gh k)]) (g:=λk=>jh (.int (yq k))) (l:=xr) ⋯ (Ae k)) σ rfl rfl
theorem cT(n)(k)(σ):call (n+2) 162 [.str (gh k)] σ=some (.ok (.int (eH k)),σ):=
 lh (aA (f:=λk=>rc (n+1) 162 [.str (gh k)]) (g:=λk=>jh (.int (eH k))) (l:=xr) ⋯ (Ae k)) σ rfl rfl
noncomputable def Su:List Str:=["rax","rcx","rdx","rbx","rsp","rbp","rsi","rdi","r8","r9","r10","r11","r12","r13","r14","r15"]
noncomputable def SH:List Str:=["eax","ecx","edx","ebx","esp","ebp","esi","edi","r8d","r9d","r10d","r11d","r12d","r13d","r14d","r15d"]
noncomputable def RR:List Str:=["ax","cx","dx","bx","sp","bp","si","di","r8w","r9w","r10w","r11w","r12w","r13w","r14w","r15w"]
noncomputable def n8:List Str:=["al","cl","dl","bl","spl","bpl","sil","dil","r8b","r9b","r10b","r11b","r12b","r13b","r14b","r15b"]
noncomputable def R1:List Str:=["al","cl","dl","bl","ah","ch","dh","bh","r8b","r9b","r10b","r11b","r12b","r13b","r14b","r15b"]
noncomputable def bt(i:Nat)(s:Sz)(r:Bool):Str:=match s with
 | .Tv=>Su.getD i ""
 | .T6=>SH.getD i ""
 | .T4=>RR.getD i ""
 | .b8=>(cond r n8 R1).getD i ""
noncomputable def L2(i:Nat)(s:Sz)(r:Bool):Bool:=match s with
 | .b8=> !r&&Nat.ble 4 i&&Nat.blt i 8
 |_=>false
noncomputable def pM(i:Nat)(s:Sz)(r:Bool):AV:= .obj 555 [.str (bt i s r),.str (cond (L2 i s r) "high" "gpr"),.int i,.int s.i]
noncomputable def allB:List Bool:=[true,false]
theorem uf(b):b∈allB:=by cases b<;>repeat (first|exact .head _|apply List.Mem.tail)
theorem Lq{β:Type}{f g:Nat->Sz->Bool->β}(h:(List.range 16).map (λi=>fE.map λs=>allB.map (f i s))=(List.range 16).map (λi=>fE.map λs=>allB.map (g i s))){i}(hi:i<16)(s)(r):f i s r=g i s r:=
 List.map_inj_left.mp (List.map_inj_left.mp (List.map_inj_left.mp h i (List.mem_range.mpr hi)) s (tq s)) r (uf r)
theorem jF(n:Nat){i:Nat}(h:i<16)(s)(r)(σ):call (n+4) 873 [.int i,.int s.i,.bool r] σ=some (.ok (pM i s r),σ):=
 lh (Lq (f:=λi s r=>rc (n+3) 873 [.int i,.int s.i,.bool r]) (g:=λi s r=>jh (pM i s r)) ⋯ h s r) σ rfl rfl
theorem xe(n:Nat){i:Nat}(h:i<16)(σ):call (n+3) 580 [.int i,.int 64] σ=some (.ok (pM i .Tv true),σ):=
 lh (aA (f:=fun(i:Nat)=>rc (n+2) 580 [.int i,.int 64]) (g:=λi=>jh (pM i .Tv true)) (l:=List.range 16) ⋯ (List.mem_range.mpr h)) σ rfl rfl
theorem cn(n:Nat){i:Nat}(h:i<16)(s)(r)(σ):call (n+1) 1188 [.int i,.int s.i,.bool r] σ=some (.ok (.str (bt i s r)),σ):=
 lh (Lq (f:=λi s r=>rc n 1188 [.int i,.int s.i,.bool r]) (g:=λi s r=>jh (.str (bt i s r))) ⋯ h s r) σ rfl rfl
noncomputable def F3:AV:= .obj 555 [.str "rip",.str "rip",.int 0,.int 64]
theorem Iv(n)(σ):call (n+2) 601 [] σ=some (.ok F3,σ):=lh ⋯ σ rfl rfl
noncomputable def kI(o:Nat):Str:=match o with
 |100=> "segment" |101=> "segment" |102=> "data" |242=> "repeat" |243=> "repeat" |240=> "lock"
 |38=> "barred" |46=> "barred" |54=> "barred" |62=> "barred" |103=> "barred" |_=> ""
theorem ky(n:Nat){o:Nat}(h:o<256)(σ):call (n+1) 678 [.int o] σ=some (.ok (.str (kI o)),σ):=
 lh (aA (f:=fun(o:Nat)=>rc n 678 [.int o]) (g:=λo=>jh (.str (kI o))) (l:=List.range 256) ⋯ (List.mem_range.mpr h)) σ rfl rfl
inductive Sg where
 |no|fs|gs
inductive Rp where
 |no|rp|rn
structure RX where
 w:Bool
 r:Bool
 x:Bool
 b:Bool
structure PS where
 seg:Sg
 dat:Bool
 rep:Rp
 Tu:Bool
 Te:Option RX
noncomputable def bi(b:Bool):Nat:=cond b 1 0
noncomputable def Sg.s:Sg->Str
 | .no=> "" | .fs=> "fs" | .gs=> "gs"
noncomputable def Sg.i:Sg->Nat
 | .no=>0| .fs=>100| .gs=>101
noncomputable def Rp.i:Rp->Nat
 | .no=>0| .rp=>243| .rn=>242
noncomputable def RX.n(q:RX):Nat:=64+(8*bi q.w+(4*bi q.r+(2*bi q.x+bi q.b)))
noncomputable def mz:Option RX->Int
 |none=> -1
 |some q=>q.n
noncomputable def bW(o:Option RX):Bool:=o.elim false RX.w
noncomputable def bR(o:Option RX):Bool:=o.elim false RX.r
noncomputable def bX(o:Option RX):Bool:=o.elim false RX.x
noncomputable def bB(o:Option RX):Bool:=o.elim false RX.b
noncomputable def cK(p:PS):AV:= .obj 731 [.str p.seg.s,.bool p.dat,.int p.rep.i,.bool p.Tu,.int (mz p.Te)]
noncomputable def fX(o:Nat):RX:=⟨Nat.beq (o/8 % 2) 1,Nat.beq (o/4 % 2) 1,Nat.beq (o/2 % 2) 1,Nat.beq (o % 2) 1⟩
noncomputable def HF:List Sg:=[.no,.fs,.gs]
noncomputable def Hu:List Rp:=[.no,.rp,.rn]
theorem No(b):b∈HF:=by cases b<;>repeat (first|exact .head _|apply List.Mem.tail)
theorem L6(b):b∈Hu:=by cases b<;>repeat (first|exact .head _|apply List.Mem.tail)
noncomputable def JQ{β:Type}(f:RX->β):List (List (List (List β))):=allB.map λw=>allB.map λr=>allB.map λx=>allB.map λb=>f ⟨w,r,x,b⟩
theorem Mo{β:Type}{f g:RX->β}(h:JQ f=JQ g)(q):f q=g q:=
 List.map_inj_left.mp (List.map_inj_left.mp (List.map_inj_left.mp (List.map_inj_left.mp h q.w (uf _)) q.r (uf _)) q.x (uf _)) q.b (uf _)
noncomputable def MH{β:Type}(o:Option RX)(f:PS->β):List (List (List (List β))):=HF.map λs=>allB.map λd=>Hu.map λr=>allB.map λl=>f ⟨s,d,r,l,o⟩
theorem N6{β:Type}{f g:PS->β}(o)(h:MH o f=MH o g)(s)(d)(r)(l):f ⟨s,d,r,l,o⟩=g ⟨s,d,r,l,o⟩:=
 List.map_inj_left.mp (List.map_inj_left.mp (List.map_inj_left.mp (List.map_inj_left.mp h s (No _)) d (uf _)) r (L6 _)) l (uf _)
noncomputable def bits(o:Option RX):AV:= .tup [.int (bi (bW o)),.int (bi (bR o)),.int (bi (bX o)),.int (bi (bB o))]
theorem uI(n)(o)(σ):call (n+1) 657 [.int (mz o)] σ=some (.ok (bits o),σ):=by
 cases o with
 |none=>exact lh ⋯ σ rfl rfl
 |some q=>exact lh (Mo (f:=λq=>rc n 657 [.int (mz (some q))]) (g:=λq=>jh (bits (some q))) ⋯ q) σ rfl rfl
noncomputable def cy(o:Nat):Bool:=Nat.beq (o/16) 4
theorem Dx(h:o<256)(hr:cy o=true):(fX o).n=o:=
 have z:=aA (f:=λo=>cond (cy o) (fX o).n o) (g:=λo=>o) (l:=List.range 256) ⋯ (List.mem_range.mpr h)
 (ac (λb=>cond b (fX o).n o) hr).symm.trans z
theorem gZ(n:Nat){o:Nat}(h:o<256)(σ):call (n+1) 664 [.int o] σ=some (.ok (.bool (cy o)),σ):=
 lh (aA (f:=fun(o:Nat)=>rc n 664 [.int o]) (g:=λo=>jh (.bool (cy o))) (l:=List.range 256) ⋯ (List.mem_range.mpr h)) σ rfl rfl
noncomputable def jQ(p:PS):Bool:=p.Te.isSome
theorem qW(n)(p)(σ):call (n+1) 707 [cK p] σ=some (.ok (.bool (jQ p)),σ):=by
 obtain⟨s,d,r,l,o⟩:=p;cases o with
 |none=>exact lh ⋯ σ rfl rfl
 |some q=>exact lh (Mo (f:=λq=>rc n 707 [cK ⟨s,d,r,l,some q⟩]) (g:=λq=>jh (.bool true)) ⋯ q) σ rfl rfl
theorem nH(n)(p)(q)(σ):call (n+2) 742 [cK p,.int q.n] σ=some (.ok (cK {p with Te:=some q}),σ):=
 lh ⋯ σ rfl rfl
noncomputable def jg(p:PS)(o:Nat):Option PS:=match p.Te with
 |some _=>none
 |none=>match o with
  |100=>(match p.seg with| .no=>some {p with seg:= .fs}|_=>none)
  |101=>(match p.seg with| .no=>some {p with seg:= .gs}|_=>none)
  |102=>(match p.dat with|false=>some {p with dat:=true}|true=>none)
  |243=>(match p.rep,p.Tu with| .no,false=>some {p with rep:= .rp}|_,_=>none)
  |242=>(match p.rep,p.Tu with| .no,false=>some {p with rep:= .rn}|_,_=>none)
  |240=>(match p.rep,p.Tu with| .no,false=>some {p with Tu:=true}|_,_=>none)
  |_=>none
noncomputable def q9:List Nat:=[100,101,102,243,242,240,38,46,54,62,103]
noncomputable def gp(o:Nat):Bool:=q9.any (Nat.beq o)
noncomputable def wA(x:Option PS):Res AV:=match x with
 |some q=> .ok (cK q)
 |none=> .exc 83
theorem xP(x):pG (wA x)=true:=by cases x<;>rfl
theorem ju(n)(p){o}(ho:o∈q9)(σ):call (n+3) 749 [cK p,.int o] σ=some (wA (jg p o),σ):=by
 refine lh ?_ σ rfl (xP _);obtain⟨s,d,r,l,x⟩:=p;cases x with
 |none=>exact aA (f:=fun(o:Nat)=>rc (n+2) 749 [cK ⟨s,d,r,l,none⟩,.int o]) (g:=λo=>some (wA (jg ⟨s,d,r,l,none⟩ o),[])) (l:=q9) (N6 (f:=λp=>q9.map fun(o:Nat)=>rc (n+2) 749 [cK p,.int o]) (g:=λp=>q9.map λo=>some (wA (jg p o),[])) none ⋯ s d r l) ho
 |some q=>exact aA (f:=fun(o:Nat)=>rc (n+2) 749 [cK ⟨s,d,r,l,some q⟩,.int o]) (g:=λo=>some (wA (jg ⟨s,d,r,l,some q⟩ o),[])) (l:=q9) (Mo (f:=λq=>q9.map fun(o:Nat)=>rc (n+2) 749 [cK ⟨s,d,r,l,some q⟩,.int o]) (g:=λq=>q9.map λo=>some (wA (jg ⟨s,d,r,l,some q⟩ o),[])) ⋯ q) ho
noncomputable def Ll(T:Tb)(gl:Gl)(t:IE)(body:List IS)(s:St)(c:List gu):Option (Res (Option Fl)×St×List Prop):=(ba (jz T gl t (bH T gl t) ⟨s.loc,s.S9,c,[]⟩) λb s=>cond b (ba (dC T gl body s) λf s=>some (.ok (some f),s)) (some (.ok none,s))).bind λp=>cond p.2.c.isEmpty (some (p.1,p.2.st,p.2.o)) none
noncomputable def IL(go:St->Out Fl)(r:Res (Option Fl))(s:St):Out Fl:=r.Th (λo=>o.elim (some (.ok .next,s)) λf=>f.Th (go s) λv=>some (.ok (.ret v),s)) λC=>some (.exc C,s)
theorem HD{α β:Type}{x:Out α}{f:α->St->Out β}{g:St->Res β->Out Fl}{k:α->St->Out Fl}{r:Res β}{s'}(h:ao x f=some (r,s'))(he: ∀C s,g s (.exc C)=some (.exc C,s))(hk: ∀a s1,f a s1=some (r,s')->k a s1=g s' r):ao x k=g s' r:=
 bA h λy=>match y with
  |(.ok a,s1)=>λe1 e2=>(ac (ao · k) e1).trans (hk a s1 e2)
  |(.exc C,s1)=>λe1 e2=>by
   obtain⟨rfl,rfl⟩:=so e2;exact(ac (ao · k) e1).trans (he C s1).symm
theorem gV{T}{gl}{t}{body}{s s'}{c}{r:Res (Option Fl)}{o}(k:All o)(h:Ll T gl t body s c=some (r,s',o))(n):
  iD (cg T gl t (aw T gl t)) (ae T gl body) (n+1) s=IL (iD (cg T gl t (aw T gl t)) (ae T gl body) n) r s':=
 bA h λp hp h=>eV h λ_ h=>by
  have e:=Prod.mk.inj (aC h);have e2:=Prod.mk.inj e.2;have z:=(SX.bind (Q0 T gl t) (λb=>SX.ite b (SX.bind (E8 (T:=T) (gl:=gl) body) λf=>SX.ret (.ok (some f))) (SX.ret (.ok none))) _ p hp (e2.2▸k)).2;rw[e.1,e2.1] at z;refine HD (g:=λs r=>IL (iD (cg T gl t (aw T gl t)) (ae T gl body) n) r s) z (λC s=>rfl) λb s1 z=> ?_;cases b with
  |false=>
   obtain⟨rfl,rfl⟩:=so z;rfl
  |true=>
   refine HD (k:=λf s=>f.Th (iD (cg T gl t (aw T gl t)) (ae T gl body) n s) λv=>some (Res.ok (Fl.ret v),s)) (g:=λs r=>IL (iD (cg T gl t (aw T gl t)) (ae T gl body) n) r s) (Px z) (λC s=>rfl) (λf s2 z=> ?_);obtain⟨rfl,rfl⟩:=so z;cases f<;>rfl
noncomputable def ML(sp:gF)(as:aV)(σ:aX):Option (Res AV×aX):=cond (aM as) ((sp.run as []).bind λq=>q.1.Th (λv=>cond (flat v) (some (.ok v,σ)) none) λC=>some (.exc C,σ)) none
theorem uG(h:(sp.byref||sp.TB)=false):cR sp vs σ=ML sp (vs.map (rs 8 (jk vs σ))) (jk vs σ):=(ac (cond · _ _) (Bool.or_eq_false_iff.mp h).2).trans (ac (cond · _ _) (Bool.or_eq_false_iff.mp h).1)
theorem fY{n}{vs vs'}{σ σ'}(hf:((dY.find? (·.1==f)).elim true λx=>x.2.1||x.2.2.1)=false)
  (h1:jk vs σ=σ') (h2:vs.map (rs 8 σ')=vs') (h3:aM vs'=true):call (n+1) f vs σ=call (n+1) f vs' σ':=
 Th hf (λx hx h=>by
  rw[gv,gv,hx];show cR (kD (aU n) x) vs σ=cR (kD (aU n) x) vs' σ';rw[uG (sp:=kD (aU n) x) h,uG (sp:=kD (aU n) x) h,h1,h2,dG h3,cE h3]) tf
noncomputable def g8:List UInt8->PS->Nat->Option (PS×Nat)
 | [],p,i=>some (p,i)
 |c::l,p,i=>cond (cy c.toNat) (cond (jQ p) none (g8 l {p with Te:=some (fX c.toNat)} (i+1)))
   (cond (gp c.toNat) ((jg p c.toNat).elim none λq=>g8 l q (i+1)) (some (p,i)))
noncomputable abbrev LO:IE:= .cmp .Lt (.var 1) (.blt .len 1 [.var 0])
noncomputable abbrev Ou:List IS:=[.asg (.var 3) (.sub (.var 0) (.var 1)),.Td (.Tf 2 [.var 3]) [.Td (.TG (.var 2) 46 []) [.TM 3 "REX twice"] [],.asg (.var 2) (.Tf 4 [.var 2,.var 3])] [.Td (.cmp .NotEq (.Tf 5 [.var 3]) (.k (.str ""))) [.asg (.var 2) (.Tf 6 [.var 2,.var 3])] [.ret (.tup [.var 2,.var 1])]],.asg (.var 1) (.bin .Add (.var 1) (.k (.int 1)))]
noncomputable def p0:PS:=⟨.no,false,.no,false,none⟩
noncomputable def Ln:aX:=[.obj 731 [.str "",.bool false,.int 0,.bool false,.int (-1)]]
noncomputable def mP:aX:=[.Tg (.obj 731 [.str "",.bool false,.int 0,.bool false,.int (-1)])]
inductive Hd:PS->AV->aX->Prop
 |new:Hd p0 (.ref 0) Ln
 |val (p:PS):Hd p (cK p) mP
noncomputable def ga(b:List UInt8)(i:Nat)(f:AV)(v:Option AV)(σ:aX):St:=⟨[some (.bytes b),some (.int i),some f,v],σ⟩
theorem pf(h:o<256):(!(kI o==("" :Str)))=gp o:=
 aA (f:=λo=> !(kI o==("" :Str))) (g:=gp) (l:=List.range 256) ⋯ (List.mem_range.mpr h)
theorem yN(h:gp o=true):o∈q9:=by
 obtain⟨x,hx,e⟩:=List.any_eq_true.mp h;rw[eS e];exact hx
section
variable {n:Nat} {b:List UInt8} {i:Nat} {c:UInt8} {v:Option AV} {p:PS} {f:AV} {σ:aX}
theorem Hd.has(h:Hd p f σ):call (n+1) 707 [f] σ=some (.ok (.bool (jQ p)),mP):=by
 cases h with
 |new=>exact(fY (vs':=[cK p0]) (σ':=mP) ⋯ rfl rfl rfl).trans (qW n p0 mP)
 |val=>exact qW n p mP
theorem Hd.Te(h:Hd p f σ)(q):call (n+2) 742 [f,.int q.n] mP=some (.ok (cK {p with Te:=some q}),mP):=by
 cases h with
 |new=>exact(fY (vs':=[cK p0,.int q.n]) (σ':=mP) ⋯ rfl rfl rfl).trans (nH n p0 q mP)
 |val=>exact nH n p q mP
theorem Hd.VL(h:Hd p f σ)(ho:o∈q9):call (n+3) 749 [f,.int o] σ=some (wA (jg p o),mP):=by
 cases h with
 |new=>exact(fY (vs':=[cK p0,.int o]) (σ':=mP) ⋯ rfl rfl rfl).trans (ju n p0 ho mP)
 |val=>exact ju n p ho mP
noncomputable abbrev Fs(n k:Nat)(s:St):Out Fl:=iD (cg (aU n) bC LO (aw (aU n) bC LO)) (ae (aU n) bC Ou) k s
theorem Jt(h:Hd p f σ)(hb:b.length<=1000)(hi:b.length<=i)(k):Fs n (k+1) (ga b i f v σ)=some (.ok .next,ga b i f v σ):=
 gV (r:= .ok none) (s':=ga b i f v σ) (c:=[.i b.length,.b false]) #[(qF (p:=(i:Int)<b.length) (by omega)),eY hb] ⋯ k
theorem F5(h:Hd p f σ)(hb:b.length<=1000)(hc:b[i]?=some c)(h1:cy c.toNat=false)(h2:gp c.toNat=false)(k):Fs (n+1) (k+1) (ga b i f v σ)=some (.ok (.ret (.tup [f,.int i])),ga b i f (some (.int c.toNat)) σ):=
 gV (r:= .ok (some (.ret (.tup [f,.int i])))) (s':=ga b i f (some (.int c.toNat)) σ) (c:=[.i b.length,.b true,.i c.toNat,.k (.bool (cy c.toNat)) σ,.b false,.k (.str (kI c.toNat)) σ,.b false])
  #[ac some ((pf (bV c)).trans h2),ky n (bV c) σ,ac some h1,gZ n (bV c) σ,fL hb hc,(qT (p:=(i:Int)<b.length) (by have:=jU hc;omega)),eY hb] (by cases h<;>kernel_rfl) k
theorem Gs(h:Hd p f σ)(hb:b.length<=1000)(hc:b[i]?=some c)(h1:cy c.toNat=true)(h2:jQ p=true)(k):Fs (n+1) (k+1) (ga b i f v σ)=some (.exc 83,ga b i f (some (.int c.toNat)) mP):=
 gV (r:= .exc 83) (s':=ga b i f (some (.int c.toNat)) mP) (c:=[.i b.length,.b true,.i c.toNat,.k (.bool (cy c.toNat)) σ,.b true,.k (.bool (jQ p)) mP,.b true])
  #[ac some h2,h.has (n:=n),ac some h1,gZ n (bV c) σ,fL hb hc,(qT (p:=(i:Int)<b.length) (by have:=jU hc;omega)),eY hb] (by cases h<;>kernel_rfl) k
theorem J3(h:Hd p f σ)(hb:b.length<=1000)(hc:b[i]?=some c)(h1:cy c.toNat=true)(h2:jQ p=false)(k):Fs (n+2) (k+1) (ga b i f v σ)=Fs (n+2) k (ga b (i+1) (cK {p with Te:=some (fX c.toNat)}) (some (.int c.toNat)) mP):=
 gV (r:= .ok (some .next)) (s':=ga b (i+1) (cK {p with Te:=some (fX c.toNat)}) (some (.int c.toNat)) mP) (c:=[.i b.length,.b true,.i c.toNat,.k (.bool (cy c.toNat)) σ,.b true,.k (.bool (jQ p)) mP,.b false,.k (cK {p with Te:=some (fX c.toNat)}) mP])
  #[(by have z:=h.Te (n:=n) (fX c.toNat);rw[Dx (bV c) h1] at z;exact z),ac some h2,h.has (n:=n+1),ac some h1,gZ (n+1) (bV c) σ,fL hb hc,(qT (p:=(i:Int)<b.length) (by have:=jU hc;omega)),eY hb] (by cases h<;>kernel_rfl) k
theorem Ko(h:Hd p f σ)(hb:b.length<=1000)(hc:b[i]?=some c)(h1:cy c.toNat=false)(h2:gp c.toNat=true)(hq:jg p c.toNat=some q)(k):Fs (n+3) (k+1) (ga b i f v σ)=Fs (n+3) k (ga b (i+1) (cK q) (some (.int c.toNat)) mP):=
 gV (r:= .ok (some .next)) (s':=ga b (i+1) (cK q) (some (.int c.toNat)) mP) (c:=[.i b.length,.b true,.i c.toNat,.k (.bool (cy c.toNat)) σ,.b false,.k (.str (kI c.toNat)) σ,.b true,.k (cK q) mP])
  #[(by have z:=h.VL (n:=n) (yN h2);rw[hq] at z;exact z),ac some ((pf (bV c)).trans h2),ky (n+2) (bV c) σ,ac some h1,gZ (n+2) (bV c) σ,fL hb hc,(qT (p:=(i:Int)<b.length) (by have:=jU hc;omega)),eY hb] (by cases h<;>kernel_rfl) k
theorem DR(h:Hd p f σ)(hb:b.length<=1000)(hc:b[i]?=some c)(h1:cy c.toNat=false)(h2:gp c.toNat=true)(hq:jg p c.toNat=none)(k):Fs (n+3) (k+1) (ga b i f v σ)=some (.exc 83,ga b i f (some (.int c.toNat)) mP):=
 gV (r:= .exc 83) (s':=ga b i f (some (.int c.toNat)) mP) (c:=[.i b.length,.b true,.i c.toNat,.k (.bool (cy c.toNat)) σ,.b false,.k (.str (kI c.toNat)) σ,.b true,.r (.exc 83) mP])
  #[(by have z:=h.VL (n:=n) (yN h2);rw[hq] at z;exact z),ac some ((pf (bV c)).trans h2),ky (n+2) (bV c) σ,ac some h1,gZ (n+2) (bV c) σ,fL hb hc,(qT (p:=(i:Int)<b.length) (by have:=jU hc;omega)),eY hb] (by cases h<;>kernel_rfl) k
end
def QE(x:Option (PS×Nat))(b:List UInt8)(y:Out Fl):Prop:=match x with
 |none=> ∃s,y=some (.exc 83,s)
 |some (q,j)=> ∃f σ v,Hd q f σ/\(y=some (.ok (.ret (.tup [f,.int j])),ga b j f v σ)\/y=some (.ok .next,ga b j f v σ))
theorem sM(n)(b)(hb:b.length<=900): ∀(l:List UInt8) (i:Nat) (p:PS) (f:AV) (σ:aX) (v:Option AV) (k:Nat),b.drop i=l->l.length<k->Hd p f σ->QE (g8 l p i) b (Fs (n+3) k (ga b i f v σ))
 | [],i,p,f,σ,v,k+1,hl,hk,h=>⟨f,σ,v,h,.inr (Jt h (by omega) (by have:=ac List.length hl;rw[List.length_drop] at this;exact Nat.le_of_sub_eq_zero this) k)⟩
 |c::l,i,p,f,σ,v,k+1,hl,hk,h=>by
  have hb':b.length<=1000:=by omega
  have hc:b[i]?=some c:=by rw[<-List.head?_drop,hl];rfl
  have hl':b.drop (i+1)=l:=by rw[<-List.drop_drop,hl];rfl
  have hk':l.length<k:=Nat.lt_of_succ_lt_succ hk;unfold g8;cases h1:cy c.toNat with
  |true=>cases h2:jQ p with
   |true=>exact⟨_,Gs h hb' hc h1 h2 k⟩
   |false=>rw[J3 h hb' hc h1 h2 k];exact sM n b hb l (i+1) _ _ _ _ k hl' hk' (.val _)
  |false=>cases h2:gp c.toNat with
   |false=>exact⟨f,σ,_,h,.inl (F5 h hb' hc h1 h2 k)⟩
   |true=>cases hq:jg p c.toNat with
    |none=>exact⟨_,DR h hb' hc h1 h2 hq k⟩
    |some q=>rw[Ko h hb' hc h1 h2 hq k];exact sM n b hb l (i+1) _ _ _ _ k hl' hk' (.val _)
noncomputable def ze(x:Option (PS×Nat)):Res AV:=match x with
 |none=> .exc 83
 |some (q,j)=> .ok (.tup [cK q,.int j])
theorem hH(n)(hb:b.length<=900)(σ):call (n+4) 756 [.bytes b,.int 0] σ=some (ze (g8 b p0 0),σ):=by
 have z:=sM n b hb b 0 p0 (.ref 0) Ln none 1000 rfl (by lia) .new;generalize hs:g8 b p0 0=x at z;cases x with
 |none=>
  obtain⟨s,e⟩:=z;exact xA [.a,.f (.exc 83) s] #[(show bf (aU (n+3)) bC (.whl LO Ou) ⟨[some (.bytes b),some (.int 0),some (.ref 0),none],Ln⟩=_ from e)] ⋯ σ rfl rfl
 |some x=>
  obtain⟨q,j⟩:=x;obtain⟨f,τ,v,h,e|e⟩:=z
  ·exact xA [.a,.f (.ok (.ret (.tup [f,.int j]))) (ga b j f v τ)] #[(show bf (aU (n+3)) bC (.whl LO Ou) ⟨[some (.bytes b),some (.int 0),some (.ref 0),none],Ln⟩=_ from e)] (by cases h<;>kernel_rfl) σ rfl rfl
  ·exact xA [.a,.f (.ok .next) (ga b j f v τ)] #[(show bf (aU (n+3)) bC (.whl LO Ou) ⟨[some (.bytes b),some (.int 0),some (.ref 0),none],Ln⟩=_ from e)] (by cases h<;>kernel_rfl) σ rfl rfl
theorem aO: ∀{l1:List IS} {s s1:St},ae T gl l1 s=some (.ok .next,s1)->ae T gl (l1++l2) s=ae T gl l2 s1
 | [],s,s1,h=>by cases h;rfl
 |e::l1,s,s1,h=>by
  change ao (bf T gl e s) _=_ at h;show ao (bf T gl e s) _=_;cases he:bf T gl e s with
  |none=>rw[he] at h;exact aB h
  |some p=>
   obtain⟨r,s2⟩:=p;rw[he] at h;cases r with
   |exc C=>cases h
   |ok f=>cases f with
    |next=>exact aO (l1:=l1) h
    |_=>cases h
theorem sd: ∀{l1:List IS} {s s1:St},ae T gl l1 s=some (.exc C,s1)->ae T gl (l1++l2) s=some (.exc C,s1)
 | [],s,s1,h=>by cases h
 |e::l1,s,s1,h=>by
  change ao (bf T gl e s) _=_ at h;show ao (bf T gl e s) _=_;cases he:bf T gl e s with
  |none=>rw[he] at h;exact aB h
  |some p=>
   obtain⟨r,s2⟩:=p;rw[he] at h;cases r with
   |exc C=>cases h;rfl
   |ok f=>cases f with
    |next=>exact sd (l1:=l1) h
    |_=>cases h
theorem sX(hn:(decide (np-d.length<=vs.length)&&decide (vs.length<=np))=true)(h:ae T gl body ⟨(c0 np d vs).map some++List.replicate (nl-(c0 np d vs).length) none,σ⟩=some (r,s')):k9 T gl nl np d m body vs σ=je m r σ s'.S9:=
 (ac (cond · _ none) hn).trans (ac (Option.bind · λp:Res Fl×St=>je m p.1 σ p.2.S9) h)
theorem Of{f}{res:Res AV}(h:ae (aU n) gl body ⟨(c0 np d vs).map some++List.replicate (nl-(c0 np d vs).length) none,[]⟩=some (r,s'))
  (hf:dY.find? (·.1==f)=some (f,false,false,np,nl,d,gl,body)) (hn:(decide (np-d.length<=vs.length)&&decide (vs.length<=np))=true) (e:je false r [] s'.S9=some (res,[])) (σ:aX) (hv:aM vs=true) (hr:pG res=true):call (n+1) f vs σ=some (res,σ):=
 (gv n f vs σ).trans ((ac (Option.bind · λx=>cR (kD (aU n) x) vs σ) hf).trans (ud (sp:=kD (aU n) (f,false,false,np,nl,d,gl,body)) (σ':=[]) rfl rfl hv ((sX hn h).trans e) hr))
noncomputable def f9:Option Nat->Int
 |none=> -1
 |some o=>o
noncomputable def fS(mod rm:Nat)(Ti:Option Nat):Nat:=match mod with
 |3=>0
 |1=>1
 |2=>4
 |_=>cond (Nat.beq rm 5) 4 (cond (Nat.beq rm 4&&Nat.beq (Ti.elim 7 (· % 8)) 5) 4 0)
theorem re(n:Nat){mod rm:Nat}{Ti}(h1:mod<4)(h2:rm<8)(h3: ∀o,Ti=some o->o<256)(σ):call (n+1) 636 [.int mod,.int rm,.int (f9 Ti)] σ=some (.ok (.int (fS mod rm Ti)),σ):=by
 cases Ti with
 |none=>exact lh (aA (f:=fun(rm:Nat)=>rc n 636 [.int mod,.int rm,.int (f9 none)]) (g:=λrm=>jh (.int (fS mod rm none))) (l:=List.range 8) (aA (f:=fun(mod:Nat)=>(List.range 8).map fun(rm:Nat)=>rc n 636 [.int mod,.int rm,.int (f9 none)]) (g:=λmod=>(List.range 8).map λrm=>jh (.int (fS mod rm none))) (l:=List.range 4) ⋯ (List.mem_range.mpr h1)) (List.mem_range.mpr h2)) σ rfl rfl
 |some o=>exact lh (aA (f:=fun(o:Nat)=>rc n 636 [.int mod,.int rm,.int o]) (g:=λo=>jh (.int (fS mod rm (some o)))) (l:=List.range 256) (aA (f:=fun(rm:Nat)=>(List.range 256).map fun(o:Nat)=>rc n 636 [.int mod,.int rm,.int o]) (g:=λrm=>(List.range 256).map λo=>jh (.int (fS mod rm (some o)))) (l:=List.range 8) (aA (f:=fun(mod:Nat)=>(List.range 8).map fun(rm:Nat)=>(List.range 256).map fun(o:Nat)=>rc n 636 [.int mod,.int rm,.int o]) (g:=λmod=>(List.range 8).map λrm=>(List.range 256).map λo=>jh (.int (fS mod rm (some o)))) (l:=List.range 4) ⋯ (List.mem_range.mpr h1)) (List.mem_range.mpr h2)) (List.mem_range.mpr (h3 o rfl))) σ rfl rfl
theorem Gq(a b)(c):fS a b c<=4:=by
 unfold fS;split
 ·exact Nat.zero_le _
 ·decide
 ·decide
 ·cases Nat.beq b 5<;>cases (Nat.beq b 4&&Nat.beq (c.elim 7 (· % 8)) 5)<;>decide
theorem i0(n:Nat){o:Nat}(h:o<256)(σ):call (n+2) 615 [.int o] σ=some (.ok (.tup [.int (o/64:Nat),.int (o/8 % 8:Nat),.int (o % 8:Nat)]),σ):=
 lh (aA (f:=fun(o:Nat)=>rc (n+1) 615 [.int o]) (g:=λo=>jh (.tup [.int (o/64:Nat),.int (o/8 % 8:Nat),.int (o % 8:Nat)])) (l:=List.range 256) ⋯ (List.mem_range.mpr h)) σ rfl rfl
theorem rF(n:Nat){o:Nat}(h:o<256)(σ):call (n+2) 622 [.int o] σ=some (.ok (.tup [.int (o/64:Nat),.int (o/8 % 8:Nat),.int (o % 8:Nat)]),σ):=
 lh (aA (f:=fun(o:Nat)=>rc (n+1) 622 [.int o]) (g:=λo=>jh (.tup [.int (o/64:Nat),.int (o/8 % 8:Nat),.int (o % 8:Nat)])) (l:=List.range 256) ⋯ (List.mem_range.mpr h)) σ rfl rfl
structure MR where
 o:Nat
 Ti:Option Nat
 Tj:Int
 width:Nat
 rest:Nat
noncomputable def dw(b:List UInt8)(o:Nat)(Ti:Option Nat)(j:Nat):Option MR:=
 cond (Nat.blt b.length (j+fS (o/64) (o % 8) Ti)) none (some ⟨o,Ti,sgn ((b.drop j).take (fS (o/64) (o % 8) Ti)),fS (o/64) (o % 8) Ti,j+fS (o/64) (o % 8) Ti⟩)
noncomputable def bD(o:Nat):Bool:= !(Nat.beq (o/64) 3)&&Nat.beq (o % 8) 4
noncomputable def cA(b:List UInt8)(i:Nat):Option MR:=(b[i]?).elim none λc=>
 cond (bD c.toNat) ((b[i+1]?).elim none λs=>dw b c.toNat (some s.toNat) (i+2)) (dw b c.toNat none (i+1))
noncomputable def Qx(m:MR):AV:= .tup [.int (m.o/64:Nat),.int (m.o/8 % 8:Nat),.int (m.o % 8:Nat),.int (f9 m.Ti),.int m.Tj,.int m.width,.int m.rest]
noncomputable def xS(x:Option MR):Res AV:=match x with
 |none=> .exc 83
 |some m=> .ok (Qx m)
noncomputable def MI(b:List UInt8)(j o:Nat)(Ti:Option Nat):St:=⟨[some (.bytes b),some (.int j),some (.int (o/64:Nat)),some (.int (o/8 % 8:Nat)),some (.int (o % 8:Nat)),some (.int (f9 Ti)),none,none],[]⟩
noncomputable def OI:List IS:=gC.take 4
noncomputable def OZ:List IS:=gC.drop 4
theorem At:Nat.beq a b=decide (a=b):=BT.beq_eq a b
theorem bE(h:Nat.beq a b=x):some ((a:Int)==(b:Int))=some x:=by
 rw[At] at h;subst h;congr 1;by_cases q:a=b
 ·rw[bU q,q];exact beq_self_eq_true _
 ·rw[decide_eq_false q];exact beq_eq_false_iff_ne.mpr (by omega)
theorem gx(h:Nat.beq a b=x):some (!((a:Int)==(b:Int)))=some (!x):=ac (Option.map (!·)) (bE h)
theorem Kk(n:Nat){b}(hb:b.length<=1000){i:Nat}{c}(hc:b[i]?=some c){Ti}{j:Nat}(h:(bD c.toNat=false/\Ti=none/\j=i+1)\/(bD c.toNat=true/\ ∃s,b[i+1]?=some s/\Ti=some s.toNat/\j=i+2)):
  ae (aU (n+2)) fa OI ⟨[some (.bytes b),some (.int i),none,none,none,none,none,none],[]⟩=some (.ok .next,MI b j c.toNat Ti):=by
 have h0:=gN (n+1) hb hc [];have hu:=i0 n (bV c) [];rcases h with⟨h1,rfl,rfl⟩|⟨h1,s,hs,rfl,rfl⟩
 ·cases h3:Nat.beq (c.toNat/64) 3 with
  |true=>exact aY [.k (.int c.toNat) [],.k (.tup [.int (c.toNat/64:Nat),.int (c.toNat/8 % 8:Nat),.int (c.toNat % 8:Nat)]) [],.b false] #[gx h3,hu,h0] ⋯
  |false=>
   have h4:Nat.beq (c.toNat % 8) 4=false:=by unfold bD at h1;rw[h3] at h1;exact h1
   exact aY [.k (.int c.toNat) [],.k (.tup [.int (c.toNat/64:Nat),.int (c.toNat/8 % 8:Nat),.int (c.toNat % 8:Nat)]) [],.b true,.b false] #[bE h4,gx h3,hu,h0] ⋯
 ·obtain⟨h3,h4⟩:=bG h1;exact aY [.k (.int c.toNat) [],.k (.tup [.int (c.toNat/64:Nat),.int (c.toNat/8 % 8:Nat),.int (c.toNat % 8:Nat)]) [],.b true,.b true,.k (.int s.toNat) []] #[gN (n+1) hb hs [],bE h4,gx (Bool.not_eq_eq_eq_not.mp h3),hu,h0] ⋯
theorem bP(a b):Nat.blt a b=decide (a<b):=by
 show Nat.ble (a+1) b=_;rw[Bool.eq_iff_iff,Nat.ble_eq,decide_eq_true_iff];exact Iff.rfl
theorem JW(n:Nat){b:List UInt8}(hb:b.length<=1000)(c:UInt8){Ti:Option Nat}(h3: ∀o,Ti=some o->o<256)(j:Nat):
  ∃s',ae (aU (n+4)) fa OZ (MI b j c.toNat Ti)=some ((match dw b c.toNat Ti j with|none=> .exc 83|some m=> .ok (.ret (Qx m))),s')/\s'.S9=[]:=by
 have hm:c.toNat/64<4:=by have:=bV c;omega
 have hd:=re (n+3) hm (Nat.mod_lt c.toNat (by decide:8>0)) h3 [];have hw:=Gq (c.toNat/64) (c.toNat % 8) Ti;unfold dw;generalize fS (c.toNat/64) (c.toNat % 8) Ti=w at hd hw ⊢;cases q:Nat.blt b.length (j+w) with
 |true=>
  have q':b.length<j+w:=aT ((bP _ _).symm.trans q);exact⟨⟨_,[]⟩,aY (s':=⟨[some (.bytes b),some (.int j),some (.int (c.toNat/64:Nat)),some (.int (c.toNat/8 % 8:Nat)),some (.int (c.toNat % 8:Nat)),some (.int (f9 Ti)),some (.int w),none],[]⟩) [.k (.int w) [],.i b.length,.b true] #[(qT (p:=(b.length:Int)<j+w) (by omega)),eY hb,hd] ⋯,rfl⟩
 |false=>
  have q': ¬b.length<j+w:=of_decide_eq_false ((bP _ _).symm.trans q);have o1:some (decide ((b.length:Int)<j+w))=some false:=qF (by omega);cases w with
  |zero=>exact⟨⟨_,[]⟩,aY (s':=⟨[some (.bytes b),some (.int j),some (.int (c.toNat/64:Nat)),some (.int (c.toNat/8 % 8:Nat)),some (.int (c.toNat % 8:Nat)),some (.int (f9 Ti)),some (.int 0),some (.int 0)],[]⟩) [.k (.int 0) [],.i b.length,.b false,.a] #[o1,eY hb,hd] ⋯,rfl⟩
  |succ w=>
   have e:=gY b j (w+1);have hs:=eW n (b:=(b.drop j).take (w+1)) (by rw[oY];omega) [];rw[<-e] at hs;rw[<-e];exact⟨⟨_,[]⟩,aY (s':=⟨[some (.bytes b),some (.int j),some (.int (c.toNat/64:Nat)),some (.int (c.toNat/8 % 8:Nat)),some (.int (c.toNat % 8:Nat)),some (.int (f9 Ti)),some (.int (w+1:Nat)),some (.int (sgn (cf b (some (j:Int)) (some ((j:Int)+((w+1:Nat):Int))))))],[]⟩) [.k (.int (w+1:Nat)) [],.i b.length,.b false,.b true,.k (.int (sgn (cf b (some (j:Int)) (some ((j:Int)+((w+1:Nat):Int)))))) []] #[hs,(show b.length<=100000 by omega),(qT (p:=(0:Int)<(w+1:Nat)) (by omega)),o1,eY hb,hd] ⋯,rfl⟩
theorem j3(n:Nat){b}(hb:b.length<=1000)(i:Nat)(σ):call (n+5) 643 [.bytes b,.int i] σ=some (xS (cA b i),σ):=by
 unfold cA;cases hc:b[i]? with
 |none=>exact xA [.r (.exc 83) []] #[ka (n+3) hb hc []] ⋯ σ rfl rfl
 |some c=>
  have fin: ∀(Ti:Option Nat) (j:Nat),(∀o,Ti=some o->o<256)->((bD c.toNat=false/\Ti=none/\j=i+1)\/(bD c.toNat=true/\ ∃s,b[i+1]?=some s/\Ti=some s.toNat/\j=i+2))->call (n+5) 643 [.bytes b,.int i] σ=some (xS (dw b c.toNat Ti j),σ):=λTi j h3 h=>by
   obtain⟨s',e,e'⟩:=JW n hb c h3 j;have z:=(aO (Kk (n+2) hb hc h)).trans e;obtain⟨loc,S9⟩:=s';cases e';cases hx:dw b c.toNat Ti j with
   |none=>rw[hx] at z;exact Of (f:=643) (body:=OI++OZ) (np:=2) (nl:=8) (d:=[]) (vs:=[.bytes b,.int i]) (res:= .exc 83) (r:= .exc 83) z ⋯ ⋯ ⋯ σ rfl rfl
   |some m=>rw[hx] at z;exact Of (f:=643) (body:=OI++OZ) (np:=2) (nl:=8) (d:=[]) (vs:=[.bytes b,.int i]) (res:=xS (some m)) z ⋯ ⋯ ⋯ σ rfl rfl
  show _=some (xS (cond (bD c.toNat) _ _),σ);cases h1:bD c.toNat with
  |false=>exact fin none (i+1) (λ_ h=>aB h) (.inl ⟨h1,rfl,rfl⟩)
  |true=>
   cases hs:b[i+1]? with
   |some s=>exact fin (some s.toNat) (i+2) (λo h=>by cases h;exact bV s) (.inr ⟨h1,s,hs,rfl,rfl⟩)
   |none=>
    obtain⟨h3,h4⟩:=bG h1;exact xA [.k (.int c.toNat) [],.k (.tup [.int (c.toNat/64:Nat),.int (c.toNat/8 % 8:Nat),.int (c.toNat % 8:Nat)]) [],.b true,.b true,.r (.exc 83) []] #[ka (n+3) hb hs [],bE h4,gx (Bool.not_eq_eq_eq_not.mp h3),i0 (n+2) (bV c) [],gN (n+3) hb hc []] ⋯ σ rfl rfl
theorem lO(h:du o=true):qX n σ o=o:=by
 cases o with
 |lst l=>exact ac AO.lst (cE h)
 |Tl ks l=>exact ac (AO.Tl ks) (cE h)
 |Tz ks l=>exact ac (AO.Tz ks) (cE h)
 |dct ks l=>exact ac (AO.dct ks) (cE h)
 |obj C l=>exact ac (AO.obj C) (cE h)
 |_=>rfl
theorem rV(h:du o=true):aM o.vals=true:=by
 cases o<;>first|exact h|rfl
noncomputable def Bo(o:AO)(σ:aX)(i:Nat)(x:Option (Res AV×aX)):Option (Res AV×aX):=x.bind λq=>q.1.Th (λv=>(MD q.2).bind λo'=>cond (flat v&&du o'&&o'.live&&o.isObj==o'.isObj) (some (.ok v,σ.set i o')) none) λC=>some (.exc C,σ.set i .dead)
theorem B9(h1:sp.TB=false)(h2:sp.byref=true)(h3:aM vs=true)(hk:σ[k]?=some o)(ho:du o=true)(hl:o.live=true):
  cR sp (.ref k::vs) σ=Bo o σ k (sp.run (.ref 0::vs) [o]):=by
 have e:cR sp (.ref k::vs) σ=((jk vs σ)[k]?).bind λo=>qu sp k vs (jk o.vals (jk vs σ)):=(ac (cond · _ _) h1).trans (ac (cond · _ _) h2);rw[e,dG h3,hk];show qu sp k vs (jk o.vals σ)=_;rw[dG (rV ho)];unfold qu;rw[hk];show cond (o.live&&du (qX 8 σ o)&&aM (vs.map (rs 8 σ))) _ _=_;rw[lO ho,cE h3,ho,hl,h3];rfl
noncomputable def Ov(n:Nat)(f:Addr)(vs:aV)(o:AO)(c:List gu):Option (Option (Res AV×aX)×List Prop):=(dY.find? (·.1==f)).bind λx=>cond (x.2.1&& !x.2.2.1) (Ja (aU n) x.2.2.2.2.2.2.1 x.2.2.2.2.1 x.2.2.2.1 x.2.2.2.2.2.1 x.2.2.1 x.2.2.2.2.2.2.2 (.ref 0::vs) [o] c) none
theorem u4(k:All ob)(h:Ov n f vs o c=some (x,ob))(hv:aM vs=true)(hk:σ[i]?=some o)(ho:du o=true)(hl:o.live=true):
  call (n+1) f (.ref i::vs) σ=Bo o σ i x:=
 bA h λy hy h=>eV h λhb h=>(gv ..).trans ((ac (Option.bind · λx=>cR (kD (aU n) x) (.ref i::vs) σ) hy).trans ((B9 (sp:=kD (aU n) y) ((Bool.not_eq_true' _).mp (bG hb).2) (bG hb).1 hv hk ho hl).trans (ac (Bo o σ i) (yE h k))))
theorem zg:pP T f C vs σ=(lL T f (.ref σ.length::vs) (σ++ [.obj C []])).bind λq=>cond (q.1.Th AV.T5 λ_=>false) (some (.ok (.ref σ.length),q.2)) none:=by
 unfold pP lL;cases T.fn f<;>rfl
theorem xR(c)(k:All ob)(h:Ov n f vs o c=some (some (.ok v,[o']),ob))(hv:aM vs=true)(hk:σ[i]?=some o)(ho:du o=true)(hl:o.live=true)
  (hr:(flat v&&du o'&&o'.live&&o.isObj==o'.isObj)=true):call (n+1) f (.ref i::vs) σ=some (.ok v,σ.set i o'):=(u4 k h hv hk ho hl).trans (ac (cond · _ none) hr)
theorem PO(c)(k:All ob)(h:Ov n f vs o c=some (some (.exc C,[.dead]),ob))(hv:aM vs=true)(hk:σ[i]?=some o)(ho:du o=true)(hl:o.live=true):
  call (n+1) f (.ref i::vs) σ=some (.exc C,σ.set i .dead):=u4 k h hv hk ho hl
theorem lE:(σ++ [a])[σ.length]?=some a:=by rw[List.getElem?_append_right (Nat.le_refl _),Nat.sub_self];rfl
theorem vc:(σ++ [a]).set σ.length x=σ++ [x]:=by rw[List.set_append_right _ _ (Nat.le_refl _),Nat.sub_self];rfl
theorem xN(c)(k:All ob)(h:Ov n f vs (.obj C []) c=some (some (.ok .none,[o']),ob))(σ)(hv:aM vs=true)(hr:(du o'&&o'.live&&true==o'.isObj)=true):pP (aU (n+1)) f C vs σ=some (.ok (.ref σ.length),σ++ [o']):=by
 have z:=xR (σ:=σ++ [.obj C []]) (i:=σ.length) _ k h hv lE rfl rfl hr;rw[vc] at z;exact zg.trans (ac (Option.bind · _) z)
inductive Sh where
 |mr|rm|m|mi|ms|ai
noncomputable def RE(t:Sh)(s:Sz):List K:=match t with
 | .mr=>[.rm s,.r s]
 | .rm=>[.r s,.rm s]
 | .m=>[.rm s]
 | .mi=>[.rm s,.Tn s]
 | .ms=>[.rm s,.s8]
 | .ai=>[.acc s,.Tn s]
noncomputable def DC:List Str:=["test","inc","dec","not","neg","add","or","adc","sbb","and","sub","xor","cmp"]
noncomputable def cX(j:Nat):Str:=DC.getD j ""
structure FS where
 nm:Nat
 sh:Sh
 op:Nat
 digit:Option Nat
 size:Sz
 num:Nat
noncomputable def MM(o:Option Nat):Int:=f9 o
noncomputable def kV(k:K):AV:= .str (gh k)
noncomputable def sV(k:K):AV:= .str (qJ k)
noncomputable def Q3(nm:Str)(ks:List K)(op:Int)(dg:Int)(s:Sz)(num:Int):aV:=[.str nm,.tup (ks.map kV),.int op,.int 0,.int dg,.int s.i,.int 0,.bool false,.int num,.tup (ks.map sV)]
noncomputable def aq(f:FS):AV:= .obj 227 (Q3 (cX f.nm) (RE f.sh f.size) f.op (MM f.digit) f.size f.num)
noncomputable def j4:List Sh:=[.mr,.rm,.m,.mi,.ms,.ai]
theorem qQ(b):b∈j4:=by cases b<;>repeat (first|exact .head _|apply List.Mem.tail)
theorem aP(f):flat (aq f)=true:=by
 obtain⟨nm,sh,op,dg,s,num⟩:=f;exact aA (f:=λsh=>flat (aq ⟨nm,sh,op,dg,s,num⟩)) (g:=λ_=>true) (l:=j4) ⋯ (qQ sh)
theorem bM{α:Type}{g:α->AV}(h: ∀a,flat (g a)=true): ∀l:List α,aM (l.map g)=true
 | []=>rfl
 |a::l=>ca ⟨h a,bM h l⟩
structure kJ where
 p:PS
 c:Nat
 esc:Nat
 op:Nat
 ma:Nat
 m:Option MR
 rest:Nat
noncomputable def eU(f:kJ):aV:=[.int 0,cK f.p,.int f.c,.int (bi (bW f.p.Te)),.int (bi (bR f.p.Te)),.int (bi (bX f.p.Te)),.int (bi (bB f.p.Te)),.int f.esc,.int f.op,.int 0,.int f.ma,
 .int (f.m.elim (-1) λm=>(m.o/64:Nat)),.int (f.m.elim 0 λm=>(m.o/8 % 8:Nat)),.int (f.m.elim 0 λm=>(m.o % 8:Nat)),.int (f.m.elim (-1) λm=>f9 m.Ti),.int (f.m.elim 0 λm=>m.Tj),.int (f.m.elim 0 λm=>m.width),.int (f.m.elim (f.rest:Int) λm=>m.rest)]
noncomputable def cY(f:kJ):AV:= .obj 836 (eU f)
noncomputable def AF(p:PS)(i:Nat):kJ:=⟨p,i,0,0,i,none,i⟩
noncomputable def gk(p:PS)(i e:Nat)(o:Nat):kJ:=⟨p,i,e,o,i+e+1,none,i+e+1⟩
theorem j5(n:Nat)(p)(i:Nat)(σ):pP (aU (n+2)) 798 836 [.int 0,cK p,.int i] σ=some (.ok (.ref σ.length),σ++ [.obj 836 (eU (AF p i))]):=
 xN [.k (bits p.Te) [.obj 836 [.int 0,cK p,.int i]],.a,.a,.a,.a] #[uI n p.Te [.obj 836 [.int 0,cK p,.int i]]] ⋯ σ rfl rfl
noncomputable def ND{β:Type}(f:Option RX->β):β×List (List (List (List β))):=(f none,JQ λq=>f (some q))
theorem ro{β:Type}{f g:Option RX->β}(h:ND f=ND g): ∀o,f o=g o
 |none=>ac Prod.fst h
 |some q=>Mo (f:=λq=>f (some q)) (g:=λq=>g (some q)) (ac Prod.snd h) q
theorem g9(n)(f)(σ):call (n+1) 805 [cY f] σ=some (.ok (.bool f.p.Te.isSome),σ):=by
 obtain⟨⟨s,d,r,l,o⟩,c,esc,op,ma,m,rest⟩:=f;exact lh (ro (f:=λo=>rc n 805 [cY ⟨⟨s,d,r,l,o⟩,c,esc,op,ma,m,rest⟩]) (g:=λo=>jh (.bool o.isSome)) ⋯ o) σ rfl rfl
theorem ua(n)(f)(σ):call (n+1) 812 [cY f] σ=some (.ok (.bool f.p.dat),σ):=by
 obtain⟨⟨s,d,r,l,o⟩,c,esc,op,ma,m,rest⟩:=f;exact lh (aA (f:=λd=>rc n 812 [cY ⟨⟨s,d,r,l,o⟩,c,esc,op,ma,m,rest⟩]) (g:=λd=>jh (.bool d)) (l:=allB) ⋯ (uf d)) σ rfl rfl
section
variable {n:Nat} {b:List UInt8} {p:PS} {i:Nat} {c:UInt8} {σ:aX} {k:Nat}
theorem JO(h:b[i]?=some c):cf b (some (i:Int)) (some ((i:Int)+1))=[c]:=by
 refine(gY b i 1).trans ?_;rw[List.drop_eq_getElem_cons (jU h),List.take_succ_cons,List.take_zero];rw[List.getElem?_eq_getElem (jU h)] at h;rw[aC h]
theorem P0(h:b[i]?=none):cf b (some (i:Int)) (some ((i:Int)+1))=[]:=by
 refine(gY b i 1).trans ?_;rw[List.drop_of_length_le (List.getElem?_eq_none_iff.mp h),List.take_nil]
theorem GX(h:b[i]?=none):some (decide ((b.length:Int)<=i))=some true:=qT (by have:=List.getElem?_eq_none_iff.mp h;omega)
theorem Hl(h:b[i]?=some c):some (decide ((b.length:Int)<=i))=some false:=qF (by have:=jU h;omega)
theorem yx(h:cf b (some (i:Int)) (some ((i:Int)+1))=x)(h2:(x==[15])=y):some (cf b (some (i:Int)) (some ((i:Int)+1))==[15])=some y:=by rw[h,h2]
theorem Qd(h:c≠15):(([c]:List UInt8)==[15])=false:=by
 rw[List.cons_beq_cons,beq_eq_false_iff_ne.mpr h];rfl
theorem rj(hb:b.length<=1000)(h:b[i]?=none)(hk:σ[k]?=some (.obj 836 (eU (AF p i)))):call (n+1) 819 [.ref k,.bytes b] σ=some (.exc 83,σ.set k .dead):=
 PO [.a,.b false,.i b.length,.b true] #[GX h,eY hb,yx (P0 h) rfl,(show b.length<=100000 by omega)] ⋯ rfl hk rfl rfl
theorem sC(hb:b.length<=1000)(h:b[i]?=some c)(h15:c≠15)(hk:σ[k]?=some (.obj 836 (eU (AF p i)))):call (n+1) 819 [.ref k,.bytes b] σ=some (.ok .none,σ.set k (.obj 836 (eU (gk p i 0 c.toNat)))):=
 xR [.a,.b false,.i b.length,.b false,.i c.toNat] #[fL hb h,Hl h,eY hb,yx (JO h) (Qd h15),(show b.length<=100000 by omega)] ⋯ rfl hk rfl rfl rfl
theorem p7(hb:b.length<=1000)(h:b[i]?=some 15)(h':b[i+1]?=none)(hk:σ[k]?=some (.obj 836 (eU (AF p i)))):call (n+1) 819 [.ref k,.bytes b] σ=some (.exc 83,σ.set k .dead):=
 PO [.a,.b true,.i b.length,.b true] #[GX h',eY hb,yx (JO h) rfl,(show b.length<=100000 by omega)] ⋯ rfl hk rfl rfl
theorem rA(hb:b.length<=1000)(h:b[i]?=some 15)(h':b[i+1]?=some c)(hk:σ[k]?=some (.obj 836 (eU (AF p i)))):call (n+1) 819 [.ref k,.bytes b] σ=some (.ok .none,σ.set k (.obj 836 (eU (gk p i 1 c.toNat)))):=
 xR [.a,.b true,.i b.length,.b false,.i c.toNat] #[fL hb h',Hl h',eY hb,yx (JO h) rfl,(show b.length<=100000 by omega)] ⋯ rfl hk rfl rfl rfl
structure Hq (I:AV) (To:Nat->List FS):Prop where
 fl:flat I=true
 ob: ∃l,I= .obj 1130 l
 at_: ∀n (must esc op:Nat) σ,call (n+1) 1099 [I,.int must,.int esc,.int op] σ=some (.ok (.lst ((cond (Nat.beq must 0&&Nat.beq esc 0) (To op) []).map aq)),σ)
theorem Hq.no(hI:Hq I To)(h:Nat.beq must 0=false)(n esc op:Nat)(σ):call (n+1) 1099 [I,.int must,.int esc,.int op] σ=some (.ok (.lst []),σ):=by
 rw[hI.at_,h];rfl
theorem tL(hI:Hq I To)(hk:σ[k]?=some (.obj 836 (eU f))):call (n+2) 826 [.ref k,I] σ=some (.ok .none,σ.set k (.obj 836 (eU f))):=by
 obtain⟨l,rfl⟩:=hI.ob;obtain⟨⟨s,d,r,lk,o⟩,c,esc,op,ma,m,rest⟩:=f;have hf:aM [.obj 1130 l]=true:=ca ⟨hI.fl,rfl⟩;have go: ∀F:kJ,F=⟨⟨s,d,r,lk,o⟩,c,esc,op,ma,m,rest⟩->σ[k]?=some (.obj 836 (eU F))->call (n+2) 826 [.ref k,.obj 1130 l] σ=some (.ok .none,σ.set k (.obj 836 (eU F))):=λF hF hk=>by
  have A: ∀must:Nat,Nat.beq must 0=false->call (n+1) 1099 [.obj 1130 l,.int must,.int esc,.int op] [.obj 836 (eU F)]=some (.ok (.lst []),[.obj 836 (eU F)]):=λmust h=>hI.no h n esc op _;have B: ∀must:Nat,Nat.beq must 0=false->call (n+1) 1099 [.obj 1130 l,.int must,.int esc,.int op] [.obj 836 (eU F),.lst []]=some (.ok (.lst []),[.obj 836 (eU F),.lst []]):=λmust h=>hI.no h n esc op _;cases d<;>cases r
  ·subst hF;exact xR [.a,.a,.a,.a] .nil ⋯ hf hk rfl rfl rfl
  ·have z:=A 243 rfl;subst hF;exact xR [.a,.a,.a,.k (.lst []) [.obj 836 (eU ⟨⟨s,false,.rp,lk,o⟩,c,esc,op,ma,m,rest⟩)],.a,.a] #[z] ⋯ hf hk rfl rfl rfl
  ·have z:=A 242 rfl;subst hF;exact xR [.a,.a,.a,.k (.lst []) [.obj 836 (eU ⟨⟨s,false,.rn,lk,o⟩,c,esc,op,ma,m,rest⟩)],.a,.a] #[z] ⋯ hf hk rfl rfl rfl
  ·have z:=A 102 rfl;subst hF;exact xR [.a,.a,.a,.a,.k (.lst []) [.obj 836 (eU ⟨⟨s,true,.no,lk,o⟩,c,esc,op,ma,m,rest⟩)],.a] #[z] ⋯ hf hk rfl rfl rfl
  ·have z:=A 243 rfl;have y:=B 102 rfl;subst hF;exact xR [.a,.a,.a,.k (.lst []) [.obj 836 (eU ⟨⟨s,true,.rp,lk,o⟩,c,esc,op,ma,m,rest⟩)],.a,.a,.k (.lst []) [.obj 836 (eU ⟨⟨s,true,.rp,lk,o⟩,c,esc,op,ma,m,rest⟩),.lst []],.a] #[y,z] ⋯ hf hk rfl rfl rfl
  ·have z:=A 242 rfl;have y:=B 102 rfl;subst hF;exact xR [.a,.a,.a,.k (.lst []) [.obj 836 (eU ⟨⟨s,true,.rn,lk,o⟩,c,esc,op,ma,m,rest⟩)],.a,.a,.k (.lst []) [.obj 836 (eU ⟨⟨s,true,.rn,lk,o⟩,c,esc,op,ma,m,rest⟩),.lst []],.a] #[y,z] ⋯ hf hk rfl rfl rfl
 exact go _ rfl hk
theorem ri(hb:b.length<=1000)(h:cA b (i+e+1)=some m)(hk:σ[k]?=some (.obj 836 (eU (gk p i e o)))):call (n+6) 833 [.ref k,.bytes b] σ=some (.ok .none,σ.set k (.obj 836 (eU {gk p i e o with m:=some m}))):=by
 have z:=j3 n hb (i+e+1) [.obj 836 (eU (gk p i e o))];rw[h] at z;exact xR [.k (Qx m) [.obj 836 (eU (gk p i e o))],.a,.a,.a,.a,.a,.a,.a] #[z] ⋯ rfl hk rfl rfl rfl
theorem oy(hb:b.length<=1000)(h:cA b (i+e+1)=none)(hk:σ[k]?=some (.obj 836 (eU (gk p i e o)))):call (n+6) 833 [.ref k,.bytes b] σ=some (.exc 83,σ.set k .dead):=by
 have z:=j3 n hb (i+e+1) [.obj 836 (eU (gk p i e o))];rw[h] at z;exact PO [.r (.exc 83) [.obj 836 (eU (gk p i e o))]] #[z] ⋯ rfl hk rfl rfl
end
theorem dc(h:flat v=true)(σ):td v 0 σ=some (.ok v,[]):=by
 show cond (flat (rs 8 (lB 0 σ) v)&&true) (some (Res.ok (rs 8 (lB 0 σ) v),([]:aX))) none=_;rw[gq 8 h,h];rfl
noncomputable def fg(f:FS):Bool:=f.digit.isSome||(match f.sh with| .ai=>false|_=>true)
theorem tr(n)(f)(σ):call (n+1) 203 [aq f] σ=some (.ok (.bool (fg f)),σ):=by
 obtain⟨nm,sh,op,dg,s,num⟩:=f;refine lh ?_ σ (ca ⟨aP _,rfl⟩) rfl;cases dg with
 |none=>exact aA (f:=λs=>rc n 203 [aq ⟨nm,sh,op,none,s,num⟩]) (g:=λs=>jh (.bool (fg ⟨nm,sh,op,none,s,num⟩))) (l:=fE) (aA (f:=λsh=>fE.map λs=>rc n 203 [aq ⟨nm,sh,op,none,s,num⟩]) (g:=λsh=>fE.map λs=>jh (.bool (fg ⟨nm,sh,op,none,s,num⟩))) (l:=j4) ⋯ (qQ sh)) (tq s)
 |some d=>exact aA (f:=λs=>rc n 203 [aq ⟨nm,sh,op,some d,s,num⟩]) (g:=λs=>jh (.bool true)) (l:=fE) (aA (f:=λsh=>fE.map λs=>rc n 203 [aq ⟨nm,sh,op,some d,s,num⟩]) (g:=λsh=>fE.map λs=>jh (.bool true)) (l:=j4) ⋯ (qQ sh)) (tq s)
noncomputable def iJ(s:Sz)(p:PS):Bool:=match s with
 | .b8=>true
 | .T4=> !bW p.Te&&p.dat
 | .T6=> !bW p.Te&& !p.dat
 | .Tv=>bW p.Te
theorem uk(n)(x)(f)(σ):call (n+2) 847 [aq x,cY f] σ=some (.ok (.bool (iJ x.size f.p)),σ):=by
 obtain⟨nm,sh,op,dg,s,num⟩:=x;obtain⟨⟨sg,d,r,l,o⟩,c,esc,UC,ma,m,rest⟩:=f;refine lh ?_ σ (ca ⟨aP _,rfl⟩) rfl;exact aA (f:=λd=>rc (n+1) 847 [aq ⟨nm,sh,op,dg,s,num⟩,cY ⟨⟨sg,d,r,l,o⟩,c,esc,UC,ma,m,rest⟩]) (g:=λd=>jh (.bool (iJ s ⟨sg,d,r,l,o⟩))) (l:=allB)
  (aA (f:=λs=>allB.map λd=>rc (n+1) 847 [aq ⟨nm,sh,op,dg,s,num⟩,cY ⟨⟨sg,d,r,l,o⟩,c,esc,UC,ma,m,rest⟩]) (g:=λs=>allB.map λd=>jh (.bool (iJ s ⟨sg,d,r,l,o⟩))) (l:=fE)
   (ro (f:=λo=>fE.map λs=>allB.map λd=>rc (n+1) 847 [aq ⟨nm,sh,op,dg,s,num⟩,cY ⟨⟨sg,d,r,l,o⟩,c,esc,UC,ma,m,rest⟩]) (g:=λo=>fE.map λs=>allB.map λd=>jh (.bool (iJ s ⟨sg,d,r,l,o⟩))) ⋯ o) (tq s)) (uf d)
noncomputable def P9(m:Option MR):Int:=m.elim (-1) λm=>(m.o/64:Nat)
theorem uE(n)(x)(hm: ∀y,m=some y->y.o<256)(σ):call (n+1) 852 [aq x,.int (P9 m)] σ=some (.ok (.bool true),σ):=by
 obtain⟨nm,sh,op,dg,s,num⟩:=x;refine lh ?_ σ (ca ⟨aP _,rfl⟩) rfl;cases m with
 |none=>exact aA (f:=λs=>rc n 852 [aq ⟨nm,sh,op,dg,s,num⟩,.int (-1)]) (g:=λs=>jh (.bool true)) (l:=fE) (aA (f:=λsh=>fE.map λs=>rc n 852 [aq ⟨nm,sh,op,dg,s,num⟩,.int (-1)]) (g:=λsh=>fE.map λs=>jh (.bool true)) (l:=j4) ⋯ (qQ sh)) (tq s)
 |some y=>exact aA (f:=fun(q:Nat)=>rc n 852 [aq ⟨nm,sh,op,dg,s,num⟩,.int q]) (g:=λq=>jh (.bool true)) (l:=List.range 4) (aA (f:=λs=>(List.range 4).map fun(q:Nat)=>rc n 852 [aq ⟨nm,sh,op,dg,s,num⟩,.int q]) (g:=λs=>(List.range 4).map λq=>jh (.bool true)) (l:=fE) (aA (f:=λsh=>fE.map λs=>(List.range 4).map fun(q:Nat)=>rc n 852 [aq ⟨nm,sh,op,dg,s,num⟩,.int q]) (g:=λsh=>fE.map λs=>(List.range 4).map λq=>jh (.bool true)) (l:=j4) ⋯ (qQ sh)) (tq s)) (List.mem_range.mpr (by have:=hm y rfl;omega))
theorem vH(n)(x)(he:f.esc=0)(h:Nat.beq f.op 144=false)(σ):call (n+1) 859 [aq x,cY f] σ=some (.ok (.bool true),σ):=by
 obtain⟨⟨sg,d,r,l,o⟩,c,esc,op,ma,m,rest⟩:=f;subst he;exact xA [.a,.b true] #[gx h] ⋯ σ (ca ⟨aP _,rfl⟩) rfl
noncomputable def uq(f:kJ):Nat:=f.m.elim 0 λm=>m.o/8 % 8
noncomputable def pk(f:kJ)(x:FS):Bool:=x.digit.elim true (λd=>Nat.beq d (uq f))&&iJ x.size f.p
structure CD (f:kJ):Prop where
 m: ∀y,f.m=some y->y.o<256
 e:f.esc=0
noncomputable abbrev PT:List IS:=[.Td (.and [.cmp .GtE (.attr (.var 2) 4) (.k (.int 0)),.cmp .NotEq (.attr (.var 2) 4) (.attr (.var 1) 35)]) [.cont] [],.Td (.and [.Tf 0 [.var 2,.var 1],.Tf 1 [.var 2,.attr (.var 1) 34],.Tf 2 [.var 2,.var 1]]) [.ret (.var 2)] []]
section
variable {n:Nat} {x:FS} {f:kJ} {a v:Option AV}
noncomputable def wy(a:Option AV)(f:kJ)(v:Option AV):St:=⟨[a,some (cY f),v],[]⟩
theorem FY(hf:CD f)(h:Nat.beq f.op 144=false):stepI (aU (n+2)) eE (.var 2) PT (aq x) (wy a f v)=some ((if pk f x then Res.ok (Fl.ret (aq x)) else Res.ok (if x.digit.elim true (λd=>Nat.beq d (uq f)) then Fl.next else Fl.cont)),wy a f (some (aq x))):=by
 have h1:=uk n x f [];have h2:=uE (n+1) x hf.m [];have h3:=vH (n+1) x hf.e h [];obtain⟨nm,sh,op,dg,s,num⟩:=x;obtain⟨p,c,esc,UC,ma,m,rest⟩:=f;have e1:some (iJ s p)=some (iJ s p):=rfl;have tail: ∀q:Bool,iJ s p=q->(some (iJ s p)=some q):=λq e=>ac some e;unfold pk;have fin: ∀(cs:List gu) (os:List Prop),All os->True:=λ_ _ _=>trivial;cases dg with
 |none=>
  show _=some ((if(true&&iJ s p)=true then _ else _),_);cases hq:iJ s p with
  |false=>exact ce [.a,.k (.bool (iJ s p)) [],.b false] #[tail _ hq,h1] ⋯
  |true=>exact ce [.a,.k (.bool (iJ s p)) [],.b true,.k (.bool true) [],.a,.k (.bool true) [],.a] #[h3,h2,tail _ hq,h1] (by cases m<;>kernel_rfl)
 |some d=>
  show _=some ((if(Nat.beq d (uq ⟨p,c,esc,UC,ma,m,rest⟩)&&iJ s p)=true then _ else Res.ok (if Nat.beq d (uq ⟨p,c,esc,UC,ma,m,rest⟩)=true then Fl.next else Fl.cont)),_);cases hd:Nat.beq d (uq ⟨p,c,esc,UC,ma,m,rest⟩) with
  |false=>exact ce [.a,.b true] #[gx hd] (by cases m<;>kernel_rfl)
  |true=>
   cases hq:iJ s p with
   |false=>exact ce [.a,.b false,.k (.bool (iJ s p)) [],.b false] #[tail _ hq,h1,gx hd] (by cases m<;>kernel_rfl)
   |true=>exact ce [.a,.b false,.k (.bool (iJ s p)) [],.b true,.k (.bool true) [],.a,.k (.bool true) [],.a] #[h3,h2,tail _ hq,h1,gx hd] (by cases m<;>kernel_rfl)
theorem yK(hf:CD f)(h:Nat.beq f.op 144=false): ∀(l:List FS) (v:Option AV),∃v',dk (stepI (aU (n+2)) eE (.var 2) PT) (l.map aq) (wy a f v)=some ((match l.find? (pk f) with|some x=>Res.ok (Fl.ret (aq x))|none=>Res.ok Fl.next),wy a f v')
 | [],v=>⟨v,rfl⟩
 |x::l,v=>by
  have st:=FY (n:=n) (x:=x) (a:=a) (v:=v) hf h;rw[List.find?_cons,List.map_cons];cases hp:pk f x with
  |true=>rw[hp] at st;exact⟨_,ig st⟩
  |false=>
   rw[hp] at st;obtain⟨v',e⟩:=yK hf h l (some (aq x));refine⟨v',?_⟩;cases hd:x.digit.elim true (λd=>Nat.beq d (uq f)) with
   |true=>rw[hd] at st;exact(cC st).trans e
   |false=>rw[hd] at st;exact(zv st).trans e
noncomputable def Hy(x:Option FS):Res AV:=match x with
 |some x=> .ok (aq x)
 |none=> .exc 83
theorem z0(hf:CD f)(l)(h:l≠ []->Nat.beq f.op 144=false)(σ):call (n+3) 866 [.lst (l.map aq),cY f] σ=some (Hy (l.find? (pk f)),σ):=by
 have hv:aM [.lst (l.map aq),cY f]=true:=ca ⟨bM aP l,rfl⟩;cases hl:l with
 |nil=>exact xA [.a] .nil ⋯ σ rfl rfl
 |cons y l'=>
  rw[<-hl];obtain⟨v',e⟩:=yK (n:=n) (a:=some (.lst (l.map aq))) hf (h (by rw[hl];exact List.cons_ne_nil _ _)) l none;have e':bf (aU (n+2)) eE (.fr .seq 0 [.var 0] (.var 2) PT) ⟨[some (.lst (l.map aq)),some (cY f),none],[]⟩=_:=(rZ (vs:=[.lst (l.map aq)]) rfl rfl).trans e;cases hx:l.find? (pk f) with
  |none=>
   rw[hx] at e';exact xA [.f (.ok .next) (wy (some (.lst (l.map aq))) f v')] #[e'] ⋯ σ hv rfl
  |some x=>
   rw[hx] at e';have hfl:=aP x;exact Of (f:=866) (np:=2) (nl:=3) (d:=[]) (r:= .ok (.ret (aq x))) (s':=wy (some (.lst (l.map aq))) f v') (gl:=eE) (body:=rS)
    (aY [.f (.ok (.ret (aq x))) (wy (some (.lst (l.map aq))) f v')] #[e'] ⋯) ⋯ rfl (dc hfl []) σ hv hfl
end
theorem Ca{α β:Type}{g:α->AV}{r:α->β}{step:AV->St->Out β}{s}(l:List α):(∀a∈l,step (g a) s=some (.ok (r a),s))->uj (l.map g) step s=some (.ok (l.map r),s):=by
 induction l with
 |nil=>exact λ_=>rfl
 |cons a l ih=>exact λh=>(ac (ao · λx s=>ao (uj (l.map g) step s) λxs s=>some (.ok (x::xs),s)) (h a (.head _))).trans (ac (ao · λxs s=>some (.ok (r a::xs),s)) (ih λb hb=>h b (.tail _ hb)))
theorem nB{α β:Type}(r:α->β): ∀l:List α,(l.map λa=>[r a]).flatten=l.map r
 | []=>rfl
 |a::l=>ac (r a:: ·) (nB r l)
theorem iH{α:Type}{g:α->AV}{l:List α}(h:l.length<=1000):(l.map g).length<=100000:=(List.length_map (as:=l) g).symm▸bz h ∅
noncomputable def AT(T:Tb)(gl:Gl)(elt:IE)(cap:List Nat)(cs:List IE)(s:St)(a:AV)(s':St):Out (aV):=we (fF T gl cs ⟨some a::cap.map λi=>(s.loc[i]?).join,s'.S9⟩) λb s1=>cond b (we (aw T gl elt s1) λv s2=>some (.ok [v],⟨s.loc,s2.S9⟩)) (some (.ok [],⟨s.loc,s1.S9⟩))
noncomputable def Hv(T:Tb)(gl:Gl)(elt:IE)(cap:List Nat)(cs:List IE)(items:aV)(s:St):Out AV:=KX (decide (items.length<=100000)) s λs=>we (uj items (AT T gl elt cap cs s) s) λvs s=>some (.ok (.lst vs.flatten),s)
theorem uQ{α:Type}{T}{gl}{elt src}{cap}{ik}{gn}{cs}{s}{x}{g:α->AV}{r:α->aV}{l:List α}(TN:aw T gl src s=some (.ok x,s))(hi:bN s.S9 ik [x]=some (l.map g))(hl:l.length<=1000)
  (he: ∀a∈l,AT T gl elt cap cs s (g a) s=some (.ok (r a),s)):aw T gl (.comp elt cap ik gn src cs) s=some (.ok (.lst (l.map r).flatten),s):=
 (ac (ao · λx s=>fh (bN s.S9 ik [x]) s (Hv T gl elt cap cs)) TN).trans ((ac (λo=>fh o s (Hv T gl elt cap cs)) hi).trans ((ac (λb=>KX b s λs=>we (uj (l.map g) (AT T gl elt cap cs s) s) λvs s=>some (Res.ok (AV.lst vs.flatten),s)) (bU (iH hl))).trans
  (ac (we · fun(vs:List (aV)) s=>some (Res.ok (AV.lst vs.flatten),s)) (Ca l he))))
theorem lQ{α:Type}{T}{gl}{elt src}{cap}{ik}{gn}{s}{x}{g r:α->AV}{l:List α}(TN:aw T gl src s=some (.ok x,s))(hi:bN s.S9 ik [x]=some (l.map g))(hl:l.length<=1000)
  (he: ∀a∈l,∃loc,aw T gl elt ⟨some (g a)::cap.map (λi=>(s.loc[i]?).join),s.S9⟩=some (.ok (r a),⟨loc,s.S9⟩)):aw T gl (.comp elt cap ik gn src []) s=some (.ok (.lst (l.map r)),s):=
 (uQ (elt:=elt) (cap:=cap) (cs:=[]) (r:=λa=>[r a]) TN hi hl λa ha=>(he a ha).elim λloc e=>ac (we · λv s2=>some (Res.ok [v],(⟨s.loc,s2.S9⟩:St))) e).trans (ac (λl=>some (Res.ok (AV.lst l),s)) (nB r l))
theorem xm{α:Type}{σ}{g:α->AV}{l:List α}(h:l.length<=1000):cL σ .len [.lst (l.map g)]=some (.int l.length):=(if_pos (iH h)).trans (ac (λn:Nat=>some (AV.int n)) (List.length_map ..))
theorem ny{α:Type}{g:α->Bool}: ∀l:List α,boolsOf (l.map λa=> .bool (g a))=some (l.map g)
 | []=>rfl
 |a::l=>by
  show(boolsOf (l.map λa=> .bool (g a))).map (g a:: ·)=_;rw[ny l];rfl
theorem any_map{α:Type}{g:α->Bool}{l:List α}(hl:l.length<=1000):cL [] .any [.lst (l.map λa=> .bool (g a))]=some (.bool (l.any g)):=by
 show(if(l.map λa=>AV.bool (g a)).length<=1000 then(boolsOf (l.map λa=> .bool (g a))).map λl=>AV.bool (l.any id) else none)=_;rw[if_pos (by rw[List.length_map];exact hl),ny];show some (AV.bool ((l.map g).any id))=_;rw[List.any_map];rfl
noncomputable def fA(l:List FS)(f:kJ):Option (kJ×FS):=(l.find? (pk f)).map (Prod.mk f)
noncomputable def iK(b:List UInt8)(l:List FS)(p:PS)(i:Nat)(c:Nat):Option (kJ×FS):=
 cond (l.any fg) ((cA b (i+1)).elim none λm=>fA l {gk p i 0 c with m:=some m}) (fA l (gk p i 0 c))
noncomputable def iF(To:Nat->List FS)(b:List UInt8):Option (kJ×FS):=(g8 b p0 0).elim none λq=>(b[q.2]?).elim none λc=>
 cond (Nat.beq c.toNat 15) none (iK b (To c.toNat) q.1 q.2 c.toNat)
noncomputable def lY(x:Option (kJ×FS)):Res AV:=match x with
 |none=> .exc 83
 |some y=> .ok (.tup [cY y.1,aq y.2])
structure A0 (To:Nat->List FS):Prop where
 len: ∀op,(To op).length<=1000
 Wl:To 144=[]
theorem A0.ne(ha:A0 To):To c≠ []->Nat.beq c 144=false:=λh=>by
 rw[At];exact decide_eq_false λe=>h (e▸ha.Wl)
theorem wZ(hf:CD f)(l)(h:l≠ []->Nat.beq f.op 144=false):call (n+3) 866 [.lst (l.map aq),.ref 0] [.obj 836 (eU f)]=some (Hy (l.find? (pk f)),[.Tg (cY f)]):=by
 have hl:aM (l.map aq)=true:=bM aP l;refine(fY (vs':=[.lst (l.map aq),cY f]) (σ':=[.Tg (cY f)]) ⋯ ?_ ?_ (ca ⟨hl,rfl⟩)).trans (z0 hf l h _)
 ·show fz 8 (.ref 0) (fz 8 (.lst (l.map aq)) _)=_;rw[sF 8 (v:= .lst (l.map aq)) hl];rfl
 ·show[rs 8 _ (.lst (l.map aq)),rs 8 _ (.ref 0)]=_;rw[gq 8 (v:= .lst (l.map aq)) hl];rfl
section
variable {n:Nat} {b:List UInt8} {I:AV} {To:Nat->List FS} {p:PS} {i:Nat} {c:UInt8}
noncomputable abbrev HB(I:AV)(b:List UInt8)(p:PS)(i:Nat)(v:Option AV)(f:kJ):St:=⟨[some I,some (.bytes b),some (.int 0),some (cK p),some (.int i),some (.ref 0),v],[.obj 836 (eU f)]⟩
noncomputable def O1:List IS:=fo.take 5
theorem yV(hb:b.length<=900)(hI:Hq I To)(h:g8 b p0 0=some (p,i))(ht: ∀n,call (n+1) 819 [.ref 0,.bytes b] [.obj 836 (eU (AF p i))]=some (.ok .none,[.obj 836 (eU (gk p i e o))])):
  ae (aU (n+6)) bg O1 ⟨[some I,some (.bytes b),some (.int 0),none,none,none,none],[]⟩=some (.ok .next,HB I b p i (some (.lst ((cond (Nat.beq e 0) (To o) []).map aq))) (gk p i e o)):=by
 have h1:=hH (n+2) hb [];rw[h] at h1;have h2:=j5 (n+4) p i [];have h3:=ht (n+5);have h4:=tL (n:=n+4) (σ:=[.obj 836 (eU (gk p i e o))]) (k:=0) hI (f:=gk p i e o) rfl;have h5:=hI.at_ (n+5) 0 e o [.obj 836 (eU (gk p i e o))];obtain⟨l,rfl⟩:=hI.ob;exact aY [.r (ze (some (p,i))) [],.k (.ref 0) [.obj 836 (eU (AF p i))],.k .none [.obj 836 (eU (gk p i e o))],.k .none [.obj 836 (eU (gk p i e o))],.k (.lst ((cond (Nat.beq 0 0&&Nat.beq e 0) (To o) []).map aq)) [.obj 836 (eU (gk p i e o))]] #[h5,h4,h3,h2,h1] ⋯
noncomputable def Pq:List IS:=fo.drop 6
noncomputable def NO:List IS:=[fo.getD 5 .pass]
theorem tS{v5:Option AV}{τ:aX}(l:List FS)(hl:l.length<=1000):aw (aU (n+6)) bg (.comp (.TG (.var 0) 52 []) [] .seq 0 (.var 6) []) ⟨[some I,some (.bytes b),some (.int 0),some (cK p),some (.int i),v5,some (.lst (l.map aq))],τ⟩=
  some (.ok (.lst (l.map λx=> .bool (fg x))),⟨[some I,some (.bytes b),some (.int 0),some (cK p),some (.int i),v5,some (.lst (l.map aq))],τ⟩):=
 lQ (x:= .lst (l.map aq)) (g:=aq) rfl rfl hl λx hx=>⟨[some (aq x)],(CA (aU (n+6)) bg (.TG (.var 0) 52 []) ⟨[some (aq x)],τ,[.k (.bool (fg x)) τ],[]⟩ (_,⟨[some (aq x)],τ,[],_⟩) ⋯ #[tr (n+5) x τ]).2⟩
theorem yo(hf:CD f)(l:List FS)(h:l≠ []->Nat.beq f.op 144=false)(σ:aX)(hI:flat I=true): ∃r s',ae (aU (n+6)) bg Pq (HB I b p i (some (.lst (l.map aq))) f)=some (r,s')/\je false r [] s'.S9=some (lY (fA l f),[]):=by
 have hp:=wZ (n:=n+3) hf l h;unfold fA;cases hx:l.find? (pk f) with
 |none=>
  rw[hx] at hp;exact⟨.exc 83,⟨_,[.Tg (cY f)]⟩,aY (s':=⟨[some I,some (.bytes b),some (.int 0),some (cK p),some (.int i),some (.ref 0),some (.lst (l.map aq))],[.Tg (cY f)]⟩) [.r (.exc 83) [.Tg (cY f)]] #[hp] ⋯,rfl⟩
 |some x=>
  rw[hx] at hp;have hfl:=aP x;refine⟨.ok (.ret (.tup [.ref 0,aq x])),⟨_,[.Tg (cY f)]⟩,aY (s':=⟨[some I,some (.bytes b),some (.int 0),some (cK p),some (.int i),some (.ref 0),some (.lst (l.map aq))],[.Tg (cY f)]⟩) [.k (aq x) [.Tg (cY f)]] #[hp] ⋯,?_⟩;show td (.tup [.ref 0,aq x]) 0 [.Tg (cY f)]=_;have e:rs 8 [.Tg (cY f)] (.tup [.ref 0,aq x])= .tup [cY f,aq x]:=ac (λy=>AV.tup [cY f,y]) (gq 7 (σ:=[.Tg (cY f)]) hfl);show cond (flat (rs 8 [.Tg (cY f)] (.tup [.ref 0,aq x]))&&true) (some (Res.ok (rs 8 [.Tg (cY f)] (.tup [.ref 0,aq x])),([]:aX))) none=_;rw[e,show flat (.tup [cY f,aq x])=true from(ac (λz=>flat (cY f)&&(z&&true)) hfl:(flat (cY f)&&(flat (aq x)&&true))=(flat (cY f)&&(true&&true)))];rfl
end
theorem yk{vs}{res:Res AV}(h:ae (aU n) gl body s0=some (r,s'))(hf:dY.find? (·.1==f)=some (f,false,false,np,nl,d,gl,body))
  (hs:((decide (np-d.length<=vs.length)&&decide (vs.length<=np)),St.mk ((c0 np d vs).map some++List.replicate (nl-(c0 np d vs).length) none) [])=(true,s0)) (e:je false r [] s'.S9=some (res,[])) (σ:aX) (hv:aM vs=true) (hr:pG res=true):call (n+1) f vs σ=some (res,σ):=
 Of ((ac (ae (aU n) gl body) (Prod.mk.inj hs).2).trans h) hf (Prod.mk.inj hs).1 e σ hv hr
section
variable {n:Nat} {b:List UInt8} {I:AV} {To:Nat->List FS} {p:PS} {i:Nat}
theorem He(l:List FS)(hl:l.length<=1000)(h:l.any fg=false)(hI: ∃y,I= .obj 1130 y):ae (aU (n+6)) bg NO (HB I b p i (some (.lst (l.map aq))) f)=some (.ok .next,HB I b p i (some (.lst (l.map aq))) f):=
 aY [.k (.lst (l.map λx=> .bool (fg x))) [.obj 836 (eU f)],.v (.bool (l.any fg)),.b false] #[ac some h,any_map (g:=fg) hl,tS (n:=n) (I:=I) (b:=b) (p:=p) (i:=i) (v5:=some (.ref 0)) (τ:=[.obj 836 (eU f)]) l hl] ⋯
theorem Iu(l:List FS)(hb:b.length<=900)(hl:l.length<=1000)(h:l.any fg=true)(hm:cA b (i+e+1)=some m):ae (aU (n+6)) bg NO (HB I b p i (some (.lst (l.map aq))) (gk p i e o))=some (.ok .next,HB I b p i (some (.lst (l.map aq))) {gk p i e o with m:=some m}):=
 aY [.k (.lst (l.map λx=> .bool (fg x))) [.obj 836 (eU (gk p i e o))],.v (.bool (l.any fg)),.b true,.k .none [.obj 836 (eU {gk p i e o with m:=some m})]] #[(ri (n:=n) (σ:=[.obj 836 (eU (gk p i e o))]) (k:=0) (show b.length<=1000 by omega) hm rfl),ac some h,any_map (g:=fg) hl,tS (n:=n) (I:=I) (b:=b) (p:=p) (i:=i) (v5:=some (.ref 0)) (τ:=[.obj 836 (eU (gk p i e o))]) l hl] ⋯
theorem IX(l:List FS)(hb:b.length<=900)(hl:l.length<=1000)(h:l.any fg=true)(hm:cA b (i+e+1)=none):ae (aU (n+6)) bg NO (HB I b p i (some (.lst (l.map aq))) (gk p i e o))=some (.exc 83,⟨(HB I b p i (some (.lst (l.map aq))) (gk p i e o)).loc,[.dead]⟩):=
 aY [.k (.lst (l.map λx=> .bool (fg x))) [.obj 836 (eU (gk p i e o))],.v (.bool (l.any fg)),.b true,.r (.exc 83) [.dead]] #[(oy (n:=n) (σ:=[.obj 836 (eU (gk p i e o))]) (k:=0) (show b.length<=1000 by omega) hm rfl),ac some h,any_map (g:=fg) hl,tS (n:=n) (I:=I) (b:=b) (p:=p) (i:=i) (v5:=some (.ref 0)) (τ:=[.obj 836 (eU (gk p i e o))]) l hl] ⋯
theorem Kw(h:cA b j=some m):m.o<256:=by
 unfold cA at h;cases hc:b[j]? with
 |none=>rw[hc] at h;exact aB h
 |some c=>
  rw[hc] at h;have fin: ∀{Ti k},dw b c.toNat Ti k=some m->m.o<256:=fun{Ti k} h=>by
   unfold dw at h;cases q:Nat.blt b.length (k+fS (c.toNat/64) (c.toNat % 8) Ti) with
   |true=>rw[q] at h;exact aB h
   |false=>rw[q] at h;cases h;exact bV c
  change cond (bD c.toNat) _ _=_ at h;cases q:bD c.toNat with
  |false=>rw[q] at h;exact fin h
  |true=>
   rw[q] at h;change (b[j+1]?).elim none _=_ at h;cases hs:b[j+1]? with
   |none=>rw[hs] at h;exact aB h
   |some s=>rw[hs] at h;exact fin h
theorem t9{x}(hI:Hq I To)(hd:ae (aU (n+6)) bg O1 ⟨[some I,some (.bytes b),some (.int 0),none,none,none,none],[]⟩=some (.ok .next,s'))
  (ht: ∃r s'',ae (aU (n+6)) bg (NO++Pq) s'=some (r,s'')/\je false r [] s''.S9=some (lY x,[])) (σ:aX):call (n+7) 939 [I,.bytes b,.int 0] σ=some (lY x,σ):=by
 obtain⟨r,s'',h1,h2⟩:=ht;have hv:aM [I,.bytes b,.int 0]=true:=ca ⟨hI.fl,rfl⟩;have hr:pG (lY x)=true:=by
  cases x with
  |none=>rfl
  |some y=>exact(ac (λz=>flat (cY y.1)&&(z&&true)) (aP y.2):(flat (cY y.1)&&(flat (aq y.2)&&true))=(flat (cY y.1)&&(true&&true)))
 exact yk (f:=939) (np:=3) (nl:=7) (d:=[]) (gl:=bg) (body:=O1++(NO++Pq)) ((aO hd).trans h1) ⋯ ⋯ h2 σ hv hr
theorem qZ(hb:b.length<=900)(hI:Hq I To)(ha:A0 To)(σ:aX):call (n+7) 939 [I,.bytes b,.int 0] σ=some (lY (iF To b),σ):=by
 have hv:aM [I,.bytes b,.int 0]=true:=ca ⟨hI.fl,rfl⟩;have hb':b.length<=1000:=by omega
 have h1:=hH (n+2) hb [];unfold iF;cases hp:g8 b p0 0 with
 |none=>
  rw[hp] at h1;exact xA [.r (.exc 83) []] #[h1] ⋯ σ hv rfl
 |some q=>
  obtain⟨p,i⟩:=q;rw[hp] at h1;have h2:=j5 (n+4) p i [];show _=some (lY ((b[i]?).elim none λc=>cond (Nat.beq c.toNat 15) none (iK b (To c.toNat) p i c.toNat)),σ);cases hc:b[i]? with
  |none=>exact xA [.r (ze (some (p,i))) [],.k (.ref 0) [.obj 836 (eU (AF p i))],.r (.exc 83) [.dead]] #[rj (n:=n+5) (σ:=[.obj 836 (eU (AF p i))]) (k:=0) hb' hc rfl,h2,h1] ⋯ σ hv rfl
  |some c=>
   show _=some (lY (cond (Nat.beq c.toNat 15) none (iK b (To c.toNat) p i c.toNat)),σ);by_cases h15:c=15
   ·subst h15;cases hc':b[i+1]? with
    |none=>exact xA [.r (ze (some (p,i))) [],.k (.ref 0) [.obj 836 (eU (AF p i))],.r (.exc 83) [.dead]] #[p7 (n:=n+5) (σ:=[.obj 836 (eU (AF p i))]) (k:=0) hb' hc hc' rfl,h2,h1] ⋯ σ hv rfl
    |some c'=>
     have hd:=yV (n:=n) (e:=1) (o:=c'.toNat) hb hI hp (λm=>rA (σ:=[.obj 836 (eU (AF p i))]) (k:=0) hb' hc hc' rfl);exact t9 (x:=none) hI hd ⟨.exc 83,⟨_,[.Tg (cY (gk p i 1 c'.toNat))]⟩,(aO (He (n:=n) [] (Nat.zero_le _) rfl hI.ob)).trans (aY (s':=⟨[some I,some (.bytes b),some (.int 0),some (cK p),some (.int i),some (.ref 0),some (.lst [])],[.Tg (cY (gk p i 1 c'.toNat))]⟩) [.r (.exc 83) [.Tg (cY (gk p i 1 c'.toNat))]] #[((fY (n:=n+5) (f:=866) (vs:=[.lst [],.ref 0]) (vs':=[.lst [],cY (gk p i 1 c'.toNat)]) (σ:=[.obj 836 (eU (gk p i 1 c'.toNat))]) (σ':=[.Tg (cY (gk p i 1 c'.toNat))]) ⋯ rfl rfl rfl).trans (xA (n:=n+5) (f:=866) (res:= .exc 83) (c:=[.a]) .nil ⋯ [.Tg (cY (gk p i 1 c'.toNat))] rfl rfl))] ⋯),rfl⟩ σ
   ·have hn:Nat.beq c.toNat 15=false:=by
     rw[At];exact decide_eq_false λe=>h15 (UInt8.toNat_inj.mp e)
    rw[hn];show _=some (lY (iK b (To c.toNat) p i c.toNat),σ);have hd:=yV (n:=n) (e:=0) (o:=c.toNat) hb hI hp (λm=>sC (σ:=[.obj 836 (eU (AF p i))]) (k:=0) hb' hc h15 rfl);have hl:=ha.len c.toNat
    unfold iK;cases hm:(To c.toNat).any fg with
    |false=>
     obtain⟨r,s',e1,e2⟩:=yo (n:=n) (b:=b) (p:=p) (i:=i) (f:=gk p i 0 c.toNat) ⟨λy h=>(aB h),rfl⟩ (To c.toNat) ha.ne [] hI.fl;exact t9 hI hd ⟨r,s',(aO (He _ hl hm hI.ob)).trans e1,e2⟩ σ
    |true=>
     show _=some (lY ((cA b (i+1)).elim none λm=>fA (To c.toNat) {gk p i 0 c.toNat with m:=some m}),σ);cases hr:cA b (i+1) with
     |none=>exact t9 (x:=none) hI hd ⟨.exc 83,_,sd (IX (e:=0) (To c.toNat) hb hl hm hr),rfl⟩ σ
     |some m=>
      obtain⟨r,s',e1,e2⟩:=yo (n:=n) (b:=b) (p:=p) (i:=i) (f:={gk p i 0 c.toNat with m:=some m}) ⟨λy h=>by cases h;exact Kw hr,rfl⟩ (To c.toNat) ha.ne [] hI.fl;exact t9 hI hd ⟨r,s',(aO (Iu (e:=0) (To c.toNat) hb hl hm hr)).trans e1,e2⟩ σ
end
noncomputable def I9(base index:AV)(scale Tj size:Int)(seg:Str):AV:= .obj 446 [.str "mem",base,index,.int scale,.int Tj,.int size,.str seg,.str ""]
noncomputable def r64(i:Nat):AV:=pM i .Tv true
noncomputable def qM(mod:Nat)(s:Nat)(x b:Bool)(Tj size:Int)(seg:Str):AV:=
 I9 (cond (Nat.beq mod 0&&Nat.beq (s % 8) 5) .none (r64 (s % 8+8*bi b))) (cond (Nat.beq (s/8 % 8) 4&& !x) .none (r64 (s/8 % 8+8*bi x))) (cond (Nat.beq (s/8 % 8) 4&& !x) 1 (2 ^ (s/64):Nat)) Tj size seg
noncomputable def wk(mod rm:Nat)(b:Bool)(Tj size:Int)(seg:Str):AV:=I9 (cond (Nat.beq mod 0&&Nat.beq rm 5) F3 (r64 (rm+8*bi b))) .none 1 Tj size seg
noncomputable def nR(mod rm:Nat)(Ti:Option Nat)(x b:Bool)(Tj size:Int)(seg:Str):AV:=cond (Nat.beq rm 4) (qM mod (Ti.getD 0) x b Tj size seg) (wk mod rm b Tj size seg)
theorem aQ(b):small (bi b)=true:=by cases b<;>rfl
theorem gM(h:i<8)(b):i+8*bi b<16:=by cases b<;>(show i+8*_<16;simp only[bi,cond];omega)
theorem uh(n:Nat){mod rm:Nat}{Ti}(hm:mod<3)(hr:rm<8)(hs:rm=4-> ∃s,Ti=some s/\s<256)(x b)(Tj size:Int)(seg)(σ):
  call (n+4) 650 [.int mod,.int rm,.int (f9 Ti),.int Tj,.int (bi x),.int (bi b),.int size,.str seg] σ=some (.ok (nR mod rm Ti x b Tj size seg),σ):=by
 unfold nR;cases h4:Nat.beq rm 4 with
 |true=>
  have e4:=eS h4;subst e4;obtain⟨s,rfl,hs'⟩:=hs rfl;show _=some (Res.ok (qM mod s x b Tj size seg),σ);have hu:=rF (n+1) hs' [];have gb:=xe n (gM (Nat.mod_lt s (by decide:8>0)) b) [];have gi:=xe n (gM (Nat.mod_lt (s/8) (by decide:8>0)) x) [];have hg:(small 1&&decide (0<=((s/64:Nat):Int))&&decide (((s/64:Nat):Int)<=1000))=true:=fw (a:=1) (k:=s/64) ∅ (by omega);have e2:((2 ^ (s/64):Nat):Int)=1*2 ^ (s/64):=by rw[Int.one_mul,Int.natCast_pow];rfl
  unfold qM;rw[e2];generalize h1:Nat.beq mod 0=m0;generalize h2:Nat.beq (s % 8) 5=b5;generalize h3:Nat.beq (s/8 % 8) 4=i4;cases m0<;>cases b5<;>cases i4<;>cases x
  ·exact xA [.a,.k (.tup [.int (s/64:Nat),.int (s/8 % 8:Nat),.int (s % 8:Nat)]) [],.b false,.k (r64 (s % 8+8*bi b)) [],.b false,.k (r64 (s/8 % 8+8*bi false)) [],.a] #[hg,gi,aQ false,bE h3,gb,aQ b,bE h1,hu] ⋯ σ rfl rfl
  ·exact xA [.a,.k (.tup [.int (s/64:Nat),.int (s/8 % 8:Nat),.int (s % 8:Nat)]) [],.b false,.k (r64 (s % 8+8*bi b)) [],.b false,.k (r64 (s/8 % 8+8*bi true)) [],.a] #[hg,gi,aQ true,bE h3,gb,aQ b,bE h1,hu] ⋯ σ rfl rfl
  ·exact xA [.a,.k (.tup [.int (s/64:Nat),.int (s/8 % 8:Nat),.int (s % 8:Nat)]) [],.b false,.k (r64 (s % 8+8*bi b)) [],.b true,.a,.a] #[bE h3,gb,aQ b,bE h1,hu] ⋯ σ rfl rfl
  ·exact xA [.a,.k (.tup [.int (s/64:Nat),.int (s/8 % 8:Nat),.int (s % 8:Nat)]) [],.b false,.k (r64 (s % 8+8*bi b)) [],.b true,.a,.k (r64 (s/8 % 8+8*bi true)) [],.a] #[hg,gi,aQ true,bE h3,gb,aQ b,bE h1,hu] ⋯ σ rfl rfl
  ·exact xA [.a,.k (.tup [.int (s/64:Nat),.int (s/8 % 8:Nat),.int (s % 8:Nat)]) [],.b false,.k (r64 (s % 8+8*bi b)) [],.b false,.k (r64 (s/8 % 8+8*bi false)) [],.a] #[hg,gi,aQ false,bE h3,gb,aQ b,bE h1,hu] ⋯ σ rfl rfl
  ·exact xA [.a,.k (.tup [.int (s/64:Nat),.int (s/8 % 8:Nat),.int (s % 8:Nat)]) [],.b false,.k (r64 (s % 8+8*bi b)) [],.b false,.k (r64 (s/8 % 8+8*bi true)) [],.a] #[hg,gi,aQ true,bE h3,gb,aQ b,bE h1,hu] ⋯ σ rfl rfl
  ·exact xA [.a,.k (.tup [.int (s/64:Nat),.int (s/8 % 8:Nat),.int (s % 8:Nat)]) [],.b false,.k (r64 (s % 8+8*bi b)) [],.b true,.a,.a] #[bE h3,gb,aQ b,bE h1,hu] ⋯ σ rfl rfl
  ·exact xA [.a,.k (.tup [.int (s/64:Nat),.int (s/8 % 8:Nat),.int (s % 8:Nat)]) [],.b false,.k (r64 (s % 8+8*bi b)) [],.b true,.a,.k (r64 (s/8 % 8+8*bi true)) [],.a] #[hg,gi,aQ true,bE h3,gb,aQ b,bE h1,hu] ⋯ σ rfl rfl
  ·exact xA [.a,.k (.tup [.int (s/64:Nat),.int (s/8 % 8:Nat),.int (s % 8:Nat)]) [],.b true,.b false,.k (r64 (s % 8+8*bi b)) [],.b false,.k (r64 (s/8 % 8+8*bi false)) [],.a] #[hg,gi,aQ false,bE h3,gb,aQ b,bE h2,bE h1,hu] ⋯ σ rfl rfl
  ·exact xA [.a,.k (.tup [.int (s/64:Nat),.int (s/8 % 8:Nat),.int (s % 8:Nat)]) [],.b true,.b false,.k (r64 (s % 8+8*bi b)) [],.b false,.k (r64 (s/8 % 8+8*bi true)) [],.a] #[hg,gi,aQ true,bE h3,gb,aQ b,bE h2,bE h1,hu] ⋯ σ rfl rfl
  ·exact xA [.a,.k (.tup [.int (s/64:Nat),.int (s/8 % 8:Nat),.int (s % 8:Nat)]) [],.b true,.b false,.k (r64 (s % 8+8*bi b)) [],.b true,.a,.a] #[bE h3,gb,aQ b,bE h2,bE h1,hu] ⋯ σ rfl rfl
  ·exact xA [.a,.k (.tup [.int (s/64:Nat),.int (s/8 % 8:Nat),.int (s % 8:Nat)]) [],.b true,.b false,.k (r64 (s % 8+8*bi b)) [],.b true,.a,.k (r64 (s/8 % 8+8*bi true)) [],.a] #[hg,gi,aQ true,bE h3,gb,aQ b,bE h2,bE h1,hu] ⋯ σ rfl rfl
  ·exact xA [.a,.k (.tup [.int (s/64:Nat),.int (s/8 % 8:Nat),.int (s % 8:Nat)]) [],.b true,.b true,.b false,.k (r64 (s/8 % 8+8*bi false)) [],.a] #[hg,gi,aQ false,bE h3,bE h2,bE h1,hu] ⋯ σ rfl rfl
  ·exact xA [.a,.k (.tup [.int (s/64:Nat),.int (s/8 % 8:Nat),.int (s % 8:Nat)]) [],.b true,.b true,.b false,.k (r64 (s/8 % 8+8*bi true)) [],.a] #[hg,gi,aQ true,bE h3,bE h2,bE h1,hu] ⋯ σ rfl rfl
  ·exact xA [.a,.k (.tup [.int (s/64:Nat),.int (s/8 % 8:Nat),.int (s % 8:Nat)]) [],.b true,.b true,.b true,.a,.a] #[bE h3,bE h2,bE h1,hu] ⋯ σ rfl rfl
  ·exact xA [.a,.k (.tup [.int (s/64:Nat),.int (s/8 % 8:Nat),.int (s % 8:Nat)]) [],.b true,.b true,.b true,.a,.k (r64 (s/8 % 8+8*bi true)) [],.a] #[hg,gi,aQ true,bE h3,bE h2,bE h1,hu] ⋯ σ rfl rfl
 |false=>
  have gr:=xe n (gM hr b) [];show _=some (Res.ok (wk mod rm b Tj size seg),σ);unfold wk;cases h1:Nat.beq mod 0 with
  |false=>exact xA [.b true,.b false,.k (r64 (rm+8*bi b)) [],.a] #[gr,aQ b,bE h1,gx h4] ⋯ σ rfl rfl
  |true=>
   cases h2:Nat.beq rm 5 with
   |false=>exact xA [.b true,.b true,.b false,.k (r64 (rm+8*bi b)) [],.a] #[gr,aQ b,bE h2,bE h1,gx h4] ⋯ σ rfl rfl
   |true=>exact xA [.b true,.b true,.b true,.k F3 [],.a] #[Iv (n+1) [],bE h2,bE h1,gx h4] ⋯ σ rfl rfl
noncomputable def hY(i:Nat)(s:Sz)(r:Bool):AV:= .obj 318 [.str "reg",pM i s r]
noncomputable def zN(w:Int):AV:= .obj 352 [.str "imm",.int w,.str ""]
structure DI (m:MR):Prop where
 o:m.o<256
 s:bD m.o=true-> ∃s,m.Ti=some s/\s<256
noncomputable def oW(p:PS)(c esc op ma:Nat)(m:MR)(rest:Nat):kJ:=⟨p,c,esc,op,ma,some m,rest⟩
theorem kx(k):some (gh k==("x" :Str))=some false:=aA (f:=λk=>some (gh k==("x" :Str))) (g:=λ_=>some false) (l:=xr) ⋯ (Ae k)
theorem Ak(k):some (gh k==("one" :Str))=some false:=aA (f:=λk=>some (gh k==("one" :Str))) (g:=λ_=>some false) (l:=xr) ⋯ (Ae k)
section
variable {n:Nat} {b:List UInt8} {p:PS} {c esc op ma rest:Nat} {m:MR}
theorem jq(hm:DI m)(s)(σ):call (n+5) 880 [.str (gh (.r s)),cY (oW p c esc op ma m rest)] σ=some (.ok (hY (m.o/8 % 8+8*bi (bR p.Te)) s p.Te.isSome),σ):=
 xA [.b false,.k (.int (yq (.r s))) [],.k (.bool p.Te.isSome) [],.k (pM (m.o/8 % 8+8*bi (bR p.Te)) s p.Te.isSome) [],.a]
  #[(jF n (gM (Nat.mod_lt (m.o/8) (by decide:8>0)) (bR p.Te)) s p.Te.isSome []),g9 (n+3) (oW p c esc op ma m rest) [],lG (n+2) (.r s) [],kx (.r s),aQ (bR p.Te)] ⋯ σ rfl rfl
noncomputable def ci(p:PS)(m:MR)(s:Sz):AV:=cond (Nat.blt (m.o/64) 3) (nR (m.o/64) (m.o % 8) m.Ti (bX p.Te) (bB p.Te) m.Tj s.i p.seg.s) (hY (m.o % 8+8*bi (bB p.Te)) s p.Te.isSome)
theorem A9{a b}{x}(h:Nat.blt a b=x):some (decide ((a:Int)<(b:Int)))=some x:=by
 rw[bP] at h;subst h;congr 1;rw[decide_eq_decide];omega
theorem kY{mod rm}{Ti}{x b}{Tj size}{seg}:flat (nR mod rm Ti x b Tj size seg)=true:=by
 unfold nR;cases Nat.beq rm 4 with
 |true=>
  show flat (qM mod _ x b Tj size seg)=true;unfold qM;cases (Nat.beq mod 0&&Nat.beq (Ti.getD 0 % 8) 5)<;>cases (Nat.beq (Ti.getD 0/8 % 8) 4&& !x)<;>rfl
 |false=>
  show flat (wk mod rm b Tj size seg)=true;unfold wk;cases (Nat.beq mod 0&&Nat.beq rm 5)<;>rfl
theorem gS:flat (ci p m s)=true:=by
 unfold ci;cases Nat.blt (m.o/64) 3
 ·rfl
 ·exact kY
theorem cu(hm:DI m)(s)(σ):call (n+5) 887 [.str (gh (.rm s)),cY (oW p c esc op ma m rest)] σ=some (.ok (ci p m s),σ):=by
 have hr:m.o % 8<8:=Nat.mod_lt _ ∅;unfold ci;cases h:Nat.blt (m.o/64) 3 with
 |true=>
  have h3:m.o/64<3:=aT ((bP _ _).symm.trans h);have z:=uh n (mod:=m.o/64) (rm:=m.o % 8) (Ti:=m.Ti) h3 hr (λe=>hm.s (by
   unfold bD;rw[At,At,decide_eq_false (by omega),bU e];rfl)) (bX p.Te) (bB p.Te) m.Tj s.i p.seg.s []
  exact yk (f:=887) (s0:=⟨[some (.str (gh (.rm s))),some (cY (oW p c esc op ma m rest)),none,none,none],[]⟩) (r:= .ok (.ret (nR (m.o/64) (m.o % 8) m.Ti (bX p.Te) (bB p.Te) m.Tj s.i p.seg.s))) (np:=2) (nl:=5) (d:=[]) (gl:=gW) (body:=km) (s':=⟨[some (.str (gh (.rm s))),some (cY (oW p c esc op ma m rest)),some (.int s.i),some (.str p.seg.s),none],[]⟩)
   (aY [.b true,.k (.int (yq (.rm s))) [],.k (nR (m.o/64) (m.o % 8) m.Ti (bX p.Te) (bB p.Te) m.Tj s.i p.seg.s) []] #[z,lG (n+2) (.rm s) [],A9 h] ⋯) ⋯ ⋯ (dc kY []) σ rfl kY
 |false=>
  have z:=jF n (gM hr (bB p.Te)) s p.Te.isSome [];cases s with
  |b8=>exact xA [.b false,.a,.a,.k (.bool p.Te.isSome) [],.k (pM (m.o % 8+8*bi (bB p.Te)) .b8 p.Te.isSome) [],.a] #[z,g9 (n+3) (oW p c esc op ma m rest) [],aQ (bB p.Te),A9 h] ⋯ σ rfl rfl
  |T4=>exact xA [.b false,.a,.a,.k (.bool p.Te.isSome) [],.k (pM (m.o % 8+8*bi (bB p.Te)) .T4 p.Te.isSome) [],.a] #[z,g9 (n+3) (oW p c esc op ma m rest) [],aQ (bB p.Te),A9 h] ⋯ σ rfl rfl
  |T6=>exact xA [.b false,.a,.a,.k (.bool p.Te.isSome) [],.k (pM (m.o % 8+8*bi (bB p.Te)) .T6 p.Te.isSome) [],.a] #[z,g9 (n+3) (oW p c esc op ma m rest) [],aQ (bB p.Te),A9 h] ⋯ σ rfl rfl
  |Tv=>exact xA [.b false,.a,.a,.k (.bool p.Te.isSome) [],.k (pM (m.o % 8+8*bi (bB p.Te)) .Tv p.Te.isSome) [],.a] #[z,g9 (n+3) (oW p c esc op ma m rest) [],aQ (bB p.Te),A9 h] ⋯ σ rfl rfl
theorem vk(s)(σ):call (n+4) 901 [.str (gh (.acc s))] σ=some (.ok (hY 0 s true),σ):=
 lh (aA (f:=λs=>rc (n+3) 901 [.str (gh (.acc s))]) (g:=λs=>jh (hY 0 s true)) (l:=fE) ⋯ (tq s)) σ rfl rfl
theorem vB(hb:b.length<=1000)(j w:Nat)(σ):call (n+1) 908 [.bytes b,.int j,.int w] σ=some (cond (Nat.blt b.length (j+w)&&Nat.blt 0 w) (.exc 83) (.ok (.bytes ((b.drop j).take w))),σ):=by
 have e:=gY b j w;have hl:=oY b j w;rw[<-e] at hl ⊢;have q0:(cf b (some (j:Int)) (some ((j:Int)+(w:Int)))).length<=1000:=by rw[hl];omega
 have o1:b.length<=100000:=by omega
 cases h:(Nat.blt b.length (j+w)&&Nat.blt 0 w) with
 |true=>
  obtain⟨h1,h2⟩:=bG h;rw[bP] at h1 h2;have h1:=aT h1;have h2:=aT h2;exact xA [.a,.v (.int (cf b (some (j:Int)) (some ((j:Int)+(w:Int)))).length),.b true] #[(qT (p:=((cf b (some (j:Int)) (some ((j:Int)+(w:Int)))).length:Int)<w) (by rw[hl];omega)),eY q0,o1] ⋯ σ rfl rfl
 |false=>
  have h1: ¬(b.length<j+w/\0<w):=λz=>by
   rw[bP,bP,bU z.1,bU z.2] at h;cases h
  exact xA [.a,.v (.int (cf b (some (j:Int)) (some ((j:Int)+(w:Int)))).length),.b false] #[(qF (p:=((cf b (some (j:Int)) (some ((j:Int)+(w:Int)))).length:Int)<w) (by rw[hl];omega)),eY q0,o1] ⋯ σ rfl rfl
noncomputable def uc(k:K)(f:List UInt8):Int:=match k with
 | .s8=>sgn f
 | .Tn .Tv=>sgn f
 |_=>lit f
theorem kX(hk:EQ k=true)(hx:x.length<=100)(σ):call (n+5) 915 [.str (gh k),.str "imm",.bytes x] σ=some (.ok (zN (uc k x)),σ):=by
 have h1:=eW n hx [];have h2:=jA (n+3) hx [];cases k with
 |rm s=>cases hk
 |r s=>cases hk
 |acc s=>cases hk
 |s8=>exact xA [.a,.a,.k (.int (sgn x)) [],.a] #[h1] ⋯ σ rfl rfl
 |Tn s=>cases s with
  |Tv=>exact xA [.a,.a,.a,.k (.int (sgn x)) [],.a] #[h1] ⋯ σ rfl rfl
  |_=>exact xA [.a,.a,.a,.k (.int (lit x)) [],.a] #[h2] ⋯ σ rfl rfl
end
theorem r7(ht:aM L=true)(hv:flat v=true):td (.tup [.ref 0,v]) 0 [.lst L]=some (.ok (.tup [.lst L,v]),[]):=by
 have e:rs 8 [.Tg (.lst L)] (.tup [.ref 0,v])= .tup [.lst L,v]:=by
  show AV.tup [rs 6 _ (.lst L),rs 7 _ v]=_;rw[gq 6 (v:= .lst L) ht,gq 7 hv]
 show cond (flat (rs 8 [.Tg (.lst L)] (.tup [.ref 0,v]))&&true) (some (Res.ok (rs 8 [.Tg (.lst L)] (.tup [.ref 0,v])),([]:aX))) none=_;rw[e,show flat (.tup [.lst L,v])=true from ca ⟨ht,ca ⟨hv,rfl⟩⟩];rfl
noncomputable def Hk(p:PS)(m:MR)(s:Sz):AV:=hY (m.o/8 % 8+8*bi (bR p.Te)) s p.Te.isSome
noncomputable def fld{α:Type}(b:List UInt8)(e w:Nat)(k:List UInt8->Option α):Option α:=cond (Nat.blt b.length (e+w)&&Nat.blt 0 w) none (k ((b.drop e).take w))
noncomputable def Kg(f:kJ):Nat:=f.m.elim f.rest MR.rest
noncomputable def pT(b:List UInt8)(e:Nat)(k:K)(g:AV->aV):Option (aV×Nat):=fld b e (eH k) λx=>some (g (zN (uc k x)),e+eH k)
noncomputable def Nm(t:Sh)(s:Sz)(p:PS)(m:MR)(e:Nat)(b:List UInt8):Option (aV×Nat):=match t with
 | .mr=>some ([ci p m s,Hk p m s],e)
 | .rm=>some ([Hk p m s,ci p m s],e)
 | .m=>some ([ci p m s],e)
 | .mi=>pT b e (.Tn s) λi=>[ci p m s,i]
 | .ms=>pT b e .s8 λi=>[ci p m s,i]
 | .ai=>pT b e (.Tn s) λi=>[hY 0 s true,i]
noncomputable def m0:MR:=⟨0,none,0,0,0⟩
noncomputable def JT(x:FS)(f:kJ)(b:List UInt8):Option (aV×Nat):=Nm x.sh x.size f.p (f.m.getD m0) (Kg f) b
noncomputable def jv(x:Option (aV×Nat)):Res AV:=match x with
 |none=> .exc 83
 |some (L,e)=> .ok (.tup [.lst L,.int e])
section
variable {n:Nat} {b:List UInt8} {p:PS} {c esc op ma rest nm o num e:Nat} {m:MR} {s:Sz} {d:Option Nat} {t:Sh}
noncomputable abbrev Sj(t:Sh)(x:FS)(f:kJ)(b:List UInt8):List (Option AV):=[some (aq x),some (cY f),some (.bytes b),none,none,none,none,none]
theorem pB{x}{f}{L}{l}{e:Nat}(h:ae (aU (n+5)) cr cZ ⟨Sj x.sh x f b,[]⟩=some (.ok (.ret (.tup [.ref 0,.int e])),⟨l,[.lst L]⟩))(hL:aM L=true)(σ):
  call (n+6) 922 [aq x,cY f,.bytes b] σ=some (jv (some (L,e)),σ):=
 yk (f:=922) (np:=3) (nl:=8) (d:=[]) (gl:=cr) (body:=cZ) h ⋯ ⋯ (r7 hL rfl) σ
  (ca ⟨aP x,rfl⟩) (ca ⟨hL,rfl⟩)
theorem Gz(h:EQ k=true):Nat.blt 0 (eH k)=true:=by
 cases k with
 |Tn s=>cases s<;>rfl
 |s8=>rfl
 |_=>cases h
theorem fc(h:flat a=true):aM [a]=true:=(ac (λz=>z&&true) h:(flat a&&true)=(true&&true))
theorem dj{a b}(h:flat a=true)(h2:flat b=true):aM [a,b]=true:=ca ⟨h,fc h2⟩
theorem DZ(b:List UInt8)(e:Nat)(k:K):((b.drop e).take (eH k)).length<=100:=by
 have:eH k<=4:=aT (aA (f:=λk=>decide (eH k<=4)) (g:=λ_=>true) (l:=xr) ⋯ (Ae k));rw[List.length_take];omega
theorem w0(hk:EQ k=true)(hb:b.length<=1000):
  (Nat.blt b.length (e+eH k)&&Nat.blt 0 (eH k))=true/\(∀σ,call (n+5) 908 [.bytes b,.int e,.int (eH k)] σ=some (.exc 83,σ))\/
  ∃x,x.length<=100/\x=((b.drop e).take (eH k))/\(Nat.blt b.length (e+eH k)&&Nat.blt 0 (eH k))=false/\ ∀σ,call (n+5) 908 [.bytes b,.int e,.int (eH k)] σ=some (.ok (.bytes x),σ):=by
 have h:=λσ=>vB (n:=n+4) hb e (eH k) σ;cases q:(Nat.blt b.length (e+eH k)&&Nat.blt 0 (eH k)) with
 |true=>rw[q] at h;exact .inl ⟨rfl,h⟩
 |false=>rw[q] at h;exact .inr ⟨_,DZ b e k,rfl,rfl,h⟩
theorem MX(hm:DI m)(σ:aX):call (n+6) 922 [aq ⟨nm,.mr,o,d,s,num⟩,cY (oW p c esc op ma m rest),.bytes b] σ=some (jv (some ([ci p m s,Hk p m s],m.rest)),σ):=by
 refine pB (x:=⟨nm,.mr,o,d,s,num⟩) (f:=oW p c esc op ma m rest) (l:=[some (aq ⟨nm,.mr,o,d,s,num⟩),some (cY (oW p c esc op ma m rest)),some (.bytes b),some (.ref 0),some (.int m.rest),some (.str (gh (.r s))),some (.str (qJ (.r s))),none]) (e:=m.rest) (aY [.a,.a,.a,.a,.k (ci p m s) [.lst []],.a,.a,.k (Hk p m s) [.lst [ci p m s]],.a] #[@jq n p c esc op ma rest m hm s [.lst [ci p m s]],@cu n p c esc op ma rest m hm s [.lst []]] ⋯) (dj gS rfl) σ
theorem LY(hm:DI m)(σ:aX):call (n+6) 922 [aq ⟨nm,.rm,o,d,s,num⟩,cY (oW p c esc op ma m rest),.bytes b] σ=some (jv (some ([Hk p m s,ci p m s],m.rest)),σ):=by
 refine pB (x:=⟨nm,.rm,o,d,s,num⟩) (f:=oW p c esc op ma m rest) (l:=[some (aq ⟨nm,.rm,o,d,s,num⟩),some (cY (oW p c esc op ma m rest)),some (.bytes b),some (.ref 0),some (.int m.rest),some (.str (gh (.rm s))),some (.str (qJ (.rm s))),none]) (e:=m.rest) (aY [.a,.a,.a,.k (Hk p m s) [.lst []],.a,.a,.a,.k (ci p m s) [.lst [Hk p m s]],.a] #[@cu n p c esc op ma rest m hm s [.lst [Hk p m s]],@jq n p c esc op ma rest m hm s [.lst []]] ⋯) (dj rfl gS) σ
theorem QH(hm:DI m)(σ):call (n+6) 922 [aq ⟨nm,.m,o,d,s,num⟩,cY (oW p c esc op ma m rest),.bytes b] σ=some (jv (some ([ci p m s],m.rest)),σ):=by
 refine pB (x:=⟨nm,.m,o,d,s,num⟩) (f:=oW p c esc op ma m rest) (l:=[some (aq ⟨nm,.m,o,d,s,num⟩),some (cY (oW p c esc op ma m rest)),some (.bytes b),some (.ref 0),some (.int m.rest),some (.str (gh (.rm s))),some (.str (qJ (.rm s))),none]) (e:=m.rest) (aY [.a,.a,.a,.a,.k (ci p m s) [.lst []],.a] #[@cu n p c esc op ma rest m hm s [.lst []]] ⋯) (fc gS) σ
theorem Mj(hm:DI m)(hb:b.length<=1000)(σ:aX):call (n+6) 922 [aq ⟨nm,.mi,o,d,s,num⟩,cY (oW p c esc op ma m rest),.bytes b] σ=some (jv (pT b m.rest (.Tn s) λi=>[ci p m s,i]),σ):=by
 unfold pT fld;rcases w0 (n:=n) (e:=m.rest) (k:= .Tn s) rfl hb with⟨q,h⟩|⟨x,hx,rfl,q,h⟩
 ·rw[q];exact xA [.a,.a,.a,.a,.k (ci p m s) [.lst []],.a,.a,.a,.a,.a,.b false,.k (.int (eH (.Tn s))) [.lst [ci p m s]],.r (.exc 83) [.lst [ci p m s]]]
   #[h [.lst [ci p m s]],cT (n+3) (.Tn s) [.lst [ci p m s]],Ak (.Tn s),@cu n p c esc op ma rest m hm s [.lst []]] ⋯ σ (ca ⟨aP _,rfl⟩) rfl
 ·rw[q];exact pB (x:=⟨nm,.mi,o,d,s,num⟩) (f:=oW p c esc op ma m rest) (l:=[some (aq ⟨nm,.mi,o,d,s,num⟩),some (cY (oW p c esc op ma m rest)),some (.bytes b),some (.ref 0),some (.int (m.rest+eH (.Tn s):Nat)),some (.str (gh (.Tn s))),some (.str (qJ (.Tn s))),some (.int (eH (.Tn s)))]) (e:=m.rest+eH (.Tn s)) (aY [.a,.a,.a,.a,.k (ci p m s) [.lst []],.a,.a,.a,.a,.a,.b false,.k (.int (eH (.Tn s))) [.lst [ci p m s]],.k (.bytes ((b.drop m.rest).take (eH (.Tn s)))) [.lst [ci p m s]],.k (zN (uc (.Tn s) ((b.drop m.rest).take (eH (.Tn s))))) [.lst [ci p m s]],.a] #[kX (n:=n) (k:= .Tn s) rfl hx [.lst [ci p m s]],h [.lst [ci p m s]],cT (n+3) (.Tn s) [.lst [ci p m s]],Ak (.Tn s),@cu n p c esc op ma rest m hm s [.lst []]] ⋯) (dj gS rfl) σ
theorem MW(hm:DI m)(hb:b.length<=1000)(σ:aX):call (n+6) 922 [aq ⟨nm,.ms,o,d,s,num⟩,cY (oW p c esc op ma m rest),.bytes b] σ=some (jv (pT b m.rest .s8 λi=>[ci p m s,i]),σ):=by
 unfold pT fld;rcases w0 (n:=n) (e:=m.rest) (k:= .s8) rfl hb with⟨q,h⟩|⟨x,hx,rfl,q,h⟩
 ·rw[q];exact xA [.a,.a,.a,.a,.k (ci p m s) [.lst []],.a,.a,.a,.a,.a,.b false,.k (.int (eH .s8)) [.lst [ci p m s]],.r (.exc 83) [.lst [ci p m s]]]
   #[h [.lst [ci p m s]],cT (n+3) .s8 [.lst [ci p m s]],Ak .s8,@cu n p c esc op ma rest m hm s [.lst []]] ⋯ σ (ca ⟨aP _,rfl⟩) rfl
 ·rw[q];exact pB (x:=⟨nm,.ms,o,d,s,num⟩) (f:=oW p c esc op ma m rest) (l:=[some (aq ⟨nm,.ms,o,d,s,num⟩),some (cY (oW p c esc op ma m rest)),some (.bytes b),some (.ref 0),some (.int (m.rest+eH .s8:Nat)),some (.str (gh .s8)),some (.str (qJ .s8)),some (.int (eH .s8))]) (e:=m.rest+eH .s8) (aY [.a,.a,.a,.a,.k (ci p m s) [.lst []],.a,.a,.a,.a,.a,.b false,.k (.int (eH .s8)) [.lst [ci p m s]],.k (.bytes ((b.drop m.rest).take (eH .s8))) [.lst [ci p m s]],.k (zN (uc .s8 ((b.drop m.rest).take (eH .s8)))) [.lst [ci p m s]],.a] #[kX (n:=n) (k:= .s8) rfl hx [.lst [ci p m s]],h [.lst [ci p m s]],cT (n+3) .s8 [.lst [ci p m s]],Ak .s8,@cu n p c esc op ma rest m hm s [.lst []]] ⋯) (dj gS rfl) σ
noncomputable def Pr(p:PS)(c esc op ma:Nat)(i1 i2 i3 i4 i5 i6:Int)(e:Nat):AV:= .obj 836 [.int 0,cK p,.int c,.int (bi (bW p.Te)),.int (bi (bR p.Te)),.int (bi (bX p.Te)),.int (bi (bB p.Te)),.int esc,.int op,.int 0,.int ma,.int i1,.int i2,.int i3,.int i4,.int i5,.int i6,.int e]
theorem JN(y): ∃i1 i2 i3 i4 i5 i6,cY ⟨p,c,esc,op,ma,y,rest⟩=Pr p c esc op ma i1 i2 i3 i4 i5 i6 (Kg ⟨p,c,esc,op,ma,y,rest⟩):=by
 cases y<;>exact⟨_,_,_,_,_,_,rfl⟩
theorem FN(h:ae (aU (n+5)) cr cZ ⟨[some (aq x),some v,some (.bytes b),none,none,none,none,none],[]⟩=some (.ok (.ret (.tup [.ref 0,.int e])),⟨l,[.lst L]⟩))(hL:aM L=true)(hv:aM [aq x,v,.bytes b]=true)(σ):
  call (n+6) 922 [aq x,v,.bytes b] σ=some (jv (some (L,e)),σ):=
 yk (f:=922) (np:=3) (nl:=8) (d:=[]) (gl:=cr) (body:=cZ) h ⋯ ⋯ (r7 hL rfl) σ hv (ca ⟨hL,rfl⟩)
theorem MJ{i1 i2 i3 i4 i5 i6}(hb:b.length<=1000)(σ):call (n+6) 922 [aq ⟨nm,.ai,o,d,s,num⟩,Pr p c esc op ma i1 i2 i3 i4 i5 i6 e,.bytes b] σ=some (jv (pT b e (.Tn s) λi=>[hY 0 s true,i]),σ):=by
 unfold pT fld;rcases w0 (n:=n) (e:=e) (k:= .Tn s) rfl hb with⟨q,h⟩|⟨x,hx,rfl,q,h⟩
 ·rw[q];exact xA [.a,.a,.a,.a,.a,.a,.k (hY 0 s true) [.lst []],.a,.a,.a,.a,.a,.b false,.k (.int (eH (.Tn s))) [.lst [hY 0 s true]],.r (.exc 83) [.lst [hY 0 s true]]]
   #[h [.lst [hY 0 s true]],cT (n+3) (.Tn s) [.lst [hY 0 s true]],Ak (.Tn s),vk (n:=n+1) s [.lst []]] ⋯ σ (ca ⟨aP _,rfl⟩) rfl
 ·rw[q];exact FN (x:=⟨nm,.ai,o,d,s,num⟩) (l:=[some (aq ⟨nm,.ai,o,d,s,num⟩),some (Pr p c esc op ma i1 i2 i3 i4 i5 i6 e),some (.bytes b),some (.ref 0),some (.int (e+eH (.Tn s):Nat)),some (.str (gh (.Tn s))),some (.str (qJ (.Tn s))),some (.int (eH (.Tn s)))]) (e:=e+eH (.Tn s)) (aY [.a,.a,.a,.a,.a,.a,.k (hY 0 s true) [.lst []],.a,.a,.a,.a,.a,.b false,.k (.int (eH (.Tn s))) [.lst [hY 0 s true]],.k (.bytes ((b.drop e).take (eH (.Tn s)))) [.lst [hY 0 s true]],.k (zN (uc (.Tn s) ((b.drop e).take (eH (.Tn s))))) [.lst [hY 0 s true]],.a] #[kX (n:=n) (k:= .Tn s) rfl hx [.lst [hY 0 s true]],h [.lst [hY 0 s true]],cT (n+3) (.Tn s) [.lst [hY 0 s true]],Ak (.Tn s),vk (n:=n+1) s [.lst []]] ⋯) (dj rfl rfl) (ca ⟨aP _,rfl⟩) σ
theorem qR(x)(f)(hm:x.sh≠ .ai-> ∃m,f.m=some m/\DI m)(hb:b.length<=1000)(σ):call (n+6) 922 [aq x,cY f,.bytes b] σ=some (jv (JT x f b),σ):=by
 obtain⟨nm,sh,o,d,s,num⟩:=x;obtain⟨p,c,esc,op,ma,y,rest⟩:=f;cases sh with
 |ai=>
  obtain⟨i1,i2,i3,i4,i5,i6,h⟩:=JN (p:=p) (c:=c) (esc:=esc) (op:=op) (ma:=ma) (rest:=rest) y;rw[h];exact MJ hb σ
 |mr=>
  obtain⟨m,e,hk⟩:=hm (λz=>by contradiction);cases (show y=some m from e);exact MX hk σ
 |rm=>
  obtain⟨m,e,hk⟩:=hm (λz=>by contradiction);cases (show y=some m from e);exact LY hk σ
 |m=>
  obtain⟨m,e,hk⟩:=hm (λz=>by contradiction);cases (show y=some m from e);exact QH hk σ
 |mi=>
  obtain⟨m,e,hk⟩:=hm (λz=>by contradiction);cases (show y=some m from e);exact Mj hk hb σ
 |ms=>
  obtain⟨m,e,hk⟩:=hm (λz=>by contradiction);cases (show y=some m from e);exact MW hk hb σ
end
inductive Rg where
 |no|Vv|r (i:Nat)
inductive Op where
 |reg (i:Nat) (s:Sz) (r:Bool)
 |Tn (w:Int)
 |mem (b i:Rg) (k:Nat) (d z:Int) (g:Str)
noncomputable def Rg.v:Rg->AV
 | .no=> .none
 | .Vv=>F3
 | .r i=>r64 i
noncomputable def Rg.s:Rg->Str
 | .no=> ""
 | .Vv=> "rip"
 | .r i=>bt i .Tv true
noncomputable def gH:Op->AV
 | .reg i s r=>hY i s r
 | .Tn w=>zN w
 | .mem b i k d z g=>I9 b.v i.v k d z g
noncomputable def dN:Op->AV
 | .reg i s r=> .tup [.str "reg",.str (bt i s r)]
 | .Tn w=> .tup [.str "imm",.int w,.str ""]
 | .mem b i k d z g=> .tup [.str "mem",.str b.s,.str i.s,.int k,.int d,.int z,.str g,.str ""]
noncomputable def jm:Op->Bool
 | .mem .. =>true
 |_=>false
theorem qh(o):flat (gH o)=true:=by
 cases o with
 |mem b i=>cases b<;>cases i<;>rfl
 |_=>rfl
theorem qz(o):flat (dN o)=true:=by cases o<;>rfl
noncomputable def KP(mod:Nat)(s:Nat)(x b:Bool)(Tj size:Int)(seg:Str):Op:=
 .mem (cond (Nat.beq mod 0&&Nat.beq (s % 8) 5) .no (.r (s % 8+8*bi b))) (cond (Nat.beq (s/8 % 8) 4&& !x) .no (.r (s/8 % 8+8*bi x))) (cond (Nat.beq (s/8 % 8) 4&& !x) 1 (2 ^ (s/64))) Tj size seg
noncomputable def Lw(mod rm:Nat)(b:Bool)(Tj size:Int)(seg:Str):Op:= .mem (cond (Nat.beq mod 0&&Nat.beq rm 5) .Vv (.r (rm+8*bi b))) .no 1 Tj size seg
noncomputable def wg(p:PS)(m:MR)(s:Sz):Op:=cond (Nat.blt (m.o/64) 3)
 (cond (Nat.beq (m.o % 8) 4) (KP (m.o/64) (m.Ti.getD 0) (bX p.Te) (bB p.Te) m.Tj s.i p.seg.s) (Lw (m.o/64) (m.o % 8) (bB p.Te) m.Tj s.i p.seg.s)) (.reg (m.o % 8+8*bi (bB p.Te)) s p.Te.isSome)
theorem LC(mod s)(x b)(Tj size)(seg):qM mod s x b Tj size seg=gH (KP mod s x b Tj size seg):=by
 unfold qM KP;cases (Nat.beq mod 0&&Nat.beq (s % 8) 5)<;>cases (Nat.beq (s/8 % 8) 4&& !x)<;>rfl
theorem NG(mod rm)(b)(Tj size)(seg):wk mod rm b Tj size seg=gH (Lw mod rm b Tj size seg):=by
 unfold wk Lw;cases (Nat.beq mod 0&&Nat.beq rm 5)<;>rfl
theorem NK(p)(m)(s):ci p m s=gH (wg p m s):=by
 unfold ci wg nR;rw[LC,NG];cases Nat.blt (m.o/64) 3
 ·rfl
 ·cases Nat.beq (m.o % 8) 4<;>rfl
noncomputable def rO(p:PS)(m:MR)(s:Sz):Op:= .reg (m.o/8 % 8+8*bi (bR p.Te)) s p.Te.isSome
noncomputable def wO(b:List UInt8)(e:Nat)(k:K)(g:Op):Option (List Op×Nat):=fld b e (eH k) λx=>some ([g,.Tn (uc k x)],e+eH k)
noncomputable def sZ(t:Sh)(s:Sz)(p:PS)(m:MR)(e:Nat)(b:List UInt8):Option (List Op×Nat):=match t with
 | .mr=>some ([wg p m s,rO p m s],e)
 | .rm=>some ([rO p m s,wg p m s],e)
 | .m=>some ([wg p m s],e)
 | .mi=>wO b e (.Tn s) (wg p m s)
 | .ms=>wO b e .s8 (wg p m s)
 | .ai=>wO b e (.Tn s) (.reg 0 s true)
noncomputable def uO(x:FS)(f:kJ)(b:List UInt8):Option (List Op×Nat):=sZ x.sh x.size f.p (f.m.getD m0) (Kg f) b
noncomputable def Q9(x:Option (List Op×Nat)):Res AV:=match x with
 |none=> .exc 83
 |some (L,e)=> .ok (.tup [.lst (L.map gH),.int e])
theorem LD(b)(e)(k)(g):jv (pT b e k λi=>[gH g,i])=Q9 (wO b e k g):=by
 unfold pT wO fld;cases (Nat.blt b.length (e+eH k)&&Nat.blt 0 (eH k))<;>rfl
theorem Kh(x)(f)(b):jv (JT x f b)=Q9 (uO x f b):=by
 unfold JT uO;cases x.sh with
 |ai=>exact LD b _ _ (.reg 0 _ true)
 |_=>unfold Nm sZ;rw[NK];first|rfl|exact LD b _ _ _
theorem E9(n)(o)(gl)(σ):aw (aU (n+2)) gl (.TG (.var 0) 45 []) ⟨[some (gH o)],σ⟩=some (.ok (dN o),⟨[some (gH o)],σ⟩):=by
 cases o with
 |reg i s r=>exact(CA (aU (n+2)) gl (.TG (.var 0) 45 []) ⟨[some (gH (.reg i s r))],σ,[.k (dN (.reg i s r)) σ],[]⟩ (_,⟨_,σ,[],_⟩) ⋯ #[(show call (n+2) 308 [gH (.reg i s r)] σ=some (.ok (dN (.reg i s r)),σ) from lh ⋯ σ rfl rfl)]).2
 |Tn w=>exact(CA (aU (n+2)) gl (.TG (.var 0) 45 []) ⟨[some (gH (.Tn w))],σ,[.k (dN (.Tn w)) σ],[]⟩ (_,⟨_,σ,[],_⟩) ⋯ #[(show call (n+2) 342 [gH (.Tn w)] σ=some (.ok (dN (.Tn w)),σ) from lh ⋯ σ rfl rfl)]).2
 |mem b i k d z g=>
  have h:call (n+2) 417 [gH (.mem b i k d z g)] σ=some (.ok (dN (.mem b i k d z g)),σ):=by
   cases b<;>cases i<;>exact lh ⋯ σ rfl rfl
  exact(CA (aU (n+2)) gl (.TG (.var 0) 45 []) ⟨[some (gH (.mem b i k d z g))],σ,[.k (dN (.mem b i k d z g)) σ],[]⟩ (_,⟨_,σ,[],_⟩) ⋯ #[h]).2
noncomputable def mE:List Nat:=[0,1,2,3,4,5,6,7,8,9,10,11,12]
theorem z7(h:j<13):j∈mE:=(List.mem_range (n:=13)).mpr h
theorem wF(n)(h:j<13)(σ):call (n+1) 245 [.str (cX j)] σ=some (.ok (.lst []),σ):=
 lh (aA (f:=λj=>rc n 245 [.str (cX j)]) (g:=λ_=>jh (.lst [])) (l:=mE) ⋯ (z7 h)) σ rfl rfl
noncomputable def Bb(j:Nat):Bool:=Nat.blt 0 j&&Nat.blt j 12
noncomputable def Hn:Sh->Bool
 | .rm| .ai=>false
 |_=>true
noncomputable def mD(x:FS):Bool:=Bb x.nm&&Hn x.sh
theorem uR(n)(x)(h:x.nm<13)(σ):call (n+2) 238 [aq x] σ=some (.ok (.bool (mD x)),σ):=by
 obtain⟨nm,sh,o,d,s,num⟩:=x;exact lh (aA (f:=λnm=>rc (n+1) 238 [aq ⟨nm,sh,o,d,s,num⟩]) (g:=λnm=>jh (.bool (mD ⟨nm,sh,o,d,s,num⟩))) (l:=mE) (aA (f:=λsh=>mE.map λnm=>rc (n+1) 238 [aq ⟨nm,sh,o,d,s,num⟩]) (g:=λsh=>mE.map λnm=>jh (.bool (mD ⟨nm,sh,o,d,s,num⟩))) (l:=j4)
  (aA (f:=λs=>j4.map λsh=>mE.map λnm=>rc (n+1) 238 [aq ⟨nm,sh,o,d,s,num⟩]) (g:=λs=>j4.map λsh=>mE.map λnm=>jh (.bool (mD ⟨nm,sh,o,d,s,num⟩))) (l:=fE) ⋯ (tq s)) (qQ sh)) (z7 h)) σ (fc (aP _)) rfl
theorem qc(h:bf T gl i s=some (cond c (.exc C) (.ok .next),s))(h2:c=false->ae T gl l s=r):ae T gl (i::l) s=cond c (some (.exc C,s)) r:=by
 show ao (bf T gl i s) _=_;rw[h];cases c with
 |true=>rfl
 |false=>exact h2 rfl
theorem one(k:All o)(h:qv T gl i ⟨s.loc,s.S9,c,[]⟩=some (r,⟨s.loc,s.S9,[],o⟩)):bf T gl i s=some (r,s):=(QS i _ _ h k).2
noncomputable def mM(s:Sz):Bool:=match s with
 | .T4=>true
 |_=>false
noncomputable def kP(p:PS):Bool:=p.seg.s != ""
noncomputable def rf:List Op->Bool
 |o::_=>jm o
 | []=>false
section
variable {n:Nat} {x:FS} {f:kJ} {L:List Op}
noncomputable abbrev xF(x:FS)(f:kJ)(L:List Op):St:=⟨[some (aq x),some (cY f),some (.lst (L.map gH))],[]⟩
theorem RJ:bf (aU (n+2)) bI (cw.getD 0 .pass) (xF x f L)=some (cond (f.p.dat&& !(mM x.size)) (.exc 83) (.ok .next),xF x f L):=by
 have h:=ua (n+1) f [];cases hd:f.p.dat with
 |false=>rw[hd] at h;exact one (c:=[.k (.bool false) [],.a]) #[h] ⋯
 |true=>
  rw[hd] at h;obtain⟨nm,sh,o,d,s,num⟩:=x;cases s<;>exact one (c:=[.k (.bool true) [],.a,.a]) #[h] ⋯
theorem JB(o)(L):dZ [] (.lst ((o::L).map gH)) (.int 0)=some (gH o):=by
 show cond (fit 0) (wf ((o::L).map gH) ((0:Nat):Int)) none=_;rw[oP];rfl
theorem S8(hx:x.nm<13)(hL:mD x=true->L≠ []):bf (aU (n+2)) bI (cw.getD 1 .pass) (xF x f L)=some (cond (f.p.Tu&& !(mD x&&rf L)) (.exc 83) (.ok .next),xF x f L):=by
 have h:=uR n x hx [];cases hd:f.p.Tu with
 |false=>exact one (c:=[.b false]) #[ac some hd] ⋯
 |true=>
  cases hc:mD x with
  |false=>rw[hc] at h;exact one (c:=[.b true,.k (.bool false) [],.a]) #[h,ac some hd] ⋯
  |true=>
   rw[hc] at h;cases L with
   |nil=>exact absurd rfl (hL hc)
   |cons o L=>
    have h0:=JB o L;cases o with
    |reg i s r=>exact one (c:=[.b true,.k (.bool true) [],.a,.v (gH (.reg i s r)),.a]) #[h0,h,ac some hd] ⋯
    |Tn w=>exact one (c:=[.b true,.k (.bool true) [],.a,.v (gH (.Tn w)),.a]) #[h0,h,ac some hd] ⋯
    |mem b i k d z g=>exact one (c:=[.b true,.k (.bool true) [],.a,.v (gH (.mem b i k d z g)),.a]) #[h0,h,ac some hd] ⋯
theorem yX(hl:L.length<=1000):aw (aU (n+2)) bI (.comp (.cmp .Eq (.attr (.var 0) 10) (.k (.str "mem"))) [] .seq 0 (.var 2) []) ⟨[some (aq x),some (cY f),some (.lst (L.map gH))],[]⟩=some (.ok (.lst (L.map λo=> .bool (jm o))),⟨[some (aq x),some (cY f),some (.lst (L.map gH))],[]⟩):=
 lQ (x:= .lst (L.map gH)) (g:=gH) rfl rfl hl λo ho=>⟨[some (gH o)],by cases o<;>rfl⟩
theorem Sp(hl:L.length<=1000):bf (aU (n+2)) bI (cw.getD 2 .pass) (xF x f L)=some (cond (kP f.p&& !(L.any jm)) (.exc 83) (.ok .next),xF x f L):=by
 cases hd:kP f.p with
 |false=>exact one (c:=[.b false]) #[ac some hd] ⋯
 |true=>
  cases ha:L.any jm with
  |true=>exact one (c:=[.b true,.k (.lst (L.map λo=> .bool (jm o))) [],.v (.bool (L.any jm)),.b true]) #[ac some ha,any_map (g:=jm) hl,yX (n:=n) (x:=x) (f:=f) hl,ac some hd] ⋯
  |false=>exact one (c:=[.b true,.k (.lst (L.map λo=> .bool (jm o))) [],.v (.bool (L.any jm)),.b false]) #[ac some ha,any_map (g:=jm) hl,yX (n:=n) (x:=x) (f:=f) hl,ac some hd] ⋯
noncomputable def rk(x:FS)(f:kJ)(L:List Op):Bool:=(f.p.dat&& !(mM x.size))||((f.p.Tu&& !(mD x&&rf L))||(kP f.p&& !(L.any jm)))
noncomputable def Rr(c:Bool):Res AV:=cond c (.exc 83) (.ok .none)
theorem Bi(hx:x.nm<13)(hL:mD x=true->L≠ [])(hl:L.length<=1000)(σ):call (n+3) 927 [aq x,cY f,.lst (L.map gH)] σ=some (Rr (rk x f L),σ):=by
 have h:ae (aU (n+2)) bI cw (xF x f L)=cond (f.p.dat&& !(mM x.size)) (some (.exc 83,xF x f L)) (cond (f.p.Tu&& !(mD x&&rf L)) (some (.exc 83,xF x f L)) (cond (kP f.p&& !(L.any jm)) (some (.exc 83,xF x f L)) (some (.ok .next,xF x f L)))):=
  qc RJ λ_=>qc (S8 hx hL) λ_=>qc (Sp hl) λ_=>rfl
 have e: ∃r,ae (aU (n+2)) bI cw (xF x f L)=some (r,xF x f L)/\je false r [] []=some (Rr (rk x f L),[]):=by
  rw[h];unfold rk;cases (f.p.dat&& !(mM x.size)) with
  |true=>exact⟨_,rfl,rfl⟩
  |false=>cases (f.p.Tu&& !(mD x&&rf L)) with
   |true=>exact⟨_,rfl,rfl⟩
   |false=>cases (kP f.p&& !(L.any jm)) with
    |true=>exact⟨_,rfl,rfl⟩
    |false=>exact⟨_,rfl,rfl⟩
 obtain⟨r,e1,e2⟩:=e;exact yk (f:=927) (np:=3) (nl:=3) (d:=[]) (gl:=bI) (body:=cw) (s0:=xF x f L) (s':=xF x f L) e1 ⋯ ⋯ e2 σ
  (ca ⟨aP x,ca ⟨rfl,fc (bM qh L)⟩⟩) (by cases rk x f L<;>rfl)
noncomputable def NF(p:PS):Res AV:=cond p.Tu (.ok (.str "lock")) (match p.rep with| .no=> .ok (.str "")|_=> .exc 83)
theorem qC(hx:x.nm<13)(σ):call (n+2) 934 [aq x,cY f] σ=some (NF f.p,σ):=by
 have h:=wF n hx [];obtain⟨⟨s,d,r,l,o⟩,c,esc,op,ma,m,rest⟩:=f;cases l with
 |true=>exact xA [.a] .nil ⋯ σ (dj (aP x) rfl) rfl
 |false=>cases r with
  |no=>exact xA [.a,.a] .nil ⋯ σ (dj (aP x) rfl) rfl
  |_=>exact xA [.a,.a,.a,.a,.k (.lst []) [],.a] #[h] ⋯ σ (dj (aP x) rfl) rfl
end
theorem wU(h1:sp.TB=false)(h2:sp.byref=true)(hz:jk vs σ=σ1)(hm:vs.map (rs 8 σ1)=vs')(h3:aM vs'=true)(hk:σ1[k]?=some o)(ho:du o=true)(hl:o.live=true):
  cR sp (.ref k::vs) σ=Bo o σ1 k (sp.run (.ref 0::vs') [o]):=by
 have e:cR sp (.ref k::vs) σ=((jk vs σ)[k]?).bind λo=>qu sp k vs (jk o.vals (jk vs σ)):=(ac (cond · _ _) h1).trans (ac (cond · _ _) h2);rw[e,hz,hk];show qu sp k vs (jk o.vals σ1)=_;rw[dG (rV ho)];unfold qu;rw[hk];show cond (o.live&&du (qX 8 σ1 o)&&aM (vs.map (rs 8 σ1))) _ _=_;rw[lO ho,hm,ho,hl,h3];rfl
theorem OA{vs vs'}{o o'}{v}(h:ae (aU n) gl body s0=some (r,s'))(hf:dY.find? (·.1==f)=some (f,true,false,np,nl,d,gl,body))
  (hs:((decide (np-d.length<=(AV.ref 0::vs').length)&&decide ((AV.ref 0::vs').length<=np)),St.mk ((c0 np d (.ref 0::vs')).map some++List.replicate (nl-(c0 np d (.ref 0::vs')).length) none) [o])=(true,s0)) (e:je false r [o] s'.S9=some (.ok v,[o']))
  {σ σ1:aX} {i:Nat} (hz:jk vs σ=σ1) (hm:vs.map (rs 8 σ1)=vs') (hv:aM vs'=true) (hk:σ1[i]?=some o) (ho:du o=true) (hl:o.live=true)
  (hr:(flat v&&du o'&&o'.live&&o.isObj==o'.isObj)=true):call (n+1) f (.ref i::vs) σ=some (.ok v,σ1.set i o'):=by
 have z:=wU (sp:=kD (aU n) (f,true,false,np,nl,d,gl,body)) (vs:=vs) (σ:=σ) (k:=i) rfl rfl hz hm hv hk ho hl;have q:k9 (aU n) gl nl np d false body (.ref 0::vs') [o]=some (.ok v,[o']):=(sX (Prod.mk.inj hs).1 ((ac (ae (aU n) gl body) (Prod.mk.inj hs).2).trans h)).trans e;exact(gv ..).trans ((ac (Option.bind · λx=>cR (kD (aU n) x) (.ref i::vs) σ) hf).trans (z.trans ((ac (Bo o σ1 i) q).trans (ac (cond · _ none) hr))))
theorem uz(h:aM l=true):je false (.ok .next) [o] [.obj C l]=some (.ok .none,[.obj C l]):=by
 show cond (du (qX 8 [.obj C l] (.obj C l))&&true) (some (Res.ok AV.none,[qX 8 [.obj C l] (.obj C l)])) none=_;rw[lO (o:= .obj C l) h];exact ac (λb=>cond (b&&true) _ none) h
theorem Cc(h:aM l=true):je false (.ok (.ret (.ref 1))) [] [.Tg a,.obj 780 l]=some (.ok (.obj 780 l),[]):=by
 show cond (flat (rs 8 [.Tg a,.Tg (.obj 780 l)] (.ref 1))&&true) (some (Res.ok (rs 8 [.Tg a,.Tg (.obj 780 l)] (.ref 1)),([]:aX))) none=_;rw[show rs 8 [.Tg a,.Tg (.obj 780 l)] (.ref 1)= .obj 780 l from tT (n:=7) rfl h];exact ac (λb=>cond (b&&true) _ none) h
theorem Kn(h:call (n+1) f (.ref σ.length::vs) (σ++ [.obj C []])=some (.ok .none,σ1)):pP (aU (n+1)) f C vs σ=some (.ok (.ref σ.length),σ1):=zg.trans (ac (Option.bind · _) h)
noncomputable def mI(x:FS)(L:List Op)(w:Str):aV:=[.str (cX x.nm),.tup (L.map gH),.str w]
theorem lF(x)(L)(w):aM (mI x L w)=true:=ca ⟨rfl,ca ⟨bM qh L,rfl⟩⟩
theorem Hb(h:l.length<=1000):cL [] .tuple [.lst l]=some (.tup l):=by
 show(if l.length<=100000 then some (AV.tup l) else none)=_;rw[if_pos (by omega)]
theorem zl(n)(x)(hl:L.length<=1000)(w):pP (aU (n+1)) 463 499 [.str (cX x.nm),.lst (L.map gH),.str w] []=some (.ok (.ref 0),[.obj 499 (mI x L w)]):=by
 have hv:aM [.str (cX x.nm),.lst (L.map gH),.str w]=true:=ca ⟨rfl,ca ⟨bM qh L,rfl⟩⟩;exact Kn (σ:=[]) (OA (f:=463) (np:=4) (nl:=4) (d:=[.str ""]) (gl:=eD) (body:=fK) (r:= .ok .next) (s0:=⟨[some (.ref 0),some (.str (cX x.nm)),some (.lst (L.map gH)),some (.str w)],[.obj 499 []]⟩) (s':=⟨[some (.ref 0),some (.str (cX x.nm)),some (.lst (L.map gH)),some (.str w)],[.obj 499 (mI x L w)]⟩)
  (aY [.v (.tup (L.map gH))] #[(show cL [.obj 499 [.str (cX x.nm)]] .tuple [.lst (L.map gH)]=_ from Hb (l:=L.map gH) (by rw[List.length_map];exact hl))] ⋯) ⋯ ⋯ (uz (lF x L w)) (dG hv) (cE hv) hv rfl rfl rfl
  (ca ⟨ca ⟨lF x L w,rfl⟩,rfl⟩))
noncomputable def vZ(x:FS)(p:PS)(L:List Op)(w:Str)(e:Nat):aV:=[.obj 499 (mI x L w),.int e,aq x,cK p]
theorem sN(x)(p)(L)(w)(e):aM (vZ x p L w e)=true:=ca ⟨lF x L w,ca ⟨rfl,dj (aP x) rfl⟩⟩
theorem HO(hi:aM l=true)(hx:aM vs=true)(o):jk (.ref 0::vs) [.obj 499 l,o]=[.Tg (.obj 499 l),o]:=(ac (jk vs) (wK (n:=7) (k:=0) (σ:=[.obj 499 l,o]) (p:=(.obj 499 l,l)) rfl rfl hi)).trans (dG hx)
theorem Iw(hi:aM l=true)(hx:aM vs=true)(o):(AV.ref 0::vs).map (rs 8 [.Tg (.obj 499 l),o])= .obj 499 l::vs:=(ac (· ::vs.map (rs 8 [.Tg (.obj 499 l),o])) (tT (n:=7) (k:=0) (v:= .obj 499 l) rfl hi)).trans (ac (.obj 499 l:: ·) (cE hx))
theorem DX(n:Nat)(x)(p)(hi:aM l=true)(e:Nat):pP (aU (n+1)) 770 780 [.ref 0,.int e,aq x,cK p] [.obj 499 l]=some (.ok (.ref 1),[.Tg (.obj 499 l),.obj 780 [.obj 499 l,.int e,aq x,cK p]]):=by
 have hx:aM [.int e,aq x,cK p]=true:=ca ⟨rfl,dj (aP x) rfl⟩;have hv:aM [.obj 499 l,.int e,aq x,cK p]=true:=ca ⟨hi,hx⟩;exact Kn (σ:=[.obj 499 l]) (OA (n:=n) (f:=770) (np:=5) (nl:=5) (d:=[]) (gl:=gd) (body:=iY) (r:= .ok .next) (s0:=⟨[some (.ref 0),some (.obj 499 l),some (.int e),some (aq x),some (cK p)],[.obj 780 []]⟩) (s':=⟨[some (.ref 0),some (.obj 499 l),some (.int e),some (aq x),some (cK p)],[.obj 780 [.obj 499 l,.int e,aq x,cK p]]⟩)
  (aY [] .nil ⋯) ⋯ ⋯ (uz hv) (HO hi hx _) (Iw hi hx _) hv rfl rfl rfl
  (ca ⟨ca ⟨hv,rfl⟩,rfl⟩))
noncomputable def gI:Rp->Bool
 | .no=>false
 |_=>true
noncomputable def xi(b:List UInt8)(f:kJ)(x:FS):Option (List Op×Nat):=(uO x f b).elim none λy=>cond (Nat.blt 15 y.2) none (cond (rk x f y.1) none (cond (!f.p.Tu&&gI f.p.rep) none (some y)))
noncomputable def fy(p:PS):Str:=cond p.Tu "lock" ""
noncomputable def Ar(b:List UInt8)(y:kJ×FS):Res AV:=(xi b y.1 y.2).elim (.exc 83) λz=> .ok (.obj 780 (vZ y.2 y.1.p z.1 (fy y.1.p) z.2))
noncomputable def zm(To:Nat->List FS)(b:List UInt8):Res AV:=(iF To b).elim (.exc 83) (Ar b)
structure NQ (f:kJ) (x:FS):Prop where
 nm:x.nm<13
 m:x.sh≠ .ai-> ∃m,f.m=some m/\DI m
def Gn(y:List Op×Nat):Prop:=y.1≠ []/\y.1.length<=2
theorem Dl(h:wO b e k g=some y):Gn y:=Ie h λ_ h=>aC h▸⟨nofun,Nat.le_refl 2⟩
theorem us:sZ t s p m e b=some y->Gn y:=t.casesOn (motive:=λt=>sZ t s p m e b=some y->Gn y) (λh=>aC h▸⟨nofun,Nat.le_refl 2⟩) (λh=>aC h▸⟨nofun,Nat.le_refl 2⟩) (λh=>aC h▸⟨nofun,Nat.le_succ 1⟩) Dl Dl Dl
theorem yu(h:uO x f b=some (L,e)):L≠ []/\L.length<=2:=us h
theorem D7(h:Nat.blt 15 e=c):some (decide ((15:Int)<(e:Int)-0))=some c:=by
 rw[bP] at h;subst h;congr 1;rw[decide_eq_decide];omega
section
variable {n:Nat} {b:List UInt8} {I:AV} {f:kJ} {x:FS}
theorem tA(hb:b.length<=900)(hI:flat I=true)(h:call (n+7) 939 [I,.bytes b,.int 0] []=some (.ok (.tup [cY f,aq x]),[]))(hy:NQ f x)(σ):call (n+8) 947 [I,.bytes b] σ=some (Ar b (f,x),σ):=by
 have ho:=qR (n:=n+1) x f hy.m (show b.length<=1000 by omega) [];rw[Kh] at ho;have hv:aM [I,.bytes b]=true:=dj hI rfl;unfold Ar xi;cases hx:uO x f b with
 |none=>rw[hx] at ho;exact xA [.k (.tup [cY f,aq x]) [],.r (.exc 83) []] #[ho,h] ⋯ σ hv rfl
 |some y=>
  obtain⟨L,e⟩:=y;rw[hx] at ho;obtain⟨hL,hl⟩:=yu hx;have hc:=Bi (n:=n+4) (f:=f) hy.nm (λ_=>hL) (show L.length<=1000 by omega) [];have hw:=qC (n:=n+5) (f:=f) hy.nm [];show _=some (Option.elim (cond (Nat.blt 15 e) none (cond (rk x f L) none (cond (!f.p.Tu&&gI f.p.rep) none (some (L,e))))) (Res.exc 83) _,σ);cases h1:Nat.blt 15 e with
  |true=>exact xA [.k (.tup [cY f,aq x]) [],.k (.tup [.lst (L.map gH),.int e]) [],.b true] #[D7 h1,ho,h] ⋯ σ hv rfl
  |false=>cases h2:rk x f L with
   |true=>rw[h2] at hc;exact xA [.k (.tup [cY f,aq x]) [],.k (.tup [.lst (L.map gH),.int e]) [],.b false,.r (.exc 83) []] #[hc,D7 h1,ho,h] ⋯ σ hv rfl
   |false=>
    rw[h2] at hc;cases h3:(!f.p.Tu&&gI f.p.rep) with
    |true=>
     have e3:NF f.p= .exc 83:=by
      unfold NF;cases hl:f.p.Tu<;>cases hr:f.p.rep<;>rw[hl,hr] at h3<;>first|rfl|cases h3
     rw[e3] at hw;exact xA [.k (.tup [cY f,aq x]) [],.k (.tup [.lst (L.map gH),.int e]) [],.b false,.k .none [],.r (.exc 83) []] #[hw,hc,D7 h1,ho,h] ⋯ σ hv rfl
    |false=>
     have e3:NF f.p= .ok (.str (fy f.p)):=by
      unfold NF fy;cases hl:f.p.Tu<;>cases hr:f.p.rep<;>rw[hl,hr] at h3<;>first|rfl|cases h3
     rw[e3] at hw;have h5:=zl (n+6) x (show L.length<=1000 by omega) (fy f.p);have h6:=DX (n+6) x f.p (lF x L (fy f.p)) e;have hf:=sN x f.p L (fy f.p) e;exact yk (f:=947) (np:=3) (nl:=8) (d:=[.int 0]) (gl:=lC) (body:=rQ) (r:= .ok (.ret (.ref 1))) (res:= .ok (.obj 780 (vZ x f.p L (fy f.p) e))) (s0:=⟨[some I,some (.bytes b),some (.int 0),none,none,none,none,none],[]⟩) (s':=⟨[some I,some (.bytes b),some (.int 0),some (cY f),some (aq x),some (.lst (L.map gH)),some (.int e),some (.ref 0)],[.Tg (.obj 499 (mI x L (fy f.p))),.obj 780 (vZ x f.p L (fy f.p) e)]⟩)
      (aY [.k (.tup [cY f,aq x]) [],.k (.tup [.lst (L.map gH),.int e]) [],.b false,.k .none [],.k (.str (fy f.p)) [],.k (.ref 0) [.obj 499 (mI x L (fy f.p))],.k (.ref 1) [.Tg (.obj 499 (mI x L (fy f.p))),.obj 780 (vZ x f.p L (fy f.p) e)]] #[h6,h5,hw,hc,D7 h1,ho,h] ⋯) ⋯ ⋯ (Cc hf) σ hv hf
end
theorem FP(h:cA b j=some m):DI m:=by
 unfold cA at h;cases hc:b[j]? with
 |none=>rw[hc] at h;exact aB h
 |some c=>
  rw[hc] at h;have fin: ∀{Ti k},dw b c.toNat Ti k=some m->m.o=c.toNat/\m.Ti=Ti:=fun{Ti k} h=>by
   unfold dw at h;cases q:Nat.blt b.length (k+fS (c.toNat/64) (c.toNat % 8) Ti) with
   |true=>rw[q] at h;exact aB h
   |false=>rw[q] at h;cases h;exact⟨rfl,rfl⟩
  change cond (bD c.toNat) _ _=_ at h;cases q:bD c.toNat with
  |false=>
   rw[q] at h;obtain⟨e,e2⟩:=fin h;exact⟨e▸bV c,λz=>by rw[e,q] at z;cases z⟩
  |true=>
   rw[q] at h;change (b[j+1]?).elim none _=_ at h;cases hs:b[j+1]? with
   |none=>rw[hs] at h;exact aB h
   |some s=>
    rw[hs] at h;obtain⟨e,e2⟩:=fin h;exact⟨e▸bV c,λ_=>⟨_,e2,bV s⟩⟩
structure Ih (To:Nat->List FS):Prop where
 nm: ∀op,∀x∈To op,x.nm<13
theorem pQ(h:fA l f=some (f',x)):f'=f/\x∈l:=by
 unfold fA at h;cases hx:l.find? (pk f) with
 |none=>rw[hx] at h;exact aB h
 |some y=>rw[hx] at h;cases h;exact⟨rfl,List.mem_of_find?_eq_some hx⟩
theorem RI(h:fg x=false):x.sh= .ai:=by
 unfold fg at h;generalize x.sh=t at h;cases t<;>first|rfl|(rw[Bool.or_true] at h;cases h)
theorem zz(ha:Ih To)(h:iF To b=some (f,x)):NQ f x:=by
 unfold iF at h;cases hp:g8 b p0 0 with
 |none=>rw[hp] at h;exact aB h
 |some q=>
  rw[hp] at h;change (b[q.2]?).elim none _=_ at h;cases hc:b[q.2]? with
  |none=>rw[hc] at h;exact aB h
  |some c=>
   rw[hc] at h;change cond (Nat.beq c.toNat 15) none _=_ at h;cases h15:Nat.beq c.toNat 15 with
   |true=>rw[h15] at h;exact aB h
   |false=>
    rw[h15] at h;change cond ((To c.toNat).any fg) _ _=_ at h;cases hm:(To c.toNat).any fg with
    |false=>
     rw[hm] at h;obtain⟨e,hx⟩:=pQ h;refine⟨ha.nm _ x hx,λz=>absurd (RI ?_) z⟩;cases hq:fg x with
     |false=>rfl
     |true=>rw[List.any_eq_true.mpr ⟨x,hx,hq⟩] at hm;cases hm
    |true=>
     rw[hm] at h;change (cA b (q.2+1)).elim none _=_ at h;cases hr:cA b (q.2+1) with
     |none=>rw[hr] at h;exact aB h
     |some m=>
      rw[hr] at h;obtain⟨e,hx⟩:=pQ h;exact⟨ha.nm _ x hx,λ_=>⟨m,e▸rfl,FP hr⟩⟩
section
variable {n:Nat} {b:List UInt8} {I:AV} {To:Nat->List FS}
theorem Av(hb:b.length<=900)(hI:Hq I To)(ha:A0 To)(hn:Ih To)(σ):call (n+8) 947 [I,.bytes b] σ=some (zm To b,σ):=by
 have h:=qZ (n:=n) hb hI ha [];unfold zm;cases hr:iF To b with
 |none=>rw[hr] at h;exact xA [.r (.exc 83) []] #[h] ⋯ σ (dj hI.fl rfl) rfl
 |some y=>
  obtain⟨f,x⟩:=y;rw[hr] at h;exact tA hb hI.fl h (zz hn hr) σ
noncomputable def NW(x:FS)(L:List Op)(w:Str):AV:= .tup [.str (cX x.nm),.str w,.tup (L.map dN)]
theorem sW(x)(L)(w):flat (NW x L w)=true:=fc (a:= .tup (L.map dN)) (bM qz L)
theorem C7(x)(hl:L.length<=1000)(w)(σ):call (n+3) 468 [.obj 499 (mI x L w)] σ=some (.ok (NW x L w),σ):=by
 have hv:aM [.obj 499 (mI x L w)]=true:=fc (lF x L w);have hc:aw (aU (n+2)) cP (.comp (.TG (.var 0) 45 []) [] .seq 0 (.attr (.var 0) 17) []) ⟨[some (.obj 499 (mI x L w))],[]⟩=some (.ok (.lst (L.map dN)),⟨[some (.obj 499 (mI x L w))],[]⟩):=
  lQ (x:= .tup (L.map gH)) (g:=gH) rfl rfl hl λo ho=>⟨[some (gH o)],E9 n o _ []⟩
 exact yk (f:=468) (np:=1) (nl:=1) (d:=[]) (gl:=cP) (body:=fM) (r:= .ok (.ret (NW x L w))) (s0:=⟨[some (.obj 499 (mI x L w))],[]⟩) (s':=⟨[some (.obj 499 (mI x L w))],[]⟩)
  (aY [.k (.lst (L.map dN)) [],.v (.tup (L.map dN))] #[(Hb (l:=L.map dN) (by rw[List.length_map];exact hl)),hc] ⋯) ⋯ ⋯ (dc (sW x L w) []) σ hv (sW x L w)
noncomputable def MG(x:FS)(L:List Op)(w:Str)(e:Nat):AV:= .tup [NW x L w,.int e]
theorem Bl(x)(p)(hl:L.length<=1000)(w)(e)(σ):call (n+4) 777 [.obj 780 (vZ x p L w e)] σ=some (.ok (MG x L w e),σ):=by
 have hf:flat (MG x L w e)=true:=dj (sW x L w) rfl;exact yk (f:=777) (np:=1) (nl:=1) (d:=[]) (gl:=f7) (body:=iU) (r:= .ok (.ret (MG x L w e))) (s0:=⟨[some (.obj 780 (vZ x p L w e))],[]⟩) (s':=⟨[some (.obj 780 (vZ x p L w e))],[]⟩)
  (aY [.k (NW x L w) []] #[C7 (n:=n) x hl w []] ⋯) ⋯ ⋯ (dc hf []) σ (fc (sN x p L w e)) hf
end
noncomputable def qE(b:List UInt8)(y:kJ×FS):Option AV:=(xi b y.1 y.2).map λz=>MG y.2 z.1 (fy y.1.p) z.2
noncomputable def uL(To:Nat->List FS)(b:List UInt8):Option AV:=(iF To b).elim none (qE b)
theorem CW(n)(To:Nat->List FS)(b):(zm To b= .exc 83/\uL To b=none)\/ ∃v t,zm To b= .ok v/\uL To b=some t/\flat v=true/\flat t=true/\(∃l,v= .obj 780 l)/\ ∀σ,call (n+4) 777 [v] σ=some (.ok t,σ):=by
 unfold zm uL;cases iF To b with
 |none=>exact .inl ⟨rfl,rfl⟩
 |some y=>
  obtain⟨f,x⟩:=y;show(Ar b (f,x)=_/\qE b (f,x)=none)\/ ∃v t,Ar b (f,x)=_/\qE b (f,x)=_/\_;unfold Ar qE;cases hd:xi b f x with
  |none=>exact .inl ⟨rfl,rfl⟩
  |some z=>
   obtain⟨L,e⟩:=z;have hl:L.length<=2:=by
    unfold xi at hd;cases ho:uO x f b with
    |none=>rw[ho] at hd;exact aB hd
    |some y=>
     rw[ho] at hd;change cond _ none (cond _ none (cond _ none (some y)))=_ at hd;have:y=(L,e):=by
      cases h1:Nat.blt 15 y.2<;>rw[h1] at hd<;>first|cases hd|skip
      cases h2:rk x f y.1<;>rw[h2] at hd<;>first|cases hd|skip
      cases h3:(!f.p.Tu&&gI f.p.rep)<;>rw[h3] at hd<;>first|(cases hd;done)|skip
      cases hd;rfl
     subst this;exact(yu ho).2
   exact .inr ⟨_,_,rfl,rfl,sN ..,dj (sW x L _) rfl,⟨_,rfl⟩,λσ=>Bl x f.p (show L.length<=1000 by omega) _ e σ⟩
noncomputable def HV:List Str:=["segment","data","repeat","lock","rex"]
noncomputable def IO(b:Bool):Nat:=cond b 240 0
noncomputable def Jf(b:Bool):Nat:=cond b 102 0
noncomputable def Oi(p:PS):aV:=[.int p.seg.i,.int (Jf p.dat),.int p.rep.i,.int (IO p.Tu),.int (mz p.Te)]
noncomputable def tP:AO:= .Tz [100,101,102,242,243,240] [.str "segment",.str "segment",.str "data",.str "repeat",.str "repeat",.str "lock"]
noncomputable def Bt:List IS:=[.Td (.cmp .Eq (.bin .FloorDiv (.var 4) (.k (.int 16))) (.k (.int 4))) [.Td (.cmp .GtE (.sub (.var 2) (.k (.str "rex"))) (.k (.int 0))) [.ret (.k .none)] [],.asg (.sub (.var 2) (.k (.str "rex"))) (.var 4)] [.Td (.cmp .In (.var 4) (.tup [.k (.int 38),.k (.int 46),.k (.int 54),.k (.int 62),.k (.int 103)])) [.ret (.k .none)] [.Td (.cmp .In (.var 4) (.var 1)) [.Td (.or [.cmp .GtE (.sub (.var 2) (.k (.str "rex"))) (.k (.int 0)),.cmp .Gt (.sub (.var 2) (.sub (.var 1) (.var 4))) (.k (.int 0))]) [.ret (.k .none)] [],.asg (.sub (.var 2) (.sub (.var 1) (.var 4))) (.var 4)] [.ret (.tup [.var 2,.var 3])]]]]
noncomputable abbrev BO:IT:= .tup [.var 3,.var 4]
noncomputable abbrev kf(b:List UInt8)(p:PS)(u v:Option AV):St:=⟨[some (.bytes b),some (.ref 0),some (.ref 1),u,v],[tP,.Tl HV (Oi p)]⟩
noncomputable def AX:List Nat:=[64,65,66,67,68,69,70,71,72,73,74,75,76,77,78,79]
theorem yW(h:c<256)(hr:cy c=true):c∈AX:=by
 have z:=aA (f:=λc=>cond (cy c) (AX.any (Nat.beq c)) true) (g:=λ_=>true) (l:=List.range 256) ⋯ (List.mem_range.mpr h);obtain⟨x,hx,e⟩:=List.any_eq_true.mp ((ac (λb=>cond b (AX.any (Nat.beq c)) true) hr).symm.trans z);rw[eS e];exact hx
theorem Cr(q):some (decide ((0:Int)<=mz (some q)))=some true:=Mo (f:=λq=>some (decide ((0:Int)<=mz (some q)))) (g:=λ_=>some true) ⋯ q
section
variable {n:Nat} {b:List UInt8} {p:PS} {u v:Option AV} {i:Nat} {c:Nat}
noncomputable abbrev nw(n i c:Nat)(s:St):Out Fl:=stepI (aU n) aS BO Bt (.tup [.int i,.int c]) s
theorem JK(hr:cy c=true)(h:c<256)(hp:p.Te=none):nw n i c (kf b p u v)=some (.ok .next,kf b {p with Te:=some (fX c)} (some (.int i)) (some (.int c))):=by
 have e:(mz (some (fX c)):Int)=(c:Int):=ac (λn:Nat=>(n:Int)) (Dx h hr);have q:kf b {p with Te:=some (fX c)} (some (.int i)) (some (.int c))=⟨[some (.bytes b),some (.ref 0),some (.ref 1),some (.int i),some (.int c)],[tP,.Tl HV [.int p.seg.i,.int (Jf p.dat),.int p.rep.i,.int (IO p.Tu),.int c]]⟩:=by
  show(⟨_,[tP,.Tl HV [_,_,_,_,.int (mz (some (fX c)))]]⟩:St)=_;rw[e]
 rw[q];obtain⟨s,d,r,l,o⟩:=p;cases hp;exact ce _ .nil (aA (f:=fun(c:Nat)=>turn (aU n) aS BO Bt (.tup [.int i,.int c]) (kf b ⟨s,d,r,l,none⟩ u v) [.a,.a,.a]) (g:=λc=>some (Res.ok Fl.next,⟨[some (.bytes b),some (.ref 0),some (.ref 1),some (.int i),some (.int c)],[tP,.Tl HV [.int s.i,.int (Jf d),.int r.i,.int (IO l),.int c]]⟩,[])) (l:=AX) ⋯ (yW h hr))
noncomputable def sY:List Nat:=[38,46,54,62,103]
noncomputable def iR(c:Nat):Bool:=sY.any (Nat.beq c)
noncomputable def gD:List Nat:=[100,101,102,243,242,240]
noncomputable def j9(c:Nat):Bool:=gD.any (Nat.beq c)
noncomputable def fN(p:PS)(o:Nat):Option PS:=match p.Te with
 |some _=>none
 |none=>match o with
  |100=>(match p.seg with| .no=>some {p with seg:= .fs}|_=>none)
  |101=>(match p.seg with| .no=>some {p with seg:= .gs}|_=>none)
  |102=>(match p.dat with|false=>some {p with dat:=true}|true=>none)
  |243=>(match p.rep with| .no=>some {p with rep:= .rp}|_=>none)
  |242=>(match p.rep with| .no=>some {p with rep:= .rn}|_=>none)
  |240=>(match p.Tu with|false=>some {p with Tu:=true}|true=>none)
  |_=>none
noncomputable abbrev RA(b:List UInt8)(i c:Nat)(p:PS)(o:Option PS):Option (Res Fl×St×List Prop):=match o with
 |some q=>some (.ok .next,kf b q (some (.int i)) (some (.int c)),[])
 |none=>some (.ok (.ret .none),kf b p (some (.int i)) (some (.int c)),[])
theorem D9(hr:cy c=true)(h:c<256)(hp:p.Te=some q):nw n i c (kf b p u v)=some (.ok (.ret .none),kf b p (some (.int i)) (some (.int c))):=by
 obtain⟨s,d,r,l,o⟩:=p;cases hp;exact ce _ #[Cr q] (aA (f:=fun(c:Nat)=>turn (aU n) aS BO Bt (.tup [.int i,.int c]) (kf b ⟨s,d,r,l,some q⟩ u v) [.a,.a,.b true]) (g:=λc=>some (Res.ok (Fl.ret .none),kf b ⟨s,d,r,l,some q⟩ (some (.int i)) (some (.int c)),[some (decide ((0:Int)<=mz (some q)))=some true])) (l:=AX) ⋯ (yW h hr))
theorem Jn(hc:c∈sY):nw n i c (kf b p u v)=some (.ok (.ret .none),kf b p (some (.int i)) (some (.int c))):=
 ce _ .nil (aA (f:=fun(c:Nat)=>turn (aU n) aS BO Bt (.tup [.int i,.int c]) (kf b p u v) [.a,.a]) (g:=λc=>some (Res.ok (Fl.ret .none),kf b p (some (.int i)) (some (.int c)),[])) (l:=sY) ⋯ hc)
theorem FD(hc:c∈gD)(hp:p.Te=some q):nw n i c (kf b p u v)=some (.ok (.ret .none),kf b p (some (.int i)) (some (.int c))):=by
 obtain⟨s,d,r,l,o⟩:=p;cases hp;exact ce _ #[Cr q] (aA (f:=fun(c:Nat)=>turn (aU n) aS BO Bt (.tup [.int i,.int c]) (kf b ⟨s,d,r,l,some q⟩ u v) [.a,.a,.a,.a,.b true]) (g:=λc=>some (Res.ok (Fl.ret .none),kf b ⟨s,d,r,l,some q⟩ (some (.int i)) (some (.int c)),[some (decide ((0:Int)<=mz (some q)))=some true])) (l:=gD) ⋯ hc)
noncomputable def Q1(o:Option PS):List gu:=match o with
 |some _=>[.a,.a,.a,.a,.a,.a,.a,.a,.a]
 |none=>[.a,.a,.a,.a,.a,.a,.a,.a]
theorem Kx(hc:c∈gD)(hp:p.Te=none):nw n i c (kf b p u v)=(match fN p c with|some q=>some (.ok .next,kf b q (some (.int i)) (some (.int c)))|none=>some (.ok (.ret .none),kf b p (some (.int i)) (some (.int c)))):=by
 obtain⟨s,d,r,l,o⟩:=p;cases hp;have z:=aA (f:=fun(c:Nat)=>turn (aU n) aS BO Bt (.tup [.int i,.int c]) (kf b ⟨s,d,r,l,none⟩ u v) (Q1 (fN ⟨s,d,r,l,none⟩ c))) (g:=λc=>RA b i c ⟨s,d,r,l,none⟩ (fN ⟨s,d,r,l,none⟩ c)) (l:=gD)
  (N6 (f:=λp=>gD.map fun(c:Nat)=>turn (aU n) aS BO Bt (.tup [.int i,.int c]) (kf b p u v) (Q1 (fN p c))) (g:=λp=>gD.map λc=>RA b i c p (fN p c)) none ⋯ s d r l) hc
 generalize fN ⟨s,d,r,l,none⟩ c=q at z ⊢;cases q with
 |none=>exact ce _ .nil z
 |some q=>exact ce _ .nil z
noncomputable def mW:List Nat:=(List.range 256).filter λc=> !(cy c)&&(!(iR c)&& !(j9 c))
theorem Fo(hc:c∈mW):nw n i c (kf b p u v)=some (.ok (.ret (.tup [.ref 1,.int i])),kf b p (some (.int i)) (some (.int c))):=
 ce _ .nil (aA (f:=fun(c:Nat)=>turn (aU n) aS BO Bt (.tup [.int i,.int c]) (kf b p u v) [.a,.a,.a]) (g:=λc=>some (Res.ok (Fl.ret (.tup [.ref 1,.int i])),kf b p (some (.int i)) (some (.int c)),[])) (l:=mW) ⋯ hc)
theorem sH(h:c<256)(h1:cy c=false):c∈sY\/c∈gD\/c∈mW:=by
 cases h2:iR c with
 |true=>
  obtain⟨x,hx,e⟩:=List.any_eq_true.mp h2;exact .inl (eS e▸hx)
 |false=>cases h3:j9 c with
  |true=>
   obtain⟨x,hx,e⟩:=List.any_eq_true.mp h3;exact .inr (.inl (eS e▸hx))
  |false=>exact .inr (.inr (List.mem_filter.mpr ⟨List.mem_range.mpr h,by rw[h1,h2,h3];rfl⟩))
end
noncomputable def dT:List UInt8->PS->Nat->Option (PS×Nat)
 | [],p,i=>none
 |c::l,p,i=>cond (cy c.toNat) (cond (jQ p) none (dT l {p with Te:=some (fX c.toNat)} (i+1)))
   (cond (iR c.toNat) none (cond (j9 c.toNat) ((fN p c.toNat).elim none λq=>dT l q (i+1)) (some (p,i))))
def DP(b:List UInt8)(x:Option (PS×Nat))(y:Out Fl):Prop:=match x with
 |none=> ∃s,y=some (.ok (.ret .none),s)\/y=some (.ok .next,s)
 |some (q,j)=> ∃u v,y=some (.ok (.ret (.tup [.ref 1,.int j])),kf b q u v)
theorem wv(h:c∈sY):iR c=true:=aA (f:=iR) (g:=λ_=>true) (l:=sY) ⋯ h
theorem mV(h:c∈gD):iR c=false/\j9 c=true:=⟨aA (f:=iR) (g:=λ_=>false) (l:=gD) ⋯ h,aA (f:=j9) (g:=λ_=>true) (l:=gD) ⋯ h⟩
theorem gR(h:c∈mW):iR c=false/\j9 c=false:=by
 have z:=(List.mem_filter.mp h).2;obtain⟨_,z⟩:=bG z;obtain⟨z1,z2⟩:=bG z;exact⟨(Bool.not_eq_true' (iR c)).mp z1,(Bool.not_eq_true' (j9 c)).mp z2⟩
theorem u9(h:p.Te=some q)(c):fN p c=none:=by unfold fN;rw[h]
theorem ty(n)(b): ∀(l:List UInt8) (p:PS) (k:Nat) (u v:Option AV),DP b (dT l p k) (dk (stepI (aU n) aS BO Bt) ((l.zipIdx k).map fun(c,i)=> .tup [.int i,.int c.toNat]) (kf b p u v))
 | [],p,k,u,v=>⟨_,.inr rfl⟩
 |c::l,p,k,u,v=>by
  rw[List.zipIdx_cons,List.map_cons];unfold dT;have hc:=bV c;cases h1:cy c.toNat with
  |true=>
   cases hp:p.Te with
   |none=>
    show DP b (cond p.Te.isSome _ _) _;rw[hp,cC (JK h1 hc hp)];exact ty n b l _ _ _ _
   |some q=>
    show DP b (cond p.Te.isSome _ _) _;rw[hp,ig (D9 h1 hc hp)];exact⟨_,.inl rfl⟩
  |false=>
   rcases sH hc h1 with hb|hb|hb
   ·rw[wv hb,ig (Jn hb)];exact⟨_,.inl rfl⟩
   ·rw[(mV hb).1,(mV hb).2];show DP b ((fN p c.toNat).elim none _) _;cases hp:p.Te with
    |some q=>rw[u9 hp,ig (FD hb hp)];exact⟨_,.inl rfl⟩
    |none=>
     have z:=Kx (n:=n) (b:=b) (u:=u) (v:=v) (i:=k) hb hp;cases hq:fN p c.toNat with
     |none=>rw[hq] at z;rw[ig z];exact⟨_,.inl rfl⟩
     |some q=>rw[hq] at z;rw[cC z];exact ty n b l _ _ _ _
   ·rw[(gR hb).1,(gR hb).2,ig (Fo hb)];exact⟨_,_,rfl⟩
noncomputable def Sc(x:Option (PS×Nat)):AV:=match x with
 |none=> .none
 |some (p,i)=> .tup [.Tl HV (Oi p),.int i]
theorem iW(n)(hb:b.length<=900)(σ):call (n+1) 1174 [.bytes b] σ=some (.ok (Sc (dT b p0 0)),σ):=by
 have hl:=ty n b b p0 0 none none;have hf:bf (aU n) aS (.fr .enum 0 [.var 0] BO Bt) (kf b p0 none none)=dk (stepI (aU n) aS BO Bt) ((b.zipIdx 0).map fun(c,i)=> .tup [.int i,.int c.toNat]) (kf b p0 none none):=
  rZ (vs:=[.bytes b]) rfl rfl
 cases hs:dT b p0 0 with
 |none=>
  rw[hs] at hl;obtain⟨s,e|e⟩:=hl
  ·exact xA [.f (.ok (.ret .none)) s] #[hf.trans e] ⋯ σ rfl rfl
  ·exact xA [.f (.ok .next) s] #[hf.trans e] ⋯ σ rfl rfl
 |some y=>
  obtain⟨q,j⟩:=y;rw[hs] at hl;obtain⟨u,v,e⟩:=hl;exact xA [.f (.ok (.ret (.tup [.ref 1,.int j]))) (kf b q u v)] #[hf.trans e] ⋯ σ rfl rfl
noncomputable def dI:AV:= .lst [.str "add",.str "or",.str "adc",.str "sbb",.str "and",.str "sub",.str "xor",.str "cmp"]
noncomputable def foldQ:Option (Res AV×aX):=(gT [] .split1 (.str "add or adc sbb and sub xor cmp") [.str " "]).map λp=>(Res.ok p.1,p.2)
theorem dK:foldQ=some (.ok dI,[]):=⋯
noncomputable def L3:Sh->List Str
 | .mr=>["rm","reg"]
 | .rm=>["reg","rm"]
 | .m=>["rm"]
 | .mi=>["rm","imm"]
 | .ms=>["rm","short"]
 | .ai=>["acc","imm"]
noncomputable def pW(t:Sh):AV:= .lst ((L3 t).map .str)
noncomputable def db:Option (Nat×Sh)->AV
 |none=> .none
 |some (j,t)=> .tup [.str (cX j),pW t]
noncomputable def hU(d0 d1 k:Nat):Bool:=([(d0:Int),(d1:Int)]:List Int).any (· ==(k:Int))
noncomputable def Ny(c:Nat):Sh:=match c % 8/2 with
 |0=> .mr
 |1=> .rm
 |_=> .ai
noncomputable def ya(c:Nat):Sh:=cond (Nat.beq c 131) .ms .mi
noncomputable def isA(c:Nat):Bool:=Nat.blt c 64&&Nat.blt (c % 8) 6
noncomputable def JA:List Nat:=(List.range 64).filter isA
noncomputable def mU:List Nat:=[128,129,131]
noncomputable def Oy:List Nat:=(List.range 256).filter λc=> !(isA c)&& !([128,129,131,132,133,168,169,246,247,254,255].any (Nat.beq c))
noncomputable def zY:Option Nat->Option (Nat×Sh)
 |some 0=>some (0,.mi)
 |some 2=>some (3,.m)
 |some 3=>some (4,.m)
 |_=>none
noncomputable def zR:Option Nat->Option (Nat×Sh)
 |some 0=>some (1,.m)
 |some 1=>some (2,.m)
 |_=>none
noncomputable def AR(c:Nat)(g:Option Nat):Option (Nat×Sh):=match c with
 |132|133=>some (0,.mr)
 |168|169=>some (0,.ai)
 |246|247=>zY g
 |254|255=>zR g
 |_=>none
noncomputable def dM(c:Nat)(g:Option Nat)(d0 d1:Nat):Option (Nat×Sh):=
 cond (isA c) (cond (hU d0 d1 (c/8)) (some (5+c/8,Ny c)) none)
 (cond (mU.any (Nat.beq c)) (g.elim none λd=>cond (hU d0 d1 d) (some (5+d,ya c)) none)
 (AR c g))
noncomputable def gL:List (Option Nat):=[none,some 0,some 1,some 2,some 3,some 4,some 5,some 6,some 7]
theorem B0{g}(h: ∀d,g=some d->d<8):g∈gL:=by
 cases g with
 |none=>exact .head _
 |some d=>exact .tail _ (List.mem_map.mpr ⟨d,(List.mem_range (n:=8)).mpr (h d rfl),rfl⟩:some d∈(List.range 8).map some)
noncomputable abbrev wH(n c:Nat)(g:Option Nat)(d0 d1:Nat)(a:List gu):Option (Option (Res AV×aX)×List Prop):=Rh n 1181 [.int c,.int (f9 g),.lst [.int d0,.int d1]] (.k dI []::a)
noncomputable abbrev w5(x:Option (Nat×Sh))(o:List Prop):Option (Option (Res AV×aX)×List Prop):=some (some (.ok (db x),[]),o)
theorem xM(x):flat (db x)=true:=by
 cases x with
 |none=>rfl
 |some y=>obtain⟨j,t⟩:=y;cases t<;>rfl
noncomputable def aN(k:Nat):List gu:=List.replicate k .a
section
variable {n c d0 d1:Nat} {g:Option Nat}
theorem gG(k:All o)(h:wH n c g d0 d1 a=w5 x o)(σ):call (n+1) 1181 [.int c,.int (f9 g),.lst [.int d0,.int d1]] σ=some (.ok (db x),σ):=
 xA _ k h σ rfl (xM x)
theorem PX(hc:c∈JA)(σ):call (n+1) 1181 [.int c,.int (f9 g),.lst [.int d0,.int d1]] σ=some (.ok (db (cond (hU d0 d1 (c/8)) (some (5+c/8,Ny c)) none)),σ):=by
 cases h:hU d0 d1 (c/8) with
 |true=>exact gG #[ac some h,dK] (aA (f:=λc=>wH n c g d0 d1 [.a,.a,.a,.b true,.a]) (g:=λc=>w5 (some (5+c/8,Ny c)) [some (hU d0 d1 (c/8))=some true,foldQ=some (.ok dI,[])]) (l:=JA) ⋯ hc) σ
 |false=>exact gG #[ac some h,dK] (aA (f:=λc=>wH n c g d0 d1 [.a,.a,.a,.b false]) (g:=λc=>w5 none [some (hU d0 d1 (c/8))=some false,foldQ=some (.ok dI,[])]) (l:=JA) ⋯ hc) σ
theorem iI{α β:Type}{l:List α}{f g:α->β}(h:l.foldr (λa r=>f a::r) []=l.map g){a:α}(ha:a∈l):f a=g a:=by
 refine aA (l:=l) (Eq.trans ?_ h) ha;clear h ha
 induction l with
 |nil=>rfl
 |cons x l ih=>rw[List.map_cons,ih];rfl
theorem Qn(hc:c∈mU){d}(hd:d<8)(σ):call (n+1) 1181 [.int c,.int (f9 (some d)),.lst [.int d0,.int d1]] σ=some (.ok (db (cond (hU d0 d1 d) (some (5+d,ya c)) none)),σ):=by
 have hm:=(List.mem_range (n:=8)).mpr hd;cases h:hU d0 d1 d with
 |true=>exact gG (g:=some d) #[ac some h,dK] (aA (f:=λc=>wH n c (some d) d0 d1 [.a,.a,.b true,.a,.a]) (g:=λc=>w5 (some (5+d,ya c)) [some (hU d0 d1 d)=some true,foldQ=some (.ok dI,[])]) (l:=mU)
   (iI (f:=λd=>mU.map λc=>wH n c (some d) d0 d1 [.a,.a,.b true,.a,.a]) (g:=λd=>mU.map λc=>w5 (some (5+d,ya c)) [some (hU d0 d1 d)=some true,foldQ=some (.ok dI,[])]) (l:=List.range 8) ⋯ hm) hc) σ
 |false=>exact gG (g:=some d) #[ac some h,dK] (aA (f:=λc=>wH n c (some d) d0 d1 [.a,.a,.b false]) (g:=λc=>w5 none [some (hU d0 d1 d)=some false,foldQ=some (.ok dI,[])]) (l:=mU)
   (iI (f:=λd=>mU.map λc=>wH n c (some d) d0 d1 [.a,.a,.b false]) (g:=λd=>mU.map λc=>w5 none [some (hU d0 d1 d)=some false,foldQ=some (.ok dI,[])]) (l:=List.range 8) ⋯ hm) hc) σ
theorem QA(hc:c∈Oy)(σ):call (n+1) 1181 [.int c,.int (f9 g),.lst [.int d0,.int d1]] σ=some (.ok .none,σ):=
 gG (x:=none) #[dK] (aA (f:=λc=>wH n c g d0 d1 (aN (cond (Nat.blt c 64) 7 6))) (g:=λc=>w5 none [foldQ=some (.ok dI,[])]) (l:=Oy) ⋯ hc) σ
theorem LU(hc:c∈ [246,247])(hg:g∈gL)(σ):call (n+1) 1181 [.int c,.int (f9 g),.lst [.int d0,.int d1]] σ=some (.ok (db (zY g)),σ):=
 gG #[dK] (aA (f:=λc=>wH n c g d0 d1 (aN (cond (zY g).isSome 8 7))) (g:=λc=>w5 (zY g) [foldQ=some (.ok dI,[])]) (l:=[246,247])
  (aA (f:=λg=>[246,247].map λc=>wH n c g d0 d1 (aN (cond (zY g).isSome 8 7))) (g:=λg=>[246,247].map λc=>w5 (zY g) [foldQ=some (.ok dI,[])]) (l:=gL) ⋯ hg) hc) σ
theorem LR(hc:c∈ [254,255])(hg:g∈gL)(σ):call (n+1) 1181 [.int c,.int (f9 g),.lst [.int d0,.int d1]] σ=some (.ok (db (zR g)),σ):=
 gG #[dK] (aA (f:=λc=>wH n c g d0 d1 (aN (cond (zR g).isSome 8 7))) (g:=λc=>w5 (zR g) [foldQ=some (.ok dI,[])]) (l:=[254,255])
  (aA (f:=λg=>[254,255].map λc=>wH n c g d0 d1 (aN (cond (zR g).isSome 8 7))) (g:=λg=>[254,255].map λc=>w5 (zR g) [foldQ=some (.ok dI,[])]) (l:=gL) ⋯ hg) hc) σ
theorem My(hc:c∈ [132,133])(σ):call (n+1) 1181 [.int c,.int (f9 g),.lst [.int d0,.int d1]] σ=some (.ok (db (some (0,.mr))),σ):=
 gG #[dK] (aA (f:=λc=>wH n c g d0 d1 (aN 3)) (g:=λc=>w5 (some (0,.mr)) [foldQ=some (.ok dI,[])]) (l:=[132,133]) ⋯ hc) σ
theorem Na(hc:c∈ [168,169])(σ):call (n+1) 1181 [.int c,.int (f9 g),.lst [.int d0,.int d1]] σ=some (.ok (db (some (0,.ai))),σ):=
 gG #[dK] (aA (f:=λc=>wH n c g d0 d1 (aN 4)) (g:=λc=>w5 (some (0,.ai)) [foldQ=some (.ok dI,[])]) (l:=[168,169]) ⋯ hc) σ
theorem Ka(d0 d1:Nat):([(d0:Int),(d1:Int)]:List Int).any (· == -1)=false:=rfl
theorem M1(hc:c∈mU)(σ):call (n+1) 1181 [.int c,.int (f9 none),.lst [.int d0,.int d1]] σ=some (.ok .none,σ):=
 gG (g:=none) (x:=none) #[ac some (Ka d0 d1),dK] (aA (f:=λc=>wH n c none d0 d1 [.a,.a,.b false]) (g:=λc=>w5 none [some (([(d0:Int),(d1:Int)]:List Int).any (· == -1))=some false,foldQ=some (.ok dI,[])]) (l:=mU) ⋯ hc) σ
theorem gy{l:List Nat}{c:Nat}(h:l.any (Nat.beq c)=true):c∈l:=by
 obtain⟨x,hx,e⟩:=List.any_eq_true.mp h;exact eS e▸hx
theorem uA(hc:c<256)(hg: ∀d,g=some d->d<8)(σ):call (n+1) 1181 [.int c,.int (f9 g),.lst [.int d0,.int d1]] σ=some (.ok (db (dM c g d0 d1)),σ):=by
 unfold dM;cases hA:isA c with
 |true=>
  have h64:c<64:=by
   have z:=(bG hA).1;rw[bP] at z;exact aT z
  exact PX (List.mem_filter.mpr ⟨List.mem_range.mpr h64,hA⟩) σ
 |false=>
  cases hB:mU.any (Nat.beq c) with
  |true=>
   cases g with
   |none=>exact M1 (gy hB) σ
   |some d=>exact Qn (gy hB) (hg d rfl) σ
  |false=>
   cases h1:[132,133].any (Nat.beq c) with
   |true=>rcases cW (gy h1) with rfl|h;exact My (.head _) σ;cases dt h;exact My (.tail _ (.head _)) σ
   |false=>cases h2:[168,169].any (Nat.beq c) with
    |true=>rcases cW (gy h2) with rfl|h;exact Na (.head _) σ;cases dt h;exact Na (.tail _ (.head _)) σ
    |false=>cases h3:[246,247].any (Nat.beq c) with
     |true=>rcases cW (gy h3) with rfl|h;exact LU (.head _) (B0 hg) σ;cases dt h;exact LU (.tail _ (.head _)) (B0 hg) σ
     |false=>cases h4:[254,255].any (Nat.beq c) with
      |true=>rcases cW (gy h4) with rfl|h;exact LR (.head _) (B0 hg) σ;cases dt h;exact LR (.tail _ (.head _)) (B0 hg) σ
      |false=>
       have hR:c∈Oy:=List.mem_filter.mpr ⟨List.mem_range.mpr hc,by
        rw[hA];have e:[128,129,131,132,133,168,169,246,247,254,255].any (Nat.beq c)=(mU.any (Nat.beq c)||([132,133].any (Nat.beq c)||([168,169].any (Nat.beq c)||([246,247].any (Nat.beq c)|| [254,255].any (Nat.beq c))))):=by
         unfold mU;rw[<-List.any_append,<-List.any_append,<-List.any_append,<-List.any_append];rfl
        rw[e,hB,h1,h2,h3,h4];rfl⟩
       show _=some (Res.ok (db (AR c g)),σ);rw[show AR c g=none from aA (f:=λc=>AR c g) (g:=λ_=>none) (l:=Oy) ⋯ hR];exact QA hR σ
end
theorem N2(c k:Nat):Int.fdiv (c:Int) (k:Int)=((c/k:Nat):Int):=(Int.ofNat_fdiv c k).symm
theorem Hw(c k:Nat):Int.fmod (c:Int) (k:Int)=((c % k:Nat):Int):=(Int.ofNat_fmod c k).symm
theorem zW(b:List UInt8):worth b true=sgn b:=if_pos rfl
noncomputable def SA:List IS:=be.drop 4
noncomputable def KQ(B I:Str)(k:Nat)(d z:Int)(g:Str)(e:Nat):AV:= .tup [.tup [.str "mem",.str B,.str I,.int k,.int d,.int z,.str g,.str ""],.int e]
noncomputable def DD(b:List UInt8)(j:Nat)(x y:Option AV)(z:Int)(g:Str)(l6 l7:Option AV)(B I:Str)(k w:Nat)(Tt TY TZ:Option AV)(σ:aX):St:=⟨[some (.bytes b),some (.int j),x,y,some (.int z),some (.str g),l6,l7,some (.str B),some (.str I),some (.int k),some (.int w),Tt,TY,TZ,none],σ⟩
section
variable {n j k w:Nat} {b:List UInt8} {x y l6 l7 Tt TY TZ:Option AV} {z:Int} {g B I:Str} {σ:aX}
noncomputable def pV(b:List UInt8)(j w:Nat)(f:Int->AV):AV:=cond (Nat.blt b.length (j+w)&&Nat.blt 0 w) .none (f (sgn ((b.drop j).take w)))
theorem Er(hb:b.length<=1000)(hw:w<=4): ∃r s',ae (aU (n+1)) aI SA (DD b j x y z g l6 l7 B I k w Tt TY TZ σ)=some (r,s')/\je false r [] s'.S9=some (.ok (pV b j w λd=>KQ B I k d z g (j+w)),[]):=by
 have e:=gY b j w;have hl:=oY b j w;rw[<-e] at hl;have q0:(cf b (some (j:Int)) (some ((j:Int)+(w:Int)))).length<=1000:=by rw[hl];omega
 have o1:b.length<=100000:=by omega
 unfold pV;cases h:(Nat.blt b.length (j+w)&&Nat.blt 0 w) with
 |true=>
  obtain⟨h1,h2⟩:=bG h;rw[bP] at h1 h2;have h1:=aT h1;have h2:=aT h2;exact⟨.ok (.ret .none),⟨[some (.bytes b),some (.int j),x,y,some (.int z),some (.str g),l6,l7,some (.str B),some (.str I),some (.int k),some (.int w),Tt,TY,TZ,some (.bytes (cf b (some (j:Int)) (some ((j:Int)+(w:Int)))))],σ⟩,
   aY [.v (.int (cf b (some (j:Int)) (some ((j:Int)+(w:Int)))).length),.b true] #[(qT (p:=((cf b (some (j:Int)) (some ((j:Int)+(w:Int)))).length:Int)<w) (by rw[hl];omega)),(show cL σ .len [.bytes (cf b (some (j:Int)) (some ((j:Int)+(w:Int))))]=_ from eY q0),o1] ⋯,(dc (v:= .none) rfl σ:td .none 0 σ=some (.ok .none,[]))⟩
 |false=>
  have h1: ¬(b.length<j+w/\0<w):=λz=>by
   rw[bP,bP,bU z.1,bU z.2] at h;cases h
  have hw2:=lR n (b:=(b.drop j).take w) (by rw[List.length_take];omega) true σ;rw[zW,<-e] at hw2;exact⟨.ok (.ret (KQ B I k (sgn ((b.drop j).take w)) z g (j+w))),⟨[some (.bytes b),some (.int j),x,y,some (.int z),some (.str g),l6,l7,some (.str B),some (.str I),some (.int k),some (.int w),Tt,TY,TZ,some (.bytes (cf b (some (j:Int)) (some ((j:Int)+(w:Int)))))],σ⟩,
   aY [.v (.int (cf b (some (j:Int)) (some ((j:Int)+(w:Int)))).length),.b false,.k (.int (sgn (cf b (some (j:Int)) (some ((j:Int)+(w:Int)))))) σ] #[hw2,(qF (p:=((cf b (some (j:Int)) (some ((j:Int)+(w:Int)))).length:Int)<w) (by rw[hl];omega)),(show cL σ .len [.bytes (cf b (some (j:Int)) (some ((j:Int)+(w:Int))))]=_ from eY q0),o1] (by rw[<-e];kernel_rfl),(dc (v:=KQ B I k (sgn ((b.drop j).take w)) z g (j+w)) rfl σ:td _ 0 σ=some (.ok _,[]))⟩
noncomputable def hJ(m:Nat):Nat:=match m with
 |0=>0
 |1=>1
 |_=>4
noncomputable def fT:aX:=[.lst [.int 0,.int 1,.int 4]]
noncomputable abbrev PQ(b:List UInt8)(i:Nat)(x bb:Bool)(z:Int)(g:Str):St:=⟨[some (.bytes b),some (.int i),some (.int (bi x)),some (.int (bi bb)),some (.int z),some (.str g),none,none,none,none,none,none,none,none,none,none],[]⟩
noncomputable abbrev ME(b:List UInt8)(i:Nat)(x bb:Bool)(z:Int)(g:Str)(m r:Nat):St:=⟨[some (.bytes b),some (.int i),some (.int (bi x)),some (.int (bi bb)),some (.int z),some (.str g),some (.int m),some (.int r),none,none,none,none,none,none,none,none],[]⟩
noncomputable abbrev DL(b:List UInt8)(i:Nat)(x bb:Bool)(z:Int)(g:Str)(m r:Nat):St:=⟨[some (.bytes b),some (.int (i+1:Nat)),some (.int (bi x)),some (.int (bi bb)),some (.int z),some (.str g),some (.int m),some (.int r),some (.str (bt (r+8*bi bb) .Tv true)),some (.str ""),some (.int 1),some (.int (hJ m)),none,none,none,none],fT⟩
theorem M3{i:Nat}{c:UInt8}{x bb:Bool}(hb:b.length<=1000)(hc:b[i]?=some c):ae (aU (n+4)) aI (be.take 1) (PQ b i x bb z g)=some (.ok .next,ME b i x bb z g (c.toNat/64) (c.toNat % 8)):=by
 have e1:ME b i x bb z g (c.toNat/64) (c.toNat % 8)=⟨[some (.bytes b),some (.int i),some (.int (bi x)),some (.int (bi bb)),some (.int z),some (.str g),some (.int ((c.toNat:Int).fdiv 64)),some (.int ((c.toNat:Int).fmod 8)),none,none,none,none,none,none,none,none],[]⟩:=by
  rw[show(c.toNat:Int).fdiv 64=((c.toNat/64:Nat):Int) from N2 _ 64,show(c.toNat:Int).fmod 8=((c.toNat % 8:Nat):Int) from Hw _ 8]
 rw[e1];exact aY [.i c.toNat,.i c.toNat] #[fL hb hc,fL hb hc] ⋯
theorem NR{i m r:Nat}{x bb:Bool}(hm:m<3)(hr:r<8):ae (aU (n+4)) aI ((be.drop 1).take 2) (ME b i x bb z g m r)=some (.ok .next,DL b i x bb z g m r):=by
 have h1:=cn (n+3) (gM hr bb) .Tv true [];have h2:dZ fT (.ref 0) (.int m)=some (.int (hJ m)):=iI (f:=fun(m:Nat)=>dZ fT (.ref 0) (.int m)) (g:=λm=>some (.int (hJ m))) (l:=[0,1,2]) ⋯ ((List.mem_range (n:=3)).mpr hm);exact aY [.k (.str (bt (r+8*bi bb) .Tv true)) [],.i (hJ m)] #[h2,h1,aQ bb] ⋯
noncomputable def Qw:List IS:=(be.drop 3).take 1
theorem Kl{i m r:Nat}{x bb:Bool}(h4:Nat.beq r 4=false):ae (aU (n+4)) aI Qw (DL b i x bb z g m r)=some (.ok .next,DD b (i+1) (some (.int (bi x))) (some (.int (bi bb))) z g (some (.int m)) (some (.int r)) (cond (Nat.beq m 0&&Nat.beq r 5) "rip" (bt (r+8*bi bb) .Tv true)) "" 1 (cond (Nat.beq m 0&&Nat.beq r 5) 4 (hJ m)) none none none fT):=by
 cases h5:Nat.beq r 5 with
 |false=>
  rw[Bool.and_false];exact aY [.b false,.b false] #[bE (a:=r) (b:=5) h5,bE (a:=r) (b:=4) h4] ⋯
 |true=>cases h0:Nat.beq m 0 with
  |false=>exact aY [.b false,.b true,.b false] #[bE (a:=m) (b:=0) h0,bE (a:=r) (b:=5) h5,bE (a:=r) (b:=4) h4] ⋯
  |true=>exact aY [.b false,.b true,.b true] #[bE (a:=m) (b:=0) h0,bE (a:=r) (b:=5) h5,bE (a:=r) (b:=4) h4] ⋯
noncomputable def LV:IS->IE
 | .Td t _ _=>t
 |_=> .k .none
noncomputable def Pn:IS->List IS
 | .Td _ a _=>a
 |_=>[]
theorem CH(h:cg T gl t (aw T gl t) s=some (.ok true,s)):bf T gl (.Td t a c) s=ae T gl a s:=ac (ao · λb s=>cond b (ae T gl a s) (ae T gl c s)) h
noncomputable abbrev OX(b:List UInt8)(i:Nat)(x bb:Bool)(z:Int)(g:Str)(m:Nat)(B:Str)(h u o:Nat):St:=⟨[some (.bytes b),some (.int (i+1:Nat)),some (.int (bi x)),some (.int (bi bb)),some (.int z),some (.str g),some (.int m),some (.int 4),some (.str B),some (.str ""),some (.int 1),some (.int (hJ m)),some (.int h),some (.int u),some (.int o),none],fT⟩
noncomputable def zd:List IS:=Pn (be.getD 3 .pass)
theorem PD{i m:Nat}{s:UInt8}{x bb:Bool}(hb:b.length<=1000)(hs:b[i+1]?=some s):ae (aU (n+4)) aI (zd.take 2) (DL b i x bb z g m 4)=some (.ok .next,OX b i x bb z g m (bt (4+8*bi bb) .Tv true) (s.toNat/64) (s.toNat/8 % 8) (s.toNat % 8)):=by
 have e1:OX b i x bb z g m (bt (4+8*bi bb) .Tv true) (s.toNat/64) (s.toNat/8 % 8) (s.toNat % 8)=⟨[some (.bytes b),some (.int (i+1:Nat)),some (.int (bi x)),some (.int (bi bb)),some (.int z),some (.str g),some (.int m),some (.int 4),some (.str (bt (4+8*bi bb) .Tv true)),some (.str ""),some (.int 1),some (.int (hJ m)),some (.int ((s.toNat:Int).fdiv 64)),some (.int (((s.toNat:Int).fdiv 8).fmod 8)),some (.int ((s.toNat:Int).fmod 8)),none],fT⟩:=by
  rw[show(s.toNat:Int).fdiv 64=((s.toNat/64:Nat):Int) from N2 _ 64,show(s.toNat:Int).fdiv 8=((s.toNat/8:Nat):Int) from N2 _ 8,show((s.toNat/8:Nat):Int).fmod 8=((s.toNat/8 % 8:Nat):Int) from Hw _ 8,show(s.toNat:Int).fmod 8=((s.toNat % 8:Nat):Int) from Hw _ 8]
 rw[e1];have q: ∀σ,dZ σ (.bytes b) (.int ((i+1:Nat):Int))=some (.int s.toNat):=λσ=>fL hb hs;exact aY [.i b.length,.b false,.i s.toNat,.i s.toNat,.i s.toNat] #[q fT,q fT,q fT,(qF (p:=(b.length:Int)<=((i+1:Nat):Int)) (by have:=jU hs;omega)),(show cL fT .len [.bytes b]=_ from eY hb)] ⋯
theorem QC{i m h u o:Nat}{x bb:Bool}{B:Str}(ho:o<8):ae (aU (n+4)) aI ((zd.drop 2).take 1) (OX b i x bb z g m B h u o)=some (.ok .next,DD b (i+2) (some (.int (bi x))) (some (.int (bi bb))) z g (some (.int m)) (some (.int 4)) (bt (o+8*bi bb) .Tv true) "" 1 (hJ m) (some (.int h)) (some (.int u)) (some (.int o)) fT):=by
 have h1:=cn (n+3) (gM ho bb) .Tv true fT;exact aY [.k (.str (bt (o+8*bi bb) .Tv true)) fT] #[h1,aQ bb] ⋯
noncomputable abbrev Ry(b:List UInt8)(j:Nat)(x y:Option AV)(z:Int)(g:Str)(l6 l7:Option AV)(B I:Str)(q:Int)(w:Nat)(Tt TY TZ:Option AV)(σ:aX):St:=⟨[some (.bytes b),some (.int j),x,y,some (.int z),some (.str g),l6,l7,some (.str B),some (.str I),some (.int q),some (.int w),Tt,TY,TZ,none],σ⟩
theorem SO(h:Nat):(2:Int)^ (h:Int).toNat=((2 ^ h:Nat):Int):=(Int.natCast_pow 2 h).symm
theorem CU{r:Out Fl}{j h w:Nat}{x y l6 l7 Tt TY TZ:Option AV}{B I:Str}{σ:aX}(e:r=some (.ok .next,Ry b j x y z g l6 l7 B I (2 ^ (h:Int).toNat) w Tt TY TZ σ)):r=some (.ok .next,DD b j x y z g l6 l7 B I (2 ^ h) w Tt TY TZ σ):=e.trans (ac (λq=>some (Res.ok Fl.next,Ry b j x y z g l6 l7 B I q w Tt TY TZ σ)) (SO h))
theorem PK{i m h u o:Nat}{x bb:Bool}{B:Str}(hu:u<8)(hh:h<4):ae (aU (n+4)) aI ((zd.drop 3).take 1) (DD b (i+2) (some (.int (bi x))) (some (.int (bi bb))) z g (some (.int m)) (some (.int 4)) B "" 1 (hJ m) (some (.int h)) (some (.int u)) (some (.int o)) fT)=
  some (.ok .next,DD b (i+2) (some (.int (bi x))) (some (.int (bi bb))) z g (some (.int m)) (some (.int 4)) B (cond (Nat.beq u 4&& !x) "" (bt (u+8*bi x) .Tv true)) (cond (Nat.beq u 4&& !x) 1 (2 ^ h)) (hJ m) (some (.int h)) (some (.int u)) (some (.int o)) fT):=by
 have h1:=cn (n+3) (gM hu x) .Tv true fT;have hp:=fw (a:=2) (k:=h) ∅ (bz (Nat.le_of_lt hh) ∅);cases h4:Nat.beq u 4 with
 |false=>exact CU (aY [.b true,.k (.str (bt (u+8*bi x) .Tv true)) fT] #[hp,h1,aQ x,gx (a:=u) (b:=4) h4] ⋯)
 |true=>cases x with
  |false=>exact aY [.b false,.a] #[gx (a:=u) (b:=4) h4] ⋯
  |true=>exact CU (aY [.b false,.a,.k (.str (bt (u+8*bi true) .Tv true)) fT] #[hp,h1,aQ true,gx (a:=u) (b:=4) h4] ⋯)
theorem Pm{i m h u o:Nat}{x y:Option AV}{B I:Str}{k:Nat}:ae (aU (n+4)) aI (zd.drop 4) (DD b (i+2) x y z g (some (.int m)) (some (.int 4)) B I k (hJ m) (some (.int h)) (some (.int u)) (some (.int o)) fT)=
  some (.ok .next,DD b (i+2) x y z g (some (.int m)) (some (.int 4)) (cond (Nat.beq m 0&&Nat.beq o 5) "" B) I k (cond (Nat.beq m 0&&Nat.beq o 5) 4 (hJ m)) (some (.int h)) (some (.int u)) (some (.int o)) fT):=by
 cases h5:Nat.beq o 5 with
 |false=>
  rw[Bool.and_false];exact aY [.b false] #[bE (a:=o) (b:=5) h5] ⋯
 |true=>cases h0:Nat.beq m 0 with
  |false=>exact aY [.b true,.b false] #[bE (a:=m) (b:=0) h0,bE (a:=o) (b:=5) h5] ⋯
  |true=>exact aY [.b true,.b true] #[bE (a:=m) (b:=0) h0,bE (a:=o) (b:=5) h5] ⋯
end
noncomputable def wW(m:MR)(x bb:Bool)(z:Int)(g:Str):Op:=cond (Nat.beq (m.o % 8) 4) (KP (m.o/64) (m.Ti.getD 0) x bb m.Tj z g) (Lw (m.o/64) (m.o % 8) bb m.Tj z g)
noncomputable def Ds(x:Option MR)(f:MR->Op):AV:=x.elim .none λm=> .tup [dN (f m),.int m.rest]
section
variable {n i:Nat} {b:List UInt8} {x bb:Bool} {z:Int} {g:Str}
theorem xg(h1:ae (aU (n+4)) aI (be.take 1) (PQ b i x bb z g)=some (.ok .next,s))(h2:ae (aU (n+4)) aI (be.drop 1) s=some (r,s'))(e:je false r [] s'.S9=some (.ok v,[]))(hv:flat v=true)(σ):
  call (n+5) 1202 [.bytes b,.int i,.int (bi x),.int (bi bb),.int z,.str g] σ=some (.ok v,σ):=
 yk (f:=1202) (np:=6) (nl:=16) (d:=[]) (gl:=aI) (body:=be.take 1++be.drop 1) (s0:=PQ b i x bb z g) ((aO h1).trans h2) ⋯ ⋯ e σ rfl hv
theorem Ml{m r j w k}{l6 l7 Tt TY TZ}{x' y'}{B I}(hb:b.length<=1000)(hw:w<=4)(h2:ae (aU (n+4)) aI ((be.drop 1).take 2) (ME b i x bb z g m r)=some (.ok .next,DL b i x bb z g m r))
  (h3:ae (aU (n+4)) aI Qw (DL b i x bb z g m r)=some (.ok .next,DD b j x' y' z g l6 l7 B I k w Tt TY TZ fT)): ∃r' s',ae (aU (n+4)) aI (be.drop 1) (ME b i x bb z g m r)=some (r',s')/\je false r' [] s'.S9=some (.ok (pV b j w λd=>KQ B I k d z g (j+w)),[]):=by
 obtain⟨r',s',h4,e⟩:=Er (n:=n+3) (b:=b) (j:=j) (w:=w) (x:=x') (y:=y') (z:=z) (g:=g) (l6:=l6) (l7:=l7) (B:=B) (I:=I) (k:=k) (Tt:=Tt) (TY:=TY) (TZ:=TZ) (σ:=fT) hb hw;exact⟨r',s',(aO h2).trans ((aO h3).trans h4),e⟩
theorem pD(h: ∀d,flat (f d)=true):flat (pV b j w f)=true:=by
 unfold pV;cases (Nat.blt b.length (j+w)&&Nat.blt 0 w)<;>first|rfl|exact h _
theorem vR{o j w:Nat}{Ti}{B I}{k:Nat}{f:MR->Op}(hj:j<=b.length)(hw:fS (o/64) (o % 8) Ti=w)(hf: ∀d w r,dN (f ⟨o,Ti,d,w,r⟩)= .tup [.str "mem",.str B,.str I,.int k,.int d,.int z,.str g,.str ""]):
  pV b j w (λd=>KQ B I k d z g (j+w))=Ds (dw b o Ti j) f:=by
 unfold pV dw;rw[hw];cases h:Nat.blt b.length (j+w) with
 |true=>
  have h2:Nat.blt 0 w=true:=by
   rw[bP] at h ⊢;have:=aT h;exact bU (by omega)
  rw[h2];rfl
 |false=>
  show KQ B I k _ z g (j+w)=AV.tup [dN (f ⟨o,Ti,_,w,j+w⟩),.int (j+w:Nat)];rw[hf];rfl
theorem HR(hm:m<3)(hr:r<8)(h4:Nat.beq r 4=false):fS m r none=cond (Nat.beq m 0&&Nat.beq r 5) 4 (hJ m):=by
 have z:=aA (f:=λr=>cond (Nat.beq r 4) true (Nat.beq (fS m r none) (cond (Nat.beq m 0&&Nat.beq r 5) 4 (hJ m)))) (g:=λ_=>true) (l:=List.range 8) (iI (f:=λm=>(List.range 8).map λr=>cond (Nat.beq r 4) true (Nat.beq (fS m r none) (cond (Nat.beq m 0&&Nat.beq r 5) 4 (hJ m)))) (g:=λm=>(List.range 8).map λ_=>true) (l:=List.range 3) ⋯ (List.mem_range.mpr hm)) (List.mem_range.mpr hr);rw[h4] at z;exact eS z
theorem w4(m)(c):cond c 4 (hJ m)<=4:=by
 cases c
 ·unfold hJ;rcases m with _|_|m
  ·exact Nat.zero_le 4
  ·exact(by decide:1<=4)
  ·exact Nat.le_refl 4
 ·exact Nat.le_refl 4
theorem qA(hb:b.length<=1000)(hc:b[i]?=some c)(hm:c.toNat/64<3)(h4:Nat.beq (c.toNat % 8) 4=false)(σ):call (n+5) 1202 [.bytes b,.int i,.int (bi x),.int (bi bb),.int z,.str g] σ=some (.ok (Ds (cA b i) λm=>wW m x bb z g),σ):=by
 have hr:c.toNat % 8<8:=Nat.mod_lt _ ∅;obtain⟨r',s',h2,e⟩:=Ml (n:=n) hb (w4 _ _) (NR (n:=n) (b:=b) (i:=i) (x:=x) (bb:=bb) (z:=z) (g:=g) hm hr) (Kl h4);have q:Ds (cA b i) (λm=>wW m x bb z g)=Ds (dw b c.toNat none (i+1)) (λm=>wW m x bb z g):=by
  unfold cA;rw[hc];show Ds (cond (bD c.toNat) _ _) _=_;unfold bD;rw[h4,Bool.and_false];rfl
 have p:=vR (b:=b) (o:=c.toNat) (j:=i+1) (Ti:=none) (z:=z) (g:=g) (B:=cond (Nat.beq (c.toNat/64) 0&&Nat.beq (c.toNat % 8) 5) "rip" (bt (c.toNat % 8+8*bi bb) .Tv true)) (I:= "") (k:=1) (f:=λm=>wW m x bb z g) (by have:=jU hc;assumption) (HR hm hr h4) (λd w r=>by
  show dN (wW ⟨c.toNat,none,d,w,r⟩ x bb z g)=_;unfold wW Lw;rw[h4];cases (Nat.beq (c.toNat/64) 0&&Nat.beq (c.toNat % 8) 5)<;>rfl)
 rw[q,<-p];exact xg (M3 hb hc) h2 e (pD λd=>rfl) σ
theorem EF(hb:b.length<=1000)(hs:b[i+1]?=some s):ae (aU (n+4)) aI Qw (DL b i x bb z g m 4)=some (.ok .next,DD b (i+2) (some (.int (bi x))) (some (.int (bi bb))) z g (some (.int m)) (some (.int 4))
  (cond (Nat.beq m 0&&Nat.beq (s.toNat % 8) 5) "" (bt (s.toNat % 8+8*bi bb) .Tv true)) (cond (Nat.beq (s.toNat/8 % 8) 4&& !x) "" (bt (s.toNat/8 % 8+8*bi x) .Tv true)) (cond (Nat.beq (s.toNat/8 % 8) 4&& !x) 1 (2 ^ (s.toNat/64))) (cond (Nat.beq m 0&&Nat.beq (s.toNat % 8) 5) 4 (hJ m))
  (some (.int (s.toNat/64:Nat))) (some (.int (s.toNat/8 % 8:Nat))) (some (.int (s.toNat % 8:Nat))) fT):=by
 have hh:s.toNat/64<4:=by have:=bV s;omega
 have e:ae (aU (n+4)) aI (zd.take 2++((zd.drop 2).take 1++((zd.drop 3).take 1++zd.drop 4))) (DL b i x bb z g m 4)=_:=
  (aO (PD hb hs)).trans ((aO (QC (Nat.mod_lt _ ∅))).trans ((aO (PK (Nat.mod_lt _ ∅) hh)).trans Pm))
 show ao (bf (aU (n+4)) aI (.Td (LV (be.getD 3 .pass)) zd _) _) _=_;rw[CH (by rfl),show zd=zd.take 2++((zd.drop 2).take 1++((zd.drop 3).take 1++zd.drop 4)) from rfl,e];rfl
theorem PI(hm:m<3):fS m 4 (some s)=cond (Nat.beq m 0&&Nat.beq (s % 8) 5) 4 (hJ m):=by
 rcases m with _|_|_|m
 ·show cond false 4 (cond (true&&Nat.beq (s % 8) 5) 4 0)=cond (true&&Nat.beq (s % 8) 5) 4 0;rfl
 ·rfl
 ·rfl
 ·omega
theorem KO(hb:b.length<=1000)(hs:b[i+1]?=none):ae (aU (n+4)) aI (be.drop 3) (DL b i x bb z g m 4)=some (.ok (.ret .none),DL b i x bb z g m 4):=
 aY [.b true,.i b.length,.b true] #[(qT (p:=(b.length:Int)<=((i+1:Nat):Int)) (by have:=List.getElem?_eq_none_iff.mp hs;omega)),(show cL fT .len [.bytes b]=_ from eY hb),(rfl:some true=some true)] ⋯
theorem rd(hb:b.length<=1000)(hc:b[i]?=some c)(hm:c.toNat/64<3)(σ):call (n+5) 1202 [.bytes b,.int i,.int (bi x),.int (bi bb),.int z,.str g] σ=some (.ok (Ds (cA b i) λm=>wW m x bb z g),σ):=by
 cases h4:Nat.beq (c.toNat % 8) 4 with
 |false=>exact qA hb hc hm h4 σ
 |true=>
  have e4:c.toNat % 8=4:=eS h4;have hn:bD c.toNat=true:=by
   unfold bD;rw[h4,At,decide_eq_false (by omega)];rfl
  have h1:=M3 (n:=n) (z:=z) (g:=g) (x:=x) (bb:=bb) hb hc;rw[e4] at h1;have h2:=NR (n:=n) (b:=b) (i:=i) (x:=x) (bb:=bb) (z:=z) (g:=g) hm (r:=4) ∅;have q:Ds (cA b i) (λm=>wW m x bb z g)=Ds ((b[i+1]?).elim none λs=>dw b c.toNat (some s.toNat) (i+2)) (λm=>wW m x bb z g):=by
   unfold cA;rw[hc];show Ds (cond (bD c.toNat) _ _) _=_;rw[hn];rfl
  rw[q];cases hs:b[i+1]? with
  |none=>exact xg h1 ((aO h2).trans (KO hb hs)) (dc (v:= .none) rfl _:td .none 0 _=some (.ok .none,[])) rfl σ
  |some s=>
   obtain⟨r',s',h3,e⟩:=Ml (n:=n) hb (w4 _ _) h2 (EF hb hs);have p:=vR (b:=b) (o:=c.toNat) (j:=i+2) (w:=cond (Nat.beq (c.toNat/64) 0&&Nat.beq (s.toNat % 8) 5) 4 (hJ (c.toNat/64))) (Ti:=some s.toNat) (z:=z) (g:=g) (B:=cond (Nat.beq (c.toNat/64) 0&&Nat.beq (s.toNat % 8) 5) "" (bt (s.toNat % 8+8*bi bb) .Tv true)) (I:=cond (Nat.beq (s.toNat/8 % 8) 4&& !x) "" (bt (s.toNat/8 % 8+8*bi x) .Tv true)) (k:=cond (Nat.beq (s.toNat/8 % 8) 4&& !x) 1 (2 ^ (s.toNat/64))) (f:=λm=>wW m x bb z g) (by have:=jU hs;assumption) (by rw[e4];exact PI hm) (λd w r=>by
    show dN (wW ⟨c.toNat,some s.toNat,d,w,r⟩ x bb z g)=_;unfold wW;rw[h4];show dN (KP (c.toNat/64) s.toNat x bb d z g)=_;unfold KP;cases (Nat.beq (c.toNat/64) 0&&Nat.beq (s.toNat % 8) 5)<;>cases (Nat.beq (s.toNat/8 % 8) 4&& !x)<;>rfl)
   rw[show(Option.elim (some s) none λs=>dw b c.toNat (some s.toNat) (i+2))=dw b c.toNat (some s.toNat) (i+2) from rfl,<-p];exact xg h1 h3 e (pD λd=>rfl) σ
end
noncomputable def cS:Sh->Bool
 | .ai=>false
 |_=>true
noncomputable def qj(p:PS):AV:= .lst [.bool p.Te.isSome,.int (bi (bR p.Te)),.int (bi (bX p.Te)),.int (bi (bB p.Te))]
noncomputable def tR(s:Str):AV:= .tup [.str "reg",.str s]
noncomputable def kL(y:Str):aX:=[.Tl ["acc"] [tR y]]
noncomputable def lc(y z:Str):aX:=[.Tl ["acc","reg"] [tR y,tR z]]
noncomputable def E3(y z:Str)(o:AV):aX:=[.Tl ["acc","reg","rm"] [tR y,tR z,o]]
noncomputable abbrev kr(b:List UInt8)(i:Nat)(t:Sh)(s:Sz)(p:PS)(e:Nat)(Tt:Option AV)(σ:aX):St:=⟨[some (.bytes b),some (.int i),some (pW t),some (.int s.i),some (qj p),some (.str p.seg.s),some (.bool p.Te.isSome),some (.int (bi (bR p.Te))),some (.int (bi (bX p.Te))),some (.int (bi (bB p.Te))),some (.ref 0),some (.int e),Tt,none,none],σ⟩
section
variable {n i:Nat} {b:List UInt8} {t:Sh} {s:Sz} {p:PS}
theorem Qa:ae (aU (n+6)) ak (az.take 2) ⟨[some (.bytes b),some (.int i),some (pW t),some (.int s.i),some (qj p),some (.str p.seg.s),none,none,none,none,none,none,none,none,none],[]⟩=some (.ok .next,kr b i t s p i none (kL (bt 0 s p.Te.isSome))):=
 aY [.k (.str (bt 0 s p.Te.isSome)) []] #[(cn (n+5) (i:=0) ∅ s p.Te.isSome [])] ⋯
theorem Nq(hb:b.length<=1000)(ht:cS t=true)(hc:b[i]?=none):ae (aU (n+6)) ak (az.drop 2) (kr b i t s p i none (kL (bt 0 s p.Te.isSome)))=some (.ok (.ret .none),kr b i t s p i none (kL (bt 0 s p.Te.isSome))):=by
 have h1:=qT (p:=(b.length:Int)<=i) (by have:=List.getElem?_eq_none_iff.mp hc;omega);cases t with
 |ai=>cases ht
 |_=>exact aY [.a,.i b.length,.b true] #[h1,(show cL (kL (bt 0 s p.Te.isSome)) .len [.bytes b]=_ from eY hb)] ⋯
noncomputable def Bx:List IS:=Pn (az.getD 2 .pass)
theorem Qe(hb:b.length<=1000)(hc:b[i]?=some c):ae (aU (n+6)) ak (Bx.take 3) (kr b i t s p i none (kL y))=
  some (.ok .next,kr b i t s p i (some (.tup [tR (bt (c.toNat % 8+8*bi (bB p.Te)) s p.Te.isSome),.int (i+1:Nat)])) (lc y (bt (c.toNat/8 % 8+8*bi (bR p.Te)) s p.Te.isSome))):=by
 have h1:=λσ=>cn (n+5) (gM (Nat.mod_lt (c.toNat/8) (by decide:8>0)) (bR p.Te)) s p.Te.isSome σ;have h2:=λσ=>cn (n+5) (gM (Nat.mod_lt c.toNat (by decide:8>0)) (bB p.Te)) s p.Te.isSome σ;have e1:((c.toNat:Int).fdiv 8).fmod 8+8*(bi (bR p.Te):Int)=((c.toNat/8 % 8+8*bi (bR p.Te):Nat):Int):=by
  rw[show(c.toNat:Int).fdiv 8=((c.toNat/8:Nat):Int) from N2 _ 8,show((c.toNat/8:Nat):Int).fmod 8=((c.toNat/8 % 8:Nat):Int) from Hw _ 8];rfl
 have e2:(c.toNat:Int).fmod 8+8*(bi (bB p.Te):Int)=((c.toNat % 8+8*bi (bB p.Te):Nat):Int):=by
  rw[show(c.toNat:Int).fmod 8=((c.toNat % 8:Nat):Int) from Hw _ 8];rfl
 rw[<-e1] at h1;rw[<-e2] at h2;have q: ∀σ,dZ σ (.bytes b) (.int (i:Int))=some (.int c.toNat):=λσ=>fL hb hc;exact aY [.i b.length,.b false,.i c.toNat,.k (.str (bt (c.toNat/8 % 8+8*bi (bR p.Te)) s p.Te.isSome)) (kL y),.i c.toNat,.k (.str (bt (c.toNat % 8+8*bi (bB p.Te)) s p.Te.isSome)) (lc y (bt (c.toNat/8 % 8+8*bi (bR p.Te)) s p.Te.isSome))] #[h2 (lc y (bt (c.toNat/8 % 8+8*bi (bR p.Te)) s p.Te.isSome)),aQ (bB p.Te),q (lc y (bt (c.toNat/8 % 8+8*bi (bR p.Te)) s p.Te.isSome)),h1 (kL y),aQ (bR p.Te),q (kL y),(qF (p:=(b.length:Int)<=i) (by have:=jU hc;omega)),(show cL (kL y) .len [.bytes b]=_ from eY hb)] ⋯
theorem Qc(hb:b.length<=1000)(hc:b[i]?=some c)(hm:c.toNat/64<3):ae (aU (n+6)) ak ((Bx.drop 3).take 1) (kr b i t s p i j (lc y z))=
  some (.ok .next,kr b i t s p i (some (Ds (cA b i) λm=>wW m (bX p.Te) (bB p.Te) s.i p.seg.s)) (lc y z)):=by
 have h:=rd (n:=n+1) (x:=bX p.Te) (bb:=bB p.Te) (z:=s.i) (g:=p.seg.s) hb hc hm (lc y z);exact aY [.i c.toNat,.b true,.k (Ds (cA b i) λm=>wW m (bX p.Te) (bB p.Te) s.i p.seg.s) (lc y z)] #[h,(qT (p:=(c.toNat:Int)<192) (by omega)),(show dZ (lc y z) (.bytes b) (.int (i:Int))=some (.int c.toNat) from fL hb hc)] ⋯
theorem Mb(hb:b.length<=1000)(hc:b[i]?=some c)(hm: ¬c.toNat/64<3):ae (aU (n+6)) ak ((Bx.drop 3).take 1) (kr b i t s p i j (lc y z))=some (.ok .next,kr b i t s p i j (lc y z)):=
 aY [.i c.toNat,.b false] #[(qF (p:=(c.toNat:Int)<192) (by omega)),(show dZ (lc y z) (.bytes b) (.int (i:Int))=some (.int c.toNat) from fL hb hc)] ⋯
theorem Mf{y z}{o}{e:Nat}:ae (aU (n+6)) ak (Bx.drop 4) (kr b i t s p i (some (.tup [o,.int e])) (lc y z))=some (.ok .next,kr b i t s p e (some (.tup [o,.int e])) (E3 y z o)):=
 aY [.a] .nil ⋯
theorem Nz:ae (aU (n+6)) ak (Bx.drop 4) (kr b i t s p i (some .none) (lc y z))=some (.ok (.ret .none),kr b i t s p i (some .none) (lc y z)):=
 aY [.a] .nil ⋯
end
noncomputable def xK(t:Sh)(s:Sz):Option K:=match t with
 | .mi=>some (.Tn s)
 | .ai=>some (.Tn s)
 | .ms=>some .s8
 |_=>none
noncomputable def OJ(t:Sh)(s:Sz):Bool:=match t with
 | .ms=>true
 |_=>(match s with| .Tv=>true|_=>false)
noncomputable abbrev J5(b:List UInt8)(i:Nat)(t:Sh)(s:Sz)(p:PS)(e:Nat)(Tt TY TZ:Option AV)(σ:aX):St:=⟨[some (.bytes b),some (.int i),some (pW t),some (.int s.i),some (qj p),some (.str p.seg.s),some (.bool p.Te.isSome),some (.int (bi (bR p.Te))),some (.int (bi (bX p.Te))),some (.int (bi (bB p.Te))),some (.ref 0),some (.int e),Tt,TY,TZ],σ⟩
noncomputable def wu:List IS:=Pn (az.getD 3 .pass)
noncomputable def JZ:IE:=LV (az.getD 3 .pass)
theorem ED(h:xK t s=some k)(x):uc k x=worth x (OJ t s):=by
 cases t<;>cases h<;>cases s<;>rfl
theorem ni: ∀{l1:List IS} {s s1:St},ae T gl l1 s=some (.ok (.ret v),s1)->ae T gl (l1++l2) s=some (.ok (.ret v),s1)
 | [],s,s1,h=>by cases h
 |e::l1,s,s1,h=>by
  change ao (bf T gl e s) _=_ at h;show ao (bf T gl e s) _=_;cases he:bf T gl e s with
  |none=>rw[he] at h;exact aB h
  |some p=>
   obtain⟨r,s2⟩:=p;rw[he] at h;cases r with
   |exc C=>cases h
   |ok f=>cases f with
    |next=>exact ni (l1:=l1) h
    |ret w=>cases h;rfl
    |cont=>cases h
theorem vl(h:bf T gl i s=some (.ok (.ret v),s1)):ae T gl (i::l) s=some (.ok (.ret v),s1):=by
 show ao (bf T gl i s) _=_;rw[h];rfl
theorem fj(h:bf T gl i s=some (.ok .next,s1)):ae T gl (i::l) s=ae T gl l s1:=by
 show ao (bf T gl i s) _=_;rw[h];rfl
section
variable {n i e:Nat} {b:List UInt8} {t:Sh} {s:Sz} {p:PS} {k:K} {Tt:Option AV} {σ:aX}
theorem EC(h:xK t s=none):ae (aU (n+6)) ak ((az.drop 3).take 1) (kr b i t s p e Tt σ)=some (.ok .next,kr b i t s p e Tt σ):=by
 cases t<;>cases h<;>kernel_rfl
theorem Qo(h:xK t s=some k):cg (aU (n+6)) ak JZ (aw (aU (n+6)) ak JZ) (kr b i t s p e Tt σ)=some (.ok true,kr b i t s p e Tt σ):=by
 cases t<;>cases h<;>kernel_rfl
theorem Nb(h:xK t s=some k):ae (aU (n+6)) ak (wu.take 1) (kr b i t s p e Tt σ)=some (.ok .next,J5 b i t s p e Tt (some (.int (eH k))) none σ):=by
 cases t<;>cases h<;>cases s<;>kernel_rfl
theorem OY{w:Nat}(hb:b.length<=1000):ae (aU (n+6)) ak ((wu.drop 1).take 2) (J5 b i t s p e Tt (some (.int w)) none σ)=
  some (cond (Nat.blt b.length (e+w)&&Nat.blt 0 w) (.ok (.ret .none)) (.ok .next),J5 b i t s p e Tt (some (.int w)) (some (.bytes ((b.drop e).take w))) σ):=by
 have q:=gY b e w;have hl:=oY b e w;rw[<-q] at hl ⊢;have q0:(cf b (some (e:Int)) (some ((e:Int)+(w:Int)))).length<=1000:=by rw[hl];omega
 have o1:b.length<=100000:=by omega
 cases h:(Nat.blt b.length (e+w)&&Nat.blt 0 w) with
 |true=>
  obtain⟨h1,h2⟩:=bG h;rw[bP] at h1 h2;have h1:=aT h1;have h2:=aT h2;exact aY [.v (.int (cf b (some (e:Int)) (some ((e:Int)+(w:Int)))).length),.b true] #[(qT (p:=((cf b (some (e:Int)) (some ((e:Int)+(w:Int)))).length:Int)<w) (by rw[hl];omega)),(show cL σ .len [.bytes (cf b (some (e:Int)) (some ((e:Int)+(w:Int))))]=_ from eY q0),o1] ⋯
 |false=>
  have h1: ¬(b.length<e+w/\0<w):=λz=>by
   rw[bP,bP,bU z.1,bU z.2] at h;cases h
  exact aY [.v (.int (cf b (some (e:Int)) (some ((e:Int)+(w:Int)))).length),.b false] #[(qF (p:=((cf b (some (e:Int)) (some ((e:Int)+(w:Int)))).length:Int)<w) (by rw[hl];omega)),(show cL σ .len [.bytes (cf b (some (e:Int)) (some ((e:Int)+(w:Int))))]=_ from eY q0),o1] ⋯
noncomputable def iT(w:Int):AV:= .tup [.str "imm",.int w,.str ""]
noncomputable def DJ(t:Sh)(y z:Str)(o:AV):aX:=match t with
 | .ai=>kL y
 |_=>E3 y z o
noncomputable def N8(t:Sh)(y z:Str)(o w:AV):aX:=match t with
 | .ai=>[.Tl ["acc","imm"] [tR y,w]]
 | .ms=>[.Tl ["acc","reg","rm","short"] [tR y,tR z,o,w]]
 | .mi=>[.Tl ["acc","reg","rm","imm"] [tR y,tR z,o,w]]
 |_=>E3 y z o
noncomputable def Hm(t:Sh)(y z:Str)(o w:AV):aV:=match t with
 | .ai=>[tR y,w]
 | .ms=>[o,w]
 | .mi=>[o,w]
 | .mr=>[o,tR z]
 | .rm=>[tR z,o]
 | .m=>[o]
theorem Pz{w:Nat}{y z}{o}(h:xK t s=some k)(hx:x.length<=7):
  ae (aU (n+6)) ak (wu.drop 3) (J5 b i t s p e Tt (some (.int w)) (some (.bytes x)) (DJ t y z o))=
  some (.ok .next,J5 b i t s p (e+w) Tt (some (.int w)) (some (.bytes x)) (N8 t y z o (iT (uc k x)))):=by
 rw[ED h];have hw:=lR (n+5) hx (OJ t s) (DJ t y z o);refine aY [.a,.a,.k (.int (worth x (OJ t s))) (DJ t y z o),.a] #[hw] (?_);cases t<;>cases h<;>cases s<;>kernel_rfl
theorem M2:ae (aU (n+6)) ak (az.drop 4) (J5 b i t s p e Tt TY TZ (N8 t y z o w))=
  some (.ok (.ret (.tup [.tup (Hm t y z o w),.int e])),J5 b i t s p e Tt TY TZ (N8 t y z o w)):=by
 cases t<;>kernel_rfl
noncomputable def MC(b:List UInt8)(e:Nat)(k:K)(f:AV->aV):AV:=cond (Nat.blt b.length (e+eH k)&&Nat.blt 0 (eH k)) .none (.tup [.tup (f (iT (uc k ((b.drop e).take (eH k))))),.int (e+eH k:Nat)])
noncomputable def Jg(b:List UInt8)(t:Sh)(s:Sz)(e:Nat)(f:AV->aV):AV:=match xK t s with
 |none=> .tup [.tup (f .none),.int e]
 |some k=>MC b e k f
theorem M0(hb:b.length<=1000): ∃s',ae (aU (n+6)) ak (az.drop 3) (kr b i t s p e Tt (DJ t y z o))=some (.ok (.ret (Jg b t s e (Hm t y z o))),s'):=by
 cases h:xK t s with
 |none=>
  have e1:DJ t y z o=N8 t y z o .none:=by cases t<;>first|rfl|cases h
  have e2:Jg b t s e (Hm t y z o)= .tup [.tup (Hm t y z o .none),.int e]:=by unfold Jg;rw[h]
  rw[e2];exact⟨_,(aO (l1:=(az.drop 3).take 1) (l2:=az.drop 4) (EC h)).trans (e1▸M2)⟩
 |some k=>
  have h6:=OY (n:=n) (i:=i) (t:=t) (s:=s) (p:=p) (e:=e) (Tt:=Tt) (σ:=DJ t y z o) (w:=eH k) hb;have hx:((b.drop e).take (eH k)).length<=7:=by
   have:eH k<=4:=aT (aA (f:=λk=>decide (eH k<=4)) (g:=λ_=>true) (l:=xr) ⋯ (Ae k));rw[List.length_take];omega
  have eX:Jg b t s e (Hm t y z o)=MC b e k (Hm t y z o):=by unfold Jg;rw[h]
  rw[eX];unfold MC;have go: ∀{r s'},ae (aU (n+6)) ak wu (kr b i t s p e Tt (DJ t y z o))=some (r,s')->bf (aU (n+6)) ak (.Td JZ wu []) (kr b i t s p e Tt (DJ t y z o))=some (r,s'):=λq=>(CH (Qo h)).trans q;cases q:(Nat.blt b.length (e+eH k)&&Nat.blt 0 (eH k)) with
  |true=>
   rw[q] at h6;have z:=go ((aO (l1:=wu.take 1) (l2:=(wu.drop 1).take 2++wu.drop 3) (Nb h)).trans (ni (l1:=(wu.drop 1).take 2) (l2:=wu.drop 3) h6));exact⟨_,vl (l:=az.drop 4) z⟩
  |false=>
   rw[q] at h6;have z:=go ((aO (l1:=wu.take 1) (l2:=(wu.drop 1).take 2++wu.drop 3) (Nb h)).trans ((aO (l1:=(wu.drop 1).take 2) (l2:=wu.drop 3) h6).trans (Pz h hx)));exact⟨_,(fj (l:=az.drop 4) z).trans M2⟩
end
noncomputable def eM(t:Sh)(s:Sz)(p:PS)(b:List UInt8)(i:Nat):Option (List Op×Nat):=cond (cS t) ((cA b i).elim none λm=>sZ t s p m m.rest b) (sZ t s p m0 i b)
noncomputable def BP(x:Option (List Op×Nat)):AV:=x.elim .none λy=> .tup [.tup (y.1.map dN),.int y.2]
theorem u5(x):flat (BP x)=true:=by
 cases x with
 |none=>rfl
 |some y=>exact dj (show flat (.tup (y.1.map dN))=true from bM qz y.1) rfl
section
variable {n i e:Nat} {b:List UInt8} {t:Sh} {s:Sz} {p:PS} {y:Str} {Tt:Option AV} {σ:aX}
theorem De(h: ∀w,f (iT w)=[dN g,iT w]):MC b e k f=BP (wO b e k g):=by
 unfold MC wO fld;cases (Nat.blt b.length (e+eH k)&&Nat.blt 0 (eH k)) with
 |true=>rfl
 |false=>
  rw[h];rfl
theorem Me(s)(r):tR (bt 0 s r)=dN (.reg 0 s true):=by cases s<;>cases r<;>rfl
theorem NB(ht:cS t=true)(m):Jg b t s e (Hm t y (bt (m.o/8 % 8+8*bi (bR p.Te)) s p.Te.isSome) (dN (wg p m s)))=BP (sZ t s p m e b):=by
 cases t with
 |ai=>cases ht
 |mr=>rfl
 |rm=>rfl
 |m=>rfl
 |mi=>exact De λw=>rfl
 |ms=>exact De λw=>rfl
theorem HL:Jg b .ai s e (Hm .ai (bt 0 s r) z o)=BP (sZ .ai s p m0 e b):=
 De λw=>by show[tR (bt 0 s r),iT w]=_;rw[Me]
theorem yQ(hc:b[i]?=some c)(h:cA b i=some m):m.o=c.toNat:=by
 unfold cA at h;rw[hc] at h;have fin: ∀{Ti k},dw b c.toNat Ti k=some m->m.o=c.toNat:=fun{Ti k} h=>by
  unfold dw at h;cases q:Nat.blt b.length (k+fS (c.toNat/64) (c.toNat % 8) Ti) with
  |true=>rw[q] at h;exact aB h
  |false=>rw[q] at h;cases h;rfl
 change cond (bD c.toNat) _ _=_ at h;cases q:bD c.toNat with
 |false=>rw[q] at h;exact fin h
 |true=>
  rw[q] at h;change (b[i+1]?).elim none _=_ at h;cases hs:b[i+1]? with
  |none=>rw[hs] at h;exact aB h
  |some s=>rw[hs] at h;exact fin h
theorem IW(hc:b[i]?=some c)(hm: ¬c.toNat/64<3): ∃m,cA b i=some m/\m.o=c.toNat/\m.rest=i+1:=by
 have h3:c.toNat/64=3:=by have:=bV c;omega
 have hn:bD c.toNat=false:=by unfold bD;rw[h3];rfl
 have hw:fS (c.toNat/64) (c.toNat % 8) none=0:=by rw[h3];rfl
 have e:cA b i=dw b c.toNat none (i+1):=by
  unfold cA;rw[hc];show cond (bD c.toNat) _ _=_;rw[hn];rfl
 have hl:Nat.blt b.length (i+1+0)=false:=by rw[bP];exact decide_eq_false (by have:=jU hc;omega)
 rw[e];unfold dw;rw[hw,hl];exact⟨_,rfl,rfl,rfl⟩
theorem Mh(ht:cS t=true):cg (aU (n+6)) ak (LV (az.getD 2 .pass)) (aw (aU (n+6)) ak (LV (az.getD 2 .pass))) (kr b i t s p e Tt σ)=some (.ok true,kr b i t s p e Tt σ):=by
 cases t<;>cases ht<;>kernel_rfl
theorem Lf:bf (aU (n+6)) ak (az.getD 2 .pass) (kr b i .ai s p e Tt σ)=some (.ok .next,kr b i .ai s p e Tt σ):=⋯
theorem Mr(hb:b.length<=1000)(hc:b[i]?=some c)(ht:cS t=true):
  (∃m l,cA b i=some m/\bf (aU (n+6)) ak (az.getD 2 .pass) (kr b i t s p i none (kL y))=some (.ok .next,kr b i t s p m.rest l (DJ t y (bt (m.o/8 % 8+8*bi (bR p.Te)) s p.Te.isSome) (dN (wg p m s)))))\/
  (cA b i=none/\ ∃s',bf (aU (n+6)) ak (az.getD 2 .pass) (kr b i t s p i none (kL y))=some (.ok (.ret .none),s')):=by
 have hT: ∀z o,DJ t y z o=E3 y z o:=λz o=>by cases t<;>first|rfl|cases ht
 have h2:=Qe (n:=n) (t:=t) (s:=s) (p:=p) (y:=y) hb hc;have go: ∀{r s'},ae (aU (n+6)) ak (Bx.take 3++((Bx.drop 3).take 1++Bx.drop 4)) (kr b i t s p i none (kL y))=some (r,s')->bf (aU (n+6)) ak (.Td (LV (az.getD 2 .pass)) (Bx.take 3++((Bx.drop 3).take 1++Bx.drop 4)) []) (kr b i t s p i none (kL y))=some (r,s'):=λq=>(CH (Mh ht)).trans q;by_cases hm:c.toNat/64<3
 ·have h3:=Qc (n:=n) (t:=t) (s:=s) (p:=p) (y:=y) (z:=bt (c.toNat/8 % 8+8*bi (bR p.Te)) s p.Te.isSome) (j:=some (.tup [tR (bt (c.toNat % 8+8*bi (bB p.Te)) s p.Te.isSome),.int (i+1:Nat)])) hb hc hm;cases hr:cA b i with
  |none=>
   rw[hr] at h3;exact .inr ⟨rfl,_,go ((aO h2).trans ((aO h3).trans Nz))⟩
  |some m=>
   have ho:=yQ hc hr;have e:dN (wW m (bX p.Te) (bB p.Te) s.i p.seg.s)=dN (wg p m s):=by
    unfold wg;rw[ho,bP,bU hm,<-ho];rfl
   rw[hr] at h3;rw[<-ho] at h2 h3;refine .inl ⟨m,some (.tup [dN (wg p m s),.int m.rest]),rfl,?_⟩;rw[hT,<-e];exact go ((aO h2).trans ((aO h3).trans Mf))
 ·have h3:=Mb (n:=n) (t:=t) (s:=s) (p:=p) (y:=y) (z:=bt (c.toNat/8 % 8+8*bi (bR p.Te)) s p.Te.isSome) (j:=some (.tup [tR (bt (c.toNat % 8+8*bi (bB p.Te)) s p.Te.isSome),.int (i+1:Nat)])) hb hc hm;obtain⟨m,hr,ho,hrest⟩:=IW hc hm;have e:tR (bt (m.o % 8+8*bi (bB p.Te)) s p.Te.isSome)=dN (wg p m s):=by
   unfold wg;rw[ho,bP,decide_eq_false hm];rfl
  rw[<-ho] at h2 h3;refine .inl ⟨m,some (.tup [dN (wg p m s),.int m.rest]),hr,?_⟩;rw[hT,<-e,hrest];exact go ((aO h2).trans ((aO h3).trans Mf))
theorem sS{r:Res Fl}(h:ae (aU (n+6)) ak (az.drop 2) (kr b i t s p i none (kL (bt 0 s p.Te.isSome)))=some (.ok (.ret v),s'))(hv:flat v=true)(σ):
  call (n+7) 1207 [.bytes b,.int i,pW t,.int s.i,qj p,.str p.seg.s] σ=some (.ok v,σ):=
 yk (f:=1207) (np:=6) (nl:=15) (d:=[]) (gl:=ak) (body:=az.take 2++az.drop 2) (s0:=⟨[some (.bytes b),some (.int i),some (pW t),some (.int s.i),some (qj p),some (.str p.seg.s),none,none,none,none,none,none,none,none,none],[]⟩)
  ((aO Qa).trans h) ⋯ ⋯ (dc hv _) σ (by cases t<;>rfl) hv
theorem n7(hb:b.length<=1000)(σ):call (n+7) 1207 [.bytes b,.int i,pW t,.int s.i,qj p,.str p.seg.s] σ=some (.ok (BP (eM t s p b i)),σ):=by
 cases ht:cS t with
 |false=>
  have e:t= .ai:=by cases t<;>first|rfl|cases ht
  subst e;obtain⟨s',h⟩:=M0 (n:=n) (i:=i) (t:= .ai) (s:=s) (p:=p) (e:=i) (Tt:=none) (y:=bt 0 s p.Te.isSome) (z:= "") (o:= .none) hb;rw[HL (p:=p)] at h;exact sS (r:= .ok .next) ((fj (l:=az.drop 3) Lf).trans h) (u5 _) σ
 |true=>
  have eL:eM t s p b i=(cA b i).elim none λm=>sZ t s p m m.rest b:=by unfold eM;rw[ht];rfl
  rw[eL];cases hc:b[i]? with
  |none=>
   have hr:cA b i=none:=by unfold cA;rw[hc];rfl
   rw[hr];exact sS (r:= .ok .next) (Nq hb ht hc) rfl σ
  |some c=>
   rcases Mr (n:=n) (s:=s) (p:=p) (y:=bt 0 s p.Te.isSome) hb hc ht with⟨m,l,hr,h⟩|⟨hr,s',h⟩
   ·rw[hr];obtain⟨s',h'⟩:=M0 (n:=n) (i:=i) (t:=t) (s:=s) (p:=p) (e:=m.rest) (Tt:=l) (y:=bt 0 s p.Te.isSome) (z:=bt (m.o/8 % 8+8*bi (bR p.Te)) s p.Te.isSome) (o:=dN (wg p m s)) hb;rw[NB ht] at h';exact sS (r:= .ok .next) ((fj (l:=az.drop 3) h).trans h') (u5 _) σ
   ·rw[hr];exact sS (r:= .ok .next) (vl (l:=az.drop 3) h) rfl σ
end
noncomputable def nN(c:Nat)(p:PS):Sz:=cond (Nat.beq (c % 2) 0) .b8 (cond (bW p.Te) .Tv (cond p.dat .T4 .T6))
noncomputable def AU(p:PS)(i:Nat):AV:= .tup [.Tl HV (Oi p),.int i]
noncomputable def uY(d0 d1:Nat):AV:= .lst [.int d0,.int d1]
noncomputable def AL(o:Option RX):AV:= .lst [.int (bi (bW o)),.int (bi (bR o)),.int (bi (bX o)),.int (bi (bB o))]
noncomputable abbrev GW(b:List UInt8)(d0 d1:Nat)(v:Option AV):St:=⟨[some (.bytes b),some (uY d0 d1),v,none,none,none,none,none,none,none,none,none,none],[]⟩
noncomputable abbrev mo(b:List UInt8)(d0 d1:Nat)(p:PS)(i:Nat)(v5 v6 v7 v8 v9 v10 v11 Ug:Option AV)(σ:aX):St:=⟨[some (.bytes b),some (uY d0 d1),some (AU p i),some (.Tl HV (Oi p)),some (.int i),v5,v6,v7,v8,v9,v10,v11,Ug],σ⟩
section
variable {n i d0 d1:Nat} {b:List UInt8} {p:PS}
theorem NM(h:dT b p0 0=none)(hb:b.length<=900):ae (aU (n+7)) aK (ah.take 2) (GW b d0 d1 none)=some (.ok (.ret .none),GW b d0 d1 (some .none)):=by
 have z:=iW (n+6) hb [];rw[h] at z;exact aY [.k .none [],.a] #[z] ⋯
theorem Qq(h:dT b p0 0=some (p,i))(hb:b.length<=900):ae (aU (n+7)) aK (ah.take 2) (GW b d0 d1 none)=some (cond (p.Tu&&gI p.rep) (.ok (.ret .none)) (.ok .next),GW b d0 d1 (some (AU p i))):=by
 have z:=iW (n+6) hb [];rw[h] at z;obtain⟨s,d,r,l,o⟩:=p;have hs:small (Rp.i r:Int)=true:=by cases r<;>rfl
 refine aY [.k (AU ⟨s,d,r,l,o⟩ i) [],.a,.a,.a,.a,.a,.a] #[hs,z] (?_);cases l<;>cases r<;>kernel_rfl
theorem QI:ae (aU (n+7)) aK ((ah.drop 2).take 1) (GW b d0 d1 (some (AU p i)))=some (.ok .next,mo b d0 d1 p i none none none none none none none none []):=⋯
noncomputable def Re:IE:=match ah.getD 3 .pass with
 | .asg _ (.tup [_,e])=>e
 |_=> .k .none
noncomputable abbrev Oh(b:List UInt8)(d0 d1:Nat)(p:PS)(i:Nat):St:=mo b d0 d1 p i none none none none none none none none []
theorem Qf:aw (aU (n+7)) aK Re (Oh b d0 d1 p i)=some (.ok (AL p.Te),Oh b d0 d1 p i):=by
 obtain⟨s,d,r,l,o⟩:=p;exact ro (f:=λo=>aw (aU (n+7)) aK Re (Oh b d0 d1 ⟨s,d,r,l,o⟩ i)) (g:=λo=>some (.ok (AL o),Oh b d0 d1 ⟨s,d,r,l,o⟩ i)) ⋯ o
theorem O5(hb:b.length<=1000)(hc:b[i]?=some c):ae (aU (n+7)) aK ((ah.drop 3).take 1) (mo b d0 d1 p i none none none none none none none none [])=some (.ok .next,mo b d0 d1 p i (some (.int c.toNat)) (some (AL p.Te)) none none none none none none []):=
 aY [.i c.toNat,.k (AL p.Te) []] #[Qf (n:=n) (i:=i) (d0:=d0) (d1:=d1) (b:=b) (p:=p),fL hb hc] ⋯
noncomputable def fZ(b:List UInt8)(i:Nat):Option Nat:=(b[i+1]?).map λc=>c.toNat/8 % 8
theorem t8(h:fZ b i=some d):d<8:=by
 unfold fZ at h;cases hc:b[i+1]? with
 |none=>rw[hc] at h;exact aB h
 |some c=>rw[hc] at h;cases h;exact Nat.mod_lt _ ∅
theorem Py{c:UInt8}{v6:Option AV}(hb:b.length<=1000):ae (aU (n+7)) aK ((ah.drop 4).take 1) (mo b d0 d1 p i (some (.int c.toNat)) v6 none none none none none none [])=some (.ok .next,mo b d0 d1 p i (some (.int c.toNat)) v6 (some (db (dM c.toNat (fZ b i) d0 d1))) none none none none none []):=by
 have z:=uA (n:=n+6) (g:=fZ b i) (d0:=d0) (d1:=d1) (bV c) (λd h=>t8 h) [];unfold fZ at z ⊢;cases hc:b[i+1]? with
 |none=>
  rw[hc] at z;exact aY [.i b.length,.b false,.k (db (dM c.toNat none d0 d1)) []] #[z,(qF (p:=((i:Int)+1)<b.length) (by have:=List.getElem?_eq_none_iff.mp hc;omega)),eY hb] ⋯
 |some c'=>
  rw[hc] at z;have e:((c'.toNat:Int).fdiv 8).fmod 8=((c'.toNat/8 % 8:Nat):Int):=by
   rw[show(c'.toNat:Int).fdiv 8=((c'.toNat/8:Nat):Int) from N2 _ 8,show((c'.toNat/8:Nat):Int).fmod 8=((c'.toNat/8 % 8:Nat):Int) from Hw _ 8]
  rw[show f9 (Option.map (λc:UInt8=>c.toNat/8 % 8) (some c'))=((c'.toNat:Int).fdiv 8).fmod 8 from e.symm] at z;exact aY [.i b.length,.b true,.i c'.toNat,.k (db (dM c.toNat (some (c'.toNat/8 % 8)) d0 d1)) []] #[z,(show dZ [] (.bytes b) (.int ((i+1:Nat):Int))=_ from fL hb hc),(qT (p:=((i:Int)+1)<b.length) (by have:=jU hc;omega)),eY hb] ⋯
theorem O3{c:UInt8}{v7:Option AV}:ae (aU (n+7)) aK ((ah.drop 5).take 1) (mo b d0 d1 p i (some (.int c.toNat)) (some (AL p.Te)) v7 none none none none none [])=some (.ok .next,mo b d0 d1 p i (some (.int c.toNat)) (some (AL p.Te)) v7 (some (.int (nN c.toNat p).i)) none none none none []):=by
 have e:(c.toNat:Int).fmod 2=((c.toNat % 2:Nat):Int):=Hw _ 2;unfold nN;cases h:Nat.beq (c.toNat % 2) 0 with
 |true=>exact aY [.b true] #[(show some ((c.toNat:Int).fmod 2==0)=some true by rw[e];exact bE (a:=c.toNat % 2) (b:=0) h)] ⋯
 |false=>
  have q:some ((c.toNat:Int).fmod 2==0)=some false:=by rw[e];exact bE (a:=c.toNat % 2) (b:=0) h
  cases hw:bW p.Te with
  |true=>exact aY [.b false,.a,.b true] #[(show some ((bi (bW p.Te):Int)==1)=some true by rw[hw];rfl),q] ⋯
  |false=>
   have q2:some ((bi (bW p.Te):Int)==1)=some false:=by rw[hw];rfl
   obtain⟨s,d,r,l,o⟩:=p;cases d
   ·exact aY [.b false,.a,.b false,.a,.a] #[q2,q] ⋯
   ·exact aY [.b false,.a,.b false,.a,.a] #[q2,q] ⋯
theorem MA:ae (aU (n+7)) aK ((ah.drop 6).take 1) (mo b d0 d1 p i v5 v6 (some .none) v8 none none none none [])=some (.ok (.ret .none),mo b d0 d1 p i v5 v6 (some .none) v8 none none none none []):=⋯
theorem PY:ae (aU (n+7)) aK ((ah.drop 6).take 1) (mo b d0 d1 p i v5 v6 (some (db (some x))) (some (.int s.i)) none none none none [])=some (cond (gI p.rep||(p.dat&& !(mM s))) (.ok (.ret .none)) (.ok .next),mo b d0 d1 p i v5 v6 (some (db (some x))) (some (.int s.i)) none none none none []):=by
 obtain⟨sg,d,r,l,o⟩:=p;cases d<;>cases r<;>cases s<;>kernel_rfl
noncomputable def KV:AO:= .Tz [0,100,101] [.str "",.str "fs",.str "gs"]
theorem O8:ae (aU (n+7)) aK ((ah.drop 7).take 1) (mo b d0 d1 p i v5 v6 v7 v8 none none none none [])=some (.ok .next,mo b d0 d1 p i v5 v6 v7 v8 (some (.str p.seg.s)) none none none [KV]):=by
 obtain⟨sg,d,r,l,o⟩:=p;cases sg<;>kernel_rfl
theorem F8(o):decide ((0:Int)<=mz o)=o.isSome:=ro (f:=λo=>decide ((0:Int)<=mz o)) (g:=Option.isSome) ⋯ o
theorem Pt(hb:b.length<=1000):ae (aU (n+7)) aK ((ah.drop 8).take 1) (mo b d0 d1 p i v5 (some (AL p.Te)) (some (db (some (j,t)))) (some (.int s.i)) (some (.str p.seg.s)) none none none [KV])=
  some (.ok .next,mo b d0 d1 p i v5 (some (AL p.Te)) (some (db (some (j,t)))) (some (.int s.i)) (some (.str p.seg.s)) (some (BP (eM t s p b (i+1)))) none none [KV,.lst [.bool p.Te.isSome]]):=by
 have z:=n7 (n:=n) (i:=i+1) (t:=t) (s:=s) (p:=p) hb [KV,.lst [.bool p.Te.isSome]];unfold qj at z;rw[<-F8] at z ⊢;exact aY [.a,.a,.k (BP (eM t s p b (i+1))) [KV,.lst [.bool (decide ((0:Int)<=mz p.Te))]]] #[z] ⋯
end
theorem jD{α β:Type}(q:α->Bool)(r:α->β): ∀l:List α,(l.map λa=>cond (q a) [r a] []).flatten=(l.filter q).map r
 | []=>rfl
 |a::l=>by
  rw[List.map_cons,List.flatten_cons,jD q r l,List.filter_cons];cases q a<;>rfl
theorem uB{α:Type}{T}{gl}{elt src c1}{ik}{gn}{s}{x}{g r:α->AV}{q:α->Bool}{l:List α}(TN:aw T gl src s=some (.ok x,s))(hi:bN s.S9 ik [x]=some (l.map g))(hl:l.length<=1000)
  (hc: ∀a∈l,fF T gl [c1] ⟨[some (g a)],s.S9⟩=some (.ok (q a),⟨[some (g a)],s.S9⟩)) (he: ∀a∈l,aw T gl elt ⟨[some (g a)],s.S9⟩=some (.ok (r a),⟨[some (g a)],s.S9⟩)):
  aw T gl (.comp elt [] ik gn src [c1]) s=some (.ok (.lst ((l.filter q).map r)),s):=
 (uQ (elt:=elt) (cap:=[]) (cs:=[c1]) (r:=λa=>cond (q a) [r a] []) TN hi hl λa ha=>(ac (we · λb s1=>cond b (we (aw T gl elt s1) λv s2=>some (Res.ok [v],(⟨s.loc,s2.S9⟩:St))) (some (Res.ok [],⟨s.loc,s1.S9⟩))) (hc a ha)).trans (by
  cases h:q a with
  |false=>rfl
  |true=>exact ac (we · λv s2=>some (Res.ok [v],(⟨s.loc,s2.S9⟩:St))) (he a ha))).trans (ac (λl=>some (Res.ok (AV.lst l),s)) (jD q r l))
noncomputable def ja(j:Nat):Bool:=Nat.beq j 12||Nat.beq j 0
noncomputable def AQ(p:PS)(j:Nat)(y:List Op×Nat):AV:= .tup [.tup [.str (cX j),.str (fy p),.tup (y.1.map dN)],.int y.2]
noncomputable def yB(b:List UInt8)(p:PS)(i:Nat)(x:Nat×Sh)(s:Sz):Option AV:=cond (gI p.rep||(p.dat&& !(mM s))) none
 ((eM x.2 s p b (i+1)).elim none λy=>cond (kP p&& !(y.1.any jm)) none (cond (p.Tu&& !(rf y.1&& !(ja x.1))) none (some (AQ p x.1 y))))
noncomputable def eK(b:List UInt8)(d0 d1:Nat):Option AV:=(dT b p0 0).elim none λq=>cond (q.1.Tu&&gI q.1.rep) none
 ((b[q.2]?).elim none λc=>(dM c.toNat (fZ b q.2) d0 d1).elim none λx=>yB b q.1 q.2 x (nN c.toNat q.1))
theorem lX{b:List UInt8}: ∀{l:List UInt8} {p q:PS} {k j:Nat},b.drop k=l->dT l p k=some (q,j)-> ∃c,b[j]?=some c/\cy c.toNat=false/\iR c.toNat=false/\j9 c.toNat=false
 | [],p,q,k,j,hl,h=>by exact aB h
 |c::l,p,q,k,j,hl,h=>by
  have hc:b[k]?=some c:=by rw[<-List.head?_drop,hl];rfl
  have hl':b.drop (k+1)=l:=by rw[<-List.drop_drop,hl];rfl
  dsimp only[dT] at h;cases h1:cy c.toNat with
  |true=>
   rw[h1] at h;change cond (jQ p) none _=_ at h;cases h2:jQ p with
   |true=>rw[h2] at h;exact aB h
   |false=>rw[h2] at h;exact lX hl' h
  |false=>
   rw[h1] at h;change cond (iR c.toNat) none _=_ at h;cases h2:iR c.toNat with
   |true=>rw[h2] at h;exact aB h
   |false=>
    rw[h2] at h;change cond (j9 c.toNat) _ _=_ at h;cases h3:j9 c.toNat with
    |false=>rw[h3] at h;cases h;exact⟨c,hc,h1,h2,h3⟩
    |true=>
     rw[h3] at h;change (fN p c.toNat).elim none _=_ at h;cases h4:fN p c.toNat with
     |none=>rw[h4] at h;exact aB h
     |some r=>rw[h4] at h;exact lX hl' h
theorem IG(hc:c<256)(hg: ∀d,g=some d->d<8):(AR c g).all (λy=>Nat.blt y.1 13)=true:=
 aA (f:=λc=>(AR c g).all λy=>Nat.blt y.1 13) (g:=λ_=>true) (l:=List.range 256) (aA (f:=λg=>(List.range 256).map λc=>(AR c g).all λy=>Nat.blt y.1 13) (g:=λ_=>(List.range 256).map λ_=>true) (l:=gL) ⋯ (B0 hg)) (List.mem_range.mpr hc)
theorem uX(hc:c<256)(hg: ∀d,g=some d->d<8)(h:dM c g d0 d1=some (j,t)):j<13:=
 Ui h (λhA h=>eV h λ_ h=>(so h).1▸Nat.add_lt_add_left (Nat.div_lt_of_lt_mul (Nat.le_of_ble_eq_true (bG hA).1:c<8*8)) 5) λh=>Ui h (λ_ h=>Th h (λd hd h=>eV h λ_ h=>(so h).1▸Nat.add_lt_add_left (hg d hd) 5) aB)
  λh=>Nat.le_of_ble_eq_true ((ac (Option.all λy:Nat×Sh=>Nat.blt y.1 13) (h:AR c g=some (j,t))).symm.trans (IG hc hg):Nat.blt j 13=true)
theorem Cm(h:eM t s p b i=some y):Gn y:=Ui h (λ_ h=>Th h (λm _ h=>us h) aB) λh=>us h
section
variable {n i d0 d1:Nat} {b:List UInt8} {p:PS} {v5 v6 v7 v8 v9:Option AV} {σ:aX}
theorem Nw{v11 Ug:Option AV}:ae (aU (n+7)) aK (ah.drop 9) (mo b d0 d1 p i v5 v6 v7 v8 v9 (some .none) none none σ)=some (.ok (.ret .none),mo b d0 d1 p i v5 v6 v7 v8 v9 (some .none) none none σ):=⋯
theorem QN:ae (aU (n+7)) aK ((ah.drop 9).take 2) (mo b d0 d1 p i v5 v6 v7 v8 v9 (some (BP (some y))) none none σ)=
  some (.ok .next,mo b d0 d1 p i v5 v6 v7 v8 v9 (some (BP (some y))) (some (.tup (y.1.map dN))) (some (.int y.2)) σ):=⋯
noncomputable def CR:IE:= .cmp .Eq (.sub (.var 0) (.k (.int 0))) (.k (.str "mem"))
theorem memC(o)(σ):fF T gl [CR] ⟨[some (dN o)],σ⟩=some (.ok (jm o),⟨[some (dN o)],σ⟩):=by cases o<;>kernel_rfl
theorem Ah{l:List Op}:((l.filter jm).map dN).isEmpty= !(l.any jm):=by
 induction l with
 |nil=>rfl
 |cons o l ih=>
  rw[List.filter_cons,List.any_cons];cases jm o with
  |true=>rfl
  |false=>exact ih
theorem LE{y:List Op}{v10 Ug:Option AV}{x0 x1:AO}(hl:y.length<=1000): ∃σ',ae (aU (n+7)) aK ((ah.drop 11).take 1) (mo b d0 d1 p i v5 v6 v7 v8 v9 v10 (some (.tup (y.map dN))) Ug [x0,x1])=
  some (cond (kP p&& !(y.any jm)) (.ok (.ret .none)) (.ok .next),mo b d0 d1 p i v5 v6 v7 v8 v9 v10 (some (.tup (y.map dN))) Ug σ'):=by
 obtain⟨sg,d,r,l,o⟩:=p;have q:aw (aU (n+7)) aK (.comp (.var 0) [] .seq 0 (.var 11) [CR]) (mo b d0 d1 ⟨sg,d,r,l,o⟩ i v5 v6 v7 v8 v9 v10 (some (.tup (y.map dN))) Ug [x0,x1])=some (.ok (.lst ((y.filter jm).map dN)),(mo b d0 d1 ⟨sg,d,r,l,o⟩ i v5 v6 v7 v8 v9 v10 (some (.tup (y.map dN))) Ug [x0,x1])):=
  uB (x:= .tup (y.map dN)) (g:=dN) (r:=dN) (q:=jm) rfl rfl hl (λa _=>memC a [x0,x1]) (λa _=>rfl)
 have e: ∀c,y.any jm=c->some ((y.filter jm).map dN).isEmpty=some (!c):=λc h=>by rw[Ah,h]
 cases sg with
 |no=>exact⟨[x0,x1],aY [.a,.a] .nil ⋯⟩
 |_=>
  cases ha:y.any jm with
  |true=>exact⟨[x0,x1,.lst []],aY [.a,.a,.k (.lst ((y.filter jm).map dN)) [x0,x1],.b false] #[e _ ha,q] ⋯⟩
  |false=>exact⟨[x0,x1,.lst []],aY [.a,.a,.k (.lst ((y.filter jm).map dN)) [x0,x1],.b true] #[e _ ha,q] ⋯⟩
theorem Js(o)(L)(σ):dZ σ (.tup ((o::L).map dN)) (.int 0)=some (dN o):=by
 show wf ((o::L).map dN) ((0:Nat):Int)=_;rw[oP];rfl
theorem L8(h:j<13):some ((["cmp","test"]:List Str).any (· ==cX j))=some (ja j):=aA (f:=λj=>some ((["cmp","test"]:List Str).any (· ==cX j))) (g:=λj=>some (ja j)) (l:=mE) ⋯ (z7 h)
theorem K6(hj:j<13)(hy:y≠ []):ae (aU (n+7)) aK ((ah.drop 12).take 1) (mo b d0 d1 p i v5 v6 (some (db (some (j,t)))) v8 v9 v10 (some (.tup (y.map dN))) Ug σ)=
  some (cond (p.Tu&& !(rf y&& !(ja j))) (.ok (.ret .none)) (.ok .next),mo b d0 d1 p i v5 v6 (some (db (some (j,t)))) v8 v9 v10 (some (.tup (y.map dN))) Ug σ):=by
 obtain⟨sg,d,r,l,o⟩:=p;cases l with
 |false=>exact aY [.a,.a] .nil ⋯
 |true=>cases y with
  |nil=>exact absurd rfl hy
  |cons x y=>
   have h0:=Js x y σ;cases x with
   |reg k s r=>exact aY [.a,.a,.v (dN (.reg k s r)),.a,.a] #[h0] ⋯
   |Tn w=>exact aY [.a,.a,.v (dN (.Tn w)),.a,.a] #[h0] ⋯
   |mem B I k D z g=>
    have hc:=L8 hj;cases q:ja j with
    |true=>rw[q] at hc;exact aY [.a,.a,.v (dN (.mem B I k D z g)),.a,.a,.a,.b true] #[hc,h0] ⋯
    |false=>rw[q] at hc;exact aY [.a,.a,.v (dN (.mem B I k D z g)),.a,.a,.a,.b false] #[hc,h0] ⋯
theorem NI{y}{e j:Nat}{t}{v10}:ae (aU (n+7)) aK (ah.drop 13) (mo b d0 d1 p i v5 v6 (some (db (some (j,t)))) v8 v9 v10 (some (.tup (y.map dN))) (some (.int e)) σ)=
  some (.ok (.ret (AQ p j (y,e))),mo b d0 d1 p i v5 v6 (some (db (some (j,t)))) v8 v9 v10 (some (.tup (y.map dN))) (some (.int e)) σ):=by
 obtain⟨sg,d,r,l,o⟩:=p;cases l<;>kernel_rfl
end
def eQ(T:Tb)(gl:Gl)(l:List IS)(s:St)(v:AV):Prop:= ∃s',ae T gl l s=some (.ok (.ret v),s')
theorem eQ.next(h:ae T gl l1 s=some (.ok .next,s1))(k:eQ T gl l2 s1 v):eQ T gl (l1++l2) s v:=by
 obtain⟨s',e⟩:=k;exact⟨s',(aO h).trans e⟩
theorem eQ.stop(h:ae T gl l1 s=some (.ok (.ret v),s1)):eQ T gl (l1++l2) s v:=⟨_,ni h⟩
theorem BL(p)(j)(y:List Op×Nat):flat (AQ p j y)=true:=
 dj (show flat (.tup [.str (cX j),.str (fy p),.tup (y.1.map dN)])=true from fc (a:= .tup (y.1.map dN)) (bM qz y.1)) rfl
theorem pO(h:eK b d0 d1=some v): ∃p j y,v=AQ p j y:=by
 unfold eK at h;cases hs:dT b p0 0 with
 |none=>rw[hs] at h;exact aB h
 |some q=>
  rw[hs] at h;change cond (q.1.Tu&&gI q.1.rep) none _=_ at h;cases h1:(q.1.Tu&&gI q.1.rep) with
  |true=>rw[h1] at h;exact aB h
  |false=>
   rw[h1] at h;change (b[q.2]?).elim none _=_ at h;cases hc:b[q.2]? with
   |none=>rw[hc] at h;exact aB h
   |some c=>
    rw[hc] at h;change (dM c.toNat (fZ b q.2) d0 d1).elim none _=_ at h;cases hp:dM c.toNat (fZ b q.2) d0 d1 with
    |none=>rw[hp] at h;exact aB h
    |some x=>
     rw[hp] at h;change yB b q.1 q.2 x (nN c.toNat q.1)=_ at h;unfold yB at h;cases h2:(gI q.1.rep||(q.1.dat&& !(mM (nN c.toNat q.1)))) with
     |true=>rw[h2] at h;exact aB h
     |false=>
      rw[h2] at h;change (eM x.2 (nN c.toNat q.1) q.1 b (q.2+1)).elim none _=_ at h;cases ho:eM x.2 (nN c.toNat q.1) q.1 b (q.2+1) with
      |none=>rw[ho] at h;exact aB h
      |some y=>
       rw[ho] at h;change cond (kP q.1&& !(y.1.any jm)) none (cond (q.1.Tu&& !(rf y.1&& !(ja x.1))) none (some (AQ q.1 x.1 y)))=_ at h;cases h3:(kP q.1&& !(y.1.any jm)) with
       |true=>rw[h3] at h;exact aB h
       |false=>
        rw[h3] at h;change cond (q.1.Tu&& !(rf y.1&& !(ja x.1))) none (some (AQ q.1 x.1 y))=_ at h;cases h4:(q.1.Tu&& !(rf y.1&& !(ja x.1))) with
        |true=>rw[h4] at h;exact aB h
        |false=>rw[h4] at h;cases h;exact⟨_,_,_,rfl⟩
theorem w3(b)(d0 d1):flat ((eK b d0 d1).getD .none)=true:=by
 cases hv:eK b d0 d1 with
 |none=>rfl
 |some v=>
  obtain⟨p,j,y,rfl⟩:=pO hv;exact BL p j y
section
variable {n i d0 d1:Nat} {b:List UInt8} {p:PS}
theorem Fn(hb:b.length<=1000)(hc:b[i]?=some c):
  eQ (aU (n+7)) aK (ah.drop 2) (GW b d0 d1 (some (AU p i))) (((dM c.toNat (fZ b i) d0 d1).elim none λx=>yB b p i x (nN c.toNat p)).getD .none):=by
 have hx:=Py (n:=n) (i:=i) (d0:=d0) (d1:=d1) (p:=p) (c:=c) (v6:=some (AL p.Te)) hb;refine eQ.next (l1:=(ah.drop 2).take 1) (l2:=ah.drop 3) QI (eQ.next (l1:=(ah.drop 3).take 1) (l2:=ah.drop 4) (O5 hb hc) (eQ.next (l1:=(ah.drop 4).take 1) (l2:=ah.drop 5) hx (eQ.next (l1:=(ah.drop 5).take 1) (l2:=ah.drop 6) O3 ?_)));cases hp:dM c.toNat (fZ b i) d0 d1 with
 |none=>exact eQ.stop (l1:=(ah.drop 6).take 1) (l2:=ah.drop 7) MA
 |some x=>
  obtain⟨j,t⟩:=x;have hj:j<13:=uX (bV c) (λd h=>t8 h) hp;have h6:=PY (n:=n) (i:=i) (d0:=d0) (d1:=d1) (b:=b) (p:=p) (v5:=some (.int c.toNat)) (v6:=some (AL p.Te)) (x:=(j,t)) (s:=nN c.toNat p);unfold yB;cases h1:(gI p.rep||(p.dat&& !(mM (nN c.toNat p)))) with
  |true=>rw[h1] at h6;exact eQ.stop (l1:=(ah.drop 6).take 1) (l2:=ah.drop 7) h6
  |false=>
   rw[h1] at h6;refine eQ.next (l1:=(ah.drop 6).take 1) (l2:=ah.drop 7) h6 (eQ.next (l1:=(ah.drop 7).take 1) (l2:=ah.drop 8) O8 (eQ.next (l1:=(ah.drop 8).take 1) (l2:=ah.drop 9) (Pt hb) ?_));show eQ _ _ _ _ (((eM t (nN c.toNat p) p b (i+1)).elim none λy=>cond (kP p&& !(y.1.any jm)) none (cond (p.Tu&& !(rf y.1&& !(ja j))) none (some (AQ p j y)))).getD .none);cases ho:eM t (nN c.toNat p) p b (i+1) with
   |none=>exact⟨_,Nw (v11:=none) (Ug:=none)⟩
   |some y=>
    obtain⟨hne,hl⟩:=Cm ho;refine eQ.next (l1:=(ah.drop 9).take 2) (l2:=ah.drop 11) QN ?_;obtain⟨σ',h11⟩:=LE (n:=n) (i:=i) (d0:=d0) (d1:=d1) (b:=b) (p:=p) (v5:=some (.int c.toNat)) (v6:=some (AL p.Te)) (v7:=some (db (some (j,t)))) (v8:=some (.int (nN c.toNat p).i)) (v9:=some (.str p.seg.s)) (y:=y.1) (v10:=some (BP (some y))) (Ug:=some (.int y.2)) (x0:=KV) (x1:= .lst [.bool p.Te.isSome]) (by omega);have h12:=K6 (n:=n) (i:=i) (d0:=d0) (d1:=d1) (b:=b) (p:=p) (v5:=some (.int c.toNat)) (v6:=some (AL p.Te)) (v8:=some (.int (nN c.toNat p).i)) (v9:=some (.str p.seg.s)) (σ:=σ') (y:=y.1) (j:=j) (t:=t) (v10:=some (BP (some y))) (Ug:=some (.int y.2)) hj hne;show eQ _ _ _ _ ((cond (kP p&& !(y.1.any jm)) none (cond (p.Tu&& !(rf y.1&& !(ja j))) none (some (AQ p j y)))).getD .none);cases h3:(kP p&& !(y.1.any jm)) with
    |true=>rw[h3] at h11;exact eQ.stop (l1:=(ah.drop 11).take 1) (l2:=ah.drop 12) h11
    |false=>
     rw[h3] at h11;refine eQ.next (l1:=(ah.drop 11).take 1) (l2:=ah.drop 12) h11 ?_;show eQ _ _ _ _ ((cond (p.Tu&& !(rf y.1&& !(ja j))) none (some (AQ p j y))).getD .none);cases h4:(p.Tu&& !(rf y.1&& !(ja j))) with
     |true=>rw[h4] at h12;exact eQ.stop (l1:=(ah.drop 12).take 1) (l2:=ah.drop 13) h12
     |false=>rw[h4] at h12;exact eQ.next (l1:=(ah.drop 12).take 1) (l2:=ah.drop 13) h12 ⟨_,NI⟩
theorem vG(hb:b.length<=900)(σ):call (n+8) 1212 [.bytes b,uY d0 d1] σ=some (.ok ((eK b d0 d1).getD .none),σ):=by
 have hr:eQ (aU (n+7)) aK (ah.take 2++ah.drop 2) (GW b d0 d1 none) ((eK b d0 d1).getD .none):=by
  unfold eK;cases hs:dT b p0 0 with
  |none=>exact eQ.stop (NM hs hb)
  |some q=>
   obtain⟨p,i⟩:=q;obtain⟨c,hc,-⟩:=lX (b:=b) (k:=0) rfl hs;have h1:=Qq (n:=n) (d0:=d0) (d1:=d1) hs hb;show eQ _ _ _ _ ((cond (p.Tu&&gI p.rep) none ((b[i]?).elim none λc=>(dM c.toNat (fZ b i) d0 d1).elim none λx=>yB b p i x (nN c.toNat p))).getD .none);cases hl:(p.Tu&&gI p.rep) with
   |true=>rw[hl] at h1;exact eQ.stop h1
   |false=>
    rw[hl] at h1;rw[hc];exact eQ.next h1 (Fn (show b.length<=1000 by omega) hc)
 obtain⟨s',h⟩:=hr;have hf:=w3 b d0 d1;exact yk (f:=1212) (np:=2) (nl:=13) (d:=[]) (gl:=aK) (body:=ah.take 2++ah.drop 2) (s0:=GW b d0 d1 none) h ⋯ ⋯ (dc hf _) σ rfl hf
end
noncomputable def KY:List IS:=[.asg (.var 3) (.sub (.attr (.var 0) 41) (.var 2)),.asg (.attr (.var 3) 8) (.var 2),.Td (.cmp .NotIn (.attr (.var 3) 0) (.attr (.var 0) 42)) [.asg (.sub (.attr (.var 0) 42) (.attr (.var 3) 0)) (.lst [])] [],.exp (.stm .append (.sub (.attr (.var 0) 42) (.attr (.var 3) 0)) [.var 3])]
noncomputable def K5:List IS:=[.fr .seq 0 [.Tf 3 [.var 3]] (.var 4) [.Td (.cmp .NotIn (.var 4) (.attr (.var 0) 43)) [.asg (.sub (.attr (.var 0) 43) (.var 4)) (.lst [])] [],.exp (.stm .append (.sub (.attr (.var 0) 43) (.var 4)) [.var 3])]]
theorem Ej(n)(f)(σ):call (n+1) 210 [aq f] σ=some (.ok (.bool false),σ):=by
 obtain⟨nm,sh,op,dg,s,num⟩:=f;exact lh (aA (f:=λs=>rc n 210 [aq ⟨nm,sh,op,dg,s,num⟩]) (g:=λs=>jh (.bool false)) (l:=fE) (aA (f:=λsh=>fE.map λs=>rc n 210 [aq ⟨nm,sh,op,dg,s,num⟩]) (g:=λsh=>fE.map λs=>jh (.bool false)) (l:=j4) ⋯ (qQ sh)) (tq s)) σ (fc (aP _)) rfl
noncomputable def sL(op:Nat):AV:= .tup [.int 0,.int 0,.int op]
theorem vF(n)(f)(σ):call (n+2) 1059 [aq f] σ=some (.ok (.lst [sL f.op]),σ):=
 yk (f:=1059) (np:=1) (nl:=1) (d:=[]) (gl:=jC) (body:=nT) (r:= .ok (.ret (.ref 0))) (s0:=⟨[some (aq f)],[]⟩) (s':=⟨[some (aq f)],[.lst [sL f.op]]⟩)
  (aY [.k (.bool false) [],.a] #[Ej n f []] ⋯) ⋯ ⋯ ⋯ σ (fc (aP _)) rfl
noncomputable def vz(f:FS)(i:Int):aV:=Q3 (cX f.nm) (RE f.sh f.size) f.op (MM f.digit) f.size i
theorem zw(f):aM (vz f f.num)=true:=aP f
theorem Am(n)(f)(hk:σ[k]?=some (.obj 227 (vz f f.num))):call (n+2) 1059 [.ref k] σ=some (.ok (.lst [sL f.op]),σ.set k (.Tg (aq f))):=by
 have hf:=zw f;have hlt:k<σ.length:=(ch hk).1;have e:jk [.ref k] σ=σ.set k (.Tg (aq f)):=wK (n:=7) hk rfl hf;exact(fY (vs':=[aq f]) ⋯ e (ac (λv=>[v]) (tT (n:=7) (List.getElem?_set_self hlt) (aP f))) (fc (aP f))).trans (vF n f _)
theorem eF(h:σ[k]?=some o):view σ (.ref k)=o.vw:=ac (λx:Option AO=>x.elim VW.no AO.vw) h
theorem me(h:σ[k]?=some (.obj C l))(h2:((cN (lay C) l n).bind λr=>cond r.isC none (some r))=some v):dz σ (.ref k) n=some v:=(ac (λw:VW=>w.o.bind λp=>(cN (lay p.1) p.2 n).bind λr=>cond r.isC none (some r)) (eF h)).trans h2
noncomputable def eO(l:List Nat):AO:= .lst (l.map AV.ref)
noncomputable def uv(B:aX)(a b c:AO)(E:List (List Nat)):aX:=B++a::b::c::E.map eO
structure Fr (r d:Nat) (F:AO->List (List Nat)->aX):Prop where
 len: ∀o E,(F o E).length=r+(E.length+3)
 get: ∀o E,(F o E)[d]?=some o
 set: ∀o o' E,(F o E).set d o'=F o' E
 el: ∀{o E k el},E[k]?=some el->(F o E)[r+(k+3)]?=some (eO el)
 es: ∀{o E k el},(F o E).set (r+(k+3)) (eO el)=F o (E.set k el)
 new: ∀o E,F o E++ [AO.lst []]=F o (E++ [[]])
section
variable {B:aX} {a b c x:AO} {E:List (List Nat)} {r k pos:Nat} {el:List Nat}
theorem Bn(h:B.length=r):(uv B a b c E).length=r+(E.length+3):=List.length_append.trans (congr (ac HAdd.hAdd h) (ac (· +3) (List.length_map (as:=E) eO)))
theorem vV(h:B.length=r)(T)(j):(B++T)[r+j]?=T[j]?:=by
 subst h;exact(List.getElem?_append_right (Nat.le_add_right _ _)).trans (ac (T[·]?) (Nat.add_sub_cancel_left ..))
theorem tY(h:B.length=r)(T)(j):(B++T).set (r+j) x=B++T.set j x:=by
 subst h;exact(List.set_append_right _ _ (Nat.le_add_right _ _)).trans (ac (λi=>B++T.set i x) (Nat.add_sub_cancel_left ..))
theorem x9(h:B.length=r)(j):(uv B a b c E)[r+j]?=(a::b::c::E.map eO)[j]?:=vV h _ j
theorem Gj(h:B.length=r):(uv B a b c E)[r]?=some a:=x9 h 0
theorem IF(h:pos<B.length):(uv B a b c E)[pos]?=B[pos]?:=List.getElem?_append_left h
theorem w7(h:B.length=r)(j):(uv B a b c E).set (r+j) x=B++(a::b::c::E.map eO).set j x:=tY h _ j
theorem Hj(h:B.length=r)(e:E[k]?=some el):(uv B a b c E)[r+(k+3)]?=some (eO el):=(x9 h (k+3)).trans (List.getElem?_map.trans (ac (Option.map eO) e))
theorem Hf(h:B.length=r):(uv B a b c E).set (r+(k+3)) (eO el)=uv B a b c (E.set k el):=(w7 h (k+3)).trans (ac (λl=>B++a::b::c::l) List.map_set.symm)
theorem Dh:uv B a b c E++ [AO.lst []]=uv B a b c (E++ [[]]):=(List.append_assoc ..).trans (ac (λl=>B++a::b::c::l) (List.map_append (f:=eO) (l₁:=E) (l₂:=[[]])).symm)
theorem GV(h:pos<B.length):(uv B a b c E).set pos x=uv (B.set pos x) a b c E:=List.set_append_left _ _ h
theorem So(h:B.length=r):Fr r (r+1) λo E=>uv B a o c E:=⟨λ_ _=>Bn h,λ_ _=>x9 h 1,λ_ _ _=>w7 h 1,Hj h,Hf h,λ_ _=>Dh⟩
theorem RK(h:B.length=r):Fr r (r+2) λo E=>uv B a b o E:=⟨λ_ _=>Bn h,λ_ _=>x9 h 2,λ_ _ _=>w7 h 2,Hj h,Hf h,λ_ _=>Dh⟩
end
structure DF where
 names:List (Nat×Nat)
 codes:List (Nat×Nat)
 E:List (List Nat)
noncomputable def qY(l:List (Nat×Nat))(k:Nat):Option Nat:=l.rec none λc _ r=>cond (Nat.beq c.1 k) (some c.2) r
theorem Gw(h:qY l k=none):qY (l++ [(k,j)]) k=some j:=by
 induction l with
 |nil=>exact ac (cond · (some j) none) (Nat.beq_refl k)
 |cons c l ih=>
  cases q:Nat.beq c.1 k with
  |true=>exact lg ((ac (cond · (some c.2) (qY l k)) q).symm.trans h)
  |false=>exact(ac (cond · (some c.2) (qY (l++ [(k,j)]) k)) q).trans (ih ((ac (cond · (some c.2) (qY l k)) q).symm.trans h))
section
variable {κ:Type} [BEq κ] [LawfulBEq κ] {key:Nat->κ} {g:Nat->AV} {k:Nat}
def Inj(key:Nat->κ)(l:List (Nat×Nat))(k:Nat):Prop:= ∀c∈l,(key c.1==key k)=Nat.beq c.1 k
theorem pN:Inj key l k->cN (l.map λc=>key c.1) (l.map λc=>g c.2) (key k)=(qY l k).map g:=by
 induction l with
 |nil=>exact λ_=>rfl
 |cons c l ih=>exact λh=>(congr (ac (λb r=>cond b (some (g c.2)) r) (h c (.head _))) (ih λc hc=>h c (.tail _ hc))).trans (by
  show _=Option.map g (cond (Nat.beq c.1 k) (some c.2) (qY l k));cases Nat.beq c.1 k<;>rfl)
theorem oN:Inj key l k->(l.map λc=>key c.1).contains (key k)=(qY l k).isSome:=by
 induction l with
 |nil=>exact λ_=>rfl
 |cons c l ih=>exact λh=>(List.contains_cons ..).trans ((congr (ac or (BEq.comm.trans (h c (.head _)))) (ih λc hc=>h c (.tail _ hc))).trans (by cases q:Nat.beq c.1 k<;>exact(ac (λb=>Option.isSome (cond b (some c.2) (qY l k))) q).symm))
theorem uN{ks:List κ}{l}{x:κ}{v}(h:ks.contains x=false):putD ks l x v=(ks++ [x],l++ [v]):=
 ac (λo:Option Nat=>o.elim (ks++ [x],l++ [v]) λi=>(ks,l.set i v)) (List.findIdx?_eq_none_iff.mpr λy hy=>beq_eq_false_iff_ne.mpr λe=>tf ((List.contains_iff_mem.mpr (e▸hy)).symm.trans h))
end
noncomputable def putL(l:List (Nat×Nat))(E:List (List Nat))(key pos:Nat):Option (List (Nat×Nat)×List (List Nat)):=(qY l key).elim (some (l++ [(key,E.length)],E++ [[pos]])) λk=>E[k]?.bind λel=>cond (Nat.ble el.length 900) (some (l,E.set k (el++ [pos]))) none
structure Dk (r kn:Nat) (kv:AV) (mk:List (Nat×Nat)->AO) (ok:List (Nat×Nat)->Prop):Prop where
 cm: ∀{σ d l},ok l->σ[d]?=some (mk l)->eP σ .NotIn kv (.ref d)=some (!(qY l kn).isSome)
 sb: ∀{σ d l k},ok l->σ[d]?=some (mk l)->qY l kn=some k->dZ σ (.ref d) kv=some (.ref (r+(k+3)))
 pu: ∀{σ d l j loc},ok l->σ[d]?=some (mk l)->qY l kn=none->l.length<=900->jB (.ref d) kv (.ref (r+(j+3))) ⟨loc,σ⟩=some (d,mk (l++ [(kn,j)]))
 ad: ∀{l j},ok l->ok (l++ [(kn,j)])
structure lb (σ σ2:aX) (kv:AV) (d pos q:Nat):Prop where
 sb:dZ σ (.ref d) kv=some (.ref q)
 sm:C8 σ .append (.ref q)=true
 ap:(gT σ .append (.ref q) [.ref pos]).map (λp=>(Res.ok p.1,p.2))=some (.ok .none,σ2)
inductive Sd (F:AO->List (List Nat)->aX) (d pos:Nat) (kv:AV) (o o':AO) (E E':List (List Nat)):Prop
 |old (q:Nat) (hc:eP (F o E) .NotIn kv (.ref d)=some false) (s:lb (F o E) (F o' E') kv d pos q)
 |new (q:Nat) (E1:List (List Nat)) (hc:eP (F o E) .NotIn kv (.ref d)=some true) (hn:F o E++ [AO.lst []]=F o E1) (hp: ∀loc,jB (.ref d) kv (.ref (F o E).length) ⟨loc,F o E1⟩=some (d,o')) (hs:(F o E1).set d o'=F o' E1) (s:lb (F o' E1) (F o' E') kv d pos q)
section
variable {r d pos kn k:Nat} {F:AO->List (List Nat)->aX} {o:AO} {E E':List (List Nat)} {el:List Nat} {kv:AV} {mk:List (Nat×Nat)->AO} {ok:List (Nat×Nat)->Prop} {l l':List (Nat×Nat)}
theorem yP(fr:Fr r d F)(hE:E[k]?=some el)(hl:el.length<=900)(hs:dZ (F o E) (.ref d) kv=some (.ref (r+(k+3)))):lb (F o E) (F o (E.set k (el++ [pos]))) kv d pos (r+(k+3)):=
 ⟨hs,ac (λw:VW=>w.l.isSome) (eF (fr.el hE)),by
  have e:Ft (F o E) (.ref (r+(k+3)))=some (r+(k+3),el.map AV.ref):=ac (λo:Option AO=>(o.bind AO.l?).map λl=>(r+(k+3),l)) (fr.el hE);have e2:AO.lst (el.map AV.ref++ [.ref pos])=eO (el++ [pos]):=ac AO.lst (List.map_append (f:=AV.ref) (l₁:=el) (l₂:=[pos])).symm;have h2:(el.map AV.ref).length<=100000:=(List.length_map (as:=el) AV.ref).symm▸bz hl ∅;exact ac (Option.map λp=>(Res.ok p.1,p.2)) ((ac (Option.bind · λp=>iw [AV.ref pos] λv=>if p.2.length<=100000 then some (AV.none,(F o E).set p.1 (.lst (p.2++ [v]))) else none) e).trans ((if_pos h2).trans (ac (λx=>some (AV.none,x)) ((ac ((F o E).set (r+(k+3))) e2).trans fr.es))))⟩
theorem Br(fr:Fr r d F)(D:Dk r kn kv mk ok)(hk:ok l)(hl:l.length<=900)(h:putL l E kn pos=some (l',E')):Sd F d pos kv (mk l) (mk l') E E':=by
 have hc:=D.cm hk (fr.get (mk l) E);cases hq:qY l kn with
 |none=>
  rw[hq] at hc;have h':=so ((ac (λo:Option Nat=>o.elim (some (l++ [(kn,E.length)],E++ [[pos]])) λk=>E[k]?.bind λel=>cond (Nat.ble el.length 900) (some (l,E.set k (el++ [pos]))) none) hq).symm.trans h);have s:=yP (pos:=pos) (kv:=kv) (o:=mk (l++ [(kn,E.length)])) fr (List.getElem?_concat_length (l:=E) (a:=[])) (Nat.zero_le _) (D.sb (D.ad hk) (fr.get _ _) (Gw hq));rw[<-h'.1,<-h'.2];exact .new (r+(E.length+3)) (E++ [[]]) hc (fr.new _ _) (λloc=>(fr.len (mk l) E).symm▸D.pu hk (fr.get _ _) hq hl) (fr.set _ _ _) ((List.set_append_right (s:=E) (t:=[[]]) _ _ (Nat.le_refl _)).trans (ac (λi=>E++ [[]].set i [pos]) (Nat.sub_self _))▸s)
 |some k=>
  rw[hq] at hc;exact bA ((ac (λo:Option Nat=>o.elim (some (l++ [(kn,E.length)],E++ [[pos]])) λk=>E[k]?.bind λel=>cond (Nat.ble el.length 900) (some (l,E.set k (el++ [pos]))) none) hq).symm.trans h) λel hE h=>eV h λhb h=>
   (so h).1▸(so h).2▸ .old (r+(k+3)) hc (yP fr hE (Nat.le_of_ble_eq_true hb) (D.sb hk (fr.get _ _) hq))
end
noncomputable def xd(a:Nat):Int×Int×Int:=(0,0,(a:Int))
noncomputable def nO(r:Nat)(names:List (Nat×Nat)):AO:= .Tl (names.map λc=>cX c.1) (names.map λc=> .ref (r+(c.2+3)))
noncomputable def dO(r:Nat)(codes:List (Nat×Nat)):AO:= .dct (codes.map λc=>xd c.1) (codes.map λc=> .ref (r+(c.2+3)))
noncomputable def cO(r:Nat)(codes:List (Nat×Nat)):AO:=cond codes.isEmpty (.Tl [] []) (dO r codes)
def tC(l:List (Nat×Nat)):Prop:= ∀c∈l,c.1<13
theorem xH(hl:tC l)(hb:b<13):Inj cX l b:=λc hc=>aA (f:=λb=>cX c.1==cX b) (g:=λb=>Nat.beq c.1 b) (l:=mE) (aA (f:=λa=>mE.map λb=>cX a==cX b) (g:=λa=>mE.map λb=>Nat.beq a b) (l:=mE) ⋯ (z7 (hl c hc))) (z7 hb)
theorem tO(l)(b):Inj xd l b:=λc hc=>Bool.eq_iff_iff.mpr (beq_iff_eq.trans ⟨λh=>(Nat.beq_eq ..).mpr (Int.ofNat.inj (Prod.mk.inj (Prod.mk.inj h).2).2),λh=>ac xd (eS h)⟩)
section
variable {σ:aX} {d:Nat} {v:AV} {loc:List (Option AV)}
theorem JL(h:σ[d]?=some (.Tl ks l)):eP σ .NotIn (.str a) (.ref d)=some (!ks.contains a):=by
 show Option.map _ ((view σ (.ref d)).t.elim ((view σ (.ref d)).l.elim ((view σ (.ref d)).s.map _) _) _)=_;rw[eF h];rfl
theorem It(h:σ[d]?=some (.dct ks l)):eP σ .NotIn (.tup [.int a,.int b,.int c]) (.ref d)=some (!ks.contains (a,b,c)):=ac (λw:VW=>Option.map not (w.k.elim (w.s.bind λp=>cond p.1.isEmpty (some false) none) λp=>some (p.1.contains (a,b,c)))) (eF h)
theorem IY(h:σ[d]?=some (.Tl [] l)):eP σ .NotIn (.tup [.int a,.int b,.int c]) (.ref d)=some true:=ac (λw:VW=>Option.map not (w.k.elim (w.s.bind λp=>cond p.1.isEmpty (some false) none) λp=>some (p.1.contains (a,b,c)))) (eF h)
theorem FL(h:σ[d]?=some (.Tl ks l)):dZ σ (.ref d) (.str a)=cN ks l a:=by
 show(view σ (.ref d)).l.elim ((view σ (.ref d)).t.elim ((view σ (.ref d)).s.elim _ _) _) _=_;rw[eF h];rfl
theorem FQ(h:σ[d]?=some (.dct ks l)):dZ σ (.ref d) (.tup [.int a,.int b,.int c])=cN ks l (a,b,c):=by
 show(view σ (.ref d)).l.elim ((view σ (.ref d)).t.elim ((view σ (.ref d)).s.elim ((view σ (.ref d)).i.elim ((view σ (.ref d)).k.bind _) _) _) _) _=_;rw[eF h];rfl
theorem DN{ks}(h:σ[d]?=some (.Tl ks l))(hl:l.length<=100000)(hc:ks.contains a=false)(e1:ks++ [a]=ks')(e2:l++ [v]=l'):jB (.ref d) (.str a) v ⟨loc,σ⟩=some (d,.Tl ks' l'):=by
 subst e1 e2;show Option.elim (Option.bind (Option.bind σ[d]? _) _) (Option.bind σ[d]? _) some=_;rw[h];show Option.elim (cond (ks.isEmpty&&l.isEmpty) none none) (Option.map _ (cond (decide (l.length<=100000)) (some (AO.Tl (putD ks l a v).1 (putD ks l a v).2)) none)) some=_;rw[bU hl,uN hc];cases ks.isEmpty&&l.isEmpty<;>rfl
theorem Gb(h:σ[d]?=some (.dct ks l))(hl:l.length<=100000)(hc:ks.contains (a,b,c)=false)(e1:ks++ [(a,b,c)]=ks')(e2:l++ [v]=l'):jB (.ref d) (.tup [.int a,.int b,.int c]) v ⟨loc,σ⟩=some (d,.dct ks' l'):=by
 subst e1 e2;show Option.elim (Option.bind (Option.bind σ[d]? _) _) (Option.bind σ[d]? _) some=_;rw[h];show Option.map _ (cond (decide (l.length<=100000)) (some (AO.dct (putD ks l (a,b,c) v).1 (putD ks l (a,b,c) v).2)) none)=_;rw[bU hl,uN hc];rfl
theorem FU(h:σ[d]?=some (.Tl [] [])):jB (.ref d) (.tup [.int a,.int b,.int c]) v ⟨loc,σ⟩=some (d,.dct [(a,b,c)] [v]):=by
 show Option.elim (Option.bind (Option.bind σ[d]? _) _) (Option.bind σ[d]? _) some=_;rw[h];rfl
end
theorem QW(hn:nm<13):Dk r nm (.str (cX nm)) (nO r) tC where
 cm hk h:=(JL h).trans (ac (λb=>some (!b)) (oN (xH hk hn)))
 sb hk h e:=(FL h).trans ((pN (g:=λk=> .ref (r+(k+3))) (xH hk hn)).trans (ac _ e))
 pu {σ d l j loc} hk h e hl:=(DN h (iH (bz hl ∅)) ((oN (xH hk hn)).trans (ac Option.isSome e)) (List.map_append (f:=λc:Nat×Nat=>cX c.1) (l₁:=l) (l₂:=[(nm,j)])).symm (List.map_append (f:=λc:Nat×Nat=>AV.ref (r+(c.2+3))) (l₁:=l) (l₂:=[(nm,j)])).symm)
 ad hk:=λc hc=>(List.mem_append.mp hc).elim (hk c) λe=>dt e▸hn
theorem SN(r op):Dk r op (sL op) (cO r) λ_=>True where
 cm {σ d l} _ h:=match l with
  | []=>IY h
  |c::l=>(It h).trans (ac (λb=>some (!b)) (oN (tO (c::l) op)))
 sb {σ d l k} _ h e:=match l with
  | []=>aB e
  |c::l=>(FQ h).trans ((pN (g:=λk=> .ref (r+(k+3))) (tO (c::l) op)).trans (ac _ e))
 pu {σ d l j loc} _ h e hl:=match l with
  | []=>FU h
  |c::l=>(Gb h (iH (bz hl ∅)) ((oN (tO (c::l) op)).trans (ac Option.isSome e)) (List.map_append (f:=λc:Nat×Nat=>xd c.1) (l₁:=c::l) (l₂:=[(op,j)])).symm (List.map_append (f:=λc:Nat×Nat=>AV.ref (r+(c.2+3))) (l₁:=c::l) (l₂:=[(op,j)])).symm)
 ad _:=trivial
section
variable {n r pos a q i:Nat} {refs:aV} {nm:Str} {op:Nat} {x y z:Option AV} {σ0 σ1 σ2 σ3 σ4:aX} {o o2:AO}
noncomputable abbrev DH(r i pos:Nat)(x z:Option AV)(σ:aX):St:=⟨[some (.ref r),x,some (.int i),some (.ref pos),z],σ⟩
structure Qb (r i pos:Nat) (refs:aV) (x z:Option AV) (o:AO) (σ0 σ1:aX):Prop where
 h1:dz σ0 (.ref r) 41=some (.lst refs)
 h2:dZ σ0 (.lst refs) (.int i)=some (.ref pos)
 h3:putAt (.ref pos) 8 (.int i) (DH r i pos x z σ0)=some (pos,o)
 he:σ0.set pos o=σ1
theorem Ju(h:Qb r i pos refs x z o σ0 σ1)(h4:dz σ1 (.ref pos) 0=some (.str nm))(h5:dz σ1 (.ref r) 42=some (.ref a))(h6:eP σ1 .NotIn (.str nm) (.ref a)=some false)(s:lb σ1 σ2 (.str nm) a pos q):
  ae (aU n) aL KY ⟨[some (.ref r),x,some (.int i),y,z],σ0⟩=some (.ok .next,DH r i pos x z σ2):=by
 obtain⟨h1,h2,h3,rfl⟩:=h;exact aY [.w (.lst refs),.v (.ref pos),.p pos o,.w (.str nm),.w (.ref a),.b false,.w (.ref a),.w (.str nm),.v (.ref q),.g,.k .none σ2] #[s.ap,s.sm,s.sb,h4,h5,h6,h5,h4,h3,h2,h1] ⋯
theorem Ef(h:Qb r i pos refs x z o σ0 σ1)(h4:dz σ1 (.ref pos) 0=some (.str nm))(h5:dz σ1 (.ref r) 42=some (.ref a))(h6:eP σ1 .NotIn (.str nm) (.ref a)=some true)(hn:σ1++ [AO.lst []]=σ3)(k5:dz σ3 (.ref r) 42=some (.ref a))(k4:dz σ3 (.ref pos) 0=some (.str nm))
  (k6: ∀loc,jB (.ref a) (.str nm) (.ref σ1.length) ⟨loc,σ3⟩=some (a,o2)) (hs:σ3.set a o2=σ4) (k7:dz σ4 (.ref r) 42=some (.ref a)) (k8:dz σ4 (.ref pos) 0=some (.str nm)) (s:lb σ4 σ2 (.str nm) a pos q):
  ae (aU n) aL KY ⟨[some (.ref r),x,some (.int i),y,z],σ0⟩=some (.ok .next,DH r i pos x z σ2):=by
 obtain⟨h1,h2,h3,rfl⟩:=h;subst hn hs;exact aY [.w (.lst refs),.v (.ref pos),.p pos o,.w (.str nm),.w (.ref a),.b true,.w (.ref a),.w (.str nm),.p a o2,.w (.ref a),.w (.str nm),.v (.ref q),.g,.k .none σ2] #[s.ap,s.sm,s.sb,k8,k7,k6 [some (.ref r),x,some (.int i),some (.ref pos),z],k4,k5,h6,h5,h4,h3,h2,h1] ⋯
theorem Ky(h1:call (n+1) 1059 [.ref pos] σ0=some (.ok (.lst [sL op]),σ1))(h2:dz σ1 (.ref r) 43=some (.ref a))(h3:eP σ1 .NotIn (sL op) (.ref a)=some false)(s:lb σ1 σ2 (sL op) a pos q):
  ae (aU (n+1)) aL K5 (DH r i pos x z σ0)=some (.ok .next,DH r i pos x (some (sL op)) σ2):=
 aY [.a,.k (.lst [sL op]) σ1,.w (.ref a),.b false,.w (.ref a),.v (.ref q),.g,.k .none σ2] #[s.ap,s.sm,s.sb,h2,h3,h2,h1] ⋯
theorem Gp(h1:call (n+1) 1059 [.ref pos] σ0=some (.ok (.lst [sL op]),σ1))(h2:dz σ1 (.ref r) 43=some (.ref a))(h3:eP σ1 .NotIn (sL op) (.ref a)=some true)(hn:σ1++ [AO.lst []]=σ3)(k2:dz σ3 (.ref r) 43=some (.ref a))(k3: ∀loc,jB (.ref a) (sL op) (.ref σ1.length) ⟨loc,σ3⟩=some (a,o2))
  (hs:σ3.set a o2=σ4) (k4:dz σ4 (.ref r) 43=some (.ref a)) (s:lb σ4 σ2 (sL op) a pos q):
  ae (aU (n+1)) aL K5 (DH r i pos x z σ0)=some (.ok .next,DH r i pos x (some (sL op)) σ2):=by
 subst hn hs;exact aY [.a,.k (.lst [sL op]) σ1,.w (.ref a),.b true,.w (.ref a),.p a o2,.w (.ref a),.v (.ref q),.g,.k .none σ2] #[s.ap,s.sm,s.sb,k4,k3 [some (.ref r),x,some (.int i),some (.ref pos),some (sL op)],k2,h3,h2,h1] ⋯
end
noncomputable def sO(r:Nat)(refs:aV):AO:= .obj 1130 [.lst refs,.ref (r+1),.ref (r+2)]
noncomputable abbrev hV(B:aX)(r:Nat)(refs:aV)(S:DF):aX:=uv B (sO r refs) (nO r S.names) (cO r S.codes) S.E
noncomputable def x6(S:DF)(nm pos:Nat):Option DF:=cond (Nat.ble S.names.length 900) ((putL S.names S.E nm pos).map λy=>⟨y.1,S.codes,y.2⟩) none
noncomputable def yU(S:DF)(op pos:Nat):Option DF:=cond (Nat.ble S.codes.length 900) ((putL S.codes S.E op pos).map λy=>⟨S.names,y.1,y.2⟩) none
section
variable {n r pos i:Nat} {B:aX} {refs:aV} {x y z w:Option AV} {S S1 S2:DF} {f:FS}
theorem IM(f)(i j):n5 (lay 227) (vz f i) 8 (.int j)=some (vz f j):=⋯
theorem J8(hB:B.length=r)(hp:pos<r)(hf:B[pos]?=some (.obj 227 (vz f (-1))))(hi:refs[i]?=some (.ref pos))(hi2:i<=1000)(hn:f.nm<13)(ha:tC S.names)(h:x6 S f.nm pos=some S1):
  ae (aU n) aL KY ⟨[some (.ref r),x,some (.int i),y,z],hV B r refs S⟩=some (.ok .next,DH r i pos x z (hV (B.set pos (.obj 227 (vz f i))) r refs S1)):=by
 have hp':pos<B.length:=hB▸hp;have Ub:(B.set pos (.obj 227 (vz f i))).length=r:=List.length_set.trans hB;have a1: ∀{b c E},dz (uv (B.set pos (.obj 227 (vz f i))) (sO r refs) b c E) (.ref r) 42=some (.ref (r+1)):=me (Gj Ub) rfl;have a2: ∀{b c E},dz (uv (B.set pos (.obj 227 (vz f i))) (sO r refs) b c E) (.ref pos) 0=some (.str (cX f.nm)):=me ((IF (Ub.symm▸hp)).trans (List.getElem?_set_self hp')) rfl;have h2:dZ (hV B r refs S) (.lst refs) (.int i)=some (.ref pos):=(xj (bz hi2 ∅)).trans hi;have hA:Qb r i pos refs x z (.obj 227 (vz f i)) (hV B r refs S) (hV (B.set pos (.obj 227 (vz f i))) r refs S):=⟨me (Gj hB) rfl,h2,
  (ac (λo:Option AO=>(o.bind AO.o?).bind λp=>(n5 (lay p.1) p.2 8 (.int i)).map λl=>(pos,AO.obj p.1 l)) ((IF hp').trans hf)).trans (ac (Option.map λl=>(pos,AO.obj 227 l)) (IM f (-1) i)),GV hp'⟩
 exact eV h λhq h=>ed h λy hy h=>h▸match Br (So (a:=sO r refs) (c:=cO r S.codes) Ub) (QW (r:=r) hn) ha (Nat.le_of_ble_eq_true hq) hy with
  | .old q hc s=>Ju hA a2 a1 hc s
  | .new q E1 hc hn hp hs s=>Ef hA a2 a1 hc hn a1 a2 hp hs a1 a2 s
theorem HM(hB:B.length=r)(hp:pos<r)(hf:B[pos]?=some (.obj 227 (vz f f.num)))(h:yU S f.op pos=some S1):
  ae (aU (n+2)) aL K5 (DH r i pos x z (hV B r refs S))=some (.ok .next,DH r i pos x (some (sL f.op)) (hV (B.set pos (.Tg (aq f))) r refs S1)):=by
 have hp':pos<B.length:=hB▸hp;have Ub:(B.set pos (.Tg (aq f))).length=r:=List.length_set.trans hB;have hc:=(Am n f (σ:=hV B r refs S) (k:=pos) ((IF hp').trans hf)).trans (ac (λs=>some (Res.ok (AV.lst [sL f.op]),s)) (GV hp'));have a1: ∀{b c E},dz (uv (B.set pos (.Tg (aq f))) (sO r refs) b c E) (.ref r) 43=some (.ref (r+2)):=me (Gj Ub) rfl;exact eV h λhq h=>ed h λy hy h=>h▸match Br (RK (a:=sO r refs) (b:=nO r S.names) Ub) (SN r f.op) trivial (Nat.le_of_ble_eq_true hq) hy with
  | .old q hk s=>Ky hc a1 hk s
  | .new q E1 hk hn hp hs s=>Gp hc a1 hk hn a1 hp hs a1 s
noncomputable def wN(f:FS)(i:Nat):FS:={f with num:=i}
noncomputable def isStep(n:Nat):AV->St->Out Fl:=stepI (aU n) aL (.var 2) (KY++K5)
theorem Mm(hB:B.length=r)(hp:pos<r)(hf:B[pos]?=some (.obj 227 (vz f (-1))))(hi:refs[i]?=some (.ref pos))(hi2:i<=1000)(hn:f.nm<13)(ha:tC S.names)(h1:x6 S f.nm pos=some S1)(h2:yU S1 f.op pos=some S2):
  isStep (n+2) (.int i) ⟨[some (.ref r),x,y,z,w],hV B r refs S⟩=some (.ok .next,⟨[some (.ref r),x,some (.int i),some (.ref pos),some (sL f.op)],hV (B.set pos (.Tg (aq (wN f i)))) r refs S2⟩):=by
 have hp':pos<B.length:=hB▸hp;have hA:=J8 (n:=n+2) (x:=x) (y:=z) (z:=w) hB hp hf hi hi2 hn ha h1;have Ub:(B.set pos (.obj 227 (vz f i))).length=r:=by rw[List.length_set];exact hB
 have VG:=HM (n:=n) (i:=i) (refs:=refs) (x:=x) (z:=w) (f:=wN f i) Ub hp (List.getElem?_set_self hp') h2;rw[List.set_set] at VG;exact(aO hA).trans VG
end
structure PF where
 pos:Nat
 f:FS
noncomputable def Dg:List PF->DF->Option DF
 | [],S=>some S
 |q::P,S=>(x6 S q.f.nm q.pos).bind λS1=>(yU S1 q.f.op q.pos).bind λS2=>Dg P S2
noncomputable def C6:aX->List PF->Nat->aX
 |B,[],_=>B
 |B,q::P,i=>C6 (B.set q.pos (.Tg (aq (wN q.f i)))) P (i+1)
theorem Cv(hn:nm<13)(ha:tC S.names)(h:x6 S nm pos=some S1):tC S1.names:=eV h λ_ h=>ed h λy hy h=>h▸Th hy (λk _ h=>bA h λel _ h=>eV h λ_ h=>((so h).1▸ha:tC y.1)) λh=>((so h).1▸(QW (r:=0) hn).ad ha:tC y.1)
theorem BF(h:yU S op pos=some S1):S1.names=S.names:=eV h λ_ h=>ed h λy _ h=>h▸rfl
section
variable {n r:Nat} {refs:aV} {x:Option AV}
theorem FZ(P): ∀{i:Nat} {B:aX} {S S':DF} {y z w:Option AV},B.length=r->(∀q∈P,q.f.nm<13/\q.pos<r/\B[q.pos]?=some (.obj 227 (vz q.f (-1))))->(P.map PF.pos).Nodup->refs.drop i=P.map (λq=> .ref q.pos)->i+P.length<=1000->tC S.names->Dg P S=some S'->
  ∃y' z' w',dk (isStep (n+2)) ((List.range' i P.length).map λi=>AV.int (Int.ofNat i)) ⟨[some (.ref r),x,y,z,w],hV B r refs S⟩=some (.ok .next,⟨[some (.ref r),x,y',z',w'],hV (C6 B P i) r refs S'⟩):=by
 induction P with
 |nil=>exact fun{i B S S' y z w} hB hf hn hr hl ha h=>⟨y,z,w,aC h▸rfl⟩
 |cons q P ih=>exact fun{i B S S' y z w} hB hf hn hr hl ha h=>bA h λS1 h1 h=>bA h λS2 h2 h=>
   have f:=hf q (.head _);have hi:refs[i]?=some (.ref q.pos):=(List.getElem?_drop (xs:=refs) (i:=i) (j:=0)).symm.trans (ac (·[0]?) hr);have e:=Mm (n:=n) (x:=x) (y:=y) (z:=z) (w:=w) hB f.2.1 f.2.2 hi (bz (Nat.le_add_right _ _) hl) f.1 ha h1 h2;have hn':=List.nodup_cons.mp hn
   (ih (List.length_set.trans hB) (λp hp=>have k:=hf p (.tail _ hp);⟨k.1,k.2.1,(List.getElem?_set_ne λe:q.pos=p.pos=>hn'.1 (e▸List.mem_map_of_mem hp)).trans k.2.2⟩) hn'.2 (List.drop_drop.symm.trans (ac (List.drop 1) hr)) ((Nat.succ_add i P.length).symm▸hl) (BF h2▸Cv f.1 ha h1) h).elim λy' z=>z.elim λz' z=>z.elim λw' z=>⟨y',z',w',(cC e).trans z⟩
theorem EE{n}{f}{vs}{v}{r:Res Fl}{s0 s'}{np nl}{d}{UQ}{gl}{body}{σ σ'}(h:ae (aU n) gl body s0=some (r,s'))(hf:dY.find? (·.1==f)=some (f,UQ,true,np,nl,d,gl,body))
  (hs:((decide (np-d.length<=vs.length)&&decide (vs.length<=np)),St.mk ((c0 np d vs).map some++List.replicate (nl-(c0 np d vs).length) none) σ)=(true,s0)) (e:je true r σ s'.S9=some (.ok v,σ')):call (n+1) f vs σ=some (.ok v,σ'):=
 (gv n f vs σ).trans ((ac (Option.bind · λx=>cR (kD (aU n) x) vs σ) hf).trans ((sX (Prod.mk.inj hs).1 ((ac (ae (aU n) gl body) (Prod.mk.inj hs).2).trans h)).trans e))
theorem wJ(h:σ[k]?=some (.obj C l))(e:n5 (lay C) l m v=some l'):putAt (.ref k) m v ⟨loc,σ⟩=some (k,.obj C l'):=(ac (λo:Option AO=>(o.bind AO.o?).bind λp=>(n5 (lay p.1) p.2 m v).map λl=>(k,AO.obj p.1 l)) h).trans (ac (Option.map λl=>(k,AO.obj C l)) e)
noncomputable abbrev JU(r:Nat)(refs:aV):List (Option AV):=[some (.ref r),some (.lst refs),none,none,none]
theorem DA(h0:cL τ0 .list [.lst refs]=some (.lst refs))(p1:putAt (.ref r) 41 (.lst refs) ⟨JU r refs,τ0⟩=some (r,o1))(e1:τ0.set r o1=τ1)(n1:τ1.length=r1)(e2:τ1++ [AO.Tl [] []]=τ2)(p2:putAt (.ref r) 42 (.ref r1) ⟨JU r refs,τ2⟩=some (r,o2))(e3:τ2.set r o2=τ3)(n2:τ3.length=r2)(e4:τ3++ [AO.Tl [] []]=τ4)(p3:putAt (.ref r) 43 (.ref r2) ⟨JU r refs,τ4⟩=some (r,o3))(e5:τ4.set r o3=τ5):
  ae (aU n) aL (cQ.take 3) ⟨JU r refs,τ0⟩=some (.ok .next,⟨JU r refs,τ5⟩):=by
 subst e1 n1 e2 e3 n2 e4 e5;exact aY [.v (.lst refs),.p r o1,.p r o2,.p r o3] #[p3,p2,p1,h0] ⋯
theorem Db(n){B}{refs}{r}{P}{S'}(hB:B.length=r)(hf: ∀q∈P,q.f.nm<13/\q.pos<r/\B[q.pos]?=some (.obj 227 (vz q.f (-1))))(hn:(P.map PF.pos).Nodup)(hr:refs=P.map λq=> .ref q.pos)(hl:P.length<=900)(h:Dg P ⟨[],[],[]⟩=some S'):
  call (n+3) 1073 [.ref r,.lst refs] (B++ [.obj 1130 []])=some (.ok .none,hV (C6 B P 0) r refs S'):=by
 have hlen:refs.length=P.length:=hr▸List.length_map ..;have hle:refs.length<=100000:=hlen▸bz hl ∅;have len: ∀{T:aX},(B++T).length=r+T.length:=List.length_append.trans (ac (· +_) hB);obtain⟨y',z',w',e⟩:=FZ (n:=n) (r:=r) (refs:=refs) (x:=some (.lst refs)) (y:=none) (z:=none) (w:=none) P (i:=0) (B:=B) (S:=⟨[],[],[]⟩) hB hf hn hr (bz (Nat.le_of_eq (Nat.zero_add _)) (bz hl ∅)) (λ_=>fP) h;have hL:=DA (n:=n+2) (refs:=refs) (τ0:=B++ [.obj 1130 []]) (τ5:=hV B r refs ⟨[],[],[]⟩) (if_pos hle) (wJ (l':=[.lst refs]) (vV hB _ 0) ⋯) (tY hB _ 0) len (List.append_assoc ..) (wJ (l':=[.lst refs,.ref (r+1)]) (vV hB _ 0) ⋯) (tY hB _ 0) len (List.append_assoc ..) (wJ (l':=[.lst refs,.ref (r+1),.ref (r+2)]) (vV hB _ 0) ⋯) (tY hB _ 0);have hw:br (aU (n+2)) aL [.blt .len 2 [.attr (.var 0) 41]] ⟨JU r refs,hV B r refs ⟨[],[],[]⟩⟩=some (.ok [.int refs.length],⟨JU r refs,hV B r refs ⟨[],[],[]⟩⟩):=
  (H5 (aU (n+2)) aL [.blt .len 2 [.attr (.var 0) 41]] ⟨_,_,[.w (.lst refs),.i refs.length],[]⟩ (_,⟨_,_,[],_⟩) ⋯ #[(if_pos hle:cL (hV B r refs ⟨[],[],[]⟩) .len [.lst refs]=some (.int refs.length)),(me (Gj hB) rfl:dz (hV B r refs ⟨[],[],[]⟩) (.ref r) 41=some (.lst refs))]).2
 have hi:bN (hV B r refs ⟨[],[],[]⟩) .range [.int refs.length]=some ((List.range' 0 P.length).map λi=>AV.int (Int.ofNat i)):=(ac (λb=>cond b (some ((List.range refs.length).map fun(i:Nat)=>AV.int (Int.ofNat i))) none) (ca ⟨bU (Int.natCast_nonneg refs.length),bU (Int.ofNat_le.mpr hle)⟩)).trans (ac (λl:List Nat=>some (l.map fun(i:Nat)=>AV.int (Int.ofNat i))) (List.range_eq_range'.trans (ac (List.range' 0 ·) hlen)));have hF:=(rZ (g:=1) (t:= .var 2) (body:=KY++K5) hw hi).trans e;exact EE (f:=1073) (UQ:=true) (np:=2) (nl:=5) (d:=[]) (gl:=aL) (body:=cQ.take 3++ [.fr .range 1 [.blt .len 2 [.attr (.var 0) 41]] (.var 2) (KY++K5)]) (r:= .ok .next) ((aO hL).trans (fj (l:=[]) hF)) ⋯ ⋯ rfl
end
noncomputable def pr(o:Nat):Sz->Nat
 | .b8=>o
 |_=>o+1
noncomputable def bk(nm:Nat)(sh:Sh)(op:Nat)(g:Option Nat):List FS:=fE.map λs=>⟨nm,sh,pr op s,g,s,0⟩
noncomputable def C9:List (List FS):=[bk 0 .mr 132 none,bk 0 .ai 168 none,bk 0 .mi 246 (some 0)]
noncomputable def M5:List (List FS):=[bk 1 .m 254 (some 0),bk 2 .m 254 (some 1),bk 3 .m 246 (some 2),bk 4 .m 246 (some 3)]
noncomputable def FT(d:Nat):List (List FS):=[bk (5+d) .mr (8*d) none,bk (5+d) .rm (8*d+2) none,[.T4,.T6,.Tv].map λs=>⟨5+d,.ms,131,some d,s,0⟩,bk (5+d) .ai (8*d+4) none,bk (5+d) .mi 128 (some d)]
noncomputable def fO(f:FS):AO:= .obj 227 (vz f (-1))
noncomputable def Ge(k:Nat)(b:List FS):List Nat:=(List.range b.length).map λi=>k+1+i
noncomputable def LN:Nat->List (List FS)->List Nat
 |_,[]=>[]
 |k,b::bs=>Ge k b++LN (k+1+b.length) bs
noncomputable def RB:Nat->List (List FS)->aX
 |_,[]=>[]
 |k,b::bs=>eO (Ge k b)::(b.map fO++RB (k+1+b.length) bs)
noncomputable def stC(k:Nat):List (List FS)->aX
 | []=>[]
 |b::bs=>eO (LN k (b::bs))::(b.map fO++RB (k+1+b.length) bs)
noncomputable def xb(P Q:AO):aX:=P::Q::(stC 2 C9++stC 17 M5)
noncomputable def vO(P Q:AO)(d:Nat):aX:=xb P Q++stC 37 (FT d)
noncomputable def tw(P Q:AO)(d e:Nat):aX:=vO P Q d++stC 61 (FT e)
theorem Ld(n)(P Q):call (n+8) 1047 [] [P,Q]=some (.ok (.ref 2),P::Q::stC 2 C9):=⋯
theorem Nd(n)(P Q):call (n+8) 1054 [] (P::Q::stC 2 C9)=some (.ok (.ref 17),xb P Q):=⋯
theorem cj{d:Nat}(h:d<1000):small (d:Int)=true:=bU (by exact dA (by assumption) ∅)
theorem HJ(n:Nat)(P Q){d:Nat}(h:d<1000):call (n+8) 1040 [.str (cX (5+d)),.int d] (xb P Q)=some (.ok (.ref 37),vO P Q d):=
 EE (f:=1040) (UQ:=false) (np:=2) (nl:=4) (d:=[]) (gl:=fb) (body:=gE) (r:= .ok (.ret (.ref 37))) (s0:=⟨[some (.str (cX (5+d))),some (.int d),none,none],xb P Q⟩) (s':=⟨[some (.str (cX (5+d))),some (.int d),some (.int (8*d)),some (.ref 37)],vO P Q d⟩)
  (aY [.a,.a,.a,.a,.a,.a,.a,.a,.a] #[cj h] ⋯) ⋯ ⋯ rfl
theorem Jh(n)(P Q)(h:e<1000):call (n+8) 1040 [.str (cX (5+e)),.int e] (vO P Q d)=some (.ok (.ref 61),tw P Q d e):=
 EE (f:=1040) (UQ:=false) (np:=2) (nl:=4) (d:=[]) (gl:=fb) (body:=gE) (r:= .ok (.ret (.ref 61))) (s0:=⟨[some (.str (cX (5+e))),some (.int e),none,none],vO P Q d⟩) (s':=⟨[some (.str (cX (5+e))),some (.int e),some (.int (8*e)),some (.ref 61)],tw P Q d e⟩)
  (aY [.a,.a,.a,.a,.a,.a,.a,.a,.a] #[cj h] ⋯) ⋯ ⋯ rfl
noncomputable def L9:Nat->List FS->List PF
 |_,[]=>[]
 |k,f::l=>⟨k,f⟩::L9 (k+1) l
noncomputable def NP:Nat->List (List FS)->List PF
 |_,[]=>[]
 |k,b::bs=>L9 (k+1) b++NP (k+1+b.length) bs
noncomputable def xp(d e:Nat):List PF:=NP 2 C9++(NP 17 M5++(NP 37 (FT d)++NP 61 (FT e)))
noncomputable def z6(d e:Nat):List (Nat×Nat):=[(0,0),(1,7),(2,10),(3,11),(4,12),(5+d,13),(5+e,23)]
noncomputable def iC(d e:Nat):List (Nat×Nat):=[(132,1),(133,2),(168,3),(169,4),(246,5),(247,6),(254,8),(255,9),(8*d,14),(8*d+1,15),(8*d+2,16),(8*d+3,17),(131,18),(8*d+4,19),(8*d+5,20),(128,21),(129,22),(8*e,24),(8*e+1,25),(8*e+2,26),(8*e+3,27),(8*e+4,28),(8*e+5,29)]
noncomputable def eA:List (List Nat):=[[3,4,5,6,8,9,10,11,13,14,15,16],[3],[4,5,6],[8],[9,10,11],[13,28,33],[14,15,16,29,30,31,34,35,36],[18,19,20,21],[18,23],[19,20,21,24,25,26],[23,24,25,26],[28,29,30,31],[33,34,35,36],[38,39,40,41,43,44,45,46,48,49,50,52,53,54,55,57,58,59,60],[38],[39,40,41],[43],[44,45,46],[48,49,50,72,73,74],[52],[53,54,55],[57,81],[58,59,60,82,83,84],[62,63,64,65,67,68,69,70,72,73,74,76,77,78,79,81,82,83,84],[62],[63,64,65],[67],[68,69,70],[76],[77,78,79]]
noncomputable def sA(d e:Nat):DF:=⟨z6 d e,iC d e,eA⟩
noncomputable def prs:List (Nat×Nat):=[(0,1),(0,2),(0,3),(0,4),(0,5),(0,6),(0,7),(1,2),(1,3),(1,4),(1,5),(1,6),(1,7),(2,3),(2,4),(2,5),(2,6),(2,7),(3,4),(3,5),(3,6),(3,7),(4,5),(4,6),(4,7),(5,6),(5,7),(6,7)]
theorem yC(h:d<e)(he:e<8):(d,e)∈prs:=by
 have z:=iI (f:=λd=>(List.range 8).map λe=>cond (Nat.blt d e) (prs.any λp=>Nat.beq d p.1&&Nat.beq e p.2) true) (g:=λd=>(List.range 8).map λ_=>true) (l:=List.range 8) ⋯ (List.mem_range.mpr (show d<8 by omega));have z2:=aA (f:=λe=>cond (Nat.blt d e) (prs.any λp=>Nat.beq d p.1&&Nat.beq e p.2) true) (g:=λ_=>true) z (List.mem_range.mpr he);rw[bP,bU h] at z2;obtain⟨p,hp,q⟩:=List.any_eq_true.mp z2;obtain⟨q1,q2⟩:=bG q;rw[eS q1,eS q2];exact hp
theorem qH{β:Type}{F G:Nat->Nat->β}(h:prs.foldr (λp r=>F p.1 p.2::r) []=prs.map λp=>G p.1 p.2){d e}(hp:(d,e)∈prs):F d e=G d e:=iI (f:=λp=>F p.1 p.2) (g:=λp=>G p.1 p.2) h hp
noncomputable def rT(d e:Nat):aV:=(xp d e).map λq=> .ref q.pos
section
variable {d e:Nat}
theorem Mu(hp:(d,e)∈prs):Dg (xp d e) ⟨[],[],[]⟩=some (sA d e):=qH (F:=λd e=>Dg (xp d e) ⟨[],[],[]⟩) (G:=λd e=>some (sA d e)) ⋯ hp
theorem Lo(hp:(d,e)∈prs):(xp d e).all (λq=>Nat.blt q.f.nm 13)=true:=qH (F:=λd e=>(xp d e).all (λq=>Nat.blt q.f.nm 13)) (G:=λd e=>true) ⋯ hp
theorem Mk(P Q):(tw P Q d e).length=85:=⋯
theorem QB(P Q):(xp d e).map (λq=>(Nat.blt q.pos 85,(tw P Q d e)[q.pos]?))=(xp d e).map (λq=>(true,some (fO q.f))):=⋯
theorem FI:((xp d e).map PF.pos).Nodup:=by
 have h:(xp d e).map PF.pos=[3,4,5,6,8,9,10,11,13,14,15,16,18,19,20,21,23,24,25,26,28,29,30,31,33,34,35,36,38,39,40,41,43,44,45,46,48,49,50,52,53,54,55,57,58,59,60,62,63,64,65,67,68,69,70,72,73,74,76,77,78,79,81,82,83,84]:=⋯
 rw[h];decide+kernel
noncomputable def CL(P Q:AO)(d e:Nat):aX:=hV (C6 (tw P Q d e) (xp d e) 0) 85 (rT d e) (sA d e)
theorem PZ(hk:σ.length=k)(h:call (n+1) f (.ref k::vs) (σ++ [.obj C []])=some (.ok .none,σ1)):pP (aU (n+1)) f C vs σ=some (.ok (.ref k),σ1):=by
 subst hk;exact Kn h
theorem H4(n)(P Q)(hp:(d,e)∈prs):pP (aU (n+3)) 1073 1130 [.lst (rT d e)] (tw P Q d e)=some (.ok (.ref 85),CL P Q d e):=by
 have hl:=Mk (d:=d) (e:=e) P Q;have z:=Db n (B:=tw P Q d e) (refs:=rT d e) (r:=85) (P:=xp d e) hl (λq hq=>by
  have h:=aA (QB P Q) hq;have h1:=(Prod.mk.inj h).1;have h2:=gj (Lo hp) q hq;rw[bP] at h1 h2;exact⟨aT h2,aT h1,(Prod.mk.inj h).2⟩) FI rfl (show(xp d e).length<=900 from Nat.le_of_ble_eq_true (⋯:Nat.ble (xp d e).length 900=true)) (Mu hp)
 exact PZ hl z
end
noncomputable def mL(P Q:AO)(d e:Nat):aX:=C6 (tw P Q d e) (xp d e) 0++jd (sO 85 (rT d e))::jd (nO 85 (z6 d e))::jd (cO 85 (iC d e))::eA.map λl=>jd (eO l)
noncomputable def HY:Nat->List PF->List FS
 |_,[]=>[]
 |i,q::P=>wN q.f i::HY (i+1) P
noncomputable def SW:FS:=⟨0,.m,0,none,.b8,0⟩
noncomputable def KT(d e:Nat):List FS:=HY 0 (xp d e)
noncomputable def iA:List (List Nat):=[[0,1,2,3,4,5,6,7,8,9,10,11],[0],[1,2,3],[4],[5,6,7],[8,20,24],[9,10,11,21,22,23,25,26,27],[12,13,14,15],[12,16],[13,14,15,17,18,19],[16,17,18,19],[20,21,22,23],[24,25,26,27],[28,29,30,31,32,33,34,35,36,37,38,39,40,41,42,43,44,45,46],[28],[29,30,31],[32],[33,34,35],[36,37,38,55,56,57],[39],[40,41,42],[43,62],[44,45,46,63,64,65],[47,48,49,50,51,52,53,54,55,56,57,58,59,60,61,62,63,64,65],[47],[48,49,50],[51],[52,53,54],[58],[59,60,61]]
noncomputable def Ig(d e k:Nat):List FS:=(iA.getD k []).map λi=>(KT d e).getD i SW
noncomputable def nX(d e k:Nat):AV:= .lst ((Ig d e k).map aq)
noncomputable def iV(d e:Nat):AV:= .obj 1130 [.lst ((KT d e).map aq),.Tl ((z6 d e).map λc=>cX c.1) ((z6 d e).map λc=>nX d e c.2),.dct ((iC d e).map λc=>xd c.1) ((iC d e).map λc=>nX d e c.2)]
noncomputable def po(d e op:Nat):List FS:=(qY (iC d e) op).elim [] (Ig d e)
section
variable {d e:Nat}
theorem Pg(P Q):fz 8 (.ref 85) (CL P Q d e)=mL P Q d e:=⋯
theorem P7(P Q):fz 8 (.ref 85) (mL P Q d e)=mL P Q d e:=⋯
theorem OL(P Q):rs 8 (mL P Q d e) (.ref 85)=iV d e:=⋯
theorem zE(k):flat (nX d e k)=true:=bM aP _
theorem pH(c:Nat×Nat):flat (nX d e c.2)=true:=zE c.2
theorem tc:flat (iV d e)=true:=by
 have h1:aM ((KT d e).map aq)=true:=bM aP _;have h2:aM ((z6 d e).map λc=>nX d e c.2)=true:=bM (g:=λc:Nat×Nat=>nX d e c.2) pH _;have h3:aM ((iC d e).map λc=>nX d e c.2)=true:=bM (g:=λc:Nat×Nat=>nX d e c.2) pH _;have h:flat (iV d e)=(aM ((KT d e).map aq)&&(aM ((z6 d e).map λc=>nX d e c.2)&&(aM ((iC d e).map λc=>nX d e c.2)&&true))):=by
  generalize (KT d e).map aq=a;kernel_rfl
 rw[h,h1,h2,h3];rfl
theorem Et(k):(Ig d e k).length<=100:=by
 unfold Ig;rw[List.length_map];by_cases h:k<30
 ·exact Nat.le_of_ble_eq_true (aA (f:=λk=>Nat.ble (iA.getD k []).length 100) (g:=λ_=>true) (l:=List.range 30) ⋯ (List.mem_range.mpr h))
 ·rw[List.getD_eq_getElem?_getD,List.getElem?_eq_none (by rw[show iA.length=30 from ⋯];omega)];exact Nat.zero_le _
theorem Em{ks}{a b c:Int}(hn: ¬(a=0/\b=0)): ∀{l:aV},(∀k∈ks,k.1=0/\k.2.1=0)->cN ks l (a,b,c)=none:=by
 induction ks with
 |nil=>exact λ_=>rfl
 |cons k ks ih=>exact fun{l} h=>match l with
  | []=>rfl
  |v::l=>(ac (cond · (some v) (cN ks l (a,b,c))) (beq_eq_false_iff_ne.mpr λe:k=(a,b,c)=>hn (e▸h k (.head _):(a,b,c).1=0/\(a,b,c).2.1=0))).trans (ih λk hk=>h k (.tail _ hk))
noncomputable abbrev QV(d e:Nat):List (Int×Int×Int):=(iC d e).map λc=>xd c.1
noncomputable abbrev Rj(d e:Nat):aV:=(iC d e).map λc=>nX d e c.2
theorem IZ{n:Nat}{a b}{ks}{vs}{x y z:Int}{l}(h:cN ks vs (x,y,z)=some (.lst l)\/cN ks vs (x,y,z)=none/\l=[])(hl:l.length<=1000)(hf:aM l=true)(hi:flat (.obj 1130 [a,b,.dct ks vs])=true)(σ):
  call (n+1) 1099 [.obj 1130 [a,b,.dct ks vs],.int x,.int y,.int z] σ=some (.ok (.lst l),σ):=by
 have hv:aM [.obj 1130 [a,b,.dct ks vs],.int x,.int y,.int z]=true:=ca ⟨hi,rfl⟩;have q:cL [.lst []] .list [.lst l]=some (.lst l):=if_pos (by omega);rcases h with h|⟨h,rfl⟩
 ·have e:(gT [.lst []] .TX (.dct ks vs) [.tup [.int x,.int y,.int z],.ref 0]).map (λp=>(Res.ok p.1,p.2))=some (.ok (.lst l),[.lst []]):=by
   show some (Res.ok ((cN ks vs (x,y,z)).getD (.ref 0)),[AO.lst []])=_;rw[h];rfl
  exact yk (f:=1099) (np:=4) (nl:=4) (d:=[]) (gl:=cI) (body:=dp) (r:= .ok (.ret (.lst l))) (s0:=⟨[some (.obj 1130 [a,b,.dct ks vs]),some (.int x),some (.int y),some (.int z)],[]⟩) (s':=⟨[some (.obj 1130 [a,b,.dct ks vs]),some (.int x),some (.int y),some (.int z)],[.lst []]⟩)
   (aY [.k (.lst l) [.lst []],.v (.lst l)] #[q,e] ⋯) ⋯ ⋯ (dc (v:= .lst l) hf _) σ hv hf
 ·have e:(gT [.lst []] .TX (.dct ks vs) [.tup [.int x,.int y,.int z],.ref 0]).map (λp=>(Res.ok p.1,p.2))=some (.ok (.ref 0),[.lst []]):=by
   show some (Res.ok ((cN ks vs (x,y,z)).getD (.ref 0)),[AO.lst []])=_;rw[h];rfl
  exact yk (f:=1099) (np:=4) (nl:=4) (d:=[]) (gl:=cI) (body:=dp) (r:= .ok (.ret (.lst []))) (s0:=⟨[some (.obj 1130 [a,b,.dct ks vs]),some (.int x),some (.int y),some (.int z)],[]⟩) (s':=⟨[some (.obj 1130 [a,b,.dct ks vs]),some (.int x),some (.int y),some (.int z)],[.lst []]⟩)
   (aY [.k (.ref 0) [.lst []],.a] #[e] ⋯) ⋯ ⋯ (dc (v:= .lst []) rfl _) σ hv rfl
theorem yj(op:Nat):(po d e op).length<=100:=F1 (P:=λl:List FS=>l.length<=100) (λ_=>Nat.zero_le _) λk _=>Et k
theorem Fb:Hq (iV d e) (po d e):=by
 refine⟨tc,⟨_,rfl⟩,λn must esc op σ=> ?_⟩;refine IZ (ks:=QV d e) (vs:=Rj d e) ?_ ?_ (bM aP _) tc σ
 ·cases h:(Nat.beq must 0&&Nat.beq esc 0) with
  |false=>exact .inr ⟨Em (λz=>tf ((ca ⟨(Nat.beq_eq ..).mpr (Int.ofNat.inj z.1),(Nat.beq_eq ..).mpr (Int.ofNat.inj z.2)⟩).symm.trans h)) λk hk=>(List.mem_map.mp hk).elim λc h=>h.2▸⟨rfl,rfl⟩,rfl⟩
  |true=>
   rw[eS (bG h).1,eS (bG h).2];have z:cN (QV d e) (Rj d e) (xd op)=(qY (iC d e) op).map (nX d e):=pN (tO _ _);show _=some (AV.lst (((qY (iC d e) op).elim [] (Ig d e)).map aq))\/_/\((qY (iC d e) op).elim [] (Ig d e)).map aq=[];cases hl:qY (iC d e) op with
   |none=>exact .inr ⟨z.trans (ac _ hl),rfl⟩
   |some k=>exact .inl (z.trans (ac _ hl))
 ·rw[List.length_map];cases (Nat.beq must 0&&Nat.beq esc 0) with
  |false=>exact Nat.zero_le _
  |true=>exact bz (yj op) ∅
theorem Jr(hp:(d,e)∈prs):A0 (po d e):=⟨λop=>bz (yj op) ∅,ac (λo:Option Nat=>o.elim [] (Ig d e)) (qH (F:=λd e=>qY (iC d e) 144) (G:=λd e=>none) ⋯ hp)⟩
theorem Kr(hp:(d,e)∈prs):Ih (po d e):=⟨λop=>by
  have go: ∀(P:List PF) (i:Nat),P.all (λq=>Nat.blt q.f.nm 13)=true-> ∀x∈HY i P,x.nm<13:=by
   intro P
   induction P with
   |nil=>exact λ_ _ _=>fP
   |cons q P ih=>exact λi h x hx=>(cW hx).elim (λe=>e▸Nat.le_of_ble_eq_true (bG h).1) (ih _ (bG h).2 x)
  refine F1 (P:=λl:List FS=> ∀x∈l,x.nm<13) (λ_ _=>fP) λk _ x hx=>(List.mem_map.mp hx).elim λi h=>h.2▸ ?_;rw[List.getD_eq_getElem?_getD];cases hg:(KT d e)[i]? with
  |none=>exact(by decide:0<13)
  |some y=>exact go _ _ (Lo hp) y (gz hg)⟩
end
abbrev Pl:=Option Nat×Nat×Sh
noncomputable def Fg(c:Nat):List Pl:=match c with
 |132|133=>[(none,0,.mr)]
 |168|169=>[(none,0,.ai)]
 |246|247=>[(some 0,0,.mi),(some 2,3,.m),(some 3,4,.m)]
 |254|255=>[(some 0,1,.m),(some 1,2,.m)]
 |_=>[]
noncomputable def cx(d e c:Nat):List Pl:=
 cond (isA c) (cond (hU d e (c/8)) [(none,5+c/8,Ny c)] [])
 (cond (mU.any (Nat.beq c)) [(some d,5+d,ya c),(some e,5+e,ya c)] (Fg c))
noncomputable def PR(c:Nat):List Sz:=cond (Nat.beq (c % 2) 0) [.b8] [.T4,.T6,.Tv]
noncomputable abbrev Cut:=Nat×Sh×Option Nat×Sz
noncomputable def cut(x:FS):Cut:=(x.nm,x.sh,x.digit,x.size)
noncomputable def DG(c:Nat)(q:Pl):List Cut:=(PR c).map λs=>(q.2.1,q.2.2,q.1,s)
noncomputable def oq:List Nat:=[128,129,131,132,133,168,169,246,247,254,255]
theorem qp:(List.range 256).map (λc=>cond (isA c||oq.any (Nat.beq c)) true ((Fg c).isEmpty&& !(mU.any (Nat.beq c))))=(List.range 256).map λ_=>true:=⋯
section
variable {d e c:Nat}
theorem Fi(hp:(d,e)∈prs):(iC d e).map (λy=>isA y.1||oq.any (Nat.beq y.1))=(iC d e).map (λ_=>true):=qH (F:=λd e=>(iC d e).map (λy=>isA y.1||oq.any (Nat.beq y.1))) (G:=λd e=>(iC d e).map (λ_=>true)) ⋯ hp
theorem xc(hp:(d,e)∈prs):(JA++oq).map (λc=>(po d e c).map cut)=(JA++oq).map λc=>(cx d e c).flatMap (DG c):=qH (F:=λd e=>(JA++oq).map (λc=>(po d e c).map cut)) (G:=λd e=>(JA++oq).map λc=>(cx d e c).flatMap (DG c)) ⋯ hp
theorem Jz:qY l c=some k-> ∃y∈l,y.1=c:=by
 induction l with
 |nil=>exact aB
 |cons y l ih=>exact λh=>Ui h (λh _=>⟨y,.head _,eS h⟩) λh=>(ih h).elim λz h=>⟨z,.tail _ h.1,h.2⟩
theorem r8(hp:(d,e)∈prs)(hc:c<256):(po d e c).map cut=(cx d e c).flatMap (DG c):=by
 cases h:(isA c||oq.any (Nat.beq c)) with
 |true=>
  refine aA (f:=λc=>(po d e c).map cut) (g:=λc=>(cx d e c).flatMap (DG c)) (xc hp) (List.mem_append.mpr ?_);cases hA:isA c with
  |true=>
   have h64:c<64:=by
    have z:=(bG hA).1;rw[bP] at z;exact aT z
   exact .inl (List.mem_filter.mpr ⟨List.mem_range.mpr h64,hA⟩)
  |false=>rw[hA] at h;exact .inr (gy h)
 |false=>
  have z:=aA qp (List.mem_range.mpr hc);rw[h] at z;obtain⟨z1,z2⟩:=bG (show((Fg c).isEmpty&& !(mU.any (Nat.beq c)))=true from z);obtain⟨h1,h2⟩:=Bool.or_eq_false_iff.mp h;have e1:cx d e c=[]:=by
   unfold cx;rw[h1,(Bool.not_eq_true' (mU.any (Nat.beq c))).mp z2];exact List.isEmpty_iff.mp z1
  have e2:po d e c=[]:=by
   unfold po;cases hl:qY (iC d e) c with
   |none=>rfl
   |some k=>
    obtain⟨y,hy,rfl⟩:=Jz hl;exact tf ((aA (Fi hp) hy).symm.trans h)
  rw[e1,e2];rfl
noncomputable def fG(g:Option Nat)(q:Pl):Bool:=match q.1 with
 |none=>true
 |some k=>(match g with|some j=>Nat.beq k j|none=>false)
theorem F7:hU d e k=(Nat.beq d k||Nat.beq e k):=by
 have h: ∀a:Nat,((a:Int)==(k:Int))=Nat.beq a k:=λa=>Bool.eq_iff_iff.mpr (beq_iff_eq.trans ⟨λh=>(Nat.beq_eq ..).mpr (Int.ofNat.inj h),λh=>ac _ (eS h)⟩);exact congr (ac or (h d)) ((Bool.or_false _).trans (h e))
theorem uW(g)(hA:isA c=true\/oq.any (Nat.beq c)=true):dM c g d e=((cx d e c).find? (fG g)).map (·.2):=by
 unfold dM cx;cases h1:isA c with
 |true=>
  show cond (hU d e (c/8)) _ _=Option.map _ (List.find? _ (cond (hU d e (c/8)) _ _));cases hU d e (c/8)<;>rfl
 |false=>
  show cond (mU.any (Nat.beq c)) _ _=Option.map _ (List.find? _ (cond (mU.any (Nat.beq c)) _ _));cases h2:mU.any (Nat.beq c) with
  |true=>
   cases g with
   |none=>rfl
   |some k=>
    show cond (hU d e k) (some (5+k,ya c)) none=Option.map (·.2) (List.find? (fG (some k)) [(some d,5+d,ya c),(some e,5+e,ya c)]);rw[F7,List.find?_cons];show _=Option.map (·.2) (match Nat.beq d k with|true=>some (some d,5+d,ya c)|false=>List.find? (fG (some k)) [(some e,5+e,ya c)]);cases q:Nat.beq d k with
    |true=>rw[eS q];rfl
    |false=>
     rw[List.find?_cons];show cond (Nat.beq e k) _ _=Option.map (·.2) (match Nat.beq e k with|true=>some (some e,5+e,ya c)|false=>List.find? (fG (some k)) []);cases q:Nat.beq e k with
     |true=>rw[eS q];rfl
     |false=>rfl
  |false=>
   have hc:oq.any (Nat.beq c)=true:=hA.elim (λh=>by rw[h] at h1;cases h1) id;have hm:c∈ [132,133,168,169,246,247,254,255]:=by
    rcases gy hc with _|⟨_,_|⟨_,_|⟨_,h⟩⟩⟩
    ·cases h2
    ·cases h2
    ·cases h2
    ·exact h
   rcases g with _|g
   ·exact aA (f:=λc=>AR c none) (g:=λc=>((Fg c).find? (fG none)).map (·.2)) ⋯ hm
   ·have big: ∀c∈ [132,133,168,169,246,247,254,255],AR c (some g)=((Fg c).find? (fG (some g))).map (·.2):=by
     rcases g with _|_|_|_|g<;>exact λc hc=>aA (f:=λc=>AR c (some _)) (g:=λc=>((Fg c).find? (fG (some _))).map (·.2)) ⋯ hc
    exact big c hm
theorem Aj(g)(hc:c<256):dM c g d e=((cx d e c).find? (fG g)).map (·.2):=by
 cases h:(isA c||oq.any (Nat.beq c)) with
 |true=>exact uW g (by cases h1:isA c with|true=>exact .inl rfl|false=>rw[h1] at h;exact .inr h)
 |false=>
  have z:=aA qp (List.mem_range.mpr hc);have z3:=aA (f:=λc=>cond (isA c||oq.any (Nat.beq c)) none (AR c g)) (g:=λ_=>none) (l:=List.range 256) ⋯ (List.mem_range.mpr hc);rw[h] at z z3;obtain⟨z1,z2⟩:=bG (show((Fg c).isEmpty&& !(mU.any (Nat.beq c)))=true from z);obtain⟨h1,h2⟩:=Bool.or_eq_false_iff.mp h;unfold dM cx;rw[h1,(Bool.not_eq_true' (mU.any (Nat.beq c))).mp z2,List.isEmpty_iff.mp z1];exact z3
end
noncomputable def ct(p:PS):Bool:=p.Tu&&gI p.rep
theorem GP(hb:ct p=false)(hc:c∈gD):jg p c=(fN p c).elim none λq=>cond (ct q) none (some q):=by
 obtain⟨s,d,r,l,o⟩:=p;cases o with
 |some q=>exact aA (f:=λc=>jg ⟨s,d,r,l,some q⟩ c) (g:=λc=>(fN ⟨s,d,r,l,some q⟩ c).elim none λq=>cond (ct q) none (some q)) ⋯ hc
 |none=>
  have z:=aA (f:=λc=>cond (ct ⟨s,d,r,l,none⟩) none (jg ⟨s,d,r,l,none⟩ c)) (g:=λc=>cond (ct ⟨s,d,r,l,none⟩) none ((fN ⟨s,d,r,l,none⟩ c).elim none λq=>cond (ct q) none (some q))) (l:=gD)
   (N6 (f:=λp=>gD.map λc=>cond (ct p) none (jg p c)) (g:=λp=>gD.map λc=>cond (ct p) none ((fN p c).elim none λq=>cond (ct q) none (some q))) none ⋯ s d r l) hc
  rw[hb] at z;exact z
theorem Bf(hb:ct p=true)(hc:c∈gD)(h:fN p c=some q):ct q=true:=by
 obtain⟨s,d,r,l,o⟩:=p;cases o with
 |some x=>rw[u9 rfl] at h;exact aB h
 |none=>
  have z:=aA (f:=λc=>cond (ct ⟨s,d,r,l,none⟩) ((fN ⟨s,d,r,l,none⟩ c).elim true ct) true) (g:=λc=>true) (l:=gD)
   (N6 (f:=λp=>gD.map λc=>cond (ct p) ((fN p c).elim true ct) true) (g:=λp=>gD.map λc=>true) none ⋯ s d r l) hc
  rw[hb,h] at z;exact z
theorem yr(hc:c∈sY):gp c=true/\ ∀p,jg p c=none:=by
 refine⟨aA (f:=gp) (g:=λ_=>true) (l:=sY) ⋯ hc,λp=> ?_⟩;obtain⟨s,d,r,l,o⟩:=p;cases o<;>exact aA (f:=λc=>jg ⟨s,d,r,l,_⟩ c) (g:=λ_=>none) (l:=sY) ⋯ hc
theorem F6(hc:c∈gD):gp c=true:=aA (f:=gp) (g:=λ_=>true) (l:=gD) ⋯ hc
theorem zV(hc:c∈mW):gp c=false:=aA (f:=gp) (g:=λ_=>false) (l:=mW) ⋯ hc
theorem nv: ∀(l:List UInt8) (p q:PS) (i j:Nat),ct p=true->dT l p i=some (q,j)->ct q=true
 | [],p,q,i,j,hb,h=>by exact aB h
 |c::l,p,q,i,j,hb,h=>by
  have hc:=bV c;dsimp only[dT] at h;cases h1:cy c.toNat with
  |true=>
   rw[h1] at h;change cond (jQ p) none _=_ at h;cases h2:jQ p with
   |true=>rw[h2] at h;exact aB h
   |false=>rw[h2] at h;exact nv l {p with Te:=some (fX c.toNat)} q (i+1) j hb h
  |false=>
   rw[h1] at h;rcases sH hc h1 with hm|hm|hm
   ·rw[wv hm] at h;exact aB h
   ·rw[(mV hm).1,(mV hm).2] at h;change (fN p c.toNat).elim none _=_ at h;cases h4:fN p c.toNat with
    |none=>rw[h4] at h;exact aB h
    |some r=>rw[h4] at h;exact nv l r q (i+1) j (Bf hb hm h4) h
   ·rw[(gR hm).1,(gR hm).2] at h;cases h;exact hb
def Cs(x:Option (PS×Nat))(n:Nat)(y:Option (PS×Nat)):Prop:=match x with
 |none=>y=none\/ ∃q,y=some (q,n)
 |some (q,j)=>y=cond (ct q) none (some (q,j))
theorem qB: ∀(l:List UInt8) (p:PS) (i:Nat),ct p=false->Cs (dT l p i) (i+l.length) (g8 l p i)
 | [],p,i,hb=> .inr ⟨p,rfl⟩
 |c::l,p,i,hb=>by
  have hc:=bV c;rw[List.length_cons,show i+(l.length+1)=(i+1)+l.length by omega];unfold dT g8;cases h1:cy c.toNat with
  |true=>
   show Cs (cond (jQ p) none _) _ (cond (jQ p) none _);cases h2:jQ p with
   |true=>exact .inl rfl
   |false=>exact qB l {p with Te:=some (fX c.toNat)} (i+1) hb
  |false=>
   rcases sH hc h1 with hm|hm|hm
   ·rw[wv hm,(yr hm).1];show Cs none _ ((jg p c.toNat).elim none _);rw[(yr hm).2];exact .inl rfl
   ·rw[(mV hm).1,(mV hm).2,F6 hm];show Cs ((fN p c.toNat).elim none _) _ ((jg p c.toNat).elim none _);rw[GP hb hm];cases h4:fN p c.toNat with
    |none=>exact .inl rfl
    |some q=>
     show Cs (dT l q (i+1)) _ ((cond (ct q) none (some q)).elim none _);cases h5:ct q with
     |false=>exact qB l q (i+1) h5
     |true=>
      cases h6:dT l q (i+1) with
      |none=>exact .inl rfl
      |some y=>
       obtain⟨r,j⟩:=y;show none=cond (ct r) none _;rw[nv l q r (i+1) j h5 h6];rfl
   ·rw[(gR hm).1,(gR hm).2,zV hm];show some (p,i)=cond (ct p) none _;rw[hb];rfl
noncomputable def Pv(g:Nat)(p:PS)(x:Cut):Bool:=x.2.2.1.elim true (λd=>Nat.beq d g)&&iJ x.2.2.2 p
noncomputable def K4(x:Cut):Bool:=x.2.2.1.isSome||cS x.2.1
theorem Cq(g)(p)(c)(q):(DG c q).find? (Pv g p)=cond (fG (some g) q) (some (q.2.1,q.2.2,q.1,nN c p)) none:=by
 have e: ∀s,Pv g p (q.2.1,q.2.2,q.1,s)=(fG (some g) q&&iJ s p):=λs=>by
  obtain⟨o,q⟩:=q;cases o<;>rfl
 unfold DG PR nN;cases Nat.beq (c % 2) 0 with
 |true=>
  show List.find? _ [(q.2.1,q.2.2,q.1,Sz.b8)]=_;rw[List.find?_cons,e];cases fG (some g) q<;>rfl
 |false=>
  show List.find? _ [(q.2.1,q.2.2,q.1,Sz.T4),(q.2.1,q.2.2,q.1,Sz.T6),(q.2.1,q.2.2,q.1,Sz.Tv)]=_;rw[List.find?_cons,List.find?_cons,List.find?_cons,e,e,e];show(match fG (some g) q&&(!bW p.Te&&p.dat) with|true=>_|false=>match fG (some g) q&&(!bW p.Te&& !p.dat) with|true=>_|false=>match fG (some g) q&&bW p.Te with|true=>_|false=>_)=cond (fG (some g) q) (some (q.2.1,q.2.2,q.1,cond (bW p.Te) Sz.Tv (cond p.dat Sz.T4 Sz.T6))) none;cases fG (some g) q<;>cases bW p.Te<;>cases p.dat<;>rfl
theorem Fa(c)(q):(DG c q).any K4=(q.1.isSome||cS q.2.2):=by
 unfold DG PR;cases Nat.beq (c % 2) 0
 ·show(K4 _||(K4 _||(K4 _||false)))=_;show((q.1.isSome||cS q.2.2)||((q.1.isSome||cS q.2.2)||((q.1.isSome||cS q.2.2)||false)))=_;cases (q.1.isSome||cS q.2.2)<;>rfl
 ·show((q.1.isSome||cS q.2.2)||false)=_;rw[Bool.or_false]
theorem qd(g)(p)(c): ∀l:List Pl,(l.flatMap (DG c)).find? (Pv g p)=(l.find? (fG (some g))).map λq=>(q.2.1,q.2.2,q.1,nN c p)
 | []=>rfl
 |q::l=>by
  rw[List.flatMap_cons,List.find?_append,Cq,qd g p c l,List.find?_cons];cases fG (some g) q<;>rfl
theorem rU(c): ∀l:List Pl,(l.flatMap (DG c)).any K4=l.any λq=>q.1.isSome||cS q.2.2
 | []=>rfl
 |q::l=>by rw[List.flatMap_cons,List.any_append,Fa,rU c l,List.any_cons]
section
variable {d e c:Nat}
theorem KD(x):fg x=K4 (cut x):=by
 obtain⟨nm,sh,op,dg,s,num⟩:=x;cases sh<;>rfl
theorem vx(hp:(d,e)∈prs)(hc:c<256)(f):((po d e c).find? (pk f)).map cut=((cx d e c).find? (fG (some (uq f)))).map λq=>(q.2.1,q.2.2,q.1,nN c f.p):=by
 rw[<-qd,<-r8 hp hc,List.find?_map];rfl
theorem E4(hp:(d,e)∈prs)(hc:c<256):(po d e c).any fg=(cx d e c).any λq=>q.1.isSome||cS q.2.2:=by
 rw[<-rU c,<-r8 hp hc,List.any_map];exact ac (λg=>(po d e c).any g) (funext KD)
noncomputable def KJ(c:Nat):Bool:=cond (isA c) (cS (Ny c)) (cond (mU.any (Nat.beq c)) true (!(Nat.beq c 168||Nat.beq c 169)))
theorem IV(hc:c<256): ∀q∈Fg c,(q.1.isSome||cS q.2.2)=(!(Nat.beq c 168||Nat.beq c 169))/\cS q.2.2=(!(Nat.beq c 168||Nat.beq c 169)):=λq hq=>by
 have z:=aA (f:=λc=>(Fg c).all λq=>((q.1.isSome||cS q.2.2)==(!(Nat.beq c 168||Nat.beq c 169)))&&(cS q.2.2==(!(Nat.beq c 168||Nat.beq c 169)))) (g:=λ_=>true) (l:=List.range 256) ⋯ (List.mem_range.mpr hc);obtain⟨z1,z2⟩:=bG (gj z q hq);exact⟨eq_of_beq z1,eq_of_beq z2⟩
theorem Di(c):cS (ya c)=true:=by
 unfold ya;cases Nat.beq c 131<;>rfl
theorem C5(hc:c<256): ∀q∈cx d e c,(q.1.isSome||cS q.2.2)=KJ c/\cS q.2.2=KJ c:=λq hq=>by
 unfold cx at hq;unfold KJ;cases h1:isA c with
 |true=>
  rw[h1] at hq;change q∈cond (hU d e (c/8)) _ _ at hq;cases h2:hU d e (c/8) with
  |false=>rw[h2] at hq;cases hq
  |true=>rw[h2] at hq;cases dt hq;exact⟨rfl,rfl⟩
 |false=>
  rw[h1] at hq;change q∈cond (mU.any (Nat.beq c)) _ _ at hq;show _=cond (mU.any (Nat.beq c)) true _/\_=cond (mU.any (Nat.beq c)) true _;cases h2:mU.any (Nat.beq c) with
  |false=>rw[h2] at hq;exact IV hc q hq
  |true=>
   rw[h2] at hq;rcases cW hq with rfl|hq
   ·exact⟨rfl,Di c⟩
   ·cases dt hq;exact⟨rfl,Di c⟩
end
theorem yl(h:cA b i=some m):m.rest<=b.length/\ ∃c,b[i]?=some c/\m.o=c.toNat:=by
 have hf: ∀{o Ti k},dw b o Ti k=some m->m.rest<=b.length:=fun{o Ti k} h=>by
  unfold dw at h;cases q:Nat.blt b.length (k+fS (o/64) (o % 8) Ti) with
  |true=>rw[q] at h;exact aB h
  |false=>
   rw[q] at h;cases h;rw[bP] at q;have:=of_decide_eq_false q;show k+fS (o/64) (o % 8) Ti<=b.length;omega
 cases hc:b[i]? with
 |none=>unfold cA at h;rw[hc] at h;exact aB h
 |some c=>
  refine⟨?_,c,rfl,yQ hc h⟩;unfold cA at h;rw[hc] at h;change cond (bD c.toNat) _ _=_ at h;cases q:bD c.toNat with
  |false=>rw[q] at h;exact hf h
  |true=>
   rw[q] at h;change (b[i+1]?).elim none _=_ at h;cases hs:b[i+1]? with
   |none=>rw[hs] at h;exact aB h
   |some s=>rw[hs] at h;exact hf h
theorem DT(h:eM t s p b i=some y):y.2<=b.length/\(rf y.1=true->Hn t=true):=by
 have w: ∀{e k g},EQ k=true->wO b e k g=some y->y.2<=b.length/\(rf y.1=true->jm g=true):=fun{e k g} hk h=>by
  unfold wO fld at h;cases hq:(Nat.blt b.length (e+eH k)&&Nat.blt 0 (eH k)) with
  |true=>rw[hq] at h;exact aB h
  |false=>
   rw[hq,] at h;cases h;rw[Gz hk,Bool.and_true,bP] at hq;have:=of_decide_eq_false hq;exact⟨by show e+eH k<=b.length;omega,id⟩
 unfold eM at h;cases ht:cS t with
 |false=>
  have e:t= .ai:=by cases t<;>first|rfl|cases ht
  subst e;obtain⟨h1,h2⟩:=w (by cases s<;>rfl) h;exact⟨h1,λz=>by have:=h2 z;cases this⟩
 |true=>
  rw[ht] at h;change (cA b i).elim none _=_ at h;cases hr:cA b i with
  |none=>rw[hr] at h;exact aB h
  |some m=>
   rw[hr] at h;have hm:=(yl hr).1;cases t with
   |mr=>cases h;exact⟨hm,λ_=>rfl⟩
   |rm=>cases h;exact⟨hm,λz=>by cases z⟩
   |m=>cases h;exact⟨hm,λ_=>rfl⟩
   |mi=>exact⟨(w (by cases s<;>rfl) h).1,λ_=>rfl⟩
   |ms=>exact⟨(w rfl h).1,λ_=>rfl⟩
   |ai=>cases ht
theorem Fe(h:j<13):Bb j= !(ja j):=aA (f:=Bb) (g:=λj=> !(ja j)) (l:=mE) ⋯ (z7 h)
section
variable {b:List UInt8} {p:PS} {i:Nat} {f:kJ} {x:FS} {j:Nat} {t:Sh} {s:Sz}
theorem zp(hb:b.length<=15)(hp:ct p=false)(hf:f.p=p)(hj:j<13)(h1:x.nm=j)(h2:x.sh=t)(h3:x.size=s)(ho:uO x f b=eM t s p b (i+1)):qE b (f,x)=yB b p i (j,t) s:=by
 subst h1 h2 h3 hf;show(xi b f x).map _=_;unfold xi yB;rw[ho];cases hL:eM x.sh x.size f.p b (i+1) with
 |none=>show none=cond _ none none;cases (gI f.p.rep||(f.p.dat&& !(mM x.size)))<;>rfl
 |some y=>
  obtain⟨hy,hk⟩:=DT hL;have h15:Nat.blt 15 y.2=false:=by rw[bP];exact decide_eq_false (by omega)
  have hc:(mD x&&rf y.1)=(rf y.1&& !(ja x.nm)):=by
   unfold mD;rw[Fe hj];cases hd:rf y.1 with
   |false=>rw[Bool.and_false,Bool.false_and]
   |true=>rw[hk hd,Bool.and_true,Bool.and_true,Bool.true_and]
  show Option.map _ (cond (Nat.blt 15 y.2) none (cond (rk x f y.1) none (cond (!f.p.Tu&&gI f.p.rep) none (some y))))=cond (gI f.p.rep||(f.p.dat&& !(mM x.size))) none (cond (kP f.p&& !(y.1.any jm)) none (cond (f.p.Tu&& !(rf y.1&& !(ja x.nm))) none (some (AQ f.p x.nm y))));unfold rk;rw[h15,hc];show Option.map _ (cond ((f.p.dat&& !(mM x.size))||((f.p.Tu&& !(rf y.1&& !(ja x.nm)))||(kP f.p&& !(y.1.any jm)))) none (cond (!f.p.Tu&&gI f.p.rep) none (some y)))=_;unfold ct at hp;generalize (f.p.dat&& !(mM x.size))=A;generalize (rf y.1&& !(ja x.nm))=B;generalize (kP f.p&& !(y.1.any jm))=C;have e:MG x y.1 (fy f.p) y.2=AQ f.p x.nm y:=rfl;generalize hlk:f.p.Tu=lk at hp;generalize WC:gI f.p.rep=rp at hp;cases lk<;>cases rp<;>cases A<;>cases B<;>cases C<;>first|rfl|cases hp
end
section
variable {d e:Nat} {b:List UInt8} {p:PS} {i:Nat} {c:UInt8}
theorem zq(hp:(d,e)∈prs)(hb:b.length<=15)(hq:ct p=false)(hg: ∀g,fZ b i=some g->g<8):(iK b (po d e c.toNat) p i c.toNat).elim none (qE b)=(dM c.toNat (fZ b i) d e).elim none λx=>yB b p i x (nN c.toNat p):=by
 have hc:=bV c;have hall:=C5 (d:=d) (e:=e) hc;have hany:=E4 hp hc;have hpl:=Aj (d:=d) (e:=e) (fZ b i) hc;have go: ∀f:kJ,f.p=p->(∀q∈cx d e c.toNat,fG (some (uq f)) q=fG (fZ b i) q)->(∀x:FS,(cS x.sh=KJ c.toNat)->uO x f b=eM x.sh x.size p b (i+1))->(fA (po d e c.toNat) f).elim none (qE b)=(dM c.toNat (fZ b i) d e).elim none λx=>yB b p i x (nN c.toNat p):=λf hf hdg Vq=>by
  have hfind:=vx hp hc f;have e1:(cx d e c.toNat).find? (fG (some (uq f)))=(cx d e c.toNat).find? (fG (fZ b i)):=by
   clear hfind hpl hany;generalize cx d e c.toNat=l at hdg ⊢;clear hall
   induction l with
   |nil=>rfl
   |cons q l ih=>rw[List.find?_cons,List.find?_cons,hdg q List.mem_cons_self,ih λr hr=>hdg r (List.mem_cons_of_mem _ hr)]
  rw[e1] at hfind;unfold fA;rw[hpl];cases hq2:(cx d e c.toNat).find? (fG (fZ b i)) with
  |none=>
   rw[hq2] at hfind;rw[Option.map_eq_none_iff.mp hfind];rfl
  |some q=>
   rw[hq2] at hfind;obtain⟨x,hx,ex⟩:=Option.map_eq_some_iff.mp hfind;rw[hx];have h1:x.nm=q.2.1:=ac (·.1) ex;have h2:x.sh=q.2.2:=ac (·.2.1) ex;have h3:x.size=nN c.toNat p:=(ac (·.2.2.2) ex).trans (by rw[hf]);have hj:q.2.1<13:=uX (bV c) hg (j:=q.2.1) (t:=q.2.2) (by rw[hpl,hq2];rfl);have hmem:=List.mem_of_find?_eq_some hq2;exact zp (i:=i) hb hq hf hj h1 h2 h3 (by rw[<-h2,<-h3];exact Vq x (by rw[h2];exact(hall q hmem).2))
 unfold iK;cases ha:(po d e c.toNat).any fg with
 |false=>
  rw[ha] at hany;have hno: ∀q∈cx d e c.toNat,q.1=none/\KJ c.toNat=false:=λq hq=>by
   have z:=List.any_eq_false.mp hany.symm q hq;have z:=(Bool.not_eq_true _).mp z;obtain⟨z1,z2⟩:=Bool.or_eq_false_iff.mp z;refine⟨?_,((hall q hq).2).symm.trans z2⟩;cases h:q.1 with
   |none=>rfl
   |some k=>rw[h] at z1;cases z1
  cases hl:cx d e c.toNat with
  |nil=>
   have Wb:(po d e c.toNat).find? (pk (gk p i 0 c.toNat))=none:=by
    have:=vx hp hc (gk p i 0 c.toNat);rw[hl] at this;exact Option.map_eq_none_iff.mp this
   show(fA _ _).elim none _=_;unfold fA;rw[Wb,hpl,hl];rfl
  |cons q0 l0=>
   have hr:KJ c.toNat=false:=(hno q0 (by rw[hl];exact List.mem_cons_self)).2;refine go (gk p i 0 c.toNat) rfl (λq hq=> ?_) (λx hx=> ?_)
   ·unfold fG;rw[(hno q hq).1]
   ·unfold eM;rw[hx,hr];rfl
 |true=>
  rw[ha] at hany;obtain⟨q0,hq0,hz⟩:=List.any_eq_true.mp hany.symm;have hr:KJ c.toNat=true:=((hall q0 hq0).1).symm.trans hz;show((cA b (i+1)).elim none λm=>fA (po d e c.toNat) {gk p i 0 c.toNat with m:=some m}).elim none _=_;cases hm:cA b (i+1) with
  |none=>
   show none=_;cases hp2:dM c.toNat (fZ b i) d e with
   |none=>rfl
   |some y=>
    rw[hpl] at hp2;obtain⟨q,hq1,rfl⟩:=Option.map_eq_some_iff.mp hp2;show none=yB b p i q.2 (nN c.toNat p);unfold yB eM;rw[((hall q (List.mem_of_find?_eq_some hq1)).2).trans hr,hm];show none=cond _ none none;cases (gI p.rep||(p.dat&& !(mM (nN c.toNat p))))<;>rfl
  |some m=>
   obtain⟨_,c',hc',ho⟩:=yl hm;refine go {gk p i 0 c.toNat with m:=some m} rfl (λq hq=> ?_) (λx hx=> ?_)
   ·have e1:fZ b i=some (m.o/8 % 8):=by unfold fZ;rw[hc',ho];rfl
    rw[e1];rfl
   ·unfold eM;rw[hx,hr,hm];rfl
theorem Dt(hp:(d,e)∈prs)(hb:b.length<=15):uL (po d e) b=eK b d e:=by
 have h2:=qB b p0 0 rfl;unfold uL iF eK;cases hs:dT b p0 0 with
 |none=>
  rw[hs] at h2;rcases h2 with h2|⟨q,h2⟩
  ·rw[h2];rfl
  ·rw[h2];show((b[0+b.length]?).elim none _).elim none _=_;rw[List.getElem?_eq_none (by omega)];rfl
 |some q=>
  obtain⟨q,j⟩:=q;rw[hs] at h2;have h2:g8 b p0 0=cond (ct q) none (some (q,j)):=h2;rw[h2];show _=cond (ct q) none ((b[j]?).elim none λc=>(dM c.toNat (fZ b j) d e).elim none λx=>yB b q j x (nN c.toNat q));cases hq:ct q with
  |true=>rfl
  |false=>
   obtain⟨c,hc,-⟩:=lX (b:=b) (k:=0) rfl hs;show((b[j]?).elim none λc=>cond (Nat.beq c.toNat 15) none (iK b (po d e c.toNat) q j c.toNat)).elim none _=(b[j]?).elim none λc=>_;rw[hc];show(cond (Nat.beq c.toNat 15) none (iK b (po d e c.toNat) q j c.toNat)).elim none _=(dM c.toNat (fZ b j) d e).elim none λx=>yB b q j x (nN c.toNat q);cases h15:Nat.beq c.toNat 15 with
   |false=>exact zq hp hb hq λg hg=>t8 hg
   |true=>rw[eS h15];rfl
end
noncomputable def i8(L:List Int)(s:Nat)(t:Int):AO:= .lst [.lst (L.map .int),.int s,.int t]
inductive bY:AO->Nat->Prop
 |mk {L:List Int} {s m:Nat} {t:Int} (h1:L.length<=40) (h2:s+m<=1000):bY (i8 L s t) m
noncomputable def nI(k:Nat):AV:= .int k
inductive Got (P:Nat->Prop) (k n:Nat) (f:Addr) (vs:aV) (σ:aX) (st:AO->aX):Prop
 |mk (v:Nat) (o':AO) (hv:P v) (ho:bY o' k) (h:call n f vs σ=some (.ok (.int v),st o'))
theorem bY.le(h:bY o m)(hk:k<=m):bY o k:=by
 cases h with
 |mk h1 h2=>exact .mk h1 (by omega)
theorem xn(L:List Int):aM (L.map .int)=true:=bM (λ_=>rfl) L
theorem bY.flat(h:bY o m):du o=true/\o.live=true/\o.isObj=false/\ ∃l,o= .lst l/\aM l=true:=by
 cases h with
 |mk h1 h2=>
  rename_i L s t;have e:aM [.lst (L.map .int),.int s,.int t]=true:=ca ⟨xn L,rfl⟩;exact⟨e,rfl,rfl,_,rfl,e⟩
theorem Cl(hv:flat v=true)(hl:aM l=true)(o0)(τ):je false (.ok (.ret v)) [o0] (.lst l::τ)=some (.ok v,[.lst l]):=by
 show cond (flat (rs 8 (.lst l::τ.map jd) v)&&([qX 8 (.lst l::τ.map jd) (.lst l)].all du)) (some (Res.ok (rs 8 (.lst l::τ.map jd) v),[qX 8 (.lst l::τ.map jd) (.lst l)])) none=_;rw[gq 8 hv,lO (o:= .lst l) hl,hv];exact ac (λb=>cond (b&&true) _ none) hl
theorem Os{n}{f}{vs vs'}{s0}{np nl}{d}{gl}{body}{locs}{τ}(ho:bY o m)(ho':bY o' m')(hv':flat v=true)
  (h:ae (aU n) gl body s0=some (.ok (.ret v),⟨locs,o'::τ⟩)) (hf:dY.find? (·.1==f)=some (f,true,false,np,nl,d,gl,body))
  (hs:((decide (np-d.length<=(AV.ref 0::vs').length)&&decide ((AV.ref 0::vs').length<=np)),St.mk ((c0 np d (.ref 0::vs')).map some++List.replicate (nl-(c0 np d (.ref 0::vs')).length) none) [o])=(true,s0))
  {σ σ1:aX} {i:Nat} (hz:jk vs σ=σ1) (hm:vs.map (rs 8 σ1)=vs') (hv:aM vs'=true) (hk:σ1[i]?=some o):call (n+1) f (.ref i::vs) σ=some (.ok v,σ1.set i o'):=by
 obtain⟨f1,f2,f3,l,rfl,f4⟩:=ho.flat
 obtain⟨g1,g2,g3,l',rfl,g4⟩:=ho'.flat
 exact OA (r:= .ok (.ret v)) h hf hs (Cl hv' g4 _ τ) hz hm hv hk f1 f2 (by rw[hv',g1];rfl)
theorem xQ{a:Int}{m:Nat}(h:0<m): ∃v:Nat,a.fmod m=v/\v<m:=by
 have h1:0<=a.fmod m:=Int.fmod_nonneg_of_pos a (by omega);have h2:a.fmod m<m:=Int.fmod_lt_of_pos a (by omega);obtain⟨v,hv⟩:=Int.eq_ofNat_of_zero_le h1;exact⟨v,hv,by rw[hv] at h2;omega⟩
theorem vq(a:Int){m:Nat}(h:0<m):binI [] .Mod (.int a) (.int m)=some (.int (a.fmod m)):=by
 show(if(m:Int) !=0 then some (AV.int (a.fmod m)) else none)=_;rw[if_pos (bne_iff_ne.mpr (by omega))]
theorem G9(a:Int){m:Nat}(h:0<m)(h2:m<=1000):binI [] .FloorDiv (.int a) (.int m)=some (.int (a.fdiv m)):=by
 show(if small (m:Int)&&(m:Int) !=0 then some (AV.int (a.fdiv m)) else none)=_;rw[show small (m:Int)=true from bU (by omega),if_pos (by rw[Bool.true_and];exact bne_iff_ne.mpr (by omega))]
noncomputable abbrev dS(o:AO)(m:Nat)(v2 v3 v4 v5 v6:Option AV)(τ:aX):St:=⟨[some (.ref 0),some (.int m),v2,v3,v4,v5,v6],o::τ⟩
noncomputable def AM:Int:=10 ^ (18:Int).toNat
noncomputable def oz(c:Int):Int:=if c<0 then-c else c
noncomputable def BK(c:Int)(s:Nat):Int:=((c.fmod 2147483587+60917*s+2293)^ (5:Int).toNat).fmod 2147483629
noncomputable def vg(c:Int)(s:Nat):Int:=((BK c s*(2*s+5113)+40693*s*s+37)^ (3:Int).toNat).fmod 2147483579
theorem iM{a:Int}{k:Nat}(ha:a.natAbs<2 ^ 63)(hk:k<=1000):(small a&&decide (0<=(k:Int))&&decide ((k:Int)<=1000))=true:=fw ha hk
section
variable {n s m:Nat} {L:List Int} {t c:Int} {τ:aX}
theorem Qk(ht:0<t)(hm:0<m)(hm2:m<=1000):ae (aU n) bF bw (dS (i8 L s t) m none none none none none [])=some (.ok (.ret (.int (t.fmod m))),dS (i8 L s (t.fdiv m)) m (some (.int (t.fmod m))) none none none none []):=
 aY [.a,.b true,.a,.a,.w (.int (t.fmod m)),.a,.a,.w (.int (t.fdiv m))] #[G9 t hm hm2,vq t hm,qT (p:=(0:Int)<t) ht] ⋯
theorem Qt(ht: ¬0<t):ae (aU n) bF (bw.take 3) (dS (i8 L s t) m none none none none none [])=some (.ok .next,dS (i8 L (s+1) t) m none (some (.int s)) none none none []):=
 aY [.a,.b false,.a] #[qF (p:=(0:Int)<t) ht] ⋯
theorem Ph(hs:s<1000)(hL:L.length<=40): ∃c,ae (aU n) bF ((bw.drop 3).take 2) (dS (i8 L (s+1) t) m none (some (.int s)) none none none [])=some (.ok .next,dS (i8 L (s+1) t) m none (some (.int s)) (some (.int c)) none none [.lst []]):=by
 cases L with
 |nil=>exact⟨60917*(s:Int)+2293+Int.fmod 0 1000003,aY [.a,.a,.a,.a,.a] #[(cj (d:=s) (by omega))] ⋯⟩
 |cons x L=>
  obtain⟨v,hv,hlt⟩:=xQ (a:=s) (m:=(x::L).length) (Nat.succ_pos _);have hg: ∃y,(x::L)[v]?=some y:=⟨_,List.getElem?_eq_getElem hlt⟩;obtain⟨y,hy⟩:=hg;have hl:(x::L).length<=1000:=by exact dA (by assumption) ∅
  have q1:vC [] (.lst ((x::L).map .int)) none (some 1)=some (.lst [.int x]):=by
   show cond (decide (((x::L).map AV.int).length<=100000)) (some (AV.lst (cf ((x::L).map AV.int) none (some ((1:Nat):Int))))) none=_;rw[bU (iH hl),mB];rfl
  have q3:dZ [] (.lst ((x::L).map .int)) (.int ((s:Int).fmod (x::L).length))=some (.int y):=by
   rw[hv];exact(xj (by omega)).trans (List.getElem?_map.trans (ac _ hy))
  exact⟨y,aY [.a,.w (.lst [.int x]),.a,.a,.a,.a,.a,.a,.a,.v (.int (x::L).length),.w (.int ((s:Int).fmod (x::L).length)),.i y] #[q3,vq s (m:=(x::L).length) (Nat.succ_pos _),xm (σ:=[]) (g:=AV.int) hl,q1,(cj (d:=s) (by omega))] ⋯⟩
theorem Dc(hL:L.length<=40):cL [] .len [.lst (L.map .int)]=some (.int L.length):=xm (bz hL ∅)
theorem K9(hL:L.length<=40)(h1:s<L.length)(h2:AM<=oz c)(hm:0<m)(hm2:m<=1000):ae (aU n) bF (bw.drop 5) (dS (i8 L (s+1) t) m none (some (.int s)) (some (.int c)) none none τ)=
  some (.ok (.ret (.int ((oz c-AM).fmod m))),dS (i8 L (s+1) ((oz c-AM).fdiv m)) m none (some (.int s)) (some (.int c)) (some (.int (oz c-AM))) none τ):=
 aY [.a,.i L.length,.b true,.a,.b true,.a,.a,.w (.int ((oz c-AM).fdiv m)),.a,.w (.int ((oz c-AM).fmod m))] #[vq (oz c-AM) hm,G9 (oz c-AM) hm hm2,(iM (a:=10) (k:=18) ∅ ∅),qT (p:=AM<=oz c) h2,(iM (a:=10) (k:=18) ∅ ∅),(qT (p:=(s:Int)<L.length) (by omega)),Dc hL] ⋯
theorem Kd:0<=BK c s/\BK c s<2147483629:=⟨Int.fmod_nonneg_of_pos _ ∅,Int.fmod_lt_of_pos _ ∅⟩
theorem Hi(hs:s<1000):(c.fmod 2147483587+60917*s+2293).natAbs<2 ^ 63:=by
 have h1:0<=c.fmod 2147483587:=Int.fmod_nonneg_of_pos _ ∅;have h2:c.fmod 2147483587<2147483587:=Int.fmod_lt_of_pos _ ∅;omega
theorem Ha(hs:s<1000):(BK c s*(2*s+5113)+40693*s*s+37).natAbs<2 ^ 63:=by
 obtain⟨h1,h2⟩:=Kd (c:=c) (s:=s);generalize BK c s=x at h1 h2;have e1:x*(2*s+5113)<=2147483629*7113:=Int.mul_le_mul (by omega) (by omega) (by omega) (by omega);have e2:0<=x*(2*s+5113):=Int.mul_nonneg h1 (by omega);have e3:(40693*s:Int)*s<=40693000*1000:=Int.mul_le_mul (by omega) (by omega) (by omega) (by omega);have e4:0<=(40693*s:Int)*s:=Int.mul_nonneg (by omega) (by omega);omega
theorem K8(hL:L.length<=40)(h1: ¬s<L.length)(hs:s<1000)(hm:0<m):ae (aU n) bF (bw.drop 5) (dS (i8 L (s+1) t) m none (some (.int s)) (some (.int c)) none none τ)=
  some (.ok (.ret (.int (((vg c s).fdiv 32).fmod m))),dS (i8 L (s+1) t) m none (some (.int s)) (some (.int c)) none (some (.int (vg c s))) τ):=
 have hq:small (s:Int)=true:=cj (by omega)
 aY [.a,.i L.length,.b false,.a,.a,.a,.a,.w (.int (((vg c s).fdiv 32).fmod m))] #[vq ((vg c s).fdiv 32) hm,(iM (k:=3) (Ha (c:=c) hs) ∅),hq,hq,(show small (2*(s:Int)+5113)=true from bU (by omega)),hq,(iM (k:=5) (Hi (c:=c) hs) ∅),hq,(qF (p:=(s:Int)<L.length) (by omega)),Dc hL] ⋯
theorem Le(hL:L.length<=40)(h1:s<L.length)(h2: ¬AM<=oz c)(hs:s<1000)(hm:0<m):ae (aU n) bF (bw.drop 5) (dS (i8 L (s+1) t) m none (some (.int s)) (some (.int c)) none none τ)=
  some (.ok (.ret (.int (((vg c s).fdiv 32).fmod m))),dS (i8 L (s+1) t) m none (some (.int s)) (some (.int c)) none (some (.int (vg c s))) τ):=
 have hq:small (s:Int)=true:=cj (by omega)
 aY [.a,.i L.length,.b true,.a,.b false,.a,.a,.a,.a,.w (.int (((vg c s).fdiv 32).fmod m))] #[vq ((vg c s).fdiv 32) hm,(iM (k:=3) (Ha (c:=c) hs) ∅),hq,hq,(show small (2*(s:Int)+5113)=true from bU (by omega)),hq,(iM (k:=5) (Hi (c:=c) hs) ∅),hq,qF (p:=AM<=oz c) h2,(iM (a:=10) (k:=18) ∅ ∅),(qT (p:=(s:Int)<L.length) (by omega)),Dc hL] ⋯
end
theorem ul(n)(ho:bY o (k+1))(hm:0<m)(hm2:m<=1000)(hi:σ[i]?=some o):Got (· <m) k (n+1) 1146 [.ref i,.int m] σ (σ.set i ·):=by
 have fin: ∀{a:Int} {o':AO} {locs:List (Option AV)} {τ:aX},bY o' k->ae (aU n) bF bw (dS o m none none none none none [])=some (.ok (.ret (.int (a.fmod m))),⟨locs,o'::τ⟩)->Got (· <m) k (n+1) 1146 [.ref i,.int m] σ (σ.set i ·):=fun{a o' locs τ} ho' h=>by
  obtain⟨v,hv,hlt⟩:=xQ (a:=a) hm;rw[hv] at h;exact⟨v,o',hlt,ho',Os (vs':=[.int m]) (np:=2) (nl:=7) (d:=[]) (gl:=bF) (body:=bw) ho ho' rfl h ⋯ ⋯ (dG rfl) (cE rfl) rfl hi⟩
 cases ho with
 |mk h1 h2=>
  rename_i L s t;by_cases ht:0<t
  ·exact fin (.mk h1 (by omega)) (Qk ht hm hm2)
  ·obtain⟨c,hb⟩:=Ph (n:=n) (t:=t) (m:=m) (s:=s) (L:=L) (by omega) h1;have hab:=(aO (l1:=bw.take 3) (l2:=bw.drop 3) (Qt (n:=n) (L:=L) (s:=s) (m:=m) ht)).trans (aO (l1:=(bw.drop 3).take 2) (l2:=bw.drop 5) hb);by_cases q1:s<L.length
   ·by_cases q2:AM<=oz c
    ·exact fin (.mk h1 (by omega)) (hab.trans (K9 h1 q1 q2 hm hm2))
    ·exact fin (.mk h1 (by omega)) (hab.trans (Le h1 q1 q2 (by omega) hm))
   ·exact fin (.mk h1 (by omega)) (hab.trans (K8 h1 q1 (by omega) hm))
theorem pg(l:List Nat):aM (l.map nI)=true:=bM (λ_=>rfl) l
theorem x5(n:Nat)(ho:bY o (k+1))(hl:l≠ [])(hl2:l.length<=1000)(hz:jk vs σ=σ1)(hm:vs.map (rs 8 σ1)=[.lst (l.map nI)])(hi:σ1[i]?=some o):
  Got (· ∈l) k (n+2) 1153 (.ref i::vs) σ (σ1.set i ·):=by
 have hpos:0<l.length:=List.length_pos_iff.mpr hl;obtain⟨v,o',hv,ho',hd⟩:=ul n ho hpos hl2 (σ:=[o]) (i:=0) rfl;have hd:call (n+1) 1146 [.ref 0,.int l.length] [o]=some (.ok (.int v),[o']):=hd;have hg:l[v]?=some l[v]:=List.getElem?_eq_getElem hv;have h2:dZ [o'] (.lst (l.map nI)) (.int v)=some (nI l[v]):=(xj (bz (Nat.le_of_lt hv) (bz hl2 ∅))).trans (List.getElem?_map.trans (ac _ hg));exact⟨l[v],o',List.getElem_mem hv,ho',Os (n:=n+1) (vs':=[.lst (l.map nI)]) (np:=2) (nl:=2) (d:=[]) (gl:=iS) (body:=lx) (s0:=⟨[some (.ref 0),some (.lst (l.map nI))],[o]⟩) (τ:=[]) (locs:=[some (.ref 0),some (.lst (l.map nI))]) ho ho' rfl
  (aY [.i l.length,.k (.int v) [o'],.v (nI l[v])] #[h2,hd,xm (σ:=[o]) (g:=nI) hl2] ⋯) ⋯ ⋯ hz hm (fc (a:= .lst (l.map nI)) (pg l)) hi⟩
theorem Kq(h:aM l=true):jk [.ref A.length] (A++ [.lst l])=A++ [.Tg (.lst l)]:=
 have z:fz 8 (.ref A.length) (A++ [AO.lst l])=(A++ [AO.lst l]).set A.length (.Tg (.lst l)):=wK (n:=7) (k:=A.length) (σ:=A++ [.lst l]) (p:=(.lst l,l)) lE rfl h
 z.trans vc
theorem JR(h:aM l=true):[AV.ref A.length].map (rs 8 (A++ [.Tg (.lst l)]))=[.lst l]:=ac (λv=>[v]) (tT (n:=7) (v:= .lst l) lE h)
theorem gU(n:Nat)(ho:bY o (k+1))(hl:l≠ [])(hl2:l.length<=1000)(A):
  Got (· ∈l) k (n+2) 1153 [.ref 0,.ref (o::A).length] (o::(A++ [.lst (l.map nI)])) λo'=>o'::(A++ [.Tg (.lst (l.map nI))]):=by
 have hf:=pg l;have h1:=Kq (A:=o::A) hf;have h2:=JR (A:=o::A) hf;have h3:((o::A)++ [AO.Tg (.lst (l.map nI))])[0]?=some o:=rfl;exact x5 n ho hl hl2 h1 h2 h3
theorem kZ{l:List Nat}(h:l.all (Nat.blt · c)=true)(hx:x∈l):x<c:=Nat.le_of_ble_eq_true (gj h x hx)
theorem Dn(n:Nat)(ho:bY o (k+2))(hi:σ[i]?=some o):Got (· <256) k (n+3) 1160 [.ref i] σ (σ.set i ·):=by
 obtain⟨v,o1,hv,ho1,hd⟩:=ul (n+1) ho (m:=256) ∅ ∅ (σ:=[o]) (i:=0) rfl;have hd:call (n+2) 1146 [.ref 0,.int 256] [o]=some (.ok (.int v),[o1]):=hd;obtain⟨u,o2,hu,ho2,hp⟩:=gU n ho1 (l:=[0,255,128,127,1,v]) (by nofun) (show 6<=1000 by decide) [];exact⟨u,o2,kZ (l:=[0,255,128,127,1,v]) ((Bool.and_true _).trans (Nat.ble_eq_true_of_le hv)) hu,ho2,Os (n:=n+2) (vs':=[]) (np:=1) (nl:=1) (d:=[]) (gl:=gQ) (body:=j8) (s0:=⟨[some (.ref 0)],[o]⟩) (τ:=[.Tg (.lst ([0,255,128,127,1,v].map nI))]) (locs:=[some (.ref 0)]) ho ho2 rfl
  (aY [.k (.int v) [o1],.k (nI u) [o2,.Tg (.lst ([0,255,128,127,1,v].map nI))]] #[hp,hd] ⋯) ⋯ ⋯ rfl rfl rfl hi⟩
theorem f0(n)(ho:bY o (k+1))(hm:0<m)(hm2:m<=1000)(A):Got (· <m) k (n+1) 1146 [.ref 0,.int m] (o::A) (· ::A):=ul n ho hm hm2 (σ:=o::A) (i:=0) rfl
theorem J7(n)(ho:bY o (k+2))(A):Got (· <256) k (n+3) 1160 [.ref 0] (o::A) (· ::A):=Dn n ho (σ:=o::A) (i:=0) rfl
theorem Md(n)(ho:bY o (k+1))(hl:l≠ [])(hl2:l.length<=1000)(A):Got (· ∈l) k (n+2) 1153 [.ref 0,.lst (l.map nI)] (o::A) (· ::A):=
 have hf:aM [.lst (l.map nI)]=true:=fc (a:= .lst (l.map nI)) (pg l)
 x5 n ho hl hl2 (σ:=o::A) (i:=0) (dG hf) (cE hf) rfl
noncomputable def oT(v:Nat):List Nat:=[102,72,64+v,100,240,102,101,65,243,46]
noncomputable def oA(a b:Nat):List Nat:=[a,b]
noncomputable def oB(c:Nat):List Nat:=[128,129,131,131,132,133,168,169,246,247,254,255,c]
noncomputable def oC(a b c:Nat):List Nat:=[a,b,128,129,131,131,132,133,168,169,246,247,254,255,c]
noncomputable def oR(d e v:Nat):List Nat:=[d,e,0,2,3,v]
noncomputable def oM(v:Nat):List Nat:=[5,4,4,v]
noncomputable def oS(v:Nat):List Nat:=[4,v]
noncomputable def oQ(v:Nat):List Nat:=[5,4,v]
noncomputable abbrev mn(l:List Nat):AO:= .Tg (.lst (l.map nI))
noncomputable abbrev eN(bs:List Nat):AO:= .lst (bs.map nI)
theorem bl{a c}(h:a<c):Nat.blt a c=true:=Nat.ble_eq_true_of_le h
theorem KU{a c}(h:a<c):(Nat.blt a c&&true)=true:=(Bool.and_true _).trans (bl h)
theorem M4(h:v<16)(hx:x∈oT v):x<256:=kZ (l:=oT v) (KU (dA (Nat.add_lt_add_left h 64) ∅)) hx
theorem Lj(ha:a<256)(hb:b<256)(hc:c<256)(hx:x∈oC a b c):x<256:=kZ (l:=oC a b c) (ca ⟨bl ha,ca ⟨bl hb,KU hc⟩⟩) hx
theorem MS(hd:d<8)(he:e<8)(hv:v<8)(hx:x∈oR d e v):x<8:=kZ (l:=oR d e v) (ca ⟨bl hd,ca ⟨bl he,KU hv⟩⟩) hx
theorem GY(hd:d<8)(hv:v<6):8*d+v<256:=dA (Nat.add_lt_add_of_le_of_lt (Nat.mul_le_mul_left 8 (Nat.le_of_lt hd)) hv) ∅
theorem HE(hw:w<4)(hg:g<8)(hq:q<8):64*w+8*g+q<256:=by omega
theorem vm(o)(τ)(x)(h:bs.length<=1000):(gT (o::eN bs::τ) .append (.ref 1) [nI x]).map (λp=>(Res.ok p.1,p.2))=some (.ok .none,o::eN (bs++ [x])::τ):=
 have e:gT (o::eN bs::τ) .append (.ref 1) [nI x]=some (.none,o:: .lst (bs.map nI++ [nI x])::τ):=if_pos (iH h)
 (ac (Option.map λp:AV×aX=>(Res.ok p.1,p.2)) e).trans (ac (λl=>some (Res.ok AV.none,o::AO.lst l::τ)) (List.map_append (f:=nI) (l₁:=bs) (l₂:=[x])).symm)
theorem Gg{B}{l l'}(h:l.length<=1000)(h':l'.length<=1000):binI (B++ [.lst l]++ [.lst l']) .Add (.ref B.length) (.ref (B++ [AO.lst l]).length)=some (.lst (l++l')):=
 have e1:(B++ [AO.lst l]++ [AO.lst l'])[B.length]?=some (.lst l):=(ac (·[B.length]?) (List.append_assoc B [.lst l] [.lst l'])).trans (vV rfl [.lst l,.lst l'] 0);have e2:(B++ [AO.lst l]++ [AO.lst l'])[(B++ [AO.lst l]).length]?=some (.lst l'):=lE;have h2:l.length+l'.length<=100000:=bz (Nat.add_le_add h h') ∅
 by
  show Option.bind (view _ _).l _=_;rw[eF e1];show Option.bind (view _ _).l _=_;rw[eF e2];exact if_pos h2
noncomputable abbrev AP(d e:Nat)(o:AO)(bs:List Nat)(τ:aX)(v3 v4 v5 v6 v7 v8:Option AV):St:=⟨[some (.ref 0),some (uY d e),some (.ref 1),v3,v4,v5,v6,v7,v8],o::eN bs::τ⟩
noncomputable def IS.frB(i:IS):List IS:=i.casesOn (motive_1:=λ_=>List IS) (λ_ _=>[]) (λ_=>[]) (λ_=>[]) [] (λ_ _ _=>[]) (λ_ _ _ _ b=>b) (λ_ _=>[]) [] [] (λ_ _=>[]) (λ_ _ _=>[])
noncomputable def H6:List IS:=(bJ.getD 1 .pass).frB
noncomputable def Jc:List IS:=(bJ.getD 10 .pass).frB
structure jp (bs:List Nat) (l m:Nat):Prop where
 ge:l<=bs.length
 len:bs.length<=m
 cap:m<=100
 lt: ∀x∈bs,x<256
theorem jp.UO(h:jp bs l m)(hm:m+1<=100)(hx:x<256):jp (bs++ [x]) (l+1) (m+1):=
 have e:(bs++ [x]).length=bs.length+1:=List.length_append
 ⟨e▸Nat.succ_le_succ h.ge,e▸Nat.succ_le_succ h.len,hm,λy hy=>(List.mem_append.mp hy).elim (h.lt y) λq=>dt q▸hx⟩
theorem jp.app(h:jp bs l m)(hm:m+1<=100)(hx:x<256):jp (bs++ [x]) l (m+1):=have z:=h.UO hm hx;⟨Nat.le_of_succ_le z.ge,z.2,z.3,z.4⟩
theorem jp.big(h:jp bs l m):bs.length<=1000:=bz h.len (bz h.cap ∅)
inductive Rw (k l m d e:Nat) (x:Out Fl):Prop
 |mk (o:AO) (bs:List Nat) (τ:aX) (v3 v4 v5 v6 v7:Option AV) (ho:bY o k) (hb:jp bs l m) (h:x=some (.ok .next,AP d e o bs τ v3 v4 v5 v6 v7 none))
theorem Rw.cast(h:Rw k l m d e x)(q:m=m')(y:x=x'):Rw k l m' d e x':=y▸q▸h
section
variable {n d e k l m:Nat} {o:AO} {bs:List Nat} {τ:aX} {v3 v4 v5 v6 v7:Option AV}
theorem NC(a)(ho:bY o (k+2))(hb:jp bs l m)(hm:m+1<=100):Rw k l (m+1) d e (stepI (aU (n+3)) bh (.var 3) H6 a (AP d e o bs τ v3 v4 v5 v6 v7 none)):=
 match f0 (n+2) ho (m:=16) ∅ ∅ (eN bs::τ) with
 | .mk v o1 hv ho1 h1=>match gU (n+1) ho1 (l:=oT v) (by nofun) (show 10<=1000 by decide) (eN bs::τ) with
  | .mk x o2 hx ho2 h2=> .mk o2 (bs++ [x]) (τ++ [mn (oT v)]) (some a) v4 v5 v6 v7 ho2 (hb.app hm (M4 hv hx))
   (ce [.k (.int v) (o1::eN bs::τ),.k (nI x) (o2::eN bs::(τ++ [mn (oT v)])),.k .none (o2::eN (bs++ [x])::(τ++ [mn (oT v)]))]
    #[vm o2 (τ++ [mn (oT v)]) x hb.big,h2,h1] ⋯)
theorem M9(a)(ho:bY o (k+2))(hb:jp bs l m)(hm:m+1<=100):Rw k l (m+1) d e (stepI (aU (n+3)) bh (.var 3) Jc a (AP d e o bs τ v3 v4 v5 v6 v7 none)):=
 match J7 n ho (eN bs::τ) with
 | .mk x o1 hx ho1 h1=> .mk o1 (bs++ [x]) τ (some a) v4 v5 v6 v7 ho1 (hb.app hm hx) (ce [.k (nI x) (o1::eN bs::τ),.k .none (o1::eN (bs++ [x])::τ)] #[vm o1 τ x hb.big,h1] ⋯)
theorem yw{B}(ht: ∀{k m o bs τ v3 v4 v5 v6 v7} (a:AV),bY o (k+2)->jp bs l m->m+1<=100->Rw k l (m+1) d e (stepI (aU (n+3)) bh (.var 3) B a (AP d e o bs τ v3 v4 v5 v6 v7 none)))(its):
  ∀{m o bs τ v3 v4 v5 v6 v7},bY o (k+2*its.length)->jp bs l m->m+its.length<=100->Rw k l (m+its.length) d e (dk (stepI (aU (n+3)) bh (.var 3) B) its (AP d e o bs τ v3 v4 v5 v6 v7 none)):=by
 induction its with
 |nil=>exact λho hb hm=> .mk _ _ _ _ _ _ _ _ ho hb rfl
 |cons a its ih=>exact fun{m o bs τ v3 v4 v5 v6 v7} ho hb hm=>match ht (k:=k+2*its.length) a ho hb (bz (Nat.add_le_add_left (Nat.succ_le_succ (Nat.zero_le _)) m) hm) with
  | .mk o1 b1 τ1 v3 v4 v5 v6 v7 ho1 hb1 h1=>(ih ho1 hb1 (bz (Nat.le_of_eq (Nat.succ_add m its.length)) hm)).cast (Nat.succ_add m its.length) (cC h1).symm
theorem O0(hd:d<8)(he:e<8)(ho:bY o (k+4))(hb:jp bs l m)(hm:m+1<=100):Rw k l (m+1) d e (ae (aU (n+3)) bh ((bJ.drop 2).take 3) (AP d e o bs τ v3 v4 v5 v6 v7 none)):=
 match f0 (n+2) ho (m:=6) ∅ ∅ (eN bs::τ) with
 | .mk v1 o1 hv1 ho1 h1=>match f0 (n+2) ho1 (m:=6) ∅ ∅ (eN bs::τ) with
  | .mk v2 o2 hv2 ho2 h2=>match f0 (n+2) ho2 (m:=256) ∅ ∅ (eN bs::(τ++ [.lst ((oA (8*d+v1) (8*e+v2)).map nI)])) with
   | .mk u o3 hu UH h3=>match Md (n+1) UH (l:=oC (8*d+v1) (8*e+v2) u) (by nofun) (show 15<=1000 by decide) (eN bs::(τ++ [.lst ((oA (8*d+v1) (8*e+v2)).map nI)]++ [.lst ((oB u).map nI)])) with
    | .mk x o4 hx UI h4=>
     have hw:=Gg (B:=o3::eN bs::τ) (l:=(oA (8*d+v1) (8*e+v2)).map nI) (l':=(oB u).map nI) (show 2<=1000 by decide) (show 13<=1000 by decide)
     .mk o4 (bs++ [x]) (τ++ [.lst ((oA (8*d+v1) (8*e+v2)).map nI)]++ [.lst ((oB u).map nI)]) v3 (some (.lst ((oC (8*d+v1) (8*e+v2) u).map nI))) v5 v6 v7 UI (hb.app hm (Lj (GY hd hv1) (GY he hv2) hu hx))
     (aY [.a,.k (.int v1) (o1::eN bs::τ),.a,.k (.int v2) (o2::eN bs::τ),.k (.int u) (o3::eN bs::(τ++ [.lst ((oA (8*d+v1) (8*e+v2)).map nI)])),.w (.lst ((oC (8*d+v1) (8*e+v2) u).map nI)),
      .k (nI x) (o4::eN bs::(τ++ [.lst ((oA (8*d+v1) (8*e+v2)).map nI)]++ [.lst ((oB u).map nI)])),.k .none (o4::eN (bs++ [x])::(τ++ [.lst ((oA (8*d+v1) (8*e+v2)).map nI)]++ [.lst ((oB u).map nI)]))] #[vm o4 (τ++ [.lst ((oA (8*d+v1) (8*e+v2)).map nI)]++ [.lst ((oB u).map nI)]) x hb.big,h4,hw,h3,h2,(cj (d:=e) (dA he ∅)),h1,(cj (d:=d) (dA hd ∅))] ⋯)
end
theorem Ag(l:List Nat):intsOf (l.map nI)=some (l.map Int.ofNat):=by
 induction l with
 |nil=>rfl
 |cons a l ih=>exact ac (Option.map (Int.ofNat a:: ·)) ih
theorem GD{l:List Nat}:(∀x∈l,x<256)->(l.map Int.ofNat).all (λn=>decide (0<=n)&&decide (n<256))=true:=by
 induction l with
 |nil=>exact λ_=>rfl
 |cons a l ih=>exact λh=>ca ⟨ca ⟨bU (Int.natCast_nonneg a),bU (Int.ofNat_lt.mpr (h a (.head _)))⟩,ih λx hx=>h x (.tail _ hx)⟩
theorem Ey{l:List Nat}(h: ∀x∈l,x<256)(hl:l.length<=1000):cL [] .bytes [.lst (l.map nI)]=some (.bytes (l.map Nat.toUInt8)):=by
 have h1:(l.map nI).length<=1000:=(List.length_map (as:=l) nI).symm▸hl;exact(if_pos h1).trans ((ac (Option.bind · _) (Ag l)).trans ((if_pos (GD h)).trans (ac (λl=>some (AV.bytes l)) List.map_map)))
inductive RY (k:Nat) (x:Out Fl):Prop
 |mk (b:List UInt8) (o':AO) (locs:List (Option AV)) (τ:aX) (hb:b.length<=15) (ho:bY o' k) (h:x=some (.ok (.ret (.bytes b)),⟨locs,o'::τ⟩))
section
variable {n d e k l m:Nat} {o:AO} {bs:List Nat} {τ:aX} {v3 v4 v5 v6 v7:Option AV}
theorem OV(hd:d<8)(he:e<8)(ho:bY o (k+5))(hb:jp bs l m)(hm:m+1<=100):Rw k l (m+1) d e (ae (aU (n+3)) bh ((bJ.drop 5).take 4) (AP d e o bs τ v3 v4 v5 v6 v7 none)):=
 match f0 (n+2) ho (m:=4) ∅ ∅ (eN bs::τ) with
 | .mk w o1 hw ho1 h1=>match f0 (n+2) ho1 (m:=8) ∅ ∅ (eN bs::τ) with
  | .mk v o2 hv ho2 h2=>match gU (n+1) ho2 (l:=oR d e v) (by nofun) (show 6<=1000 by decide) (eN bs::τ) with
   | .mk g o3 hg UH h3=>match f0 (n+2) UH (m:=8) ∅ ∅ (eN bs::(τ++ [mn (oR d e v)])) with
    | .mk u o4 hu UI h4=>match gU (n+1) UI (l:=oM u) (by nofun) (show 4<=1000 by decide) (eN bs::(τ++ [mn (oR d e v)])) with
     | .mk q o5 hq UY h5=>
      have UX:=MS hd he hv hg
      .mk o5 (bs++ [64*w+8*g+q]) (τ++ [mn (oR d e v)]++ [mn (oM u)]) v3 v4 (some (.int w)) (some (nI g)) (some (nI q)) UY (hb.app hm (HE hw UX (kZ (c:=8) (l:=oM u) (KU hu) hq)))
      (aY [.k (.int w) (o1::eN bs::τ),.a,.a,.k (.int v) (o2::eN bs::τ),.k (nI g) (o3::eN bs::(τ++ [mn (oR d e v)])),.k (.int u) (o4::eN bs::(τ++ [mn (oR d e v)])),.k (nI q) (o5::eN bs::(τ++ [mn (oR d e v)]++ [mn (oM u)])),.k .none (o5::eN (bs++ [64*w+8*g+q])::(τ++ [mn (oR d e v)]++ [mn (oM u)]))] #[vm o5 (τ++ [mn (oR d e v)]++ [mn (oM u)]) (64*w+8*g+q) hb.big,(cj (d:=g) (dA UX ∅)),(cj (d:=w) (dA hw ∅)),h5,h4,h3,h2,h1] ⋯)
theorem OQ(ho:bY o (k+5))(hb:jp bs l m)(hm:m+1<=100):Rw k (l+1) (m+1) d e (ae (aU (n+3)) bh ((bJ.drop 9).take 1) (AP d e o bs τ v3 v4 v5 v6 v7 none)):=
 match f0 (n+2) ho (m:=4) ∅ ∅ (eN bs::τ) with
 | .mk w o1 hw ho1 h1=>match f0 (n+2) ho1 (m:=8) ∅ ∅ (eN bs::τ) with
  | .mk v o2 hv ho2 h2=>match gU (n+1) ho2 (l:=oS v) (by nofun) (show 2<=1000 by decide) (eN bs::τ) with
   | .mk g o3 hg UH h3=>match f0 (n+2) UH (m:=8) ∅ ∅ (eN bs::(τ++ [mn (oS v)])) with
    | .mk u o4 hu UI h4=>match gU (n+1) UI (l:=oQ u) (by nofun) (show 3<=1000 by decide) (eN bs::(τ++ [mn (oS v)])) with
     | .mk q o5 hq UY h5=>
      have UX:=kZ (c:=8) (l:=oS v) (KU hv) hg
      .mk o5 (bs++ [64*w+8*g+q]) (τ++ [mn (oS v)]++ [mn (oQ u)]) v3 v4 v5 v6 v7 UY (hb.UO hm (HE hw UX (kZ (c:=8) (l:=oQ u) (KU hu) hq)))
      (aY [.k (.int w) (o1::eN bs::τ),.k (.int v) (o2::eN bs::τ),.k (nI g) (o3::eN bs::(τ++ [mn (oS v)])),.k (.int u) (o4::eN bs::(τ++ [mn (oS v)])),.k (nI q) (o5::eN bs::(τ++ [mn (oS v)]++ [mn (oQ u)])),.k .none (o5::eN (bs++ [64*w+8*g+q])::(τ++ [mn (oS v)]++ [mn (oQ u)]))] #[vm o5 (τ++ [mn (oS v)]++ [mn (oQ u)]) (64*w+8*g+q) hb.big,h5,h4,(cj (d:=g) (dA UX ∅)),h3,h2,(cj (d:=w) (dA hw ∅)),h1] ⋯)
theorem Pe(ho:bY o (k+2))(hb:jp bs (l+1) m)(hm:m<=15):RY k (ae (aU (n+3)) bh (bJ.drop 11) (AP d e o bs τ v3 v4 v5 v6 v7 none)):=by
 have Vl:=hb.big;have ht: ∀z:Nat,(bs.take z).length<=15:=λz=>bz (List.length_take_le' z bs) (bz hb.len hm);have hl: ∀o,cL (o::eN bs::τ) .len [.ref 1]=some (.int bs.length):=λo=>(if_pos (iH (g:=nI) Vl)).trans (ac (λn:Nat=>some (AV.int n)) (List.length_map ..));have hs: ∀o (z:Nat),vC (o::eN bs::τ) (.ref 1) none (some (z:Int))=some (.lst ((bs.take z).map nI)):=λo z=>by
  show cond (decide ((bs.map nI).length<=100000)) (some (AV.lst (cf (bs.map nI) none (some (z:Int))))) none=_;rw[bU (iH Vl),mB,List.map_take];rfl
 have hy: ∀z:Nat,cL [] .bytes [.lst ((bs.take z).map nI)]=some (.bytes ((bs.take z).map Nat.toUInt8)):=λz=>Ey (λx hx=>hb.lt x (List.mem_of_mem_take hx)) (bz (ht z) ∅);have hlen: ∀z:Nat,((bs.take z).map Nat.toUInt8).length<=15:=λz=>(List.length_map (as:=bs.take z) Nat.toUInt8).symm▸ht z;exact match f0 (n+2) ho (m:=4) ∅ ∅ (eN bs::τ) with
 | .mk 0 o1 hw ho1 h1=>match f0 (n+2) ho1 (dA (Nat.succ_pos l) hb.ge) Vl (eN bs::τ) with
  | .mk z o2 hz ho2 h2=> .mk _ o2 [some (.ref 0),some (uY d e),some (.ref 1),v3,v4,v5,v6,v7,some (.int z)] (eN bs::τ) (hlen z) ho2 (aY [.k (.int 0) (o1::eN bs::τ),.b false,.i bs.length,.k (.int z) (o2::eN bs::τ),.w (.lst ((bs.take z).map nI)),.v (.bytes ((bs.take z).map Nat.toUInt8))] #[hy z,hs o2 z,h2,hl o1,(rfl:some (decide ((0:Int)<0))=some false),h1] ⋯)
 | .mk (w+1) o1 hw ho1 h1=> .mk _ o1 [some (.ref 0),some (uY d e),some (.ref 1),v3,v4,v5,v6,v7,some (.int bs.length)] (eN bs::τ) (hlen bs.length) (ho1.le (Nat.le_succ _)) (aY [.k (.int (w+1:Nat)) (o1::eN bs::τ),.b true,.i bs.length,.w (.lst ((bs.take bs.length).map nI)),.v (.bytes ((bs.take bs.length).map Nat.toUInt8))] #[hy bs.length,hs o1 bs.length,hl o1,qT (p:=(0:Int)<(w+1:Nat)) (Int.natCast_pos.mpr (Nat.succ_pos w)),h1] ⋯)
end
inductive Row (k n d e i:Nat) (σ:aX):Prop
 |mk (b:List UInt8) (o':AO) (hb:b.length<=15) (ho:bY o' k) (h:call n 1167 [.ref i,uY d e] σ=some (.ok (.bytes b),σ.set i o'))
theorem Iq(n)(hd:d<8)(he:e<8)(ho:bY o (k+39))(hi:σ[i]?=some o):Row k (n+4) d e i σ:=by
 have e0:ae (aU (n+3)) bh (bJ.take 1) ⟨[some (.ref 0),some (uY d e),none,none,none,none,none,none,none],[o]⟩=some (.ok .next,AP d e o [] [] none none none none none none):=⋯
 exact match f0 (n+2) ho (m:=4) ∅ ∅ [eN []] with
 | .mk v o1 hv ho1 h1=>by
  have ew:br (aU (n+3)) bh [.Tf 1 [.var 0,.k (.int 4)]] (AP d e o [] [] none none none none none none)=some (.ok [.int v],AP d e o1 [] [] none none none none none none):=
   (H5 (aU (n+3)) bh [.Tf 1 [.var 0,.k (.int 4)]] ⟨_,[o,eN []],[.k (.int v) [o1,eN []]],[]⟩ (.ok [.int v],⟨_,[o1,eN []],[],_⟩) ⋯ #[h1]).2
  have U9:v<=3:=Nat.le_of_lt_succ hv;have hit:bN [o1,eN []] .range [.int v]=some ((List.range v).map fun(i:Nat)=>AV.int (Int.ofNat i)):=ac (λb=>cond b (some ((List.range v).map fun(i:Nat)=>AV.int (Int.ofNat i))) none) (ca ⟨bU (Int.natCast_nonneg v),bU (Int.ofNat_le.mpr (bz U9 ∅))⟩);have Vp:((List.range v).map fun(i:Nat)=>AV.int (Int.ofNat i)).length<=3:=(List.length_map ..).symm▸List.length_range.symm▸U9;exact match yw (n:=n) (d:=d) (e:=e) (k:=k+32) (l:=0) (m:=0) (B:=H6) NC ((List.range v).map fun(i:Nat)=>AV.int (Int.ofNat i)) (τ:=[]) (v3:=none) (v4:=none) (v5:=none) (v6:=none) (v7:=none) (ho1.le (Nat.add_le_add_left (Nat.mul_le_mul_left 2 Vp) (k+32))) ⟨Nat.le_refl _,Nat.le_refl _,Nat.zero_le _,λx=>fP⟩ (bz (Nat.add_le_add_left Vp 0) ∅) with
  | .mk o2 b2 τ2 a3 a4 a5 a6 a7 ho2 hb2 h2=>match O0 (n:=n) hd he (k:=k+28) ho2 ⟨hb2.ge,bz hb2.len (Nat.add_le_add_left Vp 0),(by decide:0+3<=100),hb2.lt⟩ ∅ with
   | .mk o3 b3 τ3 Wx b4 b5 b6 b7 UH hb3 h3=>match OV (n:=n) hd he (k:=k+23) UH hb3 ∅ with
    | .mk o4 Wy τ4 c3 c4 c5 c6 c7 UI hb4 h4=>match OQ (n:=n) (k:=k+18) UI hb4 ∅ with
     | .mk o5 Wz τ5 d3 d4 d5 d6 d7 UY V5 h5=>match yw (n:=n) (d:=d) (e:=e) (k:=k+2) (B:=Jc) M9 ((List.range 8).map fun(i:Nat)=>AV.int (Int.ofNat i)) UY V5 ∅ with
      | .mk o6 WA τ6 e3 e4 e5 e6 e7 ho6 V6 h6=>match Pe (n:=n) ho6 V6 ∅ with
       | .mk b o7 locs τ7 V7 VJ h7=> .mk b o7 V7 VJ (Os (n:=n+3) (vs':=[uY d e]) (np:=2) (nl:=9) (d:=[]) (gl:=bh) (body:=bJ.take 1++(.fr .range 0 [.Tf 1 [.var 0,.k (.int 4)]] (.var 3) H6::((bJ.drop 2).take 3++((bJ.drop 5).take 4++((bJ.drop 9).take 1++(.fr .range 0 [.k (.int 8)] (.var 3) Jc::bJ.drop 11)))))) ho VJ rfl
  ((aO e0).trans ((fj ((wG ew hit).trans h2)).trans ((aO h3).trans ((aO h4).trans ((aO h5).trans ((fj ((wG rfl rfl).trans h6)).trans h7)))))) ⋯ ⋯ (dG rfl) (cE rfl) rfl hi)
theorem II(n:Nat)(l:List Int)(hl:l.length<=1000):call (n+1) 1139 [.lst (l.map .int)] []=some (.ok (.ref 0),[i8 (l.take 40) 0 0]):=by
 have hs:aw (aU n) eI (.TL (.var 0) none (some (.k (.int 40)))) ⟨[some (.lst (l.map .int))],[]⟩=some (.ok (.lst ((l.take 40).map .int)),⟨[some (.lst (l.map .int))],[]⟩):=by
  show bo _ (cond (decide ((l.map AV.int).length<=100000)) (some (AV.lst (cf (l.map AV.int) none (some ((40:Nat):Int))))) none)=_;rw[bU (iH hl),mB,List.map_take];rfl
 have hc:aw (aU n) eI (.comp (.blt .int 0 [.var 0]) [] .seq 0 (.TL (.var 0) none (some (.k (.int 40)))) []) ⟨[some (.lst (l.map .int))],[]⟩=some (.ok (.lst ((l.take 40).map .int)),⟨[some (.lst (l.map .int))],[]⟩):=
  lQ (x:= .lst ((l.take 40).map .int)) (g:=AV.int) (r:=AV.int) hs rfl (by rw[List.length_take];omega) λa ha=>⟨_,rfl⟩
 exact EE (f:=1139) (UQ:=false) (np:=1) (nl:=1) (d:=[]) (gl:=eI) (body:=nM) (r:= .ok (.ret (.ref 0))) (s0:=⟨[some (.lst (l.map .int))],[]⟩) (s':=⟨[some (.lst (l.map .int))],[i8 (l.take 40) 0 0]⟩)
  (aY [.k (.lst ((l.take 40).map .int)) []] #[hc] ⋯) ⋯ ⋯ rfl
noncomputable def Gh(a b:Nat):AV:=cond (Nat.blt b a) (uY b a) (uY a b)
theorem JI(a b:Nat):cL [] .sorted [.lst [.int a,.int b]]=some (Gh a b):=by
 show some (if(b:Int)<(a:Int) then AV.lst [.int b,.int a] else .lst [.int a,.int b])=_;unfold Gh;rw[bP];by_cases h:b<a
 ·rw[bU h,if_pos (by omega)];rfl
 ·rw[decide_eq_false h,if_neg (by omega)];rfl
theorem FJ(ha:a<8)(hw:w<7): ∃d e,Gh a ((a+1+w)% 8)=uY d e/\(d,e)∈prs/\d<8/\e<8:=by
 unfold Gh;rw[bP];have hm:=Nat.mod_lt (a+1+w) (show 0<8 by decide);by_cases h:(a+1+w)% 8<a
 ·rw[bU h];exact⟨_,_,rfl,yC h ha,hm,ha⟩
 ·rw[decide_eq_false h];exact⟨_,_,rfl,yC (show a<(a+1+w)% 8 by omega) hm,ha,hm⟩
noncomputable abbrev NT(v0 v1 v2 v3 v4 v5 v6:Option AV)(σ:aX):St:=⟨[v0,v1,v2,v3,v4,v5,v6,none,none,none,none],σ⟩
section
variable {n d e:Nat} {v0 v2:Option AV} {P Q:AO}
theorem NS(hd:d<8):dZ [] dI (.int d)=some (.str (cX (5+d))):=iI (f:=fun(d:Nat)=>dZ [] dI (.int d)) (g:=λd=>some (.str (cX (5+d)))) (l:=List.range 8) ⋯ (List.mem_range.mpr hd)
theorem BD(σ):(gT σ .split1 (.str "add or adc sbb and sub xor cmp") [.str " "]).map (λp=>(Res.ok p.1,p.2))=some (.ok dI,σ):=⋯
theorem CX(hd:d<8)(he:e<8)(hp:(d,e)∈prs):ae (aU (n+8)) bT ((dB.drop 3).take 3) (NT v0 (some (.ref 0)) v2 (some (uY d e)) none none none [P,Q])=
  some (.ok .next,NT v0 (some (.ref 0)) v2 (some (uY d e)) (some (.lst (rT d e))) (some (.int e)) (some (.ref 85)) (CL P Q d e)):=by
 have h1:=Ld n P Q;have h2:=Nd n P Q;have h3:=HJ n P Q (d:=d) (by exact dA (by assumption) ∅);have h4:=Jh n P Q (d:=d) (e:=e) (by exact dA (by assumption) ∅);have h5:=H4 (n+5) P Q hp;exact aY [.k (.ref 2) (P::Q::stC 2 C9),.k (.ref 17) (xb P Q),.a,.k dI (xb P Q),.v (.str (cX (5+d))),.k (.ref 37) (vO P Q d),.k dI (vO P Q d),.v (.str (cX (5+e))),.k (.ref 61) (tw P Q d e),.k (.ref 85) (CL P Q d e)] #[h5,h4,NS he,BD (vO P Q d),h3,NS hd,BD (xb P Q),h2,h1] ⋯
end
noncomputable def zP(n:Nat):AV->Bool:=n.rec (λ_=>false) λ_ f x=>x.t?.elim (x.T5||x.i?.isSome||x.s?.isSome) λl=>l.all f
theorem BU{f:AV->AV->Bool}{l:aV}:(∀a∈l,f a a=true)->(l.zip l).all (λp=>f p.1 p.2)=true:=by
 induction l with
 |nil=>exact λ_=>rfl
 |cons a l ih=>exact λh=>ca ⟨h a (.head _),ih λb hb=>h b (.tail _ hb)⟩
theorem Bh(n:Nat): ∀{a:AV},zP n a=true->eqT n a a=true:=by
 induction n with
 |zero=>exact ft
 |succ n ih=>exact fun{a}=>a.casesOn (motive_1:=λa=>zP (n+1) a=true->eqT (n+1) a a=true) (λ_=>rfl) (λ_=>ft) (λi _=>beq_self_eq_true i) (λs _=>beq_self_eq_true s) (λ_=>ft) (λ_=>ft) (λ_=>ft) (λl h=>ca ⟨beq_self_eq_true l.length,BU λa ha=>ih (gj h a ha)⟩) (λ_=>ft) (λ_ _=>ft) (λ_ _=>ft) (λ_ _=>ft) (λ_ _=>ft)
theorem Bk(p)(j)(y:List Op×Nat):zP 8 (AQ p j y)=true:=by
 have ho: ∀o:Op,zP 5 (dN o)=true:=λo=>by cases o<;>rfl
 have h:(y.1.map dN).all (zP 5)=true:=List.all_eq_true.mpr λa ha=>(List.mem_map.mp ha).elim λo h=>h.2▸ho o;show((true&&(true&&((y.1.map dN).all (zP 5)&&true)))&&(true&&true))=true;rw[h];rfl
theorem QG(σ):(Od σ ((eK b d e).getD .none) ((eK b d e).getD .none)).map (!·)=some false:=by
 cases h:eK b d e with
 |none=>rfl
 |some v=>
  obtain⟨p,j,y,rfl⟩:=pO h;exact ac (λb=>(cond b (some true) none:Option Bool).map not) (Bh 8 (Bk p j y))
noncomputable def x8(z:Bool)(P Q:AO)(d e:Nat):aX:=cond z (mL P Q d e) (CL P Q d e)
noncomputable abbrev KZ(z:Bool)(P Q:AO)(d e:Nat)(v0 v2 v7 v8 v9 v10:Option AV):St:=⟨[v0,some (.ref 0),v2,some (uY d e),some (.lst (rT d e)),some (.int e),some (.ref 85),v7,v8,v9,v10],x8 z P Q d e⟩
noncomputable def Oa:List IS:=match dB.getD 6 .pass with
 | .fr _ _ _ _ b=>b
 |_=>[]
section
variable {n d e:Nat} {v0 v2 v7 v8 v9 v10:Option AV} {P P' Q:AO} {z:Bool} {b:List UInt8}
theorem E0:(x8 z P Q d e).set 0 P'=x8 z P' Q d e:=by cases z<;>kernel_rfl
theorem E5:(x8 z P Q d e)[0]?=some P:=by cases z<;>kernel_rfl
theorem IQ:fz 8 (.ref 85) (x8 z P Q d e)=mL P Q d e:=by
 cases z
 ·exact Pg P Q
 ·exact P7 P Q
theorem GS(hb:b.length<=900)(hp:(d,e)∈prs):call (n+8) 947 [.ref 85,.bytes b] (x8 z P Q d e)=some (zm (po d e) b,mL P Q d e):=by
 refine(fY (n:=n+7) (vs':=[iV d e,.bytes b]) (σ':=mL P Q d e) ⋯ ?_ ?_ (dj tc rfl)).trans (Av hb Fb (Jr hp) (Kr hp) _)
 ·show fz 8 (.bytes b) (fz 8 (.ref 85) (x8 z P Q d e))=_;rw[IQ];rfl
 ·show[rs 8 _ (.ref 85),rs 8 _ (.bytes b)]=_;rw[OL];rfl
theorem oF(a)(hd:d<8)(he:e<8)(hp:(d,e)∈prs)(hP:bY P (k+39)): ∃P' Wo Wq VC,bY P' k/\stepI (aU (n+8)) bT (.var 7) Oa a (KZ z P Q d e v0 v2 v7 v8 v9 v10)=some (.ok .next,KZ true P' Q d e v0 v2 (some a) Wo Wq VC):=by
 obtain⟨b,P',hb,hP',h1⟩:=Iq (n+4) hd he hP (σ:=x8 z P Q d e) (i:=0) E5;rw[E0] at h1;have h2:=vG (n:=n) (d0:=d) (d1:=e) (b:=b) (by omega) (x8 z P' Q d e);have h3:=GS (n:=n) (z:=z) (P:=P') (Q:=Q) (b:=b) (by omega) hp;have h4:=Dt hp hb;have h5:=QG (b:=b) (d:=d) (e:=e) (mL P' Q d e);refine⟨P',some (.bytes b),some ((eK b d e).getD .none),some ((eK b d e).getD .none),hP',?_⟩;rcases CW (n+4) (po d e) b with⟨g1,g2⟩|⟨v,t,g1,g2,g3,g4,⟨l,g5⟩,g6⟩
 ·rw[g2] at h4;rw[g1] at h3;rw[<-h4] at h2 h5 ⊢;exact ce [.k (.bytes b) (x8 z P' Q d e),.k .none (x8 z P' Q d e),.r (.exc 83) (mL P' Q d e),.b false] #[h5,h3,h2,h1] ⋯
 ·rw[g2] at h4;rw[g1] at h3;rw[<-h4] at h2 h5 ⊢;subst g5;exact ce [.k (.bytes b) (x8 z P' Q d e),.k t (x8 z P' Q d e),.k (.obj 780 l) (mL P' Q d e),.k t (mL P' Q d e),.b false] #[h5,g6 (mL P' Q d e),h3,h2,h1] ⋯
end
theorem AS(n:Nat)(l:List Int)(hl:l.length<=63): ∃σ,k9 (aU (n+8)) bT 11 1 [] true dB [.lst (l.map .int)] []=some (.ok (.bool true),σ):=by
 have p0:bY (i8 (l.take 40) 0 0) 1000:= .mk (by rw[List.length_take];omega) ∅;have h0:=II (n+7) l (by omega);obtain⟨a,P1,ha,V2,h1⟩:=f0 (n+7) (o:=i8 (l.take 40) 0 0) (k:=999) p0 (m:=8) ∅ ∅ [];obtain⟨w,P2,hw,hP2,h2⟩:=f0 (n+7) (k:=998) V2 (m:=7) ∅ ∅ [];obtain⟨d,e,hde,hp,hd,he⟩:=FJ ha hw;have hs:=JI a ((a+1+w)% 8);rw[hde] at hs;have em:Int.fmod ((a:Int)+1+w) 8=(((a+1+w)% 8:Nat):Int):=Hw (a+1+w) 8;have e0:ae (aU (n+8)) bT (dB.take 3) (NT (some (.lst (l.map .int))) none none none none none none [])=some (.ok .next,NT (some (.lst (l.map .int))) (some (.ref 0)) (some (.int a)) (some (uY d e)) none none none [P2,.lst [.int a,.int ((a+1+w)% 8:Nat)]]):=by
  rw[<-em] at hs ⊢;exact aY [.k (.ref 0) [i8 (l.take 40) 0 0],.k (.int a) [P1],.k (.int w) [P2],.a,.v (uY d e)] #[hs,h2,h1,h0] ⋯
 have e1:=CX (n:=n) (v0:=some (.lst (l.map .int))) (v2:=some (.int a)) (P:=P2) (Q:= .lst [.int a,.int ((a+1+w)% 8:Nat)]) hd he hp;obtain⟨P3,a8,a9,a10,UW,t1⟩:=oF (n:=n) (z:=false) (v0:=some (.lst (l.map .int))) (v2:=some (.int a)) (v7:=none) (v8:=none) (v9:=none) (v10:=none) (P:=P2) (Q:= .lst [.int a,.int ((a+1+w)% 8:Nat)]) (.int 0) (k:=959) hd he hp hP2;obtain⟨P4,b8,b9,b10,V3,t2⟩:=oF (n:=n) (z:=true) (v0:=some (.lst (l.map .int))) (v2:=some (.int a)) (v7:=some (.int 0)) (v8:=a8) (v9:=a9) (v10:=a10) (P:=P3) (Q:= .lst [.int a,.int ((a+1+w)% 8:Nat)]) (.int 1) (k:=920) hd he hp UW;obtain⟨P5,c8,c9,VX,V4,t3⟩:=oF (n:=n) (z:=true) (v0:=some (.lst (l.map .int))) (v2:=some (.int a)) (v7:=some (.int 1)) (v8:=b8) (v9:=b9) (v10:=b10) (P:=P4) (Q:= .lst [.int a,.int ((a+1+w)% 8:Nat)]) (.int 2) (k:=881) hd he hp V3;obtain⟨P6,d8,d9,Ua,WB,t4⟩:=oF (n:=n) (z:=true) (v0:=some (.lst (l.map .int))) (v2:=some (.int a)) (v7:=some (.int 2)) (v8:=c8) (v9:=c9) (v10:=VX) (P:=P5) (Q:= .lst [.int a,.int ((a+1+w)% 8:Nat)]) (.int 3) (k:=842) hd he hp V4;have hF:bf (aU (n+8)) bT (.fr .range 9 [.k (.int 4)] (.var 7) Oa) (KZ false P2 (.lst [.int a,.int ((a+1+w)% 8:Nat)]) d e (some (.lst (l.map .int))) (some (.int a)) none none none none)=some (.ok .next,KZ true P6 (.lst [.int a,.int ((a+1+w)% 8:Nat)]) d e (some (.lst (l.map .int))) (some (.int a)) (some (.int 3)) d8 d9 Ua):=
  (rZ (vs:=[.int 4]) (items:=[.int 0,.int 1,.int 2,.int 3]) rfl ⋯).trans ((cC t1).trans ((cC t2).trans ((cC t3).trans ((cC t4).trans rfl))))
 have hE:ae (aU (n+8)) bT (dB.drop 7) (KZ true P6 (.lst [.int a,.int ((a+1+w)% 8:Nat)]) d e (some (.lst (l.map .int))) (some (.int a)) (some (.int 3)) d8 d9 Ua)=some (.ok (.ret (.bool true)),KZ true P6 (.lst [.int a,.int ((a+1+w)% 8:Nat)]) d e (some (.lst (l.map .int))) (some (.int a)) (some (.int 3)) d8 d9 Ua):=⋯
 have hA:ae (aU (n+8)) bT (dB.take 3++((dB.drop 3).take 3++(.fr .range 9 [.k (.int 4)] (.var 7) Oa::dB.drop 7))) (NT (some (.lst (l.map .int))) none none none none none none [])=_:=
  (aO e0).trans ((aO e1).trans ((fj hF).trans hE))
 have hB:kh (aU (n+8)) bT 11 true (dB.take 3++((dB.drop 3).take 3++(.fr .range 9 [.k (.int 4)] (.var 7) Oa::dB.drop 7))) [.lst (l.map .int)] []=some (.ok (.bool true),x8 true P6 (.lst [.int a,.int ((a+1+w)% 8:Nat)]) d e):=ac (Option.bind · λp:Res Fl×St=>je true p.1 [] p.2.S9) hA;exact⟨_,hB⟩
end
end Mine
namespace Mine
section
open PySem PySem.W PySem.Calls PyProof.Rows PySem.SeqAt
set_option maxHeartbeats 1000000
set_option maxRecDepth 1000000
theorem NE(p:Params):tQ p mainGlobals "law" =some (.ref 1219):=⋯
section
variable {w:World} {Bs:Base w}
theorem GJ{f:Addr}{scope:Scope}{body:List Stmt}{nm:List Str}{np l:Nat}{dv:List Value}{d:aV}{T:Tb}{gl:Gl}{ir:List IS}(hl:l<=200)(hE:nP Bs f scope body nm np dv)(hS:s9 Bs scope nm gl)
  (hd:ag w (λ_=>none) [] d dv) (hB:BodyOk Bs l T gl ir nm scope body) (hnp:np<=nm.length) (hdn:d.length<=np) {G:Gm} {s:Shared} {args:aV} {vs:List Value} {b:Bool} {σ':aX}
  (gb:dF Bs.B G) (gf: ∀b o,G b=some o->s.heap.get? b=some o) (hv:ag w G [] args vs) (hrun:k9 T gl nm.length np d true ir args []=some (.ok (.bool b),σ')) {R:Result->Shared->Prop}
  (k: ∀h' tk,(∀b o,s.heap.get? b=some o->h'.get? b=some o)->R (.ok (.ret (.bool b))) {s with heap:=h',toks:=tk}):
  codeAny (model Bs.prog w) callerA (.call (.ref f) ⟨vs,[]⟩) R s:=by
 have hA:vT (l+1) [] callerA:=⟨by show 1+claimMargin+3*(l+1)+8<=1000;unfold claimMargin;omega,by show 4+30*(l+1)+73<=9900;omega,rfl,rfl⟩;have nin: ∀b,¬bK [] [] b:=λb h=>h.elim λk z=>z.elim λp z=>z.elim λo z=>aB z.1;refine eV hrun λhargs hc=>bA hc λq he hc=>call_in hE hS hd hB hnp hdn hA ⟨gb,gf,rfl,λk p o e=>aB e,λi j p q x y e=>aB e,λb h=>(nin b h).elim,λe=>fP⟩ hv hargs he λenv h₀ tk m c I' G' ρ' h' tk' I2 S2=> ?_;obtain⟨q1,st2⟩:=q;cases q1 with
 |exc C=>exact aB hc
 |ok a=>
  refine λfl hf=>bA hc λv e hc=> ?_;obtain⟨e1,_⟩:=so hc;obtain rfl:=Om e1;have hu:xV fl= .bool b:=hf.val e;rw[hu];exact k h' tk' λa o e=>(S2.keep a o (c.e8 a o e) (nin a) λz=>aD e (c.hp a z)).elim λsl q=>q.1.trans (ac (λy=>some ({o with slots:=y}:Obj)) (q.2 λz=>(c.hfr a z).elim fP λz=>aD e z))
end
def sJ(n:Nat):Prop:= ∀l:List Int,l.length<=63-> ∃σ,k9 (aU n) bT 11 1 [] true dB [.lst (l.map .int)] []=some (.ok (.bool true),σ)
noncomputable def wI(x:WData):Option Int:=match x with| .int i=>some i|_=>none
theorem Jj{P:Params}{h:Heap}{v:Value}{d:WData}(w:Well P h v d): ∀i,wI d=some i-> ∃t,v= .int i t:=
 w.casesOn (motive_1:=λv d _=> ∀i,wI d=some i-> ∃t,v= .int i t) (λ_=>aB) (λ_ _=>aB) (λi t j e=>⟨t,ac (Value.int · t) (aC e)⟩) (λ_ _ _=>aB) (λ_ _ _=>aB) (λ_ _ _=>aB) (λ_ _=>aB) (λ_ _ _=>aB) (λ_ _ _=>aB) (λ_ _ _=>aB) (λ_ _ _ _ _=>aB) (λ_ _ _ _ _=>aB) (λ_ _ _ _ _=>aB)
theorem EV{R:WRecords}{P:Params}{h:Heap}(xs:List WData): ∀{vs:List Value},WShape.hasItems R xs .int=true->WellAll P h vs xs-> ∃l:List Int,xs=l.map .int/\ ∀(w:World) G ρ,ag w G ρ (l.map .int) vs:=by
 induction xs with
 |nil=>exact fun{vs} _ hw=>match vs,hw with|_,.nil=>⟨[],rfl,λ_ _ _=>rfl⟩
 |cons x xs ih=>exact fun{vs} hx hw=>match vs,hw with
  |_,.cons h1 h2=>have z:=bG (hx:(WShape.has R x .int&&WShape.hasItems R xs .int)=true)
   (hasW_int z.1).elim λi e=>(Jj h1 i (e▸rfl)).elim λt q=>(ih z.2 h2).elim λl y=>⟨i::l,congr (ac List.cons e) y.1,λw G ρ=>⟨_,_,rfl,⟨t,q⟩,y.2 w G ρ⟩⟩
noncomputable def NU(a:List WData)(b:Bool):Bool:=WTm.holds [] (.and (.not (.lit (.bool b))) (.lit (.bool true))) {args:=a}
theorem FM(l:List Int)(p2:WTm.holds [] (.and (.not (.lt (.lit (.int 63)) (.len (.arg 0)))) (.lit (.bool true))) {args:=[.list (l.map .int)]}=true):l.length<=63:=by
 have e:WTm.holds [] (.and (.not (.lt (.lit (.int 63)) (.len (.arg 0)))) (.lit (.bool true))) {args:=[.list (l.map .int)]}=NU [.list (l.map .int)] (decide ((63:Int)<(((l.map WData.int).length:Nat):Int))):=⋯
 cases q:decide ((63:Int)<(((l.map WData.int).length:Nat):Int)) with
 |true=>rw[q] at e;exact ft ((⋯:NU [.list (l.map .int)] true=false).symm.trans (e.symm.trans p2))
 |false=>exact(List.length_map (as:=l) WData.int)▸Nat.not_lt.mp λz=>of_decide_eq_false q (Int.ofNat_lt.mpr z)
theorem Fx(a b:List WData):PySem.Challenge.rw_nn0075_01.row.toRowW.claim.post a (.bool true) b=true:=⋯
theorem Dy{w:World}{Bs:Base w}(ST:uo Bs){fI:Addr}{TH:Scope}{kh:List Stmt}(RO:fm Bs 83 fI TH kh)(n:Nat):
  ∃(fd:FuncData) (body:List Stmt) (dv:List Value),nP Bs 1219 fd.scope body (cq fd.scope) 1 dv/\s9 Bs fd.scope (cq fd.scope) bT/\ag w (λ_=>none) [] [] dv/\BodyOk Bs n (aU n) bT dB (cq fd.scope) fd.scope body/\(cq fd.scope).length=11:=by
 have hm:((1219,false,true,1,11,[],bT,dB):Info)∈dY:=gz (⋯:dY[101]?=some (1219,false,true,1,11,[],bT,dB));obtain⟨⟨g,Wc,h1,hk⟩,h2⟩:=ST.fn _ hm;obtain⟨fd,body,dv,F,S,rep,ck,q1,q2,q3,q4⟩:=sG Wc h1;exact⟨fd,body,dv,pj F,S,rep,yi (M8 ST RO n) RO (lv:=n) ck (Ho hk q4),q1⟩
noncomputable def wL(x:WData):Option (List WData):=match x with| .list l=>some l|_=>none
theorem Fw{P:Params}{h:Heap}{v:Value}{d:WData}(w:Well P h v d): ∀xs,wL d=some xs-> ∃a vs,v= .ref a/\h.get? a=some {cls:= .type "list",data:= .seq (List.toArray vs)}/\WellAll P h vs xs:=
 w.casesOn (motive_1:=λv d _=> ∀xs,wL d=some xs-> ∃a vs,v= .ref a/\h.get? a=some {cls:= .type "list",data:= .seq (List.toArray vs)}/\WellAll P h vs xs) (λ_=>aB) (λ_ _=>aB) (λ_ _ _=>aB) (λ_ _ _=>aB) (λ_ _ _=>aB) (λ_ _ _=>aB) (λ_ _=>aB) (fun{a vs _} hb hw j e=>⟨a,vs,rfl,hb,aC e▸hw⟩) (λ_ _ _=>aB) (λ_ _ _=>aB) (λ_ _ _ _ _=>aB) (λ_ _ _ _ _=>aB) (λ_ _ _ _ _=>aB)
theorem Ke{P:Params}{h:Heap}{vs:List Value}{ds:List WData}(w:WellAll P h vs ds):ds=[]->vs=[]:=w.casesOn (motive_2:=λvs ds _=>ds=[]->vs=[]) (λ_=>rfl) λ_ _ e=>ON e
theorem Ij{P:Params}{h:Heap}{vs:List Value}{ds:List WData}{d:WData}(w:WellAll P h vs ds):ds=[d]-> ∃v,vs=[v]/\Well P h v d:=w.casesOn (motive_2:=λvs ds _=>ds=[d]-> ∃v,vs=[v]/\Well P h v d) (λe=>N5 e) fun{v vs d' ds} w1 w2 e=>⟨v,ac (v:: ·) (Ke w2 (List.cons.inj e).2),(List.cons.inj e).1▸w1⟩
theorem Fv{w:World}{n:Nat}(hn:n<=200)(L:sJ n){s₁:Shared}{b:Addr}{vs:List Value}{l:List Int}(hB: ∀b o,(base w).B b=some o->s₁.heap.get? b=some o)(hb:s₁.heap.get? b=some {cls:= .type "list",data:= .seq (List.toArray vs)})(hl: ∀(w:World) G ρ,ag w G ρ (l.map .int) vs)(hlen:l.length<=63){R:Result->Shared->Prop}
  (k: ∀h' tk,(∀b o,s₁.heap.get? b=some o->h'.get? b=some o)->R (.ok (.ret (.bool true))) {s₁ with heap:=h',toks:=tk}):codeAny (model (base w).prog w) callerA (.call (.ref 1219) ⟨[.ref b],[]⟩) R s₁:=by
 obtain⟨σ',hrun⟩:=L l hlen;obtain⟨sc,bd,RO⟩:=Ix w;obtain⟨fd,body,dv,E,S,rep,B,q1⟩:=Dy (Fz w) RO n;rw[<-q1] at hrun;have hv:ag w (λx=>if x=b then s₁.heap.get? b else(base w).B x) [] [.lst (l.map .int)] [.ref b]:=⟨.ref b,[],rfl,⟨b,vs,0,rfl,(if_pos rfl).trans hb,hl _ _ _⟩,rfl⟩;exact GJ (Bs:=base w) hn E S rep B (q1▸(by decide:1<=11)) ∅ (λx o e=>(Classical.em (x=b)).elim (λq=>(if_pos q).trans (q▸hB x o e)) λq=>(if_neg q).trans e) (λx o e=>(Classical.em (x=b)).elim (λq=>q.symm▸(if_pos q).symm.trans e) λq=>hB x o ((if_neg q).symm.trans e)) hv hrun k
theorem Gi{w:World}{mg:Str->Option Value}{a:Addr}(hN:mg "law" =(base w).mg "law")(hm:mg "law" =some (.ref a)):a=1219:=by
 have z:=(hm.symm.trans hN).trans ((congrFun (tu w) "law").trans (NE w.params));cases z;rfl
theorem Co{d:DefRec}{kwd:List (Str×Expr)}(hd:d.name= "law"){n:Nat}(hn:n<=200)(L:sJ n):WalkO MineH.q MineH.loose (λ_ _=>True) (λw h=> ∀b o,(MineH.H1 w.params).get? b=some o->h.get? b=some o) PySem.Challenge.rw_nn0075_01.row.toRowW d kwd (λf vs=>PySem.call f vs):=by
 intro w s₀ s₁ mg mb G Y a o pm cd doc dV kV ho hd' hcd hD hmg hg args vals as hpre hlay hrd hwl hlo;have hB: ∀b o,(base w).B b=some o->s₁.heap.get? b=some o:=Y;obtain rfl:=Gi (G.T.g.agree ((base w).hg _ hB) "law") (hd▸hmg);obtain⟨p1,p2⟩:=pre_splitW hpre;obtain⟨x,r,rfl,hx,hr⟩:=hasAllW_cons p1;obtain rfl:=hasAllW_nil hr;obtain⟨xs,rfl,hxs⟩:=hasW_list hx;obtain⟨v,rfl,w1⟩:=Ij hwl rfl;obtain⟨b,vs,rfl,hb,hws⟩:=Fw w1 xs rfl;obtain⟨l,rfl,hl⟩:=EV _ hxs hws;exact enter_call (Fv hn L hB hb hl (FM l p2) λh' tk kp=>⟨.inl ⟨.bool true,.bool true,[],rfl,λ_=>rfl,.bool true,Fx _ _,λ_=>⟨.nil,λa h=>nomatch h⟩⟩,.of_keep kp,rfl,.of_eq hg⟩)
noncomputable def dL:DefRec×List (Str×Expr):=(defOf MineH.q PySem.Challenge.rw_nn0075_01.row.name).get ⋯
theorem SL:defOf MineH.q PySem.Challenge.rw_nn0075_01.row.name=some (dL.1,dL.2):=⋯
theorem RL:PySem.Challenge.rw_nn0075_01.row.prog.theDef PySem.Challenge.rw_nn0075_01.row.name=some (dL.1.params,dL.1.body,dL.1.scope):=⋯
theorem SS:kwWritten? dL.1.params.kwonlyargs dL.1.params.kw_defaults=some dL.2:=⋯
theorem Sf:dL.1.name= "law" :=⋯
theorem Sb:namesResolve PySem.Challenge.rw_nn0075_01.row.prog=true:=⋯
theorem SR:(PySem.Challenge.rw_nn0075_01.row.prog.boundNames.all λn=> !worldNames.contains n)=true:=⋯
theorem R8:noRoadLSs {strict:= !(importedModules PySem.Challenge.rw_nn0075_01.row.prog.main.body).all cThrough.contains,foot:=none,bare:=(["vars","dir","locals"]:List Str).filter (readsOut PySem.Challenge.rw_nn0075_01.row.prog PySem.Challenge.rw_nn0075_01.row.prog.main.body)} PySem.Challenge.rw_nn0075_01.row.prog.main.body=true:=⋯
theorem R2:(namesMeet PySem.Challenge.rw_nn0075_01.row.prog PySem.Challenge.rw_nn0075_01.row.prog.main.body λ_ n=>attrL n)=true:=⋯
theorem SI:looksOpen PySem.Challenge.rw_nn0075_01.row.prog=true:=by
 delta looksOpen
 repeat' with_reducible apply look_both
 all_goals first|(with_reducible exact Sb)|(with_reducible exact SR)|(with_reducible exact R8)|(with_reducible exact R2)|kernel_rfl
theorem SY:PySem.Challenge.rw_nn0075_01.row.wellSaid=true:=by
 delta OpenRow.wellSaid
 repeat' with_reducible apply look_both
 all_goals try delta OpenRow.partSaid
 repeat' with_reducible apply look_both
 all_goals first|(with_reducible exact SI)|kernel_rfl
theorem LH:OpenLaw.wellSaid PySem.Challenge.rw_nn0075_01=true:=by
 delta OpenLaw.wellSaid
 repeat' with_reducible apply look_both
 all_goals first|(with_reducible exact SY)|kernel_rfl
theorem KF{n:Nat}(hn:n<=200)(L:sJ n)(HW:PySem.Challenge.rw_nn0075_01.row.toRowW.promised):PySem.Challenge.rw_nn0075_01.Holds:=by
 refine holds_law LH λsaid=> ?_;refine holds_open (q:=MineH.q) (loose:=MineH.loose) (Xt:=λ_=>true) (XP:=λ_ _=>True) (Yf:=λs=>s.heap) (Ya:=λw=>MineH.H1 w.params) (YP:=λw h=> ∀b o,(MineH.H1 w.params).get? b=some o->h.get? b=some o) (N:=20000)
  MineH.left (λw s e b o h=>by rw[e];exact h) (λw h h' k1 k2 b o e=>k2 _ _ (k1 _ _ e)) (λ_ _=>trivial) (λ_ _ _ _ _=>trivial) SL RL SS (λs e=>recFacts_of ⋯) ⋯ (by assumption) MineH.Ss ⟨rfl,rfl,rfl,rfl,rfl,by decide+kernel⟩ HW ?hc
 exact Co Sf hn L
theorem law_holds:PySem.Challenge.rw_nn0075_01.Holds:=KF (n:=20) ∅ (λl hl=>AS 12 l hl) MineH.HW
end
end Mine
theorem PySem.Challenge.cw_nn0075_01_holds : PySem.Challenge.rw_nn0075_01.Holds :=
  Mine.law_holds
