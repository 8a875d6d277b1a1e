import PyProof.Rows.All
import Wide.All
import OpenK.AllK
import Wide.FinOn
import PyProof.Rows.SortShellAny
import HandS.ForMost
import HandS.Set
import HandS.SetFor
import HandS.ExcValue
import HandS.Wide
import HandS.IsInst
import HandS.Style
import HandS.Codes
import HandS.Defaults
import HandS.Walk
import PyProof.Draws
import HandS.Base
import HandS.Call
import HandS.List
import HandS.Iter
import HandS.Dict
import HandS.More
import HandS.Exc
import HandS.Slots
import HandS.Star
import HandS.ClsMeth
import HandS.MakeKw
import HandS.MakeKwOnly
import HandS.FStr
import HandS.Replace
import HandS.ReplaceLit
import HandS.ReplaceList
import HandS.DictComp
import KE.KRevSl
import HandS.HeadHook1
import HandS.HeadHook2
import HandS.WordsExc
import HandS.Flow
import HandS.CallSlots
import HandS.Lambda
import HandS.TupAny
import HandS.TupLe
import HandS.RaiseMore
import HandS.WordsDict
import HandS.Nested
import HandS.EndTab
import HandS.HeadWalk
import HandS.Finally
import PyProof.ReprRoads
import PyProof.ReprText
import PyProof.ReprLen
import PyProof.StrLawsRepr
import PyProof.Rows.ReprOcc
import PyProof.Rows.RegStrFacts
import HandS.HeadHook4
import HandS.ExcInit
import HandS.ExcSuper
import KE.KExcSuper
import HandS.ExcField
import HandS.ExcIs
import HandS.TryOnly
import KE.KExcIs
import HandS.OwnEq
import KE.KCallOwn
import PyProof.FString3
import HandS.Comp
import HandS.Property
import HandS.Head0
import HandS.Head1
import HandS.Head2
import HandS.HeadEnd
import KE.KExcInit
import KE.KSuper
import PyProof.InstSpecial
import HandS.SetBool
import KE.KOpsOwn
import HandS.SortKw
import KE.SortKeyHeap
import PyProof.NeKinds
import HandS.DeepEq
import HandS.Conv
import HandS.Strs
import HandS.TryMany
import HandS.OwnIter
import HandS.IterNext
import HandS.IterVal
import HandS.HeadHook3
import HandS.Text
import PyProof.ToksMono
import HandS.ListEq
import PySem.Challenge.RW_foundaswritten_k45_stores_refuse
set_option Elab.async false
set_option linter.all false
set_option maxRecDepth 100000
set_option maxHeartbeats 2000000
namespace Fw
open PySem PySem.Spec PyProof.Rows L2
def nameT(e:Int×Value):Str:=match e.2 with
 | .str x _=>x
 | _=>Str.empty
def IsTx(w:World)(e:Int×Value):Prop:=∃ x tk,e.2=Value.str x tk/\e.1=hashStr w x
def TxSet(w:World)(h:Heap)(a:Addr)(L:List Str):Prop :=
 ∃ o es ep t,h.get? a=some o/\o.ExactSet/\o.data=.set es ep t/\(∀ e∈es.toList,IsTx w e)/\es.toList.map nameT=L/\L.Nodup /\
  L.length<scanBound/\t.fits es.size=true/\Ris t.place.toList/\(w.params.followText "set-order" = true\/t.led=true)
section
variable{P:Program}{w:World}{h h':Heap}{a:Addr}{L:List Str}
theorem TxSet.at(R:TxSet w h a L)(k:∀ o,h.get? a=some o->h'.get? a=some o):TxSet w h' a L:=by
 obtain ⟨o,es,ep,t,ho,r⟩:=R
 exact ⟨o,es,ep,t,k o ho,r⟩
end
section
variable{P:Program}{w:World}
theorem StrsAt.at_:∀ {us:List Value} {xs:List Str},StrsAre us xs->∀ (i:Nat) (v:Value),us[i]? = some v->∃ tk,v=.str (xs.getD i Str.empty) tk
 | _,_,.nil,i,v,e=>by simp at e
 | _,_,.cons x t r,0,v,e=>by
  simp at e
  exact ⟨t,by rw [← e]; rfl⟩
 | _,_,.cons x t r,i+1,v,e=>by
  obtain ⟨tk,q⟩:=StrsAt.at_ r i v (by simpa using e)
  exact ⟨tk,by rw [q]; simp⟩
end
section
variable{P:Program}{w:World}{A:Around}{E:Value->Shared->Prop}{s:Shared}
set_option maxHeartbeats 4000000 in
end
def once:List Str->List Str
 | []=>[]
 | x::r=>if x∈r then once r else x::once r
def I6(w:World)(a:Addr)(L:List Str):HO:=.ext fun h=>TxSet w h a L
def Kb(b:Addr)(H H':Hp):Prop:=∀ a o,a≠b->H a=some o->H' a=some o
theorem Kb.refl(b:Addr)(H:Hp):Kb b H H:=fun _ _ _ h=>h
theorem Kb.trans{b:Addr}{H H1 H2:Hp}(x:Kb b H H1)(y:Kb b H1 H2):Kb b H H2:=fun a o n h=>y a o n (x a o n h)
theorem Kb.upd{b:Addr}{H H1:Hp}{o:HO}(x:Kb b H H1):Kb b H (upd H1 b o):=fun a u n h=>by
 rw [upd_ne n]; exact x a u n h
theorem Kb.same{b:Addr}{H H1:Hp}(x:Same H H1):Kb b H H1:=fun a o _ h=>x a o h
theorem _root_.L2.Same.upd{H:Hp}{p:Addr}{o:HO}(h:H p=none):Same H (upd H p o):=fun b x e=>by
 rw [upd_ne (ne_of_none e h)]
 exact e
theorem Kb.new{b:Addr}{H H1:Hp}{p:Addr}{o:HO}(x:Kb b H H1)(h:H p=none):Kb b H (L2.upd H1 p o):=fun a u n e=>by
 rw [upd_ne (ne_of_none e h)]
 exact x a u n e
open SX in
open SX
end Fw
namespace Fw
open PySem PySem.Spec PyProof.Rows L2
open SX in
section
open He
def Sn(x:Str)(K:PySem.W.Frag):Bool:=PySem.W.readsIn K (ga K x) (.type "type")
def Pk(x f:Str)(i:Int)(K:PySem.W.Frag):Bool:=match PySem.W.findCls K (.ref (ga K x)) (.type "type") f with
 | some (.val (.int j _))=>decide (j=i)
 | _=>false
abbrev Ex:=List (PySem.W.Frag->Bool)
def obsX(ex:Ex)(fa:List Fa)(fn:List DefD)(K:PySem.W.Frag):AlD:=((ex.all fun f=>f K)&&(obsD fa fn K).1,(obsD fa fn K).2)
def SaysX(ex:Ex)(fa:List Fa)(fn:List DefD)(K:PySem.W.Frag):Prop:=obsX ex fa fn K=valD fn
section
variable{ex:Ex}{fa:List Fa}{fn:List DefD}{K:PySem.W.Frag}
theorem SaysX.d(c:SaysX ex fa fn K):SaysD fa fn K:=by
 have c1:=(ba (show ((ex.all fun f=>f K)&&(obsD fa fn K).1)=true from congrArg (fun z:AlD=>z.1) c)).2
 have c0:obsX ex fa fn K=valD fn:=c
 have c2:(obsX ex fa fn K).2=(valD fn).2:=by rw [c0]
 exact Prod.ext c1 c2
theorem SaysX.more(c:SaysX ex fa fn K)(i:Nat){f:PySem.W.Frag->Bool}(h:ex[i]? = some f:=by rfl):f K=true:=by
 have c1:=(ba (show ((ex.all fun f=>f K)&&(obsD fa fn K).1)=true from congrArg (fun z:AlD=>z.1) c)).1
 exact List.all_eq_true.mp c1 f (List.mem_of_getElem? h)
end
end
end Fw
namespace Vs
open PySem PySem.Spec PyProof.Rows L2 Fw SX
structure Lam where
 q:Str
 params:Arguments
 body:Expr
 scope:Scope
structure LT where
 tabs:List (Addr×Str)
 fn:UInt64->Addr ⊕ Lam
def Pl(f:Addr)(L:Lam)(c:Addr):HO:=.ext fun h=>∃ pm ctv:Value,h.get? f=some (PySem.W.kla_obj "<lambda>" L.q L.params L.body L.scope [] pm c ctv)
structure Gm where
 K:PySem.W.Frag
 w:World
 ca:Str->Addr
 T:LT
 sa:Addr
 sn:List Int
inductive D where
 | non | bl (b:Bool) | int (i:Int) | str (l:List Nat)
 | lst (xs:List D) | tup (xs:List D) | dct (kvs:List (List Nat×D)) | set (xs:List (List Nat))
 | ins (c:Str) (fs:List (Str×D))
 | con (v:V)
 | scr (ns:List Int)
abbrev Exn:=Str×List (Str×D)
inductive Sl where
 | un | sh (d:D) | ow (d:D) | bo (d:D) | bf (d:D) | lo (d:D)
abbrev Ve:=List Sl
inductive Rv where
 | val (d:D) | slot (i:Nat) | fresh (d:D)
inductive Res(α:Type) where
 | ok (a:α) (e:Ve) | er (x:Exn) (e:Ve) | no
abbrev M(α:Type):=Ve->Res α
def OkS(l:List Nat):Prop:=∀ c∈l,c<1114112
def Nh(g:Gm)(c:Str)(fs:List (Str×D)):Prop:=Cls g.K (g.ca c)/\∀ q∈fs,NoAttr g.K (g.ca c) q.1
def FnR(g:Gm)(G:Hp)(i:UInt64)(v:V):Prop:=match g.T.fn i with
 | .inl a=>v=.ref a
 | .inr L=>∃ f c,v=.ref f/\G f=some (Pl f L c)/\G c=some (LamX.CodeO c L.q)
def ConR(g:Gm)(G:Hp):V->V->Prop
 | .flt i,v=>FnR g G i v
 | u,v=>v=u
mutual
def Rep(g:Gm)(G:Hp):D->V->Prop
 | .non,v=>v=.non
 | .bl b,v=>v=.bl b
 | .int i,v=>v=.int i
 | .str l,v=>v=.str (S l)/\OkS l
 | .lst ds,v=>∃ a vs,v=.ref a/\G a=some (.lst vs)/\Reps g G ds vs
 | .tup ds,v=>∃ a vs,v=.ref a/\SqT g.K G a vs/\Reps g G ds vs
 | .dct kvs,v=>∃ a vs,v=.ref a/\G a=some (.dK vs)/\RepK g G kvs vs
 | .set xs,v=>∃ a L,v=.ref a/\G a=some (I6 g.w a L)/\L.Nodup/\∀ k,k∈L↔k∈xs.map S
 | .ins c fs,v=>∃ a dx vs,v=.ref a/\G a=some (.ins (g.ca c) dx vs)/\RepF g G fs vs/\Nh g c fs
 | .con u,v=>ConR g G u v
 | .scr ns,v=>v=.ref g.sa/\ns=g.sn
def Reps(g:Gm)(G:Hp):List D->List V->Prop
 | [],vs=>vs=[]
 | d::ds,vs=>∃ v r,vs=v::r/\Rep g G d v/\Reps g G ds r
def RepK(g:Gm)(G:Hp):List (List Nat×D)->List (Key×V)->Prop
 | [],vs=>vs=[]
 | (k,d)::ds,vs=>OkS k/\∃ v r,vs=(.inr (S k),v)::r/\Rep g G d v/\RepK g G ds r
def RepF(g:Gm)(G:Hp):List (Str×D)->List (Str×V)->Prop
 | [],vs=>vs=[]
 | (k,d)::ds,vs=>∃ v r,vs=(k,v)::r/\Rep g G d v/\RepF g G ds r
end
def Le(G G':Hp):Prop:=∀ a u,G a=some u->G' a=some u
theorem Le.refl(G:Hp):Le G G:=fun _ _ h=>h
theorem Le.trans{G G1 G2:Hp}(x:Le G G1)(y:Le G1 G2):Le G G2:=fun a u h=>y a u (x a u h)
theorem Le.upd{G:Hp}{p:Addr}{o:HO}(h:G p=none):Le G (upd G p o):=fun a u e=>by rw [upd_ne (ne_of_none e h)]; exact e
theorem Le.sqL{K:PySem.W.Frag}{G G':Hp}{a:Addr}{vs:List V}(x:Le G G')(h:SqL K G a vs):SqL K G' a vs:=by
 rcases h with (h | ⟨o,h⟩) | h
 ·exact .inl (.inl (x _ _ h))
 ·exact .inl (.inr ⟨o,x _ _ h⟩)
 ·exact .inr h
theorem Le.sqT{K:PySem.W.Frag}{G G':Hp}{a:Addr}{vs:List V}(x:Le G G')(h:SqT K G a vs):SqT K G' a vs:=by
 rcases h with (h | ⟨o,h⟩) | h
 ·exact .inl (.inl (x _ _ h))
 ·exact .inl (.inr ⟨o,x _ _ h⟩)
 ·exact .inr h
theorem ConR.mono{g:Gm}{G G':Hp}(h:Le G G'):∀ {u v:V},ConR g G u v->ConR g G' u v
 | .flt i,v,r=>by
  show FnR g G' i v
  have r:FnR g G i v:=r
  unfold FnR at r ⊢
  split at r
  ·exact r
  ·obtain ⟨f,c,e,a,b⟩:=r
   exact ⟨f,c,e,h _ _ a,h _ _ b⟩
 | .non,_,r=>r
 | .bl _,_,r=>r
 | .int _,_,r=>r
 | .str _,_,r=>r
 | .byt _,_,r=>r
 | .ref _,_,r=>r
 | .ty _,_,r=>r
mutual
theorem Rep.mono{g:Gm}{G G':Hp}(h:Le G G'):∀ {d:D} {v:V},Rep g G d v->Rep g G' d v
 | .non,_,r=>r
 | .bl _,_,r=>r
 | .int _,_,r=>r
 | .str _,_,r=>r
 | .lst _,_,⟨a,vs,e,q,r⟩=>⟨a,vs,e,h _ _ q,Reps.mono h r⟩
 | .tup _,_,⟨a,vs,e,q,r⟩=>⟨a,vs,e,h.sqT q,Reps.mono h r⟩
 | .dct _,_,⟨a,vs,e,q,r⟩=>⟨a,vs,e,h _ _ q,RepK.mono h r⟩
 | .set _,_,⟨a,L,e,q,r⟩=>⟨a,L,e,h _ _ q,r⟩
 | .ins _ _,_,⟨a,dx,vs,e,q,r,k⟩=>⟨a,dx,vs,e,h _ _ q,RepF.mono h r,k⟩
 | .con _,_,r=>ConR.mono h r
 | .scr _,_,r=>r
theorem Reps.mono{g:Gm}{G G':Hp}(h:Le G G'):∀ {ds:List D} {vs:List V},Reps g G ds vs->Reps g G' ds vs
 | [],_,r=>r
 | _::_,_,⟨v,r,e,p,q⟩=>⟨v,r,e,Rep.mono h p,Reps.mono h q⟩
theorem RepK.mono{g:Gm}{G G':Hp}(h:Le G G'):∀ {ds:List (List Nat×D)} {vs:List (Key×V)},RepK g G ds vs->RepK g G' ds vs
 | [],_,r=>r
 | (_,_)::_,_,⟨ok,v,r,e,p,q⟩=>⟨ok,v,r,e,Rep.mono h p,RepK.mono h q⟩
theorem RepF.mono{g:Gm}{G G':Hp}(h:Le G G'):∀ {ds:List (Str×D)} {vs:List (Str×V)},RepF g G ds vs->RepF g G' ds vs
 | [],_,r=>r
 | (_,_)::_,_,⟨v,r,e,p,q⟩=>⟨v,r,e,Rep.mono h p,RepF.mono h q⟩
end
def Own(g:Gm)(G H:Hp)(p:Addr):D->Prop
 | .lst ds=>∃ vs,H p=some (.lst vs)/\Reps g G ds vs
 | .dct kvs=>∃ vs,H p=some (.dK vs)/\RepK g G kvs vs
 | .ins c fs=>∃ dx vs,H p=some (.ins (g.ca c) dx vs)/\RepF g G fs vs/\Nh g c fs
 | _=>False
theorem Own.mono{g:Gm}{G G' H H':Hp}{p:Addr}(h:Le G G')(e:H' p=H p):∀ {d:D},Own g G H p d->Own g G' H' p d
 | .lst _,⟨vs,a,r⟩=>⟨vs,e.trans a,r.mono h⟩
 | .dct _,⟨vs,a,r⟩=>⟨vs,e.trans a,r.mono h⟩
 | .ins _ _,⟨dx,vs,a,r,k⟩=>⟨dx,vs,e.trans a,r.mono h,k⟩
def Pln:HO->Prop
 | .lst _=>True
 | .dK _=>True
 | .ins _ _ _=>True
 | _=>False
theorem Pln.nf{o:HO}(h:Pln o)(ob:Obj)(u:HO):o≠.frz ob u:=fun z=>by subst z; exact h
theorem Pln.nt{o:HO}(h:Pln o)(ps:Array Value):o≠.tbl ps:=fun z=>by subst z; exact h
theorem Own.there{g:Gm}{G H:Hp}{p:Addr}:∀ {d:D},Own g G H p d->∃ o,H p=some o/\Pln o/\∀ {G':Hp},Le G G'->G' p=some o->Rep g G' d (.ref p)
 | .lst _,⟨vs,a,r⟩=>⟨_,a,trivial,fun le q=>⟨p,vs,rfl,q,r.mono le⟩⟩
 | .dct _,⟨vs,a,r⟩=>⟨_,a,trivial,fun le q=>⟨p,vs,rfl,q,r.mono le⟩⟩
 | .ins _ _,⟨dx,vs,a,r,k⟩=>⟨_,a,trivial,fun le q=>⟨p,dx,vs,rfl,q,r.mono le,k⟩⟩
def OwnR(g:Gm)(G H:Hp)(p:Addr):D->Prop
 | .lst ds=>∃ vs,H p=some (.lst vs)/\Reps g G ds vs
 | .dct kvs=>∃ vs,Rd H p (.dK vs)/\RepK g G kvs vs
 | .ins c fs=>∃ dx vs,H p=some (.ins (g.ca c) dx vs)/\RepF g G fs vs/\Nh g c fs
 | _=>False
theorem Own.r{g:Gm}{G H:Hp}{p:Addr}:∀ {d:D},Own g G H p d->OwnR g G H p d
 | .lst _,h=>h
 | .dct _,⟨vs,a,r⟩=>⟨vs,.of a,r⟩
 | .ins _ _,h=>h
def LoD(g:Gm)(G H:Hp)(p:Addr):D->Prop
 | .lst ds=>∃ ob vs,H p=some (.frz ob (.lst vs))/\Reps g G ds vs
 | .dct kvs=>∃ ob vs,H p=some (.frz ob (.dK vs))/\RepK g G kvs vs
 | _=>False
theorem LoD.mono{g:Gm}{G G' H H':Hp}{p:Addr}(h:Le G G')(e:H' p=H p):∀ {d:D},LoD g G H p d->LoD g G' H' p d
 | .lst _,⟨ob,vs,a,r⟩=>⟨ob,vs,e.trans a,r.mono h⟩
 | .dct _,⟨ob,vs,a,r⟩=>⟨ob,vs,e.trans a,r.mono h⟩
theorem LoD.there{g:Gm}{G H:Hp}{p:Addr}:∀ {d:D},LoD g G H p d->∃ ob u,H p=some (.frz ob u)/\∀ kvs,d=.dct kvs->OwnR g G H p d
 | .lst _,⟨ob,vs,a,r⟩=>⟨ob,_,a,fun _ z=>nomatch z⟩
 | .dct _,⟨ob,vs,a,r⟩=>⟨ob,_,a,fun _ _=>⟨vs,.inr ⟨ob,a⟩,r⟩⟩
def SlOk(g:Gm)(G H:Hp):Option Sl->Option (Option V)->Prop
 | some (.sh d),o=>∃ v,o=some (some v)/\Rep g G d v
 | some (.bf d),o=>∃ v,o=some (some v)/\Rep g G d v
 | some (.ow d),o=>∃ p,o=some (some (.ref p))/\G p=none/\Own g G H p d
 | some (.bo d),o=>∃ p,o=some (some (.ref p))/\G p=none/\Own g G H p d
 | some (.lo d),o=>∃ p,o=some (some (.ref p))/\G p=none/\LoD g G H p d
 | _,_=>True
def Ge:Option Sl->Prop
 | some (.ow _)=>True
 | some (.bo _)=>True
 | _=>False
def Rt(σ:L2.St)(e:Ve)(i:Nat)(p:Addr):Prop:=Ge e[i]?/\σ[i]? = some (some (.ref p))
def So:HO->Bool
 | .dK _=>true
 | _=>false
structure Bs(G H:Hp):Prop where
 pl:∀ a o u,G a≠some (.frz o u)
 sub:∀ a u,G a=some u->H a=some u\/(So u=true/\∃ o,H a=some (.frz o u))
def Tabs2(T:List (Addr×Str))(G H:Hp):Prop:=∀ p∈T,∃ ps:Array Value,H p.1=some (.tbl ps)/\G p.1=none/\TriplesOk ps.toList/\∀ (pos:Pos) (cv:Value),codeAmong pos ps.toList=some cv->∃ c,cv=.ref c/\G c=some (LamX.CodeO c p.2)
theorem Tabs2.mono{T:List (Addr×Str)}{G G' H:Hp}(t:Tabs2 T G H)(h:Le G G')(hn:∀ a ps,H a=some (.tbl ps)->G a=none->G' a=none):Tabs2 T G' H:=fun q hq=>by
 obtain ⟨ps,h1,hg,h2,h3⟩:=t q hq
 refine ⟨ps,h1,hn _ _ h1 hg,h2,fun pos cv hc=>?_⟩
 obtain ⟨c,e1,e2⟩:=h3 pos cv hc
 exact ⟨c,e1,h _ _ e2⟩
theorem Tabs2.kept{T:List (Addr×Str)}{G H H':Hp}(t:Tabs2 T G H)(h:∀ a ps,H a=some (.tbl ps)->H' a=some (.tbl ps)):Tabs2 T G H':=fun q hq=>by
 obtain ⟨ps,h1,hg,h2,h3⟩:=t q hq
 exact ⟨ps,h _ _ h1,hg,h2,h3⟩
theorem Tabs2.tabs{T:List (Addr×Str)}{G H:Hp}(t:Tabs2 T G H)(b:∀ a u,G a=some u->H a=some u\/(So u=true/\∃ o,H a=some (.frz o u))):LamX.Tabs T H:=fun q hq=>by
 obtain ⟨ps,h1,hg,h2,h3⟩:=t q hq
 refine ⟨ps,h1,h2,fun pos cv hc=>?_⟩
 obtain ⟨c,e1,e2⟩:=h3 pos cv hc
 rcases b _ _ e2 with z | ⟨z,_⟩
 ·exact ⟨c,e1,z⟩
 ·cases z
def ScrOk(g:Gm)(G H:Hp):Prop:=(∃ o,H g.sa=some (.frz o (.lst (g.sn.map .int))))\/(∀ H',SqL g.K H' g.sa (g.sn.map .int))\/G g.sa=some (.lst (g.sn.map .int))
theorem ScrOk.keep{g:Gm}{G H H':Hp}(k:∀ o u,H g.sa=some (.frz o (.lst u))->H' g.sa=some (.frz o (.lst u))):ScrOk g G H->ScrOk g G H'
 | .inl ⟨o,h⟩=>.inl ⟨o,k _ _ h⟩
 | .inr h=>.inr h
theorem ScrOk.mono{g:Gm}{G G' H:Hp}(le:Le G G'):ScrOk g G H->ScrOk g G' H
 | .inl h=>.inl h
 | .inr (.inl h)=>.inr (.inl h)
 | .inr (.inr h)=>.inr (.inr (le _ _ h))
structure SR(g:Gm)(G H:Hp)(σ:L2.St)(e:Ve):Prop where
 bs:Bs G H
 tabs:Tabs2 g.T.tabs G H
 scr:ScrOk g G H
 len:e.length=σ.length
 slot:∀ i:Nat,SlOk g G H e[i]? σ[i]?
 inj:∀ i j p,Rt σ e i p->Rt σ e j p->i=j
def SlLe:Sl->Sl->Prop
 | .un,s=>s=.un
 | .sh d,s=>s=.sh d
 | .bf d,s=>s=.bf d
 | .lo d,s=>s=.lo d
 | .ow _,s=>∃ d,s=.ow d\/s=.sh d
 | .bo _,s=>∃ d,s=.bo d\/s=.bf d
structure VeLe(e e':Ve):Prop where
 len:e'.length=e.length
 at_:∀ (i:Nat) s,e[i]? = some s->∃ s',e'[i]? = some s'/\SlLe s s'
def Pm:Sl->Bool
 | .bf _=>true
 | .lo _=>true
 | _=>false
structure St(g:Gm)(G H:Hp)(σ:L2.St)(e:Ve)(G' H':Hp)(σ':L2.St)(e':Ve):Prop where
 sr:SR g G' H' σ' e'
 ln:e'.length=e.length
 le:Le G G'
 keep:∀ a o,H a=some o->(∀ i,¬ Rt σ e i a)->(∀ ps,o≠.tbl ps)->H' a=some o
 dom:∀ a,H' a=none->H a=none
 new:∀ a,G a=none->H a≠none->(∀ i,¬ Rt σ e i a)->G' a=none
 rts:∀ i p,Rt σ' e' i p->(∃ j,Rt σ e j p)\/H p=none
 rto:∀ (i:Nat) d p,e'[i]? = some (.ow d)->σ'[i]? = some (some (.ref p))->(∃ (j:Nat) (d0:D),e[j]? = some (.ow d0)/\σ[j]? = some (some (.ref p)))\/H p=none
 bor:∀ (i:Nat) d,e[i]? = some (.bo d)->σ'[i]? = σ[i]?/\∃ d',e'[i]? = some (.bo d')\/e'[i]? = some (.bf d')
 bof:∀ (i:Nat) s,e[i]? = some s->Pm s=true->σ'[i]? = σ[i]?/\e'[i]? = some s
 nlo:∀ (i:Nat) d,e'[i]? = some (.lo d)->e[i]? = some (.lo d)
structure Tr(g:Gm)(σ:L2.St)(G H:Hp)(e:Ve)(G' H':Hp)(e':Ve):Prop where
 sr:SR g G' H' σ e'
 le:Le G G'
 keep:∀ a o,H a=some o->(∀ i,¬ Rt σ e i a)->(∀ ps,o≠.tbl ps)->H' a=some o
 dom:∀ a,H' a=none->H a=none
 new:∀ a,G a=none->H a≠none->(∀ i,¬ Rt σ e i a)->G' a=none
 ve:VeLe e e'
section
variable{g:Gm}{G H G1 H1 G2 H2:Hp}{σ σ1 σ2:L2.St}{e e1 e2:Ve}
theorem Pn{s s':Sl}(h:SlLe s s')(o:Ge (some s')):Ge (some s):=by
 cases s with
 | un=>cases h; exact o
 | sh d=>cases h; exact o
 | bf d=>cases h; exact o
 | lo d=>cases h; exact o
 | ow d=>trivial
 | bo d=>trivial
theorem VeLe.refl(e:Ve):VeLe e e:=⟨rfl,fun i s h=>⟨s,h,by cases s <;> simp [SlLe]⟩⟩
theorem SlLe.trans{a b c:Sl}(h:SlLe a b)(k:SlLe b c):SlLe a c:=by
 cases a with
 | un=>cases h; exact k
 | sh d=>cases h; exact k
 | bf d=>cases h; exact k
 | lo d=>cases h; exact k
 | ow d =>
  obtain ⟨d1,rfl | rfl⟩:=h
  ·exact k
  ·cases k; exact ⟨_,.inr rfl⟩
 | bo d =>
  obtain ⟨d1,rfl | rfl⟩:=h
  ·exact k
  ·cases k; exact ⟨_,.inr rfl⟩
theorem VeLe.trans(a:VeLe e e1)(b:VeLe e1 e2):VeLe e e2:=⟨b.len.trans a.len,fun i s h=>by
 obtain ⟨s1,h1,l1⟩:=a.at_ i s h
 obtain ⟨s2,h2,l2⟩:=b.at_ i s1 h1
 exact ⟨s2,h2,l1.trans l2⟩⟩
theorem VeLe.rt(v:VeLe e e1){i:Nat}{p:Addr}(r:Rt σ e1 i p):Rt σ e i p:=by
 refine ⟨?_,r.2⟩
 cases q:e[i]? with
 | none =>
  have h1:e1[i]? = none:=by
   rw [List.getElem?_eq_none_iff] at q ⊢
   rw [v.len]; exact q
  have:=r.1
  rw [h1] at this
  exact this.elim
 | some s =>
  obtain ⟨s',h1,l⟩:=v.at_ i s q
  have:=r.1
  rw [h1] at this
  exact Pn l this
theorem VeLe.owB(v:VeLe e e1){i:Nat}{d:D}{p:Addr}(h1:e1[i]? = some (.ow d))(h2:σ[i]? = some (some (.ref p))):∃ (j:Nat) (d0:D),e[j]? = some (.ow d0)/\σ[j]? = some (some (.ref p)):=by
 cases q:e[i]? with
 | none =>
  rw [List.getElem?_eq_none_iff,← v.len,← List.getElem?_eq_none_iff] at q
  rw [q] at h1; cases h1
 | some s =>
  obtain ⟨s',h',l⟩:=v.at_ i s q
  rw [h1] at h'; cases h'
  cases s with
  | un=>cases l
  | sh d=>cases l
  | bf d=>cases l
  | lo d=>cases l
  | ow d0=>exact ⟨i,d0,q,h2⟩
  | bo d0=>obtain ⟨d',z | z⟩:=l <;> cases z
theorem VeLe.nlo(v:VeLe e e1){i:Nat}{d:D}(h1:e1[i]? = some (.lo d)):e[i]? = some (.lo d):=by
 cases q:e[i]? with
 | none =>
  rw [List.getElem?_eq_none_iff,← v.len,← List.getElem?_eq_none_iff] at q
  rw [q] at h1; cases h1
 | some s =>
  obtain ⟨s',h',l⟩:=v.at_ i s q
  rw [h1] at h'; cases h'
  cases s with
  | un=>cases l
  | sh d=>cases l
  | bf d=>cases l
  | lo d=>cases l; rfl
  | ow d0=>obtain ⟨d',z | z⟩:=l <;> cases z
  | bo d0=>obtain ⟨d',z | z⟩:=l <;> cases z
theorem Tr.refl(s:SR g G H σ e):Tr g σ G H e G H e:=⟨s,Le.refl G,fun _ _ h _ _=>h,fun _ h=>h,fun _ h _ _=>h,VeLe.refl e⟩
theorem Tr.trans(a:Tr g σ G H e G1 H1 e1)(b:Tr g σ G1 H1 e1 G2 H2 e2):Tr g σ G H e G2 H2 e2 :=
 ⟨b.sr,a.le.trans b.le,fun x o h n nt=>b.keep x o (a.keep x o h n nt) (fun i r=>n i (a.ve.rt r)) nt,fun x h=>a.dom x (b.dom x h),fun x h1 h2 n=>by
  exact b.new x (a.new x h1 h2 n) (fun z=>h2 (a.dom x z)) fun i r=>n i (a.ve.rt r),a.ve.trans b.ve⟩
theorem Tr.st(a:Tr g σ G H e G1 H1 e1):St g G H σ e G1 H1 σ e1 :=
 ⟨a.sr,a.ve.len,a.le,a.keep,a.dom,a.new,fun i p r=>.inl ⟨i,a.ve.rt r⟩,fun i d p h1 h2=>.inl (a.ve.owB h1 h2),fun i d h=>⟨rfl,by
  obtain ⟨s',h1,d',l⟩:=a.ve.at_ i _ h
  rcases l with rfl | rfl
  ·exact ⟨d',.inl h1⟩
  ·exact ⟨d',.inr h1⟩⟩,fun i s h fx=>⟨rfl,by
  obtain ⟨s',h1,l⟩:=a.ve.at_ i _ h
  cases s with
  | bf d=>cases l; exact h1
  | lo d=>cases l; exact h1
  | _=>cases fx⟩,fun i d h=>a.ve.nlo h⟩
theorem St.refl(s:SR g G H σ e):St g G H σ e G H σ e:=(Tr.refl s).st
theorem St.trans(a:St g G H σ e G1 H1 σ1 e1)(b:St g G1 H1 σ1 e1 G2 H2 σ2 e2):St g G H σ e G2 H2 σ2 e2:=by
 have nr:∀ x o,H x=some o->(∀ i,¬ Rt σ e i x)->∀ i,¬ Rt σ1 e1 i x:=fun x o h n i r=>by
  rcases a.rts i x r with ⟨j,q⟩ | q
  ·exact n j q
  ·rw [h] at q; cases q
 refine ⟨b.sr,b.ln.trans a.ln,a.le.trans b.le,fun x o h n nt=>b.keep x o (a.keep x o h n nt) (nr x o h n) nt,fun x h=>a.dom x (b.dom x h),fun x h1 h2 n=>?_,fun i p r=>?_,fun i d p h1 h2=>?_,fun i d h=>?_,fun i s h fx=>?_,fun i d h=>a.nlo i d (b.nlo i d h)⟩
 ·obtain ⟨o,ho⟩:=Option.ne_none_iff_exists'.mp h2
  exact b.new x (a.new x h1 h2 n) (fun z=>h2 (a.dom x z)) (nr x o ho n)
 ·rcases b.rts i p r with ⟨j,q⟩ | q
  ·exact a.rts j p q
  ·exact .inr (a.dom p q)
 ·rcases b.rto i d p h1 h2 with ⟨j,d0,x,y⟩ | x
  ·exact a.rto j d0 p x y
  ·exact .inr (a.dom p x)
 ·obtain ⟨x1,d1,y1⟩:=a.bor i d h
  rcases y1 with y1 | y1
  ·obtain ⟨x2,y2⟩:=b.bor i d1 y1
   exact ⟨x2.trans x1,y2⟩
  ·obtain ⟨x2,y2⟩:=b.bof i _ y1 rfl
   exact ⟨x2.trans x1,d1,.inr y2⟩
 ·obtain ⟨x1,y1⟩:=a.bof i s h fx
  obtain ⟨x2,y2⟩:=b.bof i s y1 fx
  exact ⟨x2.trans x1,y2⟩
theorem Bs.hn(b:Bs G H){p:Addr}(h:H p=none):G p=none:=by
 cases q:G p with
 | none=>rfl
 | some u =>
  rcases b.sub p u q with z | ⟨_,o,z⟩
  ·rw [h] at z; cases z
  ·rw [h] at z; cases z
theorem Bs.rd(b:Bs G H){p:Addr}{u:HO}(h:Rd G p u):Rd H p u:=by
 rcases h with h | ⟨o,h⟩
 ·rcases b.sub p u h with z | ⟨_,o,z⟩
  ·exact .inl z
  ·exact .inr ⟨o,z⟩
 ·exact absurd h (b.pl p o u)
theorem Bs.sqL{K:PySem.W.Frag}(b:Bs G H){a:Addr}{vs:List V}(h:SqL K G a vs):SqL K H a vs:=by
 rcases h with h | h
 ·exact .inl (b.rd h)
 ·exact .inr h
theorem Bs.sqT{K:PySem.W.Frag}(b:Bs G H){a:Addr}{vs:List V}(h:SqT K G a vs):SqT K H a vs:=by
 rcases h with h | h
 ·exact .inl (b.rd h)
 ·exact .inr h
theorem Bs.at_(b:Bs G H){a:Addr}{u:HO}(h:G a=some u)(c:So u=false):H a=some u:=by
 rcases b.sub a u h with z | ⟨z,_⟩
 ·exact z
 ·rw [c] at z; cases z
theorem Bs.lay(b:Bs G H){p:Addr}{o:HO}(h:H p=none):Bs G (upd H p o):=⟨b.pl,fun a u e=>by
 have n:a≠p:=fun z=>by rw [z,b.hn h] at e; cases e
 rw [upd_ne n]
 exact b.sub a u e⟩
theorem Bs.lay2(b:Bs G H){p:Addr}{o:HO}(h:H p=none)(hf:∀ ob u,o≠.frz ob u):Bs (upd G p o) (upd H p o):=by
 refine ⟨fun a ob u e=>?_,fun a u e=>?_⟩
 ·by_cases z:a=p
  ·rw [z,upd_same] at e; exact hf ob u (Option.some.inj e)
  ·rw [upd_ne z] at e; exact b.pl a ob u e
 ·by_cases z:a=p
  ·subst z; rw [upd_same] at e ⊢; exact .inl e
  ·rw [upd_ne z] at e ⊢; exact b.sub a u e
theorem Bs.frz(b:Bs G H){p:Addr}{o:HO}(h:H p=some o)(hf:∀ ob u,o≠.frz ob u):Bs (upd G p o) H:=by
 refine ⟨fun a ob u e=>?_,fun a u e=>?_⟩
 ·by_cases z:a=p
  ·rw [z,upd_same] at e; exact hf ob u (Option.some.inj e)
  ·rw [upd_ne z] at e; exact b.pl a ob u e
 ·by_cases z:a=p
  ·subst z; rw [upd_same] at e; rw [← Option.some.inj e]; exact .inl h
  ·rw [upd_ne z] at e; exact b.sub a u e
structure Grow(G H G' H':Hp):Prop where
 bs:Bs G' H'
 le:Le G G'
 keep:∀ a o,H a=some o->H' a=some o
 new:∀ a,G a=none->H a≠none->G' a=none
theorem Grow.dom(w:Grow G H G1 H1)(a:Addr)(h:H1 a=none):H a=none:=by
 cases q:H a with
 | none=>rfl
 | some o=>rw [w.keep a o q] at h; cases h
theorem Grow.refl(b:Bs G H):Grow G H G H:=⟨b,Le.refl G,fun _ _ h=>h,fun _ h _=>h⟩
theorem Grow.trans(a:Grow G H G1 H1)(b:Grow G1 H1 G2 H2):Grow G H G2 H2:=⟨b.bs,a.le.trans b.le,fun x o h=>b.keep x o (a.keep x o h),fun x h1 h2=>by
 obtain ⟨o,ho⟩:=Option.ne_none_iff_exists'.mp h2
 exact b.new x (a.new x h1 h2) (by rw [a.keep x o ho]; exact fun z=>nomatch z)⟩
theorem Grow.lay(b:Bs G H){p:Addr}{o:HO}(h:H p=none):Grow G H G (upd H p o):=⟨b.lay h,Le.refl G,fun a u e=>by rw [upd_ne (ne_of_none e h)]; exact e,fun _ h _=>h⟩
theorem Grow.lay2(b:Bs G H){p:Addr}{o:HO}(h:H p=none)(hf:∀ ob u,o≠.frz ob u):Grow G H (upd G p o) (upd H p o) :=
 ⟨b.lay2 h hf,Le.upd (b.hn h),fun a u e=>by rw [upd_ne (ne_of_none e h)]; exact e,fun a h1 h2=>by rw [upd_ne (fun z=>h2 (by rw [z]; exact h))]; exact h1⟩
end
def RvOk(g:Gm)(G H:Hp)(σ:L2.St)(e:Ve)(H0:Hp):Rv->V->Prop
 | .val d,v=>Rep g G d v
 | .slot i,v=>σ[i]? = some (some v)/\∃ s,e[i]? = some s/\s≠.un
 | .fresh d,v=>∃ p,v=.ref p/\G p=none/\Own g G H p d/\H0 p=none/\∀ i,¬ Rt σ e i p
theorem RvOk.h0{g:Gm}{G H H0 H00:Hp}{σ:L2.St}{e:Ve}(k:∀ p,H0 p=none->H00 p=none):∀ {r:Rv} {v:V},RvOk g G H σ e H0 r v->RvOk g G H σ e H00 r v
 | .val d,_,h=>h
 | .slot i,_,h=>h
 | .fresh d,_,⟨p,ev,n,o,h0,nr⟩=>⟨p,ev,n,o,k p h0,nr⟩
def XOk(g:Gm)(G:Hp)(x:Exn)(cls:Value)(d:Option Addr):Prop :=
 cls=.ref (g.ca x.1)/\((d=none/\x.2=[])\/∃ da fs,d=some da/\G da=some (.xd fs)/\RepF g G x.2 fs)
def Pst{α:Type}(g:Gm)(W:WX)(σ:L2.St)(G H:Hp)(e:Ve)(R:α->Hp->Hp->Ve->Prop):Res α->Prop
 | .ok a e'=>∀ G' H',Tr g σ G H e G' H' e'->R a G' H' e'
 | .er x e'=>∀ cls d G' H',Tr g σ G H e G' H' e'->XOk g G' x cls d->W cls d σ H'
 | .no=>False
def M.bind{α β:Type}(f:M α)(k:α->M β):M β:=fun e=>match f e with
 | .ok a e'=>k a e'
 | .er x e'=>.er x e'
 | .no=>.no
def M.ret{α:Type}(a:α):M α:=fun e=>.ok a e
def M.map{α β:Type}(f:M α)(k:α->β):M β:=M.bind f fun a=>M.ret (k a)
section
variable{g:Gm}{W:WX}{σ:L2.St}{G H:Hp}{e:Ve}{α β:Type}
theorem Pst.mono{R R':α->Hp->Hp->Ve->Prop}{r:Res α}(h:Pst g W σ G H e R r)(k:∀ a G' H' e',Tr g σ G H e G' H' e'->R a G' H' e'->R' a G' H' e'):Pst g W σ G H e R' r:=by
 cases r with
 | ok a e'=>exact fun G' H' t=>k a G' H' e' t (h G' H' t)
 | er x e'=>exact h
 | no=>exact h
theorem Pst.bind{R:β->Hp->Hp->Ve->Prop}{f:M α}{k:α->M β}(h:Pst g W σ G H e R (M.bind f k e)):Pst g W σ G H e (fun a G1 H1 e1=>Pst g W σ G1 H1 e1 (fun b G2 H2 e2=>R b G2 H2 e2) (k a e1)) (f e):=by
 unfold M.bind at h
 revert h
 cases f e with
 | no=>exact fun h=>h
 | er x e'=>exact fun h=>h
 | ok a e1 =>
  intro h G1 H1 t1
  show Pst g W σ G1 H1 e1 _ (k a e1)
  have h:Pst g W σ G H e R (k a e1):=h
  revert h
  cases k a e1 with
  | no=>exact fun h=>h
  | er x e'=>exact fun h cls d G' H' t2=>h cls d G' H' (t1.trans t2)
  | ok b e2=>exact fun h G' H' t2=>h G' H' (t1.trans t2)
end
def RvsOk(g:Gm)(G H:Hp)(σ:L2.St)(e:Ve)(H0:Hp):List Rv->List V->Prop
 | [],vs=>vs=[]
 | r::rs,vs=>∃ v t,vs=v::t/\RvOk g G H σ e H0 r v/\RvsOk g G H σ e H0 rs t/\∀ d p,r=.fresh d->v=.ref p->∀ d' u,(.fresh d',u)∈rs.zip t->u≠.ref p
inductive Ctl where
 | nx | rt (r:Rv) | bk | ct
structure Rm(k:Nat)(A:Around):Prop extends Room k A where
 gd:A.guards=some []
theorem Rm.mono{j k:Nat}{A:Around}(r:Rm k A)(h:j<=k):Rm j A:=⟨r.toRoom.mono h,r.gd⟩
theorem Aeg{A:Around}{C:Addr}{us:List Value}{kw:List (Str×Value)}:(A.under (.builtin "type.__call__" ⟨.ref C::us,kw⟩)).guards=pushGuards [] A.guards:=by
 first | rfl | simp [Around.under,Code.guards,Code.isGuard,guardIds]
theorem Rm.make{k:Nat}{A:Around}(r:Rm (k+1) A)(C:Addr)(us:List Value)(kw:List (Str×Value)):Rm k (A.under (.builtin "type.__call__" ⟨.ref C::us,kw⟩)):=⟨r.toRoom.make C us kw,by rw [Aeg,r.gd]; rfl⟩
structure Cd(g:Gm)(W:WX)(k:Nat)(X:Cx):Prop where
 K:X.K=g.K
 w:X.w=g.w
 calm:X.calm=true
 tk:Takes X W
 room:Rm k X.A
 po:PassesOwn (model X.prog X.w) X.A X.env X.xe
 nd:X.N.Nodup
theorem PE.imp{X:Cx}{e:Expr}{t t':TE}(h:PE X e t)(k:∀ σ H Q,t' σ H Q->t σ H Q):PE X e t':=⟨fun pins s σ H Q I q=>h.run pins s σ H Q I (k σ H Q q)⟩
theorem PT.imp{X:Cx}{e:Expr}{t t':TT}(h:PT X e t)(k:∀ σ H Q,t' σ H Q->t σ H Q):PT X e t':=⟨fun pins s σ H Q I q=>h.run pins s σ H Q I (k σ H Q q)⟩
theorem PA.imp{X:Cx}{e:List Expr}{t t':TA}(h:PA X e t)(k:∀ σ H Q,t' σ H Q->t σ H Q):PA X e t':=⟨fun pos pins s σ H Q I q=>h.run pos pins s σ H Q I (k σ H Q q)⟩
theorem PS.imp{X:Cx}{st:Stmt}{t t':TS}(h:PS X st t)(k:∀ D σ H,t' D σ H->t D σ H):PS X st t':=⟨fun pins s σ H D I q=>h.run pins s σ H D I (k D σ H q)⟩
theorem PSs.imp{X:Cx}{st:List Stmt}{t t':TS}(h:PSs X st t)(k:∀ D σ H,t' D σ H->t D σ H):PSs X st t':=⟨fun pins s σ H D I q=>h.run pins s σ H D I (k D σ H q)⟩
def Bz(r:Rv):M D:=fun e=>match r with
 | .val d=>.ok d e
 | .fresh d=>.ok d e
 | .slot i=>match e[i]? with
  | some (.sh d)=>.ok d e
  | some (.bf d)=>.ok d e
  | some (.ow d)=>.ok d (e.set i (.sh d))
  | some (.bo d)=>.ok d (e.set i (.bf d))
  | _=>.no
def RepH(g:Gm)(G H:Hp)(d:D)(v:V):Prop:=Rep g G d v\/∃ p,v=.ref p/\G p=none/\OwnR g G H p d
section
variable{g:Gm}{W:WX}{k:Nat}{X:Cx}{G H G1 H1 H0:Hp}{σ:L2.St}{e e1 e2:Ve}{r:Rv}{v:V}{d:D}
theorem getElem?_set'{α:Type}(l:List α)(i j:Nat)(a:α):(l.set i a)[j]? = if i=j/\i<l.length then some a else l[j]?:=by
 by_cases h:i=j
 ·subst h
  by_cases h2:i<l.length
  ·rw [List.getElem?_set_self h2,if_pos ⟨rfl,h2⟩]
  ·rw [if_neg (fun z=>h2 z.2),List.getElem?_eq_none (by simpa using h2),List.getElem?_eq_none (by omega)]
 ·rw [List.getElem?_set_ne h,if_neg (fun z=>h z.1)]
theorem C7{α:Type}{l:List α}{i:Nat}{a:α}(h:l[i]? = some a):i<l.length:=(List.getElem?_eq_some_iff.mp h).1
theorem SR.frz{i:Nat}{s:Sl}(sr:SR g G H σ e)(hi:e[i]? = some s)(s':Sl)(hs:(s=.ow d/\s'=.sh d)\/(s=.bo d/\s'=.bf d)):∃ p o,σ[i]? = some (some (.ref p))/\H p=some o/\Pln o/\G p=none/\Rep g (upd G p o) d (.ref p)/\SR g (upd G p o) H σ (e.set i s')/\VeLe e (e.set i s'):=by
 have sl:=sr.slot i
 rw [hi] at sl
 have sl2:∃ p,σ[i]? = some (some (.ref p))/\G p=none/\Own g G H p d:=by
  rcases hs with ⟨rfl,_⟩ | ⟨rfl,_⟩
  ·exact sl
  ·exact sl
 obtain ⟨p,ep,n,o⟩:=sl2
 obtain ⟨ob,ho,nf,mk⟩:=o.there
 have le:=Le.upd (o:=ob) n
 have rp:=mk le upd_same
 have hlt:=C7 hi
 have rti:Rt σ e i p:=by
  refine ⟨?_,ep⟩
  rw [hi]
  rcases hs with ⟨rfl,_⟩ | ⟨rfl,_⟩ <;> trivial
 have hns:¬ Ge (some s'):=by
  rcases hs with ⟨_,rfl⟩ | ⟨_,rfl⟩ <;> exact fun z=>z
 have nrt:∀ j q,Rt σ (e.set i s') j q->Rt σ e j q/\j≠i:=fun j q r=>by
  have h1:=r.1
  rw [getElem?_set'] at h1
  by_cases hj:i=j
  ·subst hj
   rw [if_pos ⟨rfl,hlt⟩] at h1
   exact absurd h1 hns
  ·rw [if_neg (fun z=>hj z.1)] at h1
   exact ⟨⟨h1,r.2⟩,fun z=>hj z.symm⟩
 refine ⟨p,ob,ep,ho,nf,n,rp,⟨sr.bs.frz ho nf.nf,sr.tabs.mono (Le.upd n) (fun a ps e m=>by rw [upd_ne (fun z=>by rw [z,ho] at e; exact nf.nt ps (Option.some.inj e))]; exact m),sr.scr.mono (Le.upd n),by rw [List.length_set]; exact sr.len,fun j=>?_,fun j l q a b=>sr.inj j l q (nrt j q a).1 (nrt l q b).1⟩,⟨by rw [List.length_set],fun j t ht=>?_⟩⟩
 ·by_cases hj:i=j
  ·subst hj
   rw [getElem?_set',if_pos ⟨rfl,hlt⟩]
   rcases hs with ⟨_,rfl⟩ | ⟨_,rfl⟩
   ·exact ⟨_,ep,rp⟩
   ·exact ⟨_,ep,rp⟩
  ·rw [getElem?_set',if_neg (fun z=>hj z.1)]
   have slj:=sr.slot j
   cases q:e[j]? with
   | none=>trivial
   | some t =>
    rw [q] at slj
    have ne:∀ p',Rt σ e j p'->p'≠p:=fun p' r z=>by
     subst z
     exact hj (sr.inj i j p' rti r)
    cases t with
    | un=>trivial
    | sh d=>obtain ⟨v,ev,r⟩:=slj; exact ⟨v,ev,r.mono le⟩
    | bf d=>obtain ⟨v,ev,r⟩:=slj; exact ⟨v,ev,r.mono le⟩
    | lo d =>
     obtain ⟨p',ev,n',r⟩:=slj
     obtain ⟨ob',u',ho',_⟩:=r.there
     exact ⟨p',ev,by rw [upd_ne (fun z=>by rw [z,ho] at ho'; exact nf.nf _ _ (Option.some.inj ho'))]; exact n',r.mono le rfl⟩
    | ow d=>obtain ⟨p',ev,n',r⟩:=slj; exact ⟨p',ev,by rw [upd_ne (ne p' ⟨by rw [q]; trivial,ev⟩)]; exact n',r.mono le rfl⟩
    | bo d=>obtain ⟨p',ev,n',r⟩:=slj; exact ⟨p',ev,by rw [upd_ne (ne p' ⟨by rw [q]; trivial,ev⟩)]; exact n',r.mono le rfl⟩
 ·by_cases hj:i=j
  ·subst hj
   rw [hi] at ht
   cases ht
   refine ⟨s',by rw [getElem?_set',if_pos ⟨rfl,hlt⟩],?_⟩
   rcases hs with ⟨rfl,rfl⟩ | ⟨rfl,rfl⟩
   ·exact ⟨d,.inr rfl⟩
   ·exact ⟨d,.inr rfl⟩
  ·refine ⟨t,by rw [getElem?_set',if_neg (fun z=>hj z.1)]; exact ht,?_⟩
   cases t <;> simp [SlLe]
theorem Ni(t:Tr g σ G H e G1 H1 e1)(ok:RvOk g G1 H1 σ e1 H r v)(h:Bz r e1=.ok d e2):∃ G2,Tr g σ G H e G2 H1 e2/\Rep g G2 d v:=by
 cases r with
 | val d'=>cases h; exact ⟨G1,t,ok⟩
 | fresh d' =>
  cases h
  obtain ⟨p,ev,n,o,h0,nr⟩:=ok
  obtain ⟨ob,ho,nf,mk⟩:=o.there
  have le:=Le.upd (o:=ob) n
  have gr:SR g (upd G1 p ob) H1 σ e1:=by
   refine ⟨t.sr.bs.frz ho nf.nf,t.sr.tabs.mono (Le.upd n) (fun a ps e m=>by rw [upd_ne (fun z=>by rw [z,ho] at e; exact nf.nt ps (Option.some.inj e))]; exact m),t.sr.scr.mono (Le.upd n),t.sr.len,fun j=>?_,t.sr.inj⟩
   have slj:=t.sr.slot j
   cases q:e1[j]? with
   | none=>trivial
   | some s =>
    rw [q] at slj
    have ne:∀ p',Rt σ e1 j p'->p'≠p:=fun p' r z=>nr j (z ▸ r)
    cases s with
    | un=>trivial
    | sh d=>obtain ⟨v,ev,r⟩:=slj; exact ⟨v,ev,r.mono le⟩
    | bf d=>obtain ⟨v,ev,r⟩:=slj; exact ⟨v,ev,r.mono le⟩
    | lo d =>
     obtain ⟨p',ev,n',r⟩:=slj
     obtain ⟨ob',u',ho',_⟩:=r.there
     exact ⟨p',ev,by rw [upd_ne (fun z=>by rw [z,ho] at ho'; exact nf.nf _ _ (Option.some.inj ho'))]; exact n',r.mono le rfl⟩
    | ow d=>obtain ⟨p',ev,n',r⟩:=slj; exact ⟨p',ev,by rw [upd_ne (ne p' ⟨by rw [q]; trivial,ev⟩)]; exact n',r.mono le rfl⟩
    | bo d=>obtain ⟨p',ev,n',r⟩:=slj; exact ⟨p',ev,by rw [upd_ne (ne p' ⟨by rw [q]; trivial,ev⟩)]; exact n',r.mono le rfl⟩
  refine ⟨upd G1 p ob,⟨gr,t.le.trans le,t.keep,t.dom,fun a h1 h2 h3=>?_,t.ve⟩,?_⟩
  ·rw [upd_ne (fun z=>h2 (by rw [z]; exact h0))]; exact t.new a h1 h2 h3
  ·rw [ev]; exact mk le upd_same
 | slot i =>
  obtain ⟨ev,s,es,ns⟩:=ok
  have sl:=t.sr.slot i
  unfold Bz at h
  simp only at h
  rw [es] at h sl
  have fin:∀ s',((s=.ow d/\s'=.sh d)\/(s=.bo d/\s'=.bf d))->e2=e1.set i s'->∃ G2,Tr g σ G H e G2 H1 e2/\Rep g G2 d v:=fun s' hs he=>by
   subst he
   obtain ⟨p,ob,ep,ho,nf,n,rp,sr2,ve2⟩:=t.sr.frz es s' hs
   have rti:Rt σ e1 i p:=by
    refine ⟨?_,ep⟩
    rw [es]
    rcases hs with ⟨rfl,_⟩ | ⟨rfl,_⟩ <;> trivial
   rw [ep] at ev
   cases ev
   refine ⟨upd G1 p ob,⟨sr2,t.le.trans (Le.upd n),t.keep,t.dom,fun a h1 h2 h3=>?_,t.ve.trans ve2⟩,rp⟩
   rw [upd_ne (fun z=>h3 i (t.ve.rt (by rw [z]; exact rti)))]; exact t.new a h1 h2 h3
  cases s with
  | un=>exact absurd rfl ns
  | sh d' =>
   cases h
   obtain ⟨v',ev',r'⟩:=sl
   rw [ev'] at ev
   cases ev
   exact ⟨G1,t,r'⟩
  | bf d' =>
   cases h
   obtain ⟨v',ev',r'⟩:=sl
   rw [ev'] at ev
   cases ev
   exact ⟨G1,t,r'⟩
  | ow d'=>cases h; exact fin _ (.inl ⟨rfl,rfl⟩) rfl
  | bo d'=>cases h; exact fin _ (.inr ⟨rfl,rfl⟩) rfl
  | lo d'=>cases h
end
def RvNew(g:Gm)(G H H0:Hp):Rv->V->Prop
 | .val d,v=>Rep g G d v
 | .fresh d,v=>∃ p,v=.ref p/\G p=none/\Own g G H p d/\H0 p=none
 | .slot _,_=>False
theorem SR.root{g:Gm}{G H:Hp}{σ:L2.St}{e:Ve}(sr:SR g G H σ e){i:Nat}{p:Addr}(r:Rt σ e i p):G p=none/\H p≠none:=by
 obtain ⟨o,ev⟩:=r
 have sl:=sr.slot i
 cases q:e[i]? with
 | none=>rw [q] at o; exact o.elim
 | some s =>
  rw [q] at o sl
  cases s with
  | un=>exact o.elim
  | sh d=>exact o.elim
  | bf d=>exact o.elim
  | lo d=>exact o.elim
  | ow d =>
   obtain ⟨p',ev',n,ow⟩:=sl
   rw [ev'] at ev; cases ev
   obtain ⟨ob,ho,_⟩:=ow.there
   exact ⟨n,by rw [ho]; exact fun z=>nomatch z⟩
  | bo d =>
   obtain ⟨p',ev',n,ow⟩:=sl
   rw [ev'] at ev; cases ev
   obtain ⟨ob,ho,_⟩:=ow.there
   exact ⟨n,by rw [ho]; exact fun z=>nomatch z⟩
theorem RvNew.ok{g:Gm}{G H G1 H1 H0:Hp}{σ:L2.St}{e:Ve}(sr:SR g G H σ e)(k:∀ p,H p=none->H0 p=none):∀ {r:Rv} {v:V},RvNew g G1 H1 H r v->RvOk g G1 H1 σ e H0 r v
 | .val _,_,h=>h
 | .fresh _,_,⟨p,ev,n,o,h0⟩=>⟨p,ev,n,o,k p h0,fun i r=>(sr.root r).2 h0⟩
def OpV(g:Gm)(r:R2)(f:D->D->Option Rv):Prop:=∀ (G H:Hp) (d1 d2:D) (x y:V) (out:Rv) (Q:VK),Bs G H->SqL g.K H g.sa (g.sn.map .int)->RepH g G H d1 x->RepH g G H d2 y->f d1 d2=some out ->
 (∀ v G' H',Grow G H G' H'->RvNew g G' H' H out v->Q v H')->r x y H Q
theorem OpV.or{g:Gm}{r r':R2}{f f' h:D->D->Option Rv}(a:OpV g r f)(b:OpV g r' f')(c:∀ d1 d2 out,h d1 d2=some out->f d1 d2=some out\/f' d1 d2=some out):OpV g (fun x y H Q=>r x y H Q\/r' x y H Q) h:=fun G H d1 d2 x y out Q bs sc p q e k =>
 (c d1 d2 out e).imp (fun z=>a G H d1 d2 x y out Q bs sc p q z k) (fun z=>b G H d1 d2 x y out Q bs sc p q z k)
section
variable{g:Gm}{W:WX}{k:Nat}{X:Cx}{G H G1 H1 H0 H00:Hp}{σ:L2.St}{e e1 e2:Ve}
theorem RvsOk.h0(q:∀ p,H0 p=none->H00 p=none):∀ {rs:List Rv} {vs:List V},RvsOk g G H σ e H0 rs vs->RvsOk g G H σ e H00 rs vs
 | [],_,h=>h
 | _::_,_,⟨v,r,ev,a,b,c⟩=>⟨v,r,ev,a.h0 q,RvsOk.h0 q b,c⟩
theorem RvsOk.new:∀ {rs:List Rv} {vs:List V},RvsOk g G H σ e H0 rs vs->∀ d u,(Rv.fresh d,u)∈rs.zip vs->∃ p,u=.ref p/\H0 p=none
 | [],_,_,d,u,m=>by simp at m
 | r::rs,_,⟨v,t,rfl,a,b,c⟩,d,u,m=>by
  rcases List.mem_cons.mp m with z | z
  ·cases z
   obtain ⟨p,ev,_,_,h0,_⟩:=a
   exact ⟨p,ev,h0⟩
  ·exact RvsOk.new b d u z
end
def RepsH(g:Gm)(G H:Hp):List D->List V->Prop
 | [],vs=>vs=[]
 | d::ds,vs=>∃ v r,vs=v::r/\RepH g G H d v/\RepsH g G H ds r
def CallV(g:Gm)(r:List V->Hp->VK->Prop)(f:List D->Option Rv):Prop:=∀ (G H:Hp) (ds:List D) (vs:List V) (out:Rv) (Q:VK),Bs G H->SqL g.K H g.sa (g.sn.map .int)->RepsH g G H ds vs->f ds=some out ->
 (∀ v G' H',Grow G H G' H'->RvNew g G' H' H out v->Q v H')->r vs H Q
theorem CallV.or{g:Gm}{r r':List V->Hp->VK->Prop}{f f' h:List D->Option Rv}(a:CallV g r f)(b:CallV g r' f')(c:∀ ds out,h ds=some out->f ds=some out\/f' ds=some out):CallV g (fun xs H Q=>r xs H Q\/r' xs H Q) h:=fun G H ds vs out Q bs sc p e k =>
 (c ds out e).imp (fun z=>a G H ds vs out Q bs sc p z k) (fun z=>b G H ds vs out Q bs sc p z k)
section
variable{g:Gm}{W:WX}{k:Nat}{X:Cx}{G H G1 H1 H0 H00:Hp}{σ:L2.St}{e e1 e2:Ve}
theorem Reps.len:∀ {ds:List D} {vs:List V},Reps g G ds vs->vs.length=ds.length
 | [],_,h=>by rw [show _=[] from h]; rfl
 | d::ds,_,⟨v,r,e,_,q⟩=>by rw [e,List.length_cons,List.length_cons,Reps.len q]
end
theorem PW.imp{X:Cx}{e:Expr}{t t':TT}(h:PW X e t)(k:∀ σ H Q,t' σ H Q->t σ H Q):PW X e t':=⟨fun wh pins s σ H Q I q=>h.run wh pins s σ H Q I (k σ H Q q)⟩
section
variable{g:Gm}{W:WX}{k:Nat}{X:Cx}{G H G1 H1 H0 H00:Hp}{σ:L2.St}{e e1 e2:Ve}{a b c:Expr}{rest:List Expr}{A B:M Bool}{pos:Pos}
theorem RepH.lst(bs:Bs G H){ds:List D}{v:V}(h:RepH g G H (.lst ds) v):∃ a vs,v=.ref a/\SqL g.K H a vs/\Reps g G ds vs:=by
 rcases h with ⟨a,vs,e,q,r⟩ | ⟨p,e,n,vs,q,r⟩
 ·exact ⟨a,vs,e,bs.sqL (.of q),r⟩
 ·exact ⟨p,vs,e,.of q,r⟩
theorem RepH.tup(bs:Bs G H){ds:List D}{v:V}(h:RepH g G H (.tup ds) v):∃ a vs,v=.ref a/\SqT g.K H a vs/\Reps g G ds vs:=by
 rcases h with ⟨a,vs,e,q,r⟩ | ⟨p,e,n,o⟩
 ·exact ⟨a,vs,e,bs.sqT q,r⟩
 ·exact o.elim
theorem RepH.str{l:List Nat}{v:V}(h:RepH g G H (.str l) v):v=.str (S l):=by
 rcases h with h | ⟨p,e,n,o⟩
 ·exact h.1
 ·exact o.elim
theorem RepH.int{i:Int}{v:V}(h:RepH g G H (.int i) v):v=.int i:=by
 rcases h with h | ⟨p,e,n,o⟩
 ·exact h
 ·exact o.elim
theorem RepH.bl{i:Bool}{v:V}(h:RepH g G H (.bl i) v):v=.bl i:=by
 rcases h with h | ⟨p,e,n,o⟩
 ·exact h
 ·exact o.elim
theorem RepH.non{v:V}(h:RepH g G H .non v):v=.non:=by
 rcases h with h | ⟨p,e,n,o⟩
 ·exact h
 ·exact o.elim
theorem RepH.con{u v:V}(h:RepH g G H (.con u) v)(nf:∀ i,u≠.flt i:=by intro i z; cases z):v=u:=by
 rcases h with h | ⟨p,e,n,o⟩
 ·cases u <;> first | exact h | exact absurd rfl (nf _)
 ·exact o.elim
end
def Ax(e:Ve)(i:Nat):Bool:=match e[i]? with
 | some .un=>true
 | some (.sh _)=>true
 | some (.ow _)=>true
 | _=>false
section
variable{g:Gm}{W:WX}{k:Nat}{X:Cx}{G H G1 H1 H0:Hp}{σ σ1:L2.St}{e e1 e2:Ve}{i:Nat}{d:D}{v:V}
theorem L3(h:Ax e i=true):i<e.length/\(∀ d,e[i]?≠some (.bo d))/\∀ s,Pm s=true->e[i]?≠some s:=by
 unfold Ax at h
 cases q:e[i]? with
 | none=>rw [q] at h; cases h
 | some s =>
  rw [q] at h
  refine ⟨C7 q,fun d z=>?_,fun s' fx z=>?_⟩
  ·cases z; cases h
  ·cases z
   cases s with
   | bf _=>cases h
   | lo _=>cases h
   | _=>cases fx
theorem SR.sto{s:Sl}(sr:SR g G H σ e)(c:Ax e i=true)(hs:(∃ d,s=.sh d/\Rep g G d v)\/∃ d p,s=.ow d/\v=.ref p/\G p=none/\Own g G H p d/\∀ j,¬ Rt σ e j p):SR g G H (σ.set i (some v)) (e.set i s):=by
 obtain ⟨hlt,nbo,nbf⟩:=L3 c
 have hlt2:i<σ.length:=by rw [← sr.len]; exact hlt
 refine ⟨sr.bs,sr.tabs,sr.scr,by rw [List.length_set,List.length_set]; exact sr.len,fun j=>?_,fun j l p a b=>?_⟩
 ·rw [getElem?_set',getElem?_set']
  by_cases hj:i=j
  ·subst hj
   rw [if_pos ⟨rfl,hlt⟩,if_pos ⟨rfl,hlt2⟩]
   rcases hs with ⟨d,rfl,r⟩ | ⟨d,p,rfl,rfl,n,o,_⟩
   ·exact ⟨v,rfl,r⟩
   ·exact ⟨p,rfl,n,o⟩
  ·rw [if_neg (fun z=>hj z.1),if_neg (fun z=>hj z.1)]
   exact sr.slot j
 ·have at_:∀ j p,Rt (σ.set i (some v)) (e.set i s) j p->(j≠i/\Rt σ e j p)\/(j=i/\v=.ref p/\∀ l,¬ Rt σ e l p):=fun j p r=>by
   obtain ⟨r1,r2⟩:=r
   rw [getElem?_set'] at r1 r2
   by_cases hj:i=j
   ·subst hj
    rw [if_pos ⟨rfl,hlt⟩] at r1
    rw [if_pos ⟨rfl,hlt2⟩] at r2
    cases r2
    rcases hs with ⟨d,rfl,_⟩ | ⟨d,p,rfl,ev,_,_,nr⟩
    ·exact r1.elim
    ·cases ev; exact .inr ⟨rfl,rfl,nr⟩
   ·rw [if_neg (fun z=>hj z.1)] at r1 r2
    exact .inl ⟨fun z=>hj z.symm,r1,r2⟩
  rcases at_ j p a with ⟨n1,r1⟩ | ⟨z1,y1,w1⟩ <;> rcases at_ l p b with ⟨n2,r2⟩ | ⟨z2,y2,w2⟩
  ·exact sr.inj j l p r1 r2
  ·exact absurd r1 (w2 j)
  ·exact absurd r2 (w1 l)
  ·rw [z1,z2]
theorem St.sto{s:Sl}(sr:SR g G H σ e)(c:Ax e i=true)(hs:(∃ d,s=.sh d/\Rep g G d v)\/∃ d p,s=.ow d/\v=.ref p/\G p=none/\Own g G H p d/\∀ j,¬ Rt σ e j p)
  (h0:St g G1 H1 σ1 e1 G H σ e)(nw:∀ d p,s=.ow d->v=.ref p->H1 p=none):St g G1 H1 σ1 e1 G H (σ.set i (some v)) (e.set i s):=by
 obtain ⟨hlt,nbo,nbf⟩:=L3 c
 have hlt2:i<σ.length:=by rw [← sr.len]; exact hlt
 refine ⟨sr.sto c hs,by rw [List.length_set]; exact h0.ln,h0.le,h0.keep,h0.dom,h0.new,fun j p r=>?_,fun j d p r1 r2=>?_,fun j d h=>?_,fun j s0 h fx=>?_,fun j d h=>?_⟩
 ·obtain ⟨r1,r2⟩:=r
  rw [getElem?_set'] at r1 r2
  by_cases hj:i=j
  ·subst hj
   rw [if_pos ⟨rfl,hlt⟩] at r1
   rw [if_pos ⟨rfl,hlt2⟩] at r2
   cases r2
   rcases hs with ⟨d,rfl,_⟩ | ⟨d,p',rfl,ev,_⟩
   ·exact r1.elim
   ·cases ev; exact .inr (nw d p rfl rfl)
  ·rw [if_neg (fun z=>hj z.1)] at r1 r2
   exact h0.rts j p ⟨r1,r2⟩
 ·rw [getElem?_set'] at r1 r2
  by_cases hj:i=j
  ·subst hj
   rw [if_pos ⟨rfl,hlt⟩] at r1
   rw [if_pos ⟨rfl,hlt2⟩] at r2
   cases r2
   exact .inr (nw d p (Option.some.inj r1) rfl)
  ·rw [if_neg (fun z=>hj z.1)] at r1 r2
   exact h0.rto j d p r1 r2
 ·obtain ⟨x,d',y⟩:=h0.bor j d h
  have hj:i≠j:=fun z=>by
   subst z
   rcases y with y | y
   ·exact nbo d' y
   ·exact nbf _ rfl y
  rw [getElem?_set',getElem?_set',if_neg (fun z=>hj z.1),if_neg (fun z=>hj z.1)]
  exact ⟨x,d',y⟩
 ·obtain ⟨x,y⟩:=h0.bof j s0 h fx
  have hj:i≠j:=fun z=>by
   subst z
   exact nbf s0 fx y
  rw [getElem?_set',getElem?_set',if_neg (fun z=>hj z.1),if_neg (fun z=>hj z.1)]
  exact ⟨x,y⟩
 ·rw [getElem?_set'] at h
  by_cases hj:i=j
  ·rw [if_pos ⟨hj,hlt⟩] at h
   rcases hs with ⟨d,rfl,_⟩ | ⟨d,p,rfl,_⟩ <;> cases h
  ·rw [if_neg (fun z=>hj z.1)] at h
   exact h0.nlo j d h
end
def Fz(H H':Hp):Prop:=∀ a o u,H a=some (.frz o u)->H' a=some (.frz o u)
theorem Fz.trans{H H1 H2:Hp}(a:Fz H H1)(b:Fz H1 H2):Fz H H2:=fun x o u h=>b x o u (a x o u h)
theorem PI.imp{X:Cx}{tg ex:Expr}{w w':TI}(h:PI X tg ex w)(k:∀ σ H R,w' σ H R->w σ H R):PI X tg ex w':=⟨fun pins s σ H R I q=>h.run pins s σ H R I (k σ H R q)⟩
theorem PI.or{X:Cx}{tg ex:Expr}{w w':TI}(h:PI X tg ex w)(h':PI X tg ex w'):PI X tg ex (fun σ H R=>w σ H R\/w' σ H R):=⟨fun pins s σ H R I q=>q.elim (h.run pins s σ H R I) (h'.run pins s σ H R I)⟩
theorem Reps.at{g:Gm}{G:Hp}:∀ {ds:List D} {vs:List V} {i:Nat} {v:V},Reps g G ds vs->vs[i]? = some v->∃ d,ds[i]? = some d/\Rep g G d v
 | [],_,i,v,h,q=>by rw [show _=[] from h] at q; simp at q
 | d::ds,_,0,v,⟨v',r,e,a,b⟩,q=>by
  subst e
  cases q
  exact ⟨d,rfl,a⟩
 | d::ds,_,i+1,v,⟨v',r,e,a,b⟩,q=>by
  subst e
  exact Reps.at (i:=i) b (by simpa using q)
def Ap(e:Ve):List Nat->Ve
 | []=>e
 | v::vs=>(Ap e vs).set v .un
section
variable{e e0:Ve}{σ:L2.St}{j:Nat}
theorem Ft:∀ vs:List Nat,(Ap e vs).length=e.length
 | []=>rfl
 | v::vs=>by rw [Ap,List.length_set,Ft vs]
theorem Ep:∀ {vs:List Nat},j ∉ vs->(Ap e vs)[j]? = e[j]?
 | [],_=>rfl
 | v::vs,h=>by
  rw [Ap,List.getElem?_set_ne (fun z=>h (by rw [z]; exact List.mem_cons_self))]
  exact Ep fun z=>h (List.mem_cons_of_mem _ z)
theorem Sq(hl:j<σ.length):∀ {vs:List Nat},j∈vs->(wipe σ vs)[j]? = some none
 | v::vs,h=>by
  rw [wipe,getElem?_set',wipe_length]
  by_cases z:v=j
  ·subst z; rw [if_pos ⟨rfl,hl⟩]
  ·rw [if_neg (fun q=>z q.1)]
   exact Sq hl ((List.mem_cons.mp h).resolve_left fun q=>z q.symm)
end
def W0:WX:=fun _ _ _ _=>False
section
variable{g:Gm}{G H G1 H1:Hp}{σ σ1:L2.St}{e e1:Ve}{p:Addr}{o:HO}{vs:List Nat}
def VeOff(vs:List Nat)(e e':Ve):Prop:=e'.length=e.length/\∀ j s,j ∉ vs->e[j]? = some s->∃ s',e'[j]? = some s'/\SlLe s s'
theorem VeOff.trans{e2:Ve}(a:VeOff vs e e1)(b:VeOff vs e1 e2):VeOff vs e e2:=⟨b.1.trans a.1,fun j s n h=>by
 obtain ⟨s1,h1,l1⟩:=a.2 j s n h
 obtain ⟨s2,h2,l2⟩:=b.2 j s1 n h1
 exact ⟨s2,h2,l1.trans l2⟩⟩
theorem VeLe.off(h:VeLe e e1):VeOff vs e e1:=⟨h.len,fun j s _ q=>h.at_ j s q⟩
theorem SlLe.refl(s:Sl):SlLe s s:=by cases s <;> simp [SlLe]
theorem VeOff.wipe:VeOff vs e (Ap e vs):=⟨Ft vs,fun j s n h=>⟨s,by rw [Ep n]; exact h,SlLe.refl s⟩⟩
theorem Nj{σ2:L2.St}(hl:σ2.length=σ.length)(h:∀ j,j ∉ vs->σ2[j]? = σ[j]?):wipe σ2 vs=wipe σ vs:=by
 apply List.ext_getElem?
 intro j
 by_cases hj:j∈vs
 ·by_cases hlt:j<σ.length
  ·rw [Sq (by rw [hl]; exact hlt) hj,Sq hlt hj]
  ·rw [List.getElem?_eq_none (by rw [wipe_length]; omega),List.getElem?_eq_none (by rw [wipe_length]; omega)]
 ·rw [wipe_out hj,wipe_out hj,h j hj]
end
section
variable{g:Gm}{G H G1 H1 G2 H2 H0:Hp}{σ:L2.St}{e e1:Ve}{rs:List Rv}{vs dvs:List V}{as as':List Sl}{dd:List D}
theorem RvsOk.at:∀ {rs:List Rv} {vs:List V} {k:Nat} {r:Rv},RvsOk g G H σ e H0 rs vs->rs[k]? = some r->∃ v,vs[k]? = some v/\RvOk g G H σ e H0 r v
 | [],_,k,r,_,q=>by simp at q
 | r0::rs,_,k,r,⟨v,t,rfl,a,b,_⟩,q=>by
  cases k with
  | zero=>cases q; exact ⟨v,rfl,a⟩
  | succ k =>
   obtain ⟨v',h1,h2⟩:=RvsOk.at (rs:=rs) (vs:=t) (k:=k) (r:=r) b (show rs[k]? = some r from q)
   exact ⟨v',h1,h2⟩
theorem RvsOk.len:∀ {rs:List Rv} {vs:List V},RvsOk g G H σ e H0 rs vs->vs.length=rs.length
 | [],_,h=>by rw [show _=[] from h]; rfl
 | r0::rs,_,⟨v,t,rfl,a,b,_⟩=>by rw [List.length_cons,List.length_cons,RvsOk.len b]
end
def FnK(P:Program)(w:World)(K:PySem.W.Frag)(mg:Str->Option Value)(base:Heap)(CXa:CXT)(k:Nat)(f:Addr)(ks:List Str)(sp:Sp):Prop :=
 ∀ (A:Around) (outer:List PySem.Env) (s:Shared) (H:Hp) (us ws:List Value) (vs zs:List V) (Q:VK) (E:XK),Rm k A->Env0 P w K mg base A outer s H->Vals vs us->Vals zs ws->ws.length=ks.length->sp (vs++zs) H Q E ->
  codeAny (model P w) A (.call (.ref f) ⟨us,ks.zip ws⟩) (CR CXa outer P w H s Q E) s
section
variable{P:Program}{mg:Str->Option Value}{base:Heap}{g:Gm}{j:Nat}{f:Addr}{fd:FuncData}{ps:List Str}{F:List Sl->Res Rv}
theorem FnK.mono{w:World}{K:PySem.W.Frag}{CXa:CXT}{i k:Nat}{ks:List Str}{sp:Sp}(F:FnK P w K mg base CXa i f ks sp)(h:i<=k):FnK P w K mg base CXa k f ks sp:=fun A outer s H us ws vs zs Q E hr=>F A outer s H us ws vs zs Q E (hr.mono h)
end
theorem PE.or{X:Cx}{e:Expr}{t t':TE}(h:PE X e t)(h':PE X e t'):PE X e (fun σ H Q=>t σ H Q\/t' σ H Q):=⟨fun pins s σ H Q I q=>q.elim (h.run pins s σ H Q I) (h'.run pins s σ H Q I)⟩
theorem PT.or{X:Cx}{e:Expr}{t t':TT}(h:PT X e t)(h':PT X e t'):PT X e (fun σ H Q=>t σ H Q\/t' σ H Q):=⟨fun pins s σ H Q I q=>q.elim (h.run pins s σ H Q I) (h'.run pins s σ H Q I)⟩
section
variable{g:Gm}
theorem RepH.dct{G H:Hp}(bs:Bs G H){kvs:List (List Nat×D)}{v:V}(h:RepH g G H (.dct kvs) v):∃ a vs,v=.ref a/\Rd H a (.dK vs)/\RepK g G kvs vs:=by
 rcases h with ⟨a,vs,e,q,r⟩ | ⟨p,e,n,vs,q,r⟩
 ·exact ⟨a,vs,e,bs.rd (.of q),r⟩
 ·exact ⟨p,vs,e,q,r⟩
end
section
variable{g:Gm}{W:WX}{k:Nat}{X:Cx}
theorem Cd.hu{W:WX}(c:Cd g W k X):X.A.units+1<cLine:=by have:=c.room.units; omega
end
theorem PO.imp{X:Cx}{e:Option Expr}{t t':TO}(h:PO X e t)(k:∀ σ H Q,t' σ H Q->t σ H Q):PO X e t':=⟨fun pins s σ H Q I q=>h.run pins s σ H Q I (k σ H Q q)⟩
theorem RepK.len{g:Gm}{G:Hp}:∀ {kvs:List (List Nat×D)} {vs:List (Key×V)},RepK g G kvs vs->vs.length=kvs.length
 | [],vs,r=>by rw [show vs=[] from r]; rfl
 | (k,d)::kvs,vs,⟨_,v,t,e,a,b⟩=>by subst e; rw [List.length_cons,List.length_cons,RepK.len b]
section
variable{g:Gm}
theorem RepH.scr{G H:Hp}{ns:List Int}{v:V}(h:RepH g G H (.scr ns) v):v=.ref g.sa/\ns=g.sn:=by
 rcases h with r | ⟨_,_,_,o⟩
 ·exact r
 ·exact o.elim
theorem RepH.set{G H:Hp}(bs:Bs G H){xs:List (List Nat)}{v:V}(h:RepH g G H (.set xs) v):∃ a L,v=.ref a/\H a=some (I6 g.w a L)/\L.Nodup/\∀ k,k∈L↔k∈xs.map S:=by
 rcases h with ⟨a,L,e,q,r⟩ | ⟨_,_,_,o⟩
 ·exact ⟨a,L,e,bs.at_ q rfl,r⟩
 ·exact o.elim
theorem RepsH.one{G H:Hp}{d:D}{vs:List V}(h:RepsH g G H [d] vs):∃ v,vs=[v]/\RepH g G H d v:=by
 obtain ⟨v,r,e,a,b⟩:=h
 exact ⟨v,by rw [e,show r=[] from b],a⟩
end
section
variable{g:Gm}{G H:Hp}{σ:L2.St}{e:Ve}{i:Nat}{d d':D}{p:Addr}{o':HO}
def A5(s:Sl):Option D:=match s with
 | .ow d=>some d
 | .bo d=>some d
 | _=>none
theorem SR.own{s:Sl}(sr:SR g G H σ e)(hi:e[i]? = some s)(ho:A5 s=some d):∃ p,σ[i]? = some (some (.ref p))/\G p=none/\Own g G H p d/\Rt σ e i p:=by
 have sl:=sr.slot i
 rw [hi] at sl
 cases s with
 | ow d0=>cases ho; obtain ⟨p,a,b,c⟩:=sl; exact ⟨p,a,b,c,by rw [hi]; trivial,a⟩
 | bo d0=>cases ho; obtain ⟨p,a,b,c⟩:=sl; exact ⟨p,a,b,c,by rw [hi]; trivial,a⟩
 | _=>cases ho
end
theorem Reps.one{g:Gm}{G:Hp}{d:D}{vs:List V}(h:Reps g G [d] vs):∃ v,vs=[v]/\Rep g G d v:=by
 obtain ⟨v,r,e,a,b⟩:=h
 exact ⟨v,by rw [e,show r=[] from b],a⟩
theorem Reps.set{g:Gm}{G:Hp}{d:D}{v:V}:∀ {ds:List D} {vs:List V} (i:Nat),Reps g G ds vs->Rep g G d v->Reps g G (ds.set i d) (vs.set i v)
 | [],vs,i,r,_=>by rw [show vs=[] from r]; rfl
 | d0::ds,vs,0,⟨v0,t,e,a,b⟩,h=>by subst e; exact ⟨v,t,rfl,h,b⟩
 | d0::ds,vs,i+1,⟨v0,t,e,a,b⟩,h=>by subst e; exact ⟨v0,_,rfl,a,Reps.set i b h⟩
theorem Reps.erase{g:Gm}{G:Hp}:∀ {ds:List D} {vs:List V} (i:Nat),Reps g G ds vs->Reps g G (ds.eraseIdx i) (vs.eraseIdx i)
 | [],vs,i,r=>by rw [show vs=[] from r]; rfl
 | d0::ds,vs,0,⟨v0,t,e,a,b⟩=>by subst e; exact b
 | d0::ds,vs,i+1,⟨v0,t,e,a,b⟩=>by subst e; exact ⟨v0,_,rfl,a,Reps.erase i b⟩
section
variable{g:Gm}{W:WX}{k:Nat}{X:Cx}
theorem RepK.map{G:Hp}:∀ {kvs:List (List Nat×D)} {vs:List (Key×V)} (k:List Nat) {d:D} {v:V},RepK g G kvs vs->Rep g G d v->RepK g G (kvs.map fun kv=>if kv.1=k then (kv.1,d) else kv) (vs.map fun kv=>if kv.1=(.inr (S k):Key) then (kv.1,v) else kv)
 | [],vs,k,d,v,r,_=>by rw [show vs=[] from r]; rfl
 | (k0,d0)::kvs,vs,k,d,v,⟨ok,v0,t,e,a,b⟩,h=>by
  subst e
  have ih:=RepK.map k b h
  rw [List.map_cons,List.map_cons]
  by_cases z:k0=k
  ·subst z
   rw [if_pos rfl,if_pos rfl]
   exact ⟨ok,v,_,rfl,h,ih⟩
  ·rw [if_neg z,if_neg (fun y=>z (S_inj (Sum.inr.inj y)))]
   exact ⟨ok,v0,_,rfl,a,ih⟩
end
section
variable{g:Gm}{W:WX}{k:Nat}{X:Cx}
theorem RepF.len{G:Hp}:∀ {fs:List (Str×D)} {vs:List (Str×V)},RepF g G fs vs->vs.length=fs.length
 | [],vs,r=>by rw [show vs=[] from r]; rfl
 | (q,x)::fs,vs,⟨v,t,e,a,b⟩=>by subst e; rw [List.length_cons,List.length_cons,RepF.len b]
theorem RepH.ins{G H:Hp}(bs:Bs G H){c:Str}{fs:List (Str×D)}{v:V}(h:RepH g G H (.ins c fs) v):∃ a dx vs,v=.ref a/\H a=some (.ins (g.ca c) dx vs)/\RepF g G fs vs/\Nh g c fs:=by
 rcases h with ⟨a,dx,vs,e,q,r,ok⟩ | ⟨p,e,n,dx,vs,q,r,ok⟩
 ·exact ⟨a,dx,vs,e,bs.at_ q rfl,r,ok⟩
 ·exact ⟨p,dx,vs,e,q,r,ok⟩
end
section
variable{g:Gm}{W:WX}{k:Nat}{X:Cx}
theorem PK.imp{X:Cx}{e:List Keyword}{t t':TA}(h:PK X e t)(k:∀ σ H Q,t' σ H Q->t σ H Q):PK X e t':=⟨fun pos pins s σ H Q I q=>h.run pos pins s σ H Q I (k σ H Q q)⟩
theorem RvsOk.there{G H H0:Hp}{σ:L2.St}{e:Ve}:∀ {rs:List Rv} {vs:List V},RvsOk g G H σ e H0 rs vs->∀ d p,(Rv.fresh d,V.ref p)∈rs.zip vs->H p≠none
 | [],vs,h,d,p,m=>by simp at m
 | r::rs,vs,⟨v,t,ev,a,b,c⟩,d,p,m=>by
  subst ev
  rcases List.mem_cons.mp m with y | y
  ·cases y
   obtain ⟨p',ev,_,ow,_⟩:=a
   cases ev
   obtain ⟨ob,ho,_⟩:=ow.there
   rw [ho]; exact fun z=>nomatch z
  ·exact RvsOk.there b d p y
end
inductive LkK where
 | shd (kvs:List (List Nat×D)) | own (i:Nat) (s:Sl) (kvs:List (List Nat×D)) | lck (i:Nat) (kvs:List (List Nat×D))
def LkK.kvs:LkK->List (List Nat×D)
 | .shd k=>k
 | .own _ _ k=>k
 | .lck _ k=>k
section
variable{g:Gm}{G H G1 H1:Hp}{σ σ1:L2.St}{e e1:Ve}{d p:Addr}{vs:List (Key×V)}{od:Obj}{i:Nat}{kvs:List (List Nat×D)}
theorem RepK.ks:∀ {kvs:List (List Nat×D)} {vs:List (Key×V)},RepK g G kvs vs->vs.length=kvs.length/\∀ (i:Nat) k v,vs[i]? = some (k,v)->∃ x d,kvs[i]? = some (x,d)/\k=.inr (S x)/\OkS x
 | [],_,h=>by rw [show _=[] from h]; exact ⟨rfl,fun i k v z=>by simp at z⟩
 | (x,d)::r,_,⟨ok,v,t,ev,a,b⟩=>by
  obtain ⟨h1,h2⟩:=RepK.ks b
  subst ev
  refine ⟨by simp [h1],fun i k u z=>?_⟩
  cases i with
  | zero=>cases z; exact ⟨x,d,rfl,rfl,ok⟩
  | succ i=>exact h2 i k u (by simpa using z)
end
section
variable{g:Gm}{W:WX}{k:Nat}{X:Cx}
theorem RepF.get{G:Hp}:∀ {fs:List (Str×D)} {vs:List (Str×V)} {f:Str} {d:D},RepF g G fs vs->fs.lookup f=some d->∃ v,vs.lookup f=some v/\Rep g G d v
 | [],_,f,d,_,h=>by cases h
 | (q,x)::r,_,f,d,⟨v,t,ev,a,b⟩,h=>by
  subst ev
  rw [List.lookup_cons] at h ⊢
  cases z:f==q with
  | true=>rw [z] at h; cases h; exact ⟨v,rfl,a⟩
  | false=>rw [z] at h; exact RepF.get b h
variable{elt tg iter:Expr}{ifs:List Expr}{scope:Scope}{own:List (Str×Nat)}{pos:Pos}{L:Ve->Option LkK}{td:TE}{F:D->M Unit}{is:List Nat}{T:M Bool}{E:M Rv}
theorem PS.or{X:Cx}{st:Stmt}{t t':TS}(h:PS X st t)(h':PS X st t'):PS X st (fun D σ H=>t D σ H\/t' D σ H):=⟨fun pins s σ H D I q=>q.elim (h.run pins s σ H D I) (h'.run pins s σ H D I)⟩
end
theorem SR.tbl{g:Gm}{G H:Hp}{σ:L2.St}{e:Ve}{P:Addr}{ps qs:Array Value}(sr:SR g G H σ e)(hP:H P=some (.tbl ps))(hG:G P=none)(t:Tabs2 g.T.tabs G (upd H P (.tbl qs))):Tr g σ G H e G (upd H P (.tbl qs)) e:=by
 have ne:∀ {a:Addr} {o:HO},H a=some o->(∀ ps,o≠.tbl ps)->a≠P:=fun h n z=>by rw [z,hP] at h; exact n _ (Option.some.inj h).symm
 have nO:∀ {p:Addr} {d:D},Own g G H p d->p≠P:=fun o=>by
  obtain ⟨ob,h1,h2,_⟩:=o.there
  exact ne h1 h2.nt
 refine ⟨⟨⟨sr.bs.pl,fun a u h=>?_⟩,t,sr.scr.keep fun o u h=>?_,sr.len,fun i=>?_,sr.inj⟩,Le.refl G,fun a o h _ n=>?_,fun a h=>?_,fun a h _ _=>h,VeLe.refl e⟩
 ·rw [upd_ne (fun z=>by rw [z,hG] at h; cases h)]
  exact sr.bs.sub a u h
 ·rw [upd_ne (ne h fun _ z=>nomatch z)]; exact h
 ·have sl:=sr.slot i
  cases q:e[i]? with
  | none=>trivial
  | some s =>
   rw [q] at sl
   cases s with
   | un=>trivial
   | sh d=>exact sl
   | bf d=>exact sl
   | ow d =>
    obtain ⟨p,e1,e2,o⟩:=sl
    exact ⟨p,e1,e2,o.mono (Le.refl G) (upd_ne (nO o))⟩
   | bo d =>
    obtain ⟨p,e1,e2,o⟩:=sl
    exact ⟨p,e1,e2,o.mono (Le.refl G) (upd_ne (nO o))⟩
   | lo d =>
    obtain ⟨p,e1,e2,o⟩:=sl
    obtain ⟨ob,u,h1,_⟩:=o.there
    exact ⟨p,e1,e2,o.mono (Le.refl G) (upd_ne (ne h1 fun _ z=>nomatch z))⟩
 ·rw [upd_ne (ne h n)]; exact h
 ·by_cases z:a=P
  ·rw [z,upd_same] at h; cases h
  ·rw [upd_ne z] at h; exact h
def LmOk(P:Program)(w:World)(K:PySem.W.Frag)(mg:Str->Option Value)(base:Heap)(CXa:CXT)(k:Nat)(L:Lam)(sp:Sp):Prop :=
 ∀ (f c:Addr) (A:Around) (outer:List PySem.Env) (s:Shared) (H:Hp) (us:List Value) (vs:List V) (Q:VK) (E:XK),Rm k A->Env0 P w K mg base A outer s H->H f=some (Pl f L c)->H c=some (LamX.CodeO c L.q)->Vals vs us->sp vs H Q E ->
  codeAny (model P w) A (.call (.ref f) ⟨us,[]⟩) (CR CXa outer P w H s Q E) s
theorem LmOk.mono{P:Program}{w:World}{K:PySem.W.Frag}{mg:Str->Option Value}{base:Heap}{CXa:CXT}{i k:Nat}{L:Lam}{sp:Sp}(F:LmOk P w K mg base CXa i L sp)(h:i<=k):LmOk P w K mg base CXa k L sp:=fun f c A outer s H us vs Q E hr=>F f c A outer s H us vs Q E (hr.mono h)
def Tk(o:Obj):Prop:=(∃ vs n,o.data=.seq vs n)\/o.data=.fields #[]
theorem Tk.dict{o:Obj}{es:Array DictEntry}{n:Nat}(d:o.data=.dict es n):¬ Tk o:=fun z=>by
 rcases z with ⟨vs,m,z⟩ | z <;> (rw [d] at z; cases z)
section
variable{h:Heap}{H:Hp}
def Few(h:Heap)(H:Hp):Prop:=∀ b o,h.get? b=some o->H b≠none->Tk o
theorem Few.off(f:Few h H){b:Addr}{o:Obj}(e:h.get? b=some o)(n:¬ Tk o):H b=none:=by
 cases q:H b with
 | none=>rfl
 | some u=>exact (n (f b o e (by rw [q]; simp))).elim
theorem Few.get(f:Few h H){b:Addr}{o:Obj}(e:h.get? b=some o)(n:¬ Tk o):(hidT h H).get? b=some o:=hidT_get e (f.off e n)
theorem Few.ns(f:Few h H){b:Addr}{m:Str->Option Value}(x:h.Ns b m):(hidT h H).Ns b m:=by
 obtain ⟨o,es,ep,e,d,r⟩:=x
 exact ⟨o,es,ep,f.get e (Tk.dict d),d,r⟩
theorem Few.code(f:Few h H){c P:Addr}(x:PySem.W.CodeHd h c P):PySem.W.CodeHd (hidT h H) c P:=by
 obtain ⟨o,us,f1,f2,f3,f4,f5,f6,f7,e,r1,r2,r3,r⟩:=x
 refine ⟨o,us,f1,f2,f3,f4,f5,f6,f7,f.get e fun z=>?_,r1,r2,r3,r⟩
 rcases z with ⟨vs,n,z⟩ | z
 ·rw [r2] at z; cases z
 ·rw [r2] at z
  cases z
  simp at r3
end
abbrev gm(K:PySem.W.Frag)(w:World)(ca:Str->Addr)(Tb:LT)(sa:Addr)(sn:List Int):Gm:=⟨K,w,ca,Tb,sa,sn⟩
def kPy:Key->PyData
 | .inl i=>.int i
 | .inr x=>.str x
mutual
inductive Dr(K:PySem.W.Frag)(H:Hp):V->PyData->Prop
 | non:Dr K H .non .none
 | bl (b:Bool):Dr K H (.bl b) (.bool b)
 | int (i:Int):Dr K H (.int i) (.int i)
 | str (x:Str):Dr K H (.str x) (.str x)
 | lst {a:Addr} {xs:List V} {ds:List PyData}:Rd H a (.lst xs)->DrAll K H xs ds->Dr K H (.ref a) (.list ds)
 | tup {a:Addr} {xs:List V} {ds:List PyData}:SqT K H a xs->DrAll K H xs ds->Dr K H (.ref a) (.tuple ds)
 | dct {a:Addr} {kvs:List (Key×V)} {ds:List PyData}:Rd H a (.dK kvs)->DrAll K H (kvs.map (·.2)) ds->Dr K H (.ref a) (.dict ((kvs.map fun q=>kPy q.1).zip ds))
inductive DrAll(K:PySem.W.Frag)(H:Hp):List V->List PyData->Prop
 | nil:DrAll K H [] []
 | cons {v:V} {vs:List V} {d:PyData} {ds:List PyData}:Dr K H v d->DrAll K H vs ds->DrAll K H (v::vs) (d::ds)
end
theorem DrAll.len{K:PySem.W.Frag}{H:Hp}:∀ {vs:List V} {ds:List PyData},DrAll K H vs ds->vs.length=ds.length
 | _,_,.nil=>rfl
 | _,_,.cons _ t=>congrArg Nat.succ t.len
end Vs
namespace Vs
open PySem PySem.Spec PyProof.Rows L2 Fw SX He
structure SaysY(ex:Ex)(fa:List Fa)(fn:List DefD)(tf:List Defn)(h:Heap)(K:PySem.W.Frag):Prop where
 x:Fw.SaysX ex fa fn K
 hd:∀ p∈tf,PySem.W.codeHdIn K (cT K p).1 (cT K p).2=true
 out:∀ p∈tf,K.lookup (cT K p).2=none
 empty:∀ p∈tf,h.get? (cT K p).2=some { cls:=.none,data:=.fields #[] }
abbrev AlY:Type:=AlD×Bool
end Vs
namespace Vs
open PySem PySem.Spec PyProof.Rows L2 Fw SX NdefX
theorem PMk.imp{X:Cx}{e:Expr}{t t':L2.St->Hp->XK->Prop}(h:PMk X e t)(k:∀ σ H Q,t' σ H Q->t σ H Q):PMk X e t':=fun pins s σ H Q I q=>h pins s σ H Q I (k σ H Q q)
section
variable{g:Gm}{W:WX}{k:Nat}{X:Cx}{G:Hp}
theorem Reps.zip:∀ {fs:List Str} {ds:List D} {vs:List V},Reps g G ds vs->RepF g G (fs.zip ds) (fs.zip vs)
 | [],ds,vs,h=>by simp only [List.zip_nil_left]; rfl
 | f::fs,[],vs,h=>by rw [show vs=[] from h]; rfl
 | f::fs,d::ds,vs,⟨v,r,e,h,t⟩=>by rw [e]; exact ⟨v,_,rfl,h,Reps.zip t⟩
end
structure Cau(g:Gm)(i:Nat)(y:Str)(a:Addr)(cls:Value)(d:Option Addr)(σ:L2.St)(G H:Hp)(fs:List (Str×D)):Prop where
 bs:Bs G H
 scr:SqL g.K H g.sa (g.sn.map .int)
 at_:σ[i]? = some (some (.ref a))
 cls:cls=.ref (g.ca y)
 fld:∃ da fv,d=some da/\G da=some (.xd fv)/\RepF g G fs fv
theorem Grow.sqL{G H G' H':Hp}(w:Grow G H G' H'){K:PySem.W.Frag}{a:Addr}{vs:List V}(h:SqL K H a vs):SqL K H' a vs:=by
 rcases h with (h | ⟨o,h⟩) | h
 ·exact .inl (.inl (w.keep _ _ h))
 ·exact .inl (.inr ⟨o,w.keep _ _ h⟩)
 ·exact .inr h
def TX(g:Gm)(i:Nat)(y:Str)(a:Addr)(cls:Value)(d:Option Addr)(f:List (Str×D)->Option D):TE:=fun σ H Q=>∃ G fs,Cau g i y a cls d σ G H fs/\∃ dd,f fs=some dd/\∀ v G' H',Grow G H G' H'->Rep g G' dd v->Q v H'
def TXs(g:Gm)(i:Nat)(y:Str)(a:Addr)(cls:Value)(d:Option Addr)(f:List (Str×D)->Option (List D)):TA:=fun σ H Q=>∃ G fs,Cau g i y a cls d σ G H fs/\∃ ds,f fs=some ds/\∀ vs G' H',Grow G H G' H'->Reps g G' ds vs->Q vs H'
structure VX(g:Gm)(i:Nat)(y:Str)(X:Cx)(e:Expr)(f:List (Str×D)->Option D):Prop where
 run:X.K=g.K->X.w=g.w->X.A.guards=some []->X.A.units+64<cLine->∀ (a:Addr) (oe:Obj) (cls:Value) (d:Option Addr) (pn:List (Addr×Obj)),Zc cls d oe->(∃ vs,oe.data=.fields vs)->PE (X.suite a ((a,oe)::pn)) e (TX g i y a cls d f)
section
variable{g:Gm}{i:Nat}{y:Str}{X:Cx}
theorem Reps.H{G H:Hp}:∀ {ds:List D} {vs:List V},Reps g G ds vs->RepsH g G H ds vs
 | [],_,h=>h
 | d::ds,_,⟨v,r,e,a,b⟩=>⟨v,r,e,.inl a,Reps.H b⟩
end
end Vs
namespace Vs
open PySem PySem.Spec PyProof.Rows L2 Fw SX He NdefX
structure XnD where
 x:Str
 qual:Str
 params:Arguments
 body:List Stmt
 scope:Scope
 m:Str
abbrev XnW:=Option (Str×Str×Arguments×FuncBody×Scope×Addr×List Str×Addr)
def xnW(K:PySem.W.Frag)(x m:Str):XnW:=match K.lookup (ma K (ga K x) m) with
 | some ⟨_,_,.func fd,_⟩=>some (fd.name,fd.qualname,fd.params,fd.body,fd.scope,fd.globals,fd.closure.map (·.1),fd.builtins)
 | _=>none
def XnD.val(d:XnD):XnW:=some (d.m,d.qual,d.params,.stmts d.body,d.scope,mainGlobals,["__class__"],builtinsNs)
structure SaysZ(ex:Ex)(fa:List Fa)(fn:List DefD)(tf:List Defn)(xn:List XnD)(h:Heap)(K:PySem.W.Frag):Prop where
 y:SaysY ex fa fn tf h K
 xn:xn.map (fun d=>xnW K d.x d.m)=xn.map XnD.val
abbrev AlZ:Type:=AlY×List XnW
theorem SaysZ.at_{ex:Ex}{fa:List Fa}{fn:List DefD}{tf:List Defn}{xn:List XnD}{h:Heap}{K:PySem.W.Frag}(c:SaysZ ex fa fn tf xn h K)(i:Nat){d:XnD}(hd:xn[i]? = some d:=by rfl):xnW K d.x d.m=d.val:=by
 have e2:(xn.map fun d=>xnW K d.x d.m)[i]? = (xn.map XnD.val)[i]?:=by rw [c.xn]
 rw [List.getElem?_map,List.getElem?_map,hd] at e2
 exact Option.some.inj e2
def eqB(a b:Option Bool):Bool:=decide (a=b)
def oexB(K:PySem.W.Frag)(C:Addr):Bool:=match K.lookup C with
 | some ⟨.type t,_,.cls cd,sl⟩=>decide (t = "type")&&(match cd.mro,sl.toList with
  | .ref C'::bm,[_,_,_,_,some (.builtin n),_]=>decide (C'=C)&&(decide (n = "ValueError.__new__")&&(!cd.hasDel&&(cd.hasDict&&PySem.HandSPX.refsVE bm)))
  | _,_=>false)
 | _=>false
def Po(file:Str)(K:PySem.W.Frag)(C:Addr):Bool:=match K.lookup (ma K C "__init__") with
 | some ⟨_,_,.func fd,_⟩=>(match fd.closure,fd.code,fd.defaults with
  | [(_,cc)],.ref c,.none=>PySem.W.codeIn K (.ref c) fd.qualname&&((match K.lookup cc with
   | some ⟨_,_,.cell (some (.ref C')),_⟩=>decide (C'=C)
   | _=>false)&&(match K.lookup c with
   | some ⟨_,_,.fields vs,_⟩=>(match (vs[2]? : Option Value) with
    | some (Value.str fl _)=>file==fl
    | _=>false)
   | _=>false))
  | _,_,_=>false)
 | _=>false
def exB(file x:Str):PySem.W.Frag->Bool:=fun K =>
 oexB K (ga K x)&&(Po file K (ga K x)&&(eqO (PySem.W.findIn K (.ref (ga K x)) "__setattr__") (some (some (.builtin "object.__setattr__")))&&(eqB (PySem.W.subIn K (.ref (ga K x)) (.type "BaseException")) (some true) &&
 (decide (PySem.W.typeIn K (.ref (ga K x))=some (.type "type"))&&(PySem.W.keepIn K (.ref (ga K x))&&((PySem.W.clsIn K (ga K x)).isSome&&(eqB (PySem.W.mroIn K (ga K x) (.ref (ga K x))) (some true) &&
 (eqO (PySem.W.nsIn K cStatics "thirdparty.any") (some none)&&(eqO (PySem.W.ks_superIn K (ga K x) (ga K x) "__init__") (some (some (.builtin "ValueError.__init__")))&&(eqB (PySem.W.subIn K (.ref (ga K x)) (.type "ValueError")) (some true) &&
 (eqO (PySem.W.findIn K (.ref (ga K x)) "__init__") (some (some (.ref (ma K (ga K x) "__init__"))))&&decide (PySem.W.typeIn K (.ref (ma K (ga K x) "__init__"))=some (.type "function")))))))))))))
def Pp(K:PySem.W.Frag)(D:Addr):Bool :=
 eqO (PySem.W.findIn K (.ref D) "__getattribute__") (some (some (.builtin "BaseException.__getattribute__")))&&(eqO (PySem.W.findIn K (.ref D) "__getattr__") (some none)&&(eqB (PySem.W.subIn K (.ref D) (.type "BaseException")) (some true)&&(PySem.W.hasDictIn K D &&
 (eqO (PySem.W.findIn K (.ref D) "__class__") (some (some (.builtin "object.__class__")))&&(eqO (PySem.W.specialIn K (.builtin "object.__class__") "__get__") (some (some (.builtin "getset_descriptor.__get__")))&&(eqB (PySem.W.takesIn K (.builtin "object.__class__")) (some true)&&eqB (PySem.W.mroIn K D (.type "object")) (some true)))))))
def Nk(y c:Str)(b:Bool):PySem.W.Frag->Bool:=fun K=>Pp K (ga K y)&&eqB (PySem.W.kitOne K (.ref (ga K y)) (.ref (ga K c))) (some b)
def Kh(x y:Str)(b:Bool):PySem.W.Frag->Bool:=fun K=>eqB (PySem.W.exmOne K (.ref (ga K y)) (.ref (ga K x))) (some b)
def noB(x f:Str):PySem.W.Frag->Bool:=fun K=>eqO (PySem.W.findIn K (.ref (ga K x)) f) (some none)
def Nl(x f:Str):PySem.W.Frag->Bool:=fun K=>xfB K (ga K x)&&noB x f K
def inTB(K:PySem.W.Frag)(C:Addr):Bool:=eqO (PySem.W.findIn K (.ref C) "__class__") (some (some (.builtin "object.__class__")))&&(eqO (PySem.W.specialIn K (.builtin "object.__class__") "__get__") (some (some (.builtin "getset_descriptor.__get__")))&&(eqB (PySem.W.takesIn K (.builtin "object.__class__")) (some true)&&eqB (PySem.W.mroIn K C (.type "object")) (some true)))
def Nm(ts:List Str):PySem.W.Frag->Bool:=fun K=>ts.all fun t=>inTB K (ga K t)
def Cu(c o m:Str):PySem.W.Frag->Bool:=fun K=>eqO (PySem.W.findIn K (.ref (ga K c)) m) (some (some (.ref (ma K (ga K o) m))))&&PySem.W.isFn K (.ref (ma K (ga K o) m))
def Np(x:Str)(cs:List (Str×Bool)):PySem.W.Frag->Bool:=fun K=>(cs.all fun p=>eqB (PySem.W.kitOne K (.ref (ga K p.1)) (.ref (ga K x))) (some p.2))&&((PySem.W.clsIn K (ga K x)).isSome&&PySem.W.typeIn K (.ref (ga K x))==some (.type "type"))
end Vs
namespace Vs
open PySem PySem.Spec PyProof.Rows L2 Fw SX
structure Lp(g:Gm)(G H:Hp)(σ:L2.St)(e:Ve)(vs:List Nat)(Da:Addr)(σ':L2.St)(acc:List V)(ys:List D)(G' H':Hp)(e':Ve):Prop where
 st:St g G H σ e G' H' σ' e'
 vo:VeOff vs (Ap e vs) e'
 un:∀ j∈vs,∀ s,e'[j]? = some s->s=.un\/∃ d,s=.sh d
 wp:wipe σ' vs=wipe σ vs
 hD:H' Da=some (.lst acc)
 nD:G' Da=none
 rp:Reps g G' ys acc
 nr:∀ i,¬ Rt σ' e' i Da
section
variable{g:Gm}{G H G1 H1 G2 H2:Hp}{σ σ1 σ2:L2.St}{e e1 e2:Ve}{vs is vs1:List Nat}{Da:Addr}{acc:List V}{ys:List D}
theorem Lp.sto{F:D->M Unit}{d:D}(l:Lp g G H σ e vs Da σ1 acc ys G1 H1 e1)(hD0:H Da=none)(sr0:SR g G H σ e)(his:∀ i∈is,i∈vs)(hF:∀ d e e' j,F d e=.ok () e'->j ∉ is->e'[j]? = e[j]?)(hO:∀ d e e' j,F d e=.ok () e'->j∈is->∃ d',e'[j]? = some (.sh d'))(hL:∀ d e e',F d e=.ok () e'->e'.length=e.length)
  (qf:F d e1=.ok () e2)(st:St g G H σ e G1 H1 σ2 e2)(off:∀ j,j ∉ is->σ2[j]? = σ1[j]?):Lp g G H σ e vs Da σ2 acc ys G1 H1 e2:=by
 have len2:e2.length=e1.length:=hL d e1 e2 qf
 have lenσ:σ2.length=σ1.length:=by rw [← st.sr.len,len2,l.st.sr.len]
 have un2:∀ j∈vs,∀ s,e2[j]? = some s->s=.un\/∃ d,s=.sh d:=fun j hj s h=>by
  by_cases hm:j∈is
  ·obtain ⟨d',h'⟩:=hO d e1 e2 j qf hm
   rw [h'] at h; cases h; exact .inr ⟨d',rfl⟩
  ·rw [hF d e1 e2 j qf hm] at h
   exact l.un j hj s h
 refine ⟨st,l.vo.trans ⟨len2,fun j s n h=>⟨s,by rw [hF d e1 e2 j qf fun z=>n (his j z)]; exact h,SlLe.refl s⟩⟩,un2,?_,l.hD,l.nD,l.rp,fun i r=>?_⟩
 ·rw [Nj lenσ fun j hj=>off j fun z=>hj (his j z),l.wp]
 ·by_cases hm:i∈vs
  ·obtain ⟨r1,_⟩:=r
   cases qq:e2[i]? with
   | none=>rw [qq] at r1; exact r1
   | some s =>
    rw [qq] at r1
    rcases un2 i hm s qq with rfl | ⟨d',rfl⟩ <;> exact r1
  ·obtain ⟨r1,r2⟩:=r
   rw [off i fun z=>hm (his i z)] at r2
   rw [hF d e1 e2 i qf fun z=>hm (his i z)] at r1
   exact l.nr i ⟨r1,r2⟩
end
section
variable{g:Gm}
structure StoF(F:D->M Unit)(is vs:List Nat):Prop where
 sub:∀ i∈is,i∈vs
 off:∀ d e e' j,F d e=.ok () e'->j ∉ is->e'[j]? = e[j]?
 oth:∀ d e e' j,F d e=.ok () e'->j∈is->∃ d',e'[j]? = some (.sh d')
 len:∀ d e e',F d e=.ok () e'->e'.length=e.length
end
def calmR:Res Rv->Res Rv
 | .ok r e=>.ok r e
 | _=>.no
section
variable{g:Gm}{W:WX}{k:Nat}{X:Cx}
theorem Pst.calm{σ:L2.St}{G H:Hp}{e:Ve}{R:Rv->Hp->Hp->Ve->Prop}{r:Res Rv}(h:Pst g W σ G H e R (calmR r)):Pst g (fun _ _ _ _=>False) σ G H e R r:=by
 cases r with
 | no=>exact h
 | er x e'=>exact h.elim
 | ok r e'=>exact h
end
end Vs
namespace Vs
open PySem PySem.Spec PyProof.Rows L2 Fw SX He NdefX
structure FarD where
 p:PySem.W.Frag->Addr
 d:DefD
def L4(K:PySem.W.Frag)(a:Addr):FnW:=match K.lookup a with
 | some ⟨_,_,.func u,_⟩=>some (u.name,u.qualname,u.params,u.body,u.scope,u.globals,u.closure,u.builtins)
 | _=>none
def I7(T:String)(x m:Str)(K:PySem.W.Frag):Addr:=match PySem.W.recIn K (ma K (ga K x) m) T with
 | some (.ref q::_)=>q
 | _=>0
def farB(l:FarD):PySem.W.Frag->Bool:=fun K=>PySem.W.keepIn K (.ref (l.p K))&&(match K.lookup (l.p K) with
 | some ⟨_,_,.func u,_⟩=>PySem.W.codeIn K u.code l.d.qual&&(dflB K u.defaults (l.d.dvs K)&&kwdB K u.kwdefaults (l.d.kws K))
 | _=>false)
structure SaysP(ex:Ex)(fa:List Fa)(fn:List DefD)(tf:List Defn)(xn:List XnD)(fr:List FarD)(h:Heap)(K:PySem.W.Frag):Prop where
 z:SaysZ ex fa fn tf xn h K
 fr:fr.map (fun l=>L4 K (l.p K))=fr.map fun l=>l.d.val
abbrev AlP:Type:=AlZ×List FnW
theorem SaysP.far{ex:Ex}{fa:List Fa}{fn:List DefD}{tf:List Defn}{xn:List XnD}{fr:List FarD}{h:Heap}{K:PySem.W.Frag}(c:SaysP ex fa fn tf xn fr h K)(i:Nat){l:FarD}(hl:fr[i]? = some l:=by rfl):L4 K (l.p K)=l.d.val:=by
 have e:(fr.map fun l=>L4 K (l.p K))[i]? = (fr.map fun l=>l.d.val)[i]?:=by rw [c.fr]
 rw [List.getElem?_map,List.getElem?_map,hl] at e
 exact Option.some.inj e
def I8(g:Addr->Option Obj)(as:List Addr):List Addr:=as.flatMap fun a=>match g a with
 | some o=>refsD o
 | none=>[]
def asN(xs:List Str)(fs:List (PySem.W.Frag->Addr))(g:Addr->Option Obj):List Addr :=
 let l1:=xs.map (ga (frG g [mainGlobals]))
 let l2:=I8 g l1
 let l3:=I8 g l2
 let l4:=I8 g l3
 let all:=([mainGlobals,cStatics,sysModules]++l1++l2++l3++l4).eraseDups
 match fs with
 | []=>all
 | f::r=>all++I8 g ((f::r).map fun p=>p (frG g all))
theorem Aeh{as:List Addr}{ex:Ex}{fa:List Fa}{fn:List DefD}{tf:List Defn}{h:Heap}(e1:Fw.obsX ex fa fn (frT h.get? as)=valD fn)(e2:tabsB h.get? tf (frT h.get? as)=true):SaysY ex fa fn tf h (frT h.get? as):=by
 have all:∀ p∈tf,PySem.W.codeHdIn (frT h.get? as) (cT (frT h.get? as) p).1 (cT (frT h.get? as) p).2=true/\∃ o,h.get? (cT (frT h.get? as) p).2=some o/\emptyTab o=true:=fun p hp=>by
  obtain ⟨z1,z2⟩:=Bool.and_eq_true_iff.mp (List.all_eq_true.mp e2 p hp)
  refine ⟨z1,?_⟩
  revert z2
  cases h.get? (cT (frT h.get? as) p).2 with
  | none=>exact fun z=>nomatch z
  | some o=>exact fun z=>⟨o,rfl,z⟩
 refine ⟨e1,fun p hp=>(all p hp).1,fun p hp=>?_,fun p hp=>?_⟩
 ·obtain ⟨_,o,q,z⟩:=all p hp
  exact frT_none q z
 ·obtain ⟨_,o,q,z⟩:=all p hp
  rw [q,emptyTab_eq z]
def Nq:List Addr->Nat->List Addr
 | [],_=>[]
 | a::r,m=>match Nat.beq (Nat.land (Nat.shiftRight m a) 1) 1 with
  | true=>Nq r m
  | false=>a::Nq r (Nat.lor m (Nat.shiftLeft 1 a))
def asM(xs:List Str)(fs:List (PySem.W.Frag->Addr))(g:Addr->Option Obj):List Addr :=
 let l1:=xs.map (ga (frG g [mainGlobals]))
 let l2:=Nq (I8 g l1) 0
 let l3:=Nq (I8 g l2) 0
 let l4:=I8 g l3
 let all:=Nq ([mainGlobals,cStatics,sysModules]++l1++l2++l3++l4) 0
 match fs with
 | []=>all
 | f::r=>all++I8 g ((f::r).map fun p=>p (frG g all))
def Pq(xs:List Str)(fs:List (PySem.W.Frag->Addr))(ex:Ex)(fa:List Fa)(fn:List DefD)(tf:List Defn)(xn:List XnD)(fr:List FarD)(g:Addr->Option Obj):AlP :=
 (fun K=>(((Fw.obsX ex fa fn K,tabsB g tf K),xn.map fun d=>xnW K d.x d.m),fr.map fun l=>L4 K (l.p K))) (frT g (asM xs fs g))
def Wa(xs:List Str)(fs:List (PySem.W.Frag->Addr))(ex:Ex)(fa:List Fa)(fn:List DefD)(tf:List Defn)(xn:List XnD)(fr:List FarD):PySem.W.Hook where
 α:=AlP
 obs:=fun s=>Pq xs fs ex fa fn tf xn fr s.heap.get?
 val:=fun _=>(((valD fn,true),xn.map XnD.val),fr.map fun l=>l.d.val)
 says:=fun _ h=>∃ K:PySem.W.Frag,K.In h/\SaysP ex fa fn tf xn fr h K
 of:=fun _ s e=>⟨_,frT_in,⟨Aeh (congrArg (fun z:AlP=>z.1.1.1) e) (congrArg (fun z:AlP=>z.1.1.2) e),congrArg (fun z:AlP=>z.1.2) e⟩,show (Pq xs fs ex fa fn tf xn fr s.heap.get?).2=_ from congrArg (fun z:AlP=>z.2) e⟩
 keeps:=fun _ _ _ ⟨K,hK,c⟩ k=>⟨K,PySem.W.Frag.In.keeps hK k,⟨⟨c.z.y.x,c.z.y.hd,c.z.y.out,fun p hp=>k _ _ (c.z.y.empty p hp)⟩,c.z.xn⟩,c.fr⟩
noncomputable def endR' (R:PySem.W.OpenRow) (M:Nat) (w:World) (os:OsState):Option PySem.W.SharedT:=HandSHeadRun.endF (HandSHeadRun.stepQ (HandSHeadRun.denQ HandSHeadRun.tabQ) R.prog w) M R.prog w os
def Run1(R:PySem.W.OpenRow)(M:Nat)(w:World):Prop:=∀ os,Option.map (fun s=>HandSHeadRun.looksF R.prog (PySem.W.boot_heap w.params) s.abs) (endR' R M w os)=some true
def Run2(R:PySem.W.OpenRow)(q:Program)(M:Nat)(loose:List Str)(w:World):Prop:=∀ os,Option.map (fun s=>HandSHeadRun.seenQ q loose (importedModules R.prog.main.body) (fun s=>PySem.W.xlAt q [] s&&PySem.W.recOk R.records s) s.abs) (endR' R M w os)=some (PySem.W.openGood q loose)
def Run3{α:Type}(R:PySem.W.OpenRow)(M:Nat)(w:World)(ob:PySem.W.SharedT->α)(v:α):Prop:=∀ os,Option.map ob (endR' R M w os)=some v
theorem Aei{R:PySem.W.OpenRow}{q:Program}{M:Nat}{loose:List Str}{w:World}{H:PySem.W.Hook}{ob:PySem.W.SharedT->H.α}(h1:Run1 R M w)(h2:Run2 R q M loose w)(h3:Run3 R M w ob (H.val w)):HandSHeadRun.RunEq R q H ob M loose w:=by
 intro os
 have z1:=h1 os
 have z2:=h2 os
 have z3:=h3 os
 unfold endR' at z1 z2 z3
 revert z1 z2 z3
 generalize HandSHeadRun.endF (HandSHeadRun.stepQ (HandSHeadRun.denQ HandSHeadRun.tabQ) R.prog w) M R.prog w os=X
 intro z1 z2 z3
 cases X with
 | none=>cases z1
 | some s =>
  rw [Option.map_some] at z1 z2 z3 ⊢
  exact congrArg some (Prod.ext (Option.some.inj z1) (Prod.ext (Option.some.inj z2) (Option.some.inj z3)))
def Nr(y:Str)(T:String)(b:Bool):PySem.W.Frag->Bool:=fun K=>Pp K (ga K y)&&eqB (PySem.W.kitOne K (.ref (ga K y)) (.type T)) (some b)
end Vs
namespace Vs
open PySem PySem.Spec PyProof.Rows L2 Fw SX NdefX
abbrev leT:List Value:=[.type "LookupError",.type "Exception",.type "BaseException",.type "object"]
end Vs
set_option maxHeartbeats 4000000
namespace Vs
open PySem PySem.Spec PyProof.Rows L2 Fw SX He NdefX
def Nt(file x:Str):PySem.W.Frag->Bool:=fun K =>
 (PySem.W.excInitIn K (ga K x) leT "LookupError.__new__" && (PySem.W.excOver K (ga K x) leT&&PySem.W.hasDictIn K (ga K x)))&&(Po file K (ga K x)&&(eqO (PySem.W.findIn K (.ref (ga K x)) "__setattr__") (some (some (.builtin "object.__setattr__")))&&(eqB (PySem.W.subIn K (.ref (ga K x)) (.type "BaseException")) (some true) &&
 (decide (PySem.W.typeIn K (.ref (ga K x))=some (.type "type"))&&(PySem.W.keepIn K (.ref (ga K x))&&((PySem.W.clsIn K (ga K x)).isSome&&(eqB (PySem.W.mroIn K (ga K x) (.ref (ga K x))) (some true) &&
 (eqO (PySem.W.nsIn K cStatics "thirdparty.any") (some none)&&(eqO (PySem.W.ks_superIn K (ga K x) (ga K x) "__init__") (some (some (.builtin "LookupError.__init__")))&&(eqB (PySem.W.subIn K (.ref (ga K x)) (.type "LookupError")) (some true) &&
 (eqO (PySem.W.findIn K (.ref (ga K x)) "__init__") (some (some (.ref (ma K (ga K x) "__init__"))))&&decide (PySem.W.typeIn K (.ref (ma K (ga K x) "__init__"))=some (.type "function")))))))))))))
end Vs
set_option maxHeartbeats 2000000
set_option maxHeartbeats 4000000
namespace Vs
open PySem PySem.Spec PyProof.Rows L2 Fw SX He
def seqB(c:Str):PySem.W.Frag->Bool:=fun K=>PySem.W.noSeq K (ga K c)
end Vs
set_option maxHeartbeats 2000000
namespace Vs
open PySem PySem.Spec PyProof.Rows L2 Fw SX
section
variable{g:Gm}{G H G1 H1 G2 H2:Hp}{σ σ1 σ2:L2.St}{e e1 e2:Ve}{vs is vs1:List Nat}{Da p:Addr}{L:List Str}{o:HO}
structure Ls(g:Gm)(G H:Hp)(σ:L2.St)(e:Ve)(vs:List Nat)(Da:Addr)(σ':L2.St)(L:List Str)(G' H':Hp)(e':Ve):Prop where
 st:St g G H σ e G' H' σ' e'
 vo:VeOff vs (Ap e vs) e'
 un:∀ j∈vs,∀ s,e'[j]? = some s->s=.un\/∃ d,s=.sh d
 wp:wipe σ' vs=wipe σ vs
 hD:H' Da=some (I6 g.w Da L)
 nD:G' Da=none
 nr:∀ i,¬ Rt σ' e' i Da
theorem Ls.sto{F:D->M Unit}{d:D}(l:Ls g G H σ e vs Da σ1 L G1 H1 e1)(hs:StoF F is vs)(qf:F d e1=.ok () e2)(st:St g G H σ e G1 H1 σ2 e2)(off:∀ j,j ∉ is->σ2[j]? = σ1[j]?):Ls g G H σ e vs Da σ2 L G1 H1 e2:=by
 have len2:e2.length=e1.length:=hs.len d e1 e2 qf
 have lenσ:σ2.length=σ1.length:=by rw [← st.sr.len,len2,l.st.sr.len]
 have un2:∀ j∈vs,∀ s,e2[j]? = some s->s=.un\/∃ d,s=.sh d:=fun j hj s h=>by
  by_cases hm:j∈is
  ·obtain ⟨d',h'⟩:=hs.oth d e1 e2 j qf hm
   rw [h'] at h; cases h; exact .inr ⟨d',rfl⟩
  ·rw [hs.off d e1 e2 j qf hm] at h
   exact l.un j hj s h
 refine ⟨st,l.vo.trans ⟨len2,fun j s n h=>⟨s,by rw [hs.off d e1 e2 j qf fun z=>n (hs.sub j z)]; exact h,SlLe.refl s⟩⟩,un2,?_,l.hD,l.nD,fun i r=>?_⟩
 ·rw [Nj lenσ fun j hj=>off j fun z=>hj (hs.sub j z),l.wp]
 ·by_cases hm:i∈vs
  ·obtain ⟨r1,_⟩:=r
   cases qq:e2[i]? with
   | none=>rw [qq] at r1; exact r1
   | some s =>
    rw [qq] at r1
    rcases un2 i hm s qq with rfl | ⟨d',rfl⟩ <;> exact r1
  ·obtain ⟨r1,r2⟩:=r
   rw [off i fun z=>hm (hs.sub i z)] at r2
   rw [hs.off d e1 e2 i qf fun z=>hm (hs.sub i z)] at r1
   exact l.nr i ⟨r1,r2⟩
end
theorem Wb:∀ {L M:List Str},L.Nodup->(∀ k∈L,k∈M)->L.length<=M.length
 | [],M,_,_=>Nat.zero_le _
 | a::r,M,nd,h=>by
  obtain ⟨na,nd'⟩:=List.nodup_cons.mp nd
  have ha:=h a List.mem_cons_self
  have:=Wb (M:=M.erase a) nd' fun k hk=>(List.mem_erase_of_ne fun z=>na (by rw [← z]; exact hk)).mpr (h k (List.mem_cons_of_mem _ hk))
  rw [List.length_erase_of_mem ha] at this
  have:=List.length_pos_of_mem ha
  rw [List.length_cons]
  omega
def strOf:D->List Nat
 | .str l=>l
 | _=>[]
def SetOf(L:List Str)(ys:List D):Prop:=L.Nodup/\∀ k,k∈L↔k∈ys.map fun y=>S (strOf y)
theorem SetOf.len{L:List Str}{ys:List D}(h:SetOf L ys):L.length<=ys.length:=by
 have:=Wb h.1 fun k hk=>(h.2 k).mp hk
 simpa using this
end Vs
namespace Vs
open PySem PySem.Spec PyProof.Rows L2 Fw SX NdefX
section
variable{g:Gm}{G H:Hp}
theorem Reps.at_:∀ {ds:List D} {vs:List V} {i:Nat} {v:V},Reps g G ds vs->vs[i]? = some v->∃ d,ds[i]? = some d/\Rep g G d v
 | [],_,i,v,r,h=>by cases (show _=[] from r); simp at h
 | d::ds,_,0,v,⟨u,us,rfl,ru,rus⟩,h=>by cases h; exact ⟨d,rfl,ru⟩
 | d::ds,_,i+1,v,⟨u,us,rfl,ru,rus⟩,h=>Reps.at_ (i:=i) rus h
end
end Vs
namespace Fw
open PySem PySem.Spec PyProof.Rows L2
section
variable{P:Program}{w:World}{A:Around}{E:Value->Shared->Prop}{s:Shared}
set_option maxHeartbeats 4000000 in
end
end Fw
namespace Vs
open PySem PySem.Spec PyProof.Rows L2 Fw SX NdefX
abbrev Clz:Type:=Value×Nat×(Addr->Value->Option Addr->TS)
def OutOk(g:Gm)(G H:Hp)(r:Rv)(Q:VK):Prop:=∀ G2 H2 v,Grow G H G2 H2->RvNew g G2 H2 H r v->Q v H2
theorem OutOk.tup{g:Gm}{G H:Hp}{ds:List D}{vs:List V}{Q:VK}(o:OutOk g G H (.val (.tup ds)) Q)(b:Bs G H)(r:Reps g G ds vs)(p:Addr)(np:H p=none):Q (.ref p) (upd H p (.tup vs)):=by
 have gr:=Grow.lay2 (o:=HO.tup vs) b np (fun _ _ z=>nomatch z)
 exact o _ _ _ gr (show Rep g _ (.tup ds) (.ref p) from ⟨p,vs,rfl,.of upd_same,r.mono gr.le⟩)
theorem OutOk.lst{g:Gm}{G H:Hp}{ds:List D}{vs:List V}{Q:VK}(o:OutOk g G H (.fresh (.lst ds)) Q)(b:Bs G H)(r:Reps g G ds vs)(p:Addr)(np:H p=none):Q (.ref p) (upd H p (.lst vs)) :=
 o _ _ _ (Grow.lay (o:=HO.lst vs) b np) ⟨p,rfl,b.hn np,⟨vs,upd_same,r⟩,np⟩
structure Cz where
 c:Value
 i:Nat
 y:Str
 tup:Bool
 f:List (Str×D)->Option (List D)
def Cz.ts(g:Gm)(q:Cz)(a:Addr)(cls:Value)(d:Option Addr):TS:=tRet (if q.tup=true then tTup (TXs g q.i q.y a cls d q.f) else tLst (TXs g q.i q.y a cls d q.f))
def Cz.z(g:Gm)(q:Cz):Clz:=(q.c,q.i,q.ts g)
end Vs
namespace Vs
open PySem PySem.Spec PyProof.Rows L2 Fw SX
def ItT(l it:Addr)(i:Nat):HO:=.ext fun h=>h.IsTupleIter it l i
end Vs
namespace Vs
open PySem PySem.Spec PyProof.Rows L2 Fw SX He
def smB(x m:Str):PySem.W.Frag->Bool:=fun K=>(match PySem.W.findCls K (.ref (ga K x)) (.type "type") m with
 | some (.get (.builtin i) (.ref p) .none (.ref D))=>decide (i = "staticmethod.__get__")&&(decide (p=ma K (ga K x) m)&&decide (D=ga K x))
 | _=>false)&&(match PySem.W.recIn K (ma K (ga K x) m) "staticmethod" with
 | some (.ref q::_)=>decide (q=I7 "staticmethod" x m K)
 | _=>false)
end Vs
namespace Vs
open PySem PySem.Spec PyProof.Rows L2 Fw SX NdefX
structure GrowT(g:Gm)(G H G' H':Hp):Prop where
 bs:Bs G' H'
 tabs:Tabs2 g.T.tabs G' H'
 scr:ScrOk g G' H'
 le:Le G G'
 keep:∀ a o,H a=some o->(∀ ps,o≠.tbl ps)->H' a=some o
 dom:∀ a,H' a=none->H a=none
 new:∀ a,G a=none->H a≠none->G' a=none
section
variable{g:Gm}{G H G1 H1:Hp}{σ:L2.St}{e:Ve}
theorem GrowT.of(w:Grow G H G1 H1)(t:Tabs2 g.T.tabs G H)(s:ScrOk g G H):GrowT g G H G1 H1:=⟨w.bs,(t.mono w.le fun a ps e n=>w.new a n (by rw [e]; simp)).kept fun a ps e=>w.keep a _ e,(s.mono w.le).keep fun _ _ h=>w.keep _ _ h,w.le,fun a o h _=>w.keep a o h,w.dom,w.new⟩
end
def OutOkT(g:Gm)(G H:Hp)(r:Rv)(Q:VK):Prop:=∀ G2 H2 v,GrowT g G H G2 H2->RvNew g G2 H2 H r v->Q v H2
theorem OutOkT.out{g:Gm}{G H:Hp}{r:Rv}{Q:VK}(o:OutOkT g G H r Q)(t:Tabs2 g.T.tabs G H)(s:ScrOk g G H):OutOk g G H r Q:=fun G2 H2 v w n=>o G2 H2 v (.of w t s) n
end Vs
namespace Vs
open PySem PySem.Spec PyProof.Rows L2 Fw SX
theorem thk{M:Model}{A:Around}{α:Type}{t:Sem α}{Q Q':α->Shared->Prop}{E:Value->Shared->Prop}{s:Shared}{n:Nat}(hn:n<=s.toks)(h:wpAny M A t Q E s)(k:∀ a s',n<=s'.toks->Q a s'->Q' a s'):wpAny M A t Q' E s :=
 wpAny_mono (PySem.wpAny_toks_of hn h) (fun a s' z=>k a s' z.1 z.2) fun _ _ z=>z.2
structure PIK(n:Nat)(X:Cx)(tg iter:Expr)(wi:TI):Prop where
 run:∀ (pins:List (Addr×Obj)) (s:Shared) (σ:L2.St) (H:Hp) (R:It->Hp->Prop),n<=s.toks->Inv X pins σ H s->wi σ H R ->
  wpAny (model X.prog X.w) X.A (eval iter X.env) (fun v s1=>1<=s1.toks/\wpAny (model X.prog X.w) X.A (pyIter v) (PIE X pins σ tg R) X.xe s1) X.xe s
section
variable{X:Cx}{tg iter:Expr}{wi:TI}
theorem PIK.of(h:PI X tg iter wi):PIK 1 X tg iter wi:=⟨fun pins s σ H R hn I q=>thk hn (h.run pins s σ H R I q) fun _ _ a b=>⟨a,b⟩⟩
end
section
variable{g:Gm}{W:WX}{k:Nat}{X:Cx}{st:Stmt}{rest:List Stmt}{ex:Expr}{pos:Pos}{A B:M Ctl}
theorem PST.imp{t t':TS}(h:PST X st t)(k:∀ D σ H,t' D σ H->t D σ H):PST X st t':=fun pins s σ H D h0 I q=>h pins s σ H D h0 I (k D σ H q)
theorem PSsT.imp{t t':TS}(h:PSsT X rest t)(k:∀ D σ H,t' D σ H->t D σ H):PSsT X rest t':=fun pins s σ H D h0 I q=>h pins s σ H D h0 I (k D σ H q)
theorem PET.imp{e:Expr}{t t':TE}(h:PET X e t)(k:∀ σ H Q,t' σ H Q->t σ H Q):PET X e t':=fun pins s σ H Q h0 I q=>h pins s σ H Q h0 I (k σ H Q q)
end
def FnI(P:Program)(w:World)(K:PySem.W.Frag)(mg:Str->Option Value)(base:Heap)(k:Nat)(f:Addr)(fl:Str):Prop :=
 ∀ (A:Around) (outer:List PySem.Env) (s:Shared) (H:Hp) (Q:VK) (p C dx:Addr) (us:List (Str×V)) (l:Addr) (zs:List V),Rm k A->Env0 P w K mg base A outer s H->H p=some (.ins C dx us)->Cls K C->NoAttr K C fl->us.lookup fl=some (.ref l)->SqT K H l zs ->
  (∀ it,H it=none->s.heap.objs.size<=it->Q (.ref it) (upd H it (ItT l it 0)))->codeAny (model P w) A (.call (.ref f) ⟨[.ref p],[]⟩) (CR (L2.CX P w) outer P w H s Q (fun _ _ _=>False)) s
theorem FnI.mono{P:Program}{w:World}{K:PySem.W.Frag}{mg:Str->Option Value}{base:Heap}{i k:Nat}{f:Addr}{fl:Str}(F:FnI P w K mg base i f fl)(h:i<=k):FnI P w K mg base k f fl:=fun A outer s H Q p C dx us l zs hr=>F A outer s H Q p C dx us l zs (hr.mono h)
abbrev Gh:=List (Addr×D)
def InG(γ:Gh)(b:Addr):Prop:=∃ d,(b,d)∈γ
def Ki:D->Bool
 | .dct _=>true
 | .ins _ _=>true
 | _=>false
structure Gam(g:Gm)(G H:Hp)(σ:L2.St)(e:Ve)(γ:Gh):Prop where
 nd:(γ.map Prod.fst).Nodup
 kd:∀ b d,(b,d)∈γ->Ki d=true
 at_:∀ b d,(b,d)∈γ->G b=none/\Own g G H b d/\∀ i,¬ Rt σ e i b
structure St2(g:Gm)(G H:Hp)(σ:L2.St)(e:Ve)(γ:Gh)(G' H':Hp)(σ':L2.St)(e':Ve)(γ':Gh):Prop where
 sr:SR g G' H' σ' e'
 gm:Gam g G' H' σ' e' γ'
 ln:e'.length=e.length
 le:Le G G'
 keep:∀ a o,H a=some o->(∀ i,¬ Rt σ e i a)->¬ InG γ a->(∀ ps,o≠.tbl ps)->H' a=some o
 dom:∀ a,H' a=none->H a=none
 new:∀ a,G a=none->H a≠none->(∀ i,¬ Rt σ e i a)->G' a=none
 rts:∀ i p,Rt σ' e' i p->(∃ j,Rt σ e j p)\/H p=none
 rto:∀ (i:Nat) d p,e'[i]? = some (.ow d)->σ'[i]? = some (some (.ref p))->(∃ (j:Nat) (d0:D),e[j]? = some (.ow d0)/\σ[j]? = some (some (.ref p)))\/H p=none
 bor:∀ (i:Nat) d,e[i]? = some (.bo d)->σ'[i]? = σ[i]?/\∃ d',e'[i]? = some (.bo d')\/e'[i]? = some (.bf d')
 bof:∀ (i:Nat) s,e[i]? = some s->Pm s=true->σ'[i]? = σ[i]?/\e'[i]? = some s
 nlo:∀ (i:Nat) d,e'[i]? = some (.lo d)->e[i]? = some (.lo d)
 gup:∀ b,InG γ b->InG γ' b
 gnw:∀ b,InG γ' b->InG γ b\/H b=none
section
variable{g:Gm}{G H G1 H1 G2 H2 G' H':Hp}{σ σ1 σ2 σ':L2.St}{e e1 e2 e':Ve}{γ γ1 γ2 γ':Gh}
theorem Gam.there(h:Gam g G H σ e γ){b:Addr}(m:InG γ b):∃ o,H b=some o/\Pln o:=by
 obtain ⟨d,m⟩:=m
 obtain ⟨_,o,_⟩:=h.at_ b d m
 obtain ⟨ob,ho,pl,_⟩:=o.there
 exact ⟨ob,ho,pl⟩
theorem Gam.st(h:Gam g G H σ e γ)(t:St g G H σ e G' H' σ' e'):Gam g G' H' σ' e' γ:=⟨h.nd,h.kd,fun b d m=>by
 obtain ⟨n,o,r⟩:=h.at_ b d m
 obtain ⟨ob,ho,pl,_⟩:=o.there
 have k:=t.keep b ob ho r pl.nt
 refine ⟨t.new b n (by rw [ho]; exact fun z=>nomatch z) r,o.mono t.le (k.trans ho.symm),fun i q=>?_⟩
 rcases t.rts i b q with ⟨j,x⟩ | x
 ·exact r j x
 ·rw [ho] at x; cases x⟩
theorem St.st2(t:St g G H σ e G' H' σ' e')(h:Gam g G H σ e γ):St2 g G H σ e γ G' H' σ' e' γ :=
 ⟨t.sr,h.st t,t.ln,t.le,fun a o x n _ nt=>t.keep a o x n nt,t.dom,t.new,t.rts,t.rto,t.bor,t.bof,t.nlo,fun _ m=>m,fun _ m=>.inl m⟩
theorem St2.refl(s:SR g G H σ e)(h:Gam g G H σ e γ):St2 g G H σ e γ G H σ e γ:=(St.refl s).st2 h
theorem St2.trans(a:St2 g G H σ e γ G1 H1 σ1 e1 γ1)(b:St2 g G1 H1 σ1 e1 γ1 G2 H2 σ2 e2 γ2):St2 g G H σ e γ G2 H2 σ2 e2 γ2:=by
 have nr:∀ x o,H x=some o->(∀ i,¬ Rt σ e i x)->∀ i,¬ Rt σ1 e1 i x:=fun x o h n i r=>by
  rcases a.rts i x r with ⟨j,q⟩ | q
  ·exact n j q
  ·rw [h] at q; cases q
 have ng:∀ x o,H x=some o->¬ InG γ x->¬ InG γ1 x:=fun x o h n m=>by
  rcases a.gnw x m with q | q
  ·exact n q
  ·rw [h] at q; cases q
 refine ⟨b.sr,b.gm,b.ln.trans a.ln,a.le.trans b.le,fun x o h n ni nt=>b.keep x o (a.keep x o h n ni nt) (nr x o h n) (ng x o h ni) nt,fun x h=>a.dom x (b.dom x h),fun x h1 h2 n=>?_,fun i p r=>?_,fun i d p h1 h2=>?_,fun i d h=>?_,fun i s h fx=>?_,fun i d h=>a.nlo i d (b.nlo i d h),fun x m=>b.gup x (a.gup x m),fun x m=>?_⟩
 ·obtain ⟨o,ho⟩:=Option.ne_none_iff_exists'.mp h2
  exact b.new x (a.new x h1 h2 n) (fun z=>h2 (a.dom x z)) (nr x o ho n)
 ·rcases b.rts i p r with ⟨j,q⟩ | q
  ·exact a.rts j p q
  ·exact .inr (a.dom p q)
 ·rcases b.rto i d p h1 h2 with ⟨j,d0,x,y⟩ | x
  ·exact a.rto j d0 p x y
  ·exact .inr (a.dom p x)
 ·obtain ⟨x1,d1,y1⟩:=a.bor i d h
  rcases y1 with y1 | y1
  ·obtain ⟨x2,y2⟩:=b.bor i d1 y1
   exact ⟨x2.trans x1,y2⟩
  ·obtain ⟨x2,y2⟩:=b.bof i _ y1 rfl
   exact ⟨x2.trans x1,d1,.inr y2⟩
 ·obtain ⟨x1,y1⟩:=a.bof i s h fx
  obtain ⟨x2,y2⟩:=b.bof i s y1 fx
  exact ⟨x2.trans x1,y2⟩
 ·rcases b.gnw x m with q | q
  ·exact a.gnw x q
  ·exact .inr (a.dom x q)
end
inductive O2 where
 | c (c:Ctl) | er (x:Exn)
abbrev P2:=O2->Ve->Gh->Prop
abbrev W2:=Ve->Gh->P2->Prop
def Post2(g:Gm)(W:WX)(D:Ends)(σ:L2.St)(G H:Hp)(e:Ve)(γ:Gh):P2
 | .c .nx,e',γ'=>∀ σ' G' H',St2 g G H σ e γ G' H' σ' e' γ'->D.nx σ' H'
 | .c (.rt r),e',γ'=>∀ v σ' G' H',St2 g G H σ e γ G' H' σ' e' γ'->RvOk g G' H' σ' e' H r v->(∀ d p,r=.fresh d->v=.ref p->¬ InG γ' p)->D.rt v H'
 | .c .bk,e',γ'=>∀ σ' G' H',St2 g G H σ e γ G' H' σ' e' γ'->D.bk σ' H'
 | .c .ct,e',γ'=>∀ σ' G' H',St2 g G H σ e γ G' H' σ' e' γ'->D.ct σ' H'
 | .er x,e',γ'=>∀ cls d σ' G' H',St2 g G H σ e γ G' H' σ' e' γ'->XOk g G' x cls d->W cls d σ' H'
theorem Post2.step{g:Gm}{W:WX}{D:Ends}{σ σ1:L2.St}{G H G1 H1:Hp}{e e1:Ve}{γ γ1:Gh}(t:St2 g G H σ e γ G1 H1 σ1 e1 γ1):∀ o e' γ',Post2 g W D σ G H e γ o e' γ'->Post2 g W D σ1 G1 H1 e1 γ1 o e' γ':=fun o e' γ' h=>by
 cases o with
 | er x=>exact fun cls d σ' G' H' t2 xo=>h cls d σ' G' H' (t.trans t2) xo
 | c c =>
  cases c with
  | nx=>exact fun σ' G' H' t2=>h σ' G' H' (t.trans t2)
  | bk=>exact fun σ' G' H' t2=>h σ' G' H' (t.trans t2)
  | ct=>exact fun σ' G' H' t2=>h σ' G' H' (t.trans t2)
  | rt r=>exact fun v σ' G' H' t2 rv nf=>h v σ' G' H' (t.trans t2) (rv.h0 t.dom) nf
theorem inG_iff{γ:Gh}{b:Addr}:InG γ b↔b∈γ.map Prod.fst:=by
 constructor
 ·rintro ⟨d,m⟩
  exact List.mem_map.mpr ⟨_,m,rfl⟩
 ·intro h
  obtain ⟨q,m,e⟩:=List.mem_map.mp h
  exact ⟨q.2,by rw [← e]; exact m⟩
section
variable{g:Gm}{G H G1 H1:Hp}{σ σ1:L2.St}{e e1:Ve}{γ γ1:Gh}
theorem St2.cell{p:Addr}{d:D}(t:St2 g G H σ e γ G1 H1 σ1 e1 γ1)(h0:H p=none)(n:G1 p=none)(ow:Own g G1 H1 p d)(nr:∀ i,¬ Rt σ1 e1 i p)(ni:¬ InG γ1 p)(kd':Ki d=true):St2 g G H σ e γ G1 H1 σ1 e1 ((p,d)::γ1):=by
 refine ⟨t.sr,⟨by rw [List.map_cons]; exact List.nodup_cons.mpr ⟨fun h=>ni (inG_iff.mpr h),t.gm.nd⟩,fun x u hx=>?_,fun x u hx=>?_⟩,t.ln,t.le,t.keep,t.dom,t.new,t.rts,t.rto,t.bor,t.bof,t.nlo,fun x h=>?_,fun x h=>?_⟩
 ·rcases List.mem_cons.mp hx with z | z
  ·cases z; exact kd'
  ·exact t.gm.kd x u z
 ·rcases List.mem_cons.mp hx with z | z
  ·cases z; exact ⟨n,ow,nr⟩
  ·exact t.gm.at_ x u z
 ·obtain ⟨u,hu⟩:=t.gup x h
  exact ⟨u,List.mem_cons_of_mem _ hu⟩
 ·obtain ⟨u,hu⟩:=h
  rcases List.mem_cons.mp hu with z | z
  ·cases z; exact .inr h0
  ·exact t.gnw x ⟨u,z⟩
end
structure Tr2(g:Gm)(σ:L2.St)(G H:Hp)(e:Ve)(γ:Gh)(G' H':Hp)(e':Ve)(γ':Gh):Prop where
 sr:SR g G' H' σ e'
 gm:Gam g G' H' σ e' γ'
 le:Le G G'
 keep:∀ a o,H a=some o->(∀ i,¬ Rt σ e i a)->¬ InG γ a->(∀ ps,o≠.tbl ps)->H' a=some o
 dom:∀ a,H' a=none->H a=none
 new:∀ a,G a=none->H a≠none->(∀ i,¬ Rt σ e i a)->G' a=none
 ve:VeLe e e'
 gup:∀ b,InG γ b->InG γ' b
 gnw:∀ b,InG γ' b->InG γ b\/H b=none
section
variable{g:Gm}{G H G1 H1 G2 H2 G' H' H0:Hp}{σ:L2.St}{e e1 e2 e':Ve}{γ γ1 γ2 γ':Gh}
theorem Tr.tr2(t:Tr g σ G H e G' H' e')(h:Gam g G H σ e γ):Tr2 g σ G H e γ G' H' e' γ :=
 ⟨t.sr,h.st t.st,t.le,fun a o x n _ nt=>t.keep a o x n nt,t.dom,t.new,t.ve,fun _ m=>m,fun _ m=>.inl m⟩
theorem Tr2.refl(s:SR g G H σ e)(h:Gam g G H σ e γ):Tr2 g σ G H e γ G H e γ:=(Tr.refl s).tr2 h
theorem Tr2.trans(a:Tr2 g σ G H e γ G1 H1 e1 γ1)(b:Tr2 g σ G1 H1 e1 γ1 G2 H2 e2 γ2):Tr2 g σ G H e γ G2 H2 e2 γ2:=by
 have ng:∀ x o,H x=some o->¬ InG γ x->¬ InG γ1 x:=fun x o h n m=>by
  rcases a.gnw x m with q | q
  ·exact n q
  ·rw [h] at q; cases q
 refine ⟨b.sr,b.gm,a.le.trans b.le,fun x o h n ni nt=>b.keep x o (a.keep x o h n ni nt) (fun i r=>n i (a.ve.rt r)) (ng x o h ni) nt,fun x h=>a.dom x (b.dom x h),fun x h1 h2 n=>b.new x (a.new x h1 h2 n) (fun z=>h2 (a.dom x z)) fun i r=>n i (a.ve.rt r),a.ve.trans b.ve,fun x m=>b.gup x (a.gup x m),fun x m=>?_⟩
 rcases b.gnw x m with q | q
 ·exact a.gnw x q
 ·exact .inr (a.dom x q)
theorem Tr2.st2(a:Tr2 g σ G H e γ G1 H1 e1 γ1):St2 g G H σ e γ G1 H1 σ e1 γ1 :=
 ⟨a.sr,a.gm,a.ve.len,a.le,a.keep,a.dom,a.new,fun i p r=>.inl ⟨i,a.ve.rt r⟩,fun i d p h1 h2=>.inl (a.ve.owB h1 h2),fun i d h=>⟨rfl,by
  obtain ⟨s',h1,d',l⟩:=a.ve.at_ i _ h
  rcases l with rfl | rfl
  ·exact ⟨d',.inl h1⟩
  ·exact ⟨d',.inr h1⟩⟩,fun i s h fx=>⟨rfl,by
  obtain ⟨s',h1,l⟩:=a.ve.at_ i _ h
  cases s with
  | bf d=>cases l; exact h1
  | lo d=>cases l; exact h1
  | _=>cases fx⟩,fun i d h=>a.ve.nlo h,a.gup,a.gnw⟩
def RvOk2(g:Gm)(G H:Hp)(σ:L2.St)(e:Ve)(γ:Gh)(H0:Hp)(r:Rv)(v:V):Prop:=RvOk g G H σ e H0 r v/\∀ d p,r=.fresh d->v=.ref p->¬ InG γ p
end
inductive Og(α:Type) where
 | v (a:α) | er (x:Exn)
abbrev E2(α:Type):=Ve->Gh->(Og α->Ve->Gh->Prop)->Prop
def Ah{α:Type}(F:E2 α):Prop:=∀ (e:Ve) (γ:Gh) (P P':Og α->Ve->Gh->Prop),(∀ o e' γ',P o e' γ'->P' o e' γ')->F e γ P->F e γ P'
def Pst2{α:Type}(g:Gm)(W:WX)(σ:L2.St)(G H:Hp)(e:Ve)(γ:Gh)(R:α->Hp->Hp->Ve->Gh->Prop):Og α->Ve->Gh->Prop
 | .v a,e',γ'=>∀ G' H',Tr2 g σ G H e γ G' H' e' γ'->R a G' H' e' γ'
 | .er x,e',γ'=>∀ cls d G' H',Tr2 g σ G H e γ G' H' e' γ'->XOk g G' x cls d->W cls d σ H'
def Bn{α β:Type}(A:E2 α)(k:α->E2 β):E2 β:=fun e γ P=>A e γ fun o e1 γ1=>match o with
 | .v a=>k a e1 γ1 P
 | .er x=>P (.er x) e1 γ1
theorem Pst2.bind{α β:Type}{g:Gm}{W:WX}{σ:L2.St}{G H:Hp}{e:Ve}{γ:Gh}{R:β->Hp->Hp->Ve->Gh->Prop}{A:E2 α}{k:α->E2 β}(ma:Ah A)(mk:∀ x,Ah (k x))(h:Bn A k e γ (Pst2 g W σ G H e γ R)) :
  A e γ (Pst2 g W σ G H e γ fun a G1 H1 e1 γ1=>k a e1 γ1 (Pst2 g W σ G1 H1 e1 γ1 R)):=ma _ _ _ _ (fun o e1 γ1 z=>by
 cases o with
 | er x=>exact z
 | v a=>exact fun G1 H1 t1=>mk a _ _ _ _ (fun o2 e2 γ2 z2=>by
   cases o2 with
   | er x=>exact fun cls d G' H' t2=>z2 cls d G' H' (t1.trans t2)
   | v b=>exact fun G' H' t2=>z2 G' H' (t1.trans t2)) z) h
theorem Pst2.step{α:Type}{g:Gm}{W:WX}{σ:L2.St}{G H G1 H1:Hp}{e e1:Ve}{γ γ1:Gh}{R:α->Hp->Hp->Ve->Gh->Prop}(t:Tr2 g σ G H e γ G1 H1 e1 γ1):∀ o e' γ',Pst2 g W σ G H e γ R o e' γ'->Pst2 g W σ G1 H1 e1 γ1 R o e' γ':=fun o e' γ' h=>by
 cases o with
 | er x=>exact fun cls d G' H' t2=>h cls d G' H' (t.trans t2)
 | v a=>exact fun G' H' t2=>h G' H' (t.trans t2)
section
variable{g:Gm}{W:WX}{k:Nat}{X:Cx}
theorem Tr2.frz{G H G1 H1:Hp}{σ:L2.St}{e e1 e2:Ve}{γ γ1:Gh}{r:Rv}{v:V}{d:D}(t:Tr2 g σ G H e γ G1 H1 e1 γ1)(ok:RvOk2 g G1 H1 σ e1 γ1 H r v)(h:Bz r e1=.ok d e2):∃ G2,Tr2 g σ G H e γ G2 H1 e2 γ1/\Rep g G2 d v:=by
 cases r with
 | val d'=>cases h; exact ⟨G1,t,ok.1⟩
 | slot i =>
  obtain ⟨G2,t2,rp⟩:=Ni (H:=H1) (r:=.slot i) (v:=v) (Tr.refl t.sr) ok.1 h
  exact ⟨G2,t.trans (t2.tr2 t.gm),rp⟩
 | fresh d' =>
  cases h
  obtain ⟨⟨p,ev,n,o,h0,nr⟩,nf2⟩:=ok
  have ni:¬ InG γ1 p:=nf2 d p rfl ev
  obtain ⟨ob,ho,nf,mk⟩:=o.there
  have le:=Le.upd (o:=ob) n
  have gr:SR g (upd G1 p ob) H1 σ e1:=by
   refine ⟨t.sr.bs.frz ho nf.nf,t.sr.tabs.mono (Le.upd n) (fun a ps e m=>by rw [upd_ne (fun z=>by rw [z,ho] at e; exact nf.nt ps (Option.some.inj e))]; exact m),t.sr.scr.mono (Le.upd n),t.sr.len,fun j=>?_,t.sr.inj⟩
   have slj:=t.sr.slot j
   cases q:e1[j]? with
   | none=>trivial
   | some s =>
    rw [q] at slj
    have ne:∀ p',Rt σ e1 j p'->p'≠p:=fun p' r z=>nr j (z ▸ r)
    cases s with
    | un=>trivial
    | sh d=>obtain ⟨v,ev,r⟩:=slj; exact ⟨v,ev,r.mono le⟩
    | bf d=>obtain ⟨v,ev,r⟩:=slj; exact ⟨v,ev,r.mono le⟩
    | lo d =>
     obtain ⟨p',ev,n',r⟩:=slj
     obtain ⟨ob',u',ho',_⟩:=r.there
     exact ⟨p',ev,by rw [upd_ne (fun z=>by rw [z,ho] at ho'; exact nf.nf _ _ (Option.some.inj ho'))]; exact n',r.mono le rfl⟩
    | ow d=>obtain ⟨p',ev,n',r⟩:=slj; exact ⟨p',ev,by rw [upd_ne (ne p' ⟨by rw [q]; trivial,ev⟩)]; exact n',r.mono le rfl⟩
    | bo d=>obtain ⟨p',ev,n',r⟩:=slj; exact ⟨p',ev,by rw [upd_ne (ne p' ⟨by rw [q]; trivial,ev⟩)]; exact n',r.mono le rfl⟩
  refine ⟨upd G1 p ob,⟨gr,⟨t.gm.nd,t.gm.kd,fun b u m=>?_⟩,t.le.trans le,t.keep,t.dom,fun a h1 h2 h3=>?_,t.ve,t.gup,t.gnw⟩,?_⟩
  ·obtain ⟨n1,o1,r1⟩:=t.gm.at_ b u m
   exact ⟨by rw [upd_ne (fun z=>ni (by rw [← z]; exact ⟨u,m⟩))]; exact n1,o1.mono le rfl,r1⟩
  ·rw [upd_ne (fun z=>h2 (by rw [z]; exact h0))]; exact t.new a h1 h2 h3
  ·rw [ev]; exact mk le upd_same
end
section
variable{g:Gm}{G H G1 H1:Hp}{σ σ1:L2.St}{e e1:Ve}{γ γ1:Gh}{i:Nat}{v:V}{s:Sl}
theorem Wc(hlt:i<e.length)(hlt2:i<σ.length)(hs:(∃ d,s=.sh d)\/∃ d p,s=.ow d/\v=.ref p){j:Nat}{p:Addr}(r:Rt (σ.set i (some v)) (e.set i s) j p):Rt σ e j p\/∃ d,s=.ow d/\v=.ref p:=by
 obtain ⟨r1,r2⟩:=r
 rw [getElem?_set'] at r1 r2
 by_cases hj:i=j
 ·subst hj
  rw [if_pos ⟨rfl,hlt⟩] at r1
  rw [if_pos ⟨rfl,hlt2⟩] at r2
  cases r2
  rcases hs with ⟨d,rfl⟩ | ⟨d,p',rfl,ev⟩
  ·exact r1.elim
  ·exact .inr ⟨d,rfl,rfl⟩
 ·rw [if_neg (fun z=>hj z.1)] at r1 r2
  exact .inl ⟨r1,r2⟩
theorem St2.sto(h0:St2 g G1 H1 σ1 e1 γ1 G H σ e γ)(c:Ax e i=true)(hs:(∃ d,s=.sh d/\Rep g G d v)\/∃ d p,s=.ow d/\v=.ref p/\G p=none/\Own g G H p d/\∀ j,¬ Rt σ e j p)
  (nw:∀ d p,s=.ow d->v=.ref p->H1 p=none)(ng:∀ d p,s=.ow d->v=.ref p->¬ InG γ p):St2 g G1 H1 σ1 e1 γ1 G H (σ.set i (some v)) (e.set i s) γ:=by
 obtain ⟨hlt,nbo,nbf⟩:=L3 c
 have hlt2:i<σ.length:=by rw [← h0.sr.len]; exact hlt
 have hs2:(∃ d,s=.sh d)\/∃ d p,s=.ow d/\v=.ref p:=by
  rcases hs with ⟨d,a,_⟩ | ⟨d,p,a,b,_⟩
  ·exact .inl ⟨d,a⟩
  ·exact .inr ⟨d,p,a,b⟩
 have oth:∀ (j:Nat),i≠j->(e.set i s)[j]? = e[j]?/\(σ.set i (some v))[j]? = σ[j]?:=fun j n=>by
  rw [getElem?_set',getElem?_set',if_neg (fun z=>n z.1),if_neg (fun z=>n z.1)]
  exact ⟨rfl,rfl⟩
 have same:(e.set i s)[i]? = some s:=by rw [getElem?_set',if_pos ⟨rfl,hlt⟩]
 refine ⟨h0.sr.sto c hs,⟨h0.gm.nd,h0.gm.kd,fun b u m=>?_⟩,by rw [List.length_set]; exact h0.ln,h0.le,h0.keep,h0.dom,h0.new,fun j p r=>?_,fun j d p r1 r2=>?_,fun j d h=>?_,fun j s0 h fx=>?_,fun j d h=>?_,h0.gup,h0.gnw⟩
 ·obtain ⟨n,o,r⟩:=h0.gm.at_ b u m
  refine ⟨n,o,fun j q=>?_⟩
  rcases Wc hlt hlt2 hs2 q with y | ⟨d,y1,y2⟩
  ·exact r j y
  ·exact ng d b y1 y2 ⟨u,m⟩
 ·rcases Wc hlt hlt2 hs2 r with y | ⟨d,y1,y2⟩
  ·exact h0.rts j p y
  ·exact .inr (nw d p y1 y2)
 ·by_cases hj:i=j
  ·subst hj
   rw [same] at r1
   cases r1
   rw [getElem?_set',if_pos ⟨rfl,hlt2⟩] at r2
   cases r2
   exact .inr (nw d p rfl rfl)
  ·rw [(oth j hj).1] at r1
   rw [(oth j hj).2] at r2
   exact h0.rto j d p r1 r2
 ·obtain ⟨x1,d1,y1⟩:=h0.bor j d h
  by_cases hj:i=j
  ·subst hj
   rcases y1 with y1 | y1
   ·exact absurd y1 (nbo d1)
   ·exact absurd y1 (nbf _ rfl)
  ·rw [(oth j hj).1,(oth j hj).2]
   exact ⟨x1,d1,y1⟩
 ·obtain ⟨x1,y1⟩:=h0.bof j s0 h fx
  by_cases hj:i=j
  ·subst hj
   exact absurd y1 (nbf s0 fx)
  ·rw [(oth j hj).1,(oth j hj).2]
   exact ⟨x1,y1⟩
 ·by_cases hj:i=j
  ·subst hj
   rw [same] at h
   cases h
   rcases hs2 with ⟨_,z⟩ | ⟨_,_,z,_⟩ <;> cases z
  ·rw [(oth j hj).1] at h
   exact h0.nlo j d h
end
structure Drp(g:Gm)(G1 G2:Hp)(γ:Gh):Prop where
 eq:∀ a,¬ InG γ a->G2 a=G1 a
 no:∀ a,InG γ a->∀ u,G1 a=some u->(∃ vs,u=.dK vs)\/∃ c dx vs,u=.ins c dx vs
section
variable{g:Gm}{G1 G2:Hp}{γ:Gh}
theorem Drp.lst(h:Drp g G1 G2 γ){a:Addr}{vs:List V}(q:G1 a=some (.lst vs)):G2 a=some (.lst vs):=by
 rw [h.eq a (fun m=>by
  rcases h.no a m _ q with ⟨_,z⟩ | ⟨_,_,_,z⟩ <;> cases z)]
 exact q
theorem Drp.sqT{K:PySem.W.Frag}(h:Drp g G1 G2 γ){a:Addr}{vs:List V}(q:SqT K G1 a vs):SqT K G2 a vs:=by
 rcases q with (q | ⟨o,q⟩) | q
 ·refine .inl (.inl ?_)
  rw [h.eq a (fun m=>by
   rcases h.no a m _ q with ⟨_,z⟩ | ⟨_,_,_,z⟩ <;> cases z)]
  exact q
 ·refine .inl (.inr ⟨o,?_⟩)
  rw [h.eq a (fun m=>by
   rcases h.no a m _ q with ⟨_,z⟩ | ⟨_,_,_,z⟩ <;> cases z)]
  exact q
 ·exact .inr q
theorem Drp.ext(h:Drp g G1 G2 γ){a:Addr}{u:HO}(q:G1 a=some u)(n:∀ vs,u≠.dK vs)(n2:∀ c dx vs,u≠.ins c dx vs):G2 a=some u:=by
 rw [h.eq a (fun m=>by
  rcases h.no a m _ q with ⟨_,z⟩ | ⟨_,_,_,z⟩
  ·exact n _ z
  ·exact n2 _ _ _ z)]
 exact q
end
section
variable{g:Gm}{G H G1 H1:Hp}{σ:L2.St}{e e1:Ve}{γ γ1:Gh}
theorem Tr2.cell{p:Addr}{d:D}(t:Tr2 g σ G H e γ G1 H1 e1 γ1)(h0:H p=none)(n:G1 p=none)(ow:Own g G1 H1 p d)(nr:∀ i,¬ Rt σ e1 i p)(ni:¬ InG γ1 p)(kd':Ki d=true):Tr2 g σ G H e γ G1 H1 e1 ((p,d)::γ1):=by
 refine ⟨t.sr,⟨by rw [List.map_cons]; exact List.nodup_cons.mpr ⟨fun h=>ni (inG_iff.mpr h),t.gm.nd⟩,fun x u hx=>?_,fun x u hx=>?_⟩,t.le,t.keep,t.dom,t.new,t.ve,fun x h=>?_,fun x h=>?_⟩
 ·rcases List.mem_cons.mp hx with z | z
  ·cases z; exact kd'
  ·exact t.gm.kd x u z
 ·rcases List.mem_cons.mp hx with z | z
  ·cases z; exact ⟨n,ow,nr⟩
  ·exact t.gm.at_ x u z
 ·obtain ⟨u,hu⟩:=t.gup x h
  exact ⟨u,List.mem_cons_of_mem _ hu⟩
 ·obtain ⟨u,hu⟩:=h
  rcases List.mem_cons.mp hu with z | z
  ·cases z; exact .inr h0
  ·exact t.gnw x ⟨u,z⟩
end
section
variable{e e1 e2 e3:Ve}{γ:Gh}{P:P2}{A B:W2}
def Prm(F:E2 Rv)(as:List Sl)(γ:Gh)(r:Rv)(γ':Gh):Prop:=∀ Q:Og Rv->Ve->Gh->Prop,Q (.v r) as γ'->F as γ Q
end
def Hj(l it:Addr)(i:Nat):HO:=.ext fun h=>h.IsListIter it l i
def FnIL(P:Program)(w:World)(K:PySem.W.Frag)(mg:Str->Option Value)(base:Heap)(k:Nat)(f:Addr)(fl:Str):Prop :=
 ∀ (A:Around) (outer:List PySem.Env) (s:Shared) (H:Hp) (Q:VK) (p C dx:Addr) (us:List (Str×V)) (l:Addr) (zs:List V),Rm k A->Env0 P w K mg base A outer s H->H p=some (.ins C dx us)->Cls K C->NoAttr K C fl->us.lookup fl=some (.ref l)->SqL K H l zs ->
  (∀ it,H it=none->s.heap.objs.size<=it->Q (.ref it) (upd H it (Hj l it 0)))->codeAny (model P w) A (.call (.ref f) ⟨[.ref p],[]⟩) (CR (L2.CX P w) outer P w H s Q (fun _ _ _=>False)) s
theorem FnIL.mono{P:Program}{w:World}{K:PySem.W.Frag}{mg:Str->Option Value}{base:Heap}{i k:Nat}{f:Addr}{fl:Str}(F:FnIL P w K mg base i f fl)(h:i<=k):FnIL P w K mg base k f fl:=fun A outer s H Q p C dx us l zs hr=>F A outer s H Q p C dx us l zs (hr.mono h)
section
variable{e e1 e2:Ve}{γ:Gh}
def Gx(F:E2 Rv)(as:List Sl)(γ:Gh)(o:Og Rv)(as':List Sl)(γ':Gh):Prop:=∀ Q:Og Rv->Ve->Gh->Prop,Q o as' γ'->F as γ Q
theorem Prm.o{F:E2 Rv}{as:List Sl}{r:Rv}{γ':Gh}(h:Prm F as γ r γ'):Gx F as γ (.v r) as γ':=h
end
end Vs
set_option maxHeartbeats 4000000
namespace La
open PySem PySem.Spec PyProof.Rows L2 Fw SX Vs
def Bo(i:Nat):Stmt:=PySem.Challenge.pw_foundaswritten_k45_stores_refuse.main.body.getD i (.Pass ⟨0,0,0,0⟩)
def L5:List Nat:=[39,45,65,66,67,68,69,70,71,72,73,74,75,76,77,78,79,80,81,82,83,84,85,86,87,88,89,90,97,98,99,100,101,102,103,104,105,106,107,108,109,110,111,112,113,114,115,116,117,118,119,120,121,122]
def Ce:List Nat:=[97,98,99,100,101,102,103,104,105,106,107,108,109,110,111,112,113,114,115,116,117,118,119,120,121,122]
abbrev Kj:Stmt:=Bo 63
abbrev Kk:Stmt:=inClass (Bo 30) 0
abbrev Kl:Stmt:=inClass (Bo 25) 0
abbrev Km:Stmt:=Bo 20
abbrev I9:Stmt:=Bo 59
abbrev H9:Stmt:=inClass (Bo 61) 1
abbrev Kq:Stmt:=inClass (Bo 61) 3
abbrev Kr:Stmt:=Bo 64
abbrev Ks:Stmt:=Bo 65
abbrev Ja:Stmt:=Bo 66
abbrev Kt:Stmt:=inClass (Bo 30) 6
abbrev Jb:Stmt:=Bo 18
abbrev Ku:Stmt:=Bo 29
abbrev Kv:Stmt:=inClass (Bo 30) 5
abbrev Hk:Stmt:=inClass (Bo 30) 2
abbrev Kw:Stmt:=inClass (Bo 30) 4
abbrev Ky:Stmt:=inClass (Bo 30) 1
abbrev Jc:Stmt:=Bo 70
abbrev Kz:Stmt:=Bo 69
abbrev K0:Stmt:=Bo 68
abbrev K1:Stmt:=Bo 67
abbrev K2:Stmt:=inClass (Bo 30) 7
abbrev K3:Stmt:=inClass (Bo 30) 3
abbrev E6:Stmt:=Bo 71
def Wd:He.DefD:=⟨("_law_source",none), "_law_source", "_law_source",defArgs Kj,defBody Kj,defScope Kj,[],[]⟩
def We:He.DefD:=⟨("Store",some "__init__"), "__init__", "Store.__init__",defArgs Kk,defBody Kk,defScope Kk,[],[]⟩
def Wf:He.DefD:=⟨("House",some "__init__"), "__init__", "House.__init__",defArgs Kl,defBody Kl,defScope Kl,[],[]⟩
def Wg:He.DefD:=⟨("check_letters",none), "check_letters", "check_letters",defArgs Km,defBody Km,defScope Km,[],[]⟩
def Wh:He.DefD:=⟨("check_steps",none), "check_steps", "check_steps",defArgs I9,defBody I9,defScope I9,[],[]⟩
def Wi:He.DefD:=⟨("Chain",some "__init__"), "__init__", "Chain.__init__",defArgs H9,defBody H9,defScope H9,[],[("keep_places",.bl true)]⟩
def Nu:He.DefD:=⟨("Chain",some "plain"), "plain", "Chain.plain",defArgs Kq,defBody Kq,defScope Kq,[],[]⟩
def Wj:He.DefD:=⟨("_law_pick",none), "_law_pick", "_law_pick",defArgs Kr,defBody Kr,defScope Kr,[],[]⟩
def Wk:He.DefD:=⟨("_law_one",none), "_law_one", "_law_one",defArgs Ks,defBody Ks,defScope Ks,[],[]⟩
def Wl:He.DefD:=⟨("_law_name",none), "_law_name", "_law_name",defArgs Ja,defBody Ja,defScope Ja,[],[]⟩
def Wm:He.DefD:=⟨("Store",some "check_open"), "check_open", "Store.check_open",defArgs Kt,defBody Kt,defScope Kt,[],[]⟩
def Wn:He.DefD:=⟨("is_made_of",none), "is_made_of", "is_made_of",defArgs Jb,defBody Jb,defScope Jb,[],[]⟩
def Wo:He.DefD:=⟨("check_name",none), "check_name", "check_name",defArgs Ku,defBody Ku,defScope Ku,[],[]⟩
def Wq:He.DefD:=⟨("Store",some "__setitem__"), "__setitem__", "Store.__setitem__",defArgs Kv,defBody Kv,defScope Kv,[],[]⟩
def Wr:He.DefD:=⟨("Store",some "__iter__"), "__iter__", "Store.__iter__",defArgs Hk,defBody Hk,defScope Hk,[],[]⟩
def Ws:He.DefD:=⟨("Store",some "__getitem__"), "__getitem__", "Store.__getitem__",defArgs Kw,defBody Kw,defScope Kw,[],[]⟩
def Wt:He.DefD:=⟨("Store",some "__len__"), "__len__", "Store.__len__",defArgs Ky,defBody Ky,defScope Ky,[],[]⟩
def Wu:He.DefD:=⟨("_law_state",none), "_law_state", "_law_state",defArgs Jc,defBody Jc,defScope Jc,[],[]⟩
def Wv:He.DefD:=⟨("_law_same",none), "_law_same", "_law_same",defArgs Kz,defBody Kz,defScope Kz,[],[]⟩
def Ww:He.DefD:=⟨("_law_refused",none), "_law_refused", "_law_refused",defArgs K0,defBody K0,defScope K0,[],[]⟩
def Wx:He.DefD:=⟨("_law_set",none), "_law_set", "_law_set",defArgs K1,defBody K1,defScope K1,[],[]⟩
def Wy:He.DefD:=⟨("Store",some "remove"), "remove", "Store.remove",defArgs K2,defBody K2,defScope K2,[],[]⟩
def Wz:He.DefD:=⟨("Store",some "__contains__"), "__contains__", "Store.__contains__",defArgs K3,defBody K3,defScope K3,[],[]⟩
def W3:He.DefD:=⟨("law",none), "law", "law",defArgs E6,defBody E6,defScope E6,[],[]⟩
def fn:List He.DefD:=[Wd,We,Wf,Wg,Wh,Wi,Wj,Wk,Wl,Wm,Wn,Wo,Wq,Wr,Ws,Wt,Wu,Wv,Ww,Wx,Wy,Wz,W3]
def fr:List FarD:=[⟨I7 "staticmethod" "Chain" "plain",Nu⟩]
abbrev Sr:Stmt:=inClass (Bo 8) 0
def Ss:XnD:=⟨"BadName", "BadName.__init__",defArgs Sr,defBody Sr,defScope Sr, "__init__"⟩
abbrev Su:Stmt:=inClass (Bo 10) 0
def Sv:XnD:=⟨"NoText", "NoText.__init__",defArgs Su,defBody Su,defScope Su, "__init__"⟩
def fa:List He.Fa:=[.free "len",.free "abs",.free "int",.glo "Store",.cls "Store",.noat "Store" "house",.noat "Store" "texts",.noat "Store" "names",.noat "Store" "is_shut",.glo "House",.cls "House",.noat "House" "keep",.noat "House" "ask",.noat "House" "letters",.int "MOST_LETTERS" 4,.free "str",.free "isinstance",.free "enumerate",.str "CHARACTERS" (S L5),.free "any",.glo "Rows",.glo "Beginnings",.glo "Chain",.cls "Chain",.noat "Chain" "letters",.noat "Chain" "steps",.noat "Chain" "keep_places",.noat "Chain" "front_steps",.noat "Chain" "rows",.noat "Chain" "back_steps",.free "range",.free "all",.int "MOST_IN_NAME" 12,.str "SMALL_LETTERS" (S Ce),.glo "BadName",.free "super",.free "sorted",.free "iter",.glo "NoText",.free "list",.free "bool",.free "LookupError",.glo "FoundError",.free "min",.free "max",.glo "_law_source",.glo "check_letters",.glo "check_steps",.glo "_law_pick",.glo "_law_one",.glo "_law_name",.glo "is_made_of",.glo "check_name",.glo "_law_state",.glo "_law_same",.glo "_law_refused",.glo "_law_set",.glo "law",.mkr "Store",.mkr "House",.mkr "Chain",.meth "Store" "check_open",.meth "Store" "remove"]
def ex:Ex:=[Np "Rows" [("Chain",false),("House",false),("Store",false)],Nm ["Chain", "House", "Store"],Np "Beginnings" [("Chain",false),("House",false),("Store",false)],Sn "Chain",Pk "Chain" "MOST" 6,exB (PySem.W.OpenLaw.row PySem.Challenge.rw_foundaswritten_k45_stores_refuse).prog.main.file "BadName",noB "BadName" "name",Nt (PySem.W.OpenLaw.row PySem.Challenge.rw_foundaswritten_k45_stores_refuse).prog.main.file "NoText",noB "NoText" "name",Nr "BadName" "LookupError" false,Nk "BadName" "FoundError" true,Nl "BadName" "name",Kh "BadName" "BadName" true,Kh "BadName" "NoText" false,Nr "NoText" "LookupError" true,Nk "NoText" "FoundError" false,Nl "NoText" "name",Kh "NoText" "NoText" true,farB ⟨I7 "staticmethod" "Chain" "plain",Nu⟩,smB "Chain" "plain",Cu "Store" "Store" "__setitem__",seqB "Store",Cu "Store" "Store" "__iter__",Cu "Store" "Store" "__getitem__",Cu "Store" "Store" "__len__",Cu "Store" "Store" "__contains__"]
def loose:List PySem.Str:=(["_wall", "FoundError", "BadLetters", "BadWord", "BadStep", "BadChain", "BadLine", "BadName", "LettersDiffer", "NoText", "Shut", "Reading", "CHARACTERS", "DIGITS", "MOST_LETTERS", "is_made_of", "is_integer", "check_letters", "is_word", "is_number"]:List PySem.Str)++(["items_of", "House", "SMALL_LETTERS", "MOST_IN_NAME", "check_name", "Store", "MOST_ENTRIES", "MOST_SIGNS", "MOST_WORDS", "is_string", "is_row", "is_book", "is_word_list", "check_word", "check_row", "Step", "Booked", "Bounded", "written", "Fold"]:List PySem.Str)++(["Doubles", "Cut", "Endings", "Lengths", "Leave", "Rows", "Beginnings", "read_book", "read_digits", "made_step", "read_step", "check_steps", "read_head", "Chain", "_law_source", "_law_pick", "_law_one", "_law_name", "_law_set", "_law_refused"]:List PySem.Str)++(["_law_same", "_law_state"]:List PySem.Str)
abbrev R:PySem.W.OpenRow:=PySem.W.OpenLaw.row PySem.Challenge.rw_foundaswritten_k45_stores_refuse
def tf:List He.Defn:=[("law",none)]
def xs:List Str:=(["_law_source", "Store", "House", "check_letters", "check_steps", "Chain", "_law_pick", "_law_one", "_law_name", "is_made_of", "check_name", "_law_state", "_law_same", "_law_refused", "_law_set", "law", "Rows", "Beginnings", "BadName", "NoText"]:List Str)++(["FoundError"]:List Str)
def fs:List (PySem.W.Frag->Addr):=[I7 "staticmethod" "Chain" "plain"]
def xn:List XnD:=[Ss,Sv]
abbrev hk:PySem.W.Hook:=Wa xs fs ex fa fn tf xn fr
def ob(s:PySem.W.SharedT):AlP:=Pq xs fs ex fa fn tf xn fr (HandSHeadRun.getT s)
theorem run1(w:World):Run1 R 14000 w:=by
 intro os
 kernel_rfl
theorem run2(w:World):Run2 R (PySem.W.view R.prog [71]) 14000 loose w:=by
 intro os
 kernel_rfl
theorem run3(w:World):Run3 R 14000 w ob (hk.val w):=by
 intro os
 kernel_rfl
theorem run(w:World):HandSHeadRun.RunEq R (PySem.W.view R.prog [71]) hk ob 14000 loose w:=Aei (run1 w) (run2 w) (run3 w)
end La
set_option maxHeartbeats 2000000
namespace Fw
open PySem PySem.Spec PyProof.Rows L2
section
variable{P:Program}{w:World}{A:Around}{E:Value->Shared->Prop}{s:Shared}
structure NoSet(P:Program)(w:World)(h0:Heap)(v:Value):Prop where
 set:∀ (A:Around) (E:Value->Shared->Prop) (Q:Bool->Shared->Prop) (s:Shared),(∀ b o,h0.get? b=some o->s.heap.get? b=some o)->Q false s->wpAny (model P w) A (Builtin.Frozenset.isAnySet v) Q E s
 dict:∀ (A:Around) (E:Value->Shared->Prop) (Q:Value->Shared->Prop) (s:Shared),(∀ b o,h0.get? b=some o->s.heap.get? b=some o)->(∀ T:Value,(T==.type "dict")=false->Q T s)->wpAny (model P w) A (typeOf v) Q E s
set_option maxHeartbeats 4000000 in
end
def leS(x y:Str):Bool:=!ltCps y.cps.toList x.cps.toList
theorem leS_iff{x y:Str}:leS x y=true↔¬ y.cps.toList<x.cps.toList:=by
 unfold leS
 rw [ltCps_eq]
 simp
theorem W4(x y z:Str)(h1:leS x y=true)(h2:leS y z=true):leS x z=true:=by
 rw [leS_iff] at *
 have a:x.cps.toList<=y.cps.toList:=by simpa using h1
 have b:y.cps.toList<=z.cps.toList:=by simpa using h2
 simpa using List.le_trans a b
theorem Aej(x y:Str):(leS x y||leS y x)=true:=by
 rcases List.le_total x.cps.toList y.cps.toList with h | h
 ·have q:leS x y=true:=leS_iff.mpr (by simpa using h)
  rw [q]; rfl
 ·have q:leS y x=true:=leS_iff.mpr (by simpa using h)
  rw [q]; simp
theorem Pr{x y:Str}(h:x.cps.toList=y.cps.toList):x=y:=by
 cases x; cases y
 simp at h
 simp [h]
theorem Aek(x y:Str)(h1:leS x y=true)(h2:leS y x=true):x=y:=by
 rw [leS_iff] at *
 exact Pr (List.le_antisymm (by simpa using h1) (by simpa using h2))
def srt(xs:List Str):List Str:=xs.mergeSort leS
theorem Pt(xs:List Str):(srt xs).Perm xs:=List.mergeSort_perm xs leS
theorem W5(xs:List Str):(srt xs).Pairwise fun x y=>leS x y=true:=List.pairwise_mergeSort W4 Aej xs
theorem W6:∀ (xs:List Str) (p:Str),risingS p xs=true->(p::xs).Pairwise fun x y=>leS x y=true
 | [],p,_=>by simp
 | x::r,p,h=>by
  obtain ⟨h1,h2⟩:=Bool.and_eq_true_iff.mp (show (!ltCps x.cps.toList p.cps.toList&&risingS x r)=true from h)
  have ih:=W6 r x h2
  refine List.pairwise_cons.mpr ⟨fun y hy=>?_,ih⟩
  rcases List.mem_cons.mp hy with z | z
  ·rw [z]; exact h1
  ·exact W4 p x y h1 ((List.pairwise_cons.mp ih).1 y z)
theorem Ael{xs:List Str}(h:sortedS xs=true):xs.Pairwise fun x y=>leS x y=true:=by
 cases xs with
 | nil=>exact List.Pairwise.nil
 | cons x r=>exact W6 r x h
theorem W7{xs ys:List Str}(p:ys.Perm xs)(h:ys.Pairwise fun x y=>leS x y=true):ys=srt xs :=
 List.Perm.eq_of_pairwise (fun x y _ _ h1 h2=>Aek x y h1 h2) h (W5 xs) (p.trans (Pt xs).symm)
theorem Aem{xs ys:List Str}(p:xs.Perm ys):srt xs=srt ys:=W7 ((Pt xs).trans p) (W5 xs)
theorem Aen{xs:List Str}{x:Str}:x∈srt xs↔x∈xs:=(Pt xs).mem_iff
theorem W8(xs:List Str):(srt xs).length=xs.length:=(Pt xs).length_eq
theorem once_mem:∀ {xs:List Str} {k:Str},k∈once xs↔k∈xs
 | [],_=>Iff.rfl
 | x::r,k=>by
  unfold once
  by_cases c:x∈r
  ·rw [if_pos c,once_mem,List.mem_cons]
   exact ⟨.inr,fun z=>z.elim (fun e=>e ▸ c) id⟩
  ·rw [if_neg c,List.mem_cons,List.mem_cons,once_mem]
theorem Sw:∀ xs:List Str,(once xs).Nodup
 | []=>List.nodup_nil
 | x::r=>by
  unfold once
  by_cases c:x∈r
  ·rw [if_pos c]; exact Sw r
  ·rw [if_neg c]
   exact List.nodup_cons.mpr ⟨fun z=>c (once_mem.mp z),Sw r⟩
def ups(xs:List Str):List Str:=srt (once xs)
theorem Aeo{xs ys:List Str}(h1:xs.Nodup)(h2:ys.Nodup)(h:∀ k,k∈xs↔k∈ys):xs.Perm ys:=(List.perm_ext_iff_of_nodup h1 h2).mpr h
theorem Aep{L xs:List Str}(hL:L.Nodup)(h:∀ k,k∈L↔k∈xs):srt L=ups xs :=
 Aem (Aeo hL (Sw xs) fun k=>by rw [h k,once_mem])
section
variable{X:Cx}
theorem Aeq{pins:List (Addr×Obj)}{σ:L2.St}{H:Hp}{s:Shared}{a:Addr}{L:List Str}(I:Inv X pins σ H s)(ha:H a=some (I6 X.w a L)):TxSet X.w s.heap a L:=(I.hok a _ ha).1
def W9(w:World):List V->Hp->VK->Prop:=fun xs H Q=>∃ a L,xs=[V.ref a]/\H a=some (I6 w a L)/\Q (.int (L.length:Nat)) H
theorem cr_lenSet:CallR X (.builtin "len") (W9 X.w):=by
 intro pins s σ H xs us Q I r h
 obtain ⟨a,L,rfl,ha,q⟩:=h
 rw [Vals.ref1 r]
 obtain ⟨o,es,ep,t,ho,hex,hd,g,eL,nd,hb,hf,hr,hl⟩:=Aeq I ha
 have e:L.length=es.size:=by rw [← eL]; simp
 refine call_len_set ho hex hd hf ?_ ⟨.int _,H,I.tok _,⟨_,rfl⟩,?_⟩
 ·rw [← e]
  have:L.length<4096:=hb
  omega
 ·rw [← e]; exact q
end
theorem pe_gs{X:Cx}{x z:Str}{t:Tok}{pos:Pos}(hm:X.mg x=some (.str z t))(hg:Gl X x:=by rfl)(hdb:(x==("__debug__" : Str))=false:=by decide):PE X (.Name x pos) (tC (.str z)):=pe_glob hg hm ⟨t,rfl⟩ hdb
theorem pe_gi{X:Cx}{x:Str}{i:Int}{t:Tok}{pos:Pos}(hm:X.mg x=some (.int i t))(hg:Gl X x:=by rfl)(hdb:(x==("__debug__" : Str))=false:=by decide):PE X (.Name x pos) (tC (.int i)):=pe_glob hg hm ⟨t,rfl⟩ hdb
section
variable{X:Cx}(K:PySem.W.Frag)(w:World)
theorem eqD(hu:X.A.units+64<cLine)(h:X.K=K:=by rfl):OpR X (compareOp .Eq) (rEqD K):=h ▸ op_eqD hu
def rLenC(K:PySem.W.Frag):List V->Hp->VK->Prop:=fun xs H Q=>∃ x n,xs=[x]/\LenV K x H n/\Q (.int n) H
def rJoin(K:PySem.W.Frag):V->List V->Hp->VK->Prop:=fun x xs H Q=>∃ a p,∃ ys:List Str,x=.str a/\xs=[.ref p]/\(SqL K H p (ys.map V.str)\/SqT K H p (ys.map V.str)) /\
 (ys.map (·.length)).sum+ys.length*a.length<=16777216/\Q (.str (Txt.join a ys)) H
theorem Aer{T:String}{name:Str}{id:String}{r:V->List V->Hp->VK->Prop}{o e:Expr}{es:List Expr}{to:TE}{t:TA}{apos cpos:Pos}(pa:PlainAttrs T)(slot:Slot T name id)(hty:typeOf (.builtin id)=pure (.type "method_descriptor"))(hm:MtR X id r)(ho:PE X o to)(ha:PA X (e::es) t)(h:X.K=K:=by rfl)
  (hbase:attributeBase o name X.env (eval o X.env)=eval o X.env:=by rfl)
  (hfew:((backTo cpos (starEach (e::es) X.env)).all (fun x=>!x.1)&&(backToKw cpos (keywordEach [] X.env)).all (fun x=>x.1.isSome)
   && decide ((e::es).length+([]:List Keyword).length+(if ([]:List Keyword).isEmpty then 0 else 1)<30))=true:=by rfl)
  (hline:(apos.endLine==cpos.line)=true:=by rfl)(hs:starEach (e::es) X.env=(false,eval e X.env)::starEach es X.env:=by rfl)(hplain:(backTo cpos (starEach es X.env)).any (·.1)=false:=by rfl) :
  PE X (.Call (.Attribute o name apos) (e::es) [] cpos) (tBM K T r to t):=h ▸ pe_bm pa slot hty hm ho ha hbase hfew hline hs hplain
end
def K4(x:Str)(n:Nat):Str:=⟨(List.replicate n x.cps.toList).flatten.toArray⟩
theorem Xa(x:Array Nat):∀ (n:Nat) (acc:Array Nat),((List.replicate n x).foldl (·++ ·) acc).toList=acc.toList++(List.replicate n x.toList).flatten
 | 0,acc=>by simp
 | n+1,acc=>by
  rw [List.replicate_succ,List.foldl_cons,Xa x n]
  simp [List.replicate_succ]
theorem Aes(x:Str)(k:Int)(hk:0<=k):Txt.mul x k=K4 x k.toNat:=by
 unfold Txt.mul
 apply Pr
 by_cases h1:k<1
 ·have e:k=0:=by omega
  subst e
  rw [if_pos h1]
  simp [K4,Str.empty]
 ·rw [if_neg h1]
  by_cases h2:(k==1||x.length==0)=true
  ·rw [if_pos h2]
   rcases Bool.or_eq_true_iff.mp h2 with h | h
   ·have e:k=1:=by simpa using h
    subst e
    simp [K4]
   ·have e:x.cps = #[]:=by
     have q:x.length=0:=by simpa using h
     simpa [Str.length] using q
    simp [K4,e]
  ·rw [if_neg h2]
   show ((List.replicate k.toNat x.cps).foldl (·++ ·) #[]).toList=_
   rw [Xa]
   simp [K4]
theorem op_mul_str{X:Cx}:OpR X (binaryOp .Mult) (fun x y H Q=>∃ z k,x=.str z/\y=.int k/\0<=k/\k<=100000/\z.length<=100/\Q (.str (K4 z k.toNat)) H):=by
 intro pins s σ H x y v u Q I rx ry h
 obtain ⟨z,k,rfl,rfl,h0,h1,h2,q⟩:=h
 obtain ⟨t,rfl⟩:=rx
 obtain ⟨t2,rfl⟩:=ry
 refine SB.mul ⟨?_,?_,?_⟩ fun t' tk=>⟨.str _,H,I.tok _,⟨_,rfl⟩,?_⟩
 ·have a:¬ k < -(2 ^ 63:Int):=by omega
  have b:¬ k >= 2 ^ 63:=by omega
  rw [decide_eq_false a,decide_eq_false b]
  rfl
 ·intro a b
  have hk:1<=k:=by omega
  have:(z.length:Int)<=100:=by omega
  have h3:100<=(2 ^ 63-1) / k:=by
   refine (Int.le_ediv_iff_mul_le (by omega)).mpr ?_
   omega
  omega
 ·intro a b
  have:z.length*k.toNat<=100*100000:=Nat.mul_le_mul h2 (by omega)
  have e:=sizeLine_eq
  unfold Builtin.Str.tooLong
  simp
  omega
 ·rw [Aes z k h0]; exact q
theorem _root_.L2.Same.mut{H H1:Hp}{p:Addr}{o:HO}(x:Same H H1)(h:H p=none):Same H (L2.upd H1 p o):=fun b u e=>by
 rw [upd_ne (ne_of_none e h)]
 exact x b u e
theorem Kb.push{b:Addr}{H H1:Hp}{p:Addr}{o:HO}(x:Kb b H H1)(h:H1 p=none):Kb b H (L2.upd H1 p o):=fun a u n e=>by
 have e1:=x a u n e
 rw [upd_ne (ne_of_none e1 h)]
 exact e1
theorem _root_.L2.Same.push{H H1:Hp}{p:Addr}{o:HO}(x:Same H H1)(h:H1 p=none):Same H (L2.upd H1 p o):=fun a u e=>by
 have e1:=x a u e
 rw [upd_ne (ne_of_none e1 h)]
 exact e1
open SX in
theorem Xb(l:List Nat):((l.map fun c=>S [c]).map (·.length)).sum=l.length:=by
 induction l with
 | nil=>rfl
 | cons a r ih =>
  rw [List.map_cons,List.map_cons,List.sum_cons,ih]
  show 1+r.length=r.length+1
  omega
open SX
theorem _root_.L2.Same.kb{b:Addr}{H H':Hp}(x:Same H H'):Kb b H H':=fun a o _ h=>x a o h
end Fw
namespace Fw
open PySem PySem.Spec PyProof.Rows L2
def Pu(x:Str):It :=
 ⟨fun i _=>i<x.cps.size,fun i H v H'=>∃ T c,v=.ref T/\H T=none/\x.cps[i]? = some c/\H'=upd H T (.tup [.int (i:Nat),.str ⟨#[c]⟩]),fun i _=>x.cps.size<=i⟩
theorem Aet{P:Program}{w:World}{K:PySem.W.Frag}{elts:List Expr}{kk:Nat}{tpos:Pos}(x:Str)(t:Tok)(e it:Addr)(ty:String)(hty:ty = "str_ascii_iterator"\/ty = "str_iterator") :
  Turn P w K (.Tuple elts kk tpos) (Pu x) [e,it] e (fun i h=>i<=x.cps.size/\(∃ old,IsEnum h e it ((i:Nat):Int) old)/\h.IsStrIter it ty x t i/\e≠it) where
 mem:=by simp
 obj:=fun i h st b hb=>by
  obtain ⟨_,⟨old,he⟩,⟨o,ho,hc,hd⟩,_⟩:=st
  have e':b=e\/b=it:=by simpa using hb
  rcases e' with z | z
  ·rw [z]; exact ⟨_,he,fun v q=>nomatch q⟩
  ·rw [z]; exact ⟨o,ho,fun v q=>by rw [hd] at q; cases q⟩
 keep:=fun i h h' st k=>let ⟨hl,⟨old,he⟩,⟨o,ho,r⟩,hne⟩:=st; ⟨hl,⟨old,k e (by simp) _ he⟩,⟨o,k it (by simp) o ho,r⟩,hne⟩
 item:=by
  intro X hP hw hK hc i pins s σ H E I hf st hg
  subst hP hw hK
  obtain ⟨hl,⟨old,he⟩,hit,hne⟩:=st
  have hel:e<s.heap.objs.size:=Heap.lt_size he
  have hil:it<s.heap.objs.size:=by obtain ⟨_,q,_⟩:=hit; exact Heap.lt_size q
  have D:Draws X.prog X.w X.A.in1 it [it] x.cps.size (fun i v=>∃ c u,x.cps[i]? = some c/\v=.str ⟨#[c]⟩ u) (fun i h=>h.IsStrIter it ty x t i):=by
   rcases hty with z | z
   ·rw [z]; exact Draws.strAscii (A:=X.A.in1) (I.ok.hd hc) it x t
   ·rw [z]; exact Draws.strWide (A:=X.A.in1) (I.ok.hd hc) it x t
  refine wpAny_pyNext_enum_itemD D he hit hg hne (by simpa using hne) fun v h' tk hv ho hit' hT hsz hk=>?_
  obtain ⟨c,u,hcx,rfl⟩:=hv
  refine ⟨_,rfl,wpAny_letOwnedTupleGo_enum (s:={ s with heap:=h',toks:=tk+1 }) ho fun h'' he' sb=>?_⟩
  have hT2:h''.get? s.heap.objs.size=some { cls:=.type "tuple",data:=.seq #[.int i tk,.str ⟨#[c]⟩ u] }:=(sb.2 _ (Nat.ne_of_gt hel)).trans hT
  have new:ObjOk X.prog X.w (upd H s.heap.objs.size (.tup [.int (i:Nat),.str ⟨#[c]⟩])) h'' s.heap.objs.size (.tup [.int (i:Nat),.str ⟨#[c]⟩]) :=
   ⟨by show 2<=sizeLine; decide,[.int i tk,.str ⟨#[c]⟩ u],.cons ⟨_,rfl⟩ (.cons ⟨u,rfl⟩ .nil),⟨_,hT2,rfl,_,rfl⟩⟩
  have I1:Inv X pins σ (upd H s.heap.objs.size (.tup [.int (i:Nat),.str ⟨#[c]⟩])) { s with heap:=h'',toks:=tk+1 } :=
   I.turnedNew (ch:=[e,it]) (fun b ob hb q=>(sb.2 b (fun z=>hb (by simp [z]))).trans (hk b ob (fun z=>hb (by simp [z])) (fun z=>hb (by simp [z])) q)) hf (Nat.le_refl _) new
  refine ⟨.ref s.heap.objs.size,_,I1,rfl,⟨_,c,rfl,I.hok.fresh (Nat.le_refl _),hcx,rfl⟩,⟨hg,⟨.str ⟨#[c]⟩ u,?_⟩,?_,hne⟩,fun b hb=>?_⟩
  ·have e1:((i+1:Nat):Int)=(i:Int)+1:=by omega
   rw [e1]; exact he'
  ·obtain ⟨o,q,r⟩:=hit'
   exact ⟨o,(sb.2 it (Ne.symm hne)).trans q,r⟩
  ·have hb':b<s.heap.objs.size:=by
    have e':b=e\/b=it:=by simpa using hb
    rcases e' with z | z
    ·rw [z]; exact hel
    ·rw [z]; exact hil
   rw [upd_ne (Nat.ne_of_lt hb')]
   exact (hf b hb).1
 done:=by
  intro X hP hw hK hc i pins s σ H E I hf st hg
  subst hP hw hK
  obtain ⟨hl,⟨old,he⟩,hit,hne⟩:=st
  have D:Draws X.prog X.w X.A.in1 it [it] x.cps.size (fun i v=>∃ c u,x.cps[i]? = some c/\v=.str ⟨#[c]⟩ u) (fun i h=>h.IsStrIter it ty x t i):=by
   rcases hty with z | z
   ·rw [z]; exact Draws.strAscii (A:=X.A.in1) (I.ok.hd hc) it x t
   ·rw [z]; exact Draws.strWide (A:=X.A.in1) (I.ok.hd hc) it x t
  obtain ⟨f0,f1,f2,f3,f4,f5⟩:=hf it (by simp)
  have ei:i=x.cps.size:=Nat.le_antisymm hl hg
  rw [ei] at hit
  exact wpAny_pyNext_enum_endD D he hit fun h' eb=>⟨rfl,I.turned (t':=s.toks) (fun b o hb q=>eb b o hb q) f0 f1 f3 f4 f5⟩
 self:=fun A i s Q E st h=>let ⟨_,⟨_,he⟩,_⟩:=st; wpAny_pyIter_enum he h
def Aeu(ta:TA):TI:=fun σ H R=>ta σ H fun vs H1=>∃ x,vs=[.str x]/\R (Pu x) H1
theorem enumS{X:Cx}{e:Expr}{ta:TA}{p pos tpos:Pos}{elts:List Expr}{kk:Nat}(hm:X.mg "enumerate" = none)(ha:PA X [e] ta)(hg:Gl X "enumerate":=by rfl)(hs:starEach [e] X.env=[(false,eval e X.env)]:=by rfl) :
  PI X (.Tuple elts kk tpos) (.Call (.Name "enumerate" p) [e] [] pos) (Aeu ta):=by
 refine ⟨fun pins s σ H R I h=>?_⟩
 refine Call_ (ld_blt I hg hm boot_enumerate (PyProof.Rows.callWith_type1 (thn (ha.run pos pins s σ H _ I h) fun us s1 ⟨vs,H1,I1,r1,q1⟩=>?_) hs rfl))
 obtain ⟨x,ex,q⟩:=q1
 subst ex
 cases r1 with
 | cons r rr =>
  cases rr
  obtain ⟨t,rfl⟩:=r
  refine call_enumerate_str fun h' he hit hsz hk=>wpAny_pyIter_enum he ?_
  have I2:Inv X pins σ H1 { s1 with heap:=h' }:=I1.kept (t':=s1.toks) hk
  have hty:strIterType x = "str_ascii_iterator"\/strIterType x = "str_iterator":=by
   unfold strIterType
   split
   ·exact .inl rfl
   ·exact .inr rfl
  refine ⟨s1.heap.objs.size+1,[s1.heap.objs.size+1,s1.heap.objs.size],_,_,H1,rfl,I2,Aet x t (s1.heap.objs.size+1) s1.heap.objs.size _ hty,⟨Nat.zero_le _,⟨.none,he⟩,hit,Nat.succ_ne_self _⟩,fun b hb=>?_,q⟩
  have e':b=s1.heap.objs.size+1\/b=s1.heap.objs.size:=by simpa using hb
  have hle:s1.heap.objs.size<=b:=by
   rcases e' with z | z
   ·rw [z]; exact Nat.le_add_right _ _
   ·rw [z]; exact Nat.le_refl _
  exact I1.fpOk hle (I1.hok.fresh hle)
theorem Sx{z:Str}:Walk (Pu z) z.cps.size (fun _=>True) (fun i H v H'=>∃ T c,v=.ref T/\H T=none/\z.cps[i]? = some c/\H'=upd H T (.tup [.int (i:Nat),.str ⟨#[c]⟩])) :=
 ⟨fun _ _ hi _=>hi,fun _ _=>Nat.le_refl _,fun _ _ _ _ _ _ y=>y⟩
section
variable{X:Cx}(K:PySem.W.Frag)
theorem fldK{e:Expr}{ta:TE}{f:Str}{pos:Pos}(he:PE X e ta)(hb:attributeBase e f X.env (eval e X.env)=eval e X.env:=by rfl)(h:X.K=K:=by rfl):PE X (.Attribute e f pos) (tFld K ta f):=h ▸ pe_fld he hb
theorem Sy{o value:Expr}{ta tv:TE}{f:Str}{pos pos':Pos}(ha:PE X o ta)(hv:PE X value tv)(hs:swapsWith value (some (.Attribute o f pos')) pos.line X.env=pure false:=by rfl)(h:X.K=K:=by rfl) :
  PS X (.Assign [.Attribute o f pos'] value pos) (sFld K ta tv f):=h ▸ ps_fld ha hv hs
end
open SX in
theorem S_app(a b:List Nat):S a++S b=S (a++b):=by
 apply Pr
 show (a.toArray++b.toArray).toList=a++b
 simp
theorem pe_gr{X:Cx}{x:Str}{a:Addr}{pos:Pos}(hm:X.mg x=some (.ref a))(hg:Gl X x:=by rfl)(hdb:(x==("__debug__" : Str))=false:=by decide):PE X (.Name x pos) (tC (.ref a)):=pe_glob (v:=.ref a) hg hm rfl hdb
open SX in
theorem Xc:∀ xs:List (List Nat),TL.joinL [] xs=xs.flatten
 | []=>rfl
 | [x]=>by
  show x=_
  simp
 | x::y::r=>by
  show x++([]++TL.joinL [] (y::r))=_
  rw [Xc (y::r)]
  simp
section
open He
theorem Aev{x:Str}{K:PySem.W.Frag}(h:Sn x K=true):ClX.CRead K (ga K x) (.type "type"):=by
 refine ⟨h,?_⟩
 have h:PySem.W.readsIn K (ga K x) (.type "type")=true:=h
 unfold PySem.W.readsIn at h
 obtain ⟨h,_⟩:=ba h
 obtain ⟨h,_⟩:=ba h
 obtain ⟨h,h3⟩:=ba h
 obtain ⟨_,h2⟩:=ba h
 unfold PySem.W.specialIn
 rw [beq_iff_eq.mp h2,Option.bind_some]
 exact beq_iff_eq.mp h3
theorem Aew{x f:Str}{i:Int}{K:PySem.W.Frag}(h:Pk x f i K=true):∃ u,ClX.CVal K (ga K x) (.type "type") f (.int i) u:=by
 unfold Pk at h
 split at h
 ·rename_i j t e
  rw [of_decide_eq_true h] at e
  exact ⟨_,e,⟨t,rfl⟩⟩
 ·cases h
end
end Fw
namespace Vs
open PySem PySem.Spec PyProof.Rows L2 Fw SX
theorem Pln.nc{o:HO}(h:Pln o)(c:Addr)(q:Str):o≠LamX.CodeO c q:=fun z=>by subst z; exact h
theorem Xd{T:List (Addr×Str)}{G H:Hp}{p:Addr}{o:HO}(t:Tabs2 T G H)(h:∀ o,H p=some o->Pln o):Tabs2 T G (upd H p o):=t.kept fun a ps e=>by
 rw [upd_ne (fun z=>by rw [z] at e; exact (h _ e).nt ps rfl)]
 exact e
section
variable{g:Gm}{G H G1 H1 G2 H2:Hp}{σ σ1 σ2:L2.St}{e e1 e2:Ve}
theorem Bs.put(b:Bs G H){p:Addr}{o:HO}(h:G p=none):Bs G (upd H p o):=⟨b.pl,fun a u e=>by
 rw [upd_ne (ne_of_none e h)]
 exact b.sub a u e⟩
theorem SlOk.grow(w:Grow G H G1 H1){s:Option Sl}{o:Option (Option V)}(h:SlOk g G H s o):SlOk g G1 H1 s o:=by
 match s,h with
 | some (.sh d),⟨v,e,r⟩=>exact ⟨v,e,r.mono w.le⟩
 | some (.bf d),⟨v,e,r⟩=>exact ⟨v,e,r.mono w.le⟩
 | some (.ow d),⟨p,e,n,r⟩ =>
  obtain ⟨o,ho,_⟩:=r.there
  exact ⟨p,e,w.new p n (by rw [ho]; exact fun z=>nomatch z),r.mono w.le (by rw [w.keep _ _ ho,ho])⟩
 | some (.bo d),⟨p,e,n,r⟩ =>
  obtain ⟨o,ho,_⟩:=r.there
  exact ⟨p,e,w.new p n (by rw [ho]; exact fun z=>nomatch z),r.mono w.le (by rw [w.keep _ _ ho,ho])⟩
 | some (.lo d),⟨p,e,n,r⟩ =>
  obtain ⟨ob,u,ho,_⟩:=r.there
  exact ⟨p,e,w.new p n (by rw [ho]; exact fun z=>nomatch z),r.mono w.le (by rw [w.keep _ _ ho,ho])⟩
 | some .un,_=>trivial
 | none,_=>trivial
theorem SR.grow(s:SR g G H σ e)(w:Grow G H G1 H1):SR g G1 H1 σ e:=⟨w.bs,(s.tabs.mono w.le fun a ps e n=>w.new a n (by rw [e]; simp)).kept fun a ps e=>w.keep a _ e,(s.scr.mono w.le).keep fun _ _ h=>w.keep _ _ h,s.len,fun i=>(s.slot i).grow w,s.inj⟩
theorem Grow.tr(w:Grow G H G1 H1)(s:SR g G H σ e):Tr g σ G H e G1 H1 e:=⟨s.grow w,w.le,fun a o h _ _=>w.keep a o h,w.dom,fun a h1 h2 _=>w.new a h1 h2,VeLe.refl e⟩
end
theorem Xe{s s':Sl}(h:SlLe s s')(n:s≠.un):s'≠.un:=by
 cases s with
 | un=>exact absurd rfl n
 | sh d=>cases h; exact n
 | bf d=>cases h; exact n
 | lo d=>cases h; exact n
 | ow d =>
  obtain ⟨d',rfl | rfl⟩:=h
  ·exact fun z=>nomatch z
  ·exact fun z=>nomatch z
 | bo d =>
  obtain ⟨d',rfl | rfl⟩:=h
  ·exact fun z=>nomatch z
  ·exact fun z=>nomatch z
theorem RvOk.tr{g:Gm}{G H G1 H1 H0:Hp}{σ:L2.St}{e e1:Ve}(t:Tr g σ G H e G1 H1 e1):∀ {r:Rv} {v:V},RvOk g G H σ e H0 r v->RvOk g G1 H1 σ e1 H0 r v
 | .val d,_,h=>Rep.mono t.le h
 | .slot i,_,⟨h,s,hs,n⟩=>by
  obtain ⟨s',h',l⟩:=t.ve.at_ i s hs
  exact ⟨h,s',h',Xe l n⟩
 | .fresh d,_,⟨p,ev,n,o,h0,nr⟩=>by
  obtain ⟨ob,ho,pl,_⟩:=o.there
  exact ⟨p,ev,t.new p n (by rw [ho]; exact fun z=>nomatch z) nr,o.mono t.le (by rw [t.keep _ _ ho nr pl.nt,ho]),h0,fun i r=>nr i (t.ve.rt r)⟩
def TV(g:Gm)(W:WX)(F:M Rv):TE:=fun σ H Q=>∃ G e,SR g G H σ e/\Pst g W σ G H e (fun r G' H' e'=>∀ v,RvOk g G' H' σ e' H r v->Q v H') (F e)
def TVT(g:Gm)(W:WX)(F:M Bool):TT:=fun σ H Q=>∃ G e,SR g G H σ e/\Pst g W σ G H e (fun b G' H' e'=>Q b H') (F e)
def TVA(g:Gm)(W:WX)(F:M (List Rv)):TA:=fun σ H Q=>∃ G e,SR g G H σ e/\Pst g W σ G H e (fun rs G' H' e'=>∀ vs,RvsOk g G' H' σ e' H rs vs->Q vs H') (F e)
def PstS(g:Gm)(W:WX)(D:Ends)(σ:L2.St)(G H:Hp)(e:Ve):Res Ctl->Prop
 | .ok .nx e'=>∀ σ' G' H',St g G H σ e G' H' σ' e'->D.nx σ' H'
 | .ok (.rt r) e'=>∀ v σ' G' H',St g G H σ e G' H' σ' e'->RvOk g G' H' σ' e' H r v->D.rt v H'
 | .ok .bk e'=>∀ σ' G' H',St g G H σ e G' H' σ' e'->D.bk σ' H'
 | .ok .ct e'=>∀ σ' G' H',St g G H σ e G' H' σ' e'->D.ct σ' H'
 | .er x e'=>∀ cls d σ' G' H',St g G H σ e G' H' σ' e'->XOk g G' x cls d->W cls d σ' H'
 | .no=>False
def TVS(g:Gm)(W:WX)(F:M Ctl):TS:=fun D σ H=>∃ G e,SR g G H σ e/\PstS g W D σ G H e (F e)
theorem Rm.deeper{k:Nat}{A:Around}(r:Rm (k+1) A)(env:PySem.Env):Rm k (A.deeper env):=⟨r.toRoom.deeper env,r.gd⟩
structure VE(g:Gm)(W:WX)(k:Nat)(X:Cx)(e:Expr)(F:M Rv):Prop where
 run:Cd g W k X->PE X e (TV g W F)
structure VT(g:Gm)(W:WX)(k:Nat)(X:Cx)(e:Expr)(F:M Bool):Prop where
 run:Cd g W k X->PT X e (TVT g W F)
structure VA(g:Gm)(W:WX)(k:Nat)(X:Cx)(es:List Expr)(F:M (List Rv)):Prop where
 run:Cd g W k X->PA X es (TVA g W F)
structure VS(g:Gm)(W:WX)(k:Nat)(X:Cx)(st:Stmt)(F:M Ctl):Prop where
 run:Cd g W k X->PS X st (TVS g W F)
structure VSs(g:Gm)(W:WX)(k:Nat)(X:Cx)(st:List Stmt)(F:M Ctl):Prop where
 run:Cd g W k X->PSs X st (TVS g W F)
def Ab(i:Nat):M Rv:=fun e=>match e[i]? with
 | some (.sh d)=>.ok (.val d) e
 | some (.bf d)=>.ok (.val d) e
 | some (.ow _)=>.ok (.slot i) e
 | some (.bo _)=>.ok (.slot i) e
 | some (.lo _)=>.ok (.slot i) e
 | _=>.no
def fC(d:D):M Rv:=fun e=>.ok (.val d) e
section
variable{g:Gm}{W:WX}{k:Nat}{X:Cx}
theorem Xf{e:Expr}{F:M Rv}{t:TE}(h:Cd g W k X->PE X e t)(q:∀ σ H Q,TV g W F σ H Q->t σ H Q):VE g W k X e F:=⟨fun c=>PE.imp (h c) q⟩
theorem Ac{i:Nat}{x:Str}{pos:Pos}(hN:X.N[i]? = some x)(hv:Vis X.env.scope x)(hd:(x==("__debug__" : Str))=false:=by decide)(hcd:(x==("__classdict__" : Str))=false:=by decide):VE g W k X (.Name x pos) (Ab i):=by
 refine Xf (fun _=>pe_var hN hv hd hcd) fun σ H Q ⟨G,e,sr,h⟩=>?_
 have sl:=sr.slot i
 unfold Ab at h
 cases q:e[i]? with
 | none=>rw [q] at h; exact h.elim
 | some s =>
  rw [q] at h sl
  cases s with
  | un=>exact h.elim
  | sh d =>
   obtain ⟨v,ev,r⟩:=sl
   exact ⟨v,ev,h G H (Tr.refl sr) v r⟩
  | bf d =>
   obtain ⟨v,ev,r⟩:=sl
   exact ⟨v,ev,h G H (Tr.refl sr) v r⟩
  | ow d =>
   obtain ⟨p,ev,_⟩:=sl
   exact ⟨_,ev,h G H (Tr.refl sr) _ ⟨ev,_,q,fun z=>nomatch z⟩⟩
  | bo d =>
   obtain ⟨p,ev,_⟩:=sl
   exact ⟨_,ev,h G H (Tr.refl sr) _ ⟨ev,_,q,fun z=>nomatch z⟩⟩
  | lo d =>
   obtain ⟨p,ev,_⟩:=sl
   exact ⟨_,ev,h G H (Tr.refl sr) _ ⟨ev,_,q,fun z=>nomatch z⟩⟩
theorem K5{e:Expr}{v:V}{d:D}(h:PE X e (tC v))(r:∀ G,Rep g G d v):VE g W k X e (fC d) :=
 Xf (fun _=>h) fun σ H Q ⟨G,e,sr,h⟩=>h G H (Tr.refl sr) v (r G)
theorem Au{i:Int}{j pos}:VE g W k X (.Constant (.int i) j pos) (fC (.int i)):=K5 pe_int fun _=>rfl
theorem Bu{b:Bool}{j pos}:VE g W k X (.Constant (.bool b) j pos) (fC (.bl b)):=K5 pe_bl fun _=>rfl
theorem Xg{j pos}:VE g W k X (.Constant .none j pos) (fC .non):=K5 pe_non fun _=>rfl
theorem Cp{x:Str}{l:List Nat}{j pos}(h:x=S l:=by decide +kernel)(h2:l.all (·< 1114112)=true:=by decide +kernel):VE g W k X (.Constant (.str x) j pos) (fC (.str l)):=K5 pe_str fun _=>by rw [h]; exact ⟨rfl,fun c hc=>of_decide_eq_true (List.all_eq_true.mp h2 c hc)⟩
theorem Xh{x z:Str}{l:List Nat}{t:Tok}{pos:Pos}(hm:X.mg x=some (.str z t))(h:z=S l:=by rfl)(h2:l.all (·< 1114112)=true:=by decide +kernel)(hg:Gl X x:=by rfl)(hdb:(x==("__debug__" : Str))=false:=by decide):VE g W k X (.Name x pos) (fC (.str l)):=K5 (pe_gs hm hg hdb) fun _=>by rw [h]; exact ⟨rfl,fun c hc=>of_decide_eq_true (List.all_eq_true.mp h2 c hc)⟩
theorem Xi{x:Str}{i:Int}{t:Tok}{pos:Pos}(hm:X.mg x=some (.int i t))(hg:Gl X x:=by rfl)(hdb:(x==("__debug__" : Str))=false:=by decide):VE g W k X (.Name x pos) (fC (.int i)):=K5 (pe_gi hm hg hdb) fun _=>rfl
theorem Hl{x:Str}{T:String}{pos:Pos}(hm:X.mg x=none)(hv:bootBuiltins x=some (.type T))(hg:Gl X x:=by rfl)(hn:x≠"__name__":=by decide)(hdb:(x==("__debug__" : Str))=false:=by decide):VE g W k X (.Name x pos) (fC (.con (.ty T))) :=
 K5 (pe_bltn (v:=.ty T) hg hm hv rfl hn hdb) fun _=>rfl
end
def Ad(F:M Rv):M Rv:=F.bind fun r=>(Bz r).map Rv.val
def Ag(r:Rv)(e:Ve):Option D:=match r with
 | .val d=>some d
 | .fresh d=>some d
 | .slot i=>match e[i]? with
  | some (.sh d)=>some d
  | some (.bf d)=>some d
  | some (.ow d)=>some d
  | some (.bo d)=>some d
  | some (.lo (.dct k))=>some (.dct k)
  | _=>none
section
variable{g:Gm}{W:WX}{k:Nat}{X:Cx}{G H G1 H1 H0:Hp}{σ:L2.St}{e e1 e2:Ve}{r:Rv}{v:V}{d:D}
theorem Cv(sr:SR g G H σ e)(ok:RvOk g G H σ e H0 r v)(h:Ag r e=some d):RepH g G H d v:=by
 cases r with
 | val d'=>cases h; exact .inl ok
 | fresh d' =>
  cases h
  obtain ⟨p,ev,n,o,_⟩:=ok
  exact .inr ⟨p,ev,n,o.r⟩
 | slot i =>
  obtain ⟨ev,s,es,ns⟩:=ok
  have sl:=sr.slot i
  unfold Ag at h
  simp only at h
  rw [es] at h sl
  cases s with
  | un=>cases h
  | sh d' =>
   cases h
   obtain ⟨v',ev',r'⟩:=sl
   rw [ev'] at ev; cases ev
   exact .inl r'
  | bf d' =>
   cases h
   obtain ⟨v',ev',r'⟩:=sl
   rw [ev'] at ev; cases ev
   exact .inl r'
  | ow d' =>
   cases h
   obtain ⟨p,ev',n,r'⟩:=sl
   rw [ev'] at ev; cases ev
   exact .inr ⟨p,rfl,n,r'.r⟩
  | bo d' =>
   cases h
   obtain ⟨p,ev',n,r'⟩:=sl
   rw [ev'] at ev; cases ev
   exact .inr ⟨p,rfl,n,r'.r⟩
  | lo d' =>
   cases d' <;> try cases h
   obtain ⟨p,ev',n,r'⟩:=sl
   rw [ev'] at ev; cases ev
   obtain ⟨_,_,_,o⟩:=r'.there
   exact .inr ⟨p,rfl,n,o _ rfl⟩
theorem Sz{x:Exn}:Bz r e1≠.er x e2:=by
 unfold Bz
 split
 ·exact fun z=>nomatch z
 ·exact fun z=>nomatch z
 ·split <;> exact fun z=>nomatch z
theorem Xj{F:M Rv}{Q:VK}(h:TV g W (Ad F) σ H Q):TV g W F σ H Q:=by
 obtain ⟨G,e,sr,h⟩:=h
 refine ⟨G,e,sr,?_⟩
 unfold Ad M.bind at h
 revert h
 cases F e with
 | no=>exact fun h=>h
 | er x e'=>exact fun h=>h
 | ok r e1 =>
  intro h G1 H1 t1 v ok
  unfold M.map M.bind at h
  simp only at h
  cases q:Bz r e1 with
  | no=>rw [q] at h; exact h.elim
  | er x e'=>exact absurd q Sz
  | ok d e2 =>
   rw [q] at h
   obtain ⟨G2,t2,rp⟩:=Ni t1 ok q
   exact h G2 H1 t2 v rp
theorem Am{ex:Expr}{F:M Rv}(h:VE g W k X ex F):VE g W k X ex (Ad F):=⟨fun c=>PE.imp (h.run c) fun _ _ _ q=>Xj q⟩
end
theorem SR.scrL{g:Gm}{G H:Hp}{σ:L2.St}{e:Ve}(sr:SR g G H σ e):SqL g.K H g.sa (g.sn.map .int):=by
 rcases sr.scr with ⟨o,h⟩ | h | h
 ·exact .inl (.inr ⟨o,h⟩)
 ·exact h H
 ·exact .inl (.inl ((sr.bs.sub _ _ h).elim id fun z=>nomatch z.1))
def fOp(f:D->D->Option Rv)(A B:M Rv):M Rv:=A.bind fun a=>B.bind fun b=>fun e=>match Ag a e,Ag b e with
 | some x,some y=>(match f x y with | some r=>.ok r e | none=>.no)
 | _,_=>.no
section
variable{g:Gm}{W:WX}{k:Nat}{X:Cx}
theorem Gy{r:R2}{f:D->D->Option Rv}{A B:M Rv}{σ:L2.St}{H:Hp}{Q:VK}(hv:OpV g r f)(h:TV g W (fOp f A B) σ H Q):tOp r (TV g W A) (TV g W B) σ H Q:=by
 obtain ⟨G,e,sr,h⟩:=h
 refine ⟨G,e,sr,Pst.mono (Pst.bind h) fun a G1 H1 e1 t1 h1 v ok1=>⟨G1,e1,t1.sr,Pst.mono (Pst.bind h1) fun b G2 H2 e2 t2 h2 y ok2=>?_⟩⟩
 have ok1:=ok1.tr t2
 cases qa:Ag a e2 with
 | none=>simp only [qa] at h2; exact h2.elim
 | some da =>
  cases qb:Ag b e2 with
  | none=>simp only [qa,qb] at h2; exact h2.elim
  | some db =>
   cases qf:f da db with
   | none=>simp only [qa,qb,qf] at h2; exact h2.elim
   | some out =>
    simp only [qa,qb,qf] at h2
    refine hv G2 H2 da db v y out Q t2.sr.bs t2.sr.scrL (Cv t2.sr ok1 qa) (Cv t2.sr ok2 qb) qf fun z G3 H3 gr nw=>h2 G3 H3 (gr.tr t2.sr) z (nw.ok t2.sr fun p hp=>t1.dom p (t2.dom p hp))
theorem L6{op:Operator}{r:R2}{f:D->D->Option Rv}{a b:Expr}{A B:M Rv}{pos:Pos}(ho:Cd g W k X->OpR X (binaryOp op) r)(hv:OpV g r f)(ha:VE g W k X a A)(hb:VE g W k X b B):VE g W k X (.BinOp a op b pos) (fOp f A B) :=
 ⟨fun c=>PE.imp (pe_op (ho c) (ha.run c) (hb.run c)) fun _ _ _ q=>Gy hv q⟩
theorem Aex{op:CmpOp}{r:R2}{f:D->D->Option Rv}{a b:Expr}{A B:M Rv}{pos:Pos}(ho:Cd g W k X->OpR X (compareOp op) r)(hv:OpV g r f)(ha:VE g W k X a A)(hb:VE g W k X b B)(hm:behindInMarks op b=false):VE g W k X (.Compare a [op] [b] pos) (fOp f A B) :=
 ⟨fun c=>PE.imp (pe_cmpR (ho c) (ha.run c) (hb.run c) hm) fun _ _ _ q=>Gy hv q⟩
end
def Bh(F:M Rv):M Bool:=F.bind fun r e=>match r with
 | .val (.bl b)=>.ok b e
 | _=>.no
section
variable{g:Gm}{W:WX}{k:Nat}{X:Cx}
theorem Nv{F:M Rv}{σ:L2.St}{H:Hp}{Q:Bool->Hp->Prop}(h:TVT g W (Bh F) σ H Q):TV g W F σ H fun x H1=>∃ b,x=.bl b/\Q b H1:=by
 obtain ⟨G,e,sr,h⟩:=h
 refine ⟨G,e,sr,Pst.mono (Pst.bind h) fun a G1 H1 e1 t1 h1 v ok1=>?_⟩
 cases a with
 | val d =>
  cases d with
  | bl b=>exact ⟨b,ok1,h1 G1 H1 (Tr.refl t1.sr)⟩
  | _=>exact h1.elim
 | _=>exact h1.elim
theorem Aey{op:CmpOp}{r:R2}{f:D->D->Option Rv}{a b:Expr}{A B:M Rv}{pos:Pos}(ho:Cd g W k X->OpR X (compareOp op) r)(hv:OpV g r f)(ha:VE g W k X a A)(hb:VE g W k X b B)(hm:behindInMarks op b=false):VT g W k X (.Compare a [op] [b] pos) (Bh (fOp f A B)) :=
 ⟨fun c=>PT.imp (pt_cmpR (ho c) (ha.run c) (hb.run c) hm) fun σ H Q q=>by
  obtain ⟨G,e,sr,q⟩:=Nv q
  exact Gy hv ⟨G,e,sr,q⟩⟩
end
def Af:M (List Rv):=M.ret []
def Aa(A:M Rv)(B:M (List Rv)):M (List Rv):=A.bind fun a=>B.bind fun bs=>M.ret (a::bs)
section
variable{g:Gm}{W:WX}{k:Nat}{X:Cx}{G H G1 H1 H0 H00:Hp}{σ:L2.St}{e e1 e2:Ve}
theorem RvsOk.tr(t:Tr g σ G H e G1 H1 e1):∀ {rs:List Rv} {vs:List V},RvsOk g G H σ e H0 rs vs->RvsOk g G1 H1 σ e1 H0 rs vs
 | [],_,h=>h
 | _::_,_,⟨v,r,ev,a,b,c⟩=>⟨v,r,ev,a.tr t,RvsOk.tr t b,c⟩
theorem Aj:VA g W k X [] Af:=⟨fun _=>PA.imp pa_nil fun σ H Q ⟨G,e,sr,h⟩=>h G H (Tr.refl sr) [] rfl⟩
theorem Ae{ex:Expr}{es:List Expr}{A:M Rv}{B:M (List Rv)}(ha:VE g W k X ex A)(hb:VA g W k X es B)(hs:starEach (ex::es) X.env=(false,eval ex X.env)::starEach es X.env:=by rfl):VA g W k X (ex::es) (Aa A B):=by
 refine ⟨fun c=>PA.imp (pa_cons (ha.run c) (hb.run c) hs) fun σ H Q ⟨G,e,sr,h⟩=>?_⟩
 refine ⟨G,e,sr,Pst.mono (Pst.bind h) fun a G1 H1 e1 t1 h1 v ok1=>⟨G1,e1,t1.sr,Pst.mono (Pst.bind h1) fun bs G2 H2 e2 t2 h2 vs ok2=>?_⟩⟩
 refine h2 G2 H2 (Tr.refl t2.sr) (v::vs) ⟨v,vs,rfl,ok1.tr t2,ok2.h0 t1.dom,fun d p er ev d' u m z=>?_⟩
 obtain ⟨p',eu,hp'⟩:=ok2.new d' u m
 rw [z] at eu
 cases eu
 subst er
 obtain ⟨p1,ev1,_,o,_⟩:=ok1
 rw [ev] at ev1
 cases ev1
 obtain ⟨ob,ho,_⟩:=o.there
 rw [ho] at hp'
 cases hp'
end
def Bv:List Rv->Ve->Option (List D)
 | [],_=>some []
 | r::rs,e=>match Ag r e,Bv rs e with
  | some d,some ds=>some (d::ds)
  | _,_=>none
def Ar(f:List D->Option Rv)(A:M (List Rv)):M Rv:=A.bind fun rs e=>match Bv rs e with
 | some ds=>(match f ds with | some r=>.ok r e | none=>.no)
 | none=>.no
section
variable{g:Gm}{W:WX}{k:Nat}{X:Cx}{G H G1 H1 H0 H00:Hp}{σ:L2.St}{e e1 e2:Ve}
theorem S0(sr:SR g G H σ e):∀ {rs:List Rv} {vs:List V} {ds:List D},RvsOk g G H σ e H0 rs vs->Bv rs e=some ds->RepsH g G H ds vs
 | [],_,ds,h,q=>by cases q; exact h
 | r::rs,_,ds,⟨v,t,ev,a,b,_⟩,q=>by
  unfold Bv at q
  cases q1:Ag r e with
  | none=>rw [q1] at q; simp at q
  | some d =>
   cases q2:Bv rs e with
   | none=>rw [q1,q2] at q; simp at q
   | some ds' =>
    rw [q1,q2] at q
    cases q
    exact ⟨v,t,ev,Cv sr a q1,S0 sr b q2⟩
theorem Xk{r:List V->Hp->VK->Prop}{f:List D->Option Rv}{A:M (List Rv)}{Q:VK}(hv:CallV g r f)(h:TV g W (Ar f A) σ H Q):TVA g W A σ H fun vs H1=>r vs H1 Q:=by
 obtain ⟨G,e,sr,h⟩:=h
 refine ⟨G,e,sr,Pst.mono (Pst.bind h) fun rs G1 H1 e1 t1 h1 vs ok1=>?_⟩
 cases q:Bv rs e1 with
 | none=>simp only [q] at h1; exact h1.elim
 | some ds =>
  cases qf:f ds with
  | none=>simp only [q,qf] at h1; exact h1.elim
  | some out =>
   simp only [q,qf] at h1
   exact hv G1 H1 ds vs out Q t1.sr.bs t1.sr.scrL (S0 t1.sr ok1 q) qf fun z G3 H3 gr nw=>h1 G3 H3 (gr.tr t1.sr) z (nw.ok t1.sr t1.dom)
theorem Jd{id:String}{x:Str}{r:List V->Hp->VK->Prop}{f:List D->Option Rv}{ex:Expr}{es:List Expr}{A:M (List Rv)}{p pos:Pos}(hc:Cd g W k X->CallR X (.builtin id) r)(hv:CallV g r f)(hg:Gl X x)(hm:X.mg x=none)(hb:bootBuiltins x=some (.builtin id))(ha:VA g W k X (ex::es) A)
  (hn:x≠"__name__":=by decide)(hdb:(x==("__debug__" : Str))=false:=by decide)(he:starEach (ex::es) X.env=(false,eval ex X.env)::starEach es X.env:=by rfl)(hpl:(backTo pos (starEach es X.env)).any (·.1)=false:=by rfl):VE g W k X (.Call (.Name x p) (ex::es) [] pos) (Ar f A) :=
 ⟨fun c=>PE.imp (pe_callB (hc c) hg hm hb (ha.run c) hn hdb he hpl) fun _ _ _ q=>Xk hv q⟩
theorem Aez{T:String}{x:Str}{r:List V->Hp->VK->Prop}{f:List D->Option Rv}{ex:Expr}{es:List Expr}{A:M (List Rv)}{p pos:Pos}(hc:Cd g W k X->CallR X (.type T) r)(hv:CallV g r f)(hg:Gl X x)(hm:X.mg x=none)(hb:bootBuiltins x=some (.type T))(ha:VA g W k X (ex::es) A)
  (hn:x≠"__name__":=by decide)(hdb:(x==("__debug__" : Str))=false:=by decide)(he:starEach (ex::es) X.env=(false,eval ex X.env)::starEach es X.env:=by rfl)(hpl:(backTo pos (starEach es X.env)).any (·.1)=false:=by rfl):VE g W k X (.Call (.Name x p) (ex::es) [] pos) (Ar f A) :=
 ⟨fun c=>PE.imp (pe_callTy (hc c) hg hm hb (ha.run c) hn hdb he hpl) fun _ _ _ q=>Xk hv q⟩
end
def Cf:List Rv->Option (List D)
 | []=>some []
 | .val d::rs=>(Cf rs).map (d :: ·)
 | _::_=>none
def A3(A:M (List Rv)):M Rv:=A.bind fun rs e=>match Cf rs with
 | some ds=>if ds.length<=sizeLine then .ok (.fresh (.lst ds)) e else .no
 | none=>.no
def Hm(A:M (List Rv)):M Rv:=A.bind fun rs e=>match Cf rs with
 | some ds=>if ds.length<=sizeLine then .ok (.val (.tup ds)) e else .no
 | none=>.no
section
variable{g:Gm}{W:WX}{k:Nat}{X:Cx}{G H G1 H1 H0 H00:Hp}{σ:L2.St}{e e1 e2:Ve}
theorem Nw:∀ {rs:List Rv} {vs:List V} {ds:List D},RvsOk g G H σ e H0 rs vs->Cf rs=some ds->Reps g G ds vs
 | [],_,ds,h,q=>by cases q; exact h
 | .val d::rs,_,ds,⟨v,t,ev,a,b,_⟩,q=>by
  unfold Cf at q
  cases q2:Cf rs with
  | none=>rw [q2] at q; simp at q
  | some ds' =>
   rw [q2] at q
   cases q
   exact ⟨v,t,ev,a,Nw b q2⟩
 | .slot _::rs,_,ds,_,q=>by cases q
 | .fresh _::rs,_,ds,_,q=>by cases q
theorem Er{es:List Expr}{A:M (List Rv)}{pos:Pos}(ha:VA g W k X es A):VE g W k X (.List es pos) (A3 A):=by
 refine ⟨fun c=>PE.imp (pe_lst (ha.run c)) fun σ H Q ⟨G,e,sr,h⟩=>?_⟩
 refine ⟨G,e,sr,Pst.mono (Pst.bind h) fun rs G1 H1 e1 t1 h1 vs ok1=>?_⟩
 cases q:Cf rs with
 | none=>simp only [q] at h1; exact h1.elim
 | some ds =>
  simp only [q] at h1
  by_cases hl:ds.length<=sizeLine
  ·rw [if_pos hl] at h1
   have rp:=Nw ok1 q
   refine ⟨by rw [rp.len]; exact hl,fun p np=>?_⟩
   have gr:=Grow.lay (o:=HO.lst vs) t1.sr.bs np
   exact h1 G1 _ (gr.tr t1.sr) (.ref p) (RvNew.ok t1.sr t1.dom (r:=.fresh (.lst ds)) ⟨p,rfl,t1.sr.bs.hn np,⟨vs,upd_same,rp⟩,np⟩)
  ·rw [if_neg hl] at h1; exact h1.elim
theorem S2{es:List Expr}{A:M (List Rv)}{x1}{pos:Pos}(ha:VA g W k X es A):VE g W k X (.Tuple es x1 pos) (Hm A):=by
 refine ⟨fun c=>PE.imp (pe_tup (ha.run c)) fun σ H Q ⟨G,e,sr,h⟩=>?_⟩
 refine ⟨G,e,sr,Pst.mono (Pst.bind h) fun rs G1 H1 e1 t1 h1 vs ok1=>?_⟩
 cases q:Cf rs with
 | none=>simp only [q] at h1; exact h1.elim
 | some ds =>
  simp only [q] at h1
  by_cases hl:ds.length<=sizeLine
  ·rw [if_pos hl] at h1
   have rp:=Nw ok1 q
   refine ⟨by rw [rp.len]; exact hl,fun p np=>?_⟩
   have gr:=Grow.lay2 (o:=HO.tup vs) t1.sr.bs np (fun _ _ z=>nomatch z)
   exact h1 _ _ (gr.tr t1.sr) (.ref p) (show Rep g _ (.tup ds) (.ref p) from ⟨p,vs,rfl,.of upd_same,rp.mono gr.le⟩)
  ·rw [if_neg hl] at h1; exact h1.elim
end
def Je(A:M Bool):M Bool:=A.map (! ·)
def L7(A B:M Bool):M Bool:=A.bind fun c=>if c=true then B else M.ret false
def fOr(A B:M Bool):M Bool:=A.bind fun c=>if c=true then M.ret true else B
def Ek{α:Type}(C:M Bool)(A B:M α):M α:=C.bind fun c=>if c=true then A else B
def Cq:D->Option Bool
 | .non=>some false
 | .bl b=>some b
 | .int i=>some (i != 0)
 | .str l=>if l.length<=sizeLine then some (!l.isEmpty) else none
 | .lst ds=>some (!ds.isEmpty)
 | .tup ds=>some (!ds.isEmpty)
 | _=>none
def Cr(A:M Rv):M Bool:=A.bind fun r e=>match Ag r e with
 | some d=>(match Cq d with | some b=>.ok b e | none=>.no)
 | none=>.no
structure VW(g:Gm)(W:WX)(k:Nat)(X:Cx)(e:Expr)(F:M Bool):Prop where
 run:Cd g W k X->PW X e (TVT g W F)
section
variable{g:Gm}{W:WX}{k:Nat}{X:Cx}{G H G1 H1 H0 H00:Hp}{σ:L2.St}{e e1 e2:Ve}{a b c:Expr}{rest:List Expr}{A B:M Bool}{pos:Pos}
theorem RepH.lstR(bs:Bs G H){ds:List D}{v:V}(h:RepH g G H (.lst ds) v):∃ a vs,v=.ref a/\H a=some (.lst vs)/\Reps g G ds vs:=by
 rcases h with ⟨a,vs,e,q,r⟩ | ⟨p,e,n,vs,q,r⟩
 ·exact ⟨a,vs,e,bs.at_ q rfl,r⟩
 ·exact ⟨p,vs,e,q,r⟩
theorem RepH.okS{l:List Nat}{v:V}(h:RepH g G H (.str l) v):OkS l:=by
 rcases h with h | ⟨p,e,n,o⟩
 ·exact h.2
 ·exact o.elim
theorem Reps.emp{ds:List D}{vs:List V}(h:Reps g G ds vs):vs.isEmpty=ds.isEmpty:=by
 cases ds with
 | nil=>rw [show vs=[] from h]; rfl
 | cons d r=>obtain ⟨v,t,e,_⟩:=h; rw [e]; rfl
theorem S4(bs:Bs G H){d:D}{v:V}{b:Bool}(r:RepH g G H d v)(h:Cq d=some b):TruV g.K v H b:=by
 cases d with
 | non=>cases h; rw [r.non]; rfl
 | bl b'=>cases h; rw [r.bl]; rfl
 | int i=>cases h; rw [r.int]; rfl
 | str l =>
  rw [r.str]
  simp only [Cq] at h
  by_cases hl:l.length<=sizeLine
  ·rw [if_pos hl] at h
   cases h
   refine ⟨by rw [S_len]; exact hl,?_⟩
   rw [S_len]
   cases l with
   | nil=>rfl
   | cons c r=>symm; simp; omega
  ·rw [if_neg hl] at h; cases h
 | lst ds =>
  cases h
  obtain ⟨a,vs,e,q,r⟩:=r.lst bs
  rw [e]
  exact .inl ⟨vs,q,by rw [r.emp]⟩
 | tup ds =>
  cases h
  obtain ⟨a,vs,e,q,r⟩:=r.tup bs
  rw [e]
  exact .inr (.inl ⟨vs,q,by rw [r.emp]⟩)
 | _=>cases h
theorem Ae0{F:M Rv}{Q:Bool->Hp->Prop}(h:TVT g W (Cr F) σ H Q):TV g W F σ H fun x H1=>∃ k,TruV g.K x H1 k/\Q k H1:=by
 obtain ⟨G,e,sr,h⟩:=h
 refine ⟨G,e,sr,Pst.mono (Pst.bind h) fun a G1 H1 e1 t1 h1 v ok1=>?_⟩
 cases q:Ag a e1 with
 | none=>simp only [q] at h1; exact h1.elim
 | some d =>
  cases q2:Cq d with
  | none=>simp only [q,q2] at h1; exact h1.elim
  | some b =>
   simp only [q,q2] at h1
   exact ⟨b,S4 t1.sr.bs (Cv t1.sr ok1 q) q2,h1 G1 H1 (Tr.refl t1.sr)⟩
theorem Gf{F:M Rv}(h:VE g W k X a F)(he:∀ whole,isTrue a X.env whole=(do let v ← whole; standAt a.pos; holding [v] (truthy v)):=by intro _; rfl):VT g W k X a (Cr F) :=
 ⟨fun c=>PT.imp (pt_truth (h.run c) he) fun σ H Q q=>by rw [c.K]; exact Ae0 q⟩
theorem L8(h:VT g W k X a A):VT g W k X (.UnaryOp .Not a pos) (Je A) :=
 ⟨fun c=>PT.imp (pt_not (h.run c)) fun σ H Q ⟨G,e,sr,q⟩=>⟨G,e,sr,Pst.mono (Pst.bind q) fun b G1 H1 e1 t1 h1=>h1 G1 H1 (Tr.refl t1.sr)⟩⟩
theorem Xl(h:VT g W k X a A):VW g W k X (.BoolOp .And [a] pos) A:=⟨fun c=>pw_and1 (h.run c)⟩
theorem Jf(h:VT g W k X a A):VW g W k X (.BoolOp .Or [a] pos) A:=⟨fun c=>pw_or1 (h.run c)⟩
theorem VW.vt(h:VW g W k X a A):VT g W k X a A:=⟨fun c=>(h.run c).pt⟩
theorem Xm(h:VT g W k X a A)(h2:VW g W k X (.BoolOp .And (b::rest) pos) B):VW g W k X (.BoolOp .And (a::b::rest) pos) (L7 A B) :=
 ⟨fun c=>PW.imp (pw_and (h.run c) (h2.run c)) fun σ H Q ⟨G,e,sr,q⟩=>⟨G,e,sr,Pst.mono (Pst.bind q) fun b G1 H1 e1 t1 h1=>by
  cases b with
  | true=>exact ⟨G1,e1,t1.sr,h1⟩
  | false=>exact h1 G1 H1 (Tr.refl t1.sr)⟩⟩
theorem Hn(h:VT g W k X a A)(h2:VW g W k X (.BoolOp .Or (b::rest) pos) B):VW g W k X (.BoolOp .Or (a::b::rest) pos) (fOr A B) :=
 ⟨fun c=>PW.imp (pw_or (h.run c) (h2.run c)) fun σ H Q ⟨G,e,sr,q⟩=>⟨G,e,sr,Pst.mono (Pst.bind q) fun b G1 H1 e1 t1 h1=>by
  cases b with
  | false=>exact ⟨G1,e1,t1.sr,h1⟩
  | true=>exact h1 G1 H1 (Tr.refl t1.sr)⟩⟩
theorem Pst.shift{F:Res Rv}{Q:VK}(t:Tr g σ G H e G1 H1 e1)(h:Pst g W σ G1 H1 e1 (fun r G' H' e'=>∀ v,RvOk g G' H' σ e' H r v->Q v H') F):Pst g W σ G1 H1 e1 (fun r G' H' e'=>∀ v,RvOk g G' H' σ e' H1 r v->Q v H') F :=
 Pst.mono h fun r G' H' e' _ q v ok=>q v (ok.h0 t.dom)
theorem Xn{C:M Bool}{F1 F2:M Rv}(hc:VT g W k X c C)(ha:VE g W k X a F1)(hb:VE g W k X b F2):VE g W k X (.IfExp c a b pos) (Ek C F1 F2) :=
 ⟨fun cd=>PE.imp (pe_ifExp (hc.run cd) (ha.run cd) (hb.run cd)) fun σ H Q ⟨G,e,sr,q⟩=>⟨G,e,sr,Pst.mono (Pst.bind q) fun b G1 H1 e1 t1 h1=>by
  cases b with
  | true=>exact ⟨G1,e1,t1.sr,Pst.shift t1 h1⟩
  | false=>exact ⟨G1,e1,t1.sr,Pst.shift t1 h1⟩⟩⟩
def K6(A B:M Rv):M Rv:=A.bind fun r e=>match Ag r e with
 | some d=>(match Cq d with | some true=>B e | some false=>.ok r e | none=>.no)
 | none=>.no
def Pw(A B:M Rv):M Rv:=A.bind fun r e=>match Ag r e with
 | some d=>(match Cq d with | some false=>B e | some true=>.ok r e | none=>.no)
 | none=>.no
def fNotV(A:M Rv):M Rv:=(Cr A).map fun b=>.val (.bl (!b))
theorem Px{op}{F:M Rv}(h:VE g W k X a F):VE g W k X (.BoolOp op [a] pos) F:=⟨fun c=>pe_one (h.run c)⟩
theorem Py{F1 F2:M Rv}(ha:VE g W k X a F1)(hb:VE g W k X (.BoolOp .And (b::rest) pos) F2):VE g W k X (.BoolOp .And (a::b::rest) pos) (K6 F1 F2) :=
 ⟨fun c=>PE.imp (pe_andT (ha.run c) (hb.run c)) fun σ H Q ⟨G,e,sr,q⟩=>by
  rw [c.K]
  refine ⟨G,e,sr,Pst.mono (Pst.bind q) fun r G1 H1 e1 t1 h1 v ok1=>?_⟩
  cases q1:Ag r e1 with
  | none=>simp only [q1] at h1; exact h1.elim
  | some d =>
   cases q2:Cq d with
   | none=>simp only [q1,q2] at h1; exact h1.elim
   | some b =>
    simp only [q1,q2] at h1
    refine ⟨b,S4 t1.sr.bs (Cv t1.sr ok1 q1) q2,?_⟩
    cases b with
    | true=>exact ⟨G1,e1,t1.sr,Pst.shift t1 h1⟩
    | false=>exact h1 G1 H1 (Tr.refl t1.sr) v ok1⟩
theorem ve_or{F1 F2:M Rv}(ha:VE g W k X a F1)(hb:VE g W k X (.BoolOp .Or (b::rest) pos) F2):VE g W k X (.BoolOp .Or (a::b::rest) pos) (Pw F1 F2) :=
 ⟨fun c=>PE.imp (pe_orT (ha.run c) (hb.run c)) fun σ H Q ⟨G,e,sr,q⟩=>by
  rw [c.K]
  refine ⟨G,e,sr,Pst.mono (Pst.bind q) fun r G1 H1 e1 t1 h1 v ok1=>?_⟩
  cases q1:Ag r e1 with
  | none=>simp only [q1] at h1; exact h1.elim
  | some d =>
   cases q2:Cq d with
   | none=>simp only [q1,q2] at h1; exact h1.elim
   | some b =>
    simp only [q1,q2] at h1
    refine ⟨b,S4 t1.sr.bs (Cv t1.sr ok1 q1) q2,?_⟩
    cases b with
    | false=>exact ⟨G1,e1,t1.sr,Pst.shift t1 h1⟩
    | true=>exact h1 G1 H1 (Tr.refl t1.sr) v ok1⟩
def L9(f f':D->D->Option Rv)(A B C:M Rv):M Rv:=A.bind fun a=>B.bind fun b e=>match Ag a e,Ag b e with
 | some x,some y=>(match f x y with
  | some (.val (.bl true))=>(C.bind fun c e2=>match Ag b e2,Ag c e2 with
   | some y2,some z=>(match f' y2 z with | some r=>.ok r e2 | none=>.no)
   | _,_=>.no) e
  | some (.val (.bl false))=>.ok (.val (.bl false)) e
  | _=>.no)
 | _,_=>.no
theorem Ae1{r r':R2}{f f':D->D->Option Rv}{A B C:M Rv}{Q:VK}(hv:OpV g r f)(hv':OpV g r' f')(h:TV g W (L9 f f' A B C) σ H Q):tChain r r' (TV g W A) (TV g W B) (TV g W C) σ H Q:=by
 obtain ⟨G,e,sr,h⟩:=h
 refine ⟨G,e,sr,Pst.mono (Pst.bind h) fun a G1 H1 e1 t1 h1 v ok1=>⟨G1,e1,t1.sr,Pst.mono (Pst.bind h1) fun b G2 H2 e2 t2 h2 y ok2=>?_⟩⟩
 have ok1:=ok1.tr t2
 cases qa:Ag a e2 with
 | none=>simp only [qa] at h2; exact h2.elim
 | some da =>
  cases qb:Ag b e2 with
  | none=>simp only [qa,qb] at h2; exact h2.elim
  | some db =>
   simp only [qa,qb] at h2
   have fin:∀ bo,f da db=some (.val (.bl bo))->(∀ z G3 H3,Grow G2 H2 G3 H3->z=V.bl bo->∃ k,z=.bl k/\(if k=true then TV g W C σ H3 (fun w' H4=>r' y w' H4 Q) else Q (.bl false) H3))->r v y H2 fun z H3=>∃ k,z=.bl k/\(if k=true then TV g W C σ H3 (fun w' H4=>r' y w' H4 Q) else Q (.bl false) H3):=fun bo qf q =>
    hv G2 H2 da db v y _ _ t2.sr.bs t2.sr.scrL (Cv t2.sr ok1 qa) (Cv t2.sr ok2 qb) qf fun z G3 H3 gr nw=>q z G3 H3 gr nw
   cases qf:f da db with
   | none=>simp only [qf] at h2; exact h2.elim
   | some out =>
    match out,qf with
    | .val (.bl true),qf =>
     simp only [qf] at h2
     refine fin true qf fun z G3 H3 gr ez=>⟨true,ez,?_⟩
     have t3:=gr.tr t2.sr
     have h3:=h2
     rw [if_pos rfl]
     refine ⟨G3,e2,t3.sr,?_⟩
     have h4:Pst g W σ G3 H3 e2 (fun r G' H' e'=>∀ v,RvOk g G' H' σ e' H r v->Q v H') ((C.bind fun c e2=>match Ag b e2,Ag c e2 with
      | some y2,some z=>(match f' y2 z with | some r=>.ok r e2 | none=>.no)
      | _,_=>.no) e2):=by
      revert h3
      generalize (C.bind fun c e2=>match Ag b e2,Ag c e2 with
       | some y2,some z=>(match f' y2 z with | some r=>Res.ok r e2 | none=>.no)
       | _,_=>.no) e2=res
      cases res with
      | no=>exact fun h=>h
      | er x e'=>exact fun h cls d G' H' t=>h cls d G' H' (t3.trans t)
      | ok a e'=>exact fun h G' H' t=>h G' H' (t3.trans t)
     refine Pst.mono (Pst.bind h4) fun c G4 H4 e4 t4 h5 w' ok4=>?_
     have ok2:=(ok2.tr t3).tr t4
     cases qb2:Ag b e4 with
     | none=>simp only [qb2] at h5; exact h5.elim
     | some y2 =>
      cases qc:Ag c e4 with
      | none=>simp only [qb2,qc] at h5; exact h5.elim
      | some z2 =>
       cases qf2:f' y2 z2 with
       | none=>simp only [qb2,qc,qf2] at h5; exact h5.elim
       | some out2 =>
        simp only [qb2,qc,qf2] at h5
        exact hv' G4 H4 y2 z2 y w' out2 Q t4.sr.bs t4.sr.scrL (Cv t4.sr ok2 qb2) (Cv t4.sr ok4 qc) qf2 fun z G5 H5 gr5 nw=>h5 G5 H5 (gr5.tr t4.sr) z (nw.ok t4.sr fun p hp=>t1.dom p (t2.dom p (t3.dom p (t4.dom p hp))))
    | .val (.bl false),qf =>
     simp only [qf] at h2
     refine fin false qf fun z G3 H3 gr ez=>⟨false,ez,?_⟩
     exact h2 G3 H3 (gr.tr t2.sr) _ rfl
    | .val .non,qf=>simp only [qf] at h2; exact h2.elim
    | .val (.int _),qf=>simp only [qf] at h2; exact h2.elim
    | .val (.str _),qf=>simp only [qf] at h2; exact h2.elim
    | .val (.lst _),qf=>simp only [qf] at h2; exact h2.elim
    | .val (.tup _),qf=>simp only [qf] at h2; exact h2.elim
    | .val (.dct _),qf=>simp only [qf] at h2; exact h2.elim
    | .val (.set _),qf=>simp only [qf] at h2; exact h2.elim
    | .val (.ins _ _),qf=>simp only [qf] at h2; exact h2.elim
    | .val (.con _),qf=>simp only [qf] at h2; exact h2.elim
    | .val (.scr _),qf=>simp only [qf] at h2; exact h2.elim
    | .slot _,qf=>simp only [qf] at h2; exact h2.elim
    | .fresh _,qf=>simp only [qf] at h2; exact h2.elim
theorem Ae2{op op':CmpOp}{r r':R2}{f f':D->D->Option Rv}{F1 F2 F3:M Rv}(ho:Cd g W k X->OpR X (compareOp op) r)(hv:OpV g r f)(ho':Cd g W k X->OpR X (compareOp op') r')(hv':OpV g r' f')(ha:VE g W k X a F1)(hb:VE g W k X b F2)(hc:VE g W k X c F3)
  (hm:lastMarks [op,op'] [b,c]=false:=by with_unfolding_all rfl):VT g W k X (.Compare a [op,op'] [b,c] pos) (Bh (L9 f f' F1 F2 F3)) :=
 ⟨fun cd=>PT.imp (pt_chain (ho cd) (ho' cd) (ha.run cd) (hb.run cd) (hc.run cd) hm) fun _ _ _ q=>Ae1 hv hv' (Nv q)⟩
end
section
variable{g:Gm}{W:WX}{k:Nat}{X:Cx}{G H G1 H1 H0:Hp}{σ σ1:L2.St}{e e1 e2:Ve}{D:Ends}
theorem PstS.shift{r:Res Ctl}(t:St g G H σ e G1 H1 σ1 e1)(h:PstS g W D σ G H e r):PstS g W D σ1 G1 H1 e1 r:=by
 cases r with
 | no=>exact h
 | er x e'=>exact fun cls d σ' G' H' t2=>h cls d σ' G' H' (t.trans t2)
 | ok c e' =>
  cases c with
  | nx=>exact fun σ' G' H' t2=>h σ' G' H' (t.trans t2)
  | bk=>exact fun σ' G' H' t2=>h σ' G' H' (t.trans t2)
  | ct=>exact fun σ' G' H' t2=>h σ' G' H' (t.trans t2)
  | rt r=>exact fun v σ' G' H' t2 ok=>h v σ' G' H' (t.trans t2) (ok.h0 t.dom)
theorem PstS.bindE{α:Type}{f:M α}{c:α->M Ctl}(h:PstS g W D σ G H e (M.bind f c e)):Pst g W σ G H e (fun a G1 H1 e1=>PstS g W D σ G1 H1 e1 (c a e1)) (f e):=by
 unfold M.bind at h
 revert h
 cases f e with
 | no=>exact fun h=>h
 | er x e'=>exact fun h cls d G' H' t xo=>h cls d σ G' H' t.st xo
 | ok a e1=>exact fun h G1 H1 t=>PstS.shift t.st h
end
def Bi(A B:M Ctl):M Ctl:=A.bind fun c=>match c with
 | .nx=>B
 | c=>M.ret c
def fNx:M Ctl:=M.ret .nx
def Ma(A:M Rv):M Ctl:=A.bind fun _=>fNx
def Bw(A:M Rv):M Ctl:=A.bind fun r=>M.ret (.rt r)
def fRetN:M Ctl:=M.ret (.rt (.val .non))
section
variable{g:Gm}{W:WX}{k:Nat}{X:Cx}{st:Stmt}{rest:List Stmt}{ex:Expr}{pos:Pos}{A B:M Ctl}
theorem Cw:VSs g W k X [] fNx:=⟨fun _=>PSs.imp pss_nil fun D σ H ⟨G,e,sr,h⟩=>h σ G H (St.refl sr)⟩
theorem Bx(h1:VS g W k X st A)(h2:VSs g W k X rest B):VSs g W k X (st::rest) (Bi A B):=by
 refine ⟨fun c=>PSs.imp (pss_cons (h1.run c) (h2.run c)) fun D σ H ⟨G,e,sr,h⟩=>?_⟩
 refine ⟨G,e,sr,?_⟩
 unfold Bi M.bind at h
 revert h
 cases A e with
 | no=>exact fun h=>h
 | er x e'=>exact fun h=>h
 | ok c e1 =>
  cases c with
  | nx=>exact fun h σ' G' H' t=>⟨G',e1,t.sr,PstS.shift t h⟩
  | rt r=>exact fun h=>h
  | bk=>exact fun h=>h
  | ct=>exact fun h=>h
theorem Ay(h1:VS g W k X st A):VSs g W k X [st] A:=⟨fun c=>pss_one (h1.run c)⟩
theorem S7{F:M Rv}(he:VE g W k X ex F)(hs:swapsWith ex none pos.line X.env=pure false:=by rfl):VS g W k X (.Expr ex pos) (Ma F) :=
 ⟨fun c=>PS.imp (ps_expr (he.run c) hs) fun D σ H ⟨G,e,sr,h⟩=>⟨G,e,sr,Pst.mono (PstS.bindE h) fun r G1 H1 e1 t1 h1 v _=>h1 σ G1 H1 (St.refl t1.sr)⟩⟩
theorem B5{F:M Rv}(he:VE g W k X ex F):VS g W k X (.Return (some ex) pos) (Bw F) :=
 ⟨fun c=>PS.imp (ps_ret (he.run c)) fun D σ H ⟨G,e,sr,h⟩=>by
  refine ⟨G,e,sr,?_⟩
  unfold Bw M.bind at h
  revert h
  cases F e with
  | no=>exact fun h=>h
  | er x e'=>exact fun h cls d G' H' t xo=>h cls d σ G' H' t.st xo
  | ok a e1=>exact fun h G1 H1 t v ok=>h v σ G1 H1 t.st ok⟩
theorem Ho{c:Expr}{a b:List Stmt}{C:M Bool}(hc:VT g W k X c C)(ha:VSs g W k X a A)(hb:VSs g W k X b B):VS g W k X (.If c a b pos) (Ek C A B) :=
 ⟨fun cd=>PS.imp (ps_if (hc.run cd) (ha.run cd) (hb.run cd)) fun D σ H ⟨G,e,sr,h⟩=>⟨G,e,sr,Pst.mono (PstS.bindE h) fun b G1 H1 e1 t1 h1=>by
  cases b with
  | true=>exact ⟨G1,e1,t1.sr,h1⟩
  | false=>exact ⟨G1,e1,t1.sr,h1⟩⟩⟩
end
def Aq(i:Nat)(d:D):M Unit:=fun e=>if Ax e i=true then .ok () (e.set i (.sh d)) else .no
def D4(i:Nat)(r:Rv):M Ctl:=match r with
 | .val d=>fun e=>if Ax e i=true then .ok .nx (e.set i (.sh d)) else .no
 | .fresh d=>fun e=>if Ax e i=true then .ok .nx (e.set i (.ow d)) else .no
 | .slot j=>(Bz (.slot j)).bind fun d e=>if Ax e i=true then .ok .nx (e.set i (.sh d)) else .no
def C9(i:Nat)(A:M Rv):M Ctl:=A.bind (D4 i)
section
variable{g:Gm}{W:WX}{k:Nat}{X:Cx}{G H G1 H1 H0:Hp}{σ σ1:L2.St}{e e1 e2:Ve}{i:Nat}{d:D}{v:V}
theorem Xo{A:M Rv}{D:Ends}(h:TVS g W (C9 i A) D σ H):tAsg (TV g W A) (gName i) D σ H:=by
 obtain ⟨G,e,sr,h⟩:=h
 refine ⟨G,e,sr,?_⟩
 unfold C9 M.bind at h
 revert h
 cases A e with
 | no=>exact fun h=>h
 | er x e'=>exact fun h cls d G' H' t xo=>h cls d σ G' H' t.st xo
 | ok r e1 =>
  intro h G1 H1 t v ok
  show D.nx (σ.set i (some v)) H1
  cases r with
  | val d =>
   simp only [D4] at h
   by_cases c:Ax e1 i=true
   ·rw [if_pos c] at h
    exact h _ G1 H1 (St.sto t.sr c (.inl ⟨d,rfl,ok⟩) t.st fun d p z=>nomatch z)
   ·rw [if_neg c] at h; exact h.elim
  | fresh d =>
   simp only [D4] at h
   by_cases c:Ax e1 i=true
   ·rw [if_pos c] at h
    obtain ⟨p,ev,n,o,h0,nr⟩:=ok
    refine h _ G1 H1 (St.sto t.sr c (.inr ⟨d,p,rfl,ev,n,o,nr⟩) t.st fun d' p' z1 z2=>?_)
    rw [ev] at z2; cases z2; exact h0
   ·rw [if_neg c] at h; exact h.elim
  | slot j =>
   simp only [D4,M.bind] at h
   cases q:Bz (.slot j) e1 with
   | no=>rw [q] at h; exact h.elim
   | er x e'=>exact absurd q Sz
   | ok d e2 =>
    rw [q] at h
    simp only at h
    obtain ⟨G2,t2,rp⟩:=Ni t ok q
    by_cases c:Ax e2 i=true
    ·rw [if_pos c] at h
     exact h _ G2 H1 (St.sto t2.sr c (.inl ⟨d,rfl,rp⟩) t2.st fun d p z=>nomatch z)
    ·rw [if_neg c] at h; exact h.elim
theorem Fu{x:Str}{ex:Expr}{A:M Rv}{pos pos':Pos}(hi:X.N[i]? = some x)(hx:Loc X.env.scope x)(he:VE g W k X ex A)(hs:swapsWith ex (some (.Name x pos')) pos.line X.env=pure false:=by rfl)(hf:X.fn x=true\/X.env.scope.names.lookup x=some .local:=by first | exact .inl rfl | exact .inr rfl | assumption) :
  VS g W k X (.Assign [.Name x pos'] ex pos) (C9 i A):=⟨fun c=>PS.imp (ps_set c.nd hi hx (he.run c) hs hf) fun _ _ _ q=>Xo q⟩
end
structure VG(g:Gm)(X:Cx)(tg:Expr)(F:D->M Unit)(is:List Nat):Prop where
 pg:∀ (k:Nat) (W:WX),Cd g W k X->∃ t,PG X tg t/\∀ (G H G0 H0:Hp) (σ σ0:L2.St) (e e0 e':Ve) (d:D) (v:V) (Q:L2.St->Hp->Prop),St g G0 H0 σ0 e0 G H σ e->Rep g G d v->F d e=.ok () e' ->
  (∀ σ',St g G0 H0 σ0 e0 G H σ' e'->(∀ j,j ∉ is->σ'[j]? = σ[j]?)->Q σ' H)->t v σ H Q
 off:∀ d e e' j,F d e=.ok () e'->j ∉ is->e'[j]? = e[j]?
 nox:∀ d e x e',F d e≠.er x e'
 oth:∀ d e e' j,F d e=.ok () e'->j∈is->∃ d',e'[j]? = some (.sh d')
 len:∀ d e e',F d e=.ok () e'->e'.length=e.length
structure VGs(g:Gm)(X:Cx)(tg:List Expr)(F:List D->M Unit)(is:List Nat):Prop where
 pg:∀ (k:Nat) (W:WX),Cd g W k X->∃ t,PGs X tg t/\∀ (G H G0 H0:Hp) (σ σ0:L2.St) (e e0 e':Ve) (ds:List D) (vs:List V) (Q:L2.St->Hp->Prop),St g G0 H0 σ0 e0 G H σ e->Reps g G ds vs->F ds e=.ok () e' ->
  (∀ σ',St g G0 H0 σ0 e0 G H σ' e'->(∀ j,j ∉ is->σ'[j]? = σ[j]?)->Q σ' H)->t vs σ H Q
 off:∀ d e e' j,F d e=.ok () e'->j ∉ is->e'[j]? = e[j]?
 nox:∀ d e x e',F d e≠.er x e'
 oth:∀ d e e' j,F d e=.ok () e'->j∈is->∃ d',e'[j]? = some (.sh d')
 len:∀ d e e',F d e=.ok () e'->e'.length=e.length
def Ia:List D->M Unit:=fun ds e=>match ds with
 | []=>.ok () e
 | _=>.no
def Dc(F:D->M Unit)(Fs:List D->M Unit):List D->M Unit:=fun ds e=>match ds with
 | d::r=>M.bind (F d) (fun _=>Fs r) e
 | []=>.no
def E7(n:Nat)(Fs:List D->M Unit):D->M Unit:=fun d e=>match d with
 | .tup ds=>if ds.length=n then Fs ds e else .no
 | _=>.no
section
variable{g:Gm}{X:Cx}{i:Nat}
theorem Es{x:Str}{pos:Pos}(hi:X.N[i]? = some x)(hx:Loc X.env.scope x)(hf:X.fn x=true\/X.env.scope.names.lookup x=some .local:=by first | exact .inl rfl | exact .inr rfl | assumption):VG g X (.Name x pos) (Aq i) [i]:=by
 refine ⟨fun k W c=>⟨gName i,pg_name c.nd hi hx hf,fun G H G0 H0 σ σ0 e e0 e' d v Q st rp h q=>?_⟩,fun d e e' j h hj=>?_,fun d e x e' h=>?_,fun d e e' j h hj=>?_,fun d e e' h=>?_⟩
 ·unfold Aq at h
  by_cases cs:Ax e i=true
  ·rw [if_pos cs] at h
   cases h
   exact q _ (St.sto st.sr cs (.inl ⟨d,rfl,rp⟩) st fun d p z=>nomatch z) fun j hj=>by rw [getElem?_set',if_neg (fun z=>hj (by rw [z.1]; exact List.mem_singleton.mpr rfl))]
  ·rw [if_neg cs] at h; cases h
 ·unfold Aq at h
  by_cases cs:Ax e i=true
  ·rw [if_pos cs] at h
   cases h
   rw [getElem?_set',if_neg (fun z=>hj (by rw [z.1]; exact List.mem_singleton.mpr rfl))]
  ·rw [if_neg cs] at h; cases h
 ·unfold Aq at h
  split at h <;> cases h
 ·unfold Aq at h
  by_cases cs:Ax e i=true
  ·rw [if_pos cs] at h
   cases h
   rw [List.mem_singleton.mp hj,getElem?_set',if_pos ⟨rfl,(L3 cs).1⟩]
   exact ⟨d,rfl⟩
  ·rw [if_neg cs] at h; cases h
 ·unfold Aq at h
  by_cases cs:Ax e i=true
  ·rw [if_pos cs] at h
   cases h
   rw [List.length_set]
  ·rw [if_neg cs] at h; cases h
theorem S8:VGs g X [] Ia []:=by
 refine ⟨fun k W c=>⟨gNil,pgs_nil,fun G H G0 H0 σ σ0 e e0 e' ds vs Q st rp h q=>?_⟩,fun d e e' j h hj=>?_,fun d e x e' h=>?_,fun d e e' j h hj=>(nomatch hj),fun d e e' h=>?_⟩
 ·cases ds with
  | nil=>cases h; exact ⟨rp,q _ st fun _ _=>rfl⟩
  | cons d r=>cases h
 ·cases d with
  | nil=>cases h; rfl
  | cons d r=>cases h
 ·cases d <;> cases h
 ·cases d with
  | nil=>cases h; rfl
  | cons d r=>cases h
theorem Mb{ex:Expr}{es:List Expr}{F:D->M Unit}{Fs:List D->M Unit}{is js:List Nat}(h1:VG g X ex F is)(h2:VGs g X es Fs js)
  (hs:(assignEach (ex::es) X.env).map (·.2)=assign ex X.env::(assignEach es X.env).map (·.2):=by rfl):VGs g X (ex::es) (Dc F Fs) (is++js):=by
 have split:∀ d r e e',Dc F Fs (d::r) e=.ok () e'->∃ e1,F d e=.ok () e1/\Fs r e1=.ok () e':=fun d r e e' h=>by
  simp only [Dc,M.bind] at h
  cases q:F d e with
  | no=>rw [q] at h; cases h
  | er x e1=>rw [q] at h; cases h
  | ok u e1=>rw [q] at h; exact ⟨e1,rfl,h⟩
 refine ⟨fun k W c=>?_,fun d e e' j h hj=>?_,fun d e x e' h=>?_,fun d e e' j h hj=>?_,fun d e e' h=>?_⟩
 ·obtain ⟨t1,p1,q1⟩:=h1.pg k W c
  obtain ⟨t2,p2,q2⟩:=h2.pg k W c
  refine ⟨gCons t1 t2,pgs_cons p1 p2 hs,fun G H G0 H0 σ σ0 e e0 e' ds vs Q st rp h q=>?_⟩
  cases ds with
  | nil=>cases h
  | cons d r =>
   obtain ⟨v,tl,rfl,a,b⟩:=rp
   obtain ⟨e1,f1,f2⟩:=split d r e e' h
   refine ⟨v,tl,rfl,q1 G H G0 H0 σ σ0 e e0 e1 d v _ st a f1 fun σ1 st1 of1=>q2 G H G0 H0 σ1 σ0 e1 e0 e' r tl _ st1 b f2 fun σ2 st2 of2=>q σ2 st2 fun j hj=>?_⟩
   rw [of2 j (fun z=>hj (List.mem_append_right _ z)),of1 j (fun z=>hj (List.mem_append_left _ z))]
 ·cases d with
  | nil=>cases h
  | cons d r =>
   obtain ⟨e1,f1,f2⟩:=split d r e e' h
   rw [h2.off r e1 e' j f2 (fun z=>hj (List.mem_append_right _ z)),h1.off d e e1 j f1 (fun z=>hj (List.mem_append_left _ z))]
 ·cases d with
  | nil=>cases h
  | cons d r =>
   simp only [Dc,M.bind] at h
   cases q:F d e with
   | no=>rw [q] at h; cases h
   | er x e1=>exact h1.nox _ _ _ _ q
   | ok u e1=>rw [q] at h; exact h2.nox _ _ _ _ h
 ·cases d with
  | nil=>cases h
  | cons d r =>
   obtain ⟨e1,f1,f2⟩:=split d r e e' h
   by_cases hm:j∈js
   ·exact h2.oth r e1 e' j f2 hm
   ·rw [h2.off r e1 e' j f2 hm]
    exact h1.oth d e e1 j f1 ((List.mem_append.mp hj).resolve_right hm)
 ·cases d with
  | nil=>cases h
  | cons d r =>
   obtain ⟨e1,f1,f2⟩:=split d r e e' h
   rw [h2.len r e1 e' f2,h1.len d e e1 f1]
theorem S9{es:List Expr}{kk:Nat}{Fs:List D->M Unit}{is:List Nat}{n:Nat}{pos:Pos}(h:VGs g X es Fs is)(hn:(assignEach es X.env).length=n:=by rfl)(hst:(assignEach es X.env).findIdx? (·.1)=none:=by rfl):VG g X (.Tuple es kk pos) (E7 n Fs) is:=by
 refine ⟨fun k W c=>?_,fun d e e' j h' hj=>?_,fun d e x e' h'=>?_,fun d e e' j h' hj=>?_,fun d e e' h'=>?_⟩
 ·obtain ⟨t,p,q⟩:=h.pg k W c
  refine ⟨gTup g.K n t,c.K ▸ pg_tup c.calm p hn hst,fun G H G0 H0 σ σ0 e e0 e' d v Q st rp h' q'=>?_⟩
  cases d with
  | tup ds =>
   simp only [E7] at h'
   by_cases hl:ds.length=n
   ·rw [if_pos hl] at h'
    obtain ⟨a,vs,ev,sq,rps⟩:=rp
    exact ⟨a,vs,ev,st.sr.bs.sqT sq,by rw [rps.len]; exact hl,q G H G0 H0 σ σ0 e e0 e' ds vs Q st rps h' q'⟩
   ·rw [if_neg hl] at h'; cases h'
  | _=>cases h'
 ·cases d with
  | tup ds =>
   simp only [E7] at h'
   by_cases hl:ds.length=n
   ·rw [if_pos hl] at h'; exact h.off ds e e' j h' hj
   ·rw [if_neg hl] at h'; cases h'
  | _=>cases h'
 ·cases d with
  | tup ds =>
   simp only [E7] at h'
   by_cases hl:ds.length=n
   ·rw [if_pos hl] at h'; exact h.nox _ _ _ _ h'
   ·rw [if_neg hl] at h'; cases h'
  | _=>cases h'
 ·cases d with
  | tup ds =>
   simp only [E7] at h'
   by_cases hl:ds.length=n
   ·rw [if_pos hl] at h'; exact h.oth ds e e' j h' hj
   ·rw [if_neg hl] at h'; cases h'
  | _=>cases h'
 ·cases d with
  | tup ds =>
   simp only [E7] at h'
   by_cases hl:ds.length=n
   ·rw [if_pos hl] at h'; exact h.len ds e e' h'
   ·rw [if_neg hl] at h'; cases h'
  | _=>cases h'
end
theorem Own.nofrz{g:Gm}{G H:Hp}{p:Addr}{d:D}(h:Own g G H p d)(o:Obj)(u:HO):H p≠some (.frz o u):=fun z=>by
 obtain ⟨ob,ho,nf,_⟩:=h.there
 rw [z] at ho
 exact nf.nf o u (Option.some.inj ho).symm
theorem SR.nofrz{g:Gm}{G H:Hp}{σ:L2.St}{e:Ve}(sr:SR g G H σ e){a:Addr}{o:Obj}{u:HO}(h:H a=some (.frz o u))(i:Nat):¬ Rt σ e i a:=fun r=>by
 obtain ⟨r1,r2⟩:=r
 have sl:=sr.slot i
 cases q:e[i]? with
 | none=>rw [q] at r1; exact r1
 | some s =>
  rw [q] at r1 sl
  cases s with
  | un=>exact r1
  | sh d=>exact r1
  | bf d=>exact r1
  | lo d=>exact r1
  | ow d =>
   obtain ⟨p',ev',n,ow⟩:=sl
   rw [ev'] at r2; cases r2
   exact ow.nofrz o u h
  | bo d =>
   obtain ⟨p',ev',n,ow⟩:=sl
   rw [ev'] at r2; cases r2
   exact ow.nofrz o u h
theorem St.fz{g:Gm}{G H G1 H1:Hp}{σ σ1:L2.St}{e e1:Ve}(s0:SR g G H σ e)(t:St g G H σ e G1 H1 σ1 e1):Fz H H1:=fun a o u h=>t.keep a _ h (fun i=>s0.nofrz h i) fun ps z=>nomatch z
theorem Grow.fz{G H G1 H1:Hp}(t:Grow G H G1 H1):Fz H H1:=fun a o u h=>t.keep a _ h
structure ItOk(g:Gm)(Gs Hs:Hp)(J:It)(ds:List D):Prop where
 go:∀ i G H,Le Gs G->Bs G H->Fz Hs H->i<ds.length->J.go i H
 stop:∀ G H,Le Gs G->Bs G H->Fz Hs H->J.stop ds.length H
 yld:∀ i G H x H',Le Gs G->Bs G H->Fz Hs H->i<ds.length->J.yld i H x H'->∃ d G',ds[i]? = some d/\Grow G H G' H'/\Rep g G' d x
def TVI(g:Gm)(W:WX)(F:M (List D)):TI:=fun σ H R=>∃ G e,SR g G H σ e/\Pst g W σ G H e (fun ds G' H' e'=>∀ J,ItOk g G' H' J ds->R J H') (F e)
structure VI(g:Gm)(W:WX)(k:Nat)(X:Cx)(tg ex:Expr)(F:M (List D)):Prop where
 run:Cd g W k X->PI X tg ex (TVI g W F)
section
variable{g:Gm}{G H:Hp}{a:Addr}{vs:List V}{ds:List D}
theorem Xp(hs:SqL g.K G a vs)(r:Reps g G ds vs):ItOk g G H (Itl g.K a) ds:=by
 have hl:=r.len
 refine ⟨fun i G' H' le bs _ hi=>?_,fun G' H' le bs _=>?_,fun i G' H' x H'' le bs _ hi y=>?_⟩
 ·exact (walk_list (K:=g.K) (a:=a) (xs:=vs)).goes i H' (by omega) (bs.sqL (le.sqL hs))
 ·exact hl ▸ (walk_list (K:=g.K) (a:=a) (xs:=vs)).stops H' (bs.sqL (le.sqL hs))
 ·obtain ⟨e1,e2⟩:=(walk_list (K:=g.K) (a:=a) (xs:=vs)).yields i H' x H'' (by omega) (bs.sqL (le.sqL hs)) y
  subst e1
  obtain ⟨d,ed,rd⟩:=r.at e2
  exact ⟨d,G',ed,Grow.refl bs,rd.mono le⟩
theorem Ae3(hs:SqT g.K G a vs)(r:Reps g G ds vs):ItOk g G H (Itt g.K a) ds:=by
 have hl:=r.len
 refine ⟨fun i G' H' le bs _ hi=>?_,fun G' H' le bs _=>?_,fun i G' H' x H'' le bs _ hi y=>?_⟩
 ·exact (walk_tup (K:=g.K) (a:=a) (xs:=vs)).goes i H' (by omega) (bs.sqT (le.sqT hs))
 ·exact hl ▸ (walk_tup (K:=g.K) (a:=a) (xs:=vs)).stops H' (bs.sqT (le.sqT hs))
 ·obtain ⟨e1,e2⟩:=(walk_tup (K:=g.K) (a:=a) (xs:=vs)).yields i H' x H'' (by omega) (bs.sqT (le.sqT hs)) y
  subst e1
  obtain ⟨d,ed,rd⟩:=r.at e2
  exact ⟨d,G',ed,Grow.refl bs,rd.mono le⟩
theorem Ae4(l:List Nat)(ok:OkS l):ItOk g G H (Its (S l)) (l.map fun c=>.str [c]):=by
 have hl:(S l).cps.size=l.length:=S_len l
 refine ⟨fun i G' H' le bs _ hi=>?_,fun G' H' le bs _=>?_,fun i G' H' x H'' le bs _ hi y=>?_⟩
 ·exact (walk_str (z:=S l)).goes i H' (by rw [hl]; simpa using hi) trivial
 ·have:=(walk_str (z:=S l)).stops H' trivial
  rw [hl] at this
  simpa using this
 ·obtain ⟨e1,c,hc,e2⟩:=(walk_str (z:=S l)).yields i H' x H'' (by rw [hl]; simpa using hi) trivial y
  subst e1 e2
  have hc2:l[i]? = some c:=by
   rw [← hc]
   exact (Array.getElem?_toList (xs:=(S l).cps)).symm ▸ rfl
  exact ⟨.str [c],G',by rw [List.getElem?_map,hc2]; rfl,Grow.refl bs,rfl,fun x hx=>by rw [List.mem_singleton.mp hx]; exact ok c (List.mem_of_getElem? hc2)⟩
def Cg(lo:Int)(n:Nat):List D:=(List.range n).map fun (i:Nat)=>.int (lo+(i:Int))
theorem Ae5(lo:Int)(n:Nat):ItOk g G H (Itr lo n) (Cg lo n):=by
 have hl:(Cg lo n).length=n:=by unfold Cg; rw [List.length_map,List.length_range]
 refine ⟨fun i G' H' le bs _ hi=>?_,fun G' H' le bs _=>?_,fun i G' H' x H'' le bs _ hi y=>?_⟩
 ·exact (walk_range (lo:=lo) (n:=n)).goes i H' (by omega) trivial
 ·exact hl.symm ▸ (walk_range (lo:=lo) (n:=n)).stops H' trivial
 ·obtain ⟨e1,e2⟩:=(walk_range (lo:=lo) (n:=n)).yields i H' x H'' (by omega) trivial y
  subst e1 e2
  refine ⟨.int (lo+i),G',?_,Grow.refl bs,rfl⟩
  unfold Cg
  rw [List.getElem?_map,List.getElem?_range (by omega)]
  rfl
end
def Hq:D->Option (List D)
 | .lst ds=>some ds
 | .tup ds=>some ds
 | .str l=>some (l.map fun c=>.str [c])
 | _=>none
def Dd(A:M Rv):M (List D):=(Ad A).bind fun r e=>match r with
 | .val d=>(match Hq d with | some ds=>.ok ds e | none=>.no)
 | _=>.no
def Fv(A:M Rv):M (List D):=A.bind fun r e=>match r with
 | .val (.int j)=>if -(2 ^ 62)<=j/\j<2 ^ 62 then .ok (Cg 0 j.toNat) e else .no
 | _=>.no
def Xq(A B:M Rv):M (List D):=A.bind fun r=>B.bind fun r2 e=>match r,r2 with
 | .val (.int i),.val (.int j)=>if -(2 ^ 62)<=i/\i<2 ^ 62/\-(2 ^ 62)<=j/\j<2 ^ 62 then .ok (Cg i (j-i).toNat) e else .no
 | _,_=>.no
section
variable{g:Gm}{W:WX}{k:Nat}{X:Cx}{tg ex:Expr}
theorem Ny{A:M Rv}(h:VE g W k X ex A):VI g W k X tg ex (Dd A):=by
 refine ⟨fun c=>?_⟩
 have pl:PI X tg ex (iList g.K (TV g W (Ad A))):=c.K ▸ pi_list ((Am h).run c)
 have pt:PI X tg ex (iTup g.K (TV g W (Ad A))):=c.K ▸ pi_tup ((Am h).run c)
 have ps:=pi_str (tg:=tg) ((Am h).run c)
 refine PI.imp (PI.or pl (PI.or pt ps)) fun σ H R ⟨G,e,sr,q⟩=>?_
 unfold Dd M.bind at q
 have go:∀ {P:VK},(∀ d ds,Hq d=some ds->Ad A e=.ok (.val d) e->True)->True:=fun _=>trivial
 cases qa:Ad A e with
 | no=>rw [qa] at q; exact q.elim
 | er x e' =>
  rw [qa] at q
  refine .inl ⟨G,e,sr,?_⟩
  rw [qa]
  exact q
 | ok r e1 =>
  rw [qa] at q
  match r with
  | .slot _=>exact q.elim
  | .fresh _=>exact q.elim
  | .val d =>
   match d with
   | .lst ds =>
    refine .inl ⟨G,e,sr,?_⟩
    rw [qa]
    intro G1 H1 t v rp
    obtain ⟨a,vs,ev,sq,rps⟩:=rp
    exact ⟨a,ev,⟨vs,t.sr.bs.sqL (.of sq)⟩,q G1 H1 t _ (Xp (.of sq) rps)⟩
   | .tup ds =>
    refine .inr (.inl ⟨G,e,sr,?_⟩)
    rw [qa]
    intro G1 H1 t v rp
    obtain ⟨a,vs,ev,sq,rps⟩:=rp
    exact ⟨a,ev,⟨vs,t.sr.bs.sqT sq⟩,q G1 H1 t _ (Ae3 sq rps)⟩
   | .str l =>
    refine .inr (.inr ⟨G,e,sr,?_⟩)
    rw [qa]
    intro G1 H1 t v rp
    exact ⟨S l,rp.1,q G1 H1 t _ (Ae4 l rp.2)⟩
   | .non=>exact q.elim
   | .bl _=>exact q.elim
   | .int _=>exact q.elim
   | .dct _=>exact q.elim
   | .set _=>exact q.elim
   | .ins _ _=>exact q.elim
   | .con _=>exact q.elim
   | .scr _=>exact q.elim
theorem Pz{a:Expr}{A:M Rv}{p pos:Pos}(hm:X.mg "range" = none)(ha:VE g W k X a A)(hg:Gl X "range":=by rfl)(hs:starEach [a] X.env=[(false,eval a X.env)]:=by rfl):VI g W k X tg (.Call (.Name "range" p) [a] [] pos) (Fv A):=by
 refine ⟨fun c=>PI.imp (pi_range1 hg hm (pa_cons (ha.run c) pa_nil hs) hs) fun σ H R ⟨G,e,sr,q⟩=>⟨G,e,sr,Pst.mono (Pst.bind q) fun r G1 H1 e1 t1 h1 v ok=>?_⟩⟩
 match r with
 | .val (.int j) =>
  simp only at h1
  by_cases hj:-(2 ^ 62)<=j/\j<2 ^ 62
  ·rw [if_pos hj] at h1
   exact ⟨j,by rw [show v=.int j from ok],hj.1,hj.2,h1 G1 H1 (Tr.refl t1.sr) _ (Ae5 0 j.toNat)⟩
  ·rw [if_neg hj] at h1; exact h1.elim
 | .slot _=>exact h1.elim
 | .fresh _=>exact h1.elim
 | .val (.str _)=>exact h1.elim
 | .val .non=>exact h1.elim
 | .val (.bl _)=>exact h1.elim
 | .val (.lst _)=>exact h1.elim
 | .val (.tup _)=>exact h1.elim
 | .val (.dct _)=>exact h1.elim
 | .val (.set _)=>exact h1.elim
 | .val (.ins _ _)=>exact h1.elim
 | .val (.con _)=>exact h1.elim
 | .val (.scr _)=>exact h1.elim
end
def B0(F:D->M Unit)(body:M Ctl):List D->M Ctl
 | []=>fNx
 | d::r=>(F d).bind fun _=>body.bind fun c=>match c with
  | .nx=>B0 F body r
  | .ct=>B0 F body r
  | .bk=>fNx
  | .rt v=>M.ret (.rt v)
def Ib(S:M (List D))(F:D->M Unit)(body:M Ctl):M Ctl:=S.bind (B0 F body)
section
variable{g:Gm}{W:WX}{k:Nat}{X:Cx}{tg ex:Expr}
theorem Ae6{F:D->M Unit}{is:List Nat}{B:M Ctl}{ds:List D}{D:Ends}{σ:L2.St}{G H:Hp}{e:Ve}{J:It}{t:TG}(hg:VG g X tg F is)
  (q:∀ (G H G0 H0:Hp) (σ σ0:L2.St) (e e0 e':Ve) (d:Vs.D) (v:V) (Q:L2.St->Hp->Prop),St g G0 H0 σ0 e0 G H σ e->Rep g G d v->F d e=.ok () e'->(∀ σ',St g G0 H0 σ0 e0 G H σ' e'->(∀ j,j ∉ is->σ'[j]? = σ[j]?)->Q σ' H)->t v σ H Q)
  (sr:SR g G H σ e)(it:ItOk g G H J ds)(h:PstS g W D σ G H e (B0 F B ds e)) :
  ∃ W':Nat->Nat->L2.St->Hp->Prop,(∃ m,W' 0 m σ H)/\∀ i m σ H,W' i m σ H->(J.stop i H/\D.nx σ H)\/(J.go i H/\∃ N:L2.St->Hp->Prop,(∀ σ' H',N σ' H'->∃ m',m'<m/\W' (i+1) m' σ' H') /\
   ∀ x H',J.yld i H x H'->t x σ H' fun σ2 H2=>TVS g W B { D with nx:=N,ct:=N,bk:=D.nx } σ2 H2):=by
 refine ⟨fun i m σ' H'=>m=ds.length-i/\i<=ds.length/\∃ G' e',SR g G' H' σ' e'/\Le G G'/\Fz H H'/\PstS g W D σ' G' H' e' (B0 F B (ds.drop i) e'),⟨_,rfl,Nat.zero_le _,G,e,sr,Le.refl G,fun _ _ _ h=>h,h⟩,?_⟩
 rintro i m σ1 H1 ⟨rfl,hi,G1,e1,sr1,le1,fz1,h1⟩
 by_cases hlt:i<ds.length
 ·refine .inr ⟨it.go i G1 H1 le1 sr1.bs fz1 hlt,fun σ' H'=>i+1<=ds.length/\∃ G' e',SR g G' H' σ' e'/\Le G G'/\Fz H H'/\PstS g W D σ' G' H' e' (B0 F B (ds.drop (i+1)) e'),fun σ' H' hN=>⟨ds.length-(i+1),by omega,rfl,hN⟩,fun x H2 y=>?_⟩
  obtain ⟨d,G2,ed,gr,rd⟩:=it.yld i G1 H1 x H2 le1 sr1.bs fz1 hlt y
  have t1:=(gr.tr sr1).st
  have ed':ds.drop i=d::ds.drop (i+1):=by
   rw [List.drop_eq_getElem_cons hlt]
   rw [List.getElem?_eq_getElem hlt] at ed
   rw [Option.some.inj ed]
  rw [ed'] at h1
  have h2:=PstS.shift t1 h1
  simp only [B0] at h2
  cases qf:F d e1 with
  | no=>simp only [M.bind,qf] at h2; exact h2.elim
  | er x e'=>exact absurd qf (hg.nox _ _ _ _)
  | ok u e2 =>
   refine q G2 H2 G2 H2 σ1 σ1 e1 e1 e2 d x _ (St.refl t1.sr) rd qf fun σ2 st2 _=>?_
   have h3:PstS g W D σ1 G2 H2 e1 (M.bind B (fun c=>match c with
    | .nx=>B0 F B (ds.drop (i+1))
    | .ct=>B0 F B (ds.drop (i+1))
    | .bk=>fNx
    | .rt v=>M.ret (.rt v)) e2):=by
    have:=h2
    unfold M.bind at this
    rw [qf] at this
    exact this
   have h4:=PstS.shift st2 h3
   refine ⟨G2,e2,st2.sr,?_⟩
   have fz2:Fz H H2:=fz1.trans gr.fz
   have le2:Le G G2:=le1.trans gr.le
   unfold M.bind at h4
   revert h4
   cases B e2 with
   | no=>exact fun h=>h
   | er x e'=>exact fun h=>h
   | ok c e3 =>
    cases c with
    | nx=>exact fun h σ3 G3 H3 t=>⟨hlt,G3,e3,t.sr,le2.trans t.le,fz2.trans (t.fz st2.sr),PstS.shift t h⟩
    | ct=>exact fun h σ3 G3 H3 t=>⟨hlt,G3,e3,t.sr,le2.trans t.le,fz2.trans (t.fz st2.sr),PstS.shift t h⟩
    | bk=>exact fun h σ3 G3 H3 t=>h σ3 G3 H3 t
    | rt r=>exact fun h=>h
 ·have ei:i=ds.length:=by omega
  subst ei
  rw [List.drop_length] at h1
  exact .inl ⟨it.stop G1 H1 le1 sr1.bs fz1,h1 σ1 G1 H1 (St.refl sr1)⟩
theorem Ta{S:M (List D)}{F:D->M Unit}{is:List Nat}{B:M Ctl}{body:List Stmt}{pos:Pos}(hi:VI g W k X tg ex S)(hg:VG g X tg F is)(hb:VSs g W k X body B)(hs:∀ x,foldedSetIterable ex X.env x=pure x:=by intro _; rfl):VS g W k X (.For tg ex body [] pos) (Ib S F B):=by
 refine ⟨fun c=>?_⟩
 obtain ⟨t,p,q⟩:=hg.pg k W c
 refine PS.imp (ps_for c.po c.calm (hi.run c) p (hb.run c) hs) fun D σ H ⟨G,e,sr,h⟩=>⟨G,e,sr,Pst.mono (PstS.bindE h) fun ds G1 H1 e1 t1 h1 J it=>Ae6 hg q t1.sr it h1⟩
end
def Ic(e:Ve)(vs:List Nat):Bool:=vs.all fun i=>match e[i]? with
 | some .un=>true
 | some (.sh _)=>true
 | _=>false
def D5(e0 e:Ve):List Nat->Ve
 | []=>e
 | v::vs=>match e0[v]? with
  | some s=>(D5 e0 e vs).set v s
  | none=>D5 e0 e vs
section
variable{e e0:Ve}{σ:L2.St}{j:Nat}
theorem Jg(hl:j<e.length):∀ {vs:List Nat},j∈vs->(Ap e vs)[j]? = some .un
 | v::vs,h=>by
  rw [Ap,getElem?_set',Ft]
  by_cases z:v=j
  ·subst z; rw [if_pos ⟨rfl,hl⟩]
  ·rw [if_neg (fun q=>z q.1)]
   exact Jg hl ((List.mem_cons.mp h).resolve_left fun q=>z q.symm)
theorem Nz:∀ vs:List Nat,(D5 e0 e vs).length=e.length
 | []=>rfl
 | v::vs=>by
  rw [D5]
  split
  ·rw [List.length_set,Nz vs]
  ·exact Nz vs
theorem Mc:∀ {vs:List Nat},j ∉ vs->(D5 e0 e vs)[j]? = e[j]?
 | [],_=>rfl
 | v::vs,h=>by
  rw [D5]
  split
  ·rw [List.getElem?_set_ne (fun z=>h (by rw [z]; exact List.mem_cons_self))]
   exact Mc fun z=>h (List.mem_cons_of_mem _ z)
  ·exact Mc fun z=>h (List.mem_cons_of_mem _ z)
theorem N0(hl:e.length=e0.length):∀ {vs:List Nat},j∈vs->(D5 e0 e vs)[j]? = e0[j]?
 | v::vs,h=>by
  rw [D5]
  split
  ·rename_i s q
   by_cases z:v=j
   ·subst z
    rw [getElem?_set',if_pos ⟨rfl,by rw [Nz,hl]; exact C7 q⟩,q]
   ·rw [getElem?_set',if_neg (fun q=>z q.1)]
    exact N0 hl ((List.mem_cons.mp h).resolve_left fun q=>z q.symm)
  ·rename_i q
   by_cases hm:j∈vs
   ·exact N0 hl hm
   ·have z:j=v:=(List.mem_cons.mp h).resolve_right hm
    rw [Mc hm,z,q,List.getElem?_eq_none_iff.mpr]
    rw [hl]
    exact List.getElem?_eq_none_iff.mp q
end
def lcL(F:D->M Unit)(T:M Bool)(E:M Rv)(vs:List Nat):List D->M (List D)
 | []=>M.ret []
 | d::r=>(F d).bind fun _=>T.bind fun b=>if b=true then ((Ad E).bind fun y=>match y with
   | .val y=>fun e=>M.map (lcL F T E vs r) (y :: ·) (Ap e vs)
   | _=>fun _=>.no) else fun e=>lcL F T E vs r (Ap e vs)
def fLc(S:M (List D))(F:D->M Unit)(T:M Bool)(E:M Rv)(vs:List Nat):M Rv:=S.bind fun ds e=>if Ic e vs=true then (match lcL F T E vs ds (Ap e vs) with
  | .ok ys e'=>if ys.length<=sizeLine then .ok (.fresh (.lst ys)) (D5 e e' vs) else .no
  | _=>.no) else .no
structure VTs(g:Gm)(W:WX)(k:Nat)(X:Cx)(ifs:List Expr)(T:M Bool):Prop where
 run:Cd g W k X->PTs X ifs (TVT g W T)
section
variable{g:Gm}{W:WX}{k:Nat}{X:Cx}
theorem N1:VTs g W k X [] (M.ret true):=⟨fun _=>⟨fun pins s σ H Q I ⟨G,e,sr,h⟩=>pts_nil.run pins s σ H Q I (h G H (Tr.refl sr))⟩⟩
end
section
variable{g:Gm}{G H G1 H1:Hp}{σ σ1:L2.St}{e e1:Ve}{p:Addr}{o:HO}{vs:List Nat}
theorem SR.put(sr:SR g G H σ e)(n:G p=none)(nr:∀ i,¬ Rt σ e i p)(hp:∀ o,H p=some o->Pln o):SR g G (upd H p o) σ e:=by
 refine ⟨sr.bs.put n,Xd sr.tabs hp,sr.scr.keep fun o u h=>by rw [upd_ne (fun z=>by rw [z] at h; exact hp _ h)]; exact h,sr.len,fun i=>?_,sr.inj⟩
 have sl:=sr.slot i
 cases q:e[i]? with
 | none=>trivial
 | some s =>
  rw [q] at sl
  cases s with
  | un=>trivial
  | sh d=>exact sl
  | bf d=>exact sl
  | lo d =>
   obtain ⟨p',ev',n',ow⟩:=sl
   obtain ⟨ob,u,ho,_⟩:=ow.there
   exact ⟨p',ev',n',ow.mono (Le.refl G) (upd_ne fun z=>by rw [z] at ho; exact hp _ ho)⟩
  | ow d =>
   obtain ⟨p',ev',n',ow⟩:=sl
   exact ⟨p',ev',n',ow.mono (Le.refl G) (upd_ne fun z=>nr i ⟨by rw [q]; trivial,by rw [ev',z]⟩)⟩
  | bo d =>
   obtain ⟨p',ev',n',ow⟩:=sl
   exact ⟨p',ev',n',ow.mono (Le.refl G) (upd_ne fun z=>nr i ⟨by rw [q]; trivial,by rw [ev',z]⟩)⟩
theorem St.putNew(t:St g G H σ e G1 H1 σ1 e1)(h0:H p=none)(n:G1 p=none)(nr:∀ i,¬ Rt σ1 e1 i p)(hp:∀ o,H1 p=some o->Pln o):St g G H σ e G1 (upd H1 p o) σ1 e1 :=
 ⟨t.sr.put n nr hp,t.ln,t.le,fun a u h m nt=>by rw [upd_ne (ne_of_none h h0)]; exact t.keep a u h m nt,fun a h=>by
  by_cases z:a=p
  ·rw [z]; exact h0
  ·rw [upd_ne z] at h; exact t.dom a h,t.new,t.rts,t.rto,t.bor,t.bof,t.nlo⟩
theorem St.wiped(t:St g G H σ e G1 H1 σ1 e1)(ok:∀ i∈vs,(∀ d,e1[i]?≠some (.bo d))/\∀ s,Pm s=true->e1[i]?≠some s):St g G H σ e G1 H1 (wipe σ1 vs) (Ap e1 vs):=by
 have rt:∀ i p,Rt (wipe σ1 vs) (Ap e1 vs) i p->Rt σ1 e1 i p:=fun i p r=>by
  obtain ⟨r1,r2⟩:=r
  obtain ⟨h1,h2⟩:=wipe_some r2
  rw [Ep h2] at r1
  exact ⟨r1,h1⟩
 refine ⟨⟨t.sr.bs,t.sr.tabs,t.sr.scr,by rw [Ft,wipe_length]; exact t.sr.len,fun i=>?_,fun i j p a b=>t.sr.inj i j p (rt i p a) (rt j p b)⟩,by rw [Ft]; exact t.ln,t.le,t.keep,t.dom,t.new,fun i p r=>t.rts i p (rt i p r),fun i d p h1 h2=>?_,fun i d h=>?_,fun i s h fx=>?_,fun i d h=>?_⟩
 ·by_cases hi:i∈vs
  ·by_cases hl:i<e1.length
   ·rw [Jg hl hi]; trivial
   ·rw [List.getElem?_eq_none (by rw [Ft]; omega)]; trivial
  ·rw [Ep hi,wipe_out hi]; exact t.sr.slot i
 ·obtain ⟨h3,h4⟩:=wipe_some h2
  rw [Ep h4] at h1
  exact t.rto i d p h1 h3
 ·obtain ⟨x,d',y⟩:=t.bor i d h
  have hi:i ∉ vs:=fun z=>by
   rcases y with y | y
   ·exact (ok i z).1 d' y
   ·exact (ok i z).2 _ rfl y
  rw [Ep hi,wipe_out hi]
  exact ⟨x,d',y⟩
 ·obtain ⟨x,y⟩:=t.bof i s h fx
  have hi:i ∉ vs:=fun z=>(ok i z).2 s fx y
  rw [Ep hi,wipe_out hi]
  exact ⟨x,y⟩
 ·by_cases hi:i∈vs
  ·have hl:i<e1.length:=by rw [← Ft (e:=e1) vs]; exact C7 h
   rw [Jg hl hi] at h; cases h
  ·rw [Ep hi] at h; exact t.nlo i d h
theorem Ae7:wipe (wipe σ vs) vs=wipe σ vs:=Nj (wipe_length σ vs) fun j hj=>wipe_out hj
end
theorem Reps.append{g:Gm}{G:Hp}:∀ {ds ds':List D} {vs vs':List V},Reps g G ds vs->Reps g G ds' vs'->Reps g G (ds++ds') (vs++vs')
 | [],_,_,_,h,q=>by rw [show _=[] from h]; exact q
 | d::ds,_,_,_,⟨v,r,e,a,b⟩,q=>⟨v,r++_,by rw [e]; rfl,a,Reps.append b q⟩
section
variable{g:Gm}{W:WX}{k:Nat}{X:Cx}
theorem Pst.pure{α:Type}{g:Gm}{W:WX}{σ:L2.St}{G H:Hp}{e:Ve}{R:α->Hp->Hp->Ve->Prop}{a:α}{e':Ve}{r:Res α}(h:Pst g W σ G H e R r)(q:r=.ok a e'):∀ G' H',Tr g σ G H e G' H' e'->R a G' H' e':=by
 subst q; exact h
theorem lc_ok{F:D->M Unit}{is vs:List Nat}{T:M Bool}{E:M Rv}{ds:List D}{σ:L2.St}{G H:Hp}{e:Ve}{J:It}{t:TG}{ys:List D}{eF:Ve}{Q:Hp->Prop}{Da:Addr}
  (his:∀ i∈is,i∈vs)(hF:∀ d e e' j,F d e=.ok () e'->j ∉ is->e'[j]? = e[j]?)(hO:∀ d e e' j,F d e=.ok () e'->j∈is->∃ d',e'[j]? = some (.sh d'))(hL:∀ d e e',F d e=.ok () e'->e'.length=e.length)
  (q:∀ (G H G0 H0:Hp) (σ σ0:L2.St) (e e0 e':Ve) (d:Vs.D) (v:V) (Q:L2.St->Hp->Prop),St g G0 H0 σ0 e0 G H σ e->Rep g G d v->F d e=.ok () e'->(∀ σ',St g G0 H0 σ0 e0 G H σ' e'->(∀ j,j ∉ is->σ'[j]? = σ[j]?)->Q σ' H)->t v σ H Q)
  (sr:SR g G H σ e)(it:ItOk g G H J ds)(ok:Ic e vs=true)(h:lcL F T E vs ds (Ap e vs)=.ok ys eF)(hz:ys.length<=sizeLine)(hD:H Da=none)
  (fin:∀ G' H',Tr g σ G H e G' H' (D5 e eF vs)->(∃ acc,H' Da=some (.lst acc)/\Reps g G' ys acc)->G' Da=none->(∀ i,¬ Rt σ (D5 e eF vs) i Da)->Q H') :
  ∃ W':Nat->Nat->Hp->Prop,(∃ m,W' 0 m (upd H Da (.lst [])))/\∀ i m H,W' i m H->(J.stop i H/\Q H)\/(J.go i H/\∃ Nx:Hp->Prop,(∀ H',Nx H'->∃ m',m'<m/\W' (i+1) m' H') /\
   ∀ x H',J.yld i H x H'->t x (wipe σ vs) H' fun σ2 H2=>wipe σ2 vs=wipe σ vs/\TVT g W0 T σ2 H2 fun b H3=>if b=true then TV g W0 (Ad E) σ2 H3 fun y H4=>∃ acc,H4 Da=some (.lst acc)/\acc.length<sizeLine/\Nx (upd H4 Da (.lst (acc++[y]))) else Nx H3):=by
 have okb:∀ i∈vs,(e[i]? = some .un)\/∃ d,e[i]? = some (.sh d):=fun i hi=>by
  have h1:=List.all_eq_true.mp ok i hi
  revert h1
  cases e[i]? with
  | none=>exact fun z=>nomatch z
  | some s =>
   cases s with
   | un=>exact fun _=>.inl rfl
   | sh d=>exact fun _=>.inr ⟨d,rfl⟩
   | ow d=>exact fun z=>nomatch z
   | bo d=>exact fun z=>nomatch z
   | bf d=>exact fun z=>nomatch z
   | lo d=>exact fun z=>nomatch z
 have st0:St g G H σ e G H (wipe σ vs) (Ap e vs):=St.wiped (St.refl sr) fun i hi=>by
  rcases okb i hi with z | ⟨d',z⟩ <;> rw [z] <;> exact ⟨(fun d y=>nomatch y),(fun s fx y=>by cases y; cases fx)⟩
 have nrt0:∀ {G' H':Hp} {e':Ve},St g G H σ e G' H' (wipe σ vs) e'->VeOff vs (Ap e vs) e'->(∀ j∈vs,j<e.length->e'[j]? = some .un)->∀ i p,Rt (wipe σ vs) e' i p->Rt σ e i p:=fun {G' H' e'} st vo un i p r=>by
  obtain ⟨r1,r2⟩:=r
  obtain ⟨h1,h2⟩:=wipe_some r2
  refine ⟨?_,h1⟩
  have hlt:i<e.length:=by rw [sr.len]; exact C7 h1
  obtain ⟨s,hs⟩:∃ s,e[i]? = some s:=⟨e[i],List.getElem?_eq_getElem hlt⟩
  obtain ⟨s',hs',l⟩:=vo.2 i s h2 (by rw [Ep h2]; exact hs)
  rw [hs'] at r1
  rw [hs]
  exact Pn l r1
 let Inv:=fun (i:Nat) (H':Hp)=>∃ G' e' acc ys1 zs,St g G H σ e G' H' (wipe σ vs) e'/\VeOff vs (Ap e vs) e'/\(∀ j∈vs,j<e.length->e'[j]? = some .un)/\H' Da=some (.lst acc)/\G' Da=none/\Reps g G' ys1 acc/\Fz H H'/\lcL F T E vs (ds.drop i) e'=.ok zs eF/\ys=ys1++zs
 have nda:∀ {G' H':Hp} {e':Ve},St g G H σ e G' H' (wipe σ vs) e'->VeOff vs (Ap e vs) e'->(∀ j∈vs,j<e.length->e'[j]? = some .un)->∀ i,¬ Rt (wipe σ vs) e' i Da:=fun st vo un i r=>(sr.root (nrt0 st vo un i Da r)).2 hD
 refine ⟨fun i m H'=>m=ds.length-i/\i<=ds.length/\Inv i H',⟨_,rfl,Nat.zero_le _,G,Ap e vs,[],[],ys,?_,⟨rfl,fun j s _ h=>⟨s,h,SlLe.refl s⟩⟩,fun j hj hl=>Jg hl hj,upd_same,sr.bs.hn hD,rfl,fun a o u h=>by rw [upd_ne (ne_of_none h hD)]; exact h,h,rfl⟩,?_⟩
 ·refine st0.putNew hD (sr.bs.hn hD) (fun i r=>?_) ?_
  ·skip
   have vo:VeOff vs (Ap e vs) (Ap e vs):=⟨rfl,fun j s _ h=>⟨s,h,SlLe.refl s⟩⟩
   exact nda st0 vo (fun j hj hl=>Jg hl hj) i r
  ·intro o z; rw [hD] at z; cases z
 rintro i m H1 ⟨rfl,hi,G1,e1,acc,ys1,zs,st1,vo1,un1,hD1,nD1,rp1,fz1,hl1,ey⟩
 have le1:=st1.le
 by_cases hlt:i<ds.length
 ·refine .inr ⟨it.go i G1 H1 le1 st1.sr.bs fz1 hlt,fun H'=>i+1<=ds.length/\Inv (i+1) H',fun H' hN=>⟨ds.length-(i+1),by omega,rfl,hN⟩,fun x H2 y=>?_⟩
  obtain ⟨d,G2,ed,gr,rd⟩:=it.yld i G1 H1 x H2 le1 st1.sr.bs fz1 hlt y
  have st2:=st1.trans (gr.tr st1.sr).st
  have ed':ds.drop i=d::ds.drop (i+1):=by
   rw [List.drop_eq_getElem_cons hlt]
   rw [List.getElem?_eq_getElem hlt] at ed
   rw [Option.some.inj ed]
  have fz2:Fz H H2:=fz1.trans gr.fz
  have hD2:H2 Da=some (.lst acc):=gr.keep _ _ hD1
  have nD2:G2 Da=none:=gr.new _ nD1 (by rw [hD1]; exact fun z=>nomatch z)
  have rp2:=rp1.mono gr.le
  rw [ed'] at hl1
  simp only [lcL] at hl1
  cases qf:F d e1 with
  | no=>simp only [M.bind,qf] at hl1; cases hl1
  | er x e'=>simp only [M.bind,qf] at hl1; cases hl1
  | ok u e2 =>
   refine q G2 H2 G H (wipe σ vs) σ e1 e e2 d x _ st2 rd qf fun σ2 st3 off3=>?_
   have len2:e2.length=e1.length:=hL d e1 e2 qf
   have hle1:e1.length=e.length:=by rw [vo1.1,Ft]
   have lenσ:σ2.length=(wipe σ vs).length:=by rw [← st3.sr.len,len2,hle1,sr.len,wipe_length]
   have ew:wipe σ2 vs=wipe σ vs:=by
    rw [Nj lenσ fun j hj=>off3 j fun z=>hj (his j z),Ae7]
   refine ⟨ew,?_⟩
   have vo2:VeOff vs (Ap e vs) e2:=vo1.trans ⟨len2,fun j s n h=>⟨s,by rw [hF d e1 e2 j qf fun z=>n (his j z)]; exact h,SlLe.refl s⟩⟩
   have un2:∀ j∈vs,∀ s,e2[j]? = some s->s=.un\/∃ d,s=.sh d:=fun j hj s h=>by
    by_cases hm:j∈is
    ·obtain ⟨d',h'⟩:=hO d e1 e2 j qf hm
     rw [h'] at h; cases h; exact .inr ⟨d',rfl⟩
    ·rw [hF d e1 e2 j qf hm] at h
     have:j<e.length:=by rw [← hle1]; exact C7 h
     rw [un1 j hj this] at h; cases h; exact .inl rfl
   have nr2:∀ i,¬ Rt σ2 e2 i Da:=fun i r=>by
    rcases st3.rts i Da r with ⟨j,r'⟩ | r'
    ·exact (sr.root r').2 hD
    ·by_cases hm:i∈vs
     ·obtain ⟨r1,_⟩:=r
      cases qq:e2[i]? with
      | none=>rw [qq] at r1; exact r1
      | some s =>
       rw [qq] at r1
       rcases un2 i hm s qq with rfl | ⟨d',rfl⟩ <;> exact r1
     ·obtain ⟨r1,r2⟩:=r
      rw [off3 i fun z=>hm (his i z)] at r2
      rw [hF d e1 e2 i qf fun z=>hm (his i z)] at r1
      exact nda st1 vo1 un1 i ⟨r1,r2⟩
   have hl2:M.bind T (fun b=>if b=true then ((Ad E).bind fun y=>match y with
     | .val y=>fun e=>M.map (lcL F T E vs (ds.drop (i+1))) (y :: ·) (Ap e vs)
     | _=>fun _=>.no) else fun e=>lcL F T E vs (ds.drop (i+1)) (Ap e vs)) e2=.ok zs eF:=by
    have:=hl1
    unfold M.bind at this
    rw [qf] at this
    exact this
   have turn:∀ {G4 H4:Hp} {e4:Ve} {acc':List V} {ys' zs':List D},Tr g σ2 G2 H2 e2 G4 H4 e4->H4 Da=some (.lst acc)->Reps g G4 ys' acc'->lcL F T E vs (ds.drop (i+1)) (Ap e4 vs)=.ok zs' eF->ys=ys'++zs' ->
     i+1<=ds.length/\Inv (i+1) (upd H4 Da (.lst acc')):=fun {G4 H4 e4 acc' ys' zs'} t4 hD4 rp4 hl4 ey4=>by
    have nD4:G4 Da=none:=t4.new _ nD2 (by rw [hD2]; exact fun z=>nomatch z) nr2
    have un4:∀ j∈vs,∀ s,e4[j]? = some s->s=.un\/∃ d,s=.sh d:=fun j hj s h=>by
     have hl:j<e2.length:=by rw [← t4.ve.len]; exact C7 h
     obtain ⟨s',h',l⟩:=t4.ve.at_ j e2[j] (List.getElem?_eq_getElem hl)
     rw [h] at h'; cases h'
     rcases un2 j hj _ (List.getElem?_eq_getElem hl) with z | ⟨d',z⟩
     ·rw [z] at l; exact .inl l
     ·rw [z] at l; exact .inr ⟨d',l⟩
    have st4:=st3.trans t4.st
    have st5:St g G H σ e G4 H4 (wipe σ2 vs) (Ap e4 vs):=st4.wiped fun j hj=>⟨(fun d' z=>by
     rcases un4 j hj _ z with y | ⟨_,y⟩ <;> cases y),(fun s fx z=>by
     rcases un4 j hj _ z with y | ⟨_,y⟩ <;> rw [y] at fx <;> cases fx)⟩
    rw [ew] at st5
    have vo4:VeOff vs (Ap e vs) (Ap e4 vs):=(vo2.trans t4.ve.off).trans VeOff.wipe
    have hle4:e4.length=e.length:=by rw [t4.ve.len,len2,hle1]
    have un5:∀ j∈vs,j<e.length->(Ap e4 vs)[j]? = some .un:=fun j hj hl=>Jg (by rw [hle4]; exact hl) hj
    have nr5:=nda st5 vo4 un5
    refine ⟨hlt,G4,Ap e4 vs,acc',ys',zs',st5.putNew hD nD4 nr5 (fun o z=>by rw [hD4] at z; cases z; trivial),vo4,un5,upd_same,nD4,rp4,fun a o u h=>?_,hl4,ey4⟩
    rw [upd_ne (ne_of_none h hD)]
    exact st4.fz sr a o u h
   have sr3:=st3.sr
   refine ⟨G2,e2,sr3,?_⟩
   cases qt:T e2 with
   | no=>simp only [M.bind,qt] at hl2; cases hl2
   | er x e'=>simp only [M.bind,qt] at hl2; cases hl2
   | ok b e3 =>
    intro G3 H3 t3
    simp only [M.bind,qt] at hl2
    have hD3:H3 Da=some (.lst acc):=t3.keep _ _ hD2 nr2 (fun ps z=>nomatch z)
    cases b with
    | false =>
     simp only [Bool.false_eq_true,if_false] at hl2 ⊢
     have hh:=turn t3 hD3 (rp2.mono t3.le) hl2 ey
     have e0:upd H3 Da (.lst acc)=H3:=by
      funext a
      by_cases z:a=Da
      ·rw [z,upd_same,hD3]
      ·rw [upd_ne z]
     rw [e0] at hh
     exact hh
    | true =>
     rw [if_pos rfl] at hl2 ⊢
     refine ⟨G3,e3,t3.sr,?_⟩
     unfold M.bind at hl2
     cases qe:Ad E e3 with
     | no=>rw [qe] at hl2; cases hl2
     | er x e'=>rw [qe] at hl2; cases hl2
     | ok r e4 =>
      intro G4 H4 t4 v rv
      rw [qe] at hl2
      cases r with
      | slot i=>cases hl2
      | fresh d=>cases hl2
      | val yd =>
       have t34:=t3.trans t4
       have hD4:H4 Da=some (.lst acc):=t34.keep _ _ hD2 nr2 (fun ps z=>nomatch z)
       have hl2:M.map (lcL F T E vs (ds.drop (i+1))) (yd :: ·) (Ap e4 vs)=.ok zs eF:=hl2
       unfold M.map M.bind M.ret at hl2
       cases ql:lcL F T E vs (ds.drop (i+1)) (Ap e4 vs) with
       | no=>rw [ql] at hl2; cases hl2
       | er x e'=>rw [ql] at hl2; cases hl2
       | ok zs' eF' =>
        rw [ql] at hl2
        cases hl2
        refine ⟨acc,hD4,?_,turn t34 hD4 (ys':=ys1++[yd]) (acc':=acc++[v]) ((rp2.mono t34.le).append ⟨v,[],rfl,rv,rfl⟩) ql (by rw [ey]; simp)⟩
        have h1:=(rp1).len
        have h2:ys.length=ys1.length+(zs'.length+1):=by rw [ey]; simp
        omega
 ·have ei:i=ds.length:=by omega
  subst ei
  rw [List.drop_length] at hl1
  obtain ⟨rfl,rfl⟩:zs=[]/\e1=eF:=by
   cases hl1; exact ⟨rfl,rfl⟩
  refine .inl ⟨it.stop G1 H1 le1 st1.sr.bs fz1,?_⟩
  rw [List.append_nil] at ey
  subst ey
  have hle1:e1.length=e.length:=by rw [vo1.1,Ft]
  have rtr:∀ i p,Rt σ (D5 e e1 vs) i p->Rt (wipe σ vs) e1 i p/\Rt σ e i p:=fun i p r=>by
   obtain ⟨r1,r2⟩:=r
   by_cases hm:i∈vs
   ·rw [N0 hle1 hm] at r1
    rcases okb i hm with z | ⟨d,z⟩ <;> rw [z] at r1 <;> exact r1.elim
   ·rw [Mc hm] at r1
    have a:Rt (wipe σ vs) e1 i p:=⟨r1,by rw [wipe_out hm]; exact r2⟩
    exact ⟨a,nrt0 st1 vo1 un1 i p a⟩
  have rte:∀ i p,Rt σ e i p->i ∉ vs:=fun i p r hm=>by
   obtain ⟨r1,_⟩:=r
   rcases okb i hm with z | ⟨d,z⟩ <;> rw [z] at r1 <;> exact r1
  refine fin G1 H1 ⟨⟨st1.sr.bs,st1.sr.tabs,st1.sr.scr,by rw [Nz,hle1]; exact sr.len,fun i=>?_,fun i j p a b=>st1.sr.inj i j p (rtr i p a).1 (rtr j p b).1⟩,st1.le,st1.keep,st1.dom,st1.new,⟨by rw [Nz,hle1],fun i s hs=>?_⟩⟩ ⟨acc,hD1,rp1⟩ nD1 fun i r=>nda st1 vo1 un1 i (rtr i Da r).1
  ·by_cases hm:i∈vs
   ·rw [N0 hle1 hm]
    have sl:=sr.slot i
    rcases okb i hm with z | ⟨d,z⟩
    ·rw [z]; trivial
    ·rw [z] at sl ⊢
     obtain ⟨v,ev,r⟩:=sl
     exact ⟨v,ev,r.mono st1.le⟩
   ·rw [Mc hm]
    have sl:=st1.sr.slot i
    rw [wipe_out hm] at sl
    exact sl
  ·by_cases hm:i∈vs
   ·exact ⟨s,by rw [N0 hle1 hm]; exact hs,SlLe.refl s⟩
   ·obtain ⟨s',h',l⟩:=vo1.2 i s hm (by rw [Ep hm]; exact hs)
    exact ⟨s',by rw [Mc hm]; exact h',l⟩
end
section
variable{g:Gm}{W:WX}{k:Nat}{X:Cx}{elt tg iter:Expr}{ifs:List Expr}{scope:Scope}{own:List (Str×Nat)}{pos:Pos}{S:M (List D)}{F:D->M Unit}{is:List Nat}{T:M Bool}{E:M Rv}
theorem Cd.blk(c:Cd g W k X)(s:Shared)(H:Hp)(scope:Scope)(cenv:PySem.Env)(fp:List Addr):Cd g W0 k (X.blk s H scope cenv fp) :=
 ⟨c.K,c.w,c.calm,takes0,c.room,PassesOwn.never,c.nd⟩
theorem Xr{t:TG}{σ:L2.St}{H:Hp}{Q:VK}(his:∀ i∈is,i∈own.map (·.2))(hg:∃ X',VG g X' tg F is)
  (q:∀ (G H G0 H0:Hp) (σ σ0:L2.St) (e e0 e':Ve) (d:Vs.D) (v:V) (Q:L2.St->Hp->Prop),St g G0 H0 σ0 e0 G H σ e->Rep g G d v->F d e=.ok () e'->(∀ σ',St g G0 H0 σ0 e0 G H σ' e'->(∀ j,j ∉ is->σ'[j]? = σ[j]?)->Q σ' H)->t v σ H Q)
  (h:TV g W (fLc S F T E (own.map (·.2))) σ H Q):tLc (TVI g W S) t (TVT g W0 T) (TV g W0 (Ad E)) (own.map (·.2)) σ H Q:=by
 obtain ⟨X',hg⟩:=hg
 obtain ⟨G,e,sr,h⟩:=h
 refine ⟨G,e,sr,Pst.mono (Pst.bind h) fun ds G1 H1 e1 t1 h1 J it Da nD=>?_⟩
 by_cases ok:Ic e1 (own.map (·.2))=true
 ·rw [if_pos ok] at h1
  cases ql:lcL F T E (own.map (·.2)) ds (Ap e1 (own.map (·.2))) with
  | no=>rw [ql] at h1; exact h1.elim
  | er x e'=>rw [ql] at h1; exact h1.elim
  | ok ys eF =>
   rw [ql] at h1
   simp only at h1
   by_cases hz:ys.length<=sizeLine
   ·rw [if_pos hz] at h1
    exact lc_ok his hg.off hg.oth hg.len q t1.sr it ok ql hz nD fun G' H' t2 ⟨acc,ha,rp⟩ n nr=>h1 G' H' t2 (.ref Da) ⟨Da,rfl,n,⟨acc,ha,rp⟩,t1.dom Da nD,nr⟩
   ·rw [if_neg hz] at h1; exact h1.elim
 ·rw [if_neg ok] at h1; exact h1.elim
theorem P0(hi:VI g W k X tg iter S)(ok:BlkOk X.N X.env.scope scope own)(his:∀ i∈is,i∈own.map (·.2))
  (hg:∀ (s:Shared) (H:Hp) (C:Addr) (cl:List (Str×Addr)) (fp:List Addr),VG g (X.blk s H scope (compEnvC scope cl C X.env) fp) tg F is)
  (ht:∀ (s:Shared) (H:Hp) (C:Addr) (cl:List (Str×Addr)) (fp:List Addr),VTs g W0 k (X.blk s H scope (compEnvC scope cl C X.env) fp) ifs T)
  (he:∀ (s:Shared) (H:Hp) (C:Addr) (cl:List (Str×Addr)) (fp:List Addr),VE g W0 k (X.blk s H scope (compEnvC scope cl C X.env) fp) elt E)(hs:∀ x,foldedSetIterable iter X.env x=pure x:=by intro _; rfl) :
  VE g W k X (.ListComp elt [⟨tg,iter,ifs,0⟩] scope pos) (fLc S F T E (own.map (·.2))):=by
 refine ⟨fun c=>?_⟩
 have one:∃ t:TG,(∀ (s:Shared) (H:Hp) (C:Addr) (cl:List (Str×Addr)) (fp:List Addr),PG (X.blk s H scope (compEnvC scope cl C X.env) fp) tg t) /\
   ∀ (G H G0 H0:Hp) (σ σ0:L2.St) (e e0 e':Ve) (d:Vs.D) (v:V) (Q:L2.St->Hp->Prop),St g G0 H0 σ0 e0 G H σ e->Rep g G d v->F d e=.ok () e'->(∀ σ',St g G0 H0 σ0 e0 G H σ' e'->(∀ j,j ∉ is->σ'[j]? = σ[j]?)->Q σ' H)->t v σ H Q:=by
  refine ⟨fun v σ H Q=>∃ G G0 H0 σ0 e e0 e' d,St g G0 H0 σ0 e0 G H σ e/\Rep g G d v/\F d e=.ok () e'/\∀ σ',St g G0 H0 σ0 e0 G H σ' e'->(∀ j,j ∉ is->σ'[j]? = σ[j]?)->Q σ' H,fun s H C cl fp=>?_,fun G H G0 H0 σ σ0 e e0 e' d v Q a b c q=>⟨G,G0,H0,σ0,e,e0,e',d,a,b,c,q⟩⟩
  obtain ⟨t,p,q⟩:=(hg s H C cl fp).pg k W0 (c.blk s H scope _ fp)
  exact ⟨fun pins s σ H v u Q I r ⟨G,G0,H0,σ0,e,e0,e',d,a,b,c,q'⟩=>p.run pins s σ H v u Q I r (q G H G0 H0 σ σ0 e e0 e' d v Q a b c q')⟩
 obtain ⟨t,p,q⟩:=one
 have pe:=pe_lc (pos:=pos) c.calm c.nd (hi.run c) ok p (fun s H C cl fp=>(ht s H C cl fp).run (c.blk s H scope _ fp)) (fun s H C cl fp=>(Am (he s H C cl fp)).run (c.blk s H scope _ fp)) hs
 exact ⟨fun pins s σ H Q I h=>pe.run pins s σ H Q I (Xr his ⟨_,hg s H 0 [] []⟩ q h)⟩
end
def Fg(r:Rv):M Rv:=match r with
 | .val d=>M.ret (.val d)
 | .fresh d=>M.ret (.fresh d)
 | .slot i=>fun e=>match e[i]? with
  | some (.ow d)=>.ok (.fresh d) e
  | _=>M.map (Bz (.slot i)) Rv.val e
def backV:List Sl->Ve->List Sl
 | .bo _::as,s::r=>s::backV as r
 | a::as,_::r=>a::backV as r
 | as,[]=>as
 | [],_=>[]
def Gz:Sl->Bool
 | .sh _=>true
 | .bo _=>true
 | _=>false
def fnF(np n:Nat)(body:M Ctl)(args:List Sl):Res Rv:=if args.length=np then (match body (args++List.replicate (n-args.length) .un) with
 | .ok .nx e'=>.ok (.val .non) (backV args e')
 | .ok (.rt r) e'=>(match Fg r e' with
  | .ok r' e2=>.ok r' (backV args e2)
  | _=>.no)
 | .er x e'=>.er x (backV args e')
 | _=>.no) else .no
def WR(E:XK):WX:=fun cls d _ H=>E cls d H
def spV(g:Gm)(n:Nat)(F:List Sl->Res Rv):Sp:=fun vs H Q E=>vs.length=n/\∃ G args,args.all Gz=true/\SR g G H (vs.map some) args /\
 Pst g (WR E) (vs.map some) G H args (fun r G' H' e'=>∀ v,RvNew g G' H' H r v->Q v H') (F args)
section
variable{g:Gm}{G H G1 H1:Hp}{e1:Ve}{vs:List V}{as:List Sl}{N:List Str}
theorem Ie:∀ {as:List Sl} {e:Ve},(backV as e).length=as.length
 | [],[]=>rfl
 | [],_::_=>rfl
 | a::as,[]=>by cases a <;> rfl
 | a::as,s::r=>by
  cases a <;> simp [backV,Ie]
theorem Tc:∀ {as:List Sl} {e:Ve} {i:Nat} {a:Sl},as.length<=e.length->as[i]? = some a->(backV as e)[i]? = match a with
  | .bo _=>e[i]?
  | a=>some a
 | [],_,_,_,_,h=>by simp at h
 | b::as,[],i,a,hl,h=>by simp at hl
 | b::as,s::r,0,a,hl,h=>by
  cases h
  cases b <;> rfl
 | b::as,s::r,i+1,a,hl,h=>by
  have ih:=Tc (as:=as) (e:=r) (i:=i) (a:=a) (by simpa using hl) (by simpa using h)
  cases b <;> simpa [backV] using ih
theorem P1(sr:SR g G H (vs.map some) as):SR g G H (L2.start N vs) (as++List.replicate (N.length-as.length) .un):=by
 have hl:as.length=vs.length:=by rw [sr.len,List.length_map]
 have off:∀ i,¬ i<as.length->∀ s,(as++List.replicate (N.length-as.length) Sl.un)[i]? = some s->s=.un:=fun i hi s h=>by
  rw [List.getElem?_append_right (by omega)] at h
  exact List.eq_of_mem_replicate (List.mem_of_getElem? h)
 have on:∀ i,i<as.length->(as++List.replicate (N.length-as.length) Sl.un)[i]? = as[i]?/\(L2.start N vs)[i]? = (vs.map some)[i]?:=fun i hi=>by
  refine ⟨List.getElem?_append_left hi,?_⟩
  unfold L2.start
  exact List.getElem?_append_left (by rw [List.length_map]; omega)
 have rt:∀ i p,Rt (L2.start N vs) (as++List.replicate (N.length-as.length) .un) i p->Rt (vs.map some) as i p:=fun i p r=>by
  obtain ⟨r1,r2⟩:=r
  by_cases hi:i<as.length
  ·rw [(on i hi).1] at r1
   rw [(on i hi).2] at r2
   exact ⟨r1,r2⟩
  ·exfalso
   cases q:(as++List.replicate (N.length-as.length) Sl.un)[i]? with
   | none=>rw [q] at r1; exact r1
   | some s=>rw [q,off i hi s q] at r1; exact r1
 refine ⟨sr.bs,sr.tabs,sr.scr,?_,fun i=>?_,fun i j p a b=>sr.inj i j p (rt i p a) (rt j p b)⟩
 ·unfold L2.start
  simp [hl]
 ·by_cases hi:i<as.length
  ·rw [(on i hi).1,(on i hi).2]
   exact sr.slot i
  ·cases q:(as++List.replicate (N.length-as.length) Sl.un)[i]? with
   | none=>trivial
   | some s=>rw [off i hi s q]; trivial
theorem N2{i:Nat}{p:Addr}(hl:as.length=vs.length)(r:Rt (L2.start N vs) (as++List.replicate (N.length-as.length) .un) i p):Rt (vs.map some) as i p:=by
 obtain ⟨r1,r2⟩:=r
 by_cases hi:i<as.length
 ·rw [List.getElem?_append_left hi] at r1
  unfold L2.start at r2
  rw [List.getElem?_append_left (by rw [List.length_map]; omega)] at r2
  exact ⟨r1,r2⟩
 ·exfalso
  cases q:(as++List.replicate (N.length-as.length) Sl.un)[i]? with
  | none=>rw [q] at r1; exact r1
  | some s =>
   rw [q] at r1
   rw [List.getElem?_append_right (by omega)] at q
   rw [List.eq_of_mem_replicate (List.mem_of_getElem? q)] at r1
   exact r1
theorem Jh{σ1:L2.St}(ok:as.all Gz=true)(sr:SR g G H (vs.map some) as)(t:St g G H (L2.start N vs) (as++List.replicate (N.length-as.length) .un) G1 H1 σ1 e1):Tr g (vs.map some) G H as G1 H1 (backV as e1):=by
 have hl:as.length=vs.length:=by rw [sr.len,List.length_map]
 have on:∀ i a,as[i]? = some a->(as++List.replicate (N.length-as.length) Sl.un)[i]? = some a/\(L2.start N vs)[i]? = (vs.map some)[i]?:=fun i a h=>by
  have hi:=C7 h
  refine ⟨by rw [List.getElem?_append_left hi]; exact h,?_⟩
  unfold L2.start
  exact List.getElem?_append_left (by rw [List.length_map]; omega)
 have okA:∀ (i:Nat) a,as[i]? = some a->(∃ d,a=.sh d)\/∃ d,a=.bo d:=fun i a h=>by
  have:=List.all_eq_true.mp ok a (List.mem_of_getElem? h)
  cases a with
  | un=>cases this
  | sh d=>exact .inl ⟨d,rfl⟩
  | ow d=>cases this
  | bo d=>exact .inr ⟨d,rfl⟩
  | bf d=>cases this
  | lo d=>cases this
 have be:∀ (i:Nat) a,as[i]? = some a->(∃ d,a=.sh d/\(backV as e1)[i]? = some (.sh d))\/(∃ d,a=.bo d/\(backV as e1)[i]? = e1[i]?/\σ1[i]? = (vs.map some)[i]?/\∃ d',e1[i]? = some (.bo d')\/e1[i]? = some (.bf d')):=fun i a h=>by
  obtain ⟨o1,o2⟩:=on i a h
  have hle:as.length<=e1.length:=by rw [t.ln]; simp
  have q:=Tc hle h
  rcases okA i a h with ⟨d,rfl⟩ | ⟨d,rfl⟩
  ·exact .inl ⟨d,rfl,q⟩
  ·obtain ⟨x,y⟩:=t.bor i d o1
   exact .inr ⟨d,rfl,q,x.trans o2,y⟩
 have rtb:∀ i p,Rt (vs.map some) (backV as e1) i p->Rt σ1 e1 i p/\Rt (vs.map some) as i p:=fun i p r=>by
  obtain ⟨r1,r2⟩:=r
  cases q:as[i]? with
  | none =>
   exfalso
   have:(backV as e1)[i]? = none:=by
    rw [List.getElem?_eq_none_iff] at q ⊢
    rw [Ie]; exact q
   rw [this] at r1; exact r1
  | some a =>
   rcases be i a q with ⟨d,rfl,h1⟩ | ⟨d,rfl,h1,h2,_⟩
   ·rw [h1] at r1; exact r1.elim
   ·exact ⟨⟨by rw [← h1]; exact r1,by rw [h2]; exact r2⟩,⟨by rw [q]; trivial,r2⟩⟩
 refine ⟨⟨t.sr.bs,t.sr.tabs,t.sr.scr,by rw [Ie]; exact sr.len,fun i=>?_,fun i j p a b=>t.sr.inj i j p (rtb i p a).1 (rtb j p b).1⟩,t.le,fun a o h n nt=>t.keep a o h (fun i r=>n i (N2 hl r)) nt,t.dom,fun a h1 h2 n=>t.new a h1 h2 fun i r=>n i (N2 hl r),⟨Ie,fun i s hs=>?_⟩⟩
 ·cases q:as[i]? with
  | none =>
   have:(backV as e1)[i]? = none:=by
    rw [List.getElem?_eq_none_iff] at q ⊢
    rw [Ie]; exact q
   rw [this]; trivial
  | some a =>
   rcases be i a q with ⟨d,rfl,h1⟩ | ⟨d,rfl,h1,h2,_⟩
   ·have sl:=sr.slot i
    rw [q] at sl
    rw [h1]
    obtain ⟨v,ev,r⟩:=sl
    exact ⟨v,ev,r.mono t.le⟩
   ·have sl:=t.sr.slot i
    rw [h1,← h2]
    exact sl
 ·rcases be i s hs with ⟨d,rfl,h1⟩ | ⟨d,rfl,h1,h2,d',h3⟩
  ·exact ⟨_,h1,SlLe.refl _⟩
  ·rcases h3 with h3 | h3
   ·exact ⟨_,h1.trans h3,d',.inl rfl⟩
   ·exact ⟨_,h1.trans h3,d',.inr rfl⟩
theorem Xs{σ1:L2.St}{r r':Rv}{e2:Ve}{v:V}(ok:as.all Gz=true)(sr:SR g G H (vs.map some) as)(t:St g G H (L2.start N vs) (as++List.replicate (N.length-as.length) .un) G1 H1 σ1 e1)(rv:RvOk g G1 H1 σ1 e1 H r v)(h:Fg r e1=.ok r' e2) :
  ∃ G2,Tr g (vs.map some) G H as G2 H1 (backV as e2)/\RvNew g G2 H1 H r' v:=by
 have hl:as.length=vs.length:=by rw [sr.len,List.length_map]
 cases r with
 | val d=>cases h; exact ⟨G1,Jh ok sr t,rv⟩
 | fresh d =>
  cases h
  obtain ⟨p,ev,n,o,h0,_⟩:=rv
  exact ⟨G1,Jh ok sr t,p,ev,n,o,h0⟩
 | slot i =>
  obtain ⟨ev,s,es,ns⟩:=id rv
  simp only [Fg] at h
  have gen:M.map (Bz (.slot i)) Rv.val e1=.ok r' e2->∃ G2,Tr g (vs.map some) G H as G2 H1 (backV as e2)/\RvNew g G2 H1 H r' v:=fun h=>by
   unfold M.map M.bind M.ret at h
   cases q:Bz (.slot i) e1 with
   | no=>rw [q] at h; cases h
   | er x e'=>rw [q] at h; cases h
   | ok d e3 =>
    rw [q] at h
    cases h
    obtain ⟨G2,t2,rp⟩:=Ni (Tr.refl t.sr) (r:=.slot i) (v:=v) ⟨ev,s,es,ns⟩ q
    exact ⟨G2,Jh ok sr (t.trans t2.st),rp⟩
  rw [es] at h
  cases s with
  | un=>exact absurd rfl ns
  | sh d=>exact gen h
  | bo d=>exact gen h
  | bf d=>exact gen h
  | lo d=>exact gen h
  | ow d =>
   cases h
   have sl:=t.sr.slot i
   rw [es] at sl
   obtain ⟨p,ep,n,o⟩:=sl
   rw [ep] at ev
   cases ev
   refine ⟨G1,Jh ok sr t,p,rfl,n,o,?_⟩
   rcases t.rto i d p es ep with ⟨j,d0,q1,q2⟩ | q
   ·exfalso
    by_cases hj:j<as.length
    ·rw [List.getElem?_append_left hj] at q1
     have:=List.all_eq_true.mp ok _ (List.mem_of_getElem? q1)
     cases this
    ·rw [List.getElem?_append_right (by omega)] at q1
     cases List.eq_of_mem_replicate (List.mem_of_getElem? q1)
   ·exact q
end
def spR(g:Gm)(F:List Sl->Res Rv):Sp:=fun vs H Q E=>∃ G args,args.all Gz=true/\SR g G H (vs.map some) args /\
 Pst g (WR E) (vs.map some) G H args (fun r G' H' e'=>∀ v,RvNew g G' H' H r v->Q v H') (F args)
structure FnG(P:Program)(w:World)(K:PySem.W.Frag)(mg:Str->Option Value)(base:Heap)(CXa:CXT)(k:Nat)(f:Addr)(fd:FuncData)(ps:List Str)(sp:Sp):Prop where
 len:∀ vs H Q E,sp vs H Q E->vs.length=ps.length
 run:∀ (A:Around) (outer:List PySem.Env) (s:Shared) (H:Hp) (args:Args) (us:List Value) (vs:List V) (Q:VK) (E:XK),Rm k A->Env0 P w K mg base A outer s H->BindsTo s fd args (ps.zip us)->Vals vs us->sp vs H Q E ->
  codeAny (model P w) A (.call (.ref f) args) (CR CXa outer P w H s Q E) s
theorem FnG.raw{P:Program}{w:World}{K:PySem.W.Frag}{mg:Str->Option Value}{base:Heap}{CXa:CXT}{k:Nat}{f:Addr}{fd:FuncData}{ps:List Str}{sp:Sp}{ds:List Value}{dvs:List V}(F:FnG P w K mg base CXa k f fd ps sp)(hb:Binds K fd ps ds)(hd:Vals dvs ds)
  (A:Around)(outer:List PySem.Env)(s:Shared)(H:Hp)(us:List Value)(vs:List V)(Q:VK)(E:XK)(hr:Rm k A)(e0:Env0 P w K mg base A outer s H)(r:Vals vs us)(hs:sp (vs++dvs) H Q E):codeAny (model P w) A (.call (.ref f) ⟨us,[]⟩) (CR CXa outer P w H s Q E) s :=
 have r2:Vals (vs++dvs) (us++ds):=r.append hd
 F.run A outer s H ⟨us,[]⟩ (us++ds) (vs++dvs) Q E hr e0 (hb s us (e0.mod.kin.keeps fun b o e=>(e0.bs b o e).1) (by rw [← r2.length]; exact F.len _ _ _ _ hs)) r2 hs
theorem P4{CXa:CXT}{P:Program}{w:World}{K:PySem.W.Frag}{mg:Str->Option Value}{base:Heap}{k:Nat}{f:Addr}{name qual:Str}{params:Arguments}{body:List Stmt}{scope:Scope}{dV kV doc pm cdv ct oc:Value}{an od:Option Addr}
  {osl:Array (Option Value)}{N ps:List Str}{sp:Sp}(lk:K.lookup f=some ⟨oc,od,.func (PySem.W.fnOf name qual params body scope dV kV doc pm an cdv ct),osl⟩)(hcd:PySem.W.codeIn K cdv qual=true)(S:FnScope N ps scope)
  (len:∀ vs H Q E,sp vs H Q E->vs.length=ps.length)
  (hbody:∀ (A:Around) (outer:List PySem.Env) (s:Shared) (H:Hp) (vs:List V) (Q:VK) (E:XK),Rm k (A.deeper (envOfC qual scope s.heap.objs.size f cdv))->sp vs H Q E ->
   ∃ t,PSs (cxOf CXa P w K mg base N qual scope f cdv A outer s H E) body t/\t { nx:=fun _ H'=>Q .non H',rt:=Q } (L2.start N vs) H) :
  FnG P w K mg base CXa (k+1) f (PySem.W.fnOf name qual params body scope dV kV doc pm an cdv ct) ps sp :=
 ⟨len,fun A outer s H args us vs Q E hr e0 hb r hs=>StX.run_bnd (G:=fun xs H2=>xs=vs/\H2=H) lk hcd S hr.toRoom e0
  (fun A' Ex Q' h=>hb _ _ _ _ (h s H vs us e0 (Un.kept fun b o e=>e) rfl (fun e s' z=>z) r (len _ _ _ _ hs) ⟨rfl,rfl⟩))
  fun s2 H2 xs q hr'=>by
   obtain ⟨rfl,rfl⟩:=q
   exact hbody A outer s2 H2 xs Q E ⟨hr',hr.gd⟩ hs⟩
theorem Et{P:Program}{w:World}{K:PySem.W.Frag}{mg:Str->Option Value}{base:Heap}{ca:Str->Addr}{Tb:LT}{sa:Addr}{sn:List Int}{x qual:Str}{params:Arguments}{body:List Stmt}{scope:Scope}{dvs:List V}{kws:List (Str×V)}{f:Addr}{fd:FuncData}{N ps:List Str}{k:Nat}{B:M Ctl}
  (F:FunD K x qual params body scope dvs kws f fd)(S:FnScope N ps scope)(hb:∀ (cdv:Value) (A:Around) (outer:List PySem.Env) (s:Shared) (H:Hp) (E:XK),VSs ⟨K,w,ca,Tb,sa,sn⟩ (WR E) k (cxOf (L2.CX P w) P w K mg base N qual scope f cdv A outer s H E) body B) :
  FnG P w K mg base (L2.CX P w) (k+1) f fd ps (spV ⟨K,w,ca,Tb,sa,sn⟩ ps.length (fnF ps.length N.length B)):=by
 obtain ⟨oc,od,dV,kV,doc,pm,an,cdv,ct,osl,rfl,lk,hcd,_,_⟩:=F.ex
 refine P4 lk hcd S (fun vs H Q E h=>h.1) fun A outer s H vs Q E hr h=>?_
 obtain ⟨hl,G,as,ok,sr,h⟩:=h
 refine ⟨TVS ⟨K,w,ca,Tb,sa,sn⟩ (WR E) B,(hb cdv A outer s H E).run ⟨rfl,rfl,rfl,takes_of rfl rfl rfl rfl,hr,passes_of rfl,S.nd⟩,G,as++List.replicate (N.length-as.length) .un,P1 sr,?_⟩
 have hla:as.length=ps.length:=by rw [sr.len,List.length_map]; exact hl
 unfold fnF at h
 rw [if_pos hla] at h
 revert h
 cases B (as++List.replicate (N.length-as.length) .un) with
 | no=>exact fun h=>h
 | er x e'=>exact fun h cls d σ' G' H' t xo=>h cls d G' H' (Jh ok sr t) xo
 | ok c e' =>
  cases c with
  | nx=>exact fun h σ' G' H' t=>h G' H' (Jh ok sr t) .non rfl
  | bk=>exact fun h=>h.elim
  | ct=>exact fun h=>h.elim
  | rt r =>
   intro h v σ' G' H' t rv
   simp only at h
   cases q:Fg r e' with
   | no=>rw [q] at h; exact h.elim
   | er x e2=>rw [q] at h; exact h.elim
   | ok r' e2 =>
    rw [q] at h
    obtain ⟨G2,t2,nw⟩:=Xs ok sr t rv q
    exact h G2 H' t2 v nw
def G6(r:Rv)(e:Ve):Option Sl:=match r with
 | .val d=>some (.sh d)
 | .fresh d=>some (.bo d)
 | .slot i=>match e[i]? with
  | some (.sh d)=>some (.sh d)
  | some (.bf d)=>some (.sh d)
  | some (.ow d)=>some (.bo d)
  | some (.bo d)=>some (.bo d)
  | _=>none
def A9:List Rv->Ve->Option (List Sl)
 | [],_=>some []
 | r::rs,e=>match G6 r e,A9 rs e with
  | some a,some as=>some (a::as)
  | _,_=>none
def Ig(i:Nat):List Rv->Bool
 | []=>false
 | .slot j::rs=>(i==j)||Ig i rs
 | _::rs=>Ig i rs
def Bp:List Rv->Bool
 | []=>true
 | .slot i::rs=>!Ig i rs&&Bp rs
 | _::rs=>Bp rs
def mrg:Sl->Sl->Sl
 | .ow _,.bo d=>.ow d
 | .ow _,.bf d=>.sh d
 | .bo _,.bo d=>.bo d
 | .bo _,.bf d=>.bf d
 | s,_=>s
def D6(j:Nat):List Rv->List Sl->Option Sl
 | .slot i::rs,a::as=>if i=j then some a else D6 j rs as
 | _::rs,_::as=>D6 j rs as
 | _,_=>none
def E8(rs:List Rv)(as:List Sl):Nat->Ve->Ve
 | _,[]=>[]
 | j,s::r=>(match D6 j rs as with | some a=>mrg s a | none=>s)::E8 rs as (j+1) r
def A6(rs:List Rv)(as:List Sl)(e:Ve):Ve:=E8 rs as 0 e
def Bj(f:List Sl->Res Rv)(rs:List Rv):M Rv:=fun e=>if Bp rs=true then (match A9 rs e with
 | some as=>(match f as with
  | .ok r as'=>.ok r (A6 rs as' e)
  | .er x as'=>.er x (A6 rs as' e)
  | .no=>.no)
 | none=>.no) else .no
def Az(f:List Sl->Res Rv)(A:M (List Rv)):M Rv:=A.bind (Bj f)
section
variable{g:Gm}{G H G1 H1 G2 H2 H0:Hp}{σ:L2.St}{e e1:Ve}{rs:List Rv}{vs dvs:List V}{as as':List Sl}{dd:List D}
theorem Td:∀ {e:Ve} {j:Nat},(E8 rs as j e).length=e.length
 | [],_=>rfl
 | s::r,j=>by rw [E8,List.length_cons,List.length_cons,Td]
theorem P5:∀ {e:Ve} {j i:Nat},(E8 rs as j e)[i]? = (e[i]?).map fun s=>match D6 (j+i) rs as with | some a=>mrg s a | none=>s
 | [],j,i=>by simp [E8]
 | s::r,j,0=>by simp [E8]
 | s::r,j,i+1=>by
  rw [E8,List.getElem?_cons_succ,P5,List.getElem?_cons_succ,show j+1+i=j+(i+1) by omega]
theorem hasSlot_at{i:Nat}:∀ {rs:List Rv},Ig i rs=true↔∃ k:Nat,rs[k]? = some (Rv.slot i)
 | []=>by simp [Ig]
 | r::rs=>by
  have ih:=hasSlot_at (i:=i) (rs:=rs)
  have more:(∃ k:Nat,(r::rs)[k]? = some (Rv.slot i))↔r=.slot i\/∃ k:Nat,rs[k]? = some (Rv.slot i):=by
   constructor
   ·rintro ⟨k,h⟩
    cases k with
    | zero=>exact .inl (Option.some.inj h)
    | succ k=>exact .inr ⟨k,h⟩
   ·rintro (h | ⟨k,h⟩)
    ·exact ⟨0,by rw [h]; rfl⟩
    ·exact ⟨k+1,h⟩
  rw [more,← ih]
  cases r with
  | slot j =>
   simp only [Ig,Bool.or_eq_true,beq_iff_eq,Rv.slot.injEq]
   constructor
   ·rintro (h | h)
    ·exact .inl h.symm
    ·exact .inr h
   ·rintro (h | h)
    ·exact .inl h.symm
    ·exact .inr h
  | val d=>simp [Ig]
  | fresh d=>simp [Ig]
theorem Xt:∀ {rs:List Rv} {i k l:Nat},Bp rs=true->rs[k]? = some (Rv.slot i)->rs[l]? = some (Rv.slot i)->k=l
 | [],i,k,l,_,h,_=>by simp at h
 | r::rs,i,0,0,_,_,_=>rfl
 | r::rs,i,0,l+1,o,h,q=>by
  exfalso
  cases h
  simp only [Bp,Bool.and_eq_true,Bool.not_eq_true'] at o
  have:=hasSlot_at.mpr ⟨l,(show rs[l]? = some (Rv.slot i) from q)⟩
  rw [o.1] at this
  cases this
 | r::rs,i,k+1,0,o,h,q=>by
  exfalso
  cases q
  simp only [Bp,Bool.and_eq_true,Bool.not_eq_true'] at o
  have:=hasSlot_at.mpr ⟨k,(show rs[k]? = some (Rv.slot i) from h)⟩
  rw [o.1] at this
  cases this
 | r::rs,i,k+1,l+1,o,h,q=>by
  have o':Bp rs=true:=by
   cases r with
   | slot j=>simp only [Bp,Bool.and_eq_true] at o; exact o.2
   | val d=>exact o
   | fresh d=>exact o
  rw [Xt (rs:=rs) (i:=i) (k:=k) (l:=l) o' h q]
theorem P6{j:Nat}:∀ {rs:List Rv} {as:List Sl} {a:Sl},D6 j rs as=some a->∃ k:Nat,rs[k]? = some (Rv.slot j)/\as[k]? = some a
 | [],as,a,h=>by cases as <;> cases h
 | r::rs,[],a,h=>by cases r <;> cases h
 | r::rs,b::as,a,h=>by
  have tail:D6 j rs as=some a->∃ k:Nat,(r::rs)[k]? = some (Rv.slot j)/\(b::as)[k]? = some a:=fun q=>by
   obtain ⟨k,h1,h2⟩:=P6 q
   exact ⟨k+1,h1,h2⟩
  cases r with
  | val d=>exact tail h
  | fresh d=>exact tail h
  | slot i =>
   simp only [D6] at h
   by_cases e:i=j
   ·rw [if_pos e] at h
    cases h
    exact ⟨0,by rw [e]; rfl,rfl⟩
   ·rw [if_neg e] at h
    exact tail h
theorem Te{j:Nat}:∀ {rs:List Rv} {as:List Sl},rs.length<=as.length->D6 j rs as=none->∀ k:Nat,rs[k]?≠some (Rv.slot j)
 | [],as,_,h,k=>by simp
 | r::rs,[],hl,h,k=>by simp at hl
 | r::rs,b::as,hl,h,k=>by
  have tail:D6 j rs as=none->r≠.slot j->(r::rs)[k]?≠some (Rv.slot j):=fun q n=>by
   have ih:=Te (rs:=rs) (as:=as) (by simpa using hl) q
   cases k with
   | zero=>exact fun z=>n (Option.some.inj z)
   | succ k=>exact ih k
  cases r with
  | val d=>exact tail h (fun z=>nomatch z)
  | fresh d=>exact tail h (fun z=>nomatch z)
  | slot i =>
   simp only [D6] at h
   by_cases e:i=j
   ·rw [if_pos e] at h; cases h
   ·rw [if_neg e] at h
    exact tail h (fun z=>e (Rv.slot.inj z))
theorem P7:∀ {rs:List Rv} {as:List Sl},A9 rs e=some as->as.length=rs.length
 | [],as,h=>by cases h; rfl
 | r::rs,as,h=>by
  unfold A9 at h
  cases q1:G6 r e with
  | none=>rw [q1] at h; simp at h
  | some a =>
   cases q2:A9 rs e with
   | none=>rw [q1,q2] at h; simp at h
   | some as' =>
    rw [q1,q2] at h
    cases h
    rw [List.length_cons,List.length_cons,P7 q2]
theorem P8:∀ {rs:List Rv} {as:List Sl} {k:Nat} {a:Sl},A9 rs e=some as->as[k]? = some a->∃ r,rs[k]? = some r/\G6 r e=some a
 | [],as,k,a,h,q=>by cases h; simp at q
 | r::rs,as,k,a,h,q=>by
  unfold A9 at h
  cases q1:G6 r e with
  | none=>rw [q1] at h; simp at h
  | some b =>
   cases q2:A9 rs e with
   | none=>rw [q1,q2] at h; simp at h
   | some as' =>
    rw [q1,q2] at h
    cases h
    cases k with
    | zero=>cases q; exact ⟨r,rfl,q1⟩
    | succ k=>exact P8 (rs:=rs) q2 (show as'[k]? = some a from q)
theorem RvsOk.dist:∀ {rs:List Rv} {vs:List V} {k l:Nat} {d d':D} {p:Addr},RvsOk g G H σ e H0 rs vs->rs[k]? = some (Rv.fresh d)->rs[l]? = some (Rv.fresh d')->vs[k]? = some (.ref p)->vs[l]? = some (.ref p)->k=l
 | [],_,k,l,d,d',p,_,q,_,_,_=>by simp at q
 | r0::rs,_,k,l,d,d',p,⟨v,t,rfl,a,b,c⟩,q1,q2,q3,q4=>by
  have mem:∀ {l:Nat} {d':D},rs[l]? = some (Rv.fresh d')->t[l]? = some (.ref p)->(Rv.fresh d',V.ref p)∈rs.zip t:=fun {l d'} h1 h2=>by
   apply List.mem_of_getElem? (i:=l)
   rw [List.getElem?_zip_eq_some]
   exact ⟨h1,h2⟩
  cases k with
  | zero =>
   cases l with
   | zero=>rfl
   | succ l =>
    cases q1
    cases q3
    exact absurd rfl (c d p rfl rfl d' _ (mem (l:=l) q2 q4))
  | succ k =>
   cases l with
   | zero =>
    cases q2
    cases q4
    exact absurd rfl (c d' p rfl rfl d _ (mem (l:=k) q1 q3))
   | succ l=>rw [RvsOk.dist (rs:=rs) b q1 q2 q3 q4]
theorem Md(sr:SR g G H σ e)(rv:RvsOk g G H σ e H0 rs vs)(o:Bp rs=true)(ha:A9 rs e=some as) :
  SR g G H (vs.map some) as/\as.all Gz=true /\
   ∀ (k:Nat) (p:Addr),Rt (vs.map some) as k p->(∃ i:Nat,rs[k]? = some (Rv.slot i)/\Rt σ e i p)\/∃ d,rs[k]? = some (Rv.fresh d)/\H0 p=none/\∀ i,¬ Rt σ e i p:=by
 have l1:as.length=rs.length:=P7 ha
 have l2:vs.length=rs.length:=rv.len
 have on:∀ (k:Nat) (a:Sl),as[k]? = some a->∃ r v,rs[k]? = some r/\G6 r e=some a/\vs[k]? = some v/\(vs.map some)[k]? = some (some v)/\RvOk g G H σ e H0 r v:=fun k a h=>by
  obtain ⟨r,hr,hs⟩:=P8 ha h
  obtain ⟨v,hv,ok⟩:=rv.at hr
  exact ⟨r,v,hr,hs,hv,by rw [List.getElem?_map,hv]; rfl,ok⟩
 have rt:∀ (k:Nat) (p:Addr),Rt (vs.map some) as k p->vs[k]? = some (.ref p)/\((∃ i:Nat,rs[k]? = some (Rv.slot i)/\Rt σ e i p)\/∃ d,rs[k]? = some (Rv.fresh d)/\H0 p=none/\∀ i,¬ Rt σ e i p):=fun k p r=>by
  obtain ⟨r1,r2⟩:=r
  cases q:as[k]? with
  | none=>rw [q] at r1; exact r1.elim
  | some a =>
   rw [q] at r1
   obtain ⟨r,v,hr,hs,hv,hv2,ok⟩:=on k a q
   rw [hv2] at r2
   cases r2
   refine ⟨hv,?_⟩
   cases r with
   | val d=>cases hs; exact r1.elim
   | fresh d =>
    obtain ⟨p',ev,_,_,h0,nr⟩:=ok
    cases ev
    exact .inr ⟨d,hr,h0,nr⟩
   | slot i =>
    obtain ⟨ev,s,es,ns⟩:=ok
    refine .inl ⟨i,hr,?_,ev⟩
    simp only [G6] at hs
    rw [es] at hs ⊢
    cases s with
    | un=>exact absurd rfl ns
    | sh d=>cases hs; exact r1.elim
    | bf d=>cases hs; exact r1.elim
    | ow d=>trivial
    | bo d=>trivial
    | lo d=>cases hs
 refine ⟨⟨sr.bs,sr.tabs,sr.scr,?_,fun k=>?_,fun k l p a b=>?_⟩,?_,fun k p r=>(rt k p r).2⟩
 ·simp [l1,l2]
 ·cases q:as[k]? with
  | none=>trivial
  | some a =>
   obtain ⟨r,v,hr,hs,hv,hv2,ok⟩:=on k a q
   rw [hv2]
   cases r with
   | val d=>cases hs; exact ⟨v,rfl,ok⟩
   | fresh d =>
    cases hs
    obtain ⟨p,ev,n,ow,_⟩:=ok
    exact ⟨p,by rw [ev],n,ow⟩
   | slot i =>
    obtain ⟨ev,s,es,ns⟩:=ok
    have sl:=sr.slot i
    simp only [G6] at hs
    rw [es] at hs sl
    rw [ev] at sl
    cases s with
    | un=>exact absurd rfl ns
    | sh d=>cases hs; exact sl
    | bf d=>cases hs; exact sl
    | ow d=>cases hs; exact sl
    | bo d=>cases hs; exact sl
    | lo d=>cases hs
 ·obtain ⟨a1,a2⟩:=rt k p a
  obtain ⟨b1,b2⟩:=rt l p b
  rcases a2 with ⟨i,hi,ri⟩ | ⟨d,hd1,h0,nr⟩ <;> rcases b2 with ⟨j,hj,rj⟩ | ⟨d',hd2,h0',nr'⟩
  ·have:=sr.inj i j p ri rj
   subst this
   exact Xt o hi hj
  ·exact absurd ri (nr' i)
  ·exact absurd rj (nr j)
  ·exact rv.dist hd1 hd2 a1 b1
 ·rw [List.all_eq_true]
  intro a hm
  obtain ⟨k,hk,rfl⟩:=List.mem_iff_getElem.mp hm
  have q:as[k]? = some as[k]:=List.getElem?_eq_getElem hk
  generalize as[k]=a at q
  obtain ⟨r,v,hr,hs,_⟩:=on k a q
  cases r with
  | val d=>cases hs; rfl
  | fresh d=>cases hs; rfl
  | slot i =>
   simp only [G6] at hs
   split at hs <;> cases hs <;> rfl
theorem Tf(t1:Tr g σ G H e G1 H1 e1)(rv:RvsOk g G1 H1 σ e1 H rs vs)(o:Bp rs=true)(ha:A9 rs e1=some as)
  (t2:Tr g (vs.map some) G1 H1 as G2 H2 as'):Tr g σ G H e G2 H2 (A6 rs as' e1):=by
 obtain ⟨sra,_,rts⟩:=Md t1.sr rv o ha
 have l1:as.length=rs.length:=P7 ha
 have lv:vs.length=rs.length:=rv.len
 have l2:rs.length<=as'.length:=by rw [t2.ve.len,l1]; exact Nat.le_refl _
 have sr1:=t1.sr
 have nra:∀ (j:Nat) (p:Addr),Rt σ e1 j p->(∀ k:Nat,rs[k]?≠some (Rv.slot j))->∀ k:Nat,¬ Rt (vs.map some) as k p:=fun j p r n k ra=>by
  rcases rts k p ra with ⟨i,hi,ri⟩ | ⟨d,_,_,nr⟩
  ·have:=sr1.inj i j p ri r
   subst this
   exact n k hi
  ·exact nr j r
 have slotAt:∀ k j:Nat,rs[k]? = some (Rv.slot j)->∀ s,e1[j]? = some s->∀ a',as'[k]? = some a' ->
   SlOk g G2 H2 (some (mrg s a')) σ[j]?/\SlLe s (mrg s a')/\(Ge (some (mrg s a'))->∀ p,σ[j]? = some (some (.ref p))->Rt (vs.map some) as' k p):=fun k j hk s hs a' ha'=>by
  obtain ⟨v,hv,ok⟩:=rv.at hk
  obtain ⟨ev,s',es,ns⟩:=ok
  rw [hs] at es
  cases es
  have hkl:k<as.length:=by rw [l1]; exact C7 hk
  obtain ⟨a,haa⟩:∃ a,as[k]? = some a:=⟨as[k],List.getElem?_eq_getElem hkl⟩
  obtain ⟨r,hr,hsl⟩:=P8 ha haa
  rw [hk] at hr
  cases hr
  have haa2:as[k]? = some a:=haa
  obtain ⟨a2,h2,le2⟩:=t2.ve.at_ k a haa2
  rw [ha'] at h2
  cases h2
  have hvv:(vs.map some)[k]? = some (some v):=by
   rw [List.getElem?_map,hv]; rfl
  have sl2:=t2.sr.slot k
  rw [ha',hvv] at sl2
  simp only [G6] at hsl
  rw [hs] at hsl
  have sl1:=sr1.slot j
  rw [hs] at sl1
  cases s with
  | un=>exact absurd rfl ns
  | sh d =>
   refine ⟨?_,by cases a' <;> exact rfl,fun z=>by cases a' <;> exact z.elim⟩
   obtain ⟨v1,ev1,r1⟩:=sl1
   cases a' <;> exact ⟨v1,ev1,r1.mono t2.le⟩
  | bf d =>
   refine ⟨?_,by cases a' <;> exact rfl,fun z=>by cases a' <;> exact z.elim⟩
   obtain ⟨v1,ev1,r1⟩:=sl1
   cases a' <;> exact ⟨v1,ev1,r1.mono t2.le⟩
  | ow d =>
   cases hsl
   obtain ⟨d',rfl | rfl⟩:=le2
   ·obtain ⟨p,ep,n,ow⟩:=sl2
    refine ⟨⟨p,by rw [ev]; exact ep,n,ow⟩,⟨d',.inl rfl⟩,fun _ p' hp'=>⟨by rw [ha']; trivial,?_⟩⟩
    rw [hvv,← hp',ev]
   ·obtain ⟨v',ev',r⟩:=sl2
    cases ev'
    exact ⟨⟨v,ev,r⟩,⟨d',.inr rfl⟩,fun z=>z.elim⟩
  | lo d=>cases hsl
  | bo d =>
   cases hsl
   obtain ⟨d',rfl | rfl⟩:=le2
   ·obtain ⟨p,ep,n,ow⟩:=sl2
    refine ⟨⟨p,by rw [ev]; exact ep,n,ow⟩,⟨d',.inl rfl⟩,fun _ p' hp'=>⟨by rw [ha']; trivial,?_⟩⟩
    rw [hvv,← hp',ev]
   ·obtain ⟨v',ev',r⟩:=sl2
    cases ev'
    exact ⟨⟨v,ev,r⟩,⟨d',.inr rfl⟩,fun z=>z.elim⟩
 have at_:∀ j,(A6 rs as' e1)[j]? = (e1[j]?).map fun s=>match D6 j rs as' with | some a=>mrg s a | none=>s:=fun j=>by
  unfold A6
  rw [P5,Nat.zero_add]
 have cse:∀ (j:Nat) (s:Sl),e1[j]? = some s->(∃ (k:Nat) (a':Sl),rs[k]? = some (Rv.slot j)/\as'[k]? = some a'/\(A6 rs as' e1)[j]? = some (mrg s a'))\/((∀ k:Nat,rs[k]?≠some (Rv.slot j))/\(A6 rs as' e1)[j]? = some s):=fun j s hs=>by
  cases q:D6 j rs as' with
  | none=>exact .inr ⟨Te l2 q,by rw [at_,hs]; simp [q]⟩
  | some a =>
   obtain ⟨k,h1,h2⟩:=P6 q
   exact .inl ⟨k,a,h1,h2,by rw [at_,hs]; simp [q]⟩
 have ve2:VeLe e1 (A6 rs as' e1):=by
  refine ⟨Td,fun j s hs=>?_⟩
  rcases cse j s hs with ⟨k,a',hk,ha',q⟩ | ⟨n,q⟩
  ·exact ⟨_,q,(slotAt k j hk s hs a' ha').2.1⟩
  ·exact ⟨s,q,SlLe.refl s⟩
 refine ⟨⟨t2.sr.bs,t2.sr.tabs,t2.sr.scr,by rw [ve2.len]; exact sr1.len,fun j=>?_,fun i j p a b=>sr1.inj i j p (ve2.rt a) (ve2.rt b)⟩,t1.le.trans t2.le,fun a ob h n nt=>?_,fun a h=>t1.dom a (t2.dom a h),fun a h1 h2 n=>?_,t1.ve.trans ve2⟩
 ·cases q0:e1[j]? with
  | none =>
   rw [at_,q0]; trivial
  | some s =>
   rcases cse j s q0 with ⟨k,a',hk,ha',q⟩ | ⟨n,q⟩
   ·rw [q]; exact (slotAt k j hk s q0 a' ha').1
   ·rw [q]
    have sl:=sr1.slot j
    rw [q0] at sl
    cases s with
    | un=>trivial
    | sh d=>obtain ⟨v,ev,r⟩:=sl; exact ⟨v,ev,r.mono t2.le⟩
    | bf d=>obtain ⟨v,ev,r⟩:=sl; exact ⟨v,ev,r.mono t2.le⟩
    | lo d =>
     obtain ⟨p,ep,np,ow⟩:=sl
     obtain ⟨ob,u,ho,_⟩:=ow.there
     have nn:∀ k:Nat,¬ Rt (vs.map some) as k p:=fun k ra=>sra.nofrz ho k ra
     exact ⟨p,ep,t2.new p np (by rw [ho]; exact fun z=>nomatch z) nn,ow.mono t2.le (by rw [t2.keep _ _ ho nn (fun ps z=>nomatch z),ho])⟩
    | ow d =>
     obtain ⟨p,ep,np,ow⟩:=sl
     obtain ⟨ob,ho,pl,_⟩:=ow.there
     have nn:=nra j p ⟨by rw [q0]; trivial,ep⟩ n
     exact ⟨p,ep,t2.new p np (by rw [ho]; exact fun z=>nomatch z) nn,ow.mono t2.le (by rw [t2.keep _ _ ho nn pl.nt,ho])⟩
    | bo d =>
     obtain ⟨p,ep,np,ow⟩:=sl
     obtain ⟨ob,ho,pl,_⟩:=ow.there
     have nn:=nra j p ⟨by rw [q0]; trivial,ep⟩ n
     exact ⟨p,ep,t2.new p np (by rw [ho]; exact fun z=>nomatch z) nn,ow.mono t2.le (by rw [t2.keep _ _ ho nn pl.nt,ho])⟩
 ·refine t2.keep a ob (t1.keep a ob h n nt) (fun k r=>?_) nt
  rcases rts k a r with ⟨i,_,ri⟩ | ⟨d,_,h0,_⟩
  ·exact n i (t1.ve.rt ri)
  ·rw [h] at h0; cases h0
 ·refine t2.new a (t1.new a h1 h2 n) (fun z=>h2 (t1.dom a z)) fun k r=>?_
  rcases rts k a r with ⟨i,_,ri⟩ | ⟨d,_,h0,_⟩
  ·exact n i (t1.ve.rt ri)
  ·exact h2 h0
end
theorem Pst.bind0{α β:Type}{g:Gm}{W:WX}{σ:L2.St}{G H:Hp}{e:Ve}{R:β->Hp->Hp->Ve->Prop}{f:M α}{k:α->M β}(h:Pst g W σ G H e R (M.bind f k e)):Pst g W σ G H e (fun a _ _ e1=>Pst g W σ G H e R (k a e1)) (f e):=by
 unfold M.bind at h
 revert h
 cases f e with
 | no=>exact fun h=>h
 | er x e'=>exact fun h=>h
 | ok a e1=>exact fun h _ _ _=>h
theorem Pst.bindS{α β:Type}{g:Gm}{W:WX}{σ:L2.St}{G H G1 H1:Hp}{e e1:Ve}{R:β->Hp->Hp->Ve->Prop}{f:M α}{k:α->M β}(t:Tr g σ G H e G1 H1 e1)(h:Pst g W σ G H e R (M.bind f k e1)):Pst g W σ G1 H1 e1 (fun a _ _ e2=>Pst g W σ G H e R (k a e2)) (f e1):=by
 unfold M.bind at h
 revert h
 cases f e1 with
 | no=>exact fun h=>h
 | er x e'=>exact fun h cls d G' H' t2=>h cls d G' H' (t.trans t2)
 | ok a e1=>exact fun h _ _ _=>h
section
variable{g:Gm}{W:WX}{k:Nat}{X:Cx}
theorem Me{f:List Sl->Res Rv}{rs:List Rv}{vs:List V}{σ:L2.St}{G H G1 H1:Hp}{e e1:Ve}{Q:VK}(sr:SR g G H σ e)(t1:Tr g σ G H e G1 H1 e1)(rv:RvsOk g G1 H1 σ e1 H rs vs)
  (h1:Pst g W σ G H e (fun r G' H' e'=>∀ v,RvOk g G' H' σ e' H r v->Q v H') (Bj f rs e1)):spR g f vs H1 Q (fun cls d H'=>W cls d σ H'):=by
 unfold Bj at h1
 by_cases o:Bp rs=true
 ·rw [if_pos o] at h1
  cases qa:A9 rs e1 with
  | none=>rw [qa] at h1; exact h1.elim
  | some as =>
   rw [qa] at h1
   simp only at h1
   obtain ⟨sra,oka,rts⟩:=Md t1.sr rv o qa
   refine ⟨G1,as,oka,sra,?_⟩
   revert h1
   cases f as with
   | no=>exact fun h=>h
   | er x as'=>exact fun h cls d G2 H2 t2 xo=>h cls d G2 H2 (Tf t1 rv o qa t2) xo
   | ok r as' =>
    intro h G2 H2 t2 v nw
    have t3:=Tf t1 rv o qa t2
    refine h G2 H2 t3 v ?_
    cases r with
    | val d=>exact nw
    | slot i=>exact nw.elim
    | fresh d =>
     obtain ⟨p,ev,np,ow,h0⟩:=nw
     exact ⟨p,ev,np,ow,t1.dom p h0,fun i r=>(sr.root (t3.ve.rt r)).2 (t1.dom p h0)⟩
 ·rw [if_neg o] at h1; exact h1.elim
theorem Xu{f:List Sl->Res Rv}{A:M (List Rv)}{σ:L2.St}{H:Hp}{Q:VK}(h:TV g W (Az f A) σ H Q):TVA g W A σ H fun vs H1=>spR g f vs H1 Q (fun cls d H'=>W cls d σ H'):=by
 obtain ⟨G,e,sr,h⟩:=h
 exact ⟨G,e,sr,Pst.mono (Pst.bind0 h) fun rs G1 H1 e1 t1 h1 vs rv=>Me sr t1 rv h1⟩
end
section
variable{P:Program}{mg:Str->Option Value}{base:Heap}{g:Gm}{j:Nat}{f:Addr}{fd:FuncData}{ps:List Str}{F:List Sl->Res Rv}
theorem spR_V{np n:Nat}{B:M Ctl}{vs:List V}{H:Hp}{Q:VK}{E:XK}(h:spR g (fnF np n B) vs H Q E):spV g np (fnF np n B) vs H Q E:=by
 obtain ⟨G,as,ok,sr,h⟩:=h
 refine ⟨?_,G,as,ok,sr,h⟩
 by_cases hl:as.length=np
 ·rw [← hl,sr.len,List.length_map]
 ·unfold fnF at h
  rw [if_neg hl] at h
  exact h.elim
theorem fk_of{CXa:CXT}{np n:Nat}{B:M Ctl}(Fk:FnG P g.w g.K mg base CXa j f fd ps (spV g np (fnF np n B)))(hb:Binds g.K fd ps []):FnK P g.w g.K mg base CXa j f [] (spR g (fnF np n B)):=by
 intro A outer s H us ws vs zs Q E hr e0 rv rz hl hs
 have ez:zs=[]:=by
  have:=rz.length
  rw [hl] at this
  exact List.eq_nil_of_length_eq_zero this
 subst ez
 rw [List.append_nil] at hs
 have h2:=spR_V hs
 exact Fk.raw hb .nil A outer s H us vs Q E hr e0 rv (show spV g np (fnF np n B) (vs++[]) H Q E by rw [List.append_nil]; exact h2)
end
section
variable{X:Cx}{k:Nat}{f:Addr}{ks:List Str}{sp:Sp}{E:L2.St->XK}
theorem Mf{pins:List (Addr×Obj)}{σ:L2.St}{H:Hp}{s:Shared}{Q:VK}{us ws:List Value}{vs zs:List V}(Fk:FnK X.prog X.w X.K X.mg X.base (L2.CX X.prog X.w) k f ks sp)(rm:Rm k X.A)(px:PassesAt (L2.CX X.prog X.w) X σ (E σ))(I:Inv X pins σ H s)(rv:Vals vs us)(rz:Vals zs ws)(hl:ws.length=ks.length)(h:sp (vs++zs) H Q (E σ)) :
  codeAny (model X.prog X.w) X.A (.call (.ref f) ⟨us,ks.zip ws⟩) (fun r s'=>match r with | .ok (.ret v)=>EP X pins σ Q v s' | .ok _=>False | .error e=>X.xe e s') s :=
 codeAny_mono (Fk X.A X.stack s H us ws vs zs Q (E σ) rm I.env0 rv rz hl h) fun res s' z=>by
  match res,z with
  | .error e,z=>exact px pins _ _ e s' I z
  | .ok (.ret u),z=>exact I.after z
  | .ok .next,z=>exact False.elim z
  | .ok .brk,z=>exact False.elim z
  | .ok .cont,z=>exact False.elim z
theorem Tg{x:Str}{p pos:Pos}{ex:Expr}{es:List Expr}{t:TA}(Fk:FnK X.prog X.w X.K X.mg X.base (L2.CX X.prog X.w) k f [] sp)(rm:Rm k X.A)(hg:Gl X x)(hm:X.mg x=some (.ref f))(kp:PySem.W.keepIn X.K (.ref f)=true)(px:∀ σ,PassesAt (L2.CX X.prog X.w) X σ (E σ))
  (ha:PA X (ex::es) t)(hdb:(x==("__debug__" : Str))=false:=by decide)(he:starEach (ex::es) X.env=(false,eval ex X.env)::starEach es X.env:=by rfl)(hpl:(backTo pos (starEach es X.env)).any (·.1)=false:=by rfl) :
  PE X (.Call (.Name x p) (ex::es) [] pos) (fun σ H Q=>t σ H fun vs H1=>sp vs H1 Q (E σ)):=⟨fun pins s σ H Q I h =>
 wpAny_Call_Name_kw (ld_glob I hg hm (PySem.W.callWith_K (h₀:=X.base) I.ok.mod.kin kp (thn (ha.run pos pins s σ H _ I h) fun us s1 ⟨vs,H1,J,r,q⟩=>⟨J.kIn,wpAny_call (Mf Fk rm (px σ) J r .nil rfl (by rw [List.append_nil]; exact q))⟩) he hpl) hdb)⟩
end
section
variable{g:Gm}{W:WX}{k:Nat}{X:Cx}
def Df(P:Program)(mg:Str->Option Value)(base:Heap)(g:Gm)(x:Str)(ks:List Str)(j:Nat)(F:List Sl->Res Rv):Prop :=
 ∃ f,FnK P g.w g.K mg base (L2.CX P g.w) j f ks (spR g F)/\mg x=some (.ref f)/\PySem.W.keepIn g.K (.ref f)=true
theorem E9{x:Str}{j:Nat}{F:List Sl->Res Rv}{ex:Expr}{es:List Expr}{A:M (List Rv)}{p pos:Pos}(d:Df X.prog X.mg X.base g x [] j F)(hj:j<=k)(hg:Gl X x)(ha:VA g W k X (ex::es) A)
  (hdb:(x==("__debug__" : Str))=false:=by decide)(he:starEach (ex::es) X.env=(false,eval ex X.env)::starEach es X.env:=by rfl)(hpl:(backTo pos (starEach es X.env)).any (·.1)=false:=by rfl):VE g W k X (.Call (.Name x p) (ex::es) [] pos) (Az F A):=by
 refine ⟨fun c=>?_⟩
 obtain ⟨f,Fk,hm,hk⟩:=d
 obtain ⟨gK,gw,ca,gT,gs,gn⟩:=g
 obtain rfl:X.K=gK:=c.K
 obtain rfl:X.w=gw:=c.w
 exact PE.imp (Tg (E:=fun σ cls d H'=>W cls d σ H') Fk (c.room.mono hj) hg hm hk (fun σ=>passAt c.tk σ) (ha.run c) hdb he hpl) fun σ H Q q=>Xu q
end
mutual
def eqD:D->D->Bool
 | .non,.non=>true
 | .bl a,.bl b=>a==b
 | .bl a,.int j=>(if a then 1 else 0)==j
 | .int i,.bl b=>i==(if b then 1 else 0)
 | .int i,.int j=>i==j
 | .str x,.str y=>decide (x=y)
 | .lst xs,.lst ys=>eqDs xs ys
 | .tup xs,.tup ys=>eqDs xs ys
 | _,_=>false
def eqDs:List D->List D->Bool
 | [],[]=>true
 | x::xs,y::ys=>eqD x y&&eqDs xs ys
 | _,_=>false
end
def shp:Nat->D->Bool
 | _,.non=>true
 | _,.bl _=>true
 | _,.int _=>true
 | _,.str _=>true
 | n+1,.lst xs=>xs.all (shp n)
 | n+1,.tup xs=>xs.all (shp n)
 | _,_=>false
mutual
def toPy:D->PyData
 | .non=>.none
 | .bl b=>.bool b
 | .int i=>.int i
 | .str l=>.str (S l)
 | .lst xs=>.list (toPys xs)
 | .tup xs=>.tuple (toPys xs)
 | _=>.none
def toPys:List D->List PyData
 | []=>[]
 | x::xs=>toPy x::toPys xs
end
theorem Th{n:Nat}{x:D}{xs:List D}(h:(x::xs).all (shp n)=true):shp n x=true/\xs.all (shp n)=true:=by
 simpa using h
mutual
theorem Ti:∀ (a b:D) (n m:Nat),shp n a=true->shp m b=true->PyData.eqv (toPy a) (toPy b)=eqD a b
 | .non,b,n,m,_,hb=>by cases b <;> first | rfl | (cases m <;> cases hb)
 | .bl x,b,n,m,_,hb=>by cases b <;> first | rfl | (cases m <;> cases hb)
 | .int x,b,n,m,_,hb=>by cases b <;> first | rfl | (cases m <;> cases hb)
 | .str x,b,n,m,_,hb=>by
  cases b with
  | str y =>
   show (S x==S y)=decide (x=y)
   rw [S_beq_eq]
  | non=>rfl
  | bl _=>rfl
  | int _=>rfl
  | lst _=>rfl
  | tup _=>rfl
  | dct _=>cases m <;> cases hb
  | set _=>cases m <;> cases hb
  | ins _ _=>cases m <;> cases hb
  | con _=>cases m <;> cases hb
  | scr _=>cases m <;> cases hb
 | .lst xs,b,n,m,ha,hb=>by
  cases b with
  | lst ys =>
   cases n with
   | zero=>cases ha
   | succ n =>
    cases m with
    | zero=>cases hb
    | succ m =>
     show PyData.eqv (.list (toPys xs)) (.list (toPys ys))=eqDs xs ys
     rw [PyData.eqv]
     exact eqv_toPys xs ys n m ha hb
  | non=>rfl
  | bl _=>rfl
  | int _=>rfl
  | str _=>rfl
  | tup _=>rfl
  | dct _=>cases m <;> cases hb
  | set _=>cases m <;> cases hb
  | ins _ _=>cases m <;> cases hb
  | con _=>cases m <;> cases hb
  | scr _=>cases m <;> cases hb
 | .tup xs,b,n,m,ha,hb=>by
  cases b with
  | tup ys =>
   cases n with
   | zero=>cases ha
   | succ n =>
    cases m with
    | zero=>cases hb
    | succ m =>
     show PyData.eqv (.tuple (toPys xs)) (.tuple (toPys ys))=eqDs xs ys
     rw [PyData.eqv]
     exact eqv_toPys xs ys n m ha hb
  | non=>rfl
  | bl _=>rfl
  | int _=>rfl
  | str _=>rfl
  | lst _=>rfl
  | dct _=>cases m <;> cases hb
  | set _=>cases m <;> cases hb
  | ins _ _=>cases m <;> cases hb
  | con _=>cases m <;> cases hb
  | scr _=>cases m <;> cases hb
 | .dct _,b,n,m,ha,hb=>by cases n <;> cases ha
 | .set _,b,n,m,ha,hb=>by cases n <;> cases ha
 | .ins _ _,b,n,m,ha,hb=>by cases n <;> cases ha
 | .con _,b,n,m,ha,hb=>by cases n <;> cases ha
 | .scr _,b,n,m,ha,hb=>by cases n <;> cases ha
theorem eqv_toPys:∀ (xs ys:List D) (n m:Nat),xs.all (shp n)=true->ys.all (shp m)=true->PyData.eqvAll (toPys xs) (toPys ys)=eqDs xs ys
 | [],[],_,_,_,_=>rfl
 | [],_::_,_,_,_,_=>rfl
 | _::_,[],_,_,_,_=>rfl
 | x::xs,y::ys,n,m,ha,hb=>by
  obtain ⟨a1,a2⟩:=Th ha
  obtain ⟨b1,b2⟩:=Th hb
  show (PyData.eqv (toPy x) (toPy y)&&PyData.eqvAll (toPys xs) (toPys ys))=(eqD x y&&eqDs xs ys)
  rw [Ti x y n m a1 b1,eqv_toPys xs ys n m a2 b2]
end
mutual
theorem Xv{g:Gm}{G H:Hp}(bs:Bs G H):∀ (d:D) (v:V) (n:Nat),Rep g G d v->shp n d=true->Dp g.K H v (toPy d)/\PyData.canLay0 (toPy d)=true/\PyData.depth (toPy d)<=n
 | .non,v,n,r,_=>by rw [show v=_ from r]; exact ⟨.non,rfl,Nat.zero_le _⟩
 | .bl b,v,n,r,_=>by rw [show v=_ from r]; exact ⟨.bl b,rfl,Nat.zero_le _⟩
 | .int i,v,n,r,_=>by rw [show v=_ from r]; exact ⟨.int i,rfl,Nat.zero_le _⟩
 | .str l,v,n,⟨e,ok⟩,_=>by
  rw [e]
  refine ⟨.str _,?_,Nat.zero_le _⟩
  show PyData.strOk (S l)=true
  unfold PyData.strOk
  simp
  intro c hc
  have:=ok c hc
  omega
 | .lst ds,v,n,⟨a,vs,e,q,r⟩,h=>by
  cases n with
  | zero=>cases h
  | succ n =>
   obtain ⟨h1,h2,h3⟩:=dps_of bs ds vs n r h
   rw [e]
   exact ⟨.lst (bs.sqL (.of q)) h1,h2,Nat.succ_le_succ h3⟩
 | .tup ds,v,n,⟨a,vs,e,q,r⟩,h=>by
  cases n with
  | zero=>cases h
  | succ n =>
   obtain ⟨h1,h2,h3⟩:=dps_of bs ds vs n r h
   rw [e]
   exact ⟨.tup (bs.sqT q) h1,h2,Nat.succ_le_succ h3⟩
 | .dct _,v,n,_,h=>by cases n <;> cases h
 | .set _,v,n,_,h=>by cases n <;> cases h
 | .ins _ _,v,n,_,h=>by cases n <;> cases h
 | .con _,v,n,_,h=>by cases n <;> cases h
 | .scr _,v,n,_,h=>by cases n <;> cases h
theorem dps_of{g:Gm}{G H:Hp}(bs:Bs G H):∀ (ds:List D) (vs:List V) (n:Nat),Reps g G ds vs->ds.all (shp n)=true->DpAll g.K H vs (toPys ds)/\PyData.canLayAll0 (toPys ds)=true/\PyData.depthAll (toPys ds)<=n
 | [],vs,n,r,_=>by rw [show vs=_ from r]; exact ⟨.nil,rfl,Nat.zero_le _⟩
 | d::ds,vs,n,⟨v,r,e,a,b⟩,h=>by
  obtain ⟨s1,s2⟩:=Th h
  obtain ⟨h1,h2,h3⟩:=Xv bs d v n a s1
  obtain ⟨k1,k2,k3⟩:=dps_of bs ds r n b s2
  rw [e]
  refine ⟨.cons h1 k1,?_,?_⟩
  ·show (PyData.canLay0 (toPy d)&&PyData.canLayAll0 (toPys ds))=true
   rw [h2,k2]; rfl
  ·show max (PyData.depth (toPy d)) (PyData.depthAll (toPys ds))<=n
   exact Nat.max_le.mpr ⟨h3,k3⟩
end
theorem Ae8{g:Gm}{G H:Hp}(bs:Bs G H){d:D}{v:V}{n:Nat}(r:RepH g G H d v)(h:shp n d=true):Dp g.K H v (toPy d)/\PyData.canLay0 (toPy d)=true/\PyData.depth (toPy d)<=n:=by
 rcases r with r | ⟨p,e,np,o⟩
 ·exact Xv bs d v n r h
 ·match d,o,h with
  | .lst ds,⟨vs,q,r⟩,h =>
   cases n with
   | zero=>cases h
   | succ n =>
    obtain ⟨h1,h2,h3⟩:=dps_of bs ds vs n r h
    rw [e]
    exact ⟨.lst (.of q) h1,h2,Nat.succ_le_succ h3⟩
  | .dct _,_,h=>cases n <;> cases h
  | .ins _ _,_,h=>cases n <;> cases h
def eqG(a b:D):Option Rv:=if (shp 64 a&&shp 64 b)=true then some (.val (.bl (eqD a b))) else none
def neG(a b:D):Option Rv:=if (shp 64 a&&shp 64 b)=true then some (.val (.bl (!eqD a b))) else none
section
variable{g:Gm}
theorem P9{d:D}{v:V}{G H:Hp}(bs:Bs G H)(r:RepH g G H d v)(h:shp 64 d=true):Dp g.K H v (toPy d)/\SeqAt.shaped (toPy d)=true:=by
 obtain ⟨h1,h2,h3⟩:=Ae8 bs r h
 refine ⟨h1,?_⟩
 unfold SeqAt.shaped
 rw [h2,decide_eq_true h3]
 rfl
theorem Ae9:OpV g (rEqD g.K) eqG:=fun G H d1 d2 x y out Q bs sc a b e q=>by
 unfold eqG at e
 by_cases h:(shp 64 d1&&shp 64 d2)=true
 ·rw [if_pos h] at e
  cases e
  obtain ⟨h1,h2⟩:=Bool.and_eq_true_iff.mp h
  obtain ⟨p1,s1⟩:=P9 bs a h1
  obtain ⟨p2,s2⟩:=P9 bs b h2
  refine ⟨_,_,p1,p2,s1,s2,q _ G H (Grow.refl bs) ?_⟩
  rw [Ti d1 d2 64 64 h1 h2]
  rfl
 ·rw [if_neg h] at e; cases e
theorem Xw:OpV g (rNeD g.K) neG:=fun G H d1 d2 x y out Q bs sc a b e q=>by
 unfold neG at e
 by_cases h:(shp 64 d1&&shp 64 d2)=true
 ·rw [if_pos h] at e
  cases e
  obtain ⟨h1,h2⟩:=Bool.and_eq_true_iff.mp h
  obtain ⟨p1,s1⟩:=P9 bs a h1
  obtain ⟨p2,s2⟩:=P9 bs b h2
  refine ⟨_,_,p1,p2,s1,s2,q _ G H (Grow.refl bs) ?_⟩
  rw [Ti d1 d2 64 64 h1 h2]
  rfl
 ·rw [if_neg h] at e; cases e
def K7(f:Int->Int->Option D):D->D->Option Rv
 | .int i,.int j=>(f i j).map .val
 | _,_=>none
theorem Afa{h:Int->Int->V}{f:Int->Int->D}(r:∀ i j G,Rep g G (f i j) (h i j)):OpV g (rI0 h) (K7 fun i j=>some (f i j)):=fun G H d1 d2 x y out Q bs sc a b e q=>by
 cases d1 <;> try cases e
 cases d2 <;> try cases e
 exact ⟨_,_,a.int,b.int,q _ G H (Grow.refl bs) (r _ _ _)⟩
theorem Tj{C:Int->Int->Prop}[∀ i j,Decidable (C i j)]{C':Int->Int->Prop}{h:Int->Int->V}{f:Int->Int->D}(hc:∀ i j,C i j->C' i j)(r:∀ i j G,Rep g G (f i j) (h i j)):OpV g (rI C' h) (K7 fun i j=>if C i j then some (f i j) else none):=fun G H d1 d2 x y out Q bs sc a b e q=>by
 cases d1 <;> try cases e
 cases d2 <;> try cases e
 rename_i i j
 simp only [K7] at e
 by_cases c:C i j
 ·rw [if_pos c] at e
  cases e
  exact ⟨_,_,a.int,b.int,hc _ _ c,q _ G H (Grow.refl bs) (r _ _ _)⟩
 ·rw [if_neg c] at e; cases e
def N3:=K7 fun i j=>some (.int (i-j))
theorem Afb:OpV g (rI0 fun i j=>.int (i-j)) N3:=Afa fun _ _ _=>rfl
def Ji:=K7 fun i j=>if 0<j then some (.int (i % j)) else none
theorem Afc:OpV g (rI (fun _ j=>0<j) fun i j=>.int (i % j)) Ji:=Tj (C:=fun _ j=>0<j) (fun _ _ h=>h) fun _ _ _=>rfl
def N4:=K7 fun i j=>if 0<j/\j<2 ^ 200 then some (.int (i / j)) else none
theorem Afd:OpV g (rI CDivW fun i j=>.int (i / j)) N4:=Tj (C:=fun _ j=>0<j/\j<2 ^ 200) (fun i j h=>wide_div (b:=200) h.1 (by omega) (by decide) (by decide)) fun _ _ _=>rfl
def Ih:=K7 fun i j=>if 0<=j/\j<=1000/\-(2 ^ 60)<i/\i<2 ^ 60 then some (.int (i ^ j.toNat)) else none
theorem Afe:OpV g (rI CPow fun i j=>.int (i ^ j.toNat)) Ih:=Tj (C:=fun i j=>0<=j/\j<=1000/\-(2 ^ 60)<i/\i<2 ^ 60) (fun i j h=>⟨h.1,by omega,by omega⟩) fun _ _ _=>rfl
end
def Bb:D->D->Option Rv
 | .int i,.int j=>some (.val (.int (i+j)))
 | .str a,.str b=>if a.length+b.length<=sizeLine then some (.val (.str (a++b))) else none
 | .lst a,.lst b=>if a.length+b.length<=sizeLine then some (.fresh (.lst (a++b))) else none
 | .tup a,.tup b=>if a.length+b.length<=sizeLine then some (.val (.tup (a++b))) else none
 | _,_=>none
theorem OkS.app{a b:List Nat}(h:OkS a)(k:OkS b):OkS (a++b):=fun c hc=>(List.mem_append.mp hc).elim (h c) (k c)
def Xx(K:PySem.W.Frag):R2:=fun x y H Q=>rI0 (fun i j=>.int (i+j)) x y H Q\/(∃ i j,x=.str i/\y=.str j/\i.length+j.length<=sizeLine/\Q (.str (i++j)) H)\/rCat x y H Q\/rCatA K x y H Q
theorem Afg{X:Cx}:OpR X (binaryOp .Add) (Xx X.K):=op_add.or (op_add_str.or (op_cat.or op_catA))
section
variable{g:Gm}
theorem Reps.nil_of{G:Hp}{ds:List D}(h:Reps g G ds []):ds=[]:=by
 cases ds with
 | nil=>rfl
 | cons d r=>obtain ⟨v,t,e,_⟩:=h; cases e
theorem Afh:OpV g (Xx g.K) Bb:=fun G H d1 d2 x y out Q bs sc a b e q=>by
 cases d1 <;> cases d2 <;> try cases e
 ·exact .inl ⟨_,_,a.int,b.int,q _ G H (Grow.refl bs) rfl⟩
 ·rename_i l m
  simp only [Bb] at e
  by_cases c:l.length+m.length<=sizeLine
  ·rw [if_pos c] at e
   cases e
   refine .inr (.inl ⟨_,_,a.str,b.str,by rw [S_len,S_len]; exact c,q _ G H (Grow.refl bs) ⟨by rw [S_app],a.okS.app b.okS⟩⟩)
  ·rw [if_neg c] at e; cases e
 ·rename_i l m
  simp only [Bb] at e
  by_cases c:l.length+m.length<=sizeLine
  ·rw [if_pos c] at e
   cases e
   obtain ⟨a1,v1,e1,q1,r1⟩:=a.lstR bs
   obtain ⟨a2,v2,e2,q2,r2⟩:=b.lstR bs
   refine .inr (.inr (.inl ⟨a1,a2,v1,v2,e1,e2,q1,q2,by rw [r1.len,r2.len]; exact c,fun p np=>?_⟩))
   exact q _ G _ (Grow.lay bs np) ⟨p,rfl,bs.hn np,⟨_,upd_same,r1.append r2⟩,np⟩
  ·rw [if_neg c] at e; cases e
 ·rename_i l m
  simp only [Bb] at e
  by_cases c:l.length+m.length<=sizeLine
  ·rw [if_pos c] at e
   cases e
   obtain ⟨a1,v1,e1,q1,r1⟩:=a.tup bs
   obtain ⟨a2,v2,e2,q2,r2⟩:=b.tup bs
   refine .inr (.inr (.inr ⟨a1,a2,v1,v2,e1,e2,q1,q2,by rw [r1.len,r2.len]; exact c,fun z=>?_,fun _ z=>?_,fun _ _ p np=>?_⟩))
   ·subst z
    rw [r1.nil_of,List.nil_append] at q
    rcases b with b | ⟨_,_,_,o⟩
    ·rw [← e2]; exact q _ G H (Grow.refl bs) b
    ·exact o.elim
   ·subst z
    rw [r2.nil_of,List.append_nil] at q
    rcases a with a | ⟨_,_,_,o⟩
    ·rw [← e1]; exact q _ G H (Grow.refl bs) a
    ·exact o.elim
   ·have gr:=Grow.lay2 (o:=HO.tup (v1++v2)) bs np (fun _ _ z=>nomatch z)
    exact q _ _ _ gr ⟨p,_,rfl,.of upd_same,(r1.append r2).mono gr.le⟩
  ·rw [if_neg c] at e; cases e
end
theorem Qa{g:Gm}{W:WX}{f f1 f2:D->D->Option Rv}{A B:M Rv}{σ:L2.St}{H:Hp}{Q:VK}(c:∀ d1 d2 out,f d1 d2=some out->f1 d1 d2=some out\/f2 d1 d2=some out)(h:TV g W (fOp f A B) σ H Q):TV g W (fOp f1 A B) σ H Q\/TV g W (fOp f2 A B) σ H Q:=by
 obtain ⟨G,e,sr,h⟩:=h
 have go:(∀ r,fOp f A B e=r->r≠.no->fOp f1 A B e=r\/fOp f2 A B e=r):=fun r hr hn=>by
  unfold fOp M.bind at hr ⊢
  cases qa:A e with
  | no=>rw [qa] at hr; exact absurd hr.symm hn
  | er x e'=>rw [qa] at hr; exact .inl hr
  | ok a e1 =>
   rw [qa] at hr
   simp only at hr ⊢
   cases qb:B e1 with
   | no=>rw [qb] at hr; exact absurd hr.symm hn
   | er x e'=>rw [qb] at hr; exact .inl hr
   | ok b e2 =>
    rw [qb] at hr
    simp only at hr ⊢
    cases q1:Ag a e2 with
    | none=>simp only [q1] at hr; exact absurd hr.symm hn
    | some da =>
     cases q2:Ag b e2 with
     | none=>simp only [q1,q2] at hr; exact absurd hr.symm hn
     | some db =>
      simp only [q1,q2] at hr ⊢
      cases qf:f da db with
      | none=>rw [qf] at hr; exact absurd hr.symm hn
      | some out =>
       rw [qf] at hr
       rcases c da db out qf with z | z
       ·rw [z]; exact .inl hr
       ·rw [z]; exact .inr hr
 cases q:fOp f A B e with
 | no=>rw [q] at h; exact h.elim
 | er x e' =>
  rw [q] at h
  rcases go _ q (fun z=>nomatch z) with z | z
  ·exact .inl ⟨G,e,sr,by rw [z]; exact h⟩
  ·exact .inr ⟨G,e,sr,by rw [z]; exact h⟩
 | ok r e' =>
  rw [q] at h
  rcases go _ q (fun z=>nomatch z) with z | z
  ·exact .inl ⟨G,e,sr,by rw [z]; exact h⟩
  ·exact .inr ⟨G,e,sr,by rw [z]; exact h⟩
def N5(f:Int->Int->Bool)(h:List Nat->List Nat->Bool):D->D->Option Rv
 | .int i,.int j=>some (.val (.bl (f i j)))
 | .str a,.str b=>some (.val (.bl (h a b)))
 | _,_=>none
def N6(f:Int->Int->Bool)(h:List Nat->List Nat->Bool):R2:=fun x y H Q=>rI0 (fun i j=>.bl (f i j)) x y H Q\/∃ i j,x=.str i/\y=.str j/\Q (.bl (h i.cps.toList j.cps.toList)) H
section
variable{g:Gm}
theorem Qb{f:Int->Int->Bool}{h:List Nat->List Nat->Bool}:OpV g (N6 f h) (N5 f h):=fun G H d1 d2 x y out Q bs sc a b e q=>by
 cases d1 <;> cases d2 <;> try cases e
 ·exact .inl ⟨_,_,a.int,b.int,q _ G H (Grow.refl bs) rfl⟩
 ·exact .inr ⟨_,_,a.str,b.str,q _ G H (Grow.refl bs) rfl⟩
end
def ltD:=N5 (fun i j=>decide (i<j)) (fun a b=>decide (a<b))
def leD:=N5 (fun i j=>decide (i<=j)) (fun a b=>!decide (b<a))
def gtD:=N5 (fun i j=>decide (j<i)) (fun a b=>decide (b<a))
def geD:=N5 (fun i j=>decide (j<=i)) (fun a b=>!decide (a<b))
section
variable{X:Cx}
theorem Afi:OpR X (compareOp .Lt) (N6 (fun i j=>decide (i<j)) (fun a b=>decide (a<b))):=op_lt.or op_lt_str
theorem Afj:OpR X (compareOp .LtE) (N6 (fun i j=>decide (i<=j)) (fun a b=>!decide (b<a))):=op_le.or op_le_str
theorem Afk:OpR X (compareOp .Gt) (N6 (fun i j=>decide (j<i)) (fun a b=>decide (b<a))):=op_gt.or op_gt_str
theorem Afl:OpR X (compareOp .GtE) (N6 (fun i j=>decide (j<=i)) (fun a b=>!decide (a<b))):=op_ge.or op_ge_str
end
def isD:D->D->Option Rv
 | a,.non=>some (.val (.bl (match a with | .non=>true | _=>false)))
 | .bl a,.bl b=>some (.val (.bl (decide (a=b))))
 | _,_=>none
def isnD:D->D->Option Rv
 | a,.non=>some (.val (.bl (match a with | .non=>false | _=>true)))
 | .bl a,.bl b=>some (.val (.bl (!decide (a=b))))
 | _,_=>none
section
variable{g:Gm}
def Xy:D->Bool
 | .con _=>false
 | _=>true
def isE(a b:D):Option Rv:=if Xy a=true then isD a b else none
def N7(a b:D):Option Rv:=if Xy a=true then isnD a b else none
end
def ixD:D->D->Option Rv
 | .lst xs,.int i=>(atI xs i).map .val
 | .tup xs,.int i=>(atI xs i).map .val
 | .str l,.int i=>if l.length<=sizeLine then (atI l i).map fun c=>.val (.str [c]) else none
 | .scr ns,.int i=>(atI ns i).map fun n=>.val (.int n)
 | _,_=>none
def B1(kvs:List (List Nat×D))(k:List Nat):Option D:=(kvs.find? fun kv=>decide (kv.1=k)).map (·.2)
def ixK:D->D->Option Rv
 | .dct kvs,.str k=>(B1 kvs k).map .val
 | _,_=>none
def ixA(a b:D):Option Rv:=match ixD a b with
 | some r=>some r
 | none=>ixK a b
def Xz:R2:=fun x y H Q=>∃ a v,x=.ref a/\DGet H a y (some v)/\Q v H
section
variable{g:Gm}
theorem X0{G:Hp}{ds:List D}{vs:List V}{i:Int}{d:D}(r:Reps g G ds vs)(h:atI ds i=some d):∃ v,atI vs i=some v/\Rep g G d v:=by
 unfold atI at h ⊢
 rw [r.len]
 cases q:ixN ds.length i with
 | none=>rw [q] at h; cases h
 | some j =>
  rw [q] at h
  have h:ds[j]? = some d:=h
  have hl:j<vs.length:=by rw [r.len]; exact C7 h
  obtain ⟨d',h',rd⟩:=r.at (List.getElem?_eq_getElem hl)
  rw [h] at h'
  cases h'
  exact ⟨_,List.getElem?_eq_getElem hl,rd⟩
theorem Afm:OpV g (rIx g.K) ixD:=fun G H d1 d2 x y out Q bs sc a b e q=>by
 cases d1 <;> cases d2 <;> try cases e
 ·rename_i l i
  simp only [ixD] at e
  by_cases c:l.length<=sizeLine
  ·rw [if_pos c] at e
   cases z:atI l i with
   | none=>rw [z] at e; cases e
   | some ch =>
    rw [z] at e
    cases e
    refine .inr (.inr ⟨_,i,ch,a.str,b.int,by rw [S_len]; exact c,z,q _ G H (Grow.refl bs) ⟨rfl,fun c hc=>?_⟩⟩)
    rw [List.mem_singleton.mp hc]
    obtain ⟨j,_,hj,_⟩:=atI_get z
    exact a.okS ch (List.mem_of_getElem? hj)
  ·rw [if_neg c] at e; cases e
 ·rename_i xs i
  simp only [ixD] at e
  cases z:atI xs i with
  | none=>rw [z] at e; cases e
  | some d =>
   rw [z] at e
   cases e
   obtain ⟨a1,v1,e1,q1,r1⟩:=a.lst bs
   obtain ⟨v,hv,rv⟩:=X0 r1 z
   exact .inl ⟨a1,v1,i,v,e1,b.int,q1,hv,q _ G H (Grow.refl bs) rv⟩
 ·rename_i xs i
  simp only [ixD] at e
  cases z:atI xs i with
  | none=>rw [z] at e; cases e
  | some d =>
   rw [z] at e
   cases e
   obtain ⟨a1,v1,e1,q1,r1⟩:=a.tup bs
   obtain ⟨v,hv,rv⟩:=X0 r1 z
   exact .inr (.inl ⟨a1,v1,i,v,e1,b.int,q1,hv,q _ G H (Grow.refl bs) rv⟩)
 ·rename_i ns i
  simp only [ixD] at e
  cases z:atI ns i with
  | none=>rw [z] at e; cases e
  | some n =>
   rw [z] at e
   cases e
   obtain ⟨ep,en⟩:x=.ref g.sa/\ns=g.sn:=by
    rcases a with r | ⟨_,_,_,o⟩
    ·exact r
    ·exact o.elim
   subst en
   refine .inl ⟨g.sa,_,i,.int n,ep,b.int,sc,?_,q _ G H (Grow.refl bs) rfl⟩
   unfold atI at z ⊢
   rw [List.length_map]
   cases z2:ixN g.sn.length i with
   | none=>rw [z2] at z; cases z
   | some j =>
    rw [z2] at z
    have z:g.sn[j]? = some n:=z
    show (g.sn.map V.int)[j]? = some (.int n)
    rw [List.getElem?_map,z]
    rfl
theorem X2{a b:List Nat}:decide ((Sum.inr (S a):Key)=Sum.inr (S b))=decide (a=b):=by
 by_cases h:a=b
 ·subst h; simp
 ·rw [decide_eq_false h,decide_eq_false]
  exact fun z=>h (S_inj (Sum.inr.inj z))
theorem X3{G:Hp}:∀ {kvs:List (List Nat×D)} {vs:List (Key×V)} (k:List Nat),RepK g G kvs vs->match B1 kvs k with
  | some d=>∃ v,valV vs (.inr (S k))=some v/\Rep g G d v
  | none=>valV vs (.inr (S k))=none
 | [],vs,k,r=>by rw [show vs=[] from r]; rfl
 | (k0,d0)::kvs,vs,k,⟨_,v,t,e,a,b⟩=>by
  subst e
  have ih:=X3 k b
  unfold B1 valV at ih ⊢
  rw [List.find?_cons,List.find?_cons]
  simp only [X2]
  by_cases h:k0=k
  ·rw [decide_eq_true h]
   exact ⟨v,rfl,a⟩
  ·rw [decide_eq_false h]
   exact ih
theorem X4{G H:Hp}{kvs:List (List Nat×D)}{v:V}(bs:Bs G H)(r:RepH g G H (.dct kvs) v)(k:List Nat):∃ a,v=.ref a/\IsD H a/\match B1 kvs k with
  | some d=>∃ u,DGet H a (.str (S k)) (some u)/\Rep g G d u
  | none=>DGet H a (.str (S k)) none:=by
 obtain ⟨a,vs,e,q,rk⟩:=r.dct bs
 refine ⟨a,e,.inl ⟨vs,q⟩,?_⟩
 have h:=X3 k rk
 cases z:B1 kvs k with
 | none =>
  rw [z] at h
  exact .inl ⟨vs,.inr (S k),q,rfl,h.symm⟩
 | some d =>
  rw [z] at h
  obtain ⟨u,hu,ru⟩:=h
  exact ⟨u,.inl ⟨vs,.inr (S k),q,rfl,hu.symm⟩,ru⟩
theorem Afn:OpV g Xz ixK:=fun G H d1 d2 x y out Q bs sc a b e q=>by
 cases d1 <;> cases d2 <;> try cases e
 rename_i kvs k
 obtain ⟨p,ep,_,h⟩:=X4 bs a k
 simp only [ixK] at e
 cases z:B1 kvs k with
 | none=>rw [z] at e; cases e
 | some d =>
  rw [z] at e h
  cases e
  obtain ⟨u,hu,ru⟩:=h
  exact ⟨p,u,ep,by rw [b.str]; exact hu,q _ G H (Grow.refl bs) ru⟩
theorem Afo(d1 d2:D)(out:Rv)(h:ixA d1 d2=some out):ixD d1 d2=some out\/ixK d1 d2=some out:=by
 unfold ixA at h
 cases q:ixD d1 d2 with
 | some r=>rw [q] at h; exact .inl h
 | none=>rw [q] at h; exact .inr h
end
section
variable{g:Gm}{W:WX}{k:Nat}{X:Cx}
theorem El{a b:Expr}{A B:M Rv}{pos:Pos}(ha:VE g W k X a A)(hb:VE g W k X b B)(hs:PlainIx b:=by intro _ _; rfl):VE g W k X (.Subscript a b pos) (fOp ixA A B):=by
 refine ⟨fun c=>?_⟩
 have p1:PE X (.Subscript a b pos) (tOp (rIx g.K) (TV g W A) (TV g W B)):=c.K ▸ pe_ix ix_seq (ha.run c) (hb.run c) hs
 have p2:PE X (.Subscript a b pos) (tOp Xz (TV g W A) (TV g W B)):=pe_dget c.hu (ha.run c) (hb.run c) hs
 exact PE.imp (PE.or p1 p2) fun σ H Q q=>(Qa Afo q).imp (fun z=>Gy Afm z) (fun z=>Gy Afn z)
end
def De:D->Bool
 | .non=>true
 | .bl _=>true
 | .int _=>true
 | .str _=>true
 | _=>false
def inT:D->D->Option Bool
 | .str [c],.str l=>some (decide (c∈l))
 | _,_=>none
def inQ:D->D->Option Bool
 | x,.lst ds=>if (De x&&ds.all De)=true then some (ds.any fun y=>eqD y x) else none
 | x,.tup ds=>if (De x&&ds.all De)=true then some (ds.any fun y=>eqD y x) else none
 | _,_=>none
def inK:D->D->Option Bool
 | .str k,.dct kvs=>some (B1 kvs k).isSome
 | _,_=>none
def A0(f:D->D->Option Bool)(neg:Bool)(a b:D):Option Rv:=(f a b).map fun r=>.val (.bl (if neg then !r else r))
def inA:D->D->Option Bool:=fun a b=>match inT a b with
 | some r=>some r
 | none=>(match inQ a b with
  | some r=>some r
  | none=>inK a b)
def inS(a b:D):Option Bool:=match inT a b with
 | some r=>some r
 | none=>inQ a b
section
variable{g:Gm}
theorem X5{G H:Hp}{d:D}{v:V}(r:RepH g G H d v)(h:De d=true):flatV v=true:=by
 cases d <;> try cases h
 ·rw [r.non]; rfl
 ·rw [r.bl]; rfl
 ·rw [r.int]; rfl
 ·rw [r.str]; rfl
theorem Afp{G:Hp}{H:Hp}{d d':D}{v v':V}(r:RepH g G H d v)(r':RepH g G H d' v')(h:De d=true)(h':De d'=true):eqV v v'=eqD d d':=by
 cases d <;> (try cases h) <;> cases d' <;> (try cases h') <;>
  (first | rw [r.non] | rw [r.bl] | rw [r.int] | rw [r.str]) <;> (first | rw [r'.non] | rw [r'.bl] | rw [r'.int] | rw [r'.str]) <;> try rfl
 ·exact S_beq_eq
theorem X6{G H:Hp}:∀ {ds:List D} {vs:List V},Reps g G ds vs->ds.all De=true->vs.all flatV=true/\∀ x v,RepH g G H x v->De x=true->inV v vs=ds.any fun y=>eqD y x
 | [],vs,r,_=>by rw [show vs=[] from r]; exact ⟨rfl,fun _ _ _ _=>rfl⟩
 | d::ds,vs,⟨v,t,e,a,b⟩,h=>by
  subst e
  have h1:De d=true/\ds.all De=true:=by simpa using h
  obtain ⟨i1,i2⟩:=X6 (H:=H) b h1.2
  refine ⟨by rw [List.all_cons,X5 (H:=H) (.inl a) h1.1,i1]; rfl,fun x u rx fx=>?_⟩
  show (eqV v u||inV u t)=_
  rw [i2 x u rx fx,Afp (H:=H) (.inl a) rx h1.1 fx]
  rfl
theorem Tn{neg:Bool}:OpV g (rIn g.K neg) (A0 inQ neg):=fun G H d1 d2 x y out Q bs sc a b e q=>by
 unfold A0 at e
 cases z:inQ d1 d2 with
 | none=>rw [z] at e; cases e
 | some r =>
  rw [z] at e
  cases e
  have fin:∀ ds,(∃ p vs,y=.ref p/\(SqL g.K H p vs\/SqT g.K H p vs)/\Reps g G ds vs)->(if (De d1&&ds.all De)=true then some (ds.any fun y=>eqD y d1) else none)=some r->rIn g.K neg x y H Q:=fun ds ⟨p,vs,ep,hs,rp⟩ hz=>by
   by_cases c:(De d1&&ds.all De)=true
   ·rw [if_pos c] at hz
    cases hz
    obtain ⟨c1,c2⟩:=Bool.and_eq_true_iff.mp c
    obtain ⟨f1,f2⟩:=X6 (H:=H) rp c2
    refine ⟨p,vs,ep,hs,X5 a c1,f1,q _ G H (Grow.refl bs) ?_⟩
    rw [f2 d1 x a c1]
    rfl
   ·rw [if_neg c] at hz; cases hz
  cases d2 <;> try cases z
  ·obtain ⟨p,vs,ep,hs,rp⟩:=b.lst bs
   exact fin _ ⟨p,vs,ep,.inl hs,rp⟩ z
  ·obtain ⟨p,vs,ep,hs,rp⟩:=b.tup bs
   exact fin _ ⟨p,vs,ep,.inr hs,rp⟩ z
def Mg(neg:Bool):R2:=fun x y H Q=>∃ (c:Nat) (z:Str),x=.str ⟨#[c]⟩/\y=.str z/\Q (.bl (if neg then !decide (c∈z.cps.toList) else decide (c∈z.cps.toList))) H
theorem To{neg:Bool}:OpV g (Mg neg) (A0 inT neg):=fun G H d1 d2 x y out Q bs sc a b e q=>by
 unfold A0 at e
 cases d1 with
 | str l =>
  match l,a,e with
  | [],_,e=>cases d2 <;> cases e
  | [c],a,e =>
   cases d2 <;> try cases e
   exact ⟨c,S _,a.str,b.str,q _ G H (Grow.refl bs) rfl⟩
  | c::c'::r,_,e=>cases d2 <;> cases e
 | _=>cases d2 <;> cases e
def Qc(neg:Bool):R2:=fun y x H Q=>∃ a o,x=.ref a/\DGet H a y o/\Q (.bl (if neg then !o.isSome else o.isSome)) H
theorem Tp{neg:Bool}:OpV g (Qc neg) (A0 inK neg):=fun G H d1 d2 x y out Q bs sc a b e q=>by
 unfold A0 at e
 cases d1 <;> cases d2 <;> try cases e
 rename_i k kvs
 obtain ⟨p,ep,_,h⟩:=X4 bs b k
 cases z:B1 kvs k with
 | none =>
  rw [z] at h
  refine ⟨p,none,ep,by rw [a.str]; exact h,q _ G H (Grow.refl bs) ?_⟩
  simp only [inK,z]
  rfl
 | some d =>
  rw [z] at h
  obtain ⟨u,hu,_⟩:=h
  refine ⟨p,some u,ep,by rw [a.str]; exact hu,q _ G H (Grow.refl bs) ?_⟩
  simp only [inK,z]
  rfl
end
section
variable{X:Cx}
theorem op_inT:OpR X (compareOp .In) (Mg false):=op_in_sign
theorem op_ninT:OpR X (compareOp .NotIn) (Mg true):=op_notIn_sign
end
theorem Tq(neg:Bool)(d1 d2:D)(out:Rv)(h:A0 inA neg d1 d2=some out):A0 inS neg d1 d2=some out\/A0 inK neg d1 d2=some out:=by
 unfold A0 inA at h
 unfold A0 inS
 cases q1:inT d1 d2 with
 | some r=>rw [q1] at h; exact .inl h
 | none =>
  rw [q1] at h
  simp only at h ⊢
  cases q2:inQ d1 d2 with
  | some r=>rw [q2] at h; exact .inl h
  | none=>rw [q2] at h; exact .inr h
theorem Ts(neg:Bool)(d1 d2:D)(out:Rv)(h:A0 inS neg d1 d2=some out):A0 inT neg d1 d2=some out\/A0 inQ neg d1 d2=some out:=by
 unfold A0 inS at h
 unfold A0
 cases q1:inT d1 d2 with
 | some r=>rw [q1] at h; exact .inl h
 | none=>rw [q1] at h; exact .inr h
section
variable{g:Gm}{W:WX}{k:Nat}{X:Cx}{a b:Expr}{A B:M Rv}{pos:Pos}
theorem X7(ha:VE g W k X a A)(hb:VE g W k X b B)(hm:behindInMarks .In b=false:=by rfl):VE g W k X (.Compare a [.In] [b] pos) (fOp (A0 inA false) A B):=by
 refine ⟨fun c=>?_⟩
 have o1:OpR X (compareOp .In) (fun x y H Q=>Mg false x y H Q\/rIn g.K false x y H Q):=op_inT.or (c.K ▸ op_in_seq)
 have p1:=pe_cmpR (pos:=pos) o1 (ha.run c) (hb.run c) hm
 have p2:PE X (.Compare a [.In] [b] pos) (tOp (Qc false) (TV g W A) (TV g W B)):=pe_cmp (pc_din c.hu (ha.run c) (hb.run c)) hm
 exact PE.imp (PE.or p1 p2) fun σ H Q q=>(Qa (Tq false) q).imp (fun z=>Gy (OpV.or To Tn (Ts false)) z) (fun z=>Gy Tp z)
theorem X8(ha:VE g W k X a A)(hb:VE g W k X b B)(hm:behindInMarks .NotIn b=false:=by rfl):VE g W k X (.Compare a [.NotIn] [b] pos) (fOp (A0 inA true) A B):=by
 refine ⟨fun c=>?_⟩
 have o1:OpR X (compareOp .NotIn) (fun x y H Q=>Mg true x y H Q\/rIn g.K true x y H Q):=op_ninT.or (c.K ▸ op_notIn_seq)
 have p1:=pe_cmpR (pos:=pos) o1 (ha.run c) (hb.run c) hm
 have p2:PE X (.Compare a [.NotIn] [b] pos) (tOp (Qc true) (TV g W A) (TV g W B)):=pe_cmp (pc_dnotin c.hu (ha.run c) (hb.run c)) hm
 exact PE.imp (PE.or p1 p2) fun σ H Q q=>(Qa (Tq true) q).imp (fun z=>Gy (OpV.or To Tn (Ts true)) z) (fun z=>Gy Tp z)
theorem Qd(ha:VE g W k X a A)(hb:VE g W k X b B)(hm:behindInMarks .NotIn b=false:=by rfl):VT g W k X (.Compare a [.NotIn] [b] pos) (Bh (fOp (A0 inA true) A B)):=by
 refine ⟨fun c=>?_⟩
 have o1:OpR X (compareOp .NotIn) (fun x y H Q=>Mg true x y H Q\/rIn g.K true x y H Q):=op_ninT.or (c.K ▸ op_notIn_seq)
 have p1:=pt_cmpR (pos:=pos) o1 (ha.run c) (hb.run c) hm
 have p2:PT X (.Compare a [.NotIn] [b] pos) (tB (tOp (Qc true) (TV g W A) (TV g W B))):=pt_cmp (pc_dnotin c.hu (ha.run c) (hb.run c)) hm
 exact PT.imp (PT.or p1 p2) fun σ H Q q=>(Qa (Tq true) (Nv q)).imp (fun z=>Gy (OpV.or To Tn (Ts true)) z) (fun z=>Gy Tp z)
end
def Eu:D->D->Option Rv
 | .int i,.int j=>if (-(2 ^ 64)<i/\i<2 ^ 64)\/(-(2 ^ 64)<j/\j<2 ^ 64) then some (.val (.int (i*j))) else none
 | .str l,.int k=>if 0<=k/\k<=100000/\l.length<=100 then some (.val (.str (List.replicate k.toNat l).flatten)) else none
 | .lst xs,.int k=>if -(2 ^ 63)<=k/\k<2 ^ 63/\xs.length*k.toNat<=sizeLine then some (.fresh (.lst (List.replicate k.toNat xs).flatten)) else none
 | _,_=>none
def X9:R2:=fun x y H Q=>rI CMul (fun i j=>.int (i*j)) x y H Q\/(∃ z k,x=.str z/\y=.int k/\0<=k/\k<=100000/\z.length<=100/\Q (.str (K4 z k.toNat)) H)\/rRep x y H Q
theorem Afq{X:Cx}:OpR X (binaryOp .Mult) X9:=op_mul.or (op_mul_str.or op_rep)
theorem Reps.times{g:Gm}{G:Hp}{ds:List D}{vs:List V}(r:Reps g G ds vs):∀ n:Nat,Reps g G (List.replicate n ds).flatten (List.replicate n vs).flatten
 | 0=>rfl
 | n+1=>by
  rw [List.replicate_succ,List.replicate_succ,List.flatten_cons,List.flatten_cons]
  exact r.append (Reps.times r n)
theorem OkS.times{l:List Nat}(h:OkS l)(n:Nat):OkS (List.replicate n l).flatten:=fun c hc=>by
 obtain ⟨x,hx,hc⟩:=List.mem_flatten.mp hc
 rw [List.eq_of_mem_replicate hx] at hc
 exact h c hc
section
variable{g:Gm}
theorem Afr:OpV g X9 Eu:=fun G H d1 d2 x y out Q bs sc a b e q=>by
 cases d1 <;> cases d2 <;> try cases e
 ·rename_i i j
  simp only [Eu] at e
  by_cases c:(-(2 ^ 64)<i/\i<2 ^ 64)\/(-(2 ^ 64)<j/\j<2 ^ 64)
  ·rw [if_pos c] at e
   cases e
   exact .inl ⟨_,_,a.int,b.int,c,q _ G H (Grow.refl bs) rfl⟩
  ·rw [if_neg c] at e; cases e
 ·rename_i l k
  simp only [Eu] at e
  by_cases c:0<=k/\k<=100000/\l.length<=100
  ·rw [if_pos c] at e
   cases e
   exact .inr (.inl ⟨_,_,a.str,b.int,c.1,c.2.1,by rw [S_len]; exact c.2.2,q _ G H (Grow.refl bs) ⟨rfl,a.okS.times _⟩⟩)
  ·rw [if_neg c] at e; cases e
 ·rename_i xs k
  simp only [Eu] at e
  by_cases c:-(2 ^ 63)<=k/\k<2 ^ 63/\xs.length*k.toNat<=sizeLine
  ·rw [if_pos c] at e
   cases e
   obtain ⟨a1,v1,e1,q1,r1⟩:=a.lstR bs
   refine .inr (.inr ⟨a1,k,v1,e1,b.int,q1,c.1,c.2.1,by rw [r1.len]; exact c.2.2,fun p np=>?_⟩)
   exact q _ G _ (Grow.lay bs np) ⟨p,rfl,bs.hn np,⟨_,upd_same,r1.times _⟩,np⟩
  ·rw [if_neg c] at e; cases e
end
def A7{α:Type}(xs:List α)(lo hi:Option Int):List α:=(xs.drop (HT.sIx xs.length 0 lo)).take (HT.sIx xs.length xs.length hi-HT.sIx xs.length 0 lo)
def cutD(d:D)(lo hi:Option Int):Option Rv:=match d with
 | .lst xs=>some (.fresh (.lst (A7 xs lo hi)))
 | .tup xs=>some (.val (.tup (A7 xs lo hi)))
 | .str l=>if l.length<=sizeLine then some (.val (.str (A7 l lo hi))) else none
 | .scr ns=>some (.fresh (.lst ((A7 ns lo hi).map .int)))
 | _=>none
def TVO(g:Gm)(W:WX)(F:M (Option Int)):TO:=fun σ H Q=>∃ G e,SR g G H σ e/\Pst g W σ G H e (fun o _ H' _=>Q o H') (F e)
structure VO(g:Gm)(W:WX)(k:Nat)(X:Cx)(ex:Option Expr)(F:M (Option Int)):Prop where
 run:Cd g W k X->PO X ex (TVO g W F)
def K8(A:M Rv):M (Option Int):=A.bind fun r e=>match r with
 | .val (.int i)=>.ok (some i) e
 | _=>.no
def fSl(A:M Rv)(L U:M (Option Int)):M Rv:=A.bind fun a=>L.bind fun lo=>U.bind fun hi e=>match Ag a e with
 | some d=>(match cutD d lo hi with | some r=>.ok r e | none=>.no)
 | none=>.no
theorem Afs{α:Type}{xs:List α}{lo hi:Option Int}{a:α}(h:a∈A7 xs lo hi):a∈xs:=List.mem_of_mem_drop (List.mem_of_mem_take h)
section
variable{g:Gm}{W:WX}{k:Nat}{X:Cx}
theorem Reps.drop{G:Hp}:∀ {ds:List D} {vs:List V} (n:Nat),Reps g G ds vs->Reps g G (ds.drop n) (vs.drop n)
 | [],vs,n,r=>by rw [show vs=[] from r]; simp [Reps]
 | d::ds,vs,0,r=>r
 | d::ds,vs,n+1,⟨v,t,e,a,b⟩=>by subst e; exact Reps.drop n b
theorem Reps.take{G:Hp}:∀ {ds:List D} {vs:List V} (n:Nat),Reps g G ds vs->Reps g G (ds.take n) (vs.take n)
 | [],vs,n,r=>by rw [show vs=[] from r]; simp [Reps]
 | d::ds,vs,0,r=>rfl
 | d::ds,vs,n+1,⟨v,t,e,a,b⟩=>by subst e; exact ⟨v,_,rfl,a,Reps.take n b⟩
theorem Reps.cut{G:Hp}{ds:List D}{vs:List V}(lo hi:Option Int)(r:Reps g G ds vs):Reps g G (A7 ds lo hi) (cutV vs lo hi):=by
 unfold A7 cutV
 rw [r.len]
 exact (r.drop _).take _
theorem Reps.ints{G:Hp}:∀ ns:List Int,Reps g G (ns.map .int) (ns.map V.int)
 | []=>rfl
 | n::ns=>⟨.int n,ns.map V.int,rfl,rfl,Reps.ints ns⟩
theorem Qe:VO g W k X none (M.ret none):=⟨fun _=>PO.imp po_none fun σ H Q ⟨G,e,sr,h⟩=>h G H (Tr.refl sr)⟩
theorem Qf{ex:Expr}{A:M Rv}(h:VE g W k X ex A):VO g W k X (some ex) (K8 A):=⟨fun c=>PO.imp (po_some (h.run c)) fun σ H Q ⟨G,e,sr,q⟩=>⟨G,e,sr,Pst.mono (Pst.bind q) fun r G1 H1 e1 t1 h1 v ok=>by
 cases r with
 | val d =>
  cases d with
  | int i=>exact ⟨i,ok,h1 G1 H1 (Tr.refl t1.sr)⟩
  | _=>exact h1.elim
 | _=>exact h1.elim⟩⟩
def Aft(K:PySem.W.Frag):V->Option Int->Option Int->Hp->VK->Prop:=fun x lo hi H Q=>rSlL K x lo hi H Q\/rSlA K x lo hi H Q\/rSlS x lo hi H Q
theorem Qg{a:Expr}{lo hi:Option Expr}{A:M Rv}{L U:M (Option Int)}{p2 pos:Pos}(ha:VE g W k X a A)(hl:VO g W k X lo L)(hu:VO g W k X hi U):VE g W k X (.Subscript a (.Slice lo hi none p2) pos) (fSl A L U):=by
 refine ⟨fun c=>?_⟩
 have sl:SlR X (Aft g.K):=c.K ▸ sl_list.or (sl_tupA.or sl_str)
 refine PE.imp (pe_slice sl (ha.run c) (hl.run c) (hu.run c)) fun σ H Q ⟨G,e,sr,h⟩=>?_
 refine ⟨G,e,sr,Pst.mono (Pst.bind h) fun ra G1 H1 e1 t1 h1 x ok1=>⟨G1,e1,t1.sr,Pst.mono (Pst.bind h1) fun lo G2 H2 e2 t2 h2=>⟨G2,e2,t2.sr,Pst.mono (Pst.bind h2) fun hi G3 H3 e3 t3 h3=>?_⟩⟩⟩
 have ok3:=(ok1.tr t2).tr t3
 cases q:Ag ra e3 with
 | none=>simp only [q] at h3; exact h3.elim
 | some d =>
  simp only [q] at h3
  have rp:=Cv t3.sr ok3 q
  have dm:∀ p,H3 p=none->H p=none:=fun p hp=>t1.dom p (t2.dom p (t3.dom p hp))
  have bs:=t3.sr.bs
  cases d with
  | lst xs =>
   obtain ⟨a1,v1,e1',q1,r1⟩:=rp.lst bs
   refine .inl ⟨a1,v1,e1',q1,fun p np=>?_⟩
   exact h3 G3 _ ((Grow.lay bs np).tr t3.sr) _ (RvNew.ok t3.sr dm (r:=.fresh (.lst (A7 xs lo hi))) ⟨p,rfl,bs.hn np,⟨_,upd_same,r1.cut lo hi⟩,np⟩)
  | scr ns =>
   obtain ⟨ep,en⟩:x=.ref g.sa/\ns=g.sn:=by
    rcases rp with r | ⟨_,_,_,o⟩
    ·exact r
    ·exact o.elim
   subst en
   refine .inl ⟨g.sa,_,ep,t3.sr.scrL,fun p np=>?_⟩
   have r1:Reps g G3 (g.sn.map D.int) (g.sn.map V.int):=Reps.ints _
   have ec:A7 (g.sn.map D.int) lo hi=(A7 g.sn lo hi).map D.int:=by
    unfold A7
    rw [List.length_map,List.map_take,List.map_drop]
   exact h3 G3 _ ((Grow.lay bs np).tr t3.sr) _ (RvNew.ok t3.sr dm (r:=.fresh (.lst ((A7 g.sn lo hi).map .int))) ⟨p,rfl,bs.hn np,⟨_,upd_same,by rw [← ec]; exact r1.cut lo hi⟩,np⟩)
  | tup xs =>
   obtain ⟨a1,v1,e1',q1,r1⟩:=rp.tup bs
   have rr:=r1.cut lo hi
   have wh:∀ {α:Type} (l:List α),HT.sIx l.length 0 lo=0/\HT.sIx l.length l.length hi=l.length->A7 l lo hi=l:=fun l z=>by
    unfold A7
    rw [z.1,z.2]
    simp
   refine .inr (.inl ⟨a1,v1,e1',q1,fun z=>?_,fun _ p np=>?_⟩)
   ·rw [r1.len] at z
    rcases rp with r | ⟨_,_,_,o⟩
    ·rw [← e1']
     exact h3 G3 H3 (Tr.refl t3.sr) _ (show Rep g G3 (.tup (A7 xs lo hi)) x by rw [wh xs z]; exact r)
    ·exact o.elim
   ·have gr:=Grow.lay2 (o:=HO.tup (cutV v1 lo hi)) bs np (fun _ _ z=>nomatch z)
    exact h3 _ _ (gr.tr t3.sr) _ (show Rep g _ (.tup (A7 xs lo hi)) (.ref p) from ⟨p,_,rfl,.of upd_same,rr.mono gr.le⟩)
  | str l =>
   simp only [cutD] at h3
   by_cases cl:l.length<=sizeLine
   ·rw [if_pos cl] at h3
    refine .inr (.inr ⟨S l,rp.str,by rw [S_len]; exact cl,?_⟩)
    refine h3 G3 H3 (Tr.refl t3.sr) _ (show Rep g G3 (.str (A7 l lo hi)) _ from ⟨?_,fun c hc=>rp.okS c (Afs hc)⟩)
    unfold cutS A7
    rw [S_len]
   ·rw [if_neg cl] at h3; exact h3.elim
  | _=>exact h3.elim
end
def Qh(ys:List (List Nat)):List (List Nat):=(ups (ys.map S)).map fun s=>s.cps.toList
def Aw(ys:List (List Nat)):List (List Nat):=(srt (ys.map S)).map fun s=>s.cps.toList
theorem S_of(s:Str):S s.cps.toList=s:=by
 apply Pr
 rfl
theorem Ya(ys:List (List Nat)):(Aw ys).map S=srt (ys.map S):=by
 unfold Aw
 rw [List.map_map]
 conv=>rhs; rw [← List.map_id (srt (ys.map S))]
 exact List.map_congr_left fun s _=>S_of s
def B2:List D->Option Rv
 | [.str l]=>if l.length<=sizeLine then some (.val (.int l.length)) else none
 | [.lst xs]=>some (.val (.int xs.length))
 | [.tup xs]=>some (.val (.int xs.length))
 | [.scr ns]=>some (.val (.int ns.length))
 | [.dct kvs]=>some (.val (.int kvs.length))
 | [.set xs]=>some (.val (.int (Qh xs).length))
 | _=>none
def Yb(K:PySem.W.Frag)(w:World):List V->Hp->VK->Prop:=fun xs H Q=>rLenC K xs H Q\/W9 w xs H Q\/(∃ a kvs,xs=[V.ref a]/\Rd H a (.dK kvs)/\Q (.int kvs.length) H)
theorem Afu{X:Cx}:CallR X (.builtin "len") (fun xs H Q=>∃ a kvs,xs=[V.ref a]/\Rd H a (.dK kvs)/\Q (.int kvs.length) H):=fun pins s σ H xs us Q I r ⟨a,kvs,ex,ha,q⟩=>by
 subst ex
 obtain ⟨u,eu,ru⟩:=vals1 r
 subst eu
 obtain rfl:u=Value.ref a:=ru
 exact d_len I ha fun t s' I'=>⟨.int kvs.length,H,I',⟨t,rfl⟩,q⟩
theorem Afv{X:Cx}:CallR X (.builtin "len") (Yb X.K X.w):=call_len.or (cr_lenSet.or Afu)
section
variable{g:Gm}
theorem RepsH.two{G H:Hp}{d d':D}{vs:List V}(h:RepsH g G H [d,d'] vs):∃ v v',vs=[v,v']/\RepH g G H d v/\RepH g G H d' v':=by
 obtain ⟨v,r,e,a,b⟩:=h
 obtain ⟨v',e',b'⟩:=b.one
 exact ⟨v,v',by rw [e,e'],a,b'⟩
theorem Afw{L:List Str}{xs:List (List Nat)}(nd:L.Nodup)(mem:∀ k,k∈L↔k∈xs.map S):L.length=(Qh xs).length:=by
 have e:srt L=ups (xs.map S):=Aep nd mem
 have e2:(Qh xs).length=(ups (xs.map S)).length:=by unfold Qh; rw [List.length_map]
 rw [e2,← e,W8]
theorem Afx:CallV g (Yb g.K g.w) B2:=fun G H ds vs out Q bs sc r e q=>by
 match ds,e with
 | [],e=>cases e
 | d::d'::t,e=>cases d <;> cases e
 | [d],e =>
  obtain ⟨v,ev,a⟩:=r.one
  subst ev
  cases d with
  | str l =>
   simp only [B2] at e
   by_cases c:l.length<=sizeLine
   ·rw [if_pos c] at e
    cases e
    rw [a.str]
    exact .inl ⟨_,l.length,rfl,⟨by rw [S_len]; exact c,(S_len l).symm⟩,q _ G H (Grow.refl bs) rfl⟩
   ·rw [if_neg c] at e; cases e
  | lst xs =>
   cases e
   obtain ⟨p,us,ep,hs,rp⟩:=a.lst bs
   rw [ep]
   exact .inl ⟨_,xs.length,rfl,.inl ⟨us,hs,rp.len.symm⟩,q _ G H (Grow.refl bs) rfl⟩
  | tup xs =>
   cases e
   obtain ⟨p,us,ep,hs,rp⟩:=a.tup bs
   rw [ep]
   exact .inl ⟨_,xs.length,rfl,.inr ⟨us,hs,rp.len.symm⟩,q _ G H (Grow.refl bs) rfl⟩
  | scr ns =>
   cases e
   obtain ⟨ep,en⟩:=a.scr
   subst en
   rw [ep]
   exact .inl ⟨_,g.sn.length,rfl,.inl ⟨_,sc,by rw [List.length_map]⟩,q _ G H (Grow.refl bs) rfl⟩
  | dct kvs =>
   cases e
   obtain ⟨p,us,ep,hs,rp⟩:=a.dct bs
   rw [ep]
   refine .inr (.inr ⟨p,us,rfl,hs,?_⟩)
   rw [rp.len]
   exact q _ G H (Grow.refl bs) rfl
  | set xs =>
   cases e
   obtain ⟨p,L,ep,hs,nd,mem⟩:=a.set bs
   rw [ep]
   refine .inr (.inl ⟨p,L,rfl,hs,?_⟩)
   rw [Afw nd mem]
   exact q _ G H (Grow.refl bs) rfl
  | _=>cases e
end
def intD:List D->Option Rv
 | [.int i]=>some (.val (.int i))
 | [.bl b]=>some (.val (.int (if b then 1 else 0)))
 | _=>none
def G7(i:Int):List Nat:=(toString i:Str).cps.toList
def N8:List D->Option Rv
 | [.int i]=>some (.val (.int (if i<0 then -i else i)))
 | _=>none
def Mh:List D->Option Rv
 | [.int i,.int j]=>some (.val (.int (if j > i then j else i)))
 | _=>none
def Mi:List D->Option Rv
 | [.int i,.int j]=>some (.val (.int (if j<i then j else i)))
 | _=>none
section
variable{g:Gm}
theorem Afy:CallV g (fun xs H Q=>(∃ i,xs=[.int i]/\Q (.int i) H)\/∃ k,xs=[.bl k]/\Q (.int (if k then 1 else 0)) H) intD:=fun G H ds vs out Q bs sc r e q=>by
 match ds,e with
 | [],e=>cases e
 | d::d'::t,e=>cases d <;> cases e
 | [d],e =>
  obtain ⟨v,ev,a⟩:=r.one
  subst ev
  cases d <;> try cases e
  ·exact .inr ⟨_,by rw [a.bl],q _ G H (Grow.refl bs) rfl⟩
  ·exact .inl ⟨_,by rw [a.int],q _ G H (Grow.refl bs) rfl⟩
theorem Afz:CallV g (fun xs H Q=>∃ i,xs=[.int i]/\Q (.int (if i<0 then -i else i)) H) N8:=fun G H ds vs out Q bs sc r e q=>by
 match ds,e with
 | [],e=>cases e
 | d::d'::t,e=>cases d <;> cases e
 | [d],e =>
  obtain ⟨v,ev,a⟩:=r.one
  subst ev
  cases d <;> try cases e
  exact ⟨_,by rw [a.int],q _ G H (Grow.refl bs) rfl⟩
theorem Af0:CallV g (fun xs H Q=>∃ i j,xs=[.int i,.int j]/\Q (.int (if j > i then j else i)) H) Mh:=fun G H ds vs out Q bs sc r e q=>by
 match ds,e with
 | [],e=>cases e
 | [d],e=>cases d <;> cases e
 | d::d'::d''::t,e=>cases d <;> cases d' <;> cases e
 | [d,d'],e =>
  obtain ⟨v,v',ev,a,b⟩:=r.two
  subst ev
  cases d <;> cases d' <;> try cases e
  exact ⟨_,_,by rw [a.int,b.int],q _ G H (Grow.refl bs) rfl⟩
theorem Af1:CallV g (fun xs H Q=>∃ i j,xs=[.int i,.int j]/\Q (.int (if j<i then j else i)) H) Mi:=fun G H ds vs out Q bs sc r e q=>by
 match ds,e with
 | [],e=>cases e
 | [d],e=>cases d <;> cases e
 | d::d'::d''::t,e=>cases d <;> cases d' <;> cases e
 | [d,d'],e =>
  obtain ⟨v,v',ev,a,b⟩:=r.two
  subst ev
  cases d <;> cases d' <;> try cases e
  exact ⟨_,_,by rw [a.int,b.int],q _ G H (Grow.refl bs) rfl⟩
end
def G8:List D->Option (List (List Nat))
 | []=>some []
 | .str l::r=>(G8 r).map (l :: ·)
 | _::_=>none
def G9:List D->Option (List Bool)
 | []=>some []
 | .bl b::r=>(G9 r).map (b :: ·)
 | _::_=>none
section
variable{g:Gm}
theorem Tt{G:Hp}:∀ {ds:List D} {vs:List V} {ls:List (List Nat)},Reps g G ds vs->G8 ds=some ls->vs=(ls.map S).map V.str/\∀ l∈ls,OkS l
 | [],vs,ls,r,h=>by cases h; rw [show vs=[] from r]; exact ⟨rfl,fun l hl=>nomatch hl⟩
 | .str l::ds,vs,ls,⟨v,t,e,a,b⟩,h=>by
  unfold G8 at h
  cases q:G8 ds with
  | none=>rw [q] at h; cases h
  | some ls' =>
   rw [q] at h
   cases h
   obtain ⟨i1,i2⟩:=Tt b q
   rw [e,i1,a.1]
   exact ⟨rfl,fun x hx=>(List.mem_cons.mp hx).elim (fun z=>z ▸ a.2) (i2 x)⟩
 | .non::_,_,_,_,h=>by cases h
 | .bl _::_,_,_,_,h=>by cases h
 | .int _::_,_,_,_,h=>by cases h
 | .lst _::_,_,_,_,h=>by cases h
 | .tup _::_,_,_,_,h=>by cases h
 | .dct _::_,_,_,_,h=>by cases h
 | .set _::_,_,_,_,h=>by cases h
 | .ins _ _::_,_,_,_,h=>by cases h
 | .con _::_,_,_,_,h=>by cases h
 | .scr _::_,_,_,_,h=>by cases h
theorem Tu{G:Hp}:∀ {ds:List D} {vs:List V} {bs:List Bool},Reps g G ds vs->G9 ds=some bs->vs=bs.map V.bl
 | [],vs,ls,r,h=>by cases h; rw [show vs=[] from r]; rfl
 | .bl l::ds,vs,ls,⟨v,t,e,a,b⟩,h=>by
  unfold G9 at h
  cases q:G9 ds with
  | none=>rw [q] at h; cases h
  | some ls' =>
   rw [q] at h
   cases h
   rw [e,Tu b q,show v=.bl l from a]
   rfl
 | .non::_,_,_,_,h=>by cases h
 | .str _::_,_,_,_,h=>by cases h
 | .int _::_,_,_,_,h=>by cases h
 | .lst _::_,_,_,_,h=>by cases h
 | .tup _::_,_,_,_,h=>by cases h
 | .dct _::_,_,_,_,h=>by cases h
 | .set _::_,_,_,_,h=>by cases h
 | .ins _ _::_,_,_,_,h=>by cases h
 | .con _::_,_,_,_,h=>by cases h
 | .scr _::_,_,_,_,h=>by cases h
theorem Reps.strs{G:Hp}:∀ {ls:List (List Nat)},(∀ l∈ls,OkS l)->Reps g G (ls.map .str) ((ls.map S).map V.str)
 | [],_=>rfl
 | l::ls,h=>⟨_,_,rfl,⟨rfl,h l List.mem_cons_self⟩,Reps.strs fun x hx=>h x (List.mem_cons_of_mem _ hx)⟩
end
theorem srtN_mem{ls:List (List Nat)}{l:List Nat}:l∈Aw ls↔l∈ls:=by
 have h:S l∈(Aw ls).map S↔S l∈ls.map S:=by rw [Ya]; exact Aen
 have inj:∀ {xs:List (List Nat)},S l∈xs.map S↔l∈xs:=fun {xs}=>by
  rw [List.mem_map]
  constructor
  ·rintro ⟨y,hy,e⟩; rw [← S_inj e]; exact hy
  ·exact fun h=>⟨l,h,rfl⟩
 rw [inj,inj] at h
 exact h
def N9:List D->Option Rv
 | [.lst ds]=>(G9 ds).map fun bs=>.val (.bl (bs.all id))
 | _=>none
def Qi:List D->Option Rv
 | [.lst ds]=>(G9 ds).map fun bs=>.val (.bl (bs.any id))
 | _=>none
section
variable{g:Gm}
theorem Af2:CallV g (rAll g.K) N9:=fun G H ds vs out Q bs sc r e q=>by
 match ds,e with
 | [],e=>cases e
 | d::d'::t,e=>cases d <;> cases e
 | [d],e =>
  obtain ⟨v,ev,a⟩:=r.one
  subst ev
  cases d <;> try cases e
  rename_i xs
  simp only [N9] at e
  cases z:G9 xs with
  | none=>rw [z] at e; cases e
  | some b =>
   rw [z] at e
   cases e
   obtain ⟨p,us,ep,hs,rp⟩:=a.lst bs
   exact ⟨p,b,by rw [ep],by rw [← Tu rp z]; exact hs,q _ G H (Grow.refl bs) rfl⟩
theorem Af3:CallV g (rAny g.K) Qi:=fun G H ds vs out Q bs sc r e q=>by
 match ds,e with
 | [],e=>cases e
 | d::d'::t,e=>cases d <;> cases e
 | [d],e =>
  obtain ⟨v,ev,a⟩:=r.one
  subst ev
  cases d <;> try cases e
  rename_i xs
  simp only [Qi] at e
  cases z:G9 xs with
  | none=>rw [z] at e; cases e
  | some b =>
   rw [z] at e
   cases e
   obtain ⟨p,us,ep,hs,rp⟩:=a.lst bs
   exact ⟨p,b,by rw [ep],by rw [← Tu rp z]; exact hs,q _ G H (Grow.refl bs) rfl⟩
end
def tyD(T:String):D->Bool
 | .str _=>T == "str"
 | .int _=>T == "int"
 | .lst _=>T == "list"
 | _=>false
def MtV(g:Gm)(r:V->List V->Hp->VK->Prop)(f:D->List D->Option Rv):Prop:=∀ (G H:Hp) (d:D) (ds:List D) (x:V) (xs:List V) (out:Rv) (Q:VK),Bs G H->RepH g G H d x->RepsH g G H ds xs->f d ds=some out ->
 (∀ v G' H',Grow G H G' H'->RvNew g G' H' H out v->Q v H')->r x xs H Q
def Mj(T:String)(f:D->List D->Option Rv)(O:M Rv)(A:M (List Rv)):M Rv:=O.bind fun o e0=>match Ag o e0 with
 | some d0=>if tyD T d0=true then (A.bind fun rs e=>match Ag o e,Bv rs e with
  | some d,some ds=>(match f d ds with | some r=>.ok r e | none=>.no)
  | _,_=>.no) e0 else .no
 | none=>.no
section
variable{g:Gm}{W:WX}{k:Nat}{X:Cx}
theorem Af4{G H:Hp}(bs:Bs G H){d:D}{x:V}{T:String}(r:RepH g G H d x)(h:tyD T d=true):tyV g.K T x H:=by
 cases d <;> try cases h
 ·rw [r.int]; exact eq_of_beq h
 ·rw [r.str]; exact eq_of_beq h
 ·obtain ⟨p,vs,ep,hs,_⟩:=r.lst bs
  rw [ep]
  exact .inl ⟨eq_of_beq h,vs,hs⟩
theorem Af5{T:String}{r:V->List V->Hp->VK->Prop}{f:D->List D->Option Rv}{O:M Rv}{A:M (List Rv)}{σ:L2.St}{H:Hp}{Q:VK}(hv:MtV g r f)(h:TV g W (Mj T f O A) σ H Q):tBM g.K T r (TV g W O) (TVA g W A) σ H Q:=by
 obtain ⟨G,e,sr,h⟩:=h
 refine ⟨G,e,sr,Pst.mono (Pst.bind h) fun o G1 H1 e1 t1 h1 x ok1=>?_⟩
 cases q:Ag o e1 with
 | none=>simp only [q] at h1; exact h1.elim
 | some d0 =>
  simp only [q] at h1
  by_cases ht:tyD T d0=true
  ·rw [if_pos ht] at h1
   refine ⟨Af4 t1.sr.bs (Cv t1.sr ok1 q) ht,G1,e1,t1.sr,Pst.mono (Pst.bind h1) fun rs G2 H2 e2 t2 h2 vs ok2=>?_⟩
   have ok1:=ok1.tr t2
   cases q1:Ag o e2 with
   | none=>simp only [q1] at h2; exact h2.elim
   | some d =>
    cases q2:Bv rs e2 with
    | none=>simp only [q1,q2] at h2; exact h2.elim
    | some ds =>
     cases qf:f d ds with
     | none=>simp only [q1,q2,qf] at h2; exact h2.elim
     | some out =>
      simp only [q1,q2,qf] at h2
      exact hv G2 H2 d ds x vs out Q t2.sr.bs (Cv t2.sr ok1 q1) (S0 t2.sr ok2 q2) qf fun z G3 H3 gr nw=>h2 G3 H3 (gr.tr t2.sr) z (nw.ok t2.sr fun p hp=>t1.dom p (t2.dom p hp))
  ·rw [if_neg ht] at h1; exact h1.elim
theorem Af6{T:String}{name:Str}{id:String}{r:V->List V->Hp->VK->Prop}{f:D->List D->Option Rv}{o ex:Expr}{es:List Expr}{O:M Rv}{A:M (List Rv)}{apos cpos:Pos}(pa:PlainAttrs T)(slot:Slot T name id)(hty:typeOf (.builtin id)=pure (.type "method_descriptor"))
  (hm:Cd g W k X->MtR X id r)(hv:MtV g r f)(ho:VE g W k X o O)(ha:VA g W k X (ex::es) A)(hbase:attributeBase o name X.env (eval o X.env)=eval o X.env:=by rfl)
  (hfew:((backTo cpos (starEach (ex::es) X.env)).all (fun x=>!x.1)&&(backToKw cpos (keywordEach [] X.env)).all (fun x=>x.1.isSome)
   && decide ((ex::es).length+([]:List Keyword).length+(if ([]:List Keyword).isEmpty then 0 else 1)<30))=true:=by rfl)
  (hline:(apos.endLine==cpos.line)=true:=by rfl)(hs:starEach (ex::es) X.env=(false,eval ex X.env)::starEach es X.env:=by rfl)(hplain:(backTo cpos (starEach es X.env)).any (·.1)=false:=by rfl) :
  VE g W k X (.Call (.Attribute o name apos) (ex::es) [] cpos) (Mj T f O A) :=
 ⟨fun c=>PE.imp (Aer g.K pa slot hty (hm c) (ho.run c) (ha.run c) c.K hbase hfew hline hs hplain) fun _ _ _ q=>Af5 hv q⟩
end
def K9:D->List D->Option Rv
 | .str a,[.lst ds]=>(match G8 ds with | some ls=>if (ls.map (·.length)).sum+ls.length*a.length<=16777216 then some (.val (.str (TL.joinL a ls))) else none | none=>none)
 | .str a,[.tup ds]=>(match G8 ds with | some ls=>if (ls.map (·.length)).sum+ls.length*a.length<=16777216 then some (.val (.str (TL.joinL a ls))) else none | none=>none)
 | _,_=>none
theorem Yc{a:List Nat}(ha:OkS a):∀ {ls:List (List Nat)},(∀ l∈ls,OkS l)->OkS (TL.joinL a ls)
 | [],_=>fun c hc=>nomatch hc
 | [p],h=>h p List.mem_cons_self
 | p::q::r,h=>(h p List.mem_cons_self).app (ha.app (Yc ha fun l hl=>h l (List.mem_cons_of_mem _ hl)))
section
variable{g:Gm}
theorem Af7:MtV g (rJoin g.K) K9:=fun G H d ds x xs out Q bs a b e q=>by
 cases d <;> try cases e
 rename_i sep
 have fin:∀ (ls:List (List Nat)) (p:Addr) (us:List V),xs=[.ref p]->(SqL g.K H p us\/SqT g.K H p us)->us=(ls.map S).map V.str->(∀ l∈ls,OkS l)->(if (ls.map (·.length)).sum+ls.length*sep.length<=16777216 then some (Rv.val (.str (TL.joinL sep ls))) else none)=some out->rJoin g.K x xs H Q:=fun ls p us ex hs eu ok e=>by
  by_cases c:(ls.map (·.length)).sum+ls.length*sep.length<=16777216
  ·rw [if_pos c] at e
   cases e
   refine ⟨S sep,p,ls.map S,a.str,ex,?_,?_,?_⟩
   ·rw [← eu]; exact hs
   ·rw [List.map_map,List.length_map,S_len]
    have:(ls.map ((fun s:Str=>s.length) ∘ S))=ls.map (·.length):=List.map_congr_left fun l _=>S_len l
    rw [this]
    exact c
   ·rw [join_S]
    exact q _ G H (Grow.refl bs) ⟨rfl,Yc a.okS ok⟩
  ·rw [if_neg c] at e; cases e
 match ds,e with
 | [],e=>cases e
 | d::d'::t,e=>cases d <;> cases e
 | [d],e =>
  obtain ⟨v,ev,bb⟩:=b.one
  cases d <;> try cases e
  ·rename_i zs
   obtain ⟨p,us,ep,hs,rp⟩:=bb.lst bs
   simp only [K9] at e
   cases z:G8 zs with
   | none=>rw [z] at e; cases e
   | some ls =>
    rw [z] at e
    obtain ⟨e1,e2⟩:=Tt rp z
    exact fin ls p us (by rw [ev,ep]) (.inl hs) e1 e2 e
  ·rename_i zs
   obtain ⟨p,us,ep,hs,rp⟩:=bb.tup bs
   simp only [K9] at e
   cases z:G8 zs with
   | none=>rw [z] at e; cases e
   | some ls =>
    rw [z] at e
    obtain ⟨e1,e2⟩:=Tt rp z
    exact fin ls p us (by rw [ev,ep]) (.inr hs) e1 e2 e
end
section
variable{g:Gm}{G H:Hp}{σ:L2.St}{e:Ve}{i:Nat}{d d':D}{p:Addr}{o':HO}
def B6(s:Sl)(d:D):Sl:=match s with
 | .ow _=>.ow d
 | .bo _=>.bo d
 | s=>s
theorem SR.mut{s:Sl}(sr:SR g G H σ e)(hi:e[i]? = some s)(ho:A5 s=some d)(hp:σ[i]? = some (some (.ref p)))(ow:Own g G H p d)(hn:Own g G (upd H p o') p d'):Tr g σ G H e G (upd H p o') (e.set i (B6 s d')):=by
 obtain ⟨p1,hp1,n1,_,rt⟩:=sr.own hi ho
 rw [hp] at hp1
 cases hp1
 obtain ⟨ob,hob,pl,_⟩:=ow.there
 have hlt:=C7 hi
 have ve:VeLe e (e.set i (B6 s d')):=⟨by rw [List.length_set],fun j t ht=>by
  rw [getElem?_set']
  by_cases hj:i=j
  ·subst hj
   rw [if_pos ⟨rfl,hlt⟩]
   rw [hi] at ht
   cases ht
   refine ⟨_,rfl,?_⟩
   cases s with
   | ow _=>exact ⟨d',.inl rfl⟩
   | bo _=>exact ⟨d',.inl rfl⟩
   | _=>cases ho
  ·rw [if_neg (fun z=>hj z.1)]
   exact ⟨t,ht,SlLe.refl t⟩⟩
 have ne:∀ j q,Rt σ e j q->j≠i->q≠p:=fun j q r hj z=>hj (sr.inj j i p (z ▸ r) rt)
 refine ⟨⟨sr.bs.put n1,Xd sr.tabs fun o h=>by rw [hob] at h; cases h; exact pl,?_,by rw [List.length_set]; exact sr.len,fun j=>?_,fun j l q a b=>sr.inj j l q (ve.rt a) (ve.rt b)⟩,Le.refl G,fun a o h n _=>by rw [upd_ne (fun z=>n i (by rw [z]; exact rt))]; exact h,fun a h=>?_,fun a h _ _=>h,ve⟩
 ·exact sr.scr.keep fun o u h=>by rw [upd_ne (fun z=>by rw [z,hob] at h; cases h; exact pl)]; exact h
 ·rw [getElem?_set']
  by_cases hj:i=j
  ·subst hj
   rw [if_pos ⟨rfl,hlt⟩]
   cases s with
   | ow _=>exact ⟨p,hp,n1,hn⟩
   | bo _=>exact ⟨p,hp,n1,hn⟩
   | _=>cases ho
  ·rw [if_neg (fun z=>hj z.1)]
   have sl:=sr.slot j
   cases q:e[j]? with
   | none=>trivial
   | some t =>
    rw [q] at sl
    cases t with
    | un=>trivial
    | sh _=>exact sl
    | bf _=>exact sl
    | lo _ =>
     obtain ⟨p',a,b,c⟩:=sl
     obtain ⟨ob',u',ho',_⟩:=c.there
     exact ⟨p',a,b,c.mono (Le.refl G) (upd_ne fun z=>by rw [z,hob] at ho'; cases ho'; exact pl)⟩
    | ow _ =>
     obtain ⟨p',a,b,c⟩:=sl
     exact ⟨p',a,b,c.mono (Le.refl G) (upd_ne (ne j p' ⟨by rw [q]; trivial,a⟩ fun z=>hj z.symm))⟩
    | bo _ =>
     obtain ⟨p',a,b,c⟩:=sl
     exact ⟨p',a,b,c.mono (Le.refl G) (upd_ne (ne j p' ⟨by rw [q]; trivial,a⟩ fun z=>hj z.symm))⟩
 ·by_cases z:a=p
  ·rw [z,upd_same] at h; cases h
  ·rw [upd_ne z] at h; exact h
end
def tyM(T:String):D->Bool
 | .lst _=>T == "list"
 | .dct _=>T == "dict"
 | _=>false
def fMut(T:String)(f:D->List D->Option (D×D))(i:Nat)(A:M (List Rv)):M Rv:=fun e0=>match (e0[i]?).bind A5 with
 | some d0=>if tyM T d0=true then (A.bind fun rs e=>match Cf rs,e[i]? with
  | some ds,some s=>(match A5 s with
   | some d=>(match f d ds with
    | some (d',dr)=>.ok (.val dr) (e.set i (B6 s d'))
    | none=>.no)
   | none=>.no)
  | _,_=>.no) e0 else .no
 | none=>.no
def appD:D->List D->Option (D×D)
 | .lst xs,[y]=>if xs.length<sizeLine then some (.lst (xs++[y]),.non) else none
 | _,_=>none
def Ml:D->D->D->Option D
 | .lst xs,.int i,y=>(match ixN xs.length i with | some j=>some (.lst (xs.set j y)) | none=>none)
 | _,_,_=>none
def Ci(kvs:List (List Nat×D))(k:List Nat)(v:D):List (List Nat×D):=if kvs.any (fun kv=>decide (kv.1=k))=true then kvs.map fun kv=>if kv.1=k then (kv.1,v) else kv else kvs++[(k,v)]
def Lb:D->D->D->Option D
 | .dct kvs,.str k,y=>if kvs.length<sizeLine then some (.dct (Ci kvs k y)) else none
 | _,_,_=>none
def Mm(f:D->D->D->Option D)(i:Nat)(Ix V:M Rv):M Ctl:=(Ad V).bind fun v=>fun e0=>match (e0[i]?).bind A5 with
 | some _=>((Ad Ix).bind fun ix e=>match v,ix,e[i]? with
  | .val v,.val ix,some s=>(match A5 s with
   | some d=>(match f d ix v with
    | some d'=>.ok .nx (e.set i (B6 s d'))
    | none=>.no)
   | none=>.no)
  | _,_,_=>.no) e0
 | none=>.no
def SetV(g:Gm)(t:V->V->V->Hp->(Hp->Prop)->Prop)(f:D->D->D->Option D):Prop:=∀ (G H:Hp) (p:Addr) (d di dv:D) (vi vv:V) (d':D) (Q:Hp->Prop),Own g G H p d->Rep g G di vi->Rep g G dv vv->f d di dv=some d' ->
 (∀ o',Own g G (upd H p o') p d'->Q (upd H p o'))->t (.ref p) vi vv H Q
section
variable{g:Gm}{W:WX}{k:Nat}{X:Cx}
theorem Af8:SetV g rSetL Ml:=fun G H p d di dv vi vv d' Q ow ri rv e q=>by
 cases d <;> cases di <;> try cases e
 rename_i xs i
 simp only [Ml] at e
 cases z:ixN xs.length i with
 | none=>rw [z] at e; cases e
 | some j =>
  rw [z] at e
  cases e
  obtain ⟨us,hp,rp⟩:=ow
  exact ⟨p,us,i,j,rfl,ri,hp,by rw [rp.len]; exact z,q _ ⟨_,upd_same,rp.set j rv⟩⟩
theorem RepK.anyK{G:Hp}:∀ {kvs:List (List Nat×D)} {vs:List (Key×V)} (k:List Nat),RepK g G kvs vs->(vs.any fun kv=>decide (kv.1=(.inr (S k):Key)))=kvs.any fun kv=>decide (kv.1=k)
 | [],vs,k,r=>by rw [show vs=[] from r]; rfl
 | (k0,d0)::kvs,vs,k,⟨_,v,t,e,a,b⟩=>by
  subst e
  rw [List.any_cons,List.any_cons,RepK.anyK k b,X2]
theorem RepK.append{G:Hp}:∀ {kvs kvs':List (List Nat×D)} {vs vs':List (Key×V)},RepK g G kvs vs->RepK g G kvs' vs'->RepK g G (kvs++kvs') (vs++vs')
 | [],_,_,_,h,q=>by rw [show _=[] from h]; exact q
 | (k,d)::ds,_,_,_,⟨ok,v,r,e,a,b⟩,q=>⟨ok,v,r++_,by rw [e]; rfl,a,RepK.append b q⟩
theorem RepK.put{G:Hp}{kvs:List (List Nat×D)}{vs:List (Key×V)}(k:List Nat){d:D}{v:V}(r:RepK g G kvs vs)(ok:OkS k)(h:Rep g G d v):RepK g G (Ci kvs k d) (putK vs (.inr (S k)) v):=by
 unfold Ci putK
 rw [r.anyK k]
 split
 ·exact r.map k h
 ·exact r.append ⟨ok,v,[],rfl,h,rfl⟩
def Af9:V->V->V->Hp->(Hp->Prop)->Prop:=fun x y v H Q=>∃ a H4,x=.ref a/\DPut H a y v H4/\Q H4
theorem Aga:SetV g Af9 Lb:=fun G H p d di dv vi vv d' Q ow ri rv e q=>by
 cases d <;> cases di <;> try cases e
 rename_i kvs ks
 simp only [Lb] at e
 by_cases c:kvs.length<sizeLine
 ·rw [if_pos c] at e
  cases e
  obtain ⟨us,hp,rp⟩:=ow
  rw [ri.1]
  exact ⟨p,_,rfl,DPut.k (k:=.inr (S ks)) hp (by rw [rp.len]; exact c),q _ ⟨_,upd_same,rp.put ks ri.2 rv⟩⟩
 ·rw [if_neg c] at e; cases e
theorem Agb{t:V->V->V->Hp->(Hp->Prop)->Prop}{f:D->D->D->Option D}{i:Nat}{Ix Vv:M Rv}{σ:L2.St}{H:Hp}{E:Ends}(hv:SetV g t f)(h:TVS g W (Mm f i Ix Vv) E σ H) :
  TV g W (Ad Vv) σ H fun v H1=>∃ p,σ[i]? = some (some (.ref p))/\TV g W (Ad Ix) σ H1 fun ix H2=>t (.ref p) ix v H2 fun H3=>E.nx σ H3:=by
 obtain ⟨G,e,sr,h⟩:=h
 refine ⟨G,e,sr,Pst.mono (PstS.bindE h) fun rv G1 H1 e1 t1 h1 v ok1=>?_⟩
 cases q0:e1[i]? with
 | none=>simp only [q0,Option.bind_none] at h1; exact h1.elim
 | some s0 =>
  cases q1:A5 s0 with
  | none=>simp only [q0,Option.bind_some,q1] at h1; exact h1.elim
  | some d0 =>
   simp only [q0,Option.bind_some,q1] at h1
   obtain ⟨p,hp,n,ow,rt⟩:=t1.sr.own q0 q1
   refine ⟨p,hp,G1,e1,t1.sr,Pst.mono (PstS.bindE h1) fun rix G2 H2 e2 t2 h2 ix ok2=>?_⟩
   have ok1:=ok1.tr t2
   cases rv with
   | val dv =>
    cases rix with
    | val dix =>
     cases q3:e2[i]? with
     | none=>simp only [q3] at h2; exact h2.elim
     | some s =>
      simp only [q3] at h2
      cases q4:A5 s with
      | none=>simp only [q4] at h2; exact h2.elim
      | some d =>
       simp only [q4] at h2
       cases qf:f d dix dv with
       | none=>simp only [qf] at h2; exact h2.elim
       | some d' =>
        simp only [qf] at h2
        obtain ⟨p',hp',n',ow',_⟩:=t2.sr.own q3 q4
        rw [hp] at hp'
        cases hp'
        refine hv G2 H2 p d dix dv ix v d' _ ow' ok2 ok1 qf fun o' on=>?_
        exact h2 σ G2 _ (t2.sr.mut q3 q4 hp ow' on).st
    | _=>exact h2.elim
   | _=>exact h2.elim
theorem Yd{x:Str}{i:Nat}{ix val:Expr}{Ix Vv:M Rv}{p pos pos':Pos}(hN:X.N[i]? = some x)(hvis:Vis X.env.scope x)(hi:VE g W k X ix Ix)(hv:VE g W k X val Vv)
  (hd:(x==("__debug__" : Str))=false:=by decide)(hcd:(x==("__classdict__" : Str))=false:=by decide)
  (hs:swapsWithSole [.Subscript (.Name x p) ix pos'] val pos.line X.env=pure false:=by rfl)(hw:swappedStores [.Subscript (.Name x p) ix pos'] val X.env=pure none:=by rfl)(h1:(assignEach [.Subscript (.Name x p) ix pos'] X.env).map (·.2)=[assign (.Subscript (.Name x p) ix pos') X.env]:=by rfl)
  (ha:∀ v,assign (.Subscript (.Name x p) ix pos') X.env v=(do let ov ← holding [v] (eval (.Name x p) X.env); let iv ← holding [v,ov] (eval ix X.env); standAt pos'; holding [v,ov,iv] (setItem ov iv v); release [v,ov,iv] []):=by intro _; rfl) :
  VS g W k X (.Assign [.Subscript (.Name x p) ix pos'] val pos) (Mm Ml i Ix Vv) :=
 ⟨fun c=>PS.imp (ps_asg ((Am hv).run c) (pg_sub (pe_var hN hvis hd hcd) ((Am hi).run c) set_list ha) hs hw h1) fun E σ H q=>by
  obtain ⟨G,e,sr,h⟩:=Agb Af8 q
  refine ⟨G,e,sr,Pst.mono h fun r G1 H1 e1 t1 h1 v ok=>?_⟩
  obtain ⟨p,hp,rest⟩:=h1 v ok
  exact ⟨.ref p,hp,rest⟩⟩
end
section
variable{X:Cx}{k:Nat}{f C:Addr}{ks:List Str}{sp:Sp}{E:L2.St->XK}
theorem Ye{pins:List (Addr×Obj)}{σ:L2.St}{H:Hp}{s:Shared}{Q:VK}{us ws:List Value}{vs zs:List V}(mk:Mk X.K C f)(Fk:FnK X.prog X.w X.K X.mg X.base (L2.CX X.prog X.w) k f ks sp)(rm:Rm (k+1) X.A)
  (px:PassesAt (L2.CX X.prog X.w) X σ (E σ))(I:Inv X pins σ H s)(rv:Vals vs us)(rz:Vals zs ws)(hl:ws.length=ks.length)
  (want:∀ x dx,H x=none->H dx=none->dx≠x->sp (.ref x::(vs++zs)) (upd (upd H dx (.own x)) x (.ins C dx [])) (fun v H2=>v=.non/\Q (.ref x) H2) (E σ)) :
  wpAny (model X.prog X.w) X.A (call (.ref C) us (ks.zip ws)) (EP X pins σ Q) X.xe s:=by
 have w1:=want (s.heap.objs.size+1) s.heap.objs.size (I.hok.fresh (Nat.le_succ _)) (I.hok.fresh (Nat.le_refl _)) (Nat.ne_of_lt (Nat.lt_succ_self _))
 have J:=Inv.made (C:=C) I
 have vals:Vals (V.ref (s.heap.objs.size+1)::vs) (Value.ref (s.heap.objs.size+1)::us):=.cons rfl rv
 have go:=Fk _ X.stack _ _ (Value.ref (s.heap.objs.size+1)::us) ws _ zs _ (E σ) (rm.make C us (ks.zip ws)) (J.env0.make C us (ks.zip ws)) vals rz hl w1
 refine wpAny_call (make_map (f:=f) I.kIn mk.makes mk.init (beq_iff_eq.mp mk.fn) (codeAny_mono go fun res s' z=>?_))
 match res,z with
 | .error e,z=>exact px pins _ _ e s' J z
 | .ok (.ret u),z =>
  obtain ⟨v,H',J3,rv3,ev,q3⟩:=J.after z
  subst ev
  exact ⟨rv3,⟨V.ref (s.heap.objs.size+1),H',J3,rfl,q3⟩⟩
 | .ok .next,z=>exact False.elim z
 | .ok .brk,z=>exact False.elim z
 | .ok .cont,z=>exact False.elim z
def Agc(C:Addr)(sp:Sp)(E:L2.St->XK)(t tz:TA):TE:=fun σ H Q=>t σ H fun vs H1=>tz σ H1 fun zs H2=>∀ x dx,H2 x=none->H2 dx=none->dx≠x ->
 sp (.ref x::(vs++zs)) (upd (upd H2 dx (.own x)) x (.ins C dx [])) (fun v H3=>v=.non/\Q (.ref x) H3) (E σ)
theorem Yf{x:Str}{p pos:Pos}{ex:Expr}{es:List Expr}{t:TA}(mk:Mk X.K C f)(Fk:FnK X.prog X.w X.K X.mg X.base (L2.CX X.prog X.w) k f [] sp)(rm:Rm (k+1) X.A)(hg:Gl X x)(hm:X.mg x=some (.ref C))(px:∀ σ,PassesAt (L2.CX X.prog X.w) X σ (E σ))
  (ha:PA X (ex::es) t)(hdb:(x==("__debug__" : Str))=false:=by decide)(he:starEach (ex::es) X.env=(false,eval ex X.env)::starEach es X.env:=by rfl)(hpl:(backTo pos (starEach es X.env)).any (·.1)=false:=by rfl) :
  PE X (.Call (.Name x p) (ex::es) [] pos) (Agc C sp E t tNil):=⟨fun pins s σ H Q I h =>
 wpAny_Call_Name_kw (ld_glob I hg hm (PySem.W.callWith_K (h₀:=X.base) I.ok.mod.kin mk.kp (thn (ha.run pos pins s σ H _ I h) fun us s1 ⟨vs,H1,J,r,q⟩=>⟨J.kIn,Ye (ks:=[]) (ws:=[]) (zs:=[]) mk Fk rm (px σ) J r .nil rfl q⟩) he hpl) hdb)⟩
theorem Agd{x:Str}{p pos:Pos}{kws:List Keyword}{tz:TA}(mk:Mk X.K C f)(Fk:FnK X.prog X.w X.K X.mg X.base (L2.CX X.prog X.w) k f ks sp)(rm:Rm (k+1) X.A)(hg:Gl X x)(hm:X.mg x=some (.ref C))(px:∀ σ,PassesAt (L2.CX X.prog X.w) X σ (E σ))
  (hz:PK X kws tz)(hall:(backToKw pos (keywordEach kws X.env)).all (·.1.isSome)=true:=by rfl)(hks:(backToKw pos (keywordEach kws X.env)).filterMap (·.1)=ks:=by rfl)(hdb:(x==("__debug__" : Str))=false:=by decide)
  (hpl:((backTo pos (starEach [] X.env)).any (·.1)||(backToKw pos (keywordEach kws X.env)).any (·.1.isNone))=false:=by rfl) :
  PE X (.Call (.Name x p) [] kws pos) (fun σ H Q=>tz σ H fun zs H2=>zs.length=ks.length/\∀ x dx,H2 x=none->H2 dx=none->dx≠x ->
 sp (.ref x::([]++zs)) (upd (upd H2 dx (.own x)) x (.ins C dx [])) (fun v H3=>v=.non/\Q (.ref x) H3) (E σ)):=⟨fun pins s σ H Q I h=>by
 refine wpAny_Call_Name_kw (ld_glob I hg hm (PySem.W.callWith_KW0 (h₀:=X.base) I.ok.mod.kin mk.kp hall ?_ hpl) hdb)
 refine thn (hz.run pos pins s σ H _ I h) fun ws s2 ⟨zs,H2,J2,rz,hl,q2⟩=>⟨J2.kIn,?_⟩
 rw [hks]
 exact Ye (us:=[]) (vs:=[]) mk Fk rm (px σ) J2 .nil rz (by rw [← rz.length]; exact hl) q2⟩
def tMethS(T:Addr->Sp->Prop)(m:Str)(E:L2.St->XK)(ta:TE)(t:TA):TE:=fun σ H Q=>ta σ H fun x H1=>∃ a C dx fs sp,x=.ref a/\H1 a=some (.ins C dx fs)/\fs.lookup m=none/\T C sp/\t σ H1 fun vs H2=>sp (x::vs) H2 Q (E σ)
def Yg(X:Cx)(m:Str)(k:Nat)(C:Addr)(sp:Sp):Prop:=∃ f,Cls X.K C/\Meth X.K C m f/\FnK X.prog X.w X.K X.mg X.base (L2.CX X.prog X.w) k f [] sp
theorem pe_methS{pl:Sem Bool}{m:Str}{o ex:Expr}{es:List Expr}{apos pos:Pos}{ta:TE}{t:TA}{T:Addr->Sp->Prop}(he:PE X o ta)(tab:∀ C sp,T C sp->Yg X m k C sp)(rm:Rm k X.A)(px:∀ σ,PassesAt (L2.CX X.prog X.w) X σ (E σ))(ha:PA X (ex::es) t)
  (hst:starEach (ex::es) X.env=(false,eval ex X.env)::starEach es X.env:=by rfl)(hpl:(backTo pos (starEach es X.env)).any (·.1)=false:=by rfl)
  (ht:eval (.Call (.Attribute o m apos) (ex::es) [] pos) X.env=(do
   let ov ← eval o X.env
   standAt apos.atName
   let (f,first) ← holding [ov] (getMethod ov m pl)
   callWith pos f first (backTo pos (starEach (ex::es) X.env)) (backToKw pos (keywordEach [] X.env))):=by rfl) :
  PE X (.Call (.Attribute o m apos) (ex::es) [] pos) (tMethS T m E ta t):=⟨fun pins s σ H Q I h=>by
 refine PySem.W.methodCall_KW (pl:=pl) (thn (he.run pins s σ H _ I h) fun u s1 ⟨x,H1,J1,rx,a,C,dx,fs,sp,ex',ea,l,hT,q⟩=>?_) ht
 obtain ⟨f,c,hm,Fk⟩:=tab C sp hT
 subst ex'
 obtain rfl:u=Value.ref a:=rx
 exact getmeth_ok J1 ea c hm l (PySem.W.callWith_K (first:=[.ref a]) (h₀:=X.base) I.ok.mod.kin hm.kp (thn (ha.run pos pins s1 σ H1 _ J1 q) fun us s2 ⟨vs,H2,J2,r,q2⟩=>⟨J2.kIn,wpAny_call (Mf (us:=.ref a::us) (vs:=.ref a::vs) Fk rm (px σ) J2 (.cons rfl r) .nil rfl (by rw [List.append_nil]; exact q2))⟩) hst hpl)⟩
theorem Age{pl:Sem Bool}{m:Str}{o:Expr}{apos pos:Pos}{ta:TE}{T:Addr->Sp->Prop}(he:PE X o ta)(tab:∀ C sp,T C sp->Yg X m k C sp)(rm:Rm k X.A)(px:∀ σ,PassesAt (L2.CX X.prog X.w) X σ (E σ))
  (ht:eval (.Call (.Attribute o m apos) [] [] pos) X.env=(do
   let ov ← eval o X.env
   standAt apos.atName
   let (f,first) ← holding [ov] (getMethod ov m pl)
   callWith pos f first (backTo pos (starEach [] X.env)) (backToKw pos (keywordEach [] X.env))):=by rfl) :
  PE X (.Call (.Attribute o m apos) [] [] pos) (tMethS T m E ta tNil):=⟨fun pins s σ H Q I h=>by
 refine PySem.W.methodCall_KW (pl:=pl) (thn (he.run pins s σ H _ I h) fun u s1 ⟨x,H1,J1,rx,a,C,dx,fs,sp,ex',ea,l,hT,q⟩=>?_) ht
 obtain ⟨f,c,hm,Fk⟩:=tab C sp hT
 subst ex'
 obtain rfl:u=Value.ref a:=rx
 exact getmeth_ok J1 ea c hm l (PySem.W.callWith_K0 (first:=[.ref a]) J1.kIn hm.kp (wpAny_call (Mf (us:=[.ref a]) (vs:=[.ref a]) Fk rm (px σ) J1 (.cons rfl .nil) .nil rfl q)))⟩
end
def Em(f:Str)(A:M Rv):M Rv:=A.bind fun r e=>match Ag r e with
 | some (.ins _ fs)=>(match fs.lookup f with | some d=>.ok (.val d) e | none=>.no)
 | _=>.no
def Bl(f:Str)(d:D):List (Str×D)->List (Str×D)
 | []=>[(f,d)]
 | (q,x)::r=>if q=f then (q,d)::r else (q,x)::Bl f d r
def Fh(cs:List Str)(f:Str)(i:Nat)(V:M Rv):M Ctl:=(Ad V).bind fun v e=>match v,e[i]? with
 | .val v,some s=>(match A5 s with
  | some (.ins c fs)=>if cs.contains c=true/\fs.length<1000 then .ok .nx (e.set i (B6 s (.ins c (Bl f v fs)))) else .no
  | _=>.no)
 | _,_=>.no
section
variable{g:Gm}{W:WX}{k:Nat}{X:Cx}
theorem RepF.look{G:Hp}{f:Str}:∀ {fs:List (Str×D)} {vs:List (Str×V)} {d:D},RepF g G fs vs->fs.lookup f=some d->∃ v,vs.lookup f=some v/\Rep g G d v
 | [],vs,d,r,h=>by cases h
 | (q,x)::fs,vs,d,⟨v,t,e,a,b⟩,h=>by
  subst e
  rw [List.lookup_cons] at h ⊢
  cases z:f==q with
  | true=>rw [z] at h; cases h; exact ⟨v,rfl,a⟩
  | false=>rw [z] at h; exact RepF.look b h
theorem RepF.lookN{G:Hp}{f:Str}:∀ {fs:List (Str×D)} {vs:List (Str×V)},RepF g G fs vs->fs.lookup f=none->vs.lookup f=none
 | [],vs,r,h=>by rw [show vs=[] from r]; rfl
 | (q,x)::fs,vs,⟨v,t,e,a,b⟩,h=>by
  subst e
  rw [List.lookup_cons] at h ⊢
  cases z:f==q with
  | true=>rw [z] at h; cases h
  | false=>rw [z] at h; exact RepF.lookN b h
theorem RepF.put{G:Hp}{f:Str}{d:D}{u:V}(h:Rep g G d u):∀ {fs:List (Str×D)} {vs:List (Str×V)},RepF g G fs vs->RepF g G (Bl f d fs) (putF f u vs)
 | [],vs,r=>by rw [show vs=[] from r]; exact ⟨u,[],rfl,h,rfl⟩
 | (q,x)::fs,vs,⟨v,t,e,a,b⟩=>by
  subst e
  unfold Bl putF
  by_cases z:q=f
  ·subst z
   simp only [if_pos]
   exact ⟨u,t,rfl,h,b⟩
  ·simp only [if_neg z]
   exact ⟨v,_,rfl,a,RepF.put h b⟩
theorem Oa{f:Str}{d:D}:∀ {fs:List (Str×D)} {q:Str×D},q∈Bl f d fs->q.1=f\/∃ x,(q.1,x)∈fs
 | [],q,h=>by rw [List.mem_singleton.mp h]; exact .inl rfl
 | (q0,x)::fs,q,h=>by
  unfold Bl at h
  split at h
  ·rcases List.mem_cons.mp h with z | z
   ·rw [z]; exact .inr ⟨x,List.mem_cons_self⟩
   ·exact .inr ⟨q.2,List.mem_cons_of_mem _ z⟩
  ·rcases List.mem_cons.mp h with z | z
   ·rw [z]; exact .inr ⟨x,List.mem_cons_self⟩
   ·rcases Oa z with y | ⟨y,hy⟩
    ·exact .inl y
    ·exact .inr ⟨y,List.mem_cons_of_mem _ hy⟩
theorem lookup_mem{α:Type}{f:Str}{d:α}:∀ {fs:List (Str×α)},fs.lookup f=some d->∃ q∈fs,q.1=f
 | [],h=>by cases h
 | (q,x)::fs,h=>by
  rw [List.lookup_cons] at h
  cases z:f==q with
  | true=>exact ⟨_,List.mem_cons_self,(eq_of_beq z).symm⟩
  | false =>
   rw [z] at h
   obtain ⟨y,hy,ey⟩:=lookup_mem h
   exact ⟨y,List.mem_cons_of_mem _ hy,ey⟩
theorem Fj{ex:Expr}{f:Str}{A:M Rv}{pos:Pos}(h:VE g W k X ex A)(hb:attributeBase ex f X.env (eval ex X.env)=eval ex X.env:=by rfl):VE g W k X (.Attribute ex f pos) (Em f A) :=
 ⟨fun c=>PE.imp (fldK g.K (h.run c) hb c.K) fun σ H Q ⟨G,e,sr,q⟩=>⟨G,e,sr,Pst.mono (Pst.bind q) fun r G1 H1 e1 t1 h1 v ok=>by
  cases q1:Ag r e1 with
  | none=>simp only [q1] at h1; exact h1.elim
  | some d =>
   cases d with
   | ins c fs =>
    simp only [q1] at h1
    cases q2:fs.lookup f with
    | none=>simp only [q2] at h1; exact h1.elim
    | some d =>
     simp only [q2] at h1
     obtain ⟨a,dx,vs,ev,ha,rf,io⟩:=(Cv t1.sr ok q1).ins t1.sr.bs
     obtain ⟨u,hu,ru⟩:=rf.look q2
     obtain ⟨y,hy,ey⟩:=lookup_mem q2
     exact ⟨a,_,dx,vs,u,ev,ha,io.1,ey ▸ io.2 y hy,hu,h1 G1 H1 (Tr.refl t1.sr) u ru⟩
   | _=>simp only [q1] at h1; exact h1.elim⟩⟩
theorem Ii{x f:Str}{i:Nat}{val:Expr}{Vv:M Rv}{cs:List Str}{p pos pos':Pos}(hno:∀ c∈cs,NoAttr g.K (g.ca c) f)(hN:X.N[i]? = some x)(hvis:Vis X.env.scope x)(hv:VE g W k X val Vv)
  (hd:(x==("__debug__" : Str))=false:=by decide)(hcd:(x==("__classdict__" : Str))=false:=by decide)(hs:swapsWith val (some (.Attribute (.Name x p) f pos')) pos.line X.env=pure false:=by rfl) :
  VS g W k X (.Assign [.Attribute (.Name x p) f pos'] val pos) (Fh cs f i Vv) :=
 ⟨fun c=>PS.imp (Sy g.K (pe_var hN hvis hd hcd) ((Am hv).run c) hs c.K) fun D σ H ⟨G,e,sr,q⟩=>⟨G,e,sr,Pst.mono (PstS.bindE q) fun r G1 H1 e1 t1 h1 v ok=>by
  cases r with
  | val dv =>
   cases q3:e1[i]? with
   | none=>simp only [q3] at h1; exact h1.elim
   | some s =>
    simp only [q3] at h1
    cases q4:A5 s with
    | none=>simp only [q4] at h1; exact h1.elim
    | some d =>
     cases d with
     | ins c fs =>
      simp only [q4] at h1
      by_cases hc:cs.contains c=true/\fs.length<1000
      ·rw [if_pos hc] at h1
       obtain ⟨p',hp,n,ow,_⟩:=t1.sr.own q3 q4
       obtain ⟨dx,vs,ha,rf,io⟩:=id ow
       have hn:=hno c (List.contains_iff_mem.mp hc.1)
       refine ⟨.ref p',hp,p',_,dx,vs,rfl,ha,io.1,hn,by rw [rf.len]; exact hc.2,?_⟩
       refine h1 σ G1 _ (t1.sr.mut (d':=.ins c (Bl f dv fs)) (o':=.ins (g.ca c) dx (putF f v vs)) q3 q4 hp ow ⟨dx,_,upd_same,rf.put ok,io.1,fun y hy=>?_⟩).st
       rcases Oa hy with z | ⟨z,hz⟩
       ·rw [z]; exact hn
       ·exact io.2 (y.1,z) hz
      ·rw [if_neg hc] at h1; exact h1.elim
     | _=>simp only [q4] at h1; exact h1.elim
  | _=>exact h1.elim⟩⟩
end
def Qj(rs:List Rv)(e:Ve):Res Rv->Res Rv
 | .ok (.val .non) (.bo d::as')=>.ok (.fresh d) (A6 rs as' e)
 | .ok (.val .non) (.bf d::as')=>.ok (.val d) (A6 rs as' e)
 | .er x (_::as')=>.er x (A6 rs as' e)
 | _=>.no
def Hr(c:Str)(f:List Sl->Res Rv)(rs:List Rv):M Rv:=fun e=>if Bp rs=true then (match A9 rs e with
 | some as=>Qj rs e (f (.bo (.ins c [])::as))
 | none=>.no) else .no
def Mn(c:Str)(f:List Sl->Res Rv)(A:M (List Rv)):M Rv:=A.bind (Hr c f)
def Agf(c:Str)(f:List Sl->Res Rv)(A B:M (List Rv)):M Rv:=A.bind fun rs=>B.bind fun zs=>Hr c f (rs++zs)
section
variable{g:Gm}{W:WX}{k:Nat}{X:Cx}
theorem Agg{j:Nat}{r:Rv}{rs:List Rv}{a:Sl}{as:List Sl}(h:∀ i,r≠.slot i):D6 j (r::rs) (a::as)=D6 j rs as:=by
 cases r with
 | slot i=>exact absurd rfl (h i)
 | val d=>rfl
 | fresh d=>rfl
theorem Tv{r:Rv}{rs:List Rv}{a:Sl}{as:List Sl}(h:∀ i,r≠.slot i):∀ (e:Ve) (j:Nat),E8 (r::rs) (a::as) j e=E8 rs as j e
 | [],_=>rfl
 | s::t,j=>by rw [E8,E8,Agg h,Tv h t (j+1)]
theorem Yh{c:Str}{f:List Sl->Res Rv}{rs:List Rv}{vs:List V}{σ:L2.St}{G H G1 H1:Hp}{e e1:Ve}{Q:VK}(hc:Cls g.K (g.ca c))(sr:SR g G H σ e)(t1:Tr g σ G H e G1 H1 e1)(rv:RvsOk g G1 H1 σ e1 H rs vs)
  (h1:Pst g W σ G H e (fun r G' H' e'=>∀ v,RvOk g G' H' σ e' H r v->Q v H') (Hr c f rs e1)):∀ x dx,H1 x=none->H1 dx=none->dx≠x ->
   spR g f (.ref x::vs) (upd (upd H1 dx (.own x)) x (.ins (g.ca c) dx [])) (fun v H2=>v=.non/\Q (.ref x) H2) (fun cls d H'=>W cls d σ H'):=by
 intro x dx nx ndx ne
 have g1:=Grow.lay (o:=HO.own x) t1.sr.bs ndx
 have nx2:upd H1 dx (.own x) x=none:=by rw [upd_ne (fun z=>ne z.symm)]; exact nx
 have g2:=g1.trans (Grow.lay (o:=HO.ins (g.ca c) dx []) g1.bs nx2)
 have t2:=t1.trans (g2.tr t1.sr)
 have hx0:H x=none:=t1.dom x nx
 have rvx:RvOk g G1 (upd (upd H1 dx (.own x)) x (.ins (g.ca c) dx [])) σ e1 H (.fresh (.ins c [])) (.ref x) :=
  ⟨x,rfl,t1.sr.bs.hn nx,⟨dx,[],upd_same,rfl,hc,fun q hq=>nomatch hq⟩,hx0,fun i r=>(t1.sr.root r).2 nx⟩
 have rv2:RvsOk g G1 (upd (upd H1 dx (.own x)) x (.ins (g.ca c) dx [])) σ e1 H (.fresh (.ins c [])::rs) (.ref x::vs):=by
  refine ⟨.ref x,vs,rfl,rvx,rv.tr (g2.tr t1.sr),fun d p er ep d' u m z=>?_⟩
  cases ep
  have key:∀ {rs:List Rv} {vs:List V},RvsOk g G1 H1 σ e1 H rs vs->(Rv.fresh d',u)∈rs.zip vs->∃ p',u=.ref p'/\H1 p'≠none:=by
   intro rs
   induction rs with
   | nil=>intro vs _ m; simp at m
   | cons r rs ih =>
    intro vs h m
    obtain ⟨v,t,rfl,a,b,_⟩:=h
    rcases List.mem_cons.mp m with y | y
    ·cases y
     obtain ⟨p',ev,_,ow,_⟩:=a
     obtain ⟨ob,ho,_⟩:=ow.there
     exact ⟨p',ev,by rw [ho]; exact fun z=>nomatch z⟩
    ·exact ih b y
  obtain ⟨p',ep',hp'⟩:=key rv m
  rw [z] at ep'
  cases ep'
  exact hp' nx
 unfold Hr at h1
 by_cases o:Bp rs=true
 ·rw [if_pos o] at h1
  cases qa:A9 rs e1 with
  | none=>rw [qa] at h1; exact h1.elim
  | some as =>
   rw [qa] at h1
   simp only at h1
   ·have qa2:A9 (.fresh (.ins c [])::rs) e1=some (.bo (.ins c [])::as):=by
     unfold A9
     rw [qa]
     rfl
    obtain ⟨sra,oka,rts⟩:=Md t2.sr rv2 o qa2
    refine ⟨G1,.bo (.ins c [])::as,oka,sra,?_⟩
    have trc:∀ {G2 H2:Hp} {a0:Sl} {as':List Sl},Tr g ((V.ref x::vs).map some) G1 (upd (upd H1 dx (.own x)) x (.ins (g.ca c) dx [])) (.bo (.ins c [])::as) G2 H2 (a0::as')->Tr g σ G H e G2 H2 (A6 rs as' e1):=fun {G2 H2 a0 as'} t3=>by
     have:=Tf t2 rv2 o qa2 t3
     unfold A6 at this ⊢
     rw [Tv (fun i z=>by cases z)] at this
     exact this
    have shape:∀ {G2 H2:Hp} {as2:List Sl},Tr g ((V.ref x::vs).map some) G1 (upd (upd H1 dx (.own x)) x (.ins (g.ca c) dx [])) (.bo (.ins c [])::as) G2 H2 as2->∃ a0 as',as2=a0::as':=fun {G2 H2 as2} t3=>by
     have:=t3.ve.len
     cases as2 with
     | nil=>simp at this
     | cons a0 as'=>exact ⟨a0,as',rfl⟩
    revert h1
    generalize f (.bo (.ins c [])::as)=res
    intro h1
    match res,h1 with
    | .no,h1=>exact h1
    | .er x' [],h1=>exact h1.elim
    | .er x' (a0::as'),h1=>exact fun cls d G2 H2 t3 xo=>h1 cls d G2 H2 (trc t3) xo
    | .ok (.val .non) (.bo d::as'),h1 =>
     intro G2 H2 t3 v nw
     refine ⟨nw,h1 G2 H2 (trc t3) (.ref x) ?_⟩
     have sl:=t3.sr.slot 0
     obtain ⟨p,ep,np,ow⟩:=sl
     cases ep
     exact ⟨x,rfl,np,ow,hx0,fun i r=>(sr.root ((trc t3).ve.rt r)).2 hx0⟩
    | .ok (.val .non) (.bf d::as'),h1 =>
     intro G2 H2 t3 v nw
     refine ⟨nw,h1 G2 H2 (trc t3) (.ref x) ?_⟩
     have sl:=t3.sr.slot 0
     obtain ⟨u,eu,ru⟩:=sl
     cases eu
     exact ru
    | .ok (.val .non) [],h1=>exact h1.elim
    | .ok (.val .non) (.un::_),h1=>exact h1.elim
    | .ok (.val .non) (.sh _::_),h1=>exact h1.elim
    | .ok (.val .non) (.ow _::_),h1=>exact h1.elim
    | .ok (.val .non) (.lo _::_),h1=>exact h1.elim
    | .ok (.val (.bl _)) _,h1=>exact h1.elim
    | .ok (.val (.int _)) _,h1=>exact h1.elim
    | .ok (.val (.str _)) _,h1=>exact h1.elim
    | .ok (.val (.lst _)) _,h1=>exact h1.elim
    | .ok (.val (.tup _)) _,h1=>exact h1.elim
    | .ok (.val (.dct _)) _,h1=>exact h1.elim
    | .ok (.val (.set _)) _,h1=>exact h1.elim
    | .ok (.val (.ins _ _)) _,h1=>exact h1.elim
    | .ok (.val (.con _)) _,h1=>exact h1.elim
    | .ok (.val (.scr _)) _,h1=>exact h1.elim
    | .ok (.slot _) _,h1=>exact h1.elim
    | .ok (.fresh _) _,h1=>exact h1.elim
 ·rw [if_neg o] at h1; exact h1.elim
def Mk'(P:Program)(mg:Str->Option Value)(base:Heap)(g:Gm)(x c:Str)(ks:List Str)(j:Nat)(F:List Sl->Res Rv):Prop :=
 ∃ f,mg x=some (.ref (g.ca c))/\Mk g.K (g.ca c) f/\Cls g.K (g.ca c)/\FnK P g.w g.K mg base (L2.CX P g.w) j f ks (spR g F)
theorem Yi{x c:Str}{j:Nat}{F:List Sl->Res Rv}{ex:Expr}{es:List Expr}{A:M (List Rv)}{p pos:Pos}(d:Mk' X.prog X.mg X.base g x c [] j F)(hj:j+1<=k)(hg:Gl X x)(ha:VA g W k X (ex::es) A)
  (hdb:(x==("__debug__" : Str))=false:=by decide)(he:starEach (ex::es) X.env=(false,eval ex X.env)::starEach es X.env:=by rfl)(hpl:(backTo pos (starEach es X.env)).any (·.1)=false:=by rfl):VE g W k X (.Call (.Name x p) (ex::es) [] pos) (Mn c F A):=by
 refine ⟨fun cd=>?_⟩
 obtain ⟨f,hm,mk,hc,Fk⟩:=d
 obtain ⟨gK,gw,ca,gT,gs,gn⟩:=g
 obtain rfl:X.K=gK:=cd.K
 obtain rfl:X.w=gw:=cd.w
 refine PE.imp (Yf (E:=fun σ cls d H'=>W cls d σ H') mk Fk (cd.room.mono hj) hg hm (fun σ=>passAt cd.tk σ) (ha.run cd) hdb he hpl) fun σ H Q ⟨G,e,sr,q⟩=>?_
 refine ⟨G,e,sr,Pst.mono (Pst.bind0 q) fun rs G1 H1 e1 t1 h1 vs rv=>?_⟩
 show ∀ x dx,_
 rw [List.append_nil]
 exact Yh hc sr t1 rv h1
structure VK'(g:Gm)(W:WX)(k:Nat)(X:Cx)(kws:List Keyword)(F:M (List Rv)):Prop where
 run:Cd g W k X->PK X kws (TVA g W F)
theorem Agh:VK' g W k X [] Af:=⟨fun _=>PK.imp pk_nil fun σ H Q ⟨G,e,sr,h⟩=>h G H (Tr.refl sr) [] rfl⟩
theorem Yj{ex:Expr}{kws:List Keyword}{nm:Option Str}{kpos:Pos}{A:M Rv}{B:M (List Rv)}(ha:VE g W k X ex A)(hb:VK' g W k X kws B):VK' g W k X (⟨nm,ex,kpos⟩::kws) (Aa A B):=by
 refine ⟨fun c=>PK.imp (pk_cons (ha.run c) (hb.run c)) fun σ H Q ⟨G,e,sr,h⟩=>?_⟩
 refine ⟨G,e,sr,Pst.mono (Pst.bind h) fun a G1 H1 e1 t1 h1 v ok1=>⟨G1,e1,t1.sr,Pst.mono (Pst.bind h1) fun bs G2 H2 e2 t2 h2 vs ok2=>?_⟩⟩
 refine h2 G2 H2 (Tr.refl t2.sr) (v::vs) ⟨v,vs,rfl,ok1.tr t2,ok2.h0 t1.dom,fun d p er ev d' u m z=>?_⟩
 obtain ⟨p',eu,hp'⟩:=ok2.new d' u m
 rw [z] at eu
 cases eu
 subst er
 obtain ⟨p1,ev1,_,o,_⟩:=ok1
 rw [ev] at ev1
 cases ev1
 obtain ⟨ob,ho,_⟩:=o.there
 rw [ho] at hp'
 cases hp'
theorem RvsOk.append{G H H1 H0:Hp}{σ:L2.St}{e:Ve}(hk:∀ p,H1 p=none->H0 p=none):∀ {rs:List Rv} {vs:List V} {zs:List Rv} {us:List V},RvsOk g G H σ e H0 rs vs->(∀ d p,(Rv.fresh d,V.ref p)∈rs.zip vs->H1 p≠none)->RvsOk g G H σ e H1 zs us->RvsOk g G H σ e H0 (rs++zs) (vs++us)
 | [],vs,zs,us,h,_,q=>by rw [show vs=[] from h]; exact q.h0 hk
 | r::rs,vs,zs,us,⟨v,t,ev,a,b,c⟩,hn,q=>by
  subst ev
  refine ⟨v,t++us,rfl,a,RvsOk.append hk b (fun d p m=>hn d p (List.mem_cons_of_mem _ m)) q,fun d p er ep d' u m z=>?_⟩
  have lz:rs.length=t.length:=b.len.symm
  have m:(Rv.fresh d',u)∈(rs++zs).zip (t++us):=m
  rw [List.zip_append lz] at m
  rcases List.mem_append.mp m with y | y
  ·exact c d p er ep d' u y z
  ·obtain ⟨p',eu,hp'⟩:=q.new d' u y
   rw [z] at eu
   cases eu
   subst er ep
   exact hn d p List.mem_cons_self hp'
end
def Lc(T:Str->Option (List Sl->Res Rv))(m:Str)(O:M Rv)(A:M (List Rv)):M Rv:=O.bind fun o e0=>match Ag o e0 with
 | some (.ins c fs)=>if (fs.lookup m).isNone=true then (match T c with
  | some F=>(A.bind fun rs=>Bj F (o::rs)) e0
  | none=>.no) else .no
 | _=>.no
def Yk(T:Str->Option (List Sl->Res Rv))(O:M Rv)(A:M (List Rv)):M Rv:=(Ad O).bind fun o=>match o with
 | .val (.ins c fs)=>(match T c with
  | some F=>A.bind fun rs=>Bj F (.val (.ins c fs)::rs)
  | none=>fun _=>.no)
 | _=>fun _=>.no
section
variable{g:Gm}{W:WX}{k:Nat}{X:Cx}
def Qk(P:Program)(mg:Str->Option Value)(base:Heap)(g:Gm)(m:Str)(j:Nat)(T:Str->Option (List Sl->Res Rv)):Prop :=
 ∀ c F,T c=some F->∃ f,Cls g.K (g.ca c)/\Meth g.K (g.ca c) m f/\FnK P g.w g.K mg base (L2.CX P g.w) j f [] (spR g F)
theorem Yl{G H H1 H0:Hp}{σ:L2.St}{e:Ve}{r:Rv}{rs:List Rv}{v:V}{vs:List V}(hk:∀ p,H1 p=none->H0 p=none)(a:RvOk g G H σ e H0 r v)(hn:∀ d p,r=.fresh d->v=.ref p->H1 p≠none)(b:RvsOk g G H σ e H1 rs vs):RvsOk g G H σ e H0 (r::rs) (v::vs):=by
 refine ⟨v,vs,rfl,a,b.h0 hk,fun d p er ep d' u m z=>?_⟩
 obtain ⟨p',eu,hp'⟩:=b.new d' u m
 rw [z] at eu
 cases eu
 exact hn d p er ep hp'
theorem Ym{G H H0:Hp}{σ:L2.St}{e:Ve}{r:Rv}{v:V}(a:RvOk g G H σ e H0 r v)(d:D)(p:Addr)(er:r=.fresh d)(ep:v=.ref p):H p≠none:=by
 subst er
 obtain ⟨p',ev,_,ow,_⟩:=a
 rw [ep] at ev
 cases ev
 obtain ⟨ob,ho,_⟩:=ow.there
 rw [ho]; exact fun z=>nomatch z
theorem Agi{T:Str->Option (List Sl->Res Rv)}{m:Str}{O:M Rv}{A:M (List Rv)}{σ:L2.St}{H:Hp}{Q:VK}(h:TV g W (Lc T m O A) σ H Q) :
  tMethS (fun C sp=>∃ c F,T c=some F/\C=g.ca c/\sp=spR g F) m (fun σ cls d H'=>W cls d σ H') (TV g W O) (TVA g W A) σ H Q:=by
 obtain ⟨G,e,sr,h⟩:=h
 refine ⟨G,e,sr,Pst.mono (Pst.bind0 h) fun o G1 H1 e1 t1 h1 x ok1=>?_⟩
 cases q1:Ag o e1 with
 | none=>simp only [q1] at h1; exact h1.elim
 | some d =>
  cases d with
  | ins c fs =>
   simp only [q1] at h1
   by_cases hl:(fs.lookup m).isNone=true
   ·rw [if_pos hl] at h1
    cases qT:T c with
    | none=>simp only [qT] at h1; exact h1.elim
    | some F =>
     simp only [qT] at h1
     obtain ⟨a,dx,us,ev,ha,rf,io⟩:=(Cv t1.sr ok1 q1).ins t1.sr.bs
     refine ⟨a,_,dx,us,_,ev,ha,rf.lookN (Option.isNone_iff_eq_none.mp hl),⟨c,F,qT,rfl,rfl⟩,G1,e1,t1.sr,?_⟩
     refine Pst.mono (Pst.bindS t1 h1) fun rs G2 H2 e2 t2 h2 vs rv=>?_
     exact Me sr (t1.trans t2) (Yl t1.dom (ok1.tr t2) (Ym ok1) rv) h2
   ·rw [if_neg hl] at h1; exact h1.elim
  | _=>simp only [q1] at h1; exact h1.elim
theorem Yn{pl:Sem Bool}{T:Str->Option (List Sl->Res Rv)}{m:Str}{j:Nat}{o:Expr}{O:M Rv}{apos pos:Pos}(tab:Qk X.prog X.mg X.base g m j T)(hj:j<=k)(ho:VE g W k X o O)
  (ht:eval (.Call (.Attribute o m apos) [] [] pos) X.env=(do
   let ov ← eval o X.env
   standAt apos.atName
   let (f,first) ← holding [ov] (getMethod ov m pl)
   callWith pos f first (backTo pos (starEach [] X.env)) (backToKw pos (keywordEach [] X.env))):=by rfl):VE g W k X (.Call (.Attribute o m apos) [] [] pos) (Lc T m O Af):=by
 refine ⟨fun cd=>?_⟩
 obtain ⟨gK,gw,ca,gT,gs,gn⟩:=g
 obtain rfl:X.K=gK:=cd.K
 obtain rfl:X.w=gw:=cd.w
 refine PE.imp (Age (pl:=pl) (T:=fun C sp=>∃ c F,T c=some F/\C=ca c/\sp=spR ⟨X.K,X.w,ca,gT,gs,gn⟩ F) (E:=fun σ cls d H'=>W cls d σ H') (ho.run cd) (fun C sp ⟨c,F,hT,eC,es⟩=>?_) (cd.room.mono hj) (fun σ=>passAt cd.tk σ) ht) fun σ H Q q=>?_
 ·obtain ⟨f,h1,h2,h3⟩:=tab c F hT
  exact ⟨f,eC ▸ h1,eC ▸ h2,es ▸ h3⟩
 ·obtain ⟨G,e,sr,h⟩:=Agi q
  refine ⟨G,e,sr,Pst.mono h fun r G1 H1 e1 t1 h1 v ok=>?_⟩
  obtain ⟨a,C,dx,fs,sp,x1,x2,x3,x4,G2,e2,sr2,x5⟩:=h1 v ok
  exact ⟨a,C,dx,fs,sp,x1,x2,x3,x4,x5 G2 H1 (Tr.refl sr2) [] rfl⟩
end
def fNo{α:Type}:M α:=fun _=>.no
section
variable{g:Gm}{W:WX}{k:Nat}{X:Cx}
theorem Oc{st:Stmt}:VS g W k X st fNo:=⟨fun _=>⟨fun _ _ _ _ _ _ ⟨_,_,_,h⟩=>h.elim⟩⟩
end
structure VAT(g:Gm)(W:WX)(k:Nat)(X:Cx)(es:List Expr)(F:M (List Rv)):Prop where
 run:Cd g W k X->PAT X es (TVA g W F)
structure VET(g:Gm)(W:WX)(k:Nat)(X:Cx)(e:Expr)(F:M Rv):Prop where
 run:Cd g W k X->PET X e (TV g W F)
def fFmt(A:M Rv):M Rv:=A.bind fun r e=>match r with
 | .val (.str l)=>if l.length<=sizeLine then .ok (.val (.str l)) e else .no
 | .val (.int i)=>if i.natAbs.log2<1920/\(G7 i).all (·< 1114112)=true then .ok (.val (.str (G7 i))) e else .no
 | _=>.no
def fJs:List (M Rv)->List Nat->M (List Nat)
 | [],acc=>M.ret acc
 | A::As,acc=>A.bind fun r=>match r with
  | .val (.str l)=>if acc.length+l.length<=sizeLine then fJs As (acc++l) else fNo
  | _=>fNo
def Agj(As:List (M Rv)):M Rv:=(fJs As []).map fun l=>.val (.str l)
inductive VJ(g:Gm)(W:WX)(k:Nat)(X:Cx):List Expr->List (M Rv)->Prop where
 | nil:VJ g W k X [] []
 | cons {e:Expr} {A:M Rv} {es:List Expr} {As:List (M Rv)} (h:VE g W k X e A) (r:VJ g W k X es As):VJ g W k X (e::es) (A::As)
def tyN:D->Option String
 | .non=>some "NoneType"
 | .bl _=>some "bool"
 | .int _=>some "int"
 | .str _=>some "str"
 | .lst _=>some "list"
 | .tup _=>some "tuple"
 | .dct _=>some "dict"
 | .scr _=>some "list"
 | _=>none
def Ql(a b:String):Option Bool:=if b = "bool"\/b = "int"\/b = "str"\/b = "list"\/b = "tuple"\/b = "dict" then some (a==b||(a == "bool" && b == "int")) else none
def Bg:List D->Option Rv
 | [d,.con (.ty b)]=>(match tyN d with | some a=>(Ql a b).map fun r=>.val (.bl r) | none=>none)
 | _=>none
theorem Agk{d:D}{a b:String}{r:Bool}(ha:tyN d=some a)(h:Ql a b=some r):kitB a b=some r:=by
 unfold Ql at h
 split at h
 ·rename_i hb
  cases h
  have ha2:a = "NoneType"\/a = "bool"\/a = "int"\/a = "str"\/a = "list"\/a = "tuple"\/a = "dict":=by
   cases d <;> cases ha <;> simp
  rcases hb with rfl | rfl | rfl | rfl | rfl | rfl <;> rcases ha2 with rfl | rfl | rfl | rfl | rfl | rfl | rfl <;> decide +kernel
 ·cases h
section
variable{g:Gm}{G H:Hp}
theorem Yo(bs:Bs G H)(sc:SqL g.K H g.sa (g.sn.map .int)){d:D}{a:String}{x:V}(r:RepH g G H d x)(h:tyN d=some a):TyX g.K H x (.type a):=by
 have lst:∀ {p:Addr} {vs:List V},SqL g.K H p vs->TyX g.K H (.ref p) (.type "list"):=fun {p vs} q=>by
  rcases q with (q | ⟨o,q⟩) | ⟨o,its,n,q,c,_⟩
  ·exact .base (.lst q)
  ·exact .base (.frz q)
  ·exact .kList q c
 cases d with
 | non=>cases h; rw [r.non]; exact .base .non
 | bl b=>cases h; rw [r.bl]; exact .base (.bl b)
 | int i=>cases h; rw [r.int]; exact .base (.int i)
 | str l=>cases h; rw [r.str]; exact .base (.str _)
 | lst ds =>
  cases h
  obtain ⟨p,vs,e,q,_⟩:=r.lst bs
  rw [e]; exact lst q
 | tup ds =>
  cases h
  obtain ⟨p,vs,e,q,_⟩:=r.tup bs
  rw [e]
  rcases q with (q | ⟨o,q⟩) | ⟨o,its,n,q,c,_⟩
  ·exact .base (.tup q)
  ·exact .fTuple q
  ·exact .kTuple q c
 | dct kvs =>
  cases h
  rcases r with ⟨p,vs,e,q,_⟩ | ⟨p,e,n,vs,q,_⟩
  ·rw [e]
   rcases bs.rd (.inl q) with z | ⟨o,z⟩
   ·exact .base (.dK z)
   ·exact .fDict z
  ·rw [e]
   rcases q with z | ⟨o,z⟩
   ·exact .base (.dK z)
   ·exact .fDict z
 | scr ns =>
  cases h
  rcases r with ⟨e,_⟩ | ⟨p,e,n,o⟩
  ·rw [e]; exact lst sc
  ·exact o.elim
 | _=>cases h
theorem Agl:CallV g (rIsi g.K) Bg:=fun G H ds vs out Q bs sc r e q=>by
 match ds,r,e with
 | [],_,e=>cases e
 | [d],_,e=>cases e
 | d::d2::d3::t,_,e=>unfold Bg at e; split at e <;> first | cases e | (rename_i h; cases h)
 | [d,.con u],⟨x,t,ex,rx,y,t2,ey,ry,en⟩,e =>
  cases u with
  | ty b =>
   simp only [Bg] at e
   cases hd:tyN d with
   | none=>rw [hd] at e; cases e
   | some a =>
    rw [hd] at e
    cases hb:Ql a b with
    | none=>simp only [hb] at e; cases e
    | some rb =>
     simp only [hb,Option.map_some] at e
     cases e
     subst en ey ex
     refine ⟨x,.ty b,.type a,.type b,rb,by rw [ry.con],.ty b,Yo bs sc rx hd,kit_ty (Agk hd hb),q _ G H (Grow.refl bs) rfl⟩
  | _=>cases e
 | [d,.non],_,e=>cases e
 | [d,.bl _],_,e=>cases e
 | [d,.int _],_,e=>cases e
 | [d,.str _],_,e=>cases e
 | [d,.lst _],_,e=>cases e
 | [d,.tup _],_,e=>cases e
 | [d,.dct _],_,e=>cases e
 | [d,.set _],_,e=>cases e
 | [d,.ins _ _],_,e=>cases e
 | [d,.scr _],_,e=>cases e
end
def CiD(mg:Str->Option Value)(g:Gm)(x f:Str)(i:Int):Prop:=∃ C mc u,mg x=some (.ref C)/\ClX.CRead g.K C mc/\ClX.CVal g.K C mc f (.int i) u
section
variable{g:Gm}{W:WX}{k:Nat}{X:Cx}
theorem Agm{x f:Str}{i:Int}{p pos:Pos}(d:CiD X.mg g x f i)(hg:Gl X x:=by rfl)(hdb:(x==("__debug__" : Str))=false:=by decide)(hb:attributeBase (.Name x p) f X.env (eval (.Name x p) X.env)=eval (.Name x p) X.env:=by rfl):VE g W k X (.Attribute (.Name x p) f pos) (fC (.int i)):=by
 obtain ⟨C,mc,u,hm,cr,cv⟩:=d
 refine ⟨fun c=>?_⟩
 have h1:PE X (.Attribute (.Name x p) f pos) (ClX.tCVal g.K (tC (.ref C)) f):=c.K ▸ ClX.pe_cval (pe_gr hm hg hdb) hb
 exact PE.imp h1 fun σ H Q ⟨G,e,sr,h⟩=>⟨C,mc,.int i,u,rfl,cr,cv,h G H (Tr.refl sr) _ rfl⟩
end
def fRev(A:M Rv):M Rv:=A.bind fun r e=>match Ag r e with
 | some (.lst ds)=>.ok (.fresh (.lst ds.reverse)) e
 | some (.str l)=>if l.length<=sizeLine then .ok (.val (.str l.reverse)) e else .no
 | _=>.no
theorem Reps.rev{g:Gm}{G:Hp}:∀ {ds:List D} {vs:List V},Reps g G ds vs->Reps g G ds.reverse vs.reverse
 | [],_,h=>by rw [show _=[] from h]; rfl
 | d::ds,_,⟨v,r,e,a,b⟩=>by
  subst e
  rw [List.reverse_cons,List.reverse_cons]
  exact b.rev.append ⟨v,[],rfl,a,rfl⟩
def lVar(i:Nat)(e:Ve):Option LkK:=match e[i]? with
 | some (.sh (.dct kvs))=>some (.shd kvs)
 | some (.bf (.dct kvs))=>some (.shd kvs)
 | some (.ow (.dct kvs))=>some (.own i (.ow (.dct kvs)) kvs)
 | some (.bo (.dct kvs))=>some (.own i (.bo (.dct kvs)) kvs)
 | some (.lo (.dct kvs))=>some (.lck i kvs)
 | _=>none
def Tw(kvs:List (List Nat×D)):List D:=kvs.map fun p=>.str p.1
def okR{α:Type}(k:Ve->Ve):Res α->Res α
 | .ok a e=>.ok a (k e)
 | _=>.no
def lkE{α:Type}(L:Ve->Option LkK)(A:List D->M α):M α:=fun e=>match L e with
 | some (.shd kvs)=>okR id (A (Tw kvs) e)
 | some (.own i s kvs)=>okR (fun e'=>e'.set i s) (A (Tw kvs) (e.set i (.lo (.dct kvs))))
 | some (.lck i kvs)=>okR id (A (Tw kvs) e)
 | none=>.no
section
variable{g:Gm}{G H G1 H1:Hp}{σ σ1:L2.St}{e e1:Ve}{d p:Addr}{vs:List (Key×V)}{od:Obj}{i:Nat}{kvs:List (List Nat×D)}
def IsDS(s:Sl)(kvs:List (List Nat×D)):Prop:=s=.ow (.dct kvs)\/s=.bo (.dct kvs)
end
structure LcOk(g:Gm)(td:TE)(L:Ve->Option LkK):Prop where
 shd:∀ (G H:Hp) (σ:L2.St) (e:Ve) kvs,SR g G H σ e->L e=some (.shd kvs)->∃ d vs,G d=some (.dK vs)/\RepK g G kvs vs/\∀ H1:Hp,(∀ a,a≠d->H1 a=H a)->∀ Q:VK,Q (.ref d) H1->td σ H1 Q
 own:∀ (G H:Hp) (σ:L2.St) (e:Ve) i s kvs,SR g G H σ e->L e=some (.own i s kvs)->e[i]? = some s/\IsDS s kvs/\∀ p H1,σ[i]? = some (some (.ref p))->∀ Q:VK,Q (.ref p) H1->td σ H1 Q
 lck:∀ (G H:Hp) (σ:L2.St) (e:Ve) i kvs,SR g G H σ e->L e=some (.lck i kvs)->e[i]? = some (.lo (.dct kvs))/\∀ p H1,σ[i]? = some (some (.ref p))->∀ Q:VK,Q (.ref p) H1->td σ H1 Q
section
variable{g:Gm}{W:WX}{k:Nat}{X:Cx}
def fLcK(L:Ve->Option LkK)(F:D->M Unit)(T:M Bool)(E:M Rv)(vs:List Nat):M Rv:=lkE L fun ds=>fLc (M.ret ds) F T E vs
def fForK(L:Ve->Option LkK)(F:D->M Unit)(B:M Ctl):M Ctl:=lkE L fun ds=>B0 F B ds
variable{elt tg iter:Expr}{ifs:List Expr}{scope:Scope}{own:List (Str×Nat)}{pos:Pos}{L:Ve->Option LkK}{td:TE}{F:D->M Unit}{is:List Nat}{T:M Bool}{E:M Rv}
end
def Cj:Nat->List D->List D
 | _,[]=>[]
 | n,d::r=>.tup [.int (n:Int),d]::Cj (n+1) r
theorem Jj:∀ (n:Nat) (ds:List D),(Cj n ds).length=ds.length
 | _,[]=>rfl
 | n,d::r=>by rw [Cj,List.length_cons,List.length_cons,Jj]
theorem Qm:∀ (n i:Nat) (ds:List D) (d:D),ds[i]? = some d->(Cj n ds)[i]? = some (.tup [.int ((n+i:Nat):Int),d])
 | n,i,[],d,h=>by simp at h
 | n,0,x::r,d,h=>by cases h; rfl
 | n,i+1,x::r,d,h=>by
  have:=Qm (n+1) i r d (by simpa using h)
  rw [Cj,List.getElem?_cons_succ,this]
  rw [show n+1+i=n+(i+1) by omega]
def Od(A:M Rv):M (List D):=(Ad A).bind fun r e=>match r with
 | .val (.lst ds)=>.ok (Cj 0 ds) e
 | .val (.str l)=>.ok (Cj 0 (l.map fun c=>.str [c])) e
 | _=>.no
section
variable{g:Gm}{W:WX}{k:Nat}{X:Cx}{G H:Hp}{a:Addr}{vs:List V}{ds:List D}
theorem Agn(hs:SqL g.K G a vs)(r:Reps g G ds vs):ItOk g G H (Ite g.K a) (Cj 0 ds):=by
 have hl:=r.len
 refine ⟨fun i G' H' le bs _ hi=>?_,fun G' H' le bs _=>?_,fun i G' H' x H'' le bs _ hi y=>?_⟩
 ·rw [Jj] at hi
  exact ⟨vs,vs[i]'(by omega),bs.sqL (le.sqL hs),List.getElem?_eq_getElem _⟩
 ·exact ⟨vs,bs.sqL (le.sqL hs),by rw [Jj,hl]; exact Nat.le_refl _⟩
 ·obtain ⟨T,u,ex,nT,eH,hy⟩:=y
  subst ex eH
  obtain ⟨d,hd,rd⟩:=r.at (hy vs (bs.sqL (le.sqL hs)))
  have gr:=Grow.lay2 (o:=HO.tup [.int (i:Nat),u]) bs nT (fun _ _ z=>nomatch z)
  refine ⟨.tup [.int ((0+i:Nat):Int),d],_,Qm 0 i ds d hd,gr,T,_,rfl,.of upd_same,⟨.int (i:Nat),[u],rfl,by show _=_; rw [Nat.zero_add],⟨u,[],rfl,(rd.mono le).mono gr.le,rfl⟩⟩⟩
theorem Ago(l:List Nat)(ok:OkS l):ItOk g G H (Pu (S l)) (Cj 0 (l.map fun c=>.str [c])):=by
 have hl:(S l).cps.size=l.length:=S_len l
 refine ⟨fun i G' H' le bs _ hi=>?_,fun G' H' le bs _=>?_,fun i G' H' x H'' le bs _ hi y=>?_⟩
 ·rw [Jj,List.length_map] at hi
  exact (Sx (z:=S l)).goes i H' (by rw [hl]; exact hi) trivial
 ·have:=(Sx (z:=S l)).stops H' trivial
  rw [hl] at this
  rw [Jj,List.length_map]
  exact this
 ·rw [Jj,List.length_map] at hi
  obtain ⟨T,c,ex,nT,hc,eH⟩:=(Sx (z:=S l)).yields i H' x H'' (by rw [hl]; exact hi) trivial y
  subst ex eH
  have hc2:l[i]? = some c:=by
   rw [← hc]
   exact (Array.getElem?_toList (xs:=(S l).cps)).symm ▸ rfl
  have gr:=Grow.lay2 (o:=HO.tup [.int (i:Nat),.str ⟨#[c]⟩]) bs nT (fun _ _ z=>nomatch z)
  refine ⟨.tup [.int ((0+i:Nat):Int),.str [c]],_,Qm 0 i _ (.str [c]) (by rw [List.getElem?_map,hc2]; rfl),gr,T,_,rfl,.of upd_same,⟨.int (i:Nat),[.str ⟨#[c]⟩],rfl,by show _=_; rw [Nat.zero_add],⟨.str ⟨#[c]⟩,[],rfl,⟨rfl,fun x hx=>by rw [List.mem_singleton.mp hx]; exact ok c (List.mem_of_getElem? hc2)⟩,rfl⟩⟩⟩
theorem Agp{ex:Expr}{A:M Rv}{p pos tpos:Pos}{elts:List Expr}{kk:Nat}(hm:X.mg "enumerate" = none)(ha:VE g W k X ex A)(hg:Gl X "enumerate":=by rfl)(hs:starEach [ex] X.env=[(false,eval ex X.env)]:=by rfl):VI g W k X (.Tuple elts kk tpos) (.Call (.Name "enumerate" p) [ex] [] pos) (Od A):=by
 refine ⟨fun c=>?_⟩
 have pa:PA X [ex] (tCons (TV g W (Ad A)) tNil):=pa_cons ((Am ha).run c) pa_nil hs
 have pl:PI X (.Tuple elts kk tpos) (.Call (.Name "enumerate" p) [ex] [] pos) (iEnum g.K (tCons (TV g W (Ad A)) tNil)):=c.K ▸ pi_enum hg hm pa hs
 refine PI.imp (PI.or pl (enumS hm pa hg hs)) fun σ H R ⟨G,e,sr,q⟩=>?_
 unfold Od M.bind at q
 cases qa:Ad A e with
 | no=>rw [qa] at q; exact q.elim
 | er x e'=>rw [qa] at q; exact .inl ⟨G,e,sr,by rw [qa]; exact q⟩
 | ok r e1 =>
  rw [qa] at q
  match r with
  | .slot _=>exact q.elim
  | .fresh _=>exact q.elim
  | .val d =>
   match d with
   | .lst ds =>
    refine .inl ⟨G,e,sr,?_⟩
    rw [qa]
    intro G1 H1 t v rp
    obtain ⟨a,vs,ev,sq,rps⟩:=rp
    exact ⟨a,vs,by rw [ev],t.sr.bs.sqL (.of sq),q G1 H1 t _ (Agn (.of sq) rps)⟩
   | .str l =>
    refine .inr ⟨G,e,sr,?_⟩
    rw [qa]
    intro G1 H1 t v rp
    exact ⟨S l,by rw [rp.1],q G1 H1 t _ (Ago l rp.2)⟩
   | .tup _=>exact q.elim
   | .non=>exact q.elim
   | .bl _=>exact q.elim
   | .int _=>exact q.elim
   | .dct _=>exact q.elim
   | .set _=>exact q.elim
   | .ins _ _=>exact q.elim
   | .con _=>exact q.elim
   | .scr _=>exact q.elim
end
def stoN(i:Nat)(r:Rv):M Unit:=match r with
 | .val d=>fun e=>if Ax e i=true then .ok () (e.set i (.sh d)) else .no
 | .fresh d=>fun e=>if Ax e i=true then .ok () (e.set i (.ow d)) else .no
 | .slot _=>fNo
def Mo(i j:Nat)(A:M (List Rv)):M Ctl:=A.bind fun rs=>match rs with
 | [a,b]=>(stoN i a).bind fun _=>(stoN j b).bind fun _=>fNx
 | _=>fNo
def Yp(i j l:Nat)(A:M (List Rv)):M Ctl:=A.bind fun rs=>match rs with
 | [a,b,c]=>(stoN i a).bind fun _=>(stoN j b).bind fun _=>(stoN l c).bind fun _=>fNx
 | _=>fNo
section
variable{g:Gm}{W:WX}{k:Nat}{X:Cx}{G H G1 H1 H0:Hp}{σ σ1:L2.St}{e e1 e2:Ve}{i:Nat}
theorem St.stoN{r:Rv}{v:V}(t:St g G H σ e G1 H1 σ1 e1)(ok:RvOk g G1 H1 σ1 e1 H r v)(h:stoN i r e1=.ok () e2) :
  St g G H σ e G1 H1 (σ1.set i (some v)) e2/\(∀ r' v',(∀ d p d',r=.fresh d->v=.ref p->r'=.fresh d'->v'≠.ref p)->(∀ j,r'≠.slot j)->RvOk g G1 H1 σ1 e1 H r' v'->RvOk g G1 H1 (σ1.set i (some v)) e2 H r' v'):=by
 have keep:∀ {s:Sl},e2=e1.set i s->i<e1.length->(∀ p,Ge (some s)->v=.ref p->∃ d,r=.fresh d)->∀ r' v',(∀ d p d',r=.fresh d->v=.ref p->r'=.fresh d'->v'≠.ref p)->(∀ j,r'≠.slot j)->RvOk g G1 H1 σ1 e1 H r' v'->RvOk g G1 H1 (σ1.set i (some v)) e2 H r' v':=fun {s} ee hl hs r' v' ap ns o=>by
  subst ee
  cases r' with
  | slot j=>exact absurd rfl (ns j)
  | val d=>exact o
  | fresh d =>
   obtain ⟨p,ev,n,ow,h0,nr⟩:=o
   refine ⟨p,ev,n,ow,h0,fun j rr=>?_⟩
   obtain ⟨r1,r2⟩:=rr
   rw [getElem?_set'] at r1 r2
   by_cases z:i=j
   ·rw [if_pos ⟨z,hl⟩] at r1
    rw [if_pos ⟨z,by rw [← t.sr.len]; exact hl⟩] at r2
    have r2:v=.ref p:=Option.some.inj (Option.some.inj r2)
    obtain ⟨d',e'⟩:=hs p r1 r2
    exact ap d' p d e' r2 rfl ev
   ·rw [if_neg (fun y=>z y.1)] at r1 r2
    exact nr j ⟨r1,r2⟩
 cases r with
 | slot j=>cases h
 | val d =>
  simp only [Vs.stoN] at h
  by_cases c:Ax e1 i=true
  ·rw [if_pos c] at h
   cases h
   exact ⟨St.sto t.sr c (.inl ⟨d,rfl,ok⟩) t (fun d p z=>nomatch z),keep rfl (L3 c).1 fun p z=>z.elim⟩
  ·rw [if_neg c] at h; cases h
 | fresh d =>
  simp only [Vs.stoN] at h
  by_cases c:Ax e1 i=true
  ·rw [if_pos c] at h
   cases h
   obtain ⟨p,ev,n,o,h0,nr⟩:=ok
   refine ⟨St.sto t.sr c (.inr ⟨d,p,rfl,ev,n,o,nr⟩) t fun d' p' z1 z2=>?_,keep rfl (L3 c).1 fun p _ _=>⟨d,rfl⟩⟩
   rw [ev] at z2; cases z2; exact h0
  ·rw [if_neg c] at h; cases h
theorem Yq{r:Rv}(h:stoN i r e=.ok () e1)(j:Nat):r≠.slot j:=fun z=>by subst z; cases h
theorem Agq{r:Rv}{x:Exn}:stoN i r e≠.er x e1:=by
 cases r with
 | slot j=>exact fun z=>nomatch z
 | val d=>unfold stoN; intro h; simp only at h; split at h <;> cases h
 | fresh d=>unfold stoN; intro h; simp only at h; split at h <;> cases h
theorem Qn{r:Rv}{c:M Ctl}{D:Ends}(h:PstS g W D σ G H e (M.bind (stoN i r) (fun _=>c) e1)):∃ e2,stoN i r e1=.ok () e2/\PstS g W D σ G H e (c e2):=by
 unfold M.bind at h
 cases q:stoN i r e1 with
 | no=>rw [q] at h; exact h.elim
 | er x e'=>exact absurd q Agq
 | ok u e2=>rw [q] at h; exact ⟨e2,rfl,h⟩
theorem PstS.bindE0{α:Type}{D:Ends}{f:M α}{c:α->M Ctl}(h:PstS g W D σ G H e (M.bind f c e)):Pst g W σ G H e (fun a G1 H1 e1=>PstS g W D σ G H e (c a e1)) (f e):=by
 unfold M.bind at h
 revert h
 cases f e with
 | no=>exact fun h=>h
 | er x e'=>exact fun h cls d G' H' t xo=>h cls d σ G' H' t.st xo
 | ok a e1=>exact fun h G1 H1 t=>h
theorem Agr{j:Nat}{x y:Str}{a b:Expr}{A:M (List Rv)}{px py pt pos:Pos}{kt k2 pt2}(hi:X.N[i]? = some x)(hj:X.N[j]? = some y)
  (hx:X.env.scope.names.lookup x=some .local)(hy:X.env.scope.names.lookup y=some .local)(ha:VA g W k X [a,b] A)(hij:i≠j:=by decide)
  (hw:swappedStores [.Tuple [.Name x px,.Name y py] kt pt] (.Tuple [a,b] k2 pt2) X.env=pure (some [x,y]):=by rfl)
  (hs:swapsWithSole [.Tuple [.Name x px,.Name y py] kt pt] (.Tuple [a,b] k2 pt2) pos.line X.env=pure false:=by rfl) :
  VS g W k X (.Assign [.Tuple [.Name x px,.Name y py] kt pt] (.Tuple [a,b] k2 pt2) pos) (Mo i j A):=by
 refine ⟨fun c=>PS.imp (ps_par c.calm c.nd hi hj hij hx hy (ha.run c) hw hs) fun D σ H ⟨G,e,sr,h⟩=>?_⟩
 refine ⟨G,e,sr,Pst.mono (PstS.bindE0 h) fun rs G1 H1 e1 t1 h1 vs rv=>?_⟩
 match rs,h1,rv with
 | [],h1,_=>exact h1.elim
 | [_],h1,_=>exact h1.elim
 | _::_::_::_,h1,_=>exact h1.elim
 | [r1,r2],h1,⟨v1,t,ev,o1,⟨v2,t',ev',o2,en,_⟩,ap⟩ =>
  subst ev ev' en
  obtain ⟨e2,s1,h2⟩:=Qn h1
  obtain ⟨e3,s2,h3⟩:=Qn h2
  refine ⟨v1,v2,rfl,?_⟩
  obtain ⟨st1,k1⟩:=St.stoN t1.st o1 s1
  obtain ⟨st2,_⟩:=St.stoN st1 (k1 r2 v2 (fun d p d' er ep e' z=>ap d p er ep d' v2 (by rw [e']; exact List.mem_cons_self) z) (Yq s2) o2) s2
  exact h3 _ G1 H1 st2
end
def Yr(rec:List (List Nat×D)->M (List (List Nat×D)))(vs:List Nat)(acc:List (List Nat×D))(y z:Rv):M (List (List Nat×D)):=match y,z with
 | .val (.str k),.val v=>fun e=>if acc.length<sizeLine then rec (Ci acc k v) (Ap e vs) else .no
 | _,_=>fun _=>.no
def dcL(F:D->M Unit)(T:M Bool)(KX VX:M Rv)(vs:List Nat):List D->List (List Nat×D)->M (List (List Nat×D))
 | []=>fun acc=>M.ret acc
 | d::r=>fun acc=>(F d).bind fun _=>T.bind fun b=>if b=true then ((Ad KX).bind fun y=>(Ad VX).bind fun z=>Yr (dcL F T KX VX vs r) vs acc y z) else fun e=>dcL F T KX VX vs r acc (Ap e vs)
def fDc(S:M (List D))(F:D->M Unit)(T:M Bool)(KX VX:M Rv)(vs:List Nat):M Rv:=S.bind fun ds e=>if Ic e vs=true then (match dcL F T KX VX vs ds [] (Ap e vs) with
  | .ok ys e'=>.ok (.fresh (.dct ys)) (D5 e e' vs)
  | _=>.no) else .no
def Oe(c:Str)(f:List Sl->Res Rv)(B:M (List Rv)):M Rv:=B.bind (Hr c f)
section
variable{g:Gm}{W:WX}{k:Nat}{X:Cx}
theorem Ags{x c:Str}{ks:List Str}{j:Nat}{F:List Sl->Res Rv}{kws:List Keyword}{B:M (List Rv)}{p pos:Pos}(d:Mk' X.prog X.mg X.base g x c ks j F)(hj:j+1<=k)(hg:Gl X x)(hz:VK' g W k X kws B)(hlen:∀ e r e',B e=.ok r e'->r.length=ks.length)
  (hall:(backToKw pos (keywordEach kws X.env)).all (·.1.isSome)=true:=by rfl)(hks:(backToKw pos (keywordEach kws X.env)).filterMap (·.1)=ks:=by rfl)(hdb:(x==("__debug__" : Str))=false:=by decide)
  (hpl:((backTo pos (starEach [] X.env)).any (·.1)||(backToKw pos (keywordEach kws X.env)).any (·.1.isNone))=false:=by rfl) :
  VE g W k X (.Call (.Name x p) [] kws pos) (Oe c F B):=by
 refine ⟨fun cd=>?_⟩
 obtain ⟨f,hm,mk,hc,Fk⟩:=d
 obtain ⟨gK,gw,ca,gT,gs,gn⟩:=g
 obtain rfl:X.K=gK:=cd.K
 obtain rfl:X.w=gw:=cd.w
 refine PE.imp (Agd (E:=fun σ cls d H'=>W cls d σ H') mk Fk (cd.room.mono hj) hg hm (fun σ=>passAt cd.tk σ) (hz.run cd) hall hks hdb hpl) fun σ H Q ⟨G,e,sr,q⟩=>?_
 have q0:=q
 refine ⟨G,e,sr,?_⟩
 have h2:=Pst.bind0 q
 cases qb:B e with
 | no=>rw [qb] at h2; exact h2.elim
 | er x e'=>rw [qb] at h2; exact h2
 | ok zs e1 =>
  rw [qb] at h2
  intro G1 H1 t1 us rz
  exact ⟨by rw [rz.len]; exact hlen e zs e1 qb,Yh hc sr t1 rz (h2 G1 H1 t1)⟩
end
def Ht:List Sl->Option (List D)
 | []=>some []
 | .sh d::r=>(match Ht r with | some ds=>some (d::ds) | none=>none)
 | _=>none
section
variable{P:Program}{w:World}{K:PySem.W.Frag}{mg:Str->Option Value}{base:Heap}{g:Gm}
theorem Ys{X:Cx}{body:List Stmt}{B:M Ctl}{k np:Nat}{H:Hp}{vs:List V}{Q:VK}{E:XK}{N:List Str}(hX:Cd g (WR E) k X)(hb:VSs g (WR E) k X body B)(h:spV g np (fnF np N.length B) vs H Q E) :
  ∃ t,PSs X body t/\t { nx:=fun _ H'=>Q .non H',rt:=Q } (L2.start N vs) H:=by
 obtain ⟨hl,G,as,ok,sr,h⟩:=h
 refine ⟨TVS g (WR E) B,hb.run hX,G,as++List.replicate (N.length-as.length) .un,P1 sr,?_⟩
 have hla:as.length=np:=by rw [sr.len,List.length_map]; exact hl
 unfold fnF at h
 rw [if_pos hla] at h
 revert h
 cases B (as++List.replicate (N.length-as.length) .un) with
 | no=>exact fun h=>h
 | er x e'=>exact fun h cls d σ' G' H' t xo=>h cls d G' H' (Jh ok sr t) xo
 | ok c e' =>
  cases c with
  | nx=>exact fun h σ' G' H' t=>h G' H' (Jh ok sr t) .non rfl
  | bk=>exact fun h=>h.elim
  | ct=>exact fun h=>h.elim
  | rt r =>
   intro h v σ' G' H' t rv
   simp only at h
   cases q:Fg r e' with
   | no=>rw [q] at h; exact h.elim
   | er x e2=>rw [q] at h; exact h.elim
   | ok r' e2 =>
    rw [q] at h
    obtain ⟨G2,t2,nw⟩:=Xs ok sr t rv q
    exact h G2 H' t2 v nw
theorem Yt{G H:Hp}:∀ {as:List Sl} {vs:List V} {ds:List D} {m:Nat} {σ:L2.St} {es:Ve},(∀ i:Nat,as[i]? = es[m+i]?)->(∀ i:Nat,(vs[i]?).map some=σ[m+i]?)->as.length=vs.length->SR g G H σ es->Ht as=some ds->Reps g G ds vs
 | [],vs,ds,m,σ,es,h1,h2,hl,sr,h=>by
  cases h
  exact List.eq_nil_of_length_eq_zero hl.symm
 | a::as,[],ds,m,σ,es,h1,h2,hl,sr,h=>by simp at hl
 | a::as,v::vs,ds,m,σ,es,h1,h2,hl,sr,h=>by
  cases a with
  | sh d =>
   simp only [Ht] at h
   cases q:Ht as with
   | none=>rw [q] at h; cases h
   | some ds' =>
    rw [q] at h
    cases h
    have sl:=sr.slot m
    have e1:es[m]? = some (.sh d):=by have:=h1 0; simpa using this.symm
    have e2:σ[m]? = some (some v):=by have:=h2 0; simpa using this.symm
    rw [e1,e2] at sl
    obtain ⟨u,eu,ru⟩:=sl
    cases eu
    refine ⟨v,vs,rfl,ru,Yt (m:=m+1) (σ:=σ) (es:=es) (fun i=>?_) (fun i=>?_) (by simpa using hl) sr q⟩
    ·have:=h1 (i+1); rw [show m+1+i=m+(i+1) by omega,← this]; simp
    ·have:=h2 (i+1); rw [show m+1+i=m+(i+1) by omega,← this]; simp
  | _=>cases h
theorem Agt{G H H0 H1:Hp}(k:∀ p,H1 p=none->H0 p=none):∀ {r:Rv} {v:V},RvNew g G H H1 r v->RvNew g G H H0 r v
 | .val d,_,h=>h
 | .fresh d,_,⟨p,a,b,c,h⟩=>⟨p,a,b,c,k p h⟩
end
theorem Agu{H:Hp}{a b:Addr}{o u:HO}(h:a≠b):upd (upd H a o) b u=upd (upd H b u) a o:=by
 funext x
 unfold upd
 by_cases h1:x=a
 ·subst h1
  rw [if_neg h,if_pos rfl,if_pos rfl]
 ·by_cases h2:x=b
  ·subst h2
   rw [if_pos rfl,if_neg h1,if_pos rfl]
  ·rw [if_neg h2,if_neg h1,if_neg h1,if_neg h2]
def Yu(T:UInt64->Option (List Sl->Res Rv))(i:Nat)(A:M (List Rv)):M Rv:=fun e=>match e[i]? with
 | some (.sh (.con (.flt j)))=>(match T j with
  | some F=>Az F A e
  | none=>.no)
 | _=>.no
def spT(K:PySem.W.Frag)(cs:List Addr)(n:Nat):Sp:=fun vs H Q _=>∃ (a:Addr) (ns:List Int),vs=[.ref a]/\ns.length<=n/\(∀ p∈cs,H p=some (.tbl #[]))/\SqL K H a (ns.map V.int)/\∀ H',Q (.bl true) H'
section
variable{h:Heap}{H:Hp}
theorem Few.blt(f:Few h H){mg:Str->Option Value}{P:Addr}(hg:h.Ns mainGlobals mg)(hT:h.get? P=some { cls:=.none,data:=.fields #[] })
  (x:∃ (bm:Addr) (ob:Obj),mg "__builtins__" = some (.ref bm)/\bm≠builtinsNs/\h.get? bm=some ob/\ob.cls=.type "module"/\ob.dict=some builtinsNs/\ob.data=.plain):(hidT h H).BuiltinsAt mg P:=by
 obtain ⟨bm,ob,b1,b2,b3,b4,b5,b6⟩:=x
 have nt:¬ Tk ob:=fun z=>by rcases z with ⟨vs,n,z⟩ | z <;> (rw [b6] at z; cases z)
 refine ⟨bm,ob,b1,b2,fun q=>?_,fun q=>?_,f.get b3 nt,b4,b5,b6⟩
 ·obtain ⟨o,es,ep,e,d,_⟩:=hg
  rw [q,e] at b3
  cases b3
  rw [d] at b6
  cases b6
 ·rw [q,hT] at b3
  cases b3
  cases b6
end
def Yv(l:PySem.W.OpenLaw)(w:World)(K:PySem.W.Frag)(k n:Nat)(x:Str)(mg:Str->Option Value)(fa:Addr)(h:Heap):Prop :=
 ∃ (fd:FuncData) (cs:List (Addr×Addr)),(∀ p∈cs,h.get? p.2=some { cls:=.none,data:=.fields #[] })/\(∀ p∈cs,K.lookup p.2=none)/\(∀ p∈cs,PySem.W.CodeHd h p.1 p.2)/\(∀ (s:Shared) (u:Value),BindsTo s fd ⟨[u],[]⟩ [(x,u)]) /\
  ∀ base:Heap,K.In base->base.Ns mainGlobals mg->(∀ p∈cs,LamX.TabB base mg p.1 p.2)->FnG l.prog w K mg base CX0 k fa fd [x] (spT K (cs.map Prod.snd) n)
section
variable{P:Program}{w:World}{K:PySem.W.Frag}{mg mb:Str->Option Value}{k n:Nat}{fa a:Addr}{cs:List (Addr×Addr)}{fd:FuncData}{x:Str}{s:Shared}{vs:List Value}{ns:List Int}
theorem Yw(H:Hp)(hH:∀ p∈cs,H p.2=some (.tbl #[]))(few:Few s.heap H)(only:∀ b,H b=none\/b∈cs.map Prod.snd\/∃ o xs,H b=some (.frz o (.lst xs)))(sq:SqL K H a (ns.map V.int))(hok:HOk P w H s.heap)(kout:∀ b o,K.lookup b=some o->H b=none)
  (KX:K.In s.heap)(hg:s.heap.Ns mainGlobals mg)(hb:s.heap.Ns builtinsNs mb)(hbb:∀ x:Str,x≠"__name__"->mb x=bootBuiltins x)(hlim:s.heap.NoLimit)(gn:s.gens = #[])
  (hT:∀ p∈cs,s.heap.get? p.2=some { cls:=.none,data:=.fields #[] })(C:∀ p∈cs,PySem.W.CodeHd s.heap p.1 p.2)
  (hbm:∃ (bm:Addr) (ob:Obj),mg "__builtins__" = some (.ref bm)/\bm≠builtinsNs/\s.heap.get? bm=some ob/\ob.cls=.type "module"/\ob.dict=some builtinsNs/\ob.data=.plain)
  (hl:ns.length<=n)(hr:Rm k callerA)(hbind:∀ (s:Shared) (u:Value),BindsTo s fd ⟨[u],[]⟩ [(x,u)])
  (F:∀ base:Heap,K.In base->base.Ns mainGlobals mg->(∀ p∈cs,LamX.TabB base mg p.1 p.2)->FnG P w K mg base CX0 k fa fd [x] (spT K (cs.map Prod.snd) n)) :
  codeAny (model P w) callerA (.call (.ref fa) ⟨[.ref a],[]⟩) (fun r s'=>r=.ok (.ret (.bool true))/\OldK s.heap s'.heap/\s'.os=s.os/\AllBare s'.gens) s:=by
 have kb:K.In (hidT s.heap H):=fun b o e=>hidT_get (KX b o e) (kout b o e)
 have md:L2.Mod K mg (hidT s.heap H):=⟨kb,few.ns hg,⟨mb,few.ns hb,hbb⟩,let ⟨mc,h1,h2⟩:=hlim; ⟨mc,few.ns h1,h2⟩⟩
 have tb:∀ p∈cs,LamX.TabB (hidT s.heap H) mg p.1 p.2:=fun p hp=>⟨few.code (C p hp),few.blt hg (hT p hp) hbm,fun z=>by
  obtain ⟨o,es,ep,e,d,_⟩:=hg
  rw [z,hT p hp] at e
  cases e
  cases d⟩
 have e0:Env0 P w K mg (hidT s.heap H) callerA [] s H:=⟨rfl,md,fun b o e=>of_hidT e,Nat.le_of_eq (hidT_size _ _),trivial,fun b z=>(nomatch (show b∈([]:List Addr) from z)),hok,.of_eq gn⟩
 have sp:spT K (cs.map Prod.snd) n [.ref a] H (fun v _=>v=.bl true) fun _ _ _=>False:=⟨a,ns,rfl,hl,fun p hp=>by
  obtain ⟨q,hq,e⟩:=List.mem_map.mp hp
  rw [← e]
  exact hH q hq,sq,fun _=>rfl⟩
 refine codeAny_mono ((F _ kb (few.ns hg) tb).run callerA [] s H ⟨[.ref a],[]⟩ [.ref a] [.ref a] _ _ hr e0 (hbind s (.ref a)) (.cons rfl .nil) sp) fun r s' z=>?_
 match r,z with
 | .error e,z=>exact z.elim
 | .ok .next,z=>exact z.elim
 | .ok .brk,z=>exact z.elim
 | .ok .cont,z=>exact z.elim
 | .ok (.ret u),⟨v,H',os,bare,un,ok',rv,q⟩ =>
  obtain rfl:v=.bl true:=q
  obtain rfl:u=Value.bool true:=rv
  have same:∀ b o,b ∉ cs.map Prod.snd->s.heap.get? b=some o->s'.heap.get? b=some o:=fun b o nb e=>by
   rcases only b with z | z | ⟨ob,xs,z⟩
   ·exact un.keep b o e z (fun y=>(nomatch (show b∈([]:List Addr) from y))) (by simp)
   ·exact (nb z).elim
   ·have e1:=(hok b _ z).1
    have e2:=(ok' b _ (un.frzs b ob _ z)).1
    rw [e] at e1
    cases e1
    exact e2
  have tabs:∀ p∈cs,∃ more:Array Value,s'.heap.get? p.2=some { cls:=.none,data:=.fields more }:=fun p hp=>by
   obtain ⟨more,z⟩:=un.tbls p.2 #[] (hH p hp)
   exact ⟨_,ok' p.2 _ z⟩
  have inT:∀ b,b∈cs.map Prod.snd->∃ p∈cs,p.2=b:=fun b hb=>List.mem_map.mp hb
  refine ⟨rfl,⟨fun b o e=>?_,fun b o e=>?_⟩,os,bare⟩ <;> by_cases nb:b∈cs.map Prod.snd
  ·obtain ⟨p,hp,rfl⟩:=inT b nb
   obtain ⟨more,m⟩:=tabs p hp
   rw [hT p hp] at e
   cases e
   exact .inr (.inl ⟨((C p hp).tab (hT p hp)).isCodeTable,rfl,#[],more,rfl,by rw [Array.empty_append]; exact m⟩)
  ·exact .inl (same b o nb e)
  ·obtain ⟨p,hp,rfl⟩:=inT b nb
   obtain ⟨more,m⟩:=tabs p hp
   exact ⟨_,m⟩
  ·exact ⟨o,same b o nb e⟩
end
theorem walk_g{l:PySem.W.OpenLaw}{n k:Nat}{q:Program}{loose:List Str}{XP:(Str->Option Value)->Heap->Prop}{YP:World->Heap->Prop}{d:DefRec}{x:Str}
  (hn:l.most=some n)(hn2:n<=sizeLine)(hdf:d.params.defaults=[])(hr:Rm k callerA)
  (F:∀ (w:World) (mg:Str->Option Value) (fa:Addr) (h:Heap),YP w h->h.Ns mainGlobals mg->mg d.name=some (.ref fa)->∃ K:PySem.W.Frag,K.In h/\Yv l w K k n x mg fa h) :
  PySem.W.WalkO q loose XP YP l.row.toRowW d [] (fun f vs=>PySem.call f vs):=by
 refine Att.attach_callB hn hdf fun w s₀ s mg mb fa o pm cd doc a vs ns G Y ho hd hcd hmg hobj hints hlen hbits hg=>?_
 obtain ⟨K,KX,fd,cs,hT,nT,C,hb,hF⟩:=F w mg fa _ Y G.T.g hmg
 have rv:=vals_ints hints
 have lenV:=hints.length
 have hz:=Nat.le_trans hlen hn2
 have isT:∀ b:Addr,b∈cs.map Prod.snd->s.heap.get? b=some { cls:=.none,data:=.fields #[] }/\K.lookup b=none:=fun b hb=>by
  obtain ⟨p,hp,rfl⟩:=List.mem_map.mp hb
  exact ⟨hT p hp,nT p hp⟩
 have aT:a ∉ cs.map Prod.snd:=fun z=>by
  have q:=(isT a z).1
  rw [hobj] at q
  have z':Data.seq vs.toArray _=Data.fields #[]:=congrArg Obj.data (Option.some.inj q)
  cases z'
 have mT:∀ p∈cs,p.2∈cs.map Prod.snd:=fun p hp=>List.mem_map.mpr ⟨p,hp,rfl⟩
 have tabO:∀ b,b∈cs.map Prod.snd->∀ H:Hp,ObjOk l.prog w H s.heap b (.tbl #[]):=fun b hb H=>(isT b hb).1
 cases hk:K.lookup a with
 | some oa =>
  have ea:=KX a oa hk
  rw [hobj] at ea
  cases ea
  let H:Hp:=fun b=>if b∈cs.map Prod.snd then some (.tbl #[]) else none
  have Hin:∀ b,b∈cs.map Prod.snd->H b=some (.tbl #[]):=fun b hb=>if_pos hb
  have Hout:∀ b,b ∉ cs.map Prod.snd->H b=none:=fun b hb=>if_neg hb
  refine Yw (a:=a) (ns:=ns) H (fun p hp=>Hin _ (mT p hp)) (fun b o e z=>?_) (fun b=>?_) (.inr ⟨_,vs.toArray,_,hk,rfl,rfl,rfl,by rw [List.size_toArray,lenV]; exact hz,by simpa using rv⟩) (fun b u z=>?_) (fun b o e=>?_) KX G.T.g G.T.b G.T.builtins G.T.nolimit hg hT C G.T.bmain hlen hr hb hF
  ·by_cases hb:b∈cs.map Prod.snd
   ·rw [(isT b hb).1] at e
    cases e
    exact .inr rfl
   ·exact absurd (Hout b hb) z
  ·by_cases hb:b∈cs.map Prod.snd
   ·exact .inr (.inl hb)
   ·exact .inl (Hout b hb)
  ·by_cases hb:b∈cs.map Prod.snd
   ·have y:=(Hin b hb).symm.trans z
    cases y
    exact tabO b hb H
   ·have y:=(Hout b hb).symm.trans z
    cases y
  ·exact Hout b fun hb=>by rw [(isT b hb).2] at e; cases e
 | none =>
  let H:Hp:=fun b=>if b=a then some (.frz { cls:=.type "list",data:=.seq vs.toArray } (.lst (ns.map V.int))) else if b∈cs.map Prod.snd then some (.tbl #[]) else none
  have Ha:H a=some (.frz { cls:=.type "list",data:=.seq vs.toArray } (.lst (ns.map V.int))):=if_pos rfl
  have Hin:∀ b,b∈cs.map Prod.snd->H b=some (.tbl #[]):=fun b hb=>(if_neg (fun z:b=a=>aT (z ▸ hb))).trans (if_pos hb)
  have Hout:∀ b,b≠a->b ∉ cs.map Prod.snd->H b=none:=fun b ha hb=>(if_neg ha).trans (if_neg hb)
  refine Yw (a:=a) (ns:=ns) H (fun p hp=>Hin _ (mT p hp)) (fun b o e z=>?_) (fun b=>?_) (.inl (.inr ⟨_,Ha⟩)) (fun b u z=>?_) (fun b o e=>?_) KX G.T.g G.T.b G.T.builtins G.T.nolimit hg hT C G.T.bmain hlen hr hb hF
  ·by_cases ha:b=a
   ·rw [ha,hobj] at e
    cases e
    exact .inl ⟨_,_,rfl⟩
   ·by_cases hb:b∈cs.map Prod.snd
    ·rw [(isT b hb).1] at e
     cases e
     exact .inr rfl
    ·exact absurd (Hout b ha hb) z
  ·by_cases ha:b=a
   ·rw [ha]
    exact .inr (.inr ⟨_,_,Ha⟩)
   ·by_cases hb:b∈cs.map Prod.snd
    ·exact .inr (.inl hb)
    ·exact .inl (Hout b ha hb)
  ·by_cases ha:b=a
   ·subst ha
    have y:=Ha.symm.trans z
    cases y
    exact ⟨hobj,by rw [List.length_map]; exact hz,vs,_,rv,hobj⟩
   ·by_cases hb:b∈cs.map Prod.snd
    ·have y:=(Hin b hb).symm.trans z
     cases y
     exact tabO b hb H
    ·have y:=(Hout b ha hb).symm.trans z
     cases y
  ·refine Hout b (fun z=>?_) fun hb=>?_
   ·rw [z,hk] at e; cases e
   ·rw [(isT b hb).2] at e; cases e
section
variable{g:Gm}{W:WX}{k:Nat}{X:Cx}{a b c d:Expr}{A B C:M Rv}{pos:Pos}
def Gg(g:Gm)(W:WX)(k:Nat)(X:Cx)(op:CmpOp)(f:D->D->Option Rv):Prop:=∃ r,(Cd g W k X->OpR X (compareOp op) r)/\OpV g r f
theorem c_eq:Gg g W k X .Eq eqG:=⟨_,fun c=>c.K ▸ op_eqD c.room.units,Ae9⟩
theorem Jk:Gg g W k X .NotEq neG:=⟨_,fun c=>c.K ▸ op_neD c.room.units,Xw⟩
theorem c_lt:Gg g W k X .Lt ltD:=⟨_,fun _=>Afi,Qb⟩
theorem c_le:Gg g W k X .LtE leD:=⟨_,fun _=>Afj,Qb⟩
theorem c_gt:Gg g W k X .Gt gtD:=⟨_,fun _=>Afk,Qb⟩
theorem c_ge:Gg g W k X .GtE geD:=⟨_,fun _=>Afl,Qb⟩
theorem Tx{op:CmpOp}{f:D->D->Option Rv}(h:Gg g W k X op f)(ha:VE g W k X a A)(hb:VE g W k X b B)(hm:behindInMarks op b=false:=by rfl):VE g W k X (.Compare a [op] [b] pos) (fOp f A B):=let ⟨_,h1,h2⟩:=h; Aex h1 h2 ha hb hm
theorem Hb{op:CmpOp}{f:D->D->Option Rv}(h:Gg g W k X op f)(ha:VE g W k X a A)(hb:VE g W k X b B)(hm:behindInMarks op b=false:=by rfl):VT g W k X (.Compare a [op] [b] pos) (Bh (fOp f A B)):=let ⟨_,h1,h2⟩:=h; Aey h1 h2 ha hb hm
theorem vt_c2{op op':CmpOp}{f f':D->D->Option Rv}(h:Gg g W k X op f)(h':Gg g W k X op' f')(ha:VE g W k X a A)(hb:VE g W k X b B)(hc:VE g W k X c C)(hm:lastMarks [op,op'] [b,c]=false:=by with_unfolding_all rfl):VT g W k X (.Compare a [op,op'] [b,c] pos) (Bh (L9 f f' A B C)) :=
 let ⟨_,h1,h2⟩:=h; let ⟨_,h3,h4⟩:=h'; Ae2 h1 h2 h3 h4 ha hb hc hm
theorem Fl(ha:VE g W k X a A)(hb:VE g W k X b B):VE g W k X (.BinOp a .Add b pos) (fOp Bb A B):=L6 (fun c=>c.K ▸ Afg) Afh ha hb
theorem Agv(ha:VE g W k X a A)(hb:VE g W k X b B):VE g W k X (.BinOp a .Sub b pos) (fOp N3 A B):=L6 (fun _=>op_sub) Afb ha hb
theorem Of(ha:VE g W k X a A)(hb:VE g W k X b B):VE g W k X (.BinOp a .Mod b pos) (fOp Ji A B):=L6 (fun _=>op_mod) Afc ha hb
theorem Yx(ha:VE g W k X a A)(hb:VE g W k X b B):VE g W k X (.BinOp a .FloorDiv b pos) (fOp N4 A B):=L6 (fun _=>op_fdivW) Afd ha hb
theorem Tz(ha:VE g W k X a A)(hb:VE g W k X b B):VE g W k X (.BinOp a .Pow b pos) (fOp Ih A B):=L6 (fun _=>op_pow) Afe ha hb
theorem Qo(ha:VE g W k X a A)(hb:VE g W k X b B):VE g W k X (.BinOp a .Mult b pos) (fOp Eu A B):=L6 (fun _=>Afq) Afr ha hb
end
section
variable{g:Gm}{W:WX}{k:Nat}{X:Cx}{ex:Expr}{es:List Expr}{A:M (List Rv)}{p pos:Pos}
theorem Ld(hm:X.mg "len" = none)(ha:VA g W k X (ex::es) A)(hg:Gl X "len":=by rfl)(he:starEach (ex::es) X.env=(false,eval ex X.env)::starEach es X.env:=by rfl)(hpl:(backTo pos (starEach es X.env)).any (·.1)=false:=by rfl):VE g W k X (.Call (.Name "len" p) (ex::es) [] pos) (Ar B2 A):=Jd (fun c=>c.K ▸ c.w ▸ Afv) Afx hg hm (by decide +kernel) ha (he:=he) (hpl:=hpl)
theorem Yy(hm:X.mg "abs" = none)(ha:VA g W k X (ex::es) A)(hg:Gl X "abs":=by rfl)(he:starEach (ex::es) X.env=(false,eval ex X.env)::starEach es X.env:=by rfl)(hpl:(backTo pos (starEach es X.env)).any (·.1)=false:=by rfl):VE g W k X (.Call (.Name "abs" p) (ex::es) [] pos) (Ar N8 A):=Jd (fun c=>call_abs) Afz hg hm (by decide +kernel) ha (he:=he) (hpl:=hpl)
theorem Agw(hm:X.mg "max" = none)(ha:VA g W k X (ex::es) A)(hg:Gl X "max":=by rfl)(he:starEach (ex::es) X.env=(false,eval ex X.env)::starEach es X.env:=by rfl)(hpl:(backTo pos (starEach es X.env)).any (·.1)=false:=by rfl):VE g W k X (.Call (.Name "max" p) (ex::es) [] pos) (Ar Mh A):=Jd (fun c=>call_max2 c.calm) Af0 hg hm (by decide +kernel) ha (he:=he) (hpl:=hpl)
theorem Agx(hm:X.mg "min" = none)(ha:VA g W k X (ex::es) A)(hg:Gl X "min":=by rfl)(he:starEach (ex::es) X.env=(false,eval ex X.env)::starEach es X.env:=by rfl)(hpl:(backTo pos (starEach es X.env)).any (·.1)=false:=by rfl):VE g W k X (.Call (.Name "min" p) (ex::es) [] pos) (Ar Mi A):=Jd (fun c=>call_min2 c.calm) Af1 hg hm (by decide +kernel) ha (he:=he) (hpl:=hpl)
theorem Agy(hm:X.mg "all" = none)(ha:VA g W k X (ex::es) A)(hg:Gl X "all":=by rfl)(he:starEach (ex::es) X.env=(false,eval ex X.env)::starEach es X.env:=by rfl)(hpl:(backTo pos (starEach es X.env)).any (·.1)=false:=by rfl):VE g W k X (.Call (.Name "all" p) (ex::es) [] pos) (Ar N9 A):=Jd (fun c=>c.K ▸ cr_all c.calm) Af2 hg hm (by decide +kernel) ha (he:=he) (hpl:=hpl)
theorem Agz(hm:X.mg "any" = none)(ha:VA g W k X (ex::es) A)(hg:Gl X "any":=by rfl)(he:starEach (ex::es) X.env=(false,eval ex X.env)::starEach es X.env:=by rfl)(hpl:(backTo pos (starEach es X.env)).any (·.1)=false:=by rfl):VE g W k X (.Call (.Name "any" p) (ex::es) [] pos) (Ar Qi A):=Jd (fun c=>c.K ▸ cr_any c.calm) Af3 hg hm (by decide +kernel) ha (he:=he) (hpl:=hpl)
theorem Hu(hm:X.mg "isinstance" = none)(ha:VA g W k X (ex::es) A)(hg:Gl X "isinstance":=by rfl)(he:starEach (ex::es) X.env=(false,eval ex X.env)::starEach es X.env:=by rfl)(hpl:(backTo pos (starEach es X.env)).any (·.1)=false:=by rfl):VE g W k X (.Call (.Name "isinstance" p) (ex::es) [] pos) (Ar Bg A):=Jd (fun c=>c.K ▸ call_isi) Agl hg hm (by decide +kernel) ha (he:=he) (hpl:=hpl)
theorem Oh(hm:X.mg "int" = none)(ha:VA g W k X (ex::es) A)(hg:Gl X "int":=by rfl)(he:starEach (ex::es) X.env=(false,eval ex X.env)::starEach es X.env:=by rfl)(hpl:(backTo pos (starEach es X.env)).any (·.1)=false:=by rfl):VE g W k X (.Call (.Name "int" p) (ex::es) [] pos) (Ar intD A):=Aez (fun c=>call_int1) Afy hg hm (by decide +kernel) ha (he:=he) (hpl:=hpl)
end
section
variable{g:Gm}{W:WX}{k:Nat}{X:Cx}{o ex:Expr}{O:M Rv}{A:M (List Rv)}{apos cpos p:Pos}{x:Str}{i:Nat}
theorem Ag0(ho:VE g W k X o O)(ha:VA g W k X [ex] A)(hbase:attributeBase o "join" X.env (eval o X.env)=eval o X.env:=by rfl)
  (hfew:((backTo cpos (starEach [ex] X.env)).all (fun x=>!x.1)&&(backToKw cpos (keywordEach [] X.env)).all (fun x=>x.1.isSome)&&decide ([ex].length+([]:List Keyword).length+(if ([]:List Keyword).isEmpty then 0 else 1)<30))=true:=by rfl)
  (hline:(apos.endLine==cpos.line)=true:=by rfl)(hs:starEach [ex] X.env=(false,eval ex X.env)::starEach [] X.env:=by rfl)(hplain:(backTo cpos (starEach [] X.env)).any (·.1)=false:=by rfl) :
  VE g W k X (.Call (.Attribute o "join" apos) [ex] [] cpos) (Mj "str" K9 O A):=Af6 PySem.F.plainAttrs_str PySem.F.slot_str_join PySem.F.type_str_join (fun c=>c.K ▸ mt_join) Af7 ho ha hbase hfew hline hs hplain
end
def Mp:D->D->Option D
 | .int i,.int j=>some (.int (i+j))
 | .str a,.str b=>if a.length+b.length<=sizeLine then some (.str (a++b)) else none
 | _,_=>none
def fAug(i:Nat)(A:M Rv):M Ctl:=fun e0=>match e0[i]? with
 | some (.sh d0)=>(A.bind fun r e=>match Ag r e with
  | some d=>(match Mp d0 d with | some out=>D4 i (.val out) e | none=>.no)
  | none=>.no) e0
 | some (.ow (.lst _))=>(A.bind fun r e=>match e[i]?,Ag r e with
  | some (.ow (.lst xs)),some (.lst ys)=>if xs.length+ys.length<=sizeLine then .ok .nx (e.set i (.ow (.lst (xs++ys)))) else .no
  | _,_=>.no) e0
 | _=>.no
theorem Ag1:∀ (e:Ve) (r:List Rv) (e':Ve),Af e=.ok r e'->r.length=0:=fun e r e' h=>by cases h; rfl
theorem Yz{A:M Rv}{B:M (List Rv)}{n:Nat}(hB:∀ (e:Ve) (r:List Rv) (e':Ve),B e=.ok r e'->r.length=n):∀ (e:Ve) (r:List Rv) (e':Ve),Aa A B e=.ok r e'->r.length=n+1:=fun e r e' h=>by
 unfold Aa M.bind at h
 cases qa:A e with
 | no=>rw [qa] at h; cases h
 | er x e1=>rw [qa] at h; cases h
 | ok a e1 =>
  rw [qa] at h
  simp only at h
  cases qb:B e1 with
  | no=>rw [qb] at h; cases h
  | er x e2=>rw [qb] at h; cases h
  | ok rs e2 =>
   rw [qb] at h
   cases h
   rw [List.length_cons,hB e1 rs _ qb]
section
variable{P:Program}{w:World}{K:PySem.W.Frag}{mg:Str->Option Value}{base:Heap}{g:Gm}{j:Nat}{f:Addr}{fd:FuncData}{ps:List Str}{CXa:CXT}{np n m:Nat}{B:M Ctl}{dvs:List V}{dd:List D}{ks:List Str}
theorem Ew(Fk:FnG P g.w g.K mg base CXa j f fd ps (spV g np (fnF np n B)))(hb:∃ ds,Vals [] ds/\Binds g.K fd ps ds):FnK P g.w g.K mg base CXa j f [] (spR g (fnF np n B)):=by
 obtain ⟨ds,hv,hb⟩:=hb
 cases hv
 exact fk_of Fk hb
end
def Y0(A K Z:M Rv):M Rv:=A.bind fun a e0=>match Ag a e0 with
 | some (.dct _)=>(K.bind fun y=>(Ad Z).bind fun z e=>match Ag a e,Ag y e,z with
  | some (.dct kvs),some (.str k),.val d=>.ok (.val ((B1 kvs k).getD d)) e
  | _,_,_=>.no) e0
 | _=>.no
def fNeg(A:M Rv):M Rv:=A.bind fun r e=>match r with
 | .val (.int i)=>.ok (.val (.int (-i))) e
 | _=>.no
theorem RepK.mem{g:Gm}{G:Hp}:∀ {kvs:List (List Nat×D)} {vs:List (Key×V)},RepK g G kvs vs->∀ q∈vs,∃ kd∈kvs,q.1=.inr (S kd.1)/\Rep g G kd.2 q.2
 | [],vs,r=>fun q hq=>by rw [show vs=[] from r] at hq; cases hq
 | (k,d)::kvs,vs,⟨_,v,r,e,a,b⟩=>fun q hq=>by
  subst e
  rcases List.mem_cons.mp hq with z | z
  ·exact ⟨(k,d),List.mem_cons_self,by rw [z],by rw [z]; exact a⟩
  ·obtain ⟨kd,h1,h2⟩:=RepK.mem b q z
   exact ⟨kd,List.mem_cons_of_mem _ h1,h2⟩
def Jl:List D->Option Rv
 | [.dct kvs]=>if kvs.length<64 then some (.fresh (.lst ((Aw (kvs.map (·.1))).map .str))) else none
 | _=>none
def Ag2:List V->Hp->VK->Prop:=fun xs H Q=>∃ (a:Addr) (kvs:List (Key×V)) (ks:List Str),xs=[.ref a]/\Rd H a (.dK kvs)/\kvs.map (·.1)=ks.map Sum.inr/\ks.length<64/\∀ ys p,ys.Perm ks->sortedS ys=true->H p=none->Q (.ref p) (upd H p (.lst (ys.map V.str)))
theorem RepK.keys{g:Gm}{G:Hp}:∀ {kvs:List (List Nat×D)} {vs:List (Key×V)},RepK g G kvs vs->vs.map (·.1)=(kvs.map fun q=>S q.1).map Sum.inr/\∀ q∈kvs,OkS q.1
 | [],vs,r=>by rw [show vs=[] from r]; exact ⟨rfl,fun q hq=>nomatch hq⟩
 | (k,d)::kvs,vs,⟨ok,v,r,e,a,b⟩=>by
  obtain ⟨h1,h2⟩:=RepK.keys b
  subst e
  refine ⟨by simp only [List.map_cons]; rw [h1],fun q hq=>?_⟩
  rcases List.mem_cons.mp hq with z | z
  ·rw [z]; exact ok
  ·exact h2 q z
theorem Ag3{g:Gm}:CallV g Ag2 Jl:=fun G H ds vs out Q bs sc r e q=>by
 match ds,e with
 | [],e=>cases e
 | d::d'::t,e=>cases d <;> cases e
 | [d],e =>
  obtain ⟨v,ev,a⟩:=r.one
  subst ev
  cases d <;> try cases e
  rename_i kvs
  by_cases c:kvs.length<64
  ·rw [show Jl [.dct kvs]=_ from if_pos c] at e
   cases e
   obtain ⟨p1,us,e1,q1,r1⟩:=a.dct bs
   obtain ⟨k1,k2⟩:=r1.keys
   refine ⟨p1,us,_,by rw [e1],q1,k1,by rw [List.length_map]; exact c,fun ys p hp hs np=>?_⟩
   have ey:ys=(Aw (kvs.map (·.1))).map S:=by rw [Ya,List.map_map]; exact W7 hp (Ael hs)
   rw [ey]
   refine q _ G _ (Grow.lay bs np) ⟨p,rfl,bs.hn np,⟨_,upd_same,Reps.strs fun l hl=>?_⟩,np⟩
   obtain ⟨kd,hk,rfl⟩:=List.mem_map.mp (srtN_mem.mp hl)
   exact k2 kd hk
  ·rw [show Jl [.dct kvs]=_ from if_neg c] at e
   cases e
theorem Y1{g:Gm}{W:WX}{k:Nat}{X:Cx}{ex:Expr}{es:List Expr}{A:M (List Rv)}{p pos:Pos}(hm:X.mg "sorted" = none)(ha:VA g W k X (ex::es) A)(hg:Gl X "sorted":=by rfl)(he:starEach (ex::es) X.env=(false,eval ex X.env)::starEach es X.env:=by rfl)(hpl:(backTo pos (starEach es X.env)).any (·.1)=false:=by rfl) :
  VE g W k X (.Call (.Name "sorted" p) (ex::es) [] pos) (Ar Jl A):=Jd (fun c=>call_sortedD c.calm) Ag3 hg hm (by decide +kernel) ha (he:=he) (hpl:=hpl)
def Y2(i:Nat)(F:D->M Unit)(B:M Ctl):M Ctl:=fun e=>match e[i]? with
 | some (.ow (.lst ds))=>okR (fun e'=>e'.set i (.ow (.lst ds))) (B0 F B ds (e.set i (.lo (.lst ds))))
 | some (.bo (.lst ds))=>okR (fun e'=>e'.set i (.bo (.lst ds))) (B0 F B ds (e.set i (.lo (.lst ds))))
 | some (.lo (.lst ds))=>B0 F B ds e
 | _=>Ib (Dd (Ab i)) F B e
theorem Y3{h:Heap}{P:Program}{w:World}:∀ {es:List DictEntry} {kvs:List (Key×Value)},Pairs (mixKind P w) es kvs->ReadsAll h (es.map (·.key)) (kvs.map fun q=>kPy q.1) []/\es.map (·.val)=kvs.map (·.2)
 | _,_,.nil=>⟨.nil,rfl⟩
 | _,_,.cons (e:=e) (kv:=kv) hk hv t=>by
  obtain ⟨t1,t2⟩:=Y3 t
  refine ⟨?_,by rw [List.map_cons,List.map_cons,hv,t2]⟩
  rw [List.map_cons,List.map_cons]
  refine ReadsAll.cons (as:=[]) (bs:=[]) ?_ t1
  rcases keyIs_shape hk with ⟨i,t,e1,e2⟩ | ⟨x,t,e1,e2⟩
  ·rw [e2]
   obtain ⟨k,v⟩:=kv
   cases e1
   exact .int i t
  ·rw [e2]
   obtain ⟨k,v⟩:=kv
   cases e1
   exact .str x t
section
variable{X:Cx}{pins:List (Addr×Obj)}{σ:L2.St}{H:Hp}{s:Shared}
def T3(K:PySem.W.Frag):Prop:=∃ o,K.lookup sysModules=some o
theorem Rd.nsys(I:Inv X pins σ H s)(sy:T3 X.K){a:Addr}{u:HO}(r:Rd H a u):sysModules≠a:=fun z=>by
 obtain ⟨o,ho⟩:=sy
 have n:=(I.bs _ _ (I.ok.mod.kin _ _ ho)).2
 rw [z] at n
 rcases r with r | ⟨ob,r⟩ <;> (rw [n] at r; cases r)
theorem Y4{kvs:List (Key×V)}{vs:List (Key×Value)}:KV kvs vs->kvs.map (fun q=>kPy q.1)=vs.map (fun q=>kPy q.1)/\Vals (kvs.map (·.2)) (vs.map (·.2))
 | .nil=>⟨rfl,.nil⟩
 | .cons ⟨h1,h2⟩ t=>by
  obtain ⟨t1,t2⟩:=Y4 t
  exact ⟨by simp only [List.map_cons]; rw [h1,t1],.cons h2 t2⟩
mutual
theorem Dr.reads(I:Inv X pins σ H s)(sy:T3 X.K):∀ {v:V} {d:PyData} {u:Value},Dr X.K H v d->RelV v u->∃ as,Reads s.heap u d as/\sysModules ∉ as
 | _,_,_,.non,r=>by cases r; exact ⟨_,Reads.none,by simp⟩
 | _,_,_,.bl b,r=>by cases r; exact ⟨_,Reads.bool b,by simp⟩
 | _,_,_,.int i,r=>by obtain ⟨t,rfl⟩:=r; exact ⟨_,Reads.int i t,by simp⟩
 | _,_,_,.str x,r=>by obtain ⟨t,rfl⟩:=r; exact ⟨_,Reads.str x t,by simp⟩
 | _,_,_,.lst (a:=a) hs ha,r=>by
  cases r
  obtain ⟨_,its,n,rv,ho⟩:=Rd.ok hs I.hok
  obtain ⟨as,hr,hn⟩:=DrAll.reads I sy ha rv
  exact ⟨_,Reads.list ho rfl rfl hr,by
   intro z
   rcases List.mem_cons.mp z with z | z
   ·exact Rd.nsys I sy hs z
   ·exact hn z⟩
 | _,_,_,.tup hs ha,r=>by
  cases r
  obtain ⟨its,rv,⟨o,ho,hc,n,hd⟩,_⟩:=I.tuple hs
  obtain ⟨as,hr,hn⟩:=DrAll.reads I sy ha rv
  exact ⟨_,Reads.tuple ho hc hd hr,hn⟩
 | _,_,_,.dct (a:=a) (kvs:=kvs) (ds:=ds) hs ha,r=>by
  cases r
  obtain ⟨_,_,vs,kv,o,es,ep,ho,hx,hd,_,hp,_⟩:=Rd.ok hs I.hok
  obtain ⟨k1,k2⟩:=Y4 kv
  obtain ⟨p1,p2⟩:=Y3 (h:=s.heap) hp
  rw [← p2] at k2
  obtain ⟨as,hr,hn⟩:=DrAll.reads I sy ha k2
  have le:(kvs.map fun q=>kPy q.1).length=ds.length:=by rw [List.length_map,← ha.len,List.length_map]
  refine ⟨_,Reads.dict (as:=[]) (bs:=as) ho hx.1 hd ?_ ?_,by
   intro z
   rcases List.mem_cons.mp z with z | z
   ·exact Rd.nsys I sy hs z
   ·exact hn z⟩
  ·rw [List.map_fst_zip (Nat.le_of_eq le),k1]
   exact p1
  ·rw [List.map_snd_zip (Nat.le_of_eq le.symm)]
   exact hr
theorem DrAll.reads(I:Inv X pins σ H s)(sy:T3 X.K):∀ {vs:List V} {ds:List PyData} {us:List Value},DrAll X.K H vs ds->Vals vs us->∃ as,ReadsAll s.heap us ds as/\sysModules ∉ as
 | _,_,_,.nil,r=>by cases r; exact ⟨_,ReadsAll.nil,by simp⟩
 | _,_,_,.cons h1 h2,r=>by
  cases r with
  | cons r1 r2 =>
   obtain ⟨as,q1,n1⟩:=Dr.reads I sy h1 r1
   obtain ⟨bs,q2,n2⟩:=DrAll.reads I sy h2 r2
   exact ⟨_,ReadsAll.cons q1 q2,by
    intro z
    rcases List.mem_append.mp z with z | z
    ·exact n1 z
    ·exact n2 z⟩
end
end
mutual
def rPy:D->PyData
 | .non=>.none
 | .bl b=>.bool b
 | .int i=>.int i
 | .str l=>.str (S l)
 | .lst xs=>.list (rPys xs)
 | .tup xs=>.tuple (rPys xs)
 | .dct kvs=>.dict (rPyK kvs)
 | _=>.none
def rPys:List D->List PyData
 | []=>[]
 | x::xs=>rPy x::rPys xs
def rPyK:List (List Nat×D)->List (PyData×PyData)
 | []=>[]
 | (k,d)::r=>(.str (S k),rPy d)::rPyK r
end
mutual
def rok:D->Bool
 | .non=>true
 | .bl _=>true
 | .int i=>decide (i.natAbs.log2<1920)
 | .str _=>true
 | .lst xs=>roks xs
 | .tup xs=>roks xs
 | .dct kvs=>rokK kvs
 | _=>false
def roks:List D->Bool
 | []=>true
 | x::xs=>rok x&&roks xs
def rokK:List (List Nat×D)->Bool
 | []=>true
 | (_,d)::r=>rok d&&rokK r
end
mutual
def szD:D->Nat
 | .int _=>1921
 | .str l=>10*l.length+2
 | .lst xs=>szDs xs+3
 | .tup xs=>szDs xs+3
 | .dct kvs=>szK kvs+3
 | _=>5
def szDs:List D->Nat
 | []=>0
 | x::xs=>szD x+2+szDs xs
def szK:List (List Nat×D)->Nat
 | []=>0
 | (k,d)::r=>10*k.length+2+2+szD d+2+szK r
end
mutual
def dpD:D->Nat
 | .lst xs=>dpDs xs+1
 | .tup xs=>dpDs xs+1
 | .dct kvs=>dpK kvs+1
 | _=>0
def dpDs:List D->Nat
 | []=>0
 | x::xs=>max (dpD x) (dpDs xs)
def dpK:List (List Nat×D)->Nat
 | []=>0
 | (_,d)::r=>max (dpD d) (dpK r)
end
def OkT(x:Str):Prop:=OkS x.cps.toList
theorem OkT.app{a b:Str}(ha:OkT a)(hb:OkT b):OkT (a++b):=by
 show OkS (TL.tl (a++b))
 rw [TL.tl_append]
 exact OkS.app ha hb
theorem OkT.lit{x:Str}(h:(x.cps.toList.all fun c=>decide (c<1114112))=true):OkT x:=fun c hc=>by
 have:=List.all_eq_true.mp h c hc
 simpa using this
theorem OkT.join{sep:Str}(hs:OkT sep):∀ {ts:List Str},(∀ t∈ts,OkT t)->OkT (Str.join sep ts)
 | [],_=>fun c hc=>by
  have:c∈([]:List Nat):=hc
  simp at this
 | [x],h=>h x (List.mem_cons_self ..)
 | x::y::r,h=>(((h x (List.mem_cons_self ..)).app hs).app (OkT.join hs fun t ht=>h t (List.mem_cons_of_mem _ ht)))
theorem Ag4(i:Int):OkT ((toString i:String):Str):=fun c hc=>by
 rcases Nat.lt_or_ge c 1114112 with h | h
 ·exact h
 ·exact absurd hc (int_text_free' c ⟨by omega,by omega⟩ i)
theorem T4(c:Nat):OkS ((Nat.toDigits 16 c).map Char.toNat):=fun d hd=>by
 obtain ⟨ch,_,rfl⟩:=List.mem_map.mp hd
 have:=ch.valid
 show ch.val.toNat<1114112
 rcases this with h | h
 ·have h':ch.val.toNat<0xd800:=h
  omega
 ·exact h.2
theorem T5(n:Nat){l:List Nat}(h:OkS l):OkS (List.replicate n 48++l):=OkS.app (fun c hc=>by rw [List.eq_of_mem_replicate hc]; decide) h
theorem Oi{c:Nat}{l:List Nat}(hc:c<1114112)(h:OkS l):OkS (c::l):=fun d hd=>by
 rcases List.mem_cons.mp hd with z | z
 ·rw [z]; exact hc
 ·exact h d z
theorem Qp:OkS []:=fun c hc=>nomatch hc
theorem Ag5{q c:Nat}(hc:c<1114112):OkS (Builtin.Str.reprChar q c):=by
 unfold Builtin.Str.reprChar
 have l2:∀ a:Nat,a<1114112->OkS [92,a]:=fun a ha=>Oi (by decide) (Oi ha Qp)
 dsimp only
 split
 ·exact l2 c hc
 split
 ·exact l2 _ (by decide)
 split
 ·exact l2 _ (by decide)
 split
 ·exact l2 _ (by decide)
 split
 ·exact Oi hc Qp
 split
 ·exact OkS.app (l2 _ (by decide)) (T5 _ (T4 c))
 split
 ·exact OkS.app (l2 _ (by decide)) (T5 _ (T4 c))
 ·exact OkS.app (l2 _ (by decide)) (T5 _ (T4 c))
theorem Y5{q:Nat}:∀ (l:List Nat) (acc:Array Nat),OkS acc.toList->OkS l->OkS (l.foldl (fun out c=>out++(Builtin.Str.reprChar q c).toArray) acc).toList
 | [],acc,h,_=>h
 | c::l,acc,h,hl=>by
  rw [List.foldl_cons]
  refine Y5 l _ ?_ fun d hd=>hl d (List.mem_cons_of_mem _ hd)
  rw [Array.toList_append,List.toList_toArray]
  exact OkS.app h (Ag5 (hl c (List.mem_cons_self ..)))
theorem Y6{l:List Nat}(h:OkS l):OkT (reprText (S l)):=by
 have q:reprQuote (S l)<1114112:=by
  unfold reprQuote
  split <;> decide
 unfold OkT reprText
 rw [Array.toList_push]
 refine OkS.app ?_ (Oi q Qp)
 rw [← Array.foldl_toList]
 exact Y5 _ _ (Oi q Qp) h
structure RpOk(K:PySem.W.Frag)(H:Hp)(v:V)(d:D):Prop where
 dr:Dr K H v (rPy d)
 sh:(rPy d).showable=true
 dp:(rPy d).depth=dpD d
 len:(rPy d).shown.length<=szD d
 ok:OkT (rPy d).shown
structure RpsOk(K:PySem.W.Frag)(H:Hp)(vs:List V)(ds:List D):Prop where
 dr:DrAll K H vs (rPys ds)
 sh:PyData.showableAll (rPys ds)=true
 dp:PyData.depthAll (rPys ds)=dpDs ds
 len:((PyData.shownAll (rPys ds)).map (·.length)).sum+2*(PyData.shownAll (rPys ds)).length<=szDs ds
 ok:∀ t∈PyData.shownAll (rPys ds),OkT t
structure RpkOk(K:PySem.W.Frag)(H:Hp)(vs:List (Key×V))(ds:List (List Nat×D)):Prop where
 dr:∃ ps,DrAll K H (vs.map (·.2)) ps/\rPyK ds=(vs.map fun q=>kPy q.1).zip ps
 sh:PyData.showableKv (rPyK ds)=true
 dp:PyData.depthKv (rPyK ds)=dpK ds
 len:((PyData.shownKv (rPyK ds)).map (·.length)).sum+2*(PyData.shownKv (rPyK ds)).length<=szK ds
 ok:∀ t∈PyData.shownKv (rPyK ds),OkT t
theorem Y7{K:PySem.W.Frag}{H:Hp}{vs:List V}{ds:List D}(r:RpsOk K H vs ds):OkT (Str.join ", " (PyData.shownAll (rPys ds))):=OkT.join (OkT.lit (by decide +kernel)) r.ok
theorem Ag6{K:PySem.W.Frag}{H:Hp}{a:Addr}{vs:List V}{ds:List D}(h:Rd H a (.lst vs))(r:RpsOk K H vs ds):RpOk K H (.ref a) (.lst ds) :=
 ⟨.lst h r.dr,r.sh,congrArg Nat.succ r.dp,by
  show (listText (PyData.shownAll (rPys ds))).length<=szDs ds+3
  exact Nat.le_trans (listText_len_le _) (Nat.add_le_add_right r.len 3),by
  show OkT (PyData.shown (.list (rPys ds)))
  rw [PyData.shown_list]
  exact ((OkT.lit (by decide +kernel)).app (Y7 r)).app (OkT.lit (by decide +kernel))⟩
theorem Ag7{K:PySem.W.Frag}{H:Hp}{a:Addr}{vs:List V}{ds:List D}(h:SqT K H a vs)(r:RpsOk K H vs ds):RpOk K H (.ref a) (.tup ds) :=
 ⟨.tup h r.dr,r.sh,congrArg Nat.succ r.dp,by
  show (tupleText (PyData.shownAll (rPys ds))).length<=szDs ds+3
  exact Nat.le_trans (tupleText_len_le _) (Nat.add_le_add_right r.len 3),by
  show OkT (PyData.shown (.tuple (rPys ds)))
  rw [PyData.shown_tuple]
  refine ((OkT.lit (by decide +kernel)).app (Y7 r)).app ?_
  split <;> exact OkT.lit (by decide +kernel)⟩
theorem Ag8{K:PySem.W.Frag}{H:Hp}{a:Addr}{vs:List (Key×V)}{ds:List (List Nat×D)}(h:Rd H a (.dK vs))(r:RpkOk K H vs ds):RpOk K H (.ref a) (.dct ds) :=
 ⟨by
  obtain ⟨ps,h1,h2⟩:=r.dr
  show Dr K H (.ref a) (.dict (rPyK ds))
  rw [h2]
  exact .dct h h1,r.sh,congrArg Nat.succ r.dp,by
  show (dictText (PyData.shownKv (rPyK ds))).length<=szK ds+3
  exact Nat.le_trans (dictText_len_le _) (Nat.add_le_add_right r.len 3),by
  show OkT (PyData.shown (.dict (rPyK ds)))
  rw [PyData.shown_dict]
  exact ((OkT.lit (by decide +kernel)).app (OkT.join (OkT.lit (by decide +kernel)) r.ok)).app (OkT.lit (by decide +kernel))⟩
theorem rd_of{G H:Hp}(bs:Bs G H){a:Addr}{u:HO}(h:G a=some u):Rd H a u:=(bs.sub a u h).elim .inl fun z=>.inr z.2
theorem Y8{l:List Nat}(h:OkS l):(reprText (S l)).length<=10*l.length+2:=by
 have:=StrLaws.reprText_len (S l) fun c hc=>Nat.lt_trans (h c hc) (by decide)
 rw [S_len] at this
 exact this
mutual
theorem Y9{g:Gm}{G H:Hp}(bs:Bs G H):∀ (d:D) (v:V),Rep g G d v->rok d=true->RpOk g.K H v d
 | .non,v,r,_=>by rw [show v=_ from r]; exact ⟨.non,rfl,rfl,by decide +kernel,OkT.lit (by decide +kernel)⟩
 | .bl b,v,r,_=>by rw [show v=_ from r]; exact ⟨.bl b,rfl,rfl,by cases b <;> decide +kernel,by cases b <;> exact OkT.lit (by decide +kernel)⟩
 | .int i,v,r,h=>by
  rw [show v=_ from r]
  have h':i.natAbs.log2<1920:=by simpa [rok] using h
  refine ⟨.int i,by simpa [rPy,PyData.showable] using h',rfl,?_,?_⟩
  ·show (PyData.shown (.int i)).length<=1921
   rw [PyData.shown_int]
   exact int_text_len_1921 h'
  ·show OkT (PyData.shown (.int i))
   rw [PyData.shown_int]
   exact Ag4 i
 | .str l,v,⟨e,ok⟩,_=>by
  rw [e]
  refine ⟨.str _,rfl,rfl,?_,?_⟩
  ·show (PyData.shown (.str (S l))).length<=_
   rw [PyData.shown_str]
   exact Y8 ok
  ·show OkT (PyData.shown (.str (S l)))
   rw [PyData.shown_str]
   exact Y6 ok
 | .lst ds,v,⟨a,vs,e,q,r⟩,h=>by rw [e]; exact Ag6 (rd_of bs q) (rps_of bs ds vs r h)
 | .tup ds,v,⟨a,vs,e,q,r⟩,h=>by rw [e]; exact Ag7 (bs.sqT q) (rps_of bs ds vs r h)
 | .dct kvs,v,⟨a,vs,e,q,r⟩,h=>by rw [e]; exact Ag8 (rd_of bs q) (rpk_of bs kvs vs r h)
 | .set _,v,_,h=>by cases h
 | .ins _ _,v,_,h=>by cases h
 | .con _,v,_,h=>by cases h
 | .scr _,v,_,h=>by cases h
theorem rps_of{g:Gm}{G H:Hp}(bs:Bs G H):∀ (ds:List D) (vs:List V),Reps g G ds vs->roks ds=true->RpsOk g.K H vs ds
 | [],vs,r,_=>by rw [show vs=_ from r]; exact ⟨.nil,rfl,rfl,Nat.le_refl _,fun t ht=>nomatch ht⟩
 | d::ds,vs,⟨v,r,e,a,b⟩,h=>by
  have h':rok d=true/\roks ds=true:=Bool.and_eq_true_iff.mp h
  have p:=Y9 bs d v a h'.1
  have q:=rps_of bs ds r b h'.2
  rw [e]
  refine ⟨.cons p.dr q.dr,?_,?_,?_,fun t ht=>?_⟩
  ·show (PyData.showable (rPy d)&&PyData.showableAll (rPys ds))=true
   rw [p.sh,q.sh]; rfl
  ·show max (PyData.depth (rPy d)) (PyData.depthAll (rPys ds))=max (dpD d) (dpDs ds)
   rw [p.dp,q.dp]
  ·show ((PyData.shownAll (rPy d::rPys ds)).map (·.length)).sum+2*(PyData.shownAll (rPy d::rPys ds)).length<=szD d+2+szDs ds
   rw [PyData.shownAll_cons,List.map_cons,List.sum_cons,List.length_cons]
   have:=p.len
   have:=q.len
   omega
  ·have ht:t∈PyData.shownAll (rPy d::rPys ds):=ht
   rw [PyData.shownAll_cons] at ht
   rcases List.mem_cons.mp ht with z | z
   ·rw [z]; exact p.ok
   ·exact q.ok t z
theorem rpk_of{g:Gm}{G H:Hp}(bs:Bs G H):∀ (ds:List (List Nat×D)) (vs:List (Key×V)),RepK g G ds vs->rokK ds=true->RpkOk g.K H vs ds
 | [],vs,r,_=>by rw [show vs=_ from r]; exact ⟨⟨[],.nil,rfl⟩,rfl,rfl,Nat.le_refl _,fun t ht=>nomatch ht⟩
 | (k,d)::ds,vs,⟨ok,v,r,e,a,b⟩,h=>by
  have h':rok d=true/\rokK ds=true:=Bool.and_eq_true_iff.mp h
  have p:=Y9 bs d v a h'.1
  have q:=rpk_of bs ds r b h'.2
  obtain ⟨ps,h1,h2⟩:=q.dr
  rw [e]
  refine ⟨⟨rPy d::ps,.cons p.dr h1,?_⟩,?_,?_,?_,fun t ht=>?_⟩
  ·show (PyData.str (S k),rPy d)::rPyK ds=_
   rw [h2]
   rfl
  ·show (PyData.showable (.str (S k))&&PyData.showable (rPy d)&&PyData.showableKv (rPyK ds))=true
   rw [p.sh,q.sh]; rfl
  ·show max (max (PyData.depth (.str (S k))) (PyData.depth (rPy d))) (PyData.depthKv (rPyK ds))=max (dpD d) (dpK ds)
   rw [p.dp,q.dp]
   simp [PyData.depth]
  ·show ((PyData.shownKv ((.str (S k),rPy d)::rPyK ds)).map (·.length)).sum+2*(PyData.shownKv ((.str (S k),rPy d)::rPyK ds)).length<=10*k.length+2+2+szD d+2+szK ds
   rw [PyData.shownKv_cons,List.map_cons,List.sum_cons,List.length_cons,PyData.shown_str]
   have l1:=Y8 ok
   have l2:=p.len
   have l3:=q.len
   have l4:(reprText (S k) ++ ": " ++ (rPy d).shown).length=(reprText (S k)).length+2+(rPy d).shown.length:=by
    rw [strLen_append,strLen_append]
    rfl
   omega
  ·have ht:t∈PyData.shownKv ((.str (S k),rPy d)::rPyK ds):=ht
   rw [PyData.shownKv_cons] at ht
   rcases List.mem_cons.mp ht with z | z
   ·rw [z,PyData.shown_str]
    exact ((Y6 ok).app (OkT.lit (by decide +kernel))).app p.ok
   ·exact q.ok t z
end
end Vs
namespace Vs
open PySem PySem.Spec PyProof.Rows L2 Fw SX He
theorem code_at{K:PySem.W.Frag}{x qual:Str}{params:Arguments}{body:List Stmt}{scope:Scope}{dvs:List V}{kws:List (Str×V)}{p:Defn}{fd:FuncData}(F:FunD K x qual params body scope dvs kws (fAd K p) fd):fd.code=.ref (cT K p).1:=by
 obtain ⟨oc,od,dV,kV,doc,pm,an,cdv,ct,osl,rfl,lk,hcd,_,_⟩:=F.ex
 obtain ⟨c,rfl⟩:=codeIn_ref hcd
 have e:=codeOf_eq (c:=c) lk rfl
 show Value.ref c=.ref (codeOf K p)
 rw [e]
end Vs
namespace Vs
open PySem PySem.Spec PyProof.Rows L2 Fw SX NdefX
theorem Za{prog:Program}{w:World}{A:Around}{E:Value->Shared->Prop}{h:Heap}{g:Array GenState}{d:Drawn}{t:Nat}{os:OsState}{nm q:Str}{C N:Addr}{bs bm bmB:List Value}{hdct:Bool}{sn:List Str}{sub:List Value}{ab:Bool}{col:Option Bool}{dd:Option Addr}{k0 k1 k2 k3 k5:Option Value}{B newId i:String}
  (FB:ExcBaseFacts B newId i bmB){u e t0:Addr}{rest:List Value}{Q:Value->Shared->Prop}
  (hC:h.get? C=some (excClassObj nm q C N bs bm hdct sn sub ab col dd k0 k1 k2 k3 k5 newId))(he:h.get? e=some (HandSPX.excO C t0))(hu:h.get? u=some (PySem.W.kxs_mw i e))(hrest:rest.length<=sizeLine)
  (hq:∀ h' t1,(∀ b o,b≠e->h.get? b=some o->h'.get? b=some o)->h'.get? e=some (HandSPX.excO C t1)->Q .none ⟨h',g,d,t,os⟩) :
  wpAny (model prog w) A (call (.ref u) rest) Q E ⟨h,g,d,t,os⟩:=by
 refine wpAny_call (codeAny_of_tree ?_)
 show wpAny _ A.in1 (callAny (.ref u) ⟨rest,[]⟩) _ _ _
 simp only [callAny]
 refine wpAny_bind (wpAny_load hu ?_)
 simp only [PySem.W.kxs_mw,show (Value.type "method-wrapper" == Value.type "method" || Value.type "method-wrapper" == Value.type "builtin_function_or_method" || Value.type "method-wrapper" == Value.type "method-wrapper")=true by decide,if_true]
 refine PySem.W.KFB.if_so (by decide) ?_
 refine wpAny_bind (PySem.W.check_bound_init FB.toExcCallFacts hC he rfl ?_)
 refine wpAny_bind (wpAny_pure (wpAny_pure ?_))
 refine ⟨plainId_quiet FB.init.plain _,codeAny_builtin FB.initEntry ?_⟩
 exact PySem.W.exc_init_tree (cls:=.ref C) (t0:=t0) (dv:=none) (c2:=.none) (c3:=.none) (b4:=.bool false) he hrest fun h' k e' _=>hq h' _ k e'
structure ExiC(P:Program)(K:PySem.W.Frag)(C f cc:Addr)(F:NF)(fd:FuncData)(slf:Str):Prop where
 T:OexC K C
 cl:F.cl=[(("__class__" : Str),cc)]
 lkf:∃ oc od osl,K.lookup f=some ⟨oc,od,.func fd,osl⟩
 fdX:∃ dV kV doc pm an ct,fd=PySem.W.fnX F.name F.qual F.params F.body F.scope F.cl dV kV doc pm an (.ref F.c) ct
 par:∃ ar:Arg,(fd.params.posonlyargs++fd.params.args).head? = some ar/\ar.arg=slf
 code:∃ ccl cdd vs ccs file tf,K.lookup F.c=some ⟨ccl,cdd,.fields vs,ccs⟩/\vs[2]? = some (.str file tf)/\((P.main.file:Str)==file)=true
 cdr:PySem.W.codeIn K (.ref F.c) F.qual=true
 cell:∃ cl cld csl,K.lookup cc=some ⟨cl,cld,.cell (some (.ref C)),csl⟩
 cls:(PySem.W.clsIn K C).isSome=true
 sub:PySem.W.mroIn K C (.ref C)=some true
 ks:F.scope.names.lookup ("super" : Str)=some .globalImplicit
 kc:F.scope.names.lookup ("__class__" : Str)=some .free
 ka:F.scope.names.lookup slf=some .local
 top:(P.main.scope.names.lookup ("super" : Str)).isSome=false
 opq:PySem.W.nsIn K cStatics "thirdparty.any" = some none
 sup:PySem.W.ks_superIn K C C "__init__" = some (some (.builtin "ValueError.__init__"))
 isB:PySem.W.subIn K (.ref C) (.type "ValueError")=some true
def Jm(F:NF)(f L:Addr):Expr->Prop
 | .Call (.Attribute o name apos) args [] pos=>∃ pl:Sem Bool,eval (.Call (.Attribute o name apos) args [] pos) (envF F f L)=(do
   let ov ← attributeBase o name (envF F f L) (eval o (envF F f L))
   standAt apos.atName
   let (fv,first) ← holding [ov] (getMethod ov name pl)
   callWith pos fv first (backTo pos (starEach args (envF F f L))) [])
 | _=>False
section
variable{CXa:CXT}{P:Program}{w:World}{K:PySem.W.Frag}{mg:Str->Option Value}{base:Heap}{N:List Str}{F:NF}{f C cc a:Addr}{fd:FuncData}{slf:Str}{A:Around}{outer:List PySem.Env}{s0 s:Shared}{H0 H:Hp}{E:XK}{σ:L2.St}
theorem Ag9(T:ExiC P K C f cc F fd slf)(hmg:mg "super" = none)(I:Inv (ncx CXa P w K mg base N F f A outer s0 H0 E) [] σ H s)(hk:F.scope.kind=.function)(hN:N[0]? = some slf)(h0:σ[0]? = some (some (.ref a)))(ea:H a=some (exo a C none))
  {x:Str}{j:Nat}{p0 p1 p2 p3 pos:Pos}{body:List Stmt}{Q:Value->Shared->Prop}{Ex:Value->Shared->Prop}(h:∀ u s',Inv (ncx CXa P w K mg base N F f A outer s0 H0 E) [] σ H s'->Q u s')
  (he:Jm F f s0.heap.objs.size (.Call (.Attribute (.Call (.Name "super" p0) [] [] p1) "__init__" p2) [.Constant (.str x) j p3] [] pos)) :
  _root_.PySem.wpAt (model P w) (A.deeper (envF F f s0.heap.objs.size)) (.func body (envF F f s0.heap.objs.size)) (eval (.Call (.Attribute (.Call (.Name "super" p0) [] [] p1) "__init__" p2) [.Constant (.str x) j p3] [] pos) (envF F f s0.heap.objs.size)) Q Ex s:=by
 obtain ⟨nm,q,Nn,bs,bm,sn,sub,ab,col,dd,k0,k1,k2,k3,k5,hC,hbm⟩:=T.T.cls
 obtain ⟨oc,od,osl,lkf⟩:=T.lkf
 obtain ⟨ar,hp,har⟩:=T.par
 obtain ⟨ccl,cdd,vs,ccs,file,tf,lkc,hvs,hfile⟩:=T.code
 obtain ⟨cl1,cld,csl,lcc⟩:=T.cell
 obtain ⟨cd,hcd⟩:=Option.isSome_iff_exists.mp T.cls
 have X:K.In s.heap:=I.kIn
 obtain ⟨t0,ho⟩:=exo_at I.hok ea
 obtain ⟨m,hns,hl⟩:=I.loc
 obtain ⟨u,ru,lu⟩:=hl 0 slf (.ref a) hN h0 (.inl T.ka)
 obtain rfl:u=Value.ref a:=ru
 have hv:m slf=some (.ref a):=by
  rcases lu with ⟨_,e⟩ | ⟨z,_⟩
  ·exact e
  ·have ka:=T.ka
   rcases z with z | z
   ·have z:F.scope.names.lookup slf=some .cell:=z
    rw [ka] at z; cases z
   ·have z:F.scope.names.lookup slf=some .free:=z
    rw [ka] at z; cases z
 obtain ⟨oD,hD1,hD2⟩:∃ oD,s.heap.get? C=some oD/\oD.data=.cls cd:=by
  unfold PySem.W.clsIn at hcd
  split at hcd
  ·rename_i c d cd' sl ho
   cases hcd
   exact ⟨_,X _ _ ho,rfl⟩
  ·cases hcd
 have J:PySem.W.InstAt s.heap a { cls:=.ref C,dict:=none,data:=.fields #[.ref t0,.none,.none,.none,.bool false,.none] } C none:=⟨ho,rfl,rfl,trivial⟩
 have hcl:=T.cl
 obtain ⟨pl,he⟩:=he
 refine PySem.ks_wpAt_MethodCall (pl:=pl) ?_ he
 refine PySem.ks_wpAt_super_base (env:=envF F f s0.heap.objs.size) T.ks T.kc (by decide) rfl (X _ _ lkf) rfl hp rfl (X _ _ lkc) rfl hvs hfile T.top ?_
 obtain ⟨mb,b1,b2⟩:=I.mod.blt
 refine PySem.W.ks_loadName_global hk T.ks (Calls.loadGlobal_builtin (env:=envF F f s0.heap.objs.size) (I.mod.glob.keeps I.bk) hmg (b1.keeps I.bk) ((b2 _ (by decide)).trans (show bootBuiltins "super" = some (.type "super") by decide +kernel)) ⟨rfl,?_⟩)
 refine wpAny_loadName_free hk T.kc (show List.lookup _ F.cl=some cc by rw [hcl]; rfl) ⟨_,X _ _ lcc,rfl⟩ ?_
 rw [har]
 refine wpAny_loadName_local hk T.ka hns hv ?_
 refine PySem.ks_wpAny_isType_cls hD1 hD2 ⟨rfl,?_⟩
 obtain ⟨hh,g,d,t,os⟩:=s
 refine PySem.ks_wpAny_call_super hD1 hD2 J.at_ J.cls (fun c e=>nomatch e) (PySem.W.looks_mroIn X T.sub) (fun h1 e k=>?_)
 have X1:K.In h1:=X.keeps k
 have J1:PySem.W.InstAt h1 a { cls:=.ref C,dict:=none,data:=.fields #[.ref t0,.none,.none,.none,.bool false,.none] } C none:=⟨k _ _ ho,rfl,rfl,trivial⟩
 have hsup:=T.sup
 unfold PySem.W.ks_superIn at hsup
 rw [hcd] at hsup
 refine PySem.W.kxs_getMethod PySem.W.kxs_ValueError e (PySem.W.looks_opaque X1 T.opq) (l₀:=cd.mro) (fun A Q E s k q=>wpAny_bind ((PySem.W.looks_clsIn X1 hcd) A _ E s k (wpAny_pure q))) rfl X1 hsup (J1.type.andThen (PySem.W.looks_subIn X1 T.isB)) (PySem.W.ks_ne X1 J1 hcd) (by decide) ?_
 have hmw:(h1.push (PySem.W.kxs_mw "ValueError.__init__" a)).get? h1.objs.size=some (PySem.W.kxs_mw "ValueError.__init__" a):=Heap.get?_push_at rfl rfl
 have k1':∀ b o,hh.get? b=some o->(h1.push (PySem.W.kxs_mw "ValueError.__init__" a)).get? b=some o:=fun b o e=>Heap.get?_push_of_some _ (k b o e)
 refine PySem.W.kxs_callWith (i:="ValueError.__init__") (x:=a) rfl (PySem.Calls.evalArgs_plain (Calls.spliced_cons (wpAny_Constant_str (k:=j) (pos:=p3) (Calls.spliced_nil ⟨hmw,?_⟩))))
 refine Za PySem.F.excBase_ValueError (k1' _ _ (X _ _ hC)) (k1' _ _ ho) hmw (by rw [sizeLine_eq]; show 1<=16777216; omega) (fun h' t1 kk hx=>?_)
 have J2:=I.kept (h':=h1.push (PySem.W.kxs_mw "ValueError.__init__" a)) (t':=t+1+1) k1'
 have J3:=J2.write (t':=t+1+1) (x:=a) (e:=a) (o:=exo a C none) (by rw [ea]; exact True.intro) (.inl rfl) kk ⟨_,hx⟩ (exo_ok hx)
 have eu:upd H a (exo a C none)=H:=by
  funext b
  by_cases hb:b=a
  ·rw [hb,upd_same,ea]
  ·rw [upd_ne hb]
 rw [eu] at J3
 exact h _ _ J3
theorem Aha{k:Nat}{ps:List Str}{sp:Sp}{x:Str}{j:Nat}{p0 p1 p2 p3 p4 pos:Pos}{rest:List Stmt}(T:ExiC P K C f cc F fd slf)(hmg:mg "super" = none)(S:NScope N ps ["__class__"] F.scope)(hps:ps[0]? = some slf)
  (hbd:F.body=.Expr (.Call (.Attribute (.Call (.Name "super" p0) [] [] p1) "__init__" p2) [.Constant (.str x) j p3] [] pos) p4::rest)
  (he:∀ L,Jm F f L (.Call (.Attribute (.Call (.Name "super" p0) [] [] p1) "__init__" p2) [.Constant (.str x) j p3] [] pos))
  (hi:∀ L,interactive (envF F f L)=false)(hsw:∀ L,swapsWith (.Call (.Attribute (.Call (.Name "super" p0) [] [] p1) "__init__" p2) [.Constant (.str x) j p3] [] pos) none p4.line (envF F f L)=pure false)
  (len:∀ vs H Q E,sp vs H Q E->vs.length=ps.length)
  (hrest:∀ (A:Around) (outer:List PySem.Env) (s:Shared) (H:Hp) (vs:List V) (Q:VK) (E:XK),Room k (A.deeper (envF F f s.heap.objs.size))->sp vs H Q E ->
   ∃ a t,vs[0]? = some (.ref a)/\H a=some (exo a C none)/\PSs (ncx CXa P w K mg base N F f A outer s H E) rest t/\t { nx:=fun _ H'=>Q .non H',rt:=Q } (startF N vs [none]) H) :
  FnOk P w K mg base CXa (k+1) f fd ps sp:=by
 refine ⟨len,fun A outer s H args us vs Q E hr e0 hb r hsp=>?_⟩
 have hl:=len _ _ _ _ hsp
 have KX:K.In s.heap:=e0.mod.kin.keeps fun b o e=>(e0.bs b o e).1
 have lim:s.heap.NoLimit:=e0.mod.nolimit.keeps fun b o e=>(e0.bs b o e).1
 obtain ⟨oc,od,osl,lkf⟩:=T.lkf
 obtain ⟨dV,kV,doc,pm,an,ct,hfd⟩:=T.fdX
 subst hfd
 obtain ⟨cl1,cld,csl,lcc⟩:=T.cell
 have hcl:=T.cl
 have C1:CellsAt F.cl ["__class__"] [none] s.heap H:=by
  have one:∀ y c,F.cl.lookup y=some c->y = "__class__"/\c=cc:=fun y c z=>by
   rw [hcl,List.lookup_cons] at z
   cases q:(y==("__class__" : Str)) with
   | true=>rw [q] at z; cases z; exact ⟨beq_iff_eq.mp q,rfl⟩
   | false=>rw [q] at z; cases z
  refine ⟨rfl,fun y c z=>?_,fun y y' c z z'=>?_,fun i y z=>?_⟩
  ·obtain ⟨rfl,rfl⟩:=one y c z
   exact ⟨(e0.bs _ _ (e0.mod.kin _ _ lcc)).2,_,_,KX _ _ lcc,rfl⟩
  ·rw [(one y c z).1,(one y' c z').1]
  ·match i,z with
   | 0,z =>
    cases z
    refine ⟨cc,by rw [hcl]; rfl,fun v q=>by cases q⟩
   | i+1,z=>simp at z
 obtain ⟨a,t,ha0,ea,ht,hq⟩:=hrest A outer s H vs Q E (hr.deeper _) hsp
 refine PySem.ks_codeAny_call_defAt (binds:=ps.zip us) (body:=F.body) hr.depth (KX _ _ lkf) rfl lim (PySem.W.codeRec_of KX T.cdr) rfl hb S.nocell (fun ⟨n,_⟩ hy=>S.par n (List.of_mem_zip hy).1) (fun h₁ hns kp=>?_) S.co S.gen S.kind
 show _root_.PySem.wpAt _ (A.deeper (envF F f s.heap.objs.size)) (.func F.body (envF F f s.heap.objs.size)) (execs F.body (envF F f s.heap.objs.size)) _ _ _
 have I:Inv (ncx CXa P w K mg base N F f A outer s H E) [] (startF N vs [none]) H { s with heap:=h₁,toks:=s.toks+(ps.zip us).length }:=inv_startN S hr.hd e0 hl r C1 hns kp
 have hvl:0<vs.length:=by
  cases vs with
  | nil=>cases ha0
  | cons v r=>exact Nat.succ_pos _
 have hN:N[0]? = some slf:=by
  have q:=S.pre
  have:(N.take (ps.length+1))[0]? = (ps++[("__class__" : Str)])[0]?:=by rw [← S.pre]; rfl
  rw [List.getElem?_take_of_lt (by omega),List.getElem?_append_left (by omega),hps] at this
  exact this
 have h0:(startF N vs [none])[0]? = some (some (.ref a)):=by
  unfold startF
  rw [List.getElem?_append_left (by rw [List.length_map]; exact hvl),List.getElem?_map,ha0]
  rfl
 have fin:∀ {σ':L2.St} {H':Hp} {v:V} {u:Value} {s':Shared},Inv (ncx CXa P w K mg base N F f A outer s H E) [] σ' H' s'->RelV v u->Q v H'->CE outer P w H s Q u s' :=
  fun {σ' H' v u s'} J rv q=>⟨v,H',J.os,J.bare,J.base,J.hok,rv,q⟩
 rw [hbd]
 refine PySem.ks_wpAt_execs_cons (PySem.ks_wpAt_Expr_any (Ag9 T hmg I S.kind hN h0 ea (fun u s' J=>?_) (he _)) (hi _) (hsw _))
 refine wpAt_of_wpAny (wpAny_mono (ht.run [] s' _ H _ J hq) (fun fl s2 hs=>?_) fun e s2 hs=>hs)
 cases fl with
 | ret u =>
  obtain ⟨v,σ',H',J,rv,q⟩:=hs
  exact fin J rv q
 | next =>
  obtain ⟨σ',H',J,q⟩:=hs
  exact fin (v:=V.non) (u:=Value.none) J rfl q
 | brk =>
  obtain ⟨_,_,_,q⟩:=hs
  exact False.elim q
 | cont =>
  obtain ⟨_,_,_,q⟩:=hs
  exact False.elim q
end
def spX(C:Addr)(fs:List Str):Sp:=fun vs H Q _=>∃ a ys,vs=.ref a::ys/\ys.length=fs.length/\H a=some (exo a C none)/\∀ dx,H dx=none->dx≠a->Q .non (upd (upd H dx (exd dx (fs.zip ys).reverse)) a (exo a C (some dx)))
def tMkX(C:Addr)(fs:List Str)(ta:TA):L2.St->Hp->XK->Prop:=fun σ H Q=>ta σ H fun vs H1=>vs.length=fs.length/\vs.length<=1000/\∀ d,H1 d=none->Q (.ref C) (some d) (upd H1 d (.xd (fs.zip vs).reverse))
theorem Zb{C:Addr}{fs:List Str}{ta:TA}{X:Cx}{es:List Expr}{e:Expr}{pos p:Pos}{x:Str}(ha:∀ {σ H Q Q'},(∀ vs H1,Q' vs H1->Q vs H1)->ta σ H Q'->ta σ H Q)(h:PMk X (.Call (.Name x p) (e::es) [] pos) (tMkO C (spX C fs) [] ta)):PMk X (.Call (.Name x p) (e::es) [] pos) (tMkX C fs ta):=by
 refine PMk.imp h fun σ H Q q=>ha (fun vs H1 ⟨l,l2,q⟩=>⟨l2,fun a na=>?_⟩) q
 rw [List.append_nil]
 refine ⟨a,vs,rfl,l,upd_same,fun dx nd da=>⟨rfl,dx,(fs.zip vs).reverse,upd_same,by rw [upd_ne da,upd_same],?_,?_⟩⟩
 ·rw [upd_ne da] at nd; exact nd
 ·have nd1:H1 dx=none:=by rw [upd_ne da] at nd; exact nd
  have e:upd (del (upd (upd (upd H1 a (exo a C none)) dx (exd dx (fs.zip vs).reverse)) a (exo a C (some dx))) a) dx (.xd (fs.zip vs).reverse)=upd H1 dx (.xd (fs.zip vs).reverse):=by
   funext b
   by_cases hb:b=dx
   ·rw [hb,upd_same,upd_same]
   ·rw [upd_ne hb,upd_ne hb]
    by_cases hba:b=a
    ·rw [hba,del_same,na]
    ·rw [del_ne hba,upd_ne hba,upd_ne hb,upd_ne hba]
  rw [e]
  exact q dx nd1
section
variable{CXa:CXT}{P:Program}{w:World}{K:PySem.W.Frag}{mg:Str->Option Value}{base:Heap}{F:NF}{f C cc:Addr}{fd:FuncData}{slf v1 v2 f1 f2 x:Str}{j:Nat}{p0 p1 p2 p3 p4 pos q1 q2 q3 q4 r1 r2 r3 r4:Pos}
theorem exi1(T:ExiC P K C f cc F fd slf)(hmg:mg "super" = none)(S:NScope [slf,v1, "__class__"] [slf,v1] ["__class__"] F.scope)
  (hbd:F.body=[.Expr (.Call (.Attribute (.Call (.Name "super" p0) [] [] p1) "__init__" p2) [.Constant (.str x) j p3] [] pos) p4,.Assign [.Attribute (.Name slf q1) f1 q2] (.Name v1 q3) q4])
  (he:∀ L,Jm F f L (.Call (.Attribute (.Call (.Name "super" p0) [] [] p1) "__init__" p2) [.Constant (.str x) j p3] [] pos))
  (hsw:∀ L,swapsWith (.Call (.Attribute (.Call (.Name "super" p0) [] [] p1) "__init__" p2) [.Constant (.str x) j p3] [] pos) none p4.line (envF F f L)=pure false)
  (hs1:∀ L,swapsWith (.Name v1 q3) (some (.Attribute (.Name slf q1) f1 q2)) q4.line (envF F f L)=pure false)
  (hno:PySem.W.findIn K (.ref C) f1=some none)(hi:∀ L,interactive (envF F f L)=false:=by intro _; rfl)
  (n1:(slf==("__debug__" : Str))=false:=by decide)(n2:(slf==("__classdict__" : Str))=false:=by decide)(n3:(v1==("__debug__" : Str))=false:=by decide)(n4:(v1==("__classdict__" : Str))=false:=by decide) :
  FnOk P w K mg base CXa 1 f fd [slf,v1] (spX C [f1]):=by
 refine Aha (k:=0) T hmg S rfl hbd he hi hsw (fun vs H Q E ⟨a,ys,e,l,_⟩=>by rw [e,List.length_cons,l]; rfl) fun A outer s H vs Q E hr ⟨a,ys,e,l,ea,q⟩=>?_
 subst e
 match ys,l with
 | [y],_ =>
  refine ⟨a,_,rfl,ea,pss_cons (ps_ost (pe_var (i:=0) rfl (.inl (S.par _ List.mem_cons_self)) n1 n2) (pe_var (i:=1) rfl (.inl (S.par _ (List.mem_cons_of_mem _ List.mem_cons_self))) n3 n4) (hs1 _)) pss_nil,?_⟩
  refine ⟨y,rfl,.ref a,rfl,a,C,rfl,T.T,hno,.inl ⟨ea,fun dx nd da=>q dx nd da⟩⟩
end
def ExD(P:Program)(mg:Str->Option Value)(base:Heap)(g:Gm)(x:Str)(fs:List Str)(j:Nat):Prop :=
 ∃ f fd ps,mg x=some (.ref (g.ca x))/\OexC g.K (g.ca x)/\PySem.W.findIn g.K (.ref (g.ca x)) "__init__" = some (some (.ref f))/\PySem.W.typeIn g.K (.ref f)=some (.type "function") /\
  FnOk P g.w g.K mg base (L2.CX P g.w) j f fd ps (spX (g.ca x) fs)/\Binds g.K fd ps []
def Lf(x:Str)(fs:List Str)(A:M (List Rv)):M Ctl:=A.bind fun rs e=>match Cf rs with
 | some ds=>if ds.length=fs.length/\ds.length<=1000 then .er (x,(fs.zip ds).reverse) e else .no
 | none=>.no
section
variable{g:Gm}{W:WX}{k:Nat}{X:Cx}{G:Hp}
theorem RepF.app:∀ {a b:List (Str×D)} {x y:List (Str×V)},RepF g G a x->RepF g G b y->RepF g G (a++b) (x++y)
 | [],b,x,y,h,h2=>by rw [show x=[] from h]; exact h2
 | (k,d)::a,b,x,y,⟨v,r,e,h,t⟩,h2=>by rw [e]; exact ⟨v,_,rfl,h,RepF.app t h2⟩
theorem RepF.rev:∀ {a:List (Str×D)} {x:List (Str×V)},RepF g G a x->RepF g G a.reverse x.reverse
 | [],x,h=>by rw [show x=[] from h]; rfl
 | (k,d)::a,x,⟨v,r,e,h,t⟩=>by
  rw [e,List.reverse_cons,List.reverse_cons]
  exact RepF.app (RepF.rev t) ⟨v,[],rfl,h,rfl⟩
theorem Ahb{x:Str}{fs:List Str}{j:Nat}{ex:Expr}{es:List Expr}{A:M (List Rv)}{p pos pos2:Pos}(d:ExD X.prog X.mg X.base g x fs j)(hj:j+1<=k)(hg:Gl X x)(ha:VA g W k X (ex::es) A)
  (hdb:(x==("__debug__" : Str))=false:=by decide)(he:starEach (ex::es) X.env=(false,eval ex X.env)::starEach es X.env:=by rfl)(hpl:(backTo pos (starEach es X.env)).any (·.1)=false:=by rfl) :
  VS g W k X (.Raise (some (.Call (.Name x p) (ex::es) [] pos)) none pos2) (Lf x fs A):=by
 refine ⟨fun c=>?_⟩
 obtain ⟨f,fd,ps,hm,T,iC,tI,F1,hb⟩:=d
 obtain ⟨gK,gw,ca,gT,gs,gn⟩:=g
 obtain rfl:X.K=gK:=c.K
 obtain rfl:X.w=gw:=c.w
 have mono:∀ {σ H} {Q Q':List V->Hp->Prop},(∀ vs H1,Q' vs H1->Q vs H1)->TVA ⟨X.K,X.w,ca,gT,gs,gn⟩ W A σ H Q'->TVA ⟨X.K,X.w,ca,gT,gs,gn⟩ W A σ H Q:=fun {σ H Q Q'} k ⟨G,e,sr,h⟩=>⟨G,e,sr,Pst.mono h fun a G' H' e' _ z vs ok=>k vs H' (z vs ok)⟩
 refine PS.imp (ps_raise c.calm c.tk (Zb (ta:=TVA ⟨X.K,X.w,ca,gT,gs,gn⟩ W A) mono (pmk_oex T iC tI F1 ((c.room.mono hj).toRoom) hb .nil (passes_call c.tk fun _ _ _ _ z=>z.elim) hg hm (ha.run c) hdb he hpl))) fun D σ H ⟨G,e,sr,h⟩=>?_
 refine ⟨G,e,sr,Pst.mono (PstS.bindE h) fun rs G1 H1 e1 t1 h1 vs ok=>?_⟩
 cases q:Cf rs with
 | none=>rw [q] at h1; exact h1.elim
 | some ds =>
  rw [q] at h1
  by_cases hl:ds.length=fs.length/\ds.length<=1000
  ·simp only [if_pos hl] at h1
   have rp:=Nw ok q
   refine ⟨by rw [rp.len]; exact hl.1,by rw [rp.len]; exact hl.2,fun d nd=>?_⟩
   have gr:=Grow.lay2 (o:=HO.xd (fs.zip vs).reverse) t1.sr.bs nd (fun _ _ z=>nomatch z)
   refine h1 _ _ σ _ _ (gr.tr t1.sr).st ⟨rfl,.inr ⟨d,_,rfl,upd_same,?_⟩⟩
   exact (Reps.zip (rp.mono gr.le)).rev
  ·simp only [if_neg hl] at h1
   exact h1.elim
end
theorem Cau.here{g:Gm}{i:Nat}{y:Str}{a:Addr}{cls:Value}{d:Option Addr}{σ:L2.St}{G H:Hp}{fs:List (Str×D)}(c:Cau g i y a cls d σ G H fs):∃ da fv,d=some da/\H da=some (.xd fv)/\RepF g G fs fv:=by
 obtain ⟨da,fv,e,h,r⟩:=c.fld
 refine ⟨da,fv,e,?_,r⟩
 rcases c.bs.sub da _ h with z | ⟨z,_⟩
 ·exact z
 ·cases z
theorem Cau.grow{g:Gm}{i:Nat}{y:Str}{a:Addr}{cls:Value}{d:Option Addr}{σ:L2.St}{G H G' H':Hp}{fs:List (Str×D)}(c:Cau g i y a cls d σ G H fs)(w:Grow G H G' H'):Cau g i y a cls d σ G' H' fs:=by
 obtain ⟨da,fv,e,h,r⟩:=c.fld
 exact ⟨w.bs,w.sqL c.scr,c.at_,c.cls,da,fv,e,w.le _ _ h,r.mono w.le⟩
def Jn:List (Str×D)->Option (List D):=fun _=>some []
def Bq(f:List (Str×D)->Option D)(r:List (Str×D)->Option (List D)):List (Str×D)->Option (List D):=fun fs=>(f fs).bind fun d=>(r fs).map (d :: ·)
def xC(d:D):List (Str×D)->Option D:=fun _=>some d
def xF(f:Str):List (Str×D)->Option D:=fun fs=>fs.lookup f
def xApp(f:List D->Option Rv)(F:List (Str×D)->Option (List D)):List (Str×D)->Option D:=fun fs=>(F fs).bind fun ds=>match f ds with
 | some (.val d)=>some d
 | _=>none
structure VXs(g:Gm)(i:Nat)(y:Str)(X:Cx)(es:List Expr)(f:List (Str×D)->Option (List D)):Prop where
 run:X.K=g.K->X.w=g.w->X.A.guards=some []->X.A.units+64<cLine->∀ (a:Addr) (oe:Obj) (cls:Value) (d:Option Addr) (pn:List (Addr×Obj)),Zc cls d oe->(∃ vs,oe.data=.fields vs)->PA (X.suite a ((a,oe)::pn)) es (TXs g i y a cls d f)
section
variable{g:Gm}{i:Nat}{y:Str}{X:Cx}
theorem Zd:VXs g i y X [] Jn:=⟨fun _ _ _ _ _ _ _ _ _ _ _=>PA.imp pa_nil fun σ H Q ⟨G,fs,c,ds,e,q⟩=>by
 cases e
 exact q [] G H (Grow.refl c.bs) rfl⟩
theorem Jo{ex:Expr}{es:List Expr}{f:List (Str×D)->Option D}{r:List (Str×D)->Option (List D)}(h:VX g i y X ex f)(t:VXs g i y X es r)(hs:starEach (ex::es) X.env=(false,eval ex X.env)::starEach es X.env:=by rfl):VXs g i y X (ex::es) (Bq f r) :=
 ⟨fun k w gd u a oe cls d pn hz hf=>PA.imp (pa_cons (h.run k w gd u a oe cls d pn hz hf) (t.run k w gd u a oe cls d pn hz hf) hs) fun σ H Q ⟨G,fs,c,ds,e,q⟩=>by
  unfold Bq at e
  cases q1:f fs with
  | none=>rw [q1] at e; cases e
  | some d1 =>
   cases q2:r fs with
   | none=>rw [q1,q2] at e; cases e
   | some dr =>
    rw [q1,q2] at e
    cases e
    exact ⟨G,fs,c,d1,q1,fun v G1 H1 w1 rv=>⟨G1,fs,c.grow w1,dr,q2,fun vs G2 H2 w2 rvs=>q (v::vs) G2 H2 (w1.trans w2) ⟨v,vs,rfl,rv.mono w2.le,rvs⟩⟩⟩⟩
theorem vx_c{ex:Expr}{v:V}{d:D}(h:∀ Y:Cx,PE Y ex (tC v))(r:∀ G,Rep g G d v):VX g i y X ex (xC d):=⟨fun _ _ _ _ a oe cls d pn hz hf=>PE.imp (h _) fun σ H Q ⟨G,fs,c,dd,e,q⟩=>by
 cases e
 exact q v G H (Grow.refl c.bs) (r G)⟩
theorem Ze{x:Str}{l:List Nat}{j pos}(h:x=S l:=by decide +kernel)(h2:l.all (·< 1114112)=true:=by decide +kernel):VX g i y X (.Constant (.str x) j pos) (xC (.str l)):=vx_c (fun _=>pe_str) fun _=>by rw [h]; exact ⟨rfl,fun c hc=>of_decide_eq_true (List.all_eq_true.mp h2 c hc)⟩
theorem RepF.lookX{G:Hp}:∀ {fs:List (Str×D)} {fv:List (Str×V)} {f:Str} {d:D},RepF g G fs fv->fs.lookup f=some d->∃ v,fv.lookup f=some v/\Rep g G d v
 | [],fv,f,d,_,h=>by cases h
 | (k,d0)::fs,fv,f,d,⟨v,r,e,h1,h2⟩,h=>by
  rw [List.lookup_cons] at h
  rw [e,List.lookup_cons]
  cases q:(f==k) with
  | true=>rw [q] at h; cases h; exact ⟨v,rfl,h1⟩
  | false=>rw [q] at h; exact RepF.lookX h2 h
def XfD(g:Gm)(y f:Str):Prop:=XfC g.K (g.ca y)/\PySem.W.findIn g.K (.ref (g.ca y)) f=some none
theorem Zf{n f:Str}{p pos:Pos}(T:XfD g y f)(hi:X.N[i]? = some n)(hv:Vis X.env.scope n)(hb:attributeBase (.Name n p) f X.env (eval (.Name n p) X.env)=eval (.Name n p) X.env:=by rfl)(h1:(n==("__debug__" : Str))=false:=by decide)(h2:(n==("__classdict__" : Str))=false:=by decide) :
  VX g i y X (.Attribute (.Name n p) f pos) (xF f):=⟨fun k w gd u a oe cls d pn hz hf=>by
 obtain ⟨T1,T2⟩:=T
 rw [← k] at T1 T2
 refine PE.imp (pe_xf T1 T2 hz hf (pe_var (i:=i) hi hv h1 h2) hb) fun σ H Q ⟨G,fs,c,dd,e,q⟩=>?_
 obtain ⟨da,fv,ed,hd,r⟩:=c.here
 obtain ⟨v,l,rv⟩:=r.lookX e
 exact ⟨.ref a,c.at_,rfl,c.cls,da,fv,v,ed,hd,l,q v G H (Grow.refl c.bs) rv⟩⟩
def rIsX(K:PySem.W.Frag)(D a:Addr)(d:Option Addr):List V->Hp->VK->Prop:=fun xs H Q=>∃ (c:V) (cv:Value) (b:Bool) (dd:Addr) (fs:List (Str×V)),xs=[.ref a,c]/\(∀ u,RelV c u->u=cv)/\PySem.W.kitOne K (.ref D) cv=some b/\d=some dd/\H dd=some (.xd fs)/\Q (.bl b) H
theorem Zg{a D:Addr}{oe:Obj}{d:Option Addr}{pn:List (Addr×Obj)}(C:ExcC X.K D)(hz:Zc (.ref D) d oe)(hf:∃ vs,oe.data=.fields vs):CallR (X.suite a ((a,oe)::pn)) (.builtin "isinstance") (rIsX X.K D a d):=by
 intro pins s σ H xs us Q I r h
 obtain ⟨c,cv,b,dd,fs,rfl,hcv,e,ed,hd,q⟩:=h
 cases r with
 | cons rx rr =>
  cases rr with
  | cons rt rr =>
   cases rr
   cases rx
   have ec:=hcv _ rt
   subst ec
   obtain ⟨hget,_⟩:=I.pin (a,oe) (List.mem_append.mpr (.inl List.mem_cons_self))
   obtain ⟨vs,hv⟩:=hf
   have hx:ObjOk X.prog X.w H s.heap dd (.xd fs):=I.hok dd _ hd
   obtain ⟨mA,hns,hr⟩:=hx
   obtain ⟨od,ho,hl⟩:=lookIn_ns hns
   have J:PySem.W.InstAt s.heap a oe D (some od):=⟨hget,hz.1,by unfold PySem.W.notCls; rw [hv] <;> rfl,by rw [hz.2,ed]; exact ho⟩
   have hcl:(PySem.W.clsIn X.K D).isSome=true:=by
    obtain ⟨cd,hc,_⟩:=PySem.W.any_some C.hd
    rw [hc]; rfl
   exact PySem.W.kia_one (PySem.W.kitx_exc hcl C.hg C.hk C.hs C.ha C.hn C.ht C.hm) I.kIn J e (fun z=>nomatch z) fun tk=>⟨.bl b,H,I.kept (t':=tk) fun _ _ z=>z,rfl,q⟩
def IsD(mg:Str->Option Value)(g:Gm)(y c:Str)(b:Bool):Prop:=ExcC g.K (g.ca y)/\∃ C,mg c=some (.ref C)/\PySem.W.kitOne g.K (.ref (g.ca y)) (.ref C)=some b
theorem Zh{n c:Str}{b:Bool}{p p1 p2 pos:Pos}(T:IsD X.mg g y c b)(hm:X.mg "isinstance" = none)(hi:X.N[i]? = some n)(hv:Vis X.env.scope n)(hg:Gl X "isinstance":=by rfl)(hc:Gl X c:=by rfl)
  (h1:(n==("__debug__" : Str))=false:=by decide)(h2:(n==("__classdict__" : Str))=false:=by decide)(h3:(c==("__debug__" : Str))=false:=by decide)
  (he:starEach [.Name n p1,.Name c p2] X.env=(false,eval (.Name n p1) X.env)::starEach [.Name c p2] X.env:=by rfl)(he2:starEach [.Name c p2] X.env=(false,eval (.Name c p2) X.env)::starEach [] X.env:=by rfl)(hpl:(backTo pos (starEach [.Name c p2] X.env)).any (·.1)=false:=by rfl) :
  VX g i y X (.Call (.Name "isinstance" p) [.Name n p1,.Name c p2] [] pos) (xC (.bl b)):=⟨fun k w gd u a oe cls d pn hz hf=>by
 obtain ⟨T1,C,hmc,hk⟩:=T
 rw [← k] at T1 hk
 refine ⟨fun pins s σ H Q I ⟨G,fs,c,dd,e,q⟩=>?_⟩
 cases e
 obtain ⟨da,fv,ed,hd,r⟩:=c.here
 have hz':Zc (.ref (g.ca y)) d oe:=by rw [← c.cls]; exact hz
 refine (pe_callB (Zg T1 hz' hf) hg hm (by decide +kernel) (pa_cons (pe_var (i:=i) hi hv h1 h2) (pa_cons (pe_glob (v:=.ref C) hc hmc rfl h3) pa_nil he2) he) (he:=he) (hpl:=hpl)).run pins s σ H Q I ?_
 exact ⟨.ref a,c.at_,.ref C,.ref C,b,da,fv,rfl,fun u z=>z,hk,ed,hd,q _ G H (Grow.refl c.bs) rfl⟩⟩
end
def Jp(mg:Str->Option Value)(g:Gm)(x y:Str)(b:Bool):Prop:=∃ c,mg x=some c/\PySem.W.exmOne g.K (.ref (g.ca y)) c=some b
def fTry(y:Str)(outs:List Str)(i:Nat)(f:List (Str×D)->Option (List D))(B:M Ctl):M Ctl:=fun e=>match B e with
 | .er x e'=>if x.1=y/\i<e'.length/\x.2≠[] then (match f x.2 with | some ds=>if ds.length<=sizeLine then .ok (.rt (.fresh (.lst ds))) e' else .no | none=>.no) else if x.1∈outs then .er x e' else .no
 | r=>r
def ordD:List D->Option Rv
 | [.str [c]]=>some (.val (.int (c:Int)))
 | _=>none
theorem Pst.pre{α:Type}{g:Gm}{W:WX}{σ:L2.St}{G H G1 H1:Hp}{e:Ve}{R:α->Hp->Hp->Ve->Prop}{r:Res α}(t:Tr g σ G H e G1 H1 e)(h:Pst g W σ G H e R r):Pst g W σ G1 H1 e R r:=by
 cases r with
 | no=>exact h
 | er x e'=>exact fun cls d G' H' t'=>h cls d G' H' (t.trans t')
 | ok a e'=>exact fun G' H' t'=>h G' H' (t.trans t')
def T6(g:Gm)(G:Hp):List (D×D)->List (V×V)->Prop
 | [],vs=>vs=[]
 | (a,b)::r,vs=>∃ x y t,vs=(x,y)::t/\Rep g G a x/\Rep g G b y/\T6 g G r t
def TVP(g:Gm)(W:WX)(F:M (List (D×D)))(σ:L2.St)(H:Hp)(Q:List (V×V)->Hp->Prop):Prop:=∃ G e,SR g G H σ e/\Pst g W σ G H e (fun ps G' H' e'=>∀ vs,T6 g G' ps vs->Q vs H') (F e)
structure VPs(g:Gm)(W:WX)(k:Nat)(X:Cx)(pos:Pos)(keys:List (Option Expr))(values:List Expr)(F:M (List (D×D))):Prop where
 run:Cd g W k X->∃ trs,PPs X pos keys values trs/\∀ σ H Q,TVP g W F σ H Q->tPairs trs σ H Q
def Lg:M (List (D×D)):=M.ret []
def Lh(K V:M Rv)(r:M (List (D×D))):M (List (D×D)):=(Ad K).bind fun a=>(Ad V).bind fun b=>r.bind fun t e=>match a,b with
 | .val x,.val y=>.ok ((x,y)::t) e
 | _,_=>.no
def Fx:List (D×D)->Option (List (List Nat×D))
 | []=>some []
 | (.str k,d)::r=>(Fx r).map ((k,d) :: ·)
 | _=>none
def putAll(l:List (List Nat×D)):List (List Nat×D):=l.foldl (fun acc p=>Ci acc p.1 p.2) []
def Jq(F:M (List (D×D))):M Rv:=F.bind fun ps e=>match Fx ps with
 | some kvs=>if kvs.length<=15 then .ok (.fresh (.dct (putAll kvs))) e else .no
 | none=>.no
section
variable{g:Gm}{W:WX}{k:Nat}{X:Cx}{pos:Pos}
theorem Ahc:VPs g W k X pos [] [] Lg:=⟨fun _=>⟨[],pps_nil,fun σ H Q ⟨G,e,sr,h⟩=>h G H (Tr.refl sr) [] rfl⟩⟩
theorem Ahd{ke ve:Expr}{ks:List (Option Expr)}{vs:List Expr}{K V:M Rv}{F:M (List (D×D))}(hk:VE g W k X ke K)(hv:VE g W k X ve V)(hr:VPs g W k X pos ks vs F):VPs g W k X pos (some ke::ks) (ve::vs) (Lh K V F):=by
 refine ⟨fun c=>?_⟩
 obtain ⟨trs,h1,h2⟩:=hr.run c
 refine ⟨_,pps_cons ((Am hk).run c) ((Am hv).run c) h1,fun σ H Q ⟨G,e,sr,h⟩=>?_⟩
 refine ⟨G,e,sr,Pst.mono (Pst.bind h) fun a G1 H1 e1 t1 q1 x ok1=>⟨G1,e1,t1.sr,Pst.mono (Pst.bind q1) fun b G2 H2 e2 t2 q2 y ok2=>h2 σ H2 _ ⟨G2,e2,t2.sr,Pst.mono (Pst.bind q2) fun ps G3 H3 e3 t3 q3 ws ok3=>?_⟩⟩⟩
 cases a with
 | slot _=>exact q3.elim
 | fresh _=>exact q3.elim
 | val a =>
  cases b with
  | slot _=>exact q3.elim
  | fresh _=>exact q3.elim
  | val b=>exact q3 G3 H3 (Tr.refl t3.sr) ((x,y)::ws) ⟨x,y,ws,rfl,Rep.mono t3.le (Rep.mono t2.le ok1),Rep.mono t3.le ok2,ok3⟩
theorem Zi{G:Hp}:∀ {ps:List (D×D)} {vs:List (V×V)} {kvs:List (List Nat×D)},T6 g G ps vs->Fx ps=some kvs->∃ rs:List (Key×V),vs=rs.map (fun kv=>(kV kv.1,kv.2))/\rs.length=kvs.length/\∀ (acc:List (List Nat×D)) (ra:List (Key×V)),RepK g G acc ra->RepK g G (kvs.foldl (fun acc p=>Ci acc p.1 p.2) acc) (mergeK ra rs)
 | [],vs,kvs,h,q=>by cases q; exact ⟨[],h,rfl,fun acc ra r=>r⟩
 | (.str s,d)::r,vs,kvs,⟨x,y,t,e,rx,ry,rt⟩,q=>by
  unfold Fx at q
  cases q2:Fx r with
  | none=>rw [q2] at q; cases q
  | some ks =>
   rw [q2] at q
   cases q
   obtain ⟨rs,e2,l2,f2⟩:=Zi rt q2
   refine ⟨(.inr (S s),y)::rs,by rw [e,e2,rx.1]; rfl,by simp [l2],fun acc ra ra'=>?_⟩
   exact f2 _ _ (RepK.put s ra' rx.2 ry)
 | (.non,_)::_,_,_,_,q=>by cases q
 | (.bl _,_)::_,_,_,_,q=>by cases q
 | (.int _,_)::_,_,_,_,q=>by cases q
 | (.lst _,_)::_,_,_,_,q=>by cases q
 | (.tup _,_)::_,_,_,_,q=>by cases q
 | (.dct _,_)::_,_,_,_,q=>by cases q
 | (.set _,_)::_,_,_,_,q=>by cases q
 | (.ins _ _,_)::_,_,_,_,q=>by cases q
 | (.con _,_)::_,_,_,_,q=>by cases q
 | (.scr _,_)::_,_,_,_,q=>by cases q
theorem Ahe{keys:List (Option Expr)}{values:List Expr}{F:M (List (D×D))}(hp:VPs g W k X pos keys values F)(hall:keys.all (·.isSome)=true:=by rfl)(hl:keys.length=values.length:=by rfl)(h0:keys≠[]:=by intro z; cases z)(h15:keys.length<=15:=by decide):VE g W k X (.Dict keys values pos) (Jq F):=by
 refine ⟨fun c=>?_⟩
 obtain ⟨trs,h1,h2⟩:=hp.run c
 refine PE.imp (pe_disp h1 hall hl h0 h15) fun σ H Q ⟨G,e,sr,h⟩ p np=>?_
 have gr:=Grow.lay (o:=HO.dK []) sr.bs np
 have t0:=gr.tr sr
 have nr:∀ i,¬ Rt σ e i p:=fun i r=>(sr.root r).2 np
 refine h2 σ _ _ ⟨G,e,t0.sr,Pst.mono (Pst.pre t0 (Pst.bind0 h)) fun ps G1 H1 e1 t1 q1 vs ok=>?_⟩
 have hp1:H1 p=some (.dK []):=t1.keep p _ upd_same nr (fun _ z=>nomatch z)
 have gp1:G1 p=none:=t1.new p (sr.bs.hn np) (by rw [upd_same]; simp) nr
 have nr1:∀ i,¬ Rt σ e1 i p:=fun i r=>nr i (t1.ve.rt r)
 cases qk:Fx ps with
 | none=>rw [qk] at q1; exact q1.elim
 | some kvs =>
  rw [qk] at q1
  simp only at q1
  by_cases hlen:kvs.length<=15
  ·rw [if_pos hlen] at q1
   obtain ⟨rs,e2,l2,f2⟩:=Zi ok qk
   refine ⟨hp1,rs,e2,by omega,?_⟩
   have rk:=f2 [] [] rfl
   have s2:=SR.put (o:=HO.dK (mergeK [] rs)) t1.sr gp1 nr1 (fun o z=>by rw [hp1] at z; cases z; exact trivial)
   have t2:=t0.trans t1
   have t3:Tr g σ G H e G1 (upd H1 p (HO.dK (mergeK [] rs))) e1:=by
    refine ⟨s2,t2.le,fun a o ha na nt=>?_,fun a ha=>?_,t2.new,t2.ve⟩
    ·rw [upd_ne (ne_of_none ha np)]; exact t2.keep a o ha na nt
    ·by_cases z:a=p
     ·rw [z,upd_same] at ha; cases ha
     ·rw [upd_ne z] at ha; exact t2.dom a ha
   exact q1 _ _ t3 (.ref p) ⟨p,rfl,gp1,⟨mergeK [] rs,upd_same,rk⟩,np,nr1⟩
  ·rw [if_neg hlen] at q1; exact q1.elim
end
structure InT(K:PySem.W.Frag)(C:Addr):Prop where
 ha:PySem.W.findIn K (.ref C) "__class__" = some (some (.builtin "object.__class__"))
 hn:PySem.W.specialIn K (.builtin "object.__class__") "__get__" = some (some (.builtin "getset_descriptor.__get__"))
 ht:PySem.W.takesIn K (.builtin "object.__class__")=some true
 hm:PySem.W.mroIn K C (.type "object")=some true
inductive TyD(g:Gm):D->Value->Prop where
 | blt {d:D} {a:String} (h:tyN d=some a):TyD g d (.type a)
 | ins {c:Str} {fs:List (Str×D)} (h:InT g.K (g.ca c)):TyD g (.ins c fs) (.ref (g.ca c))
theorem RepH.insX{g:Gm}{G H:Hp}(bs:Bs G H){c:Str}{fs:List (Str×D)}{v:V}(h:RepH g G H (.ins c fs) v):∃ a dx vs,v=.ref a/\H a=some (.ins (g.ca c) dx vs)/\Nh g c fs:=by
 obtain ⟨a,dx,us,ev,ha,rf,io⟩:=h.ins bs
 exact ⟨a,dx,us,ev,ha,io⟩
theorem TyD.tx{g:Gm}{G H:Hp}(bs:Bs G H)(sc:SqL g.K H g.sa (g.sn.map .int)){d:D}{t:Value}{v:V}(r:RepH g G H d v)(h:TyD g d t):TyX g.K H v t:=by
 cases h with
 | blt h=>exact Yo bs sc r h
 | ins h =>
  obtain ⟨a,dx,us,rfl,ha,io⟩:=r.insX bs
  exact .base (.ins ha io.1 h.ha h.hn h.ht h.hm)
def Jr(cs:List (Str×Bool))(d:D):Option Bool:=match d with
 | .ins c _=>cs.lookup c
 | d=>if (tyN d).isSome=true then some false else none
def Li(cs:List (Str×Bool))(A:M Rv):M Rv:=A.bind fun r e=>match Ag r e with
 | some d=>(match Jr cs d with | some b=>.ok (.val (.bl b)) e | none=>.no)
 | none=>.no
def Mq:List String:=["NoneType", "bool", "int", "str", "list", "tuple", "dict"]
def Lj(mg:Str->Option Value)(g:Gm)(x:Str)(cs:List (Str×Bool)):Prop:=∃ C,mg x=some (.ref C)/\(∀ c b,(c,b)∈cs->InT g.K (g.ca c)/\PySem.W.kitOne g.K (.ref (g.ca c)) (.ref C)=some b)/\∀ a∈Mq,PySem.W.kitOne g.K (.type a) (.ref C)=some false
theorem Ahf{d:D}{a:String}(h:tyN d=some a):a∈Mq:=by
 cases d <;> cases h <;> decide
theorem Zj{α:Type}:∀ {cs:List (Str×α)} {c:Str} {b:α},cs.lookup c=some b->(c,b)∈cs
 | [],_,_,h=>by cases h
 | (k,v)::cs,c,b,h=>by
  rw [List.lookup_cons] at h
  cases q:(c==k) with
  | true=>rw [q] at h; cases h; rw [beq_iff_eq.mp q]; exact List.mem_cons_self
  | false=>rw [q] at h; exact List.mem_cons_of_mem _ (Zj h)
section
variable{g:Gm}{W:WX}{k:Nat}{X:Cx}
theorem Ahg{x:Str}{cs:List (Str×Bool)}{d:D}{b:Bool}{C:Addr}(h1:∀ c b,(c,b)∈cs->InT g.K (g.ca c)/\PySem.W.kitOne g.K (.ref (g.ca c)) (.ref C)=some b)(h2:∀ a∈Mq,PySem.W.kitOne g.K (.type a) (.ref C)=some false)(h:Jr cs d=some b):∃ t,TyD g d t/\PySem.W.kitOne g.K t (.ref C)=some b:=by
 have blt:(if (tyN d).isSome=true then some false else none)=some b->∃ t,TyD g d t/\PySem.W.kitOne g.K t (.ref C)=some b:=fun h=>by
  cases q:tyN d with
  | none=>rw [q] at h; cases h
  | some a=>rw [q] at h; cases h; exact ⟨_,.blt q,h2 a (Ahf q)⟩
 cases d with
 | ins c fs =>
  obtain ⟨i,e⟩:=h1 c b (Zj h)
  exact ⟨_,.ins i,e⟩
 | _=>exact blt h
theorem Qq{x:Str}{cs:List (Str×Bool)}{ex:Expr}{F:M Rv}{p p2 pos:Pos}(T:Lj X.mg g x cs)(hm:X.mg "isinstance" = none)(he:VE g W k X ex F)(hg:Gl X "isinstance":=by rfl)(hgx:Gl X x:=by rfl)(hdb:(x==("__debug__" : Str))=false:=by decide)
  (hs:starEach [ex,.Name x p2] X.env=(false,eval ex X.env)::starEach [.Name x p2] X.env:=by rfl)(hs2:starEach [.Name x p2] X.env=(false,eval (.Name x p2) X.env)::starEach [] X.env:=by rfl)(hpl:(backTo pos (starEach [.Name x p2] X.env)).any (·.1)=false:=by rfl) :
  VE g W k X (.Call (.Name "isinstance" p) [ex,.Name x p2] [] pos) (Li cs F):=by
 refine ⟨fun c=>?_⟩
 obtain ⟨C,hmc,h1,h2⟩:=T
 refine PE.imp (pe_callB (call_isi) hg hm (by decide +kernel) (pa_cons (he.run c) (pa_cons (pe_glob (v:=.ref C) hgx hmc rfl hdb) pa_nil hs2) hs) (he:=hs) (hpl:=hpl)) fun σ H Q ⟨G,e,sr,h⟩=>?_
 refine ⟨G,e,sr,Pst.mono (Pst.bind h) fun r G1 H1 e1 t1 q1 v ok=>?_⟩
 cases q:Ag r e1 with
 | none=>rw [q] at q1; exact q1.elim
 | some d =>
  rw [q] at q1
  simp only at q1
  cases q2:Jr cs d with
  | none=>rw [q2] at q1; exact q1.elim
  | some b =>
   rw [q2] at q1
   obtain ⟨t,ty,kt⟩:=Ahg (x:=x) h1 h2 q2
   rw [c.K]
   exact ⟨v,.ref C,t,.ref C,b,rfl,.own C,ty.tx t1.sr.bs t1.sr.scrL (Cv t1.sr ok q),kt,q1 G1 H1 (Tr.refl t1.sr) _ rfl⟩
end
def noEr{α:Type}:Res α->Res α
 | .ok a e=>.ok a e
 | _=>.no
def T7(ts:List Str):D->Bool
 | .ins c _=>ts.contains c
 | d=>(tyN d).isSome
def fEqI(T:Str->Option (List Sl->Res Rv))(ts:List Str)(A B:M Rv):M Rv:=(Ad A).bind fun a=>(Ad B).bind fun b e=>match a,b with
 | .val (.ins c fs),.val d=>(match T c with
  | some F=>if T7 ts d=true then noEr (Bj F [.val (.ins c fs),.val d] e) else .no
  | none=>.no)
 | _,_=>.no
section
variable{g:Gm}{W:WX}{k:Nat}{X:Cx}
theorem Pst.noEr{α:Type}{σ:L2.St}{G H:Hp}{e:Ve}{R:α->Hp->Hp->Ve->Prop}{r:Res α}(h:Pst g W σ G H e R (noEr r)):Pst g (fun _ _ _ _=>False) σ G H e R r:=by
 cases r with
 | no=>exact h
 | er x e'=>exact h.elim
 | ok a e'=>exact h
end
theorem Rm.in1{k:Nat}{A:Around}(r:Rm (k+1) A):Rm k A.in1:=⟨r.toRoom.in1,r.gd⟩
section
variable{g:Gm}{W:WX}{k:Nat}{X:Cx}
def notR:Res Rv->Res Rv
 | .ok (.val (.bl b)) e=>.ok (.val (.bl (!b))) e
 | _=>.no
def fNeI(T:Str->Option (List Sl->Res Rv))(ts:List Str)(A B:M Rv):M Rv:=(Ad A).bind fun a=>(Ad B).bind fun b e=>match a,b with
 | .val (.ins c fs),.val d=>(match T c with
  | some F=>if T7 ts d=true then notR (Bj F [.val (.ins c fs),.val d] e) else .no
  | none=>.no)
 | _,_=>.no
theorem Pst.notR{σ:L2.St}{G H:Hp}{e:Ve}{Q:VK}{r:Res Rv}(h:Pst g W σ G H e (fun r G' H' e'=>∀ v,RvOk g G' H' σ e' H r v->Q v H') (notR r)):Pst g (fun _ _ _ _=>False) σ G H e (fun r G' H' e'=>∀ v,RvOk g G' H' σ e' H r v->∃ b,v=.bl b/\Q (.bl (!b)) H') r:=by
 match r,h with
 | .ok (.val (.bl b)) e',h=>exact fun G' H' t v ok=>⟨b,ok,h G' H' t _ rfl⟩
 | .no,h=>exact h
 | .er _ _,h=>exact h.elim
 | .ok (.slot _) _,h=>exact h.elim
 | .ok (.fresh _) _,h=>exact h.elim
 | .ok (.val .non) _,h=>exact h.elim
 | .ok (.val (.int _)) _,h=>exact h.elim
 | .ok (.val (.str _)) _,h=>exact h.elim
 | .ok (.val (.lst _)) _,h=>exact h.elim
 | .ok (.val (.tup _)) _,h=>exact h.elim
 | .ok (.val (.dct _)) _,h=>exact h.elim
 | .ok (.val (.set _)) _,h=>exact h.elim
 | .ok (.val (.ins _ _)) _,h=>exact h.elim
 | .ok (.val (.con _)) _,h=>exact h.elim
 | .ok (.val (.scr _)) _,h=>exact h.elim
end
def strR:Res Rv->Res Rv
 | .ok (.val (.str l)) e=>.ok (.val (.str l)) e
 | _=>.no
def fStrI(T:Str->Option (List Sl->Res Rv))(A:M Rv):M Rv:=(Ad A).bind fun a e=>match a with
 | .val (.ins c fs)=>(match T c with
  | some F=>strR (Bj F [.val (.ins c fs)] e)
  | none=>.no)
 | _=>.no
section
variable{g:Gm}{W:WX}{k:Nat}{X:Cx}
theorem Pst.strR{σ:L2.St}{G H:Hp}{e:Ve}{Q:VK}{r:Res Rv}(h:Pst g W σ G H e (fun r G' H' e'=>∀ v,RvOk g G' H' σ e' H r v->Q v H') (strR r)):Pst g (fun _ _ _ _=>False) σ G H e (fun r G' H' e'=>∀ v,RvOk g G' H' σ e' H r v->∃ z,v=.str z/\Q (.str z) H') r:=by
 match r,h with
 | .ok (.val (.str l)) e',h=>exact fun G' H' t v ok=>⟨S l,ok.1,ok.1 ▸ h G' H' t v ok⟩
 | .no,h=>exact h
 | .er _ _,h=>exact h.elim
 | .ok (.slot _) _,h=>exact h.elim
 | .ok (.fresh _) _,h=>exact h.elim
 | .ok (.val .non) _,h=>exact h.elim
 | .ok (.val (.int _)) _,h=>exact h.elim
 | .ok (.val (.bl _)) _,h=>exact h.elim
 | .ok (.val (.lst _)) _,h=>exact h.elim
 | .ok (.val (.tup _)) _,h=>exact h.elim
 | .ok (.val (.dct _)) _,h=>exact h.elim
 | .ok (.val (.set _)) _,h=>exact h.elim
 | .ok (.val (.ins _ _)) _,h=>exact h.elim
 | .ok (.val (.con _)) _,h=>exact h.elim
 | .ok (.val (.scr _)) _,h=>exact h.elim
end
section
variable{g:Gm}{W:WX}{k:Nat}{X:Cx}{i j:Nat}
theorem Ahh{x y:Str}{a b:Expr}{A:M (List Rv)}{px py pt pos:Pos}{kt k2 pt2}(hi:X.N[i]? = some x)(hj:X.N[j]? = some y)(hx:Loc X.env.scope x)(hy:Loc X.env.scope y)(ha:VA g W k X [a,b] A)
  (hfx:X.fn x=true\/X.env.scope.names.lookup x=some .local:=by first | exact .inl rfl | exact .inr rfl)(hfy:X.fn y=true\/X.env.scope.names.lookup y=some .local:=by first | exact .inl rfl | exact .inr rfl)
  (hs:swapsWithSole [.Tuple [.Name x px,.Name y py] kt pt] (.Tuple [a,b] k2 pt2) pos.line X.env=pure false:=by rfl)(hw:swappedStores [.Tuple [.Name x px,.Name y py] kt pt] (.Tuple [a,b] k2 pt2) X.env=pure none:=by rfl)
  (h1:(assignEach [.Tuple [.Name x px,.Name y py] kt pt] X.env).map (·.2)=[assign (.Tuple [.Name x px,.Name y py] kt pt) X.env]:=by rfl)
  (hn:(assignEach [.Name x px,.Name y py] X.env).length=2:=by rfl)(hst:(assignEach [.Name x px,.Name y py] X.env).findIdx? (·.1)=none:=by rfl)
  (h2:(assignEach [.Name x px,.Name y py] X.env).map (·.2)=assign (.Name x px) X.env::(assignEach [.Name y py] X.env).map (·.2):=by rfl)(h3:(assignEach [.Name y py] X.env).map (·.2)=assign (.Name y py) X.env::(assignEach [] X.env).map (·.2):=by rfl) :
  VS g W k X (.Assign [.Tuple [.Name x px,.Name y py] kt pt] (.Tuple [a,b] k2 pt2) pos) (Mo i j A):=by
 refine ⟨fun c=>PS.imp (ps_asg (pe_tup (ha.run c)) (pg_tup c.calm (pgs_cons (pg_name c.nd hi hx hfx) (pgs_cons (pg_name c.nd hj hy hfy) pgs_nil h3) h2) hn hst) hs hw h1) fun D σ H ⟨G,e,sr,h⟩=>?_⟩
 refine ⟨G,e,sr,Pst.mono (PstS.bindE0 h) fun rs G1 H1 e1 t1 h1 vs rv=>?_⟩
 match rs,h1,rv with
 | [],h1,_=>exact h1.elim
 | [_],h1,_=>exact h1.elim
 | _::_::_::_,h1,_=>exact h1.elim
 | [r1,r2],h1,⟨v1,t,ev,o1,⟨v2,t',ev',o2,en,_⟩,ap⟩ =>
  subst ev ev' en
  refine ⟨by rw [sizeLine_eq]; show 2<=_; omega,fun q nq=>?_⟩
  have gr:=Grow.lay (o:=HO.tup [v1,v2]) t1.sr.bs nq
  have t2:=gr.tr t1.sr
  obtain ⟨e2,s1,h2⟩:=Qn h1
  obtain ⟨e3,s2,h3⟩:=Qn h2
  refine ⟨q,[v1,v2],rfl,.of upd_same,rfl,v1,[v2],rfl,v2,[],rfl,rfl,?_⟩
  obtain ⟨st1,k1⟩:=St.stoN (t1.trans t2).st (o1.tr t2) s1
  obtain ⟨st2,_⟩:=St.stoN st1 (k1 r2 v2 (fun d p d' er ep e' z=>ap d p er ep d' v2 (by rw [e']; exact List.mem_cons_self) z) (Yq s2) (o2.tr t2)) s2
  exact h3 _ G1 _ st2
end
end Vs
namespace Vs
open PySem PySem.Spec PyProof.Rows L2 Fw SX He NdefX
theorem Ahi{K:PySem.W.Frag}{C:Addr}(q:oexB K C=true):∃ nm q N bs bm sn sub ab col dd k0 k1 k2 k3 k5,K.lookup C=some (excClassObj nm q C N bs bm true sn sub ab col dd k0 k1 k2 k3 k5 "ValueError.__new__")/\PySem.HandSPX.refsVE bm=true:=by
 unfold oexB at q
 split at q
 ·rename_i t dd cd sl ho
  obtain ⟨q0,q⟩:=ba q
  split at q
  ·rename_i C' bm k0 k1 k2 k3 n k5 hm hs
   obtain ⟨q1,q⟩:=ba q
   obtain ⟨q2,q⟩:=ba q
   obtain ⟨q3,q⟩:=ba q
   obtain ⟨q4,q5⟩:=ba q
   have q0:=of_decide_eq_true q0
   have q1:=of_decide_eq_true q1
   have q2:=of_decide_eq_true q2
   subst q0 q1 q2
   obtain ⟨nm,bs,mro,ns,qn,hd,sn,sub,ab,col,del⟩:=cd
   dsimp only at hm q3 q4
   cases del with
   | true=>cases q3
   | false =>
    subst hm q4
    have hsl:sl = #[k0,k1,k2,k3,some (.builtin "ValueError.__new__"),k5]:=by
     obtain ⟨l⟩:=sl
     simp only at hs
     rw [hs]
    subst hsl
    exact ⟨nm,qn,ns,bs,bm,sn,sub,ab,col,dd,k0,k1,k2,k3,k5,ho,q5⟩
  ·cases q
 ·cases q
theorem xn_ok{P:Program}{K:PySem.W.Frag}{d:XnD}{slf:Str}(c:exB P.main.file d.x K=true)(e:xnW K d.x d.m=d.val)(hdm:d.m = "__init__")
  (hp:∃ ar:Arg,(d.params.posonlyargs++d.params.args).head? = some ar/\ar.arg=slf)(ks:d.scope.names.lookup ("super" : Str)=some .globalImplicit)(kc:d.scope.names.lookup ("__class__" : Str)=some .free)(ka:d.scope.names.lookup slf=some .local)(top:(P.main.scope.names.lookup ("super" : Str)).isSome=false) :
  ∃ (F:NF) (cc:Addr) (fd:FuncData) (kV doc pm:Value) (an:Option Addr) (ct:Value),fd=PySem.W.fnX "__init__" d.qual d.params d.body d.scope [("__class__",cc)] .none kV doc pm an (.ref F.c) ct/\F=⟨"__init__",d.qual,d.params,d.body,d.scope,[("__class__",cc)],F.c⟩/\ExiC P K (ga K d.x) (ma K (ga K d.x) "__init__") cc F fd slf /\
   PySem.W.findIn K (.ref (ga K d.x)) "__init__" = some (some (.ref (ma K (ga K d.x) "__init__")))/\PySem.W.typeIn K (.ref (ma K (ga K d.x) "__init__"))=some (.type "function"):=by
 unfold exB at c
 obtain ⟨c1,c⟩:=ba c
 obtain ⟨c2,c⟩:=ba c
 obtain ⟨c3,c⟩:=ba c
 obtain ⟨c4,c⟩:=ba c
 obtain ⟨c5,c⟩:=ba c
 obtain ⟨c6,c⟩:=ba c
 obtain ⟨c7,c⟩:=ba c
 obtain ⟨c8,c⟩:=ba c
 obtain ⟨c9,c⟩:=ba c
 obtain ⟨c10,c⟩:=ba c
 obtain ⟨c11,c⟩:=ba c
 obtain ⟨c12,c13⟩:=ba c
 unfold Po at c2
 have hv:d.val=(some (("__init__" : Str),d.qual,d.params,.stmts d.body,d.scope,mainGlobals,["__class__"],builtinsNs):XnW):=by unfold XnD.val; rw [hdm]
 rw [hv,hdm] at e
 unfold xnW at e
 cases q:K.lookup (ma K (ga K d.x) "__init__") with
 | none=>rw [q] at c2; cases c2
 | some o =>
  obtain ⟨oc,od,dt,osl⟩:=o
  rw [q] at c2 e
  cases dt with
  | func fd =>
   obtain ⟨f1,f2,f3,f4,f5,f6,f7,f8,f9,f10,f11,f12,f13,f14,f15⟩:=fd
   simp only at c2 e
   have e:=Option.some.inj e
   simp only [Prod.mk.injEq] at e
   obtain ⟨rfl,rfl,rfl,rfl,rfl,rfl,e7,rfl⟩:=e
   match f7,f13,f8,c2,e7 with
   | [(y,cc)],.ref c,.none,c2,e7 =>
    simp only [List.map_cons,List.map_nil,List.cons.injEq,and_true] at e7
    subst e7
    simp only at c2
    obtain ⟨d1,c2⟩:=ba c2
    obtain ⟨d2,d3⟩:=ba c2
    have cell:∃ cl cld csl,K.lookup cc=some ⟨cl,cld,.cell (some (.ref (ga K d.x))),csl⟩:=by
     split at d2
     ·rename_i a1 a2 a3 a4 h
      rw [of_decide_eq_true d2] at h
      exact ⟨_,_,_,h⟩
     ·cases d2
    have code:∃ ccl cdd vs ccs file tf,K.lookup c=some ⟨ccl,cdd,.fields vs,ccs⟩/\vs[2]? = some (.str file tf)/\((P.main.file:Str)==file)=true:=by
     split at d3
     ·rename_i a1 a2 a3 a4 h
      split at d3
      ·rename_i fl tf h2
       exact ⟨_,_,_,_,_,_,h,h2,d3⟩
      ·cases d3
     ·cases d3
    refine ⟨⟨"__init__",d.qual,d.params,d.body,d.scope,[("__class__",cc)],c⟩,cc,_,_,_,_,_,_,rfl,rfl,⟨⟨Ahi c1,eqO_ok c3,of_decide_eq_true c4,of_decide_eq_true c5,c6⟩,rfl,⟨_,_,_,q⟩,⟨_,_,_,_,_,_,rfl⟩,hp,code,d1,cell,c7,of_decide_eq_true c8,ks,kc,ka,top,eqO_ok c9,eqO_ok c10,of_decide_eq_true c11⟩,eqO_ok c12,of_decide_eq_true c13⟩
  | _=>cases c2
theorem Zk{K:PySem.W.Frag}{D:Addr}(c:Pp K D=true):ExcC K D:=by
 unfold Pp at c
 obtain ⟨c1,c⟩:=ba c
 obtain ⟨c2,c⟩:=ba c
 obtain ⟨c3,c⟩:=ba c
 obtain ⟨c4,c⟩:=ba c
 obtain ⟨c5,c⟩:=ba c
 obtain ⟨c6,c⟩:=ba c
 obtain ⟨c7,c8⟩:=ba c
 exact ⟨eqO_ok c1,eqO_ok c2,of_decide_eq_true c3,c4,eqO_ok c5,eqO_ok c6,of_decide_eq_true c7,of_decide_eq_true c8⟩
theorem Zl{y c:Str}{b:Bool}{K:PySem.W.Frag}{mg:Str->Option Value}{w:World}{Tb:LT}{sa:Addr}{sn:List Int}(hm:mg c=some (.ref (ga K c)))(h:Nk y c b K=true):IsD mg ⟨K,w,He.ga K,Tb,sa,sn⟩ y c b:=by
 obtain ⟨a,e⟩:=ba h
 exact ⟨Zk a,_,hm,of_decide_eq_true e⟩
theorem T8{x y:Str}{b:Bool}{K:PySem.W.Frag}{mg:Str->Option Value}{w:World}{Tb:LT}{sa:Addr}{sn:List Int}(hm:mg x=some (.ref (ga K x)))(h:Kh x y b K=true):Jp mg ⟨K,w,He.ga K,Tb,sa,sn⟩ x y b:=⟨_,hm,of_decide_eq_true h⟩
theorem Ua{x f:Str}{K:PySem.W.Frag}(h:noB x f K=true):PySem.W.findIn K (.ref (ga K x)) f=some none:=eqO_ok h
theorem Zm{x f:Str}{K:PySem.W.Frag}{w:World}{Tb:LT}{sa:Addr}{sn:List Int}(h:Nl x f K=true):XfD ⟨K,w,He.ga K,Tb,sa,sn⟩ x f:=by
 obtain ⟨a,b⟩:=ba h
 exact ⟨xfB_ok a,Ua b⟩
abbrev nfX(d:XnD)(cc c:Addr):NF:=⟨"__init__",d.qual,d.params,d.body,d.scope,[("__class__",cc)],c⟩
section
variable{P:Program}{w:World}{K:PySem.W.Frag}{mg:Str->Option Value}{base:Heap}{Tb:LT}{sa:Addr}{sn:List Int}{d:XnD}{slf v1 v2 f1 f2 x:Str}{j:Nat}{p0 p1 p2 p3 p4 pos q1 q2 q3 q4 r1 r2 r3 r4:Pos}
theorem xn1(c:exB P.main.file d.x K=true)(e:xnW K d.x d.m=d.val)(hdm:d.m = "__init__")(hm:mg d.x=some (.ref (ga K d.x)))(hmg:mg "super" = none)(hno:PySem.W.findIn K (.ref (ga K d.x)) f1=some none)
  (hbd:d.body=[.Expr (.Call (.Attribute (.Call (.Name "super" p0) [] [] p1) "__init__" p2) [.Constant (.str x) j p3] [] pos) p4,.Assign [.Attribute (.Name slf q1) f1 q2] (.Name v1 q3) q4])
  (hp:∃ ar:Arg,(d.params.posonlyargs++d.params.args).head? = some ar/\ar.arg=slf)(ks:d.scope.names.lookup ("super" : Str)=some .globalImplicit)(kc:d.scope.names.lookup ("__class__" : Str)=some .free)(ka:d.scope.names.lookup slf=some .local)(top:(P.main.scope.names.lookup ("super" : Str)).isSome=false)
  (S:NScope [slf,v1, "__class__"] [slf,v1] ["__class__"] d.scope)
  (he:∀ cc c f L,Jm (nfX d cc c) f L (.Call (.Attribute (.Call (.Name "super" p0) [] [] p1) "__init__" p2) [.Constant (.str x) j p3] [] pos))
  (hsw:∀ cc c f L,swapsWith (.Call (.Attribute (.Call (.Name "super" p0) [] [] p1) "__init__" p2) [.Constant (.str x) j p3] [] pos) none p4.line (envF (nfX d cc c) f L)=pure false)
  (hs1:∀ cc c f L,swapsWith (.Name v1 q3) (some (.Attribute (.Name slf q1) f1 q2)) q4.line (envF (nfX d cc c) f L)=pure false)
  (hi:∀ cc c f L,interactive (envF (nfX d cc c) f L)=false)
  (hb:∀ cc kV doc pm an cdv ct us,us.length=2->bindArgs (PySem.W.fnX "__init__" d.qual d.params d.body d.scope [("__class__",cc)] .none kV doc pm an cdv ct) ⟨us,[]⟩=pure ([slf,v1].zip us))
  (n1:(slf==("__debug__" : Str))=false:=by decide)(n2:(slf==("__classdict__" : Str))=false:=by decide)(n3:(v1==("__debug__" : Str))=false:=by decide)(n4:(v1==("__classdict__" : Str))=false:=by decide) :
  ExD P mg base ⟨K,w,He.ga K,Tb,sa,sn⟩ d.x [f1] 1:=by
 obtain ⟨F,cc,fd,kV,doc,pm,an,ct,efd,eF,T,iC,tI⟩:=xn_ok c e hdm hp ks kc ka top
 obtain ⟨F1,F2,F3,F4,F5,F6,cF⟩:=F
 simp only [NF.mk.injEq,and_true] at eF
 obtain ⟨rfl,rfl,rfl,rfl,rfl,rfl⟩:=eF
 subst efd
 exact ⟨_,_,_,hm,T.T,iC,tI,exi1 T hmg S hbd (he cc cF _) (hsw cc cF _) (hs1 cc cF _) hno (hi cc cF _) n1 n2 n3 n4,Binds.all fun us hl=>hb cc kV doc pm an _ ct us hl⟩
end
theorem Ahj{K:PySem.W.Frag}{C:Addr}(h:inTB K C=true):InT K C:=by
 obtain ⟨h1,h⟩:=ba h
 obtain ⟨h2,h⟩:=ba h
 obtain ⟨h3,h4⟩:=ba h
 exact ⟨eqO_ok h1,eqO_ok h2,of_decide_eq_true h3,of_decide_eq_true h4⟩
theorem Ahk{ts:List Str}{K:PySem.W.Frag}(h:Nm ts K=true)(t:Str)(ht:t∈ts):InT K (ga K t):=Ahj (List.all_eq_true.mp h t ht)
theorem Fm{c o m:Str}{K:PySem.W.Frag}(h:Cu c o m K=true):PySem.W.findIn K (.ref (ga K c)) m=some (some (.ref (ma K (ga K o) m)))/\PySem.W.isFn K (.ref (ma K (ga K o) m))=true:=by
 obtain ⟨a,b⟩:=ba h
 exact ⟨eqO_ok a,b⟩
theorem Ahl{K:PySem.W.Frag}{C:Addr}(a:String)(ha:a∈Mq):(Value.type a==Value.ref C)=false/\PySem.W.subIn K (.type a) (.ref C)=some false:=by
 simp only [Mq,List.mem_cons,List.not_mem_nil,or_false] at ha
 rcases ha with rfl | rfl | rfl | rfl | rfl | rfl | rfl <;> exact ⟨by kernel_rfl,by kernel_rfl⟩
theorem Ahm{K:PySem.W.Frag}{C:Addr}(h:((PySem.W.clsIn K C).isSome&&PySem.W.typeIn K (.ref C)==some (.type "type"))=true)(a:String)(ha:a∈Mq):PySem.W.kitOne K (.type a) (.ref C)=some false:=by
 obtain ⟨e1,e2⟩:=Ahl (K:=K) (C:=C) a ha
 unfold PySem.W.kitOne PySem.W.kitCls
 rw [if_neg (by rw [e1]; exact Bool.false_ne_true)]
 simp only
 rw [if_pos h,e2]
theorem Zn{x:Str}{cs:List (Str×Bool)}{K:PySem.W.Frag}{mg:Str->Option Value}{w:World}{Tb:LT}{sa:Addr}{sn:List Int}(hm:mg x=some (.ref (ga K x)))(h:Np x cs K=true)(ht:Nm (cs.map (·.1)) K=true):Lj mg ⟨K,w,He.ga K,Tb,sa,sn⟩ x cs:=by
 obtain ⟨a,b⟩:=ba h
 exact ⟨_,hm,fun c b hc=>⟨Ahk ht c (List.mem_map.mpr ⟨(c,b),hc,rfl⟩),of_decide_eq_true (List.all_eq_true.mp a (c,b) hc)⟩,fun n hn=>Ahm b n hn⟩
end Vs
namespace Fw
open PySem PySem.Spec PyProof.Rows L2
open Sem (wp)
open AutoSeq1 (wpAny_loadPart')
section
variable{prog:Program}{w:World}{A:Around}{E:Value->Shared->Prop}{s:Shared}
theorem Ahn{it l:Addr}{i:Nat}{items}{x:Value}{Q:Value->Shared->Prop}(hit:s.heap.IsTupleIter it l i)
  (hl:s.heap.IsTuple l items)(hx:items[i]? = some x)
  (hQ:∀ h',h'.IsTupleIter it l (i+1)->Heap.SameBut it s.heap h'->Q x { s with heap:=h' }) :
  wpAny (model prog w) A (Builtin.SmallTypes.nextOf (.ref it)) Q E s:=by
 obtain ⟨o,ho,hc,hd⟩:=id hit
 obtain ⟨ol,hol,_,nl,hdl⟩:=hl
 unfold Builtin.SmallTypes.nextOf
 refine wpAny_bind (wpAny_callSpecial?_slot (name:=Str.ofString "__next__") hit.typeIs F.slot_tuple_iterator_next
  (wpAny_call_entry F.slot_tuple_iterator_next hit.typeIs F.entry_tuple_iterator_next ?_ (F.args_tuple_iterator_next_1 _)))
 show wpAny _ _ (field (.ref it) 0 >>= _) _ _ s
 refine wpAny_bind (wpAny_field ho hd (x:=.ref l) rfl ?_)
 show wpAny _ _ (if (Value.ref l==Value.none)=true then _ else _) _ _ s
 rw [if_neg (show ¬ ((Value.ref l==Value.none)=true) from Bool.false_ne_true)]
 show wpAny _ _ (field (.ref it) 1 >>= _) _ _ s
 refine wpAny_bind (wpAny_field ho hd (x:=.int i 0) rfl ?_)
 show wpAny _ _ (seqItems? (.ref l) >>= _) _ _ s
 refine wpAny_bind (wpAny_seqItems hol hdl ?_)
 simp only [Int.toNat_natCast,hx]
 refine wpAny_bind (wpAny_setField ho hd (by simp) (wpAny_pure ⟨x,rfl,wpAny_pure (hQ _ ?_ (Heap.SameBut.update ..))⟩))
 exact ⟨_,Heap.get?_update_self _ ho (Obj.isFreed_of_fields (Obj.data_mapFields hd _)),(Obj.cls_mapFields ..).trans hc,by
  rw [Obj.data_mapFields hd]; simp [rawInt]⟩
theorem Zo{it l:Addr}{i:Nat}{items}{Q:Value->Shared->Prop}(hh:A.handled=none)
  (hit:s.heap.IsTupleIter it l i)(hl:s.heap.IsTuple l items)(hx:items[i]? = none)
  (hE:∀ h' e,Heap.ExtBut it s.heap h'->(∃ o,h'.get? e=some o/\o.cls=.type "StopIteration")->E (.ref e) { s with heap:=h' }) :
  wpAny (model prog w) A (Builtin.SmallTypes.nextOf (.ref it)) Q E s:=by
 obtain ⟨o,ho,hc,hd⟩:=id hit
 obtain ⟨ol,hol,_,nl,hdl⟩:=hl
 unfold Builtin.SmallTypes.nextOf
 refine wpAny_bind (wpAny_callSpecial?_slot (name:=Str.ofString "__next__") hit.typeIs F.slot_tuple_iterator_next
  (wpAny_call_entry F.slot_tuple_iterator_next hit.typeIs F.entry_tuple_iterator_next ?_ (F.args_tuple_iterator_next_1 _)))
 show wpAny _ _ (field (.ref it) 0 >>= _) _ _ s
 refine wpAny_bind (wpAny_field ho hd (x:=.ref l) rfl ?_)
 show wpAny _ _ (if (Value.ref l==Value.none)=true then _ else _) _ _ s
 rw [if_neg (show ¬ ((Value.ref l==Value.none)=true) from Bool.false_ne_true)]
 show wpAny _ _ (field (.ref it) 1 >>= _) _ _ s
 refine wpAny_bind (wpAny_field ho hd (x:=.int i 0) rfl ?_)
 show wpAny _ _ (seqItems? (.ref l) >>= _) _ _ s
 refine wpAny_bind (wpAny_seqItems hol hdl ?_)
 simp only [Int.toNat_natCast,hx]
 refine wpAny_bind (wpAny_rule (wpAny_bind (wpAny_setField ho hd (by simp) ?_)))
 show wpAny _ _ (newExc (.type "StopIteration") [] >>= _) _ _ _
 refine wpAny_bind ?_
 simp only [newExc,newTuple]
 refine wpAny_bind (wpAny_newObj_type ?_ (by size_fits))
 refine wpAny_bind (m:=firstArgMember _ _) (wpAny_of_eq (a:=Value.none) (by first | rfl | (simp only [firstArgMember]; rfl)) ?_)
 refine wpAny_newObj_type ?_ (by size_fits)
 simp only [raiseNew]
 refine wpAny_bind (wpAny_handled ?_)
 first | rw [show A.in1.handled=none from hh] | rw [hh]
 refine wpAny_bind (wpAny_pure (wpAny_throw ?_))
 exact hE _ _ (((Heap.SameBut.update ..).extBut.push _).push _) ⟨_,Heap.get?_push_size _ rfl,rfl⟩
end
theorem Zp{prog:Program}{w:World}{A:Around}(hh:A.handled=none)(it l:Addr)(hne:l≠it)(items:Array Value) :
  Draws prog w A it [it,l] items.size (fun i v=>items[i]? = some v) (fun i h=>h.IsTupleIter it l i/\h.IsTuple l items) where
 live:=fun _ _ st=>let ⟨o,ho,_⟩:=st.1; ⟨o,ho⟩
 frame:=fun _ _ _ st hk=>⟨let ⟨o,ho,r⟩:=st.1; ⟨o,hk it (by simp) o ho,r⟩,let ⟨o,ho,r⟩:=st.2; ⟨o,hk l (by simp) o ho,r⟩⟩
 item:=fun i s Q E hi st hQ=>by
  refine Ahn st.1 st.2 (x:=items[i]) (by simp [hi]) fun h' hit' hs'=>?_
  exact hQ _ h' s.toks (by simp [hi]) ⟨hit',st.2.extBut hs'.extBut hne⟩ hs'
 done:=fun s Q E st hE=>Zo hh st.1 st.2 (by simp) hE
theorem Aho(l:Addr)(items:Array Value)(n:Nat)(dct:Option Addr)(sl:Array (Option Value)) :
  Meets (Builtin.«enumerate.__new__» ⟨[.type "enumerate",.ref l],[]⟩) (fun _ R s=>s.heap.get? l=some { cls:=.type "tuple",dict:=dct,data:=.seq items n,slots:=sl } /\
   R (.ok (.ret (.ref (s.heap.push { cls:=.type "tuple_iterator",data:=.fields #[.ref l,.int 0 0] }).objs.size)))
    { s with heap:=(s.heap.push { cls:=.type "tuple_iterator",data:=.fields #[.ref l,.int 0 0] }).push { cls:=.type "enumerate",data:=.fields #[.none,.bool false,.ref s.heap.objs.size,rawInt 0,.none,.none] } }) :=
 .of_wp fun prog w A R s h=>by
  obtain ⟨hp,g,d,tk,os⟩:=s; obtain ⟨hl,h⟩:=h
  have hsub:=sub_enumerate
  have hL:Heap.IsTuple (Shared.heap ⟨hp,g,d,tk,os⟩) l items:=⟨_,hl,rfl,n,rfl⟩
  wp_walk using wpAny_loadPart' hl
  refine wpAny_stack_any fun st=>wpAny_pure ?_
  split
  ·rename_i c _ _ _ _ _
   cases (c==Value.type "enumerate")
   ·wp_walk using wpAny_loadPart' hl,wpAny_pyIter_tuple hL
    exact ⟨_,rfl,h⟩
   ·wp_walk using wpAny_loadPart' hl,wpAny_pyIter_tuple hL
    exact ⟨_,rfl,h⟩
  ·wp_walk using wpAny_loadPart' hl,wpAny_pyIter_tuple hL
   exact ⟨_,rfl,h⟩
section
variable{prog:Program}{w:World}{A:Around}{E:Value->Shared->Prop}{s:Shared}
theorem Ahp{l:Addr}{items:Array Value}{Q:Value->Shared->Prop}(hL:s.heap.IsTuple l items)
  (h:∀ h',IsEnum h' (s.heap.objs.size+1) s.heap.objs.size 0 .none->h'.IsTupleIter s.heap.objs.size l 0->h'.objs.size=s.heap.objs.size+2 ->
   (∀ b o,s.heap.get? b=some o->h'.get? b=some o)->Q (.ref (s.heap.objs.size+1)) { s with heap:=h' }) :
  wpAny (model prog w) A (call (.type "enumerate") [.ref l]) Q E s:=by
 obtain ⟨⟨c,dct,dt,sl⟩,hl,hc,n,hd⟩:=hL
 replace hc:c=.type "tuple":=hc
 replace hd:dt=.seq items n:=hd
 subst hc hd
 refine callType_new F.called_enumerate (by decide) (F.typeCall_enumerate_1 _) (F.newCall_enumerate_1 _) (fun obj=>F.args_object_init_2 obj _) F.entry_enumerate_new
  (Aho l items n dct sl) ⟨hl,?_⟩
 have hz:(s.heap.push { cls:=.type "tuple_iterator",data:=.fields #[.ref l,.int 0 0] }).objs.size=s.heap.objs.size+1:=Heap.size_push ..
 show _/\_
 rw [hz]
 have he:IsEnum ((s.heap.push { cls:=.type "tuple_iterator",data:=.fields #[.ref l,.int 0 0] }).push
   { cls:=.type "enumerate",data:=.fields #[.none,.bool false,.ref s.heap.objs.size,rawInt 0,.none,.none] }) (s.heap.objs.size+1) s.heap.objs.size 0 .none:=by
  have:=Heap.get?_push_size (s.heap.push { cls:=.type "tuple_iterator",data:=.fields #[.ref l,.int 0 0] })
   (o:={ cls:=.type "enumerate",data:=.fields #[.none,.bool false,.ref s.heap.objs.size,rawInt 0,.none,.none] }) rfl
  rw [hz] at this; exact this
 refine ⟨⟨_,he,rfl⟩,h _ he ⟨_,Heap.get?_push_of_some _ (Heap.get?_push_size _ rfl),rfl,rfl⟩ (by rw [Heap.size_push,hz]) fun b o x=>Heap.get?_push_of_some _ (Heap.get?_push_of_some _ x)⟩
end
def IteT(K:PySem.W.Frag)(a:Addr):It :=
 ⟨fun i H=>∃ (xs:List V) (x:V),SqT K H a xs/\xs[i]? = some x,fun i H v H'=>∃ T x,v=.ref T/\H T=none/\H'=upd H T (.tup [.int (i:Nat),x])/\∀ xs,SqT K H a xs->xs[i]? = some x,fun i H=>∃ xs:List V,SqT K H a xs/\xs.length=i⟩
theorem Ahq{P:Program}{w:World}{K:PySem.W.Frag}{elts:List Expr}{kk:Nat}{tpos:Pos}(a e it:Addr) :
  Turn P w K (.Tuple elts kk tpos) (IteT K a) [e,it] e (fun i h=>(∃ old,IsEnum h e it ((i:Nat):Int) old)/\h.IsTupleIter it a i/\e≠it/\a≠it) where
 mem:=by simp
 obj:=fun i h st b hb=>by
  obtain ⟨⟨old,he⟩,⟨o,ho,hc,hd⟩,_⟩:=st
  have e':b=e\/b=it:=by simpa using hb
  rcases e' with z | z
  ·rw [z]; exact ⟨_,he,fun v q=>nomatch q⟩
  ·rw [z]; exact ⟨o,ho,fun v q=>by rw [hd] at q; cases q⟩
 keep:=fun i h h' st k=>let ⟨⟨old,he⟩,⟨o,ho,r⟩,hne⟩:=st; ⟨⟨old,k e (by simp) _ he⟩,⟨o,k it (by simp) o ho,r⟩,hne⟩
 item:=by
  intro X hP hw hK hc i pins s σ H E I hf st hg
  subst hP hw hK
  obtain ⟨⟨old,he⟩,hit,hne,hna⟩:=st
  obtain ⟨xs,x,hq,hx⟩:=hg
  obtain ⟨its,rv,p,hz⟩:=I.tuple hq
  obtain ⟨u,hu,ru⟩:=rv.get hx
  have hel:e<s.heap.objs.size:=Heap.lt_size he
  have hil:it<s.heap.objs.size:=by obtain ⟨_,q,_⟩:=hit; exact Heap.lt_size q
  have D:=Zp (prog:=X.prog) (w:=X.w) (A:=X.A.in1) (I.ok.hd hc) it a hna its.toArray
  have hae:e≠a:=fun z=>by
   have hp:s.heap.IsTuple a its.toArray:=p
   obtain ⟨o,ho,hcl,_⟩:=hp
   rw [← z,he] at ho
   cases ho
   exact absurd (Value.type.inj hcl) (by decide)
  have hi:i<its.toArray.size:=by
   have:=List.getElem?_eq_some_iff.mp hu
   obtain ⟨q,_⟩:=this
   simpa using q
  refine wpAny_pyNext_enum_itemD D he ⟨hit,p⟩ hi hne (by simp [hne,hae]) fun v h' tk hv ho hit' hT hsz hk=>?_
  obtain rfl:v=u:=by
   have:its.toArray[i]? = some u:=by simpa using hu
   rw [this] at hv
   exact (Option.some.inj hv).symm
  refine ⟨_,rfl,wpAny_letOwnedTupleGo_enum (s:={ s with heap:=h',toks:=tk+1 }) ho fun h'' he' sb=>?_⟩
  have hT2:h''.get? s.heap.objs.size=some { cls:=.type "tuple",data:=.seq #[.int i tk,v] }:=(sb.2 _ (Nat.ne_of_gt hel)).trans hT
  have new:ObjOk X.prog X.w (upd H s.heap.objs.size (.tup [.int (i:Nat),x])) h'' s.heap.objs.size (.tup [.int (i:Nat),x]) :=
   ⟨by show 2<=sizeLine; decide,[.int i tk,v],.cons ⟨_,rfl⟩ (.cons ru .nil),⟨_,hT2,rfl,_,rfl⟩⟩
  have I1:Inv X pins σ (upd H s.heap.objs.size (.tup [.int (i:Nat),x])) { s with heap:=h'',toks:=tk+1 } :=
   I.turnedNew (ch:=[e,it]) (fun b ob hb q=>(sb.2 b (fun z=>hb (by simp [z]))).trans (hk b ob (fun z=>hb (by simp [z])) (fun z=>hb (by simp [z])) q)) hf (Nat.le_refl _) new
  refine ⟨.ref s.heap.objs.size,_,I1,rfl,⟨_,x,rfl,I.hok.fresh (Nat.le_refl _),rfl,fun ys hy=>by rw [I.tuple_inj hy hq]; exact hx⟩,⟨⟨v,?_⟩,?_,hne,hna⟩,fun b hb=>?_⟩
  ·have e1:((i+1:Nat):Int)=(i:Int)+1:=by omega
   rw [e1]; exact he'
  ·obtain ⟨o,q,r⟩:=hit'.1
   exact ⟨o,(sb.2 it (Ne.symm hne)).trans q,r⟩
  ·have hb':b<s.heap.objs.size:=by
    have e':b=e\/b=it:=by simpa using hb
    rcases e' with z | z
    ·rw [z]; exact hel
    ·rw [z]; exact hil
   rw [upd_ne (Nat.ne_of_lt hb')]
   exact (hf b hb).1
 done:=by
  intro X hP hw hK hc i pins s σ H E I hf st hg
  subst hP hw hK
  obtain ⟨⟨old,he⟩,hit,hne,hna⟩:=st
  obtain ⟨xs,hq,hx⟩:=hg
  obtain ⟨its,rv,p,hz⟩:=I.tuple hq
  have D:=Zp (prog:=X.prog) (w:=X.w) (A:=X.A.in1) (I.ok.hd hc) it a hna its.toArray
  obtain ⟨f0,f1,f2,f3,f4,f5⟩:=hf it (by simp)
  have hl:=rv.length
  have ei:i=its.toArray.size:=by simp; omega
  have st2:s.heap.IsTupleIter it a its.toArray.size/\s.heap.IsTuple a its.toArray:=⟨ei ▸ hit,p⟩
  exact wpAny_pyNext_enum_endD D he st2 fun h' eb=>⟨rfl,I.turned (t':=s.toks) (fun b o hb q=>eb b o hb q) f0 f1 f3 f4 f5⟩
 self:=fun A i s Q E st h=>let ⟨⟨_,he⟩,_⟩:=st; wpAny_pyIter_enum he h
def Zq(K:PySem.W.Frag)(ta:TA):TI:=fun σ H R=>ta σ H fun vs H1=>∃ a xs,vs=[.ref a]/\SqT K H1 a xs/\R (IteT K a) H1
theorem enumT{X:Cx}{e:Expr}{ta:TA}{p pos tpos:Pos}{elts:List Expr}{kk:Nat}(hm:X.mg "enumerate" = none)(ha:PA X [e] ta)(hg:Gl X "enumerate":=by rfl)(hs:starEach [e] X.env=[(false,eval e X.env)]:=by rfl) :
  PI X (.Tuple elts kk tpos) (.Call (.Name "enumerate" p) [e] [] pos) (Zq X.K ta):=by
 refine ⟨fun pins s σ H R I h=>?_⟩
 refine Call_ (ld_blt I hg hm boot_enumerate (PyProof.Rows.callWith_type1 (thn (ha.run pos pins s σ H _ I h) fun us s1 ⟨vs,H1,I1,r1,q1⟩=>?_) hs rfl))
 obtain ⟨a,xs,ex,hq,q⟩:=q1
 subst ex
 cases r1 with
 | cons r rr =>
  cases rr
  cases r
  obtain ⟨its,rv,p',hz⟩:=I1.tuple hq
  have p'':s1.heap.IsTuple a its.toArray:=p'
  have hna:a≠s1.heap.objs.size:=by
   obtain ⟨o,ho,_⟩:=p''
   exact Nat.ne_of_lt (Heap.lt_size ho)
  refine Ahp p'' fun h' he hit hsz hk=>wpAny_pyIter_enum he ?_
  have I2:Inv X pins σ H1 { s1 with heap:=h' }:=I1.kept (t':=s1.toks) hk
  refine ⟨s1.heap.objs.size+1,[s1.heap.objs.size+1,s1.heap.objs.size],_,_,H1,rfl,I2,Ahq a (s1.heap.objs.size+1) s1.heap.objs.size,⟨⟨.none,he⟩,hit,Nat.succ_ne_self _,hna⟩,fun b hb=>?_,q⟩
  have e':b=s1.heap.objs.size+1\/b=s1.heap.objs.size:=by simpa using hb
  have hle:s1.heap.objs.size<=b:=by
   rcases e' with z | z
   ·rw [z]; exact Nat.le_add_right _ _
   ·rw [z]; exact Nat.le_refl _
  exact I1.fpOk hle (I1.hok.fresh hle)
end Fw
namespace Fw
open PySem PySem.Spec PyProof.Rows L2
open Builtin Builtin.Str Builtin.Int Builtin.Float
def padS(n:Nat)(x:Int):Str:=⟨(List.replicate (n-(toString x).length) 32++(toString x).toList.map Char.toNat).toArray⟩
end Fw
namespace Vs
open PySem PySem.Spec PyProof.Rows L2 Fw SX
def Mr(A:M Rv):M (List D):=(Ad A).bind fun r e=>match r with
 | .val (.tup ds)=>.ok (Cj 0 ds) e
 | _=>.no
section
variable{g:Gm}{W:WX}{k:Nat}{X:Cx}{G H:Hp}{a:Addr}{vs:List V}{ds:List D}
theorem Ahr(hs:SqT g.K G a vs)(r:Reps g G ds vs):ItOk g G H (IteT g.K a) (Cj 0 ds):=by
 have hl:=r.len
 refine ⟨fun i G' H' le bs _ hi=>?_,fun G' H' le bs _=>?_,fun i G' H' x H'' le bs _ hi y=>?_⟩
 ·rw [Jj] at hi
  exact ⟨vs,vs[i]'(by omega),bs.sqT (le.sqT hs),List.getElem?_eq_getElem _⟩
 ·exact ⟨vs,bs.sqT (le.sqT hs),by rw [Jj,hl]⟩
 ·obtain ⟨T,u,ex,nT,eH,hy⟩:=y
  subst ex eH
  obtain ⟨d,hd,rd⟩:=r.at (hy vs (bs.sqT (le.sqT hs)))
  have gr:=Grow.lay2 (o:=HO.tup [.int (i:Nat),u]) bs nT (fun _ _ z=>nomatch z)
  refine ⟨.tup [.int ((0+i:Nat):Int),d],_,Qm 0 i ds d hd,gr,T,_,rfl,.of upd_same,⟨.int (i:Nat),[u],rfl,by show _=_; rw [Nat.zero_add],⟨u,[],rfl,(rd.mono le).mono gr.le,rfl⟩⟩⟩
theorem Zr{ex:Expr}{A:M Rv}{p pos tpos:Pos}{elts:List Expr}{kk:Nat}(hm:X.mg "enumerate" = none)(ha:VE g W k X ex A)(hg:Gl X "enumerate":=by rfl)(hs:starEach [ex] X.env=[(false,eval ex X.env)]:=by rfl):VI g W k X (.Tuple elts kk tpos) (.Call (.Name "enumerate" p) [ex] [] pos) (Mr A):=by
 refine ⟨fun c=>?_⟩
 have pa:PA X [ex] (tCons (TV g W (Ad A)) tNil):=pa_cons ((Am ha).run c) pa_nil hs
 have pl:PI X (.Tuple elts kk tpos) (.Call (.Name "enumerate" p) [ex] [] pos) (Zq g.K (tCons (TV g W (Ad A)) tNil)):=c.K ▸ enumT hm pa hg hs
 refine PI.imp pl fun σ H R ⟨G,e,sr,q⟩=>?_
 unfold Mr M.bind at q
 cases qa:Ad A e with
 | no=>rw [qa] at q; exact q.elim
 | er x e'=>rw [qa] at q; exact ⟨G,e,sr,by rw [qa]; exact q⟩
 | ok r e1 =>
  rw [qa] at q
  match r with
  | .slot _=>exact q.elim
  | .fresh _=>exact q.elim
  | .val d =>
   match d with
   | .tup ds =>
    refine ⟨G,e,sr,?_⟩
    rw [qa]
    intro G1 H1 t v rp
    obtain ⟨a,vs,ev,sq,rps⟩:=rp
    exact ⟨a,vs,by rw [ev],t.sr.bs.sqT sq,q G1 H1 t _ (Ahr sq rps)⟩
   | .lst _=>exact q.elim
   | .str _=>exact q.elim
   | .non=>exact q.elim
   | .bl _=>exact q.elim
   | .int _=>exact q.elim
   | .dct _=>exact q.elim
   | .set _=>exact q.elim
   | .ins _ _=>exact q.elim
   | .con _=>exact q.elim
   | .scr _=>exact q.elim
end
def padD(k n:Nat):List Nat:=(padS k (n:Int)).cps.toList
def fPad(k:Nat)(A:M Rv):M Rv:=A.bind fun r e=>match r with
 | .val (.int i)=>if 0<=i/\i<260 then .ok (.val (.str (padD k i.toNat))) e else .no
 | _=>.no
def Zs(T:Str->Option (List Sl->Res Rv))(m:Str)(O:M Rv)(A B:M (List Rv)):M Rv:=O.bind fun o e0=>match Ag o e0 with
 | some (.ins c fs)=>if (fs.lookup m).isNone=true then (match T c with
  | some F=>(A.bind fun rs=>B.bind fun zs=>Bj F (o::(rs++zs))) e0
  | none=>.no) else .no
 | _=>.no
theorem Ahs:∀ {l:List Sl} {dd:List D},Ht l=some dd->∀ j:Nat,¬ Ge l[j]?:=by
 intro l
 induction l with
 | nil=>intro dd _ j z; simp at z; exact z
 | cons a r ih =>
  intro dd h j
  cases a with
  | sh d =>
   simp only [Ht] at h
   cases q:Ht r with
   | none=>rw [q] at h; cases h
   | some dd' =>
    cases j with
    | zero=>exact fun z=>z
    | succ j=>simpa using ih q j
  | _=>cases h
def Oj(m:Nat)(as:List Sl):Res Rv->Res Rv
 | .ok r as'=>.ok r (as'.take m++as.drop m)
 | .er x as'=>.er x (as'.take m++as.drop m)
 | .no=>.no
theorem Aht{g:Gm}{m np n:Nat}{B:M Ctl}{as:List Sl}{vs vt:List V}{ds et:List D}{G H G1 H1:Hp}{Q:VK}{E:XK}(ok:as.all Gz=true)(sr:SR g G H (vs.map some) as)(hm:m<=as.length)(qs:Ht (as.drop m)=some ds)(gr:Grow G H G1 H1)(rt1:Reps g G1 et vt)(hn:m+et.length=np)
  (h:Pst g (WR E) (vs.map some) G H as (fun r G' H' e'=>∀ v,RvNew g G' H' H r v->Q v H') (Oj m as (fnF np n B (as.take m++et.map Sl.sh)))):spV g np (fnF np n B) (vs.take m++vt) H1 Q E:=by
 have hl:as.length=vs.length:=by rw [sr.len,List.length_map]
 have lt1:vt.length=et.length:=rt1.len
 have sr1:=sr.grow gr
 have lw:(vs.take m).length=m:=by rw [List.length_take]; omega
 have la:(as.take m).length=m:=by rw [List.length_take]; omega
 have on:∀ i:Nat,i<m->(as.take m++et.map Sl.sh)[i]? = as[i]?/\((vs.take m++vt).map some)[i]? = (vs.map some)[i]?:=fun i hi=>by
  refine ⟨by rw [List.getElem?_append_left (by omega),List.getElem?_take_of_lt hi],?_⟩
  rw [List.getElem?_map,List.getElem?_map,List.getElem?_append_left (by omega),List.getElem?_take_of_lt hi]
 have off:∀ i:Nat,m<=i->(as.take m++et.map Sl.sh)[i]? = (et[i-m]?).map Sl.sh/\((vs.take m++vt).map some)[i]? = (vt[i-m]?).map some:=fun i hi=>by
  refine ⟨by rw [List.getElem?_append_right (by omega),la,List.getElem?_map],?_⟩
  rw [List.getElem?_map,List.getElem?_append_right (by omega),lw]
 have noR:∀ i:Nat,m<=i->¬ Ge (as.take m++et.map Sl.sh)[i]?:=fun i hi z=>by
  rw [(off i hi).1] at z
  cases q:et[i-m]? with
  | none=>rw [q] at z; exact z
  | some d=>rw [q] at z; exact z
 have rt:∀ i q,Rt ((vs.take m++vt).map some) (as.take m++et.map Sl.sh) i q->i<m/\Rt (vs.map some) as i q:=fun i q r=>by
  obtain ⟨r1,r2⟩:=r
  rcases Nat.lt_or_ge i m with hi | hi
  ·rw [(on i hi).1] at r1; rw [(on i hi).2] at r2; exact ⟨hi,r1,r2⟩
  ·exact (noR i hi r1).elim
 have rt':∀ i q,Rt (vs.map some) as i q->Rt ((vs.take m++vt).map some) (as.take m++et.map Sl.sh) i q:=fun i q r=>by
  have hi:i<m:=by
   rcases Nat.lt_or_ge i m with hi | hi
   ·exact hi
   ·exfalso
    obtain ⟨r1,_⟩:=r
    have e0:as[i]? = (as.drop m)[i-m]?:=by rw [List.getElem?_drop]; congr 1; omega
    rw [e0] at r1
    exact Ahs qs _ r1
  exact ⟨by rw [(on i hi).1]; exact r.1,by rw [(on i hi).2]; exact r.2⟩
 have sr2:SR g G1 H1 ((vs.take m++vt).map some) (as.take m++et.map Sl.sh):=by
  refine ⟨sr1.bs,sr1.tabs,sr1.scr,by rw [List.length_map,List.length_append,List.length_append,la,lw,List.length_map,lt1],fun i=>?_,fun i j q a b=>sr1.inj i j q (rt i q a).2 (rt j q b).2⟩
  rcases Nat.lt_or_ge i m with hi | hi
  ·rw [(on i hi).1,(on i hi).2]; exact sr1.slot i
  ·rw [(off i hi).1,(off i hi).2]
   cases q:vt[i-m]? with
   | none =>
    have:et[i-m]? = none:=by
     rw [List.getElem?_eq_none_iff] at q ⊢
     omega
    rw [this]
    trivial
   | some v =>
    obtain ⟨d,hd,rd⟩:=rt1.at q
    rw [hd]
    exact ⟨v,rfl,rd⟩
 have back:∀ {G' H':Hp} {as':List Sl},Tr g ((vs.take m++vt).map some) G1 H1 (as.take m++et.map Sl.sh) G' H' as'->Tr g (vs.map some) G H as G' H' (as'.take m++as.drop m):=fun {G' H' as'} t=>by
  have la':as'.length=m+et.length:=by rw [t.ve.len]; simp [la]
  have lt':(as'.take m).length=m:=by rw [List.length_take]; omega
  have lo:∀ i:Nat,i<m->(as'.take m++as.drop m)[i]? = as'[i]?:=fun i hi=>by rw [List.getElem?_append_left (by omega),List.getElem?_take_of_lt hi]
  have hi':∀ i:Nat,m<=i->(as'.take m++as.drop m)[i]? = as[i]?:=fun i hi=>by rw [List.getElem?_append_right (by omega),lt',List.getElem?_drop]; congr 1; omega
  have rtb:∀ i q,Rt (vs.map some) (as'.take m++as.drop m) i q->Rt ((vs.take m++vt).map some) as' i q:=fun i q r=>by
   rcases Nat.lt_or_ge i m with hi | hi
   ·obtain ⟨r1,r2⟩:=r
    rw [lo i hi] at r1
    exact ⟨r1,by rw [(on i hi).2]; exact r2⟩
   ·exfalso
    obtain ⟨r1,r2⟩:=r
    rw [hi' i hi] at r1
    have:=(rt i q (rt' i q ⟨r1,r2⟩)).1
    omega
  refine ⟨⟨t.sr.bs,t.sr.tabs,t.sr.scr,by simp [lt',hl]; omega,fun i=>?_,fun i j q a b=>t.sr.inj i j q (rtb i q a) (rtb j q b)⟩,gr.le.trans t.le,fun a o h n nt=>t.keep a o (gr.keep a o h) (fun i r=>n i (rt i a r).2) nt,fun a h=>gr.dom a (t.dom a h),fun a x y n=>?_,⟨by simp [lt']; omega,fun i s hs=>?_⟩⟩
  ·rcases Nat.lt_or_ge i m with hi | hi
   ·rw [lo i hi,← (on i hi).2]; exact t.sr.slot i
   ·rw [hi' i hi]
    have sl:=sr.slot i
    cases q:as[i]? with
    | none=>trivial
    | some s =>
     rw [q] at sl
     cases s with
     | un=>trivial
     | sh d=>obtain ⟨v,ev,r⟩:=sl; exact ⟨v,ev,(r.mono gr.le).mono t.le⟩
     | bf d=>obtain ⟨v,ev,r⟩:=sl; exact ⟨v,ev,(r.mono gr.le).mono t.le⟩
     | lo d =>
      exfalso
      have:=List.all_eq_true.mp ok _ (List.mem_of_getElem? q)
      cases this
     | ow d =>
      exfalso
      obtain ⟨p',ev,_⟩:=sl
      have:=(rt i p' (rt' i p' ⟨by rw [q]; trivial,ev⟩)).1
      omega
     | bo d =>
      exfalso
      obtain ⟨p',ev,_⟩:=sl
      have:=(rt i p' (rt' i p' ⟨by rw [q]; trivial,ev⟩)).1
      omega
  ·exact t.new a (gr.new a x y) (fun z=>y (gr.dom a z)) fun i r=>n i (rt i a r).2
  ·rcases Nat.lt_or_ge i m with hi | hi
   ·obtain ⟨s',h1,h2⟩:=t.ve.at_ i s (by rw [(on i hi).1]; exact hs)
    exact ⟨s',by rw [lo i hi]; exact h1,h2⟩
   ·exact ⟨s,by rw [hi' i hi]; exact hs,SlLe.refl s⟩
 refine ⟨by simp [lw,lt1]; omega,_,_,?_,sr2,?_⟩
 ·rw [List.all_append]
  have:(as.take m).all Gz=true:=List.all_eq_true.mpr fun a ha=>List.all_eq_true.mp ok a (List.mem_of_mem_take ha)
  rw [this]
  simp [Gz]
 ·revert h
  unfold Oj
  cases fnF np n B (as.take m++et.map Sl.sh) with
  | no=>exact fun h=>h
  | er x as'=>exact fun h cls d G' H' t xo=>h cls d G' H' (back t) xo
  | ok r as'=>exact fun h G' H' t v nw=>h G' H' (back t) v (Agt gr.dom nw)
def Fy(m nk:Nat)(dd:List D)(F:List Sl->Res Rv)(as:List Sl):Res Rv:=if m+nk<=as.length then (match Ht (as.drop m) with
 | some ds=>if ds.length-nk<=sizeLine then Oj m as (F (as.take m++(ds.drop (ds.length-nk)++(dd++[D.tup (ds.take (ds.length-nk))])).map Sl.sh)) else .no
 | none=>.no) else .no
theorem Zt{g:Gm}{m nk np n:Nat}{B:M Ctl}{dd:List D}{dvs vs:List V}{H:Hp}{Q:VK}{E:XK}(hd:∀ G,Reps g G dd dvs)(hn:m+(nk+(dd.length+1))=np)(h:spR g (Fy m nk dd (fnF np n B)) vs H Q E) :
  ∃ ws rest zs,vs=ws++(rest++zs)/\ws.length=m/\zs.length=nk/\rest.length<=sizeLine/\∀ p,H p=none->spV g np (fnF np n B) (ws++(zs++(dvs++[V.ref p]))) (upd H p (.tup rest)) Q E:=by
 obtain ⟨G,as,ok,sr,h⟩:=h
 have hl:as.length=vs.length:=by rw [sr.len,List.length_map]
 unfold Fy at h
 by_cases hm:m+nk<=as.length
 ·rw [if_pos hm] at h
  cases qs:Ht (as.drop m) with
  | none=>rw [qs] at h; exact h.elim
  | some ds =>
   rw [qs] at h
   simp only at h
   by_cases hz:ds.length-nk<=sizeLine
   ·rw [if_pos hz] at h
    have rps:Reps g G ds (vs.drop m):=Yt (m:=m) (σ:=vs.map some) (es:=as) (fun i=>by rw [List.getElem?_drop]) (fun i=>by rw [List.getElem?_drop,List.getElem?_map]) (by simp [hl]) sr qs
    have ld:(vs.drop m).length=ds.length:=rps.len
    have ld2:ds.length=as.length-m:=by rw [← ld,List.length_drop,hl]
    refine ⟨vs.take m,(vs.drop m).take (ds.length-nk),(vs.drop m).drop (ds.length-nk),by rw [List.take_append_drop,List.take_append_drop],by rw [List.length_take]; omega,by rw [List.length_drop,ld]; omega,by rw [List.length_take]; omega,fun p np'=>?_⟩
    have gr:=Grow.lay2 (o:=HO.tup ((vs.drop m).take (ds.length-nk))) sr.bs np' (fun _ _ z=>nomatch z)
    refine Aht ok sr (by omega) qs gr (et:=ds.drop (ds.length-nk)++(dd++[D.tup (ds.take (ds.length-nk))])) ?_ (by simp; omega) h
    exact ((rps.drop _).mono gr.le).append ((hd _).append ⟨_,[],rfl,⟨p,_,rfl,.of upd_same,(rps.take _).mono gr.le⟩,rfl⟩)
   ·rw [if_neg hz] at h; exact h.elim
 ·rw [if_neg hm] at h; exact h.elim
section
variable{P:Program}{w:World}{K:PySem.W.Frag}{mg:Str->Option Value}{base:Heap}{g:Gm}
def Ub(K:PySem.W.Frag)(fd:FuncData)(ps:List Str)(pv:Str)(m:Nat)(ks:List Str)(mv:List Value):Prop :=
 ∀ (P:Program) (w:World) (A:Around) (Q:List (Str×Value)->Shared->Prop) (Ex:Value->Shared->Prop) (s:Shared) (us rest ws:List Value),K.In s.heap->us.length=m->ws.length=ks.length ->
  wpAny (model P w) A (newTuple rest >>= fun t=>pure (ps.zip (us++(ws++mv))++[(pv,t)])) Q Ex s->wpAny (model P w) A (bindArgs fd ⟨us++rest,ks.zip ws⟩) Q Ex s
theorem Ahu{ca:Str->Addr}{Tb:LT}{sa:Addr}{sn:List Int}{x qual pv:Str}{params:Arguments}{body:List Stmt}{scope:Scope}{kws:List (Str×V)}{f:Addr}{fd:FuncData}{N ps ks:List Str}{k m np:Nat}{B:M Ctl}{dd:List D}{dvs:List V}{mv:List Value}
  (F:FunD K x qual params body scope [] kws f fd)(S:FnScope N (ps++[pv]) scope)(hd:∀ G,Reps ⟨K,w,ca,Tb,sa,sn⟩ G dd dvs)(hv:Vals dvs mv)(hp:ps.length=m+(ks.length+dd.length))(hnp:np=ps.length+1)(hbd:Ub K fd ps pv m ks mv)
  (hb:∀ (cdv:Value) (A:Around) (outer:List PySem.Env) (s:Shared) (H:Hp) (E:XK),VSs ⟨K,w,ca,Tb,sa,sn⟩ (WR E) k (cxOf (L2.CX P w) P w K mg base N qual scope f cdv A outer s H E) body B) :
  FnK P w K mg base (L2.CX P w) (k+1) f ks (spR ⟨K,w,ca,Tb,sa,sn⟩ (Fy m ks.length dd (fnF np N.length B))):=by
 obtain ⟨oc,od,dV,kV,doc,pm,an,cdv,ct,osl,rfl,lk,hcd,hD,_⟩:=F.ex
 intro A outer s H us ws vs zs Q E hr e0 rv rz hl hs
 have lz0:zs.length=ks.length:=by rw [← hl]; exact rz.length
 have ldv:dvs.length=dd.length:=(hd (fun _=>none)).len
 have lmv:mv.length=dd.length:=by rw [← ldv]; exact hv.length.symm
 obtain ⟨xs,rest,zs',ev,lx,lzz,lr,hq⟩:=Zt hd (by omega) hs
 rw [← List.append_assoc] at ev
 obtain ⟨ev2,ez2⟩:=List.append_inj' ev (by rw [lz0,lzz])
 subst ev2 ez2
 obtain ⟨u1,u2,eu,r1,r2⟩:=StX.vals_split rv
 subst eu
 have free:H s.heap.objs.size=none:=e0.hok.fresh (Nat.le_refl _)
 have l1:u1.length=m:=by rw [← r1.length]; exact lx
 have l2:u2.length<=sizeLine:=by rw [← r2.length]; exact lr
 refine StX.run_bnd lk hcd S hr.toRoom e0 (G:=fun vs2 H2=>∃ p,H p=none/\vs2=xs++(zs++(dvs++[V.ref p]))/\H2=upd H p (.tup rest)) (fun A' Ex Q' h=>?_) fun s2 H2 vs2 q hr'=>?_
 ·refine hbd P w A' Q' Ex s u1 u2 ws (e0.mod.kin.keeps fun b o e=>(e0.bs b o e).1) l1 hl ?_
  have un:=StX.un_laid (fs:=frs outer) (s:=s) (o:=({ cls:=.type "tuple",data:=.seq u2.toArray }:Obj)) (u:=.tup rest) free
  have nw:ObjOk P w (upd H s.heap.objs.size (.tup rest)) (s.heap.push ({ cls:=.type "tuple",data:=.seq u2.toArray }:Obj)) s.heap.objs.size (.tup rest):=⟨by rw [r2.length]; exact l2,u2,r2,⟨_,Heap.get?_push_size _ rfl,rfl,_,rfl⟩⟩
  have z:=h _ _ (xs++(zs++(dvs++[V.ref s.heap.objs.size]))) (u1++(ws++(mv++[Value.ref s.heap.objs.size]))) (StX.env0_laid e0 nw) un rfl (fun e s'=>StX.cxUp outer s H _ _ E e s' un (fun b o q=>Heap.get?_push_of_some _ q) rfl) (r1.append (rz.append (hv.append (.cons rfl .nil)))) (by simp [lx,lz0,ldv,hp]; omega) ⟨_,free,rfl,rfl⟩
  have ez:(ps++[pv]).zip (u1++(ws++(mv++[Value.ref s.heap.objs.size])))=ps.zip (u1++(ws++mv))++[(pv,Value.ref s.heap.objs.size)]:=by
   rw [show u1++(ws++(mv++[Value.ref s.heap.objs.size]))=(u1++(ws++mv))++[Value.ref s.heap.objs.size] by simp,List.zip_append (by simp [l1,hl,lmv,hp])]
   rfl
  rw [ez] at z
  exact wpAny_bind (wpAny_newTuple (wpAny_pure z) l2)
 ·obtain ⟨p,hp',ev,eH⟩:=q
  subst ev eH
  exact Ys ⟨rfl,rfl,rfl,takes_of rfl rfl rfl rfl,⟨hr',hr.gd⟩,passes_of rfl,S.nd⟩ (hb cdv A outer s2 _ E) (hq p hp')
theorem Ahv{x qual pv q:Str}{v:V}{params:Arguments}{body:List Stmt}{scope:Scope}{f:Addr}{fd:FuncData}{ps:List Str}{m:Nat}(F:FunD K x qual params body scope [] [(q,v)] f fd)
  (h:∀ (D:Addr) (doc pm:Value) (an:Option Addr) (cdv ct:Value) (us rest:List Value) (u:Value),us.length=m->∃ (β γ:Type) (k1:Option Value->Sem β) (k2:β->Sem γ) (k3:γ->Sem (List (Str×Value))) (a:β),bindArgs (PySem.W.fnOf x qual params body scope .none (.ref D) doc pm an cdv ct) ⟨us++rest,[]⟩=((nsGet D q >>= k1) >>= k2) >>= k3/\k1 (some u)=pure a/\(k2 a >>= k3)=(newTuple rest >>= fun t=>pure (ps.zip (us++[u])++[(pv,t)]))):∃ u,RelV v u/\Ub K fd ps pv m [] [u]:=by
 obtain ⟨oc,od,dV,kV,doc,pm,an,cdv,ct,osl,rfl,lk,hcd,hD,hK⟩:=F.ex
 obtain rfl:dV=.none:=by
  rcases hD with ⟨_,h⟩ | ⟨h,_⟩
  ·exact h
  ·exact absurd rfl h
 rcases hK with e | ⟨D,rfl,hq⟩
 ·cases e
 ·obtain ⟨u,e1,e2⟩:=hq (q,v) (List.mem_cons_self ..)
  refine ⟨u,e2,fun P w A Q Ex s us rest ws X hu hw z=>?_⟩
  obtain rfl:ws=[]:=List.eq_nil_of_length_eq_zero hw
  obtain ⟨β,γ,k1,k2,k3,a,h1,h2,h3⟩:=h D doc pm an cdv ct us rest u hu
  show wpAny _ _ (bindArgs _ ⟨us++rest,[]⟩) _ _ _
  rw [h1,bind_assoc]
  have l1:PySem.W.Looks (model P w) s.heap (nsGet D q >>= k1) a:=(PySem.W.looks_nsIn X e1).andThen (PySem.W.Looks.of_pure h2)
  refine wpAny_bind (l1.here ?_)
  rw [h3]
  exact z
theorem Ahw{ca:Str->Addr}{Tb:LT}{sa:Addr}{sn:List Int}{x qual pv:Str}{params:Arguments}{body:List Stmt}{scope:Scope}{kws:List (Str×V)}{f:Addr}{fd:FuncData}{N ps:List Str}{k m np:Nat}{B:M Ctl}{d:D}{v:V}
  (F:FunD K x qual params body scope [] kws f fd)(S:FnScope N (ps++[pv]) scope)(hd:∀ G,Reps ⟨K,w,ca,Tb,sa,sn⟩ G [d] [v])(hp:ps.length=m+1)(hnp:np=ps.length+1)(hbd:∃ u,RelV v u/\Ub K fd ps pv m [] [u])
  (hb:∀ (cdv:Value) (A:Around) (outer:List PySem.Env) (s:Shared) (H:Hp) (E:XK),VSs ⟨K,w,ca,Tb,sa,sn⟩ (WR E) k (cxOf (L2.CX P w) P w K mg base N qual scope f cdv A outer s H E) body B) :
  FnK P w K mg base (L2.CX P w) (k+1) f [] (spR ⟨K,w,ca,Tb,sa,sn⟩ (Fy m 0 [d] (fnF np N.length B))):=by
 obtain ⟨u,r,b⟩:=hbd
 exact Ahu (ks:=[]) (dvs:=[v]) (mv:=[u]) F S hd (.cons r .nil) (by rw [hp]; simp) hnp b hb
end
section
variable{g:Gm}{G H G1 H1 G2 H2:Hp}{σ σ1 σ2:L2.St}{e e1 e2:Ve}{vs is vs1:List Nat}{Da:Addr}{acc:List V}{ys:List D}
theorem Lp.grow(l:Lp g G H σ e vs Da σ1 acc ys G1 H1 e1)(gr:Grow G1 H1 G2 H2):Lp g G H σ e vs Da σ1 acc ys G2 H2 e1 :=
 ⟨l.st.trans (gr.tr l.st.sr).st,l.vo,l.un,l.wp,gr.keep _ _ l.hD,gr.new _ l.nD (by rw [l.hD]; exact fun z=>nomatch z),l.rp.mono gr.le,l.nr⟩
theorem Lp.tr(l:Lp g G H σ e vs Da σ1 acc ys G1 H1 e1)(t:Tr g σ1 G1 H1 e1 G2 H2 e2):Lp g G H σ e vs Da σ1 acc ys G2 H2 e2:=by
 have at_:∀ (j:Nat) (s:Sl),e2[j]? = some s->∃ s0,e1[j]? = some s0/\SlLe s0 s:=fun j s h=>by
  have hl:j<e1.length:=by rw [← t.ve.len]; exact C7 h
  obtain ⟨s',h',le⟩:=t.ve.at_ j e1[j] (List.getElem?_eq_getElem hl)
  rw [h] at h'; cases h'
  exact ⟨_,List.getElem?_eq_getElem hl,le⟩
 refine ⟨l.st.trans t.st,l.vo.trans t.ve.off,fun j hj s h=>?_,l.wp,t.keep _ _ l.hD l.nr (fun ps z=>nomatch z),t.new _ l.nD (by rw [l.hD]; exact fun z=>nomatch z) l.nr,l.rp.mono t.le,fun i r=>?_⟩
 ·obtain ⟨s0,h0,le⟩:=at_ j s h
  rcases l.un j hj s0 h0 with z | ⟨d',z⟩
  ·rw [z] at le; exact .inl le
  ·rw [z] at le; exact .inr ⟨d',le⟩
 ·obtain ⟨r1,r2⟩:=r
  cases q:e2[i]? with
  | none=>rw [q] at r1; exact r1
  | some s =>
   rw [q] at r1
   obtain ⟨s0,h0,le⟩:=at_ i s q
   exact l.nr i ⟨by rw [h0]; exact Pn le r1,r2⟩
theorem Lp.app(l:Lp g G H σ e vs Da σ1 acc ys G1 H1 e1)(h0:H Da=none){d:D}{v:V}(r:Rep g G1 d v):Lp g G H σ e vs Da σ1 (acc++[v]) (ys++[d]) G1 (upd H1 Da (.lst (acc++[v]))) e1 :=
 ⟨l.st.putNew h0 l.nD l.nr (fun o z=>by rw [l.hD] at z; cases z; trivial),l.vo,l.un,l.wp,upd_same,l.nD,l.rp.append ⟨v,[],rfl,r,rfl⟩,l.nr⟩
theorem Zu(hv:∀ i∈vs1,i∈vs):wipe (wipe σ1 vs1) vs=wipe σ1 vs:=Nj (wipe_length σ1 vs1) fun j hj=>wipe_out fun z=>hj (hv j z)
theorem Lp.wiped(l:Lp g G H σ e vs Da σ1 acc ys G1 H1 e1)(hv:∀ i∈vs1,i∈vs):Lp g G H σ e vs Da (wipe σ1 vs1) acc ys G1 H1 (Ap e1 vs1):=by
 have un:∀ j∈vs,∀ s,(Ap e1 vs1)[j]? = some s->s=.un\/∃ d,s=.sh d:=fun j hj s h=>by
  by_cases hm:j∈vs1
  ·have hl:j<e1.length:=by rw [← Ft vs1]; exact C7 h
   rw [Jg hl hm] at h
   cases h; exact .inl rfl
  ·rw [Ep hm] at h
   exact l.un j hj s h
 refine ⟨l.st.wiped fun j hj=>⟨(fun d' z=>by rcases l.un j (hv j hj) _ z with y | ⟨_,y⟩ <;> cases y),(fun s fx z=>by rcases l.un j (hv j hj) _ z with y | ⟨_,y⟩ <;> rw [y] at fx <;> cases fx)⟩,
  l.vo.trans ⟨Ft vs1,fun j s n h=>⟨s,by rw [Ep fun z=>n (hv j z)]; exact h,SlLe.refl s⟩⟩,un,by rw [Zu hv,l.wp],l.hD,l.nD,l.rp,fun i r=>?_⟩
 obtain ⟨r1,r2⟩:=r
 obtain ⟨h1,h2⟩:=wipe_some r2
 rw [Ep h2] at r1
 exact l.nr i ⟨r1,h1⟩
theorem Lp.fz(l:Lp g G H σ e vs Da σ1 acc ys G1 H1 e1)(t:Tr g σ1 G1 H1 e1 G2 H2 e2):Fz H1 H2:=t.st.fz l.st.sr
end
end Vs
namespace Vs
open PySem PySem.Spec PyProof.Rows L2 Fw SX He NdefX
theorem Ahx{K:PySem.W.Frag}{l:FarD}(e:L4 K (l.p K)=l.d.val)(c:farB l K=true):∃ u,FunD K l.d.name l.d.qual l.d.params l.d.body l.d.scope (l.d.dvs K) (l.d.kws K) (l.p K) u:=by
 obtain ⟨kp,c⟩:=ba c
 unfold L4 at e
 cases lk:K.lookup (l.p K) with
 | none =>
  rw [lk] at e
  exact nomatch e
 | some o =>
  obtain ⟨oc,od,dt,sl⟩:=o
  rw [lk] at e c
  cases dt with
  | func u =>
   obtain ⟨m1,m2,m3,m4,m5,m6,m7,m8,m9,m10,m11,m12,m13,m14,m15⟩:=u
   have e:=Option.some.inj e
   obtain ⟨c1,c⟩:=ba c
   obtain ⟨c2,c3⟩:=ba c
   simp only [Prod.mk.injEq] at e
   obtain ⟨rfl,rfl,rfl,rfl,rfl,rfl,rfl,rfl⟩:=e
   exact ⟨_,⟨oc,od,m8,m9,m10,m11,m12,m13,m14,sl,rfl,lk,c1,dflB_ok c2,kwdB_ok c3⟩,kp⟩
  | _=>exact nomatch c
theorem Ahy{xs:List Str}{fs:List (PySem.W.Frag->Addr)}{ex:Ex}{fa:List Fa}{fn:List DefD}{tf:List Defn}{xn:List XnD}{fr:List FarD}{g:Addr->Option Obj}{s:Shared}(h:∀ a,g a=s.heap.get? a):Pq xs fs ex fa fn tf xn fr g=(Wa xs fs ex fa fn tf xn fr).obs s:=by
 obtain rfl:g=s.heap.get?:=funext h
 rfl
end Vs
namespace Vs
open PySem PySem.Spec PyProof.Rows L2 Fw SX NdefX
section
variable{g:Gm}{i:Nat}{y:Str}{X:Cx}
def Ms(g:Gm)(y:Str)(T:String)(b:Bool):Prop:=ExcC g.K (g.ca y)/\PySem.W.kitOne g.K (.ref (g.ca y)) (.type T)=some b
theorem Zv{n c:Str}{T:String}{b:Bool}{p p1 p2 pos:Pos}(hT:Ms g y T b)(hmc:X.mg c=none)(hvc:bootBuiltins c=some (.type T))(hm:X.mg "isinstance" = none)(hi:X.N[i]? = some n)(hv:Vis X.env.scope n)(hg:Gl X "isinstance":=by rfl)(hc:Gl X c:=by rfl)
  (h1:(n==("__debug__" : Str))=false:=by decide)(h2:(n==("__classdict__" : Str))=false:=by decide)(h3:(c==("__debug__" : Str))=false:=by decide)(h4:c≠"__name__":=by decide)
  (he:starEach [.Name n p1,.Name c p2] X.env=(false,eval (.Name n p1) X.env)::starEach [.Name c p2] X.env:=by rfl)(he2:starEach [.Name c p2] X.env=(false,eval (.Name c p2) X.env)::starEach [] X.env:=by rfl)(hpl:(backTo pos (starEach [.Name c p2] X.env)).any (·.1)=false:=by rfl) :
  VX g i y X (.Call (.Name "isinstance" p) [.Name n p1,.Name c p2] [] pos) (xC (.bl b)):=⟨fun k w gd u a oe cls d pn hz hf=>by
 obtain ⟨T1,hk⟩:=hT
 rw [← k] at T1 hk
 refine ⟨fun pins s σ H Q I ⟨G,fs,c,dd,e,q⟩=>?_⟩
 cases e
 obtain ⟨da,fv,ed,hd,r⟩:=c.here
 have hz':Zc (.ref (g.ca y)) d oe:=by rw [← c.cls]; exact hz
 refine (pe_callB (Zg T1 hz' hf) hg hm (by decide +kernel) (pa_cons (pe_var (i:=i) hi hv h1 h2) (pa_cons (pe_bltn (v:=.ty T) hc hmc hvc rfl h4 h3) pa_nil he2) he) (he:=he) (hpl:=hpl)).run pins s σ H Q I ?_
 exact ⟨.ref a,c.at_,.ty T,.type T,b,da,fv,rfl,fun u z=>z,hk,ed,hd,q _ G H (Grow.refl c.bs) rfl⟩⟩
end
end Vs
namespace Vs
open PySem PySem.Spec PyProof.Rows L2 Fw SX He NdefX
theorem Zw{y:Str}{T:String}{b:Bool}{K:PySem.W.Frag}{w:World}{Tb:LT}{sa:Addr}{sn:List Int}(h:Nr y T b K=true):Ms ⟨K,w,He.ga K,Tb,sa,sn⟩ y T b:=by
 obtain ⟨a,e⟩:=ba h
 exact ⟨Zk a,of_decide_eq_true e⟩
end Vs
namespace Vs
open PySem PySem.Spec PyProof.Rows L2 Fw SX NdefX
structure OexL(K:PySem.W.Frag)(C:Addr):Prop where
 ini:PySem.W.excInitIn K C leT "LookupError.__new__" = true
 ovr:PySem.W.excOver K C leT=true
 dct:PySem.W.hasDictIn K C=true
 sa:PySem.W.findIn K (.ref C) "__setattr__" = some (some (.builtin "object.__setattr__"))
 exC:PySem.W.subIn K (.ref C) (.type "BaseException")=some true
 tyC:PySem.W.typeIn K (.ref C)=some (.type "type")
 kC:PySem.W.keepIn K (.ref C)=true
section
variable{X:Cx}{pins:List (Addr×Obj)}{σ:L2.St}{H:Hp}{s:Shared}{a C dx:Addr}{f:Str}{y:V}{u:Value}{fs:List (Str×V)}{Q:Unit->Shared->Prop}{E:Value->Shared->Prop}{A:Around}
theorem Zx{K:PySem.W.Frag}(hno:PySem.W.findIn K (.ref C) f=some none):PySem.W.takerIn K C f=some none:=by
 unfold PySem.W.takerIn
 rw [hno]
 rfl
theorem Ahz(T:OexL X.K C)(I:Inv X pins σ H s)(ea:H a=some (exo a C none))(hno:PySem.W.findIn X.K (.ref C) f=some none)(ry:RelV y u)
  (go:∀ d' s',H d'=none->d'≠a->Inv X pins σ (upd (upd H d' (exd d' [(f,y)])) a (exo a C (some d'))) s'->Q () s'):wpAny (model X.prog X.w) A (setAttr (.ref a) f u) Q E s:=by
 obtain ⟨t1,hget⟩:=exo_at I.hok ea
 obtain ⟨cd,hcd,hdi⟩:=PySem.W.any_some T.dct
 obtain ⟨hp,gg,dd,tt,os⟩:=s
 refine PySem.W.set_plain I.kIn (od:=none) ⟨hget,rfl,rfl,trivial⟩ T.sa ?_
 refine PySem.W.osa_openX (od:=none) PySem.F.store_LookupError I.kIn ⟨hget,rfl,rfl,trivial⟩ T.ovr (Zx hno) fun _=>?_
 refine wpAny_bind (wpAny_pure (wpAny_bind (PySem.W.instanceDict_exc hget (PySem.W.looks_clsIn I.kIn hcd) hdi ?_)))
 have nA:a≠hp.objs.size:=Nat.ne_of_lt (Heap.lt_size hget)
 have g0:(hp.push (PySem.W.dictOf [] 0)).get? a=some { cls:=.ref C,dict:=none,data:=.fields #[.ref t1,.none,.none,.none,.bool false,.none] }:=Heap.get?_push_of_some _ hget
 have n0:(hp.push (PySem.W.dictOf [] 0)).Ns hp.objs.size (fun _=>none):=⟨_,#[],_,Heap.get?_push_size _ rfl,rfl,fun e he=>absurd he (by simp),fun _=>rfl⟩
 have g1:=Heap.get?_update_self (fun o:Obj=>{ o with dict:=some hp.objs.size }) g0 rfl
 have g2:∀ b,b≠a->((hp.push (PySem.W.dictOf [] 0)).update a fun o=>{ o with dict:=some hp.objs.size }).get? b=(hp.push (PySem.W.dictOf [] 0)).get? b:=fun b hb=>Heap.get?_update_ne _ _ _ _ hb
 have n1:((hp.push (PySem.W.dictOf [] 0)).update a fun o=>{ o with dict:=some hp.objs.size }).Ns hp.objs.size (fun _=>none):=⟨_,#[],_,(g2 _ nA.symm).trans (Heap.get?_push_size _ rfl),rfl,fun e he=>absurd he (by simp),fun _=>rfl⟩
 show wpAny _ _ (PySem.Builtin.ObjectAttr.storeInDict hp.objs.size _ f u) _ _ _
 refine PySem.HandSPX.store_in_new n1 fun h' tk' hn' hs=>?_
 have J1:=I.laid (t':=tt) (h':=hp.push (PySem.W.dictOf [] 0)) (a:=hp.objs.size) (o:=exd hp.objs.size []) (fun b o q=>Heap.get?_push_of_some _ q) (Nat.le_refl _) (exd_ok (Heap.Ns1.of_empty n0) fun _=>True.intro)
 have nd:H hp.objs.size=none:=I.hok.fresh (Nat.le_refl _)
 have J2:=J1.write (t':=tt) (h':=(hp.push (PySem.W.dictOf [] 0)).update a fun o=>{ o with dict:=some hp.objs.size }) (x:=a) (e:=a) (o:=exo a C (some hp.objs.size)) (by rw [upd_ne nA,ea]; exact True.intro) (.inl rfl) (fun b o hb q=>(g2 b hb).trans q) ⟨_,g1⟩ (exo_ok g1)
 have J3:=J2.write (t':=tk') (h':=h') (x:=hp.objs.size) (e:=hp.objs.size) (o:=exd hp.objs.size [(f,y)]) (by rw [upd_ne nA.symm,upd_same]; exact True.intro) (.inl rfl) (fun b o hb q=>(hs.2 b hb).trans q) (by
  obtain ⟨o,_,_,q,_⟩:=hn'
  exact ⟨o,q⟩) (exd_ok hn' (relO_put (fs:=[]) ry fun _=>True.intro))
 refine go hp.objs.size _ nd nA.symm ?_
 have eu:upd (upd (upd H hp.objs.size (exd hp.objs.size [])) a (exo a C (some hp.objs.size))) hp.objs.size (exd hp.objs.size [(f,y)])=upd (upd H hp.objs.size (exd hp.objs.size [(f,y)])) a (exo a C (some hp.objs.size)):=by
  funext b
  by_cases h1:b=a
  ·rw [h1,upd_ne nA,upd_same,upd_same]
  ·by_cases h2:b=hp.objs.size
   ·rw [h2,upd_same,upd_ne nA.symm,upd_same]
   ·rw [upd_ne h2,upd_ne h1,upd_ne h2,upd_ne h1,upd_ne h2]
 rw [eu] at J3
 exact J3
theorem Ah0(T:OexL X.K C)(I:Inv X pins σ H s)(ea:H a=some (exo a C (some dx)))(ed:H dx=some (exd dx fs))(hl:fs.length<=900)(hno:PySem.W.findIn X.K (.ref C) f=some none)(ry:RelV y u)
  (go:∀ s',Inv X pins σ (upd H dx (exd dx ((f,y)::fs))) s'->Q () s'):wpAny (model X.prog X.w) A (setAttr (.ref a) f u) Q E s:=by
 obtain ⟨t1,hget⟩:=exo_at I.hok ea
 obtain ⟨mA,hns,rel⟩:=exd_at I.hok ed
 obtain ⟨cd,hcd,hdi⟩:=PySem.W.any_some T.dct
 obtain ⟨hp,gg,dd,tt,os⟩:=s
 obtain ⟨oD,_,_,hoD,_,_⟩:=hns.count (within_of rel)
 refine PySem.W.set_plain I.kIn (od:=some oD) ⟨hget,rfl,rfl,hoD⟩ T.sa ?_
 refine PySem.W.osa_openX (od:=some oD) PySem.F.store_LookupError I.kIn ⟨hget,rfl,rfl,hoD⟩ T.ovr (Zx hno) fun _=>?_
 refine wpAny_bind (wpAny_pure (wpAny_bind (wpAny_bind (wpAny_loadPart hget (wpAny_bind ((PySem.W.looks_clsIn I.kIn hcd).at ?_))))))
 rw [hdi]
 refine wpAny_pure (a:=some dx) ?_
 refine PySem.OEX.store_in_old hns (within_of rel) (by rw [List.length_map]; omega) fun h' tk' hn' hs=>?_
 exact go _ (I.write (t':=tk') (x:=dx) (e:=dx) (o:=exd dx ((f,y)::fs)) (by rw [ed]; exact True.intro) (.inl rfl) (fun b o hb q=>(hs.2 b hb).trans q) (by
  obtain ⟨o,_,_,q,_⟩:=hn'
  exact ⟨o,q⟩) (exd_ok hn' (relO_put ry rel)))
end
def tOsL(K:PySem.W.Frag)(f:Str)(to te:TE):TS:=fun D σ H=>te σ H fun y H1=>to σ H1 fun x H2=>∃ a C:Addr,x=.ref a/\OexL K C/\PySem.W.findIn K (.ref C) f=some none /\
 ((H2 a=some (exo a C none)/\∀ d',H2 d'=none->d'≠a->D.nx σ (upd (upd H2 d' (exd d' [(f,y)])) a (exo a C (some d')))) \/
  ∃ (d':Addr) (fs:List (Str×V)),H2 a=some (exo a C (some d'))/\H2 d'=some (exd d' fs)/\fs.length<=900/\D.nx σ (upd H2 d' (exd d' ((f,y)::fs))))
section
variable{X:Cx}{o e:Expr}{es:List Expr}{to te:TE}{ta:TA}{f:Str}{p p' pos:Pos}
theorem Ah1(ho:PE X o to)(he:PE X e te)(hs:swapsWith e (some (.Attribute o f p')) pos.line X.env=pure false:=by rfl):PS X (.Assign [.Attribute o f p'] e pos) (tOsL X.K f to te):=by
 refine ⟨fun pins s σ H D I h=>plainObj_wpAny_Assign_Attribute (thn (he.run pins s σ H _ I h) fun v s1 ⟨y,H1,I1,r1,q1⟩=>thn (ho.run pins s1 σ H1 _ I1 q1) fun u s2 ⟨x,H2,I2,r2,a,C,ex,T,hno,q⟩=>?_) hs⟩
 subst ex
 obtain rfl:u=Value.ref a:=r2
 rcases q with ⟨ea,q⟩ | ⟨d',fs,ea,ed,hl,q⟩
 ·exact Ahz T I2 ea hno r1 fun d' s' n ne J=>⟨σ,_,J,q d' n ne⟩
 ·exact Ah0 T I2 ea ed hl hno r1 fun s' J=>⟨σ,_,J,q⟩
theorem Ah2{CX:CXT}{x:Str}{C fI:Addr}{k:Nat}{fd:FuncData}{ps:List Str}{sp:Sp}(T:OexL X.K C)(iC:PySem.W.findIn X.K (.ref C) "__init__" = some (some (.ref fI)))(tI:PySem.W.typeIn X.K (.ref fI)=some (.type "function"))
  (fk:FnOk X.prog X.w X.K X.mg X.base CX k fI fd ps sp)(hr:Room (k+1) X.A)(hb:Binds X.K fd ps [])(hx:Passes CX X (fun _ _ _=>False))(hg:Gl X x)(hm:X.mg x=some (.ref C))(ha:PA X (e::es) ta)
  (hdb:(x==("__debug__" : Str))=false:=by decide)(he:starEach (e::es) X.env=(false,eval e X.env)::starEach es X.env:=by rfl)(hpl:(backTo pos (starEach es X.env)).any (·.1)=false:=by rfl) :
  PMk X (.Call (.Name x p) (e::es) [] pos) (tMkO C sp [] ta):=by
 intro pins s σ H Q I h
 refine wpAny_Call_Name_kw (ld_glob I hg hm (PySem.W.callWith_K (h₀:=X.base) I.ok.mod.kin T.kC (thn (ha.run pos pins s σ H _ I h) fun us s1 ⟨vs,H1,I1,r1,hz,q1⟩=>⟨I1.kIn,?_⟩) he hpl) hdb)
 obtain ⟨hp,gg,dr,tk,os⟩:=s1
 obtain ⟨nm,N,qn,bs,bm,hdct,sn,sub,ab,col,dd,k0,k1,k2,k3,k5,hC,hT⟩:=PySem.W.excInit_of I1.kIn T.ini
 show wpAny _ _ (call (.ref C) us) _ _ _
 have le1:hp.objs.size<=hp.objs.size+1:=by omega
 have q2:=q1 (hp.objs.size+1) (I1.hok.fresh le1)
 have old:∀ b o,hp.get? b=some o->((hp.push (PySem.W.kdv_tup us)).push (PySem.HandSPX.excO C hp.objs.size)).get? b=some o:=fun b o q=>Heap.get?_push_of_some _ (Heap.get?_push_of_some _ q)
 have new:((hp.push (PySem.W.kdv_tup us)).push (PySem.HandSPX.excO C hp.objs.size)).get? (hp.objs.size+1)=some (PySem.HandSPX.excO C hp.objs.size):=by heap_get
 have I2:Inv X pins σ (upd H1 (hp.objs.size+1) (exo (hp.objs.size+1) C none)) ⟨(hp.push (PySem.W.kdv_tup us)).push (PySem.HandSPX.excO C hp.objs.size),gg,dr,tk,os⟩:=I1.laid (t':=tk) (a:=hp.objs.size+1) (o:=exo (hp.objs.size+1) C none) old le1 (exo_ok new)
 rw [List.append_nil] at q2
 have rs:Vals (V.ref (hp.objs.size+1)::vs) (Value.ref (hp.objs.size+1)::us):=.cons rfl r1
 have hlen:(Value.ref (hp.objs.size+1)::us).length=ps.length:=rs.length.symm.trans (fk.len _ _ _ _ q2)
 have bnd:=hb _ (Value.ref (hp.objs.size+1)::us) I2.kIn (by rw [List.append_nil]; exact hlen)
 rw [List.append_nil] at bnd
 have hus:us.length<=sizeLine:=by
  have:=Paired.length r1
  rw [sizeLine_eq]
  omega
 refine wpAny_call (PySem.HandSPX.call_own F.excBase_LookupError hT hC (PySem.W.looks_findIn I1.kIn iC) (fun self=>PySem.W.bind_fn I1.kIn self tI) hus ?_)
 refine codeAny_mono (fk.run _ X.stack _ _ ⟨Value.ref (hp.objs.size+1)::us,[]⟩ (Value.ref (hp.objs.size+1)::us) _ _ (fun _ _ _=>False) (hr.make C us []) (I2.env0.make C us []) bnd rs q2) fun r s' fin=>?_
 match r,fin with
 | .error er,fin=>exact hx pins σ _ _ er s' I2 fin
 | .ok (.ret w),fin =>
  obtain ⟨v,H2,o2,b2,u2,k2',rv,ev,d,fs,ea,ed,hd,q⟩:=fin
  subst ev
  obtain ⟨h2,g2,d2,t2,os'⟩:=s'
  exact ⟨rv,mk_end (raises_own T.exC T.tyC) I1 le1 old u2 k2' o2 b2 ea ed hd q⟩
 | .ok .next,fin=>exact fin.elim
 | .ok .brk,fin=>exact fin.elim
 | .ok .cont,fin=>exact fin.elim
end
structure ExiL(P:Program)(K:PySem.W.Frag)(C f cc:Addr)(F:NF)(fd:FuncData)(slf:Str):Prop where
 T:OexL K C
 cl:F.cl=[(("__class__" : Str),cc)]
 lkf:∃ oc od osl,K.lookup f=some ⟨oc,od,.func fd,osl⟩
 fdX:∃ dV kV doc pm an ct,fd=PySem.W.fnX F.name F.qual F.params F.body F.scope F.cl dV kV doc pm an (.ref F.c) ct
 par:∃ ar:Arg,(fd.params.posonlyargs++fd.params.args).head? = some ar/\ar.arg=slf
 code:∃ ccl cdd vs ccs file tf,K.lookup F.c=some ⟨ccl,cdd,.fields vs,ccs⟩/\vs[2]? = some (.str file tf)/\((P.main.file:Str)==file)=true
 cdr:PySem.W.codeIn K (.ref F.c) F.qual=true
 cell:∃ cl cld csl,K.lookup cc=some ⟨cl,cld,.cell (some (.ref C)),csl⟩
 cls:(PySem.W.clsIn K C).isSome=true
 sub:PySem.W.mroIn K C (.ref C)=some true
 ks:F.scope.names.lookup ("super" : Str)=some .globalImplicit
 kc:F.scope.names.lookup ("__class__" : Str)=some .free
 ka:F.scope.names.lookup slf=some .local
 top:(P.main.scope.names.lookup ("super" : Str)).isSome=false
 opq:PySem.W.nsIn K cStatics "thirdparty.any" = some none
 sup:PySem.W.ks_superIn K C C "__init__" = some (some (.builtin "LookupError.__init__"))
 isB:PySem.W.subIn K (.ref C) (.type "LookupError")=some true
section
variable{CXa:CXT}{P:Program}{w:World}{K:PySem.W.Frag}{mg:Str->Option Value}{base:Heap}{N:List Str}{F:NF}{f C cc a:Addr}{fd:FuncData}{slf:Str}{A:Around}{outer:List PySem.Env}{s0 s:Shared}{H0 H:Hp}{E:XK}{σ:L2.St}
theorem Ah3(T:ExiL P K C f cc F fd slf)(hmg:mg "super" = none)(I:Inv (ncx CXa P w K mg base N F f A outer s0 H0 E) [] σ H s)(hk:F.scope.kind=.function)(hN:N[0]? = some slf)(h0:σ[0]? = some (some (.ref a)))(ea:H a=some (exo a C none))
  {x:Str}{j:Nat}{p0 p1 p2 p3 pos:Pos}{body:List Stmt}{Q:Value->Shared->Prop}{Ex:Value->Shared->Prop}(h:∀ u s',Inv (ncx CXa P w K mg base N F f A outer s0 H0 E) [] σ H s'->Q u s')
  (he:Jm F f s0.heap.objs.size (.Call (.Attribute (.Call (.Name "super" p0) [] [] p1) "__init__" p2) [.Constant (.str x) j p3] [] pos)) :
  _root_.PySem.wpAt (model P w) (A.deeper (envF F f s0.heap.objs.size)) (.func body (envF F f s0.heap.objs.size)) (eval (.Call (.Attribute (.Call (.Name "super" p0) [] [] p1) "__init__" p2) [.Constant (.str x) j p3] [] pos) (envF F f s0.heap.objs.size)) Q Ex s:=by
 obtain ⟨oc,od,osl,lkf⟩:=T.lkf
 obtain ⟨ar,hp,har⟩:=T.par
 obtain ⟨ccl,cdd,vs,ccs,file,tf,lkc,hvs,hfile⟩:=T.code
 obtain ⟨cl1,cld,csl,lcc⟩:=T.cell
 obtain ⟨cd,hcd⟩:=Option.isSome_iff_exists.mp T.cls
 have X:K.In s.heap:=I.kIn
 obtain ⟨nm,Nn,q,bs,bm,hdct,sn,sub,ab,col,dd,k0,k1,k2,k3,k5,hC,hbm⟩:=PySem.W.excInit_of X T.T.ini
 obtain ⟨t0,ho⟩:=exo_at I.hok ea
 obtain ⟨m,hns,hl⟩:=I.loc
 obtain ⟨u,ru,lu⟩:=hl 0 slf (.ref a) hN h0 (.inl T.ka)
 obtain rfl:u=Value.ref a:=ru
 have hv:m slf=some (.ref a):=by
  rcases lu with ⟨_,e⟩ | ⟨z,_⟩
  ·exact e
  ·have ka:=T.ka
   rcases z with z | z
   ·have z:F.scope.names.lookup slf=some .cell:=z
    rw [ka] at z; cases z
   ·have z:F.scope.names.lookup slf=some .free:=z
    rw [ka] at z; cases z
 obtain ⟨oD,hD1,hD2⟩:∃ oD,s.heap.get? C=some oD/\oD.data=.cls cd:=by
  unfold PySem.W.clsIn at hcd
  split at hcd
  ·rename_i c d cd' sl ho
   cases hcd
   exact ⟨_,X _ _ ho,rfl⟩
  ·cases hcd
 have J:PySem.W.InstAt s.heap a { cls:=.ref C,dict:=none,data:=.fields #[.ref t0,.none,.none,.none,.bool false,.none] } C none:=⟨ho,rfl,rfl,trivial⟩
 have hcl:=T.cl
 obtain ⟨pl,he⟩:=he
 refine PySem.ks_wpAt_MethodCall (pl:=pl) ?_ he
 refine PySem.ks_wpAt_super_base (env:=envF F f s0.heap.objs.size) T.ks T.kc (by decide) rfl (X _ _ lkf) rfl hp rfl (X _ _ lkc) rfl hvs hfile T.top ?_
 obtain ⟨mb,b1,b2⟩:=I.mod.blt
 refine PySem.W.ks_loadName_global hk T.ks (Calls.loadGlobal_builtin (env:=envF F f s0.heap.objs.size) (I.mod.glob.keeps I.bk) hmg (b1.keeps I.bk) ((b2 _ (by decide)).trans (show bootBuiltins "super" = some (.type "super") by decide +kernel)) ⟨rfl,?_⟩)
 refine wpAny_loadName_free hk T.kc (show List.lookup _ F.cl=some cc by rw [hcl]; rfl) ⟨_,X _ _ lcc,rfl⟩ ?_
 rw [har]
 refine wpAny_loadName_local hk T.ka hns hv ?_
 refine PySem.ks_wpAny_isType_cls hD1 hD2 ⟨rfl,?_⟩
 obtain ⟨hh,g,d,t,os⟩:=s
 refine PySem.ks_wpAny_call_super hD1 hD2 J.at_ J.cls (fun c e=>nomatch e) (PySem.W.looks_mroIn X T.sub) (fun h1 e k=>?_)
 have X1:K.In h1:=X.keeps k
 have J1:PySem.W.InstAt h1 a { cls:=.ref C,dict:=none,data:=.fields #[.ref t0,.none,.none,.none,.bool false,.none] } C none:=⟨k _ _ ho,rfl,rfl,trivial⟩
 have hsup:=T.sup
 unfold PySem.W.ks_superIn at hsup
 rw [hcd] at hsup
 refine PySem.W.kxs_getMethod PySem.W.kxs_LookupError e (PySem.W.looks_opaque X1 T.opq) (l₀:=cd.mro) (fun A Q E s k q=>wpAny_bind ((PySem.W.looks_clsIn X1 hcd) A _ E s k (wpAny_pure q))) rfl X1 hsup (J1.type.andThen (PySem.W.looks_subIn X1 T.isB)) (PySem.W.ks_ne X1 J1 hcd) (by decide) ?_
 have hmw:(h1.push (PySem.W.kxs_mw "LookupError.__init__" a)).get? h1.objs.size=some (PySem.W.kxs_mw "LookupError.__init__" a):=Heap.get?_push_at rfl rfl
 have k1':∀ b o,hh.get? b=some o->(h1.push (PySem.W.kxs_mw "LookupError.__init__" a)).get? b=some o:=fun b o e=>Heap.get?_push_of_some _ (k b o e)
 refine PySem.W.kxs_callWith (i:="LookupError.__init__") (x:=a) rfl (PySem.Calls.evalArgs_plain (Calls.spliced_cons (wpAny_Constant_str (k:=j) (pos:=p3) (Calls.spliced_nil ⟨hmw,?_⟩))))
 refine Za PySem.F.excBase_LookupError (k1' _ _ hC) (k1' _ _ ho) hmw (by rw [sizeLine_eq]; show 1<=16777216; omega) (fun h' t1 kk hx=>?_)
 have J2:=I.kept (h':=h1.push (PySem.W.kxs_mw "LookupError.__init__" a)) (t':=t+1+1) k1'
 have J3:=J2.write (t':=t+1+1) (x:=a) (e:=a) (o:=exo a C none) (by rw [ea]; exact True.intro) (.inl rfl) kk ⟨_,hx⟩ (exo_ok hx)
 have eu:upd H a (exo a C none)=H:=by
  funext b
  by_cases hb:b=a
  ·rw [hb,upd_same,ea]
  ·rw [upd_ne hb]
 rw [eu] at J3
 exact h _ _ J3
theorem Ah4{k:Nat}{ps:List Str}{sp:Sp}{x:Str}{j:Nat}{p0 p1 p2 p3 p4 pos:Pos}{rest:List Stmt}(T:ExiL P K C f cc F fd slf)(hmg:mg "super" = none)(S:NScope N ps ["__class__"] F.scope)(hps:ps[0]? = some slf)
  (hbd:F.body=.Expr (.Call (.Attribute (.Call (.Name "super" p0) [] [] p1) "__init__" p2) [.Constant (.str x) j p3] [] pos) p4::rest)
  (he:∀ L,Jm F f L (.Call (.Attribute (.Call (.Name "super" p0) [] [] p1) "__init__" p2) [.Constant (.str x) j p3] [] pos))
  (hi:∀ L,interactive (envF F f L)=false)(hsw:∀ L,swapsWith (.Call (.Attribute (.Call (.Name "super" p0) [] [] p1) "__init__" p2) [.Constant (.str x) j p3] [] pos) none p4.line (envF F f L)=pure false)
  (len:∀ vs H Q E,sp vs H Q E->vs.length=ps.length)
  (hrest:∀ (A:Around) (outer:List PySem.Env) (s:Shared) (H:Hp) (vs:List V) (Q:VK) (E:XK),Room k (A.deeper (envF F f s.heap.objs.size))->sp vs H Q E ->
   ∃ a t,vs[0]? = some (.ref a)/\H a=some (exo a C none)/\PSs (ncx CXa P w K mg base N F f A outer s H E) rest t/\t { nx:=fun _ H'=>Q .non H',rt:=Q } (startF N vs [none]) H) :
  FnOk P w K mg base CXa (k+1) f fd ps sp:=by
 refine ⟨len,fun A outer s H args us vs Q E hr e0 hb r hsp=>?_⟩
 have hl:=len _ _ _ _ hsp
 have KX:K.In s.heap:=e0.mod.kin.keeps fun b o e=>(e0.bs b o e).1
 have lim:s.heap.NoLimit:=e0.mod.nolimit.keeps fun b o e=>(e0.bs b o e).1
 obtain ⟨oc,od,osl,lkf⟩:=T.lkf
 obtain ⟨dV,kV,doc,pm,an,ct,hfd⟩:=T.fdX
 subst hfd
 obtain ⟨cl1,cld,csl,lcc⟩:=T.cell
 have hcl:=T.cl
 have C1:CellsAt F.cl ["__class__"] [none] s.heap H:=by
  have one:∀ y c,F.cl.lookup y=some c->y = "__class__"/\c=cc:=fun y c z=>by
   rw [hcl,List.lookup_cons] at z
   cases q:(y==("__class__" : Str)) with
   | true=>rw [q] at z; cases z; exact ⟨beq_iff_eq.mp q,rfl⟩
   | false=>rw [q] at z; cases z
  refine ⟨rfl,fun y c z=>?_,fun y y' c z z'=>?_,fun i y z=>?_⟩
  ·obtain ⟨rfl,rfl⟩:=one y c z
   exact ⟨(e0.bs _ _ (e0.mod.kin _ _ lcc)).2,_,_,KX _ _ lcc,rfl⟩
  ·rw [(one y c z).1,(one y' c z').1]
  ·match i,z with
   | 0,z =>
    cases z
    refine ⟨cc,by rw [hcl]; rfl,fun v q=>by cases q⟩
   | i+1,z=>simp at z
 obtain ⟨a,t,ha0,ea,ht,hq⟩:=hrest A outer s H vs Q E (hr.deeper _) hsp
 refine PySem.ks_codeAny_call_defAt (binds:=ps.zip us) (body:=F.body) hr.depth (KX _ _ lkf) rfl lim (PySem.W.codeRec_of KX T.cdr) rfl hb S.nocell (fun ⟨n,_⟩ hy=>S.par n (List.of_mem_zip hy).1) (fun h₁ hns kp=>?_) S.co S.gen S.kind
 show _root_.PySem.wpAt _ (A.deeper (envF F f s.heap.objs.size)) (.func F.body (envF F f s.heap.objs.size)) (execs F.body (envF F f s.heap.objs.size)) _ _ _
 have I:Inv (ncx CXa P w K mg base N F f A outer s H E) [] (startF N vs [none]) H { s with heap:=h₁,toks:=s.toks+(ps.zip us).length }:=inv_startN S hr.hd e0 hl r C1 hns kp
 have hvl:0<vs.length:=by
  cases vs with
  | nil=>cases ha0
  | cons v r=>exact Nat.succ_pos _
 have hN:N[0]? = some slf:=by
  have q:=S.pre
  have:(N.take (ps.length+1))[0]? = (ps++[("__class__" : Str)])[0]?:=by rw [← S.pre]; rfl
  rw [List.getElem?_take_of_lt (by omega),List.getElem?_append_left (by omega),hps] at this
  exact this
 have h0:(startF N vs [none])[0]? = some (some (.ref a)):=by
  unfold startF
  rw [List.getElem?_append_left (by rw [List.length_map]; exact hvl),List.getElem?_map,ha0]
  rfl
 have fin:∀ {σ':L2.St} {H':Hp} {v:V} {u:Value} {s':Shared},Inv (ncx CXa P w K mg base N F f A outer s H E) [] σ' H' s'->RelV v u->Q v H'->CE outer P w H s Q u s' :=
  fun {σ' H' v u s'} J rv q=>⟨v,H',J.os,J.bare,J.base,J.hok,rv,q⟩
 rw [hbd]
 refine PySem.ks_wpAt_execs_cons (PySem.ks_wpAt_Expr_any (Ah3 T hmg I S.kind hN h0 ea (fun u s' J=>?_) (he _)) (hi _) (hsw _))
 refine wpAt_of_wpAny (wpAny_mono (ht.run [] s' _ H _ J hq) (fun fl s2 hs=>?_) fun e s2 hs=>hs)
 cases fl with
 | ret u =>
  obtain ⟨v,σ',H',J,rv,q⟩:=hs
  exact fin J rv q
 | next =>
  obtain ⟨σ',H',J,q⟩:=hs
  exact fin (v:=V.non) (u:=Value.none) J rfl q
 | brk =>
  obtain ⟨_,_,_,q⟩:=hs
  exact False.elim q
 | cont =>
  obtain ⟨_,_,_,q⟩:=hs
  exact False.elim q
end
section
variable{CXa:CXT}{P:Program}{w:World}{K:PySem.W.Frag}{mg:Str->Option Value}{base:Heap}{F:NF}{f C cc:Addr}{fd:FuncData}{slf v1 v2 f1 f2 x:Str}{j:Nat}{p0 p1 p2 p3 p4 pos q1 q2 q3 q4 r1 r2 r3 r4:Pos}
theorem exl1(T:ExiL P K C f cc F fd slf)(hmg:mg "super" = none)(S:NScope [slf,v1, "__class__"] [slf,v1] ["__class__"] F.scope)
  (hbd:F.body=[.Expr (.Call (.Attribute (.Call (.Name "super" p0) [] [] p1) "__init__" p2) [.Constant (.str x) j p3] [] pos) p4,.Assign [.Attribute (.Name slf q1) f1 q2] (.Name v1 q3) q4])
  (he:∀ L,Jm F f L (.Call (.Attribute (.Call (.Name "super" p0) [] [] p1) "__init__" p2) [.Constant (.str x) j p3] [] pos))
  (hsw:∀ L,swapsWith (.Call (.Attribute (.Call (.Name "super" p0) [] [] p1) "__init__" p2) [.Constant (.str x) j p3] [] pos) none p4.line (envF F f L)=pure false)
  (hs1:∀ L,swapsWith (.Name v1 q3) (some (.Attribute (.Name slf q1) f1 q2)) q4.line (envF F f L)=pure false)
  (hno:PySem.W.findIn K (.ref C) f1=some none)(hi:∀ L,interactive (envF F f L)=false:=by intro _; rfl)
  (n1:(slf==("__debug__" : Str))=false:=by decide)(n2:(slf==("__classdict__" : Str))=false:=by decide)(n3:(v1==("__debug__" : Str))=false:=by decide)(n4:(v1==("__classdict__" : Str))=false:=by decide) :
  FnOk P w K mg base CXa 1 f fd [slf,v1] (spX C [f1]):=by
 refine Ah4 (k:=0) T hmg S rfl hbd he hi hsw (fun vs H Q E ⟨a,ys,e,l,_⟩=>by rw [e,List.length_cons,l]; rfl) fun A outer s H vs Q E hr ⟨a,ys,e,l,ea,q⟩=>?_
 subst e
 match ys,l with
 | [y],_ =>
  refine ⟨a,_,rfl,ea,pss_cons (Ah1 (pe_var (i:=0) rfl (.inl (S.par _ List.mem_cons_self)) n1 n2) (pe_var (i:=1) rfl (.inl (S.par _ (List.mem_cons_of_mem _ List.mem_cons_self))) n3 n4) (hs1 _)) pss_nil,?_⟩
  refine ⟨y,rfl,.ref a,rfl,a,C,rfl,T.T,hno,.inl ⟨ea,fun dx nd da=>q dx nd da⟩⟩
end
def ExL(P:Program)(mg:Str->Option Value)(base:Heap)(g:Gm)(x:Str)(fs:List Str)(j:Nat):Prop :=
 ∃ f fd ps,mg x=some (.ref (g.ca x))/\OexL g.K (g.ca x)/\PySem.W.findIn g.K (.ref (g.ca x)) "__init__" = some (some (.ref f))/\PySem.W.typeIn g.K (.ref f)=some (.type "function") /\
  FnOk P g.w g.K mg base (L2.CX P g.w) j f fd ps (spX (g.ca x) fs)/\Binds g.K fd ps []
section
variable{g:Gm}{W:WX}{k:Nat}{X:Cx}{G:Hp}
theorem Uc{x:Str}{fs:List Str}{j:Nat}{ex:Expr}{es:List Expr}{A:M (List Rv)}{p pos pos2:Pos}(d:ExL X.prog X.mg X.base g x fs j)(hj:j+1<=k)(hg:Gl X x)(ha:VA g W k X (ex::es) A)
  (hdb:(x==("__debug__" : Str))=false:=by decide)(he:starEach (ex::es) X.env=(false,eval ex X.env)::starEach es X.env:=by rfl)(hpl:(backTo pos (starEach es X.env)).any (·.1)=false:=by rfl) :
  VS g W k X (.Raise (some (.Call (.Name x p) (ex::es) [] pos)) none pos2) (Lf x fs A):=by
 refine ⟨fun c=>?_⟩
 obtain ⟨f,fd,ps,hm,T,iC,tI,F1,hb⟩:=d
 obtain ⟨gK,gw,ca,gT,gs,gn⟩:=g
 obtain rfl:X.K=gK:=c.K
 obtain rfl:X.w=gw:=c.w
 have mono:∀ {σ H} {Q Q':List V->Hp->Prop},(∀ vs H1,Q' vs H1->Q vs H1)->TVA ⟨X.K,X.w,ca,gT,gs,gn⟩ W A σ H Q'->TVA ⟨X.K,X.w,ca,gT,gs,gn⟩ W A σ H Q:=fun {σ H Q Q'} k ⟨G,e,sr,h⟩=>⟨G,e,sr,Pst.mono h fun a G' H' e' _ z vs ok=>k vs H' (z vs ok)⟩
 refine PS.imp (ps_raise c.calm c.tk (Zb (ta:=TVA ⟨X.K,X.w,ca,gT,gs,gn⟩ W A) mono (Ah2 T iC tI F1 ((c.room.mono hj).toRoom) hb (passes_call c.tk fun _ _ _ _ z=>z.elim) hg hm (ha.run c) hdb he hpl))) fun D σ H ⟨G,e,sr,h⟩=>?_
 refine ⟨G,e,sr,Pst.mono (PstS.bindE h) fun rs G1 H1 e1 t1 h1 vs ok=>?_⟩
 cases q:Cf rs with
 | none=>rw [q] at h1; exact h1.elim
 | some ds =>
  rw [q] at h1
  by_cases hl:ds.length=fs.length/\ds.length<=1000
  ·simp only [if_pos hl] at h1
   have rp:=Nw ok q
   refine ⟨by rw [rp.len]; exact hl.1,by rw [rp.len]; exact hl.2,fun d nd=>?_⟩
   have gr:=Grow.lay2 (o:=HO.xd (fs.zip vs).reverse) t1.sr.bs nd (fun _ _ z=>nomatch z)
   refine h1 _ _ σ _ _ (gr.tr t1.sr).st ⟨rfl,.inr ⟨d,_,rfl,upd_same,?_⟩⟩
   exact (Reps.zip (rp.mono gr.le)).rev
  ·simp only [if_neg hl] at h1
   exact h1.elim
end
end Vs
set_option maxHeartbeats 4000000
namespace Vs
open PySem PySem.Spec PyProof.Rows L2 Fw SX He NdefX
theorem Ah5{P:Program}{K:PySem.W.Frag}{d:XnD}{slf:Str}(c:Nt P.main.file d.x K=true)(e:xnW K d.x d.m=d.val)(hdm:d.m = "__init__")
  (hp:∃ ar:Arg,(d.params.posonlyargs++d.params.args).head? = some ar/\ar.arg=slf)(ks:d.scope.names.lookup ("super" : Str)=some .globalImplicit)(kc:d.scope.names.lookup ("__class__" : Str)=some .free)(ka:d.scope.names.lookup slf=some .local)(top:(P.main.scope.names.lookup ("super" : Str)).isSome=false) :
  ∃ (F:NF) (cc:Addr) (fd:FuncData) (kV doc pm:Value) (an:Option Addr) (ct:Value),fd=PySem.W.fnX "__init__" d.qual d.params d.body d.scope [("__class__",cc)] .none kV doc pm an (.ref F.c) ct/\F=⟨"__init__",d.qual,d.params,d.body,d.scope,[("__class__",cc)],F.c⟩/\ExiL P K (ga K d.x) (ma K (ga K d.x) "__init__") cc F fd slf /\
   PySem.W.findIn K (.ref (ga K d.x)) "__init__" = some (some (.ref (ma K (ga K d.x) "__init__")))/\PySem.W.typeIn K (.ref (ma K (ga K d.x) "__init__"))=some (.type "function"):=by
 unfold Nt at c
 obtain ⟨c1,c⟩:=ba c
 obtain ⟨c2,c⟩:=ba c
 obtain ⟨c3,c⟩:=ba c
 obtain ⟨c4,c⟩:=ba c
 obtain ⟨c5,c⟩:=ba c
 obtain ⟨c6,c⟩:=ba c
 obtain ⟨c7,c⟩:=ba c
 obtain ⟨c8,c⟩:=ba c
 obtain ⟨c9,c⟩:=ba c
 obtain ⟨c10,c⟩:=ba c
 obtain ⟨c11,c⟩:=ba c
 obtain ⟨c12,c13⟩:=ba c
 unfold Po at c2
 have hv:d.val=(some (("__init__" : Str),d.qual,d.params,.stmts d.body,d.scope,mainGlobals,["__class__"],builtinsNs):XnW):=by unfold XnD.val; rw [hdm]
 rw [hv,hdm] at e
 unfold xnW at e
 cases q:K.lookup (ma K (ga K d.x) "__init__") with
 | none=>rw [q] at c2; cases c2
 | some o =>
  obtain ⟨oc,od,dt,osl⟩:=o
  rw [q] at c2 e
  cases dt with
  | func fd =>
   obtain ⟨f1,f2,f3,f4,f5,f6,f7,f8,f9,f10,f11,f12,f13,f14,f15⟩:=fd
   simp only at c2 e
   have e:=Option.some.inj e
   simp only [Prod.mk.injEq] at e
   obtain ⟨rfl,rfl,rfl,rfl,rfl,rfl,e7,rfl⟩:=e
   match f7,f13,f8,c2,e7 with
   | [(y,cc)],.ref c,.none,c2,e7 =>
    simp only [List.map_cons,List.map_nil,List.cons.injEq,and_true] at e7
    subst e7
    simp only at c2
    obtain ⟨d1,c2⟩:=ba c2
    obtain ⟨d2,d3⟩:=ba c2
    have cell:∃ cl cld csl,K.lookup cc=some ⟨cl,cld,.cell (some (.ref (ga K d.x))),csl⟩:=by
     split at d2
     ·rename_i a1 a2 a3 a4 h
      rw [of_decide_eq_true d2] at h
      exact ⟨_,_,_,h⟩
     ·cases d2
    have code:∃ ccl cdd vs ccs file tf,K.lookup c=some ⟨ccl,cdd,.fields vs,ccs⟩/\vs[2]? = some (.str file tf)/\((P.main.file:Str)==file)=true:=by
     split at d3
     ·rename_i a1 a2 a3 a4 h
      split at d3
      ·rename_i fl tf h2
       exact ⟨_,_,_,_,_,_,h,h2,d3⟩
      ·cases d3
     ·cases d3
    refine ⟨⟨"__init__",d.qual,d.params,d.body,d.scope,[("__class__",cc)],c⟩,cc,_,_,_,_,_,_,rfl,rfl,⟨⟨(ba c1).1,(ba (ba c1).2).1,(ba (ba c1).2).2,eqO_ok c3,of_decide_eq_true c4,of_decide_eq_true c5,c6⟩,rfl,⟨_,_,_,q⟩,⟨_,_,_,_,_,_,rfl⟩,hp,code,d1,cell,c7,of_decide_eq_true c8,ks,kc,ka,top,eqO_ok c9,eqO_ok c10,of_decide_eq_true c11⟩,eqO_ok c12,of_decide_eq_true c13⟩
  | _=>cases c2
section
variable{P:Program}{w:World}{K:PySem.W.Frag}{mg:Str->Option Value}{base:Heap}{Tb:LT}{sa:Addr}{sn:List Int}{d:XnD}{slf v1 v2 f1 f2 x:Str}{j:Nat}{p0 p1 p2 p3 p4 pos q1 q2 q3 q4 r1 r2 r3 r4:Pos}
theorem xn1L(c:Nt P.main.file d.x K=true)(e:xnW K d.x d.m=d.val)(hdm:d.m = "__init__")(hm:mg d.x=some (.ref (ga K d.x)))(hmg:mg "super" = none)(hno:PySem.W.findIn K (.ref (ga K d.x)) f1=some none)
  (hbd:d.body=[.Expr (.Call (.Attribute (.Call (.Name "super" p0) [] [] p1) "__init__" p2) [.Constant (.str x) j p3] [] pos) p4,.Assign [.Attribute (.Name slf q1) f1 q2] (.Name v1 q3) q4])
  (hp:∃ ar:Arg,(d.params.posonlyargs++d.params.args).head? = some ar/\ar.arg=slf)(ks:d.scope.names.lookup ("super" : Str)=some .globalImplicit)(kc:d.scope.names.lookup ("__class__" : Str)=some .free)(ka:d.scope.names.lookup slf=some .local)(top:(P.main.scope.names.lookup ("super" : Str)).isSome=false)
  (S:NScope [slf,v1, "__class__"] [slf,v1] ["__class__"] d.scope)
  (he:∀ cc c f L,Jm (nfX d cc c) f L (.Call (.Attribute (.Call (.Name "super" p0) [] [] p1) "__init__" p2) [.Constant (.str x) j p3] [] pos))
  (hsw:∀ cc c f L,swapsWith (.Call (.Attribute (.Call (.Name "super" p0) [] [] p1) "__init__" p2) [.Constant (.str x) j p3] [] pos) none p4.line (envF (nfX d cc c) f L)=pure false)
  (hs1:∀ cc c f L,swapsWith (.Name v1 q3) (some (.Attribute (.Name slf q1) f1 q2)) q4.line (envF (nfX d cc c) f L)=pure false)
  (hi:∀ cc c f L,interactive (envF (nfX d cc c) f L)=false)
  (hb:∀ cc kV doc pm an cdv ct us,us.length=2->bindArgs (PySem.W.fnX "__init__" d.qual d.params d.body d.scope [("__class__",cc)] .none kV doc pm an cdv ct) ⟨us,[]⟩=pure ([slf,v1].zip us))
  (n1:(slf==("__debug__" : Str))=false:=by decide)(n2:(slf==("__classdict__" : Str))=false:=by decide)(n3:(v1==("__debug__" : Str))=false:=by decide)(n4:(v1==("__classdict__" : Str))=false:=by decide) :
  ExL P mg base ⟨K,w,He.ga K,Tb,sa,sn⟩ d.x [f1] 1:=by
 obtain ⟨F,cc,fd,kV,doc,pm,an,ct,efd,eF,T,iC,tI⟩:=Ah5 c e hdm hp ks kc ka top
 obtain ⟨F1,F2,F3,F4,F5,F6,cF⟩:=F
 simp only [NF.mk.injEq,and_true] at eF
 obtain ⟨rfl,rfl,rfl,rfl,rfl,rfl⟩:=eF
 subst efd
 exact ⟨_,_,_,hm,T.T,iC,tI,exl1 T hmg S hbd (he cc cF _) (hsw cc cF _) (hs1 cc cF _) hno (hi cc cF _) n1 n2 n3 n4,Binds.all fun us hl=>hb cc kV doc pm an _ ct us hl⟩
end
end Vs
set_option maxHeartbeats 2000000
namespace Vs
open PySem PySem.Spec PyProof.Rows L2 Fw SX NdefX
structure SupF(prog:Program)(K:PySem.W.Frag)(mg:Str->Option Value)(f cda cc D:Addr)(x0:Str):Prop where
 fn:∃ oc od fd osl ar,K.lookup f=some (⟨oc,od,.func fd,osl⟩:Obj)/\(fd.params.posonlyargs++fd.params.args).head? = some ar/\ar.arg=x0
 cd:∃ ccl cdd vs ccs file tf,K.lookup cda=some (⟨ccl,cdd,.fields vs,ccs⟩:Obj)/\vs[2]? = some (.str file tf)/\((prog.main.file:Str)==file)=true
 cell:∃ cl cld csl,K.lookup cc=some (⟨cl,cld,.cell (some (.ref D)),csl⟩:Obj)
 cls:∃ cdD,PySem.W.clsIn K D=some cdD
 top:(prog.main.scope.names.lookup ("super" : Str)).isSome=false
 sup:mg "super" = none
 opq:PySem.W.nsIn K cStatics "thirdparty.any" = some none
structure SupM(K:PySem.W.Frag)(C D:Addr)(m:Str)(f2:Addr):Prop where
 sub:PySem.W.mroIn K C (.ref D)=some true
 at_:PySem.W.ks_superIn K C D m=some (some (.ref f2))
 ty:PySem.W.typeIn K (.ref f2)=some (.type "function")
 fn:PySem.W.fnIn K f2=true
structure VEC(g:Gm)(W:WX)(k:Nat)(X:Cx)(body:List Stmt)(e:Expr)(F:M Rv):Prop where
 run:Cd g W k X->∀ (pins:List (Addr×Obj)) (s:Shared) (σ:L2.St) (H:Hp) (Q:VK),Inv X pins σ H s->TV g W F σ H Q->_root_.PySem.wpAt (model X.prog X.w) X.A (.func body X.env) (eval e X.env) (EP X pins σ Q) X.xe s
structure VSC(g:Gm)(W:WX)(k:Nat)(X:Cx)(body:List Stmt)(st:List Stmt)(F:M Ctl):Prop where
 run:Cd g W k X->∀ (pins:List (Addr×Obj)) (s:Shared) (σ:L2.St) (H:Hp) (D:Ends),Inv X pins σ H s->TVS g W F D σ H->_root_.PySem.wpAt (model X.prog X.w) X.A (.func body X.env) (execs st X.env) (SP X pins D) X.xe s
end Vs
set_option maxHeartbeats 4000000
namespace Vs
open PySem PySem.Spec PyProof.Rows L2 Fw SX He NdefX
structure SupDef(P:Program)(K:PySem.W.Frag)(mg:Str->Option Value)(d:XnD)(slf:Str)(fd:FuncData):Prop where
 ex:∃ (cda cc:Addr) (oc:Value) (od:Option Addr) (kV doc pm:Value) (an:Option Addr) (ct:Value) (osl:Array (Option Value)),
  fd=PySem.W.fnX d.m d.qual d.params d.body d.scope [("__class__",cc)] .none kV doc pm an (.ref cda) ct/\K.lookup (ma K (ga K d.x) d.m)=some ⟨oc,od,.func fd,osl⟩/\PySem.W.codeIn K (.ref cda) d.qual=true /\
  (∃ cl cld csl,K.lookup cc=some (⟨cl,cld,.cell (some (.ref (ga K d.x))),csl⟩:Obj))/\SupF P K mg (ma K (ga K d.x) d.m) cda cc (ga K d.x) slf
 kp:PySem.W.keepIn K (.ref (ma K (ga K d.x) d.m))=true
theorem SupDef.binds{P:Program}{K:PySem.W.Frag}{mg:Str->Option Value}{d:XnD}{slf:Str}{fd:FuncData}{ps:List Str}(F:SupDef P K mg d slf fd)
  (h:∀ cc kV doc pm an cdv ct (us:List Value),us.length=ps.length->bindArgs (PySem.W.fnX d.m d.qual d.params d.body d.scope [("__class__",cc)] .none kV doc pm an cdv ct) ⟨us,[]⟩=pure (ps.zip us)):Binds K fd ps []:=by
 obtain ⟨cda,cc,oc,od,kV,doc,pm,an,ct,osl,rfl,_⟩:=F.ex
 exact .all fun us hl=>h cc kV doc pm an _ ct us hl
end Vs
namespace Vs
open PySem PySem.Spec PyProof.Rows L2 Fw SX He
theorem Ah6{c:Str}{K:PySem.W.Frag}(h:seqB c K=true):PySem.W.noSeq K (ga K c)=true:=h
end Vs
set_option maxHeartbeats 2000000
namespace Vs
open PySem PySem.Spec PyProof.Rows L2 Fw SX
def Res.bnd{α β:Type}(r:Res α)(k:α->Ve->Res β):Res β:=match r with
 | .ok a e=>k a e
 | .er x e=>.er x e
 | .no=>.no
def obn{α β:Type}(o:Option α)(k:α->Res β):Res β:=match o with
 | some a=>k a
 | none=>.no
def ifb{β:Type}(b:Bool)(x y:Res β):Res β:=match b with
 | true=>x
 | false=>y
section
variable{α β:Type}
class Kn (α β:Type) where
 k:α->Ve->Res β
class Ko (α β:Type) where
 k:α->Res β
class Kx (β:Type) where
 r:Res β
def Res.bndI(r:Res α)[K:Kn α β]:Res β:=r.bnd K.k
def obnI(o:Option α)[K:Ko α β]:Res β:=obn o K.k
def ifbI(b:Bool)[X:Kx β][Y:Kx β]:Res β:=ifb b X.r Y.r
theorem Zy{r:Res α}{k:α->Ve->Res β}:r.bnd k = @Res.bndI α β r ⟨k⟩:=rfl
theorem obn_i{o:Option α}{k:α->Res β}:obn o k = @obnI α β o ⟨k⟩:=rfl
theorem ifb_i{b:Bool}{x y:Res β}:ifb b x y = @ifbI β b ⟨x⟩ ⟨y⟩:=rfl
theorem Zz{a:α}{e:Ve}{k:α->Ve->Res β}:@Res.bndI α β (.ok a e) ⟨k⟩=k a e:=rfl
theorem Ah7{x:Exn}{e:Ve}{k:α->Ve->Res β}:@Res.bndI α β (.er x e) ⟨k⟩=.er x e:=rfl
theorem Ah8{k:α->Ve->Res β}:@Res.bndI α β .no ⟨k⟩=.no:=rfl
theorem Ah9{a:α}{k:α->Res β}:@obnI α β (some a) ⟨k⟩=k a:=rfl
theorem Aia{x y:Res β}:@ifbI β true ⟨x⟩ ⟨y⟩=x:=rfl
theorem Aib{x y:Res β}:@ifbI β false ⟨x⟩ ⟨y⟩=y:=rfl
theorem Ij{c:Prop}[Decidable c]{x y:Res β}:(if c then x else y)=ifb (decide c) x y:=by
 by_cases z:c
 ·rw [decide_eq_true z,if_pos z]; rfl
 ·rw [decide_eq_false z,if_neg z]; rfl
theorem Aic{f:M α}{k:α->M β}{e:Ve}:M.bind f k e=(f e).bnd fun a=>k a:=rfl
theorem ret_e{a:α}{e:Ve}:M.ret a e=.ok a e:=rfl
theorem map_e{f:M α}{k:α->β}{e:Ve}:M.map f k e=(f e).bnd fun a e1=>.ok (k a) e1:=rfl
end
section
variable{A B C:M Rv}{e:Ve}{d:D}{i:Nat}
theorem fC_e:fC d e=.ok (.val d) e:=rfl
theorem Aid:Bz (.val d) e=.ok d e:=rfl
theorem Aie:Bz (.fresh d) e=.ok d e:=rfl
theorem Aif:Ag (.val d) e=some d:=rfl
theorem Aig:Ag (.fresh d) e=some d:=rfl
theorem Aih:Ad A e=(A e).bnd fun r e1=>(Bz r e1).bnd fun d e2=>.ok (.val d) e2:=rfl
theorem fOp_e{f:D->D->Option Rv}:fOp f A B e=(A e).bnd fun a e1=>(B e1).bnd fun b e2=>obn (Ag a e2) fun x=>obn (Ag b e2) fun y=>obn (f x y) fun r=>.ok r e2:=by
 unfold fOp M.bind Res.bnd
 cases A e with
 | no=>rfl
 | er x e1=>rfl
 | ok a e1 =>
  simp only
  cases B e1 with
  | no=>rfl
  | er x e2=>rfl
  | ok b e2 =>
   simp only
   cases Ag a e2 with
   | none=>rfl
   | some x =>
    cases Ag b e2 with
    | none=>rfl
    | some y =>
     show (match f x y with | some r=>Res.ok r e2 | none=>.no)=obn (f x y) _
     cases f x y <;> rfl
def tstR:Rv->Ve->Res Bool
 | .val (.bl b),e=>.ok b e
 | _,_=>.no
theorem Aii:Bh A e=(A e).bnd tstR:=by
 unfold Bh M.bind Res.bnd
 cases A e with
 | no=>rfl
 | er x e1=>rfl
 | ok a e1=>cases a with
  | val d=>cases d <;> rfl
  | _=>rfl
theorem Aij{b:Bool}:tstR (.val (.bl b)) e=.ok b e:=rfl
theorem Aik:Af e=.ok [] e:=rfl
theorem Ail{L:M (List Rv)}:Aa A L e=(A e).bnd fun a e1=>(L e1).bnd fun bs e2=>.ok (a::bs) e2:=rfl
theorem Aim{f:List D->Option Rv}{L:M (List Rv)}:Ar f L e=(L e).bnd fun rs e1=>obn (Bv rs e1) fun ds=>obn (f ds) fun r=>.ok r e1:=by
 unfold Ar M.bind Res.bnd
 cases L e with
 | no=>rfl
 | er x e1=>rfl
 | ok rs e1 =>
  simp only
  cases Bv rs e1 with
  | none=>rfl
  | some ds =>
   show (match f ds with | some r=>Res.ok r e1 | none=>.no)=obn (f ds) _
   cases f ds <;> rfl
theorem Ain:Bv [] e=some []:=rfl
theorem Aio{rs:List Rv}:Bv (.val d::rs) e=(Bv rs e).map (d :: ·):=by
 show (match some d,Bv rs e with | some d,some ds=>some (d::ds) | _,_=>none)=_
 cases Bv rs e <;> rfl
theorem Aip{rs:List Rv}:Bv (.fresh d::rs) e=(Bv rs e).map (d :: ·):=by
 show (match some d,Bv rs e with | some d,some ds=>some (d::ds) | _,_=>none)=_
 cases Bv rs e <;> rfl
theorem Aiq{rs:List Rv}:Bv (.slot i::rs) e=(Ag (.slot i) e).bind fun d=>(Bv rs e).map (d :: ·):=by
 show (match Ag (.slot i) e,Bv rs e with | some d,some ds=>some (d::ds) | _,_=>none)=_
 cases Ag (.slot i) e <;> cases Bv rs e <;> rfl
theorem Air{L:M (List Rv)}:A3 L e=(L e).bnd fun rs e1=>obn (Cf rs) fun ds=>ifb (decide (ds.length<=sizeLine)) (.ok (.fresh (.lst ds)) e1) .no:=by
 unfold A3 M.bind Res.bnd
 cases L e with
 | no=>rfl
 | er x e1=>rfl
 | ok rs e1 =>
  simp only
  cases Cf rs with
  | none=>rfl
  | some ds=>exact Ij
theorem Ais{L:M (List Rv)}:Hm L e=(L e).bnd fun rs e1=>obn (Cf rs) fun ds=>ifb (decide (ds.length<=sizeLine)) (.ok (.val (.tup ds)) e1) .no:=by
 unfold Hm M.bind Res.bnd
 cases L e with
 | no=>rfl
 | er x e1=>rfl
 | ok rs e1 =>
  simp only
  cases Cf rs with
  | none=>rfl
  | some ds=>exact Ij
theorem Ait{T:M Bool}:Je T e=(T e).bnd fun b e1=>.ok (!b) e1:=rfl
theorem Aiu{S T:M Bool}:L7 S T e=(S e).bnd fun b e1=>ifb b (T e1) (.ok false e1):=by
 unfold L7 M.bind Res.bnd
 cases S e with
 | no=>rfl
 | er x e1=>rfl
 | ok b e1=>cases b <;> rfl
theorem fOr_e{S T:M Bool}:fOr S T e=(S e).bnd fun b e1=>ifb b (.ok true e1) (T e1):=by
 unfold fOr M.bind Res.bnd
 cases S e with
 | no=>rfl
 | er x e1=>rfl
 | ok b e1=>cases b <;> rfl
theorem Aiv{α:Type}{T:M Bool}{X Y:M α}:Ek T X Y e=(T e).bnd fun b e1=>ifb b (X e1) (Y e1):=by
 unfold Ek M.bind Res.bnd
 cases T e with
 | no=>rfl
 | er x e1=>rfl
 | ok b e1=>cases b <;> rfl
theorem Aiw:Cr A e=(A e).bnd fun r e1=>obn (Ag r e1) fun d=>obn (Cq d) fun b=>.ok b e1:=by
 unfold Cr M.bind Res.bnd
 cases A e with
 | no=>rfl
 | er x e1=>rfl
 | ok r e1 =>
  simp only
  cases Ag r e1 with
  | none=>rfl
  | some d =>
   show (match Cq d with | some b=>Res.ok b e1 | none=>.no)=obn (Cq d) _
   cases Cq d <;> rfl
def seqR(B:M Ctl):Ctl->Ve->Res Ctl
 | .nx,e=>B e
 | c,e=>.ok c e
theorem Aix{B:M Ctl}:seqR B .nx e=B e:=rfl
theorem Aiy{B:M Ctl}{r:Rv}:seqR B (.rt r) e=.ok (.rt r) e:=rfl
theorem Aiz{X Y:M Ctl}:Bi X Y e=(X e).bnd (seqR Y):=by
 unfold Bi M.bind Res.bnd
 cases X e with
 | no=>rfl
 | er x e1=>rfl
 | ok c e1=>cases c <;> rfl
theorem fNx_e:fNx e=.ok .nx e:=rfl
theorem Ai0:Ma A e=(A e).bnd fun _ e1=>.ok .nx e1:=rfl
theorem Ai1:Bw A e=(A e).bnd fun r e1=>.ok (.rt r) e1:=rfl
theorem Ai2:fRetN e=.ok (.rt (.val .non)) e:=rfl
theorem Ai3:C9 i A e=(A e).bnd fun r e1=>D4 i r e1:=rfl
theorem Ai4:D4 i (.val d) e=ifb (Ax e i) (.ok .nx (e.set i (.sh d))) .no:=by
 show (if Ax e i=true then Res.ok Ctl.nx (e.set i (.sh d)) else .no)=_
 cases Ax e i <;> rfl
theorem Ai5:D4 i (.fresh d) e=ifb (Ax e i) (.ok .nx (e.set i (.ow d))) .no:=by
 show (if Ax e i=true then Res.ok Ctl.nx (e.set i (.ow d)) else .no)=_
 cases Ax e i <;> rfl
theorem Ai6{j:Nat}:D4 i (.slot j) e=(Bz (.slot j) e).bnd fun d e1=>ifb (Ax e1 i) (.ok .nx (e1.set i (.sh d))) .no:=by
 show M.bind (Bz (.slot j)) _ e=_
 unfold M.bind Res.bnd
 cases Bz (.slot j) e with
 | no=>rfl
 | er x e1=>rfl
 | ok d e1 =>
  show (if Ax e1 i=true then Res.ok Ctl.nx (e1.set i (.sh d)) else .no)=ifb (Ax e1 i) (Res.ok Ctl.nx (e1.set i (.sh d))) .no
  cases Ax e1 i <;> rfl
theorem Ai7:Aq i d e=ifb (Ax e i) (.ok () (e.set i (.sh d))) .no:=by
 show (if Ax e i=true then Res.ok () (e.set i (.sh d)) else .no)=_
 cases Ax e i <;> rfl
theorem Ai8{f:List Sl->Res Rv}{L:M (List Rv)}:Az f L e=(L e).bnd fun rs e1=>Bj f rs e1:=rfl
theorem Ai9{f:List Sl->Res Rv}{rs:List Rv}:Bj f rs e=ifb (Bp rs) (obn (A9 rs e) fun as=>match f as with
 | .ok r as'=>.ok r (A6 rs as' e)
 | .er x as'=>.er x (A6 rs as' e)
 | .no=>.no) .no:=by
 unfold Bj
 cases Bp rs with
 | false=>rfl
 | true =>
  rw [if_pos rfl]
  cases A9 rs e <;> rfl
def Z0:Rv->Ve->Res (Option Int)
 | .val (.int i),e=>.ok (some i) e
 | _,_=>.no
theorem Aja{j:Int}:Z0 (.val (.int j)) e=.ok (some j) e:=rfl
theorem Ajb:K8 A e=(A e).bnd Z0:=by
 unfold K8 M.bind Res.bnd
 cases A e with
 | no=>rfl
 | er x e1=>rfl
 | ok a e1=>cases a with
  | val d=>cases d <;> rfl
  | _=>rfl
theorem fSl_e{L U:M (Option Int)}:fSl A L U e=(A e).bnd fun a e1=>(L e1).bnd fun lo e2=>(U e2).bnd fun hi e3=>obn (Ag a e3) fun d=>obn (cutD d lo hi) fun r=>.ok r e3:=by
 unfold fSl M.bind Res.bnd
 cases A e with
 | no=>rfl
 | er x e1=>rfl
 | ok a e1 =>
  simp only
  cases L e1 with
  | no=>rfl
  | er x e1=>rfl
  | ok lo e2 =>
   simp only
   cases U e2 with
   | no=>rfl
   | er x e1=>rfl
   | ok hi e3 =>
    simp only
    cases Ag a e3 with
    | none=>rfl
    | some d =>
     show (match cutD d lo hi with | some r=>Res.ok r e3 | none=>.no)=obn (cutD d lo hi) _
     cases cutD d lo hi <;> rfl
def Z1:Rv->Ve->Res (List D)
 | .val d,e=>obn (Hq d) fun ds=>.ok ds e
 | _,_=>.no
theorem Ajc:Z1 (.val d) e=obn (Hq d) fun ds=>.ok ds e:=rfl
theorem Ajd:Dd A e=(Ad A e).bnd Z1:=by
 unfold Dd M.bind Res.bnd
 cases Ad A e with
 | no=>rfl
 | er x e1=>rfl
 | ok a e1=>cases a with
  | val d =>
   show (match Hq d with | some ds=>Res.ok ds e1 | none=>.no)=obn (Hq d) _
   cases Hq d <;> rfl
  | _=>rfl
def rngR:Rv->Ve->Res (List D)
 | .val (.int j),e=>ifb (decide (-(2 ^ 62)<=j/\j<2 ^ 62)) (.ok (Cg 0 j.toNat) e) .no
 | _,_=>.no
theorem Z2{j:Int}:rngR (.val (.int j)) e=ifb (decide (-(2 ^ 62)<=j/\j<2 ^ 62)) (.ok (Cg 0 j.toNat) e) .no:=rfl
theorem Z3:Fv A e=(A e).bnd rngR:=by
 unfold Fv M.bind Res.bnd
 cases A e with
 | no=>rfl
 | er x e1=>rfl
 | ok a e1=>cases a with
  | val d=>cases d <;> first | rfl | exact Ij
  | _=>rfl
def Ud:Rv->Ve->Res (List D)
 | .val (.lst ds),e=>.ok (Cj 0 ds) e
 | .val (.str l),e=>.ok (Cj 0 (l.map fun c=>.str [c])) e
 | _,_=>.no
theorem Aje:Od A e=(Ad A e).bnd Ud:=by
 unfold Od M.bind Res.bnd
 cases Ad A e with
 | no=>rfl
 | er x e1=>rfl
 | ok a e1=>cases a with
  | val d=>cases d <;> rfl
  | _=>rfl
theorem Ajf{ds:List D}:Ud (.val (.lst ds)) e=.ok (Cj 0 ds) e:=rfl
theorem Ajg{S:M (List D)}{F:D->M Unit}{X:M Ctl}:Ib S F X e=(S e).bnd fun ds e1=>B0 F X ds e1:=rfl
def forR(k:M Ctl):Ctl->Ve->Res Ctl
 | .nx,e=>k e
 | .ct,e=>k e
 | .bk,e=>.ok .nx e
 | .rt v,e=>.ok (.rt v) e
theorem Ajh{F:D->M Unit}{X:M Ctl}{r:List D}:B0 F X (d::r) e=(F d e).bnd fun _ e1=>(X e1).bnd (forR (B0 F X r)):=by
 show M.bind (F d) _ e=_
 unfold M.bind Res.bnd
 cases F d e with
 | no=>rfl
 | er x e1=>rfl
 | ok u e1 =>
  simp only
  cases X e1 with
  | no=>rfl
  | er x e2=>rfl
  | ok c e2=>cases c <;> rfl
theorem Aji{k:M Ctl}:forR k .nx e=k e:=rfl
theorem Ajj{k:M Ctl}{v:Rv}:forR k (.rt v) e=.ok (.rt v) e:=rfl
theorem Ajk{f:Str}:Em f A e=(A e).bnd fun r e1=>obn (Ag r e1) fun d=>obn (match d with | .ins _ fs=>fs.lookup f | _=>none) fun x=>.ok (.val x) e1:=by
 unfold Em M.bind Res.bnd
 cases A e with
 | no=>rfl
 | er x e1=>rfl
 | ok r e1 =>
  simp only
  cases Ag r e1 with
  | none=>rfl
  | some d =>
   cases d <;> try rfl
   rename_i c fs
   show (match fs.lookup f with | some d=>Res.ok (Rv.val d) e1 | none=>.no)=obn (fs.lookup f) _
   cases fs.lookup f <;> rfl
theorem Ajl{T:String}{f:D->List D->Option Rv}{L:M (List Rv)}:Mj T f A L e=(A e).bnd fun o e0=>obn (Ag o e0) fun d0=>ifb (tyD T d0) ((L e0).bnd fun rs e1=>obn (Ag o e1) fun d=>obn (Bv rs e1) fun ds=>obn (f d ds) fun r=>.ok r e1) .no:=by
 unfold Mj M.bind Res.bnd
 cases A e with
 | no=>rfl
 | er x e1=>rfl
 | ok o e0 =>
  simp only
  cases Ag o e0 with
  | none=>rfl
  | some d0 =>
   simp only
   show _=ifb (tyD T d0) _ _
   cases tyD T d0 with
   | false=>rfl
   | true =>
    rw [if_pos rfl]
    show _=Res.bnd (L e0) _
    cases L e0 with
    | no=>rfl
    | er x e1=>rfl
    | ok rs e1 =>
     simp only
     show _=obn (Ag o e1) fun d=>obn (Bv rs e1) fun ds=>obn (f d ds) fun r=>Res.ok r e1
     cases Ag o e1 with
     | none=>rfl
     | some d =>
      cases Bv rs e1 with
      | none=>rfl
      | some ds =>
       show (match f d ds with | some r=>Res.ok r e1 | none=>.no)=obn (f d ds) _
       cases f d ds <;> rfl
def Fb(args:List Sl):Res Ctl->Res Rv
 | .ok .nx e'=>.ok (.val .non) (backV args e')
 | .ok (.rt r) e'=>(match Fg r e' with
  | .ok r' e2=>.ok r' (backV args e2)
  | _=>.no)
 | .er x e'=>.er x (backV args e')
 | _=>.no
theorem Ik{np n:Nat}{X:M Ctl}{as:List Sl}(h:as.length=np):fnF np n X as=Fb as (X (as++List.replicate (n-as.length) .un)):=by
 unfold fnF
 rw [if_pos h]
 generalize X _=r
 cases r with
 | no=>rfl
 | er x e'=>rfl
 | ok c e'=>cases c <;> rfl
theorem Ajm{as:List Sl}:Fb as (.ok .nx e)=.ok (.val .non) (backV as e):=rfl
theorem Ajn{as:List Sl}:Fb as (.ok (.rt (.val d)) e)=.ok (.val d) (backV as e):=rfl
theorem Ajo{as:List Sl}:Fb as (.ok (.rt (.fresh d)) e)=.ok (.fresh d) (backV as e):=rfl
theorem Ajp{c:Str}{f:List Sl->Res Rv}{L:M (List Rv)}:Mn c f L e=(L e).bnd fun rs e1=>Hr c f rs e1:=rfl
theorem Ajq{f:D->D->D->Option D}{Ix V:M Rv}:Mm f i Ix V e=(Ad V e).bnd fun v e0=>obn ((e0[i]?).bind A5) fun _=>(Ad Ix e0).bnd fun ix e1=>match v,ix,e1[i]? with
  | .val v,.val ix,some s=>obn (A5 s) fun d=>obn (f d ix v) fun d'=>.ok .nx (e1.set i (B6 s d'))
  | _,_,_=>.no:=by
 unfold Mm M.bind Res.bnd
 cases Ad V e with
 | no=>rfl
 | er x e1=>rfl
 | ok v e0 =>
  simp only
  cases (e0[i]?).bind A5 with
  | none=>rfl
  | some z =>
   show _=(Ad Ix e0).bnd _
   simp only
   cases Ad Ix e0 with
   | no=>rfl
   | er x e1=>rfl
   | ok ix e1 =>
    show _=(match v,ix,e1[i]? with
     | .val v,.val ix,some s=>obn (A5 s) fun d=>obn (f d ix v) fun d'=>Res.ok Ctl.nx (e1.set i (B6 s d'))
     | _,_,_=>.no)
    simp only
    cases v <;> cases ix <;> cases e1[i]? <;> try rfl
    rename_i dv dx s
    show (match A5 s with | some d=>(match f d dx dv with | some d'=>Res.ok Ctl.nx (e1.set i (B6 s d')) | none=>.no) | none=>.no)=obn (A5 s) _
    cases A5 s with
    | none=>rfl
    | some d =>
     show (match f d dx dv with | some d'=>Res.ok Ctl.nx (e1.set i (B6 s d')) | none=>.no)=obn (f d dx dv) _
     cases f d dx dv <;> rfl
def Z4(k:M (List D))(vs:List Nat):Rv->Ve->Res (List D)
 | .val y,e=>(k (Ap e vs)).bnd fun ys e1=>.ok (y::ys) e1
 | _,_=>.no
theorem Ajr{k:M (List D)}{vs:List Nat}:Z4 k vs (.val d) e=(k (Ap e vs)).bnd fun ys e1=>.ok (d::ys) e1:=rfl
theorem Ajs{F:D->M Unit}{T:M Bool}{vs:List Nat}:lcL F T A vs [] e=.ok [] e:=rfl
theorem Qr{F:D->M Unit}{T:M Bool}{vs:List Nat}{r:List D}:lcL F T A vs (d::r) e=(F d e).bnd fun _ e1=>(T e1).bnd fun b e2=>ifb b ((Ad A e2).bnd (Z4 (lcL F T A vs r) vs)) (lcL F T A vs r (Ap e2 vs)):=by
 show M.bind (F d) _ e=_
 unfold M.bind Res.bnd
 cases F d e with
 | no=>rfl
 | er x e1=>rfl
 | ok u e1 =>
  simp only
  cases T e1 with
  | no=>rfl
  | er x e2=>rfl
  | ok b e2 =>
   cases b with
   | false=>rfl
   | true =>
    simp only [if_true]
    show _=(Ad A e2).bnd _
    cases Ad A e2 with
    | no=>rfl
    | er x e3=>rfl
    | ok y e3=>cases y <;> rfl
def Ue(e:Ve)(vs:List Nat):Res (List D)->Res Rv
 | .ok ys e'=>ifb (decide (ys.length<=sizeLine)) (.ok (.fresh (.lst ys)) (D5 e e' vs)) .no
 | _=>.no
theorem Ajt{ys:List D}{e':Ve}{vs:List Nat}:Ue e vs (.ok ys e')=ifb (decide (ys.length<=sizeLine)) (.ok (.fresh (.lst ys)) (D5 e e' vs)) .no:=rfl
theorem fLc_e{S:M (List D)}{F:D->M Unit}{T:M Bool}{vs:List Nat}:fLc S F T A vs e=(S e).bnd fun ds e1=>ifb (Ic e1 vs) (Ue e1 vs (lcL F T A vs ds (Ap e1 vs))) .no:=by
 unfold fLc M.bind Res.bnd
 cases S e with
 | no=>rfl
 | er x e1=>rfl
 | ok ds e1 =>
  simp only
  cases Ic e1 vs with
  | false=>rfl
  | true =>
   simp only [if_true]
   show _=Ue e1 vs (lcL F T A vs ds (Ap e1 vs))
   cases lcL F T A vs ds (Ap e1 vs) with
   | no=>rfl
   | er x e2=>rfl
   | ok ys e2=>exact Ij
end
section
variable{A B C:M Rv}{e:Ve}{d:D}{i:Nat}
theorem Aju:K6 A B e=(A e).bnd fun r e1=>obn (Ag r e1) fun d=>obn (Cq d) fun b=>ifb b (B e1) (.ok r e1):=by
 unfold K6 M.bind Res.bnd
 cases A e with
 | no=>rfl
 | er x e1=>rfl
 | ok r e1 =>
  simp only
  cases Ag r e1 with
  | none=>rfl
  | some d =>
   show (match Cq d with | some true=>B e1 | some false=>.ok r e1 | none=>.no)=obn (Cq d) _
   cases Cq d with
   | none=>rfl
   | some b=>cases b <;> rfl
theorem Ajv:Pw A B e=(A e).bnd fun r e1=>obn (Ag r e1) fun d=>obn (Cq d) fun b=>ifb b (.ok r e1) (B e1):=by
 unfold Pw M.bind Res.bnd
 cases A e with
 | no=>rfl
 | er x e1=>rfl
 | ok r e1 =>
  simp only
  cases Ag r e1 with
  | none=>rfl
  | some d =>
   show (match Cq d with | some false=>B e1 | some true=>.ok r e1 | none=>.no)=obn (Cq d) _
   cases Cq d with
   | none=>rfl
   | some b=>cases b <;> rfl
theorem Ajw:fNotV A e=(Cr A e).bnd fun b e1=>.ok (.val (.bl (!b))) e1:=rfl
def Z5(cs:List Str)(f:Str)(i:Nat):Rv->Ve->Res Ctl
 | .val v,e=>obn e[i]? fun s=>match A5 s with
  | some (.ins c fs)=>ifb (cs.contains c&&decide (fs.length<1000)) (.ok .nx (e.set i (B6 s (.ins c (Bl f v fs))))) .no
  | _=>.no
 | _,_=>.no
theorem Ajx{cs:List Str}{f:Str}{V:M Rv}:Fh cs f i V e=(Ad V e).bnd (Z5 cs f i):=by
 unfold Fh M.bind Res.bnd
 cases Ad V e with
 | no=>rfl
 | er x e1=>rfl
 | ok v e1 =>
  cases v with
  | val v =>
   show (match Rv.val v,e1[i]? with
    | .val v,some s=>(match A5 s with
     | some (.ins c fs)=>if cs.contains c=true/\fs.length<1000 then Res.ok Ctl.nx (e1.set i (B6 s (.ins c (Bl f v fs)))) else .no
     | _=>.no)
    | _,_=>.no)=obn e1[i]? _
   cases e1[i]? with
   | none=>rfl
   | some s =>
    show (match A5 s with
     | some (.ins c fs)=>if cs.contains c=true/\fs.length<1000 then Res.ok Ctl.nx (e1.set i (B6 s (.ins c (Bl f v fs)))) else .no
     | _=>.no)=(match A5 s with
     | some (.ins c fs)=>ifb (cs.contains c&&decide (fs.length<1000)) (Res.ok Ctl.nx (e1.set i (B6 s (.ins c (Bl f v fs))))) .no
     | _=>.no)
    cases A5 s with
    | none=>rfl
    | some d =>
     cases d <;> try rfl
     rename_i c fs
     show (if cs.contains c=true/\fs.length<1000 then Res.ok Ctl.nx (e1.set i (B6 s (.ins c (Bl f v fs)))) else .no)=ifb (cs.contains c&&decide (fs.length<1000)) _ _
     cases h1:cs.contains c <;> cases h2:decide (fs.length<1000)
     ·rw [if_neg (fun z=>by simp at z)]; rfl
     ·rw [if_neg (fun z=>by simp at z)]; rfl
     ·rw [if_neg (fun z=>by simp at h2; omega)]; rfl
     ·rw [if_pos ⟨rfl,of_decide_eq_true h2⟩]; rfl
  | _=>rfl
end
section
variable{A B C:M Rv}{e:Ve}{d:D}{i:Nat}
def chnR(f':D->D->Option Rv)(C:M Rv)(b:Rv)(e:Ve):Rv->Res Rv
 | .val (.bl true)=>(C e).bnd fun c e2=>obn (Ag b e2) fun y=>obn (Ag c e2) fun z=>obn (f' y z) fun r=>.ok r e2
 | .val (.bl false)=>.ok (.val (.bl false)) e
 | _=>.no
theorem chn_t{f':D->D->Option Rv}{b:Rv}:chnR f' C b e (.val (.bl true))=(C e).bnd fun c e2=>obn (Ag b e2) fun y=>obn (Ag c e2) fun z=>obn (f' y z) fun r=>.ok r e2:=rfl
theorem chn_f{f':D->D->Option Rv}{b:Rv}:chnR f' C b e (.val (.bl false))=.ok (.val (.bl false)) e:=rfl
theorem Ajy{f f':D->D->Option Rv}:L9 f f' A B C e=(A e).bnd fun a e1=>(B e1).bnd fun b e2=>obn (Ag a e2) fun x=>obn (Ag b e2) fun y=>obn (f x y) fun r=>chnR f' C b e2 r:=by
 unfold L9 M.bind Res.bnd
 cases A e with
 | no=>rfl
 | er x e1=>rfl
 | ok a e1 =>
  simp only
  cases B e1 with
  | no=>rfl
  | er x e2=>rfl
  | ok b e2 =>
   simp only
   cases Ag a e2 with
   | none=>rfl
   | some x =>
    cases Ag b e2 with
    | none=>rfl
    | some y =>
     show _=obn (f x y) _
     simp only
     cases f x y with
     | none=>rfl
     | some r =>
      cases r with
      | val d =>
       cases d with
       | bl q =>
        cases q with
        | false=>rfl
        | true =>
         show _=(C e2).bnd fun c e2=>obn (Ag b e2) fun y=>obn (Ag c e2) fun z=>obn (f' y z) fun r=>Res.ok r e2
         simp only
         cases C e2 with
         | no=>rfl
         | er x e3=>rfl
         | ok c e3 =>
          show _=obn (Ag b e3) fun y=>obn (Ag c e3) fun z=>obn (f' y z) fun r=>Res.ok r e3
          simp only
          cases Ag b e3 with
          | none=>rfl
          | some y2 =>
           cases Ag c e3 with
           | none=>rfl
           | some z =>
            show (match f' y2 z with | some r=>Res.ok r e3 | none=>.no)=obn (f' y2 z) _
            cases f' y2 z <;> rfl
       | _=>rfl
      | _=>rfl
def Z6(T:Str->Option (List Sl->Res Rv))(L:M (List Rv)):Rv->Ve->Res Rv
 | .val (.ins c fs),e=>obn (T c) fun F=>(L e).bnd fun rs e1=>Bj F (.val (.ins c fs)::rs) e1
 | _,_=>.no
theorem Ajz{T:Str->Option (List Sl->Res Rv)}{L:M (List Rv)}{c:Str}{fs:List (Str×D)}:Z6 T L (.val (.ins c fs)) e=obn (T c) fun F=>(L e).bnd fun rs e1=>Bj F (.val (.ins c fs)::rs) e1:=rfl
theorem Aj0{T:Str->Option (List Sl->Res Rv)}{L:M (List Rv)}:Yk T A L e=(Ad A e).bnd (Z6 T L):=by
 unfold Yk M.bind Res.bnd
 cases Ad A e with
 | no=>rfl
 | er x e1=>rfl
 | ok o e1 =>
  cases o with
  | val d =>
   cases d <;> try rfl
   rename_i c fs
   show _=obn (T c) _
   simp only
   cases T c with
   | none=>rfl
   | some F=>rfl
  | _=>rfl
theorem Aj1{c:Str}{f:List Sl->Res Rv}{rs:List Rv}:Hr c f rs e=ifb (Bp rs) (obn (A9 rs e) fun as=>Qj rs e (f (.bo (.ins c [])::as))) .no:=by
 unfold Hr
 cases Bp rs with
 | false=>rfl
 | true =>
  rw [if_pos rfl]
  cases A9 rs e <;> rfl
theorem Aj2{c:Str}{f:List Sl->Res Rv}{L L2:M (List Rv)}:Agf c f L L2 e=(L e).bnd fun rs e1=>(L2 e1).bnd fun zs e2=>Hr c f (rs++zs) e2:=rfl
theorem Z7{c:Str}{f:List Sl->Res Rv}{L:M (List Rv)}:Oe c f L e=(L e).bnd fun rs e1=>Hr c f rs e1:=rfl
theorem mk_bo{rs:List Rv}{as:List Sl}:Qj rs e (.ok (.val .non) (.bo d::as))=.ok (.fresh d) (A6 rs as e):=rfl
theorem mk_bf{rs:List Rv}{as:List Sl}:Qj rs e (.ok (.val .non) (.bf d::as))=.ok (.val d) (A6 rs as e):=rfl
end
section
variable{A B C:M Rv}{e:Ve}{d:D}{i:Nat}
def fmtR:Rv->Ve->Res Rv
 | .val (.str l),e=>ifb (decide (l.length<=sizeLine)) (.ok (.val (.str l)) e) .no
 | .val (.int i),e=>ifb (decide (i.natAbs.log2<1920)&&(G7 i).all (·< 1114112)) (.ok (.val (.str (G7 i))) e) .no
 | _,_=>.no
theorem Aj3{l:List Nat}:fmtR (.val (.str l)) e=ifb (decide (l.length<=sizeLine)) (.ok (.val (.str l)) e) .no:=rfl
theorem Aj4{j:Int}:fmtR (.val (.int j)) e=ifb (decide (j.natAbs.log2<1920)&&(G7 j).all (·< 1114112)) (.ok (.val (.str (G7 j))) e) .no:=rfl
theorem Aj5:fFmt A e=(A e).bnd fmtR:=by
 unfold fFmt M.bind Res.bnd
 cases A e with
 | no=>rfl
 | er x e1=>rfl
 | ok r e1 =>
  cases r with
  | val d =>
   cases d <;> try rfl
   ·rename_i j
    show (if j.natAbs.log2<1920/\(G7 j).all (·< 1114112)=true then Res.ok (Rv.val (D.str (G7 j))) e1 else .no)=ifb (decide (j.natAbs.log2<1920)&&(G7 j).all (·< 1114112)) _ _
    by_cases h:j.natAbs.log2<1920/\(G7 j).all (·< 1114112)=true
    ·rw [if_pos h,decide_eq_true h.1,h.2]; rfl
    ·rw [if_neg h]
     by_cases h1:j.natAbs.log2<1920
     ·rw [decide_eq_true h1]
      cases q:(G7 j).all (·< 1114112)
      ·rfl
      ·exact absurd ⟨h1,q⟩ h
     ·rw [decide_eq_false h1]; rfl
   ·exact Ij
  | _=>rfl
def jsR(As:List (M Rv))(acc:List Nat):Rv->Ve->Res (List Nat)
 | .val (.str l),e=>ifb (decide (acc.length+l.length<=sizeLine)) (fJs As (acc++l) e) .no
 | _,_=>.no
theorem Aj6{As:List (M Rv)}{acc l:List Nat}:jsR As acc (.val (.str l)) e=ifb (decide (acc.length+l.length<=sizeLine)) (fJs As (acc++l) e) .no:=rfl
theorem Aj7{acc:List Nat}:fJs [] acc e=.ok acc e:=rfl
theorem Aj8{As:List (M Rv)}{acc:List Nat}:fJs (A::As) acc e=(A e).bnd (jsR As acc):=by
 show M.bind A _ e=_
 unfold M.bind Res.bnd
 cases A e with
 | no=>rfl
 | er x e1=>rfl
 | ok r e1 =>
  cases r with
  | val d =>
   cases d <;> try rfl
   rename_i l
   show (if acc.length+l.length<=sizeLine then fJs As (acc++l) else fNo) e1=ifb (decide (acc.length+l.length<=sizeLine)) _ _
   by_cases h:acc.length+l.length<=sizeLine
   ·rw [if_pos h,decide_eq_true h]; rfl
   ·rw [if_neg h,decide_eq_false h]; rfl
  | _=>rfl
theorem Aj9{As:List (M Rv)}:Agj As e=(fJs As [] e).bnd fun l e1=>.ok (.val (.str l)) e1:=rfl
theorem Aka{T:String}{f:D->List D->Option (D×D)}{L:M (List Rv)}:fMut T f i L e=obn ((e[i]?).bind A5) fun d0=>ifb (tyM T d0) ((L e).bnd fun rs e1=>obn (Cf rs) fun ds=>obn e1[i]? fun s=>obn (A5 s) fun d=>obn (f d ds) fun p=>.ok (.val p.2) (e1.set i (B6 s p.1))) .no:=by
 unfold fMut
 cases (e[i]?).bind A5 with
 | none=>rfl
 | some d0 =>
  show (if tyM T d0=true then _ else Res.no)=ifb (tyM T d0) _ _
  cases tyM T d0 with
  | false=>rfl
  | true =>
   rw [if_pos rfl]
   show M.bind L _ e=(L e).bnd _
   unfold M.bind Res.bnd
   cases L e with
   | no=>rfl
   | er x e1=>rfl
   | ok rs e1 =>
    simp only
    cases Cf rs with
    | none=>rfl
    | some ds =>
     cases e1[i]? with
     | none=>rfl
     | some s =>
      show (match A5 s with | some d=>(match f d ds with | some (d',dr)=>Res.ok (Rv.val dr) (e1.set i (B6 s d')) | none=>.no) | none=>.no)=obn (A5 s) _
      cases A5 s with
      | none=>rfl
      | some d =>
       show (match f d ds with | some (d',dr)=>Res.ok (Rv.val dr) (e1.set i (B6 s d')) | none=>.no)=obn (f d ds) _
       cases f d ds <;> rfl
end
section
variable{A B C:M Rv}{e:Ve}{d:D}{i:Nat}
theorem Akb{k:List (List Nat×D)->M (List (List Nat×D))}{vs:List Nat}{acc:List (List Nat×D)}{s:List Nat}:Yr k vs acc (.val (.str s)) (.val d) e=ifb (decide (acc.length<sizeLine)) (k (Ci acc s d) (Ap e vs)) .no:=Ij
def Ug(e:Ve)(vs:List Nat):Res (List (List Nat×D))->Res Rv
 | .ok ys e'=>.ok (.fresh (.dct ys)) (D5 e e' vs)
 | _=>.no
theorem Akc{ys:List (List Nat×D)}{e':Ve}{vs:List Nat}:Ug e vs (.ok ys e')=.ok (.fresh (.dct ys)) (D5 e e' vs):=rfl
theorem fDc_e{S:M (List D)}{F:D->M Unit}{T:M Bool}{vs:List Nat}:fDc S F T A B vs e=(S e).bnd fun ds e1=>ifb (Ic e1 vs) (Ug e1 vs (dcL F T A B vs ds [] (Ap e1 vs))) .no:=by
 unfold fDc M.bind Res.bnd
 cases S e with
 | no=>rfl
 | er x e1=>rfl
 | ok ds e1 =>
  simp only
  cases Ic e1 vs with
  | false=>rfl
  | true =>
   simp only [if_true]
   show _=Ug e1 vs (dcL F T A B vs ds [] (Ap e1 vs))
   cases dcL F T A B vs ds [] (Ap e1 vs) <;> rfl
def Z8(i j:Nat):List Rv->Ve->Res Ctl
 | [a,b],e=>(stoN i a e).bnd fun _ e1=>(stoN j b e1).bnd fun _ e2=>.ok .nx e2
 | _,_=>.no
def Z9(i j l:Nat):List Rv->Ve->Res Ctl
 | [a,b,c],e=>(stoN i a e).bnd fun _ e1=>(stoN j b e1).bnd fun _ e2=>(stoN l c e2).bnd fun _ e3=>.ok .nx e3
 | _,_=>.no
theorem Akd{j:Nat}{a b:Rv}:Z8 i j [a,b] e=(stoN i a e).bnd fun _ e1=>(stoN j b e1).bnd fun _ e2=>.ok .nx e2:=rfl
theorem Ake{j l:Nat}{a b c:Rv}:Z9 i j l [a,b,c] e=(stoN i a e).bnd fun _ e1=>(stoN j b e1).bnd fun _ e2=>(stoN l c e2).bnd fun _ e3=>.ok .nx e3:=rfl
theorem Akf{j:Nat}{L:M (List Rv)}:Mo i j L e=(L e).bnd (Z8 i j):=by
 unfold Mo M.bind Res.bnd
 cases L e with
 | no=>rfl
 | er x e1=>rfl
 | ok rs e1 =>
  match rs with
  | []=>rfl
  | [a]=>rfl
  | [a,b]=>rfl
  | a::b::c::r=>rfl
theorem Akg{j l:Nat}{L:M (List Rv)}:Yp i j l L e=(L e).bnd (Z9 i j l):=by
 unfold Yp M.bind Res.bnd
 cases L e with
 | no=>rfl
 | er x e1=>rfl
 | ok rs e1 =>
  match rs with
  | []=>rfl
  | [a]=>rfl
  | [a,b]=>rfl
  | [a,b,c]=>rfl
  | a::b::c::d::r=>rfl
theorem Akh:stoN i (.val d) e=ifb (Ax e i) (.ok () (e.set i (.sh d))) .no:=by
 show (if Ax e i=true then Res.ok () (e.set i (.sh d)) else .no)=_
 cases Ax e i <;> rfl
theorem Aki:stoN i (.fresh d) e=ifb (Ax e i) (.ok () (e.set i (.ow d))) .no:=by
 show (if Ax e i=true then Res.ok () (e.set i (.ow d)) else .no)=_
 cases Ax e i <;> rfl
def revR:D->Ve->Res Rv
 | .lst ds,e=>.ok (.fresh (.lst ds.reverse)) e
 | .str l,e=>ifb (decide (l.length<=sizeLine)) (.ok (.val (.str l.reverse)) e) .no
 | _,_=>.no
theorem Akj{ds:List D}:revR (.lst ds) e=.ok (.fresh (.lst ds.reverse)) e:=rfl
theorem Akk:fRev A e=(A e).bnd fun r e1=>obn (Ag r e1) fun d=>revR d e1:=by
 unfold fRev M.bind Res.bnd
 cases A e with
 | no=>rfl
 | er x e1=>rfl
 | ok r e1 =>
  simp only
  cases Ag r e1 with
  | none=>rfl
  | some d =>
   cases d <;> first | rfl | exact Ij
theorem Akl:Ia [] e=.ok () e:=rfl
theorem Akm{F:D->M Unit}{Fs:List D->M Unit}{r:List D}:Dc F Fs (d::r) e=(F d e).bnd fun _ e1=>Fs r e1:=rfl
theorem gTup2{Fs:List D->M Unit}{a b:D}:E7 2 Fs (.tup [a,b]) e=Fs [a,b] e:=rfl
theorem gTup3{Fs:List D->M Unit}{a b c:D}:E7 3 Fs (.tup [a,b,c]) e=Fs [a,b,c] e:=rfl
end
section
variable{A B C:M Rv}{e:Ve}{d:D}{i:Nat}
def Aaa(a:Rv)(B C:M Rv):D->Ve->Res Rv
 | .dct _,e0=>(B e0).bnd fun y e1=>(Ad C e1).bnd fun z e=>match Ag a e,Ag y e,z with
  | some (.dct kvs),some (.str k),.val d=>.ok (.val ((B1 kvs k).getD d)) e
  | _,_,_=>.no
 | _,_=>.no
theorem Akn{a:Rv}{kvs:List (List Nat×D)}:Aaa a B C (.dct kvs) e=(B e).bnd fun y e1=>(Ad C e1).bnd fun z e=>match Ag a e,Ag y e,z with
  | some (.dct kvs),some (.str k),.val d=>.ok (.val ((B1 kvs k).getD d)) e
  | _,_,_=>.no:=rfl
theorem Ako:Y0 A B C e=(A e).bnd fun a e0=>obn (Ag a e0) fun d=>Aaa a B C d e0:=by
 unfold Y0 M.bind Res.bnd
 cases A e with
 | no=>rfl
 | er x e1=>rfl
 | ok a e0 =>
  simp only
  cases Ag a e0 with
  | none=>rfl
  | some d=>cases d <;> rfl
def negR:Rv->Ve->Res Rv
 | .val (.int i),e=>.ok (.val (.int (-i))) e
 | _,_=>.no
theorem Akp{j:Int}:negR (.val (.int j)) e=.ok (.val (.int (-j))) e:=rfl
theorem Akq:fNeg A e=(A e).bnd negR:=by
 unfold fNeg M.bind Res.bnd
 cases A e with
 | no=>rfl
 | er x e1=>rfl
 | ok a e1=>cases a with
  | val d=>cases d <;> rfl
  | _=>rfl
def Aab(T:UInt64->Option (List Sl->Res Rv))(L:M (List Rv)):Option Sl->Ve->Res Rv
 | some (.sh (.con (.flt j))),e=>obn (T j) fun F=>Az F L e
 | _,_=>.no
theorem Akr{T:UInt64->Option (List Sl->Res Rv)}{L:M (List Rv)}{j:UInt64}:Aab T L (some (.sh (.con (.flt j)))) e=obn (T j) fun F=>Az F L e:=rfl
theorem Aks{T:UInt64->Option (List Sl->Res Rv)}{L:M (List Rv)}:Yu T i L e=Aab T L e[i]? e:=by
 unfold Yu
 generalize e[i]? = o
 cases o with
 | none=>rfl
 | some s =>
  cases s with
  | sh d =>
   cases d with
   | con u =>
    cases u with
    | flt j =>
     show (match T j with | some F=>Az F L e | none=>.no)=obn (T j) _
     cases T j <;> rfl
    | _=>rfl
   | _=>rfl
  | _=>rfl
end
section
variable{e:Ve}{i:Nat}{F:D->M Unit}{X:M Ctl}
def Ol(i:Nat)(F:D->M Unit)(X:M Ctl):Option Sl->Ve->Res Ctl
 | some (.ow (.lst ds)),e=>okR (fun e'=>e'.set i (.ow (.lst ds))) (B0 F X ds (e.set i (.lo (.lst ds))))
 | some (.bo (.lst ds)),e=>okR (fun e'=>e'.set i (.bo (.lst ds))) (B0 F X ds (e.set i (.lo (.lst ds))))
 | some (.lo (.lst ds)),e=>B0 F X ds e
 | _,e=>Ib (Dd (Ab i)) F X e
theorem Akt{ds:List D}:Ol i F X (some (.ow (.lst ds))) e=okR (fun e'=>e'.set i (.ow (.lst ds))) (B0 F X ds (e.set i (.lo (.lst ds)))):=rfl
theorem Aku{ds:List D}:Ol i F X (some (.bo (.lst ds))) e=okR (fun e'=>e'.set i (.bo (.lst ds))) (B0 F X ds (e.set i (.lo (.lst ds)))):=rfl
theorem Akv{d:D}:Ol i F X (some (.sh d)) e=Ib (Dd (Ab i)) F X e:=rfl
theorem Akw{d:D}:Ol i F X (some (.bf d)) e=Ib (Dd (Ab i)) F X e:=rfl
theorem Akx:Y2 i F X e=Ol i F X e[i]? e:=by
 unfold Y2
 generalize e[i]? = o
 cases o with
 | none=>rfl
 | some s=>cases s <;> first | rfl | (rename_i d; cases d <;> rfl)
end
section
variable{A B C:M Rv}{e:Ve}{d:D}{i:Nat}
def Aac(T:Str->Option (List Sl->Res Rv))(m:Str)(L:M (List Rv))(o:Rv):D->Ve->Res Rv
 | .ins c fs,e=>ifb (fs.lookup m).isNone (obn (T c) fun F=>(L e).bnd fun rs e1=>Bj F (o::rs) e1) .no
 | _,_=>.no
theorem Aky{T:Str->Option (List Sl->Res Rv)}{m:Str}{L:M (List Rv)}{o:Rv}{c:Str}{fs:List (Str×D)}:Aac T m L o (.ins c fs) e=ifb (fs.lookup m).isNone (obn (T c) fun F=>(L e).bnd fun rs e1=>Bj F (o::rs) e1) .no:=rfl
theorem Akz{T:Str->Option (List Sl->Res Rv)}{m:Str}{L:M (List Rv)}:Lc T m A L e=(A e).bnd fun o e0=>obn (Ag o e0) fun d=>Aac T m L o d e0:=by
 unfold Lc M.bind Res.bnd
 cases A e with
 | no=>rfl
 | er x e1=>rfl
 | ok o e0 =>
  simp only
  cases Ag o e0 with
  | none=>rfl
  | some d =>
   cases d <;> try rfl
   rename_i c fs
   show (if (fs.lookup m).isNone=true then _ else Res.no)=ifb (fs.lookup m).isNone _ _
   cases (fs.lookup m).isNone with
   | false=>rfl
   | true =>
    rw [if_pos rfl]
    show (match T c with | some F=>_ | none=>Res.no)=obn (T c) _
    cases T c <;> rfl
def whR(k:M Ctl):Ctl->Ve->Res Ctl
 | .nx,e=>k e
 | .ct,e=>k e
 | .bk,e=>.ok .nx e
 | .rt v,e=>.ok (.rt v) e
theorem wh_nx{k:M Ctl}:whR k .nx e=k e:=rfl
theorem wh_rt{k:M Ctl}{v:Rv}:whR k (.rt v) e=.ok (.rt v) e:=rfl
def augR(i:Nat)(A:M Rv):Option Sl->Ve->Res Ctl
 | some (.sh d0),e=>(A e).bnd fun r e1=>obn (Ag r e1) fun d=>obn (Mp d0 d) fun out=>D4 i (.val out) e1
 | some (.ow (.lst _)),e=>(A e).bnd fun r e1=>match e1[i]?,Ag r e1 with
  | some (.ow (.lst xs)),some (.lst ys)=>ifb (decide (xs.length+ys.length<=sizeLine)) (.ok .nx (e1.set i (.ow (.lst (xs++ys))))) .no
  | _,_=>.no
 | _,_=>.no
theorem Ak0{d0:D}:augR i A (some (.sh d0)) e=(A e).bnd fun r e1=>obn (Ag r e1) fun d=>obn (Mp d0 d) fun out=>D4 i (.val out) e1:=rfl
theorem Ak1{l:List D}:augR i A (some (.ow (.lst l))) e=(A e).bnd fun r e1=>match e1[i]?,Ag r e1 with
  | some (.ow (.lst xs)),some (.lst ys)=>ifb (decide (xs.length+ys.length<=sizeLine)) (.ok .nx (e1.set i (.ow (.lst (xs++ys))))) .no
  | _,_=>.no:=rfl
theorem Ak2:fAug i A e=augR i A e[i]? e:=by
 unfold fAug
 generalize e[i]? = o
 cases o with
 | none=>rfl
 | some s =>
  cases s with
  | sh d0 =>
   show (A.bind _) e=(A e).bnd _
   unfold M.bind Res.bnd
   cases A e with
   | no=>rfl
   | er x e1=>rfl
   | ok r e1 =>
    simp only
    cases Ag r e1 with
    | none=>rfl
    | some d =>
     show (match Mp d0 d with | some out=>_ | none=>Res.no)=obn (Mp d0 d) _
     cases Mp d0 d <;> rfl
  | ow d =>
   cases d <;> try rfl
   show (A.bind _) e=(A e).bnd _
   unfold M.bind Res.bnd
   cases A e with
   | no=>rfl
   | er x e1=>rfl
   | ok r e1 =>
    simp only
    generalize e1[i]? = o1
    generalize Ag r e1=o2
    cases o1 <;> try rfl
    rename_i s1
    cases s1 <;> try rfl
    rename_i d1
    cases d1 <;> try rfl
    cases o2 <;> try rfl
    rename_i d2
    cases d2 <;> first | rfl | exact Ij
  | _=>rfl
end
theorem Ak3{α:Type}(a:α)(r:List α):atI (a::r) 0=some a:=by
 unfold atI
 simp [ixN]
theorem Ak4{α:Type}(a b:α)(r:List α):atI (a::b::r) 1=some b:=by
 have h:(1:Int)<(r.length:Int)+1+1:=by omega
 unfold atI
 simp [ixN,h]
theorem Ak5{α:Type}(a b c:α)(r:List α):atI (a::b::c::r) 2=some c:=by
 have h:(2:Int)<(r.length:Int)+1+1+1:=by omega
 unfold atI
 simp [ixN,h]
theorem Ak6(n:Nat):ixN (n+1) 0=some 0:=by simp [ixN]
theorem Ak7(n:Nat):ixN (n+2) 1=some 1:=by
 have h:(1:Int)<(n:Int)+2:=by omega
 simp [ixN,h]
theorem Ak8(n:Nat):ixN (n+3) 2=some 2:=by
 have h:(2:Int)<(n:Int)+3:=by omega
 simp [ixN,h]
theorem ix3{α:Type}(a b c:α):ixN [a,b,c].length 0=some 0/\ixN [a,b,c].length 1=some 1/\ixN [a,b,c].length 2=some 2:=⟨rfl,rfl,rfl⟩
theorem Ak9(i j:Int):eqG (.int i) (.int j)=some (.val (.bl (i==j))):=rfl
theorem Ala(a b:List Nat):eqG (.str a) (.str b)=some (.val (.bl (decide (a=b)))):=rfl
theorem Alb(a b:List Nat):neG (.str a) (.str b)=some (.val (.bl (!decide (a=b)))):=rfl
theorem Alc(i j:Bool):eqG (.bl i) (.bl j)=some (.val (.bl (i==j))):=rfl
theorem sz3(a b c:D):decide ([a,b,c].length<=sizeLine)=true:=by rw [sizeLine_eq]; rfl
theorem sz2(a b:D):decide ([a,b].length<=sizeLine)=true:=by rw [sizeLine_eq]; rfl
theorem sz1(a:D):decide ([a].length<=sizeLine)=true:=by rw [sizeLine_eq]; rfl
section
variable{n:Nat}{X:M Ctl}
theorem fnF_0:fnF 0 n X []=Fb [] (X ([]++List.replicate (n-0) .un)):=Ik rfl
theorem fnF_1{a0:Sl}:fnF 1 n X [a0]=Fb [a0] (X ([a0]++List.replicate (n-1) .un)):=Ik rfl
theorem fnF_2{a0 a1:Sl}:fnF 2 n X [a0,a1]=Fb [a0,a1] (X ([a0,a1]++List.replicate (n-2) .un)):=Ik rfl
theorem fnF_3{a0 a1 a2:Sl}:fnF 3 n X [a0,a1,a2]=Fb [a0,a1,a2] (X ([a0,a1,a2]++List.replicate (n-3) .un)):=Ik rfl
theorem fnF_4{a0 a1 a2 a3:Sl}:fnF 4 n X [a0,a1,a2,a3]=Fb [a0,a1,a2,a3] (X ([a0,a1,a2,a3]++List.replicate (n-4) .un)):=Ik rfl
theorem fnF_5{a0 a1 a2 a3 a4:Sl}:fnF 5 n X [a0,a1,a2,a3,a4]=Fb [a0,a1,a2,a3,a4] (X ([a0,a1,a2,a3,a4]++List.replicate (n-5) .un)):=Ik rfl
theorem fnF_6{a0 a1 a2 a3 a4 a5:Sl}:fnF 6 n X [a0,a1,a2,a3,a4,a5]=Fb [a0,a1,a2,a3,a4,a5] (X ([a0,a1,a2,a3,a4,a5]++List.replicate (n-6) .un)):=Ik rfl
theorem fnF_7{a0 a1 a2 a3 a4 a5 a6:Sl}:fnF 7 n X [a0,a1,a2,a3,a4,a5,a6]=Fb [a0,a1,a2,a3,a4,a5,a6] (X ([a0,a1,a2,a3,a4,a5,a6]++List.replicate (n-7) .un)):=Ik rfl
theorem fnF_8{a0 a1 a2 a3 a4 a5 a6 a7:Sl}:fnF 8 n X [a0,a1,a2,a3,a4,a5,a6,a7]=Fb [a0,a1,a2,a3,a4,a5,a6,a7] (X ([a0,a1,a2,a3,a4,a5,a6,a7]++List.replicate (n-8) .un)):=Ik rfl
end
theorem Ald(i j:Int):Bb (.int i) (.int j)=some (.val (.int (i+j))):=rfl
theorem Ale(i j:Int):N3 (.int i) (.int j)=some (.val (.int (i-j))):=rfl
theorem Alf{i j:Int}(h:0<j):Ji (.int i) (.int j)=some (.val (.int (i % j))):=by
 show (if 0<j then some (D.int (i % j)) else none).map Rv.val=_
 rw [if_pos h]; rfl
theorem Aad{i j:Int}(h:0<j)(h2:j<2 ^ 200):N4 (.int i) (.int j)=some (.val (.int (i / j))):=by
 show (if 0<j/\j<2 ^ 200 then some (D.int (i / j)) else none).map Rv.val=_
 rw [if_pos ⟨h,h2⟩]; rfl
theorem Qs{i j:Int}(h:-(2 ^ 64)<j)(h2:j<2 ^ 64):Eu (.int i) (.int j)=some (.val (.int (i*j))):=by
 show (if (-(2 ^ 64)<i/\i<2 ^ 64)\/(-(2 ^ 64)<j/\j<2 ^ 64) then some (Rv.val (D.int (i*j))) else none)=_
 rw [if_pos (.inr ⟨h,h2⟩)]
theorem Alh:Ih (.int 10) (.int 18)=some (.val (.int (10 ^ 18))):=by
 show (if (0:Int)<=18/\(18:Int)<=1000/\-(2 ^ 60)<(10:Int)/\(10:Int)<2 ^ 60 then some (D.int (10 ^ (18:Int).toNat)) else none).map Rv.val=_
 rw [if_pos (by decide)]; rfl
theorem Ali(i j:Int):ltD (.int i) (.int j)=some (.val (.bl (decide (i<j)))):=rfl
theorem Alj(i j:Int):leD (.int i) (.int j)=some (.val (.bl (decide (i<=j)))):=rfl
theorem Alk(i j:Int):gtD (.int i) (.int j)=some (.val (.bl (decide (j<i)))):=rfl
theorem Alm(i j:Int):geD (.int i) (.int j)=some (.val (.bl (decide (j<=i)))):=rfl
theorem Aln(a b:List Nat):ltD (.str a) (.str b)=some (.val (.bl (decide (a<b)))):=rfl
theorem Alo(a b:List Nat):leD (.str a) (.str b)=some (.val (.bl (!decide (b<a)))):=rfl
theorem Alp(a b:List Nat):gtD (.str a) (.str b)=some (.val (.bl (decide (b<a)))):=rfl
theorem Alq(a b:List Nat):geD (.str a) (.str b)=some (.val (.bl (!decide (a<b)))):=rfl
theorem Aae(l:List D):B2 [.lst l]=some (.val (.int l.length)):=rfl
theorem Alr(l:List D):B2 [.tup l]=some (.val (.int l.length)):=rfl
theorem Als(l:List Int):B2 [.scr l]=some (.val (.int l.length)):=rfl
theorem Alu(l:List (List Nat×D)):B2 [.dct l]=some (.val (.int l.length)):=rfl
theorem Aaf{l:List Nat}(h:l.length<=16777216):B2 [.str l]=some (.val (.int l.length)):=by
 show (if l.length<=sizeLine then some (Rv.val (D.int l.length)) else none)=_
 rw [if_pos (by rw [sizeLine_eq]; exact h)]
theorem ixA_0(a:D)(r:List D):ixA (.lst (a::r)) (.int 0)=some (.val a):=by
 show (match (atI (a::r) 0).map Rv.val with | some r=>some r | none=>_)=_
 rw [Ak3]; rfl
theorem ixA_1(a b:D)(r:List D):ixA (.lst (a::b::r)) (.int 1)=some (.val b):=by
 show (match (atI (a::b::r) 1).map Rv.val with | some r=>some r | none=>_)=_
 rw [Ak4]; rfl
theorem ixA_2(a b c:D)(r:List D):ixA (.lst (a::b::c::r)) (.int 2)=some (.val c):=by
 show (match (atI (a::b::c::r) 2).map Rv.val with | some r=>some r | none=>_)=_
 rw [Ak5]; rfl
theorem Alv(ns:List Int)(i:Int):ixA (.scr ns) (.int i)=(atI ns i).map fun n=>.val (.int n):=by
 show (match (atI ns i).map (fun n=>Rv.val (D.int n)) with | some r=>some r | none=>none)=_
 cases atI ns i <;> rfl
theorem Alw(l:List Nat):tyD "str" (.str l)=true:=rfl
theorem Alx(l:List D):tyD "list" (.lst l)=true:=rfl
theorem Aly:isE .non .non=some (.val (.bl true)):=rfl
theorem Alz(i:Int):isE (.int i) .non=some (.val (.bl false)):=rfl
theorem Al0(l:List Nat):isE (.str l) .non=some (.val (.bl false)):=rfl
theorem Al1(l:List D):isE (.lst l) .non=some (.val (.bl false)):=rfl
theorem Al2(l:List D):isE (.tup l) .non=some (.val (.bl false)):=rfl
theorem Al3:N7 .non .non=some (.val (.bl false)):=rfl
theorem Al4(i:Int):N7 (.int i) .non=some (.val (.bl true)):=rfl
theorem Al5(l:List Nat):N7 (.str l) .non=some (.val (.bl true)):=rfl
theorem Al6(l:List D):N7 (.lst l) .non=some (.val (.bl true)):=rfl
theorem Al7(l:List D):N7 (.tup l) .non=some (.val (.bl true)):=rfl
theorem Al8{as:List Sl}{e:Ve}{i:Nat}:Fb as (.ok (.rt (.slot i)) e)=(match Fg (.slot i) e with | .ok r' e2=>.ok r' (backV as e2) | _=>.no):=rfl
theorem Al9(k:List (List Nat×D)):tyM "dict" (.dct k)=true:=rfl
theorem Ama(l:List D):tyM "list" (.lst l)=true:=rfl
theorem szn_0:decide (0<=sizeLine)=true:=by rw [sizeLine_eq]; rfl
theorem szn_1:decide (1<=sizeLine)=true:=by rw [sizeLine_eq]; rfl
theorem szn_2:decide (2<=sizeLine)=true:=by rw [sizeLine_eq]; rfl
theorem szn_3:decide (3<=sizeLine)=true:=by rw [sizeLine_eq]; rfl
theorem szn_4:decide (4<=sizeLine)=true:=by rw [sizeLine_eq]; rfl
theorem szn_5:decide (5<=sizeLine)=true:=by rw [sizeLine_eq]; rfl
theorem szn_6:decide (6<=sizeLine)=true:=by rw [sizeLine_eq]; rfl
theorem szn_7:decide (7<=sizeLine)=true:=by rw [sizeLine_eq]; rfl
theorem szn_8:decide (8<=sizeLine)=true:=by rw [sizeLine_eq]; rfl
theorem szn_9:decide (9<=sizeLine)=true:=by rw [sizeLine_eq]; rfl
theorem Amb:decide (10<=sizeLine)=true:=by rw [sizeLine_eq]; rfl
theorem Amc:decide (11<=sizeLine)=true:=by rw [sizeLine_eq]; rfl
theorem Amd:decide (12<=sizeLine)=true:=by rw [sizeLine_eq]; rfl
theorem Ame:decide (13<=sizeLine)=true:=by rw [sizeLine_eq]; rfl
theorem Amf:decide (14<=sizeLine)=true:=by rw [sizeLine_eq]; rfl
theorem Amg:decide (15<=sizeLine)=true:=by rw [sizeLine_eq]; rfl
theorem Amh:decide (16<=sizeLine)=true:=by rw [sizeLine_eq]; rfl
def Om(x:Str)(fs:List Str)(rs:List Rv)(e:Ve):Res Ctl:=match Cf rs with
 | some ds=>if ds.length=fs.length/\ds.length<=1000 then .er (x,(fs.zip ds).reverse) e else .no
 | none=>.no
section
variable{x y f h:Str}{fs:List Str}{d d':D}{e:Ve}{A:M (List Rv)}{i:Nat}{outs:List Str}{F:List (Str×D)->Option (List D)}{B:M Ctl}{xs:List (Str×D)}
theorem Ami:Lf x fs A e=(A e).bnd (Om x fs):=rfl
theorem Amj:Om x [f] [.val d] e=.er (x,[(f,d)]) e:=by simp [Om,Cf]
theorem Amk:Om x [f,h] [.val d,.val d'] e=.er (x,[(h,d'),(f,d)]) e:=by simp [Om,Cf]
theorem Aml{as:List Sl}{z:Exn}:Fb as (.er z e)=.er z (backV as e):=rfl
def Oo(y:Str)(outs:List Str)(i:Nat)(f:List (Str×D)->Option (List D)):Res Ctl->Res Ctl
 | .er x e'=>if x.1=y/\i<e'.length/\x.2≠[] then (match f x.2 with | some ds=>if ds.length<=sizeLine then .ok (.rt (.fresh (.lst ds))) e' else .no | none=>.no) else if x.1∈outs then .er x e' else .no
 | r=>r
theorem Amm:fTry y outs i F B e=Oo y outs i F (B e):=by
 unfold fTry Oo
 cases B e <;> rfl
theorem Amn{c:Ctl}:Oo y outs i F (.ok c e)=.ok c e:=rfl
theorem Amo:Oo y outs i F (.er (y,xs) e)=ifb (decide (i<e.length) && !xs.isEmpty) (obn (F xs) fun ds=>ifb (decide (ds.length<=sizeLine)) (.ok (.rt (.fresh (.lst ds))) e) .no) (Oo y outs i F (.er (y,xs) e)):=by
 show (if y=y/\i<e.length/\xs≠[] then _ else _)=_
 by_cases h1:i<e.length
 ·cases xs with
  | nil=>rw [decide_eq_true h1]; rfl
  | cons p r =>
   rw [decide_eq_true h1,if_pos ⟨rfl,h1,by simp⟩]
   show (match F (p::r) with | some ds=>_ | none=>_)=obn (F (p::r)) _
   cases F (p::r) with
   | none=>rfl
   | some ds =>
    show (if ds.length<=sizeLine then _ else _)=ifb (decide (ds.length<=sizeLine)) _ _
    by_cases h2:ds.length<=sizeLine
    ·rw [if_pos h2,decide_eq_true h2]; rfl
    ·rw [if_neg h2,decide_eq_false h2]; rfl
 ·rw [decide_eq_false h1]; rfl
theorem Amp:Jn xs=some []:=rfl
theorem Amq{g:List (Str×D)->Option D}{r:List (Str×D)->Option (List D)}:Bq g r xs=(g xs).bind fun d=>(r xs).map (d :: ·):=rfl
theorem xC_e:xC d xs=some d:=rfl
theorem xF_1{r:List (Str×D)}:xF f ((f,d)::r)=some d:=by
 show List.lookup f ((f,d)::r)=_
 simp [List.lookup]
theorem Amr{g:List D->Option Rv}:xApp g F xs=(F xs).bind fun ds=>match g ds with | some (.val d)=>some d | _=>none:=rfl
theorem Ams:Lg e=.ok [] e:=rfl
def Aag(a b:Rv)(t:List (D×D))(e:Ve):Res (List (D×D)):=match a,b with
 | .val x,.val y=>.ok ((x,y)::t) e
 | _,_=>.no
theorem Amt{K V:M Rv}{r:M (List (D×D))}:Lh K V r e=(Ad K e).bnd fun a e1=>(Ad V e1).bnd fun b e2=>(r e2).bnd fun t e3=>Aag a b t e3:=rfl
theorem Amu{x y:D}{t:List (D×D)}:Aag (.val x) (.val y) t e=.ok ((x,y)::t) e:=rfl
theorem Amv{F:M (List (D×D))}:Jq F e=(F e).bnd fun ps e1=>obn (Fx ps) fun kvs=>ifb (decide (kvs.length<=15)) (.ok (.fresh (.dct (putAll kvs))) e1) .no:=by
 unfold Jq M.bind Res.bnd
 cases F e with
 | no=>rfl
 | er x e1=>rfl
 | ok ps e1 =>
  show (match Fx ps with | some kvs=>if kvs.length<=15 then _ else _ | none=>_)=obn (Fx ps) _
  cases Fx ps with
  | none=>rfl
  | some kvs =>
   show (if kvs.length<=15 then _ else _)=ifb (decide (kvs.length<=15)) _ _
   by_cases h:kvs.length<=15
   ·rw [if_pos h,decide_eq_true h]; rfl
   ·rw [if_neg h,decide_eq_false h]; rfl
theorem Amw:Fx []=some []:=rfl
theorem Amx{k:List Nat}{r:List (D×D)}:Fx ((.str k,d)::r)=(Fx r).map ((k,d) :: ·):=rfl
theorem Amy{k:List Nat}:putAll [(k,d)]=[(k,d)]:=rfl
def rngR2(r r2:Rv)(e:Ve):Res (List D):=match r,r2 with
 | .val (.int i),.val (.int j)=>if -(2 ^ 62)<=i/\i<2 ^ 62/\-(2 ^ 62)<=j/\j<2 ^ 62 then .ok (Cg i (j-i).toNat) e else .no
 | _,_=>.no
theorem Amz{A B:M Rv}:Xq A B e=(A e).bnd fun r e1=>(B e1).bnd fun r2 e2=>rngR2 r r2 e2:=by
 unfold Xq M.bind Res.bnd
 cases A e with
 | no=>rfl
 | er x e1=>rfl
 | ok a e1 =>
  cases B e1 with
  | no=>rfl
  | er x e2=>rfl
  | ok b e2=>rfl
theorem Am0{cs:List (Str×Bool)}{A:M Rv}:Li cs A e=(A e).bnd fun r e1=>obn (Ag r e1) fun d=>obn (Jr cs d) fun b=>.ok (.val (.bl b)) e1:=by
 unfold Li M.bind Res.bnd
 cases A e with
 | no=>rfl
 | er x e1=>rfl
 | ok r e1 =>
  show (match Ag r e1 with | some d=>(match Jr cs d with | some b=>_ | none=>_) | none=>_)=obn (Ag r e1) _
  cases Ag r e1 with
  | none=>rfl
  | some d =>
   show (match Jr cs d with | some b=>_ | none=>_)=obn (Jr cs d) _
   cases Jr cs d <;> rfl
def eqR(T:Str->Option (List Sl->Res Rv))(ts:List Str)(f:Res Rv->Res Rv)(a b:Rv)(e:Ve):Res Rv:=match a,b with
 | .val (.ins c fs),.val d=>(match T c with
  | some F=>if T7 ts d=true then f (Bj F [.val (.ins c fs),.val d] e) else .no
  | none=>.no)
 | _,_=>.no
theorem Am1{T:Str->Option (List Sl->Res Rv)}{ts:List Str}{A B:M Rv}:fEqI T ts A B e=(Ad A e).bnd fun a e1=>(Ad B e1).bnd fun b e2=>eqR T ts noEr a b e2:=rfl
theorem Am2{T:Str->Option (List Sl->Res Rv)}{ts:List Str}{A B:M Rv}:fNeI T ts A B e=(Ad A e).bnd fun a e1=>(Ad B e1).bnd fun b e2=>eqR T ts notR a b e2:=rfl
theorem Am3{r:Rv}:noEr (.ok r e)=.ok r e:=rfl
theorem Am4{b:Bool}:notR (.ok (.val (.bl b)) e)=.ok (.val (.bl (!b))) e:=rfl
def Aah(T:Str->Option (List Sl->Res Rv))(a:Rv)(e:Ve):Res Rv:=match a with
 | .val (.ins c fs)=>(match T c with
  | some F=>strR (Bj F [.val (.ins c fs)] e)
  | none=>.no)
 | _=>.no
theorem Am5{T:Str->Option (List Sl->Res Rv)}{A:M Rv}:fStrI T A e=(Ad A e).bnd fun a e1=>Aah T a e1:=rfl
theorem Am6{T:Str->Option (List Sl->Res Rv)}{c:Str}{fs:List (Str×D)}:Aah T (.val (.ins c fs)) e=obn (T c) fun F=>strR (Bj F [.val (.ins c fs)] e):=by
 show (match T c with | some F=>_ | none=>_)=obn (T c) _
 cases T c <;> rfl
theorem Am7{l:List Nat}:strR (.ok (.val (.str l)) e)=.ok (.val (.str l)) e:=rfl
theorem Am8(c:Nat):ordD [.str [c]]=some (.val (.int c)):=rfl
end
def Br:Sl->Bool
 | .un=>true
 | .sh _=>true
 | .ow _=>true
 | _=>false
def stoO:Option Sl->Bool
 | some s=>Br s
 | none=>false
theorem Am9{e:Ve}{i:Nat}:Ax e i=stoO e[i]?:=by
 unfold Ax stoO
 cases e[i]? with
 | none=>rfl
 | some s=>cases s <;> rfl
theorem Ana{s:Sl}:stoO (some s)=Br s:=rfl
theorem Anb:Br .un=true:=rfl
theorem Anc{d:D}:Br (.sh d)=true:=rfl
theorem Ane{d:D}:Br (.ow d)=true:=rfl
section
variable{A:M Rv}{e:Ve}{d:D}
def Aai:Rv->Ve->Res (List D)
 | .val (.tup ds),e=>.ok (Cj 0 ds) e
 | _,_=>.no
theorem Anf:Mr A e=(Ad A e).bnd Aai:=by
 unfold Mr M.bind Res.bnd
 cases Ad A e with
 | no=>rfl
 | er x e1=>rfl
 | ok a e1=>cases a with
  | val d=>cases d <;> rfl
  | _=>rfl
theorem Qt{ds:List D}:Aai (.val (.tup ds)) e=.ok (Cj 0 ds) e:=rfl
def padR(k:Nat):Rv->Ve->Res Rv
 | .val (.int i),e=>ifb (decide (0<=i/\i<260)) (.ok (.val (.str (padD k i.toNat))) e) .no
 | _,_=>.no
theorem Ang{k:Nat}:fPad k A e=(A e).bnd (padR k):=by
 unfold fPad M.bind Res.bnd
 cases A e with
 | no=>rfl
 | er x e1=>rfl
 | ok a e1=>cases a with
  | val d=>cases d <;> first | rfl | exact Ij
  | _=>rfl
theorem Anh{k:Nat}{i:Int}:padR k (.val (.int i)) e=ifb (decide (0<=i/\i<260)) (.ok (.val (.str (padD k i.toNat))) e) .no:=rfl
def Uh(T:Str->Option (List Sl->Res Rv))(m:Str)(A B:M (List Rv))(o:Rv)(e0:Ve):Option D->Res Rv
 | some (.ins c fs)=>ifb (fs.lookup m).isNone (obn (T c) fun F=>(A e0).bnd fun rs e1=>(B e1).bnd fun zs e2=>Bj F (o::(rs++zs)) e2) .no
 | _=>.no
theorem Ani{T:Str->Option (List Sl->Res Rv)}{m:Str}{O:M Rv}{L Z:M (List Rv)}:Zs T m O L Z e=(O e).bnd fun o e0=>Uh T m L Z o e0 (Ag o e0):=by
 unfold Zs M.bind Res.bnd
 cases O e with
 | no=>rfl
 | er x e1=>rfl
 | ok o e0 =>
  simp only
  cases Ag o e0 with
  | none=>rfl
  | some d =>
   cases d <;> try rfl
   rename_i c fs
   unfold Uh
   simp only
   cases (fs.lookup m).isNone with
   | false=>rfl
   | true =>
    rw [if_pos rfl]
    cases T c with
    | none=>rfl
    | some F=>rfl
theorem Anj{T:Str->Option (List Sl->Res Rv)}{m:Str}{L Z:M (List Rv)}{o:Rv}{c:Str}{fs:List (Str×D)}:Uh T m L Z o e (some (.ins c fs))=ifb (fs.lookup m).isNone (obn (T c) fun F=>(L e).bnd fun rs e1=>(Z e1).bnd fun zs e2=>Bj F (o::(rs++zs)) e2) .no:=rfl
end
section
open PySem.W Builtin
variable{prog:Program}{w:World}{A:Around}{E:Value->Shared->Prop}{s:Shared}{K:PySem.W.Frag}{x C f:Addr}{ox:Obj}{od:Option Obj}
theorem Ank{Q:Value->Shared->Prop}(X:K.In s.heap)(J:InstAt s.heap x ox C od)(hs:findIn K (.ref C) "__len__" = some (some (.ref f)))(hf:isFn K (.ref f)=true)
  (h:wpAny (model prog w) A.in1 (call (.ref f) [.ref x]) (fun r s'=>∃ n u,r=.int n u/\0<=n/\n<2 ^ 63/\Q (.int n s'.toks) { s' with toks:=s'.toks+1 }) E s):wpAny (model prog w) A (call (.builtin "len") [.ref x]) Q E s:=by
 refine Calls.call_function_entry kind_len plain_len entry_len (args_len1 _) ?_
 unfold Builtin.«len»
 refine wpAny_bind (m:=oneArg "len" _) (wpAny_pure ?_)
 refine wpAny_bind (m:=callSpecial? (.ref x) (Str.ofString "__len__")) (special_fn X J hs (beq_iff_eq.mp hf) (wpAny_mono h (fun r s' hr=>?_) fun _ _ y=>y))
 obtain ⟨n,u,rfl,h0,h1,hq⟩:=hr
 refine wpAny_bind (wpAny_holding (wpAny_pure ?_))
 refine wpAny_bind (wpAny_letGo ?_)
 show wpAny _ _ (if n<0 then _ else _) _ _ _
 rw [if_neg (by omega)]
 show wpAny _ _ (if n >= 2 ^ 63 then _ else _) _ _ _
 rw [if_neg (by omega)]
 exact wpAny_bind (wpAny_mkInt (wpAny_pure ⟨_,rfl,hq⟩))
theorem Anl{Q:Bool->Shared->Prop}{y:Value}(X:K.In s.heap)(J:InstAt s.heap x ox C od)(hs:findIn K (.ref C) "__contains__" = some (some (.ref f)))(hf:isFn K (.ref f)=true)
  (h:wpAny (model prog w) A (call (.ref f) [.ref x,y]) (fun r s'=>∃ b,r=.bool b/\Q b s') E s):wpAny (model prog w) A (contains (.ref x) y) Q E s:=by
 unfold contains
 refine wpAny_holding ?_
 have e:stdlibNamesSay? (.ref x) y=none:=rfl
 rw [e]
 refine wpAny_bind (m:=specialOf (.ref x) "__contains__") (wpAny_bind (J.type.here ((looks_findIn X hs).here ?_)))
 refine wpAny_ite_false (by simp) ?_
 refine wpAny_bind (m:=callSpecialUnlessNone? (.ref x) "__contains__" [y] _) ?_
 unfold callSpecialUnlessNone?
 refine wpAny_bind (m:=specialOf (.ref x) "__contains__") (wpAny_bind (J.type.here ((looks_findIn X hs).here ?_)))
 dsimp only
 refine wpAny_holding (wpAny_bind ((bind_fn X _ (beq_iff_eq.mp hf)).here ?_))
 refine wpAny_ite_false (by simp) ?_
 refine wpAny_bind (wpAny_mono h (fun r s' hr=>wpAny_pure ?_) fun _ _ z=>z)
 obtain ⟨b,rfl,q⟩:=hr
 exact wpAny_truthy_bool q
end
def SpD(m:Str)(P:Program)(mg:Str->Option Value)(base:Heap)(g:Gm)(j:Nat)(T:Str->Option (List Sl->Res Rv)):Prop :=
 ∀ c F,T c=some F->∃ f,PySem.W.findIn g.K (.ref (g.ca c)) m=some (some (.ref f))/\PySem.W.isFn g.K (.ref f)=true/\FnK P g.w g.K mg base (L2.CX P g.w) j f [] (spR g F)
def lenRR:Res Rv->Res Rv
 | .ok (.val (.int i)) e=>if 0<=i/\i<2 ^ 60 then .ok (.val (.int i)) e else .no
 | _=>.no
def Qu(T:Str->Option (List Sl->Res Rv))(A:M Rv):M Rv:=(Ad A).bind fun a e=>match a with
 | .val (.ins c fs)=>(match T c with
  | some F=>lenRR (Bj F [.val (.ins c fs)] e)
  | none=>.no)
 | _=>.no
def rLenO(P:Program)(w:World)(K:PySem.W.Frag)(mg:Str->Option Value)(base:Heap)(k:Nat):List V->Hp->VK->Prop:=fun xs H Q=>∃ (p C dx:Addr) (fs:List (Str×V)) (f:Addr) (sp:Sp),xs=[.ref p]/\H p=some (.ins C dx fs)/\PySem.W.findIn K (.ref C) "__len__" = some (some (.ref f))/\PySem.W.isFn K (.ref f)=true /\
 FnK P w K mg base (L2.CX P w) k f [] sp/\sp [.ref p] H (fun v H'=>∃ i:Int,v=.int i/\0<=i/\i<2 ^ 60/\Q (.int i) H') (fun _ _ _=>False)
section
variable{g:Gm}{W:WX}{k:Nat}{X:Cx}
theorem Anm(rm:Rm (k+1) X.A)(px:Passes (L2.CX X.prog X.w) X (fun _ _ _=>False)):CallR X (.builtin "len") (rLenO X.prog X.w X.K X.mg X.base k):=by
 intro pins s σ H xs us Q I r h
 obtain ⟨p,C,dx,fs,f,sp,rfl,ha,hs,hf,Fk,q⟩:=h
 obtain ⟨u,rfl,ru⟩:=vals1 r
 cases ru
 obtain ⟨mA,J,_⟩:=ins_get I.hok ha
 obtain ⟨od,J,_⟩:=J.look
 refine Ank I.kIn J hs hf ?_
 have e:=I.env0
 have e0:Env0 X.prog X.w X.K X.mg X.base X.A.in1 X.stack s H:=⟨e.frames,e.mod,e.bs,e.bsz,e.funs,e.frf,e.hok,e.bare⟩
 refine wpAny_call (codeAny_mono (Fk X.A.in1 X.stack s H [.ref p] [] [.ref p] [] _ _ rm.in1 e0 (.cons rfl .nil) .nil rfl (by rw [List.append_nil]; exact q)) fun res s' z=>?_)
 match res,z with
 | .error e,z=>exact px pins σ H s e s' I z
 | .ok (.ret w'),z =>
  obtain ⟨v,H',I',rv,i,ev,i0,i1,qb⟩:=I.after z
  subst ev
  obtain ⟨tk,rfl⟩:=rv
  exact ⟨i,tk,rfl,i0,by omega,.int i,H',I'.tok _,⟨_,rfl⟩,qb⟩
 | .ok .next,z=>exact False.elim z
 | .ok .brk,z=>exact False.elim z
 | .ok .cont,z=>exact False.elim z
theorem Pst.lenRR{σ:L2.St}{G H:Hp}{e:Ve}{Q:VK}{r:Res Rv}(h:Pst g W σ G H e (fun r G' H' e'=>∀ v,RvOk g G' H' σ e' H r v->Q v H') (lenRR r)):Pst g (fun _ _ _ _=>False) σ G H e (fun r G' H' e'=>∀ v,RvOk g G' H' σ e' H r v->∃ i:Int,v=.int i/\0<=i/\i<2 ^ 60/\Q (.int i) H') r:=by
 match r,h with
 | .ok (.val (.int i)) e',h =>
  unfold Vs.lenRR at h
  by_cases c:0<=i/\i<2 ^ 60
  ·simp only [if_pos c] at h
   exact fun G' H' t v ok=>⟨i,ok,c.1,c.2,ok ▸ h G' H' t v ok⟩
  ·simp only [if_neg c] at h
   exact h.elim
 | .no,h=>exact h
 | .er _ _,h=>exact h.elim
 | .ok (.slot _) _,h=>exact h.elim
 | .ok (.fresh _) _,h=>exact h.elim
 | .ok (.val .non) _,h=>exact h.elim
 | .ok (.val (.str _)) _,h=>exact h.elim
 | .ok (.val (.bl _)) _,h=>exact h.elim
 | .ok (.val (.lst _)) _,h=>exact h.elim
 | .ok (.val (.tup _)) _,h=>exact h.elim
 | .ok (.val (.dct _)) _,h=>exact h.elim
 | .ok (.val (.set _)) _,h=>exact h.elim
 | .ok (.val (.ins _ _)) _,h=>exact h.elim
 | .ok (.val (.con _)) _,h=>exact h.elim
 | .ok (.val (.scr _)) _,h=>exact h.elim
theorem Ann{T:Str->Option (List Sl->Res Rv)}{j:Nat}{a:Expr}{A:M Rv}{p pos:Pos}(tab:SpD "__len__" X.prog X.mg X.base g j T)(hj:j+1<=k)(hm:X.mg "len" = none)(ha:VE g W k X a A)(hg:Gl X "len":=by rfl)(he:starEach [a] X.env=(false,eval a X.env)::starEach [] X.env:=by rfl)(hpl:(backTo pos (starEach [] X.env)).any (·.1)=false:=by rfl):VE g W k X (.Call (.Name "len" p) [a] [] pos) (Qu T A):=by
 refine ⟨fun c=>?_⟩
 obtain ⟨gK,gw,ca,gT,gs,gn⟩:=g
 obtain rfl:X.K=gK:=c.K
 obtain rfl:X.w=gw:=c.w
 refine PE.imp (pe_callB (Anm (c.room.mono hj) (passes_call c.tk fun _ _ _ _ z=>z.elim)) hg hm (by decide +kernel) (pa_cons ((Am ha).run c) pa_nil he) (he:=he) (hpl:=hpl)) fun σ H Q ⟨G,e,sr,h⟩=>?_
 refine ⟨G,e,sr,Pst.mono (Pst.bind0 h) fun r G1 H1 e1 t1 h1 x ok1=>?_⟩
 cases r with
 | slot _=>exact h1.elim
 | fresh _=>exact h1.elim
 | val d =>
  cases d with
  | ins c' fs =>
   simp only at h1
   cases qT:T c' with
   | none=>rw [qT] at h1; exact h1.elim
   | some F =>
    rw [qT] at h1
    simp only at h1
    obtain ⟨f,f1,f2,f3⟩:=tab c' F qT
    have ok1:Rep _ G1 (.ins c' fs) x:=ok1
    obtain ⟨p,dx,us,ev,ha,rf,io⟩:=id ok1
    subst ev
    exact ⟨p,ca c',dx,us,f,_,rfl,t1.sr.bs.at_ ha rfl,f1,f2,f3,Me (W:=fun _ _ _ _=>False) sr t1 (rs:=[.val (.ins c' fs)]) ⟨.ref p,[],rfl,ok1,rfl,fun d p z=>nomatch z⟩ (Pst.lenRR h1)⟩
  | _=>exact h1.elim
end
def boolRR(neg:Bool):Res Rv->Res Rv
 | .ok (.val (.bl b)) e=>.ok (.val (.bl (if neg then !b else b))) e
 | _=>.no
def Mu(T:Str->Option (List Sl->Res Rv))(neg:Bool)(A B:M Rv):M Rv:=(Ad A).bind fun a=>(Ad B).bind fun b e=>match a,b with
 | .val d,.val (.ins c fs)=>(match T c with
  | some F=>boolRR neg (Bj F [.val (.ins c fs),.val d] e)
  | none=>.no)
 | _,_=>.no
def Qv(neg:Bool)(P:Program)(w:World)(K:PySem.W.Frag)(mg:Str->Option Value)(base:Heap)(k:Nat):R2:=fun x y H Q=>∃ (p C dx:Addr) (fs:List (Str×V)) (f:Addr) (sp:Sp),y=.ref p/\H p=some (.ins C dx fs)/\PySem.W.findIn K (.ref C) "__contains__" = some (some (.ref f))/\PySem.W.isFn K (.ref f)=true /\
 FnK P w K mg base (L2.CX P w) k f [] sp/\sp [y,x] H (fun v H'=>∃ b,v=.bl b/\Q (.bl (if neg then !b else b)) H') (fun _ _ _=>False)
section
variable{g:Gm}{W:WX}{k:Nat}{X:Cx}
theorem Aaj{neg:Bool}(rm:Rm k X.A)(px:Passes (L2.CX X.prog X.w) X (fun _ _ _=>False)){pins:List (Addr×Obj)}{s:Shared}{σ:L2.St}{H:Hp}{x y:V}{v u:Value}{Q:VK}(I:Inv X pins σ H s)(rx:RelV x v)(ry:RelV y u)(h:Qv neg X.prog X.w X.K X.mg X.base k x y H Q) :
  wpAny (model X.prog X.w) X.A (contains u v) (fun b s'=>EP X pins σ Q (.bool (if neg then !b else b)) s') X.xe s:=by
 obtain ⟨p,C,dx,fs,f,sp,rfl,ha,hs,hf,Fk,q⟩:=h
 cases ry
 obtain ⟨mA,J,_⟩:=ins_get I.hok ha
 obtain ⟨od,J,_⟩:=J.look
 refine Anl I.kIn J hs hf (wpAny_mono (wpAny_call (Mf (E:=fun _ _ _ _=>False) Fk rm (fun pins H s e s' I z=>px pins _ H s e s' I z) I (vs:=[.ref p,x]) (.cons rfl (.cons rx .nil)) .nil rfl (by rw [List.append_nil]; exact q))) (fun r s' hq=>?_) fun _ _ z=>z)
 obtain ⟨z,H',I',rz,b,ez,qz⟩:=hq
 subst ez
 obtain rfl:r=Value.bool b:=rz
 exact ⟨b,rfl,.bl _,H',I',rfl,qz⟩
theorem Ano(rm:Rm k X.A)(px:Passes (L2.CX X.prog X.w) X (fun _ _ _=>False)):OpR X (compareOp .In) (Qv false X.prog X.w X.K X.mg X.base k):=by
 intro pins s σ H x y v u Q I rx ry h
 unfold compareOp
 exact wpAny_bind (wpAny_mono (Aaj rm px I rx ry h) (fun b s' hq=>wpAny_pure hq) fun _ _ z=>z)
theorem Anp(rm:Rm k X.A)(px:Passes (L2.CX X.prog X.w) X (fun _ _ _=>False)):OpR X (compareOp .NotIn) (Qv true X.prog X.w X.K X.mg X.base k):=by
 intro pins s σ H x y v u Q I rx ry h
 unfold compareOp
 exact wpAny_bind (wpAny_mono (Aaj rm px I rx ry h) (fun b s' hq=>wpAny_pure hq) fun _ _ z=>z)
theorem Pst.boolRR{neg:Bool}{σ:L2.St}{G H:Hp}{e:Ve}{Q:VK}{r:Res Rv}(h:Pst g W σ G H e (fun r G' H' e'=>∀ v,RvOk g G' H' σ e' H r v->Q v H') (boolRR neg r)):Pst g (fun _ _ _ _=>False) σ G H e (fun r G' H' e'=>∀ v,RvOk g G' H' σ e' H r v->∃ b,v=.bl b/\Q (.bl (if neg then !b else b)) H') r:=by
 match r,h with
 | .ok (.val (.bl b)) e',h=>exact fun G' H' t v ok=>⟨b,ok,h G' H' t _ rfl⟩
 | .no,h=>exact h
 | .er _ _,h=>exact h.elim
 | .ok (.slot _) _,h=>exact h.elim
 | .ok (.fresh _) _,h=>exact h.elim
 | .ok (.val .non) _,h=>exact h.elim
 | .ok (.val (.str _)) _,h=>exact h.elim
 | .ok (.val (.int _)) _,h=>exact h.elim
 | .ok (.val (.lst _)) _,h=>exact h.elim
 | .ok (.val (.tup _)) _,h=>exact h.elim
 | .ok (.val (.dct _)) _,h=>exact h.elim
 | .ok (.val (.set _)) _,h=>exact h.elim
 | .ok (.val (.ins _ _)) _,h=>exact h.elim
 | .ok (.val (.con _)) _,h=>exact h.elim
 | .ok (.val (.scr _)) _,h=>exact h.elim
theorem Aak{neg:Bool}{T:Str->Option (List Sl->Res Rv)}{j:Nat}{A B:M Rv}{σ:L2.St}{H:Hp}{Q:VK}{P:Program}{mg:Str->Option Value}{base:Heap}(tab:SpD "__contains__" P mg base g j T)(h:TV g W (Mu T neg A B) σ H Q) :
  TV g W (Ad A) σ H fun x H1=>TV g W (Ad B) σ H1 fun y H2=>Qv neg P g.w g.K mg base j x y H2 Q:=by
 obtain ⟨G,e,sr,h⟩:=h
 refine ⟨G,e,sr,Pst.mono (Pst.bind0 h) fun a G1 H1 e1 t1 h1 x ok1=>⟨G1,e1,t1.sr,Pst.mono (Pst.bindS t1 h1) fun b G2 H2 e2 t2 h2 y ok2=>?_⟩⟩
 cases a with
 | slot _=>exact h2.elim
 | fresh _=>exact h2.elim
 | val da =>
  cases b with
  | slot _=>exact h2.elim
  | fresh _=>exact h2.elim
  | val d =>
   cases d with
   | ins c fs =>
    simp only at h2
    cases qT:T c with
    | none=>rw [qT] at h2; exact h2.elim
    | some F =>
     rw [qT] at h2
     simp only at h2
     obtain ⟨f,f1,f2,f3⟩:=tab c F qT
     have ok1:Rep g G1 da x:=ok1
     have ok2:Rep g G2 (.ins c fs) y:=ok2
     obtain ⟨p,dx,us,ev,ha,rf,io⟩:=id ok2
     refine ⟨p,g.ca c,dx,us,f,spR g F,ev,t2.sr.bs.at_ ha rfl,f1,f2,f3,?_⟩
     exact Me (W:=fun _ _ _ _=>False) sr (t1.trans t2) (rs:=[.val (.ins c fs),.val da]) ⟨y,[x],rfl,ok2,⟨x,[],rfl,ok1.mono t2.le,rfl,fun d p z=>nomatch z⟩,fun d p z=>nomatch z⟩ (Pst.boolRR h2)
   | _=>exact h2.elim
theorem Aal{neg:Bool}{T:Str->Option (List Sl->Res Rv)}{j:Nat}{a b:Expr}{A B:M Rv}{pos:Pos}{op:CmpOp}(ho:op=.In/\neg=false\/op=.NotIn/\neg=true)(tab:SpD "__contains__" X.prog X.mg X.base g j T)(hj:j<=k)(ha:VE g W k X a A)(hb:VE g W k X b B)(hm:behindInMarks op b=false:=by rfl):VT g W k X (.Compare a [op] [b] pos) (Bh (Mu T neg A B)):=by
 refine ⟨fun c=>?_⟩
 obtain ⟨gK,gw,ca,gT,gs,gn⟩:=g
 obtain rfl:X.K=gK:=c.K
 obtain rfl:X.w=gw:=c.w
 rcases ho with ⟨rfl,rfl⟩ | ⟨rfl,rfl⟩
 ·exact PT.imp (pt_cmpR (Ano (c.room.mono hj) (passes_call c.tk fun _ _ _ _ z=>z.elim)) ((Am ha).run c) ((Am hb).run c) hm) fun _ _ _ q=>Aak tab (Nv q)
 ·exact PT.imp (pt_cmpR (Anp (c.room.mono hj) (passes_call c.tk fun _ _ _ _ z=>z.elim)) ((Am ha).run c) ((Am hb).run c) hm) fun _ _ _ q=>Aak tab (Nv q)
end
def gAttr(K:PySem.W.Frag)(to:TE)(f:Str):TG:=fun v σ H Q=>to σ H fun x H1=>∃ a C dx fs,x=.ref a/\H1 a=some (.ins C dx fs)/\Cls K C/\NoAttr K C f/\fs.length<1000/\Q σ (upd H1 a (.ins C dx (putF f v fs)))
theorem Ui{X:Cx}{o:Expr}{to:TE}{f:Str}{pos:Pos}(ho:PE X o to):PG X (.Attribute o f pos) (gAttr X.K to f):=by
 refine ⟨fun pins s σ H v u Q I r h=>?_⟩
 rw [arm_assign_Attribute]
 refine wpAny_bind (wpAny_holding (thn (ho.run pins s σ H _ I h) fun ov s1 ⟨x,H1,I1,rx,a,C,dx,fs,ex,ea,c,n,l,q⟩=>?_))
 subst ex
 obtain rfl:ov=Value.ref a:=rx
 refine wpAny_bind (wpAny_standAt (wpAny_bind (wpAny_holding (setattr_ok I1 ea c n l r fun s3 I3=>?_))))
 exact wpAny_release ⟨σ,_,I3,q⟩
def Hv(cs:List Str)(f:Str)(i:Nat)(d:D):M Ctl:=Fh cs f i (fC d)
section
variable{g:Gm}{W:WX}{k:Nat}{X:Cx}{G H:Hp}{σ:L2.St}{e:Ve}{cs:List Str}{f:Str}{i:Nat}{d:D}{v:V}{D':Ends}
theorem Uj{D2:Ends}{M2:M Ctl}(sr:SR g G H σ e)(hno:∀ c∈cs,NoAttr g.K (g.ca c) f)(rp:Rep g G d v)(h:PstS g W D2 σ G H e ((Hv cs f i d).bind (fun _=>M2) e)) :
  ∃ a C dx vs e1,σ[i]? = some (some (.ref a))/\H a=some (.ins C dx vs)/\Cls g.K C/\NoAttr g.K C f/\vs.length<1000/\Tr g σ G H e G (upd H a (.ins C dx (putF f v vs))) e1/\PstS g W D2 σ G (upd H a (.ins C dx (putF f v vs))) e1 (M2 e1):=by
 have e0:(Hv cs f i d).bind (fun _=>M2) e=match e[i]? with
   | some s=>(match A5 s with
    | some (.ins c fs)=>if cs.contains c=true/\fs.length<1000 then M2 (e.set i (B6 s (.ins c (Bl f d fs)))) else .no
    | _=>.no)
   | _=>.no:=by
  have z:Hv cs f i d e=match e[i]? with
   | some s=>(match A5 s with
    | some (.ins c fs)=>if cs.contains c=true/\fs.length<1000 then .ok .nx (e.set i (B6 s (.ins c (Bl f d fs)))) else .no
    | _=>.no)
   | _=>.no:=by
   unfold Hv Fh
   show (match (Rv.val d),e[i]? with
    | .val v,some s=>(match A5 s with
     | some (.ins c fs)=>if cs.contains c=true/\fs.length<1000 then Res.ok Ctl.nx (e.set i (B6 s (.ins c (Bl f v fs)))) else .no
     | _=>.no)
    | _,_=>.no)=_
   cases e[i]? <;> rfl
  unfold M.bind
  rw [z]
  cases q3:e[i]? with
  | none=>rfl
  | some s =>
   simp only
   cases q4:A5 s with
   | none=>rfl
   | some d0 =>
    cases d0 <;> try rfl
    rename_i c fs
    simp only
    by_cases hc:cs.contains c=true/\fs.length<1000
    ·rw [if_pos hc,if_pos hc]
    ·rw [if_neg hc,if_neg hc]
 rw [e0] at h
 cases q3:e[i]? with
 | none=>simp only [q3] at h; exact h.elim
 | some s =>
  simp only [q3] at h
  cases q4:A5 s with
  | none=>simp only [q4] at h; exact h.elim
  | some d0 =>
   cases d0 with
   | ins c fs =>
    simp only [q4] at h
    by_cases hc:cs.contains c=true/\fs.length<1000
    ·rw [if_pos hc] at h
     obtain ⟨p',hp,n,ow,_⟩:=sr.own q3 q4
     obtain ⟨dx,vs,ha,rf,io⟩:=id ow
     have hn:=hno c (List.contains_iff_mem.mp hc.1)
     have tr:=sr.mut (d':=.ins c (Bl f d fs)) (o':=.ins (g.ca c) dx (putF f v vs)) q3 q4 hp ow ⟨dx,_,upd_same,rf.put rp,io.1,fun y hy=>by
      rcases Oa hy with z | ⟨z,hz⟩
      ·rw [z]; exact hn
      ·exact io.2 (y.1,z) hz⟩
     refine ⟨p',_,dx,vs,_,hp,ha,io.1,hn,by rw [rf.len]; exact hc.2,tr,?_⟩
     revert h
     cases M2 (e.set i (B6 s (.ins c (Bl f d fs)))) with
     | no=>exact fun h=>h
     | er x e'=>exact fun h cls dd σ' G' H' st=>h cls dd σ' G' H' (tr.st.trans st)
     | ok a e' =>
      cases a with
      | nx=>exact fun h σ' G' H' st=>h σ' G' H' (tr.st.trans st)
      | rt r=>exact fun h v σ' G' H' st ok=>h v σ' G' H' (tr.st.trans st) (ok.h0 tr.dom)
      | bk=>exact fun h σ' G' H' st=>h σ' G' H' (tr.st.trans st)
      | ct=>exact fun h σ' G' H' st=>h σ' G' H' (tr.st.trans st)
    ·rw [if_neg hc] at h; exact h.elim
   | _=>simp only [q4] at h; exact h.elim
end
theorem PstS.move{g:Gm}{W:WX}{D:Ends}{σ:L2.St}{G H G1 H1:Hp}{e e1:Ve}{r:Res Ctl}(t:Tr g σ G H e G1 H1 e1)(h:PstS g W D σ G H e r):PstS g W D σ G1 H1 e1 r:=by
 revert h
 cases r with
 | no=>exact fun h=>h
 | er x e'=>exact fun h cls dd σ' G' H' st=>h cls dd σ' G' H' (t.st.trans st)
 | ok a e' =>
  cases a with
  | nx=>exact fun h σ' G' H' st=>h σ' G' H' (t.st.trans st)
  | rt r=>exact fun h v σ' G' H' st ok=>h v σ' G' H' (t.st.trans st) (ok.h0 t.dom)
  | bk=>exact fun h σ' G' H' st=>h σ' G' H' (t.st.trans st)
  | ct=>exact fun h σ' G' H' st=>h σ' G' H' (t.st.trans st)
def Oq(cs:List Str)(f1 f2 f3:Str)(i:Nat)(A:M (List Rv)):M Ctl:=A.bind fun rs=>match rs with
 | [.val d1,.val d2,.val d3]=>(Hv cs f1 i d1).bind fun _=>(Hv cs f2 i d2).bind fun _=>(Hv cs f3 i d3).bind fun _=>M.ret .nx
 | _=>fun _=>.no
section
variable{g:Gm}{W:WX}{k:Nat}{X:Cx}
theorem Aam{x f1 f2 f3:Str}{i:Nat}{a b c':Expr}{A:M (List Rv)}{cs:List Str}{p1 p2 p3 q1 q2 q3 pt pos:Pos}{kt k2 pt2}(hno1:∀ c∈cs,NoAttr g.K (g.ca c) f1)(hno2:∀ c∈cs,NoAttr g.K (g.ca c) f2)(hno3:∀ c∈cs,NoAttr g.K (g.ca c) f3)
  (hN:X.N[i]? = some x)(hvis:Vis X.env.scope x)(ha:VA g W k X [a,b,c'] A)(hd:(x==("__debug__" : Str))=false:=by decide)(hcd:(x==("__classdict__" : Str))=false:=by decide)
  (hs:swapsWithSole [.Tuple [.Attribute (.Name x p1) f1 q1,.Attribute (.Name x p2) f2 q2,.Attribute (.Name x p3) f3 q3] kt pt] (.Tuple [a,b,c'] k2 pt2) pos.line X.env=pure false:=by rfl)
  (hw:swappedStores [.Tuple [.Attribute (.Name x p1) f1 q1,.Attribute (.Name x p2) f2 q2,.Attribute (.Name x p3) f3 q3] kt pt] (.Tuple [a,b,c'] k2 pt2) X.env=pure none:=by rfl)
  (h1:(assignEach [.Tuple [.Attribute (.Name x p1) f1 q1,.Attribute (.Name x p2) f2 q2,.Attribute (.Name x p3) f3 q3] kt pt] X.env).map (·.2)=[assign (.Tuple [.Attribute (.Name x p1) f1 q1,.Attribute (.Name x p2) f2 q2,.Attribute (.Name x p3) f3 q3] kt pt) X.env]:=by rfl)
  (hn:(assignEach [.Attribute (.Name x p1) f1 q1,.Attribute (.Name x p2) f2 q2,.Attribute (.Name x p3) f3 q3] X.env).length=3:=by rfl)(hst:(assignEach [.Attribute (.Name x p1) f1 q1,.Attribute (.Name x p2) f2 q2,.Attribute (.Name x p3) f3 q3] X.env).findIdx? (·.1)=none:=by rfl)
  (h2:(assignEach [.Attribute (.Name x p1) f1 q1,.Attribute (.Name x p2) f2 q2,.Attribute (.Name x p3) f3 q3] X.env).map (·.2)=assign (.Attribute (.Name x p1) f1 q1) X.env::(assignEach [.Attribute (.Name x p2) f2 q2,.Attribute (.Name x p3) f3 q3] X.env).map (·.2):=by rfl)
  (h3:(assignEach [.Attribute (.Name x p2) f2 q2,.Attribute (.Name x p3) f3 q3] X.env).map (·.2)=assign (.Attribute (.Name x p2) f2 q2) X.env::(assignEach [.Attribute (.Name x p3) f3 q3] X.env).map (·.2):=by rfl)
  (h4:(assignEach [.Attribute (.Name x p3) f3 q3] X.env).map (·.2)=assign (.Attribute (.Name x p3) f3 q3) X.env::(assignEach [] X.env).map (·.2):=by rfl) :
  VS g W k X (.Assign [.Tuple [.Attribute (.Name x p1) f1 q1,.Attribute (.Name x p2) f2 q2,.Attribute (.Name x p3) f3 q3] kt pt] (.Tuple [a,b,c'] k2 pt2) pos) (Oq cs f1 f2 f3 i A):=by
 refine ⟨fun c=>PS.imp (ps_asg (pe_tup (ha.run c)) (pg_tup c.calm (pgs_cons (Ui (pe_var hN hvis hd hcd)) (pgs_cons (Ui (pe_var hN hvis hd hcd)) (pgs_cons (Ui (pe_var hN hvis hd hcd)) pgs_nil h4) h3) h2) hn hst) hs hw h1) fun D σ H ⟨G,e,sr,h⟩=>?_⟩
 refine ⟨G,e,sr,Pst.mono (PstS.bindE0 h) fun rs G1 H1 e1 t1 h1 vs rv=>?_⟩
 match rs,h1,rv with
 | [.val d1,.val d2,.val d3],h1,⟨v1,t,ev,o1,⟨v2,t',ev',o2,⟨v3,t3,ev3,o3,en,_⟩,_⟩,_⟩ =>
  subst ev ev' ev3 en
  have o1:Rep g G1 d1 v1:=o1
  have o2:Rep g G1 d2 v2:=o2
  have o3:Rep g G1 d3 v3:=o3
  refine ⟨by rw [sizeLine_eq]; show 3<=_; omega,fun q nq=>?_⟩
  have gr:=Grow.lay (o:=HO.tup [v1,v2,v3]) t1.sr.bs nq
  have t2:=gr.tr t1.sr
  have h1:PstS g W D σ G1 (upd H1 q (.tup [v1,v2,v3])) e1 ((Hv cs f1 i d1).bind (fun _=>(Hv cs f2 i d2).bind fun _=>(Hv cs f3 i d3).bind fun _=>M.ret .nx) e1):=PstS.move (t1.trans t2) h1
  refine ⟨q,[v1,v2,v3],rfl,.of upd_same,rfl,v1,[v2,v3],rfl,?_⟩
  obtain ⟨a1,C1,dx1,vs1,e2,s1,ha1,c1,n1,l1,tr1,h1⟩:=Uj t2.sr hno1 o1 h1
  refine ⟨.ref a1,s1,a1,C1,dx1,vs1,rfl,ha1,c.K ▸ c1,c.K ▸ n1,l1,v2,[v3],rfl,?_⟩
  obtain ⟨a2,C2,dx2,vs2,e3,s2,ha2,c2,n2,l2,tr2,h1⟩:=Uj tr1.sr hno2 o2 h1
  refine ⟨.ref a2,s2,a2,C2,dx2,vs2,rfl,ha2,c.K ▸ c2,c.K ▸ n2,l2,v3,[],rfl,?_⟩
  obtain ⟨a3,C3,dx3,vs3,e4,s3,ha3,c3,n3,l3,tr3,h1⟩:=Uj tr2.sr hno3 o3 h1
  refine ⟨.ref a3,s3,a3,C3,dx3,vs3,rfl,ha3,c.K ▸ c3,c.K ▸ n3,l3,rfl,?_⟩
  exact h1 σ G1 _ (St.refl tr3.sr)
 | [],h1,_=>exact False.elim h1
 | [_],h1,_=>exact False.elim (by revert h1; cases ‹Rv› <;> exact fun h=>h)
 | [r1,r2],h1,_=>exact False.elim (by revert h1; cases r1 <;> cases r2 <;> exact fun h=>h)
 | .slot _::_::_::_,h1,_=>exact False.elim h1
 | .fresh _::_::_::_,h1,_=>exact False.elim h1
 | .val _::.slot _::_::_,h1,_=>exact False.elim h1
 | .val _::.fresh _::_::_,h1,_=>exact False.elim h1
 | .val _::.val _::.slot _::_,h1,_=>exact False.elim h1
 | .val _::.val _::.fresh _::_,h1,_=>exact False.elim h1
 | .val _::.val _::.val _::_::_,h1,_=>exact False.elim h1
end
theorem back{Y:Cx}{tg:Expr}{it:Addr}{fp:List Addr}{J:It}{tn:Nat->Heap->Prop}{pins:List (Addr×Obj)}{σ':L2.St}{i:Nat}{H':Hp}{hp:Heap}{s':Shared}(T:Turn Y.prog Y.w Y.K tg J fp it tn)(st:tn i hp)(I:Inv Y (pins++pinsAt fp hp) σ' H' s'):tn i s'.heap/\∀ b∈fp,H' b=none:=by
 have pin:∀ b∈fp,∀ o,hp.get? b=some o->s'.heap.get? b=some o/\H' b=none:=fun b hb o e=>by
  have z:=I.pin (b,o) (List.mem_append_right _ (List.mem_append_right _ (mem_pinsAt hb e)))
  exact ⟨z.1,z.2.1⟩
 refine ⟨T.keep _ _ _ st fun b hb o e=>(pin b hb o e).1,fun b hb=>?_⟩
 have ⟨o,e,_⟩:=T.obj _ _ st b hb
 exact (pin b hb o e).2
section
variable{g:Gm}{G H G1 H1 G2 H2:Hp}{σ σ1 σ2:L2.St}{e e1 e2:Ve}{vs is vs1:List Nat}{Da p:Addr}{L:List Str}{o:HO}
theorem SR.putS(sr:SR g G H σ e)(n:G p=none)(nr:∀ i,¬ Rt σ e i p)(h1:∀ o ps,H p=some o->o≠.tbl ps)(h2:∀ o ob u,H p=some o->o≠.frz ob u):SR g G (upd H p o) σ e:=by
 refine ⟨sr.bs.put n,sr.tabs.kept fun a ps z=>?_,sr.scr.keep fun ob u z=>?_,sr.len,fun i=>?_,sr.inj⟩
 ·rw [upd_ne fun y=>h1 _ ps (show H p=some (.tbl ps) by rw [← y]; exact z) rfl]; exact z
 ·rw [upd_ne fun y=>h2 _ ob _ (show H p=some (.frz ob _) by rw [← y]; exact z) rfl]; exact z
 ·have sl:=sr.slot i
  cases q:e[i]? with
  | none=>trivial
  | some s =>
   rw [q] at sl
   cases s with
   | un=>trivial
   | sh d=>exact sl
   | bf d=>exact sl
   | lo d =>
    obtain ⟨p',ev',n',ow⟩:=sl
    obtain ⟨ob,u,ho,_⟩:=ow.there
    exact ⟨p',ev',n',ow.mono (Le.refl G) (upd_ne fun z=>h2 _ ob u (show H p=some (.frz ob u) by rw [← z]; exact ho) rfl)⟩
   | ow d =>
    obtain ⟨p',ev',n',ow⟩:=sl
    exact ⟨p',ev',n',ow.mono (Le.refl G) (upd_ne fun z=>nr i ⟨by rw [q]; trivial,by rw [ev',z]⟩)⟩
   | bo d =>
    obtain ⟨p',ev',n',ow⟩:=sl
    exact ⟨p',ev',n',ow.mono (Le.refl G) (upd_ne fun z=>nr i ⟨by rw [q]; trivial,by rw [ev',z]⟩)⟩
theorem St.putS(t:St g G H σ e G1 H1 σ1 e1)(h0:H p=none)(n:G1 p=none)(nr:∀ i,¬ Rt σ1 e1 i p)(h1:∀ o ps,H1 p=some o->o≠.tbl ps)(h2:∀ o ob u,H1 p=some o->o≠.frz ob u):St g G H σ e G1 (upd H1 p o) σ1 e1 :=
 ⟨t.sr.putS n nr h1 h2,t.ln,t.le,fun a u h m nt=>by rw [upd_ne (ne_of_none h h0)]; exact t.keep a u h m nt,fun a h=>by
  by_cases z:a=p
  ·rw [z]; exact h0
  ·rw [upd_ne z] at h; exact t.dom a h,t.new,t.rts,t.rto,t.bor,t.bof,t.nlo⟩
theorem Ls.grow(l:Ls g G H σ e vs Da σ1 L G1 H1 e1)(gr:Grow G1 H1 G2 H2):Ls g G H σ e vs Da σ1 L G2 H2 e1 :=
 ⟨l.st.trans (gr.tr l.st.sr).st,l.vo,l.un,l.wp,gr.keep _ _ l.hD,gr.new _ l.nD (by rw [l.hD]; exact fun z=>nomatch z),l.nr⟩
theorem Ls.tr(l:Ls g G H σ e vs Da σ1 L G1 H1 e1)(t:Tr g σ1 G1 H1 e1 G2 H2 e2):Ls g G H σ e vs Da σ1 L G2 H2 e2:=by
 have at_:∀ (j:Nat) (s:Sl),e2[j]? = some s->∃ s0,e1[j]? = some s0/\SlLe s0 s:=fun j s h=>by
  have hl:j<e1.length:=by rw [← t.ve.len]; exact C7 h
  obtain ⟨s',h',le⟩:=t.ve.at_ j e1[j] (List.getElem?_eq_getElem hl)
  rw [h] at h'; cases h'
  exact ⟨_,List.getElem?_eq_getElem hl,le⟩
 refine ⟨l.st.trans t.st,l.vo.trans t.ve.off,fun j hj s h=>?_,l.wp,t.keep _ _ l.hD l.nr (fun ps z=>nomatch z),t.new _ l.nD (by rw [l.hD]; exact fun z=>nomatch z) l.nr,fun i r=>?_⟩
 ·obtain ⟨s0,h0,le⟩:=at_ j s h
  rcases l.un j hj s0 h0 with z | ⟨d',z⟩
  ·rw [z] at le; exact .inl le
  ·rw [z] at le; exact .inr ⟨d',le⟩
 ·obtain ⟨r1,r2⟩:=r
  cases q:e2[i]? with
  | none=>rw [q] at r1; exact r1
  | some s =>
   rw [q] at r1
   obtain ⟨s0,h0,le⟩:=at_ i s q
   exact l.nr i ⟨by rw [h0]; exact Pn le r1,r2⟩
theorem Ls.put(l:Ls g G H σ e vs Da σ1 L G1 H1 e1)(h0:H Da=none)(L':List Str):Ls g G H σ e vs Da σ1 L' G1 (upd H1 Da (I6 g.w Da L')) e1 :=
 ⟨l.st.putS h0 l.nD l.nr (fun o ps z=>by rw [l.hD] at z; cases z; exact fun y=>nomatch y) (fun o ob u z=>by rw [l.hD] at z; cases z; exact fun y=>nomatch y),l.vo,l.un,l.wp,upd_same,l.nD,l.nr⟩
theorem Ls.wiped(l:Ls g G H σ e vs Da σ1 L G1 H1 e1)(hv:∀ i∈vs1,i∈vs):Ls g G H σ e vs Da (wipe σ1 vs1) L G1 H1 (Ap e1 vs1):=by
 have un:∀ j∈vs,∀ s,(Ap e1 vs1)[j]? = some s->s=.un\/∃ d,s=.sh d:=fun j hj s h=>by
  by_cases hm:j∈vs1
  ·have hl:j<e1.length:=by rw [← Ft vs1]; exact C7 h
   rw [Jg hl hm] at h
   cases h; exact .inl rfl
  ·rw [Ep hm] at h
   exact l.un j hj s h
 refine ⟨l.st.wiped fun j hj=>⟨(fun d' z=>by rcases l.un j (hv j hj) _ z with y | ⟨_,y⟩ <;> cases y),(fun s fx z=>by rcases l.un j (hv j hj) _ z with y | ⟨_,y⟩ <;> rw [y] at fx <;> cases fx)⟩,
  l.vo.trans ⟨Ft vs1,fun j s n h=>⟨s,by rw [Ep fun z=>n (hv j z)]; exact h,SlLe.refl s⟩⟩,un,by rw [Zu hv,l.wp],l.hD,l.nD,fun i r=>?_⟩
 obtain ⟨r1,r2⟩:=r
 obtain ⟨h1,h2⟩:=wipe_some r2
 rw [Ep h2] at r1
 exact l.nr i ⟨r1,h1⟩
end
section
variable{e:Ve}
def Aan(T:Str->Option (List Sl->Res Rv)):Rv->Ve->Res Rv
 | .val (.ins c fs),e=>obn (T c) fun F=>lenRR (Bj F [.val (.ins c fs)] e)
 | _,_=>.no
theorem Anq{T:Str->Option (List Sl->Res Rv)}{c:Str}{fs:List (Str×D)}:Aan T (.val (.ins c fs)) e=obn (T c) fun F=>lenRR (Bj F [.val (.ins c fs)] e):=rfl
theorem Anr{T:Str->Option (List Sl->Res Rv)}{A:M Rv}:Qu T A e=(Ad A e).bnd (Aan T):=by
 unfold Qu M.bind Res.bnd
 cases Ad A e with
 | no=>rfl
 | er x e1=>rfl
 | ok a e1 =>
  cases a with
  | slot _=>rfl
  | fresh _=>rfl
  | val d =>
   cases d <;> try rfl
   rename_i c fs
   show (match T c with | some F=>_ | none=>_)=obn (T c) _
   cases T c <;> rfl
theorem Ans{n:Nat}{e:Ve}(h:n<1000000000):lenRR (.ok (.val (.int (n:Int))) e)=.ok (.val (.int (n:Int))) e:=by
 unfold lenRR
 simp only
 rw [if_pos ⟨by omega,by omega⟩]
def inIR(T:Str->Option (List Sl->Res Rv))(neg:Bool):Rv->Rv->Ve->Res Rv
 | .val d,.val (.ins c fs),e=>obn (T c) fun F=>boolRR neg (Bj F [.val (.ins c fs),.val d] e)
 | _,_,_=>.no
theorem Aao{T:Str->Option (List Sl->Res Rv)}{neg:Bool}{d:D}{c:Str}{fs:List (Str×D)}:inIR T neg (.val d) (.val (.ins c fs)) e=obn (T c) fun F=>boolRR neg (Bj F [.val (.ins c fs),.val d] e):=rfl
theorem Aap{T:Str->Option (List Sl->Res Rv)}{neg:Bool}{A B:M Rv}:Mu T neg A B e=(Ad A e).bnd fun a e1=>(Ad B e1).bnd fun b e2=>inIR T neg a b e2:=by
 unfold Mu M.bind Res.bnd
 cases Ad A e with
 | no=>rfl
 | er x e1=>rfl
 | ok a e1 =>
  simp only
  cases Ad B e1 with
  | no=>rfl
  | er x e2=>rfl
  | ok b e2 =>
   simp only
   cases a <;> cases b <;> try rfl
   rename_i d d2
   cases d2 <;> try rfl
   rename_i c fs
   show (match T c with | some F=>_ | none=>_)=obn (T c) _
   cases T c <;> rfl
theorem Aaq{neg b:Bool}{e:Ve}:boolRR neg (.ok (.val (.bl b)) e)=.ok (.val (.bl (if neg then !b else b))) e:=rfl
end
end Vs
namespace NeL
open PySem PySem.SeqAt
open AutoSeq1 (wpAny_loadPart')
open MeetsSeq MeetsSeq2 MeetsSeq3 SeqRoads2
section
variable{prog:Program}{w:World}{A:Around}{R:Result->Shared->Prop}{l b:Addr}{N:Nat}{I:Nat->Shared->Prop}
theorem turns(hl:GQ.ListI prog w A (fun e s'=>R (.error e) s') l b N I)(fin:∀ s,I N s->R (.ok (.ret (.bool false))) s):∀ (left i:Nat),i+left=N->∀ s,I i s ->
  wpAny (model prog w) A.in1 (Builtin.«list.__eq__.loop» ⟨[.ref l,.ref b,rawInt i,rawInt 3],[]⟩) (GQ.FinOf prog w A R) (fun e s'=>R (.error e) s') s
 | 0,i,hi,s,h=>by
  obtain ⟨us,ws,n,n2,hu,hw,zu,zw,_⟩:=hl i s h
  have done:R (.ok (.ret (.bool false))) s:=fin s (by rw [← hi]; exact h)
  have no1:us[((i:Nat):Int).toNat]? = none:=by simp; omega
  have no2:ws[((i:Nat):Int).toNat]? = none:=by simp; omega
  obtain ⟨hp,gg,dd,tk,os⟩:=s
  wp_walk using wpAny_loadPart' hu,wpAny_loadPart' hw
  rw [no1,no2]
  wp_walk using wpAny_loadPart' hu,wpAny_loadPart' hw
  show R (.ok (.ret (.bool (us.size != ws.size)))) _
  rw [zu,zw,bne_self_eq_false]
  exact done
 | left+1,i,hi,s,h=>by
  obtain ⟨us,ws,n,n2,hu,hw,zu,zw,one⟩:=hl i s h
  have l1:i<us.size:=by omega
  have l2:i<ws.size:=by omega
  have it1:us[((i:Nat):Int).toNat]? = some us[i]:=by simp [l1]
  have it2:ws[((i:Nat):Int).toNat]? = some ws[i]:=by simp [l2]
  have up:((i:Int)+1)=((i+1:Nat):Int):=by omega
  have at_i:=one l1 l2
  have more:=turns hl fin left (i+1) (by omega)
  obtain ⟨hp,gg,dd,tk,os⟩:=s
  wp_walk using wpAny_loadPart' hu,wpAny_loadPart' hw
  rw [it1,it2]
  refine wpAny_bind (wpAny_mono at_i (fun r s2 ⟨er,h2⟩=>?_) fun _ _ z=>z)
  subst er
  have next:=more s2 h2
  obtain ⟨hp2,g2,d2,tk2,os2⟩:=s2
  wp_walk
  rw [up]
  exact ⟨plainId_quiet plain_eq_loop _,codeAny_builtin entry_eq_loop (by
   rw [Around.under_plainId plain_eq_loop _]; exact next)⟩
theorem Ant(hl:GQ.ListI prog w A (fun e s'=>R (.error e) s') l b N I)(fin:∀ s,I N s->R (.ok (.ret (.bool false))) s){s:Shared}(h:I 0 s) :
  wpAny (model prog w) A.in1 (Builtin.«list.__ne__» ⟨[.ref l,.ref b],[]⟩) (GQ.FinOf prog w A R) (fun e s'=>R (.error e) s') s:=by
 obtain ⟨us,ws,n,n2,hu,hw,zu,zw,_⟩:=hl 0 s h
 have first:=turns hl fin N 0 (by omega) s h
 have like:¬ (us.size != ws.size)=true:=by rw [zu,zw]; simp
 have cls:=AutoSeq1.sub_list_list
 obtain ⟨hp,gg,dd,tk,os⟩:=s
 wp_walk using wpAny_loadPart' hu,wpAny_loadPart' hw
 exact ⟨plainId_quiet plain_eq_loop _,codeAny_builtin entry_eq_loop (by
  rw [Around.under_plainId plain_eq_loop _]; exact first)⟩
end
section
variable{prog:Program}{w:World}{A:Around}{E:Value->Shared->Prop}{s:Shared}{l b:Addr}{N:Nat}{Q:Value->Shared->Prop}
theorem ne_same(hu:A.units<cLine)(I:Nat->Shared->Prop)(hl:GQ.ListI prog w A E l b N I)(fin:∀ s,I N s->Q (.bool false) s)(h:I 0 s):wpAny (model prog w) A (richCompare .NotEq (.ref l) (.ref b)) Q E s:=by
 obtain ⟨us,ws,n,n2,h1,h2,_,_,_⟩:=hl 0 s h
 have body:=Ant (R:=wants (fun v s'=>v≠.notImplemented/\Q v s') E) hl (fun s' q=>⟨(fun z=>nomatch z),fin s' q⟩) h
 exact wpAny_richCompare_same_room (op:=.NotEq) ⟨_,h1,rfl⟩ ⟨_,h2,rfl⟩ F.slot_list_ne (GQ.call_here F.slot_list_ne ⟨_,h1,rfl⟩ F.entry_list_ne (F.args_list_ne_2 _ _) body) hu
end
end NeL
namespace Vs
open PySem PySem.Spec PyProof.Rows L2 Fw SX NdefX
def Mv:D->D->Bool
 | .non,.non=>true
 | .bl a,.bl b=>a==b
 | .int a,.int b=>a==b
 | .str a,.str b=>a==b
 | _,_=>false
def Qw:List D->List D->Bool
 | [],[]=>true
 | x::xs,y::ys=>Mv x y&&Qw xs ys
 | _,_=>false
section
variable{g:Gm}{G H:Hp}
theorem Uk{x y:D}{u v:V}(h:Mv x y=true)(r:Rep g G x u)(r2:Rep g G y v):u=v/\flatB u=true:=by
 unfold Mv at h
 split at h
 ·cases (show u=V.non from r); cases (show v=V.non from r2); exact ⟨rfl,rfl⟩
 ·rename_i a b
  have e:=eq_of_beq h
  subst e
  cases (show u=V.bl a from r); cases (show v=V.bl a from r2); exact ⟨rfl,rfl⟩
 ·rename_i a b
  have e:=eq_of_beq h
  subst e
  cases (show u=V.int a from r); cases (show v=V.int a from r2); exact ⟨rfl,rfl⟩
 ·rename_i a b
  have e:=eq_of_beq h
  subst e
  obtain ⟨r,_⟩:=(show u=V.str (S a)/\OkS a from r)
  obtain ⟨r2,_⟩:=(show v=V.str (S a)/\OkS a from r2)
  rw [r,r2]
  exact ⟨rfl,rfl⟩
 ·cases h
end
end Vs
namespace Fw
open PySem PySem.Spec PyProof.Rows L2
section
variable{P:Program}{w:World}{A:Around}{E:Value->Shared->Prop}{s:Shared}
set_option maxHeartbeats 4000000 in
end
end Fw
namespace Vs
open PySem PySem.Spec PyProof.Rows L2 Fw SX
section
variable{g:Gm}{W:WX}{k:Nat}{X:Cx}{ex:Expr}{A:M (List Rv)}{p p2 pos pos2:Pos}
def lstR(r:Rv)(e:Ve):Res Rv:=match r with
 | .val (.int j)=>if 0<=j/\j<=16777216 then .ok (.fresh (.lst (Cg 0 j.toNat))) e else .no
 | _=>.no
end
end Vs
namespace Vs
open PySem PySem.Spec PyProof.Rows L2 Fw SX NdefX
def Aar(D:Ends)(i:Nat):Ends:={ nx:=fun τ M=>D.nx (τ.set i none) M,rt:=D.rt,bk:=fun τ M=>D.bk (τ.set i none) M,ct:=fun τ M=>D.ct (τ.set i none) M }
def Mw(K:PySem.W.Frag)(W0:WX)(D:Ends):List Clz->WX
 | []=>W0
 | q::r=>fun cls d σ H=>∃ b,PySem.W.exmOne K cls q.1=some b/\(b=true->∀ a,H a=none->q.2.2 a cls d (Aar D q.2.1) (σ.set q.2.1 (some (.ref a))) H)/\(b=false->Mw K W0 D r cls d σ H)
inductive ClzOk(X:Cx):List ExceptHandler->List Clz->Prop
 | nil:ClzOk X [] []
 | cons {x n:Str} {c:Value} {i:Nat} {ts:Addr->Value->Option Addr->TS} {s0:Stmt} {ss:List Stmt} {np ph:Pos} {hds:List ExceptHandler} {l:List Clz} (hi:X.N[i]? = some n) (hln:X.env.kindOf n=some .local) (hc:Names X x c)
   (run:∀ (a:Addr) (ob:Obj) (cls:Value) (d:Option Addr) (pn:List (Addr×Obj)),Zc cls d ob->(∃ vs,ob.data=.fields vs)->PSs (X.suite a ((a,ob)::pn)) (s0::ss) (ts a cls d)) (r:ClzOk X hds l) :
   ClzOk X (.ExceptHandler (some (.Name x np)) (some n) (s0::ss) ph::hds) ((c,i,ts)::l)
section
variable{X:Cx}{pins:List (Addr×Obj)}{σ':L2.St}{H':Hp}{sI s':Shared}{D:Ends}{a:Addr}{B h3:Heap}{cls:Value}{d:Option Addr}{W0:WX}
theorem Anu(fr:X.env.frame=some X.env.locals)(st:X.stack=X.env::X.outer)(nd:X.N.Nodup)(tk:Takes X W0)(okX:X.Ok)(J:Inv X pins σ' H' sI)(nb:∀ b o,sI.heap.get? b=some o->b ∉ frs X.stack->B.get? b=some o)(na:H' a=none)(ho:s'.os=sI.os)(hg:AllBare s'.gens)
  (up:sI.heap.UpToSlots h3)(fl:HandSPX.FlyingZ B (X.env::X.outer) a (Zc cls d) h3) :
  ∀ {hds:List ExceptHandler} {l:List Clz},ClzOk X hds l->Mw X.K W0 D l cls d σ' H'->wpAny (model X.prog X.w) X.A (handleBy (.ref a) X.env hds) (SP X pins D) X.xe { s' with heap:=h3 }:=by
 intro hds l hk
 have J3:Inv X pins σ' H' { s' with heap:=h3 }:=J.landed nb fl.1 up ho hg
 obtain ⟨ob,us,hget,hz,hdt⟩:=fl.there
 have away:∀ {h:Heap} {o:Obj} {vs:Array Value},h.FunFrames B (X.env::X.outer)->h.get? a=some o->o.data=.fields vs->a ∉ frs (X.env::X.outer):=fun {h o vs} ff q dd hm=>by
  obtain ⟨_,o',q',nf⟩:=ff.mem hm
  rw [q] at q'
  cases q'
  exact nf _ dd
 have nfr:=away fl.2.2.1 hget hdt
 have nL:a≠X.env.locals:=fun z=>nfr (List.mem_filterMap.mpr ⟨X.env,List.mem_cons_self,by rw [fr,z]⟩)
 have nF:a ∉ X.fs:=fun hm=>by
  obtain ⟨en,hen,q⟩:=List.mem_filterMap.mp hm
  exact nfr (List.mem_filterMap.mpr ⟨en,List.mem_cons_of_mem _ hen,q⟩)
 have S3:=J3.suite hget hdt na nL nF
 have tyA:PySem.W.Looks (model X.prog X.w) h3 (typeOf (.ref a)) cls:=fun A Q E s k q=>wpAny_typeOf_ref (k _ _ hget) (by rw [hz.1]; exact q)
 induction hk with
 | nil =>
  intro w
  obtain ⟨_,_,_,o9,vs9,T9,oT9,ts9,q1,q2,q3,q4,q5⟩:=id fl
  refine wpAny_handleBy_nil ?_
  unfold PySem.passOn
  refine wpAny_bind (wpAny_field q1 q3 q4 ?_)
  rw [if_neg (show ¬ (Value.ref T9==Value.none)=true by simp)]
  have thr:wpAny (model X.prog X.w) X.A (setFlight (.ref a) X.env.frame) (fun _ s4=>wpAny (model X.prog X.w) X.A (throw (.ref a):Sem Flow) (SP X pins D) X.xe s4) X.xe { s' with heap:=h3 }:=by
   rw [fr]
   exact HandSPX.setFlight_upZ fl fun h4 held u4=>wpAny_throw (tk _ _ ⟨a,B,sI,pins,σ',H',cls,d,rfl,J,nb,up.trans u4,.inr (.inr (by rw [st]; exact held)),na,ho,hg,w⟩)
  first
   | exact wpAny_bind (wpAny_pure (wpAny_bind thr))
   | exact wpAny_bind thr
 | @cons x n c i ts s0 ss np ph hds2 l2 hi hln hc run r ih =>
  intro w
  obtain ⟨b,hb,yes,no⟩:=w
  have named:∀ {Q:Value->Shared->Prop} {E:Value->Shared->Prop},Q c { s' with heap:=h3 }->wpAny (model X.prog X.w) (X.A.mark (some (.ref a))) (eval (.Name x np) X.env) Q E { s' with heap:=h3 }:=fun {Q E} q=>by
   obtain ⟨h1,h2,h4 | ⟨h4,h5,h6⟩⟩:=hc
   ·exact ld_glob (X:=X.suite a ((a,ob)::(X.pn++pins))) S3 h1 h4 q h2
   ·exact ld_blt (X:=X.suite a ((a,ob)::(X.pn++pins))) S3 h1 h4 h5 q h6 h2
  refine wpAny_handleBy_cons (codeAny_handlers_test (named ((PySem.W.exm_one (M:=model X.prog X.w) J3.kIn tyA hb).here ?_))) (by intro q; cases q)
  cases b with
  | false=>exact ih (no rfl)
  | true =>
   refine codeAny_handlers_suite_as (HandSPX.lands_againZ fl fun h4 f4 u4=>?_)
   obtain ⟨o4,v4,g4,z4,d4⟩:=f4.there
   have J4:Inv X pins σ' H' { s' with heap:=h4 }:=J.landed nb f4.1 (up.trans u4) ho hg
   refine store_ok (X:=X.suite a ((a,o4)::(X.pn++pins))) (v:=.ref a) (J4.suite g4 d4 na nL nF) nd hi (.inl hln) rfl (fun s5 S5=>?_) (.inr hln)
   refine wpAny_mono ((run a o4 cls d (X.pn++pins) z4 ⟨_,d4⟩).run [] s5 _ H' _ S5 (yes rfl a na)) (fun f s6 out=>?_) fun _ _ z=>z.elim
   have bye:∀ {τ:L2.St} {M:Hp} {Q:Shared->Prop},Inv (X.suite a ((a,o4)::(X.pn++pins))) [] τ M s6->(∀ s7,Inv X pins (τ.set i none) M s7->Q s7) ->
     wpAny (model X.prog X.w) X.A (do bindName X.env n .none; unbindBehindTheSuite X.env n ph) (fun _ s7=>Q s7) X.xe s6:=fun {τ M Q} S6 hq=>gone_ok (S6.unsuite okX) nd hi hln hq
   match f,out with
   | .next,⟨τ,M,S6,q6⟩=>exact bye S6 fun s7 J7=>⟨_,_,J7,q6⟩
   | .brk,⟨τ,M,S6,q6⟩=>exact bye S6 fun s7 J7=>⟨_,_,J7,q6⟩
   | .cont,⟨τ,M,S6,q6⟩=>exact bye S6 fun s7 J7=>⟨_,_,J7,q6⟩
   | .ret u,⟨v6,τ,M,S6,r6,q6⟩=>exact bye S6 fun s7 J7=>⟨_,_,_,J7,r6,q6⟩
end
section
variable{X:Cx}{body:List Stmt}{h0:ExceptHandler}{hds:List ExceptHandler}{l:List Clz}{pos:Pos}{tb:WX->TS}{W0:WX}
theorem Anv(st:X.stack=X.env::X.outer)(fr:X.env.frame=some X.env.locals)(nd:X.N.Nodup)(tk:Takes X W0)
  (hb:∀ (W:WX) (pn:List (Addr×Obj)) (xe:Value->Shared->Prop),Takes (X.tr pn xe) W->PassesOwn (model X.prog X.w) X.A X.env xe->PSs (X.tr pn xe) body (tb W))(hk:ClzOk X (h0::hds) l) :
  PS X (.Try body (h0::hds) [] [] pos) (fun D σ H=>tb (Mw X.K W0 D l) D σ H):=by
 refine ⟨fun pins s σ H D I h=>?_⟩
 have okX:=I.ok
 have hfr:X.A.frames=some (X.env::X.outer):=by rw [okX.frames,st]
 have run:=hb (Mw X.K W0 D l) (X.pn++pins) (fun e s₁=>wpAny (model X.prog X.w) X.A (noteFrame e X.env) (fun _ s₂=>wpAny (model X.prog X.w) X.A (setFlight e none) (fun _ s₃=>wpAny (model X.prog X.w) X.A (handleBy e X.env (h0::hds)) (SP X pins D) X.xe s₃) X.xe s₂) X.xe s₁)
  (fun u s' air=>by
   obtain ⟨a,B,sI,pins',σ',H',cls,d,rfl,J',nb,up,sky,na,ho,hg,w⟩:=air
   refine Sky.land Zc.steady hfr fr (show Sky B (X.env::X.outer) a (Zc cls d) X.env.locals s'.heap by rw [← st]; exact sky) fun h3 fl u3=>?_
   exact Anu fr st nd tk okX (J'.ofTry okX) nb na ho hg (up.trans u3) fl hk w) PassesOwn.looking
 refine wpAny_Try_except (wpAny_mono (run.run [] s σ H D (I.toTry _) h) (fun f s1 out=>?_) fun e s1 q=>q)
 match f,out with
 | .next,⟨τ,M,J,q⟩=>exact wpAny_execs_nil ⟨τ,M,J.ofTry okX,q⟩
 | .brk,⟨τ,M,J,q⟩=>exact ⟨τ,M,J.ofTry okX,q⟩
 | .cont,⟨τ,M,J,q⟩=>exact ⟨τ,M,J.ofTry okX,q⟩
 | .ret u,⟨v,τ,M,J,r,q⟩=>exact ⟨v,τ,M,J.ofTry okX,r,q⟩
end
section
variable{X:Cx}{pins:List (Addr×Obj)}{σ:L2.St}{H:Hp}{s:Shared}{P c:Addr}{params:Arguments}{body:Expr}{scope:Scope}{pos:Pos}
abbrev Js(X:Cx)(params:Arguments)(body:Expr)(scope:Scope)(pm:Value)(c':Addr)(ctv:Value):Obj:=PySem.W.kla_obj "<lambda>" (X.env.qual ++ "<lambda>") params body scope (cloFrom X.env.cells scope.names []) pm c' ctv
theorem Anw{E Q:Value->Shared->Prop}{ps:Array Value}(I:Inv X pins σ H s)(TB:LamX.TabB X.base X.mg c P)(hcode:X.env.code=.ref c)(hdef:defaultsOf params X.env=([],[]))(hfree:∀ y∈scope.names,y.2=.free->∃ c,X.env.cells.lookup y.1=some c)
  (hP:H P=some (.tbl ps))(ht:TriplesOk ps.toList)(ha:∀ cv,codeAmong pos ps.toList=some cv->∃ c,cv=.ref c)
  (new:∀ (c' f:Addr) (pm ctv:Value) (s':Shared),codeAmong pos ps.toList=none->H c'=none->H f=none->f≠c'->f≠P->f ∉ frs X.stack->Inv X pins σ (upd (upd H P (.tbl (ps ++ #[rawInt pos.line,rawInt pos.col,.ref c']))) c' (LamX.CodeO c' (X.env.qual ++ "<lambda>"))) s' ->
   s'.heap.get? f=some (Js X params body scope pm c' ctv)->Q (.ref f) s')
  (old:∀ (c' f:Addr) (pm ctv:Value) (s':Shared),codeAmong pos ps.toList=some (.ref c')->H f=none->f ∉ frs X.stack->Inv X pins σ H s'->s'.heap.get? f=some (Js X params body scope pm c' ctv)->Q (.ref f) s') :
  wpAny (model X.prog X.w) X.A (eval (.Lambda params body scope pos) X.env) Q E s:=by
 have clo:=closure_ok (env:=X.env) hfree
 have hP':s.heap.get? P=some { cls:=.none,data:=.fields ps }:=I.hok P _ hP
 have off:∀ b,s.heap.objs.size<=b->b ∉ frs X.stack:=fun b hb z=>by
  rcases List.mem_cons.mp (I.stkSub _ z) with q | q
  ·have:=I.lt
   rw [← q] at this
   exact absurd this (Nat.not_lt.mpr hb)
  ·exact I.nofs hb q
 refine PySem.W.kla_eval hdef ?_
 cases hc:codeAmong pos ps.toList with
 | none =>
  refine PySem.W.kla_makeFunction (mg:=X.mg) (P:=P) clo I.ok.glob (I.mod.glob.keeps I.bk) hcode (TB.code.keeps I.bk) hP' ht hc TB.gP (TB.bm.keeps I.bk) fun k ctv h' tk hx hge hlt hr htb=>?_
  obtain ⟨k2,oc,us,t,ek,ho,hd,hv⟩:=hr
  cases ek
  have grow:s.heap.objs.size<=h'.objs.size:=Nat.le_trans hge (Nat.le_of_lt hlt)
  have J:=LamX.inv_table (t':=tk) (q:=X.env.qual ++ "<lambda>") (h':=h'.push (Js X params body scope ((X.mg "__name__").getD .none) k ctv)) I hP (fun b o hb q=>Heap.get?_push_of_some _ (hx b o hb q)) (Heap.get?_push_of_some _ htb) hge
   ⟨oc,us,t,Heap.get?_push_of_some _ ho,hd,hv⟩
  exact new k h'.objs.size _ ctv _ hc (I.hok.fresh hge) (I.hok.fresh grow) (Nat.ne_of_gt hlt) (Nat.ne_of_gt (Nat.lt_of_lt_of_le (Heap.lt_size hP') grow)) (off _ grow) J (Heap.get?_push_size _ rfl)
 | some cv =>
  obtain ⟨k,rfl⟩:=ha cv hc
  refine PySem.W.kla_makeFunctionHit (mg:=X.mg) (P:=P) clo I.ok.glob (I.mod.glob.keeps I.bk) hcode (TB.code.keeps I.bk) hP' ht hc (TB.bm.keeps I.bk) fun ctv h' tk hx hz=>?_
  have J:Inv X pins σ H { s with heap:=h'.push (Js X params body scope ((X.mg "__name__").getD .none) k ctv),toks:=tk }:=I.kept fun b o q=>Heap.get?_push_of_some _ (hx b o q)
  exact old k h'.objs.size _ ctv _ hc (I.hok.fresh hz) (off _ hz) J (Heap.get?_push_size _ rfl)
theorem Anx{CXg:CXT}{Eg:XK}{Ng:List Str}{qg:Str}{sg:Scope}{gd f c':Addr}{cdg pm ctv:Value}{k i:Nat}{a:Str}{pn:List (Addr×Obj)}{xe:Value->Shared->Prop}{W:WX}{tl:XK->TE}{p1 p2:Pos}
  (I:Inv X pins σ H s)(L:LamX.LamS X.env.scope scope)(hf:s.heap.get? f=some (Js X params body scope pm c' ctv))(hfn:H f=none)(hfr:f ∉ frs X.stack)
  (hbind:∀ (q:Str) (cl:List (Str×Addr)) (pm cv ctv:Value),bindArgs (PySem.W.kla_fn "<lambda>" q params body scope cl pm cv ctv) ⟨[],[]⟩=pure [])
  (tk:Takes ((cxOf CXg X.prog X.w X.K X.mg X.base Ng qg sg gd cdg X.A X.stack s H Eg).tr pn xe) W)(hr:Rm (k+1) (X.A.deeper (envOfC qg sg s.heap.objs.size gd cdg)))
  (hbody:∀ (A:Around) (outer:List PySem.Env) (s:Shared) (H:Hp) (E:XK) (f c':Addr),Rm k (A.deeper (LamX.lamEnv X scope s.heap.objs.size f c'))->PE (LamX.lamCx X A outer s H E scope f c') body (tl E))
  (hN:Ng[i]? = some a)(hv:Vis sg a)(hd:(a==("__debug__" : Str))=false:=by decide)(hcd:(a==("__classdict__" : Str))=false:=by decide) :
  PE ((cxOf CXg X.prog X.w X.K X.mg X.base Ng qg sg gd cdg X.A X.stack s H Eg).tr pn xe) (.Call (.Name a p1) [] [] p2)
   (fun σZ HZ Q=>σZ[i]? = some (some (.ref f))/\HZ c'=some (LamX.CodeO c' (X.env.qual ++ "<lambda>"))/\tl (fun cls d H'=>W cls d σZ H') σ HZ Q):=by
 refine ⟨fun pz sz σZ HZ Q IZ ⟨h0,hc,ht⟩=>?_⟩
 refine wpAny_Call_Name_kw (thn ((pe_var (pos:=p1) (i:=i) hN hv hd hcd).run pz sz σZ HZ (fun v M=>v=.ref f/\M=HZ) IZ ⟨.ref f,h0,rfl,rfl⟩) fun u s1 ⟨v,M,I1,r1,ev,eM⟩=>?_)
 subst ev
 rw [eM] at I1
 obtain rfl:u=Value.ref f:=r1
 have obf:s1.heap.get? f=some (Js X params body scope pm c' ctv):=I1.base.keep f _ hf hfn hfr (fun z=>nomatch (show f∈([]:List Addr) from z))
 have un:Un (frs X.stack) [] H HZ s.heap s1.heap:=I1.base
 obtain ⟨⟨oc,vs,t,e1,e2,e3⟩,_,_⟩:=I1.hok c' _ hc
 have px:PassesAt (L2.CX X.prog X.w) ((cxOf CXg X.prog X.w X.K X.mg X.base Ng qg sg gd cdg X.A X.stack s H Eg).tr pn xe) σZ (fun cls d H'=>W cls d σZ H'):=passAt tk σZ
 refine PySem.W.callWith_F0 ⟨_,_,_,_,obf⟩ (wpAny_call (codeAny_mono (R:=CR (L2.CX X.prog X.w) (envOfC qg sg s.heap.objs.size gd cdg::X.stack) X.prog X.w HZ s1 Q (fun cls d H'=>W cls d σZ H')) ?_ fun res s' out=>?_))
 ·show codeAny _ _ (.call (.ref f) ⟨[],[]⟩) _ _
  refine PySem.W.kla_callFunE hr.toRoom.depth obf rfl L.co L.gen rfl ⟨c',oc,vs,t,rfl,e1,e2,e3⟩ ?_
  rw [hbind]
  refine wpAny_pure (wpAny_newFunctionEnv (fun y hy=>(L.own y hy).2) (fun y hy=>absurd hy (by simp)) (fun h1 hns hsb=>⟨I1.nolimit.fresh _ hsb,?_⟩) L.kind)
  have keep1:∀ b o,s1.heap.get? b=some o->h1.get? b=some o:=fun b o q=>hsb.extBut b o (Nat.ne_of_lt (Heap.lt_size q)) (Heap.get?_push_of_some _ q)
  have J:=LamX.lam_start2 (tk:=s1.toks+([]:List (Str×Value)).length) (E:=fun cls d H'=>W cls d σZ H') (f:=f) (c':=c') I L I1.env0 hr.hd un hns keep1
  refine PySem.W.kla_codeExpr (wpAny_mono ((hbody _ _ s1 HZ _ f c' (hr.deeper _)).run [] _ _ HZ Q J ht) (fun v s' ⟨w',H',J',rv,q⟩=>?_) fun e s' q=>q)
  exact ⟨w',H',J'.os,J'.bare,J'.base,J'.hok,rv,q⟩
 ·match res,out with
  | .error e,out=>exact px pz HZ s1 e s' I1 out
  | .ok (.ret u),out=>exact I1.after out
  | .ok .next,out=>exact out.elim
  | .ok .brk,out=>exact out.elim
  | .ok .cont,out=>exact out.elim
end
theorem OutOk.grow{g:Gm}{G H G1 H1:Hp}{r:Rv}{Q:VK}(o:OutOk g G H r Q)(w:Grow G H G1 H1):OutOk g G1 H1 r Q:=fun G2 H2 v gr nw=>o G2 H2 v (w.trans gr) (by
 cases r with
 | val d=>exact nw
 | fresh d =>
  obtain ⟨p,e,n,ow,h0⟩:=nw
  exact ⟨p,e,n,ow,w.dom p h0⟩
 | slot i=>exact nw.elim)
def erC:List (Str×Bool×(List (Str×D)->Option (List D)))->Exn->Option Rv
 | [],_=>none
 | q::r,x=>if x.1=q.1/\x.2≠[] then (match q.2.2 x.2 with | some ds=>if ds.length<=sizeLine then some (if q.2.1=true then .val (.tup ds) else .fresh (.lst ds)) else none | none=>none) else erC r x
def czE(cs:List Cz):List (Str×Bool×(List (Str×D)->Option (List D))):=cs.map fun q=>(q.y,q.tup,q.f)
def CzOk(g:Gm):List Cz->Prop
 | []=>True
 | q::r=>PySem.W.exmOne g.K (.ref (g.ca q.y)) q.c=some true/\(∀ q'∈r,PySem.W.exmOne g.K (.ref (g.ca q'.y)) q.c=some false)/\CzOk g r
theorem Aas{g:Gm}{Ng:List Str}{f:Addr}{xx:Exn}{cls:Value}{d:Option Addr}{G H:Hp}{r:Rv}{Dn:Ends}(xo:XOk g G xx cls d)(bs:Bs G H)(sc:SqL g.K H g.sa (g.sn.map .int))(hl:(L2.start Ng [V.ref f]).length=Ng.length) :
  ∀ {cs:List Cz},CzOk g cs->(∀ q∈cs,q.i<Ng.length)->erC (czE cs) xx=some r->OutOk g G H r Dn.rt->Mw g.K (fun _ _ _ _=>False) Dn (cs.map (Cz.z g)) cls d (L2.start Ng [.ref f]) H
 | [],_,_,er,_=>by cases er
 | q::cs,ok,hi,er,out=>by
  obtain ⟨c1,c2,c3⟩:=ok
  have er':(if xx.1=q.y/\xx.2≠[] then (match q.f xx.2 with | some ds=>if ds.length<=sizeLine then some (if q.tup=true then Rv.val (.tup ds) else .fresh (.lst ds)) else none | none=>none) else erC (czE cs) xx)=some r:=er
  show ∃ b,PySem.W.exmOne g.K cls q.c=some b/\_/\_
  by_cases h:xx.1=q.y/\xx.2≠[]
  ·rw [if_pos h] at er'
   refine ⟨true,by rw [xo.1,h.1]; exact c1,fun _ a na=>?_,fun z=>absurd z (by simp)⟩
   obtain ⟨da,fv,ed,hda,rf⟩:∃ da fs,d=some da/\G da=some (.xd fs)/\RepF g G xx.2 fs:=by
    rcases xo.2 with ⟨_,z⟩ | z
    ·exact absurd z h.2
    ·exact z
   cases qf:q.f xx.2 with
   | none=>rw [qf] at er'; cases er'
   | some ds =>
    rw [qf] at er'
    simp only at er'
    by_cases hz:ds.length<=sizeLine
    ·rw [if_pos hz] at er'
     have cau:Cau g q.i q.y a cls d ((L2.start Ng [.ref f]).set q.i (some (.ref a))) G H xx.2:=⟨bs,sc,by rw [List.getElem?_set_self (by rw [hl]; exact hi q List.mem_cons_self)],by rw [xo.1,h.1],da,fv,ed,hda,rf⟩
     show tRet (if q.tup=true then tTup (TXs g q.i q.y a cls d q.f) else tLst (TXs g q.i q.y a cls d q.f)) (Aar Dn q.i) _ H
     by_cases ht:q.tup=true
     ·rw [if_pos ht] at er' ⊢
      cases er'
      exact ⟨G,xx.2,cau,ds,qf,fun vs G1 H1 w rp=>⟨by rw [rp.len]; exact hz,fun p np=>(out.grow w).tup w.bs rp p np⟩⟩
     ·rw [if_neg ht] at er' ⊢
      cases er'
      exact ⟨G,xx.2,cau,ds,qf,fun vs G1 H1 w rp=>⟨by rw [rp.len]; exact hz,fun p np=>(out.grow w).lst w.bs rp p np⟩⟩
    ·rw [if_neg hz] at er'; cases er'
  ·rw [if_neg h] at er'
   obtain ⟨q',hq',hy⟩:∃ q'∈cs,xx.1=q'.y:=by
    have:∀ (cs:List Cz),erC (czE cs) xx=some r->∃ q'∈cs,xx.1=q'.y:=by
     intro cs
     induction cs with
     | nil=>intro z; cases z
     | cons q2 r2 ih =>
      intro z
      have z':(if xx.1=q2.y/\xx.2≠[] then (match q2.f xx.2 with | some ds=>if ds.length<=sizeLine then some (if q2.tup=true then Rv.val (.tup ds) else .fresh (.lst ds)) else none | none=>none) else erC (czE r2) xx)=some r:=z
      by_cases h2:xx.1=q2.y/\xx.2≠[]
      ·exact ⟨q2,List.mem_cons_self,h2.1⟩
      ·rw [if_neg h2] at z'
       obtain ⟨q',a,b⟩:=ih z'
       exact ⟨q',List.mem_cons_of_mem _ a,b⟩
    exact this cs er'
   exact ⟨false,by rw [xo.1,hy]; exact c2 q' hq',fun z=>absurd z (by simp),fun _=>Aas xo bs sc hl c3 (fun q hq=>hi q (List.mem_cons_of_mem _ hq)) er' out⟩
theorem Ul{mg:Str->Option Value}{g:Gm}{x y:Str}{b:Bool}{c:Value}(hm:mg x=some c)(h:Jp mg g x y b):PySem.W.exmOne g.K (.ref (g.ca y)) c=some b:=by
 obtain ⟨c',h1,h2⟩:=h
 rw [hm] at h1
 cases h1
 exact h2
theorem Anz{g:Gm}{Y:Cx}:ClzOk Y [] (([]:List Cz).map (Cz.z g)):=.nil
theorem Aat{g:Gm}{Y:Cx}{x n y:Str}{c:Value}{i:Nat}{es:List Expr}{f:List (Str×D)->Option (List D)}{np lp rp ph:Pos}{hds:List ExceptHandler}{cs:List Cz}(hi:Y.N[i]? = some n)(hln:Y.env.kindOf n=some .local)(hg:Gl Y x)(hm:Y.mg x=some c)(hx:VXs g i y Y es f)
  (hK:Y.K=g.K)(hw:Y.w=g.w)(gd:Y.A.guards=some [])(un:Y.A.units+64<cLine)(r:ClzOk Y hds (cs.map (Cz.z g)))(hdb:(x==("__debug__" : Str))=false:=by decide) :
  ClzOk Y (.ExceptHandler (some (.Name x np)) (some n) [.Return (some (.List es lp)) rp] ph::hds) ((⟨c,i,y,false,f⟩::cs:List Cz).map (Cz.z g)) :=
 .cons hi hln ⟨hg,hdb,.inl hm⟩ (fun a ob cls d pn hz hf=>pss_one (ps_ret (by rw [if_neg Bool.false_ne_true]; exact pe_lst (hx.run hK hw gd un a ob cls d pn hz hf)))) r
def EqRW(K:PySem.W.Frag)(H:Hp)(E:V->V->Prop)(x y:V):Prop :=
 (∃ a b xs ys,x=.ref a/\y=.ref b/\SqL K H a xs/\SqL K H b ys/\Paired E xs ys) \/
  ∃ a b ks ls,x=.ref a/\y=.ref b/\Rd H a (.dK ks)/\Rd H b (.dK ls)/\ks.length=ls.length/\∀ p∈ks,∃ u,valV ls p.1=some u/\E p.2 u
def EqW(K:PySem.W.Frag)(H:Hp):Nat->V->V->Prop
 | 0=>fun _ _=>False
 | n+1=>fun x y=>(x=y/\flatB x=true)\/EqRW K H (EqW K H n) x y
section
variable{X:Cx}{pins:List (Addr×Obj)}{σ:L2.St}{H:Hp}{s:Shared}
theorem An0(I:Inv X pins σ H s){A:Around}{F:V->V->Prop}(hu:A.units<cLine)(ih:∀ x y v u,F x y->RelV x v->RelV y u->SeqAt.EqP X.prog X.w A.in1 s v u true){x y:V}{v u:Value}(h:EqRW X.K H F x y)(rx:RelV x v)(ry:RelV y u)
  (E Q:Value->Shared->Prop)(q:Q (.bool true) s):wpAny (model X.prog X.w) A (richCompare .Eq v u) Q E s:=by
 rcases h with ⟨a,b,xs,ys,rfl,rfl,ha,hb,hp⟩ | ⟨a,b,ks,ls,rfl,rfl,ha,hb,hl,hp⟩
 ·exact eqR_run I hu ih (.inl ⟨a,b,xs,ys,rfl,rfl,ha,hb,hp⟩) rx ry E Q q
 ·cases (show v=Value.ref a from rx)
  cases (show u=Value.ref b from ry)
  obtain ⟨_,ya,va,ra,da⟩:=(show ObjOk X.prog X.w H s.heap a (.dK ks) from ha.ok I.hok)
  obtain ⟨_,yb,vb,rb,db⟩:=(show ObjOk X.prog X.w H s.heap b (.dK ls) from hb.ok I.hok)
  refine PySem.W.rcP_dicts (knd:=mixKind X.prog X.w) (r:=true) ya yb da db hu (fun _=>hits_run ih rb ra hp) E Q ?_
  have e:va.length=vb.length:=by rw [← ra.length,← rb.length]; exact hl
  rw [show (va.length==vb.length&&true)=true from by rw [e]; simp]
  exact q
theorem Aau(I:Inv X pins σ H s):∀ (n:Nat) (A:Around),A.units+n<cLine->∀ (x y:V) (v u:Value),EqW X.K H n x y->RelV x v->RelV y u->SeqAt.EqP X.prog X.w A s v u true
 | 0,_,_,_,_,_,_,h,_,_=>(show False from h).elim
 | n+1,A,hu,x,y,v,u,h,rx,ry=>by
  rcases h with ⟨rfl,f⟩ | h
  ·exact (eqAt_same rx ry f).eqP
  ·have step:=An0 I (A:=A) (by omega) (Aau I n A.in1 (by show A.units+1+n<cLine; omega)) h rx ry
   obtain ⟨a,b,rfl,rfl⟩:∃ a b,x=.ref a/\y=.ref b:=by
    rcases h with ⟨a,b,_,_,e1,e2,_⟩ | ⟨a,b,_,_,e1,e2,_⟩
    ·exact ⟨a,b,e1,e2⟩
    ·exact ⟨a,b,e1,e2⟩
   cases (show v=Value.ref a from rx)
   cases (show u=Value.ref b from ry)
   by_cases e:a=b
   ·subst e
    exact (SeqAt.EqAt.same _).eqP
   ·exact SeqAt.eqP_refs e step
end
def rNeV(K:PySem.W.Frag):R2:=fun x y H Q=>∃ a b xs ys,x=V.ref a/\y=V.ref b/\H a=some (.lst xs)/\H b=some (.lst ys)/\Paired (EqW K H 3) xs ys/\Q (.bl false) H
section
variable{X:Cx}
theorem An1(hu:X.A.units+64<cLine):OpR X (compareOp .NotEq) (rNeV X.K):=by
 intro pins s σ H x y v u Q I rx ry h
 obtain ⟨a,b,xs,ys,rfl,rfl,ha,hb,hp,q⟩:=h
 cases (show v=Value.ref a from rx)
 cases (show u=Value.ref b from ry)
 obtain ⟨z,its,n,r,e⟩:=I.hok a _ ha
 obtain ⟨z2,its2,n2,r2,e2⟩:=I.hok b _ hb
 have le:xs.length=ys.length:=Paired.length hp
 refine NeL.ne_same (N:=xs.length) (by omega) (fun _ s'=>s'=s) (fun i s' es=>?_) (fun s' es=>⟨.bl false,H,by rw [es]; exact I,rfl,q⟩) rfl
 subst es
 refine ⟨its.toArray,its2.toArray,n,n2,e,e2,by rw [List.size_toArray,← r.length],by rw [List.size_toArray,← r2.length,le],fun h1 h2=>?_⟩
 have k:=items_run (P:=X.prog) (w:=X.w) (A:=X.A.in1) (s:=s') (F:=EqW X.K H 3) (fun x y v u h rx ry=>Aau I 3 X.A.in1 (by show X.A.units+1+3<cLine; omega) x y v u h rx ry) hp r r2 i (by simpa using h1) (by simpa using h2)
 have k':SeqAt.EqP X.prog X.w X.A.in1 s' its.toArray[i] its2.toArray[i] true:=by simpa using k
 exact k' _ _ ⟨rfl,rfl⟩
end
def Qx:D->D->Bool
 | .lst xs,.lst ys=>Qw xs ys
 | .dct [(k,d)],.dct [(k2,d2)]=>decide (k=k2)&&Mv d d2
 | x,y=>Mv x y
def Ot:List D->List D->Bool
 | [],[]=>true
 | x::xs,y::ys=>Qx x y&&Ot xs ys
 | _,_=>false
def Qy:D->D->Bool
 | .lst xs,.lst ys=>Ot xs ys
 | _,_=>false
def neS(a b:D):Option Rv:=if Qy a b=true then some (.val (.bl false)) else neG a b
section
variable{g:Gm}{G H:Hp}
theorem Aav{K:PySem.W.Frag}{n:Nat}:∀ {xs ys:List D} {us vs:List V},Qw xs ys=true->Reps g G xs us->Reps g G ys vs->Paired (EqW K H (n+1)) us vs
 | [],[],us,vs,_,r,r2=>by
  cases (show us=[] from r); cases (show vs=[] from r2); exact .nil
 | x::xs,y::ys,us,vs,h,r,r2=>by
  simp only [Qw,Bool.and_eq_true] at h
  obtain ⟨u,us',rfl,ru,rus⟩:=r
  obtain ⟨v,vs',rfl,rv,rvs⟩:=r2
  exact .cons (.inl (Uk h.1 ru rv)) (Aav h.2 rus rvs)
 | [],_::_,_,_,h,_,_=>by cases h
 | _::_,[],_,_,h,_,_=>by cases h
theorem An2(bs:Bs G H){x y:D}{u v:V}(h:Qx x y=true)(r:Rep g G x u)(r2:Rep g G y v):EqW g.K H 3 u v:=by
 unfold Qx at h
 split at h
 ·rename_i xs ys
  obtain ⟨p,us,ev,ha,rus⟩:=id r
  obtain ⟨p2,us2,ev2,ha2,rus2⟩:=id r2
  subst ev; subst ev2
  exact .inr (.inl ⟨p,p2,us,us2,rfl,rfl,.inl (.inl (bs.at_ ha rfl)),.inl (.inl (bs.at_ ha2 rfl)),Aav h rus rus2⟩)
 ·rename_i k d k2 d2
  obtain ⟨h1,h2⟩:=Bool.and_eq_true_iff.mp h
  have h1:=of_decide_eq_true h1
  subst h1
  obtain ⟨p,us,ev,ha,rk⟩:=id r
  obtain ⟨p2,us2,ev2,ha2,rk2⟩:=id r2
  subst ev; subst ev2
  obtain ⟨ok,w1,t1,e1,q1,z1⟩:=rk
  obtain ⟨ok2,w2,t2,e2,q2,z2⟩:=rk2
  cases (show t1=[] from z1)
  cases (show t2=[] from z2)
  subst e1; subst e2
  refine .inr (.inr ⟨p,p2,_,_,rfl,rfl,bs.rd (.inl ha),bs.rd (.inl ha2),rfl,fun q hq=>?_⟩)
  rw [List.mem_singleton.mp hq]
  refine ⟨w2,?_,.inl (Uk h2 q1 q2)⟩
  unfold valV
  simp
 ·exact .inl (Uk h r r2)
theorem Aaw(bs:Bs G H):∀ {xs ys:List D} {us vs:List V},Ot xs ys=true->Reps g G xs us->Reps g G ys vs->Paired (EqW g.K H 3) us vs
 | [],[],us,vs,_,r,r2=>by
  cases (show us=[] from r); cases (show vs=[] from r2); exact .nil
 | x::xs,y::ys,us,vs,h,r,r2=>by
  simp only [Ot,Bool.and_eq_true] at h
  obtain ⟨u,us',rfl,ru,rus⟩:=r
  obtain ⟨v,vs',rfl,rv,rvs⟩:=r2
  exact .cons (An2 bs h.1 ru rv) (Aaw bs h.2 rus rvs)
 | [],_::_,_,_,h,_,_=>by cases h
 | _::_,[],_,_,h,_,_=>by cases h
end
section
variable{g:Gm}{W:WX}{k:Nat}{X:Cx}
theorem c_neS:Gg g W k X .NotEq neS:=⟨fun x y H Q=>rNeV g.K x y H Q\/rNeD g.K x y H Q,fun c=>c.K ▸ (An1 c.room.toRoom.units).or (op_neD c.room.units),fun G H d1 d2 x y out Q bs sc a b e q=>by
 unfold neS at e
 by_cases h:Qy d1 d2=true
 ·rw [if_pos h] at e
  cases e
  cases d1 with
  | lst xs =>
   cases d2 with
   | lst ys =>
    obtain ⟨p,us,ev,ha,r⟩:=RepH.lstR bs a
    obtain ⟨p2,us2,ev2,ha2,r2⟩:=RepH.lstR bs b
    exact .inl ⟨p,p2,us,us2,ev,ev2,ha,ha2,Aaw bs h r r2,q _ G H (Grow.refl bs) rfl⟩
   | _=>cases h
  | _=>cases d2 <;> cases h
 ·rw [if_neg h] at e
  exact .inr (Xw G H d1 d2 x y out Q bs sc a b e q)⟩
end
end Vs
namespace Vs
open PySem PySem.Spec PyProof.Rows L2 Fw SX
def ItX(it:Addr):HO:=.ext fun h=>∃ o,h.get? it=some o
section
variable{prog:Program}{w:World}{A:Around}{E:Value->Shared->Prop}{s:Shared}
theorem Zo{it t:Addr}{i:Nat}{items:Array Value}{Q:Option Value->Shared->Prop}(hh:A.handled=none)
  (hit:s.heap.IsTupleIter it t i)(ht:s.heap.IsTuple t items)(hx:items[i]? = none)
  (hQ:∀ h1 h' o,h1.get? it=some o->Heap.SameBut it s.heap h1->(∀ b o,h1.get? b=some o->h'.get? b=some o)->Q none { s with heap:=h' }):wpAny (model prog w) A (pyNext (.ref it)) Q E s:=by
 obtain ⟨o,ho,hc,hd⟩:=id hit
 obtain ⟨ol,hol,_,nl,hdl⟩:=ht
 unfold pyNext
 refine wpAny_bind (wpAny_attempt (wpAny_callSpecial?_slot (name:=Str.ofString "__next__") hit.typeIs PySem.F.slot_tuple_iterator_next
  (wpAny_call_entry PySem.F.slot_tuple_iterator_next hit.typeIs PySem.F.entry_tuple_iterator_next ?_ (PySem.F.args_tuple_iterator_next_1 _))))
 show wpAny _ _ (field (.ref it) 0 >>= _) _ _ s
 refine wpAny_bind (wpAny_field ho hd (x:=.ref t) rfl ?_)
 show wpAny _ _ (if (Value.ref t==Value.none)=true then _ else _) _ _ s
 rw [if_neg (show ¬ ((Value.ref t==Value.none)=true) from Bool.false_ne_true)]
 show wpAny _ _ (field (.ref it) 1 >>= _) _ _ s
 refine wpAny_bind (wpAny_field ho hd (x:=.int i 0) rfl ?_)
 show wpAny _ _ (seqItems? (.ref t) >>= _) _ _ s
 refine wpAny_bind (wpAny_seqItems hol hdl ?_)
 simp only [Int.toNat_natCast,hx]
 refine wpAny_bind (wpAny_rule (wpAny_bind (wpAny_setField ho hd (by simp) ?_)))
 show wpAny _ _ (newExc (.type "StopIteration") [] >>= _) _ _ _
 refine wpAny_bind ?_
 simp only [newExc,newTuple]
 refine wpAny_bind (wpAny_newObj_type ?_ (by size_fits))
 refine wpAny_bind (m:=firstArgMember _ _) (wpAny_of_eq (a:=Value.none) (by first | rfl | (simp only [firstArgMember]; rfl)) ?_)
 refine wpAny_newObj_type ?_ (by size_fits)
 simp only [raiseNew]
 refine wpAny_bind (wpAny_handled ?_)
 first | rw [show A.in1.handled=none from hh] | rw [hh]
 refine wpAny_bind (wpAny_pure (wpAny_throw ?_))
 refine wpAny_bind (wpAny_isInstance (T:="StopIteration") (b:=true) ⟨_,Heap.get?_push_size _ rfl,rfl⟩ isSubtype_stop ?_)
 exact wpAny_pure (hQ _ _ _ (Heap.get?_update_self _ ho (Obj.isFreed_of_fields (Obj.data_mapFields hd _))) (Heap.SameBut.update ..) fun b o e=>Heap.get?_push_of_some _ (Heap.get?_push_of_some _ e))
end
def Qz(P:Program)(mg:Str->Option Value)(base:Heap)(g:Gm)(j:Nat)(T:Str->Option (List Sl->Res Rv)):Prop :=
 ∀ c F,T c=some F->∃ f,PySem.W.findIn g.K (.ref (g.ca c)) "__getitem__" = some (some (.ref f))/\PySem.W.fnIn g.K f=true/\PySem.W.isFn g.K (.ref f)=true/\FnK P g.w g.K mg base (L2.CX P g.w) j f [] (spR g F)
def valRR:Res Rv->Res Rv
 | .ok (.val d) e=>.ok (.val d) e
 | _=>.no
def Ou(T:Str->Option (List Sl->Res Rv))(A B:M Rv):M Rv:=(Ad A).bind fun a=>(Ad B).bind fun b e=>match a,b with
 | .val (.ins c fs),.val d=>(match T c with
  | some F=>valRR (Bj F [.val (.ins c fs),.val d] e)
  | none=>.no)
 | _,_=>.no
def Q0(b:Expr):Prop:=∀ o i,subscripted b true o i=runValue (.builtin "lifetime.subscript" ⟨[o,i],[]⟩)
def tItmO(P:Program)(w:World)(K:PySem.W.Frag)(mg:Str->Option Value)(base:Heap)(k:Nat)(ta tb:TE):TE:=fun σ H Q=>ta σ H fun x H1=>tb σ H1 fun y H2=>∃ (p C dx:Addr) (fs:List (Str×V)) (f:Addr) (sp:Sp),x=.ref p/\H2 p=some (.ins C dx fs)/\PySem.W.findIn K (.ref C) "__getitem__" = some (some (.ref f))/\PySem.W.fnIn K f=true/\PySem.W.isFn K (.ref f)=true /\
 FnK P w K mg base (L2.CX P w) k f [] sp/\sp [.ref p,y] H2 Q (fun _ _ _=>False)
section
variable{g:Gm}{W:WX}{k:Nat}{X:Cx}
theorem An3{a b:Expr}{ta tb:TE}{pos:Pos}(rm:Rm (k+1) X.A)(ha:PE X a ta)(hb:PE X b tb)(hs:Q0 b):PE X (.Subscript a b pos) (tItmO X.prog X.w X.K X.mg X.base k ta tb):=by
 refine ⟨fun pins s σ H Q I h=>?_⟩
 refine Subscript_ (thn (ha.run pins s σ H _ I h) fun v s1 ⟨x,H1,I1,rx,h1⟩=>thn (hb.run pins s1 σ H1 _ I1 h1) fun u s2 ⟨y,H2,I2,ry,h2⟩=>?_)
 obtain ⟨p,C,dx,fs,f,sp,rfl,hp,q1,q2,q3,Fk,hq⟩:=h2
 cases rx
 obtain ⟨mA,J,_⟩:=ins_get I2.hok hp
 obtain ⟨od,J,_⟩:=J.look
 obtain ⟨m0,hF⟩:=I2.fr
 refine PySem.W.sub_K hF I2.ok.mod.kin J q1 q2 q3 ?_ (hs _ _)
 have e:=I2.env0
 have e0:Env0 X.prog X.w X.K X.mg X.base X.A.in1 X.stack s2 H2:=⟨e.frames,e.mod,e.bs,e.bsz,e.funs,e.frf,e.hok,e.bare⟩
 refine wpAny_call (codeAny_mono (Fk X.A.in1 X.stack s2 H2 [.ref p,u] [] [.ref p,y] [] Q (fun _ _ _=>False) rm.in1 e0 (.cons rfl (.cons ry .nil)) .nil rfl (by rw [List.append_nil]; exact hq)) fun res s' z=>?_)
 match res,z with
 | .error e,z =>
  obtain ⟨_,_,_,_,_,_,_,_,_,_,_,_,hE⟩:=z
  exact hE.elim
 | .ok .next,z=>exact False.elim z
 | .ok .brk,z=>exact False.elim z
 | .ok .cont,z=>exact False.elim z
 | .ok (.ret w'),z=>exact I2.after z
theorem Pst.valRR{σ:L2.St}{G H:Hp}{e:Ve}{Q:VK}{r:Res Rv}(h:Pst g W σ G H e (fun r G' H' e'=>∀ v,RvOk g G' H' σ e' H r v->Q v H') (valRR r)):Pst g (fun _ _ _ _=>False) σ G H e (fun r G' H' e'=>∀ v,RvOk g G' H' σ e' H r v->Q v H') r:=by
 match r,h with
 | .ok (.val d) e',h=>exact h
 | .no,h=>exact h
 | .er _ _,h=>exact h.elim
 | .ok (.slot _) _,h=>exact h.elim
 | .ok (.fresh _) _,h=>exact h.elim
theorem Aax{T:Str->Option (List Sl->Res Rv)}{j:Nat}{a b:Expr}{A B:M Rv}{pos:Pos}(tab:Qz X.prog X.mg X.base g j T)(hj:j+1<=k)(ha:VE g W k X a A)(hb:VE g W k X b B)(hs:Q0 b:=by intro _ _; rfl):VE g W k X (.Subscript a b pos) (Ou T A B):=by
 refine ⟨fun c=>?_⟩
 obtain ⟨gK,gw,ca,gT,gs,gn⟩:=g
 obtain rfl:X.K=gK:=c.K
 obtain rfl:X.w=gw:=c.w
 refine PE.imp (An3 (c.room.mono hj) ((Am ha).run c) ((Am hb).run c) hs) fun σ H Q ⟨G,e,sr,h⟩=>?_
 refine ⟨G,e,sr,Pst.mono (Pst.bind0 h) fun r G1 H1 e1 t1 h1 x ok1=>⟨G1,e1,t1.sr,Pst.mono (Pst.bindS t1 h1) fun r2 G2 H2 e2 t2 h2 y ok2=>?_⟩⟩
 cases r with
 | slot _=>exact h2.elim
 | fresh _=>exact h2.elim
 | val d =>
  cases r2 with
  | slot _=>cases d <;> exact h2.elim
  | fresh _=>cases d <;> exact h2.elim
  | val d2 =>
   cases d with
   | ins c' fs =>
    simp only at h2
    cases qT:T c' with
    | none=>rw [qT] at h2; exact h2.elim
    | some F =>
     rw [qT] at h2
     simp only at h2
     obtain ⟨f,f1,f2,f3,f4⟩:=tab c' F qT
     have ok1:Rep _ G1 (.ins c' fs) x:=ok1
     have ok1':Rep _ G2 (.ins c' fs) x:=ok1.mono t2.le
     have ok2:Rep _ G2 d2 y:=ok2
     obtain ⟨p,dx,us,ev,ha,rf,io⟩:=id ok1'
     refine ⟨p,ca c',dx,us,f,_,ev,t2.sr.bs.at_ ha rfl,f1,f2,f3,f4,?_⟩
     rw [← ev]
     exact Me (W:=fun _ _ _ _=>False) sr (t1.trans t2) (rs:=[.val (.ins c' fs),.val d2]) ⟨x,[y],rfl,ok1',⟨y,[],rfl,ok2,rfl,fun d p z=>nomatch z⟩,fun d p z=>nomatch z⟩ (Pst.valRR h2)
   | _=>exact h2.elim
end
theorem FunD.isFnIn{K:PySem.W.Frag}{x qual:Str}{params:Arguments}{body:List Stmt}{scope:Scope}{dvs:List V}{kws:List (Str×V)}{f:Addr}{fd:FuncData}(F:FunD K x qual params body scope dvs kws f fd):PySem.W.fnIn K f=true:=by
 obtain ⟨oc,od,dV,kV,doc,pm,an,cdv,ct,osl,rfl,lk,hcd,_,_⟩:=F.ex
 unfold PySem.W.fnIn
 rw [lk]
section
variable{e:Ve}
def Aay(T:Str->Option (List Sl->Res Rv)):Rv->Rv->Ve->Res Rv
 | .val (.ins c fs),.val d,e=>obn (T c) fun F=>valRR (Bj F [.val (.ins c fs),.val d] e)
 | _,_,_=>.no
theorem Aaz{T:Str->Option (List Sl->Res Rv)}{d:D}{c:Str}{fs:List (Str×D)}:Aay T (.val (.ins c fs)) (.val d) e=obn (T c) fun F=>valRR (Bj F [.val (.ins c fs),.val d] e):=rfl
theorem Aa0{T:Str->Option (List Sl->Res Rv)}{A B:M Rv}:Ou T A B e=(Ad A e).bnd fun a e1=>(Ad B e1).bnd fun b e2=>Aay T a b e2:=by
 unfold Ou M.bind Res.bnd
 cases Ad A e with
 | no=>rfl
 | er x e1=>rfl
 | ok a e1 =>
  simp only
  cases Ad B e1 with
  | no=>rfl
  | er x e2=>rfl
  | ok b e2 =>
   simp only
   cases a <;> cases b <;> try rfl
   ·rename_i d d2
    cases d <;> try rfl
    rename_i c fs
    show (match T c with | some F=>_ | none=>_)=obn (T c) _
    cases T c <;> rfl
   all_goals (rename_i d d2; cases d <;> rfl)
theorem Aa1{d:D}:valRR (.ok (.val d) e)=.ok (.val d) e:=rfl
end
def brk(c:Nat):List Nat->List Nat×List Nat×List Nat
 | []=>([],[],[])
 | x::r=>if x=c then ([],[c],r) else (x::(brk c r).1,(brk c r).2.1,(brk c r).2.2)
end Vs
namespace Vs
open PySem PySem.Spec PyProof.Rows L2 Fw SX He
def CfS(P:Program)(mg:Str->Option Value)(base:Heap)(g:Gm)(x m:Str)(j:Nat)(F:List Sl->Res Rv):Prop :=
 ∃ C f p mc rest,mg x=some (.ref C)/\ClX.CRead g.K C mc/\PySem.W.findCls g.K (.ref C) mc m=some (.get (.builtin "staticmethod.__get__") (.ref p) .none (.ref C))/\PySem.W.recIn g.K p "staticmethod" = some (.ref f::rest)/\PySem.W.keepIn g.K (.ref f)=true/\FnK P g.w g.K mg base (L2.CX P g.w) j f [] (spR g F)
section
variable{X:Cx}{k:Nat}{sp:Sp}{E:L2.St->XK}
def CsmT(X:Cx)(x m:Str)(k:Nat)(sp:Sp):Prop:=∃ C f p mc rest,X.mg x=some (.ref C)/\ClX.CRead X.K C mc/\PySem.W.findCls X.K (.ref C) mc m=some (.get (.builtin "staticmethod.__get__") (.ref p) .none (.ref C))/\PySem.W.recIn X.K p "staticmethod" = some (.ref f::rest)/\PySem.W.keepIn X.K (.ref f)=true/\FnK X.prog X.w X.K X.mg X.base (L2.CX X.prog X.w) k f [] sp
theorem An4{pl:Sem Bool}{x m:Str}{ex:Expr}{es:List Expr}{t:TA}{p apos pos:Pos}(d:CsmT X x m k sp)(rm:Rm k X.A)(px:∀ σ,PassesAt (L2.CX X.prog X.w) X σ (E σ))(hg:Gl X x)(ha:PA X (ex::es) t)(hdb:(x==("__debug__" : Str))=false:=by decide)
  (hst:starEach (ex::es) X.env=(false,eval ex X.env)::starEach es X.env:=by rfl)(hpl:(backTo pos (starEach es X.env)).any (·.1)=false:=by rfl)
  (ht:eval (.Call (.Attribute (.Name x p) m apos) (ex::es) [] pos) X.env=(do
   let ov ← eval (.Name x p) X.env
   standAt apos.atName
   let (f,first) ← holding [ov] (getMethod ov m pl)
   callWith pos f first (backTo pos (starEach (ex::es) X.env)) (backToKw pos (keywordEach [] X.env))):=by rfl) :
  PE X (.Call (.Attribute (.Name x p) m apos) (ex::es) [] pos) (fun σ H Q=>t σ H fun vs H1=>sp vs H1 Q (E σ)):=by
 obtain ⟨C,f,q,mc,rest,hm,cr,fc,rc,kp,Fk⟩:=d
 refine ⟨fun pins s σ H Q I h=>PySem.W.methodCall_KW (pl:=pl) (thn ((pe_glob (v:=.ref C) hg hm rfl hdb).run pins s σ H (fun v H'=>v=.ref C/\H'=H) I ⟨rfl,rfl⟩) fun u s1 ⟨y,H1,J1,ry,ey,eH⟩=>?_) ht⟩
 subst ey eH
 obtain rfl:u=Value.ref C:=ry
 have J2:=J1.tok (s1.toks+1)
 exact PySem.W.method_cls J1.kIn cr.ga (PySem.W.cls_bind J1.kIn cr.rd fc (wpAny_call (PySem.W.sm_get (s:={ s1 with toks:=s1.toks+1 }) J2.kIn rc (PySem.W.handed_on rfl (PySem.W.callWith_K (h₀:=X.base) (first:=[]) J2.ok.mod.kin kp (thn (ha.run pos pins _ σ H1 _ J2 h) fun us s3 ⟨vs,H2,J3,rv,q2⟩=>⟨J3.kIn,wpAny_call (Mf Fk rm (px σ) J3 rv .nil rfl (by rw [List.append_nil]; exact q2))⟩) hst hpl)))))
end
section
variable{g:Gm}{W:WX}{k:Nat}{X:Cx}
theorem An5{pl:Sem Bool}{x m:Str}{j:Nat}{F:List Sl->Res Rv}{ex:Expr}{es:List Expr}{A:M (List Rv)}{p apos pos:Pos}(d:CfS X.prog X.mg X.base g x m j F)(hj:j<=k)(hg:Gl X x)(ha:VA g W k X (ex::es) A)
  (hdb:(x==("__debug__" : Str))=false:=by decide)
  (hst:starEach (ex::es) X.env=(false,eval ex X.env)::starEach es X.env:=by rfl)(hpl:(backTo pos (starEach es X.env)).any (·.1)=false:=by rfl)
  (ht:eval (.Call (.Attribute (.Name x p) m apos) (ex::es) [] pos) X.env=(do
   let ov ← eval (.Name x p) X.env
   standAt apos.atName
   let (f,first) ← holding [ov] (getMethod ov m pl)
   callWith pos f first (backTo pos (starEach (ex::es) X.env)) (backToKw pos (keywordEach [] X.env))):=by rfl) :
  VE g W k X (.Call (.Attribute (.Name x p) m apos) (ex::es) [] pos) (Az F A):=by
 refine ⟨fun c=>?_⟩
 obtain ⟨gK,gw,ca,gT,gs,gn⟩:=g
 obtain rfl:X.K=gK:=c.K
 obtain rfl:X.w=gw:=c.w
 exact PE.imp (An4 (E:=fun σ cls d H'=>W cls d σ H') d (c.room.mono hj) (fun σ=>passAt c.tk σ) hg (ha.run c) hdb hst hpl ht) fun σ H Q q=>Xu q
end
theorem An6{x m:Str}{K:PySem.W.Frag}(h:smB x m K=true):PySem.W.findCls K (.ref (ga K x)) (.type "type") m=some (.get (.builtin "staticmethod.__get__") (.ref (ma K (ga K x) m)) .none (.ref (ga K x)))/\∃ rest,PySem.W.recIn K (ma K (ga K x) m) "staticmethod" = some (.ref (I7 "staticmethod" x m K)::rest):=by
 obtain ⟨h1,h2⟩:=ba h
 constructor
 ·clear h2
  split at h1
  ·rename_i i p D e
   obtain ⟨k1,k⟩:=ba h1
   obtain ⟨k2,k3⟩:=ba k
   rw [e,of_decide_eq_true k1,of_decide_eq_true k2,of_decide_eq_true k3]
  ·cases h1
 ·split at h2
  ·rename_i q rest e
   rw [← of_decide_eq_true h2]
   exact ⟨rest,e⟩
  ·cases h2
theorem An7{P:Program}{mg:Str->Option Value}{base:Heap}{g:Gm}{x m:Str}{j:Nat}{F:List Sl->Res Rv}{C f p:Addr}{mc:Value}(gl:mg x=some (.ref C))(r:ClX.CRead g.K C mc)(h:PySem.W.findCls g.K (.ref C) mc m=some (.get (.builtin "staticmethod.__get__") (.ref p) .none (.ref C))/\∃ rest,PySem.W.recIn g.K p "staticmethod" = some (.ref f::rest))
  (kp:PySem.W.keepIn g.K (.ref f)=true)(fk:FnK P g.w g.K mg base (L2.CX P g.w) j f [] (spR g F)):CfS P mg base g x m j F:=by
 obtain ⟨h1,rest,h2⟩:=h
 exact ⟨C,f,p,mc,rest,gl,r,h1,h2,kp,fk⟩
end Vs
namespace Vs
open PySem PySem.Spec PyProof.Rows L2 Fw SX
section
variable{X:Cx}{pins:List (Addr×Obj)}{σ:L2.St}{H:Hp}{s:Shared}{a:Str}{u:Value}{Q:Option (List (Str×Value))->Shared->Prop}
def PatOk(X:Cx)(p:Pattern)(ks:List Str):Prop:=∀ (pins:List (Addr×Obj)) (σ:L2.St) (H:Hp) (s:Shared) (a:Str) (u:Value) (Q:Option (List (Str×Value))->Shared->Prop),Inv X pins σ H s->RelV (.str a) u ->
 (∀ s',Inv X pins σ H s'->Q (if ks.contains a=true then some [] else none) s')->wpAny (model X.prog X.w) X.A (matchPattern p X.env u) Q X.xe s
end
inductive MCs(g:Gm)(W:WX)(k:Nat)(X:Cx):List MatchCase->List (List (List Nat)×M Ctl)->Prop
 | nil:MCs g W k X [] []
 | cons {p:Pattern} {ks:List (List Nat)} {body:List Stmt} {B:M Ctl} {rest:List MatchCase} {cs:List (List (List Nat)×M Ctl)} (hp:PatOk X p (ks.map S)) (hb:VSs g W k X body B) (r:MCs g W k X rest cs):MCs g W k X (⟨p,none,body⟩::rest) ((ks,B)::cs)
section
variable{g:Gm}{W:WX}{k:Nat}{X:Cx}{elt tg iter:Expr}{ifs:List Expr}{scope:Scope}{own:List (Str×Nat)}{pos:Pos}{S:M (List D)}{F:D->M Unit}{is:List Nat}{T:M Bool}{E:M Rv}
theorem An8{i:Nat}{y:Str}{py spos:Pos}(hy:X.N[i]? = some y)(hyl:X.env.scope.names.lookup y=some .local)(hsw:swapsWith (.ListComp elt [⟨tg,iter,ifs,0⟩] scope pos) (some (.Name y py)) spos.line X.env=pure true)
  (hi:VI g W k X tg iter S)(ok:BlkOk X.N X.env.scope scope own)(his:∀ i∈is,i∈own.map (·.2))
  (hg:∀ (s:Shared) (H:Hp) (C:Addr) (cl:List (Str×Addr)) (fp:List Addr),VG g (X.blk s H scope (compEnvC scope cl C X.env) fp) tg F is)
  (ht:∀ (s:Shared) (H:Hp) (C:Addr) (cl:List (Str×Addr)) (fp:List Addr),VTs g W0 k (X.blk s H scope (compEnvC scope cl C X.env) fp) ifs T)
  (he:∀ (s:Shared) (H:Hp) (C:Addr) (cl:List (Str×Addr)) (fp:List Addr),VE g W0 k (X.blk s H scope (compEnvC scope cl C X.env) fp) elt E)(hs:∀ x,foldedSetIterable iter X.env x=pure x:=by intro _; rfl) :
  VS g W k X (.Assign [.Name y py] (.ListComp elt [⟨tg,iter,ifs,0⟩] scope pos) spos) (C9 i (Ad (fLc S F T E (own.map (·.2))))):=by
 refine ⟨fun c=>?_⟩
 have one:∃ t:TG,(∀ (s:Shared) (H:Hp) (C:Addr) (cl:List (Str×Addr)) (fp:List Addr),PG (X.blk s H scope (compEnvC scope cl C X.env) fp) tg t) /\
   ∀ (G H G0 H0:Hp) (σ σ0:L2.St) (e e0 e':Ve) (d:Vs.D) (v:V) (Q:L2.St->Hp->Prop),St g G0 H0 σ0 e0 G H σ e->Rep g G d v->F d e=.ok () e'->(∀ σ',St g G0 H0 σ0 e0 G H σ' e'->(∀ j,j ∉ is->σ'[j]? = σ[j]?)->Q σ' H)->t v σ H Q:=by
  refine ⟨fun v σ H Q=>∃ G G0 H0 σ0 e e0 e' d,St g G0 H0 σ0 e0 G H σ e/\Rep g G d v/\F d e=.ok () e'/\∀ σ',St g G0 H0 σ0 e0 G H σ' e'->(∀ j,j ∉ is->σ'[j]? = σ[j]?)->Q σ' H,fun s H C cl fp=>?_,fun G H G0 H0 σ σ0 e e0 e' d v Q a b c q=>⟨G,G0,H0,σ0,e,e0,e',d,a,b,c,q⟩⟩
  obtain ⟨t,p,q⟩:=(hg s H C cl fp).pg k W0 (c.blk s H scope _ fp)
  exact ⟨fun pins s σ H v u Q I r ⟨G,G0,H0,σ0,e,e0,e',d,a,b,c,q'⟩=>p.run pins s σ H v u Q I r (q G H G0 H0 σ σ0 e e0 e' d v Q a b c q')⟩
 obtain ⟨t,p,q⟩:=one
 have ps:=ps_setLc c.calm c.nd hy hyl hsw (hi.run c) ok p (fun s H C cl fp=>(ht s H C cl fp).run (c.blk s H scope _ fp)) (fun s H C cl fp=>(Am (he s H C cl fp)).run (c.blk s H scope _ fp)) hs
 exact ⟨fun pins s σ H D I h=>ps.run pins s σ H D I (Xr his ⟨_,hg s H 0 [] []⟩ q (Xj (Xo h)))⟩
end
end Vs
namespace Vs
open PySem PySem.Spec PyProof.Rows L2 Fw SX NdefX
section
variable{g:Gm}{G H G1 H1:Hp}{σ:L2.St}{e:Ve}
theorem SlOk.growT(w:GrowT g G H G1 H1){s:Option Sl}{o:Option (Option V)}(h:SlOk g G H s o):SlOk g G1 H1 s o:=by
 match s,h with
 | some (.sh d),⟨v,e,r⟩=>exact ⟨v,e,r.mono w.le⟩
 | some (.bf d),⟨v,e,r⟩=>exact ⟨v,e,r.mono w.le⟩
 | some (.ow d),⟨p,e,n,r⟩ =>
  obtain ⟨o,ho,pl,_⟩:=r.there
  exact ⟨p,e,w.new p n (by rw [ho]; exact fun z=>nomatch z),r.mono w.le (by rw [w.keep _ _ ho pl.nt,ho])⟩
 | some (.bo d),⟨p,e,n,r⟩ =>
  obtain ⟨o,ho,pl,_⟩:=r.there
  exact ⟨p,e,w.new p n (by rw [ho]; exact fun z=>nomatch z),r.mono w.le (by rw [w.keep _ _ ho pl.nt,ho])⟩
 | some (.lo d),⟨p,e,n,r⟩ =>
  obtain ⟨ob,u,ho,_⟩:=r.there
  exact ⟨p,e,w.new p n (by rw [ho]; exact fun z=>nomatch z),r.mono w.le (by rw [w.keep _ _ ho (fun _ z=>nomatch z),ho])⟩
 | some .un,_=>trivial
 | none,_=>trivial
theorem SR.growT(s:SR g G H σ e)(w:GrowT g G H G1 H1):SR g G1 H1 σ e:=⟨w.bs,w.tabs,w.scr,s.len,fun i=>(s.slot i).growT w,s.inj⟩
theorem GrowT.tr(w:GrowT g G H G1 H1)(s:SR g G H σ e):Tr g σ G H e G1 H1 e:=⟨s.growT w,w.le,fun a o h _ n=>w.keep a o h n,w.dom,fun a h1 h2 _=>w.new a h1 h2,VeLe.refl e⟩
end
end Vs
namespace Vs
open PySem PySem.Spec PyProof.Rows L2 Fw SX
section
variable{M:Model}{Γ:PySem.Ctx}{env:PySem.Env}{E:Value->Pos->Shared->Prop}{p:Pos}{s:Shared}
theorem Aa2{α:Type}{t:Sem α}{Q:α->Pos->Shared->Prop}{n:Nat}(hn:n<=s.toks)(h:Sem.wp M Γ t Q E p s):Sem.wp M Γ t (fun a p' s'=>n<=s'.toks/\Q a p' s') E p s :=
 Sem.wp_mono M Γ t (fun _ _ _ z=>z) (fun _ _ _ z=>z.2) p s (Sem.wp_toks M Γ n t Q E p s hn h)
theorem An9{β:Type}{k:Int}{j:Nat}{c0:Pos}{f:Value->Sem β}{Q:β->Pos->Shared->Prop}(h:Sem.wp M Γ (eval (.Constant (.int k) j c0) env >>= f) Q E p s) :
  Sem.wp M Γ (eval (.Constant (.int k) j c0) env >>= f) (fun b p' s'=>1<=s'.toks/\Q b p' s') E p s:=by
 rw [Sem.wp_bind'] at h ⊢
 exact Aa2 (s:={ s with toks:=s.toks+1 }) (Nat.le_add_left 1 _) h
theorem Aoa{k:Int}{j:Nat}{c0 p2:Pos}{Q:Value->Pos->Shared->Prop}(h:Sem.wp M Γ (eval (.Slice (some (.Constant (.int k) j c0)) none none p2) env) Q E p s) :
  Sem.wp M Γ (eval (.Slice (some (.Constant (.int k) j c0)) none none p2) env) (fun b p' s'=>1<=s'.toks/\Q b p' s') E p s:=by
 rw [PySem.arm_eval_Slice] at h ⊢
 exact An9 (k:=k) (j:=j) (c0:=c0) h
theorem Aob{a:Expr}{k:Int}{j:Nat}{c0 p2 pos:Pos}{Q:Value->Pos->Shared->Prop}(h:Sem.wp M Γ (eval (.Subscript a (.Slice (some (.Constant (.int k) j c0)) none none p2) pos) env) Q E p s) :
  Sem.wp M Γ (eval (.Subscript a (.Slice (some (.Constant (.int k) j c0)) none none p2) pos) env) (fun b p' s'=>1<=s'.toks/\Q b p' s') E p s:=by
 rw [PySem.arm_eval_Subscript] at h ⊢
 rw [Sem.wp_bind'] at h ⊢
 refine Sem.wp_mono M Γ _ (fun o p1 s1 h1=>?_) (fun _ _ _ z=>z) _ _ h
 rw [Sem.wp_bind',Sem.wp_holding] at h1 ⊢
 exact Sem.wp_mono M Γ _ (fun i p3 s3 z=>Aa2 z.1 z.2) (fun _ _ _ z=>z) _ _ (Aoa h1)
end
section
variable{X:Cx}{tg iter:Expr}{wi:TI}
theorem PIK.cut{a:Expr}{k:Int}{j:Nat}{c0 p2 pos:Pos}(h:PI X tg (.Subscript a (.Slice (some (.Constant (.int k) j c0)) none none p2) pos) wi):PIK 0 X tg (.Subscript a (.Slice (some (.Constant (.int k) j c0)) none none p2) pos) wi :=
 ⟨fun pins s σ H R _ I q Γ p hΓ=>Aob (h.run pins s σ H R I q Γ p hΓ)⟩
end
structure VST(g:Gm)(W:WX)(k:Nat)(X:Cx)(st:Stmt)(F:M Ctl):Prop where
 run:Cd g W k X->PST X st (TVS g W F)
structure VSsT(g:Gm)(W:WX)(k:Nat)(X:Cx)(st:List Stmt)(F:M Ctl):Prop where
 run:Cd g W k X->PSsT X st (TVS g W F)
end Vs
namespace Vs
open PySem PySem.Spec PyProof.Rows L2 Fw SX NdefX
theorem all_cons{n:Nat}{e:Nat->Bool}:(List.range (n+1)).all e=(e 0&&(List.range n).all fun j=>e (j+1)):=by
 rw [List.range_succ_eq_map,List.all_cons,List.all_map]
 rfl
end Vs
namespace Vs
open PySem PySem.Spec PyProof.Rows L2 Fw SX
def Mon(F:W2):Prop:=∀ (e:Ve) (γ:Gh) (P P':P2),(∀ o e' γ',P o e' γ'->P' o e' γ')->F e γ P->F e γ P'
def Il(g:Gm)(W:WX)(F:W2):TS:=fun D σ H=>∃ G e γ,SR g G H σ e/\Gam g G H σ e γ/\F e γ (Post2 g W D σ G H e γ)
structure VS2(g:Gm)(W:WX)(k:Nat)(X:Cx)(st:Stmt)(F:W2):Prop where
 mon:Mon F
 run:Cd g W k X->PS X st (Il g W F)
structure VSs2(g:Gm)(W:WX)(k:Nat)(X:Cx)(st:List Stmt)(F:W2):Prop where
 mon:Mon F
 run:Cd g W k X->PSs X st (Il g W F)
def Ak(F:M Ctl):W2:=fun e γ P=>match F e with
 | .ok c e'=>P (.c c) e' γ
 | .er x e'=>P (.er x) e' γ
 | .no=>False
theorem B7(F:M Ctl):Mon (Ak F):=fun e γ P P' h q=>by
 unfold Ak at q ⊢
 revert q
 cases F e with
 | no=>exact fun q=>q
 | er x e'=>exact fun q=>h _ _ _ q
 | ok c e'=>exact fun q=>h _ _ _ q
def An(A B:W2):W2:=fun e γ P=>A e γ fun o e1 γ1=>match o with
 | .c .nx=>B e1 γ1 P
 | o=>P o e1 γ1
theorem Dg{A B:W2}(a:Mon A)(b:Mon B):Mon (An A B):=fun e γ P P' h q=>a _ _ _ _ (fun o e1 γ1 z=>by
 cases o with
 | er x=>exact h _ _ _ z
 | c c =>
  cases c with
  | nx=>exact b _ _ _ _ h z
  | _=>exact h _ _ _ z) q
section
variable{g:Gm}{W:WX}{k:Nat}{X:Cx}
theorem Aa3{F:M Ctl}{D:Ends}{σ:L2.St}{H:Hp}(q:Il g W (Ak F) D σ H):TVS g W F D σ H:=by
 obtain ⟨G,e,γ,sr,gm,q⟩:=q
 refine ⟨G,e,sr,?_⟩
 unfold Ak at q
 revert q
 cases F e with
 | no=>exact fun h=>h
 | er x e'=>exact fun h cls d σ' G' H' t xo=>h cls d σ' G' H' (t.st2 gm) xo
 | ok c e' =>
  cases c with
  | nx=>exact fun h σ' G' H' t=>h σ' G' H' (t.st2 gm)
  | bk=>exact fun h σ' G' H' t=>h σ' G' H' (t.st2 gm)
  | ct=>exact fun h σ' G' H' t=>h σ' G' H' (t.st2 gm)
  | rt r =>
   intro h v σ' G' H' t rv
   refine h v σ' G' H' (t.st2 gm) rv fun d p er ev m=>?_
   subst er
   obtain ⟨p2,e2,_,_,h0,_⟩:=rv
   rw [ev] at e2
   cases e2
   obtain ⟨o,ho,_⟩:=gm.there m
   rw [ho] at h0
   cases h0
theorem Jt{st:Stmt}{F:M Ctl}(h:VS g W k X st F):VS2 g W k X st (Ak F):=⟨B7 F,fun c=>PS.imp (h.run c) fun D σ H q=>Aa3 q⟩
theorem B9{st:List Stmt}{F:M Ctl}(h:VSs g W k X st F):VSs2 g W k X st (Ak F):=⟨B7 F,fun c=>PSs.imp (h.run c) fun D σ H q=>Aa3 q⟩
theorem Aoc{A B:W2}(a:Mon A)(b:Mon B){D:Ends}{σ:L2.St}{H:Hp}(q:Il g W (An A B) D σ H):Il g W A { D with nx:=Il g W B D } σ H:=by
 obtain ⟨G,e,γ,sr,gm,q⟩:=q
 refine ⟨G,e,γ,sr,gm,a _ _ _ _ (fun o e1 γ1 z=>?_) q⟩
 cases o with
 | er x=>exact z
 | c c =>
  cases c with
  | nx=>exact fun σ1 G1 H1 t=>⟨G1,e1,γ1,t.sr,t.gm,b _ _ _ _ (Post2.step t) z⟩
  | bk=>exact z
  | ct=>exact z
  | rt r=>exact z
theorem Bt{st:Stmt}{rest:List Stmt}{A B:W2}(h1:VS2 g W k X st A)(h2:VSs2 g W k X rest B):VSs2 g W k X (st::rest) (An A B) :=
 ⟨Dg h1.mon h2.mon,fun c=>PSs.imp (pss_cons (h1.run c) (h2.run c)) fun D σ H q=>Aoc h1.mon h2.mon q⟩
end
def setG(γ:Gh)(b:Addr)(d:D):Gh:=γ.map fun q=>if q.1=b then (q.1,d) else q
theorem Aa4{b:Addr}{d:D}(γ:Gh):(setG γ b d).map Prod.fst=γ.map Prod.fst:=by
 unfold setG
 rw [List.map_map]
 refine List.map_congr_left fun q _=>?_
 show (if q.1=b then (q.1,d) else q).1=q.1
 split <;> rfl
theorem setG_in{γ:Gh}{b x:Addr}{d:D}:InG (setG γ b d) x↔InG γ x:=by rw [inG_iff,inG_iff,Aa4]
theorem Im{γ:Gh}{b:Addr}{d:D}(h:γ.lookup b=some d):(b,d)∈γ:=by
 induction γ with
 | nil=>cases h
 | cons q r ih =>
  obtain ⟨a,u⟩:=q
  rw [List.lookup_cons] at h
  cases z:b==a with
  | true =>
   rw [z] at h
   cases h
   rw [eq_of_beq z]
   exact List.mem_cons_self
  | false =>
   rw [z] at h
   exact List.mem_cons_of_mem _ (ih h)
section
variable{g:Gm}{G H G1 H1:Hp}{σ σ1:L2.St}{e e1:Ve}{γ γ1:Gh}
theorem St2.put{b:Addr}{d d':D}{o:HO}(t:St2 g G H σ e γ G1 H1 σ1 e1 γ1)(m:γ1.lookup b=some d)(on:Own g G1 (upd H1 b o) b d')(kd':Ki d'=true):St2 g G H σ e γ G1 (upd H1 b o) σ1 e1 (setG γ1 b d'):=by
 have mi:=Im m
 obtain ⟨n,ow,nr⟩:=t.gm.at_ b d mi
 obtain ⟨ob,ho,pl,_⟩:=ow.there
 have hp:∀ u,H1 b=some u->Pln u:=fun u h=>by rw [ho] at h; cases h; exact pl
 have ib:InG γ b\/H b=none:=t.gnw b ⟨d,mi⟩
 refine ⟨t.sr.put n nr hp,⟨by rw [Aa4]; exact t.gm.nd,fun x u hx=>?_,fun x u hx=>?_⟩,t.ln,t.le,fun a u h ni ng nt=>?_,fun a h=>?_,t.new,t.rts,t.rto,t.bor,t.bof,t.nlo,fun x h=>setG_in.mpr (t.gup x h),fun x h=>t.gnw x (setG_in.mp h)⟩
 ·obtain ⟨q,hq,eq⟩:=List.mem_map.mp hx
  by_cases z:q.1=b
  ·rw [if_pos z] at eq
   cases eq
   exact kd'
  ·rw [if_neg z] at eq
   subst eq
   exact t.gm.kd x u hq
 ·obtain ⟨q,hq,eq⟩:=List.mem_map.mp hx
  by_cases z:q.1=b
  ·rw [if_pos z] at eq
   cases eq
   obtain ⟨n2,_,nr2⟩:=t.gm.at_ q.1 q.2 hq
   exact ⟨n2,by rw [z]; exact on,nr2⟩
  ·rw [if_neg z] at eq
   subst eq
   obtain ⟨n2,ow2,nr2⟩:=t.gm.at_ x u hq
   exact ⟨n2,ow2.mono (Le.refl _) (upd_ne z),nr2⟩
 ·rw [upd_ne (fun z=>by
   rcases ib with y | y
   ·exact ng (by rw [z]; exact y)
   ·rw [← z,h] at y; cases y)]
  exact t.keep a u h ni ng nt
 ·by_cases z:a=b
  ·rcases ib with y | y
   ·exfalso
    rw [z,upd_same] at h
    cases h
   ·rw [z]; exact y
  ·rw [upd_ne z] at h
   exact t.dom a h
end
def Mx(cs:List Str)(f:Str)(i:Nat):W2:=fun e γ P=>match (e[i]?).bind fun s=>(A5 s).map fun d=>(s,d) with
 | some (s,.ins c fs)=>cs.contains c=true/\fs.length<1000/\∀ b,¬ InG γ b->P (.c .nx) (e.set i (B6 s (.ins c (Bl f (.con (.ref b)) fs)))) ((b,.dct [])::γ)
 | _=>False
theorem Dh(cs:List Str)(f:Str)(i:Nat):Mon (Mx cs f i):=fun e γ P P' h q=>by
 unfold Mx at q ⊢
 revert q
 cases (e[i]?).bind fun s=>(A5 s).map fun d=>(s,d) with
 | none=>exact fun q=>q
 | some r =>
  obtain ⟨s,d⟩:=r
  cases d with
  | ins c fs=>exact fun q=>⟨q.1,q.2.1,fun b n=>h _ _ _ (q.2.2 b n)⟩
  | _=>exact fun q=>q
section
variable{g:Gm}{W:WX}{k:Nat}{X:Cx}
theorem Aod{x f:Str}{i:Nat}{cs:List Str}{p pos pos' dp:Pos}(hno:∀ c∈cs,NoAttr g.K (g.ca c) f)(hN:X.N[i]? = some x)(hvis:Vis X.env.scope x)
  (hd:(x==("__debug__" : Str))=false:=by decide)(hcd:(x==("__classdict__" : Str))=false:=by decide)(hs:swapsWith (.Dict [] [] dp) (some (.Attribute (.Name x p) f pos')) pos.line X.env=pure false:=by rfl) :
  VS2 g W k X (.Assign [.Attribute (.Name x p) f pos'] (.Dict [] [] dp) pos) (Mx cs f i) :=
 ⟨Dh _ _ _,fun c=>PS.imp (Sy g.K (pe_var hN hvis hd hcd) (pe_dnewK (pos:=dp)) hs c.K) fun D σ H ⟨G,e,γ,sr,gm,q⟩=>fun b nb=>by
  unfold Mx at q
  split at q
  ·rename_i s cn fs q1
   obtain ⟨hc,hl,q⟩:=q
   cases q3:e[i]? with
   | none=>rw [q3] at q1; cases q1
   | some s0 =>
    rw [q3,Option.bind_some] at q1
    cases q4:A5 s0 with
    | none=>rw [q4] at q1; cases q1
    | some d =>
     rw [q4] at q1
     cases q1
     have gr:=Grow.lay (o:=HO.dK []) sr.bs nb
     have t1:=gr.tr sr
     have nin:¬ InG γ b:=fun m=>by
      obtain ⟨o,ho,_⟩:=gm.there m
      rw [ho] at nb; cases nb
     have nrt:∀ i,¬ Rt σ e i b:=fun i r=>(sr.root r).2 nb
     obtain ⟨p',hp,n,ow,_⟩:=t1.sr.own q3 q4
     obtain ⟨dx,vs,ha,rf,io⟩:=id ow
     have hn:=hno cn (List.contains_iff_mem.mp hc)
     refine ⟨.ref p',hp,p',_,dx,vs,rfl,ha,io.1,hn,by rw [rf.len]; exact hl,?_⟩
     have hb:Own g G (upd H b (HO.dK [])) b (.dct []):=⟨[],upd_same,rfl⟩
     have ne:b≠p':=fun z=>by
      rw [← z,upd_same] at ha
      cases ha
     have t2:=t1.sr.mut (d':=.ins cn (Bl f (.con (.ref b)) fs)) (o':=.ins (g.ca cn) dx (putF f (.ref b) vs)) q3 q4 hp ow ⟨dx,_,upd_same,rf.put (show Rep g G (.con (.ref b)) (.ref b) from (rfl:V.ref b=V.ref b)),io.1,fun y hy=>by
      rcases Oa hy with z | ⟨z,hz⟩
      ·rw [z]; exact hn
      ·exact io.2 (y.1,z) hz⟩
     have tt:=((t1.trans t2).st.st2 gm)
     refine q b nin σ G _ (tt.cell nb (sr.bs.hn nb) (hb.mono (Le.refl _) (upd_ne ne)) (fun j r=>nrt j ((t1.trans t2).ve.rt r)) nin rfl)
  ·exact q.elim⟩
end
section
variable{g:Gm}{G H G1 H1 G2 H2 G' H' H0:Hp}{σ:L2.St}{e e1 e2 e':Ve}{γ γ1 γ2 γ':Gh}
theorem RvOk2.tr{r:Rv}{v:V}(t:Tr2 g σ G H e γ G1 H1 e1 γ1)(h:RvOk2 g G H σ e γ H0 r v):RvOk2 g G1 H1 σ e1 γ1 H0 r v:=by
 obtain ⟨h,nf⟩:=h
 cases r with
 | val d=>exact ⟨Rep.mono t.le h,fun _ _ z=>nomatch z⟩
 | slot i =>
  obtain ⟨h,s,hs,n⟩:=h
  obtain ⟨s',h',l⟩:=t.ve.at_ i s hs
  exact ⟨⟨h,s',h',Xe l n⟩,fun _ _ z=>nomatch z⟩
 | fresh d =>
  obtain ⟨p,ev,n,o,h0,nr⟩:=h
  obtain ⟨ob,ho,pl,_⟩:=o.there
  have ni:¬ InG γ p:=nf d p rfl ev
  refine ⟨⟨p,ev,t.new p n (by rw [ho]; exact fun z=>nomatch z) nr,o.mono t.le (by rw [t.keep _ _ ho nr ni pl.nt,ho]),h0,fun i r=>nr i (t.ve.rt r)⟩,fun d2 p2 _ e2 m=>?_⟩
  rw [ev] at e2
  cases e2
  rcases t.gnw p m with q | q
  ·exact ni q
  ·rw [ho] at q; cases q
def Ju(r:Rv)(e:Ve)(γ:Gh):Option D:=match r with
 | .val (.con (.ref b))=>γ.lookup b
 | r=>Ag r e
theorem Own.rH{p:Addr}{d:D}(n:G p=none)(o:Own g G H p d):RepH g G H d (.ref p):=.inr ⟨p,rfl,n,o.r⟩
theorem Aa5{r:Rv}{v:V}{d:D}(sr:SR g G H σ e)(gm:Gam g G H σ e γ)(ok:RvOk g G H σ e H0 r v)(h:Ju r e γ=some d):RepH g G H d v:=by
 unfold Ju at h
 split at h
 ·rename_i b
  obtain ⟨n,o,_⟩:=gm.at_ b d (Im h)
  have ev:v=.ref b:=ok
  rw [ev]
  exact o.rH n
 ·exact Cv sr ok h
end
def liftM{α:Type}(F:M α):E2 α:=fun e γ P=>match F e with
 | .ok a e'=>P (.v a) e' γ
 | .er x e'=>P (.er x) e' γ
 | .no=>False
theorem A8{α:Type}(F:M α):Ah (liftM F):=fun e γ P P' h q=>by
 unfold liftM at q ⊢
 revert q
 cases F e with
 | no=>exact fun q=>q
 | er x e'=>exact fun q=>h _ _ _ q
 | ok a e'=>exact fun q=>h _ _ _ q
theorem Fn{α β:Type}{A:E2 α}{k:α->E2 β}(a:Ah A)(b:∀ x,Ah (k x)):Ah (Bn A k):=fun e γ P P' h q=>a _ _ _ _ (fun o e1 γ1 z=>by
 cases o with
 | er x=>exact h _ _ _ z
 | v x=>exact b x _ _ _ _ h z) q
def TV2(g:Gm)(W:WX)(F:E2 Rv):TE:=fun σ H Q=>∃ G e γ,SR g G H σ e/\Gam g G H σ e γ/\F e γ (Pst2 g W σ G H e γ fun r G' H' e' γ'=>∀ v,RvOk2 g G' H' σ e' γ' H r v->Q v H')
def TVT2(g:Gm)(W:WX)(F:E2 Bool):TT:=fun σ H Q=>∃ G e γ,SR g G H σ e/\Gam g G H σ e γ/\F e γ (Pst2 g W σ G H e γ fun b G' H' e' γ'=>Q b H')
structure VE2(g:Gm)(W:WX)(k:Nat)(X:Cx)(ex:Expr)(F:E2 Rv):Prop where
 mon:Ah F
 run:Cd g W k X->PE X ex (TV2 g W F)
structure VT2(g:Gm)(W:WX)(k:Nat)(X:Cx)(ex:Expr)(F:E2 Bool):Prop where
 mon:Ah F
 run:Cd g W k X->PT X ex (TVT2 g W F)
section
variable{g:Gm}{W:WX}{k:Nat}{X:Cx}
theorem Aoe{F:M Rv}{σ:L2.St}{H:Hp}{Q:VK}(q:TV2 g W (liftM F) σ H Q):TV g W F σ H Q:=by
 obtain ⟨G,e,γ,sr,gm,q⟩:=q
 refine ⟨G,e,sr,?_⟩
 unfold liftM at q
 revert q
 cases F e with
 | no=>exact fun h=>h
 | er x e'=>exact fun h cls d G' H' t xo=>h cls d G' H' (t.tr2 gm) xo
 | ok r e' =>
  intro h G' H' t v rv
  refine h G' H' (t.tr2 gm) v ⟨rv,fun d p er ev m=>?_⟩
  subst er
  obtain ⟨p2,e2,_,_,h0,_⟩:=rv
  rw [ev] at e2
  cases e2
  obtain ⟨o,ho,_⟩:=gm.there m
  rw [ho] at h0
  cases h0
theorem Io{ex:Expr}{F:M Rv}(h:VE g W k X ex F):VE2 g W k X ex (liftM F):=⟨A8 F,fun c=>PE.imp (h.run c) fun _ _ _ q=>Aoe q⟩
theorem Aof{ex:Expr}{F:M Bool}(h:VT g W k X ex F):VT2 g W k X ex (liftM F):=⟨A8 F,fun c=>PT.imp (h.run c) fun σ H Q ⟨G,e,γ,sr,gm,q⟩=>by
 refine ⟨G,e,sr,?_⟩
 unfold liftM at q
 revert q
 cases F e with
 | no=>exact fun h=>h
 | er x e'=>exact fun h cls d G' H' t xo=>h cls d G' H' (t.tr2 gm) xo
 | ok r e'=>exact fun h G' H' t=>h G' H' (t.tr2 gm)⟩
def opC(f:D->D->Option Rv)(a b:Rv):E2 Rv:=fun e γ P=>match Ju a e γ,Ju b e γ with
 | some x,some y=>(match f x y with | some r=>P (.v r) e γ | none=>False)
 | _,_=>False
theorem Um{f:D->D->Option Rv}{a b:Rv}:Ah (opC f a b):=fun e γ P P' h q=>by
 unfold opC at q ⊢
 revert q
 cases Ju a e γ with
 | none=>exact fun q=>q
 | some x =>
  cases Ju b e γ with
  | none=>exact fun q=>q
  | some y =>
   dsimp only
   cases f x y with
   | none=>exact fun q=>q
   | some r=>exact fun q=>h _ _ _ q
def Fo(f:D->D->Option Rv)(A B:E2 Rv):E2 Rv:=Bn A fun a=>Bn B fun b=>opC f a b
theorem Cy{f:D->D->Option Rv}{A B:E2 Rv}(a:Ah A)(b:Ah B):Ah (Fo f A B):=Fn a fun _=>Fn b fun _=>Um
theorem Aog{r:R2}{f:D->D->Option Rv}{A B:E2 Rv}{σ:L2.St}{H:Hp}{Q:VK}(ma:Ah A)(mb:Ah B)(hv:OpV g r f)(h:TV2 g W (Fo f A B) σ H Q):tOp r (TV2 g W A) (TV2 g W B) σ H Q:=by
 obtain ⟨G,e,γ,sr,gm,h⟩:=h
 refine ⟨G,e,γ,sr,gm,ma _ _ _ _ (fun o e1 γ1 z=>?_) (Pst2.bind ma (fun _=>Fn mb fun _=>Um) h)⟩
 cases o with
 | er x=>exact z
 | v a =>
  intro G1 H1 t1 x ok1
  refine ⟨G1,e1,γ1,t1.sr,t1.gm,mb _ _ _ _ (fun o2 e2 γ2 z2=>?_) (Pst2.bind mb (fun _=>Um) (z G1 H1 t1))⟩
  cases o2 with
  | er x=>exact z2
  | v b =>
   intro G2 H2 t2 y ok2
   have h2:=z2 G2 H2 t2
   have ok1:=ok1.tr t2
   unfold opC at h2
   dsimp only at h2
   cases qa:Ju a e2 γ2 with
   | none=>rw [qa] at h2; exact h2.elim
   | some da =>
    cases qb:Ju b e2 γ2 with
    | none=>rw [qa,qb] at h2; exact h2.elim
    | some db =>
     rw [qa,qb] at h2
     dsimp only at h2
     cases qf:f da db with
     | none=>rw [qf] at h2; exact h2.elim
     | some out =>
      rw [qf] at h2
      refine hv G2 H2 da db x y out Q t2.sr.bs t2.sr.scrL (Aa5 t2.sr t2.gm ok1.1 qa) (Aa5 t2.sr t2.gm ok2.1 qb) qf fun v G' H' gr nw=>?_
      refine h2 G' H' ((gr.tr t2.sr).tr2 t2.gm) v ⟨nw.ok t2.sr fun p hp=>t1.dom p (t2.dom p hp),fun d p er ev m=>?_⟩
      subst er
      obtain ⟨p2,e2',_,_,h0⟩:=nw
      rw [ev] at e2'
      cases e2'
      obtain ⟨o,ho,_⟩:=t2.gm.there m
      rw [ho] at h0
      cases h0
end
section
variable{g:Gm}{W:WX}{k:Nat}{X:Cx}
def Ca(F:E2 Rv):E2 Bool:=fun e γ P=>F e γ fun o e1 γ1=>match o with
 | .v (.val (.bl b))=>P (.v b) e1 γ1
 | .v _=>False
 | .er x=>P (.er x) e1 γ1
theorem C0{F:E2 Rv}(m:Ah F):Ah (Ca F):=fun e γ P P' h q=>m _ _ _ _ (fun o e1 γ1 z=>by
 cases o with
 | er x=>exact h _ _ _ z
 | v r =>
  cases r with
  | val d =>
   cases d with
   | bl b=>exact h _ _ _ z
   | _=>exact z
  | slot i=>exact z
  | fresh d=>exact z) q
theorem Aa6{F:E2 Rv}(m:Ah F){σ:L2.St}{H:Hp}{Q:Bool->Hp->Prop}(h:TVT2 g W (Ca F) σ H Q):TV2 g W F σ H fun x H1=>∃ b,x=.bl b/\Q b H1:=by
 obtain ⟨G,e,γ,sr,gm,h⟩:=h
 refine ⟨G,e,γ,sr,gm,m _ _ _ _ (fun o e1 γ1 z=>?_) h⟩
 cases o with
 | er x=>exact z
 | v r =>
  cases r with
  | val d =>
   cases d with
   | bl b=>exact fun G' H' t v ok=>⟨b,ok.1,z G' H' t⟩
   | _=>exact z.elim
  | slot i=>exact z.elim
  | fresh d=>exact z.elim
def ret2(F:E2 Rv):W2:=fun e γ P=>F e γ fun o e1 γ1=>match o with
 | .v r=>P (.c (.rt r)) e1 γ1
 | .er x=>P (.er x) e1 γ1
theorem Aoh{ex:Expr}{F:E2 Rv}{pos:Pos}(he:VE2 g W k X ex F):VS2 g W k X (.Return (some ex) pos) (ret2 F) :=
 ⟨fun e γ P P' h q=>he.mon _ _ _ _ (fun o e1 γ1 z=>by cases o <;> exact h _ _ _ z) q,fun c=>PS.imp (ps_ret (he.run c)) fun D σ H ⟨G,e,γ,sr,gm,q⟩=>⟨G,e,γ,sr,gm,he.mon _ _ _ _ (fun o e1 γ1 z=>by
  cases o with
  | er x=>exact fun cls d G' H' t xo=>z cls d σ G' H' t.st2 xo
  | v r=>exact fun G' H' t v ok=>z v σ G' H' t.st2 ok.1 ok.2) q⟩⟩
def if2(C:E2 Bool)(A B:W2):W2:=fun e γ P=>C e γ fun o e1 γ1=>match o with
 | .v true=>A e1 γ1 P
 | .v false=>B e1 γ1 P
 | .er x=>P (.er x) e1 γ1
theorem Hw{c:Expr}{a b:List Stmt}{C:E2 Bool}{A B:W2}{pos:Pos}(hc:VT2 g W k X c C)(ha:VSs2 g W k X a A)(hb:VSs2 g W k X b B):VS2 g W k X (.If c a b pos) (if2 C A B) :=
 ⟨fun e γ P P' h q=>hc.mon _ _ _ _ (fun o e1 γ1 z=>by
  cases o with
  | er x=>exact h _ _ _ z
  | v b =>
   cases b with
   | true=>exact ha.mon _ _ _ _ h z
   | false=>exact hb.mon _ _ _ _ h z) q,fun cd=>PS.imp (ps_if (hc.run cd) (ha.run cd) (hb.run cd)) fun D σ H ⟨G,e,γ,sr,gm,q⟩=>⟨G,e,γ,sr,gm,hc.mon _ _ _ _ (fun o e1 γ1 z=>by
  cases o with
  | er x=>exact fun cls d G' H' t xo=>z cls d σ G' H' t.st2 xo
  | v b =>
   cases b with
   | true=>exact fun G' H' t=>⟨G',e1,γ1,t.sr,t.gm,ha.mon _ _ _ _ (Post2.step t.st2) z⟩
   | false=>exact fun G' H' t=>⟨G',e1,γ1,t.sr,t.gm,hb.mon _ _ _ _ (Post2.step t.st2) z⟩) q⟩⟩
end
def Hx(A:E2 Bool):E2 Bool:=fun e γ P=>A e γ fun o e1 γ1=>match o with
 | .v b=>P (.v (!b)) e1 γ1
 | .er x=>P (.er x) e1 γ1
def Ip(A B:E2 Bool):E2 Bool:=fun e γ P=>A e γ fun o e1 γ1=>match o with
 | .v true=>B e1 γ1 P
 | .v false=>P (.v false) e1 γ1
 | .er x=>P (.er x) e1 γ1
def or2(A B:E2 Bool):E2 Bool:=fun e γ P=>A e γ fun o e1 γ1=>match o with
 | .v true=>P (.v true) e1 γ1
 | .v false=>B e1 γ1 P
 | .er x=>P (.er x) e1 γ1
theorem Di{A B:E2 Bool}(a:Ah A)(b:Ah B):Ah (Ip A B):=fun e γ P P' h q=>a _ _ _ _ (fun o e1 γ1 z=>by
 cases o with
 | er x=>exact h _ _ _ z
 | v x =>
  cases x with
  | true=>exact b _ _ _ _ h z
  | false=>exact h _ _ _ z) q
theorem Dj{A B:E2 Bool}(a:Ah A)(b:Ah B):Ah (or2 A B):=fun e γ P P' h q=>a _ _ _ _ (fun o e1 γ1 z=>by
 cases o with
 | er x=>exact h _ _ _ z
 | v x =>
  cases x with
  | false=>exact b _ _ _ _ h z
  | true=>exact h _ _ _ z) q
structure VW2(g:Gm)(W:WX)(k:Nat)(X:Cx)(ex:Expr)(F:E2 Bool):Prop where
 mon:Ah F
 run:Cd g W k X->PW X ex (TVT2 g W F)
section
variable{g:Gm}{W:WX}{k:Nat}{X:Cx}{a b:Expr}{rest:List Expr}{A B:E2 Bool}{pos:Pos}
theorem Uo(h:VT2 g W k X a A):VT2 g W k X (.UnaryOp .Not a pos) (Hx A) :=
 ⟨fun e γ P P' hh q=>h.mon _ _ _ _ (fun o e1 γ1 z=>by cases o <;> exact hh _ _ _ z) q,fun c=>PT.imp (pt_not (h.run c)) fun σ H Q ⟨G,e,γ,sr,gm,q⟩=>⟨G,e,γ,sr,gm,h.mon _ _ _ _ (fun o e1 γ1 z=>by
  cases o with
  | er x=>exact z
  | v b=>exact fun G' H' t=>z G' H' t) q⟩⟩
theorem Aoi(h:VT2 g W k X a A):VW2 g W k X (.BoolOp .And [a] pos) A:=⟨h.mon,fun c=>pw_and1 (h.run c)⟩
theorem Aa7(h:VT2 g W k X a A):VW2 g W k X (.BoolOp .Or [a] pos) A:=⟨h.mon,fun c=>pw_or1 (h.run c)⟩
theorem VW2.vt(h:VW2 g W k X a A):VT2 g W k X a A:=⟨h.mon,fun c=>(h.run c).pt⟩
theorem Aoj(h:VT2 g W k X a A)(h2:VW2 g W k X (.BoolOp .And (b::rest) pos) B):VW2 g W k X (.BoolOp .And (a::b::rest) pos) (Ip A B) :=
 ⟨Di h.mon h2.mon,fun c=>PW.imp (pw_and (h.run c) (h2.run c)) fun σ H Q ⟨G,e,γ,sr,gm,q⟩=>⟨G,e,γ,sr,gm,h.mon _ _ _ _ (fun o e1 γ1 z=>by
  cases o with
  | er x=>exact z
  | v b =>
   cases b with
   | true=>exact fun G' H' t=>⟨G',e1,γ1,t.sr,t.gm,h2.mon _ _ _ _ (Pst2.step t) z⟩
   | false=>exact fun G' H' t=>z G' H' t) q⟩⟩
theorem Aa8(h:VT2 g W k X a A)(h2:VW2 g W k X (.BoolOp .Or (b::rest) pos) B):VW2 g W k X (.BoolOp .Or (a::b::rest) pos) (or2 A B) :=
 ⟨Dj h.mon h2.mon,fun c=>PW.imp (pw_or (h.run c) (h2.run c)) fun σ H Q ⟨G,e,γ,sr,gm,q⟩=>⟨G,e,γ,sr,gm,h.mon _ _ _ _ (fun o e1 γ1 z=>by
  cases o with
  | er x=>exact z
  | v b =>
   cases b with
   | false=>exact fun G' H' t=>⟨G',e1,γ1,t.sr,t.gm,h2.mon _ _ _ _ (Pst2.step t) z⟩
   | true=>exact fun G' H' t=>z G' H' t) q⟩⟩
end
section
variable{g:Gm}{W:WX}{k:Nat}{X:Cx}
def Bf(A:E2 Rv):E2 Rv:=Bn A fun r=>liftM ((Bz r).map Rv.val)
theorem F0{ex:Expr}{A:E2 Rv}(h:VE2 g W k X ex A):VE2 g W k X ex (Bf A) :=
 ⟨Fn h.mon fun _=>A8 _,fun c=>PE.imp (h.run c) fun σ H Q ⟨G,e,γ,sr,gm,q⟩=>⟨G,e,γ,sr,gm,h.mon _ _ _ _ (fun o e1 γ1 z=>by
  cases o with
  | er x=>exact z
  | v r =>
   intro G1 H1 t1 v ok1
   have h2:=z
   unfold liftM M.map M.bind M.ret at h2
   dsimp only at h2
   cases q1:Bz r e1 with
   | no=>rw [q1] at h2; exact h2.elim
   | er x e2 =>
    exfalso
    revert q1
    unfold Bz
    cases r with
    | val d=>intro y; cases y
    | fresh d=>intro y; cases y
    | slot i =>
     dsimp only
     cases e1[i]? with
     | none=>intro y; cases y
     | some s=>cases s <;> intro y <;> cases y
   | ok d e2 =>
    rw [q1] at h2
    obtain ⟨G2,t2,rp⟩:=t1.frz ok1 q1
    exact h2 G2 H1 t2 v ⟨rp,fun _ _ y=>nomatch y⟩) q⟩⟩
end
def Cs(F:D->M Unit)(B:W2):List D->W2
 | []=>fun e γ P=>P (.c .nx) e γ
 | d::r=>fun e γ P=>match F d e with
  | .ok _ e2=>B e2 γ fun o e3 γ3=>match o with
   | .c .nx=>Cs F B r e3 γ3 P
   | .c .ct=>Cs F B r e3 γ3 P
   | .c .bk=>P (.c .nx) e3 γ3
   | .c (.rt v)=>P (.c (.rt v)) e3 γ3
   | .er x=>P (.er x) e3 γ3
  | _=>False
theorem My{F:D->M Unit}{B:W2}(b:Mon B):∀ ds,Mon (Cs F B ds)
 | []=>fun e γ P P' h q=>h _ _ _ q
 | d::r=>fun e γ P P' h q=>by
  unfold Cs at q ⊢
  revert q
  cases F d e with
  | no=>exact fun q=>q
  | er x e'=>exact fun q=>q
  | ok u e2 =>
   refine b _ _ _ _ fun o e3 γ3 z=>?_
   cases o with
   | er x=>exact h _ _ _ z
   | c c =>
    cases c with
    | nx=>exact My b r _ _ _ _ h z
    | ct=>exact My b r _ _ _ _ h z
    | bk=>exact h _ _ _ z
    | rt v=>exact h _ _ _ z
def Ey(S:M (List D))(F:D->M Unit)(B:W2):W2:=fun e γ P=>match S e with
 | .ok ds e1=>Cs F B ds e1 γ P
 | _=>False
theorem Dk{S:M (List D)}{F:D->M Unit}{B:W2}(b:Mon B):Mon (Ey S F B):=fun e γ P P' h q=>by
 unfold Ey at q ⊢
 revert q
 cases S e with
 | no=>exact fun q=>q
 | er x e'=>exact fun q=>q
 | ok ds e1=>exact My b ds _ _ _ _ h
theorem St2.fz{g:Gm}{G H G1 H1:Hp}{σ σ1:L2.St}{e e1:Ve}{γ γ1:Gh}(s0:SR g G H σ e)(gm:Gam g G H σ e γ)(t:St2 g G H σ e γ G1 H1 σ1 e1 γ1):Fz H H1:=fun a o u h=>t.keep a _ h (fun i=>s0.nofrz h i) (fun ⟨d,m⟩=>(gm.at_ a d m).2.1.nofrz o u h) fun ps z=>nomatch z
section
variable{g:Gm}{W:WX}{k:Nat}{X:Cx}{tg ex:Expr}
theorem Aok{F:D->M Unit}{is:List Nat}{B:W2}{ds:List D}{D:Ends}{σ:L2.St}{G H:Hp}{e:Ve}{γ:Gh}{J:It}{t:TG}(hg:VG g X tg F is)(mb:Mon B)
  (q:∀ (G H G0 H0:Hp) (σ σ0:L2.St) (e e0 e':Ve) (d:Vs.D) (v:V) (Q:L2.St->Hp->Prop),St g G0 H0 σ0 e0 G H σ e->Rep g G d v->F d e=.ok () e'->(∀ σ',St g G0 H0 σ0 e0 G H σ' e'->(∀ j,j ∉ is->σ'[j]? = σ[j]?)->Q σ' H)->t v σ H Q)
  (sr:SR g G H σ e)(gm:Gam g G H σ e γ)(it:ItOk g G H J ds)(h:Cs F B ds e γ (Post2 g W D σ G H e γ)) :
  ∃ W':Nat->Nat->L2.St->Hp->Prop,(∃ m,W' 0 m σ H)/\∀ i m σ H,W' i m σ H->(J.stop i H/\D.nx σ H)\/(J.go i H/\∃ N:L2.St->Hp->Prop,(∀ σ' H',N σ' H'->∃ m',m'<m/\W' (i+1) m' σ' H') /\
   ∀ x H',J.yld i H x H'->t x σ H' fun σ2 H2=>Il g W B { D with nx:=N,ct:=N,bk:=D.nx } σ2 H2):=by
 refine ⟨fun i m σ' H'=>m=ds.length-i/\i<=ds.length/\∃ G' e' γ',SR g G' H' σ' e'/\Gam g G' H' σ' e' γ'/\Le G G'/\Fz H H'/\Cs F B (ds.drop i) e' γ' (Post2 g W D σ' G' H' e' γ'),⟨_,rfl,Nat.zero_le _,G,e,γ,sr,gm,Le.refl G,fun _ _ _ h=>h,h⟩,?_⟩
 rintro i m σ1 H1 ⟨rfl,hi,G1,e1,γ1,sr1,gm1,le1,fz1,h1⟩
 by_cases hlt:i<ds.length
 ·refine .inr ⟨it.go i G1 H1 le1 sr1.bs fz1 hlt,fun σ' H'=>i+1<=ds.length/\∃ G' e' γ',SR g G' H' σ' e'/\Gam g G' H' σ' e' γ'/\Le G G'/\Fz H H'/\Cs F B (ds.drop (i+1)) e' γ' (Post2 g W D σ' G' H' e' γ'),fun σ' H' hN=>⟨ds.length-(i+1),by omega,rfl,hN⟩,fun x H2 y=>?_⟩
  obtain ⟨d,G2,ed,gr,rd⟩:=it.yld i G1 H1 x H2 le1 sr1.bs fz1 hlt y
  have t1:=(gr.tr sr1).st
  have ed':ds.drop i=d::ds.drop (i+1):=by
   rw [List.drop_eq_getElem_cons hlt]
   rw [List.getElem?_eq_getElem hlt] at ed
   rw [Option.some.inj ed]
  rw [ed'] at h1
  unfold Cs at h1
  cases qf:F d e1 with
  | no=>rw [qf] at h1; exact h1.elim
  | er x e'=>exact absurd qf (hg.nox _ _ _ _)
  | ok u e2 =>
   rw [qf] at h1
   refine q G2 H2 G1 H1 σ1 σ1 e1 e1 e2 d x _ t1 rd qf fun σ2 st2 _=>?_
   have s2:St2 g G1 H1 σ1 e1 γ1 G2 H2 σ2 e2 γ1:=st2.st2 gm1
   refine ⟨G2,e2,γ1,st2.sr,s2.gm,mb _ _ _ _ (fun o e3 γ3 z=>?_) h1⟩
   have fz2:Fz H H2:=fz1.trans gr.fz
   have le2:Le G G2:=le1.trans gr.le
   cases o with
   | er x=>exact Post2.step s2 (.er x) _ _ z
   | c c =>
    cases c with
    | nx=>exact fun σ3 G3 H3 t=>⟨hlt,G3,e3,γ3,t.sr,t.gm,le2.trans t.le,fz2.trans (t.fz st2.sr s2.gm),My mb _ _ _ _ _ (Post2.step (s2.trans t)) z⟩
    | ct=>exact fun σ3 G3 H3 t=>⟨hlt,G3,e3,γ3,t.sr,t.gm,le2.trans t.le,fz2.trans (t.fz st2.sr s2.gm),My mb _ _ _ _ _ (Post2.step (s2.trans t)) z⟩
    | bk=>exact fun σ3 G3 H3 t=>z σ3 G3 H3 (s2.trans t)
    | rt r=>exact Post2.step s2 (.c (.rt r)) _ _ z
 ·have ei:i=ds.length:=by omega
  subst ei
  rw [List.drop_length] at h1
  exact .inl ⟨it.stop G1 H1 le1 sr1.bs fz1,h1 σ1 G1 H1 (St2.refl sr1 gm1)⟩
theorem Ov{S:M (List D)}{F:D->M Unit}{is:List Nat}{B:W2}{body:List Stmt}{pos:Pos}(hi:VI g W k X tg ex S)(hg:VG g X tg F is)(hb:VSs2 g W k X body B)(hs:∀ x,foldedSetIterable ex X.env x=pure x:=by intro _; rfl):VS2 g W k X (.For tg ex body [] pos) (Ey S F B):=by
 refine ⟨Dk hb.mon,fun c=>?_⟩
 obtain ⟨t,p,q⟩:=hg.pg k W c
 refine PS.imp (ps_for c.po c.calm (hi.run c) p (hb.run c) hs) fun D σ H ⟨G,e,γ,sr,gm,h⟩=>⟨G,e,sr,?_⟩
 unfold Ey at h
 revert h
 cases S e with
 | no=>exact fun h=>h
 | er x e'=>exact fun h=>h.elim
 | ok ds e1=>exact fun h G1 H1 t1 J it=>Aok hg hb.mon q t1.sr (gm.st t1.st) it (My hb.mon _ _ _ _ _ (Post2.step (t1.st.st2 gm)) h)
end
def Jv(i:Nat)(A:E2 Rv):W2:=fun e γ P=>A e γ fun o e1 γ1=>match o with
 | .er x=>P (.er x) e1 γ1
 | .v r=>Ak (D4 i r) e1 γ1 P
theorem Dl{i:Nat}{A:E2 Rv}(m:Ah A):Mon (Jv i A):=fun e γ P P' h q=>m _ _ _ _ (fun o e1 γ1 z=>by
 cases o with
 | er x=>exact h _ _ _ z
 | v r=>exact B7 _ _ _ _ _ h z) q
section
variable{g:Gm}{W:WX}{k:Nat}{X:Cx}{i:Nat}
theorem Aa9{x:Str}{ex:Expr}{A:E2 Rv}{pos pos':Pos}(hi:X.N[i]? = some x)(hx:Loc X.env.scope x)(he:VE2 g W k X ex A)(hs:swapsWith ex (some (.Name x pos')) pos.line X.env=pure false:=by rfl)(hf:X.fn x=true\/X.env.scope.names.lookup x=some .local:=by first | exact .inl rfl | exact .inr rfl | assumption) :
  VS2 g W k X (.Assign [.Name x pos'] ex pos) (Jv i A):=⟨Dl he.mon,fun c=>PS.imp (ps_set c.nd hi hx (he.run c) hs hf) fun D σ H ⟨G,e,γ,sr,gm,q⟩=>⟨G,e,γ,sr,gm,he.mon _ _ _ _ (fun o e1 γ1 z=>by
  cases o with
  | er x=>exact fun cls d G' H' t xo=>z cls d σ G' H' t.st2 xo
  | v r =>
   intro G1 H1 t v ok
   show D.nx (σ.set i (some v)) H1
   have h:=z
   unfold Ak at h
   dsimp only at h
   cases r with
   | val d =>
    simp only [D4] at h
    by_cases c:Ax e1 i=true
    ·rw [if_pos c] at h
     exact h _ G1 H1 (t.st2.sto c (.inl ⟨d,rfl,ok.1⟩) (fun d p z=>nomatch z) fun d p z=>nomatch z)
    ·rw [if_neg c] at h; exact h.elim
   | fresh d =>
    simp only [D4] at h
    by_cases c:Ax e1 i=true
    ·rw [if_pos c] at h
     obtain ⟨⟨p,ev,n,o,h0,nr⟩,nf⟩:=ok
     refine h _ G1 H1 (t.st2.sto c (.inr ⟨d,p,rfl,ev,n,o,nr⟩) (fun d' p' z1 z2=>?_) fun d' p' z1 z2=>nf d p' rfl z2)
     rw [ev] at z2; cases z2; exact h0
    ·rw [if_neg c] at h; exact h.elim
   | slot j =>
    simp only [D4,M.bind] at h
    cases q:Bz (.slot j) e1 with
    | no=>rw [q] at h; exact h.elim
    | er x e'=>exact absurd q Sz
    | ok d e2 =>
     rw [q] at h
     simp only at h
     obtain ⟨G2,t2,rp⟩:=t.frz ok q
     by_cases c:Ax e2 i=true
     ·rw [if_pos c] at h
      exact h _ G2 H1 (t2.st2.sto c (.inl ⟨d,rfl,rp⟩) (fun d p z=>nomatch z) fun d p z=>nomatch z)
     ·rw [if_neg c] at h; exact h.elim) q⟩⟩
end
section
variable{g:Gm}{G H G1 H1:Hp}{e1:Ve}{vs:List V}{as:List Sl}{N:List Str}
variable{γ γ1:Gh}
theorem Aba(h:Gam g G H (vs.map some) as γ)(hl:as.length=vs.length):Gam g G H (L2.start N vs) (as++List.replicate (N.length-as.length) .un) γ :=
 ⟨h.nd,h.kd,fun b d m=>⟨(h.at_ b d m).1,(h.at_ b d m).2.1,fun i r=>(h.at_ b d m).2.2 i (N2 hl r)⟩⟩
theorem Jw{σ1:L2.St}(ok:as.all Gz=true)(sr:SR g G H (vs.map some) as)(t:St2 g G H (L2.start N vs) (as++List.replicate (N.length-as.length) .un) γ G1 H1 σ1 e1 γ1):Tr2 g (vs.map some) G H as γ G1 H1 (backV as e1) γ1:=by
 have hl:as.length=vs.length:=by rw [sr.len,List.length_map]
 have on:∀ i a,as[i]? = some a->(as++List.replicate (N.length-as.length) Sl.un)[i]? = some a/\(L2.start N vs)[i]? = (vs.map some)[i]?:=fun i a h=>by
  have hi:=C7 h
  refine ⟨by rw [List.getElem?_append_left hi]; exact h,?_⟩
  unfold L2.start
  exact List.getElem?_append_left (by rw [List.length_map]; omega)
 have okA:∀ (i:Nat) a,as[i]? = some a->(∃ d,a=.sh d)\/∃ d,a=.bo d:=fun i a h=>by
  have:=List.all_eq_true.mp ok a (List.mem_of_getElem? h)
  cases a with
  | un=>cases this
  | sh d=>exact .inl ⟨d,rfl⟩
  | ow d=>cases this
  | bo d=>exact .inr ⟨d,rfl⟩
  | bf d=>cases this
  | lo d=>cases this
 have be:∀ (i:Nat) a,as[i]? = some a->(∃ d,a=.sh d/\(backV as e1)[i]? = some (.sh d))\/(∃ d,a=.bo d/\(backV as e1)[i]? = e1[i]?/\σ1[i]? = (vs.map some)[i]?/\∃ d',e1[i]? = some (.bo d')\/e1[i]? = some (.bf d')):=fun i a h=>by
  obtain ⟨o1,o2⟩:=on i a h
  have hle:as.length<=e1.length:=by rw [t.ln]; simp
  have q:=Tc hle h
  rcases okA i a h with ⟨d,rfl⟩ | ⟨d,rfl⟩
  ·exact .inl ⟨d,rfl,q⟩
  ·obtain ⟨x,y⟩:=t.bor i d o1
   exact .inr ⟨d,rfl,q,x.trans o2,y⟩
 have rtb:∀ i p,Rt (vs.map some) (backV as e1) i p->Rt σ1 e1 i p/\Rt (vs.map some) as i p:=fun i p r=>by
  obtain ⟨r1,r2⟩:=r
  cases q:as[i]? with
  | none =>
   exfalso
   have:(backV as e1)[i]? = none:=by
    rw [List.getElem?_eq_none_iff] at q ⊢
    rw [Ie]; exact q
   rw [this] at r1; exact r1
  | some a =>
   rcases be i a q with ⟨d,rfl,h1⟩ | ⟨d,rfl,h1,h2,_⟩
   ·rw [h1] at r1; exact r1.elim
   ·exact ⟨⟨by rw [← h1]; exact r1,by rw [h2]; exact r2⟩,⟨by rw [q]; trivial,r2⟩⟩
 refine ⟨⟨t.sr.bs,t.sr.tabs,t.sr.scr,by rw [Ie]; exact sr.len,fun i=>?_,fun i j p a b=>t.sr.inj i j p (rtb i p a).1 (rtb j p b).1⟩,⟨t.gm.nd,t.gm.kd,fun b u m=>⟨(t.gm.at_ b u m).1,(t.gm.at_ b u m).2.1,fun i r=>(t.gm.at_ b u m).2.2 i (rtb i b r).1⟩⟩,t.le,fun a o h n ng nt=>t.keep a o h (fun i r=>n i (N2 hl r)) ng nt,t.dom,fun a h1 h2 n=>t.new a h1 h2 fun i r=>n i (N2 hl r),⟨Ie,fun i s hs=>?_⟩,t.gup,t.gnw⟩
 ·cases q:as[i]? with
  | none =>
   have:(backV as e1)[i]? = none:=by
    rw [List.getElem?_eq_none_iff] at q ⊢
    rw [Ie]; exact q
   rw [this]; trivial
  | some a =>
   rcases be i a q with ⟨d,rfl,h1⟩ | ⟨d,rfl,h1,h2,_⟩
   ·have sl:=sr.slot i
    rw [q] at sl
    rw [h1]
    obtain ⟨v,ev,r⟩:=sl
    exact ⟨v,ev,r.mono t.le⟩
   ·have sl:=t.sr.slot i
    rw [h1,← h2]
    exact sl
 ·rcases be i s hs with ⟨d,rfl,h1⟩ | ⟨d,rfl,h1,h2,d',h3⟩
  ·exact ⟨_,h1,SlLe.refl _⟩
  ·rcases h3 with h3 | h3
   ·exact ⟨_,h1.trans h3,d',.inl rfl⟩
   ·exact ⟨_,h1.trans h3,d',.inr rfl⟩
end
section
variable{g:Gm}{G H G1 H1:Hp}{e1:Ve}{vs:List V}{as:List Sl}{N:List Str}
variable{γ γ1:Gh}
theorem Abb{σ1:L2.St}{r r':Rv}{e2:Ve}{v:V}(ok:as.all Gz=true)(sr:SR g G H (vs.map some) as)(t:St2 g G H (L2.start N vs) (as++List.replicate (N.length-as.length) .un) γ G1 H1 σ1 e1 γ1)(rv:RvOk g G1 H1 σ1 e1 H r v)(nf:∀ d p,r=.fresh d->v=.ref p->¬ InG γ1 p)(h:Fg r e1=.ok r' e2) :
  ∃ G2,Tr2 g (vs.map some) G H as γ G2 H1 (backV as e2) γ1/\RvNew g G2 H1 H r' v/\∀ d p,r'=.fresh d->v=.ref p->¬ InG γ1 p:=by
 have hl:as.length=vs.length:=by rw [sr.len,List.length_map]
 cases r with
 | val d=>cases h; exact ⟨G1,Jw ok sr t,rv,fun _ _ z=>nomatch z⟩
 | fresh d =>
  cases h
  obtain ⟨p,ev,n,o,h0,_⟩:=rv
  exact ⟨G1,Jw ok sr t,⟨p,ev,n,o,h0⟩,nf⟩
 | slot i =>
  obtain ⟨ev,s,es,ns⟩:=id rv
  simp only [Fg] at h
  have gen:M.map (Bz (.slot i)) Rv.val e1=.ok r' e2->∃ G2,Tr2 g (vs.map some) G H as γ G2 H1 (backV as e2) γ1/\RvNew g G2 H1 H r' v/\∀ d p,r'=.fresh d->v=.ref p->¬ InG γ1 p:=fun h=>by
   unfold M.map M.bind M.ret at h
   cases q:Bz (.slot i) e1 with
   | no=>rw [q] at h; cases h
   | er x e'=>rw [q] at h; cases h
   | ok d e3 =>
    rw [q] at h
    cases h
    obtain ⟨G2,t2,rp⟩:=Ni (Tr.refl t.sr) (r:=.slot i) (v:=v) ⟨ev,s,es,ns⟩ q
    exact ⟨G2,Jw ok sr (t.trans (t2.tr2 t.gm).st2),rp,fun _ _ z=>nomatch z⟩
  rw [es] at h
  cases s with
  | un=>exact absurd rfl ns
  | sh d=>exact gen h
  | bo d=>exact gen h
  | bf d=>exact gen h
  | lo d=>exact gen h
  | ow d =>
   cases h
   have sl:=t.sr.slot i
   rw [es] at sl
   obtain ⟨p,ep,n,o⟩:=sl
   rw [ep] at ev
   cases ev
   have rti:Rt σ1 e1 i p:=⟨by rw [es]; trivial,ep⟩
   refine ⟨G1,Jw ok sr t,⟨p,rfl,n,o,?_⟩,fun d2 p2 _ z m=>by
    cases z
    obtain ⟨u,hu⟩:=m
    exact (t.gm.at_ p u hu).2.2 i rti⟩
   rcases t.rto i d p es ep with ⟨j,d0,q1,q2⟩ | q
   ·exfalso
    by_cases hj:j<as.length
    ·rw [List.getElem?_append_left hj] at q1
     have:=List.all_eq_true.mp ok _ (List.mem_of_getElem? q1)
     cases this
    ·rw [List.getElem?_append_right (by omega)] at q1
     cases List.eq_of_mem_replicate (List.mem_of_getElem? q1)
   ·exact q
end
def By(np n:Nat)(body:W2):E2 Rv:=fun args γ P=>args.length=np/\body (args++List.replicate (n-args.length) .un) γ fun o e' γ'=>match o with
 | .c .nx=>P (.v (.val .non)) (backV args e') γ'
 | .c (.rt r)=>(match Fg r e' with
  | .ok r' e2=>P (.v r') (backV args e2) γ'
  | _=>False)
 | .er x=>P (.er x) (backV args e') γ'
 | _=>False
def sp2(g:Gm)(F:E2 Rv):Sp:=fun vs H Q E=>∃ G args γ,args.all Gz=true/\SR g G H (vs.map some) args/\Gam g G H (vs.map some) args γ /\
 F args γ (Pst2 g (WR E) (vs.map some) G H args γ fun r G' H' e' γ'=>∀ v,RvNew g G' H' H r v->(∀ d p,r=.fresh d->v=.ref p->¬ InG γ' p)->Q v H')
def En(g:Gm)(n:Nat)(F:E2 Rv):Sp:=fun vs H Q E=>vs.length=n/\sp2 g F vs H Q E
theorem Ow{P:Program}{w:World}{K:PySem.W.Frag}{mg:Str->Option Value}{base:Heap}{ca:Str->Addr}{Tb:LT}{sa:Addr}{sn:List Int}{x qual:Str}{params:Arguments}{body:List Stmt}{scope:Scope}{dvs:List V}{kws:List (Str×V)}{f:Addr}{fd:FuncData}{N ps:List Str}{k:Nat}{B:W2}
  (F:FunD K x qual params body scope dvs kws f fd)(S:FnScope N ps scope)(hb:∀ (cdv:Value) (A:Around) (outer:List PySem.Env) (s:Shared) (H:Hp) (E:XK),VSs2 ⟨K,w,ca,Tb,sa,sn⟩ (WR E) k (cxOf (L2.CX P w) P w K mg base N qual scope f cdv A outer s H E) body B) :
  FnG P w K mg base (L2.CX P w) (k+1) f fd ps (En ⟨K,w,ca,Tb,sa,sn⟩ ps.length (By ps.length N.length B)):=by
 obtain ⟨oc,od,dV,kV,doc,pm,an,cdv,ct,osl,rfl,lk,hcd,_,_⟩:=F.ex
 refine P4 lk hcd S (fun vs H Q E h=>h.1) fun A outer s H vs Q E hr h=>?_
 obtain ⟨hl,G,as,γ,ok,sr,gm,h⟩:=h
 have hla:as.length=vs.length:=by rw [sr.len,List.length_map]
 refine ⟨Il ⟨K,w,ca,Tb,sa,sn⟩ (WR E) B,(hb cdv A outer s H E).run ⟨rfl,rfl,rfl,takes_of rfl rfl rfl rfl,hr,passes_of rfl,S.nd⟩,G,as++List.replicate (N.length-as.length) .un,γ,P1 sr,Aba gm hla,?_⟩
 refine (hb cdv A outer s H E).mon _ _ _ _ (fun o e' γ' z=>?_) h.2
 cases o with
 | er x=>exact fun cls d σ' G' H' t xo=>z cls d G' H' (Jw ok sr t) xo
 | c c =>
  cases c with
  | nx=>exact fun σ' G' H' t=>z G' H' (Jw ok sr t) .non rfl fun _ _ y=>nomatch y
  | bk=>exact z.elim
  | ct=>exact z.elim
  | rt r =>
   intro v σ' G' H' t rv nf
   dsimp only at z
   cases q:Fg r e' with
   | no=>rw [q] at z; exact z.elim
   | er x e2=>rw [q] at z; exact z.elim
   | ok r' e2 =>
    rw [q] at z
    obtain ⟨G2,t2,nw,nf2⟩:=Abb ok sr t rv nf q
    exact z G2 H' t2 v nw nf2
section
variable{g:Gm}{G H G1 H1 G2 H2 H0:Hp}{σ:L2.St}{e e1:Ve}{rs:List Rv}{vs dvs:List V}{as as':List Sl}{dd:List D}
variable{γ γ1 γ2:Gh}
theorem Uq(t1:Tr2 g σ G H e γ G1 H1 e1 γ1)(rv:RvsOk g G1 H1 σ e1 H rs vs)(o:Bp rs=true)(ha:A9 rs e1=some as)
  (t2:Tr2 g (vs.map some) G1 H1 as γ1 G2 H2 as' γ2):Tr2 g σ G H e γ G2 H2 (A6 rs as' e1) γ2:=by
 obtain ⟨sra,_,rts⟩:=Md t1.sr rv o ha
 have l1:as.length=rs.length:=P7 ha
 have lv:vs.length=rs.length:=rv.len
 have l2:rs.length<=as'.length:=by rw [t2.ve.len,l1]; exact Nat.le_refl _
 have sr1:=t1.sr
 have nra:∀ (j:Nat) (p:Addr),Rt σ e1 j p->(∀ k:Nat,rs[k]?≠some (Rv.slot j))->∀ k:Nat,¬ Rt (vs.map some) as k p:=fun j p r n k ra=>by
  rcases rts k p ra with ⟨i,hi,ri⟩ | ⟨d,_,_,nr⟩
  ·have:=sr1.inj i j p ri r
   subst this
   exact n k hi
  ·exact nr j r
 have slotAt:∀ k j:Nat,rs[k]? = some (Rv.slot j)->∀ s,e1[j]? = some s->∀ a',as'[k]? = some a' ->
   SlOk g G2 H2 (some (mrg s a')) σ[j]?/\SlLe s (mrg s a')/\(Ge (some (mrg s a'))->∀ p,σ[j]? = some (some (.ref p))->Rt (vs.map some) as' k p):=fun k j hk s hs a' ha'=>by
  obtain ⟨v,hv,ok⟩:=rv.at hk
  obtain ⟨ev,s',es,ns⟩:=ok
  rw [hs] at es
  cases es
  have hkl:k<as.length:=by rw [l1]; exact C7 hk
  obtain ⟨a,haa⟩:∃ a,as[k]? = some a:=⟨as[k],List.getElem?_eq_getElem hkl⟩
  obtain ⟨r,hr,hsl⟩:=P8 ha haa
  rw [hk] at hr
  cases hr
  have haa2:as[k]? = some a:=haa
  obtain ⟨a2,h2,le2⟩:=t2.ve.at_ k a haa2
  rw [ha'] at h2
  cases h2
  have hvv:(vs.map some)[k]? = some (some v):=by
   rw [List.getElem?_map,hv]; rfl
  have sl2:=t2.sr.slot k
  rw [ha',hvv] at sl2
  simp only [G6] at hsl
  rw [hs] at hsl
  have sl1:=sr1.slot j
  rw [hs] at sl1
  cases s with
  | un=>exact absurd rfl ns
  | sh d =>
   refine ⟨?_,by cases a' <;> exact rfl,fun z=>by cases a' <;> exact z.elim⟩
   obtain ⟨v1,ev1,r1⟩:=sl1
   cases a' <;> exact ⟨v1,ev1,r1.mono t2.le⟩
  | bf d =>
   refine ⟨?_,by cases a' <;> exact rfl,fun z=>by cases a' <;> exact z.elim⟩
   obtain ⟨v1,ev1,r1⟩:=sl1
   cases a' <;> exact ⟨v1,ev1,r1.mono t2.le⟩
  | ow d =>
   cases hsl
   obtain ⟨d',rfl | rfl⟩:=le2
   ·obtain ⟨p,ep,n,ow⟩:=sl2
    refine ⟨⟨p,by rw [ev]; exact ep,n,ow⟩,⟨d',.inl rfl⟩,fun _ p' hp'=>⟨by rw [ha']; trivial,?_⟩⟩
    rw [hvv,← hp',ev]
   ·obtain ⟨v',ev',r⟩:=sl2
    cases ev'
    exact ⟨⟨v,ev,r⟩,⟨d',.inr rfl⟩,fun z=>z.elim⟩
  | lo d=>cases hsl
  | bo d =>
   cases hsl
   obtain ⟨d',rfl | rfl⟩:=le2
   ·obtain ⟨p,ep,n,ow⟩:=sl2
    refine ⟨⟨p,by rw [ev]; exact ep,n,ow⟩,⟨d',.inl rfl⟩,fun _ p' hp'=>⟨by rw [ha']; trivial,?_⟩⟩
    rw [hvv,← hp',ev]
   ·obtain ⟨v',ev',r⟩:=sl2
    cases ev'
    exact ⟨⟨v,ev,r⟩,⟨d',.inr rfl⟩,fun z=>z.elim⟩
 have at_:∀ j,(A6 rs as' e1)[j]? = (e1[j]?).map fun s=>match D6 j rs as' with | some a=>mrg s a | none=>s:=fun j=>by
  unfold A6
  rw [P5,Nat.zero_add]
  try (cases e1[j]? with
   | none=>rfl
   | some s=>show some _=some _; congr 1)
 have cse:∀ (j:Nat) (s:Sl),e1[j]? = some s->(∃ (k:Nat) (a':Sl),rs[k]? = some (Rv.slot j)/\as'[k]? = some a'/\(A6 rs as' e1)[j]? = some (mrg s a'))\/((∀ k:Nat,rs[k]?≠some (Rv.slot j))/\(A6 rs as' e1)[j]? = some s):=fun j s hs=>by
  cases q:D6 j rs as' with
  | none=>exact .inr ⟨Te l2 q,by rw [at_,hs]; simp [q]⟩
  | some a =>
   obtain ⟨k,h1,h2⟩:=P6 q
   exact .inl ⟨k,a,h1,h2,by rw [at_,hs]; simp [q]⟩
 have ve2:VeLe e1 (A6 rs as' e1):=by
  refine ⟨Td,fun j s hs=>?_⟩
  rcases cse j s hs with ⟨k,a',hk,ha',q⟩ | ⟨n,q⟩
  ·exact ⟨_,q,(slotAt k j hk s hs a' ha').2.1⟩
  ·exact ⟨s,q,SlLe.refl s⟩
 refine ⟨⟨t2.sr.bs,t2.sr.tabs,t2.sr.scr,by rw [ve2.len]; exact sr1.len,fun j=>?_,fun i j p a b=>sr1.inj i j p (ve2.rt a) (ve2.rt b)⟩,⟨t2.gm.nd,t2.gm.kd,fun b u m=>⟨(t2.gm.at_ b u m).1,(t2.gm.at_ b u m).2.1,fun i r=>by
   have r1:=ve2.rt r
   rcases t2.gnw b ⟨u,m⟩ with ⟨x,mx⟩ | z
   ·exact (t1.gm.at_ b x mx).2.2 i r1
   ·exact (sr1.root r1).2 z⟩⟩,t1.le.trans t2.le,fun a ob h n ng nt=>?_,fun a h=>t1.dom a (t2.dom a h),fun a h1 h2 n=>?_,t1.ve.trans ve2,fun x m=>t2.gup x (t1.gup x m),fun x m=>by
   rcases t2.gnw x m with y | y
   ·exact t1.gnw x y
   ·exact .inr (t1.dom x y)⟩
 ·cases q0:e1[j]? with
  | none =>
   rw [at_,q0]; trivial
  | some s =>
   rcases cse j s q0 with ⟨k,a',hk,ha',q⟩ | ⟨n,q⟩
   ·rw [q]; exact (slotAt k j hk s q0 a' ha').1
   ·rw [q]
    have sl:=sr1.slot j
    rw [q0] at sl
    cases s with
    | un=>trivial
    | sh d=>obtain ⟨v,ev,r⟩:=sl; exact ⟨v,ev,r.mono t2.le⟩
    | bf d=>obtain ⟨v,ev,r⟩:=sl; exact ⟨v,ev,r.mono t2.le⟩
    | lo d =>
     obtain ⟨p,ep,np,ow⟩:=sl
     obtain ⟨ob,u,ho,_⟩:=ow.there
     have nn:∀ k:Nat,¬ Rt (vs.map some) as k p:=fun k ra=>sra.nofrz ho k ra
     exact ⟨p,ep,t2.new p np (by rw [ho]; exact fun z=>nomatch z) nn,ow.mono t2.le (by rw [t2.keep _ _ ho nn (fun ⟨x,m⟩=>(t1.gm.at_ p x m).2.1.nofrz _ _ ho) (fun ps z=>nomatch z),ho])⟩
    | ow d =>
     obtain ⟨p,ep,np,ow⟩:=sl
     obtain ⟨ob,ho,pl,_⟩:=ow.there
     have nn:=nra j p ⟨by rw [q0]; trivial,ep⟩ n
     exact ⟨p,ep,t2.new p np (by rw [ho]; exact fun z=>nomatch z) nn,ow.mono t2.le (by rw [t2.keep _ _ ho nn (fun ⟨x,m⟩=>(t1.gm.at_ p x m).2.2 j ⟨by rw [q0]; trivial,ep⟩) pl.nt,ho])⟩
    | bo d =>
     obtain ⟨p,ep,np,ow⟩:=sl
     obtain ⟨ob,ho,pl,_⟩:=ow.there
     have nn:=nra j p ⟨by rw [q0]; trivial,ep⟩ n
     exact ⟨p,ep,t2.new p np (by rw [ho]; exact fun z=>nomatch z) nn,ow.mono t2.le (by rw [t2.keep _ _ ho nn (fun ⟨x,m⟩=>(t1.gm.at_ p x m).2.2 j ⟨by rw [q0]; trivial,ep⟩) pl.nt,ho])⟩
 ·refine t2.keep a ob (t1.keep a ob h n ng nt) (fun k r=>?_) (fun m=>by
   rcases t1.gnw a m with y | y
   ·exact ng y
   ·rw [h] at y; cases y) nt
  rcases rts k a r with ⟨i,_,ri⟩ | ⟨d,_,h0,_⟩
  ·exact n i (t1.ve.rt ri)
  ·rw [h] at h0; cases h0
 ·refine t2.new a (t1.new a h1 h2 n) (fun z=>h2 (t1.dom a z)) fun k r=>?_
  rcases rts k a r with ⟨i,_,ri⟩ | ⟨d,_,h0,_⟩
  ·exact n i (t1.ve.rt ri)
  ·exact h2 h0
end
def Iq(F:E2 Rv)(rs:List Rv):E2 Rv:=fun e γ P=>Bp rs=true/\match A9 rs e with
 | some as=>F as γ fun o as' γ'=>P o (A6 rs as' e) γ'
 | none=>False
theorem Ox{F:E2 Rv}(m:Ah F)(rs:List Rv):Ah (Iq F rs):=fun e γ P P' h q=>by
 unfold Iq at q ⊢
 refine ⟨q.1,?_⟩
 have q2:=q.2
 revert q2
 cases A9 rs e with
 | none=>exact fun q=>q
 | some as=>exact fun q=>m _ _ _ _ (fun o as' γ' z=>h _ _ _ z) q
theorem Q1{g:Gm}{W:WX}{F:E2 Rv}{rs:List Rv}{vs:List V}{σ:L2.St}{G H G1 H1:Hp}{e e1:Ve}{γ γ1:Gh}{Q:VK}(mF:Ah F)(sr:SR g G H σ e)(t1:Tr2 g σ G H e γ G1 H1 e1 γ1)(rv:RvsOk g G1 H1 σ e1 H rs vs)
  (nf:∀ (i:Nat) d p,rs[i]? = some (.fresh d)->vs[i]? = some (.ref p)->¬ InG γ1 p)
  (h1:Iq F rs e1 γ1 (Pst2 g W σ G H e γ fun r G' H' e' γ'=>∀ v,RvOk2 g G' H' σ e' γ' H r v->Q v H')):sp2 g F vs H1 Q (fun cls d H'=>W cls d σ H'):=by
 obtain ⟨o,h1⟩:=h1
 cases qa:A9 rs e1 with
 | none=>rw [qa] at h1; exact h1.elim
 | some as =>
  rw [qa] at h1
  obtain ⟨sra,oka,rts⟩:=Md t1.sr rv o qa
  refine ⟨G1,as,γ1,oka,sra,⟨t1.gm.nd,t1.gm.kd,fun b u m=>⟨(t1.gm.at_ b u m).1,(t1.gm.at_ b u m).2.1,fun i r=>?_⟩⟩,mF _ _ _ _ (fun out as' γ' z=>?_) h1⟩
  ·rcases rts i b r with ⟨j,_,rj⟩ | ⟨d,hr,_,_⟩
   ·exact (t1.gm.at_ b u m).2.2 j rj
   ·have hv:=r.2
    rw [List.getElem?_map] at hv
    cases qv:vs[i]? with
    | none=>rw [qv] at hv; cases hv
    | some v =>
     rw [qv] at hv
     cases hv
     exact nf i d b hr qv ⟨u,m⟩
  ·cases out with
   | er x=>exact fun cls d G2 H2 t2 xo=>z cls d G2 H2 (Uq t1 rv o qa t2) xo
   | v r =>
    intro G2 H2 t2 v nw nfr
    have t3:=Uq t1 rv o qa t2
    refine z G2 H2 t3 v ⟨?_,nfr⟩
    cases r with
    | val d=>exact nw
    | slot i=>exact nw.elim
    | fresh d =>
     obtain ⟨p,ev,np,ow,h0⟩:=nw
     exact ⟨p,ev,np,ow,t1.dom p h0,fun i r=>(sr.root (t3.ve.rt r)).2 (t1.dom p h0)⟩
mutual
def nc:D->Bool
 | .lst ds=>ncs ds
 | .tup ds=>ncs ds
 | .dct _=>false
 | .ins _ _=>false
 | _=>true
def ncs:List D->Bool
 | []=>true
 | d::ds=>nc d&&ncs ds
end
def Cb:D->Bool
 | .lst ds=>ncs ds
 | .tup ds=>ncs ds
 | .dct kvs=>kvs.all fun q=>nc q.2
 | .ins _ fs=>fs.all fun q=>nc q.2
 | _=>true
def ncF(fs:List (Str×D)):Bool:=fs.all fun q=>nc q.2
section
variable{g:Gm}{G1 G2:Hp}{γ:Gh}
theorem ConR.drp(h:Drp g G1 G2 γ):∀ {u v:V},ConR g G1 u v->ConR g G2 u v
 | .flt i,v,r=>by
  show FnR g G2 i v
  have r:FnR g G1 i v:=r
  unfold FnR at r ⊢
  split at r
  ·exact r
  ·obtain ⟨f,c,e,a,b⟩:=r
   exact ⟨f,c,e,h.ext a (fun _ z=>by unfold Pl at z; cases z) (fun _ _ _ z=>by unfold Pl at z; cases z),h.ext b (fun _ z=>by unfold LamX.CodeO at z; cases z) (fun _ _ _ z=>by unfold LamX.CodeO at z; cases z)⟩
 | .non,_,r=>r
 | .bl _,_,r=>r
 | .int _,_,r=>r
 | .str _,_,r=>r
 | .byt _,_,r=>r
 | .ref _,_,r=>r
 | .ty _,_,r=>r
mutual
theorem Rep.drp(h:Drp g G1 G2 γ):∀ {d:D} {v:V},nc d=true->Rep g G1 d v->Rep g G2 d v
 | .non,_,_,r=>r
 | .bl _,_,_,r=>r
 | .int _,_,_,r=>r
 | .str _,_,_,r=>r
 | .lst _,_,n,⟨a,vs,e,q,r⟩=>⟨a,vs,e,h.lst q,Reps.drp h n r⟩
 | .tup _,_,n,⟨a,vs,e,q,r⟩=>⟨a,vs,e,h.sqT q,Reps.drp h n r⟩
 | .dct _,_,n,_=>nomatch n
 | .set _,_,_,⟨a,L,e,q,r⟩=>⟨a,L,e,h.ext q (fun _ z=>by unfold I6 at z; cases z) (fun _ _ _ z=>by unfold I6 at z; cases z),r⟩
 | .ins _ _,_,n,_=>nomatch n
 | .con _,_,_,r=>ConR.drp h r
 | .scr _,_,_,r=>r
theorem Reps.drp(h:Drp g G1 G2 γ):∀ {ds:List D} {vs:List V},ncs ds=true->Reps g G1 ds vs->Reps g G2 ds vs
 | [],_,_,r=>r
 | _::_,_,n,⟨v,r,e,p,q⟩=>⟨v,r,e,Rep.drp h (Bool.and_eq_true_iff.mp n).1 p,Reps.drp h (Bool.and_eq_true_iff.mp n).2 q⟩
end
theorem RepK.drp(h:Drp g G1 G2 γ):∀ {ds:List (List Nat×D)} {vs:List (Key×V)},(ds.all fun q=>nc q.2)=true->RepK g G1 ds vs->RepK g G2 ds vs
 | [],_,_,r=>r
 | (_,_)::_,_,n,⟨ok,v,r,e,p,q⟩=>by
  rw [List.all_cons,Bool.and_eq_true] at n
  exact ⟨ok,v,r,e,Rep.drp h n.1 p,RepK.drp h n.2 q⟩
theorem RepF.drp(h:Drp g G1 G2 γ):∀ {ds:List (Str×D)} {vs:List (Str×V)},(ds.all fun q=>nc q.2)=true->RepF g G1 ds vs->RepF g G2 ds vs
 | [],_,_,r=>r
 | (_,_)::_,_,n,⟨v,r,e,p,q⟩=>by
  rw [List.all_cons,Bool.and_eq_true] at n
  exact ⟨v,r,e,Rep.drp h n.1 p,RepF.drp h n.2 q⟩
theorem Rep.drpAt(h:Drp g G1 G2 γ){p:Addr}(np:¬ InG γ p):∀ {d:D},Cb d=true->Rep g G1 d (.ref p)->Rep g G2 d (.ref p)
 | .lst _,n,⟨a,vs,e,q,r⟩=>⟨a,vs,e,h.lst q,Reps.drp h n r⟩
 | .tup _,n,⟨a,vs,e,q,r⟩=>⟨a,vs,e,h.sqT q,Reps.drp h n r⟩
 | .dct _,n,⟨a,vs,e,q,r⟩=>by
  cases e
  exact ⟨p,vs,rfl,by rw [h.eq p np]; exact q,RepK.drp h n r⟩
 | .ins _ _,n,⟨a,dx,vs,e,q,r,k⟩=>by
  cases e
  exact ⟨p,dx,vs,rfl,by rw [h.eq p np]; exact q,RepF.drp h n r,k⟩
 | .non,_,r=>r
 | .bl _,_,r=>r
 | .int _,_,r=>r
 | .str _,_,r=>r
 | .set _,_,r=>Rep.drp h rfl r
 | .con _,_,r=>ConR.drp h r
 | .scr _,_,r=>r
theorem Own.drp(h:Drp g G1 G2 γ){H:Hp}{p:Addr}:∀ {d:D},Cb d=true->Own g G1 H p d->Own g G2 H p d
 | .lst _,n,⟨vs,a,r⟩=>⟨vs,a,Reps.drp h n r⟩
 | .dct _,n,⟨vs,a,r⟩=>⟨vs,a,RepK.drp h n r⟩
 | .ins _ _,n,⟨dx,vs,a,r,k⟩=>⟨dx,vs,a,RepF.drp h n r,k⟩
end
def Hc(γ:Gh):List (Str×D)->List (Str×D)
 | []=>[]
 | (f,.con (.ref b))::r=>(f,(γ.lookup b).getD (.con (.ref b)))::Hc γ r
 | q::r=>q::Hc γ r
def proD(γ:Gh):D->D
 | .ins c fs=>.ins c (Hc γ fs)
 | d=>d
def Gi(γ:Gh):Sl->Sl
 | .sh (.con (.ref b))=>.sh (match γ.lookup b with | some d=>proD γ d | none=>.con (.ref b))
 | s=>s
def Bc(γ:Gh)(e:Ve):Ve:=e.map (Gi γ)
def Lk:Sl->Sl->Sl
 | .ow _,s=>s
 | .bo _,s=>s
 | s,_=>s
def Cc(e e1:Ve):Ve:=List.zipWith Lk e e1
def B3:Ve->Ve->Bool
 | .ow _::r,.ow d::r1=>Cb d&&B3 r r1
 | .ow _::r,.sh d::r1=>Cb d&&B3 r r1
 | .bo _::r,.bo d::r1=>Cb d&&B3 r r1
 | .bo _::r,.bf d::r1=>Cb d&&B3 r r1
 | _::r,_::r1=>B3 r r1
 | _,_=>true
def bakR:Rv->Bool
 | .val d=>nc d
 | .fresh d=>Cb d
 | .slot _=>true
def rd2(F:M Rv):E2 Rv:=fun e γ P=>match F (Bc γ e) with
 | .ok r e1=>bakR r=true/\B3 e e1=true/\P (.v r) (Cc e e1) γ
 | .er x e1=>ncF x.2=true/\B3 e e1=true/\P (.er x) (Cc e e1) γ
 | .no=>False
def rdT(F:M Bool):E2 Bool:=fun e γ P=>match F (Bc γ e) with
 | .ok b e1=>B3 e e1=true/\P (.v b) (Cc e e1) γ
 | .er x e1=>ncF x.2=true/\B3 e e1=true/\P (.er x) (Cc e e1) γ
 | .no=>False
theorem Dm(F:M Rv):Ah (rd2 F):=fun e γ P P' h q=>by
 unfold rd2 at q ⊢
 revert q
 cases F (Bc γ e) with
 | no=>exact fun q=>q
 | er x e'=>exact fun q=>⟨q.1,q.2.1,h _ _ _ q.2.2⟩
 | ok a e'=>exact fun q=>⟨q.1,q.2.1,h _ _ _ q.2.2⟩
theorem Dq(F:M Bool):Ah (rdT F):=fun e γ P P' h q=>by
 unfold rdT at q ⊢
 revert q
 cases F (Bc γ e) with
 | no=>exact fun q=>q
 | er x e'=>exact fun q=>⟨q.1,q.2.1,h _ _ _ q.2.2⟩
 | ok a e'=>exact fun q=>⟨q.1,h _ _ _ q.2⟩
def Gp(γ:Gh)(G H:Hp):Hp:=fun a=>if (γ.lookup a).isSome then H a else G a
def Gd(γ:Gh)(G:Hp):Hp:=fun a=>if (γ.lookup a).isSome then none else G a
theorem look_iff{γ:Gh}{b:Addr}:(γ.lookup b).isSome=true↔InG γ b:=by
 constructor
 ·intro h
  obtain ⟨d,hd⟩:=Option.isSome_iff_exists.mp h
  exact ⟨d,Im hd⟩
 ·rintro ⟨d,m⟩
  induction γ with
  | nil=>cases m
  | cons q r ih =>
   obtain ⟨a,u⟩:=q
   rw [List.lookup_cons]
   cases z:b==a with
   | true=>rfl
   | false =>
    rcases List.mem_cons.mp m with y | y
    ·cases y
     rw [beq_self_eq_true] at z
     cases z
    ·exact ih y
section
variable{g:Gm}{G H G1 H1:Hp}{σ:L2.St}{e e1:Ve}{γ:Gh}
theorem Q2{a:Addr}(m:InG γ a):Gp γ G H a=H a:=by unfold Gp; rw [if_pos (look_iff.mpr m)]
theorem Jx{a:Addr}(m:¬ InG γ a):Gp γ G H a=G a:=by unfold Gp; rw [if_neg (fun z=>m (look_iff.mp z))]
theorem Oy{a:Addr}(m:InG γ a):Gd γ G a=none:=by unfold Gd; rw [if_pos (look_iff.mpr m)]
theorem Ll{a:Addr}(m:¬ InG γ a):Gd γ G a=G a:=by unfold Gd; rw [if_neg (fun z=>m (look_iff.mp z))]
theorem Ur(gm:Gam g G H σ e γ):Le G (Gp γ G H):=fun a u h=>by
 rw [Jx (fun ⟨d,m⟩=>by rw [(gm.at_ a d m).1] at h; cases h)]
 exact h
theorem Aol{p:Addr}{d:D}(k:Ki d=true)(o:Own g G H p d):∃ u,H p=some u/\((∃ vs,u=.dK vs)\/∃ c dx vs,u=.ins c dx vs):=by
 cases d with
 | dct kvs=>obtain ⟨vs,a,r⟩:=o; exact ⟨_,a,.inl ⟨_,rfl⟩⟩
 | ins c fs=>obtain ⟨dx,vs,a,r,_⟩:=o; exact ⟨_,a,.inr ⟨_,_,_,rfl⟩⟩
 | _=>cases k
theorem gp_bs(sr:SR g G H σ e)(gm:Gam g G H σ e γ):Bs (Gp γ G H) H:=by
 refine ⟨fun a o u h=>?_,fun a u h=>?_⟩
 ·by_cases m:InG γ a
  ·rw [Q2 m] at h
   obtain ⟨d,m⟩:=m
   obtain ⟨_,ow,_⟩:=gm.at_ a d m
   exact ow.nofrz _ _ h
  ·rw [Jx m] at h
   exact sr.bs.pl a o u h
 ·by_cases m:InG γ a
  ·rw [Q2 m] at h; exact .inl h
  ·rw [Jx m] at h; exact sr.bs.sub a u h
theorem Abd(gm:Gam g G H σ e γ){b:Addr}{d:D}(h:γ.lookup b=some d):Rep g (Gp γ G H) d (.ref b):=by
 obtain ⟨_,ow,_⟩:=gm.at_ b d (Im h)
 obtain ⟨ob,ho,_,mk⟩:=ow.there
 exact mk (Ur gm) (by rw [Q2 ⟨d,Im h⟩]; exact ho)
theorem Abe(gm:Gam g G H σ e γ):∀ {fs:List (Str×D)} {vs:List (Str×V)},RepF g (Gp γ G H) fs vs->RepF g (Gp γ G H) (Hc γ fs) vs
 | [],_,r=>r
 | (f,d)::fs,_,⟨v,t,ev,a,b⟩=>by
  have ih:=Abe gm b
  unfold Hc
  split
  ·rename_i z; cases z
  ·rename_i f' b' r' z
   cases z
   refine ⟨v,t,ev,?_,ih⟩
   cases q:γ.lookup b' with
   | none=>exact a
   | some d' =>
    have e2:v=.ref b':=a
    rw [e2]
    exact Abd gm q
  ·rename_i q' r' _ z
   cases z
   exact ⟨v,t,ev,a,ih⟩
theorem Us{q:Str×D}:∀ {fs:List (Str×D)},q∈Hc γ fs->∃ x,(q.1,x)∈fs
 | [],h=>by cases h
 | (f,d)::fs,h=>by
  unfold Hc at h
  split at h
  ·rename_i z; cases z
  ·rename_i f' b' r' z
   cases z
   rcases List.mem_cons.mp h with y | y
   ·rw [y]; exact ⟨_,List.mem_cons_self⟩
   ·obtain ⟨x,hx⟩:=Us y
    exact ⟨x,List.mem_cons_of_mem _ hx⟩
  ·rename_i q' r' _ z
   cases z
   rcases List.mem_cons.mp h with y | y
   ·rw [y]; exact ⟨d,List.mem_cons_self⟩
   ·obtain ⟨x,hx⟩:=Us y
    exact ⟨x,List.mem_cons_of_mem _ hx⟩
theorem pro_d(gm:Gam g G H σ e γ){d:D}{v:V}(r:Rep g (Gp γ G H) d v):Rep g (Gp γ G H) (proD γ d) v:=by
 cases d with
 | ins c fs =>
  obtain ⟨a,dx,vs,ev,q,rf,io⟩:=r
  refine ⟨a,dx,vs,ev,q,Abe gm rf,io.1,fun y hy=>?_⟩
  obtain ⟨x,hx⟩:=Us hy
  exact io.2 (y.1,x) hx
 | _=>exact r
theorem Q3{i:Nat}:(Bc γ e)[i]? = (e[i]?).map (Gi γ):=by unfold Bc; rw [List.getElem?_map]
theorem Aom{o:Option Sl}:Ge (o.map (Gi γ))↔Ge o:=by
 cases o with
 | none=>exact Iff.rfl
 | some s =>
  cases s with
  | sh d =>
   show Ge (some (Gi γ (.sh d)))↔_
   unfold Gi
   split
   ·rename_i z; cases z; exact Iff.rfl
   ·exact Iff.rfl
  | _=>exact Iff.rfl
theorem rt_pro{i:Nat}{p:Addr}:Rt σ (Bc γ e) i p↔Rt σ e i p:=by
 unfold Rt
 rw [Q3,Aom]
theorem SR.pro(sr:SR g G H σ e)(gm:Gam g G H σ e γ):SR g (Gp γ G H) H σ (Bc γ e):=by
 have le:=Ur gm
 have np:∀ {p:Addr} {i:Nat},Rt σ e i p->Gp γ G H p=G p:=fun {p i} r=>Jx fun ⟨d,m⟩=>(gm.at_ p d m).2.2 i r
 refine ⟨gp_bs sr gm,sr.tabs.mono le (fun a ps h n=>?_),sr.scr.mono le,by unfold Bc; rw [List.length_map]; exact sr.len,fun i=>?_,fun i j p a b=>sr.inj i j p (rt_pro.mp a) (rt_pro.mp b)⟩
 ·rw [Jx (fun m=>by
   obtain ⟨o,ho,pl⟩:=gm.there m
   rw [ho] at h
   exact pl.nt ps (Option.some.inj h))]
  exact n
 ·have sl:=sr.slot i
  rw [Q3]
  cases q:e[i]? with
  | none=>trivial
  | some s =>
   rw [q] at sl
   cases s with
   | un=>trivial
   | sh d =>
    obtain ⟨v,ev,r⟩:=sl
    have r:=Rep.mono le r
    show SlOk g _ H (some (Gi γ (.sh d))) _
    unfold Gi
    split
    ·rename_i b z
     cases z
     refine ⟨v,ev,?_⟩
     cases q2:γ.lookup b with
     | none=>exact r
     | some d' =>
      have e2:v=.ref b:=r
      rw [e2]
      exact pro_d gm (Abd gm q2)
    ·exact ⟨v,ev,r⟩
   | bf d=>obtain ⟨v,ev,r⟩:=sl; exact ⟨v,ev,r.mono le⟩
   | ow d =>
    obtain ⟨p,ev,n,r⟩:=sl
    exact ⟨p,ev,by rw [np ⟨by rw [q]; trivial,ev⟩]; exact n,r.mono le rfl⟩
   | bo d =>
    obtain ⟨p,ev,n,r⟩:=sl
    exact ⟨p,ev,by rw [np ⟨by rw [q]; trivial,ev⟩]; exact n,r.mono le rfl⟩
   | lo d =>
    obtain ⟨p,ev,n,r⟩:=sl
    obtain ⟨ob,u,ho,_⟩:=r.there
    exact ⟨p,ev,by rw [Jx (fun ⟨d,m⟩=>(gm.at_ p d m).2.1.nofrz _ _ ho)]; exact n,r.mono le rfl⟩
theorem Abf(hl:e1.length=e.length){i:Nat}{s:Sl}(h:e[i]? = some s):∃ s1,e1[i]? = some s1/\(Cc e e1)[i]? = some (Lk s s1):=by
 have hi:i<e1.length:=by rw [hl]; exact C7 h
 refine ⟨e1[i],List.getElem?_eq_getElem hi,?_⟩
 unfold Cc
 rw [List.getElem?_zipWith,h,List.getElem?_eq_getElem hi]
theorem Abg(hl:e1.length=e.length){i:Nat}(h:e[i]? = none):(Cc e e1)[i]? = none:=by
 unfold Cc
 rw [List.getElem?_zipWith,h]
theorem Abh:∀ {e e1:Ve} {i:Nat} {s s1:Sl},B3 e e1=true->e[i]? = some s->e1[i]? = some s1->(∀ d0 d,s=.ow d0->(s1=.ow d\/s1=.sh d)->Cb d=true)/\(∀ d0 d,s=.bo d0->(s1=.bo d\/s1=.bf d)->Cb d=true)
 | [],_,i,s,s1,_,h,_=>by simp at h
 | a::r,[],i,s,s1,_,_,h=>by simp at h
 | a::r,b::r1,i,s,s1,o,h1,h2=>by
  have tl:B3 r r1=true/\(∀ d0 d,a=.ow d0->(b=.ow d\/b=.sh d)->Cb d=true)/\(∀ d0 d,a=.bo d0->(b=.bo d\/b=.bf d)->Cb d=true):=by
   cases a <;> cases b <;> simp only [B3,Bool.and_eq_true] at o <;> simp_all
  cases i with
  | zero=>cases h1; cases h2; exact tl.2
  | succ i=>exact Abh (e:=r) (e1:=r1) (i:=i) tl.1 h1 h2
theorem Q4(sr:SR g G H σ e)(gm:Gam g G H σ e γ)(t:Tr g σ (Gp γ G H) H (Bc γ e) G1 H1 e1)(ok:B3 e e1=true) :
  Drp g G1 (Gd γ G1) γ/\Tr2 g σ G H e γ (Gd γ G1) H1 (Cc e e1) γ:=by
 have hl:e1.length=e.length:=by rw [t.ve.len]; unfold Bc; rw [List.length_map]
 have keepC:∀ b d,(b,d)∈γ->H1 b=H b:=fun b d m=>by
  obtain ⟨n,o,r⟩:=gm.at_ b d m
  obtain ⟨ob,ho,pl,_⟩:=o.there
  rw [ho]
  exact t.keep b ob ho (fun i q=>r i (rt_pro.mp q)) pl.nt
 have drp:Drp g G1 (Gd γ G1) γ:=by
  refine ⟨fun a m=>Ll m,fun a m u h=>?_⟩
  obtain ⟨d,m⟩:=m
  obtain ⟨n,o,r⟩:=gm.at_ a d m
  obtain ⟨u0,h0,k0⟩:=Aol (gm.kd a d m) o
  have h2:=t.le a u0 (by rw [Q2 ⟨d,m⟩]; exact h0)
  rw [h2] at h
  cases h
  exact k0
 have le:Le G (Gd γ G1):=fun a u h=>by
  rw [Ll (fun ⟨d,m⟩=>by rw [(gm.at_ a d m).1] at h; cases h)]
  exact t.le a u (Ur gm a u h)
 have bs:Bs (Gd γ G1) H1:=by
  refine ⟨fun a o u h=>?_,fun a u h=>?_⟩
  ·by_cases m:InG γ a
   ·rw [Oy m] at h; cases h
   ·rw [Ll m] at h; exact t.sr.bs.pl a o u h
  ·by_cases m:InG γ a
   ·rw [Oy m] at h; cases h
   ·rw [Ll m] at h; exact t.sr.bs.sub a u h
 have nn:∀ {p:Addr},G1 p=none->Gd γ G1 p=none:=fun {p} h=>by
  by_cases m:InG γ p
  ·exact Oy m
  ·rw [Ll m]; exact h
 have ve:∀ (i:Nat) s,e[i]? = some s->∃ s1,e1[i]? = some s1/\(Cc e e1)[i]? = some (Lk s s1)/\SlLe (Gi γ s) s1:=fun i s h=>by
  obtain ⟨s1,h1,h2⟩:=Abf hl h
  obtain ⟨s2,h3,l⟩:=t.ve.at_ i (Gi γ s) (by rw [Q3,h]; rfl)
  rw [h1] at h3
  cases h3
  exact ⟨s1,h1,h2,l⟩
 have rtb:∀ (i:Nat) p,Rt σ (Cc e e1) i p->Rt σ e1 i p/\Rt σ e i p:=fun i p r=>by
  obtain ⟨r1,r2⟩:=r
  cases q:e[i]? with
  | none=>rw [Abg hl q] at r1; exact r1.elim
  | some s =>
   obtain ⟨s1,h1,h2,l⟩:=ve i s q
   rw [h2] at r1
   cases s with
   | ow d=>exact ⟨⟨by rw [h1]; exact r1,r2⟩,⟨by rw [q]; trivial,r2⟩⟩
   | bo d=>exact ⟨⟨by rw [h1]; exact r1,r2⟩,⟨by rw [q]; trivial,r2⟩⟩
   | un=>exact r1.elim
   | sh d=>exact r1.elim
   | bf d=>exact r1.elim
   | lo d=>exact r1.elim
 refine ⟨drp,⟨⟨bs,?_,?_,?_,fun i=>?_,fun i j p a b=>t.sr.inj i j p (rtb i p a).1 (rtb j p b).1⟩,⟨gm.nd,gm.kd,fun b d m=>?_⟩,le,fun a o h n ni nt=>t.keep a o h (fun i r=>n i (rt_pro.mp r)) nt,t.dom,fun a h1 h2 n=>?_,⟨?_,fun i s h=>?_⟩,fun _ m=>m,fun _ m=>.inl m⟩⟩
 ·refine fun q hq=>?_
  obtain ⟨ps,h1,hg,h2,h3⟩:=t.sr.tabs q hq
  refine ⟨ps,h1,nn hg,h2,fun pos cv hc=>?_⟩
  obtain ⟨c,x1,x2⟩:=h3 pos cv hc
  exact ⟨c,x1,drp.ext x2 (fun _ z=>by unfold LamX.CodeO at z; cases z) (fun _ _ _ z=>by unfold LamX.CodeO at z; cases z)⟩
 ·rcases t.sr.scr with h | h | h
  ·exact .inl h
  ·exact .inr (.inl h)
  ·exact .inr (.inr (drp.lst h))
 ·unfold Cc
  rw [List.length_zipWith,hl,Nat.min_self]
  exact sr.len
 ·cases q:e[i]? with
  | none=>rw [Abg hl q]; trivial
  | some s =>
   obtain ⟨s1,h1,h2,l⟩:=ve i s q
   obtain ⟨ok1,ok2⟩:=Abh ok q h1
   rw [h2]
   have sl0:=sr.slot i
   have sl1:=t.sr.slot i
   rw [q] at sl0
   rw [h1] at sl1
   cases s with
   | un=>trivial
   | sh d=>obtain ⟨v,ev,r⟩:=sl0; exact ⟨v,ev,r.mono le⟩
   | bf d=>obtain ⟨v,ev,r⟩:=sl0; exact ⟨v,ev,r.mono le⟩
   | lo d =>
    obtain ⟨p,ev,n,r⟩:=sl0
    obtain ⟨ob,u,ho,_⟩:=r.there
    have nr:∀ i,¬ Rt σ (Bc γ e) i p:=fun j r=>sr.nofrz ho j (rt_pro.mp r)
    exact ⟨p,ev,nn (t.new p (by rw [Jx (fun ⟨d,m⟩=>(gm.at_ p d m).2.1.nofrz _ _ ho)]; exact n) (by rw [ho]; exact fun z=>nomatch z) nr),r.mono le (by rw [t.keep _ _ ho nr (fun ps z=>nomatch z),ho])⟩
   | ow d =>
    obtain ⟨p0,ev0,n0,r0⟩:=sl0
    have np:¬ InG γ p0:=fun ⟨d,m⟩=>(gm.at_ p0 d m).2.2 i ⟨by rw [q]; trivial,ev0⟩
    obtain ⟨d',rfl | rfl⟩:=l
    ·obtain ⟨p,ev,n,r⟩:=sl1
     exact ⟨p,ev,nn n,r.drp drp (ok1 _ _ rfl (.inl rfl))⟩
    ·obtain ⟨v,ev,r⟩:=sl1
     rw [ev0] at ev
     cases ev
     exact ⟨_,ev0,Rep.drpAt drp np (ok1 _ _ rfl (.inr rfl)) r⟩
   | bo d =>
    obtain ⟨p0,ev0,n0,r0⟩:=sl0
    have np:¬ InG γ p0:=fun ⟨d,m⟩=>(gm.at_ p0 d m).2.2 i ⟨by rw [q]; trivial,ev0⟩
    obtain ⟨d',rfl | rfl⟩:=l
    ·obtain ⟨p,ev,n,r⟩:=sl1
     exact ⟨p,ev,nn n,r.drp drp (ok2 _ _ rfl (.inl rfl))⟩
    ·obtain ⟨v,ev,r⟩:=sl1
     rw [ev0] at ev
     cases ev
     exact ⟨_,ev0,Rep.drpAt drp np (ok2 _ _ rfl (.inr rfl)) r⟩
 ·obtain ⟨n,o,r⟩:=gm.at_ b d m
  exact ⟨Oy ⟨d,m⟩,o.mono le (keepC b d m),fun i q=>r i (rtb i b q).2⟩
 ·by_cases m:InG γ a
  ·exact Oy m
  ·rw [Ll m]
   exact t.new a (by rw [Jx m]; exact h1) h2 fun i r=>n i (rt_pro.mp r)
 ·unfold Cc
  rw [List.length_zipWith,hl,Nat.min_self]
 ·obtain ⟨s1,h1,h2,l⟩:=ve i s h
  refine ⟨_,h2,?_⟩
  cases s with
  | ow d=>exact l
  | bo d=>exact l
  | un=>exact SlLe.refl _
  | sh d=>exact SlLe.refl _
  | bf d=>exact SlLe.refl _
  | lo d=>exact SlLe.refl _
theorem XOk.drp{x:Exn}{cls:Value}{d:Option Addr}(h:Drp g G1 (Gd γ G1) γ)(n:ncF x.2=true)(xo:XOk g G1 x cls d):XOk g (Gd γ G1) x cls d:=by
 refine ⟨xo.1,?_⟩
 rcases xo.2 with y | ⟨da,fs,a,b,c⟩
 ·exact .inl y
 ·exact .inr ⟨da,fs,a,h.ext b (fun _ z=>nomatch z) (fun _ _ _ z=>nomatch z),RepF.drp h n c⟩
end
section
variable{g:Gm}{W:WX}{k:Nat}{X:Cx}
theorem Aon{F:M Rv}{σ:L2.St}{H:Hp}{Q:VK}(q:TV2 g W (rd2 F) σ H Q):TV g W F σ H Q:=by
 obtain ⟨G,e,γ,sr,gm,q⟩:=q
 refine ⟨Gp γ G H,Bc γ e,sr.pro gm,?_⟩
 unfold rd2 at q
 revert q
 cases F (Bc γ e) with
 | no=>exact fun h=>h
 | er x e1 =>
  rintro ⟨n,ok,h⟩ cls d G1 H1 t xo
  obtain ⟨dr,t2⟩:=Q4 sr gm t ok
  exact h cls d _ H1 t2 (xo.drp dr n)
 | ok r e1 =>
  rintro ⟨n,ok,h⟩ G1 H1 t v rv
  obtain ⟨dr,t2⟩:=Q4 sr gm t ok
  refine h _ H1 t2 v ?_
  cases r with
  | val d=>exact ⟨Rep.drp dr n rv,fun _ _ z=>nomatch z⟩
  | slot i =>
   obtain ⟨ev,s1,es,ns⟩:=rv
   refine ⟨⟨ev,?_⟩,fun _ _ z=>nomatch z⟩
   have hi:i<e.length:=by
    have:=C7 es
    rw [t.ve.len] at this
    unfold Bc at this
    rwa [List.length_map] at this
   obtain ⟨s2,h1,h2⟩:=Abf (by rw [t.ve.len]; unfold Bc; rw [List.length_map]) (List.getElem?_eq_getElem hi)
   rw [es] at h1
   cases h1
   refine ⟨_,h2,?_⟩
   obtain ⟨s3,h3,l⟩:=t.ve.at_ i (Gi γ e[i]) (by rw [Q3,List.getElem?_eq_getElem hi]; rfl)
   rw [es] at h3
   cases h3
   generalize e[i]=s at l
   cases s with
   | un=>cases l; exact absurd rfl ns
   | ow d=>exact ns
   | bo d=>exact ns
   | sh d=>exact fun z=>nomatch z
   | bf d=>exact fun z=>nomatch z
   | lo d=>exact fun z=>nomatch z
  | fresh d =>
   obtain ⟨p,ev,np,ow,h0,nr⟩:=rv
   have npg:¬ InG γ p:=fun m=>by
    obtain ⟨o,ho,_⟩:=gm.there m
    rw [ho] at h0; cases h0
   refine ⟨⟨p,ev,by rw [Ll npg]; exact np,ow.drp dr n,h0,fun i r=>(sr.root (t2.ve.rt r)).2 h0⟩,fun d2 p2 _ e2 m=>?_⟩
   rw [ev] at e2
   cases e2
   exact npg m
theorem Mz{ex:Expr}{F:M Rv}(h:VE g W k X ex F):VE2 g W k X ex (rd2 F):=⟨Dm F,fun c=>PE.imp (h.run c) fun _ _ _ q=>Aon q⟩
theorem Oz{ex:Expr}{F:M Bool}(h:VT g W k X ex F):VT2 g W k X ex (rdT F):=⟨Dq F,fun c=>PT.imp (h.run c) fun σ H Q ⟨G,e,γ,sr,gm,q⟩=>by
 refine ⟨Gp γ G H,Bc γ e,sr.pro gm,?_⟩
 unfold rdT at q
 revert q
 cases F (Bc γ e) with
 | no=>exact fun h=>h
 | er x e1 =>
  rintro ⟨n,ok,h⟩ cls d G1 H1 t xo
  obtain ⟨dr,t2⟩:=Q4 sr gm t ok
  exact h cls d _ H1 t2 (xo.drp dr n)
 | ok r e1 =>
  rintro ⟨ok,h⟩ G1 H1 t
  obtain ⟨dr,t2⟩:=Q4 sr gm t ok
  exact h _ H1 t2⟩
end
theorem RepK.dropK{g:Gm}{G:Hp}(key:List Nat):∀ {kvs:List (List Nat×D)} {vs:List (Key×V)},RepK g G kvs vs->RepK g G (kvs.filter fun kv=>decide (kv.1≠key)) (L2.dropK vs (.inr (S key)))
 | [],vs,r=>by rw [show vs=[] from r]; rfl
 | (q,d)::kvs,_,⟨ok,v,t,e,a,b⟩=>by
  subst e
  have ih:=RepK.dropK key b
  unfold L2.dropK at ih ⊢
  by_cases z:q=key
  ·subst z
   rw [List.filter_cons_of_neg (by simp),List.filter_cons_of_neg (by simp)]
   exact ih
  ·rw [List.filter_cons_of_pos (by simpa using z),List.filter_cons_of_pos (by
    simp only [decide_eq_true_eq]
    exact fun y=>z (S_inj (Sum.inr.inj y)))]
   exact ⟨ok,v,_,rfl,a,ih⟩
def Fp(r:Rv)(e:Ve)(γ:Gh):Option D:=match Ag r e with
 | some (.con (.ref b))=>γ.lookup b
 | o=>o
def Hy(r:Rv)(e:Ve):Option Addr:=match Ag r e with
 | some (.con (.ref b))=>some b
 | _=>none
section
variable{g:Gm}{G H G1 H1 H0:Hp}{σ:L2.St}{e e1:Ve}{γ γ1:Gh}
theorem Abi{b:Addr}{v:V}(h:RepH g G H (.con (.ref b)) v):v=.ref b:=by
 rcases h with h | ⟨p,_,_,z⟩
 ·exact h
 ·exact z.elim
theorem Q5{r:Rv}{v:V}{d:D}(sr:SR g G H σ e)(gm:Gam g G H σ e γ)(ok:RvOk g G H σ e H0 r v)(h:Fp r e γ=some d):RepH g G H d v:=by
 unfold Fp at h
 split at h
 ·rename_i b q
  obtain ⟨n,o,_⟩:=gm.at_ b d (Im h)
  rw [Abi (Cv sr ok q)]
  exact o.rH n
 ·exact Cv sr ok h
theorem Abj{r:Rv}{v:V}{b:Addr}(sr:SR g G H σ e)(ok:RvOk g G H σ e H0 r v)(h:Hy r e=some b):v=.ref b:=by
 unfold Hy at h
 split at h
 ·rename_i b' q
  cases h
  exact Abi (Cv sr ok q)
 ·cases h
end
def M0(f:Str)(r:Rv):E2 Rv:=fun e γ P=>match Fp r e γ with
 | some (.ins _ fs)=>(match fs.lookup f with | some d=>P (.v (.val d)) e γ | none=>False)
 | _=>False
theorem Ut{f:Str}{r:Rv}:Ah (M0 f r):=fun e γ P P' h q=>by
 unfold M0 at q ⊢
 revert q
 cases Fp r e γ with
 | none=>exact fun q=>q
 | some d =>
  cases d with
  | ins c fs =>
   dsimp only
   cases fs.lookup f with
   | none=>exact fun q=>q
   | some d=>exact fun q=>h _ _ _ q
  | _=>exact fun q=>q
def Jy(f:Str)(A:E2 Rv):E2 Rv:=Bn A (M0 f)
def O0(u:D->D->D->Option D)(O Ix V:E2 Rv):W2:=fun e γ P=>Bf V e γ fun o e1 γ1=>match o with
 | .er x=>P (.er x) e1 γ1
 | .v (.val v)=>O e1 γ1 fun o e2 γ2=>(match o with
  | .er x=>P (.er x) e2 γ2
  | .v r=>Bf Ix e2 γ2 fun o e3 γ3=>(match o with
   | .er x=>P (.er x) e3 γ3
   | .v (.val ix)=>(match Hy r e2 with
    | some b=>(match γ3.lookup b with
     | some d0=>(match u d0 ix v with
      | some d'=>Ki d'=true/\P (.c .nx) e3 (setG γ3 b d')
      | none=>False)
     | none=>False)
    | none=>False)
   | .v _=>False))
 | .v _=>False
def O1:D->D->Option D
 | .dct kvs,.str k=>if (kvs.any fun kv=>decide (kv.1=k))=true then some (.dct (kvs.filter fun kv=>decide (kv.1≠k))) else none
 | _,_=>none
def O3(O Ix:E2 Rv):W2:=fun e γ P=>O e γ fun o e2 γ2=>match o with
 | .er x=>P (.er x) e2 γ2
 | .v r=>Bf Ix e2 γ2 fun o e3 γ3=>(match o with
  | .er x=>P (.er x) e3 γ3
  | .v (.val ix)=>(match Hy r e2 with
   | some b=>(match γ3.lookup b with
    | some d0=>(match O1 d0 ix with
     | some d'=>P (.c .nx) e3 (setG γ3 b d')
     | none=>False)
    | none=>False)
   | none=>False)
  | .v _=>False)
def Jz(cs:List Str)(f:Str)(i:Nat)(A:E2 Rv):W2:=fun e γ P=>Bf A e γ fun o e1 γ1=>match o with
 | .er x=>P (.er x) e1 γ1
 | .v (.val dv)=>(match e1[i]? with
  | some (.sh (.con (.ref b)))=>(match γ1.lookup b with
   | some (.ins c fs)=>cs.contains c=true/\fs.length<1000/\P (.c .nx) e1 (setG γ1 b (.ins c (Bl f dv fs)))
   | _=>False)
  | _=>False)
 | .v _=>False
def M3(A:E2 Rv):W2:=fun e γ P=>A e γ fun o e1 γ1=>match o with
 | .er x=>P (.er x) e1 γ1
 | .v _=>P (.c .nx) e1 γ1
theorem Ck{A:E2 Rv}(m:Ah A):Ah (Bf A):=Fn m fun _=>A8 _
theorem Ds{u:D->D->D->Option D}{O Ix V:E2 Rv}(mo:Ah O)(mi:Ah Ix)(mv:Ah V):Mon (O0 u O Ix V):=fun e γ P P' h q=>Ck mv _ _ _ _ (fun o e1 γ1 z=>by
 cases o with
 | er x=>exact h _ _ _ z
 | v r =>
  cases r with
  | slot i=>exact z
  | fresh d=>exact z
  | val v =>
   refine mo _ _ _ _ (fun o e2 γ2 z=>?_) z
   cases o with
   | er x=>exact h _ _ _ z
   | v r =>
    refine Ck mi _ _ _ _ (fun o e3 γ3 z=>?_) z
    cases o with
    | er x=>exact h _ _ _ z
    | v r3 =>
     cases r3 with
     | slot i=>exact z
     | fresh d=>exact z
     | val ix =>
      revert z
      dsimp only
      cases Hy r e2 with
      | none=>exact fun z=>z
      | some b =>
       dsimp only
       cases γ3.lookup b with
       | none=>exact fun z=>z
       | some d0 =>
        dsimp only
        cases u d0 ix v with
        | none=>exact fun z=>z
        | some d'=>exact fun z=>⟨z.1,h _ _ _ z.2⟩) q
theorem Dt{O Ix:E2 Rv}(mo:Ah O)(mi:Ah Ix):Mon (O3 O Ix):=fun e γ P P' h q=>by
 refine mo _ _ _ _ (fun o e2 γ2 z=>?_) q
 cases o with
 | er x=>exact h _ _ _ z
 | v r =>
  refine Ck mi _ _ _ _ (fun o e3 γ3 z=>?_) z
  cases o with
  | er x=>exact h _ _ _ z
  | v r3 =>
   cases r3 with
   | slot i=>exact z
   | fresh d=>exact z
   | val ix =>
    revert z
    dsimp only
    cases Hy r e2 with
    | none=>exact fun z=>z
    | some b =>
     dsimp only
     cases γ3.lookup b with
     | none=>exact fun z=>z
     | some d0 =>
      dsimp only
      cases O1 d0 ix with
      | none=>exact fun z=>z
      | some d'=>exact fun z=>h _ _ _ z
theorem Du{cs:List Str}{f:Str}{i:Nat}{A:E2 Rv}(m:Ah A):Mon (Jz cs f i A):=fun e γ P P' h q=>Ck m _ _ _ _ (fun o e1 γ1 z=>by
 cases o with
 | er x=>exact h _ _ _ z
 | v r =>
  cases r with
  | slot j=>exact z
  | fresh d=>exact z
  | val dv =>
   dsimp only at z ⊢
   split at z
   ·rename_i b hs
    split at z
    ·rename_i c fs hl
     exact ⟨z.1,z.2.1,h _ _ _ z.2.2⟩
    ·exact z
   ·exact z) q
theorem Dw{A:E2 Rv}(m:Ah A):Mon (M3 A):=fun e γ P P' h q=>m _ _ _ _ (fun o e1 γ1 z=>by cases o <;> exact h _ _ _ z) q
section
variable{g:Gm}{W:WX}{k:Nat}{X:Cx}
theorem Abk{ex:Expr}{f:Str}{A:E2 Rv}{pos:Pos}(h:VE2 g W k X ex A)(hb:attributeBase ex f X.env (eval ex X.env)=eval ex X.env:=by rfl):VE2 g W k X (.Attribute ex f pos) (Jy f A) :=
 ⟨Fn h.mon fun _=>Ut,fun c=>PE.imp (fldK g.K (h.run c) hb c.K) fun σ H Q ⟨G,e,γ,sr,gm,q⟩=>⟨G,e,γ,sr,gm,h.mon _ _ _ _ (fun o e1 γ1 z=>by
  cases o with
  | er x=>exact z
  | v r =>
   intro G1 H1 t1 v ok
   have h1:=z G1 H1 t1
   dsimp only at h1
   unfold M0 at h1
   cases q1:Fp r e1 γ1 with
   | none=>rw [q1] at h1; exact h1.elim
   | some d =>
    rw [q1] at h1
    cases d with
    | ins c fs =>
     dsimp only at h1
     cases q2:fs.lookup f with
     | none=>rw [q2] at h1; exact h1.elim
     | some d =>
      rw [q2] at h1
      obtain ⟨a,dx,vs,ev,ha,rf,io⟩:=(Q5 t1.sr t1.gm ok.1 q1).ins t1.sr.bs
      obtain ⟨u,hu,ru⟩:=rf.look q2
      obtain ⟨y,hy,ey⟩:=lookup_mem q2
      exact ⟨a,_,dx,vs,u,ev,ha,io.1,ey ▸ io.2 y hy,hu,h1 G1 H1 (Tr2.refl t1.sr t1.gm) u ⟨ru,fun _ _ z=>nomatch z⟩⟩
    | _=>exact h1.elim) (Pst2.bind h.mon (fun _=>Ut) q)⟩⟩
theorem Abl{ex:Expr}{A:E2 Rv}{pos:Pos}(h:VE2 g W k X ex A)(hs:swapsWith ex none pos.line X.env=pure false:=by rfl):VS2 g W k X (.Expr ex pos) (M3 A) :=
 ⟨Dw h.mon,fun c=>PS.imp (ps_expr (h.run c) hs) fun D σ H ⟨G,e,γ,sr,gm,q⟩=>⟨G,e,γ,sr,gm,h.mon _ _ _ _ (fun o e1 γ1 z=>by
  cases o with
  | er x=>exact fun cls d G' H' t xo=>z cls d σ G' H' t.st2 xo
  | v r=>exact fun G1 H1 t v _=>z σ G1 H1 t.st2) q⟩⟩
theorem Abm{x f:Str}{i:Nat}{val:Expr}{A:E2 Rv}{cs:List Str}{p pos pos':Pos}(hno:∀ c∈cs,NoAttr g.K (g.ca c) f)(hN:X.N[i]? = some x)(hvis:Vis X.env.scope x)(hv:VE2 g W k X val A)
  (hd:(x==("__debug__" : Str))=false:=by decide)(hcd:(x==("__classdict__" : Str))=false:=by decide)(hs:swapsWith val (some (.Attribute (.Name x p) f pos')) pos.line X.env=pure false:=by rfl) :
  VS2 g W k X (.Assign [.Attribute (.Name x p) f pos'] val pos) (Jz cs f i A) :=
 ⟨Du hv.mon,fun c=>PS.imp (Sy g.K (pe_var hN hvis hd hcd) ((F0 hv).run c) hs c.K) fun D σ H ⟨G,e,γ,sr,gm,q⟩=>⟨G,e,γ,sr,gm,(F0 hv).mon _ _ _ _ (fun o e1 γ1 z=>by
  cases o with
  | er x=>exact fun cls d G' H' t xo=>z cls d σ G' H' t.st2 xo
  | v r =>
   cases r with
   | slot j=>exact z.elim
   | fresh d=>exact z.elim
   | val dv =>
    intro G1 H1 t1 v ok
    dsimp only at z
    split at z
    ·rename_i b q3
     split at z
     ·rename_i cn fs q4
      obtain ⟨hc,hl,z⟩:=z
      have sl:=t1.sr.slot i
      rw [q3] at sl
      obtain ⟨v',hp,ev'⟩:=sl
      have ev':v'=.ref b:=ev'
      subst ev'
      obtain ⟨n,ow,nr⟩:=t1.gm.at_ b _ (Im q4)
      obtain ⟨dx,vs,ha,rf,io⟩:=id ow
      have hn:=hno cn (List.contains_iff_mem.mp hc)
      refine ⟨.ref b,hp,b,_,dx,vs,rfl,ha,io.1,hn,by rw [rf.len]; exact hl,?_⟩
      refine z σ G1 _ (t1.st2.put (d':=.ins cn (Bl f dv fs)) (o:=.ins (g.ca cn) dx (putF f v vs)) q4 ⟨dx,_,upd_same,rf.put ok.1,io.1,fun y hy=>?_⟩ rfl)
      rcases Oa hy with z | ⟨z,hz⟩
      ·rw [z]; exact hn
      ·exact io.2 (y.1,z) hz
     ·exact z.elim
    ·exact z.elim) q⟩⟩
theorem Aoo{o ix val:Expr}{O Ix Vv:E2 Rv}{pos pos':Pos}(ho:VE2 g W k X o O)(hi:VE2 g W k X ix Ix)(hv:VE2 g W k X val Vv)
  (hs:swapsWith val (some (.Subscript o ix pos')) pos.line X.env=pure false:=by rfl) :
  VS2 g W k X (.Assign [.Subscript o ix pos'] val pos) (O0 Lb O Ix Vv) :=
 ⟨Ds ho.mon hi.mon hv.mon,fun c=>PS.imp (ps_dput c.hu (ho.run c) ((F0 hi).run c) ((F0 hv).run c) hs) fun D σ H ⟨G,e,γ,sr,gm,q⟩=>⟨G,e,γ,sr,gm,(F0 hv).mon _ _ _ _ (fun o e1 γ1 z=>by
  cases o with
  | er x=>exact fun cls d G' H' t xo=>z cls d σ G' H' t.st2 xo
  | v r =>
   cases r with
   | slot j=>exact z.elim
   | fresh d=>exact z.elim
   | val dv =>
    intro G1 H1 t1 vv okv
    refine ⟨G1,e1,γ1,t1.sr,t1.gm,ho.mon _ _ _ _ (fun o e2 γ2 z=>?_) z⟩
    cases o with
    | er x=>exact fun cls d G' H' t xo=>z cls d σ G' H' (t1.trans t).st2 xo
    | v r =>
     intro G2 H2 t2 x okx
     refine ⟨G2,e2,γ2,t2.sr,t2.gm,(F0 hi).mon _ _ _ _ (fun o e3 γ3 z=>?_) z⟩
     cases o with
     | er x=>exact fun cls d G' H' t xo=>z cls d σ G' H' ((t1.trans t2).trans t).st2 xo
     | v r3 =>
      cases r3 with
      | slot j=>exact z.elim
      | fresh d=>exact z.elim
      | val ix =>
       intro G3 H3 t3 iv oki
       dsimp only at z
       cases q1:Hy r e2 with
       | none=>rw [q1] at z; exact z.elim
       | some b =>
        rw [q1] at z
        dsimp only at z
        cases q2:γ3.lookup b with
        | none=>rw [q2] at z; exact z.elim
        | some d0 =>
         rw [q2] at z
         dsimp only at z
         cases q3:Lb d0 ix dv with
         | none=>rw [q3] at z; exact z.elim
         | some d' =>
          rw [q3] at z
          obtain ⟨kd,z⟩:=z
          have ex:x=.ref b:=Abj t2.sr okx.1 q1
          subst ex
          have tt:=((t1.trans t2).trans t3).st2
          obtain ⟨_,ow,_⟩:=tt.gm.at_ b d0 (Im q2)
          exact Aga G3 H3 b d0 ix dv iv vv d' (fun H4=>D.nx σ H4) ow oki.1 (Rep.mono (t2.trans t3).le okv.1) q3 fun o' on=>z σ G3 _ (tt.put q2 on kd)) q⟩⟩
theorem Aop{o ix:Expr}{O Ix:E2 Rv}{pos pos':Pos}(ho:VE2 g W k X o O)(hi:VE2 g W k X ix Ix) :
  VS2 g W k X (.Delete [.Subscript o ix pos'] pos) (O3 O Ix) :=
 ⟨Dt ho.mon hi.mon,fun c=>PS.imp (ps_ddel (ho.run c) ((F0 hi).run c)) fun D σ H ⟨G,e,γ,sr,gm,q⟩=>⟨G,e,γ,sr,gm,ho.mon _ _ _ _ (fun o e2 γ2 z=>by
  cases o with
  | er x=>exact fun cls d G' H' t xo=>z cls d σ G' H' t.st2 xo
  | v r =>
   intro G2 H2 t2 x okx
   refine ⟨G2,e2,γ2,t2.sr,t2.gm,(F0 hi).mon _ _ _ _ (fun o e3 γ3 z=>?_) z⟩
   cases o with
   | er x=>exact fun cls d G' H' t xo=>z cls d σ G' H' (t2.trans t).st2 xo
   | v r3 =>
    cases r3 with
    | slot j=>exact z.elim
    | fresh d=>exact z.elim
    | val ix =>
     intro G3 H3 t3 iv oki
     dsimp only at z
     cases q1:Hy r e2 with
     | none=>rw [q1] at z; exact z.elim
     | some b =>
      rw [q1] at z
      dsimp only at z
      cases q2:γ3.lookup b with
      | none=>rw [q2] at z; exact z.elim
      | some d0 =>
       rw [q2] at z
       dsimp only at z
       cases q3:O1 d0 ix with
       | none=>rw [q3] at z; exact z.elim
       | some d' =>
        rw [q3] at z
        have ex:x=.ref b:=Abj t2.sr okx.1 q1
        subst ex
        have tt:=(t2.trans t3).st2
        obtain ⟨_,ow,_⟩:=tt.gm.at_ b d0 (Im q2)
        cases d0 <;> cases ix <;> try cases q3
        rename_i kvs ks
        simp only [O1] at q3
        by_cases cc:(kvs.any fun kv=>decide (kv.1=ks))=true
        ·rw [if_pos cc] at q3
         cases q3
         obtain ⟨us,hp,rp⟩:=ow
         have ok1:iv=.str (S ks)/\OkS ks:=oki.1
         refine ⟨b,us,.inr (S ks),rfl,hp,ok1.1,?_,?_⟩
         ·rw [← valV_any,rp.anyK]
          exact cc
         ·exact z σ G3 _ (tt.put q2 ⟨_,upd_same,rp.dropK ks⟩ rfl)
        ·rw [if_neg cc] at q3; cases q3) q⟩⟩
end
section
variable{P:Program}{mg:Str->Option Value}{base:Heap}{g:Gm}{j:Nat}{f:Addr}{fd:FuncData}{ps:List Str}{F:E2 Rv}
theorem Abn{np n:Nat}{B:W2}(mB:Mon B){vs:List V}{H:Hp}{Q:VK}{E:XK}(h:sp2 g (By np n B) vs H Q E):En g np (By np n B) vs H Q E:=by
 obtain ⟨G,as,γ,ok,sr,gm,h⟩:=h
 refine ⟨?_,G,as,γ,ok,sr,gm,h⟩
 have h1:=h.1
 rw [← h1,sr.len,List.length_map]
theorem O4{CXa:CXT}{np n:Nat}{B:W2}(mB:Mon B)(Fk:FnG P g.w g.K mg base CXa j f fd ps (En g np (By np n B)))(hb:Binds g.K fd ps []):FnK P g.w g.K mg base CXa j f [] (sp2 g (By np n B)):=by
 intro A outer s H us ws vs zs Q E hr e0 rv rz hl hs
 have ez:zs=[]:=by
  have:=rz.length
  rw [hl] at this
  exact List.eq_nil_of_length_eq_zero this
 subst ez
 rw [List.append_nil] at hs
 have h2:=Abn mB hs
 exact Fk.raw hb .nil A outer s H us vs Q E hr e0 rv (show En g np (By np n B) (vs++[]) H Q E by rw [List.append_nil]; exact h2)
theorem Ba{np n:Nat}{B:W2}(m:Mon B):Ah (By np n B):=fun e γ P P' h q=>⟨q.1,m _ _ _ _ (fun o e' γ' z=>by
 cases o with
 | er x=>exact h _ _ _ z
 | c c =>
  cases c with
  | nx=>exact h _ _ _ z
  | bk=>exact z
  | ct=>exact z
  | rt r =>
   revert z
   dsimp only
   cases Fg r e' with
   | ok r' e2=>exact fun z=>h _ _ _ z
   | er x e2=>exact fun z=>z
   | no=>exact fun z=>z) q.2⟩
end
def Df2(P:Program)(mg:Str->Option Value)(base:Heap)(g:Gm)(x:Str)(j:Nat)(F:E2 Rv):Prop :=
 Ah F/\∃ f,FnK P g.w g.K mg base (L2.CX P g.w) j f [] (sp2 g F)/\mg x=some (.ref f)/\PySem.W.keepIn g.K (.ref f)=true
def Uu(P:Program)(mg:Str->Option Value)(base:Heap)(g:Gm)(m:Str)(j:Nat)(T:Str->Option (E2 Rv)):Prop :=
 ∀ c F,T c=some F->Ah F/\∃ f,Cls g.K (g.ca c)/\Meth g.K (g.ca c) m f/\FnK P g.w g.K mg base (L2.CX P g.w) j f [] (sp2 g F)
def Q6(P:Program)(mg:Str->Option Value)(base:Heap)(g:Gm)(j:Nat)(T:Str->Option (E2 Rv)):Prop :=
 ∀ c F,T c=some F->Ah F/\∃ f,PySem.W.findIn g.K (.ref (g.ca c)) "__setitem__" = some (some (.ref f))/\PySem.W.isFn g.K (.ref f)=true/\PySem.W.noSeq g.K (g.ca c)=true/\FnK P g.w g.K mg base (L2.CX P g.w) j f [] (sp2 g F)
def Mk2(P:Program)(mg:Str->Option Value)(base:Heap)(g:Gm)(x c:Str)(j:Nat)(F:E2 Rv):Prop :=
 Ah F/\∃ f,mg x=some (.ref (g.ca c))/\Mk g.K (g.ca c) f/\Cls g.K (g.ca c)/\FnK P g.w g.K mg base (L2.CX P g.w) j f [] (sp2 g F)
section
variable{g:Gm}{W:WX}{k:Nat}{X:Cx}{σ:L2.St}{G H G1 H1:Hp}{e e1:Ve}{γ γ1:Gh}
theorem O5(gm:Gam g G H σ e γ){rs:List Rv}{vs:List V}(rv:RvsOk g G1 H1 σ e1 H rs vs):∀ (i:Nat) d p,rs[i]? = some (.fresh d)->vs[i]? = some (.ref p)->¬ InG γ p:=fun i d p hr hv m=>by
 obtain ⟨v,h1,ok⟩:=rv.at hr
 rw [hv] at h1
 cases h1
 obtain ⟨p',ev,_,_,h0,_⟩:=ok
 cases ev
 obtain ⟨o,ho,_⟩:=gm.there m
 rw [ho] at h0
 cases h0
def call2(F:E2 Rv)(A:M (List Rv)):E2 Rv:=Bn (liftM A) (Iq F)
theorem Dx{F:E2 Rv}{A:M (List Rv)}(m:Ah F):Ah (call2 F A):=Fn (A8 _) fun _=>Ox m _
theorem Aoq{F:E2 Rv}{A:M (List Rv)}{σ:L2.St}{H:Hp}{Q:VK}(mF:Ah F)(h:TV2 g W (call2 F A) σ H Q):TVA g W A σ H fun vs H1=>sp2 g F vs H1 Q (fun cls d H'=>W cls d σ H'):=by
 obtain ⟨G,e,γ,sr,gm,h⟩:=h
 refine ⟨G,e,sr,?_⟩
 unfold call2 Bn liftM at h
 revert h
 cases A e with
 | no=>exact fun h=>h
 | er x e1=>exact fun h cls d G' H' t xo=>h cls d G' H' (t.tr2 gm) xo
 | ok rs e1=>exact fun h G1 H1 t1 vs rv=>Q1 mF sr (t1.tr2 gm) rv (O5 gm rv) h
theorem Abo{x:Str}{j:Nat}{F:E2 Rv}{ex:Expr}{es:List Expr}{A:M (List Rv)}{p pos:Pos}(d:Df2 X.prog X.mg X.base g x j F)(hj:j<=k)(hg:Gl X x)(ha:VA g W k X (ex::es) A)
  (hdb:(x==("__debug__" : Str))=false:=by decide)(he:starEach (ex::es) X.env=(false,eval ex X.env)::starEach es X.env:=by rfl)(hpl:(backTo pos (starEach es X.env)).any (·.1)=false:=by rfl):VE2 g W k X (.Call (.Name x p) (ex::es) [] pos) (call2 F A):=by
 refine ⟨Dx d.1,fun c=>?_⟩
 obtain ⟨mF,f,Fk,hm,hk⟩:=d
 obtain ⟨gK,gw,ca,gT,gs,gn⟩:=g
 obtain rfl:X.K=gK:=c.K
 obtain rfl:X.w=gw:=c.w
 exact PE.imp (Tg (E:=fun σ cls d H'=>W cls d σ H') Fk (c.room.mono hj) hg hm hk (fun σ=>passAt c.tk σ) (ha.run c) hdb he hpl) fun σ H Q q=>Aoq mF q
def O6(T:Str->Option (E2 Rv))(m:Str)(A:M (List Rv))(o:Rv):E2 Rv:=fun e γ P=>match Fp o e γ with
 | some (.ins c fs)=>(fs.lookup m).isNone=true/\(match T c with
  | some F=>Bn (liftM A) (fun rs=>Iq F (o::rs)) e γ P
  | none=>False)
 | _=>False
def Gj(T:Str->Option (E2 Rv))(m:Str)(O:M Rv)(A:M (List Rv)):E2 Rv:=Bn (liftM O) (O6 T m A)
theorem Abp{T:Str->Option (E2 Rv)}{m:Str}{A:M (List Rv)}{o:Rv}(mT:∀ c F,T c=some F->Ah F):Ah (O6 T m A o):=fun e γ P P' h q=>by
 unfold O6 at q ⊢
 split at q
 ·rename_i c fs hd
  refine ⟨q.1,?_⟩
  have q2:=q.2
  cases qT:T c with
  | none=>rw [qT] at q2; exact q2.elim
  | some F =>
   rw [qT] at q2
   exact Fn (A8 A) (fun rs=>Ox (mT c F qT) _) _ _ _ _ h q2
 ·exact q.elim
theorem Aor{T:Str->Option (E2 Rv)}{m:Str}{O:M Rv}{A:M (List Rv)}{σ:L2.St}{H:Hp}{Q:VK}(mT:∀ c F,T c=some F->Ah F)(h:TV2 g W (Gj T m O A) σ H Q) :
  tMethS (fun C sp=>∃ c F,T c=some F/\C=g.ca c/\sp=sp2 g F) m (fun σ cls d H'=>W cls d σ H') (TV g W O) (TVA g W A) σ H Q:=by
 obtain ⟨G,e,γ,sr,gm,h⟩:=h
 refine ⟨G,e,sr,?_⟩
 unfold Gj Bn liftM at h
 revert h
 cases O e with
 | no=>exact fun h=>h
 | er x e1=>exact fun h cls d G' H' t xo=>h cls d G' H' (t.tr2 gm) xo
 | ok o e1 =>
  intro h G1 H1 t1 x ok1
  have t1':=t1.tr2 gm
  dsimp only at h
  unfold O6 at h
  split at h
  ·rename_i c fs hd
   obtain ⟨hl,h⟩:=h
   cases qT:T c with
   | none=>rw [qT] at h; exact h.elim
   | some F =>
    rw [qT] at h
    obtain ⟨a,dx,us,ev,ha,rf,io⟩:=(Q5 t1.sr t1'.gm ok1 hd).ins t1.sr.bs
    refine ⟨a,_,dx,us,_,ev,ha,rf.lookN (Option.isNone_iff_eq_none.mp hl),⟨c,F,qT,rfl,rfl⟩,G1,e1,t1.sr,?_⟩
    unfold Bn liftM at h
    revert h
    cases A e1 with
    | no=>exact fun h=>h
    | er x e2=>exact fun h cls d G' H' t xo=>h cls d G' H' ((t1.trans t).tr2 gm) xo
    | ok rs e2 =>
     intro h G2 H2 t2 vs rv
     have rv2:=Yl t1.dom (ok1.tr t2) (Ym ok1) rv
     exact Q1 (mT c F qT) sr ((t1.trans t2).tr2 gm) rv2 (O5 gm rv2) h
  ·exact h.elim
theorem Uv{pl:Sem Bool}{T:Str->Option (E2 Rv)}{m:Str}{j:Nat}{o ex:Expr}{es:List Expr}{O:M Rv}{A:M (List Rv)}{apos pos:Pos}(tab:Uu X.prog X.mg X.base g m j T)(hj:j<=k)(ho:VE g W k X o O)(ha:VA g W k X (ex::es) A)
  (hst:starEach (ex::es) X.env=(false,eval ex X.env)::starEach es X.env:=by rfl)(hpl:(backTo pos (starEach es X.env)).any (·.1)=false:=by rfl)
  (ht:eval (.Call (.Attribute o m apos) (ex::es) [] pos) X.env=(do
   let ov ← eval o X.env
   standAt apos.atName
   let (f,first) ← holding [ov] (getMethod ov m pl)
   callWith pos f first (backTo pos (starEach (ex::es) X.env)) (backToKw pos (keywordEach [] X.env))):=by rfl):VE2 g W k X (.Call (.Attribute o m apos) (ex::es) [] pos) (Gj T m O A):=by
 refine ⟨Fn (A8 _) fun _=>Abp fun c F h=>(tab c F h).1,fun cd=>?_⟩
 obtain ⟨gK,gw,ca,gT,gs,gn⟩:=g
 obtain rfl:X.K=gK:=cd.K
 obtain rfl:X.w=gw:=cd.w
 refine PE.imp (pe_methS (pl:=pl) (T:=fun C sp=>∃ c F,T c=some F/\C=ca c/\sp=sp2 ⟨X.K,X.w,ca,gT,gs,gn⟩ F) (E:=fun σ cls d H'=>W cls d σ H') (ho.run cd) (fun C sp ⟨c,F,hT,eC,es⟩=>?_) (cd.room.mono hj) (fun σ=>passAt cd.tk σ) (ha.run cd) hst hpl ht) fun σ H Q q=>Aor (fun c F h=>(tab c F h).1) q
 obtain ⟨_,f,h1,h2,h3⟩:=tab c F hT
 exact ⟨f,eC ▸ h1,eC ▸ h2,es ▸ h3⟩
end
section
open PySem.W
variable{M:Model}{A:Around}{E:Value->Shared->Prop}{s:Shared}{K:Frag}{x C f:Addr}{ox:Obj}{od:Option Obj}{i v:Value}
theorem Aos{Q:Unit->Shared->Prop}(X:K.In s.heap)(I:InstAt s.heap x ox C od)(hq:noSeq K C=true)(hs:findIn K (.ref C) "__setitem__" = some (some (.ref f)))(hf:isFn K (.ref f)=true)
  (h:wpAny M A (call (.ref f) [.ref x,i,v]) (fun _ s'=>Q () s') E s):wpAny M A (setItem (.ref x) i v) Q E s:=by
 unfold setItem sequenceKey
 refine wpAny_holding (wpAny_bind (wpAny_bind (I.type.here ?_)))
 refine wpAny_bind ((anyM_none X hq).here ?_)
 rw [if_pos (show (!false)=true from rfl)]
 exact wpAny_pure (wpAny_bind (special_fn X I hs (beq_iff_eq.mp hf) (wpAny_mono h (fun _ _ z=>wpAny_pure z) fun _ _ z=>z)))
end
def sPutO(T:Addr->Sp->Prop)(E:L2.St->XK)(td ty tv:TE):TS:=fun D σ H=>tv σ H fun v H1=>td σ H1 fun x H2=>ty σ H2 fun y H3=>∃ a C dx fs sp,x=.ref a/\H3 a=some (.ins C dx fs)/\T C sp/\sp [.ref a,y,v] H3 (fun _ H4=>D.nx σ H4) (E σ)
def SetT(X:Cx)(k:Nat)(C:Addr)(sp:Sp):Prop:=∃ f,PySem.W.findIn X.K (.ref C) "__setitem__" = some (some (.ref f))/\PySem.W.isFn X.K (.ref f)=true/\PySem.W.noSeq X.K C=true/\FnK X.prog X.w X.K X.mg X.base (L2.CX X.prog X.w) k f [] sp
theorem Aot{X:Cx}{k:Nat}{o i value:Expr}{pos pos':Pos}{td ty tv:TE}{T:Addr->Sp->Prop}{E:L2.St->XK}(tab:∀ C sp,T C sp->SetT X k C sp)(rm:Rm k X.A)(px:∀ σ,PassesAt (L2.CX X.prog X.w) X σ (E σ))(ho:PE X o td)(hi:PE X i ty)(hv:PE X value tv)
  (hs:swapsWith value (some (.Subscript o i pos')) pos.line X.env=pure false):PS X (.Assign [.Subscript o i pos'] value pos) (sPutO T E td ty tv):=by
 refine ⟨fun pins s σ H D I h=>?_⟩
 refine wpAny_Assign_Subscript (thn (hv.run pins s σ H _ I h) fun r s1 ⟨v,H1,I1,rv,q1⟩=>thn (ho.run pins s1 σ H1 _ I1 q1) fun u s2 ⟨x,H2,I2,rx,q2⟩=>thn (hi.run pins s2 σ H2 _ I2 q2) fun iv s3 ⟨y,H3,I3,ry,a,C,dx,fs,sp,ex,ha,hT,q3⟩=>?_) hs
 subst ex
 obtain rfl:u=Value.ref a:=rx
 obtain ⟨f,h1,h2,h3,Fk⟩:=tab C sp hT
 obtain ⟨mA,J,_⟩:=ins_get I3.hok ha
 obtain ⟨od,J,_⟩:=J.look
 refine Aos I3.kIn J h3 h1 h2 ?_
 refine wpAny_mono (wpAny_call (Mf (us:=[.ref a,iv,r]) (vs:=[.ref a,y,v]) Fk rm (px σ) I3 (.cons rfl (.cons ry (.cons rv .nil))) .nil rfl (by rw [List.append_nil]; exact q3))) (fun r s' hr=>?_) fun _ _ z=>z
 obtain ⟨w',H4,I4,_,q4⟩:=hr
 exact ⟨σ,H4,I4,q4⟩
def Hz(T:Str->Option (E2 Rv))(O Ix V:M Rv):W2:=fun e γ P=>liftM (Ad V) e γ fun o e1 γ1=>match o with
 | .er x=>P (.er x) e1 γ1
 | .v v=>liftM O e1 γ1 fun o e2 γ2=>(match o with
  | .er x=>P (.er x) e2 γ2
  | .v r=>liftM (Ad Ix) e2 γ2 fun o e3 γ3=>(match o with
   | .er x=>P (.er x) e3 γ3
   | .v ix=>(match v,ix,Fp r e3 γ3 with
    | .val _,.val _,some (.ins c _)=>(match T c with
     | some F=>Iq F [r,ix,v] e3 γ3 fun o e4 γ4=>(match o with
      | .er x=>P (.er x) e4 γ4
      | .v _=>P (.c .nx) e4 γ4)
     | none=>False)
    | _,_,_=>False)))
theorem Dy{T:Str->Option (E2 Rv)}{O Ix V:M Rv}(mT:∀ c F,T c=some F->Ah F):Mon (Hz T O Ix V):=fun e γ P P' h q=>A8 _ _ _ _ _ (fun o e1 γ1 z=>by
 cases o with
 | er x=>exact h _ _ _ z
 | v v =>
  refine A8 _ _ _ _ _ (fun o e2 γ2 z=>?_) z
  cases o with
  | er x=>exact h _ _ _ z
  | v r =>
   refine A8 _ _ _ _ _ (fun o e3 γ3 z=>?_) z
   cases o with
   | er x=>exact h _ _ _ z
   | v ix =>
    dsimp only at z ⊢
    split at z
    ·rename_i c fs hd _ _
     cases qT:T c with
     | none=>rw [qT] at z; exact z.elim
     | some F =>
      rw [qT] at z
      refine Ox (mT c F qT) _ _ _ _ _ (fun o e4 γ4 z=>?_) z
      cases o <;> exact h _ _ _ z
    ·exact z) q
section
variable{g:Gm}{W:WX}{k:Nat}{X:Cx}
theorem Abq{T:Str->Option (E2 Rv)}{j:Nat}{o ix val:Expr}{O Ix Vv:M Rv}{pos pos':Pos}(tab:Q6 X.prog X.mg X.base g j T)(hj:j<=k)(ho:VE g W k X o O)(hi:VE g W k X ix Ix)(hv:VE g W k X val Vv)
  (hs:swapsWith val (some (.Subscript o ix pos')) pos.line X.env=pure false:=by rfl):VS2 g W k X (.Assign [.Subscript o ix pos'] val pos) (Hz T O Ix Vv):=by
 refine ⟨Dy fun c F h=>(tab c F h).1,fun cd=>?_⟩
 obtain ⟨gK,gw,ca,gT,gs,gn⟩:=g
 obtain rfl:X.K=gK:=cd.K
 obtain rfl:X.w=gw:=cd.w
 refine PS.imp (Aot (T:=fun C sp=>∃ c F,T c=some F/\C=ca c/\sp=sp2 ⟨X.K,X.w,ca,gT,gs,gn⟩ F) (E:=fun σ cls d H'=>W cls d σ H') (fun C sp ⟨c,F,hT,eC,es⟩=>?_) (cd.room.mono hj) (fun σ=>passAt cd.tk σ) (ho.run cd) ((Am hi).run cd) ((Am hv).run cd) hs) fun D σ H ⟨G,e,γ,sr,gm,q⟩=>?_
 ·obtain ⟨_,f,h1,h2,h3,h4⟩:=tab c F hT
  exact ⟨f,eC ▸ h1,h2,eC ▸ h3,es ▸ h4⟩
 ·refine ⟨G,e,sr,?_⟩
  unfold Hz liftM at q
  revert q
  cases Ad Vv e with
  | no=>exact fun h=>h
  | er x e1=>exact fun h cls d G' H' t xo=>h cls d σ G' H' (t.tr2 gm).st2 xo
  | ok v e1 =>
   intro q G1 H1 t1 vv okv
   refine ⟨G1,e1,t1.sr,?_⟩
   dsimp only at q
   revert q
   cases O e1 with
   | no=>exact fun h=>h
   | er x e2=>exact fun h cls d G' H' t xo=>h cls d σ G' H' ((t1.trans t).tr2 gm).st2 xo
   | ok r e2 =>
    intro q G2 H2 t2 x okx
    refine ⟨G2,e2,t2.sr,?_⟩
    dsimp only at q
    revert q
    cases Ad Ix e2 with
    | no=>exact fun h=>h
    | er x e3=>exact fun h cls d G' H' t xo=>h cls d σ G' H' (((t1.trans t2).trans t).tr2 gm).st2 xo
    | ok ixr e3 =>
     intro q G3 H3 t3 iv oki
     dsimp only at q
     have t:=(t1.trans t2).trans t3
     have tt:=t.tr2 gm
     split at q
     ·rename_i dv di c fs hd
      cases qT:T c with
      | none=>rw [qT] at q; exact q.elim
      | some F =>
       rw [qT] at q
       have okr:=(okx.h0 t1.dom).tr t3
       obtain ⟨a,dx,us,ev,ha,rf,io⟩:=(Q5 tt.sr tt.gm okr hd).ins tt.sr.bs
       refine ⟨a,_,dx,us,_,ev,ha,⟨c,F,qT,rfl,rfl⟩,?_⟩
       rw [← ev]
       have rv:RvsOk ⟨X.K,X.w,ca,gT,gs,gn⟩ G3 H3 σ e3 H [r,.val di,.val dv] [x,iv,vv]:=by
        refine ⟨x,_,rfl,okr,⟨iv,_,rfl,oki,⟨vv,_,rfl,Rep.mono (t2.trans t3).le okv,rfl,fun _ _ z=>nomatch z⟩,fun _ _ z=>nomatch z⟩,fun d p er ep d' u m z=>?_⟩
        rcases List.mem_cons.mp m with y | y
        ·cases y
        ·rcases List.mem_cons.mp y with y | y
         ·cases y
         ·cases y
       refine Q1 ((tab c F qT).1) sr tt rv (O5 gm rv) (Ox (tab c F qT).1 _ _ _ _ _ (fun o e4 γ4 z=>?_) q)
       cases o with
       | er x=>exact fun cls d G' H' t4 xo=>z cls d σ G' H' t4.st2 xo
       | v _=>exact fun G' H' t4 v _=>z σ G' H' t4.st2
     ·exact q.elim
end
def Q7(rs:List Rv)(e:Ve)(P:Og Rv->Ve->Gh->Prop):Og Rv->Ve->Gh->Prop:=fun o as' γ'=>match o,as' with
 | .er x,_::as'=>P (.er x) (A6 rs as' e) γ'
 | .v (.val .non),.bo (.ins c fs)::as'=>∀ b,¬ InG γ' b->P (.v (.val (.con (.ref b)))) (A6 rs as' e) ((b,.ins c fs)::γ')
 | _,_=>False
def O7(c:Str)(F:E2 Rv)(rs:List Rv):E2 Rv:=fun e γ P=>Bp rs=true/\match A9 rs e with
 | some as=>F (.bo (.ins c [])::as) γ (Q7 rs e P)
 | none=>False
def J0(c:Str)(F:E2 Rv)(A:M (List Rv)):E2 Rv:=Bn (liftM A) (O7 c F)
theorem Abr{c:Str}{F:E2 Rv}(m:Ah F)(rs:List Rv):Ah (O7 c F rs):=fun e γ P P' h q=>by
 unfold O7 at q ⊢
 refine ⟨q.1,?_⟩
 have q2:=q.2
 revert q2
 cases A9 rs e with
 | none=>exact fun q=>q
 | some as =>
  refine m _ _ _ _ fun o as' γ' z=>?_
  unfold Q7 at z ⊢
  split at z
  ·exact h _ _ _ z
  ·exact fun b nb=>h _ _ _ (z b nb)
  ·exact z.elim
section
variable{g:Gm}{W:WX}{k:Nat}{X:Cx}
theorem Aou{c:Str}{F:E2 Rv}{rs:List Rv}{vs:List V}{σ:L2.St}{G H G1 H1:Hp}{e e1:Ve}{γ γ1:Gh}{Q:VK}(mF:Ah F)(hc:Cls g.K (g.ca c))(sr:SR g G H σ e)(t1:Tr2 g σ G H e γ G1 H1 e1 γ1)(rv:RvsOk g G1 H1 σ e1 H rs vs)
  (nf:∀ (i:Nat) d p,rs[i]? = some (.fresh d)->vs[i]? = some (.ref p)->¬ InG γ1 p)
  (h1:O7 c F rs e1 γ1 (Pst2 g W σ G H e γ fun r G' H' e' γ'=>∀ v,RvOk2 g G' H' σ e' γ' H r v->Q v H')):∀ x dx,H1 x=none->H1 dx=none->dx≠x ->
   sp2 g F (.ref x::vs) (upd (upd H1 dx (.own x)) x (.ins (g.ca c) dx [])) (fun v H2=>v=.non/\Q (.ref x) H2) (fun cls d H'=>W cls d σ H'):=by
 intro x dx nx ndx ne
 have g1:=Grow.lay (o:=HO.own x) t1.sr.bs ndx
 have nx2:upd H1 dx (.own x) x=none:=by rw [upd_ne (fun z=>ne z.symm)]; exact nx
 have g2:=g1.trans (Grow.lay (o:=HO.ins (g.ca c) dx []) g1.bs nx2)
 have tg:=g2.tr t1.sr
 have t2:=t1.trans (tg.tr2 t1.gm)
 have hx0:H x=none:=t1.dom x nx
 have rvx:RvOk g G1 (upd (upd H1 dx (.own x)) x (.ins (g.ca c) dx [])) σ e1 H (.fresh (.ins c [])) (.ref x) :=
  ⟨x,rfl,t1.sr.bs.hn nx,⟨dx,[],upd_same,rfl,hc,fun q hq=>nomatch hq⟩,hx0,fun i r=>(t1.sr.root r).2 nx⟩
 have rv2:RvsOk g G1 (upd (upd H1 dx (.own x)) x (.ins (g.ca c) dx [])) σ e1 H (.fresh (.ins c [])::rs) (.ref x::vs):=by
  refine ⟨.ref x,vs,rfl,rvx,rv.tr tg,fun d p er ep d' u m z=>?_⟩
  cases ep
  have key:∀ {rs:List Rv} {vs:List V},RvsOk g G1 H1 σ e1 H rs vs->(Rv.fresh d',u)∈rs.zip vs->∃ p',u=.ref p'/\H1 p'≠none:=by
   intro rs
   induction rs with
   | nil=>intro vs _ m; simp at m
   | cons r rs ih =>
    intro vs h m
    obtain ⟨v,t,rfl,a,b,_⟩:=h
    rcases List.mem_cons.mp m with y | y
    ·cases y
     obtain ⟨p',ev,_,ow,_⟩:=a
     obtain ⟨ob,ho,_⟩:=ow.there
     exact ⟨p',ev,by rw [ho]; exact fun z=>nomatch z⟩
    ·exact ih b y
  obtain ⟨p',ep',hp'⟩:=key rv m
  rw [z] at ep'
  cases ep'
  exact hp' nx
 obtain ⟨o,h1⟩:=h1
 cases qa:A9 rs e1 with
 | none=>rw [qa] at h1; exact h1.elim
 | some as =>
  rw [qa] at h1
  have qa2:A9 (.fresh (.ins c [])::rs) e1=some (.bo (.ins c [])::as):=by
   unfold A9
   rw [qa]
   rfl
  have o2:Bp (.fresh (.ins c [])::rs)=true:=o
  obtain ⟨sra,oka,rts⟩:=Md t2.sr rv2 o2 qa2
  have nxg:¬ InG γ1 x:=fun m=>by
   obtain ⟨ob,ho,_⟩:=t1.gm.there m
   rw [ho] at nx; cases nx
  refine ⟨G1,.bo (.ins c [])::as,γ1,oka,sra,⟨t2.gm.nd,t2.gm.kd,fun b u m=>⟨(t2.gm.at_ b u m).1,(t2.gm.at_ b u m).2.1,fun i r=>?_⟩⟩,mF _ _ _ _ (fun out as2 γ' z=>?_) h1⟩
  ·rcases rts i b r with ⟨j,_,rj⟩ | ⟨d,hr,_,_⟩
   ·exact (t2.gm.at_ b u m).2.2 j rj
   ·have hv:=r.2
    rw [List.getElem?_map] at hv
    cases qv:(V.ref x::vs)[i]? with
    | none=>rw [qv] at hv; cases hv
    | some v =>
     rw [qv] at hv
     cases hv
     cases i with
     | zero=>cases qv; exact nxg ⟨u,m⟩
     | succ i=>exact nf i d b hr qv ⟨u,m⟩
  ·have trc:∀ {G2 H2:Hp} {a0:Sl} {as':List Sl} {γ2:Gh},Tr2 g ((V.ref x::vs).map some) G1 (upd (upd H1 dx (.own x)) x (.ins (g.ca c) dx [])) (.bo (.ins c [])::as) γ1 G2 H2 (a0::as') γ2->Tr2 g σ G H e γ G2 H2 (A6 rs as' e1) γ2:=fun {G2 H2 a0 as' γ2} t3=>by
    have:=Uq t2 rv2 o2 qa2 t3
    unfold A6 at this ⊢
    rw [Tv (fun i z=>by cases z)] at this
    exact this
   unfold Q7 at z
   split at z
   ·exact fun cls d G2 H2 t3 xo=>z cls d G2 H2 (trc t3) xo
   ·rename_i c' fs as'
    intro G2 H2 t3 v nw _
    refine ⟨nw,?_⟩
    have sl:=t3.sr.slot 0
    obtain ⟨p,ep,np,ow⟩:=sl
    cases ep
    have rx:Rt ((V.ref x::vs).map some) (.bo (.ins c' fs)::as') 0 x:=⟨trivial,rfl⟩
    have nxi:¬ InG γ' x:=fun ⟨u,m⟩=>(t3.gm.at_ x u m).2.2 0 rx
    have t4:=trc t3
    have t5:=t4.cell hx0 np ow (fun i r=>(sr.root (t4.ve.rt r)).2 hx0) nxi rfl
    exact z x nxi G2 H2 t5 (.ref x) ⟨(rfl:V.ref x=V.ref x),fun _ _ y=>nomatch y⟩
   ·exact z.elim
theorem Aov{x c:Str}{j:Nat}{F:E2 Rv}{ex:Expr}{es:List Expr}{A:M (List Rv)}{p pos:Pos}(d:Mk2 X.prog X.mg X.base g x c j F)(hj:j+1<=k)(hg:Gl X x)(ha:VA g W k X (ex::es) A)
  (hdb:(x==("__debug__" : Str))=false:=by decide)(he:starEach (ex::es) X.env=(false,eval ex X.env)::starEach es X.env:=by rfl)(hpl:(backTo pos (starEach es X.env)).any (·.1)=false:=by rfl):VE2 g W k X (.Call (.Name x p) (ex::es) [] pos) (J0 c F A):=by
 refine ⟨Fn (A8 _) fun _=>Abr d.1 _,fun cd=>?_⟩
 obtain ⟨mF,f,hm,mk,hc,Fk⟩:=d
 obtain ⟨gK,gw,ca,gT,gs,gn⟩:=g
 obtain rfl:X.K=gK:=cd.K
 obtain rfl:X.w=gw:=cd.w
 refine PE.imp (Yf (E:=fun σ cls d H'=>W cls d σ H') mk Fk (cd.room.mono hj) hg hm (fun σ=>passAt cd.tk σ) (ha.run cd) hdb he hpl) fun σ H Q ⟨G,e,γ,sr,gm,q⟩=>?_
 refine ⟨G,e,sr,?_⟩
 unfold J0 Bn liftM at q
 revert q
 cases A e with
 | no=>exact fun h=>h
 | er x e1=>exact fun h cls d G' H' t xo=>h cls d G' H' (t.tr2 gm) xo
 | ok rs e1 =>
  intro h G1 H1 t1 vs rv
  show ∀ x dx,_
  rw [List.append_nil]
  exact Aou mF hc sr (t1.tr2 gm) rv (O5 gm rv) h
end
def Abt(n:Nat)(F:E2 Rv):Prop:=∀ ns:List Int,ns.length<=n->F [.sh (.scr ns)] [] fun o _ _=>o=.v (.val (.bl true))
theorem Aow{P:Program}{w:World}{K:PySem.W.Frag}{mg:Str->Option Value}{base:Heap}{ca:Str->Addr}{Tb:LT}{f:Addr}{fd:FuncData}{ps:List Str}{j n np N:Nat}{B:W2}(mB:Mon B)
  (F:∀ (sa:Addr) (sn:List Int),FnG P w K mg base (L2.CX P w) j f fd ps (En ⟨K,w,ca,Tb,sa,sn⟩ np (By np N B)))(hp:ps.length=1)(hB:Abt n (By np N B)):FnG P w K mg base CX0 j f fd ps (spT K (Tb.tabs.map Prod.fst) n):=by
 refine ⟨fun vs H Q E ⟨a,ns,ev,_⟩=>by rw [ev,hp]; rfl,fun A outer s H args us vs Q E hr e0 bt rv hs=>?_⟩
 obtain ⟨a,ns,ev,hl,ho,sq,q⟩:=hs
 have he:=hB ns hl
 have key:∃ G:Hp,Bs G H/\Tabs2 Tb.tabs G H/\ScrOk ⟨K,w,ca,Tb,a,ns⟩ G H:=by
  have emp:∀ G:Hp,(∀ p∈Tb.tabs,G p.1=none)->Tabs2 Tb.tabs G H:=fun G hG p hp=>⟨#[],ho _ (List.mem_map.mpr ⟨p,hp,rfl⟩),hG p hp,True.intro,fun pos cv hc=>by cases hc⟩
  have b0:Bs (fun _=>none) H:=⟨(fun a o u z=>nomatch z),(fun a u z=>nomatch z)⟩
  rcases sq with (h | ⟨o,h⟩) | h
  ·refine ⟨fun b=>if b=a then some (.lst (ns.map .int)) else none,⟨fun b o u z=>?_,fun b u z=>?_⟩,emp _ fun p hp=>?_,.inr (.inr (if_pos rfl))⟩
   ·by_cases c:b=a
    ·rw [if_pos c] at z; cases z
    ·rw [if_neg c] at z; cases z
   ·by_cases c:b=a
    ·rw [if_pos c] at z; cases z; rw [c]; exact .inl h
    ·rw [if_neg c] at z; cases z
   ·have t:=ho _ (List.mem_map.mpr ⟨p,hp,rfl⟩)
    rw [if_neg (fun z=>by rw [z,h] at t; cases t)]
  ·exact ⟨_,b0,emp _ fun _ _=>rfl,.inl ⟨o,h⟩⟩
  ·exact ⟨_,b0,emp _ fun _ _=>rfl,.inr (.inl fun H'=>.inr h)⟩
 obtain ⟨G,bs,tb,sc⟩:=key
 have hs2:sp2 ⟨K,w,ca,Tb,a,ns⟩ (By np N B) vs H Q (fun _ _ _=>False):=by
  subst ev
  refine ⟨G,[.sh (.scr ns)],[],rfl,⟨bs,tb,sc,rfl,fun i=>?_,fun i j p r=>?_⟩,⟨List.nodup_nil,(fun _ _ m=>nomatch m),(fun _ _ m=>nomatch m)⟩,Ba mB _ _ _ _ (fun o e' γ' z=>?_) he⟩
  ·match i with
   | 0=>exact ⟨_,rfl,rfl,rfl⟩
   | i+1=>trivial
  ·obtain ⟨r1,_⟩:=r
   match i with
   | 0=>exact r1.elim
   | i+1=>exact r1.elim
  ·subst z
   intro G' H' t v nw _
   rw [show v=.bl true from nw]
   exact q H'
 refine codeAny_mono ((F a ns).run A outer s H args us vs Q (fun _ _ _=>False) hr e0 bt rv (Abn mB hs2)) fun r s' z=>?_
 match r,z with
 | .ok (.ret u),z=>exact z
 | .ok .next,z=>exact z
 | .ok .brk,z=>exact z
 | .ok .cont,z=>exact z
 | .error e,z =>
  obtain ⟨a,B,H',cls,d,_,_,_,_,_,_,_,he⟩:=z
  exact he
theorem D7{C:E2 Bool}{A B:W2}(mc:Ah C)(ma:Mon A)(mb:Mon B):Mon (if2 C A B):=fun e γ P P' h q=>mc _ _ _ _ (fun o e1 γ1 z=>by
  cases o with
  | er x=>exact h _ _ _ z
  | v b =>
   cases b with
   | true=>exact ma _ _ _ _ h z
   | false=>exact mb _ _ _ _ h z) q
theorem D8{F:E2 Rv}(m:Ah F):Mon (ret2 F):=fun e γ P P' h q=>m _ _ _ _ (fun o e1 γ1 z=>by cases o <;> exact h _ _ _ z) q
theorem D9{A:E2 Bool}(m:Ah A):Ah (Hx A):=fun e γ P P' hh q=>m _ _ _ _ (fun o e1 γ1 z=>by cases o <;> exact hh _ _ _ z) q
theorem Ea{f:Str}{A:E2 Rv}(m:Ah A):Ah (Jy f A):=Fn m fun _=>Ut
theorem Eb{T:Str->Option (E2 Rv)}{m:Str}{O:M Rv}{A:M (List Rv)}(mT:∀ c F,T c=some F->Ah F):Ah (Gj T m O A):=Fn (A8 _) fun _=>Abp mT
theorem Ec{c:Str}{F:E2 Rv}{A:M (List Rv)}(m:Ah F):Ah (J0 c F A):=Fn (A8 _) fun _=>Abr m _
def par2W(F:Addr->M Ctl)(A:E2 Rv):W2:=fun e γ P=>A e γ fun o e1 γ1=>match o with
 | .er x=>P (.er x) e1 γ1
 | .v (.val (.con (.ref b)))=>Ak (F b) e1 γ1 P
 | .v _=>False
theorem Ed{F:Addr->M Ctl}{A:E2 Rv}(m:Ah A):Mon (par2W F A):=fun e γ P P' h q=>m _ _ _ _ (fun o e1 γ1 z=>by
 split at z
 ·exact h _ _ _ z
 ·exact B7 _ _ _ _ _ h z
 ·exact z.elim) q
section
variable{g:Gm}{W:WX}{k:Nat}{X:Cx}{i j l:Nat}
theorem J5{st:Stmt}{A:W2}(h:VS2 g W k X st A):VSs2 g W k X [st] A:=⟨h.mon,fun c=>pss_one (h.run c)⟩
theorem Q8{op:CmpOp}{f:D->D->Option Rv}{a b:Expr}{A B:E2 Rv}{pos:Pos}(h:Gg g W k X op f)(ha:VE2 g W k X a A)(hb:VE2 g W k X b B)(hm:behindInMarks op b=false:=by rfl):VT2 g W k X (.Compare a [op] [b] pos) (Ca (Fo f A B)) :=
 let ⟨_,h1,h2⟩:=h; ⟨C0 (Cy ha.mon hb.mon),fun c=>PT.imp (pt_cmpR (h1 c) (ha.run c) (hb.run c) hm) fun σ H Q q=>Aog ha.mon hb.mon h2 (Aa6 (Cy ha.mon hb.mon) q)⟩
theorem Uw{a:Expr}{F:E2 Rv}(h:VE2 g W k X a F)(he:∀ whole,isTrue a X.env whole=(do let v ← whole; standAt a.pos; holding [v] (truthy v)):=by intro _; rfl):VT2 g W k X a (Ca F) :=
 ⟨C0 h.mon,fun c=>PT.imp (pt_truth (h.run c) he) fun σ H Q q=>by
  obtain ⟨G,e,γ,sr,gm,q⟩:=Aa6 h.mon q
  refine ⟨G,e,γ,sr,gm,h.mon _ _ _ _ (fun o e1 γ1 z=>?_) q⟩
  cases o with
  | er x=>exact z
  | v r =>
   intro G' H' t v ok
   obtain ⟨b,ev,hq⟩:=z G' H' t v ok
   subst ev
   exact ⟨b,rfl,hq⟩⟩
end
section
variable{e e1 e2 e3:Ve}{γ:Gh}{P:P2}{A B:W2}
theorem Ez{F:M Ctl}{c:Ctl}(h:F e=.ok c e1)(k:P (.c c) e1 γ):Ak F e γ P:=by
 unfold Ak; rw [h]; exact k
theorem Ux{F:M Ctl}{x:Exn}(h:F e=.er x e1)(k:P (.er x) e1 γ):Ak F e γ P:=by
 unfold Ak; rw [h]; exact k
theorem B4(k:A e γ fun o e1 γ1=>match o with | .c .nx=>B e1 γ1 P | o=>P o e1 γ1):An A B e γ P:=k
theorem J6{F:M Ctl}(h:F e=.ok .nx e1)(k:B e1 γ P):An (Ak F) B e γ P:=by
 unfold An Ak; rw [h]; exact k
theorem Q9{F:M Rv}{r:Rv}(h:F (Bc γ e)=.ok r e1)(hr:bakR r=true)(hb:B3 e e1=true)(k:P (.c .nx) (Cc e e1) γ):M3 (rd2 F) e γ P:=by
 unfold M3 rd2; rw [h]; exact ⟨hr,hb,k⟩
theorem Lm{Q:M Bool}{b:Bool}(h:Q (Bc γ e)=.ok b e1)(hb:B3 e e1=true)(k:(if b=true then A else B) (Cc e e1) γ P):if2 (rdT Q) A B e γ P:=by
 unfold if2 rdT
 rw [h]
 refine ⟨hb,?_⟩
 cases b <;> exact k
theorem Aox{F:M Rv}{d:D}{i:Nat}(h:F (Bc γ e)=.ok (.fresh d) e1)(hr:Cb d=true)(hb:B3 e e1=true)(k:Ak (D4 i (.val d)) (Cc e e1) γ P):Jv i (Bf (rd2 F)) e γ P:=by
 unfold Jv Bf Bn rd2; rw [h]; exact ⟨hr,hb,k⟩
theorem Uy{V:M Rv}{v:Rv}{P:Og Rv->Ve->Gh->Prop}(h:Ad V e=.ok v e1)(k:P (.v v) e1 γ):Bf (liftM V) e γ P:=by
 unfold Ad M.bind at h
 unfold Bf Bn liftM
 cases q:V e with
 | no=>rw [q] at h; cases h
 | er x e'=>rw [q] at h; cases h
 | ok r e' =>
  rw [q] at h
  dsimp only at h ⊢
  rw [h]
  exact k
theorem Aoy{V O Ix:M Rv}{f c:Str}{fs:List (Str×D)}{v ix d0 d':D}{r:Rv}{b:Addr}(hv:Ad V e=.ok (.val v) e1)(ho:O e1=.ok r e2)(hd:Fp r e2 γ=some (.ins c fs))(hf:fs.lookup f=some (.con (.ref b)))(hi:Ad Ix e2=.ok (.val ix) e3)
  (hl:γ.lookup b=some d0)(hu:Lb d0 ix v=some d')(di:Ki d'=true)(k:P (.c .nx) e3 (setG γ b d')):O0 Lb (Jy f (liftM O)) (liftM Ix) (liftM V) e γ P:=by
 unfold O0
 refine Uy hv ?_
 dsimp only
 unfold Jy Bn liftM M0
 rw [ho]
 dsimp only
 rw [hd]
 dsimp only
 rw [hf]
 dsimp only
 refine Uy hi ?_
 have hh:Hy (.val (.con (.ref b))) e2=some b:=rfl
 dsimp only
 rw [hh]
 dsimp only
 rw [hl]
 dsimp only
 rw [hu]
 exact ⟨di,k⟩
theorem Aoz{O Ix:M Rv}{f c:Str}{fs:List (Str×D)}{ix d0 d':D}{r:Rv}{b:Addr}(ho:O e=.ok r e2)(hd:Fp r e2 γ=some (.ins c fs))(hf:fs.lookup f=some (.con (.ref b)))(hi:Ad Ix e2=.ok (.val ix) e3)
  (hl:γ.lookup b=some d0)(hu:O1 d0 ix=some d')(k:P (.c .nx) e3 (setG γ b d')):O3 (Jy f (liftM O)) (liftM Ix) e γ P:=by
 unfold O3
 unfold Jy Bn liftM M0
 rw [ho]
 dsimp only
 rw [hd]
 dsimp only
 rw [hf]
 dsimp only
 refine Uy hi ?_
 have hh:Hy (.val (.con (.ref b))) e2=some b:=rfl
 dsimp only
 rw [hh]
 dsimp only
 rw [hl]
 dsimp only
 rw [hu]
 exact k
theorem Abu{cs:List Str}{f c:Str}{i:Nat}{F:M Rv}{d:D}{fs:List (Str×D)}{b:Addr}(h:F (Bc γ e)=.ok (.fresh d) e1)(hr:Cb d=true)(hb:B3 e e1=true)(hs:(Cc e e1)[i]? = some (.sh (.con (.ref b))))(hl:γ.lookup b=some (.ins c fs))(hc:cs.contains c=true)(hz:fs.length<1000)
  (k:P (.c .nx) (Cc e e1) (setG γ b (.ins c (Bl f d fs)))):Jz cs f i (rd2 F) e γ P:=by
 unfold Jz Bf Bn rd2
 rw [h]
 refine ⟨hr,hb,?_⟩
 show (match (Cc e e1)[i]? with | some (.sh (.con (.ref b)))=>_ | _=>False)
 rw [hs]
 dsimp only
 rw [hl]
 exact ⟨hc,hz,k⟩
theorem Ra{rs:List Rv}{as:List Sl}(h:∀ i,Rv.slot i∈rs->∃ d,e[i]? = some (.sh d)):A6 rs as e=e:=by
 refine List.ext_getElem? fun j=>?_
 unfold A6
 rw [P5,Nat.zero_add]
 cases q:e[j]? with
 | none=>rfl
 | some s =>
  show some _=some _
  congr 1
  cases q2:D6 j rs as with
  | none=>rfl
  | some a =>
   obtain ⟨k,h1,_⟩:=P6 q2
   obtain ⟨d,hd⟩:=h j (List.mem_of_getElem? h1)
   rw [q] at hd
   cases hd
   cases a <;> rfl
theorem Ao0{F:E2 Rv}{rs:List Rv}{as:List Sl}{r:Rv}{γ':Gh}{P:Og Rv->Ve->Gh->Prop}(ho:Bp rs=true)(ha:A9 rs e=some as)(hF:Prm F as γ r γ')(hs:∀ i,Rv.slot i∈rs->∃ d,e[i]? = some (.sh d))(k:P (.v r) e γ'):Iq F rs e γ P:=by
 refine ⟨ho,?_⟩
 rw [ha]
 refine hF _ ?_
 rw [Ra hs]
 exact k
theorem Abv{T:Str->Option (E2 Rv)}{O Ix V:M Rv}{F:E2 Rv}{v ix:D}{c:Str}{fs:List (Str×D)}{b:Addr}{γ':Gh}{r:Rv}(hv:Ad V e=.ok (.val v) e1)(ho:O e1=.ok (.val (.con (.ref b))) e2)(hi:Ad Ix e2=.ok (.val ix) e3)(hl:γ.lookup b=some (.ins c fs))(hT:T c=some F)
  (hF:Prm F [.sh (.con (.ref b)),.sh ix,.sh v] γ r γ')(k:P (.c .nx) e3 γ'):Hz T O Ix V e γ P:=by
 unfold Hz liftM
 rw [hv]
 dsimp only
 rw [ho]
 dsimp only
 rw [hi]
 dsimp only
 have hd:Fp (.val (.con (.ref b))) e3 γ=some (.ins c fs):=hl
 rw [hd]
 dsimp only
 rw [hT]
 refine Ao0 (as:=[.sh (.con (.ref b)),.sh ix,.sh v]) rfl rfl hF (fun j hj=>?_) k
 rcases List.mem_cons.mp hj with y | y
 ·cases y
 ·rcases List.mem_cons.mp y with y | y
  ·cases y
  ·rcases List.mem_cons.mp y with y | y <;> cases y
theorem Ao1{c:Str}{F:E2 Rv}{A:M (List Rv)}{rs:List Rv}{as as':List Sl}{fs:Addr->List (Str×D)}{Γ:Addr->Gh}{P:Og Rv->Ve->Gh->Prop}(hA:A e=.ok rs e1)(h1:Bp rs=true)(h2:A9 rs e1=some as)
  (hF:∀ Q:Og Rv->Ve->Gh->Prop,(∀ b2,¬ InG γ b2->Q (.v (.val .non)) (.bo (.ins c (fs b2))::as') (Γ b2))->F (.bo (.ins c [])::as) γ Q)(h3:A6 rs as' e1=e1)
  (k:∀ b2 b,¬ InG γ b2->¬ InG (Γ b2) b->P (.v (.val (.con (.ref b)))) e1 ((b,.ins c (fs b2))::Γ b2)):J0 c F A e γ P:=by
 unfold J0 Bn liftM O7
 rw [hA]
 refine ⟨h1,?_⟩
 rw [h2]
 refine hF _ fun b2 n2=>?_
 unfold Q7
 intro b nb
 rw [h3]
 exact k b2 b n2 nb
theorem O8{S:M (List D)}{F:D->M Unit}{ds:List D}(h:S e=.ok ds e1)(k:Cs F B ds e1 γ P):Ey S F B e γ P:=by
 unfold Ey; rw [h]; exact k
theorem O9{F:D->M Unit}(k:P (.c .nx) e γ):Cs F B [] e γ P:=k
theorem M4{F:D->M Unit}{d:D}{r:List D}(h:F d e=.ok () e1)(k:B e1 γ fun o e3 γ3=>match o with
   | .c .nx=>Cs F B r e3 γ3 P
   | .c .ct=>Cs F B r e3 γ3 P
   | .c .bk=>P (.c .nx) e3 γ3
   | .c (.rt v)=>P (.c (.rt v)) e3 γ3
   | .er x=>P (.er x) e3 γ3):Cs F B (d::r) e γ P:=by
 unfold Cs; rw [h]; exact k
end
theorem Abw{P:Program}{w:World}{H:Hp}{h:Heap}{l it:Addr}{i:Nat}(e:h.IsListIter it l i):ObjOk P w H h it (Hj l it i) :=
 ⟨e,(let ⟨o,ho,_⟩:=e; ⟨o,ho⟩),fun _ _ q k=>by obtain ⟨o,ho,r⟩:=q; exact ⟨o,k o ho,r⟩⟩
section
variable{prog:Program}{w:World}{A:Around}{E:Value->Shared->Prop}{s:Shared}
theorem Abx{t:Addr}{items:Array Value}{Q:Value->Shared->Prop}(hl:s.heap.IsList t items)(h:Q (.ref s.heap.objs.size) { s with heap:=s.heap.push { cls:=.type "list_iterator",data:=.fields #[.ref t,.int 0 0] } }):wpAny (model prog w) A (call (.builtin "iter") [.ref t]) Q E s:=by
 refine Calls.call_function_entry (by decide +kernel) (by decide +kernel) PySem.W.kdk_entry_iter (PySem.W.kdk_args_iter _) ?_
 unfold Builtin.«iter»
 refine wpAny_bind (m:=someArgs "iter" 1 2 _) (wpAny_of_eq (a:=[Value.ref t]) (by first | rfl | kernel_rfl!) ?_)
 show wpAny _ _ (pyIter (.ref t) >>= _) _ _ _
 refine wpAny_bind (wpAny_pyIter_list hl ?_)
 exact wpAny_pure ⟨_,rfl,h⟩
end
def M5(K:PySem.W.Frag)(f:Str):Sp:=fun vs H Q _=>∃ (p C dx:Addr) (us:List (Str×V)) (l:Addr) (zs:List V),vs=[.ref p]/\H p=some (.ins C dx us)/\Cls K C/\NoAttr K C f/\us.lookup f=some (.ref l)/\SqL K H l zs/\∀ it,H it=none->Q (.ref it) (upd H it (Hj l it 0))
def Uz(K:PySem.W.Frag)(f:Str):TS:=fun D σ H=>∃ (p C dx:Addr) (us:List (Str×V)) (l:Addr) (zs:List V),σ[0]? = some (some (.ref p))/\H p=some (.ins C dx us)/\Cls K C/\NoAttr K C f/\us.lookup f=some (.ref l)/\SqL K H l zs/\∀ it,H it=none->D.rt (.ref it) (upd H it (Hj l it 0))
def Ao2(K:PySem.W.Frag):List V->Hp->VK->Prop:=fun xs H Q=>∃ (l:Addr) (zs:List V),xs=[.ref l]/\SqL K H l zs/\∀ it,H it=none->Q (.ref it) (upd H it (Hj l it 0))
section
variable{X:Cx}
theorem Ao3:CallR X (.builtin "iter") (Ao2 X.K):=by
 intro pins s σ H xs us Q I r h
 obtain ⟨l,zs,rfl,hq,q⟩:=h
 obtain rfl:=Vals.ref1 r
 obtain ⟨its,rv,pl,hz⟩:=I.list hq
 refine Abx (items:=its.toArray) pl.isList ?_
 exact ⟨.ref s.heap.objs.size,_,I.laid (t':=s.toks) (fun b u e=>Heap.get?_push_of_some _ e) (Nat.le_refl _) (Abw ⟨_,Heap.get?_push_size _ rfl,rfl,rfl⟩),rfl,q _ (I.hok.fresh (Nat.le_refl _))⟩
theorem Ao4{x f:Str}{p1 p2 p3 p4 p5:Pos}(hm:X.mg "iter" = none)(hN:X.N[0]? = some x)(hvis:Vis X.env.scope x)(hg:Gl X "iter":=by rfl)(hd:(x==("__debug__" : Str))=false:=by decide)(hcd:(x==("__classdict__" : Str))=false:=by decide)
  (hb:attributeBase (.Name x p2) f X.env (eval (.Name x p2) X.env)=eval (.Name x p2) X.env:=by rfl)(he:starEach [Expr.Attribute (.Name x p2) f p3] X.env=(false,eval (.Attribute (.Name x p2) f p3) X.env)::starEach [] X.env:=by rfl)(hpl:(backTo p4 (starEach [] X.env)).any (·.1)=false:=by rfl) :
  PS X (.Return (some (.Call (.Name "iter" p1) [.Attribute (.Name x p2) f p3] [] p4)) p5) (Uz X.K f):=by
 refine PS.imp (ps_ret (pe_callB Ao3 hg hm (by decide +kernel) (pa_cons (pe_fld (pe_var hN hvis hd hcd) hb) pa_nil he) (he:=he) (hpl:=hpl))) fun D σ H h=>?_
 obtain ⟨p,C,dx,us,l,zs,e0,ha,hcl,hna,hf,hs,q⟩:=h
 exact ⟨.ref p,e0,p,C,dx,us,.ref l,rfl,ha,hcl,hna,hf,l,zs,rfl,hs,q⟩
end
theorem Ao5{P:Program}{w:World}{K:PySem.W.Frag}{mg:Str->Option Value}{base:Heap}{x qual:Str}{params:Arguments}{body:List Stmt}{scope:Scope}{dvs:List V}{kws:List (Str×V)}{f:Addr}{fd:FuncData}{a fl:Str}
  (F:FunD K x qual params body scope dvs kws f fd)(S:FnScope [a] [a] scope)(hb:∀ (cdv:Value) (A:Around) (outer:List PySem.Env) (s:Shared) (H:Hp) (E:XK),PSs (cxOf (L2.CX P w) P w K mg base [a] qual scope f cdv A outer s H E) body (Uz K fl)) :
  FnG P w K mg base (L2.CX P w) 1 f fd [a] (M5 K fl):=by
 obtain ⟨oc,od,dV,kV,doc,pm,an,cdv,ct,osl,rfl,lk,hcd,_,_⟩:=F.ex
 refine P4 (k:=0) lk hcd S (fun vs H Q E h=>by obtain ⟨p,_,_,_,_,_,rfl,_⟩:=h; rfl) fun A outer s H vs Q E hr h=>?_
 obtain ⟨p,C,dx,us,l,zs,rfl,ha,hcl,hna,hf,hs,q⟩:=h
 exact ⟨Uz K fl,hb cdv A outer s H E,p,C,dx,us,l,zs,rfl,ha,hcl,hna,hf,hs,q⟩
theorem Ao6{P:Program}{g:Gm}{mg:Str->Option Value}{base:Heap}{j:Nat}{f:Addr}{fd:FuncData}{ps:List Str}{fl:Str}(Fk:FnG P g.w g.K mg base (L2.CX P g.w) j f fd ps (M5 g.K fl))(hb:Binds g.K fd ps []):FnK P g.w g.K mg base (L2.CX P g.w) j f [] (M5 g.K fl):=by
 intro A outer s H us ws vs zs Q E hr e0 rv rz hl hs
 have ez:zs=[]:=by
  have:=rz.length
  rw [hl] at this
  exact List.eq_nil_of_length_eq_zero this
 subst ez
 rw [List.append_nil] at hs
 exact Fk.raw hb .nil A outer s H us vs Q E hr e0 rv (by rw [List.append_nil]; exact hs)
def ItDL(P:Program)(mg:Str->Option Value)(base:Heap)(g:Gm)(j:Nat)(T:Str->Option Str):Prop :=
 ∀ c fl,T c=some fl->∃ f,PySem.W.findIn g.K (.ref (g.ca c)) "__iter__" = some (some (.ref f))/\PySem.W.isFn g.K (.ref f)=true/\FnK P g.w g.K mg base (L2.CX P g.w) j f [] (M5 g.K fl)
def Ao7(K:PySem.W.Frag)(n:Nat):List V->Hp->VK->Prop:=fun xs H Q=>∃ (l:Addr) (zs:List V),xs=[.ref l]/\SqL K H l zs/\∀ it,H it=none->n<=it->Q (.ref it) (upd H it (Hj l it 0))
def Aby(K:PySem.W.Frag)(f:Str)(n:Nat):TS:=fun D σ H=>∃ (p C dx:Addr) (us:List (Str×V)) (l:Addr) (zs:List V),σ[0]? = some (some (.ref p))/\H p=some (.ins C dx us)/\Cls K C/\NoAttr K C f/\us.lookup f=some (.ref l)/\SqL K H l zs/\∀ it,H it=none->n<=it->D.rt (.ref it) (upd H it (Hj l it 0))
section
variable{X:Cx}
theorem Ao8:CallR X (.builtin "iter") (Ao7 X.K X.s_0.heap.objs.size):=by
 intro pins s σ H xs us Q I r h
 obtain ⟨l,zs,rfl,hq,q⟩:=h
 obtain rfl:=Vals.ref1 r
 obtain ⟨its,rv,pl,hz⟩:=I.list hq
 refine Abx (items:=its.toArray) pl.isList ?_
 exact ⟨.ref s.heap.objs.size,_,I.laid (t':=s.toks) (fun b u e=>Heap.get?_push_of_some _ e) (Nat.le_refl _) (Abw ⟨_,Heap.get?_push_size _ rfl,rfl,rfl⟩),rfl,q _ (I.hok.fresh (Nat.le_refl _)) I.sz⟩
theorem Ao9{x f:Str}{p1 p2 p3 p4 p5:Pos}(hm:X.mg "iter" = none)(hN:X.N[0]? = some x)(hvis:Vis X.env.scope x)(hg:Gl X "iter":=by rfl)(hd:(x==("__debug__" : Str))=false:=by decide)(hcd:(x==("__classdict__" : Str))=false:=by decide)
  (hb:attributeBase (.Name x p2) f X.env (eval (.Name x p2) X.env)=eval (.Name x p2) X.env:=by rfl)(he:starEach [Expr.Attribute (.Name x p2) f p3] X.env=(false,eval (.Attribute (.Name x p2) f p3) X.env)::starEach [] X.env:=by rfl)(hpl:(backTo p4 (starEach [] X.env)).any (·.1)=false:=by rfl) :
  PS X (.Return (some (.Call (.Name "iter" p1) [.Attribute (.Name x p2) f p3] [] p4)) p5) (Aby X.K f X.s_0.heap.objs.size):=by
 refine PS.imp (ps_ret (pe_callB Ao8 hg hm (by decide +kernel) (pa_cons (pe_fld (pe_var hN hvis hd hcd) hb) pa_nil he) (he:=he) (hpl:=hpl))) fun D σ H h=>?_
 obtain ⟨p,C,dx,us,l,zs,e0,ha,hcl,hna,hf,hs,q⟩:=h
 exact ⟨.ref p,e0,p,C,dx,us,.ref l,rfl,ha,hcl,hna,hf,l,zs,rfl,hs,q⟩
end
theorem Apa{P:Program}{w:World}{K:PySem.W.Frag}{mg:Str->Option Value}{base:Heap}{x qual:Str}{params:Arguments}{body:List Stmt}{scope:Scope}{dvs:List V}{kws:List (Str×V)}{f:Addr}{fd:FuncData}{a fl:Str}
  (F:FunD K x qual params body scope dvs kws f fd)(S:FnScope [a] [a] scope)(hbd:Binds K fd [a] [])(hb:∀ (cdv:Value) (A:Around) (outer:List PySem.Env) (s:Shared) (H:Hp) (E:XK),PSs (cxOf (L2.CX P w) P w K mg base [a] qual scope f cdv A outer s H E) body (Aby K fl s.heap.objs.size)) :
  FnIL P w K mg base 1 f fl:=by
 obtain ⟨oc,od,dV,kV,doc,pm,an,cdv,ct,osl,rfl,lk,hcd,_,_⟩:=F.ex
 intro A outer s H Q p C dx us l zs hr e0 ha hcl hna hf hs hq
 have KX:K.In s.heap:=e0.mod.kin.keeps fun b o e=>(e0.bs b o e).1
 have bd:=hbd s [.ref p] KX rfl
 rw [List.append_nil] at bd
 refine codeAny_call_function hr.toRoom.depth (KX _ _ lk) rfl S.co S.gen rfl (PySem.W.codeRec_of KX hcd) ?_
 refine bd _ _ _ _ ?_
 have lim:s.heap.NoLimit:=e0.mod.nolimit.keeps fun b o e=>(e0.bs b o e).1
 have hkind:∀ y∈([a]:List Str).zip [Value.ref p],scope.names.lookup y.1=some .local\/(scope.names.lookup y.1=some .cell/\((cellsFrom (s.heap.objs.size+1) scope.names []).lookup y.1).isSome=true):=fun y hy=>by
  rcases S.par y.1 (List.of_mem_zip hy).1 with q | q
  ·exact .inl q
  ·exact .inr ⟨q,PySem.W.cellsFrom_some _ _ _ (.inl q)⟩
 refine wpAny_newFunctionEnv_cells (s:=s) S.kind hkind fun env he s1 x=>?_
 subst he
 refine ⟨lim.keeps x.toInCall.keep,codeAny_func ?_⟩
 have I:Inv (cxOf (L2.CX P w) P w K mg base [a] qual scope f cdv A outer s H (fun _ _ _=>False)) [] (L2.start [a] [.ref p]) H s1:=inv_start S hr.toRoom.hd e0 (vs:=[.ref p]) rfl (.cons rfl .nil) x
 refine wpAny_mono ((hb cdv A outer s H (fun _ _ _=>False)).run [] s1 _ _ { nx:=fun _ H'=>Q .non H',rt:=Q } I ⟨p,C,dx,us,l,zs,rfl,ha,hcl,hna,hf,hs,hq⟩) (fun fl s' hs=>?_) fun e s' hs=>?_
 ·have fin:∀ {σ':L2.St} {H':Hp} {v':V} {u':Value},Inv (cxOf (L2.CX P w) P w K mg base [a] qual scope f cdv A outer s H (fun _ _ _=>False)) [] σ' H' s'->RelV v' u'->Q v' H'->CE outer P w H s Q u' s' :=
   fun {σ' H' v' u'} J rv' q=>⟨v',H',J.os,J.bare,J.base,J.hok,rv',q⟩
  cases fl with
  | ret u' =>
   obtain ⟨v',σ',H',J,rv',q⟩:=hs
   exact fin J rv' q
  | next =>
   obtain ⟨σ',H',J,q⟩:=hs
   exact fin (v':=V.non) (u':=Value.none) J rfl q
  | brk =>
   obtain ⟨_,_,_,q⟩:=hs
   exact False.elim q
  | cont =>
   obtain ⟨_,_,_,q⟩:=hs
   exact False.elim q
 ·exact hs
def U0(P:Program)(mg:Str->Option Value)(base:Heap)(g:Gm)(j:Nat)(T:Str->Option Str):Prop :=
 ∀ c fl,T c=some fl->∃ f,PySem.W.findIn g.K (.ref (g.ca c)) "__iter__" = some (some (.ref f))/\PySem.W.isFn g.K (.ref f)=true/\FnIL P g.w g.K mg base j f fl
def Gk(T:Str->Option Str):D->Option (List D)
 | .ins c fs=>match T c with
  | some fl=>(match fs.lookup fl with
   | some (.lst ds)=>some ds
   | _=>none)
  | none=>none
 | _=>none
def Rb(T:Str->Option Str)(A:M Rv):M (List D):=(Ad A).bind fun r e=>match r with
 | .val d=>(match Gk T d with | some ds=>.ok ds e | none=>.no)
 | _=>.no
section
variable{g:Gm}{W:WX}{k:Nat}{X:Cx}{tg ex:Expr}
theorem Apb{T:Str->Option Str}{d:D}{ds:List D}(h:Gk T d=some ds):∃ c fs fl,d=.ins c fs/\T c=some fl/\fs.lookup fl=some (.lst ds):=by
 unfold Gk at h
 split at h
 ·rename_i c fs
  split at h
  ·rename_i fl e
   split at h
   ·rename_i d2 e2
    cases h
    exact ⟨c,fs,fl,rfl,e,e2⟩
   ·cases h
  ·cases h
 ·cases h
theorem Apc{T:Str->Option Str}{j:Nat}{A:M Rv}(tab:U0 X.prog X.mg X.base g j T)(hj:j<=k)(ha:VE g W k X ex A):VI g W k X tg ex (Rb T A):=by
 refine ⟨fun c=>⟨fun pins s σ H R I ⟨G,e,sr,h⟩=>?_⟩⟩
 obtain ⟨gK,gw,ca,gT,gs,gn⟩:=g
 obtain rfl:X.K=gK:=c.K
 obtain rfl:X.w=gw:=c.w
 refine thn (((Am ha).run c).run pins s σ H (fun v H1=>∃ (p C dx:Addr) (us:List (Str×V)) (fl:Str) (l:Addr) (zs:List V) (fi:Addr),v=.ref p/\H1 p=some (.ins C dx us)/\Cls X.K C/\NoAttr X.K C fl/\us.lookup fl=some (.ref l)/\SqL X.K H1 l zs /\
   PySem.W.findIn X.K (.ref C) "__iter__" = some (some (.ref fi))/\PySem.W.isFn X.K (.ref fi)=true/\FnIL X.prog X.w X.K X.mg X.base j fi fl/\R (Itl X.K l) H1) I ⟨G,e,sr,Pst.mono (Pst.bind0 h) fun r G1 H1 e1 t1 h1 x ok1=>?_⟩) fun v s1 ⟨x,H1,I1,r1,q1⟩=>?_
 ·cases r with
  | slot _=>exact h1.elim
  | fresh _=>exact h1.elim
  | val d =>
   simp only at h1
   cases qd:Gk T d with
   | none=>rw [qd] at h1; exact h1.elim
   | some ds =>
    rw [qd] at h1
    obtain ⟨c',fs,fl,rfl,qI,qF⟩:=Apb qd
    obtain ⟨fi,i1,i2,i3⟩:=tab c' fl qI
    have ok1:Rep _ G1 (.ins c' fs) x:=ok1
    obtain ⟨p,dx,us,ev,hp,rf,io⟩:=id ok1
    subst ev
    obtain ⟨u,hu,ru⟩:=rf.look qF
    obtain ⟨y,hy,ey⟩:=lookup_mem qF
    obtain ⟨l,zs,eu,hs,rz⟩:=ru
    subst eu
    exact ⟨p,ca c',dx,us,fl,l,zs,fi,rfl,t1.sr.bs.at_ hp rfl,io.1,ey ▸ io.2 y hy,hu,t1.sr.bs.sqL (.of hs),i1,i2,i3,h1 G1 H1 t1 _ (Xp (.of hs) rz)⟩
 ·obtain ⟨p,C,dx,us,fl,l,zs,fi,ev,hp,hcl,hna,hf,hs,i1,i2,Fi,q⟩:=q1
  subst ev
  cases r1
  obtain ⟨mA,J,_⟩:=ins_get I1.hok hp
  obtain ⟨od,J,_⟩:=J.look
  obtain ⟨m0,hF⟩:=I1.fr
  refine PySem.W.owit_iter hF I1.ok.mod.kin J i1 i2 ?_
  refine wpAny_call (codeAny_mono (Fi X.A X.stack s1 H1 (fun v H'=>∃ it,v=.ref it/\H1 it=none/\s1.heap.objs.size<=it/\H'=upd H1 it (Hj l it 0)) p C dx us l zs (c.room.mono hj) I1.env0 hp hcl hna hf hs (fun it hit hz=>⟨it,rfl,hit,hz,rfl⟩)) fun res s' z=>?_)
  match res,z with
  | .error e,z =>
   obtain ⟨_,_,_,_,_,_,_,_,_,_,_,_,hE⟩:=z
   exact hE.elim
  | .ok .next,z=>exact False.elim z
  | .ok .brk,z=>exact False.elim z
  | .ok .cont,z=>exact False.elim z
  | .ok (.ret u),z =>
   obtain ⟨v,H',I',rv,it,ev,hit,hz,eH⟩:=I1.after z
   subst ev
   cases rv
   subst eH
   have ei:(upd H1 it (Hj l it 0)) it=some (Hj l it 0):=upd_same
   have hT:s'.heap.IsListIter it l 0:=(I'.hok it _ ei).1
   unfold PySem.W.OwitIt
   refine wpAny_specialOf hT.typeIs slot_listiter_next.lookup ?_
   have I2:=ItX.inv_drop I' (φ:=fun h=>h.IsListIter it l 0) ei
   have fp:=ItX.inv_fp I' ei (Nat.le_trans I1.sz hz)
   rw [ItX.dropH_upd hit] at I2 fp
   refine ⟨it,[it],_,_,H1,rfl,I2,turn_list l _,hT,fun b hb=>?_,q⟩
   have e:b=it:=by simpa using hb
   rw [e]
   exact fp
end
end Vs
namespace Vs
open PySem PySem.Spec PyProof.Rows L2 Fw SX NdefX
def fTryW(y:Str)(outs:List Str)(i:Nat)(f:List (Str×D)->Option (List D))(B:W2):W2:=fun e γ P=>B e γ fun o e' γ'=>match o with
 | .er x=>if x.1=y/\i<e'.length/\x.2≠[] then (match f x.2 with | some ds=>ds.length<=sizeLine/\P (.c (.rt (.fresh (.lst ds)))) e' γ' | none=>False) else x.1∈outs/\P (.er x) e' γ'
 | .c c=>P (.c c) e' γ'
theorem Ee{y:Str}{outs:List Str}{i:Nat}{f:List (Str×D)->Option (List D)}{B:W2}(m:Mon B):Mon (fTryW y outs i f B):=fun e γ P P' h q=>m _ _ _ _ (fun o e1 γ1 z=>by
 cases o with
 | c c=>exact h _ _ _ z
 | er x =>
  simp only at z ⊢
  split at z
  ·rename_i h1
   rw [if_pos h1]
   cases qf:f x.2 with
   | none=>rw [qf] at z; exact z.elim
   | some ds=>rw [qf] at z; exact ⟨z.1,h _ _ _ z.2⟩
  ·rename_i h1
   rw [if_neg h1]
   exact ⟨z.1,h _ _ _ z.2⟩) q
def fTryA(ys:List Str)(j:Nat)(d:D)(B:W2):W2:=fun e γ P=>B e γ fun o e' γ'=>match o with
 | .er x=>x.1∈ys/\Ak (Ma (fMut "list" appD j (Aa (fC d) Af))) e' γ' P
 | .c c=>P (.c c) e' γ'
theorem Ef{ys:List Str}{j:Nat}{d:D}{B:W2}(m:Mon B):Mon (fTryA ys j d B):=fun e γ P P' h q=>m _ _ _ _ (fun o e1 γ1 z=>by
 cases o with
 | c c=>exact h _ _ _ z
 | er x=>exact ⟨z.1,B7 _ _ _ _ _ h z.2⟩) q
end Vs
namespace Vs
open PySem PySem.Spec PyProof.Rows L2 Fw SX
section
variable{e:Ve}
def Abz(T:Str->Option Str):Rv->Ve->Res (List D)
 | .val d,e=>obn (Gk T d) fun ds=>.ok ds e
 | _,_=>.no
theorem Apd{T:Str->Option Str}{d:D}:Abz T (.val d) e=obn (Gk T d) fun ds=>.ok ds e:=rfl
theorem Ape{T:Str->Option Str}{A:M Rv}:Rb T A e=(Ad A e).bnd (Abz T):=by
 unfold Rb M.bind Res.bnd
 cases Ad A e with
 | no=>rfl
 | er x e1=>rfl
 | ok a e1 =>
  simp only
  cases a with
  | slot _=>rfl
  | fresh _=>rfl
  | val d =>
   show (match Gk T d with | some ds=>Res.ok ds e1 | none=>.no)=obn (Gk T d) _
   cases Gk T d <;> rfl
theorem Apf{T:Str->Option Str}{c fl:Str}{fs:List (Str×D)}{ds:List D}(h1:T c=some fl)(h2:fs.lookup fl=some (.lst ds)):Gk T (.ins c fs)=some ds:=by
 unfold Gk
 simp only [h1,h2]
end
section
variable{e e1 e2:Ve}{γ:Gh}
theorem Rc{F:E2 Rv}{rs:List Rv}{as as':List Sl}{o:Og Rv}{γ':Gh}{P:Og Rv->Ve->Gh->Prop}(ho:Bp rs=true)(ha:A9 rs e=some as)(hF:Gx F as γ o as' γ')(k:P o (A6 rs as' e) γ'):Iq F rs e γ P:=by
 refine ⟨ho,?_⟩
 rw [ha]
 exact hF _ k
theorem Ab0{F:E2 Rv}{A:M (List Rv)}{rs:List Rv}{as as':List Sl}{o:Og Rv}{γ':Gh}{P:Og Rv->Ve->Gh->Prop}(hA:A e=.ok rs e1)(h1:Bp rs=true)(h2:A9 rs e1=some as)(hF:Gx F as γ o as' γ')(h3:A6 rs as' e1=e2)(k:P o e2 γ'):call2 F A e γ P:=by
 unfold call2 Bn liftM
 rw [hA]
 exact Rc h1 h2 hF (by rw [h3]; exact k)
theorem U1{T:Str->Option (E2 Rv)}{m:Str}{O:M Rv}{A:M (List Rv)}{F:E2 Rv}{c:Str}{fs:List (Str×D)}{b:Addr}{γ':Gh}{o:Og Rv}{rs:List Rv}{as as':List Sl}{e3:Ve}{P:Og Rv->Ve->Gh->Prop}(ho:O e=.ok (.val (.con (.ref b))) e1)(hl:γ.lookup b=some (.ins c fs))(hm:(fs.lookup m).isNone=true)(hT:T c=some F)
  (hA:A e1=.ok rs e2)(h1:Bp rs=true)(h2:A9 rs e2=some as)(hF:Gx F (.sh (.con (.ref b))::as) γ o as' γ')(h3:A6 (.val (.con (.ref b))::rs) as' e2=e3)(k:P o e3 γ'):Gj T m O A e γ P:=by
 unfold Gj Bn liftM O6
 rw [ho]
 dsimp only
 have hd:Fp (.val (.con (.ref b))) e1 γ=some (.ins c fs):=hl
 rw [hd]
 refine ⟨hm,?_⟩
 rw [hT]
 unfold Bn liftM
 rw [hA]
 refine Rc (as:=.sh (.con (.ref b))::as) h1 ?_ hF (by rw [h3]; exact k)
 unfold A9
 rw [h2]
 rfl
end
def U2(P:Program)(mg:Str->Option Value)(base:Heap)(g:Gm)(j:Nat)(T:Str->Option (E2 Rv)):Prop :=
 ∀ c F,T c=some F->Ah F/\∃ f,PySem.W.findIn g.K (.ref (g.ca c)) "__getitem__" = some (some (.ref f))/\PySem.W.fnIn g.K f=true/\PySem.W.isFn g.K (.ref f)=true/\FnK P g.w g.K mg base (L2.CX P g.w) j f [] (sp2 g F)
def ItT2(X:Cx)(k:Nat)(C:Addr)(sp:Sp):Prop:=∃ f,PySem.W.findIn X.K (.ref C) "__getitem__" = some (some (.ref f))/\PySem.W.fnIn X.K f=true/\PySem.W.isFn X.K (.ref f)=true/\FnK X.prog X.w X.K X.mg X.base (L2.CX X.prog X.w) k f [] sp
def tItmE(T:Addr->Sp->Prop)(E:L2.St->XK)(ta tb:TE):TE:=fun σ H Q=>ta σ H fun x H1=>tb σ H1 fun y H2=>∃ (p C dx:Addr) (fs:List (Str×V)) (sp:Sp),x=.ref p/\H2 p=some (.ins C dx fs)/\T C sp/\sp [.ref p,y] H2 Q (E σ)
theorem Apg{X:Cx}{k:Nat}{a b:Expr}{ta tb:TE}{pos:Pos}{T:Addr->Sp->Prop}{E:L2.St->XK}(tab:∀ C sp,T C sp->ItT2 X k C sp)(rm:Rm (k+1) X.A)(px:∀ σ,PassesAt (L2.CX X.prog X.w) X σ (E σ))(ha:PE X a ta)(hb:PE X b tb)(hs:Q0 b):PE X (.Subscript a b pos) (tItmE T E ta tb):=by
 refine ⟨fun pins s σ H Q I h=>?_⟩
 refine Subscript_ (thn (ha.run pins s σ H _ I h) fun v s1 ⟨x,H1,I1,rx,h1⟩=>thn (hb.run pins s1 σ H1 _ I1 h1) fun u s2 ⟨y,H2,I2,ry,h2⟩=>?_)
 obtain ⟨p,C,dx,fs,sp,rfl,hp,hT,hq⟩:=h2
 obtain ⟨f,q1,q2,q3,Fk⟩:=tab C sp hT
 cases rx
 obtain ⟨mA,J,_⟩:=ins_get I2.hok hp
 obtain ⟨od,J,_⟩:=J.look
 obtain ⟨m0,hF⟩:=I2.fr
 refine PySem.W.sub_K hF I2.ok.mod.kin J q1 q2 q3 ?_ (hs _ _)
 have e:=I2.env0
 have e0:Env0 X.prog X.w X.K X.mg X.base X.A.in1 X.stack s2 H2:=⟨e.frames,e.mod,e.bs,e.bsz,e.funs,e.frf,e.hok,e.bare⟩
 refine wpAny_call (codeAny_mono (Fk X.A.in1 X.stack s2 H2 [.ref p,u] [] [.ref p,y] [] Q (E σ) rm.in1 e0 (.cons rfl (.cons ry .nil)) .nil rfl (by rw [List.append_nil]; exact hq)) fun res s' z=>?_)
 match res,z with
 | .error e,z=>exact px σ pins _ _ e s' I2 z
 | .ok .next,z=>exact False.elim z
 | .ok .brk,z=>exact False.elim z
 | .ok .cont,z=>exact False.elim z
 | .ok (.ret w'),z=>exact I2.after z
def Ir(T:Str->Option (E2 Rv))(O Ix:M Rv):E2 Rv:=fun e γ P=>liftM O e γ fun o e2 γ2=>match o with
 | .er x=>P (.er x) e2 γ2
 | .v r=>liftM (Ad Ix) e2 γ2 fun o e3 γ3=>(match o with
  | .er x=>P (.er x) e3 γ3
  | .v ix=>(match ix,Fp r e3 γ3 with
   | .val _,some (.ins c _)=>(match T c with
    | some F=>Iq F [r,ix] e3 γ3 P
    | none=>False)
   | _,_=>False))
theorem Dz{T:Str->Option (E2 Rv)}{O Ix:M Rv}(mT:∀ c F,T c=some F->Ah F):Ah (Ir T O Ix):=fun e γ P P' h q=>A8 _ _ _ _ _ (fun o e2 γ2 z=>by
 cases o with
 | er x=>exact h _ _ _ z
 | v r =>
  refine A8 _ _ _ _ _ (fun o e3 γ3 z=>?_) z
  cases o with
  | er x=>exact h _ _ _ z
  | v ix =>
   dsimp only at z ⊢
   split at z
   ·rename_i c fs hd
    cases qT:T c with
    | none=>rw [qT] at z; exact z.elim
    | some F =>
     rw [qT] at z
     exact Ox (mT c F qT) _ _ _ _ _ h z
   ·exact z) q
section
variable{g:Gm}{W:WX}{k:Nat}{X:Cx}
theorem Ab1{T:Str->Option (E2 Rv)}{j:Nat}{o ix:Expr}{O Ix:M Rv}{pos:Pos}(tab:U2 X.prog X.mg X.base g j T)(hj:j+1<=k)(ho:VE g W k X o O)(hi:VE g W k X ix Ix)(hs:Q0 ix:=by intro _ _; rfl):VE2 g W k X (.Subscript o ix pos) (Ir T O Ix):=by
 refine ⟨Dz fun c F h=>(tab c F h).1,fun cd=>?_⟩
 obtain ⟨gK,gw,ca,gT,gs,gn⟩:=g
 obtain rfl:X.K=gK:=cd.K
 obtain rfl:X.w=gw:=cd.w
 refine PE.imp (Apg (T:=fun C sp=>∃ c F,T c=some F/\C=ca c/\sp=sp2 ⟨X.K,X.w,ca,gT,gs,gn⟩ F) (E:=fun σ cls d H'=>W cls d σ H') (fun C sp ⟨c,F,hT,eC,es⟩=>?_) (cd.room.mono hj) (fun σ=>passAt cd.tk σ) (ho.run cd) ((Am hi).run cd) hs) fun σ H Q ⟨G,e,γ,sr,gm,q⟩=>?_
 ·obtain ⟨_,f,h1,h2,h3,h4⟩:=tab c F hT
  exact ⟨f,eC ▸ h1,h2,h3,es ▸ h4⟩
 ·refine ⟨G,e,sr,?_⟩
  unfold Ir liftM at q
  revert q
  cases O e with
  | no=>exact fun h=>h
  | er x e2=>exact fun h cls d G' H' t xo=>h cls d G' H' (t.tr2 gm) xo
  | ok r e2 =>
   intro q G2 H2 t2 x okx
   refine ⟨G2,e2,t2.sr,?_⟩
   dsimp only at q
   revert q
   cases Ad Ix e2 with
   | no=>exact fun h=>h
   | er x e3=>exact fun h cls d G' H' t xo=>h cls d G' H' ((t2.trans t).tr2 gm) xo
   | ok ixr e3 =>
    intro q G3 H3 t3 iv oki
    dsimp only at q
    have t:=t2.trans t3
    have tt:=t.tr2 gm
    split at q
    ·rename_i di c fs hd
     cases qT:T c with
     | none=>rw [qT] at q; exact q.elim
     | some F =>
      rw [qT] at q
      have okr:=okx.tr t3
      obtain ⟨a,dx,us,ev,ha,rf,io⟩:=(Q5 tt.sr tt.gm okr hd).ins tt.sr.bs
      refine ⟨a,_,dx,us,_,ev,ha,⟨c,F,qT,rfl,rfl⟩,?_⟩
      rw [← ev]
      have rv:RvsOk ⟨X.K,X.w,ca,gT,gs,gn⟩ G3 H3 σ e3 H [r,.val di] [x,iv]:=by
       refine ⟨x,_,rfl,okr,⟨iv,_,rfl,oki,rfl,fun _ _ z=>nomatch z⟩,fun d p er ep d' u m z=>?_⟩
       rcases List.mem_cons.mp m with y | y
       ·cases y
       ·cases y
      exact Q1 ((tab c F qT).1) sr tt rv (O5 gm rv) q
    ·exact q.elim
def Hf(K:D->M Rv)(A:E2 Rv):E2 Rv:=fun e γ P=>A e γ fun o e1 γ1=>match o with
 | .er x=>P (.er x) e1 γ1
 | .v (.val d)=>liftM (K d) e1 γ1 P
 | .v _=>False
theorem D0{K:D->M Rv}{A:E2 Rv}(m:Ah A):Ah (Hf K A):=fun e γ P P' h q=>m _ _ _ _ (fun o e1 γ1 z=>by
 split at z
 ·exact h _ _ _ z
 ·exact A8 _ _ _ _ _ h z
 ·exact z.elim) q
theorem Aph{F:M Rv}{σ:L2.St}{G H:Hp}{e:Ve}{γ:Gh}{Q:VK}(gm:Gam g G H σ e γ)(q:liftM F e γ (Pst2 g W σ G H e γ fun r G' H' e' γ'=>∀ v,RvOk2 g G' H' σ e' γ' H r v->Q v H')):Pst g W σ G H e (fun r G' H' e'=>∀ v,RvOk g G' H' σ e' H r v->Q v H') (F e):=by
 unfold liftM at q
 revert q
 cases F e with
 | no=>exact fun h=>h
 | er x e'=>exact fun h cls d G' H' t xo=>h cls d G' H' (t.tr2 gm) xo
 | ok r e' =>
  intro h G' H' t v rv
  refine h G' H' (t.tr2 gm) v ⟨rv,fun d p er ev m=>?_⟩
  subst er
  obtain ⟨p2,e2,_,_,h0,_⟩:=rv
  rw [ev] at e2
  cases e2
  obtain ⟨o,ho,_⟩:=gm.there m
  rw [ho] at h0
  cases h0
theorem Api{F:List Sl->Res Rv}{A:E2 Rv}{B:M (List Rv)}(ma:Ah A){σ:L2.St}{H:Hp}{Q:VK}(h:TV2 g W (Hf (fun d=>Az F (Aa (fC d) B)) A) σ H Q) :
  TV2 g W A σ H fun x H1=>TVA g W B σ H1 fun vs H2=>spR g F (x::vs) H2 Q (fun cls d H'=>W cls d σ H'):=by
 obtain ⟨G,e,γ,sr,gm,q⟩:=h
 refine ⟨G,e,γ,sr,gm,ma _ _ _ _ (fun o e1 γ1 z=>?_) q⟩
 split at z
 ·exact fun cls d G' H' t xo=>z cls d G' H' t xo
 ·rename_i d
  intro G1 H1 t1 v ok
  have rp:Rep g G1 d v:=ok.1
  have z1:Pst g W σ G1 H1 e1 (fun r G' H' e'=>∀ v,RvOk g G' H' σ e' H1 r v->Q v H') (Az F (Aa (fC d) B) e1):=Aph t1.gm (A8 _ _ _ _ _ (fun o e2 γ2 z=>by
   cases o with
   | er x=>exact fun cls d G' H' t2 xo=>z cls d G' H' (t1.trans t2) xo
   | v r =>
    intro G' H' t2 v ok2
    refine z G' H' (t1.trans t2) v ⟨?_,ok2.2⟩
    exact ok2.1.h0 t1.dom) z)
  have hA:Pst g W σ G1 H1 e1 (fun rs G2 H2 e2=>∀ vs,RvsOk g G2 H2 σ e2 H1 rs vs->spR g F vs H2 Q (fun cls d H'=>W cls d σ H')) ((Aa (fC d) B) e1):=Pst.mono (Pst.bind0 z1) fun rs G2 H2 e2 t2 h2 vs rv=>Me t1.sr t2 rv h2
  refine ⟨G1,e1,t1.sr,?_⟩
  unfold Aa fC M.bind M.ret at hA
  dsimp only at hA
  revert hA
  cases B e1 with
  | no=>exact fun h=>h
  | er x e2=>exact fun h=>h
  | ok bs e2=>exact fun h G2 H2 t vs rv=>h G2 H2 t (v::vs) ⟨v,vs,rfl,rp.mono t.le,rv,fun d p z=>nomatch z⟩
 ·exact z.elim
theorem U3{x:Str}{j:Nat}{F:List Sl->Res Rv}{a:Expr}{es:List Expr}{A:E2 Rv}{B:M (List Rv)}{p pos:Pos}(d:Df X.prog X.mg X.base g x [] j F)(hj:j<=k)(hg:Gl X x)(ha:VE2 g W k X a A)(hb:VA g W k X es B)
  (hdb:(x==("__debug__" : Str))=false:=by decide)(he:starEach (a::es) X.env=(false,eval a X.env)::starEach es X.env:=by rfl)(hpl:(backTo pos (starEach es X.env)).any (·.1)=false:=by rfl):VE2 g W k X (.Call (.Name x p) (a::es) [] pos) (Hf (fun d=>Az F (Aa (fC d) B)) A):=by
 refine ⟨D0 ha.mon,fun c=>?_⟩
 obtain ⟨f,Fk,hm,hk⟩:=d
 obtain ⟨gK,gw,ca,gT,gs,gn⟩:=g
 obtain rfl:X.K=gK:=c.K
 obtain rfl:X.w=gw:=c.w
 exact PE.imp (Tg (E:=fun σ cls d H'=>W cls d σ H') Fk (c.room.mono hj) hg hm hk (fun σ=>passAt c.tk σ) (pa_cons (ha.run c) (hb.run c) he) hdb he hpl) fun σ H Q q=>Api ha.mon q
end
end Vs
namespace Vs
open PySem PySem.Spec PyProof.Rows L2 Fw SX NdefX
def Ab2(g:Gm)(σ:L2.St)(G H:Hp)(e:Ve)(γ:Gh)(Q:VK)(okF:D->Option Rv)(erF:Exn->Option Rv):Og Rv->Ve->Gh->Prop
 | .v (.val d),e',γ'=>∃ r,okF d=some r/\∀ G' H',Tr2 g σ G H e γ G' H' e' γ'->OutOk g G' H' r Q
 | .er x,e',γ'=>∃ r,erF x=some r/\∀ G' H',Tr2 g σ G H e γ G' H' e' γ'->OutOk g G' H' r Q
 | _,_,_=>False
def M6(P:Program)(mg:Str->Option Value)(base:Heap)(g:Gm)(x:Str)(okF:D->Option Rv)(erF:Exn->Option Rv):Prop :=
 ∃ gad,mg x=some (.ref gad)/\PySem.W.keepIn g.K (.ref gad)=true /\
  ∀ (X:Cx) (pins:List (Addr×Obj)) (σ:L2.St) (H:Hp) (s:Shared) (f c':Addr) (pm ctv:Value) (params:Arguments) (body:Expr) (scope:Scope) (B:E2 Rv) (G:Hp) (e:Ve) (γ:Gh) (Q:VK) (k:Nat),
   X.prog=P->X.w=g.w->X.K=g.K->X.mg=mg->X.base=base->Inv X pins σ H s->LamX.LamS X.env.scope scope->s.heap.get? f=some (Js X params body scope pm c' ctv)->H f=none->f ∉ frs X.stack->H c'=some (LamX.CodeO c' (X.env.qual ++ "<lambda>")) ->
   (∀ (q:Str) (cl:List (Str×Addr)) (pm cv ctv:Value),bindArgs (PySem.W.kla_fn "<lambda>" q params body scope cl pm cv ctv) ⟨[],[]⟩=pure [])->Rm (k+2) X.A->Ah B ->
   (∀ (A:Around) (outer:List PySem.Env) (s:Shared) (H:Hp) (E:XK) (f c':Addr),Rm k (A.deeper (LamX.lamEnv X scope s.heap.objs.size f c'))->PE (LamX.lamCx X A outer s H E scope f c') body (TV2 g (WR E) (Bf B))) ->
   SR g G H σ e->Gam g G H σ e γ->Bf B e γ (Ab2 g σ G H e γ Q okF erF)->codeAny (model X.prog X.w) X.A (.call (.ref gad) ⟨[.ref f],[]⟩) (CR C8.CX0 X.stack X.prog X.w H s Q C8.E0) s
theorem U4{B:E2 Rv}(m:Ah B):Ah (Bf B):=Fn m fun _=>A8 _
section
variable{P:Program}{w:World}{K:PySem.W.Frag}{mg:Str->Option Value}{base:Heap}{ca:Str->Addr}{Tb:LT}{sa:Addr}{sn:List Int}{x a:Str}{pg:Arguments}{bg rest:List Stmt}{sg:Scope}{gad:Addr}{fd:FuncData}{Ng:List Str}{tst:Stmt}{h0:ExceptHandler}{hds:List ExceptHandler}{tp p1 p2:Pos}
 {okF:D->Option Rv}{erF:Exn->Option Rv}{tA:TE->TS}{sto:V->L2.St->L2.St}{tR:TS}{l:List Clz}
theorem Apj(F:FunD K x x pg bg sg [] [] gad fd)(S:FnScope Ng [a] sg)(hm:mg x=some (.ref gad))(hbn:Binds K fd [a] [])
  (hbd:bg=.Try [tst] (h0::hds) [] [] tp::rest)(hN:Ng[0]? = some a)(hv:Vis sg a)
  (hst:∀ (cdg:Value) (A:Around) (outer:List PySem.Env) (s:Shared) (H:Hp) (pn:List (Addr×Obj)) (xe:Value->Shared->Prop) (te:TE),PE ((cxOf C8.CX0 P w K mg base Ng x sg gad cdg A outer s H C8.E0).tr pn xe) (.Call (.Name a p1) [] [] p2) te ->
   PSs ((cxOf C8.CX0 P w K mg base Ng x sg gad cdg A outer s H C8.E0).tr pn xe) [tst] (tA te))
  (hA:∀ te D τ M,te τ M (fun v M1=>D.nx (sto v τ) M1)->tA te D τ M)
  (hcl:∀ (cdg:Value) (A:Around) (outer:List PySem.Env) (s:Shared) (H:Hp),Rm 1 (A.deeper (envOfC x sg s.heap.objs.size gad cdg))->ClzOk (cxOf C8.CX0 P w K mg base Ng x sg gad cdg A outer s H C8.E0).nox (h0::hds) l)
  (hcs:∀ (xx:Exn) (cls:Value) (d:Option Addr) (G H:Hp) (r:Rv) (f:Addr) (Dn:Ends),erF xx=some r->XOk ⟨K,w,ca,Tb,sa,sn⟩ G xx cls d->Bs G H->SqL K H sa (sn.map .int)->OutOk ⟨K,w,ca,Tb,sa,sn⟩ G H r Dn.rt->Mw K (fun _ _ _ _=>False) Dn l cls d (L2.start Ng [.ref f]) H)
  (htl:∀ (cdg:Value) (A:Around) (outer:List PySem.Env) (s:Shared) (H:Hp),PSs (cxOf C8.CX0 P w K mg base Ng x sg gad cdg A outer s H C8.E0).nox rest tR)
  (hts:∀ (d:D) (v:V) (G H:Hp) (r:Rv) (f:Addr) (Dn:Ends),okF d=some r->Rep ⟨K,w,ca,Tb,sa,sn⟩ G d v->Bs G H->OutOk ⟨K,w,ca,Tb,sa,sn⟩ G H r Dn.rt->tR Dn (sto v (L2.start Ng [.ref f])) H)
  (h0s:∀ f:Addr,(L2.start Ng [V.ref f])[0]? = some (some (.ref f)))(hd:(a==("__debug__" : Str))=false:=by decide)(hcd:(a==("__classdict__" : Str))=false:=by decide) :
  M6 P mg base ⟨K,w,ca,Tb,sa,sn⟩ x okF erF:=by
 obtain ⟨oc,od,dV,kV,doc,pm0,an,cdg,ct,osl,efd,lk,hcg,_,_⟩:=F.ex
 subst efd
 refine ⟨gad,hm,F.kp,fun X pins σ H s f c' pm ctv params body scope B G e γ Q k eP ew eK em eb I L hf hfn hfr hco hbind hr mB hbody sr gm h=>?_⟩
 subst eP
 obtain rfl:X.w=w:=ew
 obtain rfl:X.K=K:=eK
 subst em
 subst eb
 have hr':=hr.deeper (envOfC x sg s.heap.objs.size gad cdg)
 refine LamX.run_ofS (N:=Ng) (ps:=[a]) (us:=[.ref f]) (vs:=[.ref f]) lk hcg S hr.toRoom I.env0 (hbn s [.ref f] I.kIn rfl) (.cons rfl .nil) rfl fun _=>?_
 rw [hbd]
 have tr:PSs (cxOf C8.CX0 X.prog X.w X.K X.mg X.base Ng x sg gad cdg X.A X.stack s H C8.E0).nox (.Try [tst] (h0::hds) [] [] tp::rest) _:=pss_cons (Anv (X:=(cxOf C8.CX0 X.prog X.w X.K X.mg X.base Ng x sg gad cdg X.A X.stack s H C8.E0).nox) (W0:=fun _ _ _ _=>False)
  (tb:=fun W=>tA (fun σZ HZ Q=>σZ[0]? = some (some (.ref f))/\HZ c'=some (LamX.CodeO c' (X.env.qual ++ "<lambda>"))/\TV2 ⟨X.K,X.w,ca,Tb,sa,sn⟩ (WR fun cls d H'=>W cls d σZ H') (Bf B) σ HZ Q)) rfl rfl S.nd LamX.takes0
  (fun W pn xe tk _=>hst cdg _ _ _ _ pn xe _ (Anx (tl:=fun E=>TV2 ⟨X.K,X.w,ca,Tb,sa,sn⟩ (WR E) (Bf B)) I L hf hfn hfr hbind tk hr' hbody hN hv hd hcd)) (hcl cdg _ _ _ _ (hr'.mono (by omega)))) (htl cdg _ _ _ _)
 refine ⟨_,tr.nox,?_⟩
 refine hA _ _ _ _ ⟨h0s f,hco,G,e,γ,sr,gm,U4 mB _ _ _ _ (fun o e' γ' h=>?_) h⟩
 cases o with
 | er xx =>
  obtain ⟨r,er,h⟩:=h
  exact fun cls d G' H' t xo=>hcs xx cls d G' H' r f _ er xo t.sr.bs t.sr.scrL (h G' H' t)
 | v rv =>
  cases rv with
  | slot i=>exact h.elim
  | fresh d=>exact h.elim
  | val d =>
   obtain ⟨r,er,h⟩:=h
   exact fun G' H' t v rp=>hts d v G' H' r f _ er rp.1 t.sr.bs (h G' H' t)
end
section
variable{P:Program}{w:World}{K:PySem.W.Frag}{mg:Str->Option Value}{base:Heap}{ca:Str->Addr}{Tb:LT}{sa:Addr}{sn:List Int}{x a:Str}{pg:Arguments}{bg:List Stmt}{sg:Scope}{gad:Addr}{fd:FuncData}{Ng:List Str}{h0:ExceptHandler}{hds:List ExceptHandler}{tp p1 p2 p3 p4 p5 p6 p7 p8:Pos}
theorem Apk{cs:List Cz}(F:FunD K x x pg bg sg [] [] gad fd)(Sc:FnScope Ng [a] sg)(hm:mg x=some (.ref gad))(hbn:Binds K fd [a] [])
  (hbd:bg=[.Try [.Expr (.Call (.Name a p1) [] [] p2) p4] (h0::hds) [] [] tp,.Return (some (.List [] p7)) p8])(hN:Ng[0]? = some a)(hv:Vis sg a)
  (hcl:∀ (cdg:Value) (A:Around) (outer:List PySem.Env) (s:Shared) (H:Hp),Rm 1 (A.deeper (envOfC x sg s.heap.objs.size gad cdg))->ClzOk (cxOf C8.CX0 P w K mg base Ng x sg gad cdg A outer s H C8.E0).nox (h0::hds) (cs.map (Cz.z ⟨K,w,ca,Tb,sa,sn⟩)))
  (hcs:CzOk ⟨K,w,ca,Tb,sa,sn⟩ cs)(hci:∀ q∈cs,q.i<Ng.length)(hln:1<=Ng.length)
  (hsw:∀ (Z:Cx),swapsWith (.Call (.Name a p1) [] [] p2) none p4.line Z.env=pure false)
  (hd:(a==("__debug__" : Str))=false:=by decide)(hcd:(a==("__classdict__" : Str))=false:=by decide) :
  M6 P mg base ⟨K,w,ca,Tb,sa,sn⟩ x (fun _=>some (.fresh (.lst []))) (erC (czE cs)):=by
 have sl0:∀ f:Addr,(L2.start Ng [V.ref f]).length=Ng.length:=fun f=>by
  unfold L2.start
  simp
  omega
 have s0:∀ f:Addr,(L2.start Ng [V.ref f])[0]? = some (some (.ref f)):=fun f=>by
  unfold L2.start
  simp
 refine Apj (p1:=p1) (p2:=p2) (tA:=tDrop) (sto:=fun _ τ=>τ) (tR:=tRet (tLst tNil)) F Sc hm hbn hbd hN hv ?_ ?_ hcl ?_ ?_ ?_ s0 hd hcd
 ·exact fun cdg A outer s H pn xe te he=>pss_one (ps_expr he (hsw _))
 ·exact fun te D τ M h=>h
 ·exact fun xx cls d G H r f Dn er xo bs sc out=>Aas xo bs sc (sl0 f) hcs hci er out
 ·exact fun cdg A outer s H=>pss_one (ps_ret (pe_lst pa_nil))
 ·intro d v G H r f Dn ok rp bs out
  cases ok
  exact ⟨by rw [sizeLine_eq]; show 0<=16777216; omega,fun p np=>out.lst bs (ds:=[]) rfl p np⟩
end
def Cm(okF:D->Option Rv)(erF:Exn->Option Rv)(B:E2 Rv):E2 Rv:=fun e γ P=>Bf B e γ fun o e' γ'=>match o with
 | .v (.val d)=>(match okF d with | some r=>P (.v r) e' γ' | none=>False)
 | .er x=>(match erF x with | some r=>P (.v r) e' γ' | none=>False)
 | _=>False
theorem D1{okF:D->Option Rv}{erF:Exn->Option Rv}{B:E2 Rv}(m:Ah B):Ah (Cm okF erF B):=fun e γ P P' h q=>U4 m _ _ _ _ (fun o e' γ' z=>by
 cases o with
 | er x =>
  simp only at z ⊢
  cases q:erF x with
  | none=>rw [q] at z; exact z
  | some r=>rw [q] at z; exact h _ _ _ z
 | v r =>
  cases r with
  | slot i=>exact z
  | fresh d=>exact z
  | val d =>
   simp only at z ⊢
   cases q:okF d with
   | none=>rw [q] at z; exact z
   | some r=>rw [q] at z; exact h _ _ _ z) q
section
variable{g:Gm}{W:WX}{k:Nat}{X:Cx}{okF:D->Option Rv}{erF:Exn->Option Rv}
theorem Apl{σ:L2.St}{G H G1 H1:Hp}{e:Ve}{γ:Gh}{Q:VK}{B:E2 Rv}(mB:Ah B)(sr:SR g G H σ e)(t0:Tr2 g σ G H e γ G1 H1 e γ)(h:Cm okF erF B e γ (Pst2 g W σ G H e γ fun r G' H' e' γ'=>∀ v,RvOk2 g G' H' σ e' γ' H r v->Q v H')):Bf B e γ (Ab2 g σ G1 H1 e γ Q okF erF):=by
 have fin:∀ {r:Rv} {e':Ve} {γ':Gh},Pst2 g W σ G H e γ (fun r G' H' e' γ'=>∀ v,RvOk2 g G' H' σ e' γ' H r v->Q v H') (.v r) e' γ'->∀ G' H',Tr2 g σ G1 H1 e γ G' H' e' γ'->OutOk g G' H' r Q:=fun {r e' γ'} h G' H' t G2 H2 v gr nw=>by
  have tt:=(t0.trans t).trans ((gr.tr t.sr).tr2 t.gm)
  refine h G2 H2 tt v ⟨RvNew.ok t.sr (fun p np=>(t0.trans t).dom p np) nw,fun d p er ev m=>?_⟩
  subst er
  obtain ⟨p2,e2,_,_,h0⟩:=nw
  rw [ev] at e2
  cases e2
  obtain ⟨o,ho,_⟩:=t.gm.there m
  rw [ho] at h0
  cases h0
 refine U4 mB _ _ _ _ (fun o e' γ' z=>?_) h
 cases o with
 | er x =>
  simp only at z
  cases q2:erF x with
  | none=>rw [q2] at z; exact z.elim
  | some r=>rw [q2] at z; exact ⟨r,q2,fin z⟩
 | v rv =>
  cases rv with
  | slot i=>exact z.elim
  | fresh d=>exact z.elim
  | val d =>
   simp only at z
   cases q2:okF d with
   | none=>rw [q2] at z; exact z.elim
   | some r=>rw [q2] at z; exact ⟨r,q2,fin z⟩
theorem Ln{x:Str}{j:Nat}{c P:Addr}{params:Arguments}{body:Expr}{scope:Scope}{B:E2 Rv}{p lpos pos:Pos}(d:M6 X.prog X.mg X.base g x okF erF)(hj:j+2<=k)(hg:Gl X x)(TB:LamX.TabB X.base X.mg c P)(hcode:X.env.code=.ref c)
  (hm:(P,X.env.qual ++ "<lambda>")∈g.T.tabs)(hu:∀ p∈g.T.tabs,p.1=P->p.2=X.env.qual ++ "<lambda>")(L:LamX.LamS X.env.scope scope)(mB:Ah B)(hb:∀ (A:Around) (outer:List PySem.Env) (s:Shared) (H:Hp) (E:XK) (f c':Addr),VE2 g (WR E) j (LamX.lamCx X A outer s H E scope f c') body B)
  (hdef:defaultsOf params X.env=([],[]):=by rfl)(hbind:∀ (q:Str) (cl:List (Str×Addr)) (pm cv ctv:Value),bindArgs (PySem.W.kla_fn "<lambda>" q params body scope cl pm cv ctv) ⟨[],[]⟩=pure []:=by intro _ _ _ _ _; rfl)(hdb:(x==("__debug__" : Str))=false:=by decide) :
  VE2 g W k X (.Call (.Name x p) [.Lambda params body scope lpos] [] pos) (Cm okF erF B):=by
 refine ⟨D1 mB,fun cd=>⟨fun pins s σ H Q I ⟨G,e,γ,sr,gm,h⟩=>?_⟩⟩
 obtain ⟨gad,hmx,hk,run⟩:=d
 obtain ⟨gK,gw,ca,gT,gs,gn⟩:=g
 obtain rfl:X.K=gK:=cd.K
 obtain rfl:X.w=gw:=cd.w
 obtain ⟨ps,hP,hG,ht,ha⟩:=sr.tabs _ hm
 have call:∀ {G1 H1:Hp} {s':Shared} {f c':Addr} {pm ctv:Value},Inv X pins σ H1 s'->Tr ⟨X.K,X.w,ca,gT,gs,gn⟩ σ G H e G1 H1 e->s'.heap.get? f=some (Js X params body scope pm c' ctv)->H1 f=none->f ∉ frs X.stack->H1 c'=some (LamX.CodeO c' (X.env.qual ++ "<lambda>")) ->
   wpAny (model X.prog X.w) X.A (call (.ref gad) [.ref f]) (EP X pins σ Q) X.xe s':=fun {G1 H1 s' f c' pm ctv} I1 t0 hf hfn hfr hco=>by
  have t2:=t0.tr2 gm
  refine wpAny_call (codeAny_mono (run X pins σ H1 s' f c' pm ctv params body scope B G1 e γ Q j rfl rfl rfl rfl rfl I1 L hf hfn hfr hco hbind (cd.room.mono hj) mB (fun A outer s H E f c' rm=>?_) t2.sr t2.gm (Apl mB sr t2 h)) fun res s2 out=>?_)
  ·exact (F0 (hb A outer s H E f c')).run ⟨rfl,rfl,rfl,takes_of rfl rfl rfl rfl,rm,passes_of rfl,cd.nd⟩
  ·match res,out with
   | .error e,out=>exact (show False from out).elim
   | .ok (.ret u),out=>exact I1.after out
   | .ok .next,out=>exact out.elim
   | .ok .brk,out=>exact out.elim
   | .ok .cont,out=>exact out.elim
 refine wpAny_Call_Name_kw (ld_glob I hg hmx (PySem.W.callWith_K (h₀:=X.base) I.ok.mod.kin hk ?_ (by rfl) (by rfl)) hdb)
 show wpAny _ _ (spliced ((false,eval (.Lambda params body scope lpos) X.env)::backTo pos (starEach [] X.env))) _ _ s
 refine Calls.spliced_cons (Anw I TB hcode hdef (L.has I.ok) hP ht (fun cv hc=>?_) (fun c' f pm ctv s' hc h1 h2 h3 h4 hfr I1 hf=>?_) fun c' f pm ctv s' hc h1 hfr I1 hf=>?_)
 ·obtain ⟨c',z,_⟩:=ha lpos cv hc
  exact ⟨c',z⟩
 ·have nP:P≠c':=fun z=>by rw [← z,hP] at h1; cases h1
  have t1:=(Grow.lay2 (o:=LamX.CodeO c' (X.env.qual ++ "<lambda>")) sr.bs h1 (fun _ _ z=>nomatch z)).tr sr
  have eL:(ps ++ #[rawInt lpos.line,rawInt lpos.col,.ref c']).toList=ps.toList++[rawInt lpos.line,rawInt lpos.col,.ref c']:=by simp
  have hP1:upd H c' (LamX.CodeO c' (X.env.qual ++ "<lambda>")) P=some (.tbl ps):=by rw [upd_ne nP]; exact hP
  have hG1:upd G c' (LamX.CodeO c' (X.env.qual ++ "<lambda>")) P=none:=by rw [upd_ne nP]; exact hG
  have t2:=SR.tbl (qs:=ps ++ #[rawInt lpos.line,rawInt lpos.col,.ref c']) t1.sr hP1 hG1 fun p hp=>by
   obtain ⟨ps',a1,a2,a3,a4⟩:=t1.sr.tabs p hp
   by_cases hb:p.1=P
   ·rw [hb] at a1 a2 ⊢
    rw [hP1] at a1
    cases a1
    refine ⟨_,upd_same,a2,by rw [eL]; exact PySem.TriplesOk_snoc _ _ _ _ ht,fun p' cv hcv=>?_⟩
    rw [eL] at hcv
    rcases LamX.among_app _ ht hcv with z | z
    ·exact a4 p' cv z
    ·exact ⟨c',z,by rw [hu p hp hb]; exact upd_same⟩
   ·exact ⟨ps',by rw [upd_ne hb]; exact a1,a2,a3,a4⟩
  rw [Agu nP] at I1
  refine Calls.spliced_nil ⟨I1.kIn,call I1 (t1.trans t2) hf ?_ hfr ?_⟩
  ·rw [upd_ne h4,upd_ne h3]; exact h2
  ·rw [upd_ne nP.symm,upd_same]
 ·obtain ⟨c2,z,hc2⟩:=ha lpos _ hc
  cases z
  refine Calls.spliced_nil ⟨I1.kIn,call I1 (Tr.refl sr) hf h1 hfr ?_⟩
  exact sr.bs.at_ hc2 rfl
end
end Vs
namespace Vs
open PySem PySem.Spec PyProof.Rows L2 Fw SX
def Hg(m nk:Nat)(F:List Sl->Res Rv)(as:List Sl):Res Rv:=if as.length=m+nk then Fy m nk [] F as else .no
theorem Apm{g:Gm}{m nk np n:Nat}{B:M Ctl}{vs:List V}{H:Hp}{Q:VK}{E:XK}(h:spR g (Hg m nk (fnF np n B)) vs H Q E):vs.length=m+nk/\spR g (Fy m nk [] (fnF np n B)) vs H Q E:=by
 obtain ⟨G,as,ok,sr,h⟩:=h
 have hl:as.length=vs.length:=by rw [sr.len,List.length_map]
 unfold Hg at h
 by_cases c:as.length=m+nk
 ·rw [if_pos c] at h
  exact ⟨by omega,G,as,ok,sr,h⟩
 ·rw [if_neg c] at h; exact h.elim
section
variable{P:Program}{w:World}{K:PySem.W.Frag}{mg:Str->Option Value}{base:Heap}{g:Gm}
def Ab3(K:PySem.W.Frag)(fd:FuncData)(ps:List Str)(pv:Str)(m:Nat)(ks:List Str):Prop :=
 ∀ (P:Program) (w:World) (A:Around) (Q:List (Str×Value)->Shared->Prop) (Ex:Value->Shared->Prop) (s:Shared) (us ws:List Value),K.In s.heap->us.length=m->ws.length=ks.length ->
  wpAny (model P w) A (newTuple [] >>= fun t=>pure (ps.zip (us++ws)++[(pv,t)])) Q Ex s->wpAny (model P w) A (bindArgs fd ⟨us,ks.zip ws⟩) Q Ex s
theorem Apn{x qual pv:Str}{params:Arguments}{body:List Stmt}{scope:Scope}{kws:List (Str×V)}{f:Addr}{fd:FuncData}{ps ks:List Str}{m:Nat}(F:FunD K x qual params body scope [] kws f fd)
  (h:∀ (kV doc pm:Value) (an:Option Addr) (cdv ct:Value) (us ws:List Value),us.length=m->ws.length=ks.length->bindArgs (PySem.W.fnOf x qual params body scope .none kV doc pm an cdv ct) ⟨us,ks.zip ws⟩=(newTuple [] >>= fun t=>pure (ps.zip (us++ws)++[(pv,t)]))):Ab3 K fd ps pv m ks:=by
 obtain ⟨oc,od,dV,kV,doc,pm,an,cdv,ct,osl,rfl,lk,hcd,hD,_⟩:=F.ex
 obtain rfl:dV=.none:=by
  rcases hD with ⟨_,h⟩ | ⟨h,_⟩
  ·exact h
  ·exact absurd rfl h
 intro P w A Q Ex s us ws _ hu hw z
 rw [h kV doc pm an cdv ct us ws hu hw]
 exact z
theorem Apo{ca:Str->Addr}{Tb:LT}{sa:Addr}{sn:List Int}{x qual pv:Str}{params:Arguments}{body:List Stmt}{scope:Scope}{kws:List (Str×V)}{f:Addr}{fd:FuncData}{N ps ks:List Str}{k m np:Nat}{B:M Ctl}
  (F:FunD K x qual params body scope [] kws f fd)(S:FnScope N (ps++[pv]) scope)(hp:ps.length=m+ks.length)(hnp:np=ps.length+1)(hbd:Ab3 K fd ps pv m ks)
  (hb:∀ (cdv:Value) (A:Around) (outer:List PySem.Env) (s:Shared) (H:Hp) (E:XK),VSs ⟨K,w,ca,Tb,sa,sn⟩ (WR E) k (cxOf (L2.CX P w) P w K mg base N qual scope f cdv A outer s H E) body B) :
  FnK P w K mg base (L2.CX P w) (k+1) f ks (spR ⟨K,w,ca,Tb,sa,sn⟩ (Hg m ks.length (fnF np N.length B))):=by
 obtain ⟨oc,od,dV,kV,doc,pm,an,cdv,ct,osl,rfl,lk,hcd,hD,_⟩:=F.ex
 intro A outer s H us ws vs zs Q E hr e0 rv rz hl hs
 have lz0:zs.length=ks.length:=by rw [← hl]; exact rz.length
 obtain ⟨lv,hs⟩:=Apm hs
 rw [List.length_append,lz0] at lv
 obtain ⟨xs,rest,zs',ev,lx,lzz,lr,hq⟩:=Zt (dd:=[]) (dvs:=[]) (fun _=>rfl) (by simp only [List.length_nil]; omega) hs
 rw [← List.append_assoc] at ev
 obtain ⟨ev2,ez2⟩:=List.append_inj' ev (by rw [lz0,lzz])
 subst ez2
 have l0:rest=[]:=by
  have:=congrArg List.length ev2
  rw [List.length_append,lx] at this
  exact List.eq_nil_of_length_eq_zero (by omega)
 subst l0
 rw [List.append_nil] at ev2
 subst ev2
 have free:H s.heap.objs.size=none:=e0.hok.fresh (Nat.le_refl _)
 have l1:us.length=m:=by rw [← rv.length]; exact lx
 refine StX.run_bnd lk hcd S hr.toRoom e0 (G:=fun vs2 H2=>∃ p,H p=none/\vs2=vs++(zs++[V.ref p])/\H2=upd H p (.tup [])) (fun A' Ex Q' h=>?_) fun s2 H2 vs2 q hr'=>?_
 ·refine hbd P w A' Q' Ex s us ws (e0.mod.kin.keeps fun b o e=>(e0.bs b o e).1) l1 hl ?_
  have un:=StX.un_laid (fs:=frs outer) (s:=s) (o:=({ cls:=.type "tuple",data:=.seq ([]:List Value).toArray }:Obj)) (u:=.tup []) free
  have nw:ObjOk P w (upd H s.heap.objs.size (.tup [])) (s.heap.push ({ cls:=.type "tuple",data:=.seq ([]:List Value).toArray }:Obj)) s.heap.objs.size (.tup []):=⟨by rw [sizeLine_eq]; show 0<=_; omega,[],.nil,⟨_,Heap.get?_push_size _ rfl,rfl,_,rfl⟩⟩
  have z:=h _ _ (vs++(zs++[V.ref s.heap.objs.size])) (us++(ws++[Value.ref s.heap.objs.size])) (StX.env0_laid e0 nw) un rfl (fun e s'=>StX.cxUp outer s H _ _ E e s' un (fun b o q=>Heap.get?_push_of_some _ q) rfl) (rv.append (rz.append (.cons rfl .nil))) (by simp [lx,lz0,hp]; omega) ⟨_,free,rfl,rfl⟩
  have ez:(ps++[pv]).zip (us++(ws++[Value.ref s.heap.objs.size]))=ps.zip (us++ws)++[(pv,Value.ref s.heap.objs.size)]:=by
   rw [show us++(ws++[Value.ref s.heap.objs.size])=(us++ws)++[Value.ref s.heap.objs.size] by simp,List.zip_append (by simp [l1,hl,hp])]
   rfl
  rw [ez] at z
  exact wpAny_bind (wpAny_newTuple (wpAny_pure z) (by rw [sizeLine_eq]; show 0<=_; omega))
 ·obtain ⟨p,hp',ev,eH⟩:=q
  subst ev eH
  exact Ys ⟨rfl,rfl,rfl,takes_of rfl rfl rfl rfl,⟨hr',hr.gd⟩,passes_of rfl,S.nd⟩ (hb cdv A outer s2 _ E) (hq p hp')
end
theorem Apq{P:Program}{w:World}{K:PySem.W.Frag}{mg:Str->Option Value}{base:Heap}{ca:Str->Addr}{Tb:LT}{sa:Addr}{sn:List Int}{x qual:Str}{params:Arguments}{body:List Stmt}{scope:Scope}{dvs:List V}{kws:List (Str×V)}{f c:Addr}{fd:FuncData}{N ps:List Str}{k:Nat}{B:W2}
  (F:FunD K x qual params body scope dvs kws f fd)(hc:fd.code=.ref c)(S:FnScope N ps scope)(hb:∀ (A:Around) (outer:List PySem.Env) (s:Shared) (H:Hp) (E:XK),VSs2 ⟨K,w,ca,Tb,sa,sn⟩ (WR E) k (cxOf (L2.CX P w) P w K mg base N qual scope f (.ref c) A outer s H E) body B) :
  FnG P w K mg base (L2.CX P w) (k+1) f fd ps (En ⟨K,w,ca,Tb,sa,sn⟩ ps.length (By ps.length N.length B)):=by
 obtain ⟨oc,od,dV,kV,doc,pm,an,cdv,ct,osl,rfl,lk,hcd,_,_⟩:=F.ex
 obtain rfl:cdv=.ref c:=hc
 refine P4 lk hcd S (fun vs H Q E h=>h.1) fun A outer s H vs Q E hr h=>?_
 obtain ⟨hl,G,as,γ,ok,sr,gm,h⟩:=h
 have hla:as.length=vs.length:=by rw [sr.len,List.length_map]
 refine ⟨Il ⟨K,w,ca,Tb,sa,sn⟩ (WR E) B,(hb A outer s H E).run ⟨rfl,rfl,rfl,takes_of rfl rfl rfl rfl,hr,passes_of rfl,S.nd⟩,G,as++List.replicate (N.length-as.length) .un,γ,P1 sr,Aba gm hla,?_⟩
 refine (hb A outer s H E).mon _ _ _ _ (fun o e' γ' z=>?_) h.2
 cases o with
 | er x=>exact fun cls d σ' G' H' t xo=>z cls d G' H' (Jw ok sr t) xo
 | c c =>
  cases c with
  | nx=>exact fun σ' G' H' t=>z G' H' (Jw ok sr t) .non rfl fun _ _ y=>nomatch y
  | bk=>exact z.elim
  | ct=>exact z.elim
  | rt r =>
   intro v σ' G' H' t rv nf
   dsimp only at z
   cases q:Fg r e' with
   | no=>rw [q] at z; exact z.elim
   | er x e2=>rw [q] at z; exact z.elim
   | ok r' e2 =>
    rw [q] at z
    obtain ⟨G2,t2,nw,nf2⟩:=Abb ok sr t rv nf q
    exact z G2 H' t2 v nw nf2
section
variable{e e1 e2 e3:Ve}{γ γ1:Gh}
theorem U5{b:Addr}{ix v:D}{as':List Sl}:A6 [.val (.con (.ref b)),.val ix,.val v] as' e=e:=Ra fun i hi=>by
 simp only [List.mem_cons,List.not_mem_nil,or_false] at hi
 rcases hi with y | y | y <;> cases y
theorem Rf{b:Addr}{ix:D}{as':List Sl}:A6 [.val (.con (.ref b)),.val ix] as' e=e:=Ra fun i hi=>by
 simp only [List.mem_cons,List.not_mem_nil,or_false] at hi
 rcases hi with y | y <;> cases y
theorem Ab4{T:Str->Option (E2 Rv)}{O Ix:M Rv}{F:E2 Rv}{ix:D}{c:Str}{fs:List (Str×D)}{b:Addr}{γ':Gh}{o:Og Rv}{as':List Sl}{P:Og Rv->Ve->Gh->Prop}(ho:O e=.ok (.val (.con (.ref b))) e1)(hi:Ad Ix e1=.ok (.val ix) e2)(hl:γ.lookup b=some (.ins c fs))(hT:T c=some F)
  (hF:Gx F [.sh (.con (.ref b)),.sh ix] γ o as' γ')(k:P o e2 γ'):Ir T O Ix e γ P:=by
 unfold Ir liftM
 rw [ho]
 dsimp only
 rw [hi]
 dsimp only
 have hd:Fp (.val (.con (.ref b))) e2 γ=some (.ins c fs):=hl
 rw [hd]
 dsimp only
 rw [hT]
 exact Rc (as:=[.sh (.con (.ref b)),.sh ix]) rfl rfl hF (by rw [Rf]; exact k)
theorem Apr{T:Str->Option (E2 Rv)}{O Ix V:M Rv}{F:E2 Rv}{v ix:D}{c:Str}{fs:List (Str×D)}{b:Addr}{γ':Gh}{o:Og Rv}{as':List Sl}{P:P2}(hv:Ad V e=.ok (.val v) e1)(ho:O e1=.ok (.val (.con (.ref b))) e2)(hi:Ad Ix e2=.ok (.val ix) e3)(hl:γ.lookup b=some (.ins c fs))(hT:T c=some F)
  (hF:Gx F [.sh (.con (.ref b)),.sh ix,.sh v] γ o as' γ')(k:match o with | .er x=>P (.er x) e3 γ' | .v _=>P (.c .nx) e3 γ'):Hz T O Ix V e γ P:=by
 unfold Hz liftM
 rw [hv]
 dsimp only
 rw [ho]
 dsimp only
 rw [hi]
 dsimp only
 have hd:Fp (.val (.con (.ref b))) e3 γ=some (.ins c fs):=hl
 rw [hd]
 dsimp only
 rw [hT]
 refine Rc (as:=[.sh (.con (.ref b)),.sh ix,.sh v]) rfl rfl hF ?_
 rw [U5]
 cases o <;> exact k
theorem U6{K:D->M Rv}{A:E2 Rv}{d:D}{r:Rv}{P:Og Rv->Ve->Gh->Prop}(h:∀ Q:Og Rv->Ve->Gh->Prop,Q (.v (.val d)) e1 γ1->A e γ Q)(hK:K d e1=.ok r e2)(k:P (.v r) e2 γ1):Hf K A e γ P:=by
 unfold Hf
 refine h _ ?_
 show liftM (K d) e1 γ1 P
 unfold liftM
 rw [hK]
 exact k
theorem U7{A:E2 Rv}{d:D}{P:Og Rv->Ve->Gh->Prop}(h:∀ Q:Og Rv->Ve->Gh->Prop,Q (.v (.fresh d)) e1 γ1->A e γ Q)(k:P (.v (.val d)) e1 γ1):Bf A e γ P:=by
 unfold Bf Bn
 exact h _ k
theorem Aps{A:E2 Rv}{d:D}{P:Og Rv->Ve->Gh->Prop}(h:∀ Q:Og Rv->Ve->Gh->Prop,Q (.v (.val d)) e1 γ1->A e γ Q)(k:P (.v (.val d)) e1 γ1):Bf A e γ P:=by
 unfold Bf Bn
 exact h _ k
theorem Apt{A:E2 Rv}{x:Exn}{P:Og Rv->Ve->Gh->Prop}(h:∀ Q:Og Rv->Ve->Gh->Prop,Q (.er x) e1 γ1->A e γ Q)(k:P (.er x) e1 γ1):Bf A e γ P:=by
 unfold Bf Bn
 exact h _ k
theorem Pa{okF:D->Option Rv}{erF:Exn->Option Rv}{B:E2 Rv}{x:Exn}{r:Rv}{P:Og Rv->Ve->Gh->Prop}(h:∀ Q:Og Rv->Ve->Gh->Prop,Q (.er x) e1 γ1->B e γ Q)(q:erF x=some r)(k:P (.v r) e1 γ1):Cm okF erF B e γ P:=by
 unfold Cm
 refine Apt h ?_
 dsimp only
 rw [q]
 exact k
theorem Ab5{okF:D->Option Rv}{erF:Exn->Option Rv}{B:E2 Rv}{d:D}{r:Rv}{P:Og Rv->Ve->Gh->Prop}(h:∀ Q:Og Rv->Ve->Gh->Prop,Q (.v (.val d)) e1 γ1->B e γ Q)(q:okF d=some r)(k:P (.v r) e1 γ1):Cm okF erF B e γ P:=by
 unfold Cm
 refine Aps h ?_
 dsimp only
 rw [q]
 exact k
end
def upR:Rv->Ve->Res Rv
 | .val (.str l),e=>if l.all (·< 128)=true/\l.length<=1000 then .ok (.val (.str (l.map PyProof.Rows.up1))) e else .no
 | _,_=>.no
def U8(O:M Rv):M Rv:=(Ad O).bind upR
section
variable{g:Gm}{W:WX}{k:Nat}{X:Cx}
theorem Apu{o:Expr}{O:M Rv}{apos pos:Pos}(ho:VE g W k X o O)(hbase:attributeBase o "upper" X.env (eval o X.env)=eval o X.env:=by rfl)(hline:(apos.endLine==pos.line)=true:=by rfl):VE g W k X (.Call (.Attribute o "upper" apos) [] [] pos) (U8 O):=by
 refine ⟨fun c=>?_⟩
 refine PE.imp (pe_upper ((Am ho).run c) hbase hline) fun σ H Q ⟨G,e,sr,h⟩=>?_
 refine ⟨G,e,sr,Pst.mono (Pst.bind0 h) fun r G1 H1 e1 t1 h1 x ok1=>?_⟩
 cases r with
 | slot _=>exact h1.elim
 | fresh _=>exact h1.elim
 | val d =>
  cases d with
  | str l =>
   obtain ⟨rfl,os⟩:x=.str (S l)/\OkS l:=ok1
   have h2:Pst g W σ G H e _ (if l.all (·< 128)=true/\l.length<=1000 then (Res.ok (Rv.val (D.str (l.map PyProof.Rows.up1))) e1) else Res.no):=h1
   by_cases hl:l.all (·< 128)=true/\l.length<=1000
   ·rw [if_pos hl] at h2
    refine ⟨⟨_,rfl⟩,S l,rfl,rfl,?_,?_⟩
    ·have:(S l).length=l.length:=by simp [S,PySem.Str.length]
     omega
    ·rw [upper_S hl.1]
     refine h2 G1 H1 t1 _ ⟨rfl,fun x hx=>?_⟩
     obtain ⟨y,hy,rfl⟩:=List.mem_map.mp hx
     have y1:y<128:=of_decide_eq_true (List.all_eq_true.mp hl.1 y hy)
     unfold PyProof.Rows.up1
     split <;> omega
   ·rw [if_neg hl] at h2; exact h2.elim
  | _=>exact h1.elim
theorem Apv{O:M Rv}{e:Ve}:U8 O e=(Ad O e).bnd upR:=rfl
theorem Apw{l:List Nat}{e:Ve}:upR (.val (.str l)) e=if l.all (·< 128)=true/\l.length<=1000 then .ok (.val (.str (l.map PyProof.Rows.up1))) e else .no:=rfl
end
end Vs
set_option maxHeartbeats 4000000
namespace La
open PySem PySem.Spec PyProof.Rows L2 Fw SX Vs
abbrev Rg:Stmt:=inClass (Bo 30) 4
def Ai(K:PySem.W.Frag):LT:=⟨[((He.cT K ("law",none)).2,("law" : Str) ++ ".<locals>." ++ "<lambda>")],fun _=>.inl 0⟩
theorem ob_eq(s:PySem.W.SharedT):ob s=hk.obs s.abs:=Ahy (HandSHeadRun.getT_eq s)
local macro_rules | `(tactic| simp_arith! [$ts,*])=>`(tactic| simp only [fnF_0,fnF_1,fnF_2,fnF_3,fnF_4,fnF_5,fnF_6,fnF_7,fnF_8,↓Zy,↓obn_i,↓ifb_i,Zz,Ah7,Ah8,Ah9,Aia,Aib,Aic,ret_e,map_e,fC_e,Aid,Aie,Aif,Aig,Aih,fOp_e,Aii,Aij,Aik,Ail,Aim,Ain,Aio,Aip,Aiq,Air,Ais,Ait,Aiu,fOr_e,Aiv,Aiw,↓Aix,↓Aiy,Aiz,fNx_e,Ai0,Ai1,Ai2,Ai3,Ai4,Ai5,Ai6,Ai7,Ai8,Ai9,Aja,Ajb,fSl_e,Ajc,Ajd,Z2,Z3,Aje,Ajf,Ajg,↓Aji,↓Ajj,Ajk,Ajl,Ajm,Ajn,Ajo,Ajp,Aju,Ajv,Ajw,Ajx,Z5,chn_t,chn_f,Ajy,Ajz,Aj0,Aj1,Aj2,Z7,mk_bo,mk_bf,Aj3,Aj4,Aj5,Aj6,Aj7,Aj8,Aj9,Aka,Ajq,Ajr,Ajs,Ajt,fLc_e,fDc_e,Akc,Akb,Akf,Akg,Akd,Ake,Akh,Aki,Akk,Akj,Akl,Akm,gTup2,gTup3,Ic,Ap,D5,List.all_cons,List.all_nil,Ab,Ag,Bz,Cf,Cq,Hq,Vs.cutD,A5,B6,Alw,Alx,Ml,A9,G6,Bp,Ig,A6,E8,D6,mrg,Fg,Vs.backV,Ald,Ale,Alf,Aad,Alh,Qs,Int.cast_ofNat_Int,Int.natCast_one,Int.natCast_zero,Int.reduceBEq,Int.reduceMod,Int.reduceAdd,Int.reduceSub,beq_self_eq_true,Int.reducePow,Int.reduceNeg,Int.reduceLT,Int.reduceLE,Nat.reducePow,Ali,Alj,Alk,Alm,Aln,Alo,Alp,Alq,Vs.intD,Aae,Alr,Als,Alu,ixA_0,ixA_1,ixA_2,Alv,Aly,Alz,Al0,Al1,Al2,Al3,Al4,Al5,Al6,Al7,Ak6,Ak7,Ak8,ix3,Ak9,Ala,Alb,Alc,sz1,sz2,sz3,szn_0,szn_1,szn_2,szn_3,szn_4,szn_5,szn_6,szn_7,szn_8,szn_9,Amb,Amc,Amd,Ame,Amf,Amg,Amh,List.getElem?_cons_zero,List.getElem?_cons_succ,List.set_cons_zero,List.set_cons_succ,List.length_cons,List.length_nil,List.cons_append,List.nil_append,Nat.reduceAdd,Nat.reduceSub,Nat.reduceEqDiff,Nat.zero_ne_one,Nat.one_ne_zero,reduceCtorEq,Nat.reduceBEq,Bool.false_or,Bool.or_false,Bool.true_or,Bool.or_true,List.replicate_succ,List.replicate_zero,↓reduceIte,if_true,if_false,Option.map_some,Option.map_none,Option.bind_some,Option.bind_none,Bool.not_true,Bool.not_false,Bool.and_true,Bool.true_and,Bool.and_false,Bool.false_and,decide_true,decide_false,fLcK,fForK,lkE,lVar,okR,id_eq,Ako,Akn,Akq,Akp,Aks,Akr,Al8,and_self,Al9,Ama,Akz,Aky,↓wh_nx,↓wh_rt,Ak2,Ak0,Ak1,Akx,Akt,Aku,Akv,Akw,Ami,Amj,Amk,Aml,Amm,Amn,Amo,Amp,Amq,xC_e,xF_1,Amr,Am8,List.isEmpty_cons,Nat.reduceLT,Ams,Amt,Amu,Amv,Amw,Amx,Amy,Nat.reduceLeDiff,Amz,Am0,Am1,Am2,Am3,Am4,Am5,Am6,Am7,Am9,Ana,Anb,Anc,Ane,Anf,Qt,Ang,Anh,Ani,Anj,$ts,*])
def Ct:List Str:=["Store"]
def Gn:List Str:=["House"]
def cs_Chain:List Str:=["Chain"]
abbrev Ab6:List Str:=["_law_script", "_law_at", "_law_cell", "_law_great"]
theorem Apx:FnScope Ab6 ["_law_script", "_law_at"] (defScope Kj):=⟨rfl,rfl,rfl,by decide +kernel,rfl,by decide +kernel,by decide +kernel⟩
def U9:M Ctl :=
 (Bi (C9 2 (Ek (Bh (fOp ltD (Ab 1) (Ar B2 (Aa (Ab 0) Af)))) (fOp ixA (Ab 0) (Ab 1)) (fC (.int 0))))
 (Bi (C9 3 (Ek (Bh (fOp geD (Ar N8 (Aa (Ab 2) Af)) (fOp Ih (fC (.int 10)) (fC (.int 18))))) (Ar N8 (Aa (Ab 2) Af)) (fC (.int 0))))
 (Bw (A3 (Aa (Ad (Ab 3)) (Aa (Ad (fOp Bb (fOp Bb (fOp Ji (Ar intD (Aa (Ab 2) Af)) (fC (.int 1000000000039))) (fOp Eu (fC (.int 11)) (Ab 1))) (fC (.int 5)))) (Aa (fC (.int 0)) Af)))))))
def Iu:List Sl->Res Rv:=fnF 2 4 U9
theorem Apy{P:Program}{w:World}{K:PySem.W.Frag}{mg:Str->Option Value}{base:Heap}{ca:Str->Addr}{Tb:LT}{sa:Addr}{sn:List Int}{f:Addr}{fd:FuncData}   (F:FunD K "_law_source" "_law_source" (defArgs Kj) (defBody Kj) (defScope Kj) [] [] f fd)(m_len:mg "len" = none)(m_abs:mg "abs" = none)(m_int:mg "int" = none) :
  FnG P w K mg base (L2.CX P w) 1 f fd ["_law_script", "_law_at"] (spV (gm K w ca Tb sa sn) 2 Iu) :=
 Et (k:=0) (B:=U9) (N:=Ab6) (ps:=["_law_script", "_law_at"]) F Apx fun cdv A outer s H E =>
 (Bx (Fu (i:=2) rfl (.inl rfl) (Xn (Hb c_lt (Ac (i:=1) rfl (.inl rfl)) (Ld m_len (Ae (Ac (i:=0) rfl (.inl rfl)) Aj))) (El (Ac (i:=0) rfl (.inl rfl)) (Ac (i:=1) rfl (.inl rfl))) Au))
 (Bx (Fu (i:=3) rfl (.inl rfl) (Xn (Hb c_ge (Yy m_abs (Ae (Ac (i:=2) rfl (.inl rfl)) Aj)) (Tz Au Au)) (Yy m_abs (Ae (Ac (i:=2) rfl (.inl rfl)) Aj)) Au))
 (Ay (B5 (Er (Ae (Am (Ac (i:=3) rfl (.inl rfl))) (Ae (Am (Fl (Fl (Of (Oh m_int (Ae (Ac (i:=2) rfl (.inl rfl)) Aj)) Au) (Qo Au (Ac (i:=1) rfl (.inl rfl)))) Au)) (Ae Au Aj))))))))
abbrev Ab7:List Str:=["self", "house"]
theorem Apz:FnScope Ab7 ["self", "house"] (defScope Kk):=⟨rfl,rfl,rfl,by decide +kernel,rfl,by decide +kernel,by decide +kernel⟩
def Ab8:M Ctl :=
 (Fh Ct "house" 0 (Ab 1))
def Ab9:M Ctl :=
 (Bi (Fh Ct "names" 0 (A3 Af))
 (Fh Ct "is_shut" 0 (fC (.bl false))))
def M7:W2 :=
 (An (Ak Ab8)
 (An (Mx Ct "texts" 0)
 (Ak Ab9)))
theorem Fc:Mon M7:=by
 unfold M7
 repeat (first | exact B7 _ | exact A8 _ | exact Dm _ | exact Dq _ | exact Dh _ _ _ | refine Dg ?_ ?_ | refine Dl ?_ | refine Dw ?_ | refine D7 ?_ ?_ ?_ | refine D8 ?_ | refine Dk ?_ | refine Ds ?_ ?_ ?_ | refine Dt ?_ ?_ | refine Du ?_ | refine Dy ?_ | refine Ed ?_ | refine Cy ?_ ?_ | refine C0 ?_ | refine Di ?_ ?_ | refine Dj ?_ ?_ | refine D9 ?_ | refine Ck ?_ | refine Ea ?_ | refine Dx ?_ | refine Eb ?_ | refine Ec ?_ | refine Ee ?_ | refine Ef ?_ | refine Dz ?_ | refine D0 ?_ | refine D1 ?_)
def Iv:E2 Rv:=By 2 2 M7
theorem Ap0{P:Program}{w:World}{K:PySem.W.Frag}{mg:Str->Option Value}{base:Heap}{ca:Str->Addr}{Tb:LT}{sa:Addr}{sn:List Int}{f:Addr}{fd:FuncData}   (F:FunD K "__init__" "Store.__init__" (defArgs Kk) (defBody Kk) (defScope Kk) [] [] f fd)(n_Store_house:∀ c∈Ct,NoAttr K (ca c) "house")(n_Store_texts:∀ c∈Ct,NoAttr K (ca c) "texts")(n_Store_names:∀ c∈Ct,NoAttr K (ca c) "names")(n_Store_is_shut:∀ c∈Ct,NoAttr K (ca c) "is_shut") :
  FnG P w K mg base (L2.CX P w) 1 f fd ["self", "house"] (En (gm K w ca Tb sa sn) 2 Iv) :=
 Ow (k:=0) (B:=M7) (N:=Ab7) (ps:=["self", "house"]) F Apz fun cdv A outer s H E =>
 (Bt (Jt (Ii (i:=0) n_Store_house rfl (.inl rfl) (Ac (i:=1) rfl (.inl rfl))))
 (Bt (Aod (i:=0) n_Store_texts rfl (.inl rfl))
 (B9 (Bx (Ii (i:=0) n_Store_names rfl (.inl rfl) (Er Aj))
 (Ay (Ii (i:=0) n_Store_is_shut rfl (.inl rfl) Bu))))))
abbrev Aca:List Str:=["self", "keep", "ask"]
theorem Ap1:FnScope Aca ["self", "keep", "ask"] (defScope Kl):=⟨rfl,rfl,rfl,by decide +kernel,rfl,by decide +kernel,by decide +kernel⟩
def Acb:M Ctl :=
 (Bi (Ek (Bh (fOp neG (Em "letters" (Ab 1)) (Em "letters" (Ab 2))))
  fNo
  fNx)
 (Bi (Fh Gn "keep" 0 (Ab 1))
 (Bi (Fh Gn "ask" 0 (Ab 2))
 (Fh Gn "letters" 0 (Em "letters" (Ab 1))))))
def Iw:List Sl->Res Rv:=fnF 3 3 Acb
theorem Ap2{P:Program}{w:World}{K:PySem.W.Frag}{mg:Str->Option Value}{base:Heap}{ca:Str->Addr}{Tb:LT}{sa:Addr}{sn:List Int}{f:Addr}{fd:FuncData}   (F:FunD K "__init__" "House.__init__" (defArgs Kl) (defBody Kl) (defScope Kl) [] [] f fd)(n_House_keep:∀ c∈Gn,NoAttr K (ca c) "keep")(n_House_ask:∀ c∈Gn,NoAttr K (ca c) "ask")(n_House_letters:∀ c∈Gn,NoAttr K (ca c) "letters") :
  FnG P w K mg base (L2.CX P w) 1 f fd ["self", "keep", "ask"] (spV (gm K w ca Tb sa sn) 3 Iw) :=
 Et (k:=0) (B:=Acb) (N:=Aca) (ps:=["self", "keep", "ask"]) F Ap1 fun cdv A outer s H E =>
 (Bx (Ho (Hb Jk (Fj (Ac (i:=1) rfl (.inl rfl))) (Fj (Ac (i:=2) rfl (.inl rfl))))
  (Ay Oc)
  Cw)
 (Bx (Ii (i:=0) n_House_keep rfl (.inl rfl) (Ac (i:=1) rfl (.inl rfl)))
 (Bx (Ii (i:=0) n_House_ask rfl (.inl rfl) (Ac (i:=2) rfl (.inl rfl)))
 (Ay (Ii (i:=0) n_House_letters rfl (.inl rfl) (Fj (Ac (i:=1) rfl (.inl rfl))))))))
abbrev Acd:List Str:=["letters", "at", "sign"]
theorem Ap3:FnScope Acd ["letters"] (defScope Km):=⟨rfl,rfl,rfl,by decide +kernel,rfl,by decide +kernel,by decide +kernel⟩
def Va:M Ctl :=
 (Ek (fOr (Bh (fOp (A0 inA true) (Ab 2) (fC (.str L5)))) (L7 (Bh (fOp gtD (Ab 1) (fC (.int 0)))) (Bh (fOp leD (Ab 2) (fOp ixA (Ab 0) (fOp N3 (Ab 1) (fC (.int 1))))))))
   fNo
   fNx)
theorem Ace{e:Ve}:Va e=(Ek (fOr (Bh (fOp (A0 inA true) (Ab 2) (fC (.str L5)))) (L7 (Bh (fOp gtD (Ab 1) (fC (.int 0)))) (Bh (fOp leD (Ab 2) (fOp ixA (Ab 0) (fOp N3 (Ab 1) (fC (.int 1))))))))
   fNo
   fNx) e:=rfl
def Vb:M Ctl :=
 (Bi (Ek (fOr (Je (Cr (Ar Bg (Aa (Ab 0) (Aa (fC (.con (.ty "str"))) Af))))) (Je (Bh (L9 ltD leD (fC (.int 0)) (Ar B2 (Aa (Ab 0) Af)) (fC (.int 4))))))
  fNo
  fNx)
 (Ib (Od (Ab 0)) (E7 2 (Dc (Aq 1) (Dc (Aq 2) Ia)))
  Va))
def J8:List Sl->Res Rv:=fnF 1 3 Vb
theorem Ap4{P:Program}{w:World}{K:PySem.W.Frag}{mg:Str->Option Value}{base:Heap}{ca:Str->Addr}{Tb:LT}{sa:Addr}{sn:List Int}{f:Addr}{fd:FuncData}{t_MOST_LETTERS:Tok}{t_CHARACTERS:Tok}  (F:FunD K "check_letters" "check_letters" (defArgs Km) (defBody Km) (defScope Km) [] [] f fd)(m_len:mg "len" = none)(g_MOST_LETTERS:mg "MOST_LETTERS" = some (.int 4 t_MOST_LETTERS))(m_str:mg "str" = none)(m_isinstance:mg "isinstance" = none)(m_enumerate:mg "enumerate" = none)(g_CHARACTERS:mg "CHARACTERS" = some (.str (S L5) t_CHARACTERS)) :
  FnG P w K mg base (L2.CX P w) 1 f fd ["letters"] (spV (gm K w ca Tb sa sn) 1 J8) :=
 Et (k:=0) (B:=Vb) (N:=Acd) (ps:=["letters"]) F Ap3 fun cdv A outer s H E =>
 (Bx (Ho (VW.vt (Hn (L8 (Gf (Hu m_isinstance (Ae (Ac (i:=0) rfl (.inl rfl)) (Ae (Hl m_str (by decide +kernel)) Aj))))) (Jf (L8 (vt_c2 c_lt c_le Au (Ld m_len (Ae (Ac (i:=0) rfl (.inl rfl)) Aj)) (Xi g_MOST_LETTERS))))))
  (Ay Oc)
  Cw)
 (Ay (Ta (Agp m_enumerate (Ac (i:=0) rfl (.inl rfl))) (S9 (n:=2) (Mb (Es (i:=1) rfl (.inl rfl)) (Mb (Es (i:=2) rfl (.inl rfl)) S8)))
  (Ay (Ho (VW.vt (Hn (Qd (Ac (i:=2) rfl (.inl rfl)) (Xh g_CHARACTERS)) (Jf (VW.vt (Xm (Hb c_gt (Ac (i:=1) rfl (.inl rfl)) Au) (Xl (Hb c_le (Ac (i:=2) rfl (.inl rfl)) (El (Ac (i:=0) rfl (.inl rfl)) (Agv (Ac (i:=1) rfl (.inl rfl)) Au)))))))))
   (Ay Oc)
   Cw)))))
abbrev Vc:List Str:=["steps", "letters", "most", "has_rows", "has_end", "at", "step", "is_foreign", "sign"]
theorem Ap5:FnScope Vc ["steps", "letters", "most"] (defScope I9):=⟨rfl,rfl,rfl,by decide +kernel,rfl,by decide +kernel,by decide +kernel⟩
def Ap6:M Rv :=
 (fOp (A0 inA true) (Ab 8) (Ab 1))
def Acf:M Ctl :=
 (Bi (C9 7 (Ar Qi (Aa (fLc (Dd (Em "letters" (Ab 6))) (Aq 8) (M.ret true) Ap6 [8]) Af)))
  (Bi (Ek (fOr (Bh (fOp eqG (Ab 5) (Ab 2))) (fOr (Cr (Ab 7)) (fOr (Cr (Ab 4)) (L7 (Cr (Ab 3)) (Cr (Li [("Chain",false),("House",false),("Store",false)] (Ab 6)))))))
   fNo
   fNx)
  (Bi (C9 3 (Pw (Ab 3) (Li [("Chain",false),("House",false),("Store",false)] (Ab 6))))
  (C9 4 (Li [("Chain",false),("House",false),("Store",false)] (Ab 6))))))
def Vd:M Ctl :=
 (Bi (Mo 3 4 (Aa (fC (.bl false)) (Aa (fC (.bl false)) Af)))
 (Ib (Mr (Ab 0)) (E7 2 (Dc (Aq 5) (Dc (Aq 6) Ia)))
  Acf))
def Lo:List Sl->Res Rv:=fnF 3 9 Vd
theorem Ap7{P:Program}{w:World}{K:PySem.W.Frag}{mg:Str->Option Value}{base:Heap}{ca:Str->Addr}{Tb:LT}{sa:Addr}{sn:List Int}{f:Addr}{fd:FuncData}   (F:FunD K "check_steps" "check_steps" (defArgs I9) (defBody I9) (defScope I9) [] [] f fd)(m_enumerate:mg "enumerate" = none)(m_any:mg "any" = none)(isc_Rows:Lj mg (gm K w ca Tb sa sn) "Rows" [("Chain",false),("House",false),("Store",false)])(m_isinstance:mg "isinstance" = none)(isc_Beginnings:Lj mg (gm K w ca Tb sa sn) "Beginnings" [("Chain",false),("House",false),("Store",false)]) :
  FnG P w K mg base (L2.CX P w) 1 f fd ["steps", "letters", "most"] (spV (gm K w ca Tb sa sn) 3 Lo) :=
 Et (k:=0) (B:=Vd) (N:=Vc) (ps:=["steps", "letters", "most"]) F Ap5 fun cdv A outer s H E =>
 (Bx (Ahh (i:=3) (j:=4) rfl rfl (.inl rfl) (.inl rfl) (Ae Bu (Ae Bu Aj)))
 (Ay (Ta (Zr m_enumerate (Ac (i:=0) rfl (.inl rfl))) (S9 (n:=2) (Mb (Es (i:=5) rfl (.inl rfl)) (Mb (Es (i:=6) rfl (.inl rfl)) S8)))
  (Bx (Fu (i:=7) rfl (.inl rfl) (Agz m_any (Ae (P0 (own:=[("sign",8)]) (Ny (Fj (Ac (i:=6) rfl (.inl rfl)))) (blkOk_by (own:=[("sign",8)]) (N:=Vc) (sc:=defScope I9) (by decide +kernel)) (by decide) (fun _ _ _ _ _=>(Es (i:=8) rfl (.inl rfl))) (fun _ _ _ _ _=>N1) (fun _ _ _ _ _=>(X8 (Ac (i:=8) rfl (.inl rfl)) (Ac (i:=1) rfl (by first | exact .inr (.inr rfl) | exact .inr (.inl rfl) | exact .inl rfl))))) Aj)))
  (Bx (Ho (VW.vt (Hn (Hb c_eq (Ac (i:=5) rfl (.inl rfl)) (Ac (i:=2) rfl (.inl rfl))) (Hn (Gf (Ac (i:=7) rfl (.inl rfl))) (Hn (Gf (Ac (i:=4) rfl (.inl rfl))) (Jf (VW.vt (Xm (Gf (Ac (i:=3) rfl (.inl rfl))) (Xl (Gf (Qq isc_Rows m_isinstance (Ac (i:=6) rfl (.inl rfl))))))))))))
   (Ay Oc)
   Cw)
  (Bx (Fu (i:=3) rfl (.inl rfl) (ve_or (Ac (i:=3) rfl (.inl rfl)) (Px (Qq isc_Rows m_isinstance (Ac (i:=6) rfl (.inl rfl))))))
  (Ay (Fu (i:=4) rfl (.inl rfl) (Qq isc_Beginnings m_isinstance (Ac (i:=6) rfl (.inl rfl)))))))))))
abbrev Acg:List Str:=["self", "letters", "keep_places", "steps", "at", "step"]
theorem Ach:FnScope Acg ((["self", "letters", "keep_places"]:List Str)++(["steps"]:List Str)) (defScope H9):=⟨rfl,rfl,rfl,by decide +kernel,rfl,by decide +kernel,by decide +kernel⟩
def Vf:M Ctl :=
 (Ek (Cr (Li [("Chain",false),("House",false),("Store",false)] (Ab 5)))
   (Oq cs_Chain "front_steps" "rows" "back_steps" 0 (Aa (Ad (fSl (Ab 3) (M.ret none) (K8 (Ab 4)))) (Aa (Ad (Ab 5)) (Aa (Ad (fSl (Ab 3) (K8 (fOp Bb (Ab 4) (fC (.int 1)))) (M.ret none))) Af))))
   fNx)
def Rh:M Ctl :=
 (Bi (Ma (Az J8 (Aa (Ab 1) Af)))
 (Bi (Ma (Az Lo (Aa (Ab 3) (Aa (Ab 1) (Aa (fC (.int 6)) Af)))))
 (Bi (Fh cs_Chain "letters" 0 (Ab 1))
 (Bi (Fh cs_Chain "steps" 0 (Ab 3))
 (Bi (Fh cs_Chain "keep_places" 0 (Ab 2))
 (Bi (Oq cs_Chain "front_steps" "rows" "back_steps" 0 (Aa (Ad (Hm Af)) (Aa (fC .non) (Aa (Ad (Ab 3)) Af))))
 (Ib (Mr (Ab 3)) (E7 2 (Dc (Aq 4) (Dc (Aq 5) Ia)))
  Vf)))))))
def Eh:List Sl->Res Rv:=fnF 4 6 Rh
theorem Ap8{P:Program}{w:World}{K:PySem.W.Frag}{mg:Str->Option Value}{base:Heap}{ca:Str->Addr}{Tb:LT}{sa:Addr}{sn:List Int}{f:Addr}{fd:FuncData}   (F:FunD K "__init__" "Chain.__init__" (defArgs H9) (defBody H9) (defScope H9) [] [("keep_places",.bl true)] f fd)(d_check_letters:Df P mg base (gm K w ca Tb sa sn) "check_letters" [] 1 J8)(d_check_steps:Df P mg base (gm K w ca Tb sa sn) "check_steps" [] 1 Lo)(i_Chain_MOST:CiD mg (gm K w ca Tb sa sn) "Chain" "MOST" 6)(n_Chain_letters:∀ c∈cs_Chain,NoAttr K (ca c) "letters")(n_Chain_steps:∀ c∈cs_Chain,NoAttr K (ca c) "steps")(n_Chain_keep_places:∀ c∈cs_Chain,NoAttr K (ca c) "keep_places")(n_Chain_front_steps:∀ c∈cs_Chain,NoAttr K (ca c) "front_steps")(n_Chain_rows:∀ c∈cs_Chain,NoAttr K (ca c) "rows")(n_Chain_back_steps:∀ c∈cs_Chain,NoAttr K (ca c) "back_steps")(m_enumerate:mg "enumerate" = none)(isc_Rows:Lj mg (gm K w ca Tb sa sn) "Rows" [("Chain",false),("House",false),("Store",false)])(m_isinstance:mg "isinstance" = none) :
  ∀ (cdv:Value) (A:Around) (outer:List PySem.Env) (s:Shared) (H:Hp) (E:XK),VSs (gm K w ca Tb sa sn) (WR E) 1 (cxOf (L2.CX P w) P w K mg base Acg "Chain.__init__" (defScope H9) f cdv A outer s H E) (defBody H9) Rh:=fun cdv A outer s H E =>
 (Bx (S7 (E9 d_check_letters (by decide) rfl (Ae (Ac (i:=1) rfl (.inl rfl)) Aj)))
 (Bx (S7 (E9 d_check_steps (by decide) rfl (Ae (Ac (i:=3) rfl (.inl rfl)) (Ae (Ac (i:=1) rfl (.inl rfl)) (Ae (Agm i_Chain_MOST) Aj)))))
 (Bx (Ii (i:=0) n_Chain_letters rfl (.inl rfl) (Ac (i:=1) rfl (.inl rfl)))
 (Bx (Ii (i:=0) n_Chain_steps rfl (.inl rfl) (Ac (i:=3) rfl (.inl rfl)))
 (Bx (Ii (i:=0) n_Chain_keep_places rfl (.inl rfl) (Ac (i:=2) rfl (.inl rfl)))
 (Bx (Aam (i:=0) n_Chain_front_steps n_Chain_rows n_Chain_back_steps rfl (.inl rfl) (Ae (Am (S2 Aj)) (Ae Xg (Ae (Am (Ac (i:=3) rfl (.inl rfl))) Aj))))
 (Ay (Ta (Zr m_enumerate (Ac (i:=3) rfl (.inl rfl))) (S9 (n:=2) (Mb (Es (i:=4) rfl (.inl rfl)) (Mb (Es (i:=5) rfl (.inl rfl)) S8)))
  (Ay (Ho (Gf (Qq isc_Rows m_isinstance (Ac (i:=5) rfl (.inl rfl))))
   (Ay (Aam (i:=0) n_Chain_front_steps n_Chain_rows n_Chain_back_steps rfl (.inl rfl) (Ae (Am (Qg (Ac (i:=3) rfl (.inl rfl)) Qe (Qf (Ac (i:=4) rfl (.inl rfl))))) (Ae (Am (Ac (i:=5) rfl (.inl rfl))) (Ae (Am (Qg (Ac (i:=3) rfl (.inl rfl)) (Qf (Fl (Ac (i:=4) rfl (.inl rfl)) Au)) Qe)) Aj)))))
   Cw))))))))))
abbrev Aci:List Str:=["letters"]
theorem Ap9:FnScope Aci ["letters"] (defScope Kq):=⟨rfl,rfl,rfl,by decide +kernel,rfl,by decide +kernel,by decide +kernel⟩
def Vg:M Ctl :=
 (Bw (Mn "Chain" (Fy 2 0 [(.bl true)] Eh) (Aa (Ab 0) Af)))
def H6:List Sl->Res Rv:=fnF 1 1 Vg
theorem Aqa{P:Program}{w:World}{K:PySem.W.Frag}{mg:Str->Option Value}{base:Heap}{ca:Str->Addr}{Tb:LT}{sa:Addr}{sn:List Int}{f:Addr}{fd:FuncData}   (F:FunD K "plain" "Chain.plain" (defArgs Kq) (defBody Kq) (defScope Kq) [] [] f fd)(mk_Chain_d1:Mk' P mg base (gm K w ca Tb sa sn) "Chain" "Chain" [] 2 (Fy 2 0 [(.bl true)] Eh)) :
  FnG P w K mg base (L2.CX P w) 4 f fd ["letters"] (spV (gm K w ca Tb sa sn) 1 H6) :=
 Et (k:=3) (B:=Vg) (N:=Aci) (ps:=["letters"]) F Ap9 fun cdv A outer s H E =>
 (Ay (B5 (Yi mk_Chain_d1 (by decide) rfl (Ae (Ac (i:=0) rfl (.inl rfl)) Aj))))
abbrev Acj:List Str:=["_law_source_here", "_law_many", "_law_digit", "_law_mixed"]
theorem Aqb:FnScope Acj ["_law_source_here", "_law_many"] (defScope Kr):=⟨rfl,rfl,rfl,by decide +kernel,rfl,by decide +kernel,by decide +kernel⟩
def Vh:M Ctl :=
 (Bi (Ek (Bh (fOp gtD (fOp ixA (Ab 0) (fC (.int 0))) (fC (.int 0))))
  (Bi (C9 2 (fOp Ji (Ar intD (Aa (fOp ixA (Ab 0) (fC (.int 0))) Af)) (Ab 1)))
  (Bi (Mm Ml 0 (fC (.int 0)) (fOp N4 (fOp ixA (Ab 0) (fC (.int 0))) (Ab 1)))
  (Bw (Ab 2))))
  fNx)
 (Bi (Mm Ml 0 (fC (.int 2)) (fOp Bb (fOp ixA (Ab 0) (fC (.int 2))) (fC (.int 1))))
 (Bi (C9 3 (fOp Ji (Ar intD (Aa (fOp Bb (fOp Ih (fOp Bb (fOp ixA (Ab 0) (fC (.int 1))) (fOp Eu (fC (.int 7368787)) (fOp ixA (Ab 0) (fC (.int 2))))) (fC (.int 2))) (fOp ixA (Ab 0) (fC (.int 2)))) Af)) (fC (.int 1000000000000037))))
 (Bi (C9 3 (fOp Ji (Ar intD (Aa (fOp Ih (fOp Bb (Ab 3) (fOp Eu (fC (.int 15485863)) (fOp ixA (Ab 0) (fC (.int 2))))) (fC (.int 3))) Af)) (fC (.int 1000000000000091))))
 (Bw (fOp Ji (Ar intD (Aa (fOp N4 (Ab 3) (fC (.int 4096))) Af)) (Ab 1)))))))
def Ei:List Sl->Res Rv:=fnF 2 4 Vh
theorem Aqc{P:Program}{w:World}{K:PySem.W.Frag}{mg:Str->Option Value}{base:Heap}{ca:Str->Addr}{Tb:LT}{sa:Addr}{sn:List Int}{f:Addr}{fd:FuncData}   (F:FunD K "_law_pick" "_law_pick" (defArgs Kr) (defBody Kr) (defScope Kr) [] [] f fd)(m_int:mg "int" = none) :
  FnG P w K mg base (L2.CX P w) 1 f fd ["_law_source_here", "_law_many"] (spV (gm K w ca Tb sa sn) 2 Ei) :=
 Et (k:=0) (B:=Vh) (N:=Acj) (ps:=["_law_source_here", "_law_many"]) F Aqb fun cdv A outer s H E =>
 (Bx (Ho (Hb c_gt (El (Ac (i:=0) rfl (.inl rfl)) Au) Au)
  (Bx (Fu (i:=2) rfl (.inl rfl) (Of (Oh m_int (Ae (El (Ac (i:=0) rfl (.inl rfl)) Au) Aj)) (Ac (i:=1) rfl (.inl rfl))))
  (Bx (Yd (i:=0) rfl (.inl rfl) Au (Yx (El (Ac (i:=0) rfl (.inl rfl)) Au) (Ac (i:=1) rfl (.inl rfl))))
  (Ay (B5 (Ac (i:=2) rfl (.inl rfl))))))
  Cw)
 (Bx (Yd (i:=0) rfl (.inl rfl) Au (Fl (El (Ac (i:=0) rfl (.inl rfl)) Au) Au))
 (Bx (Fu (i:=3) rfl (.inl rfl) (Of (Oh m_int (Ae (Fl (Tz (Fl (El (Ac (i:=0) rfl (.inl rfl)) Au) (Qo Au (El (Ac (i:=0) rfl (.inl rfl)) Au))) Au) (El (Ac (i:=0) rfl (.inl rfl)) Au)) Aj)) Au))
 (Bx (Fu (i:=3) rfl (.inl rfl) (Of (Oh m_int (Ae (Tz (Fl (Ac (i:=3) rfl (.inl rfl)) (Qo Au (El (Ac (i:=0) rfl (.inl rfl)) Au))) Au) Aj)) Au))
 (Ay (B5 (Of (Oh m_int (Ae (Yx (Ac (i:=3) rfl (.inl rfl)) Au) Aj)) (Ac (i:=1) rfl (.inl rfl)))))))))
abbrev Ack:List Str:=["_law_source_here", "_law_rows"]
theorem Aqd:FnScope Ack ["_law_source_here", "_law_rows"] (defScope Ks):=⟨rfl,rfl,rfl,by decide +kernel,rfl,by decide +kernel,by decide +kernel⟩
def Ri:M Ctl :=
 (Bw (fOp ixA (Ab 1) (Az Ei (Aa (Ab 0) (Aa (Ar B2 (Aa (Ab 1) Af)) Af)))))
def Eo:List Sl->Res Rv:=fnF 2 2 Ri
theorem Aqe{P:Program}{w:World}{K:PySem.W.Frag}{mg:Str->Option Value}{base:Heap}{ca:Str->Addr}{Tb:LT}{sa:Addr}{sn:List Int}{f:Addr}{fd:FuncData}   (F:FunD K "_law_one" "_law_one" (defArgs Ks) (defBody Ks) (defScope Ks) [] [] f fd)(d_law_pick:Df P mg base (gm K w ca Tb sa sn) "_law_pick" [] 1 Ei)(m_len:mg "len" = none) :
  FnG P w K mg base (L2.CX P w) 2 f fd ["_law_source_here", "_law_rows"] (spV (gm K w ca Tb sa sn) 2 Eo) :=
 Et (k:=1) (B:=Ri) (N:=Ack) (ps:=["_law_source_here", "_law_rows"]) F Aqd fun cdv A outer s H E =>
 (Ay (B5 (El (Ac (i:=1) rfl (.inl rfl)) (E9 d_law_pick (by decide) rfl (Ae (Ac (i:=0) rfl (.inl rfl)) (Ae (Ld m_len (Ae (Ac (i:=1) rfl (.inl rfl)) Aj)) Aj))))))
abbrev Vi:List Str:=["_law_source_here", "_law_size", "_law_turn"]
theorem Aqf:FnScope Vi ["_law_source_here"] (defScope Ja):=⟨rfl,rfl,rfl,by decide +kernel,rfl,by decide +kernel,by decide +kernel⟩
def Pb:M Rv :=
 (Az Eo (Aa (Ab 0) (Aa (fC (.str [97,98,99,100,101,102,103,104,105,106,107,108,109,110,111,112,113,114,115,116,117,118,119,120,121,122])) Af)))
def Vj:M Ctl :=
 (Bi (C9 1 (Az Eo (Aa (Ab 0) (Aa (A3 (Aa (fC (.int 1)) (Aa (fC (.int 1)) (Aa (fC (.int 2)) (Aa (fC (.int 3)) (Aa (fC (.int 12)) Af)))))) Af))))
 (Bw (Mj "str" K9 (fC (.str [])) (Aa (fLc (Fv (Ab 1)) (Aq 2) (M.ret true) Pb [2]) Af))))
def F7:List Sl->Res Rv:=fnF 1 3 Vj
theorem Aqg{P:Program}{w:World}{K:PySem.W.Frag}{mg:Str->Option Value}{base:Heap}{ca:Str->Addr}{Tb:LT}{sa:Addr}{sn:List Int}{f:Addr}{fd:FuncData}   (F:FunD K "_law_name" "_law_name" (defArgs Ja) (defBody Ja) (defScope Ja) [] [] f fd)(d_law_one:Df P mg base (gm K w ca Tb sa sn) "_law_one" [] 2 Eo)(m_range:mg "range" = none) :
  FnG P w K mg base (L2.CX P w) 3 f fd ["_law_source_here"] (spV (gm K w ca Tb sa sn) 1 F7) :=
 Et (k:=2) (B:=Vj) (N:=Vi) (ps:=["_law_source_here"]) F Aqf fun cdv A outer s H E =>
 (Bx (Fu (i:=1) rfl (.inl rfl) (E9 d_law_one (by decide) rfl (Ae (Ac (i:=0) rfl (.inr (.inl rfl))) (Ae (Er (Ae Au (Ae Au (Ae Au (Ae Au (Ae Au Aj)))))) Aj))))
 (Ay (B5 (Ag0 Cp (Ae (P0 (own:=[("_law_turn",2)]) (Pz m_range (Ac (i:=1) rfl (.inl rfl))) (blkOk_by (own:=[("_law_turn",2)]) (N:=Vi) (sc:=defScope Ja) (by decide +kernel)) (by decide) (fun _ _ _ _ _=>(Es (i:=2) rfl (.inl rfl))) (fun _ _ _ _ _=>N1) (fun _ _ _ _ _=>(E9 d_law_one (by decide) rfl (Ae (Ac (i:=0) rfl (by first | exact .inr (.inr rfl) | exact .inr (.inl rfl) | exact .inl rfl)) (Ae Cp Aj))))) Aj)))))
abbrev Acl:List Str:=["self"]
theorem Aqh:FnScope Acl ["self"] (defScope Kt):=⟨rfl,rfl,rfl,by decide +kernel,rfl,by decide +kernel,by decide +kernel⟩
def Vk:M Ctl :=
 (Ek (Cr (Em "is_shut" (Ab 0)))
  fNo
  fNx)
def M8:List Sl->Res Rv:=fnF 1 1 Vk
theorem Aqi{P:Program}{w:World}{K:PySem.W.Frag}{mg:Str->Option Value}{base:Heap}{ca:Str->Addr}{Tb:LT}{sa:Addr}{sn:List Int}{f:Addr}{fd:FuncData}   (F:FunD K "check_open" "Store.check_open" (defArgs Kt) (defBody Kt) (defScope Kt) [] [] f fd)  :
  FnG P w K mg base (L2.CX P w) 1 f fd ["self"] (spV (gm K w ca Tb sa sn) 1 M8) :=
 Et (k:=0) (B:=Vk) (N:=Acl) (ps:=["self"]) F Aqh fun cdv A outer s H E =>
 (Ay (Ho (Gf (Fj (Ac (i:=0) rfl (.inl rfl))))
  (Ay Oc)
  Cw))
def J9(c:Str):Option (List Sl->Res Rv):=if c = "Store" then some M8 else none
abbrev Vl:List Str:=["value", "signs", "sign"]
theorem Aqj:FnScope Vl ["value", "signs"] (defScope Jb):=⟨rfl,rfl,rfl,by decide +kernel,rfl,by decide +kernel,by decide +kernel⟩
def Vm:M Rv :=
 (fOp (A0 inA false) (Ab 2) (Ab 1))
theorem Aqk{e:Ve}:Vm e=(fOp (A0 inA false) (Ab 2) (Ab 1)) e:=rfl
def Rj:M Ctl :=
 (Bw (K6 (Ar Bg (Aa (Ab 0) (Aa (fC (.con (.ty "str"))) Af))) (K6 (fOp neG (Ab 0) (fC (.str []))) (Ar N9 (Aa (fLc (Dd (Ab 0)) (Aq 2) (M.ret true) Vm [2]) Af)))))
def Iy:List Sl->Res Rv:=fnF 2 3 Rj
theorem Aql{P:Program}{w:World}{K:PySem.W.Frag}{mg:Str->Option Value}{base:Heap}{ca:Str->Addr}{Tb:LT}{sa:Addr}{sn:List Int}{f:Addr}{fd:FuncData}   (F:FunD K "is_made_of" "is_made_of" (defArgs Jb) (defBody Jb) (defScope Jb) [] [] f fd)(m_all:mg "all" = none)(m_str:mg "str" = none)(m_isinstance:mg "isinstance" = none) :
  FnG P w K mg base (L2.CX P w) 1 f fd ["value", "signs"] (spV (gm K w ca Tb sa sn) 2 Iy) :=
 Et (k:=0) (B:=Rj) (N:=Vl) (ps:=["value", "signs"]) F Aqj fun cdv A outer s H E =>
 (Ay (B5 (Py (Hu m_isinstance (Ae (Ac (i:=0) rfl (.inl rfl)) (Ae (Hl m_str (by decide +kernel)) Aj))) (Py (Tx Jk (Ac (i:=0) rfl (.inl rfl)) Cp) (Px (Agy m_all (Ae (P0 (own:=[("sign",2)]) (Ny (Ac (i:=0) rfl (.inl rfl))) (blkOk_by (own:=[("sign",2)]) (N:=Vl) (sc:=defScope Jb) (by decide +kernel)) (by decide) (fun _ _ _ _ _=>(Es (i:=2) rfl (.inl rfl))) (fun _ _ _ _ _=>N1) (fun _ _ _ _ _=>(X7 (Ac (i:=2) rfl (.inl rfl)) (Ac (i:=1) rfl (by first | exact .inr (.inr rfl) | exact .inr (.inl rfl) | exact .inl rfl))))) Aj)))))))
abbrev Acm:List Str:=["name"]
theorem Aqm:FnScope Acm ["name"] (defScope Ku):=⟨rfl,rfl,rfl,by decide +kernel,rfl,by decide +kernel,by decide +kernel⟩
def Pc:M Ctl :=
 (Ek (fOr (Je (Cr (Az Iy (Aa (Ab 0) (Aa (fC (.str Ce)) Af))))) (Bh (fOp gtD (Ar B2 (Aa (Ab 0) Af)) (fC (.int 12)))))
  (Lf "BadName" ["name"] (Aa (Ad (Ab 0)) Af))
  fNx)
def E3:List Sl->Res Rv:=fnF 1 1 Pc
theorem Aqn{P:Program}{w:World}{K:PySem.W.Frag}{mg:Str->Option Value}{base:Heap}{ca:Str->Addr}{Tb:LT}{sa:Addr}{sn:List Int}{f:Addr}{fd:FuncData}{t_MOST_IN_NAME:Tok}{t_SMALL_LETTERS:Tok}  (F:FunD K "check_name" "check_name" (defArgs Ku) (defBody Ku) (defScope Ku) [] [] f fd)(m_len:mg "len" = none)(g_MOST_IN_NAME:mg "MOST_IN_NAME" = some (.int 12 t_MOST_IN_NAME))(d_is_made_of:Df P mg base (gm K w ca Tb sa sn) "is_made_of" [] 1 Iy)(g_SMALL_LETTERS:mg "SMALL_LETTERS" = some (.str (S Ce) t_SMALL_LETTERS))(x_BadName:ExD P mg base (gm K w ca Tb sa sn) "BadName" ["name"] 1) :
  FnG P w K mg base (L2.CX P w) 3 f fd ["name"] (spV (gm K w ca Tb sa sn) 1 E3) :=
 Et (k:=2) (B:=Pc) (N:=Acm) (ps:=["name"]) F Aqm fun cdv A outer s H E =>
 (Ay (Ho (VW.vt (Hn (L8 (Gf (E9 d_is_made_of (by decide) rfl (Ae (Ac (i:=0) rfl (.inl rfl)) (Ae (Xh g_SMALL_LETTERS) Aj))))) (Jf (Hb c_gt (Ld m_len (Ae (Ac (i:=0) rfl (.inl rfl)) Aj)) (Xi g_MOST_IN_NAME)))))
  (Ay (Ahb x_BadName (by decide) rfl (Ae (Am (Ac (i:=0) rfl (.inl rfl))) Aj)))
  Cw))
abbrev Acn:List Str:=["self", "name", "text"]
theorem Aqo:FnScope Acn ["self", "name", "text"] (defScope Kv):=⟨rfl,rfl,rfl,by decide +kernel,rfl,by decide +kernel,by decide +kernel⟩
def Rk:M Ctl :=
 (Ma (Az E3 (Aa (Ab 1) Af)))
def Ka:W2 :=
 (An (M3 (rd2 (Lc J9 "check_open" (Ab 0) Af)))
 (An (Ak Rk)
 (An (O0 Lb (Jy "texts" (liftM (Ab 0))) (liftM (Ab 1)) (liftM (Ab 2)))
 (Jz Ct "names" 0 (rd2 (Ar Jl (Aa (Em "texts" (Ab 0)) Af)))))))
theorem Vn:Mon Ka:=by
 unfold Ka
 repeat (first | exact B7 _ | exact A8 _ | exact Dm _ | exact Dq _ | exact Dh _ _ _ | refine Dg ?_ ?_ | refine Dl ?_ | refine Dw ?_ | refine D7 ?_ ?_ ?_ | refine D8 ?_ | refine Dk ?_ | refine Ds ?_ ?_ ?_ | refine Dt ?_ ?_ | refine Du ?_ | refine Dy ?_ | refine Ed ?_ | refine Cy ?_ ?_ | refine C0 ?_ | refine Di ?_ ?_ | refine Dj ?_ ?_ | refine D9 ?_ | refine Ck ?_ | refine Ea ?_ | refine Dx ?_ | refine Eb ?_ | refine Ec ?_ | refine Ee ?_ | refine Ef ?_ | refine Dz ?_ | refine D0 ?_ | refine D1 ?_)
def H7:E2 Rv:=By 3 3 Ka
theorem Aqp{P:Program}{w:World}{K:PySem.W.Frag}{mg:Str->Option Value}{base:Heap}{ca:Str->Addr}{Tb:LT}{sa:Addr}{sn:List Int}{f:Addr}{fd:FuncData}   (F:FunD K "__setitem__" "Store.__setitem__" (defArgs Kv) (defBody Kv) (defScope Kv) [] [] f fd)(ml_check_open:Qk P mg base (gm K w ca Tb sa sn) "check_open" 1 J9)(d_check_name:Df P mg base (gm K w ca Tb sa sn) "check_name" [] 3 E3)(n_Store_names:∀ c∈Ct,NoAttr K (ca c) "names")(m_sorted:mg "sorted" = none) :
  FnG P w K mg base (L2.CX P w) 4 f fd ["self", "name", "text"] (En (gm K w ca Tb sa sn) 3 H7) :=
 Ow (k:=3) (B:=Ka) (N:=Acn) (ps:=["self", "name", "text"]) F Aqo fun cdv A outer s H E =>
 (Bt (Abl (Mz (Yn ml_check_open (by decide) (Ac (i:=0) rfl (.inl rfl)))))
 (Bt (Jt (S7 (E9 d_check_name (by decide) rfl (Ae (Ac (i:=1) rfl (.inl rfl)) Aj))))
 (Bt (Aoo (Abk (Io (Ac (i:=0) rfl (.inl rfl)))) (Io (Ac (i:=1) rfl (.inl rfl))) (Io (Ac (i:=2) rfl (.inl rfl))))
 (J5 (Abm (i:=0) n_Store_names rfl (.inl rfl) (Mz (Y1 m_sorted (Ae (Fj (Ac (i:=0) rfl (.inl rfl))) Aj))))))))
def Gq(c:Str):Option (E2 Rv):=if c = "Store" then some H7 else none
theorem Fq:∀ c F,Gq c=some F->Ah F:=fun c F h=>by
 unfold Gq at h
 repeat (split at h; ·cases h; first | exact Ba Vn)
 cases h
abbrev Aqq:List Str:=["self"]
theorem Aco:FnScope Aqq ["self"] (defScope Hk):=⟨rfl,rfl,rfl,by decide +kernel,rfl,by decide +kernel,by decide +kernel⟩
theorem Aqr{P:Program}{w:World}{K:PySem.W.Frag}{mg:Str->Option Value}{base:Heap}{f:Addr}{fd:FuncData}(F:FunD K "__iter__" "Store.__iter__" (defArgs Hk) (defBody Hk) (defScope Hk) [] [] f fd)(m_iter:mg "iter" = none) :
  FnG P w K mg base (L2.CX P w) 1 f fd ["self"] (M5 K "names") :=
 Ao5 F Aco fun cdv A outer s H E=>(pss_one (Ao4 m_iter rfl (.inl rfl)))
theorem Aqs{P:Program}{w:World}{K:PySem.W.Frag}{mg:Str->Option Value}{base:Heap}{f:Addr}{fd:FuncData}(F:FunD K "__iter__" "Store.__iter__" (defArgs Hk) (defBody Hk) (defScope Hk) [] [] f fd)(hbn_:Binds K fd ["self"] [])(m_iter:mg "iter" = none) :
  FnIL P w K mg base 1 f "names" :=
 Apa F Aco hbn_ fun cdv A outer s H E=>(pss_one (Ao9 m_iter rfl (.inl rfl)))
def Kc(c:Str):Option Str:=if c = "Store" then some "names" else none
abbrev Acp:List Str:=["self", "name"]
theorem Aqt:FnScope Acp ["self", "name"] (defScope Kw):=⟨rfl,rfl,rfl,by decide +kernel,rfl,by decide +kernel,by decide +kernel⟩
def Vo:M Ctl :=
 (Bi (Ek (fOr (Je (Cr (Ar Bg (Aa (Ab 1) (Aa (fC (.con (.ty "str"))) Af))))) (Bh (fOp (A0 inA true) (Ab 1) (Em "texts" (Ab 0)))))
  (Lf "NoText" ["name"] (Aa (Ad (Ab 1)) Af))
  fNx)
 (Bw (fOp ixA (Em "texts" (Ab 0)) (Ab 1))))
def Iz:List Sl->Res Rv:=fnF 2 2 Vo
theorem Aqu{P:Program}{w:World}{K:PySem.W.Frag}{mg:Str->Option Value}{base:Heap}{ca:Str->Addr}{Tb:LT}{sa:Addr}{sn:List Int}{f:Addr}{fd:FuncData}   (F:FunD K "__getitem__" "Store.__getitem__" (defArgs Kw) (defBody Kw) (defScope Kw) [] [] f fd)(m_str:mg "str" = none)(m_isinstance:mg "isinstance" = none)(x_NoText:ExL P mg base (gm K w ca Tb sa sn) "NoText" ["name"] 1) :
  FnG P w K mg base (L2.CX P w) 3 f fd ["self", "name"] (spV (gm K w ca Tb sa sn) 2 Iz) :=
 Et (k:=2) (B:=Vo) (N:=Acp) (ps:=["self", "name"]) F Aqt fun cdv A outer s H E =>
 (Bx (Ho (VW.vt (Hn (L8 (Gf (Hu m_isinstance (Ae (Ac (i:=1) rfl (.inl rfl)) (Ae (Hl m_str (by decide +kernel)) Aj))))) (Jf (Qd (Ac (i:=1) rfl (.inl rfl)) (Fj (Ac (i:=0) rfl (.inl rfl)))))))
  (Ay (Uc x_NoText (by decide) rfl (Ae (Am (Ac (i:=1) rfl (.inl rfl))) Aj)))
  Cw)
 (Ay (B5 (El (Fj (Ac (i:=0) rfl (.inl rfl))) (Ac (i:=1) rfl (.inl rfl))))))
def Kd(c:Str):Option (List Sl->Res Rv):=if c = "Store" then some Iz else none
abbrev Acq:List Str:=["self"]
theorem Aqv:FnScope Acq ["self"] (defScope Ky):=⟨rfl,rfl,rfl,by decide +kernel,rfl,by decide +kernel,by decide +kernel⟩
def Vp:M Ctl :=
 (Bw (Ar B2 (Aa (Em "names" (Ab 0)) Af)))
def Lq:List Sl->Res Rv:=fnF 1 1 Vp
theorem Aqw{P:Program}{w:World}{K:PySem.W.Frag}{mg:Str->Option Value}{base:Heap}{ca:Str->Addr}{Tb:LT}{sa:Addr}{sn:List Int}{f:Addr}{fd:FuncData}   (F:FunD K "__len__" "Store.__len__" (defArgs Ky) (defBody Ky) (defScope Ky) [] [] f fd)(m_len:mg "len" = none) :
  FnG P w K mg base (L2.CX P w) 1 f fd ["self"] (spV (gm K w ca Tb sa sn) 1 Lq) :=
 Et (k:=0) (B:=Vp) (N:=Acq) (ps:=["self"]) F Aqv fun cdv A outer s H E =>
 (Ay (B5 (Ld m_len (Ae (Fj (Ac (i:=0) rfl (.inl rfl))) Aj))))
def Pd(c:Str):Option (List Sl->Res Rv):=if c = "Store" then some Lq else none
abbrev Vq:List Str:=["_law_store", "_law_name_here"]
theorem Aqx:FnScope Vq ["_law_store"] (defScope Jc):=⟨rfl,rfl,rfl,by decide +kernel,rfl,by decide +kernel,by decide +kernel⟩
def Lr:M Rv :=
 (Hm (Aa (Ad (Ab 1)) (Aa (Ad (Ou Kd (Ab 0) (Ab 1))) Af)))
def Vr:M Ctl :=
 (Bw (fOp Bb (fLc (Rb Kc (Ab 0)) (Aq 1) (M.ret true) Lr [1]) (A3 (Aa (Ad (Qu Pd (Ab 0))) Af))))
def Fd:List Sl->Res Rv:=fnF 1 2 Vr
theorem Aqy{P:Program}{w:World}{K:PySem.W.Frag}{mg:Str->Option Value}{base:Heap}{ca:Str->Addr}{Tb:LT}{sa:Addr}{sn:List Int}{f:Addr}{fd:FuncData}   (F:FunD K "_law_state" "_law_state" (defArgs Jc) (defBody Jc) (defScope Jc) [] [] f fd)(itn:U0 P mg base (gm K w ca Tb sa sn) 1 Kc)(itmd:Qz P mg base (gm K w ca Tb sa sn) 3 Kd)(lend:SpD "__len__" P mg base (gm K w ca Tb sa sn) 1 Pd)(m_len:mg "len" = none) :
  FnG P w K mg base (L2.CX P w) 5 f fd ["_law_store"] (spV (gm K w ca Tb sa sn) 1 Fd) :=
 Et (k:=4) (B:=Vr) (N:=Vq) (ps:=["_law_store"]) F Aqx fun cdv A outer s H E =>
 (Ay (B5 (Fl (P0 (own:=[("_law_name_here",1)]) (Apc itn (by decide) (Ac (i:=0) rfl (.inr (.inl rfl)))) (blkOk_by (own:=[("_law_name_here",1)]) (N:=Vq) (sc:=defScope Jc) (by decide +kernel)) (by decide) (fun _ _ _ _ _=>(Es (i:=1) rfl (.inl rfl))) (fun _ _ _ _ _=>N1) (fun _ _ _ _ _=>(S2 (Ae (Am (Ac (i:=1) rfl (.inl rfl))) (Ae (Am (Aax itmd (by decide) (Ac (i:=0) rfl (by first | exact .inr (.inr rfl) | exact .inr (.inl rfl) | exact .inl rfl)) (Ac (i:=1) rfl (.inl rfl)))) Aj))))) (Er (Ae (Am (Ann lend (by decide) m_len (Ac (i:=0) rfl (.inr (.inl rfl))))) Aj)))))
abbrev Acr:List Str:=["_law_told", "_law_due"]
theorem Aqz:FnScope Acr ["_law_told", "_law_due"] (defScope Kz):=⟨rfl,rfl,rfl,by decide +kernel,rfl,by decide +kernel,by decide +kernel⟩
def Vt:M Ctl :=
 (Bi (Ek (Bh (fOp neS (Ab 0) (Ab 1)))
  (Bw (fC (.bl false)))
  fNx)
 (Bw (K6 (fOp eqG (Ar Bg (Aa (fOp ixA (Ab 0) (fC (.int 1))) (Aa (fC (.con (.ty "bool"))) Af))) (Ar Bg (Aa (fOp ixA (Ab 1) (fC (.int 1))) (Aa (fC (.con (.ty "bool"))) Af)))) (fOp eqG (Ar Bg (Aa (fOp ixA (Ab 0) (fC (.int 1))) (Aa (fC (.con (.ty "list"))) Af))) (Ar Bg (Aa (fOp ixA (Ab 1) (fC (.int 1))) (Aa (fC (.con (.ty "list"))) Af)))))))
def Fe:List Sl->Res Rv:=fnF 2 2 Vt
theorem Aq0{P:Program}{w:World}{K:PySem.W.Frag}{mg:Str->Option Value}{base:Heap}{ca:Str->Addr}{Tb:LT}{sa:Addr}{sn:List Int}{f:Addr}{fd:FuncData}   (F:FunD K "_law_same" "_law_same" (defArgs Kz) (defBody Kz) (defScope Kz) [] [] f fd)(m_list:mg "list" = none)(m_isinstance:mg "isinstance" = none)(m_bool:mg "bool" = none) :
  FnG P w K mg base (L2.CX P w) 1 f fd ["_law_told", "_law_due"] (spV (gm K w ca Tb sa sn) 2 Fe) :=
 Et (k:=0) (B:=Vt) (N:=Acr) (ps:=["_law_told", "_law_due"]) F Aqz fun cdv A outer s H E =>
 (Bx (Ho (Hb c_neS (Ac (i:=0) rfl (.inl rfl)) (Ac (i:=1) rfl (.inl rfl)))
  (Ay (B5 Bu))
  Cw)
 (Ay (B5 (Py (Tx c_eq (Hu m_isinstance (Ae (El (Ac (i:=0) rfl (.inl rfl)) Au) (Ae (Hl m_bool (by decide +kernel)) Aj))) (Hu m_isinstance (Ae (El (Ac (i:=1) rfl (.inl rfl)) Au) (Ae (Hl m_bool (by decide +kernel)) Aj)))) (Px (Tx c_eq (Hu m_isinstance (Ae (El (Ac (i:=0) rfl (.inl rfl)) Au) (Ae (Hl m_list (by decide +kernel)) Aj))) (Hu m_isinstance (Ae (El (Ac (i:=1) rfl (.inl rfl)) Au) (Ae (Hl m_list (by decide +kernel)) Aj)))))))))
abbrev N_law_refused:List Str:=["_law_call", "e"]
theorem Aq1:FnScope N_law_refused ["_law_call"] (defScope K0):=⟨rfl,rfl,rfl,by decide +kernel,rfl,by decide +kernel,by decide +kernel⟩
def Ej:D->Option Rv:=fun d=>some (.fresh (.lst []))
def Cn:Exn->Option Rv:=erC [("BadName",false,(Bq (xC (.str [110,97,109,101])) (Bq (xF "name") (Bq (xC (.bl true)) (Bq (xC (.bl false)) Jn))))),("NoText",false,(Bq (xC (.str [116,101,120,116])) (Bq (xF "name") (Bq (xC (.bl false)) (Bq (xC (.bl true)) Jn)))))]
theorem Aq2{P:Program}{w:World}{K:PySem.W.Frag}{mg:Str->Option Value}{base:Heap}{ca:Str->Addr}{Tb:LT}{sa:Addr}{sn:List Int}{f:Addr}{fd:FuncData}(F:FunD K "_law_refused" "_law_refused" (defArgs K0) (defBody K0) (defScope K0) [] [] f fd)(hm_:mg "_law_refused" = some (.ref f))(hbn_:Binds K fd ["_law_call"] [])(gx_BadName:mg "BadName" = some (.ref (ca "BadName")))(xt_BadName_LookupError:Ms (gm K w ca Tb sa sn) "BadName" "LookupError" false)(m_LookupError:mg "LookupError" = none)(m_isinstance:mg "isinstance" = none)(xi_BadName_FoundError:IsD mg (gm K w ca Tb sa sn) "BadName" "FoundError" true)(xf_BadName_name:XfD (gm K w ca Tb sa sn) "BadName" "name")(cat_BadName_BadName:Jp mg (gm K w ca Tb sa sn) "BadName" "BadName" true)(cat_BadName_NoText:Jp mg (gm K w ca Tb sa sn) "BadName" "NoText" false)(gx_NoText:mg "NoText" = some (.ref (ca "NoText")))(xt_NoText_LookupError:Ms (gm K w ca Tb sa sn) "NoText" "LookupError" true)(xi_NoText_FoundError:IsD mg (gm K w ca Tb sa sn) "NoText" "FoundError" false)(xf_NoText_name:XfD (gm K w ca Tb sa sn) "NoText" "name")(cat_NoText_NoText:Jp mg (gm K w ca Tb sa sn) "NoText" "NoText" true) :
  M6 P mg base (gm K w ca Tb sa sn) "_law_refused" Ej Cn :=
 Apk (w:=w) (cs:=[⟨.ref (ca "BadName"),1, "BadName",false,(Bq (xC (.str [110,97,109,101])) (Bq (xF "name") (Bq (xC (.bl true)) (Bq (xC (.bl false)) Jn))))⟩,⟨.ref (ca "NoText"),1, "NoText",false,(Bq (xC (.str [116,101,120,116])) (Bq (xF "name") (Bq (xC (.bl false)) (Bq (xC (.bl true)) Jn))))⟩]) F Aq1 hm_ hbn_ rfl rfl (.inl rfl)
 (fun cdg A outer s H rm=>(Aat rfl rfl rfl gx_BadName (Jo Ze (Jo (Zf xf_BadName_name rfl (.inl rfl)) (Jo (Zh xi_BadName_FoundError m_isinstance rfl (.inl rfl)) (Jo (Zv xt_BadName_LookupError m_LookupError (by decide +kernel) m_isinstance rfl (.inl rfl)) Zd)))) rfl rfl rm.gd rm.toRoom.units (Aat rfl rfl rfl gx_NoText (Jo Ze (Jo (Zf xf_NoText_name rfl (.inl rfl)) (Jo (Zh xi_NoText_FoundError m_isinstance rfl (.inl rfl)) (Jo (Zv xt_NoText_LookupError m_LookupError (by decide +kernel) m_isinstance rfl (.inl rfl)) Zd)))) rfl rfl rm.gd rm.toRoom.units Anz)))
 ⟨Ul gx_BadName cat_BadName_BadName,(by
  intro q hq
  simp only [List.mem_cons,List.not_mem_nil,or_false] at hq
  rcases hq with rfl
  ·exact Ul gx_BadName cat_BadName_NoText),⟨Ul gx_NoText cat_NoText_NoText,(fun _ h=>nomatch h),trivial⟩⟩ (by
  intro q hq
  simp only [List.mem_cons,List.not_mem_nil,or_false] at hq
  rcases hq with rfl | rfl
  ·exact (by decide:(1:Nat)<N_law_refused.length)
  ·exact (by decide:(1:Nat)<N_law_refused.length)) (by decide) (fun _=>rfl)
abbrev Acs:List Str:=["_law_store", "_law_name_here", "_law_text"]
theorem Aq3:FnScope Acs ["_law_store", "_law_name_here", "_law_text"] (defScope K1):=⟨rfl,rfl,rfl,by decide +kernel,rfl,by decide +kernel,by decide +kernel⟩
def Acu:M Ctl :=
 (Bw (fC (.str [115,101,116])))
def Ke:W2 :=
 (An (Hz Gq (Ab 0) (Ab 1) (Ab 2))
 (Ak Acu))
theorem Ff:Mon Ke:=by
 unfold Ke
 repeat (first | exact B7 _ | exact A8 _ | exact Dm _ | exact Dq _ | exact Dh _ _ _ | exact Fq | refine Dg ?_ ?_ | refine Dl ?_ | refine Dw ?_ | refine D7 ?_ ?_ ?_ | refine D8 ?_ | refine Dk ?_ | refine Ds ?_ ?_ ?_ | refine Dt ?_ ?_ | refine Du ?_ | refine Dy ?_ | refine Ed ?_ | refine Cy ?_ ?_ | refine C0 ?_ | refine Di ?_ ?_ | refine Dj ?_ ?_ | refine D9 ?_ | refine Ck ?_ | refine Ea ?_ | refine Dx ?_ | refine Eb ?_ | refine Ec ?_ | refine Ee ?_ | refine Ef ?_ | refine Dz ?_ | refine D0 ?_ | refine D1 ?_)
def Gr:E2 Rv:=By 3 3 Ke
theorem Aq4{P:Program}{w:World}{K:PySem.W.Frag}{mg:Str->Option Value}{base:Heap}{ca:Str->Addr}{Tb:LT}{sa:Addr}{sn:List Int}{f:Addr}{fd:FuncData}   (F:FunD K "_law_set" "_law_set" (defArgs K1) (defBody K1) (defScope K1) [] [] f fd)(put2:Q6 P mg base (gm K w ca Tb sa sn) 4 Gq) :
  FnG P w K mg base (L2.CX P w) 5 f fd ["_law_store", "_law_name_here", "_law_text"] (En (gm K w ca Tb sa sn) 3 Gr) :=
 Ow (k:=4) (B:=Ke) (N:=Acs) (ps:=["_law_store", "_law_name_here", "_law_text"]) F Aq3 fun cdv A outer s H E =>
 (Bt (Abq put2 (by decide) (Ac (i:=0) rfl (.inl rfl)) (Ac (i:=1) rfl (.inl rfl)) (Ac (i:=2) rfl (.inl rfl)))
 (B9 (Ay (B5 Cp))))
abbrev Acv:List Str:=["self", "name"]
theorem Aq5:FnScope Acv ["self", "name"] (defScope Rg):=⟨rfl,rfl,rfl,by decide +kernel,rfl,by decide +kernel,by decide +kernel⟩
def Vu:M Bool :=
 (fOr (Je (Cr (Ar Bg (Aa (Ab 1) (Aa (fC (.con (.ty "str"))) Af))))) (Bh (fOp (A0 inA true) (Ab 1) (Em "texts" (Ab 0)))))
def Rl:M Ctl :=
 (Lf "NoText" ["name"] (Aa (Ad (Ab 1)) Af))
def M9:W2 :=
 (An (if2 (rdT Vu)
  (Ak Rl)
  (Ak fNx))
 (ret2 (rd2 (fOp ixA (Em "texts" (Ab 0)) (Ab 1)))))
theorem Vw:Mon M9:=by
 unfold M9
 repeat (first | exact B7 _ | exact A8 _ | exact Dm _ | exact Dq _ | exact Dh _ _ _ | refine Dg ?_ ?_ | refine Dl ?_ | refine Dw ?_ | refine D7 ?_ ?_ ?_ | refine D8 ?_ | refine Dk ?_ | refine Ds ?_ ?_ ?_ | refine Dt ?_ ?_ | refine Du ?_ | refine Dy ?_ | refine Ed ?_ | refine Cy ?_ ?_ | refine C0 ?_ | refine Di ?_ ?_ | refine Dj ?_ ?_ | refine D9 ?_ | refine Ck ?_ | refine Ea ?_ | refine Dx ?_ | refine Eb ?_ | refine Ec ?_ | refine Ee ?_ | refine Ef ?_ | refine Dz ?_ | refine D0 ?_ | refine D1 ?_)
def Lu:E2 Rv:=By 2 2 M9
theorem Aq6{P:Program}{w:World}{K:PySem.W.Frag}{mg:Str->Option Value}{base:Heap}{ca:Str->Addr}{Tb:LT}{sa:Addr}{sn:List Int}{f:Addr}{fd:FuncData}   (F:FunD K "__getitem__" "Store.__getitem__" (defArgs Rg) (defBody Rg) (defScope Rg) [] [] f fd)(m_str:mg "str" = none)(m_isinstance:mg "isinstance" = none)(x_NoText:ExL P mg base (gm K w ca Tb sa sn) "NoText" ["name"] 1) :
  FnG P w K mg base (L2.CX P w) 3 f fd ["self", "name"] (En (gm K w ca Tb sa sn) 2 Lu) :=
 Ow (k:=2) (B:=M9) (N:=Acv) (ps:=["self", "name"]) F Aq5 fun cdv A outer s H E =>
 (Bt (Hw (Oz (VW.vt (Hn (L8 (Gf (Hu m_isinstance (Ae (Ac (i:=1) rfl (.inl rfl)) (Ae (Hl m_str (by decide +kernel)) Aj))))) (Jf (Qd (Ac (i:=1) rfl (.inl rfl)) (Fj (Ac (i:=0) rfl (.inl rfl))))))))
  (B9 (Ay (Uc x_NoText (by decide) rfl (Ae (Am (Ac (i:=1) rfl (.inl rfl))) Aj))))
  (B9 Cw))
 (J5 (Aoh (Mz (El (Fj (Ac (i:=0) rfl (.inl rfl))) (Ac (i:=1) rfl (.inl rfl)))))))
def Hh(c:Str):Option (E2 Rv):=if c = "Store" then some Lu else none
theorem F8:∀ c F,Hh c=some F->Ah F:=fun c F h=>by
 unfold Hh at h
 repeat (split at h; ·cases h; first | exact Ba Vw)
 cases h
abbrev Acw:List Str:=["self", "name"]
theorem Aq7:FnScope Acw ["self", "name"] (defScope K2):=⟨rfl,rfl,rfl,by decide +kernel,rfl,by decide +kernel,by decide +kernel⟩
def Rn:M Bool :=
 (fOr (Je (Cr (Ar Bg (Aa (Ab 1) (Aa (fC (.con (.ty "str"))) Af))))) (Bh (fOp (A0 inA true) (Ab 1) (Em "texts" (Ab 0)))))
def Ro:M Ctl :=
 (Lf "NoText" ["name"] (Aa (Ad (Ab 1)) Af))
def Kf:W2 :=
 (An (M3 (rd2 (Lc J9 "check_open" (Ab 0) Af)))
 (An (if2 (rdT Rn)
  (Ak Ro)
  (Ak fNx))
 (An (O3 (Jy "texts" (liftM (Ab 0))) (liftM (Ab 1)))
 (Jz Ct "names" 0 (rd2 (Ar Jl (Aa (Em "texts" (Ab 0)) Af)))))))
theorem Vx:Mon Kf:=by
 unfold Kf
 repeat (first | exact B7 _ | exact A8 _ | exact Dm _ | exact Dq _ | exact Dh _ _ _ | refine Dg ?_ ?_ | refine Dl ?_ | refine Dw ?_ | refine D7 ?_ ?_ ?_ | refine D8 ?_ | refine Dk ?_ | refine Ds ?_ ?_ ?_ | refine Dt ?_ ?_ | refine Du ?_ | refine Dy ?_ | refine Ed ?_ | refine Cy ?_ ?_ | refine C0 ?_ | refine Di ?_ ?_ | refine Dj ?_ ?_ | refine D9 ?_ | refine Ck ?_ | refine Ea ?_ | refine Dx ?_ | refine Eb ?_ | refine Ec ?_ | refine Ee ?_ | refine Ef ?_ | refine Dz ?_ | refine D0 ?_ | refine D1 ?_)
def Gu:E2 Rv:=By 2 2 Kf
theorem Aq8{P:Program}{w:World}{K:PySem.W.Frag}{mg:Str->Option Value}{base:Heap}{ca:Str->Addr}{Tb:LT}{sa:Addr}{sn:List Int}{f:Addr}{fd:FuncData}   (F:FunD K "remove" "Store.remove" (defArgs K2) (defBody K2) (defScope K2) [] [] f fd)(ml_check_open:Qk P mg base (gm K w ca Tb sa sn) "check_open" 1 J9)(m_str:mg "str" = none)(m_isinstance:mg "isinstance" = none)(x_NoText:ExL P mg base (gm K w ca Tb sa sn) "NoText" ["name"] 1)(n_Store_names:∀ c∈Ct,NoAttr K (ca c) "names")(m_sorted:mg "sorted" = none) :
  FnG P w K mg base (L2.CX P w) 3 f fd ["self", "name"] (En (gm K w ca Tb sa sn) 2 Gu) :=
 Ow (k:=2) (B:=Kf) (N:=Acw) (ps:=["self", "name"]) F Aq7 fun cdv A outer s H E =>
 (Bt (Abl (Mz (Yn ml_check_open (by decide) (Ac (i:=0) rfl (.inl rfl)))))
 (Bt (Hw (Oz (VW.vt (Hn (L8 (Gf (Hu m_isinstance (Ae (Ac (i:=1) rfl (.inl rfl)) (Ae (Hl m_str (by decide +kernel)) Aj))))) (Jf (Qd (Ac (i:=1) rfl (.inl rfl)) (Fj (Ac (i:=0) rfl (.inl rfl))))))))
  (B9 (Ay (Uc x_NoText (by decide) rfl (Ae (Am (Ac (i:=1) rfl (.inl rfl))) Aj))))
  (B9 Cw))
 (Bt (Aop (Abk (Io (Ac (i:=0) rfl (.inl rfl)))) (Io (Ac (i:=1) rfl (.inl rfl))))
 (J5 (Abm (i:=0) n_Store_names rfl (.inl rfl) (Mz (Y1 m_sorted (Ae (Fj (Ac (i:=0) rfl (.inl rfl))) Aj))))))))
def E4(c:Str):Option (E2 Rv):=if c = "Store" then some Gu else none
theorem F9:∀ c F,E4 c=some F->Ah F:=fun c F h=>by
 unfold E4 at h
 repeat (split at h; ·cases h; first | exact Ba Vx)
 cases h
abbrev Acx:List Str:=["self", "name"]
theorem Aq9:FnScope Acx ["self", "name"] (defScope K3):=⟨rfl,rfl,rfl,by decide +kernel,rfl,by decide +kernel,by decide +kernel⟩
def Rp:M Ctl :=
 (Bw (K6 (Ar Bg (Aa (Ab 1) (Aa (fC (.con (.ty "str"))) Af))) (fOp (A0 inA false) (Ab 1) (Em "texts" (Ab 0)))))
def Ga:List Sl->Res Rv:=fnF 2 2 Rp
theorem Ara{P:Program}{w:World}{K:PySem.W.Frag}{mg:Str->Option Value}{base:Heap}{ca:Str->Addr}{Tb:LT}{sa:Addr}{sn:List Int}{f:Addr}{fd:FuncData}   (F:FunD K "__contains__" "Store.__contains__" (defArgs K3) (defBody K3) (defScope K3) [] [] f fd)(m_str:mg "str" = none)(m_isinstance:mg "isinstance" = none) :
  FnG P w K mg base (L2.CX P w) 1 f fd ["self", "name"] (spV (gm K w ca Tb sa sn) 2 Ga) :=
 Et (k:=0) (B:=Rp) (N:=Acx) (ps:=["self", "name"]) F Aq9 fun cdv A outer s H E =>
 (Ay (B5 (Py (Hu m_isinstance (Ae (Ac (i:=1) rfl (.inl rfl)) (Ae (Hl m_str (by decide +kernel)) Aj))) (Px (X7 (Ac (i:=1) rfl (.inl rfl)) (Fj (Ac (i:=0) rfl (.inl rfl))))))))
def Lv(c:Str):Option (List Sl->Res Rv):=if c = "Store" then some Ga else none
abbrev Vy:List Str:=["_law_script", "_law_at", "_law_source_here", "_law_store", "_law_names", "_law_name_here", "_law_good", "_law_sign", "_law_place", "_law_bad", "_law_before", "_law_turn", "_law_is_new"]
theorem Arb:FnScope Vy ["_law_script"] (defScope E6):=⟨rfl,rfl,rfl,by decide +kernel,rfl,by decide +kernel,by decide +kernel⟩
def Rq:M Ctl :=
 (C9 2 (Az Iu (Aa (Ab 0) (Aa (Ab 1) Af))))
def Lw:M Rv :=
 (Az F7 (Aa (Ab 2) Af))
def Rr:M Ctl :=
 (C9 4 (Ad (fLc (Fv (Az Ei (Aa (Ab 2) (Aa (fC (.int 4)) Af)))) (Aq 11) (M.ret true) Lw [11])))
def Na:W2 :=
 (Hz Gq (Ab 3) (Ab 5) (fOp Bb (Ab 5) (fC (.str [32,97]))))
theorem Gv:Mon Na:=by
 unfold Na
 repeat (first | exact B7 _ | exact A8 _ | exact Dm _ | exact Dq _ | exact Dh _ _ _ | exact F8 | exact F9 | exact Fq | exact mo_A_law_1 | exact mo_A_law_2 | exact mo_A_law_3 | exact mo_A_law_4 | exact mo_A_law_5 | exact mo_A_law_6 | exact mo_A_law_7 | exact mo_L_law_2 | exact mo_L_law_3 | exact mo_L_law_4 | exact mo_L_law_5 | exact Ba Fc | exact Ba Ff | refine Dg ?_ ?_ | refine Dl ?_ | refine Dw ?_ | refine D7 ?_ ?_ ?_ | refine D8 ?_ | refine Dk ?_ | refine Ds ?_ ?_ ?_ | refine Dt ?_ ?_ | refine Du ?_ | refine Dy ?_ | refine Ed ?_ | refine Cy ?_ ?_ | refine C0 ?_ | refine Di ?_ ?_ | refine Dj ?_ ?_ | refine D9 ?_ | refine Ck ?_ | refine Ea ?_ | refine Dx ?_ | refine Eb ?_ | refine Ec ?_ | refine Ee ?_ | refine Ef ?_ | refine Dz ?_ | refine D0 ?_ | refine D1 ?_)
theorem Arc{e:Ve}{γ:Gh}{P:P2}:Na e γ P=(Hz Gq (Ab 3) (Ab 5) (fOp Bb (Ab 5) (fC (.str [32,97])))) e γ P:=rfl
def Ru:M Ctl :=
 (Mo 6 7 (Aa (Az F7 (Aa (Ab 2) Af)) (Aa (Az Eo (Aa (Ab 2) (Aa (fC (.str [65,48,32,45,95,39,46,90,57,126])) Af))) Af)))
def Rw:M Ctl :=
 (C9 8 (Az Ei (Aa (Ab 2) (Aa (fOp Bb (Ar B2 (Aa (Ab 6) Af)) (fC (.int 1))) Af))))
def Rx:M Ctl :=
 (C9 9 (Ad (A3 (Aa (Ad (fOp Bb (fOp Bb (fSl (Ab 6) (M.ret none) (K8 (Ab 8))) (Ab 7)) (fSl (Ab 6) (K8 (Ab 8)) (M.ret none)))) (Aa (fC (.str [])) (Aa (fC (.str [97,98,99,100,101,102,103,104,105,106,107,108,109])) (Aa (Ad (fOp Bb (Ab 6) (fOp Eu (Ab 6) (fC (.int 12))))) (Aa (Ad (U8 (Ab 6))) (Aa (fC .non) (Aa (fC (.int 0)) (Aa (fC (.int 1)) (Aa (fC (.bl true)) Af))))))))))))
def Ry:E2 Rv :=
 (call2 Gr (Aa (Ab 3) (Aa (Ab 5) (Aa (fC (.str [97])) Af))))
theorem mo_A_law_1:Ah Ry:=by
 unfold Ry
 repeat (first | exact B7 _ | exact A8 _ | exact Dm _ | exact Dq _ | exact Dh _ _ _ | exact F8 | exact F9 | exact Fq | exact mo_A_law_2 | exact mo_A_law_3 | exact mo_A_law_4 | exact mo_A_law_5 | exact mo_A_law_6 | exact mo_A_law_7 | exact Gv | exact mo_L_law_2 | exact mo_L_law_3 | exact mo_L_law_4 | exact mo_L_law_5 | exact Ba Fc | exact Ba Ff | refine Dg ?_ ?_ | refine Dl ?_ | refine Dw ?_ | refine D7 ?_ ?_ ?_ | refine D8 ?_ | refine Dk ?_ | refine Ds ?_ ?_ ?_ | refine Dt ?_ ?_ | refine Du ?_ | refine Dy ?_ | refine Ed ?_ | refine Cy ?_ ?_ | refine C0 ?_ | refine Di ?_ ?_ | refine Dj ?_ ?_ | refine D9 ?_ | refine Ck ?_ | refine Ea ?_ | refine Dx ?_ | refine Eb ?_ | refine Ec ?_ | refine Ee ?_ | refine Ef ?_ | refine Dz ?_ | refine D0 ?_ | refine D1 ?_)
def Acy:M Ctl :=
 (Bw (fC (.bl false)))
def Rz:E2 Rv :=
 (Ir Hh (Ab 3) (Ab 5))
theorem mo_A_law_2:Ah Rz:=by
 unfold Rz
 repeat (first | exact B7 _ | exact A8 _ | exact Dm _ | exact Dq _ | exact Dh _ _ _ | exact F8 | exact F9 | exact Fq | exact mo_A_law_1 | exact mo_A_law_3 | exact mo_A_law_4 | exact mo_A_law_5 | exact mo_A_law_6 | exact mo_A_law_7 | exact Gv | exact mo_L_law_2 | exact mo_L_law_3 | exact mo_L_law_4 | exact mo_L_law_5 | exact Ba Fc | exact Ba Ff | refine Dg ?_ ?_ | refine Dl ?_ | refine Dw ?_ | refine D7 ?_ ?_ ?_ | refine D8 ?_ | refine Dk ?_ | refine Ds ?_ ?_ ?_ | refine Dt ?_ ?_ | refine Du ?_ | refine Dy ?_ | refine Ed ?_ | refine Cy ?_ ?_ | refine C0 ?_ | refine Di ?_ ?_ | refine Dj ?_ ?_ | refine D9 ?_ | refine Ck ?_ | refine Ea ?_ | refine Dx ?_ | refine Eb ?_ | refine Ec ?_ | refine Ee ?_ | refine Ef ?_ | refine Dz ?_ | refine D0 ?_ | refine D1 ?_)
def Acz:M Ctl :=
 (Bw (fC (.bl false)))
def R0:E2 Rv :=
 (Gj E4 "remove" (Ab 3) (Aa (Ab 5) Af))
theorem mo_A_law_3:Ah R0:=by
 unfold R0
 repeat (first | exact B7 _ | exact A8 _ | exact Dm _ | exact Dq _ | exact Dh _ _ _ | exact F8 | exact F9 | exact Fq | exact mo_A_law_1 | exact mo_A_law_2 | exact mo_A_law_4 | exact mo_A_law_5 | exact mo_A_law_6 | exact mo_A_law_7 | exact Gv | exact mo_L_law_2 | exact mo_L_law_3 | exact mo_L_law_4 | exact mo_L_law_5 | exact Ba Fc | exact Ba Ff | refine Dg ?_ ?_ | refine Dl ?_ | refine Dw ?_ | refine D7 ?_ ?_ ?_ | refine D8 ?_ | refine Dk ?_ | refine Ds ?_ ?_ ?_ | refine Dt ?_ ?_ | refine Du ?_ | refine Dy ?_ | refine Ed ?_ | refine Cy ?_ ?_ | refine C0 ?_ | refine Di ?_ ?_ | refine Dj ?_ ?_ | refine D9 ?_ | refine Ck ?_ | refine Ea ?_ | refine Dx ?_ | refine Eb ?_ | refine Ec ?_ | refine Ee ?_ | refine Ef ?_ | refine Dz ?_ | refine D0 ?_ | refine D1 ?_)
def Ac0:M Ctl :=
 (Bw (fC (.bl false)))
def Kg:W2 :=
 (An (if2 (Hx (Ca (Hf (fun q_=>Az Fe (Aa (fC q_) (Aa (Ad (A3 (Aa (fC (.str [110,97,109,101])) (Aa (Ad (Ab 5)) (Aa (fC (.bl true)) (Aa (fC (.bl false)) Af)))))) Af))) (Bf (Cm Ej Cn Ry)))))
     (Ak Acy)
     (Ak fNx))
    (An (if2 (Hx (Ca (Hf (fun q_=>Az Fe (Aa (fC q_) (Aa (Ad (A3 (Aa (fC (.str [116,101,120,116])) (Aa (Ad (Ab 5)) (Aa (fC (.bl false)) (Aa (fC (.bl true)) Af)))))) Af))) (Bf (Cm Ej Cn Rz)))))
     (Ak Acz)
     (Ak fNx))
    (if2 (Hx (Ca (Hf (fun q_=>Az Fe (Aa (fC q_) (Aa (Ad (A3 (Aa (fC (.str [116,101,120,116])) (Aa (Ad (Ab 5)) (Aa (fC (.bl false)) (Aa (fC (.bl true)) Af)))))) Af))) (Bf (Cm Ej Cn R0)))))
     (Ak Ac0)
     (Ak fNx))))
theorem mo_L_law_2:Mon Kg:=by
 unfold Kg
 repeat (first | exact B7 _ | exact A8 _ | exact Dm _ | exact Dq _ | exact Dh _ _ _ | exact F8 | exact F9 | exact Fq | exact mo_A_law_1 | exact mo_A_law_2 | exact mo_A_law_3 | exact mo_A_law_4 | exact mo_A_law_5 | exact mo_A_law_6 | exact mo_A_law_7 | exact Gv | exact mo_L_law_3 | exact mo_L_law_4 | exact mo_L_law_5 | exact Ba Fc | exact Ba Ff | refine Dg ?_ ?_ | refine Dl ?_ | refine Dw ?_ | refine D7 ?_ ?_ ?_ | refine D8 ?_ | refine Dk ?_ | refine Ds ?_ ?_ ?_ | refine Dt ?_ ?_ | refine Du ?_ | refine Dy ?_ | refine Ed ?_ | refine Cy ?_ ?_ | refine C0 ?_ | refine Di ?_ ?_ | refine Dj ?_ ?_ | refine D9 ?_ | refine Ck ?_ | refine Ea ?_ | refine Dx ?_ | refine Eb ?_ | refine Ec ?_ | refine Ee ?_ | refine Ef ?_ | refine Dz ?_ | refine D0 ?_ | refine D1 ?_)
theorem Ard{e:Ve}{γ:Gh}{P:P2}:Kg e γ P=(An (if2 (Hx (Ca (Hf (fun q_=>Az Fe (Aa (fC q_) (Aa (Ad (A3 (Aa (fC (.str [110,97,109,101])) (Aa (Ad (Ab 5)) (Aa (fC (.bl true)) (Aa (fC (.bl false)) Af)))))) Af))) (Bf (Cm Ej Cn Ry)))))
     (Ak Acy)
     (Ak fNx))
    (An (if2 (Hx (Ca (Hf (fun q_=>Az Fe (Aa (fC q_) (Aa (Ad (A3 (Aa (fC (.str [116,101,120,116])) (Aa (Ad (Ab 5)) (Aa (fC (.bl false)) (Aa (fC (.bl true)) Af)))))) Af))) (Bf (Cm Ej Cn Rz)))))
     (Ak Acz)
     (Ak fNx))
    (if2 (Hx (Ca (Hf (fun q_=>Az Fe (Aa (fC q_) (Aa (Ad (A3 (Aa (fC (.str [116,101,120,116])) (Aa (Ad (Ab 5)) (Aa (fC (.bl false)) (Aa (fC (.bl true)) Af)))))) Af))) (Bf (Cm Ej Cn R0)))))
     (Ak Ac0)
     (Ak fNx)))) e γ P:=rfl
def R1:M Bool :=
 (fOr (Bh (fOp neG (Az Fd (Aa (Ab 3) Af)) (Ab 10))) (Bh (Mu Lv false (Ab 5) (Ab 3))))
def Ac1:M Ctl :=
 (Bw (fC (.bl false)))
def Lx:W2 :=
 (An (Jv 10 (Bf (rd2 (Az Fd (Aa (Ab 3) Af)))))
   (An (Ey (Fv (fC (.int 2))) (Aq 11)
    Kg)
   (if2 (rdT R1)
    (Ak Ac1)
    (Ak fNx))))
theorem mo_L_law_3:Mon Lx:=by
 unfold Lx
 repeat (first | exact B7 _ | exact A8 _ | exact Dm _ | exact Dq _ | exact Dh _ _ _ | exact F8 | exact F9 | exact Fq | exact mo_A_law_1 | exact mo_A_law_2 | exact mo_A_law_3 | exact mo_A_law_4 | exact mo_A_law_5 | exact mo_A_law_6 | exact mo_A_law_7 | exact Gv | exact mo_L_law_2 | exact mo_L_law_4 | exact mo_L_law_5 | exact Ba Fc | exact Ba Ff | refine Dg ?_ ?_ | refine Dl ?_ | refine Dw ?_ | refine D7 ?_ ?_ ?_ | refine D8 ?_ | refine Dk ?_ | refine Ds ?_ ?_ ?_ | refine Dt ?_ ?_ | refine Du ?_ | refine Dy ?_ | refine Ed ?_ | refine Cy ?_ ?_ | refine C0 ?_ | refine Di ?_ ?_ | refine Dj ?_ ?_ | refine D9 ?_ | refine Ck ?_ | refine Ea ?_ | refine Dx ?_ | refine Eb ?_ | refine Ec ?_ | refine Ee ?_ | refine Ef ?_ | refine Dz ?_ | refine D0 ?_ | refine D1 ?_)
theorem Are{e:Ve}{γ:Gh}{P:P2}:Lx e γ P=(An (Jv 10 (Bf (rd2 (Az Fd (Aa (Ab 3) Af)))))
   (An (Ey (Fv (fC (.int 2))) (Aq 11)
    Kg)
   (if2 (rdT R1)
    (Ak Ac1)
    (Ak fNx)))) e γ P:=rfl
def R3:M Ctl :=
 (C9 12 (fOp (A0 inA true) (Ab 5) (Ab 4)))
def Pe:E2 Rv :=
 (Gj E4 "remove" (Ab 3) (Aa (Ab 5) Af))
theorem mo_A_law_4:Ah Pe:=by
 unfold Pe
 repeat (first | exact B7 _ | exact A8 _ | exact Dm _ | exact Dq _ | exact Dh _ _ _ | exact F8 | exact F9 | exact Fq | exact mo_A_law_1 | exact mo_A_law_2 | exact mo_A_law_3 | exact mo_A_law_5 | exact mo_A_law_6 | exact mo_A_law_7 | exact Gv | exact mo_L_law_2 | exact mo_L_law_3 | exact mo_L_law_4 | exact mo_L_law_5 | exact Ba Fc | exact Ba Ff | refine Dg ?_ ?_ | refine Dl ?_ | refine Dw ?_ | refine D7 ?_ ?_ ?_ | refine D8 ?_ | refine Dk ?_ | refine Ds ?_ ?_ ?_ | refine Dt ?_ ?_ | refine Du ?_ | refine Dy ?_ | refine Ed ?_ | refine Cy ?_ ?_ | refine C0 ?_ | refine Di ?_ ?_ | refine Dj ?_ ?_ | refine D9 ?_ | refine Ck ?_ | refine Ea ?_ | refine Dx ?_ | refine Eb ?_ | refine Ec ?_ | refine Ee ?_ | refine Ef ?_ | refine Dz ?_ | refine D0 ?_ | refine D1 ?_)
def Vz:M Ctl :=
 (Bw (fC (.bl false)))
def R4:M Bool :=
 (Bh (fOp neG (Ou Kd (Ab 3) (Ab 5)) (fC (.str [98]))))
def R5:E2 Rv :=
 (call2 Gr (Aa (Ab 3) (Aa (Ab 5) (Aa (fC (.str [98])) Af))))
theorem mo_A_law_5:Ah R5:=by
 unfold R5
 repeat (first | exact B7 _ | exact A8 _ | exact Dm _ | exact Dq _ | exact Dh _ _ _ | exact F8 | exact F9 | exact Fq | exact mo_A_law_1 | exact mo_A_law_2 | exact mo_A_law_3 | exact mo_A_law_4 | exact mo_A_law_6 | exact mo_A_law_7 | exact Gv | exact mo_L_law_2 | exact mo_L_law_3 | exact mo_L_law_4 | exact mo_L_law_5 | exact Ba Fc | exact Ba Ff | refine Dg ?_ ?_ | refine Dl ?_ | refine Dw ?_ | refine D7 ?_ ?_ ?_ | refine D8 ?_ | refine Dk ?_ | refine Ds ?_ ?_ ?_ | refine Dt ?_ ?_ | refine Du ?_ | refine Dy ?_ | refine Ed ?_ | refine Cy ?_ ?_ | refine C0 ?_ | refine Di ?_ ?_ | refine Dj ?_ ?_ | refine D9 ?_ | refine Ck ?_ | refine Ea ?_ | refine Dx ?_ | refine Eb ?_ | refine Ec ?_ | refine Ee ?_ | refine Ef ?_ | refine Dz ?_ | refine D0 ?_ | refine D1 ?_)
def Ac2:M Ctl :=
 (Bw (fC (.bl false)))
def R6:M Bool :=
 (Bh (Mu Lv false (Ab 5) (Ab 3)))
def R7:E2 Rv :=
 (Gj E4 "remove" (Ab 3) (Aa (Ab 5) Af))
theorem mo_A_law_6:Ah R7:=by
 unfold R7
 repeat (first | exact B7 _ | exact A8 _ | exact Dm _ | exact Dq _ | exact Dh _ _ _ | exact F8 | exact F9 | exact Fq | exact mo_A_law_1 | exact mo_A_law_2 | exact mo_A_law_3 | exact mo_A_law_4 | exact mo_A_law_5 | exact mo_A_law_7 | exact Gv | exact mo_L_law_2 | exact mo_L_law_3 | exact mo_L_law_4 | exact mo_L_law_5 | exact Ba Fc | exact Ba Ff | refine Dg ?_ ?_ | refine Dl ?_ | refine Dw ?_ | refine D7 ?_ ?_ ?_ | refine D8 ?_ | refine Dk ?_ | refine Ds ?_ ?_ ?_ | refine Dt ?_ ?_ | refine Du ?_ | refine Dy ?_ | refine Ed ?_ | refine Cy ?_ ?_ | refine C0 ?_ | refine Di ?_ ?_ | refine Dj ?_ ?_ | refine D9 ?_ | refine Ck ?_ | refine Ea ?_ | refine Dx ?_ | refine Eb ?_ | refine Ec ?_ | refine Ee ?_ | refine Ef ?_ | refine Dz ?_ | refine D0 ?_ | refine D1 ?_)
def Ac3:M Ctl :=
 (Bw (fC (.bl false)))
def R8:E2 Rv :=
 (Ir Hh (Ab 3) (Ab 5))
theorem mo_A_law_7:Ah R8:=by
 unfold R8
 repeat (first | exact B7 _ | exact A8 _ | exact Dm _ | exact Dq _ | exact Dh _ _ _ | exact F8 | exact F9 | exact Fq | exact mo_A_law_1 | exact mo_A_law_2 | exact mo_A_law_3 | exact mo_A_law_4 | exact mo_A_law_5 | exact mo_A_law_6 | exact Gv | exact mo_L_law_2 | exact mo_L_law_3 | exact mo_L_law_4 | exact mo_L_law_5 | exact Ba Fc | exact Ba Ff | refine Dg ?_ ?_ | refine Dl ?_ | refine Dw ?_ | refine D7 ?_ ?_ ?_ | refine D8 ?_ | refine Dk ?_ | refine Ds ?_ ?_ ?_ | refine Dt ?_ ?_ | refine Du ?_ | refine Dy ?_ | refine Ed ?_ | refine Cy ?_ ?_ | refine C0 ?_ | refine Di ?_ ?_ | refine Dj ?_ ?_ | refine D9 ?_ | refine Ck ?_ | refine Ea ?_ | refine Dx ?_ | refine Eb ?_ | refine Ec ?_ | refine Ee ?_ | refine Ef ?_ | refine Dz ?_ | refine D0 ?_ | refine D1 ?_)
def Ac4:M Ctl :=
 (Bw (fC (.bl false)))
def Ly:W2 :=
 (An (Ak R3)
   (An (if2 (Ip (liftM (Cr (Ab 12))) (Ca (Fo neG (Cm Ej Cn Pe) (liftM (A3 (Aa (fC (.str [116,101,120,116])) (Aa (Ad (Ab 5)) (Aa (fC (.bl false)) (Aa (fC (.bl true)) Af)))))))))
    (Ak Vz)
    (Ak fNx))
   (An (if2 (or2 (Ca (Fo neG (Cm Ej Cn R5) (liftM (A3 Af)))) (rdT R4))
    (Ak Ac2)
    (Ak fNx))
   (An (if2 (or2 (Ca (Fo neG (Cm Ej Cn R7) (liftM (A3 Af)))) (rdT R6))
    (Ak Ac3)
    (Ak fNx))
   (if2 (Ca (Fo neG (Cm Ej Cn R8) (liftM (A3 (Aa (fC (.str [116,101,120,116])) (Aa (Ad (Ab 5)) (Aa (fC (.bl false)) (Aa (fC (.bl true)) Af))))))))
    (Ak Ac4)
    (Ak fNx))))))
theorem mo_L_law_4:Mon Ly:=by
 unfold Ly
 repeat (first | exact B7 _ | exact A8 _ | exact Dm _ | exact Dq _ | exact Dh _ _ _ | exact F8 | exact F9 | exact Fq | exact mo_A_law_1 | exact mo_A_law_2 | exact mo_A_law_3 | exact mo_A_law_4 | exact mo_A_law_5 | exact mo_A_law_6 | exact mo_A_law_7 | exact Gv | exact mo_L_law_2 | exact mo_L_law_3 | exact mo_L_law_5 | exact Ba Fc | exact Ba Ff | refine Dg ?_ ?_ | refine Dl ?_ | refine Dw ?_ | refine D7 ?_ ?_ ?_ | refine D8 ?_ | refine Dk ?_ | refine Ds ?_ ?_ ?_ | refine Dt ?_ ?_ | refine Du ?_ | refine Dy ?_ | refine Ed ?_ | refine Cy ?_ ?_ | refine C0 ?_ | refine Di ?_ ?_ | refine Dj ?_ ?_ | refine D9 ?_ | refine Ck ?_ | refine Ea ?_ | refine Dx ?_ | refine Eb ?_ | refine Ec ?_ | refine Ee ?_ | refine Ef ?_ | refine Dz ?_ | refine D0 ?_ | refine D1 ?_)
theorem Arf{e:Ve}{γ:Gh}{P:P2}:Ly e γ P=(An (Ak R3)
   (An (if2 (Ip (liftM (Cr (Ab 12))) (Ca (Fo neG (Cm Ej Cn Pe) (liftM (A3 (Aa (fC (.str [116,101,120,116])) (Aa (Ad (Ab 5)) (Aa (fC (.bl false)) (Aa (fC (.bl true)) Af)))))))))
    (Ak Vz)
    (Ak fNx))
   (An (if2 (or2 (Ca (Fo neG (Cm Ej Cn R5) (liftM (A3 Af)))) (rdT R4))
    (Ak Ac2)
    (Ak fNx))
   (An (if2 (or2 (Ca (Fo neG (Cm Ej Cn R7) (liftM (A3 Af)))) (rdT R6))
    (Ak Ac3)
    (Ak fNx))
   (if2 (Ca (Fo neG (Cm Ej Cn R8) (liftM (A3 (Aa (fC (.str [116,101,120,116])) (Aa (Ad (Ab 5)) (Aa (fC (.bl false)) (Aa (fC (.bl true)) Af))))))))
    (Ak Ac4)
    (Ak fNx)))))) e γ P:=rfl
def Nb:W2 :=
 (An (Ak Rq)
  (An (Jv 3 (J0 "Store" Iv (Aa (Mn "House" Iw (Aa (Az H6 (Aa (fC (.str [97,98])) Af)) (Aa (Oe "Chain" (Hg 1 2 Eh) (Aa (fC (.str [97,98])) (Aa (fC (.bl false)) Af))) Af))) Af)))
  (An (Ak Rr)
  (An (Ey (Dd (Ab 4)) (Aq 5)
   Na)
  (An (Ak Ru)
  (An (Ak Rw)
  (An (Ak Rx)
  (An (Ey (Dd (fOp Bb (Ab 9) (A3 (Aa (fC (.bl false)) (Aa (Ad (A3 (Aa (Ad (Ab 6)) Af))) (Aa (Ad (Hm (Aa (Ad (Ab 6)) Af))) (Aa (Ad (Jq (Lh (Ab 6) (fC (.int 1)) Lg))) (Aa (Ad (A3 Af)) (Aa (fC (.str [97,98,32,99])) Af))))))))) (Aq 5)
   Lx)
  (Ey (Dd (A3 (Aa (Ad (Ab 6)) (Aa (fC (.str [97,98,99,100,101,102,103,104,105,106,107,108])) (Aa (fC (.str [122])) Af))))) (Aq 5)
   Ly)))))))))
theorem mo_L_law_5:Mon Nb:=by
 unfold Nb
 repeat (first | exact B7 _ | exact A8 _ | exact Dm _ | exact Dq _ | exact Dh _ _ _ | exact F8 | exact F9 | exact Fq | exact mo_A_law_1 | exact mo_A_law_2 | exact mo_A_law_3 | exact mo_A_law_4 | exact mo_A_law_5 | exact mo_A_law_6 | exact mo_A_law_7 | exact Gv | exact mo_L_law_2 | exact mo_L_law_3 | exact mo_L_law_4 | exact Ba Fc | exact Ba Ff | refine Dg ?_ ?_ | refine Dl ?_ | refine Dw ?_ | refine D7 ?_ ?_ ?_ | refine D8 ?_ | refine Dk ?_ | refine Ds ?_ ?_ ?_ | refine Dt ?_ ?_ | refine Du ?_ | refine Dy ?_ | refine Ed ?_ | refine Cy ?_ ?_ | refine C0 ?_ | refine Di ?_ ?_ | refine Dj ?_ ?_ | refine D9 ?_ | refine Ck ?_ | refine Ea ?_ | refine Dx ?_ | refine Eb ?_ | refine Ec ?_ | refine Ee ?_ | refine Ef ?_ | refine Dz ?_ | refine D0 ?_ | refine D1 ?_)
theorem Arh{e:Ve}{γ:Gh}{P:P2}:Nb e γ P=(An (Ak Rq)
  (An (Jv 3 (J0 "Store" Iv (Aa (Mn "House" Iw (Aa (Az H6 (Aa (fC (.str [97,98])) Af)) (Aa (Oe "Chain" (Hg 1 2 Eh) (Aa (fC (.str [97,98])) (Aa (fC (.bl false)) Af))) Af))) Af)))
  (An (Ak Rr)
  (An (Ey (Dd (Ab 4)) (Aq 5)
   Na)
  (An (Ak Ru)
  (An (Ak Rw)
  (An (Ak Rx)
  (An (Ey (Dd (fOp Bb (Ab 9) (A3 (Aa (fC (.bl false)) (Aa (Ad (A3 (Aa (Ad (Ab 6)) Af))) (Aa (Ad (Hm (Aa (Ad (Ab 6)) Af))) (Aa (Ad (Jq (Lh (Ab 6) (fC (.int 1)) Lg))) (Aa (Ad (A3 Af)) (Aa (fC (.str [97,98,32,99])) Af))))))))) (Aq 5)
   Lx)
  (Ey (Dd (A3 (Aa (Ad (Ab 6)) (Aa (fC (.str [97,98,99,100,101,102,103,104,105,106,107,108])) (Aa (fC (.str [122])) Af))))) (Aq 5)
   Ly))))))))) e γ P:=rfl
def Ari:M Ctl :=
 (Bw (fC (.bl true)))
def Lz:W2 :=
 (An (Ey (Fv (Ar Mh (Aa (fC (.int 1)) (Aa (Ar Mi (Aa (fC (.int 3)) (Aa (Ar B2 (Aa (Ab 0) Af)) Af))) Af)))) (Aq 1)
  Nb)
 (Ak Ari))
theorem Arj:Mon Lz:=by
 unfold Lz
 repeat (first | exact B7 _ | exact A8 _ | exact Dm _ | exact Dq _ | exact Dh _ _ _ | exact F8 | exact F9 | exact Fq | exact mo_A_law_1 | exact mo_A_law_2 | exact mo_A_law_3 | exact mo_A_law_4 | exact mo_A_law_5 | exact mo_A_law_6 | exact mo_A_law_7 | exact Gv | exact mo_L_law_2 | exact mo_L_law_3 | exact mo_L_law_4 | exact mo_L_law_5 | exact Ba Fc | exact Ba Ff | refine Dg ?_ ?_ | refine Dl ?_ | refine Dw ?_ | refine D7 ?_ ?_ ?_ | refine D8 ?_ | refine Dk ?_ | refine Ds ?_ ?_ ?_ | refine Dt ?_ ?_ | refine Du ?_ | refine Dy ?_ | refine Ed ?_ | refine Cy ?_ ?_ | refine C0 ?_ | refine Di ?_ ?_ | refine Dj ?_ ?_ | refine D9 ?_ | refine Ck ?_ | refine Ea ?_ | refine Dx ?_ | refine Eb ?_ | refine Ec ?_ | refine Ee ?_ | refine Ef ?_ | refine Dz ?_ | refine D0 ?_ | refine D1 ?_)
def V0:E2 Rv:=By 1 13 Lz
theorem o_law{P:Program}{w:World}{K:PySem.W.Frag}{mg:Str->Option Value}{base:Heap}{ca:Str->Addr}{Tb:LT}{sa:Addr}{sn:List Int}{f:Addr}{fd:FuncData}  {c_law:Addr}{P_law:Addr}(F:FunD K "law" "law" (defArgs E6) (defBody E6) (defScope E6) [] [] f fd)(m_range:mg "range" = none)(m_len:mg "len" = none)(m_min:mg "min" = none)(m_max:mg "max" = none)(d_law_source:Df P mg base (gm K w ca Tb sa sn) "_law_source" [] 1 Iu)(mk_Store:Mk2 P mg base (gm K w ca Tb sa sn) "Store" "Store" 1 Iv)(mk_House:Mk' P mg base (gm K w ca Tb sa sn) "House" "House" [] 1 Iw)(mk_Chain_letters_keep_places:Mk' P mg base (gm K w ca Tb sa sn) "Chain" "Chain" ["letters", "keep_places"] 2 (Hg 1 2 Eh))(f_Chain_plain:CfS P mg base (gm K w ca Tb sa sn) "Chain" "plain" 4 H6)(d_law_pick:Df P mg base (gm K w ca Tb sa sn) "_law_pick" [] 1 Ei)(d_law_name:Df P mg base (gm K w ca Tb sa sn) "_law_name" [] 3 F7)(put2:Q6 P mg base (gm K w ca Tb sa sn) 4 Gq)(d_law_one:Df P mg base (gm K w ca Tb sa sn) "_law_one" [] 2 Eo)(d_law_state:Df P mg base (gm K w ca Tb sa sn) "_law_state" [] 5 Fd)(d_law_same:Df P mg base (gm K w ca Tb sa sn) "_law_same" [] 1 Fe)(tol_law_refused:M6 P mg base (gm K w ca Tb sa sn) "_law_refused" Ej Cn)(tb_law:LamX.TabB base mg c_law P_law)(hc_law:fd.code=.ref c_law)(tm_law:(P_law,("law" : Str) ++ ".<locals>." ++ "<lambda>")∈Tb.tabs)(tu_law:∀ p∈Tb.tabs,p.1=P_law->p.2=("law" : Str) ++ ".<locals>." ++ "<lambda>")(d_law_set:Df2 P mg base (gm K w ca Tb sa sn) "_law_set" 5 Gr)(itmd2:U2 P mg base (gm K w ca Tb sa sn) 3 Hh)(m2_remove:Uu P mg base (gm K w ca Tb sa sn) "remove" 3 E4)(cond:SpD "__contains__" P mg base (gm K w ca Tb sa sn) 1 Lv)(itmd:Qz P mg base (gm K w ca Tb sa sn) 3 Kd) :
  FnG P w K mg base (L2.CX P w) 8 f fd ["_law_script"] (En (gm K w ca Tb sa sn) 1 V0) :=
 Apq (k:=7) (B:=Lz) (N:=Vy) (ps:=["_law_script"]) F hc_law Arb fun A outer s H E =>
 (Bt (Ov (Pz m_range (Agw m_max (Ae Au (Ae (Agx m_min (Ae Au (Ae (Ld m_len (Ae (Ac (i:=0) rfl (.inl rfl)) Aj)) Aj))) Aj)))) (Es (i:=1) rfl (.inl rfl))
  (Bt (Jt (Fu (i:=2) rfl (.inr rfl) (E9 d_law_source (by decide) rfl (Ae (Ac (i:=0) rfl (.inl rfl)) (Ae (Ac (i:=1) rfl (.inl rfl)) Aj)))))
  (Bt (Aa9 (i:=3) rfl (.inr rfl) (Aov mk_Store (by decide) rfl (Ae (Yi mk_House (by decide) rfl (Ae (An5 f_Chain_plain (by decide) rfl (Ae Cp Aj)) (Ae (Ags mk_Chain_letters_keep_places (by decide) rfl (Yj Cp (Yj Bu Agh)) (Yz (Yz Ag1))) Aj))) Aj)))
  (Bt (Jt (An8 (i:=4) rfl rfl (sw_true rfl rfl rfl (by decide +kernel)) (own:=[("_law_turn",11)]) (Pz m_range (E9 d_law_pick (by decide) rfl (Ae (Ac (i:=2) rfl (.inr (.inl rfl))) (Ae Au Aj)))) (blkOk_by (own:=[("_law_turn",11)]) (N:=Vy) (sc:=defScope E6) (by decide +kernel)) (by decide) (fun _ _ _ _ _=>(Es (i:=11) rfl (.inl rfl))) (fun _ _ _ _ _=>N1) (fun _ _ _ _ _=>(E9 d_law_name (by decide) rfl (Ae (Ac (i:=2) rfl (by first | exact .inr (.inr rfl) | exact .inr (.inl rfl) | exact .inl rfl)) Aj)))))
  (Bt (Ov (Ny (Ac (i:=4) rfl (.inl rfl))) (Es (i:=5) rfl (.inr rfl))
   (J5 (Abq put2 (by decide) (Ac (i:=3) rfl (.inr (.inl rfl))) (Ac (i:=5) rfl (.inr (.inl rfl))) (Fl (Ac (i:=5) rfl (.inr (.inl rfl))) Cp))))
  (Bt (Jt (Agr (i:=6) (j:=7) rfl rfl rfl rfl (Ae (E9 d_law_name (by decide) rfl (Ae (Ac (i:=2) rfl (.inr (.inl rfl))) Aj)) (Ae (E9 d_law_one (by decide) rfl (Ae (Ac (i:=2) rfl (.inr (.inl rfl))) (Ae Cp Aj))) Aj))))
  (Bt (Jt (Fu (i:=8) rfl (.inl rfl) (E9 d_law_pick (by decide) rfl (Ae (Ac (i:=2) rfl (.inr (.inl rfl))) (Ae (Fl (Ld m_len (Ae (Ac (i:=6) rfl (.inl rfl)) Aj)) Au) Aj)))))
  (Bt (Jt (Fu (i:=9) rfl (.inl rfl) (Am (Er (Ae (Am (Fl (Fl (Qg (Ac (i:=6) rfl (.inl rfl)) Qe (Qf (Ac (i:=8) rfl (.inl rfl)))) (Ac (i:=7) rfl (.inl rfl))) (Qg (Ac (i:=6) rfl (.inl rfl)) (Qf (Ac (i:=8) rfl (.inl rfl))) Qe))) (Ae Cp (Ae Cp (Ae (Am (Fl (Ac (i:=6) rfl (.inl rfl)) (Qo (Ac (i:=6) rfl (.inl rfl)) Au))) (Ae (Am (Apu (Ac (i:=6) rfl (.inl rfl)))) (Ae Xg (Ae Au (Ae Au (Ae Bu Aj)))))))))))))
  (Bt (Ov (Ny (Fl (Ac (i:=9) rfl (.inl rfl)) (Er (Ae Bu (Ae (Am (Er (Ae (Am (Ac (i:=6) rfl (.inl rfl))) Aj))) (Ae (Am (S2 (Ae (Am (Ac (i:=6) rfl (.inl rfl))) Aj))) (Ae (Am (Ahe (Ahd (Ac (i:=6) rfl (.inl rfl)) Au Ahc))) (Ae (Am (Er Aj)) (Ae Cp Aj))))))))) (Es (i:=5) rfl (.inr rfl))
   (Bt (Aa9 (i:=10) rfl (.inl rfl) (F0 (Mz (E9 d_law_state (by decide) rfl (Ae (Ac (i:=3) rfl (.inr (.inl rfl))) Aj)))))
   (Bt (Ov (Pz m_range Au) (Es (i:=11) rfl (.inl rfl))
    (Bt (Hw (Uo (Uw (U3 d_law_same (by decide) rfl (F0 (Ln (j:=5) tol_law_refused (by decide) rfl tb_law rfl tm_law tu_law (LamX.lamS_by (show LamX.lamSB (defScope E6) _=true from by decide +kernel)) mo_A_law_1 (fun A outer s H E f c'=>(Abo d_law_set (by decide) rfl (Ae (Ac (i:=3) rfl (.inr (.inr rfl))) (Ae (Ac (i:=5) rfl (.inr (.inr rfl))) (Ae Cp Aj))))))) (Ae (Am (Er (Ae Cp (Ae (Am (Ac (i:=5) rfl (.inr (.inl rfl)))) (Ae Bu (Ae Bu Aj)))))) Aj))))
     (B9 (Ay (B5 Bu)))
     (B9 Cw))
    (Bt (Hw (Uo (Uw (U3 d_law_same (by decide) rfl (F0 (Ln (j:=4) tol_law_refused (by decide) rfl tb_law rfl tm_law tu_law (LamX.lamS_by (show LamX.lamSB (defScope E6) _=true from by decide +kernel)) mo_A_law_2 (fun A outer s H E f c'=>(Ab1 itmd2 (by decide) (Ac (i:=3) rfl (.inr (.inr rfl))) (Ac (i:=5) rfl (.inr (.inr rfl))))))) (Ae (Am (Er (Ae Cp (Ae (Am (Ac (i:=5) rfl (.inr (.inl rfl)))) (Ae Bu (Ae Bu Aj)))))) Aj))))
     (B9 (Ay (B5 Bu)))
     (B9 Cw))
    (J5 (Hw (Uo (Uw (U3 d_law_same (by decide) rfl (F0 (Ln (j:=3) tol_law_refused (by decide) rfl tb_law rfl tm_law tu_law (LamX.lamS_by (show LamX.lamSB (defScope E6) _=true from by decide +kernel)) mo_A_law_3 (fun A outer s H E f c'=>(Uv m2_remove (by decide) (Ac (i:=3) rfl (.inr (.inr rfl))) (Ae (Ac (i:=5) rfl (.inr (.inr rfl))) Aj))))) (Ae (Am (Er (Ae Cp (Ae (Am (Ac (i:=5) rfl (.inr (.inl rfl)))) (Ae Bu (Ae Bu Aj)))))) Aj))))
     (B9 (Ay (B5 Bu)))
     (B9 Cw))))))
   (J5 (Hw (Oz (VW.vt (Hn (Hb Jk (E9 d_law_state (by decide) rfl (Ae (Ac (i:=3) rfl (.inr (.inl rfl))) Aj)) (Ac (i:=10) rfl (.inl rfl))) (Jf (Aal (neg:=false) (.inl ⟨rfl,rfl⟩) cond (by decide) (Ac (i:=5) rfl (.inr (.inl rfl))) (Ac (i:=3) rfl (.inr (.inl rfl))))))))
    (B9 (Ay (B5 Bu)))
    (B9 Cw))))))
  (J5 (Ov (Ny (Er (Ae (Am (Ac (i:=6) rfl (.inl rfl))) (Ae Cp (Ae Cp Aj))))) (Es (i:=5) rfl (.inr rfl))
   (Bt (Jt (Fu (i:=12) rfl (.inl rfl) (X8 (Ac (i:=5) rfl (.inr (.inl rfl))) (Ac (i:=4) rfl (.inl rfl)))))
   (Bt (Hw (VW2.vt (Aoj (Aof (Gf (Ac (i:=12) rfl (.inl rfl)))) (Aoi (Q8 Jk (Ln (j:=3) tol_law_refused (by decide) rfl tb_law rfl tm_law tu_law (LamX.lamS_by (show LamX.lamSB (defScope E6) _=true from by decide +kernel)) mo_A_law_4 (fun A outer s H E f c'=>(Uv m2_remove (by decide) (Ac (i:=3) rfl (.inr (.inr rfl))) (Ae (Ac (i:=5) rfl (.inr (.inr rfl))) Aj)))) (Io (Er (Ae Cp (Ae (Am (Ac (i:=5) rfl (.inr (.inl rfl)))) (Ae Bu (Ae Bu Aj))))))))))
    (B9 (Ay (B5 Bu)))
    (B9 Cw))
   (Bt (Hw (VW2.vt (Aa8 (Q8 Jk (Ln (j:=5) tol_law_refused (by decide) rfl tb_law rfl tm_law tu_law (LamX.lamS_by (show LamX.lamSB (defScope E6) _=true from by decide +kernel)) mo_A_law_5 (fun A outer s H E f c'=>(Abo d_law_set (by decide) rfl (Ae (Ac (i:=3) rfl (.inr (.inr rfl))) (Ae (Ac (i:=5) rfl (.inr (.inr rfl))) (Ae Cp Aj)))))) (Io (Er Aj))) (Aa7 (Oz (Hb Jk (Aax itmd (by decide) (Ac (i:=3) rfl (.inr (.inl rfl))) (Ac (i:=5) rfl (.inr (.inl rfl)))) Cp)))))
    (B9 (Ay (B5 Bu)))
    (B9 Cw))
   (Bt (Hw (VW2.vt (Aa8 (Q8 Jk (Ln (j:=3) tol_law_refused (by decide) rfl tb_law rfl tm_law tu_law (LamX.lamS_by (show LamX.lamSB (defScope E6) _=true from by decide +kernel)) mo_A_law_6 (fun A outer s H E f c'=>(Uv m2_remove (by decide) (Ac (i:=3) rfl (.inr (.inr rfl))) (Ae (Ac (i:=5) rfl (.inr (.inr rfl))) Aj)))) (Io (Er Aj))) (Aa7 (Oz (Aal (neg:=false) (.inl ⟨rfl,rfl⟩) cond (by decide) (Ac (i:=5) rfl (.inr (.inl rfl))) (Ac (i:=3) rfl (.inr (.inl rfl))))))))
    (B9 (Ay (B5 Bu)))
    (B9 Cw))
   (J5 (Hw (Q8 Jk (Ln (j:=4) tol_law_refused (by decide) rfl tb_law rfl tm_law tu_law (LamX.lamS_by (show LamX.lamSB (defScope E6) _=true from by decide +kernel)) mo_A_law_7 (fun A outer s H E f c'=>(Ab1 itmd2 (by decide) (Ac (i:=3) rfl (.inr (.inr rfl))) (Ac (i:=5) rfl (.inr (.inr rfl)))))) (Io (Er (Ae Cp (Ae (Am (Ac (i:=5) rfl (.inr (.inl rfl)))) (Ae Bu (Ae Bu Aj)))))))
    (B9 (Ay (B5 Bu)))
    (B9 Cw))))))))))))))))))
 (B9 (Ay (B5 Bu))))
def R9:List Nat:=[39,45,65,66,67,68,69,70,71,72,73,74,75,76,77,78,79,80,81,82,83,84,85,86,87,88,89,90,97,98,99,100,101,102,103,104,105,106,107,108,109,110,111,112,113,114,115,116,117,118,119,120,121,122]
theorem Ac5{α:Type}(l:List α)(i:Int)(h0:0<=i)(h1:i<l.length):∃ x∈l,atI l i=some x:=by
 have hlt:i.toNat<l.length:=by omega
 refine ⟨l[i.toNat],List.getElem_mem hlt,?_⟩
 unfold atI ixN
 rw [if_pos h0,if_pos h1]
 exact List.getElem?_eq_getElem hlt
theorem Ark(l:List Nat)(i:Int)(h0:0<=i)(h1:i<l.length)(hz:l.length<=100000):∃ x∈l,ixA (.str l) (.int i)=some (.val (.str [x])):=by
 obtain ⟨x,hx,e⟩:=Ac5 l i h0 h1
 refine ⟨x,hx,?_⟩
 show (match (if l.length<=sizeLine then (atI l i).map fun c=>Rv.val (D.str [c]) else none) with | some r=>some r | none=>_)=_
 rw [if_pos (by rw [sizeLine_eq]; omega),e]
 rfl
theorem Arl(l:List Nat):G8 (l.map fun x=>.str [x])=some (l.map fun x=>[x]):=by
 induction l with
 | nil=>rfl
 | cons a r ih=>simp [G8,ih]
theorem join_one(l:List Nat):TL.joinL [] (l.map fun x=>[x])=l:=by
 rw [Xc]
 induction l with
 | nil=>rfl
 | cons a r ih=>simp [ih]
theorem Xb(l:List Nat):((l.map fun x=>[x]).map (·.length)).sum=l.length:=by
 induction l with
 | nil=>rfl
 | cons a r ih=>simp at ih ⊢; omega
def ones(l:List Nat):List (List Nat):=l.map fun c=>[c]
theorem Arm(c:Nat)(cs:List Nat):A0 inA false (.str [c]) (.str cs)=some (.val (.bl (decide (c∈cs)))):=rfl
theorem Ac6(cs:List Nat)(a:Sl):∀ l:List Nat,lcL (Aq 2) (M.ret true) Vm [2] (l.map fun c=>.str [c]) [a,.sh (.str cs),.un]=.ok (l.map fun c=>.bl (decide (c∈cs))) [a,.sh (.str cs),.un]
 | []=>rfl
 | c::l=>by
  rw [List.map_cons,Qr]
  simp_arith! [Aqk,Arm,Ac6 cs a l]
  rfl
theorem Arn{α:Type}(p:α->Bool)(l:List α):G9 (l.map fun c=>D.bl (p c))=some (l.map p):=by
 induction l with
 | nil=>rfl
 | cons a r ih=>simp [G9,ih]
theorem V1(l cs:List Nat)(hl:l.length<=100000):Iy [.sh (.str l),.sh (.str cs)]=.ok (.val (.bl (!decide (l=[])&&l.all fun c=>decide (c∈cs)))) [.sh (.str l),.sh (.str cs)]:=by
 unfold Iy Rj
 have h1:Bg [.str l,.con (.ty "str")]=some (.val (.bl true)):=rfl
 have h2:decide ((l.map fun c=>D.bl (decide (c∈cs))).length<=sizeLine)=true:=decide_eq_true (by rw [sizeLine_eq,List.length_map]; omega)
 have h3:N9 [.lst (l.map fun c=>D.bl (decide (c∈cs)))]=some (.val (.bl (l.all fun c=>decide (c∈cs)))):=by
  show (G9 (l.map fun c=>D.bl (decide (c∈cs)))).map (fun bs=>Rv.val (.bl (bs.all id)))=_
  rw [Arn (fun c=>decide (c∈cs))]
  simp [Function.comp_def]
 cases ha:decide (l=[])
 ·simp_arith! [h1,ha,Ac6 cs _ l,h2,h3]
 ·simp_arith! [h1,ha]
theorem Sa{a b:List Nat}(h:a.length+b.length<=16777216):Bb (.str a) (.str b)=some (.val (.str (a++b))):=by
 show (if a.length+b.length<=sizeLine then some (Rv.val (D.str (a++b))) else none)=_
 rw [if_pos (by rw [sizeLine_eq]; exact h)]
def fits(lo:Int)(hi:D)(n:Nat):Bool:=decide (lo<=(n:Int))&&(match hi with | .int h=>decide ((n:Int)<=h) | _=>true)
def Arg(s:Sl)(d:D):Prop:=s=.sh d\/s=.bo d
theorem Ac7(i:Int)(j:Nat)(h0:-1152921504606846976<i)(h1:i<1152921504606846976)(hj:j<=1000):Ih (.int i) (.int j)=some (.val (.int (i ^ j))):=by
 show (if 0<=(j:Int)/\(j:Int)<=1000/\-(2 ^ 60)<i/\i<2 ^ 60 then some (.int (i ^ (j:Int).toNat)) else none:Option D).map Rv.val=_
 rw [if_pos ⟨by omega,by omega,by omega,by omega⟩]
 rfl
def IsSrc(n:Nat)(d:D):Prop:=∃ c b k,d=.lst [.int c,.int b,.int k]/\0<=b/\b<2000000000000/\0<=k/\k<=n
theorem Aro(c b k m:Int)(h0:0<m)(h1:m<2 ^ 200)(b0:0<=b)(b1:b<2000000000000)(k0:0<=k)(k1:k<1000000000):∃ i c' k',0<=i/\i<m/\k<=k'/\k'<=k+1 /\
  Ei [.bo (.lst [.int c,.int b,.int k]),.sh (.int m)]=.ok (.val (.int i)) [.bo (.lst [.int c',.int b,.int k']),.sh (.int m)]:=by
 have e1:∀ c,0<=c % m:=fun c=>Int.emod_nonneg _ (by omega)
 have e2:∀ c,c % m<m:=fun c=>Int.emod_lt_of_pos _ h0
 have p1:=Ac7 (b+7368787*(k+1)) 2 (by omega) (by omega) (by omega)
 have m0:∀ x:Int,0<=x % 1000000000000037:=fun x=>Int.emod_nonneg _ (by omega)
 have m1:∀ x:Int,x % 1000000000000037<1000000000000037:=fun x=>Int.emod_lt_of_pos _ (by omega)
 have p2:∀ x:Int,Ih (.int (x % 1000000000000037+15485863*(k+1))) (.int 3)=some (.val (.int ((x % 1000000000000037+15485863*(k+1)) ^ 3))):=fun x=>Ac7 _ 3 (by have:=m0 x; omega) (by have:=m1 x; omega) (by omega)
 have p1:Ih (.int (b+7368787*(k+1))) (.int 2)=some (.val (.int ((b+7368787*(k+1)) ^ 2))):=p1
 have q1:Eu (.int 7368787) (.int (k+1))=some (.val (.int (7368787*(k+1)))):=Qs (by omega) (by omega)
 have q2:Eu (.int 15485863) (.int (k+1))=some (.val (.int (15485863*(k+1)))):=Qs (by omega) (by omega)
 unfold Ei Vh
 cases hc:decide (0<c) <;> simp_arith! [hc,h0,p1,p2,q1,q2,Aad (i:=c) h0 h1]
 all_goals refine ⟨_,_,_,e1 _,e2 _,?_,?_,rfl⟩ <;> omega
theorem Sb(d:D)(n:Nat)(m:Int)(hd:IsSrc n d)(hn:n<1000000)(h0:0<m)(h1:m<2 ^ 200):∃ i d',0<=i/\i<m/\IsSrc (n+1) d'/\Ei [.bo d,.sh (.int m)]=.ok (.val (.int i)) [.bo d',.sh (.int m)]:=by
 obtain ⟨c,b,k,rfl,b0,b1,k0,k1⟩:=hd
 obtain ⟨i,c',k',i0,i1,k2,k3,e⟩:=Aro c b k m h0 h1 b0 b1 k0 (by omega)
 exact ⟨i,_,i0,i1,⟨c',b,k',rfl,b0,b1,by omega,by omega⟩,e⟩
theorem Ac8(i:Int):N8 [.int i]=some (.val (.int i.natAbs)):=by
 have e:(if i<0 then -i else i)=(i.natAbs:Int):=by split <;> omega
 show some (Rv.val (D.int (if i<0 then -i else i)))=_
 rw [e]
theorem Arp(ns:List Int)(a:Int)(h0:0<=a)(h1:a<1000):∃ d,IsSrc 0 d/\Iu [.sh (.scr ns),.sh (.int a)]=.ok (.fresh d) [.sh (.scr ns),.sh (.int a)]:=by
 have m0:∀ x:Int,0<=x % 1000000000039:=fun x=>Int.emod_nonneg _ (by omega)
 have m1:∀ x:Int,x % 1000000000039<1000000000039:=fun x=>Int.emod_lt_of_pos _ (by omega)
 have fin:∀ c x:Int,IsSrc 0 (.lst [.int c,.int (x % 1000000000039+11*a+5),.int 0]):=fun c x=>⟨c,_,0,rfl,by have:=m0 x; omega,by have:=m1 x; omega,by omega,by omega⟩
 have hm:Eu (.int 11) (.int a)=some (.val (.int (11*a))):=Qs (by omega) (by omega)
 unfold Iu U9
 cases hk:decide (a<ns.length)
 ·simp_arith! [hk,hm,Ac8]
  exact ⟨_,fin _ _,rfl⟩
 ·have hk:=of_decide_eq_true hk
  have hx:atI ns a=some (ns[a.toNat]'(by omega)):=by
   unfold atI ixN
   rw [if_pos h0,if_pos hk]
   simp
  cases hg:decide (1000000000000000000<=(↑(ns[a.toNat]'(by omega)).natAbs:Int)) <;> simp_arith! [decide_eq_true hk,hx,hm,hg,Ac8]
  all_goals exact ⟨_,fin _ _,rfl⟩
theorem Ac9(d:D)(n:Nat)(l:List Nat)(hd:IsSrc n d)(hn:n<1000000)(hl:l≠[])(hz:l.length<=100000):∃ x∈l,∃ d',IsSrc (n+1) d'/\Eo [.bo d,.sh (.str l)]=.ok (.val (.str [x])) [.bo d',.sh (.str l)]:=by
 have hp:0<l.length:=List.length_pos_iff.mpr hl
 obtain ⟨i,d',i0,i1,s',e⟩:=Sb d n l.length hd hn (by omega) (by omega)
 obtain ⟨x,hx,hi⟩:=Ark l i i0 i1 hz
 refine ⟨x,hx,d',s',?_⟩
 have hlen:B2 [.str l]=some (.val (.int l.length)):=Aaf (by omega)
 unfold Eo Ri
 simp_arith! [hlen,e,hi]
def sg(l:List Nat):List D:=l.map fun c=>.str [c]
theorem IsSrc.mono{n m:Nat}{d:D}(h:IsSrc n d)(hm:n<=m):IsSrc m d:=by
 obtain ⟨c,b,k,e,x1,x2,x3,x4⟩:=h
 exact ⟨c,b,k,e,x1,x2,x3,by omega⟩
def Ada:List Nat:=[32,33,34,35,36,38,39,40,41,42,43,44,45,46,47,48,49,50,51,52,53,54,55,56,57,58,59,60,61,62,63,64,65,66,67,68,69,70,71,72,73,74,75,76,77,78,79,80,81,82,83,84,85,86,87,88,89,90,91,92,93,94,95,96,97,98,99,100,101,102,103,104,105,106,107,108,109,110,111,112,113,114,115,116,117,118,119,120,121,122,123,124,125,126]
inductive IsVal:Nat->D->Prop
 | non (n:Nat):IsVal n .non
 | bl (n:Nat) (b:Bool):IsVal n (.bl b)
 | int (n:Nat) (i:Int) (h1:-(10 ^ 30)<=i) (h2:i<=10 ^ 30):IsVal n (.int i)
 | str (n:Nat) (l:List Nat) (h:l.length<=6) (hm:∀ x∈l,x∈Ada):IsVal n (.str l)
 | lst (n:Nat) (ds:List D) (h:ds.length<=3) (hd:∀ d∈ds,IsVal n d):IsVal (n+1) (.lst ds)
 | tup (n:Nat) (ds:List D) (h:ds.length<=3) (hd:∀ d∈ds,IsVal n d):IsVal (n+1) (.tup ds)
 | dct (n:Nat) (kvs:List (List Nat×D)) (h:kvs.length<=3) (hk:∀ p∈kvs,p.1.length<=2/\∀ x∈p.1,x∈Ada) (hd:∀ p∈kvs,IsVal n p.2) (nd:(kvs.map (·.1)).Nodup):IsVal (n+1) (.dct kvs)
def Gave(r:Rv)(d:D):Prop:=r=.val d\/r=.fresh d
def Draws(n:Nat)(z:Int)(R:List Sl->Res Rv):Prop:=∀ c f r:Int,∃ (v:Rv) (d:D) (c' r':Int),Gave v d/\IsVal n d/\R [.bo (.lst [.int c,.int f,.int r]),.sh (.int z)]=.ok v [.bo (.lst [.int c',.int f,.int r']),.sh (.int z)]
def Pf:D->Bool
 | .non=>true
 | .bl _=>true
 | .int _=>true
 | .str _=>true
 | .lst _=>true
 | .tup _=>true
 | .dct _=>true
 | _=>false
theorem IsVal.plain{n:Nat}{d:D}(h:IsVal n d):Pf d=true:=by cases h <;> rfl
def textOf(cs:List Nat):D->Bool
 | .str l=>!decide (l=[])&&l.all fun c=>decide (c∈cs)
 | _=>false
def isT:D->Bool
 | .str _=>true
 | _=>false
theorem Adb{d:D}(h:Pf d=true):Bg [d,.con (.ty "str")]=some (.val (.bl (isT d))):=by cases d <;> first | rfl | cases h
def Adc(n:Nat):D->Prop
 | .str l=>l.length<=n
 | _=>True
theorem Arq(d:D)(cs:List Nat)(h:Pf d=true)(hl:Adc 100000 d):Iy [.sh d,.sh (.str cs)]=.ok (.val (.bl (textOf cs d))) [.sh d,.sh (.str cs)]:=by
 by_cases t:isT d=true
 ·cases d with
  | str l=>exact V1 l cs hl
  | _=>cases t
 ·have hi:=Adb h
  rw [Bool.eq_false_iff.mpr t] at hi
  have e:textOf cs d=false:=by cases d <;> first | rfl | exact absurd rfl t
  rw [e]
  unfold Iy Rj
  simp_arith! [hi]
theorem Ars(d:D)(n:Nat)(xs:List D)(hd:IsSrc n d)(hn:n<1000000)(hl:xs≠[])(hz:xs.length<=1000):∃ x∈xs,∃ d',IsSrc (n+1) d'/\Eo [.bo d,.bo (.lst xs)]=.ok (.val x) [.bo d',.bo (.lst xs)]:=by
 have h0:0<xs.length:=List.length_pos_iff.mpr hl
 obtain ⟨i,d',i0,i1,s1,e1⟩:=Sb d n (xs.length:Int) hd hn (by omega) (by omega)
 obtain ⟨x,hx,ex⟩:=Ac5 xs i i0 (by omega)
 have ln:B2 [.lst xs]=some (.val (.int (xs.length:Int))):=rfl
 have ix:ixA (.lst xs) (.int i)=some (.val x):=by
  show (match (atI xs i).map Rv.val with | some r=>some r | none=>_)=_
  rw [ex]
  rfl
 refine ⟨x,hx,d',s1,?_⟩
 unfold Eo Ri
 simp_arith! [ln,e1,ix]
theorem Art(c:Nat)(cs:List Nat):A0 inA true (.str [c]) (.str cs)=some (.val (.bl (!decide (c∈cs)))):=rfl
theorem Aru(p c:Nat):decide ([p]<[c])=decide (p<c):=by
 by_cases h:p<c
 ·rw [decide_eq_true h]
  exact decide_eq_true (show List.Lex (·< ·) [p] [c] from List.Lex.rel h)
 ·rw [decide_eq_false h]
  refine decide_eq_false (fun z=>?_)
  have z:List.Lex (·< ·) [p] [c]:=z
  cases z with
  | rel q=>exact h q
  | cons q=>cases q
theorem Arv(l:List Nat)(n:Nat)(hn:0<n)(hl:n<=l.length)(hz:l.length<=100000):ixA (.str l) (.int ((n:Int)-1))=some (.val (.str [l.getD (n-1) 0])):=by
 have hlt:n-1<l.length:=by omega
 have e:atI l ((n:Int)-1)=some (l.getD (n-1) 0):=by
  unfold atI ixN
  rw [if_pos (by omega),if_pos (by omega)]
  show l[((n:Int)-1).toNat]? = _
  rw [show ((n:Int)-1).toNat=n-1 by omega,List.getElem?_eq_getElem hlt,List.getD_eq_getElem?_getD,List.getElem?_eq_getElem hlt]
  rfl
 show (match (if l.length<=sizeLine then (atI l ((n:Int)-1)).map fun c=>Rv.val (D.str [c]) else none) with | some r=>some r | none=>_)=_
 rw [if_pos (by rw [sizeLine_eq]; omega),e]
 rfl
theorem Ade(l:List Nat)(hz:l.length<=1000)(hc:∀ x∈l,x∈R9)(up:∀ n,0<n->n<l.length->l.getD (n-1) 0<l.getD n 0):∀ (rest:List Nat) (n:Nat) (x1 x2:Sl),n+rest.length=l.length->(∀ i,rest.getD i 0=l.getD (n+i) 0)->(∀ x∈rest,x∈l)->Br x1=true->Br x2=true ->
  ∃ x1' x2':Sl,B0 (E7 2 (Dc (Aq 1) (Dc (Aq 2) Ia))) Va (Cj n (rest.map fun c=>.str [c])) [.sh (.str l),x1,x2]=.ok .nx [.sh (.str l),x1',x2']
 | [],n,x1,x2,_,_,_,_,_=>⟨x1,x2,rfl⟩
 | c::rest,n,x1,x2,hl,hr,hm,h1,h2=>by
  rw [List.length_cons] at hl
  obtain ⟨y1,y2,ih⟩:=Ade l hz hc up rest (n+1) (.sh (.int n)) (.sh (.str [c])) (by omega) (fun i=>by have:=hr (i+1); rw [List.getD_cons_succ] at this; rw [this]; congr 1; omega) (fun x hx=>hm x (List.mem_cons_of_mem _ hx)) rfl rfl
  refine ⟨y1,y2,?_⟩
  rw [List.map_cons,Cj,Ajh]
  have cC:L5=R9:=rfl
  have i:=Art c R9
  rw [decide_eq_true (hc c (hm c List.mem_cons_self)),← cC] at i
  have e0:c=l.getD n 0:=by have:=hr 0; simpa using this
  by_cases n0:n=0
  ·subst n0
   simp_arith! [Ace,h1,h2,i]
   exact ih
  ·have ix:=Arv l n (by omega) (by omega) (by omega)
   have g:decide ((0:Int)<n)=true:=decide_eq_true (by omega)
   have lc:=Aru (l.getD (n-1) 0) c
   rw [decide_eq_true (show l.getD (n-1) 0<c by rw [e0]; exact up n (by omega) (by omega))] at lc
   simp_arith! [Ace,h1,h2,i,g,ix,lc,ih]
theorem Arw{l:List Nat}(up:l.Pairwise (·< ·))(n:Nat)(h0:0<n)(h1:n<l.length):l.getD (n-1) 0<l.getD n 0:=by
 rw [List.getD_eq_getElem?_getD,List.getD_eq_getElem?_getD,List.getElem?_eq_getElem (by omega),List.getElem?_eq_getElem h1]
 exact List.pairwise_iff_getElem.mp up (n-1) n (by omega) h1 (by omega)
theorem Arx(l:List Nat)(h0:1<=l.length)(h1:l.length<=4)(up:l.Pairwise (·< ·))(hc:∀ x∈l,x∈R9):J8 [.sh (.str l)]=.ok (.val .non) [.sh (.str l)]:=by
 obtain ⟨x1,x2,lp⟩:=Ade l (by omega) hc (Arw up) l 0 .un .un (by omega) (fun i=>by rw [Nat.zero_add]) (fun x h=>h) rfl rfl
 have hi:Bg [.str l,.con (.ty "str")]=some (.val (.bl true)):=rfl
 have ln:B2 [.str l]=some (.val (.int l.length)):=Aaf (by omega)
 have e1:decide ((0:Int)<l.length)=true:=decide_eq_true (by omega)
 have e2:decide ((l.length:Int)<=4)=true:=decide_eq_true (by omega)
 have es:∀ e,Ud (.val (.str l)) e=.ok (Cj 0 (l.map fun c=>.str [c])) e:=fun e=>rfl
 unfold J8 Vb
 simp_arith! [hi,ln,e1,e2,es,lp]
theorem Adf(l:List Nat):Lo [.sh (.tup []),.sh (.str l),.sh (.int 6)]=.ok (.val .non) [.sh (.tup []),.sh (.str l),.sh (.int 6)]:=by
 have es:∀ e,B0 (E7 2 (Dc (Aq 5) (Dc (Aq 6) Ia))) Acf (Cj 0 []) e=.ok .nx e:=fun e=>rfl
 unfold Lo Vd
 simp_arith! [es,Qt]
theorem Sd{A:M Rv}{e e1:Ve}{n:Nat}(h:n<=1000000)(hA:A e=.ok (.val (.int (n:Int))) e1):Fv A e=.ok (Cg 0 n) e1:=by
 have k:rngR (.val (.int (n:Int))) e1=.ok (Cg 0 n) e1:=by
  rw [Z2,decide_eq_true (by omega)]
  rfl
 rw [Z3,hA,Zy,Zz,k]
theorem Ary(n:Nat):Cg 0 n=((List.range n).map fun i:Nat=>(0:Int)+(i:Int)).map D.int:=by
 unfold Cg
 rw [List.map_map]
 rfl
theorem Arz(k:Nat)(ns:List Int)(r:List Sl):∃ m:Nat,(1<=k->k<=1000->m<=k/\Ar Mh (Aa (fC (.int 1)) (Aa (Ar Mi (Aa (fC (.int (k:Int))) (Aa (Ar B2 (Aa (Ab 0) Af)) Af))) Af)) (.sh (.scr ns)::r)=.ok (.val (.int (m:Int))) (.sh (.scr ns)::r)):=by
 refine ⟨max 1 (min k ns.length),fun h1 h2=>⟨by omega,?_⟩⟩
 have ln:B2 [.scr ns]=some (.val (.int (ns.length:Int))):=rfl
 have mn:Mi [.int (k:Int),.int (ns.length:Int)]=some (.val (.int ((min k ns.length:Nat):Int))):=by
  show some (Rv.val (D.int (if (ns.length:Int)<(k:Int) then (ns.length:Int) else (k:Int))))=_
  congr 3
  split <;> omega
 have mx:Mh [.int 1,.int ((min k ns.length:Nat):Int)]=some (.val (.int ((max 1 (min k ns.length):Nat):Int))):=by
  show some (Rv.val (D.int (if ((min k ns.length:Nat):Int) > 1 then ((min k ns.length:Nat):Int) else 1)))=_
  congr 3
  split <;> omega
 generalize ((k:Nat):Int)=k0 at *
 simp_arith! [ln,mn,mx]
theorem Ar0(k:Nat)(h1:1<=k)(h2:k<=1000)(ns:List Int)(r:List Sl):∃ as:List Int,(∀ a∈as,0<=a/\a<1000)/\Fv (Ar Mh (Aa (fC (.int 1)) (Aa (Ar Mi (Aa (fC (.int (k:Int))) (Aa (Ar B2 (Aa (Ab 0) Af)) Af))) Af))) (.sh (.scr ns)::r)=.ok (as.map .int) (.sh (.scr ns)::r):=by
 obtain ⟨m,hm⟩:=Arz k ns r
 obtain ⟨m1,em⟩:=hm h1 h2
 refine ⟨(List.range m).map fun i:Nat=>(0:Int)+(i:Int),fun a ha=>?_,?_⟩
 ·obtain ⟨i,hi,rfl⟩:=List.mem_map.mp ha
  have:=List.mem_range.mp hi
  omega
 ·rw [← Ary]
  exact Sd (by omega) em
def cAB:D:=.ins "Chain" [("letters",.str [97,98]),("steps",.tup []),("keep_places",.bl true),("front_steps",.tup []),("rows",.non),("back_steps",.tup [])]
theorem Adg:J8 [.sh (.str [97,98])]=.ok (.val .non) [.sh (.str [97,98])]:=Arx [97,98] (by decide) (by decide) (by decide) (by decide)
theorem Ar1:H6 [.sh (.str [97,98])]=.ok (.fresh cAB) [.sh (.str [97,98])]:=by
 have c1:=Adg
 have c2:=Adf [97,98]
 have cc:cs_Chain.contains "Chain" = true:=rfl
 have p1:Bl "letters" (D.str [97,98]) ([]:List (Str×D))=([("letters",D.str [97,98])]:List (Str×D)):=rfl
 have p2:Bl "steps" (D.tup []) ([("letters",D.str [97,98])]:List (Str×D))=([("letters",D.str [97,98]),("steps",D.tup [])]:List (Str×D)):=rfl
 have p3:Bl "keep_places" (D.bl true) ([("letters",D.str [97,98]),("steps",D.tup [])]:List (Str×D))=([("letters",D.str [97,98]),("steps",D.tup []),("keep_places",D.bl true)]:List (Str×D)):=rfl
 have k1:decide (([("letters",D.str [97,98])]:List (Str×D)).length<1000)=true:=rfl
 have k2:decide (([("letters",D.str [97,98]),("steps",D.tup [])]:List (Str×D)).length<1000)=true:=rfl
 have h3:∀ x y:Sl,Oq cs_Chain "front_steps" "rows" "back_steps" 0 (Aa (Ad (Hm Af)) (Aa (fC .non) (Aa (Ad (Ab 3)) Af))) [.bo (.ins "Chain" [("letters",.str [97,98]),("steps",.tup []),("keep_places",.bl true)]),.sh (.str [97,98]),.sh (.bl true),.sh (.tup []),x,y]=.ok .nx [.bo cAB,.sh (.str [97,98]),.sh (.bl true),.sh (.tup []),x,y]:=fun x y=>rfl
 have es:∀ e,B0 (E7 2 (Dc (Aq 4) (Dc (Aq 5) Ia))) Vf (Cj 0 []) e=.ok .nx e:=fun e=>rfl
 have g:Eh [.bo (.ins "Chain" []),.sh (.str [97,98]),.sh (.bl true),.sh (.tup [])]=.ok (.val .non) [.bo cAB,.sh (.str [97,98]),.sh (.bl true),.sh (.tup [])]:=by
  unfold Eh Rh
  simp_arith! [c1,c2,cc,p1,p2,p3,k1,k2,h3,es,Qt]
  done
 have m:Fy 2 0 [(.bl true)] Eh [.bo (.ins "Chain" []),.sh (.str [97,98])]=.ok (.val .non) [.bo cAB,.sh (.str [97,98])]:=by
  unfold Fy
  rw [if_pos (by simp)]
  show (if ([]:List D).length-0<=sizeLine then Oj 2 [Sl.bo (.ins "Chain" []),Sl.sh (.str [97,98])] (Eh [.bo (.ins "Chain" []),.sh (.str [97,98]),.sh (.bl true),.sh (.tup [])]) else .no)=_
  rw [if_pos (show ([]:List D).length-0<=sizeLine from Nat.zero_le _),g]
  rfl
 clear c1 c2 g h3 es
 generalize cAB=cd at *
 unfold H6 Vg
 generalize Fy 2 0 [(.bl true)] Eh=SK at *
 simp_arith! [m]
def Av{α:Type}(f:α->D)(E:List (List Nat×α)):List (List Nat×D):=E.map fun q=>(q.1,f q.2)
def A4{α:Type}(E:List (List Nat×α))(n:List Nat)(a:α):List (List Nat×α):=if E.any (fun q=>decide (q.1=n))=true then E.map fun q=>if q.1=n then (q.1,a) else q else E++[(n,a)]
def D3{α:Type}(E:List (List Nat×α))(n:List Nat):List (List Nat×α):=E.filter fun q=>decide (q.1≠n)
def C4{α:Type}(E:List (List Nat×α))(n:List Nat):Option α:=(E.find? fun q=>decide (q.1=n)).map (·.2)
theorem V2{α:Type}(f:α->D)(n:List Nat):∀ E:List (List Nat×α),(Av f E).any (fun q=>decide (q.1=n))=E.any fun q=>decide (q.1=n)
 | []=>rfl
 | q::E=>by
  have ih:=V2 f n E
  unfold Av at ih ⊢
  rw [List.map_cons,List.any_cons,List.any_cons,ih]
theorem Se{α:Type}(f:α->D)(E:List (List Nat×α))(n:List Nat)(a:α):Ci (Av f E) n (f a)=Av f (A4 E n a):=by
 unfold Ci A4
 rw [V2]
 split
 ·unfold Av
  rw [List.map_map,List.map_map]
  refine List.map_congr_left fun q _=>?_
  show (if q.1=n then (q.1,f a) else (q.1,f q.2))=(fun q=>(q.1,f q.2)) (if q.1=n then (q.1,a) else q)
  split <;> rfl
 ·unfold Av
  rw [List.map_append]; rfl
theorem Adh{α:Type}(f:α->D)(n:List Nat):∀ E:List (List Nat×α),(Av f E).filter (fun kv=>decide (kv.1≠n))=Av f (D3 E n)
 | []=>rfl
 | q::E=>by
  have ih:=Adh f n E
  unfold Av D3 at ih ⊢
  rw [List.map_cons,List.filter_cons,List.filter_cons]
  by_cases h:q.1=n
  ·rw [if_neg (by simp [h]),if_neg (by simp [h])]
   exact ih
  ·rw [if_pos (by simpa using h),if_pos (by simpa using h),List.map_cons,ih]
theorem Pg{α:Type}(f:α->D)(n:List Nat):∀ E:List (List Nat×α),B1 (Av f E) n=(C4 E n).map f
 | []=>rfl
 | q::E=>by
  have ih:=Pg f n E
  unfold Av B1 C4 at ih ⊢
  rw [List.map_cons,List.find?_cons,List.find?_cons]
  by_cases h:q.1=n
  ·rw [decide_eq_true h]; rfl
  ·rw [decide_eq_false h]; exact ih
theorem V3{α:Type}(f:α->D)(E:List (List Nat×α)):(Av f E).map (·.1)=E.map (·.1):=by
 unfold Av
 rw [List.map_map]; rfl
theorem mapV_len{α:Type}(f:α->D)(E:List (List Nat×α)):(Av f E).length=E.length:=by unfold Av; rw [List.length_map]
theorem Adi{α:Type}(E:List (List Nat×α))(n:List Nat)(a:α):(A4 E n a).length<=E.length+1:=by
 unfold A4
 split
 ·rw [List.length_map]; omega
 ·rw [List.length_append]; simp
theorem Ar2{α:Type}{E:List (List Nat×α)}{n:List Nat}{a:α}{R:List Nat->α->Prop}(h:∀ q∈E,R q.1 q.2)(ha:R n a):∀ q∈A4 E n a,R q.1 q.2:=fun q hq=>by
 unfold A4 at hq
 split at hq
 ·obtain ⟨p,hp,rfl⟩:=List.mem_map.mp hq
  split
  ·rename_i e; dsimp only; rw [e]; exact ha
  ·exact h p hp
 ·rcases List.mem_append.mp hq with z | z
  ·exact h q z
  ·rw [List.mem_singleton.mp z]; exact ha
theorem Ar3{α:Type}(E:List (List Nat×α))(n:List Nat):(D3 E n).length<=E.length:=List.length_filter_le _ _
theorem Ar4{α:Type}{E:List (List Nat×α)}{n:List Nat}(h:n∈E.map (·.1)):∃ a,C4 E n=some a/\(n,a)∈E:=by
 induction E with
 | nil=>cases h
 | cons q E ih =>
  unfold C4
  rw [List.find?_cons]
  by_cases e:q.1=n
  ·rw [decide_eq_true e]
   exact ⟨q.2,rfl,by rw [← e]; exact List.mem_cons_self⟩
  ·rw [decide_eq_false e]
   rcases List.mem_cons.mp h with z | z
   ·exact absurd z.symm e
   ·obtain ⟨a,h1,h2⟩:=ih z
    exact ⟨a,h1,List.mem_cons_of_mem _ h2⟩
def Ao(h t:D)(nm:List (List Nat)):D:=.ins "Store" [("house",h),("texts",t),("names",.lst (nm.map D.str)),("is_shut",.bl false)]
def stG(hf:List (Str×D))(b b2:Addr)(kvs:List (List Nat×D))(nm:List (List Nat))(γ:Gh):Gh:=(b,Ao (.ins "House" hf) (.con (.ref b2)) nm)::(b2,.dct kvs)::γ
section
variable{hf:List (Str×D)}{b b2:Addr}{kvs:List (List Nat×D)}{nm:List (List Nat)}{γ:Gh}
theorem Gb:(stG hf b b2 kvs nm γ).lookup b=some (Ao (.ins "House" hf) (.con (.ref b2)) nm):=by
 unfold stG
 rw [List.lookup_cons,beq_self_eq_true]
theorem V4(h:b≠b2):(stG hf b b2 kvs nm γ).lookup b2=some (.dct kvs):=by
 unfold stG
 rw [List.lookup_cons,beq_false_of_ne h.symm,List.lookup_cons,beq_self_eq_true]
theorem Nc(h:b≠b2):Gi (stG hf b b2 kvs nm γ) (.sh (.con (.ref b)))=.sh (Ao (.ins "House" hf) (.dct kvs) nm):=by
 show Sl.sh (match (stG hf b b2 kvs nm γ).lookup b with | some d=>proD (stG hf b b2 kvs nm γ) d | none=>.con (.ref b))=_
 rw [Gb]
 show Sl.sh (.ins "Store" (Hc (stG hf b b2 kvs nm γ) _))=_
 unfold Hc
 show Sl.sh (.ins "Store" (_::Hc (stG hf b b2 kvs nm γ) _))=_
 unfold Hc
 show Sl.sh (.ins "Store" (_::(_,((stG hf b b2 kvs nm γ).lookup b2).getD _)::_))=_
 rw [V4 h]
 rfl
theorem V5{x:Addr}{d:D}:∀ {γ:Gh},¬ InG γ x->setG γ x d=γ
 | [],_=>rfl
 | q::γ,n=>by
  have ih:=V5 (x:=x) (d:=d) (γ:=γ) fun ⟨u,m⟩=>n ⟨u,List.mem_cons_of_mem _ m⟩
  unfold setG at ih ⊢
  rw [List.map_cons,ih,if_neg (fun e=>n ⟨q.2,by rw [← e]; exact List.mem_cons_self⟩)]
theorem Adj(h:b≠b2)(n2:¬ InG γ b2)(kvs':List (List Nat×D)):setG (stG hf b b2 kvs nm γ) b2 (.dct kvs')=stG hf b b2 kvs' nm γ:=by
 have e:=V5 (d:=.dct kvs') n2
 unfold stG setG at *
 rw [List.map_cons,List.map_cons,e,if_neg h,if_pos rfl]
theorem Adk(h:b≠b2)(n1:¬ InG γ b)(nm':List (List Nat)):setG (stG hf b b2 kvs nm γ) b (Ao (.ins "House" hf) (.con (.ref b2)) nm')=stG hf b b2 kvs nm' γ:=by
 have e:=V5 (d:=Ao (.ins "House" hf) (.con (.ref b2)) nm') n1
 unfold stG setG at *
 rw [List.map_cons,List.map_cons,e,if_neg h.symm,if_pos rfl]
end
def E5(n:List Nat):Prop:=n≠[]/\n.length<=12/\∀ c∈n,c∈Ce
theorem Ar5{n:List Nat}(h:E5 n):E3 [.sh (.str n)]=.ok (.val .non) [.sh (.str n)]:=by
 obtain ⟨h1,h2,h3⟩:=h
 have mk:=V1 n Ce (by omega)
 rw [decide_eq_false h1,List.all_eq_true.mpr fun c hc=>decide_eq_true (h3 c hc)] at mk
 have ln:B2 [.str n]=some (.val (.int (n.length:Int))):=if_pos (by rw [sizeLine_eq]; omega)
 have gt:gtD (.int (n.length:Int)) (.int 12)=some (.val (.bl false)):=by
  show some (Rv.val (.bl (decide ((12:Int)<n.length))))=_
  rw [decide_eq_false (by omega)]
 unfold E3 Pc
 generalize Ce=SM at *
 simp_arith! [mk,ln,gt]
theorem V6:∀ l:List (List Nat),ncs (l.map D.str)=true
 | []=>rfl
 | _::l=>V6 l
theorem Adl{d:D}{a:Sl}:∀ (e:Ve) (j:Nat),E8 [.val d] [a] j e=e
 | [],_=>rfl
 | s::r,j=>by
  rw [E8,Adl r (j+1)]
  rfl
section
variable{hf:List (Str×D)}{b b2:Addr}(hb:b≠b2){γ:Gh}(n1:¬ InG γ b)(n2:¬ InG γ b2)
theorem Sf(t:D)(nm:List (List Nat))(r:Ve):Lc J9 "check_open" (Ab 0) Af (.sh (Ao (.ins "House" hf) t nm)::r)=.ok (.val .non) (.sh (Ao (.ins "House" hf) t nm)::r):=by
 have hT:J9 "Store" = some M8:=rfl
 have nf:∀ x y z w:D,(([("house",x),("texts",y),("names",z),("is_shut",w)]:List (Str×D)).lookup ("check_open" : Str)).isNone=true:=fun _ _ _ _=>rfl
 have fl:∀ x y z w:D,(([("house",x),("texts",y),("names",z),("is_shut",w)]:List (Str×D)).lookup ("is_shut" : Str))=some w:=fun _ _ _ _=>rfl
 have eo:M8 [.sh (Ao (.ins "House" hf) t nm)]=.ok (.val .non) [.sh (Ao (.ins "House" hf) t nm)]:=by
  unfold M8 Vk Ao
  simp_arith! [fl]
 unfold Ao at *
 simp_arith! [hT,nf,eo,Adl]
include hb n1 n2
theorem Adm(kvs:List (List Nat×D))(nm:List (List Nat))(n t:List Nat)(hn:E5 n)(hk:kvs.length<60)(hk2:(Ci kvs n (.str t)).length<64) :
  Prm H7 [.sh (.con (.ref b)),.sh (.str n),.sh (.str t)] (stG hf b b2 kvs nm γ) (.val .non) (stG hf b b2 (Ci kvs n (.str t)) (Aw ((Ci kvs n (.str t)).map (·.1))) γ):=by
 intro Q k
 unfold H7 By
 refine ⟨rfl,?_⟩
 show Ka [.sh (.con (.ref b)),.sh (.str n),.sh (.str t)] _ _
 unfold Ka
 have pe:∀ kvs,Bc (stG hf b b2 kvs nm γ) [.sh (.con (.ref b)),.sh (.str n),.sh (.str t)]=[.sh (Ao (.ins "House" hf) (.dct kvs) nm),.sh (.str n),.sh (.str t)]:=fun kvs=>by
  unfold Bc
  rw [List.map_cons,List.map_cons,List.map_cons,List.map_nil,Nc hb]
  rfl
 refine B4 (Q9 (r:=.val .non) (e1:=[.sh (Ao (.ins "House" hf) (.dct kvs) nm),.sh (.str n),.sh (.str t)]) ?_ rfl rfl ?_)
 ·rw [pe]; exact Sf _ _ _
 show An _ _ [.sh (.con (.ref b)),.sh (.str n),.sh (.str t)] _ _
 refine J6 (e1:=[.sh (.con (.ref b)),.sh (.str n),.sh (.str t)]) ?_ ?_
 ·have cn:=Ar5 hn
  unfold Rk
  simp_arith! [cn]
 refine B4 (Aoy (f:="texts") (fs:=[("house",.ins "House" hf),("texts",.con (.ref b2)),("names",.lst (nm.map D.str)),("is_shut",.bl false)]) (e1:=[.sh (.con (.ref b)),.sh (.str n),.sh (.str t)]) (e2:=[.sh (.con (.ref b)),.sh (.str n),.sh (.str t)]) (e3:=[.sh (.con (.ref b)),.sh (.str n),.sh (.str t)]) (v:=.str t) (r:=.val (.con (.ref b))) (c:="Store") (b:=b2) (ix:=.str n) (d0:=.dct kvs) (d':=.dct (Ci kvs n (.str t))) rfl rfl ?_ rfl rfl (V4 hb) ?_ rfl ?_)
 ·show (stG hf b b2 kvs nm γ).lookup b=_
  exact Gb
 ·show (if kvs.length<sizeLine then some (D.dct (Ci kvs n (.str t))) else none)=_
  rw [if_pos (by rw [sizeLine_eq]; omega)]
 rw [Adj hb n2]
 show Jz _ _ _ _ [.sh (.con (.ref b)),.sh (.str n),.sh (.str t)] _ _
 refine Abu (b:=b) (d:=.lst ((Aw ((Ci kvs n (.str t)).map (·.1))).map D.str)) (e1:=[.sh (Ao (.ins "House" hf) (.dct (Ci kvs n (.str t))) nm),.sh (.str n),.sh (.str t)]) ?_ (V6 _) rfl rfl Gb (by decide) (by show 4<1000; omega) ?_
 ·rw [pe]
  have fl:∀ x y z w:D,(([("house",x),("texts",y),("names",z),("is_shut",w)]:List (Str×D)).lookup ("texts" : Str))=some y:=fun _ _ _ _=>rfl
  have so:Jl [.dct (Ci kvs n (.str t))]=some (.fresh (.lst ((Aw ((Ci kvs n (.str t)).map (·.1))).map D.str))):=if_pos hk2
  unfold Ao
  simp_arith! [fl,so]
 ·show Q _ _ (setG (stG hf b b2 (Ci kvs n (.str t)) nm γ) b (Ao (.ins "House" hf) (.con (.ref b2)) _))
  rw [Adk hb n1]
  exact k
theorem Ar6(kvs:List (List Nat×D))(nm:List (List Nat))(n:List Nat)(hi:kvs.any (fun kv=>decide (kv.1=n))=true)(hk:kvs.length<60) :
  Prm Gu [.sh (.con (.ref b)),.sh (.str n)] (stG hf b b2 kvs nm γ) (.val .non) (stG hf b b2 (kvs.filter fun kv=>decide (kv.1≠n)) (Aw ((kvs.filter fun kv=>decide (kv.1≠n)).map (·.1))) γ):=by
 intro Q k
 unfold Gu By
 refine ⟨rfl,?_⟩
 show Kf [.sh (.con (.ref b)),.sh (.str n)] _ _
 unfold Kf
 have pe:∀ kvs,Bc (stG hf b b2 kvs nm γ) [.sh (.con (.ref b)),.sh (.str n)]=[.sh (Ao (.ins "House" hf) (.dct kvs) nm),.sh (.str n)]:=fun kvs=>by
  unfold Bc
  rw [List.map_cons,List.map_cons,List.map_nil,Nc hb]
  rfl
 have fl:∀ x y z w:D,(([("house",x),("texts",y),("names",z),("is_shut",w)]:List (Str×D)).lookup ("texts" : Str))=some y:=fun _ _ _ _=>rfl
 refine B4 (Q9 (r:=.val .non) (e1:=[.sh (Ao (.ins "House" hf) (.dct kvs) nm),.sh (.str n)]) ?_ rfl rfl ?_)
 ·rw [pe]; exact Sf _ _ _
 show An _ _ [.sh (.con (.ref b)),.sh (.str n)] _ _
 refine B4 (Lm (b:=false) (e1:=[.sh (Ao (.ins "House" hf) (.dct kvs) nm),.sh (.str n)]) ?_ rfl ?_)
 ·rw [pe]
  have is:Bg [.str n,.con (.ty "str")]=some (.val (.bl true)):=rfl
  have gk:A0 inA true (.str n) (.dct kvs)=some (.val (.bl false)):=by
   have g:(B1 kvs n).isSome=true:=by
    unfold B1
    rw [Option.isSome_map,List.find?_isSome]
    obtain ⟨q,hq,e⟩:=List.any_eq_true.mp hi
    exact ⟨q,hq,e⟩
   have i1:inA (.str n) (.dct kvs)=some (B1 kvs n).isSome:=by
    unfold inA inT
    cases n with
    | nil=>rfl
    | cons c r=>cases r <;> rfl
   unfold A0
   rw [i1,g]; rfl
  unfold Rn Ao
  simp_arith! [is,fl,gk]
 rw [if_neg Bool.false_ne_true]
 show Ak fNx [.sh (.con (.ref b)),.sh (.str n)] _ _
 refine Ez rfl ?_
 show An _ _ [.sh (.con (.ref b)),.sh (.str n)] _ _
 refine B4 (Aoz (f:="texts") (fs:=[("house",.ins "House" hf),("texts",.con (.ref b2)),("names",.lst (nm.map D.str)),("is_shut",.bl false)]) (e2:=[.sh (.con (.ref b)),.sh (.str n)]) (e3:=[.sh (.con (.ref b)),.sh (.str n)]) (r:=.val (.con (.ref b))) (c:="Store") (b:=b2) (ix:=.str n) (d0:=.dct kvs) (d':=.dct (kvs.filter fun kv=>decide (kv.1≠n))) rfl ?_ rfl rfl (V4 hb) (if_pos hi) ?_)
 ·show (stG hf b b2 kvs nm γ).lookup b=_
  exact Gb
 rw [Adj hb n2]
 have lz:(kvs.filter fun kv=>decide (kv.1≠n)).length<64:=Nat.lt_of_le_of_lt (List.length_filter_le _ _) (by omega)
 generalize (kvs.filter fun kv=>decide (kv.1≠n))=kv2 at *
 show Jz _ _ _ _ [.sh (.con (.ref b)),.sh (.str n)] _ _
 refine Abu (b:=b) (d:=.lst ((Aw (kv2.map (·.1))).map D.str)) (e1:=[.sh (Ao (.ins "House" hf) (.dct kv2) nm),.sh (.str n)]) ?_ (V6 _) rfl rfl Gb (by decide) (by show 4<1000; omega) ?_
 ·rw [pe]
  have so:Jl [.dct kv2]=some (.fresh (.lst ((Aw (kv2.map (·.1))).map D.str))):=if_pos lz
  unfold Ao
  simp_arith! [fl,so]
 ·show Q _ _ (setG (stG hf b b2 kv2 nm γ) b (Ao (.ins "House" hf) (.con (.ref b2)) _))
  rw [Adk hb n1]
  exact k
end
theorem Ar7{hf:List (Str×D)}{γ:Gh}(Q:Og Rv->Ve->Gh->Prop)(k:∀ b2,¬ InG γ b2->Q (.v (.val .non)) [.bo (.ins "Store" [("house",.ins "House" hf),("texts",.con (.ref b2)),("names",.lst []),("is_shut",.bl false)]),.bf (.ins "House" hf)] ((b2,.dct [])::γ)):Iv [.bo (.ins "Store" []),.bo (.ins "House" hf)] γ Q:=by
 unfold Iv By
 refine ⟨rfl,?_⟩
 show M7 [.bo (.ins "Store" []),.bo (.ins "House" hf)] _ _
 unfold M7
 refine J6 (e1:=[.bo (.ins "Store" [("house",.ins "House" hf)]),.bf (.ins "House" hf)]) ?_ ?_
 ·unfold Ab8
  rfl
 refine B4 ?_
 show Mx Ct "texts" 0 [.bo (.ins "Store" [("house",.ins "House" hf)]),.bf (.ins "House" hf)] γ _
 refine ⟨by decide,by show 1<1000; omega,fun b2 nb=>?_⟩
 refine Ez (c:=.nx) (e1:=[.bo (.ins "Store" [("house",.ins "House" hf),("texts",.con (.ref b2)),("names",.lst []),("is_shut",.bl false)]),.bf (.ins "House" hf)]) ?_ ?_
 ·unfold Ab9
  rfl
 ·exact k b2 nb
theorem Nd{α:Type}(q:List Nat×α)(R:List (List Nat×α))(m:List Nat):C4 (q::R) m=if q.1=m then some q.2 else C4 R m:=by
 unfold C4
 rw [List.find?_cons]
 by_cases h:q.1=m
 ·rw [decide_eq_true h,if_pos h]; rfl
 ·rw [decide_eq_false h,if_neg h]
theorem Adn{α:Type}(n m:List Nat)(a:α):∀ R:List (List Nat×α),C4 (R.map fun q=>if q.1=n then (q.1,a) else q) m=if m=n then (C4 R m).map (fun _=>a) else C4 R m
 | []=>by unfold C4; simp
 | q::R=>by
  have ih:=Adn n m a R
  rw [List.map_cons,Nd,Nd,ih]
  by_cases h:q.1=n
  ·rw [if_pos h]
   dsimp only
   by_cases k:q.1=m
   ·rw [if_pos k,if_pos k,if_pos (k.symm.trans h)]; rfl
   ·rw [if_neg k,if_neg k]
  ·rw [if_neg h]
   by_cases k:q.1=m
   ·rw [if_pos k,if_pos k,if_neg (fun z=>h (k.trans z))]
   ·rw [if_neg k,if_neg k]
theorem Ado{α:Type}(n m:List Nat)(a:α):∀ R:List (List Nat×α),(R.any fun q=>decide (q.1=n))=false->C4 (R++[(n,a)]) m=if m=n then some a else C4 R m
 | [],_=>by
  rw [List.nil_append,Nd]
  by_cases h:m=n
  ·rw [if_pos h,if_pos h.symm]
  ·rw [if_neg h,if_neg (fun z=>h z.symm)]
 | q::R,h=>by
  rw [List.any_cons,Bool.or_eq_false_iff] at h
  have ih:=Ado n m a R h.2
  have hq:=of_decide_eq_false h.1
  rw [List.cons_append,Nd,Nd,ih]
  by_cases k:q.1=m
  ·rw [if_pos k,if_pos k,if_neg (fun z=>hq (k.trans z))]
  ·rw [if_neg k,if_neg k]
theorem Ph{α:Type}(n:List Nat):∀ R:List (List Nat×α),(R.any fun q=>decide (q.1=n))=(C4 R n).isSome
 | []=>rfl
 | q::R=>by
  rw [List.any_cons,Nd,Ph n R]
  by_cases h:q.1=n
  ·rw [decide_eq_true h,if_pos h]; rfl
  ·rw [decide_eq_false h,if_neg h]; rfl
theorem Ar8{α:Type}(n m:List Nat)(a:α)(R:List (List Nat×α)):C4 (A4 R n a) m=if m=n then some a else C4 R m:=by
 unfold A4
 cases h:R.any fun q=>decide (q.1=n) with
 | true =>
  rw [if_pos rfl,Adn]
  by_cases k:m=n
  ·subst k
   rw [Ph] at h
   obtain ⟨v,hv⟩:=Option.isSome_iff_exists.mp h
   rw [if_pos rfl,if_pos rfl,hv]; rfl
  ·rw [if_neg k,if_neg k]
 | false=>rw [if_neg Bool.false_ne_true,Ado n m a R h]
theorem Adp(a b:List D)(h:a.length+b.length<=100000):Bb (.lst a) (.lst b)=some (.fresh (.lst (a++b))):=by
 show (if a.length+b.length<=sizeLine then some (Rv.fresh (D.lst (a++b))) else none)=_
 rw [if_pos (by rw [sizeLine_eq]; omega)]
theorem Ar9(FO:List Sl->Res Rv)(SM:List Nat)(d d1:D)(x:Nat)(s1 s2:Sl)(hi:FO [.bo d,.sh (.str SM)]=.ok (.val (.str [x])) [.bo d1,.sh (.str SM)]):Az FO (Aa (Ab 0) (Aa (fC (.str SM)) Af)) [.bo d,s1,s2]=.ok (.val (.str [x])) [.bo d1,s1,s2]:=by
 simp_arith! [hi]
theorem Asa(EX:M Rv)(d d1 d2 y:D)(x:Nat)(s1:Sl)(ds ls:List D)(e:EX [.bo d,s1,.sh y]=.ok (.val (.str [x])) [.bo d1,s1,.sh y])(hc:lcL (Aq 2) (M.ret true) EX [2] ds [.bo d1,s1,.un]=.ok ls [.bo d2,s1,.un]) :
  lcL (Aq 2) (M.ret true) EX [2] (y::ds) [.bo d,s1,.un]=.ok (.str [x]::ls) [.bo d2,s1,.un]:=by
 rw [Qr]
 simp_arith! [e,hc]
theorem Adq(s1:Sl):∀ (ds:List D) (d:D) (n:Nat),IsSrc n d->n+ds.length<1000000->∃ (l:List Nat) (d':D),l.length=ds.length/\(∀ x∈l,x∈Ce)/\IsSrc (n+ds.length) d' /\
  lcL (Aq 2) (M.ret true) Pb [2] ds [.bo d,s1,.un]=.ok (l.map fun x=>.str [x]) [.bo d',s1,.un]
 | [],d,n,h,_=>⟨[],d,rfl,(fun x hx=>nomatch hx),h,rfl⟩
 | y::ds,d,n,h,hn=>by
  rw [List.length_cons] at hn
  obtain ⟨x,hx,d1,s2,hi⟩:=Ac9 d n Ce h (by omega) (by decide) (by decide)
  obtain ⟨l,d',hl,hm,s2,hc⟩:=Adq s1 ds d1 (n+1) s2 (by omega)
  refine ⟨x::l,d',by simp [hl],fun z hz=>?_,by rw [List.length_cons,show n+(ds.length+1)=n+1+ds.length by omega]; exact s2,?_⟩
  ·rcases List.mem_cons.mp hz with z | z
   ·rw [z]; exact hx
   ·exact hm _ z
  ·exact Asa Pb d d1 d' y x s1 ds _ (Ar9 Eo Ce d d1 x s1 (.sh y) hi) hc
theorem Asb(FO:List Sl->Res Rv)(hO:Eo=FO)(SR:M (List D))(hS:Fv (Ab 1)=SR)(EN:M Rv)(hE:Pb=EN)(d d1 d2 m t:D)(rs qs:List D)(e1:FO [.bo d,.bo (.lst [.int 1,.int 1,.int 2,.int 3,.int 12])]=.ok (.val m) [.bo d1,.bo (.lst [.int 1,.int 1,.int 2,.int 3,.int 12])])
  (rg:SR [.bo d1,.sh m,.un]=.ok rs [.bo d1,.sh m,.un])(hc:lcL (Aq 2) (M.ret true) EN [2] rs [.bo d1,.sh m,.un]=.ok qs [.bo d2,.sh m,.un])(hsz:decide (qs.length<=sizeLine)=true)(hj:K9 (.str []) [.lst qs]=some (.val t)):F7 [.bo d]=.ok (.val t) [.bo d2]:=by
 have z5:∀ a b c d e:D,decide ([a,b,c,d,e].length<=sizeLine)=true:=fun a b c d e=>by rw [sizeLine_eq]; rfl
 unfold F7 Vj
 rw [hO,hS,hE]
 clear hO hS hE
 simp_arith! [e1,z5,rg,hc,hsz,hj]
theorem Adr(d:D)(n:Nat)(hd:IsSrc n d)(hn:n<900000):∃ (l:List Nat) (d':D),E5 l/\IsSrc (n+13) d'/\F7 [.bo d]=.ok (.val (.str l)) [.bo d']:=by
 obtain ⟨x,hx,d1,s1,e1⟩:=Ars d n [.int 1,.int 1,.int 2,.int 3,.int 12] hd (by omega) (by simp) (by simp)
 obtain ⟨m,rfl,m0,m1⟩:∃ m:Nat,x=.int (m:Int)/\1<=m/\m<=12:=by
  simp only [List.mem_cons,List.not_mem_nil,or_false] at hx
  rcases hx with rfl | rfl | rfl | rfl | rfl
  ·exact ⟨1,rfl,by omega,by omega⟩
  ·exact ⟨1,rfl,by omega,by omega⟩
  ·exact ⟨2,rfl,by omega,by omega⟩
  ·exact ⟨3,rfl,by omega,by omega⟩
  ·exact ⟨12,rfl,by omega,by omega⟩
 have hn1:(Cg 0 m).length=m:=by unfold Cg; rw [List.length_map,List.length_range]
 obtain ⟨l,d',hl,hm,s2,hc⟩:=Adq (.sh (.int (m:Int))) (Cg 0 m) d1 (n+1) s1 (by omega)
 refine ⟨l,d',⟨fun z=>?_,by omega,hm⟩,s2.mono (by omega),?_⟩
 ·rw [z,hn1] at hl; simp at hl; omega
 have hj:K9 (.str []) [.lst (l.map fun x=>.str [x])]=some (.val (.str l)):=by
  show (match G8 (l.map fun x=>D.str [x]) with
   | some ls=>if (ls.map List.length).sum+ls.length*([]:List Nat).length<=16777216 then some (Rv.val (.str (TL.joinL [] ls))) else none
   | none=>none)=_
  rw [Arl]
  simp only
  rw [Xb,if_pos (by simp; omega),join_one]
 have hsz:decide ((l.map fun x=>(D.str [x])).length<=sizeLine)=true:=decide_eq_true (by rw [sizeLine_eq,List.length_map]; omega)
 exact Asb Eo rfl _ rfl Pb rfl d d1 d' (.int (m:Int)) (.str l) (Cg 0 m) _ e1 (Sd (n:=m) (by omega) rfl) hc hsz hj
theorem IsSrc.nc{n:Nat}{d:D}(h:IsSrc n d):Cb d=true:=by
 obtain ⟨c,b,k,rfl,_⟩:=h
 rfl
def okX:Sl->Bool
 | .un=>true
 | .sh (.con (.ref _))=>false
 | .sh _=>true
 | _=>false
theorem Co{γ:Gh}:∀ {s:Sl},okX s=true->Gi γ s=s
 | .un,_=>rfl
 | .sh (.con (.ref _)),h=>nomatch h
 | .sh .non,_=>rfl
 | .sh (.bl _),_=>rfl
 | .sh (.int _),_=>rfl
 | .sh (.str _),_=>rfl
 | .sh (.lst _),_=>rfl
 | .sh (.tup _),_=>rfl
 | .sh (.dct _),_=>rfl
 | .sh (.set _),_=>rfl
 | .sh (.ins _ _),_=>rfl
 | .sh (.scr _),_=>rfl
 | .sh (.con .non),_=>rfl
 | .sh (.con (.bl _)),_=>rfl
 | .sh (.con (.int _)),_=>rfl
 | .sh (.con (.flt _)),_=>rfl
 | .sh (.con (.str _)),_=>rfl
 | .sh (.con (.byt _)),_=>rfl
 | .sh (.con (.ty _)),_=>rfl
theorem C5{s t:Sl}(h:okX s=true):Lk s t=s:=by cases s <;> first | rfl | cases h
theorem Hi{s:Sl}(h:okX s=true):Br s=true:=by cases s <;> first | rfl | cases h
theorem C6{s t:Sl}{r r1:Ve}(h:okX s=true):B3 (s::r) (t::r1)=B3 r r1:=by cases s <;> first | rfl | cases h
theorem Ads{s t:Sl}{r r1:Ve}:Cc (s::r) (t::r1)=Lk s t::Cc r r1:=rfl
theorem Adt:Cc [] []=[]:=rfl
theorem Adu{a b:D}{r r1:Ve}:B3 (.ow a::r) (.ow b::r1)=(Cb b&&B3 r r1):=rfl
theorem Adv{a:D}{t:Sl}{r r1:Ve}:B3 (.sh a::r) (t::r1)=B3 r r1:=rfl
theorem Adw:B3 [] []=true:=rfl
theorem Adx{a:D}{t:Sl}:Lk (.sh a) t=.sh a:=rfl
theorem Ady{a:D}{t:Sl}:Lk (.ow a) t=t:=rfl
theorem chk{hf:List (Str×D)}{b b2:Addr}{kvs kv:List (List Nat×D)}{nm:List (List Nat)}{γ:Gh}(hb:b≠b2)(Q:M Bool)(C:W2)(s0 s1 s3 s4 s5 s8 s9 s10 s11:Sl)(g0:okX s0=true)(g1:okX s1=true)(g3:okX s3=true)(g4:okX s4=true)(g5:okX s5=true)(g8:okX s8=true)(g9:okX s9=true)(g10:okX s10=true)(g11:okX s11=true)(d d':D)(nd:Cb d'=true)(nk:Cb (.dct kv)=true)
  (h:Q [s0,s1,.ow d,s3,s4,s5,.sh (Ao (.ins "House" hf) (.dct kvs) nm),.ow (.dct kv),s8,s9,s10,s11]=.ok false [s0,s1,.ow d',s3,s4,s5,.sh (Ao (.ins "House" hf) (.dct kvs) nm),.ow (.dct kv),s8,s9,s10,s11])
  {P:P2}(k:P (.c .nx) [s0,s1,.ow d',s3,s4,s5,.sh (.con (.ref b)),.ow (.dct kv),s8,s9,s10,s11] (stG hf b b2 kvs nm γ)) :
  if2 (rdT Q) C (Ak fNx) [s0,s1,.ow d,s3,s4,s5,.sh (.con (.ref b)),.ow (.dct kv),s8,s9,s10,s11] (stG hf b b2 kvs nm γ) P:=by
 have pe:Bc (stG hf b b2 kvs nm γ) [s0,s1,.ow d,s3,s4,s5,.sh (.con (.ref b)),.ow (.dct kv),s8,s9,s10,s11]=[s0,s1,.ow d,s3,s4,s5,.sh (Ao (.ins "House" hf) (.dct kvs) nm),.ow (.dct kv),s8,s9,s10,s11]:=by
  unfold Bc
  simp only [List.map_cons,List.map_nil,Nc hb,Co g0,Co g1,Co g3,Co g4,Co g5,Co g8,Co g9,Co g10,Co g11]
  rfl
 refine Lm (by rw [pe]; exact h) ?_ ?_
 ·simp only [C6 g0,C6 g1,Adu,C6 g3,C6 g4,C6 g5,Adv,C6 g8,C6 g9,C6 g10,C6 g11,Adw,nd,nk,Bool.and_true]
 ·rw [if_neg Bool.false_ne_true]
  simp only [Ads,Adt,C5 g0,C5 g1,Ady,C5 g3,C5 g4,C5 g5,Adx,C5 g8,C5 g9,C5 g10,C5 g11]
  exact Ez rfl k
theorem Adz(ls:List (List Nat)):(Aw ls).length=ls.length:=by
 unfold Aw
 rw [List.length_map,W8,List.length_map]
theorem Sh(ng:Bool)(n:List Nat)(kvs:List (List Nat×D)):A0 inA ng (.str n) (.dct kvs)=some (.val (.bl (if ng=true then !(B1 kvs n).isSome else (B1 kvs n).isSome))):=by
 have i1:inA (.str n) (.dct kvs)=some (B1 kvs n).isSome:=by
  unfold inA inT
  cases n with
  | nil=>rfl
  | cons c r=>cases r <;> rfl
 unfold A0
 rw [i1]; rfl
section
variable(hf:List (Str×D))(kvs:List (List Nat×D))(nm:List (List Nat))
theorem Asc(hz:nm.length<=1000):Lq [.sh (Ao (.ins "House" hf) (.dct kvs) nm)]=.ok (.val (.int (nm.length:Int))) [.sh (Ao (.ins "House" hf) (.dct kvs) nm)]:=by
 have f3:∀ x y z w:D,(([("house",x),("texts",y),("names",z),("is_shut",w)]:List (Str×D)).lookup ("names" : Str))=some z:=fun _ _ _ _=>rfl
 have ln:B2 [.lst (nm.map D.str)]=some (.val (.int (nm.length:Int))):=by rw [Aae,List.length_map]
 unfold Lq Vp Ao
 generalize nm.map D.str=q at *
 simp_arith! [f3,ln]
theorem Ad0(n t:List Nat)(hg:B1 kvs n=some (.str t)):Iz [.sh (Ao (.ins "House" hf) (.dct kvs) nm),.sh (.str n)]=.ok (.val (.str t)) [.sh (Ao (.ins "House" hf) (.dct kvs) nm),.sh (.str n)]:=by
 have f2:∀ x y z w:D,(([("house",x),("texts",y),("names",z),("is_shut",w)]:List (Str×D)).lookup ("texts" : Str))=some y:=fun _ _ _ _=>rfl
 have i1:Bg [.str n,.con (.ty "str")]=some (.val (.bl true)):=rfl
 have i2:=Sh true n kvs
 rw [hg] at i2
 have i2:A0 inA true (.str n) (.dct kvs)=some (.val (.bl false)):=i2
 have ix:ixA (.dct kvs) (.str n)=some (.val (.str t)):=by
  show (match ixD (.dct kvs) (.str n) with | some r=>some r | none=>ixK (.dct kvs) (.str n))=_
  show (B1 kvs n).map Rv.val=_
  rw [hg]; rfl
 unfold Iz Vo Ao
 clear hg
 simp_arith! [f2,i1,i2,ix]
theorem Ad1(n:List Nat):Ga [.sh (Ao (.ins "House" hf) (.dct kvs) nm),.sh (.str n)]=.ok (.val (.bl (B1 kvs n).isSome)) [.sh (Ao (.ins "House" hf) (.dct kvs) nm),.sh (.str n)]:=by
 have f2:∀ x y z w:D,(([("house",x),("texts",y),("names",z),("is_shut",w)]:List (Str×D)).lookup ("texts" : Str))=some y:=fun _ _ _ _=>rfl
 have i1:Bg [.str n,.con (.ty "str")]=some (.val (.bl true)):=rfl
 have i2:A0 inA false (.str n) (.dct kvs)=some (.val (.bl (B1 kvs n).isSome)):=Sh false n kvs
 unfold Ga Rp Ao
 generalize (B1 kvs n).isSome=b0 at *
 simp_arith! [f2,i1,i2]
theorem Asd(d:D)(i1:Bg [d,.con (.ty "str")]=some (.val (.bl false))):Ga [.sh (Ao (.ins "House" hf) (.dct kvs) nm),.sh d]=.ok (.val (.bl false)) [.sh (Ao (.ins "House" hf) (.dct kvs) nm),.sh d]:=by
 unfold Ga Rp Ao
 simp_arith! [i1]
end
mutual
theorem Ad2:∀ (d:D) (n:Nat),shp n d=true->Vs.eqD d d=true
 | .non,_,_=>rfl
 | .bl b,_,_=>by cases b <;> rfl
 | .int i,_,_=>by simp [Vs.eqD]
 | .str l,_,_=>by rw [Vs.eqD,decide_eq_true rfl]
 | .lst xs,n,h=>by
  cases n with
  | zero=>cases h
  | succ n=>rw [Vs.eqD]; exact eqDs_rf xs n h
 | .tup xs,n,h=>by
  cases n with
  | zero=>cases h
  | succ n=>rw [Vs.eqD]; exact eqDs_rf xs n h
 | .dct _,n,h=>by cases n <;> cases h
 | .set _,n,h=>by cases n <;> cases h
 | .ins _ _,n,h=>by cases n <;> cases h
 | .con _,n,h=>by cases n <;> cases h
 | .scr _,n,h=>by cases n <;> cases h
theorem eqDs_rf:∀ (xs:List D) (n:Nat),xs.all (shp n)=true->Vs.eqDs xs xs=true
 | [],_,_=>rfl
 | x::xs,n,h=>by
  rw [List.all_cons,Bool.and_eq_true] at h
  rw [Vs.eqDs,Ad2 x n h.1,eqDs_rf xs n h.2]
  rfl
end
theorem V7{d:D}(h:shp 64 d=true):neG d d=some (.val (.bl false)):=by
 unfold neG
 rw [h,Ad2 d 64 h]
 rfl
theorem Ase{d:D}(h:shp 64 d=true):neS d d=some (.val (.bl false)):=by
 unfold neS
 split
 ·rfl
 ·exact V7 h
theorem Ad3(d:D)(h:Pf d=true)(hs:Adc 1000 d)(ht:textOf Ce d=false):E3 [.sh d]=.er ("BadName",[("name",d)]) [.sh d]:=by
 have mk:=Arq d Ce h (by cases d <;> first | exact Nat.le_trans hs (by omega) | trivial)
 rw [ht] at mk
 unfold E3 Pc
 generalize Ce=SM at *
 simp_arith! [mk]
 all_goals rfl
theorem Asf(n:List Nat)(h:n≠[])(hs:∀ c∈n,c∈Ce)(hz:12<n.length)(hz2:n.length<=1000):E3 [.sh (.str n)]=.er ("BadName",[("name",.str n)]) [.sh (.str n)]:=by
 have mk:=V1 n Ce (by omega)
 rw [decide_eq_false h,List.all_eq_true.mpr fun c hc=>decide_eq_true (hs c hc)] at mk
 have ln:B2 [.str n]=some (.val (.int (n.length:Int))):=if_pos (by rw [sizeLine_eq]; omega)
 have gt:gtD (.int (n.length:Int)) (.int 12)=some (.val (.bl true)):=by
  show some (Rv.val (.bl (decide ((12:Int)<n.length))))=_
  rw [decide_eq_true (by omega)]
 unfold E3 Pc
 generalize Ce=SM at *
 simp_arith! [mk,ln,gt]
 all_goals rfl
structure BadN(h:D):Prop where
 chk:E3 [.sh h]=.er ("BadName",[("name",h)]) [.sh h]
 okx:okX (.sh h)=true
 st:(∃ l,h=.str l/\¬ E5 l)\/Bg [h,.con (.ty "str")]=some (.val (.bl false))
 ne:∀ s p q,neS (.lst [.str s,h,.bl p,.bl q]) (.lst [.str s,h,.bl p,.bl q])=some (.val (.bl false))
 ib:∃ b,Bg [h,.con (.ty "bool")]=some (.val (.bl b))
 il:∃ b,Bg [h,.con (.ty "list")]=some (.val (.bl b))
theorem I0{h:D}(hh:shp 63 h=true)(s:List Nat)(p q:Bool):neS (.lst [.str s,h,.bl p,.bl q]) (.lst [.str s,h,.bl p,.bl q])=some (.val (.bl false)):=Ase (by
 show [D.str s,h,.bl p,.bl q].all (shp 63)=true
 rw [List.all_cons,List.all_cons,hh]
 rfl)
theorem Nf(l:List Nat)(hz:l.length<=1000)(h:¬ E5 l):BadN (.str l):=by
 refine ⟨?_,rfl,.inl ⟨l,rfl,h⟩,I0 rfl,⟨_,rfl⟩,⟨_,rfl⟩⟩
 by_cases h1:l≠[]/\∀ c∈l,c∈Ce
 ·exact Asf l h1.1 h1.2 (by
   rcases Nat.lt_or_ge 12 l.length with z | z
   ·exact z
   ·exact absurd ⟨h1.1,z,h1.2⟩ h) hz
 ·refine Ad3 _ rfl hz ?_
  show (!decide (l=[])&&l.all fun c=>decide (c∈Ce))=false
  by_cases h2:l=[]
  ·rw [decide_eq_true h2]; rfl
  ·rw [decide_eq_false h2]
   cases q:l.all fun c=>decide (c∈Ce) with
   | false=>rfl
   | true=>exact absurd ⟨h2,fun c hc=>of_decide_eq_true (List.all_eq_true.mp q c hc)⟩ h1
theorem I5(d:D)(hp:Pf d=true)(ht:isT d=false)(ok:okX (.sh d)=true)(ne:∀ s p q,neS (.lst [.str s,d,.bl p,.bl q]) (.lst [.str s,d,.bl p,.bl q])=some (.val (.bl false)))(ib:∃ b,Bg [d,.con (.ty "bool")]=some (.val (.bl b)))(il:∃ b,Bg [d,.con (.ty "list")]=some (.val (.bl b))):BadN d :=
 ⟨Ad3 d hp (by cases d <;> first | trivial | cases ht) (by cases d <;> first | rfl | cases ht),ok,.inr (by rw [Adb hp,ht]),ne,ib,il⟩
def L0(t1 good:List Nat):List D:=[.str t1,.str [],.str [97,98,99,100,101,102,103,104,105,106,107,108,109],.str (good++(List.replicate 12 good).flatten),.str (good.map PyProof.Rows.up1),.non,.int 0,.int 1,.bl true]
def L1(good:List Nat):List D:=[.bl false,.lst [.str good],.tup [.str good],.dct [(good,.int 1)],.lst [],.str [97,98,32,99]]
theorem V8(good:List Nat):(List.replicate 12 good).flatten.length=12*good.length:=by
 simp
 omega
theorem Asg(t1 good:List Nat)(h1:¬ E5 t1)(z1:t1.length<=1000)(hg:E5 good):∀ h∈L0 t1 good++L1 good,BadN h:=by
 have gl:1<=good.length:=Nat.one_le_iff_ne_zero.mpr fun z=>hg.1 (List.length_eq_zero_iff.mp z)
 have gu:=hg.2.1
 intro h hh
 simp only [L0,L1,List.mem_append,List.mem_cons,List.not_mem_nil,or_false] at hh
 rcases hh with (rfl | rfl | rfl | rfl | rfl | rfl | rfl | rfl | rfl) | rfl | rfl | rfl | rfl | rfl | rfl
 ·exact Nf _ z1 h1
 ·exact Nf _ (by decide) fun z=>z.1 rfl
 ·exact Nf _ (by decide) fun z=>absurd z.2.1 (by decide)
 ·refine Nf _ ?_ fun z=>?_
  ·rw [List.length_append,V8]; omega
  ·have:=z.2.1
   rw [List.length_append,V8] at this
   omega
 ·refine Nf _ (by rw [List.length_map]; omega) fun z=>?_
  obtain ⟨c,r,rfl⟩:∃ c r,good=c::r:=by
   cases good with
   | nil=>exact absurd rfl hg.1
   | cons c r=>exact ⟨c,r,rfl⟩
  have hc:=hg.2.2 c List.mem_cons_self
  have hu:=z.2.2 (PyProof.Rows.up1 c) (by rw [List.map_cons]; exact List.mem_cons_self)
  have lo:∀ x∈Ce,97<=x/\x<=122:=by decide
  obtain ⟨a1,a2⟩:=lo c hc
  have b1:=(lo _ hu).1
  unfold PyProof.Rows.up1 at b1
  rw [if_pos ⟨a1,a2⟩] at b1
  omega
 ·exact I5 _ rfl rfl rfl (I0 rfl) ⟨_,rfl⟩ ⟨_,rfl⟩
 ·exact I5 _ rfl rfl rfl (I0 rfl) ⟨_,rfl⟩ ⟨_,rfl⟩
 ·exact I5 _ rfl rfl rfl (I0 rfl) ⟨_,rfl⟩ ⟨_,rfl⟩
 ·exact I5 _ rfl rfl rfl (I0 rfl) ⟨_,rfl⟩ ⟨_,rfl⟩
 ·exact I5 _ rfl rfl rfl (I0 rfl) ⟨_,rfl⟩ ⟨_,rfl⟩
 ·exact I5 _ rfl rfl rfl (I0 rfl) ⟨_,rfl⟩ ⟨_,rfl⟩
 ·exact I5 _ rfl rfl rfl (I0 rfl) ⟨_,rfl⟩ ⟨_,rfl⟩
 ·refine I5 _ rfl rfl rfl (fun s p q=>?_) ⟨_,rfl⟩ ⟨_,rfl⟩
  have sl:Qy (.lst [.str s,.dct [(good,.int 1)],.bl p,.bl q]) (.lst [.str s,.dct [(good,.int 1)],.bl p,.bl q])=true:=by
   simp [Qy,Ot,Qx,Mv]
  unfold neS
  rw [if_pos sl]
 ·exact I5 _ rfl rfl rfl (I0 rfl) ⟨_,rfl⟩ ⟨_,rfl⟩
 ·exact Nf _ (by decide) fun z=>absurd z.2.2 (by decide)
theorem Ash(d:D):Cn ("BadName",[("name",d)])=some (.fresh (.lst [.str [110,97,109,101],d,.bl true,.bl false])):=by
 have z4:([.str [110,97,109,101],d,.bl true,.bl false]:List D).length<=sizeLine:=by rw [sizeLine_eq]; show (4:Nat)<=16777216; omega
 have e1:(Bq (xC (.str [110,97,109,101])) (Bq (xF "name") (Bq (xC (.bl true)) (Bq (xC (.bl false)) Jn)))) [("name",d)]=some [.str [110,97,109,101],d,.bl true,.bl false]:=rfl
 unfold Cn erC
 rw [if_pos ⟨rfl,List.cons_ne_nil _ _⟩]
 simp only [e1]
 rw [if_pos z4]
 rfl
theorem Si(d:D):Cn ("NoText",[("name",d)])=some (.fresh (.lst [.str [116,101,120,116],d,.bl false,.bl true])):=by
 have z4:([.str [116,101,120,116],d,.bl false,.bl true]:List D).length<=sizeLine:=by rw [sizeLine_eq]; show (4:Nat)<=16777216; omega
 have e1:(Bq (xC (.str [116,101,120,116])) (Bq (xF "name") (Bq (xC (.bl false)) (Bq (xC (.bl true)) Jn)))) [("name",d)]=some [.str [116,101,120,116],d,.bl false,.bl true]:=rfl
 unfold Cn erC
 rw [if_neg (fun z=>absurd (show ("NoText" : Str) = "BadName" from z.1) (by decide))]
 unfold erC
 rw [if_pos ⟨rfl,List.cons_ne_nil _ _⟩]
 simp only [e1]
 rw [if_pos z4]
 rfl
theorem Asi(y x:D)(r:List D):ixA (.lst (y::x::r)) (.int 1)=some (.val x):=by
 show (match (atI (y::x::r) 1).map Rv.val with | some r=>some r | none=>_)=_
 have e:atI (y::x::r) (1:Int)=some x:=by
  unfold atI ixN
  rw [if_pos (by omega),if_pos (by simp; omega)]
  rfl
 rw [e]
 rfl
theorem Asj(s:List Nat)(h:D)(p q:Bool)(ne:neS (.lst [.str s,h,.bl p,.bl q]) (.lst [.str s,h,.bl p,.bl q])=some (.val (.bl false)))(ib:∃ b,Bg [h,.con (.ty "bool")]=some (.val (.bl b)))(il:∃ b,Bg [h,.con (.ty "list")]=some (.val (.bl b))) :
  Fe [.sh (.lst [.str s,h,.bl p,.bl q]),.sh (.lst [.str s,h,.bl p,.bl q])]=.ok (.val (.bl true)) [.sh (.lst [.str s,h,.bl p,.bl q]),.sh (.lst [.str s,h,.bl p,.bl q])]:=by
 obtain ⟨b1,e1⟩:=ib
 obtain ⟨b2,e2⟩:=il
 have a1:=Asi (.str s) h [.bl p,.bl q]
 have q1:∀ b:Bool,eqG (.bl b) (.bl b)=some (.val (.bl true)):=fun b=>by cases b <;> rfl
 unfold Fe Vt
 generalize ([.str s,h,.bl p,.bl q]:List D)=L at *
 simp_arith! [ne,a1,e1,e2,q1]
 all_goals rfl
theorem Asl(FS:List Sl->Res Rv)(hS:Fe=FS)(s:List Nat)(h:D)(p q:Bool)(e:FS [.sh (.lst [.str s,h,.bl p,.bl q]),.sh (.lst [.str s,h,.bl p,.bl q])]=.ok (.val (.bl true)) [.sh (.lst [.str s,h,.bl p,.bl q]),.sh (.lst [.str s,h,.bl p,.bl q])])(s0 s1 s2 s3 s4 s6 s7 s8 s9 s10 s11 s12:Sl) :
  Az Fe (Aa (fC (.lst [.str s,h,.bl p,.bl q])) (Aa (Ad (A3 (Aa (fC (.str s)) (Aa (Ad (Ab 5)) (Aa (fC (.bl p)) (Aa (fC (.bl q)) Af)))))) Af)) [s0,s1,s2,s3,s4,.sh h,s6,s7,s8,s9,s10,s11,s12]=.ok (.val (.bl true)) [s0,s1,s2,s3,s4,.sh h,s6,s7,s8,s9,s10,s11,s12]:=by
 have z4:∀ a b c d:D,decide ([a,b,c,d].length<=sizeLine)=true:=fun a b c d=>by rw [sizeLine_eq]; rfl
 rw [hS]
 clear hS
 simp_arith! [z4,e]
theorem Asm(s:List Nat)(h:D)(p q:Bool)(s0 s1 s2 s3 s4 s6 s7 s8 s9 s10 s11 s12:Sl) :
  (A3 (Aa (fC (.str s)) (Aa (Ad (Ab 5)) (Aa (fC (.bl p)) (Aa (fC (.bl q)) Af))))) [s0,s1,s2,s3,s4,.sh h,s6,s7,s8,s9,s10,s11,s12]=.ok (.fresh (.lst [.str s,h,.bl p,.bl q])) [s0,s1,s2,s3,s4,.sh h,s6,s7,s8,s9,s10,s11,s12]:=by
 have z4:∀ a b c d:D,decide ([a,b,c,d].length<=sizeLine)=true:=fun a b c d=>by rw [sizeLine_eq]; rfl
 simp_arith! [z4]
def Pj(E:List (List Nat×List Nat))(n:List Nat):List Nat:=(C4 E n).getD []
def Gw(E:List (List Nat×List Nat)):List D:=((Aw (E.map (·.1))).map fun n=>D.tup [.str n,.str (Pj E n)])++[.int (E.length:Int)]
theorem Asn(E:List (List Nat×List Nat)):shp 64 (.lst (Gw E))=true:=by
 show (Gw E).all (shp 63)=true
 refine List.all_eq_true.mpr fun x hx=>?_
 unfold Gw at hx
 rcases List.mem_append.mp hx with h | h
 ·obtain ⟨n,_,rfl⟩:=List.mem_map.mp h
  rfl
 ·rw [List.mem_singleton.mp h]
  rfl
theorem Aso(E:List (List Nat×List Nat)):Cb (.lst (Gw E))=true:=by
 show ncs (Gw E)=true
 unfold Gw
 generalize Aw (E.map (·.1))=ns
 induction ns with
 | nil=>rfl
 | cons n ns ih=>exact ih
theorem Asp(FG:List Sl->Res Rv)(hG:Iz=FG)(sf:List (Str×D))(n t:List Nat)(g:FG [.sh (.ins "Store" sf),.sh (.str n)]=.ok (.val (.str t)) [.sh (.ins "Store" sf),.sh (.str n)]) :
  Lr [.sh (.ins "Store" sf),.sh (.str n)]=.ok (.val (.tup [.str n,.str t])) [.sh (.ins "Store" sf),.sh (.str n)]:=by
 have hT:Kd "Store" = some FG:=by rw [← hG]; rfl
 have z2:∀ a b:D,decide ([a,b].length<=sizeLine)=true:=fun a b=>by rw [sizeLine_eq]; rfl
 clear hG
 unfold Lr
 simp_arith! [Aa0,Aaz,hT,g,Aa1,z2]
theorem Ad4(hf:List (Str×D))(E:List (List Nat×List Nat))(nm:List (List Nat)):∀ ns:List (List Nat),(∀ n∈ns,n∈E.map (·.1)) ->
  lcL (Aq 1) (M.ret true) Lr [1] (ns.map D.str) [.sh (Ao (.ins "House" hf) (.dct (Av D.str E)) nm),.un]=.ok (ns.map fun n=>D.tup [.str n,.str (Pj E n)]) [.sh (Ao (.ins "House" hf) (.dct (Av D.str E)) nm),.un]
 | [],_=>rfl
 | n::ns,h=>by
  have ih:=Ad4 hf E nm ns fun x hx=>h x (List.mem_cons_of_mem _ hx)
  obtain ⟨a,ga,_⟩:=Ar4 (h n List.mem_cons_self)
  have ta:Pj E n=a:=by unfold Pj; rw [ga]; rfl
  have sg:=Ad0 hf (Av D.str E) nm n a (by rw [Pg,ga]; rfl)
  have st:=Asp Iz rfl [("house",.ins "House" hf),("texts",.dct (Av D.str E)),("names",.lst (nm.map D.str)),("is_shut",.bl false)] n a sg
  rw [List.map_cons,List.map_cons,Qr,ta]
  unfold Ao at *
  clear h sg
  generalize Lr=ES at *
  generalize D.tup [.str n,.str a]=q1 at *
  generalize (ns.map fun n=>D.tup [.str n,.str (Pj E n)])=q2 at *
  generalize Av D.str E=kv at *
  simp_arith! [st,ih]
  all_goals rfl
theorem Asq(FL:List Sl->Res Rv)(hL:Lq=FL)(hf:List (Str×D))(nm ps all:List D)(ln:Nat)(lz:ln<=1000)(its:Gk Kc (.ins "Store" hf)=some nm)(lp:lcL (Aq 1) (M.ret true) Lr [1] nm [.sh (.ins "Store" hf),.un]=.ok ps [.sh (.ins "Store" hf),.un])(sz:decide (ps.length<=sizeLine)=true)
  (el:FL [.sh (.ins "Store" hf)]=.ok (.val (.int (ln:Int))) [.sh (.ins "Store" hf)])(ad:Bb (.lst ps) (.lst [.int (ln:Int)])=some (.fresh (.lst all))) :
  Fd [.sh (.ins "Store" hf)]=.ok (.fresh (.lst all)) [.sh (.ins "Store" hf)]:=by
 have hTl:Pd "Store" = some FL:=by rw [← hL]; rfl
 have lro:=fun (e:Ve)=>Ans (n:=ln) (e:=e) (by omega)
 have z1:∀ a:D,decide ([a].length<=sizeLine)=true:=fun a=>by rw [sizeLine_eq]; rfl
 unfold Fd Vr
 clear hL
 generalize Lr=ES at *
 generalize (ln:Int)=n0 at *
 simp_arith! [Ape,Apd,its,lp,sz,Anr,Anq,hTl,el,lro,z1,ad]
theorem Asr(hf:List (Str×D))(E:List (List Nat×List Nat))(hE:E.length<=50) :
  Fd [.sh (Ao (.ins "House" hf) (.dct (Av D.str E)) (Aw (E.map (·.1))))]=.ok (.fresh (.lst (Gw E))) [.sh (Ao (.ins "House" hf) (.dct (Av D.str E)) (Aw (E.map (·.1))))]:=by
 have sl:(Aw (E.map (·.1))).length=E.length:=by rw [Adz,List.length_map]
 have el:=Asc hf (Av D.str E) (Aw (E.map (·.1))) (by omega)
 rw [sl] at el
 have hTi:Kc "Store" = some ("names" : Str):=rfl
 refine Asq Lq rfl [("house",.ins "House" hf),("texts",.dct (Av D.str E)),("names",.lst ((Aw (E.map fun q:List Nat×List Nat=>q.1)).map D.str)),("is_shut",.bl false)] ((Aw (E.map fun q:List Nat×List Nat=>q.1)).map D.str) _ _ E.length (by omega) (Apf hTi rfl) (Ad4 hf E _ _ fun n h=>srtN_mem.mp h) (decide_eq_true (by rw [sizeLine_eq,List.length_map,sl]; omega)) el ?_
 exact Adp _ _ (by rw [List.length_map,sl]; simp; omega)
def Abs(h:D)(kvs:List (List Nat×D)):Prop:=(∃ l,h=.str l/\B1 kvs l=none)\/Bg [h,.con (.ty "str")]=some (.val (.bl false))
theorem Ass(FC:List Sl->Res Rv)(hC:E3=FC)(h t:D)(x:Exn)(s0:Sl)(e:FC [.sh h]=.er x [.sh h]):Rk [s0,.sh h,.sh t]=.er x [s0,.sh h,.sh t]:=by
 unfold Rk
 rw [hC]
 clear hC
 simp_arith! [e]
theorem Ast(sf:List (Str×D))(h:D)(kvs:List (List Nat×D))(f2:sf.lookup ("texts" : Str)=some (.dct kvs))(ab:Abs h kvs):Rn [.sh (.ins "Store" sf),.sh h]=.ok true [.sh (.ins "Store" sf),.sh h]:=by
 unfold Rn
 rcases ab with ⟨l,rfl,hn⟩ | is
 ·have is:Bg [.str l,.con (.ty "str")]=some (.val (.bl true)):=rfl
  have gk:=Sh true l kvs
  rw [hn] at gk
  have gk:A0 inA true (.str l) (.dct kvs)=some (.val (.bl true)):=gk
  simp_arith! [is,f2,gk]
 ·simp_arith! [is]
theorem Asu(sf:List (Str×D))(h:D)(kvs:List (List Nat×D))(f2:sf.lookup ("texts" : Str)=some (.dct kvs))(ab:Abs h kvs):Vu [.sh (.ins "Store" sf),.sh h]=.ok true [.sh (.ins "Store" sf),.sh h]:=by
 unfold Vu
 rcases ab with ⟨l,rfl,hn⟩ | is
 ·have is:Bg [.str l,.con (.ty "str")]=some (.val (.bl true)):=rfl
  have gk:=Sh true l kvs
  rw [hn] at gk
  have gk:A0 inA true (.str l) (.dct kvs)=some (.val (.bl true)):=gk
  simp_arith! [is,f2,gk]
 ·simp_arith! [is]
theorem Asv(h:D)(s0:Sl):Ro [s0,.sh h]=.er ("NoText",[("name",h)]) [s0,.sh h]:=by
 unfold Ro
 simp_arith! []
 all_goals rfl
theorem Asw(h:D)(s0:Sl):Rl [s0,.sh h]=.er ("NoText",[("name",h)]) [s0,.sh h]:=by
 unfold Rl
 simp_arith! []
 all_goals rfl
section
variable{hf:List (Str×D)}{b b2:Addr}(hb:b≠b2){γ:Gh}(n1:¬ InG γ b)(n2:¬ InG γ b2)
include hb
theorem pro2(kvs:List (List Nat×D))(nm:List (List Nat))(h:D)(ok:okX (.sh h)=true):Bc (stG hf b b2 kvs nm γ) [.sh (.con (.ref b)),.sh h]=[.sh (Ao (.ins "House" hf) (.dct kvs) nm),.sh h]:=by
 unfold Bc
 rw [List.map_cons,List.map_cons,List.map_nil,Nc hb,Co ok]
theorem Asx(kvs:List (List Nat×D))(nm:List (List Nat))(h:D)(t:List Nat)(x:Exn)(ok:okX (.sh h)=true)(e:E3 [.sh h]=.er x [.sh h]) :
  Gx H7 [.sh (.con (.ref b)),.sh h,.sh (.str t)] (stG hf b b2 kvs nm γ) (.er x) [.sh (.con (.ref b)),.sh h,.sh (.str t)] (stG hf b b2 kvs nm γ):=by
 intro Q k
 unfold H7 By
 refine ⟨rfl,?_⟩
 show Ka [.sh (.con (.ref b)),.sh h,.sh (.str t)] _ _
 unfold Ka
 have pe:Bc (stG hf b b2 kvs nm γ) [.sh (.con (.ref b)),.sh h,.sh (.str t)]=[.sh (Ao (.ins "House" hf) (.dct kvs) nm),.sh h,.sh (.str t)]:=by
  unfold Bc
  rw [List.map_cons,List.map_cons,List.map_cons,List.map_nil,Nc hb,Co ok]
  rfl
 refine B4 (Q9 (r:=.val .non) (e1:=[.sh (Ao (.ins "House" hf) (.dct kvs) nm),.sh h,.sh (.str t)]) ?_ rfl rfl ?_)
 ·rw [pe]; exact Sf _ _ _
 show An _ _ [.sh (.con (.ref b)),.sh h,.sh (.str t)] _ _
 refine B4 ?_
 refine Ux (x:=x) (Ass E3 rfl h (.str t) x _ e) ?_
 exact k
theorem Ad5(kvs:List (List Nat×D))(nm:List (List Nat))(h:D)(ok:okX (.sh h)=true)(ab:Abs h kvs) :
  Gx Gu [.sh (.con (.ref b)),.sh h] (stG hf b b2 kvs nm γ) (.er ("NoText",[("name",h)])) [.sh (.con (.ref b)),.sh h] (stG hf b b2 kvs nm γ):=by
 intro Q k
 unfold Gu By
 refine ⟨rfl,?_⟩
 show Kf [.sh (.con (.ref b)),.sh h] _ _
 unfold Kf
 have pe:=pro2 (hf:=hf) hb (γ:=γ) kvs nm h ok
 refine B4 (Q9 (r:=.val .non) (e1:=[.sh (Ao (.ins "House" hf) (.dct kvs) nm),.sh h]) ?_ rfl rfl ?_)
 ·rw [pe]; exact Sf _ _ _
 show An _ _ [.sh (.con (.ref b)),.sh h] _ _
 refine B4 (Lm (b:=true) (e1:=[.sh (Ao (.ins "House" hf) (.dct kvs) nm),.sh h]) ?_ rfl ?_)
 ·rw [pe]; exact Ast _ h kvs rfl ab
 rw [if_pos rfl]
 show Ak Ro [.sh (.con (.ref b)),.sh h] _ _
 exact Ux (Asv h _) k
theorem Ad6(kvs:List (List Nat×D))(nm:List (List Nat))(h:D)(ok:okX (.sh h)=true)(ab:Abs h kvs) :
  Gx Lu [.sh (.con (.ref b)),.sh h] (stG hf b b2 kvs nm γ) (.er ("NoText",[("name",h)])) [.sh (.con (.ref b)),.sh h] (stG hf b b2 kvs nm γ):=by
 intro Q k
 unfold Lu By
 refine ⟨rfl,?_⟩
 show M9 [.sh (.con (.ref b)),.sh h] _ _
 unfold M9
 have pe:=pro2 (hf:=hf) hb (γ:=γ) kvs nm h ok
 refine B4 (Lm (b:=true) (e1:=[.sh (Ao (.ins "House" hf) (.dct kvs) nm),.sh h]) ?_ rfl ?_)
 ·rw [pe]; exact Asu _ h kvs rfl ab
 rw [if_pos rfl]
 show Ak Rl [.sh (.con (.ref b)),.sh h] _ _
 exact Ux (Asw h _) k
theorem Asy(kvs:List (List Nat×D))(nm:List (List Nat))(h:D)(t:List Nat)(x:Exn)(ok:okX (.sh h)=true)(e:E3 [.sh h]=.er x [.sh h]) :
  Gx Gr [.sh (.con (.ref b)),.sh h,.sh (.str t)] (stG hf b b2 kvs nm γ) (.er x) [.sh (.con (.ref b)),.sh h,.sh (.str t)] (stG hf b b2 kvs nm γ):=by
 intro Q k
 have hT:Gq "Store" = some H7:=rfl
 unfold Gr By
 refine ⟨rfl,?_⟩
 show Ke [.sh (.con (.ref b)),.sh h,.sh (.str t)] _ _
 unfold Ke
 refine B4 (Apr (v:=.str t) (ix:=h) rfl rfl rfl Gb hT (Asx (hf:=hf) hb kvs nm h t x ok e) ?_)
 exact k
include n1 n2
theorem Asz(kvs:List (List Nat×D))(nm:List (List Nat))(n t:List Nat)(hn:E5 n)(hk:kvs.length<60)(hk2:(Ci kvs n (.str t)).length<64) :
  Gx Gr [.sh (.con (.ref b)),.sh (.str n),.sh (.str t)] (stG hf b b2 kvs nm γ) (.v (.val (.str [115,101,116]))) [.sh (.con (.ref b)),.sh (.str n),.sh (.str t)] (stG hf b b2 (Ci kvs n (.str t)) (Aw ((Ci kvs n (.str t)).map (·.1))) γ):=by
 intro Q k
 have hT:Gq "Store" = some H7:=rfl
 have pr:=Adm (hf:=hf) hb n1 n2 kvs nm n t hn hk hk2
 have c1:∀ e:Ve,Acu e=.ok (.rt (.val (.str [115,101,116]))) e:=fun e=>rfl
 unfold Gr By
 refine ⟨rfl,?_⟩
 show Ke [.sh (.con (.ref b)),.sh (.str n),.sh (.str t)] _ _
 unfold Ke
 refine B4 (Abv (v:=.str t) (ix:=.str n) rfl rfl rfl Gb hT pr ?_)
 exact Ez (c1 _) k
end
theorem if_not{A2:E2 Rv}{A B:W2}{e e1:Ve}{γ γ1:Gh}{P:P2}(h:∀ K:Og Rv->Ve->Gh->Prop,K (.v (.val (.bl true))) e1 γ1->A2 e γ K)(k:B e1 γ1 P):if2 (Hx (Ca A2)) A B e γ P:=by
 unfold if2 Hx Ca
 exact h _ k
theorem Sj{A2:E2 Rv}{Bm:M Rv}{e e1:Ve}{γ γ1:Gh}{L L':List D}(h:∀ K:Og Rv->Ve->Gh->Prop,K (.v (.fresh (.lst L))) e1 γ1->A2 e γ K)(hB:Bm e1=.ok (.fresh (.lst L')) e1)(ne:neG (.lst L) (.lst L')=some (.val (.bl false))):∀ K:Og Bool->Ve->Gh->Prop,K (.v false) e1 γ1->Ca (Fo neG A2 (Vs.liftM Bm)) e γ K:=fun K kk=>by
 unfold Ca Fo Bn
 refine h _ ?_
 show Vs.liftM Bm e1 γ1 _
 unfold Vs.liftM
 rw [hB]
 show opC neG (.fresh (.lst L)) (.fresh (.lst L')) e1 γ1 _
 show (match neG (.lst L) (.lst L') with | some r=>_ | none=>False)
 rw [ne]
 exact kk
theorem Ad7{T R:E2 Bool}{A B:W2}{e e1:Ve}{γ γ1:Gh}{P:P2}(h:∀ K:Og Bool->Ve->Gh->Prop,K (.v false) e1 γ1->T e γ K)(k:if2 R A B e1 γ1 P):if2 (or2 T R) A B e γ P:=by
 unfold if2 or2
 exact h _ k
theorem As0{T:E2 Bool}{A B:W2}{e e1:Ve}{γ γ1:Gh}{P:P2}(h:∀ K:Og Bool->Ve->Gh->Prop,K (.v false) e1 γ1->T e γ K)(k:B e1 γ1 P):if2 T A B e γ P:=by
 unfold if2
 exact h _ k
theorem As1{Q:M Bool}{T:E2 Bool}{A B:W2}{e e1:Ve}{γ:Gh}{P:P2}(h:Q e=.ok false e1)(k:B e1 γ P):if2 (Ip (Vs.liftM Q) T) A B e γ P:=by
 unfold if2 Ip Vs.liftM
 rw [h]
 exact k
theorem As2{Q:M Bool}{T:E2 Bool}{A B:W2}{e e1 e2:Ve}{γ γ1:Gh}{P:P2}(h:Q e=.ok true e1)(h2:∀ K:Og Bool->Ve->Gh->Prop,K (.v false) e2 γ1->T e1 γ K)(k:B e2 γ1 P):if2 (Ip (Vs.liftM Q) T) A B e γ P:=by
 unfold if2 Ip Vs.liftM
 rw [h]
 exact h2 _ k
theorem Sk{hf:List (Str×D)}{b b2:Addr}{kvs:List (List Nat×D)}{nm:List (List Nat)}{γ:Gh}(hb:b≠b2){s0 s1 s4 s5 s6 s7 s8 s9 s10 s11 s12:Sl}(g0:okX s0=true)(g1:okX s1=true)(g4:okX s4=true)(g5:okX s5=true)(g6:okX s6=true)(g7:okX s7=true)(g8:okX s8=true)(g9:okX s9=true)(g10:okX s10=true)(g11:okX s11=true)(g12:okX s12=true)(d:D)(nd:Cb d=true) :
  Bc (stG hf b b2 kvs nm γ) [s0,s1,.ow d,.sh (.con (.ref b)),s4,s5,s6,s7,s8,s9,s10,s11,s12]=[s0,s1,.ow d,.sh (Ao (.ins "House" hf) (.dct kvs) nm),s4,s5,s6,s7,s8,s9,s10,s11,s12] /\
  B3 [s0,s1,.ow d,.sh (.con (.ref b)),s4,s5,s6,s7,s8,s9,s10,s11,s12] [s0,s1,.ow d,.sh (Ao (.ins "House" hf) (.dct kvs) nm),s4,s5,s6,s7,s8,s9,s10,s11,s12]=true /\
  Cc [s0,s1,.ow d,.sh (.con (.ref b)),s4,s5,s6,s7,s8,s9,s10,s11,s12] [s0,s1,.ow d,.sh (Ao (.ins "House" hf) (.dct kvs) nm),s4,s5,s6,s7,s8,s9,s10,s11,s12]=[s0,s1,.ow d,.sh (.con (.ref b)),s4,s5,s6,s7,s8,s9,s10,s11,s12]:=by
 refine ⟨?_,?_,?_⟩
 ·unfold Bc
  simp only [List.map_cons,List.map_nil,Nc hb,Co g0,Co g1,Co g4,Co g5,Co g6,Co g7,Co g8,Co g9,Co g10,Co g11,Co g12]
  rfl
 ·simp only [C6 g0,C6 g1,Adu,Adv,C6 g4,C6 g5,C6 g6,C6 g7,C6 g8,C6 g9,C6 g10,C6 g11,C6 g12,Adw,nd,Bool.and_true]
 ·simp only [Ads,Adt,C5 g0,C5 g1,Ady,Adx,C5 g4,C5 g5,C5 g6,C5 g7,C5 g8,C5 g9,C5 g10,C5 g11,C5 g12]
def H8:D:=.ins "Chain" [("letters",.str [97,98]),("steps",.tup []),("keep_places",.bl false),("front_steps",.tup []),("rows",.non),("back_steps",.tup [])]
abbrev Bk:List (Str×D):=[("keep",cAB),("ask",H8),("letters",.str [97,98])]
def Sm:D:=.ins "House" Bk
theorem As3:Iw [.bo (.ins "House" []),.bo cAB,.bo H8]=.ok (.val .non) [.bo Sm,.bf cAB,.bf H8]:=rfl
theorem As4:Hg 1 2 Eh [.bo (.ins "Chain" []),.sh (.str [97,98]),.sh (.bl false)]=.ok (.val .non) [.bo H8,.sh (.str [97,98]),.sh (.bl false)]:=by
 have c1:=Adg
 have c2:=Adf [97,98]
 have cc:cs_Chain.contains "Chain" = true:=rfl
 have p1:Bl "letters" (D.str [97,98]) ([]:List (Str×D))=([("letters",D.str [97,98])]:List (Str×D)):=rfl
 have p2:Bl "steps" (D.tup []) ([("letters",D.str [97,98])]:List (Str×D))=([("letters",D.str [97,98]),("steps",D.tup [])]:List (Str×D)):=rfl
 have p3:Bl "keep_places" (D.bl false) ([("letters",D.str [97,98]),("steps",D.tup [])]:List (Str×D))=([("letters",D.str [97,98]),("steps",D.tup []),("keep_places",D.bl false)]:List (Str×D)):=rfl
 have k1:decide (([("letters",D.str [97,98])]:List (Str×D)).length<1000)=true:=rfl
 have k2:decide (([("letters",D.str [97,98]),("steps",D.tup [])]:List (Str×D)).length<1000)=true:=rfl
 have h3:∀ x y:Sl,Oq cs_Chain "front_steps" "rows" "back_steps" 0 (Aa (Ad (Hm Af)) (Aa (fC .non) (Aa (Ad (Ab 3)) Af))) [.bo (.ins "Chain" [("letters",.str [97,98]),("steps",.tup []),("keep_places",.bl false)]),.sh (.str [97,98]),.sh (.bl false),.sh (.tup []),x,y]=.ok .nx [.bo H8,.sh (.str [97,98]),.sh (.bl false),.sh (.tup []),x,y]:=fun x y=>rfl
 have es:∀ e,B0 (E7 2 (Dc (Aq 4) (Dc (Aq 5) Ia))) Vf (Cj 0 []) e=.ok .nx e:=fun e=>rfl
 have g:Eh [.bo (.ins "Chain" []),.sh (.str [97,98]),.sh (.bl false),.sh (.tup [])]=.ok (.val .non) [.bo H8,.sh (.str [97,98]),.sh (.bl false),.sh (.tup [])]:=by
  unfold Eh Rh
  simp_arith! [c1,c2,cc,p1,p2,p3,k1,k2,h3,es,Qt]
  done
 unfold Hg
 rw [if_pos (show ([Sl.bo (.ins "Chain" []),Sl.sh (.str [97,98]),Sl.sh (.bl false)]:List Sl).length=1+2 from rfl)]
 unfold Fy
 rw [if_pos (by simp)]
 show (if ([D.str [97,98],.bl false]:List D).length-2<=sizeLine then Oj 1 [Sl.bo (.ins "Chain" []),Sl.sh (.str [97,98]),Sl.sh (.bl false)] (Eh [.bo (.ins "Chain" []),.sh (.str [97,98]),.sh (.bl false),.sh (.tup [])]) else .no)=_
 rw [if_pos (show ([D.str [97,98],.bl false]:List D).length-2<=sizeLine from Nat.zero_le _),g]
 rfl
theorem As5(FH FP SE:List Sl->Res Rv)(hH:Iw=FH)(hP:H6=FP)(hE:Hg 1 2 Eh=SE)(e1:FP [.sh (.str [97,98])]=.ok (.fresh cAB) [.sh (.str [97,98])])(e3:SE [.bo (.ins "Chain" []),.sh (.str [97,98]),.sh (.bl false)]=.ok (.val .non) [.bo H8,.sh (.str [97,98]),.sh (.bl false)])(e2:FH [.bo (.ins "House" []),.bo cAB,.bo H8]=.ok (.val .non) [.bo Sm,.bf cAB,.bf H8])(s0 s1 s2 s3 s4 s5 s6 s7 s8 s9 s10 s11 s12:Sl) :
  Aa (Mn "House" FH (Aa (Az FP (Aa (fC (.str [97,98])) Af)) (Aa (Oe "Chain" SE (Aa (fC (.str [97,98])) (Aa (fC (.bl false)) Af))) Af))) Af [s0,s1,s2,s3,s4,s5,s6,s7,s8,s9,s10,s11,s12]=.ok [.fresh Sm] [s0,s1,s2,s3,s4,s5,s6,s7,s8,s9,s10,s11,s12]:=by
 clear hH hP hE
 have zc:∃ fs,H8=.ins "Chain" fs:=⟨_,rfl⟩
 obtain ⟨fs,hc⟩:=zc
 rw [hc] at e2 e3
 generalize cAB=cd at *
 unfold Sm at *
 generalize Bk=hf at *
 simp_arith! [Z7,e1,e2,e3]
theorem c1_45(FS:List Sl->Res Rv)(hS:Iu=FS)(ns:List Int)(a:Int)(d0:D)(x2 s3 s4 s5 s6 s7 s8 s9 s10 s11 s12:Sl)(g2:Br x2=true)(e0:FS [.sh (.scr ns),.sh (.int a)]=.ok (.fresh d0) [.sh (.scr ns),.sh (.int a)]) :
  Rq [.sh (.scr ns),.sh (.int a),x2,s3,s4,s5,s6,s7,s8,s9,s10,s11,s12]=.ok .nx [.sh (.scr ns),.sh (.int a),.ow d0,s3,s4,s5,s6,s7,s8,s9,s10,s11,s12]:=by
 unfold Rq
 rw [hS]
 clear hS
 simp_arith! [e0,g2]
theorem As6(b:Addr)(s0 s1 s2 s4 s5 s6 s7 s8 s9 s10 s11 s12 x3:Sl)(g:Br x3=true):D4 3 (.val (.con (.ref b))) [s0,s1,s2,x3,s4,s5,s6,s7,s8,s9,s10,s11,s12]=.ok .nx [s0,s1,s2,.sh (.con (.ref b)),s4,s5,s6,s7,s8,s9,s10,s11,s12]:=by
 cases x3 <;> first | rfl | cases g
theorem As7(d:D)(s0 s1 s2 s3 s4 s5 s6 s7 s8 s9 s11 s12 x10:Sl)(g:Br x10=true):D4 10 (.val d) [s0,s1,s2,s3,s4,s5,s6,s7,s8,s9,x10,s11,s12]=.ok .nx [s0,s1,s2,s3,s4,s5,s6,s7,s8,s9,.sh d,s11,s12]:=by
 cases x10 <;> first | rfl | cases g
theorem V9(d:D)(s0 s1 s2 s3 s4 s6 s7 s8 s9 s10 s11 s12 x5:Sl)(g:Br x5=true):Aq 5 d [s0,s1,s2,s3,s4,x5,s6,s7,s8,s9,s10,s11,s12]=.ok () [s0,s1,s2,s3,s4,.sh d,s6,s7,s8,s9,s10,s11,s12]:=by
 cases x5 <;> first | rfl | cases g
theorem Ad8(d:D)(s0 s1 s2 s3 s4 s5 s6 s7 s8 s9 s10 s12 x11:Sl)(g:Br x11=true):Aq 11 d [s0,s1,s2,s3,s4,s5,s6,s7,s8,s9,s10,x11,s12]=.ok () [s0,s1,s2,s3,s4,s5,s6,s7,s8,s9,s10,.sh d,s12]:=by
 cases x11 <;> first | rfl | cases g
theorem As8(d:D)(s0 s2 s3 s4 s5 s6 s7 s8 s9 s10 s11 s12 x1:Sl)(g:Br x1=true):Aq 1 d [s0,x1,s2,s3,s4,s5,s6,s7,s8,s9,s10,s11,s12]=.ok () [s0,.sh d,s2,s3,s4,s5,s6,s7,s8,s9,s10,s11,s12]:=by
 cases x1 <;> first | rfl | cases g
theorem en45(FN:List Sl->Res Rv)(hN:F7=FN)(d d1:D)(n:List Nat)(s0 s1 s3 s4 s5 s6 s7 s8 s9 s10 s11 s12:Sl)(e:FN [.bo d]=.ok (.val (.str n)) [.bo d1]) :
  Lw [s0,s1,.ow d,s3,s4,s5,s6,s7,s8,s9,s10,s11,s12]=.ok (.val (.str n)) [s0,s1,.ow d1,s3,s4,s5,s6,s7,s8,s9,s10,s11,s12]:=by
 unfold Lw
 rw [hN]
 clear hN
 simp_arith! [e]
theorem Ad9(s0 s1 s3 s4 s5 s6 s7 s8 s9 s10 s12:Sl):∀ (ds:List D) (d:D) (m:Nat),IsSrc m d->m+13*ds.length<800000->∃ (l:List (List Nat)) (d':D),l.length=ds.length/\(∀ n∈l,E5 n)/\IsSrc (m+13*ds.length) d' /\
  lcL (Aq 11) (M.ret true) Lw [11] ds [s0,s1,.ow d,s3,s4,s5,s6,s7,s8,s9,s10,.un,s12]=.ok (l.map D.str) [s0,s1,.ow d',s3,s4,s5,s6,s7,s8,s9,s10,.un,s12]
 | [],d,m,h,_=>⟨[],d,rfl,(fun x hx=>nomatch hx),h.mono (by simp),rfl⟩
 | y::ds,d,m,h,hm=>by
  rw [List.length_cons] at hm
  obtain ⟨n,d1,hn,sd,e1⟩:=Adr d m h (by omega)
  obtain ⟨l,d',hl,hk,s2,hc⟩:=Ad9 s0 s1 s3 s4 s5 s6 s7 s8 s9 s10 s12 ds d1 (m+13) sd (by omega)
  have q:=en45 F7 rfl d d1 n s0 s1 s3 s4 s5 s6 s7 s8 s9 s10 (.sh y) s12 e1
  refine ⟨n::l,d',by simp [hl],fun z hz=>?_,s2.mono (by rw [List.length_cons]; omega),?_⟩
  ·rcases List.mem_cons.mp hz with z | z
   ·rw [z]; exact hn
   ·exact hk _ z
  rw [Qr,List.map_cons]
  generalize Lw=EX at *
  generalize l.map D.str=q2 at *
  simp_arith! [q,hc]
  all_goals rfl
theorem pk45(FP:List Sl->Res Rv)(hP:Ei=FP)(m i:Int)(d d1:D)(s0 s1 s3 s4 s5 s6 s7 s8 s9 s10 s11 s12:Sl)(e:FP [.bo d,.sh (.int m)]=.ok (.val (.int i)) [.bo d1,.sh (.int m)]) :
  Az Ei (Aa (Ab 2) (Aa (fC (.int m)) Af)) [s0,s1,.ow d,s3,s4,s5,s6,s7,s8,s9,s10,s11,s12]=.ok (.val (.int i)) [s0,s1,.ow d1,s3,s4,s5,s6,s7,s8,s9,s10,s11,s12]:=by
 rw [hP]
 clear hP
 simp_arith! [e]
theorem c2_45(SR:M (List D))(hS:Fv (Az Ei (Aa (Ab 2) (Aa (fC (.int 4)) Af)))=SR)(d d1 d2:D)(rl qs:List D)(s0 s1 s3 s4 s5 s6 s7 s8 s9 s10 s11 s12:Sl)(g4:Br s4=true)(g11:s11=.un\/∃ v,s11=.sh v)
  (rg:SR [s0,s1,.ow d,s3,s4,s5,s6,s7,s8,s9,s10,s11,s12]=.ok rl [s0,s1,.ow d1,s3,s4,s5,s6,s7,s8,s9,s10,s11,s12])
  (lc:lcL (Aq 11) (M.ret true) Lw [11] rl [s0,s1,.ow d1,s3,s4,s5,s6,s7,s8,s9,s10,.un,s12]=.ok qs [s0,s1,.ow d2,s3,s4,s5,s6,s7,s8,s9,s10,.un,s12])(sz:decide (qs.length<=sizeLine)=true) :
  Rr [s0,s1,.ow d,s3,s4,s5,s6,s7,s8,s9,s10,s11,s12]=.ok .nx [s0,s1,.ow d2,s3,.sh (.lst qs),s5,s6,s7,s8,s9,s10,s11,s12]:=by
 unfold Rr
 rw [hS]
 clear hS
 generalize Lw=EX at *
 rcases g11 with rfl | ⟨v,rfl⟩ <;> simp_arith! [rg,lc,sz,g4]
theorem val45(n t:List Nat)(ad:Bb (.str n) (.str [32,97])=some (.val (.str t)))(s0 s1 s2 s3 s4 s6 s7 s8 s9 s10 s11 s12:Sl) :
  Ad (fOp Bb (Ab 5) (fC (.str [32,97]))) [s0,s1,s2,s3,s4,.sh (.str n),s6,s7,s8,s9,s10,s11,s12]=.ok (.val (.str t)) [s0,s1,s2,s3,s4,.sh (.str n),s6,s7,s8,s9,s10,s11,s12]:=by
 simp_arith! [ad]
theorem c3_45(FN FO:List Sl->Res Rv)(hN:F7=FN)(hO:Eo=FO)(d d1 d2:D)(n c:List Nat)(s0 s1 s3 s4 s5 s6 s7 s8 s9 s10 s11 s12:Sl)(g6:Br s6=true)(g7:Br s7=true)(e1:FN [.bo d]=.ok (.val (.str n)) [.bo d1])(e2:FO [.bo d1,.sh (.str [65,48,32,45,95,39,46,90,57,126])]=.ok (.val (.str c)) [.bo d2,.sh (.str [65,48,32,45,95,39,46,90,57,126])]) :
  Ru [s0,s1,.ow d,s3,s4,s5,s6,s7,s8,s9,s10,s11,s12]=.ok .nx [s0,s1,.ow d2,s3,s4,s5,.sh (.str n),.sh (.str c),s8,s9,s10,s11,s12]:=by
 unfold Ru
 rw [hN,hO]
 clear hN hO
 simp_arith! [e1,e2,g6,g7]
theorem c4_45(FP:List Sl->Res Rv)(hP:Ei=FP)(d d1:D)(n:List Nat)(ln i:Int)(s0 s1 s3 s4 s5 s7 s8 s9 s10 s11 s12:Sl)(g8:Br s8=true)(l1:B2 [.str n]=some (.val (.int ln)))(hb:decide (-4611686018427387904<=ln+1/\ln+1<4611686018427387904)=true)(e:FP [.bo d,.sh (.int (ln+1))]=.ok (.val (.int i)) [.bo d1,.sh (.int (ln+1))]) :
  Rw [s0,s1,.ow d,s3,s4,s5,.sh (.str n),s7,s8,s9,s10,s11,s12]=.ok .nx [s0,s1,.ow d1,s3,s4,s5,.sh (.str n),s7,.sh (.int i),s9,s10,s11,s12]:=by
 unfold Rw
 rw [hP]
 clear hP
 simp_arith! [l1,hb,e,g8]
theorem c5_45(MU:D->D->Option Rv)(hM:Eu=MU)(n c t0 t1 m w p:List Nat)(i:Int)(s0 s1 s2 s3 s4 s5 s9 s10 s11 s12:Sl)(g9:Br s9=true)(ib:decide (-4611686018427387904<=i/\i<4611686018427387904)=true)(nz:n.length<=sizeLine)(a1:Bb (.str (A7 n none (some i))) (.str c)=some (.val (.str t0)))(a2:Bb (.str t0) (.str (A7 n (some i) none))=some (.val (.str t1)))
  (mu:MU (.str n) (.int 12)=some (.val (.str m)))(a3:Bb (.str n) (.str m)=some (.val (.str w)))(up:upR (.val (.str n))=fun e=>.ok (.val (.str p)) e) :
  Rx [s0,s1,s2,s3,s4,s5,.sh (.str n),.sh (.str c),.sh (.int i),s9,s10,s11,s12]=.ok .nx [s0,s1,s2,s3,s4,s5,.sh (.str n),.sh (.str c),.sh (.int i),.sh (.lst [.str t1,.str [],.str [97,98,99,100,101,102,103,104,105,106,107,108,109],.str w,.str p,.non,.int 0,.int 1,.bl true]),s10,s11,s12]:=by
 have z9:∀ a b c d e f g h i:D,decide ([a,b,c,d,e,f,g,h,i].length<=sizeLine)=true:=fun a b c d e f g h i=>by rw [sizeLine_eq]; rfl
 unfold Rx
 rw [hM]
 clear hM
 simp_arith! [ib,nz,a1,a2,mu,a3,Apv,up,z9,g9]
theorem As9(s:List Nat)(q:List (List Nat)):A0 inA true (.str s) (.lst (q.map D.str))=some (.val (.bl (!decide (s∈q)))):=by
 have fl:(q.map D.str).all De=true:=by
  rw [List.all_map]
  exact List.all_eq_true.mpr fun x _=>rfl
 have an:((q.map D.str).any fun y=>Vs.eqD y (.str s))=decide (s∈q):=by
  rw [List.any_map]
  by_cases h:s∈q
  ·rw [decide_eq_true h]
   exact List.any_eq_true.mpr ⟨s,h,by simp [Vs.eqD]⟩
  ·rw [decide_eq_false h]
   rw [List.any_eq_false]
   intro x hx z
   have:x=s:=by simpa [Vs.eqD] using z
   exact h (this ▸ hx)
 have e1:inA (.str s) (.lst (q.map D.str))=some (decide (s∈q)):=by
  rw [← an]
  match s with
  | []=>simp [inA,inT,inQ,De,fl]
  | [c]=>simp [inA,inT,inQ,De,fl]
  | c::d::r=>simp [inA,inT,inQ,De,fl]
 unfold A0
 rw [e1]
 rfl
theorem stq45(FS:List Sl->Res Rv)(hS:Fd=FS)(S d':D)(s0 s1 s2 s4 s5 s6 s7 s8 s9 s10 s11 s12:Sl)(e:FS [.sh S]=.ok (.fresh d') [.sh S]) :
  Az Fd (Aa (Ab 3) Af) [s0,s1,s2,.sh S,s4,s5,s6,s7,s8,s9,s10,s11,s12]=.ok (.fresh d') [s0,s1,s2,.sh S,s4,s5,s6,s7,s8,s9,s10,s11,s12]:=by
 rw [hS]
 clear hS
 simp_arith! [e]
theorem q1_45(FS FI:List Sl->Res Rv)(hS:Fd=FS)(hI:Ga=FI)(sf:List (Str×D))(L:List D)(h:D)(s0 s1 s2 s4 s6 s7 s8 s9 s11 s12:Sl)(e:FS [.sh (.ins "Store" sf)]=.ok (.fresh (.lst L)) [.sh (.ins "Store" sf)])(ne:neG (.lst L) (.lst L)=some (.val (.bl false)))(ei:FI [.sh (.ins "Store" sf),.sh h]=.ok (.val (.bl false)) [.sh (.ins "Store" sf),.sh h]) :
  R1 [s0,s1,s2,.sh (.ins "Store" sf),s4,.sh h,s6,s7,s8,s9,.sh (.lst L),s11,s12]=.ok false [s0,s1,s2,.sh (.ins "Store" sf),s4,.sh h,s6,s7,s8,s9,.sh (.lst L),s11,s12]:=by
 have hT:Lv "Store" = some FI:=by rw [← hI]; rfl
 unfold R1
 rw [hS]
 clear hS hI
 simp_arith! [e,ne,Aap,Aao,hT,ei,Aaq]
theorem q2_45(FG:List Sl->Res Rv)(hG:Iz=FG)(sf:List (Str×D))(n:List Nat)(s0 s1 s2 s4 s6 s7 s8 s9 s10 s11 s12:Sl)(e:FG [.sh (.ins "Store" sf),.sh (.str n)]=.ok (.val (.str [98])) [.sh (.ins "Store" sf),.sh (.str n)]) :
  R4 [s0,s1,s2,.sh (.ins "Store" sf),s4,.sh (.str n),s6,s7,s8,s9,s10,s11,s12]=.ok false [s0,s1,s2,.sh (.ins "Store" sf),s4,.sh (.str n),s6,s7,s8,s9,s10,s11,s12]:=by
 have hT:Kd "Store" = some FG:=by rw [← hG]; rfl
 have ne:neG (.str [98]) (.str [98])=some (.val (.bl false)):=rfl
 unfold R4
 clear hG
 simp_arith! [Aa0,Aaz,hT,e,Aa1,ne]
theorem q3_45(FI:List Sl->Res Rv)(hI:Ga=FI)(sf:List (Str×D))(h:D)(s0 s1 s2 s4 s6 s7 s8 s9 s10 s11 s12:Sl)(ei:FI [.sh (.ins "Store" sf),.sh h]=.ok (.val (.bl false)) [.sh (.ins "Store" sf),.sh h]) :
  R6 [s0,s1,s2,.sh (.ins "Store" sf),s4,.sh h,s6,s7,s8,s9,s10,s11,s12]=.ok false [s0,s1,s2,.sh (.ins "Store" sf),s4,.sh h,s6,s7,s8,s9,s10,s11,s12]:=by
 have hT:Lv "Store" = some FI:=by rw [← hI]; rfl
 unfold R6
 clear hI
 simp_arith! [Aap,Aao,hT,ei,Aaq]
theorem Ata(n:List Nat)(L:List D)(v:Bool)(i:A0 inA true (.str n) (.lst L)=some (.val (.bl v)))(s0 s1 s2 s3 s6 s7 s8 s9 s10 s11 s12:Sl)(g12:Br s12=true) :
  R3 [s0,s1,s2,s3,.sh (.lst L),.sh (.str n),s6,s7,s8,s9,s10,s11,s12]=.ok .nx [s0,s1,s2,s3,.sh (.lst L),.sh (.str n),s6,s7,s8,s9,s10,s11,.sh (.bl v)]:=by
 unfold R3
 simp_arith! [i,g12]
theorem tru12(v:Bool)(s0 s1 s2 s3 s4 s5 s6 s7 s8 s9 s10 s11:Sl) :
  Cr (Ab 12) [s0,s1,s2,s3,s4,s5,s6,s7,s8,s9,s10,s11,.sh (.bl v)]=.ok v [s0,s1,s2,s3,s4,s5,s6,s7,s8,s9,s10,s11,.sh (.bl v)]:=by
 cases v <;> rfl
theorem Atb(g:List Nat)(bs bb all:List D)(hbb:bb=L1 g)(ad:Bb (.lst bs) (.lst bb)=some (.fresh (.lst all)))(s0 s1 s2 s3 s4 s5 s7 s8 s10 s11 s12:Sl) :
  Dd (fOp Bb (Ab 9) (A3 (Aa (fC (.bl false)) (Aa (Ad (A3 (Aa (Ad (Ab 6)) Af))) (Aa (Ad (Hm (Aa (Ad (Ab 6)) Af))) (Aa (Ad (Jq (Lh (Ab 6) (fC (.int 1)) Lg))) (Aa (Ad (A3 Af)) (Aa (fC (.str [97,98,32,99])) Af)))))))) [s0,s1,s2,s3,s4,s5,.sh (.str g),s7,s8,.sh (.lst bs),s10,s11,s12]=.ok all [s0,s1,s2,s3,s4,s5,.sh (.str g),s7,s8,.sh (.lst bs),s10,s11,s12]:=by
 have z0:decide (([]:List D).length<=sizeLine)=true:=by rw [sizeLine_eq]; rfl
 have z1:∀ a:D,decide ([a].length<=sizeLine)=true:=fun a=>by rw [sizeLine_eq]; rfl
 have z6:∀ a b c d e f:D,decide ([a,b,c,d,e,f].length<=sizeLine)=true:=fun a b c d e f=>by rw [sizeLine_eq]; rfl
 have dp:∀ s0 s1 s2 s3 s4 s5 s7 s8 s9 s10 s11 s12:Sl,Ad (Jq (Lh (Ab 6) (fC (.int 1)) Lg)) [s0,s1,s2,s3,s4,s5,.sh (.str g),s7,s8,s9,s10,s11,s12]=.ok (.val (.dct [(g,.int 1)])) [s0,s1,s2,s3,s4,s5,.sh (.str g),s7,s8,s9,s10,s11,s12]:=fun _ _ _ _ _ _ _ _ _ _ _ _=>rfl
 unfold L1 at hbb
 rw [hbb] at ad
 clear hbb
 have it:Hq (.lst all)=some all:=rfl
 generalize Ad (Jq (Lh (Ab 6) (fC (.int 1)) Lg))=FD at *
 simp_arith! [z0,z1,z6,dp,ad,it]
theorem Atc(g:List Nat)(s0 s1 s2 s3 s4 s5 s7 s8 s9 s10 s11 s12:Sl) :
  Dd (A3 (Aa (Ad (Ab 6)) (Aa (fC (.str [97,98,99,100,101,102,103,104,105,106,107,108])) (Aa (fC (.str [122])) Af)))) [s0,s1,s2,s3,s4,s5,.sh (.str g),s7,s8,s9,s10,s11,s12]=.ok [.str g,.str [97,98,99,100,101,102,103,104,105,106,107,108],.str [122]] [s0,s1,s2,s3,s4,s5,.sh (.str g),s7,s8,s9,s10,s11,s12]:=by
 have z3:∀ a b c:D,decide ([a,b,c].length<=sizeLine)=true:=fun a b c=>by rw [sizeLine_eq]; rfl
 have it:∀ L,Hq (.lst L)=some L:=fun _=>rfl
 simp_arith! [z3,it]
abbrev Be(b c2:Addr)(E:List (List Nat×List Nat))(γ:Gh):Gh:=stG Bk b c2 (Av D.str E) (Aw (E.map (·.1))) γ
def K45(L:List (List Nat))(E:List (List Nat×List Nat)):Prop:=∀ q∈E,E5 q.1/\q.1∈L
theorem absent{h:D}{L:List (List Nat)}{E:List (List Nat×List Nat)}(hk:K45 L E)(hb:BadN h):Abs h (Av D.str E):=by
 rcases hb.st with ⟨l,rfl,hn⟩ | z
 ·refine .inl ⟨l,rfl,?_⟩
  rw [Pg]
  cases q:C4 E l with
  | none=>rfl
  | some a =>
   have an:E.any (fun q=>decide (q.1=l))=true:=by rw [Ph,q]; rfl
   obtain ⟨q,hq,e⟩:=List.any_eq_true.mp an
   have e:=of_decide_eq_true e
   exact absurd (e ▸ (hk q hq).1) hn
 ·exact .inr z
theorem Aea{n:List Nat}{E:List (List Nat×List Nat)}(h:n ∉ E.map (·.1)):Abs (.str n) (Av D.str E):=by
 refine .inl ⟨n,rfl,?_⟩
 rw [Pg]
 cases q:C4 E n with
 | none=>rfl
 | some a =>
  have an:E.any (fun q=>decide (q.1=n))=true:=by rw [Ph,q]; rfl
  obtain ⟨q,hq,e⟩:=List.any_eq_true.mp an
  exact absurd (List.mem_map.mpr ⟨q,hq,of_decide_eq_true e⟩) h
theorem Atd{E:List (List Nat×List Nat)}{n:List Nat}:n ∉ (D3 E n).map (·.1):=fun h=>by
 obtain ⟨q,hq,e⟩:=List.mem_map.mp h
 exact absurd e (of_decide_eq_true (List.mem_filter.mp hq).2)
theorem K45.put{L:List (List Nat)}{E:List (List Nat×List Nat)}(h:K45 L E){n:List Nat}(hn:E5 n)(hl:n∈L)(t:List Nat):K45 L (A4 E n t):=Ar2 (R:=fun n _=>E5 n/\n∈L) h ⟨hn,hl⟩
theorem K45.again{L:List (List Nat)}{E:List (List Nat×List Nat)}(h:K45 L E){n:List Nat}(t:List Nat):K45 L (D3 (A4 E n t) n):=fun q hq=>by
 obtain ⟨h1,h2⟩:=List.mem_filter.mp hq
 have ne:q.1≠n:=of_decide_eq_true h2
 unfold A4 at h1
 split at h1
 ·obtain ⟨p,hp,rfl⟩:=List.mem_map.mp h1
  by_cases e:p.1=n
  ·rw [if_pos e] at ne ⊢
   exact absurd e ne
  ·rw [if_neg e]
   exact h p hp
 ·rcases List.mem_append.mp h1 with z | z
  ·exact h q z
  ·rw [List.mem_singleton.mp z] at ne
   exact absurd rfl ne
section
variable(b c2:Addr)(hb:b≠c2)(γ:Gh)(n1:¬ InG γ b)(n2:¬ InG γ c2)
include hb n1 n2
theorem Aeb(L:List (List Nat))(d:D)(s0 s1 s4 s6 s7 s8 s9 s10 s11 s12:Sl):∀ (ns:List (List Nat)) (E:List (List Nat×List Nat)) (s5:Sl),(∀ n∈ns,E5 n/\n∈L)->K45 L E->E.length+ns.length<=20->okX s5=true ->
  ∃ (E':List (List Nat×List Nat)) (y5:Sl),K45 L E'/\E'.length<=E.length+ns.length/\okX y5=true/\∀ P:P2,P (.c .nx) [s0,s1,.ow d,.sh (.con (.ref b)),s4,y5,s6,s7,s8,s9,s10,s11,s12] (Be b c2 E' γ)->Cs (Aq 5) Na (ns.map D.str) [s0,s1,.ow d,.sh (.con (.ref b)),s4,s5,s6,s7,s8,s9,s10,s11,s12] (Be b c2 E γ) P
 | [],E,s5,hn,hk,hE,g5=>⟨E,s5,hk,by simp,g5,fun P k=>O9 k⟩
 | n::ns,E,s5,hn,hk,hE,g5=>by
  rw [List.length_cons] at hE
  obtain ⟨hn1,hl1⟩:=hn n List.mem_cons_self
  have pl:=Adi E n (n++[32,97])
  obtain ⟨E',y5,hk',lE,gy,ih⟩:=Aeb L d s0 s1 s4 s6 s7 s8 s9 s10 s11 s12 ns (A4 E n (n++[32,97])) (.sh (.str n)) (fun x hx=>hn x (List.mem_cons_of_mem _ hx)) (hk.put hn1 hl1 _) (by omega) rfl
  refine ⟨E',y5,hk',by rw [List.length_cons]; omega,gy,fun P k=>?_⟩
  rw [List.map_cons]
  refine M4 (V9 (.str n) _ _ _ _ _ _ _ _ _ _ _ _ _ (Hi g5)) ?_
  rw [Arc]
  have hT:Gq "Store" = some H7:=rfl
  have pr:=Adm (hf:=Bk) hb n1 n2 (Av D.str E) (Aw (E.map (·.1))) n (n++[32,97]) hn1 (by rw [mapV_len]; omega) (by rw [Se,mapV_len]; omega)
  rw [Se,V3] at pr
  have ad:Bb (.str n) (.str [32,97])=some (.val (.str (n++[32,97]))):=Sa (by have:=hn1.2.1; simp; omega)
  exact Abv (v:=.str (n++[32,97])) (ix:=.str n) (val45 n _ ad _ _ _ _ _ _ _ _ _ _ _ _) rfl rfl Gb hT pr (ih P k)
theorem Aec(E:List (List Nat×List Nat))(L:List (List Nat))(hk:K45 L E)(h:D)(bh:BadN h)(d:D)(s0 s1 s4 s6 s7 s8 s9 s10 s11 s12:Sl):∀ P:P2,P (.c .nx) [s0,s1,.ow d,.sh (.con (.ref b)),s4,.sh h,s6,s7,s8,s9,s10,s11,s12] (Be b c2 E γ)->Kg [s0,s1,.ow d,.sh (.con (.ref b)),s4,.sh h,s6,s7,s8,s9,s10,s11,s12] (Be b c2 E γ) P:=fun P k=>by
 have ab:=absent hk bh
 have sr:=fun s p q=>Asl Fe rfl s h p q (Asj s h p q (bh.ne s p q) bh.ib bh.il) s0 s1 (.ow d) (.sh (.con (.ref b))) s4 s6 s7 s8 s9 s10 s11 s12
 have pr1:=Asy (hf:=Bk) hb (γ:=γ) (Av D.str E) (Aw (E.map (·.1))) h [97] _ bh.okx bh.chk
 have pr2:=Ad6 (hf:=Bk) hb (γ:=γ) (Av D.str E) (Aw (E.map (·.1))) h bh.okx ab
 have pr3:=Ad5 (hf:=Bk) hb (γ:=γ) (Av D.str E) (Aw (E.map (·.1))) h bh.okx ab
 have hT2:Hh "Store" = some Lu:=rfl
 have hT3:E4 "Store" = some Gu:=rfl
 rw [Ard]
 refine B4 (if_not (e1:=[s0,s1,.ow d,.sh (.con (.ref b)),s4,.sh h,s6,s7,s8,s9,s10,s11,s12]) (γ1:=Be b c2 E γ) (fun K kk=>U6 (d:=.lst [.str [110,97,109,101],h,.bl true,.bl false]) (e1:=[s0,s1,.ow d,.sh (.con (.ref b)),s4,.sh h,s6,s7,s8,s9,s10,s11,s12]) (γ1:=Be b c2 E γ) (fun K kk=>U7 (fun K kk=>Pa (x:=("BadName",[("name",h)])) (e1:=[s0,s1,.ow d,.sh (.con (.ref b)),s4,.sh h,s6,s7,s8,s9,s10,s11,s12]) (γ1:=Be b c2 E γ) (fun K kk=>?_) (Ash h) kk) kk) (sr _ _ _) kk) ?_)
 ·show call2 Gr _ _ _ _
  exact Ab0 (rs:=[.val (.con (.ref b)),.val h,.val (.str [97])]) rfl rfl rfl pr1 U5 kk
 refine Ez (c:=.nx) rfl ?_
 show An _ _ [s0,s1,.ow d,.sh (.con (.ref b)),s4,.sh h,s6,s7,s8,s9,s10,s11,s12] (Be b c2 E γ) P
 refine B4 (if_not (e1:=[s0,s1,.ow d,.sh (.con (.ref b)),s4,.sh h,s6,s7,s8,s9,s10,s11,s12]) (γ1:=Be b c2 E γ) (fun K kk=>U6 (d:=.lst [.str [116,101,120,116],h,.bl false,.bl true]) (e1:=[s0,s1,.ow d,.sh (.con (.ref b)),s4,.sh h,s6,s7,s8,s9,s10,s11,s12]) (γ1:=Be b c2 E γ) (fun K kk=>U7 (fun K kk=>Pa (x:=("NoText",[("name",h)])) (e1:=[s0,s1,.ow d,.sh (.con (.ref b)),s4,.sh h,s6,s7,s8,s9,s10,s11,s12]) (γ1:=Be b c2 E γ) (fun K kk=>?_) (Si h) kk) kk) (sr _ _ _) kk) ?_)
 ·show Ir Hh _ _ _ _ _
  exact Ab4 (ix:=h) rfl rfl Gb hT2 pr2 kk
 refine Ez (c:=.nx) rfl ?_
 show if2 _ _ _ [s0,s1,.ow d,.sh (.con (.ref b)),s4,.sh h,s6,s7,s8,s9,s10,s11,s12] (Be b c2 E γ) P
 refine if_not (e1:=[s0,s1,.ow d,.sh (.con (.ref b)),s4,.sh h,s6,s7,s8,s9,s10,s11,s12]) (γ1:=Be b c2 E γ) (fun K kk=>U6 (d:=.lst [.str [116,101,120,116],h,.bl false,.bl true]) (e1:=[s0,s1,.ow d,.sh (.con (.ref b)),s4,.sh h,s6,s7,s8,s9,s10,s11,s12]) (γ1:=Be b c2 E γ) (fun K kk=>U7 (fun K kk=>Pa (x:=("NoText",[("name",h)])) (e1:=[s0,s1,.ow d,.sh (.con (.ref b)),s4,.sh h,s6,s7,s8,s9,s10,s11,s12]) (γ1:=Be b c2 E γ) (fun K kk=>?_) (Si h) kk) kk) (sr _ _ _) kk) ?_
 ·show Gj E4 "remove" _ _ _ _ _
  exact U1 (T:=E4) (F:=Gu) (c:="Store") (as:=[.sh h]) (rs:=[.val h]) rfl Gb rfl hT3 rfl rfl rfl pr3 Rf kk
 exact Ez (c:=.nx) rfl k
theorem Ate(E:List (List Nat×List Nat))(L:List (List Nat))(hk:K45 L E)(hE:E.length<=40)(h:D)(bh:BadN h)(d:D)(nd:Cb d=true)(s0 s1 s4 s6 s7 s8 s9 s10 s11 s12:Sl)(g0:okX s0=true)(g1:okX s1=true)(g4:okX s4=true)(g6:okX s6=true)(g7:okX s7=true)(g8:okX s8=true)(g9:okX s9=true)(g10:okX s10=true)(g11:okX s11=true)(g12:okX s12=true):∃ y10 y11,okX y10=true/\okX y11=true/\∀ P:P2,P (.c .nx) [s0,s1,.ow d,.sh (.con (.ref b)),s4,.sh h,s6,s7,s8,s9,y10,y11,s12] (Be b c2 E γ)->Lx [s0,s1,.ow d,.sh (.con (.ref b)),s4,.sh h,s6,s7,s8,s9,s10,s11,s12] (Be b c2 E γ) P:=by
 have so:=Asr Bk E (by omega)
 have go:=bh.okx
 refine ⟨.sh (.lst (Gw E)),.sh (.int 1),rfl,rfl,fun P k=>?_⟩
 obtain ⟨p1,p2,p3⟩:=Sk (hf:=Bk) (kvs:=Av D.str E) (nm:=Aw (E.map (·.1))) (γ:=γ) hb g0 g1 g4 go g6 g7 g8 g9 g10 g11 g12 d nd
 obtain ⟨q1,q2,q3⟩:=Sk (hf:=Bk) (kvs:=Av D.str E) (nm:=Aw (E.map (·.1))) (γ:=γ) hb (s10:=.sh (.lst (Gw E))) (s11:=.sh (.int 1)) g0 g1 g4 go g6 g7 g8 g9 rfl rfl g12 d nd
 rw [Are]
 refine B4 (Aox (d:=.lst (Gw E)) (by rw [p1]; exact stq45 Fd rfl _ _ _ _ _ _ _ _ _ _ _ _ _ _ so) (Aso E) p2 ?_)
 rw [p3]
 refine Ez (As7 _ _ _ _ _ _ _ _ _ _ _ _ _ _ (Hi g10)) ?_
 refine B4 (O8 (Sd (n:=2) (by omega) rfl) ?_)
 show Cs (Aq 11) Kg [.int 0,.int 1] _ _ _
 refine M4 (Ad8 _ _ _ _ _ _ _ _ _ _ _ _ _ _ (Hi g11)) ?_
 refine Aec b c2 hb γ n1 n2 E L hk h bh d _ _ _ _ _ _ _ _ _ _ _ ?_
 show Cs (Aq 11) Kg [.int 1] _ _ _
 refine M4 (Ad8 _ _ _ _ _ _ _ _ _ _ _ _ _ _ rfl) ?_
 refine Aec b c2 hb γ n1 n2 E L hk h bh d _ _ _ _ _ _ _ _ _ _ _ ?_
 refine O9 ?_
 show if2 _ _ _ [s0,s1,.ow d,.sh (.con (.ref b)),s4,.sh h,s6,s7,s8,s9,.sh (.lst (Gw E)),.sh (.int 1),s12] _ _
 have ei:Ga [.sh (Ao (.ins "House" Bk) (.dct (Av D.str E)) (Aw (E.map (·.1)))),.sh h]=.ok (.val (.bl false)) [.sh (Ao (.ins "House" Bk) (.dct (Av D.str E)) (Aw (E.map (·.1)))),.sh h]:=by
  rcases absent hk bh with ⟨l,rfl,hn⟩ | is
  ·have:=Ad1 Bk (Av D.str E) (Aw (E.map (·.1))) l
   rw [hn] at this
   exact this
  ·exact Asd _ _ _ _ is
 refine Lm (b:=false) (by
  rw [q1]
  exact q1_45 Fd Ga rfl rfl _ (Gw E) h _ _ _ _ _ _ _ _ _ _ so (V7 (Asn E)) ei) q2 ?_
 rw [if_neg Bool.false_ne_true,q3]
 exact Ez (c:=.nx) rfl k
theorem Aed(E:List (List Nat×List Nat))(L:List (List Nat))(hk:K45 L E)(hE:E.length<=40)(d:D)(nd:Cb d=true)(s0 s1 s4 s6 s7 s8 s9 s12:Sl)(g0:okX s0=true)(g1:okX s1=true)(g4:okX s4=true)(g6:okX s6=true)(g7:okX s7=true)(g8:okX s8=true)(g9:okX s9=true)(g12:okX s12=true):∀ (hs:List D) (s5 s10 s11:Sl),(∀ h∈hs,BadN h)->okX s5=true->okX s10=true->okX s11=true->∃ y5 y10 y11,okX y5=true/\okX y10=true/\okX y11=true/\∀ P:P2,P (.c .nx) [s0,s1,.ow d,.sh (.con (.ref b)),s4,y5,s6,s7,s8,s9,y10,y11,s12] (Be b c2 E γ)->Cs (Aq 5) Lx hs [s0,s1,.ow d,.sh (.con (.ref b)),s4,s5,s6,s7,s8,s9,s10,s11,s12] (Be b c2 E γ) P
 | [],s5,s10,s11,_,g5,g10,g11=>⟨s5,s10,s11,g5,g10,g11,fun P k=>O9 k⟩
 | h::hs,s5,s10,s11,hh,g5,g10,g11=>by
  obtain ⟨y10,y11,k10,k11,tu⟩:=Ate b c2 hb γ n1 n2 E L hk hE h (hh h List.mem_cons_self) d nd s0 s1 s4 s6 s7 s8 s9 s10 s11 s12 g0 g1 g4 g6 g7 g8 g9 g10 g11 g12
  obtain ⟨z5,z10,z11,j5,j10,j11,ih⟩:=Aed E L hk hE d nd s0 s1 s4 s6 s7 s8 s9 s12 g0 g1 g4 g6 g7 g8 g9 g12 hs (.sh h) y10 y11 (fun x hx=>hh x (List.mem_cons_of_mem _ hx)) (hh h List.mem_cons_self).okx k10 k11
  exact ⟨z5,z10,z11,j5,j10,j11,fun P k=>M4 (V9 h _ _ _ _ _ _ _ _ _ _ _ _ _ (Hi g5)) (tu _ (ih P k))⟩
theorem fin1(E:List (List Nat×List Nat))(L:List (List Nat))(hk:K45 L E)(hE:E.length<=40)(n:List Nat)(hn:E5 n)(d:D)(nd:Cb d=true)(s0 s1 s6 s7 s8 s9 s10 s11 s12:Sl)(g0:okX s0=true)(g1:okX s1=true)(g6:okX s6=true)(g7:okX s7=true)(g8:okX s8=true)(g9:okX s9=true)(g10:okX s10=true)(g11:okX s11=true)(g12:okX s12=true):∃ (E':List (List Nat×List Nat)) (y12:Sl),K45 L E'/\E'.length<=E.length+1/\okX y12=true/\∀ P:P2,P (.c .nx) [s0,s1,.ow d,.sh (.con (.ref b)),.sh (.lst (L.map D.str)),.sh (.str n),s6,s7,s8,s9,s10,s11,y12] (Be b c2 E' γ)->Ly [s0,s1,.ow d,.sh (.con (.ref b)),.sh (.lst (L.map D.str)),.sh (.str n),s6,s7,s8,s9,s10,s11,s12] (Be b c2 E γ) P:=by
 have pl:=Adi E n [98]
 have dl:=Ar3 (A4 E n [98]) n
 refine ⟨D3 (A4 E n [98]) n,.sh (.bl (!decide (n∈L))),hk.again [98],by omega,rfl,fun P k=>?_⟩
 have hT2:Hh "Store" = some Lu:=rfl
 have hT3:E4 "Store" = some Gu:=rfl
 have tl:=fun s p q=>Asm s (.str n) p q s0 s1 (.ow d) (.sh (.con (.ref b))) (.sh (.lst (L.map D.str))) s6 s7 s8 s9 s10 s11 (.sh (.bl (!decide (n∈L))))
 have nl:∀ s p q,neG (.lst [.str s,.str n,.bl p,.bl q]) (.lst [.str s,.str n,.bl p,.bl q])=some (.val (.bl false)):=fun s p q=>V7 rfl
 have e0:∀ e:Ve,(A3 Af) e=.ok (.fresh (.lst [])) e:=fun e=>by
  have z0:decide (([]:List D).length<=sizeLine)=true:=by rw [sizeLine_eq]; rfl
  simp_arith! [z0]
 have ne0:neG (.lst []) (.lst [])=some (.val (.bl false)):=rfl
 rw [Arf]
 refine J6 (Ata n _ _ (As9 n L) _ _ _ _ _ _ _ _ _ _ _ (Hi g12)) ?_
 have first:∀ P:P2,P (.c .nx) [s0,s1,.ow d,.sh (.con (.ref b)),.sh (.lst (L.map D.str)),.sh (.str n),s6,s7,s8,s9,s10,s11,.sh (.bl (!decide (n∈L)))] (Be b c2 E γ)->if2 (Ip (Vs.liftM (Cr (Ab 12))) (Ca (Fo neG (Cm Ej Cn Pe) (Vs.liftM (A3 (Aa (fC (.str [116,101,120,116])) (Aa (Ad (Ab 5)) (Aa (fC (.bl false)) (Aa (fC (.bl true)) Af))))))))) (Ak Vz) (Ak fNx) [s0,s1,.ow d,.sh (.con (.ref b)),.sh (.lst (L.map D.str)),.sh (.str n),s6,s7,s8,s9,s10,s11,.sh (.bl (!decide (n∈L)))] (Be b c2 E γ) P:=fun P k=>by
  have tr:=tru12 (!decide (n∈L)) s0 s1 (.ow d) (.sh (.con (.ref b))) (.sh (.lst (L.map D.str))) (.sh (.str n)) s6 s7 s8 s9 s10 s11
  by_cases c:n∈L
  ·rw [decide_eq_true c] at tr k ⊢
   exact As1 tr (Ez (c:=.nx) rfl k)
  ·have pr:=Ad5 (hf:=Bk) hb (γ:=γ) (Av D.str E) (Aw (E.map (·.1))) (.str n) rfl (Aea fun h=>by
    obtain ⟨q,hq,e⟩:=List.mem_map.mp h
    exact c (e ▸ (hk q hq).2))
   have tl:=tl [116,101,120,116] false true
   rw [decide_eq_false c] at tr k tl ⊢
   refine As2 tr (Sj (fun K kk=>Pa (x:=("NoText",[("name",.str n)])) (fun K kk=>?_) (Si _) kk) tl (nl _ _ _)) (Ez (c:=.nx) rfl k)
   show Gj E4 "remove" _ _ _ _ _
   exact U1 (T:=E4) (F:=Gu) (c:="Store") (as:=[.sh (.str n)]) (rs:=[.val (.str n)]) rfl Gb rfl hT3 rfl rfl rfl pr Rf kk
 refine B4 (first _ ?_)
 show An _ _ [s0,s1,.ow d,.sh (.con (.ref b)),.sh (.lst (L.map D.str)),.sh (.str n),s6,s7,s8,s9,s10,s11,.sh (.bl (!decide (n∈L)))] (Be b c2 E γ) P
 have ps:=Asz (hf:=Bk) hb (γ:=γ) n1 n2 (Av D.str E) (Aw (E.map (·.1))) n [98] hn (by rw [mapV_len]; omega) (by rw [Se,mapV_len]; omega)
 rw [Se,V3] at ps
 have gp:C4 (A4 E n [98]) n=some [98]:=by rw [Ar8,if_pos rfl]
 have sg:=Ad0 Bk (Av D.str (A4 E n [98])) (Aw ((A4 E n [98]).map (·.1))) n [98] (by rw [Pg,gp]; rfl)
 have pm:=Ar6 (hf:=Bk) hb (γ:=γ) n1 n2 (Av D.str (A4 E n [98])) (Aw ((A4 E n [98]).map (·.1))) n (by rw [V2,Ph,gp]; rfl) (by rw [mapV_len]; omega)
 rw [Adh,V3] at pm
 have ab:=Aea (Atd (E:=A4 E n [98]) (n:=n))
 have pg:=Ad6 (hf:=Bk) hb (γ:=γ) (Av D.str (D3 (A4 E n [98]) n)) (Aw ((D3 (A4 E n [98]) n).map (·.1))) (.str n) rfl ab
 have ei:Ga [.sh (Ao (.ins "House" Bk) (.dct (Av D.str (D3 (A4 E n [98]) n))) (Aw ((D3 (A4 E n [98]) n).map (·.1)))),.sh (.str n)]=.ok (.val (.bl false)) [.sh (Ao (.ins "House" Bk) (.dct (Av D.str (D3 (A4 E n [98]) n))) (Aw ((D3 (A4 E n [98]) n).map (·.1)))),.sh (.str n)]:=by
  rcases ab with ⟨l,e,hn⟩ | is
  ·cases e
   have:=Ad1 Bk (Av D.str (D3 (A4 E n [98]) n)) (Aw ((D3 (A4 E n [98]) n).map (·.1))) n
   rw [hn] at this
   exact this
  ·cases is
 obtain ⟨p1,p2,p3⟩:=Sk (hf:=Bk) (kvs:=Av D.str (A4 E n [98])) (nm:=Aw ((A4 E n [98]).map (·.1))) (γ:=γ) hb (s4:=.sh (.lst (L.map D.str))) (s5:=.sh (.str n)) (s12:=.sh (.bl (!decide (n∈L)))) g0 g1 rfl rfl g6 g7 g8 g9 g10 g11 rfl d nd
 obtain ⟨q1,q2,q3⟩:=Sk (hf:=Bk) (kvs:=Av D.str (D3 (A4 E n [98]) n)) (nm:=Aw ((D3 (A4 E n [98]) n).map (·.1))) (γ:=γ) hb (s4:=.sh (.lst (L.map D.str))) (s5:=.sh (.str n)) (s12:=.sh (.bl (!decide (n∈L)))) g0 g1 rfl rfl g6 g7 g8 g9 g10 g11 rfl d nd
 refine B4 (Ad7 (e1:=[s0,s1,.ow d,.sh (.con (.ref b)),.sh (.lst (L.map D.str)),.sh (.str n),s6,s7,s8,s9,s10,s11,.sh (.bl (!decide (n∈L)))]) (γ1:=Be b c2 (A4 E n [98]) γ) (Sj (fun K kk=>Ab5 (d:=.str [115,101,116]) (e1:=[s0,s1,.ow d,.sh (.con (.ref b)),.sh (.lst (L.map D.str)),.sh (.str n),s6,s7,s8,s9,s10,s11,.sh (.bl (!decide (n∈L)))]) (γ1:=Be b c2 (A4 E n [98]) γ) (fun K kk=>?_) rfl kk) (e0 _) ne0) ?_)
 ·show call2 Gr _ _ _ _
  exact Ab0 (rs:=[.val (.con (.ref b)),.val (.str n),.val (.str [98])]) rfl rfl rfl ps U5 kk
 refine Lm (b:=false) (by
  rw [p1]
  exact q2_45 Iz rfl _ n _ _ _ _ _ _ _ _ _ _ _ sg) p2 ?_
 rw [if_neg Bool.false_ne_true,p3]
 refine Ez (c:=.nx) rfl ?_
 show An _ _ [s0,s1,.ow d,.sh (.con (.ref b)),.sh (.lst (L.map D.str)),.sh (.str n),s6,s7,s8,s9,s10,s11,.sh (.bl (!decide (n∈L)))] (Be b c2 (A4 E n [98]) γ) P
 refine B4 (Ad7 (e1:=[s0,s1,.ow d,.sh (.con (.ref b)),.sh (.lst (L.map D.str)),.sh (.str n),s6,s7,s8,s9,s10,s11,.sh (.bl (!decide (n∈L)))]) (γ1:=Be b c2 (D3 (A4 E n [98]) n) γ) (Sj (fun K kk=>Ab5 (d:=.non) (e1:=[s0,s1,.ow d,.sh (.con (.ref b)),.sh (.lst (L.map D.str)),.sh (.str n),s6,s7,s8,s9,s10,s11,.sh (.bl (!decide (n∈L)))]) (γ1:=Be b c2 (D3 (A4 E n [98]) n) γ) (fun K kk=>?_) rfl kk) (e0 _) ne0) ?_)
 ·show Gj E4 "remove" _ _ _ _ _
  exact U1 (T:=E4) (F:=Gu) (c:="Store") (as:=[.sh (.str n)]) (rs:=[.val (.str n)]) rfl Gb rfl hT3 rfl rfl rfl pm.o Rf kk
 refine Lm (b:=false) (by
  rw [q1]
  exact q3_45 Ga rfl _ (.str n) _ _ _ _ _ _ _ _ _ _ _ ei) q2 ?_
 rw [if_neg Bool.false_ne_true,q3]
 refine Ez (c:=.nx) rfl ?_
 show if2 _ _ _ [s0,s1,.ow d,.sh (.con (.ref b)),.sh (.lst (L.map D.str)),.sh (.str n),s6,s7,s8,s9,s10,s11,.sh (.bl (!decide (n∈L)))] (Be b c2 (D3 (A4 E n [98]) n) γ) P
 refine As0 (Sj (fun K kk=>Pa (x:=("NoText",[("name",.str n)])) (fun K kk=>?_) (Si _) kk) (tl _ _ _) (nl _ _ _)) (Ez (c:=.nx) rfl k)
 show Ir Hh _ _ _ _ _
 exact Ab4 (ix:=.str n) rfl rfl Gb hT2 pg kk
theorem fins(L:List (List Nat))(d:D)(nd:Cb d=true)(s0 s1 s6 s7 s8 s9 s10 s11:Sl)(g0:okX s0=true)(g1:okX s1=true)(g6:okX s6=true)(g7:okX s7=true)(g8:okX s8=true)(g9:okX s9=true)(g10:okX s10=true)(g11:okX s11=true):∀ (ns:List (List Nat)) (E:List (List Nat×List Nat)) (s5 s12:Sl),(∀ n∈ns,E5 n)->K45 L E->E.length+ns.length<=40->okX s5=true->okX s12=true ->
  ∃ (E':List (List Nat×List Nat)) (y5 y12:Sl),okX y5=true/\okX y12=true/\∀ P:P2,P (.c .nx) [s0,s1,.ow d,.sh (.con (.ref b)),.sh (.lst (L.map D.str)),y5,s6,s7,s8,s9,s10,s11,y12] (Be b c2 E' γ)->Cs (Aq 5) Ly (ns.map D.str) [s0,s1,.ow d,.sh (.con (.ref b)),.sh (.lst (L.map D.str)),s5,s6,s7,s8,s9,s10,s11,s12] (Be b c2 E γ) P
 | [],E,s5,s12,_,_,_,g5,g12=>⟨E,s5,s12,g5,g12,fun P k=>O9 k⟩
 | n::ns,E,s5,s12,hn,hk,hE,g5,g12=>by
  rw [List.length_cons] at hE
  obtain ⟨E1,y12,hk1,lE,k12,tu⟩:=fin1 b c2 hb γ n1 n2 E L hk (by omega) n (hn n List.mem_cons_self) d nd s0 s1 s6 s7 s8 s9 s10 s11 s12 g0 g1 g6 g7 g8 g9 g10 g11 g12
  obtain ⟨E',z5,z12,j5,j12,ih⟩:=fins L d nd s0 s1 s6 s7 s8 s9 s10 s11 g0 g1 g6 g7 g8 g9 g10 g11 ns E1 (.sh (.str n)) y12 (fun x hx=>hn x (List.mem_cons_of_mem _ hx)) hk1 (by omega) rfl k12
  exact ⟨E',z5,z12,j5,j12,fun P k=>by
   rw [List.map_cons]
   exact M4 (V9 (.str n) _ _ _ _ _ _ _ _ _ _ _ _ _ (Hi g5)) (tu _ (ih P k))⟩
end
theorem Aee{α:Type}(l:List α)(a b:Option Int):(A7 l a b).length<=l.length:=by
 unfold A7
 rw [List.length_take,List.length_drop]
 omega
theorem Atf(ns:List Int)(a:Int)(h0:0<=a)(h1:a<1000)(γ:Gh)(x2 x3 x4 x5 x6 x7 x8 x9 x10 x11 x12:Sl)(g2:Br x2=true)(g3:Br x3=true)(g4:okX x4=true)(g5:okX x5=true)(g6:okX x6=true)(g7:okX x7=true)(g8:okX x8=true)(g9:okX x9=true)(g10:okX x10=true)(g11:okX x11=true)(g12:okX x12=true)(h11:x11=.un\/∃ v,x11=.sh v) :
  ∀ P:P2,(∀ (γ':Gh) (y2 y3 y4 y5 y6 y7 y8 y9 y10 y11 y12:Sl),Br y2=true->Br y3=true->okX y4=true->okX y5=true->okX y6=true->okX y7=true->okX y8=true->okX y9=true->okX y10=true->okX y11=true->okX y12=true->(y11=.un\/∃ v,y11=.sh v)->P (.c .nx) [.sh (.scr ns),.sh (.int a),y2,y3,y4,y5,y6,y7,y8,y9,y10,y11,y12] γ') ->
   Nb [.sh (.scr ns),.sh (.int a),x2,x3,x4,x5,x6,x7,x8,x9,x10,x11,x12] γ P:=by
 intro P k
 obtain ⟨d0,s0,e0⟩:=Arp ns a h0 h1
 obtain ⟨i,d1,i0,i1,sd1,e1⟩:=Sb d0 0 4 s0 (by omega) (by omega) (by omega)
 have ln:(Cg 0 i.toNat).length=i.toNat:=by unfold Cg; rw [List.length_map,List.length_range]
 rw [Arh]
 refine J6 (c1_45 Iu rfl ns a d0 x2 x3 x4 x5 x6 x7 x8 x9 x10 x11 x12 g2 e0) ?_
 have mk:=As5 Iw H6 (Hg 1 2 Eh) rfl rfl rfl Ar1 As4 As3 (.sh (.scr ns)) (.sh (.int a)) (.ow d0) x3 x4 x5 x6 x7 x8 x9 x10 x11 x12
 refine B4 ?_
 show (J0 "Store" Iv _) _ _ _
 refine Ao1 (as:=[.bo (.ins "House" Bk)]) (as':=[.bf (.ins "House" Bk)]) (fs:=fun c2=>[("house",.ins "House" Bk),("texts",.con (.ref c2)),("names",.lst []),("is_shut",.bl false)]) (Γ:=fun c2=>(c2,.dct [])::γ) mk rfl rfl (fun Q kk=>Ar7 Q kk) (Ra fun i hi=>by
  rcases List.mem_cons.mp hi with y | y <;> cases y) fun c2 b n2 nb=>?_
 have hb:b≠c2:=fun z=>nb ⟨_,by rw [z]; exact List.mem_cons_self⟩
 have n1:¬ InG γ b:=fun ⟨u,m⟩=>nb ⟨u,List.mem_cons_of_mem _ m⟩
 have sr0:Aw []=[]:=List.eq_nil_of_length_eq_zero (Adz [])
 have cg0:(b,D.ins "Store" [("house",.ins "House" Bk),("texts",.con (.ref c2)),("names",.lst []),("is_shut",.bl false)])::(c2,D.dct [])::γ=Be b c2 [] γ:=by
  show _=stG Bk b c2 [] (Aw []) γ
  rw [sr0]; rfl
 show Ak _ _ ((b,D.ins "Store" [("house",.ins "House" Bk),("texts",.con (.ref c2)),("names",.lst []),("is_shut",.bl false)])::(c2,D.dct [])::γ) _
 rw [cg0]
 refine Ez (As6 b _ _ _ _ _ _ _ _ _ _ _ _ x3 g3) ?_
 obtain ⟨L,d2,hl,hL,sd2,lc⟩:=Ad9 (.sh (.scr ns)) (.sh (.int a)) (.sh (.con (.ref b))) x4 x5 x6 x7 x8 x9 x10 x12 (Cg 0 i.toNat) d1 (0+1) sd1 (by rw [ln]; omega)
 rw [ln] at hl sd2
 have rg:Fv (Az Ei (Aa (Ab 2) (Aa (fC (.int 4)) Af))) [.sh (.scr ns),.sh (.int a),.ow d0,.sh (.con (.ref b)),x4,x5,x6,x7,x8,x9,x10,x11,x12]=.ok (Cg 0 i.toNat) [.sh (.scr ns),.sh (.int a),.ow d1,.sh (.con (.ref b)),x4,x5,x6,x7,x8,x9,x10,x11,x12]:=by
  refine Sd (n:=i.toNat) (by omega) ?_
  rw [show ((i.toNat:Nat):Int)=i by omega]
  exact pk45 Ei rfl 4 i d0 d1 _ _ _ _ _ _ _ _ _ _ _ _ e1
 refine J6 (c2_45 _ rfl d0 d1 d2 _ _ (.sh (.scr ns)) (.sh (.int a)) _ x4 x5 x6 x7 x8 x9 x10 x11 x12 (Hi g4) h11 rg lc (decide_eq_true (by rw [sizeLine_eq,List.length_map]; omega))) ?_
 have it4:Dd (Ab 4) [.sh (.scr ns),.sh (.int a),.ow d2,.sh (.con (.ref b)),.sh (.lst (L.map D.str)),x5,x6,x7,x8,x9,x10,x11,x12]=.ok (L.map D.str) [.sh (.scr ns),.sh (.int a),.ow d2,.sh (.con (.ref b)),.sh (.lst (L.map D.str)),x5,x6,x7,x8,x9,x10,x11,x12]:=rfl
 obtain ⟨E,y5,hk,lE,k5,lp1⟩:=Aeb b c2 hb γ n1 n2 L d2 (.sh (.scr ns)) (.sh (.int a)) (.sh (.lst (L.map D.str))) x6 x7 x8 x9 x10 x11 x12 L [] x5 (fun n hn=>⟨hL n hn,hn⟩) (fun q hq=>nomatch hq) (by simp; omega) g5
 have lE:E.length<=3:=Nat.le_trans lE (by simp; omega)
 refine B4 (O8 it4 (lp1 _ ?_))
 obtain ⟨g,d3,hg,sd3,e3⟩:=Adr d2 _ sd2 (by omega)
 obtain ⟨c,hc,d4,sd4,e4⟩:=Ac9 d3 _ [65,48,32,45,95,39,46,90,57,126] sd3 (by omega) (by decide) (by decide)
 refine J6 (c3_45 F7 Eo rfl rfl d2 d3 d4 g [c] _ _ _ _ y5 x6 x7 x8 x9 x10 x11 x12 (Hi g6) (Hi g7) e3 e4) ?_
 have gu:=hg.2.1
 obtain ⟨j,d5,j0,j1,sd5,e5⟩:=Sb d4 _ ((g.length:Int)+1) sd4 (by omega) (by omega) (by omega)
 refine J6 (c4_45 Ei rfl d4 d5 g (g.length:Int) j _ _ _ _ y5 _ x8 x9 x10 x11 x12 (Hi g8) (if_pos (by rw [sizeLine_eq]; omega)) (decide_eq_true (by omega)) e5) ?_
 have c1:=Aee g none (some j)
 have c2':=Aee g (some j) none
 have t1z:(A7 g none (some j)++[c]++A7 g (some j) none).length<=1000:=by
  rw [List.length_append,List.length_append,List.length_singleton]; omega
 have t1n:¬ E5 (A7 g none (some j)++[c]++A7 g (some j) none):=fun z=>by
  have:=z.2.2 c (List.mem_append_left _ (List.mem_append_right _ (List.mem_singleton.mpr rfl)))
  have no:∀ c∈([65,48,32,45,95,39,46,90,57,126]:List Nat),c ∉ Ce:=by decide
  exact no c hc this
 have up:upR (.val (.str g))=fun e=>.ok (.val (.str (g.map PyProof.Rows.up1))) e:=by
  funext e
  rw [Apw,if_pos ⟨List.all_eq_true.mpr fun x hx=>decide_eq_true (by
   have lo:∀ x∈Ce,x<128:=by decide
   exact lo x (hg.2.2 x hx)),by omega⟩]
 have mu:Eu (.str g) (.int 12)=some (.val (.str (List.replicate 12 g).flatten)):=if_pos ⟨by omega,by omega,by omega⟩
 have c5:=c5_45 Eu rfl g [c] _ _ _ _ _ j (.sh (.scr ns)) (.sh (.int a)) (.ow d5) (.sh (.con (.ref b))) (.sh (.lst (L.map D.str))) y5 x9 x10 x11 x12 (Hi g9) (decide_eq_true (by omega)) (by rw [sizeLine_eq]; omega) (Sa (by simp; omega)) (Sa (by rw [List.length_append,List.length_singleton]; omega)) mu (Sa (by rw [V8]; omega)) up
 refine J6 c5 ?_
 have ad:Bb (.lst (L0 (A7 g none (some j)++[c]++A7 g (some j) none) g)) (.lst (L1 g))=some (.fresh (.lst (L0 (A7 g none (some j)++[c]++A7 g (some j) none) g++L1 g))):=Adp _ _ (by show 9+6<=100000; omega)
 obtain ⟨z5,z10,z11,j5,j10,j11,lp2⟩:=Aed b c2 hb γ n1 n2 E L hk (by omega) d5 sd5.nc (.sh (.scr ns)) (.sh (.int a)) (.sh (.lst (L.map D.str))) (.sh (.str g)) (.sh (.str [c])) (.sh (.int j)) (.sh (.lst (L0 (A7 g none (some j)++[c]++A7 g (some j) none) g))) x12 rfl rfl rfl rfl rfl rfl rfl g12 (L0 (A7 g none (some j)++[c]++A7 g (some j) none) g++L1 g) y5 x10 x11 (Asg _ g t1n t1z hg) k5 g10 g11
 refine B4 (O8 (Atb g _ _ _ rfl ad _ _ _ _ _ _ _ _ _ _ _) (lp2 _ ?_))
 obtain ⟨E',w5,w12,v5,v12,lp3⟩:=fins b c2 hb γ n1 n2 L d5 sd5.nc (.sh (.scr ns)) (.sh (.int a)) (.sh (.str g)) (.sh (.str [c])) (.sh (.int j)) (.sh (.lst (L0 (A7 g none (some j)++[c]++A7 g (some j) none) g))) z10 z11 rfl rfl rfl rfl rfl rfl j10 j11 [g,[97,98,99,100,101,102,103,104,105,106,107,108],[122]] E z5 x12 (fun n hn=>by
  simp only [List.mem_cons,List.not_mem_nil,or_false] at hn
  rcases hn with rfl | rfl | rfl
  ·exact hg
  ·exact ⟨by decide,by decide,by decide⟩
  ·exact ⟨by decide,by decide,by decide⟩) hk (by simp; omega) j5 g12
 show Ey _ _ _ _ _ _
 refine O8 (Atc g _ _ _ _ _ _ _ _ _ _ _ _) (lp3 _ ?_)
 exact k _ _ _ _ _ _ _ _ _ _ _ _ rfl rfl rfl v5 rfl rfl rfl rfl j10 j11 v12 (by
  cases z11 with
  | un=>exact .inl rfl
  | sh v=>exact .inr ⟨_,rfl⟩
  | _=>cases j11)
theorem Aef(ns:List Int):∀ (as:List Int) (γ:Gh) (x1 x2 x3 x4 x5 x6 x7 x8 x9 x10 x11 x12:Sl),(∀ a∈as,0<=a/\a<1000)->Br x1=true->Br x2=true->Br x3=true->okX x4=true->okX x5=true->okX x6=true->okX x7=true->okX x8=true->okX x9=true->okX x10=true->okX x11=true->okX x12=true->(x11=.un\/∃ v,x11=.sh v) ->
  ∀ P:P2,(∀ e γ',P (.c .nx) (.sh (.scr ns)::e) γ')->Cs (Aq 1) Nb (as.map .int) [.sh (.scr ns),x1,x2,x3,x4,x5,x6,x7,x8,x9,x10,x11,x12] γ P
 | [],γ,x1,x2,x3,x4,x5,x6,x7,x8,x9,x10,x11,x12,_,_,_,_,_,_,_,_,_,_,_,_,_,_=>fun P k=>O9 (k _ _)
 | a::as,γ,x1,x2,x3,x4,x5,x6,x7,x8,x9,x10,x11,x12,h,g1,g2,g3,g4,g5,g6,g7,g8,g9,g10,g11,g12,h11=>fun P k=>by
  obtain ⟨h0,h1⟩:=h a List.mem_cons_self
  rw [List.map_cons]
  refine M4 (e1:=[.sh (.scr ns),.sh (.int a),x2,x3,x4,x5,x6,x7,x8,x9,x10,x11,x12]) (As8 (.int a) _ _ _ _ _ _ _ _ _ _ _ _ _ g1) ?_
  refine Atf ns a h0 h1 γ x2 x3 x4 x5 x6 x7 x8 x9 x10 x11 x12 g2 g3 g4 g5 g6 g7 g8 g9 g10 g11 g12 h11 _ fun γ' y2 y3 y4 y5 y6 y7 y8 y9 y10 y11 y12 q2 q3 q4 q5 q6 q7 q8 q9 q10 q11 q12 q=>?_
  exact Aef ns as γ' (.sh (.int a)) y2 y3 y4 y5 y6 y7 y8 y9 y10 y11 y12 (fun x hx=>h x (List.mem_cons_of_mem _ hx)) rfl q2 q3 q4 q5 q6 q7 q8 q9 q10 q11 q12 q P k
theorem law_true:Abt 63 V0:=by
 intro ns hns
 obtain ⟨as,ha,sr⟩:=Ar0 3 (by omega) (by omega) ns [.un,.un,.un,.un,.un,.un,.un,.un,.un,.un,.un,.un]
 rw [show ((3:Nat):Int)=3 from rfl] at sr
 unfold V0 By
 refine ⟨rfl,?_⟩
 show Lz [.sh (.scr ns),.un,.un,.un,.un,.un,.un,.un,.un,.un,.un,.un,.un] [] _
 unfold Lz
 refine B4 (O8 sr (Aef ns as [] .un .un .un .un .un .un .un .un .un .un .un .un ha rfl rfl rfl rfl rfl rfl rfl rfl rfl rfl rfl rfl (.inl rfl) _ fun e γ'=>?_))
 refine Ez (c:=.rt (.val (.bl true))) (e1:=.sh (.scr ns)::e) ?_ ?_
 ·rfl
 ·rfl
theorem facts{w:World}{K:PySem.W.Frag}{h:Heap}{mg:Str->Option Value}{f:Addr}(X:K.In h)(G:h.Ns mainGlobals mg)(hfa:mg ("law" : Str)=some (.ref f))(cP:SaysP ex fa fn tf xn fr h K) :
  Yv PySem.Challenge.rw_foundaswritten_k45_stores_refuse w K 8 63 "_law_script" mg f h:=by
 have cZ:=cP.z
 have cY:=cZ.y
 have c:=cY.x
 have m_len:mg "len" = none:=He.free_ok X G (c.d.fact 0 (f:=.free "len") rfl)
 have m_abs:mg "abs" = none:=He.free_ok X G (c.d.fact 1 (f:=.free "abs") rfl)
 have m_int:mg "int" = none:=He.free_ok X G (c.d.fact 2 (f:=.free "int") rfl)
 have gl_Store:mg "Store" = some (.ref (He.ga K "Store")):=He.glo_ok X G (c.d.fact 3 (f:=.glo "Store") rfl)
 have hC_Store:Cls K (He.ga K "Store"):=He.cls_ok (c.d.fact 4 (f:=.cls "Store") rfl)
 have n_Store__house:NoAttr K (He.ga K "Store") "house":=He.noat_ok (c.d.fact 5 (f:=.noat "Store" "house") rfl)
 have n_Store__texts:NoAttr K (He.ga K "Store") "texts":=He.noat_ok (c.d.fact 6 (f:=.noat "Store" "texts") rfl)
 have n_Store__names:NoAttr K (He.ga K "Store") "names":=He.noat_ok (c.d.fact 7 (f:=.noat "Store" "names") rfl)
 have n_Store__is_shut:NoAttr K (He.ga K "Store") "is_shut":=He.noat_ok (c.d.fact 8 (f:=.noat "Store" "is_shut") rfl)
 have gl_House:mg "House" = some (.ref (He.ga K "House")):=He.glo_ok X G (c.d.fact 9 (f:=.glo "House") rfl)
 have hC_House:Cls K (He.ga K "House"):=He.cls_ok (c.d.fact 10 (f:=.cls "House") rfl)
 have n_House__keep:NoAttr K (He.ga K "House") "keep":=He.noat_ok (c.d.fact 11 (f:=.noat "House" "keep") rfl)
 have n_House__ask:NoAttr K (He.ga K "House") "ask":=He.noat_ok (c.d.fact 12 (f:=.noat "House" "ask") rfl)
 have n_House__letters:NoAttr K (He.ga K "House") "letters":=He.noat_ok (c.d.fact 13 (f:=.noat "House" "letters") rfl)
 obtain ⟨t_MOST_LETTERS,g_MOST_LETTERS⟩:=He.int_ok X G (c.d.fact 14 (f:=.int "MOST_LETTERS" 4) rfl)
 have m_str:mg "str" = none:=He.free_ok X G (c.d.fact 15 (f:=.free "str") rfl)
 have m_isinstance:mg "isinstance" = none:=He.free_ok X G (c.d.fact 16 (f:=.free "isinstance") rfl)
 have m_enumerate:mg "enumerate" = none:=He.free_ok X G (c.d.fact 17 (f:=.free "enumerate") rfl)
 obtain ⟨t_CHARACTERS,g_CHARACTERS⟩:=He.str_ok X G (c.d.fact 18 (f:=.str "CHARACTERS" (S L5)) rfl)
 have m_any:mg "any" = none:=He.free_ok X G (c.d.fact 19 (f:=.free "any") rfl)
 have gl_Rows:mg "Rows" = some (.ref (He.ga K "Rows")):=He.glo_ok X G (c.d.fact 20 (f:=.glo "Rows") rfl)
 have gl_Beginnings:mg "Beginnings" = some (.ref (He.ga K "Beginnings")):=He.glo_ok X G (c.d.fact 21 (f:=.glo "Beginnings") rfl)
 have gl_Chain:mg "Chain" = some (.ref (He.ga K "Chain")):=He.glo_ok X G (c.d.fact 22 (f:=.glo "Chain") rfl)
 have r_Chain:=Aev (x:="Chain") (c.more 3 (f:=Sn "Chain") rfl)
 obtain ⟨u_Chain_MOST,v_Chain_MOST⟩:=Aew (x:="Chain") (f:="MOST") (c.more 4 (f:=Pk "Chain" "MOST" 6) rfl)
 have hC_Chain:Cls K (He.ga K "Chain"):=He.cls_ok (c.d.fact 23 (f:=.cls "Chain") rfl)
 have n_Chain__letters:NoAttr K (He.ga K "Chain") "letters":=He.noat_ok (c.d.fact 24 (f:=.noat "Chain" "letters") rfl)
 have n_Chain__steps:NoAttr K (He.ga K "Chain") "steps":=He.noat_ok (c.d.fact 25 (f:=.noat "Chain" "steps") rfl)
 have n_Chain__keep_places:NoAttr K (He.ga K "Chain") "keep_places":=He.noat_ok (c.d.fact 26 (f:=.noat "Chain" "keep_places") rfl)
 have n_Chain__front_steps:NoAttr K (He.ga K "Chain") "front_steps":=He.noat_ok (c.d.fact 27 (f:=.noat "Chain" "front_steps") rfl)
 have n_Chain__rows:NoAttr K (He.ga K "Chain") "rows":=He.noat_ok (c.d.fact 28 (f:=.noat "Chain" "rows") rfl)
 have n_Chain__back_steps:NoAttr K (He.ga K "Chain") "back_steps":=He.noat_ok (c.d.fact 29 (f:=.noat "Chain" "back_steps") rfl)
 have m_range:mg "range" = none:=He.free_ok X G (c.d.fact 30 (f:=.free "range") rfl)
 have m_all:mg "all" = none:=He.free_ok X G (c.d.fact 31 (f:=.free "all") rfl)
 obtain ⟨t_MOST_IN_NAME,g_MOST_IN_NAME⟩:=He.int_ok X G (c.d.fact 32 (f:=.int "MOST_IN_NAME" 12) rfl)
 obtain ⟨t_SMALL_LETTERS,g_SMALL_LETTERS⟩:=He.str_ok X G (c.d.fact 33 (f:=.str "SMALL_LETTERS" (S Ce)) rfl)
 have gl_BadName:mg "BadName" = some (.ref (He.ga K "BadName")):=He.glo_ok X G (c.d.fact 34 (f:=.glo "BadName") rfl)
 have m_super:mg "super" = none:=He.free_ok X G (c.d.fact 35 (f:=.free "super") rfl)
 have m_sorted:mg "sorted" = none:=He.free_ok X G (c.d.fact 36 (f:=.free "sorted") rfl)
 have m_iter:mg "iter" = none:=He.free_ok X G (c.d.fact 37 (f:=.free "iter") rfl)
 have gl_NoText:mg "NoText" = some (.ref (He.ga K "NoText")):=He.glo_ok X G (c.d.fact 38 (f:=.glo "NoText") rfl)
 have m_list:mg "list" = none:=He.free_ok X G (c.d.fact 39 (f:=.free "list") rfl)
 have m_bool:mg "bool" = none:=He.free_ok X G (c.d.fact 40 (f:=.free "bool") rfl)
 have m_LookupError:mg "LookupError" = none:=He.free_ok X G (c.d.fact 41 (f:=.free "LookupError") rfl)
 have gl_FoundError:mg "FoundError" = some (.ref (He.ga K "FoundError")):=He.glo_ok X G (c.d.fact 42 (f:=.glo "FoundError") rfl)
 have m_min:mg "min" = none:=He.free_ok X G (c.d.fact 43 (f:=.free "min") rfl)
 have m_max:mg "max" = none:=He.free_ok X G (c.d.fact 44 (f:=.free "max") rfl)
 obtain ⟨fd_Chain_plain,Fd_Chain_plain⟩:=Ahx (l:=⟨I7 "staticmethod" "Chain" "plain",Nu⟩) (cP.far 0 (l:=⟨I7 "staticmethod" "Chain" "plain",Nu⟩) rfl) (c.more 18 (f:=farB ⟨I7 "staticmethod" "Chain" "plain",Nu⟩) rfl)
 obtain ⟨fd_law_source,Fd_law_source⟩:=c.d.def_ 0 (d:=Wd) rfl
 have gl_law_source:mg "_law_source" = some (.ref (He.ga K "_law_source")):=He.glo_ok X G (c.d.fact 45 (f:=.glo "_law_source") rfl)
 obtain ⟨fd_Store_init,Fd_Store_init⟩:=c.d.def_ 1 (d:=We) rfl
 obtain ⟨fd_House_init,Fd_House_init⟩:=c.d.def_ 2 (d:=Wf) rfl
 obtain ⟨fd_check_letters,Fd_check_letters⟩:=c.d.def_ 3 (d:=Wg) rfl
 have gl_check_letters:mg "check_letters" = some (.ref (He.ga K "check_letters")):=He.glo_ok X G (c.d.fact 46 (f:=.glo "check_letters") rfl)
 obtain ⟨fd_check_steps,Fd_check_steps⟩:=c.d.def_ 4 (d:=Wh) rfl
 have gl_check_steps:mg "check_steps" = some (.ref (He.ga K "check_steps")):=He.glo_ok X G (c.d.fact 47 (f:=.glo "check_steps") rfl)
 obtain ⟨fd_Chain_init,Fd_Chain_init⟩:=c.d.def_ 5 (d:=Wi) rfl
 obtain ⟨fd_law_pick,Fd_law_pick⟩:=c.d.def_ 6 (d:=Wj) rfl
 have gl_law_pick:mg "_law_pick" = some (.ref (He.ga K "_law_pick")):=He.glo_ok X G (c.d.fact 48 (f:=.glo "_law_pick") rfl)
 obtain ⟨fd_law_one,Fd_law_one⟩:=c.d.def_ 7 (d:=Wk) rfl
 have gl_law_one:mg "_law_one" = some (.ref (He.ga K "_law_one")):=He.glo_ok X G (c.d.fact 49 (f:=.glo "_law_one") rfl)
 obtain ⟨fd_law_name,Fd_law_name⟩:=c.d.def_ 8 (d:=Wl) rfl
 have gl_law_name:mg "_law_name" = some (.ref (He.ga K "_law_name")):=He.glo_ok X G (c.d.fact 50 (f:=.glo "_law_name") rfl)
 obtain ⟨fd_Store_check_open,Fd_Store_check_open⟩:=c.d.def_ 9 (d:=Wm) rfl
 obtain ⟨fd_is_made_of,Fd_is_made_of⟩:=c.d.def_ 10 (d:=Wn) rfl
 have gl_is_made_of:mg "is_made_of" = some (.ref (He.ga K "is_made_of")):=He.glo_ok X G (c.d.fact 51 (f:=.glo "is_made_of") rfl)
 obtain ⟨fd_check_name,Fd_check_name⟩:=c.d.def_ 11 (d:=Wo) rfl
 have gl_check_name:mg "check_name" = some (.ref (He.ga K "check_name")):=He.glo_ok X G (c.d.fact 52 (f:=.glo "check_name") rfl)
 obtain ⟨fd_Store_setitem,Fd_Store_setitem⟩:=c.d.def_ 12 (d:=Wq) rfl
 obtain ⟨fd_Store_iter,Fd_Store_iter⟩:=c.d.def_ 13 (d:=Wr) rfl
 obtain ⟨fd_Store_getitem,Fd_Store_getitem⟩:=c.d.def_ 14 (d:=Ws) rfl
 obtain ⟨fd_Store_len,Fd_Store_len⟩:=c.d.def_ 15 (d:=Wt) rfl
 obtain ⟨fd_law_state,Fd_law_state⟩:=c.d.def_ 16 (d:=Wu) rfl
 have gl_law_state:mg "_law_state" = some (.ref (He.ga K "_law_state")):=He.glo_ok X G (c.d.fact 53 (f:=.glo "_law_state") rfl)
 obtain ⟨fd_law_same,Fd_law_same⟩:=c.d.def_ 17 (d:=Wv) rfl
 have gl_law_same:mg "_law_same" = some (.ref (He.ga K "_law_same")):=He.glo_ok X G (c.d.fact 54 (f:=.glo "_law_same") rfl)
 obtain ⟨fd_law_refused,Fd_law_refused⟩:=c.d.def_ 18 (d:=Ww) rfl
 have gl_law_refused:mg "_law_refused" = some (.ref (He.ga K "_law_refused")):=He.glo_ok X G (c.d.fact 55 (f:=.glo "_law_refused") rfl)
 obtain ⟨fd_law_set,Fd_law_set⟩:=c.d.def_ 19 (d:=Wx) rfl
 have gl_law_set:mg "_law_set" = some (.ref (He.ga K "_law_set")):=He.glo_ok X G (c.d.fact 56 (f:=.glo "_law_set") rfl)
 obtain ⟨fd_Store_remove,Fd_Store_remove⟩:=c.d.def_ 20 (d:=Wy) rfl
 obtain ⟨fd_Store_contains,Fd_Store_contains⟩:=c.d.def_ 21 (d:=Wz) rfl
 obtain ⟨fd_law,Fd_law⟩:=c.d.def_ 22 (d:=W3) rfl
 have gl_law:mg "law" = some (.ref (He.ga K "law")):=He.glo_ok X G (c.d.fact 57 (f:=.glo "law") rfl)
 have e:=hfa.symm.trans gl_law
 cases e
 have b:=FunD.bindsA (ps:=["_law_script"]) Fd_law fun _ _ _ _ _ _ us hl=>match us,hl with | [_],_=>rfl
 refine ⟨fd_law,tf.map (He.cT K),fun p hp=>?_,fun p hp=>?_,fun p hp=>?_,fun s v=>b s [v] rfl,fun base _ _ hTB=>?_⟩
 ·obtain ⟨q,hq,rfl⟩:=List.mem_map.mp hp
  exact cY.empty q hq
 ·obtain ⟨q,hq,rfl⟩:=List.mem_map.mp hp
  exact cY.out q hq
 ·obtain ⟨q,hq,rfl⟩:=List.mem_map.mp hp
  exact PySem.W.codeHd_of_K X (cY.hd q hq)
 show FnG _ _ _ _ _ _ _ _ _ _ (spT K ((Ai K).tabs.map Prod.fst) 63)
 refine Aow (mB:=Arj) (ca:=He.ga K) (Tb:=Ai K) (B:=Lz) (np:=1) (N:=13) (fun sa sn=>?_) rfl law_true
 have n_Store_house:∀ c∈Ct,NoAttr K (He.ga K c) "house":=fun c hc=>by
  simp only [Ct,List.mem_cons,List.not_mem_nil,or_false] at hc
  rcases hc with rfl
  ·exact n_Store__house
 have n_Store_texts:∀ c∈Ct,NoAttr K (He.ga K c) "texts":=fun c hc=>by
  simp only [Ct,List.mem_cons,List.not_mem_nil,or_false] at hc
  rcases hc with rfl
  ·exact n_Store__texts
 have n_Store_names:∀ c∈Ct,NoAttr K (He.ga K c) "names":=fun c hc=>by
  simp only [Ct,List.mem_cons,List.not_mem_nil,or_false] at hc
  rcases hc with rfl
  ·exact n_Store__names
 have n_Store_is_shut:∀ c∈Ct,NoAttr K (He.ga K c) "is_shut":=fun c hc=>by
  simp only [Ct,List.mem_cons,List.not_mem_nil,or_false] at hc
  rcases hc with rfl
  ·exact n_Store__is_shut
 have n_House_keep:∀ c∈Gn,NoAttr K (He.ga K c) "keep":=fun c hc=>by
  simp only [Gn,List.mem_cons,List.not_mem_nil,or_false] at hc
  rcases hc with rfl
  ·exact n_House__keep
 have n_House_ask:∀ c∈Gn,NoAttr K (He.ga K c) "ask":=fun c hc=>by
  simp only [Gn,List.mem_cons,List.not_mem_nil,or_false] at hc
  rcases hc with rfl
  ·exact n_House__ask
 have n_House_letters:∀ c∈Gn,NoAttr K (He.ga K c) "letters":=fun c hc=>by
  simp only [Gn,List.mem_cons,List.not_mem_nil,or_false] at hc
  rcases hc with rfl
  ·exact n_House__letters
 have isc_Rows:Lj mg (gm K w (He.ga K) (Ai K) sa sn) "Rows" [("Chain",false),("House",false),("Store",false)]:=Zn gl_Rows (c.more 0 (f:=Np "Rows" [("Chain",false),("House",false),("Store",false)]) rfl) (c.more 1 (f:=Nm ["Chain", "House", "Store"]) rfl)
 have isc_Beginnings:Lj mg (gm K w (He.ga K) (Ai K) sa sn) "Beginnings" [("Chain",false),("House",false),("Store",false)]:=Zn gl_Beginnings (c.more 2 (f:=Np "Beginnings" [("Chain",false),("House",false),("Store",false)]) rfl) (c.more 1 (f:=Nm ["Chain", "House", "Store"]) rfl)
 have i_Chain_MOST:CiD mg (gm K w (He.ga K) (Ai K) sa sn) "Chain" "MOST" 6:=⟨_,_,_,gl_Chain,r_Chain,v_Chain_MOST⟩
 have n_Chain_letters:∀ c∈cs_Chain,NoAttr K (He.ga K c) "letters":=fun c hc=>by
  simp only [cs_Chain,List.mem_cons,List.not_mem_nil,or_false] at hc
  rcases hc with rfl
  ·exact n_Chain__letters
 have n_Chain_steps:∀ c∈cs_Chain,NoAttr K (He.ga K c) "steps":=fun c hc=>by
  simp only [cs_Chain,List.mem_cons,List.not_mem_nil,or_false] at hc
  rcases hc with rfl
  ·exact n_Chain__steps
 have n_Chain_keep_places:∀ c∈cs_Chain,NoAttr K (He.ga K c) "keep_places":=fun c hc=>by
  simp only [cs_Chain,List.mem_cons,List.not_mem_nil,or_false] at hc
  rcases hc with rfl
  ·exact n_Chain__keep_places
 have n_Chain_front_steps:∀ c∈cs_Chain,NoAttr K (He.ga K c) "front_steps":=fun c hc=>by
  simp only [cs_Chain,List.mem_cons,List.not_mem_nil,or_false] at hc
  rcases hc with rfl
  ·exact n_Chain__front_steps
 have n_Chain_rows:∀ c∈cs_Chain,NoAttr K (He.ga K c) "rows":=fun c hc=>by
  simp only [cs_Chain,List.mem_cons,List.not_mem_nil,or_false] at hc
  rcases hc with rfl
  ·exact n_Chain__rows
 have n_Chain_back_steps:∀ c∈cs_Chain,NoAttr K (He.ga K c) "back_steps":=fun c hc=>by
  simp only [cs_Chain,List.mem_cons,List.not_mem_nil,or_false] at hc
  rcases hc with rfl
  ·exact n_Chain__back_steps
 have x_BadName:ExD (PySem.Challenge.rw_foundaswritten_k45_stores_refuse).prog mg base (gm K w (He.ga K) (Ai K) sa sn) "BadName" ["name"] 1:=xn1 (d:=Ss) (slf:="self") (v1:="name") (f1:="name") (c.more 5 (f:=exB R.prog.main.file "BadName") rfl) (cZ.at_ 0 (d:=Ss) rfl) rfl gl_BadName m_super (Ua (c.more 6 (f:=noB "BadName" "name") rfl)) rfl ⟨_,rfl,rfl⟩ rfl rfl rfl rfl (NdefX.nscope_by (by decide +kernel)) (fun _ _ _ _=>⟨_,rfl⟩) (fun _ _ _ _=>rfl) (fun _ _ _ _=>rfl) (fun _ _ _ _=>rfl) (fun _ _ _ _ _ _ _ us hl=>match us,hl with | [_,_],_=>rfl)
 have x_NoText:ExL (PySem.Challenge.rw_foundaswritten_k45_stores_refuse).prog mg base (gm K w (He.ga K) (Ai K) sa sn) "NoText" ["name"] 1:=xn1L (d:=Sv) (slf:="self") (v1:="name") (f1:="name") (c.more 7 (f:=Nt R.prog.main.file "NoText") rfl) (cZ.at_ 1 (d:=Sv) rfl) rfl gl_NoText m_super (Ua (c.more 8 (f:=noB "NoText" "name") rfl)) rfl ⟨_,rfl,rfl⟩ rfl rfl rfl rfl (NdefX.nscope_by (by decide +kernel)) (fun _ _ _ _=>⟨_,rfl⟩) (fun _ _ _ _=>rfl) (fun _ _ _ _=>rfl) (fun _ _ _ _=>rfl) (fun _ _ _ _ _ _ _ us hl=>match us,hl with | [_,_],_=>rfl)
 have gx_BadName:mg "BadName" = some (.ref (He.ga K "BadName")):=gl_BadName
 have xt_BadName_LookupError:Ms (gm K w (He.ga K) (Ai K) sa sn) "BadName" "LookupError" false:=Zw (c.more 9 (f:=Nr "BadName" "LookupError" false) rfl)
 have xi_BadName_FoundError:IsD mg (gm K w (He.ga K) (Ai K) sa sn) "BadName" "FoundError" true:=Zl gl_FoundError (c.more 10 (f:=Nk "BadName" "FoundError" true) rfl)
 have xf_BadName_name:XfD (gm K w (He.ga K) (Ai K) sa sn) "BadName" "name":=Zm (c.more 11 (f:=Nl "BadName" "name") rfl)
 have cat_BadName_BadName:Jp mg (gm K w (He.ga K) (Ai K) sa sn) "BadName" "BadName" true:=T8 gl_BadName (c.more 12 (f:=Kh "BadName" "BadName" true) rfl)
 have cat_BadName_NoText:Jp mg (gm K w (He.ga K) (Ai K) sa sn) "BadName" "NoText" false:=T8 gl_BadName (c.more 13 (f:=Kh "BadName" "NoText" false) rfl)
 have gx_NoText:mg "NoText" = some (.ref (He.ga K "NoText")):=gl_NoText
 have xt_NoText_LookupError:Ms (gm K w (He.ga K) (Ai K) sa sn) "NoText" "LookupError" true:=Zw (c.more 14 (f:=Nr "NoText" "LookupError" true) rfl)
 have xi_NoText_FoundError:IsD mg (gm K w (He.ga K) (Ai K) sa sn) "NoText" "FoundError" false:=Zl gl_FoundError (c.more 15 (f:=Nk "NoText" "FoundError" false) rfl)
 have xf_NoText_name:XfD (gm K w (He.ga K) (Ai K) sa sn) "NoText" "name":=Zm (c.more 16 (f:=Nl "NoText" "name") rfl)
 have cat_NoText_NoText:Jp mg (gm K w (He.ga K) (Ai K) sa sn) "NoText" "NoText" true:=T8 gl_NoText (c.more 17 (f:=Kh "NoText" "NoText" true) rfl)
 have q_law_source:FnG (PySem.Challenge.rw_foundaswritten_k45_stores_refuse).prog w K mg base (L2.CX (PySem.Challenge.rw_foundaswritten_k45_stores_refuse).prog w) 1 _ fd_law_source ["_law_script", "_law_at"] (spV (gm K w (He.ga K) (Ai K) sa sn) 2 Iu):=Apy Fd_law_source m_len m_abs m_int
 have d_law_source:Df (PySem.Challenge.rw_foundaswritten_k45_stores_refuse).prog mg base (gm K w (He.ga K) (Ai K) sa sn) "_law_source" [] 1 Iu:=⟨_,Ew (g:=(gm K w (He.ga K) (Ai K) sa sn)) q_law_source ⟨[],.nil,Fd_law_source.bindsN fun _ _ _ _ _ _ us hl=>match us,hl with | [_,_],_=>rfl⟩,gl_law_source,Fd_law_source.kp⟩
 have q_Store_init:FnG (PySem.Challenge.rw_foundaswritten_k45_stores_refuse).prog w K mg base (L2.CX (PySem.Challenge.rw_foundaswritten_k45_stores_refuse).prog w) 1 _ fd_Store_init ["self", "house"] (En (gm K w (He.ga K) (Ai K) sa sn) 2 Iv):=Ap0 Fd_Store_init n_Store_house n_Store_texts n_Store_names n_Store_is_shut
 have mk_Store:Mk2 (PySem.Challenge.rw_foundaswritten_k45_stores_refuse).prog mg base (gm K w (He.ga K) (Ai K) sa sn) "Store" "Store" 1 Iv:=⟨Ba Fc,_,gl_Store,He.mkr_ok (c.d.fact 58 (f:=.mkr "Store") rfl),hC_Store,O4 (g:=(gm K w (He.ga K) (Ai K) sa sn)) Fc q_Store_init (Fd_Store_init.bindsN fun _ _ _ _ _ _ us hl=>match us,hl with | [_,_],_=>rfl)⟩
 have q_House_init:FnG (PySem.Challenge.rw_foundaswritten_k45_stores_refuse).prog w K mg base (L2.CX (PySem.Challenge.rw_foundaswritten_k45_stores_refuse).prog w) 1 _ fd_House_init ["self", "keep", "ask"] (spV (gm K w (He.ga K) (Ai K) sa sn) 3 Iw):=Ap2 Fd_House_init n_House_keep n_House_ask n_House_letters
 have mk_House:Mk' (PySem.Challenge.rw_foundaswritten_k45_stores_refuse).prog mg base (gm K w (He.ga K) (Ai K) sa sn) "House" "House" [] 1 Iw:=⟨_,gl_House,He.mkr_ok (c.d.fact 59 (f:=.mkr "House") rfl),hC_House,Ew (g:=(gm K w (He.ga K) (Ai K) sa sn)) q_House_init ⟨[],.nil,Fd_House_init.bindsN fun _ _ _ _ _ _ us hl=>match us,hl with | [_,_,_],_=>rfl⟩⟩
 have q_check_letters:FnG (PySem.Challenge.rw_foundaswritten_k45_stores_refuse).prog w K mg base (L2.CX (PySem.Challenge.rw_foundaswritten_k45_stores_refuse).prog w) 1 _ fd_check_letters ["letters"] (spV (gm K w (He.ga K) (Ai K) sa sn) 1 J8):=Ap4 Fd_check_letters m_len g_MOST_LETTERS m_str m_isinstance m_enumerate g_CHARACTERS
 have d_check_letters:Df (PySem.Challenge.rw_foundaswritten_k45_stores_refuse).prog mg base (gm K w (He.ga K) (Ai K) sa sn) "check_letters" [] 1 J8:=⟨_,Ew (g:=(gm K w (He.ga K) (Ai K) sa sn)) q_check_letters ⟨[],.nil,Fd_check_letters.bindsN fun _ _ _ _ _ _ us hl=>match us,hl with | [_],_=>rfl⟩,gl_check_letters,Fd_check_letters.kp⟩
 have q_check_steps:FnG (PySem.Challenge.rw_foundaswritten_k45_stores_refuse).prog w K mg base (L2.CX (PySem.Challenge.rw_foundaswritten_k45_stores_refuse).prog w) 1 _ fd_check_steps ["steps", "letters", "most"] (spV (gm K w (He.ga K) (Ai K) sa sn) 3 Lo):=Ap7 Fd_check_steps m_enumerate m_any isc_Rows m_isinstance isc_Beginnings
 have d_check_steps:Df (PySem.Challenge.rw_foundaswritten_k45_stores_refuse).prog mg base (gm K w (He.ga K) (Ai K) sa sn) "check_steps" [] 1 Lo:=⟨_,Ew (g:=(gm K w (He.ga K) (Ai K) sa sn)) q_check_steps ⟨[],.nil,Fd_check_steps.bindsN fun _ _ _ _ _ _ us hl=>match us,hl with | [_,_,_],_=>rfl⟩,gl_check_steps,Fd_check_steps.kp⟩
 have q_Chain_init:_:=Ap8 Fd_Chain_init d_check_letters d_check_steps i_Chain_MOST n_Chain_letters n_Chain_steps n_Chain_keep_places n_Chain_front_steps n_Chain_rows n_Chain_back_steps m_enumerate isc_Rows m_isinstance
 have mk_Chain_d1:Mk' (PySem.Challenge.rw_foundaswritten_k45_stores_refuse).prog mg base (gm K w (He.ga K) (Ai K) sa sn) "Chain" "Chain" [] 2 (Fy 2 0 [(.bl true)] Eh):=⟨_,gl_Chain,He.mkr_ok (c.d.fact 60 (f:=.mkr "Chain") rfl),hC_Chain,Ahw (ps:=["self", "letters", "keep_places"]) (pv:="steps") (m:=2) (d:=(.bl true)) (v:=.bl true) Fd_Chain_init Ach (fun _=>⟨_,_,rfl,rfl,rfl⟩) rfl rfl (Ahv Fd_Chain_init fun D doc pm an cdv ct us rest u hu=>match us,rest,hu with | [_,_],[],_=>⟨_,_,_,_,_,_,rfl,rfl,rfl⟩ | [_,_],_::_,_=>⟨_,_,_,_,_,_,rfl,rfl,rfl⟩) q_Chain_init⟩
 have mk_Chain_letters_keep_places:Mk' (PySem.Challenge.rw_foundaswritten_k45_stores_refuse).prog mg base (gm K w (He.ga K) (Ai K) sa sn) "Chain" "Chain" ["letters", "keep_places"] 2 (Hg 1 2 Eh):=⟨_,gl_Chain,He.mkr_ok (c.d.fact 60 (f:=.mkr "Chain") rfl),hC_Chain,Apo (ps:=["self", "letters", "keep_places"]) (pv:="steps") (m:=1) (ks:=["letters", "keep_places"]) Fd_Chain_init Ach rfl rfl (Apn Fd_Chain_init fun kV doc pm an cdv ct us ws hu hw=>match us,ws,hu,hw with | [_],[_,_],_,_=>rfl) q_Chain_init⟩
 have q_Chain_plain:FnG (PySem.Challenge.rw_foundaswritten_k45_stores_refuse).prog w K mg base (L2.CX (PySem.Challenge.rw_foundaswritten_k45_stores_refuse).prog w) 4 _ fd_Chain_plain ["letters"] (spV (gm K w (He.ga K) (Ai K) sa sn) 1 H6):=Aqa Fd_Chain_plain mk_Chain_d1
 have f_Chain_plain:CfS (PySem.Challenge.rw_foundaswritten_k45_stores_refuse).prog mg base (gm K w (He.ga K) (Ai K) sa sn) "Chain" "plain" 4 H6:=An7 gl_Chain r_Chain (An6 (c.more 19 (f:=smB "Chain" "plain") rfl)) Fd_Chain_plain.kp (Ew (g:=(gm K w (He.ga K) (Ai K) sa sn)) q_Chain_plain ⟨[],.nil,Fd_Chain_plain.bindsN fun _ _ _ _ _ _ us hl=>match us,hl with | [_],_=>rfl⟩)
 have q_law_pick:FnG (PySem.Challenge.rw_foundaswritten_k45_stores_refuse).prog w K mg base (L2.CX (PySem.Challenge.rw_foundaswritten_k45_stores_refuse).prog w) 1 _ fd_law_pick ["_law_source_here", "_law_many"] (spV (gm K w (He.ga K) (Ai K) sa sn) 2 Ei):=Aqc Fd_law_pick m_int
 have d_law_pick:Df (PySem.Challenge.rw_foundaswritten_k45_stores_refuse).prog mg base (gm K w (He.ga K) (Ai K) sa sn) "_law_pick" [] 1 Ei:=⟨_,Ew (g:=(gm K w (He.ga K) (Ai K) sa sn)) q_law_pick ⟨[],.nil,Fd_law_pick.bindsN fun _ _ _ _ _ _ us hl=>match us,hl with | [_,_],_=>rfl⟩,gl_law_pick,Fd_law_pick.kp⟩
 have q_law_one:FnG (PySem.Challenge.rw_foundaswritten_k45_stores_refuse).prog w K mg base (L2.CX (PySem.Challenge.rw_foundaswritten_k45_stores_refuse).prog w) 2 _ fd_law_one ["_law_source_here", "_law_rows"] (spV (gm K w (He.ga K) (Ai K) sa sn) 2 Eo):=Aqe Fd_law_one d_law_pick m_len
 have d_law_one:Df (PySem.Challenge.rw_foundaswritten_k45_stores_refuse).prog mg base (gm K w (He.ga K) (Ai K) sa sn) "_law_one" [] 2 Eo:=⟨_,Ew (g:=(gm K w (He.ga K) (Ai K) sa sn)) q_law_one ⟨[],.nil,Fd_law_one.bindsN fun _ _ _ _ _ _ us hl=>match us,hl with | [_,_],_=>rfl⟩,gl_law_one,Fd_law_one.kp⟩
 have q_law_name:FnG (PySem.Challenge.rw_foundaswritten_k45_stores_refuse).prog w K mg base (L2.CX (PySem.Challenge.rw_foundaswritten_k45_stores_refuse).prog w) 3 _ fd_law_name ["_law_source_here"] (spV (gm K w (He.ga K) (Ai K) sa sn) 1 F7):=Aqg Fd_law_name d_law_one m_range
 have d_law_name:Df (PySem.Challenge.rw_foundaswritten_k45_stores_refuse).prog mg base (gm K w (He.ga K) (Ai K) sa sn) "_law_name" [] 3 F7:=⟨_,Ew (g:=(gm K w (He.ga K) (Ai K) sa sn)) q_law_name ⟨[],.nil,Fd_law_name.bindsN fun _ _ _ _ _ _ us hl=>match us,hl with | [_],_=>rfl⟩,gl_law_name,Fd_law_name.kp⟩
 have q_Store_check_open:FnG (PySem.Challenge.rw_foundaswritten_k45_stores_refuse).prog w K mg base (L2.CX (PySem.Challenge.rw_foundaswritten_k45_stores_refuse).prog w) 1 _ fd_Store_check_open ["self"] (spV (gm K w (He.ga K) (Ai K) sa sn) 1 M8):=Aqi Fd_Store_check_open
 have ml_check_open:Qk (PySem.Challenge.rw_foundaswritten_k45_stores_refuse).prog mg base (gm K w (He.ga K) (Ai K) sa sn) "check_open" 1 J9:=fun cc FF hT=>by
  unfold J9 at hT
  by_cases h_Store:cc = "Store"
  ·subst h_Store
   simp only [if_true] at hT
   obtain rfl:=Option.some.inj hT
   exact ⟨_,hC_Store,He.meth_ok (c.d.fact 61 (f:=.meth "Store" "check_open") rfl),(Ew (g:=(gm K w (He.ga K) (Ai K) sa sn)) q_Store_check_open ⟨[],.nil,Fd_Store_check_open.bindsN fun _ _ _ _ _ _ us hl=>match us,hl with | [_],_=>rfl⟩).mono (by decide)⟩
  rw [if_neg h_Store] at hT
  cases hT
 have q_is_made_of:FnG (PySem.Challenge.rw_foundaswritten_k45_stores_refuse).prog w K mg base (L2.CX (PySem.Challenge.rw_foundaswritten_k45_stores_refuse).prog w) 1 _ fd_is_made_of ["value", "signs"] (spV (gm K w (He.ga K) (Ai K) sa sn) 2 Iy):=Aql Fd_is_made_of m_all m_str m_isinstance
 have d_is_made_of:Df (PySem.Challenge.rw_foundaswritten_k45_stores_refuse).prog mg base (gm K w (He.ga K) (Ai K) sa sn) "is_made_of" [] 1 Iy:=⟨_,Ew (g:=(gm K w (He.ga K) (Ai K) sa sn)) q_is_made_of ⟨[],.nil,Fd_is_made_of.bindsN fun _ _ _ _ _ _ us hl=>match us,hl with | [_,_],_=>rfl⟩,gl_is_made_of,Fd_is_made_of.kp⟩
 have q_check_name:FnG (PySem.Challenge.rw_foundaswritten_k45_stores_refuse).prog w K mg base (L2.CX (PySem.Challenge.rw_foundaswritten_k45_stores_refuse).prog w) 3 _ fd_check_name ["name"] (spV (gm K w (He.ga K) (Ai K) sa sn) 1 E3):=Aqn Fd_check_name m_len g_MOST_IN_NAME d_is_made_of g_SMALL_LETTERS x_BadName
 have d_check_name:Df (PySem.Challenge.rw_foundaswritten_k45_stores_refuse).prog mg base (gm K w (He.ga K) (Ai K) sa sn) "check_name" [] 3 E3:=⟨_,Ew (g:=(gm K w (He.ga K) (Ai K) sa sn)) q_check_name ⟨[],.nil,Fd_check_name.bindsN fun _ _ _ _ _ _ us hl=>match us,hl with | [_],_=>rfl⟩,gl_check_name,Fd_check_name.kp⟩
 have q_Store_setitem:FnG (PySem.Challenge.rw_foundaswritten_k45_stores_refuse).prog w K mg base (L2.CX (PySem.Challenge.rw_foundaswritten_k45_stores_refuse).prog w) 4 _ fd_Store_setitem ["self", "name", "text"] (En (gm K w (He.ga K) (Ai K) sa sn) 3 H7):=Aqp Fd_Store_setitem ml_check_open d_check_name n_Store_names m_sorted
 have put2:Q6 (PySem.Challenge.rw_foundaswritten_k45_stores_refuse).prog mg base (gm K w (He.ga K) (Ai K) sa sn) 4 Gq:=fun cc FF hT=>by
  unfold Gq at hT
  by_cases h_Store:cc = "Store"
  ·subst h_Store
   simp only [if_true] at hT
   obtain rfl:=Option.some.inj hT
   exact ⟨Ba Vn,_,(Fm (c.more 20 (f:=Cu "Store" "Store" "__setitem__") rfl)).1,(Fm (c.more 20 (f:=Cu "Store" "Store" "__setitem__") rfl)).2,Ah6 (c.more 21 (f:=seqB "Store") rfl),(O4 (g:=(gm K w (He.ga K) (Ai K) sa sn)) Vn q_Store_setitem (Fd_Store_setitem.bindsN fun _ _ _ _ _ _ us hl=>match us,hl with | [_,_,_],_=>rfl)).mono (by decide)⟩
  rw [if_neg h_Store] at hT
  cases hT
 have q_Store_iter:FnG (PySem.Challenge.rw_foundaswritten_k45_stores_refuse).prog w K mg base (L2.CX (PySem.Challenge.rw_foundaswritten_k45_stores_refuse).prog w) 1 _ fd_Store_iter ["self"] (M5 K "names"):=Aqr Fd_Store_iter m_iter
 have qn_Store_iter:FnIL (PySem.Challenge.rw_foundaswritten_k45_stores_refuse).prog w K mg base 1 _ "names":=Aqs Fd_Store_iter (FunD.bindsN (ps:=["self"]) Fd_Store_iter fun _ _ _ _ _ _ us hl=>match us,hl with | [_],_=>rfl) m_iter
 have itd:ItDL (PySem.Challenge.rw_foundaswritten_k45_stores_refuse).prog mg base (gm K w (He.ga K) (Ai K) sa sn) 1 Kc:=fun cc FF hT=>by
  unfold Kc at hT
  by_cases h_Store:cc = "Store"
  ·subst h_Store
   simp only [if_true] at hT
   obtain rfl:=Option.some.inj hT
   exact ⟨_,(Fm (c.more 22 (f:=Cu "Store" "Store" "__iter__") rfl)).1,(Fm (c.more 22 (f:=Cu "Store" "Store" "__iter__") rfl)).2,(Ao6 (g:=(gm K w (He.ga K) (Ai K) sa sn)) q_Store_iter (Fd_Store_iter.bindsN fun _ _ _ _ _ _ us hl=>match us,hl with | [_],_=>rfl)).mono (by decide)⟩
  rw [if_neg h_Store] at hT
  cases hT
 have itn:U0 (PySem.Challenge.rw_foundaswritten_k45_stores_refuse).prog mg base (gm K w (He.ga K) (Ai K) sa sn) 1 Kc:=fun cc FF hT=>by
  unfold Kc at hT
  by_cases h_Store:cc = "Store"
  ·subst h_Store
   simp only [if_true] at hT
   obtain rfl:=Option.some.inj hT
   exact ⟨_,(Fm (c.more 22 (f:=Cu "Store" "Store" "__iter__") rfl)).1,(Fm (c.more 22 (f:=Cu "Store" "Store" "__iter__") rfl)).2,qn_Store_iter.mono (by decide)⟩
  rw [if_neg h_Store] at hT
  cases hT
 have q_Store_getitem:FnG (PySem.Challenge.rw_foundaswritten_k45_stores_refuse).prog w K mg base (L2.CX (PySem.Challenge.rw_foundaswritten_k45_stores_refuse).prog w) 3 _ fd_Store_getitem ["self", "name"] (spV (gm K w (He.ga K) (Ai K) sa sn) 2 Iz):=Aqu Fd_Store_getitem m_str m_isinstance x_NoText
 have itmd:Qz (PySem.Challenge.rw_foundaswritten_k45_stores_refuse).prog mg base (gm K w (He.ga K) (Ai K) sa sn) 3 Kd:=fun cc FF hT=>by
  unfold Kd at hT
  by_cases h_Store:cc = "Store"
  ·subst h_Store
   simp only [if_true] at hT
   obtain rfl:=Option.some.inj hT
   exact ⟨_,(Fm (c.more 23 (f:=Cu "Store" "Store" "__getitem__") rfl)).1,FunD.isFnIn Fd_Store_getitem,(Fm (c.more 23 (f:=Cu "Store" "Store" "__getitem__") rfl)).2,(Ew (g:=(gm K w (He.ga K) (Ai K) sa sn)) q_Store_getitem ⟨[],.nil,Fd_Store_getitem.bindsN fun _ _ _ _ _ _ us hl=>match us,hl with | [_,_],_=>rfl⟩).mono (by decide)⟩
  rw [if_neg h_Store] at hT
  cases hT
 have q_Store_len:FnG (PySem.Challenge.rw_foundaswritten_k45_stores_refuse).prog w K mg base (L2.CX (PySem.Challenge.rw_foundaswritten_k45_stores_refuse).prog w) 1 _ fd_Store_len ["self"] (spV (gm K w (He.ga K) (Ai K) sa sn) 1 Lq):=Aqw Fd_Store_len m_len
 have lend:SpD "__len__" (PySem.Challenge.rw_foundaswritten_k45_stores_refuse).prog mg base (gm K w (He.ga K) (Ai K) sa sn) 1 Pd:=fun cc FF hT=>by
  unfold Pd at hT
  by_cases h_Store:cc = "Store"
  ·subst h_Store
   simp only [if_true] at hT
   obtain rfl:=Option.some.inj hT
   exact ⟨_,(Fm (c.more 24 (f:=Cu "Store" "Store" "__len__") rfl)).1,(Fm (c.more 24 (f:=Cu "Store" "Store" "__len__") rfl)).2,(Ew (g:=(gm K w (He.ga K) (Ai K) sa sn)) q_Store_len ⟨[],.nil,Fd_Store_len.bindsN fun _ _ _ _ _ _ us hl=>match us,hl with | [_],_=>rfl⟩).mono (by decide)⟩
  rw [if_neg h_Store] at hT
  cases hT
 have q_law_state:FnG (PySem.Challenge.rw_foundaswritten_k45_stores_refuse).prog w K mg base (L2.CX (PySem.Challenge.rw_foundaswritten_k45_stores_refuse).prog w) 5 _ fd_law_state ["_law_store"] (spV (gm K w (He.ga K) (Ai K) sa sn) 1 Fd):=Aqy Fd_law_state itn itmd lend m_len
 have d_law_state:Df (PySem.Challenge.rw_foundaswritten_k45_stores_refuse).prog mg base (gm K w (He.ga K) (Ai K) sa sn) "_law_state" [] 5 Fd:=⟨_,Ew (g:=(gm K w (He.ga K) (Ai K) sa sn)) q_law_state ⟨[],.nil,Fd_law_state.bindsN fun _ _ _ _ _ _ us hl=>match us,hl with | [_],_=>rfl⟩,gl_law_state,Fd_law_state.kp⟩
 have q_law_same:FnG (PySem.Challenge.rw_foundaswritten_k45_stores_refuse).prog w K mg base (L2.CX (PySem.Challenge.rw_foundaswritten_k45_stores_refuse).prog w) 1 _ fd_law_same ["_law_told", "_law_due"] (spV (gm K w (He.ga K) (Ai K) sa sn) 2 Fe):=Aq0 Fd_law_same m_list m_isinstance m_bool
 have d_law_same:Df (PySem.Challenge.rw_foundaswritten_k45_stores_refuse).prog mg base (gm K w (He.ga K) (Ai K) sa sn) "_law_same" [] 1 Fe:=⟨_,Ew (g:=(gm K w (He.ga K) (Ai K) sa sn)) q_law_same ⟨[],.nil,Fd_law_same.bindsN fun _ _ _ _ _ _ us hl=>match us,hl with | [_,_],_=>rfl⟩,gl_law_same,Fd_law_same.kp⟩
 have tol_law_refused:M6 (PySem.Challenge.rw_foundaswritten_k45_stores_refuse).prog mg base (gm K w (He.ga K) (Ai K) sa sn) "_law_refused" Ej Cn:=Aq2 Fd_law_refused gl_law_refused (FunD.bindsN (ps:=["_law_call"]) Fd_law_refused fun _ _ _ _ _ _ us hl=>match us,hl with | [_],_=>rfl) gx_BadName xt_BadName_LookupError m_LookupError m_isinstance xi_BadName_FoundError xf_BadName_name cat_BadName_BadName cat_BadName_NoText gx_NoText xt_NoText_LookupError xi_NoText_FoundError xf_NoText_name cat_NoText_NoText
 have q_law_set:FnG (PySem.Challenge.rw_foundaswritten_k45_stores_refuse).prog w K mg base (L2.CX (PySem.Challenge.rw_foundaswritten_k45_stores_refuse).prog w) 5 _ fd_law_set ["_law_store", "_law_name_here", "_law_text"] (En (gm K w (He.ga K) (Ai K) sa sn) 3 Gr):=Aq4 Fd_law_set put2
 have d_law_set:Df2 (PySem.Challenge.rw_foundaswritten_k45_stores_refuse).prog mg base (gm K w (He.ga K) (Ai K) sa sn) "_law_set" 5 Gr:=⟨Ba Ff,_,O4 (g:=(gm K w (He.ga K) (Ai K) sa sn)) Ff q_law_set (Fd_law_set.bindsN fun _ _ _ _ _ _ us hl=>match us,hl with | [_,_,_],_=>rfl),gl_law_set,Fd_law_set.kp⟩
 have q_Store_getitemTwM:FnG (PySem.Challenge.rw_foundaswritten_k45_stores_refuse).prog w K mg base (L2.CX (PySem.Challenge.rw_foundaswritten_k45_stores_refuse).prog w) 3 _ fd_Store_getitem ["self", "name"] (En (gm K w (He.ga K) (Ai K) sa sn) 2 Lu):=Aq6 Fd_Store_getitem m_str m_isinstance x_NoText
 have itmd2:U2 (PySem.Challenge.rw_foundaswritten_k45_stores_refuse).prog mg base (gm K w (He.ga K) (Ai K) sa sn) 3 Hh:=fun cc FF hT=>by
  unfold Hh at hT
  by_cases h_Store:cc = "Store"
  ·subst h_Store
   simp only [if_true] at hT
   obtain rfl:=Option.some.inj hT
   exact ⟨Ba Vw,_,(Fm (c.more 23 (f:=Cu "Store" "Store" "__getitem__") rfl)).1,FunD.isFnIn Fd_Store_getitem,(Fm (c.more 23 (f:=Cu "Store" "Store" "__getitem__") rfl)).2,(O4 (g:=(gm K w (He.ga K) (Ai K) sa sn)) Vw q_Store_getitemTwM (Fd_Store_getitem.bindsN fun _ _ _ _ _ _ us hl=>match us,hl with | [_,_],_=>rfl)).mono (by decide)⟩
  rw [if_neg h_Store] at hT
  cases hT
 have q_Store_remove:FnG (PySem.Challenge.rw_foundaswritten_k45_stores_refuse).prog w K mg base (L2.CX (PySem.Challenge.rw_foundaswritten_k45_stores_refuse).prog w) 3 _ fd_Store_remove ["self", "name"] (En (gm K w (He.ga K) (Ai K) sa sn) 2 Gu):=Aq8 Fd_Store_remove ml_check_open m_str m_isinstance x_NoText n_Store_names m_sorted
 have m2_remove:Uu (PySem.Challenge.rw_foundaswritten_k45_stores_refuse).prog mg base (gm K w (He.ga K) (Ai K) sa sn) "remove" 3 E4:=fun cc FF hT=>by
  unfold E4 at hT
  by_cases h_Store:cc = "Store"
  ·subst h_Store
   simp only [if_true] at hT
   obtain rfl:=Option.some.inj hT
   exact ⟨Ba Vx,_,hC_Store,He.meth_ok (c.d.fact 62 (f:=.meth "Store" "remove") rfl),(O4 (g:=(gm K w (He.ga K) (Ai K) sa sn)) Vx q_Store_remove (Fd_Store_remove.bindsN fun _ _ _ _ _ _ us hl=>match us,hl with | [_,_],_=>rfl)).mono (by decide)⟩
  rw [if_neg h_Store] at hT
  cases hT
 have q_Store_contains:FnG (PySem.Challenge.rw_foundaswritten_k45_stores_refuse).prog w K mg base (L2.CX (PySem.Challenge.rw_foundaswritten_k45_stores_refuse).prog w) 1 _ fd_Store_contains ["self", "name"] (spV (gm K w (He.ga K) (Ai K) sa sn) 2 Ga):=Ara Fd_Store_contains m_str m_isinstance
 have cond:SpD "__contains__" (PySem.Challenge.rw_foundaswritten_k45_stores_refuse).prog mg base (gm K w (He.ga K) (Ai K) sa sn) 1 Lv:=fun cc FF hT=>by
  unfold Lv at hT
  by_cases h_Store:cc = "Store"
  ·subst h_Store
   simp only [if_true] at hT
   obtain rfl:=Option.some.inj hT
   exact ⟨_,(Fm (c.more 25 (f:=Cu "Store" "Store" "__contains__") rfl)).1,(Fm (c.more 25 (f:=Cu "Store" "Store" "__contains__") rfl)).2,(Ew (g:=(gm K w (He.ga K) (Ai K) sa sn)) q_Store_contains ⟨[],.nil,Fd_Store_contains.bindsN fun _ _ _ _ _ _ us hl=>match us,hl with | [_,_],_=>rfl⟩).mono (by decide)⟩
  rw [if_neg h_Store] at hT
  cases hT
 have tb_law:LamX.TabB base mg (He.cT K ("law",none)).1 (He.cT K ("law",none)).2:=hTB _ (List.mem_map.mpr ⟨("law",none),by unfold tf; simp,rfl⟩)
 have hc_law:fd_law.code=.ref (He.cT K ("law",none)).1:=code_at (p:=("law",none)) Fd_law
 have tm_law:((He.cT K ("law",none)).2,("law" : Str) ++ ".<locals>." ++ "<lambda>")∈(Ai K).tabs:=by unfold Ai; simp
 have tu_law:∀ p∈(Ai K).tabs,p.1=(He.cT K ("law",none)).2->p.2=("law" : Str) ++ ".<locals>." ++ "<lambda>":=by
  intro p hp e
  unfold Ai at hp
  simp only [List.mem_cons,List.not_mem_nil,or_false] at hp
  rcases hp with rfl
  ·rfl
 exact o_law Fd_law m_range m_len m_min m_max d_law_source mk_Store mk_House mk_Chain_letters_keep_places f_Chain_plain d_law_pick d_law_name put2 d_law_one d_law_state d_law_same tol_law_refused tb_law hc_law tm_law tu_law d_law_set itmd2 m2_remove cond itmd
end La
open PySem PySem.W PySem.Calls PyProof.Rows
set_option maxRecDepth 100000 in
set_option maxHeartbeats 0 in
theorem PySem.Challenge.cw_foundaswritten_k45_stores_refuse_holds : PySem.Challenge.rw_foundaswritten_k45_stores_refuse.Holds := by
 w_on; o_law
 refine HandSHeadRun.head_any (r:=OpenLaw.row PySem.Challenge.rw_foundaswritten_k45_stores_refuse) (q:=view (OpenLaw.row PySem.Challenge.rw_foundaswritten_k45_stores_refuse).prog [71]) (H:=La.hk) (ob:=La.ob) (M:=14000) (loose:=La.loose) (d:=HandSHeadRun.topDef (OpenLaw.row PySem.Challenge.rw_foundaswritten_k45_stores_refuse).prog 71) (kwd:=[]) La.ob_eq
  (by kernel_rfl) (fun s=>by kernel_rfl) La.run (by kernel_rfl) (by kernel_rfl) (by kernel_rfl) (by rfl) (by first | assumption | decide +kernel) (by decide +kernel) ⟨rfl,rfl,rfl,rfl,rfl,by decide +kernel⟩ ?hw ?hc
 case hw=>w_witness2
 case hc =>
  refine Vs.walk_g (l:=PySem.Challenge.rw_foundaswritten_k45_stores_refuse) (n:=63) (k:=8) (x:="_law_script") rfl (by decide) (by kernel_rfl) ⟨⟨rfl,by decide,by decide⟩,rfl⟩ ?F
  intro w mg fa h Y G hmg0
  obtain ⟨K,KX,c⟩:=Y
  have hmg:mg ("law" : PySem.Str)=some (.ref fa):=by
   have e:(HandSHeadRun.topDef (OpenLaw.row PySem.Challenge.rw_foundaswritten_k45_stores_refuse).prog 71).name=("law" : PySem.Str):=by kernel_rfl
   rw [← e]
   exact hmg0
  exact ⟨K,KX,La.facts KX G hmg c⟩
#print axioms PySem.Challenge.cw_foundaswritten_k45_stores_refuse_holds
