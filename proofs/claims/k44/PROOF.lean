import PyProof.Rows.All
import Wide.All
import OpenK.AllK
import Wide.FinOn
import PyProof.Rows.SortShellAny
import HandS.ForMost
import HandS.Set
import HandS.SetFor
import HandS.ExcValue
import HandS.Wide
import HandS.IsInst
import HandS.Style
import HandS.Codes
import HandS.Defaults
import HandS.Walk
import PyProof.Draws
import HandS.Base
import HandS.Call
import HandS.List
import HandS.Iter
import HandS.Dict
import HandS.More
import HandS.Exc
import HandS.Slots
import HandS.Star
import HandS.ClsMeth
import HandS.MakeKw
import HandS.MakeKwOnly
import HandS.FStr
import HandS.Replace
import HandS.ReplaceLit
import HandS.ReplaceList
import HandS.DictComp
import KE.KRevSl
import HandS.HeadHook1
import HandS.HeadHook2
import HandS.WordsExc
import HandS.Flow
import HandS.CallSlots
import HandS.Lambda
import HandS.TupAny
import HandS.TupLe
import HandS.RaiseMore
import HandS.WordsDict
import HandS.Nested
import HandS.EndTab
import HandS.HeadWalk
import HandS.Finally
import PyProof.ReprRoads
import PyProof.ReprText
import PyProof.ReprLen
import PyProof.StrLawsRepr
import PyProof.Rows.ReprOcc
import PyProof.Rows.RegStrFacts
import HandS.HeadHook4
import HandS.ExcInit
import HandS.ExcSuper
import KE.KExcSuper
import HandS.ExcField
import HandS.ExcIs
import HandS.TryOnly
import KE.KExcIs
import HandS.OwnEq
import KE.KCallOwn
import PyProof.FString3
import HandS.Comp
import HandS.Property
import HandS.Head0
import HandS.Head1
import HandS.Head2
import HandS.HeadEnd
import KE.KExcInit
import KE.KSuper
import PyProof.InstSpecial
import HandS.SetBool
import KE.KOpsOwn
import HandS.SortKw
import KE.SortKeyHeap
import PyProof.NeKinds
import HandS.DeepEq
import HandS.Conv
import HandS.Strs
import HandS.TryMany
import HandS.OwnIter
import HandS.IterNext
import HandS.IterVal
import HandS.HeadHook3
import HandS.Text
import PyProof.ToksMono
import HandS.ListEq
import PySem.Challenge.RW_foundaswritten_k44_stores_keep_texts
set_option Elab.async false
set_option linter.all false
set_option maxRecDepth 100000
set_option maxHeartbeats 2000000
namespace Fw
open PySem PySem.Spec PyProof.Rows L2
def nameT (e:Int × Value):Str:=match e.2 with
 | .str x _=>x
 | _=>Str.empty
def IsTx (w:World) (e:Int × Value):Prop:=∃ x tk,e.2 = Value.str x tk∧e.1 = hashStr w x
def TxSet (w:World) (h:Heap) (a:Addr) (L:List Str):Prop :=
 ∃ o es ep t,h.get? a = some o∧o.ExactSet∧o.data = .set es ep t∧(∀ e∈es.toList,IsTx w e)∧es.toList.map nameT = L∧L.Nodup ∧
  L.length < scanBound∧t.fits es.size = true∧Ris t.place.toList∧(w.params.followText "set-order" = true∨t.led = true)
section
variable {P:Program} {w:World} {h h':Heap} {a:Addr} {L:List Str}
theorem TxSet.at (R:TxSet w h a L) (k:∀ o,h.get? a = some o→h'.get? a = some o):TxSet w h' a L:=by
 obtain ⟨o,es,ep,t,ho,r⟩:=R
 exact ⟨o,es,ep,t,k o ho,r⟩
end
section
variable {P:Program} {w:World} {A:Around} {E:Value→Shared→Prop} {s:Shared} {a:Addr} {L:List Str}
end
end Fw
namespace Fw
open PySem PySem.Spec PyProof.Rows L2
section
variable {P:Program} {w:World}
theorem StrsAt.at_:∀ {us:List Value} {xs:List Str},StrsAre us xs→∀ (i:Nat) (v:Value),us[i]? = some v→∃ tk,v = .str (xs.getD i Str.empty) tk
 | _,_,.nil,i,v,e=>by simp at e
 | _,_,.cons x t r,0,v,e=>by
  simp at e
  exact ⟨t,by rw [← e]; rfl⟩
 | _,_,.cons x t r,i + 1,v,e=>by
  obtain ⟨tk,q⟩:=StrsAt.at_ r i v (by simpa using e)
  exact ⟨tk,by rw [q]; simp⟩
end
end Fw
namespace Fw
open PySem PySem.Spec PyProof.Rows L2
section
variable {P:Program} {w:World} {A:Around} {E:Value→Shared→Prop} {s:Shared}
set_option maxHeartbeats 4000000 in
end
end Fw
set_option maxRecDepth 100000
set_option maxHeartbeats 2000000
namespace Fw
open PySem PySem.Spec PyProof.Rows L2
def Ib:List Str→List Str
 | []=>[]
 | x :: r=>if x∈r then Ib r else x :: Ib r
def Gr (w:World) (a:Addr) (L:List Str):HO:=.ext fun h=>TxSet w h a L
section
variable {X:Cx}
section
variable {P:Program} {w:World} {A:Around} {E:Value→Shared→Prop} {s:Shared}
end
end
end Fw
set_option maxRecDepth 100000
set_option maxHeartbeats 2000000
namespace Fw
open PySem PySem.Spec PyProof.Rows L2
section
variable {X:Cx} {x:Str} {ps:List Str} {k:Nat} {sp:Sp} {e:Expr} {es:List Expr} {t:TA} {p pos:Pos}
end
section
variable {X:Cx} (K:PySem.W.Frag) (w:World)
end
def Kb (b:Addr) (H H':Hp):Prop:=∀ a o,a≠b→H a = some o→H' a = some o
theorem Kb.refl (b:Addr) (H:Hp):Kb b H H:=fun _ _ _ h=>h
theorem Kb.trans {b:Addr} {H H1 H2:Hp} (x:Kb b H H1) (y:Kb b H1 H2):Kb b H H2:=fun a o n h=>y a o n (x a o n h)
theorem Kb.upd {b:Addr} {H H1:Hp} {o:HO} (x:Kb b H H1):Kb b H (upd H1 b o):=fun a u n h=>by
 rw [upd_ne n]; exact x a u n h
theorem Kb.same {b:Addr} {H H1:Hp} (x:Same H H1):Kb b H H1:=fun a o _ h=>x a o h
theorem _root_.L2.Same.upd {H:Hp} {p:Addr} {o:HO} (h:H p = none):Same H (upd H p o):=fun b x e=>by
 rw [upd_ne (ne_of_none e h)]
 exact e
theorem Kb.new {b:Addr} {H H1:Hp} {p:Addr} {o:HO} (x:Kb b H H1) (h:H p = none):Kb b H (L2.upd H1 p o):=fun a u n e=>by
 rw [upd_ne (ne_of_none e h)]
 exact x a u n e
open SX in
open SX
end Fw
set_option maxRecDepth 100000
set_option maxHeartbeats 2000000
namespace Fw
open PySem PySem.Spec PyProof.Rows L2
end Fw
set_option maxRecDepth 100000
set_option maxHeartbeats 2000000
namespace Fw
open PySem PySem.Spec PyProof.Rows L2
section
variable {X:Cx} {CX:CXT} {x m:Str} {ps:List Str} {k:Nat} {sp:Sp} {E:XK} {e:Expr} {es:List Expr} {t:TA} {p apos pos:Pos} {pl:Sem Bool}
end
section
variable {X:Cx} {CX:CXT} {x m:Str} {ps:List Str} {k:Nat} {sp:Sp} {E:XK} {e:Expr} {es:List Expr} {t:TA} {p apos pos:Pos} {pl:Sem Bool}
end
section
variable {X:Cx} {CX:CXT} {x:Str} {C:Addr} {ps ks:List Str} {k n:Nat} {sp:Sp} {E:XK} {e fe:Expr} {es:List Expr} {tf:TE} {t tk:TA} {p pos:Pos} {kws:List Keyword} {gV:List V→List V→List V}
end
section
variable {X:Cx} (K:PySem.W.Frag)
end
open SX in
open SX in
section
open He
def Qj (x:Str) (K:PySem.W.Frag):Bool:=PySem.W.readsIn K (ga K x) (.type "type")
def N8 (x f:Str) (i:Int) (K:PySem.W.Frag):Bool:=match PySem.W.findCls K (.ref (ga K x)) (.type "type") f with
 | some (.val (.int j _))=>decide (j = i)
 | _=>false
abbrev Ex:=List (PySem.W.Frag→Bool)
def obsX (ex:Ex) (fa:List Fa) (fn:List DefD) (K:PySem.W.Frag):AlD:=((ex.all fun f=>f K) && (obsD fa fn K).1,(obsD fa fn K).2)
def SaysX (ex:Ex) (fa:List Fa) (fn:List DefD) (K:PySem.W.Frag):Prop:=obsX ex fa fn K = valD fn
section
variable {ex:Ex} {fa:List Fa} {fn:List DefD} {K:PySem.W.Frag}
theorem SaysX.d (c:SaysX ex fa fn K):SaysD fa fn K:=by
 have c1:=(ba (show ((ex.all fun f=>f K) && (obsD fa fn K).1) = true from congrArg (fun z:AlD=>z.1) c)).2
 have c0:obsX ex fa fn K = valD fn:=c
 have c2:(obsX ex fa fn K).2 = (valD fn).2:=by rw [c0]
 exact Prod.ext c1 c2
theorem SaysX.more (c:SaysX ex fa fn K) (i:Nat) {f:PySem.W.Frag→Bool} (h:ex[i]? = some f:=by rfl):f K = true:=by
 have c1:=(ba (show ((ex.all fun f=>f K) && (obsD fa fn K).1) = true from congrArg (fun z:AlD=>z.1) c)).1
 exact List.all_eq_true.mp c1 f (List.mem_of_getElem? h)
end
end
end Fw
set_option maxRecDepth 100000
set_option maxHeartbeats 2000000
namespace Vs
open PySem PySem.Spec PyProof.Rows L2 Fw SX
structure Lam where
 q:Str
 params:Arguments
 body:Expr
 scope:Scope
structure LT where
 tabs:List (Addr × Str)
 fn:UInt64→Addr ⊕ Lam
def N9 (f:Addr) (L:Lam) (c:Addr):HO:=.ext fun h=>∃ pm ctv:Value,h.get? f = some (PySem.W.kla_obj "<lambda>" L.q L.params L.body L.scope [] pm c ctv)
structure Gm where
 K:PySem.W.Frag
 w:World
 ca:Str→Addr
 T:LT
 sa:Addr
 sn:List Int
inductive D where
 | non | bl (b:Bool) | int (i:Int) | str (l:List Nat)
 | lst (xs:List D) | tup (xs:List D) | dct (kvs:List (List Nat × D)) | set (xs:List (List Nat))
 | ins (c:Str) (fs:List (Str × D))
 | con (v:V)
 | scr (ns:List Int)
abbrev Exn:=Str × List (Str × D)
inductive Sl where
 | un | sh (d:D) | ow (d:D) | bo (d:D) | bf (d:D) | lo (d:D)
abbrev Ve:=List Sl
inductive Rv where
 | val (d:D) | slot (i:Nat) | fresh (d:D)
inductive Res (α:Type) where
 | ok (a:α) (e:Ve) | er (x:Exn) (e:Ve) | no
abbrev M (α:Type):=Ve→Res α
def OkS (l:List Nat):Prop:=∀ c∈l,c < 1114112
def Mg (g:Gm) (c:Str) (fs:List (Str × D)):Prop:=Cls g.K (g.ca c)∧∀ q∈fs,NoAttr g.K (g.ca c) q.1
def FnR (g:Gm) (G:Hp) (i:UInt64) (v:V):Prop:=match g.T.fn i with
 | .inl a=>v = .ref a
 | .inr L=>∃ f c,v = .ref f∧G f = some (N9 f L c)∧G c = some (LamX.CodeO c L.q)
def ConR (g:Gm) (G:Hp):V→V→Prop
 | .flt i,v=>FnR g G i v
 | u,v=>v = u
mutual
def Rep (g:Gm) (G:Hp):D→V→Prop
 | .non,v=>v = .non
 | .bl b,v=>v = .bl b
 | .int i,v=>v = .int i
 | .str l,v=>v = .str (S l)∧OkS l
 | .lst ds,v=>∃ a vs,v = .ref a∧G a = some (.lst vs)∧Reps g G ds vs
 | .tup ds,v=>∃ a vs,v = .ref a∧SqT g.K G a vs∧Reps g G ds vs
 | .dct kvs,v=>∃ a vs,v = .ref a∧G a = some (.dK vs)∧RepK g G kvs vs
 | .set xs,v=>∃ a L,v = .ref a∧G a = some (Gr g.w a L)∧L.Nodup∧∀ k,k∈L↔k∈xs.map S
 | .ins c fs,v=>∃ a dx vs,v = .ref a∧G a = some (.ins (g.ca c) dx vs)∧RepF g G fs vs∧Mg g c fs
 | .con u,v=>ConR g G u v
 | .scr ns,v=>v = .ref g.sa∧ns = g.sn
def Reps (g:Gm) (G:Hp):List D→List V→Prop
 | [],vs=>vs = []
 | d :: ds,vs=>∃ v r,vs = v :: r∧Rep g G d v∧Reps g G ds r
def RepK (g:Gm) (G:Hp):List (List Nat × D)→List (Key × V)→Prop
 | [],vs=>vs = []
 | (k,d) :: ds,vs=>OkS k∧∃ v r,vs = (.inr (S k),v) :: r∧Rep g G d v∧RepK g G ds r
def RepF (g:Gm) (G:Hp):List (Str × D)→List (Str × V)→Prop
 | [],vs=>vs = []
 | (k,d) :: ds,vs=>∃ v r,vs = (k,v) :: r∧Rep g G d v∧RepF g G ds r
end
def Le (G G':Hp):Prop:=∀ a u,G a = some u→G' a = some u
theorem Le.refl (G:Hp):Le G G:=fun _ _ h=>h
theorem Le.trans {G G1 G2:Hp} (x:Le G G1) (y:Le G1 G2):Le G G2:=fun a u h=>y a u (x a u h)
theorem Le.upd {G:Hp} {p:Addr} {o:HO} (h:G p = none):Le G (upd G p o):=fun a u e=>by rw [upd_ne (ne_of_none e h)]; exact e
theorem Le.sqL {K:PySem.W.Frag} {G G':Hp} {a:Addr} {vs:List V} (x:Le G G') (h:SqL K G a vs):SqL K G' a vs:=by
 rcases h with (h | ⟨o,h⟩) | h
 ·exact .inl (.inl (x _ _ h))
 ·exact .inl (.inr ⟨o,x _ _ h⟩)
 ·exact .inr h
theorem Le.sqT {K:PySem.W.Frag} {G G':Hp} {a:Addr} {vs:List V} (x:Le G G') (h:SqT K G a vs):SqT K G' a vs:=by
 rcases h with (h | ⟨o,h⟩) | h
 ·exact .inl (.inl (x _ _ h))
 ·exact .inl (.inr ⟨o,x _ _ h⟩)
 ·exact .inr h
theorem ConR.mono {g:Gm} {G G':Hp} (h:Le G G'):∀ {u v:V},ConR g G u v→ConR g G' u v
 | .flt i,v,r=>by
  show FnR g G' i v
  have r:FnR g G i v:=r
  unfold FnR at r ⊢
  split at r
  ·exact r
  ·obtain ⟨f,c,e,a,b⟩:=r
   exact ⟨f,c,e,h _ _ a,h _ _ b⟩
 | .non,_,r=>r
 | .bl _,_,r=>r
 | .int _,_,r=>r
 | .str _,_,r=>r
 | .byt _,_,r=>r
 | .ref _,_,r=>r
 | .ty _,_,r=>r
mutual
theorem Rep.mono {g:Gm} {G G':Hp} (h:Le G G'):∀ {d:D} {v:V},Rep g G d v→Rep g G' d v
 | .non,_,r=>r
 | .bl _,_,r=>r
 | .int _,_,r=>r
 | .str _,_,r=>r
 | .lst _,_,⟨a,vs,e,q,r⟩=>⟨a,vs,e,h _ _ q,Reps.mono h r⟩
 | .tup _,_,⟨a,vs,e,q,r⟩=>⟨a,vs,e,h.sqT q,Reps.mono h r⟩
 | .dct _,_,⟨a,vs,e,q,r⟩=>⟨a,vs,e,h _ _ q,RepK.mono h r⟩
 | .set _,_,⟨a,L,e,q,r⟩=>⟨a,L,e,h _ _ q,r⟩
 | .ins _ _,_,⟨a,dx,vs,e,q,r,k⟩=>⟨a,dx,vs,e,h _ _ q,RepF.mono h r,k⟩
 | .con _,_,r=>ConR.mono h r
 | .scr _,_,r=>r
theorem Reps.mono {g:Gm} {G G':Hp} (h:Le G G'):∀ {ds:List D} {vs:List V},Reps g G ds vs→Reps g G' ds vs
 | [],_,r=>r
 | _ :: _,_,⟨v,r,e,p,q⟩=>⟨v,r,e,Rep.mono h p,Reps.mono h q⟩
theorem RepK.mono {g:Gm} {G G':Hp} (h:Le G G'):∀ {ds:List (List Nat × D)} {vs:List (Key × V)},RepK g G ds vs→RepK g G' ds vs
 | [],_,r=>r
 | (_,_) :: _,_,⟨ok,v,r,e,p,q⟩=>⟨ok,v,r,e,Rep.mono h p,RepK.mono h q⟩
theorem RepF.mono {g:Gm} {G G':Hp} (h:Le G G'):∀ {ds:List (Str × D)} {vs:List (Str × V)},RepF g G ds vs→RepF g G' ds vs
 | [],_,r=>r
 | (_,_) :: _,_,⟨v,r,e,p,q⟩=>⟨v,r,e,Rep.mono h p,RepF.mono h q⟩
end
def Own (g:Gm) (G H:Hp) (p:Addr):D→Prop
 | .lst ds=>∃ vs,H p = some (.lst vs)∧Reps g G ds vs
 | .dct kvs=>∃ vs,H p = some (.dK vs)∧RepK g G kvs vs
 | .ins c fs=>∃ dx vs,H p = some (.ins (g.ca c) dx vs)∧RepF g G fs vs∧Mg g c fs
 | _=>False
theorem Own.mono {g:Gm} {G G' H H':Hp} {p:Addr} (h:Le G G') (e:H' p = H p):∀ {d:D},Own g G H p d→Own g G' H' p d
 | .lst _,⟨vs,a,r⟩=>⟨vs,e.trans a,r.mono h⟩
 | .dct _,⟨vs,a,r⟩=>⟨vs,e.trans a,r.mono h⟩
 | .ins _ _,⟨dx,vs,a,r,k⟩=>⟨dx,vs,e.trans a,r.mono h,k⟩
def Pln:HO→Prop
 | .lst _=>True
 | .dK _=>True
 | .ins _ _ _=>True
 | _=>False
theorem Pln.nf {o:HO} (h:Pln o) (ob:Obj) (u:HO):o≠.frz ob u:=fun z=>by subst z; exact h
theorem Pln.nt {o:HO} (h:Pln o) (ps:Array Value):o≠.tbl ps:=fun z=>by subst z; exact h
theorem Own.there {g:Gm} {G H:Hp} {p:Addr}:∀ {d:D},Own g G H p d→∃ o,H p = some o∧Pln o∧∀ {G':Hp},Le G G'→G' p = some o→Rep g G' d (.ref p)
 | .lst _,⟨vs,a,r⟩=>⟨_,a,trivial,fun le q=>⟨p,vs,rfl,q,r.mono le⟩⟩
 | .dct _,⟨vs,a,r⟩=>⟨_,a,trivial,fun le q=>⟨p,vs,rfl,q,r.mono le⟩⟩
 | .ins _ _,⟨dx,vs,a,r,k⟩=>⟨_,a,trivial,fun le q=>⟨p,dx,vs,rfl,q,r.mono le,k⟩⟩
def OwnR (g:Gm) (G H:Hp) (p:Addr):D→Prop
 | .lst ds=>∃ vs,H p = some (.lst vs)∧Reps g G ds vs
 | .dct kvs=>∃ vs,Rd H p (.dK vs)∧RepK g G kvs vs
 | .ins c fs=>∃ dx vs,H p = some (.ins (g.ca c) dx vs)∧RepF g G fs vs∧Mg g c fs
 | _=>False
theorem Own.r {g:Gm} {G H:Hp} {p:Addr}:∀ {d:D},Own g G H p d→OwnR g G H p d
 | .lst _,h=>h
 | .dct _,⟨vs,a,r⟩=>⟨vs,.of a,r⟩
 | .ins _ _,h=>h
def LoD (g:Gm) (G H:Hp) (p:Addr):D→Prop
 | .lst ds=>∃ ob vs,H p = some (.frz ob (.lst vs))∧Reps g G ds vs
 | .dct kvs=>∃ ob vs,H p = some (.frz ob (.dK vs))∧RepK g G kvs vs
 | _=>False
theorem LoD.mono {g:Gm} {G G' H H':Hp} {p:Addr} (h:Le G G') (e:H' p = H p):∀ {d:D},LoD g G H p d→LoD g G' H' p d
 | .lst _,⟨ob,vs,a,r⟩=>⟨ob,vs,e.trans a,r.mono h⟩
 | .dct _,⟨ob,vs,a,r⟩=>⟨ob,vs,e.trans a,r.mono h⟩
theorem LoD.there {g:Gm} {G H:Hp} {p:Addr}:∀ {d:D},LoD g G H p d→∃ ob u,H p = some (.frz ob u)∧∀ kvs,d = .dct kvs→OwnR g G H p d
 | .lst _,⟨ob,vs,a,r⟩=>⟨ob,_,a,fun _ z=>nomatch z⟩
 | .dct _,⟨ob,vs,a,r⟩=>⟨ob,_,a,fun _ _=>⟨vs,.inr ⟨ob,a⟩,r⟩⟩
def SlOk (g:Gm) (G H:Hp):Option Sl→Option (Option V)→Prop
 | some (.sh d),o=>∃ v,o = some (some v)∧Rep g G d v
 | some (.bf d),o=>∃ v,o = some (some v)∧Rep g G d v
 | some (.ow d),o=>∃ p,o = some (some (.ref p))∧G p = none∧Own g G H p d
 | some (.bo d),o=>∃ p,o = some (some (.ref p))∧G p = none∧Own g G H p d
 | some (.lo d),o=>∃ p,o = some (some (.ref p))∧G p = none∧LoD g G H p d
 | _,_=>True
def Dm:Option Sl→Prop
 | some (.ow _)=>True
 | some (.bo _)=>True
 | _=>False
def Rt (σ:L2.St) (e:Ve) (i:Nat) (p:Addr):Prop:=Dm e[i]?∧σ[i]? = some (some (.ref p))
def Qk:HO→Bool
 | .dK _=>true
 | _=>false
structure Bs (G H:Hp):Prop where
 pl:∀ a o u,G a≠some (.frz o u)
 sub:∀ a u,G a = some u→H a = some u∨(Qk u = true∧∃ o,H a = some (.frz o u))
def Tabs2 (T:List (Addr × Str)) (G H:Hp):Prop:=∀ p∈T,∃ ps:Array Value,H p.1 = some (.tbl ps)∧G p.1 = none∧TriplesOk ps.toList∧∀ (pos:Pos) (cv:Value),codeAmong pos ps.toList = some cv→∃ c,cv = .ref c∧G c = some (LamX.CodeO c p.2)
theorem Tabs2.mono {T:List (Addr × Str)} {G G' H:Hp} (t:Tabs2 T G H) (h:Le G G') (hn:∀ a ps,H a = some (.tbl ps)→G a = none→G' a = none):Tabs2 T G' H:=fun q hq=>by
 obtain ⟨ps,h1,hg,h2,h3⟩:=t q hq
 refine ⟨ps,h1,hn _ _ h1 hg,h2,fun pos cv hc=>?_⟩
 obtain ⟨c,e1,e2⟩:=h3 pos cv hc
 exact ⟨c,e1,h _ _ e2⟩
theorem Tabs2.kept {T:List (Addr × Str)} {G H H':Hp} (t:Tabs2 T G H) (h:∀ a ps,H a = some (.tbl ps)→H' a = some (.tbl ps)):Tabs2 T G H':=fun q hq=>by
 obtain ⟨ps,h1,hg,h2,h3⟩:=t q hq
 exact ⟨ps,h _ _ h1,hg,h2,h3⟩
theorem Tabs2.tabs {T:List (Addr × Str)} {G H:Hp} (t:Tabs2 T G H) (b:∀ a u,G a = some u→H a = some u∨(Qk u = true∧∃ o,H a = some (.frz o u))):LamX.Tabs T H:=fun q hq=>by
 obtain ⟨ps,h1,hg,h2,h3⟩:=t q hq
 refine ⟨ps,h1,h2,fun pos cv hc=>?_⟩
 obtain ⟨c,e1,e2⟩:=h3 pos cv hc
 rcases b _ _ e2 with z | ⟨z,_⟩
 ·exact ⟨c,e1,z⟩
 ·cases z
def ScrOk (g:Gm) (G H:Hp):Prop:=(∃ o,H g.sa = some (.frz o (.lst (g.sn.map .int))))∨(∀ H',SqL g.K H' g.sa (g.sn.map .int))∨G g.sa = some (.lst (g.sn.map .int))
theorem ScrOk.keep {g:Gm} {G H H':Hp} (k:∀ o u,H g.sa = some (.frz o (.lst u))→H' g.sa = some (.frz o (.lst u))):ScrOk g G H→ScrOk g G H'
 | .inl ⟨o,h⟩=>.inl ⟨o,k _ _ h⟩
 | .inr h=>.inr h
theorem ScrOk.mono {g:Gm} {G G' H:Hp} (le:Le G G'):ScrOk g G H→ScrOk g G' H
 | .inl h=>.inl h
 | .inr (.inl h)=>.inr (.inl h)
 | .inr (.inr h)=>.inr (.inr (le _ _ h))
structure SR (g:Gm) (G H:Hp) (σ:L2.St) (e:Ve):Prop where
 bs:Bs G H
 tabs:Tabs2 g.T.tabs G H
 scr:ScrOk g G H
 len:e.length = σ.length
 slot:∀ i:Nat,SlOk g G H e[i]? σ[i]?
 inj:∀ i j p,Rt σ e i p→Rt σ e j p→i = j
def SlLe:Sl→Sl→Prop
 | .un,s=>s = .un
 | .sh d,s=>s = .sh d
 | .bf d,s=>s = .bf d
 | .lo d,s=>s = .lo d
 | .ow _,s=>∃ d,s = .ow d∨s = .sh d
 | .bo _,s=>∃ d,s = .bo d∨s = .bf d
structure VeLe (e e':Ve):Prop where
 len:e'.length = e.length
 at_:∀ (i:Nat) s,e[i]? = some s→∃ s',e'[i]? = some s'∧SlLe s s'
def Oa:Sl→Bool
 | .bf _=>true
 | .lo _=>true
 | _=>false
structure St (g:Gm) (G H:Hp) (σ:L2.St) (e:Ve) (G' H':Hp) (σ':L2.St) (e':Ve):Prop where
 sr:SR g G' H' σ' e'
 ln:e'.length = e.length
 le:Le G G'
 keep:∀ a o,H a = some o→(∀ i,¬ Rt σ e i a)→(∀ ps,o≠.tbl ps)→H' a = some o
 dom:∀ a,H' a = none→H a = none
 new:∀ a,G a = none→H a≠none→(∀ i,¬ Rt σ e i a)→G' a = none
 rts:∀ i p,Rt σ' e' i p→(∃ j,Rt σ e j p)∨H p = none
 rto:∀ (i:Nat) d p,e'[i]? = some (.ow d)→σ'[i]? = some (some (.ref p))→(∃ (j:Nat) (d0:D),e[j]? = some (.ow d0)∧σ[j]? = some (some (.ref p)))∨H p = none
 bor:∀ (i:Nat) d,e[i]? = some (.bo d)→σ'[i]? = σ[i]?∧∃ d',e'[i]? = some (.bo d')∨e'[i]? = some (.bf d')
 bof:∀ (i:Nat) s,e[i]? = some s→Oa s = true→σ'[i]? = σ[i]?∧e'[i]? = some s
 nlo:∀ (i:Nat) d,e'[i]? = some (.lo d)→e[i]? = some (.lo d)
structure Tr (g:Gm) (σ:L2.St) (G H:Hp) (e:Ve) (G' H':Hp) (e':Ve):Prop where
 sr:SR g G' H' σ e'
 le:Le G G'
 keep:∀ a o,H a = some o→(∀ i,¬ Rt σ e i a)→(∀ ps,o≠.tbl ps)→H' a = some o
 dom:∀ a,H' a = none→H a = none
 new:∀ a,G a = none→H a≠none→(∀ i,¬ Rt σ e i a)→G' a = none
 ve:VeLe e e'
section
variable {g:Gm} {G H G1 H1 G2 H2:Hp} {σ σ1 σ2:L2.St} {e e1 e2:Ve}
theorem Oc {s s':Sl} (h:SlLe s s') (o:Dm (some s')):Dm (some s):=by
 cases s with
 | un=>cases h; exact o
 | sh d=>cases h; exact o
 | bf d=>cases h; exact o
 | lo d=>cases h; exact o
 | ow d=>trivial
 | bo d=>trivial
theorem VeLe.refl (e:Ve):VeLe e e:=⟨rfl,fun i s h=>⟨s,h,by cases s <;> simp [SlLe]⟩⟩
theorem SlLe.trans {a b c:Sl} (h:SlLe a b) (k:SlLe b c):SlLe a c:=by
 cases a with
 | un=>cases h; exact k
 | sh d=>cases h; exact k
 | bf d=>cases h; exact k
 | lo d=>cases h; exact k
 | ow d =>
  obtain ⟨d1,rfl | rfl⟩:=h
  ·exact k
  ·cases k; exact ⟨_,.inr rfl⟩
 | bo d =>
  obtain ⟨d1,rfl | rfl⟩:=h
  ·exact k
  ·cases k; exact ⟨_,.inr rfl⟩
theorem VeLe.trans (a:VeLe e e1) (b:VeLe e1 e2):VeLe e e2:=⟨b.len.trans a.len,fun i s h=>by
 obtain ⟨s1,h1,l1⟩:=a.at_ i s h
 obtain ⟨s2,h2,l2⟩:=b.at_ i s1 h1
 exact ⟨s2,h2,l1.trans l2⟩⟩
theorem VeLe.rt (v:VeLe e e1) {i:Nat} {p:Addr} (r:Rt σ e1 i p):Rt σ e i p:=by
 refine ⟨?_,r.2⟩
 cases q:e[i]? with
 | none =>
  have h1:e1[i]? = none:=by
   rw [List.getElem?_eq_none_iff] at q ⊢
   rw [v.len]; exact q
  have:=r.1
  rw [h1] at this
  exact this.elim
 | some s =>
  obtain ⟨s',h1,l⟩:=v.at_ i s q
  have:=r.1
  rw [h1] at this
  exact Oc l this
theorem VeLe.owB (v:VeLe e e1) {i:Nat} {d:D} {p:Addr} (h1:e1[i]? = some (.ow d)) (h2:σ[i]? = some (some (.ref p))):∃ (j:Nat) (d0:D),e[j]? = some (.ow d0)∧σ[j]? = some (some (.ref p)):=by
 cases q:e[i]? with
 | none =>
  rw [List.getElem?_eq_none_iff,← v.len,← List.getElem?_eq_none_iff] at q
  rw [q] at h1; cases h1
 | some s =>
  obtain ⟨s',h',l⟩:=v.at_ i s q
  rw [h1] at h'; cases h'
  cases s with
  | un=>cases l
  | sh d=>cases l
  | bf d=>cases l
  | lo d=>cases l
  | ow d0=>exact ⟨i,d0,q,h2⟩
  | bo d0=>obtain ⟨d',z | z⟩:=l <;> cases z
theorem VeLe.nlo (v:VeLe e e1) {i:Nat} {d:D} (h1:e1[i]? = some (.lo d)):e[i]? = some (.lo d):=by
 cases q:e[i]? with
 | none =>
  rw [List.getElem?_eq_none_iff,← v.len,← List.getElem?_eq_none_iff] at q
  rw [q] at h1; cases h1
 | some s =>
  obtain ⟨s',h',l⟩:=v.at_ i s q
  rw [h1] at h'; cases h'
  cases s with
  | un=>cases l
  | sh d=>cases l
  | bf d=>cases l
  | lo d=>cases l; rfl
  | ow d0=>obtain ⟨d',z | z⟩:=l <;> cases z
  | bo d0=>obtain ⟨d',z | z⟩:=l <;> cases z
theorem Tr.refl (s:SR g G H σ e):Tr g σ G H e G H e:=⟨s,Le.refl G,fun _ _ h _ _=>h,fun _ h=>h,fun _ h _ _=>h,VeLe.refl e⟩
theorem Tr.trans (a:Tr g σ G H e G1 H1 e1) (b:Tr g σ G1 H1 e1 G2 H2 e2):Tr g σ G H e G2 H2 e2 :=
 ⟨b.sr,a.le.trans b.le,fun x o h n nt=>b.keep x o (a.keep x o h n nt) (fun i r=>n i (a.ve.rt r)) nt,fun x h=>a.dom x (b.dom x h),fun x h1 h2 n=>by
  exact b.new x (a.new x h1 h2 n) (fun z=>h2 (a.dom x z)) fun i r=>n i (a.ve.rt r),a.ve.trans b.ve⟩
theorem Tr.st (a:Tr g σ G H e G1 H1 e1):St g G H σ e G1 H1 σ e1 :=
 ⟨a.sr,a.ve.len,a.le,a.keep,a.dom,a.new,fun i p r=>.inl ⟨i,a.ve.rt r⟩,fun i d p h1 h2=>.inl (a.ve.owB h1 h2),fun i d h=>⟨rfl,by
  obtain ⟨s',h1,d',l⟩:=a.ve.at_ i _ h
  rcases l with rfl | rfl
  ·exact ⟨d',.inl h1⟩
  ·exact ⟨d',.inr h1⟩⟩,fun i s h fx=>⟨rfl,by
  obtain ⟨s',h1,l⟩:=a.ve.at_ i _ h
  cases s with
  | bf d=>cases l; exact h1
  | lo d=>cases l; exact h1
  | _=>cases fx⟩,fun i d h=>a.ve.nlo h⟩
theorem St.refl (s:SR g G H σ e):St g G H σ e G H σ e:=(Tr.refl s).st
theorem St.trans (a:St g G H σ e G1 H1 σ1 e1) (b:St g G1 H1 σ1 e1 G2 H2 σ2 e2):St g G H σ e G2 H2 σ2 e2:=by
 have nr:∀ x o,H x = some o→(∀ i,¬ Rt σ e i x)→∀ i,¬ Rt σ1 e1 i x:=fun x o h n i r=>by
  rcases a.rts i x r with ⟨j,q⟩ | q
  ·exact n j q
  ·rw [h] at q; cases q
 refine ⟨b.sr,b.ln.trans a.ln,a.le.trans b.le,fun x o h n nt=>b.keep x o (a.keep x o h n nt) (nr x o h n) nt,fun x h=>a.dom x (b.dom x h),fun x h1 h2 n=>?_,fun i p r=>?_,fun i d p h1 h2=>?_,fun i d h=>?_,fun i s h fx=>?_,fun i d h=>a.nlo i d (b.nlo i d h)⟩
 ·obtain ⟨o,ho⟩:=Option.ne_none_iff_exists'.mp h2
  exact b.new x (a.new x h1 h2 n) (fun z=>h2 (a.dom x z)) (nr x o ho n)
 ·rcases b.rts i p r with ⟨j,q⟩ | q
  ·exact a.rts j p q
  ·exact .inr (a.dom p q)
 ·rcases b.rto i d p h1 h2 with ⟨j,d0,x,y⟩ | x
  ·exact a.rto j d0 p x y
  ·exact .inr (a.dom p x)
 ·obtain ⟨x1,d1,y1⟩:=a.bor i d h
  rcases y1 with y1 | y1
  ·obtain ⟨x2,y2⟩:=b.bor i d1 y1
   exact ⟨x2.trans x1,y2⟩
  ·obtain ⟨x2,y2⟩:=b.bof i _ y1 rfl
   exact ⟨x2.trans x1,d1,.inr y2⟩
 ·obtain ⟨x1,y1⟩:=a.bof i s h fx
  obtain ⟨x2,y2⟩:=b.bof i s y1 fx
  exact ⟨x2.trans x1,y2⟩
theorem Bs.hn (b:Bs G H) {p:Addr} (h:H p = none):G p = none:=by
 cases q:G p with
 | none=>rfl
 | some u =>
  rcases b.sub p u q with z | ⟨_,o,z⟩
  ·rw [h] at z; cases z
  ·rw [h] at z; cases z
theorem Bs.rd (b:Bs G H) {p:Addr} {u:HO} (h:Rd G p u):Rd H p u:=by
 rcases h with h | ⟨o,h⟩
 ·rcases b.sub p u h with z | ⟨_,o,z⟩
  ·exact .inl z
  ·exact .inr ⟨o,z⟩
 ·exact absurd h (b.pl p o u)
theorem Bs.sqL {K:PySem.W.Frag} (b:Bs G H) {a:Addr} {vs:List V} (h:SqL K G a vs):SqL K H a vs:=by
 rcases h with h | h
 ·exact .inl (b.rd h)
 ·exact .inr h
theorem Bs.sqT {K:PySem.W.Frag} (b:Bs G H) {a:Addr} {vs:List V} (h:SqT K G a vs):SqT K H a vs:=by
 rcases h with h | h
 ·exact .inl (b.rd h)
 ·exact .inr h
theorem Bs.at_ (b:Bs G H) {a:Addr} {u:HO} (h:G a = some u) (c:Qk u = false):H a = some u:=by
 rcases b.sub a u h with z | ⟨z,_⟩
 ·exact z
 ·rw [c] at z; cases z
theorem Bs.lay (b:Bs G H) {p:Addr} {o:HO} (h:H p = none):Bs G (upd H p o):=⟨b.pl,fun a u e=>by
 have n:a≠p:=fun z=>by rw [z,b.hn h] at e; cases e
 rw [upd_ne n]
 exact b.sub a u e⟩
theorem Bs.lay2 (b:Bs G H) {p:Addr} {o:HO} (h:H p = none) (hf:∀ ob u,o≠.frz ob u):Bs (upd G p o) (upd H p o):=by
 refine ⟨fun a ob u e=>?_,fun a u e=>?_⟩
 ·by_cases z:a = p
  ·rw [z,upd_same] at e; exact hf ob u (Option.some.inj e)
  ·rw [upd_ne z] at e; exact b.pl a ob u e
 ·by_cases z:a = p
  ·subst z; rw [upd_same] at e ⊢; exact .inl e
  ·rw [upd_ne z] at e ⊢; exact b.sub a u e
theorem Bs.frz (b:Bs G H) {p:Addr} {o:HO} (h:H p = some o) (hf:∀ ob u,o≠.frz ob u):Bs (upd G p o) H:=by
 refine ⟨fun a ob u e=>?_,fun a u e=>?_⟩
 ·by_cases z:a = p
  ·rw [z,upd_same] at e; exact hf ob u (Option.some.inj e)
  ·rw [upd_ne z] at e; exact b.pl a ob u e
 ·by_cases z:a = p
  ·subst z; rw [upd_same] at e; rw [← Option.some.inj e]; exact .inl h
  ·rw [upd_ne z] at e; exact b.sub a u e
structure Grow (G H G' H':Hp):Prop where
 bs:Bs G' H'
 le:Le G G'
 keep:∀ a o,H a = some o→H' a = some o
 new:∀ a,G a = none→H a≠none→G' a = none
theorem Grow.dom (w:Grow G H G1 H1) (a:Addr) (h:H1 a = none):H a = none:=by
 cases q:H a with
 | none=>rfl
 | some o=>rw [w.keep a o q] at h; cases h
theorem Grow.refl (b:Bs G H):Grow G H G H:=⟨b,Le.refl G,fun _ _ h=>h,fun _ h _=>h⟩
theorem Grow.trans (a:Grow G H G1 H1) (b:Grow G1 H1 G2 H2):Grow G H G2 H2:=⟨b.bs,a.le.trans b.le,fun x o h=>b.keep x o (a.keep x o h),fun x h1 h2=>by
 obtain ⟨o,ho⟩:=Option.ne_none_iff_exists'.mp h2
 exact b.new x (a.new x h1 h2) (by rw [a.keep x o ho]; exact fun z=>nomatch z)⟩
theorem Grow.lay (b:Bs G H) {p:Addr} {o:HO} (h:H p = none):Grow G H G (upd H p o):=⟨b.lay h,Le.refl G,fun a u e=>by rw [upd_ne (ne_of_none e h)]; exact e,fun _ h _=>h⟩
theorem Grow.lay2 (b:Bs G H) {p:Addr} {o:HO} (h:H p = none) (hf:∀ ob u,o≠.frz ob u):Grow G H (upd G p o) (upd H p o) :=
 ⟨b.lay2 h hf,Le.upd (b.hn h),fun a u e=>by rw [upd_ne (ne_of_none e h)]; exact e,fun a h1 h2=>by rw [upd_ne (fun z=>h2 (by rw [z]; exact h))]; exact h1⟩
end
def RvOk (g:Gm) (G H:Hp) (σ:L2.St) (e:Ve) (H0:Hp):Rv→V→Prop
 | .val d,v=>Rep g G d v
 | .slot i,v=>σ[i]? = some (some v)∧∃ s,e[i]? = some s∧s≠.un
 | .fresh d,v=>∃ p,v = .ref p∧G p = none∧Own g G H p d∧H0 p = none∧∀ i,¬ Rt σ e i p
theorem RvOk.h0 {g:Gm} {G H H0 H00:Hp} {σ:L2.St} {e:Ve} (k:∀ p,H0 p = none→H00 p = none):∀ {r:Rv} {v:V},RvOk g G H σ e H0 r v→RvOk g G H σ e H00 r v
 | .val d,_,h=>h
 | .slot i,_,h=>h
 | .fresh d,_,⟨p,ev,n,o,h0,nr⟩=>⟨p,ev,n,o,k p h0,nr⟩
def XOk (g:Gm) (G:Hp) (x:Exn) (cls:Value) (d:Option Addr):Prop :=
 cls = .ref (g.ca x.1)∧((d = none∧x.2 = [])∨∃ da fs,d = some da∧G da = some (.xd fs)∧RepF g G x.2 fs)
def Pst {α:Type} (g:Gm) (W:WX) (σ:L2.St) (G H:Hp) (e:Ve) (R:α→Hp→Hp→Ve→Prop):Res α→Prop
 | .ok a e'=>∀ G' H',Tr g σ G H e G' H' e'→R a G' H' e'
 | .er x e'=>∀ cls d G' H',Tr g σ G H e G' H' e'→XOk g G' x cls d→W cls d σ H'
 | .no=>False
def M.bind {α β:Type} (f:M α) (k:α→M β):M β:=fun e=>match f e with
 | .ok a e'=>k a e'
 | .er x e'=>.er x e'
 | .no=>.no
def M.ret {α:Type} (a:α):M α:=fun e=>.ok a e
def M.map {α β:Type} (f:M α) (k:α→β):M β:=M.bind f fun a=>M.ret (k a)
section
variable {g:Gm} {W:WX} {σ:L2.St} {G H:Hp} {e:Ve} {α β:Type}
theorem Pst.mono {R R':α→Hp→Hp→Ve→Prop} {r:Res α} (h:Pst g W σ G H e R r) (k:∀ a G' H' e',Tr g σ G H e G' H' e'→R a G' H' e'→R' a G' H' e'):Pst g W σ G H e R' r:=by
 cases r with
 | ok a e'=>exact fun G' H' t=>k a G' H' e' t (h G' H' t)
 | er x e'=>exact h
 | no=>exact h
theorem Pst.bind {R:β→Hp→Hp→Ve→Prop} {f:M α} {k:α→M β} (h:Pst g W σ G H e R (M.bind f k e)):Pst g W σ G H e (fun a G1 H1 e1=>Pst g W σ G1 H1 e1 (fun b G2 H2 e2=>R b G2 H2 e2) (k a e1)) (f e):=by
 unfold M.bind at h
 revert h
 cases f e with
 | no=>exact fun h=>h
 | er x e'=>exact fun h=>h
 | ok a e1 =>
  intro h G1 H1 t1
  show Pst g W σ G1 H1 e1 _ (k a e1)
  have h:Pst g W σ G H e R (k a e1):=h
  revert h
  cases k a e1 with
  | no=>exact fun h=>h
  | er x e'=>exact fun h cls d G' H' t2=>h cls d G' H' (t1.trans t2)
  | ok b e2=>exact fun h G' H' t2=>h G' H' (t1.trans t2)
end
def RvsOk (g:Gm) (G H:Hp) (σ:L2.St) (e:Ve) (H0:Hp):List Rv→List V→Prop
 | [],vs=>vs = []
 | r :: rs,vs=>∃ v t,vs = v :: t∧RvOk g G H σ e H0 r v∧RvsOk g G H σ e H0 rs t∧∀ d p,r = .fresh d→v = .ref p→∀ d' u,(.fresh d',u)∈rs.zip t→u≠.ref p
inductive Ctl where
 | nx | rt (r:Rv) | bk | ct
end Vs
set_option maxRecDepth 100000
set_option maxHeartbeats 2000000
namespace Vs
open PySem PySem.Spec PyProof.Rows L2 Fw SX
structure Rm (k:Nat) (A:Around):Prop extends Room k A where
 gd:A.guards = some []
theorem Rm.mono {j k:Nat} {A:Around} (r:Rm k A) (h:j≤k):Rm j A:=⟨r.toRoom.mono h,r.gd⟩
theorem Aaz {A:Around} {C:Addr} {us:List Value} {kw:List (Str × Value)}:(A.under (.builtin "type.__call__" ⟨.ref C :: us,kw⟩)).guards = pushGuards [] A.guards:=by
 first | rfl | simp [Around.under,Code.guards,Code.isGuard,guardIds]
theorem Rm.make {k:Nat} {A:Around} (r:Rm (k + 1) A) (C:Addr) (us:List Value) (kw:List (Str × Value)):Rm k (A.under (.builtin "type.__call__" ⟨.ref C :: us,kw⟩)):=⟨r.toRoom.make C us kw,by rw [Aaz,r.gd]; rfl⟩
structure Cd (g:Gm) (W:WX) (k:Nat) (X:Cx):Prop where
 K:X.K = g.K
 w:X.w = g.w
 calm:X.calm = true
 tk:Takes X W
 room:Rm k X.A
 po:PassesOwn (model X.prog X.w) X.A X.env X.xe
 nd:X.N.Nodup
theorem PE.imp {X:Cx} {e:Expr} {t t':TE} (h:PE X e t) (k:∀ σ H Q,t' σ H Q→t σ H Q):PE X e t':=⟨fun pins s σ H Q I q=>h.run pins s σ H Q I (k σ H Q q)⟩
theorem PT.imp {X:Cx} {e:Expr} {t t':TT} (h:PT X e t) (k:∀ σ H Q,t' σ H Q→t σ H Q):PT X e t':=⟨fun pins s σ H Q I q=>h.run pins s σ H Q I (k σ H Q q)⟩
theorem PA.imp {X:Cx} {e:List Expr} {t t':TA} (h:PA X e t) (k:∀ σ H Q,t' σ H Q→t σ H Q):PA X e t':=⟨fun pos pins s σ H Q I q=>h.run pos pins s σ H Q I (k σ H Q q)⟩
theorem PS.imp {X:Cx} {st:Stmt} {t t':TS} (h:PS X st t) (k:∀ D σ H,t' D σ H→t D σ H):PS X st t':=⟨fun pins s σ H D I q=>h.run pins s σ H D I (k D σ H q)⟩
theorem PSs.imp {X:Cx} {st:List Stmt} {t t':TS} (h:PSs X st t) (k:∀ D σ H,t' D σ H→t D σ H):PSs X st t':=⟨fun pins s σ H D I q=>h.run pins s σ H D I (k D σ H q)⟩
section
variable {g:Gm} {W:WX} {k:Nat} {X:Cx}
end
def Bq (r:Rv):M D:=fun e=>match r with
 | .val d=>.ok d e
 | .fresh d=>.ok d e
 | .slot i=>match e[i]? with
  | some (.sh d)=>.ok d e
  | some (.bf d)=>.ok d e
  | some (.ow d)=>.ok d (e.set i (.sh d))
  | some (.bo d)=>.ok d (e.set i (.bf d))
  | _=>.no
def RepH (g:Gm) (G H:Hp) (d:D) (v:V):Prop:=Rep g G d v∨∃ p,v = .ref p∧G p = none∧OwnR g G H p d
section
variable {g:Gm} {W:WX} {k:Nat} {X:Cx} {G H G1 H1 H0:Hp} {σ:L2.St} {e e1 e2:Ve} {r:Rv} {v:V} {d:D}
theorem getElem?_set' {α:Type} (l:List α) (i j:Nat) (a:α):(l.set i a)[j]? = if i = j∧i < l.length then some a else l[j]?:=by
 by_cases h:i = j
 ·subst h
  by_cases h2:i < l.length
  ·rw [List.getElem?_set_self h2,if_pos ⟨rfl,h2⟩]
  ·rw [if_neg (fun z=>h2 z.2),List.getElem?_eq_none (by simpa using h2),List.getElem?_eq_none (by omega)]
 ·rw [List.getElem?_set_ne h,if_neg (fun z=>h z.1)]
theorem Bj {α:Type} {l:List α} {i:Nat} {a:α} (h:l[i]? = some a):i < l.length:=(List.getElem?_eq_some_iff.mp h).1
theorem SR.frz {i:Nat} {s:Sl} (sr:SR g G H σ e) (hi:e[i]? = some s) (s':Sl) (hs:(s = .ow d∧s' = .sh d)∨(s = .bo d∧s' = .bf d)):∃ p o,σ[i]? = some (some (.ref p))∧H p = some o∧Pln o∧G p = none∧Rep g (upd G p o) d (.ref p)∧SR g (upd G p o) H σ (e.set i s')∧VeLe e (e.set i s'):=by
 have sl:=sr.slot i
 rw [hi] at sl
 have sl2:∃ p,σ[i]? = some (some (.ref p))∧G p = none∧Own g G H p d:=by
  rcases hs with ⟨rfl,_⟩ | ⟨rfl,_⟩
  ·exact sl
  ·exact sl
 obtain ⟨p,ep,n,o⟩:=sl2
 obtain ⟨ob,ho,nf,mk⟩:=o.there
 have le:=Le.upd (o:=ob) n
 have rp:=mk le upd_same
 have hlt:=Bj hi
 have rti:Rt σ e i p:=by
  refine ⟨?_,ep⟩
  rw [hi]
  rcases hs with ⟨rfl,_⟩ | ⟨rfl,_⟩ <;> trivial
 have hns:¬ Dm (some s'):=by
  rcases hs with ⟨_,rfl⟩ | ⟨_,rfl⟩ <;> exact fun z=>z
 have nrt:∀ j q,Rt σ (e.set i s') j q→Rt σ e j q∧j≠i:=fun j q r=>by
  have h1:=r.1
  rw [getElem?_set'] at h1
  by_cases hj:i = j
  ·subst hj
   rw [if_pos ⟨rfl,hlt⟩] at h1
   exact absurd h1 hns
  ·rw [if_neg (fun z=>hj z.1)] at h1
   exact ⟨⟨h1,r.2⟩,fun z=>hj z.symm⟩
 refine ⟨p,ob,ep,ho,nf,n,rp,⟨sr.bs.frz ho nf.nf,sr.tabs.mono (Le.upd n) (fun a ps e m=>by rw [upd_ne (fun z=>by rw [z,ho] at e; exact nf.nt ps (Option.some.inj e))]; exact m),sr.scr.mono (Le.upd n),by rw [List.length_set]; exact sr.len,fun j=>?_,fun j l q a b=>sr.inj j l q (nrt j q a).1 (nrt l q b).1⟩,⟨by rw [List.length_set],fun j t ht=>?_⟩⟩
 ·by_cases hj:i = j
  ·subst hj
   rw [getElem?_set',if_pos ⟨rfl,hlt⟩]
   rcases hs with ⟨_,rfl⟩ | ⟨_,rfl⟩
   ·exact ⟨_,ep,rp⟩
   ·exact ⟨_,ep,rp⟩
  ·rw [getElem?_set',if_neg (fun z=>hj z.1)]
   have slj:=sr.slot j
   cases q:e[j]? with
   | none=>trivial
   | some t =>
    rw [q] at slj
    have ne:∀ p',Rt σ e j p'→p'≠p:=fun p' r z=>by
     subst z
     exact hj (sr.inj i j p' rti r)
    cases t with
    | un=>trivial
    | sh d=>obtain ⟨v,ev,r⟩:=slj; exact ⟨v,ev,r.mono le⟩
    | bf d=>obtain ⟨v,ev,r⟩:=slj; exact ⟨v,ev,r.mono le⟩
    | lo d =>
     obtain ⟨p',ev,n',r⟩:=slj
     obtain ⟨ob',u',ho',_⟩:=r.there
     exact ⟨p',ev,by rw [upd_ne (fun z=>by rw [z,ho] at ho'; exact nf.nf _ _ (Option.some.inj ho'))]; exact n',r.mono le rfl⟩
    | ow d=>obtain ⟨p',ev,n',r⟩:=slj; exact ⟨p',ev,by rw [upd_ne (ne p' ⟨by rw [q]; trivial,ev⟩)]; exact n',r.mono le rfl⟩
    | bo d=>obtain ⟨p',ev,n',r⟩:=slj; exact ⟨p',ev,by rw [upd_ne (ne p' ⟨by rw [q]; trivial,ev⟩)]; exact n',r.mono le rfl⟩
 ·by_cases hj:i = j
  ·subst hj
   rw [hi] at ht
   cases ht
   refine ⟨s',by rw [getElem?_set',if_pos ⟨rfl,hlt⟩],?_⟩
   rcases hs with ⟨rfl,rfl⟩ | ⟨rfl,rfl⟩
   ·exact ⟨d,.inr rfl⟩
   ·exact ⟨d,.inr rfl⟩
  ·refine ⟨t,by rw [getElem?_set',if_neg (fun z=>hj z.1)]; exact ht,?_⟩
   cases t <;> simp [SlLe]
theorem Mh (t:Tr g σ G H e G1 H1 e1) (ok:RvOk g G1 H1 σ e1 H r v) (h:Bq r e1 = .ok d e2):∃ G2,Tr g σ G H e G2 H1 e2∧Rep g G2 d v:=by
 cases r with
 | val d'=>cases h; exact ⟨G1,t,ok⟩
 | fresh d' =>
  cases h
  obtain ⟨p,ev,n,o,h0,nr⟩:=ok
  obtain ⟨ob,ho,nf,mk⟩:=o.there
  have le:=Le.upd (o:=ob) n
  have gr:SR g (upd G1 p ob) H1 σ e1:=by
   refine ⟨t.sr.bs.frz ho nf.nf,t.sr.tabs.mono (Le.upd n) (fun a ps e m=>by rw [upd_ne (fun z=>by rw [z,ho] at e; exact nf.nt ps (Option.some.inj e))]; exact m),t.sr.scr.mono (Le.upd n),t.sr.len,fun j=>?_,t.sr.inj⟩
   have slj:=t.sr.slot j
   cases q:e1[j]? with
   | none=>trivial
   | some s =>
    rw [q] at slj
    have ne:∀ p',Rt σ e1 j p'→p'≠p:=fun p' r z=>nr j (z ▸ r)
    cases s with
    | un=>trivial
    | sh d=>obtain ⟨v,ev,r⟩:=slj; exact ⟨v,ev,r.mono le⟩
    | bf d=>obtain ⟨v,ev,r⟩:=slj; exact ⟨v,ev,r.mono le⟩
    | lo d =>
     obtain ⟨p',ev,n',r⟩:=slj
     obtain ⟨ob',u',ho',_⟩:=r.there
     exact ⟨p',ev,by rw [upd_ne (fun z=>by rw [z,ho] at ho'; exact nf.nf _ _ (Option.some.inj ho'))]; exact n',r.mono le rfl⟩
    | ow d=>obtain ⟨p',ev,n',r⟩:=slj; exact ⟨p',ev,by rw [upd_ne (ne p' ⟨by rw [q]; trivial,ev⟩)]; exact n',r.mono le rfl⟩
    | bo d=>obtain ⟨p',ev,n',r⟩:=slj; exact ⟨p',ev,by rw [upd_ne (ne p' ⟨by rw [q]; trivial,ev⟩)]; exact n',r.mono le rfl⟩
  refine ⟨upd G1 p ob,⟨gr,t.le.trans le,t.keep,t.dom,fun a h1 h2 h3=>?_,t.ve⟩,?_⟩
  ·rw [upd_ne (fun z=>h2 (by rw [z]; exact h0))]; exact t.new a h1 h2 h3
  ·rw [ev]; exact mk le upd_same
 | slot i =>
  obtain ⟨ev,s,es,ns⟩:=ok
  have sl:=t.sr.slot i
  unfold Bq at h
  simp only at h
  rw [es] at h sl
  have fin:∀ s',((s = .ow d∧s' = .sh d)∨(s = .bo d∧s' = .bf d))→e2 = e1.set i s'→∃ G2,Tr g σ G H e G2 H1 e2∧Rep g G2 d v:=fun s' hs he=>by
   subst he
   obtain ⟨p,ob,ep,ho,nf,n,rp,sr2,ve2⟩:=t.sr.frz es s' hs
   have rti:Rt σ e1 i p:=by
    refine ⟨?_,ep⟩
    rw [es]
    rcases hs with ⟨rfl,_⟩ | ⟨rfl,_⟩ <;> trivial
   rw [ep] at ev
   cases ev
   refine ⟨upd G1 p ob,⟨sr2,t.le.trans (Le.upd n),t.keep,t.dom,fun a h1 h2 h3=>?_,t.ve.trans ve2⟩,rp⟩
   rw [upd_ne (fun z=>h3 i (t.ve.rt (by rw [z]; exact rti)))]; exact t.new a h1 h2 h3
  cases s with
  | un=>exact absurd rfl ns
  | sh d' =>
   cases h
   obtain ⟨v',ev',r'⟩:=sl
   rw [ev'] at ev
   cases ev
   exact ⟨G1,t,r'⟩
  | bf d' =>
   cases h
   obtain ⟨v',ev',r'⟩:=sl
   rw [ev'] at ev
   cases ev
   exact ⟨G1,t,r'⟩
  | ow d'=>cases h; exact fin _ (.inl ⟨rfl,rfl⟩) rfl
  | bo d'=>cases h; exact fin _ (.inr ⟨rfl,rfl⟩) rfl
  | lo d'=>cases h
end
def RvNew (g:Gm) (G H H0:Hp):Rv→V→Prop
 | .val d,v=>Rep g G d v
 | .fresh d,v=>∃ p,v = .ref p∧G p = none∧Own g G H p d∧H0 p = none
 | .slot _,_=>False
theorem SR.root {g:Gm} {G H:Hp} {σ:L2.St} {e:Ve} (sr:SR g G H σ e) {i:Nat} {p:Addr} (r:Rt σ e i p):G p = none∧H p≠none:=by
 obtain ⟨o,ev⟩:=r
 have sl:=sr.slot i
 cases q:e[i]? with
 | none=>rw [q] at o; exact o.elim
 | some s =>
  rw [q] at o sl
  cases s with
  | un=>exact o.elim
  | sh d=>exact o.elim
  | bf d=>exact o.elim
  | lo d=>exact o.elim
  | ow d =>
   obtain ⟨p',ev',n,ow⟩:=sl
   rw [ev'] at ev; cases ev
   obtain ⟨ob,ho,_⟩:=ow.there
   exact ⟨n,by rw [ho]; exact fun z=>nomatch z⟩
  | bo d =>
   obtain ⟨p',ev',n,ow⟩:=sl
   rw [ev'] at ev; cases ev
   obtain ⟨ob,ho,_⟩:=ow.there
   exact ⟨n,by rw [ho]; exact fun z=>nomatch z⟩
theorem RvNew.ok {g:Gm} {G H G1 H1 H0:Hp} {σ:L2.St} {e:Ve} (sr:SR g G H σ e) (k:∀ p,H p = none→H0 p = none):∀ {r:Rv} {v:V},RvNew g G1 H1 H r v→RvOk g G1 H1 σ e H0 r v
 | .val _,_,h=>h
 | .fresh _,_,⟨p,ev,n,o,h0⟩=>⟨p,ev,n,o,k p h0,fun i r=>(sr.root r).2 h0⟩
def OpV (g:Gm) (r:R2) (f:D→D→Option Rv):Prop:=∀ (G H:Hp) (d1 d2:D) (x y:V) (out:Rv) (Q:VK),Bs G H→SqL g.K H g.sa (g.sn.map .int)→RepH g G H d1 x→RepH g G H d2 y→f d1 d2 = some out →
 (∀ v G' H',Grow G H G' H'→RvNew g G' H' H out v→Q v H')→r x y H Q
theorem OpV.or {g:Gm} {r r':R2} {f f' h:D→D→Option Rv} (a:OpV g r f) (b:OpV g r' f') (c:∀ d1 d2 out,h d1 d2 = some out→f d1 d2 = some out∨f' d1 d2 = some out):OpV g (fun x y H Q=>r x y H Q∨r' x y H Q) h:=fun G H d1 d2 x y out Q bs sc p q e k =>
 (c d1 d2 out e).imp (fun z=>a G H d1 d2 x y out Q bs sc p q z k) (fun z=>b G H d1 d2 x y out Q bs sc p q z k)
section
variable {g:Gm} {W:WX} {k:Nat} {X:Cx}
end
section
variable {g:Gm} {W:WX} {k:Nat} {X:Cx}
end
end Vs
set_option maxRecDepth 100000
set_option maxHeartbeats 2000000
namespace Vs
open PySem PySem.Spec PyProof.Rows L2 Fw SX
section
variable {g:Gm} {W:WX} {k:Nat} {X:Cx} {G H G1 H1 H0 H00:Hp} {σ:L2.St} {e e1 e2:Ve}
theorem RvsOk.h0 (q:∀ p,H0 p = none→H00 p = none):∀ {rs:List Rv} {vs:List V},RvsOk g G H σ e H0 rs vs→RvsOk g G H σ e H00 rs vs
 | [],_,h=>h
 | _ :: _,_,⟨v,r,ev,a,b,c⟩=>⟨v,r,ev,a.h0 q,RvsOk.h0 q b,c⟩
theorem RvsOk.new:∀ {rs:List Rv} {vs:List V},RvsOk g G H σ e H0 rs vs→∀ d u,(Rv.fresh d,u)∈rs.zip vs→∃ p,u = .ref p∧H0 p = none
 | [],_,_,d,u,m=>by simp at m
 | r :: rs,_,⟨v,t,rfl,a,b,c⟩,d,u,m=>by
  rcases List.mem_cons.mp m with z | z
  ·cases z
   obtain ⟨p,ev,_,_,h0,_⟩:=a
   exact ⟨p,ev,h0⟩
  ·exact RvsOk.new b d u z
end
def RepsH (g:Gm) (G H:Hp):List D→List V→Prop
 | [],vs=>vs = []
 | d :: ds,vs=>∃ v r,vs = v :: r∧RepH g G H d v∧RepsH g G H ds r
def CallV (g:Gm) (r:List V→Hp→VK→Prop) (f:List D→Option Rv):Prop:=∀ (G H:Hp) (ds:List D) (vs:List V) (out:Rv) (Q:VK),Bs G H→SqL g.K H g.sa (g.sn.map .int)→RepsH g G H ds vs→f ds = some out →
 (∀ v G' H',Grow G H G' H'→RvNew g G' H' H out v→Q v H')→r vs H Q
theorem CallV.or {g:Gm} {r r':List V→Hp→VK→Prop} {f f' h:List D→Option Rv} (a:CallV g r f) (b:CallV g r' f') (c:∀ ds out,h ds = some out→f ds = some out∨f' ds = some out):CallV g (fun xs H Q=>r xs H Q∨r' xs H Q) h:=fun G H ds vs out Q bs sc p e k =>
 (c ds out e).imp (fun z=>a G H ds vs out Q bs sc p z k) (fun z=>b G H ds vs out Q bs sc p z k)
section
variable {g:Gm} {W:WX} {k:Nat} {X:Cx} {G H G1 H1 H0 H00:Hp} {σ:L2.St} {e e1 e2:Ve}
end
section
variable {g:Gm} {W:WX} {k:Nat} {X:Cx} {G H G1 H1 H0 H00:Hp} {σ:L2.St} {e e1 e2:Ve}
theorem Reps.len:∀ {ds:List D} {vs:List V},Reps g G ds vs→vs.length = ds.length
 | [],_,h=>by rw [show _ = [] from h]; rfl
 | d :: ds,_,⟨v,r,e,_,q⟩=>by rw [e,List.length_cons,List.length_cons,Reps.len q]
end
theorem PW.imp {X:Cx} {e:Expr} {t t':TT} (h:PW X e t) (k:∀ σ H Q,t' σ H Q→t σ H Q):PW X e t':=⟨fun wh pins s σ H Q I q=>h.run wh pins s σ H Q I (k σ H Q q)⟩
section
variable {g:Gm} {W:WX} {k:Nat} {X:Cx} {G H G1 H1 H0 H00:Hp} {σ:L2.St} {e e1 e2:Ve} {a b c:Expr} {rest:List Expr} {A B:M Bool} {pos:Pos}
theorem RepH.lst (bs:Bs G H) {ds:List D} {v:V} (h:RepH g G H (.lst ds) v):∃ a vs,v = .ref a∧SqL g.K H a vs∧Reps g G ds vs:=by
 rcases h with ⟨a,vs,e,q,r⟩ | ⟨p,e,n,vs,q,r⟩
 ·exact ⟨a,vs,e,bs.sqL (.of q),r⟩
 ·exact ⟨p,vs,e,.of q,r⟩
theorem RepH.tup (bs:Bs G H) {ds:List D} {v:V} (h:RepH g G H (.tup ds) v):∃ a vs,v = .ref a∧SqT g.K H a vs∧Reps g G ds vs:=by
 rcases h with ⟨a,vs,e,q,r⟩ | ⟨p,e,n,o⟩
 ·exact ⟨a,vs,e,bs.sqT q,r⟩
 ·exact o.elim
theorem RepH.str {l:List Nat} {v:V} (h:RepH g G H (.str l) v):v = .str (S l):=by
 rcases h with h | ⟨p,e,n,o⟩
 ·exact h.1
 ·exact o.elim
theorem RepH.int {i:Int} {v:V} (h:RepH g G H (.int i) v):v = .int i:=by
 rcases h with h | ⟨p,e,n,o⟩
 ·exact h
 ·exact o.elim
theorem RepH.bl {i:Bool} {v:V} (h:RepH g G H (.bl i) v):v = .bl i:=by
 rcases h with h | ⟨p,e,n,o⟩
 ·exact h
 ·exact o.elim
theorem RepH.non {v:V} (h:RepH g G H .non v):v = .non:=by
 rcases h with h | ⟨p,e,n,o⟩
 ·exact h
 ·exact o.elim
theorem RepH.con {u v:V} (h:RepH g G H (.con u) v) (nf:∀ i,u≠.flt i:=by intro i z; cases z):v = u:=by
 rcases h with h | ⟨p,e,n,o⟩
 ·cases u <;> first | exact h | exact absurd rfl (nf _)
 ·exact o.elim
end
end Vs
set_option maxRecDepth 100000
set_option maxHeartbeats 2000000
namespace Vs
open PySem PySem.Spec PyProof.Rows L2 Fw SX
section
variable {g:Gm} {W:WX} {k:Nat} {X:Cx} {G H G1 H1 H0:Hp} {σ σ1:L2.St} {e e1 e2:Ve} {D:Ends}
end
section
variable {g:Gm} {W:WX} {k:Nat} {X:Cx} {st:Stmt} {rest:List Stmt} {ex:Expr} {pos:Pos} {A B:M Ctl}
end
def A0 (e:Ve) (i:Nat):Bool:=match e[i]? with
 | some .un=>true
 | some (.sh _)=>true
 | some (.ow _)=>true
 | _=>false
section
variable {g:Gm} {W:WX} {k:Nat} {X:Cx} {G H G1 H1 H0:Hp} {σ σ1:L2.St} {e e1 e2:Ve} {i:Nat} {d:D} {v:V}
theorem Ks (h:A0 e i = true):i < e.length∧(∀ d,e[i]?≠some (.bo d))∧∀ s,Oa s = true→e[i]?≠some s:=by
 unfold A0 at h
 cases q:e[i]? with
 | none=>rw [q] at h; cases h
 | some s =>
  rw [q] at h
  refine ⟨Bj q,fun d z=>?_,fun s' fx z=>?_⟩
  ·cases z; cases h
  ·cases z
   cases s with
   | bf _=>cases h
   | lo _=>cases h
   | _=>cases fx
theorem SR.sto {s:Sl} (sr:SR g G H σ e) (c:A0 e i = true) (hs:(∃ d,s = .sh d∧Rep g G d v)∨∃ d p,s = .ow d∧v = .ref p∧G p = none∧Own g G H p d∧∀ j,¬ Rt σ e j p):SR g G H (σ.set i (some v)) (e.set i s):=by
 obtain ⟨hlt,nbo,nbf⟩:=Ks c
 have hlt2:i < σ.length:=by rw [← sr.len]; exact hlt
 refine ⟨sr.bs,sr.tabs,sr.scr,by rw [List.length_set,List.length_set]; exact sr.len,fun j=>?_,fun j l p a b=>?_⟩
 ·rw [getElem?_set',getElem?_set']
  by_cases hj:i = j
  ·subst hj
   rw [if_pos ⟨rfl,hlt⟩,if_pos ⟨rfl,hlt2⟩]
   rcases hs with ⟨d,rfl,r⟩ | ⟨d,p,rfl,rfl,n,o,_⟩
   ·exact ⟨v,rfl,r⟩
   ·exact ⟨p,rfl,n,o⟩
  ·rw [if_neg (fun z=>hj z.1),if_neg (fun z=>hj z.1)]
   exact sr.slot j
 ·have at_:∀ j p,Rt (σ.set i (some v)) (e.set i s) j p→(j≠i∧Rt σ e j p)∨(j = i∧v = .ref p∧∀ l,¬ Rt σ e l p):=fun j p r=>by
   obtain ⟨r1,r2⟩:=r
   rw [getElem?_set'] at r1 r2
   by_cases hj:i = j
   ·subst hj
    rw [if_pos ⟨rfl,hlt⟩] at r1
    rw [if_pos ⟨rfl,hlt2⟩] at r2
    cases r2
    rcases hs with ⟨d,rfl,_⟩ | ⟨d,p,rfl,ev,_,_,nr⟩
    ·exact r1.elim
    ·cases ev; exact .inr ⟨rfl,rfl,nr⟩
   ·rw [if_neg (fun z=>hj z.1)] at r1 r2
    exact .inl ⟨fun z=>hj z.symm,r1,r2⟩
  rcases at_ j p a with ⟨n1,r1⟩ | ⟨z1,y1,w1⟩ <;> rcases at_ l p b with ⟨n2,r2⟩ | ⟨z2,y2,w2⟩
  ·exact sr.inj j l p r1 r2
  ·exact absurd r1 (w2 j)
  ·exact absurd r2 (w1 l)
  ·rw [z1,z2]
theorem St.sto {s:Sl} (sr:SR g G H σ e) (c:A0 e i = true) (hs:(∃ d,s = .sh d∧Rep g G d v)∨∃ d p,s = .ow d∧v = .ref p∧G p = none∧Own g G H p d∧∀ j,¬ Rt σ e j p)
  (h0:St g G1 H1 σ1 e1 G H σ e) (nw:∀ d p,s = .ow d→v = .ref p→H1 p = none):St g G1 H1 σ1 e1 G H (σ.set i (some v)) (e.set i s):=by
 obtain ⟨hlt,nbo,nbf⟩:=Ks c
 have hlt2:i < σ.length:=by rw [← sr.len]; exact hlt
 refine ⟨sr.sto c hs,by rw [List.length_set]; exact h0.ln,h0.le,h0.keep,h0.dom,h0.new,fun j p r=>?_,fun j d p r1 r2=>?_,fun j d h=>?_,fun j s0 h fx=>?_,fun j d h=>?_⟩
 ·obtain ⟨r1,r2⟩:=r
  rw [getElem?_set'] at r1 r2
  by_cases hj:i = j
  ·subst hj
   rw [if_pos ⟨rfl,hlt⟩] at r1
   rw [if_pos ⟨rfl,hlt2⟩] at r2
   cases r2
   rcases hs with ⟨d,rfl,_⟩ | ⟨d,p',rfl,ev,_⟩
   ·exact r1.elim
   ·cases ev; exact .inr (nw d p rfl rfl)
  ·rw [if_neg (fun z=>hj z.1)] at r1 r2
   exact h0.rts j p ⟨r1,r2⟩
 ·rw [getElem?_set'] at r1 r2
  by_cases hj:i = j
  ·subst hj
   rw [if_pos ⟨rfl,hlt⟩] at r1
   rw [if_pos ⟨rfl,hlt2⟩] at r2
   cases r2
   exact .inr (nw d p (Option.some.inj r1) rfl)
  ·rw [if_neg (fun z=>hj z.1)] at r1 r2
   exact h0.rto j d p r1 r2
 ·obtain ⟨x,d',y⟩:=h0.bor j d h
  have hj:i≠j:=fun z=>by
   subst z
   rcases y with y | y
   ·exact nbo d' y
   ·exact nbf _ rfl y
  rw [getElem?_set',getElem?_set',if_neg (fun z=>hj z.1),if_neg (fun z=>hj z.1)]
  exact ⟨x,d',y⟩
 ·obtain ⟨x,y⟩:=h0.bof j s0 h fx
  have hj:i≠j:=fun z=>by
   subst z
   exact nbf s0 fx y
  rw [getElem?_set',getElem?_set',if_neg (fun z=>hj z.1),if_neg (fun z=>hj z.1)]
  exact ⟨x,y⟩
 ·rw [getElem?_set'] at h
  by_cases hj:i = j
  ·rw [if_pos ⟨hj,hlt⟩] at h
   rcases hs with ⟨d,rfl,_⟩ | ⟨d,p,rfl,_⟩ <;> cases h
  ·rw [if_neg (fun z=>hj z.1)] at h
   exact h0.nlo j d h
end
section
variable {g:Gm} {X:Cx} {i:Nat}
end
section
variable {g:Gm} {W:WX} {k:Nat} {X:Cx}
end
end Vs
set_option maxRecDepth 100000
set_option maxHeartbeats 2000000
namespace Vs
open PySem PySem.Spec PyProof.Rows L2 Fw SX
def Fz (H H':Hp):Prop:=∀ a o u,H a = some (.frz o u)→H' a = some (.frz o u)
theorem Fz.trans {H H1 H2:Hp} (a:Fz H H1) (b:Fz H1 H2):Fz H H2:=fun x o u h=>b x o u (a x o u h)
theorem PI.imp {X:Cx} {tg ex:Expr} {w w':TI} (h:PI X tg ex w) (k:∀ σ H R,w' σ H R→w σ H R):PI X tg ex w':=⟨fun pins s σ H R I q=>h.run pins s σ H R I (k σ H R q)⟩
theorem PI.or {X:Cx} {tg ex:Expr} {w w':TI} (h:PI X tg ex w) (h':PI X tg ex w'):PI X tg ex (fun σ H R=>w σ H R∨w' σ H R):=⟨fun pins s σ H R I q=>q.elim (h.run pins s σ H R I) (h'.run pins s σ H R I)⟩
theorem Reps.at {g:Gm} {G:Hp}:∀ {ds:List D} {vs:List V} {i:Nat} {v:V},Reps g G ds vs→vs[i]? = some v→∃ d,ds[i]? = some d∧Rep g G d v
 | [],_,i,v,h,q=>by rw [show _ = [] from h] at q; simp at q
 | d :: ds,_,0,v,⟨v',r,e,a,b⟩,q=>by
  subst e
  cases q
  exact ⟨d,rfl,a⟩
 | d :: ds,_,i + 1,v,⟨v',r,e,a,b⟩,q=>by
  subst e
  exact Reps.at (i:=i) b (by simpa using q)
section
variable {g:Gm} {G H:Hp} {a:Addr} {vs:List V} {ds:List D}
end
section
variable {g:Gm} {W:WX} {k:Nat} {X:Cx} {tg ex:Expr}
end
section
variable {g:Gm} {W:WX} {k:Nat} {X:Cx} {tg ex:Expr}
end
section
variable {g:Gm} {W:WX} {k:Nat} {X:Cx}
end
end Vs
set_option maxRecDepth 100000
set_option maxHeartbeats 2000000
namespace Vs
open PySem PySem.Spec PyProof.Rows L2 Fw SX
def An (e:Ve):List Nat→Ve
 | []=>e
 | v :: vs=>(An e vs).set v .un
section
variable {e e0:Ve} {σ:L2.St} {j:Nat}
theorem Dq:∀ vs:List Nat,(An e vs).length = e.length
 | []=>rfl
 | v :: vs=>by rw [An,List.length_set,Dq vs]
theorem C4:∀ {vs:List Nat},j ∉ vs→(An e vs)[j]? = e[j]?
 | [],_=>rfl
 | v :: vs,h=>by
  rw [An,List.getElem?_set_ne (fun z=>h (by rw [z]; exact List.mem_cons_self))]
  exact C4 fun z=>h (List.mem_cons_of_mem _ z)
theorem Ql (hl:j < σ.length):∀ {vs:List Nat},j∈vs→(wipe σ vs)[j]? = some none
 | v :: vs,h=>by
  rw [wipe,getElem?_set',wipe_length]
  by_cases z:v = j
  ·subst z; rw [if_pos ⟨rfl,hl⟩]
  ·rw [if_neg (fun q=>z q.1)]
   exact Ql hl ((List.mem_cons.mp h).resolve_left fun q=>z q.symm)
end
def W0:WX:=fun _ _ _ _=>False
section
variable {g:Gm} {W:WX} {k:Nat} {X:Cx}
end
section
variable {g:Gm} {G H G1 H1:Hp} {σ σ1:L2.St} {e e1:Ve} {p:Addr} {o:HO} {vs:List Nat}
def VeOff (vs:List Nat) (e e':Ve):Prop:=e'.length = e.length∧∀ j s,j ∉ vs→e[j]? = some s→∃ s',e'[j]? = some s'∧SlLe s s'
theorem VeOff.trans {e2:Ve} (a:VeOff vs e e1) (b:VeOff vs e1 e2):VeOff vs e e2:=⟨b.1.trans a.1,fun j s n h=>by
 obtain ⟨s1,h1,l1⟩:=a.2 j s n h
 obtain ⟨s2,h2,l2⟩:=b.2 j s1 n h1
 exact ⟨s2,h2,l1.trans l2⟩⟩
theorem VeLe.off (h:VeLe e e1):VeOff vs e e1:=⟨h.len,fun j s _ q=>h.at_ j s q⟩
theorem SlLe.refl (s:Sl):SlLe s s:=by cases s <;> simp [SlLe]
theorem VeOff.wipe:VeOff vs e (An e vs):=⟨Dq vs,fun j s n h=>⟨s,by rw [C4 n]; exact h,SlLe.refl s⟩⟩
theorem Mi {σ2:L2.St} (hl:σ2.length = σ.length) (h:∀ j,j ∉ vs→σ2[j]? = σ[j]?):wipe σ2 vs = wipe σ vs:=by
 apply List.ext_getElem?
 intro j
 by_cases hj:j∈vs
 ·by_cases hlt:j < σ.length
  ·rw [Ql (by rw [hl]; exact hlt) hj,Ql hlt hj]
  ·rw [List.getElem?_eq_none (by rw [wipe_length]; omega),List.getElem?_eq_none (by rw [wipe_length]; omega)]
 ·rw [wipe_out hj,wipe_out hj,h j hj]
end
section
variable {g:Gm} {W:WX} {k:Nat} {X:Cx}
end
section
variable {g:Gm} {W:WX} {k:Nat} {X:Cx} {elt tg iter:Expr} {ifs:List Expr} {scope:Scope} {own:List (Str × Nat)} {pos:Pos} {S:M (List D)} {F:D→M Unit} {is:List Nat} {T:M Bool} {E:M Rv}
end
end Vs
set_option maxRecDepth 100000
set_option maxHeartbeats 2000000
namespace Vs
open PySem PySem.Spec PyProof.Rows L2 Fw SX
section
variable {g:Gm} {G H G1 H1:Hp} {e1:Ve} {vs:List V} {as:List Sl} {N:List Str}
end
end Vs
set_option maxRecDepth 100000
set_option maxHeartbeats 2000000
namespace Vs
open PySem PySem.Spec PyProof.Rows L2 Fw SX
section
variable {g:Gm} {G H G1 H1 G2 H2 H0:Hp} {σ:L2.St} {e e1:Ve} {rs:List Rv} {vs dvs:List V} {as as':List Sl} {dd:List D}
theorem RvsOk.at:∀ {rs:List Rv} {vs:List V} {k:Nat} {r:Rv},RvsOk g G H σ e H0 rs vs→rs[k]? = some r→∃ v,vs[k]? = some v∧RvOk g G H σ e H0 r v
 | [],_,k,r,_,q=>by simp at q
 | r0 :: rs,_,k,r,⟨v,t,rfl,a,b,_⟩,q=>by
  cases k with
  | zero=>cases q; exact ⟨v,rfl,a⟩
  | succ k =>
   obtain ⟨v',h1,h2⟩:=RvsOk.at (rs:=rs) (vs:=t) (k:=k) (r:=r) b (show rs[k]? = some r from q)
   exact ⟨v',h1,h2⟩
theorem RvsOk.len:∀ {rs:List Rv} {vs:List V},RvsOk g G H σ e H0 rs vs→vs.length = rs.length
 | [],_,h=>by rw [show _ = [] from h]; rfl
 | r0 :: rs,_,⟨v,t,rfl,a,b,_⟩=>by rw [List.length_cons,List.length_cons,RvsOk.len b]
end
section
variable {g:Gm} {W:WX} {k:Nat} {X:Cx}
end
def FnK (P:Program) (w:World) (K:PySem.W.Frag) (mg:Str→Option Value) (base:Heap) (CXa:CXT) (k:Nat) (f:Addr) (ks:List Str) (sp:Sp):Prop :=
 ∀ (A:Around) (outer:List PySem.Env) (s:Shared) (H:Hp) (us ws:List Value) (vs zs:List V) (Q:VK) (E:XK),Rm k A→Env0 P w K mg base A outer s H→Vals vs us→Vals zs ws→ws.length = ks.length→sp (vs ++ zs) H Q E →
  codeAny (model P w) A (.call (.ref f) ⟨us,ks.zip ws⟩) (CR CXa outer P w H s Q E) s
section
variable {P:Program} {mg:Str→Option Value} {base:Heap} {g:Gm} {j:Nat} {f:Addr} {fd:FuncData} {ps:List Str} {F:List Sl→Res Rv}
theorem FnK.mono {w:World} {K:PySem.W.Frag} {CXa:CXT} {i k:Nat} {ks:List Str} {sp:Sp} (F:FnK P w K mg base CXa i f ks sp) (h:i≤k):FnK P w K mg base CXa k f ks sp:=fun A outer s H us ws vs zs Q E hr=>F A outer s H us ws vs zs Q E (hr.mono h)
end
section
variable {X:Cx} {k:Nat} {f:Addr} {ks:List Str} {sp:Sp} {E:L2.St→XK}
end
section
variable {g:Gm} {W:WX} {k:Nat} {X:Cx}
end
end Vs
set_option maxRecDepth 100000
set_option maxHeartbeats 2000000
namespace Vs
open PySem PySem.Spec PyProof.Rows L2 Fw SX
section
variable {g:Gm}
end
section
variable {g:Gm}
end
end Vs
set_option maxRecDepth 100000
set_option maxHeartbeats 2000000
namespace Vs
open PySem PySem.Spec PyProof.Rows L2 Fw SX
theorem PE.or {X:Cx} {e:Expr} {t t':TE} (h:PE X e t) (h':PE X e t'):PE X e (fun σ H Q=>t σ H Q∨t' σ H Q):=⟨fun pins s σ H Q I q=>q.elim (h.run pins s σ H Q I) (h'.run pins s σ H Q I)⟩
theorem PT.or {X:Cx} {e:Expr} {t t':TT} (h:PT X e t) (h':PT X e t'):PT X e (fun σ H Q=>t σ H Q∨t' σ H Q):=⟨fun pins s σ H Q I q=>q.elim (h.run pins s σ H Q I) (h'.run pins s σ H Q I)⟩
section
variable {g:Gm}
end
section
variable {X:Cx}
end
section
variable {g:Gm}
end
section
variable {g:Gm}
theorem RepH.dct {G H:Hp} (bs:Bs G H) {kvs:List (List Nat × D)} {v:V} (h:RepH g G H (.dct kvs) v):∃ a vs,v = .ref a∧Rd H a (.dK vs)∧RepK g G kvs vs:=by
 rcases h with ⟨a,vs,e,q,r⟩ | ⟨p,e,n,vs,q,r⟩
 ·exact ⟨a,vs,e,bs.rd (.of q),r⟩
 ·exact ⟨p,vs,e,q,r⟩
end
section
variable {g:Gm} {W:WX} {k:Nat} {X:Cx}
theorem Cd.hu {W:WX} (c:Cd g W k X):X.A.units + 1 < cLine:=by have:=c.room.units; omega
end
section
variable {g:Gm}
end
section
variable {X:Cx}
end
section
variable {g:Gm} {W:WX} {k:Nat} {X:Cx} {a b:Expr} {A B:M Rv} {pos:Pos}
end
end Vs
set_option maxRecDepth 100000
set_option maxHeartbeats 2000000
namespace Vs
open PySem PySem.Spec PyProof.Rows L2 Fw SX
section
variable {g:Gm}
end
theorem PO.imp {X:Cx} {e:Option Expr} {t t':TO} (h:PO X e t) (k:∀ σ H Q,t' σ H Q→t σ H Q):PO X e t':=⟨fun pins s σ H Q I q=>h.run pins s σ H Q I (k σ H Q q)⟩
section
variable {g:Gm} {W:WX} {k:Nat} {X:Cx}
end
theorem RepK.len {g:Gm} {G:Hp}:∀ {kvs:List (List Nat × D)} {vs:List (Key × V)},RepK g G kvs vs→vs.length = kvs.length
 | [],vs,r=>by rw [show vs = [] from r]; rfl
 | (k,d) :: kvs,vs,⟨_,v,t,e,a,b⟩=>by subst e; rw [List.length_cons,List.length_cons,RepK.len b]
section
variable {g:Gm}
theorem RepH.scr {G H:Hp} {ns:List Int} {v:V} (h:RepH g G H (.scr ns) v):v = .ref g.sa∧ns = g.sn:=by
 rcases h with r | ⟨_,_,_,o⟩
 ·exact r
 ·exact o.elim
theorem RepH.set {G H:Hp} (bs:Bs G H) {xs:List (List Nat)} {v:V} (h:RepH g G H (.set xs) v):∃ a L,v = .ref a∧H a = some (Gr g.w a L)∧L.Nodup∧∀ k,k∈L↔k∈xs.map S:=by
 rcases h with ⟨a,L,e,q,r⟩ | ⟨_,_,_,o⟩
 ·exact ⟨a,L,e,bs.at_ q rfl,r⟩
 ·exact o.elim
theorem RepsH.one {G H:Hp} {d:D} {vs:List V} (h:RepsH g G H [d] vs):∃ v,vs = [v]∧RepH g G H d v:=by
 obtain ⟨v,r,e,a,b⟩:=h
 exact ⟨v,by rw [e,show r = [] from b],a⟩
end
section
variable {g:Gm}
end
section
variable {g:Gm}
end
section
variable {g:Gm}
end
section
variable {g:Gm}
end
section
variable {g:Gm}
end
end Vs
set_option maxRecDepth 100000
set_option maxHeartbeats 2000000
namespace Vs
open PySem PySem.Spec PyProof.Rows L2 Fw SX
section
variable {g:Gm} {W:WX} {k:Nat} {X:Cx}
end
section
variable {g:Gm}
end
section
variable {g:Gm} {G H:Hp} {σ:L2.St} {e:Ve} {i:Nat} {d d':D} {p:Addr} {o':HO}
def A3 (s:Sl):Option D:=match s with
 | .ow d=>some d
 | .bo d=>some d
 | _=>none
theorem SR.own {s:Sl} (sr:SR g G H σ e) (hi:e[i]? = some s) (ho:A3 s = some d):∃ p,σ[i]? = some (some (.ref p))∧G p = none∧Own g G H p d∧Rt σ e i p:=by
 have sl:=sr.slot i
 rw [hi] at sl
 cases s with
 | ow d0=>cases ho; obtain ⟨p,a,b,c⟩:=sl; exact ⟨p,a,b,c,by rw [hi]; trivial,a⟩
 | bo d0=>cases ho; obtain ⟨p,a,b,c⟩:=sl; exact ⟨p,a,b,c,by rw [hi]; trivial,a⟩
 | _=>cases ho
end
section
variable {g:Gm} {W:WX} {k:Nat} {X:Cx}
end
theorem Reps.one {g:Gm} {G:Hp} {d:D} {vs:List V} (h:Reps g G [d] vs):∃ v,vs = [v]∧Rep g G d v:=by
 obtain ⟨v,r,e,a,b⟩:=h
 exact ⟨v,by rw [e,show r = [] from b],a⟩
theorem Reps.set {g:Gm} {G:Hp} {d:D} {v:V}:∀ {ds:List D} {vs:List V} (i:Nat),Reps g G ds vs→Rep g G d v→Reps g G (ds.set i d) (vs.set i v)
 | [],vs,i,r,_=>by rw [show vs = [] from r]; rfl
 | d0 :: ds,vs,0,⟨v0,t,e,a,b⟩,h=>by subst e; exact ⟨v,t,rfl,h,b⟩
 | d0 :: ds,vs,i + 1,⟨v0,t,e,a,b⟩,h=>by subst e; exact ⟨v0,_,rfl,a,Reps.set i b h⟩
theorem Reps.erase {g:Gm} {G:Hp}:∀ {ds:List D} {vs:List V} (i:Nat),Reps g G ds vs→Reps g G (ds.eraseIdx i) (vs.eraseIdx i)
 | [],vs,i,r=>by rw [show vs = [] from r]; rfl
 | d0 :: ds,vs,0,⟨v0,t,e,a,b⟩=>by subst e; exact b
 | d0 :: ds,vs,i + 1,⟨v0,t,e,a,b⟩=>by subst e; exact ⟨v0,_,rfl,a,Reps.erase i b⟩
section
variable {g:Gm}
end
section
variable {g:Gm} {W:WX} {k:Nat} {X:Cx}
theorem RepK.map {G:Hp}:∀ {kvs:List (List Nat × D)} {vs:List (Key × V)} (k:List Nat) {d:D} {v:V},RepK g G kvs vs→Rep g G d v→RepK g G (kvs.map fun kv=>if kv.1 = k then (kv.1,d) else kv) (vs.map fun kv=>if kv.1 = (.inr (S k):Key) then (kv.1,v) else kv)
 | [],vs,k,d,v,r,_=>by rw [show vs = [] from r]; rfl
 | (k0,d0) :: kvs,vs,k,d,v,⟨ok,v0,t,e,a,b⟩,h=>by
  subst e
  have ih:=RepK.map k b h
  rw [List.map_cons,List.map_cons]
  by_cases z:k0 = k
  ·subst z
   rw [if_pos rfl,if_pos rfl]
   exact ⟨ok,v,_,rfl,h,ih⟩
  ·rw [if_neg z,if_neg (fun y=>z (S_inj (Sum.inr.inj y)))]
   exact ⟨ok,v0,_,rfl,a,ih⟩
end
end Vs
set_option maxRecDepth 100000
set_option maxHeartbeats 2000000
namespace Vs
open PySem PySem.Spec PyProof.Rows L2 Fw SX
section
variable {X:Cx} {k:Nat} {f C:Addr} {ks:List Str} {sp:Sp} {E:L2.St→XK}
end
section
variable {g:Gm} {W:WX} {k:Nat} {X:Cx}
theorem RepF.len {G:Hp}:∀ {fs:List (Str × D)} {vs:List (Str × V)},RepF g G fs vs→vs.length = fs.length
 | [],vs,r=>by rw [show vs = [] from r]; rfl
 | (q,x) :: fs,vs,⟨v,t,e,a,b⟩=>by subst e; rw [List.length_cons,List.length_cons,RepF.len b]
theorem RepH.ins {G H:Hp} (bs:Bs G H) {c:Str} {fs:List (Str × D)} {v:V} (h:RepH g G H (.ins c fs) v):∃ a dx vs,v = .ref a∧H a = some (.ins (g.ca c) dx vs)∧RepF g G fs vs∧Mg g c fs:=by
 rcases h with ⟨a,dx,vs,e,q,r,ok⟩ | ⟨p,e,n,dx,vs,q,r,ok⟩
 ·exact ⟨a,dx,vs,e,bs.at_ q rfl,r,ok⟩
 ·exact ⟨p,dx,vs,e,q,r,ok⟩
end
section
variable {g:Gm} {W:WX} {k:Nat} {X:Cx}
theorem PK.imp {X:Cx} {e:List Keyword} {t t':TA} (h:PK X e t) (k:∀ σ H Q,t' σ H Q→t σ H Q):PK X e t':=⟨fun pos pins s σ H Q I q=>h.run pos pins s σ H Q I (k σ H Q q)⟩
theorem RvsOk.there {G H H0:Hp} {σ:L2.St} {e:Ve}:∀ {rs:List Rv} {vs:List V},RvsOk g G H σ e H0 rs vs→∀ d p,(Rv.fresh d,V.ref p)∈rs.zip vs→H p≠none
 | [],vs,h,d,p,m=>by simp at m
 | r :: rs,vs,⟨v,t,ev,a,b,c⟩,d,p,m=>by
  subst ev
  rcases List.mem_cons.mp m with y | y
  ·cases y
   obtain ⟨p',ev,_,ow,_⟩:=a
   cases ev
   obtain ⟨ob,ho,_⟩:=ow.there
   rw [ho]; exact fun z=>nomatch z
  ·exact RvsOk.there b d p y
end
section
variable {g:Gm} {W:WX} {k:Nat} {X:Cx}
end
end Vs
set_option maxRecDepth 100000
set_option maxHeartbeats 2000000
namespace Vs
open PySem PySem.Spec PyProof.Rows L2 Fw SX
section
variable {g:Gm} {W:WX} {k:Nat} {X:Cx}
end
section
variable {g:Gm} {W:WX} {k:Nat} {X:Cx}
end
section
variable {g:Gm} {W:WX} {k:Nat} {X:Cx}
end
section
variable {g:Gm} {G H:Hp}
end
section
variable {g:Gm} {W:WX} {k:Nat} {X:Cx}
end
section
variable {g:Gm} {W:WX} {k:Nat} {X:Cx}
end
end Vs
set_option maxRecDepth 100000
set_option maxHeartbeats 2000000
namespace Vs
open PySem PySem.Spec PyProof.Rows L2 Fw SX
inductive LkK where
 | shd (kvs:List (List Nat × D)) | own (i:Nat) (s:Sl) (kvs:List (List Nat × D)) | lck (i:Nat) (kvs:List (List Nat × D))
def LkK.kvs:LkK→List (List Nat × D)
 | .shd k=>k
 | .own _ _ k=>k
 | .lck _ k=>k
section
variable {g:Gm} {G H G1 H1:Hp} {σ σ1:L2.St} {e e1:Ve} {d p:Addr} {vs:List (Key × V)} {od:Obj} {i:Nat} {kvs:List (List Nat × D)}
theorem RepK.ks:∀ {kvs:List (List Nat × D)} {vs:List (Key × V)},RepK g G kvs vs→vs.length = kvs.length∧∀ (i:Nat) k v,vs[i]? = some (k,v)→∃ x d,kvs[i]? = some (x,d)∧k = .inr (S x)∧OkS x
 | [],_,h=>by rw [show _ = [] from h]; exact ⟨rfl,fun i k v z=>by simp at z⟩
 | (x,d) :: r,_,⟨ok,v,t,ev,a,b⟩=>by
  obtain ⟨h1,h2⟩:=RepK.ks b
  subst ev
  refine ⟨by simp [h1],fun i k u z=>?_⟩
  cases i with
  | zero=>cases z; exact ⟨x,d,rfl,rfl,ok⟩
  | succ i=>exact h2 i k u (by simpa using z)
end
end Vs
namespace Vs
open PySem PySem.Spec PyProof.Rows L2 Fw SX
section
variable {g:Gm} {W:WX} {k:Nat} {X:Cx}
theorem RepF.get {G:Hp}:∀ {fs:List (Str × D)} {vs:List (Str × V)} {f:Str} {d:D},RepF g G fs vs→fs.lookup f = some d→∃ v,vs.lookup f = some v∧Rep g G d v
 | [],_,f,d,_,h=>by cases h
 | (q,x) :: r,_,f,d,⟨v,t,ev,a,b⟩,h=>by
  subst ev
  rw [List.lookup_cons] at h ⊢
  cases z:f == q with
  | true=>rw [z] at h; cases h; exact ⟨v,rfl,a⟩
  | false=>rw [z] at h; exact RepF.get b h
variable {elt tg iter:Expr} {ifs:List Expr} {scope:Scope} {own:List (Str × Nat)} {pos:Pos} {L:Ve→Option LkK} {td:TE} {F:D→M Unit} {is:List Nat} {T:M Bool} {E:M Rv}
theorem PS.or {X:Cx} {st:Stmt} {t t':TS} (h:PS X st t) (h':PS X st t'):PS X st (fun D σ H=>t D σ H∨t' D σ H):=⟨fun pins s σ H D I q=>q.elim (h.run pins s σ H D I) (h'.run pins s σ H D I)⟩
end
end Vs
set_option maxRecDepth 100000
set_option maxHeartbeats 2000000
namespace Vs
open PySem PySem.Spec PyProof.Rows L2 Fw SX
section
variable {g:Gm} {W:WX} {k:Nat} {X:Cx} {G H:Hp} {a:Addr} {vs:List V} {ds:List D}
end
section
variable {g:Gm}
end
section
variable {g:Gm} {W:WX} {k:Nat} {X:Cx} {G H G1 H1 H0:Hp} {σ σ1:L2.St} {e e1 e2:Ve} {i:Nat}
end
section
variable {g:Gm} {W:WX} {k:Nat} {X:Cx}
end
section
variable {g:Gm} {W:WX} {k:Nat} {X:Cx} {kx vx tg iter:Expr} {ifs:List Expr} {scope:Scope} {own:List (Str × Nat)} {pos:Pos} {S:M (List D)} {F:D→M Unit} {is:List Nat} {T:M Bool} {KX VX:M Rv}
end
section
variable {g:Gm} {W:WX} {k:Nat} {X:Cx}
end
section
variable {P:Program} {w:World} {K:PySem.W.Frag} {mg:Str→Option Value} {base:Heap} {g:Gm}
end
end Vs
set_option maxRecDepth 100000
set_option maxHeartbeats 2000000
namespace Vs
open PySem PySem.Spec PyProof.Rows L2 Fw SX
section
variable {X:Cx} {pins:List (Addr × Obj)} {σ:L2.St} {H:Hp} {s:Shared}
end
theorem SR.tbl {g:Gm} {G H:Hp} {σ:L2.St} {e:Ve} {P:Addr} {ps qs:Array Value} (sr:SR g G H σ e) (hP:H P = some (.tbl ps)) (hG:G P = none) (t:Tabs2 g.T.tabs G (upd H P (.tbl qs))):Tr g σ G H e G (upd H P (.tbl qs)) e:=by
 have ne:∀ {a:Addr} {o:HO},H a = some o→(∀ ps,o≠.tbl ps)→a≠P:=fun h n z=>by rw [z,hP] at h; exact n _ (Option.some.inj h).symm
 have nO:∀ {p:Addr} {d:D},Own g G H p d→p≠P:=fun o=>by
  obtain ⟨ob,h1,h2,_⟩:=o.there
  exact ne h1 h2.nt
 refine ⟨⟨⟨sr.bs.pl,fun a u h=>?_⟩,t,sr.scr.keep fun o u h=>?_,sr.len,fun i=>?_,sr.inj⟩,Le.refl G,fun a o h _ n=>?_,fun a h=>?_,fun a h _ _=>h,VeLe.refl e⟩
 ·rw [upd_ne (fun z=>by rw [z,hG] at h; cases h)]
  exact sr.bs.sub a u h
 ·rw [upd_ne (ne h fun _ z=>nomatch z)]; exact h
 ·have sl:=sr.slot i
  cases q:e[i]? with
  | none=>trivial
  | some s =>
   rw [q] at sl
   cases s with
   | un=>trivial
   | sh d=>exact sl
   | bf d=>exact sl
   | ow d =>
    obtain ⟨p,e1,e2,o⟩:=sl
    exact ⟨p,e1,e2,o.mono (Le.refl G) (upd_ne (nO o))⟩
   | bo d =>
    obtain ⟨p,e1,e2,o⟩:=sl
    exact ⟨p,e1,e2,o.mono (Le.refl G) (upd_ne (nO o))⟩
   | lo d =>
    obtain ⟨p,e1,e2,o⟩:=sl
    obtain ⟨ob,u,h1,_⟩:=o.there
    exact ⟨p,e1,e2,o.mono (Le.refl G) (upd_ne (ne h1 fun _ z=>nomatch z))⟩
 ·rw [upd_ne (ne h n)]; exact h
 ·by_cases z:a = P
  ·rw [z,upd_same] at h; cases h
  ·rw [upd_ne z] at h; exact h
section
variable {g:Gm} {W:WX} {k:Nat} {X:Cx}
end
def LmOk (P:Program) (w:World) (K:PySem.W.Frag) (mg:Str→Option Value) (base:Heap) (CXa:CXT) (k:Nat) (L:Lam) (sp:Sp):Prop :=
 ∀ (f c:Addr) (A:Around) (outer:List PySem.Env) (s:Shared) (H:Hp) (us:List Value) (vs:List V) (Q:VK) (E:XK),Rm k A→Env0 P w K mg base A outer s H→H f = some (N9 f L c)→H c = some (LamX.CodeO c L.q)→Vals vs us→sp vs H Q E →
  codeAny (model P w) A (.call (.ref f) ⟨us,[]⟩) (CR CXa outer P w H s Q E) s
theorem LmOk.mono {P:Program} {w:World} {K:PySem.W.Frag} {mg:Str→Option Value} {base:Heap} {CXa:CXT} {i k:Nat} {L:Lam} {sp:Sp} (F:LmOk P w K mg base CXa i L sp) (h:i≤k):LmOk P w K mg base CXa k L sp:=fun f c A outer s H us vs Q E hr=>F f c A outer s H us vs Q E (hr.mono h)
section
variable {g:Gm} {W:WX} {k:Nat} {X:Cx} {x:Str} {p pos:Pos} {ex:Expr} {es:List Expr} {i:Nat}
end
end Vs
set_option maxRecDepth 100000
set_option maxHeartbeats 2000000
namespace Vs
open PySem PySem.Spec PyProof.Rows L2 Fw SX
def Tk (o:Obj):Prop:=(∃ vs n,o.data = .seq vs n)∨o.data = .fields #[]
theorem Tk.dict {o:Obj} {es:Array DictEntry} {n:Nat} (d:o.data = .dict es n):¬ Tk o:=fun z=>by
 rcases z with ⟨vs,m,z⟩ | z <;> (rw [d] at z; cases z)
section
variable {h:Heap} {H:Hp}
def Few (h:Heap) (H:Hp):Prop:=∀ b o,h.get? b = some o→H b≠none→Tk o
theorem Few.off (f:Few h H) {b:Addr} {o:Obj} (e:h.get? b = some o) (n:¬ Tk o):H b = none:=by
 cases q:H b with
 | none=>rfl
 | some u=>exact (n (f b o e (by rw [q]; simp))).elim
theorem Few.get (f:Few h H) {b:Addr} {o:Obj} (e:h.get? b = some o) (n:¬ Tk o):(hidT h H).get? b = some o:=hidT_get e (f.off e n)
theorem Few.ns (f:Few h H) {b:Addr} {m:Str→Option Value} (x:h.Ns b m):(hidT h H).Ns b m:=by
 obtain ⟨o,es,ep,e,d,r⟩:=x
 exact ⟨o,es,ep,f.get e (Tk.dict d),d,r⟩
theorem Few.code (f:Few h H) {c P:Addr} (x:PySem.W.CodeHd h c P):PySem.W.CodeHd (hidT h H) c P:=by
 obtain ⟨o,us,f1,f2,f3,f4,f5,f6,f7,e,r1,r2,r3,r⟩:=x
 refine ⟨o,us,f1,f2,f3,f4,f5,f6,f7,f.get e fun z=>?_,r1,r2,r3,r⟩
 rcases z with ⟨vs,n,z⟩ | z
 ·rw [r2] at z; cases z
 ·rw [r2] at z
  cases z
  simp at r3
end
section
variable {P:Program} {w:World} {K:PySem.W.Frag} {mg mb:Str→Option Value} {k n:Nat} {fa a:Addr} {cs:List (Addr × Addr)} {fd:FuncData} {x:Str} {s:Shared} {vs:List Value} {ns:List Int}
end
end Vs
set_option maxRecDepth 100000
set_option maxHeartbeats 2000000
namespace Vs
open PySem PySem.Spec PyProof.Rows L2 Fw SX
section
variable {g:Gm} {W:WX} {k:Nat} {X:Cx} {a b c d:Expr} {A B C:M Rv} {pos:Pos}
end
section
variable {g:Gm} {W:WX} {k:Nat} {X:Cx} {ex:Expr} {es:List Expr} {A:M (List Rv)} {p pos:Pos}
end
end Vs
set_option maxRecDepth 100000
set_option maxHeartbeats 2000000
namespace Vs
open PySem PySem.Spec PyProof.Rows L2 Fw SX
section
variable {g:Gm} {W:WX} {k:Nat} {X:Cx} {o ex:Expr} {O:M Rv} {A:M (List Rv)} {apos cpos p:Pos} {x:Str} {i:Nat}
end
section
variable {g:Gm} {W:WX} {k:Nat} {X:Cx}
end
abbrev gm (K:PySem.W.Frag) (w:World) (ca:Str→Addr) (Tb:LT) (sa:Addr) (sn:List Int):Gm:=⟨K,w,ca,Tb,sa,sn⟩
section
variable {g:Gm} {W:WX} {k:Nat} {X:Cx}
end
section
variable {P:Program} {w:World} {K:PySem.W.Frag} {mg:Str→Option Value} {base:Heap} {g:Gm} {j:Nat} {f:Addr} {fd:FuncData} {ps:List Str} {CXa:CXT} {np n m:Nat} {B:M Ctl} {dvs:List V} {dd:List D} {ks:List Str}
end
end Vs
set_option maxRecDepth 100000
set_option maxHeartbeats 2000000
namespace Vs
open PySem PySem.Spec PyProof.Rows L2 Fw SX
section
variable {g:Gm} {W:WX} {k:Nat} {X:Cx} {o e f:Expr} {apos cpos:Pos} {A K Z:M Rv}
end
section
variable {g:Gm}
variable {W:WX} {k:Nat} {X:Cx}
end
section
variable {P:Program} {mg:Str→Option Value} {base:Heap} {g:Gm} {j np n m:Nat} {f:Addr} {fd:FuncData} {ps:List Str} {B:M Ctl} {CXa:CXT}
end
end Vs
set_option maxRecDepth 100000
set_option maxHeartbeats 2000000
namespace Vs
open PySem PySem.Spec PyProof.Rows L2 Fw SX
section
variable {g:Gm} {G H G1 H1:Hp} {σ σ1:L2.St} {e e1:Ve} {d p:Addr} {vs:List V} {od:Obj} {i:Nat} {kvs:List D}
end
section
variable {g:Gm} {W:WX} {k:Nat} {X:Cx} {tg:Expr} {F:D→M Unit} {is:List Nat} {x:Str} {p pos:Pos} {i:Nat}
end
end Vs
set_option maxRecDepth 100000
set_option maxHeartbeats 2000000
namespace Vs
open PySem PySem.Spec PyProof.Rows L2 Fw SX
def kPy:Key→PyData
 | .inl i=>.int i
 | .inr x=>.str x
mutual
inductive Dr (K:PySem.W.Frag) (H:Hp):V→PyData→Prop
 | non:Dr K H .non .none
 | bl (b:Bool):Dr K H (.bl b) (.bool b)
 | int (i:Int):Dr K H (.int i) (.int i)
 | str (x:Str):Dr K H (.str x) (.str x)
 | lst {a:Addr} {xs:List V} {ds:List PyData}:Rd H a (.lst xs)→DrAll K H xs ds→Dr K H (.ref a) (.list ds)
 | tup {a:Addr} {xs:List V} {ds:List PyData}:SqT K H a xs→DrAll K H xs ds→Dr K H (.ref a) (.tuple ds)
 | dct {a:Addr} {kvs:List (Key × V)} {ds:List PyData}:Rd H a (.dK kvs)→DrAll K H (kvs.map (·.2)) ds→Dr K H (.ref a) (.dict ((kvs.map fun q=>kPy q.1).zip ds))
inductive DrAll (K:PySem.W.Frag) (H:Hp):List V→List PyData→Prop
 | nil:DrAll K H [] []
 | cons {v:V} {vs:List V} {d:PyData} {ds:List PyData}:Dr K H v d→DrAll K H vs ds→DrAll K H (v :: vs) (d :: ds)
end
theorem DrAll.len {K:PySem.W.Frag} {H:Hp}:∀ {vs:List V} {ds:List PyData},DrAll K H vs ds→vs.length = ds.length
 | _,_,.nil=>rfl
 | _,_,.cons _ t=>congrArg Nat.succ t.len
section
variable {X:Cx} {pins:List (Addr × Obj)} {σ:L2.St} {H:Hp} {s:Shared}
end
end Vs
set_option maxRecDepth 100000
set_option maxHeartbeats 2000000
namespace Vs
open PySem PySem.Spec PyProof.Rows L2 Fw SX He
structure SaysY (ex:Ex) (fa:List Fa) (fn:List DefD) (tf:List Defn) (h:Heap) (K:PySem.W.Frag):Prop where
 x:Fw.SaysX ex fa fn K
 hd:∀ p∈tf,PySem.W.codeHdIn K (cT K p).1 (cT K p).2 = true
 out:∀ p∈tf,K.lookup (cT K p).2 = none
 empty:∀ p∈tf,h.get? (cT K p).2 = some { cls:=.none,data:=.fields #[] }
abbrev AlY:Type:=AlD × Bool
end Vs
set_option maxRecDepth 100000
set_option maxHeartbeats 2000000
namespace Vs
open PySem PySem.Spec PyProof.Rows L2 Fw SX NdefX
section
variable {CXa:CXT} {P:Program} {w:World} {K:PySem.W.Frag} {mg:Str→Option Value} {base:Heap} {N:List Str} {F:NF} {f C cc a:Addr} {fd:FuncData} {slf:Str} {A:Around} {outer:List PySem.Env} {s0 s:Shared} {H0 H:Hp} {E:XK} {σ:L2.St}
end
theorem PMk.imp {X:Cx} {e:Expr} {t t':L2.St→Hp→XK→Prop} (h:PMk X e t) (k:∀ σ H Q,t' σ H Q→t σ H Q):PMk X e t':=fun pins s σ H Q I q=>h pins s σ H Q I (k σ H Q q)
end Vs
set_option maxRecDepth 100000
set_option maxHeartbeats 2000000
namespace Vs
open PySem PySem.Spec PyProof.Rows L2 Fw SX NdefX
section
variable {CXa:CXT} {P:Program} {w:World} {K:PySem.W.Frag} {mg:Str→Option Value} {base:Heap} {F:NF} {f C cc:Addr} {fd:FuncData} {slf v1 v2 f1 f2 x:Str} {j:Nat} {p0 p1 p2 p3 p4 pos q1 q2 q3 q4 r1 r2 r3 r4:Pos}
end
section
variable {g:Gm} {W:WX} {k:Nat} {X:Cx} {G:Hp}
theorem Reps.zip:∀ {fs:List Str} {ds:List D} {vs:List V},Reps g G ds vs→RepF g G (fs.zip ds) (fs.zip vs)
 | [],ds,vs,h=>by simp only [List.zip_nil_left]; rfl
 | f :: fs,[],vs,h=>by rw [show vs = [] from h]; rfl
 | f :: fs,d :: ds,vs,⟨v,r,e,h,t⟩=>by rw [e]; exact ⟨v,_,rfl,h,Reps.zip t⟩
end
end Vs
set_option maxRecDepth 100000
set_option maxHeartbeats 2000000
namespace Vs
open PySem PySem.Spec PyProof.Rows L2 Fw SX NdefX
structure Cau (g:Gm) (i:Nat) (y:Str) (a:Addr) (cls:Value) (d:Option Addr) (σ:L2.St) (G H:Hp) (fs:List (Str × D)):Prop where
 bs:Bs G H
 scr:SqL g.K H g.sa (g.sn.map .int)
 at_:σ[i]? = some (some (.ref a))
 cls:cls = .ref (g.ca y)
 fld:∃ da fv,d = some da∧G da = some (.xd fv)∧RepF g G fs fv
theorem Grow.sqL {G H G' H':Hp} (w:Grow G H G' H') {K:PySem.W.Frag} {a:Addr} {vs:List V} (h:SqL K H a vs):SqL K H' a vs:=by
 rcases h with (h | ⟨o,h⟩) | h
 ·exact .inl (.inl (w.keep _ _ h))
 ·exact .inl (.inr ⟨o,w.keep _ _ h⟩)
 ·exact .inr h
def TX (g:Gm) (i:Nat) (y:Str) (a:Addr) (cls:Value) (d:Option Addr) (f:List (Str × D)→Option D):TE:=fun σ H Q=>∃ G fs,Cau g i y a cls d σ G H fs∧∃ dd,f fs = some dd∧∀ v G' H',Grow G H G' H'→Rep g G' dd v→Q v H'
def TXs (g:Gm) (i:Nat) (y:Str) (a:Addr) (cls:Value) (d:Option Addr) (f:List (Str × D)→Option (List D)):TA:=fun σ H Q=>∃ G fs,Cau g i y a cls d σ G H fs∧∃ ds,f fs = some ds∧∀ vs G' H',Grow G H G' H'→Reps g G' ds vs→Q vs H'
structure VX (g:Gm) (i:Nat) (y:Str) (X:Cx) (e:Expr) (f:List (Str × D)→Option D):Prop where
 run:X.K = g.K→X.w = g.w→X.A.guards = some []→X.A.units + 64 < cLine→∀ (a:Addr) (oe:Obj) (cls:Value) (d:Option Addr) (pn:List (Addr × Obj)),Zc cls d oe→(∃ vs,oe.data = .fields vs)→PE (X.suite a ((a,oe) :: pn)) e (TX g i y a cls d f)
section
variable {g:Gm} {i:Nat} {y:Str} {X:Cx}
theorem Reps.H {G H:Hp}:∀ {ds:List D} {vs:List V},Reps g G ds vs→RepsH g G H ds vs
 | [],_,h=>h
 | d :: ds,_,⟨v,r,e,a,b⟩=>⟨v,r,e,.inl a,Reps.H b⟩
end
section
variable {g:Gm} {W:WX} {k:Nat} {X:Cx}
end
end Vs
set_option maxRecDepth 100000
set_option maxHeartbeats 2000000
namespace Vs
open PySem PySem.Spec PyProof.Rows L2 Fw SX NdefX
section
variable {g:Gm} {W:WX} {k:Nat} {X:Cx} {ex:Expr} {es:List Expr} {A:M (List Rv)} {p pos:Pos}
end
section
variable {g:Gm} {W:WX} {k:Nat} {X:Cx} {pos:Pos}
end
section
variable {X:Cx}
end
section
variable {g:Gm} {W:WX} {k:Nat} {X:Cx}
end
end Vs
set_option maxRecDepth 100000
set_option maxHeartbeats 2000000
namespace Vs
open PySem PySem.Spec PyProof.Rows L2 Fw SX NdefX
section
variable {g:Gm} {W:WX} {k:Nat} {X:Cx}
end
section
variable {g:Gm} {W:WX} {k:Nat} {X:Cx}
end
section
open PySem.W Builtin
variable {prog:Program} {w:World} {A:Around} {E:Value→Shared→Prop} {s:Shared} {K:PySem.W.Frag} {x C f:Addr} {ox:Obj} {od:Option Obj} {b tb:Value}
end
section
variable {g:Gm} {W:WX} {k:Nat} {X:Cx}
end
section
variable {g:Gm} {W:WX} {k:Nat} {X:Cx}
end
section
variable {g:Gm} {W:WX} {k:Nat} {X:Cx} {i j:Nat}
end
end Vs
set_option maxRecDepth 100000
set_option maxHeartbeats 2000000
namespace Vs
open PySem PySem.Spec PyProof.Rows L2 Fw SX He NdefX
structure XnD where
 x:Str
 qual:Str
 params:Arguments
 body:List Stmt
 scope:Scope
 m:Str
abbrev XnW:=Option (Str × Str × Arguments × FuncBody × Scope × Addr × List Str × Addr)
def xnW (K:PySem.W.Frag) (x m:Str):XnW:=match K.lookup (ma K (ga K x) m) with
 | some ⟨_,_,.func fd,_⟩=>some (fd.name,fd.qualname,fd.params,fd.body,fd.scope,fd.globals,fd.closure.map (·.1),fd.builtins)
 | _=>none
def XnD.val (d:XnD):XnW:=some (d.m,d.qual,d.params,.stmts d.body,d.scope,mainGlobals,["__class__"],builtinsNs)
structure SaysZ (ex:Ex) (fa:List Fa) (fn:List DefD) (tf:List Defn) (xn:List XnD) (h:Heap) (K:PySem.W.Frag):Prop where
 y:SaysY ex fa fn tf h K
 xn:xn.map (fun d=>xnW K d.x d.m) = xn.map XnD.val
abbrev AlZ:Type:=AlY × List XnW
theorem SaysZ.at_ {ex:Ex} {fa:List Fa} {fn:List DefD} {tf:List Defn} {xn:List XnD} {h:Heap} {K:PySem.W.Frag} (c:SaysZ ex fa fn tf xn h K) (i:Nat) {d:XnD} (hd:xn[i]? = some d:=by rfl):xnW K d.x d.m = d.val:=by
 have e2:(xn.map fun d=>xnW K d.x d.m)[i]? = (xn.map XnD.val)[i]?:=by rw [c.xn]
 rw [List.getElem?_map,List.getElem?_map,hd] at e2
 exact Option.some.inj e2
def eqB (a b:Option Bool):Bool:=decide (a = b)
section
variable {P:Program} {w:World} {K:PySem.W.Frag} {mg:Str→Option Value} {base:Heap} {Tb:LT} {sa:Addr} {sn:List Int} {d:XnD} {slf v1 v2 f1 f2 x:Str} {j:Nat} {p0 p1 p2 p3 p4 pos q1 q2 q3 q4 r1 r2 r3 r4:Pos}
end
def inTB (K:PySem.W.Frag) (C:Addr):Bool:=eqO (PySem.W.findIn K (.ref C) "__class__") (some (some (.builtin "object.__class__"))) && (eqO (PySem.W.specialIn K (.builtin "object.__class__") "__get__") (some (some (.builtin "getset_descriptor.__get__"))) && (eqB (PySem.W.takesIn K (.builtin "object.__class__")) (some true) && eqB (PySem.W.mroIn K C (.type "object")) (some true)))
def Fm (ts:List Str):PySem.W.Frag→Bool:=fun K=>ts.all fun t=>inTB K (ga K t)
def Bf (c o m:Str):PySem.W.Frag→Bool:=fun K=>eqO (PySem.W.findIn K (.ref (ga K c)) m) (some (some (.ref (ma K (ga K o) m)))) && PySem.W.isFn K (.ref (ma K (ga K o) m))
def nfB (c:Str) (ts:List Str):PySem.W.Frag→Bool:=fun K=>ts.all fun t=>PySem.W.notFirst K (ga K c) (.ref (ga K t))
def Kt (c:Str):PySem.W.Frag→Bool:=fun K=>eqO (PySem.W.findIn K (.ref (ga K c)) "__ne__") (some (some (.builtin "object.__ne__"))) && eqB (PySem.W.mroIn K (ga K c) (.type "object")) (some true)
def Fn (x:Str) (cs:List (Str × Bool)):PySem.W.Frag→Bool:=fun K=>(cs.all fun p=>eqB (PySem.W.kitOne K (.ref (ga K p.1)) (.ref (ga K x))) (some p.2)) && ((PySem.W.clsIn K (ga K x)).isSome && PySem.W.typeIn K (.ref (ga K x)) == some (.type "type"))
end Vs
set_option maxRecDepth 100000
set_option maxHeartbeats 2000000
namespace Fw
open PySem PySem.Spec PyProof.Rows L2
open Sem (wp)
open AutoSeq1 (wpAny_loadPart')
section
variable {prog:Program} {w:World} {A:Around} {E:Value→Shared→Prop} {s:Shared}
end
section
variable {prog:Program} {w:World} {A:Around} {E:Value→Shared→Prop} {s:Shared}
end
end Fw
set_option maxRecDepth 100000
set_option maxHeartbeats 2000000
namespace Fw
open PySem PySem.Spec PyProof.Rows L2
open Builtin Builtin.Str Builtin.Int Builtin.Float
section
variable {M:Model} {A:Around} {E:Value→Shared→Prop} {s:Shared}
end
end Fw
set_option maxRecDepth 100000
set_option maxHeartbeats 2000000
namespace Vs
open PySem PySem.Spec PyProof.Rows L2 Fw SX
section
variable {g:Gm} {W:WX} {k:Nat} {X:Cx} {G H:Hp} {a:Addr} {vs:List V} {ds:List D}
end
section
variable {g:Gm} {W:WX} {k:Nat} {X:Cx}
end
section
variable {g:Gm} {W:WX} {k:Nat} {X:Cx} {E:L2.St→XK}
end
end Vs
set_option maxRecDepth 100000
set_option maxHeartbeats 2000000
namespace Vs
open PySem PySem.Spec PyProof.Rows L2 Fw SX
section
variable {P:Program} {w:World} {K:PySem.W.Frag} {mg:Str→Option Value} {base:Heap} {g:Gm}
end
end Vs
set_option maxRecDepth 100000
set_option maxHeartbeats 2000000
namespace Vs
open PySem PySem.Spec PyProof.Rows L2 Fw SX
structure Lp (g:Gm) (G H:Hp) (σ:L2.St) (e:Ve) (vs:List Nat) (Da:Addr) (σ':L2.St) (acc:List V) (ys:List D) (G' H':Hp) (e':Ve):Prop where
 st:St g G H σ e G' H' σ' e'
 vo:VeOff vs (An e vs) e'
 un:∀ j∈vs,∀ s,e'[j]? = some s→s = .un∨∃ d,s = .sh d
 wp:wipe σ' vs = wipe σ vs
 hD:H' Da = some (.lst acc)
 nD:G' Da = none
 rp:Reps g G' ys acc
 nr:∀ i,¬ Rt σ' e' i Da
section
variable {g:Gm} {G H G1 H1 G2 H2:Hp} {σ σ1 σ2:L2.St} {e e1 e2:Ve} {vs is vs1:List Nat} {Da:Addr} {acc:List V} {ys:List D}
theorem Lp.sto {F:D→M Unit} {d:D} (l:Lp g G H σ e vs Da σ1 acc ys G1 H1 e1) (hD0:H Da = none) (sr0:SR g G H σ e) (his:∀ i∈is,i∈vs) (hF:∀ d e e' j,F d e = .ok () e'→j ∉ is→e'[j]? = e[j]?) (hO:∀ d e e' j,F d e = .ok () e'→j∈is→∃ d',e'[j]? = some (.sh d')) (hL:∀ d e e',F d e = .ok () e'→e'.length = e.length)
  (qf:F d e1 = .ok () e2) (st:St g G H σ e G1 H1 σ2 e2) (off:∀ j,j ∉ is→σ2[j]? = σ1[j]?):Lp g G H σ e vs Da σ2 acc ys G1 H1 e2:=by
 have len2:e2.length = e1.length:=hL d e1 e2 qf
 have lenσ:σ2.length = σ1.length:=by rw [← st.sr.len,len2,l.st.sr.len]
 have un2:∀ j∈vs,∀ s,e2[j]? = some s→s = .un∨∃ d,s = .sh d:=fun j hj s h=>by
  by_cases hm:j∈is
  ·obtain ⟨d',h'⟩:=hO d e1 e2 j qf hm
   rw [h'] at h; cases h; exact .inr ⟨d',rfl⟩
  ·rw [hF d e1 e2 j qf hm] at h
   exact l.un j hj s h
 refine ⟨st,l.vo.trans ⟨len2,fun j s n h=>⟨s,by rw [hF d e1 e2 j qf fun z=>n (his j z)]; exact h,SlLe.refl s⟩⟩,un2,?_,l.hD,l.nD,l.rp,fun i r=>?_⟩
 ·rw [Mi lenσ fun j hj=>off j fun z=>hj (his j z),l.wp]
 ·by_cases hm:i∈vs
  ·obtain ⟨r1,_⟩:=r
   cases qq:e2[i]? with
   | none=>rw [qq] at r1; exact r1
   | some s =>
    rw [qq] at r1
    rcases un2 i hm s qq with rfl | ⟨d',rfl⟩ <;> exact r1
  ·obtain ⟨r1,r2⟩:=r
   rw [off i fun z=>hm (his i z)] at r2
   rw [hF d e1 e2 i qf fun z=>hm (his i z)] at r1
   exact l.nr i ⟨r1,r2⟩
end
section
variable {g:Gm}
structure StoF (F:D→M Unit) (is vs:List Nat):Prop where
 sub:∀ i∈is,i∈vs
 off:∀ d e e' j,F d e = .ok () e'→j ∉ is→e'[j]? = e[j]?
 oth:∀ d e e' j,F d e = .ok () e'→j∈is→∃ d',e'[j]? = some (.sh d')
 len:∀ d e e',F d e = .ok () e'→e'.length = e.length
end
section
variable {g:Gm} {W:WX} {k:Nat} {X:Cx} {elt tg iter tg1 iter1:Expr} {ifs ifs1:List Expr} {scope:Scope} {own:List (Str × Nat)} {pos:Pos} {S S1:M (List D)} {F F1:D→M Unit} {is is1 vs1:List Nat} {T T1:M Bool} {E:M Rv}
end
end Vs
set_option maxRecDepth 100000
set_option maxHeartbeats 2000000
namespace Vs
open PySem PySem.Spec PyProof.Rows L2 Fw SX
section
variable {g:Gm} {W:WX} {k:Nat} {X:Cx}
end
end Vs
set_option maxRecDepth 100000
set_option maxHeartbeats 2000000
namespace Vs
open PySem PySem.Spec PyProof.Rows L2 Fw SX
def calmR:Res Rv→Res Rv
 | .ok r e=>.ok r e
 | _=>.no
section
variable {g:Gm} {W:WX} {k:Nat} {X:Cx}
theorem Pst.calm {σ:L2.St} {G H:Hp} {e:Ve} {R:Rv→Hp→Hp→Ve→Prop} {r:Res Rv} (h:Pst g W σ G H e R (calmR r)):Pst g (fun _ _ _ _=>False) σ G H e R r:=by
 cases r with
 | no=>exact h
 | er x e'=>exact h.elim
 | ok r e'=>exact h
end
section
variable {g:Gm} {W:WX} {k:Nat} {X:Cx} {x:Str} {i:Nat} {ex:Expr} {A:M (List Rv)} {p apos cpos:Pos}
end
end Vs
set_option maxRecDepth 100000
set_option maxHeartbeats 2000000
namespace Vs
open PySem PySem.Spec PyProof.Rows L2 Fw SX He NdefX
structure FarD where
 p:PySem.W.Frag→Addr
 d:DefD
def Ku (K:PySem.W.Frag) (a:Addr):FnW:=match K.lookup a with
 | some ⟨_,_,.func u,_⟩=>some (u.name,u.qualname,u.params,u.body,u.scope,u.globals,u.closure,u.builtins)
 | _=>none
def Gu (T:String) (x m:Str) (K:PySem.W.Frag):Addr:=match PySem.W.recIn K (ma K (ga K x) m) T with
 | some (.ref q :: _)=>q
 | _=>0
def farB (l:FarD):PySem.W.Frag→Bool:=fun K=>PySem.W.keepIn K (.ref (l.p K)) && (match K.lookup (l.p K) with
 | some ⟨_,_,.func u,_⟩=>PySem.W.codeIn K u.code l.d.qual && (dflB K u.defaults (l.d.dvs K) && kwdB K u.kwdefaults (l.d.kws K))
 | _=>false)
structure SaysP (ex:Ex) (fa:List Fa) (fn:List DefD) (tf:List Defn) (xn:List XnD) (fr:List FarD) (h:Heap) (K:PySem.W.Frag):Prop where
 z:SaysZ ex fa fn tf xn h K
 fr:fr.map (fun l=>Ku K (l.p K)) = fr.map fun l=>l.d.val
abbrev AlP:Type:=AlZ × List FnW
theorem SaysP.far {ex:Ex} {fa:List Fa} {fn:List DefD} {tf:List Defn} {xn:List XnD} {fr:List FarD} {h:Heap} {K:PySem.W.Frag} (c:SaysP ex fa fn tf xn fr h K) (i:Nat) {l:FarD} (hl:fr[i]? = some l:=by rfl):Ku K (l.p K) = l.d.val:=by
 have e:(fr.map fun l=>Ku K (l.p K))[i]? = (fr.map fun l=>l.d.val)[i]?:=by rw [c.fr]
 rw [List.getElem?_map,List.getElem?_map,hl] at e
 exact Option.some.inj e
end Vs
set_option maxRecDepth 100000
set_option maxHeartbeats 2000000
namespace Vs
open PySem PySem.Spec PyProof.Rows L2 Fw SX He NdefX
def Gv (g:Addr→Option Obj) (as:List Addr):List Addr:=as.flatMap fun a=>match g a with
 | some o=>refsD o
 | none=>[]
def asN (xs:List Str) (fs:List (PySem.W.Frag→Addr)) (g:Addr→Option Obj):List Addr :=
 let l1:=xs.map (ga (frG g [mainGlobals]))
 let l2:=Gv g l1
 let l3:=Gv g l2
 let l4:=Gv g l3
 let all:=([mainGlobals,cStatics,sysModules] ++ l1 ++ l2 ++ l3 ++ l4).eraseDups
 match fs with
 | []=>all
 | f :: r=>all ++ Gv g ((f :: r).map fun p=>p (frG g all))
theorem Aa0 {as:List Addr} {ex:Ex} {fa:List Fa} {fn:List DefD} {tf:List Defn} {h:Heap} (e1:Fw.obsX ex fa fn (frT h.get? as) = valD fn) (e2:tabsB h.get? tf (frT h.get? as) = true):SaysY ex fa fn tf h (frT h.get? as):=by
 have all:∀ p∈tf,PySem.W.codeHdIn (frT h.get? as) (cT (frT h.get? as) p).1 (cT (frT h.get? as) p).2 = true∧∃ o,h.get? (cT (frT h.get? as) p).2 = some o∧emptyTab o = true:=fun p hp=>by
  obtain ⟨z1,z2⟩:=Bool.and_eq_true_iff.mp (List.all_eq_true.mp e2 p hp)
  refine ⟨z1,?_⟩
  revert z2
  cases h.get? (cT (frT h.get? as) p).2 with
  | none=>exact fun z=>nomatch z
  | some o=>exact fun z=>⟨o,rfl,z⟩
 refine ⟨e1,fun p hp=>(all p hp).1,fun p hp=>?_,fun p hp=>?_⟩
 ·obtain ⟨_,o,q,z⟩:=all p hp
  exact frT_none q z
 ·obtain ⟨_,o,q,z⟩:=all p hp
  rw [q,emptyTab_eq z]
end Vs
set_option maxRecDepth 100000
set_option maxHeartbeats 2000000
namespace Vs
open PySem PySem.Spec PyProof.Rows L2 Fw SX He NdefX
def Mj:List Addr→Nat→List Addr
 | [],_=>[]
 | a :: r,m=>match Nat.beq (Nat.land (Nat.shiftRight m a) 1) 1 with
  | true=>Mj r m
  | false=>a :: Mj r (Nat.lor m (Nat.shiftLeft 1 a))
def asM (xs:List Str) (fs:List (PySem.W.Frag→Addr)) (g:Addr→Option Obj):List Addr :=
 let l1:=xs.map (ga (frG g [mainGlobals]))
 let l2:=Mj (Gv g l1) 0
 let l3:=Mj (Gv g l2) 0
 let l4:=Gv g l3
 let all:=Mj ([mainGlobals,cStatics,sysModules] ++ l1 ++ l2 ++ l3 ++ l4) 0
 match fs with
 | []=>all
 | f :: r=>all ++ Gv g ((f :: r).map fun p=>p (frG g all))
def Od (xs:List Str) (fs:List (PySem.W.Frag→Addr)) (ex:Ex) (fa:List Fa) (fn:List DefD) (tf:List Defn) (xn:List XnD) (fr:List FarD) (g:Addr→Option Obj):AlP :=
 (fun K=>(((Fw.obsX ex fa fn K,tabsB g tf K),xn.map fun d=>xnW K d.x d.m),fr.map fun l=>Ku K (l.p K))) (frT g (asM xs fs g))
def T7 (xs:List Str) (fs:List (PySem.W.Frag→Addr)) (ex:Ex) (fa:List Fa) (fn:List DefD) (tf:List Defn) (xn:List XnD) (fr:List FarD):PySem.W.Hook where
 α:=AlP
 obs:=fun s=>Od xs fs ex fa fn tf xn fr s.heap.get?
 val:=fun _=>(((valD fn,true),xn.map XnD.val),fr.map fun l=>l.d.val)
 says:=fun _ h=>∃ K:PySem.W.Frag,K.In h∧SaysP ex fa fn tf xn fr h K
 of:=fun _ s e=>⟨_,frT_in,⟨Aa0 (congrArg (fun z:AlP=>z.1.1.1) e) (congrArg (fun z:AlP=>z.1.1.2) e),congrArg (fun z:AlP=>z.1.2) e⟩,show (Od xs fs ex fa fn tf xn fr s.heap.get?).2 = _ from congrArg (fun z:AlP=>z.2) e⟩
 keeps:=fun _ _ _ ⟨K,hK,c⟩ k=>⟨K,PySem.W.Frag.In.keeps hK k,⟨⟨c.z.y.x,c.z.y.hd,c.z.y.out,fun p hp=>k _ _ (c.z.y.empty p hp)⟩,c.z.xn⟩,c.fr⟩
noncomputable def endR' (R:PySem.W.OpenRow) (M:Nat) (w:World) (os:OsState):Option PySem.W.SharedT:=HandSHeadRun.endF (HandSHeadRun.stepQ (HandSHeadRun.denQ HandSHeadRun.tabQ) R.prog w) M R.prog w os
def Run1 (R:PySem.W.OpenRow) (M:Nat) (w:World):Prop:=∀ os,Option.map (fun s=>HandSHeadRun.looksF R.prog (PySem.W.boot_heap w.params) s.abs) (endR' R M w os) = some true
def Run2 (R:PySem.W.OpenRow) (q:Program) (M:Nat) (loose:List Str) (w:World):Prop:=∀ os,Option.map (fun s=>HandSHeadRun.seenQ q loose (importedModules R.prog.main.body) (fun s=>PySem.W.xlAt q [] s && PySem.W.recOk R.records s) s.abs) (endR' R M w os) = some (PySem.W.openGood q loose)
def Run3 {α:Type} (R:PySem.W.OpenRow) (M:Nat) (w:World) (ob:PySem.W.SharedT→α) (v:α):Prop:=∀ os,Option.map ob (endR' R M w os) = some v
theorem Aa1 {R:PySem.W.OpenRow} {q:Program} {M:Nat} {loose:List Str} {w:World} {H:PySem.W.Hook} {ob:PySem.W.SharedT→H.α} (h1:Run1 R M w) (h2:Run2 R q M loose w) (h3:Run3 R M w ob (H.val w)):HandSHeadRun.RunEq R q H ob M loose w:=by
 intro os
 have z1:=h1 os
 have z2:=h2 os
 have z3:=h3 os
 unfold endR' at z1 z2 z3
 revert z1 z2 z3
 generalize HandSHeadRun.endF (HandSHeadRun.stepQ (HandSHeadRun.denQ HandSHeadRun.tabQ) R.prog w) M R.prog w os = X
 intro z1 z2 z3
 cases X with
 | none=>cases z1
 | some s =>
  rw [Option.map_some] at z1 z2 z3 ⊢
  exact congrArg some (Prod.ext (Option.some.inj z1) (Prod.ext (Option.some.inj z2) (Option.some.inj z3)))
end Vs
set_option maxRecDepth 100000
set_option maxHeartbeats 2000000
namespace Vs
open PySem PySem.Spec PyProof.Rows L2 Fw SX NdefX
section
variable {g:Gm} {W:WX} {k:Nat} {X:Cx}
end
section
variable {g:Gm} {i:Nat} {y:Str} {X:Cx}
end
end Vs
set_option maxRecDepth 100000
set_option maxHeartbeats 2000000
namespace Vs
open PySem PySem.Spec PyProof.Rows L2 Fw SX He NdefX
end Vs
set_option maxRecDepth 100000
set_option maxHeartbeats 2000000
namespace Vs
open PySem PySem.Spec PyProof.Rows L2 Fw SX NdefX
section
variable {X:Cx} {pins:List (Addr × Obj)} {σ:L2.St} {H:Hp} {s:Shared} {a C dx:Addr} {f:Str} {y:V} {u:Value} {fs:List (Str × V)} {Q:Unit→Shared→Prop} {E:Value→Shared→Prop} {A:Around}
end
section
variable {X:Cx} {o e:Expr} {es:List Expr} {to te:TE} {ta:TA} {f:Str} {p p' pos:Pos}
end
section
variable {CXa:CXT} {P:Program} {w:World} {K:PySem.W.Frag} {mg:Str→Option Value} {base:Heap} {N:List Str} {F:NF} {f C cc a:Addr} {fd:FuncData} {slf:Str} {A:Around} {outer:List PySem.Env} {s0 s:Shared} {H0 H:Hp} {E:XK} {σ:L2.St}
end
section
variable {CXa:CXT} {P:Program} {w:World} {K:PySem.W.Frag} {mg:Str→Option Value} {base:Heap} {F:NF} {f C cc:Addr} {fd:FuncData} {slf v1 v2 f1 f2 x:Str} {j:Nat} {p0 p1 p2 p3 p4 pos q1 q2 q3 q4 r1 r2 r3 r4:Pos}
end
section
variable {g:Gm} {W:WX} {k:Nat} {X:Cx} {G:Hp}
end
end Vs
set_option maxRecDepth 100000
set_option maxHeartbeats 4000000
namespace Vs
open PySem PySem.Spec PyProof.Rows L2 Fw SX He NdefX
section
variable {P:Program} {w:World} {K:PySem.W.Frag} {mg:Str→Option Value} {base:Heap} {Tb:LT} {sa:Addr} {sn:List Int} {d:XnD} {slf v1 v2 f1 f2 x:Str} {j:Nat} {p0 p1 p2 p3 p4 pos q1 q2 q3 q4 r1 r2 r3 r4:Pos}
end
end Vs
set_option maxRecDepth 100000
set_option maxHeartbeats 2000000
namespace Vs
open PySem PySem.Spec PyProof.Rows L2 Fw SX NdefX
section
variable {X:Cx} {pins:List (Addr × Obj)} {σ:L2.St} {H:Hp} {s:Shared} {f cda cc D p C dx f2:Addr} {x0 m:Str} {fs:List (Str × V)} {body:List Stmt} {p0 p1 apos pos:Pos} {pl:Sem Bool} {k:Nat} {sp:Sp} {Q:VK} {E:L2.St→XK}
end
section
variable {g:Gm} {W:WX} {k:Nat} {X:Cx} {body:List Stmt} {a b:Expr} {A B:M Rv} {pos:Pos}
end
end Vs
set_option maxRecDepth 100000
set_option maxHeartbeats 4000000
namespace Vs
open PySem PySem.Spec PyProof.Rows L2 Fw SX He NdefX
end Vs
namespace Vs
open PySem PySem.Spec PyProof.Rows L2 Fw SX He
def seqB (c:Str):PySem.W.Frag→Bool:=fun K=>PySem.W.noSeq K (ga K c)
end Vs
set_option maxRecDepth 100000
set_option maxHeartbeats 2000000
namespace Vs
open PySem PySem.Spec PyProof.Rows L2 Fw SX
section
variable {α β:Type}
end
section
variable {A B C:M Rv} {e:Ve} {d:D} {i:Nat}
end
end Vs
namespace Vs
open PySem PySem.Spec PyProof.Rows L2 Fw SX
section
variable {A B C:M Rv} {e:Ve} {d:D} {i:Nat}
end
end Vs
namespace Vs
open PySem PySem.Spec PyProof.Rows L2 Fw SX
section
variable {A B C:M Rv} {e:Ve} {d:D} {i:Nat}
end
end Vs
namespace Vs
open PySem PySem.Spec PyProof.Rows L2 Fw SX
section
variable {A B C:M Rv} {e:Ve} {d:D} {i:Nat}
end
end Vs
set_option maxRecDepth 100000
set_option maxHeartbeats 2000000
namespace Vs
open PySem PySem.Spec PyProof.Rows L2 Fw SX
section
variable {A B C:M Rv} {e:Ve} {d:D} {i:Nat}
end
section
variable {A B C:M Rv} {e:Ve} {d:D} {i:Nat}
end
section
variable {e:Ve} {i:Nat} {F:D→M Unit} {X:M Ctl}
end
section
variable {A B C:M Rv} {e:Ve} {d:D} {i:Nat}
end
end Vs
set_option maxRecDepth 100000
set_option maxHeartbeats 2000000
namespace Vs
open PySem PySem.Spec PyProof.Rows L2 Fw SX
section
variable {n:Nat} {X:M Ctl}
end
end Vs
set_option maxRecDepth 100000
set_option maxHeartbeats 2000000
namespace Vs
open PySem PySem.Spec PyProof.Rows L2 Fw SX
section
variable {x y f h:Str} {fs:List Str} {d d':D} {e:Ve} {A:M (List Rv)} {i:Nat} {outs:List Str} {F:List (Str × D)→Option (List D)} {B:M Ctl} {xs:List (Str × D)}
end
end Vs
set_option maxRecDepth 100000
set_option maxHeartbeats 2000000
namespace Vs
open PySem PySem.Spec PyProof.Rows L2 Fw SX
section
variable {A:M Rv} {e:Ve} {d:D}
end
end Vs
set_option maxRecDepth 100000
set_option maxHeartbeats 2000000
namespace Vs
open PySem PySem.Spec PyProof.Rows L2 Fw SX
section
open PySem.W Builtin
variable {prog:Program} {w:World} {A:Around} {E:Value→Shared→Prop} {s:Shared} {K:PySem.W.Frag} {x C f:Addr} {ox:Obj} {od:Option Obj}
end
section
variable {g:Gm} {W:WX} {k:Nat} {X:Cx}
end
section
variable {g:Gm} {W:WX} {k:Nat} {X:Cx}
end
end Vs
set_option maxRecDepth 100000
set_option maxHeartbeats 2000000
namespace Vs
open PySem PySem.Spec PyProof.Rows L2 Fw SX
section
variable {g:Gm} {W:WX} {k:Nat} {X:Cx} {G H:Hp} {σ:L2.St} {e:Ve} {cs:List Str} {f:Str} {i:Nat} {d:D} {v:V} {D':Ends}
end
section
variable {g:Gm} {W:WX} {k:Nat} {X:Cx}
end
end Vs
set_option maxRecDepth 100000
set_option maxHeartbeats 2000000
namespace Vs
open PySem PySem.Spec PyProof.Rows L2 Fw SX
section
variable {elt t0 i0 t1 i1:Expr} {f0 f1:List Expr} {scope:Scope} {pos:Pos} {it acc:Value} {env:PySem.Env}
end
section
variable {Y:Cx} {elt t0 i0 t1 i1:Expr} {f0 f1:List Expr} {scope:Scope} {pos:Pos}
end
section
variable {X:Cx} {elt t0 i0 t1 i1:Expr} {f0 f1:List Expr} {scope:Scope} {own:List (Str × Nat)} {vs1:List Nat} {pos:Pos} {wi wi1:TI} {g g1:TG} {tt tt1:TT} {te:TE}
end
end Vs
set_option maxRecDepth 100000
set_option maxHeartbeats 2000000
namespace Vs
open PySem PySem.Spec PyProof.Rows L2 Fw SX
section
variable {g:Gm} {G H G1 H1 G2 H2:Hp} {σ σ1 σ2:L2.St} {e e1 e2:Ve} {vs is vs1:List Nat} {Da p:Addr} {L:List Str} {o:HO}
structure Ls (g:Gm) (G H:Hp) (σ:L2.St) (e:Ve) (vs:List Nat) (Da:Addr) (σ':L2.St) (L:List Str) (G' H':Hp) (e':Ve):Prop where
 st:St g G H σ e G' H' σ' e'
 vo:VeOff vs (An e vs) e'
 un:∀ j∈vs,∀ s,e'[j]? = some s→s = .un∨∃ d,s = .sh d
 wp:wipe σ' vs = wipe σ vs
 hD:H' Da = some (Gr g.w Da L)
 nD:G' Da = none
 nr:∀ i,¬ Rt σ' e' i Da
theorem Ls.sto {F:D→M Unit} {d:D} (l:Ls g G H σ e vs Da σ1 L G1 H1 e1) (hs:StoF F is vs) (qf:F d e1 = .ok () e2) (st:St g G H σ e G1 H1 σ2 e2) (off:∀ j,j ∉ is→σ2[j]? = σ1[j]?):Ls g G H σ e vs Da σ2 L G1 H1 e2:=by
 have len2:e2.length = e1.length:=hs.len d e1 e2 qf
 have lenσ:σ2.length = σ1.length:=by rw [← st.sr.len,len2,l.st.sr.len]
 have un2:∀ j∈vs,∀ s,e2[j]? = some s→s = .un∨∃ d,s = .sh d:=fun j hj s h=>by
  by_cases hm:j∈is
  ·obtain ⟨d',h'⟩:=hs.oth d e1 e2 j qf hm
   rw [h'] at h; cases h; exact .inr ⟨d',rfl⟩
  ·rw [hs.off d e1 e2 j qf hm] at h
   exact l.un j hj s h
 refine ⟨st,l.vo.trans ⟨len2,fun j s n h=>⟨s,by rw [hs.off d e1 e2 j qf fun z=>n (hs.sub j z)]; exact h,SlLe.refl s⟩⟩,un2,?_,l.hD,l.nD,fun i r=>?_⟩
 ·rw [Mi lenσ fun j hj=>off j fun z=>hj (hs.sub j z),l.wp]
 ·by_cases hm:i∈vs
  ·obtain ⟨r1,_⟩:=r
   cases qq:e2[i]? with
   | none=>rw [qq] at r1; exact r1
   | some s =>
    rw [qq] at r1
    rcases un2 i hm s qq with rfl | ⟨d',rfl⟩ <;> exact r1
  ·obtain ⟨r1,r2⟩:=r
   rw [off i fun z=>hm (hs.sub i z)] at r2
   rw [hs.off d e1 e2 i qf fun z=>hm (hs.sub i z)] at r1
   exact l.nr i ⟨r1,r2⟩
end
theorem T8:∀ {L M:List Str},L.Nodup→(∀ k∈L,k∈M)→L.length≤M.length
 | [],M,_,_=>Nat.zero_le _
 | a :: r,M,nd,h=>by
  obtain ⟨na,nd'⟩:=List.nodup_cons.mp nd
  have ha:=h a List.mem_cons_self
  have:=T8 (M:=M.erase a) nd' fun k hk=>(List.mem_erase_of_ne fun z=>na (by rw [← z]; exact hk)).mpr (h k (List.mem_cons_of_mem _ hk))
  rw [List.length_erase_of_mem ha] at this
  have:=List.length_pos_of_mem ha
  rw [List.length_cons]
  omega
def strOf:D→List Nat
 | .str l=>l
 | _=>[]
def SetOf (L:List Str) (ys:List D):Prop:=L.Nodup∧∀ k,k∈L↔k∈ys.map fun y=>S (strOf y)
theorem SetOf.len {L:List Str} {ys:List D} (h:SetOf L ys):L.length≤ys.length:=by
 have:=T8 h.1 fun k hk=>(h.2 k).mp hk
 simpa using this
section
variable {g:Gm}
end
section
variable {g:Gm} {W:WX} {k:Nat} {X:Cx} {elt tg iter tg1 iter1:Expr} {ifs ifs1:List Expr} {scope:Scope} {own:List (Str × Nat)} {pos:Pos} {S S1:M (List D)} {F F1:D→M Unit} {is is1 vs1:List Nat} {T T1:M Bool} {E:M Rv}
end
end Vs
set_option maxRecDepth 100000
namespace Vs
open PySem PySem.Spec PyProof.Rows L2 Fw SX
section
variable {e:Ve} {E:M Rv} {S S1:M (List D)} {F F1:D→M Unit} {T T1:M Bool} {vs vs1:List Nat}
end
end Vs
set_option maxRecDepth 100000
set_option maxHeartbeats 2000000
namespace Vs
open PySem PySem.Spec PyProof.Rows L2 Fw SX PySem.W
section
variable {M:Model} {h:Heap} {K:PySem.W.Frag} {C:Addr}
end
section
variable {prog:Program} {w:World} {A:Around} {E:Value→Shared→Prop} {s:Shared} {K:PySem.W.Frag} {x C C2 f:Addr} {ox:Obj} {od:Option Obj} {b:Value}
end
section
variable {g:Gm} {W:WX} {k:Nat} {X:Cx}
end
end Vs
set_option maxRecDepth 100000
set_option maxHeartbeats 2000000
namespace PySem.W
open PySem PySem.Calls PyProof.Rows
section
variable {K:Frag} {A:Around} {E:Value→Shared→Prop} {s:Shared}
end
end PySem.W
namespace Vs
open PySem PySem.Spec PyProof.Rows L2 Fw SX
section
variable {X:Cx} {k:Nat} {f C:Addr} {sp:Sp} {ks:List Str} {E:L2.St→XK}
end
section
variable {g:Gm} {W:WX} {k:Nat} {X:Cx}
end
end Vs
set_option maxRecDepth 100000
set_option maxHeartbeats 2000000
namespace Vs
open PySem PySem.Spec PyProof.Rows L2 Fw SX
section
variable {X:Cx} {pins:List (Addr × Obj)} {s:Shared} {σ:L2.St} {H:Hp} {a:Addr} {ts:List (List Nat)} {Q:VK}
end
section
variable {g:Gm} {W:WX} {k:Nat} {X:Cx}
end
end Vs
set_option maxRecDepth 100000
set_option maxHeartbeats 2000000
namespace Vs
open PySem PySem.Spec PyProof.Rows L2 Fw SX
section
variable {g:Gm} {W:WX} {k:Nat} {X:Cx} {x:Str} {i:Nat} {ex ey:Expr} {A:M (List Rv)} {p apos cpos:Pos}
end
section
variable {g:Gm} {W:WX} {k:Nat} {X:Cx} {ex:Expr} {es:List Expr} {A:M (List Rv)} {p pos:Pos}
end
section
variable {g:Gm} {W:WX} {k:Nat} {X:Cx} {ex:Expr} {es:List Expr} {A:M (List Rv)} {p pos:Pos}
end
end Vs
set_option maxRecDepth 100000
set_option maxHeartbeats 2000000
namespace Vs
open PySem PySem.Spec PyProof.Rows L2 Fw SX
end Vs
set_option maxRecDepth 100000
namespace Vs
open PySem PySem.Spec PyProof.Rows L2 Fw SX
section
variable {e:Ve}
end
open He
end Vs
set_option maxRecDepth 100000
set_option maxHeartbeats 2000000
namespace Vs
open PySem PySem.Spec PyProof.Rows L2 Fw SX
section
variable {g:Gm} {G H G1 H1:Hp} {σ σ1:L2.St} {e e1:Ve} {d p:Addr} {vs:List V} {od:Obj} {i:Nat} {kvs:List D}
end
section
variable {g:Gm} {W:WX} {k:Nat} {X:Cx} {elt tg:Expr} {ifs:List Expr} {scope:Scope} {own:List (Str × Nat)} {pos p:Pos} {F:D→M Unit} {is:List Nat} {T:M Bool} {E:M Rv} {i:Nat} {x:Str}
end
section
variable {e:Ve} {i:Nat} {F:D→M Unit} {T:M Bool} {E:M Rv} {vs:List Nat}
end
end Vs
set_option maxRecDepth 100000
namespace Vs
open PySem PySem.Spec PyProof.Rows L2 Fw SX
section
variable {e:Ve}
end
end Vs
set_option maxRecDepth 100000
namespace Vs
open PySem PySem.Spec PyProof.Rows L2 Fw SX
section
variable {e:Ve} {y:Str} {outs:List Str} {i:Nat} {F:List (Str × D)→Option (List D)} {B:M Ctl} {xs:List (Str × D)}
end
end Vs
set_option maxRecDepth 100000
set_option maxHeartbeats 2000000
namespace NeL
open PySem PySem.SeqAt
open AutoSeq1 (wpAny_loadPart')
open MeetsSeq MeetsSeq2 MeetsSeq3 SeqRoads2
section
variable {prog:Program} {w:World} {A:Around} {R:Result→Shared→Prop} {l b:Addr} {N:Nat} {I:Nat→Shared→Prop}
end
section
variable {prog:Program} {w:World} {A:Around} {E:Value→Shared→Prop} {s:Shared} {l b:Addr} {N:Nat} {Q:Value→Shared→Prop}
end
end NeL
namespace Vs
open PySem PySem.Spec PyProof.Rows L2 Fw SX NdefX
section
variable {g:Gm} {G H:Hp}
theorem Reps.at_:∀ {ds:List D} {vs:List V} {i:Nat} {v:V},Reps g G ds vs→vs[i]? = some v→∃ d,ds[i]? = some d∧Rep g G d v
 | [],_,i,v,r,h=>by cases (show _ = [] from r); simp at h
 | d :: ds,_,0,v,⟨u,us,rfl,ru,rus⟩,h=>by cases h; exact ⟨d,rfl,ru⟩
 | d :: ds,_,i + 1,v,⟨u,us,rfl,ru,rus⟩,h=>Reps.at_ (i:=i) rus h
end
section
variable {g:Gm} {W:WX} {k:Nat} {X:Cx} {T:Str→Option (List Sl→Res Rv)} {ts:List Str} {j:Nat}
end
end Vs
set_option maxRecDepth 100000
namespace Vs
open PySem PySem.Spec PyProof.Rows L2 Fw SX
section
variable {e e1 e2:Ve} {T:Str→Option (List Sl→Res Rv)} {ts:List Str} {A B:M Rv} {xs ys:List D}
end
end Vs
set_option maxRecDepth 100000
set_option maxHeartbeats 2000000
namespace Fw
open PySem PySem.Spec PyProof.Rows L2
section
variable {P:Program} {w:World} {A:Around} {E:Value→Shared→Prop} {s:Shared}
set_option maxHeartbeats 4000000 in
end
end Fw
namespace Vs
open PySem PySem.Spec PyProof.Rows L2 Fw SX
section
variable {g:Gm} {W:WX} {k:Nat} {X:Cx} {ex:Expr} {A:M (List Rv)} {p p2 pos pos2:Pos}
end
end Vs
set_option maxRecDepth 100000
namespace Vs
open PySem PySem.Spec PyProof.Rows L2 Fw SX
section
variable {e e1:Ve} {A:M Rv} {j:Int}
end
end Vs
set_option maxRecDepth 100000
set_option maxHeartbeats 2000000
namespace Vs
open PySem PySem.Spec PyProof.Rows L2 Fw SX NdefX
abbrev Clz:Type:=Value × Nat × (Addr→Value→Option Addr→TS)
section
variable {X:Cx} {pins:List (Addr × Obj)} {σ':L2.St} {H':Hp} {sI s':Shared} {D:Ends} {a:Addr} {B h3:Heap} {cls:Value} {d:Option Addr} {W0:WX}
end
section
variable {X:Cx} {body:List Stmt} {h0:ExceptHandler} {hds:List ExceptHandler} {l:List Clz} {pos:Pos} {tb:WX→TS} {W0:WX}
end
end Vs
set_option maxRecDepth 100000
set_option maxHeartbeats 2000000
namespace Vs
open PySem PySem.Spec PyProof.Rows L2 Fw SX NdefX
section
variable {X:Cx} {pins:List (Addr × Obj)} {σ:L2.St} {H:Hp} {s:Shared} {P c:Addr} {params:Arguments} {body:Expr} {scope:Scope} {pos:Pos}
end
def OutOk (g:Gm) (G H:Hp) (r:Rv) (Q:VK):Prop:=∀ G2 H2 v,Grow G H G2 H2→RvNew g G2 H2 H r v→Q v H2
theorem OutOk.tup {g:Gm} {G H:Hp} {ds:List D} {vs:List V} {Q:VK} (o:OutOk g G H (.val (.tup ds)) Q) (b:Bs G H) (r:Reps g G ds vs) (p:Addr) (np:H p = none):Q (.ref p) (upd H p (.tup vs)):=by
 have gr:=Grow.lay2 (o:=HO.tup vs) b np (fun _ _ z=>nomatch z)
 exact o _ _ _ gr (show Rep g _ (.tup ds) (.ref p) from ⟨p,vs,rfl,.of upd_same,r.mono gr.le⟩)
theorem OutOk.lst {g:Gm} {G H:Hp} {ds:List D} {vs:List V} {Q:VK} (o:OutOk g G H (.fresh (.lst ds)) Q) (b:Bs G H) (r:Reps g G ds vs) (p:Addr) (np:H p = none):Q (.ref p) (upd H p (.lst vs)) :=
 o _ _ _ (Grow.lay (o:=HO.lst vs) b np) ⟨p,rfl,b.hn np,⟨vs,upd_same,r⟩,np⟩
section
variable {P:Program} {w:World} {K:PySem.W.Frag} {mg:Str→Option Value} {base:Heap} {ca:Str→Addr} {Tb:LT} {sa:Addr} {sn:List Int} {x a:Str} {pg:Arguments} {bg rest:List Stmt} {sg:Scope} {gad:Addr} {fd:FuncData} {Ng:List Str} {tst:Stmt} {h0:ExceptHandler} {hds:List ExceptHandler} {tp p1 p2:Pos}
 {okF:D→Option Rv} {erF:Exn→Option Rv} {tA:TE→TS} {sto:V→L2.St→L2.St} {tR:TS} {l:List Clz}
end
section
variable {g:Gm} {W:WX} {k:Nat} {X:Cx} {okF:D→Option Rv} {erF:Exn→Option Rv}
end
end Vs
set_option maxRecDepth 100000
set_option maxHeartbeats 2000000
namespace Vs
open PySem PySem.Spec PyProof.Rows L2 Fw SX NdefX
structure Cz where
 c:Value
 i:Nat
 y:Str
 tup:Bool
 f:List (Str × D)→Option (List D)
def Cz.ts (g:Gm) (q:Cz) (a:Addr) (cls:Value) (d:Option Addr):TS:=tRet (if q.tup = true then tTup (TXs g q.i q.y a cls d q.f) else tLst (TXs g q.i q.y a cls d q.f))
def Cz.z (g:Gm) (q:Cz):Clz:=(q.c,q.i,q.ts g)
section
variable {P:Program} {w:World} {K:PySem.W.Frag} {mg:Str→Option Value} {base:Heap} {ca:Str→Addr} {Tb:LT} {sa:Addr} {sn:List Int} {x a:Str} {pg:Arguments} {bg:List Stmt} {sg:Scope} {gad:Addr} {fd:FuncData} {Ng:List Str} {h0:ExceptHandler} {hds:List ExceptHandler} {tp p1 p2 p3 p4 p5 p6 p7 p8:Pos}
end
end Vs
set_option maxRecDepth 100000
set_option maxHeartbeats 2000000
namespace Vs
open PySem PySem.Spec PyProof.Rows L2 Fw SX NdefX
section
variable {X:Cx} {pins:List (Addr × Obj)} {σ:L2.St} {H:Hp} {s:Shared}
end
section
variable {X:Cx}
end
section
variable {g:Gm} {G H:Hp}
end
section
variable {g:Gm} {W:WX} {k:Nat} {X:Cx}
end
end Vs
set_option maxRecDepth 100000
namespace Vs
open PySem PySem.Spec PyProof.Rows L2 Fw SX
section
variable {okF:D→Option Rv} {erF:Exn→Option Rv} {B:M Rv} {e e1:Ve}
end
end Vs
set_option maxRecDepth 100000
set_option maxHeartbeats 2000000
namespace Vs
open PySem PySem.Spec PyProof.Rows L2 Fw SX
def ItT (l it:Addr) (i:Nat):HO:=.ext fun h=>h.IsTupleIter it l i
section
variable {prog:Program} {w:World} {A:Around} {E:Value→Shared→Prop} {s:Shared}
end
section
open PySem.W
variable {M:Model} {A:Around} {E:Value→Shared→Prop} {s:Shared} {K:PySem.W.Frag} {x C f:Addr} {ox:Obj} {od:Option Obj}
end
section
variable {X:Cx} {pins:List (Addr × Obj)} {σ:L2.St} {A1:Around} {Rs:Result→Shared→Prop} {l it q:Addr} {zs:List V} {H0:Hp}
end
section
variable {X:Cx} {pins:List (Addr × Obj)} {σ:L2.St} {H:Hp} {s:Shared} {A1:Around} {Rs:Result→Shared→Prop} {k:Nat} {p q C dx l fi fl:Addr} {us:List (Str × V)} {f:Str} {zs:List V} {sp:Sp} {Q:VK}
end
section
variable {X:Cx} {k:Nat}
end
section
variable {X:Cx}
end
section
variable {g:Gm} {G H:Hp} {σ:L2.St} {e:Ve} {p:Addr}
end
section
variable {g:Gm} {W:WX} {k:Nat} {X:Cx} {σ:L2.St} {G H G1 H1:Hp} {e e1:Ve} {Q:VK}
end
section
variable {g:Gm} {W:WX} {k:Nat} {X:Cx}
end
end Vs
set_option maxRecDepth 100000
namespace Vs
open PySem PySem.Spec PyProof.Rows L2 Fw SX
section
variable {g:Gm} {W:WX} {k:Nat} {X:Cx} {o ex:Expr} {O:M Rv} {A:M (List Rv)} {apos cpos:Pos}
end
section
variable {g:Gm} {W:WX} {k:Nat} {X:Cx} {ex:Expr} {es:List Expr} {A:M (List Rv)} {p pos:Pos}
end
end Vs
set_option maxRecDepth 100000
namespace Vs
open PySem PySem.Spec PyProof.Rows L2 Fw SX
section
variable {e:Ve}
end
end Vs
set_option maxRecDepth 100000
namespace Vs
open PySem PySem.Spec PyProof.Rows L2 Fw SX
section
variable {g:Gm} {W:WX} {k:Nat} {X:Cx}
end
section
variable {e:Ve}
end
end Vs
set_option maxRecDepth 100000
set_option maxHeartbeats 2000000
namespace Vs
open PySem PySem.Spec PyProof.Rows L2 Fw SX
section
variable {g:Gm} {W:WX} {k:Nat} {X:Cx} {o ex:Expr} {O:M Rv} {A:M (List Rv)} {apos cpos:Pos}
end
end Vs
set_option maxRecDepth 100000
set_option maxHeartbeats 2000000
namespace Vs
open PySem PySem.Spec PyProof.Rows L2 Fw SX He
section
variable {X:Cx} {k:Nat} {sp:Sp} {E:L2.St→XK}
end
section
variable {g:Gm} {W:WX} {k:Nat} {X:Cx}
end
def smB (x m:Str):PySem.W.Frag→Bool:=fun K=>(match PySem.W.findCls K (.ref (ga K x)) (.type "type") m with
 | some (.get (.builtin i) (.ref p) .none (.ref D))=>decide (i = "staticmethod.__get__") && (decide (p = ma K (ga K x) m) && decide (D = ga K x))
 | _=>false) && (match PySem.W.recIn K (ma K (ga K x) m) "staticmethod" with
 | some (.ref q :: _)=>decide (q = Gu "staticmethod" x m K)
 | _=>false)
end Vs
set_option maxRecDepth 100000
set_option maxHeartbeats 2000000
namespace Vs
open PySem PySem.Spec PyProof.Rows L2 Fw SX
section
variable {X:Cx} {pins:List (Addr × Obj)} {σ:L2.St} {H:Hp} {s:Shared} {a:Str} {u:Value} {Q:Option (List (Str × Value))→Shared→Prop}
end
section
variable {g:Gm} {W:WX} {k:Nat} {X:Cx}
end
section
variable {e:Ve}
end
end Vs
set_option maxRecDepth 100000
set_option maxHeartbeats 2000000
namespace Vs
open PySem PySem.Spec PyProof.Rows L2 Fw SX
section
variable {g:Gm} {W:WX} {k:Nat} {X:Cx}
end
section
variable {e:Ve}
end
end Vs
set_option maxRecDepth 100000
set_option maxHeartbeats 2000000
namespace Vs
open PySem PySem.Spec PyProof.Rows L2 Fw SX
section
variable {X:Cx} {k:Nat} {f C:Addr} {sp:Sp} {E:L2.St→XK}
end
section
variable {g:Gm} {W:WX} {k:Nat} {X:Cx}
end
section
variable {e:Ve}
end
end Vs
set_option maxRecDepth 100000
set_option maxHeartbeats 2000000
namespace Vs
open PySem PySem.Spec PyProof.Rows L2 Fw SX
section
variable {g:Gm} {X:Cx}
end
end Vs
set_option maxRecDepth 100000
set_option maxHeartbeats 2000000
namespace Vs
open PySem PySem.Spec PyProof.Rows L2 Fw SX He
section
variable {X:Cx} {k:Nat} {sp:Sp} {E:L2.St→XK} {C:Addr}
end
section
variable {g:Gm} {W:WX} {k:Nat} {X:Cx}
end
section
variable {e:Ve}
end
end Vs
set_option maxRecDepth 100000
set_option maxHeartbeats 2000000
namespace Vs
open PySem PySem.Spec PyProof.Rows L2 Fw SX
section
variable {g:Gm} {W:WX} {k:Nat} {X:Cx} {elt tg iter:Expr} {ifs:List Expr} {scope:Scope} {own:List (Str × Nat)} {pos:Pos} {S:M (List D)} {F:D→M Unit} {is:List Nat} {T:M Bool} {E:M Rv}
end
end Vs
set_option maxRecDepth 100000
set_option maxHeartbeats 2000000
namespace Vs
open PySem PySem.Spec PyProof.Rows L2 Fw SX NdefX
structure GrowT (g:Gm) (G H G' H':Hp):Prop where
 bs:Bs G' H'
 tabs:Tabs2 g.T.tabs G' H'
 scr:ScrOk g G' H'
 le:Le G G'
 keep:∀ a o,H a = some o→(∀ ps,o≠.tbl ps)→H' a = some o
 dom:∀ a,H' a = none→H a = none
 new:∀ a,G a = none→H a≠none→G' a = none
section
variable {g:Gm} {G H G1 H1:Hp} {σ:L2.St} {e:Ve}
theorem GrowT.of (w:Grow G H G1 H1) (t:Tabs2 g.T.tabs G H) (s:ScrOk g G H):GrowT g G H G1 H1:=⟨w.bs,(t.mono w.le fun a ps e n=>w.new a n (by rw [e]; simp)).kept fun a ps e=>w.keep a _ e,(s.mono w.le).keep fun _ _ h=>w.keep _ _ h,w.le,fun a o h _=>w.keep a o h,w.dom,w.new⟩
end
def OutOkT (g:Gm) (G H:Hp) (r:Rv) (Q:VK):Prop:=∀ G2 H2 v,GrowT g G H G2 H2→RvNew g G2 H2 H r v→Q v H2
theorem OutOkT.out {g:Gm} {G H:Hp} {r:Rv} {Q:VK} (o:OutOkT g G H r Q) (t:Tabs2 g.T.tabs G H) (s:ScrOk g G H):OutOk g G H r Q:=fun G2 H2 v w n=>o G2 H2 v (.of w t s) n
section
variable {P:Program} {w:World} {K:PySem.W.Frag} {mg:Str→Option Value} {base:Heap} {ca:Str→Addr} {Tb:LT} {sa:Addr} {sn:List Int} {x a:Str} {pg:Arguments} {bg rest:List Stmt} {sg:Scope} {gad:Addr} {fd:FuncData} {Ng:List Str} {tst:Stmt} {h0:ExceptHandler} {hds:List ExceptHandler} {tp p1 p2:Pos}
 {okF:D→Option Rv} {erF:Exn→Option Rv} {tA:TE→TS} {sto:V→L2.St→L2.St} {tR:TS} {l:List Clz} {n:Nat}
end
section
variable {g:Gm} {W:WX} {k:Nat} {X:Cx} {okF:D→Option Rv} {erF:Exn→Option Rv}
end
section
variable {P:Program} {w:World} {K:PySem.W.Frag} {mg:Str→Option Value} {base:Heap} {ca:Str→Addr} {Tb:LT} {sa:Addr} {sn:List Int} {x a:Str} {pg:Arguments} {bg rest:List Stmt} {sg:Scope} {gad:Addr} {fd:FuncData} {Ng:List Str} {h0:ExceptHandler} {hds:List ExceptHandler} {tp p1 p2 p3 p4:Pos}
end
end Vs
set_option maxRecDepth 100000
set_option maxHeartbeats 2000000
namespace Vs
open PySem PySem.Spec PyProof.Rows L2 Fw SX
section
variable {M:Model} {Γ:PySem.Ctx} {env:PySem.Env} {E:Value→Pos→Shared→Prop} {p:Pos} {s:Shared}
end
theorem thk {M:Model} {A:Around} {α:Type} {t:Sem α} {Q Q':α→Shared→Prop} {E:Value→Shared→Prop} {s:Shared} {n:Nat} (hn:n≤s.toks) (h:wpAny M A t Q E s) (k:∀ a s',n≤s'.toks→Q a s'→Q' a s'):wpAny M A t Q' E s :=
 wpAny_mono (PySem.wpAny_toks_of hn h) (fun a s' z=>k a s' z.1 z.2) fun _ _ z=>z.2
structure PIK (n:Nat) (X:Cx) (tg iter:Expr) (wi:TI):Prop where
 run:∀ (pins:List (Addr × Obj)) (s:Shared) (σ:L2.St) (H:Hp) (R:It→Hp→Prop),n≤s.toks→Inv X pins σ H s→wi σ H R →
  wpAny (model X.prog X.w) X.A (eval iter X.env) (fun v s1=>1≤s1.toks∧wpAny (model X.prog X.w) X.A (pyIter v) (PIE X pins σ tg R) X.xe s1) X.xe s
section
variable {X:Cx} {tg iter:Expr} {wi:TI}
theorem PIK.of (h:PI X tg iter wi):PIK 1 X tg iter wi:=⟨fun pins s σ H R hn I q=>thk hn (h.run pins s σ H R I q) fun _ _ a b=>⟨a,b⟩⟩
end
section
variable {g:Gm} {W:WX} {k:Nat} {X:Cx} {st:Stmt} {rest:List Stmt} {ex:Expr} {pos:Pos} {A B:M Ctl}
theorem PST.imp {t t':TS} (h:PST X st t) (k:∀ D σ H,t' D σ H→t D σ H):PST X st t':=fun pins s σ H D h0 I q=>h pins s σ H D h0 I (k D σ H q)
theorem PSsT.imp {t t':TS} (h:PSsT X rest t) (k:∀ D σ H,t' D σ H→t D σ H):PSsT X rest t':=fun pins s σ H D h0 I q=>h pins s σ H D h0 I (k D σ H q)
theorem PET.imp {e:Expr} {t t':TE} (h:PET X e t) (k:∀ σ H Q,t' σ H Q→t σ H Q):PET X e t':=fun pins s σ H Q h0 I q=>h pins s σ H Q h0 I (k σ H Q q)
end
section
variable {g:Gm} {W:WX} {k:Nat} {X:Cx} {tg iter:Expr} {td:TE} {L:Ve→Option LkK} {F:D→M Unit} {is:List Nat} {pos:Pos}
end
end Vs
set_option maxRecDepth 100000
set_option maxHeartbeats 2000000
namespace Vs
open PySem PySem.Spec PyProof.Rows L2 Fw SX
section
variable {g:Gm} {W:WX} {k:Nat} {X:Cx}
end
end Vs
set_option maxRecDepth 100000
set_option maxHeartbeats 2000000
namespace Vs
open PySem PySem.Spec PyProof.Rows L2 Fw SX PySem.W
section
variable {prog:Program} {w:World} {A:Around} {E:Value→Shared→Prop} {s:Shared} {K:PySem.W.Frag} {x C f:Addr} {ox:Obj} {od:Option Obj} {b:Value}
end
section
variable {g:Gm} {W:WX} {k:Nat} {X:Cx}
end
end Vs
set_option maxRecDepth 100000
set_option maxHeartbeats 2000000
namespace Vs
open PySem PySem.Spec PyProof.Rows L2 Fw SX PySem.W
section
variable {M:Model} {h:Heap} {K:PySem.W.Frag} {C:Addr}
end
section
variable {prog:Program} {w:World} {A:Around} {E:Value→Shared→Prop} {s:Shared} {K:PySem.W.Frag} {x C C2 f:Addr} {ox:Obj} {od:Option Obj} {b:Value}
end
section
variable {g:Gm} {W:WX} {k:Nat} {X:Cx}
end
end Vs
set_option maxRecDepth 100000
set_option maxHeartbeats 2000000
namespace Vs
open PySem PySem.Spec PyProof.Rows L2 Fw SX
section
variable {X:Cx}
end
def FnI (P:Program) (w:World) (K:PySem.W.Frag) (mg:Str→Option Value) (base:Heap) (k:Nat) (f:Addr) (fl:Str):Prop :=
 ∀ (A:Around) (outer:List PySem.Env) (s:Shared) (H:Hp) (Q:VK) (p C dx:Addr) (us:List (Str × V)) (l:Addr) (zs:List V),Rm k A→Env0 P w K mg base A outer s H→H p = some (.ins C dx us)→Cls K C→NoAttr K C fl→us.lookup fl = some (.ref l)→SqT K H l zs →
  (∀ it,H it = none→s.heap.objs.size≤it→Q (.ref it) (upd H it (ItT l it 0)))→codeAny (model P w) A (.call (.ref f) ⟨[.ref p],[]⟩) (CR (L2.CX P w) outer P w H s Q (fun _ _ _=>False)) s
theorem FnI.mono {P:Program} {w:World} {K:PySem.W.Frag} {mg:Str→Option Value} {base:Heap} {i k:Nat} {f:Addr} {fl:Str} (F:FnI P w K mg base i f fl) (h:i≤k):FnI P w K mg base k f fl:=fun A outer s H Q p C dx us l zs hr=>F A outer s H Q p C dx us l zs (hr.mono h)
section
variable {g:Gm} {W:WX} {k:Nat} {X:Cx} {tg ex:Expr}
end
end Vs
set_option maxRecDepth 100000
namespace Vs
open PySem PySem.Spec PyProof.Rows L2 Fw SX
section
variable {e:Ve}
end
end Vs
set_option maxRecDepth 100000
set_option maxHeartbeats 2000000
namespace PySem.SeqAt
open AutoSeq1 (wpAny_loadPart')
open MeetsSeq MeetsSeq2
open MeetsSeq3 SeqRoads2
section
variable {prog:Program} {w:World}
end
end PySem.SeqAt
namespace Vs
open PySem PySem.Spec PyProof.Rows L2 Fw SX NdefX
section
variable {X:Cx} {pins:List (Addr × Obj)} {σ:L2.St} {G H:Hp} {s:Shared} {g:Gm}
end
section
variable {g:Gm} {W:WX} {k:Nat} {X:Cx}
end
end Vs
set_option maxRecDepth 100000
namespace Vs
open PySem PySem.Spec PyProof.Rows L2 Fw SX
section
variable {g:Gm} {W:WX} {k:Nat} {X:Cx}
end
section
variable {e:Ve}
end
end Vs
set_option maxRecDepth 100000
namespace Vs
open PySem PySem.Spec PyProof.Rows L2 Fw SX
abbrev Gh:=List (Addr × D)
def InG (γ:Gh) (b:Addr):Prop:=∃ d,(b,d)∈γ
def Ic:D→Bool
 | .dct _=>true
 | .ins _ _=>true
 | _=>false
structure Gam (g:Gm) (G H:Hp) (σ:L2.St) (e:Ve) (γ:Gh):Prop where
 nd:(γ.map Prod.fst).Nodup
 kd:∀ b d,(b,d)∈γ→Ic d = true
 at_:∀ b d,(b,d)∈γ→G b = none∧Own g G H b d∧∀ i,¬ Rt σ e i b
structure St2 (g:Gm) (G H:Hp) (σ:L2.St) (e:Ve) (γ:Gh) (G' H':Hp) (σ':L2.St) (e':Ve) (γ':Gh):Prop where
 sr:SR g G' H' σ' e'
 gm:Gam g G' H' σ' e' γ'
 ln:e'.length = e.length
 le:Le G G'
 keep:∀ a o,H a = some o→(∀ i,¬ Rt σ e i a)→¬ InG γ a→(∀ ps,o≠.tbl ps)→H' a = some o
 dom:∀ a,H' a = none→H a = none
 new:∀ a,G a = none→H a≠none→(∀ i,¬ Rt σ e i a)→G' a = none
 rts:∀ i p,Rt σ' e' i p→(∃ j,Rt σ e j p)∨H p = none
 rto:∀ (i:Nat) d p,e'[i]? = some (.ow d)→σ'[i]? = some (some (.ref p))→(∃ (j:Nat) (d0:D),e[j]? = some (.ow d0)∧σ[j]? = some (some (.ref p)))∨H p = none
 bor:∀ (i:Nat) d,e[i]? = some (.bo d)→σ'[i]? = σ[i]?∧∃ d',e'[i]? = some (.bo d')∨e'[i]? = some (.bf d')
 bof:∀ (i:Nat) s,e[i]? = some s→Oa s = true→σ'[i]? = σ[i]?∧e'[i]? = some s
 nlo:∀ (i:Nat) d,e'[i]? = some (.lo d)→e[i]? = some (.lo d)
 gup:∀ b,InG γ b→InG γ' b
 gnw:∀ b,InG γ' b→InG γ b∨H b = none
section
variable {g:Gm} {G H G1 H1 G2 H2 G' H':Hp} {σ σ1 σ2 σ':L2.St} {e e1 e2 e':Ve} {γ γ1 γ2 γ':Gh}
theorem Gam.there (h:Gam g G H σ e γ) {b:Addr} (m:InG γ b):∃ o,H b = some o∧Pln o:=by
 obtain ⟨d,m⟩:=m
 obtain ⟨_,o,_⟩:=h.at_ b d m
 obtain ⟨ob,ho,pl,_⟩:=o.there
 exact ⟨ob,ho,pl⟩
theorem Gam.st (h:Gam g G H σ e γ) (t:St g G H σ e G' H' σ' e'):Gam g G' H' σ' e' γ:=⟨h.nd,h.kd,fun b d m=>by
 obtain ⟨n,o,r⟩:=h.at_ b d m
 obtain ⟨ob,ho,pl,_⟩:=o.there
 have k:=t.keep b ob ho r pl.nt
 refine ⟨t.new b n (by rw [ho]; exact fun z=>nomatch z) r,o.mono t.le (k.trans ho.symm),fun i q=>?_⟩
 rcases t.rts i b q with ⟨j,x⟩ | x
 ·exact r j x
 ·rw [ho] at x; cases x⟩
theorem St.st2 (t:St g G H σ e G' H' σ' e') (h:Gam g G H σ e γ):St2 g G H σ e γ G' H' σ' e' γ :=
 ⟨t.sr,h.st t,t.ln,t.le,fun a o x n _ nt=>t.keep a o x n nt,t.dom,t.new,t.rts,t.rto,t.bor,t.bof,t.nlo,fun _ m=>m,fun _ m=>.inl m⟩
theorem St2.refl (s:SR g G H σ e) (h:Gam g G H σ e γ):St2 g G H σ e γ G H σ e γ:=(St.refl s).st2 h
theorem St2.trans (a:St2 g G H σ e γ G1 H1 σ1 e1 γ1) (b:St2 g G1 H1 σ1 e1 γ1 G2 H2 σ2 e2 γ2):St2 g G H σ e γ G2 H2 σ2 e2 γ2:=by
 have nr:∀ x o,H x = some o→(∀ i,¬ Rt σ e i x)→∀ i,¬ Rt σ1 e1 i x:=fun x o h n i r=>by
  rcases a.rts i x r with ⟨j,q⟩ | q
  ·exact n j q
  ·rw [h] at q; cases q
 have ng:∀ x o,H x = some o→¬ InG γ x→¬ InG γ1 x:=fun x o h n m=>by
  rcases a.gnw x m with q | q
  ·exact n q
  ·rw [h] at q; cases q
 refine ⟨b.sr,b.gm,b.ln.trans a.ln,a.le.trans b.le,fun x o h n ni nt=>b.keep x o (a.keep x o h n ni nt) (nr x o h n) (ng x o h ni) nt,fun x h=>a.dom x (b.dom x h),fun x h1 h2 n=>?_,fun i p r=>?_,fun i d p h1 h2=>?_,fun i d h=>?_,fun i s h fx=>?_,fun i d h=>a.nlo i d (b.nlo i d h),fun x m=>b.gup x (a.gup x m),fun x m=>?_⟩
 ·obtain ⟨o,ho⟩:=Option.ne_none_iff_exists'.mp h2
  exact b.new x (a.new x h1 h2 n) (fun z=>h2 (a.dom x z)) (nr x o ho n)
 ·rcases b.rts i p r with ⟨j,q⟩ | q
  ·exact a.rts j p q
  ·exact .inr (a.dom p q)
 ·rcases b.rto i d p h1 h2 with ⟨j,d0,x,y⟩ | x
  ·exact a.rto j d0 p x y
  ·exact .inr (a.dom p x)
 ·obtain ⟨x1,d1,y1⟩:=a.bor i d h
  rcases y1 with y1 | y1
  ·obtain ⟨x2,y2⟩:=b.bor i d1 y1
   exact ⟨x2.trans x1,y2⟩
  ·obtain ⟨x2,y2⟩:=b.bof i _ y1 rfl
   exact ⟨x2.trans x1,d1,.inr y2⟩
 ·obtain ⟨x1,y1⟩:=a.bof i s h fx
  obtain ⟨x2,y2⟩:=b.bof i s y1 fx
  exact ⟨x2.trans x1,y2⟩
 ·rcases b.gnw x m with q | q
  ·exact a.gnw x q
  ·exact .inr (a.dom x q)
end
inductive O2 where
 | c (c:Ctl) | er (x:Exn)
abbrev P2:=O2→Ve→Gh→Prop
abbrev W2:=Ve→Gh→P2→Prop
def Post2 (g:Gm) (W:WX) (D:Ends) (σ:L2.St) (G H:Hp) (e:Ve) (γ:Gh):P2
 | .c .nx,e',γ'=>∀ σ' G' H',St2 g G H σ e γ G' H' σ' e' γ'→D.nx σ' H'
 | .c (.rt r),e',γ'=>∀ v σ' G' H',St2 g G H σ e γ G' H' σ' e' γ'→RvOk g G' H' σ' e' H r v→(∀ d p,r = .fresh d→v = .ref p→¬ InG γ' p)→D.rt v H'
 | .c .bk,e',γ'=>∀ σ' G' H',St2 g G H σ e γ G' H' σ' e' γ'→D.bk σ' H'
 | .c .ct,e',γ'=>∀ σ' G' H',St2 g G H σ e γ G' H' σ' e' γ'→D.ct σ' H'
 | .er x,e',γ'=>∀ cls d σ' G' H',St2 g G H σ e γ G' H' σ' e' γ'→XOk g G' x cls d→W cls d σ' H'
theorem Post2.step {g:Gm} {W:WX} {D:Ends} {σ σ1:L2.St} {G H G1 H1:Hp} {e e1:Ve} {γ γ1:Gh} (t:St2 g G H σ e γ G1 H1 σ1 e1 γ1):∀ o e' γ',Post2 g W D σ G H e γ o e' γ'→Post2 g W D σ1 G1 H1 e1 γ1 o e' γ':=fun o e' γ' h=>by
 cases o with
 | er x=>exact fun cls d σ' G' H' t2 xo=>h cls d σ' G' H' (t.trans t2) xo
 | c c =>
  cases c with
  | nx=>exact fun σ' G' H' t2=>h σ' G' H' (t.trans t2)
  | bk=>exact fun σ' G' H' t2=>h σ' G' H' (t.trans t2)
  | ct=>exact fun σ' G' H' t2=>h σ' G' H' (t.trans t2)
  | rt r=>exact fun v σ' G' H' t2 rv nf=>h v σ' G' H' (t.trans t2) (rv.h0 t.dom) nf
section
variable {g:Gm} {W:WX} {k:Nat} {X:Cx}
end
end Vs
set_option maxRecDepth 100000
namespace Vs
open PySem PySem.Spec PyProof.Rows L2 Fw SX
theorem inG_iff {γ:Gh} {b:Addr}:InG γ b↔b∈γ.map Prod.fst:=by
 constructor
 ·rintro ⟨d,m⟩
  exact List.mem_map.mpr ⟨_,m,rfl⟩
 ·intro h
  obtain ⟨q,m,e⟩:=List.mem_map.mp h
  exact ⟨q.2,by rw [← e]; exact m⟩
section
variable {g:Gm} {G H G1 H1:Hp} {σ σ1:L2.St} {e e1:Ve} {γ γ1:Gh}
theorem St2.cell {p:Addr} {d:D} (t:St2 g G H σ e γ G1 H1 σ1 e1 γ1) (h0:H p = none) (n:G1 p = none) (ow:Own g G1 H1 p d) (nr:∀ i,¬ Rt σ1 e1 i p) (ni:¬ InG γ1 p) (kd':Ic d = true):St2 g G H σ e γ G1 H1 σ1 e1 ((p,d) :: γ1):=by
 refine ⟨t.sr,⟨by rw [List.map_cons]; exact List.nodup_cons.mpr ⟨fun h=>ni (inG_iff.mpr h),t.gm.nd⟩,fun x u hx=>?_,fun x u hx=>?_⟩,t.ln,t.le,t.keep,t.dom,t.new,t.rts,t.rto,t.bor,t.bof,t.nlo,fun x h=>?_,fun x h=>?_⟩
 ·rcases List.mem_cons.mp hx with z | z
  ·cases z; exact kd'
  ·exact t.gm.kd x u z
 ·rcases List.mem_cons.mp hx with z | z
  ·cases z; exact ⟨n,ow,nr⟩
  ·exact t.gm.at_ x u z
 ·obtain ⟨u,hu⟩:=t.gup x h
  exact ⟨u,List.mem_cons_of_mem _ hu⟩
 ·obtain ⟨u,hu⟩:=h
  rcases List.mem_cons.mp hu with z | z
  ·cases z; exact .inr h0
  ·exact t.gnw x ⟨u,z⟩
end
section
variable {g:Gm} {W:WX} {k:Nat} {X:Cx}
end
end Vs
set_option maxRecDepth 100000
namespace Vs
open PySem PySem.Spec PyProof.Rows L2 Fw SX
structure Tr2 (g:Gm) (σ:L2.St) (G H:Hp) (e:Ve) (γ:Gh) (G' H':Hp) (e':Ve) (γ':Gh):Prop where
 sr:SR g G' H' σ e'
 gm:Gam g G' H' σ e' γ'
 le:Le G G'
 keep:∀ a o,H a = some o→(∀ i,¬ Rt σ e i a)→¬ InG γ a→(∀ ps,o≠.tbl ps)→H' a = some o
 dom:∀ a,H' a = none→H a = none
 new:∀ a,G a = none→H a≠none→(∀ i,¬ Rt σ e i a)→G' a = none
 ve:VeLe e e'
 gup:∀ b,InG γ b→InG γ' b
 gnw:∀ b,InG γ' b→InG γ b∨H b = none
section
variable {g:Gm} {G H G1 H1 G2 H2 G' H' H0:Hp} {σ:L2.St} {e e1 e2 e':Ve} {γ γ1 γ2 γ':Gh}
theorem Tr.tr2 (t:Tr g σ G H e G' H' e') (h:Gam g G H σ e γ):Tr2 g σ G H e γ G' H' e' γ :=
 ⟨t.sr,h.st t.st,t.le,fun a o x n _ nt=>t.keep a o x n nt,t.dom,t.new,t.ve,fun _ m=>m,fun _ m=>.inl m⟩
theorem Tr2.refl (s:SR g G H σ e) (h:Gam g G H σ e γ):Tr2 g σ G H e γ G H e γ:=(Tr.refl s).tr2 h
theorem Tr2.trans (a:Tr2 g σ G H e γ G1 H1 e1 γ1) (b:Tr2 g σ G1 H1 e1 γ1 G2 H2 e2 γ2):Tr2 g σ G H e γ G2 H2 e2 γ2:=by
 have ng:∀ x o,H x = some o→¬ InG γ x→¬ InG γ1 x:=fun x o h n m=>by
  rcases a.gnw x m with q | q
  ·exact n q
  ·rw [h] at q; cases q
 refine ⟨b.sr,b.gm,a.le.trans b.le,fun x o h n ni nt=>b.keep x o (a.keep x o h n ni nt) (fun i r=>n i (a.ve.rt r)) (ng x o h ni) nt,fun x h=>a.dom x (b.dom x h),fun x h1 h2 n=>b.new x (a.new x h1 h2 n) (fun z=>h2 (a.dom x z)) fun i r=>n i (a.ve.rt r),a.ve.trans b.ve,fun x m=>b.gup x (a.gup x m),fun x m=>?_⟩
 rcases b.gnw x m with q | q
 ·exact a.gnw x q
 ·exact .inr (a.dom x q)
theorem Tr2.st2 (a:Tr2 g σ G H e γ G1 H1 e1 γ1):St2 g G H σ e γ G1 H1 σ e1 γ1 :=
 ⟨a.sr,a.gm,a.ve.len,a.le,a.keep,a.dom,a.new,fun i p r=>.inl ⟨i,a.ve.rt r⟩,fun i d p h1 h2=>.inl (a.ve.owB h1 h2),fun i d h=>⟨rfl,by
  obtain ⟨s',h1,d',l⟩:=a.ve.at_ i _ h
  rcases l with rfl | rfl
  ·exact ⟨d',.inl h1⟩
  ·exact ⟨d',.inr h1⟩⟩,fun i s h fx=>⟨rfl,by
  obtain ⟨s',h1,l⟩:=a.ve.at_ i _ h
  cases s with
  | bf d=>cases l; exact h1
  | lo d=>cases l; exact h1
  | _=>cases fx⟩,fun i d h=>a.ve.nlo h,a.gup,a.gnw⟩
def RvOk2 (g:Gm) (G H:Hp) (σ:L2.St) (e:Ve) (γ:Gh) (H0:Hp) (r:Rv) (v:V):Prop:=RvOk g G H σ e H0 r v∧∀ d p,r = .fresh d→v = .ref p→¬ InG γ p
end
inductive Og (α:Type) where
 | v (a:α) | er (x:Exn)
abbrev E2 (α:Type):=Ve→Gh→(Og α→Ve→Gh→Prop)→Prop
def Ak {α:Type} (F:E2 α):Prop:=∀ (e:Ve) (γ:Gh) (P P':Og α→Ve→Gh→Prop),(∀ o e' γ',P o e' γ'→P' o e' γ')→F e γ P→F e γ P'
def Pst2 {α:Type} (g:Gm) (W:WX) (σ:L2.St) (G H:Hp) (e:Ve) (γ:Gh) (R:α→Hp→Hp→Ve→Gh→Prop):Og α→Ve→Gh→Prop
 | .v a,e',γ'=>∀ G' H',Tr2 g σ G H e γ G' H' e' γ'→R a G' H' e' γ'
 | .er x,e',γ'=>∀ cls d G' H',Tr2 g σ G H e γ G' H' e' γ'→XOk g G' x cls d→W cls d σ H'
def Bz {α β:Type} (A:E2 α) (k:α→E2 β):E2 β:=fun e γ P=>A e γ fun o e1 γ1=>match o with
 | .v a=>k a e1 γ1 P
 | .er x=>P (.er x) e1 γ1
theorem Pst2.bind {α β:Type} {g:Gm} {W:WX} {σ:L2.St} {G H:Hp} {e:Ve} {γ:Gh} {R:β→Hp→Hp→Ve→Gh→Prop} {A:E2 α} {k:α→E2 β} (ma:Ak A) (mk:∀ x,Ak (k x)) (h:Bz A k e γ (Pst2 g W σ G H e γ R)) :
  A e γ (Pst2 g W σ G H e γ fun a G1 H1 e1 γ1=>k a e1 γ1 (Pst2 g W σ G1 H1 e1 γ1 R)):=ma _ _ _ _ (fun o e1 γ1 z=>by
 cases o with
 | er x=>exact z
 | v a=>exact fun G1 H1 t1=>mk a _ _ _ _ (fun o2 e2 γ2 z2=>by
   cases o2 with
   | er x=>exact fun cls d G' H' t2=>z2 cls d G' H' (t1.trans t2)
   | v b=>exact fun G' H' t2=>z2 G' H' (t1.trans t2)) z) h
section
variable {g:Gm} {W:WX} {k:Nat} {X:Cx}
end
end Vs
set_option maxRecDepth 100000
namespace Vs
open PySem PySem.Spec PyProof.Rows L2 Fw SX
section
variable {g:Gm} {W:WX} {k:Nat} {X:Cx}
end
end Vs
set_option maxRecDepth 100000
namespace Vs
open PySem PySem.Spec PyProof.Rows L2 Fw SX
theorem Pst2.step {α:Type} {g:Gm} {W:WX} {σ:L2.St} {G H G1 H1:Hp} {e e1:Ve} {γ γ1:Gh} {R:α→Hp→Hp→Ve→Gh→Prop} (t:Tr2 g σ G H e γ G1 H1 e1 γ1):∀ o e' γ',Pst2 g W σ G H e γ R o e' γ'→Pst2 g W σ G1 H1 e1 γ1 R o e' γ':=fun o e' γ' h=>by
 cases o with
 | er x=>exact fun cls d G' H' t2=>h cls d G' H' (t.trans t2)
 | v a=>exact fun G' H' t2=>h G' H' (t.trans t2)
section
variable {g:Gm} {W:WX} {k:Nat} {X:Cx} {a b:Expr} {rest:List Expr} {A B:E2 Bool} {pos:Pos}
end
section
variable {g:Gm} {W:WX} {k:Nat} {X:Cx}
theorem Tr2.frz {G H G1 H1:Hp} {σ:L2.St} {e e1 e2:Ve} {γ γ1:Gh} {r:Rv} {v:V} {d:D} (t:Tr2 g σ G H e γ G1 H1 e1 γ1) (ok:RvOk2 g G1 H1 σ e1 γ1 H r v) (h:Bq r e1 = .ok d e2):∃ G2,Tr2 g σ G H e γ G2 H1 e2 γ1∧Rep g G2 d v:=by
 cases r with
 | val d'=>cases h; exact ⟨G1,t,ok.1⟩
 | slot i =>
  obtain ⟨G2,t2,rp⟩:=Mh (H:=H1) (r:=.slot i) (v:=v) (Tr.refl t.sr) ok.1 h
  exact ⟨G2,t.trans (t2.tr2 t.gm),rp⟩
 | fresh d' =>
  cases h
  obtain ⟨⟨p,ev,n,o,h0,nr⟩,nf2⟩:=ok
  have ni:¬ InG γ1 p:=nf2 d p rfl ev
  obtain ⟨ob,ho,nf,mk⟩:=o.there
  have le:=Le.upd (o:=ob) n
  have gr:SR g (upd G1 p ob) H1 σ e1:=by
   refine ⟨t.sr.bs.frz ho nf.nf,t.sr.tabs.mono (Le.upd n) (fun a ps e m=>by rw [upd_ne (fun z=>by rw [z,ho] at e; exact nf.nt ps (Option.some.inj e))]; exact m),t.sr.scr.mono (Le.upd n),t.sr.len,fun j=>?_,t.sr.inj⟩
   have slj:=t.sr.slot j
   cases q:e1[j]? with
   | none=>trivial
   | some s =>
    rw [q] at slj
    have ne:∀ p',Rt σ e1 j p'→p'≠p:=fun p' r z=>nr j (z ▸ r)
    cases s with
    | un=>trivial
    | sh d=>obtain ⟨v,ev,r⟩:=slj; exact ⟨v,ev,r.mono le⟩
    | bf d=>obtain ⟨v,ev,r⟩:=slj; exact ⟨v,ev,r.mono le⟩
    | lo d =>
     obtain ⟨p',ev,n',r⟩:=slj
     obtain ⟨ob',u',ho',_⟩:=r.there
     exact ⟨p',ev,by rw [upd_ne (fun z=>by rw [z,ho] at ho'; exact nf.nf _ _ (Option.some.inj ho'))]; exact n',r.mono le rfl⟩
    | ow d=>obtain ⟨p',ev,n',r⟩:=slj; exact ⟨p',ev,by rw [upd_ne (ne p' ⟨by rw [q]; trivial,ev⟩)]; exact n',r.mono le rfl⟩
    | bo d=>obtain ⟨p',ev,n',r⟩:=slj; exact ⟨p',ev,by rw [upd_ne (ne p' ⟨by rw [q]; trivial,ev⟩)]; exact n',r.mono le rfl⟩
  refine ⟨upd G1 p ob,⟨gr,⟨t.gm.nd,t.gm.kd,fun b u m=>?_⟩,t.le.trans le,t.keep,t.dom,fun a h1 h2 h3=>?_,t.ve,t.gup,t.gnw⟩,?_⟩
  ·obtain ⟨n1,o1,r1⟩:=t.gm.at_ b u m
   exact ⟨by rw [upd_ne (fun z=>ni (by rw [← z]; exact ⟨u,m⟩))]; exact n1,o1.mono le rfl,r1⟩
  ·rw [upd_ne (fun z=>h2 (by rw [z]; exact h0))]; exact t.new a h1 h2 h3
  ·rw [ev]; exact mk le upd_same
end
end Vs
set_option maxRecDepth 100000
namespace Vs
open PySem PySem.Spec PyProof.Rows L2 Fw SX
section
variable {g:Gm} {W:WX} {k:Nat} {X:Cx}
end
end Vs
set_option maxRecDepth 100000
namespace Vs
open PySem PySem.Spec PyProof.Rows L2 Fw SX
section
variable {g:Gm} {W:WX} {k:Nat} {X:Cx} {tg ex:Expr}
end
end Vs
set_option maxRecDepth 100000
namespace Vs
open PySem PySem.Spec PyProof.Rows L2 Fw SX
section
variable {g:Gm} {G H G1 H1:Hp} {σ σ1:L2.St} {e e1:Ve} {γ γ1:Gh} {i:Nat} {v:V} {s:Sl}
theorem T9 (hlt:i < e.length) (hlt2:i < σ.length) (hs:(∃ d,s = .sh d)∨∃ d p,s = .ow d∧v = .ref p) {j:Nat} {p:Addr} (r:Rt (σ.set i (some v)) (e.set i s) j p):Rt σ e j p∨∃ d,s = .ow d∧v = .ref p:=by
 obtain ⟨r1,r2⟩:=r
 rw [getElem?_set'] at r1 r2
 by_cases hj:i = j
 ·subst hj
  rw [if_pos ⟨rfl,hlt⟩] at r1
  rw [if_pos ⟨rfl,hlt2⟩] at r2
  cases r2
  rcases hs with ⟨d,rfl⟩ | ⟨d,p',rfl,ev⟩
  ·exact r1.elim
  ·exact .inr ⟨d,rfl,rfl⟩
 ·rw [if_neg (fun z=>hj z.1)] at r1 r2
  exact .inl ⟨r1,r2⟩
theorem St2.sto (h0:St2 g G1 H1 σ1 e1 γ1 G H σ e γ) (c:A0 e i = true) (hs:(∃ d,s = .sh d∧Rep g G d v)∨∃ d p,s = .ow d∧v = .ref p∧G p = none∧Own g G H p d∧∀ j,¬ Rt σ e j p)
  (nw:∀ d p,s = .ow d→v = .ref p→H1 p = none) (ng:∀ d p,s = .ow d→v = .ref p→¬ InG γ p):St2 g G1 H1 σ1 e1 γ1 G H (σ.set i (some v)) (e.set i s) γ:=by
 obtain ⟨hlt,nbo,nbf⟩:=Ks c
 have hlt2:i < σ.length:=by rw [← h0.sr.len]; exact hlt
 have hs2:(∃ d,s = .sh d)∨∃ d p,s = .ow d∧v = .ref p:=by
  rcases hs with ⟨d,a,_⟩ | ⟨d,p,a,b,_⟩
  ·exact .inl ⟨d,a⟩
  ·exact .inr ⟨d,p,a,b⟩
 have oth:∀ (j:Nat),i≠j→(e.set i s)[j]? = e[j]?∧(σ.set i (some v))[j]? = σ[j]?:=fun j n=>by
  rw [getElem?_set',getElem?_set',if_neg (fun z=>n z.1),if_neg (fun z=>n z.1)]
  exact ⟨rfl,rfl⟩
 have same:(e.set i s)[i]? = some s:=by rw [getElem?_set',if_pos ⟨rfl,hlt⟩]
 refine ⟨h0.sr.sto c hs,⟨h0.gm.nd,h0.gm.kd,fun b u m=>?_⟩,by rw [List.length_set]; exact h0.ln,h0.le,h0.keep,h0.dom,h0.new,fun j p r=>?_,fun j d p r1 r2=>?_,fun j d h=>?_,fun j s0 h fx=>?_,fun j d h=>?_,h0.gup,h0.gnw⟩
 ·obtain ⟨n,o,r⟩:=h0.gm.at_ b u m
  refine ⟨n,o,fun j q=>?_⟩
  rcases T9 hlt hlt2 hs2 q with y | ⟨d,y1,y2⟩
  ·exact r j y
  ·exact ng d b y1 y2 ⟨u,m⟩
 ·rcases T9 hlt hlt2 hs2 r with y | ⟨d,y1,y2⟩
  ·exact h0.rts j p y
  ·exact .inr (nw d p y1 y2)
 ·by_cases hj:i = j
  ·subst hj
   rw [same] at r1
   cases r1
   rw [getElem?_set',if_pos ⟨rfl,hlt2⟩] at r2
   cases r2
   exact .inr (nw d p rfl rfl)
  ·rw [(oth j hj).1] at r1
   rw [(oth j hj).2] at r2
   exact h0.rto j d p r1 r2
 ·obtain ⟨x1,d1,y1⟩:=h0.bor j d h
  by_cases hj:i = j
  ·subst hj
   rcases y1 with y1 | y1
   ·exact absurd y1 (nbo d1)
   ·exact absurd y1 (nbf _ rfl)
  ·rw [(oth j hj).1,(oth j hj).2]
   exact ⟨x1,d1,y1⟩
 ·obtain ⟨x1,y1⟩:=h0.bof j s0 h fx
  by_cases hj:i = j
  ·subst hj
   exact absurd y1 (nbf s0 fx)
  ·rw [(oth j hj).1,(oth j hj).2]
   exact ⟨x1,y1⟩
 ·by_cases hj:i = j
  ·subst hj
   rw [same] at h
   cases h
   rcases hs2 with ⟨_,z⟩ | ⟨_,_,z,_⟩ <;> cases z
  ·rw [(oth j hj).1] at h
   exact h0.nlo j d h
end
section
variable {g:Gm} {W:WX} {k:Nat} {X:Cx} {i:Nat}
end
end Vs
set_option maxRecDepth 100000
namespace Vs
open PySem PySem.Spec PyProof.Rows L2 Fw SX
section
variable {g:Gm} {G H G1 H1:Hp} {e1:Ve} {vs:List V} {as:List Sl} {N:List Str}
variable {γ γ1:Gh}
end
end Vs
set_option maxRecDepth 100000
namespace Vs
open PySem PySem.Spec PyProof.Rows L2 Fw SX
section
variable {g:Gm} {G H G1 H1:Hp} {e1:Ve} {vs:List V} {as:List Sl} {N:List Str}
variable {γ γ1:Gh}
end
end Vs
set_option maxRecDepth 100000
namespace Vs
open PySem PySem.Spec PyProof.Rows L2 Fw SX
end Vs
set_option maxRecDepth 100000
namespace Vs
open PySem PySem.Spec PyProof.Rows L2 Fw SX
section
variable {g:Gm} {G H G1 H1 G2 H2 H0:Hp} {σ:L2.St} {e e1:Ve} {rs:List Rv} {vs dvs:List V} {as as':List Sl} {dd:List D}
variable {γ γ1 γ2:Gh}
end
end Vs
set_option maxRecDepth 100000
namespace Vs
open PySem PySem.Spec PyProof.Rows L2 Fw SX
end Vs
set_option maxRecDepth 100000
namespace Vs
open PySem PySem.Spec PyProof.Rows L2 Fw SX
structure Drp (g:Gm) (G1 G2:Hp) (γ:Gh):Prop where
 eq:∀ a,¬ InG γ a→G2 a = G1 a
 no:∀ a,InG γ a→∀ u,G1 a = some u→(∃ vs,u = .dK vs)∨∃ c dx vs,u = .ins c dx vs
section
variable {g:Gm} {G1 G2:Hp} {γ:Gh}
theorem Drp.lst (h:Drp g G1 G2 γ) {a:Addr} {vs:List V} (q:G1 a = some (.lst vs)):G2 a = some (.lst vs):=by
 rw [h.eq a (fun m=>by
  rcases h.no a m _ q with ⟨_,z⟩ | ⟨_,_,_,z⟩ <;> cases z)]
 exact q
theorem Drp.sqT {K:PySem.W.Frag} (h:Drp g G1 G2 γ) {a:Addr} {vs:List V} (q:SqT K G1 a vs):SqT K G2 a vs:=by
 rcases q with (q | ⟨o,q⟩) | q
 ·refine .inl (.inl ?_)
  rw [h.eq a (fun m=>by
   rcases h.no a m _ q with ⟨_,z⟩ | ⟨_,_,_,z⟩ <;> cases z)]
  exact q
 ·refine .inl (.inr ⟨o,?_⟩)
  rw [h.eq a (fun m=>by
   rcases h.no a m _ q with ⟨_,z⟩ | ⟨_,_,_,z⟩ <;> cases z)]
  exact q
 ·exact .inr q
theorem Drp.ext (h:Drp g G1 G2 γ) {a:Addr} {u:HO} (q:G1 a = some u) (n:∀ vs,u≠.dK vs) (n2:∀ c dx vs,u≠.ins c dx vs):G2 a = some u:=by
 rw [h.eq a (fun m=>by
  rcases h.no a m _ q with ⟨_,z⟩ | ⟨_,_,_,z⟩
  ·exact n _ z
  ·exact n2 _ _ _ z)]
 exact q
end
section
variable {g:Gm} {G H G1 H1:Hp} {σ:L2.St} {e e1:Ve} {γ:Gh}
end
section
variable {g:Gm} {W:WX} {k:Nat} {X:Cx}
end
end Vs
set_option maxRecDepth 100000
set_option maxHeartbeats 2000000
namespace Vs
open PySem PySem.Spec PyProof.Rows L2 Fw SX
end Vs
set_option maxRecDepth 100000
namespace Vs
open PySem PySem.Spec PyProof.Rows L2 Fw SX
section
variable {g:Gm} {G H G1 H1 H0:Hp} {σ:L2.St} {e e1:Ve} {γ γ1:Gh}
end
section
variable {g:Gm} {W:WX} {k:Nat} {X:Cx}
end
end Vs
set_option maxRecDepth 100000
namespace Vs
open PySem PySem.Spec PyProof.Rows L2 Fw SX
section
variable {P:Program} {mg:Str→Option Value} {base:Heap} {g:Gm} {j:Nat} {f:Addr} {fd:FuncData} {ps:List Str} {F:E2 Rv}
end
section
variable {g:Gm} {W:WX} {k:Nat} {X:Cx} {σ:L2.St} {G H G1 H1:Hp} {e e1:Ve} {γ γ1:Gh}
end
section
open PySem.W
variable {M:Model} {A:Around} {E:Value→Shared→Prop} {s:Shared} {K:Frag} {x C f:Addr} {ox:Obj} {od:Option Obj} {i v:Value}
end
section
variable {g:Gm} {W:WX} {k:Nat} {X:Cx}
end
end Vs
set_option maxRecDepth 100000
namespace Vs
open PySem PySem.Spec PyProof.Rows L2 Fw SX
section
variable {g:Gm} {G H G1 H1:Hp} {σ:L2.St} {e e1:Ve} {γ γ1:Gh}
theorem Tr2.cell {p:Addr} {d:D} (t:Tr2 g σ G H e γ G1 H1 e1 γ1) (h0:H p = none) (n:G1 p = none) (ow:Own g G1 H1 p d) (nr:∀ i,¬ Rt σ e1 i p) (ni:¬ InG γ1 p) (kd':Ic d = true):Tr2 g σ G H e γ G1 H1 e1 ((p,d) :: γ1):=by
 refine ⟨t.sr,⟨by rw [List.map_cons]; exact List.nodup_cons.mpr ⟨fun h=>ni (inG_iff.mpr h),t.gm.nd⟩,fun x u hx=>?_,fun x u hx=>?_⟩,t.le,t.keep,t.dom,t.new,t.ve,fun x h=>?_,fun x h=>?_⟩
 ·rcases List.mem_cons.mp hx with z | z
  ·cases z; exact kd'
  ·exact t.gm.kd x u z
 ·rcases List.mem_cons.mp hx with z | z
  ·cases z; exact ⟨n,ow,nr⟩
  ·exact t.gm.at_ x u z
 ·obtain ⟨u,hu⟩:=t.gup x h
  exact ⟨u,List.mem_cons_of_mem _ hu⟩
 ·obtain ⟨u,hu⟩:=h
  rcases List.mem_cons.mp hu with z | z
  ·cases z; exact .inr h0
  ·exact t.gnw x ⟨u,z⟩
end
section
variable {g:Gm} {W:WX} {k:Nat} {X:Cx}
end
end Vs
set_option maxRecDepth 100000
set_option maxHeartbeats 2000000
namespace Vs
open PySem PySem.Spec PyProof.Rows L2 Fw SX
end Vs
set_option maxRecDepth 100000
set_option maxHeartbeats 2000000
namespace Vs
open PySem PySem.Spec PyProof.Rows L2 Fw SX
section
variable {g:Gm} {W:WX} {k:Nat} {X:Cx} {i j l:Nat}
end
end Vs
set_option maxRecDepth 100000
set_option maxHeartbeats 2000000
namespace Vs
open PySem PySem.Spec PyProof.Rows L2 Fw SX
section
variable {e e1 e2 e3:Ve} {γ:Gh} {P:P2} {A B:W2}
end
end Vs
set_option maxRecDepth 100000
set_option maxHeartbeats 2000000
namespace Vs
open PySem PySem.Spec PyProof.Rows L2 Fw SX
def Av (l it:Addr) (i:Nat):HO:=.ext fun h=>h.IsListIter it l i
section
variable {prog:Program} {w:World} {A:Around} {E:Value→Shared→Prop} {s:Shared}
end
section
variable {X:Cx} {pins:List (Addr × Obj)} {σ:L2.St} {A1:Around} {Rs:Result→Shared→Prop} {l it q:Addr} {zs:List V} {H0:Hp}
end
section
variable {X:Cx} {pins:List (Addr × Obj)} {σ:L2.St} {H:Hp} {s:Shared} {A1:Around} {Rs:Result→Shared→Prop} {k:Nat} {p q C dx l fi fl:Addr} {us:List (Str × V)} {f:Str} {zs:List V} {sp:Sp} {Q:VK}
end
section
variable {X:Cx} {k:Nat}
end
section
variable {X:Cx}
end
section
variable {g:Gm} {W:WX} {k:Nat} {X:Cx} {σ:L2.St} {G H G1 H1:Hp} {e e1:Ve} {Q:VK}
end
end Vs
set_option maxRecDepth 100000
set_option maxHeartbeats 2000000
namespace Vs
open PySem PySem.Spec PyProof.Rows L2 Fw SX
section
variable {X:Cx}
end
def FnIL (P:Program) (w:World) (K:PySem.W.Frag) (mg:Str→Option Value) (base:Heap) (k:Nat) (f:Addr) (fl:Str):Prop :=
 ∀ (A:Around) (outer:List PySem.Env) (s:Shared) (H:Hp) (Q:VK) (p C dx:Addr) (us:List (Str × V)) (l:Addr) (zs:List V),Rm k A→Env0 P w K mg base A outer s H→H p = some (.ins C dx us)→Cls K C→NoAttr K C fl→us.lookup fl = some (.ref l)→SqL K H l zs →
  (∀ it,H it = none→s.heap.objs.size≤it→Q (.ref it) (upd H it (Av l it 0)))→codeAny (model P w) A (.call (.ref f) ⟨[.ref p],[]⟩) (CR (L2.CX P w) outer P w H s Q (fun _ _ _=>False)) s
theorem FnIL.mono {P:Program} {w:World} {K:PySem.W.Frag} {mg:Str→Option Value} {base:Heap} {i k:Nat} {f:Addr} {fl:Str} (F:FnIL P w K mg base i f fl) (h:i≤k):FnIL P w K mg base k f fl:=fun A outer s H Q p C dx us l zs hr=>F A outer s H Q p C dx us l zs (hr.mono h)
section
variable {g:Gm} {W:WX} {k:Nat} {X:Cx} {tg ex:Expr}
end
end Vs
set_option maxRecDepth 100000
namespace Vs
open PySem PySem.Spec PyProof.Rows L2 Fw SX
section
variable {e:Ve}
end
end Vs
set_option maxRecDepth 100000
set_option maxHeartbeats 4000000
namespace La
open PySem PySem.Spec PyProof.Rows L2 Fw SX Vs
def Bm (i:Nat):Stmt:=PySem.Challenge.pw_foundaswritten_k44_stores_keep_texts.main.body.getD i (.Pass ⟨0,0,0,0⟩)
def Kv:List Nat:=[39,45,65,66,67,68,69,70,71,72,73,74,75,76,77,78,79,80,81,82,83,84,85,86,87,88,89,90,97,98,99,100,101,102,103,104,105,106,107,108,109,110,111,112,113,114,115,116,117,118,119,120,121,122]
def Et:List Nat:=[97,98,99,100,101,102,103,104,105,106,107,108,109,110,111,112,113,114,115,116,117,118,119,120,121,122]
abbrev Ie:Stmt:=Bm 63
abbrev Ig:Stmt:=inClass (Bm 25) 0
abbrev Ih:Stmt:=Bm 20
abbrev Gw:Stmt:=Bm 59
abbrev Fo:Stmt:=inClass (Bm 61) 1
abbrev Ii:Stmt:=inClass (Bm 61) 3
abbrev Ij:Stmt:=inClass (Bm 30) 0
abbrev Ik:Stmt:=Bm 64
abbrev Il:Stmt:=Bm 65
abbrev Gx:Stmt:=Bm 66
abbrev Gy:Stmt:=inClass (Bm 61) 9
abbrev Im:Stmt:=inClass (Bm 61) 7
def De:List Str:=["Chain", "House", "Store"]
abbrev Io:Stmt:=inClass (Bm 25) 1
abbrev Eu:Stmt:=inClass (Bm 30) 2
abbrev Ip:Stmt:=inClass (Bm 30) 1
abbrev Iq:Stmt:=inClass (Bm 30) 4
abbrev Ir:Stmt:=inClass (Bm 30) 3
abbrev Gz:Stmt:=Bm 68
abbrev G6:Stmt:=Bm 67
abbrev Iu:Stmt:=inClass (Bm 30) 6
abbrev Iv:Stmt:=inClass (Bm 30) 7
abbrev G7:Stmt:=Bm 18
abbrev Iw:Stmt:=Bm 29
abbrev Iy:Stmt:=inClass (Bm 30) 5
abbrev G8:Stmt:=Bm 69
def Ua:He.DefD:=⟨("_law_source",none), "_law_source", "_law_source",defArgs Ie,defBody Ie,defScope Ie,[],[]⟩
def Ub:He.DefD:=⟨("House",some "__init__"), "__init__", "House.__init__",defArgs Ig,defBody Ig,defScope Ig,[],[]⟩
def Uc:He.DefD:=⟨("check_letters",none), "check_letters", "check_letters",defArgs Ih,defBody Ih,defScope Ih,[],[]⟩
def Ud:He.DefD:=⟨("check_steps",none), "check_steps", "check_steps",defArgs Gw,defBody Gw,defScope Gw,[],[]⟩
def Ue:He.DefD:=⟨("Chain",some "__init__"), "__init__", "Chain.__init__",defArgs Fo,defBody Fo,defScope Fo,[],[("keep_places",.bl true)]⟩
def Ml:He.DefD:=⟨("Chain",some "plain"), "plain", "Chain.plain",defArgs Ii,defBody Ii,defScope Ii,[],[]⟩
def Ug:He.DefD:=⟨("Store",some "__init__"), "__init__", "Store.__init__",defArgs Ij,defBody Ij,defScope Ij,[],[]⟩
def Uh:He.DefD:=⟨("_law_pick",none), "_law_pick", "_law_pick",defArgs Ik,defBody Ik,defScope Ik,[],[]⟩
def Ui:He.DefD:=⟨("_law_one",none), "_law_one", "_law_one",defArgs Il,defBody Il,defScope Il,[],[]⟩
def Uj:He.DefD:=⟨("_law_name",none), "_law_name", "_law_name",defArgs Gx,defBody Gx,defScope Gx,[],[]⟩
def Uk:He.DefD:=⟨("Chain",some "__str__"), "__str__", "Chain.__str__",defArgs Gy,defBody Gy,defScope Gy,[],[]⟩
def Ul:He.DefD:=⟨("Chain",some "__eq__"), "__eq__", "Chain.__eq__",defArgs Im,defBody Im,defScope Im,[],[]⟩
def Um:He.DefD:=⟨("House",some "__eq__"), "__eq__", "House.__eq__",defArgs Io,defBody Io,defScope Io,[],[]⟩
def Uo:He.DefD:=⟨("Store",some "__iter__"), "__iter__", "Store.__iter__",defArgs Eu,defBody Eu,defScope Eu,[],[]⟩
def Uq:He.DefD:=⟨("Store",some "__len__"), "__len__", "Store.__len__",defArgs Ip,defBody Ip,defScope Ip,[],[]⟩
def Ur:He.DefD:=⟨("Store",some "__getitem__"), "__getitem__", "Store.__getitem__",defArgs Iq,defBody Iq,defScope Iq,[],[]⟩
def Us:He.DefD:=⟨("Store",some "__contains__"), "__contains__", "Store.__contains__",defArgs Ir,defBody Ir,defScope Ir,[],[]⟩
def Ut:He.DefD:=⟨("_law_right",none), "_law_right", "_law_right",defArgs Gz,defBody Gz,defScope Gz,[],[]⟩
def Uu:He.DefD:=⟨("_law_any_text",none), "_law_any_text", "_law_any_text",defArgs G6,defBody G6,defScope G6,[],[]⟩
def Uv:He.DefD:=⟨("Store",some "check_open"), "check_open", "Store.check_open",defArgs Iu,defBody Iu,defScope Iu,[],[]⟩
def Uw:He.DefD:=⟨("Store",some "remove"), "remove", "Store.remove",defArgs Iv,defBody Iv,defScope Iv,[],[]⟩
def Ux:He.DefD:=⟨("is_made_of",none), "is_made_of", "is_made_of",defArgs G7,defBody G7,defScope G7,[],[]⟩
def Uy:He.DefD:=⟨("check_name",none), "check_name", "check_name",defArgs Iw,defBody Iw,defScope Iw,[],[]⟩
def Uz:He.DefD:=⟨("Store",some "__setitem__"), "__setitem__", "Store.__setitem__",defArgs Iy,defBody Iy,defScope Iy,[],[]⟩
def U0:He.DefD:=⟨("law",none), "law", "law",defArgs G8,defBody G8,defScope G8,[],[]⟩
def fn:List He.DefD:=[Ua,Ub,Uc,Ud,Ue,Ug,Uh,Ui,Uj,Uk,Ul,Um,Uo,Uq,Ur,Us,Ut,Uu,Uv,Uw,Ux,Uy,Uz,U0]
def fr:List FarD:=[⟨Gu "staticmethod" "Chain" "plain",Ml⟩]
def fa:List He.Fa:=[.free "len",.free "abs",.free "int",.glo "House",.cls "House",.noat "House" "keep",.noat "House" "ask",.noat "House" "letters",.int "MOST_LETTERS" 4,.free "str",.free "isinstance",.free "enumerate",.str "CHARACTERS" (S Kv),.free "any",.glo "Rows",.glo "Beginnings",.glo "Chain",.cls "Chain",.noat "Chain" "letters",.noat "Chain" "steps",.noat "Chain" "keep_places",.noat "Chain" "front_steps",.noat "Chain" "rows",.noat "Chain" "back_steps",.glo "Store",.cls "Store",.noat "Store" "house",.noat "Store" "texts",.noat "Store" "names",.noat "Store" "is_shut",.free "range",.free "iter",.free "sorted",.free "list",.free "all",.int "MOST_IN_NAME" 12,.str "SMALL_LETTERS" (S Et),.free "min",.free "max",.glo "_law_source",.glo "check_letters",.glo "check_steps",.glo "_law_pick",.glo "_law_one",.glo "_law_name",.glo "_law_right",.glo "_law_any_text",.glo "is_made_of",.glo "check_name",.glo "law",.mkr "House",.mkr "Chain",.mkr "Store",.meth "Store" "check_open",.meth "Store" "remove"]
def ex:Ex:=[Fn "Rows" [("Chain",false),("House",false),("Store",false)],Fm ["Chain", "House", "Store"],Fn "Beginnings" [("Chain",false),("House",false),("Store",false)],Qj "Chain",N8 "Chain" "MOST" 6,Fn "Chain" [("Chain",true),("House",false),("Store",false)],Fn "House" [("Chain",false),("House",true),("Store",false)],farB ⟨Gu "staticmethod" "Chain" "plain",Ml⟩,smB "Chain" "plain",Bf "Chain" "Chain" "__str__",Bf "Chain" "Chain" "__eq__",nfB "Chain" De,Kt "Chain",Bf "House" "House" "__eq__",nfB "House" De,Kt "House",Bf "Store" "Store" "__iter__",Bf "Store" "Store" "__len__",Bf "Store" "Store" "__getitem__",Bf "Store" "Store" "__contains__",Bf "Store" "Store" "__setitem__",seqB "Store"]
def loose:List PySem.Str:=(["_wall", "FoundError", "BadLetters", "BadWord", "BadStep", "BadChain", "BadLine", "BadName", "LettersDiffer", "NoText", "Shut", "Reading", "CHARACTERS", "DIGITS", "MOST_LETTERS", "is_made_of", "is_integer", "check_letters", "is_word", "is_number"]:List PySem.Str) ++ (["items_of", "House", "SMALL_LETTERS", "MOST_IN_NAME", "check_name", "Store", "MOST_ENTRIES", "MOST_SIGNS", "MOST_WORDS", "is_string", "is_row", "is_book", "is_word_list", "check_word", "check_row", "Step", "Booked", "Bounded", "written", "Fold"]:List PySem.Str) ++ (["Doubles", "Cut", "Endings", "Lengths", "Leave", "Rows", "Beginnings", "read_book", "read_digits", "made_step", "read_step", "check_steps", "read_head", "Chain", "_law_source", "_law_pick", "_law_one", "_law_name", "_law_any_text", "_law_right"]:List PySem.Str)
abbrev R:PySem.W.OpenRow:=PySem.W.OpenLaw.row PySem.Challenge.rw_foundaswritten_k44_stores_keep_texts
def tf:List He.Defn:=[]
def xs:List Str:=(["_law_source", "House", "check_letters", "check_steps", "Chain", "Store", "_law_pick", "_law_one", "_law_name", "_law_right", "_law_any_text", "is_made_of", "check_name", "law", "Rows", "Beginnings"]:List Str)
def fs:List (PySem.W.Frag→Addr):=[Gu "staticmethod" "Chain" "plain"]
def xn:List XnD:=[]
abbrev hk:PySem.W.Hook:=T7 xs fs ex fa fn tf xn fr
def ob (s:PySem.W.SharedT):AlP:=Od xs fs ex fa fn tf xn fr (HandSHeadRun.getT s)
theorem run1 (w:World):Run1 R 14000 w:=by
 intro os
 kernel_rfl
theorem run2 (w:World):Run2 R (PySem.W.view R.prog [69]) 14000 loose w:=by
 intro os
 kernel_rfl
theorem run3 (w:World):Run3 R 14000 w ob (hk.val w):=by
 intro os
 kernel_rfl
theorem run (w:World):HandSHeadRun.RunEq R (PySem.W.view R.prog [69]) hk ob 14000 loose w:=Aa1 (run1 w) (run2 w) (run3 w)
end La
set_option Elab.async false
set_option linter.all false
set_option maxRecDepth 100000
set_option maxHeartbeats 2000000
namespace Fw
open PySem PySem.Spec PyProof.Rows L2
section
variable {P:Program} {w:World} {h h':Heap} {a:Addr} {L:List Str}
end
section
variable {P:Program} {w:World} {A:Around} {E:Value→Shared→Prop} {s:Shared} {a:Addr} {L:List Str}
end
end Fw
namespace Fw
open PySem PySem.Spec PyProof.Rows L2
section
variable {P:Program} {w:World}
end
end Fw
namespace Fw
open PySem PySem.Spec PyProof.Rows L2
section
variable {P:Program} {w:World} {A:Around} {E:Value→Shared→Prop} {s:Shared}
structure NoSet (P:Program) (w:World) (h0:Heap) (v:Value):Prop where
 set:∀ (A:Around) (E:Value→Shared→Prop) (Q:Bool→Shared→Prop) (s:Shared),(∀ b o,h0.get? b = some o→s.heap.get? b = some o)→Q false s→wpAny (model P w) A (Builtin.Frozenset.isAnySet v) Q E s
 dict:∀ (A:Around) (E:Value→Shared→Prop) (Q:Value→Shared→Prop) (s:Shared),(∀ b o,h0.get? b = some o→s.heap.get? b = some o)→(∀ T:Value,(T == .type "dict") = false→Q T s)→wpAny (model P w) A (typeOf v) Q E s
set_option maxHeartbeats 4000000 in
end
end Fw
set_option maxRecDepth 100000
set_option maxHeartbeats 2000000
namespace Fw
open PySem PySem.Spec PyProof.Rows L2
def leS (x y:Str):Bool:=!ltCps y.cps.toList x.cps.toList
theorem leS_iff {x y:Str}:leS x y = true↔¬ y.cps.toList < x.cps.toList:=by
 unfold leS
 rw [ltCps_eq]
 simp
theorem U1 (x y z:Str) (h1:leS x y = true) (h2:leS y z = true):leS x z = true:=by
 rw [leS_iff] at *
 have a:x.cps.toList≤y.cps.toList:=by simpa using h1
 have b:y.cps.toList≤z.cps.toList:=by simpa using h2
 simpa using List.le_trans a b
theorem Aa2 (x y:Str):(leS x y || leS y x) = true:=by
 rcases List.le_total x.cps.toList y.cps.toList with h | h
 ·have q:leS x y = true:=leS_iff.mpr (by simpa using h)
  rw [q]; rfl
 ·have q:leS y x = true:=leS_iff.mpr (by simpa using h)
  rw [q]; simp
theorem Oe {x y:Str} (h:x.cps.toList = y.cps.toList):x = y:=by
 cases x; cases y
 simp at h
 simp [h]
theorem Aa3 (x y:Str) (h1:leS x y = true) (h2:leS y x = true):x = y:=by
 rw [leS_iff] at *
 exact Oe (List.le_antisymm (by simpa using h1) (by simpa using h2))
def srt (xs:List Str):List Str:=xs.mergeSort leS
theorem Of (xs:List Str):(srt xs).Perm xs:=List.mergeSort_perm xs leS
theorem U2 (xs:List Str):(srt xs).Pairwise fun x y=>leS x y = true:=List.pairwise_mergeSort U1 Aa2 xs
theorem U3:∀ (xs:List Str) (p:Str),risingS p xs = true→(p :: xs).Pairwise fun x y=>leS x y = true
 | [],p,_=>by simp
 | x :: r,p,h=>by
  obtain ⟨h1,h2⟩:=Bool.and_eq_true_iff.mp (show (!ltCps x.cps.toList p.cps.toList && risingS x r) = true from h)
  have ih:=U3 r x h2
  refine List.pairwise_cons.mpr ⟨fun y hy=>?_,ih⟩
  rcases List.mem_cons.mp hy with z | z
  ·rw [z]; exact h1
  ·exact U1 p x y h1 ((List.pairwise_cons.mp ih).1 y z)
theorem Aa4 {xs:List Str} (h:sortedS xs = true):xs.Pairwise fun x y=>leS x y = true:=by
 cases xs with
 | nil=>exact List.Pairwise.nil
 | cons x r=>exact U3 r x h
theorem U4 {xs ys:List Str} (p:ys.Perm xs) (h:ys.Pairwise fun x y=>leS x y = true):ys = srt xs :=
 List.Perm.eq_of_pairwise (fun x y _ _ h1 h2=>Aa3 x y h1 h2) h (U2 xs) (p.trans (Of xs).symm)
theorem Aa5 {xs ys:List Str} (p:xs.Perm ys):srt xs = srt ys:=U4 ((Of xs).trans p) (U2 xs)
theorem Aa6 {xs:List Str} {x:Str}:x∈srt xs↔x∈xs:=(Of xs).mem_iff
theorem U5 (xs:List Str):(srt xs).length = xs.length:=(Of xs).length_eq
theorem once_mem:∀ {xs:List Str} {k:Str},k∈Ib xs↔k∈xs
 | [],_=>Iff.rfl
 | x :: r,k=>by
  unfold Ib
  by_cases c:x∈r
  ·rw [if_pos c,once_mem,List.mem_cons]
   exact ⟨.inr,fun z=>z.elim (fun e=>e ▸ c) id⟩
  ·rw [if_neg c,List.mem_cons,List.mem_cons,once_mem]
theorem Qm:∀ xs:List Str,(Ib xs).Nodup
 | []=>List.nodup_nil
 | x :: r=>by
  unfold Ib
  by_cases c:x∈r
  ·rw [if_pos c]; exact Qm r
  ·rw [if_neg c]
   exact List.nodup_cons.mpr ⟨fun z=>c (once_mem.mp z),Qm r⟩
def ups (xs:List Str):List Str:=srt (Ib xs)
theorem Aa7 {xs ys:List Str} (h1:xs.Nodup) (h2:ys.Nodup) (h:∀ k,k∈xs↔k∈ys):xs.Perm ys:=(List.perm_ext_iff_of_nodup h1 h2).mpr h
theorem Aa8 {L xs:List Str} (hL:L.Nodup) (h:∀ k,k∈L↔k∈xs):srt L = ups xs :=
 Aa5 (Aa7 hL (Qm xs) fun k=>by rw [h k,once_mem])
section
variable {X:Cx}
theorem Aa9 {pins:List (Addr × Obj)} {σ:L2.St} {H:Hp} {s:Shared} {a:Addr} {L:List Str} (I:Inv X pins σ H s) (ha:H a = some (Gr X.w a L)):TxSet X.w s.heap a L:=(I.hok a _ ha).1
section
variable {P:Program} {w:World} {A:Around} {E:Value→Shared→Prop} {s:Shared}
end
theorem Aba {P:Program} {w:World} {H:Hp} {h:Heap} {a:Addr} {o:HO} (x:ObjOk P w H h a o):∃ ob,h.get? a = some ob:=by
 cases o with
 | lst xs=>obtain ⟨_,_,_,_,e⟩:=x; exact ⟨_,e⟩
 | tup xs=>obtain ⟨_,_,_,_,e,_⟩:=x; exact ⟨_,e⟩
 | dK kvs=>obtain ⟨_,_,_,_,_,_,_,e,_⟩:=x; exact ⟨_,e⟩
 | dT kvs=>obtain ⟨_,_,_,_,_,_,_,e,_⟩:=x; exact ⟨_,e⟩
 | set S n=>obtain ⟨_,_,_,_,e,_⟩:=x; exact ⟨_,e⟩
 | ins C dx fs=>obtain ⟨_,_,_,e,_⟩:=x; exact ⟨_,e⟩
 | own y=>exact x
 | xd fs=>obtain ⟨_,⟨_,_,_,e,_⟩,_⟩:=x; exact ⟨_,e⟩
 | rng lo hi=>obtain ⟨_,_,_,e⟩:=x; exact ⟨_,e⟩
 | frz ob u=>obtain ⟨e,_⟩:=x; exact ⟨_,e⟩
 | tbl ps=>exact ⟨_,(show h.get? a = some _ from x)⟩
 | met f y=>exact ⟨_,(show h.get? a = some _ from x)⟩
 | ext φ=>exact x.2.1
theorem none_of {P:Program} {w:World} {H:Hp} {h:Heap} {a:Addr} (ok:HOk P w H h) (e:h.get? a = none):H a = none:=by
 cases q:H a with
 | none=>rfl
 | some o =>
  obtain ⟨ob,e2⟩:=Aba (ok a o q)
  rw [e] at e2
  cases e2
def U6 (w:World):List V→Hp→VK→Prop:=fun xs H Q=>∃ a L,xs = [V.ref a]∧H a = some (Gr w a L)∧Q (.int (L.length:Nat)) H
theorem cr_lenSet:CallR X (.builtin "len") (U6 X.w):=by
 intro pins s σ H xs us Q I r h
 obtain ⟨a,L,rfl,ha,q⟩:=h
 rw [Vals.ref1 r]
 obtain ⟨o,es,ep,t,ho,hex,hd,g,eL,nd,hb,hf,hr,hl⟩:=Aa9 I ha
 have e:L.length = es.size:=by rw [← eL]; simp
 refine call_len_set ho hex hd hf ?_ ⟨.int _,H,I.tok _,⟨_,rfl⟩,?_⟩
 ·rw [← e]
  have:L.length < 4096:=hb
  omega
 ·rw [← e]; exact q
end
end Fw
set_option maxRecDepth 100000
set_option maxHeartbeats 2000000
namespace Fw
open PySem PySem.Spec PyProof.Rows L2
section
variable {X:Cx} {x:Str} {ps:List Str} {k:Nat} {sp:Sp} {e:Expr} {es:List Expr} {t:TA} {p pos:Pos}
end
theorem pe_gs {X:Cx} {x z:Str} {t:Tok} {pos:Pos} (hm:X.mg x = some (.str z t)) (hg:Gl X x:=by rfl) (hdb:(x == ("__debug__" : Str)) = false:=by decide):PE X (.Name x pos) (tC (.str z)):=pe_glob hg hm ⟨t,rfl⟩ hdb
theorem pe_gi {X:Cx} {x:Str} {i:Int} {t:Tok} {pos:Pos} (hm:X.mg x = some (.int i t)) (hg:Gl X x:=by rfl) (hdb:(x == ("__debug__" : Str)) = false:=by decide):PE X (.Name x pos) (tC (.int i)):=pe_glob hg hm ⟨t,rfl⟩ hdb
section
variable {X:Cx} (K:PySem.W.Frag) (w:World)
theorem eqD (hu:X.A.units + 64 < cLine) (h:X.K = K:=by rfl):OpR X (compareOp .Eq) (rEqD K):=h ▸ op_eqD hu
def rLenC (K:PySem.W.Frag):List V→Hp→VK→Prop:=fun xs H Q=>∃ x n,xs = [x]∧LenV K x H n∧Q (.int n) H
def U7 (K:PySem.W.Frag):V→List V→Hp→VK→Prop:=fun x xs H Q=>∃ a p,∃ ys:List Str,x = .str a∧xs = [.ref p]∧(SqL K H p (ys.map V.str)∨SqT K H p (ys.map V.str)) ∧
 (ys.map (·.length)).sum + ys.length * a.length≤16777216∧Q (.str (Txt.join a ys)) H
theorem Abb {T:String} {name:Str} {id:String} {r:V→List V→Hp→VK→Prop} {o e:Expr} {es:List Expr} {to:TE} {t:TA} {apos cpos:Pos} (pa:PlainAttrs T) (slot:Slot T name id) (hty:typeOf (.builtin id) = pure (.type "method_descriptor")) (hm:MtR X id r) (ho:PE X o to) (ha:PA X (e :: es) t) (h:X.K = K:=by rfl)
  (hbase:attributeBase o name X.env (eval o X.env) = eval o X.env:=by rfl)
  (hfew:((backTo cpos (starEach (e :: es) X.env)).all (fun x=>!x.1) && (backToKw cpos (keywordEach [] X.env)).all (fun x=>x.1.isSome)
   && decide ((e :: es).length + ([]:List Keyword).length + (if ([]:List Keyword).isEmpty then 0 else 1) < 30)) = true:=by rfl)
  (hline:(apos.endLine == cpos.line) = true:=by rfl) (hs:starEach (e :: es) X.env = (false,eval e X.env) :: starEach es X.env:=by rfl) (hplain:(backTo cpos (starEach es X.env)).any (·.1) = false:=by rfl) :
  PE X (.Call (.Attribute o name apos) (e :: es) [] cpos) (tBM K T r to t):=h ▸ pe_bm pa slot hty hm ho ha hbase hfew hline hs hplain
end
def Iz (x:Str) (n:Nat):Str:=⟨(List.replicate n x.cps.toList).flatten.toArray⟩
theorem U8 (x:Array Nat):∀ (n:Nat) (acc:Array Nat),((List.replicate n x).foldl (·++ ·) acc).toList = acc.toList ++ (List.replicate n x.toList).flatten
 | 0,acc=>by simp
 | n + 1,acc=>by
  rw [List.replicate_succ,List.foldl_cons,U8 x n]
  simp [List.replicate_succ]
theorem Abd (x:Str) (k:Int) (hk:0≤k):Txt.mul x k = Iz x k.toNat:=by
 unfold Txt.mul
 apply Oe
 by_cases h1:k < 1
 ·have e:k = 0:=by omega
  subst e
  rw [if_pos h1]
  simp [Iz,Str.empty]
 ·rw [if_neg h1]
  by_cases h2:(k == 1 || x.length == 0) = true
  ·rw [if_pos h2]
   rcases Bool.or_eq_true_iff.mp h2 with h | h
   ·have e:k = 1:=by simpa using h
    subst e
    simp [Iz]
   ·have e:x.cps = #[]:=by
     have q:x.length = 0:=by simpa using h
     simpa [Str.length] using q
    simp [Iz,e]
  ·rw [if_neg h2]
   show ((List.replicate k.toNat x.cps).foldl (·++ ·) #[]).toList = _
   rw [U8]
   simp [Iz]
theorem op_mul_str {X:Cx}:OpR X (binaryOp .Mult) (fun x y H Q=>∃ z k,x = .str z∧y = .int k∧0≤k∧k≤100000∧z.length≤100∧Q (.str (Iz z k.toNat)) H):=by
 intro pins s σ H x y v u Q I rx ry h
 obtain ⟨z,k,rfl,rfl,h0,h1,h2,q⟩:=h
 obtain ⟨t,rfl⟩:=rx
 obtain ⟨t2,rfl⟩:=ry
 refine SB.mul ⟨?_,?_,?_⟩ fun t' tk=>⟨.str _,H,I.tok _,⟨_,rfl⟩,?_⟩
 ·have a:¬ k < -(2 ^ 63:Int):=by omega
  have b:¬ k ≥ 2 ^ 63:=by omega
  rw [decide_eq_false a,decide_eq_false b]
  rfl
 ·intro a b
  have hk:1≤k:=by omega
  have:(z.length:Int)≤100:=by omega
  have h3:100≤(2 ^ 63 - 1) / k:=by
   refine (Int.le_ediv_iff_mul_le (by omega)).mpr ?_
   omega
  omega
 ·intro a b
  have:z.length * k.toNat≤100 * 100000:=Nat.mul_le_mul h2 (by omega)
  have e:=sizeLine_eq
  unfold Builtin.Str.tooLong
  simp
  omega
 ·rw [Abd z k h0]; exact q
theorem _root_.L2.Same.mut {H H1:Hp} {p:Addr} {o:HO} (x:Same H H1) (h:H p = none):Same H (L2.upd H1 p o):=fun b u e=>by
 rw [upd_ne (ne_of_none e h)]
 exact x b u e
theorem Kb.push {b:Addr} {H H1:Hp} {p:Addr} {o:HO} (x:Kb b H H1) (h:H1 p = none):Kb b H (L2.upd H1 p o):=fun a u n e=>by
 have e1:=x a u n e
 rw [upd_ne (ne_of_none e1 h)]
 exact e1
theorem _root_.L2.Same.push {H H1:Hp} {p:Addr} {o:HO} (x:Same H H1) (h:H1 p = none):Same H (L2.upd H1 p o):=fun a u e=>by
 have e1:=x a u e
 rw [upd_ne (ne_of_none e1 h)]
 exact e1
open SX in
theorem Qn (l:List Nat):((l.map fun c=>S [c]).map (·.length)).sum = l.length:=by
 induction l with
 | nil=>rfl
 | cons a r ih =>
  rw [List.map_cons,List.map_cons,List.sum_cons,ih]
  show 1 + r.length = r.length + 1
  omega
open SX
theorem _root_.L2.Same.kb {b:Addr} {H H':Hp} (x:Same H H'):Kb b H H':=fun a o _ h=>x a o h
end Fw
set_option maxRecDepth 100000
set_option maxHeartbeats 2000000
namespace Fw
open PySem PySem.Spec PyProof.Rows L2
def Oh (x:Str):It :=
 ⟨fun i _=>i < x.cps.size,fun i H v H'=>∃ T c,v = .ref T∧H T = none∧x.cps[i]? = some c∧H' = upd H T (.tup [.int (i:Nat),.str ⟨#[c]⟩]),fun i _=>x.cps.size≤i⟩
theorem Abe {P:Program} {w:World} {K:PySem.W.Frag} {elts:List Expr} {kk:Nat} {tpos:Pos} (x:Str) (t:Tok) (e it:Addr) (ty:String) (hty:ty = "str_ascii_iterator"∨ty = "str_iterator") :
  Turn P w K (.Tuple elts kk tpos) (Oh x) [e,it] e (fun i h=>i≤x.cps.size∧(∃ old,IsEnum h e it ((i:Nat):Int) old)∧h.IsStrIter it ty x t i∧e≠it) where
 mem:=by simp
 obj:=fun i h st b hb=>by
  obtain ⟨_,⟨old,he⟩,⟨o,ho,hc,hd⟩,_⟩:=st
  have e':b = e∨b = it:=by simpa using hb
  rcases e' with z | z
  ·rw [z]; exact ⟨_,he,fun v q=>nomatch q⟩
  ·rw [z]; exact ⟨o,ho,fun v q=>by rw [hd] at q; cases q⟩
 keep:=fun i h h' st k=>let ⟨hl,⟨old,he⟩,⟨o,ho,r⟩,hne⟩:=st; ⟨hl,⟨old,k e (by simp) _ he⟩,⟨o,k it (by simp) o ho,r⟩,hne⟩
 item:=by
  intro X hP hw hK hc i pins s σ H E I hf st hg
  subst hP hw hK
  obtain ⟨hl,⟨old,he⟩,hit,hne⟩:=st
  have hel:e < s.heap.objs.size:=Heap.lt_size he
  have hil:it < s.heap.objs.size:=by obtain ⟨_,q,_⟩:=hit; exact Heap.lt_size q
  have D:Draws X.prog X.w X.A.in1 it [it] x.cps.size (fun i v=>∃ c u,x.cps[i]? = some c∧v = .str ⟨#[c]⟩ u) (fun i h=>h.IsStrIter it ty x t i):=by
   rcases hty with z | z
   ·rw [z]; exact Draws.strAscii (A:=X.A.in1) (I.ok.hd hc) it x t
   ·rw [z]; exact Draws.strWide (A:=X.A.in1) (I.ok.hd hc) it x t
  refine wpAny_pyNext_enum_itemD D he hit hg hne (by simpa using hne) fun v h' tk hv ho hit' hT hsz hk=>?_
  obtain ⟨c,u,hcx,rfl⟩:=hv
  refine ⟨_,rfl,wpAny_letOwnedTupleGo_enum (s:={ s with heap:=h',toks:=tk + 1 }) ho fun h'' he' sb=>?_⟩
  have hT2:h''.get? s.heap.objs.size = some { cls:=.type "tuple",data:=.seq #[.int i tk,.str ⟨#[c]⟩ u] }:=(sb.2 _ (Nat.ne_of_gt hel)).trans hT
  have new:ObjOk X.prog X.w (upd H s.heap.objs.size (.tup [.int (i:Nat),.str ⟨#[c]⟩])) h'' s.heap.objs.size (.tup [.int (i:Nat),.str ⟨#[c]⟩]) :=
   ⟨by show 2≤sizeLine; decide,[.int i tk,.str ⟨#[c]⟩ u],.cons ⟨_,rfl⟩ (.cons ⟨u,rfl⟩ .nil),⟨_,hT2,rfl,_,rfl⟩⟩
  have I1:Inv X pins σ (upd H s.heap.objs.size (.tup [.int (i:Nat),.str ⟨#[c]⟩])) { s with heap:=h'',toks:=tk + 1 } :=
   I.turnedNew (ch:=[e,it]) (fun b ob hb q=>(sb.2 b (fun z=>hb (by simp [z]))).trans (hk b ob (fun z=>hb (by simp [z])) (fun z=>hb (by simp [z])) q)) hf (Nat.le_refl _) new
  refine ⟨.ref s.heap.objs.size,_,I1,rfl,⟨_,c,rfl,I.hok.fresh (Nat.le_refl _),hcx,rfl⟩,⟨hg,⟨.str ⟨#[c]⟩ u,?_⟩,?_,hne⟩,fun b hb=>?_⟩
  ·have e1:((i + 1:Nat):Int) = (i:Int) + 1:=by omega
   rw [e1]; exact he'
  ·obtain ⟨o,q,r⟩:=hit'
   exact ⟨o,(sb.2 it (Ne.symm hne)).trans q,r⟩
  ·have hb':b < s.heap.objs.size:=by
    have e':b = e∨b = it:=by simpa using hb
    rcases e' with z | z
    ·rw [z]; exact hel
    ·rw [z]; exact hil
   rw [upd_ne (Nat.ne_of_lt hb')]
   exact (hf b hb).1
 done:=by
  intro X hP hw hK hc i pins s σ H E I hf st hg
  subst hP hw hK
  obtain ⟨hl,⟨old,he⟩,hit,hne⟩:=st
  have D:Draws X.prog X.w X.A.in1 it [it] x.cps.size (fun i v=>∃ c u,x.cps[i]? = some c∧v = .str ⟨#[c]⟩ u) (fun i h=>h.IsStrIter it ty x t i):=by
   rcases hty with z | z
   ·rw [z]; exact Draws.strAscii (A:=X.A.in1) (I.ok.hd hc) it x t
   ·rw [z]; exact Draws.strWide (A:=X.A.in1) (I.ok.hd hc) it x t
  obtain ⟨f0,f1,f2,f3,f4,f5⟩:=hf it (by simp)
  have ei:i = x.cps.size:=Nat.le_antisymm hl hg
  rw [ei] at hit
  exact wpAny_pyNext_enum_endD D he hit fun h' eb=>⟨rfl,I.turned (t':=s.toks) (fun b o hb q=>eb b o hb q) f0 f1 f3 f4 f5⟩
 self:=fun A i s Q E st h=>let ⟨_,⟨_,he⟩,_⟩:=st; wpAny_pyIter_enum he h
def Abf (ta:TA):TI:=fun σ H R=>ta σ H fun vs H1=>∃ x,vs = [.str x]∧R (Oh x) H1
theorem enumS {X:Cx} {e:Expr} {ta:TA} {p pos tpos:Pos} {elts:List Expr} {kk:Nat} (hm:X.mg "enumerate" = none) (ha:PA X [e] ta) (hg:Gl X "enumerate":=by rfl) (hs:starEach [e] X.env = [(false,eval e X.env)]:=by rfl) :
  PI X (.Tuple elts kk tpos) (.Call (.Name "enumerate" p) [e] [] pos) (Abf ta):=by
 refine ⟨fun pins s σ H R I h=>?_⟩
 refine Call_ (ld_blt I hg hm boot_enumerate (PyProof.Rows.callWith_type1 (thn (ha.run pos pins s σ H _ I h) fun us s1 ⟨vs,H1,I1,r1,q1⟩=>?_) hs rfl))
 obtain ⟨x,ex,q⟩:=q1
 subst ex
 cases r1 with
 | cons r rr =>
  cases rr
  obtain ⟨t,rfl⟩:=r
  refine call_enumerate_str fun h' he hit hsz hk=>wpAny_pyIter_enum he ?_
  have I2:Inv X pins σ H1 { s1 with heap:=h' }:=I1.kept (t':=s1.toks) hk
  have hty:strIterType x = "str_ascii_iterator"∨strIterType x = "str_iterator":=by
   unfold strIterType
   split
   ·exact .inl rfl
   ·exact .inr rfl
  refine ⟨s1.heap.objs.size + 1,[s1.heap.objs.size + 1,s1.heap.objs.size],_,_,H1,rfl,I2,Abe x t (s1.heap.objs.size + 1) s1.heap.objs.size _ hty,⟨Nat.zero_le _,⟨.none,he⟩,hit,Nat.succ_ne_self _⟩,fun b hb=>?_,q⟩
  have e':b = s1.heap.objs.size + 1∨b = s1.heap.objs.size:=by simpa using hb
  have hle:s1.heap.objs.size≤b:=by
   rcases e' with z | z
   ·rw [z]; exact Nat.le_add_right _ _
   ·rw [z]; exact Nat.le_refl _
  exact I1.fpOk hle (I1.hok.fresh hle)
theorem Qo {z:Str}:Walk (Oh z) z.cps.size (fun _=>True) (fun i H v H'=>∃ T c,v = .ref T∧H T = none∧z.cps[i]? = some c∧H' = upd H T (.tup [.int (i:Nat),.str ⟨#[c]⟩])) :=
 ⟨fun _ _ hi _=>hi,fun _ _=>Nat.le_refl _,fun _ _ _ _ _ _ y=>y⟩
end Fw
set_option maxRecDepth 100000
set_option maxHeartbeats 2000000
namespace Fw
open PySem PySem.Spec PyProof.Rows L2
section
variable {X:Cx} {CX:CXT} {x m:Str} {ps:List Str} {k:Nat} {sp:Sp} {E:XK} {e:Expr} {es:List Expr} {t:TA} {p apos pos:Pos} {pl:Sem Bool}
end
section
variable {X:Cx} {CX:CXT} {x m:Str} {ps:List Str} {k:Nat} {sp:Sp} {E:XK} {e:Expr} {es:List Expr} {t:TA} {p apos pos:Pos} {pl:Sem Bool}
end
section
variable {X:Cx} {CX:CXT} {x:Str} {C:Addr} {ps ks:List Str} {k n:Nat} {sp:Sp} {E:XK} {e fe:Expr} {es:List Expr} {tf:TE} {t tk:TA} {p pos:Pos} {kws:List Keyword} {gV:List V→List V→List V}
end
section
variable {X:Cx} (K:PySem.W.Frag)
theorem fldK {e:Expr} {ta:TE} {f:Str} {pos:Pos} (he:PE X e ta) (hb:attributeBase e f X.env (eval e X.env) = eval e X.env:=by rfl) (h:X.K = K:=by rfl):PE X (.Attribute e f pos) (tFld K ta f):=h ▸ pe_fld he hb
theorem Qp {o value:Expr} {ta tv:TE} {f:Str} {pos pos':Pos} (ha:PE X o ta) (hv:PE X value tv) (hs:swapsWith value (some (.Attribute o f pos')) pos.line X.env = pure false:=by rfl) (h:X.K = K:=by rfl) :
  PS X (.Assign [.Attribute o f pos'] value pos) (sFld K ta tv f):=h ▸ ps_fld ha hv hs
end
open SX in
theorem S_app (a b:List Nat):S a ++ S b = S (a ++ b):=by
 apply Oe
 show (a.toArray ++ b.toArray).toList = a ++ b
 simp
theorem pe_gr {X:Cx} {x:Str} {a:Addr} {pos:Pos} (hm:X.mg x = some (.ref a)) (hg:Gl X x:=by rfl) (hdb:(x == ("__debug__" : Str)) = false:=by decide):PE X (.Name x pos) (tC (.ref a)):=pe_glob (v:=.ref a) hg hm rfl hdb
open SX in
theorem U9:∀ xs:List (List Nat),TL.joinL [] xs = xs.flatten
 | []=>rfl
 | [x]=>by
  show x = _
  simp
 | x :: y :: r=>by
  show x ++ ([] ++ TL.joinL [] (y :: r)) = _
  rw [U9 (y :: r)]
  simp
section
open He
theorem Abg {x:Str} {K:PySem.W.Frag} (h:Qj x K = true):ClX.CRead K (ga K x) (.type "type"):=by
 refine ⟨h,?_⟩
 have h:PySem.W.readsIn K (ga K x) (.type "type") = true:=h
 unfold PySem.W.readsIn at h
 obtain ⟨h,_⟩:=ba h
 obtain ⟨h,_⟩:=ba h
 obtain ⟨h,h3⟩:=ba h
 obtain ⟨_,h2⟩:=ba h
 unfold PySem.W.specialIn
 rw [beq_iff_eq.mp h2,Option.bind_some]
 exact beq_iff_eq.mp h3
theorem Abh {x f:Str} {i:Int} {K:PySem.W.Frag} (h:N8 x f i K = true):∃ u,ClX.CVal K (ga K x) (.type "type") f (.int i) u:=by
 unfold N8 at h
 split at h
 ·rename_i j t e
  rw [of_decide_eq_true h] at e
  exact ⟨_,e,⟨t,rfl⟩⟩
 ·cases h
section
variable {ex:Ex} {fa:List Fa} {fn:List DefD} {K:PySem.W.Frag}
end
end
end Fw
set_option maxRecDepth 100000
set_option maxHeartbeats 2000000
namespace Vs
open PySem PySem.Spec PyProof.Rows L2 Fw SX
theorem Pln.nc {o:HO} (h:Pln o) (c:Addr) (q:Str):o≠LamX.CodeO c q:=fun z=>by subst z; exact h
theorem Oi {T:List (Addr × Str)} {G H:Hp} {p:Addr} {o:HO} (t:Tabs2 T G H) (h:∀ o,H p = some o→Pln o):Tabs2 T G (upd H p o):=t.kept fun a ps e=>by
 rw [upd_ne (fun z=>by rw [z] at e; exact (h _ e).nt ps rfl)]
 exact e
section
variable {g:Gm} {G H G1 H1 G2 H2:Hp} {σ σ1 σ2:L2.St} {e e1 e2:Ve}
theorem Bs.put (b:Bs G H) {p:Addr} {o:HO} (h:G p = none):Bs G (upd H p o):=⟨b.pl,fun a u e=>by
 rw [upd_ne (ne_of_none e h)]
 exact b.sub a u e⟩
theorem SlOk.grow (w:Grow G H G1 H1) {s:Option Sl} {o:Option (Option V)} (h:SlOk g G H s o):SlOk g G1 H1 s o:=by
 match s,h with
 | some (.sh d),⟨v,e,r⟩=>exact ⟨v,e,r.mono w.le⟩
 | some (.bf d),⟨v,e,r⟩=>exact ⟨v,e,r.mono w.le⟩
 | some (.ow d),⟨p,e,n,r⟩ =>
  obtain ⟨o,ho,_⟩:=r.there
  exact ⟨p,e,w.new p n (by rw [ho]; exact fun z=>nomatch z),r.mono w.le (by rw [w.keep _ _ ho,ho])⟩
 | some (.bo d),⟨p,e,n,r⟩ =>
  obtain ⟨o,ho,_⟩:=r.there
  exact ⟨p,e,w.new p n (by rw [ho]; exact fun z=>nomatch z),r.mono w.le (by rw [w.keep _ _ ho,ho])⟩
 | some (.lo d),⟨p,e,n,r⟩ =>
  obtain ⟨ob,u,ho,_⟩:=r.there
  exact ⟨p,e,w.new p n (by rw [ho]; exact fun z=>nomatch z),r.mono w.le (by rw [w.keep _ _ ho,ho])⟩
 | some .un,_=>trivial
 | none,_=>trivial
theorem SR.grow (s:SR g G H σ e) (w:Grow G H G1 H1):SR g G1 H1 σ e:=⟨w.bs,(s.tabs.mono w.le fun a ps e n=>w.new a n (by rw [e]; simp)).kept fun a ps e=>w.keep a _ e,(s.scr.mono w.le).keep fun _ _ h=>w.keep _ _ h,s.len,fun i=>(s.slot i).grow w,s.inj⟩
theorem Grow.tr (w:Grow G H G1 H1) (s:SR g G H σ e):Tr g σ G H e G1 H1 e:=⟨s.grow w,w.le,fun a o h _ _=>w.keep a o h,w.dom,fun a h1 h2 _=>w.new a h1 h2,VeLe.refl e⟩
end
theorem Va {s s':Sl} (h:SlLe s s') (n:s≠.un):s'≠.un:=by
 cases s with
 | un=>exact absurd rfl n
 | sh d=>cases h; exact n
 | bf d=>cases h; exact n
 | lo d=>cases h; exact n
 | ow d =>
  obtain ⟨d',rfl | rfl⟩:=h
  ·exact fun z=>nomatch z
  ·exact fun z=>nomatch z
 | bo d =>
  obtain ⟨d',rfl | rfl⟩:=h
  ·exact fun z=>nomatch z
  ·exact fun z=>nomatch z
theorem RvOk.tr {g:Gm} {G H G1 H1 H0:Hp} {σ:L2.St} {e e1:Ve} (t:Tr g σ G H e G1 H1 e1):∀ {r:Rv} {v:V},RvOk g G H σ e H0 r v→RvOk g G1 H1 σ e1 H0 r v
 | .val d,_,h=>Rep.mono t.le h
 | .slot i,_,⟨h,s,hs,n⟩=>by
  obtain ⟨s',h',l⟩:=t.ve.at_ i s hs
  exact ⟨h,s',h',Va l n⟩
 | .fresh d,_,⟨p,ev,n,o,h0,nr⟩=>by
  obtain ⟨ob,ho,pl,_⟩:=o.there
  exact ⟨p,ev,t.new p n (by rw [ho]; exact fun z=>nomatch z) nr,o.mono t.le (by rw [t.keep _ _ ho nr pl.nt,ho]),h0,fun i r=>nr i (t.ve.rt r)⟩
section
variable {g:Gm} {W:WX} {σ:L2.St} {G H:Hp} {e:Ve} {α β:Type}
end
def TV (g:Gm) (W:WX) (F:M Rv):TE:=fun σ H Q=>∃ G e,SR g G H σ e∧Pst g W σ G H e (fun r G' H' e'=>∀ v,RvOk g G' H' σ e' H r v→Q v H') (F e)
def TVT (g:Gm) (W:WX) (F:M Bool):TT:=fun σ H Q=>∃ G e,SR g G H σ e∧Pst g W σ G H e (fun b G' H' e'=>Q b H') (F e)
def TVA (g:Gm) (W:WX) (F:M (List Rv)):TA:=fun σ H Q=>∃ G e,SR g G H σ e∧Pst g W σ G H e (fun rs G' H' e'=>∀ vs,RvsOk g G' H' σ e' H rs vs→Q vs H') (F e)
def PstS (g:Gm) (W:WX) (D:Ends) (σ:L2.St) (G H:Hp) (e:Ve):Res Ctl→Prop
 | .ok .nx e'=>∀ σ' G' H',St g G H σ e G' H' σ' e'→D.nx σ' H'
 | .ok (.rt r) e'=>∀ v σ' G' H',St g G H σ e G' H' σ' e'→RvOk g G' H' σ' e' H r v→D.rt v H'
 | .ok .bk e'=>∀ σ' G' H',St g G H σ e G' H' σ' e'→D.bk σ' H'
 | .ok .ct e'=>∀ σ' G' H',St g G H σ e G' H' σ' e'→D.ct σ' H'
 | .er x e'=>∀ cls d σ' G' H',St g G H σ e G' H' σ' e'→XOk g G' x cls d→W cls d σ' H'
 | .no=>False
def TVS (g:Gm) (W:WX) (F:M Ctl):TS:=fun D σ H=>∃ G e,SR g G H σ e∧PstS g W D σ G H e (F e)
end Vs
set_option maxRecDepth 100000
set_option maxHeartbeats 2000000
namespace Vs
open PySem PySem.Spec PyProof.Rows L2 Fw SX
theorem Rm.deeper {k:Nat} {A:Around} (r:Rm (k + 1) A) (env:PySem.Env):Rm k (A.deeper env):=⟨r.toRoom.deeper env,r.gd⟩
structure VE (g:Gm) (W:WX) (k:Nat) (X:Cx) (e:Expr) (F:M Rv):Prop where
 run:Cd g W k X→PE X e (TV g W F)
structure VT (g:Gm) (W:WX) (k:Nat) (X:Cx) (e:Expr) (F:M Bool):Prop where
 run:Cd g W k X→PT X e (TVT g W F)
structure VA (g:Gm) (W:WX) (k:Nat) (X:Cx) (es:List Expr) (F:M (List Rv)):Prop where
 run:Cd g W k X→PA X es (TVA g W F)
structure VS (g:Gm) (W:WX) (k:Nat) (X:Cx) (st:Stmt) (F:M Ctl):Prop where
 run:Cd g W k X→PS X st (TVS g W F)
structure VSs (g:Gm) (W:WX) (k:Nat) (X:Cx) (st:List Stmt) (F:M Ctl):Prop where
 run:Cd g W k X→PSs X st (TVS g W F)
def Aa (i:Nat):M Rv:=fun e=>match e[i]? with
 | some (.sh d)=>.ok (.val d) e
 | some (.bf d)=>.ok (.val d) e
 | some (.ow _)=>.ok (.slot i) e
 | some (.bo _)=>.ok (.slot i) e
 | some (.lo _)=>.ok (.slot i) e
 | _=>.no
def fC (d:D):M Rv:=fun e=>.ok (.val d) e
section
variable {g:Gm} {W:WX} {k:Nat} {X:Cx}
theorem Qq {e:Expr} {F:M Rv} {t:TE} (h:Cd g W k X→PE X e t) (q:∀ σ H Q,TV g W F σ H Q→t σ H Q):VE g W k X e F:=⟨fun c=>PE.imp (h c) q⟩
theorem Ac {i:Nat} {x:Str} {pos:Pos} (hN:X.N[i]? = some x) (hv:Vis X.env.scope x) (hd:(x == ("__debug__" : Str)) = false:=by decide) (hcd:(x == ("__classdict__" : Str)) = false:=by decide):VE g W k X (.Name x pos) (Aa i):=by
 refine Qq (fun _=>pe_var hN hv hd hcd) fun σ H Q ⟨G,e,sr,h⟩=>?_
 have sl:=sr.slot i
 unfold Aa at h
 cases q:e[i]? with
 | none=>rw [q] at h; exact h.elim
 | some s =>
  rw [q] at h sl
  cases s with
  | un=>exact h.elim
  | sh d =>
   obtain ⟨v,ev,r⟩:=sl
   exact ⟨v,ev,h G H (Tr.refl sr) v r⟩
  | bf d =>
   obtain ⟨v,ev,r⟩:=sl
   exact ⟨v,ev,h G H (Tr.refl sr) v r⟩
  | ow d =>
   obtain ⟨p,ev,_⟩:=sl
   exact ⟨_,ev,h G H (Tr.refl sr) _ ⟨ev,_,q,fun z=>nomatch z⟩⟩
  | bo d =>
   obtain ⟨p,ev,_⟩:=sl
   exact ⟨_,ev,h G H (Tr.refl sr) _ ⟨ev,_,q,fun z=>nomatch z⟩⟩
  | lo d =>
   obtain ⟨p,ev,_⟩:=sl
   exact ⟨_,ev,h G H (Tr.refl sr) _ ⟨ev,_,q,fun z=>nomatch z⟩⟩
theorem I0 {e:Expr} {v:V} {d:D} (h:PE X e (tC v)) (r:∀ G,Rep g G d v):VE g W k X e (fC d) :=
 Qq (fun _=>h) fun σ H Q ⟨G,e,sr,h⟩=>h G H (Tr.refl sr) v (r G)
theorem Au {i:Int} {j pos}:VE g W k X (.Constant (.int i) j pos) (fC (.int i)):=I0 pe_int fun _=>rfl
theorem D1 {b:Bool} {j pos}:VE g W k X (.Constant (.bool b) j pos) (fC (.bl b)):=I0 pe_bl fun _=>rfl
theorem Qr {j pos}:VE g W k X (.Constant .none j pos) (fC .non):=I0 pe_non fun _=>rfl
theorem Cj {x:Str} {l:List Nat} {j pos} (h:x = S l:=by decide +kernel) (h2:l.all (·< 1114112) = true:=by decide +kernel):VE g W k X (.Constant (.str x) j pos) (fC (.str l)):=I0 pe_str fun _=>by rw [h]; exact ⟨rfl,fun c hc=>of_decide_eq_true (List.all_eq_true.mp h2 c hc)⟩
theorem Vb {x z:Str} {l:List Nat} {t:Tok} {pos:Pos} (hm:X.mg x = some (.str z t)) (h:z = S l:=by rfl) (h2:l.all (·< 1114112) = true:=by decide +kernel) (hg:Gl X x:=by rfl) (hdb:(x == ("__debug__" : Str)) = false:=by decide):VE g W k X (.Name x pos) (fC (.str l)):=I0 (pe_gs hm hg hdb) fun _=>by rw [h]; exact ⟨rfl,fun c hc=>of_decide_eq_true (List.all_eq_true.mp h2 c hc)⟩
theorem Vc {x:Str} {i:Int} {t:Tok} {pos:Pos} (hm:X.mg x = some (.int i t)) (hg:Gl X x:=by rfl) (hdb:(x == ("__debug__" : Str)) = false:=by decide):VE g W k X (.Name x pos) (fC (.int i)):=I0 (pe_gi hm hg hdb) fun _=>rfl
theorem I7 {x:Str} {T:String} {pos:Pos} (hm:X.mg x = none) (hv:bootBuiltins x = some (.type T)) (hg:Gl X x:=by rfl) (hn:x≠"__name__":=by decide) (hdb:(x == ("__debug__" : Str)) = false:=by decide):VE g W k X (.Name x pos) (fC (.con (.ty T))) :=
 I0 (pe_bltn (v:=.ty T) hg hm hv rfl hn hdb) fun _=>rfl
end
def Ad (F:M Rv):M Rv:=F.bind fun r=>(Bq r).map Rv.val
def Af (r:Rv) (e:Ve):Option D:=match r with
 | .val d=>some d
 | .fresh d=>some d
 | .slot i=>match e[i]? with
  | some (.sh d)=>some d
  | some (.bf d)=>some d
  | some (.ow d)=>some d
  | some (.bo d)=>some d
  | some (.lo (.dct k))=>some (.dct k)
  | _=>none
section
variable {g:Gm} {W:WX} {k:Nat} {X:Cx} {G H G1 H1 H0:Hp} {σ:L2.St} {e e1 e2:Ve} {r:Rv} {v:V} {d:D}
theorem B5 (sr:SR g G H σ e) (ok:RvOk g G H σ e H0 r v) (h:Af r e = some d):RepH g G H d v:=by
 cases r with
 | val d'=>cases h; exact .inl ok
 | fresh d' =>
  cases h
  obtain ⟨p,ev,n,o,_⟩:=ok
  exact .inr ⟨p,ev,n,o.r⟩
 | slot i =>
  obtain ⟨ev,s,es,ns⟩:=ok
  have sl:=sr.slot i
  unfold Af at h
  simp only at h
  rw [es] at h sl
  cases s with
  | un=>cases h
  | sh d' =>
   cases h
   obtain ⟨v',ev',r'⟩:=sl
   rw [ev'] at ev; cases ev
   exact .inl r'
  | bf d' =>
   cases h
   obtain ⟨v',ev',r'⟩:=sl
   rw [ev'] at ev; cases ev
   exact .inl r'
  | ow d' =>
   cases h
   obtain ⟨p,ev',n,r'⟩:=sl
   rw [ev'] at ev; cases ev
   exact .inr ⟨p,rfl,n,r'.r⟩
  | bo d' =>
   cases h
   obtain ⟨p,ev',n,r'⟩:=sl
   rw [ev'] at ev; cases ev
   exact .inr ⟨p,rfl,n,r'.r⟩
  | lo d' =>
   cases d' <;> try cases h
   obtain ⟨p,ev',n,r'⟩:=sl
   rw [ev'] at ev; cases ev
   obtain ⟨_,_,_,o⟩:=r'.there
   exact .inr ⟨p,rfl,n,o _ rfl⟩
theorem Vd {x:Exn}:Bq r e1≠.er x e2:=by
 unfold Bq
 split
 ·exact fun z=>nomatch z
 ·exact fun z=>nomatch z
 ·split <;> exact fun z=>nomatch z
theorem Abi {F:M Rv} {Q:VK} (h:TV g W (Ad F) σ H Q):TV g W F σ H Q:=by
 obtain ⟨G,e,sr,h⟩:=h
 refine ⟨G,e,sr,?_⟩
 unfold Ad M.bind at h
 revert h
 cases F e with
 | no=>exact fun h=>h
 | er x e'=>exact fun h=>h
 | ok r e1 =>
  intro h G1 H1 t1 v ok
  unfold M.map M.bind at h
  simp only at h
  cases q:Bq r e1 with
  | no=>rw [q] at h; exact h.elim
  | er x e'=>exact absurd q Vd
  | ok d e2 =>
   rw [q] at h
   obtain ⟨G2,t2,rp⟩:=Mh t1 ok q
   exact h G2 H1 t2 v rp
theorem Ar {ex:Expr} {F:M Rv} (h:VE g W k X ex F):VE g W k X ex (Ad F):=⟨fun c=>PE.imp (h.run c) fun _ _ _ q=>Abi q⟩
end
theorem SR.scrL {g:Gm} {G H:Hp} {σ:L2.St} {e:Ve} (sr:SR g G H σ e):SqL g.K H g.sa (g.sn.map .int):=by
 rcases sr.scr with ⟨o,h⟩ | h | h
 ·exact .inl (.inr ⟨o,h⟩)
 ·exact h H
 ·exact .inl (.inl ((sr.bs.sub _ _ h).elim id fun z=>nomatch z.1))
def fOp (f:D→D→Option Rv) (A B:M Rv):M Rv:=A.bind fun a=>B.bind fun b=>fun e=>match Af a e,Af b e with
 | some x,some y=>(match f x y with | some r=>.ok r e | none=>.no)
 | _,_=>.no
section
variable {g:Gm} {W:WX} {k:Nat} {X:Cx}
theorem Ds {r:R2} {f:D→D→Option Rv} {A B:M Rv} {σ:L2.St} {H:Hp} {Q:VK} (hv:OpV g r f) (h:TV g W (fOp f A B) σ H Q):tOp r (TV g W A) (TV g W B) σ H Q:=by
 obtain ⟨G,e,sr,h⟩:=h
 refine ⟨G,e,sr,Pst.mono (Pst.bind h) fun a G1 H1 e1 t1 h1 v ok1=>⟨G1,e1,t1.sr,Pst.mono (Pst.bind h1) fun b G2 H2 e2 t2 h2 y ok2=>?_⟩⟩
 have ok1:=ok1.tr t2
 cases qa:Af a e2 with
 | none=>simp only [qa] at h2; exact h2.elim
 | some da =>
  cases qb:Af b e2 with
  | none=>simp only [qa,qb] at h2; exact h2.elim
  | some db =>
   cases qf:f da db with
   | none=>simp only [qa,qb,qf] at h2; exact h2.elim
   | some out =>
    simp only [qa,qb,qf] at h2
    refine hv G2 H2 da db v y out Q t2.sr.bs t2.sr.scrL (B5 t2.sr ok1 qa) (B5 t2.sr ok2 qb) qf fun z G3 H3 gr nw=>h2 G3 H3 (gr.tr t2.sr) z (nw.ok t2.sr fun p hp=>t1.dom p (t2.dom p hp))
theorem Kw {op:Operator} {r:R2} {f:D→D→Option Rv} {a b:Expr} {A B:M Rv} {pos:Pos} (ho:Cd g W k X→OpR X (binaryOp op) r) (hv:OpV g r f) (ha:VE g W k X a A) (hb:VE g W k X b B):VE g W k X (.BinOp a op b pos) (fOp f A B) :=
 ⟨fun c=>PE.imp (pe_op (ho c) (ha.run c) (hb.run c)) fun _ _ _ q=>Ds hv q⟩
theorem Abj {op:CmpOp} {r:R2} {f:D→D→Option Rv} {a b:Expr} {A B:M Rv} {pos:Pos} (ho:Cd g W k X→OpR X (compareOp op) r) (hv:OpV g r f) (ha:VE g W k X a A) (hb:VE g W k X b B) (hm:behindInMarks op b = false):VE g W k X (.Compare a [op] [b] pos) (fOp f A B) :=
 ⟨fun c=>PE.imp (pe_cmpR (ho c) (ha.run c) (hb.run c) hm) fun _ _ _ q=>Ds hv q⟩
end
def A8 (F:M Rv):M Bool:=F.bind fun r e=>match r with
 | .val (.bl b)=>.ok b e
 | _=>.no
section
variable {g:Gm} {W:WX} {k:Nat} {X:Cx}
theorem Mm {F:M Rv} {σ:L2.St} {H:Hp} {Q:Bool→Hp→Prop} (h:TVT g W (A8 F) σ H Q):TV g W F σ H fun x H1=>∃ b,x = .bl b∧Q b H1:=by
 obtain ⟨G,e,sr,h⟩:=h
 refine ⟨G,e,sr,Pst.mono (Pst.bind h) fun a G1 H1 e1 t1 h1 v ok1=>?_⟩
 cases a with
 | val d =>
  cases d with
  | bl b=>exact ⟨b,ok1,h1 G1 H1 (Tr.refl t1.sr)⟩
  | _=>exact h1.elim
 | _=>exact h1.elim
theorem Abk {op:CmpOp} {r:R2} {f:D→D→Option Rv} {a b:Expr} {A B:M Rv} {pos:Pos} (ho:Cd g W k X→OpR X (compareOp op) r) (hv:OpV g r f) (ha:VE g W k X a A) (hb:VE g W k X b B) (hm:behindInMarks op b = false):VT g W k X (.Compare a [op] [b] pos) (A8 (fOp f A B)) :=
 ⟨fun c=>PT.imp (pt_cmpR (ho c) (ha.run c) (hb.run c) hm) fun σ H Q q=>by
  obtain ⟨G,e,sr,q⟩:=Mm q
  exact Ds hv ⟨G,e,sr,q⟩⟩
end
end Vs
set_option maxRecDepth 100000
set_option maxHeartbeats 2000000
namespace Vs
open PySem PySem.Spec PyProof.Rows L2 Fw SX
def Ag:M (List Rv):=M.ret []
def Ab (A:M Rv) (B:M (List Rv)):M (List Rv):=A.bind fun a=>B.bind fun bs=>M.ret (a :: bs)
section
variable {g:Gm} {W:WX} {k:Nat} {X:Cx} {G H G1 H1 H0 H00:Hp} {σ:L2.St} {e e1 e2:Ve}
theorem RvsOk.tr (t:Tr g σ G H e G1 H1 e1):∀ {rs:List Rv} {vs:List V},RvsOk g G H σ e H0 rs vs→RvsOk g G1 H1 σ e1 H0 rs vs
 | [],_,h=>h
 | _ :: _,_,⟨v,r,ev,a,b,c⟩=>⟨v,r,ev,a.tr t,RvsOk.tr t b,c⟩
theorem Aj:VA g W k X [] Ag:=⟨fun _=>PA.imp pa_nil fun σ H Q ⟨G,e,sr,h⟩=>h G H (Tr.refl sr) [] rfl⟩
theorem Ae {ex:Expr} {es:List Expr} {A:M Rv} {B:M (List Rv)} (ha:VE g W k X ex A) (hb:VA g W k X es B) (hs:starEach (ex :: es) X.env = (false,eval ex X.env) :: starEach es X.env:=by rfl):VA g W k X (ex :: es) (Ab A B):=by
 refine ⟨fun c=>PA.imp (pa_cons (ha.run c) (hb.run c) hs) fun σ H Q ⟨G,e,sr,h⟩=>?_⟩
 refine ⟨G,e,sr,Pst.mono (Pst.bind h) fun a G1 H1 e1 t1 h1 v ok1=>⟨G1,e1,t1.sr,Pst.mono (Pst.bind h1) fun bs G2 H2 e2 t2 h2 vs ok2=>?_⟩⟩
 refine h2 G2 H2 (Tr.refl t2.sr) (v :: vs) ⟨v,vs,rfl,ok1.tr t2,ok2.h0 t1.dom,fun d p er ev d' u m z=>?_⟩
 obtain ⟨p',eu,hp'⟩:=ok2.new d' u m
 rw [z] at eu
 cases eu
 subst er
 obtain ⟨p1,ev1,_,o,_⟩:=ok1
 rw [ev] at ev1
 cases ev1
 obtain ⟨ob,ho,_⟩:=o.there
 rw [ho] at hp'
 cases hp'
end
def Bk:List Rv→Ve→Option (List D)
 | [],_=>some []
 | r :: rs,e=>match Af r e,Bk rs e with
  | some d,some ds=>some (d :: ds)
  | _,_=>none
def Ao (f:List D→Option Rv) (A:M (List Rv)):M Rv:=A.bind fun rs e=>match Bk rs e with
 | some ds=>(match f ds with | some r=>.ok r e | none=>.no)
 | none=>.no
section
variable {g:Gm} {W:WX} {k:Nat} {X:Cx} {G H G1 H1 H0 H00:Hp} {σ:L2.St} {e e1 e2:Ve}
theorem Qs (sr:SR g G H σ e):∀ {rs:List Rv} {vs:List V} {ds:List D},RvsOk g G H σ e H0 rs vs→Bk rs e = some ds→RepsH g G H ds vs
 | [],_,ds,h,q=>by cases q; exact h
 | r :: rs,_,ds,⟨v,t,ev,a,b,_⟩,q=>by
  unfold Bk at q
  cases q1:Af r e with
  | none=>rw [q1] at q; simp at q
  | some d =>
   cases q2:Bk rs e with
   | none=>rw [q1,q2] at q; simp at q
   | some ds' =>
    rw [q1,q2] at q
    cases q
    exact ⟨v,t,ev,B5 sr a q1,Qs sr b q2⟩
theorem Vf {r:List V→Hp→VK→Prop} {f:List D→Option Rv} {A:M (List Rv)} {Q:VK} (hv:CallV g r f) (h:TV g W (Ao f A) σ H Q):TVA g W A σ H fun vs H1=>r vs H1 Q:=by
 obtain ⟨G,e,sr,h⟩:=h
 refine ⟨G,e,sr,Pst.mono (Pst.bind h) fun rs G1 H1 e1 t1 h1 vs ok1=>?_⟩
 cases q:Bk rs e1 with
 | none=>simp only [q] at h1; exact h1.elim
 | some ds =>
  cases qf:f ds with
  | none=>simp only [q,qf] at h1; exact h1.elim
  | some out =>
   simp only [q,qf] at h1
   exact hv G1 H1 ds vs out Q t1.sr.bs t1.sr.scrL (Qs t1.sr ok1 q) qf fun z G3 H3 gr nw=>h1 G3 H3 (gr.tr t1.sr) z (nw.ok t1.sr t1.dom)
theorem G9 {id:String} {x:Str} {r:List V→Hp→VK→Prop} {f:List D→Option Rv} {ex:Expr} {es:List Expr} {A:M (List Rv)} {p pos:Pos} (hc:Cd g W k X→CallR X (.builtin id) r) (hv:CallV g r f) (hg:Gl X x) (hm:X.mg x = none) (hb:bootBuiltins x = some (.builtin id)) (ha:VA g W k X (ex :: es) A)
  (hn:x≠"__name__":=by decide) (hdb:(x == ("__debug__" : Str)) = false:=by decide) (he:starEach (ex :: es) X.env = (false,eval ex X.env) :: starEach es X.env:=by rfl) (hpl:(backTo pos (starEach es X.env)).any (·.1) = false:=by rfl):VE g W k X (.Call (.Name x p) (ex :: es) [] pos) (Ao f A) :=
 ⟨fun c=>PE.imp (pe_callB (hc c) hg hm hb (ha.run c) hn hdb he hpl) fun _ _ _ q=>Vf hv q⟩
theorem Abl {T:String} {x:Str} {r:List V→Hp→VK→Prop} {f:List D→Option Rv} {ex:Expr} {es:List Expr} {A:M (List Rv)} {p pos:Pos} (hc:Cd g W k X→CallR X (.type T) r) (hv:CallV g r f) (hg:Gl X x) (hm:X.mg x = none) (hb:bootBuiltins x = some (.type T)) (ha:VA g W k X (ex :: es) A)
  (hn:x≠"__name__":=by decide) (hdb:(x == ("__debug__" : Str)) = false:=by decide) (he:starEach (ex :: es) X.env = (false,eval ex X.env) :: starEach es X.env:=by rfl) (hpl:(backTo pos (starEach es X.env)).any (·.1) = false:=by rfl):VE g W k X (.Call (.Name x p) (ex :: es) [] pos) (Ao f A) :=
 ⟨fun c=>PE.imp (pe_callTy (hc c) hg hm hb (ha.run c) hn hdb he hpl) fun _ _ _ q=>Vf hv q⟩
end
def B6:List Rv→Option (List D)
 | []=>some []
 | .val d :: rs=>(B6 rs).map (d :: ·)
 | _ :: _=>none
def Fp (A:M (List Rv)):M Rv:=A.bind fun rs e=>match B6 rs with
 | some ds=>if ds.length≤sizeLine then .ok (.fresh (.lst ds)) e else .no
 | none=>.no
def Ky (A:M (List Rv)):M Rv:=A.bind fun rs e=>match B6 rs with
 | some ds=>if ds.length≤sizeLine then .ok (.val (.tup ds)) e else .no
 | none=>.no
section
variable {g:Gm} {W:WX} {k:Nat} {X:Cx} {G H G1 H1 H0 H00:Hp} {σ:L2.St} {e e1 e2:Ve}
theorem Qt:∀ {rs:List Rv} {vs:List V} {ds:List D},RvsOk g G H σ e H0 rs vs→B6 rs = some ds→Reps g G ds vs
 | [],_,ds,h,q=>by cases q; exact h
 | .val d :: rs,_,ds,⟨v,t,ev,a,b,_⟩,q=>by
  unfold B6 at q
  cases q2:B6 rs with
  | none=>rw [q2] at q; simp at q
  | some ds' =>
   rw [q2] at q
   cases q
   exact ⟨v,t,ev,a,Qt b q2⟩
 | .slot _ :: rs,_,ds,_,q=>by cases q
 | .fresh _ :: rs,_,ds,_,q=>by cases q
theorem Kz {es:List Expr} {A:M (List Rv)} {pos:Pos} (ha:VA g W k X es A):VE g W k X (.List es pos) (Fp A):=by
 refine ⟨fun c=>PE.imp (pe_lst (ha.run c)) fun σ H Q ⟨G,e,sr,h⟩=>?_⟩
 refine ⟨G,e,sr,Pst.mono (Pst.bind h) fun rs G1 H1 e1 t1 h1 vs ok1=>?_⟩
 cases q:B6 rs with
 | none=>simp only [q] at h1; exact h1.elim
 | some ds =>
  simp only [q] at h1
  by_cases hl:ds.length≤sizeLine
  ·rw [if_pos hl] at h1
   have rp:=Qt ok1 q
   refine ⟨by rw [rp.len]; exact hl,fun p np=>?_⟩
   have gr:=Grow.lay (o:=HO.lst vs) t1.sr.bs np
   exact h1 G1 _ (gr.tr t1.sr) (.ref p) (RvNew.ok t1.sr t1.dom (r:=.fresh (.lst ds)) ⟨p,rfl,t1.sr.bs.hn np,⟨vs,upd_same,rp⟩,np⟩)
  ·rw [if_neg hl] at h1; exact h1.elim
theorem Vg {es:List Expr} {A:M (List Rv)} {x1} {pos:Pos} (ha:VA g W k X es A):VE g W k X (.Tuple es x1 pos) (Ky A):=by
 refine ⟨fun c=>PE.imp (pe_tup (ha.run c)) fun σ H Q ⟨G,e,sr,h⟩=>?_⟩
 refine ⟨G,e,sr,Pst.mono (Pst.bind h) fun rs G1 H1 e1 t1 h1 vs ok1=>?_⟩
 cases q:B6 rs with
 | none=>simp only [q] at h1; exact h1.elim
 | some ds =>
  simp only [q] at h1
  by_cases hl:ds.length≤sizeLine
  ·rw [if_pos hl] at h1
   have rp:=Qt ok1 q
   refine ⟨by rw [rp.len]; exact hl,fun p np=>?_⟩
   have gr:=Grow.lay2 (o:=HO.tup vs) t1.sr.bs np (fun _ _ z=>nomatch z)
   exact h1 _ _ (gr.tr t1.sr) (.ref p) (show Rep g _ (.tup ds) (.ref p) from ⟨p,vs,rfl,.of upd_same,rp.mono gr.le⟩)
  ·rw [if_neg hl] at h1; exact h1.elim
end
def Ew (A:M Bool):M Bool:=A.map (! ·)
def Fq (A B:M Bool):M Bool:=A.bind fun c=>if c = true then B else M.ret false
def fOr (A B:M Bool):M Bool:=A.bind fun c=>if c = true then M.ret true else B
def B7 {α:Type} (C:M Bool) (A B:M α):M α:=C.bind fun c=>if c = true then A else B
def B0:D→Option Bool
 | .non=>some false
 | .bl b=>some b
 | .int i=>some (i != 0)
 | .str l=>if l.length≤sizeLine then some (!l.isEmpty) else none
 | .lst ds=>some (!ds.isEmpty)
 | .tup ds=>some (!ds.isEmpty)
 | _=>none
def B9 (A:M Rv):M Bool:=A.bind fun r e=>match Af r e with
 | some d=>(match B0 d with | some b=>.ok b e | none=>.no)
 | none=>.no
structure VW (g:Gm) (W:WX) (k:Nat) (X:Cx) (e:Expr) (F:M Bool):Prop where
 run:Cd g W k X→PW X e (TVT g W F)
section
variable {g:Gm} {W:WX} {k:Nat} {X:Cx} {G H G1 H1 H0 H00:Hp} {σ:L2.St} {e e1 e2:Ve} {a b c:Expr} {rest:List Expr} {A B:M Bool} {pos:Pos}
theorem RepH.lstR (bs:Bs G H) {ds:List D} {v:V} (h:RepH g G H (.lst ds) v):∃ a vs,v = .ref a∧H a = some (.lst vs)∧Reps g G ds vs:=by
 rcases h with ⟨a,vs,e,q,r⟩ | ⟨p,e,n,vs,q,r⟩
 ·exact ⟨a,vs,e,bs.at_ q rfl,r⟩
 ·exact ⟨p,vs,e,q,r⟩
theorem RepH.okS {l:List Nat} {v:V} (h:RepH g G H (.str l) v):OkS l:=by
 rcases h with h | ⟨p,e,n,o⟩
 ·exact h.2
 ·exact o.elim
theorem Reps.emp {ds:List D} {vs:List V} (h:Reps g G ds vs):vs.isEmpty = ds.isEmpty:=by
 cases ds with
 | nil=>rw [show vs = [] from h]; rfl
 | cons d r=>obtain ⟨v,t,e,_⟩:=h; rw [e]; rfl
theorem Qu (bs:Bs G H) {d:D} {v:V} {b:Bool} (r:RepH g G H d v) (h:B0 d = some b):TruV g.K v H b:=by
 cases d with
 | non=>cases h; rw [r.non]; rfl
 | bl b'=>cases h; rw [r.bl]; rfl
 | int i=>cases h; rw [r.int]; rfl
 | str l =>
  rw [r.str]
  simp only [B0] at h
  by_cases hl:l.length≤sizeLine
  ·rw [if_pos hl] at h
   cases h
   refine ⟨by rw [S_len]; exact hl,?_⟩
   rw [S_len]
   cases l with
   | nil=>rfl
   | cons c r=>symm; simp; omega
  ·rw [if_neg hl] at h; cases h
 | lst ds =>
  cases h
  obtain ⟨a,vs,e,q,r⟩:=r.lst bs
  rw [e]
  exact .inl ⟨vs,q,by rw [r.emp]⟩
 | tup ds =>
  cases h
  obtain ⟨a,vs,e,q,r⟩:=r.tup bs
  rw [e]
  exact .inr (.inl ⟨vs,q,by rw [r.emp]⟩)
 | _=>cases h
theorem Abm {F:M Rv} {Q:Bool→Hp→Prop} (h:TVT g W (B9 F) σ H Q):TV g W F σ H fun x H1=>∃ k,TruV g.K x H1 k∧Q k H1:=by
 obtain ⟨G,e,sr,h⟩:=h
 refine ⟨G,e,sr,Pst.mono (Pst.bind h) fun a G1 H1 e1 t1 h1 v ok1=>?_⟩
 cases q:Af a e1 with
 | none=>simp only [q] at h1; exact h1.elim
 | some d =>
  cases q2:B0 d with
  | none=>simp only [q,q2] at h1; exact h1.elim
  | some b =>
   simp only [q,q2] at h1
   exact ⟨b,Qu t1.sr.bs (B5 t1.sr ok1 q) q2,h1 G1 H1 (Tr.refl t1.sr)⟩
theorem Dg {F:M Rv} (h:VE g W k X a F) (he:∀ whole,isTrue a X.env whole = (do let v ← whole; standAt a.pos; holding [v] (truthy v)):=by intro _; rfl):VT g W k X a (B9 F) :=
 ⟨fun c=>PT.imp (pt_truth (h.run c) he) fun σ H Q q=>by rw [c.K]; exact Abm q⟩
theorem Hb (h:VT g W k X a A):VT g W k X (.UnaryOp .Not a pos) (Ew A) :=
 ⟨fun c=>PT.imp (pt_not (h.run c)) fun σ H Q ⟨G,e,sr,q⟩=>⟨G,e,sr,Pst.mono (Pst.bind q) fun b G1 H1 e1 t1 h1=>h1 G1 H1 (Tr.refl t1.sr)⟩⟩
theorem Qv (h:VT g W k X a A):VW g W k X (.BoolOp .And [a] pos) A:=⟨fun c=>pw_and1 (h.run c)⟩
theorem Ft (h:VT g W k X a A):VW g W k X (.BoolOp .Or [a] pos) A:=⟨fun c=>pw_or1 (h.run c)⟩
theorem VW.vt (h:VW g W k X a A):VT g W k X a A:=⟨fun c=>(h.run c).pt⟩
theorem Qw (h:VT g W k X a A) (h2:VW g W k X (.BoolOp .And (b :: rest) pos) B):VW g W k X (.BoolOp .And (a :: b :: rest) pos) (Fq A B) :=
 ⟨fun c=>PW.imp (pw_and (h.run c) (h2.run c)) fun σ H Q ⟨G,e,sr,q⟩=>⟨G,e,sr,Pst.mono (Pst.bind q) fun b G1 H1 e1 t1 h1=>by
  cases b with
  | true=>exact ⟨G1,e1,t1.sr,h1⟩
  | false=>exact h1 G1 H1 (Tr.refl t1.sr)⟩⟩
theorem D3 (h:VT g W k X a A) (h2:VW g W k X (.BoolOp .Or (b :: rest) pos) B):VW g W k X (.BoolOp .Or (a :: b :: rest) pos) (fOr A B) :=
 ⟨fun c=>PW.imp (pw_or (h.run c) (h2.run c)) fun σ H Q ⟨G,e,sr,q⟩=>⟨G,e,sr,Pst.mono (Pst.bind q) fun b G1 H1 e1 t1 h1=>by
  cases b with
  | false=>exact ⟨G1,e1,t1.sr,h1⟩
  | true=>exact h1 G1 H1 (Tr.refl t1.sr)⟩⟩
theorem Pst.shift {F:Res Rv} {Q:VK} (t:Tr g σ G H e G1 H1 e1) (h:Pst g W σ G1 H1 e1 (fun r G' H' e'=>∀ v,RvOk g G' H' σ e' H r v→Q v H') F):Pst g W σ G1 H1 e1 (fun r G' H' e'=>∀ v,RvOk g G' H' σ e' H1 r v→Q v H') F :=
 Pst.mono h fun r G' H' e' _ q v ok=>q v (ok.h0 t.dom)
theorem Qx {C:M Bool} {F1 F2:M Rv} (hc:VT g W k X c C) (ha:VE g W k X a F1) (hb:VE g W k X b F2):VE g W k X (.IfExp c a b pos) (B7 C F1 F2) :=
 ⟨fun cd=>PE.imp (pe_ifExp (hc.run cd) (ha.run cd) (hb.run cd)) fun σ H Q ⟨G,e,sr,q⟩=>⟨G,e,sr,Pst.mono (Pst.bind q) fun b G1 H1 e1 t1 h1=>by
  cases b with
  | true=>exact ⟨G1,e1,t1.sr,Pst.shift t1 h1⟩
  | false=>exact ⟨G1,e1,t1.sr,Pst.shift t1 h1⟩⟩⟩
def Ey (A B:M Rv):M Rv:=A.bind fun r e=>match Af r e with
 | some d=>(match B0 d with | some true=>B e | some false=>.ok r e | none=>.no)
 | none=>.no
def Oj (A B:M Rv):M Rv:=A.bind fun r e=>match Af r e with
 | some d=>(match B0 d with | some false=>B e | some true=>.ok r e | none=>.no)
 | none=>.no
def fNotV (A:M Rv):M Rv:=(B9 A).map fun b=>.val (.bl (!b))
theorem K0 {op} {F:M Rv} (h:VE g W k X a F):VE g W k X (.BoolOp op [a] pos) F:=⟨fun c=>pe_one (h.run c)⟩
theorem I8 {F1 F2:M Rv} (ha:VE g W k X a F1) (hb:VE g W k X (.BoolOp .And (b :: rest) pos) F2):VE g W k X (.BoolOp .And (a :: b :: rest) pos) (Ey F1 F2) :=
 ⟨fun c=>PE.imp (pe_andT (ha.run c) (hb.run c)) fun σ H Q ⟨G,e,sr,q⟩=>by
  rw [c.K]
  refine ⟨G,e,sr,Pst.mono (Pst.bind q) fun r G1 H1 e1 t1 h1 v ok1=>?_⟩
  cases q1:Af r e1 with
  | none=>simp only [q1] at h1; exact h1.elim
  | some d =>
   cases q2:B0 d with
   | none=>simp only [q1,q2] at h1; exact h1.elim
   | some b =>
    simp only [q1,q2] at h1
    refine ⟨b,Qu t1.sr.bs (B5 t1.sr ok1 q1) q2,?_⟩
    cases b with
    | true=>exact ⟨G1,e1,t1.sr,Pst.shift t1 h1⟩
    | false=>exact h1 G1 H1 (Tr.refl t1.sr) v ok1⟩
theorem ve_or {F1 F2:M Rv} (ha:VE g W k X a F1) (hb:VE g W k X (.BoolOp .Or (b :: rest) pos) F2):VE g W k X (.BoolOp .Or (a :: b :: rest) pos) (Oj F1 F2) :=
 ⟨fun c=>PE.imp (pe_orT (ha.run c) (hb.run c)) fun σ H Q ⟨G,e,sr,q⟩=>by
  rw [c.K]
  refine ⟨G,e,sr,Pst.mono (Pst.bind q) fun r G1 H1 e1 t1 h1 v ok1=>?_⟩
  cases q1:Af r e1 with
  | none=>simp only [q1] at h1; exact h1.elim
  | some d =>
   cases q2:B0 d with
   | none=>simp only [q1,q2] at h1; exact h1.elim
   | some b =>
    simp only [q1,q2] at h1
    refine ⟨b,Qu t1.sr.bs (B5 t1.sr ok1 q1) q2,?_⟩
    cases b with
    | false=>exact ⟨G1,e1,t1.sr,Pst.shift t1 h1⟩
    | true=>exact h1 G1 H1 (Tr.refl t1.sr) v ok1⟩
def K1 (f f':D→D→Option Rv) (A B C:M Rv):M Rv:=A.bind fun a=>B.bind fun b e=>match Af a e,Af b e with
 | some x,some y=>(match f x y with
  | some (.val (.bl true))=>(C.bind fun c e2=>match Af b e2,Af c e2 with
   | some y2,some z=>(match f' y2 z with | some r=>.ok r e2 | none=>.no)
   | _,_=>.no) e
  | some (.val (.bl false))=>.ok (.val (.bl false)) e
  | _=>.no)
 | _,_=>.no
theorem Abn {r r':R2} {f f':D→D→Option Rv} {A B C:M Rv} {Q:VK} (hv:OpV g r f) (hv':OpV g r' f') (h:TV g W (K1 f f' A B C) σ H Q):tChain r r' (TV g W A) (TV g W B) (TV g W C) σ H Q:=by
 obtain ⟨G,e,sr,h⟩:=h
 refine ⟨G,e,sr,Pst.mono (Pst.bind h) fun a G1 H1 e1 t1 h1 v ok1=>⟨G1,e1,t1.sr,Pst.mono (Pst.bind h1) fun b G2 H2 e2 t2 h2 y ok2=>?_⟩⟩
 have ok1:=ok1.tr t2
 cases qa:Af a e2 with
 | none=>simp only [qa] at h2; exact h2.elim
 | some da =>
  cases qb:Af b e2 with
  | none=>simp only [qa,qb] at h2; exact h2.elim
  | some db =>
   simp only [qa,qb] at h2
   have fin:∀ bo,f da db = some (.val (.bl bo))→(∀ z G3 H3,Grow G2 H2 G3 H3→z = V.bl bo→∃ k,z = .bl k∧(if k = true then TV g W C σ H3 (fun w' H4=>r' y w' H4 Q) else Q (.bl false) H3))→r v y H2 fun z H3=>∃ k,z = .bl k∧(if k = true then TV g W C σ H3 (fun w' H4=>r' y w' H4 Q) else Q (.bl false) H3):=fun bo qf q =>
    hv G2 H2 da db v y _ _ t2.sr.bs t2.sr.scrL (B5 t2.sr ok1 qa) (B5 t2.sr ok2 qb) qf fun z G3 H3 gr nw=>q z G3 H3 gr nw
   cases qf:f da db with
   | none=>simp only [qf] at h2; exact h2.elim
   | some out =>
    match out,qf with
    | .val (.bl true),qf =>
     simp only [qf] at h2
     refine fin true qf fun z G3 H3 gr ez=>⟨true,ez,?_⟩
     have t3:=gr.tr t2.sr
     have h3:=h2
     rw [if_pos rfl]
     refine ⟨G3,e2,t3.sr,?_⟩
     have h4:Pst g W σ G3 H3 e2 (fun r G' H' e'=>∀ v,RvOk g G' H' σ e' H r v→Q v H') ((C.bind fun c e2=>match Af b e2,Af c e2 with
      | some y2,some z=>(match f' y2 z with | some r=>.ok r e2 | none=>.no)
      | _,_=>.no) e2):=by
      revert h3
      generalize (C.bind fun c e2=>match Af b e2,Af c e2 with
       | some y2,some z=>(match f' y2 z with | some r=>Res.ok r e2 | none=>.no)
       | _,_=>.no) e2 = res
      cases res with
      | no=>exact fun h=>h
      | er x e'=>exact fun h cls d G' H' t=>h cls d G' H' (t3.trans t)
      | ok a e'=>exact fun h G' H' t=>h G' H' (t3.trans t)
     refine Pst.mono (Pst.bind h4) fun c G4 H4 e4 t4 h5 w' ok4=>?_
     have ok2:=(ok2.tr t3).tr t4
     cases qb2:Af b e4 with
     | none=>simp only [qb2] at h5; exact h5.elim
     | some y2 =>
      cases qc:Af c e4 with
      | none=>simp only [qb2,qc] at h5; exact h5.elim
      | some z2 =>
       cases qf2:f' y2 z2 with
       | none=>simp only [qb2,qc,qf2] at h5; exact h5.elim
       | some out2 =>
        simp only [qb2,qc,qf2] at h5
        exact hv' G4 H4 y2 z2 y w' out2 Q t4.sr.bs t4.sr.scrL (B5 t4.sr ok2 qb2) (B5 t4.sr ok4 qc) qf2 fun z G5 H5 gr5 nw=>h5 G5 H5 (gr5.tr t4.sr) z (nw.ok t4.sr fun p hp=>t1.dom p (t2.dom p (t3.dom p (t4.dom p hp))))
    | .val (.bl false),qf =>
     simp only [qf] at h2
     refine fin false qf fun z G3 H3 gr ez=>⟨false,ez,?_⟩
     exact h2 G3 H3 (gr.tr t2.sr) _ rfl
    | .val .non,qf=>simp only [qf] at h2; exact h2.elim
    | .val (.int _),qf=>simp only [qf] at h2; exact h2.elim
    | .val (.str _),qf=>simp only [qf] at h2; exact h2.elim
    | .val (.lst _),qf=>simp only [qf] at h2; exact h2.elim
    | .val (.tup _),qf=>simp only [qf] at h2; exact h2.elim
    | .val (.dct _),qf=>simp only [qf] at h2; exact h2.elim
    | .val (.set _),qf=>simp only [qf] at h2; exact h2.elim
    | .val (.ins _ _),qf=>simp only [qf] at h2; exact h2.elim
    | .val (.con _),qf=>simp only [qf] at h2; exact h2.elim
    | .val (.scr _),qf=>simp only [qf] at h2; exact h2.elim
    | .slot _,qf=>simp only [qf] at h2; exact h2.elim
    | .fresh _,qf=>simp only [qf] at h2; exact h2.elim
theorem Abo {op op':CmpOp} {r r':R2} {f f':D→D→Option Rv} {F1 F2 F3:M Rv} (ho:Cd g W k X→OpR X (compareOp op) r) (hv:OpV g r f) (ho':Cd g W k X→OpR X (compareOp op') r') (hv':OpV g r' f') (ha:VE g W k X a F1) (hb:VE g W k X b F2) (hc:VE g W k X c F3)
  (hm:lastMarks [op,op'] [b,c] = false:=by with_unfolding_all rfl):VT g W k X (.Compare a [op,op'] [b,c] pos) (A8 (K1 f f' F1 F2 F3)) :=
 ⟨fun cd=>PT.imp (pt_chain (ho cd) (ho' cd) (ha.run cd) (hb.run cd) (hc.run cd) hm) fun _ _ _ q=>Abn hv hv' (Mm q)⟩
end
end Vs
set_option maxRecDepth 100000
set_option maxHeartbeats 2000000
namespace Vs
open PySem PySem.Spec PyProof.Rows L2 Fw SX
section
variable {g:Gm} {W:WX} {k:Nat} {X:Cx} {G H G1 H1 H0:Hp} {σ σ1:L2.St} {e e1 e2:Ve} {D:Ends}
theorem PstS.shift {r:Res Ctl} (t:St g G H σ e G1 H1 σ1 e1) (h:PstS g W D σ G H e r):PstS g W D σ1 G1 H1 e1 r:=by
 cases r with
 | no=>exact h
 | er x e'=>exact fun cls d σ' G' H' t2=>h cls d σ' G' H' (t.trans t2)
 | ok c e' =>
  cases c with
  | nx=>exact fun σ' G' H' t2=>h σ' G' H' (t.trans t2)
  | bk=>exact fun σ' G' H' t2=>h σ' G' H' (t.trans t2)
  | ct=>exact fun σ' G' H' t2=>h σ' G' H' (t.trans t2)
  | rt r=>exact fun v σ' G' H' t2 ok=>h v σ' G' H' (t.trans t2) (ok.h0 t.dom)
theorem PstS.bindE {α:Type} {f:M α} {c:α→M Ctl} (h:PstS g W D σ G H e (M.bind f c e)):Pst g W σ G H e (fun a G1 H1 e1=>PstS g W D σ G1 H1 e1 (c a e1)) (f e):=by
 unfold M.bind at h
 revert h
 cases f e with
 | no=>exact fun h=>h
 | er x e'=>exact fun h cls d G' H' t xo=>h cls d σ G' H' t.st xo
 | ok a e1=>exact fun h G1 H1 t=>PstS.shift t.st h
end
def A6 (A B:M Ctl):M Ctl:=A.bind fun c=>match c with
 | .nx=>B
 | c=>M.ret c
def fNx:M Ctl:=M.ret .nx
def K2 (A:M Rv):M Ctl:=A.bind fun _=>fNx
def Bn (A:M Rv):M Ctl:=A.bind fun r=>M.ret (.rt r)
def fRetN:M Ctl:=M.ret (.rt (.val .non))
section
variable {g:Gm} {W:WX} {k:Nat} {X:Cx} {st:Stmt} {rest:List Stmt} {ex:Expr} {pos:Pos} {A B:M Ctl}
theorem C5:VSs g W k X [] fNx:=⟨fun _=>PSs.imp pss_nil fun D σ H ⟨G,e,sr,h⟩=>h σ G H (St.refl sr)⟩
theorem Be (h1:VS g W k X st A) (h2:VSs g W k X rest B):VSs g W k X (st :: rest) (A6 A B):=by
 refine ⟨fun c=>PSs.imp (pss_cons (h1.run c) (h2.run c)) fun D σ H ⟨G,e,sr,h⟩=>?_⟩
 refine ⟨G,e,sr,?_⟩
 unfold A6 M.bind at h
 revert h
 cases A e with
 | no=>exact fun h=>h
 | er x e'=>exact fun h=>h
 | ok c e1 =>
  cases c with
  | nx=>exact fun h σ' G' H' t=>⟨G',e1,t.sr,PstS.shift t h⟩
  | rt r=>exact fun h=>h
  | bk=>exact fun h=>h
  | ct=>exact fun h=>h
theorem Aw (h1:VS g W k X st A):VSs g W k X [st] A:=⟨fun c=>pss_one (h1.run c)⟩
theorem Ol {F:M Rv} (he:VE g W k X ex F) (hs:swapsWith ex none pos.line X.env = pure false:=by rfl):VS g W k X (.Expr ex pos) (K2 F) :=
 ⟨fun c=>PS.imp (ps_expr (he.run c) hs) fun D σ H ⟨G,e,sr,h⟩=>⟨G,e,sr,Pst.mono (PstS.bindE h) fun r G1 H1 e1 t1 h1 v _=>h1 σ G1 H1 (St.refl t1.sr)⟩⟩
theorem Bw {F:M Rv} (he:VE g W k X ex F):VS g W k X (.Return (some ex) pos) (Bn F) :=
 ⟨fun c=>PS.imp (ps_ret (he.run c)) fun D σ H ⟨G,e,sr,h⟩=>by
  refine ⟨G,e,sr,?_⟩
  unfold Bn M.bind at h
  revert h
  cases F e with
  | no=>exact fun h=>h
  | er x e'=>exact fun h cls d G' H' t xo=>h cls d σ G' H' t.st xo
  | ok a e1=>exact fun h G1 H1 t v ok=>h v σ G1 H1 t.st ok⟩
theorem D4 {c:Expr} {a b:List Stmt} {C:M Bool} (hc:VT g W k X c C) (ha:VSs g W k X a A) (hb:VSs g W k X b B):VS g W k X (.If c a b pos) (B7 C A B) :=
 ⟨fun cd=>PS.imp (ps_if (hc.run cd) (ha.run cd) (hb.run cd)) fun D σ H ⟨G,e,sr,h⟩=>⟨G,e,sr,Pst.mono (PstS.bindE h) fun b G1 H1 e1 t1 h1=>by
  cases b with
  | true=>exact ⟨G1,e1,t1.sr,h1⟩
  | false=>exact ⟨G1,e1,t1.sr,h1⟩⟩⟩
end
def Am (i:Nat) (d:D):M Unit:=fun e=>if A0 e i = true then .ok () (e.set i (.sh d)) else .no
def D5 (i:Nat) (r:Rv):M Ctl:=match r with
 | .val d=>fun e=>if A0 e i = true then .ok .nx (e.set i (.sh d)) else .no
 | .fresh d=>fun e=>if A0 e i = true then .ok .nx (e.set i (.ow d)) else .no
 | .slot j=>(Bq (.slot j)).bind fun d e=>if A0 e i = true then .ok .nx (e.set i (.sh d)) else .no
def Ck (i:Nat) (A:M Rv):M Ctl:=A.bind (D5 i)
section
variable {g:Gm} {W:WX} {k:Nat} {X:Cx} {G H G1 H1 H0:Hp} {σ σ1:L2.St} {e e1 e2:Ve} {i:Nat} {d:D} {v:V}
theorem Abp {A:M Rv} {D:Ends} (h:TVS g W (Ck i A) D σ H):tAsg (TV g W A) (gName i) D σ H:=by
 obtain ⟨G,e,sr,h⟩:=h
 refine ⟨G,e,sr,?_⟩
 unfold Ck M.bind at h
 revert h
 cases A e with
 | no=>exact fun h=>h
 | er x e'=>exact fun h cls d G' H' t xo=>h cls d σ G' H' t.st xo
 | ok r e1 =>
  intro h G1 H1 t v ok
  show D.nx (σ.set i (some v)) H1
  cases r with
  | val d =>
   simp only [D5] at h
   by_cases c:A0 e1 i = true
   ·rw [if_pos c] at h
    exact h _ G1 H1 (St.sto t.sr c (.inl ⟨d,rfl,ok⟩) t.st fun d p z=>nomatch z)
   ·rw [if_neg c] at h; exact h.elim
  | fresh d =>
   simp only [D5] at h
   by_cases c:A0 e1 i = true
   ·rw [if_pos c] at h
    obtain ⟨p,ev,n,o,h0,nr⟩:=ok
    refine h _ G1 H1 (St.sto t.sr c (.inr ⟨d,p,rfl,ev,n,o,nr⟩) t.st fun d' p' z1 z2=>?_)
    rw [ev] at z2; cases z2; exact h0
   ·rw [if_neg c] at h; exact h.elim
  | slot j =>
   simp only [D5,M.bind] at h
   cases q:Bq (.slot j) e1 with
   | no=>rw [q] at h; exact h.elim
   | er x e'=>exact absurd q Vd
   | ok d e2 =>
    rw [q] at h
    simp only at h
    obtain ⟨G2,t2,rp⟩:=Mh t ok q
    by_cases c:A0 e2 i = true
    ·rw [if_pos c] at h
     exact h _ G2 H1 (St.sto t2.sr c (.inl ⟨d,rfl,rp⟩) t2.st fun d p z=>nomatch z)
    ·rw [if_neg c] at h; exact h.elim
theorem Dh {x:Str} {ex:Expr} {A:M Rv} {pos pos':Pos} (hi:X.N[i]? = some x) (hx:Loc X.env.scope x) (he:VE g W k X ex A) (hs:swapsWith ex (some (.Name x pos')) pos.line X.env = pure false:=by rfl) (hf:X.fn x = true∨X.env.scope.names.lookup x = some .local:=by first | exact .inl rfl | exact .inr rfl | assumption) :
  VS g W k X (.Assign [.Name x pos'] ex pos) (Ck i A):=⟨fun c=>PS.imp (ps_set c.nd hi hx (he.run c) hs hf) fun _ _ _ q=>Abp q⟩
end
structure VG (g:Gm) (X:Cx) (tg:Expr) (F:D→M Unit) (is:List Nat):Prop where
 pg:∀ (k:Nat) (W:WX),Cd g W k X→∃ t,PG X tg t∧∀ (G H G0 H0:Hp) (σ σ0:L2.St) (e e0 e':Ve) (d:D) (v:V) (Q:L2.St→Hp→Prop),St g G0 H0 σ0 e0 G H σ e→Rep g G d v→F d e = .ok () e' →
  (∀ σ',St g G0 H0 σ0 e0 G H σ' e'→(∀ j,j ∉ is→σ'[j]? = σ[j]?)→Q σ' H)→t v σ H Q
 off:∀ d e e' j,F d e = .ok () e'→j ∉ is→e'[j]? = e[j]?
 nox:∀ d e x e',F d e≠.er x e'
 oth:∀ d e e' j,F d e = .ok () e'→j∈is→∃ d',e'[j]? = some (.sh d')
 len:∀ d e e',F d e = .ok () e'→e'.length = e.length
structure VGs (g:Gm) (X:Cx) (tg:List Expr) (F:List D→M Unit) (is:List Nat):Prop where
 pg:∀ (k:Nat) (W:WX),Cd g W k X→∃ t,PGs X tg t∧∀ (G H G0 H0:Hp) (σ σ0:L2.St) (e e0 e':Ve) (ds:List D) (vs:List V) (Q:L2.St→Hp→Prop),St g G0 H0 σ0 e0 G H σ e→Reps g G ds vs→F ds e = .ok () e' →
  (∀ σ',St g G0 H0 σ0 e0 G H σ' e'→(∀ j,j ∉ is→σ'[j]? = σ[j]?)→Q σ' H)→t vs σ H Q
 off:∀ d e e' j,F d e = .ok () e'→j ∉ is→e'[j]? = e[j]?
 nox:∀ d e x e',F d e≠.er x e'
 oth:∀ d e e' j,F d e = .ok () e'→j∈is→∃ d',e'[j]? = some (.sh d')
 len:∀ d e e',F d e = .ok () e'→e'.length = e.length
def Hc:List D→M Unit:=fun ds e=>match ds with
 | []=>.ok () e
 | _=>.no
def Cs (F:D→M Unit) (Fs:List D→M Unit):List D→M Unit:=fun ds e=>match ds with
 | d :: r=>M.bind (F d) (fun _=>Fs r) e
 | []=>.no
def Di (n:Nat) (Fs:List D→M Unit):D→M Unit:=fun d e=>match d with
 | .tup ds=>if ds.length = n then Fs ds e else .no
 | _=>.no
section
variable {g:Gm} {X:Cx} {i:Nat}
theorem Ct {x:Str} {pos:Pos} (hi:X.N[i]? = some x) (hx:Loc X.env.scope x) (hf:X.fn x = true∨X.env.scope.names.lookup x = some .local:=by first | exact .inl rfl | exact .inr rfl | assumption):VG g X (.Name x pos) (Am i) [i]:=by
 refine ⟨fun k W c=>⟨gName i,pg_name c.nd hi hx hf,fun G H G0 H0 σ σ0 e e0 e' d v Q st rp h q=>?_⟩,fun d e e' j h hj=>?_,fun d e x e' h=>?_,fun d e e' j h hj=>?_,fun d e e' h=>?_⟩
 ·unfold Am at h
  by_cases cs:A0 e i = true
  ·rw [if_pos cs] at h
   cases h
   exact q _ (St.sto st.sr cs (.inl ⟨d,rfl,rp⟩) st fun d p z=>nomatch z) fun j hj=>by rw [getElem?_set',if_neg (fun z=>hj (by rw [z.1]; exact List.mem_singleton.mpr rfl))]
  ·rw [if_neg cs] at h; cases h
 ·unfold Am at h
  by_cases cs:A0 e i = true
  ·rw [if_pos cs] at h
   cases h
   rw [getElem?_set',if_neg (fun z=>hj (by rw [z.1]; exact List.mem_singleton.mpr rfl))]
  ·rw [if_neg cs] at h; cases h
 ·unfold Am at h
  split at h <;> cases h
 ·unfold Am at h
  by_cases cs:A0 e i = true
  ·rw [if_pos cs] at h
   cases h
   rw [List.mem_singleton.mp hj,getElem?_set',if_pos ⟨rfl,(Ks cs).1⟩]
   exact ⟨d,rfl⟩
  ·rw [if_neg cs] at h; cases h
 ·unfold Am at h
  by_cases cs:A0 e i = true
  ·rw [if_pos cs] at h
   cases h
   rw [List.length_set]
  ·rw [if_neg cs] at h; cases h
theorem Qy:VGs g X [] Hc []:=by
 refine ⟨fun k W c=>⟨gNil,pgs_nil,fun G H G0 H0 σ σ0 e e0 e' ds vs Q st rp h q=>?_⟩,fun d e e' j h hj=>?_,fun d e x e' h=>?_,fun d e e' j h hj=>(nomatch hj),fun d e e' h=>?_⟩
 ·cases ds with
  | nil=>cases h; exact ⟨rp,q _ st fun _ _=>rfl⟩
  | cons d r=>cases h
 ·cases d with
  | nil=>cases h; rfl
  | cons d r=>cases h
 ·cases d <;> cases h
 ·cases d with
  | nil=>cases h; rfl
  | cons d r=>cases h
theorem K3 {ex:Expr} {es:List Expr} {F:D→M Unit} {Fs:List D→M Unit} {is js:List Nat} (h1:VG g X ex F is) (h2:VGs g X es Fs js)
  (hs:(assignEach (ex :: es) X.env).map (·.2) = assign ex X.env :: (assignEach es X.env).map (·.2):=by rfl):VGs g X (ex :: es) (Cs F Fs) (is ++ js):=by
 have split:∀ d r e e',Cs F Fs (d :: r) e = .ok () e'→∃ e1,F d e = .ok () e1∧Fs r e1 = .ok () e':=fun d r e e' h=>by
  simp only [Cs,M.bind] at h
  cases q:F d e with
  | no=>rw [q] at h; cases h
  | er x e1=>rw [q] at h; cases h
  | ok u e1=>rw [q] at h; exact ⟨e1,rfl,h⟩
 refine ⟨fun k W c=>?_,fun d e e' j h hj=>?_,fun d e x e' h=>?_,fun d e e' j h hj=>?_,fun d e e' h=>?_⟩
 ·obtain ⟨t1,p1,q1⟩:=h1.pg k W c
  obtain ⟨t2,p2,q2⟩:=h2.pg k W c
  refine ⟨gCons t1 t2,pgs_cons p1 p2 hs,fun G H G0 H0 σ σ0 e e0 e' ds vs Q st rp h q=>?_⟩
  cases ds with
  | nil=>cases h
  | cons d r =>
   obtain ⟨v,tl,rfl,a,b⟩:=rp
   obtain ⟨e1,f1,f2⟩:=split d r e e' h
   refine ⟨v,tl,rfl,q1 G H G0 H0 σ σ0 e e0 e1 d v _ st a f1 fun σ1 st1 of1=>q2 G H G0 H0 σ1 σ0 e1 e0 e' r tl _ st1 b f2 fun σ2 st2 of2=>q σ2 st2 fun j hj=>?_⟩
   rw [of2 j (fun z=>hj (List.mem_append_right _ z)),of1 j (fun z=>hj (List.mem_append_left _ z))]
 ·cases d with
  | nil=>cases h
  | cons d r =>
   obtain ⟨e1,f1,f2⟩:=split d r e e' h
   rw [h2.off r e1 e' j f2 (fun z=>hj (List.mem_append_right _ z)),h1.off d e e1 j f1 (fun z=>hj (List.mem_append_left _ z))]
 ·cases d with
  | nil=>cases h
  | cons d r =>
   simp only [Cs,M.bind] at h
   cases q:F d e with
   | no=>rw [q] at h; cases h
   | er x e1=>exact h1.nox _ _ _ _ q
   | ok u e1=>rw [q] at h; exact h2.nox _ _ _ _ h
 ·cases d with
  | nil=>cases h
  | cons d r =>
   obtain ⟨e1,f1,f2⟩:=split d r e e' h
   by_cases hm:j∈js
   ·exact h2.oth r e1 e' j f2 hm
   ·rw [h2.off r e1 e' j f2 hm]
    exact h1.oth d e e1 j f1 ((List.mem_append.mp hj).resolve_right hm)
 ·cases d with
  | nil=>cases h
  | cons d r =>
   obtain ⟨e1,f1,f2⟩:=split d r e e' h
   rw [h2.len r e1 e' f2,h1.len d e e1 f1]
theorem Qz {es:List Expr} {kk:Nat} {Fs:List D→M Unit} {is:List Nat} {n:Nat} {pos:Pos} (h:VGs g X es Fs is) (hn:(assignEach es X.env).length = n:=by rfl) (hst:(assignEach es X.env).findIdx? (·.1) = none:=by rfl):VG g X (.Tuple es kk pos) (Di n Fs) is:=by
 refine ⟨fun k W c=>?_,fun d e e' j h' hj=>?_,fun d e x e' h'=>?_,fun d e e' j h' hj=>?_,fun d e e' h'=>?_⟩
 ·obtain ⟨t,p,q⟩:=h.pg k W c
  refine ⟨gTup g.K n t,c.K ▸ pg_tup c.calm p hn hst,fun G H G0 H0 σ σ0 e e0 e' d v Q st rp h' q'=>?_⟩
  cases d with
  | tup ds =>
   simp only [Di] at h'
   by_cases hl:ds.length = n
   ·rw [if_pos hl] at h'
    obtain ⟨a,vs,ev,sq,rps⟩:=rp
    exact ⟨a,vs,ev,st.sr.bs.sqT sq,by rw [rps.len]; exact hl,q G H G0 H0 σ σ0 e e0 e' ds vs Q st rps h' q'⟩
   ·rw [if_neg hl] at h'; cases h'
  | _=>cases h'
 ·cases d with
  | tup ds =>
   simp only [Di] at h'
   by_cases hl:ds.length = n
   ·rw [if_pos hl] at h'; exact h.off ds e e' j h' hj
   ·rw [if_neg hl] at h'; cases h'
  | _=>cases h'
 ·cases d with
  | tup ds =>
   simp only [Di] at h'
   by_cases hl:ds.length = n
   ·rw [if_pos hl] at h'; exact h.nox _ _ _ _ h'
   ·rw [if_neg hl] at h'; cases h'
  | _=>cases h'
 ·cases d with
  | tup ds =>
   simp only [Di] at h'
   by_cases hl:ds.length = n
   ·rw [if_pos hl] at h'; exact h.oth ds e e' j h' hj
   ·rw [if_neg hl] at h'; cases h'
  | _=>cases h'
 ·cases d with
  | tup ds =>
   simp only [Di] at h'
   by_cases hl:ds.length = n
   ·rw [if_pos hl] at h'; exact h.len ds e e' h'
   ·rw [if_neg hl] at h'; cases h'
  | _=>cases h'
end
section
variable {g:Gm} {W:WX} {k:Nat} {X:Cx}
end
end Vs
set_option maxRecDepth 100000
set_option maxHeartbeats 2000000
namespace Vs
open PySem PySem.Spec PyProof.Rows L2 Fw SX
theorem Own.nofrz {g:Gm} {G H:Hp} {p:Addr} {d:D} (h:Own g G H p d) (o:Obj) (u:HO):H p≠some (.frz o u):=fun z=>by
 obtain ⟨ob,ho,nf,_⟩:=h.there
 rw [z] at ho
 exact nf.nf o u (Option.some.inj ho).symm
theorem SR.nofrz {g:Gm} {G H:Hp} {σ:L2.St} {e:Ve} (sr:SR g G H σ e) {a:Addr} {o:Obj} {u:HO} (h:H a = some (.frz o u)) (i:Nat):¬ Rt σ e i a:=fun r=>by
 obtain ⟨r1,r2⟩:=r
 have sl:=sr.slot i
 cases q:e[i]? with
 | none=>rw [q] at r1; exact r1
 | some s =>
  rw [q] at r1 sl
  cases s with
  | un=>exact r1
  | sh d=>exact r1
  | bf d=>exact r1
  | lo d=>exact r1
  | ow d =>
   obtain ⟨p',ev',n,ow⟩:=sl
   rw [ev'] at r2; cases r2
   exact ow.nofrz o u h
  | bo d =>
   obtain ⟨p',ev',n,ow⟩:=sl
   rw [ev'] at r2; cases r2
   exact ow.nofrz o u h
theorem St.fz {g:Gm} {G H G1 H1:Hp} {σ σ1:L2.St} {e e1:Ve} (s0:SR g G H σ e) (t:St g G H σ e G1 H1 σ1 e1):Fz H H1:=fun a o u h=>t.keep a _ h (fun i=>s0.nofrz h i) fun ps z=>nomatch z
theorem Grow.fz {G H G1 H1:Hp} (t:Grow G H G1 H1):Fz H H1:=fun a o u h=>t.keep a _ h
structure ItOk (g:Gm) (Gs Hs:Hp) (J:It) (ds:List D):Prop where
 go:∀ i G H,Le Gs G→Bs G H→Fz Hs H→i < ds.length→J.go i H
 stop:∀ G H,Le Gs G→Bs G H→Fz Hs H→J.stop ds.length H
 yld:∀ i G H x H',Le Gs G→Bs G H→Fz Hs H→i < ds.length→J.yld i H x H'→∃ d G',ds[i]? = some d∧Grow G H G' H'∧Rep g G' d x
def TVI (g:Gm) (W:WX) (F:M (List D)):TI:=fun σ H R=>∃ G e,SR g G H σ e∧Pst g W σ G H e (fun ds G' H' e'=>∀ J,ItOk g G' H' J ds→R J H') (F e)
structure VI (g:Gm) (W:WX) (k:Nat) (X:Cx) (tg ex:Expr) (F:M (List D)):Prop where
 run:Cd g W k X→PI X tg ex (TVI g W F)
section
variable {g:Gm} {G H:Hp} {a:Addr} {vs:List V} {ds:List D}
theorem Vh (hs:SqL g.K G a vs) (r:Reps g G ds vs):ItOk g G H (Itl g.K a) ds:=by
 have hl:=r.len
 refine ⟨fun i G' H' le bs _ hi=>?_,fun G' H' le bs _=>?_,fun i G' H' x H'' le bs _ hi y=>?_⟩
 ·exact (walk_list (K:=g.K) (a:=a) (xs:=vs)).goes i H' (by omega) (bs.sqL (le.sqL hs))
 ·exact hl ▸ (walk_list (K:=g.K) (a:=a) (xs:=vs)).stops H' (bs.sqL (le.sqL hs))
 ·obtain ⟨e1,e2⟩:=(walk_list (K:=g.K) (a:=a) (xs:=vs)).yields i H' x H'' (by omega) (bs.sqL (le.sqL hs)) y
  subst e1
  obtain ⟨d,ed,rd⟩:=r.at e2
  exact ⟨d,G',ed,Grow.refl bs,rd.mono le⟩
theorem Abq (hs:SqT g.K G a vs) (r:Reps g G ds vs):ItOk g G H (Itt g.K a) ds:=by
 have hl:=r.len
 refine ⟨fun i G' H' le bs _ hi=>?_,fun G' H' le bs _=>?_,fun i G' H' x H'' le bs _ hi y=>?_⟩
 ·exact (walk_tup (K:=g.K) (a:=a) (xs:=vs)).goes i H' (by omega) (bs.sqT (le.sqT hs))
 ·exact hl ▸ (walk_tup (K:=g.K) (a:=a) (xs:=vs)).stops H' (bs.sqT (le.sqT hs))
 ·obtain ⟨e1,e2⟩:=(walk_tup (K:=g.K) (a:=a) (xs:=vs)).yields i H' x H'' (by omega) (bs.sqT (le.sqT hs)) y
  subst e1
  obtain ⟨d,ed,rd⟩:=r.at e2
  exact ⟨d,G',ed,Grow.refl bs,rd.mono le⟩
theorem Abr (l:List Nat) (ok:OkS l):ItOk g G H (Its (S l)) (l.map fun c=>.str [c]):=by
 have hl:(S l).cps.size = l.length:=S_len l
 refine ⟨fun i G' H' le bs _ hi=>?_,fun G' H' le bs _=>?_,fun i G' H' x H'' le bs _ hi y=>?_⟩
 ·exact (walk_str (z:=S l)).goes i H' (by rw [hl]; simpa using hi) trivial
 ·have:=(walk_str (z:=S l)).stops H' trivial
  rw [hl] at this
  simpa using this
 ·obtain ⟨e1,c,hc,e2⟩:=(walk_str (z:=S l)).yields i H' x H'' (by rw [hl]; simpa using hi) trivial y
  subst e1 e2
  have hc2:l[i]? = some c:=by
   rw [← hc]
   exact (Array.getElem?_toList (xs:=(S l).cps)).symm ▸ rfl
  exact ⟨.str [c],G',by rw [List.getElem?_map,hc2]; rfl,Grow.refl bs,rfl,fun x hx=>by rw [List.mem_singleton.mp hx]; exact ok c (List.mem_of_getElem? hc2)⟩
def Bg (lo:Int) (n:Nat):List D:=(List.range n).map fun (i:Nat)=>.int (lo + (i:Int))
theorem Abs (lo:Int) (n:Nat):ItOk g G H (Itr lo n) (Bg lo n):=by
 have hl:(Bg lo n).length = n:=by unfold Bg; rw [List.length_map,List.length_range]
 refine ⟨fun i G' H' le bs _ hi=>?_,fun G' H' le bs _=>?_,fun i G' H' x H'' le bs _ hi y=>?_⟩
 ·exact (walk_range (lo:=lo) (n:=n)).goes i H' (by omega) trivial
 ·exact hl.symm ▸ (walk_range (lo:=lo) (n:=n)).stops H' trivial
 ·obtain ⟨e1,e2⟩:=(walk_range (lo:=lo) (n:=n)).yields i H' x H'' (by omega) trivial y
  subst e1 e2
  refine ⟨.int (lo + i),G',?_,Grow.refl bs,rfl⟩
  unfold Bg
  rw [List.getElem?_map,List.getElem?_range (by omega)]
  rfl
end
def Fu:D→Option (List D)
 | .lst ds=>some ds
 | .tup ds=>some ds
 | .str l=>some (l.map fun c=>.str [c])
 | _=>none
def D6 (A:M Rv):M (List D):=(Ad A).bind fun r e=>match r with
 | .val d=>(match Fu d with | some ds=>.ok ds e | none=>.no)
 | _=>.no
def Ce (A:M Rv):M (List D):=A.bind fun r e=>match r with
 | .val (.int j)=>if -(2 ^ 62)≤j∧j < 2 ^ 62 then .ok (Bg 0 j.toNat) e else .no
 | _=>.no
def Vi (A B:M Rv):M (List D):=A.bind fun r=>B.bind fun r2 e=>match r,r2 with
 | .val (.int i),.val (.int j)=>if -(2 ^ 62)≤i∧i < 2 ^ 62∧-(2 ^ 62)≤j∧j < 2 ^ 62 then .ok (Bg i (j - i).toNat) e else .no
 | _,_=>.no
section
variable {g:Gm} {W:WX} {k:Nat} {X:Cx} {tg ex:Expr}
theorem Om {A:M Rv} (h:VE g W k X ex A):VI g W k X tg ex (D6 A):=by
 refine ⟨fun c=>?_⟩
 have pl:PI X tg ex (iList g.K (TV g W (Ad A))):=c.K ▸ pi_list ((Ar h).run c)
 have pt:PI X tg ex (iTup g.K (TV g W (Ad A))):=c.K ▸ pi_tup ((Ar h).run c)
 have ps:=pi_str (tg:=tg) ((Ar h).run c)
 refine PI.imp (PI.or pl (PI.or pt ps)) fun σ H R ⟨G,e,sr,q⟩=>?_
 unfold D6 M.bind at q
 have go:∀ {P:VK},(∀ d ds,Fu d = some ds→Ad A e = .ok (.val d) e→True)→True:=fun _=>trivial
 cases qa:Ad A e with
 | no=>rw [qa] at q; exact q.elim
 | er x e' =>
  rw [qa] at q
  refine .inl ⟨G,e,sr,?_⟩
  rw [qa]
  exact q
 | ok r e1 =>
  rw [qa] at q
  match r with
  | .slot _=>exact q.elim
  | .fresh _=>exact q.elim
  | .val d =>
   match d with
   | .lst ds =>
    refine .inl ⟨G,e,sr,?_⟩
    rw [qa]
    intro G1 H1 t v rp
    obtain ⟨a,vs,ev,sq,rps⟩:=rp
    exact ⟨a,ev,⟨vs,t.sr.bs.sqL (.of sq)⟩,q G1 H1 t _ (Vh (.of sq) rps)⟩
   | .tup ds =>
    refine .inr (.inl ⟨G,e,sr,?_⟩)
    rw [qa]
    intro G1 H1 t v rp
    obtain ⟨a,vs,ev,sq,rps⟩:=rp
    exact ⟨a,ev,⟨vs,t.sr.bs.sqT sq⟩,q G1 H1 t _ (Abq sq rps)⟩
   | .str l =>
    refine .inr (.inr ⟨G,e,sr,?_⟩)
    rw [qa]
    intro G1 H1 t v rp
    exact ⟨S l,rp.1,q G1 H1 t _ (Abr l rp.2)⟩
   | .non=>exact q.elim
   | .bl _=>exact q.elim
   | .int _=>exact q.elim
   | .dct _=>exact q.elim
   | .set _=>exact q.elim
   | .ins _ _=>exact q.elim
   | .con _=>exact q.elim
   | .scr _=>exact q.elim
theorem Mn {a:Expr} {A:M Rv} {p pos:Pos} (hm:X.mg "range" = none) (ha:VE g W k X a A) (hg:Gl X "range":=by rfl) (hs:starEach [a] X.env = [(false,eval a X.env)]:=by rfl):VI g W k X tg (.Call (.Name "range" p) [a] [] pos) (Ce A):=by
 refine ⟨fun c=>PI.imp (pi_range1 hg hm (pa_cons (ha.run c) pa_nil hs) hs) fun σ H R ⟨G,e,sr,q⟩=>⟨G,e,sr,Pst.mono (Pst.bind q) fun r G1 H1 e1 t1 h1 v ok=>?_⟩⟩
 match r with
 | .val (.int j) =>
  simp only at h1
  by_cases hj:-(2 ^ 62)≤j∧j < 2 ^ 62
  ·rw [if_pos hj] at h1
   exact ⟨j,by rw [show v = .int j from ok],hj.1,hj.2,h1 G1 H1 (Tr.refl t1.sr) _ (Abs 0 j.toNat)⟩
  ·rw [if_neg hj] at h1; exact h1.elim
 | .slot _=>exact h1.elim
 | .fresh _=>exact h1.elim
 | .val (.str _)=>exact h1.elim
 | .val .non=>exact h1.elim
 | .val (.bl _)=>exact h1.elim
 | .val (.lst _)=>exact h1.elim
 | .val (.tup _)=>exact h1.elim
 | .val (.dct _)=>exact h1.elim
 | .val (.set _)=>exact h1.elim
 | .val (.ins _ _)=>exact h1.elim
 | .val (.con _)=>exact h1.elim
 | .val (.scr _)=>exact h1.elim
end
def Bh (F:D→M Unit) (body:M Ctl):List D→M Ctl
 | []=>fNx
 | d :: r=>(F d).bind fun _=>body.bind fun c=>match c with
  | .nx=>Bh F body r
  | .ct=>Bh F body r
  | .bk=>fNx
  | .rt v=>M.ret (.rt v)
def Ez (S:M (List D)) (F:D→M Unit) (body:M Ctl):M Ctl:=S.bind (Bh F body)
section
variable {g:Gm} {W:WX} {k:Nat} {X:Cx} {tg ex:Expr}
theorem Vj {F:D→M Unit} {is:List Nat} {B:M Ctl} {ds:List D} {D:Ends} {σ:L2.St} {G H:Hp} {e:Ve} {J:It} {t:TG} (hg:VG g X tg F is)
  (q:∀ (G H G0 H0:Hp) (σ σ0:L2.St) (e e0 e':Ve) (d:Vs.D) (v:V) (Q:L2.St→Hp→Prop),St g G0 H0 σ0 e0 G H σ e→Rep g G d v→F d e = .ok () e'→(∀ σ',St g G0 H0 σ0 e0 G H σ' e'→(∀ j,j ∉ is→σ'[j]? = σ[j]?)→Q σ' H)→t v σ H Q)
  (sr:SR g G H σ e) (it:ItOk g G H J ds) (h:PstS g W D σ G H e (Bh F B ds e)) :
  ∃ W':Nat→Nat→L2.St→Hp→Prop,(∃ m,W' 0 m σ H)∧∀ i m σ H,W' i m σ H→(J.stop i H∧D.nx σ H)∨(J.go i H∧∃ N:L2.St→Hp→Prop,(∀ σ' H',N σ' H'→∃ m',m' < m∧W' (i + 1) m' σ' H') ∧
   ∀ x H',J.yld i H x H'→t x σ H' fun σ2 H2=>TVS g W B { D with nx:=N,ct:=N,bk:=D.nx } σ2 H2):=by
 refine ⟨fun i m σ' H'=>m = ds.length - i∧i≤ds.length∧∃ G' e',SR g G' H' σ' e'∧Le G G'∧Fz H H'∧PstS g W D σ' G' H' e' (Bh F B (ds.drop i) e'),⟨_,rfl,Nat.zero_le _,G,e,sr,Le.refl G,fun _ _ _ h=>h,h⟩,?_⟩
 rintro i m σ1 H1 ⟨rfl,hi,G1,e1,sr1,le1,fz1,h1⟩
 by_cases hlt:i < ds.length
 ·refine .inr ⟨it.go i G1 H1 le1 sr1.bs fz1 hlt,fun σ' H'=>i + 1≤ds.length∧∃ G' e',SR g G' H' σ' e'∧Le G G'∧Fz H H'∧PstS g W D σ' G' H' e' (Bh F B (ds.drop (i + 1)) e'),fun σ' H' hN=>⟨ds.length - (i + 1),by omega,rfl,hN⟩,fun x H2 y=>?_⟩
  obtain ⟨d,G2,ed,gr,rd⟩:=it.yld i G1 H1 x H2 le1 sr1.bs fz1 hlt y
  have t1:=(gr.tr sr1).st
  have ed':ds.drop i = d :: ds.drop (i + 1):=by
   rw [List.drop_eq_getElem_cons hlt]
   rw [List.getElem?_eq_getElem hlt] at ed
   rw [Option.some.inj ed]
  rw [ed'] at h1
  have h2:=PstS.shift t1 h1
  simp only [Bh] at h2
  cases qf:F d e1 with
  | no=>simp only [M.bind,qf] at h2; exact h2.elim
  | er x e'=>exact absurd qf (hg.nox _ _ _ _)
  | ok u e2 =>
   refine q G2 H2 G2 H2 σ1 σ1 e1 e1 e2 d x _ (St.refl t1.sr) rd qf fun σ2 st2 _=>?_
   have h3:PstS g W D σ1 G2 H2 e1 (M.bind B (fun c=>match c with
    | .nx=>Bh F B (ds.drop (i + 1))
    | .ct=>Bh F B (ds.drop (i + 1))
    | .bk=>fNx
    | .rt v=>M.ret (.rt v)) e2):=by
    have:=h2
    unfold M.bind at this
    rw [qf] at this
    exact this
   have h4:=PstS.shift st2 h3
   refine ⟨G2,e2,st2.sr,?_⟩
   have fz2:Fz H H2:=fz1.trans gr.fz
   have le2:Le G G2:=le1.trans gr.le
   unfold M.bind at h4
   revert h4
   cases B e2 with
   | no=>exact fun h=>h
   | er x e'=>exact fun h=>h
   | ok c e3 =>
    cases c with
    | nx=>exact fun h σ3 G3 H3 t=>⟨hlt,G3,e3,t.sr,le2.trans t.le,fz2.trans (t.fz st2.sr),PstS.shift t h⟩
    | ct=>exact fun h σ3 G3 H3 t=>⟨hlt,G3,e3,t.sr,le2.trans t.le,fz2.trans (t.fz st2.sr),PstS.shift t h⟩
    | bk=>exact fun h σ3 G3 H3 t=>h σ3 G3 H3 t
    | rt r=>exact fun h=>h
 ·have ei:i = ds.length:=by omega
  subst ei
  rw [List.drop_length] at h1
  exact .inl ⟨it.stop G1 H1 le1 sr1.bs fz1,h1 σ1 G1 H1 (St.refl sr1)⟩
theorem Oo {S:M (List D)} {F:D→M Unit} {is:List Nat} {B:M Ctl} {body:List Stmt} {pos:Pos} (hi:VI g W k X tg ex S) (hg:VG g X tg F is) (hb:VSs g W k X body B) (hs:∀ x,foldedSetIterable ex X.env x = pure x:=by intro _; rfl):VS g W k X (.For tg ex body [] pos) (Ez S F B):=by
 refine ⟨fun c=>?_⟩
 obtain ⟨t,p,q⟩:=hg.pg k W c
 refine PS.imp (ps_for c.po c.calm (hi.run c) p (hb.run c) hs) fun D σ H ⟨G,e,sr,h⟩=>⟨G,e,sr,Pst.mono (PstS.bindE h) fun ds G1 H1 e1 t1 h1 J it=>Vj hg q t1.sr it h1⟩
end
section
variable {g:Gm} {W:WX} {k:Nat} {X:Cx}
end
end Vs
set_option maxRecDepth 100000
set_option maxHeartbeats 2000000
namespace Vs
open PySem PySem.Spec PyProof.Rows L2 Fw SX
def Fv (e:Ve) (vs:List Nat):Bool:=vs.all fun i=>match e[i]? with
 | some .un=>true
 | some (.sh _)=>true
 | _=>false
def Cm (e0 e:Ve):List Nat→Ve
 | []=>e
 | v :: vs=>match e0[v]? with
  | some s=>(Cm e0 e vs).set v s
  | none=>Cm e0 e vs
section
variable {e e0:Ve} {σ:L2.St} {j:Nat}
theorem Hf (hl:j < e.length):∀ {vs:List Nat},j∈vs→(An e vs)[j]? = some .un
 | v :: vs,h=>by
  rw [An,getElem?_set',Dq]
  by_cases z:v = j
  ·subst z; rw [if_pos ⟨rfl,hl⟩]
  ·rw [if_neg (fun q=>z q.1)]
   exact Hf hl ((List.mem_cons.mp h).resolve_left fun q=>z q.symm)
theorem Mo:∀ vs:List Nat,(Cm e0 e vs).length = e.length
 | []=>rfl
 | v :: vs=>by
  rw [Cm]
  split
  ·rw [List.length_set,Mo vs]
  ·exact Mo vs
theorem K4:∀ {vs:List Nat},j ∉ vs→(Cm e0 e vs)[j]? = e[j]?
 | [],_=>rfl
 | v :: vs,h=>by
  rw [Cm]
  split
  ·rw [List.getElem?_set_ne (fun z=>h (by rw [z]; exact List.mem_cons_self))]
   exact K4 fun z=>h (List.mem_cons_of_mem _ z)
  ·exact K4 fun z=>h (List.mem_cons_of_mem _ z)
theorem Mp (hl:e.length = e0.length):∀ {vs:List Nat},j∈vs→(Cm e0 e vs)[j]? = e0[j]?
 | v :: vs,h=>by
  rw [Cm]
  split
  ·rename_i s q
   by_cases z:v = j
   ·subst z
    rw [getElem?_set',if_pos ⟨rfl,by rw [Mo,hl]; exact Bj q⟩,q]
   ·rw [getElem?_set',if_neg (fun q=>z q.1)]
    exact Mp hl ((List.mem_cons.mp h).resolve_left fun q=>z q.symm)
  ·rename_i q
   by_cases hm:j∈vs
   ·exact Mp hl hm
   ·have z:j = v:=(List.mem_cons.mp h).resolve_right hm
    rw [K4 hm,z,q,List.getElem?_eq_none_iff.mpr]
    rw [hl]
    exact List.getElem?_eq_none_iff.mp q
end
def lcL (F:D→M Unit) (T:M Bool) (E:M Rv) (vs:List Nat):List D→M (List D)
 | []=>M.ret []
 | d :: r=>(F d).bind fun _=>T.bind fun b=>if b = true then ((Ad E).bind fun y=>match y with
   | .val y=>fun e=>M.map (lcL F T E vs r) (y :: ·) (An e vs)
   | _=>fun _=>.no) else fun e=>lcL F T E vs r (An e vs)
def fLc (S:M (List D)) (F:D→M Unit) (T:M Bool) (E:M Rv) (vs:List Nat):M Rv:=S.bind fun ds e=>if Fv e vs = true then (match lcL F T E vs ds (An e vs) with
  | .ok ys e'=>if ys.length≤sizeLine then .ok (.fresh (.lst ys)) (Cm e e' vs) else .no
  | _=>.no) else .no
structure VTs (g:Gm) (W:WX) (k:Nat) (X:Cx) (ifs:List Expr) (T:M Bool):Prop where
 run:Cd g W k X→PTs X ifs (TVT g W T)
section
variable {g:Gm} {W:WX} {k:Nat} {X:Cx}
theorem I9:VTs g W k X [] (M.ret true):=⟨fun _=>⟨fun pins s σ H Q I ⟨G,e,sr,h⟩=>pts_nil.run pins s σ H Q I (h G H (Tr.refl sr))⟩⟩
end
section
variable {g:Gm} {G H G1 H1:Hp} {σ σ1:L2.St} {e e1:Ve} {p:Addr} {o:HO} {vs:List Nat}
theorem SR.put (sr:SR g G H σ e) (n:G p = none) (nr:∀ i,¬ Rt σ e i p) (hp:∀ o,H p = some o→Pln o):SR g G (upd H p o) σ e:=by
 refine ⟨sr.bs.put n,Oi sr.tabs hp,sr.scr.keep fun o u h=>by rw [upd_ne (fun z=>by rw [z] at h; exact hp _ h)]; exact h,sr.len,fun i=>?_,sr.inj⟩
 have sl:=sr.slot i
 cases q:e[i]? with
 | none=>trivial
 | some s =>
  rw [q] at sl
  cases s with
  | un=>trivial
  | sh d=>exact sl
  | bf d=>exact sl
  | lo d =>
   obtain ⟨p',ev',n',ow⟩:=sl
   obtain ⟨ob,u,ho,_⟩:=ow.there
   exact ⟨p',ev',n',ow.mono (Le.refl G) (upd_ne fun z=>by rw [z] at ho; exact hp _ ho)⟩
  | ow d =>
   obtain ⟨p',ev',n',ow⟩:=sl
   exact ⟨p',ev',n',ow.mono (Le.refl G) (upd_ne fun z=>nr i ⟨by rw [q]; trivial,by rw [ev',z]⟩)⟩
  | bo d =>
   obtain ⟨p',ev',n',ow⟩:=sl
   exact ⟨p',ev',n',ow.mono (Le.refl G) (upd_ne fun z=>nr i ⟨by rw [q]; trivial,by rw [ev',z]⟩)⟩
theorem St.putNew (t:St g G H σ e G1 H1 σ1 e1) (h0:H p = none) (n:G1 p = none) (nr:∀ i,¬ Rt σ1 e1 i p) (hp:∀ o,H1 p = some o→Pln o):St g G H σ e G1 (upd H1 p o) σ1 e1 :=
 ⟨t.sr.put n nr hp,t.ln,t.le,fun a u h m nt=>by rw [upd_ne (ne_of_none h h0)]; exact t.keep a u h m nt,fun a h=>by
  by_cases z:a = p
  ·rw [z]; exact h0
  ·rw [upd_ne z] at h; exact t.dom a h,t.new,t.rts,t.rto,t.bor,t.bof,t.nlo⟩
theorem St.wiped (t:St g G H σ e G1 H1 σ1 e1) (ok:∀ i∈vs,(∀ d,e1[i]?≠some (.bo d))∧∀ s,Oa s = true→e1[i]?≠some s):St g G H σ e G1 H1 (wipe σ1 vs) (An e1 vs):=by
 have rt:∀ i p,Rt (wipe σ1 vs) (An e1 vs) i p→Rt σ1 e1 i p:=fun i p r=>by
  obtain ⟨r1,r2⟩:=r
  obtain ⟨h1,h2⟩:=wipe_some r2
  rw [C4 h2] at r1
  exact ⟨r1,h1⟩
 refine ⟨⟨t.sr.bs,t.sr.tabs,t.sr.scr,by rw [Dq,wipe_length]; exact t.sr.len,fun i=>?_,fun i j p a b=>t.sr.inj i j p (rt i p a) (rt j p b)⟩,by rw [Dq]; exact t.ln,t.le,t.keep,t.dom,t.new,fun i p r=>t.rts i p (rt i p r),fun i d p h1 h2=>?_,fun i d h=>?_,fun i s h fx=>?_,fun i d h=>?_⟩
 ·by_cases hi:i∈vs
  ·by_cases hl:i < e1.length
   ·rw [Hf hl hi]; trivial
   ·rw [List.getElem?_eq_none (by rw [Dq]; omega)]; trivial
  ·rw [C4 hi,wipe_out hi]; exact t.sr.slot i
 ·obtain ⟨h3,h4⟩:=wipe_some h2
  rw [C4 h4] at h1
  exact t.rto i d p h1 h3
 ·obtain ⟨x,d',y⟩:=t.bor i d h
  have hi:i ∉ vs:=fun z=>by
   rcases y with y | y
   ·exact (ok i z).1 d' y
   ·exact (ok i z).2 _ rfl y
  rw [C4 hi,wipe_out hi]
  exact ⟨x,d',y⟩
 ·obtain ⟨x,y⟩:=t.bof i s h fx
  have hi:i ∉ vs:=fun z=>(ok i z).2 s fx y
  rw [C4 hi,wipe_out hi]
  exact ⟨x,y⟩
 ·by_cases hi:i∈vs
  ·have hl:i < e1.length:=by rw [← Dq (e:=e1) vs]; exact Bj h
   rw [Hf hl hi] at h; cases h
  ·rw [C4 hi] at h; exact t.nlo i d h
theorem Abt:wipe (wipe σ vs) vs = wipe σ vs:=Mi (wipe_length σ vs) fun j hj=>wipe_out hj
end
theorem Reps.append {g:Gm} {G:Hp}:∀ {ds ds':List D} {vs vs':List V},Reps g G ds vs→Reps g G ds' vs'→Reps g G (ds ++ ds') (vs ++ vs')
 | [],_,_,_,h,q=>by rw [show _ = [] from h]; exact q
 | d :: ds,_,_,_,⟨v,r,e,a,b⟩,q=>⟨v,r ++ _,by rw [e]; rfl,a,Reps.append b q⟩
section
variable {g:Gm} {W:WX} {k:Nat} {X:Cx}
theorem Pst.pure {α:Type} {g:Gm} {W:WX} {σ:L2.St} {G H:Hp} {e:Ve} {R:α→Hp→Hp→Ve→Prop} {a:α} {e':Ve} {r:Res α} (h:Pst g W σ G H e R r) (q:r = .ok a e'):∀ G' H',Tr g σ G H e G' H' e'→R a G' H' e':=by
 subst q; exact h
theorem lc_ok {F:D→M Unit} {is vs:List Nat} {T:M Bool} {E:M Rv} {ds:List D} {σ:L2.St} {G H:Hp} {e:Ve} {J:It} {t:TG} {ys:List D} {eF:Ve} {Q:Hp→Prop} {Da:Addr}
  (his:∀ i∈is,i∈vs) (hF:∀ d e e' j,F d e = .ok () e'→j ∉ is→e'[j]? = e[j]?) (hO:∀ d e e' j,F d e = .ok () e'→j∈is→∃ d',e'[j]? = some (.sh d')) (hL:∀ d e e',F d e = .ok () e'→e'.length = e.length)
  (q:∀ (G H G0 H0:Hp) (σ σ0:L2.St) (e e0 e':Ve) (d:Vs.D) (v:V) (Q:L2.St→Hp→Prop),St g G0 H0 σ0 e0 G H σ e→Rep g G d v→F d e = .ok () e'→(∀ σ',St g G0 H0 σ0 e0 G H σ' e'→(∀ j,j ∉ is→σ'[j]? = σ[j]?)→Q σ' H)→t v σ H Q)
  (sr:SR g G H σ e) (it:ItOk g G H J ds) (ok:Fv e vs = true) (h:lcL F T E vs ds (An e vs) = .ok ys eF) (hz:ys.length≤sizeLine) (hD:H Da = none)
  (fin:∀ G' H',Tr g σ G H e G' H' (Cm e eF vs)→(∃ acc,H' Da = some (.lst acc)∧Reps g G' ys acc)→G' Da = none→(∀ i,¬ Rt σ (Cm e eF vs) i Da)→Q H') :
  ∃ W':Nat→Nat→Hp→Prop,(∃ m,W' 0 m (upd H Da (.lst [])))∧∀ i m H,W' i m H→(J.stop i H∧Q H)∨(J.go i H∧∃ Nx:Hp→Prop,(∀ H',Nx H'→∃ m',m' < m∧W' (i + 1) m' H') ∧
   ∀ x H',J.yld i H x H'→t x (wipe σ vs) H' fun σ2 H2=>wipe σ2 vs = wipe σ vs∧TVT g W0 T σ2 H2 fun b H3=>if b = true then TV g W0 (Ad E) σ2 H3 fun y H4=>∃ acc,H4 Da = some (.lst acc)∧acc.length < sizeLine∧Nx (upd H4 Da (.lst (acc ++ [y]))) else Nx H3):=by
 have okb:∀ i∈vs,(e[i]? = some .un)∨∃ d,e[i]? = some (.sh d):=fun i hi=>by
  have h1:=List.all_eq_true.mp ok i hi
  revert h1
  cases e[i]? with
  | none=>exact fun z=>nomatch z
  | some s =>
   cases s with
   | un=>exact fun _=>.inl rfl
   | sh d=>exact fun _=>.inr ⟨d,rfl⟩
   | ow d=>exact fun z=>nomatch z
   | bo d=>exact fun z=>nomatch z
   | bf d=>exact fun z=>nomatch z
   | lo d=>exact fun z=>nomatch z
 have st0:St g G H σ e G H (wipe σ vs) (An e vs):=St.wiped (St.refl sr) fun i hi=>by
  rcases okb i hi with z | ⟨d',z⟩ <;> rw [z] <;> exact ⟨(fun d y=>nomatch y),(fun s fx y=>by cases y; cases fx)⟩
 have nrt0:∀ {G' H':Hp} {e':Ve},St g G H σ e G' H' (wipe σ vs) e'→VeOff vs (An e vs) e'→(∀ j∈vs,j < e.length→e'[j]? = some .un)→∀ i p,Rt (wipe σ vs) e' i p→Rt σ e i p:=fun {G' H' e'} st vo un i p r=>by
  obtain ⟨r1,r2⟩:=r
  obtain ⟨h1,h2⟩:=wipe_some r2
  refine ⟨?_,h1⟩
  have hlt:i < e.length:=by rw [sr.len]; exact Bj h1
  obtain ⟨s,hs⟩:∃ s,e[i]? = some s:=⟨e[i],List.getElem?_eq_getElem hlt⟩
  obtain ⟨s',hs',l⟩:=vo.2 i s h2 (by rw [C4 h2]; exact hs)
  rw [hs'] at r1
  rw [hs]
  exact Oc l r1
 let Inv:=fun (i:Nat) (H':Hp)=>∃ G' e' acc ys1 zs,St g G H σ e G' H' (wipe σ vs) e'∧VeOff vs (An e vs) e'∧(∀ j∈vs,j < e.length→e'[j]? = some .un)∧H' Da = some (.lst acc)∧G' Da = none∧Reps g G' ys1 acc∧Fz H H'∧lcL F T E vs (ds.drop i) e' = .ok zs eF∧ys = ys1 ++ zs
 have nda:∀ {G' H':Hp} {e':Ve},St g G H σ e G' H' (wipe σ vs) e'→VeOff vs (An e vs) e'→(∀ j∈vs,j < e.length→e'[j]? = some .un)→∀ i,¬ Rt (wipe σ vs) e' i Da:=fun st vo un i r=>(sr.root (nrt0 st vo un i Da r)).2 hD
 refine ⟨fun i m H'=>m = ds.length - i∧i≤ds.length∧Inv i H',⟨_,rfl,Nat.zero_le _,G,An e vs,[],[],ys,?_,⟨rfl,fun j s _ h=>⟨s,h,SlLe.refl s⟩⟩,fun j hj hl=>Hf hl hj,upd_same,sr.bs.hn hD,rfl,fun a o u h=>by rw [upd_ne (ne_of_none h hD)]; exact h,h,rfl⟩,?_⟩
 ·refine st0.putNew hD (sr.bs.hn hD) (fun i r=>?_) ?_
  ·skip
   have vo:VeOff vs (An e vs) (An e vs):=⟨rfl,fun j s _ h=>⟨s,h,SlLe.refl s⟩⟩
   exact nda st0 vo (fun j hj hl=>Hf hl hj) i r
  ·intro o z; rw [hD] at z; cases z
 rintro i m H1 ⟨rfl,hi,G1,e1,acc,ys1,zs,st1,vo1,un1,hD1,nD1,rp1,fz1,hl1,ey⟩
 have le1:=st1.le
 by_cases hlt:i < ds.length
 ·refine .inr ⟨it.go i G1 H1 le1 st1.sr.bs fz1 hlt,fun H'=>i + 1≤ds.length∧Inv (i + 1) H',fun H' hN=>⟨ds.length - (i + 1),by omega,rfl,hN⟩,fun x H2 y=>?_⟩
  obtain ⟨d,G2,ed,gr,rd⟩:=it.yld i G1 H1 x H2 le1 st1.sr.bs fz1 hlt y
  have st2:=st1.trans (gr.tr st1.sr).st
  have ed':ds.drop i = d :: ds.drop (i + 1):=by
   rw [List.drop_eq_getElem_cons hlt]
   rw [List.getElem?_eq_getElem hlt] at ed
   rw [Option.some.inj ed]
  have fz2:Fz H H2:=fz1.trans gr.fz
  have hD2:H2 Da = some (.lst acc):=gr.keep _ _ hD1
  have nD2:G2 Da = none:=gr.new _ nD1 (by rw [hD1]; exact fun z=>nomatch z)
  have rp2:=rp1.mono gr.le
  rw [ed'] at hl1
  simp only [lcL] at hl1
  cases qf:F d e1 with
  | no=>simp only [M.bind,qf] at hl1; cases hl1
  | er x e'=>simp only [M.bind,qf] at hl1; cases hl1
  | ok u e2 =>
   refine q G2 H2 G H (wipe σ vs) σ e1 e e2 d x _ st2 rd qf fun σ2 st3 off3=>?_
   have len2:e2.length = e1.length:=hL d e1 e2 qf
   have hle1:e1.length = e.length:=by rw [vo1.1,Dq]
   have lenσ:σ2.length = (wipe σ vs).length:=by rw [← st3.sr.len,len2,hle1,sr.len,wipe_length]
   have ew:wipe σ2 vs = wipe σ vs:=by
    rw [Mi lenσ fun j hj=>off3 j fun z=>hj (his j z),Abt]
   refine ⟨ew,?_⟩
   have vo2:VeOff vs (An e vs) e2:=vo1.trans ⟨len2,fun j s n h=>⟨s,by rw [hF d e1 e2 j qf fun z=>n (his j z)]; exact h,SlLe.refl s⟩⟩
   have un2:∀ j∈vs,∀ s,e2[j]? = some s→s = .un∨∃ d,s = .sh d:=fun j hj s h=>by
    by_cases hm:j∈is
    ·obtain ⟨d',h'⟩:=hO d e1 e2 j qf hm
     rw [h'] at h; cases h; exact .inr ⟨d',rfl⟩
    ·rw [hF d e1 e2 j qf hm] at h
     have:j < e.length:=by rw [← hle1]; exact Bj h
     rw [un1 j hj this] at h; cases h; exact .inl rfl
   have nr2:∀ i,¬ Rt σ2 e2 i Da:=fun i r=>by
    rcases st3.rts i Da r with ⟨j,r'⟩ | r'
    ·exact (sr.root r').2 hD
    ·by_cases hm:i∈vs
     ·obtain ⟨r1,_⟩:=r
      cases qq:e2[i]? with
      | none=>rw [qq] at r1; exact r1
      | some s =>
       rw [qq] at r1
       rcases un2 i hm s qq with rfl | ⟨d',rfl⟩ <;> exact r1
     ·obtain ⟨r1,r2⟩:=r
      rw [off3 i fun z=>hm (his i z)] at r2
      rw [hF d e1 e2 i qf fun z=>hm (his i z)] at r1
      exact nda st1 vo1 un1 i ⟨r1,r2⟩
   have hl2:M.bind T (fun b=>if b = true then ((Ad E).bind fun y=>match y with
     | .val y=>fun e=>M.map (lcL F T E vs (ds.drop (i + 1))) (y :: ·) (An e vs)
     | _=>fun _=>.no) else fun e=>lcL F T E vs (ds.drop (i + 1)) (An e vs)) e2 = .ok zs eF:=by
    have:=hl1
    unfold M.bind at this
    rw [qf] at this
    exact this
   have turn:∀ {G4 H4:Hp} {e4:Ve} {acc':List V} {ys' zs':List D},Tr g σ2 G2 H2 e2 G4 H4 e4→H4 Da = some (.lst acc)→Reps g G4 ys' acc'→lcL F T E vs (ds.drop (i + 1)) (An e4 vs) = .ok zs' eF→ys = ys' ++ zs' →
     i + 1≤ds.length∧Inv (i + 1) (upd H4 Da (.lst acc')):=fun {G4 H4 e4 acc' ys' zs'} t4 hD4 rp4 hl4 ey4=>by
    have nD4:G4 Da = none:=t4.new _ nD2 (by rw [hD2]; exact fun z=>nomatch z) nr2
    have un4:∀ j∈vs,∀ s,e4[j]? = some s→s = .un∨∃ d,s = .sh d:=fun j hj s h=>by
     have hl:j < e2.length:=by rw [← t4.ve.len]; exact Bj h
     obtain ⟨s',h',l⟩:=t4.ve.at_ j e2[j] (List.getElem?_eq_getElem hl)
     rw [h] at h'; cases h'
     rcases un2 j hj _ (List.getElem?_eq_getElem hl) with z | ⟨d',z⟩
     ·rw [z] at l; exact .inl l
     ·rw [z] at l; exact .inr ⟨d',l⟩
    have st4:=st3.trans t4.st
    have st5:St g G H σ e G4 H4 (wipe σ2 vs) (An e4 vs):=st4.wiped fun j hj=>⟨(fun d' z=>by
     rcases un4 j hj _ z with y | ⟨_,y⟩ <;> cases y),(fun s fx z=>by
     rcases un4 j hj _ z with y | ⟨_,y⟩ <;> rw [y] at fx <;> cases fx)⟩
    rw [ew] at st5
    have vo4:VeOff vs (An e vs) (An e4 vs):=(vo2.trans t4.ve.off).trans VeOff.wipe
    have hle4:e4.length = e.length:=by rw [t4.ve.len,len2,hle1]
    have un5:∀ j∈vs,j < e.length→(An e4 vs)[j]? = some .un:=fun j hj hl=>Hf (by rw [hle4]; exact hl) hj
    have nr5:=nda st5 vo4 un5
    refine ⟨hlt,G4,An e4 vs,acc',ys',zs',st5.putNew hD nD4 nr5 (fun o z=>by rw [hD4] at z; cases z; trivial),vo4,un5,upd_same,nD4,rp4,fun a o u h=>?_,hl4,ey4⟩
    rw [upd_ne (ne_of_none h hD)]
    exact st4.fz sr a o u h
   have sr3:=st3.sr
   refine ⟨G2,e2,sr3,?_⟩
   cases qt:T e2 with
   | no=>simp only [M.bind,qt] at hl2; cases hl2
   | er x e'=>simp only [M.bind,qt] at hl2; cases hl2
   | ok b e3 =>
    intro G3 H3 t3
    simp only [M.bind,qt] at hl2
    have hD3:H3 Da = some (.lst acc):=t3.keep _ _ hD2 nr2 (fun ps z=>nomatch z)
    cases b with
    | false =>
     simp only [Bool.false_eq_true,if_false] at hl2 ⊢
     have hh:=turn t3 hD3 (rp2.mono t3.le) hl2 ey
     have e0:upd H3 Da (.lst acc) = H3:=by
      funext a
      by_cases z:a = Da
      ·rw [z,upd_same,hD3]
      ·rw [upd_ne z]
     rw [e0] at hh
     exact hh
    | true =>
     rw [if_pos rfl] at hl2 ⊢
     refine ⟨G3,e3,t3.sr,?_⟩
     unfold M.bind at hl2
     cases qe:Ad E e3 with
     | no=>rw [qe] at hl2; cases hl2
     | er x e'=>rw [qe] at hl2; cases hl2
     | ok r e4 =>
      intro G4 H4 t4 v rv
      rw [qe] at hl2
      cases r with
      | slot i=>cases hl2
      | fresh d=>cases hl2
      | val yd =>
       have t34:=t3.trans t4
       have hD4:H4 Da = some (.lst acc):=t34.keep _ _ hD2 nr2 (fun ps z=>nomatch z)
       have hl2:M.map (lcL F T E vs (ds.drop (i + 1))) (yd :: ·) (An e4 vs) = .ok zs eF:=hl2
       unfold M.map M.bind M.ret at hl2
       cases ql:lcL F T E vs (ds.drop (i + 1)) (An e4 vs) with
       | no=>rw [ql] at hl2; cases hl2
       | er x e'=>rw [ql] at hl2; cases hl2
       | ok zs' eF' =>
        rw [ql] at hl2
        cases hl2
        refine ⟨acc,hD4,?_,turn t34 hD4 (ys':=ys1 ++ [yd]) (acc':=acc ++ [v]) ((rp2.mono t34.le).append ⟨v,[],rfl,rv,rfl⟩) ql (by rw [ey]; simp)⟩
        have h1:=(rp1).len
        have h2:ys.length = ys1.length + (zs'.length + 1):=by rw [ey]; simp
        omega
 ·have ei:i = ds.length:=by omega
  subst ei
  rw [List.drop_length] at hl1
  obtain ⟨rfl,rfl⟩:zs = []∧e1 = eF:=by
   cases hl1; exact ⟨rfl,rfl⟩
  refine .inl ⟨it.stop G1 H1 le1 st1.sr.bs fz1,?_⟩
  rw [List.append_nil] at ey
  subst ey
  have hle1:e1.length = e.length:=by rw [vo1.1,Dq]
  have rtr:∀ i p,Rt σ (Cm e e1 vs) i p→Rt (wipe σ vs) e1 i p∧Rt σ e i p:=fun i p r=>by
   obtain ⟨r1,r2⟩:=r
   by_cases hm:i∈vs
   ·rw [Mp hle1 hm] at r1
    rcases okb i hm with z | ⟨d,z⟩ <;> rw [z] at r1 <;> exact r1.elim
   ·rw [K4 hm] at r1
    have a:Rt (wipe σ vs) e1 i p:=⟨r1,by rw [wipe_out hm]; exact r2⟩
    exact ⟨a,nrt0 st1 vo1 un1 i p a⟩
  have rte:∀ i p,Rt σ e i p→i ∉ vs:=fun i p r hm=>by
   obtain ⟨r1,_⟩:=r
   rcases okb i hm with z | ⟨d,z⟩ <;> rw [z] at r1 <;> exact r1
  refine fin G1 H1 ⟨⟨st1.sr.bs,st1.sr.tabs,st1.sr.scr,by rw [Mo,hle1]; exact sr.len,fun i=>?_,fun i j p a b=>st1.sr.inj i j p (rtr i p a).1 (rtr j p b).1⟩,st1.le,st1.keep,st1.dom,st1.new,⟨by rw [Mo,hle1],fun i s hs=>?_⟩⟩ ⟨acc,hD1,rp1⟩ nD1 fun i r=>nda st1 vo1 un1 i (rtr i Da r).1
  ·by_cases hm:i∈vs
   ·rw [Mp hle1 hm]
    have sl:=sr.slot i
    rcases okb i hm with z | ⟨d,z⟩
    ·rw [z]; trivial
    ·rw [z] at sl ⊢
     obtain ⟨v,ev,r⟩:=sl
     exact ⟨v,ev,r.mono st1.le⟩
   ·rw [K4 hm]
    have sl:=st1.sr.slot i
    rw [wipe_out hm] at sl
    exact sl
  ·by_cases hm:i∈vs
   ·exact ⟨s,by rw [Mp hle1 hm]; exact hs,SlLe.refl s⟩
   ·obtain ⟨s',h',l⟩:=vo1.2 i s hm (by rw [C4 hm]; exact hs)
    exact ⟨s',by rw [K4 hm]; exact h',l⟩
end
section
variable {g:Gm} {W:WX} {k:Nat} {X:Cx} {elt tg iter:Expr} {ifs:List Expr} {scope:Scope} {own:List (Str × Nat)} {pos:Pos} {S:M (List D)} {F:D→M Unit} {is:List Nat} {T:M Bool} {E:M Rv}
theorem Cd.blk (c:Cd g W k X) (s:Shared) (H:Hp) (scope:Scope) (cenv:PySem.Env) (fp:List Addr):Cd g W0 k (X.blk s H scope cenv fp) :=
 ⟨c.K,c.w,c.calm,takes0,c.room,PassesOwn.never,c.nd⟩
theorem tv_lc {t:TG} {σ:L2.St} {H:Hp} {Q:VK} (his:∀ i∈is,i∈own.map (·.2)) (hg:∃ X',VG g X' tg F is)
  (q:∀ (G H G0 H0:Hp) (σ σ0:L2.St) (e e0 e':Ve) (d:Vs.D) (v:V) (Q:L2.St→Hp→Prop),St g G0 H0 σ0 e0 G H σ e→Rep g G d v→F d e = .ok () e'→(∀ σ',St g G0 H0 σ0 e0 G H σ' e'→(∀ j,j ∉ is→σ'[j]? = σ[j]?)→Q σ' H)→t v σ H Q)
  (h:TV g W (fLc S F T E (own.map (·.2))) σ H Q):tLc (TVI g W S) t (TVT g W0 T) (TV g W0 (Ad E)) (own.map (·.2)) σ H Q:=by
 obtain ⟨X',hg⟩:=hg
 obtain ⟨G,e,sr,h⟩:=h
 refine ⟨G,e,sr,Pst.mono (Pst.bind h) fun ds G1 H1 e1 t1 h1 J it Da nD=>?_⟩
 by_cases ok:Fv e1 (own.map (·.2)) = true
 ·rw [if_pos ok] at h1
  cases ql:lcL F T E (own.map (·.2)) ds (An e1 (own.map (·.2))) with
  | no=>rw [ql] at h1; exact h1.elim
  | er x e'=>rw [ql] at h1; exact h1.elim
  | ok ys eF =>
   rw [ql] at h1
   simp only at h1
   by_cases hz:ys.length≤sizeLine
   ·rw [if_pos hz] at h1
    exact lc_ok his hg.off hg.oth hg.len q t1.sr it ok ql hz nD fun G' H' t2 ⟨acc,ha,rp⟩ n nr=>h1 G' H' t2 (.ref Da) ⟨Da,rfl,n,⟨acc,ha,rp⟩,t1.dom Da nD,nr⟩
   ·rw [if_neg hz] at h1; exact h1.elim
 ·rw [if_neg ok] at h1; exact h1.elim
theorem Ja (hi:VI g W k X tg iter S) (ok:BlkOk X.N X.env.scope scope own) (his:∀ i∈is,i∈own.map (·.2))
  (hg:∀ (s:Shared) (H:Hp) (C:Addr) (cl:List (Str × Addr)) (fp:List Addr),VG g (X.blk s H scope (compEnvC scope cl C X.env) fp) tg F is)
  (ht:∀ (s:Shared) (H:Hp) (C:Addr) (cl:List (Str × Addr)) (fp:List Addr),VTs g W0 k (X.blk s H scope (compEnvC scope cl C X.env) fp) ifs T)
  (he:∀ (s:Shared) (H:Hp) (C:Addr) (cl:List (Str × Addr)) (fp:List Addr),VE g W0 k (X.blk s H scope (compEnvC scope cl C X.env) fp) elt E) (hs:∀ x,foldedSetIterable iter X.env x = pure x:=by intro _; rfl) :
  VE g W k X (.ListComp elt [⟨tg,iter,ifs,0⟩] scope pos) (fLc S F T E (own.map (·.2))):=by
 refine ⟨fun c=>?_⟩
 have one:∃ t:TG,(∀ (s:Shared) (H:Hp) (C:Addr) (cl:List (Str × Addr)) (fp:List Addr),PG (X.blk s H scope (compEnvC scope cl C X.env) fp) tg t) ∧
   ∀ (G H G0 H0:Hp) (σ σ0:L2.St) (e e0 e':Ve) (d:Vs.D) (v:V) (Q:L2.St→Hp→Prop),St g G0 H0 σ0 e0 G H σ e→Rep g G d v→F d e = .ok () e'→(∀ σ',St g G0 H0 σ0 e0 G H σ' e'→(∀ j,j ∉ is→σ'[j]? = σ[j]?)→Q σ' H)→t v σ H Q:=by
  refine ⟨fun v σ H Q=>∃ G G0 H0 σ0 e e0 e' d,St g G0 H0 σ0 e0 G H σ e∧Rep g G d v∧F d e = .ok () e'∧∀ σ',St g G0 H0 σ0 e0 G H σ' e'→(∀ j,j ∉ is→σ'[j]? = σ[j]?)→Q σ' H,fun s H C cl fp=>?_,fun G H G0 H0 σ σ0 e e0 e' d v Q a b c q=>⟨G,G0,H0,σ0,e,e0,e',d,a,b,c,q⟩⟩
  obtain ⟨t,p,q⟩:=(hg s H C cl fp).pg k W0 (c.blk s H scope _ fp)
  exact ⟨fun pins s σ H v u Q I r ⟨G,G0,H0,σ0,e,e0,e',d,a,b,c,q'⟩=>p.run pins s σ H v u Q I r (q G H G0 H0 σ σ0 e e0 e' d v Q a b c q')⟩
 obtain ⟨t,p,q⟩:=one
 have pe:=pe_lc (pos:=pos) c.calm c.nd (hi.run c) ok p (fun s H C cl fp=>(ht s H C cl fp).run (c.blk s H scope _ fp)) (fun s H C cl fp=>(Ar (he s H C cl fp)).run (c.blk s H scope _ fp)) hs
 exact ⟨fun pins s σ H Q I h=>pe.run pins s σ H Q I (tv_lc his ⟨_,hg s H 0 [] []⟩ q h)⟩
end
end Vs
set_option maxRecDepth 100000
set_option maxHeartbeats 2000000
namespace Vs
open PySem PySem.Spec PyProof.Rows L2 Fw SX
def Dt (r:Rv):M Rv:=match r with
 | .val d=>M.ret (.val d)
 | .fresh d=>M.ret (.fresh d)
 | .slot i=>fun e=>match e[i]? with
  | some (.ow d)=>.ok (.fresh d) e
  | _=>M.map (Bq (.slot i)) Rv.val e
def backV:List Sl→Ve→List Sl
 | .bo _ :: as,s :: r=>s :: backV as r
 | a :: as,_ :: r=>a :: backV as r
 | as,[]=>as
 | [],_=>[]
def Eh:Sl→Bool
 | .sh _=>true
 | .bo _=>true
 | _=>false
def fnF (np n:Nat) (body:M Ctl) (args:List Sl):Res Rv:=if args.length = np then (match body (args ++ List.replicate (n - args.length) .un) with
 | .ok .nx e'=>.ok (.val .non) (backV args e')
 | .ok (.rt r) e'=>(match Dt r e' with
  | .ok r' e2=>.ok r' (backV args e2)
  | _=>.no)
 | .er x e'=>.er x (backV args e')
 | _=>.no) else .no
def WR (E:XK):WX:=fun cls d _ H=>E cls d H
def spV (g:Gm) (n:Nat) (F:List Sl→Res Rv):Sp:=fun vs H Q E=>vs.length = n∧∃ G args,args.all Eh = true∧SR g G H (vs.map some) args ∧
 Pst g (WR E) (vs.map some) G H args (fun r G' H' e'=>∀ v,RvNew g G' H' H r v→Q v H') (F args)
section
variable {g:Gm} {G H G1 H1:Hp} {e1:Ve} {vs:List V} {as:List Sl} {N:List Str}
theorem Fx:∀ {as:List Sl} {e:Ve},(backV as e).length = as.length
 | [],[]=>rfl
 | [],_ :: _=>rfl
 | a :: as,[]=>by cases a <;> rfl
 | a :: as,s :: r=>by
  cases a <;> simp [backV,Fx]
theorem Q0:∀ {as:List Sl} {e:Ve} {i:Nat} {a:Sl},as.length≤e.length→as[i]? = some a→(backV as e)[i]? = match a with
  | .bo _=>e[i]?
  | a=>some a
 | [],_,_,_,_,h=>by simp at h
 | b :: as,[],i,a,hl,h=>by simp at hl
 | b :: as,s :: r,0,a,hl,h=>by
  cases h
  cases b <;> rfl
 | b :: as,s :: r,i + 1,a,hl,h=>by
  have ih:=Q0 (as:=as) (e:=r) (i:=i) (a:=a) (by simpa using hl) (by simpa using h)
  cases b <;> simpa [backV] using ih
theorem Q1 (sr:SR g G H (vs.map some) as):SR g G H (L2.start N vs) (as ++ List.replicate (N.length - as.length) .un):=by
 have hl:as.length = vs.length:=by rw [sr.len,List.length_map]
 have off:∀ i,¬ i < as.length→∀ s,(as ++ List.replicate (N.length - as.length) Sl.un)[i]? = some s→s = .un:=fun i hi s h=>by
  rw [List.getElem?_append_right (by omega)] at h
  exact List.eq_of_mem_replicate (List.mem_of_getElem? h)
 have on:∀ i,i < as.length→(as ++ List.replicate (N.length - as.length) Sl.un)[i]? = as[i]?∧(L2.start N vs)[i]? = (vs.map some)[i]?:=fun i hi=>by
  refine ⟨List.getElem?_append_left hi,?_⟩
  unfold L2.start
  exact List.getElem?_append_left (by rw [List.length_map]; omega)
 have rt:∀ i p,Rt (L2.start N vs) (as ++ List.replicate (N.length - as.length) .un) i p→Rt (vs.map some) as i p:=fun i p r=>by
  obtain ⟨r1,r2⟩:=r
  by_cases hi:i < as.length
  ·rw [(on i hi).1] at r1
   rw [(on i hi).2] at r2
   exact ⟨r1,r2⟩
  ·exfalso
   cases q:(as ++ List.replicate (N.length - as.length) Sl.un)[i]? with
   | none=>rw [q] at r1; exact r1
   | some s=>rw [q,off i hi s q] at r1; exact r1
 refine ⟨sr.bs,sr.tabs,sr.scr,?_,fun i=>?_,fun i j p a b=>sr.inj i j p (rt i p a) (rt j p b)⟩
 ·unfold L2.start
  simp [hl]
 ·by_cases hi:i < as.length
  ·rw [(on i hi).1,(on i hi).2]
   exact sr.slot i
  ·cases q:(as ++ List.replicate (N.length - as.length) Sl.un)[i]? with
   | none=>trivial
   | some s=>rw [off i hi s q]; trivial
theorem Mq {i:Nat} {p:Addr} (hl:as.length = vs.length) (r:Rt (L2.start N vs) (as ++ List.replicate (N.length - as.length) .un) i p):Rt (vs.map some) as i p:=by
 obtain ⟨r1,r2⟩:=r
 by_cases hi:i < as.length
 ·rw [List.getElem?_append_left hi] at r1
  unfold L2.start at r2
  rw [List.getElem?_append_left (by rw [List.length_map]; omega)] at r2
  exact ⟨r1,r2⟩
 ·exfalso
  cases q:(as ++ List.replicate (N.length - as.length) Sl.un)[i]? with
  | none=>rw [q] at r1; exact r1
  | some s =>
   rw [q] at r1
   rw [List.getElem?_append_right (by omega)] at q
   rw [List.eq_of_mem_replicate (List.mem_of_getElem? q)] at r1
   exact r1
theorem Hg {σ1:L2.St} (ok:as.all Eh = true) (sr:SR g G H (vs.map some) as) (t:St g G H (L2.start N vs) (as ++ List.replicate (N.length - as.length) .un) G1 H1 σ1 e1):Tr g (vs.map some) G H as G1 H1 (backV as e1):=by
 have hl:as.length = vs.length:=by rw [sr.len,List.length_map]
 have on:∀ i a,as[i]? = some a→(as ++ List.replicate (N.length - as.length) Sl.un)[i]? = some a∧(L2.start N vs)[i]? = (vs.map some)[i]?:=fun i a h=>by
  have hi:=Bj h
  refine ⟨by rw [List.getElem?_append_left hi]; exact h,?_⟩
  unfold L2.start
  exact List.getElem?_append_left (by rw [List.length_map]; omega)
 have okA:∀ (i:Nat) a,as[i]? = some a→(∃ d,a = .sh d)∨∃ d,a = .bo d:=fun i a h=>by
  have:=List.all_eq_true.mp ok a (List.mem_of_getElem? h)
  cases a with
  | un=>cases this
  | sh d=>exact .inl ⟨d,rfl⟩
  | ow d=>cases this
  | bo d=>exact .inr ⟨d,rfl⟩
  | bf d=>cases this
  | lo d=>cases this
 have be:∀ (i:Nat) a,as[i]? = some a→(∃ d,a = .sh d∧(backV as e1)[i]? = some (.sh d))∨(∃ d,a = .bo d∧(backV as e1)[i]? = e1[i]?∧σ1[i]? = (vs.map some)[i]?∧∃ d',e1[i]? = some (.bo d')∨e1[i]? = some (.bf d')):=fun i a h=>by
  obtain ⟨o1,o2⟩:=on i a h
  have hle:as.length≤e1.length:=by rw [t.ln]; simp
  have q:=Q0 hle h
  rcases okA i a h with ⟨d,rfl⟩ | ⟨d,rfl⟩
  ·exact .inl ⟨d,rfl,q⟩
  ·obtain ⟨x,y⟩:=t.bor i d o1
   exact .inr ⟨d,rfl,q,x.trans o2,y⟩
 have rtb:∀ i p,Rt (vs.map some) (backV as e1) i p→Rt σ1 e1 i p∧Rt (vs.map some) as i p:=fun i p r=>by
  obtain ⟨r1,r2⟩:=r
  cases q:as[i]? with
  | none =>
   exfalso
   have:(backV as e1)[i]? = none:=by
    rw [List.getElem?_eq_none_iff] at q ⊢
    rw [Fx]; exact q
   rw [this] at r1; exact r1
  | some a =>
   rcases be i a q with ⟨d,rfl,h1⟩ | ⟨d,rfl,h1,h2,_⟩
   ·rw [h1] at r1; exact r1.elim
   ·exact ⟨⟨by rw [← h1]; exact r1,by rw [h2]; exact r2⟩,⟨by rw [q]; trivial,r2⟩⟩
 refine ⟨⟨t.sr.bs,t.sr.tabs,t.sr.scr,by rw [Fx]; exact sr.len,fun i=>?_,fun i j p a b=>t.sr.inj i j p (rtb i p a).1 (rtb j p b).1⟩,t.le,fun a o h n nt=>t.keep a o h (fun i r=>n i (Mq hl r)) nt,t.dom,fun a h1 h2 n=>t.new a h1 h2 fun i r=>n i (Mq hl r),⟨Fx,fun i s hs=>?_⟩⟩
 ·cases q:as[i]? with
  | none =>
   have:(backV as e1)[i]? = none:=by
    rw [List.getElem?_eq_none_iff] at q ⊢
    rw [Fx]; exact q
   rw [this]; trivial
  | some a =>
   rcases be i a q with ⟨d,rfl,h1⟩ | ⟨d,rfl,h1,h2,_⟩
   ·have sl:=sr.slot i
    rw [q] at sl
    rw [h1]
    obtain ⟨v,ev,r⟩:=sl
    exact ⟨v,ev,r.mono t.le⟩
   ·have sl:=t.sr.slot i
    rw [h1,← h2]
    exact sl
 ·rcases be i s hs with ⟨d,rfl,h1⟩ | ⟨d,rfl,h1,h2,d',h3⟩
  ·exact ⟨_,h1,SlLe.refl _⟩
  ·rcases h3 with h3 | h3
   ·exact ⟨_,h1.trans h3,d',.inl rfl⟩
   ·exact ⟨_,h1.trans h3,d',.inr rfl⟩
theorem Vk {σ1:L2.St} {r r':Rv} {e2:Ve} {v:V} (ok:as.all Eh = true) (sr:SR g G H (vs.map some) as) (t:St g G H (L2.start N vs) (as ++ List.replicate (N.length - as.length) .un) G1 H1 σ1 e1) (rv:RvOk g G1 H1 σ1 e1 H r v) (h:Dt r e1 = .ok r' e2) :
  ∃ G2,Tr g (vs.map some) G H as G2 H1 (backV as e2)∧RvNew g G2 H1 H r' v:=by
 have hl:as.length = vs.length:=by rw [sr.len,List.length_map]
 cases r with
 | val d=>cases h; exact ⟨G1,Hg ok sr t,rv⟩
 | fresh d =>
  cases h
  obtain ⟨p,ev,n,o,h0,_⟩:=rv
  exact ⟨G1,Hg ok sr t,p,ev,n,o,h0⟩
 | slot i =>
  obtain ⟨ev,s,es,ns⟩:=id rv
  simp only [Dt] at h
  have gen:M.map (Bq (.slot i)) Rv.val e1 = .ok r' e2→∃ G2,Tr g (vs.map some) G H as G2 H1 (backV as e2)∧RvNew g G2 H1 H r' v:=fun h=>by
   unfold M.map M.bind M.ret at h
   cases q:Bq (.slot i) e1 with
   | no=>rw [q] at h; cases h
   | er x e'=>rw [q] at h; cases h
   | ok d e3 =>
    rw [q] at h
    cases h
    obtain ⟨G2,t2,rp⟩:=Mh (Tr.refl t.sr) (r:=.slot i) (v:=v) ⟨ev,s,es,ns⟩ q
    exact ⟨G2,Hg ok sr (t.trans t2.st),rp⟩
  rw [es] at h
  cases s with
  | un=>exact absurd rfl ns
  | sh d=>exact gen h
  | bo d=>exact gen h
  | bf d=>exact gen h
  | lo d=>exact gen h
  | ow d =>
   cases h
   have sl:=t.sr.slot i
   rw [es] at sl
   obtain ⟨p,ep,n,o⟩:=sl
   rw [ep] at ev
   cases ev
   refine ⟨G1,Hg ok sr t,p,rfl,n,o,?_⟩
   rcases t.rto i d p es ep with ⟨j,d0,q1,q2⟩ | q
   ·exfalso
    by_cases hj:j < as.length
    ·rw [List.getElem?_append_left hj] at q1
     have:=List.all_eq_true.mp ok _ (List.mem_of_getElem? q1)
     cases this
    ·rw [List.getElem?_append_right (by omega)] at q1
     cases List.eq_of_mem_replicate (List.mem_of_getElem? q1)
   ·exact q
end
def spR (g:Gm) (F:List Sl→Res Rv):Sp:=fun vs H Q E=>∃ G args,args.all Eh = true∧SR g G H (vs.map some) args ∧
 Pst g (WR E) (vs.map some) G H args (fun r G' H' e'=>∀ v,RvNew g G' H' H r v→Q v H') (F args)
structure FnG (P:Program) (w:World) (K:PySem.W.Frag) (mg:Str→Option Value) (base:Heap) (CXa:CXT) (k:Nat) (f:Addr) (fd:FuncData) (ps:List Str) (sp:Sp):Prop where
 len:∀ vs H Q E,sp vs H Q E→vs.length = ps.length
 run:∀ (A:Around) (outer:List PySem.Env) (s:Shared) (H:Hp) (args:Args) (us:List Value) (vs:List V) (Q:VK) (E:XK),Rm k A→Env0 P w K mg base A outer s H→BindsTo s fd args (ps.zip us)→Vals vs us→sp vs H Q E →
  codeAny (model P w) A (.call (.ref f) args) (CR CXa outer P w H s Q E) s
theorem FnG.raw {P:Program} {w:World} {K:PySem.W.Frag} {mg:Str→Option Value} {base:Heap} {CXa:CXT} {k:Nat} {f:Addr} {fd:FuncData} {ps:List Str} {sp:Sp} {ds:List Value} {dvs:List V} (F:FnG P w K mg base CXa k f fd ps sp) (hb:Binds K fd ps ds) (hd:Vals dvs ds)
  (A:Around) (outer:List PySem.Env) (s:Shared) (H:Hp) (us:List Value) (vs:List V) (Q:VK) (E:XK) (hr:Rm k A) (e0:Env0 P w K mg base A outer s H) (r:Vals vs us) (hs:sp (vs ++ dvs) H Q E):codeAny (model P w) A (.call (.ref f) ⟨us,[]⟩) (CR CXa outer P w H s Q E) s :=
 have r2:Vals (vs ++ dvs) (us ++ ds):=r.append hd
 F.run A outer s H ⟨us,[]⟩ (us ++ ds) (vs ++ dvs) Q E hr e0 (hb s us (e0.mod.kin.keeps fun b o e=>(e0.bs b o e).1) (by rw [← r2.length]; exact F.len _ _ _ _ hs)) r2 hs
theorem Q2 {CXa:CXT} {P:Program} {w:World} {K:PySem.W.Frag} {mg:Str→Option Value} {base:Heap} {k:Nat} {f:Addr} {name qual:Str} {params:Arguments} {body:List Stmt} {scope:Scope} {dV kV doc pm cdv ct oc:Value} {an od:Option Addr}
  {osl:Array (Option Value)} {N ps:List Str} {sp:Sp} (lk:K.lookup f = some ⟨oc,od,.func (PySem.W.fnOf name qual params body scope dV kV doc pm an cdv ct),osl⟩) (hcd:PySem.W.codeIn K cdv qual = true) (S:FnScope N ps scope)
  (len:∀ vs H Q E,sp vs H Q E→vs.length = ps.length)
  (hbody:∀ (A:Around) (outer:List PySem.Env) (s:Shared) (H:Hp) (vs:List V) (Q:VK) (E:XK),Rm k (A.deeper (envOfC qual scope s.heap.objs.size f cdv))→sp vs H Q E →
   ∃ t,PSs (cxOf CXa P w K mg base N qual scope f cdv A outer s H E) body t∧t { nx:=fun _ H'=>Q .non H',rt:=Q } (L2.start N vs) H) :
  FnG P w K mg base CXa (k + 1) f (PySem.W.fnOf name qual params body scope dV kV doc pm an cdv ct) ps sp :=
 ⟨len,fun A outer s H args us vs Q E hr e0 hb r hs=>StX.run_bnd (G:=fun xs H2=>xs = vs∧H2 = H) lk hcd S hr.toRoom e0
  (fun A' Ex Q' h=>hb _ _ _ _ (h s H vs us e0 (Un.kept fun b o e=>e) rfl (fun e s' z=>z) r (len _ _ _ _ hs) ⟨rfl,rfl⟩))
  fun s2 H2 xs q hr'=>by
   obtain ⟨rfl,rfl⟩:=q
   exact hbody A outer s2 H2 xs Q E ⟨hr',hr.gd⟩ hs⟩
theorem Cf {P:Program} {w:World} {K:PySem.W.Frag} {mg:Str→Option Value} {base:Heap} {ca:Str→Addr} {Tb:LT} {sa:Addr} {sn:List Int} {x qual:Str} {params:Arguments} {body:List Stmt} {scope:Scope} {dvs:List V} {kws:List (Str × V)} {f:Addr} {fd:FuncData} {N ps:List Str} {k:Nat} {B:M Ctl}
  (F:FunD K x qual params body scope dvs kws f fd) (S:FnScope N ps scope) (hb:∀ (cdv:Value) (A:Around) (outer:List PySem.Env) (s:Shared) (H:Hp) (E:XK),VSs ⟨K,w,ca,Tb,sa,sn⟩ (WR E) k (cxOf (L2.CX P w) P w K mg base N qual scope f cdv A outer s H E) body B) :
  FnG P w K mg base (L2.CX P w) (k + 1) f fd ps (spV ⟨K,w,ca,Tb,sa,sn⟩ ps.length (fnF ps.length N.length B)):=by
 obtain ⟨oc,od,dV,kV,doc,pm,an,cdv,ct,osl,rfl,lk,hcd,_,_⟩:=F.ex
 refine Q2 lk hcd S (fun vs H Q E h=>h.1) fun A outer s H vs Q E hr h=>?_
 obtain ⟨hl,G,as,ok,sr,h⟩:=h
 refine ⟨TVS ⟨K,w,ca,Tb,sa,sn⟩ (WR E) B,(hb cdv A outer s H E).run ⟨rfl,rfl,rfl,takes_of rfl rfl rfl rfl,hr,passes_of rfl,S.nd⟩,G,as ++ List.replicate (N.length - as.length) .un,Q1 sr,?_⟩
 have hla:as.length = ps.length:=by rw [sr.len,List.length_map]; exact hl
 unfold fnF at h
 rw [if_pos hla] at h
 revert h
 cases B (as ++ List.replicate (N.length - as.length) .un) with
 | no=>exact fun h=>h
 | er x e'=>exact fun h cls d σ' G' H' t xo=>h cls d G' H' (Hg ok sr t) xo
 | ok c e' =>
  cases c with
  | nx=>exact fun h σ' G' H' t=>h G' H' (Hg ok sr t) .non rfl
  | bk=>exact fun h=>h.elim
  | ct=>exact fun h=>h.elim
  | rt r =>
   intro h v σ' G' H' t rv
   simp only at h
   cases q:Dt r e' with
   | no=>rw [q] at h; exact h.elim
   | er x e2=>rw [q] at h; exact h.elim
   | ok r' e2 =>
    rw [q] at h
    obtain ⟨G2,t2,nw⟩:=Vk ok sr t rv q
    exact h G2 H' t2 v nw
end Vs
set_option maxRecDepth 100000
set_option maxHeartbeats 2000000
namespace Vs
open PySem PySem.Spec PyProof.Rows L2 Fw SX
def Ei (r:Rv) (e:Ve):Option Sl:=match r with
 | .val d=>some (.sh d)
 | .fresh d=>some (.bo d)
 | .slot i=>match e[i]? with
  | some (.sh d)=>some (.sh d)
  | some (.bf d)=>some (.sh d)
  | some (.ow d)=>some (.bo d)
  | some (.bo d)=>some (.bo d)
  | _=>none
def Ba:List Rv→Ve→Option (List Sl)
 | [],_=>some []
 | r :: rs,e=>match Ei r e,Ba rs e with
  | some a,some as=>some (a :: as)
  | _,_=>none
def Fy (i:Nat):List Rv→Bool
 | []=>false
 | .slot j :: rs=>(i == j) || Fy i rs
 | _ :: rs=>Fy i rs
def Bo:List Rv→Bool
 | []=>true
 | .slot i :: rs=>!Fy i rs && Bo rs
 | _ :: rs=>Bo rs
def mrg:Sl→Sl→Sl
 | .ow _,.bo d=>.ow d
 | .ow _,.bf d=>.sh d
 | .bo _,.bo d=>.bo d
 | .bo _,.bf d=>.bf d
 | s,_=>s
def Cn (j:Nat):List Rv→List Sl→Option Sl
 | .slot i :: rs,a :: as=>if i = j then some a else Cn j rs as
 | _ :: rs,_ :: as=>Cn j rs as
 | _,_=>none
def Cu (rs:List Rv) (as:List Sl):Nat→Ve→Ve
 | _,[]=>[]
 | j,s :: r=>(match Cn j rs as with | some a=>mrg s a | none=>s) :: Cu rs as (j + 1) r
def Bb (rs:List Rv) (as:List Sl) (e:Ve):Ve:=Cu rs as 0 e
def A5 (f:List Sl→Res Rv) (rs:List Rv):M Rv:=fun e=>if Bo rs = true then (match Ba rs e with
 | some as=>(match f as with
  | .ok r as'=>.ok r (Bb rs as' e)
  | .er x as'=>.er x (Bb rs as' e)
  | .no=>.no)
 | none=>.no) else .no
def Ay (f:List Sl→Res Rv) (A:M (List Rv)):M Rv:=A.bind (A5 f)
section
variable {g:Gm} {G H G1 H1 G2 H2 H0:Hp} {σ:L2.St} {e e1:Ve} {rs:List Rv} {vs dvs:List V} {as as':List Sl} {dd:List D}
theorem Q3:∀ {e:Ve} {j:Nat},(Cu rs as j e).length = e.length
 | [],_=>rfl
 | s :: r,j=>by rw [Cu,List.length_cons,List.length_cons,Q3]
theorem Oq:∀ {e:Ve} {j i:Nat},(Cu rs as j e)[i]? = (e[i]?).map fun s=>match Cn (j + i) rs as with | some a=>mrg s a | none=>s
 | [],j,i=>by simp [Cu]
 | s :: r,j,0=>by simp [Cu]
 | s :: r,j,i + 1=>by
  rw [Cu,List.getElem?_cons_succ,Oq,List.getElem?_cons_succ,show j + 1 + i = j + (i + 1) by omega]
theorem hasSlot_at {i:Nat}:∀ {rs:List Rv},Fy i rs = true↔∃ k:Nat,rs[k]? = some (Rv.slot i)
 | []=>by simp [Fy]
 | r :: rs=>by
  have ih:=hasSlot_at (i:=i) (rs:=rs)
  have more:(∃ k:Nat,(r :: rs)[k]? = some (Rv.slot i))↔r = .slot i∨∃ k:Nat,rs[k]? = some (Rv.slot i):=by
   constructor
   ·rintro ⟨k,h⟩
    cases k with
    | zero=>exact .inl (Option.some.inj h)
    | succ k=>exact .inr ⟨k,h⟩
   ·rintro (h | ⟨k,h⟩)
    ·exact ⟨0,by rw [h]; rfl⟩
    ·exact ⟨k + 1,h⟩
  rw [more,← ih]
  cases r with
  | slot j =>
   simp only [Fy,Bool.or_eq_true,beq_iff_eq,Rv.slot.injEq]
   constructor
   ·rintro (h | h)
    ·exact .inl h.symm
    ·exact .inr h
   ·rintro (h | h)
    ·exact .inl h.symm
    ·exact .inr h
  | val d=>simp [Fy]
  | fresh d=>simp [Fy]
theorem Vl:∀ {rs:List Rv} {i k l:Nat},Bo rs = true→rs[k]? = some (Rv.slot i)→rs[l]? = some (Rv.slot i)→k = l
 | [],i,k,l,_,h,_=>by simp at h
 | r :: rs,i,0,0,_,_,_=>rfl
 | r :: rs,i,0,l + 1,o,h,q=>by
  exfalso
  cases h
  simp only [Bo,Bool.and_eq_true,Bool.not_eq_true'] at o
  have:=hasSlot_at.mpr ⟨l,(show rs[l]? = some (Rv.slot i) from q)⟩
  rw [o.1] at this
  cases this
 | r :: rs,i,k + 1,0,o,h,q=>by
  exfalso
  cases q
  simp only [Bo,Bool.and_eq_true,Bool.not_eq_true'] at o
  have:=hasSlot_at.mpr ⟨k,(show rs[k]? = some (Rv.slot i) from h)⟩
  rw [o.1] at this
  cases this
 | r :: rs,i,k + 1,l + 1,o,h,q=>by
  have o':Bo rs = true:=by
   cases r with
   | slot j=>simp only [Bo,Bool.and_eq_true] at o; exact o.2
   | val d=>exact o
   | fresh d=>exact o
  rw [Vl (rs:=rs) (i:=i) (k:=k) (l:=l) o' h q]
theorem Ot {j:Nat}:∀ {rs:List Rv} {as:List Sl} {a:Sl},Cn j rs as = some a→∃ k:Nat,rs[k]? = some (Rv.slot j)∧as[k]? = some a
 | [],as,a,h=>by cases as <;> cases h
 | r :: rs,[],a,h=>by cases r <;> cases h
 | r :: rs,b :: as,a,h=>by
  have tail:Cn j rs as = some a→∃ k:Nat,(r :: rs)[k]? = some (Rv.slot j)∧(b :: as)[k]? = some a:=fun q=>by
   obtain ⟨k,h1,h2⟩:=Ot q
   exact ⟨k + 1,h1,h2⟩
  cases r with
  | val d=>exact tail h
  | fresh d=>exact tail h
  | slot i =>
   simp only [Cn] at h
   by_cases e:i = j
   ·rw [if_pos e] at h
    cases h
    exact ⟨0,by rw [e]; rfl,rfl⟩
   ·rw [if_neg e] at h
    exact tail h
theorem Q4 {j:Nat}:∀ {rs:List Rv} {as:List Sl},rs.length≤as.length→Cn j rs as = none→∀ k:Nat,rs[k]?≠some (Rv.slot j)
 | [],as,_,h,k=>by simp
 | r :: rs,[],hl,h,k=>by simp at hl
 | r :: rs,b :: as,hl,h,k=>by
  have tail:Cn j rs as = none→r≠.slot j→(r :: rs)[k]?≠some (Rv.slot j):=fun q n=>by
   have ih:=Q4 (rs:=rs) (as:=as) (by simpa using hl) q
   cases k with
   | zero=>exact fun z=>n (Option.some.inj z)
   | succ k=>exact ih k
  cases r with
  | val d=>exact tail h (fun z=>nomatch z)
  | fresh d=>exact tail h (fun z=>nomatch z)
  | slot i =>
   simp only [Cn] at h
   by_cases e:i = j
   ·rw [if_pos e] at h; cases h
   ·rw [if_neg e] at h
    exact tail h (fun z=>e (Rv.slot.inj z))
theorem Ou:∀ {rs:List Rv} {as:List Sl},Ba rs e = some as→as.length = rs.length
 | [],as,h=>by cases h; rfl
 | r :: rs,as,h=>by
  unfold Ba at h
  cases q1:Ei r e with
  | none=>rw [q1] at h; simp at h
  | some a =>
   cases q2:Ba rs e with
   | none=>rw [q1,q2] at h; simp at h
   | some as' =>
    rw [q1,q2] at h
    cases h
    rw [List.length_cons,List.length_cons,Ou q2]
theorem Ov:∀ {rs:List Rv} {as:List Sl} {k:Nat} {a:Sl},Ba rs e = some as→as[k]? = some a→∃ r,rs[k]? = some r∧Ei r e = some a
 | [],as,k,a,h,q=>by cases h; simp at q
 | r :: rs,as,k,a,h,q=>by
  unfold Ba at h
  cases q1:Ei r e with
  | none=>rw [q1] at h; simp at h
  | some b =>
   cases q2:Ba rs e with
   | none=>rw [q1,q2] at h; simp at h
   | some as' =>
    rw [q1,q2] at h
    cases h
    cases k with
    | zero=>cases q; exact ⟨r,rfl,q1⟩
    | succ k=>exact Ov (rs:=rs) q2 (show as'[k]? = some a from q)
theorem RvsOk.dist:∀ {rs:List Rv} {vs:List V} {k l:Nat} {d d':D} {p:Addr},RvsOk g G H σ e H0 rs vs→rs[k]? = some (Rv.fresh d)→rs[l]? = some (Rv.fresh d')→vs[k]? = some (.ref p)→vs[l]? = some (.ref p)→k = l
 | [],_,k,l,d,d',p,_,q,_,_,_=>by simp at q
 | r0 :: rs,_,k,l,d,d',p,⟨v,t,rfl,a,b,c⟩,q1,q2,q3,q4=>by
  have mem:∀ {l:Nat} {d':D},rs[l]? = some (Rv.fresh d')→t[l]? = some (.ref p)→(Rv.fresh d',V.ref p)∈rs.zip t:=fun {l d'} h1 h2=>by
   apply List.mem_of_getElem? (i:=l)
   rw [List.getElem?_zip_eq_some]
   exact ⟨h1,h2⟩
  cases k with
  | zero =>
   cases l with
   | zero=>rfl
   | succ l =>
    cases q1
    cases q3
    exact absurd rfl (c d p rfl rfl d' _ (mem (l:=l) q2 q4))
  | succ k =>
   cases l with
   | zero =>
    cases q2
    cases q4
    exact absurd rfl (c d' p rfl rfl d _ (mem (l:=k) q1 q3))
   | succ l=>rw [RvsOk.dist (rs:=rs) b q1 q2 q3 q4]
theorem K5 (sr:SR g G H σ e) (rv:RvsOk g G H σ e H0 rs vs) (o:Bo rs = true) (ha:Ba rs e = some as) :
  SR g G H (vs.map some) as∧as.all Eh = true ∧
   ∀ (k:Nat) (p:Addr),Rt (vs.map some) as k p→(∃ i:Nat,rs[k]? = some (Rv.slot i)∧Rt σ e i p)∨∃ d,rs[k]? = some (Rv.fresh d)∧H0 p = none∧∀ i,¬ Rt σ e i p:=by
 have l1:as.length = rs.length:=Ou ha
 have l2:vs.length = rs.length:=rv.len
 have on:∀ (k:Nat) (a:Sl),as[k]? = some a→∃ r v,rs[k]? = some r∧Ei r e = some a∧vs[k]? = some v∧(vs.map some)[k]? = some (some v)∧RvOk g G H σ e H0 r v:=fun k a h=>by
  obtain ⟨r,hr,hs⟩:=Ov ha h
  obtain ⟨v,hv,ok⟩:=rv.at hr
  exact ⟨r,v,hr,hs,hv,by rw [List.getElem?_map,hv]; rfl,ok⟩
 have rt:∀ (k:Nat) (p:Addr),Rt (vs.map some) as k p→vs[k]? = some (.ref p)∧((∃ i:Nat,rs[k]? = some (Rv.slot i)∧Rt σ e i p)∨∃ d,rs[k]? = some (Rv.fresh d)∧H0 p = none∧∀ i,¬ Rt σ e i p):=fun k p r=>by
  obtain ⟨r1,r2⟩:=r
  cases q:as[k]? with
  | none=>rw [q] at r1; exact r1.elim
  | some a =>
   rw [q] at r1
   obtain ⟨r,v,hr,hs,hv,hv2,ok⟩:=on k a q
   rw [hv2] at r2
   cases r2
   refine ⟨hv,?_⟩
   cases r with
   | val d=>cases hs; exact r1.elim
   | fresh d =>
    obtain ⟨p',ev,_,_,h0,nr⟩:=ok
    cases ev
    exact .inr ⟨d,hr,h0,nr⟩
   | slot i =>
    obtain ⟨ev,s,es,ns⟩:=ok
    refine .inl ⟨i,hr,?_,ev⟩
    simp only [Ei] at hs
    rw [es] at hs ⊢
    cases s with
    | un=>exact absurd rfl ns
    | sh d=>cases hs; exact r1.elim
    | bf d=>cases hs; exact r1.elim
    | ow d=>trivial
    | bo d=>trivial
    | lo d=>cases hs
 refine ⟨⟨sr.bs,sr.tabs,sr.scr,?_,fun k=>?_,fun k l p a b=>?_⟩,?_,fun k p r=>(rt k p r).2⟩
 ·simp [l1,l2]
 ·cases q:as[k]? with
  | none=>trivial
  | some a =>
   obtain ⟨r,v,hr,hs,hv,hv2,ok⟩:=on k a q
   rw [hv2]
   cases r with
   | val d=>cases hs; exact ⟨v,rfl,ok⟩
   | fresh d =>
    cases hs
    obtain ⟨p,ev,n,ow,_⟩:=ok
    exact ⟨p,by rw [ev],n,ow⟩
   | slot i =>
    obtain ⟨ev,s,es,ns⟩:=ok
    have sl:=sr.slot i
    simp only [Ei] at hs
    rw [es] at hs sl
    rw [ev] at sl
    cases s with
    | un=>exact absurd rfl ns
    | sh d=>cases hs; exact sl
    | bf d=>cases hs; exact sl
    | ow d=>cases hs; exact sl
    | bo d=>cases hs; exact sl
    | lo d=>cases hs
 ·obtain ⟨a1,a2⟩:=rt k p a
  obtain ⟨b1,b2⟩:=rt l p b
  rcases a2 with ⟨i,hi,ri⟩ | ⟨d,hd1,h0,nr⟩ <;> rcases b2 with ⟨j,hj,rj⟩ | ⟨d',hd2,h0',nr'⟩
  ·have:=sr.inj i j p ri rj
   subst this
   exact Vl o hi hj
  ·exact absurd ri (nr' i)
  ·exact absurd rj (nr j)
  ·exact rv.dist hd1 hd2 a1 b1
 ·rw [List.all_eq_true]
  intro a hm
  obtain ⟨k,hk,rfl⟩:=List.mem_iff_getElem.mp hm
  have q:as[k]? = some as[k]:=List.getElem?_eq_getElem hk
  generalize as[k] = a at q
  obtain ⟨r,v,hr,hs,_⟩:=on k a q
  cases r with
  | val d=>cases hs; rfl
  | fresh d=>cases hs; rfl
  | slot i =>
   simp only [Ei] at hs
   split at hs <;> cases hs <;> rfl
theorem Q5 (t1:Tr g σ G H e G1 H1 e1) (rv:RvsOk g G1 H1 σ e1 H rs vs) (o:Bo rs = true) (ha:Ba rs e1 = some as)
  (t2:Tr g (vs.map some) G1 H1 as G2 H2 as'):Tr g σ G H e G2 H2 (Bb rs as' e1):=by
 obtain ⟨sra,_,rts⟩:=K5 t1.sr rv o ha
 have l1:as.length = rs.length:=Ou ha
 have lv:vs.length = rs.length:=rv.len
 have l2:rs.length≤as'.length:=by rw [t2.ve.len,l1]; exact Nat.le_refl _
 have sr1:=t1.sr
 have nra:∀ (j:Nat) (p:Addr),Rt σ e1 j p→(∀ k:Nat,rs[k]?≠some (Rv.slot j))→∀ k:Nat,¬ Rt (vs.map some) as k p:=fun j p r n k ra=>by
  rcases rts k p ra with ⟨i,hi,ri⟩ | ⟨d,_,_,nr⟩
  ·have:=sr1.inj i j p ri r
   subst this
   exact n k hi
  ·exact nr j r
 have slotAt:∀ k j:Nat,rs[k]? = some (Rv.slot j)→∀ s,e1[j]? = some s→∀ a',as'[k]? = some a' →
   SlOk g G2 H2 (some (mrg s a')) σ[j]?∧SlLe s (mrg s a')∧(Dm (some (mrg s a'))→∀ p,σ[j]? = some (some (.ref p))→Rt (vs.map some) as' k p):=fun k j hk s hs a' ha'=>by
  obtain ⟨v,hv,ok⟩:=rv.at hk
  obtain ⟨ev,s',es,ns⟩:=ok
  rw [hs] at es
  cases es
  have hkl:k < as.length:=by rw [l1]; exact Bj hk
  obtain ⟨a,haa⟩:∃ a,as[k]? = some a:=⟨as[k],List.getElem?_eq_getElem hkl⟩
  obtain ⟨r,hr,hsl⟩:=Ov ha haa
  rw [hk] at hr
  cases hr
  have haa2:as[k]? = some a:=haa
  obtain ⟨a2,h2,le2⟩:=t2.ve.at_ k a haa2
  rw [ha'] at h2
  cases h2
  have hvv:(vs.map some)[k]? = some (some v):=by
   rw [List.getElem?_map,hv]; rfl
  have sl2:=t2.sr.slot k
  rw [ha',hvv] at sl2
  simp only [Ei] at hsl
  rw [hs] at hsl
  have sl1:=sr1.slot j
  rw [hs] at sl1
  cases s with
  | un=>exact absurd rfl ns
  | sh d =>
   refine ⟨?_,by cases a' <;> exact rfl,fun z=>by cases a' <;> exact z.elim⟩
   obtain ⟨v1,ev1,r1⟩:=sl1
   cases a' <;> exact ⟨v1,ev1,r1.mono t2.le⟩
  | bf d =>
   refine ⟨?_,by cases a' <;> exact rfl,fun z=>by cases a' <;> exact z.elim⟩
   obtain ⟨v1,ev1,r1⟩:=sl1
   cases a' <;> exact ⟨v1,ev1,r1.mono t2.le⟩
  | ow d =>
   cases hsl
   obtain ⟨d',rfl | rfl⟩:=le2
   ·obtain ⟨p,ep,n,ow⟩:=sl2
    refine ⟨⟨p,by rw [ev]; exact ep,n,ow⟩,⟨d',.inl rfl⟩,fun _ p' hp'=>⟨by rw [ha']; trivial,?_⟩⟩
    rw [hvv,← hp',ev]
   ·obtain ⟨v',ev',r⟩:=sl2
    cases ev'
    exact ⟨⟨v,ev,r⟩,⟨d',.inr rfl⟩,fun z=>z.elim⟩
  | lo d=>cases hsl
  | bo d =>
   cases hsl
   obtain ⟨d',rfl | rfl⟩:=le2
   ·obtain ⟨p,ep,n,ow⟩:=sl2
    refine ⟨⟨p,by rw [ev]; exact ep,n,ow⟩,⟨d',.inl rfl⟩,fun _ p' hp'=>⟨by rw [ha']; trivial,?_⟩⟩
    rw [hvv,← hp',ev]
   ·obtain ⟨v',ev',r⟩:=sl2
    cases ev'
    exact ⟨⟨v,ev,r⟩,⟨d',.inr rfl⟩,fun z=>z.elim⟩
 have at_:∀ j,(Bb rs as' e1)[j]? = (e1[j]?).map fun s=>match Cn j rs as' with | some a=>mrg s a | none=>s:=fun j=>by
  unfold Bb
  rw [Oq,Nat.zero_add]
 have cse:∀ (j:Nat) (s:Sl),e1[j]? = some s→(∃ (k:Nat) (a':Sl),rs[k]? = some (Rv.slot j)∧as'[k]? = some a'∧(Bb rs as' e1)[j]? = some (mrg s a'))∨((∀ k:Nat,rs[k]?≠some (Rv.slot j))∧(Bb rs as' e1)[j]? = some s):=fun j s hs=>by
  cases q:Cn j rs as' with
  | none=>exact .inr ⟨Q4 l2 q,by rw [at_,hs]; simp [q]⟩
  | some a =>
   obtain ⟨k,h1,h2⟩:=Ot q
   exact .inl ⟨k,a,h1,h2,by rw [at_,hs]; simp [q]⟩
 have ve2:VeLe e1 (Bb rs as' e1):=by
  refine ⟨Q3,fun j s hs=>?_⟩
  rcases cse j s hs with ⟨k,a',hk,ha',q⟩ | ⟨n,q⟩
  ·exact ⟨_,q,(slotAt k j hk s hs a' ha').2.1⟩
  ·exact ⟨s,q,SlLe.refl s⟩
 refine ⟨⟨t2.sr.bs,t2.sr.tabs,t2.sr.scr,by rw [ve2.len]; exact sr1.len,fun j=>?_,fun i j p a b=>sr1.inj i j p (ve2.rt a) (ve2.rt b)⟩,t1.le.trans t2.le,fun a ob h n nt=>?_,fun a h=>t1.dom a (t2.dom a h),fun a h1 h2 n=>?_,t1.ve.trans ve2⟩
 ·cases q0:e1[j]? with
  | none =>
   rw [at_,q0]; trivial
  | some s =>
   rcases cse j s q0 with ⟨k,a',hk,ha',q⟩ | ⟨n,q⟩
   ·rw [q]; exact (slotAt k j hk s q0 a' ha').1
   ·rw [q]
    have sl:=sr1.slot j
    rw [q0] at sl
    cases s with
    | un=>trivial
    | sh d=>obtain ⟨v,ev,r⟩:=sl; exact ⟨v,ev,r.mono t2.le⟩
    | bf d=>obtain ⟨v,ev,r⟩:=sl; exact ⟨v,ev,r.mono t2.le⟩
    | lo d =>
     obtain ⟨p,ep,np,ow⟩:=sl
     obtain ⟨ob,u,ho,_⟩:=ow.there
     have nn:∀ k:Nat,¬ Rt (vs.map some) as k p:=fun k ra=>sra.nofrz ho k ra
     exact ⟨p,ep,t2.new p np (by rw [ho]; exact fun z=>nomatch z) nn,ow.mono t2.le (by rw [t2.keep _ _ ho nn (fun ps z=>nomatch z),ho])⟩
    | ow d =>
     obtain ⟨p,ep,np,ow⟩:=sl
     obtain ⟨ob,ho,pl,_⟩:=ow.there
     have nn:=nra j p ⟨by rw [q0]; trivial,ep⟩ n
     exact ⟨p,ep,t2.new p np (by rw [ho]; exact fun z=>nomatch z) nn,ow.mono t2.le (by rw [t2.keep _ _ ho nn pl.nt,ho])⟩
    | bo d =>
     obtain ⟨p,ep,np,ow⟩:=sl
     obtain ⟨ob,ho,pl,_⟩:=ow.there
     have nn:=nra j p ⟨by rw [q0]; trivial,ep⟩ n
     exact ⟨p,ep,t2.new p np (by rw [ho]; exact fun z=>nomatch z) nn,ow.mono t2.le (by rw [t2.keep _ _ ho nn pl.nt,ho])⟩
 ·refine t2.keep a ob (t1.keep a ob h n nt) (fun k r=>?_) nt
  rcases rts k a r with ⟨i,_,ri⟩ | ⟨d,_,h0,_⟩
  ·exact n i (t1.ve.rt ri)
  ·rw [h] at h0; cases h0
 ·refine t2.new a (t1.new a h1 h2 n) (fun z=>h2 (t1.dom a z)) fun k r=>?_
  rcases rts k a r with ⟨i,_,ri⟩ | ⟨d,_,h0,_⟩
  ·exact n i (t1.ve.rt ri)
  ·exact h2 h0
end
theorem Pst.bind0 {α β:Type} {g:Gm} {W:WX} {σ:L2.St} {G H:Hp} {e:Ve} {R:β→Hp→Hp→Ve→Prop} {f:M α} {k:α→M β} (h:Pst g W σ G H e R (M.bind f k e)):Pst g W σ G H e (fun a _ _ e1=>Pst g W σ G H e R (k a e1)) (f e):=by
 unfold M.bind at h
 revert h
 cases f e with
 | no=>exact fun h=>h
 | er x e'=>exact fun h=>h
 | ok a e1=>exact fun h _ _ _=>h
theorem Pst.bindS {α β:Type} {g:Gm} {W:WX} {σ:L2.St} {G H G1 H1:Hp} {e e1:Ve} {R:β→Hp→Hp→Ve→Prop} {f:M α} {k:α→M β} (t:Tr g σ G H e G1 H1 e1) (h:Pst g W σ G H e R (M.bind f k e1)):Pst g W σ G1 H1 e1 (fun a _ _ e2=>Pst g W σ G H e R (k a e2)) (f e1):=by
 unfold M.bind at h
 revert h
 cases f e1 with
 | no=>exact fun h=>h
 | er x e'=>exact fun h cls d G' H' t2=>h cls d G' H' (t.trans t2)
 | ok a e1=>exact fun h _ _ _=>h
section
variable {g:Gm} {W:WX} {k:Nat} {X:Cx}
theorem F0 {f:List Sl→Res Rv} {rs:List Rv} {vs:List V} {σ:L2.St} {G H G1 H1:Hp} {e e1:Ve} {Q:VK} (sr:SR g G H σ e) (t1:Tr g σ G H e G1 H1 e1) (rv:RvsOk g G1 H1 σ e1 H rs vs)
  (h1:Pst g W σ G H e (fun r G' H' e'=>∀ v,RvOk g G' H' σ e' H r v→Q v H') (A5 f rs e1)):spR g f vs H1 Q (fun cls d H'=>W cls d σ H'):=by
 unfold A5 at h1
 by_cases o:Bo rs = true
 ·rw [if_pos o] at h1
  cases qa:Ba rs e1 with
  | none=>rw [qa] at h1; exact h1.elim
  | some as =>
   rw [qa] at h1
   simp only at h1
   obtain ⟨sra,oka,rts⟩:=K5 t1.sr rv o qa
   refine ⟨G1,as,oka,sra,?_⟩
   revert h1
   cases f as with
   | no=>exact fun h=>h
   | er x as'=>exact fun h cls d G2 H2 t2 xo=>h cls d G2 H2 (Q5 t1 rv o qa t2) xo
   | ok r as' =>
    intro h G2 H2 t2 v nw
    have t3:=Q5 t1 rv o qa t2
    refine h G2 H2 t3 v ?_
    cases r with
    | val d=>exact nw
    | slot i=>exact nw.elim
    | fresh d =>
     obtain ⟨p,ev,np,ow,h0⟩:=nw
     exact ⟨p,ev,np,ow,t1.dom p h0,fun i r=>(sr.root (t3.ve.rt r)).2 (t1.dom p h0)⟩
 ·rw [if_neg o] at h1; exact h1.elim
theorem Vm {f:List Sl→Res Rv} {A:M (List Rv)} {σ:L2.St} {H:Hp} {Q:VK} (h:TV g W (Ay f A) σ H Q):TVA g W A σ H fun vs H1=>spR g f vs H1 Q (fun cls d H'=>W cls d σ H'):=by
 obtain ⟨G,e,sr,h⟩:=h
 exact ⟨G,e,sr,Pst.mono (Pst.bind0 h) fun rs G1 H1 e1 t1 h1 vs rv=>F0 sr t1 rv h1⟩
end
section
variable {P:Program} {mg:Str→Option Value} {base:Heap} {g:Gm} {j:Nat} {f:Addr} {fd:FuncData} {ps:List Str} {F:List Sl→Res Rv}
theorem spR_V {np n:Nat} {B:M Ctl} {vs:List V} {H:Hp} {Q:VK} {E:XK} (h:spR g (fnF np n B) vs H Q E):spV g np (fnF np n B) vs H Q E:=by
 obtain ⟨G,as,ok,sr,h⟩:=h
 refine ⟨?_,G,as,ok,sr,h⟩
 by_cases hl:as.length = np
 ·rw [← hl,sr.len,List.length_map]
 ·unfold fnF at h
  rw [if_neg hl] at h
  exact h.elim
theorem fk_of {CXa:CXT} {np n:Nat} {B:M Ctl} (Fk:FnG P g.w g.K mg base CXa j f fd ps (spV g np (fnF np n B))) (hb:Binds g.K fd ps []):FnK P g.w g.K mg base CXa j f [] (spR g (fnF np n B)):=by
 intro A outer s H us ws vs zs Q E hr e0 rv rz hl hs
 have ez:zs = []:=by
  have:=rz.length
  rw [hl] at this
  exact List.eq_nil_of_length_eq_zero this
 subst ez
 rw [List.append_nil] at hs
 have h2:=spR_V hs
 exact Fk.raw hb .nil A outer s H us vs Q E hr e0 rv (show spV g np (fnF np n B) (vs ++ []) H Q E by rw [List.append_nil]; exact h2)
end
section
variable {X:Cx} {k:Nat} {f:Addr} {ks:List Str} {sp:Sp} {E:L2.St→XK}
theorem Jb {pins:List (Addr × Obj)} {σ:L2.St} {H:Hp} {s:Shared} {Q:VK} {us ws:List Value} {vs zs:List V} (Fk:FnK X.prog X.w X.K X.mg X.base (L2.CX X.prog X.w) k f ks sp) (rm:Rm k X.A) (px:PassesAt (L2.CX X.prog X.w) X σ (E σ)) (I:Inv X pins σ H s) (rv:Vals vs us) (rz:Vals zs ws) (hl:ws.length = ks.length) (h:sp (vs ++ zs) H Q (E σ)) :
  codeAny (model X.prog X.w) X.A (.call (.ref f) ⟨us,ks.zip ws⟩) (fun r s'=>match r with | .ok (.ret v)=>EP X pins σ Q v s' | .ok _=>False | .error e=>X.xe e s') s :=
 codeAny_mono (Fk X.A X.stack s H us ws vs zs Q (E σ) rm I.env0 rv rz hl h) fun res s' z=>by
  match res,z with
  | .error e,z=>exact px pins _ _ e s' I z
  | .ok (.ret u),z=>exact I.after z
  | .ok .next,z=>exact False.elim z
  | .ok .brk,z=>exact False.elim z
  | .ok .cont,z=>exact False.elim z
theorem pe_fk {x:Str} {p pos:Pos} {ex:Expr} {es:List Expr} {t:TA} (Fk:FnK X.prog X.w X.K X.mg X.base (L2.CX X.prog X.w) k f [] sp) (rm:Rm k X.A) (hg:Gl X x) (hm:X.mg x = some (.ref f)) (kp:PySem.W.keepIn X.K (.ref f) = true) (px:∀ σ,PassesAt (L2.CX X.prog X.w) X σ (E σ))
  (ha:PA X (ex :: es) t) (hdb:(x == ("__debug__" : Str)) = false:=by decide) (he:starEach (ex :: es) X.env = (false,eval ex X.env) :: starEach es X.env:=by rfl) (hpl:(backTo pos (starEach es X.env)).any (·.1) = false:=by rfl) :
  PE X (.Call (.Name x p) (ex :: es) [] pos) (fun σ H Q=>t σ H fun vs H1=>sp vs H1 Q (E σ)):=⟨fun pins s σ H Q I h =>
 wpAny_Call_Name_kw (ld_glob I hg hm (PySem.W.callWith_K (h₀:=X.base) I.ok.mod.kin kp (thn (ha.run pos pins s σ H _ I h) fun us s1 ⟨vs,H1,J,r,q⟩=>⟨J.kIn,wpAny_call (Jb Fk rm (px σ) J r .nil rfl (by rw [List.append_nil]; exact q))⟩) he hpl) hdb)⟩
end
section
variable {g:Gm} {W:WX} {k:Nat} {X:Cx}
def Df (P:Program) (mg:Str→Option Value) (base:Heap) (g:Gm) (x:Str) (ks:List Str) (j:Nat) (F:List Sl→Res Rv):Prop :=
 ∃ f,FnK P g.w g.K mg base (L2.CX P g.w) j f ks (spR g F)∧mg x = some (.ref f)∧PySem.W.keepIn g.K (.ref f) = true
theorem Co {x:Str} {j:Nat} {F:List Sl→Res Rv} {ex:Expr} {es:List Expr} {A:M (List Rv)} {p pos:Pos} (d:Df X.prog X.mg X.base g x [] j F) (hj:j≤k) (hg:Gl X x) (ha:VA g W k X (ex :: es) A)
  (hdb:(x == ("__debug__" : Str)) = false:=by decide) (he:starEach (ex :: es) X.env = (false,eval ex X.env) :: starEach es X.env:=by rfl) (hpl:(backTo pos (starEach es X.env)).any (·.1) = false:=by rfl):VE g W k X (.Call (.Name x p) (ex :: es) [] pos) (Ay F A):=by
 refine ⟨fun c=>?_⟩
 obtain ⟨f,Fk,hm,hk⟩:=d
 obtain ⟨gK,gw,ca,gT,gs,gn⟩:=g
 obtain rfl:X.K = gK:=c.K
 obtain rfl:X.w = gw:=c.w
 exact PE.imp (pe_fk (E:=fun σ cls d H'=>W cls d σ H') Fk (c.room.mono hj) hg hm hk (fun σ=>passAt c.tk σ) (ha.run c) hdb he hpl) fun σ H Q q=>Vm q
end
end Vs
set_option maxRecDepth 100000
set_option maxHeartbeats 2000000
namespace Vs
open PySem PySem.Spec PyProof.Rows L2 Fw SX
mutual
def eqD:D→D→Bool
 | .non,.non=>true
 | .bl a,.bl b=>a == b
 | .bl a,.int j=>(if a then 1 else 0) == j
 | .int i,.bl b=>i == (if b then 1 else 0)
 | .int i,.int j=>i == j
 | .str x,.str y=>decide (x = y)
 | .lst xs,.lst ys=>E3 xs ys
 | .tup xs,.tup ys=>E3 xs ys
 | _,_=>false
def E3:List D→List D→Bool
 | [],[]=>true
 | x :: xs,y :: ys=>eqD x y && E3 xs ys
 | _,_=>false
end
def shp:Nat→D→Bool
 | _,.non=>true
 | _,.bl _=>true
 | _,.int _=>true
 | _,.str _=>true
 | n + 1,.lst xs=>xs.all (shp n)
 | n + 1,.tup xs=>xs.all (shp n)
 | _,_=>false
mutual
def C7:D→PyData
 | .non=>.none
 | .bl b=>.bool b
 | .int i=>.int i
 | .str l=>.str (S l)
 | .lst xs=>.list (C6 xs)
 | .tup xs=>.tuple (C6 xs)
 | _=>.none
def C6:List D→List PyData
 | []=>[]
 | x :: xs=>C7 x :: C6 xs
end
theorem Q6 {n:Nat} {x:D} {xs:List D} (h:(x :: xs).all (shp n) = true):shp n x = true∧xs.all (shp n) = true:=by
 simpa using h
mutual
theorem Q7:∀ (a b:D) (n m:Nat),shp n a = true→shp m b = true→PyData.eqv (C7 a) (C7 b) = eqD a b
 | .non,b,n,m,_,hb=>by cases b <;> first | rfl | (cases m <;> cases hb)
 | .bl x,b,n,m,_,hb=>by cases b <;> first | rfl | (cases m <;> cases hb)
 | .int x,b,n,m,_,hb=>by cases b <;> first | rfl | (cases m <;> cases hb)
 | .str x,b,n,m,_,hb=>by
  cases b with
  | str y =>
   show (S x == S y) = decide (x = y)
   rw [S_beq_eq]
  | non=>rfl
  | bl _=>rfl
  | int _=>rfl
  | lst _=>rfl
  | tup _=>rfl
  | dct _=>cases m <;> cases hb
  | set _=>cases m <;> cases hb
  | ins _ _=>cases m <;> cases hb
  | con _=>cases m <;> cases hb
  | scr _=>cases m <;> cases hb
 | .lst xs,b,n,m,ha,hb=>by
  cases b with
  | lst ys =>
   cases n with
   | zero=>cases ha
   | succ n =>
    cases m with
    | zero=>cases hb
    | succ m =>
     show PyData.eqv (.list (C6 xs)) (.list (C6 ys)) = E3 xs ys
     rw [PyData.eqv]
     exact Q8 xs ys n m ha hb
  | non=>rfl
  | bl _=>rfl
  | int _=>rfl
  | str _=>rfl
  | tup _=>rfl
  | dct _=>cases m <;> cases hb
  | set _=>cases m <;> cases hb
  | ins _ _=>cases m <;> cases hb
  | con _=>cases m <;> cases hb
  | scr _=>cases m <;> cases hb
 | .tup xs,b,n,m,ha,hb=>by
  cases b with
  | tup ys =>
   cases n with
   | zero=>cases ha
   | succ n =>
    cases m with
    | zero=>cases hb
    | succ m =>
     show PyData.eqv (.tuple (C6 xs)) (.tuple (C6 ys)) = E3 xs ys
     rw [PyData.eqv]
     exact Q8 xs ys n m ha hb
  | non=>rfl
  | bl _=>rfl
  | int _=>rfl
  | str _=>rfl
  | lst _=>rfl
  | dct _=>cases m <;> cases hb
  | set _=>cases m <;> cases hb
  | ins _ _=>cases m <;> cases hb
  | con _=>cases m <;> cases hb
  | scr _=>cases m <;> cases hb
 | .dct _,b,n,m,ha,hb=>by cases n <;> cases ha
 | .set _,b,n,m,ha,hb=>by cases n <;> cases ha
 | .ins _ _,b,n,m,ha,hb=>by cases n <;> cases ha
 | .con _,b,n,m,ha,hb=>by cases n <;> cases ha
 | .scr _,b,n,m,ha,hb=>by cases n <;> cases ha
theorem Q8:∀ (xs ys:List D) (n m:Nat),xs.all (shp n) = true→ys.all (shp m) = true→PyData.eqvAll (C6 xs) (C6 ys) = E3 xs ys
 | [],[],_,_,_,_=>rfl
 | [],_ :: _,_,_,_,_=>rfl
 | _ :: _,[],_,_,_,_=>rfl
 | x :: xs,y :: ys,n,m,ha,hb=>by
  obtain ⟨a1,a2⟩:=Q6 ha
  obtain ⟨b1,b2⟩:=Q6 hb
  show (PyData.eqv (C7 x) (C7 y) && PyData.eqvAll (C6 xs) (C6 ys)) = (eqD x y && E3 xs ys)
  rw [Q7 x y n m a1 b1,Q8 xs ys n m a2 b2]
end
mutual
theorem Vn {g:Gm} {G H:Hp} (bs:Bs G H):∀ (d:D) (v:V) (n:Nat),Rep g G d v→shp n d = true→Dp g.K H v (C7 d)∧PyData.canLay0 (C7 d) = true∧PyData.depth (C7 d)≤n
 | .non,v,n,r,_=>by rw [show v = _ from r]; exact ⟨.non,rfl,Nat.zero_le _⟩
 | .bl b,v,n,r,_=>by rw [show v = _ from r]; exact ⟨.bl b,rfl,Nat.zero_le _⟩
 | .int i,v,n,r,_=>by rw [show v = _ from r]; exact ⟨.int i,rfl,Nat.zero_le _⟩
 | .str l,v,n,⟨e,ok⟩,_=>by
  rw [e]
  refine ⟨.str _,?_,Nat.zero_le _⟩
  show PyData.strOk (S l) = true
  unfold PyData.strOk
  simp
  intro c hc
  have:=ok c hc
  omega
 | .lst ds,v,n,⟨a,vs,e,q,r⟩,h=>by
  cases n with
  | zero=>cases h
  | succ n =>
   obtain ⟨h1,h2,h3⟩:=Ow bs ds vs n r h
   rw [e]
   exact ⟨.lst (bs.sqL (.of q)) h1,h2,Nat.succ_le_succ h3⟩
 | .tup ds,v,n,⟨a,vs,e,q,r⟩,h=>by
  cases n with
  | zero=>cases h
  | succ n =>
   obtain ⟨h1,h2,h3⟩:=Ow bs ds vs n r h
   rw [e]
   exact ⟨.tup (bs.sqT q) h1,h2,Nat.succ_le_succ h3⟩
 | .dct _,v,n,_,h=>by cases n <;> cases h
 | .set _,v,n,_,h=>by cases n <;> cases h
 | .ins _ _,v,n,_,h=>by cases n <;> cases h
 | .con _,v,n,_,h=>by cases n <;> cases h
 | .scr _,v,n,_,h=>by cases n <;> cases h
theorem Ow {g:Gm} {G H:Hp} (bs:Bs G H):∀ (ds:List D) (vs:List V) (n:Nat),Reps g G ds vs→ds.all (shp n) = true→DpAll g.K H vs (C6 ds)∧PyData.canLayAll0 (C6 ds) = true∧PyData.depthAll (C6 ds)≤n
 | [],vs,n,r,_=>by rw [show vs = _ from r]; exact ⟨.nil,rfl,Nat.zero_le _⟩
 | d :: ds,vs,n,⟨v,r,e,a,b⟩,h=>by
  obtain ⟨s1,s2⟩:=Q6 h
  obtain ⟨h1,h2,h3⟩:=Vn bs d v n a s1
  obtain ⟨k1,k2,k3⟩:=Ow bs ds r n b s2
  rw [e]
  refine ⟨.cons h1 k1,?_,?_⟩
  ·show (PyData.canLay0 (C7 d) && PyData.canLayAll0 (C6 ds)) = true
   rw [h2,k2]; rfl
  ·show max (PyData.depth (C7 d)) (PyData.depthAll (C6 ds))≤n
   exact Nat.max_le.mpr ⟨h3,k3⟩
end
theorem Abu {g:Gm} {G H:Hp} (bs:Bs G H) {d:D} {v:V} {n:Nat} (r:RepH g G H d v) (h:shp n d = true):Dp g.K H v (C7 d)∧PyData.canLay0 (C7 d) = true∧PyData.depth (C7 d)≤n:=by
 rcases r with r | ⟨p,e,np,o⟩
 ·exact Vn bs d v n r h
 ·match d,o,h with
  | .lst ds,⟨vs,q,r⟩,h =>
   cases n with
   | zero=>cases h
   | succ n =>
    obtain ⟨h1,h2,h3⟩:=Ow bs ds vs n r h
    rw [e]
    exact ⟨.lst (.of q) h1,h2,Nat.succ_le_succ h3⟩
  | .dct _,_,h=>cases n <;> cases h
  | .ins _ _,_,h=>cases n <;> cases h
def eqG (a b:D):Option Rv:=if (shp 64 a && shp 64 b) = true then some (.val (.bl (eqD a b))) else none
def neG (a b:D):Option Rv:=if (shp 64 a && shp 64 b) = true then some (.val (.bl (!eqD a b))) else none
section
variable {g:Gm}
theorem Ox {d:D} {v:V} {G H:Hp} (bs:Bs G H) (r:RepH g G H d v) (h:shp 64 d = true):Dp g.K H v (C7 d)∧SeqAt.shaped (C7 d) = true:=by
 obtain ⟨h1,h2,h3⟩:=Abu bs r h
 refine ⟨h1,?_⟩
 unfold SeqAt.shaped
 rw [h2,decide_eq_true h3]
 rfl
theorem Abv:OpV g (rEqD g.K) eqG:=fun G H d1 d2 x y out Q bs sc a b e q=>by
 unfold eqG at e
 by_cases h:(shp 64 d1 && shp 64 d2) = true
 ·rw [if_pos h] at e
  cases e
  obtain ⟨h1,h2⟩:=Bool.and_eq_true_iff.mp h
  obtain ⟨p1,s1⟩:=Ox bs a h1
  obtain ⟨p2,s2⟩:=Ox bs b h2
  refine ⟨_,_,p1,p2,s1,s2,q _ G H (Grow.refl bs) ?_⟩
  rw [Q7 d1 d2 64 64 h1 h2]
  rfl
 ·rw [if_neg h] at e; cases e
theorem Abw:OpV g (rNeD g.K) neG:=fun G H d1 d2 x y out Q bs sc a b e q=>by
 unfold neG at e
 by_cases h:(shp 64 d1 && shp 64 d2) = true
 ·rw [if_pos h] at e
  cases e
  obtain ⟨h1,h2⟩:=Bool.and_eq_true_iff.mp h
  obtain ⟨p1,s1⟩:=Ox bs a h1
  obtain ⟨p2,s2⟩:=Ox bs b h2
  refine ⟨_,_,p1,p2,s1,s2,q _ G H (Grow.refl bs) ?_⟩
  rw [Q7 d1 d2 64 64 h1 h2]
  rfl
 ·rw [if_neg h] at e; cases e
def Jc (f:Int→Int→Option D):D→D→Option Rv
 | .int i,.int j=>(f i j).map .val
 | _,_=>none
theorem Abx {h:Int→Int→V} {f:Int→Int→D} (r:∀ i j G,Rep g G (f i j) (h i j)):OpV g (rI0 h) (Jc fun i j=>some (f i j)):=fun G H d1 d2 x y out Q bs sc a b e q=>by
 cases d1 <;> try cases e
 cases d2 <;> try cases e
 exact ⟨_,_,a.int,b.int,q _ G H (Grow.refl bs) (r _ _ _)⟩
theorem Q9 {C:Int→Int→Prop} [∀ i j,Decidable (C i j)] {C':Int→Int→Prop} {h:Int→Int→V} {f:Int→Int→D} (hc:∀ i j,C i j→C' i j) (r:∀ i j G,Rep g G (f i j) (h i j)):OpV g (rI C' h) (Jc fun i j=>if C i j then some (f i j) else none):=fun G H d1 d2 x y out Q bs sc a b e q=>by
 cases d1 <;> try cases e
 cases d2 <;> try cases e
 rename_i i j
 simp only [Jc] at e
 by_cases c:C i j
 ·rw [if_pos c] at e
  cases e
  exact ⟨_,_,a.int,b.int,hc _ _ c,q _ G H (Grow.refl bs) (r _ _ _)⟩
 ·rw [if_neg c] at e; cases e
def Mr:=Jc fun i j=>some (.int (i - j))
theorem Aby:OpV g (rI0 fun i j=>.int (i - j)) Mr:=Abx fun _ _ _=>rfl
def Hh:=Jc fun i j=>if 0 < j then some (.int (i % j)) else none
theorem Abz:OpV g (rI (fun _ j=>0 < j) fun i j=>.int (i % j)) Hh:=Q9 (C:=fun _ j=>0 < j) (fun _ _ h=>h) fun _ _ _=>rfl
def Ms:=Jc fun i j=>if 0 < j∧j < 2 ^ 200 then some (.int (i / j)) else none
theorem Ab0:OpV g (rI CDivW fun i j=>.int (i / j)) Ms:=Q9 (C:=fun _ j=>0 < j∧j < 2 ^ 200) (fun i j h=>wide_div (b:=200) h.1 (by omega) (by decide) (by decide)) fun _ _ _=>rfl
def F4:=Jc fun i j=>if 0≤j∧j≤1000∧-(2 ^ 60) < i∧i < 2 ^ 60 then some (.int (i ^ j.toNat)) else none
theorem Ab1:OpV g (rI CPow fun i j=>.int (i ^ j.toNat)) F4:=Q9 (C:=fun i j=>0≤j∧j≤1000∧-(2 ^ 60) < i∧i < 2 ^ 60) (fun i j h=>⟨h.1,by omega,by omega⟩) fun _ _ _=>rfl
end
def Br:D→D→Option Rv
 | .int i,.int j=>some (.val (.int (i + j)))
 | .str a,.str b=>if a.length + b.length≤sizeLine then some (.val (.str (a ++ b))) else none
 | .lst a,.lst b=>if a.length + b.length≤sizeLine then some (.fresh (.lst (a ++ b))) else none
 | .tup a,.tup b=>if a.length + b.length≤sizeLine then some (.val (.tup (a ++ b))) else none
 | _,_=>none
theorem OkS.app {a b:List Nat} (h:OkS a) (k:OkS b):OkS (a ++ b):=fun c hc=>(List.mem_append.mp hc).elim (h c) (k c)
def Vo (K:PySem.W.Frag):R2:=fun x y H Q=>rI0 (fun i j=>.int (i + j)) x y H Q∨(∃ i j,x = .str i∧y = .str j∧i.length + j.length≤sizeLine∧Q (.str (i ++ j)) H)∨rCat x y H Q∨rCatA K x y H Q
theorem Ab2 {X:Cx}:OpR X (binaryOp .Add) (Vo X.K):=op_add.or (op_add_str.or (op_cat.or op_catA))
section
variable {g:Gm}
theorem Reps.nil_of {G:Hp} {ds:List D} (h:Reps g G ds []):ds = []:=by
 cases ds with
 | nil=>rfl
 | cons d r=>obtain ⟨v,t,e,_⟩:=h; cases e
theorem Ab3:OpV g (Vo g.K) Br:=fun G H d1 d2 x y out Q bs sc a b e q=>by
 cases d1 <;> cases d2 <;> try cases e
 ·exact .inl ⟨_,_,a.int,b.int,q _ G H (Grow.refl bs) rfl⟩
 ·rename_i l m
  simp only [Br] at e
  by_cases c:l.length + m.length≤sizeLine
  ·rw [if_pos c] at e
   cases e
   refine .inr (.inl ⟨_,_,a.str,b.str,by rw [S_len,S_len]; exact c,q _ G H (Grow.refl bs) ⟨by rw [S_app],a.okS.app b.okS⟩⟩)
  ·rw [if_neg c] at e; cases e
 ·rename_i l m
  simp only [Br] at e
  by_cases c:l.length + m.length≤sizeLine
  ·rw [if_pos c] at e
   cases e
   obtain ⟨a1,v1,e1,q1,r1⟩:=a.lstR bs
   obtain ⟨a2,v2,e2,q2,r2⟩:=b.lstR bs
   refine .inr (.inr (.inl ⟨a1,a2,v1,v2,e1,e2,q1,q2,by rw [r1.len,r2.len]; exact c,fun p np=>?_⟩))
   exact q _ G _ (Grow.lay bs np) ⟨p,rfl,bs.hn np,⟨_,upd_same,r1.append r2⟩,np⟩
  ·rw [if_neg c] at e; cases e
 ·rename_i l m
  simp only [Br] at e
  by_cases c:l.length + m.length≤sizeLine
  ·rw [if_pos c] at e
   cases e
   obtain ⟨a1,v1,e1,q1,r1⟩:=a.tup bs
   obtain ⟨a2,v2,e2,q2,r2⟩:=b.tup bs
   refine .inr (.inr (.inr ⟨a1,a2,v1,v2,e1,e2,q1,q2,by rw [r1.len,r2.len]; exact c,fun z=>?_,fun _ z=>?_,fun _ _ p np=>?_⟩))
   ·subst z
    rw [r1.nil_of,List.nil_append] at q
    rcases b with b | ⟨_,_,_,o⟩
    ·rw [← e2]; exact q _ G H (Grow.refl bs) b
    ·exact o.elim
   ·subst z
    rw [r2.nil_of,List.append_nil] at q
    rcases a with a | ⟨_,_,_,o⟩
    ·rw [← e1]; exact q _ G H (Grow.refl bs) a
    ·exact o.elim
   ·have gr:=Grow.lay2 (o:=HO.tup (v1 ++ v2)) bs np (fun _ _ z=>nomatch z)
    exact q _ _ _ gr ⟨p,_,rfl,.of upd_same,(r1.append r2).mono gr.le⟩
  ·rw [if_neg c] at e; cases e
end
end Vs
set_option maxRecDepth 100000
set_option maxHeartbeats 2000000
namespace Vs
open PySem PySem.Spec PyProof.Rows L2 Fw SX
theorem Mu {g:Gm} {W:WX} {f f1 f2:D→D→Option Rv} {A B:M Rv} {σ:L2.St} {H:Hp} {Q:VK} (c:∀ d1 d2 out,f d1 d2 = some out→f1 d1 d2 = some out∨f2 d1 d2 = some out) (h:TV g W (fOp f A B) σ H Q):TV g W (fOp f1 A B) σ H Q∨TV g W (fOp f2 A B) σ H Q:=by
 obtain ⟨G,e,sr,h⟩:=h
 have go:(∀ r,fOp f A B e = r→r≠.no→fOp f1 A B e = r∨fOp f2 A B e = r):=fun r hr hn=>by
  unfold fOp M.bind at hr ⊢
  cases qa:A e with
  | no=>rw [qa] at hr; exact absurd hr.symm hn
  | er x e'=>rw [qa] at hr; exact .inl hr
  | ok a e1 =>
   rw [qa] at hr
   simp only at hr ⊢
   cases qb:B e1 with
   | no=>rw [qb] at hr; exact absurd hr.symm hn
   | er x e'=>rw [qb] at hr; exact .inl hr
   | ok b e2 =>
    rw [qb] at hr
    simp only at hr ⊢
    cases q1:Af a e2 with
    | none=>simp only [q1] at hr; exact absurd hr.symm hn
    | some da =>
     cases q2:Af b e2 with
     | none=>simp only [q1,q2] at hr; exact absurd hr.symm hn
     | some db =>
      simp only [q1,q2] at hr ⊢
      cases qf:f da db with
      | none=>rw [qf] at hr; exact absurd hr.symm hn
      | some out =>
       rw [qf] at hr
       rcases c da db out qf with z | z
       ·rw [z]; exact .inl hr
       ·rw [z]; exact .inr hr
 cases q:fOp f A B e with
 | no=>rw [q] at h; exact h.elim
 | er x e' =>
  rw [q] at h
  rcases go _ q (fun z=>nomatch z) with z | z
  ·exact .inl ⟨G,e,sr,by rw [z]; exact h⟩
  ·exact .inr ⟨G,e,sr,by rw [z]; exact h⟩
 | ok r e' =>
  rw [q] at h
  rcases go _ q (fun z=>nomatch z) with z | z
  ·exact .inl ⟨G,e,sr,by rw [z]; exact h⟩
  ·exact .inr ⟨G,e,sr,by rw [z]; exact h⟩
def Mv (f:Int→Int→Bool) (h:List Nat→List Nat→Bool):D→D→Option Rv
 | .int i,.int j=>some (.val (.bl (f i j)))
 | .str a,.str b=>some (.val (.bl (h a b)))
 | _,_=>none
def Mw (f:Int→Int→Bool) (h:List Nat→List Nat→Bool):R2:=fun x y H Q=>rI0 (fun i j=>.bl (f i j)) x y H Q∨∃ i j,x = .str i∧y = .str j∧Q (.bl (h i.cps.toList j.cps.toList)) H
section
variable {g:Gm}
theorem Oy {f:Int→Int→Bool} {h:List Nat→List Nat→Bool}:OpV g (Mw f h) (Mv f h):=fun G H d1 d2 x y out Q bs sc a b e q=>by
 cases d1 <;> cases d2 <;> try cases e
 ·exact .inl ⟨_,_,a.int,b.int,q _ G H (Grow.refl bs) rfl⟩
 ·exact .inr ⟨_,_,a.str,b.str,q _ G H (Grow.refl bs) rfl⟩
end
def ltD:=Mv (fun i j=>decide (i < j)) (fun a b=>decide (a < b))
def leD:=Mv (fun i j=>decide (i≤j)) (fun a b=>!decide (b < a))
def gtD:=Mv (fun i j=>decide (j < i)) (fun a b=>decide (b < a))
def geD:=Mv (fun i j=>decide (j≤i)) (fun a b=>!decide (a < b))
section
variable {X:Cx}
theorem Ab4:OpR X (compareOp .Lt) (Mw (fun i j=>decide (i < j)) (fun a b=>decide (a < b))):=op_lt.or op_lt_str
theorem Ab5:OpR X (compareOp .LtE) (Mw (fun i j=>decide (i≤j)) (fun a b=>!decide (b < a))):=op_le.or op_le_str
theorem Ab6:OpR X (compareOp .Gt) (Mw (fun i j=>decide (j < i)) (fun a b=>decide (b < a))):=op_gt.or op_gt_str
theorem Ab7:OpR X (compareOp .GtE) (Mw (fun i j=>decide (j≤i)) (fun a b=>!decide (a < b))):=op_ge.or op_ge_str
end
def isD:D→D→Option Rv
 | a,.non=>some (.val (.bl (match a with | .non=>true | _=>false)))
 | .bl a,.bl b=>some (.val (.bl (decide (a = b))))
 | _,_=>none
def isnD:D→D→Option Rv
 | a,.non=>some (.val (.bl (match a with | .non=>false | _=>true)))
 | .bl a,.bl b=>some (.val (.bl (!decide (a = b))))
 | _,_=>none
def Vp:R2:=fun x y H Q=>(y = .non∧Q (.bl (!decide (x = .non))) H)∨rNotB x y H Q
theorem Ab8 {X:Cx}:OpR X (compareOp .IsNot) Vp:=op_notN.or op_notBl
section
variable {g:Gm}
theorem RepH.isNon {G H:Hp} {d:D} {v:V} (r:RepH g G H d v) (nc:∀ u,d≠.con u):(v = .non↔d = .non):=by
 constructor
 ·intro e
  subst e
  rcases r with r | ⟨p,e,_⟩
  ·match d,r with
   | .non,_=>rfl
   | .bl _,r=>cases r
   | .int _,r=>cases r
   | .str _,r=>cases r.1
   | .lst _,⟨_,_,e,_⟩=>cases e
   | .tup _,⟨_,_,e,_⟩=>cases e
   | .dct _,⟨_,_,e,_⟩=>cases e
   | .set _,⟨_,_,e,_⟩=>cases e
   | .ins _ _,⟨_,_,_,e,_⟩=>cases e
   | .con u,r=>exact absurd rfl (nc u)
   | .scr _,r=>cases r.1
  ·cases e
 ·intro e; subst e; exact r.non
def Oz:D→Bool
 | .con _=>false
 | _=>true
def isE (a b:D):Option Rv:=if Oz a = true then isD a b else none
def C9 (a b:D):Option Rv:=if Oz a = true then isnD a b else none
theorem nocon {d:D} (h:Oz d = true) (u:V):d≠.con u:=fun z=>by subst z; cases h
theorem Ab9:OpV g Vp C9:=fun G H d1 d2 x y out Q bs sc a b e q=>by
 unfold C9 at e
 by_cases c:Oz d1 = true
 ·rw [if_pos c] at e
  cases d2 with
  | non =>
   refine .inl ⟨b.non,?_⟩
   have k:=a.isNon (nocon c)
   have e2:out = .val (.bl (!decide (x = .non))):=by
    cases d1 <;> cases e <;> first
     | (rw [decide_eq_true (k.mpr rfl)]; rfl)
     | (rw [decide_eq_false (fun z=>nomatch k.mp z)]; rfl)
   rw [e2] at q
   exact q _ G H (Grow.refl bs) rfl
  | bl b' =>
   cases d1 <;> try cases e
   exact .inr ⟨_,_,a.bl,b.bl,q _ G H (Grow.refl bs) rfl⟩
  | _=>cases d1 <;> cases e
 ·rw [if_neg c] at e; cases e
end
def ixD:D→D→Option Rv
 | .lst xs,.int i=>(atI xs i).map .val
 | .tup xs,.int i=>(atI xs i).map .val
 | .str l,.int i=>if l.length≤sizeLine then (atI l i).map fun c=>.val (.str [c]) else none
 | .scr ns,.int i=>(atI ns i).map fun n=>.val (.int n)
 | _,_=>none
def A4 (kvs:List (List Nat × D)) (k:List Nat):Option D:=(kvs.find? fun kv=>decide (kv.1 = k)).map (·.2)
def ixK:D→D→Option Rv
 | .dct kvs,.str k=>(A4 kvs k).map .val
 | _,_=>none
def ixA (a b:D):Option Rv:=match ixD a b with
 | some r=>some r
 | none=>ixK a b
def Vq:R2:=fun x y H Q=>∃ a v,x = .ref a∧DGet H a y (some v)∧Q v H
section
variable {g:Gm}
theorem Vr {G:Hp} {ds:List D} {vs:List V} {i:Int} {d:D} (r:Reps g G ds vs) (h:atI ds i = some d):∃ v,atI vs i = some v∧Rep g G d v:=by
 unfold atI at h ⊢
 rw [r.len]
 cases q:ixN ds.length i with
 | none=>rw [q] at h; cases h
 | some j =>
  rw [q] at h
  have h:ds[j]? = some d:=h
  have hl:j < vs.length:=by rw [r.len]; exact Bj h
  obtain ⟨d',h',rd⟩:=r.at (List.getElem?_eq_getElem hl)
  rw [h] at h'
  cases h'
  exact ⟨_,List.getElem?_eq_getElem hl,rd⟩
theorem Aca:OpV g (rIx g.K) ixD:=fun G H d1 d2 x y out Q bs sc a b e q=>by
 cases d1 <;> cases d2 <;> try cases e
 ·rename_i l i
  simp only [ixD] at e
  by_cases c:l.length≤sizeLine
  ·rw [if_pos c] at e
   cases z:atI l i with
   | none=>rw [z] at e; cases e
   | some ch =>
    rw [z] at e
    cases e
    refine .inr (.inr ⟨_,i,ch,a.str,b.int,by rw [S_len]; exact c,z,q _ G H (Grow.refl bs) ⟨rfl,fun c hc=>?_⟩⟩)
    rw [List.mem_singleton.mp hc]
    obtain ⟨j,_,hj,_⟩:=atI_get z
    exact a.okS ch (List.mem_of_getElem? hj)
  ·rw [if_neg c] at e; cases e
 ·rename_i xs i
  simp only [ixD] at e
  cases z:atI xs i with
  | none=>rw [z] at e; cases e
  | some d =>
   rw [z] at e
   cases e
   obtain ⟨a1,v1,e1,q1,r1⟩:=a.lst bs
   obtain ⟨v,hv,rv⟩:=Vr r1 z
   exact .inl ⟨a1,v1,i,v,e1,b.int,q1,hv,q _ G H (Grow.refl bs) rv⟩
 ·rename_i xs i
  simp only [ixD] at e
  cases z:atI xs i with
  | none=>rw [z] at e; cases e
  | some d =>
   rw [z] at e
   cases e
   obtain ⟨a1,v1,e1,q1,r1⟩:=a.tup bs
   obtain ⟨v,hv,rv⟩:=Vr r1 z
   exact .inr (.inl ⟨a1,v1,i,v,e1,b.int,q1,hv,q _ G H (Grow.refl bs) rv⟩)
 ·rename_i ns i
  simp only [ixD] at e
  cases z:atI ns i with
  | none=>rw [z] at e; cases e
  | some n =>
   rw [z] at e
   cases e
   obtain ⟨ep,en⟩:x = .ref g.sa∧ns = g.sn:=by
    rcases a with r | ⟨_,_,_,o⟩
    ·exact r
    ·exact o.elim
   subst en
   refine .inl ⟨g.sa,_,i,.int n,ep,b.int,sc,?_,q _ G H (Grow.refl bs) rfl⟩
   unfold atI at z ⊢
   rw [List.length_map]
   cases z2:ixN g.sn.length i with
   | none=>rw [z2] at z; cases z
   | some j =>
    rw [z2] at z
    have z:g.sn[j]? = some n:=z
    show (g.sn.map V.int)[j]? = some (.int n)
    rw [List.getElem?_map,z]
    rfl
theorem Vt {a b:List Nat}:decide ((Sum.inr (S a):Key) = Sum.inr (S b)) = decide (a = b):=by
 by_cases h:a = b
 ·subst h; simp
 ·rw [decide_eq_false h,decide_eq_false]
  exact fun z=>h (S_inj (Sum.inr.inj z))
theorem Ra {G:Hp}:∀ {kvs:List (List Nat × D)} {vs:List (Key × V)} (k:List Nat),RepK g G kvs vs→match A4 kvs k with
  | some d=>∃ v,valV vs (.inr (S k)) = some v∧Rep g G d v
  | none=>valV vs (.inr (S k)) = none
 | [],vs,k,r=>by rw [show vs = [] from r]; rfl
 | (k0,d0) :: kvs,vs,k,⟨_,v,t,e,a,b⟩=>by
  subst e
  have ih:=Ra k b
  unfold A4 valV at ih ⊢
  rw [List.find?_cons,List.find?_cons]
  simp only [Vt]
  by_cases h:k0 = k
  ·rw [decide_eq_true h]
   exact ⟨v,rfl,a⟩
  ·rw [decide_eq_false h]
   exact ih
theorem Vu {G H:Hp} {kvs:List (List Nat × D)} {v:V} (bs:Bs G H) (r:RepH g G H (.dct kvs) v) (k:List Nat):∃ a,v = .ref a∧IsD H a∧match A4 kvs k with
  | some d=>∃ u,DGet H a (.str (S k)) (some u)∧Rep g G d u
  | none=>DGet H a (.str (S k)) none:=by
 obtain ⟨a,vs,e,q,rk⟩:=r.dct bs
 refine ⟨a,e,.inl ⟨vs,q⟩,?_⟩
 have h:=Ra k rk
 cases z:A4 kvs k with
 | none =>
  rw [z] at h
  exact .inl ⟨vs,.inr (S k),q,rfl,h.symm⟩
 | some d =>
  rw [z] at h
  obtain ⟨u,hu,ru⟩:=h
  exact ⟨u,.inl ⟨vs,.inr (S k),q,rfl,hu.symm⟩,ru⟩
theorem Acb:OpV g Vq ixK:=fun G H d1 d2 x y out Q bs sc a b e q=>by
 cases d1 <;> cases d2 <;> try cases e
 rename_i kvs k
 obtain ⟨p,ep,_,h⟩:=Vu bs a k
 simp only [ixK] at e
 cases z:A4 kvs k with
 | none=>rw [z] at e; cases e
 | some d =>
  rw [z] at e h
  cases e
  obtain ⟨u,hu,ru⟩:=h
  exact ⟨p,u,ep,by rw [b.str]; exact hu,q _ G H (Grow.refl bs) ru⟩
theorem Acd (d1 d2:D) (out:Rv) (h:ixA d1 d2 = some out):ixD d1 d2 = some out∨ixK d1 d2 = some out:=by
 unfold ixA at h
 cases q:ixD d1 d2 with
 | some r=>rw [q] at h; exact .inl h
 | none=>rw [q] at h; exact .inr h
end
section
variable {g:Gm} {W:WX} {k:Nat} {X:Cx}
theorem Du {a b:Expr} {A B:M Rv} {pos:Pos} (ha:VE g W k X a A) (hb:VE g W k X b B) (hs:PlainIx b:=by intro _ _; rfl):VE g W k X (.Subscript a b pos) (fOp ixA A B):=by
 refine ⟨fun c=>?_⟩
 have p1:PE X (.Subscript a b pos) (tOp (rIx g.K) (TV g W A) (TV g W B)):=c.K ▸ pe_ix ix_seq (ha.run c) (hb.run c) hs
 have p2:PE X (.Subscript a b pos) (tOp Vq (TV g W A) (TV g W B)):=pe_dget c.hu (ha.run c) (hb.run c) hs
 exact PE.imp (PE.or p1 p2) fun σ H Q q=>(Mu Acd q).imp (fun z=>Ds Aca z) (fun z=>Ds Acb z)
end
def Dc:D→Bool
 | .non=>true
 | .bl _=>true
 | .int _=>true
 | .str _=>true
 | _=>false
def inT:D→D→Option Bool
 | .str [c],.str l=>some (decide (c∈l))
 | _,_=>none
def inQ:D→D→Option Bool
 | x,.lst ds=>if (Dc x && ds.all Dc) = true then some (ds.any fun y=>eqD y x) else none
 | x,.tup ds=>if (Dc x && ds.all Dc) = true then some (ds.any fun y=>eqD y x) else none
 | _,_=>none
def inK:D→D→Option Bool
 | .str k,.dct kvs=>some (A4 kvs k).isSome
 | _,_=>none
def Az (f:D→D→Option Bool) (neg:Bool) (a b:D):Option Rv:=(f a b).map fun r=>.val (.bl (if neg then !r else r))
def inA:D→D→Option Bool:=fun a b=>match inT a b with
 | some r=>some r
 | none=>(match inQ a b with
  | some r=>some r
  | none=>inK a b)
def inS (a b:D):Option Bool:=match inT a b with
 | some r=>some r
 | none=>inQ a b
section
variable {g:Gm}
theorem Vw {G H:Hp} {d:D} {v:V} (r:RepH g G H d v) (h:Dc d = true):flatV v = true:=by
 cases d <;> try cases h
 ·rw [r.non]; rfl
 ·rw [r.bl]; rfl
 ·rw [r.int]; rfl
 ·rw [r.str]; rfl
theorem Ace {G:Hp} {H:Hp} {d d':D} {v v':V} (r:RepH g G H d v) (r':RepH g G H d' v') (h:Dc d = true) (h':Dc d' = true):eqV v v' = eqD d d':=by
 cases d <;> (try cases h) <;> cases d' <;> (try cases h') <;>
  (first | rw [r.non] | rw [r.bl] | rw [r.int] | rw [r.str]) <;> (first | rw [r'.non] | rw [r'.bl] | rw [r'.int] | rw [r'.str]) <;> try rfl
 ·exact S_beq_eq
theorem Vx {G H:Hp}:∀ {ds:List D} {vs:List V},Reps g G ds vs→ds.all Dc = true→vs.all flatV = true∧∀ x v,RepH g G H x v→Dc x = true→inV v vs = ds.any fun y=>eqD y x
 | [],vs,r,_=>by rw [show vs = [] from r]; exact ⟨rfl,fun _ _ _ _=>rfl⟩
 | d :: ds,vs,⟨v,t,e,a,b⟩,h=>by
  subst e
  have h1:Dc d = true∧ds.all Dc = true:=by simpa using h
  obtain ⟨i1,i2⟩:=Vx (H:=H) b h1.2
  refine ⟨by rw [List.all_cons,Vw (H:=H) (.inl a) h1.1,i1]; rfl,fun x u rx fx=>?_⟩
  show (eqV v u || inV u t) = _
  rw [i2 x u rx fx,Ace (H:=H) (.inl a) rx h1.1 fx]
  rfl
theorem O0 {neg:Bool}:OpV g (rIn g.K neg) (Az inQ neg):=fun G H d1 d2 x y out Q bs sc a b e q=>by
 unfold Az at e
 cases z:inQ d1 d2 with
 | none=>rw [z] at e; cases e
 | some r =>
  rw [z] at e
  cases e
  have fin:∀ ds,(∃ p vs,y = .ref p∧(SqL g.K H p vs∨SqT g.K H p vs)∧Reps g G ds vs)→(if (Dc d1 && ds.all Dc) = true then some (ds.any fun y=>eqD y d1) else none) = some r→rIn g.K neg x y H Q:=fun ds ⟨p,vs,ep,hs,rp⟩ hz=>by
   by_cases c:(Dc d1 && ds.all Dc) = true
   ·rw [if_pos c] at hz
    cases hz
    obtain ⟨c1,c2⟩:=Bool.and_eq_true_iff.mp c
    obtain ⟨f1,f2⟩:=Vx (H:=H) rp c2
    refine ⟨p,vs,ep,hs,Vw a c1,f1,q _ G H (Grow.refl bs) ?_⟩
    rw [f2 d1 x a c1]
    rfl
   ·rw [if_neg c] at hz; cases hz
  cases d2 <;> try cases z
  ·obtain ⟨p,vs,ep,hs,rp⟩:=b.lst bs
   exact fin _ ⟨p,vs,ep,.inl hs,rp⟩ z
  ·obtain ⟨p,vs,ep,hs,rp⟩:=b.tup bs
   exact fin _ ⟨p,vs,ep,.inr hs,rp⟩ z
def Jd (neg:Bool):R2:=fun x y H Q=>∃ (c:Nat) (z:Str),x = .str ⟨#[c]⟩∧y = .str z∧Q (.bl (if neg then !decide (c∈z.cps.toList) else decide (c∈z.cps.toList))) H
theorem O1 {neg:Bool}:OpV g (Jd neg) (Az inT neg):=fun G H d1 d2 x y out Q bs sc a b e q=>by
 unfold Az at e
 cases d1 with
 | str l =>
  match l,a,e with
  | [],_,e=>cases d2 <;> cases e
  | [c],a,e =>
   cases d2 <;> try cases e
   exact ⟨c,S _,a.str,b.str,q _ G H (Grow.refl bs) rfl⟩
  | c :: c' :: r,_,e=>cases d2 <;> cases e
 | _=>cases d2 <;> cases e
def Mx (neg:Bool):R2:=fun y x H Q=>∃ a o,x = .ref a∧DGet H a y o∧Q (.bl (if neg then !o.isSome else o.isSome)) H
theorem O3 {neg:Bool}:OpV g (Mx neg) (Az inK neg):=fun G H d1 d2 x y out Q bs sc a b e q=>by
 unfold Az at e
 cases d1 <;> cases d2 <;> try cases e
 rename_i k kvs
 obtain ⟨p,ep,_,h⟩:=Vu bs b k
 cases z:A4 kvs k with
 | none =>
  rw [z] at h
  refine ⟨p,none,ep,by rw [a.str]; exact h,q _ G H (Grow.refl bs) ?_⟩
  simp only [inK,z]
  rfl
 | some d =>
  rw [z] at h
  obtain ⟨u,hu,_⟩:=h
  refine ⟨p,some u,ep,by rw [a.str]; exact hu,q _ G H (Grow.refl bs) ?_⟩
  simp only [inK,z]
  rfl
end
section
variable {X:Cx}
theorem op_inT:OpR X (compareOp .In) (Jd false):=op_in_sign
theorem op_ninT:OpR X (compareOp .NotIn) (Jd true):=op_notIn_sign
end
theorem O4 (neg:Bool) (d1 d2:D) (out:Rv) (h:Az inA neg d1 d2 = some out):Az inS neg d1 d2 = some out∨Az inK neg d1 d2 = some out:=by
 unfold Az inA at h
 unfold Az inS
 cases q1:inT d1 d2 with
 | some r=>rw [q1] at h; exact .inl h
 | none =>
  rw [q1] at h
  simp only at h ⊢
  cases q2:inQ d1 d2 with
  | some r=>rw [q2] at h; exact .inl h
  | none=>rw [q2] at h; exact .inr h
theorem O5 (neg:Bool) (d1 d2:D) (out:Rv) (h:Az inS neg d1 d2 = some out):Az inT neg d1 d2 = some out∨Az inQ neg d1 d2 = some out:=by
 unfold Az inS at h
 unfold Az
 cases q1:inT d1 d2 with
 | some r=>rw [q1] at h; exact .inl h
 | none=>rw [q1] at h; exact .inr h
section
variable {g:Gm} {W:WX} {k:Nat} {X:Cx} {a b:Expr} {A B:M Rv} {pos:Pos}
theorem Rb (ha:VE g W k X a A) (hb:VE g W k X b B) (hm:behindInMarks .In b = false:=by rfl):VE g W k X (.Compare a [.In] [b] pos) (fOp (Az inA false) A B):=by
 refine ⟨fun c=>?_⟩
 have o1:OpR X (compareOp .In) (fun x y H Q=>Jd false x y H Q∨rIn g.K false x y H Q):=op_inT.or (c.K ▸ op_in_seq)
 have p1:=pe_cmpR (pos:=pos) o1 (ha.run c) (hb.run c) hm
 have p2:PE X (.Compare a [.In] [b] pos) (tOp (Mx false) (TV g W A) (TV g W B)):=pe_cmp (pc_din c.hu (ha.run c) (hb.run c)) hm
 exact PE.imp (PE.or p1 p2) fun σ H Q q=>(Mu (O4 false) q).imp (fun z=>Ds (OpV.or O1 O0 (O5 false)) z) (fun z=>Ds O3 z)
theorem vt_in (ha:VE g W k X a A) (hb:VE g W k X b B) (hm:behindInMarks .In b = false:=by rfl):VT g W k X (.Compare a [.In] [b] pos) (A8 (fOp (Az inA false) A B)):=by
 refine ⟨fun c=>?_⟩
 have o1:OpR X (compareOp .In) (fun x y H Q=>Jd false x y H Q∨rIn g.K false x y H Q):=op_inT.or (c.K ▸ op_in_seq)
 have p1:=pt_cmpR (pos:=pos) o1 (ha.run c) (hb.run c) hm
 have p2:PT X (.Compare a [.In] [b] pos) (tB (tOp (Mx false) (TV g W A) (TV g W B))):=pt_cmp (pc_din c.hu (ha.run c) (hb.run c)) hm
 exact PT.imp (PT.or p1 p2) fun σ H Q q=>(Mu (O4 false) (Mm q)).imp (fun z=>Ds (OpV.or O1 O0 (O5 false)) z) (fun z=>Ds O3 z)
theorem Acf (ha:VE g W k X a A) (hb:VE g W k X b B) (hm:behindInMarks .NotIn b = false:=by rfl):VE g W k X (.Compare a [.NotIn] [b] pos) (fOp (Az inA true) A B):=by
 refine ⟨fun c=>?_⟩
 have o1:OpR X (compareOp .NotIn) (fun x y H Q=>Jd true x y H Q∨rIn g.K true x y H Q):=op_ninT.or (c.K ▸ op_notIn_seq)
 have p1:=pe_cmpR (pos:=pos) o1 (ha.run c) (hb.run c) hm
 have p2:PE X (.Compare a [.NotIn] [b] pos) (tOp (Mx true) (TV g W A) (TV g W B)):=pe_cmp (pc_dnotin c.hu (ha.run c) (hb.run c)) hm
 exact PE.imp (PE.or p1 p2) fun σ H Q q=>(Mu (O4 true) q).imp (fun z=>Ds (OpV.or O1 O0 (O5 true)) z) (fun z=>Ds O3 z)
theorem Rc (ha:VE g W k X a A) (hb:VE g W k X b B) (hm:behindInMarks .NotIn b = false:=by rfl):VT g W k X (.Compare a [.NotIn] [b] pos) (A8 (fOp (Az inA true) A B)):=by
 refine ⟨fun c=>?_⟩
 have o1:OpR X (compareOp .NotIn) (fun x y H Q=>Jd true x y H Q∨rIn g.K true x y H Q):=op_ninT.or (c.K ▸ op_notIn_seq)
 have p1:=pt_cmpR (pos:=pos) o1 (ha.run c) (hb.run c) hm
 have p2:PT X (.Compare a [.NotIn] [b] pos) (tB (tOp (Mx true) (TV g W A) (TV g W B))):=pt_cmp (pc_dnotin c.hu (ha.run c) (hb.run c)) hm
 exact PT.imp (PT.or p1 p2) fun σ H Q q=>(Mu (O4 true) (Mm q)).imp (fun z=>Ds (OpV.or O1 O0 (O5 true)) z) (fun z=>Ds O3 z)
end
end Vs
set_option maxRecDepth 100000
set_option maxHeartbeats 2000000
namespace Vs
open PySem PySem.Spec PyProof.Rows L2 Fw SX
def D7:D→D→Option Rv
 | .int i,.int j=>if (-(2 ^ 64) < i∧i < 2 ^ 64)∨(-(2 ^ 64) < j∧j < 2 ^ 64) then some (.val (.int (i * j))) else none
 | .str l,.int k=>if 0≤k∧k≤100000∧l.length≤100 then some (.val (.str (List.replicate k.toNat l).flatten)) else none
 | .lst xs,.int k=>if -(2 ^ 63)≤k∧k < 2 ^ 63∧xs.length * k.toNat≤sizeLine then some (.fresh (.lst (List.replicate k.toNat xs).flatten)) else none
 | _,_=>none
def Vy:R2:=fun x y H Q=>rI CMul (fun i j=>.int (i * j)) x y H Q∨(∃ z k,x = .str z∧y = .int k∧0≤k∧k≤100000∧z.length≤100∧Q (.str (Iz z k.toNat)) H)∨rRep x y H Q
theorem Acg {X:Cx}:OpR X (binaryOp .Mult) Vy:=op_mul.or (op_mul_str.or op_rep)
theorem Reps.times {g:Gm} {G:Hp} {ds:List D} {vs:List V} (r:Reps g G ds vs):∀ n:Nat,Reps g G (List.replicate n ds).flatten (List.replicate n vs).flatten
 | 0=>rfl
 | n + 1=>by
  rw [List.replicate_succ,List.replicate_succ,List.flatten_cons,List.flatten_cons]
  exact r.append (Reps.times r n)
theorem OkS.times {l:List Nat} (h:OkS l) (n:Nat):OkS (List.replicate n l).flatten:=fun c hc=>by
 obtain ⟨x,hx,hc⟩:=List.mem_flatten.mp hc
 rw [List.eq_of_mem_replicate hx] at hc
 exact h c hc
section
variable {g:Gm}
theorem Ach:OpV g Vy D7:=fun G H d1 d2 x y out Q bs sc a b e q=>by
 cases d1 <;> cases d2 <;> try cases e
 ·rename_i i j
  simp only [D7] at e
  by_cases c:(-(2 ^ 64) < i∧i < 2 ^ 64)∨(-(2 ^ 64) < j∧j < 2 ^ 64)
  ·rw [if_pos c] at e
   cases e
   exact .inl ⟨_,_,a.int,b.int,c,q _ G H (Grow.refl bs) rfl⟩
  ·rw [if_neg c] at e; cases e
 ·rename_i l k
  simp only [D7] at e
  by_cases c:0≤k∧k≤100000∧l.length≤100
  ·rw [if_pos c] at e
   cases e
   exact .inr (.inl ⟨_,_,a.str,b.int,c.1,c.2.1,by rw [S_len]; exact c.2.2,q _ G H (Grow.refl bs) ⟨rfl,a.okS.times _⟩⟩)
  ·rw [if_neg c] at e; cases e
 ·rename_i xs k
  simp only [D7] at e
  by_cases c:-(2 ^ 63)≤k∧k < 2 ^ 63∧xs.length * k.toNat≤sizeLine
  ·rw [if_pos c] at e
   cases e
   obtain ⟨a1,v1,e1,q1,r1⟩:=a.lstR bs
   refine .inr (.inr ⟨a1,k,v1,e1,b.int,q1,c.1,c.2.1,by rw [r1.len]; exact c.2.2,fun p np=>?_⟩)
   exact q _ G _ (Grow.lay bs np) ⟨p,rfl,bs.hn np,⟨_,upd_same,r1.times _⟩,np⟩
  ·rw [if_neg c] at e; cases e
end
def Cp {α:Type} (xs:List α) (lo hi:Option Int):List α:=(xs.drop (HT.sIx xs.length 0 lo)).take (HT.sIx xs.length xs.length hi - HT.sIx xs.length 0 lo)
def cutD (d:D) (lo hi:Option Int):Option Rv:=match d with
 | .lst xs=>some (.fresh (.lst (Cp xs lo hi)))
 | .tup xs=>some (.val (.tup (Cp xs lo hi)))
 | .str l=>if l.length≤sizeLine then some (.val (.str (Cp l lo hi))) else none
 | .scr ns=>some (.fresh (.lst ((Cp ns lo hi).map .int)))
 | _=>none
def TVO (g:Gm) (W:WX) (F:M (Option Int)):TO:=fun σ H Q=>∃ G e,SR g G H σ e∧Pst g W σ G H e (fun o _ H' _=>Q o H') (F e)
structure VO (g:Gm) (W:WX) (k:Nat) (X:Cx) (ex:Option Expr) (F:M (Option Int)):Prop where
 run:Cd g W k X→PO X ex (TVO g W F)
def My (A:M Rv):M (Option Int):=A.bind fun r e=>match r with
 | .val (.int i)=>.ok (some i) e
 | _=>.no
def fSl (A:M Rv) (L U:M (Option Int)):M Rv:=A.bind fun a=>L.bind fun lo=>U.bind fun hi e=>match Af a e with
 | some d=>(match cutD d lo hi with | some r=>.ok r e | none=>.no)
 | none=>.no
theorem Aci {α:Type} {xs:List α} {lo hi:Option Int} {a:α} (h:a∈Cp xs lo hi):a∈xs:=List.mem_of_mem_drop (List.mem_of_mem_take h)
section
variable {g:Gm} {W:WX} {k:Nat} {X:Cx}
theorem Reps.drop {G:Hp}:∀ {ds:List D} {vs:List V} (n:Nat),Reps g G ds vs→Reps g G (ds.drop n) (vs.drop n)
 | [],vs,n,r=>by rw [show vs = [] from r]; simp [Reps]
 | d :: ds,vs,0,r=>r
 | d :: ds,vs,n + 1,⟨v,t,e,a,b⟩=>by subst e; exact Reps.drop n b
theorem Reps.take {G:Hp}:∀ {ds:List D} {vs:List V} (n:Nat),Reps g G ds vs→Reps g G (ds.take n) (vs.take n)
 | [],vs,n,r=>by rw [show vs = [] from r]; simp [Reps]
 | d :: ds,vs,0,r=>rfl
 | d :: ds,vs,n + 1,⟨v,t,e,a,b⟩=>by subst e; exact ⟨v,_,rfl,a,Reps.take n b⟩
theorem Reps.cut {G:Hp} {ds:List D} {vs:List V} (lo hi:Option Int) (r:Reps g G ds vs):Reps g G (Cp ds lo hi) (cutV vs lo hi):=by
 unfold Cp cutV
 rw [r.len]
 exact (r.drop _).take _
theorem Reps.ints {G:Hp}:∀ ns:List Int,Reps g G (ns.map .int) (ns.map V.int)
 | []=>rfl
 | n :: ns=>⟨.int n,ns.map V.int,rfl,rfl,Reps.ints ns⟩
theorem Vz:VO g W k X none (M.ret none):=⟨fun _=>PO.imp po_none fun σ H Q ⟨G,e,sr,h⟩=>h G H (Tr.refl sr)⟩
theorem V0 {ex:Expr} {A:M Rv} (h:VE g W k X ex A):VO g W k X (some ex) (My A):=⟨fun c=>PO.imp (po_some (h.run c)) fun σ H Q ⟨G,e,sr,q⟩=>⟨G,e,sr,Pst.mono (Pst.bind q) fun r G1 H1 e1 t1 h1 v ok=>by
 cases r with
 | val d =>
  cases d with
  | int i=>exact ⟨i,ok,h1 G1 H1 (Tr.refl t1.sr)⟩
  | _=>exact h1.elim
 | _=>exact h1.elim⟩⟩
def Acj (K:PySem.W.Frag):V→Option Int→Option Int→Hp→VK→Prop:=fun x lo hi H Q=>rSlL K x lo hi H Q∨rSlA K x lo hi H Q∨rSlS x lo hi H Q
theorem V1 {a:Expr} {lo hi:Option Expr} {A:M Rv} {L U:M (Option Int)} {p2 pos:Pos} (ha:VE g W k X a A) (hl:VO g W k X lo L) (hu:VO g W k X hi U):VE g W k X (.Subscript a (.Slice lo hi none p2) pos) (fSl A L U):=by
 refine ⟨fun c=>?_⟩
 have sl:SlR X (Acj g.K):=c.K ▸ sl_list.or (sl_tupA.or sl_str)
 refine PE.imp (pe_slice sl (ha.run c) (hl.run c) (hu.run c)) fun σ H Q ⟨G,e,sr,h⟩=>?_
 refine ⟨G,e,sr,Pst.mono (Pst.bind h) fun ra G1 H1 e1 t1 h1 x ok1=>⟨G1,e1,t1.sr,Pst.mono (Pst.bind h1) fun lo G2 H2 e2 t2 h2=>⟨G2,e2,t2.sr,Pst.mono (Pst.bind h2) fun hi G3 H3 e3 t3 h3=>?_⟩⟩⟩
 have ok3:=(ok1.tr t2).tr t3
 cases q:Af ra e3 with
 | none=>simp only [q] at h3; exact h3.elim
 | some d =>
  simp only [q] at h3
  have rp:=B5 t3.sr ok3 q
  have dm:∀ p,H3 p = none→H p = none:=fun p hp=>t1.dom p (t2.dom p (t3.dom p hp))
  have bs:=t3.sr.bs
  cases d with
  | lst xs =>
   obtain ⟨a1,v1,e1',q1,r1⟩:=rp.lst bs
   refine .inl ⟨a1,v1,e1',q1,fun p np=>?_⟩
   exact h3 G3 _ ((Grow.lay bs np).tr t3.sr) _ (RvNew.ok t3.sr dm (r:=.fresh (.lst (Cp xs lo hi))) ⟨p,rfl,bs.hn np,⟨_,upd_same,r1.cut lo hi⟩,np⟩)
  | scr ns =>
   obtain ⟨ep,en⟩:x = .ref g.sa∧ns = g.sn:=by
    rcases rp with r | ⟨_,_,_,o⟩
    ·exact r
    ·exact o.elim
   subst en
   refine .inl ⟨g.sa,_,ep,t3.sr.scrL,fun p np=>?_⟩
   have r1:Reps g G3 (g.sn.map D.int) (g.sn.map V.int):=Reps.ints _
   have ec:Cp (g.sn.map D.int) lo hi = (Cp g.sn lo hi).map D.int:=by
    unfold Cp
    rw [List.length_map,List.map_take,List.map_drop]
   exact h3 G3 _ ((Grow.lay bs np).tr t3.sr) _ (RvNew.ok t3.sr dm (r:=.fresh (.lst ((Cp g.sn lo hi).map .int))) ⟨p,rfl,bs.hn np,⟨_,upd_same,by rw [← ec]; exact r1.cut lo hi⟩,np⟩)
  | tup xs =>
   obtain ⟨a1,v1,e1',q1,r1⟩:=rp.tup bs
   have rr:=r1.cut lo hi
   have wh:∀ {α:Type} (l:List α),HT.sIx l.length 0 lo = 0∧HT.sIx l.length l.length hi = l.length→Cp l lo hi = l:=fun l z=>by
    unfold Cp
    rw [z.1,z.2]
    simp
   refine .inr (.inl ⟨a1,v1,e1',q1,fun z=>?_,fun _ p np=>?_⟩)
   ·rw [r1.len] at z
    rcases rp with r | ⟨_,_,_,o⟩
    ·rw [← e1']
     exact h3 G3 H3 (Tr.refl t3.sr) _ (show Rep g G3 (.tup (Cp xs lo hi)) x by rw [wh xs z]; exact r)
    ·exact o.elim
   ·have gr:=Grow.lay2 (o:=HO.tup (cutV v1 lo hi)) bs np (fun _ _ z=>nomatch z)
    exact h3 _ _ (gr.tr t3.sr) _ (show Rep g _ (.tup (Cp xs lo hi)) (.ref p) from ⟨p,_,rfl,.of upd_same,rr.mono gr.le⟩)
  | str l =>
   simp only [cutD] at h3
   by_cases cl:l.length≤sizeLine
   ·rw [if_pos cl] at h3
    refine .inr (.inr ⟨S l,rp.str,by rw [S_len]; exact cl,?_⟩)
    refine h3 G3 H3 (Tr.refl t3.sr) _ (show Rep g G3 (.str (Cp l lo hi)) _ from ⟨?_,fun c hc=>rp.okS c (Aci hc)⟩)
    unfold cutS Cp
    rw [S_len]
   ·rw [if_neg cl] at h3; exact h3.elim
  | _=>exact h3.elim
end
def O6 (ys:List (List Nat)):List (List Nat):=(ups (ys.map S)).map fun s=>s.cps.toList
def Ax (ys:List (List Nat)):List (List Nat):=(srt (ys.map S)).map fun s=>s.cps.toList
theorem S_of (s:Str):S s.cps.toList = s:=by
 apply Oe
 rfl
theorem V2 (ys:List (List Nat)):(Ax ys).map S = srt (ys.map S):=by
 unfold Ax
 rw [List.map_map]
 conv=>rhs; rw [← List.map_id (srt (ys.map S))]
 exact List.map_congr_left fun s _=>S_of s
def Bl:List D→Option Rv
 | [.str l]=>if l.length≤sizeLine then some (.val (.int l.length)) else none
 | [.lst xs]=>some (.val (.int xs.length))
 | [.tup xs]=>some (.val (.int xs.length))
 | [.scr ns]=>some (.val (.int ns.length))
 | [.dct kvs]=>some (.val (.int kvs.length))
 | [.set xs]=>some (.val (.int (O6 xs).length))
 | _=>none
def V3 (K:PySem.W.Frag) (w:World):List V→Hp→VK→Prop:=fun xs H Q=>rLenC K xs H Q∨U6 w xs H Q∨(∃ a kvs,xs = [V.ref a]∧Rd H a (.dK kvs)∧Q (.int kvs.length) H)
theorem Ack {X:Cx}:CallR X (.builtin "len") (fun xs H Q=>∃ a kvs,xs = [V.ref a]∧Rd H a (.dK kvs)∧Q (.int kvs.length) H):=fun pins s σ H xs us Q I r ⟨a,kvs,ex,ha,q⟩=>by
 subst ex
 obtain ⟨u,eu,ru⟩:=vals1 r
 subst eu
 obtain rfl:u = Value.ref a:=ru
 exact d_len I ha fun t s' I'=>⟨.int kvs.length,H,I',⟨t,rfl⟩,q⟩
theorem Acl {X:Cx}:CallR X (.builtin "len") (V3 X.K X.w):=call_len.or (cr_lenSet.or Ack)
section
variable {g:Gm}
theorem RepsH.two {G H:Hp} {d d':D} {vs:List V} (h:RepsH g G H [d,d'] vs):∃ v v',vs = [v,v']∧RepH g G H d v∧RepH g G H d' v':=by
 obtain ⟨v,r,e,a,b⟩:=h
 obtain ⟨v',e',b'⟩:=b.one
 exact ⟨v,v',by rw [e,e'],a,b'⟩
theorem Acm {L:List Str} {xs:List (List Nat)} (nd:L.Nodup) (mem:∀ k,k∈L↔k∈xs.map S):L.length = (O6 xs).length:=by
 have e:srt L = ups (xs.map S):=Aa8 nd mem
 have e2:(O6 xs).length = (ups (xs.map S)).length:=by unfold O6; rw [List.length_map]
 rw [e2,← e,U5]
theorem Acn:CallV g (V3 g.K g.w) Bl:=fun G H ds vs out Q bs sc r e q=>by
 match ds,e with
 | [],e=>cases e
 | d :: d' :: t,e=>cases d <;> cases e
 | [d],e =>
  obtain ⟨v,ev,a⟩:=r.one
  subst ev
  cases d with
  | str l =>
   simp only [Bl] at e
   by_cases c:l.length≤sizeLine
   ·rw [if_pos c] at e
    cases e
    rw [a.str]
    exact .inl ⟨_,l.length,rfl,⟨by rw [S_len]; exact c,(S_len l).symm⟩,q _ G H (Grow.refl bs) rfl⟩
   ·rw [if_neg c] at e; cases e
  | lst xs =>
   cases e
   obtain ⟨p,us,ep,hs,rp⟩:=a.lst bs
   rw [ep]
   exact .inl ⟨_,xs.length,rfl,.inl ⟨us,hs,rp.len.symm⟩,q _ G H (Grow.refl bs) rfl⟩
  | tup xs =>
   cases e
   obtain ⟨p,us,ep,hs,rp⟩:=a.tup bs
   rw [ep]
   exact .inl ⟨_,xs.length,rfl,.inr ⟨us,hs,rp.len.symm⟩,q _ G H (Grow.refl bs) rfl⟩
  | scr ns =>
   cases e
   obtain ⟨ep,en⟩:=a.scr
   subst en
   rw [ep]
   exact .inl ⟨_,g.sn.length,rfl,.inl ⟨_,sc,by rw [List.length_map]⟩,q _ G H (Grow.refl bs) rfl⟩
  | dct kvs =>
   cases e
   obtain ⟨p,us,ep,hs,rp⟩:=a.dct bs
   rw [ep]
   refine .inr (.inr ⟨p,us,rfl,hs,?_⟩)
   rw [rp.len]
   exact q _ G H (Grow.refl bs) rfl
  | set xs =>
   cases e
   obtain ⟨p,L,ep,hs,nd,mem⟩:=a.set bs
   rw [ep]
   refine .inr (.inl ⟨p,L,rfl,hs,?_⟩)
   rw [Acm nd mem]
   exact q _ G H (Grow.refl bs) rfl
  | _=>cases e
end
def intD:List D→Option Rv
 | [.int i]=>some (.val (.int i))
 | [.bl b]=>some (.val (.int (if b then 1 else 0)))
 | _=>none
def Ej (i:Int):List Nat:=(toString i:Str).cps.toList
def Mz:List D→Option Rv
 | [.int i]=>some (.val (.int (if i < 0 then -i else i)))
 | _=>none
def K6:List D→Option Rv
 | [.int i,.int j]=>some (.val (.int (if j > i then j else i)))
 | _=>none
def K7:List D→Option Rv
 | [.int i,.int j]=>some (.val (.int (if j < i then j else i)))
 | _=>none
section
variable {g:Gm}
theorem Aco:CallV g (fun xs H Q=>(∃ i,xs = [.int i]∧Q (.int i) H)∨∃ k,xs = [.bl k]∧Q (.int (if k then 1 else 0)) H) intD:=fun G H ds vs out Q bs sc r e q=>by
 match ds,e with
 | [],e=>cases e
 | d :: d' :: t,e=>cases d <;> cases e
 | [d],e =>
  obtain ⟨v,ev,a⟩:=r.one
  subst ev
  cases d <;> try cases e
  ·exact .inr ⟨_,by rw [a.bl],q _ G H (Grow.refl bs) rfl⟩
  ·exact .inl ⟨_,by rw [a.int],q _ G H (Grow.refl bs) rfl⟩
theorem Acp:CallV g (fun xs H Q=>∃ i,xs = [.int i]∧Q (.int (if i < 0 then -i else i)) H) Mz:=fun G H ds vs out Q bs sc r e q=>by
 match ds,e with
 | [],e=>cases e
 | d :: d' :: t,e=>cases d <;> cases e
 | [d],e =>
  obtain ⟨v,ev,a⟩:=r.one
  subst ev
  cases d <;> try cases e
  exact ⟨_,by rw [a.int],q _ G H (Grow.refl bs) rfl⟩
theorem Acq:CallV g (fun xs H Q=>∃ i j,xs = [.int i,.int j]∧Q (.int (if j > i then j else i)) H) K6:=fun G H ds vs out Q bs sc r e q=>by
 match ds,e with
 | [],e=>cases e
 | [d],e=>cases d <;> cases e
 | d :: d' :: d'' :: t,e=>cases d <;> cases d' <;> cases e
 | [d,d'],e =>
  obtain ⟨v,v',ev,a,b⟩:=r.two
  subst ev
  cases d <;> cases d' <;> try cases e
  exact ⟨_,_,by rw [a.int,b.int],q _ G H (Grow.refl bs) rfl⟩
theorem Acr:CallV g (fun xs H Q=>∃ i j,xs = [.int i,.int j]∧Q (.int (if j < i then j else i)) H) K7:=fun G H ds vs out Q bs sc r e q=>by
 match ds,e with
 | [],e=>cases e
 | [d],e=>cases d <;> cases e
 | d :: d' :: d'' :: t,e=>cases d <;> cases d' <;> cases e
 | [d,d'],e =>
  obtain ⟨v,v',ev,a,b⟩:=r.two
  subst ev
  cases d <;> cases d' <;> try cases e
  exact ⟨_,_,by rw [a.int,b.int],q _ G H (Grow.refl bs) rfl⟩
end
def D8:List D→Option (List (List Nat))
 | []=>some []
 | .str l :: r=>(D8 r).map (l :: ·)
 | _ :: _=>none
def Ek:List D→Option (List Bool)
 | []=>some []
 | .bl b :: r=>(Ek r).map (b :: ·)
 | _ :: _=>none
section
variable {g:Gm}
theorem Rf {G:Hp}:∀ {ds:List D} {vs:List V} {ls:List (List Nat)},Reps g G ds vs→D8 ds = some ls→vs = (ls.map S).map V.str∧∀ l∈ls,OkS l
 | [],vs,ls,r,h=>by cases h; rw [show vs = [] from r]; exact ⟨rfl,fun l hl=>nomatch hl⟩
 | .str l :: ds,vs,ls,⟨v,t,e,a,b⟩,h=>by
  unfold D8 at h
  cases q:D8 ds with
  | none=>rw [q] at h; cases h
  | some ls' =>
   rw [q] at h
   cases h
   obtain ⟨i1,i2⟩:=Rf b q
   rw [e,i1,a.1]
   exact ⟨rfl,fun x hx=>(List.mem_cons.mp hx).elim (fun z=>z ▸ a.2) (i2 x)⟩
 | .non :: _,_,_,_,h=>by cases h
 | .bl _ :: _,_,_,_,h=>by cases h
 | .int _ :: _,_,_,_,h=>by cases h
 | .lst _ :: _,_,_,_,h=>by cases h
 | .tup _ :: _,_,_,_,h=>by cases h
 | .dct _ :: _,_,_,_,h=>by cases h
 | .set _ :: _,_,_,_,h=>by cases h
 | .ins _ _ :: _,_,_,_,h=>by cases h
 | .con _ :: _,_,_,_,h=>by cases h
 | .scr _ :: _,_,_,_,h=>by cases h
theorem Rg {G:Hp}:∀ {ds:List D} {vs:List V} {bs:List Bool},Reps g G ds vs→Ek ds = some bs→vs = bs.map V.bl
 | [],vs,ls,r,h=>by cases h; rw [show vs = [] from r]; rfl
 | .bl l :: ds,vs,ls,⟨v,t,e,a,b⟩,h=>by
  unfold Ek at h
  cases q:Ek ds with
  | none=>rw [q] at h; cases h
  | some ls' =>
   rw [q] at h
   cases h
   rw [e,Rg b q,show v = .bl l from a]
   rfl
 | .non :: _,_,_,_,h=>by cases h
 | .str _ :: _,_,_,_,h=>by cases h
 | .int _ :: _,_,_,_,h=>by cases h
 | .lst _ :: _,_,_,_,h=>by cases h
 | .tup _ :: _,_,_,_,h=>by cases h
 | .dct _ :: _,_,_,_,h=>by cases h
 | .set _ :: _,_,_,_,h=>by cases h
 | .ins _ _ :: _,_,_,_,h=>by cases h
 | .con _ :: _,_,_,_,h=>by cases h
 | .scr _ :: _,_,_,_,h=>by cases h
theorem Reps.strs {G:Hp}:∀ {ls:List (List Nat)},(∀ l∈ls,OkS l)→Reps g G (ls.map .str) ((ls.map S).map V.str)
 | [],_=>rfl
 | l :: ls,h=>⟨_,_,rfl,⟨rfl,h l List.mem_cons_self⟩,Reps.strs fun x hx=>h x (List.mem_cons_of_mem _ hx)⟩
end
theorem srtN_mem {ls:List (List Nat)} {l:List Nat}:l∈Ax ls↔l∈ls:=by
 have h:S l∈(Ax ls).map S↔S l∈ls.map S:=by rw [V2]; exact Aa6
 have inj:∀ {xs:List (List Nat)},S l∈xs.map S↔l∈xs:=fun {xs}=>by
  rw [List.mem_map]
  constructor
  ·rintro ⟨y,hy,e⟩; rw [← S_inj e]; exact hy
  ·exact fun h=>⟨l,h,rfl⟩
 rw [inj,inj] at h
 exact h
section
variable {g:Gm}
end
def M0:List D→Option Rv
 | [.lst ds]=>(Ek ds).map fun bs=>.val (.bl (bs.all id))
 | _=>none
def O7:List D→Option Rv
 | [.lst ds]=>(Ek ds).map fun bs=>.val (.bl (bs.any id))
 | _=>none
section
variable {g:Gm}
theorem Acs:CallV g (rAll g.K) M0:=fun G H ds vs out Q bs sc r e q=>by
 match ds,e with
 | [],e=>cases e
 | d :: d' :: t,e=>cases d <;> cases e
 | [d],e =>
  obtain ⟨v,ev,a⟩:=r.one
  subst ev
  cases d <;> try cases e
  rename_i xs
  simp only [M0] at e
  cases z:Ek xs with
  | none=>rw [z] at e; cases e
  | some b =>
   rw [z] at e
   cases e
   obtain ⟨p,us,ep,hs,rp⟩:=a.lst bs
   exact ⟨p,b,by rw [ep],by rw [← Rg rp z]; exact hs,q _ G H (Grow.refl bs) rfl⟩
theorem Acu:CallV g (rAny g.K) O7:=fun G H ds vs out Q bs sc r e q=>by
 match ds,e with
 | [],e=>cases e
 | d :: d' :: t,e=>cases d <;> cases e
 | [d],e =>
  obtain ⟨v,ev,a⟩:=r.one
  subst ev
  cases d <;> try cases e
  rename_i xs
  simp only [O7] at e
  cases z:Ek xs with
  | none=>rw [z] at e; cases e
  | some b =>
   rw [z] at e
   cases e
   obtain ⟨p,us,ep,hs,rp⟩:=a.lst bs
   exact ⟨p,b,by rw [ep],by rw [← Rg rp z]; exact hs,q _ G H (Grow.refl bs) rfl⟩
end
section
variable {g:Gm}
end
end Vs
set_option maxRecDepth 100000
set_option maxHeartbeats 2000000
namespace Vs
open PySem PySem.Spec PyProof.Rows L2 Fw SX
def tyD (T:String):D→Bool
 | .str _=>T == "str"
 | .int _=>T == "int"
 | .lst _=>T == "list"
 | _=>false
def MtV (g:Gm) (r:V→List V→Hp→VK→Prop) (f:D→List D→Option Rv):Prop:=∀ (G H:Hp) (d:D) (ds:List D) (x:V) (xs:List V) (out:Rv) (Q:VK),Bs G H→RepH g G H d x→RepsH g G H ds xs→f d ds = some out →
 (∀ v G' H',Grow G H G' H'→RvNew g G' H' H out v→Q v H')→r x xs H Q
def Hi (T:String) (f:D→List D→Option Rv) (O:M Rv) (A:M (List Rv)):M Rv:=O.bind fun o e0=>match Af o e0 with
 | some d0=>if tyD T d0 = true then (A.bind fun rs e=>match Af o e,Bk rs e with
  | some d,some ds=>(match f d ds with | some r=>.ok r e | none=>.no)
  | _,_=>.no) e0 else .no
 | none=>.no
section
variable {g:Gm} {W:WX} {k:Nat} {X:Cx}
theorem Acv {G H:Hp} (bs:Bs G H) {d:D} {x:V} {T:String} (r:RepH g G H d x) (h:tyD T d = true):tyV g.K T x H:=by
 cases d <;> try cases h
 ·rw [r.int]; exact eq_of_beq h
 ·rw [r.str]; exact eq_of_beq h
 ·obtain ⟨p,vs,ep,hs,_⟩:=r.lst bs
  rw [ep]
  exact .inl ⟨eq_of_beq h,vs,hs⟩
theorem Acw {T:String} {r:V→List V→Hp→VK→Prop} {f:D→List D→Option Rv} {O:M Rv} {A:M (List Rv)} {σ:L2.St} {H:Hp} {Q:VK} (hv:MtV g r f) (h:TV g W (Hi T f O A) σ H Q):tBM g.K T r (TV g W O) (TVA g W A) σ H Q:=by
 obtain ⟨G,e,sr,h⟩:=h
 refine ⟨G,e,sr,Pst.mono (Pst.bind h) fun o G1 H1 e1 t1 h1 x ok1=>?_⟩
 cases q:Af o e1 with
 | none=>simp only [q] at h1; exact h1.elim
 | some d0 =>
  simp only [q] at h1
  by_cases ht:tyD T d0 = true
  ·rw [if_pos ht] at h1
   refine ⟨Acv t1.sr.bs (B5 t1.sr ok1 q) ht,G1,e1,t1.sr,Pst.mono (Pst.bind h1) fun rs G2 H2 e2 t2 h2 vs ok2=>?_⟩
   have ok1:=ok1.tr t2
   cases q1:Af o e2 with
   | none=>simp only [q1] at h2; exact h2.elim
   | some d =>
    cases q2:Bk rs e2 with
    | none=>simp only [q1,q2] at h2; exact h2.elim
    | some ds =>
     cases qf:f d ds with
     | none=>simp only [q1,q2,qf] at h2; exact h2.elim
     | some out =>
      simp only [q1,q2,qf] at h2
      exact hv G2 H2 d ds x vs out Q t2.sr.bs (B5 t2.sr ok1 q1) (Qs t2.sr ok2 q2) qf fun z G3 H3 gr nw=>h2 G3 H3 (gr.tr t2.sr) z (nw.ok t2.sr fun p hp=>t1.dom p (t2.dom p hp))
  ·rw [if_neg ht] at h1; exact h1.elim
theorem Acx {T:String} {name:Str} {id:String} {r:V→List V→Hp→VK→Prop} {f:D→List D→Option Rv} {o ex:Expr} {es:List Expr} {O:M Rv} {A:M (List Rv)} {apos cpos:Pos} (pa:PlainAttrs T) (slot:Slot T name id) (hty:typeOf (.builtin id) = pure (.type "method_descriptor"))
  (hm:Cd g W k X→MtR X id r) (hv:MtV g r f) (ho:VE g W k X o O) (ha:VA g W k X (ex :: es) A) (hbase:attributeBase o name X.env (eval o X.env) = eval o X.env:=by rfl)
  (hfew:((backTo cpos (starEach (ex :: es) X.env)).all (fun x=>!x.1) && (backToKw cpos (keywordEach [] X.env)).all (fun x=>x.1.isSome)
   && decide ((ex :: es).length + ([]:List Keyword).length + (if ([]:List Keyword).isEmpty then 0 else 1) < 30)) = true:=by rfl)
  (hline:(apos.endLine == cpos.line) = true:=by rfl) (hs:starEach (ex :: es) X.env = (false,eval ex X.env) :: starEach es X.env:=by rfl) (hplain:(backTo cpos (starEach es X.env)).any (·.1) = false:=by rfl) :
  VE g W k X (.Call (.Attribute o name apos) (ex :: es) [] cpos) (Hi T f O A) :=
 ⟨fun c=>PE.imp (Abb g.K pa slot hty (hm c) (ho.run c) (ha.run c) c.K hbase hfew hline hs hplain) fun _ _ _ q=>Acw hv q⟩
end
def El:D→List D→Option Rv
 | .str a,[.lst ds]=>(match D8 ds with | some ls=>if (ls.map (·.length)).sum + ls.length * a.length≤16777216 then some (.val (.str (TL.joinL a ls))) else none | none=>none)
 | .str a,[.tup ds]=>(match D8 ds with | some ls=>if (ls.map (·.length)).sum + ls.length * a.length≤16777216 then some (.val (.str (TL.joinL a ls))) else none | none=>none)
 | _,_=>none
theorem V4 {a:List Nat} (ha:OkS a):∀ {ls:List (List Nat)},(∀ l∈ls,OkS l)→OkS (TL.joinL a ls)
 | [],_=>fun c hc=>nomatch hc
 | [p],h=>h p List.mem_cons_self
 | p :: q :: r,h=>(h p List.mem_cons_self).app (ha.app (V4 ha fun l hl=>h l (List.mem_cons_of_mem _ hl)))
section
variable {g:Gm}
theorem Acy:MtV g (U7 g.K) El:=fun G H d ds x xs out Q bs a b e q=>by
 cases d <;> try cases e
 rename_i sep
 have fin:∀ (ls:List (List Nat)) (p:Addr) (us:List V),xs = [.ref p]→(SqL g.K H p us∨SqT g.K H p us)→us = (ls.map S).map V.str→(∀ l∈ls,OkS l)→(if (ls.map (·.length)).sum + ls.length * sep.length≤16777216 then some (Rv.val (.str (TL.joinL sep ls))) else none) = some out→U7 g.K x xs H Q:=fun ls p us ex hs eu ok e=>by
  by_cases c:(ls.map (·.length)).sum + ls.length * sep.length≤16777216
  ·rw [if_pos c] at e
   cases e
   refine ⟨S sep,p,ls.map S,a.str,ex,?_,?_,?_⟩
   ·rw [← eu]; exact hs
   ·rw [List.map_map,List.length_map,S_len]
    have:(ls.map ((fun s:Str=>s.length) ∘ S)) = ls.map (·.length):=List.map_congr_left fun l _=>S_len l
    rw [this]
    exact c
   ·rw [join_S]
    exact q _ G H (Grow.refl bs) ⟨rfl,V4 a.okS ok⟩
  ·rw [if_neg c] at e; cases e
 match ds,e with
 | [],e=>cases e
 | d :: d' :: t,e=>cases d <;> cases e
 | [d],e =>
  obtain ⟨v,ev,bb⟩:=b.one
  cases d <;> try cases e
  ·rename_i zs
   obtain ⟨p,us,ep,hs,rp⟩:=bb.lst bs
   simp only [El] at e
   cases z:D8 zs with
   | none=>rw [z] at e; cases e
   | some ls =>
    rw [z] at e
    obtain ⟨e1,e2⟩:=Rf rp z
    exact fin ls p us (by rw [ev,ep]) (.inl hs) e1 e2 e
  ·rename_i zs
   obtain ⟨p,us,ep,hs,rp⟩:=bb.tup bs
   simp only [El] at e
   cases z:D8 zs with
   | none=>rw [z] at e; cases e
   | some ls =>
    rw [z] at e
    obtain ⟨e1,e2⟩:=Rf rp z
    exact fin ls p us (by rw [ev,ep]) (.inr hs) e1 e2 e
end
section
variable {g:Gm} {G H:Hp} {σ:L2.St} {e:Ve} {i:Nat} {d d':D} {p:Addr} {o':HO}
def Bt (s:Sl) (d:D):Sl:=match s with
 | .ow _=>.ow d
 | .bo _=>.bo d
 | s=>s
theorem SR.mut {s:Sl} (sr:SR g G H σ e) (hi:e[i]? = some s) (ho:A3 s = some d) (hp:σ[i]? = some (some (.ref p))) (ow:Own g G H p d) (hn:Own g G (upd H p o') p d'):Tr g σ G H e G (upd H p o') (e.set i (Bt s d')):=by
 obtain ⟨p1,hp1,n1,_,rt⟩:=sr.own hi ho
 rw [hp] at hp1
 cases hp1
 obtain ⟨ob,hob,pl,_⟩:=ow.there
 have hlt:=Bj hi
 have ve:VeLe e (e.set i (Bt s d')):=⟨by rw [List.length_set],fun j t ht=>by
  rw [getElem?_set']
  by_cases hj:i = j
  ·subst hj
   rw [if_pos ⟨rfl,hlt⟩]
   rw [hi] at ht
   cases ht
   refine ⟨_,rfl,?_⟩
   cases s with
   | ow _=>exact ⟨d',.inl rfl⟩
   | bo _=>exact ⟨d',.inl rfl⟩
   | _=>cases ho
  ·rw [if_neg (fun z=>hj z.1)]
   exact ⟨t,ht,SlLe.refl t⟩⟩
 have ne:∀ j q,Rt σ e j q→j≠i→q≠p:=fun j q r hj z=>hj (sr.inj j i p (z ▸ r) rt)
 refine ⟨⟨sr.bs.put n1,Oi sr.tabs fun o h=>by rw [hob] at h; cases h; exact pl,?_,by rw [List.length_set]; exact sr.len,fun j=>?_,fun j l q a b=>sr.inj j l q (ve.rt a) (ve.rt b)⟩,Le.refl G,fun a o h n _=>by rw [upd_ne (fun z=>n i (by rw [z]; exact rt))]; exact h,fun a h=>?_,fun a h _ _=>h,ve⟩
 ·exact sr.scr.keep fun o u h=>by rw [upd_ne (fun z=>by rw [z,hob] at h; cases h; exact pl)]; exact h
 ·rw [getElem?_set']
  by_cases hj:i = j
  ·subst hj
   rw [if_pos ⟨rfl,hlt⟩]
   cases s with
   | ow _=>exact ⟨p,hp,n1,hn⟩
   | bo _=>exact ⟨p,hp,n1,hn⟩
   | _=>cases ho
  ·rw [if_neg (fun z=>hj z.1)]
   have sl:=sr.slot j
   cases q:e[j]? with
   | none=>trivial
   | some t =>
    rw [q] at sl
    cases t with
    | un=>trivial
    | sh _=>exact sl
    | bf _=>exact sl
    | lo _ =>
     obtain ⟨p',a,b,c⟩:=sl
     obtain ⟨ob',u',ho',_⟩:=c.there
     exact ⟨p',a,b,c.mono (Le.refl G) (upd_ne fun z=>by rw [z,hob] at ho'; cases ho'; exact pl)⟩
    | ow _ =>
     obtain ⟨p',a,b,c⟩:=sl
     exact ⟨p',a,b,c.mono (Le.refl G) (upd_ne (ne j p' ⟨by rw [q]; trivial,a⟩ fun z=>hj z.symm))⟩
    | bo _ =>
     obtain ⟨p',a,b,c⟩:=sl
     exact ⟨p',a,b,c.mono (Le.refl G) (upd_ne (ne j p' ⟨by rw [q]; trivial,a⟩ fun z=>hj z.symm))⟩
 ·by_cases z:a = p
  ·rw [z,upd_same] at h; cases h
  ·rw [upd_ne z] at h; exact h
end
def tyM (T:String):D→Bool
 | .lst _=>T == "list"
 | .dct _=>T == "dict"
 | _=>false
def fMut (T:String) (f:D→List D→Option (D × D)) (i:Nat) (A:M (List Rv)):M Rv:=fun e0=>match (e0[i]?).bind A3 with
 | some d0=>if tyM T d0 = true then (A.bind fun rs e=>match B6 rs,e[i]? with
  | some ds,some s=>(match A3 s with
   | some d=>(match f d ds with
    | some (d',dr)=>.ok (.val dr) (e.set i (Bt s d'))
    | none=>.no)
   | none=>.no)
  | _,_=>.no) e0 else .no
 | none=>.no
section
variable {g:Gm} {W:WX} {k:Nat} {X:Cx}
end
section
variable {g:Gm}
end
def K8:D→D→D→Option D
 | .lst xs,.int i,y=>(match ixN xs.length i with | some j=>some (.lst (xs.set j y)) | none=>none)
 | _,_,_=>none
def Ca (kvs:List (List Nat × D)) (k:List Nat) (v:D):List (List Nat × D):=if kvs.any (fun kv=>decide (kv.1 = k)) = true then kvs.map fun kv=>if kv.1 = k then (kv.1,v) else kv else kvs ++ [(k,v)]
def Em:D→D→D→Option D
 | .dct kvs,.str k,y=>if kvs.length < sizeLine then some (.dct (Ca kvs k y)) else none
 | _,_,_=>none
def Hj (f:D→D→D→Option D) (i:Nat) (Ix V:M Rv):M Ctl:=(Ad V).bind fun v=>fun e0=>match (e0[i]?).bind A3 with
 | some _=>((Ad Ix).bind fun ix e=>match v,ix,e[i]? with
  | .val v,.val ix,some s=>(match A3 s with
   | some d=>(match f d ix v with
    | some d'=>.ok .nx (e.set i (Bt s d'))
    | none=>.no)
   | none=>.no)
  | _,_,_=>.no) e0
 | none=>.no
def SetV (g:Gm) (t:V→V→V→Hp→(Hp→Prop)→Prop) (f:D→D→D→Option D):Prop:=∀ (G H:Hp) (p:Addr) (d di dv:D) (vi vv:V) (d':D) (Q:Hp→Prop),Own g G H p d→Rep g G di vi→Rep g G dv vv→f d di dv = some d' →
 (∀ o',Own g G (upd H p o') p d'→Q (upd H p o'))→t (.ref p) vi vv H Q
section
variable {g:Gm} {W:WX} {k:Nat} {X:Cx}
theorem Acz:SetV g rSetL K8:=fun G H p d di dv vi vv d' Q ow ri rv e q=>by
 cases d <;> cases di <;> try cases e
 rename_i xs i
 simp only [K8] at e
 cases z:ixN xs.length i with
 | none=>rw [z] at e; cases e
 | some j =>
  rw [z] at e
  cases e
  obtain ⟨us,hp,rp⟩:=ow
  exact ⟨p,us,i,j,rfl,ri,hp,by rw [rp.len]; exact z,q _ ⟨_,upd_same,rp.set j rv⟩⟩
theorem RepK.anyK {G:Hp}:∀ {kvs:List (List Nat × D)} {vs:List (Key × V)} (k:List Nat),RepK g G kvs vs→(vs.any fun kv=>decide (kv.1 = (.inr (S k):Key))) = kvs.any fun kv=>decide (kv.1 = k)
 | [],vs,k,r=>by rw [show vs = [] from r]; rfl
 | (k0,d0) :: kvs,vs,k,⟨_,v,t,e,a,b⟩=>by
  subst e
  rw [List.any_cons,List.any_cons,RepK.anyK k b,Vt]
theorem RepK.append {G:Hp}:∀ {kvs kvs':List (List Nat × D)} {vs vs':List (Key × V)},RepK g G kvs vs→RepK g G kvs' vs'→RepK g G (kvs ++ kvs') (vs ++ vs')
 | [],_,_,_,h,q=>by rw [show _ = [] from h]; exact q
 | (k,d) :: ds,_,_,_,⟨ok,v,r,e,a,b⟩,q=>⟨ok,v,r ++ _,by rw [e]; rfl,a,RepK.append b q⟩
theorem RepK.put {G:Hp} {kvs:List (List Nat × D)} {vs:List (Key × V)} (k:List Nat) {d:D} {v:V} (r:RepK g G kvs vs) (ok:OkS k) (h:Rep g G d v):RepK g G (Ca kvs k d) (putK vs (.inr (S k)) v):=by
 unfold Ca putK
 rw [r.anyK k]
 split
 ·exact r.map k h
 ·exact r.append ⟨ok,v,[],rfl,h,rfl⟩
def Ac0:V→V→V→Hp→(Hp→Prop)→Prop:=fun x y v H Q=>∃ a H4,x = .ref a∧DPut H a y v H4∧Q H4
theorem V5:SetV g Ac0 Em:=fun G H p d di dv vi vv d' Q ow ri rv e q=>by
 cases d <;> cases di <;> try cases e
 rename_i kvs ks
 simp only [Em] at e
 by_cases c:kvs.length < sizeLine
 ·rw [if_pos c] at e
  cases e
  obtain ⟨us,hp,rp⟩:=ow
  rw [ri.1]
  exact ⟨p,_,rfl,DPut.k (k:=.inr (S ks)) hp (by rw [rp.len]; exact c),q _ ⟨_,upd_same,rp.put ks ri.2 rv⟩⟩
 ·rw [if_neg c] at e; cases e
theorem V6 {t:V→V→V→Hp→(Hp→Prop)→Prop} {f:D→D→D→Option D} {i:Nat} {Ix Vv:M Rv} {σ:L2.St} {H:Hp} {E:Ends} (hv:SetV g t f) (h:TVS g W (Hj f i Ix Vv) E σ H) :
  TV g W (Ad Vv) σ H fun v H1=>∃ p,σ[i]? = some (some (.ref p))∧TV g W (Ad Ix) σ H1 fun ix H2=>t (.ref p) ix v H2 fun H3=>E.nx σ H3:=by
 obtain ⟨G,e,sr,h⟩:=h
 refine ⟨G,e,sr,Pst.mono (PstS.bindE h) fun rv G1 H1 e1 t1 h1 v ok1=>?_⟩
 cases q0:e1[i]? with
 | none=>simp only [q0,Option.bind_none] at h1; exact h1.elim
 | some s0 =>
  cases q1:A3 s0 with
  | none=>simp only [q0,Option.bind_some,q1] at h1; exact h1.elim
  | some d0 =>
   simp only [q0,Option.bind_some,q1] at h1
   obtain ⟨p,hp,n,ow,rt⟩:=t1.sr.own q0 q1
   refine ⟨p,hp,G1,e1,t1.sr,Pst.mono (PstS.bindE h1) fun rix G2 H2 e2 t2 h2 ix ok2=>?_⟩
   have ok1:=ok1.tr t2
   cases rv with
   | val dv =>
    cases rix with
    | val dix =>
     cases q3:e2[i]? with
     | none=>simp only [q3] at h2; exact h2.elim
     | some s =>
      simp only [q3] at h2
      cases q4:A3 s with
      | none=>simp only [q4] at h2; exact h2.elim
      | some d =>
       simp only [q4] at h2
       cases qf:f d dix dv with
       | none=>simp only [qf] at h2; exact h2.elim
       | some d' =>
        simp only [qf] at h2
        obtain ⟨p',hp',n',ow',_⟩:=t2.sr.own q3 q4
        rw [hp] at hp'
        cases hp'
        refine hv G2 H2 p d dix dv ix v d' _ ow' ok2 ok1 qf fun o' on=>?_
        exact h2 σ G2 _ (t2.sr.mut q3 q4 hp ow' on).st
    | _=>exact h2.elim
   | _=>exact h2.elim
theorem V7 {x:Str} {i:Nat} {ix val:Expr} {Ix Vv:M Rv} {p pos pos':Pos} (hN:X.N[i]? = some x) (hvis:Vis X.env.scope x) (hi:VE g W k X ix Ix) (hv:VE g W k X val Vv)
  (hd:(x == ("__debug__" : Str)) = false:=by decide) (hcd:(x == ("__classdict__" : Str)) = false:=by decide)
  (hs:swapsWithSole [.Subscript (.Name x p) ix pos'] val pos.line X.env = pure false:=by rfl) (hw:swappedStores [.Subscript (.Name x p) ix pos'] val X.env = pure none:=by rfl) (h1:(assignEach [.Subscript (.Name x p) ix pos'] X.env).map (·.2) = [assign (.Subscript (.Name x p) ix pos') X.env]:=by rfl)
  (ha:∀ v,assign (.Subscript (.Name x p) ix pos') X.env v = (do let ov ← holding [v] (eval (.Name x p) X.env); let iv ← holding [v,ov] (eval ix X.env); standAt pos'; holding [v,ov,iv] (setItem ov iv v); release [v,ov,iv] []):=by intro _; rfl) :
  VS g W k X (.Assign [.Subscript (.Name x p) ix pos'] val pos) (Hj K8 i Ix Vv) :=
 ⟨fun c=>PS.imp (ps_asg ((Ar hv).run c) (pg_sub (pe_var hN hvis hd hcd) ((Ar hi).run c) set_list ha) hs hw h1) fun E σ H q=>by
  obtain ⟨G,e,sr,h⟩:=V6 Acz q
  refine ⟨G,e,sr,Pst.mono h fun r G1 H1 e1 t1 h1 v ok=>?_⟩
  obtain ⟨p,hp,rest⟩:=h1 v ok
  exact ⟨.ref p,hp,rest⟩⟩
theorem Ac1 {x:Str} {i:Nat} {ix val:Expr} {Ix Vv:M Rv} {p pos pos':Pos} (hN:X.N[i]? = some x) (hvis:Vis X.env.scope x) (hi:VE g W k X ix Ix) (hv:VE g W k X val Vv)
  (hd:(x == ("__debug__" : Str)) = false:=by decide) (hcd:(x == ("__classdict__" : Str)) = false:=by decide) (hs:swapsWith val (some (.Subscript (.Name x p) ix pos')) pos.line X.env = pure false:=by rfl) :
  VS g W k X (.Assign [.Subscript (.Name x p) ix pos'] val pos) (Hj Em i Ix Vv) :=
 ⟨fun c=>PS.imp (ps_dput c.hu (pe_var hN hvis hd hcd) ((Ar hi).run c) ((Ar hv).run c) hs) fun E σ H q=>by
  obtain ⟨G,e,sr,h⟩:=V6 V5 q
  refine ⟨G,e,sr,Pst.mono h fun r G1 H1 e1 t1 h1 v ok=>?_⟩
  obtain ⟨p,hp,rest⟩:=h1 v ok
  exact ⟨.ref p,hp,rest⟩⟩
end
end Vs
set_option maxRecDepth 100000
set_option maxHeartbeats 2000000
namespace Vs
open PySem PySem.Spec PyProof.Rows L2 Fw SX
section
variable {X:Cx} {k:Nat} {f C:Addr} {ks:List Str} {sp:Sp} {E:L2.St→XK}
theorem Ac2 {pins:List (Addr × Obj)} {σ:L2.St} {H:Hp} {s:Shared} {Q:VK} {us ws:List Value} {vs zs:List V} (mk:Mk X.K C f) (Fk:FnK X.prog X.w X.K X.mg X.base (L2.CX X.prog X.w) k f ks sp) (rm:Rm (k + 1) X.A)
  (px:PassesAt (L2.CX X.prog X.w) X σ (E σ)) (I:Inv X pins σ H s) (rv:Vals vs us) (rz:Vals zs ws) (hl:ws.length = ks.length)
  (want:∀ x dx,H x = none→H dx = none→dx≠x→sp (.ref x :: (vs ++ zs)) (upd (upd H dx (.own x)) x (.ins C dx [])) (fun v H2=>v = .non∧Q (.ref x) H2) (E σ)) :
  wpAny (model X.prog X.w) X.A (call (.ref C) us (ks.zip ws)) (EP X pins σ Q) X.xe s:=by
 have w1:=want (s.heap.objs.size + 1) s.heap.objs.size (I.hok.fresh (Nat.le_succ _)) (I.hok.fresh (Nat.le_refl _)) (Nat.ne_of_lt (Nat.lt_succ_self _))
 have J:=Inv.made (C:=C) I
 have vals:Vals (V.ref (s.heap.objs.size + 1) :: vs) (Value.ref (s.heap.objs.size + 1) :: us):=.cons rfl rv
 have go:=Fk _ X.stack _ _ (Value.ref (s.heap.objs.size + 1) :: us) ws _ zs _ (E σ) (rm.make C us (ks.zip ws)) (J.env0.make C us (ks.zip ws)) vals rz hl w1
 refine wpAny_call (make_map (f:=f) I.kIn mk.makes mk.init (beq_iff_eq.mp mk.fn) (codeAny_mono go fun res s' z=>?_))
 match res,z with
 | .error e,z=>exact px pins _ _ e s' J z
 | .ok (.ret u),z =>
  obtain ⟨v,H',J3,rv3,ev,q3⟩:=J.after z
  subst ev
  exact ⟨rv3,⟨V.ref (s.heap.objs.size + 1),H',J3,rfl,q3⟩⟩
 | .ok .next,z=>exact False.elim z
 | .ok .brk,z=>exact False.elim z
 | .ok .cont,z=>exact False.elim z
def Ac3 (C:Addr) (sp:Sp) (E:L2.St→XK) (t tz:TA):TE:=fun σ H Q=>t σ H fun vs H1=>tz σ H1 fun zs H2=>∀ x dx,H2 x = none→H2 dx = none→dx≠x →
 sp (.ref x :: (vs ++ zs)) (upd (upd H2 dx (.own x)) x (.ins C dx [])) (fun v H3=>v = .non∧Q (.ref x) H3) (E σ)
theorem V8 {x:Str} {p pos:Pos} {ex:Expr} {es:List Expr} {t:TA} (mk:Mk X.K C f) (Fk:FnK X.prog X.w X.K X.mg X.base (L2.CX X.prog X.w) k f [] sp) (rm:Rm (k + 1) X.A) (hg:Gl X x) (hm:X.mg x = some (.ref C)) (px:∀ σ,PassesAt (L2.CX X.prog X.w) X σ (E σ))
  (ha:PA X (ex :: es) t) (hdb:(x == ("__debug__" : Str)) = false:=by decide) (he:starEach (ex :: es) X.env = (false,eval ex X.env) :: starEach es X.env:=by rfl) (hpl:(backTo pos (starEach es X.env)).any (·.1) = false:=by rfl) :
  PE X (.Call (.Name x p) (ex :: es) [] pos) (Ac3 C sp E t tNil):=⟨fun pins s σ H Q I h =>
 wpAny_Call_Name_kw (ld_glob I hg hm (PySem.W.callWith_K (h₀:=X.base) I.ok.mod.kin mk.kp (thn (ha.run pos pins s σ H _ I h) fun us s1 ⟨vs,H1,J,r,q⟩=>⟨J.kIn,Ac2 (ks:=[]) (ws:=[]) (zs:=[]) mk Fk rm (px σ) J r .nil rfl q⟩) he hpl) hdb)⟩
def O8 (T:Addr→Sp→Prop) (m:Str) (E:L2.St→XK) (ta:TE) (t:TA):TE:=fun σ H Q=>ta σ H fun x H1=>∃ a C dx fs sp,x = .ref a∧H1 a = some (.ins C dx fs)∧fs.lookup m = none∧T C sp∧t σ H1 fun vs H2=>sp (x :: vs) H2 Q (E σ)
def V9 (X:Cx) (m:Str) (k:Nat) (C:Addr) (sp:Sp):Prop:=∃ f,Cls X.K C∧Meth X.K C m f∧FnK X.prog X.w X.K X.mg X.base (L2.CX X.prog X.w) k f [] sp
theorem Ac4 {pl:Sem Bool} {m:Str} {o ex:Expr} {es:List Expr} {apos pos:Pos} {ta:TE} {t:TA} {T:Addr→Sp→Prop} (he:PE X o ta) (tab:∀ C sp,T C sp→V9 X m k C sp) (rm:Rm k X.A) (px:∀ σ,PassesAt (L2.CX X.prog X.w) X σ (E σ)) (ha:PA X (ex :: es) t)
  (hst:starEach (ex :: es) X.env = (false,eval ex X.env) :: starEach es X.env:=by rfl) (hpl:(backTo pos (starEach es X.env)).any (·.1) = false:=by rfl)
  (ht:eval (.Call (.Attribute o m apos) (ex :: es) [] pos) X.env = (do
   let ov ← eval o X.env
   standAt apos.atName
   let (f,first) ← holding [ov] (getMethod ov m pl)
   callWith pos f first (backTo pos (starEach (ex :: es) X.env)) (backToKw pos (keywordEach [] X.env))):=by rfl) :
  PE X (.Call (.Attribute o m apos) (ex :: es) [] pos) (O8 T m E ta t):=⟨fun pins s σ H Q I h=>by
 refine PySem.W.methodCall_KW (pl:=pl) (thn (he.run pins s σ H _ I h) fun u s1 ⟨x,H1,J1,rx,a,C,dx,fs,sp,ex',ea,l,hT,q⟩=>?_) ht
 obtain ⟨f,c,hm,Fk⟩:=tab C sp hT
 subst ex'
 obtain rfl:u = Value.ref a:=rx
 exact getmeth_ok J1 ea c hm l (PySem.W.callWith_K (first:=[.ref a]) (h₀:=X.base) I.ok.mod.kin hm.kp (thn (ha.run pos pins s1 σ H1 _ J1 q) fun us s2 ⟨vs,H2,J2,r,q2⟩=>⟨J2.kIn,wpAny_call (Jb (us:=.ref a :: us) (vs:=.ref a :: vs) Fk rm (px σ) J2 (.cons rfl r) .nil rfl (by rw [List.append_nil]; exact q2))⟩) hst hpl)⟩
theorem Ac5 {pl:Sem Bool} {m:Str} {o:Expr} {apos pos:Pos} {ta:TE} {T:Addr→Sp→Prop} (he:PE X o ta) (tab:∀ C sp,T C sp→V9 X m k C sp) (rm:Rm k X.A) (px:∀ σ,PassesAt (L2.CX X.prog X.w) X σ (E σ))
  (ht:eval (.Call (.Attribute o m apos) [] [] pos) X.env = (do
   let ov ← eval o X.env
   standAt apos.atName
   let (f,first) ← holding [ov] (getMethod ov m pl)
   callWith pos f first (backTo pos (starEach [] X.env)) (backToKw pos (keywordEach [] X.env))):=by rfl) :
  PE X (.Call (.Attribute o m apos) [] [] pos) (O8 T m E ta tNil):=⟨fun pins s σ H Q I h=>by
 refine PySem.W.methodCall_KW (pl:=pl) (thn (he.run pins s σ H _ I h) fun u s1 ⟨x,H1,J1,rx,a,C,dx,fs,sp,ex',ea,l,hT,q⟩=>?_) ht
 obtain ⟨f,c,hm,Fk⟩:=tab C sp hT
 subst ex'
 obtain rfl:u = Value.ref a:=rx
 exact getmeth_ok J1 ea c hm l (PySem.W.callWith_K0 (first:=[.ref a]) J1.kIn hm.kp (wpAny_call (Jb (us:=[.ref a]) (vs:=[.ref a]) Fk rm (px σ) J1 (.cons rfl .nil) .nil rfl q)))⟩
end
def Bu (f:Str) (A:M Rv):M Rv:=A.bind fun r e=>match Af r e with
 | some (.ins _ fs)=>(match fs.lookup f with | some d=>.ok (.val d) e | none=>.no)
 | _=>.no
def Bp (f:Str) (d:D):List (Str × D)→List (Str × D)
 | []=>[(f,d)]
 | (q,x) :: r=>if q = f then (q,d) :: r else (q,x) :: Bp f d r
def Dj (cs:List Str) (f:Str) (i:Nat) (V:M Rv):M Ctl:=(Ad V).bind fun v e=>match v,e[i]? with
 | .val v,some s=>(match A3 s with
  | some (.ins c fs)=>if cs.contains c = true∧fs.length < 1000 then .ok .nx (e.set i (Bt s (.ins c (Bp f v fs)))) else .no
  | _=>.no)
 | _,_=>.no
section
variable {g:Gm} {W:WX} {k:Nat} {X:Cx}
theorem RepF.look {G:Hp} {f:Str}:∀ {fs:List (Str × D)} {vs:List (Str × V)} {d:D},RepF g G fs vs→fs.lookup f = some d→∃ v,vs.lookup f = some v∧Rep g G d v
 | [],vs,d,r,h=>by cases h
 | (q,x) :: fs,vs,d,⟨v,t,e,a,b⟩,h=>by
  subst e
  rw [List.lookup_cons] at h ⊢
  cases z:f == q with
  | true=>rw [z] at h; cases h; exact ⟨v,rfl,a⟩
  | false=>rw [z] at h; exact RepF.look b h
theorem RepF.lookN {G:Hp} {f:Str}:∀ {fs:List (Str × D)} {vs:List (Str × V)},RepF g G fs vs→fs.lookup f = none→vs.lookup f = none
 | [],vs,r,h=>by rw [show vs = [] from r]; rfl
 | (q,x) :: fs,vs,⟨v,t,e,a,b⟩,h=>by
  subst e
  rw [List.lookup_cons] at h ⊢
  cases z:f == q with
  | true=>rw [z] at h; cases h
  | false=>rw [z] at h; exact RepF.lookN b h
theorem RepF.put {G:Hp} {f:Str} {d:D} {u:V} (h:Rep g G d u):∀ {fs:List (Str × D)} {vs:List (Str × V)},RepF g G fs vs→RepF g G (Bp f d fs) (putF f u vs)
 | [],vs,r=>by rw [show vs = [] from r]; exact ⟨u,[],rfl,h,rfl⟩
 | (q,x) :: fs,vs,⟨v,t,e,a,b⟩=>by
  subst e
  unfold Bp putF
  by_cases z:q = f
  ·subst z
   simp only [if_pos]
   exact ⟨u,t,rfl,h,b⟩
  ·simp only [if_neg z]
   exact ⟨v,_,rfl,a,RepF.put h b⟩
theorem M3 {f:Str} {d:D}:∀ {fs:List (Str × D)} {q:Str × D},q∈Bp f d fs→q.1 = f∨∃ x,(q.1,x)∈fs
 | [],q,h=>by rw [List.mem_singleton.mp h]; exact .inl rfl
 | (q0,x) :: fs,q,h=>by
  unfold Bp at h
  split at h
  ·rcases List.mem_cons.mp h with z | z
   ·rw [z]; exact .inr ⟨x,List.mem_cons_self⟩
   ·exact .inr ⟨q.2,List.mem_cons_of_mem _ z⟩
  ·rcases List.mem_cons.mp h with z | z
   ·rw [z]; exact .inr ⟨x,List.mem_cons_self⟩
   ·rcases M3 z with y | ⟨y,hy⟩
    ·exact .inl y
    ·exact .inr ⟨y,List.mem_cons_of_mem _ hy⟩
theorem M4 {α:Type} {f:Str} {d:α}:∀ {fs:List (Str × α)},fs.lookup f = some d→∃ q∈fs,q.1 = f
 | [],h=>by cases h
 | (q,x) :: fs,h=>by
  rw [List.lookup_cons] at h
  cases z:f == q with
  | true=>exact ⟨_,List.mem_cons_self,(eq_of_beq z).symm⟩
  | false =>
   rw [z] at h
   obtain ⟨y,hy,ey⟩:=M4 h
   exact ⟨y,List.mem_cons_of_mem _ hy,ey⟩
theorem B1 {ex:Expr} {f:Str} {A:M Rv} {pos:Pos} (h:VE g W k X ex A) (hb:attributeBase ex f X.env (eval ex X.env) = eval ex X.env:=by rfl):VE g W k X (.Attribute ex f pos) (Bu f A) :=
 ⟨fun c=>PE.imp (fldK g.K (h.run c) hb c.K) fun σ H Q ⟨G,e,sr,q⟩=>⟨G,e,sr,Pst.mono (Pst.bind q) fun r G1 H1 e1 t1 h1 v ok=>by
  cases q1:Af r e1 with
  | none=>simp only [q1] at h1; exact h1.elim
  | some d =>
   cases d with
   | ins c fs =>
    simp only [q1] at h1
    cases q2:fs.lookup f with
    | none=>simp only [q2] at h1; exact h1.elim
    | some d =>
     simp only [q2] at h1
     obtain ⟨a,dx,vs,ev,ha,rf,io⟩:=(B5 t1.sr ok q1).ins t1.sr.bs
     obtain ⟨u,hu,ru⟩:=rf.look q2
     obtain ⟨y,hy,ey⟩:=M4 q2
     exact ⟨a,_,dx,vs,u,ev,ha,io.1,ey ▸ io.2 y hy,hu,h1 G1 H1 (Tr.refl t1.sr) u ru⟩
   | _=>simp only [q1] at h1; exact h1.elim⟩⟩
theorem F5 {x f:Str} {i:Nat} {val:Expr} {Vv:M Rv} {cs:List Str} {p pos pos':Pos} (hno:∀ c∈cs,NoAttr g.K (g.ca c) f) (hN:X.N[i]? = some x) (hvis:Vis X.env.scope x) (hv:VE g W k X val Vv)
  (hd:(x == ("__debug__" : Str)) = false:=by decide) (hcd:(x == ("__classdict__" : Str)) = false:=by decide) (hs:swapsWith val (some (.Attribute (.Name x p) f pos')) pos.line X.env = pure false:=by rfl) :
  VS g W k X (.Assign [.Attribute (.Name x p) f pos'] val pos) (Dj cs f i Vv) :=
 ⟨fun c=>PS.imp (Qp g.K (pe_var hN hvis hd hcd) ((Ar hv).run c) hs c.K) fun D σ H ⟨G,e,sr,q⟩=>⟨G,e,sr,Pst.mono (PstS.bindE q) fun r G1 H1 e1 t1 h1 v ok=>by
  cases r with
  | val dv =>
   cases q3:e1[i]? with
   | none=>simp only [q3] at h1; exact h1.elim
   | some s =>
    simp only [q3] at h1
    cases q4:A3 s with
    | none=>simp only [q4] at h1; exact h1.elim
    | some d =>
     cases d with
     | ins c fs =>
      simp only [q4] at h1
      by_cases hc:cs.contains c = true∧fs.length < 1000
      ·rw [if_pos hc] at h1
       obtain ⟨p',hp,n,ow,_⟩:=t1.sr.own q3 q4
       obtain ⟨dx,vs,ha,rf,io⟩:=id ow
       have hn:=hno c (List.contains_iff_mem.mp hc.1)
       refine ⟨.ref p',hp,p',_,dx,vs,rfl,ha,io.1,hn,by rw [rf.len]; exact hc.2,?_⟩
       refine h1 σ G1 _ (t1.sr.mut (d':=.ins c (Bp f dv fs)) (o':=.ins (g.ca c) dx (putF f v vs)) q3 q4 hp ow ⟨dx,_,upd_same,rf.put ok,io.1,fun y hy=>?_⟩).st
       rcases M3 hy with z | ⟨z,hz⟩
       ·rw [z]; exact hn
       ·exact io.2 (y.1,z) hz
      ·rw [if_neg hc] at h1; exact h1.elim
     | _=>simp only [q4] at h1; exact h1.elim
  | _=>exact h1.elim⟩⟩
end
def O9 (rs:List Rv) (e:Ve):Res Rv→Res Rv
 | .ok (.val .non) (.bo d :: as')=>.ok (.fresh d) (Bb rs as' e)
 | .ok (.val .non) (.bf d :: as')=>.ok (.val d) (Bb rs as' e)
 | .er x (_ :: as')=>.er x (Bb rs as' e)
 | _=>.no
def E5 (c:Str) (f:List Sl→Res Rv) (rs:List Rv):M Rv:=fun e=>if Bo rs = true then (match Ba rs e with
 | some as=>O9 rs e (f (.bo (.ins c []) :: as))
 | none=>.no) else .no
def Pa (c:Str) (f:List Sl→Res Rv) (A:M (List Rv)):M Rv:=A.bind (E5 c f)
def Ac6 (c:Str) (f:List Sl→Res Rv) (A B:M (List Rv)):M Rv:=A.bind fun rs=>B.bind fun zs=>E5 c f (rs ++ zs)
section
variable {g:Gm} {W:WX} {k:Nat} {X:Cx}
theorem Ac7 {j:Nat} {r:Rv} {rs:List Rv} {a:Sl} {as:List Sl} (h:∀ i,r≠.slot i):Cn j (r :: rs) (a :: as) = Cn j rs as:=by
 cases r with
 | slot i=>exact absurd rfl (h i)
 | val d=>rfl
 | fresh d=>rfl
theorem Rh {r:Rv} {rs:List Rv} {a:Sl} {as:List Sl} (h:∀ i,r≠.slot i):∀ (e:Ve) (j:Nat),Cu (r :: rs) (a :: as) j e = Cu rs as j e
 | [],_=>rfl
 | s :: t,j=>by rw [Cu,Cu,Ac7 h,Rh h t (j + 1)]
theorem Ac8 {c:Str} {f:List Sl→Res Rv} {rs:List Rv} {vs:List V} {σ:L2.St} {G H G1 H1:Hp} {e e1:Ve} {Q:VK} (hc:Cls g.K (g.ca c)) (sr:SR g G H σ e) (t1:Tr g σ G H e G1 H1 e1) (rv:RvsOk g G1 H1 σ e1 H rs vs)
  (h1:Pst g W σ G H e (fun r G' H' e'=>∀ v,RvOk g G' H' σ e' H r v→Q v H') (E5 c f rs e1)):∀ x dx,H1 x = none→H1 dx = none→dx≠x →
   spR g f (.ref x :: vs) (upd (upd H1 dx (.own x)) x (.ins (g.ca c) dx [])) (fun v H2=>v = .non∧Q (.ref x) H2) (fun cls d H'=>W cls d σ H'):=by
 intro x dx nx ndx ne
 have g1:=Grow.lay (o:=HO.own x) t1.sr.bs ndx
 have nx2:upd H1 dx (.own x) x = none:=by rw [upd_ne (fun z=>ne z.symm)]; exact nx
 have g2:=g1.trans (Grow.lay (o:=HO.ins (g.ca c) dx []) g1.bs nx2)
 have t2:=t1.trans (g2.tr t1.sr)
 have hx0:H x = none:=t1.dom x nx
 have rvx:RvOk g G1 (upd (upd H1 dx (.own x)) x (.ins (g.ca c) dx [])) σ e1 H (.fresh (.ins c [])) (.ref x) :=
  ⟨x,rfl,t1.sr.bs.hn nx,⟨dx,[],upd_same,rfl,hc,fun q hq=>nomatch hq⟩,hx0,fun i r=>(t1.sr.root r).2 nx⟩
 have rv2:RvsOk g G1 (upd (upd H1 dx (.own x)) x (.ins (g.ca c) dx [])) σ e1 H (.fresh (.ins c []) :: rs) (.ref x :: vs):=by
  refine ⟨.ref x,vs,rfl,rvx,rv.tr (g2.tr t1.sr),fun d p er ep d' u m z=>?_⟩
  cases ep
  have key:∀ {rs:List Rv} {vs:List V},RvsOk g G1 H1 σ e1 H rs vs→(Rv.fresh d',u)∈rs.zip vs→∃ p',u = .ref p'∧H1 p'≠none:=by
   intro rs
   induction rs with
   | nil=>intro vs _ m; simp at m
   | cons r rs ih =>
    intro vs h m
    obtain ⟨v,t,rfl,a,b,_⟩:=h
    rcases List.mem_cons.mp m with y | y
    ·cases y
     obtain ⟨p',ev,_,ow,_⟩:=a
     obtain ⟨ob,ho,_⟩:=ow.there
     exact ⟨p',ev,by rw [ho]; exact fun z=>nomatch z⟩
    ·exact ih b y
  obtain ⟨p',ep',hp'⟩:=key rv m
  rw [z] at ep'
  cases ep'
  exact hp' nx
 unfold E5 at h1
 by_cases o:Bo rs = true
 ·rw [if_pos o] at h1
  cases qa:Ba rs e1 with
  | none=>rw [qa] at h1; exact h1.elim
  | some as =>
   rw [qa] at h1
   simp only at h1
   ·have qa2:Ba (.fresh (.ins c []) :: rs) e1 = some (.bo (.ins c []) :: as):=by
     unfold Ba
     rw [qa]
     rfl
    obtain ⟨sra,oka,rts⟩:=K5 t2.sr rv2 o qa2
    refine ⟨G1,.bo (.ins c []) :: as,oka,sra,?_⟩
    have trc:∀ {G2 H2:Hp} {a0:Sl} {as':List Sl},Tr g ((V.ref x :: vs).map some) G1 (upd (upd H1 dx (.own x)) x (.ins (g.ca c) dx [])) (.bo (.ins c []) :: as) G2 H2 (a0 :: as')→Tr g σ G H e G2 H2 (Bb rs as' e1):=fun {G2 H2 a0 as'} t3=>by
     have:=Q5 t2 rv2 o qa2 t3
     unfold Bb at this ⊢
     rw [Rh (fun i z=>by cases z)] at this
     exact this
    have shape:∀ {G2 H2:Hp} {as2:List Sl},Tr g ((V.ref x :: vs).map some) G1 (upd (upd H1 dx (.own x)) x (.ins (g.ca c) dx [])) (.bo (.ins c []) :: as) G2 H2 as2→∃ a0 as',as2 = a0 :: as':=fun {G2 H2 as2} t3=>by
     have:=t3.ve.len
     cases as2 with
     | nil=>simp at this
     | cons a0 as'=>exact ⟨a0,as',rfl⟩
    revert h1
    generalize f (.bo (.ins c []) :: as) = res
    intro h1
    match res,h1 with
    | .no,h1=>exact h1
    | .er x' [],h1=>exact h1.elim
    | .er x' (a0 :: as'),h1=>exact fun cls d G2 H2 t3 xo=>h1 cls d G2 H2 (trc t3) xo
    | .ok (.val .non) (.bo d :: as'),h1 =>
     intro G2 H2 t3 v nw
     refine ⟨nw,h1 G2 H2 (trc t3) (.ref x) ?_⟩
     have sl:=t3.sr.slot 0
     obtain ⟨p,ep,np,ow⟩:=sl
     cases ep
     exact ⟨x,rfl,np,ow,hx0,fun i r=>(sr.root ((trc t3).ve.rt r)).2 hx0⟩
    | .ok (.val .non) (.bf d :: as'),h1 =>
     intro G2 H2 t3 v nw
     refine ⟨nw,h1 G2 H2 (trc t3) (.ref x) ?_⟩
     have sl:=t3.sr.slot 0
     obtain ⟨u,eu,ru⟩:=sl
     cases eu
     exact ru
    | .ok (.val .non) [],h1=>exact h1.elim
    | .ok (.val .non) (.un :: _),h1=>exact h1.elim
    | .ok (.val .non) (.sh _ :: _),h1=>exact h1.elim
    | .ok (.val .non) (.ow _ :: _),h1=>exact h1.elim
    | .ok (.val .non) (.lo _ :: _),h1=>exact h1.elim
    | .ok (.val (.bl _)) _,h1=>exact h1.elim
    | .ok (.val (.int _)) _,h1=>exact h1.elim
    | .ok (.val (.str _)) _,h1=>exact h1.elim
    | .ok (.val (.lst _)) _,h1=>exact h1.elim
    | .ok (.val (.tup _)) _,h1=>exact h1.elim
    | .ok (.val (.dct _)) _,h1=>exact h1.elim
    | .ok (.val (.set _)) _,h1=>exact h1.elim
    | .ok (.val (.ins _ _)) _,h1=>exact h1.elim
    | .ok (.val (.con _)) _,h1=>exact h1.elim
    | .ok (.val (.scr _)) _,h1=>exact h1.elim
    | .ok (.slot _) _,h1=>exact h1.elim
    | .ok (.fresh _) _,h1=>exact h1.elim
 ·rw [if_neg o] at h1; exact h1.elim
def Mk' (P:Program) (mg:Str→Option Value) (base:Heap) (g:Gm) (x c:Str) (ks:List Str) (j:Nat) (F:List Sl→Res Rv):Prop :=
 ∃ f,mg x = some (.ref (g.ca c))∧Mk g.K (g.ca c) f∧Cls g.K (g.ca c)∧FnK P g.w g.K mg base (L2.CX P g.w) j f ks (spR g F)
theorem Wa {x c:Str} {j:Nat} {F:List Sl→Res Rv} {ex:Expr} {es:List Expr} {A:M (List Rv)} {p pos:Pos} (d:Mk' X.prog X.mg X.base g x c [] j F) (hj:j + 1≤k) (hg:Gl X x) (ha:VA g W k X (ex :: es) A)
  (hdb:(x == ("__debug__" : Str)) = false:=by decide) (he:starEach (ex :: es) X.env = (false,eval ex X.env) :: starEach es X.env:=by rfl) (hpl:(backTo pos (starEach es X.env)).any (·.1) = false:=by rfl):VE g W k X (.Call (.Name x p) (ex :: es) [] pos) (Pa c F A):=by
 refine ⟨fun cd=>?_⟩
 obtain ⟨f,hm,mk,hc,Fk⟩:=d
 obtain ⟨gK,gw,ca,gT,gs,gn⟩:=g
 obtain rfl:X.K = gK:=cd.K
 obtain rfl:X.w = gw:=cd.w
 refine PE.imp (V8 (E:=fun σ cls d H'=>W cls d σ H') mk Fk (cd.room.mono hj) hg hm (fun σ=>passAt cd.tk σ) (ha.run cd) hdb he hpl) fun σ H Q ⟨G,e,sr,q⟩=>?_
 refine ⟨G,e,sr,Pst.mono (Pst.bind0 q) fun rs G1 H1 e1 t1 h1 vs rv=>?_⟩
 show ∀ x dx,_
 rw [List.append_nil]
 exact Ac8 hc sr t1 rv h1
structure VK' (g:Gm) (W:WX) (k:Nat) (X:Cx) (kws:List Keyword) (F:M (List Rv)):Prop where
 run:Cd g W k X→PK X kws (TVA g W F)
theorem RvsOk.append {G H H1 H0:Hp} {σ:L2.St} {e:Ve} (hk:∀ p,H1 p = none→H0 p = none):∀ {rs:List Rv} {vs:List V} {zs:List Rv} {us:List V},RvsOk g G H σ e H0 rs vs→(∀ d p,(Rv.fresh d,V.ref p)∈rs.zip vs→H1 p≠none)→RvsOk g G H σ e H1 zs us→RvsOk g G H σ e H0 (rs ++ zs) (vs ++ us)
 | [],vs,zs,us,h,_,q=>by rw [show vs = [] from h]; exact q.h0 hk
 | r :: rs,vs,zs,us,⟨v,t,ev,a,b,c⟩,hn,q=>by
  subst ev
  refine ⟨v,t ++ us,rfl,a,RvsOk.append hk b (fun d p m=>hn d p (List.mem_cons_of_mem _ m)) q,fun d p er ep d' u m z=>?_⟩
  have lz:rs.length = t.length:=b.len.symm
  have m:(Rv.fresh d',u)∈(rs ++ zs).zip (t ++ us):=m
  rw [List.zip_append lz] at m
  rcases List.mem_append.mp m with y | y
  ·exact c d p er ep d' u y z
  ·obtain ⟨p',eu,hp'⟩:=q.new d' u y
   rw [z] at eu
   cases eu
   subst er ep
   exact hn d p List.mem_cons_self hp'
end
def Je (T:Str→Option (List Sl→Res Rv)) (m:Str) (O:M Rv) (A:M (List Rv)):M Rv:=O.bind fun o e0=>match Af o e0 with
 | some (.ins c fs)=>if (fs.lookup m).isNone = true then (match T c with
  | some F=>(A.bind fun rs=>A5 F (o :: rs)) e0
  | none=>.no) else .no
 | _=>.no
def Wb (T:Str→Option (List Sl→Res Rv)) (O:M Rv) (A:M (List Rv)):M Rv:=(Ad O).bind fun o=>match o with
 | .val (.ins c fs)=>(match T c with
  | some F=>A.bind fun rs=>A5 F (.val (.ins c fs) :: rs)
  | none=>fun _=>.no)
 | _=>fun _=>.no
section
variable {g:Gm} {W:WX} {k:Nat} {X:Cx}
def Pb (P:Program) (mg:Str→Option Value) (base:Heap) (g:Gm) (m:Str) (j:Nat) (T:Str→Option (List Sl→Res Rv)):Prop :=
 ∀ c F,T c = some F→∃ f,Cls g.K (g.ca c)∧Meth g.K (g.ca c) m f∧FnK P g.w g.K mg base (L2.CX P g.w) j f [] (spR g F)
theorem Wc {G H H1 H0:Hp} {σ:L2.St} {e:Ve} {r:Rv} {rs:List Rv} {v:V} {vs:List V} (hk:∀ p,H1 p = none→H0 p = none) (a:RvOk g G H σ e H0 r v) (hn:∀ d p,r = .fresh d→v = .ref p→H1 p≠none) (b:RvsOk g G H σ e H1 rs vs):RvsOk g G H σ e H0 (r :: rs) (v :: vs):=by
 refine ⟨v,vs,rfl,a,b.h0 hk,fun d p er ep d' u m z=>?_⟩
 obtain ⟨p',eu,hp'⟩:=b.new d' u m
 rw [z] at eu
 cases eu
 exact hn d p er ep hp'
theorem Wd {G H H0:Hp} {σ:L2.St} {e:Ve} {r:Rv} {v:V} (a:RvOk g G H σ e H0 r v) (d:D) (p:Addr) (er:r = .fresh d) (ep:v = .ref p):H p≠none:=by
 subst er
 obtain ⟨p',ev,_,ow,_⟩:=a
 rw [ep] at ev
 cases ev
 obtain ⟨ob,ho,_⟩:=ow.there
 rw [ho]; exact fun z=>nomatch z
theorem Ac9 {T:Str→Option (List Sl→Res Rv)} {m:Str} {O:M Rv} {A:M (List Rv)} {σ:L2.St} {H:Hp} {Q:VK} (h:TV g W (Je T m O A) σ H Q) :
  O8 (fun C sp=>∃ c F,T c = some F∧C = g.ca c∧sp = spR g F) m (fun σ cls d H'=>W cls d σ H') (TV g W O) (TVA g W A) σ H Q:=by
 obtain ⟨G,e,sr,h⟩:=h
 refine ⟨G,e,sr,Pst.mono (Pst.bind0 h) fun o G1 H1 e1 t1 h1 x ok1=>?_⟩
 cases q1:Af o e1 with
 | none=>simp only [q1] at h1; exact h1.elim
 | some d =>
  cases d with
  | ins c fs =>
   simp only [q1] at h1
   by_cases hl:(fs.lookup m).isNone = true
   ·rw [if_pos hl] at h1
    cases qT:T c with
    | none=>simp only [qT] at h1; exact h1.elim
    | some F =>
     simp only [qT] at h1
     obtain ⟨a,dx,us,ev,ha,rf,io⟩:=(B5 t1.sr ok1 q1).ins t1.sr.bs
     refine ⟨a,_,dx,us,_,ev,ha,rf.lookN (Option.isNone_iff_eq_none.mp hl),⟨c,F,qT,rfl,rfl⟩,G1,e1,t1.sr,?_⟩
     refine Pst.mono (Pst.bindS t1 h1) fun rs G2 H2 e2 t2 h2 vs rv=>?_
     exact F0 sr (t1.trans t2) (Wc t1.dom (ok1.tr t2) (Wd ok1) rv) h2
   ·rw [if_neg hl] at h1; exact h1.elim
  | _=>simp only [q1] at h1; exact h1.elim
theorem We {pl:Sem Bool} {T:Str→Option (List Sl→Res Rv)} {m:Str} {j:Nat} {o:Expr} {O:M Rv} {apos pos:Pos} (tab:Pb X.prog X.mg X.base g m j T) (hj:j≤k) (ho:VE g W k X o O)
  (ht:eval (.Call (.Attribute o m apos) [] [] pos) X.env = (do
   let ov ← eval o X.env
   standAt apos.atName
   let (f,first) ← holding [ov] (getMethod ov m pl)
   callWith pos f first (backTo pos (starEach [] X.env)) (backToKw pos (keywordEach [] X.env))):=by rfl):VE g W k X (.Call (.Attribute o m apos) [] [] pos) (Je T m O Ag):=by
 refine ⟨fun cd=>?_⟩
 obtain ⟨gK,gw,ca,gT,gs,gn⟩:=g
 obtain rfl:X.K = gK:=cd.K
 obtain rfl:X.w = gw:=cd.w
 refine PE.imp (Ac5 (pl:=pl) (T:=fun C sp=>∃ c F,T c = some F∧C = ca c∧sp = spR ⟨X.K,X.w,ca,gT,gs,gn⟩ F) (E:=fun σ cls d H'=>W cls d σ H') (ho.run cd) (fun C sp ⟨c,F,hT,eC,es⟩=>?_) (cd.room.mono hj) (fun σ=>passAt cd.tk σ) ht) fun σ H Q q=>?_
 ·obtain ⟨f,h1,h2,h3⟩:=tab c F hT
  exact ⟨f,eC ▸ h1,eC ▸ h2,es ▸ h3⟩
 ·obtain ⟨G,e,sr,h⟩:=Ac9 q
  refine ⟨G,e,sr,Pst.mono h fun r G1 H1 e1 t1 h1 v ok=>?_⟩
  obtain ⟨a,C,dx,fs,sp,x1,x2,x3,x4,G2,e2,sr2,x5⟩:=h1 v ok
  exact ⟨a,C,dx,fs,sp,x1,x2,x3,x4,x5 G2 H1 (Tr.refl sr2) [] rfl⟩
end
end Vs
set_option maxRecDepth 100000
set_option maxHeartbeats 2000000
namespace Vs
open PySem PySem.Spec PyProof.Rows L2 Fw SX
def fNo {α:Type}:M α:=fun _=>.no
section
variable {g:Gm} {W:WX} {k:Nat} {X:Cx}
theorem Hk {st:Stmt}:VS g W k X st fNo:=⟨fun _=>⟨fun _ _ _ _ _ _ ⟨_,_,_,h⟩=>h.elim⟩⟩
end
structure VAT (g:Gm) (W:WX) (k:Nat) (X:Cx) (es:List Expr) (F:M (List Rv)):Prop where
 run:Cd g W k X→PAT X es (TVA g W F)
structure VET (g:Gm) (W:WX) (k:Nat) (X:Cx) (e:Expr) (F:M Rv):Prop where
 run:Cd g W k X→PET X e (TV g W F)
section
variable {g:Gm} {W:WX} {k:Nat} {X:Cx}
end
def fFmt (A:M Rv):M Rv:=A.bind fun r e=>match r with
 | .val (.str l)=>if l.length≤sizeLine then .ok (.val (.str l)) e else .no
 | .val (.int i)=>if i.natAbs.log2 < 1920∧(Ej i).all (·< 1114112) = true then .ok (.val (.str (Ej i))) e else .no
 | _=>.no
def fJs:List (M Rv)→List Nat→M (List Nat)
 | [],acc=>M.ret acc
 | A :: As,acc=>A.bind fun r=>match r with
  | .val (.str l)=>if acc.length + l.length≤sizeLine then fJs As (acc ++ l) else fNo
  | _=>fNo
def Ada (As:List (M Rv)):M Rv:=(fJs As []).map fun l=>.val (.str l)
inductive VJ (g:Gm) (W:WX) (k:Nat) (X:Cx):List Expr→List (M Rv)→Prop where
 | nil:VJ g W k X [] []
 | cons {e:Expr} {A:M Rv} {es:List Expr} {As:List (M Rv)} (h:VE g W k X e A) (r:VJ g W k X es As):VJ g W k X (e :: es) (A :: As)
section
variable {g:Gm} {W:WX} {k:Nat} {X:Cx}
end
def tyN:D→Option String
 | .non=>some "NoneType"
 | .bl _=>some "bool"
 | .int _=>some "int"
 | .str _=>some "str"
 | .lst _=>some "list"
 | .tup _=>some "tuple"
 | .dct _=>some "dict"
 | .scr _=>some "list"
 | _=>none
def Pc (a b:String):Option Bool:=if b = "bool"∨b = "int"∨b = "str"∨b = "list"∨b = "tuple"∨b = "dict" then some (a == b || (a == "bool" && b == "int")) else none
def Bx:List D→Option Rv
 | [d,.con (.ty b)]=>(match tyN d with | some a=>(Pc a b).map fun r=>.val (.bl r) | none=>none)
 | _=>none
theorem Adb {d:D} {a b:String} {r:Bool} (ha:tyN d = some a) (h:Pc a b = some r):kitB a b = some r:=by
 unfold Pc at h
 split at h
 ·rename_i hb
  cases h
  have ha2:a = "NoneType"∨a = "bool"∨a = "int"∨a = "str"∨a = "list"∨a = "tuple"∨a = "dict":=by
   cases d <;> cases ha <;> simp
  rcases hb with rfl | rfl | rfl | rfl | rfl | rfl <;> rcases ha2 with rfl | rfl | rfl | rfl | rfl | rfl | rfl <;> decide +kernel
 ·cases h
section
variable {g:Gm} {G H:Hp}
theorem Wf (bs:Bs G H) (sc:SqL g.K H g.sa (g.sn.map .int)) {d:D} {a:String} {x:V} (r:RepH g G H d x) (h:tyN d = some a):TyX g.K H x (.type a):=by
 have lst:∀ {p:Addr} {vs:List V},SqL g.K H p vs→TyX g.K H (.ref p) (.type "list"):=fun {p vs} q=>by
  rcases q with (q | ⟨o,q⟩) | ⟨o,its,n,q,c,_⟩
  ·exact .base (.lst q)
  ·exact .base (.frz q)
  ·exact .kList q c
 cases d with
 | non=>cases h; rw [r.non]; exact .base .non
 | bl b=>cases h; rw [r.bl]; exact .base (.bl b)
 | int i=>cases h; rw [r.int]; exact .base (.int i)
 | str l=>cases h; rw [r.str]; exact .base (.str _)
 | lst ds =>
  cases h
  obtain ⟨p,vs,e,q,_⟩:=r.lst bs
  rw [e]; exact lst q
 | tup ds =>
  cases h
  obtain ⟨p,vs,e,q,_⟩:=r.tup bs
  rw [e]
  rcases q with (q | ⟨o,q⟩) | ⟨o,its,n,q,c,_⟩
  ·exact .base (.tup q)
  ·exact .fTuple q
  ·exact .kTuple q c
 | dct kvs =>
  cases h
  rcases r with ⟨p,vs,e,q,_⟩ | ⟨p,e,n,vs,q,_⟩
  ·rw [e]
   rcases bs.rd (.inl q) with z | ⟨o,z⟩
   ·exact .base (.dK z)
   ·exact .fDict z
  ·rw [e]
   rcases q with z | ⟨o,z⟩
   ·exact .base (.dK z)
   ·exact .fDict z
 | scr ns =>
  cases h
  rcases r with ⟨e,_⟩ | ⟨p,e,n,o⟩
  ·rw [e]; exact lst sc
  ·exact o.elim
 | _=>cases h
theorem Adc:CallV g (rIsi g.K) Bx:=fun G H ds vs out Q bs sc r e q=>by
 match ds,r,e with
 | [],_,e=>cases e
 | [d],_,e=>cases e
 | d :: d2 :: d3 :: t,_,e=>unfold Bx at e; split at e <;> first | cases e | (rename_i h; cases h)
 | [d,.con u],⟨x,t,ex,rx,y,t2,ey,ry,en⟩,e =>
  cases u with
  | ty b =>
   simp only [Bx] at e
   cases hd:tyN d with
   | none=>rw [hd] at e; cases e
   | some a =>
    rw [hd] at e
    cases hb:Pc a b with
    | none=>simp only [hb] at e; cases e
    | some rb =>
     simp only [hb,Option.map_some] at e
     cases e
     subst en ey ex
     refine ⟨x,.ty b,.type a,.type b,rb,by rw [ry.con],.ty b,Wf bs sc rx hd,kit_ty (Adb hd hb),q _ G H (Grow.refl bs) rfl⟩
  | _=>cases e
 | [d,.non],_,e=>cases e
 | [d,.bl _],_,e=>cases e
 | [d,.int _],_,e=>cases e
 | [d,.str _],_,e=>cases e
 | [d,.lst _],_,e=>cases e
 | [d,.tup _],_,e=>cases e
 | [d,.dct _],_,e=>cases e
 | [d,.set _],_,e=>cases e
 | [d,.ins _ _],_,e=>cases e
 | [d,.scr _],_,e=>cases e
end
def CiD (mg:Str→Option Value) (g:Gm) (x f:Str) (i:Int):Prop:=∃ C mc u,mg x = some (.ref C)∧ClX.CRead g.K C mc∧ClX.CVal g.K C mc f (.int i) u
section
variable {g:Gm} {W:WX} {k:Nat} {X:Cx}
theorem Ade {x f:Str} {i:Int} {p pos:Pos} (d:CiD X.mg g x f i) (hg:Gl X x:=by rfl) (hdb:(x == ("__debug__" : Str)) = false:=by decide) (hb:attributeBase (.Name x p) f X.env (eval (.Name x p) X.env) = eval (.Name x p) X.env:=by rfl):VE g W k X (.Attribute (.Name x p) f pos) (fC (.int i)):=by
 obtain ⟨C,mc,u,hm,cr,cv⟩:=d
 refine ⟨fun c=>?_⟩
 have h1:PE X (.Attribute (.Name x p) f pos) (ClX.tCVal g.K (tC (.ref C)) f):=c.K ▸ ClX.pe_cval (pe_gr hm hg hdb) hb
 exact PE.imp h1 fun σ H Q ⟨G,e,sr,h⟩=>⟨C,mc,.int i,u,rfl,cr,cv,h G H (Tr.refl sr) _ rfl⟩
end
def fRev (A:M Rv):M Rv:=A.bind fun r e=>match Af r e with
 | some (.lst ds)=>.ok (.fresh (.lst ds.reverse)) e
 | some (.str l)=>if l.length≤sizeLine then .ok (.val (.str l.reverse)) e else .no
 | _=>.no
section
variable {g:Gm} {W:WX} {k:Nat} {X:Cx}
end
end Vs
set_option maxRecDepth 100000
set_option maxHeartbeats 2000000
namespace Vs
open PySem PySem.Spec PyProof.Rows L2 Fw SX
def Jf (i:Nat) (e:Ve):Option LkK:=match e[i]? with
 | some (.sh (.dct kvs))=>some (.shd kvs)
 | some (.bf (.dct kvs))=>some (.shd kvs)
 | some (.ow (.dct kvs))=>some (.own i (.ow (.dct kvs)) kvs)
 | some (.bo (.dct kvs))=>some (.own i (.bo (.dct kvs)) kvs)
 | some (.lo (.dct kvs))=>some (.lck i kvs)
 | _=>none
def Dk (kvs:List (List Nat × D)):List D:=kvs.map fun p=>.str p.1
def okR {α:Type} (k:Ve→Ve):Res α→Res α
 | .ok a e=>.ok a (k e)
 | _=>.no
def lkE {α:Type} (L:Ve→Option LkK) (A:List D→M α):M α:=fun e=>match L e with
 | some (.shd kvs)=>okR id (A (Dk kvs) e)
 | some (.own i s kvs)=>okR (fun e'=>e'.set i s) (A (Dk kvs) (e.set i (.lo (.dct kvs))))
 | some (.lck i kvs)=>okR id (A (Dk kvs) e)
 | none=>.no
section
variable {g:Gm} {G H G1 H1:Hp} {σ σ1:L2.St} {e e1:Ve} {d p:Addr} {vs:List (Key × V)} {od:Obj} {i:Nat} {kvs:List (List Nat × D)}
theorem Pd (hl:RepK g G kvs vs) (hd:H d = some (.frz od (.dK vs))):ItOk g G H (Itk d od vs) (Dk kvs):=by
 obtain ⟨h1,h2⟩:=hl.ks
 have hk:(Dk kvs).length = vs.length:=by unfold Dk; rw [List.length_map,h1]
 refine ⟨fun i G' H' le bs fz hi=>⟨fz _ _ _ hd,by omega⟩,fun G' H' le bs fz=>⟨fz _ _ _ hd,by omega⟩,fun i G' H' x H'' le bs fz hi y=>?_⟩
 obtain ⟨e1,k,v,e2,e3⟩:=y
 subst e1
 obtain ⟨z,dz,e4,e5,e6⟩:=h2 i k v e2
 refine ⟨.str z,G',by unfold Dk; rw [List.getElem?_map,e4]; rfl,Grow.refl bs,?_⟩
 subst e5
 exact ⟨e3,e6⟩
theorem SR.lockS (sr:SR g G H σ e) (hG:G d = some (.dK vs)) (hH:H d = some (.dK vs)):SR g G (upd H d (.frz od (.dK vs))) σ e:=by
 have ne:∀ {b:Addr},G b = none→b≠d:=fun n z=>by rw [z,hG] at n; cases n
 refine ⟨⟨sr.bs.pl,fun a u q=>?_⟩,Oi sr.tabs fun o h=>by rw [hH] at h; cases h; trivial,?_,sr.len,fun j=>?_,sr.inj⟩
 ·by_cases z:a = d
  ·rw [z,hG] at q
   cases q
   rw [z,upd_same]
   exact .inr ⟨rfl,od,rfl⟩
  ·rw [upd_ne z]; exact sr.bs.sub a u q
 ·exact sr.scr.keep fun o u h=>by rw [upd_ne (fun z=>by rw [z,hH] at h; cases h)]; exact h
 ·have sl:=sr.slot j
  cases q:e[j]? with
  | none=>trivial
  | some s =>
   rw [q] at sl
   cases s with
   | un=>trivial
   | sh _=>exact sl
   | bf _=>exact sl
   | ow _=>obtain ⟨p,a,b,c⟩:=sl; exact ⟨p,a,b,c.mono (Le.refl G) (upd_ne (ne b))⟩
   | bo _=>obtain ⟨p,a,b,c⟩:=sl; exact ⟨p,a,b,c.mono (Le.refl G) (upd_ne (ne b))⟩
   | lo _=>obtain ⟨p,a,b,c⟩:=sl; exact ⟨p,a,b,c.mono (Le.refl G) (upd_ne (ne b))⟩
theorem SR.unlockS (sr:SR g G H σ e) (hG:G d = some (.dK vs)) (hH:H d = some (.frz od (.dK vs))):SR g G (upd H d (.dK vs)) σ e:=by
 have ne:∀ {b:Addr},G b = none→b≠d:=fun n z=>by rw [z,hG] at n; cases n
 refine ⟨⟨sr.bs.pl,fun a u q=>?_⟩,(fun q hq=>?_),?_,sr.len,fun j=>?_,sr.inj⟩
 ·by_cases z:a = d
  ·rw [z,hG] at q
   cases q
   rw [z,upd_same]
   exact .inl rfl
  ·rw [upd_ne z]; exact sr.bs.sub a u q
 ·obtain ⟨ps,h1,h2⟩:=sr.tabs q hq
  exact ⟨ps,by rw [upd_ne (fun z=>by rw [z,hH] at h1; cases h1)]; exact h1,h2⟩
 ·exact sr.scr.keep fun o u h=>by rw [upd_ne (fun z=>by rw [z,hH] at h; cases h)]; exact h
 ·have sl:=sr.slot j
  cases q:e[j]? with
  | none=>trivial
  | some s =>
   rw [q] at sl
   cases s with
   | un=>trivial
   | sh _=>exact sl
   | bf _=>exact sl
   | ow _=>obtain ⟨p,a,b,c⟩:=sl; exact ⟨p,a,b,c.mono (Le.refl G) (upd_ne (ne b))⟩
   | bo _=>obtain ⟨p,a,b,c⟩:=sl; exact ⟨p,a,b,c.mono (Le.refl G) (upd_ne (ne b))⟩
   | lo _=>obtain ⟨p,a,b,c⟩:=sl; exact ⟨p,a,b,c.mono (Le.refl G) (upd_ne (ne b))⟩
theorem Tr.underS (sr:SR g G H σ e) (hG:G d = some (.dK vs)) (hH:H d = some (.dK vs)) (t:Tr g σ G (upd H d (.frz od (.dK vs))) e G1 H1 e1):H1 d = some (.frz od (.dK vs))∧Tr g σ G H e G1 (upd H1 d (.dK vs)) e1:=by
 have nr:∀ i,¬ Rt σ e i d:=fun i r=>by
  have:=(sr.root r).1
  rw [hG] at this; cases this
 have h1:H1 d = some (.frz od (.dK vs)):=t.keep _ _ upd_same nr fun ps z=>nomatch z
 refine ⟨h1,t.sr.unlockS (t.le _ _ hG) h1,t.le,fun a o h n nt=>?_,fun a h=>?_,fun a x y n=>?_,t.ve⟩
 ·by_cases z:a = d
  ·rw [z,hH] at h; cases h; rw [z,upd_same]
  ·rw [upd_ne z]; exact t.keep a o (by rw [upd_ne z]; exact h) n nt
 ·by_cases z:a = d
  ·rw [z,upd_same] at h; cases h
  ·rw [upd_ne z] at h
   have:=t.dom a h
   rw [upd_ne z] at this; exact this
 ·have z:a≠d:=fun z=>by rw [z,hG] at x; cases x
  exact t.new a x (by rw [upd_ne z]; exact y) n
theorem St.underS (sr:SR g G H σ e) (hG:G d = some (.dK vs)) (hH:H d = some (.dK vs)) (t:St g G (upd H d (.frz od (.dK vs))) σ e G1 H1 σ1 e1):H1 d = some (.frz od (.dK vs))∧St g G H σ e G1 (upd H1 d (.dK vs)) σ1 e1:=by
 have nr:∀ i,¬ Rt σ e i d:=fun i r=>by
  have:=(sr.root r).1
  rw [hG] at this; cases this
 have h1:H1 d = some (.frz od (.dK vs)):=t.keep _ _ upd_same nr fun ps z=>nomatch z
 have nn:∀ {p:Addr},upd H d (.frz od (.dK vs)) p = none→H p = none:=fun {p} h=>by
  by_cases z:p = d
  ·rw [z,upd_same] at h; cases h
  ·rw [upd_ne z] at h; exact h
 refine ⟨h1,t.sr.unlockS (t.le _ _ hG) h1,t.ln,t.le,fun a o h n nt=>?_,fun a h=>?_,fun a x y n=>?_,fun i p r=>(t.rts i p r).imp id nn,fun i d' p a b=>(t.rto i d' p a b).imp id nn,t.bor,t.bof,t.nlo⟩
 ·by_cases z:a = d
  ·rw [z,hH] at h; cases h; rw [z,upd_same]
  ·rw [upd_ne z]; exact t.keep a o (by rw [upd_ne z]; exact h) n nt
 ·by_cases z:a = d
  ·rw [z,upd_same] at h; cases h
  ·rw [upd_ne z] at h
   exact nn (t.dom a h)
 ·have z:a≠d:=fun z=>by rw [z,hG] at x; cases x
  exact t.new a x (by rw [upd_ne z]; exact y) n
def K9 (s:Sl) (kvs:List (List Nat × D)):Prop:=s = .ow (.dct kvs)∨s = .bo (.dct kvs)
theorem SR.ownDict {s:Sl} (sr:SR g G H σ e) (hi:e[i]? = some s) (hs:K9 s kvs):∃ p vs,σ[i]? = some (some (.ref p))∧G p = none∧H p = some (.dK vs)∧RepK g G kvs vs∧Rt σ e i p:=by
 have sl:=sr.slot i
 rw [hi] at sl
 have nz:∃ p,σ[i]? = some (some (.ref p))∧G p = none∧Own g G H p (.dct kvs):=by
  rcases hs with rfl | rfl
  ·exact sl
  ·exact sl
 obtain ⟨p,a,b,vs,c,r⟩:=nz
 refine ⟨p,vs,a,b,c,r,?_,a⟩
 rw [hi]
 rcases hs with rfl | rfl <;> trivial
theorem SR.lockO {s:Sl} (sr:SR g G H σ e) (hi:e[i]? = some s) (hs:K9 s kvs) (hp:σ[i]? = some (some (.ref p))) (n:G p = none) (hH:H p = some (.dK vs)) (rk:RepK g G kvs vs):SR g G (upd H p (.frz od (.dK vs))) σ (e.set i (.lo (.dct kvs))):=by
 have hlt:=Bj hi
 have rti:Rt σ e i p:=⟨by rw [hi]; rcases hs with rfl | rfl <;> trivial,hp⟩
 have F9:∀ j q,Rt σ (e.set i (.lo (.dct kvs))) j q→j≠i∧Rt σ e j q:=fun j q r=>by
  obtain ⟨r1,r2⟩:=r
  rw [getElem?_set'] at r1
  by_cases z:i = j
  ·rw [if_pos ⟨z,hlt⟩] at r1; exact r1.elim
  ·rw [if_neg (fun y=>z y.1)] at r1
   exact ⟨fun y=>z y.symm,r1,r2⟩
 refine ⟨sr.bs.put n,Oi sr.tabs fun o h=>by rw [hH] at h; cases h; trivial,?_,by rw [List.length_set]; exact sr.len,fun j=>?_,fun j l q a b=>sr.inj j l q (F9 j q a).2 (F9 l q b).2⟩
 ·exact sr.scr.keep fun o u h=>by rw [upd_ne (fun z=>by rw [z,hH] at h; cases h)]; exact h
 ·rw [getElem?_set']
  by_cases z:i = j
  ·subst z
   rw [if_pos ⟨rfl,hlt⟩]
   exact ⟨p,hp,n,od,vs,upd_same,rk⟩
  ·rw [if_neg (fun y=>z y.1)]
   have sl:=sr.slot j
   cases q:e[j]? with
   | none=>trivial
   | some s =>
    rw [q] at sl
    have ne:∀ {p'},Dm (some s)→σ[j]? = some (some (.ref p'))→p'≠p:=fun {p'} w a y=>z (sr.inj i j p rti ⟨by rw [q]; exact w,by rw [← y]; exact a⟩)
    cases s with
    | un=>trivial
    | sh _=>exact sl
    | bf _=>exact sl
    | ow _=>obtain ⟨p',a,b,c⟩:=sl; exact ⟨p',a,b,c.mono (Le.refl G) (upd_ne (ne trivial a))⟩
    | bo _=>obtain ⟨p',a,b,c⟩:=sl; exact ⟨p',a,b,c.mono (Le.refl G) (upd_ne (ne trivial a))⟩
    | lo _ =>
     obtain ⟨p',a,b,c⟩:=sl
     obtain ⟨ob,u,ho,_⟩:=c.there
     exact ⟨p',a,b,c.mono (Le.refl G) (upd_ne (fun y=>by rw [y,hH] at ho; cases ho))⟩
theorem SR.unlockO {s:Sl} (sr:SR g G H σ e) (hi:e[i]? = some (.lo (.dct kvs))) (hs:K9 s kvs) (hp:σ[i]? = some (some (.ref p))) (n:G p = none) (hH:H p = some (.frz od (.dK vs))) (rk:RepK g G kvs vs) (hq:∀ (j:Nat) d',j≠i→e[j]? = some (.lo d')→σ[j]?≠some (some (.ref p))):SR g G (upd H p (.dK vs)) σ (e.set i s):=by
 have hlt:=Bj hi
 have nrt:∀ j,¬ Rt σ e j p:=fun j r=>sr.nofrz hH j r
 have F9:∀ j q,Rt σ (e.set i s) j q→(j = i∧q = p)∨(j≠i∧Rt σ e j q):=fun j q r=>by
  obtain ⟨r1,r2⟩:=r
  rw [getElem?_set'] at r1
  by_cases z:i = j
  ·subst z
   rw [hp] at r2; cases r2
   exact .inl ⟨rfl,rfl⟩
  ·rw [if_neg (fun y=>z y.1)] at r1
   exact .inr ⟨fun y=>z y.symm,r1,r2⟩
 refine ⟨sr.bs.put n,(fun q hq=>?_),?_,by rw [List.length_set]; exact sr.len,fun j=>?_,fun j l q a b=>?_⟩
 ·obtain ⟨ps,h1,h2⟩:=sr.tabs q hq
  exact ⟨ps,by rw [upd_ne (fun z=>by rw [z,hH] at h1; cases h1)]; exact h1,h2⟩
 ·exact sr.scr.keep fun o u h=>by rw [upd_ne (fun z=>by rw [z,hH] at h; cases h)]; exact h
 ·rw [getElem?_set']
  by_cases z:i = j
  ·subst z
   rw [if_pos ⟨rfl,hlt⟩]
   rcases hs with rfl | rfl
   ·exact ⟨p,hp,n,vs,upd_same,rk⟩
   ·exact ⟨p,hp,n,vs,upd_same,rk⟩
  ·rw [if_neg (fun y=>z y.1)]
   have sl:=sr.slot j
   cases q:e[j]? with
   | none=>trivial
   | some s' =>
    rw [q] at sl
    cases s' with
    | un=>trivial
    | sh _=>exact sl
    | bf _=>exact sl
    | ow _=>obtain ⟨p',a,b,c⟩:=sl; exact ⟨p',a,b,c.mono (Le.refl G) (upd_ne (fun y=>nrt j ⟨by rw [q]; trivial,by rw [← y]; exact a⟩))⟩
    | bo _=>obtain ⟨p',a,b,c⟩:=sl; exact ⟨p',a,b,c.mono (Le.refl G) (upd_ne (fun y=>nrt j ⟨by rw [q]; trivial,by rw [← y]; exact a⟩))⟩
    | lo dd =>
     obtain ⟨p',a,b,c⟩:=sl
     exact ⟨p',a,b,c.mono (Le.refl G) (upd_ne fun y=>hq j dd (fun w=>z w.symm) q (by rw [← y]; exact a))⟩
 ·rcases F9 j q a with ⟨z1,y1⟩ | ⟨z1,y1⟩ <;> rcases F9 l q b with ⟨z2,y2⟩ | ⟨z2,y2⟩
  ·rw [z1,z2]
  ·exact absurd (y1 ▸ y2) (nrt l)
  ·exact absurd (y2 ▸ y1) (nrt j)
  ·exact sr.inj j l q y1 y2
theorem Tr.underO {s:Sl} (sr:SR g G H σ e) (hi:e[i]? = some s) (hs:K9 s kvs) (hp:σ[i]? = some (some (.ref p))) (n:G p = none) (hH:H p = some (.dK vs)) (rk:RepK g G kvs vs) (t:Tr g σ G (upd H p (.frz od (.dK vs))) (e.set i (.lo (.dct kvs))) G1 H1 e1) :
  H1 p = some (.frz od (.dK vs))∧G1 p = none∧e1[i]? = some (.lo (.dct kvs))∧Tr g σ G H e G1 (upd H1 p (.dK vs)) (e1.set i s):=by
 have hlt:=Bj hi
 have srl:SR g G (upd H p (.frz od (.dK vs))) σ (e.set i (.lo (.dct kvs))):=sr.lockO hi hs hp n hH rk
 have nrl:∀ j,¬ Rt σ (e.set i (.lo (.dct kvs))) j p:=fun j r=>srl.nofrz upd_same j r
 have h1:H1 p = some (.frz od (.dK vs)):=t.keep _ _ upd_same nrl fun ps z=>nomatch z
 have n1:G1 p = none:=t.new p n (by rw [upd_same]; exact fun z=>nomatch z) nrl
 have rtb:∀ j q,Rt σ (e.set i (.lo (.dct kvs))) j q→Rt σ e j q:=fun j q r=>by
  obtain ⟨r1,r2⟩:=r
  rw [getElem?_set'] at r1
  by_cases z:i = j
  ·rw [if_pos ⟨z,hlt⟩] at r1; exact r1.elim
  ·rw [if_neg (fun y=>z y.1)] at r1
   exact ⟨r1,r2⟩
 have rti:Rt σ e i p:=⟨by rw [hi]; rcases hs with rfl | rfl <;> trivial,hp⟩
 have l1:(e.set i (.lo (.dct kvs)))[i]? = some (.lo (.dct kvs)):=by rw [getElem?_set',if_pos ⟨rfl,hlt⟩]
 obtain ⟨s1,e1i,ls⟩:=t.ve.at_ i _ l1
 have e1i:e1[i]? = some (.lo (.dct kvs)):=by rw [e1i]; rw [show s1 = .lo (.dct kvs) from ls]
 refine ⟨h1,n1,e1i,t.sr.unlockO e1i hs hp n1 h1 (rk.mono t.le) (fun j d' hj hl y=>?_),t.le,fun a o h m nt=>?_,fun a h=>?_,fun a x y m=>?_,⟨by rw [List.length_set,t.ve.len,List.length_set],fun j s0 hj=>?_⟩⟩
 ·have:=t.ve.nlo hl
  rw [getElem?_set',if_neg (fun w=>hj w.1.symm)] at this
  have sl:=sr.slot j
  rw [this,y] at sl
  obtain ⟨p',a,b,c⟩:=sl
  cases a
  obtain ⟨ob,u,ho,_⟩:=c.there
  rw [hH] at ho; cases ho
 ·have z:a≠p:=fun z=>m i (by rw [z]; exact rti)
  rw [upd_ne z]
  exact t.keep a o (by rw [upd_ne z]; exact h) (fun j r=>m j (rtb j a r)) nt
 ·by_cases z:a = p
  ·rw [z,upd_same] at h; cases h
  ·rw [upd_ne z] at h
   have:=t.dom a h
   rw [upd_ne z] at this; exact this
 ·have z:a≠p:=fun z=>m i (by rw [z]; exact rti)
  exact t.new a x (by rw [upd_ne z]; exact y) fun j r=>m j (rtb j a r)
 ·by_cases z:i = j
  ·subst z
   rw [hi] at hj; cases hj
   exact ⟨s,by rw [getElem?_set',if_pos ⟨rfl,Bj e1i⟩],SlLe.refl s⟩
  ·obtain ⟨s',a,b⟩:=t.ve.at_ j s0 (by rw [getElem?_set',if_neg (fun y=>z y.1)]; exact hj)
   exact ⟨s',by rw [getElem?_set',if_neg (fun y=>z y.1)]; exact a,b⟩
theorem St.underO {s:Sl} (sr:SR g G H σ e) (hi:e[i]? = some s) (hs:K9 s kvs) (hp:σ[i]? = some (some (.ref p))) (n:G p = none) (hH:H p = some (.dK vs)) (rk:RepK g G kvs vs) (t:St g G (upd H p (.frz od (.dK vs))) σ (e.set i (.lo (.dct kvs))) G1 H1 σ1 e1) :
  H1 p = some (.frz od (.dK vs))∧e1[i]? = some (.lo (.dct kvs))∧St g G H σ e G1 (upd H1 p (.dK vs)) σ1 (e1.set i s):=by
 have hlt:=Bj hi
 have srl:SR g G (upd H p (.frz od (.dK vs))) σ (e.set i (.lo (.dct kvs))):=sr.lockO hi hs hp n hH rk
 have nrl:∀ j,¬ Rt σ (e.set i (.lo (.dct kvs))) j p:=fun j r=>srl.nofrz upd_same j r
 have h1:H1 p = some (.frz od (.dK vs)):=t.keep _ _ upd_same nrl fun ps z=>nomatch z
 have n1:G1 p = none:=t.new p n (by rw [upd_same]; exact fun z=>nomatch z) nrl
 have rtb:∀ j q,Rt σ (e.set i (.lo (.dct kvs))) j q→Rt σ e j q:=fun j q r=>by
  obtain ⟨r1,r2⟩:=r
  rw [getElem?_set'] at r1
  by_cases z:i = j
  ·rw [if_pos ⟨z,hlt⟩] at r1; exact r1.elim
  ·rw [if_neg (fun y=>z y.1)] at r1
   exact ⟨r1,r2⟩
 have rti:Rt σ e i p:=⟨by rw [hi]; rcases hs with rfl | rfl <;> trivial,hp⟩
 have l1:(e.set i (.lo (.dct kvs)))[i]? = some (.lo (.dct kvs)):=by rw [getElem?_set',if_pos ⟨rfl,hlt⟩]
 obtain ⟨σi,e1i⟩:=t.bof i _ l1 rfl
 have hp1:σ1[i]? = some (some (.ref p)):=σi.trans hp
 have nn:∀ {q:Addr},upd H p (.frz od (.dK vs)) q = none→H q = none:=fun {q} h=>by
  by_cases z:q = p
  ·rw [z,upd_same] at h; cases h
  ·rw [upd_ne z] at h; exact h
 have gt:∀ {j:Nat} {s0:Sl},i≠j→e[j]? = some s0→(e.set i (.lo (.dct kvs)))[j]? = some s0:=fun {j s0} z h=>by rw [getElem?_set',if_neg (fun y=>z y.1)]; exact h
 have gt':∀ {j:Nat} {s0:Sl},i≠j→(e1.set i s)[j]? = some s0→e1[j]? = some s0:=fun {j s0} z h=>by rw [getElem?_set',if_neg (fun y=>z y.1)] at h; exact h
 have hsi:(e1.set i s)[i]? = some s:=by rw [getElem?_set',if_pos ⟨rfl,Bj e1i⟩]
 refine ⟨h1,e1i,t.sr.unlockO e1i hs hp1 n1 h1 (rk.mono t.le) (fun j d' hj hl y=>?_),by rw [List.length_set,t.ln,List.length_set],t.le,fun a o h m nt=>?_,fun a h=>?_,fun a x y m=>?_,fun j q r=>?_,fun j d' q a b=>?_,fun j d' h=>?_,fun j s0 h fx=>?_,fun j d' h=>?_⟩
 ·have hl0:=t.nlo j d' hl
  obtain ⟨σj,_⟩:=t.bof j _ hl0 rfl
  rw [σj] at y
  rw [getElem?_set',if_neg (fun w=>hj w.1.symm)] at hl0
  have sl:=sr.slot j
  rw [hl0,y] at sl
  obtain ⟨p',a,b,c⟩:=sl
  cases a
  obtain ⟨ob,u,ho,_⟩:=c.there
  rw [hH] at ho; cases ho
 ·have z:a≠p:=fun z=>m i (by rw [z]; exact rti)
  rw [upd_ne z]
  exact t.keep a o (by rw [upd_ne z]; exact h) (fun j r=>m j (rtb j a r)) nt
 ·by_cases z:a = p
  ·rw [z,upd_same] at h; cases h
  ·rw [upd_ne z] at h
   exact nn (t.dom a h)
 ·have z:a≠p:=fun z=>m i (by rw [z]; exact rti)
  exact t.new a x (by rw [upd_ne z]; exact y) fun j r=>m j (rtb j a r)
 ·obtain ⟨r1,r2⟩:=r
  by_cases z:i = j
  ·subst z
   rw [hp1] at r2; cases r2
   exact .inl ⟨i,rti⟩
  ·rw [getElem?_set',if_neg (fun y=>z y.1)] at r1
   rcases t.rts j q ⟨r1,r2⟩ with ⟨l,w⟩ | w
   ·exact .inl ⟨l,rtb l q w⟩
   ·exact .inr (nn w)
 ·by_cases z:i = j
  ·subst z
   rw [hsi] at a; cases a
   rw [hp1] at b; cases b
   rcases hs with y | y
   ·cases y; exact .inl ⟨i,_,hi,hp⟩
   ·cases y
  ·rcases t.rto j d' q (gt' z a) b with ⟨l,d0,x,y⟩ | w
   ·by_cases w:i = l
    ·subst w; rw [l1] at x; cases x
    ·rw [getElem?_set',if_neg (fun y=>w y.1)] at x
     exact .inl ⟨l,d0,x,y⟩
   ·exact .inr (nn w)
 ·by_cases z:i = j
  ·subst z
   rw [hi] at h; cases h
   exact ⟨σi,kvs |> D.dct,.inl (by rw [hsi]; rcases hs with y | y <;> cases y; rfl)⟩
  ·obtain ⟨x,d'',y⟩:=t.bor j d' (gt z h)
   refine ⟨x,d'',?_⟩
   rw [getElem?_set',if_neg (fun y=>z y.1)]
   exact y
 ·by_cases z:i = j
  ·subst z
   rw [hi] at h; cases h
   rcases hs with y | y <;> subst y <;> cases fx
  ·obtain ⟨x,y⟩:=t.bof j s0 (gt z h) fx
   exact ⟨x,by rw [getElem?_set',if_neg (fun y=>z y.1)]; exact y⟩
 ·by_cases z:i = j
  ·subst z
   rw [hsi] at h; cases h
   rcases hs with y | y <;> cases y
  ·have:=t.nlo j d' (gt' z h)
   rw [getElem?_set',if_neg (fun y=>z y.1)] at this
   exact this
end
end Vs
namespace Vs
open PySem PySem.Spec PyProof.Rows L2 Fw SX
structure LcOk (g:Gm) (td:TE) (L:Ve→Option LkK):Prop where
 shd:∀ (G H:Hp) (σ:L2.St) (e:Ve) kvs,SR g G H σ e→L e = some (.shd kvs)→∃ d vs,G d = some (.dK vs)∧RepK g G kvs vs∧∀ H1:Hp,(∀ a,a≠d→H1 a = H a)→∀ Q:VK,Q (.ref d) H1→td σ H1 Q
 own:∀ (G H:Hp) (σ:L2.St) (e:Ve) i s kvs,SR g G H σ e→L e = some (.own i s kvs)→e[i]? = some s∧K9 s kvs∧∀ p H1,σ[i]? = some (some (.ref p))→∀ Q:VK,Q (.ref p) H1→td σ H1 Q
 lck:∀ (G H:Hp) (σ:L2.St) (e:Ve) i kvs,SR g G H σ e→L e = some (.lck i kvs)→e[i]? = some (.lo (.dct kvs))∧∀ p H1,σ[i]? = some (some (.ref p))→∀ Q:VK,Q (.ref p) H1→td σ H1 Q
section
variable {g:Gm} {W:WX} {k:Nat} {X:Cx}
theorem Adf {i:Nat}:LcOk g (tVar i) (Jf i):=by
 refine ⟨fun G H σ e kvs sr h=>?_,fun G H σ e j s kvs sr h=>?_,fun G H σ e j kvs sr h=>?_⟩
 ·have sl:=sr.slot i
  unfold Jf at h
  split at h <;> try cases h
  ·rename_i q
   rw [q] at sl
   obtain ⟨v,ev,a,vs,e1,e2,e3⟩:=sl
   exact ⟨a,vs,e2,e3,fun H1 _ Q hq=>⟨_,by rw [ev,e1],hq⟩⟩
  ·rename_i q
   rw [q] at sl
   obtain ⟨v,ev,a,vs,e1,e2,e3⟩:=sl
   exact ⟨a,vs,e2,e3,fun H1 _ Q hq=>⟨_,by rw [ev,e1],hq⟩⟩
 ·unfold Jf at h
  split at h <;> cases h
  ·rename_i q
   exact ⟨q,.inl rfl,fun p H1 hp Q hq=>⟨_,hp,hq⟩⟩
  ·rename_i q
   exact ⟨q,.inr rfl,fun p H1 hp Q hq=>⟨_,hp,hq⟩⟩
 ·unfold Jf at h
  split at h <;> cases h
  rename_i q
  exact ⟨q,fun p H1 hp Q hq=>⟨_,hp,hq⟩⟩
def fLcK (L:Ve→Option LkK) (F:D→M Unit) (T:M Bool) (E:M Rv) (vs:List Nat):M Rv:=lkE L fun ds=>fLc (M.ret ds) F T E vs
def Pe (L:Ve→Option LkK) (F:D→M Unit) (B:M Ctl):M Ctl:=lkE L fun ds=>Bh F B ds
variable {elt tg iter:Expr} {ifs:List Expr} {scope:Scope} {own:List (Str × Nat)} {pos:Pos} {L:Ve→Option LkK} {td:TE} {F:D→M Unit} {is:List Nat} {T:M Bool} {E:M Rv}
theorem Wg {G H H0:Hp} {σ:L2.St} {e:Ve} {p:Addr} {ob:Obj} {u:HO} {i:Nat} {s:Sl} (hH:H p = some (.frz ob u)) (hs:s≠.un) (hp:σ[i]? = some (some (.ref p))∨e.set i s = e):∀ {r:Rv} {v:V},RvOk g G H σ e H0 r v→RvOk g G (upd H p u) σ (e.set i s) H0 r v
 | .val d,v,h=>h
 | .slot j,v,⟨h,t,ht,hn⟩=>⟨h,by
  rw [getElem?_set']
  by_cases z:i = j∧i < e.length
  ·rw [if_pos z]; exact ⟨s,rfl,hs⟩
  ·rw [if_neg z]; exact ⟨t,ht,hn⟩⟩
 | .fresh d,v,⟨q,ev,n,o,h0,nr⟩=>by
  have ne:q≠p:=fun z=>by
   obtain ⟨oo,ho,pl,_⟩:=o.there
   rw [z,hH] at ho; cases ho; exact pl
  refine ⟨q,ev,n,o.mono (Le.refl G) (upd_ne ne),h0,fun j r=>?_⟩
  obtain ⟨r1,r2⟩:=r
  rw [getElem?_set'] at r1
  by_cases z:i = j∧i < e.length
  ·rcases hp with hp | hp
   ·rw [z.1] at hp; rw [hp] at r2; cases r2; exact ne rfl
   ·have:=nr j ⟨by rw [← hp,getElem?_set',if_pos z]; rw [if_pos z] at r1; exact r1,r2⟩
    exact this
  ·rw [if_neg z] at r1; exact nr j ⟨r1,r2⟩
theorem Ri {f:Ve→Ve} {r:Res Ctl} {D:Ends} {σ:L2.St} {G H:Hp} {e:Ve} (h:PstS g W D σ G H e (okR f r)):∃ a e',r = .ok a e'∧PstS g W D σ G H e (.ok a (f e')):=by
 cases r with
 | no=>exact h.elim
 | er x e'=>exact h.elim
 | ok a e'=>exact ⟨a,e',rfl,h⟩
theorem Adg {A:List D→M Ctl} {t:TS} {σ:L2.St} {H:Hp} {D:Ends} (hL:LcOk g td L)
  (core:∀ (G H:Hp) (e:Ve) (ds:List Vs.D) (J:It) (D:Ends),SR g G H σ e→ItOk g G H J ds→(∀ R':It→Hp→Prop,R' J H→iKeys td σ H R')→PstS g W D σ G H e (A ds e)→t D σ H)
  (h:TVS g W (lkE L A) D σ H):tLock t D σ H∨t D σ H:=by
 obtain ⟨G,e,sr,h⟩:=h
 unfold lkE at h
 cases qL:L e with
 | none=>simp only [qL] at h; exact h.elim
 | some lk =>
  simp only [qL] at h
  have nd:∀ {d:Addr} {o:HO},(∀ p,upd H d o p = none→H p = none):=fun {d o} p hp=>by
   by_cases z:p = d
   ·rw [z,upd_same] at hp; cases hp
   ·rw [upd_ne z] at hp; exact hp
  cases lk with
  | shd kvs =>
   obtain ⟨d,vs,hG,rk,loc⟩:=hL.shd G H σ e kvs sr qL
   obtain ⟨a,e',ea,h⟩:=Ri h
   rcases sr.bs.sub d _ hG with hH | ⟨_,o,hH⟩
   ·refine .inl ⟨d,_,hH,trivial,fun od=>?_⟩
    refine core G _ e (Dk kvs) _ _ (sr.lockS hG hH) (Pd rk upd_same) (fun R' hr=>loc _ (fun a z=>upd_ne z) _ ⟨d,od,rfl,.inl ⟨vs,upd_same,hr⟩⟩) ?_
    rw [ea]
    cases a with
    | nx=>exact fun σ' G' H' tr=>let ⟨h1,tr2⟩:=tr.underS sr hG hH; ⟨h1,h σ' G' _ tr2⟩
    | bk=>exact fun σ' G' H' tr=>let ⟨h1,tr2⟩:=tr.underS sr hG hH; ⟨h1,h σ' G' _ tr2⟩
    | ct=>exact fun σ' G' H' tr=>let ⟨h1,tr2⟩:=tr.underS sr hG hH; ⟨h1,h σ' G' _ tr2⟩
    | rt r =>
     intro v σ' G' H' tr ok
     obtain ⟨h1,tr2⟩:=tr.underS sr hG hH
     refine ⟨h1,h v σ' G' _ tr2 ?_⟩
     have:=Wg (i:=e'.length) (s:=.sh .non) h1 (fun z=>nomatch z) (.inr (List.set_eq_of_length_le (Nat.le_refl _))) ok
     rw [List.set_eq_of_length_le (Nat.le_refl _)] at this
     exact this.h0 nd
   ·refine .inr (core G H e (Dk kvs) _ _ sr (Pd rk hH) (fun R' hr=>loc _ (fun a z=>rfl) _ ⟨d,o,rfl,.inl ⟨vs,hH,hr⟩⟩) ?_)
    rw [ea]
    exact h
  | own i s kvs =>
   obtain ⟨hi,hs,loc⟩:=hL.own G H σ e i s kvs sr qL
   obtain ⟨p,vs,hp,n,hH,rk,rt⟩:=sr.ownDict hi hs
   obtain ⟨a,e',ea,h⟩:=Ri h
   refine .inl ⟨p,_,hH,trivial,fun od=>?_⟩
   refine core G _ _ (Dk kvs) _ _ (sr.lockO hi hs hp n hH rk) (Pd rk upd_same) (fun R' hr=>loc p _ hp _ ⟨p,od,rfl,.inl ⟨vs,upd_same,hr⟩⟩) ?_
   rw [ea]
   cases a with
   | nx=>exact fun σ' G' H' tr=>let ⟨h1,_,tr2⟩:=tr.underO sr hi hs hp n hH rk; ⟨h1,h σ' G' _ tr2⟩
   | bk=>exact fun σ' G' H' tr=>let ⟨h1,_,tr2⟩:=tr.underO sr hi hs hp n hH rk; ⟨h1,h σ' G' _ tr2⟩
   | ct=>exact fun σ' G' H' tr=>let ⟨h1,_,tr2⟩:=tr.underO sr hi hs hp n hH rk; ⟨h1,h σ' G' _ tr2⟩
   | rt r =>
    intro v σ' G' H' tr ok
    have l1:(e.set i (.lo (.dct kvs)))[i]? = some (.lo (.dct kvs)):=by rw [getElem?_set',if_pos ⟨rfl,Bj hi⟩]
    have hp1:=(tr.bof i _ l1 rfl).1.trans hp
    obtain ⟨h1,_,tr2⟩:=tr.underO sr hi hs hp n hH rk
    exact ⟨h1,h v σ' G' _ tr2 ((Wg h1 (fun z=>by rcases hs with y | y <;> rw [y] at z <;> cases z) (.inl hp1) ok).h0 nd)⟩
  | lck i kvs =>
   obtain ⟨hi,loc⟩:=hL.lck G H σ e i kvs sr qL
   obtain ⟨a,e',ea,h⟩:=Ri h
   have sl:=sr.slot i
   rw [hi] at sl
   obtain ⟨p,hp,n,ob,vs,hH,rk⟩:=sl
   refine .inr (core G H e (Dk kvs) _ _ sr (Pd rk hH) (fun R' hr=>loc p _ hp _ ⟨p,ob,rfl,.inl ⟨vs,hH,hr⟩⟩) ?_)
   rw [ea]
   exact h
theorem Adh {B:M Ctl} {body:List Stmt} (hd:Cd g W k X→PE X iter td) (hL:LcOk g td L) (hg:VG g X tg F is) (hb:VSs g W k X body B) (hs:∀ x,foldedSetIterable iter X.env x = pure x:=by intro _; rfl):VS g W k X (.For tg iter body [] pos) (Pe L F B):=by
 refine ⟨fun c=>?_⟩
 obtain ⟨t,p,q⟩:=hg.pg k W c
 have ps:=ps_for (pos:=pos) c.po c.calm (pi_keys (hd c)) p (hb.run c) hs
 exact ⟨fun pins s σ H D I h=>(PS.or (ps_lock ps) ps).run pins s σ H D I (Adg hL (fun G H e ds J D sr it hk h=>hk _ (Vj hg q sr it h)) h)⟩
end
end Vs
set_option maxRecDepth 100000
set_option maxHeartbeats 2000000
namespace Vs
open PySem PySem.Spec PyProof.Rows L2 Fw SX
def B2:Nat→List D→List D
 | _,[]=>[]
 | n,d :: r=>.tup [.int (n:Int),d] :: B2 (n + 1) r
theorem Hl:∀ (n:Nat) (ds:List D),(B2 n ds).length = ds.length
 | _,[]=>rfl
 | n,d :: r=>by rw [B2,List.length_cons,List.length_cons,Hl]
theorem Pf:∀ (n i:Nat) (ds:List D) (d:D),ds[i]? = some d→(B2 n ds)[i]? = some (.tup [.int ((n + i:Nat):Int),d])
 | n,i,[],d,h=>by simp at h
 | n,0,x :: r,d,h=>by cases h; rfl
 | n,i + 1,x :: r,d,h=>by
  have:=Pf (n + 1) i r d (by simpa using h)
  rw [B2,List.getElem?_cons_succ,this]
  rw [show n + 1 + i = n + (i + 1) by omega]
def M5 (A:M Rv):M (List D):=(Ad A).bind fun r e=>match r with
 | .val (.lst ds)=>.ok (B2 0 ds) e
 | .val (.str l)=>.ok (B2 0 (l.map fun c=>.str [c])) e
 | _=>.no
section
variable {g:Gm} {W:WX} {k:Nat} {X:Cx} {G H:Hp} {a:Addr} {vs:List V} {ds:List D}
theorem Adi (hs:SqL g.K G a vs) (r:Reps g G ds vs):ItOk g G H (Ite g.K a) (B2 0 ds):=by
 have hl:=r.len
 refine ⟨fun i G' H' le bs _ hi=>?_,fun G' H' le bs _=>?_,fun i G' H' x H'' le bs _ hi y=>?_⟩
 ·rw [Hl] at hi
  exact ⟨vs,vs[i]'(by omega),bs.sqL (le.sqL hs),List.getElem?_eq_getElem _⟩
 ·exact ⟨vs,bs.sqL (le.sqL hs),by rw [Hl,hl]; exact Nat.le_refl _⟩
 ·obtain ⟨T,u,ex,nT,eH,hy⟩:=y
  subst ex eH
  obtain ⟨d,hd,rd⟩:=r.at (hy vs (bs.sqL (le.sqL hs)))
  have gr:=Grow.lay2 (o:=HO.tup [.int (i:Nat),u]) bs nT (fun _ _ z=>nomatch z)
  refine ⟨.tup [.int ((0 + i:Nat):Int),d],_,Pf 0 i ds d hd,gr,T,_,rfl,.of upd_same,⟨.int (i:Nat),[u],rfl,by show _ = _; rw [Nat.zero_add],⟨u,[],rfl,(rd.mono le).mono gr.le,rfl⟩⟩⟩
theorem Adj (l:List Nat) (ok:OkS l):ItOk g G H (Oh (S l)) (B2 0 (l.map fun c=>.str [c])):=by
 have hl:(S l).cps.size = l.length:=S_len l
 refine ⟨fun i G' H' le bs _ hi=>?_,fun G' H' le bs _=>?_,fun i G' H' x H'' le bs _ hi y=>?_⟩
 ·rw [Hl,List.length_map] at hi
  exact (Qo (z:=S l)).goes i H' (by rw [hl]; exact hi) trivial
 ·have:=(Qo (z:=S l)).stops H' trivial
  rw [hl] at this
  rw [Hl,List.length_map]
  exact this
 ·rw [Hl,List.length_map] at hi
  obtain ⟨T,c,ex,nT,hc,eH⟩:=(Qo (z:=S l)).yields i H' x H'' (by rw [hl]; exact hi) trivial y
  subst ex eH
  have hc2:l[i]? = some c:=by
   rw [← hc]
   exact (Array.getElem?_toList (xs:=(S l).cps)).symm ▸ rfl
  have gr:=Grow.lay2 (o:=HO.tup [.int (i:Nat),.str ⟨#[c]⟩]) bs nT (fun _ _ z=>nomatch z)
  refine ⟨.tup [.int ((0 + i:Nat):Int),.str [c]],_,Pf 0 i _ (.str [c]) (by rw [List.getElem?_map,hc2]; rfl),gr,T,_,rfl,.of upd_same,⟨.int (i:Nat),[.str ⟨#[c]⟩],rfl,by show _ = _; rw [Nat.zero_add],⟨.str ⟨#[c]⟩,[],rfl,⟨rfl,fun x hx=>by rw [List.mem_singleton.mp hx]; exact ok c (List.mem_of_getElem? hc2)⟩,rfl⟩⟩⟩
theorem Adk {ex:Expr} {A:M Rv} {p pos tpos:Pos} {elts:List Expr} {kk:Nat} (hm:X.mg "enumerate" = none) (ha:VE g W k X ex A) (hg:Gl X "enumerate":=by rfl) (hs:starEach [ex] X.env = [(false,eval ex X.env)]:=by rfl):VI g W k X (.Tuple elts kk tpos) (.Call (.Name "enumerate" p) [ex] [] pos) (M5 A):=by
 refine ⟨fun c=>?_⟩
 have pa:PA X [ex] (tCons (TV g W (Ad A)) tNil):=pa_cons ((Ar ha).run c) pa_nil hs
 have pl:PI X (.Tuple elts kk tpos) (.Call (.Name "enumerate" p) [ex] [] pos) (iEnum g.K (tCons (TV g W (Ad A)) tNil)):=c.K ▸ pi_enum hg hm pa hs
 refine PI.imp (PI.or pl (enumS hm pa hg hs)) fun σ H R ⟨G,e,sr,q⟩=>?_
 unfold M5 M.bind at q
 cases qa:Ad A e with
 | no=>rw [qa] at q; exact q.elim
 | er x e'=>rw [qa] at q; exact .inl ⟨G,e,sr,by rw [qa]; exact q⟩
 | ok r e1 =>
  rw [qa] at q
  match r with
  | .slot _=>exact q.elim
  | .fresh _=>exact q.elim
  | .val d =>
   match d with
   | .lst ds =>
    refine .inl ⟨G,e,sr,?_⟩
    rw [qa]
    intro G1 H1 t v rp
    obtain ⟨a,vs,ev,sq,rps⟩:=rp
    exact ⟨a,vs,by rw [ev],t.sr.bs.sqL (.of sq),q G1 H1 t _ (Adi (.of sq) rps)⟩
   | .str l =>
    refine .inr ⟨G,e,sr,?_⟩
    rw [qa]
    intro G1 H1 t v rp
    exact ⟨S l,by rw [rp.1],q G1 H1 t _ (Adj l rp.2)⟩
   | .tup _=>exact q.elim
   | .non=>exact q.elim
   | .bl _=>exact q.elim
   | .int _=>exact q.elim
   | .dct _=>exact q.elim
   | .set _=>exact q.elim
   | .ins _ _=>exact q.elim
   | .con _=>exact q.elim
   | .scr _=>exact q.elim
end
section
variable {g:Gm}
end
def stoN (i:Nat) (r:Rv):M Unit:=match r with
 | .val d=>fun e=>if A0 e i = true then .ok () (e.set i (.sh d)) else .no
 | .fresh d=>fun e=>if A0 e i = true then .ok () (e.set i (.ow d)) else .no
 | .slot _=>fNo
def Lb (i j:Nat) (A:M (List Rv)):M Ctl:=A.bind fun rs=>match rs with
 | [a,b]=>(stoN i a).bind fun _=>(stoN j b).bind fun _=>fNx
 | _=>fNo
def Jg (i j l:Nat) (A:M (List Rv)):M Ctl:=A.bind fun rs=>match rs with
 | [a,b,c]=>(stoN i a).bind fun _=>(stoN j b).bind fun _=>(stoN l c).bind fun _=>fNx
 | _=>fNo
section
variable {g:Gm} {W:WX} {k:Nat} {X:Cx} {G H G1 H1 H0:Hp} {σ σ1:L2.St} {e e1 e2:Ve} {i:Nat}
theorem St.stoN {r:Rv} {v:V} (t:St g G H σ e G1 H1 σ1 e1) (ok:RvOk g G1 H1 σ1 e1 H r v) (h:stoN i r e1 = .ok () e2) :
  St g G H σ e G1 H1 (σ1.set i (some v)) e2∧(∀ r' v',(∀ d p d',r = .fresh d→v = .ref p→r' = .fresh d'→v'≠.ref p)→(∀ j,r'≠.slot j)→RvOk g G1 H1 σ1 e1 H r' v'→RvOk g G1 H1 (σ1.set i (some v)) e2 H r' v'):=by
 have keep:∀ {s:Sl},e2 = e1.set i s→i < e1.length→(∀ p,Dm (some s)→v = .ref p→∃ d,r = .fresh d)→∀ r' v',(∀ d p d',r = .fresh d→v = .ref p→r' = .fresh d'→v'≠.ref p)→(∀ j,r'≠.slot j)→RvOk g G1 H1 σ1 e1 H r' v'→RvOk g G1 H1 (σ1.set i (some v)) e2 H r' v':=fun {s} ee hl hs r' v' ap ns o=>by
  subst ee
  cases r' with
  | slot j=>exact absurd rfl (ns j)
  | val d=>exact o
  | fresh d =>
   obtain ⟨p,ev,n,ow,h0,nr⟩:=o
   refine ⟨p,ev,n,ow,h0,fun j rr=>?_⟩
   obtain ⟨r1,r2⟩:=rr
   rw [getElem?_set'] at r1 r2
   by_cases z:i = j
   ·rw [if_pos ⟨z,hl⟩] at r1
    rw [if_pos ⟨z,by rw [← t.sr.len]; exact hl⟩] at r2
    have r2:v = .ref p:=Option.some.inj (Option.some.inj r2)
    obtain ⟨d',e'⟩:=hs p r1 r2
    exact ap d' p d e' r2 rfl ev
   ·rw [if_neg (fun y=>z y.1)] at r1 r2
    exact nr j ⟨r1,r2⟩
 cases r with
 | slot j=>cases h
 | val d =>
  simp only [Vs.stoN] at h
  by_cases c:A0 e1 i = true
  ·rw [if_pos c] at h
   cases h
   exact ⟨St.sto t.sr c (.inl ⟨d,rfl,ok⟩) t (fun d p z=>nomatch z),keep rfl (Ks c).1 fun p z=>z.elim⟩
  ·rw [if_neg c] at h; cases h
 | fresh d =>
  simp only [Vs.stoN] at h
  by_cases c:A0 e1 i = true
  ·rw [if_pos c] at h
   cases h
   obtain ⟨p,ev,n,o,h0,nr⟩:=ok
   refine ⟨St.sto t.sr c (.inr ⟨d,p,rfl,ev,n,o,nr⟩) t fun d' p' z1 z2=>?_,keep rfl (Ks c).1 fun p _ _=>⟨d,rfl⟩⟩
   rw [ev] at z2; cases z2; exact h0
  ·rw [if_neg c] at h; cases h
theorem M6 {r:Rv} (h:stoN i r e = .ok () e1) (j:Nat):r≠.slot j:=fun z=>by subst z; cases h
theorem Adl {r:Rv} {x:Exn}:stoN i r e≠.er x e1:=by
 cases r with
 | slot j=>exact fun z=>nomatch z
 | val d=>unfold stoN; intro h; simp only at h; split at h <;> cases h
 | fresh d=>unfold stoN; intro h; simp only at h; split at h <;> cases h
theorem Jh {r:Rv} {c:M Ctl} {D:Ends} (h:PstS g W D σ G H e (M.bind (stoN i r) (fun _=>c) e1)):∃ e2,stoN i r e1 = .ok () e2∧PstS g W D σ G H e (c e2):=by
 unfold M.bind at h
 cases q:stoN i r e1 with
 | no=>rw [q] at h; exact h.elim
 | er x e'=>exact absurd q Adl
 | ok u e2=>rw [q] at h; exact ⟨e2,rfl,h⟩
theorem PstS.bindE0 {α:Type} {D:Ends} {f:M α} {c:α→M Ctl} (h:PstS g W D σ G H e (M.bind f c e)):Pst g W σ G H e (fun a G1 H1 e1=>PstS g W D σ G H e (c a e1)) (f e):=by
 unfold M.bind at h
 revert h
 cases f e with
 | no=>exact fun h=>h
 | er x e'=>exact fun h cls d G' H' t xo=>h cls d σ G' H' t.st xo
 | ok a e1=>exact fun h G1 H1 t=>h
theorem Adm {j:Nat} {x y:Str} {a b:Expr} {A:M (List Rv)} {px py pt pos:Pos} {kt k2 pt2} (hi:X.N[i]? = some x) (hj:X.N[j]? = some y)
  (hx:X.env.scope.names.lookup x = some .local) (hy:X.env.scope.names.lookup y = some .local) (ha:VA g W k X [a,b] A) (hij:i≠j:=by decide)
  (hw:swappedStores [.Tuple [.Name x px,.Name y py] kt pt] (.Tuple [a,b] k2 pt2) X.env = pure (some [x,y]):=by rfl)
  (hs:swapsWithSole [.Tuple [.Name x px,.Name y py] kt pt] (.Tuple [a,b] k2 pt2) pos.line X.env = pure false:=by rfl) :
  VS g W k X (.Assign [.Tuple [.Name x px,.Name y py] kt pt] (.Tuple [a,b] k2 pt2) pos) (Lb i j A):=by
 refine ⟨fun c=>PS.imp (ps_par c.calm c.nd hi hj hij hx hy (ha.run c) hw hs) fun D σ H ⟨G,e,sr,h⟩=>?_⟩
 refine ⟨G,e,sr,Pst.mono (PstS.bindE0 h) fun rs G1 H1 e1 t1 h1 vs rv=>?_⟩
 match rs,h1,rv with
 | [],h1,_=>exact h1.elim
 | [_],h1,_=>exact h1.elim
 | _ :: _ :: _ :: _,h1,_=>exact h1.elim
 | [r1,r2],h1,⟨v1,t,ev,o1,⟨v2,t',ev',o2,en,_⟩,ap⟩ =>
  subst ev ev' en
  obtain ⟨e2,s1,h2⟩:=Jh h1
  obtain ⟨e3,s2,h3⟩:=Jh h2
  refine ⟨v1,v2,rfl,?_⟩
  obtain ⟨st1,k1⟩:=St.stoN t1.st o1 s1
  obtain ⟨st2,_⟩:=St.stoN st1 (k1 r2 v2 (fun d p d' er ep e' z=>ap d p er ep d' v2 (by rw [e']; exact List.mem_cons_self) z) (M6 s2) o2) s2
  exact h3 _ G1 H1 st2
end
def Wh (rec:List (List Nat × D)→M (List (List Nat × D))) (vs:List Nat) (acc:List (List Nat × D)) (y z:Rv):M (List (List Nat × D)):=match y,z with
 | .val (.str k),.val v=>fun e=>if acc.length < sizeLine then rec (Ca acc k v) (An e vs) else .no
 | _,_=>fun _=>.no
def dcL (F:D→M Unit) (T:M Bool) (KX VX:M Rv) (vs:List Nat):List D→List (List Nat × D)→M (List (List Nat × D))
 | []=>fun acc=>M.ret acc
 | d :: r=>fun acc=>(F d).bind fun _=>T.bind fun b=>if b = true then ((Ad KX).bind fun y=>(Ad VX).bind fun z=>Wh (dcL F T KX VX vs r) vs acc y z) else fun e=>dcL F T KX VX vs r acc (An e vs)
def fDc (S:M (List D)) (F:D→M Unit) (T:M Bool) (KX VX:M Rv) (vs:List Nat):M Rv:=S.bind fun ds e=>if Fv e vs = true then (match dcL F T KX VX vs ds [] (An e vs) with
  | .ok ys e'=>.ok (.fresh (.dct ys)) (Cm e e' vs)
  | _=>.no) else .no
section
variable {g:Gm} {W:WX} {k:Nat} {X:Cx}
end
section
variable {g:Gm} {W:WX} {k:Nat} {X:Cx} {kx vx tg iter:Expr} {ifs:List Expr} {scope:Scope} {own:List (Str × Nat)} {pos:Pos} {S:M (List D)} {F:D→M Unit} {is:List Nat} {T:M Bool} {KX VX:M Rv}
end
def Adn (c:Str) (f:List Sl→Res Rv) (B:M (List Rv)):M Rv:=B.bind (E5 c f)
section
variable {g:Gm} {W:WX} {k:Nat} {X:Cx}
end
def E6:List Sl→Option (List D)
 | []=>some []
 | .sh d :: r=>(match E6 r with | some ds=>some (d :: ds) | none=>none)
 | _=>none
section
variable {P:Program} {w:World} {K:PySem.W.Frag} {mg:Str→Option Value} {base:Heap} {g:Gm}
theorem Ado {X:Cx} {body:List Stmt} {B:M Ctl} {k np:Nat} {H:Hp} {vs:List V} {Q:VK} {E:XK} {N:List Str} (hX:Cd g (WR E) k X) (hb:VSs g (WR E) k X body B) (h:spV g np (fnF np N.length B) vs H Q E) :
  ∃ t,PSs X body t∧t { nx:=fun _ H'=>Q .non H',rt:=Q } (L2.start N vs) H:=by
 obtain ⟨hl,G,as,ok,sr,h⟩:=h
 refine ⟨TVS g (WR E) B,hb.run hX,G,as ++ List.replicate (N.length - as.length) .un,Q1 sr,?_⟩
 have hla:as.length = np:=by rw [sr.len,List.length_map]; exact hl
 unfold fnF at h
 rw [if_pos hla] at h
 revert h
 cases B (as ++ List.replicate (N.length - as.length) .un) with
 | no=>exact fun h=>h
 | er x e'=>exact fun h cls d σ' G' H' t xo=>h cls d G' H' (Hg ok sr t) xo
 | ok c e' =>
  cases c with
  | nx=>exact fun h σ' G' H' t=>h G' H' (Hg ok sr t) .non rfl
  | bk=>exact fun h=>h.elim
  | ct=>exact fun h=>h.elim
  | rt r =>
   intro h v σ' G' H' t rv
   simp only at h
   cases q:Dt r e' with
   | no=>rw [q] at h; exact h.elim
   | er x e2=>rw [q] at h; exact h.elim
   | ok r' e2 =>
    rw [q] at h
    obtain ⟨G2,t2,nw⟩:=Vk ok sr t rv q
    exact h G2 H' t2 v nw
theorem Wi {G H:Hp}:∀ {as:List Sl} {vs:List V} {ds:List D} {m:Nat} {σ:L2.St} {es:Ve},(∀ i:Nat,as[i]? = es[m + i]?)→(∀ i:Nat,(vs[i]?).map some = σ[m + i]?)→as.length = vs.length→SR g G H σ es→E6 as = some ds→Reps g G ds vs
 | [],vs,ds,m,σ,es,h1,h2,hl,sr,h=>by
  cases h
  exact List.eq_nil_of_length_eq_zero hl.symm
 | a :: as,[],ds,m,σ,es,h1,h2,hl,sr,h=>by simp at hl
 | a :: as,v :: vs,ds,m,σ,es,h1,h2,hl,sr,h=>by
  cases a with
  | sh d =>
   simp only [E6] at h
   cases q:E6 as with
   | none=>rw [q] at h; cases h
   | some ds' =>
    rw [q] at h
    cases h
    have sl:=sr.slot m
    have e1:es[m]? = some (.sh d):=by have:=h1 0; simpa using this.symm
    have e2:σ[m]? = some (some v):=by have:=h2 0; simpa using this.symm
    rw [e1,e2] at sl
    obtain ⟨u,eu,ru⟩:=sl
    cases eu
    refine ⟨v,vs,rfl,ru,Wi (m:=m + 1) (σ:=σ) (es:=es) (fun i=>?_) (fun i=>?_) (by simpa using hl) sr q⟩
    ·have:=h1 (i + 1); rw [show m + 1 + i = m + (i + 1) by omega,← this]; simp
    ·have:=h2 (i + 1); rw [show m + 1 + i = m + (i + 1) by omega,← this]; simp
  | _=>cases h
theorem Adp {G H H0 H1:Hp} (k:∀ p,H1 p = none→H0 p = none):∀ {r:Rv} {v:V},RvNew g G H H1 r v→RvNew g G H H0 r v
 | .val d,_,h=>h
 | .fresh d,_,⟨p,a,b,c,h⟩=>⟨p,a,b,c,k p h⟩
end
end Vs
set_option maxRecDepth 100000
set_option maxHeartbeats 2000000
namespace Vs
open PySem PySem.Spec PyProof.Rows L2 Fw SX
section
variable {X:Cx} {pins:List (Addr × Obj)} {σ:L2.St} {H:Hp} {s:Shared}
end
section
variable {g:Gm} {W:WX} {k:Nat} {X:Cx}
end
def Wj (T:UInt64→Option (List Sl→Res Rv)) (i:Nat) (A:M (List Rv)):M Rv:=fun e=>match e[i]? with
 | some (.sh (.con (.flt j)))=>(match T j with
  | some F=>Ay F A e
  | none=>.no)
 | _=>.no
section
variable {g:Gm} {W:WX} {k:Nat} {X:Cx} {x:Str} {p pos:Pos} {ex:Expr} {es:List Expr} {i:Nat}
end
end Vs
set_option maxRecDepth 100000
set_option maxHeartbeats 2000000
namespace Vs
open PySem PySem.Spec PyProof.Rows L2 Fw SX
def spT (K:PySem.W.Frag) (cs:List Addr) (n:Nat):Sp:=fun vs H Q _=>∃ (a:Addr) (ns:List Int),vs = [.ref a]∧ns.length≤n∧(∀ p∈cs,H p = some (.tbl #[]))∧SqL K H a (ns.map V.int)∧∀ H',Q (.bl true) H'
section
variable {h:Heap} {H:Hp}
theorem Few.blt (f:Few h H) {mg:Str→Option Value} {P:Addr} (hg:h.Ns mainGlobals mg) (hT:h.get? P = some { cls:=.none,data:=.fields #[] })
  (x:∃ (bm:Addr) (ob:Obj),mg "__builtins__" = some (.ref bm)∧bm≠builtinsNs∧h.get? bm = some ob∧ob.cls = .type "module"∧ob.dict = some builtinsNs∧ob.data = .plain):(hidT h H).BuiltinsAt mg P:=by
 obtain ⟨bm,ob,b1,b2,b3,b4,b5,b6⟩:=x
 have nt:¬ Tk ob:=fun z=>by rcases z with ⟨vs,n,z⟩ | z <;> (rw [b6] at z; cases z)
 refine ⟨bm,ob,b1,b2,fun q=>?_,fun q=>?_,f.get b3 nt,b4,b5,b6⟩
 ·obtain ⟨o,es,ep,e,d,_⟩:=hg
  rw [q,e] at b3
  cases b3
  rw [d] at b6
  cases b6
 ·rw [q,hT] at b3
  cases b3
  cases b6
end
def Wk (l:PySem.W.OpenLaw) (w:World) (K:PySem.W.Frag) (k n:Nat) (x:Str) (mg:Str→Option Value) (fa:Addr) (h:Heap):Prop :=
 ∃ (fd:FuncData) (cs:List (Addr × Addr)),(∀ p∈cs,h.get? p.2 = some { cls:=.none,data:=.fields #[] })∧(∀ p∈cs,K.lookup p.2 = none)∧(∀ p∈cs,PySem.W.CodeHd h p.1 p.2)∧(∀ (s:Shared) (u:Value),BindsTo s fd ⟨[u],[]⟩ [(x,u)]) ∧
  ∀ base:Heap,K.In base→base.Ns mainGlobals mg→(∀ p∈cs,LamX.TabB base mg p.1 p.2)→FnG l.prog w K mg base CX0 k fa fd [x] (spT K (cs.map Prod.snd) n)
section
variable {P:Program} {w:World} {K:PySem.W.Frag} {mg mb:Str→Option Value} {k n:Nat} {fa a:Addr} {cs:List (Addr × Addr)} {fd:FuncData} {x:Str} {s:Shared} {vs:List Value} {ns:List Int}
theorem Wl (H:Hp) (hH:∀ p∈cs,H p.2 = some (.tbl #[])) (few:Few s.heap H) (only:∀ b,H b = none∨b∈cs.map Prod.snd∨∃ o xs,H b = some (.frz o (.lst xs))) (sq:SqL K H a (ns.map V.int)) (hok:HOk P w H s.heap) (kout:∀ b o,K.lookup b = some o→H b = none)
  (KX:K.In s.heap) (hg:s.heap.Ns mainGlobals mg) (hb:s.heap.Ns builtinsNs mb) (hbb:∀ x:Str,x≠"__name__"→mb x = bootBuiltins x) (hlim:s.heap.NoLimit) (gn:s.gens = #[])
  (hT:∀ p∈cs,s.heap.get? p.2 = some { cls:=.none,data:=.fields #[] }) (C:∀ p∈cs,PySem.W.CodeHd s.heap p.1 p.2)
  (hbm:∃ (bm:Addr) (ob:Obj),mg "__builtins__" = some (.ref bm)∧bm≠builtinsNs∧s.heap.get? bm = some ob∧ob.cls = .type "module"∧ob.dict = some builtinsNs∧ob.data = .plain)
  (hl:ns.length≤n) (hr:Rm k callerA) (hbind:∀ (s:Shared) (u:Value),BindsTo s fd ⟨[u],[]⟩ [(x,u)])
  (F:∀ base:Heap,K.In base→base.Ns mainGlobals mg→(∀ p∈cs,LamX.TabB base mg p.1 p.2)→FnG P w K mg base CX0 k fa fd [x] (spT K (cs.map Prod.snd) n)) :
  codeAny (model P w) callerA (.call (.ref fa) ⟨[.ref a],[]⟩) (fun r s'=>r = .ok (.ret (.bool true))∧OldK s.heap s'.heap∧s'.os = s.os∧AllBare s'.gens) s:=by
 have kb:K.In (hidT s.heap H):=fun b o e=>hidT_get (KX b o e) (kout b o e)
 have md:L2.Mod K mg (hidT s.heap H):=⟨kb,few.ns hg,⟨mb,few.ns hb,hbb⟩,let ⟨mc,h1,h2⟩:=hlim; ⟨mc,few.ns h1,h2⟩⟩
 have tb:∀ p∈cs,LamX.TabB (hidT s.heap H) mg p.1 p.2:=fun p hp=>⟨few.code (C p hp),few.blt hg (hT p hp) hbm,fun z=>by
  obtain ⟨o,es,ep,e,d,_⟩:=hg
  rw [z,hT p hp] at e
  cases e
  cases d⟩
 have e0:Env0 P w K mg (hidT s.heap H) callerA [] s H:=⟨rfl,md,fun b o e=>of_hidT e,Nat.le_of_eq (hidT_size _ _),trivial,fun b z=>(nomatch (show b∈([]:List Addr) from z)),hok,.of_eq gn⟩
 have sp:spT K (cs.map Prod.snd) n [.ref a] H (fun v _=>v = .bl true) fun _ _ _=>False:=⟨a,ns,rfl,hl,fun p hp=>by
  obtain ⟨q,hq,e⟩:=List.mem_map.mp hp
  rw [← e]
  exact hH q hq,sq,fun _=>rfl⟩
 refine codeAny_mono ((F _ kb (few.ns hg) tb).run callerA [] s H ⟨[.ref a],[]⟩ [.ref a] [.ref a] _ _ hr e0 (hbind s (.ref a)) (.cons rfl .nil) sp) fun r s' z=>?_
 match r,z with
 | .error e,z=>exact z.elim
 | .ok .next,z=>exact z.elim
 | .ok .brk,z=>exact z.elim
 | .ok .cont,z=>exact z.elim
 | .ok (.ret u),⟨v,H',os,bare,un,ok',rv,q⟩ =>
  obtain rfl:v = .bl true:=q
  obtain rfl:u = Value.bool true:=rv
  have same:∀ b o,b ∉ cs.map Prod.snd→s.heap.get? b = some o→s'.heap.get? b = some o:=fun b o nb e=>by
   rcases only b with z | z | ⟨ob,xs,z⟩
   ·exact un.keep b o e z (fun y=>(nomatch (show b∈([]:List Addr) from y))) (by simp)
   ·exact (nb z).elim
   ·have e1:=(hok b _ z).1
    have e2:=(ok' b _ (un.frzs b ob _ z)).1
    rw [e] at e1
    cases e1
    exact e2
  have tabs:∀ p∈cs,∃ more:Array Value,s'.heap.get? p.2 = some { cls:=.none,data:=.fields more }:=fun p hp=>by
   obtain ⟨more,z⟩:=un.tbls p.2 #[] (hH p hp)
   exact ⟨_,ok' p.2 _ z⟩
  have inT:∀ b,b∈cs.map Prod.snd→∃ p∈cs,p.2 = b:=fun b hb=>List.mem_map.mp hb
  refine ⟨rfl,⟨fun b o e=>?_,fun b o e=>?_⟩,os,bare⟩ <;> by_cases nb:b∈cs.map Prod.snd
  ·obtain ⟨p,hp,rfl⟩:=inT b nb
   obtain ⟨more,m⟩:=tabs p hp
   rw [hT p hp] at e
   cases e
   exact .inr (.inl ⟨((C p hp).tab (hT p hp)).isCodeTable,rfl,#[],more,rfl,by rw [Array.empty_append]; exact m⟩)
  ·exact .inl (same b o nb e)
  ·obtain ⟨p,hp,rfl⟩:=inT b nb
   obtain ⟨more,m⟩:=tabs p hp
   exact ⟨_,m⟩
  ·exact ⟨o,same b o nb e⟩
end
theorem walk_g {l:PySem.W.OpenLaw} {n k:Nat} {q:Program} {loose:List Str} {XP:(Str→Option Value)→Heap→Prop} {YP:World→Heap→Prop} {d:DefRec} {x:Str}
  (hn:l.most = some n) (hn2:n≤sizeLine) (hdf:d.params.defaults = []) (hr:Rm k callerA)
  (F:∀ (w:World) (mg:Str→Option Value) (fa:Addr) (h:Heap),YP w h→h.Ns mainGlobals mg→mg d.name = some (.ref fa)→∃ K:PySem.W.Frag,K.In h∧Wk l w K k n x mg fa h) :
  PySem.W.WalkO q loose XP YP l.row.toRowW d [] (fun f vs=>PySem.call f vs):=by
 refine Att.attach_callB hn hdf fun w s₀ s mg mb fa o pm cd doc a vs ns G Y ho hd hcd hmg hobj hints hlen hbits hg=>?_
 obtain ⟨K,KX,fd,cs,hT,nT,C,hb,hF⟩:=F w mg fa _ Y G.T.g hmg
 have rv:=vals_ints hints
 have lenV:=hints.length
 have hz:=Nat.le_trans hlen hn2
 have isT:∀ b:Addr,b∈cs.map Prod.snd→s.heap.get? b = some { cls:=.none,data:=.fields #[] }∧K.lookup b = none:=fun b hb=>by
  obtain ⟨p,hp,rfl⟩:=List.mem_map.mp hb
  exact ⟨hT p hp,nT p hp⟩
 have aT:a ∉ cs.map Prod.snd:=fun z=>by
  have q:=(isT a z).1
  rw [hobj] at q
  have z':Data.seq vs.toArray _ = Data.fields #[]:=congrArg Obj.data (Option.some.inj q)
  cases z'
 have mT:∀ p∈cs,p.2∈cs.map Prod.snd:=fun p hp=>List.mem_map.mpr ⟨p,hp,rfl⟩
 have tabO:∀ b,b∈cs.map Prod.snd→∀ H:Hp,ObjOk l.prog w H s.heap b (.tbl #[]):=fun b hb H=>(isT b hb).1
 cases hk:K.lookup a with
 | some oa =>
  have ea:=KX a oa hk
  rw [hobj] at ea
  cases ea
  let H:Hp:=fun b=>if b∈cs.map Prod.snd then some (.tbl #[]) else none
  have Hin:∀ b,b∈cs.map Prod.snd→H b = some (.tbl #[]):=fun b hb=>if_pos hb
  have Hout:∀ b,b ∉ cs.map Prod.snd→H b = none:=fun b hb=>if_neg hb
  refine Wl (a:=a) (ns:=ns) H (fun p hp=>Hin _ (mT p hp)) (fun b o e z=>?_) (fun b=>?_) (.inr ⟨_,vs.toArray,_,hk,rfl,rfl,rfl,by rw [List.size_toArray,lenV]; exact hz,by simpa using rv⟩) (fun b u z=>?_) (fun b o e=>?_) KX G.T.g G.T.b G.T.builtins G.T.nolimit hg hT C G.T.bmain hlen hr hb hF
  ·by_cases hb:b∈cs.map Prod.snd
   ·rw [(isT b hb).1] at e
    cases e
    exact .inr rfl
   ·exact absurd (Hout b hb) z
  ·by_cases hb:b∈cs.map Prod.snd
   ·exact .inr (.inl hb)
   ·exact .inl (Hout b hb)
  ·by_cases hb:b∈cs.map Prod.snd
   ·have y:=(Hin b hb).symm.trans z
    cases y
    exact tabO b hb H
   ·have y:=(Hout b hb).symm.trans z
    cases y
  ·exact Hout b fun hb=>by rw [(isT b hb).2] at e; cases e
 | none =>
  let H:Hp:=fun b=>if b = a then some (.frz { cls:=.type "list",data:=.seq vs.toArray } (.lst (ns.map V.int))) else if b∈cs.map Prod.snd then some (.tbl #[]) else none
  have Ha:H a = some (.frz { cls:=.type "list",data:=.seq vs.toArray } (.lst (ns.map V.int))):=if_pos rfl
  have Hin:∀ b,b∈cs.map Prod.snd→H b = some (.tbl #[]):=fun b hb=>(if_neg (fun z:b = a=>aT (z ▸ hb))).trans (if_pos hb)
  have Hout:∀ b,b≠a→b ∉ cs.map Prod.snd→H b = none:=fun b ha hb=>(if_neg ha).trans (if_neg hb)
  refine Wl (a:=a) (ns:=ns) H (fun p hp=>Hin _ (mT p hp)) (fun b o e z=>?_) (fun b=>?_) (.inl (.inr ⟨_,Ha⟩)) (fun b u z=>?_) (fun b o e=>?_) KX G.T.g G.T.b G.T.builtins G.T.nolimit hg hT C G.T.bmain hlen hr hb hF
  ·by_cases ha:b = a
   ·rw [ha,hobj] at e
    cases e
    exact .inl ⟨_,_,rfl⟩
   ·by_cases hb:b∈cs.map Prod.snd
    ·rw [(isT b hb).1] at e
     cases e
     exact .inr rfl
    ·exact absurd (Hout b ha hb) z
  ·by_cases ha:b = a
   ·rw [ha]
    exact .inr (.inr ⟨_,_,Ha⟩)
   ·by_cases hb:b∈cs.map Prod.snd
    ·exact .inr (.inl hb)
    ·exact .inl (Hout b ha hb)
  ·by_cases ha:b = a
   ·subst ha
    have y:=Ha.symm.trans z
    cases y
    exact ⟨hobj,by rw [List.length_map]; exact hz,vs,_,rv,hobj⟩
   ·by_cases hb:b∈cs.map Prod.snd
    ·have y:=(Hin b hb).symm.trans z
     cases y
     exact tabO b hb H
    ·have y:=(Hout b ha hb).symm.trans z
     cases y
  ·refine Hout b (fun z=>?_) fun hb=>?_
   ·rw [z,hk] at e; cases e
   ·rw [(isT b hb).2] at e; cases e
end Vs
set_option maxRecDepth 100000
set_option maxHeartbeats 2000000
namespace Vs
open PySem PySem.Spec PyProof.Rows L2 Fw SX
section
variable {g:Gm} {W:WX} {k:Nat} {X:Cx} {a b c d:Expr} {A B C:M Rv} {pos:Pos}
def D9 (g:Gm) (W:WX) (k:Nat) (X:Cx) (op:CmpOp) (f:D→D→Option Rv):Prop:=∃ r,(Cd g W k X→OpR X (compareOp op) r)∧OpV g r f
theorem c_eq:D9 g W k X .Eq eqG:=⟨_,fun c=>c.K ▸ op_eqD c.room.units,Abv⟩
theorem Ji:D9 g W k X .NotEq neG:=⟨_,fun c=>c.K ▸ op_neD c.room.units,Abw⟩
theorem c_lt:D9 g W k X .Lt ltD:=⟨_,fun _=>Ab4,Oy⟩
theorem c_le:D9 g W k X .LtE leD:=⟨_,fun _=>Ab5,Oy⟩
theorem c_gt:D9 g W k X .Gt gtD:=⟨_,fun _=>Ab6,Oy⟩
theorem c_ge:D9 g W k X .GtE geD:=⟨_,fun _=>Ab7,Oy⟩
theorem c_isn:D9 g W k X .IsNot C9:=⟨_,fun _=>Ab8,Ab9⟩
theorem Wm {op:CmpOp} {f:D→D→Option Rv} (h:D9 g W k X op f) (ha:VE g W k X a A) (hb:VE g W k X b B) (hm:behindInMarks op b = false:=by rfl):VE g W k X (.Compare a [op] [b] pos) (fOp f A B):=let ⟨_,h1,h2⟩:=h; Abj h1 h2 ha hb hm
theorem Dl {op:CmpOp} {f:D→D→Option Rv} (h:D9 g W k X op f) (ha:VE g W k X a A) (hb:VE g W k X b B) (hm:behindInMarks op b = false:=by rfl):VT g W k X (.Compare a [op] [b] pos) (A8 (fOp f A B)):=let ⟨_,h1,h2⟩:=h; Abk h1 h2 ha hb hm
theorem vt_c2 {op op':CmpOp} {f f':D→D→Option Rv} (h:D9 g W k X op f) (h':D9 g W k X op' f') (ha:VE g W k X a A) (hb:VE g W k X b B) (hc:VE g W k X c C) (hm:lastMarks [op,op'] [b,c] = false:=by with_unfolding_all rfl):VT g W k X (.Compare a [op,op'] [b,c] pos) (A8 (K1 f f' A B C)) :=
 let ⟨_,h1,h2⟩:=h; let ⟨_,h3,h4⟩:=h'; Abo h1 h2 h3 h4 ha hb hc hm
theorem En (ha:VE g W k X a A) (hb:VE g W k X b B):VE g W k X (.BinOp a .Add b pos) (fOp Br A B):=Kw (fun c=>c.K ▸ Ab2) Ab3 ha hb
theorem Adq (ha:VE g W k X a A) (hb:VE g W k X b B):VE g W k X (.BinOp a .Sub b pos) (fOp Mr A B):=Kw (fun _=>op_sub) Aby ha hb
theorem M7 (ha:VE g W k X a A) (hb:VE g W k X b B):VE g W k X (.BinOp a .Mod b pos) (fOp Hh A B):=Kw (fun _=>op_mod) Abz ha hb
theorem Wn (ha:VE g W k X a A) (hb:VE g W k X b B):VE g W k X (.BinOp a .FloorDiv b pos) (fOp Ms A B):=Kw (fun _=>op_fdivW) Ab0 ha hb
theorem Rj (ha:VE g W k X a A) (hb:VE g W k X b B):VE g W k X (.BinOp a .Pow b pos) (fOp F4 A B):=Kw (fun _=>op_pow) Ab1 ha hb
theorem Rk (ha:VE g W k X a A) (hb:VE g W k X b B):VE g W k X (.BinOp a .Mult b pos) (fOp D7 A B):=Kw (fun _=>Acg) Ach ha hb
end
section
variable {g:Gm} {W:WX} {k:Nat} {X:Cx} {ex:Expr} {es:List Expr} {A:M (List Rv)} {p pos:Pos}
theorem Jj (hm:X.mg "len" = none) (ha:VA g W k X (ex :: es) A) (hg:Gl X "len":=by rfl) (he:starEach (ex :: es) X.env = (false,eval ex X.env) :: starEach es X.env:=by rfl) (hpl:(backTo pos (starEach es X.env)).any (·.1) = false:=by rfl):VE g W k X (.Call (.Name "len" p) (ex :: es) [] pos) (Ao Bl A):=G9 (fun c=>c.K ▸ c.w ▸ Acl) Acn hg hm (by decide +kernel) ha (he:=he) (hpl:=hpl)
theorem Wo (hm:X.mg "abs" = none) (ha:VA g W k X (ex :: es) A) (hg:Gl X "abs":=by rfl) (he:starEach (ex :: es) X.env = (false,eval ex X.env) :: starEach es X.env:=by rfl) (hpl:(backTo pos (starEach es X.env)).any (·.1) = false:=by rfl):VE g W k X (.Call (.Name "abs" p) (ex :: es) [] pos) (Ao Mz A):=G9 (fun c=>call_abs) Acp hg hm (by decide +kernel) ha (he:=he) (hpl:=hpl)
theorem Adr (hm:X.mg "max" = none) (ha:VA g W k X (ex :: es) A) (hg:Gl X "max":=by rfl) (he:starEach (ex :: es) X.env = (false,eval ex X.env) :: starEach es X.env:=by rfl) (hpl:(backTo pos (starEach es X.env)).any (·.1) = false:=by rfl):VE g W k X (.Call (.Name "max" p) (ex :: es) [] pos) (Ao K6 A):=G9 (fun c=>call_max2 c.calm) Acq hg hm (by decide +kernel) ha (he:=he) (hpl:=hpl)
theorem Ads (hm:X.mg "min" = none) (ha:VA g W k X (ex :: es) A) (hg:Gl X "min":=by rfl) (he:starEach (ex :: es) X.env = (false,eval ex X.env) :: starEach es X.env:=by rfl) (hpl:(backTo pos (starEach es X.env)).any (·.1) = false:=by rfl):VE g W k X (.Call (.Name "min" p) (ex :: es) [] pos) (Ao K7 A):=G9 (fun c=>call_min2 c.calm) Acr hg hm (by decide +kernel) ha (he:=he) (hpl:=hpl)
theorem Adt (hm:X.mg "all" = none) (ha:VA g W k X (ex :: es) A) (hg:Gl X "all":=by rfl) (he:starEach (ex :: es) X.env = (false,eval ex X.env) :: starEach es X.env:=by rfl) (hpl:(backTo pos (starEach es X.env)).any (·.1) = false:=by rfl):VE g W k X (.Call (.Name "all" p) (ex :: es) [] pos) (Ao M0 A):=G9 (fun c=>c.K ▸ cr_all c.calm) Acs hg hm (by decide +kernel) ha (he:=he) (hpl:=hpl)
theorem Adu (hm:X.mg "any" = none) (ha:VA g W k X (ex :: es) A) (hg:Gl X "any":=by rfl) (he:starEach (ex :: es) X.env = (false,eval ex X.env) :: starEach es X.env:=by rfl) (hpl:(backTo pos (starEach es X.env)).any (·.1) = false:=by rfl):VE g W k X (.Call (.Name "any" p) (ex :: es) [] pos) (Ao O7 A):=G9 (fun c=>c.K ▸ cr_any c.calm) Acu hg hm (by decide +kernel) ha (he:=he) (hpl:=hpl)
theorem Jk (hm:X.mg "isinstance" = none) (ha:VA g W k X (ex :: es) A) (hg:Gl X "isinstance":=by rfl) (he:starEach (ex :: es) X.env = (false,eval ex X.env) :: starEach es X.env:=by rfl) (hpl:(backTo pos (starEach es X.env)).any (·.1) = false:=by rfl):VE g W k X (.Call (.Name "isinstance" p) (ex :: es) [] pos) (Ao Bx A):=G9 (fun c=>c.K ▸ call_isi) Adc hg hm (by decide +kernel) ha (he:=he) (hpl:=hpl)
theorem M8 (hm:X.mg "int" = none) (ha:VA g W k X (ex :: es) A) (hg:Gl X "int":=by rfl) (he:starEach (ex :: es) X.env = (false,eval ex X.env) :: starEach es X.env:=by rfl) (hpl:(backTo pos (starEach es X.env)).any (·.1) = false:=by rfl):VE g W k X (.Call (.Name "int" p) (ex :: es) [] pos) (Ao intD A):=Abl (fun c=>call_int1) Aco hg hm (by decide +kernel) ha (he:=he) (hpl:=hpl)
end
end Vs
set_option maxRecDepth 100000
set_option maxHeartbeats 2000000
namespace Vs
open PySem PySem.Spec PyProof.Rows L2 Fw SX
section
variable {g:Gm} {W:WX} {k:Nat} {X:Cx} {o ex:Expr} {O:M Rv} {A:M (List Rv)} {apos cpos p:Pos} {x:Str} {i:Nat}
theorem Rl (ho:VE g W k X o O) (ha:VA g W k X [ex] A) (hbase:attributeBase o "join" X.env (eval o X.env) = eval o X.env:=by rfl)
  (hfew:((backTo cpos (starEach [ex] X.env)).all (fun x=>!x.1) && (backToKw cpos (keywordEach [] X.env)).all (fun x=>x.1.isSome) && decide ([ex].length + ([]:List Keyword).length + (if ([]:List Keyword).isEmpty then 0 else 1) < 30)) = true:=by rfl)
  (hline:(apos.endLine == cpos.line) = true:=by rfl) (hs:starEach [ex] X.env = (false,eval ex X.env) :: starEach [] X.env:=by rfl) (hplain:(backTo cpos (starEach [] X.env)).any (·.1) = false:=by rfl) :
  VE g W k X (.Call (.Attribute o "join" apos) [ex] [] cpos) (Hi "str" El O A):=Acx PySem.F.plainAttrs_str PySem.F.slot_str_join PySem.F.type_str_join (fun c=>c.K ▸ mt_join) Acy ho ha hbase hfew hline hs hplain
end
def Lc:D→D→Option D
 | .int i,.int j=>some (.int (i + j))
 | .str a,.str b=>if a.length + b.length≤sizeLine then some (.str (a ++ b)) else none
 | _,_=>none
def fAug (i:Nat) (A:M Rv):M Ctl:=fun e0=>match e0[i]? with
 | some (.sh d0)=>(A.bind fun r e=>match Af r e with
  | some d=>(match Lc d0 d with | some out=>D5 i (.val out) e | none=>.no)
  | none=>.no) e0
 | some (.ow (.lst _))=>(A.bind fun r e=>match e[i]?,Af r e with
  | some (.ow (.lst xs)),some (.lst ys)=>if xs.length + ys.length≤sizeLine then .ok .nx (e.set i (.ow (.lst (xs ++ ys)))) else .no
  | _,_=>.no) e0
 | _=>.no
section
variable {g:Gm} {W:WX} {k:Nat} {X:Cx}
end
section
variable {g:Gm} {W:WX} {k:Nat} {X:Cx}
def M9:M Rv:=fun e=>.ok (.fresh (.dct [])) e
theorem Adv {pos:Pos}:VE g W k X (.Dict [] [] pos) M9 :=
 Qq (fun _=>pe_dnewK) fun σ H Q ⟨G,e,sr,h⟩ p np=>by
  have gr:=Grow.lay (o:=HO.dK []) sr.bs np
  exact h G _ (gr.tr sr) (.ref p) ⟨p,rfl,sr.bs.hn np,⟨[],upd_same,rfl⟩,np,fun i r=>(sr.root r).2 np⟩
end
section
variable {P:Program} {w:World} {K:PySem.W.Frag} {mg:Str→Option Value} {base:Heap} {g:Gm} {j:Nat} {f:Addr} {fd:FuncData} {ps:List Str} {CXa:CXT} {np n m:Nat} {B:M Ctl} {dvs:List V} {dd:List D} {ks:List Str}
theorem Cb (Fk:FnG P g.w g.K mg base CXa j f fd ps (spV g np (fnF np n B))) (hb:∃ ds,Vals [] ds∧Binds g.K fd ps ds):FnK P g.w g.K mg base CXa j f [] (spR g (fnF np n B)):=by
 obtain ⟨ds,hv,hb⟩:=hb
 cases hv
 exact fk_of Fk hb
end
end Vs
set_option maxRecDepth 100000
set_option maxHeartbeats 2000000
namespace Vs
open PySem PySem.Spec PyProof.Rows L2 Fw SX
def Wq (A K Z:M Rv):M Rv:=A.bind fun a e0=>match Af a e0 with
 | some (.dct _)=>(K.bind fun y=>(Ad Z).bind fun z e=>match Af a e,Af y e,z with
  | some (.dct kvs),some (.str k),.val d=>.ok (.val ((A4 kvs k).getD d)) e
  | _,_,_=>.no) e0
 | _=>.no
section
variable {g:Gm} {W:WX} {k:Nat} {X:Cx} {o e f:Expr} {apos cpos:Pos} {A K Z:M Rv}
end
def fNeg (A:M Rv):M Rv:=A.bind fun r e=>match r with
 | .val (.int i)=>.ok (.val (.int (-i))) e
 | _=>.no
theorem RepK.mem {g:Gm} {G:Hp}:∀ {kvs:List (List Nat × D)} {vs:List (Key × V)},RepK g G kvs vs→∀ q∈vs,∃ kd∈kvs,q.1 = .inr (S kd.1)∧Rep g G kd.2 q.2
 | [],vs,r=>fun q hq=>by rw [show vs = [] from r] at hq; cases hq
 | (k,d) :: kvs,vs,⟨_,v,r,e,a,b⟩=>fun q hq=>by
  subst e
  rcases List.mem_cons.mp hq with z | z
  ·exact ⟨(k,d),List.mem_cons_self,by rw [z],by rw [z]; exact a⟩
  ·obtain ⟨kd,h1,h2⟩:=RepK.mem b q z
   exact ⟨kd,List.mem_cons_of_mem _ h1,h2⟩
section
variable {g:Gm}
variable {W:WX} {k:Nat} {X:Cx}
end
def Ea:List D→Option Rv
 | [.dct kvs]=>if kvs.length < 64 then some (.fresh (.lst ((Ax (kvs.map (·.1))).map .str))) else none
 | _=>none
def Adw:List V→Hp→VK→Prop:=fun xs H Q=>∃ (a:Addr) (kvs:List (Key × V)) (ks:List Str),xs = [.ref a]∧Rd H a (.dK kvs)∧kvs.map (·.1) = ks.map Sum.inr∧ks.length < 64∧∀ ys p,ys.Perm ks→sortedS ys = true→H p = none→Q (.ref p) (upd H p (.lst (ys.map V.str)))
theorem RepK.keys {g:Gm} {G:Hp}:∀ {kvs:List (List Nat × D)} {vs:List (Key × V)},RepK g G kvs vs→vs.map (·.1) = (kvs.map fun q=>S q.1).map Sum.inr∧∀ q∈kvs,OkS q.1
 | [],vs,r=>by rw [show vs = [] from r]; exact ⟨rfl,fun q hq=>nomatch hq⟩
 | (k,d) :: kvs,vs,⟨ok,v,r,e,a,b⟩=>by
  obtain ⟨h1,h2⟩:=RepK.keys b
  subst e
  refine ⟨by simp only [List.map_cons]; rw [h1],fun q hq=>?_⟩
  rcases List.mem_cons.mp hq with z | z
  ·rw [z]; exact ok
  ·exact h2 q z
theorem Adx {g:Gm}:CallV g Adw Ea:=fun G H ds vs out Q bs sc r e q=>by
 match ds,e with
 | [],e=>cases e
 | d :: d' :: t,e=>cases d <;> cases e
 | [d],e =>
  obtain ⟨v,ev,a⟩:=r.one
  subst ev
  cases d <;> try cases e
  rename_i kvs
  by_cases c:kvs.length < 64
  ·rw [show Ea [.dct kvs] = _ from if_pos c] at e
   cases e
   obtain ⟨p1,us,e1,q1,r1⟩:=a.dct bs
   obtain ⟨k1,k2⟩:=r1.keys
   refine ⟨p1,us,_,by rw [e1],q1,k1,by rw [List.length_map]; exact c,fun ys p hp hs np=>?_⟩
   have ey:ys = (Ax (kvs.map (·.1))).map S:=by rw [V2,List.map_map]; exact U4 hp (Aa4 hs)
   rw [ey]
   refine q _ G _ (Grow.lay bs np) ⟨p,rfl,bs.hn np,⟨_,upd_same,Reps.strs fun l hl=>?_⟩,np⟩
   obtain ⟨kd,hk,rfl⟩:=List.mem_map.mp (srtN_mem.mp hl)
   exact k2 kd hk
  ·rw [show Ea [.dct kvs] = _ from if_neg c] at e
   cases e
theorem Pg {g:Gm} {W:WX} {k:Nat} {X:Cx} {ex:Expr} {es:List Expr} {A:M (List Rv)} {p pos:Pos} (hm:X.mg "sorted" = none) (ha:VA g W k X (ex :: es) A) (hg:Gl X "sorted":=by rfl) (he:starEach (ex :: es) X.env = (false,eval ex X.env) :: starEach es X.env:=by rfl) (hpl:(backTo pos (starEach es X.env)).any (·.1) = false:=by rfl) :
  VE g W k X (.Call (.Name "sorted" p) (ex :: es) [] pos) (Ao Ea A):=G9 (fun c=>call_sortedD c.calm) Adx hg hm (by decide +kernel) ha (he:=he) (hpl:=hpl)
section
variable {P:Program} {mg:Str→Option Value} {base:Heap} {g:Gm} {j np n m:Nat} {f:Addr} {fd:FuncData} {ps:List Str} {B:M Ctl} {CXa:CXT}
end
end Vs
set_option maxRecDepth 100000
set_option maxHeartbeats 2000000
namespace Vs
open PySem PySem.Spec PyProof.Rows L2 Fw SX
section
variable {g:Gm} {G H G1 H1:Hp} {σ σ1:L2.St} {e e1:Ve} {d p:Addr} {vs:List V} {od:Obj} {i:Nat} {kvs:List D}
end
def Wr (i:Nat) (F:D→M Unit) (B:M Ctl):M Ctl:=fun e=>match e[i]? with
 | some (.ow (.lst ds))=>okR (fun e'=>e'.set i (.ow (.lst ds))) (Bh F B ds (e.set i (.lo (.lst ds))))
 | some (.bo (.lst ds))=>okR (fun e'=>e'.set i (.bo (.lst ds))) (Bh F B ds (e.set i (.lo (.lst ds))))
 | some (.lo (.lst ds))=>Bh F B ds e
 | _=>Ez (D6 (Aa i)) F B e
section
variable {g:Gm} {W:WX} {k:Nat} {X:Cx} {tg:Expr} {F:D→M Unit} {is:List Nat} {x:Str} {p pos:Pos} {i:Nat}
end
end Vs
set_option maxRecDepth 100000
set_option maxHeartbeats 2000000
namespace Vs
open PySem PySem.Spec PyProof.Rows L2 Fw SX
theorem Ws {h:Heap} {P:Program} {w:World}:∀ {es:List DictEntry} {kvs:List (Key × Value)},Pairs (mixKind P w) es kvs→ReadsAll h (es.map (·.key)) (kvs.map fun q=>kPy q.1) []∧es.map (·.val) = kvs.map (·.2)
 | _,_,.nil=>⟨.nil,rfl⟩
 | _,_,.cons (e:=e) (kv:=kv) hk hv t=>by
  obtain ⟨t1,t2⟩:=Ws t
  refine ⟨?_,by rw [List.map_cons,List.map_cons,hv,t2]⟩
  rw [List.map_cons,List.map_cons]
  refine ReadsAll.cons (as:=[]) (bs:=[]) ?_ t1
  rcases keyIs_shape hk with ⟨i,t,e1,e2⟩ | ⟨x,t,e1,e2⟩
  ·rw [e2]
   obtain ⟨k,v⟩:=kv
   cases e1
   exact .int i t
  ·rw [e2]
   obtain ⟨k,v⟩:=kv
   cases e1
   exact .str x t
section
variable {X:Cx} {pins:List (Addr × Obj)} {σ:L2.St} {H:Hp} {s:Shared}
def Rn (K:PySem.W.Frag):Prop:=∃ o,K.lookup sysModules = some o
theorem Rd.nsys (I:Inv X pins σ H s) (sy:Rn X.K) {a:Addr} {u:HO} (r:Rd H a u):sysModules≠a:=fun z=>by
 obtain ⟨o,ho⟩:=sy
 have n:=(I.bs _ _ (I.ok.mod.kin _ _ ho)).2
 rw [z] at n
 rcases r with r | ⟨ob,r⟩ <;> (rw [n] at r; cases r)
theorem Wt {kvs:List (Key × V)} {vs:List (Key × Value)}:KV kvs vs→kvs.map (fun q=>kPy q.1) = vs.map (fun q=>kPy q.1)∧Vals (kvs.map (·.2)) (vs.map (·.2))
 | .nil=>⟨rfl,.nil⟩
 | .cons ⟨h1,h2⟩ t=>by
  obtain ⟨t1,t2⟩:=Wt t
  exact ⟨by simp only [List.map_cons]; rw [h1,t1],.cons h2 t2⟩
mutual
theorem Dr.reads (I:Inv X pins σ H s) (sy:Rn X.K):∀ {v:V} {d:PyData} {u:Value},Dr X.K H v d→RelV v u→∃ as,Reads s.heap u d as∧sysModules ∉ as
 | _,_,_,.non,r=>by cases r; exact ⟨_,Reads.none,by simp⟩
 | _,_,_,.bl b,r=>by cases r; exact ⟨_,Reads.bool b,by simp⟩
 | _,_,_,.int i,r=>by obtain ⟨t,rfl⟩:=r; exact ⟨_,Reads.int i t,by simp⟩
 | _,_,_,.str x,r=>by obtain ⟨t,rfl⟩:=r; exact ⟨_,Reads.str x t,by simp⟩
 | _,_,_,.lst (a:=a) hs ha,r=>by
  cases r
  obtain ⟨_,its,n,rv,ho⟩:=Rd.ok hs I.hok
  obtain ⟨as,hr,hn⟩:=DrAll.reads I sy ha rv
  exact ⟨_,Reads.list ho rfl rfl hr,by
   intro z
   rcases List.mem_cons.mp z with z | z
   ·exact Rd.nsys I sy hs z
   ·exact hn z⟩
 | _,_,_,.tup hs ha,r=>by
  cases r
  obtain ⟨its,rv,⟨o,ho,hc,n,hd⟩,_⟩:=I.tuple hs
  obtain ⟨as,hr,hn⟩:=DrAll.reads I sy ha rv
  exact ⟨_,Reads.tuple ho hc hd hr,hn⟩
 | _,_,_,.dct (a:=a) (kvs:=kvs) (ds:=ds) hs ha,r=>by
  cases r
  obtain ⟨_,_,vs,kv,o,es,ep,ho,hx,hd,_,hp,_⟩:=Rd.ok hs I.hok
  obtain ⟨k1,k2⟩:=Wt kv
  obtain ⟨p1,p2⟩:=Ws (h:=s.heap) hp
  rw [← p2] at k2
  obtain ⟨as,hr,hn⟩:=DrAll.reads I sy ha k2
  have le:(kvs.map fun q=>kPy q.1).length = ds.length:=by rw [List.length_map,← ha.len,List.length_map]
  refine ⟨_,Reads.dict (as:=[]) (bs:=as) ho hx.1 hd ?_ ?_,by
   intro z
   rcases List.mem_cons.mp z with z | z
   ·exact Rd.nsys I sy hs z
   ·exact hn z⟩
  ·rw [List.map_fst_zip (Nat.le_of_eq le),k1]
   exact p1
  ·rw [List.map_snd_zip (Nat.le_of_eq le.symm)]
   exact hr
theorem DrAll.reads (I:Inv X pins σ H s) (sy:Rn X.K):∀ {vs:List V} {ds:List PyData} {us:List Value},DrAll X.K H vs ds→Vals vs us→∃ as,ReadsAll s.heap us ds as∧sysModules ∉ as
 | _,_,_,.nil,r=>by cases r; exact ⟨_,ReadsAll.nil,by simp⟩
 | _,_,_,.cons h1 h2,r=>by
  cases r with
  | cons r1 r2 =>
   obtain ⟨as,q1,n1⟩:=Dr.reads I sy h1 r1
   obtain ⟨bs,q2,n2⟩:=DrAll.reads I sy h2 r2
   exact ⟨_,ReadsAll.cons q1 q2,by
    intro z
    rcases List.mem_append.mp z with z | z
    ·exact n1 z
    ·exact n2 z⟩
end
end
mutual
def rPy:D→PyData
 | .non=>.none
 | .bl b=>.bool b
 | .int i=>.int i
 | .str l=>.str (S l)
 | .lst xs=>.list (Cg xs)
 | .tup xs=>.tuple (Cg xs)
 | .dct kvs=>.dict (Cv kvs)
 | _=>.none
def Cg:List D→List PyData
 | []=>[]
 | x :: xs=>rPy x :: Cg xs
def Cv:List (List Nat × D)→List (PyData × PyData)
 | []=>[]
 | (k,d) :: r=>(.str (S k),rPy d) :: Cv r
end
mutual
def rok:D→Bool
 | .non=>true
 | .bl _=>true
 | .int i=>decide (i.natAbs.log2 < 1920)
 | .str _=>true
 | .lst xs=>Na xs
 | .tup xs=>Na xs
 | .dct kvs=>Ph kvs
 | _=>false
def Na:List D→Bool
 | []=>true
 | x :: xs=>rok x && Na xs
def Ph:List (List Nat × D)→Bool
 | []=>true
 | (_,d) :: r=>rok d && Ph r
end
mutual
def szD:D→Nat
 | .int _=>1921
 | .str l=>10 * l.length + 2
 | .lst xs=>Jl xs + 3
 | .tup xs=>Jl xs + 3
 | .dct kvs=>szK kvs + 3
 | _=>5
def Jl:List D→Nat
 | []=>0
 | x :: xs=>szD x + 2 + Jl xs
def szK:List (List Nat × D)→Nat
 | []=>0
 | (k,d) :: r=>10 * k.length + 2 + 2 + szD d + 2 + szK r
end
mutual
def dpD:D→Nat
 | .lst xs=>Nb xs + 1
 | .tup xs=>Nb xs + 1
 | .dct kvs=>dpK kvs + 1
 | _=>0
def Nb:List D→Nat
 | []=>0
 | x :: xs=>max (dpD x) (Nb xs)
def dpK:List (List Nat × D)→Nat
 | []=>0
 | (_,d) :: r=>max (dpD d) (dpK r)
end
def OkT (x:Str):Prop:=OkS x.cps.toList
theorem OkT.app {a b:Str} (ha:OkT a) (hb:OkT b):OkT (a ++ b):=by
 show OkS (TL.tl (a ++ b))
 rw [TL.tl_append]
 exact OkS.app ha hb
theorem OkT.lit {x:Str} (h:(x.cps.toList.all fun c=>decide (c < 1114112)) = true):OkT x:=fun c hc=>by
 have:=List.all_eq_true.mp h c hc
 simpa using this
theorem OkT.join {sep:Str} (hs:OkT sep):∀ {ts:List Str},(∀ t∈ts,OkT t)→OkT (Str.join sep ts)
 | [],_=>fun c hc=>by
  have:c∈([]:List Nat):=hc
  simp at this
 | [x],h=>h x (List.mem_cons_self ..)
 | x :: y :: r,h=>(((h x (List.mem_cons_self ..)).app hs).app (OkT.join hs fun t ht=>h t (List.mem_cons_of_mem _ ht)))
theorem Ady (i:Int):OkT ((toString i:String):Str):=fun c hc=>by
 rcases Nat.lt_or_ge c 1114112 with h | h
 ·exact h
 ·exact absurd hc (int_text_free' c ⟨by omega,by omega⟩ i)
theorem Ro (c:Nat):OkS ((Nat.toDigits 16 c).map Char.toNat):=fun d hd=>by
 obtain ⟨ch,_,rfl⟩:=List.mem_map.mp hd
 have:=ch.valid
 show ch.val.toNat < 1114112
 rcases this with h | h
 ·have h':ch.val.toNat < 0xd800:=h
  omega
 ·exact h.2
theorem Rp (n:Nat) {l:List Nat} (h:OkS l):OkS (List.replicate n 48 ++ l):=OkS.app (fun c hc=>by rw [List.eq_of_mem_replicate hc]; decide) h
theorem Nc {c:Nat} {l:List Nat} (hc:c < 1114112) (h:OkS l):OkS (c :: l):=fun d hd=>by
 rcases List.mem_cons.mp hd with z | z
 ·rw [z]; exact hc
 ·exact h d z
theorem Pj:OkS []:=fun c hc=>nomatch hc
theorem Adz {q c:Nat} (hc:c < 1114112):OkS (Builtin.Str.reprChar q c):=by
 unfold Builtin.Str.reprChar
 have l2:∀ a:Nat,a < 1114112→OkS [92,a]:=fun a ha=>Nc (by decide) (Nc ha Pj)
 dsimp only
 split
 ·exact l2 c hc
 split
 ·exact l2 _ (by decide)
 split
 ·exact l2 _ (by decide)
 split
 ·exact l2 _ (by decide)
 split
 ·exact Nc hc Pj
 split
 ·exact OkS.app (l2 _ (by decide)) (Rp _ (Ro c))
 split
 ·exact OkS.app (l2 _ (by decide)) (Rp _ (Ro c))
 ·exact OkS.app (l2 _ (by decide)) (Rp _ (Ro c))
theorem Wu {q:Nat}:∀ (l:List Nat) (acc:Array Nat),OkS acc.toList→OkS l→OkS (l.foldl (fun out c=>out ++ (Builtin.Str.reprChar q c).toArray) acc).toList
 | [],acc,h,_=>h
 | c :: l,acc,h,hl=>by
  rw [List.foldl_cons]
  refine Wu l _ ?_ fun d hd=>hl d (List.mem_cons_of_mem _ hd)
  rw [Array.toList_append,List.toList_toArray]
  exact OkS.app h (Adz (hl c (List.mem_cons_self ..)))
theorem Wv {l:List Nat} (h:OkS l):OkT (reprText (S l)):=by
 have q:reprQuote (S l) < 1114112:=by
  unfold reprQuote
  split <;> decide
 unfold OkT reprText
 rw [Array.toList_push]
 refine OkS.app ?_ (Nc q Pj)
 rw [← Array.foldl_toList]
 exact Wu _ _ (Nc q Pj) h
structure RpOk (K:PySem.W.Frag) (H:Hp) (v:V) (d:D):Prop where
 dr:Dr K H v (rPy d)
 sh:(rPy d).showable = true
 dp:(rPy d).depth = dpD d
 len:(rPy d).shown.length≤szD d
 ok:OkT (rPy d).shown
structure RpsOk (K:PySem.W.Frag) (H:Hp) (vs:List V) (ds:List D):Prop where
 dr:DrAll K H vs (Cg ds)
 sh:PyData.showableAll (Cg ds) = true
 dp:PyData.depthAll (Cg ds) = Nb ds
 len:((PyData.shownAll (Cg ds)).map (·.length)).sum + 2 * (PyData.shownAll (Cg ds)).length≤Jl ds
 ok:∀ t∈PyData.shownAll (Cg ds),OkT t
structure RpkOk (K:PySem.W.Frag) (H:Hp) (vs:List (Key × V)) (ds:List (List Nat × D)):Prop where
 dr:∃ ps,DrAll K H (vs.map (·.2)) ps∧Cv ds = (vs.map fun q=>kPy q.1).zip ps
 sh:PyData.showableKv (Cv ds) = true
 dp:PyData.depthKv (Cv ds) = dpK ds
 len:((PyData.shownKv (Cv ds)).map (·.length)).sum + 2 * (PyData.shownKv (Cv ds)).length≤szK ds
 ok:∀ t∈PyData.shownKv (Cv ds),OkT t
theorem Ww {K:PySem.W.Frag} {H:Hp} {vs:List V} {ds:List D} (r:RpsOk K H vs ds):OkT (Str.join ", " (PyData.shownAll (Cg ds))):=OkT.join (OkT.lit (by decide +kernel)) r.ok
theorem Ad0 {K:PySem.W.Frag} {H:Hp} {a:Addr} {vs:List V} {ds:List D} (h:Rd H a (.lst vs)) (r:RpsOk K H vs ds):RpOk K H (.ref a) (.lst ds) :=
 ⟨.lst h r.dr,r.sh,congrArg Nat.succ r.dp,by
  show (listText (PyData.shownAll (Cg ds))).length≤Jl ds + 3
  exact Nat.le_trans (listText_len_le _) (Nat.add_le_add_right r.len 3),by
  show OkT (PyData.shown (.list (Cg ds)))
  rw [PyData.shown_list]
  exact ((OkT.lit (by decide +kernel)).app (Ww r)).app (OkT.lit (by decide +kernel))⟩
theorem Ad1 {K:PySem.W.Frag} {H:Hp} {a:Addr} {vs:List V} {ds:List D} (h:SqT K H a vs) (r:RpsOk K H vs ds):RpOk K H (.ref a) (.tup ds) :=
 ⟨.tup h r.dr,r.sh,congrArg Nat.succ r.dp,by
  show (tupleText (PyData.shownAll (Cg ds))).length≤Jl ds + 3
  exact Nat.le_trans (tupleText_len_le _) (Nat.add_le_add_right r.len 3),by
  show OkT (PyData.shown (.tuple (Cg ds)))
  rw [PyData.shown_tuple]
  refine ((OkT.lit (by decide +kernel)).app (Ww r)).app ?_
  split <;> exact OkT.lit (by decide +kernel)⟩
theorem Ad2 {K:PySem.W.Frag} {H:Hp} {a:Addr} {vs:List (Key × V)} {ds:List (List Nat × D)} (h:Rd H a (.dK vs)) (r:RpkOk K H vs ds):RpOk K H (.ref a) (.dct ds) :=
 ⟨by
  obtain ⟨ps,h1,h2⟩:=r.dr
  show Dr K H (.ref a) (.dict (Cv ds))
  rw [h2]
  exact .dct h h1,r.sh,congrArg Nat.succ r.dp,by
  show (dictText (PyData.shownKv (Cv ds))).length≤szK ds + 3
  exact Nat.le_trans (dictText_len_le _) (Nat.add_le_add_right r.len 3),by
  show OkT (PyData.shown (.dict (Cv ds)))
  rw [PyData.shown_dict]
  exact ((OkT.lit (by decide +kernel)).app (OkT.join (OkT.lit (by decide +kernel)) r.ok)).app (OkT.lit (by decide +kernel))⟩
theorem Wx {G H:Hp} (bs:Bs G H) {a:Addr} {u:HO} (h:G a = some u):Rd H a u:=(bs.sub a u h).elim .inl fun z=>.inr z.2
theorem Wy {l:List Nat} (h:OkS l):(reprText (S l)).length≤10 * l.length + 2:=by
 have:=StrLaws.reprText_len (S l) fun c hc=>Nat.lt_trans (h c hc) (by decide)
 rw [S_len] at this
 exact this
mutual
theorem Wz {g:Gm} {G H:Hp} (bs:Bs G H):∀ (d:D) (v:V),Rep g G d v→rok d = true→RpOk g.K H v d
 | .non,v,r,_=>by rw [show v = _ from r]; exact ⟨.non,rfl,rfl,by decide +kernel,OkT.lit (by decide +kernel)⟩
 | .bl b,v,r,_=>by rw [show v = _ from r]; exact ⟨.bl b,rfl,rfl,by cases b <;> decide +kernel,by cases b <;> exact OkT.lit (by decide +kernel)⟩
 | .int i,v,r,h=>by
  rw [show v = _ from r]
  have h':i.natAbs.log2 < 1920:=by simpa [rok] using h
  refine ⟨.int i,by simpa [rPy,PyData.showable] using h',rfl,?_,?_⟩
  ·show (PyData.shown (.int i)).length≤1921
   rw [PyData.shown_int]
   exact int_text_len_1921 h'
  ·show OkT (PyData.shown (.int i))
   rw [PyData.shown_int]
   exact Ady i
 | .str l,v,⟨e,ok⟩,_=>by
  rw [e]
  refine ⟨.str _,rfl,rfl,?_,?_⟩
  ·show (PyData.shown (.str (S l))).length≤_
   rw [PyData.shown_str]
   exact Wy ok
  ·show OkT (PyData.shown (.str (S l)))
   rw [PyData.shown_str]
   exact Wv ok
 | .lst ds,v,⟨a,vs,e,q,r⟩,h=>by rw [e]; exact Ad0 (Wx bs q) (Rq bs ds vs r h)
 | .tup ds,v,⟨a,vs,e,q,r⟩,h=>by rw [e]; exact Ad1 (bs.sqT q) (Rq bs ds vs r h)
 | .dct kvs,v,⟨a,vs,e,q,r⟩,h=>by rw [e]; exact Ad2 (Wx bs q) (W3 bs kvs vs r h)
 | .set _,v,_,h=>by cases h
 | .ins _ _,v,_,h=>by cases h
 | .con _,v,_,h=>by cases h
 | .scr _,v,_,h=>by cases h
theorem Rq {g:Gm} {G H:Hp} (bs:Bs G H):∀ (ds:List D) (vs:List V),Reps g G ds vs→Na ds = true→RpsOk g.K H vs ds
 | [],vs,r,_=>by rw [show vs = _ from r]; exact ⟨.nil,rfl,rfl,Nat.le_refl _,fun t ht=>nomatch ht⟩
 | d :: ds,vs,⟨v,r,e,a,b⟩,h=>by
  have h':rok d = true∧Na ds = true:=Bool.and_eq_true_iff.mp h
  have p:=Wz bs d v a h'.1
  have q:=Rq bs ds r b h'.2
  rw [e]
  refine ⟨.cons p.dr q.dr,?_,?_,?_,fun t ht=>?_⟩
  ·show (PyData.showable (rPy d) && PyData.showableAll (Cg ds)) = true
   rw [p.sh,q.sh]; rfl
  ·show max (PyData.depth (rPy d)) (PyData.depthAll (Cg ds)) = max (dpD d) (Nb ds)
   rw [p.dp,q.dp]
  ·show ((PyData.shownAll (rPy d :: Cg ds)).map (·.length)).sum + 2 * (PyData.shownAll (rPy d :: Cg ds)).length≤szD d + 2 + Jl ds
   rw [PyData.shownAll_cons,List.map_cons,List.sum_cons,List.length_cons]
   have:=p.len
   have:=q.len
   omega
  ·have ht:t∈PyData.shownAll (rPy d :: Cg ds):=ht
   rw [PyData.shownAll_cons] at ht
   rcases List.mem_cons.mp ht with z | z
   ·rw [z]; exact p.ok
   ·exact q.ok t z
theorem W3 {g:Gm} {G H:Hp} (bs:Bs G H):∀ (ds:List (List Nat × D)) (vs:List (Key × V)),RepK g G ds vs→Ph ds = true→RpkOk g.K H vs ds
 | [],vs,r,_=>by rw [show vs = _ from r]; exact ⟨⟨[],.nil,rfl⟩,rfl,rfl,Nat.le_refl _,fun t ht=>nomatch ht⟩
 | (k,d) :: ds,vs,⟨ok,v,r,e,a,b⟩,h=>by
  have h':rok d = true∧Ph ds = true:=Bool.and_eq_true_iff.mp h
  have p:=Wz bs d v a h'.1
  have q:=W3 bs ds r b h'.2
  obtain ⟨ps,h1,h2⟩:=q.dr
  rw [e]
  refine ⟨⟨rPy d :: ps,.cons p.dr h1,?_⟩,?_,?_,?_,fun t ht=>?_⟩
  ·show (PyData.str (S k),rPy d) :: Cv ds = _
   rw [h2]
   rfl
  ·show (PyData.showable (.str (S k)) && PyData.showable (rPy d) && PyData.showableKv (Cv ds)) = true
   rw [p.sh,q.sh]; rfl
  ·show max (max (PyData.depth (.str (S k))) (PyData.depth (rPy d))) (PyData.depthKv (Cv ds)) = max (dpD d) (dpK ds)
   rw [p.dp,q.dp]
   simp [PyData.depth]
  ·show ((PyData.shownKv ((.str (S k),rPy d) :: Cv ds)).map (·.length)).sum + 2 * (PyData.shownKv ((.str (S k),rPy d) :: Cv ds)).length≤10 * k.length + 2 + 2 + szD d + 2 + szK ds
   rw [PyData.shownKv_cons,List.map_cons,List.sum_cons,List.length_cons,PyData.shown_str]
   have l1:=Wy ok
   have l2:=p.len
   have l3:=q.len
   have l4:(reprText (S k) ++ ": " ++ (rPy d).shown).length = (reprText (S k)).length + 2 + (rPy d).shown.length:=by
    rw [strLen_append,strLen_append]
    rfl
   omega
  ·have ht:t∈PyData.shownKv ((.str (S k),rPy d) :: Cv ds):=ht
   rw [PyData.shownKv_cons] at ht
   rcases List.mem_cons.mp ht with z | z
   ·rw [z,PyData.shown_str]
    exact ((Wv ok).app (OkT.lit (by decide +kernel))).app p.ok
   ·exact q.ok t z
end
end Vs
set_option maxRecDepth 100000
set_option maxHeartbeats 2000000
namespace Vs
open PySem PySem.Spec PyProof.Rows L2 Fw SX He
end Vs
set_option maxRecDepth 100000
set_option maxHeartbeats 2000000
namespace Vs
open PySem PySem.Spec PyProof.Rows L2 Fw SX NdefX
structure ExiC (P:Program) (K:PySem.W.Frag) (C f cc:Addr) (F:NF) (fd:FuncData) (slf:Str):Prop where
 T:OexC K C
 cl:F.cl = [(("__class__" : Str),cc)]
 lkf:∃ oc od osl,K.lookup f = some ⟨oc,od,.func fd,osl⟩
 fdX:∃ dV kV doc pm an ct,fd = PySem.W.fnX F.name F.qual F.params F.body F.scope F.cl dV kV doc pm an (.ref F.c) ct
 par:∃ ar:Arg,(fd.params.posonlyargs ++ fd.params.args).head? = some ar∧ar.arg = slf
 code:∃ ccl cdd vs ccs file tf,K.lookup F.c = some ⟨ccl,cdd,.fields vs,ccs⟩∧vs[2]? = some (.str file tf)∧((P.main.file:Str) == file) = true
 cdr:PySem.W.codeIn K (.ref F.c) F.qual = true
 cell:∃ cl cld csl,K.lookup cc = some ⟨cl,cld,.cell (some (.ref C)),csl⟩
 cls:(PySem.W.clsIn K C).isSome = true
 sub:PySem.W.mroIn K C (.ref C) = some true
 ks:F.scope.names.lookup ("super" : Str) = some .globalImplicit
 kc:F.scope.names.lookup ("__class__" : Str) = some .free
 ka:F.scope.names.lookup slf = some .local
 top:(P.main.scope.names.lookup ("super" : Str)).isSome = false
 opq:PySem.W.nsIn K cStatics "thirdparty.any" = some none
 sup:PySem.W.ks_superIn K C C "__init__" = some (some (.builtin "ValueError.__init__"))
 isB:PySem.W.subIn K (.ref C) (.type "ValueError") = some true
section
variable {CXa:CXT} {P:Program} {w:World} {K:PySem.W.Frag} {mg:Str→Option Value} {base:Heap} {N:List Str} {F:NF} {f C cc a:Addr} {fd:FuncData} {slf:Str} {A:Around} {outer:List PySem.Env} {s0 s:Shared} {H0 H:Hp} {E:XK} {σ:L2.St}
end
end Vs
set_option maxRecDepth 100000
set_option maxHeartbeats 2000000
namespace Vs
open PySem PySem.Spec PyProof.Rows L2 Fw SX NdefX
section
variable {CXa:CXT} {P:Program} {w:World} {K:PySem.W.Frag} {mg:Str→Option Value} {base:Heap} {F:NF} {f C cc:Addr} {fd:FuncData} {slf v1 v2 f1 f2 x:Str} {j:Nat} {p0 p1 p2 p3 p4 pos q1 q2 q3 q4 r1 r2 r3 r4:Pos}
end
def Ad3 (x:Str) (fs:List Str) (A:M (List Rv)):M Ctl:=A.bind fun rs e=>match B6 rs with
 | some ds=>if ds.length = fs.length∧ds.length≤1000 then .er (x,(fs.zip ds).reverse) e else .no
 | none=>.no
section
variable {g:Gm} {W:WX} {k:Nat} {X:Cx} {G:Hp}
theorem RepF.app:∀ {a b:List (Str × D)} {x y:List (Str × V)},RepF g G a x→RepF g G b y→RepF g G (a ++ b) (x ++ y)
 | [],b,x,y,h,h2=>by rw [show x = [] from h]; exact h2
 | (k,d) :: a,b,x,y,⟨v,r,e,h,t⟩,h2=>by rw [e]; exact ⟨v,_,rfl,h,RepF.app t h2⟩
end
end Vs
set_option maxRecDepth 100000
set_option maxHeartbeats 2000000
namespace Vs
open PySem PySem.Spec PyProof.Rows L2 Fw SX NdefX
theorem Cau.here {g:Gm} {i:Nat} {y:Str} {a:Addr} {cls:Value} {d:Option Addr} {σ:L2.St} {G H:Hp} {fs:List (Str × D)} (c:Cau g i y a cls d σ G H fs):∃ da fv,d = some da∧H da = some (.xd fv)∧RepF g G fs fv:=by
 obtain ⟨da,fv,e,h,r⟩:=c.fld
 refine ⟨da,fv,e,?_,r⟩
 rcases c.bs.sub da _ h with z | ⟨z,_⟩
 ·exact z
 ·cases z
theorem Cau.grow {g:Gm} {i:Nat} {y:Str} {a:Addr} {cls:Value} {d:Option Addr} {σ:L2.St} {G H G' H':Hp} {fs:List (Str × D)} (c:Cau g i y a cls d σ G H fs) (w:Grow G H G' H'):Cau g i y a cls d σ G' H' fs:=by
 obtain ⟨da,fv,e,h,r⟩:=c.fld
 exact ⟨w.bs,w.sqL c.scr,c.at_,c.cls,da,fv,e,w.le _ _ h,r.mono w.le⟩
def xNil:List (Str × D)→Option (List D):=fun _=>some []
def xCons (f:List (Str × D)→Option D) (r:List (Str × D)→Option (List D)):List (Str × D)→Option (List D):=fun fs=>(f fs).bind fun d=>(r fs).map (d :: ·)
def xC (d:D):List (Str × D)→Option D:=fun _=>some d
def xF (f:Str):List (Str × D)→Option D:=fun fs=>fs.lookup f
def xApp (f:List D→Option Rv) (F:List (Str × D)→Option (List D)):List (Str × D)→Option D:=fun fs=>(F fs).bind fun ds=>match f ds with
 | some (.val d)=>some d
 | _=>none
structure VXs (g:Gm) (i:Nat) (y:Str) (X:Cx) (es:List Expr) (f:List (Str × D)→Option (List D)):Prop where
 run:X.K = g.K→X.w = g.w→X.A.guards = some []→X.A.units + 64 < cLine→∀ (a:Addr) (oe:Obj) (cls:Value) (d:Option Addr) (pn:List (Addr × Obj)),Zc cls d oe→(∃ vs,oe.data = .fields vs)→PA (X.suite a ((a,oe) :: pn)) es (TXs g i y a cls d f)
section
variable {g:Gm} {i:Nat} {y:Str} {X:Cx}
def IsD (mg:Str→Option Value) (g:Gm) (y c:Str) (b:Bool):Prop:=ExcC g.K (g.ca y)∧∃ C,mg c = some (.ref C)∧PySem.W.kitOne g.K (.ref (g.ca y)) (.ref C) = some b
end
def fTry (y:Str) (outs:List Str) (i:Nat) (f:List (Str × D)→Option (List D)) (B:M Ctl):M Ctl:=fun e=>match B e with
 | .er x e'=>if x.1 = y∧i < e'.length∧x.2≠[] then (match f x.2 with | some ds=>if ds.length≤sizeLine then .ok (.rt (.fresh (.lst ds))) e' else .no | none=>.no) else if x.1∈outs then .er x e' else .no
 | r=>r
section
variable {g:Gm} {W:WX} {k:Nat} {X:Cx}
end
end Vs
set_option maxRecDepth 100000
set_option maxHeartbeats 2000000
namespace Vs
open PySem PySem.Spec PyProof.Rows L2 Fw SX NdefX
def ordD:List D→Option Rv
 | [.str [c]]=>some (.val (.int (c:Int)))
 | _=>none
section
variable {g:Gm} {W:WX} {k:Nat} {X:Cx} {ex:Expr} {es:List Expr} {A:M (List Rv)} {p pos:Pos}
end
theorem Pst.pre {α:Type} {g:Gm} {W:WX} {σ:L2.St} {G H G1 H1:Hp} {e:Ve} {R:α→Hp→Hp→Ve→Prop} {r:Res α} (t:Tr g σ G H e G1 H1 e) (h:Pst g W σ G H e R r):Pst g W σ G1 H1 e R r:=by
 cases r with
 | no=>exact h
 | er x e'=>exact fun cls d G' H' t'=>h cls d G' H' (t.trans t')
 | ok a e'=>exact fun G' H' t'=>h G' H' (t.trans t')
def Rr (g:Gm) (G:Hp):List (D × D)→List (V × V)→Prop
 | [],vs=>vs = []
 | (a,b) :: r,vs=>∃ x y t,vs = (x,y) :: t∧Rep g G a x∧Rep g G b y∧Rr g G r t
def TVP (g:Gm) (W:WX) (F:M (List (D × D))) (σ:L2.St) (H:Hp) (Q:List (V × V)→Hp→Prop):Prop:=∃ G e,SR g G H σ e∧Pst g W σ G H e (fun ps G' H' e'=>∀ vs,Rr g G' ps vs→Q vs H') (F e)
structure VPs (g:Gm) (W:WX) (k:Nat) (X:Cx) (pos:Pos) (keys:List (Option Expr)) (values:List Expr) (F:M (List (D × D))):Prop where
 run:Cd g W k X→∃ trs,PPs X pos keys values trs∧∀ σ H Q,TVP g W F σ H Q→tPairs trs σ H Q
def Nd:M (List (D × D)):=M.ret []
def Nf (K V:M Rv) (r:M (List (D × D))):M (List (D × D)):=(Ad K).bind fun a=>(Ad V).bind fun b=>r.bind fun t e=>match a,b with
 | .val x,.val y=>.ok ((x,y) :: t) e
 | _,_=>.no
def Dw:List (D × D)→Option (List (List Nat × D))
 | []=>some []
 | (.str k,d) :: r=>(Dw r).map ((k,d) :: ·)
 | _=>none
def Ru (l:List (List Nat × D)):List (List Nat × D):=l.foldl (fun acc p=>Ca acc p.1 p.2) []
def Ld (F:M (List (D × D))):M Rv:=F.bind fun ps e=>match Dw ps with
 | some kvs=>if kvs.length≤15 then .ok (.fresh (.dct (Ru kvs))) e else .no
 | none=>.no
section
variable {g:Gm} {W:WX} {k:Nat} {X:Cx} {pos:Pos}
theorem Ad4:VPs g W k X pos [] [] Nd:=⟨fun _=>⟨[],pps_nil,fun σ H Q ⟨G,e,sr,h⟩=>h G H (Tr.refl sr) [] rfl⟩⟩
theorem Ad5 {ke ve:Expr} {ks:List (Option Expr)} {vs:List Expr} {K V:M Rv} {F:M (List (D × D))} (hk:VE g W k X ke K) (hv:VE g W k X ve V) (hr:VPs g W k X pos ks vs F):VPs g W k X pos (some ke :: ks) (ve :: vs) (Nf K V F):=by
 refine ⟨fun c=>?_⟩
 obtain ⟨trs,h1,h2⟩:=hr.run c
 refine ⟨_,pps_cons ((Ar hk).run c) ((Ar hv).run c) h1,fun σ H Q ⟨G,e,sr,h⟩=>?_⟩
 refine ⟨G,e,sr,Pst.mono (Pst.bind h) fun a G1 H1 e1 t1 q1 x ok1=>⟨G1,e1,t1.sr,Pst.mono (Pst.bind q1) fun b G2 H2 e2 t2 q2 y ok2=>h2 σ H2 _ ⟨G2,e2,t2.sr,Pst.mono (Pst.bind q2) fun ps G3 H3 e3 t3 q3 ws ok3=>?_⟩⟩⟩
 cases a with
 | slot _=>exact q3.elim
 | fresh _=>exact q3.elim
 | val a =>
  cases b with
  | slot _=>exact q3.elim
  | fresh _=>exact q3.elim
  | val b=>exact q3 G3 H3 (Tr.refl t3.sr) ((x,y) :: ws) ⟨x,y,ws,rfl,Rep.mono t3.le (Rep.mono t2.le ok1),Rep.mono t3.le ok2,ok3⟩
theorem W4 {G:Hp}:∀ {ps:List (D × D)} {vs:List (V × V)} {kvs:List (List Nat × D)},Rr g G ps vs→Dw ps = some kvs→∃ rs:List (Key × V),vs = rs.map (fun kv=>(kV kv.1,kv.2))∧rs.length = kvs.length∧∀ (acc:List (List Nat × D)) (ra:List (Key × V)),RepK g G acc ra→RepK g G (kvs.foldl (fun acc p=>Ca acc p.1 p.2) acc) (mergeK ra rs)
 | [],vs,kvs,h,q=>by cases q; exact ⟨[],h,rfl,fun acc ra r=>r⟩
 | (.str s,d) :: r,vs,kvs,⟨x,y,t,e,rx,ry,rt⟩,q=>by
  unfold Dw at q
  cases q2:Dw r with
  | none=>rw [q2] at q; cases q
  | some ks =>
   rw [q2] at q
   cases q
   obtain ⟨rs,e2,l2,f2⟩:=W4 rt q2
   refine ⟨(.inr (S s),y) :: rs,by rw [e,e2,rx.1]; rfl,by simp [l2],fun acc ra ra'=>?_⟩
   exact f2 _ _ (RepK.put s ra' rx.2 ry)
 | (.non,_) :: _,_,_,_,q=>by cases q
 | (.bl _,_) :: _,_,_,_,q=>by cases q
 | (.int _,_) :: _,_,_,_,q=>by cases q
 | (.lst _,_) :: _,_,_,_,q=>by cases q
 | (.tup _,_) :: _,_,_,_,q=>by cases q
 | (.dct _,_) :: _,_,_,_,q=>by cases q
 | (.set _,_) :: _,_,_,_,q=>by cases q
 | (.ins _ _,_) :: _,_,_,_,q=>by cases q
 | (.con _,_) :: _,_,_,_,q=>by cases q
 | (.scr _,_) :: _,_,_,_,q=>by cases q
theorem Ad6 {keys:List (Option Expr)} {values:List Expr} {F:M (List (D × D))} (hp:VPs g W k X pos keys values F) (hall:keys.all (·.isSome) = true:=by rfl) (hl:keys.length = values.length:=by rfl) (h0:keys≠[]:=by intro z; cases z) (h15:keys.length≤15:=by decide):VE g W k X (.Dict keys values pos) (Ld F):=by
 refine ⟨fun c=>?_⟩
 obtain ⟨trs,h1,h2⟩:=hp.run c
 refine PE.imp (pe_disp h1 hall hl h0 h15) fun σ H Q ⟨G,e,sr,h⟩ p np=>?_
 have gr:=Grow.lay (o:=HO.dK []) sr.bs np
 have t0:=gr.tr sr
 have nr:∀ i,¬ Rt σ e i p:=fun i r=>(sr.root r).2 np
 refine h2 σ _ _ ⟨G,e,t0.sr,Pst.mono (Pst.pre t0 (Pst.bind0 h)) fun ps G1 H1 e1 t1 q1 vs ok=>?_⟩
 have hp1:H1 p = some (.dK []):=t1.keep p _ upd_same nr (fun _ z=>nomatch z)
 have gp1:G1 p = none:=t1.new p (sr.bs.hn np) (by rw [upd_same]; simp) nr
 have nr1:∀ i,¬ Rt σ e1 i p:=fun i r=>nr i (t1.ve.rt r)
 cases qk:Dw ps with
 | none=>rw [qk] at q1; exact q1.elim
 | some kvs =>
  rw [qk] at q1
  simp only at q1
  by_cases hlen:kvs.length≤15
  ·rw [if_pos hlen] at q1
   obtain ⟨rs,e2,l2,f2⟩:=W4 ok qk
   refine ⟨hp1,rs,e2,by omega,?_⟩
   have rk:=f2 [] [] rfl
   have s2:=SR.put (o:=HO.dK (mergeK [] rs)) t1.sr gp1 nr1 (fun o z=>by rw [hp1] at z; cases z; exact trivial)
   have t2:=t0.trans t1
   have t3:Tr g σ G H e G1 (upd H1 p (HO.dK (mergeK [] rs))) e1:=by
    refine ⟨s2,t2.le,fun a o ha na nt=>?_,fun a ha=>?_,t2.new,t2.ve⟩
    ·rw [upd_ne (ne_of_none ha np)]; exact t2.keep a o ha na nt
    ·by_cases z:a = p
     ·rw [z,upd_same] at ha; cases ha
     ·rw [upd_ne z] at ha; exact t2.dom a ha
   exact q1 _ _ t3 (.ref p) ⟨p,rfl,gp1,⟨mergeK [] rs,upd_same,rk⟩,np,nr1⟩
  ·rw [if_neg hlen] at q1; exact q1.elim
end
section
variable {X:Cx}
end
section
variable {g:Gm} {W:WX} {k:Nat} {X:Cx}
end
end Vs
set_option maxRecDepth 100000
set_option maxHeartbeats 2000000
namespace Vs
open PySem PySem.Spec PyProof.Rows L2 Fw SX NdefX
structure InT (K:PySem.W.Frag) (C:Addr):Prop where
 ha:PySem.W.findIn K (.ref C) "__class__" = some (some (.builtin "object.__class__"))
 hn:PySem.W.specialIn K (.builtin "object.__class__") "__get__" = some (some (.builtin "getset_descriptor.__get__"))
 ht:PySem.W.takesIn K (.builtin "object.__class__") = some true
 hm:PySem.W.mroIn K C (.type "object") = some true
inductive TyD (g:Gm):D→Value→Prop where
 | blt {d:D} {a:String} (h:tyN d = some a):TyD g d (.type a)
 | ins {c:Str} {fs:List (Str × D)} (h:InT g.K (g.ca c)):TyD g (.ins c fs) (.ref (g.ca c))
theorem RepH.insX {g:Gm} {G H:Hp} (bs:Bs G H) {c:Str} {fs:List (Str × D)} {v:V} (h:RepH g G H (.ins c fs) v):∃ a dx vs,v = .ref a∧H a = some (.ins (g.ca c) dx vs)∧Mg g c fs:=by
 obtain ⟨a,dx,us,ev,ha,rf,io⟩:=h.ins bs
 exact ⟨a,dx,us,ev,ha,io⟩
theorem TyD.tx {g:Gm} {G H:Hp} (bs:Bs G H) (sc:SqL g.K H g.sa (g.sn.map .int)) {d:D} {t:Value} {v:V} (r:RepH g G H d v) (h:TyD g d t):TyX g.K H v t:=by
 cases h with
 | blt h=>exact Wf bs sc r h
 | ins h =>
  obtain ⟨a,dx,us,rfl,ha,io⟩:=r.insX bs
  exact .base (.ins ha io.1 h.ha h.hn h.ht h.hm)
def Hm (cs:List (Str × Bool)) (d:D):Option Bool:=match d with
 | .ins c _=>cs.lookup c
 | d=>if (tyN d).isSome = true then some false else none
def F6 (cs:List (Str × Bool)) (A:M Rv):M Rv:=A.bind fun r e=>match Af r e with
 | some d=>(match Hm cs d with | some b=>.ok (.val (.bl b)) e | none=>.no)
 | none=>.no
def E7:List String:=["NoneType", "bool", "int", "str", "list", "tuple", "dict"]
def Eo (mg:Str→Option Value) (g:Gm) (x:Str) (cs:List (Str × Bool)):Prop:=∃ C,mg x = some (.ref C)∧(∀ c b,(c,b)∈cs→InT g.K (g.ca c)∧PySem.W.kitOne g.K (.ref (g.ca c)) (.ref C) = some b)∧∀ a∈E7,PySem.W.kitOne g.K (.type a) (.ref C) = some false
theorem Rw {d:D} {a:String} (h:tyN d = some a):a∈E7:=by
 cases d <;> cases h <;> decide
theorem W5 {α:Type}:∀ {cs:List (Str × α)} {c:Str} {b:α},cs.lookup c = some b→(c,b)∈cs
 | [],_,_,h=>by cases h
 | (k,v) :: cs,c,b,h=>by
  rw [List.lookup_cons] at h
  cases q:(c == k) with
  | true=>rw [q] at h; cases h; rw [beq_iff_eq.mp q]; exact List.mem_cons_self
  | false=>rw [q] at h; exact List.mem_cons_of_mem _ (W5 h)
section
variable {g:Gm} {W:WX} {k:Nat} {X:Cx}
theorem Ad7 {x:Str} {cs:List (Str × Bool)} {d:D} {b:Bool} {C:Addr} (h1:∀ c b,(c,b)∈cs→InT g.K (g.ca c)∧PySem.W.kitOne g.K (.ref (g.ca c)) (.ref C) = some b) (h2:∀ a∈E7,PySem.W.kitOne g.K (.type a) (.ref C) = some false) (h:Hm cs d = some b):∃ t,TyD g d t∧PySem.W.kitOne g.K t (.ref C) = some b:=by
 have blt:(if (tyN d).isSome = true then some false else none) = some b→∃ t,TyD g d t∧PySem.W.kitOne g.K t (.ref C) = some b:=fun h=>by
  cases q:tyN d with
  | none=>rw [q] at h; cases h
  | some a=>rw [q] at h; cases h; exact ⟨_,.blt q,h2 a (Rw q)⟩
 cases d with
 | ins c fs =>
  obtain ⟨i,e⟩:=h1 c b (W5 h)
  exact ⟨_,.ins i,e⟩
 | _=>exact blt h
theorem Lf {x:Str} {cs:List (Str × Bool)} {ex:Expr} {F:M Rv} {p p2 pos:Pos} (T:Eo X.mg g x cs) (hm:X.mg "isinstance" = none) (he:VE g W k X ex F) (hg:Gl X "isinstance":=by rfl) (hgx:Gl X x:=by rfl) (hdb:(x == ("__debug__" : Str)) = false:=by decide)
  (hs:starEach [ex,.Name x p2] X.env = (false,eval ex X.env) :: starEach [.Name x p2] X.env:=by rfl) (hs2:starEach [.Name x p2] X.env = (false,eval (.Name x p2) X.env) :: starEach [] X.env:=by rfl) (hpl:(backTo pos (starEach [.Name x p2] X.env)).any (·.1) = false:=by rfl) :
  VE g W k X (.Call (.Name "isinstance" p) [ex,.Name x p2] [] pos) (F6 cs F):=by
 refine ⟨fun c=>?_⟩
 obtain ⟨C,hmc,h1,h2⟩:=T
 refine PE.imp (pe_callB (call_isi) hg hm (by decide +kernel) (pa_cons (he.run c) (pa_cons (pe_glob (v:=.ref C) hgx hmc rfl hdb) pa_nil hs2) hs) (he:=hs) (hpl:=hpl)) fun σ H Q ⟨G,e,sr,h⟩=>?_
 refine ⟨G,e,sr,Pst.mono (Pst.bind h) fun r G1 H1 e1 t1 q1 v ok=>?_⟩
 cases q:Af r e1 with
 | none=>rw [q] at q1; exact q1.elim
 | some d =>
  rw [q] at q1
  simp only at q1
  cases q2:Hm cs d with
  | none=>rw [q2] at q1; exact q1.elim
  | some b =>
   rw [q2] at q1
   obtain ⟨t,ty,kt⟩:=Ad7 (x:=x) h1 h2 q2
   rw [c.K]
   exact ⟨v,.ref C,t,.ref C,b,rfl,.own C,ty.tx t1.sr.bs t1.sr.scrL (B5 t1.sr ok q),kt,q1 G1 H1 (Tr.refl t1.sr) _ rfl⟩
end
def noEr {α:Type}:Res α→Res α
 | .ok a e=>.ok a e
 | _=>.no
def E8 (ts:List Str):D→Bool
 | .ins c _=>ts.contains c
 | d=>(tyN d).isSome
def Nh (T:Str→Option (List Sl→Res Rv)) (ts:List Str) (A B:M Rv):M Rv:=(Ad A).bind fun a=>(Ad B).bind fun b e=>match a,b with
 | .val (.ins c fs),.val d=>(match T c with
  | some F=>if E8 ts d = true then noEr (A5 F [.val (.ins c fs),.val d] e) else .no
  | none=>.no)
 | _,_=>.no
def EqD (P:Program) (mg:Str→Option Value) (base:Heap) (g:Gm) (j:Nat) (T:Str→Option (List Sl→Res Rv)) (ts:List Str):Prop :=
 (∀ c F,T c = some F→(∃ f,PySem.W.findIn g.K (.ref (g.ca c)) "__eq__" = some (some (.ref f))∧PySem.W.isFn g.K (.ref f) = true∧FnK P g.w g.K mg base (L2.CX P g.w) j f [] (spR g F))∧(∀ t∈ts,PySem.W.notFirst g.K (g.ca c) (.ref (g.ca t)) = true)∧∀ a∈E7,PySem.W.notFirst g.K (g.ca c) (.type a) = true) ∧
 ∀ t∈ts,InT g.K (g.ca t)
def rEqO (P:Program) (w:World) (K:PySem.W.Frag) (mg:Str→Option Value) (base:Heap) (k:Nat):R2:=fun x y H Q=>∃ (p C dx:Addr) (fs:List (Str × V)) (f:Addr) (sp:Sp) (t:Value),x = .ref p∧H p = some (.ins C dx fs)∧PySem.W.findIn K (.ref C) "__eq__" = some (some (.ref f))∧PySem.W.isFn K (.ref f) = true ∧
 FnK P w K mg base (L2.CX P w) k f [] sp∧TyX K H y t∧PySem.W.notFirst K C t = true∧sp [x,y] H Q (fun _ _ _=>False)
section
variable {g:Gm} {W:WX} {k:Nat} {X:Cx}
theorem Ad8 (rm:Rm k X.A) (px:Passes (L2.CX X.prog X.w) X (fun _ _ _=>False)):OpR X (compareOp .Eq) (rEqO X.prog X.w X.K X.mg X.base k):=by
 intro pins s σ H x y v u Q I rx ry h
 obtain ⟨p,C,dx,fs,f,sp,t,rfl,ha,hs,hf,Fk,ty,hn,q⟩:=h
 cases rx
 obtain ⟨mA,J,_⟩:=ins_get I.hok ha
 obtain ⟨od,J,_⟩:=J.look
 obtain ⟨m,hF⟩:=I.fr
 obtain ⟨Pp,Z,pz,_⟩:=kit_of I ry ty
 refine PySem.W.cmp_K (op:=.Eq) (tb:=t) (by have:=rm.toRoom.units; omega) hF I.ok.mod.kin J (Z.ty _ _ I.kIn pz) hn hs hf ?_
 refine wpAny_mono (wpAny_call (Jb (E:=fun _ _ _ _=>False) Fk rm (fun pins H s e s' I z=>px pins σ H s e s' I z) I (vs:=[.ref p,y]) (.cons rfl (.cons ry .nil)) .nil rfl (by rw [List.append_nil]; exact q))) (fun r s' hq=>?_) fun _ _ z=>z
 obtain ⟨z,H',I',rz,qz⟩:=id hq
 cases r <;> first | exact hq | (exfalso; cases z <;> first | (cases rz; done) | (obtain ⟨w',e'⟩:=rz; cases e'))
theorem Pst.noEr {α:Type} {σ:L2.St} {G H:Hp} {e:Ve} {R:α→Hp→Hp→Ve→Prop} {r:Res α} (h:Pst g W σ G H e R (noEr r)):Pst g (fun _ _ _ _=>False) σ G H e R r:=by
 cases r with
 | no=>exact h
 | er x e'=>exact h.elim
 | ok a e'=>exact h
theorem Ad9 {T:Str→Option (List Sl→Res Rv)} {ts:List Str} {j:Nat} {A B:M Rv} {σ:L2.St} {H:Hp} {Q:VK} {P:Program} {mg:Str→Option Value} {base:Heap} (tab:EqD P mg base g j T ts) (h:TV g W (Nh T ts A B) σ H Q) :
  TV g W (Ad A) σ H fun x H1=>TV g W (Ad B) σ H1 fun y H2=>rEqO P g.w g.K mg base j x y H2 Q:=by
 obtain ⟨G,e,sr,h⟩:=h
 refine ⟨G,e,sr,Pst.mono (Pst.bind0 h) fun a G1 H1 e1 t1 h1 x ok1=>⟨G1,e1,t1.sr,Pst.mono (Pst.bindS t1 h1) fun b G2 H2 e2 t2 h2 y ok2=>?_⟩⟩
 cases a with
 | slot _=>exact h2.elim
 | fresh _=>exact h2.elim
 | val da =>
  cases b with
  | slot _=>cases da <;> exact h2.elim
  | fresh _=>cases da <;> exact h2.elim
  | val d =>
   cases da with
   | ins c fs =>
    simp only at h2
    cases qT:T c with
    | none=>rw [qT] at h2; exact h2.elim
    | some F =>
     rw [qT] at h2
     simp only at h2
     by_cases hk:E8 ts d = true
     ·rw [if_pos hk] at h2
      obtain ⟨⟨f,f1,f2,f3⟩,n1,n2⟩:=tab.1 c F qT
      have ok1:Rep g G1 (.ins c fs) x:=ok1
      have ok2:Rep g G2 d y:=ok2
      obtain ⟨p,dx,us,ev,ha,rf,io⟩:=id (ok1.mono t2.le)
      have ty:∃ t,TyD g d t∧PySem.W.notFirst g.K (g.ca c) t = true:=by
       have blt:(tyN d).isSome = true→∃ t,TyD g d t∧PySem.W.notFirst g.K (g.ca c) t = true:=fun z=>by
        obtain ⟨a,ea⟩:=Option.isSome_iff_exists.mp z
        exact ⟨_,.blt ea,n2 a (Rw ea)⟩
       cases d with
       | ins c' fs' =>
        have:c'∈ts:=by simpa [E8] using hk
        exact ⟨_,.ins (tab.2 c' this),n1 c' this⟩
       | _=>exact blt hk
      obtain ⟨t,td,nf⟩:=ty
      refine ⟨p,g.ca c,dx,us,f,spR g F,t,ev,t2.sr.bs.at_ ha rfl,f1,f2,f3,td.tx t2.sr.bs t2.sr.scrL (.inl ok2),nf,?_⟩
      exact F0 (W:=fun _ _ _ _=>False) sr (t1.trans t2) (rs:=[.val (.ins c fs),.val d]) ⟨x,[y],rfl,ok1.mono t2.le,⟨y,[],rfl,ok2,rfl,fun d p z=>nomatch z⟩,fun d p z=>nomatch z⟩ (Pst.noEr h2)
     ·rw [if_neg hk] at h2; exact h2.elim
   | _=>exact h2.elim
theorem W6 {T:Str→Option (List Sl→Res Rv)} {ts:List Str} {j:Nat} {a b:Expr} {A B:M Rv} {pos:Pos} (tab:EqD X.prog X.mg X.base g j T ts) (hj:j≤k) (ha:VE g W k X a A) (hb:VE g W k X b B) (hm:behindInMarks .Eq b = false:=by rfl):VE g W k X (.Compare a [.Eq] [b] pos) (Nh T ts A B):=by
 refine ⟨fun c=>?_⟩
 obtain ⟨gK,gw,ca,gT,gs,gn⟩:=g
 obtain rfl:X.K = gK:=c.K
 obtain rfl:X.w = gw:=c.w
 exact PE.imp (pe_cmpR (Ad8 (c.room.mono hj) (passes_call c.tk fun _ _ _ _ z=>z.elim)) ((Ar ha).run c) ((Ar hb).run c) hm) fun _ _ _ q=>Ad9 tab q
end
section
open PySem.W Builtin
variable {prog:Program} {w:World} {A:Around} {E:Value→Shared→Prop} {s:Shared} {K:PySem.W.Frag} {x C f:Addr} {ox:Obj} {od:Option Obj} {b tb:Value}
theorem Aea {Q:Value→Shared→Prop} (hu:A.in1.units < cLine) (X:K.In s.heap) (J:InstAt s.heap x ox C od) (hm:mroIn K C (.type "object") = some true) (he:findIn K (.ref C) "__eq__" = some (some (.ref f))) (hf:isFn K (.ref f) = true)
  (h:wpAny (model prog w) A.in1 (call (.ref f) [.ref x,b]) (fun v s'=>∃ k,v = .bool k∧Q (.bool (!k)) s') E s):wpAny (model prog w) A (call (.builtin "object.__ne__") [.ref x,b]) Q E s:=by
 refine wpAny_call (codeAny_call_builtin PySem.F.slot_object_ne.plain PySem.F.cmpEntry_ne (check_slot (i:="object.__ne__") (owner:="object") (n:="__ne__") PySem.F.cmpKind_ne PySem.F.cmpSplit_ne (J.type.andThen (looks_mroIn X hm)) (PySem.F.cmpArgs_ne _ _) ?_))
 unfold Builtin.«object.__ne__»
 refine wpAny_bind (m:=slotArgs "__ne__" 1 _) (wpAny_pure ?_)
 refine wpAny_bind (m:=cRoomFor _ _) (wpAny_cRoomFor hu ?_)
 refine wpAny_bind (m:=callSpecialIfBound? (.ref x) (Str.ofString "__eq__") _) (ifBound_K X J he hf (wpAny_mono h (fun r s' hq=>?_) fun _ _ y=>y))
 obtain ⟨k,rfl,q⟩:=hq
 exact wpAny_bind (wpAny_truthy_bool (wpAny_pure q))
theorem Aeb (hu:A.units + 2 < cLine) {Q:Value→Shared→Prop} (X:K.In s.heap) (J:InstAt s.heap x ox C od) (hb:Looks (model prog w) s.heap (typeOf b) tb) (hn:notFirst K C tb = true) (hne:findIn K (.ref C) "__ne__" = some (some (.builtin "object.__ne__"))) (hm:mroIn K C (.type "object") = some true) (he:findIn K (.ref C) "__eq__" = some (some (.ref f))) (hf:isFn K (.ref f) = true)
  (h:wpAny (model prog w) A.in1 (call (.ref f) [.ref x,b]) (fun v s'=>∃ k,v = .bool k∧Q (.bool (!k)) s') E s):wpAny (model prog w) A (richCompare .NotEq (.ref x) b) Q E s:=by
 have cl:wpAny (model prog w) A (call (.builtin "object.__ne__") ([.ref x] ++ [b]) >>= fun v=>pure (some v)) (fun o s'=>∃ k,o = some (.bool k)∧Q (.bool k) s') E s :=
  wpAny_bind (Aea (by show A.units + 1 < cLine; omega) X J hm he hf (wpAny_mono h (fun v s' hv=>by
   obtain ⟨k,rfl,q⟩:=hv
   exact ⟨k,rfl,wpAny_pure ⟨_,rfl,q⟩⟩) fun _ _ z=>z))
 have sp:wpAny (model prog w) A (callSpecialIfBound? (.ref x) "__ne__" [b]) (fun o s'=>∃ k,o = some (.bool k)∧Q (.bool k) s') E s:=by
  simp only [callSpecialIfBound?,bindSpecialIfBound?]
  refine wpAny_holding (wpAny_bind (wpAny_bind (wpAny_bind (J.type.here ((looks_findIn X hne).here ?_)))))
  refine wpAny_bind (wpAny_askSetting (wpAny_ite ?_))
  rw [show bindSpecial (.builtin "object.__ne__") (.ref x) = pure (.builtin "object.__ne__",[.ref x]) from PySem.F.slot_object_ne.bind (.ref x)]
  split
  ·exact wpAny_bind (wpAny_pure (wpAny_pure cl))
  ·exact wpAny_tryCatch (wpAny_bind (wpAny_pure (wpAny_pure cl)))
 have tr:wpAny (model prog w) A (tryCompare (.ref x) "__ne__" b) (fun r s'=>∃ k,r = some (.bool k)∧Q (.bool k) s') E s:=by
  unfold tryCompare
  refine wpAny_bind (wpAny_mono sp (fun o s' ho=>?_) fun _ _ z=>z)
  obtain ⟨k,rfl,q⟩:=ho
  exact wpAny_pure ⟨k,rfl,q⟩
 unfold richCompare
 simp only [oneThing_ref,cmpInfo_NotEq]
 refine wpAny_holding (wpAny_bind (wpAny_cRoomFor (by omega) ?_))
 refine wpAny_bind (J.type.here (wpAny_bind (hb.here ?_)))
 have en:∀ r s',(∃ k,r = some (Value.bool k)∧Q (.bool k) s')→∃ v,r = some v∧Q v s':=fun r s' ⟨k,e,q⟩=>⟨_,e,q⟩
 split
 ·rename_i q
  have e:subIn K tb (.ref C) = some false:=by
   rcases Bool.or_eq_true_iff.mp hn with z | z
   ·rw [beq_iff_eq.mp z] at q; simp at q
   ·exact beq_iff_eq.mp z
  refine wpAny_bind ((looks_subIn X e).here ?_)
  simp only [Bool.false_eq_true,if_false]
  refine wpAny_bind (wpAny_mono tr (fun r s' z=>?_) fun _ _ y=>y)
  obtain ⟨v,rfl,hq⟩:=en r s' z
  exact wpAny_pure hq
 ·refine wpAny_bind (wpAny_pure ?_)
  simp only [Bool.false_eq_true,if_false]
  refine wpAny_bind (wpAny_mono tr (fun r s' z=>?_) fun _ _ y=>y)
  obtain ⟨v,rfl,hq⟩:=en r s' z
  exact wpAny_pure hq
end
theorem Rm.in1 {k:Nat} {A:Around} (r:Rm (k + 1) A):Rm k A.in1:=⟨r.toRoom.in1,r.gd⟩
def rNeO (P:Program) (w:World) (K:PySem.W.Frag) (mg:Str→Option Value) (base:Heap) (k:Nat):R2:=fun x y H Q=>∃ (p C dx:Addr) (fs:List (Str × V)) (f:Addr) (sp:Sp) (t:Value),x = .ref p∧H p = some (.ins C dx fs)∧PySem.W.findIn K (.ref C) "__eq__" = some (some (.ref f))∧PySem.W.isFn K (.ref f) = true ∧
 FnK P w K mg base (L2.CX P w) k f [] sp∧TyX K H y t∧PySem.W.notFirst K C t = true∧PySem.W.findIn K (.ref C) "__ne__" = some (some (.builtin "object.__ne__"))∧PySem.W.mroIn K C (.type "object") = some true∧sp [x,y] H (fun v H'=>∃ b,v = .bl b∧Q (.bl (!b)) H') (fun _ _ _=>False)
section
variable {g:Gm} {W:WX} {k:Nat} {X:Cx}
theorem Aec (rm:Rm (k + 1) X.A) (px:Passes (L2.CX X.prog X.w) X (fun _ _ _=>False)):OpR X (compareOp .NotEq) (rNeO X.prog X.w X.K X.mg X.base k):=by
 intro pins s σ H x y v u Q I rx ry h
 obtain ⟨p,C,dx,fs,f,sp,t,rfl,ha,hs,hf,Fk,ty,hn,hne,hm,q⟩:=h
 cases rx
 obtain ⟨mA,J,_⟩:=ins_get I.hok ha
 obtain ⟨od,J,_⟩:=J.look
 obtain ⟨Pp,Z,pz,_⟩:=kit_of I ry ty
 refine Aeb (tb:=t) (by have:=rm.toRoom.units; omega) I.kIn J (Z.ty _ _ I.kIn pz) hn hne hm hs hf ?_
 have e:=I.env0
 have e0:Env0 X.prog X.w X.K X.mg X.base X.A.in1 X.stack s H:=⟨e.frames,e.mod,e.bs,e.bsz,e.funs,e.frf,e.hok,e.bare⟩
 refine wpAny_call (codeAny_mono (Fk X.A.in1 X.stack s H [.ref p,u] [] [.ref p,y] [] _ _ rm.in1 e0 (.cons rfl (.cons ry .nil)) .nil rfl (by rw [List.append_nil]; exact q)) fun res s' z=>?_)
 match res,z with
 | .error e,z=>exact px pins σ H s e s' I z
 | .ok (.ret w'),z =>
  obtain ⟨v,H',I',rv,b,ev,qb⟩:=I.after z
  subst ev
  cases rv
  exact ⟨b,rfl,.bl (!b),H',I',rfl,qb⟩
 | .ok .next,z=>exact False.elim z
 | .ok .brk,z=>exact False.elim z
 | .ok .cont,z=>exact False.elim z
def notR:Res Rv→Res Rv
 | .ok (.val (.bl b)) e=>.ok (.val (.bl (!b))) e
 | _=>.no
def Pk (T:Str→Option (List Sl→Res Rv)) (ts:List Str) (A B:M Rv):M Rv:=(Ad A).bind fun a=>(Ad B).bind fun b e=>match a,b with
 | .val (.ins c fs),.val d=>(match T c with
  | some F=>if E8 ts d = true then notR (A5 F [.val (.ins c fs),.val d] e) else .no
  | none=>.no)
 | _,_=>.no
def NeD (g:Gm) (T:Str→Option (List Sl→Res Rv)):Prop:=∀ c F,T c = some F→PySem.W.findIn g.K (.ref (g.ca c)) "__ne__" = some (some (.builtin "object.__ne__"))∧PySem.W.mroIn g.K (g.ca c) (.type "object") = some true
theorem Pst.notR {σ:L2.St} {G H:Hp} {e:Ve} {Q:VK} {r:Res Rv} (h:Pst g W σ G H e (fun r G' H' e'=>∀ v,RvOk g G' H' σ e' H r v→Q v H') (notR r)):Pst g (fun _ _ _ _=>False) σ G H e (fun r G' H' e'=>∀ v,RvOk g G' H' σ e' H r v→∃ b,v = .bl b∧Q (.bl (!b)) H') r:=by
 match r,h with
 | .ok (.val (.bl b)) e',h=>exact fun G' H' t v ok=>⟨b,ok,h G' H' t _ rfl⟩
 | .no,h=>exact h
 | .er _ _,h=>exact h.elim
 | .ok (.slot _) _,h=>exact h.elim
 | .ok (.fresh _) _,h=>exact h.elim
 | .ok (.val .non) _,h=>exact h.elim
 | .ok (.val (.int _)) _,h=>exact h.elim
 | .ok (.val (.str _)) _,h=>exact h.elim
 | .ok (.val (.lst _)) _,h=>exact h.elim
 | .ok (.val (.tup _)) _,h=>exact h.elim
 | .ok (.val (.dct _)) _,h=>exact h.elim
 | .ok (.val (.set _)) _,h=>exact h.elim
 | .ok (.val (.ins _ _)) _,h=>exact h.elim
 | .ok (.val (.con _)) _,h=>exact h.elim
 | .ok (.val (.scr _)) _,h=>exact h.elim
theorem Aed {T:Str→Option (List Sl→Res Rv)} {ts:List Str} {j:Nat} {A B:M Rv} {σ:L2.St} {H:Hp} {Q:VK} {P:Program} {mg:Str→Option Value} {base:Heap} (tab:EqD P mg base g j T ts) (tan:NeD g T) (h:TV g W (Pk T ts A B) σ H Q) :
  TV g W (Ad A) σ H fun x H1=>TV g W (Ad B) σ H1 fun y H2=>rNeO P g.w g.K mg base j x y H2 Q:=by
 obtain ⟨G,e,sr,h⟩:=h
 refine ⟨G,e,sr,Pst.mono (Pst.bind0 h) fun a G1 H1 e1 t1 h1 x ok1=>⟨G1,e1,t1.sr,Pst.mono (Pst.bindS t1 h1) fun b G2 H2 e2 t2 h2 y ok2=>?_⟩⟩
 cases a with
 | slot _=>exact h2.elim
 | fresh _=>exact h2.elim
 | val da =>
  cases b with
  | slot _=>cases da <;> exact h2.elim
  | fresh _=>cases da <;> exact h2.elim
  | val d =>
   cases da with
   | ins c fs =>
    simp only at h2
    cases qT:T c with
    | none=>rw [qT] at h2; exact h2.elim
    | some F =>
     rw [qT] at h2
     simp only at h2
     by_cases hk:E8 ts d = true
     ·rw [if_pos hk] at h2
      obtain ⟨⟨f,f1,f2,f3⟩,n1,n2⟩:=tab.1 c F qT
      obtain ⟨m1,m2⟩:=tan c F qT
      have ok1:Rep g G1 (.ins c fs) x:=ok1
      have ok2:Rep g G2 d y:=ok2
      obtain ⟨p,dx,us,ev,ha,rf,io⟩:=id (ok1.mono t2.le)
      have ty:∃ t,TyD g d t∧PySem.W.notFirst g.K (g.ca c) t = true:=by
       have blt:(tyN d).isSome = true→∃ t,TyD g d t∧PySem.W.notFirst g.K (g.ca c) t = true:=fun z=>by
        obtain ⟨a,ea⟩:=Option.isSome_iff_exists.mp z
        exact ⟨_,.blt ea,n2 a (Rw ea)⟩
       cases d with
       | ins c' fs' =>
        have:c'∈ts:=by simpa [E8] using hk
        exact ⟨_,.ins (tab.2 c' this),n1 c' this⟩
       | _=>exact blt hk
      obtain ⟨t,td,nf⟩:=ty
      refine ⟨p,g.ca c,dx,us,f,spR g F,t,ev,t2.sr.bs.at_ ha rfl,f1,f2,f3,td.tx t2.sr.bs t2.sr.scrL (.inl ok2),nf,m1,m2,?_⟩
      exact F0 (W:=fun _ _ _ _=>False) sr (t1.trans t2) (rs:=[.val (.ins c fs),.val d]) ⟨x,[y],rfl,ok1.mono t2.le,⟨y,[],rfl,ok2,rfl,fun d p z=>nomatch z⟩,fun d p z=>nomatch z⟩ (Pst.notR h2)
     ·rw [if_neg hk] at h2; exact h2.elim
   | _=>exact h2.elim
theorem Aee {T:Str→Option (List Sl→Res Rv)} {ts:List Str} {j:Nat} {a b:Expr} {A B:M Rv} {pos:Pos} (tab:EqD X.prog X.mg X.base g j T ts) (tan:NeD g T) (hj:j + 1≤k) (ha:VE g W k X a A) (hb:VE g W k X b B) (hm:behindInMarks .NotEq b = false:=by rfl):VT g W k X (.Compare a [.NotEq] [b] pos) (A8 (Pk T ts A B)):=by
 refine ⟨fun c=>?_⟩
 obtain ⟨gK,gw,ca,gT,gs,gn⟩:=g
 obtain rfl:X.K = gK:=c.K
 obtain rfl:X.w = gw:=c.w
 exact PT.imp (pt_cmpR (Aec (c.room.mono hj) (passes_call c.tk fun _ _ _ _ z=>z.elim)) ((Ar ha).run c) ((Ar hb).run c) hm) fun _ _ _ q=>Aed tab tan (Mm q)
end
def strR:Res Rv→Res Rv
 | .ok (.val (.str l)) e=>.ok (.val (.str l)) e
 | _=>.no
def Pl (T:Str→Option (List Sl→Res Rv)) (A:M Rv):M Rv:=(Ad A).bind fun a e=>match a with
 | .val (.ins c fs)=>(match T c with
  | some F=>strR (A5 F [.val (.ins c fs)] e)
  | none=>.no)
 | _=>.no
def StrD (P:Program) (mg:Str→Option Value) (base:Heap) (g:Gm) (j:Nat) (T:Str→Option (List Sl→Res Rv)):Prop :=
 ∀ c F,T c = some F→∃ f,PySem.W.findIn g.K (.ref (g.ca c)) "__str__" = some (some (.ref f))∧PySem.W.isFn g.K (.ref f) = true∧FnK P g.w g.K mg base (L2.CX P g.w) j f [] (spR g F)
def rStrO (P:Program) (w:World) (K:PySem.W.Frag) (mg:Str→Option Value) (base:Heap) (k:Nat):List V→Hp→VK→Prop:=fun xs H Q=>∃ (p C dx:Addr) (fs:List (Str × V)) (f:Addr) (sp:Sp),xs = [.ref p]∧H p = some (.ins C dx fs)∧PySem.W.findIn K (.ref C) "__str__" = some (some (.ref f))∧PySem.W.isFn K (.ref f) = true ∧
 FnK P w K mg base (L2.CX P w) k f [] sp∧sp [.ref p] H (fun v H'=>∃ z,v = .str z∧Q (.str z) H') (fun _ _ _=>False)
section
variable {g:Gm} {W:WX} {k:Nat} {X:Cx}
theorem Aef (rm:Rm (k + 2) X.A) (px:Passes (L2.CX X.prog X.w) X (fun _ _ _=>False)):CallR X (.type "str") (rStrO X.prog X.w X.K X.mg X.base k):=by
 intro pins s σ H xs us Q I r h
 obtain ⟨p,C,dx,fs,f,sp,rfl,ha,hs,hf,Fk,q⟩:=h
 obtain ⟨u,rfl,ru⟩:=vals1 r
 cases ru
 obtain ⟨mA,J,_⟩:=ins_get I.hok ha
 obtain ⟨od,J,_⟩:=J.look
 refine PySem.W.kso_call (by show X.A.units + 1 + 1 < cLine; have:=rm.toRoom.units; omega) I.kIn J hs hf ?_
 have e:=I.env0
 have e0:Env0 X.prog X.w X.K X.mg X.base X.A.in1.in1 X.stack s H:=⟨e.frames,e.mod,e.bs,e.bsz,e.funs,e.frf,e.hok,e.bare⟩
 refine wpAny_call (codeAny_mono (Fk X.A.in1.in1 X.stack s H [.ref p] [] [.ref p] [] _ _ rm.in1.in1 e0 (.cons rfl .nil) .nil rfl (by rw [List.append_nil]; exact q)) fun res s' z=>?_)
 match res,z with
 | .error e,z=>exact px pins σ H s e s' I z
 | .ok (.ret w'),z =>
  obtain ⟨v,H',I',rv,b,ev,qb⟩:=I.after z
  subst ev
  obtain ⟨tk,rfl⟩:=rv
  exact ⟨.str b,H',I',⟨_,rfl⟩,qb⟩
 | .ok .next,z=>exact False.elim z
 | .ok .brk,z=>exact False.elim z
 | .ok .cont,z=>exact False.elim z
theorem Pst.strR {σ:L2.St} {G H:Hp} {e:Ve} {Q:VK} {r:Res Rv} (h:Pst g W σ G H e (fun r G' H' e'=>∀ v,RvOk g G' H' σ e' H r v→Q v H') (strR r)):Pst g (fun _ _ _ _=>False) σ G H e (fun r G' H' e'=>∀ v,RvOk g G' H' σ e' H r v→∃ z,v = .str z∧Q (.str z) H') r:=by
 match r,h with
 | .ok (.val (.str l)) e',h=>exact fun G' H' t v ok=>⟨S l,ok.1,ok.1 ▸ h G' H' t v ok⟩
 | .no,h=>exact h
 | .er _ _,h=>exact h.elim
 | .ok (.slot _) _,h=>exact h.elim
 | .ok (.fresh _) _,h=>exact h.elim
 | .ok (.val .non) _,h=>exact h.elim
 | .ok (.val (.int _)) _,h=>exact h.elim
 | .ok (.val (.bl _)) _,h=>exact h.elim
 | .ok (.val (.lst _)) _,h=>exact h.elim
 | .ok (.val (.tup _)) _,h=>exact h.elim
 | .ok (.val (.dct _)) _,h=>exact h.elim
 | .ok (.val (.set _)) _,h=>exact h.elim
 | .ok (.val (.ins _ _)) _,h=>exact h.elim
 | .ok (.val (.con _)) _,h=>exact h.elim
 | .ok (.val (.scr _)) _,h=>exact h.elim
theorem W7 {T:Str→Option (List Sl→Res Rv)} {j:Nat} {a:Expr} {A:M Rv} {p pos:Pos} (tab:StrD X.prog X.mg X.base g j T) (hj:j + 2≤k) (hm:X.mg "str" = none) (ha:VE g W k X a A) (hg:Gl X "str":=by rfl) (he:starEach [a] X.env = (false,eval a X.env) :: starEach [] X.env:=by rfl) (hpl:(backTo pos (starEach [] X.env)).any (·.1) = false:=by rfl):VE g W k X (.Call (.Name "str" p) [a] [] pos) (Pl T A):=by
 refine ⟨fun c=>?_⟩
 obtain ⟨gK,gw,ca,gT,gs,gn⟩:=g
 obtain rfl:X.K = gK:=c.K
 obtain rfl:X.w = gw:=c.w
 refine PE.imp (pe_callTy (Aef (c.room.mono hj) (passes_call c.tk fun _ _ _ _ z=>z.elim)) hg hm (by decide +kernel) (pa_cons ((Ar ha).run c) pa_nil he) (he:=he) (hpl:=hpl)) fun σ H Q ⟨G,e,sr,h⟩=>?_
 refine ⟨G,e,sr,Pst.mono (Pst.bind0 h) fun r G1 H1 e1 t1 h1 x ok1=>?_⟩
 cases r with
 | slot _=>exact h1.elim
 | fresh _=>exact h1.elim
 | val d =>
  cases d with
  | ins c' fs =>
   simp only at h1
   cases qT:T c' with
   | none=>rw [qT] at h1; exact h1.elim
   | some F =>
    rw [qT] at h1
    simp only at h1
    obtain ⟨f,f1,f2,f3⟩:=tab c' F qT
    have ok1:Rep _ G1 (.ins c' fs) x:=ok1
    obtain ⟨p,dx,us,ev,ha,rf,io⟩:=id ok1
    subst ev
    exact ⟨p,ca c',dx,us,f,_,rfl,t1.sr.bs.at_ ha rfl,f1,f2,f3,F0 (W:=fun _ _ _ _=>False) sr t1 (rs:=[.val (.ins c' fs)]) ⟨.ref p,[],rfl,ok1,rfl,fun d p z=>nomatch z⟩ (Pst.strR h1)⟩
  | _=>exact h1.elim
end
section
variable {g:Gm} {W:WX} {k:Nat} {X:Cx} {i j:Nat}
theorem Aeg {x y:Str} {a b:Expr} {A:M (List Rv)} {px py pt pos:Pos} {kt k2 pt2} (hi:X.N[i]? = some x) (hj:X.N[j]? = some y) (hx:Loc X.env.scope x) (hy:Loc X.env.scope y) (ha:VA g W k X [a,b] A)
  (hfx:X.fn x = true∨X.env.scope.names.lookup x = some .local:=by first | exact .inl rfl | exact .inr rfl) (hfy:X.fn y = true∨X.env.scope.names.lookup y = some .local:=by first | exact .inl rfl | exact .inr rfl)
  (hs:swapsWithSole [.Tuple [.Name x px,.Name y py] kt pt] (.Tuple [a,b] k2 pt2) pos.line X.env = pure false:=by rfl) (hw:swappedStores [.Tuple [.Name x px,.Name y py] kt pt] (.Tuple [a,b] k2 pt2) X.env = pure none:=by rfl)
  (h1:(assignEach [.Tuple [.Name x px,.Name y py] kt pt] X.env).map (·.2) = [assign (.Tuple [.Name x px,.Name y py] kt pt) X.env]:=by rfl)
  (hn:(assignEach [.Name x px,.Name y py] X.env).length = 2:=by rfl) (hst:(assignEach [.Name x px,.Name y py] X.env).findIdx? (·.1) = none:=by rfl)
  (h2:(assignEach [.Name x px,.Name y py] X.env).map (·.2) = assign (.Name x px) X.env :: (assignEach [.Name y py] X.env).map (·.2):=by rfl) (h3:(assignEach [.Name y py] X.env).map (·.2) = assign (.Name y py) X.env :: (assignEach [] X.env).map (·.2):=by rfl) :
  VS g W k X (.Assign [.Tuple [.Name x px,.Name y py] kt pt] (.Tuple [a,b] k2 pt2) pos) (Lb i j A):=by
 refine ⟨fun c=>PS.imp (ps_asg (pe_tup (ha.run c)) (pg_tup c.calm (pgs_cons (pg_name c.nd hi hx hfx) (pgs_cons (pg_name c.nd hj hy hfy) pgs_nil h3) h2) hn hst) hs hw h1) fun D σ H ⟨G,e,sr,h⟩=>?_⟩
 refine ⟨G,e,sr,Pst.mono (PstS.bindE0 h) fun rs G1 H1 e1 t1 h1 vs rv=>?_⟩
 match rs,h1,rv with
 | [],h1,_=>exact h1.elim
 | [_],h1,_=>exact h1.elim
 | _ :: _ :: _ :: _,h1,_=>exact h1.elim
 | [r1,r2],h1,⟨v1,t,ev,o1,⟨v2,t',ev',o2,en,_⟩,ap⟩ =>
  subst ev ev' en
  refine ⟨by rw [sizeLine_eq]; show 2≤_; omega,fun q nq=>?_⟩
  have gr:=Grow.lay (o:=HO.tup [v1,v2]) t1.sr.bs nq
  have t2:=gr.tr t1.sr
  obtain ⟨e2,s1,h2⟩:=Jh h1
  obtain ⟨e3,s2,h3⟩:=Jh h2
  refine ⟨q,[v1,v2],rfl,.of upd_same,rfl,v1,[v2],rfl,v2,[],rfl,rfl,?_⟩
  obtain ⟨st1,k1⟩:=St.stoN (t1.trans t2).st (o1.tr t2) s1
  obtain ⟨st2,_⟩:=St.stoN st1 (k1 r2 v2 (fun d p d' er ep e' z=>ap d p er ep d' v2 (by rw [e']; exact List.mem_cons_self) z) (M6 s2) (o2.tr t2)) s2
  exact h3 _ G1 _ st2
end
end Vs
set_option maxRecDepth 100000
set_option maxHeartbeats 2000000
namespace Vs
open PySem PySem.Spec PyProof.Rows L2 Fw SX He NdefX
section
variable {P:Program} {w:World} {K:PySem.W.Frag} {mg:Str→Option Value} {base:Heap} {Tb:LT} {sa:Addr} {sn:List Int} {d:XnD} {slf v1 v2 f1 f2 x:Str} {j:Nat} {p0 p1 p2 p3 p4 pos q1 q2 q3 q4 r1 r2 r3 r4:Pos}
end
theorem Aeh {K:PySem.W.Frag} {C:Addr} (h:inTB K C = true):InT K C:=by
 obtain ⟨h1,h⟩:=ba h
 obtain ⟨h2,h⟩:=ba h
 obtain ⟨h3,h4⟩:=ba h
 exact ⟨eqO_ok h1,eqO_ok h2,of_decide_eq_true h3,of_decide_eq_true h4⟩
theorem Rx {ts:List Str} {K:PySem.W.Frag} (h:Fm ts K = true) (t:Str) (ht:t∈ts):InT K (ga K t):=Aeh (List.all_eq_true.mp h t ht)
theorem Cc {c o m:Str} {K:PySem.W.Frag} (h:Bf c o m K = true):PySem.W.findIn K (.ref (ga K c)) m = some (some (.ref (ma K (ga K o) m)))∧PySem.W.isFn K (.ref (ma K (ga K o) m)) = true:=by
 obtain ⟨a,b⟩:=ba h
 exact ⟨eqO_ok a,b⟩
theorem Aei {K:PySem.W.Frag} {C:Addr} (a:String) (ha:a∈E7):PySem.W.notFirst K C (.type a) = true:=by
 simp only [E7,List.mem_cons,List.not_mem_nil,or_false] at ha
 rcases ha with rfl | rfl | rfl | rfl | rfl | rfl | rfl <;> kernel_rfl
theorem Aej {K:PySem.W.Frag} {C:Addr} (a:String) (ha:a∈E7):(Value.type a == Value.ref C) = false∧PySem.W.subIn K (.type a) (.ref C) = some false:=by
 simp only [E7,List.mem_cons,List.not_mem_nil,or_false] at ha
 rcases ha with rfl | rfl | rfl | rfl | rfl | rfl | rfl <;> exact ⟨by kernel_rfl,by kernel_rfl⟩
theorem Aek {K:PySem.W.Frag} {C:Addr} (h:((PySem.W.clsIn K C).isSome && PySem.W.typeIn K (.ref C) == some (.type "type")) = true) (a:String) (ha:a∈E7):PySem.W.kitOne K (.type a) (.ref C) = some false:=by
 obtain ⟨e1,e2⟩:=Aej (K:=K) (C:=C) a ha
 unfold PySem.W.kitOne PySem.W.kitCls
 rw [if_neg (by rw [e1]; exact Bool.false_ne_true)]
 simp only
 rw [if_pos h,e2]
theorem Ry {c:Str} {ts:List Str} {K:PySem.W.Frag} (h:nfB c ts K = true):(∀ t∈ts,PySem.W.notFirst K (ga K c) (.ref (ga K t)) = true)∧∀ a∈E7,PySem.W.notFirst K (ga K c) (.type a) = true :=
 ⟨List.all_eq_true.mp h,fun a ha=>Aei a ha⟩
theorem Rz {c:Str} {K:PySem.W.Frag} (h:Kt c K = true):PySem.W.findIn K (.ref (ga K c)) "__ne__" = some (some (.builtin "object.__ne__"))∧PySem.W.mroIn K (ga K c) (.type "object") = some true:=by
 obtain ⟨a,b⟩:=ba h
 exact ⟨eqO_ok a,of_decide_eq_true b⟩
theorem Pm {x:Str} {cs:List (Str × Bool)} {K:PySem.W.Frag} {mg:Str→Option Value} {w:World} {Tb:LT} {sa:Addr} {sn:List Int} (hm:mg x = some (.ref (ga K x))) (h:Fn x cs K = true) (ht:Fm (cs.map (·.1)) K = true):Eo mg ⟨K,w,He.ga K,Tb,sa,sn⟩ x cs:=by
 obtain ⟨a,b⟩:=ba h
 exact ⟨_,hm,fun c b hc=>⟨Rx ht c (List.mem_map.mpr ⟨(c,b),hc,rfl⟩),of_decide_eq_true (List.all_eq_true.mp a (c,b) hc)⟩,fun n hn=>Aek b n hn⟩
end Vs
set_option maxRecDepth 100000
set_option maxHeartbeats 2000000
namespace Fw
open PySem PySem.Spec PyProof.Rows L2
open Sem (wp)
open AutoSeq1 (wpAny_loadPart')
section
variable {prog:Program} {w:World} {A:Around} {E:Value→Shared→Prop} {s:Shared}
theorem Ael {it l:Addr} {i:Nat} {items} {x:Value} {Q:Value→Shared→Prop} (hit:s.heap.IsTupleIter it l i)
  (hl:s.heap.IsTuple l items) (hx:items[i]? = some x)
  (hQ:∀ h',h'.IsTupleIter it l (i + 1)→Heap.SameBut it s.heap h'→Q x { s with heap:=h' }) :
  wpAny (model prog w) A (Builtin.SmallTypes.nextOf (.ref it)) Q E s:=by
 obtain ⟨o,ho,hc,hd⟩:=id hit
 obtain ⟨ol,hol,_,nl,hdl⟩:=hl
 unfold Builtin.SmallTypes.nextOf
 refine wpAny_bind (wpAny_callSpecial?_slot (name:=Str.ofString "__next__") hit.typeIs F.slot_tuple_iterator_next
  (wpAny_call_entry F.slot_tuple_iterator_next hit.typeIs F.entry_tuple_iterator_next ?_ (F.args_tuple_iterator_next_1 _)))
 show wpAny _ _ (field (.ref it) 0 >>= _) _ _ s
 refine wpAny_bind (wpAny_field ho hd (x:=.ref l) rfl ?_)
 show wpAny _ _ (if (Value.ref l == Value.none) = true then _ else _) _ _ s
 rw [if_neg (show ¬ ((Value.ref l == Value.none) = true) from Bool.false_ne_true)]
 show wpAny _ _ (field (.ref it) 1 >>= _) _ _ s
 refine wpAny_bind (wpAny_field ho hd (x:=.int i 0) rfl ?_)
 show wpAny _ _ (seqItems? (.ref l) >>= _) _ _ s
 refine wpAny_bind (wpAny_seqItems hol hdl ?_)
 simp only [Int.toNat_natCast,hx]
 refine wpAny_bind (wpAny_setField ho hd (by simp) (wpAny_pure ⟨x,rfl,wpAny_pure (hQ _ ?_ (Heap.SameBut.update ..))⟩))
 exact ⟨_,Heap.get?_update_self _ ho (Obj.isFreed_of_fields (Obj.data_mapFields hd _)),(Obj.cls_mapFields ..).trans hc,by
  rw [Obj.data_mapFields hd]; simp [rawInt]⟩
theorem W8 {it l:Addr} {i:Nat} {items} {Q:Value→Shared→Prop} (hh:A.handled = none)
  (hit:s.heap.IsTupleIter it l i) (hl:s.heap.IsTuple l items) (hx:items[i]? = none)
  (hE:∀ h' e,Heap.ExtBut it s.heap h'→(∃ o,h'.get? e = some o∧o.cls = .type "StopIteration")→E (.ref e) { s with heap:=h' }) :
  wpAny (model prog w) A (Builtin.SmallTypes.nextOf (.ref it)) Q E s:=by
 obtain ⟨o,ho,hc,hd⟩:=id hit
 obtain ⟨ol,hol,_,nl,hdl⟩:=hl
 unfold Builtin.SmallTypes.nextOf
 refine wpAny_bind (wpAny_callSpecial?_slot (name:=Str.ofString "__next__") hit.typeIs F.slot_tuple_iterator_next
  (wpAny_call_entry F.slot_tuple_iterator_next hit.typeIs F.entry_tuple_iterator_next ?_ (F.args_tuple_iterator_next_1 _)))
 show wpAny _ _ (field (.ref it) 0 >>= _) _ _ s
 refine wpAny_bind (wpAny_field ho hd (x:=.ref l) rfl ?_)
 show wpAny _ _ (if (Value.ref l == Value.none) = true then _ else _) _ _ s
 rw [if_neg (show ¬ ((Value.ref l == Value.none) = true) from Bool.false_ne_true)]
 show wpAny _ _ (field (.ref it) 1 >>= _) _ _ s
 refine wpAny_bind (wpAny_field ho hd (x:=.int i 0) rfl ?_)
 show wpAny _ _ (seqItems? (.ref l) >>= _) _ _ s
 refine wpAny_bind (wpAny_seqItems hol hdl ?_)
 simp only [Int.toNat_natCast,hx]
 refine wpAny_bind (wpAny_rule (wpAny_bind (wpAny_setField ho hd (by simp) ?_)))
 show wpAny _ _ (newExc (.type "StopIteration") [] >>= _) _ _ _
 refine wpAny_bind ?_
 simp only [newExc,newTuple]
 refine wpAny_bind (wpAny_newObj_type ?_ (by size_fits))
 refine wpAny_bind (m:=firstArgMember _ _) (wpAny_of_eq (a:=Value.none) (by first | rfl | (simp only [firstArgMember]; rfl)) ?_)
 refine wpAny_newObj_type ?_ (by size_fits)
 simp only [raiseNew]
 refine wpAny_bind (wpAny_handled ?_)
 first | rw [show A.in1.handled = none from hh] | rw [hh]
 refine wpAny_bind (wpAny_pure (wpAny_throw ?_))
 exact hE _ _ (((Heap.SameBut.update ..).extBut.push _).push _) ⟨_,Heap.get?_push_size _ rfl,rfl⟩
end
theorem W9 {prog:Program} {w:World} {A:Around} (hh:A.handled = none) (it l:Addr) (hne:l≠it) (items:Array Value) :
  Draws prog w A it [it,l] items.size (fun i v=>items[i]? = some v) (fun i h=>h.IsTupleIter it l i∧h.IsTuple l items) where
 live:=fun _ _ st=>let ⟨o,ho,_⟩:=st.1; ⟨o,ho⟩
 frame:=fun _ _ _ st hk=>⟨let ⟨o,ho,r⟩:=st.1; ⟨o,hk it (by simp) o ho,r⟩,let ⟨o,ho,r⟩:=st.2; ⟨o,hk l (by simp) o ho,r⟩⟩
 item:=fun i s Q E hi st hQ=>by
  refine Ael st.1 st.2 (x:=items[i]) (by simp [hi]) fun h' hit' hs'=>?_
  exact hQ _ h' s.toks (by simp [hi]) ⟨hit',st.2.extBut hs'.extBut hne⟩ hs'
 done:=fun s Q E st hE=>W8 hh st.1 st.2 (by simp) hE
theorem Aem (l:Addr) (items:Array Value) (n:Nat) (dct:Option Addr) (sl:Array (Option Value)) :
  Meets (Builtin.«enumerate.__new__» ⟨[.type "enumerate",.ref l],[]⟩) (fun _ R s=>s.heap.get? l = some { cls:=.type "tuple",dict:=dct,data:=.seq items n,slots:=sl } ∧
   R (.ok (.ret (.ref (s.heap.push { cls:=.type "tuple_iterator",data:=.fields #[.ref l,.int 0 0] }).objs.size)))
    { s with heap:=(s.heap.push { cls:=.type "tuple_iterator",data:=.fields #[.ref l,.int 0 0] }).push { cls:=.type "enumerate",data:=.fields #[.none,.bool false,.ref s.heap.objs.size,rawInt 0,.none,.none] } }) :=
 .of_wp fun prog w A R s h=>by
  obtain ⟨hp,g,d,tk,os⟩:=s; obtain ⟨hl,h⟩:=h
  have hsub:=sub_enumerate
  have hL:Heap.IsTuple (Shared.heap ⟨hp,g,d,tk,os⟩) l items:=⟨_,hl,rfl,n,rfl⟩
  wp_walk using wpAny_loadPart' hl
  refine wpAny_stack_any fun st=>wpAny_pure ?_
  split
  ·rename_i c _ _ _ _ _
   cases (c == Value.type "enumerate")
   ·wp_walk using wpAny_loadPart' hl,wpAny_pyIter_tuple hL
    exact ⟨_,rfl,h⟩
   ·wp_walk using wpAny_loadPart' hl,wpAny_pyIter_tuple hL
    exact ⟨_,rfl,h⟩
  ·wp_walk using wpAny_loadPart' hl,wpAny_pyIter_tuple hL
   exact ⟨_,rfl,h⟩
section
variable {prog:Program} {w:World} {A:Around} {E:Value→Shared→Prop} {s:Shared}
theorem Aen {l:Addr} {items:Array Value} {Q:Value→Shared→Prop} (hL:s.heap.IsTuple l items)
  (h:∀ h',IsEnum h' (s.heap.objs.size + 1) s.heap.objs.size 0 .none→h'.IsTupleIter s.heap.objs.size l 0→h'.objs.size = s.heap.objs.size + 2 →
   (∀ b o,s.heap.get? b = some o→h'.get? b = some o)→Q (.ref (s.heap.objs.size + 1)) { s with heap:=h' }) :
  wpAny (model prog w) A (call (.type "enumerate") [.ref l]) Q E s:=by
 obtain ⟨⟨c,dct,dt,sl⟩,hl,hc,n,hd⟩:=hL
 replace hc:c = .type "tuple":=hc
 replace hd:dt = .seq items n:=hd
 subst hc hd
 refine callType_new F.called_enumerate (by decide) (F.typeCall_enumerate_1 _) (F.newCall_enumerate_1 _) (fun obj=>F.args_object_init_2 obj _) F.entry_enumerate_new
  (Aem l items n dct sl) ⟨hl,?_⟩
 have hz:(s.heap.push { cls:=.type "tuple_iterator",data:=.fields #[.ref l,.int 0 0] }).objs.size = s.heap.objs.size + 1:=Heap.size_push ..
 show _∧_
 rw [hz]
 have he:IsEnum ((s.heap.push { cls:=.type "tuple_iterator",data:=.fields #[.ref l,.int 0 0] }).push
   { cls:=.type "enumerate",data:=.fields #[.none,.bool false,.ref s.heap.objs.size,rawInt 0,.none,.none] }) (s.heap.objs.size + 1) s.heap.objs.size 0 .none:=by
  have:=Heap.get?_push_size (s.heap.push { cls:=.type "tuple_iterator",data:=.fields #[.ref l,.int 0 0] })
   (o:={ cls:=.type "enumerate",data:=.fields #[.none,.bool false,.ref s.heap.objs.size,rawInt 0,.none,.none] }) rfl
  rw [hz] at this; exact this
 refine ⟨⟨_,he,rfl⟩,h _ he ⟨_,Heap.get?_push_of_some _ (Heap.get?_push_size _ rfl),rfl,rfl⟩ (by rw [Heap.size_push,hz]) fun b o x=>Heap.get?_push_of_some _ (Heap.get?_push_of_some _ x)⟩
end
def IteT (K:PySem.W.Frag) (a:Addr):It :=
 ⟨fun i H=>∃ (xs:List V) (x:V),SqT K H a xs∧xs[i]? = some x,fun i H v H'=>∃ T x,v = .ref T∧H T = none∧H' = upd H T (.tup [.int (i:Nat),x])∧∀ xs,SqT K H a xs→xs[i]? = some x,fun i H=>∃ xs:List V,SqT K H a xs∧xs.length = i⟩
theorem Aeo {P:Program} {w:World} {K:PySem.W.Frag} {elts:List Expr} {kk:Nat} {tpos:Pos} (a e it:Addr) :
  Turn P w K (.Tuple elts kk tpos) (IteT K a) [e,it] e (fun i h=>(∃ old,IsEnum h e it ((i:Nat):Int) old)∧h.IsTupleIter it a i∧e≠it∧a≠it) where
 mem:=by simp
 obj:=fun i h st b hb=>by
  obtain ⟨⟨old,he⟩,⟨o,ho,hc,hd⟩,_⟩:=st
  have e':b = e∨b = it:=by simpa using hb
  rcases e' with z | z
  ·rw [z]; exact ⟨_,he,fun v q=>nomatch q⟩
  ·rw [z]; exact ⟨o,ho,fun v q=>by rw [hd] at q; cases q⟩
 keep:=fun i h h' st k=>let ⟨⟨old,he⟩,⟨o,ho,r⟩,hne⟩:=st; ⟨⟨old,k e (by simp) _ he⟩,⟨o,k it (by simp) o ho,r⟩,hne⟩
 item:=by
  intro X hP hw hK hc i pins s σ H E I hf st hg
  subst hP hw hK
  obtain ⟨⟨old,he⟩,hit,hne,hna⟩:=st
  obtain ⟨xs,x,hq,hx⟩:=hg
  obtain ⟨its,rv,p,hz⟩:=I.tuple hq
  obtain ⟨u,hu,ru⟩:=rv.get hx
  have hel:e < s.heap.objs.size:=Heap.lt_size he
  have hil:it < s.heap.objs.size:=by obtain ⟨_,q,_⟩:=hit; exact Heap.lt_size q
  have D:=W9 (prog:=X.prog) (w:=X.w) (A:=X.A.in1) (I.ok.hd hc) it a hna its.toArray
  have hae:e≠a:=fun z=>by
   have hp:s.heap.IsTuple a its.toArray:=p
   obtain ⟨o,ho,hcl,_⟩:=hp
   rw [← z,he] at ho
   cases ho
   exact absurd (Value.type.inj hcl) (by decide)
  have hi:i < its.toArray.size:=by
   have:=List.getElem?_eq_some_iff.mp hu
   obtain ⟨q,_⟩:=this
   simpa using q
  refine wpAny_pyNext_enum_itemD D he ⟨hit,p⟩ hi hne (by simp [hne,hae]) fun v h' tk hv ho hit' hT hsz hk=>?_
  obtain rfl:v = u:=by
   have:its.toArray[i]? = some u:=by simpa using hu
   rw [this] at hv
   exact (Option.some.inj hv).symm
  refine ⟨_,rfl,wpAny_letOwnedTupleGo_enum (s:={ s with heap:=h',toks:=tk + 1 }) ho fun h'' he' sb=>?_⟩
  have hT2:h''.get? s.heap.objs.size = some { cls:=.type "tuple",data:=.seq #[.int i tk,v] }:=(sb.2 _ (Nat.ne_of_gt hel)).trans hT
  have new:ObjOk X.prog X.w (upd H s.heap.objs.size (.tup [.int (i:Nat),x])) h'' s.heap.objs.size (.tup [.int (i:Nat),x]) :=
   ⟨by show 2≤sizeLine; decide,[.int i tk,v],.cons ⟨_,rfl⟩ (.cons ru .nil),⟨_,hT2,rfl,_,rfl⟩⟩
  have I1:Inv X pins σ (upd H s.heap.objs.size (.tup [.int (i:Nat),x])) { s with heap:=h'',toks:=tk + 1 } :=
   I.turnedNew (ch:=[e,it]) (fun b ob hb q=>(sb.2 b (fun z=>hb (by simp [z]))).trans (hk b ob (fun z=>hb (by simp [z])) (fun z=>hb (by simp [z])) q)) hf (Nat.le_refl _) new
  refine ⟨.ref s.heap.objs.size,_,I1,rfl,⟨_,x,rfl,I.hok.fresh (Nat.le_refl _),rfl,fun ys hy=>by rw [I.tuple_inj hy hq]; exact hx⟩,⟨⟨v,?_⟩,?_,hne,hna⟩,fun b hb=>?_⟩
  ·have e1:((i + 1:Nat):Int) = (i:Int) + 1:=by omega
   rw [e1]; exact he'
  ·obtain ⟨o,q,r⟩:=hit'.1
   exact ⟨o,(sb.2 it (Ne.symm hne)).trans q,r⟩
  ·have hb':b < s.heap.objs.size:=by
    have e':b = e∨b = it:=by simpa using hb
    rcases e' with z | z
    ·rw [z]; exact hel
    ·rw [z]; exact hil
   rw [upd_ne (Nat.ne_of_lt hb')]
   exact (hf b hb).1
 done:=by
  intro X hP hw hK hc i pins s σ H E I hf st hg
  subst hP hw hK
  obtain ⟨⟨old,he⟩,hit,hne,hna⟩:=st
  obtain ⟨xs,hq,hx⟩:=hg
  obtain ⟨its,rv,p,hz⟩:=I.tuple hq
  have D:=W9 (prog:=X.prog) (w:=X.w) (A:=X.A.in1) (I.ok.hd hc) it a hna its.toArray
  obtain ⟨f0,f1,f2,f3,f4,f5⟩:=hf it (by simp)
  have hl:=rv.length
  have ei:i = its.toArray.size:=by simp; omega
  have st2:s.heap.IsTupleIter it a its.toArray.size∧s.heap.IsTuple a its.toArray:=⟨ei ▸ hit,p⟩
  exact wpAny_pyNext_enum_endD D he st2 fun h' eb=>⟨rfl,I.turned (t':=s.toks) (fun b o hb q=>eb b o hb q) f0 f1 f3 f4 f5⟩
 self:=fun A i s Q E st h=>let ⟨⟨_,he⟩,_⟩:=st; wpAny_pyIter_enum he h
def Xa (K:PySem.W.Frag) (ta:TA):TI:=fun σ H R=>ta σ H fun vs H1=>∃ a xs,vs = [.ref a]∧SqT K H1 a xs∧R (IteT K a) H1
theorem enumT {X:Cx} {e:Expr} {ta:TA} {p pos tpos:Pos} {elts:List Expr} {kk:Nat} (hm:X.mg "enumerate" = none) (ha:PA X [e] ta) (hg:Gl X "enumerate":=by rfl) (hs:starEach [e] X.env = [(false,eval e X.env)]:=by rfl) :
  PI X (.Tuple elts kk tpos) (.Call (.Name "enumerate" p) [e] [] pos) (Xa X.K ta):=by
 refine ⟨fun pins s σ H R I h=>?_⟩
 refine Call_ (ld_blt I hg hm boot_enumerate (PyProof.Rows.callWith_type1 (thn (ha.run pos pins s σ H _ I h) fun us s1 ⟨vs,H1,I1,r1,q1⟩=>?_) hs rfl))
 obtain ⟨a,xs,ex,hq,q⟩:=q1
 subst ex
 cases r1 with
 | cons r rr =>
  cases rr
  cases r
  obtain ⟨its,rv,p',hz⟩:=I1.tuple hq
  have p'':s1.heap.IsTuple a its.toArray:=p'
  have hna:a≠s1.heap.objs.size:=by
   obtain ⟨o,ho,_⟩:=p''
   exact Nat.ne_of_lt (Heap.lt_size ho)
  refine Aen p'' fun h' he hit hsz hk=>wpAny_pyIter_enum he ?_
  have I2:Inv X pins σ H1 { s1 with heap:=h' }:=I1.kept (t':=s1.toks) hk
  refine ⟨s1.heap.objs.size + 1,[s1.heap.objs.size + 1,s1.heap.objs.size],_,_,H1,rfl,I2,Aeo a (s1.heap.objs.size + 1) s1.heap.objs.size,⟨⟨.none,he⟩,hit,Nat.succ_ne_self _,hna⟩,fun b hb=>?_,q⟩
  have e':b = s1.heap.objs.size + 1∨b = s1.heap.objs.size:=by simpa using hb
  have hle:s1.heap.objs.size≤b:=by
   rcases e' with z | z
   ·rw [z]; exact Nat.le_add_right _ _
   ·rw [z]; exact Nat.le_refl _
  exact I1.fpOk hle (I1.hok.fresh hle)
end Fw
set_option maxRecDepth 100000
set_option maxHeartbeats 2000000
namespace Fw
open PySem PySem.Spec PyProof.Rows L2
open Builtin Builtin.Str Builtin.Int Builtin.Float
def padS (n:Nat) (x:Int):Str:=⟨(List.replicate (n - (toString x).length) 32 ++ (toString x).toList.map Char.toNat).toArray⟩
section
variable {M:Model} {A:Around} {E:Value→Shared→Prop} {s:Shared}
end
end Fw
set_option maxRecDepth 100000
set_option maxHeartbeats 2000000
namespace Vs
open PySem PySem.Spec PyProof.Rows L2 Fw SX
def Lg (A:M Rv):M (List D):=(Ad A).bind fun r e=>match r with
 | .val (.tup ds)=>.ok (B2 0 ds) e
 | _=>.no
section
variable {g:Gm} {W:WX} {k:Nat} {X:Cx} {G H:Hp} {a:Addr} {vs:List V} {ds:List D}
theorem Aep (hs:SqT g.K G a vs) (r:Reps g G ds vs):ItOk g G H (IteT g.K a) (B2 0 ds):=by
 have hl:=r.len
 refine ⟨fun i G' H' le bs _ hi=>?_,fun G' H' le bs _=>?_,fun i G' H' x H'' le bs _ hi y=>?_⟩
 ·rw [Hl] at hi
  exact ⟨vs,vs[i]'(by omega),bs.sqT (le.sqT hs),List.getElem?_eq_getElem _⟩
 ·exact ⟨vs,bs.sqT (le.sqT hs),by rw [Hl,hl]⟩
 ·obtain ⟨T,u,ex,nT,eH,hy⟩:=y
  subst ex eH
  obtain ⟨d,hd,rd⟩:=r.at (hy vs (bs.sqT (le.sqT hs)))
  have gr:=Grow.lay2 (o:=HO.tup [.int (i:Nat),u]) bs nT (fun _ _ z=>nomatch z)
  refine ⟨.tup [.int ((0 + i:Nat):Int),d],_,Pf 0 i ds d hd,gr,T,_,rfl,.of upd_same,⟨.int (i:Nat),[u],rfl,by show _ = _; rw [Nat.zero_add],⟨u,[],rfl,(rd.mono le).mono gr.le,rfl⟩⟩⟩
theorem Xb {ex:Expr} {A:M Rv} {p pos tpos:Pos} {elts:List Expr} {kk:Nat} (hm:X.mg "enumerate" = none) (ha:VE g W k X ex A) (hg:Gl X "enumerate":=by rfl) (hs:starEach [ex] X.env = [(false,eval ex X.env)]:=by rfl):VI g W k X (.Tuple elts kk tpos) (.Call (.Name "enumerate" p) [ex] [] pos) (Lg A):=by
 refine ⟨fun c=>?_⟩
 have pa:PA X [ex] (tCons (TV g W (Ad A)) tNil):=pa_cons ((Ar ha).run c) pa_nil hs
 have pl:PI X (.Tuple elts kk tpos) (.Call (.Name "enumerate" p) [ex] [] pos) (Xa g.K (tCons (TV g W (Ad A)) tNil)):=c.K ▸ enumT hm pa hg hs
 refine PI.imp pl fun σ H R ⟨G,e,sr,q⟩=>?_
 unfold Lg M.bind at q
 cases qa:Ad A e with
 | no=>rw [qa] at q; exact q.elim
 | er x e'=>rw [qa] at q; exact ⟨G,e,sr,by rw [qa]; exact q⟩
 | ok r e1 =>
  rw [qa] at q
  match r with
  | .slot _=>exact q.elim
  | .fresh _=>exact q.elim
  | .val d =>
   match d with
   | .tup ds =>
    refine ⟨G,e,sr,?_⟩
    rw [qa]
    intro G1 H1 t v rp
    obtain ⟨a,vs,ev,sq,rps⟩:=rp
    exact ⟨a,vs,by rw [ev],t.sr.bs.sqT sq,q G1 H1 t _ (Aep sq rps)⟩
   | .lst _=>exact q.elim
   | .str _=>exact q.elim
   | .non=>exact q.elim
   | .bl _=>exact q.elim
   | .int _=>exact q.elim
   | .dct _=>exact q.elim
   | .set _=>exact q.elim
   | .ins _ _=>exact q.elim
   | .con _=>exact q.elim
   | .scr _=>exact q.elim
end
def padD (k n:Nat):List Nat:=(padS k (n:Int)).cps.toList
def fPad (k:Nat) (A:M Rv):M Rv:=A.bind fun r e=>match r with
 | .val (.int i)=>if 0≤i∧i < 260 then .ok (.val (.str (padD k i.toNat))) e else .no
 | _=>.no
section
variable {g:Gm} {W:WX} {k:Nat} {X:Cx}
end
def Xc (T:Str→Option (List Sl→Res Rv)) (m:Str) (O:M Rv) (A B:M (List Rv)):M Rv:=O.bind fun o e0=>match Af o e0 with
 | some (.ins c fs)=>if (fs.lookup m).isNone = true then (match T c with
  | some F=>(A.bind fun rs=>B.bind fun zs=>A5 F (o :: (rs ++ zs))) e0
  | none=>.no) else .no
 | _=>.no
section
variable {g:Gm} {W:WX} {k:Nat} {X:Cx} {E:L2.St→XK}
end
end Vs
set_option maxRecDepth 100000
set_option maxHeartbeats 2000000
namespace Vs
open PySem PySem.Spec PyProof.Rows L2 Fw SX
theorem Aeq:∀ {l:List Sl} {dd:List D},E6 l = some dd→∀ j:Nat,¬ Dm l[j]?:=by
 intro l
 induction l with
 | nil=>intro dd _ j z; simp at z; exact z
 | cons a r ih =>
  intro dd h j
  cases a with
  | sh d =>
   simp only [E6] at h
   cases q:E6 r with
   | none=>rw [q] at h; cases h
   | some dd' =>
    cases j with
    | zero=>exact fun z=>z
    | succ j=>simpa using ih q j
  | _=>cases h
def Pn (m:Nat) (as:List Sl):Res Rv→Res Rv
 | .ok r as'=>.ok r (as'.take m ++ as.drop m)
 | .er x as'=>.er x (as'.take m ++ as.drop m)
 | .no=>.no
theorem Aer {g:Gm} {m np n:Nat} {B:M Ctl} {as:List Sl} {vs vt:List V} {ds et:List D} {G H G1 H1:Hp} {Q:VK} {E:XK} (ok:as.all Eh = true) (sr:SR g G H (vs.map some) as) (hm:m≤as.length) (qs:E6 (as.drop m) = some ds) (gr:Grow G H G1 H1) (rt1:Reps g G1 et vt) (hn:m + et.length = np)
  (h:Pst g (WR E) (vs.map some) G H as (fun r G' H' e'=>∀ v,RvNew g G' H' H r v→Q v H') (Pn m as (fnF np n B (as.take m ++ et.map Sl.sh)))):spV g np (fnF np n B) (vs.take m ++ vt) H1 Q E:=by
 have hl:as.length = vs.length:=by rw [sr.len,List.length_map]
 have lt1:vt.length = et.length:=rt1.len
 have sr1:=sr.grow gr
 have lw:(vs.take m).length = m:=by rw [List.length_take]; omega
 have la:(as.take m).length = m:=by rw [List.length_take]; omega
 have on:∀ i:Nat,i < m→(as.take m ++ et.map Sl.sh)[i]? = as[i]?∧((vs.take m ++ vt).map some)[i]? = (vs.map some)[i]?:=fun i hi=>by
  refine ⟨by rw [List.getElem?_append_left (by omega),List.getElem?_take_of_lt hi],?_⟩
  rw [List.getElem?_map,List.getElem?_map,List.getElem?_append_left (by omega),List.getElem?_take_of_lt hi]
 have off:∀ i:Nat,m≤i→(as.take m ++ et.map Sl.sh)[i]? = (et[i - m]?).map Sl.sh∧((vs.take m ++ vt).map some)[i]? = (vt[i - m]?).map some:=fun i hi=>by
  refine ⟨by rw [List.getElem?_append_right (by omega),la,List.getElem?_map],?_⟩
  rw [List.getElem?_map,List.getElem?_append_right (by omega),lw]
 have noR:∀ i:Nat,m≤i→¬ Dm (as.take m ++ et.map Sl.sh)[i]?:=fun i hi z=>by
  rw [(off i hi).1] at z
  cases q:et[i - m]? with
  | none=>rw [q] at z; exact z
  | some d=>rw [q] at z; exact z
 have rt:∀ i q,Rt ((vs.take m ++ vt).map some) (as.take m ++ et.map Sl.sh) i q→i < m∧Rt (vs.map some) as i q:=fun i q r=>by
  obtain ⟨r1,r2⟩:=r
  rcases Nat.lt_or_ge i m with hi | hi
  ·rw [(on i hi).1] at r1; rw [(on i hi).2] at r2; exact ⟨hi,r1,r2⟩
  ·exact (noR i hi r1).elim
 have rt':∀ i q,Rt (vs.map some) as i q→Rt ((vs.take m ++ vt).map some) (as.take m ++ et.map Sl.sh) i q:=fun i q r=>by
  have hi:i < m:=by
   rcases Nat.lt_or_ge i m with hi | hi
   ·exact hi
   ·exfalso
    obtain ⟨r1,_⟩:=r
    have e0:as[i]? = (as.drop m)[i - m]?:=by rw [List.getElem?_drop]; congr 1; omega
    rw [e0] at r1
    exact Aeq qs _ r1
  exact ⟨by rw [(on i hi).1]; exact r.1,by rw [(on i hi).2]; exact r.2⟩
 have sr2:SR g G1 H1 ((vs.take m ++ vt).map some) (as.take m ++ et.map Sl.sh):=by
  refine ⟨sr1.bs,sr1.tabs,sr1.scr,by rw [List.length_map,List.length_append,List.length_append,la,lw,List.length_map,lt1],fun i=>?_,fun i j q a b=>sr1.inj i j q (rt i q a).2 (rt j q b).2⟩
  rcases Nat.lt_or_ge i m with hi | hi
  ·rw [(on i hi).1,(on i hi).2]; exact sr1.slot i
  ·rw [(off i hi).1,(off i hi).2]
   cases q:vt[i - m]? with
   | none =>
    have:et[i - m]? = none:=by
     rw [List.getElem?_eq_none_iff] at q ⊢
     omega
    rw [this]
    trivial
   | some v =>
    obtain ⟨d,hd,rd⟩:=rt1.at q
    rw [hd]
    exact ⟨v,rfl,rd⟩
 have F9:∀ {G' H':Hp} {as':List Sl},Tr g ((vs.take m ++ vt).map some) G1 H1 (as.take m ++ et.map Sl.sh) G' H' as'→Tr g (vs.map some) G H as G' H' (as'.take m ++ as.drop m):=fun {G' H' as'} t=>by
  have la':as'.length = m + et.length:=by rw [t.ve.len]; simp [la]
  have lt':(as'.take m).length = m:=by rw [List.length_take]; omega
  have lo:∀ i:Nat,i < m→(as'.take m ++ as.drop m)[i]? = as'[i]?:=fun i hi=>by rw [List.getElem?_append_left (by omega),List.getElem?_take_of_lt hi]
  have hi':∀ i:Nat,m≤i→(as'.take m ++ as.drop m)[i]? = as[i]?:=fun i hi=>by rw [List.getElem?_append_right (by omega),lt',List.getElem?_drop]; congr 1; omega
  have rtb:∀ i q,Rt (vs.map some) (as'.take m ++ as.drop m) i q→Rt ((vs.take m ++ vt).map some) as' i q:=fun i q r=>by
   rcases Nat.lt_or_ge i m with hi | hi
   ·obtain ⟨r1,r2⟩:=r
    rw [lo i hi] at r1
    exact ⟨r1,by rw [(on i hi).2]; exact r2⟩
   ·exfalso
    obtain ⟨r1,r2⟩:=r
    rw [hi' i hi] at r1
    have:=(rt i q (rt' i q ⟨r1,r2⟩)).1
    omega
  refine ⟨⟨t.sr.bs,t.sr.tabs,t.sr.scr,by simp [lt',hl]; omega,fun i=>?_,fun i j q a b=>t.sr.inj i j q (rtb i q a) (rtb j q b)⟩,gr.le.trans t.le,fun a o h n nt=>t.keep a o (gr.keep a o h) (fun i r=>n i (rt i a r).2) nt,fun a h=>gr.dom a (t.dom a h),fun a x y n=>?_,⟨by simp [lt']; omega,fun i s hs=>?_⟩⟩
  ·rcases Nat.lt_or_ge i m with hi | hi
   ·rw [lo i hi,← (on i hi).2]; exact t.sr.slot i
   ·rw [hi' i hi]
    have sl:=sr.slot i
    cases q:as[i]? with
    | none=>trivial
    | some s =>
     rw [q] at sl
     cases s with
     | un=>trivial
     | sh d=>obtain ⟨v,ev,r⟩:=sl; exact ⟨v,ev,(r.mono gr.le).mono t.le⟩
     | bf d=>obtain ⟨v,ev,r⟩:=sl; exact ⟨v,ev,(r.mono gr.le).mono t.le⟩
     | lo d =>
      exfalso
      have:=List.all_eq_true.mp ok _ (List.mem_of_getElem? q)
      cases this
     | ow d =>
      exfalso
      obtain ⟨p',ev,_⟩:=sl
      have:=(rt i p' (rt' i p' ⟨by rw [q]; trivial,ev⟩)).1
      omega
     | bo d =>
      exfalso
      obtain ⟨p',ev,_⟩:=sl
      have:=(rt i p' (rt' i p' ⟨by rw [q]; trivial,ev⟩)).1
      omega
  ·exact t.new a (gr.new a x y) (fun z=>y (gr.dom a z)) fun i r=>n i (rt i a r).2
  ·rcases Nat.lt_or_ge i m with hi | hi
   ·obtain ⟨s',h1,h2⟩:=t.ve.at_ i s (by rw [(on i hi).1]; exact hs)
    exact ⟨s',by rw [lo i hi]; exact h1,h2⟩
   ·exact ⟨s,by rw [hi' i hi]; exact hs,SlLe.refl s⟩
 refine ⟨by simp [lw,lt1]; omega,_,_,?_,sr2,?_⟩
 ·rw [List.all_append]
  have:(as.take m).all Eh = true:=List.all_eq_true.mpr fun a ha=>List.all_eq_true.mp ok a (List.mem_of_mem_take ha)
  rw [this]
  simp [Eh]
 ·revert h
  unfold Pn
  cases fnF np n B (as.take m ++ et.map Sl.sh) with
  | no=>exact fun h=>h
  | er x as'=>exact fun h cls d G' H' t xo=>h cls d G' H' (F9 t) xo
  | ok r as'=>exact fun h G' H' t v nw=>h G' H' (F9 t) v (Adp gr.dom nw)
def E9 (m nk:Nat) (dd:List D) (F:List Sl→Res Rv) (as:List Sl):Res Rv:=if m + nk≤as.length then (match E6 (as.drop m) with
 | some ds=>if ds.length - nk≤sizeLine then Pn m as (F (as.take m ++ (ds.drop (ds.length - nk) ++ (dd ++ [D.tup (ds.take (ds.length - nk))])).map Sl.sh)) else .no
 | none=>.no) else .no
theorem Aes {g:Gm} {m nk np n:Nat} {B:M Ctl} {dd:List D} {dvs vs:List V} {H:Hp} {Q:VK} {E:XK} (hd:∀ G,Reps g G dd dvs) (hn:m + (nk + (dd.length + 1)) = np) (h:spR g (E9 m nk dd (fnF np n B)) vs H Q E) :
  ∃ ws rest zs,vs = ws ++ (rest ++ zs)∧ws.length = m∧zs.length = nk∧rest.length≤sizeLine∧∀ p,H p = none→spV g np (fnF np n B) (ws ++ (zs ++ (dvs ++ [V.ref p]))) (upd H p (.tup rest)) Q E:=by
 obtain ⟨G,as,ok,sr,h⟩:=h
 have hl:as.length = vs.length:=by rw [sr.len,List.length_map]
 unfold E9 at h
 by_cases hm:m + nk≤as.length
 ·rw [if_pos hm] at h
  cases qs:E6 (as.drop m) with
  | none=>rw [qs] at h; exact h.elim
  | some ds =>
   rw [qs] at h
   simp only at h
   by_cases hz:ds.length - nk≤sizeLine
   ·rw [if_pos hz] at h
    have rps:Reps g G ds (vs.drop m):=Wi (m:=m) (σ:=vs.map some) (es:=as) (fun i=>by rw [List.getElem?_drop]) (fun i=>by rw [List.getElem?_drop,List.getElem?_map]) (by simp [hl]) sr qs
    have ld:(vs.drop m).length = ds.length:=rps.len
    have ld2:ds.length = as.length - m:=by rw [← ld,List.length_drop,hl]
    refine ⟨vs.take m,(vs.drop m).take (ds.length - nk),(vs.drop m).drop (ds.length - nk),by rw [List.take_append_drop,List.take_append_drop],by rw [List.length_take]; omega,by rw [List.length_drop,ld]; omega,by rw [List.length_take]; omega,fun p np'=>?_⟩
    have gr:=Grow.lay2 (o:=HO.tup ((vs.drop m).take (ds.length - nk))) sr.bs np' (fun _ _ z=>nomatch z)
    refine Aer ok sr (by omega) qs gr (et:=ds.drop (ds.length - nk) ++ (dd ++ [D.tup (ds.take (ds.length - nk))])) ?_ (by simp; omega) h
    exact ((rps.drop _).mono gr.le).append ((hd _).append ⟨_,[],rfl,⟨p,_,rfl,.of upd_same,(rps.take _).mono gr.le⟩,rfl⟩)
   ·rw [if_neg hz] at h; exact h.elim
 ·rw [if_neg hm] at h; exact h.elim
section
variable {P:Program} {w:World} {K:PySem.W.Frag} {mg:Str→Option Value} {base:Heap} {g:Gm}
def R0 (K:PySem.W.Frag) (fd:FuncData) (ps:List Str) (pv:Str) (m:Nat) (ks:List Str) (mv:List Value):Prop :=
 ∀ (P:Program) (w:World) (A:Around) (Q:List (Str × Value)→Shared→Prop) (Ex:Value→Shared→Prop) (s:Shared) (us rest ws:List Value),K.In s.heap→us.length = m→ws.length = ks.length →
  wpAny (model P w) A (newTuple rest >>= fun t=>pure (ps.zip (us ++ (ws ++ mv)) ++ [(pv,t)])) Q Ex s→wpAny (model P w) A (bindArgs fd ⟨us ++ rest,ks.zip ws⟩) Q Ex s
theorem Aet {ca:Str→Addr} {Tb:LT} {sa:Addr} {sn:List Int} {x qual pv:Str} {params:Arguments} {body:List Stmt} {scope:Scope} {kws:List (Str × V)} {f:Addr} {fd:FuncData} {N ps ks:List Str} {k m np:Nat} {B:M Ctl} {dd:List D} {dvs:List V} {mv:List Value}
  (F:FunD K x qual params body scope [] kws f fd) (S:FnScope N (ps ++ [pv]) scope) (hd:∀ G,Reps ⟨K,w,ca,Tb,sa,sn⟩ G dd dvs) (hv:Vals dvs mv) (hp:ps.length = m + (ks.length + dd.length)) (hnp:np = ps.length + 1) (hbd:R0 K fd ps pv m ks mv)
  (hb:∀ (cdv:Value) (A:Around) (outer:List PySem.Env) (s:Shared) (H:Hp) (E:XK),VSs ⟨K,w,ca,Tb,sa,sn⟩ (WR E) k (cxOf (L2.CX P w) P w K mg base N qual scope f cdv A outer s H E) body B) :
  FnK P w K mg base (L2.CX P w) (k + 1) f ks (spR ⟨K,w,ca,Tb,sa,sn⟩ (E9 m ks.length dd (fnF np N.length B))):=by
 obtain ⟨oc,od,dV,kV,doc,pm,an,cdv,ct,osl,rfl,lk,hcd,hD,_⟩:=F.ex
 intro A outer s H us ws vs zs Q E hr e0 rv rz hl hs
 have lz0:zs.length = ks.length:=by rw [← hl]; exact rz.length
 have ldv:dvs.length = dd.length:=(hd (fun _=>none)).len
 have lmv:mv.length = dd.length:=by rw [← ldv]; exact hv.length.symm
 obtain ⟨xs,rest,zs',ev,lx,lzz,lr,hq⟩:=Aes hd (by omega) hs
 rw [← List.append_assoc] at ev
 obtain ⟨ev2,ez2⟩:=List.append_inj' ev (by rw [lz0,lzz])
 subst ev2 ez2
 obtain ⟨u1,u2,eu,r1,r2⟩:=StX.vals_split rv
 subst eu
 have free:H s.heap.objs.size = none:=e0.hok.fresh (Nat.le_refl _)
 have l1:u1.length = m:=by rw [← r1.length]; exact lx
 have l2:u2.length≤sizeLine:=by rw [← r2.length]; exact lr
 refine StX.run_bnd lk hcd S hr.toRoom e0 (G:=fun vs2 H2=>∃ p,H p = none∧vs2 = xs ++ (zs ++ (dvs ++ [V.ref p]))∧H2 = upd H p (.tup rest)) (fun A' Ex Q' h=>?_) fun s2 H2 vs2 q hr'=>?_
 ·refine hbd P w A' Q' Ex s u1 u2 ws (e0.mod.kin.keeps fun b o e=>(e0.bs b o e).1) l1 hl ?_
  have un:=StX.un_laid (fs:=frs outer) (s:=s) (o:=({ cls:=.type "tuple",data:=.seq u2.toArray }:Obj)) (u:=.tup rest) free
  have nw:ObjOk P w (upd H s.heap.objs.size (.tup rest)) (s.heap.push ({ cls:=.type "tuple",data:=.seq u2.toArray }:Obj)) s.heap.objs.size (.tup rest):=⟨by rw [r2.length]; exact l2,u2,r2,⟨_,Heap.get?_push_size _ rfl,rfl,_,rfl⟩⟩
  have z:=h _ _ (xs ++ (zs ++ (dvs ++ [V.ref s.heap.objs.size]))) (u1 ++ (ws ++ (mv ++ [Value.ref s.heap.objs.size]))) (StX.env0_laid e0 nw) un rfl (fun e s'=>StX.cxUp outer s H _ _ E e s' un (fun b o q=>Heap.get?_push_of_some _ q) rfl) (r1.append (rz.append (hv.append (.cons rfl .nil)))) (by simp [lx,lz0,ldv,hp]; omega) ⟨_,free,rfl,rfl⟩
  have ez:(ps ++ [pv]).zip (u1 ++ (ws ++ (mv ++ [Value.ref s.heap.objs.size]))) = ps.zip (u1 ++ (ws ++ mv)) ++ [(pv,Value.ref s.heap.objs.size)]:=by
   rw [show u1 ++ (ws ++ (mv ++ [Value.ref s.heap.objs.size])) = (u1 ++ (ws ++ mv)) ++ [Value.ref s.heap.objs.size] by simp,List.zip_append (by simp [l1,hl,lmv,hp])]
   rfl
  rw [ez] at z
  exact wpAny_bind (wpAny_newTuple (wpAny_pure z) l2)
 ·obtain ⟨p,hp',ev,eH⟩:=q
  subst ev eH
  exact Ado ⟨rfl,rfl,rfl,takes_of rfl rfl rfl rfl,⟨hr',hr.gd⟩,passes_of rfl,S.nd⟩ (hb cdv A outer s2 _ E) (hq p hp')
theorem Aeu {x qual pv q:Str} {v:V} {params:Arguments} {body:List Stmt} {scope:Scope} {f:Addr} {fd:FuncData} {ps:List Str} {m:Nat} (F:FunD K x qual params body scope [] [(q,v)] f fd)
  (h:∀ (D:Addr) (doc pm:Value) (an:Option Addr) (cdv ct:Value) (us rest:List Value) (u:Value),us.length = m→∃ (β γ:Type) (k1:Option Value→Sem β) (k2:β→Sem γ) (k3:γ→Sem (List (Str × Value))) (a:β),bindArgs (PySem.W.fnOf x qual params body scope .none (.ref D) doc pm an cdv ct) ⟨us ++ rest,[]⟩ = ((nsGet D q >>= k1) >>= k2) >>= k3∧k1 (some u) = pure a∧(k2 a >>= k3) = (newTuple rest >>= fun t=>pure (ps.zip (us ++ [u]) ++ [(pv,t)]))):∃ u,RelV v u∧R0 K fd ps pv m [] [u]:=by
 obtain ⟨oc,od,dV,kV,doc,pm,an,cdv,ct,osl,rfl,lk,hcd,hD,hK⟩:=F.ex
 obtain rfl:dV = .none:=by
  rcases hD with ⟨_,h⟩ | ⟨h,_⟩
  ·exact h
  ·exact absurd rfl h
 rcases hK with e | ⟨D,rfl,hq⟩
 ·cases e
 ·obtain ⟨u,e1,e2⟩:=hq (q,v) (List.mem_cons_self ..)
  refine ⟨u,e2,fun P w A Q Ex s us rest ws X hu hw z=>?_⟩
  obtain rfl:ws = []:=List.eq_nil_of_length_eq_zero hw
  obtain ⟨β,γ,k1,k2,k3,a,h1,h2,h3⟩:=h D doc pm an cdv ct us rest u hu
  show wpAny _ _ (bindArgs _ ⟨us ++ rest,[]⟩) _ _ _
  rw [h1,bind_assoc]
  have l1:PySem.W.Looks (model P w) s.heap (nsGet D q >>= k1) a:=(PySem.W.looks_nsIn X e1).andThen (PySem.W.Looks.of_pure h2)
  refine wpAny_bind (l1.here ?_)
  rw [h3]
  exact z
theorem Aev {ca:Str→Addr} {Tb:LT} {sa:Addr} {sn:List Int} {x qual pv:Str} {params:Arguments} {body:List Stmt} {scope:Scope} {kws:List (Str × V)} {f:Addr} {fd:FuncData} {N ps:List Str} {k m np:Nat} {B:M Ctl} {d:D} {v:V}
  (F:FunD K x qual params body scope [] kws f fd) (S:FnScope N (ps ++ [pv]) scope) (hd:∀ G,Reps ⟨K,w,ca,Tb,sa,sn⟩ G [d] [v]) (hp:ps.length = m + 1) (hnp:np = ps.length + 1) (hbd:∃ u,RelV v u∧R0 K fd ps pv m [] [u])
  (hb:∀ (cdv:Value) (A:Around) (outer:List PySem.Env) (s:Shared) (H:Hp) (E:XK),VSs ⟨K,w,ca,Tb,sa,sn⟩ (WR E) k (cxOf (L2.CX P w) P w K mg base N qual scope f cdv A outer s H E) body B) :
  FnK P w K mg base (L2.CX P w) (k + 1) f [] (spR ⟨K,w,ca,Tb,sa,sn⟩ (E9 m 0 [d] (fnF np N.length B))):=by
 obtain ⟨u,r,b⟩:=hbd
 exact Aet (ks:=[]) (dvs:=[v]) (mv:=[u]) F S hd (.cons r .nil) (by rw [hp]; simp) hnp b hb
end
end Vs
set_option maxRecDepth 100000
set_option maxHeartbeats 2000000
namespace Vs
open PySem PySem.Spec PyProof.Rows L2 Fw SX
section
variable {g:Gm} {G H G1 H1 G2 H2:Hp} {σ σ1 σ2:L2.St} {e e1 e2:Ve} {vs is vs1:List Nat} {Da:Addr} {acc:List V} {ys:List D}
theorem Lp.grow (l:Lp g G H σ e vs Da σ1 acc ys G1 H1 e1) (gr:Grow G1 H1 G2 H2):Lp g G H σ e vs Da σ1 acc ys G2 H2 e1 :=
 ⟨l.st.trans (gr.tr l.st.sr).st,l.vo,l.un,l.wp,gr.keep _ _ l.hD,gr.new _ l.nD (by rw [l.hD]; exact fun z=>nomatch z),l.rp.mono gr.le,l.nr⟩
theorem Lp.tr (l:Lp g G H σ e vs Da σ1 acc ys G1 H1 e1) (t:Tr g σ1 G1 H1 e1 G2 H2 e2):Lp g G H σ e vs Da σ1 acc ys G2 H2 e2:=by
 have at_:∀ (j:Nat) (s:Sl),e2[j]? = some s→∃ s0,e1[j]? = some s0∧SlLe s0 s:=fun j s h=>by
  have hl:j < e1.length:=by rw [← t.ve.len]; exact Bj h
  obtain ⟨s',h',le⟩:=t.ve.at_ j e1[j] (List.getElem?_eq_getElem hl)
  rw [h] at h'; cases h'
  exact ⟨_,List.getElem?_eq_getElem hl,le⟩
 refine ⟨l.st.trans t.st,l.vo.trans t.ve.off,fun j hj s h=>?_,l.wp,t.keep _ _ l.hD l.nr (fun ps z=>nomatch z),t.new _ l.nD (by rw [l.hD]; exact fun z=>nomatch z) l.nr,l.rp.mono t.le,fun i r=>?_⟩
 ·obtain ⟨s0,h0,le⟩:=at_ j s h
  rcases l.un j hj s0 h0 with z | ⟨d',z⟩
  ·rw [z] at le; exact .inl le
  ·rw [z] at le; exact .inr ⟨d',le⟩
 ·obtain ⟨r1,r2⟩:=r
  cases q:e2[i]? with
  | none=>rw [q] at r1; exact r1
  | some s =>
   rw [q] at r1
   obtain ⟨s0,h0,le⟩:=at_ i s q
   exact l.nr i ⟨by rw [h0]; exact Oc le r1,r2⟩
theorem Lp.app (l:Lp g G H σ e vs Da σ1 acc ys G1 H1 e1) (h0:H Da = none) {d:D} {v:V} (r:Rep g G1 d v):Lp g G H σ e vs Da σ1 (acc ++ [v]) (ys ++ [d]) G1 (upd H1 Da (.lst (acc ++ [v]))) e1 :=
 ⟨l.st.putNew h0 l.nD l.nr (fun o z=>by rw [l.hD] at z; cases z; trivial),l.vo,l.un,l.wp,upd_same,l.nD,l.rp.append ⟨v,[],rfl,r,rfl⟩,l.nr⟩
theorem Xd (hv:∀ i∈vs1,i∈vs):wipe (wipe σ1 vs1) vs = wipe σ1 vs:=Mi (wipe_length σ1 vs1) fun j hj=>wipe_out fun z=>hj (hv j z)
theorem Lp.wiped (l:Lp g G H σ e vs Da σ1 acc ys G1 H1 e1) (hv:∀ i∈vs1,i∈vs):Lp g G H σ e vs Da (wipe σ1 vs1) acc ys G1 H1 (An e1 vs1):=by
 have un:∀ j∈vs,∀ s,(An e1 vs1)[j]? = some s→s = .un∨∃ d,s = .sh d:=fun j hj s h=>by
  by_cases hm:j∈vs1
  ·have hl:j < e1.length:=by rw [← Dq vs1]; exact Bj h
   rw [Hf hl hm] at h
   cases h; exact .inl rfl
  ·rw [C4 hm] at h
   exact l.un j hj s h
 refine ⟨l.st.wiped fun j hj=>⟨(fun d' z=>by rcases l.un j (hv j hj) _ z with y | ⟨_,y⟩ <;> cases y),(fun s fx z=>by rcases l.un j (hv j hj) _ z with y | ⟨_,y⟩ <;> rw [y] at fx <;> cases fx)⟩,
  l.vo.trans ⟨Dq vs1,fun j s n h=>⟨s,by rw [C4 fun z=>n (hv j z)]; exact h,SlLe.refl s⟩⟩,un,by rw [Xd hv,l.wp],l.hD,l.nD,l.rp,fun i r=>?_⟩
 obtain ⟨r1,r2⟩:=r
 obtain ⟨h1,h2⟩:=wipe_some r2
 rw [C4 h2] at r1
 exact l.nr i ⟨r1,h1⟩
theorem Lp.fz (l:Lp g G H σ e vs Da σ1 acc ys G1 H1 e1) (t:Tr g σ1 G1 H1 e1 G2 H2 e2):Fz H1 H2:=t.st.fz l.st.sr
end
section
variable {g:Gm}
end
section
variable {g:Gm} {W:WX} {k:Nat} {X:Cx} {elt tg iter tg1 iter1:Expr} {ifs ifs1:List Expr} {scope:Scope} {own:List (Str × Nat)} {pos:Pos} {S S1:M (List D)} {F F1:D→M Unit} {is is1 vs1:List Nat} {T T1:M Bool} {E:M Rv}
end
end Vs
set_option maxRecDepth 100000
set_option maxHeartbeats 2000000
namespace Vs
open PySem PySem.Spec PyProof.Rows L2 Fw SX
section
variable {g:Gm} {W:WX} {k:Nat} {X:Cx}
end
end Vs
set_option maxRecDepth 100000
set_option maxHeartbeats 2000000
namespace Vs
open PySem PySem.Spec PyProof.Rows L2 Fw SX
section
variable {g:Gm} {W:WX} {k:Nat} {X:Cx}
end
section
variable {g:Gm} {W:WX} {k:Nat} {X:Cx} {x:Str} {i:Nat} {ex:Expr} {A:M (List Rv)} {p apos cpos:Pos}
end
end Vs
set_option maxRecDepth 100000
set_option maxHeartbeats 2000000
namespace Vs
open PySem PySem.Spec PyProof.Rows L2 Fw SX He NdefX
theorem Aew {K:PySem.W.Frag} {l:FarD} (e:Ku K (l.p K) = l.d.val) (c:farB l K = true):∃ u,FunD K l.d.name l.d.qual l.d.params l.d.body l.d.scope (l.d.dvs K) (l.d.kws K) (l.p K) u:=by
 obtain ⟨kp,c⟩:=ba c
 unfold Ku at e
 cases lk:K.lookup (l.p K) with
 | none =>
  rw [lk] at e
  exact nomatch e
 | some o =>
  obtain ⟨oc,od,dt,sl⟩:=o
  rw [lk] at e c
  cases dt with
  | func u =>
   obtain ⟨m1,m2,m3,m4,m5,m6,m7,m8,m9,m10,m11,m12,m13,m14,m15⟩:=u
   have e:=Option.some.inj e
   obtain ⟨c1,c⟩:=ba c
   obtain ⟨c2,c3⟩:=ba c
   simp only [Prod.mk.injEq] at e
   obtain ⟨rfl,rfl,rfl,rfl,rfl,rfl,rfl,rfl⟩:=e
   exact ⟨_,⟨oc,od,m8,m9,m10,m11,m12,m13,m14,sl,rfl,lk,c1,dflB_ok c2,kwdB_ok c3⟩,kp⟩
  | _=>exact nomatch c
end Vs
set_option maxRecDepth 100000
set_option maxHeartbeats 2000000
namespace Vs
open PySem PySem.Spec PyProof.Rows L2 Fw SX He NdefX
end Vs
set_option maxRecDepth 100000
set_option maxHeartbeats 2000000
namespace Vs
open PySem PySem.Spec PyProof.Rows L2 Fw SX He NdefX
theorem Aex {xs:List Str} {fs:List (PySem.W.Frag→Addr)} {ex:Ex} {fa:List Fa} {fn:List DefD} {tf:List Defn} {xn:List XnD} {fr:List FarD} {g:Addr→Option Obj} {s:Shared} (h:∀ a,g a = s.heap.get? a):Od xs fs ex fa fn tf xn fr g = (T7 xs fs ex fa fn tf xn fr).obs s:=by
 obtain rfl:g = s.heap.get?:=funext h
 rfl
end Vs
set_option maxRecDepth 100000
set_option maxHeartbeats 2000000
namespace Vs
open PySem PySem.Spec PyProof.Rows L2 Fw SX NdefX
section
variable {g:Gm} {W:WX} {k:Nat} {X:Cx}
end
section
variable {g:Gm} {i:Nat} {y:Str} {X:Cx}
end
end Vs
set_option maxRecDepth 100000
set_option maxHeartbeats 2000000
namespace Vs
open PySem PySem.Spec PyProof.Rows L2 Fw SX He NdefX
end Vs
set_option maxRecDepth 100000
set_option maxHeartbeats 2000000
namespace Vs
open PySem PySem.Spec PyProof.Rows L2 Fw SX NdefX
abbrev leT:List Value:=[.type "LookupError",.type "Exception",.type "BaseException",.type "object"]
structure OexL (K:PySem.W.Frag) (C:Addr):Prop where
 ini:PySem.W.excInitIn K C leT "LookupError.__new__" = true
 ovr:PySem.W.excOver K C leT = true
 dct:PySem.W.hasDictIn K C = true
 sa:PySem.W.findIn K (.ref C) "__setattr__" = some (some (.builtin "object.__setattr__"))
 exC:PySem.W.subIn K (.ref C) (.type "BaseException") = some true
 tyC:PySem.W.typeIn K (.ref C) = some (.type "type")
 kC:PySem.W.keepIn K (.ref C) = true
section
variable {X:Cx} {pins:List (Addr × Obj)} {σ:L2.St} {H:Hp} {s:Shared} {a C dx:Addr} {f:Str} {y:V} {u:Value} {fs:List (Str × V)} {Q:Unit→Shared→Prop} {E:Value→Shared→Prop} {A:Around}
end
section
variable {X:Cx} {o e:Expr} {es:List Expr} {to te:TE} {ta:TA} {f:Str} {p p' pos:Pos}
end
structure ExiL (P:Program) (K:PySem.W.Frag) (C f cc:Addr) (F:NF) (fd:FuncData) (slf:Str):Prop where
 T:OexL K C
 cl:F.cl = [(("__class__" : Str),cc)]
 lkf:∃ oc od osl,K.lookup f = some ⟨oc,od,.func fd,osl⟩
 fdX:∃ dV kV doc pm an ct,fd = PySem.W.fnX F.name F.qual F.params F.body F.scope F.cl dV kV doc pm an (.ref F.c) ct
 par:∃ ar:Arg,(fd.params.posonlyargs ++ fd.params.args).head? = some ar∧ar.arg = slf
 code:∃ ccl cdd vs ccs file tf,K.lookup F.c = some ⟨ccl,cdd,.fields vs,ccs⟩∧vs[2]? = some (.str file tf)∧((P.main.file:Str) == file) = true
 cdr:PySem.W.codeIn K (.ref F.c) F.qual = true
 cell:∃ cl cld csl,K.lookup cc = some ⟨cl,cld,.cell (some (.ref C)),csl⟩
 cls:(PySem.W.clsIn K C).isSome = true
 sub:PySem.W.mroIn K C (.ref C) = some true
 ks:F.scope.names.lookup ("super" : Str) = some .globalImplicit
 kc:F.scope.names.lookup ("__class__" : Str) = some .free
 ka:F.scope.names.lookup slf = some .local
 top:(P.main.scope.names.lookup ("super" : Str)).isSome = false
 opq:PySem.W.nsIn K cStatics "thirdparty.any" = some none
 sup:PySem.W.ks_superIn K C C "__init__" = some (some (.builtin "LookupError.__init__"))
 isB:PySem.W.subIn K (.ref C) (.type "LookupError") = some true
section
variable {CXa:CXT} {P:Program} {w:World} {K:PySem.W.Frag} {mg:Str→Option Value} {base:Heap} {N:List Str} {F:NF} {f C cc a:Addr} {fd:FuncData} {slf:Str} {A:Around} {outer:List PySem.Env} {s0 s:Shared} {H0 H:Hp} {E:XK} {σ:L2.St}
end
section
variable {CXa:CXT} {P:Program} {w:World} {K:PySem.W.Frag} {mg:Str→Option Value} {base:Heap} {F:NF} {f C cc:Addr} {fd:FuncData} {slf v1 v2 f1 f2 x:Str} {j:Nat} {p0 p1 p2 p3 p4 pos q1 q2 q3 q4 r1 r2 r3 r4:Pos}
end
section
variable {g:Gm} {W:WX} {k:Nat} {X:Cx} {G:Hp}
end
end Vs
set_option maxRecDepth 100000
set_option maxHeartbeats 4000000
namespace Vs
open PySem PySem.Spec PyProof.Rows L2 Fw SX He NdefX
section
variable {P:Program} {w:World} {K:PySem.W.Frag} {mg:Str→Option Value} {base:Heap} {Tb:LT} {sa:Addr} {sn:List Int} {d:XnD} {slf v1 v2 f1 f2 x:Str} {j:Nat} {p0 p1 p2 p3 p4 pos q1 q2 q3 q4 r1 r2 r3 r4:Pos}
end
end Vs
set_option maxRecDepth 100000
set_option maxHeartbeats 2000000
namespace Vs
open PySem PySem.Spec PyProof.Rows L2 Fw SX NdefX
structure SupF (prog:Program) (K:PySem.W.Frag) (mg:Str→Option Value) (f cda cc D:Addr) (x0:Str):Prop where
 fn:∃ oc od fd osl ar,K.lookup f = some (⟨oc,od,.func fd,osl⟩:Obj)∧(fd.params.posonlyargs ++ fd.params.args).head? = some ar∧ar.arg = x0
 cd:∃ ccl cdd vs ccs file tf,K.lookup cda = some (⟨ccl,cdd,.fields vs,ccs⟩:Obj)∧vs[2]? = some (.str file tf)∧((prog.main.file:Str) == file) = true
 cell:∃ cl cld csl,K.lookup cc = some (⟨cl,cld,.cell (some (.ref D)),csl⟩:Obj)
 cls:∃ cdD,PySem.W.clsIn K D = some cdD
 top:(prog.main.scope.names.lookup ("super" : Str)).isSome = false
 sup:mg "super" = none
 opq:PySem.W.nsIn K cStatics "thirdparty.any" = some none
structure SupM (K:PySem.W.Frag) (C D:Addr) (m:Str) (f2:Addr):Prop where
 sub:PySem.W.mroIn K C (.ref D) = some true
 at_:PySem.W.ks_superIn K C D m = some (some (.ref f2))
 ty:PySem.W.typeIn K (.ref f2) = some (.type "function")
 fn:PySem.W.fnIn K f2 = true
section
variable {X:Cx} {pins:List (Addr × Obj)} {σ:L2.St} {H:Hp} {s:Shared} {f cda cc D p C dx f2:Addr} {x0 m:Str} {fs:List (Str × V)} {body:List Stmt} {p0 p1 apos pos:Pos} {pl:Sem Bool} {k:Nat} {sp:Sp} {Q:VK} {E:L2.St→XK}
end
structure VEC (g:Gm) (W:WX) (k:Nat) (X:Cx) (body:List Stmt) (e:Expr) (F:M Rv):Prop where
 run:Cd g W k X→∀ (pins:List (Addr × Obj)) (s:Shared) (σ:L2.St) (H:Hp) (Q:VK),Inv X pins σ H s→TV g W F σ H Q→_root_.PySem.wpAt (model X.prog X.w) X.A (.func body X.env) (eval e X.env) (EP X pins σ Q) X.xe s
structure VSC (g:Gm) (W:WX) (k:Nat) (X:Cx) (body:List Stmt) (st:List Stmt) (F:M Ctl):Prop where
 run:Cd g W k X→∀ (pins:List (Addr × Obj)) (s:Shared) (σ:L2.St) (H:Hp) (D:Ends),Inv X pins σ H s→TVS g W F D σ H→_root_.PySem.wpAt (model X.prog X.w) X.A (.func body X.env) (execs st X.env) (SP X pins D) X.xe s
section
variable {g:Gm} {W:WX} {k:Nat} {X:Cx} {body:List Stmt} {a b:Expr} {A B:M Rv} {pos:Pos}
end
end Vs
set_option maxRecDepth 100000
set_option maxHeartbeats 4000000
namespace Vs
open PySem PySem.Spec PyProof.Rows L2 Fw SX He NdefX
structure SupDef (P:Program) (K:PySem.W.Frag) (mg:Str→Option Value) (d:XnD) (slf:Str) (fd:FuncData):Prop where
 ex:∃ (cda cc:Addr) (oc:Value) (od:Option Addr) (kV doc pm:Value) (an:Option Addr) (ct:Value) (osl:Array (Option Value)),
  fd = PySem.W.fnX d.m d.qual d.params d.body d.scope [("__class__",cc)] .none kV doc pm an (.ref cda) ct∧K.lookup (ma K (ga K d.x) d.m) = some ⟨oc,od,.func fd,osl⟩∧PySem.W.codeIn K (.ref cda) d.qual = true ∧
  (∃ cl cld csl,K.lookup cc = some (⟨cl,cld,.cell (some (.ref (ga K d.x))),csl⟩:Obj))∧SupF P K mg (ma K (ga K d.x) d.m) cda cc (ga K d.x) slf
 kp:PySem.W.keepIn K (.ref (ma K (ga K d.x) d.m)) = true
theorem SupDef.binds {P:Program} {K:PySem.W.Frag} {mg:Str→Option Value} {d:XnD} {slf:Str} {fd:FuncData} {ps:List Str} (F:SupDef P K mg d slf fd)
  (h:∀ cc kV doc pm an cdv ct (us:List Value),us.length = ps.length→bindArgs (PySem.W.fnX d.m d.qual d.params d.body d.scope [("__class__",cc)] .none kV doc pm an cdv ct) ⟨us,[]⟩ = pure (ps.zip us)):Binds K fd ps []:=by
 obtain ⟨cda,cc,oc,od,kV,doc,pm,an,ct,osl,rfl,_⟩:=F.ex
 exact .all fun us hl=>h cc kV doc pm an _ ct us hl
end Vs
namespace Vs
open PySem PySem.Spec PyProof.Rows L2 Fw SX He
theorem Aey {c:Str} {K:PySem.W.Frag} (h:seqB c K = true):PySem.W.noSeq K (ga K c) = true:=h
end Vs
set_option maxRecDepth 100000
set_option maxHeartbeats 2000000
namespace Vs
open PySem PySem.Spec PyProof.Rows L2 Fw SX
def Res.bnd {α β:Type} (r:Res α) (k:α→Ve→Res β):Res β:=match r with
 | .ok a e=>k a e
 | .er x e=>.er x e
 | .no=>.no
def obn {α β:Type} (o:Option α) (k:α→Res β):Res β:=match o with
 | some a=>k a
 | none=>.no
def ifb {β:Type} (b:Bool) (x y:Res β):Res β:=match b with
 | true=>x
 | false=>y
section
variable {α β:Type}
class Kn (α β:Type) where
 k:α→Ve→Res β
class Ko (α β:Type) where
 k:α→Res β
class Kx (β:Type) where
 r:Res β
def Res.bndI (r:Res α) [K:Kn α β]:Res β:=r.bnd K.k
def obnI (o:Option α) [K:Ko α β]:Res β:=obn o K.k
def ifbI (b:Bool) [X:Kx β] [Y:Kx β]:Res β:=ifb b X.r Y.r
theorem Xe {r:Res α} {k:α→Ve→Res β}:r.bnd k = @Res.bndI α β r ⟨k⟩:=rfl
theorem obn_i {o:Option α} {k:α→Res β}:obn o k = @obnI α β o ⟨k⟩:=rfl
theorem ifb_i {b:Bool} {x y:Res β}:ifb b x y = @ifbI β b ⟨x⟩ ⟨y⟩:=rfl
theorem Xf {a:α} {e:Ve} {k:α→Ve→Res β}:@Res.bndI α β (.ok a e) ⟨k⟩ = k a e:=rfl
theorem Aez {x:Exn} {e:Ve} {k:α→Ve→Res β}:@Res.bndI α β (.er x e) ⟨k⟩ = .er x e:=rfl
theorem Ae0 {k:α→Ve→Res β}:@Res.bndI α β .no ⟨k⟩ = .no:=rfl
theorem Ae1 {a:α} {k:α→Res β}:@obnI α β (some a) ⟨k⟩ = k a:=rfl
theorem Ae2 {x y:Res β}:@ifbI β true ⟨x⟩ ⟨y⟩ = x:=rfl
theorem Ae3 {x y:Res β}:@ifbI β false ⟨x⟩ ⟨y⟩ = y:=rfl
theorem F7 {c:Prop} [Decidable c] {x y:Res β}:(if c then x else y) = ifb (decide c) x y:=by
 by_cases z:c
 ·rw [decide_eq_true z,if_pos z]; rfl
 ·rw [decide_eq_false z,if_neg z]; rfl
theorem Ae4 {f:M α} {k:α→M β} {e:Ve}:M.bind f k e = (f e).bnd fun a=>k a:=rfl
theorem ret_e {a:α} {e:Ve}:M.ret a e = .ok a e:=rfl
theorem map_e {f:M α} {k:α→β} {e:Ve}:M.map f k e = (f e).bnd fun a e1=>.ok (k a) e1:=rfl
end
section
variable {A B C:M Rv} {e:Ve} {d:D} {i:Nat}
theorem fC_e:fC d e = .ok (.val d) e:=rfl
theorem Ae5:Bq (.val d) e = .ok d e:=rfl
theorem Ae6:Bq (.fresh d) e = .ok d e:=rfl
theorem Ae7:Af (.val d) e = some d:=rfl
theorem Ae8:Af (.fresh d) e = some d:=rfl
theorem Ae9:Ad A e = (A e).bnd fun r e1=>(Bq r e1).bnd fun d e2=>.ok (.val d) e2:=rfl
theorem fOp_e {f:D→D→Option Rv}:fOp f A B e = (A e).bnd fun a e1=>(B e1).bnd fun b e2=>obn (Af a e2) fun x=>obn (Af b e2) fun y=>obn (f x y) fun r=>.ok r e2:=by
 unfold fOp M.bind Res.bnd
 cases A e with
 | no=>rfl
 | er x e1=>rfl
 | ok a e1 =>
  simp only
  cases B e1 with
  | no=>rfl
  | er x e2=>rfl
  | ok b e2 =>
   simp only
   cases Af a e2 with
   | none=>rfl
   | some x =>
    cases Af b e2 with
    | none=>rfl
    | some y =>
     show (match f x y with | some r=>Res.ok r e2 | none=>.no) = obn (f x y) _
     cases f x y <;> rfl
def tstR:Rv→Ve→Res Bool
 | .val (.bl b),e=>.ok b e
 | _,_=>.no
theorem Afa:A8 A e = (A e).bnd tstR:=by
 unfold A8 M.bind Res.bnd
 cases A e with
 | no=>rfl
 | er x e1=>rfl
 | ok a e1=>cases a with
  | val d=>cases d <;> rfl
  | _=>rfl
theorem Afb {b:Bool}:tstR (.val (.bl b)) e = .ok b e:=rfl
theorem Afc:Ag e = .ok [] e:=rfl
theorem Afd {L:M (List Rv)}:Ab A L e = (A e).bnd fun a e1=>(L e1).bnd fun bs e2=>.ok (a :: bs) e2:=rfl
theorem Afe {f:List D→Option Rv} {L:M (List Rv)}:Ao f L e = (L e).bnd fun rs e1=>obn (Bk rs e1) fun ds=>obn (f ds) fun r=>.ok r e1:=by
 unfold Ao M.bind Res.bnd
 cases L e with
 | no=>rfl
 | er x e1=>rfl
 | ok rs e1 =>
  simp only
  cases Bk rs e1 with
  | none=>rfl
  | some ds =>
   show (match f ds with | some r=>Res.ok r e1 | none=>.no) = obn (f ds) _
   cases f ds <;> rfl
theorem Afg:Bk [] e = some []:=rfl
theorem Afh {rs:List Rv}:Bk (.val d :: rs) e = (Bk rs e).map (d :: ·):=by
 show (match some d,Bk rs e with | some d,some ds=>some (d :: ds) | _,_=>none) = _
 cases Bk rs e <;> rfl
theorem Afi {rs:List Rv}:Bk (.fresh d :: rs) e = (Bk rs e).map (d :: ·):=by
 show (match some d,Bk rs e with | some d,some ds=>some (d :: ds) | _,_=>none) = _
 cases Bk rs e <;> rfl
theorem Afj {rs:List Rv}:Bk (.slot i :: rs) e = (Af (.slot i) e).bind fun d=>(Bk rs e).map (d :: ·):=by
 show (match Af (.slot i) e,Bk rs e with | some d,some ds=>some (d :: ds) | _,_=>none) = _
 cases Af (.slot i) e <;> cases Bk rs e <;> rfl
theorem Afk {L:M (List Rv)}:Fp L e = (L e).bnd fun rs e1=>obn (B6 rs) fun ds=>ifb (decide (ds.length≤sizeLine)) (.ok (.fresh (.lst ds)) e1) .no:=by
 unfold Fp M.bind Res.bnd
 cases L e with
 | no=>rfl
 | er x e1=>rfl
 | ok rs e1 =>
  simp only
  cases B6 rs with
  | none=>rfl
  | some ds=>exact F7
theorem Afl {L:M (List Rv)}:Ky L e = (L e).bnd fun rs e1=>obn (B6 rs) fun ds=>ifb (decide (ds.length≤sizeLine)) (.ok (.val (.tup ds)) e1) .no:=by
 unfold Ky M.bind Res.bnd
 cases L e with
 | no=>rfl
 | er x e1=>rfl
 | ok rs e1 =>
  simp only
  cases B6 rs with
  | none=>rfl
  | some ds=>exact F7
theorem Afm {T:M Bool}:Ew T e = (T e).bnd fun b e1=>.ok (!b) e1:=rfl
theorem Afn {S T:M Bool}:Fq S T e = (S e).bnd fun b e1=>ifb b (T e1) (.ok false e1):=by
 unfold Fq M.bind Res.bnd
 cases S e with
 | no=>rfl
 | er x e1=>rfl
 | ok b e1=>cases b <;> rfl
theorem fOr_e {S T:M Bool}:fOr S T e = (S e).bnd fun b e1=>ifb b (.ok true e1) (T e1):=by
 unfold fOr M.bind Res.bnd
 cases S e with
 | no=>rfl
 | er x e1=>rfl
 | ok b e1=>cases b <;> rfl
theorem Afo {α:Type} {T:M Bool} {X Y:M α}:B7 T X Y e = (T e).bnd fun b e1=>ifb b (X e1) (Y e1):=by
 unfold B7 M.bind Res.bnd
 cases T e with
 | no=>rfl
 | er x e1=>rfl
 | ok b e1=>cases b <;> rfl
theorem Afp:B9 A e = (A e).bnd fun r e1=>obn (Af r e1) fun d=>obn (B0 d) fun b=>.ok b e1:=by
 unfold B9 M.bind Res.bnd
 cases A e with
 | no=>rfl
 | er x e1=>rfl
 | ok r e1 =>
  simp only
  cases Af r e1 with
  | none=>rfl
  | some d =>
   show (match B0 d with | some b=>Res.ok b e1 | none=>.no) = obn (B0 d) _
   cases B0 d <;> rfl
def seqR (B:M Ctl):Ctl→Ve→Res Ctl
 | .nx,e=>B e
 | c,e=>.ok c e
theorem Afq {B:M Ctl}:seqR B .nx e = B e:=rfl
theorem Afr {B:M Ctl} {r:Rv}:seqR B (.rt r) e = .ok (.rt r) e:=rfl
theorem Afs {X Y:M Ctl}:A6 X Y e = (X e).bnd (seqR Y):=by
 unfold A6 M.bind Res.bnd
 cases X e with
 | no=>rfl
 | er x e1=>rfl
 | ok c e1=>cases c <;> rfl
theorem fNx_e:fNx e = .ok .nx e:=rfl
theorem Aft:K2 A e = (A e).bnd fun _ e1=>.ok .nx e1:=rfl
theorem Afu:Bn A e = (A e).bnd fun r e1=>.ok (.rt r) e1:=rfl
theorem Afv:fRetN e = .ok (.rt (.val .non)) e:=rfl
theorem Afw:Ck i A e = (A e).bnd fun r e1=>D5 i r e1:=rfl
theorem Afx:D5 i (.val d) e = ifb (A0 e i) (.ok .nx (e.set i (.sh d))) .no:=by
 show (if A0 e i = true then Res.ok Ctl.nx (e.set i (.sh d)) else .no) = _
 cases A0 e i <;> rfl
theorem Afy:D5 i (.fresh d) e = ifb (A0 e i) (.ok .nx (e.set i (.ow d))) .no:=by
 show (if A0 e i = true then Res.ok Ctl.nx (e.set i (.ow d)) else .no) = _
 cases A0 e i <;> rfl
theorem Afz {j:Nat}:D5 i (.slot j) e = (Bq (.slot j) e).bnd fun d e1=>ifb (A0 e1 i) (.ok .nx (e1.set i (.sh d))) .no:=by
 show M.bind (Bq (.slot j)) _ e = _
 unfold M.bind Res.bnd
 cases Bq (.slot j) e with
 | no=>rfl
 | er x e1=>rfl
 | ok d e1 =>
  show (if A0 e1 i = true then Res.ok Ctl.nx (e1.set i (.sh d)) else .no) = ifb (A0 e1 i) (Res.ok Ctl.nx (e1.set i (.sh d))) .no
  cases A0 e1 i <;> rfl
theorem Af0:Am i d e = ifb (A0 e i) (.ok () (e.set i (.sh d))) .no:=by
 show (if A0 e i = true then Res.ok () (e.set i (.sh d)) else .no) = _
 cases A0 e i <;> rfl
theorem Af1 {f:List Sl→Res Rv} {L:M (List Rv)}:Ay f L e = (L e).bnd fun rs e1=>A5 f rs e1:=rfl
theorem Af2 {f:List Sl→Res Rv} {rs:List Rv}:A5 f rs e = ifb (Bo rs) (obn (Ba rs e) fun as=>match f as with
 | .ok r as'=>.ok r (Bb rs as' e)
 | .er x as'=>.er x (Bb rs as' e)
 | .no=>.no) .no:=by
 unfold A5
 cases Bo rs with
 | false=>rfl
 | true =>
  rw [if_pos rfl]
  cases Ba rs e <;> rfl
def Xg:Rv→Ve→Res (Option Int)
 | .val (.int i),e=>.ok (some i) e
 | _,_=>.no
theorem Af3 {j:Int}:Xg (.val (.int j)) e = .ok (some j) e:=rfl
theorem Af4:My A e = (A e).bnd Xg:=by
 unfold My M.bind Res.bnd
 cases A e with
 | no=>rfl
 | er x e1=>rfl
 | ok a e1=>cases a with
  | val d=>cases d <;> rfl
  | _=>rfl
theorem fSl_e {L U:M (Option Int)}:fSl A L U e = (A e).bnd fun a e1=>(L e1).bnd fun lo e2=>(U e2).bnd fun hi e3=>obn (Af a e3) fun d=>obn (cutD d lo hi) fun r=>.ok r e3:=by
 unfold fSl M.bind Res.bnd
 cases A e with
 | no=>rfl
 | er x e1=>rfl
 | ok a e1 =>
  simp only
  cases L e1 with
  | no=>rfl
  | er x e1=>rfl
  | ok lo e2 =>
   simp only
   cases U e2 with
   | no=>rfl
   | er x e1=>rfl
   | ok hi e3 =>
    simp only
    cases Af a e3 with
    | none=>rfl
    | some d =>
     show (match cutD d lo hi with | some r=>Res.ok r e3 | none=>.no) = obn (cutD d lo hi) _
     cases cutD d lo hi <;> rfl
def Xh:Rv→Ve→Res (List D)
 | .val d,e=>obn (Fu d) fun ds=>.ok ds e
 | _,_=>.no
theorem Af5:Xh (.val d) e = obn (Fu d) fun ds=>.ok ds e:=rfl
theorem Af6:D6 A e = (Ad A e).bnd Xh:=by
 unfold D6 M.bind Res.bnd
 cases Ad A e with
 | no=>rfl
 | er x e1=>rfl
 | ok a e1=>cases a with
  | val d =>
   show (match Fu d with | some ds=>Res.ok ds e1 | none=>.no) = obn (Fu d) _
   cases Fu d <;> rfl
  | _=>rfl
def rngR:Rv→Ve→Res (List D)
 | .val (.int j),e=>ifb (decide (-(2 ^ 62)≤j∧j < 2 ^ 62)) (.ok (Bg 0 j.toNat) e) .no
 | _,_=>.no
theorem Xi {j:Int}:rngR (.val (.int j)) e = ifb (decide (-(2 ^ 62)≤j∧j < 2 ^ 62)) (.ok (Bg 0 j.toNat) e) .no:=rfl
theorem Xj:Ce A e = (A e).bnd rngR:=by
 unfold Ce M.bind Res.bnd
 cases A e with
 | no=>rfl
 | er x e1=>rfl
 | ok a e1=>cases a with
  | val d=>cases d <;> first | rfl | exact F7
  | _=>rfl
def R1:Rv→Ve→Res (List D)
 | .val (.lst ds),e=>.ok (B2 0 ds) e
 | .val (.str l),e=>.ok (B2 0 (l.map fun c=>.str [c])) e
 | _,_=>.no
theorem Af7:M5 A e = (Ad A e).bnd R1:=by
 unfold M5 M.bind Res.bnd
 cases Ad A e with
 | no=>rfl
 | er x e1=>rfl
 | ok a e1=>cases a with
  | val d=>cases d <;> rfl
  | _=>rfl
theorem Af8 {ds:List D}:R1 (.val (.lst ds)) e = .ok (B2 0 ds) e:=rfl
theorem Af9 {S:M (List D)} {F:D→M Unit} {X:M Ctl}:Ez S F X e = (S e).bnd fun ds e1=>Bh F X ds e1:=rfl
def forR (k:M Ctl):Ctl→Ve→Res Ctl
 | .nx,e=>k e
 | .ct,e=>k e
 | .bk,e=>.ok .nx e
 | .rt v,e=>.ok (.rt v) e
theorem R3 {F:D→M Unit} {X:M Ctl} {r:List D}:Bh F X (d :: r) e = (F d e).bnd fun _ e1=>(X e1).bnd (forR (Bh F X r)):=by
 show M.bind (F d) _ e = _
 unfold M.bind Res.bnd
 cases F d e with
 | no=>rfl
 | er x e1=>rfl
 | ok u e1 =>
  simp only
  cases X e1 with
  | no=>rfl
  | er x e2=>rfl
  | ok c e2=>cases c <;> rfl
theorem Aga {k:M Ctl}:forR k .nx e = k e:=rfl
theorem Agb {k:M Ctl} {v:Rv}:forR k (.rt v) e = .ok (.rt v) e:=rfl
theorem Agc {f:Str}:Bu f A e = (A e).bnd fun r e1=>obn (Af r e1) fun d=>obn (match d with | .ins _ fs=>fs.lookup f | _=>none) fun x=>.ok (.val x) e1:=by
 unfold Bu M.bind Res.bnd
 cases A e with
 | no=>rfl
 | er x e1=>rfl
 | ok r e1 =>
  simp only
  cases Af r e1 with
  | none=>rfl
  | some d =>
   cases d <;> try rfl
   rename_i c fs
   show (match fs.lookup f with | some d=>Res.ok (Rv.val d) e1 | none=>.no) = obn (fs.lookup f) _
   cases fs.lookup f <;> rfl
theorem Agd {T:String} {f:D→List D→Option Rv} {L:M (List Rv)}:Hi T f A L e = (A e).bnd fun o e0=>obn (Af o e0) fun d0=>ifb (tyD T d0) ((L e0).bnd fun rs e1=>obn (Af o e1) fun d=>obn (Bk rs e1) fun ds=>obn (f d ds) fun r=>.ok r e1) .no:=by
 unfold Hi M.bind Res.bnd
 cases A e with
 | no=>rfl
 | er x e1=>rfl
 | ok o e0 =>
  simp only
  cases Af o e0 with
  | none=>rfl
  | some d0 =>
   simp only
   show _ = ifb (tyD T d0) _ _
   cases tyD T d0 with
   | false=>rfl
   | true =>
    rw [if_pos rfl]
    show _ = Res.bnd (L e0) _
    cases L e0 with
    | no=>rfl
    | er x e1=>rfl
    | ok rs e1 =>
     simp only
     show _ = obn (Af o e1) fun d=>obn (Bk rs e1) fun ds=>obn (f d ds) fun r=>Res.ok r e1
     cases Af o e1 with
     | none=>rfl
     | some d =>
      cases Bk rs e1 with
      | none=>rfl
      | some ds =>
       show (match f d ds with | some r=>Res.ok r e1 | none=>.no) = obn (f d ds) _
       cases f d ds <;> rfl
def Dd (args:List Sl):Res Ctl→Res Rv
 | .ok .nx e'=>.ok (.val .non) (backV args e')
 | .ok (.rt r) e'=>(match Dt r e' with
  | .ok r' e2=>.ok r' (backV args e2)
  | _=>.no)
 | .er x e'=>.er x (backV args e')
 | _=>.no
theorem F8 {np n:Nat} {X:M Ctl} {as:List Sl} (h:as.length = np):fnF np n X as = Dd as (X (as ++ List.replicate (n - as.length) .un)):=by
 unfold fnF
 rw [if_pos h]
 generalize X _ = r
 cases r with
 | no=>rfl
 | er x e'=>rfl
 | ok c e'=>cases c <;> rfl
theorem Age {as:List Sl}:Dd as (.ok .nx e) = .ok (.val .non) (backV as e):=rfl
theorem Agf {as:List Sl}:Dd as (.ok (.rt (.val d)) e) = .ok (.val d) (backV as e):=rfl
theorem Agg {as:List Sl}:Dd as (.ok (.rt (.fresh d)) e) = .ok (.fresh d) (backV as e):=rfl
theorem Agh {c:Str} {f:List Sl→Res Rv} {L:M (List Rv)}:Pa c f L e = (L e).bnd fun rs e1=>E5 c f rs e1:=rfl
theorem Agi {f:D→D→D→Option D} {Ix V:M Rv}:Hj f i Ix V e = (Ad V e).bnd fun v e0=>obn ((e0[i]?).bind A3) fun _=>(Ad Ix e0).bnd fun ix e1=>match v,ix,e1[i]? with
  | .val v,.val ix,some s=>obn (A3 s) fun d=>obn (f d ix v) fun d'=>.ok .nx (e1.set i (Bt s d'))
  | _,_,_=>.no:=by
 unfold Hj M.bind Res.bnd
 cases Ad V e with
 | no=>rfl
 | er x e1=>rfl
 | ok v e0 =>
  simp only
  cases (e0[i]?).bind A3 with
  | none=>rfl
  | some z =>
   show _ = (Ad Ix e0).bnd _
   simp only
   cases Ad Ix e0 with
   | no=>rfl
   | er x e1=>rfl
   | ok ix e1 =>
    show _ = (match v,ix,e1[i]? with
     | .val v,.val ix,some s=>obn (A3 s) fun d=>obn (f d ix v) fun d'=>Res.ok Ctl.nx (e1.set i (Bt s d'))
     | _,_,_=>.no)
    simp only
    cases v <;> cases ix <;> cases e1[i]? <;> try rfl
    rename_i dv dx s
    show (match A3 s with | some d=>(match f d dx dv with | some d'=>Res.ok Ctl.nx (e1.set i (Bt s d')) | none=>.no) | none=>.no) = obn (A3 s) _
    cases A3 s with
    | none=>rfl
    | some d =>
     show (match f d dx dv with | some d'=>Res.ok Ctl.nx (e1.set i (Bt s d')) | none=>.no) = obn (f d dx dv) _
     cases f d dx dv <;> rfl
def Xk (k:M (List D)) (vs:List Nat):Rv→Ve→Res (List D)
 | .val y,e=>(k (An e vs)).bnd fun ys e1=>.ok (y :: ys) e1
 | _,_=>.no
theorem Agj {k:M (List D)} {vs:List Nat}:Xk k vs (.val d) e = (k (An e vs)).bnd fun ys e1=>.ok (d :: ys) e1:=rfl
theorem Agk {F:D→M Unit} {T:M Bool} {vs:List Nat}:lcL F T A vs [] e = .ok [] e:=rfl
theorem Ni {F:D→M Unit} {T:M Bool} {vs:List Nat} {r:List D}:lcL F T A vs (d :: r) e = (F d e).bnd fun _ e1=>(T e1).bnd fun b e2=>ifb b ((Ad A e2).bnd (Xk (lcL F T A vs r) vs)) (lcL F T A vs r (An e2 vs)):=by
 show M.bind (F d) _ e = _
 unfold M.bind Res.bnd
 cases F d e with
 | no=>rfl
 | er x e1=>rfl
 | ok u e1 =>
  simp only
  cases T e1 with
  | no=>rfl
  | er x e2=>rfl
  | ok b e2 =>
   cases b with
   | false=>rfl
   | true =>
    simp only [if_true]
    show _ = (Ad A e2).bnd _
    cases Ad A e2 with
    | no=>rfl
    | er x e3=>rfl
    | ok y e3=>cases y <;> rfl
def R4 (e:Ve) (vs:List Nat):Res (List D)→Res Rv
 | .ok ys e'=>ifb (decide (ys.length≤sizeLine)) (.ok (.fresh (.lst ys)) (Cm e e' vs)) .no
 | _=>.no
theorem Agl {ys:List D} {e':Ve} {vs:List Nat}:R4 e vs (.ok ys e') = ifb (decide (ys.length≤sizeLine)) (.ok (.fresh (.lst ys)) (Cm e e' vs)) .no:=rfl
theorem fLc_e {S:M (List D)} {F:D→M Unit} {T:M Bool} {vs:List Nat}:fLc S F T A vs e = (S e).bnd fun ds e1=>ifb (Fv e1 vs) (R4 e1 vs (lcL F T A vs ds (An e1 vs))) .no:=by
 unfold fLc M.bind Res.bnd
 cases S e with
 | no=>rfl
 | er x e1=>rfl
 | ok ds e1 =>
  simp only
  cases Fv e1 vs with
  | false=>rfl
  | true =>
   simp only [if_true]
   show _ = R4 e1 vs (lcL F T A vs ds (An e1 vs))
   cases lcL F T A vs ds (An e1 vs) with
   | no=>rfl
   | er x e2=>rfl
   | ok ys e2=>exact F7
end
end Vs
namespace Vs
open PySem PySem.Spec PyProof.Rows L2 Fw SX
section
variable {A B C:M Rv} {e:Ve} {d:D} {i:Nat}
theorem Agm:Ey A B e = (A e).bnd fun r e1=>obn (Af r e1) fun d=>obn (B0 d) fun b=>ifb b (B e1) (.ok r e1):=by
 unfold Ey M.bind Res.bnd
 cases A e with
 | no=>rfl
 | er x e1=>rfl
 | ok r e1 =>
  simp only
  cases Af r e1 with
  | none=>rfl
  | some d =>
   show (match B0 d with | some true=>B e1 | some false=>.ok r e1 | none=>.no) = obn (B0 d) _
   cases B0 d with
   | none=>rfl
   | some b=>cases b <;> rfl
theorem Agn:Oj A B e = (A e).bnd fun r e1=>obn (Af r e1) fun d=>obn (B0 d) fun b=>ifb b (.ok r e1) (B e1):=by
 unfold Oj M.bind Res.bnd
 cases A e with
 | no=>rfl
 | er x e1=>rfl
 | ok r e1 =>
  simp only
  cases Af r e1 with
  | none=>rfl
  | some d =>
   show (match B0 d with | some false=>B e1 | some true=>.ok r e1 | none=>.no) = obn (B0 d) _
   cases B0 d with
   | none=>rfl
   | some b=>cases b <;> rfl
theorem Ago:fNotV A e = (B9 A e).bnd fun b e1=>.ok (.val (.bl (!b))) e1:=rfl
def Xl (cs:List Str) (f:Str) (i:Nat):Rv→Ve→Res Ctl
 | .val v,e=>obn e[i]? fun s=>match A3 s with
  | some (.ins c fs)=>ifb (cs.contains c && decide (fs.length < 1000)) (.ok .nx (e.set i (Bt s (.ins c (Bp f v fs))))) .no
  | _=>.no
 | _,_=>.no
theorem Agp {cs:List Str} {f:Str} {V:M Rv}:Dj cs f i V e = (Ad V e).bnd (Xl cs f i):=by
 unfold Dj M.bind Res.bnd
 cases Ad V e with
 | no=>rfl
 | er x e1=>rfl
 | ok v e1 =>
  cases v with
  | val v =>
   show (match Rv.val v,e1[i]? with
    | .val v,some s=>(match A3 s with
     | some (.ins c fs)=>if cs.contains c = true∧fs.length < 1000 then Res.ok Ctl.nx (e1.set i (Bt s (.ins c (Bp f v fs)))) else .no
     | _=>.no)
    | _,_=>.no) = obn e1[i]? _
   cases e1[i]? with
   | none=>rfl
   | some s =>
    show (match A3 s with
     | some (.ins c fs)=>if cs.contains c = true∧fs.length < 1000 then Res.ok Ctl.nx (e1.set i (Bt s (.ins c (Bp f v fs)))) else .no
     | _=>.no) = (match A3 s with
     | some (.ins c fs)=>ifb (cs.contains c && decide (fs.length < 1000)) (Res.ok Ctl.nx (e1.set i (Bt s (.ins c (Bp f v fs))))) .no
     | _=>.no)
    cases A3 s with
    | none=>rfl
    | some d =>
     cases d <;> try rfl
     rename_i c fs
     show (if cs.contains c = true∧fs.length < 1000 then Res.ok Ctl.nx (e1.set i (Bt s (.ins c (Bp f v fs)))) else .no) = ifb (cs.contains c && decide (fs.length < 1000)) _ _
     cases h1:cs.contains c <;> cases h2:decide (fs.length < 1000)
     ·rw [if_neg (fun z=>by simp at z)]; rfl
     ·rw [if_neg (fun z=>by simp at z)]; rfl
     ·rw [if_neg (fun z=>by simp at h2; omega)]; rfl
     ·rw [if_pos ⟨rfl,of_decide_eq_true h2⟩]; rfl
  | _=>rfl
end
end Vs
namespace Vs
open PySem PySem.Spec PyProof.Rows L2 Fw SX
section
variable {A B C:M Rv} {e:Ve} {d:D} {i:Nat}
def chnR (f':D→D→Option Rv) (C:M Rv) (b:Rv) (e:Ve):Rv→Res Rv
 | .val (.bl true)=>(C e).bnd fun c e2=>obn (Af b e2) fun y=>obn (Af c e2) fun z=>obn (f' y z) fun r=>.ok r e2
 | .val (.bl false)=>.ok (.val (.bl false)) e
 | _=>.no
theorem chn_t {f':D→D→Option Rv} {b:Rv}:chnR f' C b e (.val (.bl true)) = (C e).bnd fun c e2=>obn (Af b e2) fun y=>obn (Af c e2) fun z=>obn (f' y z) fun r=>.ok r e2:=rfl
theorem chn_f {f':D→D→Option Rv} {b:Rv}:chnR f' C b e (.val (.bl false)) = .ok (.val (.bl false)) e:=rfl
theorem Agq {f f':D→D→Option Rv}:K1 f f' A B C e = (A e).bnd fun a e1=>(B e1).bnd fun b e2=>obn (Af a e2) fun x=>obn (Af b e2) fun y=>obn (f x y) fun r=>chnR f' C b e2 r:=by
 unfold K1 M.bind Res.bnd
 cases A e with
 | no=>rfl
 | er x e1=>rfl
 | ok a e1 =>
  simp only
  cases B e1 with
  | no=>rfl
  | er x e2=>rfl
  | ok b e2 =>
   simp only
   cases Af a e2 with
   | none=>rfl
   | some x =>
    cases Af b e2 with
    | none=>rfl
    | some y =>
     show _ = obn (f x y) _
     simp only
     cases f x y with
     | none=>rfl
     | some r =>
      cases r with
      | val d =>
       cases d with
       | bl q =>
        cases q with
        | false=>rfl
        | true =>
         show _ = (C e2).bnd fun c e2=>obn (Af b e2) fun y=>obn (Af c e2) fun z=>obn (f' y z) fun r=>Res.ok r e2
         simp only
         cases C e2 with
         | no=>rfl
         | er x e3=>rfl
         | ok c e3 =>
          show _ = obn (Af b e3) fun y=>obn (Af c e3) fun z=>obn (f' y z) fun r=>Res.ok r e3
          simp only
          cases Af b e3 with
          | none=>rfl
          | some y2 =>
           cases Af c e3 with
           | none=>rfl
           | some z =>
            show (match f' y2 z with | some r=>Res.ok r e3 | none=>.no) = obn (f' y2 z) _
            cases f' y2 z <;> rfl
       | _=>rfl
      | _=>rfl
def Xm (T:Str→Option (List Sl→Res Rv)) (L:M (List Rv)):Rv→Ve→Res Rv
 | .val (.ins c fs),e=>obn (T c) fun F=>(L e).bnd fun rs e1=>A5 F (.val (.ins c fs) :: rs) e1
 | _,_=>.no
theorem Agr {T:Str→Option (List Sl→Res Rv)} {L:M (List Rv)} {c:Str} {fs:List (Str × D)}:Xm T L (.val (.ins c fs)) e = obn (T c) fun F=>(L e).bnd fun rs e1=>A5 F (.val (.ins c fs) :: rs) e1:=rfl
theorem Ags {T:Str→Option (List Sl→Res Rv)} {L:M (List Rv)}:Wb T A L e = (Ad A e).bnd (Xm T L):=by
 unfold Wb M.bind Res.bnd
 cases Ad A e with
 | no=>rfl
 | er x e1=>rfl
 | ok o e1 =>
  cases o with
  | val d =>
   cases d <;> try rfl
   rename_i c fs
   show _ = obn (T c) _
   simp only
   cases T c with
   | none=>rfl
   | some F=>rfl
  | _=>rfl
theorem Agt {c:Str} {f:List Sl→Res Rv} {rs:List Rv}:E5 c f rs e = ifb (Bo rs) (obn (Ba rs e) fun as=>O9 rs e (f (.bo (.ins c []) :: as))) .no:=by
 unfold E5
 cases Bo rs with
 | false=>rfl
 | true =>
  rw [if_pos rfl]
  cases Ba rs e <;> rfl
theorem Agu {c:Str} {f:List Sl→Res Rv} {L L2:M (List Rv)}:Ac6 c f L L2 e = (L e).bnd fun rs e1=>(L2 e1).bnd fun zs e2=>E5 c f (rs ++ zs) e2:=rfl
theorem Agv {c:Str} {f:List Sl→Res Rv} {L:M (List Rv)}:Adn c f L e = (L e).bnd fun rs e1=>E5 c f rs e1:=rfl
theorem mk_bo {rs:List Rv} {as:List Sl}:O9 rs e (.ok (.val .non) (.bo d :: as)) = .ok (.fresh d) (Bb rs as e):=rfl
theorem mk_bf {rs:List Rv} {as:List Sl}:O9 rs e (.ok (.val .non) (.bf d :: as)) = .ok (.val d) (Bb rs as e):=rfl
end
end Vs
namespace Vs
open PySem PySem.Spec PyProof.Rows L2 Fw SX
section
variable {A B C:M Rv} {e:Ve} {d:D} {i:Nat}
def fmtR:Rv→Ve→Res Rv
 | .val (.str l),e=>ifb (decide (l.length≤sizeLine)) (.ok (.val (.str l)) e) .no
 | .val (.int i),e=>ifb (decide (i.natAbs.log2 < 1920) && (Ej i).all (·< 1114112)) (.ok (.val (.str (Ej i))) e) .no
 | _,_=>.no
theorem Agw {l:List Nat}:fmtR (.val (.str l)) e = ifb (decide (l.length≤sizeLine)) (.ok (.val (.str l)) e) .no:=rfl
theorem Agx {j:Int}:fmtR (.val (.int j)) e = ifb (decide (j.natAbs.log2 < 1920) && (Ej j).all (·< 1114112)) (.ok (.val (.str (Ej j))) e) .no:=rfl
theorem Agy:fFmt A e = (A e).bnd fmtR:=by
 unfold fFmt M.bind Res.bnd
 cases A e with
 | no=>rfl
 | er x e1=>rfl
 | ok r e1 =>
  cases r with
  | val d =>
   cases d <;> try rfl
   ·rename_i j
    show (if j.natAbs.log2 < 1920∧(Ej j).all (·< 1114112) = true then Res.ok (Rv.val (D.str (Ej j))) e1 else .no) = ifb (decide (j.natAbs.log2 < 1920) && (Ej j).all (·< 1114112)) _ _
    by_cases h:j.natAbs.log2 < 1920∧(Ej j).all (·< 1114112) = true
    ·rw [if_pos h,decide_eq_true h.1,h.2]; rfl
    ·rw [if_neg h]
     by_cases h1:j.natAbs.log2 < 1920
     ·rw [decide_eq_true h1]
      cases q:(Ej j).all (·< 1114112)
      ·rfl
      ·exact absurd ⟨h1,q⟩ h
     ·rw [decide_eq_false h1]; rfl
   ·exact F7
  | _=>rfl
def jsR (As:List (M Rv)) (acc:List Nat):Rv→Ve→Res (List Nat)
 | .val (.str l),e=>ifb (decide (acc.length + l.length≤sizeLine)) (fJs As (acc ++ l) e) .no
 | _,_=>.no
theorem Agz {As:List (M Rv)} {acc l:List Nat}:jsR As acc (.val (.str l)) e = ifb (decide (acc.length + l.length≤sizeLine)) (fJs As (acc ++ l) e) .no:=rfl
theorem Ag0 {acc:List Nat}:fJs [] acc e = .ok acc e:=rfl
theorem Ag1 {As:List (M Rv)} {acc:List Nat}:fJs (A :: As) acc e = (A e).bnd (jsR As acc):=by
 show M.bind A _ e = _
 unfold M.bind Res.bnd
 cases A e with
 | no=>rfl
 | er x e1=>rfl
 | ok r e1 =>
  cases r with
  | val d =>
   cases d <;> try rfl
   rename_i l
   show (if acc.length + l.length≤sizeLine then fJs As (acc ++ l) else fNo) e1 = ifb (decide (acc.length + l.length≤sizeLine)) _ _
   by_cases h:acc.length + l.length≤sizeLine
   ·rw [if_pos h,decide_eq_true h]; rfl
   ·rw [if_neg h,decide_eq_false h]; rfl
  | _=>rfl
theorem Ag2 {As:List (M Rv)}:Ada As e = (fJs As [] e).bnd fun l e1=>.ok (.val (.str l)) e1:=rfl
theorem Ag3 {T:String} {f:D→List D→Option (D × D)} {L:M (List Rv)}:fMut T f i L e = obn ((e[i]?).bind A3) fun d0=>ifb (tyM T d0) ((L e).bnd fun rs e1=>obn (B6 rs) fun ds=>obn e1[i]? fun s=>obn (A3 s) fun d=>obn (f d ds) fun p=>.ok (.val p.2) (e1.set i (Bt s p.1))) .no:=by
 unfold fMut
 cases (e[i]?).bind A3 with
 | none=>rfl
 | some d0 =>
  show (if tyM T d0 = true then _ else Res.no) = ifb (tyM T d0) _ _
  cases tyM T d0 with
  | false=>rfl
  | true =>
   rw [if_pos rfl]
   show M.bind L _ e = (L e).bnd _
   unfold M.bind Res.bnd
   cases L e with
   | no=>rfl
   | er x e1=>rfl
   | ok rs e1 =>
    simp only
    cases B6 rs with
    | none=>rfl
    | some ds =>
     cases e1[i]? with
     | none=>rfl
     | some s =>
      show (match A3 s with | some d=>(match f d ds with | some (d',dr)=>Res.ok (Rv.val dr) (e1.set i (Bt s d')) | none=>.no) | none=>.no) = obn (A3 s) _
      cases A3 s with
      | none=>rfl
      | some d =>
       show (match f d ds with | some (d',dr)=>Res.ok (Rv.val dr) (e1.set i (Bt s d')) | none=>.no) = obn (f d ds) _
       cases f d ds <;> rfl
end
end Vs
set_option maxRecDepth 100000
set_option maxHeartbeats 2000000
namespace Vs
open PySem PySem.Spec PyProof.Rows L2 Fw SX
section
variable {A B C:M Rv} {e:Ve} {d:D} {i:Nat}
theorem Ag4 {k:List (List Nat × D)→M (List (List Nat × D))} {vs:List Nat} {acc:List (List Nat × D)} {s:List Nat}:Wh k vs acc (.val (.str s)) (.val d) e = ifb (decide (acc.length < sizeLine)) (k (Ca acc s d) (An e vs)) .no:=F7
def R5 (e:Ve) (vs:List Nat):Res (List (List Nat × D))→Res Rv
 | .ok ys e'=>.ok (.fresh (.dct ys)) (Cm e e' vs)
 | _=>.no
theorem Ag5 {ys:List (List Nat × D)} {e':Ve} {vs:List Nat}:R5 e vs (.ok ys e') = .ok (.fresh (.dct ys)) (Cm e e' vs):=rfl
theorem fDc_e {S:M (List D)} {F:D→M Unit} {T:M Bool} {vs:List Nat}:fDc S F T A B vs e = (S e).bnd fun ds e1=>ifb (Fv e1 vs) (R5 e1 vs (dcL F T A B vs ds [] (An e1 vs))) .no:=by
 unfold fDc M.bind Res.bnd
 cases S e with
 | no=>rfl
 | er x e1=>rfl
 | ok ds e1 =>
  simp only
  cases Fv e1 vs with
  | false=>rfl
  | true =>
   simp only [if_true]
   show _ = R5 e1 vs (dcL F T A B vs ds [] (An e1 vs))
   cases dcL F T A B vs ds [] (An e1 vs) <;> rfl
def Xn (i j:Nat):List Rv→Ve→Res Ctl
 | [a,b],e=>(stoN i a e).bnd fun _ e1=>(stoN j b e1).bnd fun _ e2=>.ok .nx e2
 | _,_=>.no
def Xo (i j l:Nat):List Rv→Ve→Res Ctl
 | [a,b,c],e=>(stoN i a e).bnd fun _ e1=>(stoN j b e1).bnd fun _ e2=>(stoN l c e2).bnd fun _ e3=>.ok .nx e3
 | _,_=>.no
theorem Ag6 {j:Nat} {a b:Rv}:Xn i j [a,b] e = (stoN i a e).bnd fun _ e1=>(stoN j b e1).bnd fun _ e2=>.ok .nx e2:=rfl
theorem Ag7 {j l:Nat} {a b c:Rv}:Xo i j l [a,b,c] e = (stoN i a e).bnd fun _ e1=>(stoN j b e1).bnd fun _ e2=>(stoN l c e2).bnd fun _ e3=>.ok .nx e3:=rfl
theorem Ag8 {j:Nat} {L:M (List Rv)}:Lb i j L e = (L e).bnd (Xn i j):=by
 unfold Lb M.bind Res.bnd
 cases L e with
 | no=>rfl
 | er x e1=>rfl
 | ok rs e1 =>
  match rs with
  | []=>rfl
  | [a]=>rfl
  | [a,b]=>rfl
  | a :: b :: c :: r=>rfl
theorem Ag9 {j l:Nat} {L:M (List Rv)}:Jg i j l L e = (L e).bnd (Xo i j l):=by
 unfold Jg M.bind Res.bnd
 cases L e with
 | no=>rfl
 | er x e1=>rfl
 | ok rs e1 =>
  match rs with
  | []=>rfl
  | [a]=>rfl
  | [a,b]=>rfl
  | [a,b,c]=>rfl
  | a :: b :: c :: d :: r=>rfl
theorem Aha:stoN i (.val d) e = ifb (A0 e i) (.ok () (e.set i (.sh d))) .no:=by
 show (if A0 e i = true then Res.ok () (e.set i (.sh d)) else .no) = _
 cases A0 e i <;> rfl
theorem Ahb:stoN i (.fresh d) e = ifb (A0 e i) (.ok () (e.set i (.ow d))) .no:=by
 show (if A0 e i = true then Res.ok () (e.set i (.ow d)) else .no) = _
 cases A0 e i <;> rfl
def revR:D→Ve→Res Rv
 | .lst ds,e=>.ok (.fresh (.lst ds.reverse)) e
 | .str l,e=>ifb (decide (l.length≤sizeLine)) (.ok (.val (.str l.reverse)) e) .no
 | _,_=>.no
theorem Ahc {ds:List D}:revR (.lst ds) e = .ok (.fresh (.lst ds.reverse)) e:=rfl
theorem Ahd:fRev A e = (A e).bnd fun r e1=>obn (Af r e1) fun d=>revR d e1:=by
 unfold fRev M.bind Res.bnd
 cases A e with
 | no=>rfl
 | er x e1=>rfl
 | ok r e1 =>
  simp only
  cases Af r e1 with
  | none=>rfl
  | some d =>
   cases d <;> first | rfl | exact F7
theorem Ahe:Hc [] e = .ok () e:=rfl
theorem Ahf {F:D→M Unit} {Fs:List D→M Unit} {r:List D}:Cs F Fs (d :: r) e = (F d e).bnd fun _ e1=>Fs r e1:=rfl
theorem gTup2 {Fs:List D→M Unit} {a b:D}:Di 2 Fs (.tup [a,b]) e = Fs [a,b] e:=rfl
theorem gTup3 {Fs:List D→M Unit} {a b c:D}:Di 3 Fs (.tup [a,b,c]) e = Fs [a,b,c] e:=rfl
end
section
variable {A B C:M Rv} {e:Ve} {d:D} {i:Nat}
def Xp (a:Rv) (B C:M Rv):D→Ve→Res Rv
 | .dct _,e0=>(B e0).bnd fun y e1=>(Ad C e1).bnd fun z e=>match Af a e,Af y e,z with
  | some (.dct kvs),some (.str k),.val d=>.ok (.val ((A4 kvs k).getD d)) e
  | _,_,_=>.no
 | _,_=>.no
theorem Ahg {a:Rv} {kvs:List (List Nat × D)}:Xp a B C (.dct kvs) e = (B e).bnd fun y e1=>(Ad C e1).bnd fun z e=>match Af a e,Af y e,z with
  | some (.dct kvs),some (.str k),.val d=>.ok (.val ((A4 kvs k).getD d)) e
  | _,_,_=>.no:=rfl
theorem Ahh:Wq A B C e = (A e).bnd fun a e0=>obn (Af a e0) fun d=>Xp a B C d e0:=by
 unfold Wq M.bind Res.bnd
 cases A e with
 | no=>rfl
 | er x e1=>rfl
 | ok a e0 =>
  simp only
  cases Af a e0 with
  | none=>rfl
  | some d=>cases d <;> rfl
def negR:Rv→Ve→Res Rv
 | .val (.int i),e=>.ok (.val (.int (-i))) e
 | _,_=>.no
theorem Ahi {j:Int}:negR (.val (.int j)) e = .ok (.val (.int (-j))) e:=rfl
theorem Ahj:fNeg A e = (A e).bnd negR:=by
 unfold fNeg M.bind Res.bnd
 cases A e with
 | no=>rfl
 | er x e1=>rfl
 | ok a e1=>cases a with
  | val d=>cases d <;> rfl
  | _=>rfl
def Xq (T:UInt64→Option (List Sl→Res Rv)) (L:M (List Rv)):Option Sl→Ve→Res Rv
 | some (.sh (.con (.flt j))),e=>obn (T j) fun F=>Ay F L e
 | _,_=>.no
theorem Ahk {T:UInt64→Option (List Sl→Res Rv)} {L:M (List Rv)} {j:UInt64}:Xq T L (some (.sh (.con (.flt j)))) e = obn (T j) fun F=>Ay F L e:=rfl
theorem Ahl {T:UInt64→Option (List Sl→Res Rv)} {L:M (List Rv)}:Wj T i L e = Xq T L e[i]? e:=by
 unfold Wj
 generalize e[i]? = o
 cases o with
 | none=>rfl
 | some s =>
  cases s with
  | sh d =>
   cases d with
   | con u =>
    cases u with
    | flt j =>
     show (match T j with | some F=>Ay F L e | none=>.no) = obn (T j) _
     cases T j <;> rfl
    | _=>rfl
   | _=>rfl
  | _=>rfl
end
section
variable {e:Ve} {i:Nat} {F:D→M Unit} {X:M Ctl}
def Nj (i:Nat) (F:D→M Unit) (X:M Ctl):Option Sl→Ve→Res Ctl
 | some (.ow (.lst ds)),e=>okR (fun e'=>e'.set i (.ow (.lst ds))) (Bh F X ds (e.set i (.lo (.lst ds))))
 | some (.bo (.lst ds)),e=>okR (fun e'=>e'.set i (.bo (.lst ds))) (Bh F X ds (e.set i (.lo (.lst ds))))
 | some (.lo (.lst ds)),e=>Bh F X ds e
 | _,e=>Ez (D6 (Aa i)) F X e
theorem Ahm {ds:List D}:Nj i F X (some (.ow (.lst ds))) e = okR (fun e'=>e'.set i (.ow (.lst ds))) (Bh F X ds (e.set i (.lo (.lst ds)))):=rfl
theorem Ahn {ds:List D}:Nj i F X (some (.bo (.lst ds))) e = okR (fun e'=>e'.set i (.bo (.lst ds))) (Bh F X ds (e.set i (.lo (.lst ds)))):=rfl
theorem Aho {d:D}:Nj i F X (some (.sh d)) e = Ez (D6 (Aa i)) F X e:=rfl
theorem Ahp {d:D}:Nj i F X (some (.bf d)) e = Ez (D6 (Aa i)) F X e:=rfl
theorem Ahq:Wr i F X e = Nj i F X e[i]? e:=by
 unfold Wr
 generalize e[i]? = o
 cases o with
 | none=>rfl
 | some s=>cases s <;> first | rfl | (rename_i d; cases d <;> rfl)
end
section
variable {A B C:M Rv} {e:Ve} {d:D} {i:Nat}
def Xr (T:Str→Option (List Sl→Res Rv)) (m:Str) (L:M (List Rv)) (o:Rv):D→Ve→Res Rv
 | .ins c fs,e=>ifb (fs.lookup m).isNone (obn (T c) fun F=>(L e).bnd fun rs e1=>A5 F (o :: rs) e1) .no
 | _,_=>.no
theorem Ahr {T:Str→Option (List Sl→Res Rv)} {m:Str} {L:M (List Rv)} {o:Rv} {c:Str} {fs:List (Str × D)}:Xr T m L o (.ins c fs) e = ifb (fs.lookup m).isNone (obn (T c) fun F=>(L e).bnd fun rs e1=>A5 F (o :: rs) e1) .no:=rfl
theorem Ahs {T:Str→Option (List Sl→Res Rv)} {m:Str} {L:M (List Rv)}:Je T m A L e = (A e).bnd fun o e0=>obn (Af o e0) fun d=>Xr T m L o d e0:=by
 unfold Je M.bind Res.bnd
 cases A e with
 | no=>rfl
 | er x e1=>rfl
 | ok o e0 =>
  simp only
  cases Af o e0 with
  | none=>rfl
  | some d =>
   cases d <;> try rfl
   rename_i c fs
   show (if (fs.lookup m).isNone = true then _ else Res.no) = ifb (fs.lookup m).isNone _ _
   cases (fs.lookup m).isNone with
   | false=>rfl
   | true =>
    rw [if_pos rfl]
    show (match T c with | some F=>_ | none=>Res.no) = obn (T c) _
    cases T c <;> rfl
def whR (k:M Ctl):Ctl→Ve→Res Ctl
 | .nx,e=>k e
 | .ct,e=>k e
 | .bk,e=>.ok .nx e
 | .rt v,e=>.ok (.rt v) e
theorem wh_nx {k:M Ctl}:whR k .nx e = k e:=rfl
theorem wh_rt {k:M Ctl} {v:Rv}:whR k (.rt v) e = .ok (.rt v) e:=rfl
def augR (i:Nat) (A:M Rv):Option Sl→Ve→Res Ctl
 | some (.sh d0),e=>(A e).bnd fun r e1=>obn (Af r e1) fun d=>obn (Lc d0 d) fun out=>D5 i (.val out) e1
 | some (.ow (.lst _)),e=>(A e).bnd fun r e1=>match e1[i]?,Af r e1 with
  | some (.ow (.lst xs)),some (.lst ys)=>ifb (decide (xs.length + ys.length≤sizeLine)) (.ok .nx (e1.set i (.ow (.lst (xs ++ ys))))) .no
  | _,_=>.no
 | _,_=>.no
theorem Aht {d0:D}:augR i A (some (.sh d0)) e = (A e).bnd fun r e1=>obn (Af r e1) fun d=>obn (Lc d0 d) fun out=>D5 i (.val out) e1:=rfl
theorem Ahu {l:List D}:augR i A (some (.ow (.lst l))) e = (A e).bnd fun r e1=>match e1[i]?,Af r e1 with
  | some (.ow (.lst xs)),some (.lst ys)=>ifb (decide (xs.length + ys.length≤sizeLine)) (.ok .nx (e1.set i (.ow (.lst (xs ++ ys))))) .no
  | _,_=>.no:=rfl
theorem Ahv:fAug i A e = augR i A e[i]? e:=by
 unfold fAug
 generalize e[i]? = o
 cases o with
 | none=>rfl
 | some s =>
  cases s with
  | sh d0 =>
   show (A.bind _) e = (A e).bnd _
   unfold M.bind Res.bnd
   cases A e with
   | no=>rfl
   | er x e1=>rfl
   | ok r e1 =>
    simp only
    cases Af r e1 with
    | none=>rfl
    | some d =>
     show (match Lc d0 d with | some out=>_ | none=>Res.no) = obn (Lc d0 d) _
     cases Lc d0 d <;> rfl
  | ow d =>
   cases d <;> try rfl
   show (A.bind _) e = (A e).bnd _
   unfold M.bind Res.bnd
   cases A e with
   | no=>rfl
   | er x e1=>rfl
   | ok r e1 =>
    simp only
    generalize e1[i]? = o1
    generalize Af r e1 = o2
    cases o1 <;> try rfl
    rename_i s1
    cases s1 <;> try rfl
    rename_i d1
    cases d1 <;> try rfl
    cases o2 <;> try rfl
    rename_i d2
    cases d2 <;> first | rfl | exact F7
  | _=>rfl
end
theorem Ahw (a b:List (List Nat)):E3 (a.map D.str) (b.map D.str) = decide (a = b):=by
 induction a generalizing b with
 | nil=>cases b <;> rfl
 | cons x r ih =>
  cases b with
  | nil=>rfl
  | cons y t =>
   show (decide (x = y) && E3 (r.map D.str) (t.map D.str)) = _
   rw [ih]
   by_cases h:x = y <;> by_cases k:r = t <;> simp [h,k]
theorem Xs (n:Nat) (a:List (List Nat)):(a.map D.str).all (shp n) = true:=by
 rw [List.all_eq_true]
 intro x hx
 obtain ⟨y,_,rfl⟩:=List.mem_map.mp hx
 cases n <;> rfl
theorem Ahx (a b:List (List Nat)):neG (.lst (a.map D.str)) (.lst (b.map D.str)) = some (.val (.bl (!decide (a = b)))):=by
 have h:(shp 64 (.lst (a.map D.str)) && shp 64 (.lst (b.map D.str))) = true:=by
  show ((a.map D.str).all (shp 63) && (b.map D.str).all (shp 63)) = true
  rw [Xs,Xs]; rfl
 unfold neG
 rw [if_pos h]
 show some (Rv.val (.bl (!E3 (a.map D.str) (b.map D.str)))) = _
 rw [Ahw]
end Vs
set_option maxRecDepth 100000
set_option maxHeartbeats 2000000
namespace Vs
open PySem PySem.Spec PyProof.Rows L2 Fw SX
theorem Ahy {α:Type} (a:α) (r:List α):atI (a :: r) 0 = some a:=by
 unfold atI
 simp [ixN]
theorem Ahz {α:Type} (a b:α) (r:List α):atI (a :: b :: r) 1 = some b:=by
 have h:(1:Int) < (r.length:Int) + 1 + 1:=by omega
 unfold atI
 simp [ixN,h]
theorem Ah0 {α:Type} (a b c:α) (r:List α):atI (a :: b :: c :: r) 2 = some c:=by
 have h:(2:Int) < (r.length:Int) + 1 + 1 + 1:=by omega
 unfold atI
 simp [ixN,h]
theorem Ah1 (n:Nat):ixN (n + 1) 0 = some 0:=by simp [ixN]
theorem Ah2 (n:Nat):ixN (n + 2) 1 = some 1:=by
 have h:(1:Int) < (n:Int) + 2:=by omega
 simp [ixN,h]
theorem Ah3 (n:Nat):ixN (n + 3) 2 = some 2:=by
 have h:(2:Int) < (n:Int) + 3:=by omega
 simp [ixN,h]
theorem ix3 {α:Type} (a b c:α):ixN [a,b,c].length 0 = some 0∧ixN [a,b,c].length 1 = some 1∧ixN [a,b,c].length 2 = some 2:=⟨rfl,rfl,rfl⟩
theorem Ah4 (i j:Int):eqG (.int i) (.int j) = some (.val (.bl (i == j))):=rfl
theorem Ah5 (a b:List Nat):eqG (.str a) (.str b) = some (.val (.bl (decide (a = b)))):=rfl
theorem Xt (a b:List Nat):neG (.str a) (.str b) = some (.val (.bl (!decide (a = b)))):=rfl
theorem Ah6 (i j:Bool):eqG (.bl i) (.bl j) = some (.val (.bl (i == j))):=rfl
theorem sz3 (a b c:D):decide ([a,b,c].length≤sizeLine) = true:=by rw [sizeLine_eq]; rfl
theorem sz2 (a b:D):decide ([a,b].length≤sizeLine) = true:=by rw [sizeLine_eq]; rfl
theorem sz1 (a:D):decide ([a].length≤sizeLine) = true:=by rw [sizeLine_eq]; rfl
section
variable {n:Nat} {X:M Ctl}
theorem fnF_0:fnF 0 n X [] = Dd [] (X ([] ++ List.replicate (n - 0) .un)):=F8 rfl
theorem fnF_1 {a0:Sl}:fnF 1 n X [a0] = Dd [a0] (X ([a0] ++ List.replicate (n - 1) .un)):=F8 rfl
theorem fnF_2 {a0 a1:Sl}:fnF 2 n X [a0,a1] = Dd [a0,a1] (X ([a0,a1] ++ List.replicate (n - 2) .un)):=F8 rfl
theorem fnF_3 {a0 a1 a2:Sl}:fnF 3 n X [a0,a1,a2] = Dd [a0,a1,a2] (X ([a0,a1,a2] ++ List.replicate (n - 3) .un)):=F8 rfl
theorem fnF_4 {a0 a1 a2 a3:Sl}:fnF 4 n X [a0,a1,a2,a3] = Dd [a0,a1,a2,a3] (X ([a0,a1,a2,a3] ++ List.replicate (n - 4) .un)):=F8 rfl
theorem fnF_5 {a0 a1 a2 a3 a4:Sl}:fnF 5 n X [a0,a1,a2,a3,a4] = Dd [a0,a1,a2,a3,a4] (X ([a0,a1,a2,a3,a4] ++ List.replicate (n - 5) .un)):=F8 rfl
theorem fnF_6 {a0 a1 a2 a3 a4 a5:Sl}:fnF 6 n X [a0,a1,a2,a3,a4,a5] = Dd [a0,a1,a2,a3,a4,a5] (X ([a0,a1,a2,a3,a4,a5] ++ List.replicate (n - 6) .un)):=F8 rfl
theorem fnF_7 {a0 a1 a2 a3 a4 a5 a6:Sl}:fnF 7 n X [a0,a1,a2,a3,a4,a5,a6] = Dd [a0,a1,a2,a3,a4,a5,a6] (X ([a0,a1,a2,a3,a4,a5,a6] ++ List.replicate (n - 7) .un)):=F8 rfl
theorem fnF_8 {a0 a1 a2 a3 a4 a5 a6 a7:Sl}:fnF 8 n X [a0,a1,a2,a3,a4,a5,a6,a7] = Dd [a0,a1,a2,a3,a4,a5,a6,a7] (X ([a0,a1,a2,a3,a4,a5,a6,a7] ++ List.replicate (n - 8) .un)):=F8 rfl
end
theorem Ah7 (i j:Int):Br (.int i) (.int j) = some (.val (.int (i + j))):=rfl
theorem Ah8 (i j:Int):Mr (.int i) (.int j) = some (.val (.int (i - j))):=rfl
theorem Ah9 {i j:Int} (h:0 < j):Hh (.int i) (.int j) = some (.val (.int (i % j))):=by
 show (if 0 < j then some (D.int (i % j)) else none).map Rv.val = _
 rw [if_pos h]; rfl
theorem Xu {i j:Int} (h:0 < j) (h2:j < 2 ^ 200):Ms (.int i) (.int j) = some (.val (.int (i / j))):=by
 show (if 0 < j∧j < 2 ^ 200 then some (D.int (i / j)) else none).map Rv.val = _
 rw [if_pos ⟨h,h2⟩]; rfl
theorem Po {i j:Int} (h:-(2 ^ 64) < j) (h2:j < 2 ^ 64):D7 (.int i) (.int j) = some (.val (.int (i * j))):=by
 show (if (-(2 ^ 64) < i∧i < 2 ^ 64)∨(-(2 ^ 64) < j∧j < 2 ^ 64) then some (Rv.val (D.int (i * j))) else none) = _
 rw [if_pos (.inr ⟨h,h2⟩)]
theorem Aia:F4 (.int 10) (.int 18) = some (.val (.int (10 ^ 18))):=by
 show (if (0:Int)≤18∧(18:Int)≤1000∧-(2 ^ 60) < (10:Int)∧(10:Int) < 2 ^ 60 then some (D.int (10 ^ (18:Int).toNat)) else none).map Rv.val = _
 rw [if_pos (by decide)]; rfl
theorem Aib (i j:Int):ltD (.int i) (.int j) = some (.val (.bl (decide (i < j)))):=rfl
theorem Aic (i j:Int):leD (.int i) (.int j) = some (.val (.bl (decide (i≤j)))):=rfl
theorem Aid (i j:Int):gtD (.int i) (.int j) = some (.val (.bl (decide (j < i)))):=rfl
theorem Aie (i j:Int):geD (.int i) (.int j) = some (.val (.bl (decide (j≤i)))):=rfl
theorem Aif (a b:List Nat):ltD (.str a) (.str b) = some (.val (.bl (decide (a < b)))):=rfl
theorem Aig (a b:List Nat):leD (.str a) (.str b) = some (.val (.bl (!decide (b < a)))):=rfl
theorem Aih (a b:List Nat):gtD (.str a) (.str b) = some (.val (.bl (decide (b < a)))):=rfl
theorem Aii (a b:List Nat):geD (.str a) (.str b) = some (.val (.bl (!decide (a < b)))):=rfl
theorem Xv (l:List D):Bl [.lst l] = some (.val (.int l.length)):=rfl
theorem Aij (l:List D):Bl [.tup l] = some (.val (.int l.length)):=rfl
theorem Aik (l:List Int):Bl [.scr l] = some (.val (.int l.length)):=rfl
theorem Ail (l:List (List Nat × D)):Bl [.dct l] = some (.val (.int l.length)):=rfl
theorem Xw {l:List Nat} (h:l.length≤16777216):Bl [.str l] = some (.val (.int l.length)):=by
 show (if l.length≤sizeLine then some (Rv.val (D.int l.length)) else none) = _
 rw [if_pos (by rw [sizeLine_eq]; exact h)]
theorem ixA_0 (a:D) (r:List D):ixA (.lst (a :: r)) (.int 0) = some (.val a):=by
 show (match (atI (a :: r) 0).map Rv.val with | some r=>some r | none=>_) = _
 rw [Ahy]; rfl
theorem ixA_1 (a b:D) (r:List D):ixA (.lst (a :: b :: r)) (.int 1) = some (.val b):=by
 show (match (atI (a :: b :: r) 1).map Rv.val with | some r=>some r | none=>_) = _
 rw [Ahz]; rfl
theorem ixA_2 (a b c:D) (r:List D):ixA (.lst (a :: b :: c :: r)) (.int 2) = some (.val c):=by
 show (match (atI (a :: b :: c :: r) 2).map Rv.val with | some r=>some r | none=>_) = _
 rw [Ah0]; rfl
theorem Aim (ns:List Int) (i:Int):ixA (.scr ns) (.int i) = (atI ns i).map fun n=>.val (.int n):=by
 show (match (atI ns i).map (fun n=>Rv.val (D.int n)) with | some r=>some r | none=>none) = _
 cases atI ns i <;> rfl
theorem Ain (l:List Nat):tyD "str" (.str l) = true:=rfl
theorem Aio (l:List D):tyD "list" (.lst l) = true:=rfl
theorem Aip:isE .non .non = some (.val (.bl true)):=rfl
theorem Aiq (i:Int):isE (.int i) .non = some (.val (.bl false)):=rfl
theorem Air (l:List Nat):isE (.str l) .non = some (.val (.bl false)):=rfl
theorem Ais (l:List D):isE (.lst l) .non = some (.val (.bl false)):=rfl
theorem Ait (l:List D):isE (.tup l) .non = some (.val (.bl false)):=rfl
theorem Aiu:C9 .non .non = some (.val (.bl false)):=rfl
theorem Aiv (i:Int):C9 (.int i) .non = some (.val (.bl true)):=rfl
theorem Aiw (l:List Nat):C9 (.str l) .non = some (.val (.bl true)):=rfl
theorem Aix (l:List D):C9 (.lst l) .non = some (.val (.bl true)):=rfl
theorem Aiy (l:List D):C9 (.tup l) .non = some (.val (.bl true)):=rfl
theorem Aiz {as:List Sl} {e:Ve} {i:Nat}:Dd as (.ok (.rt (.slot i)) e) = (match Dt (.slot i) e with | .ok r' e2=>.ok r' (backV as e2) | _=>.no):=rfl
theorem Ai0 (k:List (List Nat × D)):tyM "dict" (.dct k) = true:=rfl
theorem Ai1 (l:List D):tyM "list" (.lst l) = true:=rfl
theorem szn_0:decide (0≤sizeLine) = true:=by rw [sizeLine_eq]; rfl
theorem szn_1:decide (1≤sizeLine) = true:=by rw [sizeLine_eq]; rfl
theorem szn_2:decide (2≤sizeLine) = true:=by rw [sizeLine_eq]; rfl
theorem szn_3:decide (3≤sizeLine) = true:=by rw [sizeLine_eq]; rfl
theorem szn_4:decide (4≤sizeLine) = true:=by rw [sizeLine_eq]; rfl
theorem szn_5:decide (5≤sizeLine) = true:=by rw [sizeLine_eq]; rfl
theorem szn_6:decide (6≤sizeLine) = true:=by rw [sizeLine_eq]; rfl
theorem szn_7:decide (7≤sizeLine) = true:=by rw [sizeLine_eq]; rfl
theorem szn_8:decide (8≤sizeLine) = true:=by rw [sizeLine_eq]; rfl
theorem szn_9:decide (9≤sizeLine) = true:=by rw [sizeLine_eq]; rfl
theorem Ai2:decide (10≤sizeLine) = true:=by rw [sizeLine_eq]; rfl
theorem Ai3:decide (11≤sizeLine) = true:=by rw [sizeLine_eq]; rfl
theorem Ai4:decide (12≤sizeLine) = true:=by rw [sizeLine_eq]; rfl
theorem Ai5:decide (13≤sizeLine) = true:=by rw [sizeLine_eq]; rfl
theorem Ai6:decide (14≤sizeLine) = true:=by rw [sizeLine_eq]; rfl
theorem Ai7:decide (15≤sizeLine) = true:=by rw [sizeLine_eq]; rfl
theorem Ai8:decide (16≤sizeLine) = true:=by rw [sizeLine_eq]; rfl
end Vs
set_option maxRecDepth 100000
set_option maxHeartbeats 2000000
namespace Vs
open PySem PySem.Spec PyProof.Rows L2 Fw SX
def Nk (x:Str) (fs:List Str) (rs:List Rv) (e:Ve):Res Ctl:=match B6 rs with
 | some ds=>if ds.length = fs.length∧ds.length≤1000 then .er (x,(fs.zip ds).reverse) e else .no
 | none=>.no
section
variable {x y f h:Str} {fs:List Str} {d d':D} {e:Ve} {A:M (List Rv)} {i:Nat} {outs:List Str} {F:List (Str × D)→Option (List D)} {B:M Ctl} {xs:List (Str × D)}
theorem Ai9:Ad3 x fs A e = (A e).bnd (Nk x fs):=rfl
theorem Aja:Nk x [f] [.val d] e = .er (x,[(f,d)]) e:=by simp [Nk,B6]
theorem Ajb:Nk x [f,h] [.val d,.val d'] e = .er (x,[(h,d'),(f,d)]) e:=by simp [Nk,B6]
theorem Ajc {as:List Sl} {z:Exn}:Dd as (.er z e) = .er z (backV as e):=rfl
def Nl (y:Str) (outs:List Str) (i:Nat) (f:List (Str × D)→Option (List D)):Res Ctl→Res Ctl
 | .er x e'=>if x.1 = y∧i < e'.length∧x.2≠[] then (match f x.2 with | some ds=>if ds.length≤sizeLine then .ok (.rt (.fresh (.lst ds))) e' else .no | none=>.no) else if x.1∈outs then .er x e' else .no
 | r=>r
theorem Ajd:fTry y outs i F B e = Nl y outs i F (B e):=by
 unfold fTry Nl
 cases B e <;> rfl
theorem Aje {c:Ctl}:Nl y outs i F (.ok c e) = .ok c e:=rfl
theorem Ajf:Nl y outs i F (.er (y,xs) e) = ifb (decide (i < e.length) && !xs.isEmpty) (obn (F xs) fun ds=>ifb (decide (ds.length≤sizeLine)) (.ok (.rt (.fresh (.lst ds))) e) .no) (Nl y outs i F (.er (y,xs) e)):=by
 show (if y = y∧i < e.length∧xs≠[] then _ else _) = _
 by_cases h1:i < e.length
 ·cases xs with
  | nil=>rw [decide_eq_true h1]; rfl
  | cons p r =>
   rw [decide_eq_true h1,if_pos ⟨rfl,h1,by simp⟩]
   show (match F (p :: r) with | some ds=>_ | none=>_) = obn (F (p :: r)) _
   cases F (p :: r) with
   | none=>rfl
   | some ds =>
    show (if ds.length≤sizeLine then _ else _) = ifb (decide (ds.length≤sizeLine)) _ _
    by_cases h2:ds.length≤sizeLine
    ·rw [if_pos h2,decide_eq_true h2]; rfl
    ·rw [if_neg h2,decide_eq_false h2]; rfl
 ·rw [decide_eq_false h1]; rfl
theorem Ajg:xNil xs = some []:=rfl
theorem Ajh {g:List (Str × D)→Option D} {r:List (Str × D)→Option (List D)}:xCons g r xs = (g xs).bind fun d=>(r xs).map (d :: ·):=rfl
theorem xC_e:xC d xs = some d:=rfl
theorem xF_1 {r:List (Str × D)}:xF f ((f,d) :: r) = some d:=by
 show List.lookup f ((f,d) :: r) = _
 simp [List.lookup]
theorem Aji {g:List D→Option Rv}:xApp g F xs = (F xs).bind fun ds=>match g ds with | some (.val d)=>some d | _=>none:=rfl
theorem Ajj:Nd e = .ok [] e:=rfl
def Xx (a b:Rv) (t:List (D × D)) (e:Ve):Res (List (D × D)):=match a,b with
 | .val x,.val y=>.ok ((x,y) :: t) e
 | _,_=>.no
theorem Ajk {K V:M Rv} {r:M (List (D × D))}:Nf K V r e = (Ad K e).bnd fun a e1=>(Ad V e1).bnd fun b e2=>(r e2).bnd fun t e3=>Xx a b t e3:=rfl
theorem Ajl {x y:D} {t:List (D × D)}:Xx (.val x) (.val y) t e = .ok ((x,y) :: t) e:=rfl
theorem Ajm {F:M (List (D × D))}:Ld F e = (F e).bnd fun ps e1=>obn (Dw ps) fun kvs=>ifb (decide (kvs.length≤15)) (.ok (.fresh (.dct (Ru kvs))) e1) .no:=by
 unfold Ld M.bind Res.bnd
 cases F e with
 | no=>rfl
 | er x e1=>rfl
 | ok ps e1 =>
  show (match Dw ps with | some kvs=>if kvs.length≤15 then _ else _ | none=>_) = obn (Dw ps) _
  cases Dw ps with
  | none=>rfl
  | some kvs =>
   show (if kvs.length≤15 then _ else _) = ifb (decide (kvs.length≤15)) _ _
   by_cases h:kvs.length≤15
   ·rw [if_pos h,decide_eq_true h]; rfl
   ·rw [if_neg h,decide_eq_false h]; rfl
theorem Ajn:Dw [] = some []:=rfl
theorem Ajo {k:List Nat} {r:List (D × D)}:Dw ((.str k,d) :: r) = (Dw r).map ((k,d) :: ·):=rfl
theorem Ajp {k:List Nat}:Ru [(k,d)] = [(k,d)]:=rfl
def rngR2 (r r2:Rv) (e:Ve):Res (List D):=match r,r2 with
 | .val (.int i),.val (.int j)=>if -(2 ^ 62)≤i∧i < 2 ^ 62∧-(2 ^ 62)≤j∧j < 2 ^ 62 then .ok (Bg i (j - i).toNat) e else .no
 | _,_=>.no
theorem Ajq {A B:M Rv}:Vi A B e = (A e).bnd fun r e1=>(B e1).bnd fun r2 e2=>rngR2 r r2 e2:=by
 unfold Vi M.bind Res.bnd
 cases A e with
 | no=>rfl
 | er x e1=>rfl
 | ok a e1 =>
  cases B e1 with
  | no=>rfl
  | er x e2=>rfl
  | ok b e2=>rfl
theorem Ajr {cs:List (Str × Bool)} {A:M Rv}:F6 cs A e = (A e).bnd fun r e1=>obn (Af r e1) fun d=>obn (Hm cs d) fun b=>.ok (.val (.bl b)) e1:=by
 unfold F6 M.bind Res.bnd
 cases A e with
 | no=>rfl
 | er x e1=>rfl
 | ok r e1 =>
  show (match Af r e1 with | some d=>(match Hm cs d with | some b=>_ | none=>_) | none=>_) = obn (Af r e1) _
  cases Af r e1 with
  | none=>rfl
  | some d =>
   show (match Hm cs d with | some b=>_ | none=>_) = obn (Hm cs d) _
   cases Hm cs d <;> rfl
def eqR (T:Str→Option (List Sl→Res Rv)) (ts:List Str) (f:Res Rv→Res Rv) (a b:Rv) (e:Ve):Res Rv:=match a,b with
 | .val (.ins c fs),.val d=>(match T c with
  | some F=>if E8 ts d = true then f (A5 F [.val (.ins c fs),.val d] e) else .no
  | none=>.no)
 | _,_=>.no
theorem Ajs {T:Str→Option (List Sl→Res Rv)} {ts:List Str} {A B:M Rv}:Nh T ts A B e = (Ad A e).bnd fun a e1=>(Ad B e1).bnd fun b e2=>eqR T ts noEr a b e2:=rfl
theorem Xy {T:Str→Option (List Sl→Res Rv)} {ts:List Str} {A B:M Rv}:Pk T ts A B e = (Ad A e).bnd fun a e1=>(Ad B e1).bnd fun b e2=>eqR T ts notR a b e2:=rfl
theorem Ajt {T:Str→Option (List Sl→Res Rv)} {ts:List Str} {f:Res Rv→Res Rv} {c:Str} {fs:List (Str × D)} {d:D} {F:List Sl→Res Rv} (hT:T c = some F) (ho:E8 ts d = true):eqR T ts f (.val (.ins c fs)) (.val d) e = f (A5 F [.val (.ins c fs),.val d] e):=by
 show (match T c with | some F=>if E8 ts d = true then f (A5 F [.val (.ins c fs),.val d] e) else .no | none=>.no) = _
 rw [hT]
 exact if_pos ho
theorem Aju {r:Rv}:noEr (.ok r e) = .ok r e:=rfl
theorem Xz {b:Bool}:notR (.ok (.val (.bl b)) e) = .ok (.val (.bl (!b))) e:=rfl
def X0 (T:Str→Option (List Sl→Res Rv)) (a:Rv) (e:Ve):Res Rv:=match a with
 | .val (.ins c fs)=>(match T c with
  | some F=>strR (A5 F [.val (.ins c fs)] e)
  | none=>.no)
 | _=>.no
theorem Ajv {T:Str→Option (List Sl→Res Rv)} {A:M Rv}:Pl T A e = (Ad A e).bnd fun a e1=>X0 T a e1:=rfl
theorem Ajw {T:Str→Option (List Sl→Res Rv)} {c:Str} {fs:List (Str × D)}:X0 T (.val (.ins c fs)) e = obn (T c) fun F=>strR (A5 F [.val (.ins c fs)] e):=by
 show (match T c with | some F=>_ | none=>_) = obn (T c) _
 cases T c <;> rfl
theorem Ajx {l:List Nat}:strR (.ok (.val (.str l)) e) = .ok (.val (.str l)) e:=rfl
theorem Ajy (c:Nat):ordD [.str [c]] = some (.val (.int c)):=rfl
end
def A9:Sl→Bool
 | .un=>true
 | .sh _=>true
 | .ow _=>true
 | _=>false
def stoO:Option Sl→Bool
 | some s=>A9 s
 | none=>false
theorem Ajz {e:Ve} {i:Nat}:A0 e i = stoO e[i]?:=by
 unfold A0 stoO
 cases e[i]? with
 | none=>rfl
 | some s=>cases s <;> rfl
theorem Aj0 {s:Sl}:stoO (some s) = A9 s:=rfl
theorem Aj1:A9 .un = true:=rfl
theorem Aj2 {d:D}:A9 (.sh d) = true:=rfl
theorem Aj3 {d:D}:A9 (.ow d) = true:=rfl
end Vs
set_option maxRecDepth 100000
set_option maxHeartbeats 2000000
namespace Vs
open PySem PySem.Spec PyProof.Rows L2 Fw SX
section
variable {A:M Rv} {e:Ve} {d:D}
def X1:Rv→Ve→Res (List D)
 | .val (.tup ds),e=>.ok (B2 0 ds) e
 | _,_=>.no
theorem Aj4:Lg A e = (Ad A e).bnd X1:=by
 unfold Lg M.bind Res.bnd
 cases Ad A e with
 | no=>rfl
 | er x e1=>rfl
 | ok a e1=>cases a with
  | val d=>cases d <;> rfl
  | _=>rfl
theorem R6 {ds:List D}:X1 (.val (.tup ds)) e = .ok (B2 0 ds) e:=rfl
def padR (k:Nat):Rv→Ve→Res Rv
 | .val (.int i),e=>ifb (decide (0≤i∧i < 260)) (.ok (.val (.str (padD k i.toNat))) e) .no
 | _,_=>.no
theorem Aj5 {k:Nat}:fPad k A e = (A e).bnd (padR k):=by
 unfold fPad M.bind Res.bnd
 cases A e with
 | no=>rfl
 | er x e1=>rfl
 | ok a e1=>cases a with
  | val d=>cases d <;> first | rfl | exact F7
  | _=>rfl
theorem Aj6 {k:Nat} {i:Int}:padR k (.val (.int i)) e = ifb (decide (0≤i∧i < 260)) (.ok (.val (.str (padD k i.toNat))) e) .no:=rfl
def R7 (T:Str→Option (List Sl→Res Rv)) (m:Str) (A B:M (List Rv)) (o:Rv) (e0:Ve):Option D→Res Rv
 | some (.ins c fs)=>ifb (fs.lookup m).isNone (obn (T c) fun F=>(A e0).bnd fun rs e1=>(B e1).bnd fun zs e2=>A5 F (o :: (rs ++ zs)) e2) .no
 | _=>.no
theorem Aj7 {T:Str→Option (List Sl→Res Rv)} {m:Str} {O:M Rv} {L Z:M (List Rv)}:Xc T m O L Z e = (O e).bnd fun o e0=>R7 T m L Z o e0 (Af o e0):=by
 unfold Xc M.bind Res.bnd
 cases O e with
 | no=>rfl
 | er x e1=>rfl
 | ok o e0 =>
  simp only
  cases Af o e0 with
  | none=>rfl
  | some d =>
   cases d <;> try rfl
   rename_i c fs
   unfold R7
   simp only
   cases (fs.lookup m).isNone with
   | false=>rfl
   | true =>
    rw [if_pos rfl]
    cases T c with
    | none=>rfl
    | some F=>rfl
theorem Aj8 {T:Str→Option (List Sl→Res Rv)} {m:Str} {L Z:M (List Rv)} {o:Rv} {c:Str} {fs:List (Str × D)}:R7 T m L Z o e (some (.ins c fs)) = ifb (fs.lookup m).isNone (obn (T c) fun F=>(L e).bnd fun rs e1=>(Z e1).bnd fun zs e2=>A5 F (o :: (rs ++ zs)) e2) .no:=rfl
end
end Vs
set_option maxRecDepth 100000
set_option maxHeartbeats 2000000
namespace Vs
open PySem PySem.Spec PyProof.Rows L2 Fw SX
section
open PySem.W Builtin
variable {prog:Program} {w:World} {A:Around} {E:Value→Shared→Prop} {s:Shared} {K:PySem.W.Frag} {x C f:Addr} {ox:Obj} {od:Option Obj}
theorem X2 {Q:Value→Shared→Prop} (X:K.In s.heap) (J:InstAt s.heap x ox C od) (hs:findIn K (.ref C) "__len__" = some (some (.ref f))) (hf:isFn K (.ref f) = true)
  (h:wpAny (model prog w) A.in1 (call (.ref f) [.ref x]) (fun r s'=>∃ n u,r = .int n u∧0≤n∧n < 2 ^ 63∧Q (.int n s'.toks) { s' with toks:=s'.toks + 1 }) E s):wpAny (model prog w) A (call (.builtin "len") [.ref x]) Q E s:=by
 refine Calls.call_function_entry kind_len plain_len entry_len (args_len1 _) ?_
 unfold Builtin.«len»
 refine wpAny_bind (m:=oneArg "len" _) (wpAny_pure ?_)
 refine wpAny_bind (m:=callSpecial? (.ref x) (Str.ofString "__len__")) (special_fn X J hs (beq_iff_eq.mp hf) (wpAny_mono h (fun r s' hr=>?_) fun _ _ y=>y))
 obtain ⟨n,u,rfl,h0,h1,hq⟩:=hr
 refine wpAny_bind (wpAny_holding (wpAny_pure ?_))
 refine wpAny_bind (wpAny_letGo ?_)
 show wpAny _ _ (if n < 0 then _ else _) _ _ _
 rw [if_neg (by omega)]
 show wpAny _ _ (if n ≥ 2 ^ 63 then _ else _) _ _ _
 rw [if_neg (by omega)]
 exact wpAny_bind (wpAny_mkInt (wpAny_pure ⟨_,rfl,hq⟩))
theorem Aj9 {Q:Bool→Shared→Prop} {y:Value} (X:K.In s.heap) (J:InstAt s.heap x ox C od) (hs:findIn K (.ref C) "__contains__" = some (some (.ref f))) (hf:isFn K (.ref f) = true)
  (h:wpAny (model prog w) A (call (.ref f) [.ref x,y]) (fun r s'=>∃ b,r = .bool b∧Q b s') E s):wpAny (model prog w) A (contains (.ref x) y) Q E s:=by
 unfold contains
 refine wpAny_holding ?_
 have e:stdlibNamesSay? (.ref x) y = none:=rfl
 rw [e]
 refine wpAny_bind (m:=specialOf (.ref x) "__contains__") (wpAny_bind (J.type.here ((looks_findIn X hs).here ?_)))
 refine wpAny_ite_false (by simp) ?_
 refine wpAny_bind (m:=callSpecialUnlessNone? (.ref x) "__contains__" [y] _) ?_
 unfold callSpecialUnlessNone?
 refine wpAny_bind (m:=specialOf (.ref x) "__contains__") (wpAny_bind (J.type.here ((looks_findIn X hs).here ?_)))
 dsimp only
 refine wpAny_holding (wpAny_bind ((bind_fn X _ (beq_iff_eq.mp hf)).here ?_))
 refine wpAny_ite_false (by simp) ?_
 refine wpAny_bind (wpAny_mono h (fun r s' hr=>wpAny_pure ?_) fun _ _ z=>z)
 obtain ⟨b,rfl,q⟩:=hr
 exact wpAny_truthy_bool q
end
def SpD (m:Str) (P:Program) (mg:Str→Option Value) (base:Heap) (g:Gm) (j:Nat) (T:Str→Option (List Sl→Res Rv)):Prop :=
 ∀ c F,T c = some F→∃ f,PySem.W.findIn g.K (.ref (g.ca c)) m = some (some (.ref f))∧PySem.W.isFn g.K (.ref f) = true∧FnK P g.w g.K mg base (L2.CX P g.w) j f [] (spR g F)
def lenRR:Res Rv→Res Rv
 | .ok (.val (.int i)) e=>if 0≤i∧i < 2 ^ 60 then .ok (.val (.int i)) e else .no
 | _=>.no
def Pq (T:Str→Option (List Sl→Res Rv)) (A:M Rv):M Rv:=(Ad A).bind fun a e=>match a with
 | .val (.ins c fs)=>(match T c with
  | some F=>lenRR (A5 F [.val (.ins c fs)] e)
  | none=>.no)
 | _=>.no
def rLenO (P:Program) (w:World) (K:PySem.W.Frag) (mg:Str→Option Value) (base:Heap) (k:Nat):List V→Hp→VK→Prop:=fun xs H Q=>∃ (p C dx:Addr) (fs:List (Str × V)) (f:Addr) (sp:Sp),xs = [.ref p]∧H p = some (.ins C dx fs)∧PySem.W.findIn K (.ref C) "__len__" = some (some (.ref f))∧PySem.W.isFn K (.ref f) = true ∧
 FnK P w K mg base (L2.CX P w) k f [] sp∧sp [.ref p] H (fun v H'=>∃ i:Int,v = .int i∧0≤i∧i < 2 ^ 60∧Q (.int i) H') (fun _ _ _=>False)
section
variable {g:Gm} {W:WX} {k:Nat} {X:Cx}
theorem Aka (rm:Rm (k + 1) X.A) (px:Passes (L2.CX X.prog X.w) X (fun _ _ _=>False)):CallR X (.builtin "len") (rLenO X.prog X.w X.K X.mg X.base k):=by
 intro pins s σ H xs us Q I r h
 obtain ⟨p,C,dx,fs,f,sp,rfl,ha,hs,hf,Fk,q⟩:=h
 obtain ⟨u,rfl,ru⟩:=vals1 r
 cases ru
 obtain ⟨mA,J,_⟩:=ins_get I.hok ha
 obtain ⟨od,J,_⟩:=J.look
 refine X2 I.kIn J hs hf ?_
 have e:=I.env0
 have e0:Env0 X.prog X.w X.K X.mg X.base X.A.in1 X.stack s H:=⟨e.frames,e.mod,e.bs,e.bsz,e.funs,e.frf,e.hok,e.bare⟩
 refine wpAny_call (codeAny_mono (Fk X.A.in1 X.stack s H [.ref p] [] [.ref p] [] _ _ rm.in1 e0 (.cons rfl .nil) .nil rfl (by rw [List.append_nil]; exact q)) fun res s' z=>?_)
 match res,z with
 | .error e,z=>exact px pins σ H s e s' I z
 | .ok (.ret w'),z =>
  obtain ⟨v,H',I',rv,i,ev,i0,i1,qb⟩:=I.after z
  subst ev
  obtain ⟨tk,rfl⟩:=rv
  exact ⟨i,tk,rfl,i0,by omega,.int i,H',I'.tok _,⟨_,rfl⟩,qb⟩
 | .ok .next,z=>exact False.elim z
 | .ok .brk,z=>exact False.elim z
 | .ok .cont,z=>exact False.elim z
theorem Pst.lenRR {σ:L2.St} {G H:Hp} {e:Ve} {Q:VK} {r:Res Rv} (h:Pst g W σ G H e (fun r G' H' e'=>∀ v,RvOk g G' H' σ e' H r v→Q v H') (lenRR r)):Pst g (fun _ _ _ _=>False) σ G H e (fun r G' H' e'=>∀ v,RvOk g G' H' σ e' H r v→∃ i:Int,v = .int i∧0≤i∧i < 2 ^ 60∧Q (.int i) H') r:=by
 match r,h with
 | .ok (.val (.int i)) e',h =>
  unfold Vs.lenRR at h
  by_cases c:0≤i∧i < 2 ^ 60
  ·simp only [if_pos c] at h
   exact fun G' H' t v ok=>⟨i,ok,c.1,c.2,ok ▸ h G' H' t v ok⟩
  ·simp only [if_neg c] at h
   exact h.elim
 | .no,h=>exact h
 | .er _ _,h=>exact h.elim
 | .ok (.slot _) _,h=>exact h.elim
 | .ok (.fresh _) _,h=>exact h.elim
 | .ok (.val .non) _,h=>exact h.elim
 | .ok (.val (.str _)) _,h=>exact h.elim
 | .ok (.val (.bl _)) _,h=>exact h.elim
 | .ok (.val (.lst _)) _,h=>exact h.elim
 | .ok (.val (.tup _)) _,h=>exact h.elim
 | .ok (.val (.dct _)) _,h=>exact h.elim
 | .ok (.val (.set _)) _,h=>exact h.elim
 | .ok (.val (.ins _ _)) _,h=>exact h.elim
 | .ok (.val (.con _)) _,h=>exact h.elim
 | .ok (.val (.scr _)) _,h=>exact h.elim
theorem Akb {T:Str→Option (List Sl→Res Rv)} {j:Nat} {a:Expr} {A:M Rv} {p pos:Pos} (tab:SpD "__len__" X.prog X.mg X.base g j T) (hj:j + 1≤k) (hm:X.mg "len" = none) (ha:VE g W k X a A) (hg:Gl X "len":=by rfl) (he:starEach [a] X.env = (false,eval a X.env) :: starEach [] X.env:=by rfl) (hpl:(backTo pos (starEach [] X.env)).any (·.1) = false:=by rfl):VE g W k X (.Call (.Name "len" p) [a] [] pos) (Pq T A):=by
 refine ⟨fun c=>?_⟩
 obtain ⟨gK,gw,ca,gT,gs,gn⟩:=g
 obtain rfl:X.K = gK:=c.K
 obtain rfl:X.w = gw:=c.w
 refine PE.imp (pe_callB (Aka (c.room.mono hj) (passes_call c.tk fun _ _ _ _ z=>z.elim)) hg hm (by decide +kernel) (pa_cons ((Ar ha).run c) pa_nil he) (he:=he) (hpl:=hpl)) fun σ H Q ⟨G,e,sr,h⟩=>?_
 refine ⟨G,e,sr,Pst.mono (Pst.bind0 h) fun r G1 H1 e1 t1 h1 x ok1=>?_⟩
 cases r with
 | slot _=>exact h1.elim
 | fresh _=>exact h1.elim
 | val d =>
  cases d with
  | ins c' fs =>
   simp only at h1
   cases qT:T c' with
   | none=>rw [qT] at h1; exact h1.elim
   | some F =>
    rw [qT] at h1
    simp only at h1
    obtain ⟨f,f1,f2,f3⟩:=tab c' F qT
    have ok1:Rep _ G1 (.ins c' fs) x:=ok1
    obtain ⟨p,dx,us,ev,ha,rf,io⟩:=id ok1
    subst ev
    exact ⟨p,ca c',dx,us,f,_,rfl,t1.sr.bs.at_ ha rfl,f1,f2,f3,F0 (W:=fun _ _ _ _=>False) sr t1 (rs:=[.val (.ins c' fs)]) ⟨.ref p,[],rfl,ok1,rfl,fun d p z=>nomatch z⟩ (Pst.lenRR h1)⟩
  | _=>exact h1.elim
end
def boolRR (neg:Bool):Res Rv→Res Rv
 | .ok (.val (.bl b)) e=>.ok (.val (.bl (if neg then !b else b))) e
 | _=>.no
def Jm (T:Str→Option (List Sl→Res Rv)) (neg:Bool) (A B:M Rv):M Rv:=(Ad A).bind fun a=>(Ad B).bind fun b e=>match a,b with
 | .val d,.val (.ins c fs)=>(match T c with
  | some F=>boolRR neg (A5 F [.val (.ins c fs),.val d] e)
  | none=>.no)
 | _,_=>.no
def Pr (neg:Bool) (P:Program) (w:World) (K:PySem.W.Frag) (mg:Str→Option Value) (base:Heap) (k:Nat):R2:=fun x y H Q=>∃ (p C dx:Addr) (fs:List (Str × V)) (f:Addr) (sp:Sp),y = .ref p∧H p = some (.ins C dx fs)∧PySem.W.findIn K (.ref C) "__contains__" = some (some (.ref f))∧PySem.W.isFn K (.ref f) = true ∧
 FnK P w K mg base (L2.CX P w) k f [] sp∧sp [y,x] H (fun v H'=>∃ b,v = .bl b∧Q (.bl (if neg then !b else b)) H') (fun _ _ _=>False)
section
variable {g:Gm} {W:WX} {k:Nat} {X:Cx}
theorem X3 {neg:Bool} (rm:Rm k X.A) (px:Passes (L2.CX X.prog X.w) X (fun _ _ _=>False)) {pins:List (Addr × Obj)} {s:Shared} {σ:L2.St} {H:Hp} {x y:V} {v u:Value} {Q:VK} (I:Inv X pins σ H s) (rx:RelV x v) (ry:RelV y u) (h:Pr neg X.prog X.w X.K X.mg X.base k x y H Q) :
  wpAny (model X.prog X.w) X.A (contains u v) (fun b s'=>EP X pins σ Q (.bool (if neg then !b else b)) s') X.xe s:=by
 obtain ⟨p,C,dx,fs,f,sp,rfl,ha,hs,hf,Fk,q⟩:=h
 cases ry
 obtain ⟨mA,J,_⟩:=ins_get I.hok ha
 obtain ⟨od,J,_⟩:=J.look
 refine Aj9 I.kIn J hs hf (wpAny_mono (wpAny_call (Jb (E:=fun _ _ _ _=>False) Fk rm (fun pins H s e s' I z=>px pins _ H s e s' I z) I (vs:=[.ref p,x]) (.cons rfl (.cons rx .nil)) .nil rfl (by rw [List.append_nil]; exact q))) (fun r s' hq=>?_) fun _ _ z=>z)
 obtain ⟨z,H',I',rz,b,ez,qz⟩:=hq
 subst ez
 obtain rfl:r = Value.bool b:=rz
 exact ⟨b,rfl,.bl _,H',I',rfl,qz⟩
theorem Akc (rm:Rm k X.A) (px:Passes (L2.CX X.prog X.w) X (fun _ _ _=>False)):OpR X (compareOp .In) (Pr false X.prog X.w X.K X.mg X.base k):=by
 intro pins s σ H x y v u Q I rx ry h
 unfold compareOp
 exact wpAny_bind (wpAny_mono (X3 rm px I rx ry h) (fun b s' hq=>wpAny_pure hq) fun _ _ z=>z)
theorem Akd (rm:Rm k X.A) (px:Passes (L2.CX X.prog X.w) X (fun _ _ _=>False)):OpR X (compareOp .NotIn) (Pr true X.prog X.w X.K X.mg X.base k):=by
 intro pins s σ H x y v u Q I rx ry h
 unfold compareOp
 exact wpAny_bind (wpAny_mono (X3 rm px I rx ry h) (fun b s' hq=>wpAny_pure hq) fun _ _ z=>z)
theorem Pst.boolRR {neg:Bool} {σ:L2.St} {G H:Hp} {e:Ve} {Q:VK} {r:Res Rv} (h:Pst g W σ G H e (fun r G' H' e'=>∀ v,RvOk g G' H' σ e' H r v→Q v H') (boolRR neg r)):Pst g (fun _ _ _ _=>False) σ G H e (fun r G' H' e'=>∀ v,RvOk g G' H' σ e' H r v→∃ b,v = .bl b∧Q (.bl (if neg then !b else b)) H') r:=by
 match r,h with
 | .ok (.val (.bl b)) e',h=>exact fun G' H' t v ok=>⟨b,ok,h G' H' t _ rfl⟩
 | .no,h=>exact h
 | .er _ _,h=>exact h.elim
 | .ok (.slot _) _,h=>exact h.elim
 | .ok (.fresh _) _,h=>exact h.elim
 | .ok (.val .non) _,h=>exact h.elim
 | .ok (.val (.str _)) _,h=>exact h.elim
 | .ok (.val (.int _)) _,h=>exact h.elim
 | .ok (.val (.lst _)) _,h=>exact h.elim
 | .ok (.val (.tup _)) _,h=>exact h.elim
 | .ok (.val (.dct _)) _,h=>exact h.elim
 | .ok (.val (.set _)) _,h=>exact h.elim
 | .ok (.val (.ins _ _)) _,h=>exact h.elim
 | .ok (.val (.con _)) _,h=>exact h.elim
 | .ok (.val (.scr _)) _,h=>exact h.elim
theorem X4 {neg:Bool} {T:Str→Option (List Sl→Res Rv)} {j:Nat} {A B:M Rv} {σ:L2.St} {H:Hp} {Q:VK} {P:Program} {mg:Str→Option Value} {base:Heap} (tab:SpD "__contains__" P mg base g j T) (h:TV g W (Jm T neg A B) σ H Q) :
  TV g W (Ad A) σ H fun x H1=>TV g W (Ad B) σ H1 fun y H2=>Pr neg P g.w g.K mg base j x y H2 Q:=by
 obtain ⟨G,e,sr,h⟩:=h
 refine ⟨G,e,sr,Pst.mono (Pst.bind0 h) fun a G1 H1 e1 t1 h1 x ok1=>⟨G1,e1,t1.sr,Pst.mono (Pst.bindS t1 h1) fun b G2 H2 e2 t2 h2 y ok2=>?_⟩⟩
 cases a with
 | slot _=>exact h2.elim
 | fresh _=>exact h2.elim
 | val da =>
  cases b with
  | slot _=>exact h2.elim
  | fresh _=>exact h2.elim
  | val d =>
   cases d with
   | ins c fs =>
    simp only at h2
    cases qT:T c with
    | none=>rw [qT] at h2; exact h2.elim
    | some F =>
     rw [qT] at h2
     simp only at h2
     obtain ⟨f,f1,f2,f3⟩:=tab c F qT
     have ok1:Rep g G1 da x:=ok1
     have ok2:Rep g G2 (.ins c fs) y:=ok2
     obtain ⟨p,dx,us,ev,ha,rf,io⟩:=id ok2
     refine ⟨p,g.ca c,dx,us,f,spR g F,ev,t2.sr.bs.at_ ha rfl,f1,f2,f3,?_⟩
     exact F0 (W:=fun _ _ _ _=>False) sr (t1.trans t2) (rs:=[.val (.ins c fs),.val da]) ⟨y,[x],rfl,ok2,⟨x,[],rfl,ok1.mono t2.le,rfl,fun d p z=>nomatch z⟩,fun d p z=>nomatch z⟩ (Pst.boolRR h2)
   | _=>exact h2.elim
theorem Ake {neg:Bool} {T:Str→Option (List Sl→Res Rv)} {j:Nat} {a b:Expr} {A B:M Rv} {pos:Pos} {op:CmpOp} (ho:op = .In∧neg = false∨op = .NotIn∧neg = true) (tab:SpD "__contains__" X.prog X.mg X.base g j T) (hj:j≤k) (ha:VE g W k X a A) (hb:VE g W k X b B) (hm:behindInMarks op b = false:=by rfl):VE g W k X (.Compare a [op] [b] pos) (Jm T neg A B):=by
 refine ⟨fun c=>?_⟩
 obtain ⟨gK,gw,ca,gT,gs,gn⟩:=g
 obtain rfl:X.K = gK:=c.K
 obtain rfl:X.w = gw:=c.w
 rcases ho with ⟨rfl,rfl⟩ | ⟨rfl,rfl⟩
 ·exact PE.imp (pe_cmpR (Akc (c.room.mono hj) (passes_call c.tk fun _ _ _ _ z=>z.elim)) ((Ar ha).run c) ((Ar hb).run c) hm) fun _ _ _ q=>X4 tab q
 ·exact PE.imp (pe_cmpR (Akd (c.room.mono hj) (passes_call c.tk fun _ _ _ _ z=>z.elim)) ((Ar ha).run c) ((Ar hb).run c) hm) fun _ _ _ q=>X4 tab q
end
end Vs
set_option maxRecDepth 100000
set_option maxHeartbeats 2000000
namespace Vs
open PySem PySem.Spec PyProof.Rows L2 Fw SX
def gAttr (K:PySem.W.Frag) (to:TE) (f:Str):TG:=fun v σ H Q=>to σ H fun x H1=>∃ a C dx fs,x = .ref a∧H1 a = some (.ins C dx fs)∧Cls K C∧NoAttr K C f∧fs.length < 1000∧Q σ (upd H1 a (.ins C dx (putF f v fs)))
theorem R8 {X:Cx} {o:Expr} {to:TE} {f:Str} {pos:Pos} (ho:PE X o to):PG X (.Attribute o f pos) (gAttr X.K to f):=by
 refine ⟨fun pins s σ H v u Q I r h=>?_⟩
 rw [arm_assign_Attribute]
 refine wpAny_bind (wpAny_holding (thn (ho.run pins s σ H _ I h) fun ov s1 ⟨x,H1,I1,rx,a,C,dx,fs,ex,ea,c,n,l,q⟩=>?_))
 subst ex
 obtain rfl:ov = Value.ref a:=rx
 refine wpAny_bind (wpAny_standAt (wpAny_bind (wpAny_holding (setattr_ok I1 ea c n l r fun s3 I3=>?_))))
 exact wpAny_release ⟨σ,_,I3,q⟩
def Fb (cs:List Str) (f:Str) (i:Nat) (d:D):M Ctl:=Dj cs f i (fC d)
section
variable {g:Gm} {W:WX} {k:Nat} {X:Cx} {G H:Hp} {σ:L2.St} {e:Ve} {cs:List Str} {f:Str} {i:Nat} {d:D} {v:V} {D':Ends}
theorem R9 {D2:Ends} {M2:M Ctl} (sr:SR g G H σ e) (hno:∀ c∈cs,NoAttr g.K (g.ca c) f) (rp:Rep g G d v) (h:PstS g W D2 σ G H e ((Fb cs f i d).bind (fun _=>M2) e)) :
  ∃ a C dx vs e1,σ[i]? = some (some (.ref a))∧H a = some (.ins C dx vs)∧Cls g.K C∧NoAttr g.K C f∧vs.length < 1000∧Tr g σ G H e G (upd H a (.ins C dx (putF f v vs))) e1∧PstS g W D2 σ G (upd H a (.ins C dx (putF f v vs))) e1 (M2 e1):=by
 have e0:(Fb cs f i d).bind (fun _=>M2) e = match e[i]? with
   | some s=>(match A3 s with
    | some (.ins c fs)=>if cs.contains c = true∧fs.length < 1000 then M2 (e.set i (Bt s (.ins c (Bp f d fs)))) else .no
    | _=>.no)
   | _=>.no:=by
  have z:Fb cs f i d e = match e[i]? with
   | some s=>(match A3 s with
    | some (.ins c fs)=>if cs.contains c = true∧fs.length < 1000 then .ok .nx (e.set i (Bt s (.ins c (Bp f d fs)))) else .no
    | _=>.no)
   | _=>.no:=by
   unfold Fb Dj
   show (match (Rv.val d),e[i]? with
    | .val v,some s=>(match A3 s with
     | some (.ins c fs)=>if cs.contains c = true∧fs.length < 1000 then Res.ok Ctl.nx (e.set i (Bt s (.ins c (Bp f v fs)))) else .no
     | _=>.no)
    | _,_=>.no) = _
   cases e[i]? <;> rfl
  unfold M.bind
  rw [z]
  cases q3:e[i]? with
  | none=>rfl
  | some s =>
   simp only
   cases q4:A3 s with
   | none=>rfl
   | some d0 =>
    cases d0 <;> try rfl
    rename_i c fs
    simp only
    by_cases hc:cs.contains c = true∧fs.length < 1000
    ·rw [if_pos hc,if_pos hc]
    ·rw [if_neg hc,if_neg hc]
 rw [e0] at h
 cases q3:e[i]? with
 | none=>simp only [q3] at h; exact h.elim
 | some s =>
  simp only [q3] at h
  cases q4:A3 s with
  | none=>simp only [q4] at h; exact h.elim
  | some d0 =>
   cases d0 with
   | ins c fs =>
    simp only [q4] at h
    by_cases hc:cs.contains c = true∧fs.length < 1000
    ·rw [if_pos hc] at h
     obtain ⟨p',hp,n,ow,_⟩:=sr.own q3 q4
     obtain ⟨dx,vs,ha,rf,io⟩:=id ow
     have hn:=hno c (List.contains_iff_mem.mp hc.1)
     have tr:=sr.mut (d':=.ins c (Bp f d fs)) (o':=.ins (g.ca c) dx (putF f v vs)) q3 q4 hp ow ⟨dx,_,upd_same,rf.put rp,io.1,fun y hy=>by
      rcases M3 hy with z | ⟨z,hz⟩
      ·rw [z]; exact hn
      ·exact io.2 (y.1,z) hz⟩
     refine ⟨p',_,dx,vs,_,hp,ha,io.1,hn,by rw [rf.len]; exact hc.2,tr,?_⟩
     revert h
     cases M2 (e.set i (Bt s (.ins c (Bp f d fs)))) with
     | no=>exact fun h=>h
     | er x e'=>exact fun h cls dd σ' G' H' st=>h cls dd σ' G' H' (tr.st.trans st)
     | ok a e' =>
      cases a with
      | nx=>exact fun h σ' G' H' st=>h σ' G' H' (tr.st.trans st)
      | rt r=>exact fun h v σ' G' H' st ok=>h v σ' G' H' (tr.st.trans st) (ok.h0 tr.dom)
      | bk=>exact fun h σ' G' H' st=>h σ' G' H' (tr.st.trans st)
      | ct=>exact fun h σ' G' H' st=>h σ' G' H' (tr.st.trans st)
    ·rw [if_neg hc] at h; exact h.elim
   | _=>simp only [q4] at h; exact h.elim
end
theorem PstS.move {g:Gm} {W:WX} {D:Ends} {σ:L2.St} {G H G1 H1:Hp} {e e1:Ve} {r:Res Ctl} (t:Tr g σ G H e G1 H1 e1) (h:PstS g W D σ G H e r):PstS g W D σ G1 H1 e1 r:=by
 revert h
 cases r with
 | no=>exact fun h=>h
 | er x e'=>exact fun h cls dd σ' G' H' st=>h cls dd σ' G' H' (t.st.trans st)
 | ok a e' =>
  cases a with
  | nx=>exact fun h σ' G' H' st=>h σ' G' H' (t.st.trans st)
  | rt r=>exact fun h v σ' G' H' st ok=>h v σ' G' H' (t.st.trans st) (ok.h0 t.dom)
  | bk=>exact fun h σ' G' H' st=>h σ' G' H' (t.st.trans st)
  | ct=>exact fun h σ' G' H' st=>h σ' G' H' (t.st.trans st)
def Pt (cs:List Str) (f1 f2 f3:Str) (i:Nat) (A:M (List Rv)):M Ctl:=A.bind fun rs=>match rs with
 | [.val d1,.val d2,.val d3]=>(Fb cs f1 i d1).bind fun _=>(Fb cs f2 i d2).bind fun _=>(Fb cs f3 i d3).bind fun _=>M.ret .nx
 | _=>fun _=>.no
section
variable {g:Gm} {W:WX} {k:Nat} {X:Cx}
theorem X5 {x f1 f2 f3:Str} {i:Nat} {a b c':Expr} {A:M (List Rv)} {cs:List Str} {p1 p2 p3 q1 q2 q3 pt pos:Pos} {kt k2 pt2} (hno1:∀ c∈cs,NoAttr g.K (g.ca c) f1) (hno2:∀ c∈cs,NoAttr g.K (g.ca c) f2) (hno3:∀ c∈cs,NoAttr g.K (g.ca c) f3)
  (hN:X.N[i]? = some x) (hvis:Vis X.env.scope x) (ha:VA g W k X [a,b,c'] A) (hd:(x == ("__debug__" : Str)) = false:=by decide) (hcd:(x == ("__classdict__" : Str)) = false:=by decide)
  (hs:swapsWithSole [.Tuple [.Attribute (.Name x p1) f1 q1,.Attribute (.Name x p2) f2 q2,.Attribute (.Name x p3) f3 q3] kt pt] (.Tuple [a,b,c'] k2 pt2) pos.line X.env = pure false:=by rfl)
  (hw:swappedStores [.Tuple [.Attribute (.Name x p1) f1 q1,.Attribute (.Name x p2) f2 q2,.Attribute (.Name x p3) f3 q3] kt pt] (.Tuple [a,b,c'] k2 pt2) X.env = pure none:=by rfl)
  (h1:(assignEach [.Tuple [.Attribute (.Name x p1) f1 q1,.Attribute (.Name x p2) f2 q2,.Attribute (.Name x p3) f3 q3] kt pt] X.env).map (·.2) = [assign (.Tuple [.Attribute (.Name x p1) f1 q1,.Attribute (.Name x p2) f2 q2,.Attribute (.Name x p3) f3 q3] kt pt) X.env]:=by rfl)
  (hn:(assignEach [.Attribute (.Name x p1) f1 q1,.Attribute (.Name x p2) f2 q2,.Attribute (.Name x p3) f3 q3] X.env).length = 3:=by rfl) (hst:(assignEach [.Attribute (.Name x p1) f1 q1,.Attribute (.Name x p2) f2 q2,.Attribute (.Name x p3) f3 q3] X.env).findIdx? (·.1) = none:=by rfl)
  (h2:(assignEach [.Attribute (.Name x p1) f1 q1,.Attribute (.Name x p2) f2 q2,.Attribute (.Name x p3) f3 q3] X.env).map (·.2) = assign (.Attribute (.Name x p1) f1 q1) X.env :: (assignEach [.Attribute (.Name x p2) f2 q2,.Attribute (.Name x p3) f3 q3] X.env).map (·.2):=by rfl)
  (h3:(assignEach [.Attribute (.Name x p2) f2 q2,.Attribute (.Name x p3) f3 q3] X.env).map (·.2) = assign (.Attribute (.Name x p2) f2 q2) X.env :: (assignEach [.Attribute (.Name x p3) f3 q3] X.env).map (·.2):=by rfl)
  (h4:(assignEach [.Attribute (.Name x p3) f3 q3] X.env).map (·.2) = assign (.Attribute (.Name x p3) f3 q3) X.env :: (assignEach [] X.env).map (·.2):=by rfl) :
  VS g W k X (.Assign [.Tuple [.Attribute (.Name x p1) f1 q1,.Attribute (.Name x p2) f2 q2,.Attribute (.Name x p3) f3 q3] kt pt] (.Tuple [a,b,c'] k2 pt2) pos) (Pt cs f1 f2 f3 i A):=by
 refine ⟨fun c=>PS.imp (ps_asg (pe_tup (ha.run c)) (pg_tup c.calm (pgs_cons (R8 (pe_var hN hvis hd hcd)) (pgs_cons (R8 (pe_var hN hvis hd hcd)) (pgs_cons (R8 (pe_var hN hvis hd hcd)) pgs_nil h4) h3) h2) hn hst) hs hw h1) fun D σ H ⟨G,e,sr,h⟩=>?_⟩
 refine ⟨G,e,sr,Pst.mono (PstS.bindE0 h) fun rs G1 H1 e1 t1 h1 vs rv=>?_⟩
 match rs,h1,rv with
 | [.val d1,.val d2,.val d3],h1,⟨v1,t,ev,o1,⟨v2,t',ev',o2,⟨v3,t3,ev3,o3,en,_⟩,_⟩,_⟩ =>
  subst ev ev' ev3 en
  have o1:Rep g G1 d1 v1:=o1
  have o2:Rep g G1 d2 v2:=o2
  have o3:Rep g G1 d3 v3:=o3
  refine ⟨by rw [sizeLine_eq]; show 3≤_; omega,fun q nq=>?_⟩
  have gr:=Grow.lay (o:=HO.tup [v1,v2,v3]) t1.sr.bs nq
  have t2:=gr.tr t1.sr
  have h1:PstS g W D σ G1 (upd H1 q (.tup [v1,v2,v3])) e1 ((Fb cs f1 i d1).bind (fun _=>(Fb cs f2 i d2).bind fun _=>(Fb cs f3 i d3).bind fun _=>M.ret .nx) e1):=PstS.move (t1.trans t2) h1
  refine ⟨q,[v1,v2,v3],rfl,.of upd_same,rfl,v1,[v2,v3],rfl,?_⟩
  obtain ⟨a1,C1,dx1,vs1,e2,s1,ha1,c1,n1,l1,tr1,h1⟩:=R9 t2.sr hno1 o1 h1
  refine ⟨.ref a1,s1,a1,C1,dx1,vs1,rfl,ha1,c.K ▸ c1,c.K ▸ n1,l1,v2,[v3],rfl,?_⟩
  obtain ⟨a2,C2,dx2,vs2,e3,s2,ha2,c2,n2,l2,tr2,h1⟩:=R9 tr1.sr hno2 o2 h1
  refine ⟨.ref a2,s2,a2,C2,dx2,vs2,rfl,ha2,c.K ▸ c2,c.K ▸ n2,l2,v3,[],rfl,?_⟩
  obtain ⟨a3,C3,dx3,vs3,e4,s3,ha3,c3,n3,l3,tr3,h1⟩:=R9 tr2.sr hno3 o3 h1
  refine ⟨.ref a3,s3,a3,C3,dx3,vs3,rfl,ha3,c.K ▸ c3,c.K ▸ n3,l3,rfl,?_⟩
  exact h1 σ G1 _ (St.refl tr3.sr)
 | [],h1,_=>exact False.elim h1
 | [_],h1,_=>exact False.elim (by revert h1; cases ‹Rv› <;> exact fun h=>h)
 | [r1,r2],h1,_=>exact False.elim (by revert h1; cases r1 <;> cases r2 <;> exact fun h=>h)
 | .slot _ :: _ :: _ :: _,h1,_=>exact False.elim h1
 | .fresh _ :: _ :: _ :: _,h1,_=>exact False.elim h1
 | .val _ :: .slot _ :: _ :: _,h1,_=>exact False.elim h1
 | .val _ :: .fresh _ :: _ :: _,h1,_=>exact False.elim h1
 | .val _ :: .val _ :: .slot _ :: _,h1,_=>exact False.elim h1
 | .val _ :: .val _ :: .fresh _ :: _,h1,_=>exact False.elim h1
 | .val _ :: .val _ :: .val _ :: _ :: _,h1,_=>exact False.elim h1
end
end Vs
set_option maxRecDepth 100000
set_option maxHeartbeats 2000000
namespace Vs
open PySem PySem.Spec PyProof.Rows L2 Fw SX
section
variable {elt t0 i0 t1 i1:Expr} {f0 f1:List Expr} {scope:Scope} {pos:Pos} {it acc:Value} {env:PySem.Env}
end
theorem F9 {Y:Cx} {tg:Expr} {it:Addr} {fp:List Addr} {J:It} {tn:Nat→Heap→Prop} {pins:List (Addr × Obj)} {σ':L2.St} {i:Nat} {H':Hp} {hp:Heap} {s':Shared} (T:Turn Y.prog Y.w Y.K tg J fp it tn) (st:tn i hp) (I:Inv Y (pins ++ pinsAt fp hp) σ' H' s'):tn i s'.heap∧∀ b∈fp,H' b = none:=by
 have pin:∀ b∈fp,∀ o,hp.get? b = some o→s'.heap.get? b = some o∧H' b = none:=fun b hb o e=>by
  have z:=I.pin (b,o) (List.mem_append_right _ (List.mem_append_right _ (mem_pinsAt hb e)))
  exact ⟨z.1,z.2.1⟩
 refine ⟨T.keep _ _ _ st fun b hb o e=>(pin b hb o e).1,fun b hb=>?_⟩
 have ⟨o,e,_⟩:=T.obj _ _ st b hb
 exact (pin b hb o e).2
section
variable {Y:Cx} {elt t0 i0 t1 i1:Expr} {f0 f1:List Expr} {scope:Scope} {pos:Pos}
end
section
variable {X:Cx} {elt t0 i0 t1 i1:Expr} {f0 f1:List Expr} {scope:Scope} {own:List (Str × Nat)} {vs1:List Nat} {pos:Pos} {wi wi1:TI} {g g1:TG} {tt tt1:TT} {te:TE}
end
end Vs
set_option maxRecDepth 100000
set_option maxHeartbeats 2000000
namespace Vs
open PySem PySem.Spec PyProof.Rows L2 Fw SX
section
variable {g:Gm} {G H G1 H1 G2 H2:Hp} {σ σ1 σ2:L2.St} {e e1 e2:Ve} {vs is vs1:List Nat} {Da p:Addr} {L:List Str} {o:HO}
theorem SR.putS (sr:SR g G H σ e) (n:G p = none) (nr:∀ i,¬ Rt σ e i p) (h1:∀ o ps,H p = some o→o≠.tbl ps) (h2:∀ o ob u,H p = some o→o≠.frz ob u):SR g G (upd H p o) σ e:=by
 refine ⟨sr.bs.put n,sr.tabs.kept fun a ps z=>?_,sr.scr.keep fun ob u z=>?_,sr.len,fun i=>?_,sr.inj⟩
 ·rw [upd_ne fun y=>h1 _ ps (show H p = some (.tbl ps) by rw [← y]; exact z) rfl]; exact z
 ·rw [upd_ne fun y=>h2 _ ob _ (show H p = some (.frz ob _) by rw [← y]; exact z) rfl]; exact z
 ·have sl:=sr.slot i
  cases q:e[i]? with
  | none=>trivial
  | some s =>
   rw [q] at sl
   cases s with
   | un=>trivial
   | sh d=>exact sl
   | bf d=>exact sl
   | lo d =>
    obtain ⟨p',ev',n',ow⟩:=sl
    obtain ⟨ob,u,ho,_⟩:=ow.there
    exact ⟨p',ev',n',ow.mono (Le.refl G) (upd_ne fun z=>h2 _ ob u (show H p = some (.frz ob u) by rw [← z]; exact ho) rfl)⟩
   | ow d =>
    obtain ⟨p',ev',n',ow⟩:=sl
    exact ⟨p',ev',n',ow.mono (Le.refl G) (upd_ne fun z=>nr i ⟨by rw [q]; trivial,by rw [ev',z]⟩)⟩
   | bo d =>
    obtain ⟨p',ev',n',ow⟩:=sl
    exact ⟨p',ev',n',ow.mono (Le.refl G) (upd_ne fun z=>nr i ⟨by rw [q]; trivial,by rw [ev',z]⟩)⟩
theorem St.putS (t:St g G H σ e G1 H1 σ1 e1) (h0:H p = none) (n:G1 p = none) (nr:∀ i,¬ Rt σ1 e1 i p) (h1:∀ o ps,H1 p = some o→o≠.tbl ps) (h2:∀ o ob u,H1 p = some o→o≠.frz ob u):St g G H σ e G1 (upd H1 p o) σ1 e1 :=
 ⟨t.sr.putS n nr h1 h2,t.ln,t.le,fun a u h m nt=>by rw [upd_ne (ne_of_none h h0)]; exact t.keep a u h m nt,fun a h=>by
  by_cases z:a = p
  ·rw [z]; exact h0
  ·rw [upd_ne z] at h; exact t.dom a h,t.new,t.rts,t.rto,t.bor,t.bof,t.nlo⟩
theorem Ls.grow (l:Ls g G H σ e vs Da σ1 L G1 H1 e1) (gr:Grow G1 H1 G2 H2):Ls g G H σ e vs Da σ1 L G2 H2 e1 :=
 ⟨l.st.trans (gr.tr l.st.sr).st,l.vo,l.un,l.wp,gr.keep _ _ l.hD,gr.new _ l.nD (by rw [l.hD]; exact fun z=>nomatch z),l.nr⟩
theorem Ls.tr (l:Ls g G H σ e vs Da σ1 L G1 H1 e1) (t:Tr g σ1 G1 H1 e1 G2 H2 e2):Ls g G H σ e vs Da σ1 L G2 H2 e2:=by
 have at_:∀ (j:Nat) (s:Sl),e2[j]? = some s→∃ s0,e1[j]? = some s0∧SlLe s0 s:=fun j s h=>by
  have hl:j < e1.length:=by rw [← t.ve.len]; exact Bj h
  obtain ⟨s',h',le⟩:=t.ve.at_ j e1[j] (List.getElem?_eq_getElem hl)
  rw [h] at h'; cases h'
  exact ⟨_,List.getElem?_eq_getElem hl,le⟩
 refine ⟨l.st.trans t.st,l.vo.trans t.ve.off,fun j hj s h=>?_,l.wp,t.keep _ _ l.hD l.nr (fun ps z=>nomatch z),t.new _ l.nD (by rw [l.hD]; exact fun z=>nomatch z) l.nr,fun i r=>?_⟩
 ·obtain ⟨s0,h0,le⟩:=at_ j s h
  rcases l.un j hj s0 h0 with z | ⟨d',z⟩
  ·rw [z] at le; exact .inl le
  ·rw [z] at le; exact .inr ⟨d',le⟩
 ·obtain ⟨r1,r2⟩:=r
  cases q:e2[i]? with
  | none=>rw [q] at r1; exact r1
  | some s =>
   rw [q] at r1
   obtain ⟨s0,h0,le⟩:=at_ i s q
   exact l.nr i ⟨by rw [h0]; exact Oc le r1,r2⟩
theorem Ls.put (l:Ls g G H σ e vs Da σ1 L G1 H1 e1) (h0:H Da = none) (L':List Str):Ls g G H σ e vs Da σ1 L' G1 (upd H1 Da (Gr g.w Da L')) e1 :=
 ⟨l.st.putS h0 l.nD l.nr (fun o ps z=>by rw [l.hD] at z; cases z; exact fun y=>nomatch y) (fun o ob u z=>by rw [l.hD] at z; cases z; exact fun y=>nomatch y),l.vo,l.un,l.wp,upd_same,l.nD,l.nr⟩
theorem Ls.wiped (l:Ls g G H σ e vs Da σ1 L G1 H1 e1) (hv:∀ i∈vs1,i∈vs):Ls g G H σ e vs Da (wipe σ1 vs1) L G1 H1 (An e1 vs1):=by
 have un:∀ j∈vs,∀ s,(An e1 vs1)[j]? = some s→s = .un∨∃ d,s = .sh d:=fun j hj s h=>by
  by_cases hm:j∈vs1
  ·have hl:j < e1.length:=by rw [← Dq vs1]; exact Bj h
   rw [Hf hl hm] at h
   cases h; exact .inl rfl
  ·rw [C4 hm] at h
   exact l.un j hj s h
 refine ⟨l.st.wiped fun j hj=>⟨(fun d' z=>by rcases l.un j (hv j hj) _ z with y | ⟨_,y⟩ <;> cases y),(fun s fx z=>by rcases l.un j (hv j hj) _ z with y | ⟨_,y⟩ <;> rw [y] at fx <;> cases fx)⟩,
  l.vo.trans ⟨Dq vs1,fun j s n h=>⟨s,by rw [C4 fun z=>n (hv j z)]; exact h,SlLe.refl s⟩⟩,un,by rw [Xd hv,l.wp],l.hD,l.nD,fun i r=>?_⟩
 obtain ⟨r1,r2⟩:=r
 obtain ⟨h1,h2⟩:=wipe_some r2
 rw [C4 h2] at r1
 exact l.nr i ⟨r1,h1⟩
end
section
variable {g:Gm}
end
section
variable {g:Gm} {W:WX} {k:Nat} {X:Cx} {elt tg iter tg1 iter1:Expr} {ifs ifs1:List Expr} {scope:Scope} {own:List (Str × Nat)} {pos:Pos} {S S1:M (List D)} {F F1:D→M Unit} {is is1 vs1:List Nat} {T T1:M Bool} {E:M Rv}
end
end Vs
set_option maxRecDepth 100000
namespace Vs
open PySem PySem.Spec PyProof.Rows L2 Fw SX
section
variable {e:Ve} {E:M Rv} {S S1:M (List D)} {F F1:D→M Unit} {T T1:M Bool} {vs vs1:List Nat}
end
end Vs
set_option maxRecDepth 100000
set_option maxHeartbeats 2000000
namespace Vs
open PySem PySem.Spec PyProof.Rows L2 Fw SX PySem.W
section
variable {M:Model} {h:Heap} {K:PySem.W.Frag} {C:Addr}
end
section
variable {prog:Program} {w:World} {A:Around} {E:Value→Shared→Prop} {s:Shared} {K:PySem.W.Frag} {x C C2 f:Addr} {ox:Obj} {od:Option Obj} {b:Value}
end
section
variable {g:Gm} {W:WX} {k:Nat} {X:Cx}
end
end Vs
set_option maxRecDepth 100000
set_option maxHeartbeats 2000000
namespace PySem.W
open PySem PySem.Calls PyProof.Rows
section
variable {K:Frag} {A:Around} {E:Value→Shared→Prop} {s:Shared}
end
end PySem.W
namespace Vs
open PySem PySem.Spec PyProof.Rows L2 Fw SX
section
variable {X:Cx} {k:Nat} {f C:Addr} {sp:Sp} {ks:List Str} {E:L2.St→XK}
end
section
variable {g:Gm} {W:WX} {k:Nat} {X:Cx}
end
end Vs
set_option maxRecDepth 100000
set_option maxHeartbeats 2000000
namespace Vs
open PySem PySem.Spec PyProof.Rows L2 Fw SX
section
variable {X:Cx} {pins:List (Addr × Obj)} {s:Shared} {σ:L2.St} {H:Hp} {a:Addr} {ts:List (List Nat)} {Q:VK}
end
section
variable {g:Gm} {W:WX} {k:Nat} {X:Cx}
end
end Vs
set_option maxRecDepth 100000
set_option maxHeartbeats 2000000
namespace Vs
open PySem PySem.Spec PyProof.Rows L2 Fw SX
section
variable {g:Gm} {W:WX} {k:Nat} {X:Cx} {x:Str} {i:Nat} {ex ey:Expr} {A:M (List Rv)} {p apos cpos:Pos}
end
section
variable {g:Gm} {W:WX} {k:Nat} {X:Cx} {ex:Expr} {es:List Expr} {A:M (List Rv)} {p pos:Pos}
end
section
variable {g:Gm} {W:WX} {k:Nat} {X:Cx} {ex:Expr} {es:List Expr} {A:M (List Rv)} {p pos:Pos}
end
end Vs
set_option maxRecDepth 100000
set_option maxHeartbeats 2000000
namespace Vs
open PySem PySem.Spec PyProof.Rows L2 Fw SX
end Vs
set_option maxRecDepth 100000
namespace Vs
open PySem PySem.Spec PyProof.Rows L2 Fw SX
section
variable {e:Ve}
end
open He
end Vs
set_option maxRecDepth 100000
set_option maxHeartbeats 2000000
namespace Vs
open PySem PySem.Spec PyProof.Rows L2 Fw SX
section
variable {g:Gm} {G H G1 H1:Hp} {σ σ1:L2.St} {e e1:Ve} {d p:Addr} {vs:List V} {od:Obj} {i:Nat} {kvs:List D}
end
section
variable {g:Gm} {W:WX} {k:Nat} {X:Cx} {elt tg:Expr} {ifs:List Expr} {scope:Scope} {own:List (Str × Nat)} {pos p:Pos} {F:D→M Unit} {is:List Nat} {T:M Bool} {E:M Rv} {i:Nat} {x:Str}
end
section
variable {e:Ve} {i:Nat} {F:D→M Unit} {T:M Bool} {E:M Rv} {vs:List Nat}
end
end Vs
set_option maxRecDepth 100000
namespace Vs
open PySem PySem.Spec PyProof.Rows L2 Fw SX
section
variable {e:Ve}
def X6 (T:Str→Option (List Sl→Res Rv)):Rv→Ve→Res Rv
 | .val (.ins c fs),e=>obn (T c) fun F=>lenRR (A5 F [.val (.ins c fs)] e)
 | _,_=>.no
theorem Akf {T:Str→Option (List Sl→Res Rv)} {c:Str} {fs:List (Str × D)}:X6 T (.val (.ins c fs)) e = obn (T c) fun F=>lenRR (A5 F [.val (.ins c fs)] e):=rfl
theorem Akg {T:Str→Option (List Sl→Res Rv)} {A:M Rv}:Pq T A e = (Ad A e).bnd (X6 T):=by
 unfold Pq M.bind Res.bnd
 cases Ad A e with
 | no=>rfl
 | er x e1=>rfl
 | ok a e1 =>
  cases a with
  | slot _=>rfl
  | fresh _=>rfl
  | val d =>
   cases d <;> try rfl
   rename_i c fs
   show (match T c with | some F=>_ | none=>_) = obn (T c) _
   cases T c <;> rfl
theorem Akh {n:Nat} {e:Ve} (h:n < 1000000000):lenRR (.ok (.val (.int (n:Int))) e) = .ok (.val (.int (n:Int))) e:=by
 unfold lenRR
 simp only
 rw [if_pos ⟨by omega,by omega⟩]
def inIR (T:Str→Option (List Sl→Res Rv)) (neg:Bool):Rv→Rv→Ve→Res Rv
 | .val d,.val (.ins c fs),e=>obn (T c) fun F=>boolRR neg (A5 F [.val (.ins c fs),.val d] e)
 | _,_,_=>.no
theorem Aki {T:Str→Option (List Sl→Res Rv)} {neg:Bool} {d:D} {c:Str} {fs:List (Str × D)}:inIR T neg (.val d) (.val (.ins c fs)) e = obn (T c) fun F=>boolRR neg (A5 F [.val (.ins c fs),.val d] e):=rfl
theorem Akj {T:Str→Option (List Sl→Res Rv)} {neg:Bool} {A B:M Rv}:Jm T neg A B e = (Ad A e).bnd fun a e1=>(Ad B e1).bnd fun b e2=>inIR T neg a b e2:=by
 unfold Jm M.bind Res.bnd
 cases Ad A e with
 | no=>rfl
 | er x e1=>rfl
 | ok a e1 =>
  simp only
  cases Ad B e1 with
  | no=>rfl
  | er x e2=>rfl
  | ok b e2 =>
   simp only
   cases a <;> cases b <;> try rfl
   rename_i d d2
   cases d2 <;> try rfl
   rename_i c fs
   show (match T c with | some F=>_ | none=>_) = obn (T c) _
   cases T c <;> rfl
theorem Akk {neg b:Bool} {e:Ve}:boolRR neg (.ok (.val (.bl b)) e) = .ok (.val (.bl (if neg then !b else b))) e:=rfl
end
end Vs
set_option maxRecDepth 100000
namespace Vs
open PySem PySem.Spec PyProof.Rows L2 Fw SX
section
variable {e:Ve} {y:Str} {outs:List Str} {i:Nat} {F:List (Str × D)→Option (List D)} {B:M Ctl} {xs:List (Str × D)}
end
end Vs
set_option maxRecDepth 100000
set_option maxHeartbeats 2000000
namespace NeL
open PySem PySem.SeqAt
open AutoSeq1 (wpAny_loadPart')
open MeetsSeq MeetsSeq2 MeetsSeq3 SeqRoads2
section
variable {prog:Program} {w:World} {A:Around} {R:Result→Shared→Prop} {l b:Addr} {N:Nat} {I:Nat→Shared→Prop}
theorem turns (hl:GQ.ListI prog w A (fun e s'=>R (.error e) s') l b N I) (fin:∀ s,I N s→R (.ok (.ret (.bool false))) s):∀ (left i:Nat),i + left = N→∀ s,I i s →
  wpAny (model prog w) A.in1 (Builtin.«list.__eq__.loop» ⟨[.ref l,.ref b,rawInt i,rawInt 3],[]⟩) (GQ.FinOf prog w A R) (fun e s'=>R (.error e) s') s
 | 0,i,hi,s,h=>by
  obtain ⟨us,ws,n,n2,hu,hw,zu,zw,_⟩:=hl i s h
  have done:R (.ok (.ret (.bool false))) s:=fin s (by rw [← hi]; exact h)
  have no1:us[((i:Nat):Int).toNat]? = none:=by simp; omega
  have no2:ws[((i:Nat):Int).toNat]? = none:=by simp; omega
  obtain ⟨hp,gg,dd,tk,os⟩:=s
  wp_walk using wpAny_loadPart' hu,wpAny_loadPart' hw
  rw [no1,no2]
  wp_walk using wpAny_loadPart' hu,wpAny_loadPart' hw
  show R (.ok (.ret (.bool (us.size != ws.size)))) _
  rw [zu,zw,bne_self_eq_false]
  exact done
 | left + 1,i,hi,s,h=>by
  obtain ⟨us,ws,n,n2,hu,hw,zu,zw,one⟩:=hl i s h
  have l1:i < us.size:=by omega
  have l2:i < ws.size:=by omega
  have it1:us[((i:Nat):Int).toNat]? = some us[i]:=by simp [l1]
  have it2:ws[((i:Nat):Int).toNat]? = some ws[i]:=by simp [l2]
  have up:((i:Int) + 1) = ((i + 1:Nat):Int):=by omega
  have at_i:=one l1 l2
  have more:=turns hl fin left (i + 1) (by omega)
  obtain ⟨hp,gg,dd,tk,os⟩:=s
  wp_walk using wpAny_loadPart' hu,wpAny_loadPart' hw
  rw [it1,it2]
  refine wpAny_bind (wpAny_mono at_i (fun r s2 ⟨er,h2⟩=>?_) fun _ _ z=>z)
  subst er
  have next:=more s2 h2
  obtain ⟨hp2,g2,d2,tk2,os2⟩:=s2
  wp_walk
  rw [up]
  exact ⟨plainId_quiet plain_eq_loop _,codeAny_builtin entry_eq_loop (by
   rw [Around.under_plainId plain_eq_loop _]; exact next)⟩
end
section
variable {prog:Program} {w:World} {A:Around} {E:Value→Shared→Prop} {s:Shared} {l b:Addr} {N:Nat} {Q:Value→Shared→Prop}
end
end NeL
namespace Vs
open PySem PySem.Spec PyProof.Rows L2 Fw SX NdefX
section
variable {g:Gm} {G H:Hp}
end
section
variable {g:Gm} {W:WX} {k:Nat} {X:Cx} {T:Str→Option (List Sl→Res Rv)} {ts:List Str} {j:Nat}
end
end Vs
set_option maxRecDepth 100000
namespace Vs
open PySem PySem.Spec PyProof.Rows L2 Fw SX
section
variable {e e1 e2:Ve} {T:Str→Option (List Sl→Res Rv)} {ts:List Str} {A B:M Rv} {xs ys:List D}
end
end Vs
set_option maxRecDepth 100000
set_option maxHeartbeats 2000000
namespace Fw
open PySem PySem.Spec PyProof.Rows L2
section
variable {P:Program} {w:World} {A:Around} {E:Value→Shared→Prop} {s:Shared}
set_option maxHeartbeats 4000000 in
end
end Fw
namespace Vs
open PySem PySem.Spec PyProof.Rows L2 Fw SX
section
variable {g:Gm} {W:WX} {k:Nat} {X:Cx} {ex:Expr} {A:M (List Rv)} {p p2 pos pos2:Pos}
def lstR (r:Rv) (e:Ve):Res Rv:=match r with
 | .val (.int j)=>if 0≤j∧j≤16777216 then .ok (.fresh (.lst (Bg 0 j.toNat))) e else .no
 | _=>.no
theorem Reps.rng {G:Hp} (n:Nat):Reps g G (Bg 0 n) (rgV 0 (n:Int)):=by
 have a:Bg 0 n = ((List.range n).map fun (i:Nat)=>(0 + (i:Int))).map .int:=by unfold Bg; rw [List.map_map]; rfl
 have b:rgV 0 (n:Int) = ((List.range n).map fun (i:Nat)=>(0 + (i:Int))).map V.int:=by
  unfold rgV
  rw [List.map_map,Int.sub_zero,Int.toNat_natCast]
  rfl
 rw [a,b]
 exact Reps.ints _
end
end Vs
set_option maxRecDepth 100000
namespace Vs
open PySem PySem.Spec PyProof.Rows L2 Fw SX
section
variable {e e1:Ve} {A:M Rv} {j:Int}
end
end Vs
set_option maxRecDepth 100000
set_option maxHeartbeats 2000000
namespace Vs
open PySem PySem.Spec PyProof.Rows L2 Fw SX NdefX
inductive ClzOk (X:Cx):List ExceptHandler→List Clz→Prop
 | nil:ClzOk X [] []
 | cons {x n:Str} {c:Value} {i:Nat} {ts:Addr→Value→Option Addr→TS} {s0:Stmt} {ss:List Stmt} {np ph:Pos} {hds:List ExceptHandler} {l:List Clz} (hi:X.N[i]? = some n) (hln:X.env.kindOf n = some .local) (hc:Names X x c)
   (run:∀ (a:Addr) (ob:Obj) (cls:Value) (d:Option Addr) (pn:List (Addr × Obj)),Zc cls d ob→(∃ vs,ob.data = .fields vs)→PSs (X.suite a ((a,ob) :: pn)) (s0 :: ss) (ts a cls d)) (r:ClzOk X hds l) :
   ClzOk X (.ExceptHandler (some (.Name x np)) (some n) (s0 :: ss) ph :: hds) ((c,i,ts) :: l)
section
variable {X:Cx} {pins:List (Addr × Obj)} {σ':L2.St} {H':Hp} {sI s':Shared} {D:Ends} {a:Addr} {B h3:Heap} {cls:Value} {d:Option Addr} {W0:WX}
end
section
variable {X:Cx} {body:List Stmt} {h0:ExceptHandler} {hds:List ExceptHandler} {l:List Clz} {pos:Pos} {tb:WX→TS} {W0:WX}
end
end Vs
set_option maxRecDepth 100000
set_option maxHeartbeats 2000000
namespace Vs
open PySem PySem.Spec PyProof.Rows L2 Fw SX NdefX
section
variable {X:Cx} {pins:List (Addr × Obj)} {σ:L2.St} {H:Hp} {s:Shared} {P c:Addr} {params:Arguments} {body:Expr} {scope:Scope} {pos:Pos}
end
theorem OutOk.grow {g:Gm} {G H G1 H1:Hp} {r:Rv} {Q:VK} (o:OutOk g G H r Q) (w:Grow G H G1 H1):OutOk g G1 H1 r Q:=fun G2 H2 v gr nw=>o G2 H2 v (w.trans gr) (by
 cases r with
 | val d=>exact nw
 | fresh d =>
  obtain ⟨p,e,n,ow,h0⟩:=nw
  exact ⟨p,e,n,ow,w.dom p h0⟩
 | slot i=>exact nw.elim)
section
variable {P:Program} {w:World} {K:PySem.W.Frag} {mg:Str→Option Value} {base:Heap} {ca:Str→Addr} {Tb:LT} {sa:Addr} {sn:List Int} {x a:Str} {pg:Arguments} {bg rest:List Stmt} {sg:Scope} {gad:Addr} {fd:FuncData} {Ng:List Str} {tst:Stmt} {h0:ExceptHandler} {hds:List ExceptHandler} {tp p1 p2:Pos}
 {okF:D→Option Rv} {erF:Exn→Option Rv} {tA:TE→TS} {sto:V→L2.St→L2.St} {tR:TS} {l:List Clz}
end
section
variable {g:Gm} {W:WX} {k:Nat} {X:Cx} {okF:D→Option Rv} {erF:Exn→Option Rv}
end
end Vs
set_option maxRecDepth 100000
set_option maxHeartbeats 2000000
namespace Vs
open PySem PySem.Spec PyProof.Rows L2 Fw SX NdefX
section
variable {P:Program} {w:World} {K:PySem.W.Frag} {mg:Str→Option Value} {base:Heap} {ca:Str→Addr} {Tb:LT} {sa:Addr} {sn:List Int} {x a:Str} {pg:Arguments} {bg:List Stmt} {sg:Scope} {gad:Addr} {fd:FuncData} {Ng:List Str} {h0:ExceptHandler} {hds:List ExceptHandler} {tp p1 p2 p3 p4 p5 p6 p7 p8:Pos}
end
end Vs
set_option maxRecDepth 100000
set_option maxHeartbeats 2000000
namespace Vs
open PySem PySem.Spec PyProof.Rows L2 Fw SX NdefX
section
variable {X:Cx} {pins:List (Addr × Obj)} {σ:L2.St} {H:Hp} {s:Shared}
end
section
variable {X:Cx}
end
section
variable {g:Gm} {G H:Hp}
end
section
variable {g:Gm} {W:WX} {k:Nat} {X:Cx}
end
end Vs
set_option maxRecDepth 100000
namespace Vs
open PySem PySem.Spec PyProof.Rows L2 Fw SX
section
variable {okF:D→Option Rv} {erF:Exn→Option Rv} {B:M Rv} {e e1:Ve}
end
end Vs
set_option maxRecDepth 100000
set_option maxHeartbeats 2000000
namespace Vs
open PySem PySem.Spec PyProof.Rows L2 Fw SX
def ItX (it:Addr):HO:=.ext fun h=>∃ o,h.get? it = some o
theorem Akl {P:Program} {w:World} {H:Hp} {h:Heap} {it:Addr} {o:Obj} (e:h.get? it = some o):ObjOk P w H h it (ItX it) :=
 ⟨⟨o,e⟩,⟨o,e⟩,fun _ _ q k=>by obtain ⟨o,ho⟩:=q; exact ⟨o,k o ho⟩⟩
section
variable {prog:Program} {w:World} {A:Around} {E:Value→Shared→Prop} {s:Shared}
theorem W8 {it t:Addr} {i:Nat} {items:Array Value} {Q:Option Value→Shared→Prop} (hh:A.handled = none)
  (hit:s.heap.IsTupleIter it t i) (ht:s.heap.IsTuple t items) (hx:items[i]? = none)
  (hQ:∀ h1 h' o,h1.get? it = some o→Heap.SameBut it s.heap h1→(∀ b o,h1.get? b = some o→h'.get? b = some o)→Q none { s with heap:=h' }):wpAny (model prog w) A (pyNext (.ref it)) Q E s:=by
 obtain ⟨o,ho,hc,hd⟩:=id hit
 obtain ⟨ol,hol,_,nl,hdl⟩:=ht
 unfold pyNext
 refine wpAny_bind (wpAny_attempt (wpAny_callSpecial?_slot (name:=Str.ofString "__next__") hit.typeIs PySem.F.slot_tuple_iterator_next
  (wpAny_call_entry PySem.F.slot_tuple_iterator_next hit.typeIs PySem.F.entry_tuple_iterator_next ?_ (PySem.F.args_tuple_iterator_next_1 _))))
 show wpAny _ _ (field (.ref it) 0 >>= _) _ _ s
 refine wpAny_bind (wpAny_field ho hd (x:=.ref t) rfl ?_)
 show wpAny _ _ (if (Value.ref t == Value.none) = true then _ else _) _ _ s
 rw [if_neg (show ¬ ((Value.ref t == Value.none) = true) from Bool.false_ne_true)]
 show wpAny _ _ (field (.ref it) 1 >>= _) _ _ s
 refine wpAny_bind (wpAny_field ho hd (x:=.int i 0) rfl ?_)
 show wpAny _ _ (seqItems? (.ref t) >>= _) _ _ s
 refine wpAny_bind (wpAny_seqItems hol hdl ?_)
 simp only [Int.toNat_natCast,hx]
 refine wpAny_bind (wpAny_rule (wpAny_bind (wpAny_setField ho hd (by simp) ?_)))
 show wpAny _ _ (newExc (.type "StopIteration") [] >>= _) _ _ _
 refine wpAny_bind ?_
 simp only [newExc,newTuple]
 refine wpAny_bind (wpAny_newObj_type ?_ (by size_fits))
 refine wpAny_bind (m:=firstArgMember _ _) (wpAny_of_eq (a:=Value.none) (by first | rfl | (simp only [firstArgMember]; rfl)) ?_)
 refine wpAny_newObj_type ?_ (by size_fits)
 simp only [raiseNew]
 refine wpAny_bind (wpAny_handled ?_)
 first | rw [show A.in1.handled = none from hh] | rw [hh]
 refine wpAny_bind (wpAny_pure (wpAny_throw ?_))
 refine wpAny_bind (wpAny_isInstance (T:="StopIteration") (b:=true) ⟨_,Heap.get?_push_size _ rfl,rfl⟩ isSubtype_stop ?_)
 exact wpAny_pure (hQ _ _ _ (Heap.get?_update_self _ ho (Obj.isFreed_of_fields (Obj.data_mapFields hd _))) (Heap.SameBut.update ..) fun b o e=>Heap.get?_push_of_some _ (Heap.get?_push_of_some _ e))
end
section
open PySem.W
variable {M:Model} {A:Around} {E:Value→Shared→Prop} {s:Shared} {K:PySem.W.Frag} {x C f:Addr} {ox:Obj} {od:Option Obj}
theorem Akm {Q:Bool→Shared→Prop} (X:K.In s.heap) (J:InstAt s.heap x ox C od) (hs:findIn K (.ref C) "__len__" = some (some (.ref f)))
  (h:wpAny M A (call (.builtin "len") [.ref x]) (fun r s'=>∃ (n:Int) (u:Tok),r = .int n u∧n.toNat≤sizeLine∧Q (n != 0) s') (fun _ _=>False) s):wpAny M A (Builtin.List.listLengthHint (.ref x)) Q E s:=by
 unfold Builtin.List.listLengthHint
 refine wpAny_bind (wpAny_bind (J.type.here ((looks_findIn X hs).here ?_)))
 refine PySem.W.KFB.if_not rfl ?_
 refine PySem.W.KFB.if_so rfl ?_
 refine wpAny_bind (wpAny_rule ?_)
 refine wpAny_bind (wpAny_attempt (wpAny_mono h (fun r s' hr=>?_) fun e s' he=>?_))
 ·obtain ⟨n,u,rfl,hz,q⟩:=hr
  show wpAny M A (asInt? (Value.int n u) >>= _) Q E s'
  refine wpAny_bind (wpAny_of_eq (a:=some n) (by rfl) ?_)
  refine PySem.W.KFB.if_not (decide_eq_false (by omega)) ?_
  exact wpAny_pure q
 ·exact he.elim
end
section
variable {X:Cx} {pins:List (Addr × Obj)} {σ:L2.St} {A1:Around} {Rs:Result→Shared→Prop} {l it q:Addr} {zs:List V} {H0:Hp}
end
section
variable {X:Cx} {pins:List (Addr × Obj)} {σ:L2.St} {H:Hp} {s:Shared} {A1:Around} {Rs:Result→Shared→Prop} {k:Nat} {p q C dx l fi fl:Addr} {us:List (Str × V)} {f:Str} {zs:List V} {sp:Sp} {Q:VK}
end
section
variable {X:Cx} {k:Nat}
end
section
variable {X:Cx}
end
section
variable {g:Gm} {G H:Hp} {σ:L2.St} {e:Ve} {p:Addr}
theorem SR.putU {o o0:HO} (s:SR g G H σ e) (hg:G p = none) (h0:H p = some o0) (n1:∀ ob u,o0≠.frz ob u) (n2:∀ ps,o0≠.tbl ps) (nr:∀ i,¬ Rt σ e i p):SR g G (upd H p o) σ e:=by
 refine ⟨s.bs.put hg,s.tabs.kept fun a ps ea=>?_,s.scr.keep fun ob u ea=>?_,s.len,fun i=>?_,s.inj⟩
 ·rw [upd_ne (fun z=>by rw [z,h0] at ea; exact n2 _ (Option.some.inj ea))]; exact ea
 ·rw [upd_ne (fun z=>by rw [z,h0] at ea; exact n1 _ _ (Option.some.inj ea))]; exact ea
 ·have k:=s.slot i
  have nr:=nr i
  unfold Rt at nr
  revert k nr
  cases e[i]? with
  | none=>exact fun k _=>k
  | some x =>
   cases x with
   | un=>exact fun k _=>k
   | sh d=>exact fun k _=>k
   | bf d=>exact fun k _=>k
   | ow d =>
    intro ⟨p',ep,gn,ow⟩ nr
    have np:p'≠p:=fun z=>nr ⟨trivial,by rw [ep,z]⟩
    exact ⟨p',ep,gn,ow.mono (Le.refl G) (upd_ne np)⟩
   | bo d =>
    intro ⟨p',ep,gn,ow⟩ nr
    have np:p'≠p:=fun z=>nr ⟨trivial,by rw [ep,z]⟩
    exact ⟨p',ep,gn,ow.mono (Le.refl G) (upd_ne np)⟩
   | lo d =>
    intro ⟨p',ep,gn,ow⟩ nr
    obtain ⟨ob,u,hu,_⟩:=ow.there
    have np:p'≠p:=fun z=>by rw [z,h0] at hu; exact n1 _ _ (Option.some.inj hu)
    exact ⟨p',ep,gn,ow.mono (Le.refl G) (upd_ne np)⟩
end
def Jn (ds:List D):Res Rv→Res Rv
 | .ok (.val (.int i)) e=>if 0≤i∧i≤1000000 then .ok (.fresh (.lst ds)) e else .no
 | _=>.no
section
variable {g:Gm} {W:WX} {k:Nat} {X:Cx} {σ:L2.St} {G H G1 H1:Hp} {e e1:Ve} {Q:VK}
end
def ItmD (P:Program) (mg:Str→Option Value) (base:Heap) (g:Gm) (j:Nat) (T:Str→Option (List Sl→Res Rv)):Prop :=
 ∀ c F,T c = some F→∃ f,PySem.W.findIn g.K (.ref (g.ca c)) "__getitem__" = some (some (.ref f))∧PySem.W.fnIn g.K f = true∧PySem.W.isFn g.K (.ref f) = true∧FnK P g.w g.K mg base (L2.CX P g.w) j f [] (spR g F)
def valRR:Res Rv→Res Rv
 | .ok (.val d) e=>.ok (.val d) e
 | _=>.no
def Nm (T:Str→Option (List Sl→Res Rv)) (A B:M Rv):M Rv:=(Ad A).bind fun a=>(Ad B).bind fun b e=>match a,b with
 | .val (.ins c fs),.val d=>(match T c with
  | some F=>valRR (A5 F [.val (.ins c fs),.val d] e)
  | none=>.no)
 | _,_=>.no
def X7 (b:Expr):Prop:=∀ o i,subscripted b true o i = runValue (.builtin "lifetime.subscript" ⟨[o,i],[]⟩)
def tItmO (P:Program) (w:World) (K:PySem.W.Frag) (mg:Str→Option Value) (base:Heap) (k:Nat) (ta tb:TE):TE:=fun σ H Q=>ta σ H fun x H1=>tb σ H1 fun y H2=>∃ (p C dx:Addr) (fs:List (Str × V)) (f:Addr) (sp:Sp),x = .ref p∧H2 p = some (.ins C dx fs)∧PySem.W.findIn K (.ref C) "__getitem__" = some (some (.ref f))∧PySem.W.fnIn K f = true∧PySem.W.isFn K (.ref f) = true ∧
 FnK P w K mg base (L2.CX P w) k f [] sp∧sp [.ref p,y] H2 Q (fun _ _ _=>False)
section
variable {g:Gm} {W:WX} {k:Nat} {X:Cx}
theorem Akn {a b:Expr} {ta tb:TE} {pos:Pos} (rm:Rm (k + 1) X.A) (ha:PE X a ta) (hb:PE X b tb) (hs:X7 b):PE X (.Subscript a b pos) (tItmO X.prog X.w X.K X.mg X.base k ta tb):=by
 refine ⟨fun pins s σ H Q I h=>?_⟩
 refine Subscript_ (thn (ha.run pins s σ H _ I h) fun v s1 ⟨x,H1,I1,rx,h1⟩=>thn (hb.run pins s1 σ H1 _ I1 h1) fun u s2 ⟨y,H2,I2,ry,h2⟩=>?_)
 obtain ⟨p,C,dx,fs,f,sp,rfl,hp,q1,q2,q3,Fk,hq⟩:=h2
 cases rx
 obtain ⟨mA,J,_⟩:=ins_get I2.hok hp
 obtain ⟨od,J,_⟩:=J.look
 obtain ⟨m0,hF⟩:=I2.fr
 refine PySem.W.sub_K hF I2.ok.mod.kin J q1 q2 q3 ?_ (hs _ _)
 have e:=I2.env0
 have e0:Env0 X.prog X.w X.K X.mg X.base X.A.in1 X.stack s2 H2:=⟨e.frames,e.mod,e.bs,e.bsz,e.funs,e.frf,e.hok,e.bare⟩
 refine wpAny_call (codeAny_mono (Fk X.A.in1 X.stack s2 H2 [.ref p,u] [] [.ref p,y] [] Q (fun _ _ _=>False) rm.in1 e0 (.cons rfl (.cons ry .nil)) .nil rfl (by rw [List.append_nil]; exact hq)) fun res s' z=>?_)
 match res,z with
 | .error e,z =>
  obtain ⟨_,_,_,_,_,_,_,_,_,_,_,_,hE⟩:=z
  exact hE.elim
 | .ok .next,z=>exact False.elim z
 | .ok .brk,z=>exact False.elim z
 | .ok .cont,z=>exact False.elim z
 | .ok (.ret w'),z=>exact I2.after z
theorem Pst.valRR {σ:L2.St} {G H:Hp} {e:Ve} {Q:VK} {r:Res Rv} (h:Pst g W σ G H e (fun r G' H' e'=>∀ v,RvOk g G' H' σ e' H r v→Q v H') (valRR r)):Pst g (fun _ _ _ _=>False) σ G H e (fun r G' H' e'=>∀ v,RvOk g G' H' σ e' H r v→Q v H') r:=by
 match r,h with
 | .ok (.val d) e',h=>exact h
 | .no,h=>exact h
 | .er _ _,h=>exact h.elim
 | .ok (.slot _) _,h=>exact h.elim
 | .ok (.fresh _) _,h=>exact h.elim
theorem X8 {T:Str→Option (List Sl→Res Rv)} {j:Nat} {a b:Expr} {A B:M Rv} {pos:Pos} (tab:ItmD X.prog X.mg X.base g j T) (hj:j + 1≤k) (ha:VE g W k X a A) (hb:VE g W k X b B) (hs:X7 b:=by intro _ _; rfl):VE g W k X (.Subscript a b pos) (Nm T A B):=by
 refine ⟨fun c=>?_⟩
 obtain ⟨gK,gw,ca,gT,gs,gn⟩:=g
 obtain rfl:X.K = gK:=c.K
 obtain rfl:X.w = gw:=c.w
 refine PE.imp (Akn (c.room.mono hj) ((Ar ha).run c) ((Ar hb).run c) hs) fun σ H Q ⟨G,e,sr,h⟩=>?_
 refine ⟨G,e,sr,Pst.mono (Pst.bind0 h) fun r G1 H1 e1 t1 h1 x ok1=>⟨G1,e1,t1.sr,Pst.mono (Pst.bindS t1 h1) fun r2 G2 H2 e2 t2 h2 y ok2=>?_⟩⟩
 cases r with
 | slot _=>exact h2.elim
 | fresh _=>exact h2.elim
 | val d =>
  cases r2 with
  | slot _=>cases d <;> exact h2.elim
  | fresh _=>cases d <;> exact h2.elim
  | val d2 =>
   cases d with
   | ins c' fs =>
    simp only at h2
    cases qT:T c' with
    | none=>rw [qT] at h2; exact h2.elim
    | some F =>
     rw [qT] at h2
     simp only at h2
     obtain ⟨f,f1,f2,f3,f4⟩:=tab c' F qT
     have ok1:Rep _ G1 (.ins c' fs) x:=ok1
     have ok1':Rep _ G2 (.ins c' fs) x:=ok1.mono t2.le
     have ok2:Rep _ G2 d2 y:=ok2
     obtain ⟨p,dx,us,ev,ha,rf,io⟩:=id ok1'
     refine ⟨p,ca c',dx,us,f,_,ev,t2.sr.bs.at_ ha rfl,f1,f2,f3,f4,?_⟩
     rw [← ev]
     exact F0 (W:=fun _ _ _ _=>False) sr (t1.trans t2) (rs:=[.val (.ins c' fs),.val d2]) ⟨x,[y],rfl,ok1',⟨y,[],rfl,ok2,rfl,fun d p z=>nomatch z⟩,fun d p z=>nomatch z⟩ (Pst.valRR h2)
   | _=>exact h2.elim
end
end Vs
set_option maxRecDepth 100000
namespace Vs
open PySem PySem.Spec PyProof.Rows L2 Fw SX
section
variable {g:Gm} {W:WX} {k:Nat} {X:Cx} {o ex:Expr} {O:M Rv} {A:M (List Rv)} {apos cpos:Pos}
end
section
variable {g:Gm} {W:WX} {k:Nat} {X:Cx} {ex:Expr} {es:List Expr} {A:M (List Rv)} {p pos:Pos}
end
end Vs
set_option maxRecDepth 100000
namespace Vs
open PySem PySem.Spec PyProof.Rows L2 Fw SX
theorem FunD.isFnIn {K:PySem.W.Frag} {x qual:Str} {params:Arguments} {body:List Stmt} {scope:Scope} {dvs:List V} {kws:List (Str × V)} {f:Addr} {fd:FuncData} (F:FunD K x qual params body scope dvs kws f fd):PySem.W.fnIn K f = true:=by
 obtain ⟨oc,od,dV,kV,doc,pm,an,cdv,ct,osl,rfl,lk,hcd,_,_⟩:=F.ex
 unfold PySem.W.fnIn
 rw [lk]
section
variable {e:Ve}
theorem Ako {n:Nat} {ds:List D} (h:n≤1000000):Jn ds (.ok (.val (.int (n:Int))) e) = .ok (.fresh (.lst ds)) e:=by
 unfold Jn
 simp only
 rw [if_pos ⟨by omega,by omega⟩]
def X9 (T:Str→Option (List Sl→Res Rv)):Rv→Rv→Ve→Res Rv
 | .val (.ins c fs),.val d,e=>obn (T c) fun F=>valRR (A5 F [.val (.ins c fs),.val d] e)
 | _,_,_=>.no
theorem Akp {T:Str→Option (List Sl→Res Rv)} {d:D} {c:Str} {fs:List (Str × D)}:X9 T (.val (.ins c fs)) (.val d) e = obn (T c) fun F=>valRR (A5 F [.val (.ins c fs),.val d] e):=rfl
theorem Akq {T:Str→Option (List Sl→Res Rv)} {A B:M Rv}:Nm T A B e = (Ad A e).bnd fun a e1=>(Ad B e1).bnd fun b e2=>X9 T a b e2:=by
 unfold Nm M.bind Res.bnd
 cases Ad A e with
 | no=>rfl
 | er x e1=>rfl
 | ok a e1 =>
  simp only
  cases Ad B e1 with
  | no=>rfl
  | er x e2=>rfl
  | ok b e2 =>
   simp only
   cases a <;> cases b <;> try rfl
   ·rename_i d d2
    cases d <;> try rfl
    rename_i c fs
    show (match T c with | some F=>_ | none=>_) = obn (T c) _
    cases T c <;> rfl
   all_goals (rename_i d d2; cases d <;> rfl)
theorem Akr {d:D}:valRR (.ok (.val d) e) = .ok (.val d) e:=rfl
end
end Vs
set_option maxRecDepth 100000
namespace Vs
open PySem PySem.Spec PyProof.Rows L2 Fw SX
section
variable {g:Gm} {W:WX} {k:Nat} {X:Cx}
end
section
variable {e:Ve}
end
end Vs
set_option maxRecDepth 100000
set_option maxHeartbeats 2000000
namespace Vs
open PySem PySem.Spec PyProof.Rows L2 Fw SX
def brk (c:Nat):List Nat→List Nat × List Nat × List Nat
 | []=>([],[],[])
 | x :: r=>if x = c then ([],[c],r) else (x :: (brk c r).1,(brk c r).2.1,(brk c r).2.2)
section
variable {g:Gm} {W:WX} {k:Nat} {X:Cx} {o ex:Expr} {O:M Rv} {A:M (List Rv)} {apos cpos:Pos}
end
end Vs
set_option maxRecDepth 100000
set_option maxHeartbeats 2000000
namespace Vs
open PySem PySem.Spec PyProof.Rows L2 Fw SX He
def CfS (P:Program) (mg:Str→Option Value) (base:Heap) (g:Gm) (x m:Str) (j:Nat) (F:List Sl→Res Rv):Prop :=
 ∃ C f p mc rest,mg x = some (.ref C)∧ClX.CRead g.K C mc∧PySem.W.findCls g.K (.ref C) mc m = some (.get (.builtin "staticmethod.__get__") (.ref p) .none (.ref C))∧PySem.W.recIn g.K p "staticmethod" = some (.ref f :: rest)∧PySem.W.keepIn g.K (.ref f) = true∧FnK P g.w g.K mg base (L2.CX P g.w) j f [] (spR g F)
section
variable {X:Cx} {k:Nat} {sp:Sp} {E:L2.St→XK}
def CsmT (X:Cx) (x m:Str) (k:Nat) (sp:Sp):Prop:=∃ C f p mc rest,X.mg x = some (.ref C)∧ClX.CRead X.K C mc∧PySem.W.findCls X.K (.ref C) mc m = some (.get (.builtin "staticmethod.__get__") (.ref p) .none (.ref C))∧PySem.W.recIn X.K p "staticmethod" = some (.ref f :: rest)∧PySem.W.keepIn X.K (.ref f) = true∧FnK X.prog X.w X.K X.mg X.base (L2.CX X.prog X.w) k f [] sp
theorem Aks {pl:Sem Bool} {x m:Str} {ex:Expr} {es:List Expr} {t:TA} {p apos pos:Pos} (d:CsmT X x m k sp) (rm:Rm k X.A) (px:∀ σ,PassesAt (L2.CX X.prog X.w) X σ (E σ)) (hg:Gl X x) (ha:PA X (ex :: es) t) (hdb:(x == ("__debug__" : Str)) = false:=by decide)
  (hst:starEach (ex :: es) X.env = (false,eval ex X.env) :: starEach es X.env:=by rfl) (hpl:(backTo pos (starEach es X.env)).any (·.1) = false:=by rfl)
  (ht:eval (.Call (.Attribute (.Name x p) m apos) (ex :: es) [] pos) X.env = (do
   let ov ← eval (.Name x p) X.env
   standAt apos.atName
   let (f,first) ← holding [ov] (getMethod ov m pl)
   callWith pos f first (backTo pos (starEach (ex :: es) X.env)) (backToKw pos (keywordEach [] X.env))):=by rfl) :
  PE X (.Call (.Attribute (.Name x p) m apos) (ex :: es) [] pos) (fun σ H Q=>t σ H fun vs H1=>sp vs H1 Q (E σ)):=by
 obtain ⟨C,f,q,mc,rest,hm,cr,fc,rc,kp,Fk⟩:=d
 refine ⟨fun pins s σ H Q I h=>PySem.W.methodCall_KW (pl:=pl) (thn ((pe_glob (v:=.ref C) hg hm rfl hdb).run pins s σ H (fun v H'=>v = .ref C∧H' = H) I ⟨rfl,rfl⟩) fun u s1 ⟨y,H1,J1,ry,ey,eH⟩=>?_) ht⟩
 subst ey eH
 obtain rfl:u = Value.ref C:=ry
 have J2:=J1.tok (s1.toks + 1)
 exact PySem.W.method_cls J1.kIn cr.ga (PySem.W.cls_bind J1.kIn cr.rd fc (wpAny_call (PySem.W.sm_get (s:={ s1 with toks:=s1.toks + 1 }) J2.kIn rc (PySem.W.handed_on rfl (PySem.W.callWith_K (h₀:=X.base) (first:=[]) J2.ok.mod.kin kp (thn (ha.run pos pins _ σ H1 _ J2 h) fun us s3 ⟨vs,H2,J3,rv,q2⟩=>⟨J3.kIn,wpAny_call (Jb Fk rm (px σ) J3 rv .nil rfl (by rw [List.append_nil]; exact q2))⟩) hst hpl)))))
end
section
variable {g:Gm} {W:WX} {k:Nat} {X:Cx}
theorem Ya {pl:Sem Bool} {x m:Str} {j:Nat} {F:List Sl→Res Rv} {ex:Expr} {es:List Expr} {A:M (List Rv)} {p apos pos:Pos} (d:CfS X.prog X.mg X.base g x m j F) (hj:j≤k) (hg:Gl X x) (ha:VA g W k X (ex :: es) A)
  (hdb:(x == ("__debug__" : Str)) = false:=by decide)
  (hst:starEach (ex :: es) X.env = (false,eval ex X.env) :: starEach es X.env:=by rfl) (hpl:(backTo pos (starEach es X.env)).any (·.1) = false:=by rfl)
  (ht:eval (.Call (.Attribute (.Name x p) m apos) (ex :: es) [] pos) X.env = (do
   let ov ← eval (.Name x p) X.env
   standAt apos.atName
   let (f,first) ← holding [ov] (getMethod ov m pl)
   callWith pos f first (backTo pos (starEach (ex :: es) X.env)) (backToKw pos (keywordEach [] X.env))):=by rfl) :
  VE g W k X (.Call (.Attribute (.Name x p) m apos) (ex :: es) [] pos) (Ay F A):=by
 refine ⟨fun c=>?_⟩
 obtain ⟨gK,gw,ca,gT,gs,gn⟩:=g
 obtain rfl:X.K = gK:=c.K
 obtain rfl:X.w = gw:=c.w
 exact PE.imp (Aks (E:=fun σ cls d H'=>W cls d σ H') d (c.room.mono hj) (fun σ=>passAt c.tk σ) hg (ha.run c) hdb hst hpl ht) fun σ H Q q=>Vm q
end
theorem Akt {x m:Str} {K:PySem.W.Frag} (h:smB x m K = true):PySem.W.findCls K (.ref (ga K x)) (.type "type") m = some (.get (.builtin "staticmethod.__get__") (.ref (ma K (ga K x) m)) .none (.ref (ga K x)))∧∃ rest,PySem.W.recIn K (ma K (ga K x) m) "staticmethod" = some (.ref (Gu "staticmethod" x m K) :: rest):=by
 obtain ⟨h1,h2⟩:=ba h
 constructor
 ·clear h2
  split at h1
  ·rename_i i p D e
   obtain ⟨k1,k⟩:=ba h1
   obtain ⟨k2,k3⟩:=ba k
   rw [e,of_decide_eq_true k1,of_decide_eq_true k2,of_decide_eq_true k3]
  ·cases h1
 ·split at h2
  ·rename_i q rest e
   rw [← of_decide_eq_true h2]
   exact ⟨rest,e⟩
  ·cases h2
theorem Aku {P:Program} {mg:Str→Option Value} {base:Heap} {g:Gm} {x m:Str} {j:Nat} {F:List Sl→Res Rv} {C f p:Addr} {mc:Value} (gl:mg x = some (.ref C)) (r:ClX.CRead g.K C mc) (h:PySem.W.findCls g.K (.ref C) mc m = some (.get (.builtin "staticmethod.__get__") (.ref p) .none (.ref C))∧∃ rest,PySem.W.recIn g.K p "staticmethod" = some (.ref f :: rest))
  (kp:PySem.W.keepIn g.K (.ref f) = true) (fk:FnK P g.w g.K mg base (L2.CX P g.w) j f [] (spR g F)):CfS P mg base g x m j F:=by
 obtain ⟨h1,rest,h2⟩:=h
 exact ⟨C,f,p,mc,rest,gl,r,h1,h2,kp,fk⟩
end Vs
set_option maxRecDepth 100000
set_option maxHeartbeats 2000000
namespace Vs
open PySem PySem.Spec PyProof.Rows L2 Fw SX
section
variable {X:Cx} {pins:List (Addr × Obj)} {σ:L2.St} {H:Hp} {s:Shared} {a:Str} {u:Value} {Q:Option (List (Str × Value))→Shared→Prop}
def PatOk (X:Cx) (p:Pattern) (ks:List Str):Prop:=∀ (pins:List (Addr × Obj)) (σ:L2.St) (H:Hp) (s:Shared) (a:Str) (u:Value) (Q:Option (List (Str × Value))→Shared→Prop),Inv X pins σ H s→RelV (.str a) u →
 (∀ s',Inv X pins σ H s'→Q (if ks.contains a = true then some [] else none) s')→wpAny (model X.prog X.w) X.A (matchPattern p X.env u) Q X.xe s
end
inductive MCs (g:Gm) (W:WX) (k:Nat) (X:Cx):List MatchCase→List (List (List Nat) × M Ctl)→Prop
 | nil:MCs g W k X [] []
 | cons {p:Pattern} {ks:List (List Nat)} {body:List Stmt} {B:M Ctl} {rest:List MatchCase} {cs:List (List (List Nat) × M Ctl)} (hp:PatOk X p (ks.map S)) (hb:VSs g W k X body B) (r:MCs g W k X rest cs):MCs g W k X (⟨p,none,body⟩ :: rest) ((ks,B) :: cs)
section
variable {g:Gm} {W:WX} {k:Nat} {X:Cx}
end
section
variable {e:Ve}
end
end Vs
set_option maxRecDepth 100000
set_option maxHeartbeats 2000000
namespace Vs
open PySem PySem.Spec PyProof.Rows L2 Fw SX
section
variable {g:Gm} {W:WX} {k:Nat} {X:Cx}
end
section
variable {e:Ve}
end
end Vs
set_option maxRecDepth 100000
set_option maxHeartbeats 2000000
namespace Vs
open PySem PySem.Spec PyProof.Rows L2 Fw SX
section
variable {X:Cx} {k:Nat} {f C:Addr} {sp:Sp} {E:L2.St→XK}
end
section
variable {g:Gm} {W:WX} {k:Nat} {X:Cx}
end
section
variable {e:Ve}
end
end Vs
set_option maxRecDepth 100000
set_option maxHeartbeats 2000000
namespace Vs
open PySem PySem.Spec PyProof.Rows L2 Fw SX
section
variable {g:Gm} {X:Cx}
end
end Vs
set_option maxRecDepth 100000
set_option maxHeartbeats 2000000
namespace Vs
open PySem PySem.Spec PyProof.Rows L2 Fw SX He
section
variable {X:Cx} {k:Nat} {sp:Sp} {E:L2.St→XK} {C:Addr}
end
section
variable {g:Gm} {W:WX} {k:Nat} {X:Cx}
end
section
variable {e:Ve}
end
end Vs
set_option maxRecDepth 100000
set_option maxHeartbeats 2000000
namespace Vs
open PySem PySem.Spec PyProof.Rows L2 Fw SX
section
variable {g:Gm} {W:WX} {k:Nat} {X:Cx} {elt tg iter:Expr} {ifs:List Expr} {scope:Scope} {own:List (Str × Nat)} {pos:Pos} {S:M (List D)} {F:D→M Unit} {is:List Nat} {T:M Bool} {E:M Rv}
end
end Vs
set_option maxRecDepth 100000
set_option maxHeartbeats 2000000
namespace Vs
open PySem PySem.Spec PyProof.Rows L2 Fw SX NdefX
section
variable {g:Gm} {G H G1 H1:Hp} {σ:L2.St} {e:Ve}
theorem SlOk.growT (w:GrowT g G H G1 H1) {s:Option Sl} {o:Option (Option V)} (h:SlOk g G H s o):SlOk g G1 H1 s o:=by
 match s,h with
 | some (.sh d),⟨v,e,r⟩=>exact ⟨v,e,r.mono w.le⟩
 | some (.bf d),⟨v,e,r⟩=>exact ⟨v,e,r.mono w.le⟩
 | some (.ow d),⟨p,e,n,r⟩ =>
  obtain ⟨o,ho,pl,_⟩:=r.there
  exact ⟨p,e,w.new p n (by rw [ho]; exact fun z=>nomatch z),r.mono w.le (by rw [w.keep _ _ ho pl.nt,ho])⟩
 | some (.bo d),⟨p,e,n,r⟩ =>
  obtain ⟨o,ho,pl,_⟩:=r.there
  exact ⟨p,e,w.new p n (by rw [ho]; exact fun z=>nomatch z),r.mono w.le (by rw [w.keep _ _ ho pl.nt,ho])⟩
 | some (.lo d),⟨p,e,n,r⟩ =>
  obtain ⟨ob,u,ho,_⟩:=r.there
  exact ⟨p,e,w.new p n (by rw [ho]; exact fun z=>nomatch z),r.mono w.le (by rw [w.keep _ _ ho (fun _ z=>nomatch z),ho])⟩
 | some .un,_=>trivial
 | none,_=>trivial
theorem SR.growT (s:SR g G H σ e) (w:GrowT g G H G1 H1):SR g G1 H1 σ e:=⟨w.bs,w.tabs,w.scr,s.len,fun i=>(s.slot i).growT w,s.inj⟩
theorem GrowT.tr (w:GrowT g G H G1 H1) (s:SR g G H σ e):Tr g σ G H e G1 H1 e:=⟨s.growT w,w.le,fun a o h _ n=>w.keep a o h n,w.dom,fun a h1 h2 _=>w.new a h1 h2,VeLe.refl e⟩
end
section
variable {P:Program} {w:World} {K:PySem.W.Frag} {mg:Str→Option Value} {base:Heap} {ca:Str→Addr} {Tb:LT} {sa:Addr} {sn:List Int} {x a:Str} {pg:Arguments} {bg rest:List Stmt} {sg:Scope} {gad:Addr} {fd:FuncData} {Ng:List Str} {tst:Stmt} {h0:ExceptHandler} {hds:List ExceptHandler} {tp p1 p2:Pos}
 {okF:D→Option Rv} {erF:Exn→Option Rv} {tA:TE→TS} {sto:V→L2.St→L2.St} {tR:TS} {l:List Clz} {n:Nat}
end
section
variable {g:Gm} {W:WX} {k:Nat} {X:Cx} {okF:D→Option Rv} {erF:Exn→Option Rv}
end
section
variable {P:Program} {w:World} {K:PySem.W.Frag} {mg:Str→Option Value} {base:Heap} {ca:Str→Addr} {Tb:LT} {sa:Addr} {sn:List Int} {x a:Str} {pg:Arguments} {bg rest:List Stmt} {sg:Scope} {gad:Addr} {fd:FuncData} {Ng:List Str} {h0:ExceptHandler} {hds:List ExceptHandler} {tp p1 p2 p3 p4:Pos}
end
end Vs
set_option maxRecDepth 100000
set_option maxHeartbeats 2000000
namespace Vs
open PySem PySem.Spec PyProof.Rows L2 Fw SX
section
variable {M:Model} {Γ:PySem.Ctx} {env:PySem.Env} {E:Value→Pos→Shared→Prop} {p:Pos} {s:Shared}
theorem Yb {α:Type} {t:Sem α} {Q:α→Pos→Shared→Prop} {n:Nat} (hn:n≤s.toks) (h:Sem.wp M Γ t Q E p s):Sem.wp M Γ t (fun a p' s'=>n≤s'.toks∧Q a p' s') E p s :=
 Sem.wp_mono M Γ t (fun _ _ _ z=>z) (fun _ _ _ z=>z.2) p s (Sem.wp_toks M Γ n t Q E p s hn h)
theorem Akv {β:Type} {k:Int} {j:Nat} {c0:Pos} {f:Value→Sem β} {Q:β→Pos→Shared→Prop} (h:Sem.wp M Γ (eval (.Constant (.int k) j c0) env >>= f) Q E p s) :
  Sem.wp M Γ (eval (.Constant (.int k) j c0) env >>= f) (fun b p' s'=>1≤s'.toks∧Q b p' s') E p s:=by
 rw [Sem.wp_bind'] at h ⊢
 exact Yb (s:={ s with toks:=s.toks + 1 }) (Nat.le_add_left 1 _) h
theorem Akw {k:Int} {j:Nat} {c0 p2:Pos} {Q:Value→Pos→Shared→Prop} (h:Sem.wp M Γ (eval (.Slice (some (.Constant (.int k) j c0)) none none p2) env) Q E p s) :
  Sem.wp M Γ (eval (.Slice (some (.Constant (.int k) j c0)) none none p2) env) (fun b p' s'=>1≤s'.toks∧Q b p' s') E p s:=by
 rw [PySem.arm_eval_Slice] at h ⊢
 exact Akv (k:=k) (j:=j) (c0:=c0) h
theorem Akx {a:Expr} {k:Int} {j:Nat} {c0 p2 pos:Pos} {Q:Value→Pos→Shared→Prop} (h:Sem.wp M Γ (eval (.Subscript a (.Slice (some (.Constant (.int k) j c0)) none none p2) pos) env) Q E p s) :
  Sem.wp M Γ (eval (.Subscript a (.Slice (some (.Constant (.int k) j c0)) none none p2) pos) env) (fun b p' s'=>1≤s'.toks∧Q b p' s') E p s:=by
 rw [PySem.arm_eval_Subscript] at h ⊢
 rw [Sem.wp_bind'] at h ⊢
 refine Sem.wp_mono M Γ _ (fun o p1 s1 h1=>?_) (fun _ _ _ z=>z) _ _ h
 rw [Sem.wp_bind',Sem.wp_holding] at h1 ⊢
 exact Sem.wp_mono M Γ _ (fun i p3 s3 z=>Yb z.1 z.2) (fun _ _ _ z=>z) _ _ (Akw h1)
end
section
variable {X:Cx} {tg iter:Expr} {wi:TI}
theorem PIK.cut {a:Expr} {k:Int} {j:Nat} {c0 p2 pos:Pos} (h:PI X tg (.Subscript a (.Slice (some (.Constant (.int k) j c0)) none none p2) pos) wi):PIK 0 X tg (.Subscript a (.Slice (some (.Constant (.int k) j c0)) none none p2) pos) wi :=
 ⟨fun pins s σ H R _ I q Γ p hΓ=>Akx (h.run pins s σ H R I q Γ p hΓ)⟩
end
structure VST (g:Gm) (W:WX) (k:Nat) (X:Cx) (st:Stmt) (F:M Ctl):Prop where
 run:Cd g W k X→PST X st (TVS g W F)
structure VSsT (g:Gm) (W:WX) (k:Nat) (X:Cx) (st:List Stmt) (F:M Ctl):Prop where
 run:Cd g W k X→PSsT X st (TVS g W F)
section
variable {g:Gm} {W:WX} {k:Nat} {X:Cx} {st:Stmt} {rest:List Stmt} {ex:Expr} {pos:Pos} {A B:M Ctl}
end
section
variable {g:Gm} {W:WX} {k:Nat} {X:Cx} {tg iter:Expr} {td:TE} {L:Ve→Option LkK} {F:D→M Unit} {is:List Nat} {pos:Pos}
end
end Vs
set_option maxRecDepth 100000
set_option maxHeartbeats 2000000
namespace Vs
open PySem PySem.Spec PyProof.Rows L2 Fw SX
section
variable {g:Gm} {W:WX} {k:Nat} {X:Cx}
end
end Vs
set_option maxRecDepth 100000
set_option maxHeartbeats 2000000
namespace Vs
open PySem PySem.Spec PyProof.Rows L2 Fw SX PySem.W
section
variable {prog:Program} {w:World} {A:Around} {E:Value→Shared→Prop} {s:Shared} {K:PySem.W.Frag} {x C f:Addr} {ox:Obj} {od:Option Obj} {b:Value}
end
section
variable {g:Gm} {W:WX} {k:Nat} {X:Cx}
end
end Vs
set_option maxRecDepth 100000
set_option maxHeartbeats 2000000
namespace Vs
open PySem PySem.Spec PyProof.Rows L2 Fw SX PySem.W
section
variable {M:Model} {h:Heap} {K:PySem.W.Frag} {C:Addr}
end
section
variable {prog:Program} {w:World} {A:Around} {E:Value→Shared→Prop} {s:Shared} {K:PySem.W.Frag} {x C C2 f:Addr} {ox:Obj} {od:Option Obj} {b:Value}
end
section
variable {g:Gm} {W:WX} {k:Nat} {X:Cx}
end
end Vs
set_option maxRecDepth 100000
set_option maxHeartbeats 2000000
namespace Vs
open PySem PySem.Spec PyProof.Rows L2 Fw SX
section
variable {X:Cx}
end
section
variable {g:Gm} {W:WX} {k:Nat} {X:Cx} {tg ex:Expr}
end
end Vs
set_option maxRecDepth 100000
namespace Vs
open PySem PySem.Spec PyProof.Rows L2 Fw SX
section
variable {e:Ve}
end
end Vs
set_option maxRecDepth 100000
set_option maxHeartbeats 2000000
namespace PySem.SeqAt
open AutoSeq1 (wpAny_loadPart')
open MeetsSeq MeetsSeq2
open MeetsSeq3 SeqRoads2
section
variable {prog:Program} {w:World}
end
end PySem.SeqAt
namespace Vs
open PySem PySem.Spec PyProof.Rows L2 Fw SX NdefX
theorem all_cons {n:Nat} {e:Nat→Bool}:(List.range (n + 1)).all e = (e 0 && (List.range n).all fun j=>e (j + 1)):=by
 rw [List.range_succ_eq_map,List.all_cons,List.all_map]
 rfl
section
variable {X:Cx} {pins:List (Addr × Obj)} {σ:L2.St} {G H:Hp} {s:Shared} {g:Gm}
end
section
variable {g:Gm} {W:WX} {k:Nat} {X:Cx}
end
end Vs
set_option maxRecDepth 100000
namespace Vs
open PySem PySem.Spec PyProof.Rows L2 Fw SX
section
variable {g:Gm} {W:WX} {k:Nat} {X:Cx}
end
section
variable {e:Ve}
end
end Vs
set_option maxRecDepth 100000
namespace Vs
open PySem PySem.Spec PyProof.Rows L2 Fw SX
section
variable {g:Gm} {G H G1 H1 G2 H2 G' H':Hp} {σ σ1 σ2 σ':L2.St} {e e1 e2 e':Ve} {γ γ1 γ2 γ':Gh}
end
def Mon (F:W2):Prop:=∀ (e:Ve) (γ:Gh) (P P':P2),(∀ o e' γ',P o e' γ'→P' o e' γ')→F e γ P→F e γ P'
def Ga (g:Gm) (W:WX) (F:W2):TS:=fun D σ H=>∃ G e γ,SR g G H σ e∧Gam g G H σ e γ∧F e γ (Post2 g W D σ G H e γ)
structure VS2 (g:Gm) (W:WX) (k:Nat) (X:Cx) (st:Stmt) (F:W2):Prop where
 mon:Mon F
 run:Cd g W k X→PS X st (Ga g W F)
structure VSs2 (g:Gm) (W:WX) (k:Nat) (X:Cx) (st:List Stmt) (F:W2):Prop where
 mon:Mon F
 run:Cd g W k X→PSs X st (Ga g W F)
def Ap (F:M Ctl):W2:=fun e γ P=>match F e with
 | .ok c e'=>P (.c c) e' γ
 | .er x e'=>P (.er x) e' γ
 | .no=>False
theorem Ep (F:M Ctl):Mon (Ap F):=fun e γ P P' h q=>by
 unfold Ap at q ⊢
 revert q
 cases F e with
 | no=>exact fun q=>q
 | er x e'=>exact fun q=>h _ _ _ q
 | ok c e'=>exact fun q=>h _ _ _ q
def A7 (A B:W2):W2:=fun e γ P=>A e γ fun o e1 γ1=>match o with
 | .c .nx=>B e1 γ1 P
 | o=>P o e1 γ1
theorem Jo {A B:W2} (a:Mon A) (b:Mon B):Mon (A7 A B):=fun e γ P P' h q=>a _ _ _ _ (fun o e1 γ1 z=>by
 cases o with
 | er x=>exact h _ _ _ z
 | c c =>
  cases c with
  | nx=>exact b _ _ _ _ h z
  | _=>exact h _ _ _ z) q
section
variable {g:Gm} {W:WX} {k:Nat} {X:Cx}
theorem Sa {F:M Ctl} {D:Ends} {σ:L2.St} {H:Hp} (q:Ga g W (Ap F) D σ H):TVS g W F D σ H:=by
 obtain ⟨G,e,γ,sr,gm,q⟩:=q
 refine ⟨G,e,sr,?_⟩
 unfold Ap at q
 revert q
 cases F e with
 | no=>exact fun h=>h
 | er x e'=>exact fun h cls d σ' G' H' t xo=>h cls d σ' G' H' (t.st2 gm) xo
 | ok c e' =>
  cases c with
  | nx=>exact fun h σ' G' H' t=>h σ' G' H' (t.st2 gm)
  | bk=>exact fun h σ' G' H' t=>h σ' G' H' (t.st2 gm)
  | ct=>exact fun h σ' G' H' t=>h σ' G' H' (t.st2 gm)
  | rt r =>
   intro h v σ' G' H' t rv
   refine h v σ' G' H' (t.st2 gm) rv fun d p er ev m=>?_
   subst er
   obtain ⟨p2,e2,_,_,h0,_⟩:=rv
   rw [ev] at e2
   cases e2
   obtain ⟨o,ho,_⟩:=gm.there m
   rw [ho] at h0
   cases h0
theorem Nn {st:Stmt} {F:M Ctl} (h:VS g W k X st F):VS2 g W k X st (Ap F):=⟨Ep F,fun c=>PS.imp (h.run c) fun D σ H q=>Sa q⟩
theorem Eb {st:List Stmt} {F:M Ctl} (h:VSs g W k X st F):VSs2 g W k X st (Ap F):=⟨Ep F,fun c=>PSs.imp (h.run c) fun D σ H q=>Sa q⟩
theorem Aky {A B:W2} (a:Mon A) (b:Mon B) {D:Ends} {σ:L2.St} {H:Hp} (q:Ga g W (A7 A B) D σ H):Ga g W A { D with nx:=Ga g W B D } σ H:=by
 obtain ⟨G,e,γ,sr,gm,q⟩:=q
 refine ⟨G,e,γ,sr,gm,a _ _ _ _ (fun o e1 γ1 z=>?_) q⟩
 cases o with
 | er x=>exact z
 | c c =>
  cases c with
  | nx=>exact fun σ1 G1 H1 t=>⟨G1,e1,γ1,t.sr,t.gm,b _ _ _ _ (Post2.step t) z⟩
  | bk=>exact z
  | ct=>exact z
  | rt r=>exact z
theorem Cw {st:Stmt} {rest:List Stmt} {A B:W2} (h1:VS2 g W k X st A) (h2:VSs2 g W k X rest B):VSs2 g W k X (st :: rest) (A7 A B) :=
 ⟨Jo h1.mon h2.mon,fun c=>PSs.imp (pss_cons (h1.run c) (h2.run c)) fun D σ H q=>Aky h1.mon h2.mon q⟩
end
end Vs
set_option maxRecDepth 100000
namespace Vs
open PySem PySem.Spec PyProof.Rows L2 Fw SX
def Cq (γ:Gh) (b:Addr) (d:D):Gh:=γ.map fun q=>if q.1 = b then (q.1,d) else q
theorem Yc {b:Addr} {d:D} (γ:Gh):(Cq γ b d).map Prod.fst = γ.map Prod.fst:=by
 unfold Cq
 rw [List.map_map]
 refine List.map_congr_left fun q _=>?_
 show (if q.1 = b then (q.1,d) else q).1 = q.1
 split <;> rfl
theorem setG_in {γ:Gh} {b x:Addr} {d:D}:InG (Cq γ b d) x↔InG γ x:=by rw [inG_iff,inG_iff,Yc]
theorem Gb {γ:Gh} {b:Addr} {d:D} (h:γ.lookup b = some d):(b,d)∈γ:=by
 induction γ with
 | nil=>cases h
 | cons q r ih =>
  obtain ⟨a,u⟩:=q
  rw [List.lookup_cons] at h
  cases z:b == a with
  | true =>
   rw [z] at h
   cases h
   rw [eq_of_beq z]
   exact List.mem_cons_self
  | false =>
   rw [z] at h
   exact List.mem_cons_of_mem _ (ih h)
section
variable {g:Gm} {G H G1 H1:Hp} {σ σ1:L2.St} {e e1:Ve} {γ γ1:Gh}
theorem St2.put {b:Addr} {d d':D} {o:HO} (t:St2 g G H σ e γ G1 H1 σ1 e1 γ1) (m:γ1.lookup b = some d) (on:Own g G1 (upd H1 b o) b d') (kd':Ic d' = true):St2 g G H σ e γ G1 (upd H1 b o) σ1 e1 (Cq γ1 b d'):=by
 have mi:=Gb m
 obtain ⟨n,ow,nr⟩:=t.gm.at_ b d mi
 obtain ⟨ob,ho,pl,_⟩:=ow.there
 have hp:∀ u,H1 b = some u→Pln u:=fun u h=>by rw [ho] at h; cases h; exact pl
 have ib:InG γ b∨H b = none:=t.gnw b ⟨d,mi⟩
 refine ⟨t.sr.put n nr hp,⟨by rw [Yc]; exact t.gm.nd,fun x u hx=>?_,fun x u hx=>?_⟩,t.ln,t.le,fun a u h ni ng nt=>?_,fun a h=>?_,t.new,t.rts,t.rto,t.bor,t.bof,t.nlo,fun x h=>setG_in.mpr (t.gup x h),fun x h=>t.gnw x (setG_in.mp h)⟩
 ·obtain ⟨q,hq,eq⟩:=List.mem_map.mp hx
  by_cases z:q.1 = b
  ·rw [if_pos z] at eq
   cases eq
   exact kd'
  ·rw [if_neg z] at eq
   subst eq
   exact t.gm.kd x u hq
 ·obtain ⟨q,hq,eq⟩:=List.mem_map.mp hx
  by_cases z:q.1 = b
  ·rw [if_pos z] at eq
   cases eq
   obtain ⟨n2,_,nr2⟩:=t.gm.at_ q.1 q.2 hq
   exact ⟨n2,by rw [z]; exact on,nr2⟩
  ·rw [if_neg z] at eq
   subst eq
   obtain ⟨n2,ow2,nr2⟩:=t.gm.at_ x u hq
   exact ⟨n2,ow2.mono (Le.refl _) (upd_ne z),nr2⟩
 ·rw [upd_ne (fun z=>by
   rcases ib with y | y
   ·exact ng (by rw [z]; exact y)
   ·rw [← z,h] at y; cases y)]
  exact t.keep a u h ni ng nt
 ·by_cases z:a = b
  ·rcases ib with y | y
   ·exfalso
    rw [z,upd_same] at h
    cases h
   ·rw [z]; exact y
  ·rw [upd_ne z] at h
   exact t.dom a h
end
def Lh (cs:List Str) (f:Str) (i:Nat):W2:=fun e γ P=>match (e[i]?).bind fun s=>(A3 s).map fun d=>(s,d) with
 | some (s,.ins c fs)=>cs.contains c = true∧fs.length < 1000∧∀ b,¬ InG γ b→P (.c .nx) (e.set i (Bt s (.ins c (Bp f (.con (.ref b)) fs)))) ((b,.dct []) :: γ)
 | _=>False
theorem Jp (cs:List Str) (f:Str) (i:Nat):Mon (Lh cs f i):=fun e γ P P' h q=>by
 unfold Lh at q ⊢
 revert q
 cases (e[i]?).bind fun s=>(A3 s).map fun d=>(s,d) with
 | none=>exact fun q=>q
 | some r =>
  obtain ⟨s,d⟩:=r
  cases d with
  | ins c fs=>exact fun q=>⟨q.1,q.2.1,fun b n=>h _ _ _ (q.2.2 b n)⟩
  | _=>exact fun q=>q
section
variable {g:Gm} {W:WX} {k:Nat} {X:Cx}
theorem Akz {x f:Str} {i:Nat} {cs:List Str} {p pos pos' dp:Pos} (hno:∀ c∈cs,NoAttr g.K (g.ca c) f) (hN:X.N[i]? = some x) (hvis:Vis X.env.scope x)
  (hd:(x == ("__debug__" : Str)) = false:=by decide) (hcd:(x == ("__classdict__" : Str)) = false:=by decide) (hs:swapsWith (.Dict [] [] dp) (some (.Attribute (.Name x p) f pos')) pos.line X.env = pure false:=by rfl) :
  VS2 g W k X (.Assign [.Attribute (.Name x p) f pos'] (.Dict [] [] dp) pos) (Lh cs f i) :=
 ⟨Jp _ _ _,fun c=>PS.imp (Qp g.K (pe_var hN hvis hd hcd) (pe_dnewK (pos:=dp)) hs c.K) fun D σ H ⟨G,e,γ,sr,gm,q⟩=>fun b nb=>by
  unfold Lh at q
  split at q
  ·rename_i s cn fs q1
   obtain ⟨hc,hl,q⟩:=q
   cases q3:e[i]? with
   | none=>rw [q3] at q1; cases q1
   | some s0 =>
    rw [q3,Option.bind_some] at q1
    cases q4:A3 s0 with
    | none=>rw [q4] at q1; cases q1
    | some d =>
     rw [q4] at q1
     cases q1
     have gr:=Grow.lay (o:=HO.dK []) sr.bs nb
     have t1:=gr.tr sr
     have nin:¬ InG γ b:=fun m=>by
      obtain ⟨o,ho,_⟩:=gm.there m
      rw [ho] at nb; cases nb
     have nrt:∀ i,¬ Rt σ e i b:=fun i r=>(sr.root r).2 nb
     obtain ⟨p',hp,n,ow,_⟩:=t1.sr.own q3 q4
     obtain ⟨dx,vs,ha,rf,io⟩:=id ow
     have hn:=hno cn (List.contains_iff_mem.mp hc)
     refine ⟨.ref p',hp,p',_,dx,vs,rfl,ha,io.1,hn,by rw [rf.len]; exact hl,?_⟩
     have hb:Own g G (upd H b (HO.dK [])) b (.dct []):=⟨[],upd_same,rfl⟩
     have ne:b≠p':=fun z=>by
      rw [← z,upd_same] at ha
      cases ha
     have t2:=t1.sr.mut (d':=.ins cn (Bp f (.con (.ref b)) fs)) (o':=.ins (g.ca cn) dx (putF f (.ref b) vs)) q3 q4 hp ow ⟨dx,_,upd_same,rf.put (show Rep g G (.con (.ref b)) (.ref b) from (rfl:V.ref b = V.ref b)),io.1,fun y hy=>by
      rcases M3 hy with z | ⟨z,hz⟩
      ·rw [z]; exact hn
      ·exact io.2 (y.1,z) hz⟩
     have tt:=((t1.trans t2).st.st2 gm)
     refine q b nin σ G _ (tt.cell nb (sr.bs.hn nb) (hb.mono (Le.refl _) (upd_ne ne)) (fun j r=>nrt j ((t1.trans t2).ve.rt r)) nin rfl)
  ·exact q.elim⟩
end
end Vs
set_option maxRecDepth 100000
namespace Vs
open PySem PySem.Spec PyProof.Rows L2 Fw SX
section
variable {g:Gm} {G H G1 H1 G2 H2 G' H' H0:Hp} {σ:L2.St} {e e1 e2 e':Ve} {γ γ1 γ2 γ':Gh}
theorem RvOk2.tr {r:Rv} {v:V} (t:Tr2 g σ G H e γ G1 H1 e1 γ1) (h:RvOk2 g G H σ e γ H0 r v):RvOk2 g G1 H1 σ e1 γ1 H0 r v:=by
 obtain ⟨h,nf⟩:=h
 cases r with
 | val d=>exact ⟨Rep.mono t.le h,fun _ _ z=>nomatch z⟩
 | slot i =>
  obtain ⟨h,s,hs,n⟩:=h
  obtain ⟨s',h',l⟩:=t.ve.at_ i s hs
  exact ⟨⟨h,s',h',Va l n⟩,fun _ _ z=>nomatch z⟩
 | fresh d =>
  obtain ⟨p,ev,n,o,h0,nr⟩:=h
  obtain ⟨ob,ho,pl,_⟩:=o.there
  have ni:¬ InG γ p:=nf d p rfl ev
  refine ⟨⟨p,ev,t.new p n (by rw [ho]; exact fun z=>nomatch z) nr,o.mono t.le (by rw [t.keep _ _ ho nr ni pl.nt,ho]),h0,fun i r=>nr i (t.ve.rt r)⟩,fun d2 p2 _ e2 m=>?_⟩
  rw [ev] at e2
  cases e2
  rcases t.gnw p m with q | q
  ·exact ni q
  ·rw [ho] at q; cases q
def Hn (r:Rv) (e:Ve) (γ:Gh):Option D:=match r with
 | .val (.con (.ref b))=>γ.lookup b
 | r=>Af r e
theorem Own.rH {p:Addr} {d:D} (n:G p = none) (o:Own g G H p d):RepH g G H d (.ref p):=.inr ⟨p,rfl,n,o.r⟩
theorem Yd {r:Rv} {v:V} {d:D} (sr:SR g G H σ e) (gm:Gam g G H σ e γ) (ok:RvOk g G H σ e H0 r v) (h:Hn r e γ = some d):RepH g G H d v:=by
 unfold Hn at h
 split at h
 ·rename_i b
  obtain ⟨n,o,_⟩:=gm.at_ b d (Gb h)
  have ev:v = .ref b:=ok
  rw [ev]
  exact o.rH n
 ·exact B5 sr ok h
end
def liftM {α:Type} (F:M α):E2 α:=fun e γ P=>match F e with
 | .ok a e'=>P (.v a) e' γ
 | .er x e'=>P (.er x) e' γ
 | .no=>False
theorem Ci {α:Type} (F:M α):Ak (liftM F):=fun e γ P P' h q=>by
 unfold liftM at q ⊢
 revert q
 cases F e with
 | no=>exact fun q=>q
 | er x e'=>exact fun q=>h _ _ _ q
 | ok a e'=>exact fun q=>h _ _ _ q
theorem Dx {α β:Type} {A:E2 α} {k:α→E2 β} (a:Ak A) (b:∀ x,Ak (k x)):Ak (Bz A k):=fun e γ P P' h q=>a _ _ _ _ (fun o e1 γ1 z=>by
 cases o with
 | er x=>exact h _ _ _ z
 | v x=>exact b x _ _ _ _ h z) q
def TV2 (g:Gm) (W:WX) (F:E2 Rv):TE:=fun σ H Q=>∃ G e γ,SR g G H σ e∧Gam g G H σ e γ∧F e γ (Pst2 g W σ G H e γ fun r G' H' e' γ'=>∀ v,RvOk2 g G' H' σ e' γ' H r v→Q v H')
def TVT2 (g:Gm) (W:WX) (F:E2 Bool):TT:=fun σ H Q=>∃ G e γ,SR g G H σ e∧Gam g G H σ e γ∧F e γ (Pst2 g W σ G H e γ fun b G' H' e' γ'=>Q b H')
structure VE2 (g:Gm) (W:WX) (k:Nat) (X:Cx) (ex:Expr) (F:E2 Rv):Prop where
 mon:Ak F
 run:Cd g W k X→PE X ex (TV2 g W F)
structure VT2 (g:Gm) (W:WX) (k:Nat) (X:Cx) (ex:Expr) (F:E2 Bool):Prop where
 mon:Ak F
 run:Cd g W k X→PT X ex (TVT2 g W F)
section
variable {g:Gm} {W:WX} {k:Nat} {X:Cx}
theorem Ak0 {F:M Rv} {σ:L2.St} {H:Hp} {Q:VK} (q:TV2 g W (liftM F) σ H Q):TV g W F σ H Q:=by
 obtain ⟨G,e,γ,sr,gm,q⟩:=q
 refine ⟨G,e,sr,?_⟩
 unfold liftM at q
 revert q
 cases F e with
 | no=>exact fun h=>h
 | er x e'=>exact fun h cls d G' H' t xo=>h cls d G' H' (t.tr2 gm) xo
 | ok r e' =>
  intro h G' H' t v rv
  refine h G' H' (t.tr2 gm) v ⟨rv,fun d p er ev m=>?_⟩
  subst er
  obtain ⟨p2,e2,_,_,h0,_⟩:=rv
  rw [ev] at e2
  cases e2
  obtain ⟨o,ho,_⟩:=gm.there m
  rw [ho] at h0
  cases h0
theorem Li {ex:Expr} {F:M Rv} (h:VE g W k X ex F):VE2 g W k X ex (liftM F):=⟨Ci F,fun c=>PE.imp (h.run c) fun _ _ _ q=>Ak0 q⟩
theorem Ak1 {ex:Expr} {F:M Bool} (h:VT g W k X ex F):VT2 g W k X ex (liftM F):=⟨Ci F,fun c=>PT.imp (h.run c) fun σ H Q ⟨G,e,γ,sr,gm,q⟩=>by
 refine ⟨G,e,sr,?_⟩
 unfold liftM at q
 revert q
 cases F e with
 | no=>exact fun h=>h
 | er x e'=>exact fun h cls d G' H' t xo=>h cls d G' H' (t.tr2 gm) xo
 | ok r e'=>exact fun h G' H' t=>h G' H' (t.tr2 gm)⟩
def opC (f:D→D→Option Rv) (a b:Rv):E2 Rv:=fun e γ P=>match Hn a e γ,Hn b e γ with
 | some x,some y=>(match f x y with | some r=>P (.v r) e γ | none=>False)
 | _,_=>False
theorem Sb {f:D→D→Option Rv} {a b:Rv}:Ak (opC f a b):=fun e γ P P' h q=>by
 unfold opC at q ⊢
 revert q
 cases Hn a e γ with
 | none=>exact fun q=>q
 | some x =>
  cases Hn b e γ with
  | none=>exact fun q=>q
  | some y =>
   dsimp only
   cases f x y with
   | none=>exact fun q=>q
   | some r=>exact fun q=>h _ _ _ q
def Jq (f:D→D→Option Rv) (A B:E2 Rv):E2 Rv:=Bz A fun a=>Bz B fun b=>opC f a b
theorem Ho {f:D→D→Option Rv} {A B:E2 Rv} (a:Ak A) (b:Ak B):Ak (Jq f A B):=Dx a fun _=>Dx b fun _=>Sb
theorem Ak2 {r:R2} {f:D→D→Option Rv} {A B:E2 Rv} {σ:L2.St} {H:Hp} {Q:VK} (ma:Ak A) (mb:Ak B) (hv:OpV g r f) (h:TV2 g W (Jq f A B) σ H Q):tOp r (TV2 g W A) (TV2 g W B) σ H Q:=by
 obtain ⟨G,e,γ,sr,gm,h⟩:=h
 refine ⟨G,e,γ,sr,gm,ma _ _ _ _ (fun o e1 γ1 z=>?_) (Pst2.bind ma (fun _=>Dx mb fun _=>Sb) h)⟩
 cases o with
 | er x=>exact z
 | v a =>
  intro G1 H1 t1 x ok1
  refine ⟨G1,e1,γ1,t1.sr,t1.gm,mb _ _ _ _ (fun o2 e2 γ2 z2=>?_) (Pst2.bind mb (fun _=>Sb) (z G1 H1 t1))⟩
  cases o2 with
  | er x=>exact z2
  | v b =>
   intro G2 H2 t2 y ok2
   have h2:=z2 G2 H2 t2
   have ok1:=ok1.tr t2
   unfold opC at h2
   dsimp only at h2
   cases qa:Hn a e2 γ2 with
   | none=>rw [qa] at h2; exact h2.elim
   | some da =>
    cases qb:Hn b e2 γ2 with
    | none=>rw [qa,qb] at h2; exact h2.elim
    | some db =>
     rw [qa,qb] at h2
     dsimp only at h2
     cases qf:f da db with
     | none=>rw [qf] at h2; exact h2.elim
     | some out =>
      rw [qf] at h2
      refine hv G2 H2 da db x y out Q t2.sr.bs t2.sr.scrL (Yd t2.sr t2.gm ok1.1 qa) (Yd t2.sr t2.gm ok2.1 qb) qf fun v G' H' gr nw=>?_
      refine h2 G' H' ((gr.tr t2.sr).tr2 t2.gm) v ⟨nw.ok t2.sr fun p hp=>t1.dom p (t2.dom p hp),fun d p er ev m=>?_⟩
      subst er
      obtain ⟨p2,e2',_,_,h0⟩:=nw
      rw [ev] at e2'
      cases e2'
      obtain ⟨o,ho,_⟩:=t2.gm.there m
      rw [ho] at h0
      cases h0
end
end Vs
set_option maxRecDepth 100000
namespace Vs
open PySem PySem.Spec PyProof.Rows L2 Fw SX
section
variable {g:Gm} {W:WX} {k:Nat} {X:Cx}
def Jr (F:E2 Rv):E2 Bool:=fun e γ P=>F e γ fun o e1 γ1=>match o with
 | .v (.val (.bl b))=>P (.v b) e1 γ1
 | .v _=>False
 | .er x=>P (.er x) e1 γ1
theorem Js {F:E2 Rv} (m:Ak F):Ak (Jr F):=fun e γ P P' h q=>m _ _ _ _ (fun o e1 γ1 z=>by
 cases o with
 | er x=>exact h _ _ _ z
 | v r =>
  cases r with
  | val d =>
   cases d with
   | bl b=>exact h _ _ _ z
   | _=>exact z
  | slot i=>exact z
  | fresh d=>exact z) q
theorem Ak3 {F:E2 Rv} (m:Ak F) {σ:L2.St} {H:Hp} {Q:Bool→Hp→Prop} (h:TVT2 g W (Jr F) σ H Q):TV2 g W F σ H fun x H1=>∃ b,x = .bl b∧Q b H1:=by
 obtain ⟨G,e,γ,sr,gm,h⟩:=h
 refine ⟨G,e,γ,sr,gm,m _ _ _ _ (fun o e1 γ1 z=>?_) h⟩
 cases o with
 | er x=>exact z
 | v r =>
  cases r with
  | val d =>
   cases d with
   | bl b=>exact fun G' H' t v ok=>⟨b,ok.1,z G' H' t⟩
   | _=>exact z.elim
  | slot i=>exact z.elim
  | fresh d=>exact z.elim
def ret2 (F:E2 Rv):W2:=fun e γ P=>F e γ fun o e1 γ1=>match o with
 | .v r=>P (.c (.rt r)) e1 γ1
 | .er x=>P (.er x) e1 γ1
def if2 (C:E2 Bool) (A B:W2):W2:=fun e γ P=>C e γ fun o e1 γ1=>match o with
 | .v true=>A e1 γ1 P
 | .v false=>B e1 γ1 P
 | .er x=>P (.er x) e1 γ1
theorem Np {c:Expr} {a b:List Stmt} {C:E2 Bool} {A B:W2} {pos:Pos} (hc:VT2 g W k X c C) (ha:VSs2 g W k X a A) (hb:VSs2 g W k X b B):VS2 g W k X (.If c a b pos) (if2 C A B) :=
 ⟨fun e γ P P' h q=>hc.mon _ _ _ _ (fun o e1 γ1 z=>by
  cases o with
  | er x=>exact h _ _ _ z
  | v b =>
   cases b with
   | true=>exact ha.mon _ _ _ _ h z
   | false=>exact hb.mon _ _ _ _ h z) q,fun cd=>PS.imp (ps_if (hc.run cd) (ha.run cd) (hb.run cd)) fun D σ H ⟨G,e,γ,sr,gm,q⟩=>⟨G,e,γ,sr,gm,hc.mon _ _ _ _ (fun o e1 γ1 z=>by
  cases o with
  | er x=>exact fun cls d G' H' t xo=>z cls d σ G' H' t.st2 xo
  | v b =>
   cases b with
   | true=>exact fun G' H' t=>⟨G',e1,γ1,t.sr,t.gm,ha.mon _ _ _ _ (Post2.step t.st2) z⟩
   | false=>exact fun G' H' t=>⟨G',e1,γ1,t.sr,t.gm,hb.mon _ _ _ _ (Post2.step t.st2) z⟩) q⟩⟩
end
end Vs
set_option maxRecDepth 100000
namespace Vs
open PySem PySem.Spec PyProof.Rows L2 Fw SX
def not2 (A:E2 Bool):E2 Bool:=fun e γ P=>A e γ fun o e1 γ1=>match o with
 | .v b=>P (.v (!b)) e1 γ1
 | .er x=>P (.er x) e1 γ1
def and2 (A B:E2 Bool):E2 Bool:=fun e γ P=>A e γ fun o e1 γ1=>match o with
 | .v true=>B e1 γ1 P
 | .v false=>P (.v false) e1 γ1
 | .er x=>P (.er x) e1 γ1
def or2 (A B:E2 Bool):E2 Bool:=fun e γ P=>A e γ fun o e1 γ1=>match o with
 | .v true=>P (.v true) e1 γ1
 | .v false=>B e1 γ1 P
 | .er x=>P (.er x) e1 γ1
theorem Lj {A B:E2 Bool} (a:Ak A) (b:Ak B):Ak (and2 A B):=fun e γ P P' h q=>a _ _ _ _ (fun o e1 γ1 z=>by
 cases o with
 | er x=>exact h _ _ _ z
 | v x =>
  cases x with
  | true=>exact b _ _ _ _ h z
  | false=>exact h _ _ _ z) q
theorem Lk {A B:E2 Bool} (a:Ak A) (b:Ak B):Ak (or2 A B):=fun e γ P P' h q=>a _ _ _ _ (fun o e1 γ1 z=>by
 cases o with
 | er x=>exact h _ _ _ z
 | v x =>
  cases x with
  | false=>exact b _ _ _ _ h z
  | true=>exact h _ _ _ z) q
structure VW2 (g:Gm) (W:WX) (k:Nat) (X:Cx) (ex:Expr) (F:E2 Bool):Prop where
 mon:Ak F
 run:Cd g W k X→PW X ex (TVT2 g W F)
section
variable {g:Gm} {W:WX} {k:Nat} {X:Cx} {a b:Expr} {rest:List Expr} {A B:E2 Bool} {pos:Pos}
theorem VW2.vt (h:VW2 g W k X a A):VT2 g W k X a A:=⟨h.mon,fun c=>(h.run c).pt⟩
end
section
variable {g:Gm} {W:WX} {k:Nat} {X:Cx}
def Ge (A:E2 Rv):E2 Rv:=Bz A fun r=>liftM ((Bq r).map Rv.val)
theorem Hq {ex:Expr} {A:E2 Rv} (h:VE2 g W k X ex A):VE2 g W k X ex (Ge A) :=
 ⟨Dx h.mon fun _=>Ci _,fun c=>PE.imp (h.run c) fun σ H Q ⟨G,e,γ,sr,gm,q⟩=>⟨G,e,γ,sr,gm,h.mon _ _ _ _ (fun o e1 γ1 z=>by
  cases o with
  | er x=>exact z
  | v r =>
   intro G1 H1 t1 v ok1
   have h2:=z
   unfold liftM M.map M.bind M.ret at h2
   dsimp only at h2
   cases q1:Bq r e1 with
   | no=>rw [q1] at h2; exact h2.elim
   | er x e2 =>
    exfalso
    revert q1
    unfold Bq
    cases r with
    | val d=>intro y; cases y
    | fresh d=>intro y; cases y
    | slot i =>
     dsimp only
     cases e1[i]? with
     | none=>intro y; cases y
     | some s=>cases s <;> intro y <;> cases y
   | ok d e2 =>
    rw [q1] at h2
    obtain ⟨G2,t2,rp⟩:=t1.frz ok1 q1
    exact h2 G2 H1 t2 v ⟨rp,fun _ _ y=>nomatch y⟩) q⟩⟩
end
end Vs
set_option maxRecDepth 100000
namespace Vs
open PySem PySem.Spec PyProof.Rows L2 Fw SX
section
variable {g:Gm} {W:WX} {k:Nat} {X:Cx}
end
end Vs
set_option maxRecDepth 100000
namespace Vs
open PySem PySem.Spec PyProof.Rows L2 Fw SX
def Cy (F:D→M Unit) (B:W2):List D→W2
 | []=>fun e γ P=>P (.c .nx) e γ
 | d :: r=>fun e γ P=>match F d e with
  | .ok _ e2=>B e2 γ fun o e3 γ3=>match o with
   | .c .nx=>Cy F B r e3 γ3 P
   | .c .ct=>Cy F B r e3 γ3 P
   | .c .bk=>P (.c .nx) e3 γ3
   | .c (.rt v)=>P (.c (.rt v)) e3 γ3
   | .er x=>P (.er x) e3 γ3
  | _=>False
theorem Ll {F:D→M Unit} {B:W2} (b:Mon B):∀ ds,Mon (Cy F B ds)
 | []=>fun e γ P P' h q=>h _ _ _ q
 | d :: r=>fun e γ P P' h q=>by
  unfold Cy at q ⊢
  revert q
  cases F d e with
  | no=>exact fun q=>q
  | er x e'=>exact fun q=>q
  | ok u e2 =>
   refine b _ _ _ _ fun o e3 γ3 z=>?_
   cases o with
   | er x=>exact h _ _ _ z
   | c c =>
    cases c with
    | nx=>exact Ll b r _ _ _ _ h z
    | ct=>exact Ll b r _ _ _ _ h z
    | bk=>exact h _ _ _ z
    | rt v=>exact h _ _ _ z
def Gf (S:M (List D)) (F:D→M Unit) (B:W2):W2:=fun e γ P=>match S e with
 | .ok ds e1=>Cy F B ds e1 γ P
 | _=>False
theorem Jt {S:M (List D)} {F:D→M Unit} {B:W2} (b:Mon B):Mon (Gf S F B):=fun e γ P P' h q=>by
 unfold Gf at q ⊢
 revert q
 cases S e with
 | no=>exact fun q=>q
 | er x e'=>exact fun q=>q
 | ok ds e1=>exact Ll b ds _ _ _ _ h
theorem St2.fz {g:Gm} {G H G1 H1:Hp} {σ σ1:L2.St} {e e1:Ve} {γ γ1:Gh} (s0:SR g G H σ e) (gm:Gam g G H σ e γ) (t:St2 g G H σ e γ G1 H1 σ1 e1 γ1):Fz H H1:=fun a o u h=>t.keep a _ h (fun i=>s0.nofrz h i) (fun ⟨d,m⟩=>(gm.at_ a d m).2.1.nofrz o u h) fun ps z=>nomatch z
section
variable {g:Gm} {W:WX} {k:Nat} {X:Cx} {tg ex:Expr}
theorem Ak4 {F:D→M Unit} {is:List Nat} {B:W2} {ds:List D} {D:Ends} {σ:L2.St} {G H:Hp} {e:Ve} {γ:Gh} {J:It} {t:TG} (hg:VG g X tg F is) (mb:Mon B)
  (q:∀ (G H G0 H0:Hp) (σ σ0:L2.St) (e e0 e':Ve) (d:Vs.D) (v:V) (Q:L2.St→Hp→Prop),St g G0 H0 σ0 e0 G H σ e→Rep g G d v→F d e = .ok () e'→(∀ σ',St g G0 H0 σ0 e0 G H σ' e'→(∀ j,j ∉ is→σ'[j]? = σ[j]?)→Q σ' H)→t v σ H Q)
  (sr:SR g G H σ e) (gm:Gam g G H σ e γ) (it:ItOk g G H J ds) (h:Cy F B ds e γ (Post2 g W D σ G H e γ)) :
  ∃ W':Nat→Nat→L2.St→Hp→Prop,(∃ m,W' 0 m σ H)∧∀ i m σ H,W' i m σ H→(J.stop i H∧D.nx σ H)∨(J.go i H∧∃ N:L2.St→Hp→Prop,(∀ σ' H',N σ' H'→∃ m',m' < m∧W' (i + 1) m' σ' H') ∧
   ∀ x H',J.yld i H x H'→t x σ H' fun σ2 H2=>Ga g W B { D with nx:=N,ct:=N,bk:=D.nx } σ2 H2):=by
 refine ⟨fun i m σ' H'=>m = ds.length - i∧i≤ds.length∧∃ G' e' γ',SR g G' H' σ' e'∧Gam g G' H' σ' e' γ'∧Le G G'∧Fz H H'∧Cy F B (ds.drop i) e' γ' (Post2 g W D σ' G' H' e' γ'),⟨_,rfl,Nat.zero_le _,G,e,γ,sr,gm,Le.refl G,fun _ _ _ h=>h,h⟩,?_⟩
 rintro i m σ1 H1 ⟨rfl,hi,G1,e1,γ1,sr1,gm1,le1,fz1,h1⟩
 by_cases hlt:i < ds.length
 ·refine .inr ⟨it.go i G1 H1 le1 sr1.bs fz1 hlt,fun σ' H'=>i + 1≤ds.length∧∃ G' e' γ',SR g G' H' σ' e'∧Gam g G' H' σ' e' γ'∧Le G G'∧Fz H H'∧Cy F B (ds.drop (i + 1)) e' γ' (Post2 g W D σ' G' H' e' γ'),fun σ' H' hN=>⟨ds.length - (i + 1),by omega,rfl,hN⟩,fun x H2 y=>?_⟩
  obtain ⟨d,G2,ed,gr,rd⟩:=it.yld i G1 H1 x H2 le1 sr1.bs fz1 hlt y
  have t1:=(gr.tr sr1).st
  have ed':ds.drop i = d :: ds.drop (i + 1):=by
   rw [List.drop_eq_getElem_cons hlt]
   rw [List.getElem?_eq_getElem hlt] at ed
   rw [Option.some.inj ed]
  rw [ed'] at h1
  unfold Cy at h1
  cases qf:F d e1 with
  | no=>rw [qf] at h1; exact h1.elim
  | er x e'=>exact absurd qf (hg.nox _ _ _ _)
  | ok u e2 =>
   rw [qf] at h1
   refine q G2 H2 G1 H1 σ1 σ1 e1 e1 e2 d x _ t1 rd qf fun σ2 st2 _=>?_
   have s2:St2 g G1 H1 σ1 e1 γ1 G2 H2 σ2 e2 γ1:=st2.st2 gm1
   refine ⟨G2,e2,γ1,st2.sr,s2.gm,mb _ _ _ _ (fun o e3 γ3 z=>?_) h1⟩
   have fz2:Fz H H2:=fz1.trans gr.fz
   have le2:Le G G2:=le1.trans gr.le
   cases o with
   | er x=>exact Post2.step s2 (.er x) _ _ z
   | c c =>
    cases c with
    | nx=>exact fun σ3 G3 H3 t=>⟨hlt,G3,e3,γ3,t.sr,t.gm,le2.trans t.le,fz2.trans (t.fz st2.sr s2.gm),Ll mb _ _ _ _ _ (Post2.step (s2.trans t)) z⟩
    | ct=>exact fun σ3 G3 H3 t=>⟨hlt,G3,e3,γ3,t.sr,t.gm,le2.trans t.le,fz2.trans (t.fz st2.sr s2.gm),Ll mb _ _ _ _ _ (Post2.step (s2.trans t)) z⟩
    | bk=>exact fun σ3 G3 H3 t=>z σ3 G3 H3 (s2.trans t)
    | rt r=>exact Post2.step s2 (.c (.rt r)) _ _ z
 ·have ei:i = ds.length:=by omega
  subst ei
  rw [List.drop_length] at h1
  exact .inl ⟨it.stop G1 H1 le1 sr1.bs fz1,h1 σ1 G1 H1 (St2.refl sr1 gm1)⟩
theorem Ye {S:M (List D)} {F:D→M Unit} {is:List Nat} {B:W2} {body:List Stmt} {pos:Pos} (hi:VI g W k X tg ex S) (hg:VG g X tg F is) (hb:VSs2 g W k X body B) (hs:∀ x,foldedSetIterable ex X.env x = pure x:=by intro _; rfl):VS2 g W k X (.For tg ex body [] pos) (Gf S F B):=by
 refine ⟨Jt hb.mon,fun c=>?_⟩
 obtain ⟨t,p,q⟩:=hg.pg k W c
 refine PS.imp (ps_for c.po c.calm (hi.run c) p (hb.run c) hs) fun D σ H ⟨G,e,γ,sr,gm,h⟩=>⟨G,e,sr,?_⟩
 unfold Gf at h
 revert h
 cases S e with
 | no=>exact fun h=>h
 | er x e'=>exact fun h=>h.elim
 | ok ds e1=>exact fun h G1 H1 t1 J it=>Ak4 hg hb.mon q t1.sr (gm.st t1.st) it (Ll hb.mon _ _ _ _ _ (Post2.step (t1.st.st2 gm)) h)
end
end Vs
set_option maxRecDepth 100000
namespace Vs
open PySem PySem.Spec PyProof.Rows L2 Fw SX
section
variable {g:Gm} {G H G1 H1:Hp} {σ σ1:L2.St} {e e1:Ve} {γ γ1:Gh} {i:Nat} {v:V} {s:Sl}
end
def set2 (i:Nat) (A:E2 Rv):W2:=fun e γ P=>A e γ fun o e1 γ1=>match o with
 | .er x=>P (.er x) e1 γ1
 | .v r=>Ap (D5 i r) e1 γ1 P
theorem Lm {i:Nat} {A:E2 Rv} (m:Ak A):Mon (set2 i A):=fun e γ P P' h q=>m _ _ _ _ (fun o e1 γ1 z=>by
 cases o with
 | er x=>exact h _ _ _ z
 | v r=>exact Ep _ _ _ _ _ h z) q
section
variable {g:Gm} {W:WX} {k:Nat} {X:Cx} {i:Nat}
end
end Vs
set_option maxRecDepth 100000
namespace Vs
open PySem PySem.Spec PyProof.Rows L2 Fw SX
section
variable {g:Gm} {G H G1 H1:Hp} {e1:Ve} {vs:List V} {as:List Sl} {N:List Str}
variable {γ γ1:Gh}
theorem Ak5 (h:Gam g G H (vs.map some) as γ) (hl:as.length = vs.length):Gam g G H (L2.start N vs) (as ++ List.replicate (N.length - as.length) .un) γ :=
 ⟨h.nd,h.kd,fun b d m=>⟨(h.at_ b d m).1,(h.at_ b d m).2.1,fun i r=>(h.at_ b d m).2.2 i (Mq hl r)⟩⟩
theorem Ln {σ1:L2.St} (ok:as.all Eh = true) (sr:SR g G H (vs.map some) as) (t:St2 g G H (L2.start N vs) (as ++ List.replicate (N.length - as.length) .un) γ G1 H1 σ1 e1 γ1):Tr2 g (vs.map some) G H as γ G1 H1 (backV as e1) γ1:=by
 have hl:as.length = vs.length:=by rw [sr.len,List.length_map]
 have on:∀ i a,as[i]? = some a→(as ++ List.replicate (N.length - as.length) Sl.un)[i]? = some a∧(L2.start N vs)[i]? = (vs.map some)[i]?:=fun i a h=>by
  have hi:=Bj h
  refine ⟨by rw [List.getElem?_append_left hi]; exact h,?_⟩
  unfold L2.start
  exact List.getElem?_append_left (by rw [List.length_map]; omega)
 have okA:∀ (i:Nat) a,as[i]? = some a→(∃ d,a = .sh d)∨∃ d,a = .bo d:=fun i a h=>by
  have:=List.all_eq_true.mp ok a (List.mem_of_getElem? h)
  cases a with
  | un=>cases this
  | sh d=>exact .inl ⟨d,rfl⟩
  | ow d=>cases this
  | bo d=>exact .inr ⟨d,rfl⟩
  | bf d=>cases this
  | lo d=>cases this
 have be:∀ (i:Nat) a,as[i]? = some a→(∃ d,a = .sh d∧(backV as e1)[i]? = some (.sh d))∨(∃ d,a = .bo d∧(backV as e1)[i]? = e1[i]?∧σ1[i]? = (vs.map some)[i]?∧∃ d',e1[i]? = some (.bo d')∨e1[i]? = some (.bf d')):=fun i a h=>by
  obtain ⟨o1,o2⟩:=on i a h
  have hle:as.length≤e1.length:=by rw [t.ln]; simp
  have q:=Q0 hle h
  rcases okA i a h with ⟨d,rfl⟩ | ⟨d,rfl⟩
  ·exact .inl ⟨d,rfl,q⟩
  ·obtain ⟨x,y⟩:=t.bor i d o1
   exact .inr ⟨d,rfl,q,x.trans o2,y⟩
 have rtb:∀ i p,Rt (vs.map some) (backV as e1) i p→Rt σ1 e1 i p∧Rt (vs.map some) as i p:=fun i p r=>by
  obtain ⟨r1,r2⟩:=r
  cases q:as[i]? with
  | none =>
   exfalso
   have:(backV as e1)[i]? = none:=by
    rw [List.getElem?_eq_none_iff] at q ⊢
    rw [Fx]; exact q
   rw [this] at r1; exact r1
  | some a =>
   rcases be i a q with ⟨d,rfl,h1⟩ | ⟨d,rfl,h1,h2,_⟩
   ·rw [h1] at r1; exact r1.elim
   ·exact ⟨⟨by rw [← h1]; exact r1,by rw [h2]; exact r2⟩,⟨by rw [q]; trivial,r2⟩⟩
 refine ⟨⟨t.sr.bs,t.sr.tabs,t.sr.scr,by rw [Fx]; exact sr.len,fun i=>?_,fun i j p a b=>t.sr.inj i j p (rtb i p a).1 (rtb j p b).1⟩,⟨t.gm.nd,t.gm.kd,fun b u m=>⟨(t.gm.at_ b u m).1,(t.gm.at_ b u m).2.1,fun i r=>(t.gm.at_ b u m).2.2 i (rtb i b r).1⟩⟩,t.le,fun a o h n ng nt=>t.keep a o h (fun i r=>n i (Mq hl r)) ng nt,t.dom,fun a h1 h2 n=>t.new a h1 h2 fun i r=>n i (Mq hl r),⟨Fx,fun i s hs=>?_⟩,t.gup,t.gnw⟩
 ·cases q:as[i]? with
  | none =>
   have:(backV as e1)[i]? = none:=by
    rw [List.getElem?_eq_none_iff] at q ⊢
    rw [Fx]; exact q
   rw [this]; trivial
  | some a =>
   rcases be i a q with ⟨d,rfl,h1⟩ | ⟨d,rfl,h1,h2,_⟩
   ·have sl:=sr.slot i
    rw [q] at sl
    rw [h1]
    obtain ⟨v,ev,r⟩:=sl
    exact ⟨v,ev,r.mono t.le⟩
   ·have sl:=t.sr.slot i
    rw [h1,← h2]
    exact sl
 ·rcases be i s hs with ⟨d,rfl,h1⟩ | ⟨d,rfl,h1,h2,d',h3⟩
  ·exact ⟨_,h1,SlLe.refl _⟩
  ·rcases h3 with h3 | h3
   ·exact ⟨_,h1.trans h3,d',.inl rfl⟩
   ·exact ⟨_,h1.trans h3,d',.inr rfl⟩
end
end Vs
set_option maxRecDepth 100000
namespace Vs
open PySem PySem.Spec PyProof.Rows L2 Fw SX
section
variable {g:Gm} {G H G1 H1:Hp} {e1:Ve} {vs:List V} {as:List Sl} {N:List Str}
variable {γ γ1:Gh}
theorem Ak6 {σ1:L2.St} {r r':Rv} {e2:Ve} {v:V} (ok:as.all Eh = true) (sr:SR g G H (vs.map some) as) (t:St2 g G H (L2.start N vs) (as ++ List.replicate (N.length - as.length) .un) γ G1 H1 σ1 e1 γ1) (rv:RvOk g G1 H1 σ1 e1 H r v) (nf:∀ d p,r = .fresh d→v = .ref p→¬ InG γ1 p) (h:Dt r e1 = .ok r' e2) :
  ∃ G2,Tr2 g (vs.map some) G H as γ G2 H1 (backV as e2) γ1∧RvNew g G2 H1 H r' v∧∀ d p,r' = .fresh d→v = .ref p→¬ InG γ1 p:=by
 have hl:as.length = vs.length:=by rw [sr.len,List.length_map]
 cases r with
 | val d=>cases h; exact ⟨G1,Ln ok sr t,rv,fun _ _ z=>nomatch z⟩
 | fresh d =>
  cases h
  obtain ⟨p,ev,n,o,h0,_⟩:=rv
  exact ⟨G1,Ln ok sr t,⟨p,ev,n,o,h0⟩,nf⟩
 | slot i =>
  obtain ⟨ev,s,es,ns⟩:=id rv
  simp only [Dt] at h
  have gen:M.map (Bq (.slot i)) Rv.val e1 = .ok r' e2→∃ G2,Tr2 g (vs.map some) G H as γ G2 H1 (backV as e2) γ1∧RvNew g G2 H1 H r' v∧∀ d p,r' = .fresh d→v = .ref p→¬ InG γ1 p:=fun h=>by
   unfold M.map M.bind M.ret at h
   cases q:Bq (.slot i) e1 with
   | no=>rw [q] at h; cases h
   | er x e'=>rw [q] at h; cases h
   | ok d e3 =>
    rw [q] at h
    cases h
    obtain ⟨G2,t2,rp⟩:=Mh (Tr.refl t.sr) (r:=.slot i) (v:=v) ⟨ev,s,es,ns⟩ q
    exact ⟨G2,Ln ok sr (t.trans (t2.tr2 t.gm).st2),rp,fun _ _ z=>nomatch z⟩
  rw [es] at h
  cases s with
  | un=>exact absurd rfl ns
  | sh d=>exact gen h
  | bo d=>exact gen h
  | bf d=>exact gen h
  | lo d=>exact gen h
  | ow d =>
   cases h
   have sl:=t.sr.slot i
   rw [es] at sl
   obtain ⟨p,ep,n,o⟩:=sl
   rw [ep] at ev
   cases ev
   have rti:Rt σ1 e1 i p:=⟨by rw [es]; trivial,ep⟩
   refine ⟨G1,Ln ok sr t,⟨p,rfl,n,o,?_⟩,fun d2 p2 _ z m=>by
    cases z
    obtain ⟨u,hu⟩:=m
    exact (t.gm.at_ p u hu).2.2 i rti⟩
   rcases t.rto i d p es ep with ⟨j,d0,q1,q2⟩ | q
   ·exfalso
    by_cases hj:j < as.length
    ·rw [List.getElem?_append_left hj] at q1
     have:=List.all_eq_true.mp ok _ (List.mem_of_getElem? q1)
     cases this
    ·rw [List.getElem?_append_right (by omega)] at q1
     cases List.eq_of_mem_replicate (List.mem_of_getElem? q1)
   ·exact q
end
end Vs
set_option maxRecDepth 100000
namespace Vs
open PySem PySem.Spec PyProof.Rows L2 Fw SX
def Cr (np n:Nat) (body:W2):E2 Rv:=fun args γ P=>args.length = np∧body (args ++ List.replicate (n - args.length) .un) γ fun o e' γ'=>match o with
 | .c .nx=>P (.v (.val .non)) (backV args e') γ'
 | .c (.rt r)=>(match Dt r e' with
  | .ok r' e2=>P (.v r') (backV args e2) γ'
  | _=>False)
 | .er x=>P (.er x) (backV args e') γ'
 | _=>False
def sp2 (g:Gm) (F:E2 Rv):Sp:=fun vs H Q E=>∃ G args γ,args.all Eh = true∧SR g G H (vs.map some) args∧Gam g G H (vs.map some) args γ ∧
 F args γ (Pst2 g (WR E) (vs.map some) G H args γ fun r G' H' e' γ'=>∀ v,RvNew g G' H' H r v→(∀ d p,r = .fresh d→v = .ref p→¬ InG γ' p)→Q v H')
def Ec (g:Gm) (n:Nat) (F:E2 Rv):Sp:=fun vs H Q E=>vs.length = n∧sp2 g F vs H Q E
theorem Pu {P:Program} {w:World} {K:PySem.W.Frag} {mg:Str→Option Value} {base:Heap} {ca:Str→Addr} {Tb:LT} {sa:Addr} {sn:List Int} {x qual:Str} {params:Arguments} {body:List Stmt} {scope:Scope} {dvs:List V} {kws:List (Str × V)} {f:Addr} {fd:FuncData} {N ps:List Str} {k:Nat} {B:W2}
  (F:FunD K x qual params body scope dvs kws f fd) (S:FnScope N ps scope) (hb:∀ (cdv:Value) (A:Around) (outer:List PySem.Env) (s:Shared) (H:Hp) (E:XK),VSs2 ⟨K,w,ca,Tb,sa,sn⟩ (WR E) k (cxOf (L2.CX P w) P w K mg base N qual scope f cdv A outer s H E) body B) :
  FnG P w K mg base (L2.CX P w) (k + 1) f fd ps (Ec ⟨K,w,ca,Tb,sa,sn⟩ ps.length (Cr ps.length N.length B)):=by
 obtain ⟨oc,od,dV,kV,doc,pm,an,cdv,ct,osl,rfl,lk,hcd,_,_⟩:=F.ex
 refine Q2 lk hcd S (fun vs H Q E h=>h.1) fun A outer s H vs Q E hr h=>?_
 obtain ⟨hl,G,as,γ,ok,sr,gm,h⟩:=h
 have hla:as.length = vs.length:=by rw [sr.len,List.length_map]
 refine ⟨Ga ⟨K,w,ca,Tb,sa,sn⟩ (WR E) B,(hb cdv A outer s H E).run ⟨rfl,rfl,rfl,takes_of rfl rfl rfl rfl,hr,passes_of rfl,S.nd⟩,G,as ++ List.replicate (N.length - as.length) .un,γ,Q1 sr,Ak5 gm hla,?_⟩
 refine (hb cdv A outer s H E).mon _ _ _ _ (fun o e' γ' z=>?_) h.2
 cases o with
 | er x=>exact fun cls d σ' G' H' t xo=>z cls d G' H' (Ln ok sr t) xo
 | c c =>
  cases c with
  | nx=>exact fun σ' G' H' t=>z G' H' (Ln ok sr t) .non rfl fun _ _ y=>nomatch y
  | bk=>exact z.elim
  | ct=>exact z.elim
  | rt r =>
   intro v σ' G' H' t rv nf
   dsimp only at z
   cases q:Dt r e' with
   | no=>rw [q] at z; exact z.elim
   | er x e2=>rw [q] at z; exact z.elim
   | ok r' e2 =>
    rw [q] at z
    obtain ⟨G2,t2,nw,nf2⟩:=Ak6 ok sr t rv nf q
    exact z G2 H' t2 v nw nf2
end Vs
set_option maxRecDepth 100000
namespace Vs
open PySem PySem.Spec PyProof.Rows L2 Fw SX
section
variable {g:Gm} {G H G1 H1 G2 H2 H0:Hp} {σ:L2.St} {e e1:Ve} {rs:List Rv} {vs dvs:List V} {as as':List Sl} {dd:List D}
variable {γ γ1 γ2:Gh}
theorem Sd (t1:Tr2 g σ G H e γ G1 H1 e1 γ1) (rv:RvsOk g G1 H1 σ e1 H rs vs) (o:Bo rs = true) (ha:Ba rs e1 = some as)
  (t2:Tr2 g (vs.map some) G1 H1 as γ1 G2 H2 as' γ2):Tr2 g σ G H e γ G2 H2 (Bb rs as' e1) γ2:=by
 obtain ⟨sra,_,rts⟩:=K5 t1.sr rv o ha
 have l1:as.length = rs.length:=Ou ha
 have lv:vs.length = rs.length:=rv.len
 have l2:rs.length≤as'.length:=by rw [t2.ve.len,l1]; exact Nat.le_refl _
 have sr1:=t1.sr
 have nra:∀ (j:Nat) (p:Addr),Rt σ e1 j p→(∀ k:Nat,rs[k]?≠some (Rv.slot j))→∀ k:Nat,¬ Rt (vs.map some) as k p:=fun j p r n k ra=>by
  rcases rts k p ra with ⟨i,hi,ri⟩ | ⟨d,_,_,nr⟩
  ·have:=sr1.inj i j p ri r
   subst this
   exact n k hi
  ·exact nr j r
 have slotAt:∀ k j:Nat,rs[k]? = some (Rv.slot j)→∀ s,e1[j]? = some s→∀ a',as'[k]? = some a' →
   SlOk g G2 H2 (some (mrg s a')) σ[j]?∧SlLe s (mrg s a')∧(Dm (some (mrg s a'))→∀ p,σ[j]? = some (some (.ref p))→Rt (vs.map some) as' k p):=fun k j hk s hs a' ha'=>by
  obtain ⟨v,hv,ok⟩:=rv.at hk
  obtain ⟨ev,s',es,ns⟩:=ok
  rw [hs] at es
  cases es
  have hkl:k < as.length:=by rw [l1]; exact Bj hk
  obtain ⟨a,haa⟩:∃ a,as[k]? = some a:=⟨as[k],List.getElem?_eq_getElem hkl⟩
  obtain ⟨r,hr,hsl⟩:=Ov ha haa
  rw [hk] at hr
  cases hr
  have haa2:as[k]? = some a:=haa
  obtain ⟨a2,h2,le2⟩:=t2.ve.at_ k a haa2
  rw [ha'] at h2
  cases h2
  have hvv:(vs.map some)[k]? = some (some v):=by
   rw [List.getElem?_map,hv]; rfl
  have sl2:=t2.sr.slot k
  rw [ha',hvv] at sl2
  simp only [Ei] at hsl
  rw [hs] at hsl
  have sl1:=sr1.slot j
  rw [hs] at sl1
  cases s with
  | un=>exact absurd rfl ns
  | sh d =>
   refine ⟨?_,by cases a' <;> exact rfl,fun z=>by cases a' <;> exact z.elim⟩
   obtain ⟨v1,ev1,r1⟩:=sl1
   cases a' <;> exact ⟨v1,ev1,r1.mono t2.le⟩
  | bf d =>
   refine ⟨?_,by cases a' <;> exact rfl,fun z=>by cases a' <;> exact z.elim⟩
   obtain ⟨v1,ev1,r1⟩:=sl1
   cases a' <;> exact ⟨v1,ev1,r1.mono t2.le⟩
  | ow d =>
   cases hsl
   obtain ⟨d',rfl | rfl⟩:=le2
   ·obtain ⟨p,ep,n,ow⟩:=sl2
    refine ⟨⟨p,by rw [ev]; exact ep,n,ow⟩,⟨d',.inl rfl⟩,fun _ p' hp'=>⟨by rw [ha']; trivial,?_⟩⟩
    rw [hvv,← hp',ev]
   ·obtain ⟨v',ev',r⟩:=sl2
    cases ev'
    exact ⟨⟨v,ev,r⟩,⟨d',.inr rfl⟩,fun z=>z.elim⟩
  | lo d=>cases hsl
  | bo d =>
   cases hsl
   obtain ⟨d',rfl | rfl⟩:=le2
   ·obtain ⟨p,ep,n,ow⟩:=sl2
    refine ⟨⟨p,by rw [ev]; exact ep,n,ow⟩,⟨d',.inl rfl⟩,fun _ p' hp'=>⟨by rw [ha']; trivial,?_⟩⟩
    rw [hvv,← hp',ev]
   ·obtain ⟨v',ev',r⟩:=sl2
    cases ev'
    exact ⟨⟨v,ev,r⟩,⟨d',.inr rfl⟩,fun z=>z.elim⟩
 have at_:∀ j,(Bb rs as' e1)[j]? = (e1[j]?).map fun s=>match Cn j rs as' with | some a=>mrg s a | none=>s:=fun j=>by
  unfold Bb
  rw [Oq,Nat.zero_add]
  try (cases e1[j]? with
   | none=>rfl
   | some s=>show some _ = some _; congr 1)
 have cse:∀ (j:Nat) (s:Sl),e1[j]? = some s→(∃ (k:Nat) (a':Sl),rs[k]? = some (Rv.slot j)∧as'[k]? = some a'∧(Bb rs as' e1)[j]? = some (mrg s a'))∨((∀ k:Nat,rs[k]?≠some (Rv.slot j))∧(Bb rs as' e1)[j]? = some s):=fun j s hs=>by
  cases q:Cn j rs as' with
  | none=>exact .inr ⟨Q4 l2 q,by rw [at_,hs]; simp [q]⟩
  | some a =>
   obtain ⟨k,h1,h2⟩:=Ot q
   exact .inl ⟨k,a,h1,h2,by rw [at_,hs]; simp [q]⟩
 have ve2:VeLe e1 (Bb rs as' e1):=by
  refine ⟨Q3,fun j s hs=>?_⟩
  rcases cse j s hs with ⟨k,a',hk,ha',q⟩ | ⟨n,q⟩
  ·exact ⟨_,q,(slotAt k j hk s hs a' ha').2.1⟩
  ·exact ⟨s,q,SlLe.refl s⟩
 refine ⟨⟨t2.sr.bs,t2.sr.tabs,t2.sr.scr,by rw [ve2.len]; exact sr1.len,fun j=>?_,fun i j p a b=>sr1.inj i j p (ve2.rt a) (ve2.rt b)⟩,⟨t2.gm.nd,t2.gm.kd,fun b u m=>⟨(t2.gm.at_ b u m).1,(t2.gm.at_ b u m).2.1,fun i r=>by
   have r1:=ve2.rt r
   rcases t2.gnw b ⟨u,m⟩ with ⟨x,mx⟩ | z
   ·exact (t1.gm.at_ b x mx).2.2 i r1
   ·exact (sr1.root r1).2 z⟩⟩,t1.le.trans t2.le,fun a ob h n ng nt=>?_,fun a h=>t1.dom a (t2.dom a h),fun a h1 h2 n=>?_,t1.ve.trans ve2,fun x m=>t2.gup x (t1.gup x m),fun x m=>by
   rcases t2.gnw x m with y | y
   ·exact t1.gnw x y
   ·exact .inr (t1.dom x y)⟩
 ·cases q0:e1[j]? with
  | none =>
   rw [at_,q0]; trivial
  | some s =>
   rcases cse j s q0 with ⟨k,a',hk,ha',q⟩ | ⟨n,q⟩
   ·rw [q]; exact (slotAt k j hk s q0 a' ha').1
   ·rw [q]
    have sl:=sr1.slot j
    rw [q0] at sl
    cases s with
    | un=>trivial
    | sh d=>obtain ⟨v,ev,r⟩:=sl; exact ⟨v,ev,r.mono t2.le⟩
    | bf d=>obtain ⟨v,ev,r⟩:=sl; exact ⟨v,ev,r.mono t2.le⟩
    | lo d =>
     obtain ⟨p,ep,np,ow⟩:=sl
     obtain ⟨ob,u,ho,_⟩:=ow.there
     have nn:∀ k:Nat,¬ Rt (vs.map some) as k p:=fun k ra=>sra.nofrz ho k ra
     exact ⟨p,ep,t2.new p np (by rw [ho]; exact fun z=>nomatch z) nn,ow.mono t2.le (by rw [t2.keep _ _ ho nn (fun ⟨x,m⟩=>(t1.gm.at_ p x m).2.1.nofrz _ _ ho) (fun ps z=>nomatch z),ho])⟩
    | ow d =>
     obtain ⟨p,ep,np,ow⟩:=sl
     obtain ⟨ob,ho,pl,_⟩:=ow.there
     have nn:=nra j p ⟨by rw [q0]; trivial,ep⟩ n
     exact ⟨p,ep,t2.new p np (by rw [ho]; exact fun z=>nomatch z) nn,ow.mono t2.le (by rw [t2.keep _ _ ho nn (fun ⟨x,m⟩=>(t1.gm.at_ p x m).2.2 j ⟨by rw [q0]; trivial,ep⟩) pl.nt,ho])⟩
    | bo d =>
     obtain ⟨p,ep,np,ow⟩:=sl
     obtain ⟨ob,ho,pl,_⟩:=ow.there
     have nn:=nra j p ⟨by rw [q0]; trivial,ep⟩ n
     exact ⟨p,ep,t2.new p np (by rw [ho]; exact fun z=>nomatch z) nn,ow.mono t2.le (by rw [t2.keep _ _ ho nn (fun ⟨x,m⟩=>(t1.gm.at_ p x m).2.2 j ⟨by rw [q0]; trivial,ep⟩) pl.nt,ho])⟩
 ·refine t2.keep a ob (t1.keep a ob h n ng nt) (fun k r=>?_) (fun m=>by
   rcases t1.gnw a m with y | y
   ·exact ng y
   ·rw [h] at y; cases y) nt
  rcases rts k a r with ⟨i,_,ri⟩ | ⟨d,_,h0,_⟩
  ·exact n i (t1.ve.rt ri)
  ·rw [h] at h0; cases h0
 ·refine t2.new a (t1.new a h1 h2 n) (fun z=>h2 (t1.dom a z)) fun k r=>?_
  rcases rts k a r with ⟨i,_,ri⟩ | ⟨d,_,h0,_⟩
  ·exact n i (t1.ve.rt ri)
  ·exact h2 h0
end
end Vs
set_option maxRecDepth 100000
namespace Vs
open PySem PySem.Spec PyProof.Rows L2 Fw SX
def Ju (F:E2 Rv) (rs:List Rv):E2 Rv:=fun e γ P=>Bo rs = true∧match Ba rs e with
 | some as=>F as γ fun o as' γ'=>P o (Bb rs as' e) γ'
 | none=>False
theorem Pw {F:E2 Rv} (m:Ak F) (rs:List Rv):Ak (Ju F rs):=fun e γ P P' h q=>by
 unfold Ju at q ⊢
 refine ⟨q.1,?_⟩
 have q2:=q.2
 revert q2
 cases Ba rs e with
 | none=>exact fun q=>q
 | some as=>exact fun q=>m _ _ _ _ (fun o as' γ' z=>h _ _ _ z) q
theorem Yf {g:Gm} {W:WX} {F:E2 Rv} {rs:List Rv} {vs:List V} {σ:L2.St} {G H G1 H1:Hp} {e e1:Ve} {γ γ1:Gh} {Q:VK} (mF:Ak F) (sr:SR g G H σ e) (t1:Tr2 g σ G H e γ G1 H1 e1 γ1) (rv:RvsOk g G1 H1 σ e1 H rs vs)
  (nf:∀ (i:Nat) d p,rs[i]? = some (.fresh d)→vs[i]? = some (.ref p)→¬ InG γ1 p)
  (h1:Ju F rs e1 γ1 (Pst2 g W σ G H e γ fun r G' H' e' γ'=>∀ v,RvOk2 g G' H' σ e' γ' H r v→Q v H')):sp2 g F vs H1 Q (fun cls d H'=>W cls d σ H'):=by
 obtain ⟨o,h1⟩:=h1
 cases qa:Ba rs e1 with
 | none=>rw [qa] at h1; exact h1.elim
 | some as =>
  rw [qa] at h1
  obtain ⟨sra,oka,rts⟩:=K5 t1.sr rv o qa
  refine ⟨G1,as,γ1,oka,sra,⟨t1.gm.nd,t1.gm.kd,fun b u m=>⟨(t1.gm.at_ b u m).1,(t1.gm.at_ b u m).2.1,fun i r=>?_⟩⟩,mF _ _ _ _ (fun out as' γ' z=>?_) h1⟩
  ·rcases rts i b r with ⟨j,_,rj⟩ | ⟨d,hr,_,_⟩
   ·exact (t1.gm.at_ b u m).2.2 j rj
   ·have hv:=r.2
    rw [List.getElem?_map] at hv
    cases qv:vs[i]? with
    | none=>rw [qv] at hv; cases hv
    | some v =>
     rw [qv] at hv
     cases hv
     exact nf i d b hr qv ⟨u,m⟩
  ·cases out with
   | er x=>exact fun cls d G2 H2 t2 xo=>z cls d G2 H2 (Sd t1 rv o qa t2) xo
   | v r =>
    intro G2 H2 t2 v nw nfr
    have t3:=Sd t1 rv o qa t2
    refine z G2 H2 t3 v ⟨?_,nfr⟩
    cases r with
    | val d=>exact nw
    | slot i=>exact nw.elim
    | fresh d =>
     obtain ⟨p,ev,np,ow,h0⟩:=nw
     exact ⟨p,ev,np,ow,t1.dom p h0,fun i r=>(sr.root (t3.ve.rt r)).2 (t1.dom p h0)⟩
end Vs
set_option maxRecDepth 100000
namespace Vs
open PySem PySem.Spec PyProof.Rows L2 Fw SX
mutual
def nc:D→Bool
 | .lst ds=>ncs ds
 | .tup ds=>ncs ds
 | .dct _=>false
 | .ins _ _=>false
 | _=>true
def ncs:List D→Bool
 | []=>true
 | d :: ds=>nc d && ncs ds
end
def C0:D→Bool
 | .lst ds=>ncs ds
 | .tup ds=>ncs ds
 | .dct kvs=>kvs.all fun q=>nc q.2
 | .ins _ fs=>fs.all fun q=>nc q.2
 | _=>true
def ncF (fs:List (Str × D)):Bool:=fs.all fun q=>nc q.2
section
variable {g:Gm} {G1 G2:Hp} {γ:Gh}
theorem ConR.drp (h:Drp g G1 G2 γ):∀ {u v:V},ConR g G1 u v→ConR g G2 u v
 | .flt i,v,r=>by
  show FnR g G2 i v
  have r:FnR g G1 i v:=r
  unfold FnR at r ⊢
  split at r
  ·exact r
  ·obtain ⟨f,c,e,a,b⟩:=r
   exact ⟨f,c,e,h.ext a (fun _ z=>by unfold N9 at z; cases z) (fun _ _ _ z=>by unfold N9 at z; cases z),h.ext b (fun _ z=>by unfold LamX.CodeO at z; cases z) (fun _ _ _ z=>by unfold LamX.CodeO at z; cases z)⟩
 | .non,_,r=>r
 | .bl _,_,r=>r
 | .int _,_,r=>r
 | .str _,_,r=>r
 | .byt _,_,r=>r
 | .ref _,_,r=>r
 | .ty _,_,r=>r
mutual
theorem Rep.drp (h:Drp g G1 G2 γ):∀ {d:D} {v:V},nc d = true→Rep g G1 d v→Rep g G2 d v
 | .non,_,_,r=>r
 | .bl _,_,_,r=>r
 | .int _,_,_,r=>r
 | .str _,_,_,r=>r
 | .lst _,_,n,⟨a,vs,e,q,r⟩=>⟨a,vs,e,h.lst q,Reps.drp h n r⟩
 | .tup _,_,n,⟨a,vs,e,q,r⟩=>⟨a,vs,e,h.sqT q,Reps.drp h n r⟩
 | .dct _,_,n,_=>nomatch n
 | .set _,_,_,⟨a,L,e,q,r⟩=>⟨a,L,e,h.ext q (fun _ z=>by unfold Gr at z; cases z) (fun _ _ _ z=>by unfold Gr at z; cases z),r⟩
 | .ins _ _,_,n,_=>nomatch n
 | .con _,_,_,r=>ConR.drp h r
 | .scr _,_,_,r=>r
theorem Reps.drp (h:Drp g G1 G2 γ):∀ {ds:List D} {vs:List V},ncs ds = true→Reps g G1 ds vs→Reps g G2 ds vs
 | [],_,_,r=>r
 | _ :: _,_,n,⟨v,r,e,p,q⟩=>⟨v,r,e,Rep.drp h (Bool.and_eq_true_iff.mp n).1 p,Reps.drp h (Bool.and_eq_true_iff.mp n).2 q⟩
end
theorem RepK.drp (h:Drp g G1 G2 γ):∀ {ds:List (List Nat × D)} {vs:List (Key × V)},(ds.all fun q=>nc q.2) = true→RepK g G1 ds vs→RepK g G2 ds vs
 | [],_,_,r=>r
 | (_,_) :: _,_,n,⟨ok,v,r,e,p,q⟩=>by
  rw [List.all_cons,Bool.and_eq_true] at n
  exact ⟨ok,v,r,e,Rep.drp h n.1 p,RepK.drp h n.2 q⟩
theorem RepF.drp (h:Drp g G1 G2 γ):∀ {ds:List (Str × D)} {vs:List (Str × V)},(ds.all fun q=>nc q.2) = true→RepF g G1 ds vs→RepF g G2 ds vs
 | [],_,_,r=>r
 | (_,_) :: _,_,n,⟨v,r,e,p,q⟩=>by
  rw [List.all_cons,Bool.and_eq_true] at n
  exact ⟨v,r,e,Rep.drp h n.1 p,RepF.drp h n.2 q⟩
theorem Rep.drpAt (h:Drp g G1 G2 γ) {p:Addr} (np:¬ InG γ p):∀ {d:D},C0 d = true→Rep g G1 d (.ref p)→Rep g G2 d (.ref p)
 | .lst _,n,⟨a,vs,e,q,r⟩=>⟨a,vs,e,h.lst q,Reps.drp h n r⟩
 | .tup _,n,⟨a,vs,e,q,r⟩=>⟨a,vs,e,h.sqT q,Reps.drp h n r⟩
 | .dct _,n,⟨a,vs,e,q,r⟩=>by
  cases e
  exact ⟨p,vs,rfl,by rw [h.eq p np]; exact q,RepK.drp h n r⟩
 | .ins _ _,n,⟨a,dx,vs,e,q,r,k⟩=>by
  cases e
  exact ⟨p,dx,vs,rfl,by rw [h.eq p np]; exact q,RepF.drp h n r,k⟩
 | .non,_,r=>r
 | .bl _,_,r=>r
 | .int _,_,r=>r
 | .str _,_,r=>r
 | .set _,_,r=>Rep.drp h rfl r
 | .con _,_,r=>ConR.drp h r
 | .scr _,_,r=>r
theorem Own.drp (h:Drp g G1 G2 γ) {H:Hp} {p:Addr}:∀ {d:D},C0 d = true→Own g G1 H p d→Own g G2 H p d
 | .lst _,n,⟨vs,a,r⟩=>⟨vs,a,Reps.drp h n r⟩
 | .dct _,n,⟨vs,a,r⟩=>⟨vs,a,RepK.drp h n r⟩
 | .ins _ _,n,⟨dx,vs,a,r,k⟩=>⟨dx,vs,a,RepF.drp h n r,k⟩
end
def Er (γ:Gh):List (Str × D)→List (Str × D)
 | []=>[]
 | (f,.con (.ref b)) :: r=>(f,(γ.lookup b).getD (.con (.ref b))) :: Er γ r
 | q :: r=>q :: Er γ r
def proD (γ:Gh):D→D
 | .ins c fs=>.ins c (Er γ fs)
 | d=>d
def Ed (γ:Gh):Sl→Sl
 | .sh (.con (.ref b))=>.sh (match γ.lookup b with | some d=>proD γ d | none=>.con (.ref b))
 | s=>s
def Bi (γ:Gh) (e:Ve):Ve:=e.map (Ed γ)
def Jv:Sl→Sl→Sl
 | .ow _,s=>s
 | .bo _,s=>s
 | s,_=>s
def B3 (e e1:Ve):Ve:=List.zipWith Jv e e1
def Bv:Ve→Ve→Bool
 | .ow _ :: r,.ow d :: r1=>C0 d && Bv r r1
 | .ow _ :: r,.sh d :: r1=>C0 d && Bv r r1
 | .bo _ :: r,.bo d :: r1=>C0 d && Bv r r1
 | .bo _ :: r,.bf d :: r1=>C0 d && Bv r r1
 | _ :: r,_ :: r1=>Bv r r1
 | _,_=>true
def bakR:Rv→Bool
 | .val d=>nc d
 | .fresh d=>C0 d
 | .slot _=>true
def rd2 (F:M Rv):E2 Rv:=fun e γ P=>match F (Bi γ e) with
 | .ok r e1=>bakR r = true∧Bv e e1 = true∧P (.v r) (B3 e e1) γ
 | .er x e1=>ncF x.2 = true∧Bv e e1 = true∧P (.er x) (B3 e e1) γ
 | .no=>False
def rdT (F:M Bool):E2 Bool:=fun e γ P=>match F (Bi γ e) with
 | .ok b e1=>Bv e e1 = true∧P (.v b) (B3 e e1) γ
 | .er x e1=>ncF x.2 = true∧Bv e e1 = true∧P (.er x) (B3 e e1) γ
 | .no=>False
theorem Jw (F:M Rv):Ak (rd2 F):=fun e γ P P' h q=>by
 unfold rd2 at q ⊢
 revert q
 cases F (Bi γ e) with
 | no=>exact fun q=>q
 | er x e'=>exact fun q=>⟨q.1,q.2.1,h _ _ _ q.2.2⟩
 | ok a e'=>exact fun q=>⟨q.1,q.2.1,h _ _ _ q.2.2⟩
theorem Jx (F:M Bool):Ak (rdT F):=fun e γ P P' h q=>by
 unfold rdT at q ⊢
 revert q
 cases F (Bi γ e) with
 | no=>exact fun q=>q
 | er x e'=>exact fun q=>⟨q.1,q.2.1,h _ _ _ q.2.2⟩
 | ok a e'=>exact fun q=>⟨q.1,h _ _ _ q.2⟩
def Gp (γ:Gh) (G H:Hp):Hp:=fun a=>if (γ.lookup a).isSome then H a else G a
def Gd (γ:Gh) (G:Hp):Hp:=fun a=>if (γ.lookup a).isSome then none else G a
theorem look_iff {γ:Gh} {b:Addr}:(γ.lookup b).isSome = true↔InG γ b:=by
 constructor
 ·intro h
  obtain ⟨d,hd⟩:=Option.isSome_iff_exists.mp h
  exact ⟨d,Gb hd⟩
 ·rintro ⟨d,m⟩
  induction γ with
  | nil=>cases m
  | cons q r ih =>
   obtain ⟨a,u⟩:=q
   rw [List.lookup_cons]
   cases z:b == a with
   | true=>rfl
   | false =>
    rcases List.mem_cons.mp m with y | y
    ·cases y
     rw [beq_self_eq_true] at z
     cases z
    ·exact ih y
section
variable {g:Gm} {G H G1 H1:Hp} {σ:L2.St} {e e1:Ve} {γ:Gh}
theorem Px {a:Addr} (m:InG γ a):Gp γ G H a = H a:=by unfold Gp; rw [if_pos (look_iff.mpr m)]
theorem Hr {a:Addr} (m:¬ InG γ a):Gp γ G H a = G a:=by unfold Gp; rw [if_neg (fun z=>m (look_iff.mp z))]
theorem Nq {a:Addr} (m:InG γ a):Gd γ G a = none:=by unfold Gd; rw [if_pos (look_iff.mpr m)]
theorem Jy {a:Addr} (m:¬ InG γ a):Gd γ G a = G a:=by unfold Gd; rw [if_neg (fun z=>m (look_iff.mp z))]
theorem Se (gm:Gam g G H σ e γ):Le G (Gp γ G H):=fun a u h=>by
 rw [Hr (fun ⟨d,m⟩=>by rw [(gm.at_ a d m).1] at h; cases h)]
 exact h
theorem Ak7 {p:Addr} {d:D} (k:Ic d = true) (o:Own g G H p d):∃ u,H p = some u∧((∃ vs,u = .dK vs)∨∃ c dx vs,u = .ins c dx vs):=by
 cases d with
 | dct kvs=>obtain ⟨vs,a,r⟩:=o; exact ⟨_,a,.inl ⟨_,rfl⟩⟩
 | ins c fs=>obtain ⟨dx,vs,a,r,_⟩:=o; exact ⟨_,a,.inr ⟨_,_,_,rfl⟩⟩
 | _=>cases k
theorem gp_bs (sr:SR g G H σ e) (gm:Gam g G H σ e γ):Bs (Gp γ G H) H:=by
 refine ⟨fun a o u h=>?_,fun a u h=>?_⟩
 ·by_cases m:InG γ a
  ·rw [Px m] at h
   obtain ⟨d,m⟩:=m
   obtain ⟨_,ow,_⟩:=gm.at_ a d m
   exact ow.nofrz _ _ h
  ·rw [Hr m] at h
   exact sr.bs.pl a o u h
 ·by_cases m:InG γ a
  ·rw [Px m] at h; exact .inl h
  ·rw [Hr m] at h; exact sr.bs.sub a u h
theorem Yg (gm:Gam g G H σ e γ) {b:Addr} {d:D} (h:γ.lookup b = some d):Rep g (Gp γ G H) d (.ref b):=by
 obtain ⟨_,ow,_⟩:=gm.at_ b d (Gb h)
 obtain ⟨ob,ho,_,mk⟩:=ow.there
 exact mk (Se gm) (by rw [Px ⟨d,Gb h⟩]; exact ho)
theorem Yh (gm:Gam g G H σ e γ):∀ {fs:List (Str × D)} {vs:List (Str × V)},RepF g (Gp γ G H) fs vs→RepF g (Gp γ G H) (Er γ fs) vs
 | [],_,r=>r
 | (f,d) :: fs,_,⟨v,t,ev,a,b⟩=>by
  have ih:=Yh gm b
  unfold Er
  split
  ·rename_i z; cases z
  ·rename_i f' b' r' z
   cases z
   refine ⟨v,t,ev,?_,ih⟩
   cases q:γ.lookup b' with
   | none=>exact a
   | some d' =>
    have e2:v = .ref b':=a
    rw [e2]
    exact Yg gm q
  ·rename_i q' r' _ z
   cases z
   exact ⟨v,t,ev,a,ih⟩
theorem Sf {q:Str × D}:∀ {fs:List (Str × D)},q∈Er γ fs→∃ x,(q.1,x)∈fs
 | [],h=>by cases h
 | (f,d) :: fs,h=>by
  unfold Er at h
  split at h
  ·rename_i z; cases z
  ·rename_i f' b' r' z
   cases z
   rcases List.mem_cons.mp h with y | y
   ·rw [y]; exact ⟨_,List.mem_cons_self⟩
   ·obtain ⟨x,hx⟩:=Sf y
    exact ⟨x,List.mem_cons_of_mem _ hx⟩
  ·rename_i q' r' _ z
   cases z
   rcases List.mem_cons.mp h with y | y
   ·rw [y]; exact ⟨d,List.mem_cons_self⟩
   ·obtain ⟨x,hx⟩:=Sf y
    exact ⟨x,List.mem_cons_of_mem _ hx⟩
theorem pro_d (gm:Gam g G H σ e γ) {d:D} {v:V} (r:Rep g (Gp γ G H) d v):Rep g (Gp γ G H) (proD γ d) v:=by
 cases d with
 | ins c fs =>
  obtain ⟨a,dx,vs,ev,q,rf,io⟩:=r
  refine ⟨a,dx,vs,ev,q,Yh gm rf,io.1,fun y hy=>?_⟩
  obtain ⟨x,hx⟩:=Sf hy
  exact io.2 (y.1,x) hx
 | _=>exact r
theorem Py {i:Nat}:(Bi γ e)[i]? = (e[i]?).map (Ed γ):=by unfold Bi; rw [List.getElem?_map]
theorem Ak8 {o:Option Sl}:Dm (o.map (Ed γ))↔Dm o:=by
 cases o with
 | none=>exact Iff.rfl
 | some s =>
  cases s with
  | sh d =>
   show Dm (some (Ed γ (.sh d)))↔_
   unfold Ed
   split
   ·rename_i z; cases z; exact Iff.rfl
   ·exact Iff.rfl
  | _=>exact Iff.rfl
theorem rt_pro {i:Nat} {p:Addr}:Rt σ (Bi γ e) i p↔Rt σ e i p:=by
 unfold Rt
 rw [Py,Ak8]
theorem SR.pro (sr:SR g G H σ e) (gm:Gam g G H σ e γ):SR g (Gp γ G H) H σ (Bi γ e):=by
 have le:=Se gm
 have np:∀ {p:Addr} {i:Nat},Rt σ e i p→Gp γ G H p = G p:=fun {p i} r=>Hr fun ⟨d,m⟩=>(gm.at_ p d m).2.2 i r
 refine ⟨gp_bs sr gm,sr.tabs.mono le (fun a ps h n=>?_),sr.scr.mono le,by unfold Bi; rw [List.length_map]; exact sr.len,fun i=>?_,fun i j p a b=>sr.inj i j p (rt_pro.mp a) (rt_pro.mp b)⟩
 ·rw [Hr (fun m=>by
   obtain ⟨o,ho,pl⟩:=gm.there m
   rw [ho] at h
   exact pl.nt ps (Option.some.inj h))]
  exact n
 ·have sl:=sr.slot i
  rw [Py]
  cases q:e[i]? with
  | none=>trivial
  | some s =>
   rw [q] at sl
   cases s with
   | un=>trivial
   | sh d =>
    obtain ⟨v,ev,r⟩:=sl
    have r:=Rep.mono le r
    show SlOk g _ H (some (Ed γ (.sh d))) _
    unfold Ed
    split
    ·rename_i b z
     cases z
     refine ⟨v,ev,?_⟩
     cases q2:γ.lookup b with
     | none=>exact r
     | some d' =>
      have e2:v = .ref b:=r
      rw [e2]
      exact pro_d gm (Yg gm q2)
    ·exact ⟨v,ev,r⟩
   | bf d=>obtain ⟨v,ev,r⟩:=sl; exact ⟨v,ev,r.mono le⟩
   | ow d =>
    obtain ⟨p,ev,n,r⟩:=sl
    exact ⟨p,ev,by rw [np ⟨by rw [q]; trivial,ev⟩]; exact n,r.mono le rfl⟩
   | bo d =>
    obtain ⟨p,ev,n,r⟩:=sl
    exact ⟨p,ev,by rw [np ⟨by rw [q]; trivial,ev⟩]; exact n,r.mono le rfl⟩
   | lo d =>
    obtain ⟨p,ev,n,r⟩:=sl
    obtain ⟨ob,u,ho,_⟩:=r.there
    exact ⟨p,ev,by rw [Hr (fun ⟨d,m⟩=>(gm.at_ p d m).2.1.nofrz _ _ ho)]; exact n,r.mono le rfl⟩
theorem Yi (hl:e1.length = e.length) {i:Nat} {s:Sl} (h:e[i]? = some s):∃ s1,e1[i]? = some s1∧(B3 e e1)[i]? = some (Jv s s1):=by
 have hi:i < e1.length:=by rw [hl]; exact Bj h
 refine ⟨e1[i],List.getElem?_eq_getElem hi,?_⟩
 unfold B3
 rw [List.getElem?_zipWith,h,List.getElem?_eq_getElem hi]
theorem Yj (hl:e1.length = e.length) {i:Nat} (h:e[i]? = none):(B3 e e1)[i]? = none:=by
 unfold B3
 rw [List.getElem?_zipWith,h]
theorem Yk:∀ {e e1:Ve} {i:Nat} {s s1:Sl},Bv e e1 = true→e[i]? = some s→e1[i]? = some s1→(∀ d0 d,s = .ow d0→(s1 = .ow d∨s1 = .sh d)→C0 d = true)∧(∀ d0 d,s = .bo d0→(s1 = .bo d∨s1 = .bf d)→C0 d = true)
 | [],_,i,s,s1,_,h,_=>by simp at h
 | a :: r,[],i,s,s1,_,_,h=>by simp at h
 | a :: r,b :: r1,i,s,s1,o,h1,h2=>by
  have tl:Bv r r1 = true∧(∀ d0 d,a = .ow d0→(b = .ow d∨b = .sh d)→C0 d = true)∧(∀ d0 d,a = .bo d0→(b = .bo d∨b = .bf d)→C0 d = true):=by
   cases a <;> cases b <;> simp only [Bv,Bool.and_eq_true] at o <;> simp_all
  cases i with
  | zero=>cases h1; cases h2; exact tl.2
  | succ i=>exact Yk (e:=r) (e1:=r1) (i:=i) tl.1 h1 h2
theorem Pz (sr:SR g G H σ e) (gm:Gam g G H σ e γ) (t:Tr g σ (Gp γ G H) H (Bi γ e) G1 H1 e1) (ok:Bv e e1 = true) :
  Drp g G1 (Gd γ G1) γ∧Tr2 g σ G H e γ (Gd γ G1) H1 (B3 e e1) γ:=by
 have hl:e1.length = e.length:=by rw [t.ve.len]; unfold Bi; rw [List.length_map]
 have keepC:∀ b d,(b,d)∈γ→H1 b = H b:=fun b d m=>by
  obtain ⟨n,o,r⟩:=gm.at_ b d m
  obtain ⟨ob,ho,pl,_⟩:=o.there
  rw [ho]
  exact t.keep b ob ho (fun i q=>r i (rt_pro.mp q)) pl.nt
 have drp:Drp g G1 (Gd γ G1) γ:=by
  refine ⟨fun a m=>Jy m,fun a m u h=>?_⟩
  obtain ⟨d,m⟩:=m
  obtain ⟨n,o,r⟩:=gm.at_ a d m
  obtain ⟨u0,h0,k0⟩:=Ak7 (gm.kd a d m) o
  have h2:=t.le a u0 (by rw [Px ⟨d,m⟩]; exact h0)
  rw [h2] at h
  cases h
  exact k0
 have le:Le G (Gd γ G1):=fun a u h=>by
  rw [Jy (fun ⟨d,m⟩=>by rw [(gm.at_ a d m).1] at h; cases h)]
  exact t.le a u (Se gm a u h)
 have bs:Bs (Gd γ G1) H1:=by
  refine ⟨fun a o u h=>?_,fun a u h=>?_⟩
  ·by_cases m:InG γ a
   ·rw [Nq m] at h; cases h
   ·rw [Jy m] at h; exact t.sr.bs.pl a o u h
  ·by_cases m:InG γ a
   ·rw [Nq m] at h; cases h
   ·rw [Jy m] at h; exact t.sr.bs.sub a u h
 have nn:∀ {p:Addr},G1 p = none→Gd γ G1 p = none:=fun {p} h=>by
  by_cases m:InG γ p
  ·exact Nq m
  ·rw [Jy m]; exact h
 have ve:∀ (i:Nat) s,e[i]? = some s→∃ s1,e1[i]? = some s1∧(B3 e e1)[i]? = some (Jv s s1)∧SlLe (Ed γ s) s1:=fun i s h=>by
  obtain ⟨s1,h1,h2⟩:=Yi hl h
  obtain ⟨s2,h3,l⟩:=t.ve.at_ i (Ed γ s) (by rw [Py,h]; rfl)
  rw [h1] at h3
  cases h3
  exact ⟨s1,h1,h2,l⟩
 have rtb:∀ (i:Nat) p,Rt σ (B3 e e1) i p→Rt σ e1 i p∧Rt σ e i p:=fun i p r=>by
  obtain ⟨r1,r2⟩:=r
  cases q:e[i]? with
  | none=>rw [Yj hl q] at r1; exact r1.elim
  | some s =>
   obtain ⟨s1,h1,h2,l⟩:=ve i s q
   rw [h2] at r1
   cases s with
   | ow d=>exact ⟨⟨by rw [h1]; exact r1,r2⟩,⟨by rw [q]; trivial,r2⟩⟩
   | bo d=>exact ⟨⟨by rw [h1]; exact r1,r2⟩,⟨by rw [q]; trivial,r2⟩⟩
   | un=>exact r1.elim
   | sh d=>exact r1.elim
   | bf d=>exact r1.elim
   | lo d=>exact r1.elim
 refine ⟨drp,⟨⟨bs,?_,?_,?_,fun i=>?_,fun i j p a b=>t.sr.inj i j p (rtb i p a).1 (rtb j p b).1⟩,⟨gm.nd,gm.kd,fun b d m=>?_⟩,le,fun a o h n ni nt=>t.keep a o h (fun i r=>n i (rt_pro.mp r)) nt,t.dom,fun a h1 h2 n=>?_,⟨?_,fun i s h=>?_⟩,fun _ m=>m,fun _ m=>.inl m⟩⟩
 ·refine fun q hq=>?_
  obtain ⟨ps,h1,hg,h2,h3⟩:=t.sr.tabs q hq
  refine ⟨ps,h1,nn hg,h2,fun pos cv hc=>?_⟩
  obtain ⟨c,x1,x2⟩:=h3 pos cv hc
  exact ⟨c,x1,drp.ext x2 (fun _ z=>by unfold LamX.CodeO at z; cases z) (fun _ _ _ z=>by unfold LamX.CodeO at z; cases z)⟩
 ·rcases t.sr.scr with h | h | h
  ·exact .inl h
  ·exact .inr (.inl h)
  ·exact .inr (.inr (drp.lst h))
 ·unfold B3
  rw [List.length_zipWith,hl,Nat.min_self]
  exact sr.len
 ·cases q:e[i]? with
  | none=>rw [Yj hl q]; trivial
  | some s =>
   obtain ⟨s1,h1,h2,l⟩:=ve i s q
   obtain ⟨ok1,ok2⟩:=Yk ok q h1
   rw [h2]
   have sl0:=sr.slot i
   have sl1:=t.sr.slot i
   rw [q] at sl0
   rw [h1] at sl1
   cases s with
   | un=>trivial
   | sh d=>obtain ⟨v,ev,r⟩:=sl0; exact ⟨v,ev,r.mono le⟩
   | bf d=>obtain ⟨v,ev,r⟩:=sl0; exact ⟨v,ev,r.mono le⟩
   | lo d =>
    obtain ⟨p,ev,n,r⟩:=sl0
    obtain ⟨ob,u,ho,_⟩:=r.there
    have nr:∀ i,¬ Rt σ (Bi γ e) i p:=fun j r=>sr.nofrz ho j (rt_pro.mp r)
    exact ⟨p,ev,nn (t.new p (by rw [Hr (fun ⟨d,m⟩=>(gm.at_ p d m).2.1.nofrz _ _ ho)]; exact n) (by rw [ho]; exact fun z=>nomatch z) nr),r.mono le (by rw [t.keep _ _ ho nr (fun ps z=>nomatch z),ho])⟩
   | ow d =>
    obtain ⟨p0,ev0,n0,r0⟩:=sl0
    have np:¬ InG γ p0:=fun ⟨d,m⟩=>(gm.at_ p0 d m).2.2 i ⟨by rw [q]; trivial,ev0⟩
    obtain ⟨d',rfl | rfl⟩:=l
    ·obtain ⟨p,ev,n,r⟩:=sl1
     exact ⟨p,ev,nn n,r.drp drp (ok1 _ _ rfl (.inl rfl))⟩
    ·obtain ⟨v,ev,r⟩:=sl1
     rw [ev0] at ev
     cases ev
     exact ⟨_,ev0,Rep.drpAt drp np (ok1 _ _ rfl (.inr rfl)) r⟩
   | bo d =>
    obtain ⟨p0,ev0,n0,r0⟩:=sl0
    have np:¬ InG γ p0:=fun ⟨d,m⟩=>(gm.at_ p0 d m).2.2 i ⟨by rw [q]; trivial,ev0⟩
    obtain ⟨d',rfl | rfl⟩:=l
    ·obtain ⟨p,ev,n,r⟩:=sl1
     exact ⟨p,ev,nn n,r.drp drp (ok2 _ _ rfl (.inl rfl))⟩
    ·obtain ⟨v,ev,r⟩:=sl1
     rw [ev0] at ev
     cases ev
     exact ⟨_,ev0,Rep.drpAt drp np (ok2 _ _ rfl (.inr rfl)) r⟩
 ·obtain ⟨n,o,r⟩:=gm.at_ b d m
  exact ⟨Nq ⟨d,m⟩,o.mono le (keepC b d m),fun i q=>r i (rtb i b q).2⟩
 ·by_cases m:InG γ a
  ·exact Nq m
  ·rw [Jy m]
   exact t.new a (by rw [Hr m]; exact h1) h2 fun i r=>n i (rt_pro.mp r)
 ·unfold B3
  rw [List.length_zipWith,hl,Nat.min_self]
 ·obtain ⟨s1,h1,h2,l⟩:=ve i s h
  refine ⟨_,h2,?_⟩
  cases s with
  | ow d=>exact l
  | bo d=>exact l
  | un=>exact SlLe.refl _
  | sh d=>exact SlLe.refl _
  | bf d=>exact SlLe.refl _
  | lo d=>exact SlLe.refl _
theorem XOk.drp {x:Exn} {cls:Value} {d:Option Addr} (h:Drp g G1 (Gd γ G1) γ) (n:ncF x.2 = true) (xo:XOk g G1 x cls d):XOk g (Gd γ G1) x cls d:=by
 refine ⟨xo.1,?_⟩
 rcases xo.2 with y | ⟨da,fs,a,b,c⟩
 ·exact .inl y
 ·exact .inr ⟨da,fs,a,h.ext b (fun _ z=>nomatch z) (fun _ _ _ z=>nomatch z),RepF.drp h n c⟩
end
section
variable {g:Gm} {W:WX} {k:Nat} {X:Cx}
theorem Ak9 {F:M Rv} {σ:L2.St} {H:Hp} {Q:VK} (q:TV2 g W (rd2 F) σ H Q):TV g W F σ H Q:=by
 obtain ⟨G,e,γ,sr,gm,q⟩:=q
 refine ⟨Gp γ G H,Bi γ e,sr.pro gm,?_⟩
 unfold rd2 at q
 revert q
 cases F (Bi γ e) with
 | no=>exact fun h=>h
 | er x e1 =>
  rintro ⟨n,ok,h⟩ cls d G1 H1 t xo
  obtain ⟨dr,t2⟩:=Pz sr gm t ok
  exact h cls d _ H1 t2 (xo.drp dr n)
 | ok r e1 =>
  rintro ⟨n,ok,h⟩ G1 H1 t v rv
  obtain ⟨dr,t2⟩:=Pz sr gm t ok
  refine h _ H1 t2 v ?_
  cases r with
  | val d=>exact ⟨Rep.drp dr n rv,fun _ _ z=>nomatch z⟩
  | slot i =>
   obtain ⟨ev,s1,es,ns⟩:=rv
   refine ⟨⟨ev,?_⟩,fun _ _ z=>nomatch z⟩
   have hi:i < e.length:=by
    have:=Bj es
    rw [t.ve.len] at this
    unfold Bi at this
    rwa [List.length_map] at this
   obtain ⟨s2,h1,h2⟩:=Yi (by rw [t.ve.len]; unfold Bi; rw [List.length_map]) (List.getElem?_eq_getElem hi)
   rw [es] at h1
   cases h1
   refine ⟨_,h2,?_⟩
   obtain ⟨s3,h3,l⟩:=t.ve.at_ i (Ed γ e[i]) (by rw [Py,List.getElem?_eq_getElem hi]; rfl)
   rw [es] at h3
   cases h3
   generalize e[i] = s at l
   cases s with
   | un=>cases l; exact absurd rfl ns
   | ow d=>exact ns
   | bo d=>exact ns
   | sh d=>exact fun z=>nomatch z
   | bf d=>exact fun z=>nomatch z
   | lo d=>exact fun z=>nomatch z
  | fresh d =>
   obtain ⟨p,ev,np,ow,h0,nr⟩:=rv
   have npg:¬ InG γ p:=fun m=>by
    obtain ⟨o,ho,_⟩:=gm.there m
    rw [ho] at h0; cases h0
   refine ⟨⟨p,ev,by rw [Jy npg]; exact np,ow.drp dr n,h0,fun i r=>(sr.root (t2.ve.rt r)).2 h0⟩,fun d2 p2 _ e2 m=>?_⟩
   rw [ev] at e2
   cases e2
   exact npg m
theorem P0 {ex:Expr} {F:M Rv} (h:VE g W k X ex F):VE2 g W k X ex (rd2 F):=⟨Jw F,fun c=>PE.imp (h.run c) fun _ _ _ q=>Ak9 q⟩
theorem Sh {ex:Expr} {F:M Bool} (h:VT g W k X ex F):VT2 g W k X ex (rdT F):=⟨Jx F,fun c=>PT.imp (h.run c) fun σ H Q ⟨G,e,γ,sr,gm,q⟩=>by
 refine ⟨Gp γ G H,Bi γ e,sr.pro gm,?_⟩
 unfold rdT at q
 revert q
 cases F (Bi γ e) with
 | no=>exact fun h=>h
 | er x e1 =>
  rintro ⟨n,ok,h⟩ cls d G1 H1 t xo
  obtain ⟨dr,t2⟩:=Pz sr gm t ok
  exact h cls d _ H1 t2 (xo.drp dr n)
 | ok r e1 =>
  rintro ⟨ok,h⟩ G1 H1 t
  obtain ⟨dr,t2⟩:=Pz sr gm t ok
  exact h _ H1 t2⟩
end
end Vs
set_option maxRecDepth 100000
set_option maxHeartbeats 2000000
namespace Vs
open PySem PySem.Spec PyProof.Rows L2 Fw SX
def P1 (i:Nat) (Ix:M Rv):M Rv:=fun e0=>match (e0[i]?).bind A3 with
 | some (.dct _)=>((Ad Ix).bind fun ix e=>match ix,e[i]? with
  | .val (.str k),some s=>(match A3 s with
   | some (.dct kvs)=>(match A4 kvs k with
    | some v=>.ok (.val v) (e.set i (Bt s (.dct (kvs.filter fun kv=>decide (kv.1≠k)))))
    | none=>.no)
   | _=>.no)
  | _,_=>.no) e0
 | _=>.no
theorem RepK.dropK {g:Gm} {G:Hp} (key:List Nat):∀ {kvs:List (List Nat × D)} {vs:List (Key × V)},RepK g G kvs vs→RepK g G (kvs.filter fun kv=>decide (kv.1≠key)) (L2.dropK vs (.inr (S key)))
 | [],vs,r=>by rw [show vs = [] from r]; rfl
 | (q,d) :: kvs,_,⟨ok,v,t,e,a,b⟩=>by
  subst e
  have ih:=RepK.dropK key b
  unfold L2.dropK at ih ⊢
  by_cases z:q = key
  ·subst z
   rw [List.filter_cons_of_neg (by simp),List.filter_cons_of_neg (by simp)]
   exact ih
  ·rw [List.filter_cons_of_pos (by simpa using z),List.filter_cons_of_pos (by
    simp only [decide_eq_true_eq]
    exact fun y=>z (S_inj (Sum.inr.inj y)))]
   exact ⟨ok,v,_,rfl,a,ih⟩
theorem Ala {g:Gm} {W:WX} {k:Nat} {X:Cx} {x:Str} {i:Nat} {ex:Expr} {A:M Rv} {p apos cpos:Pos} (hN:X.N[i]? = some x) (hvis:Vis X.env.scope x) (ha:VE g W k X ex A)
  (hbase:attributeBase (.Name x p) "pop" X.env (eval (.Name x p) X.env) = eval (.Name x p) X.env:=by rfl)
  (hfew:((backTo cpos (starEach [ex] X.env)).all (fun x=>!x.1) && (backToKw cpos (keywordEach [] X.env)).all (fun x=>x.1.isSome) && decide (([ex]:List Expr).length + ([]:List Keyword).length + (if ([]:List Keyword).isEmpty then 0 else 1) < 30)) = true:=by rfl)
  (hline:(apos.endLine == cpos.line) = true:=by rfl) (htr:backTo cpos (starEach [ex] X.env) = [(false,eval ex X.env)]:=by rfl)
  (hd:(x == ("__debug__" : Str)) = false:=by decide) (hcd:(x == ("__classdict__" : Str)) = false:=by decide) :
  VE g W k X (.Call (.Attribute (.Name x p) "pop" apos) [ex] [] cpos) (P1 i A) :=
 ⟨fun c=>PE.imp (pe_dpop1 (pe_var hN hvis hd hcd) ((Ar ha).run c) ⟨hbase,hfew,hline,htr⟩) fun σ H Q ⟨G,e,sr,q⟩=>by
  unfold P1 at q
  cases q0:e[i]? with
  | none=>rw [q0] at q; exact q.elim
  | some s0 =>
   rw [q0,Option.bind_some] at q
   cases q1:A3 s0 with
   | none=>rw [q1] at q; exact q.elim
   | some d0 =>
    rw [q1] at q
    cases d0 with
    | dct kvs0 =>
     dsimp only at q
     obtain ⟨p',hp,n,ow,rt⟩:=sr.own q0 q1
     obtain ⟨us0,ho,_⟩:=id ow
     refine ⟨.ref p',hp,p',rfl,.inl ⟨us0,.inl ho⟩,G,e,sr,Pst.mono (Pst.bind q) fun rix G2 H2 e2 t2 h2 ix ok2=>?_⟩
     cases rix with
     | val dix =>
      cases dix with
      | str ks =>
       cases q3:e2[i]? with
       | none=>simp only [q3] at h2; exact h2.elim
       | some s =>
        simp only [q3] at h2
        cases q4:A3 s with
        | none=>simp only [q4] at h2; exact h2.elim
        | some d =>
         cases d with
         | dct kvs =>
          simp only [q4] at h2
          cases q5:A4 kvs ks with
          | none=>simp only [q5] at h2; exact h2.elim
          | some v =>
           simp only [q5] at h2
           obtain ⟨p2,hp2,n2,ow2,_⟩:=t2.sr.own q3 q4
           rw [hp] at hp2
           cases hp2
           obtain ⟨us,hu,ru⟩:=id ow2
           have gk:=Ra ks ru
           rw [q5] at gk
           obtain ⟨u,hv,rv⟩:=gk
           have ok2:ix = .str (S ks)∧OkS ks:=ok2
           exact ⟨us,.inr (S ks),u,hu,ok2.1,hv,h2 G2 _ (t2.sr.mut (d':=.dct (kvs.filter fun kv=>decide (kv.1≠ks))) (o':=.dK (L2.dropK us (.inr (S ks)))) q3 q4 hp ow2 ⟨_,upd_same,ru.dropK ks⟩) u rv⟩
         | _=>simp only [q4] at h2; exact h2.elim
      | _=>exact h2.elim
     | _=>exact h2.elim
    | _=>exact q.elim⟩
end Vs
set_option maxRecDepth 100000
namespace Vs
open PySem PySem.Spec PyProof.Rows L2 Fw SX
def Es (r:Rv) (e:Ve) (γ:Gh):Option D:=match Af r e with
 | some (.con (.ref b))=>γ.lookup b
 | o=>o
def Fc (r:Rv) (e:Ve):Option Addr:=match Af r e with
 | some (.con (.ref b))=>some b
 | _=>none
section
variable {g:Gm} {G H G1 H1 H0:Hp} {σ:L2.St} {e e1:Ve} {γ γ1:Gh}
theorem Yl {b:Addr} {v:V} (h:RepH g G H (.con (.ref b)) v):v = .ref b:=by
 rcases h with h | ⟨p,_,_,z⟩
 ·exact h
 ·exact z.elim
theorem Si {r:Rv} {v:V} {d:D} (sr:SR g G H σ e) (gm:Gam g G H σ e γ) (ok:RvOk g G H σ e H0 r v) (h:Es r e γ = some d):RepH g G H d v:=by
 unfold Es at h
 split at h
 ·rename_i b q
  obtain ⟨n,o,_⟩:=gm.at_ b d (Gb h)
  rw [Yl (B5 sr ok q)]
  exact o.rH n
 ·exact B5 sr ok h
theorem Ym {r:Rv} {v:V} {b:Addr} (sr:SR g G H σ e) (ok:RvOk g G H σ e H0 r v) (h:Fc r e = some b):v = .ref b:=by
 unfold Fc at h
 split at h
 ·rename_i b' q
  cases h
  exact Yl (B5 sr ok q)
 ·cases h
end
def Lo (f:Str) (r:Rv):E2 Rv:=fun e γ P=>match Es r e γ with
 | some (.ins _ fs)=>(match fs.lookup f with | some d=>P (.v (.val d)) e γ | none=>False)
 | _=>False
theorem Sj {f:Str} {r:Rv}:Ak (Lo f r):=fun e γ P P' h q=>by
 unfold Lo at q ⊢
 revert q
 cases Es r e γ with
 | none=>exact fun q=>q
 | some d =>
  cases d with
  | ins c fs =>
   dsimp only
   cases fs.lookup f with
   | none=>exact fun q=>q
   | some d=>exact fun q=>h _ _ _ q
  | _=>exact fun q=>q
def Ht (f:Str) (A:E2 Rv):E2 Rv:=Bz A (Lo f)
def Nr (u:D→D→D→Option D) (O Ix V:E2 Rv):W2:=fun e γ P=>Ge V e γ fun o e1 γ1=>match o with
 | .er x=>P (.er x) e1 γ1
 | .v (.val v)=>O e1 γ1 fun o e2 γ2=>(match o with
  | .er x=>P (.er x) e2 γ2
  | .v r=>Ge Ix e2 γ2 fun o e3 γ3=>(match o with
   | .er x=>P (.er x) e3 γ3
   | .v (.val ix)=>(match Fc r e2 with
    | some b=>(match γ3.lookup b with
     | some d0=>(match u d0 ix v with
      | some d'=>Ic d' = true∧P (.c .nx) e3 (Cq γ3 b d')
      | none=>False)
     | none=>False)
    | none=>False)
   | .v _=>False))
 | .v _=>False
def Nt:D→D→Option D
 | .dct kvs,.str k=>if (kvs.any fun kv=>decide (kv.1 = k)) = true then some (.dct (kvs.filter fun kv=>decide (kv.1≠k))) else none
 | _,_=>none
def Nu (O Ix:E2 Rv):W2:=fun e γ P=>O e γ fun o e2 γ2=>match o with
 | .er x=>P (.er x) e2 γ2
 | .v r=>Ge Ix e2 γ2 fun o e3 γ3=>(match o with
  | .er x=>P (.er x) e3 γ3
  | .v (.val ix)=>(match Fc r e2 with
   | some b=>(match γ3.lookup b with
    | some d0=>(match Nt d0 ix with
     | some d'=>P (.c .nx) e3 (Cq γ3 b d')
     | none=>False)
    | none=>False)
   | none=>False)
  | .v _=>False)
def Hu (cs:List Str) (f:Str) (i:Nat) (A:E2 Rv):W2:=fun e γ P=>Ge A e γ fun o e1 γ1=>match o with
 | .er x=>P (.er x) e1 γ1
 | .v (.val dv)=>(match e1[i]? with
  | some (.sh (.con (.ref b)))=>(match γ1.lookup b with
   | some (.ins c fs)=>cs.contains c = true∧fs.length < 1000∧P (.c .nx) e1 (Cq γ1 b (.ins c (Bp f dv fs)))
   | _=>False)
  | _=>False)
 | .v _=>False
def Lq (A:E2 Rv):W2:=fun e γ P=>A e γ fun o e1 γ1=>match o with
 | .er x=>P (.er x) e1 γ1
 | .v _=>P (.c .nx) e1 γ1
theorem Fd {A:E2 Rv} (m:Ak A):Ak (Ge A):=Dx m fun _=>Ci _
theorem Jz {u:D→D→D→Option D} {O Ix V:E2 Rv} (mo:Ak O) (mi:Ak Ix) (mv:Ak V):Mon (Nr u O Ix V):=fun e γ P P' h q=>Fd mv _ _ _ _ (fun o e1 γ1 z=>by
 cases o with
 | er x=>exact h _ _ _ z
 | v r =>
  cases r with
  | slot i=>exact z
  | fresh d=>exact z
  | val v =>
   refine mo _ _ _ _ (fun o e2 γ2 z=>?_) z
   cases o with
   | er x=>exact h _ _ _ z
   | v r =>
    refine Fd mi _ _ _ _ (fun o e3 γ3 z=>?_) z
    cases o with
    | er x=>exact h _ _ _ z
    | v r3 =>
     cases r3 with
     | slot i=>exact z
     | fresh d=>exact z
     | val ix =>
      revert z
      dsimp only
      cases Fc r e2 with
      | none=>exact fun z=>z
      | some b =>
       dsimp only
       cases γ3.lookup b with
       | none=>exact fun z=>z
       | some d0 =>
        dsimp only
        cases u d0 ix v with
        | none=>exact fun z=>z
        | some d'=>exact fun z=>⟨z.1,h _ _ _ z.2⟩) q
theorem J0 {O Ix:E2 Rv} (mo:Ak O) (mi:Ak Ix):Mon (Nu O Ix):=fun e γ P P' h q=>by
 refine mo _ _ _ _ (fun o e2 γ2 z=>?_) q
 cases o with
 | er x=>exact h _ _ _ z
 | v r =>
  refine Fd mi _ _ _ _ (fun o e3 γ3 z=>?_) z
  cases o with
  | er x=>exact h _ _ _ z
  | v r3 =>
   cases r3 with
   | slot i=>exact z
   | fresh d=>exact z
   | val ix =>
    revert z
    dsimp only
    cases Fc r e2 with
    | none=>exact fun z=>z
    | some b =>
     dsimp only
     cases γ3.lookup b with
     | none=>exact fun z=>z
     | some d0 =>
      dsimp only
      cases Nt d0 ix with
      | none=>exact fun z=>z
      | some d'=>exact fun z=>h _ _ _ z
theorem J4 {cs:List Str} {f:Str} {i:Nat} {A:E2 Rv} (m:Ak A):Mon (Hu cs f i A):=fun e γ P P' h q=>Fd m _ _ _ _ (fun o e1 γ1 z=>by
 cases o with
 | er x=>exact h _ _ _ z
 | v r =>
  cases r with
  | slot j=>exact z
  | fresh d=>exact z
  | val dv =>
   dsimp only at z ⊢
   split at z
   ·rename_i b hs
    split at z
    ·rename_i c fs hl
     exact ⟨z.1,z.2.1,h _ _ _ z.2.2⟩
    ·exact z
   ·exact z) q
theorem J5 {A:E2 Rv} (m:Ak A):Mon (Lq A):=fun e γ P P' h q=>m _ _ _ _ (fun o e1 γ1 z=>by cases o <;> exact h _ _ _ z) q
section
variable {g:Gm} {W:WX} {k:Nat} {X:Cx}
theorem Yn {ex:Expr} {f:Str} {A:E2 Rv} {pos:Pos} (h:VE2 g W k X ex A) (hb:attributeBase ex f X.env (eval ex X.env) = eval ex X.env:=by rfl):VE2 g W k X (.Attribute ex f pos) (Ht f A) :=
 ⟨Dx h.mon fun _=>Sj,fun c=>PE.imp (fldK g.K (h.run c) hb c.K) fun σ H Q ⟨G,e,γ,sr,gm,q⟩=>⟨G,e,γ,sr,gm,h.mon _ _ _ _ (fun o e1 γ1 z=>by
  cases o with
  | er x=>exact z
  | v r =>
   intro G1 H1 t1 v ok
   have h1:=z G1 H1 t1
   dsimp only at h1
   unfold Lo at h1
   cases q1:Es r e1 γ1 with
   | none=>rw [q1] at h1; exact h1.elim
   | some d =>
    rw [q1] at h1
    cases d with
    | ins c fs =>
     dsimp only at h1
     cases q2:fs.lookup f with
     | none=>rw [q2] at h1; exact h1.elim
     | some d =>
      rw [q2] at h1
      obtain ⟨a,dx,vs,ev,ha,rf,io⟩:=(Si t1.sr t1.gm ok.1 q1).ins t1.sr.bs
      obtain ⟨u,hu,ru⟩:=rf.look q2
      obtain ⟨y,hy,ey⟩:=M4 q2
      exact ⟨a,_,dx,vs,u,ev,ha,io.1,ey ▸ io.2 y hy,hu,h1 G1 H1 (Tr2.refl t1.sr t1.gm) u ⟨ru,fun _ _ z=>nomatch z⟩⟩
    | _=>exact h1.elim) (Pst2.bind h.mon (fun _=>Sj) q)⟩⟩
theorem Yo {ex:Expr} {A:E2 Rv} {pos:Pos} (h:VE2 g W k X ex A) (hs:swapsWith ex none pos.line X.env = pure false:=by rfl):VS2 g W k X (.Expr ex pos) (Lq A) :=
 ⟨J5 h.mon,fun c=>PS.imp (ps_expr (h.run c) hs) fun D σ H ⟨G,e,γ,sr,gm,q⟩=>⟨G,e,γ,sr,gm,h.mon _ _ _ _ (fun o e1 γ1 z=>by
  cases o with
  | er x=>exact fun cls d G' H' t xo=>z cls d σ G' H' t.st2 xo
  | v r=>exact fun G1 H1 t v _=>z σ G1 H1 t.st2) q⟩⟩
theorem Yp {x f:Str} {i:Nat} {val:Expr} {A:E2 Rv} {cs:List Str} {p pos pos':Pos} (hno:∀ c∈cs,NoAttr g.K (g.ca c) f) (hN:X.N[i]? = some x) (hvis:Vis X.env.scope x) (hv:VE2 g W k X val A)
  (hd:(x == ("__debug__" : Str)) = false:=by decide) (hcd:(x == ("__classdict__" : Str)) = false:=by decide) (hs:swapsWith val (some (.Attribute (.Name x p) f pos')) pos.line X.env = pure false:=by rfl) :
  VS2 g W k X (.Assign [.Attribute (.Name x p) f pos'] val pos) (Hu cs f i A) :=
 ⟨J4 hv.mon,fun c=>PS.imp (Qp g.K (pe_var hN hvis hd hcd) ((Hq hv).run c) hs c.K) fun D σ H ⟨G,e,γ,sr,gm,q⟩=>⟨G,e,γ,sr,gm,(Hq hv).mon _ _ _ _ (fun o e1 γ1 z=>by
  cases o with
  | er x=>exact fun cls d G' H' t xo=>z cls d σ G' H' t.st2 xo
  | v r =>
   cases r with
   | slot j=>exact z.elim
   | fresh d=>exact z.elim
   | val dv =>
    intro G1 H1 t1 v ok
    dsimp only at z
    split at z
    ·rename_i b q3
     split at z
     ·rename_i cn fs q4
      obtain ⟨hc,hl,z⟩:=z
      have sl:=t1.sr.slot i
      rw [q3] at sl
      obtain ⟨v',hp,ev'⟩:=sl
      have ev':v' = .ref b:=ev'
      subst ev'
      obtain ⟨n,ow,nr⟩:=t1.gm.at_ b _ (Gb q4)
      obtain ⟨dx,vs,ha,rf,io⟩:=id ow
      have hn:=hno cn (List.contains_iff_mem.mp hc)
      refine ⟨.ref b,hp,b,_,dx,vs,rfl,ha,io.1,hn,by rw [rf.len]; exact hl,?_⟩
      refine z σ G1 _ (t1.st2.put (d':=.ins cn (Bp f dv fs)) (o:=.ins (g.ca cn) dx (putF f v vs)) q4 ⟨dx,_,upd_same,rf.put ok.1,io.1,fun y hy=>?_⟩ rfl)
      rcases M3 hy with z | ⟨z,hz⟩
      ·rw [z]; exact hn
      ·exact io.2 (y.1,z) hz
     ·exact z.elim
    ·exact z.elim) q⟩⟩
theorem Alb {o ix val:Expr} {O Ix Vv:E2 Rv} {pos pos':Pos} (ho:VE2 g W k X o O) (hi:VE2 g W k X ix Ix) (hv:VE2 g W k X val Vv)
  (hs:swapsWith val (some (.Subscript o ix pos')) pos.line X.env = pure false:=by rfl) :
  VS2 g W k X (.Assign [.Subscript o ix pos'] val pos) (Nr Em O Ix Vv) :=
 ⟨Jz ho.mon hi.mon hv.mon,fun c=>PS.imp (ps_dput c.hu (ho.run c) ((Hq hi).run c) ((Hq hv).run c) hs) fun D σ H ⟨G,e,γ,sr,gm,q⟩=>⟨G,e,γ,sr,gm,(Hq hv).mon _ _ _ _ (fun o e1 γ1 z=>by
  cases o with
  | er x=>exact fun cls d G' H' t xo=>z cls d σ G' H' t.st2 xo
  | v r =>
   cases r with
   | slot j=>exact z.elim
   | fresh d=>exact z.elim
   | val dv =>
    intro G1 H1 t1 vv okv
    refine ⟨G1,e1,γ1,t1.sr,t1.gm,ho.mon _ _ _ _ (fun o e2 γ2 z=>?_) z⟩
    cases o with
    | er x=>exact fun cls d G' H' t xo=>z cls d σ G' H' (t1.trans t).st2 xo
    | v r =>
     intro G2 H2 t2 x okx
     refine ⟨G2,e2,γ2,t2.sr,t2.gm,(Hq hi).mon _ _ _ _ (fun o e3 γ3 z=>?_) z⟩
     cases o with
     | er x=>exact fun cls d G' H' t xo=>z cls d σ G' H' ((t1.trans t2).trans t).st2 xo
     | v r3 =>
      cases r3 with
      | slot j=>exact z.elim
      | fresh d=>exact z.elim
      | val ix =>
       intro G3 H3 t3 iv oki
       dsimp only at z
       cases q1:Fc r e2 with
       | none=>rw [q1] at z; exact z.elim
       | some b =>
        rw [q1] at z
        dsimp only at z
        cases q2:γ3.lookup b with
        | none=>rw [q2] at z; exact z.elim
        | some d0 =>
         rw [q2] at z
         dsimp only at z
         cases q3:Em d0 ix dv with
         | none=>rw [q3] at z; exact z.elim
         | some d' =>
          rw [q3] at z
          obtain ⟨kd,z⟩:=z
          have ex:x = .ref b:=Ym t2.sr okx.1 q1
          subst ex
          have tt:=((t1.trans t2).trans t3).st2
          obtain ⟨_,ow,_⟩:=tt.gm.at_ b d0 (Gb q2)
          exact V5 G3 H3 b d0 ix dv iv vv d' (fun H4=>D.nx σ H4) ow oki.1 (Rep.mono (t2.trans t3).le okv.1) q3 fun o' on=>z σ G3 _ (tt.put q2 on kd)) q⟩⟩
theorem Alc {o ix:Expr} {O Ix:E2 Rv} {pos pos':Pos} (ho:VE2 g W k X o O) (hi:VE2 g W k X ix Ix) :
  VS2 g W k X (.Delete [.Subscript o ix pos'] pos) (Nu O Ix) :=
 ⟨J0 ho.mon hi.mon,fun c=>PS.imp (ps_ddel (ho.run c) ((Hq hi).run c)) fun D σ H ⟨G,e,γ,sr,gm,q⟩=>⟨G,e,γ,sr,gm,ho.mon _ _ _ _ (fun o e2 γ2 z=>by
  cases o with
  | er x=>exact fun cls d G' H' t xo=>z cls d σ G' H' t.st2 xo
  | v r =>
   intro G2 H2 t2 x okx
   refine ⟨G2,e2,γ2,t2.sr,t2.gm,(Hq hi).mon _ _ _ _ (fun o e3 γ3 z=>?_) z⟩
   cases o with
   | er x=>exact fun cls d G' H' t xo=>z cls d σ G' H' (t2.trans t).st2 xo
   | v r3 =>
    cases r3 with
    | slot j=>exact z.elim
    | fresh d=>exact z.elim
    | val ix =>
     intro G3 H3 t3 iv oki
     dsimp only at z
     cases q1:Fc r e2 with
     | none=>rw [q1] at z; exact z.elim
     | some b =>
      rw [q1] at z
      dsimp only at z
      cases q2:γ3.lookup b with
      | none=>rw [q2] at z; exact z.elim
      | some d0 =>
       rw [q2] at z
       dsimp only at z
       cases q3:Nt d0 ix with
       | none=>rw [q3] at z; exact z.elim
       | some d' =>
        rw [q3] at z
        have ex:x = .ref b:=Ym t2.sr okx.1 q1
        subst ex
        have tt:=(t2.trans t3).st2
        obtain ⟨_,ow,_⟩:=tt.gm.at_ b d0 (Gb q2)
        cases d0 <;> cases ix <;> try cases q3
        rename_i kvs ks
        simp only [Nt] at q3
        by_cases cc:(kvs.any fun kv=>decide (kv.1 = ks)) = true
        ·rw [if_pos cc] at q3
         cases q3
         obtain ⟨us,hp,rp⟩:=ow
         have ok1:iv = .str (S ks)∧OkS ks:=oki.1
         refine ⟨b,us,.inr (S ks),rfl,hp,ok1.1,?_,?_⟩
         ·rw [← valV_any,rp.anyK]
          exact cc
         ·exact z σ G3 _ (tt.put q2 ⟨_,upd_same,rp.dropK ks⟩ rfl)
        ·rw [if_neg cc] at q3; cases q3) q⟩⟩
end
end Vs
set_option maxRecDepth 100000
namespace Vs
open PySem PySem.Spec PyProof.Rows L2 Fw SX
section
variable {P:Program} {mg:Str→Option Value} {base:Heap} {g:Gm} {j:Nat} {f:Addr} {fd:FuncData} {ps:List Str} {F:E2 Rv}
theorem Yq {np n:Nat} {B:W2} (mB:Mon B) {vs:List V} {H:Hp} {Q:VK} {E:XK} (h:sp2 g (Cr np n B) vs H Q E):Ec g np (Cr np n B) vs H Q E:=by
 obtain ⟨G,as,γ,ok,sr,gm,h⟩:=h
 refine ⟨?_,G,as,γ,ok,sr,gm,h⟩
 have h1:=h.1
 rw [← h1,sr.len,List.length_map]
theorem Sk {CXa:CXT} {np n:Nat} {B:W2} (mB:Mon B) (Fk:FnG P g.w g.K mg base CXa j f fd ps (Ec g np (Cr np n B))) (hb:Binds g.K fd ps []):FnK P g.w g.K mg base CXa j f [] (sp2 g (Cr np n B)):=by
 intro A outer s H us ws vs zs Q E hr e0 rv rz hl hs
 have ez:zs = []:=by
  have:=rz.length
  rw [hl] at this
  exact List.eq_nil_of_length_eq_zero this
 subst ez
 rw [List.append_nil] at hs
 have h2:=Yq mB hs
 exact Fk.raw hb .nil A outer s H us vs Q E hr e0 rv (show Ec g np (Cr np n B) (vs ++ []) H Q E by rw [List.append_nil]; exact h2)
theorem Gg {np n:Nat} {B:W2} (m:Mon B):Ak (Cr np n B):=fun e γ P P' h q=>⟨q.1,m _ _ _ _ (fun o e' γ' z=>by
 cases o with
 | er x=>exact h _ _ _ z
 | c c =>
  cases c with
  | nx=>exact h _ _ _ z
  | bk=>exact z
  | ct=>exact z
  | rt r =>
   revert z
   dsimp only
   cases Dt r e' with
   | ok r' e2=>exact fun z=>h _ _ _ z
   | er x e2=>exact fun z=>z
   | no=>exact fun z=>z) q.2⟩
end
def Sm (P:Program) (mg:Str→Option Value) (base:Heap) (g:Gm) (m:Str) (j:Nat) (T:Str→Option (E2 Rv)):Prop :=
 ∀ c F,T c = some F→Ak F∧∃ f,Cls g.K (g.ca c)∧Meth g.K (g.ca c) m f∧FnK P g.w g.K mg base (L2.CX P g.w) j f [] (sp2 g F)
def SpD2 (P:Program) (mg:Str→Option Value) (base:Heap) (g:Gm) (j:Nat) (T:Str→Option (E2 Rv)):Prop :=
 ∀ c F,T c = some F→Ak F∧∃ f,PySem.W.findIn g.K (.ref (g.ca c)) "__setitem__" = some (some (.ref f))∧PySem.W.isFn g.K (.ref f) = true∧PySem.W.noSeq g.K (g.ca c) = true∧FnK P g.w g.K mg base (L2.CX P g.w) j f [] (sp2 g F)
def Mk2 (P:Program) (mg:Str→Option Value) (base:Heap) (g:Gm) (x c:Str) (j:Nat) (F:E2 Rv):Prop :=
 Ak F∧∃ f,mg x = some (.ref (g.ca c))∧Mk g.K (g.ca c) f∧Cls g.K (g.ca c)∧FnK P g.w g.K mg base (L2.CX P g.w) j f [] (sp2 g F)
section
variable {g:Gm} {W:WX} {k:Nat} {X:Cx} {σ:L2.St} {G H G1 H1:Hp} {e e1:Ve} {γ γ1:Gh}
theorem Sn (gm:Gam g G H σ e γ) {rs:List Rv} {vs:List V} (rv:RvsOk g G1 H1 σ e1 H rs vs):∀ (i:Nat) d p,rs[i]? = some (.fresh d)→vs[i]? = some (.ref p)→¬ InG γ p:=fun i d p hr hv m=>by
 obtain ⟨v,h1,ok⟩:=rv.at hr
 rw [hv] at h1
 cases h1
 obtain ⟨p',ev,_,_,h0,_⟩:=ok
 cases ev
 obtain ⟨o,ho,_⟩:=gm.there m
 rw [ho] at h0
 cases h0
def call2 (F:E2 Rv) (A:M (List Rv)):E2 Rv:=Bz (liftM A) (Ju F)
theorem Lr {F:E2 Rv} {A:M (List Rv)} (m:Ak F):Ak (call2 F A):=Dx (Ci _) fun _=>Pw m _
def Nv (T:Str→Option (E2 Rv)) (m:Str) (A:M (List Rv)) (o:Rv):E2 Rv:=fun e γ P=>match Es o e γ with
 | some (.ins c fs)=>(fs.lookup m).isNone = true∧(match T c with
  | some F=>Bz (liftM A) (fun rs=>Ju F (o :: rs)) e γ P
  | none=>False)
 | _=>False
def Hv (T:Str→Option (E2 Rv)) (m:Str) (O:M Rv) (A:M (List Rv)):E2 Rv:=Bz (liftM O) (Nv T m A)
theorem Yr {T:Str→Option (E2 Rv)} {m:Str} {A:M (List Rv)} {o:Rv} (mT:∀ c F,T c = some F→Ak F):Ak (Nv T m A o):=fun e γ P P' h q=>by
 unfold Nv at q ⊢
 split at q
 ·rename_i c fs hd
  refine ⟨q.1,?_⟩
  have q2:=q.2
  cases qT:T c with
  | none=>rw [qT] at q2; exact q2.elim
  | some F =>
   rw [qT] at q2
   exact Dx (Ci A) (fun rs=>Pw (mT c F qT) _) _ _ _ _ h q2
 ·exact q.elim
theorem Ald {T:Str→Option (E2 Rv)} {m:Str} {O:M Rv} {A:M (List Rv)} {σ:L2.St} {H:Hp} {Q:VK} (mT:∀ c F,T c = some F→Ak F) (h:TV2 g W (Hv T m O A) σ H Q) :
  O8 (fun C sp=>∃ c F,T c = some F∧C = g.ca c∧sp = sp2 g F) m (fun σ cls d H'=>W cls d σ H') (TV g W O) (TVA g W A) σ H Q:=by
 obtain ⟨G,e,γ,sr,gm,h⟩:=h
 refine ⟨G,e,sr,?_⟩
 unfold Hv Bz liftM at h
 revert h
 cases O e with
 | no=>exact fun h=>h
 | er x e1=>exact fun h cls d G' H' t xo=>h cls d G' H' (t.tr2 gm) xo
 | ok o e1 =>
  intro h G1 H1 t1 x ok1
  have t1':=t1.tr2 gm
  dsimp only at h
  unfold Nv at h
  split at h
  ·rename_i c fs hd
   obtain ⟨hl,h⟩:=h
   cases qT:T c with
   | none=>rw [qT] at h; exact h.elim
   | some F =>
    rw [qT] at h
    obtain ⟨a,dx,us,ev,ha,rf,io⟩:=(Si t1.sr t1'.gm ok1 hd).ins t1.sr.bs
    refine ⟨a,_,dx,us,_,ev,ha,rf.lookN (Option.isNone_iff_eq_none.mp hl),⟨c,F,qT,rfl,rfl⟩,G1,e1,t1.sr,?_⟩
    unfold Bz liftM at h
    revert h
    cases A e1 with
    | no=>exact fun h=>h
    | er x e2=>exact fun h cls d G' H' t xo=>h cls d G' H' ((t1.trans t).tr2 gm) xo
    | ok rs e2 =>
     intro h G2 H2 t2 vs rv
     have rv2:=Wc t1.dom (ok1.tr t2) (Wd ok1) rv
     exact Yf (mT c F qT) sr ((t1.trans t2).tr2 gm) rv2 (Sn gm rv2) h
  ·exact h.elim
theorem Ale {pl:Sem Bool} {T:Str→Option (E2 Rv)} {m:Str} {j:Nat} {o ex:Expr} {es:List Expr} {O:M Rv} {A:M (List Rv)} {apos pos:Pos} (tab:Sm X.prog X.mg X.base g m j T) (hj:j≤k) (ho:VE g W k X o O) (ha:VA g W k X (ex :: es) A)
  (hst:starEach (ex :: es) X.env = (false,eval ex X.env) :: starEach es X.env:=by rfl) (hpl:(backTo pos (starEach es X.env)).any (·.1) = false:=by rfl)
  (ht:eval (.Call (.Attribute o m apos) (ex :: es) [] pos) X.env = (do
   let ov ← eval o X.env
   standAt apos.atName
   let (f,first) ← holding [ov] (getMethod ov m pl)
   callWith pos f first (backTo pos (starEach (ex :: es) X.env)) (backToKw pos (keywordEach [] X.env))):=by rfl):VE2 g W k X (.Call (.Attribute o m apos) (ex :: es) [] pos) (Hv T m O A):=by
 refine ⟨Dx (Ci _) fun _=>Yr fun c F h=>(tab c F h).1,fun cd=>?_⟩
 obtain ⟨gK,gw,ca,gT,gs,gn⟩:=g
 obtain rfl:X.K = gK:=cd.K
 obtain rfl:X.w = gw:=cd.w
 refine PE.imp (Ac4 (pl:=pl) (T:=fun C sp=>∃ c F,T c = some F∧C = ca c∧sp = sp2 ⟨X.K,X.w,ca,gT,gs,gn⟩ F) (E:=fun σ cls d H'=>W cls d σ H') (ho.run cd) (fun C sp ⟨c,F,hT,eC,es⟩=>?_) (cd.room.mono hj) (fun σ=>passAt cd.tk σ) (ha.run cd) hst hpl ht) fun σ H Q q=>Ald (fun c F h=>(tab c F h).1) q
 obtain ⟨_,f,h1,h2,h3⟩:=tab c F hT
 exact ⟨f,eC ▸ h1,eC ▸ h2,es ▸ h3⟩
end
section
open PySem.W
variable {M:Model} {A:Around} {E:Value→Shared→Prop} {s:Shared} {K:Frag} {x C f:Addr} {ox:Obj} {od:Option Obj} {i v:Value}
theorem Alf {Q:Unit→Shared→Prop} (X:K.In s.heap) (I:InstAt s.heap x ox C od) (hq:noSeq K C = true) (hs:findIn K (.ref C) "__setitem__" = some (some (.ref f))) (hf:isFn K (.ref f) = true)
  (h:wpAny M A (call (.ref f) [.ref x,i,v]) (fun _ s'=>Q () s') E s):wpAny M A (setItem (.ref x) i v) Q E s:=by
 unfold setItem sequenceKey
 refine wpAny_holding (wpAny_bind (wpAny_bind (I.type.here ?_)))
 refine wpAny_bind ((anyM_none X hq).here ?_)
 rw [if_pos (show (!false) = true from rfl)]
 exact wpAny_pure (wpAny_bind (special_fn X I hs (beq_iff_eq.mp hf) (wpAny_mono h (fun _ _ z=>wpAny_pure z) fun _ _ z=>z)))
end
def sPutO (T:Addr→Sp→Prop) (E:L2.St→XK) (td ty tv:TE):TS:=fun D σ H=>tv σ H fun v H1=>td σ H1 fun x H2=>ty σ H2 fun y H3=>∃ a C dx fs sp,x = .ref a∧H3 a = some (.ins C dx fs)∧T C sp∧sp [.ref a,y,v] H3 (fun _ H4=>D.nx σ H4) (E σ)
def SetT (X:Cx) (k:Nat) (C:Addr) (sp:Sp):Prop:=∃ f,PySem.W.findIn X.K (.ref C) "__setitem__" = some (some (.ref f))∧PySem.W.isFn X.K (.ref f) = true∧PySem.W.noSeq X.K C = true∧FnK X.prog X.w X.K X.mg X.base (L2.CX X.prog X.w) k f [] sp
theorem Alh {X:Cx} {k:Nat} {o i value:Expr} {pos pos':Pos} {td ty tv:TE} {T:Addr→Sp→Prop} {E:L2.St→XK} (tab:∀ C sp,T C sp→SetT X k C sp) (rm:Rm k X.A) (px:∀ σ,PassesAt (L2.CX X.prog X.w) X σ (E σ)) (ho:PE X o td) (hi:PE X i ty) (hv:PE X value tv)
  (hs:swapsWith value (some (.Subscript o i pos')) pos.line X.env = pure false):PS X (.Assign [.Subscript o i pos'] value pos) (sPutO T E td ty tv):=by
 refine ⟨fun pins s σ H D I h=>?_⟩
 refine wpAny_Assign_Subscript (thn (hv.run pins s σ H _ I h) fun r s1 ⟨v,H1,I1,rv,q1⟩=>thn (ho.run pins s1 σ H1 _ I1 q1) fun u s2 ⟨x,H2,I2,rx,q2⟩=>thn (hi.run pins s2 σ H2 _ I2 q2) fun iv s3 ⟨y,H3,I3,ry,a,C,dx,fs,sp,ex,ha,hT,q3⟩=>?_) hs
 subst ex
 obtain rfl:u = Value.ref a:=rx
 obtain ⟨f,h1,h2,h3,Fk⟩:=tab C sp hT
 obtain ⟨mA,J,_⟩:=ins_get I3.hok ha
 obtain ⟨od,J,_⟩:=J.look
 refine Alf I3.kIn J h3 h1 h2 ?_
 refine wpAny_mono (wpAny_call (Jb (us:=[.ref a,iv,r]) (vs:=[.ref a,y,v]) Fk rm (px σ) I3 (.cons rfl (.cons ry (.cons rv .nil))) .nil rfl (by rw [List.append_nil]; exact q3))) (fun r s' hr=>?_) fun _ _ z=>z
 obtain ⟨w',H4,I4,_,q4⟩:=hr
 exact ⟨σ,H4,I4,q4⟩
def J6 (T:Str→Option (E2 Rv)) (O Ix V:M Rv):W2:=fun e γ P=>liftM (Ad V) e γ fun o e1 γ1=>match o with
 | .er x=>P (.er x) e1 γ1
 | .v v=>liftM O e1 γ1 fun o e2 γ2=>(match o with
  | .er x=>P (.er x) e2 γ2
  | .v r=>liftM (Ad Ix) e2 γ2 fun o e3 γ3=>(match o with
   | .er x=>P (.er x) e3 γ3
   | .v ix=>(match v,ix,Es r e3 γ3 with
    | .val _,.val _,some (.ins c _)=>(match T c with
     | some F=>Ju F [r,ix,v] e3 γ3 fun o e4 γ4=>(match o with
      | .er x=>P (.er x) e4 γ4
      | .v _=>P (.c .nx) e4 γ4)
     | none=>False)
    | _,_,_=>False)))
theorem J7 {T:Str→Option (E2 Rv)} {O Ix V:M Rv} (mT:∀ c F,T c = some F→Ak F):Mon (J6 T O Ix V):=fun e γ P P' h q=>Ci _ _ _ _ _ (fun o e1 γ1 z=>by
 cases o with
 | er x=>exact h _ _ _ z
 | v v =>
  refine Ci _ _ _ _ _ (fun o e2 γ2 z=>?_) z
  cases o with
  | er x=>exact h _ _ _ z
  | v r =>
   refine Ci _ _ _ _ _ (fun o e3 γ3 z=>?_) z
   cases o with
   | er x=>exact h _ _ _ z
   | v ix =>
    dsimp only at z ⊢
    split at z
    ·rename_i c fs hd _ _
     cases qT:T c with
     | none=>rw [qT] at z; exact z.elim
     | some F =>
      rw [qT] at z
      refine Pw (mT c F qT) _ _ _ _ _ (fun o e4 γ4 z=>?_) z
      cases o <;> exact h _ _ _ z
    ·exact z) q
section
variable {g:Gm} {W:WX} {k:Nat} {X:Cx}
theorem Ali {T:Str→Option (E2 Rv)} {j:Nat} {o ix val:Expr} {O Ix Vv:M Rv} {pos pos':Pos} (tab:SpD2 X.prog X.mg X.base g j T) (hj:j≤k) (ho:VE g W k X o O) (hi:VE g W k X ix Ix) (hv:VE g W k X val Vv)
  (hs:swapsWith val (some (.Subscript o ix pos')) pos.line X.env = pure false:=by rfl):VS2 g W k X (.Assign [.Subscript o ix pos'] val pos) (J6 T O Ix Vv):=by
 refine ⟨J7 fun c F h=>(tab c F h).1,fun cd=>?_⟩
 obtain ⟨gK,gw,ca,gT,gs,gn⟩:=g
 obtain rfl:X.K = gK:=cd.K
 obtain rfl:X.w = gw:=cd.w
 refine PS.imp (Alh (T:=fun C sp=>∃ c F,T c = some F∧C = ca c∧sp = sp2 ⟨X.K,X.w,ca,gT,gs,gn⟩ F) (E:=fun σ cls d H'=>W cls d σ H') (fun C sp ⟨c,F,hT,eC,es⟩=>?_) (cd.room.mono hj) (fun σ=>passAt cd.tk σ) (ho.run cd) ((Ar hi).run cd) ((Ar hv).run cd) hs) fun D σ H ⟨G,e,γ,sr,gm,q⟩=>?_
 ·obtain ⟨_,f,h1,h2,h3,h4⟩:=tab c F hT
  exact ⟨f,eC ▸ h1,h2,eC ▸ h3,es ▸ h4⟩
 ·refine ⟨G,e,sr,?_⟩
  unfold J6 liftM at q
  revert q
  cases Ad Vv e with
  | no=>exact fun h=>h
  | er x e1=>exact fun h cls d G' H' t xo=>h cls d σ G' H' (t.tr2 gm).st2 xo
  | ok v e1 =>
   intro q G1 H1 t1 vv okv
   refine ⟨G1,e1,t1.sr,?_⟩
   dsimp only at q
   revert q
   cases O e1 with
   | no=>exact fun h=>h
   | er x e2=>exact fun h cls d G' H' t xo=>h cls d σ G' H' ((t1.trans t).tr2 gm).st2 xo
   | ok r e2 =>
    intro q G2 H2 t2 x okx
    refine ⟨G2,e2,t2.sr,?_⟩
    dsimp only at q
    revert q
    cases Ad Ix e2 with
    | no=>exact fun h=>h
    | er x e3=>exact fun h cls d G' H' t xo=>h cls d σ G' H' (((t1.trans t2).trans t).tr2 gm).st2 xo
    | ok ixr e3 =>
     intro q G3 H3 t3 iv oki
     dsimp only at q
     have t:=(t1.trans t2).trans t3
     have tt:=t.tr2 gm
     split at q
     ·rename_i dv di c fs hd
      cases qT:T c with
      | none=>rw [qT] at q; exact q.elim
      | some F =>
       rw [qT] at q
       have okr:=(okx.h0 t1.dom).tr t3
       obtain ⟨a,dx,us,ev,ha,rf,io⟩:=(Si tt.sr tt.gm okr hd).ins tt.sr.bs
       refine ⟨a,_,dx,us,_,ev,ha,⟨c,F,qT,rfl,rfl⟩,?_⟩
       rw [← ev]
       have rv:RvsOk ⟨X.K,X.w,ca,gT,gs,gn⟩ G3 H3 σ e3 H [r,.val di,.val dv] [x,iv,vv]:=by
        refine ⟨x,_,rfl,okr,⟨iv,_,rfl,oki,⟨vv,_,rfl,Rep.mono (t2.trans t3).le okv,rfl,fun _ _ z=>nomatch z⟩,fun _ _ z=>nomatch z⟩,fun d p er ep d' u m z=>?_⟩
        rcases List.mem_cons.mp m with y | y
        ·cases y
        ·rcases List.mem_cons.mp y with y | y
         ·cases y
         ·cases y
       refine Yf ((tab c F qT).1) sr tt rv (Sn gm rv) (Pw (tab c F qT).1 _ _ _ _ _ (fun o e4 γ4 z=>?_) q)
       cases o with
       | er x=>exact fun cls d G' H' t4 xo=>z cls d σ G' H' t4.st2 xo
       | v _=>exact fun G' H' t4 v _=>z σ G' H' t4.st2
     ·exact q.elim
end
end Vs
set_option maxRecDepth 100000
namespace Vs
open PySem PySem.Spec PyProof.Rows L2 Fw SX
section
variable {g:Gm} {G H G1 H1:Hp} {σ:L2.St} {e e1:Ve} {γ γ1:Gh}
end
def P4 (rs:List Rv) (e:Ve) (P:Og Rv→Ve→Gh→Prop):Og Rv→Ve→Gh→Prop:=fun o as' γ'=>match o,as' with
 | .er x,_ :: as'=>P (.er x) (Bb rs as' e) γ'
 | .v (.val .non),.bo (.ins c fs) :: as'=>∀ b,¬ InG γ' b→P (.v (.val (.con (.ref b)))) (Bb rs as' e) ((b,.ins c fs) :: γ')
 | _,_=>False
def Nw (c:Str) (F:E2 Rv) (rs:List Rv):E2 Rv:=fun e γ P=>Bo rs = true∧match Ba rs e with
 | some as=>F (.bo (.ins c []) :: as) γ (P4 rs e P)
 | none=>False
def Hw (c:Str) (F:E2 Rv) (A:M (List Rv)):E2 Rv:=Bz (liftM A) (Nw c F)
theorem Ys {c:Str} {F:E2 Rv} (m:Ak F) (rs:List Rv):Ak (Nw c F rs):=fun e γ P P' h q=>by
 unfold Nw at q ⊢
 refine ⟨q.1,?_⟩
 have q2:=q.2
 revert q2
 cases Ba rs e with
 | none=>exact fun q=>q
 | some as =>
  refine m _ _ _ _ fun o as' γ' z=>?_
  unfold P4 at z ⊢
  split at z
  ·exact h _ _ _ z
  ·exact fun b nb=>h _ _ _ (z b nb)
  ·exact z.elim
section
variable {g:Gm} {W:WX} {k:Nat} {X:Cx}
theorem Alj {c:Str} {F:E2 Rv} {rs:List Rv} {vs:List V} {σ:L2.St} {G H G1 H1:Hp} {e e1:Ve} {γ γ1:Gh} {Q:VK} (mF:Ak F) (hc:Cls g.K (g.ca c)) (sr:SR g G H σ e) (t1:Tr2 g σ G H e γ G1 H1 e1 γ1) (rv:RvsOk g G1 H1 σ e1 H rs vs)
  (nf:∀ (i:Nat) d p,rs[i]? = some (.fresh d)→vs[i]? = some (.ref p)→¬ InG γ1 p)
  (h1:Nw c F rs e1 γ1 (Pst2 g W σ G H e γ fun r G' H' e' γ'=>∀ v,RvOk2 g G' H' σ e' γ' H r v→Q v H')):∀ x dx,H1 x = none→H1 dx = none→dx≠x →
   sp2 g F (.ref x :: vs) (upd (upd H1 dx (.own x)) x (.ins (g.ca c) dx [])) (fun v H2=>v = .non∧Q (.ref x) H2) (fun cls d H'=>W cls d σ H'):=by
 intro x dx nx ndx ne
 have g1:=Grow.lay (o:=HO.own x) t1.sr.bs ndx
 have nx2:upd H1 dx (.own x) x = none:=by rw [upd_ne (fun z=>ne z.symm)]; exact nx
 have g2:=g1.trans (Grow.lay (o:=HO.ins (g.ca c) dx []) g1.bs nx2)
 have tg:=g2.tr t1.sr
 have t2:=t1.trans (tg.tr2 t1.gm)
 have hx0:H x = none:=t1.dom x nx
 have rvx:RvOk g G1 (upd (upd H1 dx (.own x)) x (.ins (g.ca c) dx [])) σ e1 H (.fresh (.ins c [])) (.ref x) :=
  ⟨x,rfl,t1.sr.bs.hn nx,⟨dx,[],upd_same,rfl,hc,fun q hq=>nomatch hq⟩,hx0,fun i r=>(t1.sr.root r).2 nx⟩
 have rv2:RvsOk g G1 (upd (upd H1 dx (.own x)) x (.ins (g.ca c) dx [])) σ e1 H (.fresh (.ins c []) :: rs) (.ref x :: vs):=by
  refine ⟨.ref x,vs,rfl,rvx,rv.tr tg,fun d p er ep d' u m z=>?_⟩
  cases ep
  have key:∀ {rs:List Rv} {vs:List V},RvsOk g G1 H1 σ e1 H rs vs→(Rv.fresh d',u)∈rs.zip vs→∃ p',u = .ref p'∧H1 p'≠none:=by
   intro rs
   induction rs with
   | nil=>intro vs _ m; simp at m
   | cons r rs ih =>
    intro vs h m
    obtain ⟨v,t,rfl,a,b,_⟩:=h
    rcases List.mem_cons.mp m with y | y
    ·cases y
     obtain ⟨p',ev,_,ow,_⟩:=a
     obtain ⟨ob,ho,_⟩:=ow.there
     exact ⟨p',ev,by rw [ho]; exact fun z=>nomatch z⟩
    ·exact ih b y
  obtain ⟨p',ep',hp'⟩:=key rv m
  rw [z] at ep'
  cases ep'
  exact hp' nx
 obtain ⟨o,h1⟩:=h1
 cases qa:Ba rs e1 with
 | none=>rw [qa] at h1; exact h1.elim
 | some as =>
  rw [qa] at h1
  have qa2:Ba (.fresh (.ins c []) :: rs) e1 = some (.bo (.ins c []) :: as):=by
   unfold Ba
   rw [qa]
   rfl
  have o2:Bo (.fresh (.ins c []) :: rs) = true:=o
  obtain ⟨sra,oka,rts⟩:=K5 t2.sr rv2 o2 qa2
  have nxg:¬ InG γ1 x:=fun m=>by
   obtain ⟨ob,ho,_⟩:=t1.gm.there m
   rw [ho] at nx; cases nx
  refine ⟨G1,.bo (.ins c []) :: as,γ1,oka,sra,⟨t2.gm.nd,t2.gm.kd,fun b u m=>⟨(t2.gm.at_ b u m).1,(t2.gm.at_ b u m).2.1,fun i r=>?_⟩⟩,mF _ _ _ _ (fun out as2 γ' z=>?_) h1⟩
  ·rcases rts i b r with ⟨j,_,rj⟩ | ⟨d,hr,_,_⟩
   ·exact (t2.gm.at_ b u m).2.2 j rj
   ·have hv:=r.2
    rw [List.getElem?_map] at hv
    cases qv:(V.ref x :: vs)[i]? with
    | none=>rw [qv] at hv; cases hv
    | some v =>
     rw [qv] at hv
     cases hv
     cases i with
     | zero=>cases qv; exact nxg ⟨u,m⟩
     | succ i=>exact nf i d b hr qv ⟨u,m⟩
  ·have trc:∀ {G2 H2:Hp} {a0:Sl} {as':List Sl} {γ2:Gh},Tr2 g ((V.ref x :: vs).map some) G1 (upd (upd H1 dx (.own x)) x (.ins (g.ca c) dx [])) (.bo (.ins c []) :: as) γ1 G2 H2 (a0 :: as') γ2→Tr2 g σ G H e γ G2 H2 (Bb rs as' e1) γ2:=fun {G2 H2 a0 as' γ2} t3=>by
    have:=Sd t2 rv2 o2 qa2 t3
    unfold Bb at this ⊢
    rw [Rh (fun i z=>by cases z)] at this
    exact this
   unfold P4 at z
   split at z
   ·exact fun cls d G2 H2 t3 xo=>z cls d G2 H2 (trc t3) xo
   ·rename_i c' fs as'
    intro G2 H2 t3 v nw _
    refine ⟨nw,?_⟩
    have sl:=t3.sr.slot 0
    obtain ⟨p,ep,np,ow⟩:=sl
    cases ep
    have rx:Rt ((V.ref x :: vs).map some) (.bo (.ins c' fs) :: as') 0 x:=⟨trivial,rfl⟩
    have nxi:¬ InG γ' x:=fun ⟨u,m⟩=>(t3.gm.at_ x u m).2.2 0 rx
    have t4:=trc t3
    have t5:=t4.cell hx0 np ow (fun i r=>(sr.root (t4.ve.rt r)).2 hx0) nxi rfl
    exact z x nxi G2 H2 t5 (.ref x) ⟨(rfl:V.ref x = V.ref x),fun _ _ y=>nomatch y⟩
   ·exact z.elim
theorem Alk {x c:Str} {j:Nat} {F:E2 Rv} {ex:Expr} {es:List Expr} {A:M (List Rv)} {p pos:Pos} (d:Mk2 X.prog X.mg X.base g x c j F) (hj:j + 1≤k) (hg:Gl X x) (ha:VA g W k X (ex :: es) A)
  (hdb:(x == ("__debug__" : Str)) = false:=by decide) (he:starEach (ex :: es) X.env = (false,eval ex X.env) :: starEach es X.env:=by rfl) (hpl:(backTo pos (starEach es X.env)).any (·.1) = false:=by rfl):VE2 g W k X (.Call (.Name x p) (ex :: es) [] pos) (Hw c F A):=by
 refine ⟨Dx (Ci _) fun _=>Ys d.1 _,fun cd=>?_⟩
 obtain ⟨mF,f,hm,mk,hc,Fk⟩:=d
 obtain ⟨gK,gw,ca,gT,gs,gn⟩:=g
 obtain rfl:X.K = gK:=cd.K
 obtain rfl:X.w = gw:=cd.w
 refine PE.imp (V8 (E:=fun σ cls d H'=>W cls d σ H') mk Fk (cd.room.mono hj) hg hm (fun σ=>passAt cd.tk σ) (ha.run cd) hdb he hpl) fun σ H Q ⟨G,e,γ,sr,gm,q⟩=>?_
 refine ⟨G,e,sr,?_⟩
 unfold Hw Bz liftM at q
 revert q
 cases A e with
 | no=>exact fun h=>h
 | er x e1=>exact fun h cls d G' H' t xo=>h cls d G' H' (t.tr2 gm) xo
 | ok rs e1 =>
  intro h G1 H1 t1 vs rv
  show ∀ x dx,_
  rw [List.append_nil]
  exact Alj mF hc sr (t1.tr2 gm) rv (Sn gm rv) h
end
end Vs
set_option maxRecDepth 100000
set_option maxHeartbeats 2000000
namespace Vs
open PySem PySem.Spec PyProof.Rows L2 Fw SX
def Yt (n:Nat) (F:E2 Rv):Prop:=∀ ns:List Int,ns.length≤n→F [.sh (.scr ns)] [] fun o _ _=>o = .v (.val (.bl true))
theorem Alm {P:Program} {w:World} {K:PySem.W.Frag} {mg:Str→Option Value} {base:Heap} {ca:Str→Addr} {Tb:LT} {f:Addr} {fd:FuncData} {ps:List Str} {j n np N:Nat} {B:W2} (mB:Mon B)
  (F:∀ (sa:Addr) (sn:List Int),FnG P w K mg base (L2.CX P w) j f fd ps (Ec ⟨K,w,ca,Tb,sa,sn⟩ np (Cr np N B))) (hp:ps.length = 1) (hB:Yt n (Cr np N B)):FnG P w K mg base CX0 j f fd ps (spT K (Tb.tabs.map Prod.fst) n):=by
 refine ⟨fun vs H Q E ⟨a,ns,ev,_⟩=>by rw [ev,hp]; rfl,fun A outer s H args us vs Q E hr e0 bt rv hs=>?_⟩
 obtain ⟨a,ns,ev,hl,ho,sq,q⟩:=hs
 have he:=hB ns hl
 have key:∃ G:Hp,Bs G H∧Tabs2 Tb.tabs G H∧ScrOk ⟨K,w,ca,Tb,a,ns⟩ G H:=by
  have emp:∀ G:Hp,(∀ p∈Tb.tabs,G p.1 = none)→Tabs2 Tb.tabs G H:=fun G hG p hp=>⟨#[],ho _ (List.mem_map.mpr ⟨p,hp,rfl⟩),hG p hp,True.intro,fun pos cv hc=>by cases hc⟩
  have b0:Bs (fun _=>none) H:=⟨(fun a o u z=>nomatch z),(fun a u z=>nomatch z)⟩
  rcases sq with (h | ⟨o,h⟩) | h
  ·refine ⟨fun b=>if b = a then some (.lst (ns.map .int)) else none,⟨fun b o u z=>?_,fun b u z=>?_⟩,emp _ fun p hp=>?_,.inr (.inr (if_pos rfl))⟩
   ·by_cases c:b = a
    ·rw [if_pos c] at z; cases z
    ·rw [if_neg c] at z; cases z
   ·by_cases c:b = a
    ·rw [if_pos c] at z; cases z; rw [c]; exact .inl h
    ·rw [if_neg c] at z; cases z
   ·have t:=ho _ (List.mem_map.mpr ⟨p,hp,rfl⟩)
    rw [if_neg (fun z=>by rw [z,h] at t; cases t)]
  ·exact ⟨_,b0,emp _ fun _ _=>rfl,.inl ⟨o,h⟩⟩
  ·exact ⟨_,b0,emp _ fun _ _=>rfl,.inr (.inl fun H'=>.inr h)⟩
 obtain ⟨G,bs,tb,sc⟩:=key
 have hs2:sp2 ⟨K,w,ca,Tb,a,ns⟩ (Cr np N B) vs H Q (fun _ _ _=>False):=by
  subst ev
  refine ⟨G,[.sh (.scr ns)],[],rfl,⟨bs,tb,sc,rfl,fun i=>?_,fun i j p r=>?_⟩,⟨List.nodup_nil,(fun _ _ m=>nomatch m),(fun _ _ m=>nomatch m)⟩,Gg mB _ _ _ _ (fun o e' γ' z=>?_) he⟩
  ·match i with
   | 0=>exact ⟨_,rfl,rfl,rfl⟩
   | i + 1=>trivial
  ·obtain ⟨r1,_⟩:=r
   match i with
   | 0=>exact r1.elim
   | i + 1=>exact r1.elim
  ·subst z
   intro G' H' t v nw _
   rw [show v = .bl true from nw]
   exact q H'
 refine codeAny_mono ((F a ns).run A outer s H args us vs Q (fun _ _ _=>False) hr e0 bt rv (Yq mB hs2)) fun r s' z=>?_
 match r,z with
 | .ok (.ret u),z=>exact z
 | .ok .next,z=>exact z
 | .ok .brk,z=>exact z
 | .ok .cont,z=>exact z
 | .error e,z =>
  obtain ⟨a,B,H',cls,d,_,_,_,_,_,_,_,he⟩:=z
  exact he
end Vs
set_option maxRecDepth 100000
set_option maxHeartbeats 2000000
namespace Vs
open PySem PySem.Spec PyProof.Rows L2 Fw SX
theorem Lu {C:E2 Bool} {A B:W2} (mc:Ak C) (ma:Mon A) (mb:Mon B):Mon (if2 C A B):=fun e γ P P' h q=>mc _ _ _ _ (fun o e1 γ1 z=>by
  cases o with
  | er x=>exact h _ _ _ z
  | v b =>
   cases b with
   | true=>exact ma _ _ _ _ h z
   | false=>exact mb _ _ _ _ h z) q
theorem Lv {F:E2 Rv} (m:Ak F):Mon (ret2 F):=fun e γ P P' h q=>m _ _ _ _ (fun o e1 γ1 z=>by cases o <;> exact h _ _ _ z) q
theorem Lw {A:E2 Bool} (m:Ak A):Ak (not2 A):=fun e γ P P' hh q=>m _ _ _ _ (fun o e1 γ1 z=>by cases o <;> exact hh _ _ _ z) q
theorem Lx {f:Str} {A:E2 Rv} (m:Ak A):Ak (Ht f A):=Dx m fun _=>Sj
theorem Ly {T:Str→Option (E2 Rv)} {m:Str} {O:M Rv} {A:M (List Rv)} (mT:∀ c F,T c = some F→Ak F):Ak (Hv T m O A):=Dx (Ci _) fun _=>Yr mT
theorem Lz {c:Str} {F:E2 Rv} {A:M (List Rv)} (m:Ak F):Ak (Hw c F A):=Dx (Ci _) fun _=>Ys m _
def Ny (F:Addr→M Ctl) (A:E2 Rv):W2:=fun e γ P=>A e γ fun o e1 γ1=>match o with
 | .er x=>P (.er x) e1 γ1
 | .v (.val (.con (.ref b)))=>Ap (F b) e1 γ1 P
 | .v _=>False
theorem J8 {F:Addr→M Ctl} {A:E2 Rv} (m:Ak A):Mon (Ny F A):=fun e γ P P' h q=>m _ _ _ _ (fun o e1 γ1 z=>by
 split at z
 ·exact h _ _ _ z
 ·exact Ep _ _ _ _ _ h z
 ·exact z.elim) q
section
variable {g:Gm} {W:WX} {k:Nat} {X:Cx} {i j l:Nat}
theorem P5 {st:Stmt} {A:W2} (h:VS2 g W k X st A):VSs2 g W k X [st] A:=⟨h.mon,fun c=>pss_one (h.run c)⟩
theorem Aln {op:CmpOp} {f:D→D→Option Rv} {a b:Expr} {A B:E2 Rv} {pos:Pos} (h:D9 g W k X op f) (ha:VE2 g W k X a A) (hb:VE2 g W k X b B) (hm:behindInMarks op b = false:=by rfl):VT2 g W k X (.Compare a [op] [b] pos) (Jr (Jq f A B)) :=
 let ⟨_,h1,h2⟩:=h; ⟨Js (Ho ha.mon hb.mon),fun c=>PT.imp (pt_cmpR (h1 c) (ha.run c) (hb.run c) hm) fun σ H Q q=>Ak2 ha.mon hb.mon h2 (Ak3 (Ho ha.mon hb.mon) q)⟩
theorem Alo {A:M (List Rv)} {D:Ends} {σ:L2.St} {H:Hp} (q:TVS g W (Jg i j l A) D σ H):TVA g W A σ H fun vs H1=>∃ v1 v2 v3,vs = [v1,v2,v3]∧D.nx (((σ.set i (some v1)).set j (some v2)).set l (some v3)) H1:=by
 obtain ⟨G,e,sr,h⟩:=q
 refine ⟨G,e,sr,Pst.mono (PstS.bindE0 h) fun rs G1 H1 e1 t1 h1 vs rv=>?_⟩
 match rs,h1,rv with
 | [],h1,_=>exact h1.elim
 | [_],h1,_=>exact h1.elim
 | [_,_],h1,_=>exact h1.elim
 | _ :: _ :: _ :: _ :: _,h1,_=>exact h1.elim
 | [r1,r2,r3],h1,⟨v1,t,ev,o1,⟨v2,t',ev',o2,⟨v3,t3,ev3,o3,en,_⟩,ap2⟩,ap⟩ =>
  subst ev ev' ev3 en
  obtain ⟨e2,s1,h2⟩:=Jh h1
  obtain ⟨e3,s2,h3⟩:=Jh h2
  obtain ⟨e4,s3,h4⟩:=Jh h3
  refine ⟨v1,v2,v3,rfl,?_⟩
  obtain ⟨st1,k1⟩:=St.stoN t1.st o1 s1
  have o2':=k1 r2 v2 (fun d p d' er ep e' z=>ap d p er ep d' v2 (by rw [e']; exact List.mem_cons_self) z) (M6 s2) o2
  have o3':=k1 r3 v3 (fun d p d' er ep e' z=>ap d p er ep d' v3 (by rw [e']; exact List.mem_cons_of_mem _ List.mem_cons_self) z) (M6 s3) o3
  obtain ⟨st2,k2'⟩:=St.stoN st1 o2' s2
  have o3'':=k2' r3 v3 (fun d p d' er ep e' z=>ap2 d p er ep d' v3 (by rw [e']; exact List.mem_cons_self) z) (M6 s3) o3'
  obtain ⟨st3,_⟩:=St.stoN st2 o3'' s3
  exact h4 _ G1 H1 st3
theorem Alp {b:Addr} {B:M (List Rv)} {σ:L2.St} {H:Hp} {Q:List V→Hp→Prop} (q:TVA g W (Ab (fC (.con (.ref b))) B) σ H Q):TVA g W B σ H fun vs H1=>Q (.ref b :: vs) H1:=by
 obtain ⟨G,e,sr,h⟩:=q
 refine ⟨G,e,sr,?_⟩
 unfold Ab fC M.bind M.ret at h
 dsimp only at h
 revert h
 cases B e with
 | no=>exact fun h=>h
 | er x e1=>exact fun h=>h
 | ok bs e1=>exact fun h G1 H1 t vs rv=>h G1 H1 t (.ref b :: vs) ⟨.ref b,vs,rfl,(rfl:V.ref b = V.ref b),rv,fun d p z=>nomatch z⟩
theorem Alq {F:Addr→M Ctl} {A:E2 Rv} {B:M (List Rv)} (ma:Ak A) {σ:L2.St} {H:Hp} {D:Ends} {Q:List V→Hp→Prop} (hF:∀ (b:Addr) H1,TVS g W (F b) D σ H1→TVA g W (Ab (fC (.con (.ref b))) B) σ H1 Q) (h:Ga g W (Ny F A) D σ H) :
  TV2 g W A σ H fun x H1=>TVA g W B σ H1 fun vs H2=>Q (x :: vs) H2:=by
 obtain ⟨G,e,γ,sr,gm,q⟩:=h
 refine ⟨G,e,γ,sr,gm,ma _ _ _ _ (fun o e1 γ1 z=>?_) q⟩
 split at z
 ·exact fun cls d G' H' t xo=>z cls d σ G' H' t.st2 xo
 ·rename_i b
  intro G1 H1 t1 v ok
  have ev:v = .ref b:=ok.1
  subst ev
  refine Alp (hF b H1 (Sa ⟨G1,e1,γ1,t1.sr,t1.gm,Ep _ _ _ _ _ (Post2.step t1.st2) z⟩))
 ·exact z.elim
theorem Alr {x y z:Str} {a b c':Expr} {A:E2 Rv} {B C:M Rv} {px py pz pt pos:Pos} {kt k2 pt2} (hi:X.N[i]? = some x) (hj:X.N[j]? = some y) (hl:X.N[l]? = some z)
  (hx:X.env.scope.names.lookup x = some .local) (hy:X.env.scope.names.lookup y = some .local) (hz:X.env.scope.names.lookup z = some .local) (ha:VE2 g W k X a A) (hb:VA g W k X [b,c'] (Ab B (Ab C Ag))) (hij:i≠j:=by decide) (hil:i≠l:=by decide) (hjl:j≠l:=by decide)
  (hw:swappedStores [.Tuple [.Name x px,.Name y py,.Name z pz] kt pt] (.Tuple [a,b,c'] k2 pt2) X.env = pure (some [x,y,z]):=by rfl)
  (hs:swapsWithSole [.Tuple [.Name x px,.Name y py,.Name z pz] kt pt] (.Tuple [a,b,c'] k2 pt2) pos.line X.env = pure false:=by rfl) (he:starEach [a,b,c'] X.env = (false,eval a X.env) :: starEach [b,c'] X.env:=by rfl) :
  VS2 g W k X (.Assign [.Tuple [.Name x px,.Name y py,.Name z pz] kt pt] (.Tuple [a,b,c'] k2 pt2) pos) (Ny (fun q=>Jg i j l (Ab (fC (.con (.ref q))) (Ab B (Ab C Ag)))) A) :=
 ⟨J8 ha.mon,fun c=>PS.imp (ps_par3 c.calm c.nd hi hj hl hij hil hjl hx hy hz (pa_cons (ha.run c) (hb.run c) he) hw hs) fun D σ H q=>Alq ha.mon (fun b H1 h=>Alo h) q⟩
end
end Vs
set_option maxRecDepth 100000
set_option maxHeartbeats 2000000
namespace Vs
open PySem PySem.Spec PyProof.Rows L2 Fw SX
section
variable {e e1 e2 e3:Ve} {γ:Gh} {P:P2} {A B:W2}
theorem Hx {F:M Ctl} {c:Ctl} (h:F e = .ok c e1) (k:P (.c c) e1 γ):Ap F e γ P:=by
 unfold Ap; rw [h]; exact k
theorem Dy (k:A e γ fun o e1 γ1=>match o with | .c .nx=>B e1 γ1 P | o=>P o e1 γ1):A7 A B e γ P:=k
theorem Nz {F:M Ctl} (h:F e = .ok .nx e1) (k:B e1 γ P):A7 (Ap F) B e γ P:=by
 unfold A7 Ap; rw [h]; exact k
theorem Yu {F:M Rv} {r:Rv} (h:F (Bi γ e) = .ok r e1) (hr:bakR r = true) (hb:Bv e e1 = true) (k:P (.c .nx) (B3 e e1) γ):Lq (rd2 F) e γ P:=by
 unfold Lq rd2; rw [h]; exact ⟨hr,hb,k⟩
theorem Yv {Q:M Bool} {b:Bool} (h:Q (Bi γ e) = .ok b e1) (hb:Bv e e1 = true) (k:(if b = true then A else B) (B3 e e1) γ P):if2 (rdT Q) A B e γ P:=by
 unfold if2 rdT
 rw [h]
 refine ⟨hb,?_⟩
 cases b <;> exact k
theorem Yw {Q:M Bool} {b:Bool} (h:Q e = .ok b e1) (k:(if b = true then A else B) e1 γ P):if2 (liftM Q) A B e γ P:=by
 unfold if2 liftM
 rw [h]
 cases b <;> exact k
theorem So {V:M Rv} {v:Rv} {P:Og Rv→Ve→Gh→Prop} (h:Ad V e = .ok v e1) (k:P (.v v) e1 γ):Ge (liftM V) e γ P:=by
 unfold Ad M.bind at h
 unfold Ge Bz liftM
 cases q:V e with
 | no=>rw [q] at h; cases h
 | er x e'=>rw [q] at h; cases h
 | ok r e' =>
  rw [q] at h
  dsimp only at h ⊢
  rw [h]
  exact k
theorem Als {V O Ix:M Rv} {f c:Str} {fs:List (Str × D)} {v ix d0 d':D} {r:Rv} {b:Addr} (hv:Ad V e = .ok (.val v) e1) (ho:O e1 = .ok r e2) (hd:Es r e2 γ = some (.ins c fs)) (hf:fs.lookup f = some (.con (.ref b))) (hi:Ad Ix e2 = .ok (.val ix) e3)
  (hl:γ.lookup b = some d0) (hu:Em d0 ix v = some d') (di:Ic d' = true) (k:P (.c .nx) e3 (Cq γ b d')):Nr Em (Ht f (liftM O)) (liftM Ix) (liftM V) e γ P:=by
 unfold Nr
 refine So hv ?_
 dsimp only
 unfold Ht Bz liftM Lo
 rw [ho]
 dsimp only
 rw [hd]
 dsimp only
 rw [hf]
 dsimp only
 refine So hi ?_
 have hh:Fc (.val (.con (.ref b))) e2 = some b:=rfl
 dsimp only
 rw [hh]
 dsimp only
 rw [hl]
 dsimp only
 rw [hu]
 exact ⟨di,k⟩
theorem Alu {O Ix:M Rv} {f c:Str} {fs:List (Str × D)} {ix d0 d':D} {r:Rv} {b:Addr} (ho:O e = .ok r e2) (hd:Es r e2 γ = some (.ins c fs)) (hf:fs.lookup f = some (.con (.ref b))) (hi:Ad Ix e2 = .ok (.val ix) e3)
  (hl:γ.lookup b = some d0) (hu:Nt d0 ix = some d') (k:P (.c .nx) e3 (Cq γ b d')):Nu (Ht f (liftM O)) (liftM Ix) e γ P:=by
 unfold Nu
 unfold Ht Bz liftM Lo
 rw [ho]
 dsimp only
 rw [hd]
 dsimp only
 rw [hf]
 dsimp only
 refine So hi ?_
 have hh:Fc (.val (.con (.ref b))) e2 = some b:=rfl
 dsimp only
 rw [hh]
 dsimp only
 rw [hl]
 dsimp only
 rw [hu]
 exact k
theorem Yx {cs:List Str} {f c:Str} {i:Nat} {F:M Rv} {d:D} {fs:List (Str × D)} {b:Addr} (h:F (Bi γ e) = .ok (.fresh d) e1) (hr:C0 d = true) (hb:Bv e e1 = true) (hs:(B3 e e1)[i]? = some (.sh (.con (.ref b)))) (hl:γ.lookup b = some (.ins c fs)) (hc:cs.contains c = true) (hz:fs.length < 1000)
  (k:P (.c .nx) (B3 e e1) (Cq γ b (.ins c (Bp f d fs)))):Hu cs f i (rd2 F) e γ P:=by
 unfold Hu Ge Bz rd2
 rw [h]
 refine ⟨hr,hb,?_⟩
 show (match (B3 e e1)[i]? with | some (.sh (.con (.ref b)))=>_ | _=>False)
 rw [hs]
 dsimp only
 rw [hl]
 exact ⟨hc,hz,k⟩
theorem Yy {rs:List Rv} {as:List Sl} (h:∀ i,Rv.slot i∈rs→∃ d,e[i]? = some (.sh d)):Bb rs as e = e:=by
 refine List.ext_getElem? fun j=>?_
 unfold Bb
 rw [Oq,Nat.zero_add]
 cases q:e[j]? with
 | none=>rfl
 | some s =>
  show some _ = some _
  congr 1
  cases q2:Cn j rs as with
  | none=>rfl
  | some a =>
   obtain ⟨k,h1,_⟩:=Ot q2
   obtain ⟨d,hd⟩:=h j (List.mem_of_getElem? h1)
   rw [q] at hd
   cases hd
   cases a <;> rfl
def Prm (F:E2 Rv) (as:List Sl) (γ:Gh) (r:Rv) (γ':Gh):Prop:=∀ Q:Og Rv→Ve→Gh→Prop,Q (.v r) as γ'→F as γ Q
theorem Yz {F:E2 Rv} {rs:List Rv} {as:List Sl} {r:Rv} {γ':Gh} {P:Og Rv→Ve→Gh→Prop} (ho:Bo rs = true) (ha:Ba rs e = some as) (hF:Prm F as γ r γ') (hs:∀ i,Rv.slot i∈rs→∃ d,e[i]? = some (.sh d)) (k:P (.v r) e γ'):Ju F rs e γ P:=by
 refine ⟨ho,?_⟩
 rw [ha]
 refine hF _ ?_
 rw [Yy hs]
 exact k
theorem Alv {T:Str→Option (E2 Rv)} {O Ix V:M Rv} {F:E2 Rv} {v ix:D} {c:Str} {fs:List (Str × D)} {b:Addr} {γ':Gh} {r:Rv} (hv:Ad V e = .ok (.val v) e1) (ho:O e1 = .ok (.val (.con (.ref b))) e2) (hi:Ad Ix e2 = .ok (.val ix) e3) (hl:γ.lookup b = some (.ins c fs)) (hT:T c = some F)
  (hF:Prm F [.sh (.con (.ref b)),.sh ix,.sh v] γ r γ') (k:P (.c .nx) e3 γ'):J6 T O Ix V e γ P:=by
 unfold J6 liftM
 rw [hv]
 dsimp only
 rw [ho]
 dsimp only
 rw [hi]
 dsimp only
 have hd:Es (.val (.con (.ref b))) e3 γ = some (.ins c fs):=hl
 rw [hd]
 dsimp only
 rw [hT]
 refine Yz (as:=[.sh (.con (.ref b)),.sh ix,.sh v]) rfl rfl hF (fun j hj=>?_) k
 rcases List.mem_cons.mp hj with y | y
 ·cases y
 ·rcases List.mem_cons.mp y with y | y
  ·cases y
  ·rcases List.mem_cons.mp y with y | y <;> cases y
theorem Alw {T:Str→Option (E2 Rv)} {m:Str} {O:M Rv} {A:M (List Rv)} {F:E2 Rv} {c:Str} {fs:List (Str × D)} {b:Addr} {γ':Gh} {r:Rv} {rs:List Rv} {as:List Sl} {P:Og Rv→Ve→Gh→Prop} (ho:O e = .ok (.val (.con (.ref b))) e1) (hl:γ.lookup b = some (.ins c fs)) (hm:(fs.lookup m).isNone = true) (hT:T c = some F)
  (hA:A e1 = .ok rs e2) (h1:Bo rs = true) (h2:Ba rs e2 = some as) (hF:Prm F (.sh (.con (.ref b)) :: as) γ r γ') (h3:∀ j,Rv.slot j∈rs→∃ d,e2[j]? = some (.sh d)) (k:P (.v r) e2 γ'):Hv T m O A e γ P:=by
 unfold Hv Bz liftM Nv
 rw [ho]
 dsimp only
 have hd:Es (.val (.con (.ref b))) e1 γ = some (.ins c fs):=hl
 rw [hd]
 refine ⟨hm,?_⟩
 rw [hT]
 unfold Bz liftM
 rw [hA]
 refine Yz (as:=.sh (.con (.ref b)) :: as) h1 ?_ hF (fun j hj=>h3 j ?_) k
 ·unfold Ba
  rw [h2]
  rfl
 ·rcases List.mem_cons.mp hj with y | y
  ·cases y
  ·exact y
theorem Alx {c:Str} {F:E2 Rv} {A:M (List Rv)} {rs:List Rv} {as as':List Sl} {fs:Addr→List (Str × D)} {Γ:Addr→Gh} {P:Og Rv→Ve→Gh→Prop} (hA:A e = .ok rs e1) (h1:Bo rs = true) (h2:Ba rs e1 = some as)
  (hF:∀ Q:Og Rv→Ve→Gh→Prop,(∀ b2,¬ InG γ b2→Q (.v (.val .non)) (.bo (.ins c (fs b2)) :: as') (Γ b2))→F (.bo (.ins c []) :: as) γ Q) (h3:Bb rs as' e1 = e1)
  (k:∀ b2 b,¬ InG γ b2→¬ InG (Γ b2) b→P (.v (.val (.con (.ref b)))) e1 ((b,.ins c (fs b2)) :: Γ b2)):Hw c F A e γ P:=by
 unfold Hw Bz liftM Nw
 rw [hA]
 refine ⟨h1,?_⟩
 rw [h2]
 refine hF _ fun b2 n2=>?_
 unfold P4
 intro b nb
 rw [h3]
 exact k b2 b n2 nb
theorem Y0 {S:M (List D)} {F:D→M Unit} {ds:List D} (h:S e = .ok ds e1) (k:Cy F B ds e1 γ P):Gf S F B e γ P:=by
 unfold Gf; rw [h]; exact k
theorem Y1 {F:D→M Unit} (k:P (.c .nx) e γ):Cy F B [] e γ P:=k
theorem Y2 {F:D→M Unit} {d:D} {r:List D} (h:F d e = .ok () e1) (k:B e1 γ fun o e3 γ3=>match o with
   | .c .nx=>Cy F B r e3 γ3 P
   | .c .ct=>Cy F B r e3 γ3 P
   | .c .bk=>P (.c .nx) e3 γ3
   | .c (.rt v)=>P (.c (.rt v)) e3 γ3
   | .er x=>P (.er x) e3 γ3):Cy F B (d :: r) e γ P:=by
 unfold Cy; rw [h]; exact k
end
end Vs
set_option maxRecDepth 100000
set_option maxHeartbeats 2000000
namespace Vs
open PySem PySem.Spec PyProof.Rows L2 Fw SX
theorem Sq {P:Program} {w:World} {H:Hp} {h:Heap} {l it:Addr} {i:Nat} (e:h.IsListIter it l i):ObjOk P w H h it (Av l it i) :=
 ⟨e,(let ⟨o,ho,_⟩:=e; ⟨o,ho⟩),fun _ _ q k=>by obtain ⟨o,ho,r⟩:=q; exact ⟨o,k o ho,r⟩⟩
theorem Aly {l it:Addr} {i:Nat} (ob:Obj) (u:HO):Av l it i≠.frz ob u:=fun z=>by unfold Av at z; cases z
theorem Y3 {l it:Addr} {i:Nat} (ps:Array Value):Av l it i≠.tbl ps:=fun z=>by unfold Av at z; cases z
section
variable {prog:Program} {w:World} {A:Around} {E:Value→Shared→Prop} {s:Shared}
theorem Alz {it t:Addr} {i:Nat} {items:Array Value} {Q:Option Value→Shared→Prop} (hh:A.handled = none)
  (hit:s.heap.IsListIter it t i) (ht:s.heap.IsList t items) (hx:items[i]? = none)
  (hQ:∀ h1 h' o,h1.get? it = some o→Heap.SameBut it s.heap h1→(∀ b o,h1.get? b = some o→h'.get? b = some o)→Q none { s with heap:=h' }):wpAny (model prog w) A (pyNext (.ref it)) Q E s:=by
 obtain ⟨o,ho,hc,hd⟩:=id hit
 obtain ⟨ol,hol,_,nl,hdl⟩:=ht
 unfold pyNext
 refine wpAny_bind (wpAny_attempt (wpAny_callSpecial?_slot (name:=Str.ofString "__next__") hit.typeIs slot_listiter_next
  (wpAny_call_entry slot_listiter_next hit.typeIs entry_listiter_next ?_ (args_listiter_next _))))
 show wpAny _ _ (field (.ref it) 0 >>= _) _ _ s
 refine wpAny_bind (wpAny_field ho hd (x:=.ref t) rfl ?_)
 show wpAny _ _ (if (Value.ref t == Value.none) = true then _ else _) _ _ s
 rw [if_neg (show ¬ ((Value.ref t == Value.none) = true) from Bool.false_ne_true)]
 show wpAny _ _ (field (.ref it) 1 >>= _) _ _ s
 refine wpAny_bind (wpAny_field ho hd (x:=.int i 0) rfl ?_)
 show wpAny _ _ (seqItems? (.ref t) >>= _) _ _ s
 refine wpAny_bind (wpAny_seqItems hol hdl ?_)
 simp only [Int.toNat_natCast,hx]
 refine wpAny_bind (wpAny_rule (wpAny_bind (wpAny_setField ho hd (by simp) ?_)))
 show wpAny _ _ (newExc (.type "StopIteration") [] >>= _) _ _ _
 refine wpAny_bind ?_
 simp only [newExc,newTuple]
 refine wpAny_bind (wpAny_newObj_type ?_ (by size_fits))
 refine wpAny_bind (m:=firstArgMember _ _) (wpAny_of_eq (a:=Value.none) (by first | rfl | (simp only [firstArgMember]; rfl)) ?_)
 refine wpAny_newObj_type ?_ (by size_fits)
 simp only [raiseNew]
 refine wpAny_bind (wpAny_handled ?_)
 first | rw [show A.in1.handled = none from hh] | rw [hh]
 refine wpAny_bind (wpAny_pure (wpAny_throw ?_))
 refine wpAny_bind (wpAny_isInstance (T:="StopIteration") (b:=true) ⟨_,Heap.get?_push_size _ rfl,rfl⟩ isSubtype_stop ?_)
 exact wpAny_pure (hQ _ _ _ (Heap.get?_update_self _ ho (Obj.isFreed_of_fields (Obj.data_mapFields hd _))) (Heap.SameBut.update ..) fun b o e=>Heap.get?_push_of_some _ (Heap.get?_push_of_some _ e))
theorem Y4 {t:Addr} {items:Array Value} {Q:Value→Shared→Prop} (hl:s.heap.IsList t items) (h:Q (.ref s.heap.objs.size) { s with heap:=s.heap.push { cls:=.type "list_iterator",data:=.fields #[.ref t,.int 0 0] } }):wpAny (model prog w) A (call (.builtin "iter") [.ref t]) Q E s:=by
 refine Calls.call_function_entry (by decide +kernel) (by decide +kernel) PySem.W.kdk_entry_iter (PySem.W.kdk_args_iter _) ?_
 unfold Builtin.«iter»
 refine wpAny_bind (m:=someArgs "iter" 1 2 _) (wpAny_of_eq (a:=[Value.ref t]) (by first | rfl | kernel_rfl!) ?_)
 show wpAny _ _ (pyIter (.ref t) >>= _) _ _ _
 refine wpAny_bind (wpAny_pyIter_list hl ?_)
 exact wpAny_pure ⟨_,rfl,h⟩
end
def Hy (K:PySem.W.Frag) (f:Str):Sp:=fun vs H Q _=>∃ (p C dx:Addr) (us:List (Str × V)) (l:Addr) (zs:List V),vs = [.ref p]∧H p = some (.ins C dx us)∧Cls K C∧NoAttr K C f∧us.lookup f = some (.ref l)∧SqL K H l zs∧∀ it,H it = none→Q (.ref it) (upd H it (Av l it 0))
theorem P6 {K:PySem.W.Frag} {H:Hp} {l a:Addr} {zs:List V} {o':HO} (h:SqL K H l zs) (n:l≠a):SqL K (upd H a o') l zs:=by
 rcases h with (h | ⟨ob,h⟩) | h
 ·exact .inl (.inl (by rw [upd_ne n]; exact h))
 ·exact .inl (.inr ⟨ob,by rw [upd_ne n]; exact h⟩)
 ·exact .inr h
theorem Al0 {X:Cx} {pins:List (Addr × Obj)} {σ:L2.St} {H H':Hp} {s':Shared} {l it l2:Addr} {i:Nat} {zs:List V} (I:Inv X pins σ H' s') (hs:SqL X.K H l zs) (hit:H it = none) (hT:s'.heap.IsListIter it l2 i):l≠it:=by
 intro z
 subst z
 rcases hs with (h | ⟨ob,h⟩) | ⟨o,its,n,hk,hc,_⟩
 ·rw [hit] at h; cases h
 ·rw [hit] at h; cases h
 ·obtain ⟨o2,e2,c2,_⟩:=hT
  have e1:=I.kIn _ _ hk
  rw [e2] at e1
  cases e1
  rw [hc] at c2
  exact absurd c2 (by decide)
theorem Al1 {K:PySem.W.Frag} {H:Hp} {l a:Addr} {zs:List V} {o':HO} (h:SqL K H l zs) (ha:H a = none):SqL K (upd H a o') l zs:=by
 rcases h with (h | ⟨ob,h⟩) | h
 ·exact .inl (.inl (by rw [upd_ne (ne_of_none h ha)]; exact h))
 ·exact .inl (.inr ⟨ob,by rw [upd_ne (ne_of_none h ha)]; exact h⟩)
 ·exact .inr h
section
variable {X:Cx} {pins:List (Addr × Obj)} {σ:L2.St} {A1:Around} {Rs:Result→Shared→Prop} {l it q:Addr} {zs:List V} {H0:Hp}
theorem Al2 (hh:A1.in1.handled = none) (hne:q≠it) (hlq:l≠q) (hli:l≠it) (hi:H0 it = some (Av l it 0)) (hq:H0 q = some (.lst [])) (hs:SqL X.K H0 l zs) (hz:zs.length≤sizeLine)
  (hdone:∀ s,Inv X pins σ (upd (upd H0 it (ItX it)) q (.lst zs)) s→Rs (.ok (.ret .none)) s) :
  ∀ (n i:Nat) (s:Shared),i + n = zs.length→Inv X pins σ (upd (upd H0 it (Av l it i)) q (.lst (zs.take i))) s→codeAny (model X.prog X.w) A1 (.builtin "list.extend.loop" ⟨[.ref q,.ref it,.none],[]⟩) Rs s:=by
 intro n
 induction n with
 | zero =>
  intro i s hin I
  have hin:i = zs.length:=by omega
  subst hin
  have sq:SqL X.K (upd (upd H0 it (Av l it zs.length)) q (.lst (zs.take zs.length))) l zs:=P6 (P6 hs hli) hlq
  have ei:(upd (upd H0 it (Av l it zs.length)) q (.lst (zs.take zs.length))) it = some (Av l it zs.length):=by rw [upd_ne (Ne.symm hne),upd_same]
  obtain ⟨its,rv,p,_⟩:=I.list sq
  have hit:s.heap.IsListIter it l zs.length:=(I.hok it _ ei).1
  refine codeAny_builtin PySem.F.entry_extend_loop ?_
  rw [Around.under_plainId PySem.F.plain_extend_loop _]
  show wpAny _ A1.in1 (pyNext (.ref it) >>= _) _ _ s
  refine wpAny_bind (Alz hh hit (items:=its.toArray) p.isList (by rw [List.getElem?_toArray]; exact rv.none_of (by simp)) fun h1 h' o ho sb k=>?_)
  have mu:Mut ((upd (upd H0 it (Av l it zs.length)) q (.lst (zs.take zs.length))) it):=by rw [ei]; exact True.intro
  have I2:=I.write (x:=it) (e:=it) (t':=s.toks) mu (.inl rfl) (fun b o nb z=>(sb.2 b nb).trans z) ⟨_,ho⟩ (Akl ho)
  have I3:Inv X pins σ _ { s with heap:=h' }:=I2.kept fun b ob e=>k b ob e
  refine wpAny_pure (hdone _ ?_)
  have e:upd (upd (upd H0 it (Av l it zs.length)) q (.lst (zs.take zs.length))) it (ItX it) = upd (upd H0 it (ItX it)) q (.lst zs):=by
   rw [List.take_length]
   funext b
   by_cases b1:b = it
   ·subst b1; rw [upd_same,upd_ne (Ne.symm hne),upd_same]
   ·rw [upd_ne b1]
    by_cases b2:b = q
    ·subst b2; rw [upd_same,upd_same]
    ·rw [upd_ne b2,upd_ne b1,upd_ne b2,upd_ne b1]
  rw [e] at I3
  exact I3
 | succ n ih =>
  intro i s hin I
  have sq:SqL X.K (upd (upd H0 it (Av l it i)) q (.lst (zs.take i))) l zs:=P6 (P6 hs hli) hlq
  have ei:(upd (upd H0 it (Av l it i)) q (.lst (zs.take i))) it = some (Av l it i):=by rw [upd_ne (Ne.symm hne),upd_same]
  obtain ⟨its,rv,p,_⟩:=I.list sq
  have hit:s.heap.IsListIter it l i:=(I.hok it _ ei).1
  obtain ⟨v,hv⟩:∃ v,zs[i]? = some v:=⟨zs[i]'(by omega),List.getElem?_eq_getElem _⟩
  obtain ⟨u,hu,ru⟩:=rv.get hv
  refine codeAny_builtin PySem.F.entry_extend_loop ?_
  rw [Around.under_plainId PySem.F.plain_extend_loop _]
  show wpAny _ A1.in1 (pyNext (.ref it) >>= _) _ _ s
  refine wpAny_bind (wpAny_pyNext_list_item hit (items:=its.toArray) p.isList (x:=u) (by rw [List.getElem?_toArray]; exact hu) fun h1 hit1 sb=>?_)
  have mu:Mut ((upd (upd H0 it (Av l it i)) q (.lst (zs.take i))) it):=by rw [ei]; exact True.intro
  obtain ⟨oi,hoi,_⟩:=id hit1
  have I2:=I.write (x:=it) (e:=it) (t':=s.toks) mu (.inl rfl) (fun b o nb z=>(sb.2 b nb).trans z) ⟨_,hoi⟩ (Sq hit1)
  have e:upd (upd (upd H0 it (Av l it i)) q (.lst (zs.take i))) it (Av l it (i + 1)) = upd (upd H0 it (Av l it (i + 1))) q (.lst (zs.take i)):=by
   funext b
   by_cases b1:b = it
   ·subst b1; rw [upd_same,upd_ne (Ne.symm hne),upd_same]
   ·rw [upd_ne b1]
    by_cases b2:b = q
    ·subst b2; rw [upd_same,upd_same]
    ·rw [upd_ne b2,upd_ne b1,upd_ne b2,upd_ne b1]
  rw [e] at I2
  show wpAny _ A1.in1 (updateSeq q (·.push u) >>= _) _ _ _
  obtain ⟨z,its2,k,r2,hl,e2⟩:=I2.lstM (l:=q) upd_same
  have hl2:its2.length≤i:=by rw [← r2.length,List.length_take]; omega
  refine wpAny_bind (wpAny_updateSeq e2 rfl (wpAny_pure ⟨plainId_quiet PySem.F.plain_extend_loop _,?_⟩) (by rw [List.size_toArray]; omega) (by show (its2.toArray.push u).size≤sizeLine + 1; rw [Array.size_push,List.size_toArray]; omega))
  have I3:=I2.lset (f:=(·.push u)) (its':=its2 ++ [u]) (ys:=zs.take i ++ [v]) (t':=s.toks) (l:=q) upd_same e2 (by simp) (r2.append (.cons ru .nil)) (by rw [List.length_append,List.length_singleton,List.length_take]; omega)
  rw [upd_upd] at I3
  have e3:zs.take i ++ [v] = zs.take (i + 1):=by
   rw [List.take_add_one,hv]; rfl
  rw [e3] at I3
  exact ih (i + 1) _ (by omega) I3
end
section
variable {X:Cx} {pins:List (Addr × Obj)} {σ:L2.St} {H:Hp} {s:Shared} {A1:Around} {Rs:Result→Shared→Prop} {k:Nat} {p q C dx l fi fl:Addr} {us:List (Str × V)} {f:Str} {zs:List V} {sp:Sp} {Q:VK}
theorem Al3 (hlq:l≠q) (hh:X.A.handled = none) (hA:A1 = X.A.in1) (rm:Rm (k + 3) X.A) (px:Passes (L2.CX X.prog X.w) X (fun _ _ _=>False)) (I:Inv X pins σ H s) (ha:H p = some (.ins C dx us)) (hcl:Cls X.K C) (hna:NoAttr X.K C f) (hf:us.lookup f = some (.ref l)) (hs:SqL X.K H l zs) (hz:zs.length≤sizeLine)
  (h1:PySem.W.findIn X.K (.ref C) "__iter__" = some (some (.ref fi))) (h2:PySem.W.isFn X.K (.ref fi) = true) (Fi:FnK X.prog X.w X.K X.mg X.base (L2.CX X.prog X.w) k fi [] (Hy X.K f))
  (h3:PySem.W.findIn X.K (.ref C) "__len__" = some (some (.ref fl))) (h4:PySem.W.isFn X.K (.ref fl) = true) (Fl:FnK X.prog X.w X.K X.mg X.base (L2.CX X.prog X.w) k fl [] sp)
  (hq:H q = some (.lst [])) (hsp:∀ it,H it = none→sp [.ref p] (upd H it (Av l it 0)) (fun v H1=>∃ i:Int,v = .int i∧0≤i∧i < 2 ^ 60∧i.toNat≤sizeLine∧H1 q = some (.lst [])∧H1 it = some (Av l it 0)∧SqL X.K H1 l zs∧Q (.ref q) (upd (upd H1 it (ItX it)) q (.lst zs))) (fun _ _ _=>False))
  (hdone:∀ H' s',Inv X pins σ H' s'→Q (.ref q) H'→Rs (.ok (.ret .none)) s') :
  wpAny (model X.prog X.w) A1.in1 (Builtin.List.listExtendWith (.ref q) (.ref p) .none)
   (fun fin s'=>match fin with | .done f=>Rs (.ok f) s' | .again c'=>c'.quiet = true∧codeAny (model X.prog X.w) A1 c' Rs s') (fun e s'=>Rs (.error e) s') s:=by
 subst hA
 have hne:q≠p:=ne_of hq ha (fun z=>nomatch z)
 obtain ⟨mA,J,_⟩:=ins_get I.hok ha
 obtain ⟨od,J,_⟩:=J.look
 obtain ⟨m0,hF⟩:=I.fr
 unfold Builtin.List.listExtendWith
 refine wpAny_bind (J.type.here ?_)
 have e1:Builtin.List.listSameRef (.ref q) (.ref p) = false:=by simp [Builtin.List.listSameRef,hne]
 have e2:(Value.ref C == Value.type "list") = false:=rfl
 have e3:(Value.ref C == Value.type "tuple") = false:=rfl
 simp only [e1,e2,e3,Bool.or_false,Bool.false_eq_true,if_false]
 refine wpAny_bind (PySem.W.owit_iter hF I.ok.mod.kin J h1 h2 ?_)
 have e:=I.env0
 have e0:Env0 X.prog X.w X.K X.mg X.base X.A.in1.in1 X.stack s H:=⟨e.frames,e.mod,e.bs,e.bsz,e.funs,e.frf,e.hok,e.bare⟩
 have rm2:Rm k X.A.in1.in1:=(rm.mono (by omega:k + 2≤k + 3)).in1.in1
 refine wpAny_call (codeAny_mono (Fi X.A.in1.in1 X.stack s H [.ref p] [] [.ref p] [] (fun v H'=>∃ it,v = .ref it∧H it = none∧H' = upd H it (Av l it 0)) (fun _ _ _=>False) rm2 e0 (.cons rfl .nil) .nil rfl (by
  rw [List.append_nil]
  exact ⟨p,C,dx,us,l,zs,rfl,ha,hcl,hna,hf,hs,fun it hit=>⟨it,rfl,hit,rfl⟩⟩)) fun res s' z=>?_)
 match res,z with
 | .error e,z =>
  obtain ⟨_,_,_,_,_,_,_,_,_,_,_,_,hE⟩:=z
  exact hE.elim
 | .ok .next,z=>exact False.elim z
 | .ok .brk,z=>exact False.elim z
 | .ok .cont,z=>exact False.elim z
 | .ok (.ret u),z =>
  obtain ⟨v,H',I',rv,it,ev,hit,eH⟩:=I.after z
  subst ev
  cases rv
  subst eH
  have ei:(upd H it (Av l it 0)) it = some (Av l it 0):=upd_same
  have hT:s'.heap.IsListIter it l 0:=(I'.hok it _ ei).1
  have hqi:q≠it:=ne_of_none hq hit
  have hpi:p≠it:=ne_of_none ha hit
  have ha':(upd H it (Av l it 0)) p = some (.ins C dx us):=by rw [upd_ne hpi]; exact ha
  unfold PySem.W.OwitIt
  refine wpAny_specialOf hT.typeIs slot_listiter_next.lookup ?_
  show wpAny _ _ (_ >>= _) _ _ _
  obtain ⟨mA',J',_⟩:=ins_get I'.hok ha'
  obtain ⟨od',J',_⟩:=J'.look
  have e':=I'.env0
  have e0':Env0 X.prog X.w X.K X.mg X.base X.A.in1.in1.in1 X.stack s' (upd H it (Av l it 0)):=⟨e'.frames,e'.mod,e'.bs,e'.bsz,e'.funs,e'.frf,e'.hok,e'.bare⟩
  have rm3:Rm k X.A.in1.in1.in1:=rm.in1.in1.in1
  refine wpAny_bind (wpAny_holding (Akm I'.kIn J' h3 ?_))
  refine wpAny_mono (X2 (E:=fun _ _=>False) I'.kIn J' h3 h4 (Q:=fun r s2=>∃ (n:Int) (u:Tok) (H1:Hp),r = .int n u∧n.toNat≤sizeLine∧Inv X pins σ H1 s2∧H1 q = some (.lst [])∧H1 it = some (Av l it 0)∧SqL X.K H1 l zs∧Q (.ref q) (upd (upd H1 it (ItX it)) q (.lst zs))) ?_) (fun r s2 hr=>?_) fun _ _ z=>z
  ·refine wpAny_call (codeAny_mono (Fl X.A.in1.in1.in1 X.stack s' _ [.ref p] [] [.ref p] [] _ (fun _ _ _=>False) rm3 e0' (.cons rfl .nil) .nil rfl (by rw [List.append_nil]; exact hsp it hit)) fun res2 s2 z2=>?_)
   match res2,z2 with
   | .error e,z =>
    obtain ⟨_,_,_,_,_,_,_,_,_,_,_,_,hE⟩:=z
    exact hE.elim
   | .ok .next,z=>exact False.elim z
   | .ok .brk,z=>exact False.elim z
   | .ok .cont,z=>exact False.elim z
   | .ok (.ret u2),z =>
    obtain ⟨v2,H1,I2,rv2,i,ev2,i0,i1,i2,k1,k2,k3,k4⟩:=I'.after z
    subst ev2
    obtain ⟨tk,rfl⟩:=rv2
    exact ⟨i,tk,rfl,i0,by omega,i,_,H1,rfl,i2,I2.tok _,k1,k2,k3,k4⟩
  ·obtain ⟨n,u,H1,rfl,nz,I2,k1,k2,k3,k4⟩:=hr
   refine ⟨n,u,rfl,nz,?_⟩
   have hd1:upd (upd H1 it (Av l it 0)) q (.lst (zs.take 0)) = H1:=by
    funext b
    by_cases b1:b = q
    ·subst b1; rw [upd_same,k1]; rfl
    ·rw [upd_ne b1]
     by_cases b2:b = it
     ·subst b2; rw [upd_same,k2]
     ·rw [upd_ne b2]
   have lp:=fun (s3:Shared) (I3:Inv X pins σ H1 s3)=>Al2 (A1:=X.A.in1) (Rs:=Rs) (X:=X) (pins:=pins) (σ:=σ) (hh:X.A.in1.in1.handled = none) hqi hlq (Al0 I' hs hit hT) k2 k1 k3 hz (fun s4 I4=>hdone _ _ I4 k4) zs.length 0 s3 (by omega) (by rw [hd1]; exact I3)
   refine wpAny_ite_split (fun _=>?_) (fun _=>wpAny_pure ⟨plainId_quiet PySem.F.plain_extend_loop _,lp _ I2⟩)
   refine wpAny_bind (wpAny_rule ?_)
   refine wpAny_bind ?_
   obtain ⟨z,its,k',r3,hl3,e3⟩:=I2.lstM k1
   cases r3
   show wpAny _ _ (updateSeq q (·.push .none) >>= fun _=>updateSeq q (·.pop)) _ _ _
   refine wpAny_bind (wpAny_updateSeq e3 rfl ?_)
   have I5:=I2.lset (f:=(·.push Value.none)) (its':=[Value.none]) (ys:=[.non]) (t':=s2.toks) k1 e3 (by simp) (.cons rfl .nil) (by rw [List.length_singleton,sizeLine_eq]; decide)
   obtain ⟨z4,its4,k4',r4,hl4,e4⟩:=I5.lstM upd_same
   obtain ⟨u4,rfl,ru4⟩:=r4.one
   refine wpAny_updateSeq e4 rfl ?_ (by show 1≤sizeLine; rw [sizeLine_eq]; decide) (by show 0≤sizeLine + 1; exact Nat.zero_le _)
   refine wpAny_pure ⟨plainId_quiet PySem.F.plain_extend_loop _,lp _ ?_⟩
   have I6:=I5.lset (f:=(·.pop)) (its:=[u4]) (its':=[]) (ys:=[]) (t':=s2.toks) upd_same e4 (by rfl) .nil (Nat.zero_le _)
   rw [upd_upd] at I6
   have hH:upd H1 q (.lst []) = H1:=by
    funext b
    by_cases hb:b = q
    ·rw [hb,upd_same,k1]
    ·rw [upd_ne hb]
   rw [hH] at I6
   exact I6
end
def Al4 (P:Program) (w:World) (K:PySem.W.Frag) (mg:Str→Option Value) (base:Heap) (k:Nat):List V→Hp→VK→Prop:=fun xs H Q=>∃ (p C dx:Addr) (us:List (Str × V)) (f:Str) (l:Addr) (zs:List V) (fi fl:Addr) (sp:Sp),
 xs = [.ref p]∧H p = some (.ins C dx us)∧Cls K C∧NoAttr K C f∧us.lookup f = some (.ref l)∧SqL K H l zs ∧
 PySem.W.findIn K (.ref C) "__iter__" = some (some (.ref fi))∧PySem.W.isFn K (.ref fi) = true∧FnK P w K mg base (L2.CX P w) k fi [] (Hy K f) ∧
 PySem.W.findIn K (.ref C) "__len__" = some (some (.ref fl))∧PySem.W.isFn K (.ref fl) = true∧FnK P w K mg base (L2.CX P w) k fl [] sp ∧
 ∀ q it,H q = none→H it = none→q≠it→sp [.ref p] (upd (upd H q (.lst [])) it (Av l it 0)) (fun v H1=>∃ i:Int,v = .int i∧0≤i∧i < 2 ^ 60∧i.toNat≤sizeLine∧H1 q = some (.lst [])∧H1 it = some (Av l it 0)∧SqL K H1 l zs∧Q (.ref q) (upd (upd H1 it (ItX it)) q (.lst zs))) (fun _ _ _=>False)
section
variable {X:Cx} {k:Nat}
theorem Al5 (hh:X.calm = true) (rm:Rm (k + 3) X.A) (px:Passes (L2.CX X.prog X.w) X (fun _ _ _=>False)):CallR X (.type "list") (Al4 X.prog X.w X.K X.mg X.base k):=by
 intro pins s σ H xs us0 Q I rv h
 obtain ⟨p,C,dx,us,f,l,zs,fi,fl,sp,rfl,ha,hcl,hna,hf,hs,h1,h2,Fi,h3,h4,Fl,hq⟩:=h
 obtain ⟨u,rfl,ru⟩:=rv.one
 cases ru
 refine callType_codes (Q₁:=fun obj s₁=>obj = .ref s.heap.objs.size∧s₁ = { s with heap:=s.heap.push { cls:=.type "list",data:=.seq #[] } }) PySem.F.called_list (PySem.F.typeCall_list_1 _) PySem.F.entry_list_init
  (code_list_new _ ⟨rfl,rfl⟩) fun obj s₁ h₁=>?_
 obtain ⟨rfl,rfl⟩:=h₁
 have hS:(s.heap.push { cls:=.type "list",data:=.seq #[] }).get? s.heap.objs.size = some { cls:=.type "list",data:=.seq #[] }:=Heap.get?_push_size _ rfl
 refine ⟨⟨_,hS,rfl⟩,PySem.F.args_list_init_2 _ _,?_⟩
 have fr:H s.heap.objs.size = none:=I.hok.fresh (Nat.le_refl _)
 obtain ⟨_,_,_,hz⟩:=I.list hs
 have I1:Inv X pins σ (upd H s.heap.objs.size (.lst [])) { s with heap:=s.heap.push { cls:=.type "list",data:=.seq #[] } }:=I.lnew (its:=[]) (t':=s.toks) .nil (Nat.zero_le _)
 show wpAny _ _ (do let old ← Builtin.List.listItems (.ref s.heap.objs.size); Builtin.List.listUpdate (.ref s.heap.objs.size) (fun _=>#[]); letGo old.toList.reverse; Builtin.List.listExtendWith (.ref s.heap.objs.size) (.ref p) .none) _ _ _
 refine wpAny_bind ?_
 unfold Builtin.List.listItems
 refine wpAny_bind (wpAny_seqItems hS rfl (wpAny_pure ?_))
 show wpAny _ _ (updateSeq s.heap.objs.size (fun _=>#[]) >>= fun _=>letGo (#[]:Array Value).toList.reverse >>= fun _=>Builtin.List.listExtendWith (.ref s.heap.objs.size) (.ref p) .none) _ _ _
 refine wpAny_bind (wpAny_updateSeq hS rfl ?_)
 have I2:=I1.lset (f:=fun _=>#[]) (its:=[]) (its':=[]) (ys:=[]) (t':=s.toks) upd_same hS rfl .nil (Nat.zero_le _)
 rw [upd_upd] at I2
 refine wpAny_bind (wpAny_letGo ?_)
 have ha2:upd H s.heap.objs.size (.lst []) p = some (.ins C dx us):=by rw [upd_ne (ne_of_none ha fr)]; exact ha
 obtain ⟨_,_,⟨ol,nl,el,_⟩,_⟩:=I.list hs
 exact Al3 (A1:=X.A.in1) (Rs:=wants (fun r s₂=>r = .none∧EP X pins σ Q (.ref s.heap.objs.size) s₂) X.xe) (Nat.ne_of_lt (Heap.lt_size el)) (I.ok.hd hh) rfl rm px I2 ha2 hcl hna hf (Al1 hs fr) hz h1 h2 Fi h3 h4 Fl upd_same
  (fun it hit=>by
   have ne:s.heap.objs.size≠it:=fun z=>by rw [← z,upd_same] at hit; cases hit
   exact hq _ it fr (by rw [upd_ne (Ne.symm ne)] at hit; exact hit) ne)
  (fun H' s' I' hR=>⟨rfl,.ref s.heap.objs.size,H',I',rfl,hR⟩)
end
def Sr (K:PySem.W.Frag) (f:Str):TS:=fun D σ H=>∃ (p C dx:Addr) (us:List (Str × V)) (l:Addr) (zs:List V),σ[0]? = some (some (.ref p))∧H p = some (.ins C dx us)∧Cls K C∧NoAttr K C f∧us.lookup f = some (.ref l)∧SqL K H l zs∧∀ it,H it = none→D.rt (.ref it) (upd H it (Av l it 0))
def Al6 (K:PySem.W.Frag):List V→Hp→VK→Prop:=fun xs H Q=>∃ (l:Addr) (zs:List V),xs = [.ref l]∧SqL K H l zs∧∀ it,H it = none→Q (.ref it) (upd H it (Av l it 0))
section
variable {X:Cx}
theorem Al7:CallR X (.builtin "iter") (Al6 X.K):=by
 intro pins s σ H xs us Q I r h
 obtain ⟨l,zs,rfl,hq,q⟩:=h
 obtain rfl:=Vals.ref1 r
 obtain ⟨its,rv,pl,hz⟩:=I.list hq
 refine Y4 (items:=its.toArray) pl.isList ?_
 exact ⟨.ref s.heap.objs.size,_,I.laid (t':=s.toks) (fun b u e=>Heap.get?_push_of_some _ e) (Nat.le_refl _) (Sq ⟨_,Heap.get?_push_size _ rfl,rfl,rfl⟩),rfl,q _ (I.hok.fresh (Nat.le_refl _))⟩
theorem Al8 {x f:Str} {p1 p2 p3 p4 p5:Pos} (hm:X.mg "iter" = none) (hN:X.N[0]? = some x) (hvis:Vis X.env.scope x) (hg:Gl X "iter":=by rfl) (hd:(x == ("__debug__" : Str)) = false:=by decide) (hcd:(x == ("__classdict__" : Str)) = false:=by decide)
  (hb:attributeBase (.Name x p2) f X.env (eval (.Name x p2) X.env) = eval (.Name x p2) X.env:=by rfl) (he:starEach [Expr.Attribute (.Name x p2) f p3] X.env = (false,eval (.Attribute (.Name x p2) f p3) X.env) :: starEach [] X.env:=by rfl) (hpl:(backTo p4 (starEach [] X.env)).any (·.1) = false:=by rfl) :
  PS X (.Return (some (.Call (.Name "iter" p1) [.Attribute (.Name x p2) f p3] [] p4)) p5) (Sr X.K f):=by
 refine PS.imp (ps_ret (pe_callB Al7 hg hm (by decide +kernel) (pa_cons (pe_fld (pe_var hN hvis hd hcd) hb) pa_nil he) (he:=he) (hpl:=hpl))) fun D σ H h=>?_
 obtain ⟨p,C,dx,us,l,zs,e0,ha,hcl,hna,hf,hs,q⟩:=h
 exact ⟨.ref p,e0,p,C,dx,us,.ref l,rfl,ha,hcl,hna,hf,l,zs,rfl,hs,q⟩
end
theorem Al9 {P:Program} {w:World} {K:PySem.W.Frag} {mg:Str→Option Value} {base:Heap} {x qual:Str} {params:Arguments} {body:List Stmt} {scope:Scope} {dvs:List V} {kws:List (Str × V)} {f:Addr} {fd:FuncData} {a fl:Str}
  (F:FunD K x qual params body scope dvs kws f fd) (S:FnScope [a] [a] scope) (hb:∀ (cdv:Value) (A:Around) (outer:List PySem.Env) (s:Shared) (H:Hp) (E:XK),PSs (cxOf (L2.CX P w) P w K mg base [a] qual scope f cdv A outer s H E) body (Sr K fl)) :
  FnG P w K mg base (L2.CX P w) 1 f fd [a] (Hy K fl):=by
 obtain ⟨oc,od,dV,kV,doc,pm,an,cdv,ct,osl,rfl,lk,hcd,_,_⟩:=F.ex
 refine Q2 (k:=0) lk hcd S (fun vs H Q E h=>by obtain ⟨p,_,_,_,_,_,rfl,_⟩:=h; rfl) fun A outer s H vs Q E hr h=>?_
 obtain ⟨p,C,dx,us,l,zs,rfl,ha,hcl,hna,hf,hs,q⟩:=h
 exact ⟨Sr K fl,hb cdv A outer s H E,p,C,dx,us,l,zs,rfl,ha,hcl,hna,hf,hs,q⟩
theorem Ama {P:Program} {g:Gm} {mg:Str→Option Value} {base:Heap} {j:Nat} {f:Addr} {fd:FuncData} {ps:List Str} {fl:Str} (Fk:FnG P g.w g.K mg base (L2.CX P g.w) j f fd ps (Hy g.K fl)) (hb:Binds g.K fd ps []):FnK P g.w g.K mg base (L2.CX P g.w) j f [] (Hy g.K fl):=by
 intro A outer s H us ws vs zs Q E hr e0 rv rz hl hs
 have ez:zs = []:=by
  have:=rz.length
  rw [hl] at this
  exact List.eq_nil_of_length_eq_zero this
 subst ez
 rw [List.append_nil] at hs
 exact Fk.raw hb .nil A outer s H us vs Q E hr e0 rv (by rw [List.append_nil]; exact hs)
def ItDL (P:Program) (mg:Str→Option Value) (base:Heap) (g:Gm) (j:Nat) (T:Str→Option Str):Prop :=
 ∀ c fl,T c = some fl→∃ f,PySem.W.findIn g.K (.ref (g.ca c)) "__iter__" = some (some (.ref f))∧PySem.W.isFn g.K (.ref f) = true∧FnK P g.w g.K mg base (L2.CX P g.w) j f [] (Hy g.K fl)
def P7 (TI:Str→Option Str) (TL:Str→Option (List Sl→Res Rv)) (A:M Rv):M Rv:=(Ad A).bind fun a e=>match a with
 | .val (.ins c fs)=>(match TI c,TL c with
  | some fl,some F=>(match fs.lookup fl with
   | some (.lst ds)=>Jn ds (A5 F [.val (.ins c fs)] e)
   | _=>.no)
  | _,_=>.no)
 | _=>.no
section
variable {g:Gm} {W:WX} {k:Nat} {X:Cx} {σ:L2.St} {G H G1 H1:Hp} {e e1:Ve} {Q:VK}
theorem Amb {F:List Sl→Res Rv} {ds:List D} {rs:List Rv} {l q it:Addr} {zs:List V} (t1:Tr g σ G H e G1 H1 e1) (hs:SqL g.K G1 l zs) (rz:Reps g G1 ds zs) (nq:H1 q = none) (ni:H1 it = none) (ne:q≠it)
  (h:Pst g W σ G H e (fun r G' H' e'=>∀ v,RvOk g G' H' σ e' H r v→Q v H') (Jn ds (A5 F rs e1))) :
  Pst g (fun _ _ _ _=>False) σ G1 (upd (upd H1 q (.lst [])) it (Av l it 0)) e1 (fun r G' H' e'=>∀ v,RvOk g G' H' σ e' (upd (upd H1 q (.lst [])) it (Av l it 0)) r v→∃ i:Int,v = .int i∧0≤i∧i < 2 ^ 60∧i.toNat≤sizeLine∧H' q = some (.lst [])∧H' it = some (Av l it 0)∧SqL g.K H' l zs∧Q (.ref q) (upd (upd H' it (ItX it)) q (.lst zs))) (A5 F rs e1):=by
 have ni2:(upd H1 q (.lst [])) it = none:=by rw [upd_ne (Ne.symm ne)]; exact ni
 have gr:=(Grow.lay (o:=HO.lst []) t1.sr.bs nq).trans (Grow.lay (o:=Av l it 0) (t1.sr.bs.lay nq) ni2)
 have tg:=gr.tr t1.sr
 revert h
 cases A5 F rs e1 with
 | no=>exact fun h=>h
 | er x e'=>exact fun h=>h.elim
 | ok r e2 =>
  cases r with
  | slot _=>exact fun h=>h.elim
  | fresh _=>exact fun h=>h.elim
  | val d =>
   cases d with
   | int i =>
    intro h G' H' t2 v ok
    have hv:v = .int i:=ok
    unfold Jn at h
    by_cases c:0≤i∧i≤1000000
    ·simp only [if_pos c] at h
     have rq:∀ j,¬ Rt σ e1 j q:=fun j r=>(t1.sr.root r).2 nq
     have ri:∀ j,¬ Rt σ e1 j it:=fun j r=>(t1.sr.root r).2 ni
     have q1:H' q = some (.lst []):=t2.keep q _ (by rw [upd_ne ne,upd_same]) rq (fun _ z=>nomatch z)
     have i1:H' it = some (Av l it 0):=t2.keep it _ upd_same ri Y3
     have gq:G' q = none:=t2.new q (t1.sr.bs.hn nq) (by rw [upd_ne ne,upd_same]; exact fun z=>nomatch z) rq
     have gi:G' it = none:=t2.new it (t1.sr.bs.hn ni) (by rw [upd_same]; exact fun z=>nomatch z) ri
     have rq2:∀ j,¬ Rt σ e2 j q:=fun j r=>rq j (t2.ve.rt r)
     have ri2:∀ j,¬ Rt σ e2 j it:=fun j r=>ri j (t2.ve.rt r)
     have s1:=t2.sr.putU (o:=ItX it) gi i1 Aly Y3 ri2
     have s2:=s1.putU (p:=q) (o:=.lst zs) (o0:=.lst []) gq (by rw [upd_ne ne]; exact q1) (fun _ _ z=>nomatch z) (fun _ z=>nomatch z) rq2
     have t12:=(t1.trans tg).trans t2
     have hq0:H q = none:=t1.dom q nq
     have hi0:H it = none:=t1.dom it ni
     refine ⟨i,hv,c.1,by omega,by rw [sizeLine_eq]; omega,q1,i1,t2.sr.bs.sqL (t2.le.sqL hs),?_⟩
     refine h G' _ ⟨s2,t12.le,fun a o ha nr nt=>?_,fun a ha=>?_,t12.new,t12.ve⟩ (.ref q) ⟨q,rfl,gq,⟨zs,upd_same,rz.mono t2.le⟩,hq0,rq2⟩
     ·rw [upd_ne (ne_of_none ha hq0),upd_ne (ne_of_none ha hi0)]
      exact t12.keep a o ha nr nt
     ·have na:a≠q:=fun z=>by rw [z,upd_same] at ha; cases ha
      rw [upd_ne na] at ha
      have nb:a≠it:=fun z=>by rw [z,upd_same] at ha; cases ha
      rw [upd_ne nb] at ha
      exact t12.dom a ha
    ·simp only [if_neg c] at h
     exact h.elim
   | _=>exact fun h=>h.elim
theorem Amc {TI:Str→Option Str} {TL:Str→Option (List Sl→Res Rv)} {j j2:Nat} {a:Expr} {A:M Rv} {p pos:Pos} (tabI:ItDL X.prog X.mg X.base g j TI) (tab:SpD "__len__" X.prog X.mg X.base g j2 TL) (hj:j + 3≤k) (hj2:j2 + 3≤k) (hm:X.mg "list" = none) (ha:VE g W k X a A) (hg:Gl X "list":=by rfl) (he:starEach [a] X.env = (false,eval a X.env) :: starEach [] X.env:=by rfl) (hpl:(backTo pos (starEach [] X.env)).any (·.1) = false:=by rfl):VE g W k X (.Call (.Name "list" p) [a] [] pos) (P7 TI TL A):=by
 refine ⟨fun c=>?_⟩
 obtain ⟨gK,gw,ca,gT,gs,gn⟩:=g
 obtain rfl:X.K = gK:=c.K
 obtain rfl:X.w = gw:=c.w
 refine PE.imp (pe_callTy (Al5 (k:=max j j2) c.calm (c.room.mono (by omega)) (passes_call c.tk fun _ _ _ _ z=>z.elim)) hg hm (by decide +kernel) (pa_cons ((Ar ha).run c) pa_nil he) (he:=he) (hpl:=hpl)) fun σ H Q ⟨G,e,sr,h⟩=>?_
 refine ⟨G,e,sr,Pst.mono (Pst.bind0 h) fun r G1 H1 e1 t1 h1 x ok1=>?_⟩
 cases r with
 | slot _=>exact h1.elim
 | fresh _=>exact h1.elim
 | val d =>
  cases d with
  | ins c' fs =>
   simp only at h1
   cases qI:TI c' with
   | none=>rw [qI] at h1; exact h1.elim
   | some fl =>
    cases qT:TL c' with
    | none=>rw [qI,qT] at h1; exact h1.elim
    | some F =>
     rw [qI,qT] at h1
     simp only at h1
     cases qF:fs.lookup fl with
     | none=>rw [qF] at h1; exact h1.elim
     | some dF =>
      rw [qF] at h1
      cases dF with
      | lst ds =>
       simp only at h1
       obtain ⟨f,f1,f2,f3⟩:=tab c' F qT
       obtain ⟨fi,i1,i2,i3⟩:=tabI c' fl qI
       have ok1:Rep _ G1 (.ins c' fs) x:=ok1
       obtain ⟨p,dx,us,ev,ha,rf,io⟩:=id ok1
       subst ev
       obtain ⟨u,hu,ru⟩:=rf.look qF
       obtain ⟨y,hy,ey⟩:=M4 qF
       obtain ⟨l,zs,eu,hs,rz⟩:=ru
       subst eu
       refine ⟨p,ca c',dx,us,fl,l,zs,fi,f,_,rfl,t1.sr.bs.at_ ha rfl,io.1,ey ▸ io.2 y hy,hu,t1.sr.bs.sqL (.of hs),i1,i2,i3.mono (by omega),f1,f2,f3.mono (by omega),fun q it nq ni ne=>?_⟩
       have ni2:(upd H1 q (.lst [])) it = none:=by rw [upd_ne (Ne.symm ne)]; exact ni
       have gr:=(Grow.lay (o:=HO.lst []) t1.sr.bs nq).trans (Grow.lay (o:=Av l it 0) (t1.sr.bs.lay nq) ni2)
       have tg:=gr.tr t1.sr
       exact F0 (W:=fun _ _ _ _=>False) tg.sr (Tr.refl tg.sr) (rs:=[.val (.ins c' fs)]) ⟨.ref p,[],rfl,ok1,rfl,fun d p z=>nomatch z⟩ (Amb t1 (.of hs) rz nq ni ne h1)
      | _=>exact h1.elim
  | _=>exact h1.elim
end
end Vs
set_option maxRecDepth 100000
set_option maxHeartbeats 2000000
namespace Vs
open PySem PySem.Spec PyProof.Rows L2 Fw SX
def Amd (K:PySem.W.Frag) (n:Nat):List V→Hp→VK→Prop:=fun xs H Q=>∃ (l:Addr) (zs:List V),xs = [.ref l]∧SqL K H l zs∧∀ it,H it = none→n≤it→Q (.ref it) (upd H it (Av l it 0))
def Y5 (K:PySem.W.Frag) (f:Str) (n:Nat):TS:=fun D σ H=>∃ (p C dx:Addr) (us:List (Str × V)) (l:Addr) (zs:List V),σ[0]? = some (some (.ref p))∧H p = some (.ins C dx us)∧Cls K C∧NoAttr K C f∧us.lookup f = some (.ref l)∧SqL K H l zs∧∀ it,H it = none→n≤it→D.rt (.ref it) (upd H it (Av l it 0))
section
variable {X:Cx}
theorem Ame:CallR X (.builtin "iter") (Amd X.K X.s_0.heap.objs.size):=by
 intro pins s σ H xs us Q I r h
 obtain ⟨l,zs,rfl,hq,q⟩:=h
 obtain rfl:=Vals.ref1 r
 obtain ⟨its,rv,pl,hz⟩:=I.list hq
 refine Y4 (items:=its.toArray) pl.isList ?_
 exact ⟨.ref s.heap.objs.size,_,I.laid (t':=s.toks) (fun b u e=>Heap.get?_push_of_some _ e) (Nat.le_refl _) (Sq ⟨_,Heap.get?_push_size _ rfl,rfl,rfl⟩),rfl,q _ (I.hok.fresh (Nat.le_refl _)) I.sz⟩
theorem Amf {x f:Str} {p1 p2 p3 p4 p5:Pos} (hm:X.mg "iter" = none) (hN:X.N[0]? = some x) (hvis:Vis X.env.scope x) (hg:Gl X "iter":=by rfl) (hd:(x == ("__debug__" : Str)) = false:=by decide) (hcd:(x == ("__classdict__" : Str)) = false:=by decide)
  (hb:attributeBase (.Name x p2) f X.env (eval (.Name x p2) X.env) = eval (.Name x p2) X.env:=by rfl) (he:starEach [Expr.Attribute (.Name x p2) f p3] X.env = (false,eval (.Attribute (.Name x p2) f p3) X.env) :: starEach [] X.env:=by rfl) (hpl:(backTo p4 (starEach [] X.env)).any (·.1) = false:=by rfl) :
  PS X (.Return (some (.Call (.Name "iter" p1) [.Attribute (.Name x p2) f p3] [] p4)) p5) (Y5 X.K f X.s_0.heap.objs.size):=by
 refine PS.imp (ps_ret (pe_callB Ame hg hm (by decide +kernel) (pa_cons (pe_fld (pe_var hN hvis hd hcd) hb) pa_nil he) (he:=he) (hpl:=hpl))) fun D σ H h=>?_
 obtain ⟨p,C,dx,us,l,zs,e0,ha,hcl,hna,hf,hs,q⟩:=h
 exact ⟨.ref p,e0,p,C,dx,us,.ref l,rfl,ha,hcl,hna,hf,l,zs,rfl,hs,q⟩
end
theorem Amg {P:Program} {w:World} {K:PySem.W.Frag} {mg:Str→Option Value} {base:Heap} {x qual:Str} {params:Arguments} {body:List Stmt} {scope:Scope} {dvs:List V} {kws:List (Str × V)} {f:Addr} {fd:FuncData} {a fl:Str}
  (F:FunD K x qual params body scope dvs kws f fd) (S:FnScope [a] [a] scope) (hbd:Binds K fd [a] []) (hb:∀ (cdv:Value) (A:Around) (outer:List PySem.Env) (s:Shared) (H:Hp) (E:XK),PSs (cxOf (L2.CX P w) P w K mg base [a] qual scope f cdv A outer s H E) body (Y5 K fl s.heap.objs.size)) :
  FnIL P w K mg base 1 f fl:=by
 obtain ⟨oc,od,dV,kV,doc,pm,an,cdv,ct,osl,rfl,lk,hcd,_,_⟩:=F.ex
 intro A outer s H Q p C dx us l zs hr e0 ha hcl hna hf hs hq
 have KX:K.In s.heap:=e0.mod.kin.keeps fun b o e=>(e0.bs b o e).1
 have bd:=hbd s [.ref p] KX rfl
 rw [List.append_nil] at bd
 refine codeAny_call_function hr.toRoom.depth (KX _ _ lk) rfl S.co S.gen rfl (PySem.W.codeRec_of KX hcd) ?_
 refine bd _ _ _ _ ?_
 have lim:s.heap.NoLimit:=e0.mod.nolimit.keeps fun b o e=>(e0.bs b o e).1
 have hkind:∀ y∈([a]:List Str).zip [Value.ref p],scope.names.lookup y.1 = some .local∨(scope.names.lookup y.1 = some .cell∧((cellsFrom (s.heap.objs.size + 1) scope.names []).lookup y.1).isSome = true):=fun y hy=>by
  rcases S.par y.1 (List.of_mem_zip hy).1 with q | q
  ·exact .inl q
  ·exact .inr ⟨q,PySem.W.cellsFrom_some _ _ _ (.inl q)⟩
 refine wpAny_newFunctionEnv_cells (s:=s) S.kind hkind fun env he s1 x=>?_
 subst he
 refine ⟨lim.keeps x.toInCall.keep,codeAny_func ?_⟩
 have I:Inv (cxOf (L2.CX P w) P w K mg base [a] qual scope f cdv A outer s H (fun _ _ _=>False)) [] (L2.start [a] [.ref p]) H s1:=inv_start S hr.toRoom.hd e0 (vs:=[.ref p]) rfl (.cons rfl .nil) x
 refine wpAny_mono ((hb cdv A outer s H (fun _ _ _=>False)).run [] s1 _ _ { nx:=fun _ H'=>Q .non H',rt:=Q } I ⟨p,C,dx,us,l,zs,rfl,ha,hcl,hna,hf,hs,hq⟩) (fun fl s' hs=>?_) fun e s' hs=>?_
 ·have fin:∀ {σ':L2.St} {H':Hp} {v':V} {u':Value},Inv (cxOf (L2.CX P w) P w K mg base [a] qual scope f cdv A outer s H (fun _ _ _=>False)) [] σ' H' s'→RelV v' u'→Q v' H'→CE outer P w H s Q u' s' :=
   fun {σ' H' v' u'} J rv' q=>⟨v',H',J.os,J.bare,J.base,J.hok,rv',q⟩
  cases fl with
  | ret u' =>
   obtain ⟨v',σ',H',J,rv',q⟩:=hs
   exact fin J rv' q
  | next =>
   obtain ⟨σ',H',J,q⟩:=hs
   exact fin (v':=V.non) (u':=Value.none) J rfl q
  | brk =>
   obtain ⟨_,_,_,q⟩:=hs
   exact False.elim q
  | cont =>
   obtain ⟨_,_,_,q⟩:=hs
   exact False.elim q
 ·exact hs
def Ss (P:Program) (mg:Str→Option Value) (base:Heap) (g:Gm) (j:Nat) (T:Str→Option Str):Prop :=
 ∀ c fl,T c = some fl→∃ f,PySem.W.findIn g.K (.ref (g.ca c)) "__iter__" = some (some (.ref f))∧PySem.W.isFn g.K (.ref f) = true∧FnIL P g.w g.K mg base j f fl
def Ee (T:Str→Option Str):D→Option (List D)
 | .ins c fs=>match T c with
  | some fl=>(match fs.lookup fl with
   | some (.lst ds)=>some ds
   | _=>none)
  | none=>none
 | _=>none
def P8 (T:Str→Option Str) (A:M Rv):M (List D):=(Ad A).bind fun r e=>match r with
 | .val d=>(match Ee T d with | some ds=>.ok ds e | none=>.no)
 | _=>.no
section
variable {g:Gm} {W:WX} {k:Nat} {X:Cx} {tg ex:Expr}
theorem Amh {T:Str→Option Str} {d:D} {ds:List D} (h:Ee T d = some ds):∃ c fs fl,d = .ins c fs∧T c = some fl∧fs.lookup fl = some (.lst ds):=by
 unfold Ee at h
 split at h
 ·rename_i c fs
  split at h
  ·rename_i fl e
   split at h
   ·rename_i d2 e2
    cases h
    exact ⟨c,fs,fl,rfl,e,e2⟩
   ·cases h
  ·cases h
 ·cases h
theorem Ami {T:Str→Option Str} {j:Nat} {A:M Rv} (tab:Ss X.prog X.mg X.base g j T) (hj:j≤k) (ha:VE g W k X ex A):VI g W k X tg ex (P8 T A):=by
 refine ⟨fun c=>⟨fun pins s σ H R I ⟨G,e,sr,h⟩=>?_⟩⟩
 obtain ⟨gK,gw,ca,gT,gs,gn⟩:=g
 obtain rfl:X.K = gK:=c.K
 obtain rfl:X.w = gw:=c.w
 refine thn (((Ar ha).run c).run pins s σ H (fun v H1=>∃ (p C dx:Addr) (us:List (Str × V)) (fl:Str) (l:Addr) (zs:List V) (fi:Addr),v = .ref p∧H1 p = some (.ins C dx us)∧Cls X.K C∧NoAttr X.K C fl∧us.lookup fl = some (.ref l)∧SqL X.K H1 l zs ∧
   PySem.W.findIn X.K (.ref C) "__iter__" = some (some (.ref fi))∧PySem.W.isFn X.K (.ref fi) = true∧FnIL X.prog X.w X.K X.mg X.base j fi fl∧R (Itl X.K l) H1) I ⟨G,e,sr,Pst.mono (Pst.bind0 h) fun r G1 H1 e1 t1 h1 x ok1=>?_⟩) fun v s1 ⟨x,H1,I1,r1,q1⟩=>?_
 ·cases r with
  | slot _=>exact h1.elim
  | fresh _=>exact h1.elim
  | val d =>
   simp only at h1
   cases qd:Ee T d with
   | none=>rw [qd] at h1; exact h1.elim
   | some ds =>
    rw [qd] at h1
    obtain ⟨c',fs,fl,rfl,qI,qF⟩:=Amh qd
    obtain ⟨fi,i1,i2,i3⟩:=tab c' fl qI
    have ok1:Rep _ G1 (.ins c' fs) x:=ok1
    obtain ⟨p,dx,us,ev,hp,rf,io⟩:=id ok1
    subst ev
    obtain ⟨u,hu,ru⟩:=rf.look qF
    obtain ⟨y,hy,ey⟩:=M4 qF
    obtain ⟨l,zs,eu,hs,rz⟩:=ru
    subst eu
    exact ⟨p,ca c',dx,us,fl,l,zs,fi,rfl,t1.sr.bs.at_ hp rfl,io.1,ey ▸ io.2 y hy,hu,t1.sr.bs.sqL (.of hs),i1,i2,i3,h1 G1 H1 t1 _ (Vh (.of hs) rz)⟩
 ·obtain ⟨p,C,dx,us,fl,l,zs,fi,ev,hp,hcl,hna,hf,hs,i1,i2,Fi,q⟩:=q1
  subst ev
  cases r1
  obtain ⟨mA,J,_⟩:=ins_get I1.hok hp
  obtain ⟨od,J,_⟩:=J.look
  obtain ⟨m0,hF⟩:=I1.fr
  refine PySem.W.owit_iter hF I1.ok.mod.kin J i1 i2 ?_
  refine wpAny_call (codeAny_mono (Fi X.A X.stack s1 H1 (fun v H'=>∃ it,v = .ref it∧H1 it = none∧s1.heap.objs.size≤it∧H' = upd H1 it (Av l it 0)) p C dx us l zs (c.room.mono hj) I1.env0 hp hcl hna hf hs (fun it hit hz=>⟨it,rfl,hit,hz,rfl⟩)) fun res s' z=>?_)
  match res,z with
  | .error e,z =>
   obtain ⟨_,_,_,_,_,_,_,_,_,_,_,_,hE⟩:=z
   exact hE.elim
  | .ok .next,z=>exact False.elim z
  | .ok .brk,z=>exact False.elim z
  | .ok .cont,z=>exact False.elim z
  | .ok (.ret u),z =>
   obtain ⟨v,H',I',rv,it,ev,hit,hz,eH⟩:=I1.after z
   subst ev
   cases rv
   subst eH
   have ei:(upd H1 it (Av l it 0)) it = some (Av l it 0):=upd_same
   have hT:s'.heap.IsListIter it l 0:=(I'.hok it _ ei).1
   unfold PySem.W.OwitIt
   refine wpAny_specialOf hT.typeIs slot_listiter_next.lookup ?_
   have I2:=ItX.inv_drop I' (φ:=fun h=>h.IsListIter it l 0) ei
   have fp:=ItX.inv_fp I' ei (Nat.le_trans I1.sz hz)
   rw [ItX.dropH_upd hit] at I2 fp
   refine ⟨it,[it],_,_,H1,rfl,I2,turn_list l _,hT,fun b hb=>?_,q⟩
   have e:b = it:=by simpa using hb
   rw [e]
   exact fp
end
end Vs
set_option maxRecDepth 100000
namespace Vs
open PySem PySem.Spec PyProof.Rows L2 Fw SX
section
variable {e:Ve}
def Su (F:List Sl→Res Rv) (c:Str) (fs:List (Str × D)) (e:Ve):D→Res Rv
 | .lst ds=>Jn ds (A5 F [.val (.ins c fs)] e)
 | _=>.no
theorem Amj {F:List Sl→Res Rv} {c:Str} {fs:List (Str × D)} {ds:List D}:Su F c fs e (.lst ds) = Jn ds (A5 F [.val (.ins c fs)] e):=rfl
def Y6 (TI:Str→Option Str) (TL:Str→Option (List Sl→Res Rv)):Rv→Ve→Res Rv
 | .val (.ins c fs),e=>obn (TI c) fun fl=>obn (TL c) fun F=>obn (fs.lookup fl) fun d=>Su F c fs e d
 | _,_=>.no
theorem Amk {TI:Str→Option Str} {TL:Str→Option (List Sl→Res Rv)} {c:Str} {fs:List (Str × D)}:Y6 TI TL (.val (.ins c fs)) e = obn (TI c) fun fl=>obn (TL c) fun F=>obn (fs.lookup fl) fun d=>Su F c fs e d:=rfl
theorem Aml {TI:Str→Option Str} {TL:Str→Option (List Sl→Res Rv)} {A:M Rv}:P7 TI TL A e = (Ad A e).bnd (Y6 TI TL):=by
 unfold P7 M.bind Res.bnd
 cases Ad A e with
 | no=>rfl
 | er x e1=>rfl
 | ok a e1 =>
  cases a with
  | slot _=>rfl
  | fresh _=>rfl
  | val d =>
   cases d <;> try rfl
   rename_i c fs
   show (match TI c,TL c with | some fl,some F=>_ | _,_=>_) = obn (TI c) _
   cases TI c with
   | none=>rfl
   | some fl =>
    cases TL c with
    | none=>rfl
    | some F =>
     show (match fs.lookup fl with | some (.lst ds)=>_ | _=>_) = obn (fs.lookup fl) _
     cases fs.lookup fl with
     | none=>rfl
     | some d=>cases d <;> rfl
def Y7 (T:Str→Option Str):Rv→Ve→Res (List D)
 | .val d,e=>obn (Ee T d) fun ds=>.ok ds e
 | _,_=>.no
theorem Amm {T:Str→Option Str} {d:D}:Y7 T (.val d) e = obn (Ee T d) fun ds=>.ok ds e:=rfl
theorem Amn {T:Str→Option Str} {A:M Rv}:P8 T A e = (Ad A e).bnd (Y7 T):=by
 unfold P8 M.bind Res.bnd
 cases Ad A e with
 | no=>rfl
 | er x e1=>rfl
 | ok a e1 =>
  simp only
  cases a with
  | slot _=>rfl
  | fresh _=>rfl
  | val d =>
   show (match Ee T d with | some ds=>Res.ok ds e1 | none=>.no) = obn (Ee T d) _
   cases Ee T d <;> rfl
theorem Amo {T:Str→Option Str} {c fl:Str} {fs:List (Str × D)} {ds:List D} (h1:T c = some fl) (h2:fs.lookup fl = some (.lst ds)):Ee T (.ins c fs) = some ds:=by
 unfold Ee
 simp only [h1,h2]
end
end Vs
set_option maxRecDepth 100000
set_option maxHeartbeats 4000000
namespace La
open PySem PySem.Spec PyProof.Rows L2 Fw SX Vs
def Ah (K:PySem.W.Frag):LT:=⟨[],fun _=>.inl 0⟩
theorem ob_eq (s:PySem.W.SharedT):ob s = hk.obs s.abs:=Aex (HandSHeadRun.getT_eq s)
local macro_rules | `(tactic| simp_arith! [$ts,*])=>`(tactic| simp only [fnF_0,fnF_1,fnF_2,fnF_3,fnF_4,fnF_5,fnF_6,fnF_7,fnF_8,↓Xe,↓obn_i,↓ifb_i,Xf,Aez,Ae0,Ae1,Ae2,Ae3,Ae4,ret_e,map_e,fC_e,Ae5,Ae6,Ae7,Ae8,Ae9,fOp_e,Afa,Afb,Afc,Afd,Afe,Afg,Afh,Afi,Afj,Afk,Afl,Afm,Afn,fOr_e,Afo,Afp,↓Afq,↓Afr,Afs,fNx_e,Aft,Afu,Afv,Afw,Afx,Afy,Afz,Af0,Af1,Af2,Af3,Af4,fSl_e,Af5,Af6,Xi,Xj,Af7,Af8,Af9,↓Aga,↓Agb,Agc,Agd,Age,Agf,Agg,Agh,Agm,Agn,Ago,Agp,Xl,chn_t,chn_f,Agq,Agr,Ags,Agt,Agu,Agv,mk_bo,mk_bf,Agw,Agx,Agy,Agz,Ag0,Ag1,Ag2,Ag3,Agi,Agj,Agk,Agl,fLc_e,fDc_e,Ag5,Ag4,Ag8,Ag9,Ag6,Ag7,Aha,Ahb,Ahd,Ahc,Ahe,Ahf,gTup2,gTup3,Fv,An,Cm,List.all_cons,List.all_nil,Aa,Af,Bq,B6,B0,Fu,Vs.cutD,A3,Bt,Ain,Aio,K8,Ba,Ei,Bo,Fy,Bb,Cu,Cn,mrg,Dt,Vs.backV,Ah7,Ah8,Ah9,Xu,Aia,Po,Int.cast_ofNat_Int,Int.natCast_one,Int.natCast_zero,Int.reduceBEq,Int.reduceMod,Int.reduceAdd,Int.reduceSub,beq_self_eq_true,Int.reducePow,Int.reduceNeg,Int.reduceLT,Int.reduceLE,Nat.reducePow,Aib,Aic,Aid,Aie,Aif,Aig,Aih,Aii,Vs.intD,Xv,Aij,Aik,Ail,ixA_0,ixA_1,ixA_2,Aim,Aip,Aiq,Air,Ais,Ait,Aiu,Aiv,Aiw,Aix,Aiy,Ah1,Ah2,Ah3,ix3,Ah4,Ah5,Xt,Ah6,sz1,sz2,sz3,szn_0,szn_1,szn_2,szn_3,szn_4,szn_5,szn_6,szn_7,szn_8,szn_9,Ai2,Ai3,Ai4,Ai5,Ai6,Ai7,Ai8,List.getElem?_cons_zero,List.getElem?_cons_succ,List.set_cons_zero,List.set_cons_succ,List.length_cons,List.length_nil,List.cons_append,List.nil_append,Nat.reduceAdd,Nat.reduceSub,Nat.reduceEqDiff,Nat.zero_ne_one,Nat.one_ne_zero,reduceCtorEq,Nat.reduceBEq,Bool.false_or,Bool.or_false,Bool.true_or,Bool.or_true,List.replicate_succ,List.replicate_zero,↓reduceIte,if_true,if_false,Option.map_some,Option.map_none,Option.bind_some,Option.bind_none,Bool.not_true,Bool.not_false,Bool.and_true,Bool.true_and,Bool.and_false,Bool.false_and,decide_true,decide_false,fLcK,Pe,lkE,Jf,okR,id_eq,Ahh,Ahg,Ahj,Ahi,Ahl,Ahk,Aiz,and_self,Ai0,Ai1,Ahs,Ahr,↓wh_nx,↓wh_rt,Ahv,Aht,Ahu,Ahq,Ahm,Ahn,Aho,Ahp,Ai9,Aja,Ajb,Ajc,Ajd,Aje,Ajf,Ajg,Ajh,xC_e,xF_1,Aji,Ajy,List.isEmpty_cons,Nat.reduceLT,Ajj,Ajk,Ajl,Ajm,Ajn,Ajo,Ajp,Nat.reduceLeDiff,Ajq,Ajr,Ajs,Xy,Aju,Xz,Ajv,Ajw,Ajx,Ajz,Aj0,Aj1,Aj2,Aj3,Aj4,R6,Aj5,Aj6,Aj7,Aj8,$ts,*])
def Ef:List Str:=["House"]
def cs_Chain:List Str:=["Chain"]
def B4:List Str:=["Store"]
abbrev Y8:List Str:=["_law_script", "_law_at", "_law_cell", "_law_great"]
theorem Amp:FnScope Y8 ["_law_script", "_law_at"] (defScope Ie):=⟨rfl,rfl,rfl,by decide +kernel,rfl,by decide +kernel,by decide +kernel⟩
def Sv:M Ctl :=
 (A6 (Ck 2 (B7 (A8 (fOp ltD (Aa 1) (Ao Bl (Ab (Aa 0) Ag)))) (fOp ixA (Aa 0) (Aa 1)) (fC (.int 0))))
 (A6 (Ck 3 (B7 (A8 (fOp geD (Ao Mz (Ab (Aa 2) Ag)) (fOp F4 (fC (.int 10)) (fC (.int 18))))) (Ao Mz (Ab (Aa 2) Ag)) (fC (.int 0))))
 (Bn (Fp (Ab (Ad (Aa 3)) (Ab (Ad (fOp Br (fOp Br (fOp Hh (Ao intD (Ab (Aa 2) Ag)) (fC (.int 1000000000039))) (fOp D7 (fC (.int 11)) (Aa 1))) (fC (.int 5)))) (Ab (fC (.int 0)) Ag)))))))
def Gi:List Sl→Res Rv:=fnF 2 4 Sv
theorem Amq {P:Program} {w:World} {K:PySem.W.Frag} {mg:Str→Option Value} {base:Heap} {ca:Str→Addr} {Tb:LT} {sa:Addr} {sn:List Int} {f:Addr} {fd:FuncData}   (F:FunD K "_law_source" "_law_source" (defArgs Ie) (defBody Ie) (defScope Ie) [] [] f fd) (m_len:mg "len" = none) (m_abs:mg "abs" = none) (m_int:mg "int" = none) :
  FnG P w K mg base (L2.CX P w) 1 f fd ["_law_script", "_law_at"] (spV (gm K w ca Tb sa sn) 2 Gi) :=
 Cf (k:=0) (B:=Sv) (N:=Y8) (ps:=["_law_script", "_law_at"]) F Amp fun cdv A outer s H E =>
 (Be (Dh (i:=2) rfl (.inl rfl) (Qx (Dl c_lt (Ac (i:=1) rfl (.inl rfl)) (Jj m_len (Ae (Ac (i:=0) rfl (.inl rfl)) Aj))) (Du (Ac (i:=0) rfl (.inl rfl)) (Ac (i:=1) rfl (.inl rfl))) Au))
 (Be (Dh (i:=3) rfl (.inl rfl) (Qx (Dl c_ge (Wo m_abs (Ae (Ac (i:=2) rfl (.inl rfl)) Aj)) (Rj Au Au)) (Wo m_abs (Ae (Ac (i:=2) rfl (.inl rfl)) Aj)) Au))
 (Aw (Bw (Kz (Ae (Ar (Ac (i:=3) rfl (.inl rfl))) (Ae (Ar (En (En (M7 (M8 m_int (Ae (Ac (i:=2) rfl (.inl rfl)) Aj)) Au) (Rk Au (Ac (i:=1) rfl (.inl rfl)))) Au)) (Ae Au Aj))))))))
abbrev Y9:List Str:=["self", "keep", "ask"]
theorem Amr:FnScope Y9 ["self", "keep", "ask"] (defScope Ig):=⟨rfl,rfl,rfl,by decide +kernel,rfl,by decide +kernel,by decide +kernel⟩
def Za:M Ctl :=
 (A6 (B7 (A8 (fOp neG (Bu "letters" (Aa 1)) (Bu "letters" (Aa 2))))
  fNo
  fNx)
 (A6 (Dj Ef "keep" 0 (Aa 1))
 (A6 (Dj Ef "ask" 0 (Aa 2))
 (Dj Ef "letters" 0 (Bu "letters" (Aa 1))))))
def Hz:List Sl→Res Rv:=fnF 3 3 Za
theorem Ams {P:Program} {w:World} {K:PySem.W.Frag} {mg:Str→Option Value} {base:Heap} {ca:Str→Addr} {Tb:LT} {sa:Addr} {sn:List Int} {f:Addr} {fd:FuncData}   (F:FunD K "__init__" "House.__init__" (defArgs Ig) (defBody Ig) (defScope Ig) [] [] f fd) (n_House_keep:∀ c∈Ef,NoAttr K (ca c) "keep") (n_House_ask:∀ c∈Ef,NoAttr K (ca c) "ask") (n_House_letters:∀ c∈Ef,NoAttr K (ca c) "letters") :
  FnG P w K mg base (L2.CX P w) 1 f fd ["self", "keep", "ask"] (spV (gm K w ca Tb sa sn) 3 Hz) :=
 Cf (k:=0) (B:=Za) (N:=Y9) (ps:=["self", "keep", "ask"]) F Amr fun cdv A outer s H E =>
 (Be (D4 (Dl Ji (B1 (Ac (i:=1) rfl (.inl rfl))) (B1 (Ac (i:=2) rfl (.inl rfl))))
  (Aw Hk)
  C5)
 (Be (F5 (i:=0) n_House_keep rfl (.inl rfl) (Ac (i:=1) rfl (.inl rfl)))
 (Be (F5 (i:=0) n_House_ask rfl (.inl rfl) (Ac (i:=2) rfl (.inl rfl)))
 (Aw (F5 (i:=0) n_House_letters rfl (.inl rfl) (B1 (Ac (i:=1) rfl (.inl rfl))))))))
abbrev Zb:List Str:=["letters", "at", "sign"]
theorem Amt:FnScope Zb ["letters"] (defScope Ih):=⟨rfl,rfl,rfl,by decide +kernel,rfl,by decide +kernel,by decide +kernel⟩
def Sw:M Ctl :=
 (B7 (fOr (A8 (fOp (Az inA true) (Aa 2) (fC (.str Kv)))) (Fq (A8 (fOp gtD (Aa 1) (fC (.int 0)))) (A8 (fOp leD (Aa 2) (fOp ixA (Aa 0) (fOp Mr (Aa 1) (fC (.int 1))))))))
   fNo
   fNx)
theorem Zd {e:Ve}:Sw e = (B7 (fOr (A8 (fOp (Az inA true) (Aa 2) (fC (.str Kv)))) (Fq (A8 (fOp gtD (Aa 1) (fC (.int 0)))) (A8 (fOp leD (Aa 2) (fOp ixA (Aa 0) (fOp Mr (Aa 1) (fC (.int 1))))))))
   fNo
   fNx) e:=rfl
def Sx:M Ctl :=
 (A6 (B7 (fOr (Ew (B9 (Ao Bx (Ab (Aa 0) (Ab (fC (.con (.ty "str"))) Ag))))) (Ew (A8 (K1 ltD leD (fC (.int 0)) (Ao Bl (Ab (Aa 0) Ag)) (fC (.int 4))))))
  fNo
  fNx)
 (Ez (M5 (Aa 0)) (Di 2 (Cs (Am 1) (Cs (Am 2) Hc)))
  Sw))
def H6:List Sl→Res Rv:=fnF 1 3 Sx
theorem Amu {P:Program} {w:World} {K:PySem.W.Frag} {mg:Str→Option Value} {base:Heap} {ca:Str→Addr} {Tb:LT} {sa:Addr} {sn:List Int} {f:Addr} {fd:FuncData} {t_MOST_LETTERS:Tok} {t_CHARACTERS:Tok}  (F:FunD K "check_letters" "check_letters" (defArgs Ih) (defBody Ih) (defScope Ih) [] [] f fd) (m_len:mg "len" = none) (g_MOST_LETTERS:mg "MOST_LETTERS" = some (.int 4 t_MOST_LETTERS)) (m_str:mg "str" = none) (m_isinstance:mg "isinstance" = none) (m_enumerate:mg "enumerate" = none) (g_CHARACTERS:mg "CHARACTERS" = some (.str (S Kv) t_CHARACTERS)) :
  FnG P w K mg base (L2.CX P w) 1 f fd ["letters"] (spV (gm K w ca Tb sa sn) 1 H6) :=
 Cf (k:=0) (B:=Sx) (N:=Zb) (ps:=["letters"]) F Amt fun cdv A outer s H E =>
 (Be (D4 (VW.vt (D3 (Hb (Dg (Jk m_isinstance (Ae (Ac (i:=0) rfl (.inl rfl)) (Ae (I7 m_str (by decide +kernel)) Aj))))) (Ft (Hb (vt_c2 c_lt c_le Au (Jj m_len (Ae (Ac (i:=0) rfl (.inl rfl)) Aj)) (Vc g_MOST_LETTERS))))))
  (Aw Hk)
  C5)
 (Aw (Oo (Adk m_enumerate (Ac (i:=0) rfl (.inl rfl))) (Qz (n:=2) (K3 (Ct (i:=1) rfl (.inl rfl)) (K3 (Ct (i:=2) rfl (.inl rfl)) Qy)))
  (Aw (D4 (VW.vt (D3 (Rc (Ac (i:=2) rfl (.inl rfl)) (Vb g_CHARACTERS)) (Ft (VW.vt (Qw (Dl c_gt (Ac (i:=1) rfl (.inl rfl)) Au) (Qv (Dl c_le (Ac (i:=2) rfl (.inl rfl)) (Du (Ac (i:=0) rfl (.inl rfl)) (Adq (Ac (i:=1) rfl (.inl rfl)) Au)))))))))
   (Aw Hk)
   C5)))))
abbrev Sy:List Str:=["steps", "letters", "most", "has_rows", "has_end", "at", "step", "is_foreign", "sign"]
theorem Amv:FnScope Sy ["steps", "letters", "most"] (defScope Gw):=⟨rfl,rfl,rfl,by decide +kernel,rfl,by decide +kernel,by decide +kernel⟩
def Amw:M Rv :=
 (fOp (Az inA true) (Aa 8) (Aa 1))
def Ze:M Ctl :=
 (A6 (Ck 7 (Ao O7 (Ab (fLc (D6 (Bu "letters" (Aa 6))) (Am 8) (M.ret true) Amw [8]) Ag)))
  (A6 (B7 (fOr (A8 (fOp eqG (Aa 5) (Aa 2))) (fOr (B9 (Aa 7)) (fOr (B9 (Aa 4)) (Fq (B9 (Aa 3)) (B9 (F6 [("Chain",false),("House",false),("Store",false)] (Aa 6)))))))
   fNo
   fNx)
  (A6 (Ck 3 (Oj (Aa 3) (F6 [("Chain",false),("House",false),("Store",false)] (Aa 6))))
  (Ck 4 (F6 [("Chain",false),("House",false),("Store",false)] (Aa 6))))))
def Sz:M Ctl :=
 (A6 (Lb 3 4 (Ab (fC (.bl false)) (Ab (fC (.bl false)) Ag)))
 (Ez (Lg (Aa 0)) (Di 2 (Cs (Am 5) (Cs (Am 6) Hc)))
  Ze))
def J9:List Sl→Res Rv:=fnF 3 9 Sz
theorem Amx {P:Program} {w:World} {K:PySem.W.Frag} {mg:Str→Option Value} {base:Heap} {ca:Str→Addr} {Tb:LT} {sa:Addr} {sn:List Int} {f:Addr} {fd:FuncData}   (F:FunD K "check_steps" "check_steps" (defArgs Gw) (defBody Gw) (defScope Gw) [] [] f fd) (m_enumerate:mg "enumerate" = none) (m_any:mg "any" = none) (isc_Rows:Eo mg (gm K w ca Tb sa sn) "Rows" [("Chain",false),("House",false),("Store",false)]) (m_isinstance:mg "isinstance" = none) (isc_Beginnings:Eo mg (gm K w ca Tb sa sn) "Beginnings" [("Chain",false),("House",false),("Store",false)]) :
  FnG P w K mg base (L2.CX P w) 1 f fd ["steps", "letters", "most"] (spV (gm K w ca Tb sa sn) 3 J9) :=
 Cf (k:=0) (B:=Sz) (N:=Sy) (ps:=["steps", "letters", "most"]) F Amv fun cdv A outer s H E =>
 (Be (Aeg (i:=3) (j:=4) rfl rfl (.inl rfl) (.inl rfl) (Ae D1 (Ae D1 Aj)))
 (Aw (Oo (Xb m_enumerate (Ac (i:=0) rfl (.inl rfl))) (Qz (n:=2) (K3 (Ct (i:=5) rfl (.inl rfl)) (K3 (Ct (i:=6) rfl (.inl rfl)) Qy)))
  (Be (Dh (i:=7) rfl (.inl rfl) (Adu m_any (Ae (Ja (own:=[("sign",8)]) (Om (B1 (Ac (i:=6) rfl (.inl rfl)))) (blkOk_by (own:=[("sign",8)]) (N:=Sy) (sc:=defScope Gw) (by decide +kernel)) (by decide) (fun _ _ _ _ _=>(Ct (i:=8) rfl (.inl rfl))) (fun _ _ _ _ _=>I9) (fun _ _ _ _ _=>(Acf (Ac (i:=8) rfl (.inl rfl)) (Ac (i:=1) rfl (by first | exact .inr (.inr rfl) | exact .inr (.inl rfl) | exact .inl rfl))))) Aj)))
  (Be (D4 (VW.vt (D3 (Dl c_eq (Ac (i:=5) rfl (.inl rfl)) (Ac (i:=2) rfl (.inl rfl))) (D3 (Dg (Ac (i:=7) rfl (.inl rfl))) (D3 (Dg (Ac (i:=4) rfl (.inl rfl))) (Ft (VW.vt (Qw (Dg (Ac (i:=3) rfl (.inl rfl))) (Qv (Dg (Lf isc_Rows m_isinstance (Ac (i:=6) rfl (.inl rfl))))))))))))
   (Aw Hk)
   C5)
  (Be (Dh (i:=3) rfl (.inl rfl) (ve_or (Ac (i:=3) rfl (.inl rfl)) (K0 (Lf isc_Rows m_isinstance (Ac (i:=6) rfl (.inl rfl))))))
  (Aw (Dh (i:=4) rfl (.inl rfl) (Lf isc_Beginnings m_isinstance (Ac (i:=6) rfl (.inl rfl)))))))))))
abbrev Zf:List Str:=["self", "letters", "keep_places", "steps", "at", "step"]
theorem Amy:FnScope Zf ((["self", "letters", "keep_places"]:List Str) ++ (["steps"]:List Str)) (defScope Fo):=⟨rfl,rfl,rfl,by decide +kernel,rfl,by decide +kernel,by decide +kernel⟩
def Zg:M Ctl :=
 (B7 (B9 (F6 [("Chain",false),("House",false),("Store",false)] (Aa 5)))
   (Pt cs_Chain "front_steps" "rows" "back_steps" 0 (Ab (Ad (fSl (Aa 3) (M.ret none) (My (Aa 4)))) (Ab (Ad (Aa 5)) (Ab (Ad (fSl (Aa 3) (My (fOp Br (Aa 4) (fC (.int 1)))) (M.ret none))) Ag))))
   fNx)
def S0:M Ctl :=
 (A6 (K2 (Ay H6 (Ab (Aa 1) Ag)))
 (A6 (K2 (Ay J9 (Ab (Aa 3) (Ab (Aa 1) (Ab (fC (.int 6)) Ag)))))
 (A6 (Dj cs_Chain "letters" 0 (Aa 1))
 (A6 (Dj cs_Chain "steps" 0 (Aa 3))
 (A6 (Dj cs_Chain "keep_places" 0 (Aa 2))
 (A6 (Pt cs_Chain "front_steps" "rows" "back_steps" 0 (Ab (Ad (Ky Ag)) (Ab (fC .non) (Ab (Ad (Aa 3)) Ag))))
 (Ez (Lg (Aa 3)) (Di 2 (Cs (Am 4) (Cs (Am 5) Hc)))
  Zg)))))))
def H7:List Sl→Res Rv:=fnF 4 6 S0
theorem Amz {P:Program} {w:World} {K:PySem.W.Frag} {mg:Str→Option Value} {base:Heap} {ca:Str→Addr} {Tb:LT} {sa:Addr} {sn:List Int} {f:Addr} {fd:FuncData}   (F:FunD K "__init__" "Chain.__init__" (defArgs Fo) (defBody Fo) (defScope Fo) [] [("keep_places",.bl true)] f fd) (d_check_letters:Df P mg base (gm K w ca Tb sa sn) "check_letters" [] 1 H6) (d_check_steps:Df P mg base (gm K w ca Tb sa sn) "check_steps" [] 1 J9) (i_Chain_MOST:CiD mg (gm K w ca Tb sa sn) "Chain" "MOST" 6) (n_Chain_letters:∀ c∈cs_Chain,NoAttr K (ca c) "letters") (n_Chain_steps:∀ c∈cs_Chain,NoAttr K (ca c) "steps") (n_Chain_keep_places:∀ c∈cs_Chain,NoAttr K (ca c) "keep_places") (n_Chain_front_steps:∀ c∈cs_Chain,NoAttr K (ca c) "front_steps") (n_Chain_rows:∀ c∈cs_Chain,NoAttr K (ca c) "rows") (n_Chain_back_steps:∀ c∈cs_Chain,NoAttr K (ca c) "back_steps") (m_enumerate:mg "enumerate" = none) (isc_Rows:Eo mg (gm K w ca Tb sa sn) "Rows" [("Chain",false),("House",false),("Store",false)]) (m_isinstance:mg "isinstance" = none) :
  ∀ (cdv:Value) (A:Around) (outer:List PySem.Env) (s:Shared) (H:Hp) (E:XK),VSs (gm K w ca Tb sa sn) (WR E) 1 (cxOf (L2.CX P w) P w K mg base Zf "Chain.__init__" (defScope Fo) f cdv A outer s H E) (defBody Fo) S0:=fun cdv A outer s H E =>
 (Be (Ol (Co d_check_letters (by decide) rfl (Ae (Ac (i:=1) rfl (.inl rfl)) Aj)))
 (Be (Ol (Co d_check_steps (by decide) rfl (Ae (Ac (i:=3) rfl (.inl rfl)) (Ae (Ac (i:=1) rfl (.inl rfl)) (Ae (Ade i_Chain_MOST) Aj)))))
 (Be (F5 (i:=0) n_Chain_letters rfl (.inl rfl) (Ac (i:=1) rfl (.inl rfl)))
 (Be (F5 (i:=0) n_Chain_steps rfl (.inl rfl) (Ac (i:=3) rfl (.inl rfl)))
 (Be (F5 (i:=0) n_Chain_keep_places rfl (.inl rfl) (Ac (i:=2) rfl (.inl rfl)))
 (Be (X5 (i:=0) n_Chain_front_steps n_Chain_rows n_Chain_back_steps rfl (.inl rfl) (Ae (Ar (Vg Aj)) (Ae Qr (Ae (Ar (Ac (i:=3) rfl (.inl rfl))) Aj))))
 (Aw (Oo (Xb m_enumerate (Ac (i:=3) rfl (.inl rfl))) (Qz (n:=2) (K3 (Ct (i:=4) rfl (.inl rfl)) (K3 (Ct (i:=5) rfl (.inl rfl)) Qy)))
  (Aw (D4 (Dg (Lf isc_Rows m_isinstance (Ac (i:=5) rfl (.inl rfl))))
   (Aw (X5 (i:=0) n_Chain_front_steps n_Chain_rows n_Chain_back_steps rfl (.inl rfl) (Ae (Ar (V1 (Ac (i:=3) rfl (.inl rfl)) Vz (V0 (Ac (i:=4) rfl (.inl rfl))))) (Ae (Ar (Ac (i:=5) rfl (.inl rfl))) (Ae (Ar (V1 (Ac (i:=3) rfl (.inl rfl)) (V0 (En (Ac (i:=4) rfl (.inl rfl)) Au)) Vz)) Aj)))))
   C5))))))))))
abbrev Zh:List Str:=["letters"]
theorem Am0:FnScope Zh ["letters"] (defScope Ii):=⟨rfl,rfl,rfl,by decide +kernel,rfl,by decide +kernel,by decide +kernel⟩
def S2:M Ctl :=
 (Bn (Pa "Chain" (E9 2 0 [(.bl true)] H7) (Ab (Aa 0) Ag)))
def Fe:List Sl→Res Rv:=fnF 1 1 S2
theorem Am1 {P:Program} {w:World} {K:PySem.W.Frag} {mg:Str→Option Value} {base:Heap} {ca:Str→Addr} {Tb:LT} {sa:Addr} {sn:List Int} {f:Addr} {fd:FuncData}   (F:FunD K "plain" "Chain.plain" (defArgs Ii) (defBody Ii) (defScope Ii) [] [] f fd) (mk_Chain_d1:Mk' P mg base (gm K w ca Tb sa sn) "Chain" "Chain" [] 2 (E9 2 0 [(.bl true)] H7)) :
  FnG P w K mg base (L2.CX P w) 4 f fd ["letters"] (spV (gm K w ca Tb sa sn) 1 Fe) :=
 Cf (k:=3) (B:=S2) (N:=Zh) (ps:=["letters"]) F Am0 fun cdv A outer s H E =>
 (Aw (Bw (Wa mk_Chain_d1 (by decide) rfl (Ae (Ac (i:=0) rfl (.inl rfl)) Aj))))
abbrev Zi:List Str:=["self", "house"]
theorem Am2:FnScope Zi ["self", "house"] (defScope Ij):=⟨rfl,rfl,rfl,by decide +kernel,rfl,by decide +kernel,by decide +kernel⟩
def Zj:M Ctl :=
 (Dj B4 "house" 0 (Aa 1))
def Zk:M Ctl :=
 (A6 (Dj B4 "names" 0 (Fp Ag))
 (Dj B4 "is_shut" 0 (fC (.bl false))))
def L0:W2 :=
 (A7 (Ap Zj)
 (A7 (Lh B4 "texts" 0)
 (Ap Zk)))
theorem N0:Mon L0:=by
 unfold L0
 repeat (first | exact Ep _ | exact Ci _ | exact Jw _ | exact Jx _ | exact Jp _ _ _ | refine Jo ?_ ?_ | refine Lm ?_ | refine J5 ?_ | refine Lu ?_ ?_ ?_ | refine Lv ?_ | refine Jt ?_ | refine Jz ?_ ?_ ?_ | refine J0 ?_ ?_ | refine J4 ?_ | refine J7 ?_ | refine J8 ?_ | refine Ho ?_ ?_ | refine Js ?_ | refine Lj ?_ ?_ | refine Lk ?_ ?_ | refine Lw ?_ | refine Fd ?_ | refine Lx ?_ | refine Lr ?_ | refine Ly ?_ | refine Lz ?_)
def Gj:E2 Rv:=Cr 2 2 L0
theorem Am3 {P:Program} {w:World} {K:PySem.W.Frag} {mg:Str→Option Value} {base:Heap} {ca:Str→Addr} {Tb:LT} {sa:Addr} {sn:List Int} {f:Addr} {fd:FuncData}   (F:FunD K "__init__" "Store.__init__" (defArgs Ij) (defBody Ij) (defScope Ij) [] [] f fd) (n_Store_house:∀ c∈B4,NoAttr K (ca c) "house") (n_Store_texts:∀ c∈B4,NoAttr K (ca c) "texts") (n_Store_names:∀ c∈B4,NoAttr K (ca c) "names") (n_Store_is_shut:∀ c∈B4,NoAttr K (ca c) "is_shut") :
  FnG P w K mg base (L2.CX P w) 1 f fd ["self", "house"] (Ec (gm K w ca Tb sa sn) 2 Gj) :=
 Pu (k:=0) (B:=L0) (N:=Zi) (ps:=["self", "house"]) F Am2 fun cdv A outer s H E =>
 (Cw (Nn (F5 (i:=0) n_Store_house rfl (.inl rfl) (Ac (i:=1) rfl (.inl rfl))))
 (Cw (Akz (i:=0) n_Store_texts rfl (.inl rfl))
 (Eb (Be (F5 (i:=0) n_Store_names rfl (.inl rfl) (Kz Aj))
 (Aw (F5 (i:=0) n_Store_is_shut rfl (.inl rfl) D1))))))
abbrev Zl:List Str:=["_law_source_here", "_law_many", "_law_digit", "_law_mixed"]
theorem Am4:FnScope Zl ["_law_source_here", "_law_many"] (defScope Ik):=⟨rfl,rfl,rfl,by decide +kernel,rfl,by decide +kernel,by decide +kernel⟩
def S3:M Ctl :=
 (A6 (B7 (A8 (fOp gtD (fOp ixA (Aa 0) (fC (.int 0))) (fC (.int 0))))
  (A6 (Ck 2 (fOp Hh (Ao intD (Ab (fOp ixA (Aa 0) (fC (.int 0))) Ag)) (Aa 1)))
  (A6 (Hj K8 0 (fC (.int 0)) (fOp Ms (fOp ixA (Aa 0) (fC (.int 0))) (Aa 1)))
  (Bn (Aa 2))))
  fNx)
 (A6 (Hj K8 0 (fC (.int 2)) (fOp Br (fOp ixA (Aa 0) (fC (.int 2))) (fC (.int 1))))
 (A6 (Ck 3 (fOp Hh (Ao intD (Ab (fOp Br (fOp F4 (fOp Br (fOp ixA (Aa 0) (fC (.int 1))) (fOp D7 (fC (.int 7368787)) (fOp ixA (Aa 0) (fC (.int 2))))) (fC (.int 2))) (fOp ixA (Aa 0) (fC (.int 2)))) Ag)) (fC (.int 1000000000000037))))
 (A6 (Ck 3 (fOp Hh (Ao intD (Ab (fOp F4 (fOp Br (Aa 3) (fOp D7 (fC (.int 15485863)) (fOp ixA (Aa 0) (fC (.int 2))))) (fC (.int 3))) Ag)) (fC (.int 1000000000000091))))
 (Bn (fOp Hh (Ao intD (Ab (fOp Ms (Aa 3) (fC (.int 4096))) Ag)) (Aa 1)))))))
def Bc:List Sl→Res Rv:=fnF 2 4 S3
theorem Am5 {P:Program} {w:World} {K:PySem.W.Frag} {mg:Str→Option Value} {base:Heap} {ca:Str→Addr} {Tb:LT} {sa:Addr} {sn:List Int} {f:Addr} {fd:FuncData}   (F:FunD K "_law_pick" "_law_pick" (defArgs Ik) (defBody Ik) (defScope Ik) [] [] f fd) (m_int:mg "int" = none) :
  FnG P w K mg base (L2.CX P w) 1 f fd ["_law_source_here", "_law_many"] (spV (gm K w ca Tb sa sn) 2 Bc) :=
 Cf (k:=0) (B:=S3) (N:=Zl) (ps:=["_law_source_here", "_law_many"]) F Am4 fun cdv A outer s H E =>
 (Be (D4 (Dl c_gt (Du (Ac (i:=0) rfl (.inl rfl)) Au) Au)
  (Be (Dh (i:=2) rfl (.inl rfl) (M7 (M8 m_int (Ae (Du (Ac (i:=0) rfl (.inl rfl)) Au) Aj)) (Ac (i:=1) rfl (.inl rfl))))
  (Be (V7 (i:=0) rfl (.inl rfl) Au (Wn (Du (Ac (i:=0) rfl (.inl rfl)) Au) (Ac (i:=1) rfl (.inl rfl))))
  (Aw (Bw (Ac (i:=2) rfl (.inl rfl))))))
  C5)
 (Be (V7 (i:=0) rfl (.inl rfl) Au (En (Du (Ac (i:=0) rfl (.inl rfl)) Au) Au))
 (Be (Dh (i:=3) rfl (.inl rfl) (M7 (M8 m_int (Ae (En (Rj (En (Du (Ac (i:=0) rfl (.inl rfl)) Au) (Rk Au (Du (Ac (i:=0) rfl (.inl rfl)) Au))) Au) (Du (Ac (i:=0) rfl (.inl rfl)) Au)) Aj)) Au))
 (Be (Dh (i:=3) rfl (.inl rfl) (M7 (M8 m_int (Ae (Rj (En (Ac (i:=3) rfl (.inl rfl)) (Rk Au (Du (Ac (i:=0) rfl (.inl rfl)) Au))) Au) Aj)) Au))
 (Aw (Bw (M7 (M8 m_int (Ae (Wn (Ac (i:=3) rfl (.inl rfl)) Au) Aj)) (Ac (i:=1) rfl (.inl rfl)))))))))
abbrev Zm:List Str:=["_law_source_here", "_law_rows"]
theorem Am6:FnScope Zm ["_law_source_here", "_law_rows"] (defScope Il):=⟨rfl,rfl,rfl,by decide +kernel,rfl,by decide +kernel,by decide +kernel⟩
def N1:M Ctl :=
 (Bn (fOp ixA (Aa 1) (Ay Bc (Ab (Aa 0) (Ab (Ao Bl (Ab (Aa 1) Ag)) Ag)))))
def By:List Sl→Res Rv:=fnF 2 2 N1
theorem Am7 {P:Program} {w:World} {K:PySem.W.Frag} {mg:Str→Option Value} {base:Heap} {ca:Str→Addr} {Tb:LT} {sa:Addr} {sn:List Int} {f:Addr} {fd:FuncData}   (F:FunD K "_law_one" "_law_one" (defArgs Il) (defBody Il) (defScope Il) [] [] f fd) (d_law_pick:Df P mg base (gm K w ca Tb sa sn) "_law_pick" [] 1 Bc) (m_len:mg "len" = none) :
  FnG P w K mg base (L2.CX P w) 2 f fd ["_law_source_here", "_law_rows"] (spV (gm K w ca Tb sa sn) 2 By) :=
 Cf (k:=1) (B:=N1) (N:=Zm) (ps:=["_law_source_here", "_law_rows"]) F Am6 fun cdv A outer s H E =>
 (Aw (Bw (Du (Ac (i:=1) rfl (.inl rfl)) (Co d_law_pick (by decide) rfl (Ae (Ac (i:=0) rfl (.inl rfl)) (Ae (Jj m_len (Ae (Ac (i:=1) rfl (.inl rfl)) Aj)) Aj))))))
abbrev S4:List Str:=["_law_source_here", "_law_size", "_law_turn"]
theorem Am8:FnScope S4 ["_law_source_here"] (defScope Gx):=⟨rfl,rfl,rfl,by decide +kernel,rfl,by decide +kernel,by decide +kernel⟩
def N2:M Rv :=
 (Ay By (Ab (Aa 0) (Ab (fC (.str [97,98,99,100,101,102,103,104,105,106,107,108,109,110,111,112,113,114,115,116,117,118,119,120,121,122])) Ag)))
def S5:M Ctl :=
 (A6 (Ck 1 (Ay By (Ab (Aa 0) (Ab (Fp (Ab (fC (.int 1)) (Ab (fC (.int 1)) (Ab (fC (.int 2)) (Ab (fC (.int 3)) (Ab (fC (.int 12)) Ag)))))) Ag))))
 (Bn (Hi "str" El (fC (.str [])) (Ab (fLc (Ce (Aa 1)) (Am 2) (M.ret true) N2 [2]) Ag))))
def Ff:List Sl→Res Rv:=fnF 1 3 S5
theorem Am9 {P:Program} {w:World} {K:PySem.W.Frag} {mg:Str→Option Value} {base:Heap} {ca:Str→Addr} {Tb:LT} {sa:Addr} {sn:List Int} {f:Addr} {fd:FuncData}   (F:FunD K "_law_name" "_law_name" (defArgs Gx) (defBody Gx) (defScope Gx) [] [] f fd) (d_law_one:Df P mg base (gm K w ca Tb sa sn) "_law_one" [] 2 By) (m_range:mg "range" = none) :
  FnG P w K mg base (L2.CX P w) 3 f fd ["_law_source_here"] (spV (gm K w ca Tb sa sn) 1 Ff) :=
 Cf (k:=2) (B:=S5) (N:=S4) (ps:=["_law_source_here"]) F Am8 fun cdv A outer s H E =>
 (Be (Dh (i:=1) rfl (.inl rfl) (Co d_law_one (by decide) rfl (Ae (Ac (i:=0) rfl (.inr (.inl rfl))) (Ae (Kz (Ae Au (Ae Au (Ae Au (Ae Au (Ae Au Aj)))))) Aj))))
 (Aw (Bw (Rl Cj (Ae (Ja (own:=[("_law_turn",2)]) (Mn m_range (Ac (i:=1) rfl (.inl rfl))) (blkOk_by (own:=[("_law_turn",2)]) (N:=S4) (sc:=defScope Gx) (by decide +kernel)) (by decide) (fun _ _ _ _ _=>(Ct (i:=2) rfl (.inl rfl))) (fun _ _ _ _ _=>I9) (fun _ _ _ _ _=>(Co d_law_one (by decide) rfl (Ae (Ac (i:=0) rfl (by first | exact .inr (.inr rfl) | exact .inr (.inl rfl) | exact .inl rfl)) (Ae Cj Aj))))) Aj)))))
abbrev S6:List Str:=["self", "lines", "step"]
theorem Ana:FnScope S6 ["self"] (defScope Gy):=⟨rfl,rfl,rfl,by decide +kernel,rfl,by decide +kernel,by decide +kernel⟩
def Anb:M Rv :=
 (Bu "line" (Aa 2))
def Zn:M Ctl :=
 (A6 (Ck 1 (Fp (Ab (Ad (fOp Br (fC (.str [108,101,116,116,101,114,115,32])) (Bu "letters" (Aa 0)))) (Ab (Ad (B7 (B9 (Bu "keep_places" (Aa 0))) (fC (.str [112,108,97,99,101,115,32,107,101,112,116])) (fC (.str [112,108,97,99,101,115,32,99,108,111,115,101,100])))) Ag))))
 (Bn (Hi "str" El (fC (.str [10])) (Ab (fOp Br (Aa 1) (fLc (D6 (Bu "steps" (Aa 0))) (Am 2) (M.ret true) Anb [2])) Ag))))
def S7:List Sl→Res Rv:=fnF 1 3 Zn
theorem Anc {P:Program} {w:World} {K:PySem.W.Frag} {mg:Str→Option Value} {base:Heap} {ca:Str→Addr} {Tb:LT} {sa:Addr} {sn:List Int} {f:Addr} {fd:FuncData}   (F:FunD K "__str__" "Chain.__str__" (defArgs Gy) (defBody Gy) (defScope Gy) [] [] f fd)  :
  FnG P w K mg base (L2.CX P w) 1 f fd ["self"] (spV (gm K w ca Tb sa sn) 1 S7) :=
 Cf (k:=0) (B:=Zn) (N:=S6) (ps:=["self"]) F Ana fun cdv A outer s H E =>
 (Be (Dh (i:=1) rfl (.inl rfl) (Kz (Ae (Ar (En Cj (B1 (Ac (i:=0) rfl (.inl rfl))))) (Ae (Ar (Qx (Dg (B1 (Ac (i:=0) rfl (.inl rfl)))) Cj Cj)) Aj))))
 (Aw (Bw (Rl Cj (Ae (En (Ac (i:=1) rfl (.inl rfl)) (Ja (own:=[("step",2)]) (Om (B1 (Ac (i:=0) rfl (.inl rfl)))) (blkOk_by (own:=[("step",2)]) (N:=S6) (sc:=defScope Gy) (by decide +kernel)) (by decide) (fun _ _ _ _ _=>(Ct (i:=2) rfl (.inl rfl))) (fun _ _ _ _ _=>I9) (fun _ _ _ _ _=>(B1 (Ac (i:=2) rfl (.inl rfl)))))) Aj)))))
def N3 (c:Str):Option (List Sl→Res Rv):=if c = "Chain" then some S7 else none
abbrev Zo:List Str:=["self", "other"]
theorem Ane:FnScope Zo ["self", "other"] (defScope Im):=⟨rfl,rfl,rfl,by decide +kernel,rfl,by decide +kernel,by decide +kernel⟩
def Zp:M Ctl :=
 (Bn (Ey (F6 [("Chain",true),("House",false),("Store",false)] (Aa 1)) (fOp eqG (Pl N3 (Aa 0)) (Pl N3 (Aa 1)))))
def P9:List Sl→Res Rv:=fnF 2 2 Zp
theorem Anf {P:Program} {w:World} {K:PySem.W.Frag} {mg:Str→Option Value} {base:Heap} {ca:Str→Addr} {Tb:LT} {sa:Addr} {sn:List Int} {f:Addr} {fd:FuncData}   (F:FunD K "__eq__" "Chain.__eq__" (defArgs Im) (defBody Im) (defScope Im) [] [] f fd) (strd:StrD P mg base (gm K w ca Tb sa sn) 1 N3) (m_str:mg "str" = none) (isc_Chain:Eo mg (gm K w ca Tb sa sn) "Chain" [("Chain",true),("House",false),("Store",false)]) (m_isinstance:mg "isinstance" = none) :
  FnG P w K mg base (L2.CX P w) 4 f fd ["self", "other"] (spV (gm K w ca Tb sa sn) 2 P9) :=
 Cf (k:=3) (B:=Zp) (N:=Zo) (ps:=["self", "other"]) F Ane fun cdv A outer s H E =>
 (Aw (Bw (I8 (Lf isc_Chain m_isinstance (Ac (i:=1) rfl (.inl rfl))) (K0 (Wm c_eq (W7 strd (by decide) m_str (Ac (i:=0) rfl (.inl rfl))) (W7 strd (by decide) m_str (Ac (i:=1) rfl (.inl rfl))))))))
def Ka (c:Str):Option (List Sl→Res Rv):=if c = "Chain" then some P9 else none
abbrev Zq:List Str:=["self", "other"]
theorem Ang:FnScope Zq ["self", "other"] (defScope Io):=⟨rfl,rfl,rfl,by decide +kernel,rfl,by decide +kernel,by decide +kernel⟩
def Zr:M Ctl :=
 (Bn (Ey (F6 [("Chain",false),("House",true),("Store",false)] (Aa 1)) (Ey (Nh Ka De (Bu "keep" (Aa 0)) (Bu "keep" (Aa 1))) (Nh Ka De (Bu "ask" (Aa 0)) (Bu "ask" (Aa 1))))))
def L3:List Sl→Res Rv:=fnF 2 2 Zr
theorem Anh {P:Program} {w:World} {K:PySem.W.Frag} {mg:Str→Option Value} {base:Heap} {ca:Str→Addr} {Tb:LT} {sa:Addr} {sn:List Int} {f:Addr} {fd:FuncData}   (F:FunD K "__eq__" "House.__eq__" (defArgs Io) (defBody Io) (defScope Io) [] [] f fd) (eqdC:EqD P mg base (gm K w ca Tb sa sn) 4 Ka De) (isc_House:Eo mg (gm K w ca Tb sa sn) "House" [("Chain",false),("House",true),("Store",false)]) (m_isinstance:mg "isinstance" = none) :
  FnG P w K mg base (L2.CX P w) 5 f fd ["self", "other"] (spV (gm K w ca Tb sa sn) 2 L3) :=
 Cf (k:=4) (B:=Zr) (N:=Zq) (ps:=["self", "other"]) F Ang fun cdv A outer s H E =>
 (Aw (Bw (I8 (Lf isc_House m_isinstance (Ac (i:=1) rfl (.inl rfl))) (I8 (W6 eqdC (by decide) (B1 (Ac (i:=0) rfl (.inl rfl))) (B1 (Ac (i:=1) rfl (.inl rfl)))) (K0 (W6 eqdC (by decide) (B1 (Ac (i:=0) rfl (.inl rfl))) (B1 (Ac (i:=1) rfl (.inl rfl)))))))))
def Gk (c:Str):Option (List Sl→Res Rv):=if c = "Chain" then some P9 else if c = "House" then some L3 else none
abbrev Ani:List Str:=["self"]
theorem Zs:FnScope Ani ["self"] (defScope Eu):=⟨rfl,rfl,rfl,by decide +kernel,rfl,by decide +kernel,by decide +kernel⟩
theorem Anj {P:Program} {w:World} {K:PySem.W.Frag} {mg:Str→Option Value} {base:Heap} {f:Addr} {fd:FuncData} (F:FunD K "__iter__" "Store.__iter__" (defArgs Eu) (defBody Eu) (defScope Eu) [] [] f fd) (m_iter:mg "iter" = none) :
  FnG P w K mg base (L2.CX P w) 1 f fd ["self"] (Hy K "names") :=
 Al9 F Zs fun cdv A outer s H E=>(pss_one (Al8 m_iter rfl (.inl rfl)))
theorem Ank {P:Program} {w:World} {K:PySem.W.Frag} {mg:Str→Option Value} {base:Heap} {f:Addr} {fd:FuncData} (F:FunD K "__iter__" "Store.__iter__" (defArgs Eu) (defBody Eu) (defScope Eu) [] [] f fd) (hbn_:Binds K fd ["self"] []) (m_iter:mg "iter" = none) :
  FnIL P w K mg base 1 f "names" :=
 Amg F Zs hbn_ fun cdv A outer s H E=>(pss_one (Amf m_iter rfl (.inl rfl)))
def Fg (c:Str):Option Str:=if c = "Store" then some "names" else none
abbrev Zt:List Str:=["self"]
theorem Anl:FnScope Zt ["self"] (defScope Ip):=⟨rfl,rfl,rfl,by decide +kernel,rfl,by decide +kernel,by decide +kernel⟩
def S8:M Ctl :=
 (Bn (Ao Bl (Ab (Bu "names" (Aa 0)) Ag)))
def Kc:List Sl→Res Rv:=fnF 1 1 S8
theorem Anm {P:Program} {w:World} {K:PySem.W.Frag} {mg:Str→Option Value} {base:Heap} {ca:Str→Addr} {Tb:LT} {sa:Addr} {sn:List Int} {f:Addr} {fd:FuncData}   (F:FunD K "__len__" "Store.__len__" (defArgs Ip) (defBody Ip) (defScope Ip) [] [] f fd) (m_len:mg "len" = none) :
  FnG P w K mg base (L2.CX P w) 1 f fd ["self"] (spV (gm K w ca Tb sa sn) 1 Kc) :=
 Cf (k:=0) (B:=S8) (N:=Zt) (ps:=["self"]) F Anl fun cdv A outer s H E =>
 (Aw (Bw (Jj m_len (Ae (B1 (Ac (i:=0) rfl (.inl rfl))) Aj))))
def L4 (c:Str):Option (List Sl→Res Rv):=if c = "Store" then some Kc else none
abbrev Zu:List Str:=["self", "name"]
theorem Ann:FnScope Zu ["self", "name"] (defScope Iq):=⟨rfl,rfl,rfl,by decide +kernel,rfl,by decide +kernel,by decide +kernel⟩
def S9:M Ctl :=
 (A6 (B7 (fOr (Ew (B9 (Ao Bx (Ab (Aa 1) (Ab (fC (.con (.ty "str"))) Ag))))) (A8 (fOp (Az inA true) (Aa 1) (Bu "texts" (Aa 0)))))
  fNo
  fNx)
 (Bn (fOp ixA (Bu "texts" (Aa 0)) (Aa 1))))
def Kd:List Sl→Res Rv:=fnF 2 2 S9
theorem Ano {P:Program} {w:World} {K:PySem.W.Frag} {mg:Str→Option Value} {base:Heap} {ca:Str→Addr} {Tb:LT} {sa:Addr} {sn:List Int} {f:Addr} {fd:FuncData}   (F:FunD K "__getitem__" "Store.__getitem__" (defArgs Iq) (defBody Iq) (defScope Iq) [] [] f fd) (m_str:mg "str" = none) (m_isinstance:mg "isinstance" = none) :
  FnG P w K mg base (L2.CX P w) 1 f fd ["self", "name"] (spV (gm K w ca Tb sa sn) 2 Kd) :=
 Cf (k:=0) (B:=S9) (N:=Zu) (ps:=["self", "name"]) F Ann fun cdv A outer s H E =>
 (Be (D4 (VW.vt (D3 (Hb (Dg (Jk m_isinstance (Ae (Ac (i:=1) rfl (.inl rfl)) (Ae (I7 m_str (by decide +kernel)) Aj))))) (Ft (Rc (Ac (i:=1) rfl (.inl rfl)) (B1 (Ac (i:=0) rfl (.inl rfl)))))))
  (Aw Hk)
  C5)
 (Aw (Bw (Du (B1 (Ac (i:=0) rfl (.inl rfl))) (Ac (i:=1) rfl (.inl rfl))))))
def L5 (c:Str):Option (List Sl→Res Rv):=if c = "Store" then some Kd else none
abbrev Zv:List Str:=["self", "name"]
theorem Anp:FnScope Zv ["self", "name"] (defScope Ir):=⟨rfl,rfl,rfl,by decide +kernel,rfl,by decide +kernel,by decide +kernel⟩
def Qa:M Ctl :=
 (Bn (Ey (Ao Bx (Ab (Aa 1) (Ab (fC (.con (.ty "str"))) Ag))) (fOp (Az inA false) (Aa 1) (Bu "texts" (Aa 0)))))
def Fh:List Sl→Res Rv:=fnF 2 2 Qa
theorem Anq {P:Program} {w:World} {K:PySem.W.Frag} {mg:Str→Option Value} {base:Heap} {ca:Str→Addr} {Tb:LT} {sa:Addr} {sn:List Int} {f:Addr} {fd:FuncData}   (F:FunD K "__contains__" "Store.__contains__" (defArgs Ir) (defBody Ir) (defScope Ir) [] [] f fd) (m_str:mg "str" = none) (m_isinstance:mg "isinstance" = none) :
  FnG P w K mg base (L2.CX P w) 1 f fd ["self", "name"] (spV (gm K w ca Tb sa sn) 2 Fh) :=
 Cf (k:=0) (B:=Qa) (N:=Zv) (ps:=["self", "name"]) F Anp fun cdv A outer s H E =>
 (Aw (Bw (I8 (Jk m_isinstance (Ae (Ac (i:=1) rfl (.inl rfl)) (Ae (I7 m_str (by decide +kernel)) Aj))) (K0 (Rb (Ac (i:=1) rfl (.inl rfl)) (B1 (Ac (i:=0) rfl (.inl rfl))))))))
def Ke (c:Str):Option (List Sl→Res Rv):=if c = "Store" then some Fh else none
abbrev Ta:List Str:=["_law_store", "_law_texts", "_law_names", "_law_name_here", "_law_is_there"]
theorem Anr:FnScope Ta ["_law_store", "_law_texts", "_law_names"] (defScope Gz):=⟨rfl,rfl,rfl,by decide +kernel,rfl,by decide +kernel,by decide +kernel⟩
def Kf:M Ctl :=
 (B7 (fOr (A8 (fOp neG (Nm L5 (Aa 0) (Aa 3)) (fOp ixA (Aa 1) (Aa 3)))) (Ew (B9 (Ao Bx (Ab (Nm L5 (Aa 0) (Aa 3)) (Ab (fC (.con (.ty "str"))) Ag))))))
   (Bn (fC (.bl false)))
   fNx)
def H8:M Ctl :=
 (A6 (Ck 4 (Ad (Ey (Ao Bx (Ab (Aa 3) (Ab (fC (.con (.ty "str"))) Ag))) (fOp (Az inA false) (Aa 3) (Aa 1)))))
  (B7 (A8 (fOp neG (Jm Ke false (Aa 3) (Aa 0)) (Aa 4)))
   (Bn (fC (.bl false)))
   fNx))
def Tc:M Ctl :=
 (A6 (B7 (fOr (A8 (fOp neG (Pq L4 (Aa 0)) (Ao Bl (Ab (Aa 1) Ag)))) (fOr (A8 (fOp neG (P7 Fg L4 (Aa 0)) (Ao Ea (Ab (Aa 1) Ag)))) (A8 (fOp neG (fLc (P8 Fg (Aa 0)) (Am 3) (M.ret true) (Aa 3) [3]) (Ao Ea (Ab (Aa 1) Ag))))))
  (Bn (fC (.bl false)))
  fNx)
 (A6 (Pe (Jf 1) (Am 3)
  Kf)
 (A6 (Ez (D6 (fOp Br (Aa 2) (Fp (Ab (fC (.str [])) (Ab (fC (.str [65])) (Ab (fC (.str [110,111,116,101,120,116,97,116,97,108,108])) (Ab (fC (.int 0)) (Ab (fC .non) (Ab (fC (.bl true)) (Ab (Ad (Fp (Ab (fC (.str [97])) Ag))) (Ab (Ad (Ky (Ab (fC (.str [97])) Ag))) (Ab (fC (.str [32,97])) (Ab (Ad (Ld (Nf (fC (.str [97])) (fC (.int 1)) Nd))) Ag))))))))))))) (Am 3)
  H8)
 (Bn (fC (.bl true))))))
def Dz:List Sl→Res Rv:=fnF 3 5 Tc
theorem Ans {P:Program} {w:World} {K:PySem.W.Frag} {mg:Str→Option Value} {base:Heap} {ca:Str→Addr} {Tb:LT} {sa:Addr} {sn:List Int} {f:Addr} {fd:FuncData}   (F:FunD K "_law_right" "_law_right" (defArgs Gz) (defBody Gz) (defScope Gz) [] [] f fd) (itn:Ss P mg base (gm K w ca Tb sa sn) 1 Fg) (m_sorted:mg "sorted" = none) (itd:ItDL P mg base (gm K w ca Tb sa sn) 1 Fg) (lend:SpD "__len__" P mg base (gm K w ca Tb sa sn) 1 L4) (m_list:mg "list" = none) (m_len:mg "len" = none) (m_str:mg "str" = none) (itmd:ItmD P mg base (gm K w ca Tb sa sn) 1 L5) (m_isinstance:mg "isinstance" = none) (cond:SpD "__contains__" P mg base (gm K w ca Tb sa sn) 1 Ke) :
  FnG P w K mg base (L2.CX P w) 5 f fd ["_law_store", "_law_texts", "_law_names"] (spV (gm K w ca Tb sa sn) 3 Dz) :=
 Cf (k:=4) (B:=Tc) (N:=Ta) (ps:=["_law_store", "_law_texts", "_law_names"]) F Anr fun cdv A outer s H E =>
 (Be (D4 (VW.vt (D3 (Dl Ji (Akb lend (by decide) m_len (Ac (i:=0) rfl (.inl rfl))) (Jj m_len (Ae (Ac (i:=1) rfl (.inl rfl)) Aj))) (D3 (Dl Ji (Amc itd lend (by decide) (by decide) m_list (Ac (i:=0) rfl (.inl rfl))) (Pg m_sorted (Ae (Ac (i:=1) rfl (.inl rfl)) Aj))) (Ft (Dl Ji (Ja (own:=[("_law_name_here",3)]) (Ami itn (by decide) (Ac (i:=0) rfl (.inl rfl))) (blkOk_by (own:=[("_law_name_here",3)]) (N:=Ta) (sc:=defScope Gz) (by decide +kernel)) (by decide) (fun _ _ _ _ _=>(Ct (i:=3) rfl (.inl rfl))) (fun _ _ _ _ _=>I9) (fun _ _ _ _ _=>(Ac (i:=3) rfl (.inl rfl)))) (Pg m_sorted (Ae (Ac (i:=1) rfl (.inl rfl)) Aj)))))))
  (Aw (Bw D1))
  C5)
 (Be (Adh (fun _=>pe_var (i:=1) rfl (.inl rfl)) Adf (Ct (i:=3) rfl (.inl rfl))
  (Aw (D4 (VW.vt (D3 (Dl Ji (X8 itmd (by decide) (Ac (i:=0) rfl (.inl rfl)) (Ac (i:=3) rfl (.inl rfl))) (Du (Ac (i:=1) rfl (.inl rfl)) (Ac (i:=3) rfl (.inl rfl)))) (Ft (Hb (Dg (Jk m_isinstance (Ae (X8 itmd (by decide) (Ac (i:=0) rfl (.inl rfl)) (Ac (i:=3) rfl (.inl rfl))) (Ae (I7 m_str (by decide +kernel)) Aj))))))))
   (Aw (Bw D1))
   C5)))
 (Be (Oo (Om (En (Ac (i:=2) rfl (.inl rfl)) (Kz (Ae Cj (Ae Cj (Ae Cj (Ae Au (Ae Qr (Ae D1 (Ae (Ar (Kz (Ae Cj Aj))) (Ae (Ar (Vg (Ae Cj Aj))) (Ae Cj (Ae (Ar (Ad6 (Ad5 Cj Au Ad4))) Aj))))))))))))) (Ct (i:=3) rfl (.inl rfl))
  (Be (Dh (i:=4) rfl (.inl rfl) (Ar (I8 (Jk m_isinstance (Ae (Ac (i:=3) rfl (.inl rfl)) (Ae (I7 m_str (by decide +kernel)) Aj))) (K0 (Rb (Ac (i:=3) rfl (.inl rfl)) (Ac (i:=1) rfl (.inl rfl)))))))
  (Aw (D4 (Dl Ji (Ake (neg:=false) (.inl ⟨rfl,rfl⟩) cond (by decide) (Ac (i:=3) rfl (.inl rfl)) (Ac (i:=0) rfl (.inl rfl))) (Ac (i:=4) rfl (.inl rfl)))
   (Aw (Bw D1))
   C5))))
 (Aw (Bw D1)))))
abbrev Td:List Str:=["_law_source_here", "_law_signs", "_law_turn"]
theorem Ant:FnScope Td ["_law_source_here"] (defScope G6):=⟨rfl,rfl,rfl,by decide +kernel,rfl,by decide +kernel,by decide +kernel⟩
def N4:M Rv :=
 (Ay By (Ab (Aa 0) (Ab (Aa 1) Ag)))
def Te:M Ctl :=
 (A6 (Ck 1 (fC (.str [32,10,33,34,35,36,38,39,40,41,42,43,44,45,46,47,48,49,50,51,52,53,54,55,56,57,58,59,60,61,62,63,64,91,92,93,94,95,96,123,124,125,126,65,66,67,68,69,70,71,72,73,74,75,76,77,78,79,80,81,82,83,84,85,86,87,88,89,90,97,98,99,100,101,102,103,104,105,106,107,108,109,110,111,112,113,114,115,116,117,118,119,120,121,122])))
 (Bn (Hi "str" El (fC (.str [])) (Ab (fLc (Ce (Ay Bc (Ab (Aa 0) (Ab (fC (.int 31)) Ag)))) (Am 2) (M.ret true) N4 [2]) Ag))))
def Fj:List Sl→Res Rv:=fnF 1 3 Te
theorem Anu {P:Program} {w:World} {K:PySem.W.Frag} {mg:Str→Option Value} {base:Heap} {ca:Str→Addr} {Tb:LT} {sa:Addr} {sn:List Int} {f:Addr} {fd:FuncData}   (F:FunD K "_law_any_text" "_law_any_text" (defArgs G6) (defBody G6) (defScope G6) [] [] f fd) (m_range:mg "range" = none) (d_law_pick:Df P mg base (gm K w ca Tb sa sn) "_law_pick" [] 1 Bc) (d_law_one:Df P mg base (gm K w ca Tb sa sn) "_law_one" [] 2 By) :
  FnG P w K mg base (L2.CX P w) 3 f fd ["_law_source_here"] (spV (gm K w ca Tb sa sn) 1 Fj) :=
 Cf (k:=2) (B:=Te) (N:=Td) (ps:=["_law_source_here"]) F Ant fun cdv A outer s H E =>
 (Be (Dh (i:=1) rfl (.inr rfl) Cj)
 (Aw (Bw (Rl Cj (Ae (Ja (own:=[("_law_turn",2)]) (Mn m_range (Co d_law_pick (by decide) rfl (Ae (Ac (i:=0) rfl (.inr (.inl rfl))) (Ae Au Aj)))) (blkOk_by (own:=[("_law_turn",2)]) (N:=Td) (sc:=defScope G6) (by decide +kernel)) (by decide) (fun _ _ _ _ _=>(Ct (i:=2) rfl (.inl rfl))) (fun _ _ _ _ _=>I9) (fun _ _ _ _ _=>(Co d_law_one (by decide) rfl (Ae (Ac (i:=0) rfl (by first | exact .inr (.inr rfl) | exact .inr (.inl rfl) | exact .inl rfl)) (Ae (Ac (i:=1) rfl (by first | exact .inr (.inr rfl) | exact .inr (.inl rfl) | exact .inl rfl)) Aj))))) Aj)))))
abbrev Zw:List Str:=["self"]
theorem Anv:FnScope Zw ["self"] (defScope Iu):=⟨rfl,rfl,rfl,by decide +kernel,rfl,by decide +kernel,by decide +kernel⟩
def Tf:M Ctl :=
 (B7 (B9 (Bu "is_shut" (Aa 0)))
  fNo
  fNx)
def L6:List Sl→Res Rv:=fnF 1 1 Tf
theorem Anw {P:Program} {w:World} {K:PySem.W.Frag} {mg:Str→Option Value} {base:Heap} {ca:Str→Addr} {Tb:LT} {sa:Addr} {sn:List Int} {f:Addr} {fd:FuncData}   (F:FunD K "check_open" "Store.check_open" (defArgs Iu) (defBody Iu) (defScope Iu) [] [] f fd)  :
  FnG P w K mg base (L2.CX P w) 1 f fd ["self"] (spV (gm K w ca Tb sa sn) 1 L6) :=
 Cf (k:=0) (B:=Tf) (N:=Zw) (ps:=["self"]) F Anv fun cdv A outer s H E =>
 (Aw (D4 (Dg (B1 (Ac (i:=0) rfl (.inl rfl))))
  (Aw Hk)
  C5))
def H9 (c:Str):Option (List Sl→Res Rv):=if c = "Store" then some L6 else none
abbrev Zx:List Str:=["self", "name"]
theorem Anx:FnScope Zx ["self", "name"] (defScope Iv):=⟨rfl,rfl,rfl,by decide +kernel,rfl,by decide +kernel,by decide +kernel⟩
def Zy:M Bool :=
 (fOr (Ew (B9 (Ao Bx (Ab (Aa 1) (Ab (fC (.con (.ty "str"))) Ag))))) (A8 (fOp (Az inA true) (Aa 1) (Bu "texts" (Aa 0)))))
def L7:W2 :=
 (A7 (Lq (rd2 (Je H9 "check_open" (Aa 0) Ag)))
 (A7 (if2 (rdT Zy)
  (Ap fNo)
  (Ap fNx))
 (A7 (Nu (Ht "texts" (liftM (Aa 0))) (liftM (Aa 1)))
 (Hu B4 "names" 0 (rd2 (Ao Ea (Ab (Bu "texts" (Aa 0)) Ag)))))))
theorem Tg:Mon L7:=by
 unfold L7
 repeat (first | exact Ep _ | exact Ci _ | exact Jw _ | exact Jx _ | exact Jp _ _ _ | refine Jo ?_ ?_ | refine Lm ?_ | refine J5 ?_ | refine Lu ?_ ?_ ?_ | refine Lv ?_ | refine Jt ?_ | refine Jz ?_ ?_ ?_ | refine J0 ?_ ?_ | refine J4 ?_ | refine J7 ?_ | refine J8 ?_ | refine Ho ?_ ?_ | refine Js ?_ | refine Lj ?_ ?_ | refine Lk ?_ ?_ | refine Lw ?_ | refine Fd ?_ | refine Lx ?_ | refine Lr ?_ | refine Ly ?_ | refine Lz ?_)
def L8:E2 Rv:=Cr 2 2 L7
theorem Anz {P:Program} {w:World} {K:PySem.W.Frag} {mg:Str→Option Value} {base:Heap} {ca:Str→Addr} {Tb:LT} {sa:Addr} {sn:List Int} {f:Addr} {fd:FuncData}   (F:FunD K "remove" "Store.remove" (defArgs Iv) (defBody Iv) (defScope Iv) [] [] f fd) (ml_check_open:Pb P mg base (gm K w ca Tb sa sn) "check_open" 1 H9) (m_str:mg "str" = none) (m_isinstance:mg "isinstance" = none) (n_Store_names:∀ c∈B4,NoAttr K (ca c) "names") (m_sorted:mg "sorted" = none) :
  FnG P w K mg base (L2.CX P w) 2 f fd ["self", "name"] (Ec (gm K w ca Tb sa sn) 2 L8) :=
 Pu (k:=1) (B:=L7) (N:=Zx) (ps:=["self", "name"]) F Anx fun cdv A outer s H E =>
 (Cw (Yo (P0 (We ml_check_open (by decide) (Ac (i:=0) rfl (.inl rfl)))))
 (Cw (Np (Sh (VW.vt (D3 (Hb (Dg (Jk m_isinstance (Ae (Ac (i:=1) rfl (.inl rfl)) (Ae (I7 m_str (by decide +kernel)) Aj))))) (Ft (Rc (Ac (i:=1) rfl (.inl rfl)) (B1 (Ac (i:=0) rfl (.inl rfl))))))))
  (Eb (Aw Hk))
  (Eb C5))
 (Cw (Alc (Yn (Li (Ac (i:=0) rfl (.inl rfl)))) (Li (Ac (i:=1) rfl (.inl rfl))))
 (P5 (Yp (i:=0) n_Store_names rfl (.inl rfl) (P0 (Pg m_sorted (Ae (B1 (Ac (i:=0) rfl (.inl rfl))) Aj))))))))
def Gn (c:Str):Option (E2 Rv):=if c = "Store" then some L8 else none
theorem Th:∀ c F,Gn c = some F→Ak F:=fun c F h=>by
 unfold Gn at h
 repeat (split at h; ·cases h; first | exact Gg Tg)
 cases h
abbrev Ti:List Str:=["value", "signs", "sign"]
theorem An0:FnScope Ti ["value", "signs"] (defScope G7):=⟨rfl,rfl,rfl,by decide +kernel,rfl,by decide +kernel,by decide +kernel⟩
def Tj:M Rv :=
 (fOp (Az inA false) (Aa 2) (Aa 1))
theorem An1 {e:Ve}:Tj e = (fOp (Az inA false) (Aa 2) (Aa 1)) e:=rfl
def Tn:M Ctl :=
 (Bn (Ey (Ao Bx (Ab (Aa 0) (Ab (fC (.con (.ty "str"))) Ag))) (Ey (fOp neG (Aa 0) (fC (.str []))) (Ao M0 (Ab (fLc (D6 (Aa 0)) (Am 2) (M.ret true) Tj [2]) Ag)))))
def Kg:List Sl→Res Rv:=fnF 2 3 Tn
theorem An2 {P:Program} {w:World} {K:PySem.W.Frag} {mg:Str→Option Value} {base:Heap} {ca:Str→Addr} {Tb:LT} {sa:Addr} {sn:List Int} {f:Addr} {fd:FuncData}   (F:FunD K "is_made_of" "is_made_of" (defArgs G7) (defBody G7) (defScope G7) [] [] f fd) (m_all:mg "all" = none) (m_str:mg "str" = none) (m_isinstance:mg "isinstance" = none) :
  FnG P w K mg base (L2.CX P w) 1 f fd ["value", "signs"] (spV (gm K w ca Tb sa sn) 2 Kg) :=
 Cf (k:=0) (B:=Tn) (N:=Ti) (ps:=["value", "signs"]) F An0 fun cdv A outer s H E =>
 (Aw (Bw (I8 (Jk m_isinstance (Ae (Ac (i:=0) rfl (.inl rfl)) (Ae (I7 m_str (by decide +kernel)) Aj))) (I8 (Wm Ji (Ac (i:=0) rfl (.inl rfl)) Cj) (K0 (Adt m_all (Ae (Ja (own:=[("sign",2)]) (Om (Ac (i:=0) rfl (.inl rfl))) (blkOk_by (own:=[("sign",2)]) (N:=Ti) (sc:=defScope G7) (by decide +kernel)) (by decide) (fun _ _ _ _ _=>(Ct (i:=2) rfl (.inl rfl))) (fun _ _ _ _ _=>I9) (fun _ _ _ _ _=>(Rb (Ac (i:=2) rfl (.inl rfl)) (Ac (i:=1) rfl (by first | exact .inr (.inr rfl) | exact .inr (.inl rfl) | exact .inl rfl))))) Aj)))))))
abbrev Zz:List Str:=["name"]
theorem An3:FnScope Zz ["name"] (defScope Iw):=⟨rfl,rfl,rfl,by decide +kernel,rfl,by decide +kernel,by decide +kernel⟩
def To:M Ctl :=
 (B7 (fOr (Ew (B9 (Ay Kg (Ab (Aa 0) (Ab (fC (.str Et)) Ag))))) (A8 (fOp gtD (Ao Bl (Ab (Aa 0) Ag)) (fC (.int 12)))))
  fNo
  fNx)
def Kh:List Sl→Res Rv:=fnF 1 1 To
theorem An4 {P:Program} {w:World} {K:PySem.W.Frag} {mg:Str→Option Value} {base:Heap} {ca:Str→Addr} {Tb:LT} {sa:Addr} {sn:List Int} {f:Addr} {fd:FuncData} {t_MOST_IN_NAME:Tok} {t_SMALL_LETTERS:Tok}  (F:FunD K "check_name" "check_name" (defArgs Iw) (defBody Iw) (defScope Iw) [] [] f fd) (m_len:mg "len" = none) (g_MOST_IN_NAME:mg "MOST_IN_NAME" = some (.int 12 t_MOST_IN_NAME)) (d_is_made_of:Df P mg base (gm K w ca Tb sa sn) "is_made_of" [] 1 Kg) (g_SMALL_LETTERS:mg "SMALL_LETTERS" = some (.str (S Et) t_SMALL_LETTERS)) :
  FnG P w K mg base (L2.CX P w) 2 f fd ["name"] (spV (gm K w ca Tb sa sn) 1 Kh) :=
 Cf (k:=1) (B:=To) (N:=Zz) (ps:=["name"]) F An3 fun cdv A outer s H E =>
 (Aw (D4 (VW.vt (D3 (Hb (Dg (Co d_is_made_of (by decide) rfl (Ae (Ac (i:=0) rfl (.inl rfl)) (Ae (Vb g_SMALL_LETTERS) Aj))))) (Ft (Dl c_gt (Jj m_len (Ae (Ac (i:=0) rfl (.inl rfl)) Aj)) (Vc g_MOST_IN_NAME)))))
  (Aw Hk)
  C5))
abbrev Z0:List Str:=["self", "name", "text"]
theorem An5:FnScope Z0 ["self", "name", "text"] (defScope Iy):=⟨rfl,rfl,rfl,by decide +kernel,rfl,by decide +kernel,by decide +kernel⟩
def Z1:M Ctl :=
 (K2 (Ay Kh (Ab (Aa 1) Ag)))
def L9:W2 :=
 (A7 (Lq (rd2 (Je H9 "check_open" (Aa 0) Ag)))
 (A7 (Ap Z1)
 (A7 (Nr Em (Ht "texts" (liftM (Aa 0))) (liftM (Aa 1)) (liftM (Aa 2)))
 (Hu B4 "names" 0 (rd2 (Ao Ea (Ab (Bu "texts" (Aa 0)) Ag)))))))
theorem Tp:Mon L9:=by
 unfold L9
 repeat (first | exact Ep _ | exact Ci _ | exact Jw _ | exact Jx _ | exact Jp _ _ _ | refine Jo ?_ ?_ | refine Lm ?_ | refine J5 ?_ | refine Lu ?_ ?_ ?_ | refine Lv ?_ | refine Jt ?_ | refine Jz ?_ ?_ ?_ | refine J0 ?_ ?_ | refine J4 ?_ | refine J7 ?_ | refine J8 ?_ | refine Ho ?_ ?_ | refine Js ?_ | refine Lj ?_ ?_ | refine Lk ?_ ?_ | refine Lw ?_ | refine Fd ?_ | refine Lx ?_ | refine Lr ?_ | refine Ly ?_ | refine Lz ?_)
def Ma:E2 Rv:=Cr 3 3 L9
theorem An6 {P:Program} {w:World} {K:PySem.W.Frag} {mg:Str→Option Value} {base:Heap} {ca:Str→Addr} {Tb:LT} {sa:Addr} {sn:List Int} {f:Addr} {fd:FuncData}   (F:FunD K "__setitem__" "Store.__setitem__" (defArgs Iy) (defBody Iy) (defScope Iy) [] [] f fd) (ml_check_open:Pb P mg base (gm K w ca Tb sa sn) "check_open" 1 H9) (d_check_name:Df P mg base (gm K w ca Tb sa sn) "check_name" [] 2 Kh) (n_Store_names:∀ c∈B4,NoAttr K (ca c) "names") (m_sorted:mg "sorted" = none) :
  FnG P w K mg base (L2.CX P w) 3 f fd ["self", "name", "text"] (Ec (gm K w ca Tb sa sn) 3 Ma) :=
 Pu (k:=2) (B:=L9) (N:=Z0) (ps:=["self", "name", "text"]) F An5 fun cdv A outer s H E =>
 (Cw (Yo (P0 (We ml_check_open (by decide) (Ac (i:=0) rfl (.inl rfl)))))
 (Cw (Nn (Ol (Co d_check_name (by decide) rfl (Ae (Ac (i:=1) rfl (.inl rfl)) Aj))))
 (Cw (Alb (Yn (Li (Ac (i:=0) rfl (.inl rfl)))) (Li (Ac (i:=1) rfl (.inl rfl))) (Li (Ac (i:=2) rfl (.inl rfl))))
 (P5 (Yp (i:=0) n_Store_names rfl (.inl rfl) (P0 (Pg m_sorted (Ae (B1 (Ac (i:=0) rfl (.inl rfl))) Aj))))))))
def Ia (c:Str):Option (E2 Rv):=if c = "Store" then some Ma else none
theorem Tq:∀ c F,Ia c = some F→Ak F:=fun c F h=>by
 unfold Ia at h
 repeat (split at h; ·cases h; first | exact Gg Tp)
 cases h
abbrev Ts:List Str:=["_law_script", "_law_at", "_law_source_here", "_law_house", "_law_store", "_law_texts", "_law_names", "_law_turn", "_law_name_here", "_law_text"]
theorem An7:FnScope Ts ["_law_script"] (defScope G8):=⟨rfl,rfl,rfl,by decide +kernel,rfl,by decide +kernel,by decide +kernel⟩
def Qb:M Ctl :=
 (Ck 2 (Ay Gi (Ab (Aa 0) (Ab (Aa 1) Ag))))
def Qc:M Ctl :=
 (Ck 3 (Ad (Pa "House" Hz (Ab (Ay Fe (Ab (fC (.str [97,98])) Ag)) (Ab (Ay Fe (Ab (fC (.str [97,98])) Ag)) Ag)))))
def Gq:M Rv :=
 (Ay Ff (Ab (Aa 2) Ag))
def N5:M Bool :=
 (fOr (Ew (B9 (Ay Dz (Ab (Aa 4) (Ab (Aa 5) (Ab (Aa 6) Ag)))))) (A8 (Pk Gk De (Bu "house" (Aa 4)) (Aa 3))))
def Z2:M Ctl :=
 (Bn (fC (.bl false)))
def Qd:M Ctl :=
 (Lb 8 9 (Ab (Ad (Ay By (Ab (Aa 2) (Ab (Aa 6) Ag)))) (Ab (Ad (Ay Fj (Ab (Aa 2) Ag))) Ag)))
def Z3:M Ctl :=
 (Bn (fC (.bl false)))
def Qe:M Ctl :=
 (K2 (P1 5 (Aa 8)))
def Qf:M Ctl :=
 (Hj Em 5 (Aa 8) (Aa 9))
def Mb:M Bool :=
 (Ew (B9 (Ay Dz (Ab (Aa 4) (Ab (Aa 5) (Ab (Aa 6) Ag))))))
def Tt:M Ctl :=
 (Bn (fC (.bl false)))
def Ki:W2 :=
 (A7 (Ap Qd)
   (A7 (if2 (liftM (Fq (A8 (fOp (Az inA false) (Aa 8) (Aa 5))) (A8 (fOp eqG (Ay Bc (Ab (Aa 2) (Ab (fC (.int 3)) Ag))) (fC (.int 0))))))
    (A7 (if2 (Jr (Jq C9 (Hv Gn "remove" (Aa 4) (Ab (Aa 8) Ag)) (liftM (fC .non))))
     (Ap Z3)
     (Ap fNx))
    (Ap Qe))
    (A7 (J6 Ia (Aa 4) (Aa 8) (Aa 9))
    (Ap Qf)))
   (if2 (rdT Mb)
    (Ap Tt)
    (Ap fNx))))
theorem Z4:Mon Ki:=by
 unfold Ki
 repeat (first | exact Ep _ | exact Ci _ | exact Jw _ | exact Jx _ | exact Jp _ _ _ | exact Th | exact Tq | exact Z6 | exact Gg N0 | refine Jo ?_ ?_ | refine Lm ?_ | refine J5 ?_ | refine Lu ?_ ?_ ?_ | refine Lv ?_ | refine Jt ?_ | refine Jz ?_ ?_ ?_ | refine J0 ?_ ?_ | refine J4 ?_ | refine J7 ?_ | refine J8 ?_ | refine Ho ?_ ?_ | refine Js ?_ | refine Lj ?_ ?_ | refine Lk ?_ ?_ | refine Lw ?_ | refine Fd ?_ | refine Lx ?_ | refine Lr ?_ | refine Ly ?_ | refine Lz ?_)
theorem Z5 {e:Ve} {γ:Gh} {P:P2}:Ki e γ P = (A7 (Ap Qd)
   (A7 (if2 (liftM (Fq (A8 (fOp (Az inA false) (Aa 8) (Aa 5))) (A8 (fOp eqG (Ay Bc (Ab (Aa 2) (Ab (fC (.int 3)) Ag))) (fC (.int 0))))))
    (A7 (if2 (Jr (Jq C9 (Hv Gn "remove" (Aa 4) (Ab (Aa 8) Ag)) (liftM (fC .non))))
     (Ap Z3)
     (Ap fNx))
    (Ap Qe))
    (A7 (J6 Ia (Aa 4) (Aa 8) (Aa 9))
    (Ap Qf)))
   (if2 (rdT Mb)
    (Ap Tt)
    (Ap fNx)))) e γ P:=rfl
def Mc:W2 :=
 (A7 (Ap Qb)
  (A7 (Ap Qc)
  (A7 (Ny (fun q_=>Jg 4 5 6 (Ab (fC (.con (.ref q_))) (Ab M9 (Ab (Ad (fLc (Ce (fOp Br (fC (.int 1)) (Ay Bc (Ab (Aa 2) (Ab (fC (.int 4)) Ag))))) (Am 7) (M.ret true) Gq [7])) Ag)))) (Hw "Store" Gj (Ab (Aa 3) Ag)))
  (A7 (if2 (rdT N5)
   (Ap Z2)
   (Ap fNx))
  (Gf (Ce (Ay Bc (Ab (Aa 2) (Ab (fC (.int 11)) Ag)))) (Am 7)
   Ki)))))
theorem Z6:Mon Mc:=by
 unfold Mc
 repeat (first | exact Ep _ | exact Ci _ | exact Jw _ | exact Jx _ | exact Jp _ _ _ | exact Th | exact Tq | exact Z4 | exact Gg N0 | refine Jo ?_ ?_ | refine Lm ?_ | refine J5 ?_ | refine Lu ?_ ?_ ?_ | refine Lv ?_ | refine Jt ?_ | refine Jz ?_ ?_ ?_ | refine J0 ?_ ?_ | refine J4 ?_ | refine J7 ?_ | refine J8 ?_ | refine Ho ?_ ?_ | refine Js ?_ | refine Lj ?_ ?_ | refine Lk ?_ ?_ | refine Lw ?_ | refine Fd ?_ | refine Lx ?_ | refine Lr ?_ | refine Ly ?_ | refine Lz ?_)
theorem An8 {e:Ve} {γ:Gh} {P:P2}:Mc e γ P = (A7 (Ap Qb)
  (A7 (Ap Qc)
  (A7 (Ny (fun q_=>Jg 4 5 6 (Ab (fC (.con (.ref q_))) (Ab M9 (Ab (Ad (fLc (Ce (fOp Br (fC (.int 1)) (Ay Bc (Ab (Aa 2) (Ab (fC (.int 4)) Ag))))) (Am 7) (M.ret true) Gq [7])) Ag)))) (Hw "Store" Gj (Ab (Aa 3) Ag)))
  (A7 (if2 (rdT N5)
   (Ap Z2)
   (Ap fNx))
  (Gf (Ce (Ay Bc (Ab (Aa 2) (Ab (fC (.int 11)) Ag)))) (Am 7)
   Ki))))) e γ P:=rfl
def An9:M Ctl :=
 (Bn (fC (.bl true)))
def Kj:W2 :=
 (A7 (Gf (Ce (Ao K6 (Ab (fC (.int 1)) (Ab (Ao K7 (Ab (fC (.int 3)) (Ab (Ao Bl (Ab (Aa 0) Ag)) Ag))) Ag)))) (Am 1)
  Mc)
 (Ap An9))
theorem Aoa:Mon Kj:=by
 unfold Kj
 repeat (first | exact Ep _ | exact Ci _ | exact Jw _ | exact Jx _ | exact Jp _ _ _ | exact Th | exact Tq | exact Z4 | exact Z6 | exact Gg N0 | refine Jo ?_ ?_ | refine Lm ?_ | refine J5 ?_ | refine Lu ?_ ?_ ?_ | refine Lv ?_ | refine Jt ?_ | refine Jz ?_ ?_ ?_ | refine J0 ?_ ?_ | refine J4 ?_ | refine J7 ?_ | refine J8 ?_ | refine Ho ?_ ?_ | refine Js ?_ | refine Lj ?_ ?_ | refine Lk ?_ ?_ | refine Lw ?_ | refine Fd ?_ | refine Lx ?_ | refine Lr ?_ | refine Ly ?_ | refine Lz ?_)
def Tu:E2 Rv:=Cr 1 10 Kj
theorem o_law {P:Program} {w:World} {K:PySem.W.Frag} {mg:Str→Option Value} {base:Heap} {ca:Str→Addr} {Tb:LT} {sa:Addr} {sn:List Int} {f:Addr} {fd:FuncData}   (F:FunD K "law" "law" (defArgs G8) (defBody G8) (defScope G8) [] [] f fd) (m_range:mg "range" = none) (m_len:mg "len" = none) (m_min:mg "min" = none) (m_max:mg "max" = none) (d_law_source:Df P mg base (gm K w ca Tb sa sn) "_law_source" [] 1 Gi) (mk_House:Mk' P mg base (gm K w ca Tb sa sn) "House" "House" [] 1 Hz) (f_Chain_plain:CfS P mg base (gm K w ca Tb sa sn) "Chain" "plain" 4 Fe) (mk_Store:Mk2 P mg base (gm K w ca Tb sa sn) "Store" "Store" 1 Gj) (d_law_pick:Df P mg base (gm K w ca Tb sa sn) "_law_pick" [] 1 Bc) (d_law_name:Df P mg base (gm K w ca Tb sa sn) "_law_name" [] 3 Ff) (eqd:EqD P mg base (gm K w ca Tb sa sn) 5 Gk De) (ned:NeD (gm K w ca Tb sa sn) Gk) (d_law_right:Df P mg base (gm K w ca Tb sa sn) "_law_right" [] 5 Dz) (d_law_any_text:Df P mg base (gm K w ca Tb sa sn) "_law_any_text" [] 3 Fj) (d_law_one:Df P mg base (gm K w ca Tb sa sn) "_law_one" [] 2 By) (m2_remove:Sm P mg base (gm K w ca Tb sa sn) "remove" 2 Gn) (put2:SpD2 P mg base (gm K w ca Tb sa sn) 3 Ia) :
  FnG P w K mg base (L2.CX P w) 7 f fd ["_law_script"] (Ec (gm K w ca Tb sa sn) 1 Tu) :=
 Pu (k:=6) (B:=Kj) (N:=Ts) (ps:=["_law_script"]) F An7 fun cdv A outer s H E =>
 (Cw (Ye (Mn m_range (Adr m_max (Ae Au (Ae (Ads m_min (Ae Au (Ae (Jj m_len (Ae (Ac (i:=0) rfl (.inl rfl)) Aj)) Aj))) Aj)))) (Ct (i:=1) rfl (.inl rfl))
  (Cw (Nn (Dh (i:=2) rfl (.inr rfl) (Co d_law_source (by decide) rfl (Ae (Ac (i:=0) rfl (.inl rfl)) (Ae (Ac (i:=1) rfl (.inl rfl)) Aj)))))
  (Cw (Nn (Dh (i:=3) rfl (.inl rfl) (Ar (Wa mk_House (by decide) rfl (Ae (Ya f_Chain_plain (by decide) rfl (Ae Cj Aj)) (Ae (Ya f_Chain_plain (by decide) rfl (Ae Cj Aj)) Aj))))))
  (Cw (Alr (i:=4) (j:=5) (l:=6) rfl rfl rfl rfl rfl rfl (Alk mk_Store (by decide) rfl (Ae (Ac (i:=3) rfl (.inl rfl)) Aj)) (Ae Adv (Ae (Ar (Ja (own:=[("_law_turn",7)]) (Mn m_range (En Au (Co d_law_pick (by decide) rfl (Ae (Ac (i:=2) rfl (.inr (.inl rfl))) (Ae Au Aj))))) (blkOk_by (own:=[("_law_turn",7)]) (N:=Ts) (sc:=defScope G8) (by decide +kernel)) (by decide) (fun _ _ _ _ _=>(Ct (i:=7) rfl (.inl rfl))) (fun _ _ _ _ _=>I9) (fun _ _ _ _ _=>(Co d_law_name (by decide) rfl (Ae (Ac (i:=2) rfl (by first | exact .inr (.inr rfl) | exact .inr (.inl rfl) | exact .inl rfl)) Aj))))) Aj)))
  (Cw (Np (Sh (VW.vt (D3 (Hb (Dg (Co d_law_right (by decide) rfl (Ae (Ac (i:=4) rfl (.inl rfl)) (Ae (Ac (i:=5) rfl (.inl rfl)) (Ae (Ac (i:=6) rfl (.inl rfl)) Aj)))))) (Ft (Aee eqd ned (by decide) (B1 (Ac (i:=4) rfl (.inl rfl))) (Ac (i:=3) rfl (.inl rfl)))))))
   (Eb (Aw (Bw D1)))
   (Eb C5))
  (P5 (Ye (Mn m_range (Co d_law_pick (by decide) rfl (Ae (Ac (i:=2) rfl (.inr (.inl rfl))) (Ae Au Aj)))) (Ct (i:=7) rfl (.inl rfl))
   (Cw (Nn (Adm (i:=8) (j:=9) rfl rfl rfl rfl (Ae (Ar (Co d_law_one (by decide) rfl (Ae (Ac (i:=2) rfl (.inr (.inl rfl))) (Ae (Ac (i:=6) rfl (.inl rfl)) Aj)))) (Ae (Ar (Co d_law_any_text (by decide) rfl (Ae (Ac (i:=2) rfl (.inr (.inl rfl))) Aj))) Aj))))
   (Cw (Np (Ak1 (VW.vt (Qw (vt_in (Ac (i:=8) rfl (.inl rfl)) (Ac (i:=5) rfl (.inl rfl))) (Qv (Dl c_eq (Co d_law_pick (by decide) rfl (Ae (Ac (i:=2) rfl (.inr (.inl rfl))) (Ae Au Aj))) Au)))))
    (Cw (Np (Aln c_isn (Ale m2_remove (by decide) (Ac (i:=4) rfl (.inl rfl)) (Ae (Ac (i:=8) rfl (.inl rfl)) Aj)) (Li Qr))
     (Eb (Aw (Bw D1)))
     (Eb C5))
    (Eb (Aw (Ol (Ala (i:=5) rfl (.inl rfl) (Ac (i:=8) rfl (.inl rfl)))))))
    (Cw (Ali put2 (by decide) (Ac (i:=4) rfl (.inl rfl)) (Ac (i:=8) rfl (.inl rfl)) (Ac (i:=9) rfl (.inl rfl)))
    (Eb (Aw (Ac1 (i:=5) rfl (.inl rfl) (Ac (i:=8) rfl (.inl rfl)) (Ac (i:=9) rfl (.inl rfl)))))))
   (P5 (Np (Sh (Hb (Dg (Co d_law_right (by decide) rfl (Ae (Ac (i:=4) rfl (.inl rfl)) (Ae (Ac (i:=5) rfl (.inl rfl)) (Ae (Ac (i:=6) rfl (.inl rfl)) Aj)))))))
    (Eb (Aw (Bw D1)))
    (Eb C5))))))))))))
 (Eb (Aw (Bw D1))))
def Qg:List Nat:=[39,45,65,66,67,68,69,70,71,72,73,74,75,76,77,78,79,80,81,82,83,84,85,86,87,88,89,90,97,98,99,100,101,102,103,104,105,106,107,108,109,110,111,112,113,114,115,116,117,118,119,120,121,122]
theorem Tv {α:Type} (l:List α) (i:Int) (h0:0≤i) (h1:i < l.length):∃ x∈l,atI l i = some x:=by
 have hlt:i.toNat < l.length:=by omega
 refine ⟨l[i.toNat],List.getElem_mem hlt,?_⟩
 unfold atI ixN
 rw [if_pos h0,if_pos h1]
 exact List.getElem?_eq_getElem hlt
theorem Aob (l:List Nat) (i:Int) (h0:0≤i) (h1:i < l.length) (hz:l.length≤100000):∃ x∈l,ixA (.str l) (.int i) = some (.val (.str [x])):=by
 obtain ⟨x,hx,e⟩:=Tv l i h0 h1
 refine ⟨x,hx,?_⟩
 show (match (if l.length≤sizeLine then (atI l i).map fun c=>Rv.val (D.str [c]) else none) with | some r=>some r | none=>_) = _
 rw [if_pos (by rw [sizeLine_eq]; omega),e]
 rfl
theorem Z7 (l:List Nat):D8 (l.map fun x=>.str [x]) = some (l.map fun x=>[x]):=by
 induction l with
 | nil=>rfl
 | cons a r ih=>simp [D8,ih]
theorem Z8 (l:List Nat):TL.joinL [] (l.map fun x=>[x]) = l:=by
 rw [U9]
 induction l with
 | nil=>rfl
 | cons a r ih=>simp [ih]
theorem Qn (l:List Nat):((l.map fun x=>[x]).map (·.length)).sum = l.length:=by
 induction l with
 | nil=>rfl
 | cons a r ih=>simp at ih ⊢; omega
def ones (l:List Nat):List (List Nat):=l.map fun c=>[c]
theorem Aoc (c:Nat) (cs:List Nat):Az inA false (.str [c]) (.str cs) = some (.val (.bl (decide (c∈cs)))):=rfl
theorem Z9 (cs:List Nat) (a:Sl):∀ l:List Nat,lcL (Am 2) (M.ret true) Tj [2] (l.map fun c=>.str [c]) [a,.sh (.str cs),.un] = .ok (l.map fun c=>.bl (decide (c∈cs))) [a,.sh (.str cs),.un]
 | []=>rfl
 | c :: l=>by
  rw [List.map_cons,Ni]
  simp_arith! [An1,Aoc,Z9 cs a l]
  rfl
theorem Aod {α:Type} (p:α→Bool) (l:List α):Ek (l.map fun c=>D.bl (p c)) = some (l.map p):=by
 induction l with
 | nil=>rfl
 | cons a r ih=>simp [Ek,ih]
theorem Aoe (l cs:List Nat) (hl:l.length≤100000):Kg [.sh (.str l),.sh (.str cs)] = .ok (.val (.bl (!decide (l = []) && l.all fun c=>decide (c∈cs)))) [.sh (.str l),.sh (.str cs)]:=by
 unfold Kg Tn
 have h1:Bx [.str l,.con (.ty "str")] = some (.val (.bl true)):=rfl
 have h2:decide ((l.map fun c=>D.bl (decide (c∈cs))).length≤sizeLine) = true:=decide_eq_true (by rw [sizeLine_eq,List.length_map]; omega)
 have h3:M0 [.lst (l.map fun c=>D.bl (decide (c∈cs)))] = some (.val (.bl (l.all fun c=>decide (c∈cs)))):=by
  show (Ek (l.map fun c=>D.bl (decide (c∈cs)))).map (fun bs=>Rv.val (.bl (bs.all id))) = _
  rw [Aod (fun c=>decide (c∈cs))]
  simp [Function.comp_def]
 cases ha:decide (l = [])
 ·simp_arith! [h1,ha,Z9 cs _ l,h2,h3]
 ·simp_arith! [h1,ha]
def fits (lo:Int) (hi:D) (n:Nat):Bool:=decide (lo≤(n:Int)) && (match hi with | .int h=>decide ((n:Int)≤h) | _=>true)
def Arg (s:Sl) (d:D):Prop:=s = .sh d∨s = .bo d
theorem Aaa (i:Int) (j:Nat) (h0:-1152921504606846976 < i) (h1:i < 1152921504606846976) (hj:j≤1000):F4 (.int i) (.int j) = some (.val (.int (i ^ j))):=by
 show (if 0≤(j:Int)∧(j:Int)≤1000∧-(2 ^ 60) < i∧i < 2 ^ 60 then some (.int (i ^ (j:Int).toNat)) else none:Option D).map Rv.val = _
 rw [if_pos ⟨by omega,by omega,by omega,by omega⟩]
 rfl
def IsSrc (n:Nat) (d:D):Prop:=∃ c b k,d = .lst [.int c,.int b,.int k]∧0≤b∧b < 2000000000000∧0≤k∧k≤n
theorem Aof (c b k m:Int) (h0:0 < m) (h1:m < 2 ^ 200) (b0:0≤b) (b1:b < 2000000000000) (k0:0≤k) (k1:k < 1000000000):∃ i c' k',0≤i∧i < m∧k≤k'∧k'≤k + 1 ∧
  Bc [.bo (.lst [.int c,.int b,.int k]),.sh (.int m)] = .ok (.val (.int i)) [.bo (.lst [.int c',.int b,.int k']),.sh (.int m)]:=by
 have e1:∀ c,0≤c % m:=fun c=>Int.emod_nonneg _ (by omega)
 have e2:∀ c,c % m < m:=fun c=>Int.emod_lt_of_pos _ h0
 have p1:=Aaa (b + 7368787 * (k + 1)) 2 (by omega) (by omega) (by omega)
 have m0:∀ x:Int,0≤x % 1000000000000037:=fun x=>Int.emod_nonneg _ (by omega)
 have m1:∀ x:Int,x % 1000000000000037 < 1000000000000037:=fun x=>Int.emod_lt_of_pos _ (by omega)
 have p2:∀ x:Int,F4 (.int (x % 1000000000000037 + 15485863 * (k + 1))) (.int 3) = some (.val (.int ((x % 1000000000000037 + 15485863 * (k + 1)) ^ 3))):=fun x=>Aaa _ 3 (by have:=m0 x; omega) (by have:=m1 x; omega) (by omega)
 have p1:F4 (.int (b + 7368787 * (k + 1))) (.int 2) = some (.val (.int ((b + 7368787 * (k + 1)) ^ 2))):=p1
 have q1:D7 (.int 7368787) (.int (k + 1)) = some (.val (.int (7368787 * (k + 1)))):=Po (by omega) (by omega)
 have q2:D7 (.int 15485863) (.int (k + 1)) = some (.val (.int (15485863 * (k + 1)))):=Po (by omega) (by omega)
 unfold Bc S3
 cases hc:decide (0 < c) <;> simp_arith! [hc,h0,p1,p2,q1,q2,Xu (i:=c) h0 h1]
 all_goals refine ⟨_,_,_,e1 _,e2 _,?_,?_,rfl⟩ <;> omega
theorem Kk (d:D) (n:Nat) (m:Int) (hd:IsSrc n d) (hn:n < 1000000) (h0:0 < m) (h1:m < 2 ^ 200):∃ i d',0≤i∧i < m∧IsSrc (n + 1) d'∧Bc [.bo d,.sh (.int m)] = .ok (.val (.int i)) [.bo d',.sh (.int m)]:=by
 obtain ⟨c,b,k,rfl,b0,b1,k0,k1⟩:=hd
 obtain ⟨i,c',k',i0,i1,k2,k3,e⟩:=Aof c b k m h0 h1 b0 b1 k0 (by omega)
 exact ⟨i,_,i0,i1,⟨c',b,k',rfl,b0,b1,by omega,by omega⟩,e⟩
theorem Aab (i:Int):Mz [.int i] = some (.val (.int i.natAbs)):=by
 have e:(if i < 0 then -i else i) = (i.natAbs:Int):=by split <;> omega
 show some (Rv.val (D.int (if i < 0 then -i else i))) = _
 rw [e]
theorem Aog (ns:List Int) (a:Int) (h0:0≤a) (h1:a < 1000):∃ d,IsSrc 0 d∧Gi [.sh (.scr ns),.sh (.int a)] = .ok (.fresh d) [.sh (.scr ns),.sh (.int a)]:=by
 have m0:∀ x:Int,0≤x % 1000000000039:=fun x=>Int.emod_nonneg _ (by omega)
 have m1:∀ x:Int,x % 1000000000039 < 1000000000039:=fun x=>Int.emod_lt_of_pos _ (by omega)
 have fin:∀ c x:Int,IsSrc 0 (.lst [.int c,.int (x % 1000000000039 + 11 * a + 5),.int 0]):=fun c x=>⟨c,_,0,rfl,by have:=m0 x; omega,by have:=m1 x; omega,by omega,by omega⟩
 have hm:D7 (.int 11) (.int a) = some (.val (.int (11 * a))):=Po (by omega) (by omega)
 unfold Gi Sv
 cases hk:decide (a < ns.length)
 ·simp_arith! [hk,hm,Aab]
  exact ⟨_,fin _ _,rfl⟩
 ·have hk:=of_decide_eq_true hk
  have hx:atI ns a = some (ns[a.toNat]'(by omega)):=by
   unfold atI ixN
   rw [if_pos h0,if_pos hk]
   simp
  cases hg:decide (1000000000000000000≤(↑(ns[a.toNat]'(by omega)).natAbs:Int)) <;> simp_arith! [decide_eq_true hk,hx,hm,hg,Aab]
  all_goals exact ⟨_,fin _ _,rfl⟩
theorem Aac (d:D) (n:Nat) (l:List Nat) (hd:IsSrc n d) (hn:n < 1000000) (hl:l≠[]) (hz:l.length≤100000):∃ x∈l,∃ d',IsSrc (n + 1) d'∧By [.bo d,.sh (.str l)] = .ok (.val (.str [x])) [.bo d',.sh (.str l)]:=by
 have hp:0 < l.length:=List.length_pos_iff.mpr hl
 obtain ⟨i,d',i0,i1,s',e⟩:=Kk d n l.length hd hn (by omega) (by omega)
 obtain ⟨x,hx,hi⟩:=Aob l i i0 i1 hz
 refine ⟨x,hx,d',s',?_⟩
 have hlen:Bl [.str l] = some (.val (.int l.length)):=Xw (by omega)
 unfold By N1
 simp_arith! [hlen,e,hi]
def sg (l:List Nat):List D:=l.map fun c=>.str [c]
theorem IsSrc.mono {n m:Nat} {d:D} (h:IsSrc n d) (hm:n≤m):IsSrc m d:=by
 obtain ⟨c,b,k,e,x1,x2,x3,x4⟩:=h
 exact ⟨c,b,k,e,x1,x2,x3,by omega⟩
def Aad:List Nat:=[32,33,34,35,36,38,39,40,41,42,43,44,45,46,47,48,49,50,51,52,53,54,55,56,57,58,59,60,61,62,63,64,65,66,67,68,69,70,71,72,73,74,75,76,77,78,79,80,81,82,83,84,85,86,87,88,89,90,91,92,93,94,95,96,97,98,99,100,101,102,103,104,105,106,107,108,109,110,111,112,113,114,115,116,117,118,119,120,121,122,123,124,125,126]
inductive IsVal:Nat→D→Prop
 | non (n:Nat):IsVal n .non
 | bl (n:Nat) (b:Bool):IsVal n (.bl b)
 | int (n:Nat) (i:Int) (h1:-(10 ^ 30)≤i) (h2:i≤10 ^ 30):IsVal n (.int i)
 | str (n:Nat) (l:List Nat) (h:l.length≤6) (hm:∀ x∈l,x∈Aad):IsVal n (.str l)
 | lst (n:Nat) (ds:List D) (h:ds.length≤3) (hd:∀ d∈ds,IsVal n d):IsVal (n + 1) (.lst ds)
 | tup (n:Nat) (ds:List D) (h:ds.length≤3) (hd:∀ d∈ds,IsVal n d):IsVal (n + 1) (.tup ds)
 | dct (n:Nat) (kvs:List (List Nat × D)) (h:kvs.length≤3) (hk:∀ p∈kvs,p.1.length≤2∧∀ x∈p.1,x∈Aad) (hd:∀ p∈kvs,IsVal n p.2) (nd:(kvs.map (·.1)).Nodup):IsVal (n + 1) (.dct kvs)
def Gave (r:Rv) (d:D):Prop:=r = .val d∨r = .fresh d
def Draws (n:Nat) (z:Int) (R:List Sl→Res Rv):Prop:=∀ c f r:Int,∃ (v:Rv) (d:D) (c' r':Int),Gave v d∧IsVal n d∧R [.bo (.lst [.int c,.int f,.int r]),.sh (.int z)] = .ok v [.bo (.lst [.int c',.int f,.int r']),.sh (.int z)]
def Aoh:D→Bool
 | .non=>true
 | .bl _=>true
 | .int _=>true
 | .str _=>true
 | .lst _=>true
 | .tup _=>true
 | .dct _=>true
 | _=>false
theorem IsVal.plain {n:Nat} {d:D} (h:IsVal n d):Aoh d = true:=by cases h <;> rfl
def isT:D→Bool
 | .str _=>true
 | _=>false
theorem Aoi (d:D) (n:Nat) (xs:List D) (hd:IsSrc n d) (hn:n < 1000000) (hl:xs≠[]) (hz:xs.length≤1000):∃ x∈xs,∃ d',IsSrc (n + 1) d'∧By [.bo d,.bo (.lst xs)] = .ok (.val x) [.bo d',.bo (.lst xs)]:=by
 have h0:0 < xs.length:=List.length_pos_iff.mpr hl
 obtain ⟨i,d',i0,i1,s1,e1⟩:=Kk d n (xs.length:Int) hd hn (by omega) (by omega)
 obtain ⟨x,hx,ex⟩:=Tv xs i i0 (by omega)
 have ln:Bl [.lst xs] = some (.val (.int (xs.length:Int))):=rfl
 have ix:ixA (.lst xs) (.int i) = some (.val x):=by
  show (match (atI xs i).map Rv.val with | some r=>some r | none=>_) = _
  rw [ex]
  rfl
 refine ⟨x,hx,d',s1,?_⟩
 unfold By N1
 simp_arith! [ln,e1,ix]
theorem Aoj (c:Nat) (cs:List Nat):Az inA true (.str [c]) (.str cs) = some (.val (.bl (!decide (c∈cs)))):=rfl
theorem Aok (p c:Nat):decide ([p] < [c]) = decide (p < c):=by
 by_cases h:p < c
 ·rw [decide_eq_true h]
  exact decide_eq_true (show List.Lex (·< ·) [p] [c] from List.Lex.rel h)
 ·rw [decide_eq_false h]
  refine decide_eq_false (fun z=>?_)
  have z:List.Lex (·< ·) [p] [c]:=z
  cases z with
  | rel q=>exact h q
  | cons q=>cases q
theorem Aol (l:List Nat) (n:Nat) (hn:0 < n) (hl:n≤l.length) (hz:l.length≤100000):ixA (.str l) (.int ((n:Int) - 1)) = some (.val (.str [l.getD (n - 1) 0])):=by
 have hlt:n - 1 < l.length:=by omega
 have e:atI l ((n:Int) - 1) = some (l.getD (n - 1) 0):=by
  unfold atI ixN
  rw [if_pos (by omega),if_pos (by omega)]
  show l[((n:Int) - 1).toNat]? = _
  rw [show ((n:Int) - 1).toNat = n - 1 by omega,List.getElem?_eq_getElem hlt,List.getD_eq_getElem?_getD,List.getElem?_eq_getElem hlt]
  rfl
 show (match (if l.length≤sizeLine then (atI l ((n:Int) - 1)).map fun c=>Rv.val (D.str [c]) else none) with | some r=>some r | none=>_) = _
 rw [if_pos (by rw [sizeLine_eq]; omega),e]
 rfl
theorem Aae (l:List Nat) (hz:l.length≤1000) (hc:∀ x∈l,x∈Qg) (up:∀ n,0 < n→n < l.length→l.getD (n - 1) 0 < l.getD n 0):∀ (rest:List Nat) (n:Nat) (x1 x2:Sl),n + rest.length = l.length→(∀ i,rest.getD i 0 = l.getD (n + i) 0)→(∀ x∈rest,x∈l)→A9 x1 = true→A9 x2 = true →
  ∃ x1' x2':Sl,Bh (Di 2 (Cs (Am 1) (Cs (Am 2) Hc))) Sw (B2 n (rest.map fun c=>.str [c])) [.sh (.str l),x1,x2] = .ok .nx [.sh (.str l),x1',x2']
 | [],n,x1,x2,_,_,_,_,_=>⟨x1,x2,rfl⟩
 | c :: rest,n,x1,x2,hl,hr,hm,h1,h2=>by
  rw [List.length_cons] at hl
  obtain ⟨y1,y2,ih⟩:=Aae l hz hc up rest (n + 1) (.sh (.int n)) (.sh (.str [c])) (by omega) (fun i=>by have:=hr (i + 1); rw [List.getD_cons_succ] at this; rw [this]; congr 1; omega) (fun x hx=>hm x (List.mem_cons_of_mem _ hx)) rfl rfl
  refine ⟨y1,y2,?_⟩
  rw [List.map_cons,B2,R3]
  have cC:Kv = Qg:=rfl
  have i:=Aoj c Qg
  rw [decide_eq_true (hc c (hm c List.mem_cons_self)),← cC] at i
  have e0:c = l.getD n 0:=by have:=hr 0; simpa using this
  by_cases n0:n = 0
  ·subst n0
   simp_arith! [Zd,h1,h2,i]
   exact ih
  ·have ix:=Aol l n (by omega) (by omega) (by omega)
   have g:decide ((0:Int) < n) = true:=decide_eq_true (by omega)
   have lc:=Aok (l.getD (n - 1) 0) c
   rw [decide_eq_true (show l.getD (n - 1) 0 < c by rw [e0]; exact up n (by omega) (by omega))] at lc
   simp_arith! [Zd,h1,h2,i,g,ix,lc,ih]
theorem Aom {l:List Nat} (up:l.Pairwise (·< ·)) (n:Nat) (h0:0 < n) (h1:n < l.length):l.getD (n - 1) 0 < l.getD n 0:=by
 rw [List.getD_eq_getElem?_getD,List.getD_eq_getElem?_getD,List.getElem?_eq_getElem (by omega),List.getElem?_eq_getElem h1]
 exact List.pairwise_iff_getElem.mp up (n - 1) n (by omega) h1 (by omega)
theorem Aon (l:List Nat) (h0:1≤l.length) (h1:l.length≤4) (up:l.Pairwise (·< ·)) (hc:∀ x∈l,x∈Qg):H6 [.sh (.str l)] = .ok (.val .non) [.sh (.str l)]:=by
 obtain ⟨x1,x2,lp⟩:=Aae l (by omega) hc (Aom up) l 0 .un .un (by omega) (fun i=>by rw [Nat.zero_add]) (fun x h=>h) rfl rfl
 have hi:Bx [.str l,.con (.ty "str")] = some (.val (.bl true)):=rfl
 have ln:Bl [.str l] = some (.val (.int l.length)):=Xw (by omega)
 have e1:decide ((0:Int) < l.length) = true:=decide_eq_true (by omega)
 have e2:decide ((l.length:Int)≤4) = true:=decide_eq_true (by omega)
 have es:∀ e,R1 (.val (.str l)) e = .ok (B2 0 (l.map fun c=>.str [c])) e:=fun e=>rfl
 unfold H6 Sx
 simp_arith! [hi,ln,e1,e2,es,lp]
theorem Aoo (l:List Nat):J9 [.sh (.tup []),.sh (.str l),.sh (.int 6)] = .ok (.val .non) [.sh (.tup []),.sh (.str l),.sh (.int 6)]:=by
 have es:∀ e,Bh (Di 2 (Cs (Am 5) (Cs (Am 6) Hc))) Ze (B2 0 []) e = .ok .nx e:=fun e=>rfl
 unfold J9 Sz
 simp_arith! [es,R6]
theorem N6 {A:M Rv} {e e1:Ve} {n:Nat} (h:n≤1000000) (hA:A e = .ok (.val (.int (n:Int))) e1):Ce A e = .ok (Bg 0 n) e1:=by
 have k:rngR (.val (.int (n:Int))) e1 = .ok (Bg 0 n) e1:=by
  rw [Xi,decide_eq_true (by omega)]
  rfl
 rw [Xj,hA,Xe,Xf,k]
theorem Aaf (n:Nat):Bg 0 n = ((List.range n).map fun i:Nat=>(0:Int) + (i:Int)).map D.int:=by
 unfold Bg
 rw [List.map_map]
 rfl
theorem Aop (k:Nat) (ns:List Int) (r:List Sl):∃ m:Nat,(1≤k→k≤1000→m≤k∧Ao K6 (Ab (fC (.int 1)) (Ab (Ao K7 (Ab (fC (.int (k:Int))) (Ab (Ao Bl (Ab (Aa 0) Ag)) Ag))) Ag)) (.sh (.scr ns) :: r) = .ok (.val (.int (m:Int))) (.sh (.scr ns) :: r)):=by
 refine ⟨max 1 (min k ns.length),fun h1 h2=>⟨by omega,?_⟩⟩
 have ln:Bl [.scr ns] = some (.val (.int (ns.length:Int))):=rfl
 have mn:K7 [.int (k:Int),.int (ns.length:Int)] = some (.val (.int ((min k ns.length:Nat):Int))):=by
  show some (Rv.val (D.int (if (ns.length:Int) < (k:Int) then (ns.length:Int) else (k:Int)))) = _
  congr 3
  split <;> omega
 have mx:K6 [.int 1,.int ((min k ns.length:Nat):Int)] = some (.val (.int ((max 1 (min k ns.length):Nat):Int))):=by
  show some (Rv.val (D.int (if ((min k ns.length:Nat):Int) > 1 then ((min k ns.length:Nat):Int) else 1))) = _
  congr 3
  split <;> omega
 generalize ((k:Nat):Int) = k0 at *
 simp_arith! [ln,mn,mx]
theorem Aoq (k:Nat) (h1:1≤k) (h2:k≤1000) (ns:List Int) (r:List Sl):∃ as:List Int,(∀ a∈as,0≤a∧a < 1000)∧Ce (Ao K6 (Ab (fC (.int 1)) (Ab (Ao K7 (Ab (fC (.int (k:Int))) (Ab (Ao Bl (Ab (Aa 0) Ag)) Ag))) Ag))) (.sh (.scr ns) :: r) = .ok (as.map .int) (.sh (.scr ns) :: r):=by
 obtain ⟨m,hm⟩:=Aop k ns r
 obtain ⟨m1,em⟩:=hm h1 h2
 refine ⟨(List.range m).map fun i:Nat=>(0:Int) + (i:Int),fun a ha=>?_,?_⟩
 ·obtain ⟨i,hi,rfl⟩:=List.mem_map.mp ha
  have:=List.mem_range.mp hi
  omega
 ·rw [← Aaf]
  exact N6 (by omega) em
def cAB:D:=.ins "Chain" [("letters",.str [97,98]),("steps",.tup []),("keep_places",.bl true),("front_steps",.tup []),("rows",.non),("back_steps",.tup [])]
abbrev D0:List (Str × D):=[("keep",cAB),("ask",cAB),("letters",.str [97,98])]
def hAB:D:=.ins "House" D0
theorem Aor:H6 [.sh (.str [97,98])] = .ok (.val .non) [.sh (.str [97,98])]:=Aon [97,98] (by decide) (by decide) (by decide) (by decide)
theorem Aos:Fe [.sh (.str [97,98])] = .ok (.fresh cAB) [.sh (.str [97,98])]:=by
 have c1:=Aor
 have c2:=Aoo [97,98]
 have cc:cs_Chain.contains "Chain" = true:=rfl
 have p1:Bp "letters" (D.str [97,98]) ([]:List (Str × D)) = ([("letters",D.str [97,98])]:List (Str × D)):=rfl
 have p2:Bp "steps" (D.tup []) ([("letters",D.str [97,98])]:List (Str × D)) = ([("letters",D.str [97,98]),("steps",D.tup [])]:List (Str × D)):=rfl
 have p3:Bp "keep_places" (D.bl true) ([("letters",D.str [97,98]),("steps",D.tup [])]:List (Str × D)) = ([("letters",D.str [97,98]),("steps",D.tup []),("keep_places",D.bl true)]:List (Str × D)):=rfl
 have k1:decide (([("letters",D.str [97,98])]:List (Str × D)).length < 1000) = true:=rfl
 have k2:decide (([("letters",D.str [97,98]),("steps",D.tup [])]:List (Str × D)).length < 1000) = true:=rfl
 have h3:∀ x y:Sl,Pt cs_Chain "front_steps" "rows" "back_steps" 0 (Ab (Ad (Ky Ag)) (Ab (fC .non) (Ab (Ad (Aa 3)) Ag))) [.bo (.ins "Chain" [("letters",.str [97,98]),("steps",.tup []),("keep_places",.bl true)]),.sh (.str [97,98]),.sh (.bl true),.sh (.tup []),x,y] = .ok .nx [.bo cAB,.sh (.str [97,98]),.sh (.bl true),.sh (.tup []),x,y]:=fun x y=>rfl
 have es:∀ e,Bh (Di 2 (Cs (Am 4) (Cs (Am 5) Hc))) Zg (B2 0 []) e = .ok .nx e:=fun e=>rfl
 have g:H7 [.bo (.ins "Chain" []),.sh (.str [97,98]),.sh (.bl true),.sh (.tup [])] = .ok (.val .non) [.bo cAB,.sh (.str [97,98]),.sh (.bl true),.sh (.tup [])]:=by
  unfold H7 S0
  simp_arith! [c1,c2,cc,p1,p2,p3,k1,k2,h3,es,R6]
  done
 have m:E9 2 0 [(.bl true)] H7 [.bo (.ins "Chain" []),.sh (.str [97,98])] = .ok (.val .non) [.bo cAB,.sh (.str [97,98])]:=by
  unfold E9
  rw [if_pos (by simp)]
  show (if ([]:List D).length - 0≤sizeLine then Pn 2 [Sl.bo (.ins "Chain" []),Sl.sh (.str [97,98])] (H7 [.bo (.ins "Chain" []),.sh (.str [97,98]),.sh (.bl true),.sh (.tup [])]) else .no) = _
  rw [if_pos (show ([]:List D).length - 0≤sizeLine from Nat.zero_le _),g]
  rfl
 clear c1 c2 g h3 es
 generalize cAB = cd at *
 unfold Fe S2
 generalize E9 2 0 [(.bl true)] H7 = SK at *
 simp_arith! [m]
theorem Aot:Hz [.bo (.ins "House" []),.bo cAB,.bo cAB] = .ok (.val .non) [.bo hAB,.bf cAB,.bf cAB]:=rfl
theorem heqAB:L3 [.sh hAB,.sh hAB] = .ok (.val (.bl true)) [.sh hAB,.sh hAB]:=rfl
def Ai {α:Type} (f:α→D) (E:List (List Nat × α)):List (List Nat × D):=E.map fun q=>(q.1,f q.2)
def Md {α:Type} (E:List (List Nat × α)) (n:List Nat) (a:α):List (List Nat × α):=if E.any (fun q=>decide (q.1 = n)) = true then E.map fun q=>if q.1 = n then (q.1,a) else q else E ++ [(n,a)]
def Qh {α:Type} (E:List (List Nat × α)) (n:List Nat):List (List Nat × α):=E.filter fun q=>decide (q.1≠n)
def Eg {α:Type} (E:List (List Nat × α)) (n:List Nat):Option α:=(E.find? fun q=>decide (q.1 = n)).map (·.2)
theorem Tw {α:Type} (f:α→D) (n:List Nat):∀ E:List (List Nat × α),(Ai f E).any (fun q=>decide (q.1 = n)) = E.any fun q=>decide (q.1 = n)
 | []=>rfl
 | q :: E=>by
  have ih:=Tw f n E
  unfold Ai at ih ⊢
  rw [List.map_cons,List.any_cons,List.any_cons,ih]
theorem Tx {α:Type} (f:α→D) (E:List (List Nat × α)) (n:List Nat) (a:α):Ca (Ai f E) n (f a) = Ai f (Md E n a):=by
 unfold Ca Md
 rw [Tw]
 split
 ·unfold Ai
  rw [List.map_map,List.map_map]
  refine List.map_congr_left fun q _=>?_
  show (if q.1 = n then (q.1,f a) else (q.1,f q.2)) = (fun q=>(q.1,f q.2)) (if q.1 = n then (q.1,a) else q)
  split <;> rfl
 ·unfold Ai
  rw [List.map_append]; rfl
theorem Tz {α:Type} (f:α→D) (n:List Nat):∀ E:List (List Nat × α),(Ai f E).filter (fun kv=>decide (kv.1≠n)) = Ai f (Qh E n)
 | []=>rfl
 | q :: E=>by
  have ih:=Tz f n E
  unfold Ai Qh at ih ⊢
  rw [List.map_cons,List.filter_cons,List.filter_cons]
  by_cases h:q.1 = n
  ·rw [if_neg (by simp [h]),if_neg (by simp [h])]
   exact ih
  ·rw [if_pos (by simpa using h),if_pos (by simpa using h),List.map_cons,ih]
theorem N7 {α:Type} (f:α→D) (n:List Nat):∀ E:List (List Nat × α),A4 (Ai f E) n = (Eg E n).map f
 | []=>rfl
 | q :: E=>by
  have ih:=N7 f n E
  unfold Ai A4 Eg at ih ⊢
  rw [List.map_cons,List.find?_cons,List.find?_cons]
  by_cases h:q.1 = n
  ·rw [decide_eq_true h]; rfl
  ·rw [decide_eq_false h]; exact ih
theorem T2 {α:Type} (f:α→D) (E:List (List Nat × α)):(Ai f E).map (·.1) = E.map (·.1):=by
 unfold Ai
 rw [List.map_map]; rfl
theorem Me {α:Type} (f:α→D) (E:List (List Nat × α)):(Ai f E).length = E.length:=by unfold Ai; rw [List.length_map]
theorem Aag {α:Type} (E:List (List Nat × α)) (n:List Nat) (a:α):(Md E n a).length≤E.length + 1:=by
 unfold Md
 split
 ·rw [List.length_map]; omega
 ·rw [List.length_append]; simp
theorem Aah {α:Type} (E:List (List Nat × α)) (n:List Nat):(Qh E n).length≤E.length:=List.length_filter_le _ _
theorem Aou {α:Type} {E:List (List Nat × α)} {n:List Nat} (h:n∈E.map (·.1)):∃ a,Eg E n = some a∧(n,a)∈E:=by
 induction E with
 | nil=>cases h
 | cons q E ih =>
  unfold Eg
  rw [List.find?_cons]
  by_cases e:q.1 = n
  ·rw [decide_eq_true e]
   exact ⟨q.2,rfl,by rw [← e]; exact List.mem_cons_self⟩
  ·rw [decide_eq_false e]
   rcases List.mem_cons.mp h with z | z
   ·exact absurd z.symm e
   ·obtain ⟨a,h1,h2⟩:=ih z
    exact ⟨a,h1,List.mem_cons_of_mem _ h2⟩
def Aq (h t:D) (nm:List (List Nat)):D:=.ins "Store" [("house",h),("texts",t),("names",.lst (nm.map D.str)),("is_shut",.bl false)]
def stG (hf:List (Str × D)) (b b2:Addr) (kvs:List (List Nat × D)) (nm:List (List Nat)) (γ:Gh):Gh:=(b,Aq (.ins "House" hf) (.con (.ref b2)) nm) :: (b2,.dct kvs) :: γ
section
variable {hf:List (Str × D)} {b b2:Addr} {kvs:List (List Nat × D)} {nm:List (List Nat)} {γ:Gh}
theorem Kl:(stG hf b b2 kvs nm γ).lookup b = some (Aq (.ins "House" hf) (.con (.ref b2)) nm):=by
 unfold stG
 rw [List.lookup_cons,beq_self_eq_true]
theorem T3 (h:b≠b2):(stG hf b b2 kvs nm γ).lookup b2 = some (.dct kvs):=by
 unfold stG
 rw [List.lookup_cons,beq_false_of_ne h.symm,List.lookup_cons,beq_self_eq_true]
theorem T4 (h:b≠b2):Ed (stG hf b b2 kvs nm γ) (.sh (.con (.ref b))) = .sh (Aq (.ins "House" hf) (.dct kvs) nm):=by
 show Sl.sh (match (stG hf b b2 kvs nm γ).lookup b with | some d=>proD (stG hf b b2 kvs nm γ) d | none=>.con (.ref b)) = _
 rw [Kl]
 show Sl.sh (.ins "Store" (Er (stG hf b b2 kvs nm γ) _)) = _
 unfold Er
 show Sl.sh (.ins "Store" (_ :: Er (stG hf b b2 kvs nm γ) _)) = _
 unfold Er
 show Sl.sh (.ins "Store" (_ :: (_,((stG hf b b2 kvs nm γ).lookup b2).getD _) :: _)) = _
 rw [T3 h]
 rfl
theorem T5 {x:Addr} {d:D}:∀ {γ:Gh},¬ InG γ x→Cq γ x d = γ
 | [],_=>rfl
 | q :: γ,n=>by
  have ih:=T5 (x:=x) (d:=d) (γ:=γ) fun ⟨u,m⟩=>n ⟨u,List.mem_cons_of_mem _ m⟩
  unfold Cq at ih ⊢
  rw [List.map_cons,ih,if_neg (fun e=>n ⟨q.2,by rw [← e]; exact List.mem_cons_self⟩)]
theorem Aai (h:b≠b2) (n2:¬ InG γ b2) (kvs':List (List Nat × D)):Cq (stG hf b b2 kvs nm γ) b2 (.dct kvs') = stG hf b b2 kvs' nm γ:=by
 have e:=T5 (d:=.dct kvs') n2
 unfold stG Cq at *
 rw [List.map_cons,List.map_cons,e,if_neg h,if_pos rfl]
theorem Aaj (h:b≠b2) (n1:¬ InG γ b) (nm':List (List Nat)):Cq (stG hf b b2 kvs nm γ) b (Aq (.ins "House" hf) (.con (.ref b2)) nm') = stG hf b b2 kvs nm' γ:=by
 have e:=T5 (d:=Aq (.ins "House" hf) (.con (.ref b2)) nm') n1
 unfold stG Cq at *
 rw [List.map_cons,List.map_cons,e,if_neg h.symm,if_pos rfl]
end
def Mf (n:List Nat):Prop:=n≠[]∧n.length≤12∧∀ c∈n,c∈Et
theorem Aov {n:List Nat} (h:Mf n):Kh [.sh (.str n)] = .ok (.val .non) [.sh (.str n)]:=by
 obtain ⟨h1,h2,h3⟩:=h
 have mk:=Aoe n Et (by omega)
 rw [decide_eq_false h1,List.all_eq_true.mpr fun c hc=>decide_eq_true (h3 c hc)] at mk
 have ln:Bl [.str n] = some (.val (.int (n.length:Int))):=if_pos (by rw [sizeLine_eq]; omega)
 have gt:gtD (.int (n.length:Int)) (.int 12) = some (.val (.bl false)):=by
  show some (Rv.val (.bl (decide ((12:Int) < n.length)))) = _
  rw [decide_eq_false (by omega)]
 unfold Kh To
 generalize Et = SM at *
 simp_arith! [mk,ln,gt]
theorem T6:∀ l:List (List Nat),ncs (l.map D.str) = true
 | []=>rfl
 | _ :: l=>T6 l
theorem Aak {d:D} {a:Sl}:∀ (e:Ve) (j:Nat),Cu [.val d] [a] j e = e
 | [],_=>rfl
 | s :: r,j=>by
  rw [Cu,Aak r (j + 1)]
  rfl
section
variable {hf:List (Str × D)} {b b2:Addr} (hb:b≠b2) {γ:Gh} (n1:¬ InG γ b) (n2:¬ InG γ b2)
theorem Aal (t:D) (nm:List (List Nat)) (r:Ve):Je H9 "check_open" (Aa 0) Ag (.sh (Aq (.ins "House" hf) t nm) :: r) = .ok (.val .non) (.sh (Aq (.ins "House" hf) t nm) :: r):=by
 have hT:H9 "Store" = some L6:=rfl
 have nf:∀ x y z w:D,(([("house",x),("texts",y),("names",z),("is_shut",w)]:List (Str × D)).lookup ("check_open" : Str)).isNone = true:=fun _ _ _ _=>rfl
 have fl:∀ x y z w:D,(([("house",x),("texts",y),("names",z),("is_shut",w)]:List (Str × D)).lookup ("is_shut" : Str)) = some w:=fun _ _ _ _=>rfl
 have eo:L6 [.sh (Aq (.ins "House" hf) t nm)] = .ok (.val .non) [.sh (Aq (.ins "House" hf) t nm)]:=by
  unfold L6 Tf Aq
  simp_arith! [fl]
 unfold Aq at *
 simp_arith! [hT,nf,eo,Aak]
include hb n1 n2
theorem Aow (kvs:List (List Nat × D)) (nm:List (List Nat)) (n t:List Nat) (hn:Mf n) (hk:kvs.length < 60) (hk2:(Ca kvs n (.str t)).length < 64) :
  Prm Ma [.sh (.con (.ref b)),.sh (.str n),.sh (.str t)] (stG hf b b2 kvs nm γ) (.val .non) (stG hf b b2 (Ca kvs n (.str t)) (Ax ((Ca kvs n (.str t)).map (·.1))) γ):=by
 intro Q k
 unfold Ma Cr
 refine ⟨rfl,?_⟩
 show L9 [.sh (.con (.ref b)),.sh (.str n),.sh (.str t)] _ _
 unfold L9
 have pe:∀ kvs,Bi (stG hf b b2 kvs nm γ) [.sh (.con (.ref b)),.sh (.str n),.sh (.str t)] = [.sh (Aq (.ins "House" hf) (.dct kvs) nm),.sh (.str n),.sh (.str t)]:=fun kvs=>by
  unfold Bi
  rw [List.map_cons,List.map_cons,List.map_cons,List.map_nil,T4 hb]
  rfl
 refine Dy (Yu (r:=.val .non) (e1:=[.sh (Aq (.ins "House" hf) (.dct kvs) nm),.sh (.str n),.sh (.str t)]) ?_ rfl rfl ?_)
 ·rw [pe]; exact Aal _ _ _
 show A7 _ _ [.sh (.con (.ref b)),.sh (.str n),.sh (.str t)] _ _
 refine Nz (e1:=[.sh (.con (.ref b)),.sh (.str n),.sh (.str t)]) ?_ ?_
 ·have cn:=Aov hn
  unfold Z1
  simp_arith! [cn]
 refine Dy (Als (f:="texts") (fs:=[("house",.ins "House" hf),("texts",.con (.ref b2)),("names",.lst (nm.map D.str)),("is_shut",.bl false)]) (e1:=[.sh (.con (.ref b)),.sh (.str n),.sh (.str t)]) (e2:=[.sh (.con (.ref b)),.sh (.str n),.sh (.str t)]) (e3:=[.sh (.con (.ref b)),.sh (.str n),.sh (.str t)]) (v:=.str t) (r:=.val (.con (.ref b))) (c:="Store") (b:=b2) (ix:=.str n) (d0:=.dct kvs) (d':=.dct (Ca kvs n (.str t))) rfl rfl ?_ rfl rfl (T3 hb) ?_ rfl ?_)
 ·show (stG hf b b2 kvs nm γ).lookup b = _
  exact Kl
 ·show (if kvs.length < sizeLine then some (D.dct (Ca kvs n (.str t))) else none) = _
  rw [if_pos (by rw [sizeLine_eq]; omega)]
 rw [Aai hb n2]
 show Hu _ _ _ _ [.sh (.con (.ref b)),.sh (.str n),.sh (.str t)] _ _
 refine Yx (b:=b) (d:=.lst ((Ax ((Ca kvs n (.str t)).map (·.1))).map D.str)) (e1:=[.sh (Aq (.ins "House" hf) (.dct (Ca kvs n (.str t))) nm),.sh (.str n),.sh (.str t)]) ?_ (T6 _) rfl rfl Kl (by decide) (by show 4 < 1000; omega) ?_
 ·rw [pe]
  have fl:∀ x y z w:D,(([("house",x),("texts",y),("names",z),("is_shut",w)]:List (Str × D)).lookup ("texts" : Str)) = some y:=fun _ _ _ _=>rfl
  have so:Ea [.dct (Ca kvs n (.str t))] = some (.fresh (.lst ((Ax ((Ca kvs n (.str t)).map (·.1))).map D.str))):=if_pos hk2
  unfold Aq
  simp_arith! [fl,so]
 ·show Q _ _ (Cq (stG hf b b2 (Ca kvs n (.str t)) nm γ) b (Aq (.ins "House" hf) (.con (.ref b2)) _))
  rw [Aaj hb n1]
  exact k
theorem Aox (kvs:List (List Nat × D)) (nm:List (List Nat)) (n:List Nat) (hi:kvs.any (fun kv=>decide (kv.1 = n)) = true) (hk:kvs.length < 60) :
  Prm L8 [.sh (.con (.ref b)),.sh (.str n)] (stG hf b b2 kvs nm γ) (.val .non) (stG hf b b2 (kvs.filter fun kv=>decide (kv.1≠n)) (Ax ((kvs.filter fun kv=>decide (kv.1≠n)).map (·.1))) γ):=by
 intro Q k
 unfold L8 Cr
 refine ⟨rfl,?_⟩
 show L7 [.sh (.con (.ref b)),.sh (.str n)] _ _
 unfold L7
 have pe:∀ kvs,Bi (stG hf b b2 kvs nm γ) [.sh (.con (.ref b)),.sh (.str n)] = [.sh (Aq (.ins "House" hf) (.dct kvs) nm),.sh (.str n)]:=fun kvs=>by
  unfold Bi
  rw [List.map_cons,List.map_cons,List.map_nil,T4 hb]
  rfl
 have fl:∀ x y z w:D,(([("house",x),("texts",y),("names",z),("is_shut",w)]:List (Str × D)).lookup ("texts" : Str)) = some y:=fun _ _ _ _=>rfl
 refine Dy (Yu (r:=.val .non) (e1:=[.sh (Aq (.ins "House" hf) (.dct kvs) nm),.sh (.str n)]) ?_ rfl rfl ?_)
 ·rw [pe]; exact Aal _ _ _
 show A7 _ _ [.sh (.con (.ref b)),.sh (.str n)] _ _
 refine Dy (Yv (b:=false) (e1:=[.sh (Aq (.ins "House" hf) (.dct kvs) nm),.sh (.str n)]) ?_ rfl ?_)
 ·rw [pe]
  have is:Bx [.str n,.con (.ty "str")] = some (.val (.bl true)):=rfl
  have gk:Az inA true (.str n) (.dct kvs) = some (.val (.bl false)):=by
   have g:(A4 kvs n).isSome = true:=by
    unfold A4
    rw [Option.isSome_map,List.find?_isSome]
    obtain ⟨q,hq,e⟩:=List.any_eq_true.mp hi
    exact ⟨q,hq,e⟩
   have i1:inA (.str n) (.dct kvs) = some (A4 kvs n).isSome:=by
    unfold inA inT
    cases n with
    | nil=>rfl
    | cons c r=>cases r <;> rfl
   unfold Az
   rw [i1,g]; rfl
  unfold Zy Aq
  simp_arith! [is,fl,gk]
 rw [if_neg Bool.false_ne_true]
 show Ap fNx [.sh (.con (.ref b)),.sh (.str n)] _ _
 refine Hx rfl ?_
 show A7 _ _ [.sh (.con (.ref b)),.sh (.str n)] _ _
 refine Dy (Alu (f:="texts") (fs:=[("house",.ins "House" hf),("texts",.con (.ref b2)),("names",.lst (nm.map D.str)),("is_shut",.bl false)]) (e2:=[.sh (.con (.ref b)),.sh (.str n)]) (e3:=[.sh (.con (.ref b)),.sh (.str n)]) (r:=.val (.con (.ref b))) (c:="Store") (b:=b2) (ix:=.str n) (d0:=.dct kvs) (d':=.dct (kvs.filter fun kv=>decide (kv.1≠n))) rfl ?_ rfl rfl (T3 hb) (if_pos hi) ?_)
 ·show (stG hf b b2 kvs nm γ).lookup b = _
  exact Kl
 rw [Aai hb n2]
 have lz:(kvs.filter fun kv=>decide (kv.1≠n)).length < 64:=Nat.lt_of_le_of_lt (List.length_filter_le _ _) (by omega)
 generalize (kvs.filter fun kv=>decide (kv.1≠n)) = kv2 at *
 show Hu _ _ _ _ [.sh (.con (.ref b)),.sh (.str n)] _ _
 refine Yx (b:=b) (d:=.lst ((Ax (kv2.map (·.1))).map D.str)) (e1:=[.sh (Aq (.ins "House" hf) (.dct kv2) nm),.sh (.str n)]) ?_ (T6 _) rfl rfl Kl (by decide) (by show 4 < 1000; omega) ?_
 ·rw [pe]
  have so:Ea [.dct kv2] = some (.fresh (.lst ((Ax (kv2.map (·.1))).map D.str))):=if_pos lz
  unfold Aq
  simp_arith! [fl,so]
 ·show Q _ _ (Cq (stG hf b b2 kv2 nm γ) b (Aq (.ins "House" hf) (.con (.ref b2)) _))
  rw [Aaj hb n1]
  exact k
end
theorem Aoy {α:Type} (f:α→D) (E:List (List Nat × α)) (n:List Nat) (a:α) (h:Eg E n = some a):ixA (.dct (Ai f E)) (.str n) = some (.val (f a)):=by
 show (match ixD (.dct (Ai f E)) (.str n) with | some r=>some r | none=>ixK (.dct (Ai f E)) (.str n)) = _
 show (A4 (Ai f E) n).map Rv.val = _
 rw [N7,h]; rfl
theorem Aoz {α:Type} (q:List Nat × α) (R:List (List Nat × α)) (m:List Nat):Eg (q :: R) m = if q.1 = m then some q.2 else Eg R m:=by
 unfold Eg
 rw [List.find?_cons]
 by_cases h:q.1 = m
 ·rw [decide_eq_true h,if_pos h]; rfl
 ·rw [decide_eq_false h,if_neg h]
theorem Aam {α:Type} (n:List Nat):∀ R:List (List Nat × α),(R.any fun q=>decide (q.1 = n)) = (Eg R n).isSome
 | []=>rfl
 | q :: R=>by
  rw [List.any_cons,Aoz,Aam n R]
  by_cases h:q.1 = n
  ·rw [decide_eq_true h,if_pos h]; rfl
  ·rw [decide_eq_false h,if_neg h]; rfl
theorem Ao0 (a b:List D) (h:a.length + b.length≤100000):Br (.lst a) (.lst b) = some (.fresh (.lst (a ++ b))):=by
 show (if a.length + b.length≤sizeLine then some (Rv.fresh (D.lst (a ++ b))) else none) = _
 rw [if_pos (by rw [sizeLine_eq]; omega)]
theorem Ao1 {α:Type} (f:α→D) (E:List (List Nat × α)):Dk (Ai f E) = (E.map (·.1)).map D.str:=by
 unfold Dk Ai
 rw [List.map_map,List.map_map]; rfl
theorem Ao2 (FO:List Sl→Res Rv) (SM:List Nat) (d d1:D) (x:Nat) (s1 s2:Sl) (hi:FO [.bo d,.sh (.str SM)] = .ok (.val (.str [x])) [.bo d1,.sh (.str SM)]):Ay FO (Ab (Aa 0) (Ab (fC (.str SM)) Ag)) [.bo d,s1,s2] = .ok (.val (.str [x])) [.bo d1,s1,s2]:=by
 simp_arith! [hi]
theorem Ao3 (EX:M Rv) (d d1 d2 y:D) (x:Nat) (s1:Sl) (ds ls:List D) (e:EX [.bo d,s1,.sh y] = .ok (.val (.str [x])) [.bo d1,s1,.sh y]) (hc:lcL (Am 2) (M.ret true) EX [2] ds [.bo d1,s1,.un] = .ok ls [.bo d2,s1,.un]) :
  lcL (Am 2) (M.ret true) EX [2] (y :: ds) [.bo d,s1,.un] = .ok (.str [x] :: ls) [.bo d2,s1,.un]:=by
 rw [Ni]
 simp_arith! [e,hc]
theorem Aan (s1:Sl):∀ (ds:List D) (d:D) (n:Nat),IsSrc n d→n + ds.length < 1000000→∃ (l:List Nat) (d':D),l.length = ds.length∧(∀ x∈l,x∈Et)∧IsSrc (n + ds.length) d' ∧
  lcL (Am 2) (M.ret true) N2 [2] ds [.bo d,s1,.un] = .ok (l.map fun x=>.str [x]) [.bo d',s1,.un]
 | [],d,n,h,_=>⟨[],d,rfl,(fun x hx=>nomatch hx),h,rfl⟩
 | y :: ds,d,n,h,hn=>by
  rw [List.length_cons] at hn
  obtain ⟨x,hx,d1,s2,hi⟩:=Aac d n Et h (by omega) (by decide) (by decide)
  obtain ⟨l,d',hl,hm,s2,hc⟩:=Aan s1 ds d1 (n + 1) s2 (by omega)
  refine ⟨x :: l,d',by simp [hl],fun z hz=>?_,by rw [List.length_cons,show n + (ds.length + 1) = n + 1 + ds.length by omega]; exact s2,?_⟩
  ·rcases List.mem_cons.mp hz with z | z
   ·rw [z]; exact hx
   ·exact hm _ z
  ·exact Ao3 N2 d d1 d' y x s1 ds _ (Ao2 By Et d d1 x s1 (.sh y) hi) hc
theorem Ao4 (FO:List Sl→Res Rv) (hO:By = FO) (SR:M (List D)) (hS:Ce (Aa 1) = SR) (EN:M Rv) (hE:N2 = EN) (d d1 d2 m t:D) (rs qs:List D) (e1:FO [.bo d,.bo (.lst [.int 1,.int 1,.int 2,.int 3,.int 12])] = .ok (.val m) [.bo d1,.bo (.lst [.int 1,.int 1,.int 2,.int 3,.int 12])])
  (rg:SR [.bo d1,.sh m,.un] = .ok rs [.bo d1,.sh m,.un]) (hc:lcL (Am 2) (M.ret true) EN [2] rs [.bo d1,.sh m,.un] = .ok qs [.bo d2,.sh m,.un]) (hsz:decide (qs.length≤sizeLine) = true) (hj:El (.str []) [.lst qs] = some (.val t)):Ff [.bo d] = .ok (.val t) [.bo d2]:=by
 have z5:∀ a b c d e:D,decide ([a,b,c,d,e].length≤sizeLine) = true:=fun a b c d e=>by rw [sizeLine_eq]; rfl
 unfold Ff S5
 rw [hO,hS,hE]
 clear hO hS hE
 simp_arith! [e1,z5,rg,hc,hsz,hj]
theorem Ao5 (d:D) (n:Nat) (hd:IsSrc n d) (hn:n < 900000):∃ (l:List Nat) (d':D),Mf l∧IsSrc (n + 13) d'∧Ff [.bo d] = .ok (.val (.str l)) [.bo d']:=by
 obtain ⟨x,hx,d1,s1,e1⟩:=Aoi d n [.int 1,.int 1,.int 2,.int 3,.int 12] hd (by omega) (by simp) (by simp)
 obtain ⟨m,rfl,m0,m1⟩:∃ m:Nat,x = .int (m:Int)∧1≤m∧m≤12:=by
  simp only [List.mem_cons,List.not_mem_nil,or_false] at hx
  rcases hx with rfl | rfl | rfl | rfl | rfl
  ·exact ⟨1,rfl,by omega,by omega⟩
  ·exact ⟨1,rfl,by omega,by omega⟩
  ·exact ⟨2,rfl,by omega,by omega⟩
  ·exact ⟨3,rfl,by omega,by omega⟩
  ·exact ⟨12,rfl,by omega,by omega⟩
 have hn1:(Bg 0 m).length = m:=by unfold Bg; rw [List.length_map,List.length_range]
 obtain ⟨l,d',hl,hm,s2,hc⟩:=Aan (.sh (.int (m:Int))) (Bg 0 m) d1 (n + 1) s1 (by omega)
 refine ⟨l,d',⟨fun z=>?_,by omega,hm⟩,s2.mono (by omega),?_⟩
 ·rw [z,hn1] at hl; simp at hl; omega
 have hj:El (.str []) [.lst (l.map fun x=>.str [x])] = some (.val (.str l)):=by
  show (match D8 (l.map fun x=>D.str [x]) with
   | some ls=>if (ls.map List.length).sum + ls.length * ([]:List Nat).length≤16777216 then some (Rv.val (.str (TL.joinL [] ls))) else none
   | none=>none) = _
  rw [Z7]
  simp only
  rw [Qn,if_pos (by simp; omega),Z8]
 have hsz:decide ((l.map fun x=>(D.str [x])).length≤sizeLine) = true:=decide_eq_true (by rw [sizeLine_eq,List.length_map]; omega)
 exact Ao4 By rfl _ rfl N2 rfl d d1 d' (.int (m:Int)) (.str l) (Bg 0 m) _ e1 (N6 (n:=m) (by omega) rfl) hc hsz hj
theorem IsSrc.nc {n:Nat} {d:D} (h:IsSrc n d):C0 d = true:=by
 obtain ⟨c,b,k,rfl,_⟩:=h
 rfl
def okX:Sl→Bool
 | .un=>true
 | .sh (.con (.ref _))=>false
 | .sh _=>true
 | _=>false
theorem Km {γ:Gh}:∀ {s:Sl},okX s = true→Ed γ s = s
 | .un,_=>rfl
 | .sh (.con (.ref _)),h=>nomatch h
 | .sh .non,_=>rfl
 | .sh (.bl _),_=>rfl
 | .sh (.int _),_=>rfl
 | .sh (.str _),_=>rfl
 | .sh (.lst _),_=>rfl
 | .sh (.tup _),_=>rfl
 | .sh (.dct _),_=>rfl
 | .sh (.set _),_=>rfl
 | .sh (.ins _ _),_=>rfl
 | .sh (.scr _),_=>rfl
 | .sh (.con .non),_=>rfl
 | .sh (.con (.bl _)),_=>rfl
 | .sh (.con (.int _)),_=>rfl
 | .sh (.con (.flt _)),_=>rfl
 | .sh (.con (.str _)),_=>rfl
 | .sh (.con (.byt _)),_=>rfl
 | .sh (.con (.ty _)),_=>rfl
theorem Kq {s t:Sl} (h:okX s = true):Jv s t = s:=by cases s <;> first | rfl | cases h
theorem Aao {s:Sl} (h:okX s = true):A9 s = true:=by cases s <;> first | rfl | cases h
theorem Kr {s t:Sl} {r r1:Ve} (h:okX s = true):Bv (s :: r) (t :: r1) = Bv r r1:=by cases s <;> first | rfl | cases h
theorem Ao6 {s t:Sl} {r r1:Ve}:B3 (s :: r) (t :: r1) = Jv s t :: B3 r r1:=rfl
theorem Ao7:B3 [] [] = []:=rfl
theorem Ao8 {a b:D} {r r1:Ve}:Bv (.ow a :: r) (.ow b :: r1) = (C0 b && Bv r r1):=rfl
theorem Ao9 {a:D} {t:Sl} {r r1:Ve}:Bv (.sh a :: r) (t :: r1) = Bv r r1:=rfl
theorem Apa:Bv [] [] = true:=rfl
theorem Apb {a:D} {t:Sl}:Jv (.sh a) t = .sh a:=rfl
theorem Apc {a:D} {t:Sl}:Jv (.ow a) t = t:=rfl
theorem Apd {A B:M Ctl} {e:Ve} {γ:Gh} {R:W2} {P:P2} (h:A7 (Ap (A6 A B)) R e γ P):A7 (Ap A) (A7 (Ap B) R) e γ P:=by
 unfold A7 Ap A6 M.bind at *
 cases q:A e with
 | no=>rw [q] at h; exact h
 | er x e'=>rw [q] at h; exact h
 | ok c e' =>
  rw [q] at h
  cases c with
  | nx=>exact h
  | _=>exact h
theorem Aap (ls:List (List Nat)):(Ax ls).length = ls.length:=by
 unfold Ax
 rw [List.length_map,U5,List.length_map]
theorem Qi (ng:Bool) (n:List Nat) (kvs:List (List Nat × D)):Az inA ng (.str n) (.dct kvs) = some (.val (.bl (if ng = true then !(A4 kvs n).isSome else (A4 kvs n).isSome))):=by
 have i1:inA (.str n) (.dct kvs) = some (A4 kvs n).isSome:=by
  unfold inA inT
  cases n with
  | nil=>rfl
  | cons c r=>cases r <;> rfl
 unfold Az
 rw [i1]; rfl
section
variable (hf:List (Str × D)) (kvs:List (List Nat × D)) (nm:List (List Nat))
theorem Ape (hz:nm.length≤1000):Kc [.sh (Aq (.ins "House" hf) (.dct kvs) nm)] = .ok (.val (.int (nm.length:Int))) [.sh (Aq (.ins "House" hf) (.dct kvs) nm)]:=by
 have f3:∀ x y z w:D,(([("house",x),("texts",y),("names",z),("is_shut",w)]:List (Str × D)).lookup ("names" : Str)) = some z:=fun _ _ _ _=>rfl
 have ln:Bl [.lst (nm.map D.str)] = some (.val (.int (nm.length:Int))):=by rw [Xv,List.length_map]
 unfold Kc S8 Aq
 generalize nm.map D.str = q at *
 simp_arith! [f3,ln]
theorem Apf (n t:List Nat) (hg:A4 kvs n = some (.str t)):Kd [.sh (Aq (.ins "House" hf) (.dct kvs) nm),.sh (.str n)] = .ok (.val (.str t)) [.sh (Aq (.ins "House" hf) (.dct kvs) nm),.sh (.str n)]:=by
 have f2:∀ x y z w:D,(([("house",x),("texts",y),("names",z),("is_shut",w)]:List (Str × D)).lookup ("texts" : Str)) = some y:=fun _ _ _ _=>rfl
 have i1:Bx [.str n,.con (.ty "str")] = some (.val (.bl true)):=rfl
 have i2:=Qi true n kvs
 rw [hg] at i2
 have i2:Az inA true (.str n) (.dct kvs) = some (.val (.bl false)):=i2
 have ix:ixA (.dct kvs) (.str n) = some (.val (.str t)):=by
  show (match ixD (.dct kvs) (.str n) with | some r=>some r | none=>ixK (.dct kvs) (.str n)) = _
  show (A4 kvs n).map Rv.val = _
  rw [hg]; rfl
 unfold Kd S9 Aq
 clear hg
 simp_arith! [f2,i1,i2,ix]
theorem Apg (n:List Nat):Fh [.sh (Aq (.ins "House" hf) (.dct kvs) nm),.sh (.str n)] = .ok (.val (.bl (A4 kvs n).isSome)) [.sh (Aq (.ins "House" hf) (.dct kvs) nm),.sh (.str n)]:=by
 have f2:∀ x y z w:D,(([("house",x),("texts",y),("names",z),("is_shut",w)]:List (Str × D)).lookup ("texts" : Str)) = some y:=fun _ _ _ _=>rfl
 have i1:Bx [.str n,.con (.ty "str")] = some (.val (.bl true)):=rfl
 have i2:Az inA false (.str n) (.dct kvs) = some (.val (.bl (A4 kvs n).isSome)):=Qi false n kvs
 unfold Fh Qa Aq
 generalize (A4 kvs n).isSome = b0 at *
 simp_arith! [f2,i1,i2]
theorem Aph (d:D) (i1:Bx [d,.con (.ty "str")] = some (.val (.bl false))):Fh [.sh (Aq (.ins "House" hf) (.dct kvs) nm),.sh d] = .ok (.val (.bl false)) [.sh (Aq (.ins "House" hf) (.dct kvs) nm),.sh d]:=by
 unfold Fh Qa Aq
 simp_arith! [i1]
end
theorem Api (EX:M Rv) (d d1 d2 y:D) (x:Nat) (s1:Sl) (ds ls:List D) (e:EX [.bo d,s1,.sh y] = .ok (.val (.str [x])) [.bo d1,s1,.sh y]) (hc:lcL (Am 2) (M.ret true) EX [2] ds [.bo d1,s1,.un] = .ok ls [.bo d2,s1,.un]) :
  lcL (Am 2) (M.ret true) EX [2] (y :: ds) [.bo d,s1,.un] = .ok (.str [x] :: ls) [.bo d2,s1,.un]:=by
 rw [Ni]
 simp_arith! [e,hc]
theorem Apj (FO:List Sl→Res Rv) (SM:List Nat) (d d1:D) (x:Nat) (s2:Sl) (hi:FO [.bo d,.sh (.str SM)] = .ok (.val (.str [x])) [.bo d1,.sh (.str SM)]):Ay FO (Ab (Aa 0) (Ab (Aa 1) Ag)) [.bo d,.sh (.str SM),s2] = .ok (.val (.str [x])) [.bo d1,.sh (.str SM),s2]:=by
 simp_arith! [hi]
theorem Aaq (SM:List Nat) (h0:SM≠[]) (hz:SM.length≤1000):∀ (ds:List D) (d:D) (n:Nat),IsSrc n d→n + ds.length < 1000000→∃ (l:List Nat) (d':D),l.length = ds.length∧IsSrc (n + ds.length) d' ∧
  lcL (Am 2) (M.ret true) N4 [2] ds [.bo d,.sh (.str SM),.un] = .ok (l.map fun x=>.str [x]) [.bo d',.sh (.str SM),.un]
 | [],d,n,h,_=>⟨[],d,rfl,h,rfl⟩
 | y :: ds,d,n,h,hn=>by
  rw [List.length_cons] at hn
  obtain ⟨x,hx,d1,s2,hi⟩:=Aac d n SM h (by omega) h0 (by omega)
  obtain ⟨l,d',hl,s2,hc⟩:=Aaq SM h0 hz ds d1 (n + 1) s2 (by omega)
  refine ⟨x :: l,d',by simp [hl],by rw [List.length_cons,show n + (ds.length + 1) = n + 1 + ds.length by omega]; exact s2,?_⟩
  exact Api N4 d d1 d' y x (.sh (.str SM)) ds _ (Apj By SM d d1 x (.sh y) hi) hc
theorem Apk (FP:List Sl→Res Rv) (hP:Bc = FP) (EN:M Rv) (hE:N4 = EN) (SM:List Nat) (hSM:SM = [32,10,33,34,35,36,38,39,40,41,42,43,44,45,46,47,48,49,50,51,52,53,54,55,56,57,58,59,60,61,62,63,64,91,92,93,94,95,96,123,124,125,126,65,66,67,68,69,70,71,72,73,74,75,76,77,78,79,80,81,82,83,84,85,86,87,88,89,90,97,98,99,100,101,102,103,104,105,106,107,108,109,110,111,112,113,114,115,116,117,118,119,120,121,122]) (SR:M (List D)) (hS:Ce (Ay FP (Ab (Aa 0) (Ab (fC (.int 31)) Ag))) = SR) (d d1 d2 t:D) (rs qs:List D)
  (rg:SR [.bo d,.sh (.str SM),.un] = .ok rs [.bo d1,.sh (.str SM),.un]) (hc:lcL (Am 2) (M.ret true) EN [2] rs [.bo d1,.sh (.str SM),.un] = .ok qs [.bo d2,.sh (.str SM),.un]) (hsz:decide (qs.length≤sizeLine) = true) (hj:El (.str []) [.lst qs] = some (.val t)):Fj [.bo d] = .ok (.val t) [.bo d2]:=by
 unfold Fj Te
 rw [hP,hS,hE,← hSM]
 clear hP hS hE hSM
 simp_arith! [rg,hc,hsz,hj]
theorem Apl (FP:List Sl→Res Rv) (d d1:D) (s1 s2:Sl) (i:Int) (e:FP [.bo d,.sh (.int 31)] = .ok (.val (.int i)) [.bo d1,.sh (.int 31)]):Ay FP (Ab (Aa 0) (Ab (fC (.int 31)) Ag)) [.bo d,s1,s2] = .ok (.val (.int i)) [.bo d1,s1,s2]:=by
 simp_arith! [e]
theorem Apm (d:D) (n:Nat) (hd:IsSrc n d) (hn:n < 900000):∃ (l:List Nat) (d':D),l.length≤30∧IsSrc (n + 40) d'∧Fj [.bo d] = .ok (.val (.str l)) [.bo d']:=by
 obtain ⟨i,d1,i0,i1,s1,e1⟩:=Kk d n 31 hd (by omega) (by omega) (by omega)
 have hn1:(Bg 0 i.toNat).length = i.toNat:=by unfold Bg; rw [List.length_map,List.length_range]
 obtain ⟨l,d',hl,s2,hc⟩:=Aaq (SM:=[32,10,33,34,35,36,38,39,40,41,42,43,44,45,46,47,48,49,50,51,52,53,54,55,56,57,58,59,60,61,62,63,64,91,92,93,94,95,96,123,124,125,126,65,66,67,68,69,70,71,72,73,74,75,76,77,78,79,80,81,82,83,84,85,86,87,88,89,90,97,98,99,100,101,102,103,104,105,106,107,108,109,110,111,112,113,114,115,116,117,118,119,120,121,122]) (by simp) (by simp) (Bg 0 i.toNat) d1 (n + 1) s1 (by omega)
 refine ⟨l,d',by omega,s2.mono (by omega),?_⟩
 have hj:El (.str []) [.lst (l.map fun x=>.str [x])] = some (.val (.str l)):=by
  show (match D8 (l.map fun x=>D.str [x]) with
   | some ls=>if (ls.map List.length).sum + ls.length * ([]:List Nat).length≤16777216 then some (Rv.val (.str (TL.joinL [] ls))) else none
   | none=>none) = _
  rw [Z7]
  simp only
  rw [Qn,if_pos (by simp; omega),Z8]
 have hsz:decide ((l.map fun x=>(D.str [x])).length≤sizeLine) = true:=decide_eq_true (by rw [sizeLine_eq,List.length_map]; omega)
 have rg:∀ s1 s2:Sl,Ce (Ay Bc (Ab (Aa 0) (Ab (fC (.int 31)) Ag))) [.bo d,s1,s2] = .ok (Bg 0 i.toNat) [.bo d1,s1,s2]:=fun s1 s2=>by
  refine N6 (n:=i.toNat) (by omega) ?_
  rw [show ((i.toNat:Nat):Int) = i by omega]
  exact Apl Bc d d1 s1 s2 i e1
 exact Apk Bc rfl N4 rfl _ rfl _ rfl d d1 d' (.str l) _ _ (rg _ _) hc hsz hj
theorem Apn (d:D) (n:Nat) (xs:List D) (hd:IsSrc n d) (hn:n < 1000000) (hl:xs≠[]) (hz:xs.length≤1000):∃ x∈xs,∃ d',IsSrc (n + 1) d'∧By [.bo d,.sh (.lst xs)] = .ok (.val x) [.bo d',.sh (.lst xs)]:=by
 have h0:0 < xs.length:=List.length_pos_iff.mpr hl
 obtain ⟨i,d',i0,i1,s1,e1⟩:=Kk d n (xs.length:Int) hd hn (by omega) (by omega)
 obtain ⟨x,hx,ex⟩:=Tv xs i i0 (by omega)
 have ln:Bl [.lst xs] = some (.val (.int (xs.length:Int))):=rfl
 have ix:ixA (.lst xs) (.int i) = some (.val x):=by
  show (match (atI xs i).map Rv.val with | some r=>some r | none=>_) = _
  rw [ex]
  rfl
 refine ⟨x,hx,d',s1,?_⟩
 unfold By N1
 generalize (xs.length:Int) = n0 at *
 generalize Bc = FP at *
 simp_arith! [ln,e1,ix]
theorem Apo (FG:List Sl→Res Rv) (hG:Kd = FG) (hf kv:List (Str × D)) (kvT:List (List Nat × D)) (n t:List Nat) (s2 x4:Sl)
  (ix:ixA (.dct kvT) (.str n) = some (.val (.str t))) (g:FG [.sh (.ins "Store" hf),.sh (.str n)] = .ok (.val (.str t)) [.sh (.ins "Store" hf),.sh (.str n)]) :
  Kf [.sh (.ins "Store" hf),.lo (.dct kvT),s2,.sh (.str n),x4] = .ok .nx [.sh (.ins "Store" hf),.lo (.dct kvT),s2,.sh (.str n),x4]:=by
 have hT:L5 "Store" = some FG:=by rw [← hG]; rfl
 have ne:neG (.str t) (.str t) = some (.val (.bl false)):=by rw [Xt,decide_eq_true rfl]; rfl
 have is:Bx [.str t,.con (.ty "str")] = some (.val (.bl true)):=rfl
 unfold Kf
 clear hG
 simp_arith! [Akq,Akp,hT,g,Akr,ix,ne,is]
theorem Aar (FC:List Sl→Res Rv) (hC:Fh = FC) (hf:List (Str × D)) (kvT:List (List Nat × D)) (d:D) (b:Bool) (s2 x4:Sl) (g4:A9 x4 = true)
  (h:(∃ n,d = .str n∧b = (A4 kvT n).isSome)∨(Bx [d,.con (.ty "str")] = some (.val (.bl false))∧b = false))
  (g:FC [.sh (.ins "Store" hf),.sh d] = .ok (.val (.bl b)) [.sh (.ins "Store" hf),.sh d]) :
  H8 [.sh (.ins "Store" hf),.bo (.dct kvT),s2,.sh d,x4] = .ok .nx [.sh (.ins "Store" hf),.bo (.dct kvT),s2,.sh d,.sh (.bl b)]:=by
 have hT:Ke "Store" = some FC:=by rw [← hC]; rfl
 have ne:neG (.bl b) (.bl b) = some (.val (.bl false)):=by cases b <;> rfl
 clear hC
 have q:∀ e:Ve,Jm Ke false (Aa 3) (Aa 0) [.sh (.ins "Store" hf),.bo (.dct kvT),s2,.sh d,.sh (.bl b)] = .ok (.val (.bl b)) [.sh (.ins "Store" hf),.bo (.dct kvT),s2,.sh d,.sh (.bl b)]:=fun e=>by
  simp_arith! [Akj,Aki,hT,g,Akk]
 have q:=q []
 unfold H8
 generalize Jm Ke false (Aa 3) (Aa 0) = FI at *
 rcases h with ⟨n,rfl,hb⟩ | ⟨is,hb⟩
 ·have is:Bx [.str n,.con (.ty "str")] = some (.val (.bl true)):=rfl
  have i2:Az inA false (.str n) (.dct kvT) = some (.val (.bl (A4 kvT n).isSome)):=Qi false n kvT
  rw [← hb] at i2
  simp_arith! [is,i2,g4,q,ne]
 ·subst hb
  simp_arith! [is,g4,q,ne]
theorem Aas (s0 s1 s2 x4:Sl):∀ ds:List D,lcL (Am 3) (M.ret true) (Aa 3) [3] ds [s0,s1,s2,.un,x4] = .ok ds [s0,s1,s2,.un,x4]
 | []=>rfl
 | d :: ds=>by
  have ih:=Aas s0 s1 s2 x4 ds
  rw [Ni]
  simp_arith! [ih]
abbrev otherD:List D:=[.str [],.str [65],.str [110,111,116,101,120,116,97,116,97,108,108],.int 0,.non,.bl true,.lst [.str [97]],.tup [.str [97]],.str [32,97],.dct [([97],.int 1)]]
theorem Apq:∀ d∈otherD,(∃ n,d = .str n)∨Bx [d,.con (.ty "str")] = some (.val (.bl false)):=by
 intro d hd
 simp only [otherD,List.mem_cons,List.not_mem_nil,or_false] at hd
 rcases hd with rfl | rfl | rfl | rfl | rfl | rfl | rfl | rfl | rfl | rfl
 ·exact .inl ⟨_,rfl⟩
 ·exact .inl ⟨_,rfl⟩
 ·exact .inl ⟨_,rfl⟩
 ·exact .inr rfl
 ·exact .inr rfl
 ·exact .inr rfl
 ·exact .inr rfl
 ·exact .inr rfl
 ·exact .inl ⟨_,rfl⟩
 ·exact .inr rfl
theorem Apr (FL:List Sl→Res Rv) (hL:Kc = FL) (hf:List (Str × D)) (kvT:List (List Nat × D)) (ks nm all:List D) (ln nl:Nat) (nms:List D) (y3 y4:Sl) (f3:hf.lookup ("names" : Str) = some (.lst nm))
  (el:FL [.sh (.ins "Store" hf)] = .ok (.val (.int (ln:Int))) [.sh (.ins "Store" hf)]) (lz:ln≤1000) (ld:Bl [.dct kvT] = some (.val (.int (ln:Int)))) (so:Ea [.dct kvT] = some (.fresh (.lst nm))) (ne:neG (.lst nm) (.lst nm) = some (.val (.bl false)))
  (ky:Dk kvT = ks) (lc:∀ e1,lcL (Am 3) (M.ret true) (Aa 3) [3] nm [.sh (.ins "Store" hf),.bo (.dct kvT),.sh (.lst nms),.un,e1] = .ok nm [.sh (.ins "Store" hf),.bo (.dct kvT),.sh (.lst nms),.un,e1]) (sz:decide (nm.length≤sizeLine) = true)
  (l1:Bh (Am 3) Kf ks [.sh (.ins "Store" hf),.lo (.dct kvT),.sh (.lst nms),.un,.un] = .ok .nx [.sh (.ins "Store" hf),.lo (.dct kvT),.sh (.lst nms),y3,.un])
  (ad:Br (.lst nms) (.lst otherD) = some (.fresh (.lst all))) (y5 y6:Sl)
  (l2:Bh (Am 3) H8 all [.sh (.ins "Store" hf),.bo (.dct kvT),.sh (.lst nms),y3,.un] = .ok .nx [.sh (.ins "Store" hf),.bo (.dct kvT),.sh (.lst nms),y5,y6]) :
  Dz [.sh (.ins "Store" hf),.bo (.dct kvT),.sh (.lst nms)] = .ok (.val (.bl true)) [.sh (.ins "Store" hf),.bo (.dct kvT),.sh (.lst nms)]:=by
 have hTl:L4 "Store" = some FL:=by rw [← hL]; rfl
 have hTi:Fg "Store" = some ("names" : Str):=rfl
 have lro:=fun (e:Ve)=>Akh (n:=ln) (e:=e) (by omega)
 have lso:=fun (e:Ve)=>Ako (n:=ln) (ds:=nm) (e:=e) (by omega)
 have n1:neG (.int (ln:Int)) (.int (ln:Int)) = some (.val (.bl false)):=by
  show some (Rv.val (D.bl (!((ln:Int) == (ln:Int))))) = _
  rw [beq_self_eq_true]; rfl
 have its:Ee Fg (.ins "Store" hf) = some nm:=Amo hTi f3
 have it:Fu (.lst all) = some all:=rfl
 have z1:∀ a:D,decide ([a].length≤sizeLine) = true:=fun a=>by rw [sizeLine_eq]; rfl
 have z10:∀ a b c d e f g h i j:D,decide ([a,b,c,d,e,f,g,h,i,j].length≤sizeLine) = true:=fun a b c d e f g h i j=>by rw [sizeLine_eq]; rfl
 have dp:∀ e:Ve,Ad (Ld (Nf (fC (.str [97])) (fC (.int 1)) Nd)) e = .ok (.val (.dct [([97],.int 1)])) e:=fun e=>rfl
 clear hL
 unfold otherD at ad
 unfold Dz Tc
 generalize Kf = L1 at *
 generalize H8 = L2 at *
 generalize Ad (Ld (Nf (fC (.str [97])) (fC (.int 1)) Nd)) = FD at *
 generalize (ln:Int) = n0 at *
 simp_arith! [Akg,Akf,hTl,el,lro,ld,n1,Aml,Amk,hTi,f3,Amj,lso,so,ne,Amn,Amm,its,lc,sz,Pe,lkE,Jf,okR,ky,l1,z1,z10,dp,ad,it,l2]
theorem Aat (hf:List (Str × D)) (E:List (List Nat × List Nat)) (hE:E.length≤30) (nms:List (List Nat)) (hn:nms.length≤10) :
  Dz [.sh (Aq (.ins "House" hf) (.dct (Ai D.str E)) (Ax (E.map (·.1)))),.bo (.dct (Ai D.str E)),.sh (.lst (nms.map D.str))] = .ok (.val (.bl true)) [.sh (Aq (.ins "House" hf) (.dct (Ai D.str E)) (Ax (E.map (·.1)))),.bo (.dct (Ai D.str E)),.sh (.lst (nms.map D.str))]:=by
 have nl:(Ax (E.map (·.1))).length = E.length:=by rw [Aap,List.length_map]
 have el:=Ape hf (Ai D.str E) (Ax (E.map (·.1))) (by omega)
 have so:Ea [.dct (Ai D.str E)] = some (.fresh (.lst ((Ax (E.map (·.1))).map D.str))):=by
  show (if (Ai D.str E).length < 64 then some (Rv.fresh (.lst ((Ax ((Ai D.str E).map (·.1))).map D.str))) else none) = _
  rw [if_pos (by rw [Me]; omega),T2]
 have ld:Bl [.dct (Ai D.str E)] = some (.val (.int ((Ax (E.map (·.1))).length:Int))):=by
  rw [nl,← Me D.str E]; rfl
 have l1:∀ (ns:List (List Nat)) (x3:Sl),A9 x3 = true→(∀ n∈ns,n∈E.map (·.1))→∃ y3,A9 y3 = true∧Bh (Am 3) Kf (ns.map D.str) [.sh (Aq (.ins "House" hf) (.dct (Ai D.str E)) (Ax (E.map (·.1)))),.lo (.dct (Ai D.str E)),.sh (.lst (nms.map D.str)),x3,.un] = .ok .nx [.sh (Aq (.ins "House" hf) (.dct (Ai D.str E)) (Ax (E.map (·.1)))),.lo (.dct (Ai D.str E)),.sh (.lst (nms.map D.str)),y3,.un]:=by
  intro ns
  induction ns with
  | nil=>exact fun x3 g _=>⟨x3,g,rfl⟩
  | cons n ns ih =>
   intro x3 g hns
   obtain ⟨y3,gy,ih⟩:=ih (.sh (.str n)) rfl fun x hx=>hns x (List.mem_cons_of_mem _ hx)
   obtain ⟨a,ga,_⟩:=Aou (hns n List.mem_cons_self)
   have gk:A4 (Ai D.str E) n = some (.str a):=by rw [N7,ga]; rfl
   have sg:=Apf hf (Ai D.str E) (Ax (E.map (·.1))) n a gk
   have st:=Apo Kd rfl [("house",.ins "House" hf),("texts",.dct (Ai D.str E)),("names",.lst ((Ax (E.map fun q:List Nat × List Nat=>q.1)).map D.str)),("is_shut",.bl false)] [] (Ai D.str E) n a (.sh (.lst (nms.map D.str))) .un (Aoy D.str E n a ga) sg
   refine ⟨y3,gy,?_⟩
   unfold Aq at *
   rw [List.map_cons]
   generalize Kf = LR at *
   simp_arith! [R3,g,st,ih]
 have l2:∀ (ds:List D) (x3 x4:Sl),A9 x3 = true→A9 x4 = true→(∀ d∈ds,(∃ n,d = .str n)∨Bx [d,.con (.ty "str")] = some (.val (.bl false)))→∃ y3 y4,Bh (Am 3) H8 ds [.sh (Aq (.ins "House" hf) (.dct (Ai D.str E)) (Ax (E.map (·.1)))),.bo (.dct (Ai D.str E)),.sh (.lst (nms.map D.str)),x3,x4] = .ok .nx [.sh (Aq (.ins "House" hf) (.dct (Ai D.str E)) (Ax (E.map (·.1)))),.bo (.dct (Ai D.str E)),.sh (.lst (nms.map D.str)),y3,y4]:=by
  intro ds
  induction ds with
  | nil=>exact fun x3 x4 _ _ _=>⟨x3,x4,rfl⟩
  | cons d ds ih =>
   intro x3 x4 g3 g4 hds
   have step:∃ b,H8 [.sh (Aq (.ins "House" hf) (.dct (Ai D.str E)) (Ax (E.map (·.1)))),.bo (.dct (Ai D.str E)),.sh (.lst (nms.map D.str)),.sh d,x4] = .ok .nx [.sh (Aq (.ins "House" hf) (.dct (Ai D.str E)) (Ax (E.map (·.1)))),.bo (.dct (Ai D.str E)),.sh (.lst (nms.map D.str)),.sh d,.sh (.bl b)]:=by
    rcases hds d List.mem_cons_self with ⟨n,rfl⟩ | is
    ·have sh:=Apg hf (Ai D.str E) (Ax (E.map (·.1))) n
     exact ⟨_,Aar Fh rfl [("house",.ins "House" hf),("texts",.dct (Ai D.str E)),("names",.lst ((Ax (E.map fun q:List Nat × List Nat=>q.1)).map D.str)),("is_shut",.bl false)] (Ai D.str E) (.str n) _ _ x4 g4 (.inl ⟨n,rfl,rfl⟩) sh⟩
    ·have sh:=Aph hf (Ai D.str E) (Ax (E.map (·.1))) d is
     exact ⟨_,Aar Fh rfl [("house",.ins "House" hf),("texts",.dct (Ai D.str E)),("names",.lst ((Ax (E.map fun q:List Nat × List Nat=>q.1)).map D.str)),("is_shut",.bl false)] (Ai D.str E) d false _ x4 g4 (.inr ⟨is,rfl⟩) sh⟩
   obtain ⟨b,st⟩:=step
   obtain ⟨y3,y4,ih⟩:=ih (.sh d) (.sh (.bl b)) rfl rfl fun x hx=>hds x (List.mem_cons_of_mem _ hx)
   refine ⟨y3,y4,?_⟩
   unfold Aq at *
   generalize H8 = LR at *
   simp_arith! [R3,g3,st,ih]
 obtain ⟨y3,g3,l1⟩:=l1 (E.map (·.1)) .un rfl fun n h=>h
 obtain ⟨y5,y6,l2⟩:=l2 (nms.map D.str ++ otherD) y3 .un g3 rfl fun d hd=>by
  rcases List.mem_append.mp hd with z | z
  ·obtain ⟨n,_,rfl⟩:=List.mem_map.mp z
   exact .inl ⟨n,rfl⟩
  ·exact Apq d z
 have ol:otherD.length = 10:=rfl
 have ad:=Ao0 (nms.map D.str) otherD (by rw [List.length_map]; omega)
 have ne:neG (.lst ((Ax (E.map (·.1))).map D.str)) (.lst ((Ax (E.map (·.1))).map D.str)) = some (.val (.bl false)):=by rw [Ahx,decide_eq_true rfl]; rfl
 exact Apr Kc rfl [("house",.ins "House" hf),("texts",.dct (Ai D.str E)),("names",.lst ((Ax (E.map fun q:List Nat × List Nat=>q.1)).map D.str)),("is_shut",.bl false)] (Ai D.str E) ((E.map fun q:List Nat × List Nat=>q.1).map D.str) ((Ax (E.map fun q:List Nat × List Nat=>q.1)).map D.str) (nms.map D.str ++ otherD) (Ax (E.map fun q:List Nat × List Nat=>q.1)).length 0 (nms.map D.str) y3 .un rfl el (by omega) ld so ne (Ao1 D.str E) (fun e1=>Aas _ _ _ e1 _) (decide_eq_true (by rw [sizeLine_eq,List.length_map]; omega)) l1 ad y5 y6 l2
theorem Aau {hf:List (Str × D)} {b b2:Addr} {kvs kv:List (List Nat × D)} {nm:List (List Nat)} {γ:Gh} (hb:b≠b2) (Q:M Bool) (C:W2) (s0 s1 s3 s6 s7 s8 s9:Sl) (g0:okX s0 = true) (g1:okX s1 = true) (g3:okX s3 = true) (g6:okX s6 = true) (g7:okX s7 = true) (g8:okX s8 = true) (g9:okX s9 = true) (d:D) (nd:C0 d = true) (nk:C0 (.dct kv) = true)
  (h:Q [s0,s1,.ow d,s3,.sh (Aq (.ins "House" hf) (.dct kvs) nm),.ow (.dct kv),s6,s7,s8,s9] = .ok false [s0,s1,.ow d,s3,.sh (Aq (.ins "House" hf) (.dct kvs) nm),.ow (.dct kv),s6,s7,s8,s9])
  {P:P2} (k:P (.c .nx) [s0,s1,.ow d,s3,.sh (.con (.ref b)),.ow (.dct kv),s6,s7,s8,s9] (stG hf b b2 kvs nm γ)) :
  if2 (rdT Q) C (Ap fNx) [s0,s1,.ow d,s3,.sh (.con (.ref b)),.ow (.dct kv),s6,s7,s8,s9] (stG hf b b2 kvs nm γ) P:=by
 have pe:Bi (stG hf b b2 kvs nm γ) [s0,s1,.ow d,s3,.sh (.con (.ref b)),.ow (.dct kv),s6,s7,s8,s9] = [s0,s1,.ow d,s3,.sh (Aq (.ins "House" hf) (.dct kvs) nm),.ow (.dct kv),s6,s7,s8,s9]:=by
  unfold Bi
  simp only [List.map_cons,List.map_nil,T4 hb,Km g0,Km g1,Km g3,Km g6,Km g7,Km g8,Km g9]
  rfl
 refine Yv (by rw [pe]; exact h) ?_ ?_
 ·simp only [Kr g0,Kr g1,Ao8,Kr g3,Ao9,Kr g6,Kr g7,Kr g8,Kr g9,Apa,nd,nk,Bool.and_true]
 ·rw [if_neg Bool.false_ne_true]
  simp only [Ao6,Ao7,Kq g0,Kq g1,Apc,Kq g3,Apb,Kq g6,Kq g7,Kq g8,Kq g9]
  exact Hx rfl k
theorem Aav:∀ E:List (List Nat × List Nat),((Ai D.str E).all fun q=>nc q.2) = true
 | []=>rfl
 | q :: E=>by
  have ih:=Aav E
  unfold Ai at ih ⊢
  rw [List.map_cons,List.all_cons,ih,Bool.and_true]
  rfl
theorem Aps (f:Res Rv→Res Rv) (e:Ve):eqR Gk De f (.val hAB) (.val hAB) e = f (.ok (.val (.bl true)) e):=by
 have z:=heqAB
 have hT:Gk "House" = some L3:=rfl
 have o:E8 De hAB = true:=rfl
 have cb:A5 L3 [.val hAB,.val hAB] e = .ok (.val (.bl true)) e:=by
  have b2:∀ (j:Nat) (e:Ve),Cu [.val hAB,.val hAB] [.sh hAB,.sh hAB] j e = e:=fun j e=>by
   induction e generalizing j with
   | nil=>rfl
   | cons s r ih =>
    show s :: Cu _ _ (j + 1) r = _
    rw [ih (j + 1)]
  clear o hT
  generalize hAB = hd at *
  simp_arith! [z]
  rw [b2]
 unfold hAB at *
 rw [Ajt hT o,cb]
theorem Apt (FR:List Sl→Res Rv) (hR:Dz = FR) (sf:List (Str × D)) (d:D) (kv:List (List Nat × D)) (nms:List D) (s0 s1 s7 s8 s9:Sl) (fl:sf.lookup ("house" : Str) = some hAB)
  (r:FR [.sh (.ins "Store" sf),.bo (.dct kv),.sh (.lst nms)] = .ok (.val (.bl true)) [.sh (.ins "Store" sf),.bo (.dct kv),.sh (.lst nms)]) :
  N5 [s0,s1,.ow d,.sh hAB,.sh (.ins "Store" sf),.ow (.dct kv),.sh (.lst nms),s7,s8,s9] = .ok false [s0,s1,.ow d,.sh hAB,.sh (.ins "Store" sf),.ow (.dct kv),.sh (.lst nms),s7,s8,s9]:=by
 have q:=Aps
 unfold N5
 rw [hR]
 clear hR
 generalize hAB = hd at *
 simp_arith! [r,Xy,fl,q,Xz]
theorem Apu (FR:List Sl→Res Rv) (hR:Dz = FR) (sf:List (Str × D)) (d:D) (kv:List (List Nat × D)) (nms:List D) (s0 s1 s3 s7 s8 s9:Sl)
  (r:FR [.sh (.ins "Store" sf),.bo (.dct kv),.sh (.lst nms)] = .ok (.val (.bl true)) [.sh (.ins "Store" sf),.bo (.dct kv),.sh (.lst nms)]) :
  Mb [s0,s1,.ow d,s3,.sh (.ins "Store" sf),.ow (.dct kv),.sh (.lst nms),s7,s8,s9] = .ok false [s0,s1,.ow d,s3,.sh (.ins "Store" sf),.ow (.dct kv),.sh (.lst nms),s7,s8,s9]:=by
 unfold Mb
 rw [hR]
 clear hR
 simp_arith! [r]
theorem Apv (FS FH FP:List Sl→Res Rv) (hS:Gi = FS) (hH:Hz = FH) (hP:Fe = FP) (ns:List Int) (a:Int) (d0:D) (x2 x3 x4 x5 x6 x7 x8 x9:Sl) (g2:A9 x2 = true) (g3:A9 x3 = true)
  (e0:FS [.sh (.scr ns),.sh (.int a)] = .ok (.fresh d0) [.sh (.scr ns),.sh (.int a)]) (e1:FP [.sh (.str [97,98])] = .ok (.fresh cAB) [.sh (.str [97,98])]) (e2:FH [.bo (.ins "House" []),.bo cAB,.bo cAB] = .ok (.val .non) [.bo hAB,.bf cAB,.bf cAB]) :
  (A6 Qb Qc) [.sh (.scr ns),.sh (.int a),x2,x3,x4,x5,x6,x7,x8,x9] = .ok .nx [.sh (.scr ns),.sh (.int a),.ow d0,.sh hAB,x4,x5,x6,x7,x8,x9]:=by
 unfold Qb Qc
 rw [hS,hH,hP]
 clear hS hH hP
 generalize cAB = cd at *
 unfold hAB at *
 generalize D0 = hf at *
 simp_arith! [e0,e1,e2,g2,g3]
theorem Apw (FN:List Sl→Res Rv) (hN:Ff = FN) (d d1:D) (n:List Nat) (s0 s1 s3 s4 s5 s6 s7 s8 s9:Sl) (e1:FN [.bo d] = .ok (.val (.str n)) [.bo d1]):Gq [s0,s1,.ow d,s3,s4,s5,s6,s7,s8,s9] = .ok (.val (.str n)) [s0,s1,.ow d1,s3,s4,s5,s6,s7,s8,s9]:=by
 unfold Gq
 rw [hN]
 clear hN
 simp_arith! [e1]
theorem Apx (EX:M Rv) (d d1 d2 y:D) (n:List Nat) (s0 s1 s3 s4 s5 s6 s8 s9:Sl) (ds ls:List D) (e:EX [s0,s1,.ow d,s3,s4,s5,s6,.sh y,s8,s9] = .ok (.val (.str n)) [s0,s1,.ow d1,s3,s4,s5,s6,.sh y,s8,s9]) (hc:lcL (Am 7) (M.ret true) EX [7] ds [s0,s1,.ow d1,s3,s4,s5,s6,.un,s8,s9] = .ok ls [s0,s1,.ow d2,s3,s4,s5,s6,.un,s8,s9]) :
  lcL (Am 7) (M.ret true) EX [7] (y :: ds) [s0,s1,.ow d,s3,s4,s5,s6,.un,s8,s9] = .ok (.str n :: ls) [s0,s1,.ow d2,s3,s4,s5,s6,.un,s8,s9]:=by
 rw [Ni]
 simp_arith! [e,hc]
theorem Aaw (s0 s1 s3 s4 s5 s6 s8 s9:Sl):∀ (ds:List D) (d:D) (m:Nat),IsSrc m d→m + 20 * ds.length < 800000→∃ (l:List (List Nat)) (d':D),l.length = ds.length∧(∀ n∈l,Mf n)∧IsSrc (m + 20 * ds.length) d' ∧
  lcL (Am 7) (M.ret true) Gq [7] ds [s0,s1,.ow d,s3,s4,s5,s6,.un,s8,s9] = .ok (l.map D.str) [s0,s1,.ow d',s3,s4,s5,s6,.un,s8,s9]
 | [],d,m,h,_=>⟨[],d,rfl,(fun x hx=>nomatch hx),h.mono (by simp),rfl⟩
 | y :: ds,d,m,h,hm=>by
  rw [List.length_cons] at hm
  obtain ⟨n,d1,hn,sd,e1⟩:=Ao5 d m h (by omega)
  obtain ⟨l,d',hl,hk,s2,hc⟩:=Aaw s0 s1 s3 s4 s5 s6 s8 s9 ds d1 (m + 13) sd (by omega)
  refine ⟨n :: l,d',by simp [hl],fun z hz=>?_,s2.mono (by rw [List.length_cons]; omega),?_⟩
  ·rcases List.mem_cons.mp hz with z | z
   ·rw [z]; exact hn
   ·exact hk _ z
  ·exact Apx Gq d d1 d' y n s0 s1 s3 s4 s5 s6 s8 s9 ds _ (Apw Ff rfl d d1 n _ _ _ _ _ _ _ _ _ e1) hc
theorem Apy (EN:M Rv) (hE:Gq = EN) (SR:M (List D)) (hS:Ce (fOp Br (fC (.int 1)) (Ay Bc (Ab (Aa 2) (Ab (fC (.int 4)) Ag)))) = SR) (b:Addr) (d d1 d2:D) (rs qs:List D) (s0 s1 s3 x4 x5 x6 x7 s8 s9:Sl) (g4:A9 x4 = true) (g5:A9 x5 = true) (g6:A9 x6 = true) (g7:x7 = .un∨∃ v,x7 = .sh v)
  (rg:SR [s0,s1,.ow d,s3,x4,x5,x6,x7,s8,s9] = .ok rs [s0,s1,.ow d1,s3,x4,x5,x6,x7,s8,s9])
  (hc:lcL (Am 7) (M.ret true) EN [7] rs [s0,s1,.ow d1,s3,x4,x5,x6,.un,s8,s9] = .ok qs [s0,s1,.ow d2,s3,x4,x5,x6,.un,s8,s9]) (sz:decide (qs.length≤sizeLine) = true) :
  Jg 4 5 6 (Ab (fC (.con (.ref b))) (Ab M9 (Ab (Ad (fLc (Ce (fOp Br (fC (.int 1)) (Ay Bc (Ab (Aa 2) (Ab (fC (.int 4)) Ag))))) (Am 7) (M.ret true) Gq [7])) Ag))) [s0,s1,.ow d,s3,x4,x5,x6,x7,s8,s9] = .ok .nx [s0,s1,.ow d2,s3,.sh (.con (.ref b)),.ow (.dct []),.sh (.lst qs),x7,s8,s9]:=by
 have dn:∀ e,M9 e = .ok (.fresh (.dct [])) e:=fun _=>rfl
 rw [hE,hS]
 clear hE hS
 rcases g7 with rfl | ⟨v,rfl⟩ <;> simp_arith! [dn,rg,hc,sz,g4,g5,g6]
theorem Apz (FP:List Sl→Res Rv) (d d1:D) (i:Int) (i0:0≤i) (i1:i < 4) (s0 s1 s3 s4 s5 s6 s7 s8 s9:Sl) (e:FP [.bo d,.sh (.int 4)] = .ok (.val (.int i)) [.bo d1,.sh (.int 4)]):(fOp Br (fC (.int 1)) (Ay FP (Ab (Aa 2) (Ab (fC (.int 4)) Ag)))) [s0,s1,.ow d,s3,s4,s5,s6,s7,s8,s9] = .ok (.val (.int (1 + i))) [s0,s1,.ow d1,s3,s4,s5,s6,s7,s8,s9]:=by
 have hb:decide (-4611686018427387904≤1 + i∧1 + i < 4611686018427387904) = true:=decide_eq_true (by omega)
 simp_arith! [e,hb]
theorem Ap0 (FO FA:List Sl→Res Rv) (hO:By = FO) (hA:Fj = FA) (d d1 d2:D) (n t:List Nat) (q:List D) (s0 s1 s3 s4 s5 s7 x8 x9:Sl) (g8:A9 x8 = true) (g9:A9 x9 = true) (e1:FO [.bo d,.sh (.lst q)] = .ok (.val (.str n)) [.bo d1,.sh (.lst q)]) (e2:FA [.bo d1] = .ok (.val (.str t)) [.bo d2]) :
  Qd [s0,s1,.ow d,s3,s4,s5,.sh (.lst q),s7,x8,x9] = .ok .nx [s0,s1,.ow d2,s3,s4,s5,.sh (.lst q),s7,.sh (.str n),.sh (.str t)]:=by
 unfold Qd
 rw [hO,hA]
 clear hO hA
 simp_arith! [e1,e2,g8,g9]
theorem Ap1 (FP:List Sl→Res Rv) (hP:Bc = FP) (d d1:D) (n:List Nat) (kv:List (List Nat × D)) (i:Int) (s0 s1 s3 s4 s6 s7 s9:Sl) (e:FP [.bo d,.sh (.int 3)] = .ok (.val (.int i)) [.bo d1,.sh (.int 3)]) :
  (Fq (A8 (fOp (Az inA false) (Aa 8) (Aa 5))) (A8 (fOp eqG (Ay Bc (Ab (Aa 2) (Ab (fC (.int 3)) Ag))) (fC (.int 0))))) [s0,s1,.ow d,s3,s4,.ow (.dct kv),s6,s7,.sh (.str n),s9] =
   .ok ((A4 kv n).isSome && (i == 0)) [s0,s1,.ow (if (A4 kv n).isSome = true then d1 else d),s3,s4,.ow (.dct kv),s6,s7,.sh (.str n),s9]:=by
 have i2:Az inA false (.str n) (.dct kv) = some (.val (.bl (A4 kv n).isSome)):=Qi false n kv
 have i0:eqG (.int i) (.int 0) = some (.val (.bl (i == 0))):=rfl
 rw [hP]
 clear hP
 cases h:(A4 kv n).isSome <;> rw [h] at i2
 ·rw [if_neg Bool.false_ne_true]
  simp_arith! [i2]
  all_goals rfl
 ·rw [if_pos rfl]
  simp_arith! [i2,e,i0]
  all_goals rfl
theorem Ap2 (kv kv':List (List Nat × D)) (n t:List Nat) (s0 s1 s2 s3 s4 s6 s7:Sl) (e:Em (.dct kv) (.str n) (.str t) = some (.dct kv')) :
  Qf [s0,s1,s2,s3,s4,.ow (.dct kv),s6,s7,.sh (.str n),.sh (.str t)] = .ok .nx [s0,s1,s2,s3,s4,.ow (.dct kv'),s6,s7,.sh (.str n),.sh (.str t)]:=by
 unfold Qf
 simp_arith! [e]
theorem Ap3 (kv:List (List Nat × D)) (n:List Nat) (v:D) (s0 s1 s2 s3 s4 s6 s7 s9:Sl) (e:A4 kv n = some v) :
  Qe [s0,s1,s2,s3,s4,.ow (.dct kv),s6,s7,.sh (.str n),s9] = .ok .nx [s0,s1,s2,s3,s4,.ow (.dct (kv.filter fun q=>decide (q.1≠n))),s6,s7,.sh (.str n),s9]:=by
 have h:P1 5 (Aa 8) [s0,s1,s2,s3,s4,.ow (.dct kv),s6,s7,.sh (.str n),s9] = .ok (.val v) [s0,s1,s2,s3,s4,.ow (.dct (kv.filter fun q=>decide (q.1≠n))),s6,s7,.sh (.str n),s9]:=by
  show (match A4 kv n with | some v=>Res.ok (Rv.val v) _ | none=>.no) = _
  rw [e]; rfl
 unfold Qe
 simp_arith! [h]
theorem Ap4 {A2:E2 Rv} {A B:W2} {e e1:Ve} {γ γ1:Gh} {P:P2} (h:∀ K:Og Rv→Ve→Gh→Prop,K (.v (.val .non)) e1 γ1→A2 e γ K) (k:B e1 γ1 P):if2 (Jr (Jq C9 A2 (Vs.liftM (fC .non)))) A B e γ P:=by
 have is:C9 .non .non = some (.val (.bl false)):=rfl
 have op:∀ K:Og Rv→Ve→Gh→Prop,K (.v (.val (.bl false))) e1 γ1→(Bz (Vs.liftM (fC .non)) fun b=>opC C9 (.val .non) b) e1 γ1 K:=fun K kk=>by
  show opC C9 (.val .non) (.val .non) e1 γ1 K
  show (match C9 .non .non with | some r=>K (.v r) e1 γ1 | none=>False)
  rw [is]
  exact kk
 unfold if2 Jr Jq
 show A2 e γ _
 refine h _ ?_
 exact op _ k
theorem Ap5 {hf:List (Str × D)} {γ:Gh} (Q:Og Rv→Ve→Gh→Prop) (k:∀ b2,¬ InG γ b2→Q (.v (.val .non)) [.bo (.ins "Store" [("house",.ins "House" hf),("texts",.con (.ref b2)),("names",.lst []),("is_shut",.bl false)]),.sh (.ins "House" hf)] ((b2,.dct []) :: γ)):Gj [.bo (.ins "Store" []),.sh (.ins "House" hf)] γ Q:=by
 unfold Gj Cr
 refine ⟨rfl,?_⟩
 show L0 [.bo (.ins "Store" []),.sh (.ins "House" hf)] _ _
 unfold L0
 refine Nz (e1:=[.bo (.ins "Store" [("house",.ins "House" hf)]),.sh (.ins "House" hf)]) ?_ ?_
 ·unfold Zj
  rfl
 refine Dy ?_
 show Lh B4 "texts" 0 [.bo (.ins "Store" [("house",.ins "House" hf)]),.sh (.ins "House" hf)] γ _
 refine ⟨by decide,by show 1 < 1000; omega,fun b2 nb=>?_⟩
 refine Hx (c:=.nx) (e1:=[.bo (.ins "Store" [("house",.ins "House" hf),("texts",.con (.ref b2)),("names",.lst []),("is_shut",.bl false)]),.sh (.ins "House" hf)]) ?_ ?_
 ·unfold Zk
  rfl
 ·exact k b2 nb
abbrev cT (b c2:Addr) (E:List (List Nat × List Nat)) (γ:Gh):Gh:=stG D0 b c2 (Ai D.str E) (Ax (E.map (·.1))) γ
theorem ncT (E:List (List Nat × List Nat)):C0 (.dct (Ai D.str E)) = true:=Aav E
theorem Ap6 (E:List (List Nat × List Nat)) (hE:E.length≤30) (n t:List Nat):Em (.dct (Ai D.str E)) (.str n) (.str t) = some (.dct (Ai D.str (Md E n t))):=by
 show (if (Ai D.str E).length < sizeLine then some (D.dct (Ca (Ai D.str E) n (D.str t))) else none) = _
 rw [if_pos (by rw [Me,sizeLine_eq]; omega),Tx]
theorem Ap7 {α:Type} (n:List Nat) (E:List (List Nat × α)):E.any (fun q=>decide (q.1 = n)) = (Eg E n).isSome:=Aam n E
section
variable (b c2:Addr) (hb:b≠c2) (γ:Gh) (n1:¬ InG γ b) (n2:¬ InG γ c2)
include hb n1 n2
theorem Ap8 (nms:List (List Nat)) (h0:nms≠[]) (hn:nms.length≤10) (ok:∀ n∈nms,Mf n) (E:List (List Nat × List Nat)) (hE:E.length≤20) (d:D) (m:Nat) (hd:IsSrc m d) (hm:m < 100000) (s0 s1 x7 x8 x9:Sl) (g0:okX s0 = true) (g1:okX s1 = true) (g7:okX x7 = true) (g8:okX x8 = true) (g9:okX x9 = true) :
  ∃ (d':D) (E':List (List Nat × List Nat)) (y8 y9:Sl),IsSrc (m + 100) d'∧E'.length≤E.length + 1∧okX y8 = true∧okX y9 = true ∧
  ∀ P:P2,P (.c .nx) [s0,s1,.ow d',.sh hAB,.sh (.con (.ref b)),.ow (.dct (Ai D.str E')),.sh (.lst (nms.map D.str)),x7,y8,y9] (cT b c2 E' γ) →
   Ki [s0,s1,.ow d,.sh hAB,.sh (.con (.ref b)),.ow (.dct (Ai D.str E)),.sh (.lst (nms.map D.str)),x7,x8,x9] (cT b c2 E γ) P:=by
 obtain ⟨x,hx,d1,s1',e1⟩:=Apn d m (nms.map D.str) hd (by omega) (by simpa using h0) (by rw [List.length_map]; omega)
 obtain ⟨n,hnn,rfl⟩:=List.mem_map.mp hx
 obtain ⟨t,d2,t1,s2,e2⟩:=Apm d1 _ s1' (by omega)
 obtain ⟨i,d3,i0,i1,s3,e3⟩:=Kk d2 _ 3 s2 (by omega) (by omega) (by omega)
 have cn:=Ap1 Bc rfl d2 d3 n (Ai D.str E) i s0 s1 (.sh hAB) (.sh (.con (.ref b))) (.sh (.lst (nms.map D.str))) x7 (.sh (.str t)) e3
 have sd:IsSrc (m + 100) (if (A4 (Ai D.str E) n).isSome = true then d3 else d2):=by
  split
  ·exact s3.mono (by omega)
  ·exact s2.mono (by omega)
 generalize (if (A4 (Ai D.str E) n).isSome = true then d3 else d2) = d4 at *
 have gm:(A4 (Ai D.str E) n).isSome = (Eg E n).isSome:=by rw [N7,Option.isSome_map]
 have fin:∀ (E':List (List Nat × List Nat)) (y8 y9:Sl) (P:P2),E'.length≤30→okX y8 = true→okX y9 = true→P (.c .nx) [s0,s1,.ow d4,.sh hAB,.sh (.con (.ref b)),.ow (.dct (Ai D.str E')),.sh (.lst (nms.map D.str)),x7,y8,y9] (cT b c2 E' γ) →
   if2 (rdT Mb) (Ap Tt) (Ap fNx) [s0,s1,.ow d4,.sh hAB,.sh (.con (.ref b)),.ow (.dct (Ai D.str E')),.sh (.lst (nms.map D.str)),x7,y8,y9] (cT b c2 E' γ) P:=fun E' y8 y9 P hE' g8 g9 k =>
  Aau hb Mb _ s0 s1 _ _ _ _ _ g0 g1 rfl rfl g7 g8 g9 d4 sd.nc (ncT E') (Apu Dz rfl [("house",.ins "House" D0),("texts",.dct (Ai D.str E')),("names",.lst ((Ax (E'.map fun q:List Nat × List Nat=>q.1)).map D.str)),("is_shut",.bl false)] d4 _ _ s0 s1 _ x7 y8 y9 (Aat D0 E' hE' nms hn)) k
 have c4:=Ap0 By Fj rfl rfl d d1 d2 n t (nms.map D.str) s0 s1 (.sh hAB) (.sh (.con (.ref b))) (.ow (.dct (Ai D.str E))) x7 x8 x9 (Aao g8) (Aao g9) e1 e2
 cases hc:((A4 (Ai D.str E) n).isSome && (i == 0)) <;> rw [hc] at cn
 ·refine ⟨d4,Md E n t,.sh (.str n),.sh (.str t),sd,Aag E n t,rfl,rfl,fun P k=>?_⟩
  rw [Z5]
  refine Nz c4 ?_
  refine Dy (Yw cn ?_)
  rw [if_neg Bool.false_ne_true]
  have hT:Ia "Store" = some Ma:=rfl
  have pl:=Aag E n t
  have pr:=Aow (hf:=D0) hb n1 n2 (Ai D.str E) (Ax (E.map (·.1))) n t (ok n hnn) (by rw [Me]; omega) (by rw [Tx,Me]; omega)
  rw [Tx,T2] at pr
  refine Dy (Alv (v:=.str t) (ix:=.str n) rfl rfl rfl Kl hT pr ?_)
  refine Hx (Ap2 _ _ _ _ _ _ _ _ _ _ _ (Ap6 E (by omega) n t)) ?_
  exact fin _ _ _ P (by omega) rfl rfl k
 ·have hs:(Eg E n).isSome = true:=by rw [← gm]; exact (Bool.and_eq_true_iff.mp hc).1
  refine ⟨d4,Qh E n,.sh (.str n),.sh (.str t),sd,Nat.le_trans (Aah E n) (by omega),rfl,rfl,fun P k=>?_⟩
  rw [Z5]
  refine Nz c4 ?_
  refine Dy (Yw cn ?_)
  rw [if_pos rfl]
  have hT:Gn "Store" = some L8:=rfl
  have pr:=Aox (hf:=D0) hb n1 n2 (Ai D.str E) (Ax (E.map (·.1))) n (by rw [Tw,Ap7,hs]) (by rw [Me]; omega)
  rw [Tz,T2] at pr
  refine Dy (Ap4 (fun K kk=>Alw (as:=[.sh (.str n)]) (rs:=[.val (.str n)]) (T:=Gn) (c:="Store") rfl Kl rfl hT rfl rfl rfl pr (fun j hj=>by
   rcases List.mem_cons.mp hj with y | y <;> cases y) kk) ?_)
  refine Hx (c:=.nx) rfl ?_
  obtain ⟨v,hv⟩:=Option.isSome_iff_exists.mp hs
  have c6:=Ap3 (Ai D.str E) n (.str v) s0 s1 (.ow d4) (.sh hAB) (.sh (.con (.ref b))) (.sh (.lst (nms.map D.str))) x7 (.sh (.str t)) (by rw [N7,hv]; rfl)
  rw [Tz] at c6
  refine Hx c6 ?_
  have dl:=Aah E n
  exact fin _ _ _ P (by omega) rfl rfl k
end
section
variable (b c2:Addr) (hb:b≠c2) (γ:Gh) (n1:¬ InG γ b) (n2:¬ InG γ c2)
include hb n1 n2
theorem Aax (nms:List (List Nat)) (h0:nms≠[]) (hn:nms.length≤10) (ok:∀ n∈nms,Mf n) (s0 s1:Sl) (g0:okX s0 = true) (g1:okX s1 = true):∀ (as:List Int) (E:List (List Nat × List Nat)) (d:D) (m:Nat) (x7 x8 x9:Sl),E.length + as.length≤20→IsSrc m d→m + 100 * as.length < 90000→okX x7 = true→okX x8 = true→okX x9 = true →
  ∃ (d':D) (E':List (List Nat × List Nat)) (y7 y8 y9:Sl),okX y7 = true∧okX y8 = true∧okX y9 = true ∧
  ∀ P:P2,P (.c .nx) [s0,s1,.ow d',.sh hAB,.sh (.con (.ref b)),.ow (.dct (Ai D.str E')),.sh (.lst (nms.map D.str)),y7,y8,y9] (cT b c2 E' γ) →
   Cy (Am 7) Ki (as.map D.int) [s0,s1,.ow d,.sh hAB,.sh (.con (.ref b)),.ow (.dct (Ai D.str E)),.sh (.lst (nms.map D.str)),x7,x8,x9] (cT b c2 E γ) P
 | [],E,d,m,x7,x8,x9,_,_,_,g7,g8,g9=>⟨d,E,x7,x8,x9,g7,g8,g9,fun P k=>Y1 k⟩
 | a :: as,E,d,m,x7,x8,x9,hE,hd,hm,g7,g8,g9=>by
  rw [List.length_cons] at hE hm
  obtain ⟨d1,E1,y8,y9,sd,lE,g8',g9',st⟩:=Ap8 b c2 hb γ n1 n2 nms h0 hn ok E (by omega) d m hd (by omega) s0 s1 (.sh (.int a)) x8 x9 g0 g1 rfl g8 g9
  obtain ⟨d',E',z7,z8,z9,k7,k8,k9,ih⟩:=Aax nms h0 hn ok s0 s1 g0 g1 as E1 d1 (m + 100) (.sh (.int a)) y8 y9 (by omega) sd (by omega) rfl g8' g9'
  refine ⟨d',E',z7,z8,z9,k7,k8,k9,fun P k=>?_⟩
  rw [List.map_cons]
  refine Y2 (e1:=[s0,s1,.ow d,.sh hAB,.sh (.con (.ref b)),.ow (.dct (Ai D.str E)),.sh (.lst (nms.map D.str)),.sh (.int a),x8,x9]) ?_ (st _ (ih P k))
  cases x7 <;> first | rfl | cases g7
end
theorem sto44 (a:Int) (s0 x1 x2 x3 x4 x5 x6 x7 x8 x9:Sl) (g:A9 x1 = true):Am 1 (.int a) [s0,x1,x2,x3,x4,x5,x6,x7,x8,x9] = .ok () [s0,.sh (.int a),x2,x3,x4,x5,x6,x7,x8,x9]:=by
 simp_arith! [g]
theorem Ap9 (i:Int) (i0:0≤i) (i1:i < 1000) (d d':D) (s0 s1 s3 s4 s5 s6 s7 s8 s9:Sl) (e:Bc [.bo d,.sh (.int 11)] = .ok (.val (.int i)) [.bo d',.sh (.int 11)]):Ce (Ay Bc (Ab (Aa 2) (Ab (fC (.int 11)) Ag))) [s0,s1,.ow d,s3,s4,s5,s6,s7,s8,s9] = .ok (((List.range i.toNat).map fun j:Nat=>(0:Int) + (j:Int)).map D.int) [s0,s1,.ow d',s3,s4,s5,s6,s7,s8,s9]:=by
 rw [← Aaf]
 refine N6 (n:=i.toNat) (by omega) ?_
 rw [show ((i.toNat:Nat):Int) = i by omega]
 generalize Bc = FP at *
 simp_arith! [e]
theorem Aqa {s:Sl} (h:okX s = true):s = .un∨∃ v,s = .sh v:=by
 cases s with
 | un=>exact .inl rfl
 | sh d=>exact .inr ⟨d,rfl⟩
 | _=>cases h
theorem Aqb (ns:List Int) (a:Int) (h0:0≤a) (h1:a < 1000) (γ:Gh) (x2 x3 x4 x5 x6 x7 x8 x9:Sl) (g2:A9 x2 = true) (g3:A9 x3 = true) (g4:A9 x4 = true) (g5:A9 x5 = true) (g6:A9 x6 = true) (g7:okX x7 = true) (g8:okX x8 = true) (g9:okX x9 = true) :
  ∀ P:P2,(∀ (γ':Gh) (y2 y3 y4 y5 y6 y7 y8 y9:Sl),A9 y2 = true→A9 y3 = true→A9 y4 = true→A9 y5 = true→A9 y6 = true→okX y7 = true→okX y8 = true→okX y9 = true→P (.c .nx) [.sh (.scr ns),.sh (.int a),y2,y3,y4,y5,y6,y7,y8,y9] γ') →
   Mc [.sh (.scr ns),.sh (.int a),x2,x3,x4,x5,x6,x7,x8,x9] γ P:=by
 intro P k
 obtain ⟨d0,s0,e0⟩:=Aog ns a h0 h1
 rw [An8]
 refine Apd ?_
 refine Nz (Apv Gi Hz Fe rfl rfl rfl ns a d0 x2 x3 x4 x5 x6 x7 x8 x9 g2 g3 e0 Aos Aot) ?_
 refine Dy ?_
 show (Hw "Store" Gj (Ab (Aa 3) Ag)) _ _ _
 refine Alx (as:=[.sh hAB]) (as':=[.sh hAB]) (rs:=[.val hAB]) (fs:=fun c2=>[("house",.ins "House" D0),("texts",.con (.ref c2)),("names",.lst []),("is_shut",.bl false)]) (Γ:=fun c2=>(c2,.dct []) :: γ) rfl rfl rfl (fun Q kk=>Ap5 Q kk) (Yy fun i hi=>by
  rcases List.mem_cons.mp hi with y | y <;> cases y) fun c2 b n2 nb=>?_
 have hb:b≠c2:=fun z=>nb ⟨_,by rw [z]; exact List.mem_cons_self⟩
 have n1:¬ InG γ b:=fun ⟨u,m⟩=>nb ⟨u,List.mem_cons_of_mem _ m⟩
 have sr0:Ax [] = []:=List.eq_nil_of_length_eq_zero (Aap [])
 have cg0:(b,D.ins "Store" [("house",.ins "House" D0),("texts",.con (.ref c2)),("names",.lst []),("is_shut",.bl false)]) :: (c2,D.dct []) :: γ = cT b c2 [] γ:=by
  show _ = stG D0 b c2 [] (Ax []) γ
  rw [sr0]; rfl
 show Ap _ _ ((b,D.ins "Store" [("house",.ins "House" D0),("texts",.con (.ref c2)),("names",.lst []),("is_shut",.bl false)]) :: (c2,D.dct []) :: γ) _
 rw [cg0]
 obtain ⟨i,d1,i0,i1,s1,e1⟩:=Kk d0 0 4 s0 (by omega) (by omega) (by omega)
 have lr:(Bg 0 (1 + i).toNat).length = (1 + i).toNat:=by unfold Bg; rw [List.length_map,List.length_range]
 obtain ⟨nms,d2,ln,nok,s2,hc⟩:=Aaw (.sh (.scr ns)) (.sh (.int a)) (.sh hAB) x4 x5 x6 x8 x9 (Bg 0 (1 + i).toNat) d1 _ s1 (by rw [lr]; omega)
 rw [lr] at ln s2
 have rg:Ce (fOp Br (fC (.int 1)) (Ay Bc (Ab (Aa 2) (Ab (fC (.int 4)) Ag)))) [.sh (.scr ns),.sh (.int a),.ow d0,.sh hAB,x4,x5,x6,x7,x8,x9] = .ok (Bg 0 (1 + i).toNat) [.sh (.scr ns),.sh (.int a),.ow d1,.sh hAB,x4,x5,x6,x7,x8,x9]:=by
  refine N6 (n:=(1 + i).toNat) (by omega) ?_
  rw [show (((1 + i).toNat:Nat):Int) = 1 + i by omega]
  exact Apz Bc d0 d1 i i0 i1 _ _ _ _ _ _ _ _ _ e1
 refine Hx (Apy Gq rfl _ rfl b d0 d1 d2 _ _ _ _ _ x4 x5 x6 x7 x8 x9 g4 g5 g6 (Aqa g7) rg hc (decide_eq_true (by rw [sizeLine_eq,List.length_map]; omega))) ?_
 have nz:nms.length≤10:=by omega
 have nn:nms≠[]:=fun z=>by rw [z] at ln; simp at ln; omega
 refine Dy (Aau hb N5 _ _ _ _ _ _ _ _ rfl rfl rfl rfl g7 g8 g9 d2 s2.nc (ncT []) (Apt Dz rfl [("house",.ins "House" D0),("texts",.dct (Ai D.str ([]:List (List Nat × List Nat)))),("names",.lst ((Ax (([]:List (List Nat × List Nat)).map fun q:List Nat × List Nat=>q.1)).map D.str)),("is_shut",.bl false)] d2 _ _ _ _ x7 x8 x9 rfl (Aat D0 [] (by simp) nms nz)) ?_)
 obtain ⟨j,d3,j0,j1,s3,e3⟩:=Kk d2 _ 11 s2 (by omega) (by omega) (by omega)
 have lj:((List.range j.toNat).map fun j:Nat=>(0:Int) + (j:Int)).length = j.toNat:=by rw [List.length_map,List.length_range]
 obtain ⟨d4,E4,y7,y8,y9,k7,k8,k9,lp⟩:=Aax b c2 hb γ n1 n2 nms nn nz nok (.sh (.scr ns)) (.sh (.int a)) rfl rfl ((List.range j.toNat).map fun j:Nat=>(0:Int) + (j:Int)) [] d3 _ x7 x8 x9 (by rw [lj]; simp; omega) s3 (by rw [lj]; omega) g7 g8 g9
 refine Y0 (Ap9 j j0 (by omega) d2 d3 _ _ _ _ _ _ _ _ _ e3) (lp P ?_)
 exact k _ _ _ _ _ _ _ _ _ rfl rfl rfl rfl rfl k7 k8 k9
theorem Aay (ns:List Int):∀ (as:List Int) (γ:Gh) (x1 x2 x3 x4 x5 x6 x7 x8 x9:Sl),(∀ a∈as,0≤a∧a < 1000)→A9 x1 = true→A9 x2 = true→A9 x3 = true→A9 x4 = true→A9 x5 = true→A9 x6 = true→okX x7 = true→okX x8 = true→okX x9 = true →
  ∀ P:P2,(∀ e γ',P (.c .nx) (.sh (.scr ns) :: e) γ')→Cy (Am 1) Mc (as.map .int) [.sh (.scr ns),x1,x2,x3,x4,x5,x6,x7,x8,x9] γ P
 | [],γ,x1,x2,x3,x4,x5,x6,x7,x8,x9,_,_,_,_,_,_,_,_,_,_=>fun P k=>Y1 (k _ _)
 | a :: as,γ,x1,x2,x3,x4,x5,x6,x7,x8,x9,h,g1,g2,g3,g4,g5,g6,g7,g8,g9=>fun P k=>by
  obtain ⟨h0,h1⟩:=h a List.mem_cons_self
  rw [List.map_cons]
  refine Y2 (e1:=[.sh (.scr ns),.sh (.int a),x2,x3,x4,x5,x6,x7,x8,x9]) (sto44 a _ _ _ _ _ _ _ _ _ _ g1) ?_
  refine Aqb ns a h0 h1 γ x2 x3 x4 x5 x6 x7 x8 x9 g2 g3 g4 g5 g6 g7 g8 g9 _ fun γ' y2 y3 y4 y5 y6 y7 y8 y9 q2 q3 q4 q5 q6 q7 q8 q9=>?_
  exact Aay ns as γ' (.sh (.int a)) y2 y3 y4 y5 y6 y7 y8 y9 (fun x hx=>h x (List.mem_cons_of_mem _ hx)) rfl q2 q3 q4 q5 q6 q7 q8 q9 P k
theorem law_true:Yt 63 Tu:=by
 intro ns hns
 obtain ⟨as,ha,sr⟩:=Aoq 3 (by omega) (by omega) ns [.un,.un,.un,.un,.un,.un,.un,.un,.un]
 rw [show ((3:Nat):Int) = 3 from rfl] at sr
 unfold Tu Cr
 refine ⟨rfl,?_⟩
 show Kj [.sh (.scr ns),.un,.un,.un,.un,.un,.un,.un,.un,.un] [] _
 unfold Kj
 refine Dy (Y0 sr (Aay ns as [] .un .un .un .un .un .un .un .un .un ha rfl rfl rfl rfl rfl rfl rfl rfl rfl _ fun e γ'=>?_))
 refine Hx (c:=.rt (.val (.bl true))) (e1:=.sh (.scr ns) :: e) ?_ ?_
 ·rfl
 ·rfl
theorem facts {w:World} {K:PySem.W.Frag} {h:Heap} {mg:Str→Option Value} {f:Addr} (X:K.In h) (G:h.Ns mainGlobals mg) (hfa:mg ("law" : Str) = some (.ref f)) (cP:SaysP ex fa fn tf xn fr h K) :
  Wk PySem.Challenge.rw_foundaswritten_k44_stores_keep_texts w K 7 63 "_law_script" mg f h:=by
 have cZ:=cP.z
 have cY:=cZ.y
 have c:=cY.x
 have m_len:mg "len" = none:=He.free_ok X G (c.d.fact 0 (f:=.free "len") rfl)
 have m_abs:mg "abs" = none:=He.free_ok X G (c.d.fact 1 (f:=.free "abs") rfl)
 have m_int:mg "int" = none:=He.free_ok X G (c.d.fact 2 (f:=.free "int") rfl)
 have gl_House:mg "House" = some (.ref (He.ga K "House")):=He.glo_ok X G (c.d.fact 3 (f:=.glo "House") rfl)
 have hC_House:Cls K (He.ga K "House"):=He.cls_ok (c.d.fact 4 (f:=.cls "House") rfl)
 have n_House__keep:NoAttr K (He.ga K "House") "keep":=He.noat_ok (c.d.fact 5 (f:=.noat "House" "keep") rfl)
 have n_House__ask:NoAttr K (He.ga K "House") "ask":=He.noat_ok (c.d.fact 6 (f:=.noat "House" "ask") rfl)
 have n_House__letters:NoAttr K (He.ga K "House") "letters":=He.noat_ok (c.d.fact 7 (f:=.noat "House" "letters") rfl)
 obtain ⟨t_MOST_LETTERS,g_MOST_LETTERS⟩:=He.int_ok X G (c.d.fact 8 (f:=.int "MOST_LETTERS" 4) rfl)
 have m_str:mg "str" = none:=He.free_ok X G (c.d.fact 9 (f:=.free "str") rfl)
 have m_isinstance:mg "isinstance" = none:=He.free_ok X G (c.d.fact 10 (f:=.free "isinstance") rfl)
 have m_enumerate:mg "enumerate" = none:=He.free_ok X G (c.d.fact 11 (f:=.free "enumerate") rfl)
 obtain ⟨t_CHARACTERS,g_CHARACTERS⟩:=He.str_ok X G (c.d.fact 12 (f:=.str "CHARACTERS" (S Kv)) rfl)
 have m_any:mg "any" = none:=He.free_ok X G (c.d.fact 13 (f:=.free "any") rfl)
 have gl_Rows:mg "Rows" = some (.ref (He.ga K "Rows")):=He.glo_ok X G (c.d.fact 14 (f:=.glo "Rows") rfl)
 have gl_Beginnings:mg "Beginnings" = some (.ref (He.ga K "Beginnings")):=He.glo_ok X G (c.d.fact 15 (f:=.glo "Beginnings") rfl)
 have gl_Chain:mg "Chain" = some (.ref (He.ga K "Chain")):=He.glo_ok X G (c.d.fact 16 (f:=.glo "Chain") rfl)
 have r_Chain:=Abg (x:="Chain") (c.more 3 (f:=Qj "Chain") rfl)
 obtain ⟨u_Chain_MOST,v_Chain_MOST⟩:=Abh (x:="Chain") (f:="MOST") (c.more 4 (f:=N8 "Chain" "MOST" 6) rfl)
 have hC_Chain:Cls K (He.ga K "Chain"):=He.cls_ok (c.d.fact 17 (f:=.cls "Chain") rfl)
 have n_Chain__letters:NoAttr K (He.ga K "Chain") "letters":=He.noat_ok (c.d.fact 18 (f:=.noat "Chain" "letters") rfl)
 have n_Chain__steps:NoAttr K (He.ga K "Chain") "steps":=He.noat_ok (c.d.fact 19 (f:=.noat "Chain" "steps") rfl)
 have n_Chain__keep_places:NoAttr K (He.ga K "Chain") "keep_places":=He.noat_ok (c.d.fact 20 (f:=.noat "Chain" "keep_places") rfl)
 have n_Chain__front_steps:NoAttr K (He.ga K "Chain") "front_steps":=He.noat_ok (c.d.fact 21 (f:=.noat "Chain" "front_steps") rfl)
 have n_Chain__rows:NoAttr K (He.ga K "Chain") "rows":=He.noat_ok (c.d.fact 22 (f:=.noat "Chain" "rows") rfl)
 have n_Chain__back_steps:NoAttr K (He.ga K "Chain") "back_steps":=He.noat_ok (c.d.fact 23 (f:=.noat "Chain" "back_steps") rfl)
 have gl_Store:mg "Store" = some (.ref (He.ga K "Store")):=He.glo_ok X G (c.d.fact 24 (f:=.glo "Store") rfl)
 have hC_Store:Cls K (He.ga K "Store"):=He.cls_ok (c.d.fact 25 (f:=.cls "Store") rfl)
 have n_Store__house:NoAttr K (He.ga K "Store") "house":=He.noat_ok (c.d.fact 26 (f:=.noat "Store" "house") rfl)
 have n_Store__texts:NoAttr K (He.ga K "Store") "texts":=He.noat_ok (c.d.fact 27 (f:=.noat "Store" "texts") rfl)
 have n_Store__names:NoAttr K (He.ga K "Store") "names":=He.noat_ok (c.d.fact 28 (f:=.noat "Store" "names") rfl)
 have n_Store__is_shut:NoAttr K (He.ga K "Store") "is_shut":=He.noat_ok (c.d.fact 29 (f:=.noat "Store" "is_shut") rfl)
 have m_range:mg "range" = none:=He.free_ok X G (c.d.fact 30 (f:=.free "range") rfl)
 have m_iter:mg "iter" = none:=He.free_ok X G (c.d.fact 31 (f:=.free "iter") rfl)
 have m_sorted:mg "sorted" = none:=He.free_ok X G (c.d.fact 32 (f:=.free "sorted") rfl)
 have m_list:mg "list" = none:=He.free_ok X G (c.d.fact 33 (f:=.free "list") rfl)
 have m_all:mg "all" = none:=He.free_ok X G (c.d.fact 34 (f:=.free "all") rfl)
 obtain ⟨t_MOST_IN_NAME,g_MOST_IN_NAME⟩:=He.int_ok X G (c.d.fact 35 (f:=.int "MOST_IN_NAME" 12) rfl)
 obtain ⟨t_SMALL_LETTERS,g_SMALL_LETTERS⟩:=He.str_ok X G (c.d.fact 36 (f:=.str "SMALL_LETTERS" (S Et)) rfl)
 have m_min:mg "min" = none:=He.free_ok X G (c.d.fact 37 (f:=.free "min") rfl)
 have m_max:mg "max" = none:=He.free_ok X G (c.d.fact 38 (f:=.free "max") rfl)
 obtain ⟨fd_Chain_plain,Fd_Chain_plain⟩:=Aew (l:=⟨Gu "staticmethod" "Chain" "plain",Ml⟩) (cP.far 0 (l:=⟨Gu "staticmethod" "Chain" "plain",Ml⟩) rfl) (c.more 7 (f:=farB ⟨Gu "staticmethod" "Chain" "plain",Ml⟩) rfl)
 obtain ⟨fd_law_source,Fd_law_source⟩:=c.d.def_ 0 (d:=Ua) rfl
 have gl_law_source:mg "_law_source" = some (.ref (He.ga K "_law_source")):=He.glo_ok X G (c.d.fact 39 (f:=.glo "_law_source") rfl)
 obtain ⟨fd_House_init,Fd_House_init⟩:=c.d.def_ 1 (d:=Ub) rfl
 obtain ⟨fd_check_letters,Fd_check_letters⟩:=c.d.def_ 2 (d:=Uc) rfl
 have gl_check_letters:mg "check_letters" = some (.ref (He.ga K "check_letters")):=He.glo_ok X G (c.d.fact 40 (f:=.glo "check_letters") rfl)
 obtain ⟨fd_check_steps,Fd_check_steps⟩:=c.d.def_ 3 (d:=Ud) rfl
 have gl_check_steps:mg "check_steps" = some (.ref (He.ga K "check_steps")):=He.glo_ok X G (c.d.fact 41 (f:=.glo "check_steps") rfl)
 obtain ⟨fd_Chain_init,Fd_Chain_init⟩:=c.d.def_ 4 (d:=Ue) rfl
 obtain ⟨fd_Store_init,Fd_Store_init⟩:=c.d.def_ 5 (d:=Ug) rfl
 obtain ⟨fd_law_pick,Fd_law_pick⟩:=c.d.def_ 6 (d:=Uh) rfl
 have gl_law_pick:mg "_law_pick" = some (.ref (He.ga K "_law_pick")):=He.glo_ok X G (c.d.fact 42 (f:=.glo "_law_pick") rfl)
 obtain ⟨fd_law_one,Fd_law_one⟩:=c.d.def_ 7 (d:=Ui) rfl
 have gl_law_one:mg "_law_one" = some (.ref (He.ga K "_law_one")):=He.glo_ok X G (c.d.fact 43 (f:=.glo "_law_one") rfl)
 obtain ⟨fd_law_name,Fd_law_name⟩:=c.d.def_ 8 (d:=Uj) rfl
 have gl_law_name:mg "_law_name" = some (.ref (He.ga K "_law_name")):=He.glo_ok X G (c.d.fact 44 (f:=.glo "_law_name") rfl)
 obtain ⟨fd_Chain_str,Fd_Chain_str⟩:=c.d.def_ 9 (d:=Uk) rfl
 obtain ⟨fd_Chain_eq,Fd_Chain_eq⟩:=c.d.def_ 10 (d:=Ul) rfl
 obtain ⟨fd_House_eq,Fd_House_eq⟩:=c.d.def_ 11 (d:=Um) rfl
 obtain ⟨fd_Store_iter,Fd_Store_iter⟩:=c.d.def_ 12 (d:=Uo) rfl
 obtain ⟨fd_Store_len,Fd_Store_len⟩:=c.d.def_ 13 (d:=Uq) rfl
 obtain ⟨fd_Store_getitem,Fd_Store_getitem⟩:=c.d.def_ 14 (d:=Ur) rfl
 obtain ⟨fd_Store_contains,Fd_Store_contains⟩:=c.d.def_ 15 (d:=Us) rfl
 obtain ⟨fd_law_right,Fd_law_right⟩:=c.d.def_ 16 (d:=Ut) rfl
 have gl_law_right:mg "_law_right" = some (.ref (He.ga K "_law_right")):=He.glo_ok X G (c.d.fact 45 (f:=.glo "_law_right") rfl)
 obtain ⟨fd_law_any_text,Fd_law_any_text⟩:=c.d.def_ 17 (d:=Uu) rfl
 have gl_law_any_text:mg "_law_any_text" = some (.ref (He.ga K "_law_any_text")):=He.glo_ok X G (c.d.fact 46 (f:=.glo "_law_any_text") rfl)
 obtain ⟨fd_Store_check_open,Fd_Store_check_open⟩:=c.d.def_ 18 (d:=Uv) rfl
 obtain ⟨fd_Store_remove,Fd_Store_remove⟩:=c.d.def_ 19 (d:=Uw) rfl
 obtain ⟨fd_is_made_of,Fd_is_made_of⟩:=c.d.def_ 20 (d:=Ux) rfl
 have gl_is_made_of:mg "is_made_of" = some (.ref (He.ga K "is_made_of")):=He.glo_ok X G (c.d.fact 47 (f:=.glo "is_made_of") rfl)
 obtain ⟨fd_check_name,Fd_check_name⟩:=c.d.def_ 21 (d:=Uy) rfl
 have gl_check_name:mg "check_name" = some (.ref (He.ga K "check_name")):=He.glo_ok X G (c.d.fact 48 (f:=.glo "check_name") rfl)
 obtain ⟨fd_Store_setitem,Fd_Store_setitem⟩:=c.d.def_ 22 (d:=Uz) rfl
 obtain ⟨fd_law,Fd_law⟩:=c.d.def_ 23 (d:=U0) rfl
 have gl_law:mg "law" = some (.ref (He.ga K "law")):=He.glo_ok X G (c.d.fact 49 (f:=.glo "law") rfl)
 have e:=hfa.symm.trans gl_law
 cases e
 have b:=FunD.bindsA (ps:=["_law_script"]) Fd_law fun _ _ _ _ _ _ us hl=>match us,hl with | [_],_=>rfl
 refine ⟨fd_law,tf.map (He.cT K),fun p hp=>?_,fun p hp=>?_,fun p hp=>?_,fun s v=>b s [v] rfl,fun base _ _ hTB=>?_⟩
 ·obtain ⟨q,hq,rfl⟩:=List.mem_map.mp hp
  exact cY.empty q hq
 ·obtain ⟨q,hq,rfl⟩:=List.mem_map.mp hp
  exact cY.out q hq
 ·obtain ⟨q,hq,rfl⟩:=List.mem_map.mp hp
  exact PySem.W.codeHd_of_K X (cY.hd q hq)
 show FnG _ _ _ _ _ _ _ _ _ _ (spT K ((Ah K).tabs.map Prod.fst) 63)
 refine Alm (mB:=Aoa) (ca:=He.ga K) (Tb:=Ah K) (B:=Kj) (np:=1) (N:=10) (fun sa sn=>?_) rfl law_true
 have n_House_keep:∀ c∈Ef,NoAttr K (He.ga K c) "keep":=fun c hc=>by
  simp only [Ef,List.mem_cons,List.not_mem_nil,or_false] at hc
  rcases hc with rfl
  ·exact n_House__keep
 have n_House_ask:∀ c∈Ef,NoAttr K (He.ga K c) "ask":=fun c hc=>by
  simp only [Ef,List.mem_cons,List.not_mem_nil,or_false] at hc
  rcases hc with rfl
  ·exact n_House__ask
 have n_House_letters:∀ c∈Ef,NoAttr K (He.ga K c) "letters":=fun c hc=>by
  simp only [Ef,List.mem_cons,List.not_mem_nil,or_false] at hc
  rcases hc with rfl
  ·exact n_House__letters
 have isc_Rows:Eo mg (gm K w (He.ga K) (Ah K) sa sn) "Rows" [("Chain",false),("House",false),("Store",false)]:=Pm gl_Rows (c.more 0 (f:=Fn "Rows" [("Chain",false),("House",false),("Store",false)]) rfl) (c.more 1 (f:=Fm ["Chain", "House", "Store"]) rfl)
 have isc_Beginnings:Eo mg (gm K w (He.ga K) (Ah K) sa sn) "Beginnings" [("Chain",false),("House",false),("Store",false)]:=Pm gl_Beginnings (c.more 2 (f:=Fn "Beginnings" [("Chain",false),("House",false),("Store",false)]) rfl) (c.more 1 (f:=Fm ["Chain", "House", "Store"]) rfl)
 have i_Chain_MOST:CiD mg (gm K w (He.ga K) (Ah K) sa sn) "Chain" "MOST" 6:=⟨_,_,_,gl_Chain,r_Chain,v_Chain_MOST⟩
 have n_Chain_letters:∀ c∈cs_Chain,NoAttr K (He.ga K c) "letters":=fun c hc=>by
  simp only [cs_Chain,List.mem_cons,List.not_mem_nil,or_false] at hc
  rcases hc with rfl
  ·exact n_Chain__letters
 have n_Chain_steps:∀ c∈cs_Chain,NoAttr K (He.ga K c) "steps":=fun c hc=>by
  simp only [cs_Chain,List.mem_cons,List.not_mem_nil,or_false] at hc
  rcases hc with rfl
  ·exact n_Chain__steps
 have n_Chain_keep_places:∀ c∈cs_Chain,NoAttr K (He.ga K c) "keep_places":=fun c hc=>by
  simp only [cs_Chain,List.mem_cons,List.not_mem_nil,or_false] at hc
  rcases hc with rfl
  ·exact n_Chain__keep_places
 have n_Chain_front_steps:∀ c∈cs_Chain,NoAttr K (He.ga K c) "front_steps":=fun c hc=>by
  simp only [cs_Chain,List.mem_cons,List.not_mem_nil,or_false] at hc
  rcases hc with rfl
  ·exact n_Chain__front_steps
 have n_Chain_rows:∀ c∈cs_Chain,NoAttr K (He.ga K c) "rows":=fun c hc=>by
  simp only [cs_Chain,List.mem_cons,List.not_mem_nil,or_false] at hc
  rcases hc with rfl
  ·exact n_Chain__rows
 have n_Chain_back_steps:∀ c∈cs_Chain,NoAttr K (He.ga K c) "back_steps":=fun c hc=>by
  simp only [cs_Chain,List.mem_cons,List.not_mem_nil,or_false] at hc
  rcases hc with rfl
  ·exact n_Chain__back_steps
 have n_Store_house:∀ c∈B4,NoAttr K (He.ga K c) "house":=fun c hc=>by
  simp only [B4,List.mem_cons,List.not_mem_nil,or_false] at hc
  rcases hc with rfl
  ·exact n_Store__house
 have n_Store_texts:∀ c∈B4,NoAttr K (He.ga K c) "texts":=fun c hc=>by
  simp only [B4,List.mem_cons,List.not_mem_nil,or_false] at hc
  rcases hc with rfl
  ·exact n_Store__texts
 have n_Store_names:∀ c∈B4,NoAttr K (He.ga K c) "names":=fun c hc=>by
  simp only [B4,List.mem_cons,List.not_mem_nil,or_false] at hc
  rcases hc with rfl
  ·exact n_Store__names
 have n_Store_is_shut:∀ c∈B4,NoAttr K (He.ga K c) "is_shut":=fun c hc=>by
  simp only [B4,List.mem_cons,List.not_mem_nil,or_false] at hc
  rcases hc with rfl
  ·exact n_Store__is_shut
 have isc_Chain:Eo mg (gm K w (He.ga K) (Ah K) sa sn) "Chain" [("Chain",true),("House",false),("Store",false)]:=Pm gl_Chain (c.more 5 (f:=Fn "Chain" [("Chain",true),("House",false),("Store",false)]) rfl) (c.more 1 (f:=Fm ["Chain", "House", "Store"]) rfl)
 have isc_House:Eo mg (gm K w (He.ga K) (Ah K) sa sn) "House" [("Chain",false),("House",true),("Store",false)]:=Pm gl_House (c.more 6 (f:=Fn "House" [("Chain",false),("House",true),("Store",false)]) rfl) (c.more 1 (f:=Fm ["Chain", "House", "Store"]) rfl)
 have q_law_source:FnG (PySem.Challenge.rw_foundaswritten_k44_stores_keep_texts).prog w K mg base (L2.CX (PySem.Challenge.rw_foundaswritten_k44_stores_keep_texts).prog w) 1 _ fd_law_source ["_law_script", "_law_at"] (spV (gm K w (He.ga K) (Ah K) sa sn) 2 Gi):=Amq Fd_law_source m_len m_abs m_int
 have d_law_source:Df (PySem.Challenge.rw_foundaswritten_k44_stores_keep_texts).prog mg base (gm K w (He.ga K) (Ah K) sa sn) "_law_source" [] 1 Gi:=⟨_,Cb (g:=(gm K w (He.ga K) (Ah K) sa sn)) q_law_source ⟨[],.nil,Fd_law_source.bindsN fun _ _ _ _ _ _ us hl=>match us,hl with | [_,_],_=>rfl⟩,gl_law_source,Fd_law_source.kp⟩
 have q_House_init:FnG (PySem.Challenge.rw_foundaswritten_k44_stores_keep_texts).prog w K mg base (L2.CX (PySem.Challenge.rw_foundaswritten_k44_stores_keep_texts).prog w) 1 _ fd_House_init ["self", "keep", "ask"] (spV (gm K w (He.ga K) (Ah K) sa sn) 3 Hz):=Ams Fd_House_init n_House_keep n_House_ask n_House_letters
 have mk_House:Mk' (PySem.Challenge.rw_foundaswritten_k44_stores_keep_texts).prog mg base (gm K w (He.ga K) (Ah K) sa sn) "House" "House" [] 1 Hz:=⟨_,gl_House,He.mkr_ok (c.d.fact 50 (f:=.mkr "House") rfl),hC_House,Cb (g:=(gm K w (He.ga K) (Ah K) sa sn)) q_House_init ⟨[],.nil,Fd_House_init.bindsN fun _ _ _ _ _ _ us hl=>match us,hl with | [_,_,_],_=>rfl⟩⟩
 have q_check_letters:FnG (PySem.Challenge.rw_foundaswritten_k44_stores_keep_texts).prog w K mg base (L2.CX (PySem.Challenge.rw_foundaswritten_k44_stores_keep_texts).prog w) 1 _ fd_check_letters ["letters"] (spV (gm K w (He.ga K) (Ah K) sa sn) 1 H6):=Amu Fd_check_letters m_len g_MOST_LETTERS m_str m_isinstance m_enumerate g_CHARACTERS
 have d_check_letters:Df (PySem.Challenge.rw_foundaswritten_k44_stores_keep_texts).prog mg base (gm K w (He.ga K) (Ah K) sa sn) "check_letters" [] 1 H6:=⟨_,Cb (g:=(gm K w (He.ga K) (Ah K) sa sn)) q_check_letters ⟨[],.nil,Fd_check_letters.bindsN fun _ _ _ _ _ _ us hl=>match us,hl with | [_],_=>rfl⟩,gl_check_letters,Fd_check_letters.kp⟩
 have q_check_steps:FnG (PySem.Challenge.rw_foundaswritten_k44_stores_keep_texts).prog w K mg base (L2.CX (PySem.Challenge.rw_foundaswritten_k44_stores_keep_texts).prog w) 1 _ fd_check_steps ["steps", "letters", "most"] (spV (gm K w (He.ga K) (Ah K) sa sn) 3 J9):=Amx Fd_check_steps m_enumerate m_any isc_Rows m_isinstance isc_Beginnings
 have d_check_steps:Df (PySem.Challenge.rw_foundaswritten_k44_stores_keep_texts).prog mg base (gm K w (He.ga K) (Ah K) sa sn) "check_steps" [] 1 J9:=⟨_,Cb (g:=(gm K w (He.ga K) (Ah K) sa sn)) q_check_steps ⟨[],.nil,Fd_check_steps.bindsN fun _ _ _ _ _ _ us hl=>match us,hl with | [_,_,_],_=>rfl⟩,gl_check_steps,Fd_check_steps.kp⟩
 have q_Chain_init:_:=Amz Fd_Chain_init d_check_letters d_check_steps i_Chain_MOST n_Chain_letters n_Chain_steps n_Chain_keep_places n_Chain_front_steps n_Chain_rows n_Chain_back_steps m_enumerate isc_Rows m_isinstance
 have mk_Chain_d1:Mk' (PySem.Challenge.rw_foundaswritten_k44_stores_keep_texts).prog mg base (gm K w (He.ga K) (Ah K) sa sn) "Chain" "Chain" [] 2 (E9 2 0 [(.bl true)] H7):=⟨_,gl_Chain,He.mkr_ok (c.d.fact 51 (f:=.mkr "Chain") rfl),hC_Chain,Aev (ps:=["self", "letters", "keep_places"]) (pv:="steps") (m:=2) (d:=(.bl true)) (v:=.bl true) Fd_Chain_init Amy (fun _=>⟨_,_,rfl,rfl,rfl⟩) rfl rfl (Aeu Fd_Chain_init fun D doc pm an cdv ct us rest u hu=>match us,rest,hu with | [_,_],[],_=>⟨_,_,_,_,_,_,rfl,rfl,rfl⟩ | [_,_],_ :: _,_=>⟨_,_,_,_,_,_,rfl,rfl,rfl⟩) q_Chain_init⟩
 have q_Chain_plain:FnG (PySem.Challenge.rw_foundaswritten_k44_stores_keep_texts).prog w K mg base (L2.CX (PySem.Challenge.rw_foundaswritten_k44_stores_keep_texts).prog w) 4 _ fd_Chain_plain ["letters"] (spV (gm K w (He.ga K) (Ah K) sa sn) 1 Fe):=Am1 Fd_Chain_plain mk_Chain_d1
 have f_Chain_plain:CfS (PySem.Challenge.rw_foundaswritten_k44_stores_keep_texts).prog mg base (gm K w (He.ga K) (Ah K) sa sn) "Chain" "plain" 4 Fe:=Aku gl_Chain r_Chain (Akt (c.more 8 (f:=smB "Chain" "plain") rfl)) Fd_Chain_plain.kp (Cb (g:=(gm K w (He.ga K) (Ah K) sa sn)) q_Chain_plain ⟨[],.nil,Fd_Chain_plain.bindsN fun _ _ _ _ _ _ us hl=>match us,hl with | [_],_=>rfl⟩)
 have q_Store_init:FnG (PySem.Challenge.rw_foundaswritten_k44_stores_keep_texts).prog w K mg base (L2.CX (PySem.Challenge.rw_foundaswritten_k44_stores_keep_texts).prog w) 1 _ fd_Store_init ["self", "house"] (Ec (gm K w (He.ga K) (Ah K) sa sn) 2 Gj):=Am3 Fd_Store_init n_Store_house n_Store_texts n_Store_names n_Store_is_shut
 have mk_Store:Mk2 (PySem.Challenge.rw_foundaswritten_k44_stores_keep_texts).prog mg base (gm K w (He.ga K) (Ah K) sa sn) "Store" "Store" 1 Gj:=⟨Gg N0,_,gl_Store,He.mkr_ok (c.d.fact 52 (f:=.mkr "Store") rfl),hC_Store,Sk (g:=(gm K w (He.ga K) (Ah K) sa sn)) N0 q_Store_init (Fd_Store_init.bindsN fun _ _ _ _ _ _ us hl=>match us,hl with | [_,_],_=>rfl)⟩
 have q_law_pick:FnG (PySem.Challenge.rw_foundaswritten_k44_stores_keep_texts).prog w K mg base (L2.CX (PySem.Challenge.rw_foundaswritten_k44_stores_keep_texts).prog w) 1 _ fd_law_pick ["_law_source_here", "_law_many"] (spV (gm K w (He.ga K) (Ah K) sa sn) 2 Bc):=Am5 Fd_law_pick m_int
 have d_law_pick:Df (PySem.Challenge.rw_foundaswritten_k44_stores_keep_texts).prog mg base (gm K w (He.ga K) (Ah K) sa sn) "_law_pick" [] 1 Bc:=⟨_,Cb (g:=(gm K w (He.ga K) (Ah K) sa sn)) q_law_pick ⟨[],.nil,Fd_law_pick.bindsN fun _ _ _ _ _ _ us hl=>match us,hl with | [_,_],_=>rfl⟩,gl_law_pick,Fd_law_pick.kp⟩
 have q_law_one:FnG (PySem.Challenge.rw_foundaswritten_k44_stores_keep_texts).prog w K mg base (L2.CX (PySem.Challenge.rw_foundaswritten_k44_stores_keep_texts).prog w) 2 _ fd_law_one ["_law_source_here", "_law_rows"] (spV (gm K w (He.ga K) (Ah K) sa sn) 2 By):=Am7 Fd_law_one d_law_pick m_len
 have d_law_one:Df (PySem.Challenge.rw_foundaswritten_k44_stores_keep_texts).prog mg base (gm K w (He.ga K) (Ah K) sa sn) "_law_one" [] 2 By:=⟨_,Cb (g:=(gm K w (He.ga K) (Ah K) sa sn)) q_law_one ⟨[],.nil,Fd_law_one.bindsN fun _ _ _ _ _ _ us hl=>match us,hl with | [_,_],_=>rfl⟩,gl_law_one,Fd_law_one.kp⟩
 have q_law_name:FnG (PySem.Challenge.rw_foundaswritten_k44_stores_keep_texts).prog w K mg base (L2.CX (PySem.Challenge.rw_foundaswritten_k44_stores_keep_texts).prog w) 3 _ fd_law_name ["_law_source_here"] (spV (gm K w (He.ga K) (Ah K) sa sn) 1 Ff):=Am9 Fd_law_name d_law_one m_range
 have d_law_name:Df (PySem.Challenge.rw_foundaswritten_k44_stores_keep_texts).prog mg base (gm K w (He.ga K) (Ah K) sa sn) "_law_name" [] 3 Ff:=⟨_,Cb (g:=(gm K w (He.ga K) (Ah K) sa sn)) q_law_name ⟨[],.nil,Fd_law_name.bindsN fun _ _ _ _ _ _ us hl=>match us,hl with | [_],_=>rfl⟩,gl_law_name,Fd_law_name.kp⟩
 have q_Chain_str:FnG (PySem.Challenge.rw_foundaswritten_k44_stores_keep_texts).prog w K mg base (L2.CX (PySem.Challenge.rw_foundaswritten_k44_stores_keep_texts).prog w) 1 _ fd_Chain_str ["self"] (spV (gm K w (He.ga K) (Ah K) sa sn) 1 S7):=Anc Fd_Chain_str
 have strd:StrD (PySem.Challenge.rw_foundaswritten_k44_stores_keep_texts).prog mg base (gm K w (He.ga K) (Ah K) sa sn) 1 N3:=fun cc FF hT=>by
  unfold N3 at hT
  by_cases h_Chain:cc = "Chain"
  ·subst h_Chain
   simp only [if_true] at hT
   obtain rfl:=Option.some.inj hT
   exact ⟨_,(Cc (c.more 9 (f:=Bf "Chain" "Chain" "__str__") rfl)).1,(Cc (c.more 9 (f:=Bf "Chain" "Chain" "__str__") rfl)).2,(Cb (g:=(gm K w (He.ga K) (Ah K) sa sn)) q_Chain_str ⟨[],.nil,Fd_Chain_str.bindsN fun _ _ _ _ _ _ us hl=>match us,hl with | [_],_=>rfl⟩).mono (by decide)⟩
  rw [if_neg h_Chain] at hT
  cases hT
 have q_Chain_eq:FnG (PySem.Challenge.rw_foundaswritten_k44_stores_keep_texts).prog w K mg base (L2.CX (PySem.Challenge.rw_foundaswritten_k44_stores_keep_texts).prog w) 4 _ fd_Chain_eq ["self", "other"] (spV (gm K w (He.ga K) (Ah K) sa sn) 2 P9):=Anf Fd_Chain_eq strd m_str isc_Chain m_isinstance
 have eqdC:EqD (PySem.Challenge.rw_foundaswritten_k44_stores_keep_texts).prog mg base (gm K w (He.ga K) (Ah K) sa sn) 4 Ka De:=by
  refine ⟨fun cc FF hT=>?_,Rx (c.more 1 (f:=Fm ["Chain", "House", "Store"]) rfl)⟩
  unfold Ka at hT
  by_cases h_Chain:cc = "Chain"
  ·subst h_Chain
   simp only [if_true] at hT
   obtain rfl:=Option.some.inj hT
   exact ⟨⟨_,(Cc (c.more 10 (f:=Bf "Chain" "Chain" "__eq__") rfl)).1,(Cc (c.more 10 (f:=Bf "Chain" "Chain" "__eq__") rfl)).2,(Cb (g:=(gm K w (He.ga K) (Ah K) sa sn)) q_Chain_eq ⟨[],.nil,Fd_Chain_eq.bindsN fun _ _ _ _ _ _ us hl=>match us,hl with | [_,_],_=>rfl⟩).mono (by decide)⟩,Ry (c.more 11 (f:=nfB "Chain" De) rfl)⟩
  rw [if_neg h_Chain] at hT
  cases hT
 have nedC:NeD (gm K w (He.ga K) (Ah K) sa sn) Ka:=fun cc FF hT=>by
  unfold Ka at hT
  by_cases h_Chain:cc = "Chain"
  ·subst h_Chain
   exact Rz (c.more 12 (f:=Kt "Chain") rfl)
  rw [if_neg h_Chain] at hT
  cases hT
 have q_House_eq:FnG (PySem.Challenge.rw_foundaswritten_k44_stores_keep_texts).prog w K mg base (L2.CX (PySem.Challenge.rw_foundaswritten_k44_stores_keep_texts).prog w) 5 _ fd_House_eq ["self", "other"] (spV (gm K w (He.ga K) (Ah K) sa sn) 2 L3):=Anh Fd_House_eq eqdC isc_House m_isinstance
 have eqd:EqD (PySem.Challenge.rw_foundaswritten_k44_stores_keep_texts).prog mg base (gm K w (He.ga K) (Ah K) sa sn) 5 Gk De:=by
  refine ⟨fun cc FF hT=>?_,Rx (c.more 1 (f:=Fm ["Chain", "House", "Store"]) rfl)⟩
  unfold Gk at hT
  by_cases h_Chain:cc = "Chain"
  ·subst h_Chain
   simp only [if_true] at hT
   obtain rfl:=Option.some.inj hT
   exact ⟨⟨_,(Cc (c.more 10 (f:=Bf "Chain" "Chain" "__eq__") rfl)).1,(Cc (c.more 10 (f:=Bf "Chain" "Chain" "__eq__") rfl)).2,(Cb (g:=(gm K w (He.ga K) (Ah K) sa sn)) q_Chain_eq ⟨[],.nil,Fd_Chain_eq.bindsN fun _ _ _ _ _ _ us hl=>match us,hl with | [_,_],_=>rfl⟩).mono (by decide)⟩,Ry (c.more 11 (f:=nfB "Chain" De) rfl)⟩
  rw [if_neg h_Chain] at hT
  by_cases h_House:cc = "House"
  ·subst h_House
   simp only [if_true] at hT
   obtain rfl:=Option.some.inj hT
   exact ⟨⟨_,(Cc (c.more 13 (f:=Bf "House" "House" "__eq__") rfl)).1,(Cc (c.more 13 (f:=Bf "House" "House" "__eq__") rfl)).2,(Cb (g:=(gm K w (He.ga K) (Ah K) sa sn)) q_House_eq ⟨[],.nil,Fd_House_eq.bindsN fun _ _ _ _ _ _ us hl=>match us,hl with | [_,_],_=>rfl⟩).mono (by decide)⟩,Ry (c.more 14 (f:=nfB "House" De) rfl)⟩
  rw [if_neg h_House] at hT
  cases hT
 have ned:NeD (gm K w (He.ga K) (Ah K) sa sn) Gk:=fun cc FF hT=>by
  unfold Gk at hT
  by_cases h_Chain:cc = "Chain"
  ·subst h_Chain
   exact Rz (c.more 12 (f:=Kt "Chain") rfl)
  rw [if_neg h_Chain] at hT
  by_cases h_House:cc = "House"
  ·subst h_House
   exact Rz (c.more 15 (f:=Kt "House") rfl)
  rw [if_neg h_House] at hT
  cases hT
 have q_Store_iter:FnG (PySem.Challenge.rw_foundaswritten_k44_stores_keep_texts).prog w K mg base (L2.CX (PySem.Challenge.rw_foundaswritten_k44_stores_keep_texts).prog w) 1 _ fd_Store_iter ["self"] (Hy K "names"):=Anj Fd_Store_iter m_iter
 have qn_Store_iter:FnIL (PySem.Challenge.rw_foundaswritten_k44_stores_keep_texts).prog w K mg base 1 _ "names":=Ank Fd_Store_iter (FunD.bindsN (ps:=["self"]) Fd_Store_iter fun _ _ _ _ _ _ us hl=>match us,hl with | [_],_=>rfl) m_iter
 have itd:ItDL (PySem.Challenge.rw_foundaswritten_k44_stores_keep_texts).prog mg base (gm K w (He.ga K) (Ah K) sa sn) 1 Fg:=fun cc FF hT=>by
  unfold Fg at hT
  by_cases h_Store:cc = "Store"
  ·subst h_Store
   simp only [if_true] at hT
   obtain rfl:=Option.some.inj hT
   exact ⟨_,(Cc (c.more 16 (f:=Bf "Store" "Store" "__iter__") rfl)).1,(Cc (c.more 16 (f:=Bf "Store" "Store" "__iter__") rfl)).2,(Ama (g:=(gm K w (He.ga K) (Ah K) sa sn)) q_Store_iter (Fd_Store_iter.bindsN fun _ _ _ _ _ _ us hl=>match us,hl with | [_],_=>rfl)).mono (by decide)⟩
  rw [if_neg h_Store] at hT
  cases hT
 have itn:Ss (PySem.Challenge.rw_foundaswritten_k44_stores_keep_texts).prog mg base (gm K w (He.ga K) (Ah K) sa sn) 1 Fg:=fun cc FF hT=>by
  unfold Fg at hT
  by_cases h_Store:cc = "Store"
  ·subst h_Store
   simp only [if_true] at hT
   obtain rfl:=Option.some.inj hT
   exact ⟨_,(Cc (c.more 16 (f:=Bf "Store" "Store" "__iter__") rfl)).1,(Cc (c.more 16 (f:=Bf "Store" "Store" "__iter__") rfl)).2,qn_Store_iter.mono (by decide)⟩
  rw [if_neg h_Store] at hT
  cases hT
 have q_Store_len:FnG (PySem.Challenge.rw_foundaswritten_k44_stores_keep_texts).prog w K mg base (L2.CX (PySem.Challenge.rw_foundaswritten_k44_stores_keep_texts).prog w) 1 _ fd_Store_len ["self"] (spV (gm K w (He.ga K) (Ah K) sa sn) 1 Kc):=Anm Fd_Store_len m_len
 have lend:SpD "__len__" (PySem.Challenge.rw_foundaswritten_k44_stores_keep_texts).prog mg base (gm K w (He.ga K) (Ah K) sa sn) 1 L4:=fun cc FF hT=>by
  unfold L4 at hT
  by_cases h_Store:cc = "Store"
  ·subst h_Store
   simp only [if_true] at hT
   obtain rfl:=Option.some.inj hT
   exact ⟨_,(Cc (c.more 17 (f:=Bf "Store" "Store" "__len__") rfl)).1,(Cc (c.more 17 (f:=Bf "Store" "Store" "__len__") rfl)).2,(Cb (g:=(gm K w (He.ga K) (Ah K) sa sn)) q_Store_len ⟨[],.nil,Fd_Store_len.bindsN fun _ _ _ _ _ _ us hl=>match us,hl with | [_],_=>rfl⟩).mono (by decide)⟩
  rw [if_neg h_Store] at hT
  cases hT
 have q_Store_getitem:FnG (PySem.Challenge.rw_foundaswritten_k44_stores_keep_texts).prog w K mg base (L2.CX (PySem.Challenge.rw_foundaswritten_k44_stores_keep_texts).prog w) 1 _ fd_Store_getitem ["self", "name"] (spV (gm K w (He.ga K) (Ah K) sa sn) 2 Kd):=Ano Fd_Store_getitem m_str m_isinstance
 have itmd:ItmD (PySem.Challenge.rw_foundaswritten_k44_stores_keep_texts).prog mg base (gm K w (He.ga K) (Ah K) sa sn) 1 L5:=fun cc FF hT=>by
  unfold L5 at hT
  by_cases h_Store:cc = "Store"
  ·subst h_Store
   simp only [if_true] at hT
   obtain rfl:=Option.some.inj hT
   exact ⟨_,(Cc (c.more 18 (f:=Bf "Store" "Store" "__getitem__") rfl)).1,FunD.isFnIn Fd_Store_getitem,(Cc (c.more 18 (f:=Bf "Store" "Store" "__getitem__") rfl)).2,(Cb (g:=(gm K w (He.ga K) (Ah K) sa sn)) q_Store_getitem ⟨[],.nil,Fd_Store_getitem.bindsN fun _ _ _ _ _ _ us hl=>match us,hl with | [_,_],_=>rfl⟩).mono (by decide)⟩
  rw [if_neg h_Store] at hT
  cases hT
 have q_Store_contains:FnG (PySem.Challenge.rw_foundaswritten_k44_stores_keep_texts).prog w K mg base (L2.CX (PySem.Challenge.rw_foundaswritten_k44_stores_keep_texts).prog w) 1 _ fd_Store_contains ["self", "name"] (spV (gm K w (He.ga K) (Ah K) sa sn) 2 Fh):=Anq Fd_Store_contains m_str m_isinstance
 have cond:SpD "__contains__" (PySem.Challenge.rw_foundaswritten_k44_stores_keep_texts).prog mg base (gm K w (He.ga K) (Ah K) sa sn) 1 Ke:=fun cc FF hT=>by
  unfold Ke at hT
  by_cases h_Store:cc = "Store"
  ·subst h_Store
   simp only [if_true] at hT
   obtain rfl:=Option.some.inj hT
   exact ⟨_,(Cc (c.more 19 (f:=Bf "Store" "Store" "__contains__") rfl)).1,(Cc (c.more 19 (f:=Bf "Store" "Store" "__contains__") rfl)).2,(Cb (g:=(gm K w (He.ga K) (Ah K) sa sn)) q_Store_contains ⟨[],.nil,Fd_Store_contains.bindsN fun _ _ _ _ _ _ us hl=>match us,hl with | [_,_],_=>rfl⟩).mono (by decide)⟩
  rw [if_neg h_Store] at hT
  cases hT
 have q_law_right:FnG (PySem.Challenge.rw_foundaswritten_k44_stores_keep_texts).prog w K mg base (L2.CX (PySem.Challenge.rw_foundaswritten_k44_stores_keep_texts).prog w) 5 _ fd_law_right ["_law_store", "_law_texts", "_law_names"] (spV (gm K w (He.ga K) (Ah K) sa sn) 3 Dz):=Ans Fd_law_right itn m_sorted itd lend m_list m_len m_str itmd m_isinstance cond
 have d_law_right:Df (PySem.Challenge.rw_foundaswritten_k44_stores_keep_texts).prog mg base (gm K w (He.ga K) (Ah K) sa sn) "_law_right" [] 5 Dz:=⟨_,Cb (g:=(gm K w (He.ga K) (Ah K) sa sn)) q_law_right ⟨[],.nil,Fd_law_right.bindsN fun _ _ _ _ _ _ us hl=>match us,hl with | [_,_,_],_=>rfl⟩,gl_law_right,Fd_law_right.kp⟩
 have q_law_any_text:FnG (PySem.Challenge.rw_foundaswritten_k44_stores_keep_texts).prog w K mg base (L2.CX (PySem.Challenge.rw_foundaswritten_k44_stores_keep_texts).prog w) 3 _ fd_law_any_text ["_law_source_here"] (spV (gm K w (He.ga K) (Ah K) sa sn) 1 Fj):=Anu Fd_law_any_text m_range d_law_pick d_law_one
 have d_law_any_text:Df (PySem.Challenge.rw_foundaswritten_k44_stores_keep_texts).prog mg base (gm K w (He.ga K) (Ah K) sa sn) "_law_any_text" [] 3 Fj:=⟨_,Cb (g:=(gm K w (He.ga K) (Ah K) sa sn)) q_law_any_text ⟨[],.nil,Fd_law_any_text.bindsN fun _ _ _ _ _ _ us hl=>match us,hl with | [_],_=>rfl⟩,gl_law_any_text,Fd_law_any_text.kp⟩
 have q_Store_check_open:FnG (PySem.Challenge.rw_foundaswritten_k44_stores_keep_texts).prog w K mg base (L2.CX (PySem.Challenge.rw_foundaswritten_k44_stores_keep_texts).prog w) 1 _ fd_Store_check_open ["self"] (spV (gm K w (He.ga K) (Ah K) sa sn) 1 L6):=Anw Fd_Store_check_open
 have ml_check_open:Pb (PySem.Challenge.rw_foundaswritten_k44_stores_keep_texts).prog mg base (gm K w (He.ga K) (Ah K) sa sn) "check_open" 1 H9:=fun cc FF hT=>by
  unfold H9 at hT
  by_cases h_Store:cc = "Store"
  ·subst h_Store
   simp only [if_true] at hT
   obtain rfl:=Option.some.inj hT
   exact ⟨_,hC_Store,He.meth_ok (c.d.fact 53 (f:=.meth "Store" "check_open") rfl),(Cb (g:=(gm K w (He.ga K) (Ah K) sa sn)) q_Store_check_open ⟨[],.nil,Fd_Store_check_open.bindsN fun _ _ _ _ _ _ us hl=>match us,hl with | [_],_=>rfl⟩).mono (by decide)⟩
  rw [if_neg h_Store] at hT
  cases hT
 have q_Store_remove:FnG (PySem.Challenge.rw_foundaswritten_k44_stores_keep_texts).prog w K mg base (L2.CX (PySem.Challenge.rw_foundaswritten_k44_stores_keep_texts).prog w) 2 _ fd_Store_remove ["self", "name"] (Ec (gm K w (He.ga K) (Ah K) sa sn) 2 L8):=Anz Fd_Store_remove ml_check_open m_str m_isinstance n_Store_names m_sorted
 have m2_remove:Sm (PySem.Challenge.rw_foundaswritten_k44_stores_keep_texts).prog mg base (gm K w (He.ga K) (Ah K) sa sn) "remove" 2 Gn:=fun cc FF hT=>by
  unfold Gn at hT
  by_cases h_Store:cc = "Store"
  ·subst h_Store
   simp only [if_true] at hT
   obtain rfl:=Option.some.inj hT
   exact ⟨Gg Tg,_,hC_Store,He.meth_ok (c.d.fact 54 (f:=.meth "Store" "remove") rfl),(Sk (g:=(gm K w (He.ga K) (Ah K) sa sn)) Tg q_Store_remove (Fd_Store_remove.bindsN fun _ _ _ _ _ _ us hl=>match us,hl with | [_,_],_=>rfl)).mono (by decide)⟩
  rw [if_neg h_Store] at hT
  cases hT
 have q_is_made_of:FnG (PySem.Challenge.rw_foundaswritten_k44_stores_keep_texts).prog w K mg base (L2.CX (PySem.Challenge.rw_foundaswritten_k44_stores_keep_texts).prog w) 1 _ fd_is_made_of ["value", "signs"] (spV (gm K w (He.ga K) (Ah K) sa sn) 2 Kg):=An2 Fd_is_made_of m_all m_str m_isinstance
 have d_is_made_of:Df (PySem.Challenge.rw_foundaswritten_k44_stores_keep_texts).prog mg base (gm K w (He.ga K) (Ah K) sa sn) "is_made_of" [] 1 Kg:=⟨_,Cb (g:=(gm K w (He.ga K) (Ah K) sa sn)) q_is_made_of ⟨[],.nil,Fd_is_made_of.bindsN fun _ _ _ _ _ _ us hl=>match us,hl with | [_,_],_=>rfl⟩,gl_is_made_of,Fd_is_made_of.kp⟩
 have q_check_name:FnG (PySem.Challenge.rw_foundaswritten_k44_stores_keep_texts).prog w K mg base (L2.CX (PySem.Challenge.rw_foundaswritten_k44_stores_keep_texts).prog w) 2 _ fd_check_name ["name"] (spV (gm K w (He.ga K) (Ah K) sa sn) 1 Kh):=An4 Fd_check_name m_len g_MOST_IN_NAME d_is_made_of g_SMALL_LETTERS
 have d_check_name:Df (PySem.Challenge.rw_foundaswritten_k44_stores_keep_texts).prog mg base (gm K w (He.ga K) (Ah K) sa sn) "check_name" [] 2 Kh:=⟨_,Cb (g:=(gm K w (He.ga K) (Ah K) sa sn)) q_check_name ⟨[],.nil,Fd_check_name.bindsN fun _ _ _ _ _ _ us hl=>match us,hl with | [_],_=>rfl⟩,gl_check_name,Fd_check_name.kp⟩
 have q_Store_setitem:FnG (PySem.Challenge.rw_foundaswritten_k44_stores_keep_texts).prog w K mg base (L2.CX (PySem.Challenge.rw_foundaswritten_k44_stores_keep_texts).prog w) 3 _ fd_Store_setitem ["self", "name", "text"] (Ec (gm K w (He.ga K) (Ah K) sa sn) 3 Ma):=An6 Fd_Store_setitem ml_check_open d_check_name n_Store_names m_sorted
 have put2:SpD2 (PySem.Challenge.rw_foundaswritten_k44_stores_keep_texts).prog mg base (gm K w (He.ga K) (Ah K) sa sn) 3 Ia:=fun cc FF hT=>by
  unfold Ia at hT
  by_cases h_Store:cc = "Store"
  ·subst h_Store
   simp only [if_true] at hT
   obtain rfl:=Option.some.inj hT
   exact ⟨Gg Tp,_,(Cc (c.more 20 (f:=Bf "Store" "Store" "__setitem__") rfl)).1,(Cc (c.more 20 (f:=Bf "Store" "Store" "__setitem__") rfl)).2,Aey (c.more 21 (f:=seqB "Store") rfl),(Sk (g:=(gm K w (He.ga K) (Ah K) sa sn)) Tp q_Store_setitem (Fd_Store_setitem.bindsN fun _ _ _ _ _ _ us hl=>match us,hl with | [_,_,_],_=>rfl)).mono (by decide)⟩
  rw [if_neg h_Store] at hT
  cases hT
 exact o_law Fd_law m_range m_len m_min m_max d_law_source mk_House f_Chain_plain mk_Store d_law_pick d_law_name eqd ned d_law_right d_law_any_text d_law_one m2_remove put2
end La
open PySem PySem.W PySem.Calls PyProof.Rows
set_option maxRecDepth 100000 in
set_option maxHeartbeats 0 in
theorem PySem.Challenge.cw_foundaswritten_k44_stores_keep_texts_holds : PySem.Challenge.rw_foundaswritten_k44_stores_keep_texts.Holds := by
 w_on; o_law
 refine HandSHeadRun.head_any (r:=OpenLaw.row PySem.Challenge.rw_foundaswritten_k44_stores_keep_texts) (q:=view (OpenLaw.row PySem.Challenge.rw_foundaswritten_k44_stores_keep_texts).prog [69]) (H:=La.hk) (ob:=La.ob) (M:=14000) (loose:=La.loose) (d:=HandSHeadRun.topDef (OpenLaw.row PySem.Challenge.rw_foundaswritten_k44_stores_keep_texts).prog 69) (kwd:=[]) La.ob_eq
  (by kernel_rfl) (fun s=>by kernel_rfl) La.run (by kernel_rfl) (by kernel_rfl) (by kernel_rfl) (by rfl) (by first | assumption | decide +kernel) (by decide +kernel) ⟨rfl,rfl,rfl,rfl,rfl,by decide +kernel⟩ ?hw ?hc
 case hw=>w_witness2
 case hc =>
  refine Vs.walk_g (l:=PySem.Challenge.rw_foundaswritten_k44_stores_keep_texts) (n:=63) (k:=7) (x:="_law_script") rfl (by decide) (by kernel_rfl) ⟨⟨rfl,by decide,by decide⟩,rfl⟩ ?F
  intro w mg fa h Y G hmg0
  obtain ⟨K,KX,c⟩:=Y
  have hmg:mg ("law" : PySem.Str) = some (.ref fa):=by
   have e:(HandSHeadRun.topDef (OpenLaw.row PySem.Challenge.rw_foundaswritten_k44_stores_keep_texts).prog 69).name = ("law" : PySem.Str):=by kernel_rfl
   rw [← e]
   exact hmg0
  exact ⟨K,KX,La.facts KX G hmg c⟩
#print axioms PySem.Challenge.cw_foundaswritten_k44_stores_keep_texts_holds
