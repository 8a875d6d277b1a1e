import PyProof.Rows.All
import Wide.All
import OpenK.AllK
import Wide.FinOn
import PyProof.Rows.SortShellAny
import HandS.ForMost
import HandS.Set
import HandS.SetFor
import HandS.ExcValue
import HandS.Wide
import HandS.IsInst
import HandS.Style
import HandS.Codes
import HandS.Defaults
import HandS.Walk
import PyProof.Draws
import HandS.Base
import HandS.Call
import HandS.List
import HandS.Iter
import HandS.Dict
import HandS.More
import HandS.Exc
import HandS.Slots
import HandS.Star
import HandS.ClsMeth
import HandS.MakeKw
import HandS.MakeKwOnly
import HandS.FStr
import HandS.Replace
import HandS.ReplaceLit
import HandS.ReplaceList
import HandS.DictComp
import KE.KRevSl
import HandS.HeadHook1
import HandS.HeadHook2
import HandS.WordsExc
import HandS.Flow
import HandS.CallSlots
import HandS.Lambda
import HandS.TupAny
import HandS.TupLe
import HandS.RaiseMore
import HandS.WordsDict
import HandS.Nested
import HandS.EndTab
import HandS.HeadWalk
import HandS.Finally
import PyProof.ReprRoads
import PyProof.ReprText
import PyProof.ReprLen
import PyProof.StrLawsRepr
import PyProof.Rows.ReprOcc
import PyProof.Rows.RegStrFacts
import HandS.HeadHook4
import HandS.ExcInit
import HandS.ExcSuper
import KE.KExcSuper
import HandS.ExcField
import HandS.ExcIs
import HandS.TryOnly
import KE.KExcIs
import HandS.OwnEq
import KE.KCallOwn
import PyProof.FString3
import HandS.Comp
import HandS.Property
import HandS.Head0
import HandS.Head1
import HandS.Head2
import HandS.HeadEnd
import KE.KExcInit
import PyProof.InstSpecial
import HandS.SetBool
import KE.KOpsOwn
import HandS.SortKw
import KE.SortKeyHeap
import PyProof.NeKinds
import HandS.DeepEq
import HandS.Conv
import HandS.Strs
import PySem.Challenge.RW_foundaswritten_k05_stretches
set_option Elab.async false
set_option linter.all false
set_option maxRecDepth 100000
set_option maxHeartbeats 2000000
namespace Fw
open PySem PySem.Spec PyProof.Rows L2

/-- the text of a set's entry -/
def nameT (e : Int × Value) : Str := match e.2 with
  | .str x _ => x
  | _ => Str.empty
def IsTx (w : World) (e : Int × Value) : Prop := ∃ x tk, e.2 = Value.str x tk ∧ e.1 = hashStr w x
/-- the set at a holds just the texts L (in its table's own order) -/
def TxSet (w : World) (h : Heap) (a : Addr) (L : List Str) : Prop :=
  ∃ o es ep t, h.get? a = some o ∧ o.ExactSet ∧ o.data = .set es ep t ∧ (∀ e ∈ es.toList, IsTx w e) ∧ es.toList.map nameT = L ∧ L.Nodup ∧
    L.length < scanBound ∧ t.fits es.size = true ∧ Ris t.place.toList ∧ (w.params.followText "set-order" = true ∨ t.led = true)

section
variable {P : Program} {w : World} {h h' : Heap} {a : Addr} {L : List Str}
theorem TxSet.at (R : TxSet w h a L) (k : ∀ o, h.get? a = some o → h'.get? a = some o) : TxSet w h' a L := by
  obtain ⟨o, es, ep, t, ho, r⟩ := R
  exact ⟨o, es, ep, t, k o ho, r⟩
end

section
variable {P : Program} {w : World} {A : Around} {E : Value → Shared → Prop} {s : Shared} {a : Addr} {L : List Str}
end
end Fw
namespace Fw
open PySem PySem.Spec PyProof.Rows L2
section
variable {P : Program} {w : World}
theorem StrsAt.at_ : ∀ {us : List Value} {xs : List Str}, StrsAre us xs → ∀ (i : Nat) (v : Value), us[i]? = some v → ∃ tk, v = .str (xs.getD i Str.empty) tk
  | _, _, .nil, i, v, e => by simp at e
  | _, _, .cons x t r, 0, v, e => by
    simp at e
    exact ⟨t, by rw [← e]; rfl⟩
  | _, _, .cons x t r, i + 1, v, e => by
    obtain ⟨tk, q⟩ := StrsAt.at_ r i v (by simpa using e)
    exact ⟨tk, by rw [q]; simp⟩
end
end Fw
namespace Fw
open PySem PySem.Spec PyProof.Rows L2
section
variable {P : Program} {w : World} {A : Around} {E : Value → Shared → Prop} {s : Shared}
set_option maxHeartbeats 4000000 in
end
end Fw

set_option maxRecDepth 100000
set_option maxHeartbeats 2000000
namespace Fw
open PySem PySem.Spec PyProof.Rows L2
/-- ascending, each once -/
def once : List Str → List Str
  | [] => []
  | x :: r => if x ∈ r then once r else x :: once r
/-- the set at a of the texts L -/
def SetS (w : World) (a : Addr) (L : List Str) : HO := .ext fun h => TxSet w h a L
section
variable {X : Cx}
section
variable {P : Program} {w : World} {A : Around} {E : Value → Shared → Prop} {s : Shared}
end
end
end Fw

set_option maxRecDepth 100000
set_option maxHeartbeats 2000000
namespace Fw
open PySem PySem.Spec PyProof.Rows L2
section
variable {X : Cx} {x : Str} {ps : List Str} {k : Nat} {sp : Sp} {e : Expr} {es : List Expr} {t : TA} {p pos : Pos}
end
section
variable {X : Cx} (K : PySem.W.Frag) (w : World)
end
/-- all that was tracked stands, but for what is at b -/
def Kb (b : Addr) (H H' : Hp) : Prop := ∀ a o, a ≠ b → H a = some o → H' a = some o
theorem Kb.refl (b : Addr) (H : Hp) : Kb b H H := fun _ _ _ h => h
theorem Kb.trans {b : Addr} {H H1 H2 : Hp} (x : Kb b H H1) (y : Kb b H1 H2) : Kb b H H2 := fun a o n h => y a o n (x a o n h)
theorem Kb.upd {b : Addr} {H H1 : Hp} {o : HO} (x : Kb b H H1) : Kb b H (upd H1 b o) := fun a u n h => by
  rw [upd_ne n]; exact x a u n h
theorem _root_.L2.Same.upd {H : Hp} {p : Addr} {o : HO} (h : H p = none) : Same H (upd H p o) := fun b x e => by
  rw [upd_ne (ne_of_none e h)]
  exact e
theorem Kb.new {b : Addr} {H H1 : Hp} {p : Addr} {o : HO} (x : Kb b H H1) (h : H p = none) : Kb b H (L2.upd H1 p o) := fun a u n e => by
  rw [upd_ne (ne_of_none e h)]
  exact x a u n e
open SX in
open SX in
open SX
end Fw

set_option maxRecDepth 100000
set_option maxHeartbeats 2000000
namespace Fw
open PySem PySem.Spec PyProof.Rows L2
end Fw

set_option maxRecDepth 100000
set_option maxHeartbeats 2000000
namespace Fw
open PySem PySem.Spec PyProof.Rows L2
section
variable {X : Cx} {CX : CXT} {x m : Str} {ps : List Str} {k : Nat} {sp : Sp} {E : XK} {e : Expr} {es : List Expr} {t : TA} {p apos pos : Pos} {pl : Sem Bool}
end
section
variable {X : Cx} {CX : CXT} {x m : Str} {ps : List Str} {k : Nat} {sp : Sp} {E : XK} {e : Expr} {es : List Expr} {t : TA} {p apos pos : Pos} {pl : Sem Bool}
end
section
variable {X : Cx} {CX : CXT} {x : Str} {C : Addr} {ps ks : List Str} {k n : Nat} {sp : Sp} {E : XK} {e fe : Expr} {es : List Expr} {tf : TE} {t tk : TA} {p pos : Pos} {kws : List Keyword} {gV : List V → List V → List V}
end
section
variable {X : Cx} (K : PySem.W.Frag)
end
open SX in
open SX in
open SX in
section
open He
abbrev Ex := List (PySem.W.Frag → Bool)
def obsX (ex : Ex) (fa : List Fa) (fn : List DefD) (K : PySem.W.Frag) : AlD := ((ex.all fun f => f K) && (obsD fa fn K).1, (obsD fa fn K).2)
def SaysX (ex : Ex) (fa : List Fa) (fn : List DefD) (K : PySem.W.Frag) : Prop := obsX ex fa fn K = valD fn
section
variable {ex : Ex} {fa : List Fa} {fn : List DefD} {K : PySem.W.Frag}
theorem SaysX.d (c : SaysX ex fa fn K) : SaysD fa fn K := by
  have c1 := (ba (show ((ex.all fun f => f K) && (obsD fa fn K).1) = true from congrArg (fun z : AlD => z.1) c)).2
  have c0 : obsX ex fa fn K = valD fn := c
  have c2 : (obsX ex fa fn K).2 = (valD fn).2 := by rw [c0]
  exact Prod.ext c1 c2
theorem SaysX.more (c : SaysX ex fa fn K) (i : Nat) {f : PySem.W.Frag → Bool} (h : ex[i]? = some f := by rfl) : f K = true := by
  have c1 := (ba (show ((ex.all fun f => f K) && (obsD fa fn K).1) = true from congrArg (fun z : AlD => z.1) c)).1
  exact List.all_eq_true.mp c1 f (List.mem_of_getElem? h)
end
end
end Fw

set_option maxRecDepth 100000
set_option maxHeartbeats 2000000
namespace Vs
open PySem PySem.Spec PyProof.Rows L2 Fw SX

/-- a lambda without captured names: its qualified name, parameters, body, scope -/
structure Lam where
  q : Str
  params : Arguments
  body : Expr
  scope : Scope
/-- functions as values: the tables of code objects of the defs that make lambdas; for each number a def of the module or a lambda -/
structure LT where
  tabs : List (Addr × Str)
  fn : UInt64 → Addr ⊕ Lam
/-- the object at f is the lambda L with the code object c -/
def LamO (f : Addr) (L : Lam) (c : Addr) : HO := .ext fun h => ∃ pm ctv : Value, h.get? f = some (PySem.W.kla_obj "<lambda>" L.q L.params L.body L.scope [] pm c ctv)
/-- the givens: the written part, the world, where each class of the module lies -/
structure Gm where
  K : PySem.W.Frag
  w : World
  ca : Str → Addr
  T : LT
  /-- the script: where it lies, its numbers -/
  sa : Addr
  sn : List Int

/-- data -/
inductive D where
  | non | bl (b : Bool) | int (i : Int) | str (l : List Nat)
  | lst (xs : List D) | tup (xs : List D) | dct (kvs : List (List Nat × D)) | set (xs : List (List Nat))
  | ins (c : Str) (fs : List (Str × D))
  | con (v : V)
  | scr (ns : List Int)

/-- an error: its class, its fields -/
abbrev Exn := Str × List (Str × D)
/-- a slot: without a value; data that nobody changes; a list that this slot alone holds; one that is lent to this def, and lent but not to be changed any more -/
inductive Sl where
  | un | sh (d : D) | ow (d : D) | bo (d : D) | bf (d : D) | lo (d : D)
abbrev Ve := List Sl
/-- what an expression gives: data; what the slot i alone holds; something new that nobody holds yet -/
inductive Rv where
  | val (d : D) | slot (i : Nat) | fresh (d : D)
inductive Res (α : Type) where
  | ok (a : α) (e : Ve) | er (x : Exn) (e : Ve) | no
abbrev M (α : Type) := Ve → Res α

/-- signs that a text may have -/
def OkS (l : List Nat) : Prop := ∀ c ∈ l, c < 1114112
/-- the class is a plain one, and none of the fields has its name in the class -/
def InsOk (g : Gm) (c : Str) (fs : List (Str × D)) : Prop := Cls g.K (g.ca c) ∧ ∀ q ∈ fs, NoAttr g.K (g.ca c) q.1
/-- functions that a number stands for -/
def FnR (g : Gm) (G : Hp) (i : UInt64) (v : V) : Prop := match g.T.fn i with
  | .inl a => v = .ref a
  | .inr L => ∃ f c, v = .ref f ∧ G f = some (LamO f L c) ∧ G c = some (LamX.CodeO c L.q)
/-- constants: themselves; a number of functions as .flt -/
def ConR (g : Gm) (G : Hp) : V → V → Prop
  | .flt i, v => FnR g G i v
  | u, v => v = u
mutual
def Rep (g : Gm) (G : Hp) : D → V → Prop
  | .non, v => v = .non
  | .bl b, v => v = .bl b
  | .int i, v => v = .int i
  | .str l, v => v = .str (S l) ∧ OkS l
  | .lst ds, v => ∃ a vs, v = .ref a ∧ G a = some (.lst vs) ∧ Reps g G ds vs
  | .tup ds, v => ∃ a vs, v = .ref a ∧ SqT g.K G a vs ∧ Reps g G ds vs
  | .dct kvs, v => ∃ a vs, v = .ref a ∧ G a = some (.dK vs) ∧ RepK g G kvs vs
  | .set xs, v => ∃ a L, v = .ref a ∧ G a = some (SetS g.w a L) ∧ L.Nodup ∧ ∀ k, k ∈ L ↔ k ∈ xs.map S
  | .ins c fs, v => ∃ a dx vs, v = .ref a ∧ G a = some (.ins (g.ca c) dx vs) ∧ RepF g G fs vs ∧ InsOk g c fs
  | .con u, v => ConR g G u v
  | .scr ns, v => v = .ref g.sa ∧ ns = g.sn
def Reps (g : Gm) (G : Hp) : List D → List V → Prop
  | [], vs => vs = []
  | d :: ds, vs => ∃ v r, vs = v :: r ∧ Rep g G d v ∧ Reps g G ds r
def RepK (g : Gm) (G : Hp) : List (List Nat × D) → List (Key × V) → Prop
  | [], vs => vs = []
  | (k, d) :: ds, vs => OkS k ∧ ∃ v r, vs = (.inr (S k), v) :: r ∧ Rep g G d v ∧ RepK g G ds r
def RepF (g : Gm) (G : Hp) : List (Str × D) → List (Str × V) → Prop
  | [], vs => vs = []
  | (k, d) :: ds, vs => ∃ v r, vs = (k, v) :: r ∧ Rep g G d v ∧ RepF g G ds r
end

/-- G grows -/
def Le (G G' : Hp) : Prop := ∀ a u, G a = some u → G' a = some u
theorem Le.refl (G : Hp) : Le G G := fun _ _ h => h
theorem Le.trans {G G1 G2 : Hp} (x : Le G G1) (y : Le G1 G2) : Le G G2 := fun a u h => y a u (x a u h)
theorem Le.upd {G : Hp} {p : Addr} {o : HO} (h : G p = none) : Le G (upd G p o) := fun a u e => by rw [upd_ne (ne_of_none e h)]; exact e
theorem Le.sqL {K : PySem.W.Frag} {G G' : Hp} {a : Addr} {vs : List V} (x : Le G G') (h : SqL K G a vs) : SqL K G' a vs := by
  rcases h with (h | ⟨o, h⟩) | h
  · exact .inl (.inl (x _ _ h))
  · exact .inl (.inr ⟨o, x _ _ h⟩)
  · exact .inr h
theorem Le.sqT {K : PySem.W.Frag} {G G' : Hp} {a : Addr} {vs : List V} (x : Le G G') (h : SqT K G a vs) : SqT K G' a vs := by
  rcases h with (h | ⟨o, h⟩) | h
  · exact .inl (.inl (x _ _ h))
  · exact .inl (.inr ⟨o, x _ _ h⟩)
  · exact .inr h
theorem ConR.mono {g : Gm} {G G' : Hp} (h : Le G G') : ∀ {u v : V}, ConR g G u v → ConR g G' u v
  | .flt i, v, r => by
    show FnR g G' i v
    have r : FnR g G i v := r
    unfold FnR at r ⊢
    split at r
    · exact r
    · obtain ⟨f, c, e, a, b⟩ := r
      exact ⟨f, c, e, h _ _ a, h _ _ b⟩
  | .non, _, r => r
  | .bl _, _, r => r
  | .int _, _, r => r
  | .str _, _, r => r
  | .byt _, _, r => r
  | .ref _, _, r => r
  | .ty _, _, r => r
mutual
theorem Rep.mono {g : Gm} {G G' : Hp} (h : Le G G') : ∀ {d : D} {v : V}, Rep g G d v → Rep g G' d v
  | .non, _, r => r
  | .bl _, _, r => r
  | .int _, _, r => r
  | .str _, _, r => r
  | .lst _, _, ⟨a, vs, e, q, r⟩ => ⟨a, vs, e, h _ _ q, Reps.mono h r⟩
  | .tup _, _, ⟨a, vs, e, q, r⟩ => ⟨a, vs, e, h.sqT q, Reps.mono h r⟩
  | .dct _, _, ⟨a, vs, e, q, r⟩ => ⟨a, vs, e, h _ _ q, RepK.mono h r⟩
  | .set _, _, ⟨a, L, e, q, r⟩ => ⟨a, L, e, h _ _ q, r⟩
  | .ins _ _, _, ⟨a, dx, vs, e, q, r, k⟩ => ⟨a, dx, vs, e, h _ _ q, RepF.mono h r, k⟩
  | .con _, _, r => ConR.mono h r
  | .scr _, _, r => r
theorem Reps.mono {g : Gm} {G G' : Hp} (h : Le G G') : ∀ {ds : List D} {vs : List V}, Reps g G ds vs → Reps g G' ds vs
  | [], _, r => r
  | _ :: _, _, ⟨v, r, e, p, q⟩ => ⟨v, r, e, Rep.mono h p, Reps.mono h q⟩
theorem RepK.mono {g : Gm} {G G' : Hp} (h : Le G G') : ∀ {ds : List (List Nat × D)} {vs : List (Key × V)}, RepK g G ds vs → RepK g G' ds vs
  | [], _, r => r
  | (_, _) :: _, _, ⟨ok, v, r, e, p, q⟩ => ⟨ok, v, r, e, Rep.mono h p, RepK.mono h q⟩
theorem RepF.mono {g : Gm} {G G' : Hp} (h : Le G G') : ∀ {ds : List (Str × D)} {vs : List (Str × V)}, RepF g G ds vs → RepF g G' ds vs
  | [], _, r => r
  | (_, _) :: _, _, ⟨v, r, e, p, q⟩ => ⟨v, r, e, Rep.mono h p, RepF.mono h q⟩
end

/-- the object at p, held by one slot or by none yet: its own things are data of G -/
def Own (g : Gm) (G H : Hp) (p : Addr) : D → Prop
  | .lst ds => ∃ vs, H p = some (.lst vs) ∧ Reps g G ds vs
  | .dct kvs => ∃ vs, H p = some (.dK vs) ∧ RepK g G kvs vs
  | .ins c fs => ∃ dx vs, H p = some (.ins (g.ca c) dx vs) ∧ RepF g G fs vs ∧ InsOk g c fs
  | _ => False
theorem Own.mono {g : Gm} {G G' H H' : Hp} {p : Addr} (h : Le G G') (e : H' p = H p) : ∀ {d : D}, Own g G H p d → Own g G' H' p d
  | .lst _, ⟨vs, a, r⟩ => ⟨vs, e.trans a, r.mono h⟩
  | .dct _, ⟨vs, a, r⟩ => ⟨vs, e.trans a, r.mono h⟩
  | .ins _ _, ⟨dx, vs, a, r, k⟩ => ⟨dx, vs, e.trans a, r.mono h, k⟩
/-- a list, a dict, an instance -/
def Pln : HO → Prop
  | .lst _ => True
  | .dK _ => True
  | .ins _ _ _ => True
  | _ => False
theorem Pln.nf {o : HO} (h : Pln o) (ob : Obj) (u : HO) : o ≠ .frz ob u := fun z => by subst z; exact h
theorem Pln.nt {o : HO} (h : Pln o) (ps : Array Value) : o ≠ .tbl ps := fun z => by subst z; exact h
theorem Own.there {g : Gm} {G H : Hp} {p : Addr} : ∀ {d : D}, Own g G H p d → ∃ o, H p = some o ∧ Pln o ∧ ∀ {G' : Hp}, Le G G' → G' p = some o → Rep g G' d (.ref p)
  | .lst _, ⟨vs, a, r⟩ => ⟨_, a, trivial, fun le q => ⟨p, vs, rfl, q, r.mono le⟩⟩
  | .dct _, ⟨vs, a, r⟩ => ⟨_, a, trivial, fun le q => ⟨p, vs, rfl, q, r.mono le⟩⟩
  | .ins _ _, ⟨dx, vs, a, r, k⟩ => ⟨_, a, trivial, fun le q => ⟨p, dx, vs, rfl, q, r.mono le, k⟩⟩

/-- .. that may be locked -/
def OwnR (g : Gm) (G H : Hp) (p : Addr) : D → Prop
  | .lst ds => ∃ vs, H p = some (.lst vs) ∧ Reps g G ds vs
  | .dct kvs => ∃ vs, Rd H p (.dK vs) ∧ RepK g G kvs vs
  | .ins c fs => ∃ dx vs, H p = some (.ins (g.ca c) dx vs) ∧ RepF g G fs vs ∧ InsOk g c fs
  | _ => False
theorem Own.r {g : Gm} {G H : Hp} {p : Addr} : ∀ {d : D}, Own g G H p d → OwnR g G H p d
  | .lst _, h => h
  | .dct _, ⟨vs, a, r⟩ => ⟨vs, .of a, r⟩
  | .ins _ _, h => h
/-- a locked dict or list -/
def LoD (g : Gm) (G H : Hp) (p : Addr) : D → Prop
  | .lst ds => ∃ ob vs, H p = some (.frz ob (.lst vs)) ∧ Reps g G ds vs
  | .dct kvs => ∃ ob vs, H p = some (.frz ob (.dK vs)) ∧ RepK g G kvs vs
  | _ => False
theorem LoD.mono {g : Gm} {G G' H H' : Hp} {p : Addr} (h : Le G G') (e : H' p = H p) : ∀ {d : D}, LoD g G H p d → LoD g G' H' p d
  | .lst _, ⟨ob, vs, a, r⟩ => ⟨ob, vs, e.trans a, r.mono h⟩
  | .dct _, ⟨ob, vs, a, r⟩ => ⟨ob, vs, e.trans a, r.mono h⟩
theorem LoD.there {g : Gm} {G H : Hp} {p : Addr} : ∀ {d : D}, LoD g G H p d → ∃ ob u, H p = some (.frz ob u) ∧ ∀ kvs, d = .dct kvs → OwnR g G H p d
  | .lst _, ⟨ob, vs, a, r⟩ => ⟨ob, _, a, fun _ z => nomatch z⟩
  | .dct _, ⟨ob, vs, a, r⟩ => ⟨ob, _, a, fun _ _ => ⟨vs, .inr ⟨ob, a⟩, r⟩⟩
def SlOk (g : Gm) (G H : Hp) : Option Sl → Option (Option V) → Prop
  | some (.sh d), o => ∃ v, o = some (some v) ∧ Rep g G d v
  | some (.bf d), o => ∃ v, o = some (some v) ∧ Rep g G d v
  | some (.ow d), o => ∃ p, o = some (some (.ref p)) ∧ G p = none ∧ Own g G H p d
  | some (.bo d), o => ∃ p, o = some (some (.ref p)) ∧ G p = none ∧ Own g G H p d
  | some (.lo d), o => ∃ p, o = some (some (.ref p)) ∧ G p = none ∧ LoD g G H p d
  | _, _ => True
def IsOw : Option Sl → Prop
  | some (.ow _) => True
  | some (.bo _) => True
  | _ => False
/-- the slot i alone holds p -/
def Rt (σ : L2.St) (e : Ve) (i : Nat) (p : Addr) : Prop := IsOw e[i]? ∧ σ[i]? = some (some (.ref p))
def canFrz : HO → Bool
  | .dK _ => true
  | _ => false
/-- G lies in H -/
structure Bs (G H : Hp) : Prop where
  pl : ∀ a o u, G a ≠ some (.frz o u)
  sub : ∀ a u, G a = some u → H a = some u ∨ (canFrz u = true ∧ ∃ o, H a = some (.frz o u))
/-- the tables of code objects: empty, or with code objects of their one name, which stay -/
def Tabs2 (T : List (Addr × Str)) (G H : Hp) : Prop := ∀ p ∈ T, ∃ ps : Array Value, H p.1 = some (.tbl ps) ∧ G p.1 = none ∧ TriplesOk ps.toList ∧ ∀ (pos : Pos) (cv : Value), codeAmong pos ps.toList = some cv → ∃ c, cv = .ref c ∧ G c = some (LamX.CodeO c p.2)
theorem Tabs2.mono {T : List (Addr × Str)} {G G' H : Hp} (t : Tabs2 T G H) (h : Le G G') (hn : ∀ a ps, H a = some (.tbl ps) → G a = none → G' a = none) : Tabs2 T G' H := fun q hq => by
  obtain ⟨ps, h1, hg, h2, h3⟩ := t q hq
  refine ⟨ps, h1, hn _ _ h1 hg, h2, fun pos cv hc => ?_⟩
  obtain ⟨c, e1, e2⟩ := h3 pos cv hc
  exact ⟨c, e1, h _ _ e2⟩
theorem Tabs2.kept {T : List (Addr × Str)} {G H H' : Hp} (t : Tabs2 T G H) (h : ∀ a ps, H a = some (.tbl ps) → H' a = some (.tbl ps)) : Tabs2 T G H' := fun q hq => by
  obtain ⟨ps, h1, hg, h2, h3⟩ := t q hq
  exact ⟨ps, h _ _ h1, hg, h2, h3⟩
theorem Tabs2.tabs {T : List (Addr × Str)} {G H : Hp} (t : Tabs2 T G H) (b : ∀ a u, G a = some u → H a = some u ∨ (canFrz u = true ∧ ∃ o, H a = some (.frz o u))) : LamX.Tabs T H := fun q hq => by
  obtain ⟨ps, h1, hg, h2, h3⟩ := t q hq
  refine ⟨ps, h1, h2, fun pos cv hc => ?_⟩
  obtain ⟨c, e1, e2⟩ := h3 pos cv hc
  rcases b _ _ e2 with z | ⟨z, _⟩
  · exact ⟨c, e1, z⟩
  · cases z
/-- the script: locked, or an object of the module, or a list that stays -/
def ScrOk (g : Gm) (G H : Hp) : Prop := (∃ o, H g.sa = some (.frz o (.lst (g.sn.map .int)))) ∨ (∀ H', SqL g.K H' g.sa (g.sn.map .int)) ∨ G g.sa = some (.lst (g.sn.map .int))
theorem ScrOk.keep {g : Gm} {G H H' : Hp} (k : ∀ o u, H g.sa = some (.frz o (.lst u)) → H' g.sa = some (.frz o (.lst u))) : ScrOk g G H → ScrOk g G H'
  | .inl ⟨o, h⟩ => .inl ⟨o, k _ _ h⟩
  | .inr h => .inr h
theorem ScrOk.mono {g : Gm} {G G' H : Hp} (le : Le G G') : ScrOk g G H → ScrOk g G' H
  | .inl h => .inl h
  | .inr (.inl h) => .inr (.inl h)
  | .inr (.inr h) => .inr (.inr (le _ _ h))
structure SR (g : Gm) (G H : Hp) (σ : L2.St) (e : Ve) : Prop where
  bs : Bs G H
  tabs : Tabs2 g.T.tabs G H
  scr : ScrOk g G H
  len : e.length = σ.length
  slot : ∀ i : Nat, SlOk g G H e[i]? σ[i]?
  inj : ∀ i j p, Rt σ e i p → Rt σ e j p → i = j
def SlLe : Sl → Sl → Prop
  | .un, s => s = .un
  | .sh d, s => s = .sh d
  | .bf d, s => s = .bf d
  | .lo d, s => s = .lo d
  | .ow _, s => ∃ d, s = .ow d ∨ s = .sh d
  | .bo _, s => ∃ d, s = .bo d ∨ s = .bf d
structure VeLe (e e' : Ve) : Prop where
  len : e'.length = e.length
  at_ : ∀ (i : Nat) s, e[i]? = some s → ∃ s', e'[i]? = some s' ∧ SlLe s s'
/-- lent and frozen, or locked: not to be stored -/
def fixS : Sl → Bool
  | .bf _ => true
  | .lo _ => true
  | _ => false
/-- a step of a body: slots may be stored too -/
structure St (g : Gm) (G H : Hp) (σ : L2.St) (e : Ve) (G' H' : Hp) (σ' : L2.St) (e' : Ve) : Prop where
  sr : SR g G' H' σ' e'
  ln : e'.length = e.length
  le : Le G G'
  keep : ∀ a o, H a = some o → (∀ i, ¬ Rt σ e i a) → (∀ ps, o ≠ .tbl ps) → H' a = some o
  dom : ∀ a, H' a = none → H a = none
  new : ∀ a, G a = none → H a ≠ none → (∀ i, ¬ Rt σ e i a) → G' a = none
  rts : ∀ i p, Rt σ' e' i p → (∃ j, Rt σ e j p) ∨ H p = none
  rto : ∀ (i : Nat) d p, e'[i]? = some (.ow d) → σ'[i]? = some (some (.ref p)) → (∃ (j : Nat) (d0 : D), e[j]? = some (.ow d0) ∧ σ[j]? = some (some (.ref p))) ∨ H p = none
  bor : ∀ (i : Nat) d, e[i]? = some (.bo d) → σ'[i]? = σ[i]? ∧ ∃ d', e'[i]? = some (.bo d') ∨ e'[i]? = some (.bf d')
  bof : ∀ (i : Nat) s, e[i]? = some s → fixS s = true → σ'[i]? = σ[i]? ∧ e'[i]? = some s
  nlo : ∀ (i : Nat) d, e'[i]? = some (.lo d) → e[i]? = some (.lo d)
/-- a step of an expression: the slots stay -/
structure Tr (g : Gm) (σ : L2.St) (G H : Hp) (e : Ve) (G' H' : Hp) (e' : Ve) : Prop where
  sr : SR g G' H' σ e'
  le : Le G G'
  keep : ∀ a o, H a = some o → (∀ i, ¬ Rt σ e i a) → (∀ ps, o ≠ .tbl ps) → H' a = some o
  dom : ∀ a, H' a = none → H a = none
  new : ∀ a, G a = none → H a ≠ none → (∀ i, ¬ Rt σ e i a) → G' a = none
  ve : VeLe e e'

section
variable {g : Gm} {G H G1 H1 G2 H2 : Hp} {σ σ1 σ2 : L2.St} {e e1 e2 : Ve}
theorem isOw_back {s s' : Sl} (h : SlLe s s') (o : IsOw (some s')) : IsOw (some s) := by
  cases s with
  | un => cases h; exact o
  | sh d => cases h; exact o
  | bf d => cases h; exact o
  | lo d => cases h; exact o
  | ow d => trivial
  | bo d => trivial
theorem VeLe.refl (e : Ve) : VeLe e e := ⟨rfl, fun i s h => ⟨s, h, by cases s <;> simp [SlLe]⟩⟩
theorem SlLe.trans {a b c : Sl} (h : SlLe a b) (k : SlLe b c) : SlLe a c := by
  cases a with
  | un => cases h; exact k
  | sh d => cases h; exact k
  | bf d => cases h; exact k
  | lo d => cases h; exact k
  | ow d =>
    obtain ⟨d1, rfl | rfl⟩ := h
    · exact k
    · cases k; exact ⟨_, .inr rfl⟩
  | bo d =>
    obtain ⟨d1, rfl | rfl⟩ := h
    · exact k
    · cases k; exact ⟨_, .inr rfl⟩
theorem VeLe.trans (a : VeLe e e1) (b : VeLe e1 e2) : VeLe e e2 := ⟨b.len.trans a.len, fun i s h => by
  obtain ⟨s1, h1, l1⟩ := a.at_ i s h
  obtain ⟨s2, h2, l2⟩ := b.at_ i s1 h1
  exact ⟨s2, h2, l1.trans l2⟩⟩
theorem VeLe.rt (v : VeLe e e1) {i : Nat} {p : Addr} (r : Rt σ e1 i p) : Rt σ e i p := by
  refine ⟨?_, r.2⟩
  cases q : e[i]? with
  | none =>
    have h1 : e1[i]? = none := by
      rw [List.getElem?_eq_none_iff] at q ⊢
      rw [v.len]; exact q
    have := r.1
    rw [h1] at this
    exact this.elim
  | some s =>
    obtain ⟨s', h1, l⟩ := v.at_ i s q
    have := r.1
    rw [h1] at this
    exact isOw_back l this
theorem VeLe.owB (v : VeLe e e1) {i : Nat} {d : D} {p : Addr} (h1 : e1[i]? = some (.ow d)) (h2 : σ[i]? = some (some (.ref p))) : ∃ (j : Nat) (d0 : D), e[j]? = some (.ow d0) ∧ σ[j]? = some (some (.ref p)) := by
  cases q : e[i]? with
  | none =>
    rw [List.getElem?_eq_none_iff, ← v.len, ← List.getElem?_eq_none_iff] at q
    rw [q] at h1; cases h1
  | some s =>
    obtain ⟨s', h', l⟩ := v.at_ i s q
    rw [h1] at h'; cases h'
    cases s with
    | un => cases l
    | sh d => cases l
    | bf d => cases l
    | lo d => cases l
    | ow d0 => exact ⟨i, d0, q, h2⟩
    | bo d0 => obtain ⟨d', z | z⟩ := l <;> cases z
theorem VeLe.nlo (v : VeLe e e1) {i : Nat} {d : D} (h1 : e1[i]? = some (.lo d)) : e[i]? = some (.lo d) := by
  cases q : e[i]? with
  | none =>
    rw [List.getElem?_eq_none_iff, ← v.len, ← List.getElem?_eq_none_iff] at q
    rw [q] at h1; cases h1
  | some s =>
    obtain ⟨s', h', l⟩ := v.at_ i s q
    rw [h1] at h'; cases h'
    cases s with
    | un => cases l
    | sh d => cases l
    | bf d => cases l
    | lo d => cases l; rfl
    | ow d0 => obtain ⟨d', z | z⟩ := l <;> cases z
    | bo d0 => obtain ⟨d', z | z⟩ := l <;> cases z
theorem Tr.refl (s : SR g G H σ e) : Tr g σ G H e G H e := ⟨s, Le.refl G, fun _ _ h _ _ => h, fun _ h => h, fun _ h _ _ => h, VeLe.refl e⟩
theorem Tr.trans (a : Tr g σ G H e G1 H1 e1) (b : Tr g σ G1 H1 e1 G2 H2 e2) : Tr g σ G H e G2 H2 e2 :=
  ⟨b.sr, a.le.trans b.le, fun x o h n nt => b.keep x o (a.keep x o h n nt) (fun i r => n i (a.ve.rt r)) nt, fun x h => a.dom x (b.dom x h), fun x h1 h2 n => by
    exact b.new x (a.new x h1 h2 n) (fun z => h2 (a.dom x z)) fun i r => n i (a.ve.rt r), a.ve.trans b.ve⟩
theorem Tr.st (a : Tr g σ G H e G1 H1 e1) : St g G H σ e G1 H1 σ e1 :=
  ⟨a.sr, a.ve.len, a.le, a.keep, a.dom, a.new, fun i p r => .inl ⟨i, a.ve.rt r⟩, fun i d p h1 h2 => .inl (a.ve.owB h1 h2), fun i d h => ⟨rfl, by
    obtain ⟨s', h1, d', l⟩ := a.ve.at_ i _ h
    rcases l with rfl | rfl
    · exact ⟨d', .inl h1⟩
    · exact ⟨d', .inr h1⟩⟩, fun i s h fx => ⟨rfl, by
    obtain ⟨s', h1, l⟩ := a.ve.at_ i _ h
    cases s with
    | bf d => cases l; exact h1
    | lo d => cases l; exact h1
    | _ => cases fx⟩, fun i d h => a.ve.nlo h⟩
theorem St.refl (s : SR g G H σ e) : St g G H σ e G H σ e := (Tr.refl s).st
theorem St.trans (a : St g G H σ e G1 H1 σ1 e1) (b : St g G1 H1 σ1 e1 G2 H2 σ2 e2) : St g G H σ e G2 H2 σ2 e2 := by
  have nr : ∀ x o, H x = some o → (∀ i, ¬ Rt σ e i x) → ∀ i, ¬ Rt σ1 e1 i x := fun x o h n i r => by
    rcases a.rts i x r with ⟨j, q⟩ | q
    · exact n j q
    · rw [h] at q; cases q
  refine ⟨b.sr, b.ln.trans a.ln, a.le.trans b.le, fun x o h n nt => b.keep x o (a.keep x o h n nt) (nr x o h n) nt, fun x h => a.dom x (b.dom x h), fun x h1 h2 n => ?_, fun i p r => ?_, fun i d p h1 h2 => ?_, fun i d h => ?_, fun i s h fx => ?_, fun i d h => a.nlo i d (b.nlo i d h)⟩
  · obtain ⟨o, ho⟩ := Option.ne_none_iff_exists'.mp h2
    exact b.new x (a.new x h1 h2 n) (fun z => h2 (a.dom x z)) (nr x o ho n)
  · rcases b.rts i p r with ⟨j, q⟩ | q
    · exact a.rts j p q
    · exact .inr (a.dom p q)
  · rcases b.rto i d p h1 h2 with ⟨j, d0, x, y⟩ | x
    · exact a.rto j d0 p x y
    · exact .inr (a.dom p x)
  · obtain ⟨x1, d1, y1⟩ := a.bor i d h
    rcases y1 with y1 | y1
    · obtain ⟨x2, y2⟩ := b.bor i d1 y1
      exact ⟨x2.trans x1, y2⟩
    · obtain ⟨x2, y2⟩ := b.bof i _ y1 rfl
      exact ⟨x2.trans x1, d1, .inr y2⟩
  · obtain ⟨x1, y1⟩ := a.bof i s h fx
    obtain ⟨x2, y2⟩ := b.bof i s y1 fx
    exact ⟨x2.trans x1, y2⟩
theorem Bs.hn (b : Bs G H) {p : Addr} (h : H p = none) : G p = none := by
  cases q : G p with
  | none => rfl
  | some u =>
    rcases b.sub p u q with z | ⟨_, o, z⟩
    · rw [h] at z; cases z
    · rw [h] at z; cases z
theorem Bs.rd (b : Bs G H) {p : Addr} {u : HO} (h : Rd G p u) : Rd H p u := by
  rcases h with h | ⟨o, h⟩
  · rcases b.sub p u h with z | ⟨_, o, z⟩
    · exact .inl z
    · exact .inr ⟨o, z⟩
  · exact absurd h (b.pl p o u)
theorem Bs.sqL {K : PySem.W.Frag} (b : Bs G H) {a : Addr} {vs : List V} (h : SqL K G a vs) : SqL K H a vs := by
  rcases h with h | h
  · exact .inl (b.rd h)
  · exact .inr h
theorem Bs.sqT {K : PySem.W.Frag} (b : Bs G H) {a : Addr} {vs : List V} (h : SqT K G a vs) : SqT K H a vs := by
  rcases h with h | h
  · exact .inl (b.rd h)
  · exact .inr h
theorem Bs.at_ (b : Bs G H) {a : Addr} {u : HO} (h : G a = some u) (c : canFrz u = false) : H a = some u := by
  rcases b.sub a u h with z | ⟨z, _⟩
  · exact z
  · rw [c] at z; cases z
/-- what stands in H is frozen -/
theorem Bs.frz (b : Bs G H) {p : Addr} {o : HO} (h : H p = some o) (hf : ∀ ob u, o ≠ .frz ob u) : Bs (upd G p o) H := by
  refine ⟨fun a ob u e => ?_, fun a u e => ?_⟩
  · by_cases z : a = p
    · rw [z, upd_same] at e; exact hf ob u (Option.some.inj e)
    · rw [upd_ne z] at e; exact b.pl a ob u e
  · by_cases z : a = p
    · subst z; rw [upd_same] at e; rw [← Option.some.inj e]; exact .inl h
    · rw [upd_ne z] at e; exact b.sub a u e
/-- things that are new come, nothing else changes -/
structure Grow (G H G' H' : Hp) : Prop where
  bs : Bs G' H'
  le : Le G G'
  keep : ∀ a o, H a = some o → H' a = some o
  new : ∀ a, G a = none → H a ≠ none → G' a = none
theorem Grow.dom (w : Grow G H G1 H1) (a : Addr) (h : H1 a = none) : H a = none := by
  cases q : H a with
  | none => rfl
  | some o => rw [w.keep a o q] at h; cases h
theorem Grow.refl (b : Bs G H) : Grow G H G H := ⟨b, Le.refl G, fun _ _ h => h, fun _ h _ => h⟩
theorem Grow.trans (a : Grow G H G1 H1) (b : Grow G1 H1 G2 H2) : Grow G H G2 H2 := ⟨b.bs, a.le.trans b.le, fun x o h => b.keep x o (a.keep x o h), fun x h1 h2 => by
  obtain ⟨o, ho⟩ := Option.ne_none_iff_exists'.mp h2
  exact b.new x (a.new x h1 h2) (by rw [a.keep x o ho]; exact fun z => nomatch z)⟩
end

/-- H0: the heap ahead of the expression -/
def RvOk (g : Gm) (G H : Hp) (σ : L2.St) (e : Ve) (H0 : Hp) : Rv → V → Prop
  | .val d, v => Rep g G d v
  | .slot i, v => σ[i]? = some (some v) ∧ ∃ s, e[i]? = some s ∧ s ≠ .un
  | .fresh d, v => ∃ p, v = .ref p ∧ G p = none ∧ Own g G H p d ∧ H0 p = none ∧ ∀ i, ¬ Rt σ e i p
theorem RvOk.h0 {g : Gm} {G H H0 H00 : Hp} {σ : L2.St} {e : Ve} (k : ∀ p, H0 p = none → H00 p = none) : ∀ {r : Rv} {v : V}, RvOk g G H σ e H0 r v → RvOk g G H σ e H00 r v
  | .val d, _, h => h
  | .slot i, _, h => h
  | .fresh d, _, ⟨p, ev, n, o, h0, nr⟩ => ⟨p, ev, n, o, k p h0, nr⟩
def XOk (g : Gm) (G : Hp) (x : Exn) (cls : Value) (d : Option Addr) : Prop :=
  cls = .ref (g.ca x.1) ∧ ((d = none ∧ x.2 = []) ∨ ∃ da fs, d = some da ∧ G da = some (.xd fs) ∧ RepF g G x.2 fs)

/-- what must hold behind a run from a state -/
def Pst {α : Type} (g : Gm) (W : WX) (σ : L2.St) (G H : Hp) (e : Ve) (R : α → Hp → Hp → Ve → Prop) : Res α → Prop
  | .ok a e' => ∀ G' H', Tr g σ G H e G' H' e' → R a G' H' e'
  | .er x e' => ∀ cls d G' H', Tr g σ G H e G' H' e' → XOk g G' x cls d → W cls d σ H'
  | .no => False
def M.bind {α β : Type} (f : M α) (k : α → M β) : M β := fun e => match f e with
  | .ok a e' => k a e'
  | .er x e' => .er x e'
  | .no => .no
def M.ret {α : Type} (a : α) : M α := fun e => .ok a e
def M.map {α β : Type} (f : M α) (k : α → β) : M β := M.bind f fun a => M.ret (k a)
section
variable {g : Gm} {W : WX} {σ : L2.St} {G H : Hp} {e : Ve} {α β : Type}
theorem Pst.mono {R R' : α → Hp → Hp → Ve → Prop} {r : Res α} (h : Pst g W σ G H e R r) (k : ∀ a G' H' e', Tr g σ G H e G' H' e' → R a G' H' e' → R' a G' H' e') : Pst g W σ G H e R' r := by
  cases r with
  | ok a e' => exact fun G' H' t => k a G' H' e' t (h G' H' t)
  | er x e' => exact h
  | no => exact h
theorem Pst.bind {R : β → Hp → Hp → Ve → Prop} {f : M α} {k : α → M β} (h : Pst g W σ G H e R (M.bind f k e)) : Pst g W σ G H e (fun a G1 H1 e1 => Pst g W σ G1 H1 e1 (fun b G2 H2 e2 => R b G2 H2 e2) (k a e1)) (f e) := by
  unfold M.bind at h
  revert h
  cases f e with
  | no => exact fun h => h
  | er x e' => exact fun h => h
  | ok a e1 =>
    intro h G1 H1 t1
    show Pst g W σ G1 H1 e1 _ (k a e1)
    have h : Pst g W σ G H e R (k a e1) := h
    revert h
    cases k a e1 with
    | no => exact fun h => h
    | er x e' => exact fun h cls d G' H' t2 => h cls d G' H' (t1.trans t2)
    | ok b e2 => exact fun h G' H' t2 => h G' H' (t1.trans t2)
end

/-- each with the heap ahead of its own expression: what is new in it was not there, and the ones ahead of it are kept -/
def RvsOk (g : Gm) (G H : Hp) (σ : L2.St) (e : Ve) (H0 : Hp) : List Rv → List V → Prop
  | [], vs => vs = []
  | r :: rs, vs => ∃ v t, vs = v :: t ∧ RvOk g G H σ e H0 r v ∧ RvsOk g G H σ e H0 rs t ∧ ∀ d p, r = .fresh d → v = .ref p → ∀ d' u, (.fresh d', u) ∈ rs.zip t → u ≠ .ref p
inductive Ctl where
  | nx | rt (r : Rv) | bk | ct
end Vs

set_option maxRecDepth 100000
set_option maxHeartbeats 2000000
namespace Vs
open PySem PySem.Spec PyProof.Rows L2 Fw SX

/-- room, and no repr is under way -/
structure Rm (k : Nat) (A : Around) : Prop extends Room k A where
  gd : A.guards = some []
theorem Rm.mono {j k : Nat} {A : Around} (r : Rm k A) (h : j ≤ k) : Rm j A := ⟨r.toRoom.mono h, r.gd⟩
theorem make_guards {A : Around} {C : Addr} {us : List Value} {kw : List (Str × Value)} : (A.under (.builtin "type.__call__" ⟨.ref C :: us, kw⟩)).guards = pushGuards [] A.guards := by
  first | rfl | simp [Around.under, Code.guards, Code.isGuard, guardIds]
theorem Rm.make {k : Nat} {A : Around} (r : Rm (k + 1) A) (C : Addr) (us : List Value) (kw : List (Str × Value)) : Rm k (A.under (.builtin "type.__call__" ⟨.ref C :: us, kw⟩)) := ⟨r.toRoom.make C us kw, by rw [make_guards, r.gd]; rfl⟩
theorem PE.imp {X : Cx} {e : Expr} {t t' : TE} (h : PE X e t) (k : ∀ σ H Q, t' σ H Q → t σ H Q) : PE X e t' := ⟨fun pins s σ H Q I q => h.run pins s σ H Q I (k σ H Q q)⟩
theorem PT.imp {X : Cx} {e : Expr} {t t' : TT} (h : PT X e t) (k : ∀ σ H Q, t' σ H Q → t σ H Q) : PT X e t' := ⟨fun pins s σ H Q I q => h.run pins s σ H Q I (k σ H Q q)⟩
theorem PA.imp {X : Cx} {e : List Expr} {t t' : TA} (h : PA X e t) (k : ∀ σ H Q, t' σ H Q → t σ H Q) : PA X e t' := ⟨fun pos pins s σ H Q I q => h.run pos pins s σ H Q I (k σ H Q q)⟩
theorem PS.imp {X : Cx} {st : Stmt} {t t' : TS} (h : PS X st t) (k : ∀ D σ H, t' D σ H → t D σ H) : PS X st t' := ⟨fun pins s σ H D I q => h.run pins s σ H D I (k D σ H q)⟩
theorem PSs.imp {X : Cx} {st : List Stmt} {t t' : TS} (h : PSs X st t) (k : ∀ D σ H, t' D σ H → t D σ H) : PSs X st t' := ⟨fun pins s σ H D I q => h.run pins s σ H D I (k D σ H q)⟩

section
variable {g : Gm} {W : WX} {k : Nat} {X : Cx}
end

/-- data, its own object perhaps held by one slot -/
def RepH (g : Gm) (G H : Hp) (d : D) (v : V) : Prop := Rep g G d v ∨ ∃ p, v = .ref p ∧ G p = none ∧ OwnR g G H p d
section
variable {g : Gm} {W : WX} {k : Nat} {X : Cx} {G H G1 H1 H0 : Hp} {σ : L2.St} {e e1 e2 : Ve} {r : Rv} {v : V} {d : D}
theorem getElem?_set' {α : Type} (l : List α) (i j : Nat) (a : α) : (l.set i a)[j]? = if i = j ∧ i < l.length then some a else l[j]? := by
  by_cases h : i = j
  · subst h
    by_cases h2 : i < l.length
    · rw [List.getElem?_set_self h2, if_pos ⟨rfl, h2⟩]
    · rw [if_neg (fun z => h2 z.2), List.getElem?_eq_none (by simpa using h2), List.getElem?_eq_none (by omega)]
  · rw [List.getElem?_set_ne h, if_neg (fun z => h z.1)]
theorem lt_of_some {α : Type} {l : List α} {i : Nat} {a : α} (h : l[i]? = some a) : i < l.length := (List.getElem?_eq_some_iff.mp h).1
/-- the slot i's object is frozen -/
theorem SR.frz {i : Nat} {s : Sl} (sr : SR g G H σ e) (hi : e[i]? = some s) (s' : Sl) (hs : (s = .ow d ∧ s' = .sh d) ∨ (s = .bo d ∧ s' = .bf d)) : ∃ p o, σ[i]? = some (some (.ref p)) ∧ H p = some o ∧ Pln o ∧ G p = none ∧ Rep g (upd G p o) d (.ref p) ∧ SR g (upd G p o) H σ (e.set i s') ∧ VeLe e (e.set i s') := by
  have sl := sr.slot i
  rw [hi] at sl
  have sl2 : ∃ p, σ[i]? = some (some (.ref p)) ∧ G p = none ∧ Own g G H p d := by
    rcases hs with ⟨rfl, _⟩ | ⟨rfl, _⟩
    · exact sl
    · exact sl
  obtain ⟨p, ep, n, o⟩ := sl2
  obtain ⟨ob, ho, nf, mk⟩ := o.there
  have le := Le.upd (o := ob) n
  have rp := mk le upd_same
  have hlt := lt_of_some hi
  have rti : Rt σ e i p := by
    refine ⟨?_, ep⟩
    rw [hi]
    rcases hs with ⟨rfl, _⟩ | ⟨rfl, _⟩ <;> trivial
  have hns : ¬ IsOw (some s') := by
    rcases hs with ⟨_, rfl⟩ | ⟨_, rfl⟩ <;> exact fun z => z
  have nrt : ∀ j q, Rt σ (e.set i s') j q → Rt σ e j q ∧ j ≠ i := fun j q r => by
    have h1 := r.1
    rw [getElem?_set'] at h1
    by_cases hj : i = j
    · subst hj
      rw [if_pos ⟨rfl, hlt⟩] at h1
      exact absurd h1 hns
    · rw [if_neg (fun z => hj z.1)] at h1
      exact ⟨⟨h1, r.2⟩, fun z => hj z.symm⟩
  refine ⟨p, ob, ep, ho, nf, n, rp, ⟨sr.bs.frz ho nf.nf, sr.tabs.mono (Le.upd n) (fun a ps e m => by rw [upd_ne (fun z => by rw [z, ho] at e; exact nf.nt ps (Option.some.inj e))]; exact m), sr.scr.mono (Le.upd n), by rw [List.length_set]; exact sr.len, fun j => ?_, fun j l q a b => sr.inj j l q (nrt j q a).1 (nrt l q b).1⟩, ⟨by rw [List.length_set], fun j t ht => ?_⟩⟩
  · by_cases hj : i = j
    · subst hj
      rw [getElem?_set', if_pos ⟨rfl, hlt⟩]
      rcases hs with ⟨_, rfl⟩ | ⟨_, rfl⟩
      · exact ⟨_, ep, rp⟩
      · exact ⟨_, ep, rp⟩
    · rw [getElem?_set', if_neg (fun z => hj z.1)]
      have slj := sr.slot j
      cases q : e[j]? with
      | none => trivial
      | some t =>
        rw [q] at slj
        have ne : ∀ p', Rt σ e j p' → p' ≠ p := fun p' r z => by
          subst z
          exact hj (sr.inj i j p' rti r)
        cases t with
        | un => trivial
        | sh d => obtain ⟨v, ev, r⟩ := slj; exact ⟨v, ev, r.mono le⟩
        | bf d => obtain ⟨v, ev, r⟩ := slj; exact ⟨v, ev, r.mono le⟩
        | lo d =>
          obtain ⟨p', ev, n', r⟩ := slj
          obtain ⟨ob', u', ho', _⟩ := r.there
          exact ⟨p', ev, by rw [upd_ne (fun z => by rw [z, ho] at ho'; exact nf.nf _ _ (Option.some.inj ho'))]; exact n', r.mono le rfl⟩
        | ow d => obtain ⟨p', ev, n', r⟩ := slj; exact ⟨p', ev, by rw [upd_ne (ne p' ⟨by rw [q]; trivial, ev⟩)]; exact n', r.mono le rfl⟩
        | bo d => obtain ⟨p', ev, n', r⟩ := slj; exact ⟨p', ev, by rw [upd_ne (ne p' ⟨by rw [q]; trivial, ev⟩)]; exact n', r.mono le rfl⟩
  · by_cases hj : i = j
    · subst hj
      rw [hi] at ht
      cases ht
      refine ⟨s', by rw [getElem?_set', if_pos ⟨rfl, hlt⟩], ?_⟩
      rcases hs with ⟨rfl, rfl⟩ | ⟨rfl, rfl⟩
      · exact ⟨d, .inr rfl⟩
      · exact ⟨d, .inr rfl⟩
    · refine ⟨t, by rw [getElem?_set', if_neg (fun z => hj z.1)]; exact ht, ?_⟩
      cases t <;> simp [SlLe]
end
/-- what comes of an operation: data, or something new -/
def RvNew (g : Gm) (G H H0 : Hp) : Rv → V → Prop
  | .val d, v => Rep g G d v
  | .fresh d, v => ∃ p, v = .ref p ∧ G p = none ∧ Own g G H p d ∧ H0 p = none
  | .slot _, _ => False
theorem SR.root {g : Gm} {G H : Hp} {σ : L2.St} {e : Ve} (sr : SR g G H σ e) {i : Nat} {p : Addr} (r : Rt σ e i p) : G p = none ∧ H p ≠ none := by
  obtain ⟨o, ev⟩ := r
  have sl := sr.slot i
  cases q : e[i]? with
  | none => rw [q] at o; exact o.elim
  | some s =>
    rw [q] at o sl
    cases s with
    | un => exact o.elim
    | sh d => exact o.elim
    | bf d => exact o.elim
    | lo d => exact o.elim
    | ow d =>
      obtain ⟨p', ev', n, ow⟩ := sl
      rw [ev'] at ev; cases ev
      obtain ⟨ob, ho, _⟩ := ow.there
      exact ⟨n, by rw [ho]; exact fun z => nomatch z⟩
    | bo d =>
      obtain ⟨p', ev', n, ow⟩ := sl
      rw [ev'] at ev; cases ev
      obtain ⟨ob, ho, _⟩ := ow.there
      exact ⟨n, by rw [ho]; exact fun z => nomatch z⟩
theorem RvNew.ok {g : Gm} {G H G1 H1 H0 : Hp} {σ : L2.St} {e : Ve} (sr : SR g G H σ e) (k : ∀ p, H p = none → H0 p = none) : ∀ {r : Rv} {v : V}, RvNew g G1 H1 H r v → RvOk g G1 H1 σ e H0 r v
  | .val _, _, h => h
  | .fresh _, _, ⟨p, ev, n, o, h0⟩ => ⟨p, ev, n, o, k p h0, fun i r => (sr.root r).2 h0⟩

def OpV (g : Gm) (r : R2) (f : D → D → Option Rv) : Prop := ∀ (G H : Hp) (d1 d2 : D) (x y : V) (out : Rv) (Q : VK), Bs G H → SqL g.K H g.sa (g.sn.map .int) → RepH g G H d1 x → RepH g G H d2 y → f d1 d2 = some out →
  (∀ v G' H', Grow G H G' H' → RvNew g G' H' H out v → Q v H') → r x y H Q
theorem OpV.or {g : Gm} {r r' : R2} {f f' h : D → D → Option Rv} (a : OpV g r f) (b : OpV g r' f') (c : ∀ d1 d2 out, h d1 d2 = some out → f d1 d2 = some out ∨ f' d1 d2 = some out) : OpV g (fun x y H Q => r x y H Q ∨ r' x y H Q) h := fun G H d1 d2 x y out Q bs sc p q e k =>
  (c d1 d2 out e).imp (fun z => a G H d1 d2 x y out Q bs sc p q z k) (fun z => b G H d1 d2 x y out Q bs sc p q z k)
section
variable {g : Gm} {W : WX} {k : Nat} {X : Cx}
end
section
variable {g : Gm} {W : WX} {k : Nat} {X : Cx}
end
end Vs

set_option maxRecDepth 100000
set_option maxHeartbeats 2000000
namespace Vs
open PySem PySem.Spec PyProof.Rows L2 Fw SX

section
variable {g : Gm} {W : WX} {k : Nat} {X : Cx} {G H G1 H1 H0 H00 : Hp} {σ : L2.St} {e e1 e2 : Ve}
theorem RvsOk.h0 (q : ∀ p, H0 p = none → H00 p = none) : ∀ {rs : List Rv} {vs : List V}, RvsOk g G H σ e H0 rs vs → RvsOk g G H σ e H00 rs vs
  | [], _, h => h
  | _ :: _, _, ⟨v, r, ev, a, b, c⟩ => ⟨v, r, ev, a.h0 q, RvsOk.h0 q b, c⟩
theorem RvsOk.new : ∀ {rs : List Rv} {vs : List V}, RvsOk g G H σ e H0 rs vs → ∀ d u, (Rv.fresh d, u) ∈ rs.zip vs → ∃ p, u = .ref p ∧ H0 p = none
  | [], _, _, d, u, m => by simp at m
  | r :: rs, _, ⟨v, t, rfl, a, b, c⟩, d, u, m => by
    rcases List.mem_cons.mp m with z | z
    · cases z
      obtain ⟨p, ev, _, _, h0, _⟩ := a
      exact ⟨p, ev, h0⟩
    · exact RvsOk.new b d u z
end

def RepsH (g : Gm) (G H : Hp) : List D → List V → Prop
  | [], vs => vs = []
  | d :: ds, vs => ∃ v r, vs = v :: r ∧ RepH g G H d v ∧ RepsH g G H ds r
def CallV (g : Gm) (r : List V → Hp → VK → Prop) (f : List D → Option Rv) : Prop := ∀ (G H : Hp) (ds : List D) (vs : List V) (out : Rv) (Q : VK), Bs G H → SqL g.K H g.sa (g.sn.map .int) → RepsH g G H ds vs → f ds = some out →
  (∀ v G' H', Grow G H G' H' → RvNew g G' H' H out v → Q v H') → r vs H Q
theorem CallV.or {g : Gm} {r r' : List V → Hp → VK → Prop} {f f' h : List D → Option Rv} (a : CallV g r f) (b : CallV g r' f') (c : ∀ ds out, h ds = some out → f ds = some out ∨ f' ds = some out) : CallV g (fun xs H Q => r xs H Q ∨ r' xs H Q) h := fun G H ds vs out Q bs sc p e k =>
  (c ds out e).imp (fun z => a G H ds vs out Q bs sc p z k) (fun z => b G H ds vs out Q bs sc p z k)
section
variable {g : Gm} {W : WX} {k : Nat} {X : Cx} {G H G1 H1 H0 H00 : Hp} {σ : L2.St} {e e1 e2 : Ve}
end

section
variable {g : Gm} {W : WX} {k : Nat} {X : Cx} {G H G1 H1 H0 H00 : Hp} {σ : L2.St} {e e1 e2 : Ve}
theorem Reps.len : ∀ {ds : List D} {vs : List V}, Reps g G ds vs → vs.length = ds.length
  | [], _, h => by rw [show _ = [] from h]; rfl
  | d :: ds, _, ⟨v, r, e, _, q⟩ => by rw [e, List.length_cons, List.length_cons, Reps.len q]
end

theorem PW.imp {X : Cx} {e : Expr} {t t' : TT} (h : PW X e t) (k : ∀ σ H Q, t' σ H Q → t σ H Q) : PW X e t' := ⟨fun wh pins s σ H Q I q => h.run wh pins s σ H Q I (k σ H Q q)⟩
section
variable {g : Gm} {W : WX} {k : Nat} {X : Cx} {G H G1 H1 H0 H00 : Hp} {σ : L2.St} {e e1 e2 : Ve} {a b c : Expr} {rest : List Expr} {A B : M Bool} {pos : Pos}
theorem RepH.lst (bs : Bs G H) {ds : List D} {v : V} (h : RepH g G H (.lst ds) v) : ∃ a vs, v = .ref a ∧ SqL g.K H a vs ∧ Reps g G ds vs := by
  rcases h with ⟨a, vs, e, q, r⟩ | ⟨p, e, n, vs, q, r⟩
  · exact ⟨a, vs, e, bs.sqL (.of q), r⟩
  · exact ⟨p, vs, e, .of q, r⟩
theorem RepH.tup (bs : Bs G H) {ds : List D} {v : V} (h : RepH g G H (.tup ds) v) : ∃ a vs, v = .ref a ∧ SqT g.K H a vs ∧ Reps g G ds vs := by
  rcases h with ⟨a, vs, e, q, r⟩ | ⟨p, e, n, o⟩
  · exact ⟨a, vs, e, bs.sqT q, r⟩
  · exact o.elim
theorem RepH.str {l : List Nat} {v : V} (h : RepH g G H (.str l) v) : v = .str (S l) := by
  rcases h with h | ⟨p, e, n, o⟩
  · exact h.1
  · exact o.elim
theorem RepH.int {i : Int} {v : V} (h : RepH g G H (.int i) v) : v = .int i := by
  rcases h with h | ⟨p, e, n, o⟩
  · exact h
  · exact o.elim
theorem RepH.bl {i : Bool} {v : V} (h : RepH g G H (.bl i) v) : v = .bl i := by
  rcases h with h | ⟨p, e, n, o⟩
  · exact h
  · exact o.elim
theorem RepH.non {v : V} (h : RepH g G H .non v) : v = .non := by
  rcases h with h | ⟨p, e, n, o⟩
  · exact h
  · exact o.elim
theorem RepH.con {u v : V} (h : RepH g G H (.con u) v) (nf : ∀ i, u ≠ .flt i := by intro i z; cases z) : v = u := by
  rcases h with h | ⟨p, e, n, o⟩
  · cases u <;> first | exact h | exact absurd rfl (nf _)
  · exact o.elim
end
end Vs

set_option maxRecDepth 100000
set_option maxHeartbeats 2000000
namespace Vs
open PySem PySem.Spec PyProof.Rows L2 Fw SX

section
variable {g : Gm} {W : WX} {k : Nat} {X : Cx} {G H G1 H1 H0 : Hp} {σ σ1 : L2.St} {e e1 e2 : Ve} {D : Ends}
end
section
variable {g : Gm} {W : WX} {k : Nat} {X : Cx} {st : Stmt} {rest : List Stmt} {ex : Expr} {pos : Pos} {A B : M Ctl}
end

section
variable {g : Gm} {W : WX} {k : Nat} {X : Cx} {G H G1 H1 H0 : Hp} {σ σ1 : L2.St} {e e1 e2 : Ve} {i : Nat} {d : D} {v : V}
end

section
variable {g : Gm} {X : Cx} {i : Nat}
end
section
variable {g : Gm} {W : WX} {k : Nat} {X : Cx}
end
end Vs

set_option maxRecDepth 100000
set_option maxHeartbeats 2000000
namespace Vs
open PySem PySem.Spec PyProof.Rows L2 Fw SX

/-- what is locked stays locked -/
def Fz (H H' : Hp) : Prop := ∀ a o u, H a = some (.frz o u) → H' a = some (.frz o u)
theorem Fz.trans {H H1 H2 : Hp} (a : Fz H H1) (b : Fz H1 H2) : Fz H H2 := fun x o u h => b x o u (a x o u h)
theorem PI.imp {X : Cx} {tg ex : Expr} {w w' : TI} (h : PI X tg ex w) (k : ∀ σ H R, w' σ H R → w σ H R) : PI X tg ex w' := ⟨fun pins s σ H R I q => h.run pins s σ H R I (k σ H R q)⟩
theorem PI.or {X : Cx} {tg ex : Expr} {w w' : TI} (h : PI X tg ex w) (h' : PI X tg ex w') : PI X tg ex (fun σ H R => w σ H R ∨ w' σ H R) := ⟨fun pins s σ H R I q => q.elim (h.run pins s σ H R I) (h'.run pins s σ H R I)⟩
theorem Reps.at {g : Gm} {G : Hp} : ∀ {ds : List D} {vs : List V} {i : Nat} {v : V}, Reps g G ds vs → vs[i]? = some v → ∃ d, ds[i]? = some d ∧ Rep g G d v
  | [], _, i, v, h, q => by rw [show _ = [] from h] at q; simp at q
  | d :: ds, _, 0, v, ⟨v', r, e, a, b⟩, q => by
    subst e
    cases q
    exact ⟨d, rfl, a⟩
  | d :: ds, _, i + 1, v, ⟨v', r, e, a, b⟩, q => by
    subst e
    exact Reps.at (i := i) b (by simpa using q)
section
variable {g : Gm} {G H : Hp} {a : Addr} {vs : List V} {ds : List D}
end
section
variable {g : Gm} {W : WX} {k : Nat} {X : Cx} {tg ex : Expr}
end
section
variable {g : Gm} {W : WX} {k : Nat} {X : Cx} {tg ex : Expr}
end
section
variable {g : Gm} {W : WX} {k : Nat} {X : Cx}
end
end Vs

set_option maxRecDepth 100000
set_option maxHeartbeats 2000000
namespace Vs
open PySem PySem.Spec PyProof.Rows L2 Fw SX

section
variable {e e0 : Ve} {σ : L2.St} {j : Nat}
end
section
variable {g : Gm} {W : WX} {k : Nat} {X : Cx}
end
section
variable {g : Gm} {G H G1 H1 : Hp} {σ σ1 : L2.St} {e e1 : Ve} {p : Addr} {o : HO} {vs : List Nat}
/-- off vs the slots are as they may become in an expression -/
def VeOff (vs : List Nat) (e e' : Ve) : Prop := e'.length = e.length ∧ ∀ j s, j ∉ vs → e[j]? = some s → ∃ s', e'[j]? = some s' ∧ SlLe s s'
theorem VeOff.trans {e2 : Ve} (a : VeOff vs e e1) (b : VeOff vs e1 e2) : VeOff vs e e2 := ⟨b.1.trans a.1, fun j s n h => by
  obtain ⟨s1, h1, l1⟩ := a.2 j s n h
  obtain ⟨s2, h2, l2⟩ := b.2 j s1 n h1
  exact ⟨s2, h2, l1.trans l2⟩⟩
theorem VeLe.off (h : VeLe e e1) : VeOff vs e e1 := ⟨h.len, fun j s _ q => h.at_ j s q⟩
theorem SlLe.refl (s : Sl) : SlLe s s := by cases s <;> simp [SlLe]
end
section
variable {g : Gm} {W : WX} {k : Nat} {X : Cx}
end
section
variable {g : Gm} {W : WX} {k : Nat} {X : Cx} {elt tg iter : Expr} {ifs : List Expr} {scope : Scope} {own : List (Str × Nat)} {pos : Pos} {S : M (List D)} {F : D → M Unit} {is : List Nat} {T : M Bool} {E : M Rv}
end
end Vs

set_option maxRecDepth 100000
set_option maxHeartbeats 2000000
namespace Vs
open PySem PySem.Spec PyProof.Rows L2 Fw SX

section
variable {g : Gm} {G H G1 H1 : Hp} {e1 : Ve} {vs : List V} {as : List Sl} {N : List Str}
end
end Vs

set_option maxRecDepth 100000
set_option maxHeartbeats 2000000
namespace Vs
open PySem PySem.Spec PyProof.Rows L2 Fw SX

section
variable {g : Gm} {G H G1 H1 G2 H2 H0 : Hp} {σ : L2.St} {e e1 : Ve} {rs : List Rv} {vs dvs : List V} {as as' : List Sl} {dd : List D}
theorem RvsOk.at : ∀ {rs : List Rv} {vs : List V} {k : Nat} {r : Rv}, RvsOk g G H σ e H0 rs vs → rs[k]? = some r → ∃ v, vs[k]? = some v ∧ RvOk g G H σ e H0 r v
  | [], _, k, r, _, q => by simp at q
  | r0 :: rs, _, k, r, ⟨v, t, rfl, a, b, _⟩, q => by
    cases k with
    | zero => cases q; exact ⟨v, rfl, a⟩
    | succ k =>
      obtain ⟨v', h1, h2⟩ := RvsOk.at (rs := rs) (vs := t) (k := k) (r := r) b (show rs[k]? = some r from q)
      exact ⟨v', h1, h2⟩
theorem RvsOk.len : ∀ {rs : List Rv} {vs : List V}, RvsOk g G H σ e H0 rs vs → vs.length = rs.length
  | [], _, h => by rw [show _ = [] from h]; rfl
  | r0 :: rs, _, ⟨v, t, rfl, a, b, _⟩ => by rw [List.length_cons, List.length_cons, RvsOk.len b]
end
section
variable {g : Gm} {W : WX} {k : Nat} {X : Cx}
end
/-- the def at f, called with positional values and with values for the names ks -/
def FnK (P : Program) (w : World) (K : PySem.W.Frag) (mg : Str → Option Value) (base : Heap) (CXa : CXT) (k : Nat) (f : Addr) (ks : List Str) (sp : Sp) : Prop :=
  ∀ (A : Around) (outer : List PySem.Env) (s : Shared) (H : Hp) (us ws : List Value) (vs zs : List V) (Q : VK) (E : XK), Rm k A → Env0 P w K mg base A outer s H → Vals vs us → Vals zs ws → ws.length = ks.length → sp (vs ++ zs) H Q E →
    codeAny (model P w) A (.call (.ref f) ⟨us, ks.zip ws⟩) (CR CXa outer P w H s Q E) s
section
variable {P : Program} {mg : Str → Option Value} {base : Heap} {g : Gm} {j : Nat} {f : Addr} {fd : FuncData} {ps : List Str} {F : List Sl → Res Rv}
theorem FnK.mono {w : World} {K : PySem.W.Frag} {CXa : CXT} {i k : Nat} {ks : List Str} {sp : Sp} (F : FnK P w K mg base CXa i f ks sp) (h : i ≤ k) : FnK P w K mg base CXa k f ks sp := fun A outer s H us ws vs zs Q E hr => F A outer s H us ws vs zs Q E (hr.mono h)
end
section
variable {X : Cx} {k : Nat} {f : Addr} {ks : List Str} {sp : Sp} {E : L2.St → XK}
end
section
variable {g : Gm} {W : WX} {k : Nat} {X : Cx}
end
end Vs

set_option maxRecDepth 100000
set_option maxHeartbeats 2000000
namespace Vs
open PySem PySem.Spec PyProof.Rows L2 Fw SX

section
variable {g : Gm}
end

section
variable {g : Gm}
end
end Vs

set_option maxRecDepth 100000
set_option maxHeartbeats 2000000
namespace Vs
open PySem PySem.Spec PyProof.Rows L2 Fw SX

theorem PE.or {X : Cx} {e : Expr} {t t' : TE} (h : PE X e t) (h' : PE X e t') : PE X e (fun σ H Q => t σ H Q ∨ t' σ H Q) := ⟨fun pins s σ H Q I q => q.elim (h.run pins s σ H Q I) (h'.run pins s σ H Q I)⟩
theorem PT.or {X : Cx} {e : Expr} {t t' : TT} (h : PT X e t) (h' : PT X e t') : PT X e (fun σ H Q => t σ H Q ∨ t' σ H Q) := ⟨fun pins s σ H Q I q => q.elim (h.run pins s σ H Q I) (h'.run pins s σ H Q I)⟩

section
variable {g : Gm}
end
section
variable {X : Cx}
end

section
variable {g : Gm}
end

section
variable {g : Gm}
theorem RepH.dct {G H : Hp} (bs : Bs G H) {kvs : List (List Nat × D)} {v : V} (h : RepH g G H (.dct kvs) v) : ∃ a vs, v = .ref a ∧ Rd H a (.dK vs) ∧ RepK g G kvs vs := by
  rcases h with ⟨a, vs, e, q, r⟩ | ⟨p, e, n, vs, q, r⟩
  · exact ⟨a, vs, e, bs.rd (.of q), r⟩
  · exact ⟨p, vs, e, q, r⟩
end
section
variable {g : Gm} {W : WX} {k : Nat} {X : Cx}
end

section
variable {g : Gm}
end
section
variable {X : Cx}
end
section
variable {g : Gm} {W : WX} {k : Nat} {X : Cx} {a b : Expr} {A B : M Rv} {pos : Pos}
end
end Vs

set_option maxRecDepth 100000
set_option maxHeartbeats 2000000
namespace Vs
open PySem PySem.Spec PyProof.Rows L2 Fw SX

section
variable {g : Gm}
end

theorem PO.imp {X : Cx} {e : Option Expr} {t t' : TO} (h : PO X e t) (k : ∀ σ H Q, t' σ H Q → t σ H Q) : PO X e t' := ⟨fun pins s σ H Q I q => h.run pins s σ H Q I (k σ H Q q)⟩
section
variable {g : Gm} {W : WX} {k : Nat} {X : Cx}
end

/-- the dict stands unlocked -/
theorem RepK.len {g : Gm} {G : Hp} : ∀ {kvs : List (List Nat × D)} {vs : List (Key × V)}, RepK g G kvs vs → vs.length = kvs.length
  | [], vs, r => by rw [show vs = [] from r]; rfl
  | (k, d) :: kvs, vs, ⟨_, v, t, e, a, b⟩ => by subst e; rw [List.length_cons, List.length_cons, RepK.len b]
section
variable {g : Gm}
theorem RepH.scr {G H : Hp} {ns : List Int} {v : V} (h : RepH g G H (.scr ns) v) : v = .ref g.sa ∧ ns = g.sn := by
  rcases h with r | ⟨_, _, _, o⟩
  · exact r
  · exact o.elim
theorem RepH.set {G H : Hp} (bs : Bs G H) {xs : List (List Nat)} {v : V} (h : RepH g G H (.set xs) v) : ∃ a L, v = .ref a ∧ H a = some (SetS g.w a L) ∧ L.Nodup ∧ ∀ k, k ∈ L ↔ k ∈ xs.map S := by
  rcases h with ⟨a, L, e, q, r⟩ | ⟨_, _, _, o⟩
  · exact ⟨a, L, e, bs.at_ q rfl, r⟩
  · exact o.elim
/-- one argument -/
theorem RepsH.one {G H : Hp} {d : D} {vs : List V} (h : RepsH g G H [d] vs) : ∃ v, vs = [v] ∧ RepH g G H d v := by
  obtain ⟨v, r, e, a, b⟩ := h
  exact ⟨v, by rw [e, show r = [] from b], a⟩
end

section
variable {g : Gm}
end
section
variable {g : Gm}
end
section
variable {g : Gm}
end
section
variable {g : Gm}
end
section
variable {g : Gm}
end
end Vs

set_option maxRecDepth 100000
set_option maxHeartbeats 2000000
namespace Vs
open PySem PySem.Spec PyProof.Rows L2 Fw SX

section
variable {g : Gm} {W : WX} {k : Nat} {X : Cx}
end

section
variable {g : Gm}
end

section
variable {g : Gm} {G H : Hp} {σ : L2.St} {e : Ve} {i : Nat} {d d' : D} {p : Addr} {o' : HO}
def ownD (s : Sl) : Option D := match s with
  | .ow d => some d
  | .bo d => some d
  | _ => none
theorem SR.own {s : Sl} (sr : SR g G H σ e) (hi : e[i]? = some s) (ho : ownD s = some d) : ∃ p, σ[i]? = some (some (.ref p)) ∧ G p = none ∧ Own g G H p d ∧ Rt σ e i p := by
  have sl := sr.slot i
  rw [hi] at sl
  cases s with
  | ow d0 => cases ho; obtain ⟨p, a, b, c⟩ := sl; exact ⟨p, a, b, c, by rw [hi]; trivial, a⟩
  | bo d0 => cases ho; obtain ⟨p, a, b, c⟩ := sl; exact ⟨p, a, b, c, by rw [hi]; trivial, a⟩
  | _ => cases ho
end
section
variable {g : Gm} {W : WX} {k : Nat} {X : Cx}
end
theorem Reps.one {g : Gm} {G : Hp} {d : D} {vs : List V} (h : Reps g G [d] vs) : ∃ v, vs = [v] ∧ Rep g G d v := by
  obtain ⟨v, r, e, a, b⟩ := h
  exact ⟨v, by rw [e, show r = [] from b], a⟩
theorem Reps.set {g : Gm} {G : Hp} {d : D} {v : V} : ∀ {ds : List D} {vs : List V} (i : Nat), Reps g G ds vs → Rep g G d v → Reps g G (ds.set i d) (vs.set i v)
  | [], vs, i, r, _ => by rw [show vs = [] from r]; rfl
  | d0 :: ds, vs, 0, ⟨v0, t, e, a, b⟩, h => by subst e; exact ⟨v, t, rfl, h, b⟩
  | d0 :: ds, vs, i + 1, ⟨v0, t, e, a, b⟩, h => by subst e; exact ⟨v0, _, rfl, a, Reps.set i b h⟩
theorem Reps.erase {g : Gm} {G : Hp} : ∀ {ds : List D} {vs : List V} (i : Nat), Reps g G ds vs → Reps g G (ds.eraseIdx i) (vs.eraseIdx i)
  | [], vs, i, r => by rw [show vs = [] from r]; rfl
  | d0 :: ds, vs, 0, ⟨v0, t, e, a, b⟩ => by subst e; exact b
  | d0 :: ds, vs, i + 1, ⟨v0, t, e, a, b⟩ => by subst e; exact ⟨v0, _, rfl, a, Reps.erase i b⟩
section
variable {g : Gm}
end
section
variable {g : Gm} {W : WX} {k : Nat} {X : Cx}
theorem RepK.map {G : Hp} : ∀ {kvs : List (List Nat × D)} {vs : List (Key × V)} (k : List Nat) {d : D} {v : V}, RepK g G kvs vs → Rep g G d v → RepK g G (kvs.map fun kv => if kv.1 = k then (kv.1, d) else kv) (vs.map fun kv => if kv.1 = (.inr (S k) : Key) then (kv.1, v) else kv)
  | [], vs, k, d, v, r, _ => by rw [show vs = [] from r]; rfl
  | (k0, d0) :: kvs, vs, k, d, v, ⟨ok, v0, t, e, a, b⟩, h => by
    subst e
    have ih := RepK.map k b h
    rw [List.map_cons, List.map_cons]
    by_cases z : k0 = k
    · subst z
      rw [if_pos rfl, if_pos rfl]
      exact ⟨ok, v, _, rfl, h, ih⟩
    · rw [if_neg z, if_neg (fun y => z (S_inj (Sum.inr.inj y)))]
      exact ⟨ok, v0, _, rfl, a, ih⟩
end
end Vs

set_option maxRecDepth 100000
set_option maxHeartbeats 2000000
namespace Vs
open PySem PySem.Spec PyProof.Rows L2 Fw SX

section
variable {X : Cx} {k : Nat} {f C : Addr} {ks : List Str} {sp : Sp} {E : L2.St → XK}
end
section
variable {g : Gm} {W : WX} {k : Nat} {X : Cx}
theorem RepF.len {G : Hp} : ∀ {fs : List (Str × D)} {vs : List (Str × V)}, RepF g G fs vs → vs.length = fs.length
  | [], vs, r => by rw [show vs = [] from r]; rfl
  | (q, x) :: fs, vs, ⟨v, t, e, a, b⟩ => by subst e; rw [List.length_cons, List.length_cons, RepF.len b]
theorem RepH.ins {G H : Hp} (bs : Bs G H) {c : Str} {fs : List (Str × D)} {v : V} (h : RepH g G H (.ins c fs) v) : ∃ a dx vs, v = .ref a ∧ H a = some (.ins (g.ca c) dx vs) ∧ RepF g G fs vs ∧ InsOk g c fs := by
  rcases h with ⟨a, dx, vs, e, q, r, ok⟩ | ⟨p, e, n, dx, vs, q, r, ok⟩
  · exact ⟨a, dx, vs, e, bs.at_ q rfl, r, ok⟩
  · exact ⟨p, dx, vs, e, q, r, ok⟩
end

section
variable {g : Gm} {W : WX} {k : Nat} {X : Cx}
theorem PK.imp {X : Cx} {e : List Keyword} {t t' : TA} (h : PK X e t) (k : ∀ σ H Q, t' σ H Q → t σ H Q) : PK X e t' := ⟨fun pos pins s σ H Q I q => h.run pos pins s σ H Q I (k σ H Q q)⟩
theorem RvsOk.there {G H H0 : Hp} {σ : L2.St} {e : Ve} : ∀ {rs : List Rv} {vs : List V}, RvsOk g G H σ e H0 rs vs → ∀ d p, (Rv.fresh d, V.ref p) ∈ rs.zip vs → H p ≠ none
  | [], vs, h, d, p, m => by simp at m
  | r :: rs, vs, ⟨v, t, ev, a, b, c⟩, d, p, m => by
    subst ev
    rcases List.mem_cons.mp m with y | y
    · cases y
      obtain ⟨p', ev, _, ow, _⟩ := a
      cases ev
      obtain ⟨ob, ho, _⟩ := ow.there
      rw [ho]; exact fun z => nomatch z
    · exact RvsOk.there b d p y
end
section
variable {g : Gm} {W : WX} {k : Nat} {X : Cx}
end
end Vs

set_option maxRecDepth 100000
set_option maxHeartbeats 2000000
namespace Vs
open PySem PySem.Spec PyProof.Rows L2 Fw SX

section
variable {g : Gm} {W : WX} {k : Nat} {X : Cx}
end
section
variable {g : Gm} {W : WX} {k : Nat} {X : Cx}
end

section
variable {g : Gm} {W : WX} {k : Nat} {X : Cx}
end
section
variable {g : Gm} {G H : Hp}
end
section
variable {g : Gm} {W : WX} {k : Nat} {X : Cx}
end
section
variable {g : Gm} {W : WX} {k : Nat} {X : Cx}
end
end Vs

set_option maxRecDepth 100000
set_option maxHeartbeats 2000000
namespace Vs
open PySem PySem.Spec PyProof.Rows L2 Fw SX

/-- where a dict lies: among what nobody changes; held by a slot; held by a slot and locked already -/
inductive LkK where
  | shd (kvs : List (List Nat × D)) | own (i : Nat) (s : Sl) (kvs : List (List Nat × D)) | lck (i : Nat) (kvs : List (List Nat × D))
def LkK.kvs : LkK → List (List Nat × D)
  | .shd k => k
  | .own _ _ k => k
  | .lck _ k => k
section
variable {g : Gm} {G H G1 H1 : Hp} {σ σ1 : L2.St} {e e1 : Ve} {d p : Addr} {vs : List (Key × V)} {od : Obj} {i : Nat} {kvs : List (List Nat × D)}
theorem RepK.ks : ∀ {kvs : List (List Nat × D)} {vs : List (Key × V)}, RepK g G kvs vs → vs.length = kvs.length ∧ ∀ (i : Nat) k v, vs[i]? = some (k, v) → ∃ x d, kvs[i]? = some (x, d) ∧ k = .inr (S x) ∧ OkS x
  | [], _, h => by rw [show _ = [] from h]; exact ⟨rfl, fun i k v z => by simp at z⟩
  | (x, d) :: r, _, ⟨ok, v, t, ev, a, b⟩ => by
    obtain ⟨h1, h2⟩ := RepK.ks b
    subst ev
    refine ⟨by simp [h1], fun i k u z => ?_⟩
    cases i with
    | zero => cases z; exact ⟨x, d, rfl, rfl, ok⟩
    | succ i => exact h2 i k u (by simpa using z)
end
end Vs
namespace Vs
open PySem PySem.Spec PyProof.Rows L2 Fw SX
section
variable {g : Gm} {W : WX} {k : Nat} {X : Cx}
theorem RepF.get {G : Hp} : ∀ {fs : List (Str × D)} {vs : List (Str × V)} {f : Str} {d : D}, RepF g G fs vs → fs.lookup f = some d → ∃ v, vs.lookup f = some v ∧ Rep g G d v
  | [], _, f, d, _, h => by cases h
  | (q, x) :: r, _, f, d, ⟨v, t, ev, a, b⟩, h => by
    subst ev
    rw [List.lookup_cons] at h ⊢
    cases z : f == q with
    | true => rw [z] at h; cases h; exact ⟨v, rfl, a⟩
    | false => rw [z] at h; exact RepF.get b h
variable {elt tg iter : Expr} {ifs : List Expr} {scope : Scope} {own : List (Str × Nat)} {pos : Pos} {L : Ve → Option LkK} {td : TE} {F : D → M Unit} {is : List Nat} {T : M Bool} {E : M Rv}
theorem PS.or {X : Cx} {st : Stmt} {t t' : TS} (h : PS X st t) (h' : PS X st t') : PS X st (fun D σ H => t D σ H ∨ t' D σ H) := ⟨fun pins s σ H D I q => q.elim (h.run pins s σ H D I) (h'.run pins s σ H D I)⟩
end
end Vs

set_option maxRecDepth 100000
set_option maxHeartbeats 2000000
namespace Vs
open PySem PySem.Spec PyProof.Rows L2 Fw SX

section
variable {g : Gm} {W : WX} {k : Nat} {X : Cx} {G H : Hp} {a : Addr} {vs : List V} {ds : List D}
end
section
variable {g : Gm}
end
section
variable {g : Gm} {W : WX} {k : Nat} {X : Cx} {G H G1 H1 H0 : Hp} {σ σ1 : L2.St} {e e1 e2 : Ve} {i : Nat}
end

section
variable {g : Gm} {W : WX} {k : Nat} {X : Cx}
end
section
variable {g : Gm} {W : WX} {k : Nat} {X : Cx} {kx vx tg iter : Expr} {ifs : List Expr} {scope : Scope} {own : List (Str × Nat)} {pos : Pos} {S : M (List D)} {F : D → M Unit} {is : List Nat} {T : M Bool} {KX VX : M Rv}
end
section
variable {g : Gm} {W : WX} {k : Nat} {X : Cx}
end

section
variable {P : Program} {w : World} {K : PySem.W.Frag} {mg : Str → Option Value} {base : Heap} {g : Gm}
end
end Vs

set_option maxRecDepth 100000
set_option maxHeartbeats 2000000
namespace Vs
open PySem PySem.Spec PyProof.Rows L2 Fw SX
section
variable {X : Cx} {pins : List (Addr × Obj)} {σ : L2.St} {H : Hp} {s : Shared}
end
/-- a table grows -/
theorem SR.tbl {g : Gm} {G H : Hp} {σ : L2.St} {e : Ve} {P : Addr} {ps qs : Array Value} (sr : SR g G H σ e) (hP : H P = some (.tbl ps)) (hG : G P = none) (t : Tabs2 g.T.tabs G (upd H P (.tbl qs))) : Tr g σ G H e G (upd H P (.tbl qs)) e := by
  have ne : ∀ {a : Addr} {o : HO}, H a = some o → (∀ ps, o ≠ .tbl ps) → a ≠ P := fun h n z => by rw [z, hP] at h; exact n _ (Option.some.inj h).symm
  have nO : ∀ {p : Addr} {d : D}, Own g G H p d → p ≠ P := fun o => by
    obtain ⟨ob, h1, h2, _⟩ := o.there
    exact ne h1 h2.nt
  refine ⟨⟨⟨sr.bs.pl, fun a u h => ?_⟩, t, sr.scr.keep fun o u h => ?_, sr.len, fun i => ?_, sr.inj⟩, Le.refl G, fun a o h _ n => ?_, fun a h => ?_, fun a h _ _ => h, VeLe.refl e⟩
  · rw [upd_ne (fun z => by rw [z, hG] at h; cases h)]
    exact sr.bs.sub a u h
  · rw [upd_ne (ne h fun _ z => nomatch z)]; exact h
  · have sl := sr.slot i
    cases q : e[i]? with
    | none => trivial
    | some s =>
      rw [q] at sl
      cases s with
      | un => trivial
      | sh d => exact sl
      | bf d => exact sl
      | ow d =>
        obtain ⟨p, e1, e2, o⟩ := sl
        exact ⟨p, e1, e2, o.mono (Le.refl G) (upd_ne (nO o))⟩
      | bo d =>
        obtain ⟨p, e1, e2, o⟩ := sl
        exact ⟨p, e1, e2, o.mono (Le.refl G) (upd_ne (nO o))⟩
      | lo d =>
        obtain ⟨p, e1, e2, o⟩ := sl
        obtain ⟨ob, u, h1, _⟩ := o.there
        exact ⟨p, e1, e2, o.mono (Le.refl G) (upd_ne (ne h1 fun _ z => nomatch z))⟩
  · rw [upd_ne (ne h n)]; exact h
  · by_cases z : a = P
    · rw [z, upd_same] at h; cases h
    · rw [upd_ne z] at h; exact h
section
variable {g : Gm} {W : WX} {k : Nat} {X : Cx}
end
def LmOk (P : Program) (w : World) (K : PySem.W.Frag) (mg : Str → Option Value) (base : Heap) (CXa : CXT) (k : Nat) (L : Lam) (sp : Sp) : Prop :=
  ∀ (f c : Addr) (A : Around) (outer : List PySem.Env) (s : Shared) (H : Hp) (us : List Value) (vs : List V) (Q : VK) (E : XK), Rm k A → Env0 P w K mg base A outer s H → H f = some (LamO f L c) → H c = some (LamX.CodeO c L.q) → Vals vs us → sp vs H Q E →
    codeAny (model P w) A (.call (.ref f) ⟨us, []⟩) (CR CXa outer P w H s Q E) s
theorem LmOk.mono {P : Program} {w : World} {K : PySem.W.Frag} {mg : Str → Option Value} {base : Heap} {CXa : CXT} {i k : Nat} {L : Lam} {sp : Sp} (F : LmOk P w K mg base CXa i L sp) (h : i ≤ k) : LmOk P w K mg base CXa k L sp := fun f c A outer s H us vs Q E hr => F f c A outer s H us vs Q E (hr.mono h)
section
variable {g : Gm} {W : WX} {k : Nat} {X : Cx} {x : Str} {p pos : Pos} {ex : Expr} {es : List Expr} {i : Nat}
end
end Vs

set_option maxRecDepth 100000
set_option maxHeartbeats 2000000
namespace Vs
open PySem PySem.Spec PyProof.Rows L2 Fw SX
/-- a list, or an empty table -/
def Tk (o : Obj) : Prop := (∃ vs n, o.data = .seq vs n) ∨ o.data = .fields #[]
theorem Tk.dict {o : Obj} {es : Array DictEntry} {n : Nat} (d : o.data = .dict es n) : ¬ Tk o := fun z => by
  rcases z with ⟨vs, m, z⟩ | z <;> (rw [d] at z; cases z)
section
variable {h : Heap} {H : Hp}
/-- only such things are tracked -/
def Few (h : Heap) (H : Hp) : Prop := ∀ b o, h.get? b = some o → H b ≠ none → Tk o
theorem Few.off (f : Few h H) {b : Addr} {o : Obj} (e : h.get? b = some o) (n : ¬ Tk o) : H b = none := by
  cases q : H b with
  | none => rfl
  | some u => exact (n (f b o e (by rw [q]; simp))).elim
theorem Few.get (f : Few h H) {b : Addr} {o : Obj} (e : h.get? b = some o) (n : ¬ Tk o) : (hidT h H).get? b = some o := hidT_get e (f.off e n)
theorem Few.ns (f : Few h H) {b : Addr} {m : Str → Option Value} (x : h.Ns b m) : (hidT h H).Ns b m := by
  obtain ⟨o, es, ep, e, d, r⟩ := x
  exact ⟨o, es, ep, f.get e (Tk.dict d), d, r⟩
theorem Few.code (f : Few h H) {c P : Addr} (x : PySem.W.CodeHd h c P) : PySem.W.CodeHd (hidT h H) c P := by
  obtain ⟨o, us, f1, f2, f3, f4, f5, f6, f7, e, r1, r2, r3, r⟩ := x
  refine ⟨o, us, f1, f2, f3, f4, f5, f6, f7, f.get e fun z => ?_, r1, r2, r3, r⟩
  rcases z with ⟨vs, n, z⟩ | z
  · rw [r2] at z; cases z
  · rw [r2] at z
    cases z
    simp at r3
end
section
variable {P : Program} {w : World} {K : PySem.W.Frag} {mg mb : Str → Option Value} {k n : Nat} {fa a : Addr} {cs : List (Addr × Addr)} {fd : FuncData} {x : Str} {s : Shared} {vs : List Value} {ns : List Int}
end
end Vs

set_option maxRecDepth 100000
set_option maxHeartbeats 2000000
namespace Vs
open PySem PySem.Spec PyProof.Rows L2 Fw SX
section
variable {g : Gm} {W : WX} {k : Nat} {X : Cx} {a b c d : Expr} {A B C : M Rv} {pos : Pos}
end
section
variable {g : Gm} {W : WX} {k : Nat} {X : Cx} {ex : Expr} {es : List Expr} {A : M (List Rv)} {p pos : Pos}
end
end Vs

set_option maxRecDepth 100000
set_option maxHeartbeats 2000000
namespace Vs
open PySem PySem.Spec PyProof.Rows L2 Fw SX
section
variable {g : Gm} {W : WX} {k : Nat} {X : Cx} {o ex : Expr} {O : M Rv} {A : M (List Rv)} {apos cpos p : Pos} {x : Str} {i : Nat}
end
section
variable {g : Gm} {W : WX} {k : Nat} {X : Cx}
end
section
variable {g : Gm} {W : WX} {k : Nat} {X : Cx}
end
section
variable {P : Program} {w : World} {K : PySem.W.Frag} {mg : Str → Option Value} {base : Heap} {g : Gm} {j : Nat} {f : Addr} {fd : FuncData} {ps : List Str} {CXa : CXT} {np n m : Nat} {B : M Ctl} {dvs : List V} {dd : List D} {ks : List Str}
end
end Vs

set_option maxRecDepth 100000
set_option maxHeartbeats 2000000
namespace Vs
open PySem PySem.Spec PyProof.Rows L2 Fw SX
section
variable {g : Gm} {W : WX} {k : Nat} {X : Cx} {o e f : Expr} {apos cpos : Pos} {A K Z : M Rv}
end
section
variable {g : Gm}
variable {W : WX} {k : Nat} {X : Cx}
end
section
variable {P : Program} {mg : Str → Option Value} {base : Heap} {g : Gm} {j np n m : Nat} {f : Addr} {fd : FuncData} {ps : List Str} {B : M Ctl} {CXa : CXT}
end
end Vs

set_option maxRecDepth 100000
set_option maxHeartbeats 2000000
namespace Vs
open PySem PySem.Spec PyProof.Rows L2 Fw SX
section
variable {g : Gm} {G H G1 H1 : Hp} {σ σ1 : L2.St} {e e1 : Ve} {d p : Addr} {vs : List V} {od : Obj} {i : Nat} {kvs : List D}
end
section
variable {g : Gm} {W : WX} {k : Nat} {X : Cx} {tg : Expr} {F : D → M Unit} {is : List Nat} {x : Str} {p pos : Pos} {i : Nat}
end
end Vs

set_option maxRecDepth 100000
set_option maxHeartbeats 2000000
namespace Vs
open PySem PySem.Spec PyProof.Rows L2 Fw SX

def kPy : Key → PyData
  | .inl i => .int i
  | .inr x => .str x
mutual
inductive Dr (K : PySem.W.Frag) (H : Hp) : V → PyData → Prop
  | non : Dr K H .non .none
  | bl (b : Bool) : Dr K H (.bl b) (.bool b)
  | int (i : Int) : Dr K H (.int i) (.int i)
  | str (x : Str) : Dr K H (.str x) (.str x)
  | lst {a : Addr} {xs : List V} {ds : List PyData} : Rd H a (.lst xs) → DrAll K H xs ds → Dr K H (.ref a) (.list ds)
  | tup {a : Addr} {xs : List V} {ds : List PyData} : SqT K H a xs → DrAll K H xs ds → Dr K H (.ref a) (.tuple ds)
  | dct {a : Addr} {kvs : List (Key × V)} {ds : List PyData} : Rd H a (.dK kvs) → DrAll K H (kvs.map (·.2)) ds → Dr K H (.ref a) (.dict ((kvs.map fun q => kPy q.1).zip ds))
inductive DrAll (K : PySem.W.Frag) (H : Hp) : List V → List PyData → Prop
  | nil : DrAll K H [] []
  | cons {v : V} {vs : List V} {d : PyData} {ds : List PyData} : Dr K H v d → DrAll K H vs ds → DrAll K H (v :: vs) (d :: ds)
end
theorem DrAll.len {K : PySem.W.Frag} {H : Hp} : ∀ {vs : List V} {ds : List PyData}, DrAll K H vs ds → vs.length = ds.length
  | _, _, .nil => rfl
  | _, _, .cons _ t => congrArg Nat.succ t.len
section
variable {X : Cx} {pins : List (Addr × Obj)} {σ : L2.St} {H : Hp} {s : Shared}
end
/-- the head's fact -/
def sysB : PySem.W.Frag → Bool := fun K => (K.lookup sysModules).isSome
end Vs

set_option maxRecDepth 100000
set_option maxHeartbeats 2000000
namespace Vs
open PySem PySem.Spec PyProof.Rows L2 Fw SX He
/-- what is told: the facts of K, the defs' tables -/
structure SaysY (ex : Ex) (fa : List Fa) (fn : List DefD) (tf : List Defn) (h : Heap) (K : PySem.W.Frag) : Prop where
  x : Fw.SaysX ex fa fn K
  hd : ∀ p ∈ tf, PySem.W.codeHdIn K (cT K p).1 (cT K p).2 = true
  out : ∀ p ∈ tf, K.lookup (cT K p).2 = none
  empty : ∀ p ∈ tf, h.get? (cT K p).2 = some { cls := .none, data := .fields #[] }
abbrev AlY : Type := AlD × Bool
end Vs

set_option maxRecDepth 100000
set_option maxHeartbeats 2000000
namespace Vs
open PySem PySem.Spec PyProof.Rows L2 Fw SX NdefX
section
variable {CXa : CXT} {P : Program} {w : World} {K : PySem.W.Frag} {mg : Str → Option Value} {base : Heap} {N : List Str} {F : NF} {f C cc a : Addr} {fd : FuncData} {slf : Str} {A : Around} {outer : List PySem.Env} {s0 s : Shared} {H0 H : Hp} {E : XK} {σ : L2.St}
end
theorem PMk.imp {X : Cx} {e : Expr} {t t' : L2.St → Hp → XK → Prop} (h : PMk X e t) (k : ∀ σ H Q, t' σ H Q → t σ H Q) : PMk X e t' := fun pins s σ H Q I q => h pins s σ H Q I (k σ H Q q)
end Vs

set_option maxRecDepth 100000
set_option maxHeartbeats 2000000
namespace Vs
open PySem PySem.Spec PyProof.Rows L2 Fw SX NdefX
section
variable {CXa : CXT} {P : Program} {w : World} {K : PySem.W.Frag} {mg : Str → Option Value} {base : Heap} {F : NF} {f C cc : Addr} {fd : FuncData} {slf v1 v2 f1 f2 x : Str} {j : Nat} {p0 p1 p2 p3 p4 pos q1 q2 q3 q4 r1 r2 r3 r4 : Pos}
end
section
variable {g : Gm} {W : WX} {k : Nat} {X : Cx} {G : Hp}
theorem Reps.zip : ∀ {fs : List Str} {ds : List D} {vs : List V}, Reps g G ds vs → RepF g G (fs.zip ds) (fs.zip vs)
  | [], ds, vs, h => by simp only [List.zip_nil_left]; rfl
  | f :: fs, [], vs, h => by rw [show vs = [] from h]; rfl
  | f :: fs, d :: ds, vs, ⟨v, r, e, h, t⟩ => by rw [e]; exact ⟨v, _, rfl, h, Reps.zip t⟩
end
end Vs

set_option maxRecDepth 100000
set_option maxHeartbeats 2000000
namespace Vs
open PySem PySem.Spec PyProof.Rows L2 Fw SX NdefX
/-- the caught exception: of the class y, its fields fs, in slot i -/
structure Cau (g : Gm) (i : Nat) (y : Str) (a : Addr) (cls : Value) (d : Option Addr) (σ : L2.St) (G H : Hp) (fs : List (Str × D)) : Prop where
  bs : Bs G H
  scr : SqL g.K H g.sa (g.sn.map .int)
  at_ : σ[i]? = some (some (.ref a))
  cls : cls = .ref (g.ca y)
  fld : ∃ da fv, d = some da ∧ G da = some (.xd fv) ∧ RepF g G fs fv
theorem Grow.sqL {G H G' H' : Hp} (w : Grow G H G' H') {K : PySem.W.Frag} {a : Addr} {vs : List V} (h : SqL K H a vs) : SqL K H' a vs := by
  rcases h with (h | ⟨o, h⟩) | h
  · exact .inl (.inl (w.keep _ _ h))
  · exact .inl (.inr ⟨o, w.keep _ _ h⟩)
  · exact .inr h
/-- an item of the list that is returned -/
def TX (g : Gm) (i : Nat) (y : Str) (a : Addr) (cls : Value) (d : Option Addr) (f : List (Str × D) → Option D) : TE := fun σ H Q => ∃ G fs, Cau g i y a cls d σ G H fs ∧ ∃ dd, f fs = some dd ∧ ∀ v G' H', Grow G H G' H' → Rep g G' dd v → Q v H'
/-- items, in the suite of a try in the context X -/
structure VX (g : Gm) (i : Nat) (y : Str) (X : Cx) (e : Expr) (f : List (Str × D) → Option D) : Prop where
  run : X.K = g.K → X.w = g.w → X.A.guards = some [] → X.A.units + 64 < cLine → ∀ (a : Addr) (oe : Obj) (cls : Value) (d : Option Addr) (pn : List (Addr × Obj)), Zc cls d oe → (∃ vs, oe.data = .fields vs) → PE (X.suite a ((a, oe) :: pn)) e (TX g i y a cls d f)
section
variable {g : Gm} {i : Nat} {y : Str} {X : Cx}
theorem Reps.H {G H : Hp} : ∀ {ds : List D} {vs : List V}, Reps g G ds vs → RepsH g G H ds vs
  | [], _, h => h
  | d :: ds, _, ⟨v, r, e, a, b⟩ => ⟨v, r, e, .inl a, Reps.H b⟩
end
section
variable {g : Gm} {W : WX} {k : Nat} {X : Cx}
end
end Vs

set_option maxRecDepth 100000
set_option maxHeartbeats 2000000
namespace Vs
open PySem PySem.Spec PyProof.Rows L2 Fw SX NdefX
section
variable {g : Gm} {W : WX} {k : Nat} {X : Cx} {ex : Expr} {es : List Expr} {A : M (List Rv)} {p pos : Pos}
end
section
variable {g : Gm} {W : WX} {k : Nat} {X : Cx} {pos : Pos}
end
section
variable {X : Cx}
end
section
variable {g : Gm} {W : WX} {k : Nat} {X : Cx}
end
end Vs

set_option maxRecDepth 100000
set_option maxHeartbeats 2000000
namespace Vs
open PySem PySem.Spec PyProof.Rows L2 Fw SX NdefX
section
variable {g : Gm} {W : WX} {k : Nat} {X : Cx}
end
section
variable {g : Gm} {W : WX} {k : Nat} {X : Cx}
end
section
open PySem.W Builtin
variable {prog : Program} {w : World} {A : Around} {E : Value → Shared → Prop} {s : Shared} {K : PySem.W.Frag} {x C f : Addr} {ox : Obj} {od : Option Obj} {b tb : Value}
end
section
variable {g : Gm} {W : WX} {k : Nat} {X : Cx}
end
section
variable {g : Gm} {W : WX} {k : Nat} {X : Cx}
end
section
variable {g : Gm} {W : WX} {k : Nat} {X : Cx} {i j : Nat}
end
end Vs

set_option maxRecDepth 100000
set_option maxHeartbeats 2000000
namespace Vs
open PySem PySem.Spec PyProof.Rows L2 Fw SX He NdefX
structure XnD where
  x : Str
  qual : Str
  params : Arguments
  body : List Stmt
  scope : Scope
abbrev XnW := Option (Str × Str × Arguments × FuncBody × Scope × Addr × List Str × Addr)
def xnW (K : PySem.W.Frag) (x : Str) : XnW := match K.lookup (ma K (ga K x) "__init__") with
  | some ⟨_, _, .func fd, _⟩ => some (fd.name, fd.qualname, fd.params, fd.body, fd.scope, fd.globals, fd.closure.map (·.1), fd.builtins)
  | _ => none
def XnD.val (d : XnD) : XnW := some ("__init__", d.qual, d.params, .stmts d.body, d.scope, mainGlobals, ["__class__"], builtinsNs)
structure SaysZ (ex : Ex) (fa : List Fa) (fn : List DefD) (tf : List Defn) (xn : List XnD) (h : Heap) (K : PySem.W.Frag) : Prop where
  y : SaysY ex fa fn tf h K
  xn : xn.map (fun d => xnW K d.x) = xn.map XnD.val
abbrev AlZ : Type := AlY × List XnW
theorem SaysZ.at_ {ex : Ex} {fa : List Fa} {fn : List DefD} {tf : List Defn} {xn : List XnD} {h : Heap} {K : PySem.W.Frag} (c : SaysZ ex fa fn tf xn h K) (i : Nat) {d : XnD} (hd : xn[i]? = some d := by rfl) : xnW K d.x = d.val := by
  have e2 : (xn.map fun d => xnW K d.x)[i]? = (xn.map XnD.val)[i]? := by rw [c.xn]
  rw [List.getElem?_map, List.getElem?_map, hd] at e2
  exact Option.some.inj e2
def eqB (a b : Option Bool) : Bool := decide (a = b)
def initB (file : Str) (K : PySem.W.Frag) (C : Addr) : Bool := match K.lookup (ma K C "__init__") with
  | some ⟨_, _, .func fd, _⟩ => (match fd.closure, fd.code, fd.defaults with
    | [(_, cc)], .ref c, .none => PySem.W.codeIn K (.ref c) fd.qualname && ((match K.lookup cc with
      | some ⟨_, _, .cell (some (.ref C')), _⟩ => decide (C' = C)
      | _ => false) && (match K.lookup c with
      | some ⟨_, _, .fields vs, _⟩ => (match (vs[2]? : Option Value) with
        | some (Value.str fl _) => file == fl
        | _ => false)
      | _ => false))
    | _, _, _ => false)
  | _ => false
def excCB (K : PySem.W.Frag) (D : Addr) : Bool :=
  eqO (PySem.W.findIn K (.ref D) "__getattribute__") (some (some (.builtin "BaseException.__getattribute__"))) && (eqO (PySem.W.findIn K (.ref D) "__getattr__") (some none) && (eqB (PySem.W.subIn K (.ref D) (.type "BaseException")) (some true) && (PySem.W.hasDictIn K D &&
  (eqO (PySem.W.findIn K (.ref D) "__class__") (some (some (.builtin "object.__class__"))) && (eqO (PySem.W.specialIn K (.builtin "object.__class__") "__get__") (some (some (.builtin "getset_descriptor.__get__"))) && (eqB (PySem.W.takesIn K (.builtin "object.__class__")) (some true) && eqB (PySem.W.mroIn K D (.type "object")) (some true)))))))
/-- isinstance(an exception of y, c) -/
def isXB (y c : Str) (b : Bool) : PySem.W.Frag → Bool := fun K => excCB K (ga K y) && eqB (PySem.W.kitOne K (.ref (ga K y)) (.ref (ga K c))) (some b)
/-- except x: takes y -/
def catB (x y : Str) (b : Bool) : PySem.W.Frag → Bool := fun K => eqB (PySem.W.exmOne K (.ref (ga K y)) (.ref (ga K x))) (some b)
def noB (x f : Str) : PySem.W.Frag → Bool := fun K => eqO (PySem.W.findIn K (.ref (ga K x)) f) (some none)
def xfBx (x f : Str) : PySem.W.Frag → Bool := fun K => xfB K (ga K x) && noB x f K
section
variable {P : Program} {w : World} {K : PySem.W.Frag} {mg : Str → Option Value} {base : Heap} {Tb : LT} {sa : Addr} {sn : List Int} {d : XnD} {slf v1 v2 f1 f2 x : Str} {j : Nat} {p0 p1 p2 p3 p4 pos q1 q2 q3 q4 r1 r2 r3 r4 : Pos}
end
end Vs

set_option maxRecDepth 100000
set_option maxHeartbeats 2000000
namespace Fw
open PySem PySem.Spec PyProof.Rows L2
open Sem (wp)
open AutoSeq1 (wpAny_loadPart')
section
variable {prog : Program} {w : World} {A : Around} {E : Value → Shared → Prop} {s : Shared}
end
section
variable {prog : Program} {w : World} {A : Around} {E : Value → Shared → Prop} {s : Shared}
end
end Fw

set_option maxRecDepth 100000
set_option maxHeartbeats 2000000
namespace Fw
open PySem PySem.Spec PyProof.Rows L2
open Builtin Builtin.Str Builtin.Int Builtin.Float
section
variable {M : Model} {A : Around} {E : Value → Shared → Prop} {s : Shared}
end
end Fw

set_option maxRecDepth 100000
set_option maxHeartbeats 2000000
namespace Vs
open PySem PySem.Spec PyProof.Rows L2 Fw SX
section
variable {g : Gm} {W : WX} {k : Nat} {X : Cx} {G H : Hp} {a : Addr} {vs : List V} {ds : List D}
end
section
variable {g : Gm} {W : WX} {k : Nat} {X : Cx}
end
section
variable {g : Gm} {W : WX} {k : Nat} {X : Cx} {E : L2.St → XK}
end
end Vs

set_option maxRecDepth 100000
set_option maxHeartbeats 2000000
namespace Vs
open PySem PySem.Spec PyProof.Rows L2 Fw SX
section
variable {P : Program} {w : World} {K : PySem.W.Frag} {mg : Str → Option Value} {base : Heap} {g : Gm}
end
end Vs

set_option maxRecDepth 100000
set_option maxHeartbeats 2000000
namespace Vs
open PySem PySem.Spec PyProof.Rows L2 Fw SX
section
variable {g : Gm} {G H G1 H1 G2 H2 : Hp} {σ σ1 σ2 : L2.St} {e e1 e2 : Ve} {vs is vs1 : List Nat} {Da : Addr} {acc : List V} {ys : List D}
end
section
variable {g : Gm}
end
section
variable {g : Gm} {W : WX} {k : Nat} {X : Cx} {elt tg iter tg1 iter1 : Expr} {ifs ifs1 : List Expr} {scope : Scope} {own : List (Str × Nat)} {pos : Pos} {S S1 : M (List D)} {F F1 : D → M Unit} {is is1 vs1 : List Nat} {T T1 : M Bool} {E : M Rv}
end
end Vs

set_option maxRecDepth 100000
set_option maxHeartbeats 2000000
namespace Vs
open PySem PySem.Spec PyProof.Rows L2 Fw SX
section
variable {g : Gm} {W : WX} {k : Nat} {X : Cx}
end
end Vs

set_option maxRecDepth 100000
set_option maxHeartbeats 2000000
namespace Vs
open PySem PySem.Spec PyProof.Rows L2 Fw SX
section
variable {g : Gm} {W : WX} {k : Nat} {X : Cx}
end
section
variable {g : Gm} {W : WX} {k : Nat} {X : Cx} {x : Str} {i : Nat} {ex : Expr} {A : M (List Rv)} {p apos cpos : Pos}
end
end Vs

set_option maxRecDepth 100000
set_option maxHeartbeats 2000000
namespace Vs
open PySem PySem.Spec PyProof.Rows L2 Fw SX He NdefX
/-- a def and where its function stands -/
structure FarD where
  p : PySem.W.Frag → Addr
  d : DefD
def farW (K : PySem.W.Frag) (a : Addr) : FnW := match K.lookup a with
  | some ⟨_, _, .func u, _⟩ => some (u.name, u.qualname, u.params, u.body, u.scope, u.globals, u.closure, u.builtins)
  | _ => none
structure SaysP (ex : Ex) (fa : List Fa) (fn : List DefD) (tf : List Defn) (xn : List XnD) (fr : List FarD) (h : Heap) (K : PySem.W.Frag) : Prop where
  z : SaysZ ex fa fn tf xn h K
  fr : fr.map (fun l => farW K (l.p K)) = fr.map fun l => l.d.val
abbrev AlP : Type := AlZ × List FnW
end Vs

set_option maxRecDepth 100000
set_option maxHeartbeats 2000000
namespace Vs
open PySem PySem.Spec PyProof.Rows L2 Fw SX He NdefX
def levG (g : Addr → Option Obj) (as : List Addr) : List Addr := as.flatMap fun a => match g a with
  | some o => refsD o
  | none => []
/-- the names xs of the module, what they name, four steps deep; fs: addresses of which the code is wanted, too -/
def asN (xs : List Str) (fs : List (PySem.W.Frag → Addr)) (g : Addr → Option Obj) : List Addr :=
  let l1 := xs.map (ga (frG g [mainGlobals]))
  let l2 := levG g l1
  let l3 := levG g l2
  let l4 := levG g l3
  let all := ([mainGlobals, cStatics, sysModules] ++ l1 ++ l2 ++ l3 ++ l4).eraseDups
  match fs with
  | [] => all
  | f :: r => all ++ levG g ((f :: r).map fun p => p (frG g all))
theorem saysN_of {as : List Addr} {ex : Ex} {fa : List Fa} {fn : List DefD} {tf : List Defn} {h : Heap} (e1 : Fw.obsX ex fa fn (frT h.get? as) = valD fn) (e2 : tabsB h.get? tf (frT h.get? as) = true) : SaysY ex fa fn tf h (frT h.get? as) := by
  have all : ∀ p ∈ tf, PySem.W.codeHdIn (frT h.get? as) (cT (frT h.get? as) p).1 (cT (frT h.get? as) p).2 = true ∧ ∃ o, h.get? (cT (frT h.get? as) p).2 = some o ∧ emptyTab o = true := fun p hp => by
    obtain ⟨z1, z2⟩ := Bool.and_eq_true_iff.mp (List.all_eq_true.mp e2 p hp)
    refine ⟨z1, ?_⟩
    revert z2
    cases h.get? (cT (frT h.get? as) p).2 with
    | none => exact fun z => nomatch z
    | some o => exact fun z => ⟨o, rfl, z⟩
  refine ⟨e1, fun p hp => (all p hp).1, fun p hp => ?_, fun p hp => ?_⟩
  · obtain ⟨_, o, q, z⟩ := all p hp
    exact frT_none q z
  · obtain ⟨_, o, q, z⟩ := all p hp
    rw [q, emptyTab_eq z]
end Vs

set_option maxRecDepth 100000
set_option maxHeartbeats 2000000
namespace Vs
open PySem PySem.Spec PyProof.Rows L2 Fw SX He NdefX
def onceB : List Addr → Nat → List Addr
  | [], _ => []
  | a :: r, m => match Nat.beq (Nat.land (Nat.shiftRight m a) 1) 1 with
    | true => onceB r m
    | false => a :: onceB r (Nat.lor m (Nat.shiftLeft 1 a))
/-- as asN -/
def asM (xs : List Str) (fs : List (PySem.W.Frag → Addr)) (g : Addr → Option Obj) : List Addr :=
  let l1 := xs.map (ga (frG g [mainGlobals]))
  let l2 := onceB (levG g l1) 0
  let l3 := onceB (levG g l2) 0
  let l4 := levG g l3
  let all := onceB ([mainGlobals, cStatics, sysModules] ++ l1 ++ l2 ++ l3 ++ l4) 0
  match fs with
  | [] => all
  | f :: r => all ++ levG g ((f :: r).map fun p => p (frG g all))
def obsM (xs : List Str) (fs : List (PySem.W.Frag → Addr)) (ex : Ex) (fa : List Fa) (fn : List DefD) (tf : List Defn) (xn : List XnD) (fr : List FarD) (g : Addr → Option Obj) : AlP :=
  (fun K => (((Fw.obsX ex fa fn K, tabsB g tf K), xn.map fun d => xnW K d.x), fr.map fun l => farW K (l.p K))) (frT g (asM xs fs g))
def hookM (xs : List Str) (fs : List (PySem.W.Frag → Addr)) (ex : Ex) (fa : List Fa) (fn : List DefD) (tf : List Defn) (xn : List XnD) (fr : List FarD) : PySem.W.Hook where
  α := AlP
  obs := fun s => obsM xs fs ex fa fn tf xn fr s.heap.get?
  val := fun _ => (((valD fn, true), xn.map XnD.val), fr.map fun l => l.d.val)
  says := fun _ h => ∃ K : PySem.W.Frag, K.In h ∧ SaysP ex fa fn tf xn fr h K
  of := fun _ s e => ⟨_, frT_in, ⟨saysN_of (congrArg (fun z : AlP => z.1.1.1) e) (congrArg (fun z : AlP => z.1.1.2) e), congrArg (fun z : AlP => z.1.2) e⟩, show (obsM xs fs ex fa fn tf xn fr s.heap.get?).2 = _ from congrArg (fun z : AlP => z.2) e⟩
  keeps := fun _ _ _ ⟨K, hK, c⟩ k => ⟨K, PySem.W.Frag.In.keeps hK k, ⟨⟨c.z.y.x, c.z.y.hd, c.z.y.out, fun p hp => k _ _ (c.z.y.empty p hp)⟩, c.z.xn⟩, c.fr⟩
/-- the end of the run -/
noncomputable def endR' (R : PySem.W.OpenRow) (M : Nat) (w : World) (os : OsState) : Option PySem.W.SharedT := HandSHeadRun.endF (HandSHeadRun.stepQ (HandSHeadRun.denQ HandSHeadRun.tabQ) R.prog w) M R.prog w os
def Run1 (R : PySem.W.OpenRow) (M : Nat) (w : World) : Prop := ∀ os, Option.map (fun s => HandSHeadRun.looksF R.prog (PySem.W.boot_heap w.params) s.abs) (endR' R M w os) = some true
def Run2 (R : PySem.W.OpenRow) (q : Program) (M : Nat) (loose : List Str) (w : World) : Prop := ∀ os, Option.map (fun s => HandSHeadRun.seenQ q loose (importedModules R.prog.main.body) (fun s => PySem.W.xlAt q [] s && PySem.W.recOk R.records s) s.abs) (endR' R M w os) = some (PySem.W.openGood q loose)
def Run3 {α : Type} (R : PySem.W.OpenRow) (M : Nat) (w : World) (ob : PySem.W.SharedT → α) (v : α) : Prop := ∀ os, Option.map ob (endR' R M w os) = some v
theorem run_three {R : PySem.W.OpenRow} {q : Program} {M : Nat} {loose : List Str} {w : World} {H : PySem.W.Hook} {ob : PySem.W.SharedT → H.α} (h1 : Run1 R M w) (h2 : Run2 R q M loose w) (h3 : Run3 R M w ob (H.val w)) : HandSHeadRun.RunEq R q H ob M loose w := by
  intro os
  have z1 := h1 os
  have z2 := h2 os
  have z3 := h3 os
  unfold endR' at z1 z2 z3
  revert z1 z2 z3
  generalize HandSHeadRun.endF (HandSHeadRun.stepQ (HandSHeadRun.denQ HandSHeadRun.tabQ) R.prog w) M R.prog w os = X
  intro z1 z2 z3
  cases X with
  | none => cases z1
  | some s =>
    rw [Option.map_some] at z1 z2 z3 ⊢
    exact congrArg some (Prod.ext (Option.some.inj z1) (Prod.ext (Option.some.inj z2) (Option.some.inj z3)))
end Vs

set_option maxRecDepth 100000
set_option maxHeartbeats 2000000
namespace Vs
open PySem PySem.Spec PyProof.Rows L2 Fw SX NdefX
section
variable {g : Gm} {W : WX} {k : Nat} {X : Cx}
end
section
variable {g : Gm} {i : Nat} {y : Str} {X : Cx}
end
end Vs

set_option maxRecDepth 100000
set_option maxHeartbeats 2000000
namespace Vs
open PySem PySem.Spec PyProof.Rows L2 Fw SX He NdefX
end Vs

set_option maxRecDepth 100000
set_option maxHeartbeats 2000000
namespace Vs
open PySem PySem.Spec PyProof.Rows L2 Fw SX NdefX
abbrev leT : List Value := [.type "LookupError", .type "Exception", .type "BaseException", .type "object"]
section
variable {X : Cx} {pins : List (Addr × Obj)} {σ : L2.St} {H : Hp} {s : Shared} {a C dx : Addr} {f : Str} {y : V} {u : Value} {fs : List (Str × V)} {Q : Unit → Shared → Prop} {E : Value → Shared → Prop} {A : Around}
end
section
variable {X : Cx} {o e : Expr} {es : List Expr} {to te : TE} {ta : TA} {f : Str} {p p' pos : Pos}
end
section
variable {CXa : CXT} {P : Program} {w : World} {K : PySem.W.Frag} {mg : Str → Option Value} {base : Heap} {N : List Str} {F : NF} {f C cc a : Addr} {fd : FuncData} {slf : Str} {A : Around} {outer : List PySem.Env} {s0 s : Shared} {H0 H : Hp} {E : XK} {σ : L2.St}
end
section
variable {CXa : CXT} {P : Program} {w : World} {K : PySem.W.Frag} {mg : Str → Option Value} {base : Heap} {F : NF} {f C cc : Addr} {fd : FuncData} {slf v1 v2 f1 f2 x : Str} {j : Nat} {p0 p1 p2 p3 p4 pos q1 q2 q3 q4 r1 r2 r3 r4 : Pos}
end
section
variable {g : Gm} {W : WX} {k : Nat} {X : Cx} {G : Hp}
end
end Vs

set_option maxRecDepth 100000
set_option maxHeartbeats 4000000
namespace Vs
open PySem PySem.Spec PyProof.Rows L2 Fw SX He NdefX
def exLB (file x : Str) : PySem.W.Frag → Bool := fun K =>
  (PySem.W.excInitIn K (ga K x) leT "LookupError.__new__" && (PySem.W.excOver K (ga K x) leT && PySem.W.hasDictIn K (ga K x))) && (initB file K (ga K x) && (eqO (PySem.W.findIn K (.ref (ga K x)) "__setattr__") (some (some (.builtin "object.__setattr__"))) && (eqB (PySem.W.subIn K (.ref (ga K x)) (.type "BaseException")) (some true) &&
  (decide (PySem.W.typeIn K (.ref (ga K x)) = some (.type "type")) && (PySem.W.keepIn K (.ref (ga K x)) && ((PySem.W.clsIn K (ga K x)).isSome && (eqB (PySem.W.mroIn K (ga K x) (.ref (ga K x))) (some true) &&
  (eqO (PySem.W.nsIn K cStatics "thirdparty.any") (some none) && (eqO (PySem.W.ks_superIn K (ga K x) (ga K x) "__init__") (some (some (.builtin "LookupError.__init__"))) && (eqB (PySem.W.subIn K (.ref (ga K x)) (.type "LookupError")) (some true) &&
  (eqO (PySem.W.findIn K (.ref (ga K x)) "__init__") (some (some (.ref (ma K (ga K x) "__init__")))) && decide (PySem.W.typeIn K (.ref (ma K (ga K x) "__init__")) = some (.type "function")))))))))))))
section
variable {P : Program} {w : World} {K : PySem.W.Frag} {mg : Str → Option Value} {base : Heap} {Tb : LT} {sa : Addr} {sn : List Int} {d : XnD} {slf v1 v2 f1 f2 x : Str} {j : Nat} {p0 p1 p2 p3 p4 pos q1 q2 q3 q4 r1 r2 r3 r4 : Pos}
end
end Vs

set_option maxRecDepth 100000
set_option maxHeartbeats 2000000
namespace Vs
open PySem PySem.Spec PyProof.Rows L2 Fw SX
section
variable {α β : Type}
end
section
variable {A B C : M Rv} {e : Ve} {d : D} {i : Nat}
end
end Vs
namespace Vs
open PySem PySem.Spec PyProof.Rows L2 Fw SX
section
variable {A B C : M Rv} {e : Ve} {d : D} {i : Nat}
end
end Vs
namespace Vs
open PySem PySem.Spec PyProof.Rows L2 Fw SX
section
variable {A B C : M Rv} {e : Ve} {d : D} {i : Nat}
end
end Vs
namespace Vs
open PySem PySem.Spec PyProof.Rows L2 Fw SX
section
variable {A B C : M Rv} {e : Ve} {d : D} {i : Nat}
end
end Vs

set_option maxRecDepth 100000
set_option maxHeartbeats 2000000
namespace Vs
open PySem PySem.Spec PyProof.Rows L2 Fw SX
section
variable {A B C : M Rv} {e : Ve} {d : D} {i : Nat}
end
section
variable {A B C : M Rv} {e : Ve} {d : D} {i : Nat}
end
section
variable {e : Ve} {i : Nat} {F : D → M Unit} {X : M Ctl}
end
section
variable {A B C : M Rv} {e : Ve} {d : D} {i : Nat}
end
end Vs

set_option maxRecDepth 100000
set_option maxHeartbeats 2000000
namespace Vs
open PySem PySem.Spec PyProof.Rows L2 Fw SX
section
variable {n : Nat} {X : M Ctl}
end
end Vs

set_option maxRecDepth 100000
set_option maxHeartbeats 2000000
namespace Vs
open PySem PySem.Spec PyProof.Rows L2 Fw SX
section
variable {x y f h : Str} {fs : List Str} {d d' : D} {e : Ve} {A : M (List Rv)} {i : Nat} {outs : List Str} {F : List (Str × D) → Option (List D)} {B : M Ctl} {xs : List (Str × D)}
end
end Vs

set_option maxRecDepth 100000
set_option maxHeartbeats 2000000
namespace Vs
open PySem PySem.Spec PyProof.Rows L2 Fw SX
section
variable {A : M Rv} {e : Ve} {d : D}
end
end Vs

set_option maxRecDepth 100000
set_option maxHeartbeats 2000000
namespace Vs
open PySem PySem.Spec PyProof.Rows L2 Fw SX
section
open PySem.W Builtin
variable {prog : Program} {w : World} {A : Around} {E : Value → Shared → Prop} {s : Shared} {K : PySem.W.Frag} {x C f : Addr} {ox : Obj} {od : Option Obj}
end
section
variable {g : Gm} {W : WX} {k : Nat} {X : Cx}
end
section
variable {g : Gm} {W : WX} {k : Nat} {X : Cx}
end
end Vs

set_option maxRecDepth 100000
set_option maxHeartbeats 2000000
namespace Vs
open PySem PySem.Spec PyProof.Rows L2 Fw SX
section
variable {g : Gm} {W : WX} {k : Nat} {X : Cx} {G H : Hp} {σ : L2.St} {e : Ve} {cs : List Str} {f : Str} {i : Nat} {d : D} {v : V} {D' : Ends}
end
section
variable {g : Gm} {W : WX} {k : Nat} {X : Cx}
end
end Vs

set_option maxRecDepth 100000
set_option maxHeartbeats 2000000
namespace Vs
open PySem PySem.Spec PyProof.Rows L2 Fw SX
section
variable {elt t0 i0 t1 i1 : Expr} {f0 f1 : List Expr} {scope : Scope} {pos : Pos} {it acc : Value} {env : PySem.Env}
end
section
variable {Y : Cx} {elt t0 i0 t1 i1 : Expr} {f0 f1 : List Expr} {scope : Scope} {pos : Pos}
end
section
variable {X : Cx} {elt t0 i0 t1 i1 : Expr} {f0 f1 : List Expr} {scope : Scope} {own : List (Str × Nat)} {vs1 : List Nat} {pos : Pos} {wi wi1 : TI} {g g1 : TG} {tt tt1 : TT} {te : TE}
end
end Vs

set_option maxRecDepth 100000
set_option maxHeartbeats 2000000
namespace Vs
open PySem PySem.Spec PyProof.Rows L2 Fw SX
section
variable {g : Gm} {G H G1 H1 G2 H2 : Hp} {σ σ1 σ2 : L2.St} {e e1 e2 : Ve} {vs is vs1 : List Nat} {Da p : Addr} {L : List Str} {o : HO}
end
theorem nodup_le : ∀ {L M : List Str}, L.Nodup → (∀ k ∈ L, k ∈ M) → L.length ≤ M.length
  | [], M, _, _ => Nat.zero_le _
  | a :: r, M, nd, h => by
    obtain ⟨na, nd'⟩ := List.nodup_cons.mp nd
    have ha := h a List.mem_cons_self
    have := nodup_le (M := M.erase a) nd' fun k hk => (List.mem_erase_of_ne fun z => na (by rw [← z]; exact hk)).mpr (h k (List.mem_cons_of_mem _ hk))
    rw [List.length_erase_of_mem ha] at this
    have := List.length_pos_of_mem ha
    rw [List.length_cons]
    omega
def strOf : D → List Nat
  | .str l => l
  | _ => []
/-- the texts L are those of ys, once each -/
def SetOf (L : List Str) (ys : List D) : Prop := L.Nodup ∧ ∀ k, k ∈ L ↔ k ∈ ys.map fun y => S (strOf y)
theorem SetOf.len {L : List Str} {ys : List D} (h : SetOf L ys) : L.length ≤ ys.length := by
  have := nodup_le h.1 fun k hk => (h.2 k).mp hk
  simpa using this
section
variable {g : Gm}
end
section
variable {g : Gm} {W : WX} {k : Nat} {X : Cx} {elt tg iter tg1 iter1 : Expr} {ifs ifs1 : List Expr} {scope : Scope} {own : List (Str × Nat)} {pos : Pos} {S S1 : M (List D)} {F F1 : D → M Unit} {is is1 vs1 : List Nat} {T T1 : M Bool} {E : M Rv}
end
end Vs

set_option maxRecDepth 100000
namespace Vs
open PySem PySem.Spec PyProof.Rows L2 Fw SX
section
variable {e : Ve} {E : M Rv} {S S1 : M (List D)} {F F1 : D → M Unit} {T T1 : M Bool} {vs vs1 : List Nat}
end
end Vs

set_option maxRecDepth 100000
set_option maxHeartbeats 2000000
namespace Vs
open PySem PySem.Spec PyProof.Rows L2 Fw SX PySem.W
section
variable {M : Model} {h : Heap} {K : PySem.W.Frag} {C : Addr}
end
section
variable {prog : Program} {w : World} {A : Around} {E : Value → Shared → Prop} {s : Shared} {K : PySem.W.Frag} {x C C2 f : Addr} {ox : Obj} {od : Option Obj} {b : Value}
end
section
variable {g : Gm} {W : WX} {k : Nat} {X : Cx}
end
end Vs

set_option maxRecDepth 100000
set_option maxHeartbeats 2000000
namespace PySem.W
open PySem PySem.Calls PyProof.Rows
section
variable {K : Frag} {A : Around} {E : Value → Shared → Prop} {s : Shared}
end
end PySem.W
namespace Vs
open PySem PySem.Spec PyProof.Rows L2 Fw SX
section
variable {X : Cx} {k : Nat} {f C : Addr} {sp : Sp} {ks : List Str} {E : L2.St → XK}
end
section
variable {g : Gm} {W : WX} {k : Nat} {X : Cx}
end
end Vs

set_option maxRecDepth 100000
set_option maxHeartbeats 2000000
namespace Vs
open PySem PySem.Spec PyProof.Rows L2 Fw SX
section
variable {X : Cx} {pins : List (Addr × Obj)} {s : Shared} {σ : L2.St} {H : Hp} {a : Addr} {ts : List (List Nat)} {Q : VK}
end
section
variable {g : Gm} {W : WX} {k : Nat} {X : Cx}
end
end Vs

set_option maxRecDepth 100000
set_option maxHeartbeats 2000000
namespace Vs
open PySem PySem.Spec PyProof.Rows L2 Fw SX
section
variable {g : Gm} {W : WX} {k : Nat} {X : Cx} {x : Str} {i : Nat} {ex ey : Expr} {A : M (List Rv)} {p apos cpos : Pos}
end
section
variable {g : Gm} {W : WX} {k : Nat} {X : Cx} {ex : Expr} {es : List Expr} {A : M (List Rv)} {p pos : Pos}
end
section
variable {g : Gm} {W : WX} {k : Nat} {X : Cx} {ex : Expr} {es : List Expr} {A : M (List Rv)} {p pos : Pos}
end
end Vs

set_option maxRecDepth 100000
set_option maxHeartbeats 2000000
namespace Vs
open PySem PySem.Spec PyProof.Rows L2 Fw SX
end Vs

set_option maxRecDepth 100000
namespace Vs
open PySem PySem.Spec PyProof.Rows L2 Fw SX
section
variable {e : Ve}
end
open He
end Vs

set_option maxRecDepth 100000
set_option maxHeartbeats 2000000
namespace Vs
open PySem PySem.Spec PyProof.Rows L2 Fw SX
section
variable {g : Gm} {G H G1 H1 : Hp} {σ σ1 : L2.St} {e e1 : Ve} {d p : Addr} {vs : List V} {od : Obj} {i : Nat} {kvs : List D}
end
section
variable {g : Gm} {W : WX} {k : Nat} {X : Cx} {elt tg : Expr} {ifs : List Expr} {scope : Scope} {own : List (Str × Nat)} {pos p : Pos} {F : D → M Unit} {is : List Nat} {T : M Bool} {E : M Rv} {i : Nat} {x : Str}
end
section
variable {e : Ve} {i : Nat} {F : D → M Unit} {T : M Bool} {E : M Rv} {vs : List Nat}
end
end Vs

set_option maxRecDepth 100000
namespace Vs
open PySem PySem.Spec PyProof.Rows L2 Fw SX
section
variable {e : Ve}
end
end Vs

set_option maxRecDepth 100000
namespace Vs
open PySem PySem.Spec PyProof.Rows L2 Fw SX
section
variable {e : Ve} {y : Str} {outs : List Str} {i : Nat} {F : List (Str × D) → Option (List D)} {B : M Ctl} {xs : List (Str × D)}
end
end Vs

set_option maxRecDepth 100000
set_option maxHeartbeats 2000000
namespace NeL
open PySem PySem.SeqAt
open AutoSeq1 (wpAny_loadPart')
open MeetsSeq MeetsSeq2 MeetsSeq3 SeqRoads2
section
variable {prog : Program} {w : World} {A : Around} {R : Result → Shared → Prop} {l b : Addr} {N : Nat} {I : Nat → Shared → Prop}
end
section
variable {prog : Program} {w : World} {A : Around} {E : Value → Shared → Prop} {s : Shared} {l b : Addr} {N : Nat} {Q : Value → Shared → Prop}
end
end NeL
namespace Vs
open PySem PySem.Spec PyProof.Rows L2 Fw SX NdefX
section
variable {g : Gm} {G H : Hp}
theorem Reps.at_ : ∀ {ds : List D} {vs : List V} {i : Nat} {v : V}, Reps g G ds vs → vs[i]? = some v → ∃ d, ds[i]? = some d ∧ Rep g G d v
  | [], _, i, v, r, h => by cases (show _ = [] from r); simp at h
  | d :: ds, _, 0, v, ⟨u, us, rfl, ru, rus⟩, h => by cases h; exact ⟨d, rfl, ru⟩
  | d :: ds, _, i + 1, v, ⟨u, us, rfl, ru, rus⟩, h => Reps.at_ (i := i) rus h
end
section
variable {g : Gm} {W : WX} {k : Nat} {X : Cx} {T : Str → Option (List Sl → Res Rv)} {ts : List Str} {j : Nat}
end
end Vs

set_option maxRecDepth 100000
namespace Vs
open PySem PySem.Spec PyProof.Rows L2 Fw SX
section
variable {e e1 e2 : Ve} {T : Str → Option (List Sl → Res Rv)} {ts : List Str} {A B : M Rv} {xs ys : List D}
end
end Vs

set_option maxRecDepth 100000
set_option maxHeartbeats 2000000
namespace Fw
open PySem PySem.Spec PyProof.Rows L2
section
variable {P : Program} {w : World} {A : Around} {E : Value → Shared → Prop} {s : Shared}
set_option maxHeartbeats 4000000 in
end
end Fw
namespace Vs
open PySem PySem.Spec PyProof.Rows L2 Fw SX
section
variable {g : Gm} {W : WX} {k : Nat} {X : Cx} {ex : Expr} {A : M (List Rv)} {p p2 pos pos2 : Pos}
end
end Vs

set_option maxRecDepth 100000
namespace Vs
open PySem PySem.Spec PyProof.Rows L2 Fw SX
section
variable {e e1 : Ve} {A : M Rv} {j : Int}
end
end Vs

set_option maxRecDepth 100000
set_option maxHeartbeats 4000000
namespace La
open PySem PySem.Spec PyProof.Rows L2 Fw SX Vs
def topS (i : Nat) : Stmt := PySem.Challenge.pw_foundaswritten_k05_stretches.main.body.getD i (.Pass ⟨0, 0, 0, 0⟩)
def c_DIGITS : List Nat := [48, 49, 50, 51, 52, 53, 54, 55, 56, 57]
abbrev s_law_bag : Stmt := topS 9
abbrev s_law_draw : Stmt := topS 10
abbrev s_law_string : Stmt := topS 13
abbrev s_law_characters : Stmt := topS 11
abbrev s_law_letters : Stmt := topS 15
abbrev s_law_items : Stmt := topS 16
abbrev s_law_signs : Stmt := topS 12
abbrev s_law_written : Stmt := topS 17
abbrev s_law_value : Stmt := topS 14
abbrev s_law_bound : Stmt := topS 18
abbrev s_items_of : Stmt := topS 6
abbrev s_is_integer : Stmt := topS 5
abbrev s_stretch_of : Stmt := topS 7
abbrev s_law_told : Stmt := topS 20
abbrev s_law_is_bound : Stmt := topS 19
abbrev s_law_due : Stmt := topS 21
abbrev s_law : Stmt := topS 22
def D_law_bag : He.DefD := ⟨("_law_bag", none), "_law_bag", "_law_bag", defArgs s_law_bag, defBody s_law_bag, defScope s_law_bag, [], []⟩
def D_law_draw : He.DefD := ⟨("_law_draw", none), "_law_draw", "_law_draw", defArgs s_law_draw, defBody s_law_draw, defScope s_law_draw, [], []⟩
def D_law_string : He.DefD := ⟨("_law_string", none), "_law_string", "_law_string", defArgs s_law_string, defBody s_law_string, defScope s_law_string, [], []⟩
def D_law_characters : He.DefD := ⟨("_law_characters", none), "_law_characters", "_law_characters", defArgs s_law_characters, defBody s_law_characters, defScope s_law_characters, [], []⟩
def D_law_letters : He.DefD := ⟨("_law_letters", none), "_law_letters", "_law_letters", defArgs s_law_letters, defBody s_law_letters, defScope s_law_letters, [], []⟩
def D_law_items : He.DefD := ⟨("_law_items", none), "_law_items", "_law_items", defArgs s_law_items, defBody s_law_items, defScope s_law_items, [], []⟩
def D_law_signs : He.DefD := ⟨("_law_signs", none), "_law_signs", "_law_signs", defArgs s_law_signs, defBody s_law_signs, defScope s_law_signs, [], []⟩
def D_law_written : He.DefD := ⟨("_law_written", none), "_law_written", "_law_written", defArgs s_law_written, defBody s_law_written, defScope s_law_written, [], []⟩
def D_law_value : He.DefD := ⟨("_law_value", none), "_law_value", "_law_value", defArgs s_law_value, defBody s_law_value, defScope s_law_value, [], []⟩
def D_law_bound : He.DefD := ⟨("_law_bound", none), "_law_bound", "_law_bound", defArgs s_law_bound, defBody s_law_bound, defScope s_law_bound, [], []⟩
def D_items_of : He.DefD := ⟨("items_of", none), "items_of", "items_of", defArgs s_items_of, defBody s_items_of, defScope s_items_of, [], []⟩
def D_is_integer : He.DefD := ⟨("is_integer", none), "is_integer", "is_integer", defArgs s_is_integer, defBody s_is_integer, defScope s_is_integer, [], []⟩
def D_stretch_of : He.DefD := ⟨("stretch_of", none), "stretch_of", "stretch_of", defArgs s_stretch_of, defBody s_stretch_of, defScope s_stretch_of, [], []⟩
def D_law_told : He.DefD := ⟨("_law_told", none), "_law_told", "_law_told", defArgs s_law_told, defBody s_law_told, defScope s_law_told, [], []⟩
def D_law_is_bound : He.DefD := ⟨("_law_is_bound", none), "_law_is_bound", "_law_is_bound", defArgs s_law_is_bound, defBody s_law_is_bound, defScope s_law_is_bound, [], []⟩
def D_law_due : He.DefD := ⟨("_law_due", none), "_law_due", "_law_due", defArgs s_law_due, defBody s_law_due, defScope s_law_due, [], []⟩
def D_law : He.DefD := ⟨("law", none), "law", "law", defArgs s_law, defBody s_law, defScope s_law, [], []⟩
def fn : List He.DefD := [D_law_bag, D_law_draw, D_law_string, D_law_characters, D_law_letters, D_law_items, D_law_signs, D_law_written, D_law_value, D_law_bound, D_items_of, D_is_integer, D_stretch_of, D_law_told, D_law_is_bound, D_law_due, D_law]
abbrev s_NoStretch_init : Stmt := inClass (topS 2) 0
def X_NoStretch : XnD := ⟨"NoStretch", "NoStretch.__init__", defArgs s_NoStretch_init, defBody s_NoStretch_init, defScope s_NoStretch_init⟩
def fa : List He.Fa := [.free "len", .free "int", .free "range", .free "list", .free "set", .free "sorted", .free "enumerate", .free "tuple", .str "DIGITS" (S c_DIGITS), .free "bool", .free "isinstance", .glo "NoStretch", .free "super", .glo "FoundError", .free "repr", .glo "_law_bag", .glo "_law_draw", .glo "_law_string", .glo "_law_characters", .glo "_law_letters", .glo "_law_items", .glo "_law_signs", .glo "_law_written", .glo "_law_value", .glo "_law_bound", .glo "items_of", .glo "is_integer", .glo "stretch_of", .glo "_law_told", .glo "_law_is_bound", .glo "_law_due", .glo "law"]
def ex : Ex := [exLB (PySem.W.OpenLaw.row PySem.Challenge.rw_foundaswritten_k05_stretches).prog.main.file "NoStretch", noB "NoStretch" "start", noB "NoStretch" "stop", catB "NoStretch" "NoStretch" true, isXB "NoStretch" "FoundError" false, xfBx "NoStretch" "stop", sysB, xfBx "NoStretch" "start"]
def loose : List PySem.Str := (["FoundError", "NoStretch", "DIGITS", "is_integer", "items_of", "stretch_of", "_law_bag", "_law_draw", "_law_characters", "_law_signs", "_law_string", "_law_value", "_law_letters", "_law_items", "_law_written", "_law_bound", "_law_is_bound", "_law_told", "_law_due"] : List PySem.Str)
abbrev R : PySem.W.OpenRow := PySem.W.OpenLaw.row PySem.Challenge.rw_foundaswritten_k05_stretches
def tf : List He.Defn := []
def fr : List FarD := []
def xs : List Str := (["_law_bag", "_law_draw", "_law_string", "_law_characters", "_law_letters", "_law_items", "_law_signs", "_law_written", "_law_value", "_law_bound", "items_of", "is_integer", "stretch_of", "_law_told", "_law_is_bound", "_law_due", "law", "NoStretch", "FoundError"] : List Str)
def fs : List (PySem.W.Frag → Addr) := []
def xn : List XnD := [X_NoStretch]
abbrev hk : PySem.W.Hook := hookM xs fs ex fa fn tf xn fr
def ob (s : PySem.W.SharedT) : AlP := obsM xs fs ex fa fn tf xn fr (HandSHeadRun.getT s)
theorem run1 (w : World) : Run1 R 8000 w := by
  intro os
  kernel_rfl
theorem run2 (w : World) : Run2 R (PySem.W.view R.prog [22]) 8000 loose w := by
  intro os
  kernel_rfl
theorem run3 (w : World) : Run3 R 8000 w ob (hk.val w) := by
  intro os
  kernel_rfl
theorem run (w : World) : HandSHeadRun.RunEq R (PySem.W.view R.prog [22]) hk ob 8000 loose w := run_three (run1 w) (run2 w) (run3 w)

end La
set_option Elab.async false
set_option linter.all false
set_option maxRecDepth 100000
set_option maxHeartbeats 2000000
namespace Fw
open PySem PySem.Spec PyProof.Rows L2

section
variable {P : Program} {w : World} {h h' : Heap} {a : Addr} {L : List Str}
theorem tx_elems {l : List (Int × Value)} (g : ∀ e ∈ l, IsTx w e) : ElemsOf (strKind P w) l := by
  intro e he
  obtain ⟨x, tk, e2, e1⟩ := g e he
  refine ⟨⟨x, ?_, e1⟩, ?_⟩
  · rw [e2]; exact strKind_is P w x tk
  · rw [e2]; rfl
theorem tx_is {e : Int × Value} (g : IsTx w e) (k : Str) : (strKind P w).is k e.2 = true ↔ nameT e = k := by
  obtain ⟨x, tk, e2, _⟩ := g
  have hn : nameT e = x := by unfold nameT; rw [e2]
  rw [hn, e2]
  constructor
  · intro q
    obtain ⟨t, q2⟩ := Value.isStrOf_shape (x := k) (v := Value.str x tk) q
    injection q2
  · intro q; subst q; exact strKind_is P w x tk
theorem tx_mem {l : List (Int × Value)} (g : ∀ e ∈ l, IsTx w e) (k : Str) : k ∈ l.map nameT ↔ ∃ e ∈ l, (strKind P w).is k e.2 = true := by
  constructor
  · intro q
    obtain ⟨e, he, q2⟩ := List.mem_map.mp q
    exact ⟨e, he, (tx_is (g e he) k).mpr q2⟩
  · rintro ⟨e, he, q⟩
    exact List.mem_map.mpr ⟨e, he, (tx_is (g e he) k).mp q⟩
theorem stored_at {o : Obj} {es es' : Array (Int × Value)} {ep : Nat} {t t' : SetTable} (ho : h.get? a = some o) (hd : o.data = .set es ep t) :
    (h.update a (Obj.putSet es' t')).get? a = some { o with data := .set es' (ep + 1) t' } := L2.store_at ho hd
theorem freshTx {h : Heap} (w : World) {a : Addr} (ho : h.get? a = some { cls := .type "set", dict := none, data := .set #[] 0 (.fresh 0 0 (!w.params.followText "set-order")) }) : TxSet w h a [] := by
  refine ⟨_, #[], 0, _, ho, ⟨rfl, rfl, rfl⟩, rfl, ?_, rfl, List.nodup_nil, by decide, rfl, List.Pairwise.nil, ?_⟩
  · intro e he; simp at he
  · cases q : w.params.followText "set-order" with
    | true => exact .inl rfl
    | false => exact .inr rfl
end

section
variable {P : Program} {w : World} {A : Around} {E : Value → Shared → Prop} {s : Shared} {a : Addr} {L : List Str}
/-- behind a new entry: the table is stored, and laid anew if it is too full -/
theorem tx_tail {g : Bool → Sem Unit} (hg : ∀ (b : Bool) (s1 : Shared) (Q' : Unit → Shared → Prop), Q' () s1 → wpAny (model P w) A (g b) Q' E s1)
    {o : Obj} {es : Array (Int × Value)} {ep : Nat} {t : SetTable} (ho : s.heap.get? a = some o) (hex : o.ExactSet) (hd : o.data = .set es ep t)
    {es1 : Array (Int × Value)} {t2 : SetTable} (g1 : ∀ e ∈ es1.toList, IsTx w e) (nd1 : (es1.toList.map nameT).Nodup) (hb1 : es1.size < scanBound) (hf2 : t2.fits es1.size = true)
    (hr : Ris t2.place.toList) (hl : w.params.followText "set-order" = true ∨ t2.led = true) {wd : Bool} {R : Option Bool → Shared → Prop}
    (hR : ∀ h' L', Heap.SameBut a s.heap h' → L'.Perm (es1.toList.map nameT) → TxSet w h' a L' → R (some true) { s with heap := h' }) :
    wpAny (model P w) A (storeSet a es1 t2 >>= fun _ => if (!wd && t2.tooFull) = true then
        (g (relayAll t2 es1 (SetTable.grown es1.size)).2.2 >>= fun _ =>
          storeSet a (relayAll t2 es1 (SetTable.grown es1.size)).1 (relayAll t2 es1 (SetTable.grown es1.size)).2.1 >>= fun _ => pure (some true))
      else pure (some true)) R E s := by
  have len1 : (es1.toList.map nameT).length = es1.size := by simp
  refine wpAny_bind (wpAny_storeSet_of ho hd ?_ (fits_of_scanBound hb1))
  have ho1 := stored_at (es' := es1) (t' := t2) ho hd
  have sb1 := Heap.SameBut.update s.heap a (Obj.putSet es1 t2)
  by_cases full : (!wd && t2.tooFull) = true
  · rw [if_pos full]
    have pm := relayAll_perm t2 es1 (SetTable.grown es1.size)
    have f3 := relayAll_fits t2 es1 (SetTable.grown es1.size)
    have r3 := relayAll_ris t2 es1 (SetTable.grown es1.size)
    have l3 := relayAll_led t2 es1 (SetTable.grown es1.size)
    generalize relayAll t2 es1 (SetTable.grown es1.size) = Z at pm f3 r3 l3 ⊢
    obtain ⟨es2, t3, gave⟩ := Z
    dsimp only at pm f3 r3 l3 ⊢
    have len2 : es2.size = es1.size := by
      have q := pm.length_eq
      rw [Array.length_toList, Array.length_toList] at q
      exact q
    refine wpAny_bind (hg _ _ _ (wpAny_bind (wpAny_storeSet_of ho1 rfl (wpAny_pure ?_) (fits_of_scanBound (by rw [len2]; exact hb1)))))
    have ho2 := stored_at (es' := es2) (t' := t3) ho1 rfl
    have pn := pm.map nameT
    refine hR _ (es2.toList.map nameT) (sb1.trans (Heap.SameBut.update _ a _)) pn ⟨_, es2, _, t3, ho2, hex, rfl, fun e he => g1 e (pm.mem_iff.mp he), rfl, pn.nodup_iff.mpr nd1, ?_, f3, r3, ?_⟩
    · rw [pn.length_eq, len1]; exact hb1
    · rcases hl with z | z
      · exact .inl z
      · exact .inr (by rw [l3]; exact z)
  · rw [if_neg full]
    exact wpAny_pure (hR _ _ sb1 (List.Perm.refl _) ⟨_, es1, _, t2, ho1, hex, rfl, g1, rfl, nd1, by rw [len1]; exact hb1, hf2, hr, hl⟩)

theorem tx_add {k : Str} {tk : Tok} {Q : Bool → Shared → Prop} (R : TxSet w s.heap a L) (room : L.length + 1 < scanBound)
    (hQ : ∀ b h' L', Heap.SameBut a s.heap h' → TxSet w h' a L' → (k ∈ L → L' = L) → (k ∉ L → L'.Perm (k :: L)) → Q b { s with heap := h' }) :
    wpAny (model P w) A (setAddHashed a (.str k tk) (hashStr w k)) Q E s := by
  obtain ⟨o, es, ep, t, ho, hex, hd, g, eL, nd, hb, hf, hr, hl⟩ := R
  have lenL : L.length = es.size := by rw [← eL]; simp
  have hkey : (strKind P w).is k (.str k tk) = true := strKind_is P w k tk
  have hsc : (Value.str k tk).scannable = true := rfl
  have hel : ElemsOf (strKind P w) es.toList := tx_elems g
  have hb' : es.size < scanBound := by rw [← lenL]; exact hb
  show wpAny (model P w) A (setAddHashed a (.str k tk) ((strKind P w).hash k)) Q E s
  unfold setAddHashed setAddHashedIn
  refine wpAny_holding (wpAny_bind (wpAny_setState_of ho hd hf ?_))
  dsimp only
  rw [byScan_of hsc hb' hel]
  simp only [↓reduceIte]
  unfold setAddByScan
  refine wpAny_bind (wpAny_bind (wpAny_rule (wpAny_bind (wpAny_setScan_of hkey ho hd hf hel ?_))))
  cases hfi : List.findIdx? (fun e => (strKind P w).is k e.2) es.toList with
  | some j =>
    dsimp only
    obtain ⟨hj, pj, _⟩ := List.findIdx?_eq_some_iff_getElem.mp hfi
    have inL : k ∈ L := by
      rw [← eL]
      exact (tx_mem (P := P) g k).mpr ⟨_, List.getElem_mem hj, pj⟩
    exact wpAny_pure (wpAny_pure (hQ _ s.heap L (Heap.SameBut.refl a s.heap) ⟨o, es, ep, t, ho, hex, hd, g, eL, nd, hb, hf, hr, hl⟩ (fun _ => rfl) fun n => absurd inL n))
  | none =>
    dsimp only
    have notL : k ∉ L := by
      rw [← eL]
      intro z
      obtain ⟨e, he, q⟩ := (tx_mem (P := P) g k).mp z
      have c := List.findIdx?_eq_none_iff.mp hfi e he
      rw [q] at c
      cases c
    have calm : ∀ (b : Bool) (s1 : Shared) (Q' : Unit → Shared → Prop), Q' () s1 → wpAny (model P w) A (match b with | true => rule "set.scan.the-table-gave-way" | false => pure ()) Q' E s1 := by
      intro b s1 Q' q
      cases b
      · exact wpAny_pure q
      · exact wpAny_rule q
    have pm := layNew_perm t es ((strKind P w).hash k) (.str k tk)
    have f1 := layNew_fits t es ((strKind P w).hash k) (.str k tk)
    have r1 := layNew_ris t es ((strKind P w).hash k) (.str k tk) hr
    have l1 := layNew_led t es ((strKind P w).hash k) (.str k tk)
    generalize layNew t es ((strKind P w).hash k) (.str k tk) = Z at pm f1 r1 l1 ⊢
    obtain ⟨es1, t1, wd, gave⟩ := Z
    dsimp only at pm f1 r1 l1 ⊢
    have pc : es1.toList.Perm (((strKind P w).hash k, Value.str k tk) :: es.toList) := by
      rw [Array.toList_push] at pm
      exact pm.trans (List.perm_append_singleton _ _)
    have pk : (es1.toList.map nameT).Perm (k :: L) := by
      have q := pc.map nameT
      rw [List.map_cons, eL] at q
      exact q
    have g1 : ∀ e ∈ es1.toList, IsTx w e := by
      intro e he
      rcases List.mem_cons.mp (pc.mem_iff.mp he) with z | z
      · rw [z]; exact ⟨k, tk, rfl, rfl⟩
      · exact g e z
    have nd1 : (es1.toList.map nameT).Nodup := pk.nodup_iff.mpr (List.nodup_cons.mpr ⟨notL, nd⟩)
    have b1 : es1.size < scanBound := by
      have q := pk.length_eq
      rw [List.length_map, Array.length_toList, List.length_cons] at q
      omega
    have led1 : w.params.followText "set-order" = true ∨ t1.led = true := by
      rcases hl with z | z
      · exact .inl z
      · exact .inr (by rw [l1]; exact z)
    have fin : ∀ h' L', Heap.SameBut a s.heap h' → L'.Perm (es1.toList.map nameT) → TxSet w h' a L' → Q true { s with heap := h' } := fun h' L' sb pp r =>
      hQ _ h' L' sb r (fun z => absurd z notL) fun _ => pp.trans pk
    refine wpAny_bind (calm _ _ _ ?_)
    split
    · refine wpAny_bind ?_
      rw [hashByValue_scannable 8 hsc]
      refine wpAny_pure ?_
      refine tx_tail ?_ ho hex hd g1 nd1 b1 ?_ ?_ ?_ ?_
      · intro b s1 Q' q; cases b <;> first | exact wpAny_pure q | exact wpAny_rule q
      · first | (split <;> first | exact f1 | exact SetTable.fits_plain_off f1) | exact f1
      · first | (split <;> exact r1) | exact r1
      · first | (split <;> exact led1) | exact led1
      · intro h' L' sb pp r; dsimp only; exact wpAny_pure (fin h' L' sb pp r)
    · refine wpAny_bind (wpAny_pure ?_)
      simp only [↓reduceIte]
      refine tx_tail ?_ ho hex hd g1 nd1 b1 f1 r1 led1 ?_
      · intro b s1 Q' q; cases b <;> first | exact wpAny_pure q | exact wpAny_rule q
      · intro h' L' sb pp r; dsimp only; exact wpAny_pure (fin h' L' sb pp r)
end
end Fw
namespace Fw
open PySem PySem.Spec PyProof.Rows L2
section
variable {P : Program} {w : World}
/-- v is walked text by text: xs; h0 is the heap in which that is known -/
def Src (P : Program) (w : World) (h0 : Heap) (v : Value) (xs : List Str) : Prop :=
  ∀ (A : Around) (E : Value → Shared → Prop) (Q : Value → Shared → Prop) (s : Shared), (∀ b o, h0.get? b = some o → s.heap.get? b = some o) →
    (∀ (I : Addr) (s2 : Shared) (fp : List Addr) (Pv : Nat → Value → Prop) (St : Nat → Heap → Prop), (∀ b o, s.heap.get? b = some o → s2.heap.get? b = some o) → s2.gens = s.gens → s2.os = s.os →
      s2.drawn = s.drawn → s2.toks = s.toks → s.heap.objs.size ≤ I → (∀ b ∈ fp, b < h0.objs.size ∨ s.heap.objs.size ≤ b) →
      (∀ A' : Around, A'.handled = none → Walks P w A' I fp [I] xs.length Pv St) → (∀ i u, Pv i u → ∃ tk, u = .str (xs.getD i Str.empty) tk) → St 0 s2.heap → Q (.ref I) s2) →
    wpAny (model P w) A (pyIter v) Q E s
theorem strs_at' {us : List Value} {xs : List Str} (h : StrsAre us xs) (i : Nat) (v : Value) (e : us[i]? = some v) : ∃ tk, v = .str (xs.getD i Str.empty) tk := StrsAt.at_ h i v e
theorem src_list {h0 : Heap} {l : Addr} {us : List Value} {xs : List Str} (hl : h0.IsList l us.toArray) (hx : StrsAre us xs) : Src P w h0 (.ref l) xs := by
  intro A E Q s k hQ
  have hl1 : s.heap.IsList l us.toArray := hl.at fun o e => k l o e
  have lt0 : l < h0.objs.size := by
    obtain ⟨o, ho, _⟩ := hl
    exact Heap.lt_size ho
  have lt1 : l < s.heap.objs.size := by
    obtain ⟨o, ho, _⟩ := hl1
    exact Heap.lt_size ho
  have hlen : us.toArray.size = xs.length := by
    rw [← StrsAre.length hx]
    simp
  refine wpAny_pyIter_list hl1 (hQ _ _ [s.heap.objs.size, l] (fun i v => us.toArray[i]? = some v) (fun i h => h.IsListIter s.heap.objs.size l i ∧ h.IsList l us.toArray) (fun b o e => Heap.get?_push_of_some _ e) rfl rfl rfl rfl (Nat.le_refl _) ?_ ?_ ?_ ?_)
  · intro b hb
    rcases List.mem_cons.mp hb with z | z
    · exact .inr (Nat.le_of_eq z.symm)
    · exact .inl (by rw [List.mem_singleton.mp z]; exact lt0)
  · intro A' hA'
    rw [← hlen]
    exact Walks.list hA' _ l (Nat.ne_of_lt lt1) us.toArray
  · intro i u e
    exact strs_at' hx i u (by simpa using e)
  · exact ⟨⟨_, Heap.get?_push_size _ rfl, rfl, rfl⟩, hl1.push _⟩
theorem src_tuple {h0 : Heap} {l : Addr} {us : List Value} {xs : List Str} (hl : h0.IsTuple l us.toArray) (hx : StrsAre us xs) : Src P w h0 (.ref l) xs := by
  intro A E Q s k hQ
  have hl1 : s.heap.IsTuple l us.toArray := hl.at fun o e => k l o e
  have lt0 : l < h0.objs.size := by
    obtain ⟨o, ho, _⟩ := hl
    exact Heap.lt_size ho
  have lt1 : l < s.heap.objs.size := by
    obtain ⟨o, ho, _⟩ := hl1
    exact Heap.lt_size ho
  have hlen : us.toArray.size = xs.length := by
    rw [← StrsAre.length hx]
    simp
  refine wpAny_pyIter_tuple hl1 (hQ _ _ [s.heap.objs.size, l] (fun i v => us.toArray[i]? = some v) (fun i h => h.IsTupleIter s.heap.objs.size l i ∧ h.IsTuple l us.toArray) (fun b o e => Heap.get?_push_of_some _ e) rfl rfl rfl rfl (Nat.le_refl _) ?_ ?_ ?_ ?_)
  · intro b hb
    rcases List.mem_cons.mp hb with z | z
    · exact .inr (Nat.le_of_eq z.symm)
    · exact .inl (by rw [List.mem_singleton.mp z]; exact lt0)
  · intro A' hA'
    rw [← hlen]
    exact Walks.tuple hA' _ l (Nat.ne_of_lt lt1) us.toArray
  · intro i u e
    exact strs_at' hx i u (by simpa using e)
  · exact ⟨⟨_, Heap.get?_push_size _ rfl, rfl, rfl⟩, hl1.at fun o e => Heap.get?_push_of_some _ e⟩
/-- a text's signs as texts of one sign -/
def signsOf (x : Str) : List Str := x.cps.toList.map fun c => ⟨#[c]⟩
theorem src_text {h0 : Heap} {x : Str} {t : Tok} : Src P w h0 (.str x t) (signsOf x) := by
  intro A E Q s k hQ
  have hlen : (signsOf x).length = x.cps.size := by simp [signsOf]
  have sg : ∀ i u, SignAt x i u → ∃ tk, u = .str ((signsOf x).getD i Str.empty) tk := by
    intro i u e
    obtain ⟨c, tk, hc, rfl⟩ := e
    refine ⟨tk, ?_⟩
    have q : (signsOf x)[i]? = some ⟨#[c]⟩ := by
      unfold signsOf
      rw [List.getElem?_map, Array.getElem?_toList, hc]
      rfl
    rw [List.getD_eq_getElem?_getD, q]
    rfl
  refine wpAny_pyIter_strU ?_
  by_cases ha : x.cps.all (· < 128) = true
  · have et : strIterType x = "str_ascii_iterator" := by unfold strIterType; rw [if_pos ha]
    rw [et]
    refine hQ _ _ [s.heap.objs.size] (SignAt x) (fun i h => h.IsStrIter s.heap.objs.size "str_ascii_iterator" x t i) (fun b o e => Heap.get?_push_of_some _ e) rfl rfl rfl rfl (Nat.le_refl _) ?_ ?_ sg ?_
    · intro b hb
      exact .inr (Nat.le_of_eq (List.mem_singleton.mp hb).symm)
    · intro A' hA'
      rw [hlen]
      exact Walks.strAscii hA' _ x t
    · exact ⟨_, Heap.get?_push_size _ rfl, rfl, rfl⟩
  · have et : strIterType x = "str_iterator" := by unfold strIterType; rw [if_neg ha]
    rw [et]
    refine hQ _ _ [s.heap.objs.size] (SignAt x) (fun i h => h.IsStrIter s.heap.objs.size "str_iterator" x t i) (fun b o e => Heap.get?_push_of_some _ e) rfl rfl rfl rfl (Nat.le_refl _) ?_ ?_ sg ?_
    · intro b hb
      exact .inr (Nat.le_of_eq (List.mem_singleton.mp hb).symm)
    · intro A' hA'
      rw [hlen]
      exact Walks.strWide hA' _ x t
    · exact ⟨_, Heap.get?_push_size _ rfl, rfl, rfl⟩
end
end Fw
namespace Fw
open PySem PySem.Spec PyProof.Rows L2
section
variable {P : Program} {w : World} {A : Around} {E : Value → Shared → Prop} {s : Shared}
theorem take_mem_succ {xs : List Str} {i : Nat} (hi : i < xs.length) (k : Str) : k ∈ xs.take (i + 1) ↔ k = xs.getD i Str.empty ∨ k ∈ xs.take i := by
  have e : xs[i]? = some (xs.getD i Str.empty) := by
    rw [List.getD_eq_getElem?_getD, List.getElem?_eq_getElem hi]
    rfl
  rw [List.take_add_one, e, List.mem_append]
  simp only [Option.toList_some, List.mem_singleton]
  exact Or.comm
/-- the loop that fills a set -/
theorem fill_loop {I : Addr} {fp : List Addr} {Pv : Nat → Value → Prop} {St : Nat → Heap → Prop} {R : Result → Shared → Prop} {xs : List Str}
    (W : Walks P w A.in1 I fp [I] xs.length Pv St) (S : Addr) (hSf : S ∉ fp) (hv : ∀ i u, Pv i u → ∃ tk, u = .str (xs.getD i Str.empty) tk) (hb : xs.length + 1 < scanBound) :
    ∀ (m i : Nat) (s : Shared) (L : List Str), xs.length - i = m → i ≤ xs.length → St i s.heap → TxSet w s.heap S L → (∀ k, k ∈ L ↔ k ∈ xs.take i) → L.length ≤ i →
      (∀ h' tk L', (∀ b o, b ≠ S → b ≠ I → s.heap.get? b = some o → h'.get? b = some o) → TxSet w h' S L' → (∀ k, k ∈ L' ↔ k ∈ xs) → R (.ok (.ret .none)) { s with heap := h', toks := tk }) →
      codeAny (model P w) A (.builtin "set.update.loop" ⟨[.ref S, .ref I], []⟩) R s := by
  have nSI : S ≠ I := fun z => hSf (W.sub _ (by rw [z]; exact List.mem_singleton_self I))
  intro m
  induction m with
  | zero =>
    intro i s L hm hi hst hS hL hn hR
    obtain rfl : i = xs.length := by omega
    refine codeAny_builtin F.entry_set_update_loop ?_
    rw [Around.under_plainId F.plain_set_update_loop _]
    show wpAny _ A.in1 (pyNext (.ref I) >>= _) _ _ s
    refine wpAny_bind (W.done s _ _ hst fun h' tk k => ?_)
    refine wpAny_pure (hR h' tk L (fun b o _ nI e => k b o (fun z => nI (List.mem_singleton.mp z)) e) (hS.at fun o e => k S o (fun z => nSI (List.mem_singleton.mp z)) e) fun x => ?_)
    rw [hL x, List.take_length]
  | succ m ih =>
    intro i s L hm hi hst hS hL hn hR
    have hlt : i < xs.length := by omega
    refine codeAny_builtin F.entry_set_update_loop ?_
    rw [Around.under_plainId F.plain_set_update_loop _]
    show wpAny _ A.in1 (pyNext (.ref I) >>= _) _ _ s
    refine wpAny_bind (W.item i s _ _ hlt hst fun v h1 tk1 hP hst1 k1 => ?_)
    obtain ⟨tk, rfl⟩ := hv i v hP
    have hS1 : TxSet w h1 S L := hS.at fun o e => k1 S o (fun z => nSI (List.mem_singleton.mp z)) e
    show wpAny _ A.in1 (holding [Value.str (xs.getD i Str.empty) tk] (setAdd S (.str (xs.getD i Str.empty) tk)) >>= _) _ _ _
    refine wpAny_bind (wpAny_holding ?_)
    unfold setAdd
    refine wpAny_holding (wpAny_bind ((strKind P w).pyHash (strKind_is P w _ tk) ?_))
    refine tx_add (s := { s with heap := h1, toks := tk1 + 1 }) hS1 (by omega) fun b h2 L2 sb hS2 c1 c2 => ?_
    have mem2 : ∀ k, k ∈ L2 ↔ k ∈ xs.take (i + 1) := by
      intro k
      rw [take_mem_succ hlt k, ← hL k]
      by_cases c : xs.getD i Str.empty ∈ L
      · rw [c1 c]
        exact ⟨.inr, fun z => z.elim (fun e => e ▸ c) id⟩
      · rw [(c2 c).mem_iff, List.mem_cons]
    have len2 : L2.length ≤ i + 1 := by
      by_cases c : xs.getD i Str.empty ∈ L
      · rw [c1 c]; omega
      · rw [(c2 c).length_eq, List.length_cons]; omega
    have st2 : St (i + 1) h2 := W.frame _ _ _ hst1 fun c hc o e => by
      rw [sb.2 c (fun z => hSf (z ▸ hc))]
      exact e
    refine wpAny_pure ⟨plainId_quiet F.plain_set_update_loop _, ih (i + 1) _ L2 (by omega) hlt st2 hS2 mem2 len2 fun h3 tk3 L3 k3 hS3 m3 => ?_⟩
    refine hR h3 tk3 L3 (fun c o nS nI e => k3 c o nS nI ?_) hS3 m3
    show h2.get? c = some o
    rw [sb.2 c nS]
    exact k1 c o (fun z => nI (List.mem_singleton.mp z)) e
/-- what set(v) asks of v's type -/
structure NoSet (P : Program) (w : World) (h0 : Heap) (v : Value) : Prop where
  set : ∀ (A : Around) (E : Value → Shared → Prop) (Q : Bool → Shared → Prop) (s : Shared), (∀ b o, h0.get? b = some o → s.heap.get? b = some o) → Q false s → wpAny (model P w) A (Builtin.Frozenset.isAnySet v) Q E s
  dict : ∀ (A : Around) (E : Value → Shared → Prop) (Q : Value → Shared → Prop) (s : Shared), (∀ b o, h0.get? b = some o → s.heap.get? b = some o) → (∀ T : Value, (T == .type "dict") = false → Q T s) → wpAny (model P w) A (typeOf v) Q E s
/-- what fills a new set -/
theorem upd_src {v : Value} {xs : List Str} {S : Addr} {h0 : Heap} {Q : Unit → Shared → Prop} (hh : A.handled = none) (ext : ∀ b o, h0.get? b = some o → s.heap.get? b = some o) (hsrc : Src P w h0 v xs) (hno : NoSet P w h0 v) (hb : xs.length + 1 < scanBound)
    (hS : s.heap.get? S = some { cls := .type "set", dict := none, data := .set #[] 0 (.fresh 0 0 (!w.params.followText "set-order")) }) (hS0 : h0.objs.size ≤ S)
    (hQ : ∀ h' tk L, (∀ b o, h0.get? b = some o → h'.get? b = some o) → TxSet w h' S L → (∀ k, k ∈ L ↔ k ∈ xs) → Q () { s with heap := h', toks := tk }) :
    wpAny (model P w) A (Builtin.Frozenset.updateFrom "set.__init__" S v) Q E s := by
  unfold Builtin.Frozenset.updateFrom
  refine wpAny_bind (hno.set _ _ _ _ ext ?_)
  simp only [Bool.false_eq_true, ↓reduceIte]
  refine wpAny_bind (hno.dict _ _ _ _ ext fun T hT => ?_)
  rw [hT]
  simp only [Bool.false_eq_true, ↓reduceIte]
  refine wpAny_bind (hsrc _ _ _ s ext fun I s2 fp Pv St k2 g2 o2 d2 t2 hI hfp hW hv hst => ?_)
  obtain ⟨h2, gs2, dr2, tk2, os2⟩ := s2
  dsimp only at g2 o2 d2 t2
  subst g2; subst o2; subst d2; subst t2
  have ltS : S < s.heap.objs.size := Heap.lt_size hS
  have hSf : S ∉ fp := fun z => by
    rcases hfp S z with q | q
    · exact absurd q (Nat.not_lt_of_le hS0)
    · exact absurd ltS (Nat.not_lt_of_le q)
  refine wpAny_bind (wpAny_runValue ?_)
  refine fill_loop (hW A.in1 hh) S hSf hv hb xs.length 0 _ [] (by omega) (Nat.zero_le _) hst (freshTx w (k2 _ _ hS)) (fun k => by simp) (Nat.le_refl _) fun h' tk L kp hL mem => ?_
  refine wpAny_pure (hQ h' tk L (fun b o e => kp b o ?_ ?_ (k2 b o (ext b o e))) hL mem)
  · intro z; rw [z] at e; exact absurd (Heap.lt_size e) (Nat.not_lt_of_le hS0)
  · intro z; rw [z] at e; exact absurd (Heap.lt_size (ext _ _ e)) (Nat.not_lt_of_le hI)
set_option maxHeartbeats 4000000 in
/-- set(v) -/
theorem call_set_src {v : Value} {xs : List Str} {Q : Value → Shared → Prop} (hh : A.handled = none) (hsrc : Src P w s.heap v xs) (hno : NoSet P w s.heap v) (hb : xs.length + 1 < scanBound)
    (hQ : ∀ h' tk L, (∀ b o, s.heap.get? b = some o → h'.get? b = some o) → TxSet w h' s.heap.objs.size L → (∀ k, k ∈ L ↔ k ∈ xs) → Q (.ref s.heap.objs.size) { s with heap := h', toks := tk }) :
    wpAny (model P w) A (call (.type "set") [v]) Q E s := by
  obtain ⟨c, tl, hmro⟩ := F.called_set.mro
  have hmade := F.called_set.made
  have hsub := F.called_set.sub
  refine wpAny_call (codeAny_of_tree ?_)
  show wpAny _ _ (callAny (.type "set") _) _ _ _
  refine wpAny_pure ⟨Code.quiet_builtin _ (by decide +kernel), codeAny_builtin F.entry_type_call ?_⟩
  rw [Around.under_plain (weight_type_call_type "set" [v] []) rfl]
  have h1 := F.called_set.notType
  have h2 := F.called_set.canCreate
  have hct := F.typeCall_set_1 v
  repeat (any_goals (first | assumption | wp_step))
  let ob : Obj := { cls := .type "set", dict := none, data := .set #[] 0 (.fresh 0 0 (!w.params.followText "set-order")) }
  refine codeAny_mono (code_set_led1 v (E := E) (Q₁ := fun o1 s1 => o1 = .ref s.heap.objs.size ∧ s1 = { s with heap := s.heap.push ob }) ⟨rfl, rfl⟩) fun r s1 hr => ?_
  match r, hr with
  | .error e, hr => exact hr
  | .ok (.ret o1), hr =>
    obtain ⟨rfl, rfl⟩ := hr
    have hS : (s.heap.push ob).get? s.heap.objs.size = some ob := Heap.get?_push_size _ rfl
    have hT : Shared.TypeIs { s with heap := s.heap.push ob } (.ref s.heap.objs.size) "set" := ⟨_, hS, rfl⟩
    have hli := F.called_set.init.lookup
    have hbi := F.called_set.init.bind (.ref s.heap.objs.size)
    repeat (any_goals (first | assumption | wp_step))
    refine codeAny_mono (codeAny_call_builtin (R := wants (fun r s2 => r = .none ∧ ∃ h' tk L, s2 = { s with heap := h', toks := tk } ∧ (∀ b o, s.heap.get? b = some o → h'.get? b = some o) ∧
        TxSet w h' s.heap.objs.size L ∧ ∀ k, k ∈ L ↔ k ∈ xs) E) F.called_set.init.plain F.entry_set_init (check_set_init_1 hT ?_)) fun r2 s2 hr2 => ?_
    · have ext : ∀ b o, s.heap.get? b = some o → (s.heap.push ob).get? b = some o := fun b o e => Heap.get?_push_of_some _ e
      unfold Builtin.«set.__init__» noKeywords
      generalize hU : Builtin.Frozenset.updateFrom = U
      wp_walk
      subst hU
      refine upd_src (s := { s with heap := s.heap.push ob }) hh (fun b o e => ext b o e) hsrc hno hb hS (Nat.le_refl _) fun h' tk L kp hL mem => ?_
      trace_state
      exact wpAny_pure ⟨rfl, h', tk, L, rfl, kp, hL, mem⟩
    · match r2, hr2 with
      | .error e, hr2 => exact hr2
      | .ok (.ret r), hr2 =>
        obtain ⟨rfl, h', tk, L, rfl, kp, hL, mem⟩ := hr2
        repeat (any_goals (first | assumption | wp_step))
        exact hQ _ _ _ kp hL mem
end
end Fw

set_option maxRecDepth 100000
set_option maxHeartbeats 2000000
namespace Fw
open PySem PySem.Spec PyProof.Rows L2
def leS (x y : Str) : Bool := !ltCps y.cps.toList x.cps.toList
theorem leS_iff {x y : Str} : leS x y = true ↔ ¬ y.cps.toList < x.cps.toList := by
  unfold leS
  rw [ltCps_eq]
  simp
theorem leS_trans (x y z : Str) (h1 : leS x y = true) (h2 : leS y z = true) : leS x z = true := by
  rw [leS_iff] at *
  have a : x.cps.toList ≤ y.cps.toList := by simpa using h1
  have b : y.cps.toList ≤ z.cps.toList := by simpa using h2
  simpa using List.le_trans a b
theorem leS_total (x y : Str) : (leS x y || leS y x) = true := by
  rcases List.le_total x.cps.toList y.cps.toList with h | h
  · have q : leS x y = true := leS_iff.mpr (by simpa using h)
    rw [q]; rfl
  · have q : leS y x = true := leS_iff.mpr (by simpa using h)
    rw [q]; simp
theorem str_ext {x y : Str} (h : x.cps.toList = y.cps.toList) : x = y := by
  cases x; cases y
  simp at h
  simp [h]
theorem leS_anti (x y : Str) (h1 : leS x y = true) (h2 : leS y x = true) : x = y := by
  rw [leS_iff] at *
  exact str_ext (List.le_antisymm (by simpa using h1) (by simpa using h2))
def srt (xs : List Str) : List Str := xs.mergeSort leS
theorem srt_perm (xs : List Str) : (srt xs).Perm xs := List.mergeSort_perm xs leS
theorem srt_pw (xs : List Str) : (srt xs).Pairwise fun x y => leS x y = true := List.pairwise_mergeSort leS_trans leS_total xs
theorem risingS_pw : ∀ (xs : List Str) (p : Str), risingS p xs = true → (p :: xs).Pairwise fun x y => leS x y = true
  | [], p, _ => by simp
  | x :: r, p, h => by
    obtain ⟨h1, h2⟩ := Bool.and_eq_true_iff.mp (show (!ltCps x.cps.toList p.cps.toList && risingS x r) = true from h)
    have ih := risingS_pw r x h2
    refine List.pairwise_cons.mpr ⟨fun y hy => ?_, ih⟩
    rcases List.mem_cons.mp hy with z | z
    · rw [z]; exact h1
    · exact leS_trans p x y h1 ((List.pairwise_cons.mp ih).1 y z)
theorem sortedS_pw {xs : List Str} (h : sortedS xs = true) : xs.Pairwise fun x y => leS x y = true := by
  cases xs with
  | nil => exact List.Pairwise.nil
  | cons x r => exact risingS_pw r x h
theorem srt_one {xs ys : List Str} (p : ys.Perm xs) (h : ys.Pairwise fun x y => leS x y = true) : ys = srt xs :=
  List.Perm.eq_of_pairwise (fun x y _ _ h1 h2 => leS_anti x y h1 h2) h (srt_pw xs) (p.trans (srt_perm xs).symm)
theorem srt_congr {xs ys : List Str} (p : xs.Perm ys) : srt xs = srt ys := srt_one ((srt_perm xs).trans p) (srt_pw xs)
theorem srt_mem {xs : List Str} {x : Str} : x ∈ srt xs ↔ x ∈ xs := (srt_perm xs).mem_iff
theorem srt_len (xs : List Str) : (srt xs).length = xs.length := (srt_perm xs).length_eq
theorem once_mem : ∀ {xs : List Str} {k : Str}, k ∈ once xs ↔ k ∈ xs
  | [], _ => Iff.rfl
  | x :: r, k => by
    unfold once
    by_cases c : x ∈ r
    · rw [if_pos c, once_mem, List.mem_cons]
      exact ⟨.inr, fun z => z.elim (fun e => e ▸ c) id⟩
    · rw [if_neg c, List.mem_cons, List.mem_cons, once_mem]
theorem once_nodup : ∀ xs : List Str, (once xs).Nodup
  | [] => List.nodup_nil
  | x :: r => by
    unfold once
    by_cases c : x ∈ r
    · rw [if_pos c]; exact once_nodup r
    · rw [if_neg c]
      exact List.nodup_cons.mpr ⟨fun z => c (once_mem.mp z), once_nodup r⟩
def ups (xs : List Str) : List Str := srt (once xs)
theorem nodup_perm {xs ys : List Str} (h1 : xs.Nodup) (h2 : ys.Nodup) (h : ∀ k, k ∈ xs ↔ k ∈ ys) : xs.Perm ys := (List.perm_ext_iff_of_nodup h1 h2).mpr h
theorem ups_nodup (xs : List Str) : (ups xs).Nodup := (srt_perm _).nodup_iff.mpr (once_nodup xs)
theorem ups_mem {xs : List Str} {x : Str} : x ∈ ups xs ↔ x ∈ xs := by
  unfold ups
  rw [srt_mem, once_mem]
theorem srt_set {L xs : List Str} (hL : L.Nodup) (h : ∀ k, k ∈ L ↔ k ∈ xs) : srt L = ups xs :=
  srt_congr (nodup_perm hL (once_nodup xs) fun k => by rw [h k, once_mem])
/-- v is a text, or a list or tuple of texts: what its walk gives -/
def TxSrc (K : PySem.W.Frag) (H : Hp) (v : V) (ys : List Str) : Prop :=
  (∃ x, v = .str x ∧ ys = signsOf x ∧ x.length ≤ sizeLine) ∨ ∃ a, v = .ref a ∧ (SqL K H a (ys.map V.str) ∨ SqT K H a (ys.map V.str))
section
variable {X : Cx}
theorem setS_new {w : World} {P : Program} {H : Hp} {h : Heap} {a : Addr} {L : List Str} (R : TxSet w h a L) : ObjOk P w H h a (SetS w a L) := by
  have ⟨o, _, _, _, ho, _⟩ := R
  exact ⟨R, ⟨o, ho⟩, fun h1 h2 p k => TxSet.at p k⟩
theorem setS_get {pins : List (Addr × Obj)} {σ : L2.St} {H : Hp} {s : Shared} {a : Addr} {L : List Str} (I : Inv X pins σ H s) (ha : H a = some (SetS X.w a L)) : TxSet X.w s.heap a L := (I.hok a _ ha).1
theorem vals_strs {ys : List Str} {us : List Value} (r : Vals (ys.map V.str) us) : StrsAre us ys := r.strs
theorem noSet_ty {P : Program} {w : World} {h0 : Heap} {v : Value} {T : String} (ht : ∀ s : Shared, (∀ b o, h0.get? b = some o → s.heap.get? b = some o) → s.TypeIs v T) (h1 : isSubtype (.type T) (.type "set") = pure false)
    (h2 : isSubtype (.type T) (.type "frozenset") = pure false) (h3 : (Value.type T == .type "dict") = false) : NoSet P w h0 v where
  set := fun A E Q s k q => by
    unfold Builtin.Frozenset.isAnySet
    refine wpAny_bind (wpAny_isInstance (ht s k) h1 ?_)
    first
      | exact wpAny_isInstance (ht s k) h2 q
      | (dsimp only; exact wpAny_isInstance (ht s k) h2 q)
      | (simp only [Bool.false_eq_true, ↓reduceIte]; exact wpAny_isInstance (ht s k) h2 q)
  dict := fun A E Q s k q => wpAny_typeOf (ht s k) (q _ h3)
theorem src_of {pins : List (Addr × Obj)} {σ : L2.St} {H : Hp} {s : Shared} {v : V} {u : Value} {ys : List Str} (I : Inv X pins σ H s) (r : RelV v u) (h : TxSrc X.K H v ys) : Src X.prog X.w s.heap u ys ∧ NoSet X.prog X.w s.heap u := by
  rcases h with ⟨x, rfl, rfl, _⟩ | ⟨a, rfl, h | h⟩
  · obtain ⟨t, rfl⟩ := r
    exact ⟨src_text, noSet_ty (T := "str") (fun s k => rfl) F.sub_str_set F.sub_str_frozenset (by decide)⟩
  · cases r
    obtain ⟨its, rv, hl, _⟩ := I.list h
    refine ⟨src_list hl.isList (vals_strs rv), noSet_ty (T := "list") (fun s k => ?_) F.sub_list_set F.sub_list_frozenset (by decide)⟩
    exact (hl.isList.at fun o e => k a o e).typeIs
  · cases r
    obtain ⟨its, rv, hl, _⟩ := I.tuple h
    refine ⟨src_tuple (show s.heap.IsTuple a its.toArray from hl) (vals_strs rv), noSet_ty (T := "tuple") (fun s k => ?_) F.sub_tuple_set F.sub_tuple_frozenset (by decide)⟩
    exact ((show Heap.IsTuple _ a its.toArray from hl).at fun o e => k a o e).typeIs
/-- set(v) -/
def rSetT (K : PySem.W.Frag) (w : World) : List V → Hp → VK → Prop := fun xs H Q => ∃ v ys, xs = [v] ∧ TxSrc K H v ys ∧ ys.length ≤ 4000 ∧ ∀ p L, H p = none → L.Nodup → (∀ k, k ∈ L ↔ k ∈ ys) → Q (.ref p) (upd H p (SetS w p L))
theorem cr_setT (hc : X.calm = true) : CallR X (.type "set") (rSetT X.K X.w) := by
  intro pins s σ H xs us Q I r h
  obtain ⟨v, ys, rfl, hs, hl, q⟩ := h
  cases r with
  | cons rv rn =>
    cases rn
    obtain ⟨h1, h2⟩ := src_of I rv hs
    refine call_set_src (I.ok.hd hc) h1 h2 (by show ys.length + 1 < 4096; omega) fun h' tk L k R mem => ?_
    have nd : L.Nodup := by
      obtain ⟨_, _, _, _, _, _, _, _, _, nd, _⟩ := R
      exact nd
    exact ⟨.ref _, upd H s.heap.objs.size (SetS X.w s.heap.objs.size L), I.laid (t' := tk) k (Nat.le_refl _) (setS_new R), rfl, q _ L (I.hok.fresh (Nat.le_refl _)) nd mem⟩
/-- what is collected from v: some arrangement of the texts ys -/
def Coll (P : Program) (w : World) (A : Around) (s : Shared) (v : Value) (ys : List Str) : Prop := ∀ (E : Value → Shared → Prop) (Q : List Value → Shared → Prop),
  (∀ s1 vs zs, (∀ b o, s.heap.get? b = some o → s1.heap.get? b = some o) → s1.gens = s.gens → s1.os = s.os → StrsAre vs zs → zs.Perm ys → Q vs s1) → wpAny (model P w) A (collect v) Q E s
section
variable {P : Program} {w : World} {A : Around} {E : Value → Shared → Prop} {s : Shared}
theorem coll_list {l : Addr} {vs : List Value} {ys : List Str} (hl : s.heap.IsList l vs.toArray) (hv : StrsAre vs ys) (hz : ys.length ≤ sizeLine) : Coll P w A s (.ref l) ys := by
  intro E Q hQ
  refine collect_list hl (hQ _ vs ys (fun b o e => ?_) rfl rfl hv (List.Perm.refl _)) (by rw [StrsAre.length hv]; exact hz)
  rw [Heap.get?_update_ne _ _ _ _ (Nat.ne_of_lt (Heap.lt_size e))]
  exact Heap.get?_push_of_some _ e
theorem coll_tuple {l : Addr} {vs : List Value} {ys : List Str} (hl : s.heap.IsTuple l vs.toArray) (hv : StrsAre vs ys) (hz : ys.length ≤ sizeLine) : Coll P w A s (.ref l) ys := by
  intro E Q hQ
  obtain ⟨o, ho, hc, n, hd⟩ := id hl
  have hsz : vs.length ≤ sizeLine := by rw [StrsAre.length hv]; exact hz
  unfold collect
  refine wpAny_bind (wpAny_runValue (codeAny_builtin F.entry_proto_collect ?_))
  rw [Around.under_plainId F.plain_proto_collect _]
  show wpAny _ A.in1 (newList [] >>= fun l1 => again (.builtin "list.__iadd__" ⟨[l1, .ref l], []⟩)) _ _ s
  refine wpAny_bind (wpAny_newList (wpAny_pure ⟨plainId_quiet F.plain_list_iadd _, codeAny_builtin F.entry_list_iadd ?_⟩))
  rw [Around.under_plainId F.plain_list_iadd _]
  show wpAny _ A.in1 (Builtin.List.listExtendWith (.ref s.heap.objs.size) (.ref l) (.ref s.heap.objs.size)) _ _ { s with heap := s.heap.push (seqObj "list" #[] 0) }
  unfold Builtin.List.listExtendWith
  have ho1 : (s.heap.push (seqObj "list" #[] 0)).get? l = some o := Heap.get?_push_of_some _ ho
  refine wpAny_bind (wpAny_typeOf (T := "tuple") ⟨o, ho1, hc⟩ ?_)
  rw [if_pos (by simp)]
  refine wpAny_bind (listItems_at ho1 hd ?_)
  refine wpAny_bind (listItems_at (xs := #[]) (n := 0) (Heap.get?_push_size _ rfl) rfl ?_)
  rw [if_neg (by simp)]
  refine wpAny_bind (listUpdate_at (xs := #[]) (n := 0) (Heap.get?_push_size _ rfl) rfl ?_ (Nat.zero_le _) (by
    show (#[] ++ vs.toArray).size ≤ sizeLine + 1
    rw [Array.size_append, List.size_toArray]
    show 0 + vs.length ≤ sizeLine + 1
    omega))
  refine wpAny_pure ?_
  show wpAny (model P w) A (load s.heap.objs.size >>= _) _ _ _
  refine wpAny_bind (wpAny_load (get?_update_seq (Heap.get?_push_size _ rfl) _) ?_)
  show wpAny _ _ (pure ((#[] : Array Value) ++ vs.toArray).toList) Q E _
  rw [show ((#[] : Array Value) ++ vs.toArray).toList = vs by simp]
  refine wpAny_pure (hQ _ vs ys (fun b o e => ?_) rfl rfl hv (List.Perm.refl _))
  rw [Heap.get?_update_ne _ _ _ _ (Nat.ne_of_lt (Heap.lt_size e))]
  exact Heap.get?_push_of_some _ e
theorem strs_items {x : Str} {acc : Array Value} (h : ItemsOf (SignAt x) acc x.cps.size) : StrsAre acc.toList (signsOf x) := by
  have key : ∀ (vs : List Value) (ys : List Str), vs.length = ys.length → (∀ i v, vs[i]? = some v → ∃ tk, v = Value.str (ys.getD i Str.empty) tk) → StrsAre vs ys := by
    intro vs
    induction vs with
    | nil =>
      intro ys hl _
      cases ys with
      | nil => exact .nil
      | cons y r => cases hl
    | cons v r ih =>
      intro ys hl hv
      cases ys with
      | nil => cases hl
      | cons y t =>
        obtain ⟨tk, e⟩ := hv 0 v rfl
        rw [e]
        exact .cons y tk (ih t (by simpa using hl) fun i u hu => by simpa using hv (i + 1) u (by simpa using hu))
  refine key _ _ (by rw [Array.length_toList, h.1]; simp [signsOf]) fun i v e => ?_
  obtain ⟨c, tk, hc, rfl⟩ := h.2 i v (by simpa using e)
  refine ⟨tk, ?_⟩
  have q : (signsOf x)[i]? = some ⟨#[c]⟩ := by
    unfold signsOf
    rw [List.getElem?_map, Array.getElem?_toList, hc]
    rfl
  rw [List.getD_eq_getElem?_getD, q]
  rfl
theorem coll_text {x : Str} {t : Tok} (hh : A.handled = none) (hz : x.length ≤ sizeLine) : Coll P w A s (.str x t) (signsOf x) := by
  intro E Q hQ
  refine wpAny_collect_str hh x t (fun s1 acc k g d o h => hQ s1 acc.toList (signsOf x) k g o (strs_items h) (List.Perm.refl _)) hz
theorem coll_set {a : Addr} {L : List Str} (hh : A.handled = none) (R : TxSet w s.heap a L) : Coll P w A s (.ref a) L := by
  intro E Q hQ
  obtain ⟨o, es, ep, t, ho, hex, hd, g, eL, nd, hb, hf, hr, hl⟩ := R
  have hb' : es.size < scanBound := by
    rw [← eL] at hb
    simpa using hb
  refine collect_set hh ⟨o, ho, hex.1, hd⟩ hf hb' hr hl fun s1 out k hz g1 o1 pm => hQ s1 out (out.map strOf) k g1 o1 (strsAre_map out fun v hv => ?_) ?_
  · obtain ⟨e, he, q⟩ := List.mem_map.mp (pm.mem_iff.mp hv)
    obtain ⟨x, tk, e2, _⟩ := g e he
    exact ⟨x, tk, by rw [← q]; exact e2⟩
  · have q := pm.map strOf
    rw [List.map_map] at q
    rw [← eL]
    refine q.trans (List.Perm.of_eq (List.map_congr_left fun e he => ?_))
    obtain ⟨x, tk, e2, _⟩ := g e he
    show strOf e.2 = nameT e
    unfold nameT
    rw [e2]
    rfl
/-- sorted(v) -/
theorem sorted_coll {v : Value} {ys : List Str} {Q : Value → Shared → Prop} (hC : Coll P w A.in1 s v ys) (hz : ys.length ≤ sizeLine)
    (hQ : ∀ s1 p (out : Array Value) (c : Nat), (∀ b o, s.heap.get? b = some o → s1.heap.get? b = some o) → s1.gens = s.gens → s1.os = s.os → s.heap.get? p = none → s1.heap.get? p = some (seqObj "list" out c) → StrsAre out.toList (srt ys) → Q (.ref p) s1) :
    wpAny (model P w) A (call (.builtin "sorted") [v]) Q E s := by
  refine Calls.call_function_entry kind_sorted plain_sorted entry_sorted (args_sorted1 _) ?_
  unfold Builtin.«sorted»
  refine wpAny_bind (m := checkCount "sorted" 1 1 _) (wpAny_pure ?_)
  refine wpAny_bind (hC _ _ fun s1 vs zs k1 g1 o1 hv pm => ?_)
  have hvl : vs.length ≤ sizeLine := by rw [StrsAre.length hv, pm.length_eq]; exact hz
  refine wpAny_bind (wpAny_newList ?_ hvl)
  have hoL : (s1.heap.push (seqObj "list" vs.toArray 0)).get? s1.heap.objs.size = some (seqObj "list" vs.toArray 0) := Heap.get?_push_size _ rfl
  refine wpAny_bind (wpAny_holding (wpAny_call_entry slot_list_sort ⟨_, hoL, rfl⟩ entry_list_sort (list_sort_treeKAny strKind_oneLt hoL hv.keysOf (fun v1 v2 rest e => keyKind_strs (by rw [← e]; exact hv)) hvl fun st hp hs => ⟨_, rfl, ?_⟩) (args_list_sort _)))
  obtain ⟨ss, a1, a2, a3⟩ := sorted_out_str hv hp hs
  obtain ⟨c, hc⟩ := sortedHeap_at (vs := vs) (out := (arrOf st).map (·.2)) hoL
  have free : s.heap.get? s1.heap.objs.size = none := by
    cases q : s.heap.get? s1.heap.objs.size with
    | none => rfl
    | some o => exact absurd (Heap.lt_size (k1 _ _ q)) (Nat.lt_irrefl _)
  have es : ss = srt ys := srt_one (a2.trans pm) (sortedS_pw a3)
  refine wpAny_pure ⟨_, rfl, hQ _ s1.heap.objs.size _ c (fun b u e => ?_) g1 o1 free hc (by rw [← es]; exact a1)⟩
  have q := k1 b u e
  have hlt := Heap.lt_size q
  show (sortedHeap (s1.heap.push (seqObj "list" vs.toArray 0)) s1.heap.objs.size vs _).get? b = some u
  rw [sortedHeap_old (Nat.ne_of_lt hlt) (by rw [size_push']; exact Nat.lt_succ_of_lt hlt)]
  exact Heap.get?_push_of_some _ q
end
theorem there_of {P : Program} {w : World} {H : Hp} {h : Heap} {a : Addr} {o : HO} (x : ObjOk P w H h a o) : ∃ ob, h.get? a = some ob := by
  cases o with
  | lst xs => obtain ⟨_, _, _, _, e⟩ := x; exact ⟨_, e⟩
  | tup xs => obtain ⟨_, _, _, _, e, _⟩ := x; exact ⟨_, e⟩
  | dK kvs => obtain ⟨_, _, _, _, _, _, _, e, _⟩ := x; exact ⟨_, e⟩
  | dT kvs => obtain ⟨_, _, _, _, _, _, _, e, _⟩ := x; exact ⟨_, e⟩
  | set S n => obtain ⟨_, _, _, _, e, _⟩ := x; exact ⟨_, e⟩
  | ins C dx fs => obtain ⟨_, _, _, e, _⟩ := x; exact ⟨_, e⟩
  | own y => exact x
  | xd fs => obtain ⟨_, ⟨_, _, _, e, _⟩, _⟩ := x; exact ⟨_, e⟩
  | rng lo hi => obtain ⟨_, _, _, e⟩ := x; exact ⟨_, e⟩
  | frz ob u => obtain ⟨e, _⟩ := x; exact ⟨_, e⟩
  | tbl ps => exact ⟨_, (show h.get? a = some _ from x)⟩
  | met f y => exact ⟨_, (show h.get? a = some _ from x)⟩
  | ext φ => exact x.2.1
theorem none_of {P : Program} {w : World} {H : Hp} {h : Heap} {a : Addr} (ok : HOk P w H h) (e : h.get? a = none) : H a = none := by
  cases q : H a with
  | none => rfl
  | some o =>
    obtain ⟨ob, e2⟩ := there_of (ok a o q)
    rw [e] at e2
    cases e2
/-- sorted(v) of texts -/
def rSortT (K : PySem.W.Frag) (w : World) : List V → Hp → VK → Prop := fun xs H Q => ∃ v ys, xs = [v] ∧ (TxSrc K H v ys ∨ ∃ a, v = .ref a ∧ H a = some (SetS w a ys)) ∧ ys.length ≤ sizeLine ∧
  ∀ p, H p = none → Q (.ref p) (upd H p (.lst ((srt ys).map V.str)))
theorem strs_vals {us : List Value} {ys : List Str} (h : StrsAre us ys) : Vals (ys.map V.str) us := vals_of_strs h
theorem cr_sortT (hc : X.calm = true) : CallR X (.builtin "sorted") (rSortT X.K X.w) := by
  intro pins s σ H xs us Q I r h
  obtain ⟨v, ys, rfl, hs, hz, q⟩ := h
  cases r with
  | cons rv rn =>
    cases rn
    rename_i u
    have hh : X.A.in1.handled = none := I.ok.hd hc
    have hC : Coll X.prog X.w X.A.in1 s u ys := by
      rcases hs with (⟨x, rfl, rfl, hx⟩ | ⟨a, rfl, h | h⟩) | ⟨a, rfl, h⟩
      · obtain ⟨t, rfl⟩ := rv
        exact coll_text hh hx
      · cases rv
        obtain ⟨its, rv, hl, _⟩ := I.list h
        exact coll_list hl.isList (vals_strs rv) hz
      · cases rv
        obtain ⟨its, rv, hl, _⟩ := I.tuple h
        exact coll_tuple (show s.heap.IsTuple a its.toArray from hl) (vals_strs rv) hz
      · cases rv
        exact coll_set hh (setS_get I h)
    refine sorted_coll hC hz fun s1 p out c k g o free ho hv => ?_
    have hn : H p = none := none_of I.hok free
    have hl : ((srt ys).map V.str).length ≤ sizeLine := by rw [List.length_map, srt_len]; exact hz
    have J : Inv X pins σ (upd H p (.lst ((srt ys).map V.str))) { s with heap := s1.heap, gens := s1.gens, drawn := s1.drawn, toks := s1.toks } :=
      I.call (ch := []) (Un.laidN k free hn) (I.hok.laidN k hn ⟨hl, out.toList, c, strs_vals hv, ho⟩) (by rw [g]; exact I.bare) (fun _ z => nomatch z)
    have e : s1 = { s with heap := s1.heap, gens := s1.gens, drawn := s1.drawn, toks := s1.toks } := by
      cases s1; cases s; cases o; rfl
    rw [e]
    exact ⟨.ref p, _, J, rfl, q p hn⟩
/-- len of a set of texts -/
def rLenSet (w : World) : List V → Hp → VK → Prop := fun xs H Q => ∃ a L, xs = [V.ref a] ∧ H a = some (SetS w a L) ∧ Q (.int (L.length : Nat)) H
theorem cr_lenSet : CallR X (.builtin "len") (rLenSet X.w) := by
  intro pins s σ H xs us Q I r h
  obtain ⟨a, L, rfl, ha, q⟩ := h
  rw [Vals.ref1 r]
  obtain ⟨o, es, ep, t, ho, hex, hd, g, eL, nd, hb, hf, hr, hl⟩ := setS_get I ha
  have e : L.length = es.size := by rw [← eL]; simp
  refine call_len_set ho hex hd hf ?_ ⟨.int _, H, I.tok _, ⟨_, rfl⟩, ?_⟩
  · rw [← e]
    have : L.length < 4096 := hb
    omega
  · rw [← e]; exact q
/-- list(text) -/
def rListT : List V → Hp → VK → Prop := fun xs H Q => ∃ x, xs = [V.str x] ∧ x.length ≤ sizeLine ∧ ∀ p, H p = none → Q (.ref p) (upd H p (.lst ((signsOf x).map V.str)))
theorem cr_listT (hc : X.calm = true) : CallR X (.type "list") rListT := by
  intro pins s σ H xs us Q I r h
  obtain ⟨x, rfl, hx, q⟩ := h
  cases r with
  | cons rv rn =>
    cases rn
    obtain ⟨t, rfl⟩ := rv
    refine call_list_str (I.ok.hd hc) x t (hn := hx) fun h' tk acc c k ho hi => ?_
    have hl : ((signsOf x).map V.str).length ≤ sizeLine := by
      rw [List.length_map]
      show (x.cps.toList.map _).length ≤ sizeLine
      rw [List.length_map, Array.length_toList]
      exact hx
    exact ⟨.ref _, upd H s.heap.objs.size (.lst ((signsOf x).map V.str)), I.laid (t' := tk) k (Nat.le_refl _) ⟨hl, acc.toList, c, strs_vals (strs_items hi), ho⟩, rfl, q _ (I.hok.fresh (Nat.le_refl _))⟩
end
end Fw

set_option maxRecDepth 100000
set_option maxHeartbeats 2000000
namespace Fw
open PySem PySem.Spec PyProof.Rows L2
/-- the def that the module's name x stands for keeps the promise sp -/
def Dfn (P : Program) (w : World) (K : PySem.W.Frag) (mg : Str → Option Value) (base : Heap) (CX : CXT) (x : Str) (ps : List Str) (k : Nat) (sp : Sp) : Prop :=
  ∃ f fd, FnOk P w K mg base CX k f fd ps sp ∧ mg x = some (.ref f) ∧ PySem.W.keepIn K (.ref f) = true ∧ Binds K fd ps []
section
variable {X : Cx} {x : Str} {ps : List Str} {k : Nat} {sp : Sp} {e : Expr} {es : List Expr} {t : TA} {p pos : Pos}
end
/-- a constant of the module -/
theorem pe_gs {X : Cx} {x z : Str} {t : Tok} {pos : Pos} (hm : X.mg x = some (.str z t)) (hg : Gl X x := by rfl) (hdb : (x == ("__debug__" : Str)) = false := by decide) : PE X (.Name x pos) (tC (.str z)) := pe_glob hg hm ⟨t, rfl⟩ hdb
section
variable {X : Cx} (K : PySem.W.Frag) (w : World)
theorem eqD (hu : X.A.units + 64 < cLine) (h : X.K = K := by rfl) : OpR X (compareOp .Eq) (rEqD K) := h ▸ op_eqD hu
def rLenC (K : PySem.W.Frag) : List V → Hp → VK → Prop := fun xs H Q => ∃ x n, xs = [x] ∧ LenV K x H n ∧ Q (.int n) H
def rListOf (K : PySem.W.Frag) : List V → Hp → VK → Prop := fun xs H Q => ∃ p ys, xs = [.ref p] ∧ (SqL K H p ys ∨ SqT K H p ys) ∧ ∀ l, H l = none → Q (.ref l) (upd H l (.lst ys))
theorem listOf (h : X.K = K := by rfl) : CallR X (.type "list") (rListOf K) := h ▸ call_list_of
def rJoin (K : PySem.W.Frag) : V → List V → Hp → VK → Prop := fun x xs H Q => ∃ a p, ∃ ys : List Str, x = .str a ∧ xs = [.ref p] ∧ (SqL K H p (ys.map V.str) ∨ SqT K H p (ys.map V.str)) ∧
  (ys.map (·.length)).sum + ys.length * a.length ≤ 16777216 ∧ Q (.str (Txt.join a ys)) H
theorem pe_bm' {T : String} {name : Str} {id : String} {r : V → List V → Hp → VK → Prop} {o e : Expr} {es : List Expr} {to : TE} {t : TA} {apos cpos : Pos} (pa : PlainAttrs T) (slot : Slot T name id) (hty : typeOf (.builtin id) = pure (.type "method_descriptor")) (hm : MtR X id r) (ho : PE X o to) (ha : PA X (e :: es) t) (h : X.K = K := by rfl)
    (hbase : attributeBase o name X.env (eval o X.env) = eval o X.env := by rfl)
    (hfew : ((backTo cpos (starEach (e :: es) X.env)).all (fun x => !x.1) && (backToKw cpos (keywordEach [] X.env)).all (fun x => x.1.isSome)
      && decide ((e :: es).length + ([] : List Keyword).length + (if ([] : List Keyword).isEmpty then 0 else 1) < 30)) = true := by rfl)
    (hline : (apos.endLine == cpos.line) = true := by rfl) (hs : starEach (e :: es) X.env = (false, eval e X.env) :: starEach es X.env := by rfl) (hplain : (backTo cpos (starEach es X.env)).any (·.1) = false := by rfl) :
    PE X (.Call (.Attribute o name apos) (e :: es) [] cpos) (tBM K T r to t) := h ▸ pe_bm pa slot hty hm ho ha hbase hfew hline hs hplain
end
def timesS (x : Str) (n : Nat) : Str := ⟨(List.replicate n x.cps.toList).flatten.toArray⟩
theorem foldl_cat (x : Array Nat) : ∀ (n : Nat) (acc : Array Nat), ((List.replicate n x).foldl (· ++ ·) acc).toList = acc.toList ++ (List.replicate n x.toList).flatten
  | 0, acc => by simp
  | n + 1, acc => by
    rw [List.replicate_succ, List.foldl_cons, foldl_cat x n]
    simp [List.replicate_succ]
theorem mul_times (x : Str) (k : Int) (hk : 0 ≤ k) : Txt.mul x k = timesS x k.toNat := by
  unfold Txt.mul
  apply str_ext
  by_cases h1 : k < 1
  · have e : k = 0 := by omega
    subst e
    rw [if_pos h1]
    simp [timesS, Str.empty]
  · rw [if_neg h1]
    by_cases h2 : (k == 1 || x.length == 0) = true
    · rw [if_pos h2]
      rcases Bool.or_eq_true_iff.mp h2 with h | h
      · have e : k = 1 := by simpa using h
        subst e
        simp [timesS]
      · have e : x.cps = #[] := by
          have q : x.length = 0 := by simpa using h
          simpa [Str.length] using q
        simp [timesS, e]
    · rw [if_neg h2]
      show ((List.replicate k.toNat x.cps).foldl (· ++ ·) #[]).toList = _
      rw [foldl_cat]
      simp [timesS]
theorem op_mul_str {X : Cx} : OpR X (binaryOp .Mult) (fun x y H Q => ∃ z k, x = .str z ∧ y = .int k ∧ 0 ≤ k ∧ k ≤ 100000 ∧ z.length ≤ 100 ∧ Q (.str (timesS z k.toNat)) H) := by
  intro pins s σ H x y v u Q I rx ry h
  obtain ⟨z, k, rfl, rfl, h0, h1, h2, q⟩ := h
  obtain ⟨t, rfl⟩ := rx
  obtain ⟨t2, rfl⟩ := ry
  refine SB.mul ⟨?_, ?_, ?_⟩ fun t' tk => ⟨.str _, H, I.tok _, ⟨_, rfl⟩, ?_⟩
  · have a : ¬ k < -(2 ^ 63 : Int) := by omega
    have b : ¬ k ≥ 2 ^ 63 := by omega
    rw [decide_eq_false a, decide_eq_false b]
    rfl
  · intro a b
    have hk : 1 ≤ k := by omega
    have : (z.length : Int) ≤ 100 := by omega
    have h3 : 100 ≤ (2 ^ 63 - 1) / k := by
      refine (Int.le_ediv_iff_mul_le (by omega)).mpr ?_
      omega
    omega
  · intro a b
    have : z.length * k.toNat ≤ 100 * 100000 := Nat.mul_le_mul h2 (by omega)
    have e := sizeLine_eq
    unfold Builtin.Str.tooLong
    simp
    omega
  · rw [mul_times z k h0]; exact q

theorem Kb.same {b : Addr} {H H1 : Hp} (x : Same H H1) : Kb b H H1 := fun a o _ h => x a o h
/-- an object that is new since H may be written -/
theorem _root_.L2.Same.mut {H H1 : Hp} {p : Addr} {o : HO} (x : Same H H1) (h : H p = none) : Same H (L2.upd H1 p o) := fun b u e => by
  rw [upd_ne (ne_of_none e h)]
  exact x b u e
theorem Kb.push {b : Addr} {H H1 : Hp} {p : Addr} {o : HO} (x : Kb b H H1) (h : H1 p = none) : Kb b H (L2.upd H1 p o) := fun a u n e => by
  have e1 := x a u n e
  rw [upd_ne (ne_of_none e1 h)]
  exact e1
theorem _root_.L2.Same.push {H H1 : Hp} {p : Addr} {o : HO} (x : Same H H1) (h : H1 p = none) : Same H (L2.upd H1 p o) := fun a u e => by
  have e1 := x a u e
  rw [upd_ne (ne_of_none e1 h)]
  exact e1
open SX in
theorem signs_S (l : List Nat) : signsOf (S l) = l.map fun c => S [c] := by
  unfold signsOf
  simp
open SX in
theorem sum_one (l : List Nat) : ((l.map fun c => S [c]).map (·.length)).sum = l.length := by
  induction l with
  | nil => rfl
  | cons a r ih =>
    rw [List.map_cons, List.map_cons, List.sum_cons, ih]
    show 1 + r.length = r.length + 1
    omega
open SX
def strsV (xs : List (List Nat)) : List V := xs.map fun x => V.str (S x)
def datS (xs : List (List Nat)) : PyData := .list (xs.map fun x => .str (S x))
/-- plain signs -/
def Pl (x : List Nat) : Prop := ∀ c ∈ x, c < 128
theorem eqv_strs : ∀ xs ys : List (List Nat), PyData.eqvAll (xs.map fun x => .str (S x)) (ys.map fun x => .str (S x)) = decide (xs = ys)
  | [], [] => rfl
  | [], _ :: _ => rfl
  | _ :: _, [] => rfl
  | x :: xs, y :: ys => by
    show ((S x == S y) && PyData.eqvAll (xs.map fun x => .str (S x)) (ys.map fun x => .str (S x))) = _
    rw [eqv_strs xs ys, S_beq_eq]
    by_cases a : x = y
    · by_cases b : xs = ys
      · simp [a, b]
      · simp [a, b]
    · simp [a]
theorem eqv_datS (xs ys : List (List Nat)) : PyData.eqv (datS xs) (datS ys) = decide (xs = ys) := by
  show PyData.eqv (.list (xs.map fun x => .str (S x))) (.list (ys.map fun x => .str (S x))) = _
  rw [PyData.eqv]
  exact eqv_strs xs ys
theorem _root_.L2.Same.kb {b : Addr} {H H' : Hp} (x : Same H H') : Kb b H H' := fun a o _ h => x a o h
theorem ne_self (xs : List (List Nat)) : V.bl (!PyData.eqv (datS xs) (datS xs)) = V.bl false := by rw [eqv_datS, decide_eq_true rfl]; rfl
end Fw

set_option maxRecDepth 100000
set_option maxHeartbeats 2000000
namespace Fw
open PySem PySem.Spec PyProof.Rows L2
/-- the signs of x, each in a new pair -/
def IteS (x : Str) : It :=
  ⟨fun i _ => i < x.cps.size, fun i H v H' => ∃ T c, v = .ref T ∧ H T = none ∧ x.cps[i]? = some c ∧ H' = upd H T (.tup [.int (i : Nat), .str ⟨#[c]⟩]), fun i _ => x.cps.size ≤ i⟩
theorem turn_enumS {P : Program} {w : World} {K : PySem.W.Frag} {elts : List Expr} {kk : Nat} {tpos : Pos} (x : Str) (t : Tok) (e it : Addr) (ty : String) (hty : ty = "str_ascii_iterator" ∨ ty = "str_iterator") :
    Turn P w K (.Tuple elts kk tpos) (IteS x) [e, it] e (fun i h => i ≤ x.cps.size ∧ (∃ old, IsEnum h e it ((i : Nat) : Int) old) ∧ h.IsStrIter it ty x t i ∧ e ≠ it) where
  mem := by simp
  obj := fun i h st b hb => by
    obtain ⟨_, ⟨old, he⟩, ⟨o, ho, hc, hd⟩, _⟩ := st
    have e' : b = e ∨ b = it := by simpa using hb
    rcases e' with z | z
    · rw [z]; exact ⟨_, he, fun v q => nomatch q⟩
    · rw [z]; exact ⟨o, ho, fun v q => by rw [hd] at q; cases q⟩
  keep := fun i h h' st k => let ⟨hl, ⟨old, he⟩, ⟨o, ho, r⟩, hne⟩ := st; ⟨hl, ⟨old, k e (by simp) _ he⟩, ⟨o, k it (by simp) o ho, r⟩, hne⟩
  item := by
    intro X hP hw hK hc i pins s σ H E I hf st hg
    subst hP hw hK
    obtain ⟨hl, ⟨old, he⟩, hit, hne⟩ := st
    have hel : e < s.heap.objs.size := Heap.lt_size he
    have hil : it < s.heap.objs.size := by obtain ⟨_, q, _⟩ := hit; exact Heap.lt_size q
    have D : Draws X.prog X.w X.A.in1 it [it] x.cps.size (fun i v => ∃ c u, x.cps[i]? = some c ∧ v = .str ⟨#[c]⟩ u) (fun i h => h.IsStrIter it ty x t i) := by
      rcases hty with z | z
      · rw [z]; exact Draws.strAscii (A := X.A.in1) (I.ok.hd hc) it x t
      · rw [z]; exact Draws.strWide (A := X.A.in1) (I.ok.hd hc) it x t
    refine wpAny_pyNext_enum_itemD D he hit hg hne (by simpa using hne) fun v h' tk hv ho hit' hT hsz hk => ?_
    obtain ⟨c, u, hcx, rfl⟩ := hv
    refine ⟨_, rfl, wpAny_letOwnedTupleGo_enum (s := { s with heap := h', toks := tk + 1 }) ho fun h'' he' sb => ?_⟩
    have hT2 : h''.get? s.heap.objs.size = some { cls := .type "tuple", data := .seq #[.int i tk, .str ⟨#[c]⟩ u] } := (sb.2 _ (Nat.ne_of_gt hel)).trans hT
    have new : ObjOk X.prog X.w (upd H s.heap.objs.size (.tup [.int (i : Nat), .str ⟨#[c]⟩])) h'' s.heap.objs.size (.tup [.int (i : Nat), .str ⟨#[c]⟩]) :=
      ⟨by show 2 ≤ sizeLine; decide, [.int i tk, .str ⟨#[c]⟩ u], .cons ⟨_, rfl⟩ (.cons ⟨u, rfl⟩ .nil), ⟨_, hT2, rfl, _, rfl⟩⟩
    have I1 : Inv X pins σ (upd H s.heap.objs.size (.tup [.int (i : Nat), .str ⟨#[c]⟩])) { s with heap := h'', toks := tk + 1 } :=
      I.turnedNew (ch := [e, it]) (fun b ob hb q => (sb.2 b (fun z => hb (by simp [z]))).trans (hk b ob (fun z => hb (by simp [z])) (fun z => hb (by simp [z])) q)) hf (Nat.le_refl _) new
    refine ⟨.ref s.heap.objs.size, _, I1, rfl, ⟨_, c, rfl, I.hok.fresh (Nat.le_refl _), hcx, rfl⟩, ⟨hg, ⟨.str ⟨#[c]⟩ u, ?_⟩, ?_, hne⟩, fun b hb => ?_⟩
    · have e1 : ((i + 1 : Nat) : Int) = (i : Int) + 1 := by omega
      rw [e1]; exact he'
    · obtain ⟨o, q, r⟩ := hit'
      exact ⟨o, (sb.2 it (Ne.symm hne)).trans q, r⟩
    · have hb' : b < s.heap.objs.size := by
        have e' : b = e ∨ b = it := by simpa using hb
        rcases e' with z | z
        · rw [z]; exact hel
        · rw [z]; exact hil
      rw [upd_ne (Nat.ne_of_lt hb')]
      exact (hf b hb).1
  done := by
    intro X hP hw hK hc i pins s σ H E I hf st hg
    subst hP hw hK
    obtain ⟨hl, ⟨old, he⟩, hit, hne⟩ := st
    have D : Draws X.prog X.w X.A.in1 it [it] x.cps.size (fun i v => ∃ c u, x.cps[i]? = some c ∧ v = .str ⟨#[c]⟩ u) (fun i h => h.IsStrIter it ty x t i) := by
      rcases hty with z | z
      · rw [z]; exact Draws.strAscii (A := X.A.in1) (I.ok.hd hc) it x t
      · rw [z]; exact Draws.strWide (A := X.A.in1) (I.ok.hd hc) it x t
    obtain ⟨f0, f1, f2, f3, f4, f5⟩ := hf it (by simp)
    have ei : i = x.cps.size := Nat.le_antisymm hl hg
    rw [ei] at hit
    exact wpAny_pyNext_enum_endD D he hit fun h' eb => ⟨rfl, I.turned (t' := s.toks) (fun b o hb q => eb b o hb q) f0 f1 f3 f4 f5⟩
  self := fun A i s Q E st h => let ⟨_, ⟨_, he⟩, _⟩ := st; wpAny_pyIter_enum he h
def iEnumS (ta : TA) : TI := fun σ H R => ta σ H fun vs H1 => ∃ x, vs = [.str x] ∧ R (IteS x) H1
theorem enumS {X : Cx} {e : Expr} {ta : TA} {p pos tpos : Pos} {elts : List Expr} {kk : Nat} (hm : X.mg "enumerate" = none) (ha : PA X [e] ta) (hg : Gl X "enumerate" := by rfl) (hs : starEach [e] X.env = [(false, eval e X.env)] := by rfl) :
    PI X (.Tuple elts kk tpos) (.Call (.Name "enumerate" p) [e] [] pos) (iEnumS ta) := by
  refine ⟨fun pins s σ H R I h => ?_⟩
  refine Call_ (ld_blt I hg hm boot_enumerate (PyProof.Rows.callWith_type1 (thn (ha.run pos pins s σ H _ I h) fun us s1 ⟨vs, H1, I1, r1, q1⟩ => ?_) hs rfl))
  obtain ⟨x, ex, q⟩ := q1
  subst ex
  cases r1 with
  | cons r rr =>
    cases rr
    obtain ⟨t, rfl⟩ := r
    refine call_enumerate_str fun h' he hit hsz hk => wpAny_pyIter_enum he ?_
    have I2 : Inv X pins σ H1 { s1 with heap := h' } := I1.kept (t' := s1.toks) hk
    have hty : strIterType x = "str_ascii_iterator" ∨ strIterType x = "str_iterator" := by
      unfold strIterType
      split
      · exact .inl rfl
      · exact .inr rfl
    refine ⟨s1.heap.objs.size + 1, [s1.heap.objs.size + 1, s1.heap.objs.size], _, _, H1, rfl, I2, turn_enumS x t (s1.heap.objs.size + 1) s1.heap.objs.size _ hty, ⟨Nat.zero_le _, ⟨.none, he⟩, hit, Nat.succ_ne_self _⟩, fun b hb => ?_, q⟩
    have e' : b = s1.heap.objs.size + 1 ∨ b = s1.heap.objs.size := by simpa using hb
    have hle : s1.heap.objs.size ≤ b := by
      rcases e' with z | z
      · rw [z]; exact Nat.le_add_right _ _
      · rw [z]; exact Nat.le_refl _
    exact I1.fpOk hle (I1.hok.fresh hle)
theorem walk_enumS {z : Str} : Walk (IteS z) z.cps.size (fun _ => True) (fun i H v H' => ∃ T c, v = .ref T ∧ H T = none ∧ z.cps[i]? = some c ∧ H' = upd H T (.tup [.int (i : Nat), .str ⟨#[c]⟩])) :=
  ⟨fun _ _ hi _ => hi, fun _ _ => Nat.le_refl _, fun _ _ _ _ _ _ y => y⟩
end Fw

set_option maxRecDepth 100000
set_option maxHeartbeats 2000000
namespace Fw
open PySem PySem.Spec PyProof.Rows L2
/-- x.m, x the module's name of a class, m a def of it, keeps the promise sp -/
def Cfn (P : Program) (w : World) (K : PySem.W.Frag) (mg : Str → Option Value) (base : Heap) (CX : CXT) (x m : Str) (ps : List Str) (k : Nat) (sp : Sp) : Prop :=
  ∃ C g fd mc, mg x = some (.ref C) ∧ ClX.CRead K C mc ∧ PySem.W.findCls K (.ref C) mc m = some (.val (.ref g)) ∧ PySem.W.keepIn K (.ref g) = true ∧ FnOk P w K mg base CX k g fd ps sp ∧ Binds K fd ps []
section
variable {X : Cx} {CX : CXT} {x m : Str} {ps : List Str} {k : Nat} {sp : Sp} {E : XK} {e : Expr} {es : List Expr} {t : TA} {p apos pos : Pos} {pl : Sem Bool}
end
section
variable {X : Cx} {CX : CXT} {x m : Str} {ps : List Str} {k : Nat} {sp : Sp} {E : XK} {e : Expr} {es : List Expr} {t : TA} {p apos pos : Pos} {pl : Sem Bool}
end
/-- the class at C under the module's name x: its __init__ keeps the promise sp -/
def Mkd (P : Program) (w : World) (K : PySem.W.Frag) (mg : Str → Option Value) (base : Heap) (CX : CXT) (x : Str) (C : Addr) (ps : List Str) (k : Nat) (sp : Sp) : Prop :=
  ∃ f fd, mg x = some (.ref C) ∧ Mk K C f ∧ FnOk P w K mg base CX k f fd ps sp ∧ Binds K fd ps []
/-- .. called with keywords alone -/
def MkK (P : Program) (w : World) (K : PySem.W.Frag) (mg : Str → Option Value) (base : Heap) (CX : CXT) (x : Str) (C : Addr) (ps : List Str) (k n : Nat) (ks : List Str) (gV : List V → List V → List V) (sp : Sp) : Prop :=
  ∃ f fd g, mg x = some (.ref C) ∧ Mk K C f ∧ FnOk P w K mg base CX k f fd ps sp ∧ KBn K fd ps n ks g gV
/-- .. the last parameters from their defaults -/
def MkdD (P : Program) (w : World) (K : PySem.W.Frag) (mg : Str → Option Value) (base : Heap) (CX : CXT) (x : Str) (C : Addr) (ps : List Str) (k : Nat) (dvs : List V) (sp : Sp) : Prop :=
  ∃ f fd ds, mg x = some (.ref C) ∧ Mk K C f ∧ FnOk P w K mg base CX k f fd ps sp ∧ Binds K fd ps ds ∧ Vals dvs ds
/-- .. by a promise of positional values alone -/
def MkR (P : Program) (w : World) (K : PySem.W.Frag) (mg : Str → Option Value) (base : Heap) (CX : CXT) (x : Str) (C : Addr) (k : Nat) (sp : Sp) : Prop :=
  ∃ f, mg x = some (.ref C) ∧ Mk K C f ∧ FnR P w K mg base CX k f sp
/-- instances of the class at C, called -/
def Cal (P : Program) (w : World) (K : PySem.W.Frag) (mg : Str → Option Value) (base : Heap) (CX : CXT) (C : Addr) (ps : List Str) (k : Nat) (sp : Sp) : Prop :=
  ∃ g fd, StX.CallO K C g ∧ FnOk P w K mg base CX k g fd ps sp ∧ Binds K fd ps []
/-- f(e, ..), f gives an instance of the class at C -/
def tCalO (C : Addr) (sp : Sp) (E : XK) (tf : TE) (t : TA) : TE := fun σ H Q => tf σ H fun y H1 => ∃ a, y = V.ref a ∧ t σ H1 fun vs H2 => (∃ dx fs, H2 a = some (.ins C dx fs)) ∧ sp (V.ref a :: (vs ++ [])) H2 Q E
section
variable {X : Cx} {CX : CXT} {x : Str} {C : Addr} {ps ks : List Str} {k n : Nat} {sp : Sp} {E : XK} {e fe : Expr} {es : List Expr} {tf : TE} {t tk : TA} {p pos : Pos} {kws : List Keyword} {gV : List V → List V → List V}
end
section
variable {X : Cx} (K : PySem.W.Frag)
end
open SX in
theorem S_app (a b : List Nat) : S a ++ S b = S (a ++ b) := by
  apply str_ext
  show (a.toArray ++ b.toArray).toList = a ++ b
  simp
open SX in
theorem joinL_flat : ∀ xs : List (List Nat), TL.joinL [] xs = xs.flatten
  | [] => rfl
  | [x] => by
    show x = _
    simp
  | x :: y :: r => by
    show x ++ ([] ++ TL.joinL [] (y :: r)) = _
    rw [joinL_flat (y :: r)]
    simp
open SX in
def tRevS (te : TE) : TE := fun σ H Q => te σ H fun x H1 => ∃ z : Str, x = .str z ∧ z.length ≤ sizeLine ∧ Q (.str ⟨z.cps.toList.reverse.toArray⟩) H1
section
open He
def creadB (x : Str) (K : PySem.W.Frag) : Bool := PySem.W.readsIn K (ga K x) (.type "type")
def cfnB (x m : Str) (K : PySem.W.Frag) : Bool := match PySem.W.findCls K (.ref (ga K x)) (.type "type") m with
  | some (.val (.ref g)) => decide (g = ma K (ga K x) m)
  | _ => false
def calloB (x : Str) (K : PySem.W.Frag) : Bool := eqO (PySem.W.findIn K (.ref (ga K x)) "__call__") (some (some (.ref (ma K (ga K x) "__call__")))) && (PySem.W.isFn K (.ref (ma K (ga K x) "__call__")) && PySem.W.fnIn K (ma K (ga K x) "__call__"))
/-- a class constant read off the class: an int -/
def cintB (x f : Str) (i : Int) (K : PySem.W.Frag) : Bool := match PySem.W.findCls K (.ref (ga K x)) (.type "type") f with
  | some (.val (.int j _)) => decide (j = i)
  | _ => false
def asX (g : Addr → Option Obj) (n : Nat) : List Addr := asD g n ++ [cStatics, sysModules]
def obsXG (n : Nat) (ex : Ex) (fa : List Fa) (fn : List DefD) (g : Addr → Option Obj) : AlD := obsX ex fa fn (frG g (asX g n))
def hookX (n : Nat) (ex : Ex) (fa : List Fa) (fn : List DefD) : PySem.W.Hook where
  α := AlD
  obs := fun s => obsXG n ex fa fn s.heap.get?
  val := fun _ => valD fn
  says := fun _ h => ∃ K : PySem.W.Frag, K.In h ∧ SaysX ex fa fn K
  of := fun _ _ e => ⟨_, frG_in, e⟩
  keeps := fun _ _ _ ⟨K, hK, c⟩ k => ⟨K, PySem.W.Frag.In.keeps hK k, c⟩
section
variable {ex : Ex} {fa : List Fa} {fn : List DefD} {K : PySem.W.Frag}
end
end
end Fw

set_option maxRecDepth 100000
set_option maxHeartbeats 2000000
namespace Vs
open PySem PySem.Spec PyProof.Rows L2 Fw SX

theorem tabs_put {T : List (Addr × Str)} {G H : Hp} {p : Addr} {o : HO} (t : Tabs2 T G H) (h : ∀ o, H p = some o → Pln o) : Tabs2 T G (upd H p o) := t.kept fun a ps e => by
  rw [upd_ne (fun z => by rw [z] at e; exact (h _ e).nt ps rfl)]
  exact e
section
variable {g : Gm} {G H G1 H1 G2 H2 : Hp} {σ σ1 σ2 : L2.St} {e e1 e2 : Ve}
/-- a thing is laid: into H alone, or into both -/
theorem Bs.lay (b : Bs G H) {p : Addr} {o : HO} (h : H p = none) : Bs G (upd H p o) := ⟨b.pl, fun a u e => by
  have n : a ≠ p := fun z => by rw [z, b.hn h] at e; cases e
  rw [upd_ne n]
  exact b.sub a u e⟩
theorem Bs.lay2 (b : Bs G H) {p : Addr} {o : HO} (h : H p = none) (hf : ∀ ob u, o ≠ .frz ob u) : Bs (upd G p o) (upd H p o) := by
  refine ⟨fun a ob u e => ?_, fun a u e => ?_⟩
  · by_cases z : a = p
    · rw [z, upd_same] at e; exact hf ob u (Option.some.inj e)
    · rw [upd_ne z] at e; exact b.pl a ob u e
  · by_cases z : a = p
    · subst z; rw [upd_same] at e ⊢; exact .inl e
    · rw [upd_ne z] at e ⊢; exact b.sub a u e
/-- what G has not is written -/
theorem Bs.put (b : Bs G H) {p : Addr} {o : HO} (h : G p = none) : Bs G (upd H p o) := ⟨b.pl, fun a u e => by
  rw [upd_ne (ne_of_none e h)]
  exact b.sub a u e⟩
theorem Grow.lay (b : Bs G H) {p : Addr} {o : HO} (h : H p = none) : Grow G H G (upd H p o) := ⟨b.lay h, Le.refl G, fun a u e => by rw [upd_ne (ne_of_none e h)]; exact e, fun _ h _ => h⟩
theorem Grow.lay2 (b : Bs G H) {p : Addr} {o : HO} (h : H p = none) (hf : ∀ ob u, o ≠ .frz ob u) : Grow G H (upd G p o) (upd H p o) :=
  ⟨b.lay2 h hf, Le.upd (b.hn h), fun a u e => by rw [upd_ne (ne_of_none e h)]; exact e, fun a h1 h2 => by rw [upd_ne (fun z => h2 (by rw [z]; exact h))]; exact h1⟩
theorem SlOk.grow (w : Grow G H G1 H1) {s : Option Sl} {o : Option (Option V)} (h : SlOk g G H s o) : SlOk g G1 H1 s o := by
  match s, h with
  | some (.sh d), ⟨v, e, r⟩ => exact ⟨v, e, r.mono w.le⟩
  | some (.bf d), ⟨v, e, r⟩ => exact ⟨v, e, r.mono w.le⟩
  | some (.ow d), ⟨p, e, n, r⟩ =>
    obtain ⟨o, ho, _⟩ := r.there
    exact ⟨p, e, w.new p n (by rw [ho]; exact fun z => nomatch z), r.mono w.le (by rw [w.keep _ _ ho, ho])⟩
  | some (.bo d), ⟨p, e, n, r⟩ =>
    obtain ⟨o, ho, _⟩ := r.there
    exact ⟨p, e, w.new p n (by rw [ho]; exact fun z => nomatch z), r.mono w.le (by rw [w.keep _ _ ho, ho])⟩
  | some (.lo d), ⟨p, e, n, r⟩ =>
    obtain ⟨ob, u, ho, _⟩ := r.there
    exact ⟨p, e, w.new p n (by rw [ho]; exact fun z => nomatch z), r.mono w.le (by rw [w.keep _ _ ho, ho])⟩
  | some .un, _ => trivial
  | none, _ => trivial
theorem SR.grow (s : SR g G H σ e) (w : Grow G H G1 H1) : SR g G1 H1 σ e := ⟨w.bs, (s.tabs.mono w.le fun a ps e n => w.new a n (by rw [e]; simp)).kept fun a ps e => w.keep a _ e, (s.scr.mono w.le).keep fun _ _ h => w.keep _ _ h, s.len, fun i => (s.slot i).grow w, s.inj⟩
theorem Grow.tr (w : Grow G H G1 H1) (s : SR g G H σ e) : Tr g σ G H e G1 H1 e := ⟨s.grow w, w.le, fun a o h _ _ => w.keep a o h, w.dom, fun a h1 h2 _ => w.new a h1 h2, VeLe.refl e⟩
end

theorem sl_un {s s' : Sl} (h : SlLe s s') (n : s ≠ .un) : s' ≠ .un := by
  cases s with
  | un => exact absurd rfl n
  | sh d => cases h; exact n
  | bf d => cases h; exact n
  | lo d => cases h; exact n
  | ow d =>
    obtain ⟨d', rfl | rfl⟩ := h
    · exact fun z => nomatch z
    · exact fun z => nomatch z
  | bo d =>
    obtain ⟨d', rfl | rfl⟩ := h
    · exact fun z => nomatch z
    · exact fun z => nomatch z
theorem RvOk.tr {g : Gm} {G H G1 H1 H0 : Hp} {σ : L2.St} {e e1 : Ve} (t : Tr g σ G H e G1 H1 e1) : ∀ {r : Rv} {v : V}, RvOk g G H σ e H0 r v → RvOk g G1 H1 σ e1 H0 r v
  | .val d, _, h => Rep.mono t.le h
  | .slot i, _, ⟨h, s, hs, n⟩ => by
    obtain ⟨s', h', l⟩ := t.ve.at_ i s hs
    exact ⟨h, s', h', sl_un l n⟩
  | .fresh d, _, ⟨p, ev, n, o, h0, nr⟩ => by
    obtain ⟨ob, ho, pl, _⟩ := o.there
    exact ⟨p, ev, t.new p n (by rw [ho]; exact fun z => nomatch z) nr, o.mono t.le (by rw [t.keep _ _ ho nr pl.nt, ho]), h0, fun i r => nr i (t.ve.rt r)⟩
section
variable {g : Gm} {W : WX} {σ : L2.St} {G H : Hp} {e : Ve} {α β : Type}
end

def TV (g : Gm) (W : WX) (F : M Rv) : TE := fun σ H Q => ∃ G e, SR g G H σ e ∧ Pst g W σ G H e (fun r G' H' e' => ∀ v, RvOk g G' H' σ e' H r v → Q v H') (F e)
def TVT (g : Gm) (W : WX) (F : M Bool) : TT := fun σ H Q => ∃ G e, SR g G H σ e ∧ Pst g W σ G H e (fun b G' H' e' => Q b H') (F e)
def TVA (g : Gm) (W : WX) (F : M (List Rv)) : TA := fun σ H Q => ∃ G e, SR g G H σ e ∧ Pst g W σ G H e (fun rs G' H' e' => ∀ vs, RvsOk g G' H' σ e' H rs vs → Q vs H') (F e)
def PstS (g : Gm) (W : WX) (D : Ends) (σ : L2.St) (G H : Hp) (e : Ve) : Res Ctl → Prop
  | .ok .nx e' => ∀ σ' G' H', St g G H σ e G' H' σ' e' → D.nx σ' H'
  | .ok (.rt r) e' => ∀ v σ' G' H', St g G H σ e G' H' σ' e' → RvOk g G' H' σ' e' H r v → D.rt v H'
  | .ok .bk e' => ∀ σ' G' H', St g G H σ e G' H' σ' e' → D.bk σ' H'
  | .ok .ct e' => ∀ σ' G' H', St g G H σ e G' H' σ' e' → D.ct σ' H'
  | .er x e' => ∀ cls d σ' G' H', St g G H σ e G' H' σ' e' → XOk g G' x cls d → W cls d σ' H'
  | .no => False
def TVS (g : Gm) (W : WX) (F : M Ctl) : TS := fun D σ H => ∃ G e, SR g G H σ e ∧ PstS g W D σ G H e (F e)
end Vs

set_option maxRecDepth 100000
set_option maxHeartbeats 2000000
namespace Vs
open PySem PySem.Spec PyProof.Rows L2 Fw SX

theorem Rm.deeper {k : Nat} {A : Around} (r : Rm (k + 1) A) (env : PySem.Env) : Rm k (A.deeper env) := ⟨r.toRoom.deeper env, r.gd⟩
/-- what is known of the context -/
structure Cd (g : Gm) (W : WX) (k : Nat) (X : Cx) : Prop where
  K : X.K = g.K
  w : X.w = g.w
  calm : X.calm = true
  tk : Takes X W
  room : Rm k X.A
  po : PassesOwn (model X.prog X.w) X.A X.env X.xe
  nd : X.N.Nodup
structure VE (g : Gm) (W : WX) (k : Nat) (X : Cx) (e : Expr) (F : M Rv) : Prop where
  run : Cd g W k X → PE X e (TV g W F)
structure VT (g : Gm) (W : WX) (k : Nat) (X : Cx) (e : Expr) (F : M Bool) : Prop where
  run : Cd g W k X → PT X e (TVT g W F)
structure VA (g : Gm) (W : WX) (k : Nat) (X : Cx) (es : List Expr) (F : M (List Rv)) : Prop where
  run : Cd g W k X → PA X es (TVA g W F)
structure VS (g : Gm) (W : WX) (k : Nat) (X : Cx) (st : Stmt) (F : M Ctl) : Prop where
  run : Cd g W k X → PS X st (TVS g W F)
structure VSs (g : Gm) (W : WX) (k : Nat) (X : Cx) (st : List Stmt) (F : M Ctl) : Prop where
  run : Cd g W k X → PSs X st (TVS g W F)
def fVar (i : Nat) : M Rv := fun e => match e[i]? with
  | some (.sh d) => .ok (.val d) e
  | some (.bf d) => .ok (.val d) e
  | some (.ow _) => .ok (.slot i) e
  | some (.bo _) => .ok (.slot i) e
  | some (.lo _) => .ok (.slot i) e
  | _ => .no
def fC (d : D) : M Rv := fun e => .ok (.val d) e
section
variable {g : Gm} {W : WX} {k : Nat} {X : Cx}
theorem ve_pe {e : Expr} {F : M Rv} {t : TE} (h : Cd g W k X → PE X e t) (q : ∀ σ H Q, TV g W F σ H Q → t σ H Q) : VE g W k X e F := ⟨fun c => PE.imp (h c) q⟩
theorem ve_var {i : Nat} {x : Str} {pos : Pos} (hN : X.N[i]? = some x) (hv : Vis X.env.scope x) (hd : (x == ("__debug__" : Str)) = false := by decide) (hcd : (x == ("__classdict__" : Str)) = false := by decide) : VE g W k X (.Name x pos) (fVar i) := by
  refine ve_pe (fun _ => pe_var hN hv hd hcd) fun σ H Q ⟨G, e, sr, h⟩ => ?_
  have sl := sr.slot i
  unfold fVar at h
  cases q : e[i]? with
  | none => rw [q] at h; exact h.elim
  | some s =>
    rw [q] at h sl
    cases s with
    | un => exact h.elim
    | sh d =>
      obtain ⟨v, ev, r⟩ := sl
      exact ⟨v, ev, h G H (Tr.refl sr) v r⟩
    | bf d =>
      obtain ⟨v, ev, r⟩ := sl
      exact ⟨v, ev, h G H (Tr.refl sr) v r⟩
    | ow d =>
      obtain ⟨p, ev, _⟩ := sl
      exact ⟨_, ev, h G H (Tr.refl sr) _ ⟨ev, _, q, fun z => nomatch z⟩⟩
    | bo d =>
      obtain ⟨p, ev, _⟩ := sl
      exact ⟨_, ev, h G H (Tr.refl sr) _ ⟨ev, _, q, fun z => nomatch z⟩⟩
    | lo d =>
      obtain ⟨p, ev, _⟩ := sl
      exact ⟨_, ev, h G H (Tr.refl sr) _ ⟨ev, _, q, fun z => nomatch z⟩⟩
theorem ve_c {e : Expr} {v : V} {d : D} (h : PE X e (tC v)) (r : ∀ G, Rep g G d v) : VE g W k X e (fC d) :=
  ve_pe (fun _ => h) fun σ H Q ⟨G, e, sr, h⟩ => h G H (Tr.refl sr) v (r G)
theorem ve_int {i : Int} {j pos} : VE g W k X (.Constant (.int i) j pos) (fC (.int i)) := ve_c pe_int fun _ => rfl
theorem ve_bl {b : Bool} {j pos} : VE g W k X (.Constant (.bool b) j pos) (fC (.bl b)) := ve_c pe_bl fun _ => rfl
theorem ve_non {j pos} : VE g W k X (.Constant .none j pos) (fC .non) := ve_c pe_non fun _ => rfl
theorem ve_str {x : Str} {l : List Nat} {j pos} (h : x = S l := by decide +kernel) (h2 : l.all (· < 1114112) = true := by decide +kernel) : VE g W k X (.Constant (.str x) j pos) (fC (.str l)) := ve_c pe_str fun _ => by rw [h]; exact ⟨rfl, fun c hc => of_decide_eq_true (List.all_eq_true.mp h2 c hc)⟩
theorem ve_gs {x z : Str} {l : List Nat} {t : Tok} {pos : Pos} (hm : X.mg x = some (.str z t)) (h : z = S l := by rfl) (h2 : l.all (· < 1114112) = true := by decide +kernel) (hg : Gl X x := by rfl) (hdb : (x == ("__debug__" : Str)) = false := by decide) : VE g W k X (.Name x pos) (fC (.str l)) := ve_c (pe_gs hm hg hdb) fun _ => by rw [h]; exact ⟨rfl, fun c hc => of_decide_eq_true (List.all_eq_true.mp h2 c hc)⟩
theorem ve_bt {x : Str} {T : String} {pos : Pos} (hm : X.mg x = none) (hv : bootBuiltins x = some (.type T)) (hg : Gl X x := by rfl) (hn : x ≠ "__name__" := by decide) (hdb : (x == ("__debug__" : Str)) = false := by decide) : VE g W k X (.Name x pos) (fC (.con (.ty T))) :=
  ve_c (pe_bltn (v := .ty T) hg hm hv rfl hn hdb) fun _ => rfl
end

def frzRv (r : Rv) : M D := fun e => match r with
  | .val d => .ok d e
  | .fresh d => .ok d e
  | .slot i => match e[i]? with
    | some (.sh d) => .ok d e
    | some (.bf d) => .ok d e
    | some (.ow d) => .ok d (e.set i (.sh d))
    | some (.bo d) => .ok d (e.set i (.bf d))
    | _ => .no
def fFrz (F : M Rv) : M Rv := F.bind fun r => (frzRv r).map Rv.val
def deref (r : Rv) (e : Ve) : Option D := match r with
  | .val d => some d
  | .fresh d => some d
  | .slot i => match e[i]? with
    | some (.sh d) => some d
    | some (.bf d) => some d
    | some (.ow d) => some d
    | some (.bo d) => some d
    | some (.lo (.dct k)) => some (.dct k)
    | _ => none
section
variable {g : Gm} {W : WX} {k : Nat} {X : Cx} {G H G1 H1 H0 : Hp} {σ : L2.St} {e e1 e2 : Ve} {r : Rv} {v : V} {d : D}
theorem frz_ok (t : Tr g σ G H e G1 H1 e1) (ok : RvOk g G1 H1 σ e1 H r v) (h : frzRv r e1 = .ok d e2) : ∃ G2, Tr g σ G H e G2 H1 e2 ∧ Rep g G2 d v := by
  cases r with
  | val d' => cases h; exact ⟨G1, t, ok⟩
  | fresh d' =>
    cases h
    obtain ⟨p, ev, n, o, h0, nr⟩ := ok
    obtain ⟨ob, ho, nf, mk⟩ := o.there
    have le := Le.upd (o := ob) n
    have gr : SR g (upd G1 p ob) H1 σ e1 := by
      refine ⟨t.sr.bs.frz ho nf.nf, t.sr.tabs.mono (Le.upd n) (fun a ps e m => by rw [upd_ne (fun z => by rw [z, ho] at e; exact nf.nt ps (Option.some.inj e))]; exact m), t.sr.scr.mono (Le.upd n), t.sr.len, fun j => ?_, t.sr.inj⟩
      have slj := t.sr.slot j
      cases q : e1[j]? with
      | none => trivial
      | some s =>
        rw [q] at slj
        have ne : ∀ p', Rt σ e1 j p' → p' ≠ p := fun p' r z => nr j (z ▸ r)
        cases s with
        | un => trivial
        | sh d => obtain ⟨v, ev, r⟩ := slj; exact ⟨v, ev, r.mono le⟩
        | bf d => obtain ⟨v, ev, r⟩ := slj; exact ⟨v, ev, r.mono le⟩
        | lo d =>
          obtain ⟨p', ev, n', r⟩ := slj
          obtain ⟨ob', u', ho', _⟩ := r.there
          exact ⟨p', ev, by rw [upd_ne (fun z => by rw [z, ho] at ho'; exact nf.nf _ _ (Option.some.inj ho'))]; exact n', r.mono le rfl⟩
        | ow d => obtain ⟨p', ev, n', r⟩ := slj; exact ⟨p', ev, by rw [upd_ne (ne p' ⟨by rw [q]; trivial, ev⟩)]; exact n', r.mono le rfl⟩
        | bo d => obtain ⟨p', ev, n', r⟩ := slj; exact ⟨p', ev, by rw [upd_ne (ne p' ⟨by rw [q]; trivial, ev⟩)]; exact n', r.mono le rfl⟩
    refine ⟨upd G1 p ob, ⟨gr, t.le.trans le, t.keep, t.dom, fun a h1 h2 h3 => ?_, t.ve⟩, ?_⟩
    · rw [upd_ne (fun z => h2 (by rw [z]; exact h0))]; exact t.new a h1 h2 h3
    · rw [ev]; exact mk le upd_same
  | slot i =>
    obtain ⟨ev, s, es, ns⟩ := ok
    have sl := t.sr.slot i
    unfold frzRv at h
    simp only at h
    rw [es] at h sl
    have fin : ∀ s', ((s = .ow d ∧ s' = .sh d) ∨ (s = .bo d ∧ s' = .bf d)) → e2 = e1.set i s' → ∃ G2, Tr g σ G H e G2 H1 e2 ∧ Rep g G2 d v := fun s' hs he => by
      subst he
      obtain ⟨p, ob, ep, ho, nf, n, rp, sr2, ve2⟩ := t.sr.frz es s' hs
      have rti : Rt σ e1 i p := by
        refine ⟨?_, ep⟩
        rw [es]
        rcases hs with ⟨rfl, _⟩ | ⟨rfl, _⟩ <;> trivial
      rw [ep] at ev
      cases ev
      refine ⟨upd G1 p ob, ⟨sr2, t.le.trans (Le.upd n), t.keep, t.dom, fun a h1 h2 h3 => ?_, t.ve.trans ve2⟩, rp⟩
      rw [upd_ne (fun z => h3 i (t.ve.rt (by rw [z]; exact rti)))]; exact t.new a h1 h2 h3
    cases s with
    | un => exact absurd rfl ns
    | sh d' =>
      cases h
      obtain ⟨v', ev', r'⟩ := sl
      rw [ev'] at ev
      cases ev
      exact ⟨G1, t, r'⟩
    | bf d' =>
      cases h
      obtain ⟨v', ev', r'⟩ := sl
      rw [ev'] at ev
      cases ev
      exact ⟨G1, t, r'⟩
    | ow d' => cases h; exact fin _ (.inl ⟨rfl, rfl⟩) rfl
    | bo d' => cases h; exact fin _ (.inr ⟨rfl, rfl⟩) rfl
    | lo d' => cases h
theorem deref_ok (sr : SR g G H σ e) (ok : RvOk g G H σ e H0 r v) (h : deref r e = some d) : RepH g G H d v := by
  cases r with
  | val d' => cases h; exact .inl ok
  | fresh d' =>
    cases h
    obtain ⟨p, ev, n, o, _⟩ := ok
    exact .inr ⟨p, ev, n, o.r⟩
  | slot i =>
    obtain ⟨ev, s, es, ns⟩ := ok
    have sl := sr.slot i
    unfold deref at h
    simp only at h
    rw [es] at h sl
    cases s with
    | un => cases h
    | sh d' =>
      cases h
      obtain ⟨v', ev', r'⟩ := sl
      rw [ev'] at ev; cases ev
      exact .inl r'
    | bf d' =>
      cases h
      obtain ⟨v', ev', r'⟩ := sl
      rw [ev'] at ev; cases ev
      exact .inl r'
    | ow d' =>
      cases h
      obtain ⟨p, ev', n, r'⟩ := sl
      rw [ev'] at ev; cases ev
      exact .inr ⟨p, rfl, n, r'.r⟩
    | bo d' =>
      cases h
      obtain ⟨p, ev', n, r'⟩ := sl
      rw [ev'] at ev; cases ev
      exact .inr ⟨p, rfl, n, r'.r⟩
    | lo d' =>
      cases d' <;> try cases h
      obtain ⟨p, ev', n, r'⟩ := sl
      rw [ev'] at ev; cases ev
      obtain ⟨_, _, _, o⟩ := r'.there
      exact .inr ⟨p, rfl, n, o _ rfl⟩
theorem frz_er {x : Exn} : frzRv r e1 ≠ .er x e2 := by
  unfold frzRv
  split
  · exact fun z => nomatch z
  · exact fun z => nomatch z
  · split <;> exact fun z => nomatch z
theorem tv_frz {F : M Rv} {Q : VK} (h : TV g W (fFrz F) σ H Q) : TV g W F σ H Q := by
  obtain ⟨G, e, sr, h⟩ := h
  refine ⟨G, e, sr, ?_⟩
  unfold fFrz M.bind at h
  revert h
  cases F e with
  | no => exact fun h => h
  | er x e' => exact fun h => h
  | ok r e1 =>
    intro h G1 H1 t1 v ok
    unfold M.map M.bind at h
    simp only at h
    cases q : frzRv r e1 with
    | no => rw [q] at h; exact h.elim
    | er x e' => exact absurd q frz_er
    | ok d e2 =>
      rw [q] at h
      obtain ⟨G2, t2, rp⟩ := frz_ok t1 ok q
      exact h G2 H1 t2 v rp
theorem ve_frz {ex : Expr} {F : M Rv} (h : VE g W k X ex F) : VE g W k X ex (fFrz F) := ⟨fun c => PE.imp (h.run c) fun _ _ _ q => tv_frz q⟩
end
theorem SR.scrL {g : Gm} {G H : Hp} {σ : L2.St} {e : Ve} (sr : SR g G H σ e) : SqL g.K H g.sa (g.sn.map .int) := by
  rcases sr.scr with ⟨o, h⟩ | h | h
  · exact .inl (.inr ⟨o, h⟩)
  · exact h H
  · exact .inl (.inl ((sr.bs.sub _ _ h).elim id fun z => nomatch z.1))
def fOp (f : D → D → Option Rv) (A B : M Rv) : M Rv := A.bind fun a => B.bind fun b => fun e => match deref a e, deref b e with
  | some x, some y => (match f x y with | some r => .ok r e | none => .no)
  | _, _ => .no
section
variable {g : Gm} {W : WX} {k : Nat} {X : Cx}
theorem tv_op {r : R2} {f : D → D → Option Rv} {A B : M Rv} {σ : L2.St} {H : Hp} {Q : VK} (hv : OpV g r f) (h : TV g W (fOp f A B) σ H Q) : tOp r (TV g W A) (TV g W B) σ H Q := by
  obtain ⟨G, e, sr, h⟩ := h
  refine ⟨G, e, sr, Pst.mono (Pst.bind h) fun a G1 H1 e1 t1 h1 v ok1 => ⟨G1, e1, t1.sr, Pst.mono (Pst.bind h1) fun b G2 H2 e2 t2 h2 y ok2 => ?_⟩⟩
  have ok1 := ok1.tr t2
  cases qa : deref a e2 with
  | none => simp only [qa] at h2; exact h2.elim
  | some da =>
    cases qb : deref b e2 with
    | none => simp only [qa, qb] at h2; exact h2.elim
    | some db =>
      cases qf : f da db with
      | none => simp only [qa, qb, qf] at h2; exact h2.elim
      | some out =>
        simp only [qa, qb, qf] at h2
        refine hv G2 H2 da db v y out Q t2.sr.bs t2.sr.scrL (deref_ok t2.sr ok1 qa) (deref_ok t2.sr ok2 qb) qf fun z G3 H3 gr nw => h2 G3 H3 (gr.tr t2.sr) z (nw.ok t2.sr fun p hp => t1.dom p (t2.dom p hp))
theorem ve_op {op : Operator} {r : R2} {f : D → D → Option Rv} {a b : Expr} {A B : M Rv} {pos : Pos} (ho : Cd g W k X → OpR X (binaryOp op) r) (hv : OpV g r f) (ha : VE g W k X a A) (hb : VE g W k X b B) : VE g W k X (.BinOp a op b pos) (fOp f A B) :=
  ⟨fun c => PE.imp (pe_op (ho c) (ha.run c) (hb.run c)) fun _ _ _ q => tv_op hv q⟩
theorem ve_cmp {op : CmpOp} {r : R2} {f : D → D → Option Rv} {a b : Expr} {A B : M Rv} {pos : Pos} (ho : Cd g W k X → OpR X (compareOp op) r) (hv : OpV g r f) (ha : VE g W k X a A) (hb : VE g W k X b B) (hm : behindInMarks op b = false) : VE g W k X (.Compare a [op] [b] pos) (fOp f A B) :=
  ⟨fun c => PE.imp (pe_cmpR (ho c) (ha.run c) (hb.run c) hm) fun _ _ _ q => tv_op hv q⟩
end
/-- a bool as a test -/
def fTest (F : M Rv) : M Bool := F.bind fun r e => match r with
  | .val (.bl b) => .ok b e
  | _ => .no
section
variable {g : Gm} {W : WX} {k : Nat} {X : Cx}
theorem tv_test {F : M Rv} {σ : L2.St} {H : Hp} {Q : Bool → Hp → Prop} (h : TVT g W (fTest F) σ H Q) : TV g W F σ H fun x H1 => ∃ b, x = .bl b ∧ Q b H1 := by
  obtain ⟨G, e, sr, h⟩ := h
  refine ⟨G, e, sr, Pst.mono (Pst.bind h) fun a G1 H1 e1 t1 h1 v ok1 => ?_⟩
  cases a with
  | val d =>
    cases d with
    | bl b => exact ⟨b, ok1, h1 G1 H1 (Tr.refl t1.sr)⟩
    | _ => exact h1.elim
  | _ => exact h1.elim
theorem vt_cmp {op : CmpOp} {r : R2} {f : D → D → Option Rv} {a b : Expr} {A B : M Rv} {pos : Pos} (ho : Cd g W k X → OpR X (compareOp op) r) (hv : OpV g r f) (ha : VE g W k X a A) (hb : VE g W k X b B) (hm : behindInMarks op b = false) : VT g W k X (.Compare a [op] [b] pos) (fTest (fOp f A B)) :=
  ⟨fun c => PT.imp (pt_cmpR (ho c) (ha.run c) (hb.run c) hm) fun σ H Q q => by
    obtain ⟨G, e, sr, q⟩ := tv_test q
    exact tv_op hv ⟨G, e, sr, q⟩⟩
end
end Vs

set_option maxRecDepth 100000
set_option maxHeartbeats 2000000
namespace Vs
open PySem PySem.Spec PyProof.Rows L2 Fw SX

def fNil : M (List Rv) := M.ret []
def fCons (A : M Rv) (B : M (List Rv)) : M (List Rv) := A.bind fun a => B.bind fun bs => M.ret (a :: bs)
section
variable {g : Gm} {W : WX} {k : Nat} {X : Cx} {G H G1 H1 H0 H00 : Hp} {σ : L2.St} {e e1 e2 : Ve}
theorem RvsOk.tr (t : Tr g σ G H e G1 H1 e1) : ∀ {rs : List Rv} {vs : List V}, RvsOk g G H σ e H0 rs vs → RvsOk g G1 H1 σ e1 H0 rs vs
  | [], _, h => h
  | _ :: _, _, ⟨v, r, ev, a, b, c⟩ => ⟨v, r, ev, a.tr t, RvsOk.tr t b, c⟩
theorem va_nil : VA g W k X [] fNil := ⟨fun _ => PA.imp pa_nil fun σ H Q ⟨G, e, sr, h⟩ => h G H (Tr.refl sr) [] rfl⟩
theorem va_cons {ex : Expr} {es : List Expr} {A : M Rv} {B : M (List Rv)} (ha : VE g W k X ex A) (hb : VA g W k X es B) (hs : starEach (ex :: es) X.env = (false, eval ex X.env) :: starEach es X.env := by rfl) : VA g W k X (ex :: es) (fCons A B) := by
  refine ⟨fun c => PA.imp (pa_cons (ha.run c) (hb.run c) hs) fun σ H Q ⟨G, e, sr, h⟩ => ?_⟩
  refine ⟨G, e, sr, Pst.mono (Pst.bind h) fun a G1 H1 e1 t1 h1 v ok1 => ⟨G1, e1, t1.sr, Pst.mono (Pst.bind h1) fun bs G2 H2 e2 t2 h2 vs ok2 => ?_⟩⟩
  refine h2 G2 H2 (Tr.refl t2.sr) (v :: vs) ⟨v, vs, rfl, ok1.tr t2, ok2.h0 t1.dom, fun d p er ev d' u m z => ?_⟩
  obtain ⟨p', eu, hp'⟩ := ok2.new d' u m
  rw [z] at eu
  cases eu
  subst er
  obtain ⟨p1, ev1, _, o, _⟩ := ok1
  rw [ev] at ev1
  cases ev1
  obtain ⟨ob, ho, _⟩ := o.there
  rw [ho] at hp'
  cases hp'
end

def derefs : List Rv → Ve → Option (List D)
  | [], _ => some []
  | r :: rs, e => match deref r e, derefs rs e with
    | some d, some ds => some (d :: ds)
    | _, _ => none
def fApp (f : List D → Option Rv) (A : M (List Rv)) : M Rv := A.bind fun rs e => match derefs rs e with
  | some ds => (match f ds with | some r => .ok r e | none => .no)
  | none => .no
section
variable {g : Gm} {W : WX} {k : Nat} {X : Cx} {G H G1 H1 H0 H00 : Hp} {σ : L2.St} {e e1 e2 : Ve}
theorem derefs_ok (sr : SR g G H σ e) : ∀ {rs : List Rv} {vs : List V} {ds : List D}, RvsOk g G H σ e H0 rs vs → derefs rs e = some ds → RepsH g G H ds vs
  | [], _, ds, h, q => by cases q; exact h
  | r :: rs, _, ds, ⟨v, t, ev, a, b, _⟩, q => by
    unfold derefs at q
    cases q1 : deref r e with
    | none => rw [q1] at q; simp at q
    | some d =>
      cases q2 : derefs rs e with
      | none => rw [q1, q2] at q; simp at q
      | some ds' =>
        rw [q1, q2] at q
        cases q
        exact ⟨v, t, ev, deref_ok sr a q1, derefs_ok sr b q2⟩
theorem tv_app {r : List V → Hp → VK → Prop} {f : List D → Option Rv} {A : M (List Rv)} {Q : VK} (hv : CallV g r f) (h : TV g W (fApp f A) σ H Q) : TVA g W A σ H fun vs H1 => r vs H1 Q := by
  obtain ⟨G, e, sr, h⟩ := h
  refine ⟨G, e, sr, Pst.mono (Pst.bind h) fun rs G1 H1 e1 t1 h1 vs ok1 => ?_⟩
  cases q : derefs rs e1 with
  | none => simp only [q] at h1; exact h1.elim
  | some ds =>
    cases qf : f ds with
    | none => simp only [q, qf] at h1; exact h1.elim
    | some out =>
      simp only [q, qf] at h1
      exact hv G1 H1 ds vs out Q t1.sr.bs t1.sr.scrL (derefs_ok t1.sr ok1 q) qf fun z G3 H3 gr nw => h1 G3 H3 (gr.tr t1.sr) z (nw.ok t1.sr t1.dom)
theorem ve_callB {id : String} {x : Str} {r : List V → Hp → VK → Prop} {f : List D → Option Rv} {ex : Expr} {es : List Expr} {A : M (List Rv)} {p pos : Pos} (hc : Cd g W k X → CallR X (.builtin id) r) (hv : CallV g r f) (hg : Gl X x) (hm : X.mg x = none) (hb : bootBuiltins x = some (.builtin id)) (ha : VA g W k X (ex :: es) A)
    (hn : x ≠ "__name__" := by decide) (hdb : (x == ("__debug__" : Str)) = false := by decide) (he : starEach (ex :: es) X.env = (false, eval ex X.env) :: starEach es X.env := by rfl) (hpl : (backTo pos (starEach es X.env)).any (·.1) = false := by rfl) : VE g W k X (.Call (.Name x p) (ex :: es) [] pos) (fApp f A) :=
  ⟨fun c => PE.imp (pe_callB (hc c) hg hm hb (ha.run c) hn hdb he hpl) fun _ _ _ q => tv_app hv q⟩
theorem ve_callTy {T : String} {x : Str} {r : List V → Hp → VK → Prop} {f : List D → Option Rv} {ex : Expr} {es : List Expr} {A : M (List Rv)} {p pos : Pos} (hc : Cd g W k X → CallR X (.type T) r) (hv : CallV g r f) (hg : Gl X x) (hm : X.mg x = none) (hb : bootBuiltins x = some (.type T)) (ha : VA g W k X (ex :: es) A)
    (hn : x ≠ "__name__" := by decide) (hdb : (x == ("__debug__" : Str)) = false := by decide) (he : starEach (ex :: es) X.env = (false, eval ex X.env) :: starEach es X.env := by rfl) (hpl : (backTo pos (starEach es X.env)).any (·.1) = false := by rfl) : VE g W k X (.Call (.Name x p) (ex :: es) [] pos) (fApp f A) :=
  ⟨fun c => PE.imp (pe_callTy (hc c) hg hm hb (ha.run c) hn hdb he hpl) fun _ _ _ q => tv_app hv q⟩
end

def valsOf : List Rv → Option (List D)
  | [] => some []
  | .val d :: rs => (valsOf rs).map (d :: ·)
  | _ :: _ => none
def fLst (A : M (List Rv)) : M Rv := A.bind fun rs e => match valsOf rs with
  | some ds => if ds.length ≤ sizeLine then .ok (.fresh (.lst ds)) e else .no
  | none => .no
def fTup (A : M (List Rv)) : M Rv := A.bind fun rs e => match valsOf rs with
  | some ds => if ds.length ≤ sizeLine then .ok (.val (.tup ds)) e else .no
  | none => .no
section
variable {g : Gm} {W : WX} {k : Nat} {X : Cx} {G H G1 H1 H0 H00 : Hp} {σ : L2.St} {e e1 e2 : Ve}
theorem valsOf_ok : ∀ {rs : List Rv} {vs : List V} {ds : List D}, RvsOk g G H σ e H0 rs vs → valsOf rs = some ds → Reps g G ds vs
  | [], _, ds, h, q => by cases q; exact h
  | .val d :: rs, _, ds, ⟨v, t, ev, a, b, _⟩, q => by
    unfold valsOf at q
    cases q2 : valsOf rs with
    | none => rw [q2] at q; simp at q
    | some ds' =>
      rw [q2] at q
      cases q
      exact ⟨v, t, ev, a, valsOf_ok b q2⟩
  | .slot _ :: rs, _, ds, _, q => by cases q
  | .fresh _ :: rs, _, ds, _, q => by cases q
theorem ve_lst {es : List Expr} {A : M (List Rv)} {pos : Pos} (ha : VA g W k X es A) : VE g W k X (.List es pos) (fLst A) := by
  refine ⟨fun c => PE.imp (pe_lst (ha.run c)) fun σ H Q ⟨G, e, sr, h⟩ => ?_⟩
  refine ⟨G, e, sr, Pst.mono (Pst.bind h) fun rs G1 H1 e1 t1 h1 vs ok1 => ?_⟩
  cases q : valsOf rs with
  | none => simp only [q] at h1; exact h1.elim
  | some ds =>
    simp only [q] at h1
    by_cases hl : ds.length ≤ sizeLine
    · rw [if_pos hl] at h1
      have rp := valsOf_ok ok1 q
      refine ⟨by rw [rp.len]; exact hl, fun p np => ?_⟩
      have gr := Grow.lay (o := HO.lst vs) t1.sr.bs np
      exact h1 G1 _ (gr.tr t1.sr) (.ref p) (RvNew.ok t1.sr t1.dom (r := .fresh (.lst ds)) ⟨p, rfl, t1.sr.bs.hn np, ⟨vs, upd_same, rp⟩, np⟩)
    · rw [if_neg hl] at h1; exact h1.elim
theorem ve_tup {es : List Expr} {A : M (List Rv)} {x1} {pos : Pos} (ha : VA g W k X es A) : VE g W k X (.Tuple es x1 pos) (fTup A) := by
  refine ⟨fun c => PE.imp (pe_tup (ha.run c)) fun σ H Q ⟨G, e, sr, h⟩ => ?_⟩
  refine ⟨G, e, sr, Pst.mono (Pst.bind h) fun rs G1 H1 e1 t1 h1 vs ok1 => ?_⟩
  cases q : valsOf rs with
  | none => simp only [q] at h1; exact h1.elim
  | some ds =>
    simp only [q] at h1
    by_cases hl : ds.length ≤ sizeLine
    · rw [if_pos hl] at h1
      have rp := valsOf_ok ok1 q
      refine ⟨by rw [rp.len]; exact hl, fun p np => ?_⟩
      have gr := Grow.lay2 (o := HO.tup vs) t1.sr.bs np (fun _ _ z => nomatch z)
      exact h1 _ _ (gr.tr t1.sr) (.ref p) (show Rep g _ (.tup ds) (.ref p) from ⟨p, vs, rfl, .of upd_same, rp.mono gr.le⟩)
    · rw [if_neg hl] at h1; exact h1.elim
end

def fNot (A : M Bool) : M Bool := A.map (! ·)
def fAnd (A B : M Bool) : M Bool := A.bind fun c => if c = true then B else M.ret false
def fOr (A B : M Bool) : M Bool := A.bind fun c => if c = true then M.ret true else B
def fIfE {α : Type} (C : M Bool) (A B : M α) : M α := C.bind fun c => if c = true then A else B
def truD : D → Option Bool
  | .non => some false
  | .bl b => some b
  | .int i => some (i != 0)
  | .str l => if l.length ≤ sizeLine then some (!l.isEmpty) else none
  | .lst ds => some (!ds.isEmpty)
  | .tup ds => some (!ds.isEmpty)
  | _ => none
def fTru (A : M Rv) : M Bool := A.bind fun r e => match deref r e with
  | some d => (match truD d with | some b => .ok b e | none => .no)
  | none => .no
structure VW (g : Gm) (W : WX) (k : Nat) (X : Cx) (e : Expr) (F : M Bool) : Prop where
  run : Cd g W k X → PW X e (TVT g W F)
section
variable {g : Gm} {W : WX} {k : Nat} {X : Cx} {G H G1 H1 H0 H00 : Hp} {σ : L2.St} {e e1 e2 : Ve} {a b c : Expr} {rest : List Expr} {A B : M Bool} {pos : Pos}
theorem RepH.lstR (bs : Bs G H) {ds : List D} {v : V} (h : RepH g G H (.lst ds) v) : ∃ a vs, v = .ref a ∧ H a = some (.lst vs) ∧ Reps g G ds vs := by
  rcases h with ⟨a, vs, e, q, r⟩ | ⟨p, e, n, vs, q, r⟩
  · exact ⟨a, vs, e, bs.at_ q rfl, r⟩
  · exact ⟨p, vs, e, q, r⟩
theorem RepH.okS {l : List Nat} {v : V} (h : RepH g G H (.str l) v) : OkS l := by
  rcases h with h | ⟨p, e, n, o⟩
  · exact h.2
  · exact o.elim
theorem Reps.emp {ds : List D} {vs : List V} (h : Reps g G ds vs) : vs.isEmpty = ds.isEmpty := by
  cases ds with
  | nil => rw [show vs = [] from h]; rfl
  | cons d r => obtain ⟨v, t, e, _⟩ := h; rw [e]; rfl
theorem truD_ok (bs : Bs G H) {d : D} {v : V} {b : Bool} (r : RepH g G H d v) (h : truD d = some b) : TruV g.K v H b := by
  cases d with
  | non => cases h; rw [r.non]; rfl
  | bl b' => cases h; rw [r.bl]; rfl
  | int i => cases h; rw [r.int]; rfl
  | str l =>
    rw [r.str]
    simp only [truD] at h
    by_cases hl : l.length ≤ sizeLine
    · rw [if_pos hl] at h
      cases h
      refine ⟨by rw [S_len]; exact hl, ?_⟩
      rw [S_len]
      cases l with
      | nil => rfl
      | cons c r => symm; simp; omega
    · rw [if_neg hl] at h; cases h
  | lst ds =>
    cases h
    obtain ⟨a, vs, e, q, r⟩ := r.lst bs
    rw [e]
    exact .inl ⟨vs, q, by rw [r.emp]⟩
  | tup ds =>
    cases h
    obtain ⟨a, vs, e, q, r⟩ := r.tup bs
    rw [e]
    exact .inr (.inl ⟨vs, q, by rw [r.emp]⟩)
  | _ => cases h
theorem tv_tru {F : M Rv} {Q : Bool → Hp → Prop} (h : TVT g W (fTru F) σ H Q) : TV g W F σ H fun x H1 => ∃ k, TruV g.K x H1 k ∧ Q k H1 := by
  obtain ⟨G, e, sr, h⟩ := h
  refine ⟨G, e, sr, Pst.mono (Pst.bind h) fun a G1 H1 e1 t1 h1 v ok1 => ?_⟩
  cases q : deref a e1 with
  | none => simp only [q] at h1; exact h1.elim
  | some d =>
    cases q2 : truD d with
    | none => simp only [q, q2] at h1; exact h1.elim
    | some b =>
      simp only [q, q2] at h1
      exact ⟨b, truD_ok t1.sr.bs (deref_ok t1.sr ok1 q) q2, h1 G1 H1 (Tr.refl t1.sr)⟩
theorem vt_tru {F : M Rv} (h : VE g W k X a F) (he : ∀ whole, isTrue a X.env whole = (do let v ← whole; standAt a.pos; holding [v] (truthy v)) := by intro _; rfl) : VT g W k X a (fTru F) :=
  ⟨fun c => PT.imp (pt_truth (h.run c) he) fun σ H Q q => by rw [c.K]; exact tv_tru q⟩
theorem vt_not (h : VT g W k X a A) : VT g W k X (.UnaryOp .Not a pos) (fNot A) :=
  ⟨fun c => PT.imp (pt_not (h.run c)) fun σ H Q ⟨G, e, sr, q⟩ => ⟨G, e, sr, Pst.mono (Pst.bind q) fun b G1 H1 e1 t1 h1 => h1 G1 H1 (Tr.refl t1.sr)⟩⟩
theorem vw_and1 (h : VT g W k X a A) : VW g W k X (.BoolOp .And [a] pos) A := ⟨fun c => pw_and1 (h.run c)⟩
theorem vw_or1 (h : VT g W k X a A) : VW g W k X (.BoolOp .Or [a] pos) A := ⟨fun c => pw_or1 (h.run c)⟩
theorem VW.vt (h : VW g W k X a A) : VT g W k X a A := ⟨fun c => (h.run c).pt⟩
theorem vw_and (h : VT g W k X a A) (h2 : VW g W k X (.BoolOp .And (b :: rest) pos) B) : VW g W k X (.BoolOp .And (a :: b :: rest) pos) (fAnd A B) :=
  ⟨fun c => PW.imp (pw_and (h.run c) (h2.run c)) fun σ H Q ⟨G, e, sr, q⟩ => ⟨G, e, sr, Pst.mono (Pst.bind q) fun b G1 H1 e1 t1 h1 => by
    cases b with
    | true => exact ⟨G1, e1, t1.sr, h1⟩
    | false => exact h1 G1 H1 (Tr.refl t1.sr)⟩⟩
theorem vw_or (h : VT g W k X a A) (h2 : VW g W k X (.BoolOp .Or (b :: rest) pos) B) : VW g W k X (.BoolOp .Or (a :: b :: rest) pos) (fOr A B) :=
  ⟨fun c => PW.imp (pw_or (h.run c) (h2.run c)) fun σ H Q ⟨G, e, sr, q⟩ => ⟨G, e, sr, Pst.mono (Pst.bind q) fun b G1 H1 e1 t1 h1 => by
    cases b with
    | false => exact ⟨G1, e1, t1.sr, h1⟩
    | true => exact h1 G1 H1 (Tr.refl t1.sr)⟩⟩
/-- behind a step: what was new stays new -/
theorem Pst.shift {F : Res Rv} {Q : VK} (t : Tr g σ G H e G1 H1 e1) (h : Pst g W σ G1 H1 e1 (fun r G' H' e' => ∀ v, RvOk g G' H' σ e' H r v → Q v H') F) : Pst g W σ G1 H1 e1 (fun r G' H' e' => ∀ v, RvOk g G' H' σ e' H1 r v → Q v H') F :=
  Pst.mono h fun r G' H' e' _ q v ok => q v (ok.h0 t.dom)
theorem ve_if {C : M Bool} {F1 F2 : M Rv} (hc : VT g W k X c C) (ha : VE g W k X a F1) (hb : VE g W k X b F2) : VE g W k X (.IfExp c a b pos) (fIfE C F1 F2) :=
  ⟨fun cd => PE.imp (pe_ifExp (hc.run cd) (ha.run cd) (hb.run cd)) fun σ H Q ⟨G, e, sr, q⟩ => ⟨G, e, sr, Pst.mono (Pst.bind q) fun b G1 H1 e1 t1 h1 => by
    cases b with
    | true => exact ⟨G1, e1, t1.sr, Pst.shift t1 h1⟩
    | false => exact ⟨G1, e1, t1.sr, Pst.shift t1 h1⟩⟩⟩
def fAndV (A B : M Rv) : M Rv := A.bind fun r e => match deref r e with
  | some d => (match truD d with | some true => B e | some false => .ok r e | none => .no)
  | none => .no
def fOrV (A B : M Rv) : M Rv := A.bind fun r e => match deref r e with
  | some d => (match truD d with | some false => B e | some true => .ok r e | none => .no)
  | none => .no
def fNotV (A : M Rv) : M Rv := (fTru A).map fun b => .val (.bl (!b))
theorem ve_one {op} {F : M Rv} (h : VE g W k X a F) : VE g W k X (.BoolOp op [a] pos) F := ⟨fun c => pe_one (h.run c)⟩
theorem ve_and {F1 F2 : M Rv} (ha : VE g W k X a F1) (hb : VE g W k X (.BoolOp .And (b :: rest) pos) F2) : VE g W k X (.BoolOp .And (a :: b :: rest) pos) (fAndV F1 F2) :=
  ⟨fun c => PE.imp (pe_andT (ha.run c) (hb.run c)) fun σ H Q ⟨G, e, sr, q⟩ => by
    rw [c.K]
    refine ⟨G, e, sr, Pst.mono (Pst.bind q) fun r G1 H1 e1 t1 h1 v ok1 => ?_⟩
    cases q1 : deref r e1 with
    | none => simp only [q1] at h1; exact h1.elim
    | some d =>
      cases q2 : truD d with
      | none => simp only [q1, q2] at h1; exact h1.elim
      | some b =>
        simp only [q1, q2] at h1
        refine ⟨b, truD_ok t1.sr.bs (deref_ok t1.sr ok1 q1) q2, ?_⟩
        cases b with
        | true => exact ⟨G1, e1, t1.sr, Pst.shift t1 h1⟩
        | false => exact h1 G1 H1 (Tr.refl t1.sr) v ok1⟩
theorem ve_not {F : M Rv} (h : VE g W k X a F) : VE g W k X (.UnaryOp .Not a pos) (fNotV F) :=
  ⟨fun c => PE.imp (pe_notT (h.run c)) fun σ H Q ⟨G, e, sr, q⟩ => by
    rw [c.K]
    refine tv_tru ⟨G, e, sr, Pst.mono (Pst.bind q) fun b G1 H1 e1 t1 h1 => h1 G1 H1 (Tr.refl t1.sr) _ rfl⟩⟩
def fChain (f f' : D → D → Option Rv) (A B C : M Rv) : M Rv := A.bind fun a => B.bind fun b e => match deref a e, deref b e with
  | some x, some y => (match f x y with
    | some (.val (.bl true)) => (C.bind fun c e2 => match deref b e2, deref c e2 with
      | some y2, some z => (match f' y2 z with | some r => .ok r e2 | none => .no)
      | _, _ => .no) e
    | some (.val (.bl false)) => .ok (.val (.bl false)) e
    | _ => .no)
  | _, _ => .no
theorem tv_chain {r r' : R2} {f f' : D → D → Option Rv} {A B C : M Rv} {Q : VK} (hv : OpV g r f) (hv' : OpV g r' f') (h : TV g W (fChain f f' A B C) σ H Q) : tChain r r' (TV g W A) (TV g W B) (TV g W C) σ H Q := by
  obtain ⟨G, e, sr, h⟩ := h
  refine ⟨G, e, sr, Pst.mono (Pst.bind h) fun a G1 H1 e1 t1 h1 v ok1 => ⟨G1, e1, t1.sr, Pst.mono (Pst.bind h1) fun b G2 H2 e2 t2 h2 y ok2 => ?_⟩⟩
  have ok1 := ok1.tr t2
  cases qa : deref a e2 with
  | none => simp only [qa] at h2; exact h2.elim
  | some da =>
    cases qb : deref b e2 with
    | none => simp only [qa, qb] at h2; exact h2.elim
    | some db =>
      simp only [qa, qb] at h2
      have fin : ∀ bo, f da db = some (.val (.bl bo)) → (∀ z G3 H3, Grow G2 H2 G3 H3 → z = V.bl bo → ∃ k, z = .bl k ∧ (if k = true then TV g W C σ H3 (fun w' H4 => r' y w' H4 Q) else Q (.bl false) H3)) → r v y H2 fun z H3 => ∃ k, z = .bl k ∧ (if k = true then TV g W C σ H3 (fun w' H4 => r' y w' H4 Q) else Q (.bl false) H3) := fun bo qf q =>
        hv G2 H2 da db v y _ _ t2.sr.bs t2.sr.scrL (deref_ok t2.sr ok1 qa) (deref_ok t2.sr ok2 qb) qf fun z G3 H3 gr nw => q z G3 H3 gr nw
      cases qf : f da db with
      | none => simp only [qf] at h2; exact h2.elim
      | some out =>
        match out, qf with
        | .val (.bl true), qf =>
          simp only [qf] at h2
          refine fin true qf fun z G3 H3 gr ez => ⟨true, ez, ?_⟩
          have t3 := gr.tr t2.sr
          have h3 := h2
          rw [if_pos rfl]
          refine ⟨G3, e2, t3.sr, ?_⟩
          have h4 : Pst g W σ G3 H3 e2 (fun r G' H' e' => ∀ v, RvOk g G' H' σ e' H r v → Q v H') ((C.bind fun c e2 => match deref b e2, deref c e2 with
            | some y2, some z => (match f' y2 z with | some r => .ok r e2 | none => .no)
            | _, _ => .no) e2) := by
            revert h3
            generalize (C.bind fun c e2 => match deref b e2, deref c e2 with
              | some y2, some z => (match f' y2 z with | some r => Res.ok r e2 | none => .no)
              | _, _ => .no) e2 = res
            cases res with
            | no => exact fun h => h
            | er x e' => exact fun h cls d G' H' t => h cls d G' H' (t3.trans t)
            | ok a e' => exact fun h G' H' t => h G' H' (t3.trans t)
          refine Pst.mono (Pst.bind h4) fun c G4 H4 e4 t4 h5 w' ok4 => ?_
          have ok2 := (ok2.tr t3).tr t4
          cases qb2 : deref b e4 with
          | none => simp only [qb2] at h5; exact h5.elim
          | some y2 =>
            cases qc : deref c e4 with
            | none => simp only [qb2, qc] at h5; exact h5.elim
            | some z2 =>
              cases qf2 : f' y2 z2 with
              | none => simp only [qb2, qc, qf2] at h5; exact h5.elim
              | some out2 =>
                simp only [qb2, qc, qf2] at h5
                exact hv' G4 H4 y2 z2 y w' out2 Q t4.sr.bs t4.sr.scrL (deref_ok t4.sr ok2 qb2) (deref_ok t4.sr ok4 qc) qf2 fun z G5 H5 gr5 nw => h5 G5 H5 (gr5.tr t4.sr) z (nw.ok t4.sr fun p hp => t1.dom p (t2.dom p (t3.dom p (t4.dom p hp))))
        | .val (.bl false), qf =>
          simp only [qf] at h2
          refine fin false qf fun z G3 H3 gr ez => ⟨false, ez, ?_⟩
          exact h2 G3 H3 (gr.tr t2.sr) _ rfl
        | .val .non, qf => simp only [qf] at h2; exact h2.elim
        | .val (.int _), qf => simp only [qf] at h2; exact h2.elim
        | .val (.str _), qf => simp only [qf] at h2; exact h2.elim
        | .val (.lst _), qf => simp only [qf] at h2; exact h2.elim
        | .val (.tup _), qf => simp only [qf] at h2; exact h2.elim
        | .val (.dct _), qf => simp only [qf] at h2; exact h2.elim
        | .val (.set _), qf => simp only [qf] at h2; exact h2.elim
        | .val (.ins _ _), qf => simp only [qf] at h2; exact h2.elim
        | .val (.con _), qf => simp only [qf] at h2; exact h2.elim
        | .val (.scr _), qf => simp only [qf] at h2; exact h2.elim
        | .slot _, qf => simp only [qf] at h2; exact h2.elim
        | .fresh _, qf => simp only [qf] at h2; exact h2.elim
theorem ve_chain {op op' : CmpOp} {r r' : R2} {f f' : D → D → Option Rv} {F1 F2 F3 : M Rv} (ho : Cd g W k X → OpR X (compareOp op) r) (hv : OpV g r f) (ho' : Cd g W k X → OpR X (compareOp op') r') (hv' : OpV g r' f') (ha : VE g W k X a F1) (hb : VE g W k X b F2) (hc : VE g W k X c F3)
    (hm : lastMarks [op, op'] [b, c] = false := by with_unfolding_all rfl) : VE g W k X (.Compare a [op, op'] [b, c] pos) (fChain f f' F1 F2 F3) :=
  ⟨fun cd => PE.imp (pe_chain (ho cd) (ho' cd) (ha.run cd) (hb.run cd) (hc.run cd) hm) fun _ _ _ q => tv_chain hv hv' q⟩
end
end Vs

set_option maxRecDepth 100000
set_option maxHeartbeats 2000000
namespace Vs
open PySem PySem.Spec PyProof.Rows L2 Fw SX

section
variable {g : Gm} {W : WX} {k : Nat} {X : Cx} {G H G1 H1 H0 : Hp} {σ σ1 : L2.St} {e e1 e2 : Ve} {D : Ends}
theorem PstS.shift {r : Res Ctl} (t : St g G H σ e G1 H1 σ1 e1) (h : PstS g W D σ G H e r) : PstS g W D σ1 G1 H1 e1 r := by
  cases r with
  | no => exact h
  | er x e' => exact fun cls d σ' G' H' t2 => h cls d σ' G' H' (t.trans t2)
  | ok c e' =>
    cases c with
    | nx => exact fun σ' G' H' t2 => h σ' G' H' (t.trans t2)
    | bk => exact fun σ' G' H' t2 => h σ' G' H' (t.trans t2)
    | ct => exact fun σ' G' H' t2 => h σ' G' H' (t.trans t2)
    | rt r => exact fun v σ' G' H' t2 ok => h v σ' G' H' (t.trans t2) (ok.h0 t.dom)
/-- an expression ahead of the rest of a statement -/
theorem PstS.bindE {α : Type} {f : M α} {c : α → M Ctl} (h : PstS g W D σ G H e (M.bind f c e)) : Pst g W σ G H e (fun a G1 H1 e1 => PstS g W D σ G1 H1 e1 (c a e1)) (f e) := by
  unfold M.bind at h
  revert h
  cases f e with
  | no => exact fun h => h
  | er x e' => exact fun h cls d G' H' t xo => h cls d σ G' H' t.st xo
  | ok a e1 => exact fun h G1 H1 t => PstS.shift t.st h
end
def fSeq (A B : M Ctl) : M Ctl := A.bind fun c => match c with
  | .nx => B
  | c => M.ret c
def fNx : M Ctl := M.ret .nx
def fExp (A : M Rv) : M Ctl := A.bind fun _ => fNx
def fRet (A : M Rv) : M Ctl := A.bind fun r => M.ret (.rt r)
def fRetN : M Ctl := M.ret (.rt (.val .non))
section
variable {g : Gm} {W : WX} {k : Nat} {X : Cx} {st : Stmt} {rest : List Stmt} {ex : Expr} {pos : Pos} {A B : M Ctl}
theorem vss_nil : VSs g W k X [] fNx := ⟨fun _ => PSs.imp pss_nil fun D σ H ⟨G, e, sr, h⟩ => h σ G H (St.refl sr)⟩
theorem vss_cons (h1 : VS g W k X st A) (h2 : VSs g W k X rest B) : VSs g W k X (st :: rest) (fSeq A B) := by
  refine ⟨fun c => PSs.imp (pss_cons (h1.run c) (h2.run c)) fun D σ H ⟨G, e, sr, h⟩ => ?_⟩
  refine ⟨G, e, sr, ?_⟩
  unfold fSeq M.bind at h
  revert h
  cases A e with
  | no => exact fun h => h
  | er x e' => exact fun h => h
  | ok c e1 =>
    cases c with
    | nx => exact fun h σ' G' H' t => ⟨G', e1, t.sr, PstS.shift t h⟩
    | rt r => exact fun h => h
    | bk => exact fun h => h
    | ct => exact fun h => h
theorem vss_one (h1 : VS g W k X st A) : VSs g W k X [st] A := ⟨fun c => pss_one (h1.run c)⟩
theorem vs_expr {F : M Rv} (he : VE g W k X ex F) (hs : swapsWith ex none pos.line X.env = pure false := by rfl) : VS g W k X (.Expr ex pos) (fExp F) :=
  ⟨fun c => PS.imp (ps_expr (he.run c) hs) fun D σ H ⟨G, e, sr, h⟩ => ⟨G, e, sr, Pst.mono (PstS.bindE h) fun r G1 H1 e1 t1 h1 v _ => h1 σ G1 H1 (St.refl t1.sr)⟩⟩
theorem vs_ret {F : M Rv} (he : VE g W k X ex F) : VS g W k X (.Return (some ex) pos) (fRet F) :=
  ⟨fun c => PS.imp (ps_ret (he.run c)) fun D σ H ⟨G, e, sr, h⟩ => by
    refine ⟨G, e, sr, ?_⟩
    unfold fRet M.bind at h
    revert h
    cases F e with
    | no => exact fun h => h
    | er x e' => exact fun h cls d G' H' t xo => h cls d σ G' H' t.st xo
    | ok a e1 => exact fun h G1 H1 t v ok => h v σ G1 H1 t.st ok⟩
theorem vs_if {c : Expr} {a b : List Stmt} {C : M Bool} (hc : VT g W k X c C) (ha : VSs g W k X a A) (hb : VSs g W k X b B) : VS g W k X (.If c a b pos) (fIfE C A B) :=
  ⟨fun cd => PS.imp (ps_if (hc.run cd) (ha.run cd) (hb.run cd)) fun D σ H ⟨G, e, sr, h⟩ => ⟨G, e, sr, Pst.mono (PstS.bindE h) fun b G1 H1 e1 t1 h1 => by
    cases b with
    | true => exact ⟨G1, e1, t1.sr, h1⟩
    | false => exact ⟨G1, e1, t1.sr, h1⟩⟩⟩
end

/-- the slot i may be stored -/
def canSto (e : Ve) (i : Nat) : Bool := match e[i]? with
  | some .un => true
  | some (.sh _) => true
  | some (.ow _) => true
  | _ => false
def stoD (i : Nat) (d : D) : M Unit := fun e => if canSto e i = true then .ok () (e.set i (.sh d)) else .no
def stoRv (i : Nat) (r : Rv) : M Ctl := match r with
  | .val d => fun e => if canSto e i = true then .ok .nx (e.set i (.sh d)) else .no
  | .fresh d => fun e => if canSto e i = true then .ok .nx (e.set i (.ow d)) else .no
  | .slot j => (frzRv (.slot j)).bind fun d e => if canSto e i = true then .ok .nx (e.set i (.sh d)) else .no
def fSet (i : Nat) (A : M Rv) : M Ctl := A.bind (stoRv i)
section
variable {g : Gm} {W : WX} {k : Nat} {X : Cx} {G H G1 H1 H0 : Hp} {σ σ1 : L2.St} {e e1 e2 : Ve} {i : Nat} {d : D} {v : V}
theorem canSto_lt (h : canSto e i = true) : i < e.length ∧ (∀ d, e[i]? ≠ some (.bo d)) ∧ ∀ s, fixS s = true → e[i]? ≠ some s := by
  unfold canSto at h
  cases q : e[i]? with
  | none => rw [q] at h; cases h
  | some s =>
    rw [q] at h
    refine ⟨lt_of_some q, fun d z => ?_, fun s' fx z => ?_⟩
    · cases z; cases h
    · cases z
      cases s with
      | bf _ => cases h
      | lo _ => cases h
      | _ => cases fx
/-- a slot is stored -/
theorem SR.sto {s : Sl} (sr : SR g G H σ e) (c : canSto e i = true) (hs : (∃ d, s = .sh d ∧ Rep g G d v) ∨ ∃ d p, s = .ow d ∧ v = .ref p ∧ G p = none ∧ Own g G H p d ∧ ∀ j, ¬ Rt σ e j p) : SR g G H (σ.set i (some v)) (e.set i s) := by
  obtain ⟨hlt, nbo, nbf⟩ := canSto_lt c
  have hlt2 : i < σ.length := by rw [← sr.len]; exact hlt
  refine ⟨sr.bs, sr.tabs, sr.scr, by rw [List.length_set, List.length_set]; exact sr.len, fun j => ?_, fun j l p a b => ?_⟩
  · rw [getElem?_set', getElem?_set']
    by_cases hj : i = j
    · subst hj
      rw [if_pos ⟨rfl, hlt⟩, if_pos ⟨rfl, hlt2⟩]
      rcases hs with ⟨d, rfl, r⟩ | ⟨d, p, rfl, rfl, n, o, _⟩
      · exact ⟨v, rfl, r⟩
      · exact ⟨p, rfl, n, o⟩
    · rw [if_neg (fun z => hj z.1), if_neg (fun z => hj z.1)]
      exact sr.slot j
  · have at_ : ∀ j p, Rt (σ.set i (some v)) (e.set i s) j p → (j ≠ i ∧ Rt σ e j p) ∨ (j = i ∧ v = .ref p ∧ ∀ l, ¬ Rt σ e l p) := fun j p r => by
      obtain ⟨r1, r2⟩ := r
      rw [getElem?_set'] at r1 r2
      by_cases hj : i = j
      · subst hj
        rw [if_pos ⟨rfl, hlt⟩] at r1
        rw [if_pos ⟨rfl, hlt2⟩] at r2
        cases r2
        rcases hs with ⟨d, rfl, _⟩ | ⟨d, p, rfl, ev, _, _, nr⟩
        · exact r1.elim
        · cases ev; exact .inr ⟨rfl, rfl, nr⟩
      · rw [if_neg (fun z => hj z.1)] at r1 r2
        exact .inl ⟨fun z => hj z.symm, r1, r2⟩
    rcases at_ j p a with ⟨n1, r1⟩ | ⟨z1, y1, w1⟩ <;> rcases at_ l p b with ⟨n2, r2⟩ | ⟨z2, y2, w2⟩
    · exact sr.inj j l p r1 r2
    · exact absurd r1 (w2 j)
    · exact absurd r2 (w1 l)
    · rw [z1, z2]
theorem St.sto {s : Sl} (sr : SR g G H σ e) (c : canSto e i = true) (hs : (∃ d, s = .sh d ∧ Rep g G d v) ∨ ∃ d p, s = .ow d ∧ v = .ref p ∧ G p = none ∧ Own g G H p d ∧ ∀ j, ¬ Rt σ e j p)
    (h0 : St g G1 H1 σ1 e1 G H σ e) (nw : ∀ d p, s = .ow d → v = .ref p → H1 p = none) : St g G1 H1 σ1 e1 G H (σ.set i (some v)) (e.set i s) := by
  obtain ⟨hlt, nbo, nbf⟩ := canSto_lt c
  have hlt2 : i < σ.length := by rw [← sr.len]; exact hlt
  refine ⟨sr.sto c hs, by rw [List.length_set]; exact h0.ln, h0.le, h0.keep, h0.dom, h0.new, fun j p r => ?_, fun j d p r1 r2 => ?_, fun j d h => ?_, fun j s0 h fx => ?_, fun j d h => ?_⟩
  · obtain ⟨r1, r2⟩ := r
    rw [getElem?_set'] at r1 r2
    by_cases hj : i = j
    · subst hj
      rw [if_pos ⟨rfl, hlt⟩] at r1
      rw [if_pos ⟨rfl, hlt2⟩] at r2
      cases r2
      rcases hs with ⟨d, rfl, _⟩ | ⟨d, p', rfl, ev, _⟩
      · exact r1.elim
      · cases ev; exact .inr (nw d p rfl rfl)
    · rw [if_neg (fun z => hj z.1)] at r1 r2
      exact h0.rts j p ⟨r1, r2⟩
  · rw [getElem?_set'] at r1 r2
    by_cases hj : i = j
    · subst hj
      rw [if_pos ⟨rfl, hlt⟩] at r1
      rw [if_pos ⟨rfl, hlt2⟩] at r2
      cases r2
      exact .inr (nw d p (Option.some.inj r1) rfl)
    · rw [if_neg (fun z => hj z.1)] at r1 r2
      exact h0.rto j d p r1 r2
  · obtain ⟨x, d', y⟩ := h0.bor j d h
    have hj : i ≠ j := fun z => by
      subst z
      rcases y with y | y
      · exact nbo d' y
      · exact nbf _ rfl y
    rw [getElem?_set', getElem?_set', if_neg (fun z => hj z.1), if_neg (fun z => hj z.1)]
    exact ⟨x, d', y⟩
  · obtain ⟨x, y⟩ := h0.bof j s0 h fx
    have hj : i ≠ j := fun z => by
      subst z
      exact nbf s0 fx y
    rw [getElem?_set', getElem?_set', if_neg (fun z => hj z.1), if_neg (fun z => hj z.1)]
    exact ⟨x, y⟩
  · rw [getElem?_set'] at h
    by_cases hj : i = j
    · rw [if_pos ⟨hj, hlt⟩] at h
      rcases hs with ⟨d, rfl, _⟩ | ⟨d, p, rfl, _⟩ <;> cases h
    · rw [if_neg (fun z => hj z.1)] at h
      exact h0.nlo j d h
theorem tv_set {A : M Rv} {D : Ends} (h : TVS g W (fSet i A) D σ H) : tAsg (TV g W A) (gName i) D σ H := by
  obtain ⟨G, e, sr, h⟩ := h
  refine ⟨G, e, sr, ?_⟩
  unfold fSet M.bind at h
  revert h
  cases A e with
  | no => exact fun h => h
  | er x e' => exact fun h cls d G' H' t xo => h cls d σ G' H' t.st xo
  | ok r e1 =>
    intro h G1 H1 t v ok
    show D.nx (σ.set i (some v)) H1
    cases r with
    | val d =>
      simp only [stoRv] at h
      by_cases c : canSto e1 i = true
      · rw [if_pos c] at h
        exact h _ G1 H1 (St.sto t.sr c (.inl ⟨d, rfl, ok⟩) t.st fun d p z => nomatch z)
      · rw [if_neg c] at h; exact h.elim
    | fresh d =>
      simp only [stoRv] at h
      by_cases c : canSto e1 i = true
      · rw [if_pos c] at h
        obtain ⟨p, ev, n, o, h0, nr⟩ := ok
        refine h _ G1 H1 (St.sto t.sr c (.inr ⟨d, p, rfl, ev, n, o, nr⟩) t.st fun d' p' z1 z2 => ?_)
        rw [ev] at z2; cases z2; exact h0
      · rw [if_neg c] at h; exact h.elim
    | slot j =>
      simp only [stoRv, M.bind] at h
      cases q : frzRv (.slot j) e1 with
      | no => rw [q] at h; exact h.elim
      | er x e' => exact absurd q frz_er
      | ok d e2 =>
        rw [q] at h
        simp only at h
        obtain ⟨G2, t2, rp⟩ := frz_ok t ok q
        by_cases c : canSto e2 i = true
        · rw [if_pos c] at h
          exact h _ G2 H1 (St.sto t2.sr c (.inl ⟨d, rfl, rp⟩) t2.st fun d p z => nomatch z)
        · rw [if_neg c] at h; exact h.elim
theorem vs_set {x : Str} {ex : Expr} {A : M Rv} {pos pos' : Pos} (hi : X.N[i]? = some x) (hx : Loc X.env.scope x) (he : VE g W k X ex A) (hs : swapsWith ex (some (.Name x pos')) pos.line X.env = pure false := by rfl) (hf : X.fn x = true ∨ X.env.scope.names.lookup x = some .local := by first | exact .inl rfl | exact .inr rfl | assumption) :
    VS g W k X (.Assign [.Name x pos'] ex pos) (fSet i A) := ⟨fun c => PS.imp (ps_set c.nd hi hx (he.run c) hs hf) fun _ _ _ q => tv_set q⟩
end

/-- is: the slots that are stored -/
structure VG (g : Gm) (X : Cx) (tg : Expr) (F : D → M Unit) (is : List Nat) : Prop where
  pg : ∀ (k : Nat) (W : WX), Cd g W k X → ∃ t, PG X tg t ∧ ∀ (G H G0 H0 : Hp) (σ σ0 : L2.St) (e e0 e' : Ve) (d : D) (v : V) (Q : L2.St → Hp → Prop), St g G0 H0 σ0 e0 G H σ e → Rep g G d v → F d e = .ok () e' →
    (∀ σ', St g G0 H0 σ0 e0 G H σ' e' → (∀ j, j ∉ is → σ'[j]? = σ[j]?) → Q σ' H) → t v σ H Q
  off : ∀ d e e' j, F d e = .ok () e' → j ∉ is → e'[j]? = e[j]?
  nox : ∀ d e x e', F d e ≠ .er x e'
  oth : ∀ d e e' j, F d e = .ok () e' → j ∈ is → ∃ d', e'[j]? = some (.sh d')
  len : ∀ d e e', F d e = .ok () e' → e'.length = e.length
structure VGs (g : Gm) (X : Cx) (tg : List Expr) (F : List D → M Unit) (is : List Nat) : Prop where
  pg : ∀ (k : Nat) (W : WX), Cd g W k X → ∃ t, PGs X tg t ∧ ∀ (G H G0 H0 : Hp) (σ σ0 : L2.St) (e e0 e' : Ve) (ds : List D) (vs : List V) (Q : L2.St → Hp → Prop), St g G0 H0 σ0 e0 G H σ e → Reps g G ds vs → F ds e = .ok () e' →
    (∀ σ', St g G0 H0 σ0 e0 G H σ' e' → (∀ j, j ∉ is → σ'[j]? = σ[j]?) → Q σ' H) → t vs σ H Q
  off : ∀ d e e' j, F d e = .ok () e' → j ∉ is → e'[j]? = e[j]?
  nox : ∀ d e x e', F d e ≠ .er x e'
  oth : ∀ d e e' j, F d e = .ok () e' → j ∈ is → ∃ d', e'[j]? = some (.sh d')
  len : ∀ d e e', F d e = .ok () e' → e'.length = e.length
def gNilF : List D → M Unit := fun ds e => match ds with
  | [] => .ok () e
  | _ => .no
def gConsF (F : D → M Unit) (Fs : List D → M Unit) : List D → M Unit := fun ds e => match ds with
  | d :: r => M.bind (F d) (fun _ => Fs r) e
  | [] => .no
def gTupF (n : Nat) (Fs : List D → M Unit) : D → M Unit := fun d e => match d with
  | .tup ds => if ds.length = n then Fs ds e else .no
  | _ => .no
section
variable {g : Gm} {X : Cx} {i : Nat}
theorem vg_name {x : Str} {pos : Pos} (hi : X.N[i]? = some x) (hx : Loc X.env.scope x) (hf : X.fn x = true ∨ X.env.scope.names.lookup x = some .local := by first | exact .inl rfl | exact .inr rfl | assumption) : VG g X (.Name x pos) (stoD i) [i] := by
  refine ⟨fun k W c => ⟨gName i, pg_name c.nd hi hx hf, fun G H G0 H0 σ σ0 e e0 e' d v Q st rp h q => ?_⟩, fun d e e' j h hj => ?_, fun d e x e' h => ?_, fun d e e' j h hj => ?_, fun d e e' h => ?_⟩
  · unfold stoD at h
    by_cases cs : canSto e i = true
    · rw [if_pos cs] at h
      cases h
      exact q _ (St.sto st.sr cs (.inl ⟨d, rfl, rp⟩) st fun d p z => nomatch z) fun j hj => by rw [getElem?_set', if_neg (fun z => hj (by rw [z.1]; exact List.mem_singleton.mpr rfl))]
    · rw [if_neg cs] at h; cases h
  · unfold stoD at h
    by_cases cs : canSto e i = true
    · rw [if_pos cs] at h
      cases h
      rw [getElem?_set', if_neg (fun z => hj (by rw [z.1]; exact List.mem_singleton.mpr rfl))]
    · rw [if_neg cs] at h; cases h
  · unfold stoD at h
    split at h <;> cases h
  · unfold stoD at h
    by_cases cs : canSto e i = true
    · rw [if_pos cs] at h
      cases h
      rw [List.mem_singleton.mp hj, getElem?_set', if_pos ⟨rfl, (canSto_lt cs).1⟩]
      exact ⟨d, rfl⟩
    · rw [if_neg cs] at h; cases h
  · unfold stoD at h
    by_cases cs : canSto e i = true
    · rw [if_pos cs] at h
      cases h
      rw [List.length_set]
    · rw [if_neg cs] at h; cases h
theorem vgs_nil : VGs g X [] gNilF [] := by
  refine ⟨fun k W c => ⟨gNil, pgs_nil, fun G H G0 H0 σ σ0 e e0 e' ds vs Q st rp h q => ?_⟩, fun d e e' j h hj => ?_, fun d e x e' h => ?_, fun d e e' j h hj => (nomatch hj), fun d e e' h => ?_⟩
  · cases ds with
    | nil => cases h; exact ⟨rp, q _ st fun _ _ => rfl⟩
    | cons d r => cases h
  · cases d with
    | nil => cases h; rfl
    | cons d r => cases h
  · cases d <;> cases h
  · cases d with
    | nil => cases h; rfl
    | cons d r => cases h
theorem vgs_cons {ex : Expr} {es : List Expr} {F : D → M Unit} {Fs : List D → M Unit} {is js : List Nat} (h1 : VG g X ex F is) (h2 : VGs g X es Fs js)
    (hs : (assignEach (ex :: es) X.env).map (·.2) = assign ex X.env :: (assignEach es X.env).map (·.2) := by rfl) : VGs g X (ex :: es) (gConsF F Fs) (is ++ js) := by
  have split : ∀ d r e e', gConsF F Fs (d :: r) e = .ok () e' → ∃ e1, F d e = .ok () e1 ∧ Fs r e1 = .ok () e' := fun d r e e' h => by
    simp only [gConsF, M.bind] at h
    cases q : F d e with
    | no => rw [q] at h; cases h
    | er x e1 => rw [q] at h; cases h
    | ok u e1 => rw [q] at h; exact ⟨e1, rfl, h⟩
  refine ⟨fun k W c => ?_, fun d e e' j h hj => ?_, fun d e x e' h => ?_, fun d e e' j h hj => ?_, fun d e e' h => ?_⟩
  · obtain ⟨t1, p1, q1⟩ := h1.pg k W c
    obtain ⟨t2, p2, q2⟩ := h2.pg k W c
    refine ⟨gCons t1 t2, pgs_cons p1 p2 hs, fun G H G0 H0 σ σ0 e e0 e' ds vs Q st rp h q => ?_⟩
    cases ds with
    | nil => cases h
    | cons d r =>
      obtain ⟨v, tl, rfl, a, b⟩ := rp
      obtain ⟨e1, f1, f2⟩ := split d r e e' h
      refine ⟨v, tl, rfl, q1 G H G0 H0 σ σ0 e e0 e1 d v _ st a f1 fun σ1 st1 of1 => q2 G H G0 H0 σ1 σ0 e1 e0 e' r tl _ st1 b f2 fun σ2 st2 of2 => q σ2 st2 fun j hj => ?_⟩
      rw [of2 j (fun z => hj (List.mem_append_right _ z)), of1 j (fun z => hj (List.mem_append_left _ z))]
  · cases d with
    | nil => cases h
    | cons d r =>
      obtain ⟨e1, f1, f2⟩ := split d r e e' h
      rw [h2.off r e1 e' j f2 (fun z => hj (List.mem_append_right _ z)), h1.off d e e1 j f1 (fun z => hj (List.mem_append_left _ z))]
  · cases d with
    | nil => cases h
    | cons d r =>
      simp only [gConsF, M.bind] at h
      cases q : F d e with
      | no => rw [q] at h; cases h
      | er x e1 => exact h1.nox _ _ _ _ q
      | ok u e1 => rw [q] at h; exact h2.nox _ _ _ _ h
  · cases d with
    | nil => cases h
    | cons d r =>
      obtain ⟨e1, f1, f2⟩ := split d r e e' h
      by_cases hm : j ∈ js
      · exact h2.oth r e1 e' j f2 hm
      · rw [h2.off r e1 e' j f2 hm]
        exact h1.oth d e e1 j f1 ((List.mem_append.mp hj).resolve_right hm)
  · cases d with
    | nil => cases h
    | cons d r =>
      obtain ⟨e1, f1, f2⟩ := split d r e e' h
      rw [h2.len r e1 e' f2, h1.len d e e1 f1]
theorem vg_tup {es : List Expr} {kk : Nat} {Fs : List D → M Unit} {is : List Nat} {n : Nat} {pos : Pos} (h : VGs g X es Fs is) (hn : (assignEach es X.env).length = n := by rfl) (hst : (assignEach es X.env).findIdx? (·.1) = none := by rfl) : VG g X (.Tuple es kk pos) (gTupF n Fs) is := by
  refine ⟨fun k W c => ?_, fun d e e' j h' hj => ?_, fun d e x e' h' => ?_, fun d e e' j h' hj => ?_, fun d e e' h' => ?_⟩
  · obtain ⟨t, p, q⟩ := h.pg k W c
    refine ⟨gTup g.K n t, c.K ▸ pg_tup c.calm p hn hst, fun G H G0 H0 σ σ0 e e0 e' d v Q st rp h' q' => ?_⟩
    cases d with
    | tup ds =>
      simp only [gTupF] at h'
      by_cases hl : ds.length = n
      · rw [if_pos hl] at h'
        obtain ⟨a, vs, ev, sq, rps⟩ := rp
        exact ⟨a, vs, ev, st.sr.bs.sqT sq, by rw [rps.len]; exact hl, q G H G0 H0 σ σ0 e e0 e' ds vs Q st rps h' q'⟩
      · rw [if_neg hl] at h'; cases h'
    | _ => cases h'
  · cases d with
    | tup ds =>
      simp only [gTupF] at h'
      by_cases hl : ds.length = n
      · rw [if_pos hl] at h'; exact h.off ds e e' j h' hj
      · rw [if_neg hl] at h'; cases h'
    | _ => cases h'
  · cases d with
    | tup ds =>
      simp only [gTupF] at h'
      by_cases hl : ds.length = n
      · rw [if_pos hl] at h'; exact h.nox _ _ _ _ h'
      · rw [if_neg hl] at h'; cases h'
    | _ => cases h'
  · cases d with
    | tup ds =>
      simp only [gTupF] at h'
      by_cases hl : ds.length = n
      · rw [if_pos hl] at h'; exact h.oth ds e e' j h' hj
      · rw [if_neg hl] at h'; cases h'
    | _ => cases h'
  · cases d with
    | tup ds =>
      simp only [gTupF] at h'
      by_cases hl : ds.length = n
      · rw [if_pos hl] at h'; exact h.len ds e e' h'
      · rw [if_neg hl] at h'; cases h'
    | _ => cases h'
end
/-- tg = e, e's data stored -/
def fAsg (F : D → M Unit) (A : M Rv) : M Ctl := (fFrz A).bind fun r => match r with
  | .val d => (F d).bind fun _ => fNx
  | _ => fun _ => .no
section
variable {g : Gm} {W : WX} {k : Nat} {X : Cx}
end
end Vs

set_option maxRecDepth 100000
set_option maxHeartbeats 2000000
namespace Vs
open PySem PySem.Spec PyProof.Rows L2 Fw SX

theorem Own.nofrz {g : Gm} {G H : Hp} {p : Addr} {d : D} (h : Own g G H p d) (o : Obj) (u : HO) : H p ≠ some (.frz o u) := fun z => by
  obtain ⟨ob, ho, nf, _⟩ := h.there
  rw [z] at ho
  exact nf.nf o u (Option.some.inj ho).symm
theorem SR.nofrz {g : Gm} {G H : Hp} {σ : L2.St} {e : Ve} (sr : SR g G H σ e) {a : Addr} {o : Obj} {u : HO} (h : H a = some (.frz o u)) (i : Nat) : ¬ Rt σ e i a := fun r => by
  obtain ⟨r1, r2⟩ := r
  have sl := sr.slot i
  cases q : e[i]? with
  | none => rw [q] at r1; exact r1
  | some s =>
    rw [q] at r1 sl
    cases s with
    | un => exact r1
    | sh d => exact r1
    | bf d => exact r1
    | lo d => exact r1
    | ow d =>
      obtain ⟨p', ev', n, ow⟩ := sl
      rw [ev'] at r2; cases r2
      exact ow.nofrz o u h
    | bo d =>
      obtain ⟨p', ev', n, ow⟩ := sl
      rw [ev'] at r2; cases r2
      exact ow.nofrz o u h
theorem St.fz {g : Gm} {G H G1 H1 : Hp} {σ σ1 : L2.St} {e e1 : Ve} (s0 : SR g G H σ e) (t : St g G H σ e G1 H1 σ1 e1) : Fz H H1 := fun a o u h => t.keep a _ h (fun i => s0.nofrz h i) fun ps z => nomatch z
theorem Grow.fz {G H G1 H1 : Hp} (t : Grow G H G1 H1) : Fz H H1 := fun a o u h => t.keep a _ h

/-- J gives the data ds, while the heap holds G and what is locked in Hs -/
structure ItOk (g : Gm) (Gs Hs : Hp) (J : It) (ds : List D) : Prop where
  go : ∀ i G H, Le Gs G → Bs G H → Fz Hs H → i < ds.length → J.go i H
  stop : ∀ G H, Le Gs G → Bs G H → Fz Hs H → J.stop ds.length H
  yld : ∀ i G H x H', Le Gs G → Bs G H → Fz Hs H → i < ds.length → J.yld i H x H' → ∃ d G', ds[i]? = some d ∧ Grow G H G' H' ∧ Rep g G' d x
def TVI (g : Gm) (W : WX) (F : M (List D)) : TI := fun σ H R => ∃ G e, SR g G H σ e ∧ Pst g W σ G H e (fun ds G' H' e' => ∀ J, ItOk g G' H' J ds → R J H') (F e)
structure VI (g : Gm) (W : WX) (k : Nat) (X : Cx) (tg ex : Expr) (F : M (List D)) : Prop where
  run : Cd g W k X → PI X tg ex (TVI g W F)
section
variable {g : Gm} {G H : Hp} {a : Addr} {vs : List V} {ds : List D}
theorem it_list (hs : SqL g.K G a vs) (r : Reps g G ds vs) : ItOk g G H (Itl g.K a) ds := by
  have hl := r.len
  refine ⟨fun i G' H' le bs _ hi => ?_, fun G' H' le bs _ => ?_, fun i G' H' x H'' le bs _ hi y => ?_⟩
  · exact (walk_list (K := g.K) (a := a) (xs := vs)).goes i H' (by omega) (bs.sqL (le.sqL hs))
  · exact hl ▸ (walk_list (K := g.K) (a := a) (xs := vs)).stops H' (bs.sqL (le.sqL hs))
  · obtain ⟨e1, e2⟩ := (walk_list (K := g.K) (a := a) (xs := vs)).yields i H' x H'' (by omega) (bs.sqL (le.sqL hs)) y
    subst e1
    obtain ⟨d, ed, rd⟩ := r.at e2
    exact ⟨d, G', ed, Grow.refl bs, rd.mono le⟩
theorem it_tup (hs : SqT g.K G a vs) (r : Reps g G ds vs) : ItOk g G H (Itt g.K a) ds := by
  have hl := r.len
  refine ⟨fun i G' H' le bs _ hi => ?_, fun G' H' le bs _ => ?_, fun i G' H' x H'' le bs _ hi y => ?_⟩
  · exact (walk_tup (K := g.K) (a := a) (xs := vs)).goes i H' (by omega) (bs.sqT (le.sqT hs))
  · exact hl ▸ (walk_tup (K := g.K) (a := a) (xs := vs)).stops H' (bs.sqT (le.sqT hs))
  · obtain ⟨e1, e2⟩ := (walk_tup (K := g.K) (a := a) (xs := vs)).yields i H' x H'' (by omega) (bs.sqT (le.sqT hs)) y
    subst e1
    obtain ⟨d, ed, rd⟩ := r.at e2
    exact ⟨d, G', ed, Grow.refl bs, rd.mono le⟩
theorem it_str (l : List Nat) (ok : OkS l) : ItOk g G H (Its (S l)) (l.map fun c => .str [c]) := by
  have hl : (S l).cps.size = l.length := S_len l
  refine ⟨fun i G' H' le bs _ hi => ?_, fun G' H' le bs _ => ?_, fun i G' H' x H'' le bs _ hi y => ?_⟩
  · exact (walk_str (z := S l)).goes i H' (by rw [hl]; simpa using hi) trivial
  · have := (walk_str (z := S l)).stops H' trivial
    rw [hl] at this
    simpa using this
  · obtain ⟨e1, c, hc, e2⟩ := (walk_str (z := S l)).yields i H' x H'' (by rw [hl]; simpa using hi) trivial y
    subst e1 e2
    have hc2 : l[i]? = some c := by
      rw [← hc]
      exact (Array.getElem?_toList (xs := (S l).cps)).symm ▸ rfl
    exact ⟨.str [c], G', by rw [List.getElem?_map, hc2]; rfl, Grow.refl bs, rfl, fun x hx => by rw [List.mem_singleton.mp hx]; exact ok c (List.mem_of_getElem? hc2)⟩
def rngD (lo : Int) (n : Nat) : List D := (List.range n).map fun (i : Nat) => .int (lo + (i : Int))
theorem it_rng (lo : Int) (n : Nat) : ItOk g G H (Itr lo n) (rngD lo n) := by
  have hl : (rngD lo n).length = n := by unfold rngD; rw [List.length_map, List.length_range]
  refine ⟨fun i G' H' le bs _ hi => ?_, fun G' H' le bs _ => ?_, fun i G' H' x H'' le bs _ hi y => ?_⟩
  · exact (walk_range (lo := lo) (n := n)).goes i H' (by omega) trivial
  · exact hl.symm ▸ (walk_range (lo := lo) (n := n)).stops H' trivial
  · obtain ⟨e1, e2⟩ := (walk_range (lo := lo) (n := n)).yields i H' x H'' (by omega) trivial y
    subst e1 e2
    refine ⟨.int (lo + i), G', ?_, Grow.refl bs, rfl⟩
    unfold rngD
    rw [List.getElem?_map, List.getElem?_range (by omega)]
    rfl
end
def itemsD : D → Option (List D)
  | .lst ds => some ds
  | .tup ds => some ds
  | .str l => some (l.map fun c => .str [c])
  | _ => none
def fItems (A : M Rv) : M (List D) := (fFrz A).bind fun r e => match r with
  | .val d => (match itemsD d with | some ds => .ok ds e | none => .no)
  | _ => .no
def fRng1 (A : M Rv) : M (List D) := A.bind fun r e => match r with
  | .val (.int j) => if -(2 ^ 62) ≤ j ∧ j < 2 ^ 62 then .ok (rngD 0 j.toNat) e else .no
  | _ => .no
def fRng2 (A B : M Rv) : M (List D) := A.bind fun r => B.bind fun r2 e => match r, r2 with
  | .val (.int i), .val (.int j) => if -(2 ^ 62) ≤ i ∧ i < 2 ^ 62 ∧ -(2 ^ 62) ≤ j ∧ j < 2 ^ 62 then .ok (rngD i (j - i).toNat) e else .no
  | _, _ => .no
section
variable {g : Gm} {W : WX} {k : Nat} {X : Cx} {tg ex : Expr}
theorem vi_seq {A : M Rv} (h : VE g W k X ex A) : VI g W k X tg ex (fItems A) := by
  refine ⟨fun c => ?_⟩
  have pl : PI X tg ex (iList g.K (TV g W (fFrz A))) := c.K ▸ pi_list ((ve_frz h).run c)
  have pt : PI X tg ex (iTup g.K (TV g W (fFrz A))) := c.K ▸ pi_tup ((ve_frz h).run c)
  have ps := pi_str (tg := tg) ((ve_frz h).run c)
  refine PI.imp (PI.or pl (PI.or pt ps)) fun σ H R ⟨G, e, sr, q⟩ => ?_
  unfold fItems M.bind at q
  have go : ∀ {P : VK}, (∀ d ds, itemsD d = some ds → fFrz A e = .ok (.val d) e → True) → True := fun _ => trivial
  cases qa : fFrz A e with
  | no => rw [qa] at q; exact q.elim
  | er x e' =>
    rw [qa] at q
    refine .inl ⟨G, e, sr, ?_⟩
    rw [qa]
    exact q
  | ok r e1 =>
    rw [qa] at q
    match r with
    | .slot _ => exact q.elim
    | .fresh _ => exact q.elim
    | .val d =>
      match d with
      | .lst ds =>
        refine .inl ⟨G, e, sr, ?_⟩
        rw [qa]
        intro G1 H1 t v rp
        obtain ⟨a, vs, ev, sq, rps⟩ := rp
        exact ⟨a, ev, ⟨vs, t.sr.bs.sqL (.of sq)⟩, q G1 H1 t _ (it_list (.of sq) rps)⟩
      | .tup ds =>
        refine .inr (.inl ⟨G, e, sr, ?_⟩)
        rw [qa]
        intro G1 H1 t v rp
        obtain ⟨a, vs, ev, sq, rps⟩ := rp
        exact ⟨a, ev, ⟨vs, t.sr.bs.sqT sq⟩, q G1 H1 t _ (it_tup sq rps)⟩
      | .str l =>
        refine .inr (.inr ⟨G, e, sr, ?_⟩)
        rw [qa]
        intro G1 H1 t v rp
        exact ⟨S l, rp.1, q G1 H1 t _ (it_str l rp.2)⟩
      | .non => exact q.elim
      | .bl _ => exact q.elim
      | .int _ => exact q.elim
      | .dct _ => exact q.elim
      | .set _ => exact q.elim
      | .ins _ _ => exact q.elim
      | .con _ => exact q.elim
      | .scr _ => exact q.elim
theorem vi_range1 {a : Expr} {A : M Rv} {p pos : Pos} (hm : X.mg "range" = none) (ha : VE g W k X a A) (hg : Gl X "range" := by rfl) (hs : starEach [a] X.env = [(false, eval a X.env)] := by rfl) : VI g W k X tg (.Call (.Name "range" p) [a] [] pos) (fRng1 A) := by
  refine ⟨fun c => PI.imp (pi_range1 hg hm (pa_cons (ha.run c) pa_nil hs) hs) fun σ H R ⟨G, e, sr, q⟩ => ⟨G, e, sr, Pst.mono (Pst.bind q) fun r G1 H1 e1 t1 h1 v ok => ?_⟩⟩
  match r with
  | .val (.int j) =>
    simp only at h1
    by_cases hj : -(2 ^ 62) ≤ j ∧ j < 2 ^ 62
    · rw [if_pos hj] at h1
      exact ⟨j, by rw [show v = .int j from ok], hj.1, hj.2, h1 G1 H1 (Tr.refl t1.sr) _ (it_rng 0 j.toNat)⟩
    · rw [if_neg hj] at h1; exact h1.elim
  | .slot _ => exact h1.elim
  | .fresh _ => exact h1.elim
  | .val (.str _) => exact h1.elim
  | .val .non => exact h1.elim
  | .val (.bl _) => exact h1.elim
  | .val (.lst _) => exact h1.elim
  | .val (.tup _) => exact h1.elim
  | .val (.dct _) => exact h1.elim
  | .val (.set _) => exact h1.elim
  | .val (.ins _ _) => exact h1.elim
  | .val (.con _) => exact h1.elim
  | .val (.scr _) => exact h1.elim
theorem fRng2_in {r r2 : Rv} {e : Ve} {ds : List D} {e' : Ve} (h : (match r, r2 with
  | .val (.int i), .val (.int j) => if -(2 ^ 62) ≤ i ∧ i < 2 ^ 62 ∧ -(2 ^ 62) ≤ j ∧ j < 2 ^ 62 then Res.ok (rngD i (j - i).toNat) e else .no
  | _, _ => .no) = .ok ds e') : ∃ i j, r = .val (.int i) ∧ r2 = .val (.int j) ∧ (-(2 ^ 62) ≤ i ∧ i < 2 ^ 62 ∧ -(2 ^ 62) ≤ j ∧ j < 2 ^ 62) ∧ ds = rngD i (j - i).toNat ∧ e' = e := by
  split at h
  · rename_i i j
    by_cases hj : -(2 ^ 62) ≤ i ∧ i < 2 ^ 62 ∧ -(2 ^ 62) ≤ j ∧ j < 2 ^ 62
    · rw [if_pos hj] at h
      cases h
      exact ⟨i, j, rfl, rfl, hj, rfl, rfl⟩
    · rw [if_neg hj] at h; cases h
  · cases h
theorem vi_range2 {a b : Expr} {A B : M Rv} {p pos : Pos} (hm : X.mg "range" = none) (ha : VE g W k X a A) (hb : VE g W k X b B) (hg : Gl X "range" := by rfl) (hs : starEach [a, b] X.env = [(false, eval a X.env), (false, eval b X.env)] := by rfl) (hs2 : starEach [b] X.env = [(false, eval b X.env)] := by rfl) : VI g W k X tg (.Call (.Name "range" p) [a, b] [] pos) (fRng2 A B) := by
  refine ⟨fun c => PI.imp (pi_range2 hg hm (pa_cons (ha.run c) (pa_cons (hb.run c) pa_nil hs2) (by rw [hs, hs2])) hs hs2) fun σ H R ⟨G, e, sr, q⟩ => ⟨G, e, sr, Pst.mono (Pst.bind q) fun r G1 H1 e1 t1 h1 v ok => ⟨G1, e1, t1.sr, Pst.mono (Pst.bind h1) fun r2 G2 H2 e2 t2 h2 v2 ok2 => ?_⟩⟩⟩
  generalize hz : (match r, r2 with
    | .val (.int i), .val (.int j) => if -(2 ^ 62) ≤ i ∧ i < 2 ^ 62 ∧ -(2 ^ 62) ≤ j ∧ j < 2 ^ 62 then Res.ok (rngD i (j - i).toNat) e2 else .no
    | _, _ => .no) = res at h2
  cases res with
  | no => exact h2.elim
  | er x e' =>
    exfalso
    revert hz
    split
    · split <;> exact fun z => nomatch z
    · exact fun z => nomatch z
  | ok ds e' =>
    obtain ⟨i, j, rfl, rfl, hb, rfl, rfl⟩ := fRng2_in hz
    exact ⟨i, j, by rw [show v = .int i from ok, show v2 = .int j from ok2], hb, h2 G2 H2 (Tr.refl t2.sr) _ (it_rng i (j - i).toNat)⟩
end
def forL (F : D → M Unit) (body : M Ctl) : List D → M Ctl
  | [] => fNx
  | d :: r => (F d).bind fun _ => body.bind fun c => match c with
    | .nx => forL F body r
    | .ct => forL F body r
    | .bk => fNx
    | .rt v => M.ret (.rt v)
def fFor (S : M (List D)) (F : D → M Unit) (body : M Ctl) : M Ctl := S.bind (forL F body)
section
variable {g : Gm} {W : WX} {k : Nat} {X : Cx} {tg ex : Expr}
theorem for_ok {F : D → M Unit} {is : List Nat} {B : M Ctl} {ds : List D} {D : Ends} {σ : L2.St} {G H : Hp} {e : Ve} {J : It} {t : TG} (hg : VG g X tg F is)
    (q : ∀ (G H G0 H0 : Hp) (σ σ0 : L2.St) (e e0 e' : Ve) (d : Vs.D) (v : V) (Q : L2.St → Hp → Prop), St g G0 H0 σ0 e0 G H σ e → Rep g G d v → F d e = .ok () e' → (∀ σ', St g G0 H0 σ0 e0 G H σ' e' → (∀ j, j ∉ is → σ'[j]? = σ[j]?) → Q σ' H) → t v σ H Q)
    (sr : SR g G H σ e) (it : ItOk g G H J ds) (h : PstS g W D σ G H e (forL F B ds e)) :
    ∃ W' : Nat → Nat → L2.St → Hp → Prop, (∃ m, W' 0 m σ H) ∧ ∀ i m σ H, W' i m σ H → (J.stop i H ∧ D.nx σ H) ∨ (J.go i H ∧ ∃ N : L2.St → Hp → Prop, (∀ σ' H', N σ' H' → ∃ m', m' < m ∧ W' (i + 1) m' σ' H') ∧
      ∀ x H', J.yld i H x H' → t x σ H' fun σ2 H2 => TVS g W B { D with nx := N, ct := N, bk := D.nx } σ2 H2) := by
  refine ⟨fun i m σ' H' => m = ds.length - i ∧ i ≤ ds.length ∧ ∃ G' e', SR g G' H' σ' e' ∧ Le G G' ∧ Fz H H' ∧ PstS g W D σ' G' H' e' (forL F B (ds.drop i) e'), ⟨_, rfl, Nat.zero_le _, G, e, sr, Le.refl G, fun _ _ _ h => h, h⟩, ?_⟩
  rintro i m σ1 H1 ⟨rfl, hi, G1, e1, sr1, le1, fz1, h1⟩
  by_cases hlt : i < ds.length
  · refine .inr ⟨it.go i G1 H1 le1 sr1.bs fz1 hlt, fun σ' H' => i + 1 ≤ ds.length ∧ ∃ G' e', SR g G' H' σ' e' ∧ Le G G' ∧ Fz H H' ∧ PstS g W D σ' G' H' e' (forL F B (ds.drop (i + 1)) e'), fun σ' H' hN => ⟨ds.length - (i + 1), by omega, rfl, hN⟩, fun x H2 y => ?_⟩
    obtain ⟨d, G2, ed, gr, rd⟩ := it.yld i G1 H1 x H2 le1 sr1.bs fz1 hlt y
    have t1 := (gr.tr sr1).st
    have ed' : ds.drop i = d :: ds.drop (i + 1) := by
      rw [List.drop_eq_getElem_cons hlt]
      rw [List.getElem?_eq_getElem hlt] at ed
      rw [Option.some.inj ed]
    rw [ed'] at h1
    have h2 := PstS.shift t1 h1
    simp only [forL] at h2
    cases qf : F d e1 with
    | no => simp only [M.bind, qf] at h2; exact h2.elim
    | er x e' => exact absurd qf (hg.nox _ _ _ _)
    | ok u e2 =>
      refine q G2 H2 G2 H2 σ1 σ1 e1 e1 e2 d x _ (St.refl t1.sr) rd qf fun σ2 st2 _ => ?_
      have h3 : PstS g W D σ1 G2 H2 e1 (M.bind B (fun c => match c with
        | .nx => forL F B (ds.drop (i + 1))
        | .ct => forL F B (ds.drop (i + 1))
        | .bk => fNx
        | .rt v => M.ret (.rt v)) e2) := by
        have := h2
        unfold M.bind at this
        rw [qf] at this
        exact this
      have h4 := PstS.shift st2 h3
      refine ⟨G2, e2, st2.sr, ?_⟩
      have fz2 : Fz H H2 := fz1.trans gr.fz
      have le2 : Le G G2 := le1.trans gr.le
      unfold M.bind at h4
      revert h4
      cases B e2 with
      | no => exact fun h => h
      | er x e' => exact fun h => h
      | ok c e3 =>
        cases c with
        | nx => exact fun h σ3 G3 H3 t => ⟨hlt, G3, e3, t.sr, le2.trans t.le, fz2.trans (t.fz st2.sr), PstS.shift t h⟩
        | ct => exact fun h σ3 G3 H3 t => ⟨hlt, G3, e3, t.sr, le2.trans t.le, fz2.trans (t.fz st2.sr), PstS.shift t h⟩
        | bk => exact fun h σ3 G3 H3 t => h σ3 G3 H3 t
        | rt r => exact fun h => h
  · have ei : i = ds.length := by omega
    subst ei
    rw [List.drop_length] at h1
    exact .inl ⟨it.stop G1 H1 le1 sr1.bs fz1, h1 σ1 G1 H1 (St.refl sr1)⟩
theorem vs_for {S : M (List D)} {F : D → M Unit} {is : List Nat} {B : M Ctl} {body : List Stmt} {pos : Pos} (hi : VI g W k X tg ex S) (hg : VG g X tg F is) (hb : VSs g W k X body B) (hs : ∀ x, foldedSetIterable ex X.env x = pure x := by intro _; rfl) : VS g W k X (.For tg ex body [] pos) (fFor S F B) := by
  refine ⟨fun c => ?_⟩
  obtain ⟨t, p, q⟩ := hg.pg k W c
  refine PS.imp (ps_for c.po c.calm (hi.run c) p (hb.run c) hs) fun D σ H ⟨G, e, sr, h⟩ => ⟨G, e, sr, Pst.mono (PstS.bindE h) fun ds G1 H1 e1 t1 h1 J it => for_ok hg q t1.sr it h1⟩
end
def whileL (C : M Bool) (body : M Ctl) : Nat → M Ctl
  | 0 => fun _ => .no
  | n + 1 => C.bind fun b => if b = true then body.bind fun c => (match c with
      | .nx => whileL C body n
      | .ct => whileL C body n
      | .bk => fNx
      | .rt v => M.ret (.rt v)) else fNx
section
variable {g : Gm} {W : WX} {k : Nat} {X : Cx}
end
end Vs

set_option maxRecDepth 100000
set_option maxHeartbeats 2000000
namespace Vs
open PySem PySem.Spec PyProof.Rows L2 Fw SX

def wipeV (e : Ve) : List Nat → Ve
  | [] => e
  | v :: vs => (wipeV e vs).set v .un
def okWipe (e : Ve) (vs : List Nat) : Bool := vs.all fun i => match e[i]? with
  | some .un => true
  | some (.sh _) => true
  | _ => false
def restV (e0 e : Ve) : List Nat → Ve
  | [] => e
  | v :: vs => match e0[v]? with
    | some s => (restV e0 e vs).set v s
    | none => restV e0 e vs
section
variable {e e0 : Ve} {σ : L2.St} {j : Nat}
theorem wipeV_len : ∀ vs : List Nat, (wipeV e vs).length = e.length
  | [] => rfl
  | v :: vs => by rw [wipeV, List.length_set, wipeV_len vs]
theorem wipeV_out : ∀ {vs : List Nat}, j ∉ vs → (wipeV e vs)[j]? = e[j]?
  | [], _ => rfl
  | v :: vs, h => by
    rw [wipeV, List.getElem?_set_ne (fun z => h (by rw [z]; exact List.mem_cons_self))]
    exact wipeV_out fun z => h (List.mem_cons_of_mem _ z)
theorem wipeV_in (hl : j < e.length) : ∀ {vs : List Nat}, j ∈ vs → (wipeV e vs)[j]? = some .un
  | v :: vs, h => by
    rw [wipeV, getElem?_set', wipeV_len]
    by_cases z : v = j
    · subst z; rw [if_pos ⟨rfl, hl⟩]
    · rw [if_neg (fun q => z q.1)]
      exact wipeV_in hl ((List.mem_cons.mp h).resolve_left fun q => z q.symm)
theorem wipe_in (hl : j < σ.length) : ∀ {vs : List Nat}, j ∈ vs → (wipe σ vs)[j]? = some none
  | v :: vs, h => by
    rw [wipe, getElem?_set', wipe_length]
    by_cases z : v = j
    · subst z; rw [if_pos ⟨rfl, hl⟩]
    · rw [if_neg (fun q => z q.1)]
      exact wipe_in hl ((List.mem_cons.mp h).resolve_left fun q => z q.symm)
theorem restV_len : ∀ vs : List Nat, (restV e0 e vs).length = e.length
  | [] => rfl
  | v :: vs => by
    rw [restV]
    split
    · rw [List.length_set, restV_len vs]
    · exact restV_len vs
theorem restV_out : ∀ {vs : List Nat}, j ∉ vs → (restV e0 e vs)[j]? = e[j]?
  | [], _ => rfl
  | v :: vs, h => by
    rw [restV]
    split
    · rw [List.getElem?_set_ne (fun z => h (by rw [z]; exact List.mem_cons_self))]
      exact restV_out fun z => h (List.mem_cons_of_mem _ z)
    · exact restV_out fun z => h (List.mem_cons_of_mem _ z)
theorem restV_in (hl : e.length = e0.length) : ∀ {vs : List Nat}, j ∈ vs → (restV e0 e vs)[j]? = e0[j]?
  | v :: vs, h => by
    rw [restV]
    split
    · rename_i s q
      by_cases z : v = j
      · subst z
        rw [getElem?_set', if_pos ⟨rfl, by rw [restV_len, hl]; exact lt_of_some q⟩, q]
      · rw [getElem?_set', if_neg (fun q => z q.1)]
        exact restV_in hl ((List.mem_cons.mp h).resolve_left fun q => z q.symm)
    · rename_i q
      by_cases hm : j ∈ vs
      · exact restV_in hl hm
      · have z : j = v := (List.mem_cons.mp h).resolve_right hm
        rw [restV_out hm, z, q, List.getElem?_eq_none_iff.mpr]
        rw [hl]
        exact List.getElem?_eq_none_iff.mp q
end
def W0 : WX := fun _ _ _ _ => False
def lcL (F : D → M Unit) (T : M Bool) (E : M Rv) (vs : List Nat) : List D → M (List D)
  | [] => M.ret []
  | d :: r => (F d).bind fun _ => T.bind fun b => if b = true then ((fFrz E).bind fun y => match y with
      | .val y => fun e => M.map (lcL F T E vs r) (y :: ·) (wipeV e vs)
      | _ => fun _ => .no) else fun e => lcL F T E vs r (wipeV e vs)
def fLc (S : M (List D)) (F : D → M Unit) (T : M Bool) (E : M Rv) (vs : List Nat) : M Rv := S.bind fun ds e => if okWipe e vs = true then (match lcL F T E vs ds (wipeV e vs) with
    | .ok ys e' => if ys.length ≤ sizeLine then .ok (.fresh (.lst ys)) (restV e e' vs) else .no
    | _ => .no) else .no
structure VTs (g : Gm) (W : WX) (k : Nat) (X : Cx) (ifs : List Expr) (T : M Bool) : Prop where
  run : Cd g W k X → PTs X ifs (TVT g W T)
section
variable {g : Gm} {W : WX} {k : Nat} {X : Cx}
theorem vts_nil : VTs g W k X [] (M.ret true) := ⟨fun _ => ⟨fun pins s σ H Q I ⟨G, e, sr, h⟩ => pts_nil.run pins s σ H Q I (h G H (Tr.refl sr))⟩⟩
theorem vts_one {c : Expr} {T : M Bool} (h : VT g W k X c T) : VTs g W k X [c] T := ⟨fun cd => pts_one (h.run cd)⟩
end
section
variable {g : Gm} {G H G1 H1 : Hp} {σ σ1 : L2.St} {e e1 : Ve} {p : Addr} {o : HO} {vs : List Nat}
theorem SR.put (sr : SR g G H σ e) (n : G p = none) (nr : ∀ i, ¬ Rt σ e i p) (hp : ∀ o, H p = some o → Pln o) : SR g G (upd H p o) σ e := by
  refine ⟨sr.bs.put n, tabs_put sr.tabs hp, sr.scr.keep fun o u h => by rw [upd_ne (fun z => by rw [z] at h; exact hp _ h)]; exact h, sr.len, fun i => ?_, sr.inj⟩
  have sl := sr.slot i
  cases q : e[i]? with
  | none => trivial
  | some s =>
    rw [q] at sl
    cases s with
    | un => trivial
    | sh d => exact sl
    | bf d => exact sl
    | lo d =>
      obtain ⟨p', ev', n', ow⟩ := sl
      obtain ⟨ob, u, ho, _⟩ := ow.there
      exact ⟨p', ev', n', ow.mono (Le.refl G) (upd_ne fun z => by rw [z] at ho; exact hp _ ho)⟩
    | ow d =>
      obtain ⟨p', ev', n', ow⟩ := sl
      exact ⟨p', ev', n', ow.mono (Le.refl G) (upd_ne fun z => nr i ⟨by rw [q]; trivial, by rw [ev', z]⟩)⟩
    | bo d =>
      obtain ⟨p', ev', n', ow⟩ := sl
      exact ⟨p', ev', n', ow.mono (Le.refl G) (upd_ne fun z => nr i ⟨by rw [q]; trivial, by rw [ev', z]⟩)⟩
theorem St.putNew (t : St g G H σ e G1 H1 σ1 e1) (h0 : H p = none) (n : G1 p = none) (nr : ∀ i, ¬ Rt σ1 e1 i p) (hp : ∀ o, H1 p = some o → Pln o) : St g G H σ e G1 (upd H1 p o) σ1 e1 :=
  ⟨t.sr.put n nr hp, t.ln, t.le, fun a u h m nt => by rw [upd_ne (ne_of_none h h0)]; exact t.keep a u h m nt, fun a h => by
    by_cases z : a = p
    · rw [z]; exact h0
    · rw [upd_ne z] at h; exact t.dom a h, t.new, t.rts, t.rto, t.bor, t.bof, t.nlo⟩
/-- the slots vs are forgotten -/
theorem St.wiped (t : St g G H σ e G1 H1 σ1 e1) (ok : ∀ i ∈ vs, (∀ d, e1[i]? ≠ some (.bo d)) ∧ ∀ s, fixS s = true → e1[i]? ≠ some s) : St g G H σ e G1 H1 (wipe σ1 vs) (wipeV e1 vs) := by
  have rt : ∀ i p, Rt (wipe σ1 vs) (wipeV e1 vs) i p → Rt σ1 e1 i p := fun i p r => by
    obtain ⟨r1, r2⟩ := r
    obtain ⟨h1, h2⟩ := wipe_some r2
    rw [wipeV_out h2] at r1
    exact ⟨r1, h1⟩
  refine ⟨⟨t.sr.bs, t.sr.tabs, t.sr.scr, by rw [wipeV_len, wipe_length]; exact t.sr.len, fun i => ?_, fun i j p a b => t.sr.inj i j p (rt i p a) (rt j p b)⟩, by rw [wipeV_len]; exact t.ln, t.le, t.keep, t.dom, t.new, fun i p r => t.rts i p (rt i p r), fun i d p h1 h2 => ?_, fun i d h => ?_, fun i s h fx => ?_, fun i d h => ?_⟩
  · by_cases hi : i ∈ vs
    · by_cases hl : i < e1.length
      · rw [wipeV_in hl hi]; trivial
      · rw [List.getElem?_eq_none (by rw [wipeV_len]; omega)]; trivial
    · rw [wipeV_out hi, wipe_out hi]; exact t.sr.slot i
  · obtain ⟨h3, h4⟩ := wipe_some h2
    rw [wipeV_out h4] at h1
    exact t.rto i d p h1 h3
  · obtain ⟨x, d', y⟩ := t.bor i d h
    have hi : i ∉ vs := fun z => by
      rcases y with y | y
      · exact (ok i z).1 d' y
      · exact (ok i z).2 _ rfl y
    rw [wipeV_out hi, wipe_out hi]
    exact ⟨x, d', y⟩
  · obtain ⟨x, y⟩ := t.bof i s h fx
    have hi : i ∉ vs := fun z => (ok i z).2 s fx y
    rw [wipeV_out hi, wipe_out hi]
    exact ⟨x, y⟩
  · by_cases hi : i ∈ vs
    · have hl : i < e1.length := by rw [← wipeV_len (e := e1) vs]; exact lt_of_some h
      rw [wipeV_in hl hi] at h; cases h
    · rw [wipeV_out hi] at h; exact t.nlo i d h
theorem VeOff.wipe : VeOff vs e (wipeV e vs) := ⟨wipeV_len vs, fun j s n h => ⟨s, by rw [wipeV_out n]; exact h, SlLe.refl s⟩⟩
theorem wipe_ext {σ2 : L2.St} (hl : σ2.length = σ.length) (h : ∀ j, j ∉ vs → σ2[j]? = σ[j]?) : wipe σ2 vs = wipe σ vs := by
  apply List.ext_getElem?
  intro j
  by_cases hj : j ∈ vs
  · by_cases hlt : j < σ.length
    · rw [wipe_in (by rw [hl]; exact hlt) hj, wipe_in hlt hj]
    · rw [List.getElem?_eq_none (by rw [wipe_length]; omega), List.getElem?_eq_none (by rw [wipe_length]; omega)]
  · rw [wipe_out hj, wipe_out hj, h j hj]
theorem wipe_wipe : wipe (wipe σ vs) vs = wipe σ vs := wipe_ext (wipe_length σ vs) fun j hj => wipe_out hj
end
theorem Reps.append {g : Gm} {G : Hp} : ∀ {ds ds' : List D} {vs vs' : List V}, Reps g G ds vs → Reps g G ds' vs' → Reps g G (ds ++ ds') (vs ++ vs')
  | [], _, _, _, h, q => by rw [show _ = [] from h]; exact q
  | d :: ds, _, _, _, ⟨v, r, e, a, b⟩, q => ⟨v, r ++ _, by rw [e]; rfl, a, Reps.append b q⟩
section
variable {g : Gm} {W : WX} {k : Nat} {X : Cx}
theorem Pst.pure {α : Type} {g : Gm} {W : WX} {σ : L2.St} {G H : Hp} {e : Ve} {R : α → Hp → Hp → Ve → Prop} {a : α} {e' : Ve} {r : Res α} (h : Pst g W σ G H e R r) (q : r = .ok a e') : ∀ G' H', Tr g σ G H e G' H' e' → R a G' H' e' := by
  subst q; exact h
theorem lc_ok {F : D → M Unit} {is vs : List Nat} {T : M Bool} {E : M Rv} {ds : List D} {σ : L2.St} {G H : Hp} {e : Ve} {J : It} {t : TG} {ys : List D} {eF : Ve} {Q : Hp → Prop} {Da : Addr}
    (his : ∀ i ∈ is, i ∈ vs) (hF : ∀ d e e' j, F d e = .ok () e' → j ∉ is → e'[j]? = e[j]?) (hO : ∀ d e e' j, F d e = .ok () e' → j ∈ is → ∃ d', e'[j]? = some (.sh d')) (hL : ∀ d e e', F d e = .ok () e' → e'.length = e.length)
    (q : ∀ (G H G0 H0 : Hp) (σ σ0 : L2.St) (e e0 e' : Ve) (d : Vs.D) (v : V) (Q : L2.St → Hp → Prop), St g G0 H0 σ0 e0 G H σ e → Rep g G d v → F d e = .ok () e' → (∀ σ', St g G0 H0 σ0 e0 G H σ' e' → (∀ j, j ∉ is → σ'[j]? = σ[j]?) → Q σ' H) → t v σ H Q)
    (sr : SR g G H σ e) (it : ItOk g G H J ds) (ok : okWipe e vs = true) (h : lcL F T E vs ds (wipeV e vs) = .ok ys eF) (hz : ys.length ≤ sizeLine) (hD : H Da = none)
    (fin : ∀ G' H', Tr g σ G H e G' H' (restV e eF vs) → (∃ acc, H' Da = some (.lst acc) ∧ Reps g G' ys acc) → G' Da = none → (∀ i, ¬ Rt σ (restV e eF vs) i Da) → Q H') :
    ∃ W' : Nat → Nat → Hp → Prop, (∃ m, W' 0 m (upd H Da (.lst []))) ∧ ∀ i m H, W' i m H → (J.stop i H ∧ Q H) ∨ (J.go i H ∧ ∃ Nx : Hp → Prop, (∀ H', Nx H' → ∃ m', m' < m ∧ W' (i + 1) m' H') ∧
      ∀ x H', J.yld i H x H' → t x (wipe σ vs) H' fun σ2 H2 => wipe σ2 vs = wipe σ vs ∧ TVT g W0 T σ2 H2 fun b H3 => if b = true then TV g W0 (fFrz E) σ2 H3 fun y H4 => ∃ acc, H4 Da = some (.lst acc) ∧ acc.length < sizeLine ∧ Nx (upd H4 Da (.lst (acc ++ [y]))) else Nx H3) := by
  have okb : ∀ i ∈ vs, (e[i]? = some .un) ∨ ∃ d, e[i]? = some (.sh d) := fun i hi => by
    have h1 := List.all_eq_true.mp ok i hi
    revert h1
    cases e[i]? with
    | none => exact fun z => nomatch z
    | some s =>
      cases s with
      | un => exact fun _ => .inl rfl
      | sh d => exact fun _ => .inr ⟨d, rfl⟩
      | ow d => exact fun z => nomatch z
      | bo d => exact fun z => nomatch z
      | bf d => exact fun z => nomatch z
      | lo d => exact fun z => nomatch z
  have st0 : St g G H σ e G H (wipe σ vs) (wipeV e vs) := St.wiped (St.refl sr) fun i hi => by
    rcases okb i hi with z | ⟨d', z⟩ <;> rw [z] <;> exact ⟨(fun d y => nomatch y), (fun s fx y => by cases y; cases fx)⟩
  have nrt0 : ∀ {G' H' : Hp} {e' : Ve}, St g G H σ e G' H' (wipe σ vs) e' → VeOff vs (wipeV e vs) e' → (∀ j ∈ vs, j < e.length → e'[j]? = some .un) → ∀ i p, Rt (wipe σ vs) e' i p → Rt σ e i p := fun {G' H' e'} st vo un i p r => by
    obtain ⟨r1, r2⟩ := r
    obtain ⟨h1, h2⟩ := wipe_some r2
    refine ⟨?_, h1⟩
    have hlt : i < e.length := by rw [sr.len]; exact lt_of_some h1
    obtain ⟨s, hs⟩ : ∃ s, e[i]? = some s := ⟨e[i], List.getElem?_eq_getElem hlt⟩
    obtain ⟨s', hs', l⟩ := vo.2 i s h2 (by rw [wipeV_out h2]; exact hs)
    rw [hs'] at r1
    rw [hs]
    exact isOw_back l r1
  let Inv := fun (i : Nat) (H' : Hp) => ∃ G' e' acc ys1 zs, St g G H σ e G' H' (wipe σ vs) e' ∧ VeOff vs (wipeV e vs) e' ∧ (∀ j ∈ vs, j < e.length → e'[j]? = some .un) ∧ H' Da = some (.lst acc) ∧ G' Da = none ∧ Reps g G' ys1 acc ∧ Fz H H' ∧ lcL F T E vs (ds.drop i) e' = .ok zs eF ∧ ys = ys1 ++ zs
  have nda : ∀ {G' H' : Hp} {e' : Ve}, St g G H σ e G' H' (wipe σ vs) e' → VeOff vs (wipeV e vs) e' → (∀ j ∈ vs, j < e.length → e'[j]? = some .un) → ∀ i, ¬ Rt (wipe σ vs) e' i Da := fun st vo un i r => (sr.root (nrt0 st vo un i Da r)).2 hD
  refine ⟨fun i m H' => m = ds.length - i ∧ i ≤ ds.length ∧ Inv i H', ⟨_, rfl, Nat.zero_le _, G, wipeV e vs, [], [], ys, ?_, ⟨rfl, fun j s _ h => ⟨s, h, SlLe.refl s⟩⟩, fun j hj hl => wipeV_in hl hj, upd_same, sr.bs.hn hD, rfl, fun a o u h => by rw [upd_ne (ne_of_none h hD)]; exact h, h, rfl⟩, ?_⟩
  · refine st0.putNew hD (sr.bs.hn hD) (fun i r => ?_) ?_
    · skip
      have vo : VeOff vs (wipeV e vs) (wipeV e vs) := ⟨rfl, fun j s _ h => ⟨s, h, SlLe.refl s⟩⟩
      exact nda st0 vo (fun j hj hl => wipeV_in hl hj) i r
    · intro o z; rw [hD] at z; cases z
  rintro i m H1 ⟨rfl, hi, G1, e1, acc, ys1, zs, st1, vo1, un1, hD1, nD1, rp1, fz1, hl1, ey⟩
  have le1 := st1.le
  by_cases hlt : i < ds.length
  · refine .inr ⟨it.go i G1 H1 le1 st1.sr.bs fz1 hlt, fun H' => i + 1 ≤ ds.length ∧ Inv (i + 1) H', fun H' hN => ⟨ds.length - (i + 1), by omega, rfl, hN⟩, fun x H2 y => ?_⟩
    obtain ⟨d, G2, ed, gr, rd⟩ := it.yld i G1 H1 x H2 le1 st1.sr.bs fz1 hlt y
    have st2 := st1.trans (gr.tr st1.sr).st
    have ed' : ds.drop i = d :: ds.drop (i + 1) := by
      rw [List.drop_eq_getElem_cons hlt]
      rw [List.getElem?_eq_getElem hlt] at ed
      rw [Option.some.inj ed]
    have fz2 : Fz H H2 := fz1.trans gr.fz
    have hD2 : H2 Da = some (.lst acc) := gr.keep _ _ hD1
    have nD2 : G2 Da = none := gr.new _ nD1 (by rw [hD1]; exact fun z => nomatch z)
    have rp2 := rp1.mono gr.le
    rw [ed'] at hl1
    simp only [lcL] at hl1
    cases qf : F d e1 with
    | no => simp only [M.bind, qf] at hl1; cases hl1
    | er x e' => simp only [M.bind, qf] at hl1; cases hl1
    | ok u e2 =>
      refine q G2 H2 G H (wipe σ vs) σ e1 e e2 d x _ st2 rd qf fun σ2 st3 off3 => ?_
      have len2 : e2.length = e1.length := hL d e1 e2 qf
      have hle1 : e1.length = e.length := by rw [vo1.1, wipeV_len]
      have lenσ : σ2.length = (wipe σ vs).length := by rw [← st3.sr.len, len2, hle1, sr.len, wipe_length]
      have ew : wipe σ2 vs = wipe σ vs := by
        rw [wipe_ext lenσ fun j hj => off3 j fun z => hj (his j z), wipe_wipe]
      refine ⟨ew, ?_⟩
      have vo2 : VeOff vs (wipeV e vs) e2 := vo1.trans ⟨len2, fun j s n h => ⟨s, by rw [hF d e1 e2 j qf fun z => n (his j z)]; exact h, SlLe.refl s⟩⟩
      have un2 : ∀ j ∈ vs, ∀ s, e2[j]? = some s → s = .un ∨ ∃ d, s = .sh d := fun j hj s h => by
        by_cases hm : j ∈ is
        · obtain ⟨d', h'⟩ := hO d e1 e2 j qf hm
          rw [h'] at h; cases h; exact .inr ⟨d', rfl⟩
        · rw [hF d e1 e2 j qf hm] at h
          have : j < e.length := by rw [← hle1]; exact lt_of_some h
          rw [un1 j hj this] at h; cases h; exact .inl rfl
      have nr2 : ∀ i, ¬ Rt σ2 e2 i Da := fun i r => by
        rcases st3.rts i Da r with ⟨j, r'⟩ | r'
        · exact (sr.root r').2 hD
        · by_cases hm : i ∈ vs
          · obtain ⟨r1, _⟩ := r
            cases qq : e2[i]? with
            | none => rw [qq] at r1; exact r1
            | some s =>
              rw [qq] at r1
              rcases un2 i hm s qq with rfl | ⟨d', rfl⟩ <;> exact r1
          · obtain ⟨r1, r2⟩ := r
            rw [off3 i fun z => hm (his i z)] at r2
            rw [hF d e1 e2 i qf fun z => hm (his i z)] at r1
            exact nda st1 vo1 un1 i ⟨r1, r2⟩
      have hl2 : M.bind T (fun b => if b = true then ((fFrz E).bind fun y => match y with
          | .val y => fun e => M.map (lcL F T E vs (ds.drop (i + 1))) (y :: ·) (wipeV e vs)
          | _ => fun _ => .no) else fun e => lcL F T E vs (ds.drop (i + 1)) (wipeV e vs)) e2 = .ok zs eF := by
        have := hl1
        unfold M.bind at this
        rw [qf] at this
        exact this
      -- behind a turn
      have turn : ∀ {G4 H4 : Hp} {e4 : Ve} {acc' : List V} {ys' zs' : List D}, Tr g σ2 G2 H2 e2 G4 H4 e4 → H4 Da = some (.lst acc) → Reps g G4 ys' acc' → lcL F T E vs (ds.drop (i + 1)) (wipeV e4 vs) = .ok zs' eF → ys = ys' ++ zs' →
          i + 1 ≤ ds.length ∧ Inv (i + 1) (upd H4 Da (.lst acc')) := fun {G4 H4 e4 acc' ys' zs'} t4 hD4 rp4 hl4 ey4 => by
        have nD4 : G4 Da = none := t4.new _ nD2 (by rw [hD2]; exact fun z => nomatch z) nr2
        have un4 : ∀ j ∈ vs, ∀ s, e4[j]? = some s → s = .un ∨ ∃ d, s = .sh d := fun j hj s h => by
          have hl : j < e2.length := by rw [← t4.ve.len]; exact lt_of_some h
          obtain ⟨s', h', l⟩ := t4.ve.at_ j e2[j] (List.getElem?_eq_getElem hl)
          rw [h] at h'; cases h'
          rcases un2 j hj _ (List.getElem?_eq_getElem hl) with z | ⟨d', z⟩
          · rw [z] at l; exact .inl l
          · rw [z] at l; exact .inr ⟨d', l⟩
        have st4 := st3.trans t4.st
        have st5 : St g G H σ e G4 H4 (wipe σ2 vs) (wipeV e4 vs) := st4.wiped fun j hj => ⟨(fun d' z => by
          rcases un4 j hj _ z with y | ⟨_, y⟩ <;> cases y), (fun s fx z => by
          rcases un4 j hj _ z with y | ⟨_, y⟩ <;> rw [y] at fx <;> cases fx)⟩
        rw [ew] at st5
        have vo4 : VeOff vs (wipeV e vs) (wipeV e4 vs) := (vo2.trans t4.ve.off).trans VeOff.wipe
        have hle4 : e4.length = e.length := by rw [t4.ve.len, len2, hle1]
        have un5 : ∀ j ∈ vs, j < e.length → (wipeV e4 vs)[j]? = some .un := fun j hj hl => wipeV_in (by rw [hle4]; exact hl) hj
        have nr5 := nda st5 vo4 un5
        refine ⟨hlt, G4, wipeV e4 vs, acc', ys', zs', st5.putNew hD nD4 nr5 (fun o z => by rw [hD4] at z; cases z; trivial), vo4, un5, upd_same, nD4, rp4, fun a o u h => ?_, hl4, ey4⟩
        rw [upd_ne (ne_of_none h hD)]
        exact st4.fz sr a o u h
      have sr3 := st3.sr
      refine ⟨G2, e2, sr3, ?_⟩
      cases qt : T e2 with
      | no => simp only [M.bind, qt] at hl2; cases hl2
      | er x e' => simp only [M.bind, qt] at hl2; cases hl2
      | ok b e3 =>
        intro G3 H3 t3
        simp only [M.bind, qt] at hl2
        have hD3 : H3 Da = some (.lst acc) := t3.keep _ _ hD2 nr2 (fun ps z => nomatch z)
        cases b with
        | false =>
          simp only [Bool.false_eq_true, if_false] at hl2 ⊢
          have hh := turn t3 hD3 (rp2.mono t3.le) hl2 ey
          have e0 : upd H3 Da (.lst acc) = H3 := by
            funext a
            by_cases z : a = Da
            · rw [z, upd_same, hD3]
            · rw [upd_ne z]
          rw [e0] at hh
          exact hh
        | true =>
          rw [if_pos rfl] at hl2 ⊢
          refine ⟨G3, e3, t3.sr, ?_⟩
          unfold M.bind at hl2
          cases qe : fFrz E e3 with
          | no => rw [qe] at hl2; cases hl2
          | er x e' => rw [qe] at hl2; cases hl2
          | ok r e4 =>
            intro G4 H4 t4 v rv
            rw [qe] at hl2
            cases r with
            | slot i => cases hl2
            | fresh d => cases hl2
            | val yd =>
              have t34 := t3.trans t4
              have hD4 : H4 Da = some (.lst acc) := t34.keep _ _ hD2 nr2 (fun ps z => nomatch z)
              have hl2 : M.map (lcL F T E vs (ds.drop (i + 1))) (yd :: ·) (wipeV e4 vs) = .ok zs eF := hl2
              unfold M.map M.bind M.ret at hl2
              cases ql : lcL F T E vs (ds.drop (i + 1)) (wipeV e4 vs) with
              | no => rw [ql] at hl2; cases hl2
              | er x e' => rw [ql] at hl2; cases hl2
              | ok zs' eF' =>
                rw [ql] at hl2
                cases hl2
                refine ⟨acc, hD4, ?_, turn t34 hD4 (ys' := ys1 ++ [yd]) (acc' := acc ++ [v]) ((rp2.mono t34.le).append ⟨v, [], rfl, rv, rfl⟩) ql (by rw [ey]; simp)⟩
                have h1 := (rp1).len
                have h2 : ys.length = ys1.length + (zs'.length + 1) := by rw [ey]; simp
                omega
  · have ei : i = ds.length := by omega
    subst ei
    rw [List.drop_length] at hl1
    obtain ⟨rfl, rfl⟩ : zs = [] ∧ e1 = eF := by
      cases hl1; exact ⟨rfl, rfl⟩
    refine .inl ⟨it.stop G1 H1 le1 st1.sr.bs fz1, ?_⟩
    rw [List.append_nil] at ey
    subst ey
    have hle1 : e1.length = e.length := by rw [vo1.1, wipeV_len]
    have rtr : ∀ i p, Rt σ (restV e e1 vs) i p → Rt (wipe σ vs) e1 i p ∧ Rt σ e i p := fun i p r => by
      obtain ⟨r1, r2⟩ := r
      by_cases hm : i ∈ vs
      · rw [restV_in hle1 hm] at r1
        rcases okb i hm with z | ⟨d, z⟩ <;> rw [z] at r1 <;> exact r1.elim
      · rw [restV_out hm] at r1
        have a : Rt (wipe σ vs) e1 i p := ⟨r1, by rw [wipe_out hm]; exact r2⟩
        exact ⟨a, nrt0 st1 vo1 un1 i p a⟩
    have rte : ∀ i p, Rt σ e i p → i ∉ vs := fun i p r hm => by
      obtain ⟨r1, _⟩ := r
      rcases okb i hm with z | ⟨d, z⟩ <;> rw [z] at r1 <;> exact r1
    refine fin G1 H1 ⟨⟨st1.sr.bs, st1.sr.tabs, st1.sr.scr, by rw [restV_len, hle1]; exact sr.len, fun i => ?_, fun i j p a b => st1.sr.inj i j p (rtr i p a).1 (rtr j p b).1⟩, st1.le, st1.keep, st1.dom, st1.new, ⟨by rw [restV_len, hle1], fun i s hs => ?_⟩⟩ ⟨acc, hD1, rp1⟩ nD1 fun i r => nda st1 vo1 un1 i (rtr i Da r).1
    · by_cases hm : i ∈ vs
      · rw [restV_in hle1 hm]
        have sl := sr.slot i
        rcases okb i hm with z | ⟨d, z⟩
        · rw [z]; trivial
        · rw [z] at sl ⊢
          obtain ⟨v, ev, r⟩ := sl
          exact ⟨v, ev, r.mono st1.le⟩
      · rw [restV_out hm]
        have sl := st1.sr.slot i
        rw [wipe_out hm] at sl
        exact sl
    · by_cases hm : i ∈ vs
      · exact ⟨s, by rw [restV_in hle1 hm]; exact hs, SlLe.refl s⟩
      · obtain ⟨s', h', l⟩ := vo1.2 i s hm (by rw [wipeV_out hm]; exact hs)
        exact ⟨s', by rw [restV_out hm]; exact h', l⟩
end
section
variable {g : Gm} {W : WX} {k : Nat} {X : Cx} {elt tg iter : Expr} {ifs : List Expr} {scope : Scope} {own : List (Str × Nat)} {pos : Pos} {S : M (List D)} {F : D → M Unit} {is : List Nat} {T : M Bool} {E : M Rv}
theorem Cd.blk (c : Cd g W k X) (s : Shared) (H : Hp) (scope : Scope) (cenv : PySem.Env) (fp : List Addr) : Cd g W0 k (X.blk s H scope cenv fp) :=
  ⟨c.K, c.w, c.calm, takes0, c.room, PassesOwn.never, c.nd⟩
theorem tv_lc {t : TG} {σ : L2.St} {H : Hp} {Q : VK} (his : ∀ i ∈ is, i ∈ own.map (·.2)) (hg : ∃ X', VG g X' tg F is)
    (q : ∀ (G H G0 H0 : Hp) (σ σ0 : L2.St) (e e0 e' : Ve) (d : Vs.D) (v : V) (Q : L2.St → Hp → Prop), St g G0 H0 σ0 e0 G H σ e → Rep g G d v → F d e = .ok () e' → (∀ σ', St g G0 H0 σ0 e0 G H σ' e' → (∀ j, j ∉ is → σ'[j]? = σ[j]?) → Q σ' H) → t v σ H Q)
    (h : TV g W (fLc S F T E (own.map (·.2))) σ H Q) : tLc (TVI g W S) t (TVT g W0 T) (TV g W0 (fFrz E)) (own.map (·.2)) σ H Q := by
  obtain ⟨X', hg⟩ := hg
  obtain ⟨G, e, sr, h⟩ := h
  refine ⟨G, e, sr, Pst.mono (Pst.bind h) fun ds G1 H1 e1 t1 h1 J it Da nD => ?_⟩
  by_cases ok : okWipe e1 (own.map (·.2)) = true
  · rw [if_pos ok] at h1
    cases ql : lcL F T E (own.map (·.2)) ds (wipeV e1 (own.map (·.2))) with
    | no => rw [ql] at h1; exact h1.elim
    | er x e' => rw [ql] at h1; exact h1.elim
    | ok ys eF =>
      rw [ql] at h1
      simp only at h1
      by_cases hz : ys.length ≤ sizeLine
      · rw [if_pos hz] at h1
        exact lc_ok his hg.off hg.oth hg.len q t1.sr it ok ql hz nD fun G' H' t2 ⟨acc, ha, rp⟩ n nr => h1 G' H' t2 (.ref Da) ⟨Da, rfl, n, ⟨acc, ha, rp⟩, t1.dom Da nD, nr⟩
      · rw [if_neg hz] at h1; exact h1.elim
  · rw [if_neg ok] at h1; exact h1.elim
theorem ve_lc (hi : VI g W k X tg iter S) (ok : BlkOk X.N X.env.scope scope own) (his : ∀ i ∈ is, i ∈ own.map (·.2))
    (hg : ∀ (s : Shared) (H : Hp) (C : Addr) (cl : List (Str × Addr)) (fp : List Addr), VG g (X.blk s H scope (compEnvC scope cl C X.env) fp) tg F is)
    (ht : ∀ (s : Shared) (H : Hp) (C : Addr) (cl : List (Str × Addr)) (fp : List Addr), VTs g W0 k (X.blk s H scope (compEnvC scope cl C X.env) fp) ifs T)
    (he : ∀ (s : Shared) (H : Hp) (C : Addr) (cl : List (Str × Addr)) (fp : List Addr), VE g W0 k (X.blk s H scope (compEnvC scope cl C X.env) fp) elt E) (hs : ∀ x, foldedSetIterable iter X.env x = pure x := by intro _; rfl) :
    VE g W k X (.ListComp elt [⟨tg, iter, ifs, 0⟩] scope pos) (fLc S F T E (own.map (·.2))) := by
  refine ⟨fun c => ?_⟩
  have one : ∃ t : TG, (∀ (s : Shared) (H : Hp) (C : Addr) (cl : List (Str × Addr)) (fp : List Addr), PG (X.blk s H scope (compEnvC scope cl C X.env) fp) tg t) ∧
      ∀ (G H G0 H0 : Hp) (σ σ0 : L2.St) (e e0 e' : Ve) (d : Vs.D) (v : V) (Q : L2.St → Hp → Prop), St g G0 H0 σ0 e0 G H σ e → Rep g G d v → F d e = .ok () e' → (∀ σ', St g G0 H0 σ0 e0 G H σ' e' → (∀ j, j ∉ is → σ'[j]? = σ[j]?) → Q σ' H) → t v σ H Q := by
    refine ⟨fun v σ H Q => ∃ G G0 H0 σ0 e e0 e' d, St g G0 H0 σ0 e0 G H σ e ∧ Rep g G d v ∧ F d e = .ok () e' ∧ ∀ σ', St g G0 H0 σ0 e0 G H σ' e' → (∀ j, j ∉ is → σ'[j]? = σ[j]?) → Q σ' H, fun s H C cl fp => ?_, fun G H G0 H0 σ σ0 e e0 e' d v Q a b c q => ⟨G, G0, H0, σ0, e, e0, e', d, a, b, c, q⟩⟩
    obtain ⟨t, p, q⟩ := (hg s H C cl fp).pg k W0 (c.blk s H scope _ fp)
    exact ⟨fun pins s σ H v u Q I r ⟨G, G0, H0, σ0, e, e0, e', d, a, b, c, q'⟩ => p.run pins s σ H v u Q I r (q G H G0 H0 σ σ0 e e0 e' d v Q a b c q')⟩
  obtain ⟨t, p, q⟩ := one
  have pe := pe_lc (pos := pos) c.calm c.nd (hi.run c) ok p (fun s H C cl fp => (ht s H C cl fp).run (c.blk s H scope _ fp)) (fun s H C cl fp => (ve_frz (he s H C cl fp)).run (c.blk s H scope _ fp)) hs
  exact ⟨fun pins s σ H Q I h => pe.run pins s σ H Q I (tv_lc his ⟨_, hg s H 0 [] []⟩ q h)⟩
theorem vs_setLc {i : Nat} {y : Str} {py spos : Pos} (hy : X.N[i]? = some y) (hyl : X.env.scope.names.lookup y = some .local) (hsw : swapsWith (.ListComp elt [⟨tg, iter, ifs, 0⟩] scope pos) (some (.Name y py)) spos.line X.env = pure true)
    (hi : VI g W k X tg iter S) (ok : BlkOk X.N X.env.scope scope own) (his : ∀ i ∈ is, i ∈ own.map (·.2))
    (hg : ∀ (s : Shared) (H : Hp) (C : Addr) (cl : List (Str × Addr)) (fp : List Addr), VG g (X.blk s H scope (compEnvC scope cl C X.env) fp) tg F is)
    (ht : ∀ (s : Shared) (H : Hp) (C : Addr) (cl : List (Str × Addr)) (fp : List Addr), VTs g W0 k (X.blk s H scope (compEnvC scope cl C X.env) fp) ifs T)
    (he : ∀ (s : Shared) (H : Hp) (C : Addr) (cl : List (Str × Addr)) (fp : List Addr), VE g W0 k (X.blk s H scope (compEnvC scope cl C X.env) fp) elt E) (hs : ∀ x, foldedSetIterable iter X.env x = pure x := by intro _; rfl) :
    VS g W k X (.Assign [.Name y py] (.ListComp elt [⟨tg, iter, ifs, 0⟩] scope pos) spos) (fSet i (fLc S F T E (own.map (·.2)))) := by
  refine ⟨fun c => ?_⟩
  have one : ∃ t : TG, (∀ (s : Shared) (H : Hp) (C : Addr) (cl : List (Str × Addr)) (fp : List Addr), PG (X.blk s H scope (compEnvC scope cl C X.env) fp) tg t) ∧
      ∀ (G H G0 H0 : Hp) (σ σ0 : L2.St) (e e0 e' : Ve) (d : Vs.D) (v : V) (Q : L2.St → Hp → Prop), St g G0 H0 σ0 e0 G H σ e → Rep g G d v → F d e = .ok () e' → (∀ σ', St g G0 H0 σ0 e0 G H σ' e' → (∀ j, j ∉ is → σ'[j]? = σ[j]?) → Q σ' H) → t v σ H Q := by
    refine ⟨fun v σ H Q => ∃ G G0 H0 σ0 e e0 e' d, St g G0 H0 σ0 e0 G H σ e ∧ Rep g G d v ∧ F d e = .ok () e' ∧ ∀ σ', St g G0 H0 σ0 e0 G H σ' e' → (∀ j, j ∉ is → σ'[j]? = σ[j]?) → Q σ' H, fun s H C cl fp => ?_, fun G H G0 H0 σ σ0 e e0 e' d v Q a b c q => ⟨G, G0, H0, σ0, e, e0, e', d, a, b, c, q⟩⟩
    obtain ⟨t, p, q⟩ := (hg s H C cl fp).pg k W0 (c.blk s H scope _ fp)
    exact ⟨fun pins s σ H v u Q I r ⟨G, G0, H0, σ0, e, e0, e', d, a, b, c, q'⟩ => p.run pins s σ H v u Q I r (q G H G0 H0 σ σ0 e e0 e' d v Q a b c q')⟩
  obtain ⟨t, p, q⟩ := one
  have ps := ps_setLc c.calm c.nd hy hyl hsw (hi.run c) ok p (fun s H C cl fp => (ht s H C cl fp).run (c.blk s H scope _ fp)) (fun s H C cl fp => (ve_frz (he s H C cl fp)).run (c.blk s H scope _ fp)) hs
  exact ⟨fun pins s σ H D I h => ps.run pins s σ H D I (tv_lc his ⟨_, hg s H 0 [] []⟩ q (tv_set h))⟩
end
end Vs

set_option maxRecDepth 100000
set_option maxHeartbeats 2000000
namespace Vs
open PySem PySem.Spec PyProof.Rows L2 Fw SX

def retRv (r : Rv) : M Rv := match r with
  | .val d => M.ret (.val d)
  | .fresh d => M.ret (.fresh d)
  | .slot i => fun e => match e[i]? with
    | some (.ow d) => .ok (.fresh d) e
    | _ => M.map (frzRv (.slot i)) Rv.val e
/-- what becomes of the arguments: those that were lent are told -/
def backV : List Sl → Ve → List Sl
  | .bo _ :: as, s :: r => s :: backV as r
  | a :: as, _ :: r => a :: backV as r
  | as, [] => as
  | [], _ => []
def okArg : Sl → Bool
  | .sh _ => true
  | .bo _ => true
  | _ => false
/-- a def of n names of which the first np are parameters -/
def fnF (np n : Nat) (body : M Ctl) (args : List Sl) : Res Rv := if args.length = np then (match body (args ++ List.replicate (n - args.length) .un) with
  | .ok .nx e' => .ok (.val .non) (backV args e')
  | .ok (.rt r) e' => (match retRv r e' with
    | .ok r' e2 => .ok r' (backV args e2)
    | _ => .no)
  | .er x e' => .er x (backV args e')
  | _ => .no) else .no
def WR (E : XK) : WX := fun cls d _ H => E cls d H
def spV (g : Gm) (n : Nat) (F : List Sl → Res Rv) : Sp := fun vs H Q E => vs.length = n ∧ ∃ G args, args.all okArg = true ∧ SR g G H (vs.map some) args ∧
  Pst g (WR E) (vs.map some) G H args (fun r G' H' e' => ∀ v, RvNew g G' H' H r v → Q v H') (F args)
section
variable {g : Gm} {G H G1 H1 : Hp} {e1 : Ve} {vs : List V} {as : List Sl} {N : List Str}
theorem backV_len : ∀ {as : List Sl} {e : Ve}, (backV as e).length = as.length
  | [], [] => rfl
  | [], _ :: _ => rfl
  | a :: as, [] => by cases a <;> rfl
  | a :: as, s :: r => by
    cases a <;> simp [backV, backV_len]
theorem backV_at : ∀ {as : List Sl} {e : Ve} {i : Nat} {a : Sl}, as.length ≤ e.length → as[i]? = some a → (backV as e)[i]? = match a with
    | .bo _ => e[i]?
    | a => some a
  | [], _, _, _, _, h => by simp at h
  | b :: as, [], i, a, hl, h => by simp at hl
  | b :: as, s :: r, 0, a, hl, h => by
    cases h
    cases b <;> rfl
  | b :: as, s :: r, i + 1, a, hl, h => by
    have ih := backV_at (as := as) (e := r) (i := i) (a := a) (by simpa using hl) (by simpa using h)
    cases b <;> simpa [backV] using ih
/-- at a def's entry -/
theorem sr_start (sr : SR g G H (vs.map some) as) : SR g G H (L2.start N vs) (as ++ List.replicate (N.length - as.length) .un) := by
  have hl : as.length = vs.length := by rw [sr.len, List.length_map]
  have off : ∀ i, ¬ i < as.length → ∀ s, (as ++ List.replicate (N.length - as.length) Sl.un)[i]? = some s → s = .un := fun i hi s h => by
    rw [List.getElem?_append_right (by omega)] at h
    exact List.eq_of_mem_replicate (List.mem_of_getElem? h)
  have on : ∀ i, i < as.length → (as ++ List.replicate (N.length - as.length) Sl.un)[i]? = as[i]? ∧ (L2.start N vs)[i]? = (vs.map some)[i]? := fun i hi => by
    refine ⟨List.getElem?_append_left hi, ?_⟩
    unfold L2.start
    exact List.getElem?_append_left (by rw [List.length_map]; omega)
  have rt : ∀ i p, Rt (L2.start N vs) (as ++ List.replicate (N.length - as.length) .un) i p → Rt (vs.map some) as i p := fun i p r => by
    obtain ⟨r1, r2⟩ := r
    by_cases hi : i < as.length
    · rw [(on i hi).1] at r1
      rw [(on i hi).2] at r2
      exact ⟨r1, r2⟩
    · exfalso
      cases q : (as ++ List.replicate (N.length - as.length) Sl.un)[i]? with
      | none => rw [q] at r1; exact r1
      | some s => rw [q, off i hi s q] at r1; exact r1
  refine ⟨sr.bs, sr.tabs, sr.scr, ?_, fun i => ?_, fun i j p a b => sr.inj i j p (rt i p a) (rt j p b)⟩
  · unfold L2.start
    simp [hl]
  · by_cases hi : i < as.length
    · rw [(on i hi).1, (on i hi).2]
      exact sr.slot i
    · cases q : (as ++ List.replicate (N.length - as.length) Sl.un)[i]? with
      | none => trivial
      | some s => rw [off i hi s q]; trivial
theorem rt_start' {i : Nat} {p : Addr} (hl : as.length = vs.length) (r : Rt (L2.start N vs) (as ++ List.replicate (N.length - as.length) .un) i p) : Rt (vs.map some) as i p := by
  obtain ⟨r1, r2⟩ := r
  by_cases hi : i < as.length
  · rw [List.getElem?_append_left hi] at r1
    unfold L2.start at r2
    rw [List.getElem?_append_left (by rw [List.length_map]; omega)] at r2
    exact ⟨r1, r2⟩
  · exfalso
    cases q : (as ++ List.replicate (N.length - as.length) Sl.un)[i]? with
    | none => rw [q] at r1; exact r1
    | some s =>
      rw [q] at r1
      rw [List.getElem?_append_right (by omega)] at q
      rw [List.eq_of_mem_replicate (List.mem_of_getElem? q)] at r1
      exact r1
/-- behind a def's body -/
theorem tr_end {σ1 : L2.St} (ok : as.all okArg = true) (sr : SR g G H (vs.map some) as) (t : St g G H (L2.start N vs) (as ++ List.replicate (N.length - as.length) .un) G1 H1 σ1 e1) : Tr g (vs.map some) G H as G1 H1 (backV as e1) := by
  have hl : as.length = vs.length := by rw [sr.len, List.length_map]
  have on : ∀ i a, as[i]? = some a → (as ++ List.replicate (N.length - as.length) Sl.un)[i]? = some a ∧ (L2.start N vs)[i]? = (vs.map some)[i]? := fun i a h => by
    have hi := lt_of_some h
    refine ⟨by rw [List.getElem?_append_left hi]; exact h, ?_⟩
    unfold L2.start
    exact List.getElem?_append_left (by rw [List.length_map]; omega)
  have okA : ∀ (i : Nat) a, as[i]? = some a → (∃ d, a = .sh d) ∨ ∃ d, a = .bo d := fun i a h => by
    have := List.all_eq_true.mp ok a (List.mem_of_getElem? h)
    cases a with
    | un => cases this
    | sh d => exact .inl ⟨d, rfl⟩
    | ow d => cases this
    | bo d => exact .inr ⟨d, rfl⟩
    | bf d => cases this
    | lo d => cases this
  have be : ∀ (i : Nat) a, as[i]? = some a → (∃ d, a = .sh d ∧ (backV as e1)[i]? = some (.sh d)) ∨ (∃ d, a = .bo d ∧ (backV as e1)[i]? = e1[i]? ∧ σ1[i]? = (vs.map some)[i]? ∧ ∃ d', e1[i]? = some (.bo d') ∨ e1[i]? = some (.bf d')) := fun i a h => by
    obtain ⟨o1, o2⟩ := on i a h
    have hle : as.length ≤ e1.length := by rw [t.ln]; simp
    have q := backV_at hle h
    rcases okA i a h with ⟨d, rfl⟩ | ⟨d, rfl⟩
    · exact .inl ⟨d, rfl, q⟩
    · obtain ⟨x, y⟩ := t.bor i d o1
      exact .inr ⟨d, rfl, q, x.trans o2, y⟩
  have rtb : ∀ i p, Rt (vs.map some) (backV as e1) i p → Rt σ1 e1 i p ∧ Rt (vs.map some) as i p := fun i p r => by
    obtain ⟨r1, r2⟩ := r
    cases q : as[i]? with
    | none =>
      exfalso
      have : (backV as e1)[i]? = none := by
        rw [List.getElem?_eq_none_iff] at q ⊢
        rw [backV_len]; exact q
      rw [this] at r1; exact r1
    | some a =>
      rcases be i a q with ⟨d, rfl, h1⟩ | ⟨d, rfl, h1, h2, _⟩
      · rw [h1] at r1; exact r1.elim
      · exact ⟨⟨by rw [← h1]; exact r1, by rw [h2]; exact r2⟩, ⟨by rw [q]; trivial, r2⟩⟩
  refine ⟨⟨t.sr.bs, t.sr.tabs, t.sr.scr, by rw [backV_len]; exact sr.len, fun i => ?_, fun i j p a b => t.sr.inj i j p (rtb i p a).1 (rtb j p b).1⟩, t.le, fun a o h n nt => t.keep a o h (fun i r => n i (rt_start' hl r)) nt, t.dom, fun a h1 h2 n => t.new a h1 h2 fun i r => n i (rt_start' hl r), ⟨backV_len, fun i s hs => ?_⟩⟩
  · cases q : as[i]? with
    | none =>
      have : (backV as e1)[i]? = none := by
        rw [List.getElem?_eq_none_iff] at q ⊢
        rw [backV_len]; exact q
      rw [this]; trivial
    | some a =>
      rcases be i a q with ⟨d, rfl, h1⟩ | ⟨d, rfl, h1, h2, _⟩
      · have sl := sr.slot i
        rw [q] at sl
        rw [h1]
        obtain ⟨v, ev, r⟩ := sl
        exact ⟨v, ev, r.mono t.le⟩
      · have sl := t.sr.slot i
        rw [h1, ← h2]
        exact sl
  · rcases be i s hs with ⟨d, rfl, h1⟩ | ⟨d, rfl, h1, h2, d', h3⟩
    · exact ⟨_, h1, SlLe.refl _⟩
    · rcases h3 with h3 | h3
      · exact ⟨_, h1.trans h3, d', .inl rfl⟩
      · exact ⟨_, h1.trans h3, d', .inr rfl⟩
/-- what a body returns -/
theorem ret_end {σ1 : L2.St} {r r' : Rv} {e2 : Ve} {v : V} (ok : as.all okArg = true) (sr : SR g G H (vs.map some) as) (t : St g G H (L2.start N vs) (as ++ List.replicate (N.length - as.length) .un) G1 H1 σ1 e1) (rv : RvOk g G1 H1 σ1 e1 H r v) (h : retRv r e1 = .ok r' e2) :
    ∃ G2, Tr g (vs.map some) G H as G2 H1 (backV as e2) ∧ RvNew g G2 H1 H r' v := by
  have hl : as.length = vs.length := by rw [sr.len, List.length_map]
  cases r with
  | val d => cases h; exact ⟨G1, tr_end ok sr t, rv⟩
  | fresh d =>
    cases h
    obtain ⟨p, ev, n, o, h0, _⟩ := rv
    exact ⟨G1, tr_end ok sr t, p, ev, n, o, h0⟩
  | slot i =>
    obtain ⟨ev, s, es, ns⟩ := id rv
    simp only [retRv] at h
    have gen : M.map (frzRv (.slot i)) Rv.val e1 = .ok r' e2 → ∃ G2, Tr g (vs.map some) G H as G2 H1 (backV as e2) ∧ RvNew g G2 H1 H r' v := fun h => by
      unfold M.map M.bind M.ret at h
      cases q : frzRv (.slot i) e1 with
      | no => rw [q] at h; cases h
      | er x e' => rw [q] at h; cases h
      | ok d e3 =>
        rw [q] at h
        cases h
        obtain ⟨G2, t2, rp⟩ := frz_ok (Tr.refl t.sr) (r := .slot i) (v := v) ⟨ev, s, es, ns⟩ q
        exact ⟨G2, tr_end ok sr (t.trans t2.st), rp⟩
    rw [es] at h
    cases s with
    | un => exact absurd rfl ns
    | sh d => exact gen h
    | bo d => exact gen h
    | bf d => exact gen h
    | lo d => exact gen h
    | ow d =>
      cases h
      have sl := t.sr.slot i
      rw [es] at sl
      obtain ⟨p, ep, n, o⟩ := sl
      rw [ep] at ev
      cases ev
      refine ⟨G1, tr_end ok sr t, p, rfl, n, o, ?_⟩
      rcases t.rto i d p es ep with ⟨j, d0, q1, q2⟩ | q
      · exfalso
        by_cases hj : j < as.length
        · rw [List.getElem?_append_left hj] at q1
          have := List.all_eq_true.mp ok _ (List.mem_of_getElem? q1)
          cases this
        · rw [List.getElem?_append_right (by omega)] at q1
          cases List.eq_of_mem_replicate (List.mem_of_getElem? q1)
      · exact q
end
/-- by positional values alone, whatever their number -/
def spR (g : Gm) (F : List Sl → Res Rv) : Sp := fun vs H Q E => ∃ G args, args.all okArg = true ∧ SR g G H (vs.map some) args ∧
  Pst g (WR E) (vs.map some) G H args (fun r G' H' e' => ∀ v, RvNew g G' H' H r v → Q v H') (F args)
/-- a def's promise where no repr is under way -/
structure FnG (P : Program) (w : World) (K : PySem.W.Frag) (mg : Str → Option Value) (base : Heap) (CXa : CXT) (k : Nat) (f : Addr) (fd : FuncData) (ps : List Str) (sp : Sp) : Prop where
  len : ∀ vs H Q E, sp vs H Q E → vs.length = ps.length
  run : ∀ (A : Around) (outer : List PySem.Env) (s : Shared) (H : Hp) (args : Args) (us : List Value) (vs : List V) (Q : VK) (E : XK), Rm k A → Env0 P w K mg base A outer s H → BindsTo s fd args (ps.zip us) → Vals vs us → sp vs H Q E →
    codeAny (model P w) A (.call (.ref f) args) (CR CXa outer P w H s Q E) s
theorem FnG.raw {P : Program} {w : World} {K : PySem.W.Frag} {mg : Str → Option Value} {base : Heap} {CXa : CXT} {k : Nat} {f : Addr} {fd : FuncData} {ps : List Str} {sp : Sp} {ds : List Value} {dvs : List V} (F : FnG P w K mg base CXa k f fd ps sp) (hb : Binds K fd ps ds) (hd : Vals dvs ds)
    (A : Around) (outer : List PySem.Env) (s : Shared) (H : Hp) (us : List Value) (vs : List V) (Q : VK) (E : XK) (hr : Rm k A) (e0 : Env0 P w K mg base A outer s H) (r : Vals vs us) (hs : sp (vs ++ dvs) H Q E) : codeAny (model P w) A (.call (.ref f) ⟨us, []⟩) (CR CXa outer P w H s Q E) s :=
  have r2 : Vals (vs ++ dvs) (us ++ ds) := r.append hd
  F.run A outer s H ⟨us, []⟩ (us ++ ds) (vs ++ dvs) Q E hr e0 (hb s us (e0.mod.kin.keeps fun b o e => (e0.bs b o e).1) (by rw [← r2.length]; exact F.len _ _ _ _ hs)) r2 hs
/-- by the body, the code object's value known -/
theorem fng_of {CXa : CXT} {P : Program} {w : World} {K : PySem.W.Frag} {mg : Str → Option Value} {base : Heap} {k : Nat} {f : Addr} {name qual : Str} {params : Arguments} {body : List Stmt} {scope : Scope} {dV kV doc pm cdv ct oc : Value} {an od : Option Addr}
    {osl : Array (Option Value)} {N ps : List Str} {sp : Sp} (lk : K.lookup f = some ⟨oc, od, .func (PySem.W.fnOf name qual params body scope dV kV doc pm an cdv ct), osl⟩) (hcd : PySem.W.codeIn K cdv qual = true) (S : FnScope N ps scope)
    (len : ∀ vs H Q E, sp vs H Q E → vs.length = ps.length)
    (hbody : ∀ (A : Around) (outer : List PySem.Env) (s : Shared) (H : Hp) (vs : List V) (Q : VK) (E : XK), Rm k (A.deeper (envOfC qual scope s.heap.objs.size f cdv)) → sp vs H Q E →
      ∃ t, PSs (cxOf CXa P w K mg base N qual scope f cdv A outer s H E) body t ∧ t { nx := fun _ H' => Q .non H', rt := Q } (L2.start N vs) H) :
    FnG P w K mg base CXa (k + 1) f (PySem.W.fnOf name qual params body scope dV kV doc pm an cdv ct) ps sp :=
  ⟨len, fun A outer s H args us vs Q E hr e0 hb r hs => StX.run_bnd (G := fun xs H2 => xs = vs ∧ H2 = H) lk hcd S hr.toRoom e0
    (fun A' Ex Q' h => hb _ _ _ _ (h s H vs us e0 (Un.kept fun b o e => e) rfl (fun e s' z => z) r (len _ _ _ _ hs) ⟨rfl, rfl⟩))
    fun s2 H2 xs q hr' => by
      obtain ⟨rfl, rfl⟩ := q
      exact hbody A outer s2 H2 xs Q E ⟨hr', hr.gd⟩ hs⟩
/-- a def's promise from its body -/
theorem fn_v {P : Program} {w : World} {K : PySem.W.Frag} {mg : Str → Option Value} {base : Heap} {ca : Str → Addr} {Tb : LT} {sa : Addr} {sn : List Int} {x qual : Str} {params : Arguments} {body : List Stmt} {scope : Scope} {dvs : List V} {kws : List (Str × V)} {f : Addr} {fd : FuncData} {N ps : List Str} {k : Nat} {B : M Ctl}
    (F : FunD K x qual params body scope dvs kws f fd) (S : FnScope N ps scope) (hb : ∀ (cdv : Value) (A : Around) (outer : List PySem.Env) (s : Shared) (H : Hp) (E : XK), VSs ⟨K, w, ca, Tb, sa, sn⟩ (WR E) k (cxOf (L2.CX P w) P w K mg base N qual scope f cdv A outer s H E) body B) :
    FnG P w K mg base (L2.CX P w) (k + 1) f fd ps (spV ⟨K, w, ca, Tb, sa, sn⟩ ps.length (fnF ps.length N.length B)) := by
  obtain ⟨oc, od, dV, kV, doc, pm, an, cdv, ct, osl, rfl, lk, hcd, _, _⟩ := F.ex
  refine fng_of lk hcd S (fun vs H Q E h => h.1) fun A outer s H vs Q E hr h => ?_
  obtain ⟨hl, G, as, ok, sr, h⟩ := h
  refine ⟨TVS ⟨K, w, ca, Tb, sa, sn⟩ (WR E) B, (hb cdv A outer s H E).run ⟨rfl, rfl, rfl, takes_of rfl rfl rfl rfl, hr, passes_of rfl, S.nd⟩, G, as ++ List.replicate (N.length - as.length) .un, sr_start sr, ?_⟩
  have hla : as.length = ps.length := by rw [sr.len, List.length_map]; exact hl
  unfold fnF at h
  rw [if_pos hla] at h
  revert h
  cases B (as ++ List.replicate (N.length - as.length) .un) with
  | no => exact fun h => h
  | er x e' => exact fun h cls d σ' G' H' t xo => h cls d G' H' (tr_end ok sr t) xo
  | ok c e' =>
    cases c with
    | nx => exact fun h σ' G' H' t => h G' H' (tr_end ok sr t) .non rfl
    | bk => exact fun h => h.elim
    | ct => exact fun h => h.elim
    | rt r =>
      intro h v σ' G' H' t rv
      simp only at h
      cases q : retRv r e' with
      | no => rw [q] at h; exact h.elim
      | er x e2 => rw [q] at h; exact h.elim
      | ok r' e2 =>
        rw [q] at h
        obtain ⟨G2, t2, nw⟩ := ret_end ok sr t rv q
        exact h G2 H' t2 v nw
end Vs

set_option maxRecDepth 100000
set_option maxHeartbeats 2000000
namespace Vs
open PySem PySem.Spec PyProof.Rows L2 Fw SX

def argSl (r : Rv) (e : Ve) : Option Sl := match r with
  | .val d => some (.sh d)
  | .fresh d => some (.bo d)
  | .slot i => match e[i]? with
    | some (.sh d) => some (.sh d)
    | some (.bf d) => some (.sh d)
    | some (.ow d) => some (.bo d)
    | some (.bo d) => some (.bo d)
    | _ => none
def argsOf : List Rv → Ve → Option (List Sl)
  | [], _ => some []
  | r :: rs, e => match argSl r e, argsOf rs e with
    | some a, some as => some (a :: as)
    | _, _ => none
/-- no slot's own thing is handed over twice -/
def hasSlot (i : Nat) : List Rv → Bool
  | [] => false
  | .slot j :: rs => (i == j) || hasSlot i rs
  | _ :: rs => hasSlot i rs
def onceSl : List Rv → Bool
  | [] => true
  | .slot i :: rs => !hasSlot i rs && onceSl rs
  | _ :: rs => onceSl rs
def mrg : Sl → Sl → Sl
  | .ow _, .bo d => .ow d
  | .ow _, .bf d => .sh d
  | .bo _, .bo d => .bo d
  | .bo _, .bf d => .bf d
  | s, _ => s
def findSl (j : Nat) : List Rv → List Sl → Option Sl
  | .slot i :: rs, a :: as => if i = j then some a else findSl j rs as
  | _ :: rs, _ :: as => findSl j rs as
  | _, _ => none
def backGo (rs : List Rv) (as : List Sl) : Nat → Ve → Ve
  | _, [] => []
  | j, s :: r => (match findSl j rs as with | some a => mrg s a | none => s) :: backGo rs as (j + 1) r
def backE (rs : List Rv) (as : List Sl) (e : Ve) : Ve := backGo rs as 0 e
/-- the call of f with what came -/
def callB (f : List Sl → Res Rv) (rs : List Rv) : M Rv := fun e => if onceSl rs = true then (match argsOf rs e with
  | some as => (match f as with
    | .ok r as' => .ok r (backE rs as' e)
    | .er x as' => .er x (backE rs as' e)
    | .no => .no)
  | none => .no) else .no
def fCall (f : List Sl → Res Rv) (A : M (List Rv)) : M Rv := A.bind (callB f)
/-- with keywords behind -/
def fCallK (f : List Sl → Res Rv) (A B : M (List Rv)) : M Rv := A.bind fun rs => B.bind fun zs => callB f (rs ++ zs)
section
variable {g : Gm} {G H G1 H1 G2 H2 H0 : Hp} {σ : L2.St} {e e1 : Ve} {rs : List Rv} {vs dvs : List V} {as as' : List Sl} {dd : List D}
theorem backGo_len : ∀ {e : Ve} {j : Nat}, (backGo rs as j e).length = e.length
  | [], _ => rfl
  | s :: r, j => by rw [backGo, List.length_cons, List.length_cons, backGo_len]
theorem backGo_at : ∀ {e : Ve} {j i : Nat}, (backGo rs as j e)[i]? = (e[i]?).map fun s => match findSl (j + i) rs as with | some a => mrg s a | none => s
  | [], j, i => by simp [backGo]
  | s :: r, j, 0 => by simp [backGo]
  | s :: r, j, i + 1 => by
    rw [backGo, List.getElem?_cons_succ, backGo_at, List.getElem?_cons_succ, show j + 1 + i = j + (i + 1) by omega]
theorem hasSlot_at {i : Nat} : ∀ {rs : List Rv}, hasSlot i rs = true ↔ ∃ k : Nat, rs[k]? = some (Rv.slot i)
  | [] => by simp [hasSlot]
  | r :: rs => by
    have ih := hasSlot_at (i := i) (rs := rs)
    have more : (∃ k : Nat, (r :: rs)[k]? = some (Rv.slot i)) ↔ r = .slot i ∨ ∃ k : Nat, rs[k]? = some (Rv.slot i) := by
      constructor
      · rintro ⟨k, h⟩
        cases k with
        | zero => exact .inl (Option.some.inj h)
        | succ k => exact .inr ⟨k, h⟩
      · rintro (h | ⟨k, h⟩)
        · exact ⟨0, by rw [h]; rfl⟩
        · exact ⟨k + 1, h⟩
    rw [more, ← ih]
    cases r with
    | slot j =>
      simp only [hasSlot, Bool.or_eq_true, beq_iff_eq, Rv.slot.injEq]
      constructor
      · rintro (h | h)
        · exact .inl h.symm
        · exact .inr h
      · rintro (h | h)
        · exact .inl h.symm
        · exact .inr h
    | val d => simp [hasSlot]
    | fresh d => simp [hasSlot]
theorem once_at : ∀ {rs : List Rv} {i k l : Nat}, onceSl rs = true → rs[k]? = some (Rv.slot i) → rs[l]? = some (Rv.slot i) → k = l
  | [], i, k, l, _, h, _ => by simp at h
  | r :: rs, i, 0, 0, _, _, _ => rfl
  | r :: rs, i, 0, l + 1, o, h, q => by
    exfalso
    cases h
    simp only [onceSl, Bool.and_eq_true, Bool.not_eq_true'] at o
    have := hasSlot_at.mpr ⟨l, (show rs[l]? = some (Rv.slot i) from q)⟩
    rw [o.1] at this
    cases this
  | r :: rs, i, k + 1, 0, o, h, q => by
    exfalso
    cases q
    simp only [onceSl, Bool.and_eq_true, Bool.not_eq_true'] at o
    have := hasSlot_at.mpr ⟨k, (show rs[k]? = some (Rv.slot i) from h)⟩
    rw [o.1] at this
    cases this
  | r :: rs, i, k + 1, l + 1, o, h, q => by
    have o' : onceSl rs = true := by
      cases r with
      | slot j => simp only [onceSl, Bool.and_eq_true] at o; exact o.2
      | val d => exact o
      | fresh d => exact o
    rw [once_at (rs := rs) (i := i) (k := k) (l := l) o' h q]
theorem findSl_some {j : Nat} : ∀ {rs : List Rv} {as : List Sl} {a : Sl}, findSl j rs as = some a → ∃ k : Nat, rs[k]? = some (Rv.slot j) ∧ as[k]? = some a
  | [], as, a, h => by cases as <;> cases h
  | r :: rs, [], a, h => by cases r <;> cases h
  | r :: rs, b :: as, a, h => by
    have tail : findSl j rs as = some a → ∃ k : Nat, (r :: rs)[k]? = some (Rv.slot j) ∧ (b :: as)[k]? = some a := fun q => by
      obtain ⟨k, h1, h2⟩ := findSl_some q
      exact ⟨k + 1, h1, h2⟩
    cases r with
    | val d => exact tail h
    | fresh d => exact tail h
    | slot i =>
      simp only [findSl] at h
      by_cases e : i = j
      · rw [if_pos e] at h
        cases h
        exact ⟨0, by rw [e]; rfl, rfl⟩
      · rw [if_neg e] at h
        exact tail h
theorem findSl_none {j : Nat} : ∀ {rs : List Rv} {as : List Sl}, rs.length ≤ as.length → findSl j rs as = none → ∀ k : Nat, rs[k]? ≠ some (Rv.slot j)
  | [], as, _, h, k => by simp
  | r :: rs, [], hl, h, k => by simp at hl
  | r :: rs, b :: as, hl, h, k => by
    have tail : findSl j rs as = none → r ≠ .slot j → (r :: rs)[k]? ≠ some (Rv.slot j) := fun q n => by
      have ih := findSl_none (rs := rs) (as := as) (by simpa using hl) q
      cases k with
      | zero => exact fun z => n (Option.some.inj z)
      | succ k => exact ih k
    cases r with
    | val d => exact tail h (fun z => nomatch z)
    | fresh d => exact tail h (fun z => nomatch z)
    | slot i =>
      simp only [findSl] at h
      by_cases e : i = j
      · rw [if_pos e] at h; cases h
      · rw [if_neg e] at h
        exact tail h (fun z => e (Rv.slot.inj z))
theorem argsOf_len : ∀ {rs : List Rv} {as : List Sl}, argsOf rs e = some as → as.length = rs.length
  | [], as, h => by cases h; rfl
  | r :: rs, as, h => by
    unfold argsOf at h
    cases q1 : argSl r e with
    | none => rw [q1] at h; simp at h
    | some a =>
      cases q2 : argsOf rs e with
      | none => rw [q1, q2] at h; simp at h
      | some as' =>
        rw [q1, q2] at h
        cases h
        rw [List.length_cons, List.length_cons, argsOf_len q2]
theorem argsOf_at : ∀ {rs : List Rv} {as : List Sl} {k : Nat} {a : Sl}, argsOf rs e = some as → as[k]? = some a → ∃ r, rs[k]? = some r ∧ argSl r e = some a
  | [], as, k, a, h, q => by cases h; simp at q
  | r :: rs, as, k, a, h, q => by
    unfold argsOf at h
    cases q1 : argSl r e with
    | none => rw [q1] at h; simp at h
    | some b =>
      cases q2 : argsOf rs e with
      | none => rw [q1, q2] at h; simp at h
      | some as' =>
        rw [q1, q2] at h
        cases h
        cases k with
        | zero => cases q; exact ⟨r, rfl, q1⟩
        | succ k => exact argsOf_at (rs := rs) q2 (show as'[k]? = some a from q)
theorem RvsOk.dist : ∀ {rs : List Rv} {vs : List V} {k l : Nat} {d d' : D} {p : Addr}, RvsOk g G H σ e H0 rs vs → rs[k]? = some (Rv.fresh d) → rs[l]? = some (Rv.fresh d') → vs[k]? = some (.ref p) → vs[l]? = some (.ref p) → k = l
  | [], _, k, l, d, d', p, _, q, _, _, _ => by simp at q
  | r0 :: rs, _, k, l, d, d', p, ⟨v, t, rfl, a, b, c⟩, q1, q2, q3, q4 => by
    have mem : ∀ {l : Nat} {d' : D}, rs[l]? = some (Rv.fresh d') → t[l]? = some (.ref p) → (Rv.fresh d', V.ref p) ∈ rs.zip t := fun {l d'} h1 h2 => by
      apply List.mem_of_getElem? (i := l)
      rw [List.getElem?_zip_eq_some]
      exact ⟨h1, h2⟩
    cases k with
    | zero =>
      cases l with
      | zero => rfl
      | succ l =>
        cases q1
        cases q3
        exact absurd rfl (c d p rfl rfl d' _ (mem (l := l) q2 q4))
    | succ k =>
      cases l with
      | zero =>
        cases q2
        cases q4
        exact absurd rfl (c d' p rfl rfl d _ (mem (l := k) q1 q3))
      | succ l => rw [RvsOk.dist (rs := rs) b q1 q2 q3 q4]
/-- the arguments at the callee's entry -/
theorem sr_args (sr : SR g G H σ e) (rv : RvsOk g G H σ e H0 rs vs) (o : onceSl rs = true) (ha : argsOf rs e = some as) :
    SR g G H (vs.map some) as ∧ as.all okArg = true ∧
      ∀ (k : Nat) (p : Addr), Rt (vs.map some) as k p → (∃ i : Nat, rs[k]? = some (Rv.slot i) ∧ Rt σ e i p) ∨ ∃ d, rs[k]? = some (Rv.fresh d) ∧ H0 p = none ∧ ∀ i, ¬ Rt σ e i p := by
  have l1 : as.length = rs.length := argsOf_len ha
  have l2 : vs.length = rs.length := rv.len
  have on : ∀ (k : Nat) (a : Sl), as[k]? = some a → ∃ r v, rs[k]? = some r ∧ argSl r e = some a ∧ vs[k]? = some v ∧ (vs.map some)[k]? = some (some v) ∧ RvOk g G H σ e H0 r v := fun k a h => by
    obtain ⟨r, hr, hs⟩ := argsOf_at ha h
    obtain ⟨v, hv, ok⟩ := rv.at hr
    exact ⟨r, v, hr, hs, hv, by rw [List.getElem?_map, hv]; rfl, ok⟩
  have rt : ∀ (k : Nat) (p : Addr), Rt (vs.map some) as k p → vs[k]? = some (.ref p) ∧ ((∃ i : Nat, rs[k]? = some (Rv.slot i) ∧ Rt σ e i p) ∨ ∃ d, rs[k]? = some (Rv.fresh d) ∧ H0 p = none ∧ ∀ i, ¬ Rt σ e i p) := fun k p r => by
    obtain ⟨r1, r2⟩ := r
    cases q : as[k]? with
    | none => rw [q] at r1; exact r1.elim
    | some a =>
      rw [q] at r1
      obtain ⟨r, v, hr, hs, hv, hv2, ok⟩ := on k a q
      rw [hv2] at r2
      cases r2
      refine ⟨hv, ?_⟩
      cases r with
      | val d => cases hs; exact r1.elim
      | fresh d =>
        obtain ⟨p', ev, _, _, h0, nr⟩ := ok
        cases ev
        exact .inr ⟨d, hr, h0, nr⟩
      | slot i =>
        obtain ⟨ev, s, es, ns⟩ := ok
        refine .inl ⟨i, hr, ?_, ev⟩
        simp only [argSl] at hs
        rw [es] at hs ⊢
        cases s with
        | un => exact absurd rfl ns
        | sh d => cases hs; exact r1.elim
        | bf d => cases hs; exact r1.elim
        | ow d => trivial
        | bo d => trivial
        | lo d => cases hs
  refine ⟨⟨sr.bs, sr.tabs, sr.scr, ?_, fun k => ?_, fun k l p a b => ?_⟩, ?_, fun k p r => (rt k p r).2⟩
  · simp [l1, l2]
  · cases q : as[k]? with
    | none => trivial
    | some a =>
      obtain ⟨r, v, hr, hs, hv, hv2, ok⟩ := on k a q
      rw [hv2]
      cases r with
      | val d => cases hs; exact ⟨v, rfl, ok⟩
      | fresh d =>
        cases hs
        obtain ⟨p, ev, n, ow, _⟩ := ok
        exact ⟨p, by rw [ev], n, ow⟩
      | slot i =>
        obtain ⟨ev, s, es, ns⟩ := ok
        have sl := sr.slot i
        simp only [argSl] at hs
        rw [es] at hs sl
        rw [ev] at sl
        cases s with
        | un => exact absurd rfl ns
        | sh d => cases hs; exact sl
        | bf d => cases hs; exact sl
        | ow d => cases hs; exact sl
        | bo d => cases hs; exact sl
        | lo d => cases hs
  · obtain ⟨a1, a2⟩ := rt k p a
    obtain ⟨b1, b2⟩ := rt l p b
    rcases a2 with ⟨i, hi, ri⟩ | ⟨d, hd1, h0, nr⟩ <;> rcases b2 with ⟨j, hj, rj⟩ | ⟨d', hd2, h0', nr'⟩
    · have := sr.inj i j p ri rj
      subst this
      exact once_at o hi hj
    · exact absurd ri (nr' i)
    · exact absurd rj (nr j)
    · exact rv.dist hd1 hd2 a1 b1
  · rw [List.all_eq_true]
    intro a hm
    obtain ⟨k, hk, rfl⟩ := List.mem_iff_getElem.mp hm
    have q : as[k]? = some as[k] := List.getElem?_eq_getElem hk
    generalize as[k] = a at q
    obtain ⟨r, v, hr, hs, _⟩ := on k a q
    cases r with
    | val d => cases hs; rfl
    | fresh d => cases hs; rfl
    | slot i =>
      simp only [argSl] at hs
      split at hs <;> cases hs <;> rfl
/-- behind the call -/
theorem tr_call (t1 : Tr g σ G H e G1 H1 e1) (rv : RvsOk g G1 H1 σ e1 H rs vs) (o : onceSl rs = true) (ha : argsOf rs e1 = some as)
    (t2 : Tr g (vs.map some) G1 H1 as G2 H2 as') : Tr g σ G H e G2 H2 (backE rs as' e1) := by
  obtain ⟨sra, _, rts⟩ := sr_args t1.sr rv o ha
  have l1 : as.length = rs.length := argsOf_len ha
  have lv : vs.length = rs.length := rv.len
  have l2 : rs.length ≤ as'.length := by rw [t2.ve.len, l1]; exact Nat.le_refl _
  have sr1 := t1.sr
  -- a root that is not handed over
  have nra : ∀ (j : Nat) (p : Addr), Rt σ e1 j p → (∀ k : Nat, rs[k]? ≠ some (Rv.slot j)) → ∀ k : Nat, ¬ Rt (vs.map some) as k p := fun j p r n k ra => by
    rcases rts k p ra with ⟨i, hi, ri⟩ | ⟨d, _, _, nr⟩
    · have := sr1.inj i j p ri r
      subst this
      exact n k hi
    · exact nr j r
  -- the slot's new state
  have slotAt : ∀ k j : Nat, rs[k]? = some (Rv.slot j) → ∀ s, e1[j]? = some s → ∀ a', as'[k]? = some a' →
      SlOk g G2 H2 (some (mrg s a')) σ[j]? ∧ SlLe s (mrg s a') ∧ (IsOw (some (mrg s a')) → ∀ p, σ[j]? = some (some (.ref p)) → Rt (vs.map some) as' k p) := fun k j hk s hs a' ha' => by
    obtain ⟨v, hv, ok⟩ := rv.at hk
    obtain ⟨ev, s', es, ns⟩ := ok
    rw [hs] at es
    cases es
    have hkl : k < as.length := by rw [l1]; exact lt_of_some hk
    obtain ⟨a, haa⟩ : ∃ a, as[k]? = some a := ⟨as[k], List.getElem?_eq_getElem hkl⟩
    obtain ⟨r, hr, hsl⟩ := argsOf_at ha haa
    rw [hk] at hr
    cases hr
    have haa2 : as[k]? = some a := haa
    obtain ⟨a2, h2, le2⟩ := t2.ve.at_ k a haa2
    rw [ha'] at h2
    cases h2
    have hvv : (vs.map some)[k]? = some (some v) := by
      rw [List.getElem?_map, hv]; rfl
    have sl2 := t2.sr.slot k
    rw [ha', hvv] at sl2
    simp only [argSl] at hsl
    rw [hs] at hsl
    have sl1 := sr1.slot j
    rw [hs] at sl1
    cases s with
    | un => exact absurd rfl ns
    | sh d =>
      refine ⟨?_, by cases a' <;> exact rfl, fun z => by cases a' <;> exact z.elim⟩
      obtain ⟨v1, ev1, r1⟩ := sl1
      cases a' <;> exact ⟨v1, ev1, r1.mono t2.le⟩
    | bf d =>
      refine ⟨?_, by cases a' <;> exact rfl, fun z => by cases a' <;> exact z.elim⟩
      obtain ⟨v1, ev1, r1⟩ := sl1
      cases a' <;> exact ⟨v1, ev1, r1.mono t2.le⟩
    | ow d =>
      cases hsl
      obtain ⟨d', rfl | rfl⟩ := le2
      · obtain ⟨p, ep, n, ow⟩ := sl2
        refine ⟨⟨p, by rw [ev]; exact ep, n, ow⟩, ⟨d', .inl rfl⟩, fun _ p' hp' => ⟨by rw [ha']; trivial, ?_⟩⟩
        rw [hvv, ← hp', ev]
      · obtain ⟨v', ev', r⟩ := sl2
        cases ev'
        exact ⟨⟨v, ev, r⟩, ⟨d', .inr rfl⟩, fun z => z.elim⟩
    | lo d => cases hsl
    | bo d =>
      cases hsl
      obtain ⟨d', rfl | rfl⟩ := le2
      · obtain ⟨p, ep, n, ow⟩ := sl2
        refine ⟨⟨p, by rw [ev]; exact ep, n, ow⟩, ⟨d', .inl rfl⟩, fun _ p' hp' => ⟨by rw [ha']; trivial, ?_⟩⟩
        rw [hvv, ← hp', ev]
      · obtain ⟨v', ev', r⟩ := sl2
        cases ev'
        exact ⟨⟨v, ev, r⟩, ⟨d', .inr rfl⟩, fun z => z.elim⟩
  have at_ : ∀ j, (backE rs as' e1)[j]? = (e1[j]?).map fun s => match findSl j rs as' with | some a => mrg s a | none => s := fun j => by
    unfold backE
    rw [backGo_at, Nat.zero_add]
  have cse : ∀ (j : Nat) (s : Sl), e1[j]? = some s → (∃ (k : Nat) (a' : Sl), rs[k]? = some (Rv.slot j) ∧ as'[k]? = some a' ∧ (backE rs as' e1)[j]? = some (mrg s a')) ∨ ((∀ k : Nat, rs[k]? ≠ some (Rv.slot j)) ∧ (backE rs as' e1)[j]? = some s) := fun j s hs => by
    cases q : findSl j rs as' with
    | none => exact .inr ⟨findSl_none l2 q, by rw [at_, hs]; simp [q]⟩
    | some a =>
      obtain ⟨k, h1, h2⟩ := findSl_some q
      exact .inl ⟨k, a, h1, h2, by rw [at_, hs]; simp [q]⟩
  have ve2 : VeLe e1 (backE rs as' e1) := by
    refine ⟨backGo_len, fun j s hs => ?_⟩
    rcases cse j s hs with ⟨k, a', hk, ha', q⟩ | ⟨n, q⟩
    · exact ⟨_, q, (slotAt k j hk s hs a' ha').2.1⟩
    · exact ⟨s, q, SlLe.refl s⟩
  refine ⟨⟨t2.sr.bs, t2.sr.tabs, t2.sr.scr, by rw [ve2.len]; exact sr1.len, fun j => ?_, fun i j p a b => sr1.inj i j p (ve2.rt a) (ve2.rt b)⟩, t1.le.trans t2.le, fun a ob h n nt => ?_, fun a h => t1.dom a (t2.dom a h), fun a h1 h2 n => ?_, t1.ve.trans ve2⟩
  · cases q0 : e1[j]? with
    | none =>
      rw [at_, q0]; trivial
    | some s =>
      rcases cse j s q0 with ⟨k, a', hk, ha', q⟩ | ⟨n, q⟩
      · rw [q]; exact (slotAt k j hk s q0 a' ha').1
      · rw [q]
        have sl := sr1.slot j
        rw [q0] at sl
        cases s with
        | un => trivial
        | sh d => obtain ⟨v, ev, r⟩ := sl; exact ⟨v, ev, r.mono t2.le⟩
        | bf d => obtain ⟨v, ev, r⟩ := sl; exact ⟨v, ev, r.mono t2.le⟩
        | lo d =>
          obtain ⟨p, ep, np, ow⟩ := sl
          obtain ⟨ob, u, ho, _⟩ := ow.there
          have nn : ∀ k : Nat, ¬ Rt (vs.map some) as k p := fun k ra => sra.nofrz ho k ra
          exact ⟨p, ep, t2.new p np (by rw [ho]; exact fun z => nomatch z) nn, ow.mono t2.le (by rw [t2.keep _ _ ho nn (fun ps z => nomatch z), ho])⟩
        | ow d =>
          obtain ⟨p, ep, np, ow⟩ := sl
          obtain ⟨ob, ho, pl, _⟩ := ow.there
          have nn := nra j p ⟨by rw [q0]; trivial, ep⟩ n
          exact ⟨p, ep, t2.new p np (by rw [ho]; exact fun z => nomatch z) nn, ow.mono t2.le (by rw [t2.keep _ _ ho nn pl.nt, ho])⟩
        | bo d =>
          obtain ⟨p, ep, np, ow⟩ := sl
          obtain ⟨ob, ho, pl, _⟩ := ow.there
          have nn := nra j p ⟨by rw [q0]; trivial, ep⟩ n
          exact ⟨p, ep, t2.new p np (by rw [ho]; exact fun z => nomatch z) nn, ow.mono t2.le (by rw [t2.keep _ _ ho nn pl.nt, ho])⟩
  · refine t2.keep a ob (t1.keep a ob h n nt) (fun k r => ?_) nt
    rcases rts k a r with ⟨i, _, ri⟩ | ⟨d, _, h0, _⟩
    · exact n i (t1.ve.rt ri)
    · rw [h] at h0; cases h0
  · refine t2.new a (t1.new a h1 h2 n) (fun z => h2 (t1.dom a z)) fun k r => ?_
    rcases rts k a r with ⟨i, _, ri⟩ | ⟨d, _, h0, _⟩
    · exact n i (t1.ve.rt ri)
    · exact h2 h0
end
theorem Pst.bind0 {α β : Type} {g : Gm} {W : WX} {σ : L2.St} {G H : Hp} {e : Ve} {R : β → Hp → Hp → Ve → Prop} {f : M α} {k : α → M β} (h : Pst g W σ G H e R (M.bind f k e)) : Pst g W σ G H e (fun a _ _ e1 => Pst g W σ G H e R (k a e1)) (f e) := by
  unfold M.bind at h
  revert h
  cases f e with
  | no => exact fun h => h
  | er x e' => exact fun h => h
  | ok a e1 => exact fun h _ _ _ => h
section
variable {g : Gm} {W : WX} {k : Nat} {X : Cx}
theorem callB_ok {f : List Sl → Res Rv} {rs : List Rv} {vs : List V} {σ : L2.St} {G H G1 H1 : Hp} {e e1 : Ve} {Q : VK} (sr : SR g G H σ e) (t1 : Tr g σ G H e G1 H1 e1) (rv : RvsOk g G1 H1 σ e1 H rs vs)
    (h1 : Pst g W σ G H e (fun r G' H' e' => ∀ v, RvOk g G' H' σ e' H r v → Q v H') (callB f rs e1)) : spR g f vs H1 Q (fun cls d H' => W cls d σ H') := by
  unfold callB at h1
  by_cases o : onceSl rs = true
  · rw [if_pos o] at h1
    cases qa : argsOf rs e1 with
    | none => rw [qa] at h1; exact h1.elim
    | some as =>
      rw [qa] at h1
      simp only at h1
      obtain ⟨sra, oka, rts⟩ := sr_args t1.sr rv o qa
      refine ⟨G1, as, oka, sra, ?_⟩
      revert h1
      cases f as with
      | no => exact fun h => h
      | er x as' => exact fun h cls d G2 H2 t2 xo => h cls d G2 H2 (tr_call t1 rv o qa t2) xo
      | ok r as' =>
        intro h G2 H2 t2 v nw
        have t3 := tr_call t1 rv o qa t2
        refine h G2 H2 t3 v ?_
        cases r with
        | val d => exact nw
        | slot i => exact nw.elim
        | fresh d =>
          obtain ⟨p, ev, np, ow, h0⟩ := nw
          exact ⟨p, ev, np, ow, t1.dom p h0, fun i r => (sr.root (t3.ve.rt r)).2 (t1.dom p h0)⟩
  · rw [if_neg o] at h1; exact h1.elim
theorem tv_call {f : List Sl → Res Rv} {A : M (List Rv)} {σ : L2.St} {H : Hp} {Q : VK} (h : TV g W (fCall f A) σ H Q) : TVA g W A σ H fun vs H1 => spR g f vs H1 Q (fun cls d H' => W cls d σ H') := by
  obtain ⟨G, e, sr, h⟩ := h
  exact ⟨G, e, sr, Pst.mono (Pst.bind0 h) fun rs G1 H1 e1 t1 h1 vs rv => callB_ok sr t1 rv h1⟩
end
/-- the last parameters from their defaults -/
def dfl (dd : List D) (F : List Sl → Res Rv) (as : List Sl) : Res Rv := match F (as ++ dd.map Sl.sh) with
  | .ok r as' => .ok r (as'.take as.length)
  | .er x as' => .er x (as'.take as.length)
  | .no => .no
section
variable {P : Program} {mg : Str → Option Value} {base : Heap} {g : Gm} {j : Nat} {f : Addr} {fd : FuncData} {ps : List Str} {F : List Sl → Res Rv}
theorem spR_V {np n : Nat} {B : M Ctl} {vs : List V} {H : Hp} {Q : VK} {E : XK} (h : spR g (fnF np n B) vs H Q E) : spV g np (fnF np n B) vs H Q E := by
  obtain ⟨G, as, ok, sr, h⟩ := h
  refine ⟨?_, G, as, ok, sr, h⟩
  by_cases hl : as.length = np
  · rw [← hl, sr.len, List.length_map]
  · unfold fnF at h
    rw [if_neg hl] at h
    exact h.elim
theorem fk_of {CXa : CXT} {np n : Nat} {B : M Ctl} (Fk : FnG P g.w g.K mg base CXa j f fd ps (spV g np (fnF np n B))) (hb : Binds g.K fd ps []) : FnK P g.w g.K mg base CXa j f [] (spR g (fnF np n B)) := by
  intro A outer s H us ws vs zs Q E hr e0 rv rz hl hs
  have ez : zs = [] := by
    have := rz.length
    rw [hl] at this
    exact List.eq_nil_of_length_eq_zero this
  subst ez
  rw [List.append_nil] at hs
  have h2 := spR_V hs
  exact Fk.raw hb .nil A outer s H us vs Q E hr e0 rv (show spV g np (fnF np n B) (vs ++ []) H Q E by rw [List.append_nil]; exact h2)
end
section
variable {X : Cx} {k : Nat} {f : Addr} {ks : List Str} {sp : Sp} {E : L2.St → XK}
theorem fk_run {pins : List (Addr × Obj)} {σ : L2.St} {H : Hp} {s : Shared} {Q : VK} {us ws : List Value} {vs zs : List V} (Fk : FnK X.prog X.w X.K X.mg X.base (L2.CX X.prog X.w) k f ks sp) (rm : Rm k X.A) (px : PassesAt (L2.CX X.prog X.w) X σ (E σ)) (I : Inv X pins σ H s) (rv : Vals vs us) (rz : Vals zs ws) (hl : ws.length = ks.length) (h : sp (vs ++ zs) H Q (E σ)) :
    codeAny (model X.prog X.w) X.A (.call (.ref f) ⟨us, ks.zip ws⟩) (fun r s' => match r with | .ok (.ret v) => EP X pins σ Q v s' | .ok _ => False | .error e => X.xe e s') s :=
  codeAny_mono (Fk X.A X.stack s H us ws vs zs Q (E σ) rm I.env0 rv rz hl h) fun res s' z => by
    match res, z with
    | .error e, z => exact px pins _ _ e s' I z
    | .ok (.ret u), z => exact I.after z
    | .ok .next, z => exact False.elim z
    | .ok .brk, z => exact False.elim z
    | .ok .cont, z => exact False.elim z
/-- f(e, ..) -/
theorem pe_fk {x : Str} {p pos : Pos} {ex : Expr} {es : List Expr} {t : TA} (Fk : FnK X.prog X.w X.K X.mg X.base (L2.CX X.prog X.w) k f [] sp) (rm : Rm k X.A) (hg : Gl X x) (hm : X.mg x = some (.ref f)) (kp : PySem.W.keepIn X.K (.ref f) = true) (px : ∀ σ, PassesAt (L2.CX X.prog X.w) X σ (E σ))
    (ha : PA X (ex :: es) t) (hdb : (x == ("__debug__" : Str)) = false := by decide) (he : starEach (ex :: es) X.env = (false, eval ex X.env) :: starEach es X.env := by rfl) (hpl : (backTo pos (starEach es X.env)).any (·.1) = false := by rfl) :
    PE X (.Call (.Name x p) (ex :: es) [] pos) (fun σ H Q => t σ H fun vs H1 => sp vs H1 Q (E σ)) := ⟨fun pins s σ H Q I h =>
  wpAny_Call_Name_kw (ld_glob I hg hm (PySem.W.callWith_K (h₀ := X.base) I.ok.mod.kin kp (thn (ha.run pos pins s σ H _ I h) fun us s1 ⟨vs, H1, J, r, q⟩ => ⟨J.kIn, wpAny_call (fk_run Fk rm (px σ) J r .nil rfl (by rw [List.append_nil]; exact q))⟩) he hpl) hdb)⟩
theorem pe_fk0 {x : Str} {p pos : Pos} (Fk : FnK X.prog X.w X.K X.mg X.base (L2.CX X.prog X.w) k f [] sp) (rm : Rm k X.A) (hg : Gl X x) (hm : X.mg x = some (.ref f)) (kp : PySem.W.keepIn X.K (.ref f) = true) (px : ∀ σ, PassesAt (L2.CX X.prog X.w) X σ (E σ))
    (hdb : (x == ("__debug__" : Str)) = false := by decide) : PE X (.Call (.Name x p) [] [] pos) (fun σ H Q => sp [] H Q (E σ)) := ⟨fun pins s σ H Q I h =>
  wpAny_Call_Name_kw (ld_glob I hg hm (PySem.W.callWith_K0 I.kIn kp (wpAny_call (fk_run (us := []) (vs := []) Fk rm (px σ) I .nil .nil rfl h))) hdb)⟩
end
section
variable {g : Gm} {W : WX} {k : Nat} {X : Cx}
/-- the def that the module's name x stands for computes F; j: its level -/
def Df (P : Program) (mg : Str → Option Value) (base : Heap) (g : Gm) (x : Str) (ks : List Str) (j : Nat) (F : List Sl → Res Rv) : Prop :=
  ∃ f, FnK P g.w g.K mg base (L2.CX P g.w) j f ks (spR g F) ∧ mg x = some (.ref f) ∧ PySem.W.keepIn g.K (.ref f) = true
theorem ve_call {x : Str} {j : Nat} {F : List Sl → Res Rv} {ex : Expr} {es : List Expr} {A : M (List Rv)} {p pos : Pos} (d : Df X.prog X.mg X.base g x [] j F) (hj : j ≤ k) (hg : Gl X x) (ha : VA g W k X (ex :: es) A)
    (hdb : (x == ("__debug__" : Str)) = false := by decide) (he : starEach (ex :: es) X.env = (false, eval ex X.env) :: starEach es X.env := by rfl) (hpl : (backTo pos (starEach es X.env)).any (·.1) = false := by rfl) : VE g W k X (.Call (.Name x p) (ex :: es) [] pos) (fCall F A) := by
  refine ⟨fun c => ?_⟩
  obtain ⟨f, Fk, hm, hk⟩ := d
  obtain ⟨gK, gw, ca, gT, gs, gn⟩ := g
  obtain rfl : X.K = gK := c.K
  obtain rfl : X.w = gw := c.w
  exact PE.imp (pe_fk (E := fun σ cls d H' => W cls d σ H') Fk (c.room.mono hj) hg hm hk (fun σ => passAt c.tk σ) (ha.run c) hdb he hpl) fun σ H Q q => tv_call q
theorem ve_call0 {x : Str} {j : Nat} {F : List Sl → Res Rv} {p pos : Pos} (d : Df X.prog X.mg X.base g x [] j F) (hj : j ≤ k) (hg : Gl X x) (hdb : (x == ("__debug__" : Str)) = false := by decide) : VE g W k X (.Call (.Name x p) [] [] pos) (fCall F fNil) := by
  refine ⟨fun c => ?_⟩
  obtain ⟨f, Fk, hm, hk⟩ := d
  obtain ⟨gK, gw, ca, gT, gs, gn⟩ := g
  obtain rfl : X.K = gK := c.K
  obtain rfl : X.w = gw := c.w
  refine PE.imp (pe_fk0 (E := fun σ cls d H' => W cls d σ H') Fk (c.room.mono hj) hg hm hk (fun σ => passAt c.tk σ) hdb) fun σ H Q q => ?_
  obtain ⟨G, e, sr, q⟩ := tv_call q
  exact q G H (Tr.refl sr) [] rfl
end
end Vs

set_option maxRecDepth 100000
set_option maxHeartbeats 2000000
namespace Vs
open PySem PySem.Spec PyProof.Rows L2 Fw SX

mutual
def eqD : D → D → Bool
  | .non, .non => true
  | .bl a, .bl b => a == b
  | .bl a, .int j => (if a then 1 else 0) == j
  | .int i, .bl b => i == (if b then 1 else 0)
  | .int i, .int j => i == j
  | .str x, .str y => decide (x = y)
  | .lst xs, .lst ys => eqDs xs ys
  | .tup xs, .tup ys => eqDs xs ys
  | _, _ => false
def eqDs : List D → List D → Bool
  | [], [] => true
  | x :: xs, y :: ys => eqD x y && eqDs xs ys
  | _, _ => false
end
/-- data that == compares, nested at most n deep -/
def shp : Nat → D → Bool
  | _, .non => true
  | _, .bl _ => true
  | _, .int _ => true
  | _, .str _ => true
  | n + 1, .lst xs => xs.all (shp n)
  | n + 1, .tup xs => xs.all (shp n)
  | _, _ => false
mutual
def toPy : D → PyData
  | .non => .none
  | .bl b => .bool b
  | .int i => .int i
  | .str l => .str (S l)
  | .lst xs => .list (toPys xs)
  | .tup xs => .tuple (toPys xs)
  | _ => .none
def toPys : List D → List PyData
  | [] => []
  | x :: xs => toPy x :: toPys xs
end
theorem shp_tail {n : Nat} {x : D} {xs : List D} (h : (x :: xs).all (shp n) = true) : shp n x = true ∧ xs.all (shp n) = true := by
  simpa using h
mutual
theorem eqv_toPy : ∀ (a b : D) (n m : Nat), shp n a = true → shp m b = true → PyData.eqv (toPy a) (toPy b) = eqD a b
  | .non, b, n, m, _, hb => by cases b <;> first | rfl | (cases m <;> cases hb)
  | .bl x, b, n, m, _, hb => by cases b <;> first | rfl | (cases m <;> cases hb)
  | .int x, b, n, m, _, hb => by cases b <;> first | rfl | (cases m <;> cases hb)
  | .str x, b, n, m, _, hb => by
    cases b with
    | str y =>
      show (S x == S y) = decide (x = y)
      rw [S_beq_eq]
    | non => rfl
    | bl _ => rfl
    | int _ => rfl
    | lst _ => rfl
    | tup _ => rfl
    | dct _ => cases m <;> cases hb
    | set _ => cases m <;> cases hb
    | ins _ _ => cases m <;> cases hb
    | con _ => cases m <;> cases hb
    | scr _ => cases m <;> cases hb
  | .lst xs, b, n, m, ha, hb => by
    cases b with
    | lst ys =>
      cases n with
      | zero => cases ha
      | succ n =>
        cases m with
        | zero => cases hb
        | succ m =>
          show PyData.eqv (.list (toPys xs)) (.list (toPys ys)) = eqDs xs ys
          rw [PyData.eqv]
          exact eqv_toPys xs ys n m ha hb
    | non => rfl
    | bl _ => rfl
    | int _ => rfl
    | str _ => rfl
    | tup _ => rfl
    | dct _ => cases m <;> cases hb
    | set _ => cases m <;> cases hb
    | ins _ _ => cases m <;> cases hb
    | con _ => cases m <;> cases hb
    | scr _ => cases m <;> cases hb
  | .tup xs, b, n, m, ha, hb => by
    cases b with
    | tup ys =>
      cases n with
      | zero => cases ha
      | succ n =>
        cases m with
        | zero => cases hb
        | succ m =>
          show PyData.eqv (.tuple (toPys xs)) (.tuple (toPys ys)) = eqDs xs ys
          rw [PyData.eqv]
          exact eqv_toPys xs ys n m ha hb
    | non => rfl
    | bl _ => rfl
    | int _ => rfl
    | str _ => rfl
    | lst _ => rfl
    | dct _ => cases m <;> cases hb
    | set _ => cases m <;> cases hb
    | ins _ _ => cases m <;> cases hb
    | con _ => cases m <;> cases hb
    | scr _ => cases m <;> cases hb
  | .dct _, b, n, m, ha, hb => by cases n <;> cases ha
  | .set _, b, n, m, ha, hb => by cases n <;> cases ha
  | .ins _ _, b, n, m, ha, hb => by cases n <;> cases ha
  | .con _, b, n, m, ha, hb => by cases n <;> cases ha
  | .scr _, b, n, m, ha, hb => by cases n <;> cases ha
theorem eqv_toPys : ∀ (xs ys : List D) (n m : Nat), xs.all (shp n) = true → ys.all (shp m) = true → PyData.eqvAll (toPys xs) (toPys ys) = eqDs xs ys
  | [], [], _, _, _, _ => rfl
  | [], _ :: _, _, _, _, _ => rfl
  | _ :: _, [], _, _, _, _ => rfl
  | x :: xs, y :: ys, n, m, ha, hb => by
    obtain ⟨a1, a2⟩ := shp_tail ha
    obtain ⟨b1, b2⟩ := shp_tail hb
    show (PyData.eqv (toPy x) (toPy y) && PyData.eqvAll (toPys xs) (toPys ys)) = (eqD x y && eqDs xs ys)
    rw [eqv_toPy x y n m a1 b1, eqv_toPys xs ys n m a2 b2]
end
mutual
theorem dp_of {g : Gm} {G H : Hp} (bs : Bs G H) : ∀ (d : D) (v : V) (n : Nat), Rep g G d v → shp n d = true → Dp g.K H v (toPy d) ∧ PyData.canLay0 (toPy d) = true ∧ PyData.depth (toPy d) ≤ n
  | .non, v, n, r, _ => by rw [show v = _ from r]; exact ⟨.non, rfl, Nat.zero_le _⟩
  | .bl b, v, n, r, _ => by rw [show v = _ from r]; exact ⟨.bl b, rfl, Nat.zero_le _⟩
  | .int i, v, n, r, _ => by rw [show v = _ from r]; exact ⟨.int i, rfl, Nat.zero_le _⟩
  | .str l, v, n, ⟨e, ok⟩, _ => by
    rw [e]
    refine ⟨.str _, ?_, Nat.zero_le _⟩
    show PyData.strOk (S l) = true
    unfold PyData.strOk
    simp
    intro c hc
    have := ok c hc
    omega
  | .lst ds, v, n, ⟨a, vs, e, q, r⟩, h => by
    cases n with
    | zero => cases h
    | succ n =>
      obtain ⟨h1, h2, h3⟩ := dps_of bs ds vs n r h
      rw [e]
      exact ⟨.lst (bs.sqL (.of q)) h1, h2, Nat.succ_le_succ h3⟩
  | .tup ds, v, n, ⟨a, vs, e, q, r⟩, h => by
    cases n with
    | zero => cases h
    | succ n =>
      obtain ⟨h1, h2, h3⟩ := dps_of bs ds vs n r h
      rw [e]
      exact ⟨.tup (bs.sqT q) h1, h2, Nat.succ_le_succ h3⟩
  | .dct _, v, n, _, h => by cases n <;> cases h
  | .set _, v, n, _, h => by cases n <;> cases h
  | .ins _ _, v, n, _, h => by cases n <;> cases h
  | .con _, v, n, _, h => by cases n <;> cases h
  | .scr _, v, n, _, h => by cases n <;> cases h
theorem dps_of {g : Gm} {G H : Hp} (bs : Bs G H) : ∀ (ds : List D) (vs : List V) (n : Nat), Reps g G ds vs → ds.all (shp n) = true → DpAll g.K H vs (toPys ds) ∧ PyData.canLayAll0 (toPys ds) = true ∧ PyData.depthAll (toPys ds) ≤ n
  | [], vs, n, r, _ => by rw [show vs = _ from r]; exact ⟨.nil, rfl, Nat.zero_le _⟩
  | d :: ds, vs, n, ⟨v, r, e, a, b⟩, h => by
    obtain ⟨s1, s2⟩ := shp_tail h
    obtain ⟨h1, h2, h3⟩ := dp_of bs d v n a s1
    obtain ⟨k1, k2, k3⟩ := dps_of bs ds r n b s2
    rw [e]
    refine ⟨.cons h1 k1, ?_, ?_⟩
    · show (PyData.canLay0 (toPy d) && PyData.canLayAll0 (toPys ds)) = true
      rw [h2, k2]; rfl
    · show max (PyData.depth (toPy d)) (PyData.depthAll (toPys ds)) ≤ n
      exact Nat.max_le.mpr ⟨h3, k3⟩
end
theorem dp_ofH {g : Gm} {G H : Hp} (bs : Bs G H) {d : D} {v : V} {n : Nat} (r : RepH g G H d v) (h : shp n d = true) : Dp g.K H v (toPy d) ∧ PyData.canLay0 (toPy d) = true ∧ PyData.depth (toPy d) ≤ n := by
  rcases r with r | ⟨p, e, np, o⟩
  · exact dp_of bs d v n r h
  · match d, o, h with
    | .lst ds, ⟨vs, q, r⟩, h =>
      cases n with
      | zero => cases h
      | succ n =>
        obtain ⟨h1, h2, h3⟩ := dps_of bs ds vs n r h
        rw [e]
        exact ⟨.lst (.of q) h1, h2, Nat.succ_le_succ h3⟩
    | .dct _, _, h => cases n <;> cases h
    | .ins _ _, _, h => cases n <;> cases h
def eqG (a b : D) : Option Rv := if (shp 64 a && shp 64 b) = true then some (.val (.bl (eqD a b))) else none
def neG (a b : D) : Option Rv := if (shp 64 a && shp 64 b) = true then some (.val (.bl (!eqD a b))) else none
section
variable {g : Gm}
theorem shaped_of {d : D} {v : V} {G H : Hp} (bs : Bs G H) (r : RepH g G H d v) (h : shp 64 d = true) : Dp g.K H v (toPy d) ∧ SeqAt.shaped (toPy d) = true := by
  obtain ⟨h1, h2, h3⟩ := dp_ofH bs r h
  refine ⟨h1, ?_⟩
  unfold SeqAt.shaped
  rw [h2, decide_eq_true h3]
  rfl
theorem opv_eq : OpV g (rEqD g.K) eqG := fun G H d1 d2 x y out Q bs sc a b e q => by
  unfold eqG at e
  by_cases h : (shp 64 d1 && shp 64 d2) = true
  · rw [if_pos h] at e
    cases e
    obtain ⟨h1, h2⟩ := Bool.and_eq_true_iff.mp h
    obtain ⟨p1, s1⟩ := shaped_of bs a h1
    obtain ⟨p2, s2⟩ := shaped_of bs b h2
    refine ⟨_, _, p1, p2, s1, s2, q _ G H (Grow.refl bs) ?_⟩
    rw [eqv_toPy d1 d2 64 64 h1 h2]
    rfl
  · rw [if_neg h] at e; cases e
theorem opv_ne : OpV g (rNeD g.K) neG := fun G H d1 d2 x y out Q bs sc a b e q => by
  unfold neG at e
  by_cases h : (shp 64 d1 && shp 64 d2) = true
  · rw [if_pos h] at e
    cases e
    obtain ⟨h1, h2⟩ := Bool.and_eq_true_iff.mp h
    obtain ⟨p1, s1⟩ := shaped_of bs a h1
    obtain ⟨p2, s2⟩ := shaped_of bs b h2
    refine ⟨_, _, p1, p2, s1, s2, q _ G H (Grow.refl bs) ?_⟩
    rw [eqv_toPy d1 d2 64 64 h1 h2]
    rfl
  · rw [if_neg h] at e; cases e

def intV (f : Int → Int → Option D) : D → D → Option Rv
  | .int i, .int j => (f i j).map .val
  | _, _ => none
theorem opv_int0 {h : Int → Int → V} {f : Int → Int → D} (r : ∀ i j G, Rep g G (f i j) (h i j)) : OpV g (rI0 h) (intV fun i j => some (f i j)) := fun G H d1 d2 x y out Q bs sc a b e q => by
  cases d1 <;> try cases e
  cases d2 <;> try cases e
  exact ⟨_, _, a.int, b.int, q _ G H (Grow.refl bs) (r _ _ _)⟩
theorem opv_intC {C : Int → Int → Prop} [∀ i j, Decidable (C i j)] {C' : Int → Int → Prop} {h : Int → Int → V} {f : Int → Int → D} (hc : ∀ i j, C i j → C' i j) (r : ∀ i j G, Rep g G (f i j) (h i j)) : OpV g (rI C' h) (intV fun i j => if C i j then some (f i j) else none) := fun G H d1 d2 x y out Q bs sc a b e q => by
  cases d1 <;> try cases e
  cases d2 <;> try cases e
  rename_i i j
  simp only [intV] at e
  by_cases c : C i j
  · rw [if_pos c] at e
    cases e
    exact ⟨_, _, a.int, b.int, hc _ _ c, q _ G H (Grow.refl bs) (r _ _ _)⟩
  · rw [if_neg c] at e; cases e
def subD := intV fun i j => some (.int (i - j))
theorem opv_sub : OpV g (rI0 fun i j => .int (i - j)) subD := opv_int0 fun _ _ _ => rfl
def modD := intV fun i j => if 0 < j then some (.int (i % j)) else none
theorem opv_mod : OpV g (rI (fun _ j => 0 < j) fun i j => .int (i % j)) modD := opv_intC (C := fun _ j => 0 < j) (fun _ _ h => h) fun _ _ _ => rfl
def fdivD := intV fun i j => if 0 < j ∧ j < 2 ^ 200 then some (.int (i / j)) else none
theorem opv_fdiv : OpV g (rI CDivW fun i j => .int (i / j)) fdivD := opv_intC (C := fun _ j => 0 < j ∧ j < 2 ^ 200) (fun i j h => wide_div (b := 200) h.1 (by omega) (by decide) (by decide)) fun _ _ _ => rfl
def powD := intV fun i j => if 0 ≤ j ∧ j ≤ 1000 ∧ -(2 ^ 60) < i ∧ i < 2 ^ 60 then some (.int (i ^ j.toNat)) else none
theorem opv_pow : OpV g (rI CPow fun i j => .int (i ^ j.toNat)) powD := opv_intC (C := fun i j => 0 ≤ j ∧ j ≤ 1000 ∧ -(2 ^ 60) < i ∧ i < 2 ^ 60) (fun i j h => ⟨h.1, by omega, by omega⟩) fun _ _ _ => rfl
def shrD := intV fun i j => if 0 ≤ j then some (.int (i / 2 ^ j.toNat)) else none
end

def addD : D → D → Option Rv
  | .int i, .int j => some (.val (.int (i + j)))
  | .str a, .str b => if a.length + b.length ≤ sizeLine then some (.val (.str (a ++ b))) else none
  | .lst a, .lst b => if a.length + b.length ≤ sizeLine then some (.fresh (.lst (a ++ b))) else none
  | .tup a, .tup b => if a.length + b.length ≤ sizeLine then some (.val (.tup (a ++ b))) else none
  | _, _ => none
theorem OkS.app {a b : List Nat} (h : OkS a) (k : OkS b) : OkS (a ++ b) := fun c hc => (List.mem_append.mp hc).elim (h c) (k c)
def rAddA (K : PySem.W.Frag) : R2 := fun x y H Q => rI0 (fun i j => .int (i + j)) x y H Q ∨ (∃ i j, x = .str i ∧ y = .str j ∧ i.length + j.length ≤ sizeLine ∧ Q (.str (i ++ j)) H) ∨ rCat x y H Q ∨ rCatA K x y H Q
theorem op_addA {X : Cx} : OpR X (binaryOp .Add) (rAddA X.K) := op_add.or (op_add_str.or (op_cat.or op_catA))
section
variable {g : Gm}
theorem Reps.nil_of {G : Hp} {ds : List D} (h : Reps g G ds []) : ds = [] := by
  cases ds with
  | nil => rfl
  | cons d r => obtain ⟨v, t, e, _⟩ := h; cases e
theorem opv_add : OpV g (rAddA g.K) addD := fun G H d1 d2 x y out Q bs sc a b e q => by
  cases d1 <;> cases d2 <;> try cases e
  · exact .inl ⟨_, _, a.int, b.int, q _ G H (Grow.refl bs) rfl⟩
  · rename_i l m
    simp only [addD] at e
    by_cases c : l.length + m.length ≤ sizeLine
    · rw [if_pos c] at e
      cases e
      refine .inr (.inl ⟨_, _, a.str, b.str, by rw [S_len, S_len]; exact c, q _ G H (Grow.refl bs) ⟨by rw [S_app], a.okS.app b.okS⟩⟩)
    · rw [if_neg c] at e; cases e
  · rename_i l m
    simp only [addD] at e
    by_cases c : l.length + m.length ≤ sizeLine
    · rw [if_pos c] at e
      cases e
      obtain ⟨a1, v1, e1, q1, r1⟩ := a.lstR bs
      obtain ⟨a2, v2, e2, q2, r2⟩ := b.lstR bs
      refine .inr (.inr (.inl ⟨a1, a2, v1, v2, e1, e2, q1, q2, by rw [r1.len, r2.len]; exact c, fun p np => ?_⟩))
      exact q _ G _ (Grow.lay bs np) ⟨p, rfl, bs.hn np, ⟨_, upd_same, r1.append r2⟩, np⟩
    · rw [if_neg c] at e; cases e
  · rename_i l m
    simp only [addD] at e
    by_cases c : l.length + m.length ≤ sizeLine
    · rw [if_pos c] at e
      cases e
      obtain ⟨a1, v1, e1, q1, r1⟩ := a.tup bs
      obtain ⟨a2, v2, e2, q2, r2⟩ := b.tup bs
      refine .inr (.inr (.inr ⟨a1, a2, v1, v2, e1, e2, q1, q2, by rw [r1.len, r2.len]; exact c, fun z => ?_, fun _ z => ?_, fun _ _ p np => ?_⟩))
      · subst z
        rw [r1.nil_of, List.nil_append] at q
        rcases b with b | ⟨_, _, _, o⟩
        · rw [← e2]; exact q _ G H (Grow.refl bs) b
        · exact o.elim
      · subst z
        rw [r2.nil_of, List.append_nil] at q
        rcases a with a | ⟨_, _, _, o⟩
        · rw [← e1]; exact q _ G H (Grow.refl bs) a
        · exact o.elim
      · have gr := Grow.lay2 (o := HO.tup (v1 ++ v2)) bs np (fun _ _ z => nomatch z)
        exact q _ _ _ gr ⟨p, _, rfl, .of upd_same, (r1.append r2).mono gr.le⟩
    · rw [if_neg c] at e; cases e
end
end Vs

set_option maxRecDepth 100000
set_option maxHeartbeats 2000000
namespace Vs
open PySem PySem.Spec PyProof.Rows L2 Fw SX

/-- one of two ways, by the data -/
theorem tv_op2 {g : Gm} {W : WX} {f f1 f2 : D → D → Option Rv} {A B : M Rv} {σ : L2.St} {H : Hp} {Q : VK} (c : ∀ d1 d2 out, f d1 d2 = some out → f1 d1 d2 = some out ∨ f2 d1 d2 = some out) (h : TV g W (fOp f A B) σ H Q) : TV g W (fOp f1 A B) σ H Q ∨ TV g W (fOp f2 A B) σ H Q := by
  obtain ⟨G, e, sr, h⟩ := h
  have go : (∀ r, fOp f A B e = r → r ≠ .no → fOp f1 A B e = r ∨ fOp f2 A B e = r) := fun r hr hn => by
    unfold fOp M.bind at hr ⊢
    cases qa : A e with
    | no => rw [qa] at hr; exact absurd hr.symm hn
    | er x e' => rw [qa] at hr; exact .inl hr
    | ok a e1 =>
      rw [qa] at hr
      simp only at hr ⊢
      cases qb : B e1 with
      | no => rw [qb] at hr; exact absurd hr.symm hn
      | er x e' => rw [qb] at hr; exact .inl hr
      | ok b e2 =>
        rw [qb] at hr
        simp only at hr ⊢
        cases q1 : deref a e2 with
        | none => simp only [q1] at hr; exact absurd hr.symm hn
        | some da =>
          cases q2 : deref b e2 with
          | none => simp only [q1, q2] at hr; exact absurd hr.symm hn
          | some db =>
            simp only [q1, q2] at hr ⊢
            cases qf : f da db with
            | none => rw [qf] at hr; exact absurd hr.symm hn
            | some out =>
              rw [qf] at hr
              rcases c da db out qf with z | z
              · rw [z]; exact .inl hr
              · rw [z]; exact .inr hr
  cases q : fOp f A B e with
  | no => rw [q] at h; exact h.elim
  | er x e' =>
    rw [q] at h
    rcases go _ q (fun z => nomatch z) with z | z
    · exact .inl ⟨G, e, sr, by rw [z]; exact h⟩
    · exact .inr ⟨G, e, sr, by rw [z]; exact h⟩
  | ok r e' =>
    rw [q] at h
    rcases go _ q (fun z => nomatch z) with z | z
    · exact .inl ⟨G, e, sr, by rw [z]; exact h⟩
    · exact .inr ⟨G, e, sr, by rw [z]; exact h⟩
def cmpV (f : Int → Int → Bool) (h : List Nat → List Nat → Bool) : D → D → Option Rv
  | .int i, .int j => some (.val (.bl (f i j)))
  | .str a, .str b => some (.val (.bl (h a b)))
  | _, _ => none
def rCmpA (f : Int → Int → Bool) (h : List Nat → List Nat → Bool) : R2 := fun x y H Q => rI0 (fun i j => .bl (f i j)) x y H Q ∨ ∃ i j, x = .str i ∧ y = .str j ∧ Q (.bl (h i.cps.toList j.cps.toList)) H
section
variable {g : Gm}
theorem opv_cmp {f : Int → Int → Bool} {h : List Nat → List Nat → Bool} : OpV g (rCmpA f h) (cmpV f h) := fun G H d1 d2 x y out Q bs sc a b e q => by
  cases d1 <;> cases d2 <;> try cases e
  · exact .inl ⟨_, _, a.int, b.int, q _ G H (Grow.refl bs) rfl⟩
  · exact .inr ⟨_, _, a.str, b.str, q _ G H (Grow.refl bs) rfl⟩
end
def ltD := cmpV (fun i j => decide (i < j)) (fun a b => decide (a < b))
def leD := cmpV (fun i j => decide (i ≤ j)) (fun a b => !decide (b < a))
def gtD := cmpV (fun i j => decide (j < i)) (fun a b => decide (b < a))
def geD := cmpV (fun i j => decide (j ≤ i)) (fun a b => !decide (a < b))
section
variable {X : Cx}
theorem op_ltA : OpR X (compareOp .Lt) (rCmpA (fun i j => decide (i < j)) (fun a b => decide (a < b))) := op_lt.or op_lt_str
theorem op_leA : OpR X (compareOp .LtE) (rCmpA (fun i j => decide (i ≤ j)) (fun a b => !decide (b < a))) := op_le.or op_le_str
theorem op_gtA : OpR X (compareOp .Gt) (rCmpA (fun i j => decide (j < i)) (fun a b => decide (b < a))) := op_gt.or op_gt_str
theorem op_geA : OpR X (compareOp .GtE) (rCmpA (fun i j => decide (j ≤ i)) (fun a b => !decide (a < b))) := op_ge.or op_ge_str
end

def isD : D → D → Option Rv
  | a, .non => some (.val (.bl (match a with | .non => true | _ => false)))
  | .bl a, .bl b => some (.val (.bl (decide (a = b))))
  | _, _ => none
def isnD : D → D → Option Rv
  | a, .non => some (.val (.bl (match a with | .non => false | _ => true)))
  | .bl a, .bl b => some (.val (.bl (!decide (a = b))))
  | _, _ => none
def rIsA : R2 := fun x y H Q => (y = .non ∧ Q (.bl (decide (x = .non))) H) ∨ rIsB x y H Q
def rIsnA : R2 := fun x y H Q => (y = .non ∧ Q (.bl (!decide (x = .non))) H) ∨ rNotB x y H Q
section
variable {g : Gm}
def noCon : D → Bool
  | .con _ => false
  | _ => true
def isE (a b : D) : Option Rv := if noCon a = true then isD a b else none
def isnE (a b : D) : Option Rv := if noCon a = true then isnD a b else none
end

def ixD : D → D → Option Rv
  | .lst xs, .int i => (atI xs i).map .val
  | .tup xs, .int i => (atI xs i).map .val
  | .str l, .int i => if l.length ≤ sizeLine then (atI l i).map fun c => .val (.str [c]) else none
  | .scr ns, .int i => (atI ns i).map fun n => .val (.int n)
  | _, _ => none
def getK (kvs : List (List Nat × D)) (k : List Nat) : Option D := (kvs.find? fun kv => decide (kv.1 = k)).map (·.2)
def ixK : D → D → Option Rv
  | .dct kvs, .str k => (getK kvs k).map .val
  | _, _ => none
def ixA (a b : D) : Option Rv := match ixD a b with
  | some r => some r
  | none => ixK a b
def rDGet : R2 := fun x y H Q => ∃ a v, x = .ref a ∧ DGet H a y (some v) ∧ Q v H
section
variable {g : Gm}
theorem atI_reps {G : Hp} {ds : List D} {vs : List V} {i : Int} {d : D} (r : Reps g G ds vs) (h : atI ds i = some d) : ∃ v, atI vs i = some v ∧ Rep g G d v := by
  unfold atI at h ⊢
  rw [r.len]
  cases q : ixN ds.length i with
  | none => rw [q] at h; cases h
  | some j =>
    rw [q] at h
    have h : ds[j]? = some d := h
    have hl : j < vs.length := by rw [r.len]; exact lt_of_some h
    obtain ⟨d', h', rd⟩ := r.at (List.getElem?_eq_getElem hl)
    rw [h] at h'
    cases h'
    exact ⟨_, List.getElem?_eq_getElem hl, rd⟩
theorem opv_ix : OpV g (rIx g.K) ixD := fun G H d1 d2 x y out Q bs sc a b e q => by
  cases d1 <;> cases d2 <;> try cases e
  · rename_i l i
    simp only [ixD] at e
    by_cases c : l.length ≤ sizeLine
    · rw [if_pos c] at e
      cases z : atI l i with
      | none => rw [z] at e; cases e
      | some ch =>
        rw [z] at e
        cases e
        refine .inr (.inr ⟨_, i, ch, a.str, b.int, by rw [S_len]; exact c, z, q _ G H (Grow.refl bs) ⟨rfl, fun c hc => ?_⟩⟩)
        rw [List.mem_singleton.mp hc]
        obtain ⟨j, _, hj, _⟩ := atI_get z
        exact a.okS ch (List.mem_of_getElem? hj)
    · rw [if_neg c] at e; cases e
  · rename_i xs i
    simp only [ixD] at e
    cases z : atI xs i with
    | none => rw [z] at e; cases e
    | some d =>
      rw [z] at e
      cases e
      obtain ⟨a1, v1, e1, q1, r1⟩ := a.lst bs
      obtain ⟨v, hv, rv⟩ := atI_reps r1 z
      exact .inl ⟨a1, v1, i, v, e1, b.int, q1, hv, q _ G H (Grow.refl bs) rv⟩
  · rename_i xs i
    simp only [ixD] at e
    cases z : atI xs i with
    | none => rw [z] at e; cases e
    | some d =>
      rw [z] at e
      cases e
      obtain ⟨a1, v1, e1, q1, r1⟩ := a.tup bs
      obtain ⟨v, hv, rv⟩ := atI_reps r1 z
      exact .inr (.inl ⟨a1, v1, i, v, e1, b.int, q1, hv, q _ G H (Grow.refl bs) rv⟩)
  · rename_i ns i
    simp only [ixD] at e
    cases z : atI ns i with
    | none => rw [z] at e; cases e
    | some n =>
      rw [z] at e
      cases e
      obtain ⟨ep, en⟩ : x = .ref g.sa ∧ ns = g.sn := by
        rcases a with r | ⟨_, _, _, o⟩
        · exact r
        · exact o.elim
      subst en
      refine .inl ⟨g.sa, _, i, .int n, ep, b.int, sc, ?_, q _ G H (Grow.refl bs) rfl⟩
      unfold atI at z ⊢
      rw [List.length_map]
      cases z2 : ixN g.sn.length i with
      | none => rw [z2] at z; cases z
      | some j =>
        rw [z2] at z
        have z : g.sn[j]? = some n := z
        show (g.sn.map V.int)[j]? = some (.int n)
        rw [List.getElem?_map, z]
        rfl
theorem S_key {a b : List Nat} : decide ((Sum.inr (S a) : Key) = Sum.inr (S b)) = decide (a = b) := by
  by_cases h : a = b
  · subst h; simp
  · rw [decide_eq_false h, decide_eq_false]
    exact fun z => h (S_inj (Sum.inr.inj z))
theorem getK_ok {G : Hp} : ∀ {kvs : List (List Nat × D)} {vs : List (Key × V)} (k : List Nat), RepK g G kvs vs → match getK kvs k with
    | some d => ∃ v, valV vs (.inr (S k)) = some v ∧ Rep g G d v
    | none => valV vs (.inr (S k)) = none
  | [], vs, k, r => by rw [show vs = [] from r]; rfl
  | (k0, d0) :: kvs, vs, k, ⟨_, v, t, e, a, b⟩ => by
    subst e
    have ih := getK_ok k b
    unfold getK valV at ih ⊢
    rw [List.find?_cons, List.find?_cons]
    simp only [S_key]
    by_cases h : k0 = k
    · rw [decide_eq_true h]
      exact ⟨v, rfl, a⟩
    · rw [decide_eq_false h]
      exact ih
theorem dget_ok {G H : Hp} {kvs : List (List Nat × D)} {v : V} (bs : Bs G H) (r : RepH g G H (.dct kvs) v) (k : List Nat) : ∃ a, v = .ref a ∧ IsD H a ∧ match getK kvs k with
    | some d => ∃ u, DGet H a (.str (S k)) (some u) ∧ Rep g G d u
    | none => DGet H a (.str (S k)) none := by
  obtain ⟨a, vs, e, q, rk⟩ := r.dct bs
  refine ⟨a, e, .inl ⟨vs, q⟩, ?_⟩
  have h := getK_ok k rk
  cases z : getK kvs k with
  | none =>
    rw [z] at h
    exact .inl ⟨vs, .inr (S k), q, rfl, h.symm⟩
  | some d =>
    rw [z] at h
    obtain ⟨u, hu, ru⟩ := h
    exact ⟨u, .inl ⟨vs, .inr (S k), q, rfl, hu.symm⟩, ru⟩
theorem opv_dget : OpV g rDGet ixK := fun G H d1 d2 x y out Q bs sc a b e q => by
  cases d1 <;> cases d2 <;> try cases e
  rename_i kvs k
  obtain ⟨p, ep, _, h⟩ := dget_ok bs a k
  simp only [ixK] at e
  cases z : getK kvs k with
  | none => rw [z] at e; cases e
  | some d =>
    rw [z] at e h
    cases e
    obtain ⟨u, hu, ru⟩ := h
    exact ⟨p, u, ep, by rw [b.str]; exact hu, q _ G H (Grow.refl bs) ru⟩
theorem ixA_or (d1 d2 : D) (out : Rv) (h : ixA d1 d2 = some out) : ixD d1 d2 = some out ∨ ixK d1 d2 = some out := by
  unfold ixA at h
  cases q : ixD d1 d2 with
  | some r => rw [q] at h; exact .inl h
  | none => rw [q] at h; exact .inr h
end
section
variable {g : Gm} {W : WX} {k : Nat} {X : Cx}
theorem Cd.hu {W : WX} (c : Cd g W k X) : X.A.units + 1 < cLine := by have := c.room.units; omega
theorem ve_sub {a b : Expr} {A B : M Rv} {pos : Pos} (ha : VE g W k X a A) (hb : VE g W k X b B) (hs : PlainIx b := by intro _ _; rfl) : VE g W k X (.Subscript a b pos) (fOp ixA A B) := by
  refine ⟨fun c => ?_⟩
  have p1 : PE X (.Subscript a b pos) (tOp (rIx g.K) (TV g W A) (TV g W B)) := c.K ▸ pe_ix ix_seq (ha.run c) (hb.run c) hs
  have p2 : PE X (.Subscript a b pos) (tOp rDGet (TV g W A) (TV g W B)) := pe_dget c.hu (ha.run c) (hb.run c) hs
  exact PE.imp (PE.or p1 p2) fun σ H Q q => (tv_op2 ixA_or q).imp (fun z => tv_op opv_ix z) (fun z => tv_op opv_dget z)
end

def flatD : D → Bool
  | .non => true
  | .bl _ => true
  | .int _ => true
  | .str _ => true
  | _ => false
def inT : D → D → Option Bool
  | .str [c], .str l => some (decide (c ∈ l))
  | _, _ => none
def inQ : D → D → Option Bool
  | x, .lst ds => if (flatD x && ds.all flatD) = true then some (ds.any fun y => eqD y x) else none
  | x, .tup ds => if (flatD x && ds.all flatD) = true then some (ds.any fun y => eqD y x) else none
  | _, _ => none
def inK : D → D → Option Bool
  | .str k, .dct kvs => some (getK kvs k).isSome
  | _, _ => none
def boolV (f : D → D → Option Bool) (neg : Bool) (a b : D) : Option Rv := (f a b).map fun r => .val (.bl (if neg then !r else r))
def inA : D → D → Option Bool := fun a b => match inT a b with
  | some r => some r
  | none => (match inQ a b with
    | some r => some r
    | none => inK a b)
def inS (a b : D) : Option Bool := match inT a b with
  | some r => some r
  | none => inQ a b
section
variable {g : Gm}
theorem flat_ok {G H : Hp} {d : D} {v : V} (r : RepH g G H d v) (h : flatD d = true) : flatV v = true := by
  cases d <;> try cases h
  · rw [r.non]; rfl
  · rw [r.bl]; rfl
  · rw [r.int]; rfl
  · rw [r.str]; rfl
theorem eqV_ok {G : Hp} {H : Hp} {d d' : D} {v v' : V} (r : RepH g G H d v) (r' : RepH g G H d' v') (h : flatD d = true) (h' : flatD d' = true) : eqV v v' = eqD d d' := by
  cases d <;> (try cases h) <;> cases d' <;> (try cases h') <;>
    (first | rw [r.non] | rw [r.bl] | rw [r.int] | rw [r.str]) <;> (first | rw [r'.non] | rw [r'.bl] | rw [r'.int] | rw [r'.str]) <;> try rfl
  · exact S_beq_eq
theorem flats_ok {G H : Hp} : ∀ {ds : List D} {vs : List V}, Reps g G ds vs → ds.all flatD = true → vs.all flatV = true ∧ ∀ x v, RepH g G H x v → flatD x = true → inV v vs = ds.any fun y => eqD y x
  | [], vs, r, _ => by rw [show vs = [] from r]; exact ⟨rfl, fun _ _ _ _ => rfl⟩
  | d :: ds, vs, ⟨v, t, e, a, b⟩, h => by
    subst e
    have h1 : flatD d = true ∧ ds.all flatD = true := by simpa using h
    obtain ⟨i1, i2⟩ := flats_ok (H := H) b h1.2
    refine ⟨by rw [List.all_cons, flat_ok (H := H) (.inl a) h1.1, i1]; rfl, fun x u rx fx => ?_⟩
    show (eqV v u || inV u t) = _
    rw [i2 x u rx fx, eqV_ok (H := H) (.inl a) rx h1.1 fx]
    rfl
theorem opv_inQ {neg : Bool} : OpV g (rIn g.K neg) (boolV inQ neg) := fun G H d1 d2 x y out Q bs sc a b e q => by
  unfold boolV at e
  cases z : inQ d1 d2 with
  | none => rw [z] at e; cases e
  | some r =>
    rw [z] at e
    cases e
    have fin : ∀ ds, (∃ p vs, y = .ref p ∧ (SqL g.K H p vs ∨ SqT g.K H p vs) ∧ Reps g G ds vs) → (if (flatD d1 && ds.all flatD) = true then some (ds.any fun y => eqD y d1) else none) = some r → rIn g.K neg x y H Q := fun ds ⟨p, vs, ep, hs, rp⟩ hz => by
      by_cases c : (flatD d1 && ds.all flatD) = true
      · rw [if_pos c] at hz
        cases hz
        obtain ⟨c1, c2⟩ := Bool.and_eq_true_iff.mp c
        obtain ⟨f1, f2⟩ := flats_ok (H := H) rp c2
        refine ⟨p, vs, ep, hs, flat_ok a c1, f1, q _ G H (Grow.refl bs) ?_⟩
        rw [f2 d1 x a c1]
        rfl
      · rw [if_neg c] at hz; cases hz
    cases d2 <;> try cases z
    · obtain ⟨p, vs, ep, hs, rp⟩ := b.lst bs
      exact fin _ ⟨p, vs, ep, .inl hs, rp⟩ z
    · obtain ⟨p, vs, ep, hs, rp⟩ := b.tup bs
      exact fin _ ⟨p, vs, ep, .inr hs, rp⟩ z
def rInT (neg : Bool) : R2 := fun x y H Q => ∃ (c : Nat) (z : Str), x = .str ⟨#[c]⟩ ∧ y = .str z ∧ Q (.bl (if neg then !decide (c ∈ z.cps.toList) else decide (c ∈ z.cps.toList))) H
theorem opv_inT {neg : Bool} : OpV g (rInT neg) (boolV inT neg) := fun G H d1 d2 x y out Q bs sc a b e q => by
  unfold boolV at e
  cases d1 with
  | str l =>
    match l, a, e with
    | [], _, e => cases d2 <;> cases e
    | [c], a, e =>
      cases d2 <;> try cases e
      exact ⟨c, S _, a.str, b.str, q _ G H (Grow.refl bs) rfl⟩
    | c :: c' :: r, _, e => cases d2 <;> cases e
  | _ => cases d2 <;> cases e
def rDInA (neg : Bool) : R2 := fun y x H Q => ∃ a o, x = .ref a ∧ DGet H a y o ∧ Q (.bl (if neg then !o.isSome else o.isSome)) H
theorem opv_inK {neg : Bool} : OpV g (rDInA neg) (boolV inK neg) := fun G H d1 d2 x y out Q bs sc a b e q => by
  unfold boolV at e
  cases d1 <;> cases d2 <;> try cases e
  rename_i k kvs
  obtain ⟨p, ep, _, h⟩ := dget_ok bs b k
  cases z : getK kvs k with
  | none =>
    rw [z] at h
    refine ⟨p, none, ep, by rw [a.str]; exact h, q _ G H (Grow.refl bs) ?_⟩
    simp only [inK, z]
    rfl
  | some d =>
    rw [z] at h
    obtain ⟨u, hu, _⟩ := h
    refine ⟨p, some u, ep, by rw [a.str]; exact hu, q _ G H (Grow.refl bs) ?_⟩
    simp only [inK, z]
    rfl
end
section
variable {X : Cx}
theorem op_inT : OpR X (compareOp .In) (rInT false) := op_in_sign
theorem op_ninT : OpR X (compareOp .NotIn) (rInT true) := op_notIn_sign
end
theorem inA_or (neg : Bool) (d1 d2 : D) (out : Rv) (h : boolV inA neg d1 d2 = some out) : boolV inS neg d1 d2 = some out ∨ boolV inK neg d1 d2 = some out := by
  unfold boolV inA at h
  unfold boolV inS
  cases q1 : inT d1 d2 with
  | some r => rw [q1] at h; exact .inl h
  | none =>
    rw [q1] at h
    simp only at h ⊢
    cases q2 : inQ d1 d2 with
    | some r => rw [q2] at h; exact .inl h
    | none => rw [q2] at h; exact .inr h
theorem inS_or (neg : Bool) (d1 d2 : D) (out : Rv) (h : boolV inS neg d1 d2 = some out) : boolV inT neg d1 d2 = some out ∨ boolV inQ neg d1 d2 = some out := by
  unfold boolV inS at h
  unfold boolV
  cases q1 : inT d1 d2 with
  | some r => rw [q1] at h; exact .inl h
  | none => rw [q1] at h; exact .inr h
section
variable {g : Gm} {W : WX} {k : Nat} {X : Cx} {a b : Expr} {A B : M Rv} {pos : Pos}
theorem ve_in (ha : VE g W k X a A) (hb : VE g W k X b B) (hm : behindInMarks .In b = false := by rfl) : VE g W k X (.Compare a [.In] [b] pos) (fOp (boolV inA false) A B) := by
  refine ⟨fun c => ?_⟩
  have o1 : OpR X (compareOp .In) (fun x y H Q => rInT false x y H Q ∨ rIn g.K false x y H Q) := op_inT.or (c.K ▸ op_in_seq)
  have p1 := pe_cmpR (pos := pos) o1 (ha.run c) (hb.run c) hm
  have p2 : PE X (.Compare a [.In] [b] pos) (tOp (rDInA false) (TV g W A) (TV g W B)) := pe_cmp (pc_din c.hu (ha.run c) (hb.run c)) hm
  exact PE.imp (PE.or p1 p2) fun σ H Q q => (tv_op2 (inA_or false) q).imp (fun z => tv_op (OpV.or opv_inT opv_inQ (inS_or false)) z) (fun z => tv_op opv_inK z)
theorem vt_in (ha : VE g W k X a A) (hb : VE g W k X b B) (hm : behindInMarks .In b = false := by rfl) : VT g W k X (.Compare a [.In] [b] pos) (fTest (fOp (boolV inA false) A B)) := by
  refine ⟨fun c => ?_⟩
  have o1 : OpR X (compareOp .In) (fun x y H Q => rInT false x y H Q ∨ rIn g.K false x y H Q) := op_inT.or (c.K ▸ op_in_seq)
  have p1 := pt_cmpR (pos := pos) o1 (ha.run c) (hb.run c) hm
  have p2 : PT X (.Compare a [.In] [b] pos) (tB (tOp (rDInA false) (TV g W A) (TV g W B))) := pt_cmp (pc_din c.hu (ha.run c) (hb.run c)) hm
  exact PT.imp (PT.or p1 p2) fun σ H Q q => (tv_op2 (inA_or false) (tv_test q)).imp (fun z => tv_op (OpV.or opv_inT opv_inQ (inS_or false)) z) (fun z => tv_op opv_inK z)
theorem vt_nin (ha : VE g W k X a A) (hb : VE g W k X b B) (hm : behindInMarks .NotIn b = false := by rfl) : VT g W k X (.Compare a [.NotIn] [b] pos) (fTest (fOp (boolV inA true) A B)) := by
  refine ⟨fun c => ?_⟩
  have o1 : OpR X (compareOp .NotIn) (fun x y H Q => rInT true x y H Q ∨ rIn g.K true x y H Q) := op_ninT.or (c.K ▸ op_notIn_seq)
  have p1 := pt_cmpR (pos := pos) o1 (ha.run c) (hb.run c) hm
  have p2 : PT X (.Compare a [.NotIn] [b] pos) (tB (tOp (rDInA true) (TV g W A) (TV g W B))) := pt_cmp (pc_dnotin c.hu (ha.run c) (hb.run c)) hm
  exact PT.imp (PT.or p1 p2) fun σ H Q q => (tv_op2 (inA_or true) (tv_test q)).imp (fun z => tv_op (OpV.or opv_inT opv_inQ (inS_or true)) z) (fun z => tv_op opv_inK z)
end
end Vs

set_option maxRecDepth 100000
set_option maxHeartbeats 2000000
namespace Vs
open PySem PySem.Spec PyProof.Rows L2 Fw SX

def mulD : D → D → Option Rv
  | .int i, .int j => if (-(2 ^ 64) < i ∧ i < 2 ^ 64) ∨ (-(2 ^ 64) < j ∧ j < 2 ^ 64) then some (.val (.int (i * j))) else none
  | .str l, .int k => if 0 ≤ k ∧ k ≤ 100000 ∧ l.length ≤ 100 then some (.val (.str (List.replicate k.toNat l).flatten)) else none
  | .lst xs, .int k => if -(2 ^ 63) ≤ k ∧ k < 2 ^ 63 ∧ xs.length * k.toNat ≤ sizeLine then some (.fresh (.lst (List.replicate k.toNat xs).flatten)) else none
  | _, _ => none
def rMulA : R2 := fun x y H Q => rI CMul (fun i j => .int (i * j)) x y H Q ∨ (∃ z k, x = .str z ∧ y = .int k ∧ 0 ≤ k ∧ k ≤ 100000 ∧ z.length ≤ 100 ∧ Q (.str (timesS z k.toNat)) H) ∨ rRep x y H Q
theorem op_mulA {X : Cx} : OpR X (binaryOp .Mult) rMulA := op_mul.or (op_mul_str.or op_rep)
theorem Reps.times {g : Gm} {G : Hp} {ds : List D} {vs : List V} (r : Reps g G ds vs) : ∀ n : Nat, Reps g G (List.replicate n ds).flatten (List.replicate n vs).flatten
  | 0 => rfl
  | n + 1 => by
    rw [List.replicate_succ, List.replicate_succ, List.flatten_cons, List.flatten_cons]
    exact r.append (Reps.times r n)
theorem OkS.times {l : List Nat} (h : OkS l) (n : Nat) : OkS (List.replicate n l).flatten := fun c hc => by
  obtain ⟨x, hx, hc⟩ := List.mem_flatten.mp hc
  rw [List.eq_of_mem_replicate hx] at hc
  exact h c hc
section
variable {g : Gm}
theorem opv_mul : OpV g rMulA mulD := fun G H d1 d2 x y out Q bs sc a b e q => by
  cases d1 <;> cases d2 <;> try cases e
  · rename_i i j
    simp only [mulD] at e
    by_cases c : (-(2 ^ 64) < i ∧ i < 2 ^ 64) ∨ (-(2 ^ 64) < j ∧ j < 2 ^ 64)
    · rw [if_pos c] at e
      cases e
      exact .inl ⟨_, _, a.int, b.int, c, q _ G H (Grow.refl bs) rfl⟩
    · rw [if_neg c] at e; cases e
  · rename_i l k
    simp only [mulD] at e
    by_cases c : 0 ≤ k ∧ k ≤ 100000 ∧ l.length ≤ 100
    · rw [if_pos c] at e
      cases e
      exact .inr (.inl ⟨_, _, a.str, b.int, c.1, c.2.1, by rw [S_len]; exact c.2.2, q _ G H (Grow.refl bs) ⟨rfl, a.okS.times _⟩⟩)
    · rw [if_neg c] at e; cases e
  · rename_i xs k
    simp only [mulD] at e
    by_cases c : -(2 ^ 63) ≤ k ∧ k < 2 ^ 63 ∧ xs.length * k.toNat ≤ sizeLine
    · rw [if_pos c] at e
      cases e
      obtain ⟨a1, v1, e1, q1, r1⟩ := a.lstR bs
      refine .inr (.inr ⟨a1, k, v1, e1, b.int, q1, c.1, c.2.1, by rw [r1.len]; exact c.2.2, fun p np => ?_⟩)
      exact q _ G _ (Grow.lay bs np) ⟨p, rfl, bs.hn np, ⟨_, upd_same, r1.times _⟩, np⟩
    · rw [if_neg c] at e; cases e
end

def cutL {α : Type} (xs : List α) (lo hi : Option Int) : List α := (xs.drop (HT.sIx xs.length 0 lo)).take (HT.sIx xs.length xs.length hi - HT.sIx xs.length 0 lo)
def cutD (d : D) (lo hi : Option Int) : Option Rv := match d with
  | .lst xs => some (.fresh (.lst (cutL xs lo hi)))
  | .tup xs => some (.val (.tup (cutL xs lo hi)))
  | .str l => if l.length ≤ sizeLine then some (.val (.str (cutL l lo hi))) else none
  | .scr ns => some (.fresh (.lst ((cutL ns lo hi).map .int)))
  | _ => none
def TVO (g : Gm) (W : WX) (F : M (Option Int)) : TO := fun σ H Q => ∃ G e, SR g G H σ e ∧ Pst g W σ G H e (fun o _ H' _ => Q o H') (F e)
structure VO (g : Gm) (W : WX) (k : Nat) (X : Cx) (ex : Option Expr) (F : M (Option Int)) : Prop where
  run : Cd g W k X → PO X ex (TVO g W F)
def fPart (A : M Rv) : M (Option Int) := A.bind fun r e => match r with
  | .val (.int i) => .ok (some i) e
  | _ => .no
def fSl (A : M Rv) (L U : M (Option Int)) : M Rv := A.bind fun a => L.bind fun lo => U.bind fun hi e => match deref a e with
  | some d => (match cutD d lo hi with | some r => .ok r e | none => .no)
  | none => .no
theorem cutL_mem {α : Type} {xs : List α} {lo hi : Option Int} {a : α} (h : a ∈ cutL xs lo hi) : a ∈ xs := List.mem_of_mem_drop (List.mem_of_mem_take h)
section
variable {g : Gm} {W : WX} {k : Nat} {X : Cx}
theorem Reps.drop {G : Hp} : ∀ {ds : List D} {vs : List V} (n : Nat), Reps g G ds vs → Reps g G (ds.drop n) (vs.drop n)
  | [], vs, n, r => by rw [show vs = [] from r]; simp [Reps]
  | d :: ds, vs, 0, r => r
  | d :: ds, vs, n + 1, ⟨v, t, e, a, b⟩ => by subst e; exact Reps.drop n b
theorem Reps.take {G : Hp} : ∀ {ds : List D} {vs : List V} (n : Nat), Reps g G ds vs → Reps g G (ds.take n) (vs.take n)
  | [], vs, n, r => by rw [show vs = [] from r]; simp [Reps]
  | d :: ds, vs, 0, r => rfl
  | d :: ds, vs, n + 1, ⟨v, t, e, a, b⟩ => by subst e; exact ⟨v, _, rfl, a, Reps.take n b⟩
theorem Reps.cut {G : Hp} {ds : List D} {vs : List V} (lo hi : Option Int) (r : Reps g G ds vs) : Reps g G (cutL ds lo hi) (cutV vs lo hi) := by
  unfold cutL cutV
  rw [r.len]
  exact (r.drop _).take _
theorem Reps.ints {G : Hp} : ∀ ns : List Int, Reps g G (ns.map .int) (ns.map V.int)
  | [] => rfl
  | n :: ns => ⟨.int n, ns.map V.int, rfl, rfl, Reps.ints ns⟩
theorem vo_none : VO g W k X none (M.ret none) := ⟨fun _ => PO.imp po_none fun σ H Q ⟨G, e, sr, h⟩ => h G H (Tr.refl sr)⟩
theorem vo_some {ex : Expr} {A : M Rv} (h : VE g W k X ex A) : VO g W k X (some ex) (fPart A) := ⟨fun c => PO.imp (po_some (h.run c)) fun σ H Q ⟨G, e, sr, q⟩ => ⟨G, e, sr, Pst.mono (Pst.bind q) fun r G1 H1 e1 t1 h1 v ok => by
  cases r with
  | val d =>
    cases d with
    | int i => exact ⟨i, ok, h1 G1 H1 (Tr.refl t1.sr)⟩
    | _ => exact h1.elim
  | _ => exact h1.elim⟩⟩
def rSlAll (K : PySem.W.Frag) : V → Option Int → Option Int → Hp → VK → Prop := fun x lo hi H Q => rSlL K x lo hi H Q ∨ rSlA K x lo hi H Q ∨ rSlS x lo hi H Q
theorem ve_slice {a : Expr} {lo hi : Option Expr} {A : M Rv} {L U : M (Option Int)} {p2 pos : Pos} (ha : VE g W k X a A) (hl : VO g W k X lo L) (hu : VO g W k X hi U) : VE g W k X (.Subscript a (.Slice lo hi none p2) pos) (fSl A L U) := by
  refine ⟨fun c => ?_⟩
  have sl : SlR X (rSlAll g.K) := c.K ▸ sl_list.or (sl_tupA.or sl_str)
  refine PE.imp (pe_slice sl (ha.run c) (hl.run c) (hu.run c)) fun σ H Q ⟨G, e, sr, h⟩ => ?_
  refine ⟨G, e, sr, Pst.mono (Pst.bind h) fun ra G1 H1 e1 t1 h1 x ok1 => ⟨G1, e1, t1.sr, Pst.mono (Pst.bind h1) fun lo G2 H2 e2 t2 h2 => ⟨G2, e2, t2.sr, Pst.mono (Pst.bind h2) fun hi G3 H3 e3 t3 h3 => ?_⟩⟩⟩
  have ok3 := (ok1.tr t2).tr t3
  cases q : deref ra e3 with
  | none => simp only [q] at h3; exact h3.elim
  | some d =>
    simp only [q] at h3
    have rp := deref_ok t3.sr ok3 q
    have dm : ∀ p, H3 p = none → H p = none := fun p hp => t1.dom p (t2.dom p (t3.dom p hp))
    have bs := t3.sr.bs
    cases d with
    | lst xs =>
      obtain ⟨a1, v1, e1', q1, r1⟩ := rp.lst bs
      refine .inl ⟨a1, v1, e1', q1, fun p np => ?_⟩
      exact h3 G3 _ ((Grow.lay bs np).tr t3.sr) _ (RvNew.ok t3.sr dm (r := .fresh (.lst (cutL xs lo hi))) ⟨p, rfl, bs.hn np, ⟨_, upd_same, r1.cut lo hi⟩, np⟩)
    | scr ns =>
      obtain ⟨ep, en⟩ : x = .ref g.sa ∧ ns = g.sn := by
        rcases rp with r | ⟨_, _, _, o⟩
        · exact r
        · exact o.elim
      subst en
      refine .inl ⟨g.sa, _, ep, t3.sr.scrL, fun p np => ?_⟩
      have r1 : Reps g G3 (g.sn.map D.int) (g.sn.map V.int) := Reps.ints _
      have ec : cutL (g.sn.map D.int) lo hi = (cutL g.sn lo hi).map D.int := by
        unfold cutL
        rw [List.length_map, List.map_take, List.map_drop]
      exact h3 G3 _ ((Grow.lay bs np).tr t3.sr) _ (RvNew.ok t3.sr dm (r := .fresh (.lst ((cutL g.sn lo hi).map .int))) ⟨p, rfl, bs.hn np, ⟨_, upd_same, by rw [← ec]; exact r1.cut lo hi⟩, np⟩)
    | tup xs =>
      obtain ⟨a1, v1, e1', q1, r1⟩ := rp.tup bs
      have rr := r1.cut lo hi
      have wh : ∀ {α : Type} (l : List α), HT.sIx l.length 0 lo = 0 ∧ HT.sIx l.length l.length hi = l.length → cutL l lo hi = l := fun l z => by
        unfold cutL
        rw [z.1, z.2]
        simp
      refine .inr (.inl ⟨a1, v1, e1', q1, fun z => ?_, fun _ p np => ?_⟩)
      · rw [r1.len] at z
        rcases rp with r | ⟨_, _, _, o⟩
        · rw [← e1']
          exact h3 G3 H3 (Tr.refl t3.sr) _ (show Rep g G3 (.tup (cutL xs lo hi)) x by rw [wh xs z]; exact r)
        · exact o.elim
      · have gr := Grow.lay2 (o := HO.tup (cutV v1 lo hi)) bs np (fun _ _ z => nomatch z)
        exact h3 _ _ (gr.tr t3.sr) _ (show Rep g _ (.tup (cutL xs lo hi)) (.ref p) from ⟨p, _, rfl, .of upd_same, rr.mono gr.le⟩)
    | str l =>
      simp only [cutD] at h3
      by_cases cl : l.length ≤ sizeLine
      · rw [if_pos cl] at h3
        refine .inr (.inr ⟨S l, rp.str, by rw [S_len]; exact cl, ?_⟩)
        refine h3 G3 H3 (Tr.refl t3.sr) _ (show Rep g G3 (.str (cutL l lo hi)) _ from ⟨?_, fun c hc => rp.okS c (cutL_mem hc)⟩)
        unfold cutS cutL
        rw [S_len]
      · rw [if_neg cl] at h3; exact h3.elim
    | _ => exact h3.elim
end

def upsN (ys : List (List Nat)) : List (List Nat) := (ups (ys.map S)).map fun s => s.cps.toList
def srtN (ys : List (List Nat)) : List (List Nat) := (srt (ys.map S)).map fun s => s.cps.toList
theorem S_of (s : Str) : S s.cps.toList = s := by
  apply str_ext
  rfl
theorem upsN_S (ys : List (List Nat)) : (upsN ys).map S = ups (ys.map S) := by
  unfold upsN
  rw [List.map_map]
  conv => rhs; rw [← List.map_id (ups (ys.map S))]
  exact List.map_congr_left fun s _ => S_of s
theorem srtN_S (ys : List (List Nat)) : (srtN ys).map S = srt (ys.map S) := by
  unfold srtN
  rw [List.map_map]
  conv => rhs; rw [← List.map_id (srt (ys.map S))]
  exact List.map_congr_left fun s _ => S_of s
def lenD : List D → Option Rv
  | [.str l] => if l.length ≤ sizeLine then some (.val (.int l.length)) else none
  | [.lst xs] => some (.val (.int xs.length))
  | [.tup xs] => some (.val (.int xs.length))
  | [.scr ns] => some (.val (.int ns.length))
  | [.dct kvs] => some (.val (.int kvs.length))
  | [.set xs] => some (.val (.int (upsN xs).length))
  | _ => none
def rLenA (K : PySem.W.Frag) (w : World) : List V → Hp → VK → Prop := fun xs H Q => rLenC K xs H Q ∨ rLenSet w xs H Q ∨ (∃ a kvs, xs = [V.ref a] ∧ Rd H a (.dK kvs) ∧ Q (.int kvs.length) H)
theorem call_lenDR {X : Cx} : CallR X (.builtin "len") (fun xs H Q => ∃ a kvs, xs = [V.ref a] ∧ Rd H a (.dK kvs) ∧ Q (.int kvs.length) H) := fun pins s σ H xs us Q I r ⟨a, kvs, ex, ha, q⟩ => by
  subst ex
  obtain ⟨u, eu, ru⟩ := vals1 r
  subst eu
  obtain rfl : u = Value.ref a := ru
  exact d_len I ha fun t s' I' => ⟨.int kvs.length, H, I', ⟨t, rfl⟩, q⟩
theorem call_lenA {X : Cx} : CallR X (.builtin "len") (rLenA X.K X.w) := call_len.or (cr_lenSet.or call_lenDR)
section
variable {g : Gm}
theorem RepsH.two {G H : Hp} {d d' : D} {vs : List V} (h : RepsH g G H [d, d'] vs) : ∃ v v', vs = [v, v'] ∧ RepH g G H d v ∧ RepH g G H d' v' := by
  obtain ⟨v, r, e, a, b⟩ := h
  obtain ⟨v', e', b'⟩ := b.one
  exact ⟨v, v', by rw [e, e'], a, b'⟩
theorem set_len {L : List Str} {xs : List (List Nat)} (nd : L.Nodup) (mem : ∀ k, k ∈ L ↔ k ∈ xs.map S) : L.length = (upsN xs).length := by
  have e : srt L = ups (xs.map S) := srt_set nd mem
  have e2 : (upsN xs).length = (ups (xs.map S)).length := by unfold upsN; rw [List.length_map]
  rw [e2, ← e, srt_len]
theorem cv_len : CallV g (rLenA g.K g.w) lenD := fun G H ds vs out Q bs sc r e q => by
  match ds, e with
  | [], e => cases e
  | d :: d' :: t, e => cases d <;> cases e
  | [d], e =>
    obtain ⟨v, ev, a⟩ := r.one
    subst ev
    cases d with
    | str l =>
      simp only [lenD] at e
      by_cases c : l.length ≤ sizeLine
      · rw [if_pos c] at e
        cases e
        rw [a.str]
        exact .inl ⟨_, l.length, rfl, ⟨by rw [S_len]; exact c, (S_len l).symm⟩, q _ G H (Grow.refl bs) rfl⟩
      · rw [if_neg c] at e; cases e
    | lst xs =>
      cases e
      obtain ⟨p, us, ep, hs, rp⟩ := a.lst bs
      rw [ep]
      exact .inl ⟨_, xs.length, rfl, .inl ⟨us, hs, rp.len.symm⟩, q _ G H (Grow.refl bs) rfl⟩
    | tup xs =>
      cases e
      obtain ⟨p, us, ep, hs, rp⟩ := a.tup bs
      rw [ep]
      exact .inl ⟨_, xs.length, rfl, .inr ⟨us, hs, rp.len.symm⟩, q _ G H (Grow.refl bs) rfl⟩
    | scr ns =>
      cases e
      obtain ⟨ep, en⟩ := a.scr
      subst en
      rw [ep]
      exact .inl ⟨_, g.sn.length, rfl, .inl ⟨_, sc, by rw [List.length_map]⟩, q _ G H (Grow.refl bs) rfl⟩
    | dct kvs =>
      cases e
      obtain ⟨p, us, ep, hs, rp⟩ := a.dct bs
      rw [ep]
      refine .inr (.inr ⟨p, us, rfl, hs, ?_⟩)
      rw [rp.len]
      exact q _ G H (Grow.refl bs) rfl
    | set xs =>
      cases e
      obtain ⟨p, L, ep, hs, nd, mem⟩ := a.set bs
      rw [ep]
      refine .inr (.inl ⟨p, L, rfl, hs, ?_⟩)
      rw [set_len nd mem]
      exact q _ G H (Grow.refl bs) rfl
    | _ => cases e
end

def intD : List D → Option Rv
  | [.int i] => some (.val (.int i))
  | [.bl b] => some (.val (.int (if b then 1 else 0)))
  | _ => none
/-- the digits of a number as a text -/
def digS (i : Int) : List Nat := (toString i : Str).cps.toList
def strD : List D → Option Rv
  | [.int i] => if i.natAbs.log2 < 1920 ∧ (digS i).all (· < 1114112) = true then some (.val (.str (digS i))) else none
  | [.str l] => some (.val (.str l))
  | _ => none
def absD : List D → Option Rv
  | [.int i] => some (.val (.int (if i < 0 then -i else i)))
  | _ => none
def max2D : List D → Option Rv
  | [.int i, .int j] => some (.val (.int (if j > i then j else i)))
  | _ => none
def min2D : List D → Option Rv
  | [.int i, .int j] => some (.val (.int (if j < i then j else i)))
  | _ => none
section
variable {g : Gm}
theorem cv_int : CallV g (fun xs H Q => (∃ i, xs = [.int i] ∧ Q (.int i) H) ∨ ∃ k, xs = [.bl k] ∧ Q (.int (if k then 1 else 0)) H) intD := fun G H ds vs out Q bs sc r e q => by
  match ds, e with
  | [], e => cases e
  | d :: d' :: t, e => cases d <;> cases e
  | [d], e =>
    obtain ⟨v, ev, a⟩ := r.one
    subst ev
    cases d <;> try cases e
    · exact .inr ⟨_, by rw [a.bl], q _ G H (Grow.refl bs) rfl⟩
    · exact .inl ⟨_, by rw [a.int], q _ G H (Grow.refl bs) rfl⟩
end
def strsD : List D → Option (List (List Nat))
  | [] => some []
  | .str l :: r => (strsD r).map (l :: ·)
  | _ :: _ => none
def blsD : List D → Option (List Bool)
  | [] => some []
  | .bl b :: r => (blsD r).map (b :: ·)
  | _ :: _ => none
def txD : D → Option (List (List Nat))
  | .str l => if l.length ≤ sizeLine then some (l.map fun c => [c]) else none
  | .lst ds => strsD ds
  | .tup ds => strsD ds
  | _ => none
section
variable {g : Gm}
theorem strsD_ok {G : Hp} : ∀ {ds : List D} {vs : List V} {ls : List (List Nat)}, Reps g G ds vs → strsD ds = some ls → vs = (ls.map S).map V.str ∧ ∀ l ∈ ls, OkS l
  | [], vs, ls, r, h => by cases h; rw [show vs = [] from r]; exact ⟨rfl, fun l hl => nomatch hl⟩
  | .str l :: ds, vs, ls, ⟨v, t, e, a, b⟩, h => by
    unfold strsD at h
    cases q : strsD ds with
    | none => rw [q] at h; cases h
    | some ls' =>
      rw [q] at h
      cases h
      obtain ⟨i1, i2⟩ := strsD_ok b q
      rw [e, i1, a.1]
      exact ⟨rfl, fun x hx => (List.mem_cons.mp hx).elim (fun z => z ▸ a.2) (i2 x)⟩
  | .non :: _, _, _, _, h => by cases h
  | .bl _ :: _, _, _, _, h => by cases h
  | .int _ :: _, _, _, _, h => by cases h
  | .lst _ :: _, _, _, _, h => by cases h
  | .tup _ :: _, _, _, _, h => by cases h
  | .dct _ :: _, _, _, _, h => by cases h
  | .set _ :: _, _, _, _, h => by cases h
  | .ins _ _ :: _, _, _, _, h => by cases h
  | .con _ :: _, _, _, _, h => by cases h
  | .scr _ :: _, _, _, _, h => by cases h
theorem Reps.strs {G : Hp} : ∀ {ls : List (List Nat)}, (∀ l ∈ ls, OkS l) → Reps g G (ls.map .str) ((ls.map S).map V.str)
  | [], _ => rfl
  | l :: ls, h => ⟨_, _, rfl, ⟨rfl, h l List.mem_cons_self⟩, Reps.strs fun x hx => h x (List.mem_cons_of_mem _ hx)⟩
theorem txD_ok {G H : Hp} (bs : Bs G H) {d : D} {v : V} {ls : List (List Nat)} (r : RepH g G H d v) (h : txD d = some ls) : TxSrc g.K H v (ls.map S) ∧ ∀ l ∈ ls, OkS l := by
  cases d <;> try cases h
  · rename_i l
    simp only [txD] at h
    by_cases c : l.length ≤ sizeLine
    · rw [if_pos c] at h
      cases h
      refine ⟨.inl ⟨S l, r.str, ?_, by rw [S_len]; exact c⟩, fun x hx => ?_⟩
      · rw [signs_S, List.map_map]; rfl
      · obtain ⟨ch, hc, rfl⟩ := List.mem_map.mp hx
        intro y hy
        rw [List.mem_singleton.mp hy]
        exact r.okS ch hc
    · rw [if_neg c] at h; cases h
  · obtain ⟨p, us, ep, hs, rp⟩ := r.lst bs
    obtain ⟨e1, e2⟩ := strsD_ok rp h
    exact ⟨.inr ⟨p, ep, .inl (by rw [← e1]; exact hs)⟩, e2⟩
  · obtain ⟨p, us, ep, hs, rp⟩ := r.tup bs
    obtain ⟨e1, e2⟩ := strsD_ok rp h
    exact ⟨.inr ⟨p, ep, .inr (by rw [← e1]; exact hs)⟩, e2⟩
end
def sortD : List D → Option Rv
  | [.set xs] => if (upsN xs).length ≤ sizeLine ∧ xs.all (fun l => l.all (· < 1114112)) = true then some (.fresh (.lst ((upsN xs).map .str))) else none
  | [d] => (match txD d with | some ls => if ls.length ≤ sizeLine then some (.fresh (.lst ((srtN ls).map .str))) else none | none => none)
  | _ => none
def setD : List D → Option Rv
  | [d] => (match txD d with | some ls => if ls.length ≤ 4000 then some (.val (.set ls)) else none | none => none)
  | _ => none
theorem srtN_mem {ls : List (List Nat)} {l : List Nat} : l ∈ srtN ls ↔ l ∈ ls := by
  have h : S l ∈ (srtN ls).map S ↔ S l ∈ ls.map S := by rw [srtN_S]; exact srt_mem
  have inj : ∀ {xs : List (List Nat)}, S l ∈ xs.map S ↔ l ∈ xs := fun {xs} => by
    rw [List.mem_map]
    constructor
    · rintro ⟨y, hy, e⟩; rw [← S_inj e]; exact hy
    · exact fun h => ⟨l, h, rfl⟩
  rw [inj, inj] at h
  exact h
theorem upsN_mem {ls : List (List Nat)} {l : List Nat} : l ∈ upsN ls ↔ l ∈ ls := by
  have h : S l ∈ (upsN ls).map S ↔ S l ∈ ls.map S := by rw [upsN_S]; exact ups_mem
  have inj : ∀ {xs : List (List Nat)}, S l ∈ xs.map S ↔ l ∈ xs := fun {xs} => by
    rw [List.mem_map]
    constructor
    · rintro ⟨y, hy, e⟩; rw [← S_inj e]; exact hy
    · exact fun h => ⟨l, h, rfl⟩
  rw [inj, inj] at h
  exact h
section
variable {g : Gm}
theorem cv_sort : CallV g (rSortT g.K g.w) sortD := fun G H ds vs out Q bs sc r e q => by
  match ds, e with
  | [], e => cases e
  | d :: d' :: t, e => cases d <;> cases e
  | [d], e =>
    obtain ⟨v, ev, a⟩ := r.one
    subst ev
    have gen : (match txD d with | some ls => if ls.length ≤ sizeLine then some (Rv.fresh (.lst ((srtN ls).map .str))) else none | none => none) = some out → rSortT g.K g.w [v] H Q := fun e => by
      cases z : txD d with
      | none => rw [z] at e; cases e
      | some ls =>
        rw [z] at e
        simp only at e
        by_cases c : ls.length ≤ sizeLine
        · rw [if_pos c] at e
          cases e
          obtain ⟨t1, t2⟩ := txD_ok bs a z
          refine ⟨v, ls.map S, rfl, .inl t1, by rw [List.length_map]; exact c, fun p np => ?_⟩
          rw [← srtN_S]
          exact q _ G _ (Grow.lay bs np) ⟨p, rfl, bs.hn np, ⟨_, upd_same, Reps.strs fun l hl => t2 l (srtN_mem.mp hl)⟩, np⟩
        · rw [if_neg c] at e; cases e
    cases d with
    | set xs =>
      simp only [sortD] at e
      by_cases c : (upsN xs).length ≤ sizeLine ∧ xs.all (fun l => l.all (· < 1114112)) = true
      · rw [if_pos c] at e
        cases e
        obtain ⟨p, L, ep, hs, nd, mem⟩ := a.set bs
        refine ⟨v, L, rfl, .inr ⟨p, ep, hs⟩, by rw [set_len nd mem]; exact c.1, fun p' np => ?_⟩
        have e2 : srt L = (upsN xs).map S := by rw [upsN_S]; exact srt_set nd mem
        rw [e2]
        refine q _ G _ (Grow.lay bs np) ⟨p', rfl, bs.hn np, ⟨_, upd_same, Reps.strs fun l hl x hx => ?_⟩, np⟩
        exact of_decide_eq_true (List.all_eq_true.mp (List.all_eq_true.mp c.2 l (upsN_mem.mp hl)) x hx)
      · rw [if_neg c] at e; cases e
    | _ => exact gen e
theorem cv_set : CallV g (rSetT g.K g.w) setD := fun G H ds vs out Q bs sc r e q => by
  match ds, e with
  | [], e => cases e
  | d :: d' :: t, e => cases e
  | [d], e =>
    obtain ⟨v, ev, a⟩ := r.one
    subst ev
    simp only [setD] at e
    cases z : txD d with
    | none => rw [z] at e; cases e
    | some ls =>
      rw [z] at e
      simp only at e
      by_cases c : ls.length ≤ 4000
      · rw [if_pos c] at e
        cases e
        obtain ⟨t1, t2⟩ := txD_ok bs a z
        refine ⟨v, ls.map S, rfl, t1, by rw [List.length_map]; exact c, fun p L np nd mem => ?_⟩
        have gr := Grow.lay2 (o := SetS g.w p L) bs np (fun _ _ z => nomatch z)
        exact q _ _ _ gr ⟨p, L, rfl, upd_same, nd, mem⟩
      · rw [if_neg c] at e; cases e
end
def allD : List D → Option Rv
  | [.lst ds] => (blsD ds).map fun bs => .val (.bl (bs.all id))
  | _ => none
def anyD : List D → Option Rv
  | [.lst ds] => (blsD ds).map fun bs => .val (.bl (bs.any id))
  | _ => none
section
variable {g : Gm}
end
def listD : List D → Option Rv
  | [.lst ds] => some (.fresh (.lst ds))
  | [.tup ds] => some (.fresh (.lst ds))
  | [.str l] => if l.length ≤ sizeLine then some (.fresh (.lst (l.map fun c => .str [c]))) else none
  | _ => none
def tupD : List D → Option Rv
  | [.lst ds] => some (.val (.tup ds))
  | [.tup ds] => some (.val (.tup ds))
  | _ => none
def rTupOf (K : PySem.W.Frag) : List V → Hp → VK → Prop := fun xs H Q => ∃ p ys, xs = [.ref p] ∧ ((SqL K H p ys ∧ ∀ l, H l = none → Q (.ref l) (upd H l (.tup ys))) ∨ (SqT K H p ys ∧ Q (.ref p) H))
section
variable {g : Gm}
theorem cv_list : CallV g (fun xs H Q => rListOf g.K xs H Q ∨ rListT xs H Q) listD := fun G H ds vs out Q bs sc r e q => by
  match ds, e with
  | [], e => cases e
  | d :: d' :: t, e => cases d <;> cases e
  | [d], e =>
    obtain ⟨v, ev, a⟩ := r.one
    subst ev
    cases d <;> try cases e
    · rename_i l
      simp only [listD] at e
      by_cases c : l.length ≤ sizeLine
      · rw [if_pos c] at e
        cases e
        refine .inr ⟨S l, by rw [a.str], by rw [S_len]; exact c, fun p np => ?_⟩
        refine q _ G _ (Grow.lay bs np) ⟨p, rfl, bs.hn np, ⟨_, upd_same, ?_⟩, np⟩
        have := Reps.strs (g := g) (G := G) (ls := l.map fun c => [c]) fun x hx => by
          obtain ⟨ch, hc, rfl⟩ := List.mem_map.mp hx
          intro y hy
          rw [List.mem_singleton.mp hy]
          exact a.okS ch hc
        have e2 : ((l.map fun c => [c]).map S).map V.str = (l.map fun c => S [c]).map V.str := by simp [List.map_map, Function.comp_def]
        have e3 : (l.map fun c => [c]).map D.str = l.map fun c => D.str [c] := by rw [List.map_map]; rfl
        rw [e2, e3] at this
        rw [signs_S]
        exact this
      · rw [if_neg c] at e; cases e
    · obtain ⟨p, us, ep, hs, rp⟩ := a.lst bs
      refine .inl ⟨p, us, by rw [ep], .inl hs, fun l hl => ?_⟩
      exact q _ G _ (Grow.lay bs hl) ⟨l, rfl, bs.hn hl, ⟨_, upd_same, rp⟩, hl⟩
    · obtain ⟨p, us, ep, hs, rp⟩ := a.tup bs
      refine .inl ⟨p, us, by rw [ep], .inr hs, fun l hl => ?_⟩
      exact q _ G _ (Grow.lay bs hl) ⟨l, rfl, bs.hn hl, ⟨_, upd_same, rp⟩, hl⟩
theorem cv_tup : CallV g (rTupOf g.K) tupD := fun G H ds vs out Q bs sc r e q => by
  match ds, e with
  | [], e => cases e
  | d :: d' :: t, e => cases d <;> cases e
  | [d], e =>
    obtain ⟨v, ev, a⟩ := r.one
    subst ev
    cases d <;> try cases e
    · obtain ⟨p, us, ep, hs, rp⟩ := a.lst bs
      refine ⟨p, us, by rw [ep], .inl ⟨hs, fun l hl => ?_⟩⟩
      have gr := Grow.lay2 (o := HO.tup us) bs hl (fun _ _ z => nomatch z)
      exact q _ _ _ gr ⟨l, us, rfl, .of upd_same, rp.mono gr.le⟩
    · obtain ⟨p, us, ep, hs, rp⟩ := a.tup bs
      refine ⟨p, us, by rw [ep], .inr ⟨hs, ?_⟩⟩
      rcases a with a | ⟨_, _, _, o⟩
      · rw [← ep]; exact q _ G H (Grow.refl bs) a
      · exact o.elim
end
end Vs

set_option maxRecDepth 100000
set_option maxHeartbeats 2000000
namespace Vs
open PySem PySem.Spec PyProof.Rows L2 Fw SX

def tyD (T : String) : D → Bool
  | .str _ => T == "str"
  | .int _ => T == "int"
  | .lst _ => T == "list"
  | _ => false
def MtV (g : Gm) (r : V → List V → Hp → VK → Prop) (f : D → List D → Option Rv) : Prop := ∀ (G H : Hp) (d : D) (ds : List D) (x : V) (xs : List V) (out : Rv) (Q : VK), Bs G H → RepH g G H d x → RepsH g G H ds xs → f d ds = some out →
  (∀ v G' H', Grow G H G' H' → RvNew g G' H' H out v → Q v H') → r x xs H Q
def fMth (T : String) (f : D → List D → Option Rv) (O : M Rv) (A : M (List Rv)) : M Rv := O.bind fun o e0 => match deref o e0 with
  | some d0 => if tyD T d0 = true then (A.bind fun rs e => match deref o e, derefs rs e with
    | some d, some ds => (match f d ds with | some r => .ok r e | none => .no)
    | _, _ => .no) e0 else .no
  | none => .no
section
variable {g : Gm} {W : WX} {k : Nat} {X : Cx}
theorem tyD_ok {G H : Hp} (bs : Bs G H) {d : D} {x : V} {T : String} (r : RepH g G H d x) (h : tyD T d = true) : tyV g.K T x H := by
  cases d <;> try cases h
  · rw [r.int]; exact eq_of_beq h
  · rw [r.str]; exact eq_of_beq h
  · obtain ⟨p, vs, ep, hs, _⟩ := r.lst bs
    rw [ep]
    exact .inl ⟨eq_of_beq h, vs, hs⟩
theorem tv_mth {T : String} {r : V → List V → Hp → VK → Prop} {f : D → List D → Option Rv} {O : M Rv} {A : M (List Rv)} {σ : L2.St} {H : Hp} {Q : VK} (hv : MtV g r f) (h : TV g W (fMth T f O A) σ H Q) : tBM g.K T r (TV g W O) (TVA g W A) σ H Q := by
  obtain ⟨G, e, sr, h⟩ := h
  refine ⟨G, e, sr, Pst.mono (Pst.bind h) fun o G1 H1 e1 t1 h1 x ok1 => ?_⟩
  cases q : deref o e1 with
  | none => simp only [q] at h1; exact h1.elim
  | some d0 =>
    simp only [q] at h1
    by_cases ht : tyD T d0 = true
    · rw [if_pos ht] at h1
      refine ⟨tyD_ok t1.sr.bs (deref_ok t1.sr ok1 q) ht, G1, e1, t1.sr, Pst.mono (Pst.bind h1) fun rs G2 H2 e2 t2 h2 vs ok2 => ?_⟩
      have ok1 := ok1.tr t2
      cases q1 : deref o e2 with
      | none => simp only [q1] at h2; exact h2.elim
      | some d =>
        cases q2 : derefs rs e2 with
        | none => simp only [q1, q2] at h2; exact h2.elim
        | some ds =>
          cases qf : f d ds with
          | none => simp only [q1, q2, qf] at h2; exact h2.elim
          | some out =>
            simp only [q1, q2, qf] at h2
            exact hv G2 H2 d ds x vs out Q t2.sr.bs (deref_ok t2.sr ok1 q1) (derefs_ok t2.sr ok2 q2) qf fun z G3 H3 gr nw => h2 G3 H3 (gr.tr t2.sr) z (nw.ok t2.sr fun p hp => t1.dom p (t2.dom p hp))
    · rw [if_neg ht] at h1; exact h1.elim
theorem ve_mth {T : String} {name : Str} {id : String} {r : V → List V → Hp → VK → Prop} {f : D → List D → Option Rv} {o ex : Expr} {es : List Expr} {O : M Rv} {A : M (List Rv)} {apos cpos : Pos} (pa : PlainAttrs T) (slot : Slot T name id) (hty : typeOf (.builtin id) = pure (.type "method_descriptor"))
    (hm : Cd g W k X → MtR X id r) (hv : MtV g r f) (ho : VE g W k X o O) (ha : VA g W k X (ex :: es) A) (hbase : attributeBase o name X.env (eval o X.env) = eval o X.env := by rfl)
    (hfew : ((backTo cpos (starEach (ex :: es) X.env)).all (fun x => !x.1) && (backToKw cpos (keywordEach [] X.env)).all (fun x => x.1.isSome)
      && decide ((ex :: es).length + ([] : List Keyword).length + (if ([] : List Keyword).isEmpty then 0 else 1) < 30)) = true := by rfl)
    (hline : (apos.endLine == cpos.line) = true := by rfl) (hs : starEach (ex :: es) X.env = (false, eval ex X.env) :: starEach es X.env := by rfl) (hplain : (backTo cpos (starEach es X.env)).any (·.1) = false := by rfl) :
    VE g W k X (.Call (.Attribute o name apos) (ex :: es) [] cpos) (fMth T f O A) :=
  ⟨fun c => PE.imp (pe_bm' g.K pa slot hty (hm c) (ho.run c) (ha.run c) c.K hbase hfew hline hs hplain) fun _ _ _ q => tv_mth hv q⟩
end

def joinD : D → List D → Option Rv
  | .str a, [.lst ds] => (match strsD ds with | some ls => if (ls.map (·.length)).sum + ls.length * a.length ≤ 16777216 then some (.val (.str (TL.joinL a ls))) else none | none => none)
  | .str a, [.tup ds] => (match strsD ds with | some ls => if (ls.map (·.length)).sum + ls.length * a.length ≤ 16777216 then some (.val (.str (TL.joinL a ls))) else none | none => none)
  | _, _ => none
def splitD : D → List D → Option Rv
  | .str a, [.str b] => if b ≠ [] ∧ b.all (· < 256) = true ∧ a.length + 2 ≤ sizeLine then some (.fresh (.lst ((TL.spl b 0 [] a).map .str))) else none
  | _, _ => none
theorem joinL_ok {a : List Nat} (ha : OkS a) : ∀ {ls : List (List Nat)}, (∀ l ∈ ls, OkS l) → OkS (TL.joinL a ls)
  | [], _ => fun c hc => nomatch hc
  | [p], h => h p List.mem_cons_self
  | p :: q :: r, h => (h p List.mem_cons_self).app (ha.app (joinL_ok ha fun l hl => h l (List.mem_cons_of_mem _ hl)))
section
variable {g : Gm}
theorem mv_join : MtV g (rJoin g.K) joinD := fun G H d ds x xs out Q bs a b e q => by
  cases d <;> try cases e
  rename_i sep
  have fin : ∀ (ls : List (List Nat)) (p : Addr) (us : List V), xs = [.ref p] → (SqL g.K H p us ∨ SqT g.K H p us) → us = (ls.map S).map V.str → (∀ l ∈ ls, OkS l) → (if (ls.map (·.length)).sum + ls.length * sep.length ≤ 16777216 then some (Rv.val (.str (TL.joinL sep ls))) else none) = some out → rJoin g.K x xs H Q := fun ls p us ex hs eu ok e => by
    by_cases c : (ls.map (·.length)).sum + ls.length * sep.length ≤ 16777216
    · rw [if_pos c] at e
      cases e
      refine ⟨S sep, p, ls.map S, a.str, ex, ?_, ?_, ?_⟩
      · rw [← eu]; exact hs
      · rw [List.map_map, List.length_map, S_len]
        have : (ls.map ((fun s : Str => s.length) ∘ S)) = ls.map (·.length) := List.map_congr_left fun l _ => S_len l
        rw [this]
        exact c
      · rw [join_S]
        exact q _ G H (Grow.refl bs) ⟨rfl, joinL_ok a.okS ok⟩
    · rw [if_neg c] at e; cases e
  match ds, e with
  | [], e => cases e
  | d :: d' :: t, e => cases d <;> cases e
  | [d], e =>
    obtain ⟨v, ev, bb⟩ := b.one
    cases d <;> try cases e
    · rename_i zs
      obtain ⟨p, us, ep, hs, rp⟩ := bb.lst bs
      simp only [joinD] at e
      cases z : strsD zs with
      | none => rw [z] at e; cases e
      | some ls =>
        rw [z] at e
        obtain ⟨e1, e2⟩ := strsD_ok rp z
        exact fin ls p us (by rw [ev, ep]) (.inl hs) e1 e2 e
    · rename_i zs
      obtain ⟨p, us, ep, hs, rp⟩ := bb.tup bs
      simp only [joinD] at e
      cases z : strsD zs with
      | none => rw [z] at e; cases e
      | some ls =>
        rw [z] at e
        obtain ⟨e1, e2⟩ := strsD_ok rp z
        exact fin ls p us (by rw [ev, ep]) (.inr hs) e1 e2 e
def rSplit : V → List V → Hp → VK → Prop := fun x xs H Q => ∃ a b, x = .str a ∧ xs = [.str b] ∧ (b.length == 0) = false ∧ a.length + 2 ≤ sizeLine ∧ rNewStrs (Txt.split a b) H Q
def startsD : D → List D → Option Rv
  | .str a, [.str b] => some (.val (.bl (Txt.startswith (S a) (S b))))
  | _, _ => none
def endsD : D → List D → Option Rv
  | .str a, [.str b] => some (.val (.bl (Txt.endswith (S a) (S b))))
  | _, _ => none
def countD : D → List D → Option Rv
  | .str a, [.str b] => some (.val (.int (Txt.count (S a) (S b))))
  | _, _ => none
end

section
variable {g : Gm} {G H : Hp} {σ : L2.St} {e : Ve} {i : Nat} {d d' : D} {p : Addr} {o' : HO}
/-- the slot's state with other data -/
def reSl (s : Sl) (d : D) : Sl := match s with
  | .ow _ => .ow d
  | .bo _ => .bo d
  | s => s
theorem SR.mut {s : Sl} (sr : SR g G H σ e) (hi : e[i]? = some s) (ho : ownD s = some d) (hp : σ[i]? = some (some (.ref p))) (ow : Own g G H p d) (hn : Own g G (upd H p o') p d') : Tr g σ G H e G (upd H p o') (e.set i (reSl s d')) := by
  obtain ⟨p1, hp1, n1, _, rt⟩ := sr.own hi ho
  rw [hp] at hp1
  cases hp1
  obtain ⟨ob, hob, pl, _⟩ := ow.there
  have hlt := lt_of_some hi
  have ve : VeLe e (e.set i (reSl s d')) := ⟨by rw [List.length_set], fun j t ht => by
    rw [getElem?_set']
    by_cases hj : i = j
    · subst hj
      rw [if_pos ⟨rfl, hlt⟩]
      rw [hi] at ht
      cases ht
      refine ⟨_, rfl, ?_⟩
      cases s with
      | ow _ => exact ⟨d', .inl rfl⟩
      | bo _ => exact ⟨d', .inl rfl⟩
      | _ => cases ho
    · rw [if_neg (fun z => hj z.1)]
      exact ⟨t, ht, SlLe.refl t⟩⟩
  have ne : ∀ j q, Rt σ e j q → j ≠ i → q ≠ p := fun j q r hj z => hj (sr.inj j i p (z ▸ r) rt)
  refine ⟨⟨sr.bs.put n1, tabs_put sr.tabs fun o h => by rw [hob] at h; cases h; exact pl, ?_, by rw [List.length_set]; exact sr.len, fun j => ?_, fun j l q a b => sr.inj j l q (ve.rt a) (ve.rt b)⟩, Le.refl G, fun a o h n _ => by rw [upd_ne (fun z => n i (by rw [z]; exact rt))]; exact h, fun a h => ?_, fun a h _ _ => h, ve⟩
  · exact sr.scr.keep fun o u h => by rw [upd_ne (fun z => by rw [z, hob] at h; cases h; exact pl)]; exact h
  · rw [getElem?_set']
    by_cases hj : i = j
    · subst hj
      rw [if_pos ⟨rfl, hlt⟩]
      cases s with
      | ow _ => exact ⟨p, hp, n1, hn⟩
      | bo _ => exact ⟨p, hp, n1, hn⟩
      | _ => cases ho
    · rw [if_neg (fun z => hj z.1)]
      have sl := sr.slot j
      cases q : e[j]? with
      | none => trivial
      | some t =>
        rw [q] at sl
        cases t with
        | un => trivial
        | sh _ => exact sl
        | bf _ => exact sl
        | lo _ =>
          obtain ⟨p', a, b, c⟩ := sl
          obtain ⟨ob', u', ho', _⟩ := c.there
          exact ⟨p', a, b, c.mono (Le.refl G) (upd_ne fun z => by rw [z, hob] at ho'; cases ho'; exact pl)⟩
        | ow _ =>
          obtain ⟨p', a, b, c⟩ := sl
          exact ⟨p', a, b, c.mono (Le.refl G) (upd_ne (ne j p' ⟨by rw [q]; trivial, a⟩ fun z => hj z.symm))⟩
        | bo _ =>
          obtain ⟨p', a, b, c⟩ := sl
          exact ⟨p', a, b, c.mono (Le.refl G) (upd_ne (ne j p' ⟨by rw [q]; trivial, a⟩ fun z => hj z.symm))⟩
  · by_cases z : a = p
    · rw [z, upd_same] at h; cases h
    · rw [upd_ne z] at h; exact h
end
/-- a method that changes the object: new data, and what it gives -/
def MutV (g : Gm) (r : V → List V → Hp → VK → Prop) (f : D → List D → Option (D × D)) : Prop := ∀ (G H : Hp) (p : Addr) (d : D) (ds : List D) (vs : List V) (d' dr : D) (Q : VK), Own g G H p d → Reps g G ds vs → f d ds = some (d', dr) →
  (∀ o' v, Own g G (upd H p o') p d' → Rep g G dr v → Q v (upd H p o')) → r (.ref p) vs H Q
/-- the type of a thing that may be changed -/
def tyM (T : String) : D → Bool
  | .lst _ => T == "list"
  | .dct _ => T == "dict"
  | _ => false
theorem tyM_ok {g : Gm} {G H : Hp} {p : Addr} {d : D} {T : String} (o : Own g G H p d) (h : tyM T d = true) : tyV g.K T (.ref p) H := by
  cases d <;> try cases h
  · obtain ⟨vs, hp, _⟩ := o
    exact .inl ⟨eq_of_beq h, vs, .inl (.inl hp)⟩
  · obtain ⟨vs, hp, _⟩ := o
    exact .inr (.inr (.inl ⟨eq_of_beq h, .inl ⟨vs, hp⟩⟩))
def fMut (T : String) (f : D → List D → Option (D × D)) (i : Nat) (A : M (List Rv)) : M Rv := fun e0 => match (e0[i]?).bind ownD with
  | some d0 => if tyM T d0 = true then (A.bind fun rs e => match valsOf rs, e[i]? with
    | some ds, some s => (match ownD s with
      | some d => (match f d ds with
        | some (d', dr) => .ok (.val dr) (e.set i (reSl s d'))
        | none => .no)
      | none => .no)
    | _, _ => .no) e0 else .no
  | none => .no
section
variable {g : Gm} {W : WX} {k : Nat} {X : Cx}
theorem tv_mut {T : String} {r : V → List V → Hp → VK → Prop} {f : D → List D → Option (D × D)} {i : Nat} {A : M (List Rv)} {σ : L2.St} {H : Hp} {Q : VK} (hv : MutV g r f) (h : TV g W (fMut T f i A) σ H Q) : ∃ p, σ[i]? = some (some (.ref p)) ∧ tyV g.K T (.ref p) H ∧ TVA g W A σ H fun vs H1 => r (.ref p) vs H1 Q := by
  obtain ⟨G, e, sr, h⟩ := h
  unfold fMut at h
  cases q0 : e[i]? with
  | none => simp only [q0, Option.bind_none] at h; exact h.elim
  | some s0 =>
    cases q1 : ownD s0 with
    | none => simp only [q0, Option.bind_some, q1] at h; exact h.elim
    | some d0 =>
      simp only [q0, Option.bind_some, q1] at h
      by_cases ht : tyM T d0 = true
      · rw [if_pos ht] at h
        obtain ⟨p, hp, n, ow, rt⟩ := sr.own q0 q1
        refine ⟨p, hp, tyM_ok ow ht, G, e, sr, Pst.mono (Pst.bind h) fun rs G1 H1 e1 t1 h1 vs ok => ?_⟩
        cases q2 : valsOf rs with
        | none => simp only [q2] at h1; exact h1.elim
        | some ds =>
          cases q3 : e1[i]? with
          | none => simp only [q2, q3] at h1; exact h1.elim
          | some s =>
            simp only [q2, q3] at h1
            cases q4 : ownD s with
            | none => simp only [q4] at h1; exact h1.elim
            | some d =>
              simp only [q4] at h1
              cases qf : f d ds with
              | none => simp only [qf] at h1; exact h1.elim
              | some pr =>
                obtain ⟨d', dr⟩ := pr
                simp only [qf] at h1
                obtain ⟨p', hp', n', ow', _⟩ := t1.sr.own q3 q4
                rw [hp] at hp'
                cases hp'
                refine hv G1 H1 p d ds vs d' dr Q ow' (valsOf_ok ok q2) qf fun o' v on rv => ?_
                exact h1 G1 _ (t1.sr.mut q3 q4 hp ow' on) v rv
      · rw [if_neg ht] at h; exact h.elim
theorem ve_mut {T : String} {name : Str} {id : String} {r : V → List V → Hp → VK → Prop} {f : D → List D → Option (D × D)} {x : Str} {i : Nat} {ex : Expr} {es : List Expr} {A : M (List Rv)} {p apos cpos : Pos} (pa : PlainAttrs T) (slot : Slot T name id) (hty : typeOf (.builtin id) = pure (.type "method_descriptor"))
    (hm : Cd g W k X → MtR X id r) (hv : MutV g r f) (hN : X.N[i]? = some x) (hvis : Vis X.env.scope x) (ha : VA g W k X (ex :: es) A) (hbase : attributeBase (.Name x p) name X.env (eval (.Name x p) X.env) = eval (.Name x p) X.env := by rfl)
    (hd : (x == ("__debug__" : Str)) = false := by decide) (hcd : (x == ("__classdict__" : Str)) = false := by decide)
    (hfew : ((backTo cpos (starEach (ex :: es) X.env)).all (fun x => !x.1) && (backToKw cpos (keywordEach [] X.env)).all (fun x => x.1.isSome)
      && decide ((ex :: es).length + ([] : List Keyword).length + (if ([] : List Keyword).isEmpty then 0 else 1) < 30)) = true := by rfl)
    (hline : (apos.endLine == cpos.line) = true := by rfl) (hs : starEach (ex :: es) X.env = (false, eval ex X.env) :: starEach es X.env := by rfl) (hplain : (backTo cpos (starEach es X.env)).any (·.1) = false := by rfl) :
    VE g W k X (.Call (.Attribute (.Name x p) name apos) (ex :: es) [] cpos) (fMut T f i A) :=
  ⟨fun c => PE.imp (pe_bm' g.K pa slot hty (hm c) (pe_var hN hvis hd hcd) (ha.run c) c.K hbase hfew hline hs hplain) fun σ H Q q => by
    obtain ⟨p, hp, ty, t⟩ := tv_mut hv q
    exact ⟨.ref p, hp, ty, t⟩⟩
end
def appD : D → List D → Option (D × D)
  | .lst xs, [y] => if xs.length < sizeLine then some (.lst (xs ++ [y]), .non) else none
  | _, _ => none
def insD : D → List D → Option (D × D)
  | .lst xs, [.int i, y] => if xs.length < sizeLine ∧ 0 ≤ i ∧ i < 2 ^ 63 then some (.lst (xs.take i.toNat ++ [y] ++ xs.drop i.toNat), .non) else none
  | _, _ => none
def popD : D → List D → Option (D × D)
  | .lst xs, [.int i] => if 0 ≤ i ∧ i < 2 ^ 63 then (match xs[i.toNat]? with | some y => some (.lst (xs.eraseIdx i.toNat), y) | none => none) else none
  | _, _ => none
def clrD : D → List D → Option (D × D)
  | .lst _, [] => some (.lst [], .non)
  | _, _ => none
section
variable {g : Gm}
theorem uv_app : MutV g rAppend appD := fun G H p d ds vs d' dr Q ow rs e q => by
  cases d <;> try cases e
  rename_i xs
  match ds, e with
  | [], e => cases e
  | _ :: _ :: _, e => cases e
  | [y], e =>
    simp only [appD] at e
    by_cases c : xs.length < sizeLine
    · rw [if_pos c] at e
      cases e
      obtain ⟨us, hp, rp⟩ := ow
      obtain ⟨v, ev, rv⟩ := rs.one
      exact ⟨p, us, v, rfl, ev, hp, by rw [rp.len]; exact c, q _ _ ⟨_, upd_same, rp.append ⟨v, [], rfl, rv, rfl⟩⟩ rfl⟩
    · rw [if_neg c] at e; cases e
def rInsert : V → List V → Hp → VK → Prop := fun x vs H Q => ∃ (l : Addr) (xs : List V) (i : Int) (y : V), x = .ref l ∧ vs = [.int i, y] ∧ H l = some (.lst xs) ∧ xs.length < sizeLine ∧ 0 ≤ i ∧ i < 2 ^ 63 ∧ Q .non (upd H l (.lst (xs.take i.toNat ++ [y] ++ xs.drop i.toNat)))
end
def setAtD : D → D → D → Option D
  | .lst xs, .int i, y => (match ixN xs.length i with | some j => some (.lst (xs.set j y)) | none => none)
  | _, _, _ => none
def putKD (kvs : List (List Nat × D)) (k : List Nat) (v : D) : List (List Nat × D) := if kvs.any (fun kv => decide (kv.1 = k)) = true then kvs.map fun kv => if kv.1 = k then (kv.1, v) else kv else kvs ++ [(k, v)]
def setKD : D → D → D → Option D
  | .dct kvs, .str k, y => if kvs.length < sizeLine then some (.dct (putKD kvs k y)) else none
  | _, _, _ => none
/-- x[ix] = val, x the slot i -/
def fSetAt (f : D → D → D → Option D) (i : Nat) (Ix V : M Rv) : M Ctl := (fFrz V).bind fun v => fun e0 => match (e0[i]?).bind ownD with
  | some _ => ((fFrz Ix).bind fun ix e => match v, ix, e[i]? with
    | .val v, .val ix, some s => (match ownD s with
      | some d => (match f d ix v with
        | some d' => .ok .nx (e.set i (reSl s d'))
        | none => .no)
      | none => .no)
    | _, _, _ => .no) e0
  | none => .no
def SetV (g : Gm) (t : V → V → V → Hp → (Hp → Prop) → Prop) (f : D → D → D → Option D) : Prop := ∀ (G H : Hp) (p : Addr) (d di dv : D) (vi vv : V) (d' : D) (Q : Hp → Prop), Own g G H p d → Rep g G di vi → Rep g G dv vv → f d di dv = some d' →
  (∀ o', Own g G (upd H p o') p d' → Q (upd H p o')) → t (.ref p) vi vv H Q
section
variable {g : Gm} {W : WX} {k : Nat} {X : Cx}
theorem uv_set : SetV g rSetL setAtD := fun G H p d di dv vi vv d' Q ow ri rv e q => by
  cases d <;> cases di <;> try cases e
  rename_i xs i
  simp only [setAtD] at e
  cases z : ixN xs.length i with
  | none => rw [z] at e; cases e
  | some j =>
    rw [z] at e
    cases e
    obtain ⟨us, hp, rp⟩ := ow
    exact ⟨p, us, i, j, rfl, ri, hp, by rw [rp.len]; exact z, q _ ⟨_, upd_same, rp.set j rv⟩⟩
theorem RepK.anyK {G : Hp} : ∀ {kvs : List (List Nat × D)} {vs : List (Key × V)} (k : List Nat), RepK g G kvs vs → (vs.any fun kv => decide (kv.1 = (.inr (S k) : Key))) = kvs.any fun kv => decide (kv.1 = k)
  | [], vs, k, r => by rw [show vs = [] from r]; rfl
  | (k0, d0) :: kvs, vs, k, ⟨_, v, t, e, a, b⟩ => by
    subst e
    rw [List.any_cons, List.any_cons, RepK.anyK k b, S_key]
theorem RepK.append {G : Hp} : ∀ {kvs kvs' : List (List Nat × D)} {vs vs' : List (Key × V)}, RepK g G kvs vs → RepK g G kvs' vs' → RepK g G (kvs ++ kvs') (vs ++ vs')
  | [], _, _, _, h, q => by rw [show _ = [] from h]; exact q
  | (k, d) :: ds, _, _, _, ⟨ok, v, r, e, a, b⟩, q => ⟨ok, v, r ++ _, by rw [e]; rfl, a, RepK.append b q⟩
theorem RepK.put {G : Hp} {kvs : List (List Nat × D)} {vs : List (Key × V)} (k : List Nat) {d : D} {v : V} (r : RepK g G kvs vs) (ok : OkS k) (h : Rep g G d v) : RepK g G (putKD kvs k d) (putK vs (.inr (S k)) v) := by
  unfold putKD putK
  rw [r.anyK k]
  split
  · exact r.map k h
  · exact r.append ⟨ok, v, [], rfl, h, rfl⟩
def rDPutT : V → V → V → Hp → (Hp → Prop) → Prop := fun x y v H Q => ∃ a H4, x = .ref a ∧ DPut H a y v H4 ∧ Q H4
theorem uv_put : SetV g rDPutT setKD := fun G H p d di dv vi vv d' Q ow ri rv e q => by
  cases d <;> cases di <;> try cases e
  rename_i kvs ks
  simp only [setKD] at e
  by_cases c : kvs.length < sizeLine
  · rw [if_pos c] at e
    cases e
    obtain ⟨us, hp, rp⟩ := ow
    rw [ri.1]
    exact ⟨p, _, rfl, DPut.k (k := .inr (S ks)) hp (by rw [rp.len]; exact c), q _ ⟨_, upd_same, rp.put ks ri.2 rv⟩⟩
  · rw [if_neg c] at e; cases e
theorem tv_setAt {t : V → V → V → Hp → (Hp → Prop) → Prop} {f : D → D → D → Option D} {i : Nat} {Ix Vv : M Rv} {σ : L2.St} {H : Hp} {E : Ends} (hv : SetV g t f) (h : TVS g W (fSetAt f i Ix Vv) E σ H) :
    TV g W (fFrz Vv) σ H fun v H1 => ∃ p, σ[i]? = some (some (.ref p)) ∧ TV g W (fFrz Ix) σ H1 fun ix H2 => t (.ref p) ix v H2 fun H3 => E.nx σ H3 := by
  obtain ⟨G, e, sr, h⟩ := h
  refine ⟨G, e, sr, Pst.mono (PstS.bindE h) fun rv G1 H1 e1 t1 h1 v ok1 => ?_⟩
  cases q0 : e1[i]? with
  | none => simp only [q0, Option.bind_none] at h1; exact h1.elim
  | some s0 =>
    cases q1 : ownD s0 with
    | none => simp only [q0, Option.bind_some, q1] at h1; exact h1.elim
    | some d0 =>
      simp only [q0, Option.bind_some, q1] at h1
      obtain ⟨p, hp, n, ow, rt⟩ := t1.sr.own q0 q1
      refine ⟨p, hp, G1, e1, t1.sr, Pst.mono (PstS.bindE h1) fun rix G2 H2 e2 t2 h2 ix ok2 => ?_⟩
      have ok1 := ok1.tr t2
      cases rv with
      | val dv =>
        cases rix with
        | val dix =>
          cases q3 : e2[i]? with
          | none => simp only [q3] at h2; exact h2.elim
          | some s =>
            simp only [q3] at h2
            cases q4 : ownD s with
            | none => simp only [q4] at h2; exact h2.elim
            | some d =>
              simp only [q4] at h2
              cases qf : f d dix dv with
              | none => simp only [qf] at h2; exact h2.elim
              | some d' =>
                simp only [qf] at h2
                obtain ⟨p', hp', n', ow', _⟩ := t2.sr.own q3 q4
                rw [hp] at hp'
                cases hp'
                refine hv G2 H2 p d dix dv ix v d' _ ow' ok2 ok1 qf fun o' on => ?_
                exact h2 σ G2 _ (t2.sr.mut q3 q4 hp ow' on).st
        | _ => exact h2.elim
      | _ => exact h2.elim
theorem vs_setAt {x : Str} {i : Nat} {ix val : Expr} {Ix Vv : M Rv} {p pos pos' : Pos} (hN : X.N[i]? = some x) (hvis : Vis X.env.scope x) (hi : VE g W k X ix Ix) (hv : VE g W k X val Vv)
    (hd : (x == ("__debug__" : Str)) = false := by decide) (hcd : (x == ("__classdict__" : Str)) = false := by decide)
    (hs : swapsWithSole [.Subscript (.Name x p) ix pos'] val pos.line X.env = pure false := by rfl) (hw : swappedStores [.Subscript (.Name x p) ix pos'] val X.env = pure none := by rfl) (h1 : (assignEach [.Subscript (.Name x p) ix pos'] X.env).map (·.2) = [assign (.Subscript (.Name x p) ix pos') X.env] := by rfl)
    (ha : ∀ v, assign (.Subscript (.Name x p) ix pos') X.env v = (do let ov ← holding [v] (eval (.Name x p) X.env); let iv ← holding [v, ov] (eval ix X.env); standAt pos'; holding [v, ov, iv] (setItem ov iv v); release [v, ov, iv] []) := by intro _; rfl) :
    VS g W k X (.Assign [.Subscript (.Name x p) ix pos'] val pos) (fSetAt setAtD i Ix Vv) :=
  ⟨fun c => PS.imp (ps_asg ((ve_frz hv).run c) (pg_sub (pe_var hN hvis hd hcd) ((ve_frz hi).run c) set_list ha) hs hw h1) fun E σ H q => by
    obtain ⟨G, e, sr, h⟩ := tv_setAt uv_set q
    refine ⟨G, e, sr, Pst.mono h fun r G1 H1 e1 t1 h1 v ok => ?_⟩
    obtain ⟨p, hp, rest⟩ := h1 v ok
    exact ⟨.ref p, hp, rest⟩⟩
theorem vs_dput {x : Str} {i : Nat} {ix val : Expr} {Ix Vv : M Rv} {p pos pos' : Pos} (hN : X.N[i]? = some x) (hvis : Vis X.env.scope x) (hi : VE g W k X ix Ix) (hv : VE g W k X val Vv)
    (hd : (x == ("__debug__" : Str)) = false := by decide) (hcd : (x == ("__classdict__" : Str)) = false := by decide) (hs : swapsWith val (some (.Subscript (.Name x p) ix pos')) pos.line X.env = pure false := by rfl) :
    VS g W k X (.Assign [.Subscript (.Name x p) ix pos'] val pos) (fSetAt setKD i Ix Vv) :=
  ⟨fun c => PS.imp (ps_dput c.hu (pe_var hN hvis hd hcd) ((ve_frz hi).run c) ((ve_frz hv).run c) hs) fun E σ H q => by
    obtain ⟨G, e, sr, h⟩ := tv_setAt uv_put q
    refine ⟨G, e, sr, Pst.mono h fun r G1 H1 e1 t1 h1 v ok => ?_⟩
    obtain ⟨p, hp, rest⟩ := h1 v ok
    exact ⟨.ref p, hp, rest⟩⟩
end
end Vs

set_option maxRecDepth 100000
set_option maxHeartbeats 2000000
namespace Vs
open PySem PySem.Spec PyProof.Rows L2 Fw SX

section
variable {X : Cx} {k : Nat} {f C : Addr} {ks : List Str} {sp : Sp} {E : L2.St → XK}
def tMakeS (C : Addr) (sp : Sp) (E : L2.St → XK) (t tz : TA) : TE := fun σ H Q => t σ H fun vs H1 => tz σ H1 fun zs H2 => ∀ x dx, H2 x = none → H2 dx = none → dx ≠ x →
  sp (.ref x :: (vs ++ zs)) (upd (upd H2 dx (.own x)) x (.ins C dx [])) (fun v H3 => v = .non ∧ Q (.ref x) H3) (E σ)
/-- o.m(..), the class known when o is there -/
def tMethS (T : Addr → Sp → Prop) (m : Str) (E : L2.St → XK) (ta : TE) (t : TA) : TE := fun σ H Q => ta σ H fun x H1 => ∃ a C dx fs sp, x = .ref a ∧ H1 a = some (.ins C dx fs) ∧ fs.lookup m = none ∧ T C sp ∧ t σ H1 fun vs H2 => sp (x :: vs) H2 Q (E σ)
def MethT (X : Cx) (m : Str) (k : Nat) (C : Addr) (sp : Sp) : Prop := ∃ f, Cls X.K C ∧ Meth X.K C m f ∧ FnK X.prog X.w X.K X.mg X.base (L2.CX X.prog X.w) k f [] sp
/-- an instance called -/
def tCallOS (T : Addr → Sp → Prop) (E : L2.St → XK) (tf : TE) (t : TA) : TE := fun σ H Q => tf σ H fun y H1 => ∃ a, y = V.ref a ∧ t σ H1 fun vs H2 => ∃ C dx fs sp, H2 a = some (.ins C dx fs) ∧ T C sp ∧ sp (V.ref a :: vs) H2 Q (E σ)
def CallT (X : Cx) (k : Nat) (C : Addr) (sp : Sp) : Prop := ∃ f, StX.CallO X.K C f ∧ FnK X.prog X.w X.K X.mg X.base (L2.CX X.prog X.w) k f [] sp
/-- C.m(..), C the module's name of a class -/
def CfnT (X : Cx) (x m : Str) (k : Nat) (sp : Sp) : Prop := ∃ C f mc, X.mg x = some (.ref C) ∧ ClX.CRead X.K C mc ∧ PySem.W.findCls X.K (.ref C) mc m = some (.val (.ref f)) ∧ PySem.W.keepIn X.K (.ref f) = true ∧ FnK X.prog X.w X.K X.mg X.base (L2.CX X.prog X.w) k f [] sp
end
def fFld (f : Str) (A : M Rv) : M Rv := A.bind fun r e => match deref r e with
  | some (.ins _ fs) => (match fs.lookup f with | some d => .ok (.val d) e | none => .no)
  | _ => .no
def putFD (f : Str) (d : D) : List (Str × D) → List (Str × D)
  | [] => [(f, d)]
  | (q, x) :: r => if q = f then (q, d) :: r else (q, x) :: putFD f d r
/-- x.f = val, x the slot i; cs: the classes that it may be of -/
def fSetF (cs : List Str) (f : Str) (i : Nat) (V : M Rv) : M Ctl := (fFrz V).bind fun v e => match v, e[i]? with
  | .val v, some s => (match ownD s with
    | some (.ins c fs) => if cs.contains c = true ∧ fs.length < 1000 then .ok .nx (e.set i (reSl s (.ins c (putFD f v fs)))) else .no
    | _ => .no)
  | _, _ => .no
section
variable {g : Gm} {W : WX} {k : Nat} {X : Cx}
theorem RepF.put {G : Hp} {f : Str} {d : D} {u : V} (h : Rep g G d u) : ∀ {fs : List (Str × D)} {vs : List (Str × V)}, RepF g G fs vs → RepF g G (putFD f d fs) (putF f u vs)
  | [], vs, r => by rw [show vs = [] from r]; exact ⟨u, [], rfl, h, rfl⟩
  | (q, x) :: fs, vs, ⟨v, t, e, a, b⟩ => by
    subst e
    unfold putFD putF
    by_cases z : q = f
    · subst z
      simp only [if_pos]
      exact ⟨u, t, rfl, h, b⟩
    · simp only [if_neg z]
      exact ⟨v, _, rfl, a, RepF.put h b⟩
end

/-- the new instance ahead of the arguments, then __init__ -/
def mkRes (rs : List Rv) (e : Ve) : Res Rv → Res Rv
  | .ok (.val .non) (.bo d :: as') => .ok (.fresh d) (backE rs as' e)
  | .ok (.val .non) (.bf d :: as') => .ok (.val d) (backE rs as' e)
  | .er x (_ :: as') => .er x (backE rs as' e)
  | _ => .no
def makeB (c : Str) (f : List Sl → Res Rv) (rs : List Rv) : M Rv := fun e => if onceSl rs = true then (match argsOf rs e with
  | some as => mkRes rs e (f (.bo (.ins c []) :: as))
  | none => .no) else .no
def fMake (c : Str) (f : List Sl → Res Rv) (A : M (List Rv)) : M Rv := A.bind (makeB c f)
def fMakeK (c : Str) (f : List Sl → Res Rv) (A B : M (List Rv)) : M Rv := A.bind fun rs => B.bind fun zs => makeB c f (rs ++ zs)
section
variable {g : Gm} {W : WX} {k : Nat} {X : Cx}
/-- the class c under the module's name x: its __init__ computes F -/
def Mk' (P : Program) (mg : Str → Option Value) (base : Heap) (g : Gm) (x c : Str) (ks : List Str) (j : Nat) (F : List Sl → Res Rv) : Prop :=
  ∃ f, mg x = some (.ref (g.ca c)) ∧ Mk g.K (g.ca c) f ∧ Cls g.K (g.ca c) ∧ FnK P g.w g.K mg base (L2.CX P g.w) j f ks (spR g F)
structure VK' (g : Gm) (W : WX) (k : Nat) (X : Cx) (kws : List Keyword) (F : M (List Rv)) : Prop where
  run : Cd g W k X → PK X kws (TVA g W F)
/-- two rows of values, the second one evaluated behind the first -/
theorem RvsOk.append {G H H1 H0 : Hp} {σ : L2.St} {e : Ve} (hk : ∀ p, H1 p = none → H0 p = none) : ∀ {rs : List Rv} {vs : List V} {zs : List Rv} {us : List V}, RvsOk g G H σ e H0 rs vs → (∀ d p, (Rv.fresh d, V.ref p) ∈ rs.zip vs → H1 p ≠ none) → RvsOk g G H σ e H1 zs us → RvsOk g G H σ e H0 (rs ++ zs) (vs ++ us)
  | [], vs, zs, us, h, _, q => by rw [show vs = [] from h]; exact q.h0 hk
  | r :: rs, vs, zs, us, ⟨v, t, ev, a, b, c⟩, hn, q => by
    subst ev
    refine ⟨v, t ++ us, rfl, a, RvsOk.append hk b (fun d p m => hn d p (List.mem_cons_of_mem _ m)) q, fun d p er ep d' u m z => ?_⟩
    have lz : rs.length = t.length := b.len.symm
    have m : (Rv.fresh d', u) ∈ (rs ++ zs).zip (t ++ us) := m
    rw [List.zip_append lz] at m
    rcases List.mem_append.mp m with y | y
    · exact c d p er ep d' u y z
    · obtain ⟨p', eu, hp'⟩ := q.new d' u y
      rw [z] at eu
      cases eu
      subst er ep
      exact hn d p List.mem_cons_self hp'
end
/-- o.m(..): the def by o's class -/
def fMeth (T : Str → Option (List Sl → Res Rv)) (m : Str) (O : M Rv) (A : M (List Rv)) : M Rv := O.bind fun o e0 => match deref o e0 with
  | some (.ins c fs) => if (fs.lookup m).isNone = true then (match T c with
    | some F => (A.bind fun rs => callB F (o :: rs)) e0
    | none => .no) else .no
  | _ => .no
/-- f(..), f an instance -/
def fCallI (T : Str → Option (List Sl → Res Rv)) (O : M Rv) (A : M (List Rv)) : M Rv := (fFrz O).bind fun o => match o with
  | .val (.ins c fs) => (match T c with
    | some F => A.bind fun rs => callB F (.val (.ins c fs) :: rs)
    | none => fun _ => .no)
  | _ => fun _ => .no
section
variable {g : Gm} {W : WX} {k : Nat} {X : Cx}
def MethD (P : Program) (mg : Str → Option Value) (base : Heap) (g : Gm) (m : Str) (j : Nat) (T : Str → Option (List Sl → Res Rv)) : Prop :=
  ∀ c F, T c = some F → ∃ f, Cls g.K (g.ca c) ∧ Meth g.K (g.ca c) m f ∧ FnK P g.w g.K mg base (L2.CX P g.w) j f [] (spR g F)
def CallD (P : Program) (mg : Str → Option Value) (base : Heap) (g : Gm) (j : Nat) (T : Str → Option (List Sl → Res Rv)) : Prop :=
  ∀ c F, T c = some F → ∃ f, StX.CallO g.K (g.ca c) f ∧ FnK P g.w g.K mg base (L2.CX P g.w) j f [] (spR g F)
end
end Vs

set_option maxRecDepth 100000
set_option maxHeartbeats 2000000
namespace Vs
open PySem PySem.Spec PyProof.Rows L2 Fw SX

def fNo {α : Type} : M α := fun _ => .no
section
variable {g : Gm} {W : WX} {k : Nat} {X : Cx}
end
def Cf (P : Program) (mg : Str → Option Value) (base : Heap) (g : Gm) (x m : Str) (j : Nat) (F : List Sl → Res Rv) : Prop :=
  ∃ C f mc, mg x = some (.ref C) ∧ ClX.CRead g.K C mc ∧ PySem.W.findCls g.K (.ref C) mc m = some (.val (.ref f)) ∧ PySem.W.keepIn g.K (.ref f) = true ∧ FnK P g.w g.K mg base (L2.CX P g.w) j f [] (spR g F)
structure VAT (g : Gm) (W : WX) (k : Nat) (X : Cx) (es : List Expr) (F : M (List Rv)) : Prop where
  run : Cd g W k X → PAT X es (TVA g W F)
structure VET (g : Gm) (W : WX) (k : Nat) (X : Cx) (e : Expr) (F : M Rv) : Prop where
  run : Cd g W k X → PET X e (TV g W F)
def fRepl (y z : List Nat) (A : M Rv) : M Rv := A.bind fun r e => match r with
  | .val (.str l) => if y ≠ [] ∧ l.length + (l.length + 1) * z.length ≤ 16777216 then .ok (.val (.str (PySem.StrLaws.replL y z l))) e else .no
  | _ => .no
section
variable {g : Gm} {W : WX} {k : Nat} {X : Cx}
end

def fFmt (A : M Rv) : M Rv := A.bind fun r e => match r with
  | .val (.str l) => if l.length ≤ sizeLine then .ok (.val (.str l)) e else .no
  | .val (.int i) => if i.natAbs.log2 < 1920 ∧ (digS i).all (· < 1114112) = true then .ok (.val (.str (digS i))) e else .no
  | _ => .no
def fJs : List (M Rv) → List Nat → M (List Nat)
  | [], acc => M.ret acc
  | A :: As, acc => A.bind fun r => match r with
    | .val (.str l) => if acc.length + l.length ≤ sizeLine then fJs As (acc ++ l) else fNo
    | _ => fNo
def fJoined (As : List (M Rv)) : M Rv := (fJs As []).map fun l => .val (.str l)
inductive VJ (g : Gm) (W : WX) (k : Nat) (X : Cx) : List Expr → List (M Rv) → Prop where
  | nil : VJ g W k X [] []
  | cons {e : Expr} {A : M Rv} {es : List Expr} {As : List (M Rv)} (h : VE g W k X e A) (r : VJ g W k X es As) : VJ g W k X (e :: es) (A :: As)
section
variable {g : Gm} {W : WX} {k : Nat} {X : Cx}
theorem VJ.pj {es : List Expr} {As : List (M Rv)} (h : VJ g W k X es As) (c : Cd g W k X) : PJ X es (As.map (TV g W)) := by
  induction h with
  | nil => exact .nil
  | cons h r ih => exact .cons (h.run c) ih
end
def tyN : D → Option String
  | .non => some "NoneType"
  | .bl _ => some "bool"
  | .int _ => some "int"
  | .str _ => some "str"
  | .lst _ => some "list"
  | .tup _ => some "tuple"
  | .dct _ => some "dict"
  | .scr _ => some "list"
  | _ => none
def isiB (a b : String) : Option Bool := if b = "bool" ∨ b = "int" ∨ b = "str" ∨ b = "list" ∨ b = "tuple" ∨ b = "dict" then some (a == b || (a == "bool" && b == "int")) else none
def isiD : List D → Option Rv
  | [d, .con (.ty b)] => (match tyN d with | some a => (isiB a b).map fun r => .val (.bl r) | none => none)
  | _ => none
theorem isiB_ok {d : D} {a b : String} {r : Bool} (ha : tyN d = some a) (h : isiB a b = some r) : kitB a b = some r := by
  unfold isiB at h
  split at h
  · rename_i hb
    cases h
    have ha2 : a = "NoneType" ∨ a = "bool" ∨ a = "int" ∨ a = "str" ∨ a = "list" ∨ a = "tuple" ∨ a = "dict" := by
      cases d <;> cases ha <;> simp
    rcases hb with rfl | rfl | rfl | rfl | rfl | rfl <;> rcases ha2 with rfl | rfl | rfl | rfl | rfl | rfl | rfl <;> decide +kernel
  · cases h
section
variable {g : Gm} {G H : Hp}
theorem tyX_of (bs : Bs G H) (sc : SqL g.K H g.sa (g.sn.map .int)) {d : D} {a : String} {x : V} (r : RepH g G H d x) (h : tyN d = some a) : TyX g.K H x (.type a) := by
  have lst : ∀ {p : Addr} {vs : List V}, SqL g.K H p vs → TyX g.K H (.ref p) (.type "list") := fun {p vs} q => by
    rcases q with (q | ⟨o, q⟩) | ⟨o, its, n, q, c, _⟩
    · exact .base (.lst q)
    · exact .base (.frz q)
    · exact .kList q c
  cases d with
  | non => cases h; rw [r.non]; exact .base .non
  | bl b => cases h; rw [r.bl]; exact .base (.bl b)
  | int i => cases h; rw [r.int]; exact .base (.int i)
  | str l => cases h; rw [r.str]; exact .base (.str _)
  | lst ds =>
    cases h
    obtain ⟨p, vs, e, q, _⟩ := r.lst bs
    rw [e]; exact lst q
  | tup ds =>
    cases h
    obtain ⟨p, vs, e, q, _⟩ := r.tup bs
    rw [e]
    rcases q with (q | ⟨o, q⟩) | ⟨o, its, n, q, c, _⟩
    · exact .base (.tup q)
    · exact .fTuple q
    · exact .kTuple q c
  | dct kvs =>
    cases h
    rcases r with ⟨p, vs, e, q, _⟩ | ⟨p, e, n, vs, q, _⟩
    · rw [e]
      rcases bs.rd (.inl q) with z | ⟨o, z⟩
      · exact .base (.dK z)
      · exact .fDict z
    · rw [e]
      rcases q with z | ⟨o, z⟩
      · exact .base (.dK z)
      · exact .fDict z
  | scr ns =>
    cases h
    rcases r with ⟨e, _⟩ | ⟨p, e, n, o⟩
    · rw [e]; exact lst sc
    · exact o.elim
  | _ => cases h
theorem cv_isi : CallV g (rIsi g.K) isiD := fun G H ds vs out Q bs sc r e q => by
  match ds, r, e with
  | [], _, e => cases e
  | [d], _, e => cases e
  | d :: d2 :: d3 :: t, _, e => unfold isiD at e; split at e <;> first | cases e | (rename_i h; cases h)
  | [d, .con u], ⟨x, t, ex, rx, y, t2, ey, ry, en⟩, e =>
    cases u with
    | ty b =>
      simp only [isiD] at e
      cases hd : tyN d with
      | none => rw [hd] at e; cases e
      | some a =>
        rw [hd] at e
        cases hb : isiB a b with
        | none => simp only [hb] at e; cases e
        | some rb =>
          simp only [hb, Option.map_some] at e
          cases e
          subst en ey ex
          refine ⟨x, .ty b, .type a, .type b, rb, by rw [ry.con], .ty b, tyX_of bs sc rx hd, kit_ty (isiB_ok hd hb), q _ G H (Grow.refl bs) rfl⟩
    | _ => cases e
  | [d, .non], _, e => cases e
  | [d, .bl _], _, e => cases e
  | [d, .int _], _, e => cases e
  | [d, .str _], _, e => cases e
  | [d, .lst _], _, e => cases e
  | [d, .tup _], _, e => cases e
  | [d, .dct _], _, e => cases e
  | [d, .set _], _, e => cases e
  | [d, .ins _ _], _, e => cases e
  | [d, .scr _], _, e => cases e
end
def CiD (mg : Str → Option Value) (g : Gm) (x f : Str) (i : Int) : Prop := ∃ C mc u, mg x = some (.ref C) ∧ ClX.CRead g.K C mc ∧ ClX.CVal g.K C mc f (.int i) u
section
variable {g : Gm} {W : WX} {k : Nat} {X : Cx}
end
def fRev (A : M Rv) : M Rv := A.bind fun r e => match deref r e with
  | some (.lst ds) => .ok (.fresh (.lst ds.reverse)) e
  | some (.str l) => if l.length ≤ sizeLine then .ok (.val (.str l.reverse)) e else .no
  | _ => .no
theorem Reps.rev {g : Gm} {G : Hp} : ∀ {ds : List D} {vs : List V}, Reps g G ds vs → Reps g G ds.reverse vs.reverse
  | [], _, h => by rw [show _ = [] from h]; rfl
  | d :: ds, _, ⟨v, r, e, a, b⟩ => by
    subst e
    rw [List.reverse_cons, List.reverse_cons]
    exact b.rev.append ⟨v, [], rfl, a, rfl⟩
section
variable {g : Gm} {W : WX} {k : Nat} {X : Cx}
end
end Vs

set_option maxRecDepth 100000
set_option maxHeartbeats 2000000
namespace Vs
open PySem PySem.Spec PyProof.Rows L2 Fw SX

def lVar (i : Nat) (e : Ve) : Option LkK := match e[i]? with
  | some (.sh (.dct kvs)) => some (.shd kvs)
  | some (.bf (.dct kvs)) => some (.shd kvs)
  | some (.ow (.dct kvs)) => some (.own i (.ow (.dct kvs)) kvs)
  | some (.bo (.dct kvs)) => some (.own i (.bo (.dct kvs)) kvs)
  | some (.lo (.dct kvs)) => some (.lck i kvs)
  | _ => none
def slD : Sl → Option D
  | .sh d => some d
  | .ow d => some d
  | .bo d => some d
  | .bf d => some d
  | _ => none
def lFld (i : Nat) (f : Str) (e : Ve) : Option LkK := match (e[i]?).bind slD with
  | some (.ins _ fs) => (match fs.lookup f with | some (.dct kvs) => some (.shd kvs) | _ => none)
  | _ => none
def keysD (kvs : List (List Nat × D)) : List D := kvs.map fun p => .str p.1
def okR {α : Type} (k : Ve → Ve) : Res α → Res α
  | .ok a e => .ok a (k e)
  | _ => .no
/-- A runs while the dict is locked -/
def lkE {α : Type} (L : Ve → Option LkK) (A : List D → M α) : M α := fun e => match L e with
  | some (.shd kvs) => okR id (A (keysD kvs) e)
  | some (.own i s kvs) => okR (fun e' => e'.set i s) (A (keysD kvs) (e.set i (.lo (.dct kvs))))
  | some (.lck i kvs) => okR id (A (keysD kvs) e)
  | none => .no
section
variable {g : Gm} {G H G1 H1 : Hp} {σ σ1 : L2.St} {e e1 : Ve} {d p : Addr} {vs : List (Key × V)} {od : Obj} {i : Nat} {kvs : List (List Nat × D)}
/-- a slot's own dict -/
def IsDS (s : Sl) (kvs : List (List Nat × D)) : Prop := s = .ow (.dct kvs) ∨ s = .bo (.dct kvs)
end
end Vs
namespace Vs
open PySem PySem.Spec PyProof.Rows L2 Fw SX
/-- td finds the dict that L tells -/
structure LcOk (g : Gm) (td : TE) (L : Ve → Option LkK) : Prop where
  shd : ∀ (G H : Hp) (σ : L2.St) (e : Ve) kvs, SR g G H σ e → L e = some (.shd kvs) → ∃ d vs, G d = some (.dK vs) ∧ RepK g G kvs vs ∧ ∀ H1 : Hp, (∀ a, a ≠ d → H1 a = H a) → ∀ Q : VK, Q (.ref d) H1 → td σ H1 Q
  own : ∀ (G H : Hp) (σ : L2.St) (e : Ve) i s kvs, SR g G H σ e → L e = some (.own i s kvs) → e[i]? = some s ∧ IsDS s kvs ∧ ∀ p H1, σ[i]? = some (some (.ref p)) → ∀ Q : VK, Q (.ref p) H1 → td σ H1 Q
  lck : ∀ (G H : Hp) (σ : L2.St) (e : Ve) i kvs, SR g G H σ e → L e = some (.lck i kvs) → e[i]? = some (.lo (.dct kvs)) ∧ ∀ p H1, σ[i]? = some (some (.ref p)) → ∀ Q : VK, Q (.ref p) H1 → td σ H1 Q
section
variable {g : Gm} {W : WX} {k : Nat} {X : Cx}
def fLcK (L : Ve → Option LkK) (F : D → M Unit) (T : M Bool) (E : M Rv) (vs : List Nat) : M Rv := lkE L fun ds => fLc (M.ret ds) F T E vs
def fForK (L : Ve → Option LkK) (F : D → M Unit) (B : M Ctl) : M Ctl := lkE L fun ds => forL F B ds
variable {elt tg iter : Expr} {ifs : List Expr} {scope : Scope} {own : List (Str × Nat)} {pos : Pos} {L : Ve → Option LkK} {td : TE} {F : D → M Unit} {is : List Nat} {T : M Bool} {E : M Rv}
end
end Vs

set_option maxRecDepth 100000
set_option maxHeartbeats 2000000
namespace Vs
open PySem PySem.Spec PyProof.Rows L2 Fw SX

def enumD : Nat → List D → List D
  | _, [] => []
  | n, d :: r => .tup [.int (n : Int), d] :: enumD (n + 1) r
theorem enumD_len : ∀ (n : Nat) (ds : List D), (enumD n ds).length = ds.length
  | _, [] => rfl
  | n, d :: r => by rw [enumD, List.length_cons, List.length_cons, enumD_len]
theorem enumD_at : ∀ (n i : Nat) (ds : List D) (d : D), ds[i]? = some d → (enumD n ds)[i]? = some (.tup [.int ((n + i : Nat) : Int), d])
  | n, i, [], d, h => by simp at h
  | n, 0, x :: r, d, h => by cases h; rfl
  | n, i + 1, x :: r, d, h => by
    have := enumD_at (n + 1) i r d (by simpa using h)
    rw [enumD, List.getElem?_cons_succ, this]
    rw [show n + 1 + i = n + (i + 1) by omega]
def fEnum (A : M Rv) : M (List D) := (fFrz A).bind fun r e => match r with
  | .val (.lst ds) => .ok (enumD 0 ds) e
  | .val (.str l) => .ok (enumD 0 (l.map fun c => .str [c])) e
  | _ => .no
section
variable {g : Gm} {W : WX} {k : Nat} {X : Cx} {G H : Hp} {a : Addr} {vs : List V} {ds : List D}
theorem it_enum (hs : SqL g.K G a vs) (r : Reps g G ds vs) : ItOk g G H (Ite g.K a) (enumD 0 ds) := by
  have hl := r.len
  refine ⟨fun i G' H' le bs _ hi => ?_, fun G' H' le bs _ => ?_, fun i G' H' x H'' le bs _ hi y => ?_⟩
  · rw [enumD_len] at hi
    exact ⟨vs, vs[i]'(by omega), bs.sqL (le.sqL hs), List.getElem?_eq_getElem _⟩
  · exact ⟨vs, bs.sqL (le.sqL hs), by rw [enumD_len, hl]; exact Nat.le_refl _⟩
  · obtain ⟨T, u, ex, nT, eH, hy⟩ := y
    subst ex eH
    obtain ⟨d, hd, rd⟩ := r.at (hy vs (bs.sqL (le.sqL hs)))
    have gr := Grow.lay2 (o := HO.tup [.int (i : Nat), u]) bs nT (fun _ _ z => nomatch z)
    refine ⟨.tup [.int ((0 + i : Nat) : Int), d], _, enumD_at 0 i ds d hd, gr, T, _, rfl, .of upd_same, ⟨.int (i : Nat), [u], rfl, by show _ = _; rw [Nat.zero_add], ⟨u, [], rfl, (rd.mono le).mono gr.le, rfl⟩⟩⟩
theorem it_enumS (l : List Nat) (ok : OkS l) : ItOk g G H (IteS (S l)) (enumD 0 (l.map fun c => .str [c])) := by
  have hl : (S l).cps.size = l.length := S_len l
  refine ⟨fun i G' H' le bs _ hi => ?_, fun G' H' le bs _ => ?_, fun i G' H' x H'' le bs _ hi y => ?_⟩
  · rw [enumD_len, List.length_map] at hi
    exact (walk_enumS (z := S l)).goes i H' (by rw [hl]; exact hi) trivial
  · have := (walk_enumS (z := S l)).stops H' trivial
    rw [hl] at this
    rw [enumD_len, List.length_map]
    exact this
  · rw [enumD_len, List.length_map] at hi
    obtain ⟨T, c, ex, nT, hc, eH⟩ := (walk_enumS (z := S l)).yields i H' x H'' (by rw [hl]; exact hi) trivial y
    subst ex eH
    have hc2 : l[i]? = some c := by
      rw [← hc]
      exact (Array.getElem?_toList (xs := (S l).cps)).symm ▸ rfl
    have gr := Grow.lay2 (o := HO.tup [.int (i : Nat), .str ⟨#[c]⟩]) bs nT (fun _ _ z => nomatch z)
    refine ⟨.tup [.int ((0 + i : Nat) : Int), .str [c]], _, enumD_at 0 i _ (.str [c]) (by rw [List.getElem?_map, hc2]; rfl), gr, T, _, rfl, .of upd_same, ⟨.int (i : Nat), [.str ⟨#[c]⟩], rfl, by show _ = _; rw [Nat.zero_add], ⟨.str ⟨#[c]⟩, [], rfl, ⟨rfl, fun x hx => by rw [List.mem_singleton.mp hx]; exact ok c (List.mem_of_getElem? hc2)⟩, rfl⟩⟩⟩
theorem vi_enum {ex : Expr} {A : M Rv} {p pos tpos : Pos} {elts : List Expr} {kk : Nat} (hm : X.mg "enumerate" = none) (ha : VE g W k X ex A) (hg : Gl X "enumerate" := by rfl) (hs : starEach [ex] X.env = [(false, eval ex X.env)] := by rfl) : VI g W k X (.Tuple elts kk tpos) (.Call (.Name "enumerate" p) [ex] [] pos) (fEnum A) := by
  refine ⟨fun c => ?_⟩
  have pa : PA X [ex] (tCons (TV g W (fFrz A)) tNil) := pa_cons ((ve_frz ha).run c) pa_nil hs
  have pl : PI X (.Tuple elts kk tpos) (.Call (.Name "enumerate" p) [ex] [] pos) (iEnum g.K (tCons (TV g W (fFrz A)) tNil)) := c.K ▸ pi_enum hg hm pa hs
  refine PI.imp (PI.or pl (enumS hm pa hg hs)) fun σ H R ⟨G, e, sr, q⟩ => ?_
  unfold fEnum M.bind at q
  cases qa : fFrz A e with
  | no => rw [qa] at q; exact q.elim
  | er x e' => rw [qa] at q; exact .inl ⟨G, e, sr, by rw [qa]; exact q⟩
  | ok r e1 =>
    rw [qa] at q
    match r with
    | .slot _ => exact q.elim
    | .fresh _ => exact q.elim
    | .val d =>
      match d with
      | .lst ds =>
        refine .inl ⟨G, e, sr, ?_⟩
        rw [qa]
        intro G1 H1 t v rp
        obtain ⟨a, vs, ev, sq, rps⟩ := rp
        exact ⟨a, vs, by rw [ev], t.sr.bs.sqL (.of sq), q G1 H1 t _ (it_enum (.of sq) rps)⟩
      | .str l =>
        refine .inr ⟨G, e, sr, ?_⟩
        rw [qa]
        intro G1 H1 t v rp
        exact ⟨S l, by rw [rp.1], q G1 H1 t _ (it_enumS l rp.2)⟩
      | .tup _ => exact q.elim
      | .non => exact q.elim
      | .bl _ => exact q.elim
      | .int _ => exact q.elim
      | .dct _ => exact q.elim
      | .set _ => exact q.elim
      | .ins _ _ => exact q.elim
      | .con _ => exact q.elim
      | .scr _ => exact q.elim
end
def dictD : List D → Option Rv
  | [.dct kvs] => some (.fresh (.dct kvs))
  | _ => none
section
variable {g : Gm}
end
/-- what comes is stored; a slot's own thing must be frozen ahead -/
def stoN (i : Nat) (r : Rv) : M Unit := match r with
  | .val d => fun e => if canSto e i = true then .ok () (e.set i (.sh d)) else .no
  | .fresh d => fun e => if canSto e i = true then .ok () (e.set i (.ow d)) else .no
  | .slot _ => fNo
def fPar2 (i j : Nat) (A : M (List Rv)) : M Ctl := A.bind fun rs => match rs with
  | [a, b] => (stoN i a).bind fun _ => (stoN j b).bind fun _ => fNx
  | _ => fNo
def fPar3 (i j l : Nat) (A : M (List Rv)) : M Ctl := A.bind fun rs => match rs with
  | [a, b, c] => (stoN i a).bind fun _ => (stoN j b).bind fun _ => (stoN l c).bind fun _ => fNx
  | _ => fNo
section
variable {g : Gm} {W : WX} {k : Nat} {X : Cx} {G H G1 H1 H0 : Hp} {σ σ1 : L2.St} {e e1 e2 : Ve} {i : Nat}
theorem St.stoN {r : Rv} {v : V} (t : St g G H σ e G1 H1 σ1 e1) (ok : RvOk g G1 H1 σ1 e1 H r v) (h : stoN i r e1 = .ok () e2) :
    St g G H σ e G1 H1 (σ1.set i (some v)) e2 ∧ (∀ r' v', (∀ d p d', r = .fresh d → v = .ref p → r' = .fresh d' → v' ≠ .ref p) → (∀ j, r' ≠ .slot j) → RvOk g G1 H1 σ1 e1 H r' v' → RvOk g G1 H1 (σ1.set i (some v)) e2 H r' v') := by
  have keep : ∀ {s : Sl}, e2 = e1.set i s → i < e1.length → (∀ p, IsOw (some s) → v = .ref p → ∃ d, r = .fresh d) → ∀ r' v', (∀ d p d', r = .fresh d → v = .ref p → r' = .fresh d' → v' ≠ .ref p) → (∀ j, r' ≠ .slot j) → RvOk g G1 H1 σ1 e1 H r' v' → RvOk g G1 H1 (σ1.set i (some v)) e2 H r' v' := fun {s} ee hl hs r' v' ap ns o => by
    subst ee
    cases r' with
    | slot j => exact absurd rfl (ns j)
    | val d => exact o
    | fresh d =>
      obtain ⟨p, ev, n, ow, h0, nr⟩ := o
      refine ⟨p, ev, n, ow, h0, fun j rr => ?_⟩
      obtain ⟨r1, r2⟩ := rr
      rw [getElem?_set'] at r1 r2
      by_cases z : i = j
      · rw [if_pos ⟨z, hl⟩] at r1
        rw [if_pos ⟨z, by rw [← t.sr.len]; exact hl⟩] at r2
        have r2 : v = .ref p := Option.some.inj (Option.some.inj r2)
        obtain ⟨d', e'⟩ := hs p r1 r2
        exact ap d' p d e' r2 rfl ev
      · rw [if_neg (fun y => z y.1)] at r1 r2
        exact nr j ⟨r1, r2⟩
  cases r with
  | slot j => cases h
  | val d =>
    simp only [Vs.stoN] at h
    by_cases c : canSto e1 i = true
    · rw [if_pos c] at h
      cases h
      exact ⟨St.sto t.sr c (.inl ⟨d, rfl, ok⟩) t (fun d p z => nomatch z), keep rfl (canSto_lt c).1 fun p z => z.elim⟩
    · rw [if_neg c] at h; cases h
  | fresh d =>
    simp only [Vs.stoN] at h
    by_cases c : canSto e1 i = true
    · rw [if_pos c] at h
      cases h
      obtain ⟨p, ev, n, o, h0, nr⟩ := ok
      refine ⟨St.sto t.sr c (.inr ⟨d, p, rfl, ev, n, o, nr⟩) t fun d' p' z1 z2 => ?_, keep rfl (canSto_lt c).1 fun p _ _ => ⟨d, rfl⟩⟩
      rw [ev] at z2; cases z2; exact h0
    · rw [if_neg c] at h; cases h
theorem stoN_slot {r : Rv} (h : stoN i r e = .ok () e1) (j : Nat) : r ≠ .slot j := fun z => by subst z; cases h
theorem stoN_er {r : Rv} {x : Exn} : stoN i r e ≠ .er x e1 := by
  cases r with
  | slot j => exact fun z => nomatch z
  | val d => unfold stoN; intro h; simp only at h; split at h <;> cases h
  | fresh d => unfold stoN; intro h; simp only at h; split at h <;> cases h
theorem bind_stoN {r : Rv} {c : M Ctl} {D : Ends} (h : PstS g W D σ G H e (M.bind (stoN i r) (fun _ => c) e1)) : ∃ e2, stoN i r e1 = .ok () e2 ∧ PstS g W D σ G H e (c e2) := by
  unfold M.bind at h
  cases q : stoN i r e1 with
  | no => rw [q] at h; exact h.elim
  | er x e' => exact absurd q stoN_er
  | ok u e2 => rw [q] at h; exact ⟨e2, rfl, h⟩
/-- an expression ahead of the rest of a statement, seen from the start -/
theorem PstS.bindE0 {α : Type} {D : Ends} {f : M α} {c : α → M Ctl} (h : PstS g W D σ G H e (M.bind f c e)) : Pst g W σ G H e (fun a G1 H1 e1 => PstS g W D σ G H e (c a e1)) (f e) := by
  unfold M.bind at h
  revert h
  cases f e with
  | no => exact fun h => h
  | er x e' => exact fun h cls d G' H' t xo => h cls d σ G' H' t.st xo
  | ok a e1 => exact fun h G1 H1 t => h
theorem vs_par2 {j : Nat} {x y : Str} {a b : Expr} {A : M (List Rv)} {px py pt pos : Pos} {kt k2 pt2} (hi : X.N[i]? = some x) (hj : X.N[j]? = some y)
    (hx : X.env.scope.names.lookup x = some .local) (hy : X.env.scope.names.lookup y = some .local) (ha : VA g W k X [a, b] A) (hij : i ≠ j := by decide)
    (hw : swappedStores [.Tuple [.Name x px, .Name y py] kt pt] (.Tuple [a, b] k2 pt2) X.env = pure (some [x, y]) := by rfl)
    (hs : swapsWithSole [.Tuple [.Name x px, .Name y py] kt pt] (.Tuple [a, b] k2 pt2) pos.line X.env = pure false := by rfl) :
    VS g W k X (.Assign [.Tuple [.Name x px, .Name y py] kt pt] (.Tuple [a, b] k2 pt2) pos) (fPar2 i j A) := by
  refine ⟨fun c => PS.imp (ps_par c.calm c.nd hi hj hij hx hy (ha.run c) hw hs) fun D σ H ⟨G, e, sr, h⟩ => ?_⟩
  refine ⟨G, e, sr, Pst.mono (PstS.bindE0 h) fun rs G1 H1 e1 t1 h1 vs rv => ?_⟩
  match rs, h1, rv with
  | [], h1, _ => exact h1.elim
  | [_], h1, _ => exact h1.elim
  | _ :: _ :: _ :: _, h1, _ => exact h1.elim
  | [r1, r2], h1, ⟨v1, t, ev, o1, ⟨v2, t', ev', o2, en, _⟩, ap⟩ =>
    subst ev ev' en
    obtain ⟨e2, s1, h2⟩ := bind_stoN h1
    obtain ⟨e3, s2, h3⟩ := bind_stoN h2
    refine ⟨v1, v2, rfl, ?_⟩
    obtain ⟨st1, k1⟩ := St.stoN t1.st o1 s1
    obtain ⟨st2, _⟩ := St.stoN st1 (k1 r2 v2 (fun d p d' er ep e' z => ap d p er ep d' v2 (by rw [e']; exact List.mem_cons_self) z) (stoN_slot s2) o2) s2
    exact h3 _ G1 H1 st2
end

def dcPut (rec : List (List Nat × D) → M (List (List Nat × D))) (vs : List Nat) (acc : List (List Nat × D)) (y z : Rv) : M (List (List Nat × D)) := match y, z with
  | .val (.str k), .val v => fun e => if acc.length < sizeLine then rec (putKD acc k v) (wipeV e vs) else .no
  | _, _ => fun _ => .no
def dcL (F : D → M Unit) (T : M Bool) (KX VX : M Rv) (vs : List Nat) : List D → List (List Nat × D) → M (List (List Nat × D))
  | [] => fun acc => M.ret acc
  | d :: r => fun acc => (F d).bind fun _ => T.bind fun b => if b = true then ((fFrz KX).bind fun y => (fFrz VX).bind fun z => dcPut (dcL F T KX VX vs r) vs acc y z) else fun e => dcL F T KX VX vs r acc (wipeV e vs)
def fDc (S : M (List D)) (F : D → M Unit) (T : M Bool) (KX VX : M Rv) (vs : List Nat) : M Rv := S.bind fun ds e => if okWipe e vs = true then (match dcL F T KX VX vs ds [] (wipeV e vs) with
    | .ok ys e' => .ok (.fresh (.dct ys)) (restV e e' vs)
    | _ => .no) else .no
section
variable {g : Gm} {W : WX} {k : Nat} {X : Cx}
end
section
variable {g : Gm} {W : WX} {k : Nat} {X : Cx} {kx vx tg iter : Expr} {ifs : List Expr} {scope : Scope} {own : List (Str × Nat)} {pos : Pos} {S : M (List D)} {F : D → M Unit} {is : List Nat} {T : M Bool} {KX VX : M Rv}
end
def fMakeK0 (c : Str) (f : List Sl → Res Rv) (B : M (List Rv)) : M Rv := B.bind (makeB c f)
section
variable {g : Gm} {W : WX} {k : Nat} {X : Cx}
end

def shsD : List Sl → Option (List D)
  | [] => some []
  | .sh d :: r => (match shsD r with | some ds => some (d :: ds) | none => none)
  | _ => none
def starF (m : Nat) (F : List Sl → Res Rv) (as : List Sl) : Res Rv := if m ≤ as.length then (match shsD (as.drop m) with
  | some ds => if ds.length ≤ sizeLine then (match F (as.take m ++ [.sh (.tup ds)]) with
    | .ok r as' => .ok r (as'.take m ++ as.drop m)
    | .er x as' => .er x (as'.take m ++ as.drop m)
    | .no => .no) else .no
  | none => .no) else .no
section
variable {P : Program} {w : World} {K : PySem.W.Frag} {mg : Str → Option Value} {base : Heap} {g : Gm}
end
end Vs

set_option maxRecDepth 100000
set_option maxHeartbeats 2000000
namespace Vs
open PySem PySem.Spec PyProof.Rows L2 Fw SX
section
variable {X : Cx} {pins : List (Addr × Obj)} {σ : L2.St} {H : Hp} {s : Shared}
end
/-- the reading of a lambda: the code object is new, or stands in the table -/
def tLm (P : Addr) (L : Lam) (pos : Pos) : TE := fun _ H Q => ∃ ps : Array Value, H P = some (.tbl ps) ∧ TriplesOk ps.toList ∧ (∀ cv, codeAmong pos ps.toList = some cv → ∃ c, cv = .ref c) ∧
  (∀ c f, codeAmong pos ps.toList = none → H c = none → H f = none → f ≠ c → Q (.ref f) (upd (upd (upd H P (.tbl (ps ++ #[rawInt pos.line, rawInt pos.col, .ref c]))) c (LamX.CodeO c L.q)) f (LamO f L c))) ∧
  ∀ c f, codeAmong pos ps.toList = some (.ref c) → H f = none → Q (.ref f) (upd H f (LamO f L c))
section
variable {g : Gm} {W : WX} {k : Nat} {X : Cx}
end
/-- x(..), x a name that holds a function: by its number -/
def fCallV (T : UInt64 → Option (List Sl → Res Rv)) (i : Nat) (A : M (List Rv)) : M Rv := fun e => match e[i]? with
  | some (.sh (.con (.flt j))) => (match T j with
    | some F => fCall F A e
    | none => .no)
  | _ => .no
/-- what the numbers' functions compute -/
def FvD (P : Program) (mg : Str → Option Value) (base : Heap) (g : Gm) (k : Nat) (T : UInt64 → Option (List Sl → Res Rv)) : Prop := ∀ j F, T j = some F → match g.T.fn j with
  | .inl a => FnK P g.w g.K mg base (L2.CX P g.w) k a [] (spR g F) ∧ PySem.W.keepIn g.K (.ref a) = true
  | .inr L => LmOk P g.w g.K mg base (L2.CX P g.w) k L (spR g F)
section
variable {g : Gm} {W : WX} {k : Nat} {X : Cx} {x : Str} {p pos : Pos} {ex : Expr} {es : List Expr} {i : Nat}
end
end Vs

set_option maxRecDepth 100000
set_option maxHeartbeats 2000000
namespace Vs
open PySem PySem.Spec PyProof.Rows L2 Fw SX
/-- a law: whatever the script, the function gives True; cs: the tables of code objects -/
def spT (K : PySem.W.Frag) (cs : List Addr) (n : Nat) : Sp := fun vs H Q _ => ∃ (a : Addr) (ns : List Int), vs = [.ref a] ∧ ns.length ≤ n ∧ (∀ p ∈ cs, H p = some (.tbl #[])) ∧ SqL K H a (ns.map V.int) ∧ ∀ H', Q (.bl true) H'
/-- the function B answers True from the script -/
def LawTrue (n : Nat) (F : List Sl → Res Rv) : Prop := ∀ ns : List Int, ns.length ≤ n → ∃ e, F [.sh (.scr ns)] = .ok (.val (.bl true)) e
theorem law_ok {P : Program} {w : World} {K : PySem.W.Frag} {mg : Str → Option Value} {base : Heap} {ca : Str → Addr} {Tb : LT} {f : Addr} {fd : FuncData} {ps : List Str} {j n np N : Nat} {B : M Ctl}
    (F : ∀ (sa : Addr) (sn : List Int), FnG P w K mg base (L2.CX P w) j f fd ps (spV ⟨K, w, ca, Tb, sa, sn⟩ np (fnF np N B))) (hp : ps.length = 1) (hB : LawTrue n (fnF np N B)) : FnG P w K mg base CX0 j f fd ps (spT K (Tb.tabs.map Prod.fst) n) := by
  refine ⟨fun vs H Q E ⟨a, ns, ev, _⟩ => by rw [ev, hp]; rfl, fun A outer s H args us vs Q E hr e0 bt rv hs => ?_⟩
  obtain ⟨a, ns, ev, hl, ho, sq, q⟩ := hs
  obtain ⟨e, he⟩ := hB ns hl
  have key : ∃ G : Hp, Bs G H ∧ Tabs2 Tb.tabs G H ∧ ScrOk ⟨K, w, ca, Tb, a, ns⟩ G H := by
    have emp : ∀ G : Hp, (∀ p ∈ Tb.tabs, G p.1 = none) → Tabs2 Tb.tabs G H := fun G hG p hp => ⟨#[], ho _ (List.mem_map.mpr ⟨p, hp, rfl⟩), hG p hp, True.intro, fun pos cv hc => by cases hc⟩
    have b0 : Bs (fun _ => none) H := ⟨(fun a o u z => nomatch z), (fun a u z => nomatch z)⟩
    rcases sq with (h | ⟨o, h⟩) | h
    · refine ⟨fun b => if b = a then some (.lst (ns.map .int)) else none, ⟨fun b o u z => ?_, fun b u z => ?_⟩, emp _ fun p hp => ?_, .inr (.inr (if_pos rfl))⟩
      · by_cases c : b = a
        · rw [if_pos c] at z; cases z
        · rw [if_neg c] at z; cases z
      · by_cases c : b = a
        · rw [if_pos c] at z; cases z; rw [c]; exact .inl h
        · rw [if_neg c] at z; cases z
      · have t := ho _ (List.mem_map.mpr ⟨p, hp, rfl⟩)
        rw [if_neg (fun z => by rw [z, h] at t; cases t)]
    · exact ⟨_, b0, emp _ fun _ _ => rfl, .inl ⟨o, h⟩⟩
    · exact ⟨_, b0, emp _ fun _ _ => rfl, .inr (.inl fun H' => .inr h)⟩
  obtain ⟨G, bs, tb, sc⟩ := key
  have hs2 : spR ⟨K, w, ca, Tb, a, ns⟩ (fnF np N B) vs H Q (fun _ _ _ => False) := by
    subst ev
    refine ⟨G, [.sh (.scr ns)], rfl, ⟨bs, tb, sc, rfl, fun i => ?_, fun i j p r => ?_⟩, ?_⟩
    · match i with
      | 0 => exact ⟨_, rfl, rfl, rfl⟩
      | i + 1 => trivial
    · obtain ⟨r1, _⟩ := r
      match i with
      | 0 => exact r1.elim
      | i + 1 => exact r1.elim
    · rw [he]
      intro G' H' t v nw
      rw [show v = .bl true from nw]
      exact q H'
  refine codeAny_mono ((F a ns).run A outer s H args us vs Q (fun _ _ _ => False) hr e0 bt rv (spR_V hs2)) fun r s' z => ?_
  match r, z with
  | .ok (.ret u), z => exact z
  | .ok .next, z => exact z
  | .ok .brk, z => exact z
  | .ok .cont, z => exact z
  | .error e, z =>
    obtain ⟨a, B, H', cls, d, _, _, _, _, _, _, _, he⟩ := z
    exact he
section
variable {h : Heap} {H : Hp}
theorem Few.blt (f : Few h H) {mg : Str → Option Value} {P : Addr} (hg : h.Ns mainGlobals mg) (hT : h.get? P = some { cls := .none, data := .fields #[] })
    (x : ∃ (bm : Addr) (ob : Obj), mg "__builtins__" = some (.ref bm) ∧ bm ≠ builtinsNs ∧ h.get? bm = some ob ∧ ob.cls = .type "module" ∧ ob.dict = some builtinsNs ∧ ob.data = .plain) : (hidT h H).BuiltinsAt mg P := by
  obtain ⟨bm, ob, b1, b2, b3, b4, b5, b6⟩ := x
  have nt : ¬ Tk ob := fun z => by rcases z with ⟨vs, n, z⟩ | z <;> (rw [b6] at z; cases z)
  refine ⟨bm, ob, b1, b2, fun q => ?_, fun q => ?_, f.get b3 nt, b4, b5, b6⟩
  · obtain ⟨o, es, ep, e, d, _⟩ := hg
    rw [q, e] at b3
    cases b3
    rw [d] at b6
    cases b6
  · rw [q, hT] at b3
    cases b3
    cases b6
end
/-- what is known of the law's promise at the head's heap h -/
def LawAtG (l : PySem.W.OpenLaw) (w : World) (K : PySem.W.Frag) (k n : Nat) (x : Str) (mg : Str → Option Value) (fa : Addr) (h : Heap) : Prop :=
  ∃ (fd : FuncData) (cs : List (Addr × Addr)), (∀ p ∈ cs, h.get? p.2 = some { cls := .none, data := .fields #[] }) ∧ (∀ p ∈ cs, K.lookup p.2 = none) ∧ (∀ p ∈ cs, PySem.W.CodeHd h p.1 p.2) ∧ (∀ (s : Shared) (u : Value), BindsTo s fd ⟨[u], []⟩ [(x, u)]) ∧
    ∀ base : Heap, K.In base → base.Ns mainGlobals mg → (∀ p ∈ cs, LamX.TabB base mg p.1 p.2) → FnG l.prog w K mg base CX0 k fa fd [x] (spT K (cs.map Prod.snd) n)
section
variable {P : Program} {w : World} {K : PySem.W.Frag} {mg mb : Str → Option Value} {k n : Nat} {fa a : Addr} {cs : List (Addr × Addr)} {fd : FuncData} {x : Str} {s : Shared} {vs : List Value} {ns : List Int}
theorem law_at (H : Hp) (hH : ∀ p ∈ cs, H p.2 = some (.tbl #[])) (few : Few s.heap H) (only : ∀ b, H b = none ∨ b ∈ cs.map Prod.snd ∨ ∃ o xs, H b = some (.frz o (.lst xs))) (sq : SqL K H a (ns.map V.int)) (hok : HOk P w H s.heap) (kout : ∀ b o, K.lookup b = some o → H b = none)
    (KX : K.In s.heap) (hg : s.heap.Ns mainGlobals mg) (hb : s.heap.Ns builtinsNs mb) (hbb : ∀ x : Str, x ≠ "__name__" → mb x = bootBuiltins x) (hlim : s.heap.NoLimit) (gn : s.gens = #[])
    (hT : ∀ p ∈ cs, s.heap.get? p.2 = some { cls := .none, data := .fields #[] }) (C : ∀ p ∈ cs, PySem.W.CodeHd s.heap p.1 p.2)
    (hbm : ∃ (bm : Addr) (ob : Obj), mg "__builtins__" = some (.ref bm) ∧ bm ≠ builtinsNs ∧ s.heap.get? bm = some ob ∧ ob.cls = .type "module" ∧ ob.dict = some builtinsNs ∧ ob.data = .plain)
    (hl : ns.length ≤ n) (hr : Rm k callerA) (hbind : ∀ (s : Shared) (u : Value), BindsTo s fd ⟨[u], []⟩ [(x, u)])
    (F : ∀ base : Heap, K.In base → base.Ns mainGlobals mg → (∀ p ∈ cs, LamX.TabB base mg p.1 p.2) → FnG P w K mg base CX0 k fa fd [x] (spT K (cs.map Prod.snd) n)) :
    codeAny (model P w) callerA (.call (.ref fa) ⟨[.ref a], []⟩) (fun r s' => r = .ok (.ret (.bool true)) ∧ OldK s.heap s'.heap ∧ s'.os = s.os ∧ AllBare s'.gens) s := by
  have kb : K.In (hidT s.heap H) := fun b o e => hidT_get (KX b o e) (kout b o e)
  have md : L2.Mod K mg (hidT s.heap H) := ⟨kb, few.ns hg, ⟨mb, few.ns hb, hbb⟩, let ⟨mc, h1, h2⟩ := hlim; ⟨mc, few.ns h1, h2⟩⟩
  have tb : ∀ p ∈ cs, LamX.TabB (hidT s.heap H) mg p.1 p.2 := fun p hp => ⟨few.code (C p hp), few.blt hg (hT p hp) hbm, fun z => by
    obtain ⟨o, es, ep, e, d, _⟩ := hg
    rw [z, hT p hp] at e
    cases e
    cases d⟩
  have e0 : Env0 P w K mg (hidT s.heap H) callerA [] s H := ⟨rfl, md, fun b o e => of_hidT e, Nat.le_of_eq (hidT_size _ _), trivial, fun b z => (nomatch (show b ∈ ([] : List Addr) from z)), hok, .of_eq gn⟩
  have sp : spT K (cs.map Prod.snd) n [.ref a] H (fun v _ => v = .bl true) fun _ _ _ => False := ⟨a, ns, rfl, hl, fun p hp => by
    obtain ⟨q, hq, e⟩ := List.mem_map.mp hp
    rw [← e]
    exact hH q hq, sq, fun _ => rfl⟩
  refine codeAny_mono ((F _ kb (few.ns hg) tb).run callerA [] s H ⟨[.ref a], []⟩ [.ref a] [.ref a] _ _ hr e0 (hbind s (.ref a)) (.cons rfl .nil) sp) fun r s' z => ?_
  match r, z with
  | .error e, z => exact z.elim
  | .ok .next, z => exact z.elim
  | .ok .brk, z => exact z.elim
  | .ok .cont, z => exact z.elim
  | .ok (.ret u), ⟨v, H', os, bare, un, ok', rv, q⟩ =>
    obtain rfl : v = .bl true := q
    obtain rfl : u = Value.bool true := rv
    have same : ∀ b o, b ∉ cs.map Prod.snd → s.heap.get? b = some o → s'.heap.get? b = some o := fun b o nb e => by
      rcases only b with z | z | ⟨ob, xs, z⟩
      · exact un.keep b o e z (fun y => (nomatch (show b ∈ ([] : List Addr) from y))) (by simp)
      · exact (nb z).elim
      · have e1 := (hok b _ z).1
        have e2 := (ok' b _ (un.frzs b ob _ z)).1
        rw [e] at e1
        cases e1
        exact e2
    have tabs : ∀ p ∈ cs, ∃ more : Array Value, s'.heap.get? p.2 = some { cls := .none, data := .fields more } := fun p hp => by
      obtain ⟨more, z⟩ := un.tbls p.2 #[] (hH p hp)
      exact ⟨_, ok' p.2 _ z⟩
    have inT : ∀ b, b ∈ cs.map Prod.snd → ∃ p ∈ cs, p.2 = b := fun b hb => List.mem_map.mp hb
    refine ⟨rfl, ⟨fun b o e => ?_, fun b o e => ?_⟩, os, bare⟩ <;> by_cases nb : b ∈ cs.map Prod.snd
    · obtain ⟨p, hp, rfl⟩ := inT b nb
      obtain ⟨more, m⟩ := tabs p hp
      rw [hT p hp] at e
      cases e
      exact .inr (.inl ⟨((C p hp).tab (hT p hp)).isCodeTable, rfl, #[], more, rfl, by rw [Array.empty_append]; exact m⟩)
    · exact .inl (same b o nb e)
    · obtain ⟨p, hp, rfl⟩ := inT b nb
      obtain ⟨more, m⟩ := tabs p hp
      exact ⟨_, m⟩
    · exact ⟨o, same b o nb e⟩
end
theorem walk_g {l : PySem.W.OpenLaw} {n k : Nat} {q : Program} {loose : List Str} {XP : (Str → Option Value) → Heap → Prop} {YP : World → Heap → Prop} {d : DefRec} {x : Str}
    (hn : l.most = some n) (hn2 : n ≤ sizeLine) (hdf : d.params.defaults = []) (hr : Rm k callerA)
    (F : ∀ (w : World) (mg : Str → Option Value) (fa : Addr) (h : Heap), YP w h → h.Ns mainGlobals mg → mg d.name = some (.ref fa) → ∃ K : PySem.W.Frag, K.In h ∧ LawAtG l w K k n x mg fa h) :
    PySem.W.WalkO q loose XP YP l.row.toRowW d [] (fun f vs => PySem.call f vs) := by
  refine Att.attach_callB hn hdf fun w s₀ s mg mb fa o pm cd doc a vs ns G Y ho hd hcd hmg hobj hints hlen hbits hg => ?_
  obtain ⟨K, KX, fd, cs, hT, nT, C, hb, hF⟩ := F w mg fa _ Y G.T.g hmg
  have rv := vals_ints hints
  have lenV := hints.length
  have hz := Nat.le_trans hlen hn2
  have isT : ∀ b : Addr, b ∈ cs.map Prod.snd → s.heap.get? b = some { cls := .none, data := .fields #[] } ∧ K.lookup b = none := fun b hb => by
    obtain ⟨p, hp, rfl⟩ := List.mem_map.mp hb
    exact ⟨hT p hp, nT p hp⟩
  have aT : a ∉ cs.map Prod.snd := fun z => by
    have q := (isT a z).1
    rw [hobj] at q
    have z' : Data.seq vs.toArray _ = Data.fields #[] := congrArg Obj.data (Option.some.inj q)
    cases z'
  have mT : ∀ p ∈ cs, p.2 ∈ cs.map Prod.snd := fun p hp => List.mem_map.mpr ⟨p, hp, rfl⟩
  have tabO : ∀ b, b ∈ cs.map Prod.snd → ∀ H : Hp, ObjOk l.prog w H s.heap b (.tbl #[]) := fun b hb H => (isT b hb).1
  cases hk : K.lookup a with
  | some oa =>
    have ea := KX a oa hk
    rw [hobj] at ea
    cases ea
    let H : Hp := fun b => if b ∈ cs.map Prod.snd then some (.tbl #[]) else none
    have Hin : ∀ b, b ∈ cs.map Prod.snd → H b = some (.tbl #[]) := fun b hb => if_pos hb
    have Hout : ∀ b, b ∉ cs.map Prod.snd → H b = none := fun b hb => if_neg hb
    refine law_at (a := a) (ns := ns) H (fun p hp => Hin _ (mT p hp)) (fun b o e z => ?_) (fun b => ?_) (.inr ⟨_, vs.toArray, _, hk, rfl, rfl, rfl, by rw [List.size_toArray, lenV]; exact hz, by simpa using rv⟩) (fun b u z => ?_) (fun b o e => ?_) KX G.T.g G.T.b G.T.builtins G.T.nolimit hg hT C G.T.bmain hlen hr hb hF
    · by_cases hb : b ∈ cs.map Prod.snd
      · rw [(isT b hb).1] at e
        cases e
        exact .inr rfl
      · exact absurd (Hout b hb) z
    · by_cases hb : b ∈ cs.map Prod.snd
      · exact .inr (.inl hb)
      · exact .inl (Hout b hb)
    · by_cases hb : b ∈ cs.map Prod.snd
      · have y := (Hin b hb).symm.trans z
        cases y
        exact tabO b hb H
      · have y := (Hout b hb).symm.trans z
        cases y
    · exact Hout b fun hb => by rw [(isT b hb).2] at e; cases e
  | none =>
    let H : Hp := fun b => if b = a then some (.frz { cls := .type "list", data := .seq vs.toArray } (.lst (ns.map V.int))) else if b ∈ cs.map Prod.snd then some (.tbl #[]) else none
    have Ha : H a = some (.frz { cls := .type "list", data := .seq vs.toArray } (.lst (ns.map V.int))) := if_pos rfl
    have Hin : ∀ b, b ∈ cs.map Prod.snd → H b = some (.tbl #[]) := fun b hb => (if_neg (fun z : b = a => aT (z ▸ hb))).trans (if_pos hb)
    have Hout : ∀ b, b ≠ a → b ∉ cs.map Prod.snd → H b = none := fun b ha hb => (if_neg ha).trans (if_neg hb)
    refine law_at (a := a) (ns := ns) H (fun p hp => Hin _ (mT p hp)) (fun b o e z => ?_) (fun b => ?_) (.inl (.inr ⟨_, Ha⟩)) (fun b u z => ?_) (fun b o e => ?_) KX G.T.g G.T.b G.T.builtins G.T.nolimit hg hT C G.T.bmain hlen hr hb hF
    · by_cases ha : b = a
      · rw [ha, hobj] at e
        cases e
        exact .inl ⟨_, _, rfl⟩
      · by_cases hb : b ∈ cs.map Prod.snd
        · rw [(isT b hb).1] at e
          cases e
          exact .inr rfl
        · exact absurd (Hout b ha hb) z
    · by_cases ha : b = a
      · rw [ha]
        exact .inr (.inr ⟨_, _, Ha⟩)
      · by_cases hb : b ∈ cs.map Prod.snd
        · exact .inr (.inl hb)
        · exact .inl (Hout b ha hb)
    · by_cases ha : b = a
      · subst ha
        have y := Ha.symm.trans z
        cases y
        exact ⟨hobj, by rw [List.length_map]; exact hz, vs, _, rv, hobj⟩
      · by_cases hb : b ∈ cs.map Prod.snd
        · have y := (Hin b hb).symm.trans z
          cases y
          exact tabO b hb H
        · have y := (Hout b ha hb).symm.trans z
          cases y
    · refine Hout b (fun z => ?_) fun hb => ?_
      · rw [z, hk] at e; cases e
      · rw [(isT b hb).2] at e; cases e
end Vs

set_option maxRecDepth 100000
set_option maxHeartbeats 2000000
namespace Vs
open PySem PySem.Spec PyProof.Rows L2 Fw SX
section
variable {g : Gm} {W : WX} {k : Nat} {X : Cx} {a b c d : Expr} {A B C : M Rv} {pos : Pos}
/-- a comparison by its function -/
def CmpF (g : Gm) (W : WX) (k : Nat) (X : Cx) (op : CmpOp) (f : D → D → Option Rv) : Prop := ∃ r, (Cd g W k X → OpR X (compareOp op) r) ∧ OpV g r f
theorem c_eq : CmpF g W k X .Eq eqG := ⟨_, fun c => c.K ▸ op_eqD c.room.units, opv_eq⟩
theorem c_ne : CmpF g W k X .NotEq neG := ⟨_, fun c => c.K ▸ op_neD c.room.units, opv_ne⟩
theorem c_lt : CmpF g W k X .Lt ltD := ⟨_, fun _ => op_ltA, opv_cmp⟩
theorem c_le : CmpF g W k X .LtE leD := ⟨_, fun _ => op_leA, opv_cmp⟩
theorem c_gt : CmpF g W k X .Gt gtD := ⟨_, fun _ => op_gtA, opv_cmp⟩
theorem c_ge : CmpF g W k X .GtE geD := ⟨_, fun _ => op_geA, opv_cmp⟩
theorem ve_c1 {op : CmpOp} {f : D → D → Option Rv} (h : CmpF g W k X op f) (ha : VE g W k X a A) (hb : VE g W k X b B) (hm : behindInMarks op b = false := by rfl) : VE g W k X (.Compare a [op] [b] pos) (fOp f A B) := let ⟨_, h1, h2⟩ := h; ve_cmp h1 h2 ha hb hm
theorem vt_c1 {op : CmpOp} {f : D → D → Option Rv} (h : CmpF g W k X op f) (ha : VE g W k X a A) (hb : VE g W k X b B) (hm : behindInMarks op b = false := by rfl) : VT g W k X (.Compare a [op] [b] pos) (fTest (fOp f A B)) := let ⟨_, h1, h2⟩ := h; vt_cmp h1 h2 ha hb hm
theorem ve_c2 {op op' : CmpOp} {f f' : D → D → Option Rv} (h : CmpF g W k X op f) (h' : CmpF g W k X op' f') (ha : VE g W k X a A) (hb : VE g W k X b B) (hc : VE g W k X c C) (hm : lastMarks [op, op'] [b, c] = false := by with_unfolding_all rfl) : VE g W k X (.Compare a [op, op'] [b, c] pos) (fChain f f' A B C) :=
  let ⟨_, h1, h2⟩ := h; let ⟨_, h3, h4⟩ := h'; ve_chain h1 h2 h3 h4 ha hb hc hm
theorem ve_add (ha : VE g W k X a A) (hb : VE g W k X b B) : VE g W k X (.BinOp a .Add b pos) (fOp addD A B) := ve_op (fun c => c.K ▸ op_addA) opv_add ha hb
theorem ve_minus (ha : VE g W k X a A) (hb : VE g W k X b B) : VE g W k X (.BinOp a .Sub b pos) (fOp subD A B) := ve_op (fun _ => op_sub) opv_sub ha hb
theorem ve_mod (ha : VE g W k X a A) (hb : VE g W k X b B) : VE g W k X (.BinOp a .Mod b pos) (fOp modD A B) := ve_op (fun _ => op_mod) opv_mod ha hb
theorem ve_fdiv (ha : VE g W k X a A) (hb : VE g W k X b B) : VE g W k X (.BinOp a .FloorDiv b pos) (fOp fdivD A B) := ve_op (fun _ => op_fdivW) opv_fdiv ha hb
theorem ve_pow (ha : VE g W k X a A) (hb : VE g W k X b B) : VE g W k X (.BinOp a .Pow b pos) (fOp powD A B) := ve_op (fun _ => op_pow) opv_pow ha hb
theorem ve_mul (ha : VE g W k X a A) (hb : VE g W k X b B) : VE g W k X (.BinOp a .Mult b pos) (fOp mulD A B) := ve_op (fun _ => op_mulA) opv_mul ha hb
end
section
variable {g : Gm} {W : WX} {k : Nat} {X : Cx} {ex : Expr} {es : List Expr} {A : M (List Rv)} {p pos : Pos}
theorem ve_len (hm : X.mg "len" = none) (ha : VA g W k X (ex :: es) A) (hg : Gl X "len" := by rfl) (he : starEach (ex :: es) X.env = (false, eval ex X.env) :: starEach es X.env := by rfl) (hpl : (backTo pos (starEach es X.env)).any (·.1) = false := by rfl) : VE g W k X (.Call (.Name "len" p) (ex :: es) [] pos) (fApp lenD A) := ve_callB (fun c => c.K ▸ c.w ▸ call_lenA) cv_len hg hm (by decide +kernel) ha (he := he) (hpl := hpl)
theorem ve_sorted (hm : X.mg "sorted" = none) (ha : VA g W k X (ex :: es) A) (hg : Gl X "sorted" := by rfl) (he : starEach (ex :: es) X.env = (false, eval ex X.env) :: starEach es X.env := by rfl) (hpl : (backTo pos (starEach es X.env)).any (·.1) = false := by rfl) : VE g W k X (.Call (.Name "sorted" p) (ex :: es) [] pos) (fApp sortD A) := ve_callB (fun c => c.K ▸ c.w ▸ Fw.cr_sortT c.calm) cv_sort hg hm (by decide +kernel) ha (he := he) (hpl := hpl)
theorem ve_isi (hm : X.mg "isinstance" = none) (ha : VA g W k X (ex :: es) A) (hg : Gl X "isinstance" := by rfl) (he : starEach (ex :: es) X.env = (false, eval ex X.env) :: starEach es X.env := by rfl) (hpl : (backTo pos (starEach es X.env)).any (·.1) = false := by rfl) : VE g W k X (.Call (.Name "isinstance" p) (ex :: es) [] pos) (fApp isiD A) := ve_callB (fun c => c.K ▸ call_isi) cv_isi hg hm (by decide +kernel) ha (he := he) (hpl := hpl)
theorem ve_intc (hm : X.mg "int" = none) (ha : VA g W k X (ex :: es) A) (hg : Gl X "int" := by rfl) (he : starEach (ex :: es) X.env = (false, eval ex X.env) :: starEach es X.env := by rfl) (hpl : (backTo pos (starEach es X.env)).any (·.1) = false := by rfl) : VE g W k X (.Call (.Name "int" p) (ex :: es) [] pos) (fApp intD A) := ve_callTy (fun c => call_int1) cv_int hg hm (by decide +kernel) ha (he := he) (hpl := hpl)
theorem ve_setc (hm : X.mg "set" = none) (ha : VA g W k X (ex :: es) A) (hg : Gl X "set" := by rfl) (he : starEach (ex :: es) X.env = (false, eval ex X.env) :: starEach es X.env := by rfl) (hpl : (backTo pos (starEach es X.env)).any (·.1) = false := by rfl) : VE g W k X (.Call (.Name "set" p) (ex :: es) [] pos) (fApp setD A) := ve_callTy (fun c => c.K ▸ c.w ▸ cr_setT c.calm) cv_set hg hm (by decide +kernel) ha (he := he) (hpl := hpl)
theorem ve_listc (hm : X.mg "list" = none) (ha : VA g W k X (ex :: es) A) (hg : Gl X "list" := by rfl) (he : starEach (ex :: es) X.env = (false, eval ex X.env) :: starEach es X.env := by rfl) (hpl : (backTo pos (starEach es X.env)).any (·.1) = false := by rfl) : VE g W k X (.Call (.Name "list" p) (ex :: es) [] pos) (fApp listD A) := ve_callTy (fun c => (listOf g.K c.K).or (cr_listT c.calm)) cv_list hg hm (by decide +kernel) ha (he := he) (hpl := hpl)
theorem ve_tupc (hm : X.mg "tuple" = none) (ha : VA g W k X (ex :: es) A) (hg : Gl X "tuple" := by rfl) (he : starEach (ex :: es) X.env = (false, eval ex X.env) :: starEach es X.env := by rfl) (hpl : (backTo pos (starEach es X.env)).any (·.1) = false := by rfl) : VE g W k X (.Call (.Name "tuple" p) (ex :: es) [] pos) (fApp tupD A) := ve_callTy (fun c => c.K ▸ call_tuple_of) cv_tup hg hm (by decide +kernel) ha (he := he) (hpl := hpl)
end
end Vs

set_option maxRecDepth 100000
set_option maxHeartbeats 2000000
namespace Vs
open PySem PySem.Spec PyProof.Rows L2 Fw SX
section
variable {g : Gm} {W : WX} {k : Nat} {X : Cx} {o ex : Expr} {O : M Rv} {A : M (List Rv)} {apos cpos p : Pos} {x : Str} {i : Nat}
theorem ve_join (ho : VE g W k X o O) (ha : VA g W k X [ex] A) (hbase : attributeBase o "join" X.env (eval o X.env) = eval o X.env := by rfl)
    (hfew : ((backTo cpos (starEach [ex] X.env)).all (fun x => !x.1) && (backToKw cpos (keywordEach [] X.env)).all (fun x => x.1.isSome) && decide ([ex].length + ([] : List Keyword).length + (if ([] : List Keyword).isEmpty then 0 else 1) < 30)) = true := by rfl)
    (hline : (apos.endLine == cpos.line) = true := by rfl) (hs : starEach [ex] X.env = (false, eval ex X.env) :: starEach [] X.env := by rfl) (hplain : (backTo cpos (starEach [] X.env)).any (·.1) = false := by rfl) :
    VE g W k X (.Call (.Attribute o "join" apos) [ex] [] cpos) (fMth "str" joinD O A) := ve_mth PySem.F.plainAttrs_str PySem.F.slot_str_join PySem.F.type_str_join (fun c => c.K ▸ mt_join) mv_join ho ha hbase hfew hline hs hplain
theorem ve_append (hN : X.N[i]? = some x) (hvis : Vis X.env.scope x) (ha : VA g W k X [ex] A) (hbase : attributeBase (.Name x p) "append" X.env (eval (.Name x p) X.env) = eval (.Name x p) X.env := by rfl)
    (hd : (x == ("__debug__" : Str)) = false := by decide) (hcd : (x == ("__classdict__" : Str)) = false := by decide)
    (hfew : ((backTo cpos (starEach [ex] X.env)).all (fun x => !x.1) && (backToKw cpos (keywordEach [] X.env)).all (fun x => x.1.isSome) && decide ([ex].length + ([] : List Keyword).length + (if ([] : List Keyword).isEmpty then 0 else 1) < 30)) = true := by rfl)
    (hline : (apos.endLine == cpos.line) = true := by rfl) (hs : starEach [ex] X.env = (false, eval ex X.env) :: starEach [] X.env := by rfl) (hplain : (backTo cpos (starEach [] X.env)).any (·.1) = false := by rfl) :
    VE g W k X (.Call (.Attribute (.Name x p) "append" apos) [ex] [] cpos) (fMut "list" appD i A) := ve_mut PySem.F.plainAttrs_list PySem.F.slot_list_append PySem.F.type_list_append (fun c => mt_append) uv_app hN hvis ha hbase hd hcd hfew hline hs hplain
end
def augD : D → D → Option D
  | .int i, .int j => some (.int (i + j))
  | .str a, .str b => if a.length + b.length ≤ sizeLine then some (.str (a ++ b)) else none
  | _, _ => none
def fAug (i : Nat) (A : M Rv) : M Ctl := fun e0 => match e0[i]? with
  | some (.sh d0) => (A.bind fun r e => match deref r e with
    | some d => (match augD d0 d with | some out => stoRv i (.val out) e | none => .no)
    | none => .no) e0
  | some (.ow (.lst _)) => (A.bind fun r e => match e[i]?, deref r e with
    | some (.ow (.lst xs)), some (.lst ys) => if xs.length + ys.length ≤ sizeLine then .ok .nx (e.set i (.ow (.lst (xs ++ ys)))) else .no
    | _, _ => .no) e0
  | _ => .no
section
variable {g : Gm} {W : WX} {k : Nat} {X : Cx}
def tiAug : TIp := fun x y H Q => (∃ i j, x = .int i ∧ y = .int j ∧ Q (.int (i + j)) H) ∨ (∃ i j, x = .str i ∧ y = .str j ∧ i.length + j.length ≤ sizeLine ∧ Q (.str (i ++ j)) H) ∨ rExt2 x y H Q
end
abbrev gm (K : PySem.W.Frag) (w : World) (ca : Str → Addr) (Tb : LT) (sa : Addr) (sn : List Int) : Gm := ⟨K, w, ca, Tb, sa, sn⟩
section
variable {g : Gm} {W : WX} {k : Nat} {X : Cx}
theorem ve_negc {i : Int} {j : Nat} {p pos : Pos} : VE g W k X (.UnaryOp .USub (.Constant (.int i) j p) pos) (fC (.int (-i))) :=
  ve_pe (fun _ => pe_un un_neg pe_int) fun σ H Q ⟨G, e, sr, h⟩ => ⟨i, rfl, h G H (Tr.refl sr) _ rfl⟩
/-- {} -/
def fDnew : M Rv := fun e => .ok (.fresh (.dct [])) e
theorem ve_dnew {pos : Pos} : VE g W k X (.Dict [] [] pos) fDnew :=
  ve_pe (fun _ => pe_dnewK) fun σ H Q ⟨G, e, sr, h⟩ p np => by
    have gr := Grow.lay (o := HO.dK []) sr.bs np
    exact h G _ (gr.tr sr) (.ref p) ⟨p, rfl, sr.bs.hn np, ⟨[], upd_same, rfl⟩, np, fun i r => (sr.root r).2 np⟩
end
section
variable {P : Program} {w : World} {K : PySem.W.Frag} {mg : Str → Option Value} {base : Heap} {g : Gm} {j : Nat} {f : Addr} {fd : FuncData} {ps : List Str} {CXa : CXT} {np n m : Nat} {B : M Ctl} {dvs : List V} {dd : List D} {ks : List Str}
theorem fk_of' (Fk : FnG P g.w g.K mg base CXa j f fd ps (spV g np (fnF np n B))) (hb : ∃ ds, Vals [] ds ∧ Binds g.K fd ps ds) : FnK P g.w g.K mg base CXa j f [] (spR g (fnF np n B)) := by
  obtain ⟨ds, hv, hb⟩ := hb
  cases hv
  exact fk_of Fk hb
end
end Vs

set_option maxRecDepth 100000
set_option maxHeartbeats 2000000
namespace Vs
open PySem PySem.Spec PyProof.Rows L2 Fw SX
/-- x.get(k, z) -/
def fGet2 (A K Z : M Rv) : M Rv := A.bind fun a e0 => match deref a e0 with
  | some (.dct _) => (K.bind fun y => (fFrz Z).bind fun z e => match deref a e, deref y e, z with
    | some (.dct kvs), some (.str k), .val d => .ok (.val ((getK kvs k).getD d)) e
    | _, _, _ => .no) e0
  | _ => .no
/-- x.get(k) -/
def fGet1 (A K : M Rv) : M Rv := A.bind fun a e0 => match deref a e0 with
  | some (.dct _) => (K.bind fun y e => match deref a e, deref y e with
    | some (.dct kvs), some (.str k) => .ok (.val ((getK kvs k).getD .non)) e
    | _, _ => .no) e0
  | _ => .no
section
variable {g : Gm} {W : WX} {k : Nat} {X : Cx} {o e f : Expr} {apos cpos : Pos} {A K Z : M Rv}
end
/-- -x -/
def fNeg (A : M Rv) : M Rv := A.bind fun r e => match r with
  | .val (.int i) => .ok (.val (.int (-i))) e
  | _ => .no
def dclrD : D → List D → Option (D × D)
  | .dct _, [] => some (.dct [], .non)
  | _, _ => none
def sameV : Option D → D → Bool
  | some (.str a), .str b => decide (a = b)
  | _, _ => false
def sameK (ks ls : List (List Nat × D)) : Bool := decide (ks.length = ls.length) && ks.all fun q => sameV (getK ls q.1) q.2
def eqK : D → D → Option Rv
  | .dct ks, .dct ls => if sameK ks ls = true then some (.val (.bl true)) else none
  | _, _ => none
def neK : D → D → Option Rv
  | .dct ks, .dct ls => if sameK ks ls = true then some (.val (.bl false)) else none
  | _, _ => none
def rCmpK (r : Bool) : R2 := fun x y H Q => ∃ a b ks ls, x = .ref a ∧ y = .ref b ∧ Rd H a (.dK ks) ∧ Rd H b (.dK ls) ∧ ks.length = ls.length ∧ (∀ q ∈ ks, valV ls q.1 = some q.2 ∧ flatB q.2 = true) ∧ Q (.bl r) H
theorem RepK.mem {g : Gm} {G : Hp} : ∀ {kvs : List (List Nat × D)} {vs : List (Key × V)}, RepK g G kvs vs → ∀ q ∈ vs, ∃ kd ∈ kvs, q.1 = .inr (S kd.1) ∧ Rep g G kd.2 q.2
  | [], vs, r => fun q hq => by rw [show vs = [] from r] at hq; cases hq
  | (k, d) :: kvs, vs, ⟨_, v, r, e, a, b⟩ => fun q hq => by
    subst e
    rcases List.mem_cons.mp hq with z | z
    · exact ⟨(k, d), List.mem_cons_self, by rw [z], by rw [z]; exact a⟩
    · obtain ⟨kd, h1, h2⟩ := RepK.mem b q z
      exact ⟨kd, List.mem_cons_of_mem _ h1, h2⟩
section
variable {g : Gm}
variable {W : WX} {k : Nat} {X : Cx}
end
def sortKD : List D → Option Rv
  | [.dct kvs] => if kvs.length < 64 then some (.fresh (.lst ((srtN (kvs.map (·.1))).map .str))) else none
  | _ => none
def rSortK : List V → Hp → VK → Prop := fun xs H Q => ∃ (a : Addr) (kvs : List (Key × V)) (ks : List Str), xs = [.ref a] ∧ Rd H a (.dK kvs) ∧ kvs.map (·.1) = ks.map Sum.inr ∧ ks.length < 64 ∧ ∀ ys p, ys.Perm ks → sortedS ys = true → H p = none → Q (.ref p) (upd H p (.lst (ys.map V.str)))
theorem RepK.keys {g : Gm} {G : Hp} : ∀ {kvs : List (List Nat × D)} {vs : List (Key × V)}, RepK g G kvs vs → vs.map (·.1) = (kvs.map fun q => S q.1).map Sum.inr ∧ ∀ q ∈ kvs, OkS q.1
  | [], vs, r => by rw [show vs = [] from r]; exact ⟨rfl, fun q hq => nomatch hq⟩
  | (k, d) :: kvs, vs, ⟨ok, v, r, e, a, b⟩ => by
    obtain ⟨h1, h2⟩ := RepK.keys b
    subst e
    refine ⟨by simp only [List.map_cons]; rw [h1], fun q hq => ?_⟩
    rcases List.mem_cons.mp hq with z | z
    · rw [z]; exact ok
    · exact h2 q z
section
variable {P : Program} {mg : Str → Option Value} {base : Heap} {g : Gm} {j np n m : Nat} {f : Addr} {fd : FuncData} {ps : List Str} {B : M Ctl} {CXa : CXT}
end
end Vs

set_option maxRecDepth 100000
set_option maxHeartbeats 2000000
namespace Vs
open PySem PySem.Spec PyProof.Rows L2 Fw SX
section
variable {g : Gm} {G H G1 H1 : Hp} {σ σ1 : L2.St} {e e1 : Ve} {d p : Addr} {vs : List V} {od : Obj} {i : Nat} {kvs : List D}
def IsLS (s : Sl) (kvs : List D) : Prop := s = .ow (.lst kvs) ∨ s = .bo (.lst kvs)
end
/-- for t in x: .., x a name -/
def fForV (i : Nat) (F : D → M Unit) (B : M Ctl) : M Ctl := fun e => match e[i]? with
  | some (.ow (.lst ds)) => okR (fun e' => e'.set i (.ow (.lst ds))) (forL F B ds (e.set i (.lo (.lst ds))))
  | some (.bo (.lst ds)) => okR (fun e' => e'.set i (.bo (.lst ds))) (forL F B ds (e.set i (.lo (.lst ds))))
  | some (.lo (.lst ds)) => forL F B ds e
  | _ => fFor (fItems (fVar i)) F B e
section
variable {g : Gm} {W : WX} {k : Nat} {X : Cx} {tg : Expr} {F : D → M Unit} {is : List Nat} {x : Str} {p pos : Pos} {i : Nat}
end
end Vs

set_option maxRecDepth 100000
set_option maxHeartbeats 2000000
namespace Vs
open PySem PySem.Spec PyProof.Rows L2 Fw SX

theorem reads_keys {h : Heap} {P : Program} {w : World} : ∀ {es : List DictEntry} {kvs : List (Key × Value)}, Pairs (mixKind P w) es kvs → ReadsAll h (es.map (·.key)) (kvs.map fun q => kPy q.1) [] ∧ es.map (·.val) = kvs.map (·.2)
  | _, _, .nil => ⟨.nil, rfl⟩
  | _, _, .cons (e := e) (kv := kv) hk hv t => by
    obtain ⟨t1, t2⟩ := reads_keys t
    refine ⟨?_, by rw [List.map_cons, List.map_cons, hv, t2]⟩
    rw [List.map_cons, List.map_cons]
    refine ReadsAll.cons (as := []) (bs := []) ?_ t1
    rcases keyIs_shape hk with ⟨i, t, e1, e2⟩ | ⟨x, t, e1, e2⟩
    · rw [e2]
      obtain ⟨k, v⟩ := kv
      cases e1
      exact .int i t
    · rw [e2]
      obtain ⟨k, v⟩ := kv
      cases e1
      exact .str x t
section
variable {X : Cx} {pins : List (Addr × Obj)} {σ : L2.St} {H : Hp} {s : Shared}
/-- the module table lies in K -/
def SysIn (K : PySem.W.Frag) : Prop := ∃ o, K.lookup sysModules = some o
theorem Rd.nsys (I : Inv X pins σ H s) (sy : SysIn X.K) {a : Addr} {u : HO} (r : Rd H a u) : sysModules ≠ a := fun z => by
  obtain ⟨o, ho⟩ := sy
  have n := (I.bs _ _ (I.ok.mod.kin _ _ ho)).2
  rw [z] at n
  rcases r with r | ⟨ob, r⟩ <;> (rw [n] at r; cases r)
theorem kv_split {kvs : List (Key × V)} {vs : List (Key × Value)} : KV kvs vs → kvs.map (fun q => kPy q.1) = vs.map (fun q => kPy q.1) ∧ Vals (kvs.map (·.2)) (vs.map (·.2))
  | .nil => ⟨rfl, .nil⟩
  | .cons ⟨h1, h2⟩ t => by
    obtain ⟨t1, t2⟩ := kv_split t
    exact ⟨by simp only [List.map_cons]; rw [h1, t1], .cons h2 t2⟩
mutual
theorem Dr.reads (I : Inv X pins σ H s) (sy : SysIn X.K) : ∀ {v : V} {d : PyData} {u : Value}, Dr X.K H v d → RelV v u → ∃ as, Reads s.heap u d as ∧ sysModules ∉ as
  | _, _, _, .non, r => by cases r; exact ⟨_, Reads.none, by simp⟩
  | _, _, _, .bl b, r => by cases r; exact ⟨_, Reads.bool b, by simp⟩
  | _, _, _, .int i, r => by obtain ⟨t, rfl⟩ := r; exact ⟨_, Reads.int i t, by simp⟩
  | _, _, _, .str x, r => by obtain ⟨t, rfl⟩ := r; exact ⟨_, Reads.str x t, by simp⟩
  | _, _, _, .lst (a := a) hs ha, r => by
    cases r
    obtain ⟨_, its, n, rv, ho⟩ := Rd.ok hs I.hok
    obtain ⟨as, hr, hn⟩ := DrAll.reads I sy ha rv
    exact ⟨_, Reads.list ho rfl rfl hr, by
      intro z
      rcases List.mem_cons.mp z with z | z
      · exact Rd.nsys I sy hs z
      · exact hn z⟩
  | _, _, _, .tup hs ha, r => by
    cases r
    obtain ⟨its, rv, ⟨o, ho, hc, n, hd⟩, _⟩ := I.tuple hs
    obtain ⟨as, hr, hn⟩ := DrAll.reads I sy ha rv
    exact ⟨_, Reads.tuple ho hc hd hr, hn⟩
  | _, _, _, .dct (a := a) (kvs := kvs) (ds := ds) hs ha, r => by
    cases r
    obtain ⟨_, _, vs, kv, o, es, ep, ho, hx, hd, _, hp, _⟩ := Rd.ok hs I.hok
    obtain ⟨k1, k2⟩ := kv_split kv
    obtain ⟨p1, p2⟩ := reads_keys (h := s.heap) hp
    rw [← p2] at k2
    obtain ⟨as, hr, hn⟩ := DrAll.reads I sy ha k2
    have le : (kvs.map fun q => kPy q.1).length = ds.length := by rw [List.length_map, ← ha.len, List.length_map]
    refine ⟨_, Reads.dict (as := []) (bs := as) ho hx.1 hd ?_ ?_, by
      intro z
      rcases List.mem_cons.mp z with z | z
      · exact Rd.nsys I sy hs z
      · exact hn z⟩
    · rw [List.map_fst_zip (Nat.le_of_eq le), k1]
      exact p1
    · rw [List.map_snd_zip (Nat.le_of_eq le.symm)]
      exact hr
theorem DrAll.reads (I : Inv X pins σ H s) (sy : SysIn X.K) : ∀ {vs : List V} {ds : List PyData} {us : List Value}, DrAll X.K H vs ds → Vals vs us → ∃ as, ReadsAll s.heap us ds as ∧ sysModules ∉ as
  | _, _, _, .nil, r => by cases r; exact ⟨_, ReadsAll.nil, by simp⟩
  | _, _, _, .cons h1 h2, r => by
    cases r with
    | cons r1 r2 =>
      obtain ⟨as, q1, n1⟩ := Dr.reads I sy h1 r1
      obtain ⟨bs, q2, n2⟩ := DrAll.reads I sy h2 r2
      exact ⟨_, ReadsAll.cons q1 q2, by
        intro z
        rcases List.mem_append.mp z with z | z
        · exact n1 z
        · exact n2 z⟩
end
def rRepr (K : PySem.W.Frag) : List V → Hp → VK → Prop := fun xs H Q => SysIn K ∧ ∃ v d, xs = [v] ∧ Dr K H v d ∧ d.showable = true ∧ d.shown.length ≤ sizeLine ∧ d.depth ≤ 60 ∧ Q (.str d.shown) H
theorem call_reprD (hg : X.A.guards = some []) (hu : X.A.units + 64 < cLine) : CallR X (.builtin "repr") (rRepr X.K) := by
  intro pins s σ H xs us Q I r h
  obtain ⟨sy, v, d, rfl, hd, hs, hz, hp, q⟩ := h
  obtain ⟨u, rfl, rv⟩ := vals1 r
  obtain ⟨as, hr, hn⟩ := Dr.reads I sy hd rv
  cases hr with
  | none => exact PySem.P.repr_of_none ⟨.str _, H, I.tok _, ⟨_, rfl⟩, by rw [PyData.shown_none] at q; exact q⟩
  | bool b => exact PySem.P.repr_of_bool ⟨.str _, H, I.tok _, ⟨_, rfl⟩, by rw [PyData.shown_bool] at q; cases b <;> exact q⟩
  | int i t => exact PySem.P.repr_of_int (by simpa [PyData.showable] using hs) ⟨.str _, H, I.tok _, ⟨_, rfl⟩, by rw [PyData.shown_int] at q; exact q⟩
  | str x t => exact PySem.P.repr_of_str ⟨.str _, H, I.tok _, ⟨_, rfl⟩, by rw [PyData.shown_str] at q; exact q⟩ (by rw [PyData.shown_str] at hz; exact hz)
  | list h1 h2 h3 h4 => exact repr_of_reads' (.list h1 h2 h3 h4) hs (fun _ => hn) hg (by omega) (fun b o e => e) (fun h' u tk hk => ⟨.str _, H, I.kept hk, ⟨_, rfl⟩, q⟩) hz
  | tuple h1 h2 h3 h4 => exact repr_of_reads' (.tuple h1 h2 h3 h4) hs (fun _ => hn) hg (by omega) (fun b o e => e) (fun h' u tk hk => ⟨.str _, H, I.kept hk, ⟨_, rfl⟩, q⟩) hz
  | dict h1 h2 h3 h4 h5 => exact repr_of_reads' (.dict h1 h2 h3 h4 h5) hs (fun _ => hn) hg (by omega) (fun b o e => e) (fun h' u tk hk => ⟨.str _, H, I.kept hk, ⟨_, rfl⟩, q⟩) hz
end
mutual
def rPy : D → PyData
  | .non => .none
  | .bl b => .bool b
  | .int i => .int i
  | .str l => .str (S l)
  | .lst xs => .list (rPys xs)
  | .tup xs => .tuple (rPys xs)
  | .dct kvs => .dict (rPyK kvs)
  | _ => .none
def rPys : List D → List PyData
  | [] => []
  | x :: xs => rPy x :: rPys xs
def rPyK : List (List Nat × D) → List (PyData × PyData)
  | [] => []
  | (k, d) :: r => (.str (S k), rPy d) :: rPyK r
end
mutual
def rok : D → Bool
  | .non => true
  | .bl _ => true
  | .int i => decide (i.natAbs.log2 < 1920)
  | .str _ => true
  | .lst xs => roks xs
  | .tup xs => roks xs
  | .dct kvs => rokK kvs
  | _ => false
def roks : List D → Bool
  | [] => true
  | x :: xs => rok x && roks xs
def rokK : List (List Nat × D) → Bool
  | [] => true
  | (_, d) :: r => rok d && rokK r
end
mutual
def szD : D → Nat
  | .int _ => 1921
  | .str l => 10 * l.length + 2
  | .lst xs => szDs xs + 3
  | .tup xs => szDs xs + 3
  | .dct kvs => szK kvs + 3
  | _ => 5
def szDs : List D → Nat
  | [] => 0
  | x :: xs => szD x + 2 + szDs xs
def szK : List (List Nat × D) → Nat
  | [] => 0
  | (k, d) :: r => 10 * k.length + 2 + 2 + szD d + 2 + szK r
end
mutual
def dpD : D → Nat
  | .lst xs => dpDs xs + 1
  | .tup xs => dpDs xs + 1
  | .dct kvs => dpK kvs + 1
  | _ => 0
def dpDs : List D → Nat
  | [] => 0
  | x :: xs => max (dpD x) (dpDs xs)
def dpK : List (List Nat × D) → Nat
  | [] => 0
  | (_, d) :: r => max (dpD d) (dpK r)
end
/-- a text's signs -/
def OkT (x : Str) : Prop := OkS x.cps.toList
theorem OkT.app {a b : Str} (ha : OkT a) (hb : OkT b) : OkT (a ++ b) := by
  show OkS (TL.tl (a ++ b))
  rw [TL.tl_append]
  exact OkS.app ha hb
theorem OkT.lit {x : Str} (h : (x.cps.toList.all fun c => decide (c < 1114112)) = true) : OkT x := fun c hc => by
  have := List.all_eq_true.mp h c hc
  simpa using this
theorem OkT.join {sep : Str} (hs : OkT sep) : ∀ {ts : List Str}, (∀ t ∈ ts, OkT t) → OkT (Str.join sep ts)
  | [], _ => fun c hc => by
    have : c ∈ ([] : List Nat) := hc
    simp at this
  | [x], h => h x (List.mem_cons_self ..)
  | x :: y :: r, h => (((h x (List.mem_cons_self ..)).app hs).app (OkT.join hs fun t ht => h t (List.mem_cons_of_mem _ ht)))
theorem okT_int (i : Int) : OkT ((toString i : String) : Str) := fun c hc => by
  rcases Nat.lt_or_ge c 1114112 with h | h
  · exact h
  · exact absurd hc (int_text_free' c ⟨by omega, by omega⟩ i)
theorem ok_digits (c : Nat) : OkS ((Nat.toDigits 16 c).map Char.toNat) := fun d hd => by
  obtain ⟨ch, _, rfl⟩ := List.mem_map.mp hd
  have := ch.valid
  show ch.val.toNat < 1114112
  rcases this with h | h
  · have h' : ch.val.toNat < 0xd800 := h
    omega
  · exact h.2
theorem ok_pad (n : Nat) {l : List Nat} (h : OkS l) : OkS (List.replicate n 48 ++ l) := OkS.app (fun c hc => by rw [List.eq_of_mem_replicate hc]; decide) h
theorem okS_cons {c : Nat} {l : List Nat} (hc : c < 1114112) (h : OkS l) : OkS (c :: l) := fun d hd => by
  rcases List.mem_cons.mp hd with z | z
  · rw [z]; exact hc
  · exact h d z
theorem okS_nil : OkS [] := fun c hc => nomatch hc
theorem ok_reprChar {q c : Nat} (hc : c < 1114112) : OkS (Builtin.Str.reprChar q c) := by
  unfold Builtin.Str.reprChar
  have l2 : ∀ a : Nat, a < 1114112 → OkS [92, a] := fun a ha => okS_cons (by decide) (okS_cons ha okS_nil)
  dsimp only
  split
  · exact l2 c hc
  split
  · exact l2 _ (by decide)
  split
  · exact l2 _ (by decide)
  split
  · exact l2 _ (by decide)
  split
  · exact okS_cons hc okS_nil
  split
  · exact OkS.app (l2 _ (by decide)) (ok_pad _ (ok_digits c))
  split
  · exact OkS.app (l2 _ (by decide)) (ok_pad _ (ok_digits c))
  · exact OkS.app (l2 _ (by decide)) (ok_pad _ (ok_digits c))
theorem ok_foldl {q : Nat} : ∀ (l : List Nat) (acc : Array Nat), OkS acc.toList → OkS l → OkS (l.foldl (fun out c => out ++ (Builtin.Str.reprChar q c).toArray) acc).toList
  | [], acc, h, _ => h
  | c :: l, acc, h, hl => by
    rw [List.foldl_cons]
    refine ok_foldl l _ ?_ fun d hd => hl d (List.mem_cons_of_mem _ hd)
    rw [Array.toList_append, List.toList_toArray]
    exact OkS.app h (ok_reprChar (hl c (List.mem_cons_self ..)))
theorem okT_repr {l : List Nat} (h : OkS l) : OkT (reprText (S l)) := by
  have q : reprQuote (S l) < 1114112 := by
    unfold reprQuote
    split <;> decide
  unfold OkT reprText
  rw [Array.toList_push]
  refine OkS.app ?_ (okS_cons q okS_nil)
  rw [← Array.foldl_toList]
  exact ok_foldl _ _ (okS_cons q okS_nil) h
structure RpOk (K : PySem.W.Frag) (H : Hp) (v : V) (d : D) : Prop where
  dr : Dr K H v (rPy d)
  sh : (rPy d).showable = true
  dp : (rPy d).depth = dpD d
  len : (rPy d).shown.length ≤ szD d
  ok : OkT (rPy d).shown
structure RpsOk (K : PySem.W.Frag) (H : Hp) (vs : List V) (ds : List D) : Prop where
  dr : DrAll K H vs (rPys ds)
  sh : PyData.showableAll (rPys ds) = true
  dp : PyData.depthAll (rPys ds) = dpDs ds
  len : ((PyData.shownAll (rPys ds)).map (·.length)).sum + 2 * (PyData.shownAll (rPys ds)).length ≤ szDs ds
  ok : ∀ t ∈ PyData.shownAll (rPys ds), OkT t
structure RpkOk (K : PySem.W.Frag) (H : Hp) (vs : List (Key × V)) (ds : List (List Nat × D)) : Prop where
  dr : ∃ ps, DrAll K H (vs.map (·.2)) ps ∧ rPyK ds = (vs.map fun q => kPy q.1).zip ps
  sh : PyData.showableKv (rPyK ds) = true
  dp : PyData.depthKv (rPyK ds) = dpK ds
  len : ((PyData.shownKv (rPyK ds)).map (·.length)).sum + 2 * (PyData.shownKv (rPyK ds)).length ≤ szK ds
  ok : ∀ t ∈ PyData.shownKv (rPyK ds), OkT t
theorem rp_seq {K : PySem.W.Frag} {H : Hp} {vs : List V} {ds : List D} (r : RpsOk K H vs ds) : OkT (Str.join ", " (PyData.shownAll (rPys ds))) := OkT.join (OkT.lit (by decide +kernel)) r.ok
theorem rp_lst {K : PySem.W.Frag} {H : Hp} {a : Addr} {vs : List V} {ds : List D} (h : Rd H a (.lst vs)) (r : RpsOk K H vs ds) : RpOk K H (.ref a) (.lst ds) :=
  ⟨.lst h r.dr, r.sh, congrArg Nat.succ r.dp, by
    show (listText (PyData.shownAll (rPys ds))).length ≤ szDs ds + 3
    exact Nat.le_trans (listText_len_le _) (Nat.add_le_add_right r.len 3), by
    show OkT (PyData.shown (.list (rPys ds)))
    rw [PyData.shown_list]
    exact ((OkT.lit (by decide +kernel)).app (rp_seq r)).app (OkT.lit (by decide +kernel))⟩
theorem rp_tup {K : PySem.W.Frag} {H : Hp} {a : Addr} {vs : List V} {ds : List D} (h : SqT K H a vs) (r : RpsOk K H vs ds) : RpOk K H (.ref a) (.tup ds) :=
  ⟨.tup h r.dr, r.sh, congrArg Nat.succ r.dp, by
    show (tupleText (PyData.shownAll (rPys ds))).length ≤ szDs ds + 3
    exact Nat.le_trans (tupleText_len_le _) (Nat.add_le_add_right r.len 3), by
    show OkT (PyData.shown (.tuple (rPys ds)))
    rw [PyData.shown_tuple]
    refine ((OkT.lit (by decide +kernel)).app (rp_seq r)).app ?_
    split <;> exact OkT.lit (by decide +kernel)⟩
theorem rp_dct {K : PySem.W.Frag} {H : Hp} {a : Addr} {vs : List (Key × V)} {ds : List (List Nat × D)} (h : Rd H a (.dK vs)) (r : RpkOk K H vs ds) : RpOk K H (.ref a) (.dct ds) :=
  ⟨by
    obtain ⟨ps, h1, h2⟩ := r.dr
    show Dr K H (.ref a) (.dict (rPyK ds))
    rw [h2]
    exact .dct h h1, r.sh, congrArg Nat.succ r.dp, by
    show (dictText (PyData.shownKv (rPyK ds))).length ≤ szK ds + 3
    exact Nat.le_trans (dictText_len_le _) (Nat.add_le_add_right r.len 3), by
    show OkT (PyData.shown (.dict (rPyK ds)))
    rw [PyData.shown_dict]
    exact ((OkT.lit (by decide +kernel)).app (OkT.join (OkT.lit (by decide +kernel)) r.ok)).app (OkT.lit (by decide +kernel))⟩
theorem rd_of {G H : Hp} (bs : Bs G H) {a : Addr} {u : HO} (h : G a = some u) : Rd H a u := (bs.sub a u h).elim .inl fun z => .inr z.2
theorem len_text {l : List Nat} (h : OkS l) : (reprText (S l)).length ≤ 10 * l.length + 2 := by
  have := StrLaws.reprText_len (S l) fun c hc => Nat.lt_trans (h c hc) (by decide)
  rw [S_len] at this
  exact this
mutual
theorem rp_of {g : Gm} {G H : Hp} (bs : Bs G H) : ∀ (d : D) (v : V), Rep g G d v → rok d = true → RpOk g.K H v d
  | .non, v, r, _ => by rw [show v = _ from r]; exact ⟨.non, rfl, rfl, by decide +kernel, OkT.lit (by decide +kernel)⟩
  | .bl b, v, r, _ => by rw [show v = _ from r]; exact ⟨.bl b, rfl, rfl, by cases b <;> decide +kernel, by cases b <;> exact OkT.lit (by decide +kernel)⟩
  | .int i, v, r, h => by
    rw [show v = _ from r]
    have h' : i.natAbs.log2 < 1920 := by simpa [rok] using h
    refine ⟨.int i, by simpa [rPy, PyData.showable] using h', rfl, ?_, ?_⟩
    · show (PyData.shown (.int i)).length ≤ 1921
      rw [PyData.shown_int]
      exact int_text_len_1921 h'
    · show OkT (PyData.shown (.int i))
      rw [PyData.shown_int]
      exact okT_int i
  | .str l, v, ⟨e, ok⟩, _ => by
    rw [e]
    refine ⟨.str _, rfl, rfl, ?_, ?_⟩
    · show (PyData.shown (.str (S l))).length ≤ _
      rw [PyData.shown_str]
      exact len_text ok
    · show OkT (PyData.shown (.str (S l)))
      rw [PyData.shown_str]
      exact okT_repr ok
  | .lst ds, v, ⟨a, vs, e, q, r⟩, h => by rw [e]; exact rp_lst (rd_of bs q) (rps_of bs ds vs r h)
  | .tup ds, v, ⟨a, vs, e, q, r⟩, h => by rw [e]; exact rp_tup (bs.sqT q) (rps_of bs ds vs r h)
  | .dct kvs, v, ⟨a, vs, e, q, r⟩, h => by rw [e]; exact rp_dct (rd_of bs q) (rpk_of bs kvs vs r h)
  | .set _, v, _, h => by cases h
  | .ins _ _, v, _, h => by cases h
  | .con _, v, _, h => by cases h
  | .scr _, v, _, h => by cases h
theorem rps_of {g : Gm} {G H : Hp} (bs : Bs G H) : ∀ (ds : List D) (vs : List V), Reps g G ds vs → roks ds = true → RpsOk g.K H vs ds
  | [], vs, r, _ => by rw [show vs = _ from r]; exact ⟨.nil, rfl, rfl, Nat.le_refl _, fun t ht => nomatch ht⟩
  | d :: ds, vs, ⟨v, r, e, a, b⟩, h => by
    have h' : rok d = true ∧ roks ds = true := Bool.and_eq_true_iff.mp h
    have p := rp_of bs d v a h'.1
    have q := rps_of bs ds r b h'.2
    rw [e]
    refine ⟨.cons p.dr q.dr, ?_, ?_, ?_, fun t ht => ?_⟩
    · show (PyData.showable (rPy d) && PyData.showableAll (rPys ds)) = true
      rw [p.sh, q.sh]; rfl
    · show max (PyData.depth (rPy d)) (PyData.depthAll (rPys ds)) = max (dpD d) (dpDs ds)
      rw [p.dp, q.dp]
    · show ((PyData.shownAll (rPy d :: rPys ds)).map (·.length)).sum + 2 * (PyData.shownAll (rPy d :: rPys ds)).length ≤ szD d + 2 + szDs ds
      rw [PyData.shownAll_cons, List.map_cons, List.sum_cons, List.length_cons]
      have := p.len
      have := q.len
      omega
    · have ht : t ∈ PyData.shownAll (rPy d :: rPys ds) := ht
      rw [PyData.shownAll_cons] at ht
      rcases List.mem_cons.mp ht with z | z
      · rw [z]; exact p.ok
      · exact q.ok t z
theorem rpk_of {g : Gm} {G H : Hp} (bs : Bs G H) : ∀ (ds : List (List Nat × D)) (vs : List (Key × V)), RepK g G ds vs → rokK ds = true → RpkOk g.K H vs ds
  | [], vs, r, _ => by rw [show vs = _ from r]; exact ⟨⟨[], .nil, rfl⟩, rfl, rfl, Nat.le_refl _, fun t ht => nomatch ht⟩
  | (k, d) :: ds, vs, ⟨ok, v, r, e, a, b⟩, h => by
    have h' : rok d = true ∧ rokK ds = true := Bool.and_eq_true_iff.mp h
    have p := rp_of bs d v a h'.1
    have q := rpk_of bs ds r b h'.2
    obtain ⟨ps, h1, h2⟩ := q.dr
    rw [e]
    refine ⟨⟨rPy d :: ps, .cons p.dr h1, ?_⟩, ?_, ?_, ?_, fun t ht => ?_⟩
    · show (PyData.str (S k), rPy d) :: rPyK ds = _
      rw [h2]
      rfl
    · show (PyData.showable (.str (S k)) && PyData.showable (rPy d) && PyData.showableKv (rPyK ds)) = true
      rw [p.sh, q.sh]; rfl
    · show max (max (PyData.depth (.str (S k))) (PyData.depth (rPy d))) (PyData.depthKv (rPyK ds)) = max (dpD d) (dpK ds)
      rw [p.dp, q.dp]
      simp [PyData.depth]
    · show ((PyData.shownKv ((.str (S k), rPy d) :: rPyK ds)).map (·.length)).sum + 2 * (PyData.shownKv ((.str (S k), rPy d) :: rPyK ds)).length ≤ 10 * k.length + 2 + 2 + szD d + 2 + szK ds
      rw [PyData.shownKv_cons, List.map_cons, List.sum_cons, List.length_cons, PyData.shown_str]
      have l1 := len_text ok
      have l2 := p.len
      have l3 := q.len
      have l4 : (reprText (S k) ++ ": " ++ (rPy d).shown).length = (reprText (S k)).length + 2 + (rPy d).shown.length := by
        rw [strLen_append, strLen_append]
        rfl
      omega
    · have ht : t ∈ PyData.shownKv ((.str (S k), rPy d) :: rPyK ds) := ht
      rw [PyData.shownKv_cons] at ht
      rcases List.mem_cons.mp ht with z | z
      · rw [z, PyData.shown_str]
        exact ((okT_repr ok).app (OkT.lit (by decide +kernel))).app p.ok
      · exact q.ok t z
end
theorem rp_ofH {g : Gm} {G H : Hp} (bs : Bs G H) {d : D} {v : V} (r : RepH g G H d v) (h : rok d = true) : RpOk g.K H v d := by
  rcases r with r | ⟨p, e, np, o⟩
  · exact rp_of bs d v r h
  · match d, o, h with
    | .lst ds, ⟨vs, q, r⟩, h => rw [e]; exact rp_lst (.of q) (rps_of bs ds vs r h)
    | .dct kvs, ⟨vs, q, r⟩, h => rw [e]; exact rp_dct q (rpk_of bs kvs vs r h)
    | .ins _ _, _, h => cases h
def reprD : List D → Option Rv
  | [d] => if (rok d && decide (szD d ≤ 16000000) && decide (dpD d ≤ 60)) = true then some (.val (.str (rPy d).shown.cps.toList)) else none
  | _ => none
theorem cv_repr {g : Gm} (sy : SysIn g.K) : CallV g (rRepr g.K) reprD := fun G H ds vs out Q bs sc r e q => by
  match ds, e with
  | [], e => cases e
  | d :: d' :: t, e => cases e
  | [d], e =>
    obtain ⟨v, ev, a⟩ := r.one
    subst ev
    by_cases c : (rok d && decide (szD d ≤ 16000000) && decide (dpD d ≤ 60)) = true
    · rw [show reprD [d] = _ from if_pos c] at e
      cases e
      simp only [Bool.and_eq_true, decide_eq_true_eq] at c
      obtain ⟨⟨c1, c2⟩, c3⟩ := c
      have p := rp_ofH bs a c1
      refine ⟨sy, _, _, rfl, p.dr, p.sh, Nat.le_trans p.len (Nat.le_trans c2 (by rw [sizeLine_eq]; decide)), by rw [p.dp]; exact c3, q _ G H (Grow.refl bs) ⟨?_, p.ok⟩⟩
      rw [S_of]
    · rw [show reprD [d] = _ from if_neg c] at e
      cases e
theorem ve_repr {g : Gm} {W : WX} {k : Nat} {X : Cx} {ex : Expr} {es : List Expr} {A : M (List Rv)} {p pos : Pos} (sy : SysIn g.K) (hm : X.mg "repr" = none) (ha : VA g W k X (ex :: es) A) (hg : Gl X "repr" := by rfl) (he : starEach (ex :: es) X.env = (false, eval ex X.env) :: starEach es X.env := by rfl) (hpl : (backTo pos (starEach es X.env)).any (·.1) = false := by rfl) :
    VE g W k X (.Call (.Name "repr" p) (ex :: es) [] pos) (fApp reprD A) := ve_callB (fun c => c.K ▸ call_reprD c.room.gd c.room.toRoom.units) (cv_repr sy) hg hm (by decide +kernel) ha (he := he) (hpl := hpl)
theorem sysB_ok {K : PySem.W.Frag} (h : sysB K = true) : SysIn K := Option.isSome_iff_exists.mp h
/-- a def that calls itself: nothing is promised at first -/
theorem df_no {P : Program} {mg : Str → Option Value} {base : Heap} {g : Gm} {x : Str} {f : Addr} (hm : mg x = some (.ref f)) (kp : PySem.W.keepIn g.K (.ref f) = true) : Df P mg base g x [] 0 (fun _ => .no) :=
  ⟨f, fun A outer s H us ws vs zs Q E hr e0 rv rz hl hs => by
    obtain ⟨G, as, ok, sr, h⟩ := hs
    exact h.elim, hm, kp⟩
end Vs

set_option maxRecDepth 100000
set_option maxHeartbeats 2000000
namespace Vs
open PySem PySem.Spec PyProof.Rows L2 Fw SX He
def obsY (n : Nat) (ex : Ex) (fa : List Fa) (fn : List DefD) (tf : List Defn) (g : Addr → Option Obj) : AlY := (Fw.obsX ex fa fn (frT g (asX g n)), tabsB g tf (frT g (asX g n)))
theorem saysY_of {n : Nat} {ex : Ex} {fa : List Fa} {fn : List DefD} {tf : List Defn} {h : Heap} (e : obsY n ex fa fn tf h.get? = (valD fn, true)) : SaysY ex fa fn tf h (frT h.get? (asX h.get? n)) := by
  have e1 : Fw.obsX ex fa fn (frT h.get? (asX h.get? n)) = valD fn := congrArg (fun z : AlY => z.1) e
  have e2 : tabsB h.get? tf (frT h.get? (asX h.get? n)) = true := congrArg (fun z : AlY => z.2) e
  have all : ∀ p ∈ tf, PySem.W.codeHdIn (frT h.get? (asX h.get? n)) (cT (frT h.get? (asX h.get? n)) p).1 (cT (frT h.get? (asX h.get? n)) p).2 = true ∧ ∃ o, h.get? (cT (frT h.get? (asX h.get? n)) p).2 = some o ∧ emptyTab o = true := fun p hp => by
    obtain ⟨z1, z2⟩ := Bool.and_eq_true_iff.mp (List.all_eq_true.mp e2 p hp)
    refine ⟨z1, ?_⟩
    revert z2
    cases h.get? (cT (frT h.get? (asX h.get? n)) p).2 with
    | none => exact fun z => nomatch z
    | some o => exact fun z => ⟨o, rfl, z⟩
  refine ⟨e1, fun p hp => (all p hp).1, fun p hp => ?_, fun p hp => ?_⟩
  · obtain ⟨_, o, q, z⟩ := all p hp
    exact frT_none q z
  · obtain ⟨_, o, q, z⟩ := all p hp
    rw [q, emptyTab_eq z]
def hookY (n : Nat) (ex : Ex) (fa : List Fa) (fn : List DefD) (tf : List Defn) : PySem.W.Hook where
  α := AlY
  obs := fun s => obsY n ex fa fn tf s.heap.get?
  val := fun _ => (valD fn, true)
  says := fun _ h => ∃ K : PySem.W.Frag, K.In h ∧ SaysY ex fa fn tf h K
  of := fun _ _ e => ⟨_, frT_in, saysY_of e⟩
  keeps := fun _ _ _ ⟨K, hK, c⟩ k => ⟨K, PySem.W.Frag.In.keeps hK k, ⟨c.x, c.hd, c.out, fun p hp => k _ _ (c.empty p hp)⟩⟩
/-- two defs' tables differ -/
def tabNe (p q : Defn) : PySem.W.Frag → Bool := fun K => decide ((cT K p).2 ≠ (cT K q).2)
def stAt (i : Nat) (l : List Stmt) : Stmt := l.getD i (.Pass ⟨0, 0, 0, 0⟩)
def noEx : Expr := .Name "" ⟨0, 0, 0, 0⟩
def ifTest : Stmt → Expr
  | .If t _ _ _ => t
  | _ => noEx
def notArg : Expr → Expr
  | .UnaryOp _ e _ => e
  | _ => noEx
def argAt (i : Nat) : Expr → Expr
  | .Call _ es _ _ => es.getD i noEx
  | _ => noEx
def lamOf (q : Str) : Expr → Lam
  | .Lambda params body scope _ => ⟨q ++ ".<locals>." ++ "<lambda>", params, body, scope⟩
  | e => ⟨q, ⟨[], [], none, [], [], none, []⟩, e, default⟩
end Vs

set_option maxRecDepth 100000
set_option maxHeartbeats 2000000
namespace Vs
open PySem PySem.Spec PyProof.Rows L2 Fw SX NdefX
theorem call_mw {prog : Program} {w : World} {A : Around} {E : Value → Shared → Prop} {h : Heap} {g : Array GenState} {d : Drawn} {t : Nat} {os : OsState} {nm q : Str} {C N : Addr} {bs bm bmB : List Value} {hdct : Bool} {sn : List Str} {sub : List Value} {ab : Bool} {col : Option Bool} {dd : Option Addr} {k0 k1 k2 k3 k5 : Option Value} {B newId i : String}
    (FB : ExcBaseFacts B newId i bmB) {u e t0 : Addr} {rest : List Value} {Q : Value → Shared → Prop}
    (hC : h.get? C = some (excClassObj nm q C N bs bm hdct sn sub ab col dd k0 k1 k2 k3 k5 newId)) (he : h.get? e = some (HandSPX.excO C t0)) (hu : h.get? u = some (PySem.W.kxs_mw i e)) (hrest : rest.length ≤ sizeLine)
    (hq : ∀ h' t1, (∀ b o, b ≠ e → h.get? b = some o → h'.get? b = some o) → h'.get? e = some (HandSPX.excO C t1) → Q .none ⟨h', g, d, t, os⟩) :
    wpAny (model prog w) A (call (.ref u) rest) Q E ⟨h, g, d, t, os⟩ := by
  refine wpAny_call (codeAny_of_tree ?_)
  show wpAny _ A.in1 (callAny (.ref u) ⟨rest, []⟩) _ _ _
  simp only [callAny]
  refine wpAny_bind (wpAny_load hu ?_)
  simp only [PySem.W.kxs_mw, show (Value.type "method-wrapper" == Value.type "method" || Value.type "method-wrapper" == Value.type "builtin_function_or_method" || Value.type "method-wrapper" == Value.type "method-wrapper") = true by decide, if_true]
  refine PySem.W.KFB.if_so (by decide) ?_
  refine wpAny_bind (PySem.W.check_bound_init FB.toExcCallFacts hC he rfl ?_)
  refine wpAny_bind (wpAny_pure (wpAny_pure ?_))
  refine ⟨plainId_quiet FB.init.plain _, codeAny_builtin FB.initEntry ?_⟩
  exact PySem.W.exc_init_tree (cls := .ref C) (t0 := t0) (dv := none) (c2 := .none) (c3 := .none) (b4 := .bool false) he hrest fun h' k e' _ => hq h' _ k e'
/-- what the written part says of such a class and its __init__ -/
structure ExiC (P : Program) (K : PySem.W.Frag) (C f cc : Addr) (F : NF) (fd : FuncData) (slf : Str) : Prop where
  T : OexC K C
  cl : F.cl = [(("__class__" : Str), cc)]
  lkf : ∃ oc od osl, K.lookup f = some ⟨oc, od, .func fd, osl⟩
  fdX : ∃ dV kV doc pm an ct, fd = PySem.W.fnX F.name F.qual F.params F.body F.scope F.cl dV kV doc pm an (.ref F.c) ct
  par : ∃ ar : Arg, (fd.params.posonlyargs ++ fd.params.args).head? = some ar ∧ ar.arg = slf
  code : ∃ ccl cdd vs ccs file tf, K.lookup F.c = some ⟨ccl, cdd, .fields vs, ccs⟩ ∧ vs[2]? = some (.str file tf) ∧ ((P.main.file : Str) == file) = true
  cdr : PySem.W.codeIn K (.ref F.c) F.qual = true
  cell : ∃ cl cld csl, K.lookup cc = some ⟨cl, cld, .cell (some (.ref C)), csl⟩
  cls : (PySem.W.clsIn K C).isSome = true
  sub : PySem.W.mroIn K C (.ref C) = some true
  ks : F.scope.names.lookup ("super" : Str) = some .globalImplicit
  kc : F.scope.names.lookup ("__class__" : Str) = some .free
  ka : F.scope.names.lookup slf = some .local
  top : (P.main.scope.names.lookup ("super" : Str)).isSome = false
  opq : PySem.W.nsIn K cStatics "thirdparty.any" = some none
  sup : PySem.W.ks_superIn K C C "__init__" = some (some (.builtin "ValueError.__init__"))
  isB : PySem.W.subIn K (.ref C) (.type "ValueError") = some true
/-- the call's positions are as they are: the equation of its evaluation -/
def SupEq (F : NF) (f L : Addr) : Expr → Prop
  | .Call (.Attribute o name apos) args [] pos => ∃ pl : Sem Bool, eval (.Call (.Attribute o name apos) args [] pos) (envF F f L) = (do
      let ov ← attributeBase o name (envF F f L) (eval o (envF F f L))
      standAt apos.atName
      let (fv, first) ← holding [ov] (getMethod ov name pl)
      callWith pos fv first (backTo pos (starEach args (envF F f L))) [])
  | _ => False
section
variable {CXa : CXT} {P : Program} {w : World} {K : PySem.W.Frag} {mg : Str → Option Value} {base : Heap} {N : List Str} {F : NF} {f C cc a : Addr} {fd : FuncData} {slf : Str} {A : Around} {outer : List PySem.Env} {s0 s : Shared} {H0 H : Hp} {E : XK} {σ : L2.St}
end
def spX (C : Addr) (fs : List Str) : Sp := fun vs H Q _ => ∃ a ys, vs = .ref a :: ys ∧ ys.length = fs.length ∧ H a = some (exo a C none) ∧ ∀ dx, H dx = none → dx ≠ a → Q .non (upd (upd H dx (exd dx (fs.zip ys).reverse)) a (exo a C (some dx)))
/-- C(e, ..) -/
def tMkX (C : Addr) (fs : List Str) (ta : TA) : L2.St → Hp → XK → Prop := fun σ H Q => ta σ H fun vs H1 => vs.length = fs.length ∧ vs.length ≤ 1000 ∧ ∀ d, H1 d = none → Q (.ref C) (some d) (upd H1 d (.xd (fs.zip vs).reverse))
theorem tMkX_O {C : Addr} {fs : List Str} {ta : TA} {X : Cx} {es : List Expr} {e : Expr} {pos p : Pos} {x : Str} (ha : ∀ {σ H Q Q'}, (∀ vs H1, Q' vs H1 → Q vs H1) → ta σ H Q' → ta σ H Q) (h : PMk X (.Call (.Name x p) (e :: es) [] pos) (tMkO C (spX C fs) [] ta)) : PMk X (.Call (.Name x p) (e :: es) [] pos) (tMkX C fs ta) := by
  refine PMk.imp h fun σ H Q q => ha (fun vs H1 ⟨l, l2, q⟩ => ⟨l2, fun a na => ?_⟩) q
  rw [List.append_nil]
  refine ⟨a, vs, rfl, l, upd_same, fun dx nd da => ⟨rfl, dx, (fs.zip vs).reverse, upd_same, by rw [upd_ne da, upd_same], ?_, ?_⟩⟩
  · rw [upd_ne da] at nd; exact nd
  · have nd1 : H1 dx = none := by rw [upd_ne da] at nd; exact nd
    have e : upd (del (upd (upd (upd H1 a (exo a C none)) dx (exd dx (fs.zip vs).reverse)) a (exo a C (some dx))) a) dx (.xd (fs.zip vs).reverse) = upd H1 dx (.xd (fs.zip vs).reverse) := by
      funext b
      by_cases hb : b = dx
      · rw [hb, upd_same, upd_same]
      · rw [upd_ne hb, upd_ne hb]
        by_cases hba : b = a
        · rw [hba, del_same, na]
        · rw [del_ne hba, upd_ne hba, upd_ne hb, upd_ne hba]
    rw [e]
    exact q dx nd1
end Vs

set_option maxRecDepth 100000
set_option maxHeartbeats 2000000
namespace Vs
open PySem PySem.Spec PyProof.Rows L2 Fw SX NdefX
section
variable {CXa : CXT} {P : Program} {w : World} {K : PySem.W.Frag} {mg : Str → Option Value} {base : Heap} {F : NF} {f C cc : Addr} {fd : FuncData} {slf v1 v2 f1 f2 x : Str} {j : Nat} {p0 p1 p2 p3 p4 pos q1 q2 q3 q4 r1 r2 r3 r4 : Pos}
end
/-- the class x makes exceptions with the fields fs of its arguments -/
def ExD (P : Program) (mg : Str → Option Value) (base : Heap) (g : Gm) (x : Str) (fs : List Str) (j : Nat) : Prop :=
  ∃ f fd ps, mg x = some (.ref (g.ca x)) ∧ OexC g.K (g.ca x) ∧ PySem.W.findIn g.K (.ref (g.ca x)) "__init__" = some (some (.ref f)) ∧ PySem.W.typeIn g.K (.ref f) = some (.type "function") ∧
    FnOk P g.w g.K mg base (L2.CX P g.w) j f fd ps (spX (g.ca x) fs) ∧ Binds g.K fd ps []
def fRaise (x : Str) (fs : List Str) (A : M (List Rv)) : M Ctl := A.bind fun rs e => match valsOf rs with
  | some ds => if ds.length = fs.length ∧ ds.length ≤ 1000 then .er (x, (fs.zip ds).reverse) e else .no
  | none => .no
section
variable {g : Gm} {W : WX} {k : Nat} {X : Cx} {G : Hp}
theorem RepF.app : ∀ {a b : List (Str × D)} {x y : List (Str × V)}, RepF g G a x → RepF g G b y → RepF g G (a ++ b) (x ++ y)
  | [], b, x, y, h, h2 => by rw [show x = [] from h]; exact h2
  | (k, d) :: a, b, x, y, ⟨v, r, e, h, t⟩, h2 => by rw [e]; exact ⟨v, _, rfl, h, RepF.app t h2⟩
theorem RepF.rev : ∀ {a : List (Str × D)} {x : List (Str × V)}, RepF g G a x → RepF g G a.reverse x.reverse
  | [], x, h => by rw [show x = [] from h]; rfl
  | (k, d) :: a, x, ⟨v, r, e, h, t⟩ => by
    rw [e, List.reverse_cons, List.reverse_cons]
    exact RepF.app (RepF.rev t) ⟨v, [], rfl, h, rfl⟩
end
end Vs

set_option maxRecDepth 100000
set_option maxHeartbeats 2000000
namespace Vs
open PySem PySem.Spec PyProof.Rows L2 Fw SX NdefX
theorem Cau.here {g : Gm} {i : Nat} {y : Str} {a : Addr} {cls : Value} {d : Option Addr} {σ : L2.St} {G H : Hp} {fs : List (Str × D)} (c : Cau g i y a cls d σ G H fs) : ∃ da fv, d = some da ∧ H da = some (.xd fv) ∧ RepF g G fs fv := by
  obtain ⟨da, fv, e, h, r⟩ := c.fld
  refine ⟨da, fv, e, ?_, r⟩
  rcases c.bs.sub da _ h with z | ⟨z, _⟩
  · exact z
  · cases z
theorem Cau.grow {g : Gm} {i : Nat} {y : Str} {a : Addr} {cls : Value} {d : Option Addr} {σ : L2.St} {G H G' H' : Hp} {fs : List (Str × D)} (c : Cau g i y a cls d σ G H fs) (w : Grow G H G' H') : Cau g i y a cls d σ G' H' fs := by
  obtain ⟨da, fv, e, h, r⟩ := c.fld
  exact ⟨w.bs, w.sqL c.scr, c.at_, c.cls, da, fv, e, w.le _ _ h, r.mono w.le⟩
def TXs (g : Gm) (i : Nat) (y : Str) (a : Addr) (cls : Value) (d : Option Addr) (f : List (Str × D) → Option (List D)) : TA := fun σ H Q => ∃ G fs, Cau g i y a cls d σ G H fs ∧ ∃ ds, f fs = some ds ∧ ∀ vs G' H', Grow G H G' H' → Reps g G' ds vs → Q vs H'
def xNil : List (Str × D) → Option (List D) := fun _ => some []
def xCons (f : List (Str × D) → Option D) (r : List (Str × D) → Option (List D)) : List (Str × D) → Option (List D) := fun fs => (f fs).bind fun d => (r fs).map (d :: ·)
def xC (d : D) : List (Str × D) → Option D := fun _ => some d
def xF (f : Str) : List (Str × D) → Option D := fun fs => fs.lookup f
def xApp (f : List D → Option Rv) (F : List (Str × D) → Option (List D)) : List (Str × D) → Option D := fun fs => (F fs).bind fun ds => match f ds with
  | some (.val d) => some d
  | _ => none
structure VXs (g : Gm) (i : Nat) (y : Str) (X : Cx) (es : List Expr) (f : List (Str × D) → Option (List D)) : Prop where
  run : X.K = g.K → X.w = g.w → X.A.guards = some [] → X.A.units + 64 < cLine → ∀ (a : Addr) (oe : Obj) (cls : Value) (d : Option Addr) (pn : List (Addr × Obj)), Zc cls d oe → (∃ vs, oe.data = .fields vs) → PA (X.suite a ((a, oe) :: pn)) es (TXs g i y a cls d f)
section
variable {g : Gm} {i : Nat} {y : Str} {X : Cx}
theorem vxs_nil : VXs g i y X [] xNil := ⟨fun _ _ _ _ _ _ _ _ _ _ _ => PA.imp pa_nil fun σ H Q ⟨G, fs, c, ds, e, q⟩ => by
  cases e
  exact q [] G H (Grow.refl c.bs) rfl⟩
theorem vxs_cons {ex : Expr} {es : List Expr} {f : List (Str × D) → Option D} {r : List (Str × D) → Option (List D)} (h : VX g i y X ex f) (t : VXs g i y X es r) (hs : starEach (ex :: es) X.env = (false, eval ex X.env) :: starEach es X.env := by rfl) : VXs g i y X (ex :: es) (xCons f r) :=
  ⟨fun k w gd u a oe cls d pn hz hf => PA.imp (pa_cons (h.run k w gd u a oe cls d pn hz hf) (t.run k w gd u a oe cls d pn hz hf) hs) fun σ H Q ⟨G, fs, c, ds, e, q⟩ => by
    unfold xCons at e
    cases q1 : f fs with
    | none => rw [q1] at e; cases e
    | some d1 =>
      cases q2 : r fs with
      | none => rw [q1, q2] at e; cases e
      | some dr =>
        rw [q1, q2] at e
        cases e
        exact ⟨G, fs, c, d1, q1, fun v G1 H1 w1 rv => ⟨G1, fs, c.grow w1, dr, q2, fun vs G2 H2 w2 rvs => q (v :: vs) G2 H2 (w1.trans w2) ⟨v, vs, rfl, rv.mono w2.le, rvs⟩⟩⟩⟩
theorem vx_c {ex : Expr} {v : V} {d : D} (h : ∀ Y : Cx, PE Y ex (tC v)) (r : ∀ G, Rep g G d v) : VX g i y X ex (xC d) := ⟨fun _ _ _ _ a oe cls d pn hz hf => PE.imp (h _) fun σ H Q ⟨G, fs, c, dd, e, q⟩ => by
  cases e
  exact q v G H (Grow.refl c.bs) (r G)⟩
theorem vx_str {x : Str} {l : List Nat} {j pos} (h : x = S l := by decide +kernel) (h2 : l.all (· < 1114112) = true := by decide +kernel) : VX g i y X (.Constant (.str x) j pos) (xC (.str l)) := vx_c (fun _ => pe_str) fun _ => by rw [h]; exact ⟨rfl, fun c hc => of_decide_eq_true (List.all_eq_true.mp h2 c hc)⟩
theorem RepF.lookX {G : Hp} : ∀ {fs : List (Str × D)} {fv : List (Str × V)} {f : Str} {d : D}, RepF g G fs fv → fs.lookup f = some d → ∃ v, fv.lookup f = some v ∧ Rep g G d v
  | [], fv, f, d, _, h => by cases h
  | (k, d0) :: fs, fv, f, d, ⟨v, r, e, h1, h2⟩, h => by
    rw [List.lookup_cons] at h
    rw [e, List.lookup_cons]
    cases q : (f == k) with
    | true => rw [q] at h; cases h; exact ⟨v, rfl, h1⟩
    | false => rw [q] at h; exact RepF.lookX h2 h
/-- the class y: its exceptions' fields are read -/
def XfD (g : Gm) (y f : Str) : Prop := XfC g.K (g.ca y) ∧ PySem.W.findIn g.K (.ref (g.ca y)) f = some none
theorem vx_fld {n f : Str} {p pos : Pos} (T : XfD g y f) (hi : X.N[i]? = some n) (hv : Vis X.env.scope n) (hb : attributeBase (.Name n p) f X.env (eval (.Name n p) X.env) = eval (.Name n p) X.env := by rfl) (h1 : (n == ("__debug__" : Str)) = false := by decide) (h2 : (n == ("__classdict__" : Str)) = false := by decide) :
    VX g i y X (.Attribute (.Name n p) f pos) (xF f) := ⟨fun k w gd u a oe cls d pn hz hf => by
  obtain ⟨T1, T2⟩ := T
  rw [← k] at T1 T2
  refine PE.imp (pe_xf T1 T2 hz hf (pe_var (i := i) hi hv h1 h2) hb) fun σ H Q ⟨G, fs, c, dd, e, q⟩ => ?_
  obtain ⟨da, fv, ed, hd, r⟩ := c.here
  obtain ⟨v, l, rv⟩ := r.lookX e
  exact ⟨.ref a, c.at_, rfl, c.cls, da, fv, v, ed, hd, l, q v G H (Grow.refl c.bs) rv⟩⟩
/-- a built-in called with items -/
theorem vx_app {b : String} {x : Str} {r : List V → Hp → VK → Prop} {f : List D → Option Rv} {F : List (Str × D) → Option (List D)} {ex : Expr} {es : List Expr} {p pos : Pos} (hc : ∀ Y : Cx, Y.K = g.K → Y.A.guards = some [] → Y.A.units + 64 < cLine → CallR Y (.builtin b) r) (hv : CallV g r f) (hm : X.mg x = none) (hb : bootBuiltins x = some (.builtin b)) (ha : VXs g i y X (ex :: es) F) (hg : Gl X x := by rfl)
    (hn : x ≠ "__name__" := by decide) (hdb : (x == ("__debug__" : Str)) = false := by decide) (he : starEach (ex :: es) X.env = (false, eval ex X.env) :: starEach es X.env := by rfl) (hpl : (backTo pos (starEach es X.env)).any (·.1) = false := by rfl) : VX g i y X (.Call (.Name x p) (ex :: es) [] pos) (xApp f F) := ⟨fun k w gd u a oe cls d pn hz hf => by
  refine PE.imp (pe_callB (hc _ k gd u) hg hm hb (ha.run k w gd u a oe cls d pn hz hf) (hn := hn) (hdb := hdb) (he := he) (hpl := hpl)) fun σ H Q ⟨G, fs, c, dd, e, q⟩ => ?_
  unfold xApp at e
  cases q1 : F fs with
  | none => rw [q1] at e; cases e
  | some ds =>
    rw [q1] at e
    cases q2 : f ds with
    | none => rw [Option.bind_some, q2] at e; cases e
    | some out =>
      rw [Option.bind_some, q2] at e
      cases out with
      | slot _ => cases e
      | fresh _ => cases e
      | val d' =>
        cases e
        exact ⟨G, fs, c, ds, q1, fun vs G1 H1 w1 rvs => hv G1 H1 ds vs _ _ w1.bs (c.grow w1).scr rvs.H q2 fun v G2 H2 w2 nw => q v G2 H2 (w1.trans w2) nw⟩⟩
theorem vx_repr {F : List (Str × D) → Option (List D)} {ex : Expr} {es : List Expr} {p pos : Pos} (sy : SysIn g.K) (hm : X.mg "repr" = none) (ha : VXs g i y X (ex :: es) F) (hg : Gl X "repr" := by rfl) (he : starEach (ex :: es) X.env = (false, eval ex X.env) :: starEach es X.env := by rfl) (hpl : (backTo pos (starEach es X.env)).any (·.1) = false := by rfl) : VX g i y X (.Call (.Name "repr" p) (ex :: es) [] pos) (xApp reprD F) :=
  vx_app (fun Y k gd u => k ▸ call_reprD gd u) (cv_repr sy) hm (by decide +kernel) ha hg (he := he) (hpl := hpl)
def rIsX (K : PySem.W.Frag) (D a : Addr) (d : Option Addr) : List V → Hp → VK → Prop := fun xs H Q => ∃ (c : V) (cv : Value) (b : Bool) (dd : Addr) (fs : List (Str × V)), xs = [.ref a, c] ∧ (∀ u, RelV c u → u = cv) ∧ PySem.W.kitOne K (.ref D) cv = some b ∧ d = some dd ∧ H dd = some (.xd fs) ∧ Q (.bl b) H
theorem call_isX {a D : Addr} {oe : Obj} {d : Option Addr} {pn : List (Addr × Obj)} (C : ExcC X.K D) (hz : Zc (.ref D) d oe) (hf : ∃ vs, oe.data = .fields vs) : CallR (X.suite a ((a, oe) :: pn)) (.builtin "isinstance") (rIsX X.K D a d) := by
  intro pins s σ H xs us Q I r h
  obtain ⟨c, cv, b, dd, fs, rfl, hcv, e, ed, hd, q⟩ := h
  cases r with
  | cons rx rr =>
    cases rr with
    | cons rt rr =>
      cases rr
      cases rx
      have ec := hcv _ rt
      subst ec
      obtain ⟨hget, _⟩ := I.pin (a, oe) (List.mem_append.mpr (.inl List.mem_cons_self))
      obtain ⟨vs, hv⟩ := hf
      have hx : ObjOk X.prog X.w H s.heap dd (.xd fs) := I.hok dd _ hd
      obtain ⟨mA, hns, hr⟩ := hx
      obtain ⟨od, ho, hl⟩ := lookIn_ns hns
      have J : PySem.W.InstAt s.heap a oe D (some od) := ⟨hget, hz.1, by unfold PySem.W.notCls; rw [hv] <;> rfl, by rw [hz.2, ed]; exact ho⟩
      have hcl : (PySem.W.clsIn X.K D).isSome = true := by
        obtain ⟨cd, hc, _⟩ := PySem.W.any_some C.hd
        rw [hc]; rfl
      exact PySem.W.kia_one (PySem.W.kitx_exc hcl C.hg C.hk C.hs C.ha C.hn C.ht C.hm) I.kIn J e (fun z => nomatch z) fun tk => ⟨.bl b, H, I.kept (t' := tk) fun _ _ z => z, rfl, q⟩
/-- isinstance of an exception of the class y asks c: a class of the module, or a built-in one -/
def IsD (mg : Str → Option Value) (g : Gm) (y c : Str) (b : Bool) : Prop := ExcC g.K (g.ca y) ∧ ∃ C, mg c = some (.ref C) ∧ PySem.W.kitOne g.K (.ref (g.ca y)) (.ref C) = some b
theorem vx_isi {n c : Str} {b : Bool} {p p1 p2 pos : Pos} (T : IsD X.mg g y c b) (hm : X.mg "isinstance" = none) (hi : X.N[i]? = some n) (hv : Vis X.env.scope n) (hg : Gl X "isinstance" := by rfl) (hc : Gl X c := by rfl)
    (h1 : (n == ("__debug__" : Str)) = false := by decide) (h2 : (n == ("__classdict__" : Str)) = false := by decide) (h3 : (c == ("__debug__" : Str)) = false := by decide)
    (he : starEach [.Name n p1, .Name c p2] X.env = (false, eval (.Name n p1) X.env) :: starEach [.Name c p2] X.env := by rfl) (he2 : starEach [.Name c p2] X.env = (false, eval (.Name c p2) X.env) :: starEach [] X.env := by rfl) (hpl : (backTo pos (starEach [.Name c p2] X.env)).any (·.1) = false := by rfl) :
    VX g i y X (.Call (.Name "isinstance" p) [.Name n p1, .Name c p2] [] pos) (xC (.bl b)) := ⟨fun k w gd u a oe cls d pn hz hf => by
  obtain ⟨T1, C, hmc, hk⟩ := T
  rw [← k] at T1 hk
  refine ⟨fun pins s σ H Q I ⟨G, fs, c, dd, e, q⟩ => ?_⟩
  cases e
  obtain ⟨da, fv, ed, hd, r⟩ := c.here
  have hz' : Zc (.ref (g.ca y)) d oe := by rw [← c.cls]; exact hz
  refine (pe_callB (call_isX T1 hz' hf) hg hm (by decide +kernel) (pa_cons (pe_var (i := i) hi hv h1 h2) (pa_cons (pe_glob (v := .ref C) hc hmc rfl h3) pa_nil he2) he) (he := he) (hpl := hpl)).run pins s σ H Q I ?_
  exact ⟨.ref a, c.at_, .ref C, .ref C, b, da, fv, rfl, fun u z => z, hk, ed, hd, q _ G H (Grow.refl c.bs) rfl⟩⟩
end
/-- the class x, named by an except clause, takes exceptions of the class y, or does not -/
def CatD (mg : Str → Option Value) (g : Gm) (x y : Str) (b : Bool) : Prop := ∃ c, mg x = some c ∧ PySem.W.exmOne g.K (.ref (g.ca y)) c = some b
/-- y is taken, outs go on -/
def fTry (y : Str) (outs : List Str) (i : Nat) (f : List (Str × D) → Option (List D)) (B : M Ctl) : M Ctl := fun e => match B e with
  | .er x e' => if x.1 = y ∧ i < e'.length ∧ x.2 ≠ [] then (match f x.2 with | some ds => if ds.length ≤ sizeLine then .ok (.rt (.fresh (.lst ds))) e' else .no | none => .no) else if x.1 ∈ outs then .er x e' else .no
  | r => r
section
variable {g : Gm} {W : WX} {k : Nat} {X : Cx}
theorem vs_try {x y n : Str} {outs : List Str} {i : Nat} {body : List Stmt} {es : List Expr} {f : List (Str × D) → Option (List D)} {B : M Ctl} {np lp pos pos1 pos' : Pos} (hc : CatD X.mg g x y true) (ho : ∀ z ∈ outs, CatD X.mg g x z false ∧ z ≠ y) (hs : X.stack = X.env :: X.outer) (hf : X.env.frame = some X.env.locals) (hi : X.N[i]? = some n) (hln : X.env.kindOf n = some .local)
    (hb : ∀ (W : WX) (pn : List (Addr × Obj)) (xe : Value → Shared → Prop), VSs g W k (X.tr pn xe) body B) (hx : VXs g i y X es f) (hg : Gl X x := by rfl) (hdb : (x == ("__debug__" : Str)) = false := by decide) :
    VS g W k X (.Try body [.ExceptHandler (some (.Name x np)) (some n) [.Return (some (.List es lp)) pos1] pos'] [] [] pos) (fTry y outs i f B) := by
  refine ⟨fun c => ?_⟩
  obtain ⟨cv, hmx, hcy⟩ := hc
  have hno : ∀ z ∈ outs, PySem.W.exmOne g.K (.ref (g.ca z)) cv = some false := fun z hz => by
    obtain ⟨⟨cv', h1, h2⟩, _⟩ := ho z hz
    rw [hmx] at h1
    cases h1
    exact h2
  refine PS.imp (ps_try_as (tb := fun W => TVS g W B) (Wout := W) hs hf c.nd hi hln ⟨hg, hdb, .inl hmx⟩ c.tk (fun W pn xe tk po => (hb W pn xe).run ⟨c.K, c.w, c.calm, tk, c.room, po, c.nd⟩) fun a oe cls d pn hz hfl => pss_one (ps_ret (pe_lst (hx.run c.K c.w c.room.gd c.room.toRoom.units a oe cls d pn hz hfl)))) fun D σ H ⟨G, e, sr, h⟩ => ?_
  refine ⟨G, e, sr, ?_⟩
  unfold fTry at h
  revert h
  cases q : B e with
  | no => exact fun h => h
  | ok ct e' => cases ct <;> exact fun h => h
  | er xx e' =>
    intro h cls d σ' G' H' t xo
    simp only at h
    unfold wAs
    rw [c.K]
    by_cases h1 : xx.1 = y ∧ i < e'.length ∧ xx.2 ≠ []
    · rw [if_pos h1] at h
      obtain ⟨hy, hlt, hne⟩ := h1
      refine ⟨true, by rw [xo.1, hy]; exact hcy, fun _ a na => ?_, (fun z => absurd z.symm Bool.false_ne_true)⟩
      obtain ⟨da, fv, ed, hda, rf⟩ : ∃ da fs, d = some da ∧ G' da = some (.xd fs) ∧ RepF g G' xx.2 fs := by
        rcases xo.2 with ⟨_, z⟩ | z
        · exact absurd z hne
        · exact z
      cases qf : f xx.2 with
      | none => rw [qf] at h; exact h.elim
      | some ds =>
        rw [qf] at h
        simp only at h
        by_cases hl : ds.length ≤ sizeLine
        · rw [if_pos hl] at h
          refine ⟨G', xx.2, ⟨t.sr.bs, t.sr.scrL, by rw [List.getElem?_set_self (by rw [← t.sr.len]; exact hlt)], by rw [xo.1, hy], da, fv, ed, hda, rf⟩, ds, qf, fun vs G1 H1 w1 rp => ?_⟩
          refine ⟨by rw [rp.len]; exact hl, fun p np => ?_⟩
          have t1 := t.trans (w1.tr t.sr).st
          have gr := Grow.lay (o := HO.lst vs) t1.sr.bs np
          have t2 := (gr.tr t1.sr)
          refine h (.ref p) σ' G1 (upd H1 p (HO.lst vs)) (t1.trans t2.st) ⟨p, rfl, t1.sr.bs.hn np, ⟨vs, upd_same, rp⟩, t1.dom p np, fun j r => ?_⟩
          have sl := t1.sr.slot j
          obtain ⟨o1, r2⟩ := r
          cases qs : e'[j]? with
          | none => rw [qs] at o1; exact o1.elim
          | some s =>
            rw [qs] at o1 sl
            cases s with
            | ow d =>
              obtain ⟨p', e1, _, ow⟩ := sl
              rw [r2] at e1; cases e1
              obtain ⟨ob, h1, _⟩ := ow.there
              rw [np] at h1; cases h1
            | bo d =>
              obtain ⟨p', e1, _, ow⟩ := sl
              rw [r2] at e1; cases e1
              obtain ⟨ob, h1, _⟩ := ow.there
              rw [np] at h1; cases h1
            | _ => exact o1.elim
        · rw [if_neg hl] at h; exact h.elim
    · rw [if_neg h1] at h
      by_cases h2 : xx.1 ∈ outs
      · rw [if_pos h2] at h
        exact ⟨false, by rw [xo.1]; exact hno _ h2, (fun z => absurd z Bool.false_ne_true), fun _ => h cls d σ' G' H' t xo⟩
      · rw [if_neg h2] at h; exact h.elim
end
end Vs

set_option maxRecDepth 100000
set_option maxHeartbeats 2000000
namespace Vs
open PySem PySem.Spec PyProof.Rows L2 Fw SX NdefX
def ordD : List D → Option Rv
  | [.str [c]] => some (.val (.int (c : Int)))
  | _ => none
section
variable {g : Gm} {W : WX} {k : Nat} {X : Cx} {ex : Expr} {es : List Expr} {A : M (List Rv)} {p pos : Pos}
end
theorem Pst.pre {α : Type} {g : Gm} {W : WX} {σ : L2.St} {G H G1 H1 : Hp} {e : Ve} {R : α → Hp → Hp → Ve → Prop} {r : Res α} (t : Tr g σ G H e G1 H1 e) (h : Pst g W σ G H e R r) : Pst g W σ G1 H1 e R r := by
  cases r with
  | no => exact h
  | er x e' => exact fun cls d G' H' t' => h cls d G' H' (t.trans t')
  | ok a e' => exact fun G' H' t' => h G' H' (t.trans t')
def PvsOk (g : Gm) (G : Hp) : List (D × D) → List (V × V) → Prop
  | [], vs => vs = []
  | (a, b) :: r, vs => ∃ x y t, vs = (x, y) :: t ∧ Rep g G a x ∧ Rep g G b y ∧ PvsOk g G r t
def TVP (g : Gm) (W : WX) (F : M (List (D × D))) (σ : L2.St) (H : Hp) (Q : List (V × V) → Hp → Prop) : Prop := ∃ G e, SR g G H σ e ∧ Pst g W σ G H e (fun ps G' H' e' => ∀ vs, PvsOk g G' ps vs → Q vs H') (F e)
structure VPs (g : Gm) (W : WX) (k : Nat) (X : Cx) (pos : Pos) (keys : List (Option Expr)) (values : List Expr) (F : M (List (D × D))) : Prop where
  run : Cd g W k X → ∃ trs, PPs X pos keys values trs ∧ ∀ σ H Q, TVP g W F σ H Q → tPairs trs σ H Q
def fPnil : M (List (D × D)) := M.ret []
def fPcons (K V : M Rv) (r : M (List (D × D))) : M (List (D × D)) := (fFrz K).bind fun a => (fFrz V).bind fun b => r.bind fun t e => match a, b with
  | .val x, .val y => .ok ((x, y) :: t) e
  | _, _ => .no
def keyP : List (D × D) → Option (List (List Nat × D))
  | [] => some []
  | (.str k, d) :: r => (keyP r).map ((k, d) :: ·)
  | _ => none
def putAll (l : List (List Nat × D)) : List (List Nat × D) := l.foldl (fun acc p => putKD acc p.1 p.2) []
def fDisp (F : M (List (D × D))) : M Rv := F.bind fun ps e => match keyP ps with
  | some kvs => if kvs.length ≤ 15 then .ok (.fresh (.dct (putAll kvs))) e else .no
  | none => .no
section
variable {g : Gm} {W : WX} {k : Nat} {X : Cx} {pos : Pos}
end
def rLen (K : PySem.W.Frag) (b : Bool) : R2 := fun x y H Q => ∃ (a c : Addr) (xs ys : List V), x = .ref a ∧ y = .ref c ∧ SqL K H a xs ∧ SqL K H c ys ∧ xs.length ≠ ys.length ∧ Q (.bl b) H
section
variable {X : Cx}
end
def lenDif : D → D → Bool
  | .lst xs, .lst ys => decide (xs.length ≠ ys.length)
  | _, _ => false
def eqN (a b : D) : Option Rv := if lenDif a b = true then some (.val (.bl false)) else eqG a b
def neN (a b : D) : Option Rv := if lenDif a b = true then some (.val (.bl true)) else neG a b
section
variable {g : Gm} {W : WX} {k : Nat} {X : Cx}
end
end Vs

set_option maxRecDepth 100000
set_option maxHeartbeats 2000000
namespace Vs
open PySem PySem.Spec PyProof.Rows L2 Fw SX NdefX
/-- the class at C: isinstance asks its instances -/
structure InT (K : PySem.W.Frag) (C : Addr) : Prop where
  ha : PySem.W.findIn K (.ref C) "__class__" = some (some (.builtin "object.__class__"))
  hn : PySem.W.specialIn K (.builtin "object.__class__") "__get__" = some (some (.builtin "getset_descriptor.__get__"))
  ht : PySem.W.takesIn K (.builtin "object.__class__") = some true
  hm : PySem.W.mroIn K C (.type "object") = some true
/-- the type of data, where it is known -/
inductive TyD (g : Gm) : D → Value → Prop where
  | blt {d : D} {a : String} (h : tyN d = some a) : TyD g d (.type a)
  | ins {c : Str} {fs : List (Str × D)} (h : InT g.K (g.ca c)) : TyD g (.ins c fs) (.ref (g.ca c))
/-- the answers: for the classes of the list, and false for built-in types -/
def isCT (cs : List (Str × Bool)) (d : D) : Option Bool := match d with
  | .ins c _ => cs.lookup c
  | d => if (tyN d).isSome = true then some false else none
def fIsC (cs : List (Str × Bool)) (A : M Rv) : M Rv := A.bind fun r e => match deref r e with
  | some d => (match isCT cs d with | some b => .ok (.val (.bl b)) e | none => .no)
  | none => .no
def bltNames : List String := ["NoneType", "bool", "int", "str", "list", "tuple", "dict"]
def IsCD (mg : Str → Option Value) (g : Gm) (x : Str) (cs : List (Str × Bool)) : Prop := ∃ C, mg x = some (.ref C) ∧ (∀ c b, (c, b) ∈ cs → InT g.K (g.ca c) ∧ PySem.W.kitOne g.K (.ref (g.ca c)) (.ref C) = some b) ∧ ∀ a ∈ bltNames, PySem.W.kitOne g.K (.type a) (.ref C) = some false
section
variable {g : Gm} {W : WX} {k : Nat} {X : Cx}
end
/-- the function of x.__eq__ with y; it raises nothing -/
def noEr {α : Type} : Res α → Res α
  | .ok a e => .ok a e
  | _ => .no
def othOk (ts : List Str) : D → Bool
  | .ins c _ => ts.contains c
  | d => (tyN d).isSome
def fEqI (T : Str → Option (List Sl → Res Rv)) (ts : List Str) (A B : M Rv) : M Rv := (fFrz A).bind fun a => (fFrz B).bind fun b e => match a, b with
  | .val (.ins c fs), .val d => (match T c with
    | some F => if othOk ts d = true then noEr (callB F [.val (.ins c fs), .val d] e) else .no
    | none => .no)
  | _, _ => .no
/-- the class's own ==: its def; ts: the classes of the other side -/
def EqD (P : Program) (mg : Str → Option Value) (base : Heap) (g : Gm) (j : Nat) (T : Str → Option (List Sl → Res Rv)) (ts : List Str) : Prop :=
  (∀ c F, T c = some F → (∃ f, PySem.W.findIn g.K (.ref (g.ca c)) "__eq__" = some (some (.ref f)) ∧ PySem.W.isFn g.K (.ref f) = true ∧ FnK P g.w g.K mg base (L2.CX P g.w) j f [] (spR g F)) ∧ (∀ t ∈ ts, PySem.W.notFirst g.K (g.ca c) (.ref (g.ca t)) = true) ∧ ∀ a ∈ bltNames, PySem.W.notFirst g.K (g.ca c) (.type a) = true) ∧
  ∀ t ∈ ts, InT g.K (g.ca t)
def rEqO (P : Program) (w : World) (K : PySem.W.Frag) (mg : Str → Option Value) (base : Heap) (k : Nat) : R2 := fun x y H Q => ∃ (p C dx : Addr) (fs : List (Str × V)) (f : Addr) (sp : Sp) (t : Value), x = .ref p ∧ H p = some (.ins C dx fs) ∧ PySem.W.findIn K (.ref C) "__eq__" = some (some (.ref f)) ∧ PySem.W.isFn K (.ref f) = true ∧
  FnK P w K mg base (L2.CX P w) k f [] sp ∧ TyX K H y t ∧ PySem.W.notFirst K C t = true ∧ sp [x, y] H Q (fun _ _ _ => False)
section
variable {g : Gm} {W : WX} {k : Nat} {X : Cx}
theorem Pst.noEr {α : Type} {σ : L2.St} {G H : Hp} {e : Ve} {R : α → Hp → Hp → Ve → Prop} {r : Res α} (h : Pst g W σ G H e R (noEr r)) : Pst g (fun _ _ _ _ => False) σ G H e R r := by
  cases r with
  | no => exact h
  | er x e' => exact h.elim
  | ok a e' => exact h
end
section
open PySem.W Builtin
variable {prog : Program} {w : World} {A : Around} {E : Value → Shared → Prop} {s : Shared} {K : PySem.W.Frag} {x C f : Addr} {ox : Obj} {od : Option Obj} {b tb : Value}
end
theorem Rm.in1 {k : Nat} {A : Around} (r : Rm (k + 1) A) : Rm k A.in1 := ⟨r.toRoom.in1, r.gd⟩
def rNeO (P : Program) (w : World) (K : PySem.W.Frag) (mg : Str → Option Value) (base : Heap) (k : Nat) : R2 := fun x y H Q => ∃ (p C dx : Addr) (fs : List (Str × V)) (f : Addr) (sp : Sp) (t : Value), x = .ref p ∧ H p = some (.ins C dx fs) ∧ PySem.W.findIn K (.ref C) "__eq__" = some (some (.ref f)) ∧ PySem.W.isFn K (.ref f) = true ∧
  FnK P w K mg base (L2.CX P w) k f [] sp ∧ TyX K H y t ∧ PySem.W.notFirst K C t = true ∧ PySem.W.findIn K (.ref C) "__ne__" = some (some (.builtin "object.__ne__")) ∧ PySem.W.mroIn K C (.type "object") = some true ∧ sp [x, y] H (fun v H' => ∃ b, v = .bl b ∧ Q (.bl (!b)) H') (fun _ _ _ => False)
section
variable {g : Gm} {W : WX} {k : Nat} {X : Cx}
def notR : Res Rv → Res Rv
  | .ok (.val (.bl b)) e => .ok (.val (.bl (!b))) e
  | _ => .no
def fNeI (T : Str → Option (List Sl → Res Rv)) (ts : List Str) (A B : M Rv) : M Rv := (fFrz A).bind fun a => (fFrz B).bind fun b e => match a, b with
  | .val (.ins c fs), .val d => (match T c with
    | some F => if othOk ts d = true then notR (callB F [.val (.ins c fs), .val d] e) else .no
    | none => .no)
  | _, _ => .no
def NeD (g : Gm) (T : Str → Option (List Sl → Res Rv)) : Prop := ∀ c F, T c = some F → PySem.W.findIn g.K (.ref (g.ca c)) "__ne__" = some (some (.builtin "object.__ne__")) ∧ PySem.W.mroIn g.K (g.ca c) (.type "object") = some true
theorem Pst.notR {σ : L2.St} {G H : Hp} {e : Ve} {Q : VK} {r : Res Rv} (h : Pst g W σ G H e (fun r G' H' e' => ∀ v, RvOk g G' H' σ e' H r v → Q v H') (notR r)) : Pst g (fun _ _ _ _ => False) σ G H e (fun r G' H' e' => ∀ v, RvOk g G' H' σ e' H r v → ∃ b, v = .bl b ∧ Q (.bl (!b)) H') r := by
  match r, h with
  | .ok (.val (.bl b)) e', h => exact fun G' H' t v ok => ⟨b, ok, h G' H' t _ rfl⟩
  | .no, h => exact h
  | .er _ _, h => exact h.elim
  | .ok (.slot _) _, h => exact h.elim
  | .ok (.fresh _) _, h => exact h.elim
  | .ok (.val .non) _, h => exact h.elim
  | .ok (.val (.int _)) _, h => exact h.elim
  | .ok (.val (.str _)) _, h => exact h.elim
  | .ok (.val (.lst _)) _, h => exact h.elim
  | .ok (.val (.tup _)) _, h => exact h.elim
  | .ok (.val (.dct _)) _, h => exact h.elim
  | .ok (.val (.set _)) _, h => exact h.elim
  | .ok (.val (.ins _ _)) _, h => exact h.elim
  | .ok (.val (.con _)) _, h => exact h.elim
  | .ok (.val (.scr _)) _, h => exact h.elim
end
def strR : Res Rv → Res Rv
  | .ok (.val (.str l)) e => .ok (.val (.str l)) e
  | _ => .no
def fStrI (T : Str → Option (List Sl → Res Rv)) (A : M Rv) : M Rv := (fFrz A).bind fun a e => match a with
  | .val (.ins c fs) => (match T c with
    | some F => strR (callB F [.val (.ins c fs)] e)
    | none => .no)
  | _ => .no
def StrD (P : Program) (mg : Str → Option Value) (base : Heap) (g : Gm) (j : Nat) (T : Str → Option (List Sl → Res Rv)) : Prop :=
  ∀ c F, T c = some F → ∃ f, PySem.W.findIn g.K (.ref (g.ca c)) "__str__" = some (some (.ref f)) ∧ PySem.W.isFn g.K (.ref f) = true ∧ FnK P g.w g.K mg base (L2.CX P g.w) j f [] (spR g F)
def rStrO (P : Program) (w : World) (K : PySem.W.Frag) (mg : Str → Option Value) (base : Heap) (k : Nat) : List V → Hp → VK → Prop := fun xs H Q => ∃ (p C dx : Addr) (fs : List (Str × V)) (f : Addr) (sp : Sp), xs = [.ref p] ∧ H p = some (.ins C dx fs) ∧ PySem.W.findIn K (.ref C) "__str__" = some (some (.ref f)) ∧ PySem.W.isFn K (.ref f) = true ∧
  FnK P w K mg base (L2.CX P w) k f [] sp ∧ sp [.ref p] H (fun v H' => ∃ z, v = .str z ∧ Q (.str z) H') (fun _ _ _ => False)
section
variable {g : Gm} {W : WX} {k : Nat} {X : Cx}
theorem Pst.strR {σ : L2.St} {G H : Hp} {e : Ve} {Q : VK} {r : Res Rv} (h : Pst g W σ G H e (fun r G' H' e' => ∀ v, RvOk g G' H' σ e' H r v → Q v H') (strR r)) : Pst g (fun _ _ _ _ => False) σ G H e (fun r G' H' e' => ∀ v, RvOk g G' H' σ e' H r v → ∃ z, v = .str z ∧ Q (.str z) H') r := by
  match r, h with
  | .ok (.val (.str l)) e', h => exact fun G' H' t v ok => ⟨S l, ok.1, ok.1 ▸ h G' H' t v ok⟩
  | .no, h => exact h
  | .er _ _, h => exact h.elim
  | .ok (.slot _) _, h => exact h.elim
  | .ok (.fresh _) _, h => exact h.elim
  | .ok (.val .non) _, h => exact h.elim
  | .ok (.val (.int _)) _, h => exact h.elim
  | .ok (.val (.bl _)) _, h => exact h.elim
  | .ok (.val (.lst _)) _, h => exact h.elim
  | .ok (.val (.tup _)) _, h => exact h.elim
  | .ok (.val (.dct _)) _, h => exact h.elim
  | .ok (.val (.set _)) _, h => exact h.elim
  | .ok (.val (.ins _ _)) _, h => exact h.elim
  | .ok (.val (.con _)) _, h => exact h.elim
  | .ok (.val (.scr _)) _, h => exact h.elim
end
section
variable {g : Gm} {W : WX} {k : Nat} {X : Cx} {i j : Nat}
end
end Vs

set_option maxRecDepth 100000
set_option maxHeartbeats 2000000
namespace Vs
open PySem PySem.Spec PyProof.Rows L2 Fw SX He NdefX
def obsZ (n : Nat) (ex : Ex) (fa : List Fa) (fn : List DefD) (tf : List Defn) (xn : List XnD) (g : Addr → Option Obj) : AlZ := (obsY n ex fa fn tf g, xn.map fun d => xnW (frT g (asX g n)) d.x)
def hookZ (n : Nat) (ex : Ex) (fa : List Fa) (fn : List DefD) (tf : List Defn) (xn : List XnD) : PySem.W.Hook where
  α := AlZ
  obs := fun s => obsZ n ex fa fn tf xn s.heap.get?
  val := fun _ => ((valD fn, true), xn.map XnD.val)
  says := fun _ h => ∃ K : PySem.W.Frag, K.In h ∧ SaysZ ex fa fn tf xn h K
  of := fun _ s e => ⟨_, frT_in, saysY_of (congrArg (fun z : AlZ => z.1) e), congrArg (fun z : AlZ => z.2) e⟩
  keeps := fun _ _ _ ⟨K, hK, c⟩ k => ⟨K, PySem.W.Frag.In.keeps hK k, ⟨c.y.x, c.y.hd, c.y.out, fun p hp => k _ _ (c.y.empty p hp)⟩, c.xn⟩
def oexB (K : PySem.W.Frag) (C : Addr) : Bool := match K.lookup C with
  | some ⟨.type t, _, .cls cd, sl⟩ => decide (t = "type") && (match cd.mro, sl.toList with
    | .ref C' :: bm, [_, _, _, _, some (.builtin n), _] => decide (C' = C) && (decide (n = "ValueError.__new__") && (!cd.hasDel && (cd.hasDict && PySem.HandSPX.refsVE bm)))
    | _, _ => false)
  | _ => false
def exB (file x : Str) : PySem.W.Frag → Bool := fun K =>
  oexB K (ga K x) && (initB file K (ga K x) && (eqO (PySem.W.findIn K (.ref (ga K x)) "__setattr__") (some (some (.builtin "object.__setattr__"))) && (eqB (PySem.W.subIn K (.ref (ga K x)) (.type "BaseException")) (some true) &&
  (decide (PySem.W.typeIn K (.ref (ga K x)) = some (.type "type")) && (PySem.W.keepIn K (.ref (ga K x)) && ((PySem.W.clsIn K (ga K x)).isSome && (eqB (PySem.W.mroIn K (ga K x) (.ref (ga K x))) (some true) &&
  (eqO (PySem.W.nsIn K cStatics "thirdparty.any") (some none) && (eqO (PySem.W.ks_superIn K (ga K x) (ga K x) "__init__") (some (some (.builtin "ValueError.__init__"))) && (eqB (PySem.W.subIn K (.ref (ga K x)) (.type "ValueError")) (some true) &&
  (eqO (PySem.W.findIn K (.ref (ga K x)) "__init__") (some (some (.ref (ma K (ga K x) "__init__")))) && decide (PySem.W.typeIn K (.ref (ma K (ga K x) "__init__")) = some (.type "function")))))))))))))
theorem excCB_ok {K : PySem.W.Frag} {D : Addr} (c : excCB K D = true) : ExcC K D := by
  unfold excCB at c
  obtain ⟨c1, c⟩ := ba c
  obtain ⟨c2, c⟩ := ba c
  obtain ⟨c3, c⟩ := ba c
  obtain ⟨c4, c⟩ := ba c
  obtain ⟨c5, c⟩ := ba c
  obtain ⟨c6, c⟩ := ba c
  obtain ⟨c7, c8⟩ := ba c
  exact ⟨eqO_ok c1, eqO_ok c2, of_decide_eq_true c3, c4, eqO_ok c5, eqO_ok c6, of_decide_eq_true c7, of_decide_eq_true c8⟩
theorem isXB_ok {y c : Str} {b : Bool} {K : PySem.W.Frag} {mg : Str → Option Value} {w : World} {Tb : LT} {sa : Addr} {sn : List Int} (hm : mg c = some (.ref (ga K c))) (h : isXB y c b K = true) : IsD mg ⟨K, w, He.ga K, Tb, sa, sn⟩ y c b := by
  obtain ⟨a, e⟩ := ba h
  exact ⟨excCB_ok a, _, hm, of_decide_eq_true e⟩
theorem catB_ok {x y : Str} {b : Bool} {K : PySem.W.Frag} {mg : Str → Option Value} {w : World} {Tb : LT} {sa : Addr} {sn : List Int} (hm : mg x = some (.ref (ga K x))) (h : catB x y b K = true) : CatD mg ⟨K, w, He.ga K, Tb, sa, sn⟩ x y b := ⟨_, hm, of_decide_eq_true h⟩
theorem noB_ok {x f : Str} {K : PySem.W.Frag} (h : noB x f K = true) : PySem.W.findIn K (.ref (ga K x)) f = some none := eqO_ok h
theorem xfBx_ok {x f : Str} {K : PySem.W.Frag} {w : World} {Tb : LT} {sa : Addr} {sn : List Int} (h : xfBx x f K = true) : XfD ⟨K, w, He.ga K, Tb, sa, sn⟩ x f := by
  obtain ⟨a, b⟩ := ba h
  exact ⟨xfB_ok a, noB_ok b⟩
abbrev nfX (d : XnD) (cc c : Addr) : NF := ⟨"__init__", d.qual, d.params, d.body, d.scope, [("__class__", cc)], c⟩
section
variable {P : Program} {w : World} {K : PySem.W.Frag} {mg : Str → Option Value} {base : Heap} {Tb : LT} {sa : Addr} {sn : List Int} {d : XnD} {slf v1 v2 f1 f2 x : Str} {j : Nat} {p0 p1 p2 p3 p4 pos q1 q2 q3 q4 r1 r2 r3 r4 : Pos}
end
def inTB (K : PySem.W.Frag) (C : Addr) : Bool := eqO (PySem.W.findIn K (.ref C) "__class__") (some (some (.builtin "object.__class__"))) && (eqO (PySem.W.specialIn K (.builtin "object.__class__") "__get__") (some (some (.builtin "getset_descriptor.__get__"))) && (eqB (PySem.W.takesIn K (.builtin "object.__class__")) (some true) && eqB (PySem.W.mroIn K C (.type "object")) (some true)))
def inTsB (ts : List Str) : PySem.W.Frag → Bool := fun K => ts.all fun t => inTB K (ga K t)
/-- c has m from the class o -/
def inhB (c o m : Str) : PySem.W.Frag → Bool := fun K => eqO (PySem.W.findIn K (.ref (ga K c)) m) (some (some (.ref (ma K (ga K o) m)))) && PySem.W.isFn K (.ref (ma K (ga K o) m))
def nfB (c : Str) (ts : List Str) : PySem.W.Frag → Bool := fun K => ts.all fun t => PySem.W.notFirst K (ga K c) (.ref (ga K t))
def neCB (c : Str) : PySem.W.Frag → Bool := fun K => eqO (PySem.W.findIn K (.ref (ga K c)) "__ne__") (some (some (.builtin "object.__ne__"))) && eqB (PySem.W.mroIn K (ga K c) (.type "object")) (some true)
def isCB (x : Str) (cs : List (Str × Bool)) : PySem.W.Frag → Bool := fun K => (cs.all fun p => eqB (PySem.W.kitOne K (.ref (ga K p.1)) (.ref (ga K x))) (some p.2)) && ((PySem.W.clsIn K (ga K x)).isSome && PySem.W.typeIn K (.ref (ga K x)) == some (.type "type"))
end Vs

set_option maxRecDepth 100000
set_option maxHeartbeats 2000000
namespace Fw
open PySem PySem.Spec PyProof.Rows L2
open Sem (wp)
open AutoSeq1 (wpAny_loadPart')
section
variable {prog : Program} {w : World} {A : Around} {E : Value → Shared → Prop} {s : Shared}
end
section
variable {prog : Program} {w : World} {A : Around} {E : Value → Shared → Prop} {s : Shared}
end
/-- the items of a tuple, each in a new pair -/
def IteT (K : PySem.W.Frag) (a : Addr) : It :=
  ⟨fun i H => ∃ (xs : List V) (x : V), SqT K H a xs ∧ xs[i]? = some x, fun i H v H' => ∃ T x, v = .ref T ∧ H T = none ∧ H' = upd H T (.tup [.int (i : Nat), x]) ∧ ∀ xs, SqT K H a xs → xs[i]? = some x, fun i H => ∃ xs : List V, SqT K H a xs ∧ xs.length = i⟩
def iEnumT (K : PySem.W.Frag) (ta : TA) : TI := fun σ H R => ta σ H fun vs H1 => ∃ a xs, vs = [.ref a] ∧ SqT K H1 a xs ∧ R (IteT K a) H1
end Fw

set_option maxRecDepth 100000
set_option maxHeartbeats 2000000
namespace Fw
open PySem PySem.Spec PyProof.Rows L2
open Builtin Builtin.Str Builtin.Int Builtin.Float
/-- the text of x in so many columns, to the right -/
def padS (n : Nat) (x : Int) : Str := ⟨(List.replicate (n - (toString x).length) 32 ++ (toString x).toList.map Char.toNat).toArray⟩
def specS (d : Nat) : Str := ⟨#[62, d]⟩
def specF (n : Nat) : FormatSpec := { align := 62, width := some n }
section
variable {M : Model} {A : Around} {E : Value → Shared → Prop} {s : Shared}
end
theorem log_small {n : Nat} (h : n < 260) : (n : Int).natAbs.log2 < 1920 := by
  show n.log2 < 1920
  by_cases z : n = 0
  · rw [z]; decide
  · have h1 := Nat.log2_le_self n
    omega
/-- {x:>d}: x from 0 to 259 -/
def tPad (k : Nat) (te : TE) : TE := fun σ H Q => te σ H fun x H1 => ∃ n : Nat, x = .int (n : Int) ∧ n < 260 ∧ Q (.str (padS k n)) H1
end Fw

set_option maxRecDepth 100000
set_option maxHeartbeats 2000000
namespace Vs
open PySem PySem.Spec PyProof.Rows L2 Fw SX
def fEnumT (A : M Rv) : M (List D) := (fFrz A).bind fun r e => match r with
  | .val (.tup ds) => .ok (enumD 0 ds) e
  | _ => .no
section
variable {g : Gm} {W : WX} {k : Nat} {X : Cx} {G H : Hp} {a : Addr} {vs : List V} {ds : List D}
end
def padD (k n : Nat) : List Nat := (padS k (n : Int)).cps.toList
def fPad (k : Nat) (A : M Rv) : M Rv := A.bind fun r e => match r with
  | .val (.int i) => if 0 ≤ i ∧ i < 260 then .ok (.val (.str (padD k i.toNat))) e else .no
  | _ => .no
section
variable {g : Gm} {W : WX} {k : Nat} {X : Cx}
end
def fMethK (T : Str → Option (List Sl → Res Rv)) (m : Str) (O : M Rv) (A B : M (List Rv)) : M Rv := O.bind fun o e0 => match deref o e0 with
  | some (.ins c fs) => if (fs.lookup m).isNone = true then (match T c with
    | some F => (A.bind fun rs => B.bind fun zs => callB F (o :: (rs ++ zs))) e0
    | none => .no) else .no
  | _ => .no
def MethKD (P : Program) (mg : Str → Option Value) (base : Heap) (g : Gm) (m : Str) (ks : List Str) (j : Nat) (T : Str → Option (List Sl → Res Rv)) : Prop :=
  ∀ c F, T c = some F → ∃ f, Cls g.K (g.ca c) ∧ Meth g.K (g.ca c) m f ∧ FnK P g.w g.K mg base (L2.CX P g.w) j f ks (spR g F)
section
variable {g : Gm} {W : WX} {k : Nat} {X : Cx} {E : L2.St → XK}
def tMethKS (T : Addr → Sp → Prop) (m : Str) (nk : Nat) (E : L2.St → XK) (ta : TE) (t tk : TA) : TE := fun σ H Q => ta σ H fun x H1 => ∃ a C dx fs sp, x = .ref a ∧ H1 a = some (.ins C dx fs) ∧ fs.lookup m = none ∧ T C sp ∧ t σ H1 fun vs H2 => tk σ H2 fun zs H3 => zs.length = nk ∧ sp (x :: (vs ++ zs)) H3 Q (E σ)
end
end Vs

set_option maxRecDepth 100000
set_option maxHeartbeats 2000000
namespace Vs
open PySem PySem.Spec PyProof.Rows L2 Fw SX
/-- behind a call: the first m slots as the call left them, the others as they stood -/
def tailF (m : Nat) (as : List Sl) : Res Rv → Res Rv
  | .ok r as' => .ok r (as'.take m ++ as.drop m)
  | .er x as' => .er x (as'.take m ++ as.drop m)
  | .no => .no
/-- m positional values, those of the star, nk values by keywords; dd: the keyword-only parameters that lack -/
def starK (m nk : Nat) (dd : List D) (F : List Sl → Res Rv) (as : List Sl) : Res Rv := if m + nk ≤ as.length then (match shsD (as.drop m) with
  | some ds => if ds.length - nk ≤ sizeLine then tailF m as (F (as.take m ++ (ds.drop (ds.length - nk) ++ (dd ++ [D.tup (ds.take (ds.length - nk))])).map Sl.sh)) else .no
  | none => .no) else .no
section
variable {P : Program} {w : World} {K : PySem.W.Frag} {mg : Str → Option Value} {base : Heap} {g : Gm}
/-- what such a def binds: the positional values, those by keyword, the defaults, then the new tuple -/
def StarB (K : PySem.W.Frag) (fd : FuncData) (ps : List Str) (pv : Str) (m : Nat) (ks : List Str) (mv : List Value) : Prop :=
  ∀ (P : Program) (w : World) (A : Around) (Q : List (Str × Value) → Shared → Prop) (Ex : Value → Shared → Prop) (s : Shared) (us rest ws : List Value), K.In s.heap → us.length = m → ws.length = ks.length →
    wpAny (model P w) A (newTuple rest >>= fun t => pure (ps.zip (us ++ (ws ++ mv)) ++ [(pv, t)])) Q Ex s → wpAny (model P w) A (bindArgs fd ⟨us ++ rest, ks.zip ws⟩) Q Ex s
end
end Vs

set_option maxRecDepth 100000
set_option maxHeartbeats 2000000
namespace Vs
open PySem PySem.Spec PyProof.Rows L2 Fw SX
/-- a state within a comprehension: the list at Da holds ys so far -/
structure Lp (g : Gm) (G H : Hp) (σ : L2.St) (e : Ve) (vs : List Nat) (Da : Addr) (σ' : L2.St) (acc : List V) (ys : List D) (G' H' : Hp) (e' : Ve) : Prop where
  st : St g G H σ e G' H' σ' e'
  vo : VeOff vs (wipeV e vs) e'
  un : ∀ j ∈ vs, ∀ s, e'[j]? = some s → s = .un ∨ ∃ d, s = .sh d
  wp : wipe σ' vs = wipe σ vs
  hD : H' Da = some (.lst acc)
  nD : G' Da = none
  rp : Reps g G' ys acc
  nr : ∀ i, ¬ Rt σ' e' i Da
section
variable {g : Gm} {G H G1 H1 G2 H2 : Hp} {σ σ1 σ2 : L2.St} {e e1 e2 : Ve} {vs is vs1 : List Nat} {Da : Addr} {acc : List V} {ys : List D}
theorem Lp.grow (l : Lp g G H σ e vs Da σ1 acc ys G1 H1 e1) (gr : Grow G1 H1 G2 H2) : Lp g G H σ e vs Da σ1 acc ys G2 H2 e1 :=
  ⟨l.st.trans (gr.tr l.st.sr).st, l.vo, l.un, l.wp, gr.keep _ _ l.hD, gr.new _ l.nD (by rw [l.hD]; exact fun z => nomatch z), l.rp.mono gr.le, l.nr⟩
theorem Lp.tr (l : Lp g G H σ e vs Da σ1 acc ys G1 H1 e1) (t : Tr g σ1 G1 H1 e1 G2 H2 e2) : Lp g G H σ e vs Da σ1 acc ys G2 H2 e2 := by
  have at_ : ∀ (j : Nat) (s : Sl), e2[j]? = some s → ∃ s0, e1[j]? = some s0 ∧ SlLe s0 s := fun j s h => by
    have hl : j < e1.length := by rw [← t.ve.len]; exact lt_of_some h
    obtain ⟨s', h', le⟩ := t.ve.at_ j e1[j] (List.getElem?_eq_getElem hl)
    rw [h] at h'; cases h'
    exact ⟨_, List.getElem?_eq_getElem hl, le⟩
  refine ⟨l.st.trans t.st, l.vo.trans t.ve.off, fun j hj s h => ?_, l.wp, t.keep _ _ l.hD l.nr (fun ps z => nomatch z), t.new _ l.nD (by rw [l.hD]; exact fun z => nomatch z) l.nr, l.rp.mono t.le, fun i r => ?_⟩
  · obtain ⟨s0, h0, le⟩ := at_ j s h
    rcases l.un j hj s0 h0 with z | ⟨d', z⟩
    · rw [z] at le; exact .inl le
    · rw [z] at le; exact .inr ⟨d', le⟩
  · obtain ⟨r1, r2⟩ := r
    cases q : e2[i]? with
    | none => rw [q] at r1; exact r1
    | some s =>
      rw [q] at r1
      obtain ⟨s0, h0, le⟩ := at_ i s q
      exact l.nr i ⟨by rw [h0]; exact isOw_back le r1, r2⟩
theorem Lp.sto {F : D → M Unit} {d : D} (l : Lp g G H σ e vs Da σ1 acc ys G1 H1 e1) (hD0 : H Da = none) (sr0 : SR g G H σ e) (his : ∀ i ∈ is, i ∈ vs) (hF : ∀ d e e' j, F d e = .ok () e' → j ∉ is → e'[j]? = e[j]?) (hO : ∀ d e e' j, F d e = .ok () e' → j ∈ is → ∃ d', e'[j]? = some (.sh d')) (hL : ∀ d e e', F d e = .ok () e' → e'.length = e.length)
    (qf : F d e1 = .ok () e2) (st : St g G H σ e G1 H1 σ2 e2) (off : ∀ j, j ∉ is → σ2[j]? = σ1[j]?) : Lp g G H σ e vs Da σ2 acc ys G1 H1 e2 := by
  have len2 : e2.length = e1.length := hL d e1 e2 qf
  have lenσ : σ2.length = σ1.length := by rw [← st.sr.len, len2, l.st.sr.len]
  have un2 : ∀ j ∈ vs, ∀ s, e2[j]? = some s → s = .un ∨ ∃ d, s = .sh d := fun j hj s h => by
    by_cases hm : j ∈ is
    · obtain ⟨d', h'⟩ := hO d e1 e2 j qf hm
      rw [h'] at h; cases h; exact .inr ⟨d', rfl⟩
    · rw [hF d e1 e2 j qf hm] at h
      exact l.un j hj s h
  refine ⟨st, l.vo.trans ⟨len2, fun j s n h => ⟨s, by rw [hF d e1 e2 j qf fun z => n (his j z)]; exact h, SlLe.refl s⟩⟩, un2, ?_, l.hD, l.nD, l.rp, fun i r => ?_⟩
  · rw [wipe_ext lenσ fun j hj => off j fun z => hj (his j z), l.wp]
  · by_cases hm : i ∈ vs
    · obtain ⟨r1, _⟩ := r
      cases qq : e2[i]? with
      | none => rw [qq] at r1; exact r1
      | some s =>
        rw [qq] at r1
        rcases un2 i hm s qq with rfl | ⟨d', rfl⟩ <;> exact r1
    · obtain ⟨r1, r2⟩ := r
      rw [off i fun z => hm (his i z)] at r2
      rw [hF d e1 e2 i qf fun z => hm (his i z)] at r1
      exact l.nr i ⟨r1, r2⟩
theorem Lp.app (l : Lp g G H σ e vs Da σ1 acc ys G1 H1 e1) (h0 : H Da = none) {d : D} {v : V} (r : Rep g G1 d v) : Lp g G H σ e vs Da σ1 (acc ++ [v]) (ys ++ [d]) G1 (upd H1 Da (.lst (acc ++ [v]))) e1 :=
  ⟨l.st.putNew h0 l.nD l.nr (fun o z => by rw [l.hD] at z; cases z; trivial), l.vo, l.un, l.wp, upd_same, l.nD, l.rp.append ⟨v, [], rfl, r, rfl⟩, l.nr⟩
theorem wipe_sub (hv : ∀ i ∈ vs1, i ∈ vs) : wipe (wipe σ1 vs1) vs = wipe σ1 vs := wipe_ext (wipe_length σ1 vs1) fun j hj => wipe_out fun z => hj (hv j z)
theorem Lp.wiped (l : Lp g G H σ e vs Da σ1 acc ys G1 H1 e1) (hv : ∀ i ∈ vs1, i ∈ vs) : Lp g G H σ e vs Da (wipe σ1 vs1) acc ys G1 H1 (wipeV e1 vs1) := by
  have un : ∀ j ∈ vs, ∀ s, (wipeV e1 vs1)[j]? = some s → s = .un ∨ ∃ d, s = .sh d := fun j hj s h => by
    by_cases hm : j ∈ vs1
    · have hl : j < e1.length := by rw [← wipeV_len vs1]; exact lt_of_some h
      rw [wipeV_in hl hm] at h
      cases h; exact .inl rfl
    · rw [wipeV_out hm] at h
      exact l.un j hj s h
  refine ⟨l.st.wiped fun j hj => ⟨(fun d' z => by rcases l.un j (hv j hj) _ z with y | ⟨_, y⟩ <;> cases y), (fun s fx z => by rcases l.un j (hv j hj) _ z with y | ⟨_, y⟩ <;> rw [y] at fx <;> cases fx)⟩,
    l.vo.trans ⟨wipeV_len vs1, fun j s n h => ⟨s, by rw [wipeV_out fun z => n (hv j z)]; exact h, SlLe.refl s⟩⟩, un, by rw [wipe_sub hv, l.wp], l.hD, l.nD, l.rp, fun i r => ?_⟩
  obtain ⟨r1, r2⟩ := r
  obtain ⟨h1, h2⟩ := wipe_some r2
  rw [wipeV_out h2] at r1
  exact l.nr i ⟨r1, h1⟩
theorem Lp.fz (l : Lp g G H σ e vs Da σ1 acc ys G1 H1 e1) (t : Tr g σ1 G1 H1 e1 G2 H2 e2) : Fz H1 H2 := t.st.fz l.st.sr
end
section
variable {g : Gm}
/-- what a target does -/
def StoQ (g : Gm) (F : D → M Unit) (is : List Nat) (t : TG) : Prop := ∀ (G H G0 H0 : Hp) (σ σ0 : L2.St) (e e0 e' : Ve) (d : Vs.D) (v : V) (Q : L2.St → Hp → Prop), St g G0 H0 σ0 e0 G H σ e → Rep g G d v → F d e = .ok () e' → (∀ σ', St g G0 H0 σ0 e0 G H σ' e' → (∀ j, j ∉ is → σ'[j]? = σ[j]?) → Q σ' H) → t v σ H Q
structure StoF (F : D → M Unit) (is vs : List Nat) : Prop where
  sub : ∀ i ∈ is, i ∈ vs
  off : ∀ d e e' j, F d e = .ok () e' → j ∉ is → e'[j]? = e[j]?
  oth : ∀ d e e' j, F d e = .ok () e' → j ∈ is → ∃ d', e'[j]? = some (.sh d')
  len : ∀ d e e', F d e = .ok () e' → e'.length = e.length
def lcL2 (F : D → M Unit) (T : M Bool) (S1 : M (List D)) (F1 : D → M Unit) (T1 : M Bool) (E : M Rv) (vs vs1 : List Nat) : List D → M (List D)
  | [] => M.ret []
  | d :: r => (F d).bind fun _ => T.bind fun b => if b = true then (S1.bind fun ds1 e => match lcL F1 T1 E vs1 ds1 (wipeV e vs1) with
      | .ok ys e' => M.map (lcL2 F T S1 F1 T1 E vs vs1 r) (ys ++ ·) (wipeV e' vs)
      | _ => .no) else fun e => lcL2 F T S1 F1 T1 E vs vs1 r (wipeV e vs)
def fLc2 (S : M (List D)) (F : D → M Unit) (T : M Bool) (S1 : M (List D)) (F1 : D → M Unit) (T1 : M Bool) (E : M Rv) (vs vs1 : List Nat) : M Rv := S.bind fun ds e => if okWipe e vs = true then (match lcL2 F T S1 F1 T1 E vs vs1 ds (wipeV e vs) with
    | .ok ys e' => if ys.length ≤ sizeLine then .ok (.fresh (.lst ys)) (restV e e' vs) else .no
    | _ => .no) else .no
end
section
variable {g : Gm} {W : WX} {k : Nat} {X : Cx} {elt tg iter tg1 iter1 : Expr} {ifs ifs1 : List Expr} {scope : Scope} {own : List (Str × Nat)} {pos : Pos} {S S1 : M (List D)} {F F1 : D → M Unit} {is is1 vs1 : List Nat} {T T1 : M Bool} {E : M Rv}
end
end Vs

set_option maxRecDepth 100000
set_option maxHeartbeats 2000000
namespace Vs
open PySem PySem.Spec PyProof.Rows L2 Fw SX
section
variable {g : Gm} {W : WX} {k : Nat} {X : Cx}
end
end Vs

set_option maxRecDepth 100000
set_option maxHeartbeats 2000000
namespace Vs
open PySem PySem.Spec PyProof.Rows L2 Fw SX
def PropT (P : Program) (mg : Str → Option Value) (base : Heap) (g : Gm) (f : Str) (j : Nat) (T : Str → Option (List Sl → Res Rv)) : Prop :=
  ∀ c F, T c = some F → ∃ p q, Cls g.K (g.ca c) ∧ PropOf g.K (g.ca c) f p q ∧ FnK P g.w g.K mg base (L2.CX P g.w) j q [] (spR g F)
/-- what a getter's result must not be: an exception -/
def calmR : Res Rv → Res Rv
  | .ok r e => .ok r e
  | _ => .no
def fProp (T : Str → Option (List Sl → Res Rv)) (O : M Rv) : M Rv := O.bind fun o e0 => match deref o e0 with
  | some (.ins c _) => (match T c with
    | some F => calmR (callB F [o] e0)
    | none => .no)
  | _ => .no
section
variable {g : Gm} {W : WX} {k : Nat} {X : Cx}
theorem Pst.calm {σ : L2.St} {G H : Hp} {e : Ve} {R : Rv → Hp → Hp → Ve → Prop} {r : Res Rv} (h : Pst g W σ G H e R (calmR r)) : Pst g (fun _ _ _ _ => False) σ G H e R r := by
  cases r with
  | no => exact h
  | er x e' => exact h.elim
  | ok r e' => exact h
/-- o.f, the getter of the class's property read -/
def tPropV (K : PySem.W.Frag) (U : Addr → Sp → Addr → Addr → Prop) (f : Str) (to : TE) : TE := fun σ H Q => to σ H fun x H1 => ∃ a C dx fs sp p q, x = .ref a ∧ H1 a = some (.ins C dx fs) ∧ Cls K C ∧ PropOf K C f p q ∧ U C sp p q ∧ sp [.ref a] H1 Q (fun _ _ _ => False)
end
section
variable {g : Gm} {W : WX} {k : Nat} {X : Cx} {x : Str} {i : Nat} {ex : Expr} {A : M (List Rv)} {p apos cpos : Pos}
end
end Vs

set_option maxRecDepth 100000
set_option maxHeartbeats 2000000
namespace Vs
open PySem PySem.Spec PyProof.Rows L2 Fw SX He NdefX
/-- what stands first in the object m of the class x: T's function -/
def farA (T : String) (x m : Str) (K : PySem.W.Frag) : Addr := match PySem.W.recIn K (ma K (ga K x) m) T with
  | some (.ref q :: _) => q
  | _ => 0
def farB (l : FarD) : PySem.W.Frag → Bool := fun K => PySem.W.keepIn K (.ref (l.p K)) && (match K.lookup (l.p K) with
  | some ⟨_, _, .func u, _⟩ => PySem.W.codeIn K u.code l.d.qual && (dflB K u.defaults (l.d.dvs K) && kwdB K u.kwdefaults (l.d.kws K))
  | _ => false)
def obsP (n : Nat) (ex : Ex) (fa : List Fa) (fn : List DefD) (tf : List Defn) (xn : List XnD) (fr : List FarD) (g : Addr → Option Obj) : AlP := (obsZ n ex fa fn tf xn g, fr.map fun l => farW (frT g (asX g n)) (l.p (frT g (asX g n))))
def hookP (n : Nat) (ex : Ex) (fa : List Fa) (fn : List DefD) (tf : List Defn) (xn : List XnD) (fr : List FarD) : PySem.W.Hook where
  α := AlP
  obs := fun s => obsP n ex fa fn tf xn fr s.heap.get?
  val := fun _ => (((valD fn, true), xn.map XnD.val), fr.map fun l => l.d.val)
  says := fun _ h => ∃ K : PySem.W.Frag, K.In h ∧ SaysP ex fa fn tf xn fr h K
  of := fun _ s e => ⟨_, frT_in, ⟨saysY_of (congrArg (fun z : AlP => z.1.1) e), congrArg (fun z : AlP => z.1.2) e⟩, show (obsP n ex fa fn tf xn fr s.heap.get?).2 = _ from congrArg (fun z : AlP => z.2) e⟩
  keeps := fun _ _ _ ⟨K, hK, c⟩ k => ⟨K, PySem.W.Frag.In.keeps hK k, ⟨⟨c.z.y.x, c.z.y.hd, c.z.y.out, fun p hp => k _ _ (c.z.y.empty p hp)⟩, c.z.xn⟩, c.fr⟩
theorem SaysP.far {ex : Ex} {fa : List Fa} {fn : List DefD} {tf : List Defn} {xn : List XnD} {fr : List FarD} {h : Heap} {K : PySem.W.Frag} (c : SaysP ex fa fn tf xn fr h K) (i : Nat) {l : FarD} (hl : fr[i]? = some l := by rfl) : farW K (l.p K) = l.d.val := by
  have e : (fr.map fun l => farW K (l.p K))[i]? = (fr.map fun l => l.d.val)[i]? := by rw [c.fr]
  rw [List.getElem?_map, List.getElem?_map, hl] at e
  exact Option.some.inj e
/-- f of the class x is a property -/
def prB (x f : Str) : PySem.W.Frag → Bool := fun K => eqO (PySem.W.findIn K (.ref (ga K x)) f) (some (some (.ref (ma K (ga K x) f)))) && (eqO (PySem.W.specialIn K (.ref (ma K (ga K x) f)) "__get__") (some (some (.builtin "property.__get__"))) &&
  (eqB (PySem.W.takesIn K (.ref (ma K (ga K x) f))) (some true) && (match PySem.W.recIn K (ma K (ga K x) f) "property" with
  | some (.ref q :: _) => decide (q = farA "property" x f K)
  | _ => false)))
end Vs

set_option maxRecDepth 100000
set_option maxHeartbeats 2000000
namespace Vs
open PySem PySem.Spec PyProof.Rows L2 Fw SX He NdefX
def obsN (xs : List Str) (fs : List (PySem.W.Frag → Addr)) (ex : Ex) (fa : List Fa) (fn : List DefD) (tf : List Defn) (xn : List XnD) (fr : List FarD) (g : Addr → Option Obj) : AlP :=
  (fun K => (((Fw.obsX ex fa fn K, tabsB g tf K), xn.map fun d => xnW K d.x), fr.map fun l => farW K (l.p K))) (frT g (asN xs fs g))
def hookN (xs : List Str) (fs : List (PySem.W.Frag → Addr)) (ex : Ex) (fa : List Fa) (fn : List DefD) (tf : List Defn) (xn : List XnD) (fr : List FarD) : PySem.W.Hook where
  α := AlP
  obs := fun s => obsN xs fs ex fa fn tf xn fr s.heap.get?
  val := fun _ => (((valD fn, true), xn.map XnD.val), fr.map fun l => l.d.val)
  says := fun _ h => ∃ K : PySem.W.Frag, K.In h ∧ SaysP ex fa fn tf xn fr h K
  of := fun _ s e => ⟨_, frT_in, ⟨saysN_of (congrArg (fun z : AlP => z.1.1.1) e) (congrArg (fun z : AlP => z.1.1.2) e), congrArg (fun z : AlP => z.1.2) e⟩, show (obsN xs fs ex fa fn tf xn fr s.heap.get?).2 = _ from congrArg (fun z : AlP => z.2) e⟩
  keeps := fun _ _ _ ⟨K, hK, c⟩ k => ⟨K, PySem.W.Frag.In.keeps hK k, ⟨⟨c.z.y.x, c.z.y.hd, c.z.y.out, fun p hp => k _ _ (c.z.y.empty p hp)⟩, c.z.xn⟩, c.fr⟩
end Vs

set_option maxRecDepth 100000
set_option maxHeartbeats 2000000
namespace Vs
open PySem PySem.Spec PyProof.Rows L2 Fw SX He NdefX
theorem obsM_eq {xs : List Str} {fs : List (PySem.W.Frag → Addr)} {ex : Ex} {fa : List Fa} {fn : List DefD} {tf : List Defn} {xn : List XnD} {fr : List FarD} {g : Addr → Option Obj} {s : Shared} (h : ∀ a, g a = s.heap.get? a) : obsM xs fs ex fa fn tf xn fr g = (hookM xs fs ex fa fn tf xn fr).obs s := by
  obtain rfl : g = s.heap.get? := funext h
  rfl
end Vs

set_option maxRecDepth 100000
set_option maxHeartbeats 2000000
namespace Vs
open PySem PySem.Spec PyProof.Rows L2 Fw SX NdefX
/-- y is taken, outs go on -/
def fTryT (y : Str) (outs : List Str) (i : Nat) (f : List (Str × D) → Option (List D)) (B : M Ctl) : M Ctl := fun e => match B e with
  | .er x e' => if x.1 = y ∧ i < e'.length ∧ x.2 ≠ [] then (match f x.2 with | some ds => if ds.length ≤ sizeLine then .ok (.rt (.val (.tup ds))) e' else .no | none => .no) else if x.1 ∈ outs then .er x e' else .no
  | r => r
section
variable {g : Gm} {W : WX} {k : Nat} {X : Cx}
end
section
variable {g : Gm} {i : Nat} {y : Str} {X : Cx}
/-- isinstance of an exception of the class y asks the built-in class T -/
def IsTD (g : Gm) (y : Str) (T : String) (b : Bool) : Prop := ExcC g.K (g.ca y) ∧ PySem.W.kitOne g.K (.ref (g.ca y)) (.type T) = some b
end
end Vs

set_option maxRecDepth 100000
set_option maxHeartbeats 2000000
namespace Vs
open PySem PySem.Spec PyProof.Rows L2 Fw SX He NdefX
def isTB (y : Str) (T : String) (b : Bool) : PySem.W.Frag → Bool := fun K => excCB K (ga K y) && eqB (PySem.W.kitOne K (.ref (ga K y)) (.type T)) (some b)
end Vs

set_option maxRecDepth 100000
set_option maxHeartbeats 2000000
namespace Vs
open PySem PySem.Spec PyProof.Rows L2 Fw SX NdefX
/-- what the written part says of the class -/
structure OexL (K : PySem.W.Frag) (C : Addr) : Prop where
  ini : PySem.W.excInitIn K C leT "LookupError.__new__" = true
  ovr : PySem.W.excOver K C leT = true
  dct : PySem.W.hasDictIn K C = true
  sa : PySem.W.findIn K (.ref C) "__setattr__" = some (some (.builtin "object.__setattr__"))
  exC : PySem.W.subIn K (.ref C) (.type "BaseException") = some true
  tyC : PySem.W.typeIn K (.ref C) = some (.type "type")
  kC : PySem.W.keepIn K (.ref C) = true
section
variable {X : Cx} {pins : List (Addr × Obj)} {σ : L2.St} {H : Hp} {s : Shared} {a C dx : Addr} {f : Str} {y : V} {u : Value} {fs : List (Str × V)} {Q : Unit → Shared → Prop} {E : Value → Shared → Prop} {A : Around}
theorem no_taker {K : PySem.W.Frag} (hno : PySem.W.findIn K (.ref C) f = some none) : PySem.W.takerIn K C f = some none := by
  unfold PySem.W.takerIn
  rw [hno]
  rfl
/-- the first field: the dict is laid, hung to the object, then written -/
theorem le_first (T : OexL X.K C) (I : Inv X pins σ H s) (ea : H a = some (exo a C none)) (hno : PySem.W.findIn X.K (.ref C) f = some none) (ry : RelV y u)
    (go : ∀ d' s', H d' = none → d' ≠ a → Inv X pins σ (upd (upd H d' (exd d' [(f, y)])) a (exo a C (some d'))) s' → Q () s') : wpAny (model X.prog X.w) A (setAttr (.ref a) f u) Q E s := by
  obtain ⟨t1, hget⟩ := exo_at I.hok ea
  obtain ⟨cd, hcd, hdi⟩ := PySem.W.any_some T.dct
  obtain ⟨hp, gg, dd, tt, os⟩ := s
  refine PySem.W.set_plain I.kIn (od := none) ⟨hget, rfl, rfl, trivial⟩ T.sa ?_
  refine PySem.W.osa_openX (od := none) PySem.F.store_LookupError I.kIn ⟨hget, rfl, rfl, trivial⟩ T.ovr (no_taker hno) fun _ => ?_
  refine wpAny_bind (wpAny_pure (wpAny_bind (PySem.W.instanceDict_exc hget (PySem.W.looks_clsIn I.kIn hcd) hdi ?_)))
  have nA : a ≠ hp.objs.size := Nat.ne_of_lt (Heap.lt_size hget)
  have g0 : (hp.push (PySem.W.dictOf [] 0)).get? a = some { cls := .ref C, dict := none, data := .fields #[.ref t1, .none, .none, .none, .bool false, .none] } := Heap.get?_push_of_some _ hget
  have n0 : (hp.push (PySem.W.dictOf [] 0)).Ns hp.objs.size (fun _ => none) := ⟨_, #[], _, Heap.get?_push_size _ rfl, rfl, fun e he => absurd he (by simp), fun _ => rfl⟩
  have g1 := Heap.get?_update_self (fun o : Obj => { o with dict := some hp.objs.size }) g0 rfl
  have g2 : ∀ b, b ≠ a → ((hp.push (PySem.W.dictOf [] 0)).update a fun o => { o with dict := some hp.objs.size }).get? b = (hp.push (PySem.W.dictOf [] 0)).get? b := fun b hb => Heap.get?_update_ne _ _ _ _ hb
  have n1 : ((hp.push (PySem.W.dictOf [] 0)).update a fun o => { o with dict := some hp.objs.size }).Ns hp.objs.size (fun _ => none) := ⟨_, #[], _, (g2 _ nA.symm).trans (Heap.get?_push_size _ rfl), rfl, fun e he => absurd he (by simp), fun _ => rfl⟩
  show wpAny _ _ (PySem.Builtin.ObjectAttr.storeInDict hp.objs.size _ f u) _ _ _
  refine PySem.HandSPX.store_in_new n1 fun h' tk' hn' hs => ?_
  have J1 := I.laid (t' := tt) (h' := hp.push (PySem.W.dictOf [] 0)) (a := hp.objs.size) (o := exd hp.objs.size []) (fun b o q => Heap.get?_push_of_some _ q) (Nat.le_refl _) (exd_ok (Heap.Ns1.of_empty n0) fun _ => True.intro)
  have nd : H hp.objs.size = none := I.hok.fresh (Nat.le_refl _)
  have J2 := J1.write (t' := tt) (h' := (hp.push (PySem.W.dictOf [] 0)).update a fun o => { o with dict := some hp.objs.size }) (x := a) (e := a) (o := exo a C (some hp.objs.size)) (by rw [upd_ne nA, ea]; exact True.intro) (.inl rfl) (fun b o hb q => (g2 b hb).trans q) ⟨_, g1⟩ (exo_ok g1)
  have J3 := J2.write (t' := tk') (h' := h') (x := hp.objs.size) (e := hp.objs.size) (o := exd hp.objs.size [(f, y)]) (by rw [upd_ne nA.symm, upd_same]; exact True.intro) (.inl rfl) (fun b o hb q => (hs.2 b hb).trans q) (by
    obtain ⟨o, _, _, q, _⟩ := hn'
    exact ⟨o, q⟩) (exd_ok hn' (relO_put (fs := []) ry fun _ => True.intro))
  refine go hp.objs.size _ nd nA.symm ?_
  have eu : upd (upd (upd H hp.objs.size (exd hp.objs.size [])) a (exo a C (some hp.objs.size))) hp.objs.size (exd hp.objs.size [(f, y)]) = upd (upd H hp.objs.size (exd hp.objs.size [(f, y)])) a (exo a C (some hp.objs.size)) := by
    funext b
    by_cases h1 : b = a
    · rw [h1, upd_ne nA, upd_same, upd_same]
    · by_cases h2 : b = hp.objs.size
      · rw [h2, upd_same, upd_ne nA.symm, upd_same]
      · rw [upd_ne h2, upd_ne h1, upd_ne h2, upd_ne h1, upd_ne h2]
  rw [eu] at J3
  exact J3
/-- a further field -/
theorem le_more (T : OexL X.K C) (I : Inv X pins σ H s) (ea : H a = some (exo a C (some dx))) (ed : H dx = some (exd dx fs)) (hl : fs.length ≤ 900) (hno : PySem.W.findIn X.K (.ref C) f = some none) (ry : RelV y u)
    (go : ∀ s', Inv X pins σ (upd H dx (exd dx ((f, y) :: fs))) s' → Q () s') : wpAny (model X.prog X.w) A (setAttr (.ref a) f u) Q E s := by
  obtain ⟨t1, hget⟩ := exo_at I.hok ea
  obtain ⟨mA, hns, rel⟩ := exd_at I.hok ed
  obtain ⟨cd, hcd, hdi⟩ := PySem.W.any_some T.dct
  obtain ⟨hp, gg, dd, tt, os⟩ := s
  obtain ⟨oD, _, _, hoD, _, _⟩ := hns.count (within_of rel)
  refine PySem.W.set_plain I.kIn (od := some oD) ⟨hget, rfl, rfl, hoD⟩ T.sa ?_
  refine PySem.W.osa_openX (od := some oD) PySem.F.store_LookupError I.kIn ⟨hget, rfl, rfl, hoD⟩ T.ovr (no_taker hno) fun _ => ?_
  refine wpAny_bind (wpAny_pure (wpAny_bind (wpAny_bind (wpAny_loadPart hget (wpAny_bind ((PySem.W.looks_clsIn I.kIn hcd).at ?_))))))
  rw [hdi]
  refine wpAny_pure (a := some dx) ?_
  refine PySem.OEX.store_in_old hns (within_of rel) (by rw [List.length_map]; omega) fun h' tk' hn' hs => ?_
  exact go _ (I.write (t' := tk') (x := dx) (e := dx) (o := exd dx ((f, y) :: fs)) (by rw [ed]; exact True.intro) (.inl rfl) (fun b o hb q => (hs.2 b hb).trans q) (by
    obtain ⟨o, _, _, q, _⟩ := hn'
    exact ⟨o, q⟩) (exd_ok hn' (relO_put ry rel)))
end
/-- self.f = e -/
def tOsL (K : PySem.W.Frag) (f : Str) (to te : TE) : TS := fun D σ H => te σ H fun y H1 => to σ H1 fun x H2 => ∃ a C : Addr, x = .ref a ∧ OexL K C ∧ PySem.W.findIn K (.ref C) f = some none ∧
  ((H2 a = some (exo a C none) ∧ ∀ d', H2 d' = none → d' ≠ a → D.nx σ (upd (upd H2 d' (exd d' [(f, y)])) a (exo a C (some d')))) ∨
    ∃ (d' : Addr) (fs : List (Str × V)), H2 a = some (exo a C (some d')) ∧ H2 d' = some (exd d' fs) ∧ fs.length ≤ 900 ∧ D.nx σ (upd H2 d' (exd d' ((f, y) :: fs))))
section
variable {X : Cx} {o e : Expr} {es : List Expr} {to te : TE} {ta : TA} {f : Str} {p p' pos : Pos}
theorem ps_osL (ho : PE X o to) (he : PE X e te) (hs : swapsWith e (some (.Attribute o f p')) pos.line X.env = pure false := by rfl) : PS X (.Assign [.Attribute o f p'] e pos) (tOsL X.K f to te) := by
  refine ⟨fun pins s σ H D I h => plainObj_wpAny_Assign_Attribute (thn (he.run pins s σ H _ I h) fun v s1 ⟨y, H1, I1, r1, q1⟩ => thn (ho.run pins s1 σ H1 _ I1 q1) fun u s2 ⟨x, H2, I2, r2, a, C, ex, T, hno, q⟩ => ?_) hs⟩
  subst ex
  obtain rfl : u = Value.ref a := r2
  rcases q with ⟨ea, q⟩ | ⟨d', fs, ea, ed, hl, q⟩
  · exact le_first T I2 ea hno r1 fun d' s' n ne J => ⟨σ, _, J, q d' n ne⟩
  · exact le_more T I2 ea ed hl hno r1 fun s' J => ⟨σ, _, J, q⟩
/-- C(e, ..): the object is laid, its own __init__ walked, its dict kept as an exception's -/
theorem pmk_lk {CX : CXT} {x : Str} {C fI : Addr} {k : Nat} {fd : FuncData} {ps : List Str} {sp : Sp} (T : OexL X.K C) (iC : PySem.W.findIn X.K (.ref C) "__init__" = some (some (.ref fI))) (tI : PySem.W.typeIn X.K (.ref fI) = some (.type "function"))
    (fk : FnOk X.prog X.w X.K X.mg X.base CX k fI fd ps sp) (hr : Room (k + 1) X.A) (hb : Binds X.K fd ps []) (hx : Passes CX X (fun _ _ _ => False)) (hg : Gl X x) (hm : X.mg x = some (.ref C)) (ha : PA X (e :: es) ta)
    (hdb : (x == ("__debug__" : Str)) = false := by decide) (he : starEach (e :: es) X.env = (false, eval e X.env) :: starEach es X.env := by rfl) (hpl : (backTo pos (starEach es X.env)).any (·.1) = false := by rfl) :
    PMk X (.Call (.Name x p) (e :: es) [] pos) (tMkO C sp [] ta) := by
  intro pins s σ H Q I h
  refine wpAny_Call_Name_kw (ld_glob I hg hm (PySem.W.callWith_K (h₀ := X.base) I.ok.mod.kin T.kC (thn (ha.run pos pins s σ H _ I h) fun us s1 ⟨vs, H1, I1, r1, hz, q1⟩ => ⟨I1.kIn, ?_⟩) he hpl) hdb)
  obtain ⟨hp, gg, dr, tk, os⟩ := s1
  obtain ⟨nm, N, qn, bs, bm, hdct, sn, sub, ab, col, dd, k0, k1, k2, k3, k5, hC, hT⟩ := PySem.W.excInit_of I1.kIn T.ini
  show wpAny _ _ (call (.ref C) us) _ _ _
  have le1 : hp.objs.size ≤ hp.objs.size + 1 := by omega
  have q2 := q1 (hp.objs.size + 1) (I1.hok.fresh le1)
  have old : ∀ b o, hp.get? b = some o → ((hp.push (PySem.W.kdv_tup us)).push (PySem.HandSPX.excO C hp.objs.size)).get? b = some o := fun b o q => Heap.get?_push_of_some _ (Heap.get?_push_of_some _ q)
  have new : ((hp.push (PySem.W.kdv_tup us)).push (PySem.HandSPX.excO C hp.objs.size)).get? (hp.objs.size + 1) = some (PySem.HandSPX.excO C hp.objs.size) := by heap_get
  have I2 : Inv X pins σ (upd H1 (hp.objs.size + 1) (exo (hp.objs.size + 1) C none)) ⟨(hp.push (PySem.W.kdv_tup us)).push (PySem.HandSPX.excO C hp.objs.size), gg, dr, tk, os⟩ := I1.laid (t' := tk) (a := hp.objs.size + 1) (o := exo (hp.objs.size + 1) C none) old le1 (exo_ok new)
  rw [List.append_nil] at q2
  have rs : Vals (V.ref (hp.objs.size + 1) :: vs) (Value.ref (hp.objs.size + 1) :: us) := .cons rfl r1
  have hlen : (Value.ref (hp.objs.size + 1) :: us).length = ps.length := rs.length.symm.trans (fk.len _ _ _ _ q2)
  have bnd := hb _ (Value.ref (hp.objs.size + 1) :: us) I2.kIn (by rw [List.append_nil]; exact hlen)
  rw [List.append_nil] at bnd
  have hus : us.length ≤ sizeLine := by
    have := Paired.length r1
    rw [sizeLine_eq]
    omega
  refine wpAny_call (PySem.HandSPX.call_own F.excBase_LookupError hT hC (PySem.W.looks_findIn I1.kIn iC) (fun self => PySem.W.bind_fn I1.kIn self tI) hus ?_)
  refine codeAny_mono (fk.run _ X.stack _ _ ⟨Value.ref (hp.objs.size + 1) :: us, []⟩ (Value.ref (hp.objs.size + 1) :: us) _ _ (fun _ _ _ => False) (hr.make C us []) (I2.env0.make C us []) bnd rs q2) fun r s' fin => ?_
  match r, fin with
  | .error er, fin => exact hx pins σ _ _ er s' I2 fin
  | .ok (.ret w), fin =>
    obtain ⟨v, H2, o2, b2, u2, k2', rv, ev, d, fs, ea, ed, hd, q⟩ := fin
    subst ev
    obtain ⟨h2, g2, d2, t2, os'⟩ := s'
    exact ⟨rv, mk_end (raises_own T.exC T.tyC) I1 le1 old u2 k2' o2 b2 ea ed hd q⟩
  | .ok .next, fin => exact fin.elim
  | .ok .brk, fin => exact fin.elim
  | .ok .cont, fin => exact fin.elim
end
/-- what the written part says of such a class and its __init__ -/
structure ExiL (P : Program) (K : PySem.W.Frag) (C f cc : Addr) (F : NF) (fd : FuncData) (slf : Str) : Prop where
  T : OexL K C
  cl : F.cl = [(("__class__" : Str), cc)]
  lkf : ∃ oc od osl, K.lookup f = some ⟨oc, od, .func fd, osl⟩
  fdX : ∃ dV kV doc pm an ct, fd = PySem.W.fnX F.name F.qual F.params F.body F.scope F.cl dV kV doc pm an (.ref F.c) ct
  par : ∃ ar : Arg, (fd.params.posonlyargs ++ fd.params.args).head? = some ar ∧ ar.arg = slf
  code : ∃ ccl cdd vs ccs file tf, K.lookup F.c = some ⟨ccl, cdd, .fields vs, ccs⟩ ∧ vs[2]? = some (.str file tf) ∧ ((P.main.file : Str) == file) = true
  cdr : PySem.W.codeIn K (.ref F.c) F.qual = true
  cell : ∃ cl cld csl, K.lookup cc = some ⟨cl, cld, .cell (some (.ref C)), csl⟩
  cls : (PySem.W.clsIn K C).isSome = true
  sub : PySem.W.mroIn K C (.ref C) = some true
  ks : F.scope.names.lookup ("super" : Str) = some .globalImplicit
  kc : F.scope.names.lookup ("__class__" : Str) = some .free
  ka : F.scope.names.lookup slf = some .local
  top : (P.main.scope.names.lookup ("super" : Str)).isSome = false
  opq : PySem.W.nsIn K cStatics "thirdparty.any" = some none
  sup : PySem.W.ks_superIn K C C "__init__" = some (some (.builtin "LookupError.__init__"))
  isB : PySem.W.subIn K (.ref C) (.type "LookupError") = some true
section
variable {CXa : CXT} {P : Program} {w : World} {K : PySem.W.Frag} {mg : Str → Option Value} {base : Heap} {N : List Str} {F : NF} {f C cc a : Addr} {fd : FuncData} {slf : Str} {A : Around} {outer : List PySem.Env} {s0 s : Shared} {H0 H : Hp} {E : XK} {σ : L2.St}
theorem sup_callL (T : ExiL P K C f cc F fd slf) (hmg : mg "super" = none) (I : Inv (ncx CXa P w K mg base N F f A outer s0 H0 E) [] σ H s) (hk : F.scope.kind = .function) (hN : N[0]? = some slf) (h0 : σ[0]? = some (some (.ref a))) (ea : H a = some (exo a C none))
    {x : Str} {j : Nat} {p0 p1 p2 p3 pos : Pos} {body : List Stmt} {Q : Value → Shared → Prop} {Ex : Value → Shared → Prop} (h : ∀ u s', Inv (ncx CXa P w K mg base N F f A outer s0 H0 E) [] σ H s' → Q u s')
    (he : SupEq F f s0.heap.objs.size (.Call (.Attribute (.Call (.Name "super" p0) [] [] p1) "__init__" p2) [.Constant (.str x) j p3] [] pos)) :
    _root_.PySem.wpAt (model P w) (A.deeper (envF F f s0.heap.objs.size)) (.func body (envF F f s0.heap.objs.size)) (eval (.Call (.Attribute (.Call (.Name "super" p0) [] [] p1) "__init__" p2) [.Constant (.str x) j p3] [] pos) (envF F f s0.heap.objs.size)) Q Ex s := by
  obtain ⟨oc, od, osl, lkf⟩ := T.lkf
  obtain ⟨ar, hp, har⟩ := T.par
  obtain ⟨ccl, cdd, vs, ccs, file, tf, lkc, hvs, hfile⟩ := T.code
  obtain ⟨cl1, cld, csl, lcc⟩ := T.cell
  obtain ⟨cd, hcd⟩ := Option.isSome_iff_exists.mp T.cls
  have X : K.In s.heap := I.kIn
  obtain ⟨nm, Nn, q, bs, bm, hdct, sn, sub, ab, col, dd, k0, k1, k2, k3, k5, hC, hbm⟩ := PySem.W.excInit_of X T.T.ini
  obtain ⟨t0, ho⟩ := exo_at I.hok ea
  obtain ⟨m, hns, hl⟩ := I.loc
  obtain ⟨u, ru, lu⟩ := hl 0 slf (.ref a) hN h0 (.inl T.ka)
  obtain rfl : u = Value.ref a := ru
  have hv : m slf = some (.ref a) := by
    rcases lu with ⟨_, e⟩ | ⟨z, _⟩
    · exact e
    · have ka := T.ka
      rcases z with z | z
      · have z : F.scope.names.lookup slf = some .cell := z
        rw [ka] at z; cases z
      · have z : F.scope.names.lookup slf = some .free := z
        rw [ka] at z; cases z
  obtain ⟨oD, hD1, hD2⟩ : ∃ oD, s.heap.get? C = some oD ∧ oD.data = .cls cd := by
    unfold PySem.W.clsIn at hcd
    split at hcd
    · rename_i c d cd' sl ho
      cases hcd
      exact ⟨_, X _ _ ho, rfl⟩
    · cases hcd
  have J : PySem.W.InstAt s.heap a { cls := .ref C, dict := none, data := .fields #[.ref t0, .none, .none, .none, .bool false, .none] } C none := ⟨ho, rfl, rfl, trivial⟩
  have hcl := T.cl
  obtain ⟨pl, he⟩ := he
  refine PySem.ks_wpAt_MethodCall (pl := pl) ?_ he
  refine PySem.ks_wpAt_super_base (env := envF F f s0.heap.objs.size) T.ks T.kc (by decide) rfl (X _ _ lkf) rfl hp rfl (X _ _ lkc) rfl hvs hfile T.top ?_
  obtain ⟨mb, b1, b2⟩ := I.mod.blt
  refine PySem.W.ks_loadName_global hk T.ks (Calls.loadGlobal_builtin (env := envF F f s0.heap.objs.size) (I.mod.glob.keeps I.bk) hmg (b1.keeps I.bk) ((b2 _ (by decide)).trans (show bootBuiltins "super" = some (.type "super") by decide +kernel)) ⟨rfl, ?_⟩)
  refine wpAny_loadName_free hk T.kc (show List.lookup _ F.cl = some cc by rw [hcl]; rfl) ⟨_, X _ _ lcc, rfl⟩ ?_
  rw [har]
  refine wpAny_loadName_local hk T.ka hns hv ?_
  refine PySem.ks_wpAny_isType_cls hD1 hD2 ⟨rfl, ?_⟩
  obtain ⟨hh, g, d, t, os⟩ := s
  refine PySem.ks_wpAny_call_super hD1 hD2 J.at_ J.cls (fun c e => nomatch e) (PySem.W.looks_mroIn X T.sub) (fun h1 e k => ?_)
  have X1 : K.In h1 := X.keeps k
  have J1 : PySem.W.InstAt h1 a { cls := .ref C, dict := none, data := .fields #[.ref t0, .none, .none, .none, .bool false, .none] } C none := ⟨k _ _ ho, rfl, rfl, trivial⟩
  have hsup := T.sup
  unfold PySem.W.ks_superIn at hsup
  rw [hcd] at hsup
  refine PySem.W.kxs_getMethod PySem.W.kxs_LookupError e (PySem.W.looks_opaque X1 T.opq) (l₀ := cd.mro) (fun A Q E s k q => wpAny_bind ((PySem.W.looks_clsIn X1 hcd) A _ E s k (wpAny_pure q))) rfl X1 hsup (J1.type.andThen (PySem.W.looks_subIn X1 T.isB)) (PySem.W.ks_ne X1 J1 hcd) (by decide) ?_
  have hmw : (h1.push (PySem.W.kxs_mw "LookupError.__init__" a)).get? h1.objs.size = some (PySem.W.kxs_mw "LookupError.__init__" a) := Heap.get?_push_at rfl rfl
  have k1' : ∀ b o, hh.get? b = some o → (h1.push (PySem.W.kxs_mw "LookupError.__init__" a)).get? b = some o := fun b o e => Heap.get?_push_of_some _ (k b o e)
  refine PySem.W.kxs_callWith (i := "LookupError.__init__") (x := a) rfl (PySem.Calls.evalArgs_plain (Calls.spliced_cons (wpAny_Constant_str (k := j) (pos := p3) (Calls.spliced_nil ⟨hmw, ?_⟩))))
  refine call_mw PySem.F.excBase_LookupError (k1' _ _ hC) (k1' _ _ ho) hmw (by rw [sizeLine_eq]; show 1 ≤ 16777216; omega) (fun h' t1 kk hx => ?_)
  have J2 := I.kept (h' := h1.push (PySem.W.kxs_mw "LookupError.__init__" a)) (t' := t + 1 + 1) k1'
  have J3 := J2.write (t' := t + 1 + 1) (x := a) (e := a) (o := exo a C none) (by rw [ea]; exact True.intro) (.inl rfl) kk ⟨_, hx⟩ (exo_ok hx)
  have eu : upd H a (exo a C none) = H := by
    funext b
    by_cases hb : b = a
    · rw [hb, upd_same, ea]
    · rw [upd_ne hb]
  rw [eu] at J3
  exact h _ _ J3
/-- the def, by what follows super().__init__(text) -/
theorem fn_exl {k : Nat} {ps : List Str} {sp : Sp} {x : Str} {j : Nat} {p0 p1 p2 p3 p4 pos : Pos} {rest : List Stmt} (T : ExiL P K C f cc F fd slf) (hmg : mg "super" = none) (S : NScope N ps ["__class__"] F.scope) (hps : ps[0]? = some slf)
    (hbd : F.body = .Expr (.Call (.Attribute (.Call (.Name "super" p0) [] [] p1) "__init__" p2) [.Constant (.str x) j p3] [] pos) p4 :: rest)
    (he : ∀ L, SupEq F f L (.Call (.Attribute (.Call (.Name "super" p0) [] [] p1) "__init__" p2) [.Constant (.str x) j p3] [] pos))
    (hi : ∀ L, interactive (envF F f L) = false) (hsw : ∀ L, swapsWith (.Call (.Attribute (.Call (.Name "super" p0) [] [] p1) "__init__" p2) [.Constant (.str x) j p3] [] pos) none p4.line (envF F f L) = pure false)
    (len : ∀ vs H Q E, sp vs H Q E → vs.length = ps.length)
    (hrest : ∀ (A : Around) (outer : List PySem.Env) (s : Shared) (H : Hp) (vs : List V) (Q : VK) (E : XK), Room k (A.deeper (envF F f s.heap.objs.size)) → sp vs H Q E →
      ∃ a t, vs[0]? = some (.ref a) ∧ H a = some (exo a C none) ∧ PSs (ncx CXa P w K mg base N F f A outer s H E) rest t ∧ t { nx := fun _ H' => Q .non H', rt := Q } (startF N vs [none]) H) :
    FnOk P w K mg base CXa (k + 1) f fd ps sp := by
  refine ⟨len, fun A outer s H args us vs Q E hr e0 hb r hsp => ?_⟩
  have hl := len _ _ _ _ hsp
  have KX : K.In s.heap := e0.mod.kin.keeps fun b o e => (e0.bs b o e).1
  have lim : s.heap.NoLimit := e0.mod.nolimit.keeps fun b o e => (e0.bs b o e).1
  obtain ⟨oc, od, osl, lkf⟩ := T.lkf
  obtain ⟨dV, kV, doc, pm, an, ct, hfd⟩ := T.fdX
  subst hfd
  obtain ⟨cl1, cld, csl, lcc⟩ := T.cell
  have hcl := T.cl
  have C1 : CellsAt F.cl ["__class__"] [none] s.heap H := by
    have one : ∀ y c, F.cl.lookup y = some c → y = "__class__" ∧ c = cc := fun y c z => by
      rw [hcl, List.lookup_cons] at z
      cases q : (y == ("__class__" : Str)) with
      | true => rw [q] at z; cases z; exact ⟨beq_iff_eq.mp q, rfl⟩
      | false => rw [q] at z; cases z
    refine ⟨rfl, fun y c z => ?_, fun y y' c z z' => ?_, fun i y z => ?_⟩
    · obtain ⟨rfl, rfl⟩ := one y c z
      exact ⟨(e0.bs _ _ (e0.mod.kin _ _ lcc)).2, _, _, KX _ _ lcc, rfl⟩
    · rw [(one y c z).1, (one y' c z').1]
    · match i, z with
      | 0, z =>
        cases z
        refine ⟨cc, by rw [hcl]; rfl, fun v q => by cases q⟩
      | i + 1, z => simp at z
  obtain ⟨a, t, ha0, ea, ht, hq⟩ := hrest A outer s H vs Q E (hr.deeper _) hsp
  refine PySem.ks_codeAny_call_defAt (binds := ps.zip us) (body := F.body) hr.depth (KX _ _ lkf) rfl lim (PySem.W.codeRec_of KX T.cdr) rfl hb S.nocell (fun ⟨n, _⟩ hy => S.par n (List.of_mem_zip hy).1) (fun h₁ hns kp => ?_) S.co S.gen S.kind
  show _root_.PySem.wpAt _ (A.deeper (envF F f s.heap.objs.size)) (.func F.body (envF F f s.heap.objs.size)) (execs F.body (envF F f s.heap.objs.size)) _ _ _
  have I : Inv (ncx CXa P w K mg base N F f A outer s H E) [] (startF N vs [none]) H { s with heap := h₁, toks := s.toks + (ps.zip us).length } := inv_startN S hr.hd e0 hl r C1 hns kp
  have hvl : 0 < vs.length := by
    cases vs with
    | nil => cases ha0
    | cons v r => exact Nat.succ_pos _
  have hN : N[0]? = some slf := by
    have q := S.pre
    have : (N.take (ps.length + 1))[0]? = (ps ++ [("__class__" : Str)])[0]? := by rw [← S.pre]; rfl
    rw [List.getElem?_take_of_lt (by omega), List.getElem?_append_left (by omega), hps] at this
    exact this
  have h0 : (startF N vs [none])[0]? = some (some (.ref a)) := by
    unfold startF
    rw [List.getElem?_append_left (by rw [List.length_map]; exact hvl), List.getElem?_map, ha0]
    rfl
  have fin : ∀ {σ' : L2.St} {H' : Hp} {v : V} {u : Value} {s' : Shared}, Inv (ncx CXa P w K mg base N F f A outer s H E) [] σ' H' s' → RelV v u → Q v H' → CE outer P w H s Q u s' :=
    fun {σ' H' v u s'} J rv q => ⟨v, H', J.os, J.bare, J.base, J.hok, rv, q⟩
  rw [hbd]
  refine PySem.ks_wpAt_execs_cons (PySem.ks_wpAt_Expr_any (sup_callL T hmg I S.kind hN h0 ea (fun u s' J => ?_) (he _)) (hi _) (hsw _))
  refine wpAt_of_wpAny (wpAny_mono (ht.run [] s' _ H _ J hq) (fun fl s2 hs => ?_) fun e s2 hs => hs)
  cases fl with
  | ret u =>
    obtain ⟨v, σ', H', J, rv, q⟩ := hs
    exact fin J rv q
  | next =>
    obtain ⟨σ', H', J, q⟩ := hs
    exact fin (v := V.non) (u := Value.none) J rfl q
  | brk =>
    obtain ⟨_, _, _, q⟩ := hs
    exact False.elim q
  | cont =>
    obtain ⟨_, _, _, q⟩ := hs
    exact False.elim q
end
section
variable {CXa : CXT} {P : Program} {w : World} {K : PySem.W.Frag} {mg : Str → Option Value} {base : Heap} {F : NF} {f C cc : Addr} {fd : FuncData} {slf v1 v2 f1 f2 x : Str} {j : Nat} {p0 p1 p2 p3 p4 pos q1 q2 q3 q4 r1 r2 r3 r4 : Pos}
theorem exl2 (T : ExiL P K C f cc F fd slf) (hmg : mg "super" = none) (S : NScope [slf, v1, v2, "__class__"] [slf, v1, v2] ["__class__"] F.scope)
    (hbd : F.body = [.Expr (.Call (.Attribute (.Call (.Name "super" p0) [] [] p1) "__init__" p2) [.Constant (.str x) j p3] [] pos) p4, .Assign [.Attribute (.Name slf q1) f1 q2] (.Name v1 q3) q4, .Assign [.Attribute (.Name slf r1) f2 r2] (.Name v2 r3) r4])
    (he : ∀ L, SupEq F f L (.Call (.Attribute (.Call (.Name "super" p0) [] [] p1) "__init__" p2) [.Constant (.str x) j p3] [] pos))
    (hsw : ∀ L, swapsWith (.Call (.Attribute (.Call (.Name "super" p0) [] [] p1) "__init__" p2) [.Constant (.str x) j p3] [] pos) none p4.line (envF F f L) = pure false)
    (hs1 : ∀ L, swapsWith (.Name v1 q3) (some (.Attribute (.Name slf q1) f1 q2)) q4.line (envF F f L) = pure false) (hs2 : ∀ L, swapsWith (.Name v2 r3) (some (.Attribute (.Name slf r1) f2 r2)) r4.line (envF F f L) = pure false)
    (hno : PySem.W.findIn K (.ref C) f1 = some none) (hno2 : PySem.W.findIn K (.ref C) f2 = some none) (hi : ∀ L, interactive (envF F f L) = false := by intro _; rfl)
    (n1 : (slf == ("__debug__" : Str)) = false := by decide) (n2 : (slf == ("__classdict__" : Str)) = false := by decide) (n3 : (v1 == ("__debug__" : Str)) = false := by decide) (n4 : (v1 == ("__classdict__" : Str)) = false := by decide)
    (n5 : (v2 == ("__debug__" : Str)) = false := by decide) (n6 : (v2 == ("__classdict__" : Str)) = false := by decide) :
    FnOk P w K mg base CXa 1 f fd [slf, v1, v2] (spX C [f1, f2]) := by
  refine fn_exl (k := 0) T hmg S rfl hbd he hi hsw (fun vs H Q E ⟨a, ys, e, l, _⟩ => by rw [e, List.length_cons, l]; rfl) fun A outer s H vs Q E hr ⟨a, ys, e, l, ea, q⟩ => ?_
  subst e
  match ys, l with
  | [y, z], _ =>
    have m1 : Vis F.scope slf := .inl (S.par _ List.mem_cons_self)
    refine ⟨a, _, rfl, ea, pss_cons (ps_osL (pe_var (i := 0) rfl m1 n1 n2) (pe_var (i := 1) rfl (.inl (S.par _ (List.mem_cons_of_mem _ List.mem_cons_self))) n3 n4) (hs1 _))
      (pss_cons (ps_osL (pe_var (i := 0) rfl m1 n1 n2) (pe_var (i := 2) rfl (.inl (S.par _ (List.mem_cons_of_mem _ (List.mem_cons_of_mem _ List.mem_cons_self)))) n5 n6) (hs2 _)) pss_nil), ?_⟩
    refine ⟨y, rfl, .ref a, rfl, a, C, rfl, T.T, hno, .inl ⟨ea, fun dx nd da => ⟨z, rfl, .ref a, rfl, a, C, rfl, T.T, hno2, .inr ⟨dx, [(f1, y)], upd_same, by rw [upd_ne da, upd_same], by simp, ?_⟩⟩⟩⟩
    have e : upd (upd (upd H dx (exd dx [(f1, y)])) a (exo a C (some dx))) dx (exd dx [(f2, z), (f1, y)]) = upd (upd H dx (exd dx ([f1, f2].zip [y, z]).reverse)) a (exo a C (some dx)) := by
      funext b
      by_cases hb : b = dx
      · rw [hb, upd_same, upd_ne da, upd_same]; rfl
      · rw [upd_ne hb]
        by_cases hba : b = a
        · rw [hba, upd_same, upd_same]
        · rw [upd_ne hba, upd_ne hba, upd_ne hb, upd_ne hb]
    show Q .non (upd (upd (upd H dx (exd dx [(f1, y)])) a (exo a C (some dx))) dx (exd dx [(f2, z), (f1, y)]))
    rw [e]
    exact q dx nd da
end
/-- the class x makes exceptions with the fields fs of its arguments -/
def ExL (P : Program) (mg : Str → Option Value) (base : Heap) (g : Gm) (x : Str) (fs : List Str) (j : Nat) : Prop :=
  ∃ f fd ps, mg x = some (.ref (g.ca x)) ∧ OexL g.K (g.ca x) ∧ PySem.W.findIn g.K (.ref (g.ca x)) "__init__" = some (some (.ref f)) ∧ PySem.W.typeIn g.K (.ref f) = some (.type "function") ∧
    FnOk P g.w g.K mg base (L2.CX P g.w) j f fd ps (spX (g.ca x) fs) ∧ Binds g.K fd ps []
section
variable {g : Gm} {W : WX} {k : Nat} {X : Cx} {G : Hp}
theorem vs_raiseL {x : Str} {fs : List Str} {j : Nat} {ex : Expr} {es : List Expr} {A : M (List Rv)} {p pos pos2 : Pos} (d : ExL X.prog X.mg X.base g x fs j) (hj : j + 1 ≤ k) (hg : Gl X x) (ha : VA g W k X (ex :: es) A)
    (hdb : (x == ("__debug__" : Str)) = false := by decide) (he : starEach (ex :: es) X.env = (false, eval ex X.env) :: starEach es X.env := by rfl) (hpl : (backTo pos (starEach es X.env)).any (·.1) = false := by rfl) :
    VS g W k X (.Raise (some (.Call (.Name x p) (ex :: es) [] pos)) none pos2) (fRaise x fs A) := by
  refine ⟨fun c => ?_⟩
  obtain ⟨f, fd, ps, hm, T, iC, tI, F1, hb⟩ := d
  obtain ⟨gK, gw, ca, gT, gs, gn⟩ := g
  obtain rfl : X.K = gK := c.K
  obtain rfl : X.w = gw := c.w
  have mono : ∀ {σ H} {Q Q' : List V → Hp → Prop}, (∀ vs H1, Q' vs H1 → Q vs H1) → TVA ⟨X.K, X.w, ca, gT, gs, gn⟩ W A σ H Q' → TVA ⟨X.K, X.w, ca, gT, gs, gn⟩ W A σ H Q := fun {σ H Q Q'} k ⟨G, e, sr, h⟩ => ⟨G, e, sr, Pst.mono h fun a G' H' e' _ z vs ok => k vs H' (z vs ok)⟩
  refine PS.imp (ps_raise c.calm c.tk (tMkX_O (ta := TVA ⟨X.K, X.w, ca, gT, gs, gn⟩ W A) mono (pmk_lk T iC tI F1 ((c.room.mono hj).toRoom) hb (passes_call c.tk fun _ _ _ _ z => z.elim) hg hm (ha.run c) hdb he hpl))) fun D σ H ⟨G, e, sr, h⟩ => ?_
  refine ⟨G, e, sr, Pst.mono (PstS.bindE h) fun rs G1 H1 e1 t1 h1 vs ok => ?_⟩
  cases q : valsOf rs with
  | none => rw [q] at h1; exact h1.elim
  | some ds =>
    rw [q] at h1
    by_cases hl : ds.length = fs.length ∧ ds.length ≤ 1000
    · simp only [if_pos hl] at h1
      have rp := valsOf_ok ok q
      refine ⟨by rw [rp.len]; exact hl.1, by rw [rp.len]; exact hl.2, fun d nd => ?_⟩
      have gr := Grow.lay2 (o := HO.xd (fs.zip vs).reverse) t1.sr.bs nd (fun _ _ z => nomatch z)
      refine h1 _ _ σ _ _ (gr.tr t1.sr).st ⟨rfl, .inr ⟨d, _, rfl, upd_same, ?_⟩⟩
      exact (Reps.zip (rp.mono gr.le)).rev
    · simp only [if_neg hl] at h1
      exact h1.elim
end
end Vs

set_option maxRecDepth 100000
set_option maxHeartbeats 4000000
namespace Vs
open PySem PySem.Spec PyProof.Rows L2 Fw SX He NdefX
theorem xn_okL {P : Program} {K : PySem.W.Frag} {d : XnD} {slf : Str} (c : exLB P.main.file d.x K = true) (e : xnW K d.x = d.val)
    (hp : ∃ ar : Arg, (d.params.posonlyargs ++ d.params.args).head? = some ar ∧ ar.arg = slf) (ks : d.scope.names.lookup ("super" : Str) = some .globalImplicit) (kc : d.scope.names.lookup ("__class__" : Str) = some .free) (ka : d.scope.names.lookup slf = some .local) (top : (P.main.scope.names.lookup ("super" : Str)).isSome = false) :
    ∃ (F : NF) (cc : Addr) (fd : FuncData) (kV doc pm : Value) (an : Option Addr) (ct : Value), fd = PySem.W.fnX "__init__" d.qual d.params d.body d.scope [("__class__", cc)] .none kV doc pm an (.ref F.c) ct ∧ F = ⟨"__init__", d.qual, d.params, d.body, d.scope, [("__class__", cc)], F.c⟩ ∧ ExiL P K (ga K d.x) (ma K (ga K d.x) "__init__") cc F fd slf ∧
      PySem.W.findIn K (.ref (ga K d.x)) "__init__" = some (some (.ref (ma K (ga K d.x) "__init__"))) ∧ PySem.W.typeIn K (.ref (ma K (ga K d.x) "__init__")) = some (.type "function") := by
  unfold exLB at c
  obtain ⟨c1, c⟩ := ba c
  obtain ⟨c2, c⟩ := ba c
  obtain ⟨c3, c⟩ := ba c
  obtain ⟨c4, c⟩ := ba c
  obtain ⟨c5, c⟩ := ba c
  obtain ⟨c6, c⟩ := ba c
  obtain ⟨c7, c⟩ := ba c
  obtain ⟨c8, c⟩ := ba c
  obtain ⟨c9, c⟩ := ba c
  obtain ⟨c10, c⟩ := ba c
  obtain ⟨c11, c⟩ := ba c
  obtain ⟨c12, c13⟩ := ba c
  unfold initB at c2
  unfold xnW at e
  cases q : K.lookup (ma K (ga K d.x) "__init__") with
  | none => rw [q] at c2; cases c2
  | some o =>
    obtain ⟨oc, od, dt, osl⟩ := o
    rw [q] at c2 e
    cases dt with
    | func fd =>
      obtain ⟨f1, f2, f3, f4, f5, f6, f7, f8, f9, f10, f11, f12, f13, f14, f15⟩ := fd
      simp only at c2 e
      have e := Option.some.inj e
      simp only [Prod.mk.injEq] at e
      obtain ⟨rfl, rfl, rfl, rfl, rfl, rfl, e7, rfl⟩ := e
      match f7, f13, f8, c2, e7 with
      | [(y, cc)], .ref c, .none, c2, e7 =>
        simp only [List.map_cons, List.map_nil, List.cons.injEq, and_true] at e7
        subst e7
        simp only at c2
        obtain ⟨d1, c2⟩ := ba c2
        obtain ⟨d2, d3⟩ := ba c2
        have cell : ∃ cl cld csl, K.lookup cc = some ⟨cl, cld, .cell (some (.ref (ga K d.x))), csl⟩ := by
          split at d2
          · rename_i a1 a2 a3 a4 h
            rw [of_decide_eq_true d2] at h
            exact ⟨_, _, _, h⟩
          · cases d2
        have code : ∃ ccl cdd vs ccs file tf, K.lookup c = some ⟨ccl, cdd, .fields vs, ccs⟩ ∧ vs[2]? = some (.str file tf) ∧ ((P.main.file : Str) == file) = true := by
          split at d3
          · rename_i a1 a2 a3 a4 h
            split at d3
            · rename_i fl tf h2
              exact ⟨_, _, _, _, _, _, h, h2, d3⟩
            · cases d3
          · cases d3
        refine ⟨⟨"__init__", d.qual, d.params, d.body, d.scope, [("__class__", cc)], c⟩, cc, _, _, _, _, _, _, rfl, rfl, ⟨⟨(ba c1).1, (ba (ba c1).2).1, (ba (ba c1).2).2, eqO_ok c3, of_decide_eq_true c4, of_decide_eq_true c5, c6⟩, rfl, ⟨_, _, _, q⟩, ⟨_, _, _, _, _, _, rfl⟩, hp, code, d1, cell, c7, of_decide_eq_true c8, ks, kc, ka, top, eqO_ok c9, eqO_ok c10, of_decide_eq_true c11⟩, eqO_ok c12, of_decide_eq_true c13⟩
    | _ => cases c2
abbrev nfXL (d : XnD) (cc c : Addr) : NF := nfX d cc c
section
variable {P : Program} {w : World} {K : PySem.W.Frag} {mg : Str → Option Value} {base : Heap} {Tb : LT} {sa : Addr} {sn : List Int} {d : XnD} {slf v1 v2 f1 f2 x : Str} {j : Nat} {p0 p1 p2 p3 p4 pos q1 q2 q3 q4 r1 r2 r3 r4 : Pos}
theorem xn2L (c : exLB P.main.file d.x K = true) (e : xnW K d.x = d.val) (hm : mg d.x = some (.ref (ga K d.x))) (hmg : mg "super" = none) (hno : PySem.W.findIn K (.ref (ga K d.x)) f1 = some none) (hno2 : PySem.W.findIn K (.ref (ga K d.x)) f2 = some none)
    (hbd : d.body = [.Expr (.Call (.Attribute (.Call (.Name "super" p0) [] [] p1) "__init__" p2) [.Constant (.str x) j p3] [] pos) p4, .Assign [.Attribute (.Name slf q1) f1 q2] (.Name v1 q3) q4, .Assign [.Attribute (.Name slf r1) f2 r2] (.Name v2 r3) r4])
    (hp : ∃ ar : Arg, (d.params.posonlyargs ++ d.params.args).head? = some ar ∧ ar.arg = slf) (ks : d.scope.names.lookup ("super" : Str) = some .globalImplicit) (kc : d.scope.names.lookup ("__class__" : Str) = some .free) (ka : d.scope.names.lookup slf = some .local) (top : (P.main.scope.names.lookup ("super" : Str)).isSome = false)
    (S : NScope [slf, v1, v2, "__class__"] [slf, v1, v2] ["__class__"] d.scope)
    (he : ∀ cc c f L, SupEq (nfX d cc c) f L (.Call (.Attribute (.Call (.Name "super" p0) [] [] p1) "__init__" p2) [.Constant (.str x) j p3] [] pos))
    (hsw : ∀ cc c f L, swapsWith (.Call (.Attribute (.Call (.Name "super" p0) [] [] p1) "__init__" p2) [.Constant (.str x) j p3] [] pos) none p4.line (envF (nfX d cc c) f L) = pure false)
    (hs1 : ∀ cc c f L, swapsWith (.Name v1 q3) (some (.Attribute (.Name slf q1) f1 q2)) q4.line (envF (nfX d cc c) f L) = pure false)
    (hs2 : ∀ cc c f L, swapsWith (.Name v2 r3) (some (.Attribute (.Name slf r1) f2 r2)) r4.line (envF (nfX d cc c) f L) = pure false)
    (hi : ∀ cc c f L, interactive (envF (nfX d cc c) f L) = false)
    (hb : ∀ cc kV doc pm an cdv ct us, us.length = 3 → bindArgs (PySem.W.fnX "__init__" d.qual d.params d.body d.scope [("__class__", cc)] .none kV doc pm an cdv ct) ⟨us, []⟩ = pure ([slf, v1, v2].zip us))
    (n1 : (slf == ("__debug__" : Str)) = false := by decide) (n2 : (slf == ("__classdict__" : Str)) = false := by decide) (n3 : (v1 == ("__debug__" : Str)) = false := by decide) (n4 : (v1 == ("__classdict__" : Str)) = false := by decide)
    (n5 : (v2 == ("__debug__" : Str)) = false := by decide) (n6 : (v2 == ("__classdict__" : Str)) = false := by decide) :
    ExL P mg base ⟨K, w, He.ga K, Tb, sa, sn⟩ d.x [f1, f2] 1 := by
  obtain ⟨F, cc, fd, kV, doc, pm, an, ct, efd, eF, T, iC, tI⟩ := xn_okL c e hp ks kc ka top
  obtain ⟨F1, F2, F3, F4, F5, F6, cF⟩ := F
  simp only [NF.mk.injEq, and_true] at eF
  obtain ⟨rfl, rfl, rfl, rfl, rfl, rfl⟩ := eF
  subst efd
  exact ⟨_, _, _, hm, T.T, iC, tI, exl2 T hmg S hbd (he cc cF _) (hsw cc cF _) (hs1 cc cF _) (hs2 cc cF _) hno hno2 (hi cc cF _) n1 n2 n3 n4 n5 n6, Binds.all fun us hl => hb cc kV doc pm an _ ct us hl⟩
end
end Vs

set_option maxRecDepth 100000
set_option maxHeartbeats 2000000
namespace Vs
open PySem PySem.Spec PyProof.Rows L2 Fw SX
def Res.bnd {α β : Type} (r : Res α) (k : α → Ve → Res β) : Res β := match r with
  | .ok a e => k a e
  | .er x e => .er x e
  | .no => .no
def obn {α β : Type} (o : Option α) (k : α → Res β) : Res β := match o with
  | some a => k a
  | none => .no
def ifb {β : Type} (b : Bool) (x y : Res β) : Res β := match b with
  | true => x
  | false => y
section
variable {α β : Type}
class Kn (α β : Type) where
  k : α → Ve → Res β
class Ko (α β : Type) where
  k : α → Res β
class Kx (β : Type) where
  r : Res β
def Res.bndI (r : Res α) [K : Kn α β] : Res β := r.bnd K.k
def obnI (o : Option α) [K : Ko α β] : Res β := obn o K.k
def ifbI (b : Bool) [X : Kx β] [Y : Kx β] : Res β := ifb b X.r Y.r
theorem bnd_i {r : Res α} {k : α → Ve → Res β} : r.bnd k = @Res.bndI α β r ⟨k⟩ := rfl
theorem obn_i {o : Option α} {k : α → Res β} : obn o k = @obnI α β o ⟨k⟩ := rfl
theorem ifb_i {b : Bool} {x y : Res β} : ifb b x y = @ifbI β b ⟨x⟩ ⟨y⟩ := rfl
theorem bnd_ok {a : α} {e : Ve} {k : α → Ve → Res β} : @Res.bndI α β (.ok a e) ⟨k⟩ = k a e := rfl
theorem bnd_er {x : Exn} {e : Ve} {k : α → Ve → Res β} : @Res.bndI α β (.er x e) ⟨k⟩ = .er x e := rfl
theorem bnd_no {k : α → Ve → Res β} : @Res.bndI α β .no ⟨k⟩ = .no := rfl
theorem obn_some {a : α} {k : α → Res β} : @obnI α β (some a) ⟨k⟩ = k a := rfl
theorem ifb_true {x y : Res β} : @ifbI β true ⟨x⟩ ⟨y⟩ = x := rfl
theorem ifb_false {x y : Res β} : @ifbI β false ⟨x⟩ ⟨y⟩ = y := rfl
theorem ite_ifb {c : Prop} [Decidable c] {x y : Res β} : (if c then x else y) = ifb (decide c) x y := by
  by_cases z : c
  · rw [decide_eq_true z, if_pos z]; rfl
  · rw [decide_eq_false z, if_neg z]; rfl
theorem bind_e {f : M α} {k : α → M β} {e : Ve} : M.bind f k e = (f e).bnd fun a => k a := rfl
theorem ret_e {a : α} {e : Ve} : M.ret a e = .ok a e := rfl
theorem map_e {f : M α} {k : α → β} {e : Ve} : M.map f k e = (f e).bnd fun a e1 => .ok (k a) e1 := rfl
end
section
variable {A B C : M Rv} {e : Ve} {d : D} {i : Nat}
theorem fC_e : fC d e = .ok (.val d) e := rfl
theorem frz_val : frzRv (.val d) e = .ok d e := rfl
theorem frz_fresh : frzRv (.fresh d) e = .ok d e := rfl
theorem deref_val : deref (.val d) e = some d := rfl
theorem deref_fresh : deref (.fresh d) e = some d := rfl
theorem fFrz_e : fFrz A e = (A e).bnd fun r e1 => (frzRv r e1).bnd fun d e2 => .ok (.val d) e2 := rfl
theorem fOp_e {f : D → D → Option Rv} : fOp f A B e = (A e).bnd fun a e1 => (B e1).bnd fun b e2 => obn (deref a e2) fun x => obn (deref b e2) fun y => obn (f x y) fun r => .ok r e2 := by
  unfold fOp M.bind Res.bnd
  cases A e with
  | no => rfl
  | er x e1 => rfl
  | ok a e1 =>
    simp only
    cases B e1 with
    | no => rfl
    | er x e2 => rfl
    | ok b e2 =>
      simp only
      cases deref a e2 with
      | none => rfl
      | some x =>
        cases deref b e2 with
        | none => rfl
        | some y =>
          show (match f x y with | some r => Res.ok r e2 | none => .no) = obn (f x y) _
          cases f x y <;> rfl
def tstR : Rv → Ve → Res Bool
  | .val (.bl b), e => .ok b e
  | _, _ => .no
theorem fTest_e : fTest A e = (A e).bnd tstR := by
  unfold fTest M.bind Res.bnd
  cases A e with
  | no => rfl
  | er x e1 => rfl
  | ok a e1 => cases a with
    | val d => cases d <;> rfl
    | _ => rfl
theorem tst_bl {b : Bool} : tstR (.val (.bl b)) e = .ok b e := rfl
theorem fNil_e : fNil e = .ok [] e := rfl
theorem fCons_e {L : M (List Rv)} : fCons A L e = (A e).bnd fun a e1 => (L e1).bnd fun bs e2 => .ok (a :: bs) e2 := rfl
theorem fApp_e {f : List D → Option Rv} {L : M (List Rv)} : fApp f L e = (L e).bnd fun rs e1 => obn (derefs rs e1) fun ds => obn (f ds) fun r => .ok r e1 := by
  unfold fApp M.bind Res.bnd
  cases L e with
  | no => rfl
  | er x e1 => rfl
  | ok rs e1 =>
    simp only
    cases derefs rs e1 with
    | none => rfl
    | some ds =>
      show (match f ds with | some r => Res.ok r e1 | none => .no) = obn (f ds) _
      cases f ds <;> rfl
theorem derefs_nil : derefs [] e = some [] := rfl
theorem derefs_val {rs : List Rv} : derefs (.val d :: rs) e = (derefs rs e).map (d :: ·) := by
  show (match some d, derefs rs e with | some d, some ds => some (d :: ds) | _, _ => none) = _
  cases derefs rs e <;> rfl
theorem derefs_fresh {rs : List Rv} : derefs (.fresh d :: rs) e = (derefs rs e).map (d :: ·) := by
  show (match some d, derefs rs e with | some d, some ds => some (d :: ds) | _, _ => none) = _
  cases derefs rs e <;> rfl
theorem derefs_slot {rs : List Rv} : derefs (.slot i :: rs) e = (deref (.slot i) e).bind fun d => (derefs rs e).map (d :: ·) := by
  show (match deref (.slot i) e, derefs rs e with | some d, some ds => some (d :: ds) | _, _ => none) = _
  cases deref (.slot i) e <;> cases derefs rs e <;> rfl
theorem fLst_e {L : M (List Rv)} : fLst L e = (L e).bnd fun rs e1 => obn (valsOf rs) fun ds => ifb (decide (ds.length ≤ sizeLine)) (.ok (.fresh (.lst ds)) e1) .no := by
  unfold fLst M.bind Res.bnd
  cases L e with
  | no => rfl
  | er x e1 => rfl
  | ok rs e1 =>
    simp only
    cases valsOf rs with
    | none => rfl
    | some ds => exact ite_ifb
theorem fTup_e {L : M (List Rv)} : fTup L e = (L e).bnd fun rs e1 => obn (valsOf rs) fun ds => ifb (decide (ds.length ≤ sizeLine)) (.ok (.val (.tup ds)) e1) .no := by
  unfold fTup M.bind Res.bnd
  cases L e with
  | no => rfl
  | er x e1 => rfl
  | ok rs e1 =>
    simp only
    cases valsOf rs with
    | none => rfl
    | some ds => exact ite_ifb
theorem fNot_e {T : M Bool} : fNot T e = (T e).bnd fun b e1 => .ok (!b) e1 := rfl
theorem fAnd_e {S T : M Bool} : fAnd S T e = (S e).bnd fun b e1 => ifb b (T e1) (.ok false e1) := by
  unfold fAnd M.bind Res.bnd
  cases S e with
  | no => rfl
  | er x e1 => rfl
  | ok b e1 => cases b <;> rfl
theorem fOr_e {S T : M Bool} : fOr S T e = (S e).bnd fun b e1 => ifb b (.ok true e1) (T e1) := by
  unfold fOr M.bind Res.bnd
  cases S e with
  | no => rfl
  | er x e1 => rfl
  | ok b e1 => cases b <;> rfl
theorem fIfE_e {α : Type} {T : M Bool} {X Y : M α} : fIfE T X Y e = (T e).bnd fun b e1 => ifb b (X e1) (Y e1) := by
  unfold fIfE M.bind Res.bnd
  cases T e with
  | no => rfl
  | er x e1 => rfl
  | ok b e1 => cases b <;> rfl
theorem fTru_e : fTru A e = (A e).bnd fun r e1 => obn (deref r e1) fun d => obn (truD d) fun b => .ok b e1 := by
  unfold fTru M.bind Res.bnd
  cases A e with
  | no => rfl
  | er x e1 => rfl
  | ok r e1 =>
    simp only
    cases deref r e1 with
    | none => rfl
    | some d =>
      show (match truD d with | some b => Res.ok b e1 | none => .no) = obn (truD d) _
      cases truD d <;> rfl
def seqR (B : M Ctl) : Ctl → Ve → Res Ctl
  | .nx, e => B e
  | c, e => .ok c e
theorem seq_nx {B : M Ctl} : seqR B .nx e = B e := rfl
theorem seq_rt {B : M Ctl} {r : Rv} : seqR B (.rt r) e = .ok (.rt r) e := rfl
theorem fSeq_e {X Y : M Ctl} : fSeq X Y e = (X e).bnd (seqR Y) := by
  unfold fSeq M.bind Res.bnd
  cases X e with
  | no => rfl
  | er x e1 => rfl
  | ok c e1 => cases c <;> rfl
theorem fNx_e : fNx e = .ok .nx e := rfl
theorem fExp_e : fExp A e = (A e).bnd fun _ e1 => .ok .nx e1 := rfl
theorem fRet_e : fRet A e = (A e).bnd fun r e1 => .ok (.rt r) e1 := rfl
theorem fRetN_e : fRetN e = .ok (.rt (.val .non)) e := rfl
theorem fSet_e : fSet i A e = (A e).bnd fun r e1 => stoRv i r e1 := rfl
theorem sto_val : stoRv i (.val d) e = ifb (canSto e i) (.ok .nx (e.set i (.sh d))) .no := by
  show (if canSto e i = true then Res.ok Ctl.nx (e.set i (.sh d)) else .no) = _
  cases canSto e i <;> rfl
theorem sto_fresh : stoRv i (.fresh d) e = ifb (canSto e i) (.ok .nx (e.set i (.ow d))) .no := by
  show (if canSto e i = true then Res.ok Ctl.nx (e.set i (.ow d)) else .no) = _
  cases canSto e i <;> rfl
theorem sto_slot {j : Nat} : stoRv i (.slot j) e = (frzRv (.slot j) e).bnd fun d e1 => ifb (canSto e1 i) (.ok .nx (e1.set i (.sh d))) .no := by
  show M.bind (frzRv (.slot j)) _ e = _
  unfold M.bind Res.bnd
  cases frzRv (.slot j) e with
  | no => rfl
  | er x e1 => rfl
  | ok d e1 =>
    show (if canSto e1 i = true then Res.ok Ctl.nx (e1.set i (.sh d)) else .no) = ifb (canSto e1 i) (Res.ok Ctl.nx (e1.set i (.sh d))) .no
    cases canSto e1 i <;> rfl
theorem stoD_e : stoD i d e = ifb (canSto e i) (.ok () (e.set i (.sh d))) .no := by
  show (if canSto e i = true then Res.ok () (e.set i (.sh d)) else .no) = _
  cases canSto e i <;> rfl
theorem fCall_e {f : List Sl → Res Rv} {L : M (List Rv)} : fCall f L e = (L e).bnd fun rs e1 => callB f rs e1 := rfl
theorem callB_e {f : List Sl → Res Rv} {rs : List Rv} : callB f rs e = ifb (onceSl rs) (obn (argsOf rs e) fun as => match f as with
  | .ok r as' => .ok r (backE rs as' e)
  | .er x as' => .er x (backE rs as' e)
  | .no => .no) .no := by
  unfold callB
  cases onceSl rs with
  | false => rfl
  | true =>
    rw [if_pos rfl]
    cases argsOf rs e <;> rfl

def partR : Rv → Ve → Res (Option Int)
  | .val (.int i), e => .ok (some i) e
  | _, _ => .no
theorem part_int {j : Int} : partR (.val (.int j)) e = .ok (some j) e := rfl
theorem fPart_e : fPart A e = (A e).bnd partR := by
  unfold fPart M.bind Res.bnd
  cases A e with
  | no => rfl
  | er x e1 => rfl
  | ok a e1 => cases a with
    | val d => cases d <;> rfl
    | _ => rfl
theorem fSl_e {L U : M (Option Int)} : fSl A L U e = (A e).bnd fun a e1 => (L e1).bnd fun lo e2 => (U e2).bnd fun hi e3 => obn (deref a e3) fun d => obn (cutD d lo hi) fun r => .ok r e3 := by
  unfold fSl M.bind Res.bnd
  cases A e with
  | no => rfl
  | er x e1 => rfl
  | ok a e1 =>
    simp only
    cases L e1 with
    | no => rfl
    | er x e1 => rfl
    | ok lo e2 =>
      simp only
      cases U e2 with
      | no => rfl
      | er x e1 => rfl
      | ok hi e3 =>
        simp only
        cases deref a e3 with
        | none => rfl
        | some d =>
          show (match cutD d lo hi with | some r => Res.ok r e3 | none => .no) = obn (cutD d lo hi) _
          cases cutD d lo hi <;> rfl
def itemR : Rv → Ve → Res (List D)
  | .val d, e => obn (itemsD d) fun ds => .ok ds e
  | _, _ => .no
theorem item_val : itemR (.val d) e = obn (itemsD d) fun ds => .ok ds e := rfl
theorem fItems_e : fItems A e = (fFrz A e).bnd itemR := by
  unfold fItems M.bind Res.bnd
  cases fFrz A e with
  | no => rfl
  | er x e1 => rfl
  | ok a e1 => cases a with
    | val d =>
      show (match itemsD d with | some ds => Res.ok ds e1 | none => .no) = obn (itemsD d) _
      cases itemsD d <;> rfl
    | _ => rfl
def rngR : Rv → Ve → Res (List D)
  | .val (.int j), e => ifb (decide (-(2 ^ 62) ≤ j ∧ j < 2 ^ 62)) (.ok (rngD 0 j.toNat) e) .no
  | _, _ => .no
theorem rng_int {j : Int} : rngR (.val (.int j)) e = ifb (decide (-(2 ^ 62) ≤ j ∧ j < 2 ^ 62)) (.ok (rngD 0 j.toNat) e) .no := rfl
theorem fRng1_e : fRng1 A e = (A e).bnd rngR := by
  unfold fRng1 M.bind Res.bnd
  cases A e with
  | no => rfl
  | er x e1 => rfl
  | ok a e1 => cases a with
    | val d => cases d <;> first | rfl | exact ite_ifb
    | _ => rfl
def enumR : Rv → Ve → Res (List D)
  | .val (.lst ds), e => .ok (enumD 0 ds) e
  | .val (.str l), e => .ok (enumD 0 (l.map fun c => .str [c])) e
  | _, _ => .no
theorem fEnum_e : fEnum A e = (fFrz A e).bnd enumR := by
  unfold fEnum M.bind Res.bnd
  cases fFrz A e with
  | no => rfl
  | er x e1 => rfl
  | ok a e1 => cases a with
    | val d => cases d <;> rfl
    | _ => rfl
theorem enum_lst {ds : List D} : enumR (.val (.lst ds)) e = .ok (enumD 0 ds) e := rfl
theorem fFor_e {S : M (List D)} {F : D → M Unit} {X : M Ctl} : fFor S F X e = (S e).bnd fun ds e1 => forL F X ds e1 := rfl
def forR (k : M Ctl) : Ctl → Ve → Res Ctl
  | .nx, e => k e
  | .ct, e => k e
  | .bk, e => .ok .nx e
  | .rt v, e => .ok (.rt v) e
theorem forL_cons {F : D → M Unit} {X : M Ctl} {r : List D} : forL F X (d :: r) e = (F d e).bnd fun _ e1 => (X e1).bnd (forR (forL F X r)) := by
  show M.bind (F d) _ e = _
  unfold M.bind Res.bnd
  cases F d e with
  | no => rfl
  | er x e1 => rfl
  | ok u e1 =>
    simp only
    cases X e1 with
    | no => rfl
    | er x e2 => rfl
    | ok c e2 => cases c <;> rfl
theorem for_nx {k : M Ctl} : forR k .nx e = k e := rfl
theorem for_rt {k : M Ctl} {v : Rv} : forR k (.rt v) e = .ok (.rt v) e := rfl
theorem fFld_e {f : Str} : fFld f A e = (A e).bnd fun r e1 => obn (deref r e1) fun d => obn (match d with | .ins _ fs => fs.lookup f | _ => none) fun x => .ok (.val x) e1 := by
  unfold fFld M.bind Res.bnd
  cases A e with
  | no => rfl
  | er x e1 => rfl
  | ok r e1 =>
    simp only
    cases deref r e1 with
    | none => rfl
    | some d =>
      cases d <;> try rfl
      rename_i c fs
      show (match fs.lookup f with | some d => Res.ok (Rv.val d) e1 | none => .no) = obn (fs.lookup f) _
      cases fs.lookup f <;> rfl
theorem fMth_e {T : String} {f : D → List D → Option Rv} {L : M (List Rv)} : fMth T f A L e = (A e).bnd fun o e0 => obn (deref o e0) fun d0 => ifb (tyD T d0) ((L e0).bnd fun rs e1 => obn (deref o e1) fun d => obn (derefs rs e1) fun ds => obn (f d ds) fun r => .ok r e1) .no := by
  unfold fMth M.bind Res.bnd
  cases A e with
  | no => rfl
  | er x e1 => rfl
  | ok o e0 =>
    simp only
    cases deref o e0 with
    | none => rfl
    | some d0 =>
      simp only
      show _ = ifb (tyD T d0) _ _
      cases tyD T d0 with
      | false => rfl
      | true =>
        rw [if_pos rfl]
        show _ = Res.bnd (L e0) _
        cases L e0 with
        | no => rfl
        | er x e1 => rfl
        | ok rs e1 =>
          simp only
          show _ = obn (deref o e1) fun d => obn (derefs rs e1) fun ds => obn (f d ds) fun r => Res.ok r e1
          cases deref o e1 with
          | none => rfl
          | some d =>
            cases derefs rs e1 with
            | none => rfl
            | some ds =>
              show (match f d ds with | some r => Res.ok r e1 | none => .no) = obn (f d ds) _
              cases f d ds <;> rfl
/-- a def's end -/
def endR (args : List Sl) : Res Ctl → Res Rv
  | .ok .nx e' => .ok (.val .non) (backV args e')
  | .ok (.rt r) e' => (match retRv r e' with
    | .ok r' e2 => .ok r' (backV args e2)
    | _ => .no)
  | .er x e' => .er x (backV args e')
  | _ => .no
theorem fnF_e {np n : Nat} {X : M Ctl} {as : List Sl} (h : as.length = np) : fnF np n X as = endR as (X (as ++ List.replicate (n - as.length) .un)) := by
  unfold fnF
  rw [if_pos h]
  generalize X _ = r
  cases r with
  | no => rfl
  | er x e' => rfl
  | ok c e' => cases c <;> rfl
theorem end_nx {as : List Sl} : endR as (.ok .nx e) = .ok (.val .non) (backV as e) := rfl
theorem end_val {as : List Sl} : endR as (.ok (.rt (.val d)) e) = .ok (.val d) (backV as e) := rfl
theorem end_fresh {as : List Sl} : endR as (.ok (.rt (.fresh d)) e) = .ok (.fresh d) (backV as e) := rfl
theorem fMake_e {c : Str} {f : List Sl → Res Rv} {L : M (List Rv)} : fMake c f L e = (L e).bnd fun rs e1 => makeB c f rs e1 := rfl

theorem fSetAt_e {f : D → D → D → Option D} {Ix V : M Rv} : fSetAt f i Ix V e = (fFrz V e).bnd fun v e0 => obn ((e0[i]?).bind ownD) fun _ => (fFrz Ix e0).bnd fun ix e1 => match v, ix, e1[i]? with
    | .val v, .val ix, some s => obn (ownD s) fun d => obn (f d ix v) fun d' => .ok .nx (e1.set i (reSl s d'))
    | _, _, _ => .no := by
  unfold fSetAt M.bind Res.bnd
  cases fFrz V e with
  | no => rfl
  | er x e1 => rfl
  | ok v e0 =>
    simp only
    cases (e0[i]?).bind ownD with
    | none => rfl
    | some z =>
      show _ = (fFrz Ix e0).bnd _
      simp only
      cases fFrz Ix e0 with
      | no => rfl
      | er x e1 => rfl
      | ok ix e1 =>
        show _ = (match v, ix, e1[i]? with
          | .val v, .val ix, some s => obn (ownD s) fun d => obn (f d ix v) fun d' => Res.ok Ctl.nx (e1.set i (reSl s d'))
          | _, _, _ => .no)
        simp only
        cases v <;> cases ix <;> cases e1[i]? <;> try rfl
        rename_i dv dx s
        show (match ownD s with | some d => (match f d dx dv with | some d' => Res.ok Ctl.nx (e1.set i (reSl s d')) | none => .no) | none => .no) = obn (ownD s) _
        cases ownD s with
        | none => rfl
        | some d =>
          show (match f d dx dv with | some d' => Res.ok Ctl.nx (e1.set i (reSl s d')) | none => .no) = obn (f d dx dv) _
          cases f d dx dv <;> rfl

def lcPut (k : M (List D)) (vs : List Nat) : Rv → Ve → Res (List D)
  | .val y, e => (k (wipeV e vs)).bnd fun ys e1 => .ok (y :: ys) e1
  | _, _ => .no
theorem lcPut_val {k : M (List D)} {vs : List Nat} : lcPut k vs (.val d) e = (k (wipeV e vs)).bnd fun ys e1 => .ok (d :: ys) e1 := rfl
theorem lcL_nil {F : D → M Unit} {T : M Bool} {vs : List Nat} : lcL F T A vs [] e = .ok [] e := rfl
theorem lcL_cons {F : D → M Unit} {T : M Bool} {vs : List Nat} {r : List D} : lcL F T A vs (d :: r) e = (F d e).bnd fun _ e1 => (T e1).bnd fun b e2 => ifb b ((fFrz A e2).bnd (lcPut (lcL F T A vs r) vs)) (lcL F T A vs r (wipeV e2 vs)) := by
  show M.bind (F d) _ e = _
  unfold M.bind Res.bnd
  cases F d e with
  | no => rfl
  | er x e1 => rfl
  | ok u e1 =>
    simp only
    cases T e1 with
    | no => rfl
    | er x e2 => rfl
    | ok b e2 =>
      cases b with
      | false => rfl
      | true =>
        simp only [if_true]
        show _ = (fFrz A e2).bnd _
        cases fFrz A e2 with
        | no => rfl
        | er x e3 => rfl
        | ok y e3 => cases y <;> rfl
def lcEnd (e : Ve) (vs : List Nat) : Res (List D) → Res Rv
  | .ok ys e' => ifb (decide (ys.length ≤ sizeLine)) (.ok (.fresh (.lst ys)) (restV e e' vs)) .no
  | _ => .no
theorem lcEnd_ok {ys : List D} {e' : Ve} {vs : List Nat} : lcEnd e vs (.ok ys e') = ifb (decide (ys.length ≤ sizeLine)) (.ok (.fresh (.lst ys)) (restV e e' vs)) .no := rfl
theorem fLc_e {S : M (List D)} {F : D → M Unit} {T : M Bool} {vs : List Nat} : fLc S F T A vs e = (S e).bnd fun ds e1 => ifb (okWipe e1 vs) (lcEnd e1 vs (lcL F T A vs ds (wipeV e1 vs))) .no := by
  unfold fLc M.bind Res.bnd
  cases S e with
  | no => rfl
  | er x e1 => rfl
  | ok ds e1 =>
    simp only
    cases okWipe e1 vs with
    | false => rfl
    | true =>
      simp only [if_true]
      show _ = lcEnd e1 vs (lcL F T A vs ds (wipeV e1 vs))
      cases lcL F T A vs ds (wipeV e1 vs) with
      | no => rfl
      | er x e2 => rfl
      | ok ys e2 => exact ite_ifb
end
end Vs
namespace Vs
open PySem PySem.Spec PyProof.Rows L2 Fw SX
section
variable {A B C : M Rv} {e : Ve} {d : D} {i : Nat}
theorem fAndV_e : fAndV A B e = (A e).bnd fun r e1 => obn (deref r e1) fun d => obn (truD d) fun b => ifb b (B e1) (.ok r e1) := by
  unfold fAndV M.bind Res.bnd
  cases A e with
  | no => rfl
  | er x e1 => rfl
  | ok r e1 =>
    simp only
    cases deref r e1 with
    | none => rfl
    | some d =>
      show (match truD d with | some true => B e1 | some false => .ok r e1 | none => .no) = obn (truD d) _
      cases truD d with
      | none => rfl
      | some b => cases b <;> rfl
theorem fOrV_e : fOrV A B e = (A e).bnd fun r e1 => obn (deref r e1) fun d => obn (truD d) fun b => ifb b (.ok r e1) (B e1) := by
  unfold fOrV M.bind Res.bnd
  cases A e with
  | no => rfl
  | er x e1 => rfl
  | ok r e1 =>
    simp only
    cases deref r e1 with
    | none => rfl
    | some d =>
      show (match truD d with | some false => B e1 | some true => .ok r e1 | none => .no) = obn (truD d) _
      cases truD d with
      | none => rfl
      | some b => cases b <;> rfl
theorem fNotV_e : fNotV A e = (fTru A e).bnd fun b e1 => .ok (.val (.bl (!b))) e1 := rfl
def setFR (cs : List Str) (f : Str) (i : Nat) : Rv → Ve → Res Ctl
  | .val v, e => obn e[i]? fun s => match ownD s with
    | some (.ins c fs) => ifb (cs.contains c && decide (fs.length < 1000)) (.ok .nx (e.set i (reSl s (.ins c (putFD f v fs))))) .no
    | _ => .no
  | _, _ => .no
theorem fSetF_e {cs : List Str} {f : Str} {V : M Rv} : fSetF cs f i V e = (fFrz V e).bnd (setFR cs f i) := by
  unfold fSetF M.bind Res.bnd
  cases fFrz V e with
  | no => rfl
  | er x e1 => rfl
  | ok v e1 =>
    cases v with
    | val v =>
      show (match Rv.val v, e1[i]? with
        | .val v, some s => (match ownD s with
          | some (.ins c fs) => if cs.contains c = true ∧ fs.length < 1000 then Res.ok Ctl.nx (e1.set i (reSl s (.ins c (putFD f v fs)))) else .no
          | _ => .no)
        | _, _ => .no) = obn e1[i]? _
      cases e1[i]? with
      | none => rfl
      | some s =>
        show (match ownD s with
          | some (.ins c fs) => if cs.contains c = true ∧ fs.length < 1000 then Res.ok Ctl.nx (e1.set i (reSl s (.ins c (putFD f v fs)))) else .no
          | _ => .no) = (match ownD s with
          | some (.ins c fs) => ifb (cs.contains c && decide (fs.length < 1000)) (Res.ok Ctl.nx (e1.set i (reSl s (.ins c (putFD f v fs))))) .no
          | _ => .no)
        cases ownD s with
        | none => rfl
        | some d =>
          cases d <;> try rfl
          rename_i c fs
          show (if cs.contains c = true ∧ fs.length < 1000 then Res.ok Ctl.nx (e1.set i (reSl s (.ins c (putFD f v fs)))) else .no) = ifb (cs.contains c && decide (fs.length < 1000)) _ _
          cases h1 : cs.contains c <;> cases h2 : decide (fs.length < 1000)
          · rw [if_neg (fun z => by simp at z)]; rfl
          · rw [if_neg (fun z => by simp at z)]; rfl
          · rw [if_neg (fun z => by simp at h2; omega)]; rfl
          · rw [if_pos ⟨rfl, of_decide_eq_true h2⟩]; rfl
    | _ => rfl
end
end Vs
namespace Vs
open PySem PySem.Spec PyProof.Rows L2 Fw SX
section
variable {A B C : M Rv} {e : Ve} {d : D} {i : Nat}
def chnR (f' : D → D → Option Rv) (C : M Rv) (b : Rv) (e : Ve) : Rv → Res Rv
  | .val (.bl true) => (C e).bnd fun c e2 => obn (deref b e2) fun y => obn (deref c e2) fun z => obn (f' y z) fun r => .ok r e2
  | .val (.bl false) => .ok (.val (.bl false)) e
  | _ => .no
theorem chn_t {f' : D → D → Option Rv} {b : Rv} : chnR f' C b e (.val (.bl true)) = (C e).bnd fun c e2 => obn (deref b e2) fun y => obn (deref c e2) fun z => obn (f' y z) fun r => .ok r e2 := rfl
theorem chn_f {f' : D → D → Option Rv} {b : Rv} : chnR f' C b e (.val (.bl false)) = .ok (.val (.bl false)) e := rfl
theorem fChain_e {f f' : D → D → Option Rv} : fChain f f' A B C e = (A e).bnd fun a e1 => (B e1).bnd fun b e2 => obn (deref a e2) fun x => obn (deref b e2) fun y => obn (f x y) fun r => chnR f' C b e2 r := by
  unfold fChain M.bind Res.bnd
  cases A e with
  | no => rfl
  | er x e1 => rfl
  | ok a e1 =>
    simp only
    cases B e1 with
    | no => rfl
    | er x e2 => rfl
    | ok b e2 =>
      simp only
      cases deref a e2 with
      | none => rfl
      | some x =>
        cases deref b e2 with
        | none => rfl
        | some y =>
          show _ = obn (f x y) _
          simp only
          cases f x y with
          | none => rfl
          | some r =>
            cases r with
            | val d =>
              cases d with
              | bl q =>
                cases q with
                | false => rfl
                | true =>
                  show _ = (C e2).bnd fun c e2 => obn (deref b e2) fun y => obn (deref c e2) fun z => obn (f' y z) fun r => Res.ok r e2
                  simp only
                  cases C e2 with
                  | no => rfl
                  | er x e3 => rfl
                  | ok c e3 =>
                    show _ = obn (deref b e3) fun y => obn (deref c e3) fun z => obn (f' y z) fun r => Res.ok r e3
                    simp only
                    cases deref b e3 with
                    | none => rfl
                    | some y2 =>
                      cases deref c e3 with
                      | none => rfl
                      | some z =>
                        show (match f' y2 z with | some r => Res.ok r e3 | none => .no) = obn (f' y2 z) _
                        cases f' y2 z <;> rfl
              | _ => rfl
            | _ => rfl
def callR (T : Str → Option (List Sl → Res Rv)) (L : M (List Rv)) : Rv → Ve → Res Rv
  | .val (.ins c fs), e => obn (T c) fun F => (L e).bnd fun rs e1 => callB F (.val (.ins c fs) :: rs) e1
  | _, _ => .no
theorem callR_ins {T : Str → Option (List Sl → Res Rv)} {L : M (List Rv)} {c : Str} {fs : List (Str × D)} : callR T L (.val (.ins c fs)) e = obn (T c) fun F => (L e).bnd fun rs e1 => callB F (.val (.ins c fs) :: rs) e1 := rfl
theorem fCallI_e {T : Str → Option (List Sl → Res Rv)} {L : M (List Rv)} : fCallI T A L e = (fFrz A e).bnd (callR T L) := by
  unfold fCallI M.bind Res.bnd
  cases fFrz A e with
  | no => rfl
  | er x e1 => rfl
  | ok o e1 =>
    cases o with
    | val d =>
      cases d <;> try rfl
      rename_i c fs
      show _ = obn (T c) _
      simp only
      cases T c with
      | none => rfl
      | some F => rfl
    | _ => rfl
theorem makeB_e {c : Str} {f : List Sl → Res Rv} {rs : List Rv} : makeB c f rs e = ifb (onceSl rs) (obn (argsOf rs e) fun as => mkRes rs e (f (.bo (.ins c []) :: as))) .no := by
  unfold makeB
  cases onceSl rs with
  | false => rfl
  | true =>
    rw [if_pos rfl]
    cases argsOf rs e <;> rfl
theorem fMakeK_e {c : Str} {f : List Sl → Res Rv} {L L2 : M (List Rv)} : fMakeK c f L L2 e = (L e).bnd fun rs e1 => (L2 e1).bnd fun zs e2 => makeB c f (rs ++ zs) e2 := rfl
theorem fMakeK0_e {c : Str} {f : List Sl → Res Rv} {L : M (List Rv)} : fMakeK0 c f L e = (L e).bnd fun rs e1 => makeB c f rs e1 := rfl
theorem mk_bo {rs : List Rv} {as : List Sl} : mkRes rs e (.ok (.val .non) (.bo d :: as)) = .ok (.fresh d) (backE rs as e) := rfl
theorem mk_bf {rs : List Rv} {as : List Sl} : mkRes rs e (.ok (.val .non) (.bf d :: as)) = .ok (.val d) (backE rs as e) := rfl
end
end Vs
namespace Vs
open PySem PySem.Spec PyProof.Rows L2 Fw SX
section
variable {A B C : M Rv} {e : Ve} {d : D} {i : Nat}
def fmtR : Rv → Ve → Res Rv
  | .val (.str l), e => ifb (decide (l.length ≤ sizeLine)) (.ok (.val (.str l)) e) .no
  | .val (.int i), e => ifb (decide (i.natAbs.log2 < 1920) && (digS i).all (· < 1114112)) (.ok (.val (.str (digS i))) e) .no
  | _, _ => .no
theorem fmt_str {l : List Nat} : fmtR (.val (.str l)) e = ifb (decide (l.length ≤ sizeLine)) (.ok (.val (.str l)) e) .no := rfl
theorem fmt_int {j : Int} : fmtR (.val (.int j)) e = ifb (decide (j.natAbs.log2 < 1920) && (digS j).all (· < 1114112)) (.ok (.val (.str (digS j))) e) .no := rfl
theorem fFmt_e : fFmt A e = (A e).bnd fmtR := by
  unfold fFmt M.bind Res.bnd
  cases A e with
  | no => rfl
  | er x e1 => rfl
  | ok r e1 =>
    cases r with
    | val d =>
      cases d <;> try rfl
      · rename_i j
        show (if j.natAbs.log2 < 1920 ∧ (digS j).all (· < 1114112) = true then Res.ok (Rv.val (D.str (digS j))) e1 else .no) = ifb (decide (j.natAbs.log2 < 1920) && (digS j).all (· < 1114112)) _ _
        by_cases h : j.natAbs.log2 < 1920 ∧ (digS j).all (· < 1114112) = true
        · rw [if_pos h, decide_eq_true h.1, h.2]; rfl
        · rw [if_neg h]
          by_cases h1 : j.natAbs.log2 < 1920
          · rw [decide_eq_true h1]
            cases q : (digS j).all (· < 1114112)
            · rfl
            · exact absurd ⟨h1, q⟩ h
          · rw [decide_eq_false h1]; rfl
      · exact ite_ifb
    | _ => rfl
def jsR (As : List (M Rv)) (acc : List Nat) : Rv → Ve → Res (List Nat)
  | .val (.str l), e => ifb (decide (acc.length + l.length ≤ sizeLine)) (fJs As (acc ++ l) e) .no
  | _, _ => .no
theorem js_str {As : List (M Rv)} {acc l : List Nat} : jsR As acc (.val (.str l)) e = ifb (decide (acc.length + l.length ≤ sizeLine)) (fJs As (acc ++ l) e) .no := rfl
theorem fJs_nil {acc : List Nat} : fJs [] acc e = .ok acc e := rfl
theorem fJs_cons {As : List (M Rv)} {acc : List Nat} : fJs (A :: As) acc e = (A e).bnd (jsR As acc) := by
  show M.bind A _ e = _
  unfold M.bind Res.bnd
  cases A e with
  | no => rfl
  | er x e1 => rfl
  | ok r e1 =>
    cases r with
    | val d =>
      cases d <;> try rfl
      rename_i l
      show (if acc.length + l.length ≤ sizeLine then fJs As (acc ++ l) else fNo) e1 = ifb (decide (acc.length + l.length ≤ sizeLine)) _ _
      by_cases h : acc.length + l.length ≤ sizeLine
      · rw [if_pos h, decide_eq_true h]; rfl
      · rw [if_neg h, decide_eq_false h]; rfl
    | _ => rfl
theorem fJoined_e {As : List (M Rv)} : fJoined As e = (fJs As [] e).bnd fun l e1 => .ok (.val (.str l)) e1 := rfl
theorem fMut_e {T : String} {f : D → List D → Option (D × D)} {L : M (List Rv)} : fMut T f i L e = obn ((e[i]?).bind ownD) fun d0 => ifb (tyM T d0) ((L e).bnd fun rs e1 => obn (valsOf rs) fun ds => obn e1[i]? fun s => obn (ownD s) fun d => obn (f d ds) fun p => .ok (.val p.2) (e1.set i (reSl s p.1))) .no := by
  unfold fMut
  cases (e[i]?).bind ownD with
  | none => rfl
  | some d0 =>
    show (if tyM T d0 = true then _ else Res.no) = ifb (tyM T d0) _ _
    cases tyM T d0 with
    | false => rfl
    | true =>
      rw [if_pos rfl]
      show M.bind L _ e = (L e).bnd _
      unfold M.bind Res.bnd
      cases L e with
      | no => rfl
      | er x e1 => rfl
      | ok rs e1 =>
        simp only
        cases valsOf rs with
        | none => rfl
        | some ds =>
          cases e1[i]? with
          | none => rfl
          | some s =>
            show (match ownD s with | some d => (match f d ds with | some (d', dr) => Res.ok (Rv.val dr) (e1.set i (reSl s d')) | none => .no) | none => .no) = obn (ownD s) _
            cases ownD s with
            | none => rfl
            | some d =>
              show (match f d ds with | some (d', dr) => Res.ok (Rv.val dr) (e1.set i (reSl s d')) | none => .no) = obn (f d ds) _
              cases f d ds <;> rfl
end
end Vs

set_option maxRecDepth 100000
set_option maxHeartbeats 2000000
namespace Vs
open PySem PySem.Spec PyProof.Rows L2 Fw SX
section
variable {A B C : M Rv} {e : Ve} {d : D} {i : Nat}
theorem dcPut_e {k : List (List Nat × D) → M (List (List Nat × D))} {vs : List Nat} {acc : List (List Nat × D)} {s : List Nat} : dcPut k vs acc (.val (.str s)) (.val d) e = ifb (decide (acc.length < sizeLine)) (k (putKD acc s d) (wipeV e vs)) .no := ite_ifb
def dcEnd (e : Ve) (vs : List Nat) : Res (List (List Nat × D)) → Res Rv
  | .ok ys e' => .ok (.fresh (.dct ys)) (restV e e' vs)
  | _ => .no
theorem dcEnd_ok {ys : List (List Nat × D)} {e' : Ve} {vs : List Nat} : dcEnd e vs (.ok ys e') = .ok (.fresh (.dct ys)) (restV e e' vs) := rfl
theorem fDc_e {S : M (List D)} {F : D → M Unit} {T : M Bool} {vs : List Nat} : fDc S F T A B vs e = (S e).bnd fun ds e1 => ifb (okWipe e1 vs) (dcEnd e1 vs (dcL F T A B vs ds [] (wipeV e1 vs))) .no := by
  unfold fDc M.bind Res.bnd
  cases S e with
  | no => rfl
  | er x e1 => rfl
  | ok ds e1 =>
    simp only
    cases okWipe e1 vs with
    | false => rfl
    | true =>
      simp only [if_true]
      show _ = dcEnd e1 vs (dcL F T A B vs ds [] (wipeV e1 vs))
      cases dcL F T A B vs ds [] (wipeV e1 vs) <;> rfl
def par2R (i j : Nat) : List Rv → Ve → Res Ctl
  | [a, b], e => (stoN i a e).bnd fun _ e1 => (stoN j b e1).bnd fun _ e2 => .ok .nx e2
  | _, _ => .no
def par3R (i j l : Nat) : List Rv → Ve → Res Ctl
  | [a, b, c], e => (stoN i a e).bnd fun _ e1 => (stoN j b e1).bnd fun _ e2 => (stoN l c e2).bnd fun _ e3 => .ok .nx e3
  | _, _ => .no
theorem par2_e {j : Nat} {a b : Rv} : par2R i j [a, b] e = (stoN i a e).bnd fun _ e1 => (stoN j b e1).bnd fun _ e2 => .ok .nx e2 := rfl
theorem par3_e {j l : Nat} {a b c : Rv} : par3R i j l [a, b, c] e = (stoN i a e).bnd fun _ e1 => (stoN j b e1).bnd fun _ e2 => (stoN l c e2).bnd fun _ e3 => .ok .nx e3 := rfl
theorem fPar2_e {j : Nat} {L : M (List Rv)} : fPar2 i j L e = (L e).bnd (par2R i j) := by
  unfold fPar2 M.bind Res.bnd
  cases L e with
  | no => rfl
  | er x e1 => rfl
  | ok rs e1 =>
    match rs with
    | [] => rfl
    | [a] => rfl
    | [a, b] => rfl
    | a :: b :: c :: r => rfl
theorem fPar3_e {j l : Nat} {L : M (List Rv)} : fPar3 i j l L e = (L e).bnd (par3R i j l) := by
  unfold fPar3 M.bind Res.bnd
  cases L e with
  | no => rfl
  | er x e1 => rfl
  | ok rs e1 =>
    match rs with
    | [] => rfl
    | [a] => rfl
    | [a, b] => rfl
    | [a, b, c] => rfl
    | a :: b :: c :: d :: r => rfl
theorem stoN_val : stoN i (.val d) e = ifb (canSto e i) (.ok () (e.set i (.sh d))) .no := by
  show (if canSto e i = true then Res.ok () (e.set i (.sh d)) else .no) = _
  cases canSto e i <;> rfl
theorem stoN_fresh : stoN i (.fresh d) e = ifb (canSto e i) (.ok () (e.set i (.ow d))) .no := by
  show (if canSto e i = true then Res.ok () (e.set i (.ow d)) else .no) = _
  cases canSto e i <;> rfl
def revR : D → Ve → Res Rv
  | .lst ds, e => .ok (.fresh (.lst ds.reverse)) e
  | .str l, e => ifb (decide (l.length ≤ sizeLine)) (.ok (.val (.str l.reverse)) e) .no
  | _, _ => .no
theorem rev_lst {ds : List D} : revR (.lst ds) e = .ok (.fresh (.lst ds.reverse)) e := rfl
theorem fRev_e : fRev A e = (A e).bnd fun r e1 => obn (deref r e1) fun d => revR d e1 := by
  unfold fRev M.bind Res.bnd
  cases A e with
  | no => rfl
  | er x e1 => rfl
  | ok r e1 =>
    simp only
    cases deref r e1 with
    | none => rfl
    | some d =>
      cases d <;> first | rfl | exact ite_ifb
theorem gNil_e : gNilF [] e = .ok () e := rfl
theorem gCons_e {F : D → M Unit} {Fs : List D → M Unit} {r : List D} : gConsF F Fs (d :: r) e = (F d e).bnd fun _ e1 => Fs r e1 := rfl
theorem gTup2 {Fs : List D → M Unit} {a b : D} : gTupF 2 Fs (.tup [a, b]) e = Fs [a, b] e := rfl
theorem gTup3 {Fs : List D → M Unit} {a b c : D} : gTupF 3 Fs (.tup [a, b, c]) e = Fs [a, b, c] e := rfl
end
section
variable {A B C : M Rv} {e : Ve} {d : D} {i : Nat}
def getR2 (a : Rv) (B C : M Rv) : D → Ve → Res Rv
  | .dct _, e0 => (B e0).bnd fun y e1 => (fFrz C e1).bnd fun z e => match deref a e, deref y e, z with
    | some (.dct kvs), some (.str k), .val d => .ok (.val ((getK kvs k).getD d)) e
    | _, _, _ => .no
  | _, _ => .no
theorem getR2_e {a : Rv} {kvs : List (List Nat × D)} : getR2 a B C (.dct kvs) e = (B e).bnd fun y e1 => (fFrz C e1).bnd fun z e => match deref a e, deref y e, z with
    | some (.dct kvs), some (.str k), .val d => .ok (.val ((getK kvs k).getD d)) e
    | _, _, _ => .no := rfl
theorem fGet2_e : fGet2 A B C e = (A e).bnd fun a e0 => obn (deref a e0) fun d => getR2 a B C d e0 := by
  unfold fGet2 M.bind Res.bnd
  cases A e with
  | no => rfl
  | er x e1 => rfl
  | ok a e0 =>
    simp only
    cases deref a e0 with
    | none => rfl
    | some d => cases d <;> rfl
def negR : Rv → Ve → Res Rv
  | .val (.int i), e => .ok (.val (.int (-i))) e
  | _, _ => .no
theorem negR_int {j : Int} : negR (.val (.int j)) e = .ok (.val (.int (-j))) e := rfl
theorem fNeg_e : fNeg A e = (A e).bnd negR := by
  unfold fNeg M.bind Res.bnd
  cases A e with
  | no => rfl
  | er x e1 => rfl
  | ok a e1 => cases a with
    | val d => cases d <;> rfl
    | _ => rfl
def callVR (T : UInt64 → Option (List Sl → Res Rv)) (L : M (List Rv)) : Option Sl → Ve → Res Rv
  | some (.sh (.con (.flt j))), e => obn (T j) fun F => fCall F L e
  | _, _ => .no
theorem callVR_e {T : UInt64 → Option (List Sl → Res Rv)} {L : M (List Rv)} {j : UInt64} : callVR T L (some (.sh (.con (.flt j)))) e = obn (T j) fun F => fCall F L e := rfl
theorem fCallV_e {T : UInt64 → Option (List Sl → Res Rv)} {L : M (List Rv)} : fCallV T i L e = callVR T L e[i]? e := by
  unfold fCallV
  generalize e[i]? = o
  cases o with
  | none => rfl
  | some s =>
    cases s with
    | sh d =>
      cases d with
      | con u =>
        cases u with
        | flt j =>
          show (match T j with | some F => fCall F L e | none => .no) = obn (T j) _
          cases T j <;> rfl
        | _ => rfl
      | _ => rfl
    | _ => rfl
end
section
variable {e : Ve} {i : Nat} {F : D → M Unit} {X : M Ctl}
def forVR (i : Nat) (F : D → M Unit) (X : M Ctl) : Option Sl → Ve → Res Ctl
  | some (.ow (.lst ds)), e => okR (fun e' => e'.set i (.ow (.lst ds))) (forL F X ds (e.set i (.lo (.lst ds))))
  | some (.bo (.lst ds)), e => okR (fun e' => e'.set i (.bo (.lst ds))) (forL F X ds (e.set i (.lo (.lst ds))))
  | some (.lo (.lst ds)), e => forL F X ds e
  | _, e => fFor (fItems (fVar i)) F X e
theorem forVR_ow {ds : List D} : forVR i F X (some (.ow (.lst ds))) e = okR (fun e' => e'.set i (.ow (.lst ds))) (forL F X ds (e.set i (.lo (.lst ds)))) := rfl
theorem forVR_bo {ds : List D} : forVR i F X (some (.bo (.lst ds))) e = okR (fun e' => e'.set i (.bo (.lst ds))) (forL F X ds (e.set i (.lo (.lst ds)))) := rfl
theorem forVR_sh {d : D} : forVR i F X (some (.sh d)) e = fFor (fItems (fVar i)) F X e := rfl
theorem forVR_bf {d : D} : forVR i F X (some (.bf d)) e = fFor (fItems (fVar i)) F X e := rfl
theorem fForV_e : fForV i F X e = forVR i F X e[i]? e := by
  unfold fForV
  generalize e[i]? = o
  cases o with
  | none => rfl
  | some s => cases s <;> first | rfl | (rename_i d; cases d <;> rfl)
end
section
variable {A B C : M Rv} {e : Ve} {d : D} {i : Nat}
def methR (T : Str → Option (List Sl → Res Rv)) (m : Str) (L : M (List Rv)) (o : Rv) : D → Ve → Res Rv
  | .ins c fs, e => ifb (fs.lookup m).isNone (obn (T c) fun F => (L e).bnd fun rs e1 => callB F (o :: rs) e1) .no
  | _, _ => .no
theorem methR_e {T : Str → Option (List Sl → Res Rv)} {m : Str} {L : M (List Rv)} {o : Rv} {c : Str} {fs : List (Str × D)} : methR T m L o (.ins c fs) e = ifb (fs.lookup m).isNone (obn (T c) fun F => (L e).bnd fun rs e1 => callB F (o :: rs) e1) .no := rfl
theorem fMeth_e {T : Str → Option (List Sl → Res Rv)} {m : Str} {L : M (List Rv)} : fMeth T m A L e = (A e).bnd fun o e0 => obn (deref o e0) fun d => methR T m L o d e0 := by
  unfold fMeth M.bind Res.bnd
  cases A e with
  | no => rfl
  | er x e1 => rfl
  | ok o e0 =>
    simp only
    cases deref o e0 with
    | none => rfl
    | some d =>
      cases d <;> try rfl
      rename_i c fs
      show (if (fs.lookup m).isNone = true then _ else Res.no) = ifb (fs.lookup m).isNone _ _
      cases (fs.lookup m).isNone with
      | false => rfl
      | true =>
        rw [if_pos rfl]
        show (match T c with | some F => _ | none => Res.no) = obn (T c) _
        cases T c <;> rfl
def whR (k : M Ctl) : Ctl → Ve → Res Ctl
  | .nx, e => k e
  | .ct, e => k e
  | .bk, e => .ok .nx e
  | .rt v, e => .ok (.rt v) e
theorem wh_nx {k : M Ctl} : whR k .nx e = k e := rfl
theorem wh_rt {k : M Ctl} {v : Rv} : whR k (.rt v) e = .ok (.rt v) e := rfl
def augR (i : Nat) (A : M Rv) : Option Sl → Ve → Res Ctl
  | some (.sh d0), e => (A e).bnd fun r e1 => obn (deref r e1) fun d => obn (augD d0 d) fun out => stoRv i (.val out) e1
  | some (.ow (.lst _)), e => (A e).bnd fun r e1 => match e1[i]?, deref r e1 with
    | some (.ow (.lst xs)), some (.lst ys) => ifb (decide (xs.length + ys.length ≤ sizeLine)) (.ok .nx (e1.set i (.ow (.lst (xs ++ ys))))) .no
    | _, _ => .no
  | _, _ => .no
theorem augR_sh {d0 : D} : augR i A (some (.sh d0)) e = (A e).bnd fun r e1 => obn (deref r e1) fun d => obn (augD d0 d) fun out => stoRv i (.val out) e1 := rfl
theorem augR_ow {l : List D} : augR i A (some (.ow (.lst l))) e = (A e).bnd fun r e1 => match e1[i]?, deref r e1 with
    | some (.ow (.lst xs)), some (.lst ys) => ifb (decide (xs.length + ys.length ≤ sizeLine)) (.ok .nx (e1.set i (.ow (.lst (xs ++ ys))))) .no
    | _, _ => .no := rfl
theorem fAug_e : fAug i A e = augR i A e[i]? e := by
  unfold fAug
  generalize e[i]? = o
  cases o with
  | none => rfl
  | some s =>
    cases s with
    | sh d0 =>
      show (A.bind _) e = (A e).bnd _
      unfold M.bind Res.bnd
      cases A e with
      | no => rfl
      | er x e1 => rfl
      | ok r e1 =>
        simp only
        cases deref r e1 with
        | none => rfl
        | some d =>
          show (match augD d0 d with | some out => _ | none => Res.no) = obn (augD d0 d) _
          cases augD d0 d <;> rfl
    | ow d =>
      cases d <;> try rfl
      show (A.bind _) e = (A e).bnd _
      unfold M.bind Res.bnd
      cases A e with
      | no => rfl
      | er x e1 => rfl
      | ok r e1 =>
        simp only
        generalize e1[i]? = o1
        generalize deref r e1 = o2
        cases o1 <;> try rfl
        rename_i s1
        cases s1 <;> try rfl
        rename_i d1
        cases d1 <;> try rfl
        cases o2 <;> try rfl
        rename_i d2
        cases d2 <;> first | rfl | exact ite_ifb
    | _ => rfl
end
end Vs

set_option maxRecDepth 100000
set_option maxHeartbeats 2000000
namespace Vs
open PySem PySem.Spec PyProof.Rows L2 Fw SX
theorem atI3_0 {α : Type} (a : α) (r : List α) : atI (a :: r) 0 = some a := by
  unfold atI
  simp [ixN]
theorem atI3_1 {α : Type} (a b : α) (r : List α) : atI (a :: b :: r) 1 = some b := by
  have h : (1 : Int) < (r.length : Int) + 1 + 1 := by omega
  unfold atI
  simp [ixN, h]
theorem atI3_2 {α : Type} (a b c : α) (r : List α) : atI (a :: b :: c :: r) 2 = some c := by
  have h : (2 : Int) < (r.length : Int) + 1 + 1 + 1 := by omega
  unfold atI
  simp [ixN, h]
theorem ixN3_0 (n : Nat) : ixN (n + 1) 0 = some 0 := by simp [ixN]
theorem ixN3_1 (n : Nat) : ixN (n + 2) 1 = some 1 := by
  have h : (1 : Int) < (n : Int) + 2 := by omega
  simp [ixN, h]
theorem ixN3_2 (n : Nat) : ixN (n + 3) 2 = some 2 := by
  have h : (2 : Int) < (n : Int) + 3 := by omega
  simp [ixN, h]
theorem ix3 {α : Type} (a b c : α) : ixN [a, b, c].length 0 = some 0 ∧ ixN [a, b, c].length 1 = some 1 ∧ ixN [a, b, c].length 2 = some 2 := ⟨rfl, rfl, rfl⟩
theorem eqG_int (i j : Int) : eqG (.int i) (.int j) = some (.val (.bl (i == j))) := rfl
theorem eqG_str (a b : List Nat) : eqG (.str a) (.str b) = some (.val (.bl (decide (a = b)))) := rfl
theorem neG_str (a b : List Nat) : neG (.str a) (.str b) = some (.val (.bl (!decide (a = b)))) := rfl
theorem eqG_bl (i j : Bool) : eqG (.bl i) (.bl j) = some (.val (.bl (i == j))) := rfl
theorem sz3 (a b c : D) : decide ([a, b, c].length ≤ sizeLine) = true := by rw [sizeLine_eq]; rfl
theorem sz2 (a b : D) : decide ([a, b].length ≤ sizeLine) = true := by rw [sizeLine_eq]; rfl
theorem sz1 (a : D) : decide ([a].length ≤ sizeLine) = true := by rw [sizeLine_eq]; rfl
section
variable {n : Nat} {X : M Ctl}
theorem fnF_0 : fnF 0 n X [] = endR [] (X ([] ++ List.replicate (n - 0) .un)) := fnF_e rfl
theorem fnF_1 {a0 : Sl} : fnF 1 n X [a0] = endR [a0] (X ([a0] ++ List.replicate (n - 1) .un)) := fnF_e rfl
theorem fnF_2 {a0 a1 : Sl} : fnF 2 n X [a0, a1] = endR [a0, a1] (X ([a0, a1] ++ List.replicate (n - 2) .un)) := fnF_e rfl
theorem fnF_3 {a0 a1 a2 : Sl} : fnF 3 n X [a0, a1, a2] = endR [a0, a1, a2] (X ([a0, a1, a2] ++ List.replicate (n - 3) .un)) := fnF_e rfl
theorem fnF_4 {a0 a1 a2 a3 : Sl} : fnF 4 n X [a0, a1, a2, a3] = endR [a0, a1, a2, a3] (X ([a0, a1, a2, a3] ++ List.replicate (n - 4) .un)) := fnF_e rfl
theorem fnF_5 {a0 a1 a2 a3 a4 : Sl} : fnF 5 n X [a0, a1, a2, a3, a4] = endR [a0, a1, a2, a3, a4] (X ([a0, a1, a2, a3, a4] ++ List.replicate (n - 5) .un)) := fnF_e rfl
theorem fnF_6 {a0 a1 a2 a3 a4 a5 : Sl} : fnF 6 n X [a0, a1, a2, a3, a4, a5] = endR [a0, a1, a2, a3, a4, a5] (X ([a0, a1, a2, a3, a4, a5] ++ List.replicate (n - 6) .un)) := fnF_e rfl
theorem fnF_7 {a0 a1 a2 a3 a4 a5 a6 : Sl} : fnF 7 n X [a0, a1, a2, a3, a4, a5, a6] = endR [a0, a1, a2, a3, a4, a5, a6] (X ([a0, a1, a2, a3, a4, a5, a6] ++ List.replicate (n - 7) .un)) := fnF_e rfl
theorem fnF_8 {a0 a1 a2 a3 a4 a5 a6 a7 : Sl} : fnF 8 n X [a0, a1, a2, a3, a4, a5, a6, a7] = endR [a0, a1, a2, a3, a4, a5, a6, a7] (X ([a0, a1, a2, a3, a4, a5, a6, a7] ++ List.replicate (n - 8) .un)) := fnF_e rfl
end
theorem addD_int (i j : Int) : addD (.int i) (.int j) = some (.val (.int (i + j))) := rfl
theorem subD_int (i j : Int) : subD (.int i) (.int j) = some (.val (.int (i - j))) := rfl
theorem modD_int {i j : Int} (h : 0 < j) : modD (.int i) (.int j) = some (.val (.int (i % j))) := by
  show (if 0 < j then some (D.int (i % j)) else none).map Rv.val = _
  rw [if_pos h]; rfl
theorem fdivD_int {i j : Int} (h : 0 < j) (h2 : j < 2 ^ 200) : fdivD (.int i) (.int j) = some (.val (.int (i / j))) := by
  show (if 0 < j ∧ j < 2 ^ 200 then some (D.int (i / j)) else none).map Rv.val = _
  rw [if_pos ⟨h, h2⟩]; rfl
theorem mulD_int {i j : Int} (h : -(2 ^ 64) < j) (h2 : j < 2 ^ 64) : mulD (.int i) (.int j) = some (.val (.int (i * j))) := by
  show (if (-(2 ^ 64) < i ∧ i < 2 ^ 64) ∨ (-(2 ^ 64) < j ∧ j < 2 ^ 64) then some (Rv.val (D.int (i * j))) else none) = _
  rw [if_pos (.inr ⟨h, h2⟩)]
theorem pow_10_18 : powD (.int 10) (.int 18) = some (.val (.int (10 ^ 18))) := by
  show (if (0 : Int) ≤ 18 ∧ (18 : Int) ≤ 1000 ∧ -(2 ^ 60) < (10 : Int) ∧ (10 : Int) < 2 ^ 60 then some (D.int (10 ^ (18 : Int).toNat)) else none).map Rv.val = _
  rw [if_pos (by decide)]; rfl
theorem ltD_int (i j : Int) : ltD (.int i) (.int j) = some (.val (.bl (decide (i < j)))) := rfl
theorem leD_int (i j : Int) : leD (.int i) (.int j) = some (.val (.bl (decide (i ≤ j)))) := rfl
theorem gtD_int (i j : Int) : gtD (.int i) (.int j) = some (.val (.bl (decide (j < i)))) := rfl
theorem geD_int (i j : Int) : geD (.int i) (.int j) = some (.val (.bl (decide (j ≤ i)))) := rfl
theorem ltD_str (a b : List Nat) : ltD (.str a) (.str b) = some (.val (.bl (decide (a < b)))) := rfl
theorem leD_str (a b : List Nat) : leD (.str a) (.str b) = some (.val (.bl (!decide (b < a)))) := rfl
theorem gtD_str (a b : List Nat) : gtD (.str a) (.str b) = some (.val (.bl (decide (b < a)))) := rfl
theorem geD_str (a b : List Nat) : geD (.str a) (.str b) = some (.val (.bl (!decide (a < b)))) := rfl
theorem lenD_lst (l : List D) : lenD [.lst l] = some (.val (.int l.length)) := rfl
theorem lenD_tup (l : List D) : lenD [.tup l] = some (.val (.int l.length)) := rfl
theorem lenD_scr (l : List Int) : lenD [.scr l] = some (.val (.int l.length)) := rfl
theorem lenD_dct (l : List (List Nat × D)) : lenD [.dct l] = some (.val (.int l.length)) := rfl
theorem lenD_str {l : List Nat} (h : l.length ≤ 16777216) : lenD [.str l] = some (.val (.int l.length)) := by
  show (if l.length ≤ sizeLine then some (Rv.val (D.int l.length)) else none) = _
  rw [if_pos (by rw [sizeLine_eq]; exact h)]
theorem ixA_0 (a : D) (r : List D) : ixA (.lst (a :: r)) (.int 0) = some (.val a) := by
  show (match (atI (a :: r) 0).map Rv.val with | some r => some r | none => _) = _
  rw [atI3_0]; rfl
theorem ixA_1 (a b : D) (r : List D) : ixA (.lst (a :: b :: r)) (.int 1) = some (.val b) := by
  show (match (atI (a :: b :: r) 1).map Rv.val with | some r => some r | none => _) = _
  rw [atI3_1]; rfl
theorem ixA_2 (a b c : D) (r : List D) : ixA (.lst (a :: b :: c :: r)) (.int 2) = some (.val c) := by
  show (match (atI (a :: b :: c :: r) 2).map Rv.val with | some r => some r | none => _) = _
  rw [atI3_2]; rfl
theorem ixA_scr (ns : List Int) (i : Int) : ixA (.scr ns) (.int i) = (atI ns i).map fun n => .val (.int n) := by
  show (match (atI ns i).map (fun n => Rv.val (D.int n)) with | some r => some r | none => none) = _
  cases atI ns i <;> rfl
theorem tyD_str (l : List Nat) : tyD "str" (.str l) = true := rfl
theorem tyD_lst (l : List D) : tyD "list" (.lst l) = true := rfl
theorem isE_nn : isE .non .non = some (.val (.bl true)) := rfl
theorem isE_in (i : Int) : isE (.int i) .non = some (.val (.bl false)) := rfl
theorem isE_sn (l : List Nat) : isE (.str l) .non = some (.val (.bl false)) := rfl
theorem isE_ln (l : List D) : isE (.lst l) .non = some (.val (.bl false)) := rfl
theorem isE_tn (l : List D) : isE (.tup l) .non = some (.val (.bl false)) := rfl
theorem isnE_nn : isnE .non .non = some (.val (.bl false)) := rfl
theorem isnE_in (i : Int) : isnE (.int i) .non = some (.val (.bl true)) := rfl
theorem isnE_sn (l : List Nat) : isnE (.str l) .non = some (.val (.bl true)) := rfl
theorem isnE_ln (l : List D) : isnE (.lst l) .non = some (.val (.bl true)) := rfl
theorem isnE_tn (l : List D) : isnE (.tup l) .non = some (.val (.bl true)) := rfl
theorem end_slot {as : List Sl} {e : Ve} {i : Nat} : endR as (.ok (.rt (.slot i)) e) = (match retRv (.slot i) e with | .ok r' e2 => .ok r' (backV as e2) | _ => .no) := rfl
theorem tyM_dct (k : List (List Nat × D)) : tyM "dict" (.dct k) = true := rfl
theorem tyM_lst (l : List D) : tyM "list" (.lst l) = true := rfl
theorem szn_0 : decide (0 ≤ sizeLine) = true := by rw [sizeLine_eq]; rfl
theorem szn_1 : decide (1 ≤ sizeLine) = true := by rw [sizeLine_eq]; rfl
theorem szn_2 : decide (2 ≤ sizeLine) = true := by rw [sizeLine_eq]; rfl
theorem szn_3 : decide (3 ≤ sizeLine) = true := by rw [sizeLine_eq]; rfl
theorem szn_4 : decide (4 ≤ sizeLine) = true := by rw [sizeLine_eq]; rfl
theorem szn_5 : decide (5 ≤ sizeLine) = true := by rw [sizeLine_eq]; rfl
theorem szn_6 : decide (6 ≤ sizeLine) = true := by rw [sizeLine_eq]; rfl
theorem szn_7 : decide (7 ≤ sizeLine) = true := by rw [sizeLine_eq]; rfl
theorem szn_8 : decide (8 ≤ sizeLine) = true := by rw [sizeLine_eq]; rfl
theorem szn_9 : decide (9 ≤ sizeLine) = true := by rw [sizeLine_eq]; rfl
theorem szn_10 : decide (10 ≤ sizeLine) = true := by rw [sizeLine_eq]; rfl
theorem szn_11 : decide (11 ≤ sizeLine) = true := by rw [sizeLine_eq]; rfl
theorem szn_12 : decide (12 ≤ sizeLine) = true := by rw [sizeLine_eq]; rfl
theorem szn_13 : decide (13 ≤ sizeLine) = true := by rw [sizeLine_eq]; rfl
theorem szn_14 : decide (14 ≤ sizeLine) = true := by rw [sizeLine_eq]; rfl
theorem szn_15 : decide (15 ≤ sizeLine) = true := by rw [sizeLine_eq]; rfl
theorem szn_16 : decide (16 ≤ sizeLine) = true := by rw [sizeLine_eq]; rfl
end Vs

set_option maxRecDepth 100000
set_option maxHeartbeats 2000000
namespace Vs
open PySem PySem.Spec PyProof.Rows L2 Fw SX
def raiseR (x : Str) (fs : List Str) (rs : List Rv) (e : Ve) : Res Ctl := match valsOf rs with
  | some ds => if ds.length = fs.length ∧ ds.length ≤ 1000 then .er (x, (fs.zip ds).reverse) e else .no
  | none => .no
section
variable {x y f h : Str} {fs : List Str} {d d' : D} {e : Ve} {A : M (List Rv)} {i : Nat} {outs : List Str} {F : List (Str × D) → Option (List D)} {B : M Ctl} {xs : List (Str × D)}
theorem fRaise_e : fRaise x fs A e = (A e).bnd (raiseR x fs) := rfl
theorem raise_1 : raiseR x [f] [.val d] e = .er (x, [(f, d)]) e := by simp [raiseR, valsOf]
theorem raise_2 : raiseR x [f, h] [.val d, .val d'] e = .er (x, [(h, d'), (f, d)]) e := by simp [raiseR, valsOf]
theorem end_er {as : List Sl} {z : Exn} : endR as (.er z e) = .er z (backV as e) := rfl
def tryR (y : Str) (outs : List Str) (i : Nat) (f : List (Str × D) → Option (List D)) : Res Ctl → Res Ctl
  | .er x e' => if x.1 = y ∧ i < e'.length ∧ x.2 ≠ [] then (match f x.2 with | some ds => if ds.length ≤ sizeLine then .ok (.rt (.fresh (.lst ds))) e' else .no | none => .no) else if x.1 ∈ outs then .er x e' else .no
  | r => r
theorem fTry_e : fTry y outs i F B e = tryR y outs i F (B e) := by
  unfold fTry tryR
  cases B e <;> rfl
theorem try_ok {c : Ctl} : tryR y outs i F (.ok c e) = .ok c e := rfl
theorem try_er : tryR y outs i F (.er (y, xs) e) = ifb (decide (i < e.length) && !xs.isEmpty) (obn (F xs) fun ds => ifb (decide (ds.length ≤ sizeLine)) (.ok (.rt (.fresh (.lst ds))) e) .no) (tryR y outs i F (.er (y, xs) e)) := by
  show (if y = y ∧ i < e.length ∧ xs ≠ [] then _ else _) = _
  by_cases h1 : i < e.length
  · cases xs with
    | nil => rw [decide_eq_true h1]; rfl
    | cons p r =>
      rw [decide_eq_true h1, if_pos ⟨rfl, h1, by simp⟩]
      show (match F (p :: r) with | some ds => _ | none => _) = obn (F (p :: r)) _
      cases F (p :: r) with
      | none => rfl
      | some ds =>
        show (if ds.length ≤ sizeLine then _ else _) = ifb (decide (ds.length ≤ sizeLine)) _ _
        by_cases h2 : ds.length ≤ sizeLine
        · rw [if_pos h2, decide_eq_true h2]; rfl
        · rw [if_neg h2, decide_eq_false h2]; rfl
  · rw [decide_eq_false h1]; rfl
theorem xNil_e : xNil xs = some [] := rfl
theorem xCons_e {g : List (Str × D) → Option D} {r : List (Str × D) → Option (List D)} : xCons g r xs = (g xs).bind fun d => (r xs).map (d :: ·) := rfl
theorem xC_e : xC d xs = some d := rfl
theorem xF_1 {r : List (Str × D)} : xF f ((f, d) :: r) = some d := by
  show List.lookup f ((f, d) :: r) = _
  simp [List.lookup]
theorem xApp_e {g : List D → Option Rv} : xApp g F xs = (F xs).bind fun ds => match g ds with | some (.val d) => some d | _ => none := rfl
theorem neG_flat {xs ys : List D} (h : (xs.all (shp 0) && ys.all (shp 0)) = true) : neG (.lst xs) (.lst ys) = some (.val (.bl (!eqDs xs ys))) := by
  have up : ∀ n (d : D), shp 0 d = true → shp n d = true := fun n d h => by
    cases d <;> first | (cases n <;> rfl) | cases h
  have h1 := (Bool.and_eq_true_iff.mp h).1
  have h2 := (Bool.and_eq_true_iff.mp h).2
  unfold neG
  have k : (shp 64 (.lst xs) && shp 64 (.lst ys)) = true := by
    show (xs.all (shp 63) && ys.all (shp 63)) = true
    rw [List.all_eq_true.mpr fun x hx => up 63 x (List.all_eq_true.mp h1 x hx), List.all_eq_true.mpr fun x hx => up 63 x (List.all_eq_true.mp h2 x hx)]; rfl
  rw [if_pos k]
  rfl
theorem fPnil_e : fPnil e = .ok [] e := rfl
def pairR (a b : Rv) (t : List (D × D)) (e : Ve) : Res (List (D × D)) := match a, b with
  | .val x, .val y => .ok ((x, y) :: t) e
  | _, _ => .no
theorem fPcons_e {K V : M Rv} {r : M (List (D × D))} : fPcons K V r e = (fFrz K e).bnd fun a e1 => (fFrz V e1).bnd fun b e2 => (r e2).bnd fun t e3 => pairR a b t e3 := rfl
theorem pair_val {x y : D} {t : List (D × D)} : pairR (.val x) (.val y) t e = .ok ((x, y) :: t) e := rfl
theorem fDisp_e {F : M (List (D × D))} : fDisp F e = (F e).bnd fun ps e1 => obn (keyP ps) fun kvs => ifb (decide (kvs.length ≤ 15)) (.ok (.fresh (.dct (putAll kvs))) e1) .no := by
  unfold fDisp M.bind Res.bnd
  cases F e with
  | no => rfl
  | er x e1 => rfl
  | ok ps e1 =>
    show (match keyP ps with | some kvs => if kvs.length ≤ 15 then _ else _ | none => _) = obn (keyP ps) _
    cases keyP ps with
    | none => rfl
    | some kvs =>
      show (if kvs.length ≤ 15 then _ else _) = ifb (decide (kvs.length ≤ 15)) _ _
      by_cases h : kvs.length ≤ 15
      · rw [if_pos h, decide_eq_true h]; rfl
      · rw [if_neg h, decide_eq_false h]; rfl
theorem keyP_nil : keyP [] = some [] := rfl
theorem keyP_cons {k : List Nat} {r : List (D × D)} : keyP ((.str k, d) :: r) = (keyP r).map ((k, d) :: ·) := rfl
theorem putAll_1 {k : List Nat} : putAll [(k, d)] = [(k, d)] := rfl
def rngR2 (r r2 : Rv) (e : Ve) : Res (List D) := match r, r2 with
  | .val (.int i), .val (.int j) => if -(2 ^ 62) ≤ i ∧ i < 2 ^ 62 ∧ -(2 ^ 62) ≤ j ∧ j < 2 ^ 62 then .ok (rngD i (j - i).toNat) e else .no
  | _, _ => .no
theorem fRng2_e {A B : M Rv} : fRng2 A B e = (A e).bnd fun r e1 => (B e1).bnd fun r2 e2 => rngR2 r r2 e2 := by
  unfold fRng2 M.bind Res.bnd
  cases A e with
  | no => rfl
  | er x e1 => rfl
  | ok a e1 =>
    cases B e1 with
    | no => rfl
    | er x e2 => rfl
    | ok b e2 => rfl
theorem rngR2_int {i j : Int} (h : -1000000000 ≤ i ∧ i ≤ 1000000000 ∧ -1000000000 ≤ j ∧ j ≤ 1000000000) : rngR2 (.val (.int i)) (.val (.int j)) e = .ok (rngD i (j - i).toNat) e := by
  show (if -(2 ^ 62) ≤ i ∧ i < 2 ^ 62 ∧ -(2 ^ 62) ≤ j ∧ j < 2 ^ 62 then _ else _) = _
  rw [if_pos (by omega)]
theorem fIsC_e {cs : List (Str × Bool)} {A : M Rv} : fIsC cs A e = (A e).bnd fun r e1 => obn (deref r e1) fun d => obn (isCT cs d) fun b => .ok (.val (.bl b)) e1 := by
  unfold fIsC M.bind Res.bnd
  cases A e with
  | no => rfl
  | er x e1 => rfl
  | ok r e1 =>
    show (match deref r e1 with | some d => (match isCT cs d with | some b => _ | none => _) | none => _) = obn (deref r e1) _
    cases deref r e1 with
    | none => rfl
    | some d =>
      show (match isCT cs d with | some b => _ | none => _) = obn (isCT cs d) _
      cases isCT cs d <;> rfl
def eqR (T : Str → Option (List Sl → Res Rv)) (ts : List Str) (f : Res Rv → Res Rv) (a b : Rv) (e : Ve) : Res Rv := match a, b with
  | .val (.ins c fs), .val d => (match T c with
    | some F => if othOk ts d = true then f (callB F [.val (.ins c fs), .val d] e) else .no
    | none => .no)
  | _, _ => .no
theorem fEqI_e {T : Str → Option (List Sl → Res Rv)} {ts : List Str} {A B : M Rv} : fEqI T ts A B e = (fFrz A e).bnd fun a e1 => (fFrz B e1).bnd fun b e2 => eqR T ts noEr a b e2 := rfl
theorem fNeI_e {T : Str → Option (List Sl → Res Rv)} {ts : List Str} {A B : M Rv} : fNeI T ts A B e = (fFrz A e).bnd fun a e1 => (fFrz B e1).bnd fun b e2 => eqR T ts notR a b e2 := rfl
theorem noEr_ok {r : Rv} : noEr (.ok r e) = .ok r e := rfl
theorem notR_bl {b : Bool} : notR (.ok (.val (.bl b)) e) = .ok (.val (.bl (!b))) e := rfl
def strIR (T : Str → Option (List Sl → Res Rv)) (a : Rv) (e : Ve) : Res Rv := match a with
  | .val (.ins c fs) => (match T c with
    | some F => strR (callB F [.val (.ins c fs)] e)
    | none => .no)
  | _ => .no
theorem fStrI_e {T : Str → Option (List Sl → Res Rv)} {A : M Rv} : fStrI T A e = (fFrz A e).bnd fun a e1 => strIR T a e1 := rfl
theorem strIR_ins {T : Str → Option (List Sl → Res Rv)} {c : Str} {fs : List (Str × D)} : strIR T (.val (.ins c fs)) e = obn (T c) fun F => strR (callB F [.val (.ins c fs)] e) := by
  show (match T c with | some F => _ | none => _) = obn (T c) _
  cases T c <;> rfl
theorem strR_str {l : List Nat} : strR (.ok (.val (.str l)) e) = .ok (.val (.str l)) e := rfl
theorem ordD_1 (c : Nat) : ordD [.str [c]] = some (.val (.int c)) := rfl
end
def stoS : Sl → Bool
  | .un => true
  | .sh _ => true
  | .ow _ => true
  | _ => false
def stoO : Option Sl → Bool
  | some s => stoS s
  | none => false
theorem canSto_e {e : Ve} {i : Nat} : canSto e i = stoO e[i]? := by
  unfold canSto stoO
  cases e[i]? with
  | none => rfl
  | some s => cases s <;> rfl
theorem stoO_some {s : Sl} : stoO (some s) = stoS s := rfl
theorem stoS_un : stoS .un = true := rfl
theorem stoS_sh {d : D} : stoS (.sh d) = true := rfl
theorem stoS_ow {d : D} : stoS (.ow d) = true := rfl
end Vs

set_option maxRecDepth 100000
set_option maxHeartbeats 2000000
namespace Vs
open PySem PySem.Spec PyProof.Rows L2 Fw SX
section
variable {A : M Rv} {e : Ve} {d : D}
def enumTR : Rv → Ve → Res (List D)
  | .val (.tup ds), e => .ok (enumD 0 ds) e
  | _, _ => .no
theorem fEnumT_e : fEnumT A e = (fFrz A e).bnd enumTR := by
  unfold fEnumT M.bind Res.bnd
  cases fFrz A e with
  | no => rfl
  | er x e1 => rfl
  | ok a e1 => cases a with
    | val d => cases d <;> rfl
    | _ => rfl
theorem enumT_tup {ds : List D} : enumTR (.val (.tup ds)) e = .ok (enumD 0 ds) e := rfl
def padR (k : Nat) : Rv → Ve → Res Rv
  | .val (.int i), e => ifb (decide (0 ≤ i ∧ i < 260)) (.ok (.val (.str (padD k i.toNat))) e) .no
  | _, _ => .no
theorem fPad_e {k : Nat} : fPad k A e = (A e).bnd (padR k) := by
  unfold fPad M.bind Res.bnd
  cases A e with
  | no => rfl
  | er x e1 => rfl
  | ok a e1 => cases a with
    | val d => cases d <;> first | rfl | exact ite_ifb
    | _ => rfl
theorem pad_int {k : Nat} {i : Int} : padR k (.val (.int i)) e = ifb (decide (0 ≤ i ∧ i < 260)) (.ok (.val (.str (padD k i.toNat))) e) .no := rfl
def methKR (T : Str → Option (List Sl → Res Rv)) (m : Str) (A B : M (List Rv)) (o : Rv) (e0 : Ve) : Option D → Res Rv
  | some (.ins c fs) => ifb (fs.lookup m).isNone (obn (T c) fun F => (A e0).bnd fun rs e1 => (B e1).bnd fun zs e2 => callB F (o :: (rs ++ zs)) e2) .no
  | _ => .no
theorem fMethK_e {T : Str → Option (List Sl → Res Rv)} {m : Str} {O : M Rv} {L Z : M (List Rv)} : fMethK T m O L Z e = (O e).bnd fun o e0 => methKR T m L Z o e0 (deref o e0) := by
  unfold fMethK M.bind Res.bnd
  cases O e with
  | no => rfl
  | er x e1 => rfl
  | ok o e0 =>
    simp only
    cases deref o e0 with
    | none => rfl
    | some d =>
      cases d <;> try rfl
      rename_i c fs
      unfold methKR
      simp only
      cases (fs.lookup m).isNone with
      | false => rfl
      | true =>
        rw [if_pos rfl]
        cases T c with
        | none => rfl
        | some F => rfl
theorem methKR_ins {T : Str → Option (List Sl → Res Rv)} {m : Str} {L Z : M (List Rv)} {o : Rv} {c : Str} {fs : List (Str × D)} : methKR T m L Z o e (some (.ins c fs)) = ifb (fs.lookup m).isNone (obn (T c) fun F => (L e).bnd fun rs e1 => (Z e1).bnd fun zs e2 => callB F (o :: (rs ++ zs)) e2) .no := rfl
end
end Vs

set_option maxRecDepth 100000
set_option maxHeartbeats 2000000
namespace Vs
open PySem PySem.Spec PyProof.Rows L2 Fw SX
section
open PySem.W Builtin
variable {prog : Program} {w : World} {A : Around} {E : Value → Shared → Prop} {s : Shared} {K : PySem.W.Frag} {x C f : Addr} {ox : Obj} {od : Option Obj}
end
/-- the class's own def under a special name -/
def SpD (m : Str) (P : Program) (mg : Str → Option Value) (base : Heap) (g : Gm) (j : Nat) (T : Str → Option (List Sl → Res Rv)) : Prop :=
  ∀ c F, T c = some F → ∃ f, PySem.W.findIn g.K (.ref (g.ca c)) m = some (some (.ref f)) ∧ PySem.W.isFn g.K (.ref f) = true ∧ FnK P g.w g.K mg base (L2.CX P g.w) j f [] (spR g F)
def lenRR : Res Rv → Res Rv
  | .ok (.val (.int i)) e => if 0 ≤ i ∧ i < 2 ^ 60 then .ok (.val (.int i)) e else .no
  | _ => .no
def fLenI (T : Str → Option (List Sl → Res Rv)) (A : M Rv) : M Rv := (fFrz A).bind fun a e => match a with
  | .val (.ins c fs) => (match T c with
    | some F => lenRR (callB F [.val (.ins c fs)] e)
    | none => .no)
  | _ => .no
def rLenO (P : Program) (w : World) (K : PySem.W.Frag) (mg : Str → Option Value) (base : Heap) (k : Nat) : List V → Hp → VK → Prop := fun xs H Q => ∃ (p C dx : Addr) (fs : List (Str × V)) (f : Addr) (sp : Sp), xs = [.ref p] ∧ H p = some (.ins C dx fs) ∧ PySem.W.findIn K (.ref C) "__len__" = some (some (.ref f)) ∧ PySem.W.isFn K (.ref f) = true ∧
  FnK P w K mg base (L2.CX P w) k f [] sp ∧ sp [.ref p] H (fun v H' => ∃ i : Int, v = .int i ∧ 0 ≤ i ∧ i < 2 ^ 60 ∧ Q (.int i) H') (fun _ _ _ => False)
section
variable {g : Gm} {W : WX} {k : Nat} {X : Cx}
theorem Pst.lenRR {σ : L2.St} {G H : Hp} {e : Ve} {Q : VK} {r : Res Rv} (h : Pst g W σ G H e (fun r G' H' e' => ∀ v, RvOk g G' H' σ e' H r v → Q v H') (lenRR r)) : Pst g (fun _ _ _ _ => False) σ G H e (fun r G' H' e' => ∀ v, RvOk g G' H' σ e' H r v → ∃ i : Int, v = .int i ∧ 0 ≤ i ∧ i < 2 ^ 60 ∧ Q (.int i) H') r := by
  match r, h with
  | .ok (.val (.int i)) e', h =>
    unfold Vs.lenRR at h
    by_cases c : 0 ≤ i ∧ i < 2 ^ 60
    · simp only [if_pos c] at h
      exact fun G' H' t v ok => ⟨i, ok, c.1, c.2, ok ▸ h G' H' t v ok⟩
    · simp only [if_neg c] at h
      exact h.elim
  | .no, h => exact h
  | .er _ _, h => exact h.elim
  | .ok (.slot _) _, h => exact h.elim
  | .ok (.fresh _) _, h => exact h.elim
  | .ok (.val .non) _, h => exact h.elim
  | .ok (.val (.str _)) _, h => exact h.elim
  | .ok (.val (.bl _)) _, h => exact h.elim
  | .ok (.val (.lst _)) _, h => exact h.elim
  | .ok (.val (.tup _)) _, h => exact h.elim
  | .ok (.val (.dct _)) _, h => exact h.elim
  | .ok (.val (.set _)) _, h => exact h.elim
  | .ok (.val (.ins _ _)) _, h => exact h.elim
  | .ok (.val (.con _)) _, h => exact h.elim
  | .ok (.val (.scr _)) _, h => exact h.elim
end
def boolRR (neg : Bool) : Res Rv → Res Rv
  | .ok (.val (.bl b)) e => .ok (.val (.bl (if neg then !b else b))) e
  | _ => .no
def fInI (T : Str → Option (List Sl → Res Rv)) (neg : Bool) (A B : M Rv) : M Rv := (fFrz A).bind fun a => (fFrz B).bind fun b e => match a, b with
  | .val d, .val (.ins c fs) => (match T c with
    | some F => boolRR neg (callB F [.val (.ins c fs), .val d] e)
    | none => .no)
  | _, _ => .no
def rInO (neg : Bool) (P : Program) (w : World) (K : PySem.W.Frag) (mg : Str → Option Value) (base : Heap) (k : Nat) : R2 := fun x y H Q => ∃ (p C dx : Addr) (fs : List (Str × V)) (f : Addr) (sp : Sp), y = .ref p ∧ H p = some (.ins C dx fs) ∧ PySem.W.findIn K (.ref C) "__contains__" = some (some (.ref f)) ∧ PySem.W.isFn K (.ref f) = true ∧
  FnK P w K mg base (L2.CX P w) k f [] sp ∧ sp [y, x] H (fun v H' => ∃ b, v = .bl b ∧ Q (.bl (if neg then !b else b)) H') (fun _ _ _ => False)
section
variable {g : Gm} {W : WX} {k : Nat} {X : Cx}
theorem Pst.boolRR {neg : Bool} {σ : L2.St} {G H : Hp} {e : Ve} {Q : VK} {r : Res Rv} (h : Pst g W σ G H e (fun r G' H' e' => ∀ v, RvOk g G' H' σ e' H r v → Q v H') (boolRR neg r)) : Pst g (fun _ _ _ _ => False) σ G H e (fun r G' H' e' => ∀ v, RvOk g G' H' σ e' H r v → ∃ b, v = .bl b ∧ Q (.bl (if neg then !b else b)) H') r := by
  match r, h with
  | .ok (.val (.bl b)) e', h => exact fun G' H' t v ok => ⟨b, ok, h G' H' t _ rfl⟩
  | .no, h => exact h
  | .er _ _, h => exact h.elim
  | .ok (.slot _) _, h => exact h.elim
  | .ok (.fresh _) _, h => exact h.elim
  | .ok (.val .non) _, h => exact h.elim
  | .ok (.val (.str _)) _, h => exact h.elim
  | .ok (.val (.int _)) _, h => exact h.elim
  | .ok (.val (.lst _)) _, h => exact h.elim
  | .ok (.val (.tup _)) _, h => exact h.elim
  | .ok (.val (.dct _)) _, h => exact h.elim
  | .ok (.val (.set _)) _, h => exact h.elim
  | .ok (.val (.ins _ _)) _, h => exact h.elim
  | .ok (.val (.con _)) _, h => exact h.elim
  | .ok (.val (.scr _)) _, h => exact h.elim
end
end Vs

set_option maxRecDepth 100000
set_option maxHeartbeats 2000000
namespace Vs
open PySem PySem.Spec PyProof.Rows L2 Fw SX
def gAttr (K : PySem.W.Frag) (to : TE) (f : Str) : TG := fun v σ H Q => to σ H fun x H1 => ∃ a C dx fs, x = .ref a ∧ H1 a = some (.ins C dx fs) ∧ Cls K C ∧ NoAttr K C f ∧ fs.length < 1000 ∧ Q σ (upd H1 a (.ins C dx (putF f v fs)))
/-- one field, its value there -/
def setF1 (cs : List Str) (f : Str) (i : Nat) (d : D) : M Ctl := fSetF cs f i (fC d)
section
variable {g : Gm} {W : WX} {k : Nat} {X : Cx} {G H : Hp} {σ : L2.St} {e : Ve} {cs : List Str} {f : Str} {i : Nat} {d : D} {v : V} {D' : Ends}
end
/-- x.f1, x.f2, x.f3 = .. -/
def fSet3F (cs : List Str) (f1 f2 f3 : Str) (i : Nat) (A : M (List Rv)) : M Ctl := A.bind fun rs => match rs with
  | [.val d1, .val d2, .val d3] => (setF1 cs f1 i d1).bind fun _ => (setF1 cs f2 i d2).bind fun _ => (setF1 cs f3 i d3).bind fun _ => M.ret .nx
  | _ => fun _ => .no
section
variable {g : Gm} {W : WX} {k : Nat} {X : Cx}
end
end Vs

set_option maxRecDepth 100000
set_option maxHeartbeats 2000000
namespace Vs
open PySem PySem.Spec PyProof.Rows L2 Fw SX
abbrev SC (elt t0 i0 t1 i1 : Expr) (f0 f1 : List Expr) (scope : Scope) (pos : Pos) : Expr := .SetComp elt [⟨t0, i0, f0, 0⟩, ⟨t1, i1, f1, 0⟩] scope pos
/-- one turn of a clause: the next one is stored, the tests are asked -/
def clauseS {α : Type} (tg : Expr) (ifs : List Expr) (env : PySem.Env) (it : Value) (stop : α) (cont : Bool → Sem α) : Sem α := do
  match ← pyNext it with
  | none => pure stop
  | some v => do
    letOwnedTupleGo tg it v
    assign tg env v
    let ok ← forIn ifs true fun c r => if r = true then (do let ok ← isTrue c env (eval c env); pure (ForInStep.yield ok)) else pure (ForInStep.yield r)
    cont ok
section
variable {elt t0 i0 t1 i1 : Expr} {f0 f1 : List Expr} {scope : Scope} {pos : Pos} {it acc : Value} {env : PySem.Env}
end
/-- what the inner clause does, turn by turn -/
def CmI (w : World) (D : Addr) (g1 : TG) (tt1 : TT) (te : TE) (vs1 : List Nat) (σ2 : L2.St) (J1 : It) (Nx : Hp → Prop) (W1 : Nat → Nat → Hp → Prop) : Prop :=
  ∀ j k H, W1 j k H → (J1.stop j H ∧ Nx H) ∨ (J1.go j H ∧ ∃ N1 : Hp → Prop, (∀ H', N1 H' → ∃ k', k' < k ∧ W1 (j + 1) k' H') ∧ ∀ x H', J1.yld j H x H' → g1 x (wipe σ2 vs1) H' fun σ3 H5 => wipe σ3 vs1 = wipe σ2 vs1 ∧ tt1 σ3 H5 fun b H6 =>
    if b = true then te σ3 H6 (fun y H7 => ∃ t L, y = .str t ∧ H7 D = some (SetS w D L) ∧ L.length + 1 < scanBound ∧ ∀ L', (t ∈ L → L' = L) → (t ∉ L → L'.Perm (t :: L)) → N1 (upd H7 D (SetS w D L'))) else N1 H6)
/-- .. the outer one -/
def CmO (w : World) (D : Addr) (g : TG) (tt : TT) (wi1 : TI) (g1 : TG) (tt1 : TT) (te : TE) (vs vs1 : List Nat) (σ : L2.St) (J : It) (Z : Hp → Prop) (W : Nat → Nat → Hp → Prop) : Prop :=
  ∀ i m H, W i m H → (J.stop i H ∧ Z H) ∨ (J.go i H ∧ ∃ Nx : Hp → Prop, (∀ H', Nx H' → ∃ m', m' < m ∧ W (i + 1) m' H') ∧ ∀ x H', J.yld i H x H' → g x (wipe σ vs) H' fun σ2 H2 => wipe σ2 vs = wipe σ vs ∧ tt σ2 H2 fun b H3 =>
    if b = true then wi1 σ2 H3 (fun J1 H4 => ∃ W1, (∃ k, W1 0 k H4) ∧ CmI w D g1 tt1 te vs1 σ2 J1 Nx W1) else Nx H3)
def tSc2 (w : World) (wi : TI) (g : TG) (tt : TT) (wi1 : TI) (g1 : TG) (tt1 : TT) (te : TE) (vs vs1 : List Nat) : TE := fun σ H Q => wi σ H fun J H1 => ∀ D, H1 D = none → ∃ W, (∃ m, W 0 m (upd H1 D (SetS w D []))) ∧ CmO w D g tt wi1 g1 tt1 te vs vs1 σ J (Q (.ref D)) W
section
variable {Y : Cx} {elt t0 i0 t1 i1 : Expr} {f0 f1 : List Expr} {scope : Scope} {pos : Pos}
end
section
variable {X : Cx} {elt t0 i0 t1 i1 : Expr} {f0 f1 : List Expr} {scope : Scope} {own : List (Str × Nat)} {vs1 : List Nat} {pos : Pos} {wi wi1 : TI} {g g1 : TG} {tt tt1 : TT} {te : TE}
end
end Vs

set_option maxRecDepth 100000
set_option maxHeartbeats 2000000
namespace Vs
open PySem PySem.Spec PyProof.Rows L2 Fw SX
section
variable {g : Gm} {G H G1 H1 G2 H2 : Hp} {σ σ1 σ2 : L2.St} {e e1 e2 : Ve} {vs is vs1 : List Nat} {Da p : Addr} {L : List Str} {o : HO}
theorem SR.putS (sr : SR g G H σ e) (n : G p = none) (nr : ∀ i, ¬ Rt σ e i p) (h1 : ∀ o ps, H p = some o → o ≠ .tbl ps) (h2 : ∀ o ob u, H p = some o → o ≠ .frz ob u) : SR g G (upd H p o) σ e := by
  refine ⟨sr.bs.put n, sr.tabs.kept fun a ps z => ?_, sr.scr.keep fun ob u z => ?_, sr.len, fun i => ?_, sr.inj⟩
  · rw [upd_ne fun y => h1 _ ps (show H p = some (.tbl ps) by rw [← y]; exact z) rfl]; exact z
  · rw [upd_ne fun y => h2 _ ob _ (show H p = some (.frz ob _) by rw [← y]; exact z) rfl]; exact z
  · have sl := sr.slot i
    cases q : e[i]? with
    | none => trivial
    | some s =>
      rw [q] at sl
      cases s with
      | un => trivial
      | sh d => exact sl
      | bf d => exact sl
      | lo d =>
        obtain ⟨p', ev', n', ow⟩ := sl
        obtain ⟨ob, u, ho, _⟩ := ow.there
        exact ⟨p', ev', n', ow.mono (Le.refl G) (upd_ne fun z => h2 _ ob u (show H p = some (.frz ob u) by rw [← z]; exact ho) rfl)⟩
      | ow d =>
        obtain ⟨p', ev', n', ow⟩ := sl
        exact ⟨p', ev', n', ow.mono (Le.refl G) (upd_ne fun z => nr i ⟨by rw [q]; trivial, by rw [ev', z]⟩)⟩
      | bo d =>
        obtain ⟨p', ev', n', ow⟩ := sl
        exact ⟨p', ev', n', ow.mono (Le.refl G) (upd_ne fun z => nr i ⟨by rw [q]; trivial, by rw [ev', z]⟩)⟩
theorem St.putS (t : St g G H σ e G1 H1 σ1 e1) (h0 : H p = none) (n : G1 p = none) (nr : ∀ i, ¬ Rt σ1 e1 i p) (h1 : ∀ o ps, H1 p = some o → o ≠ .tbl ps) (h2 : ∀ o ob u, H1 p = some o → o ≠ .frz ob u) : St g G H σ e G1 (upd H1 p o) σ1 e1 :=
  ⟨t.sr.putS n nr h1 h2, t.ln, t.le, fun a u h m nt => by rw [upd_ne (ne_of_none h h0)]; exact t.keep a u h m nt, fun a h => by
    by_cases z : a = p
    · rw [z]; exact h0
    · rw [upd_ne z] at h; exact t.dom a h, t.new, t.rts, t.rto, t.bor, t.bof, t.nlo⟩
/-- a state within a set comprehension: the set at Da holds L so far -/
structure Ls (g : Gm) (G H : Hp) (σ : L2.St) (e : Ve) (vs : List Nat) (Da : Addr) (σ' : L2.St) (L : List Str) (G' H' : Hp) (e' : Ve) : Prop where
  st : St g G H σ e G' H' σ' e'
  vo : VeOff vs (wipeV e vs) e'
  un : ∀ j ∈ vs, ∀ s, e'[j]? = some s → s = .un ∨ ∃ d, s = .sh d
  wp : wipe σ' vs = wipe σ vs
  hD : H' Da = some (SetS g.w Da L)
  nD : G' Da = none
  nr : ∀ i, ¬ Rt σ' e' i Da
theorem Ls.grow (l : Ls g G H σ e vs Da σ1 L G1 H1 e1) (gr : Grow G1 H1 G2 H2) : Ls g G H σ e vs Da σ1 L G2 H2 e1 :=
  ⟨l.st.trans (gr.tr l.st.sr).st, l.vo, l.un, l.wp, gr.keep _ _ l.hD, gr.new _ l.nD (by rw [l.hD]; exact fun z => nomatch z), l.nr⟩
theorem Ls.tr (l : Ls g G H σ e vs Da σ1 L G1 H1 e1) (t : Tr g σ1 G1 H1 e1 G2 H2 e2) : Ls g G H σ e vs Da σ1 L G2 H2 e2 := by
  have at_ : ∀ (j : Nat) (s : Sl), e2[j]? = some s → ∃ s0, e1[j]? = some s0 ∧ SlLe s0 s := fun j s h => by
    have hl : j < e1.length := by rw [← t.ve.len]; exact lt_of_some h
    obtain ⟨s', h', le⟩ := t.ve.at_ j e1[j] (List.getElem?_eq_getElem hl)
    rw [h] at h'; cases h'
    exact ⟨_, List.getElem?_eq_getElem hl, le⟩
  refine ⟨l.st.trans t.st, l.vo.trans t.ve.off, fun j hj s h => ?_, l.wp, t.keep _ _ l.hD l.nr (fun ps z => nomatch z), t.new _ l.nD (by rw [l.hD]; exact fun z => nomatch z) l.nr, fun i r => ?_⟩
  · obtain ⟨s0, h0, le⟩ := at_ j s h
    rcases l.un j hj s0 h0 with z | ⟨d', z⟩
    · rw [z] at le; exact .inl le
    · rw [z] at le; exact .inr ⟨d', le⟩
  · obtain ⟨r1, r2⟩ := r
    cases q : e2[i]? with
    | none => rw [q] at r1; exact r1
    | some s =>
      rw [q] at r1
      obtain ⟨s0, h0, le⟩ := at_ i s q
      exact l.nr i ⟨by rw [h0]; exact isOw_back le r1, r2⟩
theorem Ls.sto {F : D → M Unit} {d : D} (l : Ls g G H σ e vs Da σ1 L G1 H1 e1) (hs : StoF F is vs) (qf : F d e1 = .ok () e2) (st : St g G H σ e G1 H1 σ2 e2) (off : ∀ j, j ∉ is → σ2[j]? = σ1[j]?) : Ls g G H σ e vs Da σ2 L G1 H1 e2 := by
  have len2 : e2.length = e1.length := hs.len d e1 e2 qf
  have lenσ : σ2.length = σ1.length := by rw [← st.sr.len, len2, l.st.sr.len]
  have un2 : ∀ j ∈ vs, ∀ s, e2[j]? = some s → s = .un ∨ ∃ d, s = .sh d := fun j hj s h => by
    by_cases hm : j ∈ is
    · obtain ⟨d', h'⟩ := hs.oth d e1 e2 j qf hm
      rw [h'] at h; cases h; exact .inr ⟨d', rfl⟩
    · rw [hs.off d e1 e2 j qf hm] at h
      exact l.un j hj s h
  refine ⟨st, l.vo.trans ⟨len2, fun j s n h => ⟨s, by rw [hs.off d e1 e2 j qf fun z => n (hs.sub j z)]; exact h, SlLe.refl s⟩⟩, un2, ?_, l.hD, l.nD, fun i r => ?_⟩
  · rw [wipe_ext lenσ fun j hj => off j fun z => hj (hs.sub j z), l.wp]
  · by_cases hm : i ∈ vs
    · obtain ⟨r1, _⟩ := r
      cases qq : e2[i]? with
      | none => rw [qq] at r1; exact r1
      | some s =>
        rw [qq] at r1
        rcases un2 i hm s qq with rfl | ⟨d', rfl⟩ <;> exact r1
    · obtain ⟨r1, r2⟩ := r
      rw [off i fun z => hm (hs.sub i z)] at r2
      rw [hs.off d e1 e2 i qf fun z => hm (hs.sub i z)] at r1
      exact l.nr i ⟨r1, r2⟩
theorem Ls.put (l : Ls g G H σ e vs Da σ1 L G1 H1 e1) (h0 : H Da = none) (L' : List Str) : Ls g G H σ e vs Da σ1 L' G1 (upd H1 Da (SetS g.w Da L')) e1 :=
  ⟨l.st.putS h0 l.nD l.nr (fun o ps z => by rw [l.hD] at z; cases z; exact fun y => nomatch y) (fun o ob u z => by rw [l.hD] at z; cases z; exact fun y => nomatch y), l.vo, l.un, l.wp, upd_same, l.nD, l.nr⟩
theorem Ls.wiped (l : Ls g G H σ e vs Da σ1 L G1 H1 e1) (hv : ∀ i ∈ vs1, i ∈ vs) : Ls g G H σ e vs Da (wipe σ1 vs1) L G1 H1 (wipeV e1 vs1) := by
  have un : ∀ j ∈ vs, ∀ s, (wipeV e1 vs1)[j]? = some s → s = .un ∨ ∃ d, s = .sh d := fun j hj s h => by
    by_cases hm : j ∈ vs1
    · have hl : j < e1.length := by rw [← wipeV_len vs1]; exact lt_of_some h
      rw [wipeV_in hl hm] at h
      cases h; exact .inl rfl
    · rw [wipeV_out hm] at h
      exact l.un j hj s h
  refine ⟨l.st.wiped fun j hj => ⟨(fun d' z => by rcases l.un j (hv j hj) _ z with y | ⟨_, y⟩ <;> cases y), (fun s fx z => by rcases l.un j (hv j hj) _ z with y | ⟨_, y⟩ <;> rw [y] at fx <;> cases fx)⟩,
    l.vo.trans ⟨wipeV_len vs1, fun j s n h => ⟨s, by rw [wipeV_out fun z => n (hv j z)]; exact h, SlLe.refl s⟩⟩, un, by rw [wipe_sub hv, l.wp], l.hD, l.nD, fun i r => ?_⟩
  obtain ⟨r1, r2⟩ := r
  obtain ⟨h1, h2⟩ := wipe_some r2
  rw [wipeV_out h2] at r1
  exact l.nr i ⟨r1, h1⟩
end
def isTxD : D → Bool
  | .str _ => true
  | _ => false
def allStr (ys : List D) : Bool := ys.all isTxD
section
variable {g : Gm}
def fSc2 (S : M (List D)) (F : D → M Unit) (T : M Bool) (S1 : M (List D)) (F1 : D → M Unit) (T1 : M Bool) (E : M Rv) (vs vs1 : List Nat) : M Rv := S.bind fun ds e => if okWipe e vs = true then (match lcL2 F T S1 F1 T1 E vs vs1 ds (wipeV e vs) with
    | .ok ys e' => if ys.length ≤ 4000 ∧ allStr ys = true then .ok (.val (.set (ys.map strOf))) (restV e e' vs) else .no
    | _ => .no) else .no
end
section
variable {g : Gm} {W : WX} {k : Nat} {X : Cx} {elt tg iter tg1 iter1 : Expr} {ifs ifs1 : List Expr} {scope : Scope} {own : List (Str × Nat)} {pos : Pos} {S S1 : M (List D)} {F F1 : D → M Unit} {is is1 vs1 : List Nat} {T T1 : M Bool} {E : M Rv}
end
end Vs

set_option maxRecDepth 100000
namespace Vs
open PySem PySem.Spec PyProof.Rows L2 Fw SX
section
variable {e : Ve} {E : M Rv} {S S1 : M (List D)} {F F1 : D → M Unit} {T T1 : M Bool} {vs vs1 : List Nat}
def scEnd (e : Ve) (vs : List Nat) : Res (List D) → Res Rv
  | .ok ys e' => ifb (decide (ys.length ≤ 4000) && allStr ys) (.ok (.val (.set (ys.map strOf))) (restV e e' vs)) .no
  | _ => .no
end
end Vs

set_option maxRecDepth 100000
set_option maxHeartbeats 2000000
namespace Vs
open PySem PySem.Spec PyProof.Rows L2 Fw SX PySem.W
def noShr (K : PySem.W.Frag) (C : Addr) : Bool := match PySem.W.clsIn K C with
  | some cd => cd.mro.all fun c => He.eqO (PySem.W.findIn K c (PySem.dunder "rshift")) (some none) && He.eqO (PySem.W.findIn K c (dunderR "rshift")) (some none)
  | none => false
section
variable {M : Model} {h : Heap} {K : PySem.W.Frag} {C : Addr}
end
section
variable {prog : Program} {w : World} {A : Around} {E : Value → Shared → Prop} {s : Shared} {K : PySem.W.Frag} {x C C2 f : Addr} {ox : Obj} {od : Option Obj} {b : Value}
end
def rShrO (P : Program) (w : World) (K : PySem.W.Frag) (mg : Str → Option Value) (base : Heap) (k : Nat) : R2 := fun x y H Q => ∃ (p C dx p2 C2 dx2 : Addr) (fs fs2 : List (Str × V)) (f : Addr) (sp : Sp), x = .ref p ∧ H p = some (.ins C dx fs) ∧ y = .ref p2 ∧ H p2 = some (.ins C2 dx2 fs2) ∧ C ≠ C2 ∧ PySem.W.selfFirst K C = true ∧
  PySem.W.findIn K (.ref C) (PySem.dunder "rshift") = some (some (.ref f)) ∧ PySem.W.isFn K (.ref f) = true ∧ noShr K C2 = true ∧ FnK P w K mg base (L2.CX P w) k f [] sp ∧ sp [x, y] H Q (fun _ _ _ => False)
def ShrD (P : Program) (mg : Str → Option Value) (base : Heap) (g : Gm) (j : Nat) (T : Str → Option (List Sl → Res Rv)) (ts : List Str) : Prop :=
  (∀ c F, T c = some F → PySem.W.selfFirst g.K (g.ca c) = true ∧ (∃ f, PySem.W.findIn g.K (.ref (g.ca c)) (PySem.dunder "rshift") = some (some (.ref f)) ∧ PySem.W.isFn g.K (.ref f) = true ∧ FnK P g.w g.K mg base (L2.CX P g.w) j f [] (spR g F)) ∧ ∀ t ∈ ts, g.ca c ≠ g.ca t) ∧ ∀ t ∈ ts, noShr g.K (g.ca t) = true
/-- x >> y -/
def fShr (T : Str → Option (List Sl → Res Rv)) (ts : List Str) (A B : M Rv) : M Rv := (fFrz A).bind fun a => (fFrz B).bind fun b e => match a, b with
  | .val (.ins c fs), .val (.ins c2 fs2) => (match T c with
    | some F => if ts.contains c2 = true then calmR (callB F [.val (.ins c fs), .val (.ins c2 fs2)] e) else .no
    | none => .no)
  | _, _ => .no
section
variable {g : Gm} {W : WX} {k : Nat} {X : Cx}
end
end Vs

set_option maxRecDepth 100000
set_option maxHeartbeats 2000000
namespace PySem.W
open PySem PySem.Calls PyProof.Rows
section
variable {K : Frag} {A : Around} {E : Value → Shared → Prop} {s : Shared}
end
end PySem.W
namespace Vs
open PySem PySem.Spec PyProof.Rows L2 Fw SX
section
variable {X : Cx} {k : Nat} {f C : Addr} {sp : Sp} {ks : List Str} {E : L2.St → XK}
end
/-- *a, a tuple, ahead of other arguments -/
def fStarA (A : M Rv) (B : M (List Rv)) : M (List Rv) := (fFrz A).bind fun a => match a with
  | .val (.tup ds) => B.bind fun rs => M.ret (ds.map Rv.val ++ rs)
  | _ => fun _ => .no
section
variable {g : Gm} {W : WX} {k : Nat} {X : Cx}
end
end Vs

set_option maxRecDepth 100000
set_option maxHeartbeats 2000000
namespace Vs
open PySem PySem.Spec PyProof.Rows L2 Fw SX
def sortLenN (ls : List (List Nat)) : List (List Nat) := ls.mergeSort fun x y => decide (x.length ≤ y.length)
def LenOf (v : Value) (l : List Nat) : Prop := ∃ t, v = .str (S l) t
section
variable {X : Cx} {pins : List (Addr × Obj)} {s : Shared} {σ : L2.St} {H : Hp} {a : Addr} {ts : List (List Nat)} {Q : VK}
def rSortLen (K : PySem.W.Frag) : List V → Hp → VK → Prop := fun xs H Q => ∃ a ts, xs = [V.ref a] ∧ SqL K H a (ts.map fun l => V.str (S l)) ∧ (∀ l ∈ ts, l.length ≤ 16777216) ∧ ∀ p, H p = none → Q (.ref p) (upd H p (.lst ((sortLenN ts).map fun l => V.str (S l))))
end
def sortLenD : List D → Option Rv
  | [.lst ds] => (match strsD ds with
    | some ls => if ls.all (fun l => decide (l.length ≤ 16777216)) = true then some (.fresh (.lst ((sortLenN ls).map .str))) else none
    | none => none)
  | _ => none
section
variable {g : Gm} {W : WX} {k : Nat} {X : Cx}
end
end Vs

set_option maxRecDepth 100000
set_option maxHeartbeats 2000000
namespace Vs
open PySem PySem.Spec PyProof.Rows L2 Fw SX
section
variable {g : Gm} {W : WX} {k : Nat} {X : Cx} {x : Str} {i : Nat} {ex ey : Expr} {A : M (List Rv)} {p apos cpos : Pos}
end
def listKD : List D → Option Rv
  | [.dct kvs] => some (.fresh (.lst (kvs.map fun kv => .str kv.1)))
  | _ => none
section
variable {g : Gm} {W : WX} {k : Nat} {X : Cx} {ex : Expr} {es : List Expr} {A : M (List Rv)} {p pos : Pos}
end
def pairsD : List D → Option (List (List Nat × D))
  | [] => some []
  | .tup [.str k, d] :: r => (pairsD r).map ((k, d) :: ·)
  | _ => none
def dictPD : List D → Option Rv
  | [.lst ds] => (pairsD ds).map fun kvs => .fresh (.dct (putAll kvs))
  | _ => none
section
variable {g : Gm} {W : WX} {k : Nat} {X : Cx} {ex : Expr} {es : List Expr} {A : M (List Rv)} {p pos : Pos}
end
end Vs

set_option maxRecDepth 100000
set_option maxHeartbeats 2000000
namespace Vs
open PySem PySem.Spec PyProof.Rows L2 Fw SX
def lIx (i : Nat) (j : Int) (e : Ve) : Option LkK := match e[i]? with
  | some (.sh (.tup ds)) => (match atI ds j with | some (.dct kvs) => some (.shd kvs) | _ => none)
  | _ => none
end Vs

set_option maxRecDepth 100000
namespace Vs
open PySem PySem.Spec PyProof.Rows L2 Fw SX
section
variable {e : Ve}
def shrR (T : Str → Option (List Sl → Res Rv)) (ts : List Str) : Rv → Rv → Ve → Res Rv
  | .val (.ins c fs), .val (.ins c2 fs2), e => obn (T c) fun F => ifb (ts.contains c2) (calmR (callB F [.val (.ins c fs), .val (.ins c2 fs2)] e)) .no
  | _, _, _ => .no
def starR (B : M (List Rv)) : Rv → Ve → Res (List Rv)
  | .val (.tup ds), e => (B e).bnd fun rs e1 => .ok (ds.map Rv.val ++ rs) e1
  | _, _ => .no
end
open He
/-- the class x's own >> -/
def shrB (x : Str) : PySem.W.Frag → Bool := fun K => PySem.W.selfFirst K (ga K x) && (eqO (PySem.W.findIn K (.ref (ga K x)) (PySem.dunder "rshift")) (some (some (.ref (ma K (ga K x) "__rshift__")))) && PySem.W.isFn K (.ref (ma K (ga K x) "__rshift__")))
def noShrB (x : Str) (ts : List Str) : PySem.W.Frag → Bool := fun K => ts.all fun t => noShr K (ga K t) && decide (ga K x ≠ ga K t)
end Vs

set_option maxRecDepth 100000
set_option maxHeartbeats 2000000
namespace Vs
open PySem PySem.Spec PyProof.Rows L2 Fw SX
section
variable {g : Gm} {G H G1 H1 : Hp} {σ σ1 : L2.St} {e e1 : Ve} {d p : Addr} {vs : List V} {od : Obj} {i : Nat} {kvs : List D}
end
/-- [.. for t in x ..], x a name -/
def fLcV (i : Nat) (F : D → M Unit) (T : M Bool) (E : M Rv) (vs : List Nat) : M Rv := fun e => match e[i]? with
  | some (.ow (.lst ds)) => okR (fun e' => e'.set i (.ow (.lst ds))) (fLc (M.ret ds) F T E vs (e.set i (.lo (.lst ds))))
  | some (.bo (.lst ds)) => okR (fun e' => e'.set i (.bo (.lst ds))) (fLc (M.ret ds) F T E vs (e.set i (.lo (.lst ds))))
  | _ => fLc (fItems (fVar i)) F T E vs e
section
variable {g : Gm} {W : WX} {k : Nat} {X : Cx} {elt tg : Expr} {ifs : List Expr} {scope : Scope} {own : List (Str × Nat)} {pos p : Pos} {F : D → M Unit} {is : List Nat} {T : M Bool} {E : M Rv} {i : Nat} {x : Str}
end
section
variable {e : Ve} {i : Nat} {F : D → M Unit} {T : M Bool} {E : M Rv} {vs : List Nat}
def lcVR (i : Nat) (F : D → M Unit) (T : M Bool) (E : M Rv) (vs : List Nat) : Option Sl → Ve → Res Rv
  | some (.ow (.lst ds)), e => okR (fun e' => e'.set i (.ow (.lst ds))) (fLc (M.ret ds) F T E vs (e.set i (.lo (.lst ds))))
  | some (.bo (.lst ds)), e => okR (fun e' => e'.set i (.bo (.lst ds))) (fLc (M.ret ds) F T E vs (e.set i (.lo (.lst ds))))
  | _, e => fLc (fItems (fVar i)) F T E vs e
end
end Vs

set_option maxRecDepth 100000
namespace Vs
open PySem PySem.Spec PyProof.Rows L2 Fw SX
section
variable {e : Ve}
def lenIR (T : Str → Option (List Sl → Res Rv)) : Rv → Ve → Res Rv
  | .val (.ins c fs), e => obn (T c) fun F => lenRR (callB F [.val (.ins c fs)] e)
  | _, _ => .no
def inIR (T : Str → Option (List Sl → Res Rv)) (neg : Bool) : Rv → Rv → Ve → Res Rv
  | .val d, .val (.ins c fs), e => obn (T c) fun F => boolRR neg (callB F [.val (.ins c fs), .val d] e)
  | _, _, _ => .no
end
end Vs

set_option maxRecDepth 100000
namespace Vs
open PySem PySem.Spec PyProof.Rows L2 Fw SX
section
variable {e : Ve} {y : Str} {outs : List Str} {i : Nat} {F : List (Str × D) → Option (List D)} {B : M Ctl} {xs : List (Str × D)}
def tryTR (y : Str) (outs : List Str) (i : Nat) (f : List (Str × D) → Option (List D)) : Res Ctl → Res Ctl
  | .er x e' => if x.1 = y ∧ i < e'.length ∧ x.2 ≠ [] then (match f x.2 with | some ds => if ds.length ≤ sizeLine then .ok (.rt (.val (.tup ds))) e' else .no | none => .no) else if x.1 ∈ outs then .er x e' else .no
  | r => r
end
end Vs

set_option maxRecDepth 100000
set_option maxHeartbeats 2000000
namespace NeL
open PySem PySem.SeqAt
open AutoSeq1 (wpAny_loadPart')
open MeetsSeq MeetsSeq2 MeetsSeq3 SeqRoads2
section
variable {prog : Program} {w : World} {A : Around} {R : Result → Shared → Prop} {l b : Addr} {N : Nat} {I : Nat → Shared → Prop}
end
section
variable {prog : Program} {w : World} {A : Around} {E : Value → Shared → Prop} {s : Shared} {l b : Addr} {N : Nat} {Q : Value → Shared → Prop}
end
end NeL
namespace Vs
open PySem PySem.Spec PyProof.Rows L2 Fw SX NdefX
/-- flat and the same -/
def sameF : D → D → Bool
  | .non, .non => true
  | .bl a, .bl b => a == b
  | .int a, .int b => a == b
  | .str a, .str b => a == b
  | _, _ => false
def sameFs : List D → List D → Bool
  | [], [] => true
  | x :: xs, y :: ys => sameF x y && sameFs xs ys
  | _, _ => false
def trueR : Res Rv → Bool
  | .ok (.val (.bl true)) _ => true
  | _ => false
/-- .. an instance by its own ==, a list of flat things item by item -/
def sameI (T : Str → Option (List Sl → Res Rv)) (ts : List Str) : D → D → Bool
  | .ins c fs, y => (match T c, y with
    | some F, .ins c' fs' => ts.contains c' && trueR (F [.sh (.ins c fs), .sh (.ins c' fs')])
    | _, _ => false)
  | .lst xs, .lst ys => sameFs xs ys
  | x, y => sameF x y
def sameIs (T : Str → Option (List Sl → Res Rv)) (ts : List Str) : List D → List D → Bool
  | [], [] => true
  | x :: xs, y :: ys => sameI T ts x y && sameIs T ts xs ys
  | _, _ => false
def neF (T : Str → Option (List Sl → Res Rv)) (ts : List Str) : List Sl → Res Rv
  | [.sh (.lst xs), .sh (.lst ys)] => if sameIs T ts xs ys = true then .ok (.val (.bl false)) [.sh (.lst xs), .sh (.lst ys)] else .no
  | _ => .no
def fNeQ (T : Str → Option (List Sl → Res Rv)) (ts : List Str) (A B : M Rv) : M Rv := (fFrz A).bind fun a => (fFrz B).bind fun b e => match a, b with
  | .val x, .val y => callB (neF T ts) [.val x, .val y] e
  | _, _ => .no
section
variable {g : Gm} {G H : Hp}
end
def rNeL (g : Gm) (T : Str → Option (List Sl → Res Rv)) (ts : List Str) : R2 := fun x y H Q => spR g (neF T ts) [x, y] H Q (fun _ _ _ => False)
section
variable {g : Gm} {W : WX} {k : Nat} {X : Cx} {T : Str → Option (List Sl → Res Rv)} {ts : List Str} {j : Nat}
end
end Vs

set_option maxRecDepth 100000
namespace Vs
open PySem PySem.Spec PyProof.Rows L2 Fw SX
section
variable {e e1 e2 : Ve} {T : Str → Option (List Sl → Res Rv)} {ts : List Str} {A B : M Rv} {xs ys : List D}
end
end Vs

set_option maxRecDepth 100000
set_option maxHeartbeats 2000000
namespace Fw
open PySem PySem.Spec PyProof.Rows L2
section
variable {P : Program} {w : World} {A : Around} {E : Value → Shared → Prop} {s : Shared}
set_option maxHeartbeats 4000000 in
end
end Fw
namespace Vs
open PySem PySem.Spec PyProof.Rows L2 Fw SX
/-- set(x), x a list of ints -/
def rSetI (K : PySem.W.Frag) (w : World) : List V → Hp → VK → Prop := fun xs H Q => ∃ a ns, xs = [V.ref a] ∧ SqL K H a ((ns : List Int).map V.int) ∧ ns.length ≤ 4000 ∧ ∀ p c, H p = none → c ≤ ns.length → Q (.ref p) (upd H p (SetO w p (fun j => decide (j ∈ ns)) c))
/-- one more int among ascending ones -/
def putI (k : Int) : List Int → List Int
  | [] => [k]
  | x :: r => if k < x then k :: x :: r else if k = x then x :: r else x :: putI k r
/-- each int once, ascending -/
def upsI : List Int → List Int
  | [] => []
  | x :: r => putI x (upsI r)
def intsD : List D → Option (List Int)
  | [] => some []
  | .int k :: r => (intsD r).map (k :: ·)
  | _ :: _ => none
/-- sorted(set(x)), x a list of fewer than 64 ints -/
def sortSetD : List D → Option Rv
  | [.lst ds] => (match intsD ds with | some ks => if ks.length < 64 then some (.fresh (.lst ((upsI ks).map .int))) else none | none => none)
  | _ => none
section
variable {g : Gm} {W : WX} {k : Nat} {X : Cx} {ex : Expr} {A : M (List Rv)} {p p2 pos pos2 : Pos}
def lstR (r : Rv) (e : Ve) : Res Rv := match r with
  | .val (.int j) => if 0 ≤ j ∧ j ≤ 16777216 then .ok (.fresh (.lst (rngD 0 j.toNat))) e else .no
  | _ => .no
def fLstRg (A : M Rv) : M Rv := A.bind lstR
theorem Reps.rng {G : Hp} (n : Nat) : Reps g G (rngD 0 n) (rgV 0 (n : Int)) := by
  have a : rngD 0 n = ((List.range n).map fun (i : Nat) => (0 + (i : Int))).map .int := by unfold rngD; rw [List.map_map]; rfl
  have b : rgV 0 (n : Int) = ((List.range n).map fun (i : Nat) => (0 + (i : Int))).map V.int := by
    unfold rgV
    rw [List.map_map, Int.sub_zero, Int.toNat_natCast]
    rfl
  rw [a, b]
  exact Reps.ints _
end
end Vs

set_option maxRecDepth 100000
namespace Vs
open PySem PySem.Spec PyProof.Rows L2 Fw SX
section
variable {e e1 : Ve} {A : M Rv} {j : Int}
end
end Vs

set_option maxRecDepth 100000
set_option maxHeartbeats 4000000
namespace La
open PySem PySem.Spec PyProof.Rows L2 Fw SX Vs
def tbOf (K : PySem.W.Frag) : LT := ⟨[], fun _ => .inl 0⟩
theorem ob_eq (s : PySem.W.SharedT) : ob s = hk.obs s.abs := obsM_eq (HandSHeadRun.getT_eq s)
local macro_rules | `(tactic| simp_arith! [$ts,*]) => `(tactic| simp only [fnF_0, fnF_1, fnF_2, fnF_3, fnF_4, fnF_5, fnF_6, fnF_7, fnF_8, ↓bnd_i, ↓obn_i, ↓ifb_i, bnd_ok, bnd_er, bnd_no, obn_some, ifb_true, ifb_false, bind_e, ret_e, map_e, fC_e, frz_val, frz_fresh, deref_val, deref_fresh, fFrz_e, fOp_e, fTest_e, tst_bl, fNil_e, fCons_e, fApp_e, derefs_nil, derefs_val, derefs_fresh, derefs_slot, fLst_e, fTup_e, fNot_e, fAnd_e, fOr_e, fIfE_e, fTru_e, ↓seq_nx, ↓seq_rt, fSeq_e, fNx_e, fExp_e, fRet_e, fRetN_e, fSet_e, sto_val, sto_fresh, sto_slot, stoD_e, fCall_e, callB_e, part_int, fPart_e, fSl_e, item_val, fItems_e, rng_int, fRng1_e, fEnum_e, enum_lst, fFor_e, ↓for_nx, ↓for_rt, fFld_e, fMth_e, end_nx, end_val, end_fresh, fMake_e, fAndV_e, fOrV_e, fNotV_e, fSetF_e, setFR, chn_t, chn_f, fChain_e, callR_ins, fCallI_e, makeB_e, fMakeK_e, fMakeK0_e, mk_bo, mk_bf, fmt_str, fmt_int, fFmt_e, js_str, fJs_nil, fJs_cons, fJoined_e, fMut_e, fSetAt_e, lcPut_val, lcL_nil, lcEnd_ok, fLc_e, fDc_e, dcEnd_ok, dcPut_e, fPar2_e, fPar3_e, par2_e, par3_e, stoN_val, stoN_fresh, fRev_e, rev_lst, gNil_e, gCons_e, gTup2, gTup3, okWipe, wipeV, restV, List.all_cons, List.all_nil, fVar, deref, frzRv, valsOf, truD, itemsD, Vs.cutD, ownD, reSl, tyD_str, tyD_lst, setAtD, argsOf, argSl, onceSl, hasSlot, backE, backGo, findSl, mrg, retRv, Vs.backV, addD_int, subD_int, modD_int, fdivD_int, pow_10_18, mulD_int, Int.cast_ofNat_Int, Int.natCast_one, Int.natCast_zero, Int.reduceBEq, Int.reduceMod, Int.reduceAdd, Int.reduceSub, beq_self_eq_true, Int.reducePow, Int.reduceNeg, Int.reduceLT, Int.reduceLE, Nat.reducePow, ltD_int, leD_int, gtD_int, geD_int, ltD_str, leD_str, gtD_str, geD_str, Vs.intD, lenD_lst, lenD_tup, lenD_scr, lenD_dct, ixA_0, ixA_1, ixA_2, ixA_scr, isE_nn, isE_in, isE_sn, isE_ln, isE_tn, isnE_nn, isnE_in, isnE_sn, isnE_ln, isnE_tn, ixN3_0, ixN3_1, ixN3_2, ix3, eqG_int, eqG_str, neG_str, eqG_bl, sz1, sz2, sz3, szn_0, szn_1, szn_2, szn_3, szn_4, szn_5, szn_6, szn_7, szn_8, szn_9, szn_10, szn_11, szn_12, szn_13, szn_14, szn_15, szn_16, List.getElem?_cons_zero, List.getElem?_cons_succ, List.set_cons_zero, List.set_cons_succ, List.length_cons, List.length_nil, List.cons_append, List.nil_append, Nat.reduceAdd, Nat.reduceSub, Nat.reduceEqDiff, Nat.zero_ne_one, Nat.one_ne_zero, reduceCtorEq, Nat.reduceBEq, Bool.false_or, Bool.or_false, Bool.true_or, Bool.or_true, List.replicate_succ, List.replicate_zero, ↓reduceIte, if_true, if_false, Option.map_some, Option.map_none, Option.bind_some, Option.bind_none, Bool.not_true, Bool.not_false, Bool.and_true, Bool.true_and, Bool.and_false, Bool.false_and, decide_true, decide_false, fLcK, fForK, lkE, lVar, okR, id_eq, fGet2_e, getR2_e, fNeg_e, negR_int, fCallV_e, callVR_e, end_slot, and_self, tyM_dct, tyM_lst, fMeth_e, methR_e, ↓wh_nx, ↓wh_rt, fAug_e, augR_sh, augR_ow, fForV_e, forVR_ow, forVR_bo, forVR_sh, forVR_bf, fRaise_e, raise_1, raise_2, end_er, fTry_e, try_ok, try_er, xNil_e, xCons_e, xC_e, xF_1, xApp_e, ordD_1, List.isEmpty_cons, Nat.reduceLT, fPnil_e, fPcons_e, pair_val, fDisp_e, keyP_nil, keyP_cons, putAll_1, Nat.reduceLeDiff, fRng2_e, fIsC_e, fEqI_e, fNeI_e, noEr_ok, notR_bl, fStrI_e, strIR_ins, strR_str, canSto_e, stoO_some, stoS_un, stoS_sh, stoS_ow, fEnumT_e, enumT_tup, fPad_e, pad_int, fMethK_e, methKR_ins, $ts,*])
abbrev N_law_bag : List Str := ["_law_script", "_law_k", "_law_cell", "_law_rest", "_law_one"]
theorem sc_law_bag : FnScope N_law_bag ["_law_script", "_law_k"] (defScope s_law_bag) := ⟨rfl, rfl, rfl, by decide +kernel, rfl, by decide +kernel, by decide +kernel⟩
def L_law_bag_1 : M Ctl :=
  (fSet 3 (fOp modD (fApp intD (fCons (fOp addD (fOp mulD (fVar 3) (fC (.int 48271))) (fVar 4)) fNil)) (fC (.int 2147483647))))
theorem L_law_bag_1_e {e : Ve} : L_law_bag_1 e = (fSet 3 (fOp modD (fApp intD (fCons (fOp addD (fOp mulD (fVar 3) (fC (.int 48271))) (fVar 4)) fNil)) (fC (.int 2147483647)))) e := rfl
def B_law_bag : M Ctl :=
  (fSeq (fSet 2 (fIfE (fTest (fOp ltD (fVar 1) (fApp lenD (fCons (fVar 0) fNil)))) (fOp ixA (fVar 0) (fVar 1)) (fC (.int 0))))
  (fSeq (fSet 3 (fOp addD (fVar 1) (fC (.int 1))))
  (fSeq (fFor (fItems (fSl (fVar 0) (M.ret none) (fPart (fC (.int 63))))) (stoD 4)
    L_law_bag_1)
  (fRet (fLst (fCons (fFrz (fVar 2)) (fCons (fFrz (fApp intD (fCons (fOp geD (fVar 2) (fOp powD (fC (.int 10)) (fC (.int 18)))) fNil))) (fCons (fFrz (fVar 3)) fNil))))))))
def F_law_bag : List Sl → Res Rv := fnF 2 5 B_law_bag
theorem o_law_bag {P : Program} {w : World} {K : PySem.W.Frag} {mg : Str → Option Value} {base : Heap} {ca : Str → Addr} {Tb : LT} {sa : Addr} {sn : List Int} {f : Addr} {fd : FuncData}   (F : FunD K "_law_bag" "_law_bag" (defArgs s_law_bag) (defBody s_law_bag) (defScope s_law_bag) [] [] f fd) (m_len : mg "len" = none) (m_int : mg "int" = none) :
    FnG P w K mg base (L2.CX P w) 1 f fd ["_law_script", "_law_k"] (spV (gm K w ca Tb sa sn) 2 F_law_bag) :=
  fn_v (k := 0) (B := B_law_bag) (N := N_law_bag) (ps := ["_law_script", "_law_k"]) F sc_law_bag fun cdv A outer s H E =>
  (vss_cons (vs_set (i := 2) rfl (.inl rfl) (ve_if (vt_c1 c_lt (ve_var (i := 1) rfl (.inl rfl)) (ve_len m_len (va_cons (ve_var (i := 0) rfl (.inl rfl)) va_nil))) (ve_sub (ve_var (i := 0) rfl (.inl rfl)) (ve_var (i := 1) rfl (.inl rfl))) ve_int))
  (vss_cons (vs_set (i := 3) rfl (.inl rfl) (ve_add (ve_var (i := 1) rfl (.inl rfl)) ve_int))
  (vss_cons (vs_for (vi_seq (ve_slice (ve_var (i := 0) rfl (.inl rfl)) vo_none (vo_some ve_int))) (vg_name (i := 4) rfl (.inl rfl))
    (vss_one (vs_set (i := 3) rfl (.inl rfl) (ve_mod (ve_intc m_int (va_cons (ve_add (ve_mul (ve_var (i := 3) rfl (.inl rfl)) ve_int) (ve_var (i := 4) rfl (.inl rfl))) va_nil)) ve_int))))
  (vss_one (vs_ret (ve_lst (va_cons (ve_frz (ve_var (i := 2) rfl (.inl rfl))) (va_cons (ve_frz (ve_intc m_int (va_cons (ve_c1 c_ge (ve_var (i := 2) rfl (.inl rfl)) (ve_pow ve_int ve_int)) va_nil))) (va_cons (ve_frz (ve_var (i := 3) rfl (.inl rfl))) va_nil)))))))))

abbrev N_law_draw : List Str := ["_law_bag_here", "_law_many", "_law_digit"]
theorem sc_law_draw : FnScope N_law_draw ["_law_bag_here", "_law_many"] (defScope s_law_draw) := ⟨rfl, rfl, rfl, by decide +kernel, rfl, by decide +kernel, by decide +kernel⟩
def B_law_draw : M Ctl :=
  (fSeq (fIfE (fAnd (fTest (fOp eqG (fOp ixA (fVar 0) (fC (.int 1))) (fC (.int 1)))) (fTest (fOp gtD (fOp ixA (fVar 0) (fC (.int 0))) (fC (.int 0)))))
    (fSeq (fSet 2 (fOp modD (fApp intD (fCons (fOp ixA (fVar 0) (fC (.int 0))) fNil)) (fVar 1)))
    (fSeq (fSetAt setAtD 0 (fC (.int 0)) (fOp fdivD (fOp ixA (fVar 0) (fC (.int 0))) (fVar 1)))
    (fRet (fVar 2))))
    fNx)
  (fSeq (fSetAt setAtD 0 (fC (.int 2)) (fOp modD (fApp intD (fCons (fOp addD (fOp mulD (fOp ixA (fVar 0) (fC (.int 2))) (fC (.int 69621))) (fC (.int 40014))) fNil)) (fC (.int 2147483563))))
  (fRet (fOp modD (fOp modD (fApp intD (fCons (fOp addD (fOp mulD (fOp fdivD (fOp ixA (fVar 0) (fC (.int 2))) (fC (.int 5))) (fC (.int 40692))) (fOp ixA (fVar 0) (fC (.int 2)))) fNil)) (fC (.int 2147483399))) (fVar 1)))))
def F_law_draw : List Sl → Res Rv := fnF 2 3 B_law_draw
theorem o_law_draw {P : Program} {w : World} {K : PySem.W.Frag} {mg : Str → Option Value} {base : Heap} {ca : Str → Addr} {Tb : LT} {sa : Addr} {sn : List Int} {f : Addr} {fd : FuncData}   (F : FunD K "_law_draw" "_law_draw" (defArgs s_law_draw) (defBody s_law_draw) (defScope s_law_draw) [] [] f fd) (m_int : mg "int" = none) :
    FnG P w K mg base (L2.CX P w) 1 f fd ["_law_bag_here", "_law_many"] (spV (gm K w ca Tb sa sn) 2 F_law_draw) :=
  fn_v (k := 0) (B := B_law_draw) (N := N_law_draw) (ps := ["_law_bag_here", "_law_many"]) F sc_law_draw fun cdv A outer s H E =>
  (vss_cons (vs_if (VW.vt (vw_and (vt_c1 c_eq (ve_sub (ve_var (i := 0) rfl (.inl rfl)) ve_int) ve_int) (vw_and1 (vt_c1 c_gt (ve_sub (ve_var (i := 0) rfl (.inl rfl)) ve_int) ve_int))))
    (vss_cons (vs_set (i := 2) rfl (.inl rfl) (ve_mod (ve_intc m_int (va_cons (ve_sub (ve_var (i := 0) rfl (.inl rfl)) ve_int) va_nil)) (ve_var (i := 1) rfl (.inl rfl))))
    (vss_cons (vs_setAt (i := 0) rfl (.inl rfl) ve_int (ve_fdiv (ve_sub (ve_var (i := 0) rfl (.inl rfl)) ve_int) (ve_var (i := 1) rfl (.inl rfl))))
    (vss_one (vs_ret (ve_var (i := 2) rfl (.inl rfl))))))
    vss_nil)
  (vss_cons (vs_setAt (i := 0) rfl (.inl rfl) ve_int (ve_mod (ve_intc m_int (va_cons (ve_add (ve_mul (ve_sub (ve_var (i := 0) rfl (.inl rfl)) ve_int) ve_int) ve_int) va_nil)) ve_int))
  (vss_one (vs_ret (ve_mod (ve_mod (ve_intc m_int (va_cons (ve_add (ve_mul (ve_fdiv (ve_sub (ve_var (i := 0) rfl (.inl rfl)) ve_int) ve_int) ve_int) (ve_sub (ve_var (i := 0) rfl (.inl rfl)) ve_int)) va_nil)) ve_int) (ve_var (i := 1) rfl (.inl rfl)))))))

abbrev N_law_string : List Str := ["_law_bag_here", "_law_signs_here", "_law_least", "_law_most", "_law_size", "_law_k"]
theorem sc_law_string : FnScope N_law_string ["_law_bag_here", "_law_signs_here", "_law_least", "_law_most"] (defScope s_law_string) := ⟨rfl, rfl, rfl, by decide +kernel, rfl, by decide +kernel, by decide +kernel⟩
def E_law_string_1 : M Rv :=
  (fOp ixA (fVar 1) (fCall F_law_draw (fCons (fVar 0) (fCons (fApp lenD (fCons (fVar 1) fNil)) fNil))))
theorem E_law_string_1_e {e : Ve} : E_law_string_1 e = (fOp ixA (fVar 1) (fCall F_law_draw (fCons (fVar 0) (fCons (fApp lenD (fCons (fVar 1) fNil)) fNil)))) e := rfl
def B_law_string : M Ctl :=
  (fSeq (fSet 4 (fOp addD (fVar 2) (fCall F_law_draw (fCons (fVar 0) (fCons (fOp addD (fOp subD (fVar 3) (fVar 2)) (fC (.int 1))) fNil)))))
  (fRet (fMth "str" joinD (fC (.str [])) (fCons (fLc (fRng1 (fVar 4)) (stoD 5) (M.ret true) E_law_string_1 [5]) fNil))))
def F_law_string : List Sl → Res Rv := fnF 4 6 B_law_string
theorem o_law_string {P : Program} {w : World} {K : PySem.W.Frag} {mg : Str → Option Value} {base : Heap} {ca : Str → Addr} {Tb : LT} {sa : Addr} {sn : List Int} {f : Addr} {fd : FuncData}   (F : FunD K "_law_string" "_law_string" (defArgs s_law_string) (defBody s_law_string) (defScope s_law_string) [] [] f fd) (d_law_draw : Df P mg base (gm K w ca Tb sa sn) "_law_draw" [] 1 F_law_draw) (m_range : mg "range" = none) (m_len : mg "len" = none) :
    FnG P w K mg base (L2.CX P w) 2 f fd ["_law_bag_here", "_law_signs_here", "_law_least", "_law_most"] (spV (gm K w ca Tb sa sn) 4 F_law_string) :=
  fn_v (k := 1) (B := B_law_string) (N := N_law_string) (ps := ["_law_bag_here", "_law_signs_here", "_law_least", "_law_most"]) F sc_law_string fun cdv A outer s H E =>
  (vss_cons (vs_set (i := 4) rfl (.inl rfl) (ve_add (ve_var (i := 2) rfl (.inl rfl)) (ve_call d_law_draw (by decide) rfl (va_cons (ve_var (i := 0) rfl (.inr (.inl rfl))) (va_cons (ve_add (ve_minus (ve_var (i := 3) rfl (.inl rfl)) (ve_var (i := 2) rfl (.inl rfl))) ve_int) va_nil)))))
  (vss_one (vs_ret (ve_join ve_str (va_cons (ve_lc (own := [("_law_k", 5)]) (vi_range1 m_range (ve_var (i := 4) rfl (.inl rfl))) (blkOk_by (own := [("_law_k", 5)]) (N := N_law_string) (sc := defScope s_law_string) (by decide +kernel)) (by decide) (fun _ _ _ _ _ => (vg_name (i := 5) rfl (.inl rfl))) (fun _ _ _ _ _ => vts_nil) (fun _ _ _ _ _ => (ve_sub (ve_var (i := 1) rfl (by first | exact .inr (.inr rfl) | exact .inr (.inl rfl) | exact .inl rfl)) (ve_call d_law_draw (by decide) rfl (va_cons (ve_var (i := 0) rfl (by first | exact .inr (.inr rfl) | exact .inr (.inl rfl) | exact .inl rfl)) (va_cons (ve_len m_len (va_cons (ve_var (i := 1) rfl (by first | exact .inr (.inr rfl) | exact .inr (.inl rfl) | exact .inl rfl)) va_nil)) va_nil)))))) va_nil)))))

abbrev N_law_characters : List Str := []
theorem sc_law_characters : FnScope N_law_characters [] (defScope s_law_characters) := ⟨rfl, rfl, rfl, by decide +kernel, rfl, by decide +kernel, by decide +kernel⟩
def B_law_characters : M Ctl :=
  (fRet (fC (.str [39, 45, 65, 66, 67, 68, 69, 70, 71, 72, 73, 74, 75, 76, 77, 78, 79, 80, 81, 82, 83, 84, 85, 86, 87, 88, 89, 90, 97, 98, 99, 100, 101, 102, 103, 104, 105, 106, 107, 108, 109, 110, 111, 112, 113, 114, 115, 116, 117, 118, 119, 120, 121, 122])))
def F_law_characters : List Sl → Res Rv := fnF 0 0 B_law_characters
theorem o_law_characters {P : Program} {w : World} {K : PySem.W.Frag} {mg : Str → Option Value} {base : Heap} {ca : Str → Addr} {Tb : LT} {sa : Addr} {sn : List Int} {f : Addr} {fd : FuncData}   (F : FunD K "_law_characters" "_law_characters" (defArgs s_law_characters) (defBody s_law_characters) (defScope s_law_characters) [] [] f fd)  :
    FnG P w K mg base (L2.CX P w) 1 f fd [] (spV (gm K w ca Tb sa sn) 0 F_law_characters) :=
  fn_v (k := 0) (B := B_law_characters) (N := N_law_characters) (ps := []) F sc_law_characters fun cdv A outer s H E =>
  (vss_one (vs_ret ve_str))

abbrev N_law_letters : List Str := ["_law_bag_here"]
theorem sc_law_letters : FnScope N_law_letters ["_law_bag_here"] (defScope s_law_letters) := ⟨rfl, rfl, rfl, by decide +kernel, rfl, by decide +kernel, by decide +kernel⟩
def B_law_letters : M Ctl :=
  (fRet (fMth "str" joinD (fC (.str [])) (fCons (fApp sortD (fCons (fApp setD (fCons (fApp listD (fCons (fCall F_law_string (fCons (fVar 0) (fCons (fCall F_law_characters fNil) (fCons (fC (.int 1)) (fCons (fC (.int 4)) fNil))))) fNil)) fNil)) fNil)) fNil)))
def F_law_letters : List Sl → Res Rv := fnF 1 1 B_law_letters
theorem o_law_letters {P : Program} {w : World} {K : PySem.W.Frag} {mg : Str → Option Value} {base : Heap} {ca : Str → Addr} {Tb : LT} {sa : Addr} {sn : List Int} {f : Addr} {fd : FuncData}   (F : FunD K "_law_letters" "_law_letters" (defArgs s_law_letters) (defBody s_law_letters) (defScope s_law_letters) [] [] f fd) (d_law_string : Df P mg base (gm K w ca Tb sa sn) "_law_string" [] 2 F_law_string) (d_law_characters : Df P mg base (gm K w ca Tb sa sn) "_law_characters" [] 1 F_law_characters) (m_list : mg "list" = none) (m_set : mg "set" = none) (m_sorted : mg "sorted" = none) :
    FnG P w K mg base (L2.CX P w) 3 f fd ["_law_bag_here"] (spV (gm K w ca Tb sa sn) 1 F_law_letters) :=
  fn_v (k := 2) (B := B_law_letters) (N := N_law_letters) (ps := ["_law_bag_here"]) F sc_law_letters fun cdv A outer s H E =>
  (vss_one (vs_ret (ve_join ve_str (va_cons (ve_sorted m_sorted (va_cons (ve_setc m_set (va_cons (ve_listc m_list (va_cons (ve_call d_law_string (by decide) rfl (va_cons (ve_var (i := 0) rfl (.inl rfl)) (va_cons (ve_call0 d_law_characters (by decide) rfl) (va_cons ve_int (va_cons ve_int va_nil))))) va_nil)) va_nil)) va_nil)) va_nil))))

abbrev N_law_items : List Str := ["_law_bag_here", "_law_letters_here", "_law_most", "_law_longest", "_law_items_here", "_law_k", "_law_signs_here"]
theorem sc_law_items : FnScope N_law_items ["_law_bag_here", "_law_letters_here", "_law_most", "_law_longest"] (defScope s_law_items) := ⟨rfl, rfl, rfl, by decide +kernel, rfl, by decide +kernel, by decide +kernel⟩
def L_law_items_1 : M Ctl :=
  (fSeq (fSet 6 (fIfE (fTest (fOp eqG (fCall F_law_draw (fCons (fVar 0) (fCons (fC (.int 4)) fNil))) (fC (.int 0)))) (fC (.str [48, 49, 50, 51, 52, 53, 54, 55, 56, 57])) (fVar 1)))
    (fExp (fMut "list" appD 4 (fCons (fFrz (fCall F_law_string (fCons (fVar 0) (fCons (fVar 6) (fCons (fC (.int 1)) (fCons (fVar 3) fNil)))))) fNil))))
theorem L_law_items_1_e {e : Ve} : L_law_items_1 e = (fSeq (fSet 6 (fIfE (fTest (fOp eqG (fCall F_law_draw (fCons (fVar 0) (fCons (fC (.int 4)) fNil))) (fC (.int 0)))) (fC (.str [48, 49, 50, 51, 52, 53, 54, 55, 56, 57])) (fVar 1)))
    (fExp (fMut "list" appD 4 (fCons (fFrz (fCall F_law_string (fCons (fVar 0) (fCons (fVar 6) (fCons (fC (.int 1)) (fCons (fVar 3) fNil)))))) fNil)))) e := rfl
def B_law_items : M Ctl :=
  (fSeq (fSet 4 (fLst fNil))
  (fSeq (fFor (fRng1 (fCall F_law_draw (fCons (fVar 0) (fCons (fOp addD (fVar 2) (fC (.int 1))) fNil)))) (stoD 5)
    L_law_items_1)
  (fRet (fVar 4))))
def F_law_items : List Sl → Res Rv := fnF 4 7 B_law_items
theorem o_law_items {P : Program} {w : World} {K : PySem.W.Frag} {mg : Str → Option Value} {base : Heap} {ca : Str → Addr} {Tb : LT} {sa : Addr} {sn : List Int} {f : Addr} {fd : FuncData}   (F : FunD K "_law_items" "_law_items" (defArgs s_law_items) (defBody s_law_items) (defScope s_law_items) [] [] f fd) (m_range : mg "range" = none) (d_law_draw : Df P mg base (gm K w ca Tb sa sn) "_law_draw" [] 1 F_law_draw) (d_law_string : Df P mg base (gm K w ca Tb sa sn) "_law_string" [] 2 F_law_string) :
    FnG P w K mg base (L2.CX P w) 3 f fd ["_law_bag_here", "_law_letters_here", "_law_most", "_law_longest"] (spV (gm K w ca Tb sa sn) 4 F_law_items) :=
  fn_v (k := 2) (B := B_law_items) (N := N_law_items) (ps := ["_law_bag_here", "_law_letters_here", "_law_most", "_law_longest"]) F sc_law_items fun cdv A outer s H E =>
  (vss_cons (vs_set (i := 4) rfl (.inl rfl) (ve_lst va_nil))
  (vss_cons (vs_for (vi_range1 m_range (ve_call d_law_draw (by decide) rfl (va_cons (ve_var (i := 0) rfl (.inl rfl)) (va_cons (ve_add (ve_var (i := 2) rfl (.inl rfl)) ve_int) va_nil)))) (vg_name (i := 5) rfl (.inl rfl))
    (vss_cons (vs_set (i := 6) rfl (.inl rfl) (ve_if (vt_c1 c_eq (ve_call d_law_draw (by decide) rfl (va_cons (ve_var (i := 0) rfl (.inl rfl)) (va_cons ve_int va_nil))) ve_int) ve_str (ve_var (i := 1) rfl (.inl rfl))))
    (vss_one (vs_expr (ve_append (i := 4) rfl (.inl rfl) (va_cons (ve_frz (ve_call d_law_string (by decide) rfl (va_cons (ve_var (i := 0) rfl (.inl rfl)) (va_cons (ve_var (i := 6) rfl (.inl rfl)) (va_cons ve_int (va_cons (ve_var (i := 3) rfl (.inl rfl)) va_nil)))))) va_nil))))))
  (vss_one (vs_ret (ve_var (i := 4) rfl (.inl rfl))))))

abbrev N_law_signs : List Str := ["_law_signs_here"]
theorem sc_law_signs : FnScope N_law_signs [] (defScope s_law_signs) := ⟨rfl, rfl, rfl, by decide +kernel, rfl, by decide +kernel, by decide +kernel⟩
def B_law_signs : M Ctl :=
  (fSeq (fSet 0 (fC (.str [32, 33, 34, 35, 36, 38, 39, 40, 41, 42, 43, 44, 45, 46, 47, 48, 49, 50, 51, 52, 53, 54, 55, 56, 57, 58, 59, 60, 61, 62, 63, 64, 65, 66, 67, 68, 69, 70, 71, 72, 73, 74, 75, 76, 77, 78, 79, 80, 81, 82, 83, 84, 85, 86, 87, 88, 89, 90, 91, 92, 93, 94, 95, 96])))
  (fRet (fOp addD (fVar 0) (fC (.str [97, 98, 99, 100, 101, 102, 103, 104, 105, 106, 107, 108, 109, 110, 111, 112, 113, 114, 115, 116, 117, 118, 119, 120, 121, 122, 123, 124, 125, 126])))))
def F_law_signs : List Sl → Res Rv := fnF 0 1 B_law_signs
theorem o_law_signs {P : Program} {w : World} {K : PySem.W.Frag} {mg : Str → Option Value} {base : Heap} {ca : Str → Addr} {Tb : LT} {sa : Addr} {sn : List Int} {f : Addr} {fd : FuncData}   (F : FunD K "_law_signs" "_law_signs" (defArgs s_law_signs) (defBody s_law_signs) (defScope s_law_signs) [] [] f fd)  :
    FnG P w K mg base (L2.CX P w) 1 f fd [] (spV (gm K w ca Tb sa sn) 0 F_law_signs) :=
  fn_v (k := 0) (B := B_law_signs) (N := N_law_signs) (ps := []) F sc_law_signs fun cdv A outer s H E =>
  (vss_cons (vs_set (i := 0) rfl (.inl rfl) ve_str)
  (vss_one (vs_ret (ve_add (ve_var (i := 0) rfl (.inl rfl)) ve_str))))

abbrev N_law_written : List Str := ["_law_bag_here", "_law_letters_here", "_law_items_here", "_law_gaps", "_law_text", "_law_k", "_law_item", "_law_is_other", "_law_sign"]
theorem sc_law_written : FnScope N_law_written ["_law_bag_here", "_law_letters_here", "_law_items_here"] (defScope s_law_written) := ⟨rfl, rfl, rfl, by decide +kernel, rfl, by decide +kernel, by decide +kernel⟩
def Q_law_written_1 : M Bool :=
  (fAnd (fTest (fOp (boolV inA true) (fVar 8) (fVar 1))) (fTest (fOp (boolV inA true) (fVar 8) (fC (.str [48, 49, 50, 51, 52, 53, 54, 55, 56, 57])))))
theorem Q_law_written_1_e {e : Ve} : Q_law_written_1 e = (fAnd (fTest (fOp (boolV inA true) (fVar 8) (fVar 1))) (fTest (fOp (boolV inA true) (fVar 8) (fC (.str [48, 49, 50, 51, 52, 53, 54, 55, 56, 57]))))) e := rfl
def L_law_written_1 : M Ctl :=
  (fSeq (fIfE (fTest (fOp gtD (fVar 5) (fC (.int 0))))
      (fSeq (fSet 7 (fOp neG (fOp (boolV inA false) (fOp ixA (fVar 6) (fC (.int 0))) (fVar 1)) (fOp (boolV inA false) (fOp ixA (fOp ixA (fVar 2) (fOp subD (fVar 5) (fC (.int 1)))) (fC (.int 0))) (fVar 1))))
      (fSet 4 (fOp addD (fVar 4) (fCall F_law_string (fCons (fVar 0) (fCons (fVar 3) (fCons (fOp subD (fC (.int 1)) (fApp intD (fCons (fVar 7) fNil))) (fCons (fC (.int 3)) fNil))))))))
      fNx)
    (fSet 4 (fOp addD (fVar 4) (fVar 6))))
theorem L_law_written_1_e {e : Ve} : L_law_written_1 e = (fSeq (fIfE (fTest (fOp gtD (fVar 5) (fC (.int 0))))
      (fSeq (fSet 7 (fOp neG (fOp (boolV inA false) (fOp ixA (fVar 6) (fC (.int 0))) (fVar 1)) (fOp (boolV inA false) (fOp ixA (fOp ixA (fVar 2) (fOp subD (fVar 5) (fC (.int 1)))) (fC (.int 0))) (fVar 1))))
      (fSet 4 (fOp addD (fVar 4) (fCall F_law_string (fCons (fVar 0) (fCons (fVar 3) (fCons (fOp subD (fC (.int 1)) (fApp intD (fCons (fVar 7) fNil))) (fCons (fC (.int 3)) fNil))))))))
      fNx)
    (fSet 4 (fOp addD (fVar 4) (fVar 6)))) e := rfl
def B_law_written : M Ctl :=
  (fSeq (fSet 3 (fLc (fItems (fOp addD (fCall F_law_signs fNil) (fC (.str [10])))) (stoD 8) Q_law_written_1 (fVar 8) [8]))
  (fSeq (fSet 4 (fCall F_law_string (fCons (fVar 0) (fCons (fVar 3) (fCons (fC (.int 0)) (fCons (fC (.int 3)) fNil))))))
  (fSeq (fFor (fEnum (fVar 2)) (gTupF 2 (gConsF (stoD 5) (gConsF (stoD 6) gNilF)))
    L_law_written_1)
  (fRet (fOp addD (fVar 4) (fCall F_law_string (fCons (fVar 0) (fCons (fVar 3) (fCons (fC (.int 0)) (fCons (fC (.int 3)) fNil))))))))))
def F_law_written : List Sl → Res Rv := fnF 3 9 B_law_written
theorem o_law_written {P : Program} {w : World} {K : PySem.W.Frag} {mg : Str → Option Value} {base : Heap} {ca : Str → Addr} {Tb : LT} {sa : Addr} {sn : List Int} {f : Addr} {fd : FuncData}   (F : FunD K "_law_written" "_law_written" (defArgs s_law_written) (defBody s_law_written) (defScope s_law_written) [] [] f fd) (d_law_signs : Df P mg base (gm K w ca Tb sa sn) "_law_signs" [] 1 F_law_signs) (d_law_string : Df P mg base (gm K w ca Tb sa sn) "_law_string" [] 2 F_law_string) (m_enumerate : mg "enumerate" = none) (m_int : mg "int" = none) :
    FnG P w K mg base (L2.CX P w) 3 f fd ["_law_bag_here", "_law_letters_here", "_law_items_here"] (spV (gm K w ca Tb sa sn) 3 F_law_written) :=
  fn_v (k := 2) (B := B_law_written) (N := N_law_written) (ps := ["_law_bag_here", "_law_letters_here", "_law_items_here"]) F sc_law_written fun cdv A outer s H E =>
  (vss_cons (vs_setLc (i := 3) rfl rfl (sw_true rfl rfl rfl (by decide +kernel)) (own := [("_law_sign", 8)]) (vi_seq (ve_add (ve_call0 d_law_signs (by decide) rfl) ve_str)) (blkOk_by (own := [("_law_sign", 8)]) (N := N_law_written) (sc := defScope s_law_written) (by decide +kernel)) (by decide) (fun _ _ _ _ _ => (vg_name (i := 8) rfl (.inl rfl))) (fun _ _ _ _ _ => (vts_one (VW.vt (vw_and (vt_nin (ve_var (i := 8) rfl (.inl rfl)) (ve_var (i := 1) rfl (by first | exact .inr (.inr rfl) | exact .inr (.inl rfl) | exact .inl rfl))) (vw_and1 (vt_nin (ve_var (i := 8) rfl (.inl rfl)) ve_str)))))) (fun _ _ _ _ _ => (ve_var (i := 8) rfl (.inl rfl))))
  (vss_cons (vs_set (i := 4) rfl (.inl rfl) (ve_call d_law_string (by decide) rfl (va_cons (ve_var (i := 0) rfl (.inl rfl)) (va_cons (ve_var (i := 3) rfl (.inl rfl)) (va_cons ve_int (va_cons ve_int va_nil))))))
  (vss_cons (vs_for (vi_enum m_enumerate (ve_var (i := 2) rfl (.inl rfl))) (vg_tup (n := 2) (vgs_cons (vg_name (i := 5) rfl (.inl rfl)) (vgs_cons (vg_name (i := 6) rfl (.inl rfl)) vgs_nil)))
    (vss_cons (vs_if (vt_c1 c_gt (ve_var (i := 5) rfl (.inl rfl)) ve_int)
      (vss_cons (vs_set (i := 7) rfl (.inl rfl) (ve_c1 c_ne (ve_in (ve_sub (ve_var (i := 6) rfl (.inl rfl)) ve_int) (ve_var (i := 1) rfl (.inr (.inl rfl)))) (ve_in (ve_sub (ve_sub (ve_var (i := 2) rfl (.inl rfl)) (ve_minus (ve_var (i := 5) rfl (.inl rfl)) ve_int)) ve_int) (ve_var (i := 1) rfl (.inr (.inl rfl))))))
      (vss_one (vs_set (i := 4) rfl (.inl rfl) (ve_add (ve_var (i := 4) rfl (.inl rfl)) (ve_call d_law_string (by decide) rfl (va_cons (ve_var (i := 0) rfl (.inl rfl)) (va_cons (ve_var (i := 3) rfl (.inl rfl)) (va_cons (ve_minus ve_int (ve_intc m_int (va_cons (ve_var (i := 7) rfl (.inl rfl)) va_nil))) (va_cons ve_int va_nil)))))))))
      vss_nil)
    (vss_one (vs_set (i := 4) rfl (.inl rfl) (ve_add (ve_var (i := 4) rfl (.inl rfl)) (ve_var (i := 6) rfl (.inl rfl)))))))
  (vss_one (vs_ret (ve_add (ve_var (i := 4) rfl (.inl rfl)) (ve_call d_law_string (by decide) rfl (va_cons (ve_var (i := 0) rfl (.inl rfl)) (va_cons (ve_var (i := 3) rfl (.inl rfl)) (va_cons ve_int (va_cons ve_int va_nil)))))))))))

abbrev N_law_value : List Str := ["_law_bag_here", "_law_depth", "_law_kind", "_law_size", "_law_made", "_law_k", "_law_key"]
theorem sc_law_value : FnScope N_law_value ["_law_bag_here", "_law_depth"] (defScope s_law_value) := ⟨rfl, rfl, rfl, by decide +kernel, rfl, by decide +kernel, by decide +kernel⟩
section
variable (R_ : List Sl → Res Rv)
def E_law_value_1 : M Rv :=
  (fCall R_ (fCons (fVar 0) (fCons (fOp subD (fVar 1) (fC (.int 1))) fNil)))
theorem E_law_value_1_e {e : Ve} : E_law_value_1 R_ e = (fCall R_ (fCons (fVar 0) (fCons (fOp subD (fVar 1) (fC (.int 1))) fNil))) e := rfl
def E_law_value_2 : M Rv :=
  (fCall R_ (fCons (fVar 0) (fCons (fOp subD (fVar 1) (fC (.int 1))) fNil)))
def L_law_value_1 : M Ctl :=
  (fSeq (fSet 6 (fCall F_law_string (fCons (fVar 0) (fCons (fCall F_law_signs fNil) (fCons (fC (.int 0)) (fCons (fC (.int 2)) fNil))))))
    (fSetAt setKD 4 (fVar 6) (fCall R_ (fCons (fVar 0) (fCons (fOp subD (fVar 1) (fC (.int 1))) fNil)))))
theorem L_law_value_1_e {e : Ve} : L_law_value_1 R_ e = (fSeq (fSet 6 (fCall F_law_string (fCons (fVar 0) (fCons (fCall F_law_signs fNil) (fCons (fC (.int 0)) (fCons (fC (.int 2)) fNil))))))
    (fSetAt setKD 4 (fVar 6) (fCall R_ (fCons (fVar 0) (fCons (fOp subD (fVar 1) (fC (.int 1))) fNil))))) e := rfl
def B_law_value : M Ctl :=
  (fSeq (fSet 2 (fCall F_law_draw (fCons (fVar 0) (fCons (fOp addD (fC (.int 6)) (fOp mulD (fC (.int 3)) (fApp intD (fCons (fOp gtD (fVar 1) (fC (.int 0))) fNil)))) fNil))))
  (fSeq (fIfE (fTest (fOp eqG (fVar 2) (fC (.int 0))))
    (fRet (fOp subD (fCall F_law_draw (fCons (fVar 0) (fCons (fOp powD (fC (.int 10)) (fC (.int 30))) fNil))) (fOp powD (fC (.int 10)) (fC (.int 29)))))
    fNx)
  (fSeq (fIfE (fTest (fOp eqG (fVar 2) (fC (.int 1))))
    (fRet (fOp eqG (fCall F_law_draw (fCons (fVar 0) (fCons (fC (.int 2)) fNil))) (fC (.int 1))))
    fNx)
  (fSeq (fIfE (fTest (fOp eqG (fVar 2) (fC (.int 2))))
    (fRet (fC .non))
    fNx)
  (fSeq (fIfE (fTest (fOp eqG (fVar 2) (fC (.int 3))))
    (fRet (fCall F_law_string (fCons (fVar 0) (fCons (fCall F_law_signs fNil) (fCons (fC (.int 0)) (fCons (fC (.int 5)) fNil))))))
    fNx)
  (fSeq (fIfE (fTest (fOp eqG (fVar 2) (fC (.int 4))))
    (fRet (fOp subD (fCall F_law_draw (fCons (fVar 0) (fCons (fC (.int 12)) fNil))) (fC (.int 2))))
    fNx)
  (fSeq (fIfE (fTest (fOp eqG (fVar 2) (fC (.int 5))))
    (fRet (fCall F_law_string (fCons (fVar 0) (fCons (fC (.str [48, 49, 50, 51, 52, 53, 54, 55, 56, 57])) (fCons (fC (.int 1)) (fCons (fC (.int 3)) fNil))))))
    fNx)
  (fSeq (fSet 3 (fCall F_law_draw (fCons (fVar 0) (fCons (fC (.int 4)) fNil))))
  (fSeq (fIfE (fTest (fOp eqG (fVar 2) (fC (.int 6))))
    (fRet (fLc (fRng1 (fVar 3)) (stoD 5) (M.ret true) (E_law_value_1 R_) [5]))
    fNx)
  (fSeq (fIfE (fTest (fOp eqG (fVar 2) (fC (.int 7))))
    (fRet (fApp tupD (fCons (fLc (fRng1 (fVar 3)) (stoD 5) (M.ret true) (E_law_value_2 R_) [5]) fNil)))
    fNx)
  (fSeq (fSet 4 fDnew)
  (fSeq (fFor (fRng1 (fVar 3)) (stoD 5)
    (L_law_value_1 R_))
  (fRet (fVar 4))))))))))))))
end
def R_law_value : Nat → List Sl → Res Rv
  | 0 => fun _ => .no
  | n + 1 => fnF 2 7 (B_law_value (R_law_value n))
def F_law_value : List Sl → Res Rv := R_law_value 2
theorem o_law_value {P : Program} {w : World} {K : PySem.W.Frag} {mg : Str → Option Value} {base : Heap} {ca : Str → Addr} {Tb : LT} {sa : Addr} {sn : List Int} {f : Addr} {j : Nat} {R_ : List Sl → Res Rv} {fd : FuncData}   (F : FunD K "_law_value" "_law_value" (defArgs s_law_value) (defBody s_law_value) (defScope s_law_value) [] [] f fd) (d_self : Df P mg base (gm K w ca Tb sa sn) "_law_value" [] j R_) (d_law_draw : Df P mg base (gm K w ca Tb sa sn) "_law_draw" [] 1 F_law_draw) (m_int : mg "int" = none) (d_law_string : Df P mg base (gm K w ca Tb sa sn) "_law_string" [] 2 F_law_string) (d_law_signs : Df P mg base (gm K w ca Tb sa sn) "_law_signs" [] 1 F_law_signs) (m_range : mg "range" = none) (m_tuple : mg "tuple" = none) :
    FnG P w K mg base (L2.CX P w) (max j 2 + 1) f fd ["_law_bag_here", "_law_depth"] (spV (gm K w ca Tb sa sn) 2 (fnF 2 7 (B_law_value R_))) :=
  fn_v (k := max j 2) (B := B_law_value R_) (N := N_law_value) (ps := ["_law_bag_here", "_law_depth"]) F sc_law_value fun cdv A outer s H E =>
  (vss_cons (vs_set (i := 2) rfl (.inl rfl) (ve_call d_law_draw (by first | decide | omega) rfl (va_cons (ve_var (i := 0) rfl (.inr (.inl rfl))) (va_cons (ve_add ve_int (ve_mul ve_int (ve_intc m_int (va_cons (ve_c1 c_gt (ve_var (i := 1) rfl (.inr (.inl rfl))) ve_int) va_nil)))) va_nil))))
  (vss_cons (vs_if (vt_c1 c_eq (ve_var (i := 2) rfl (.inl rfl)) ve_int)
    (vss_one (vs_ret (ve_minus (ve_call d_law_draw (by first | decide | omega) rfl (va_cons (ve_var (i := 0) rfl (.inr (.inl rfl))) (va_cons (ve_pow ve_int ve_int) va_nil))) (ve_pow ve_int ve_int))))
    vss_nil)
  (vss_cons (vs_if (vt_c1 c_eq (ve_var (i := 2) rfl (.inl rfl)) ve_int)
    (vss_one (vs_ret (ve_c1 c_eq (ve_call d_law_draw (by first | decide | omega) rfl (va_cons (ve_var (i := 0) rfl (.inr (.inl rfl))) (va_cons ve_int va_nil))) ve_int)))
    vss_nil)
  (vss_cons (vs_if (vt_c1 c_eq (ve_var (i := 2) rfl (.inl rfl)) ve_int)
    (vss_one (vs_ret ve_non))
    vss_nil)
  (vss_cons (vs_if (vt_c1 c_eq (ve_var (i := 2) rfl (.inl rfl)) ve_int)
    (vss_one (vs_ret (ve_call d_law_string (by first | decide | omega) rfl (va_cons (ve_var (i := 0) rfl (.inr (.inl rfl))) (va_cons (ve_call0 d_law_signs (by first | decide | omega) rfl) (va_cons ve_int (va_cons ve_int va_nil)))))))
    vss_nil)
  (vss_cons (vs_if (vt_c1 c_eq (ve_var (i := 2) rfl (.inl rfl)) ve_int)
    (vss_one (vs_ret (ve_minus (ve_call d_law_draw (by first | decide | omega) rfl (va_cons (ve_var (i := 0) rfl (.inr (.inl rfl))) (va_cons ve_int va_nil))) ve_int)))
    vss_nil)
  (vss_cons (vs_if (vt_c1 c_eq (ve_var (i := 2) rfl (.inl rfl)) ve_int)
    (vss_one (vs_ret (ve_call d_law_string (by first | decide | omega) rfl (va_cons (ve_var (i := 0) rfl (.inr (.inl rfl))) (va_cons ve_str (va_cons ve_int (va_cons ve_int va_nil)))))))
    vss_nil)
  (vss_cons (vs_set (i := 3) rfl (.inl rfl) (ve_call d_law_draw (by first | decide | omega) rfl (va_cons (ve_var (i := 0) rfl (.inr (.inl rfl))) (va_cons ve_int va_nil))))
  (vss_cons (vs_if (vt_c1 c_eq (ve_var (i := 2) rfl (.inl rfl)) ve_int)
    (vss_one (vs_ret (ve_lc (own := [("_law_k", 5)]) (vi_range1 m_range (ve_var (i := 3) rfl (.inl rfl))) (blkOk_by (own := [("_law_k", 5)]) (N := N_law_value) (sc := defScope s_law_value) (by decide +kernel)) (by first | decide | omega) (fun _ _ _ _ _ => (vg_name (i := 5) rfl (.inl rfl))) (fun _ _ _ _ _ => vts_nil) (fun _ _ _ _ _ => (ve_call d_self (by first | decide | omega) rfl (va_cons (ve_var (i := 0) rfl (by first | exact .inr (.inr rfl) | exact .inr (.inl rfl) | exact .inl rfl)) (va_cons (ve_minus (ve_var (i := 1) rfl (by first | exact .inr (.inr rfl) | exact .inr (.inl rfl) | exact .inl rfl)) ve_int) va_nil)))))))
    vss_nil)
  (vss_cons (vs_if (vt_c1 c_eq (ve_var (i := 2) rfl (.inl rfl)) ve_int)
    (vss_one (vs_ret (ve_tupc m_tuple (va_cons (ve_lc (own := [("_law_k", 5)]) (vi_range1 m_range (ve_var (i := 3) rfl (.inl rfl))) (blkOk_by (own := [("_law_k", 5)]) (N := N_law_value) (sc := defScope s_law_value) (by decide +kernel)) (by first | decide | omega) (fun _ _ _ _ _ => (vg_name (i := 5) rfl (.inl rfl))) (fun _ _ _ _ _ => vts_nil) (fun _ _ _ _ _ => (ve_call d_self (by first | decide | omega) rfl (va_cons (ve_var (i := 0) rfl (by first | exact .inr (.inr rfl) | exact .inr (.inl rfl) | exact .inl rfl)) (va_cons (ve_minus (ve_var (i := 1) rfl (by first | exact .inr (.inr rfl) | exact .inr (.inl rfl) | exact .inl rfl)) ve_int) va_nil))))) va_nil))))
    vss_nil)
  (vss_cons (vs_set (i := 4) rfl (.inl rfl) ve_dnew)
  (vss_cons (vs_for (vi_range1 m_range (ve_var (i := 3) rfl (.inl rfl))) (vg_name (i := 5) rfl (.inl rfl))
    (vss_cons (vs_set (i := 6) rfl (.inl rfl) (ve_call d_law_string (by first | decide | omega) rfl (va_cons (ve_var (i := 0) rfl (.inr (.inl rfl))) (va_cons (ve_call0 d_law_signs (by first | decide | omega) rfl) (va_cons ve_int (va_cons ve_int va_nil))))))
    (vss_one (vs_dput (i := 4) rfl (.inl rfl) (ve_var (i := 6) rfl (.inl rfl)) (ve_call d_self (by first | decide | omega) rfl (va_cons (ve_var (i := 0) rfl (.inr (.inl rfl))) (va_cons (ve_minus (ve_var (i := 1) rfl (.inr (.inl rfl))) ve_int) va_nil)))))))
  (vss_one (vs_ret (ve_var (i := 4) rfl (.inl rfl))))))))))))))))

abbrev N_law_bound : List Str := ["_law_bag_here", "_law_many"]
theorem sc_law_bound : FnScope N_law_bound ["_law_bag_here", "_law_many"] (defScope s_law_bound) := ⟨rfl, rfl, rfl, by decide +kernel, rfl, by decide +kernel, by decide +kernel⟩
def B_law_bound : M Ctl :=
  (fSeq (fIfE (fTest (fOp eqG (fCall F_law_draw (fCons (fVar 0) (fCons (fC (.int 4)) fNil))) (fC (.int 0))))
    (fRet (fCall F_law_value (fCons (fVar 0) (fCons (fC (.int 1)) fNil))))
    fNx)
  (fRet (fOp subD (fCall F_law_draw (fCons (fVar 0) (fCons (fOp addD (fVar 1) (fC (.int 3))) fNil))) (fC (.int 1)))))
def F_law_bound : List Sl → Res Rv := fnF 2 2 B_law_bound
theorem o_law_bound {P : Program} {w : World} {K : PySem.W.Frag} {mg : Str → Option Value} {base : Heap} {ca : Str → Addr} {Tb : LT} {sa : Addr} {sn : List Int} {f : Addr} {fd : FuncData}   (F : FunD K "_law_bound" "_law_bound" (defArgs s_law_bound) (defBody s_law_bound) (defScope s_law_bound) [] [] f fd) (d_law_draw : Df P mg base (gm K w ca Tb sa sn) "_law_draw" [] 1 F_law_draw) (d_law_value : Df P mg base (gm K w ca Tb sa sn) "_law_value" [] 4 F_law_value) :
    FnG P w K mg base (L2.CX P w) 5 f fd ["_law_bag_here", "_law_many"] (spV (gm K w ca Tb sa sn) 2 F_law_bound) :=
  fn_v (k := 4) (B := B_law_bound) (N := N_law_bound) (ps := ["_law_bag_here", "_law_many"]) F sc_law_bound fun cdv A outer s H E =>
  (vss_cons (vs_if (vt_c1 c_eq (ve_call d_law_draw (by decide) rfl (va_cons (ve_var (i := 0) rfl (.inl rfl)) (va_cons ve_int va_nil))) ve_int)
    (vss_one (vs_ret (ve_call d_law_value (by decide) rfl (va_cons (ve_var (i := 0) rfl (.inl rfl)) (va_cons ve_int va_nil)))))
    vss_nil)
  (vss_one (vs_ret (ve_minus (ve_call d_law_draw (by decide) rfl (va_cons (ve_var (i := 0) rfl (.inl rfl)) (va_cons (ve_add (ve_var (i := 1) rfl (.inl rfl)) ve_int) va_nil))) ve_int))))

abbrev N_items_of : List Str := ["text", "letters", "items", "last", "sign", "kin"]
theorem sc_items_of : FnScope N_items_of ["text", "letters"] (defScope s_items_of) := ⟨rfl, rfl, rfl, by decide +kernel, rfl, by decide +kernel, by decide +kernel⟩
def L_items_of_1 : M Ctl :=
  (fSeq (fSet 5 (fIfE (fTest (fOp (boolV inA false) (fVar 4) (fVar 1))) (fVar 1) (fIfE (fTest (fOp (boolV inA false) (fVar 4) (fC (.str c_DIGITS)))) (fC (.str c_DIGITS)) (fC (.str [])))))
    (fSeq (fIfE (fAnd (fTest (fOp neG (fVar 5) (fC (.str [])))) (fTest (fOp eqG (fVar 5) (fVar 3))))
      (fSetAt setAtD 2 (fC (.int (-1))) (fOp addD (fOp ixA (fVar 2) (fC (.int (-1)))) (fVar 4)))
      (fIfE (fTest (fOp neG (fVar 5) (fC (.str []))))
        (fExp (fMut "list" appD 2 (fCons (fFrz (fVar 4)) fNil)))
        fNx))
    (fSet 3 (fVar 5))))
theorem L_items_of_1_e {e : Ve} : L_items_of_1 e = (fSeq (fSet 5 (fIfE (fTest (fOp (boolV inA false) (fVar 4) (fVar 1))) (fVar 1) (fIfE (fTest (fOp (boolV inA false) (fVar 4) (fC (.str c_DIGITS)))) (fC (.str c_DIGITS)) (fC (.str [])))))
    (fSeq (fIfE (fAnd (fTest (fOp neG (fVar 5) (fC (.str [])))) (fTest (fOp eqG (fVar 5) (fVar 3))))
      (fSetAt setAtD 2 (fC (.int (-1))) (fOp addD (fOp ixA (fVar 2) (fC (.int (-1)))) (fVar 4)))
      (fIfE (fTest (fOp neG (fVar 5) (fC (.str []))))
        (fExp (fMut "list" appD 2 (fCons (fFrz (fVar 4)) fNil)))
        fNx))
    (fSet 3 (fVar 5)))) e := rfl
def B_items_of : M Ctl :=
  (fSeq (fPar2 2 3 (fCons (fLst fNil) (fCons (fC (.str [])) fNil)))
  (fSeq (fFor (fItems (fVar 0)) (stoD 4)
    L_items_of_1)
  (fRet (fVar 2))))
def F_items_of : List Sl → Res Rv := fnF 2 6 B_items_of
theorem o_items_of {P : Program} {w : World} {K : PySem.W.Frag} {mg : Str → Option Value} {base : Heap} {ca : Str → Addr} {Tb : LT} {sa : Addr} {sn : List Int} {f : Addr} {fd : FuncData} {t_DIGITS : Tok}  (F : FunD K "items_of" "items_of" (defArgs s_items_of) (defBody s_items_of) (defScope s_items_of) [] [] f fd) (g_DIGITS : mg "DIGITS" = some (.str (S c_DIGITS) t_DIGITS)) :
    FnG P w K mg base (L2.CX P w) 1 f fd ["text", "letters"] (spV (gm K w ca Tb sa sn) 2 F_items_of) :=
  fn_v (k := 0) (B := B_items_of) (N := N_items_of) (ps := ["text", "letters"]) F sc_items_of fun cdv A outer s H E =>
  (vss_cons (vs_par2 (i := 2) (j := 3) rfl rfl rfl rfl (va_cons (ve_lst va_nil) (va_cons ve_str va_nil)))
  (vss_cons (vs_for (vi_seq (ve_var (i := 0) rfl (.inl rfl))) (vg_name (i := 4) rfl (.inl rfl))
    (vss_cons (vs_set (i := 5) rfl (.inl rfl) (ve_if (vt_in (ve_var (i := 4) rfl (.inl rfl)) (ve_var (i := 1) rfl (.inl rfl))) (ve_var (i := 1) rfl (.inl rfl)) (ve_if (vt_in (ve_var (i := 4) rfl (.inl rfl)) (ve_gs g_DIGITS)) (ve_gs g_DIGITS) ve_str)))
    (vss_cons (vs_if (VW.vt (vw_and (vt_c1 c_ne (ve_var (i := 5) rfl (.inl rfl)) ve_str) (vw_and1 (vt_c1 c_eq (ve_var (i := 5) rfl (.inl rfl)) (ve_var (i := 3) rfl (.inl rfl))))))
      (vss_one (vs_setAt (i := 2) rfl (.inl rfl) ve_negc (ve_add (ve_sub (ve_var (i := 2) rfl (.inl rfl)) ve_negc) (ve_var (i := 4) rfl (.inl rfl)))))
      (vss_one (vs_if (vt_c1 c_ne (ve_var (i := 5) rfl (.inl rfl)) ve_str)
        (vss_one (vs_expr (ve_append (i := 2) rfl (.inl rfl) (va_cons (ve_frz (ve_var (i := 4) rfl (.inl rfl))) va_nil))))
        vss_nil)))
    (vss_one (vs_set (i := 3) rfl (.inl rfl) (ve_var (i := 5) rfl (.inl rfl)))))))
  (vss_one (vs_ret (ve_var (i := 2) rfl (.inl rfl))))))

abbrev N_is_integer : List Str := ["value", "low", "high"]
theorem sc_is_integer : FnScope N_is_integer ["value", "low", "high"] (defScope s_is_integer) := ⟨rfl, rfl, rfl, by decide +kernel, rfl, by decide +kernel, by decide +kernel⟩
def B_is_integer : M Ctl :=
  (fRet (fAndV (fApp isiD (fCons (fVar 0) (fCons (fC (.con (.ty "int"))) fNil))) (fAndV (fNotV (fApp isiD (fCons (fVar 0) (fCons (fC (.con (.ty "bool"))) fNil)))) (fChain leD leD (fVar 1) (fVar 0) (fVar 2)))))
def F_is_integer : List Sl → Res Rv := fnF 3 3 B_is_integer
theorem o_is_integer {P : Program} {w : World} {K : PySem.W.Frag} {mg : Str → Option Value} {base : Heap} {ca : Str → Addr} {Tb : LT} {sa : Addr} {sn : List Int} {f : Addr} {fd : FuncData}   (F : FunD K "is_integer" "is_integer" (defArgs s_is_integer) (defBody s_is_integer) (defScope s_is_integer) [] [] f fd) (m_bool : mg "bool" = none) (m_isinstance : mg "isinstance" = none) (m_int : mg "int" = none) :
    FnG P w K mg base (L2.CX P w) 1 f fd ["value", "low", "high"] (spV (gm K w ca Tb sa sn) 3 F_is_integer) :=
  fn_v (k := 0) (B := B_is_integer) (N := N_is_integer) (ps := ["value", "low", "high"]) F sc_is_integer fun cdv A outer s H E =>
  (vss_one (vs_ret (ve_and (ve_isi m_isinstance (va_cons (ve_var (i := 0) rfl (.inl rfl)) (va_cons (ve_bt m_int (by decide +kernel)) va_nil))) (ve_and (ve_not (ve_isi m_isinstance (va_cons (ve_var (i := 0) rfl (.inl rfl)) (va_cons (ve_bt m_bool (by decide +kernel)) va_nil)))) (ve_one (ve_c2 c_le c_le (ve_var (i := 1) rfl (.inl rfl)) (ve_var (i := 0) rfl (.inl rfl)) (ve_var (i := 2) rfl (.inl rfl))))))))

abbrev N_stretch_of : List Str := ["text", "letters", "start", "stop", "items"]
theorem sc_stretch_of : FnScope N_stretch_of ["text", "letters", "start", "stop"] (defScope s_stretch_of) := ⟨rfl, rfl, rfl, by decide +kernel, rfl, by decide +kernel, by decide +kernel⟩
def B_stretch_of : M Ctl :=
  (fSeq (fSet 4 (fCall F_items_of (fCons (fVar 0) (fCons (fVar 1) fNil))))
  (fSeq (fIfE (fOr (fNot (fTru (fCall F_is_integer (fCons (fVar 2) (fCons (fC (.int 0)) (fCons (fApp lenD (fCons (fVar 4) fNil)) fNil)))))) (fNot (fTru (fCall F_is_integer (fCons (fVar 3) (fCons (fOp addD (fVar 2) (fC (.int 1))) (fCons (fApp lenD (fCons (fVar 4) fNil)) fNil)))))))
    (fRaise "NoStretch" ["start", "stop"] (fCons (fFrz (fVar 2)) (fCons (fFrz (fVar 3)) fNil)))
    fNx)
  (fRet (fMth "str" joinD (fC (.str [32])) (fCons (fSl (fVar 4) (fPart (fVar 2)) (fPart (fVar 3))) fNil)))))
def F_stretch_of : List Sl → Res Rv := fnF 4 5 B_stretch_of
theorem o_stretch_of {P : Program} {w : World} {K : PySem.W.Frag} {mg : Str → Option Value} {base : Heap} {ca : Str → Addr} {Tb : LT} {sa : Addr} {sn : List Int} {f : Addr} {fd : FuncData}   (F : FunD K "stretch_of" "stretch_of" (defArgs s_stretch_of) (defBody s_stretch_of) (defScope s_stretch_of) [] [] f fd) (d_items_of : Df P mg base (gm K w ca Tb sa sn) "items_of" [] 1 F_items_of) (d_is_integer : Df P mg base (gm K w ca Tb sa sn) "is_integer" [] 1 F_is_integer) (m_len : mg "len" = none) (x_NoStretch : ExL P mg base (gm K w ca Tb sa sn) "NoStretch" ["start", "stop"] 1) :
    FnG P w K mg base (L2.CX P w) 3 f fd ["text", "letters", "start", "stop"] (spV (gm K w ca Tb sa sn) 4 F_stretch_of) :=
  fn_v (k := 2) (B := B_stretch_of) (N := N_stretch_of) (ps := ["text", "letters", "start", "stop"]) F sc_stretch_of fun cdv A outer s H E =>
  (vss_cons (vs_set (i := 4) rfl (.inl rfl) (ve_call d_items_of (by decide) rfl (va_cons (ve_var (i := 0) rfl (.inl rfl)) (va_cons (ve_var (i := 1) rfl (.inl rfl)) va_nil))))
  (vss_cons (vs_if (VW.vt (vw_or (vt_not (vt_tru (ve_call d_is_integer (by decide) rfl (va_cons (ve_var (i := 2) rfl (.inl rfl)) (va_cons ve_int (va_cons (ve_len m_len (va_cons (ve_var (i := 4) rfl (.inl rfl)) va_nil)) va_nil)))))) (vw_or1 (vt_not (vt_tru (ve_call d_is_integer (by decide) rfl (va_cons (ve_var (i := 3) rfl (.inl rfl)) (va_cons (ve_add (ve_var (i := 2) rfl (.inl rfl)) ve_int) (va_cons (ve_len m_len (va_cons (ve_var (i := 4) rfl (.inl rfl)) va_nil)) va_nil)))))))))
    (vss_one (vs_raiseL x_NoStretch (by decide) rfl (va_cons (ve_frz (ve_var (i := 2) rfl (.inl rfl))) (va_cons (ve_frz (ve_var (i := 3) rfl (.inl rfl))) va_nil))))
    vss_nil)
  (vss_one (vs_ret (ve_join ve_str (va_cons (ve_slice (ve_var (i := 4) rfl (.inl rfl)) (vo_some (ve_var (i := 2) rfl (.inl rfl))) (vo_some (ve_var (i := 3) rfl (.inl rfl)))) va_nil))))))

abbrev N_law_told : List Str := ["_law_text", "_law_letters_here", "_law_start", "_law_stop", "_law_back", "error"]
theorem sc_law_told : FnScope N_law_told ["_law_text", "_law_letters_here", "_law_start", "_law_stop"] (defScope s_law_told) := ⟨rfl, rfl, rfl, by decide +kernel, rfl, by decide +kernel, by decide +kernel⟩
def B_law_told : M Ctl :=
  (fSeq (fTry "NoStretch" [] 5 (xCons (xC (.str [114, 97, 105, 115, 101, 100])) (xCons (xApp reprD (xCons (xF "start") xNil)) (xCons (xApp reprD (xCons (xF "stop") xNil)) (xCons (xC (.bl false)) xNil))))
    (fSet 4 (fCall F_stretch_of (fCons (fVar 0) (fCons (fVar 1) (fCons (fVar 2) (fCons (fVar 3) fNil)))))))
  (fRet (fLst (fCons (fC (.str [114, 101, 116, 117, 114, 110, 101, 100])) (fCons (fFrz (fVar 4)) fNil)))))
def F_law_told : List Sl → Res Rv := fnF 4 6 B_law_told
theorem o_law_told {P : Program} {w : World} {K : PySem.W.Frag} {mg : Str → Option Value} {base : Heap} {ca : Str → Addr} {Tb : LT} {sa : Addr} {sn : List Int} {f : Addr} {fd : FuncData}   (F : FunD K "_law_told" "_law_told" (defArgs s_law_told) (defBody s_law_told) (defScope s_law_told) [] [] f fd) (cat_NoStretch_NoStretch : CatD mg (gm K w ca Tb sa sn) "NoStretch" "NoStretch" true) (xi_NoStretch_FoundError : IsD mg (gm K w ca Tb sa sn) "NoStretch" "FoundError" false) (m_isinstance : mg "isinstance" = none) (xf_NoStretch_stop : XfD (gm K w ca Tb sa sn) "NoStretch" "stop") (sy : SysIn K) (m_repr : mg "repr" = none) (xf_NoStretch_start : XfD (gm K w ca Tb sa sn) "NoStretch" "start") (d_stretch_of : Df P mg base (gm K w ca Tb sa sn) "stretch_of" [] 3 F_stretch_of) :
    FnG P w K mg base (L2.CX P w) 4 f fd ["_law_text", "_law_letters_here", "_law_start", "_law_stop"] (spV (gm K w ca Tb sa sn) 4 F_law_told) :=
  fn_v (k := 3) (B := B_law_told) (N := N_law_told) (ps := ["_law_text", "_law_letters_here", "_law_start", "_law_stop"]) F sc_law_told fun cdv A outer s H E =>
  (vss_cons (vs_try (i := 5) (y := "NoStretch") (outs := []) cat_NoStretch_NoStretch (fun _ h => nomatch h) rfl rfl rfl rfl (fun _ _ _ => (vss_one (vs_set (i := 4) rfl (.inl rfl) (ve_call d_stretch_of (by decide) rfl (va_cons (ve_var (i := 0) rfl (.inl rfl)) (va_cons (ve_var (i := 1) rfl (.inl rfl)) (va_cons (ve_var (i := 2) rfl (.inl rfl)) (va_cons (ve_var (i := 3) rfl (.inl rfl)) va_nil))))))))
    (vxs_cons vx_str (vxs_cons (vx_repr sy m_repr (vxs_cons (vx_fld xf_NoStretch_start rfl (.inl rfl)) vxs_nil)) (vxs_cons (vx_repr sy m_repr (vxs_cons (vx_fld xf_NoStretch_stop rfl (.inl rfl)) vxs_nil)) (vxs_cons (vx_isi xi_NoStretch_FoundError m_isinstance rfl (.inl rfl)) vxs_nil)))))
  (vss_one (vs_ret (ve_lst (va_cons ve_str (va_cons (ve_frz (ve_var (i := 4) rfl (.inl rfl))) va_nil))))))

abbrev N_law_is_bound : List Str := ["_law_value_here", "_law_least", "_law_most"]
theorem sc_law_is_bound : FnScope N_law_is_bound ["_law_value_here", "_law_least", "_law_most"] (defScope s_law_is_bound) := ⟨rfl, rfl, rfl, by decide +kernel, rfl, by decide +kernel, by decide +kernel⟩
def B_law_is_bound : M Ctl :=
  (fRet (fAndV (fApp isiD (fCons (fVar 0) (fCons (fC (.con (.ty "int"))) fNil))) (fAndV (fNotV (fApp isiD (fCons (fVar 0) (fCons (fC (.con (.ty "bool"))) fNil)))) (fChain leD leD (fVar 1) (fVar 0) (fVar 2)))))
def F_law_is_bound : List Sl → Res Rv := fnF 3 3 B_law_is_bound
theorem o_law_is_bound {P : Program} {w : World} {K : PySem.W.Frag} {mg : Str → Option Value} {base : Heap} {ca : Str → Addr} {Tb : LT} {sa : Addr} {sn : List Int} {f : Addr} {fd : FuncData}   (F : FunD K "_law_is_bound" "_law_is_bound" (defArgs s_law_is_bound) (defBody s_law_is_bound) (defScope s_law_is_bound) [] [] f fd) (m_bool : mg "bool" = none) (m_isinstance : mg "isinstance" = none) (m_int : mg "int" = none) :
    FnG P w K mg base (L2.CX P w) 1 f fd ["_law_value_here", "_law_least", "_law_most"] (spV (gm K w ca Tb sa sn) 3 F_law_is_bound) :=
  fn_v (k := 0) (B := B_law_is_bound) (N := N_law_is_bound) (ps := ["_law_value_here", "_law_least", "_law_most"]) F sc_law_is_bound fun cdv A outer s H E =>
  (vss_one (vs_ret (ve_and (ve_isi m_isinstance (va_cons (ve_var (i := 0) rfl (.inl rfl)) (va_cons (ve_bt m_int (by decide +kernel)) va_nil))) (ve_and (ve_not (ve_isi m_isinstance (va_cons (ve_var (i := 0) rfl (.inl rfl)) (va_cons (ve_bt m_bool (by decide +kernel)) va_nil)))) (ve_one (ve_c2 c_le c_le (ve_var (i := 1) rfl (.inl rfl)) (ve_var (i := 0) rfl (.inl rfl)) (ve_var (i := 2) rfl (.inl rfl))))))))

abbrev N_law_due : List Str := ["_law_items_here", "_law_start", "_law_stop", "_law_k"]
theorem sc_law_due : FnScope N_law_due ["_law_items_here", "_law_start", "_law_stop"] (defScope s_law_due) := ⟨rfl, rfl, rfl, by decide +kernel, rfl, by decide +kernel, by decide +kernel⟩
def E_law_due_1 : M Rv :=
  (fOp ixA (fVar 0) (fVar 3))
theorem E_law_due_1_e {e : Ve} : E_law_due_1 e = (fOp ixA (fVar 0) (fVar 3)) e := rfl
def B_law_due : M Ctl :=
  (fSeq (fIfE (fAnd (fTru (fCall F_law_is_bound (fCons (fVar 1) (fCons (fC (.int 0)) (fCons (fApp lenD (fCons (fVar 0) fNil)) fNil))))) (fTru (fCall F_law_is_bound (fCons (fVar 2) (fCons (fOp addD (fVar 1) (fC (.int 1))) (fCons (fApp lenD (fCons (fVar 0) fNil)) fNil))))))
    (fRet (fLst (fCons (fC (.str [114, 101, 116, 117, 114, 110, 101, 100])) (fCons (fFrz (fMth "str" joinD (fC (.str [32])) (fCons (fLc (fRng2 (fVar 1) (fVar 2)) (stoD 3) (M.ret true) E_law_due_1 [3]) fNil))) fNil))))
    fNx)
  (fRet (fLst (fCons (fC (.str [114, 97, 105, 115, 101, 100])) (fCons (fFrz (fApp reprD (fCons (fVar 1) fNil))) (fCons (fFrz (fApp reprD (fCons (fVar 2) fNil))) (fCons (fC (.bl false)) fNil)))))))
def F_law_due : List Sl → Res Rv := fnF 3 4 B_law_due
theorem o_law_due {P : Program} {w : World} {K : PySem.W.Frag} {mg : Str → Option Value} {base : Heap} {ca : Str → Addr} {Tb : LT} {sa : Addr} {sn : List Int} {f : Addr} {fd : FuncData}   (F : FunD K "_law_due" "_law_due" (defArgs s_law_due) (defBody s_law_due) (defScope s_law_due) [] [] f fd) (d_law_is_bound : Df P mg base (gm K w ca Tb sa sn) "_law_is_bound" [] 1 F_law_is_bound) (m_len : mg "len" = none) (m_range : mg "range" = none) (sy : SysIn K) (m_repr : mg "repr" = none) :
    FnG P w K mg base (L2.CX P w) 2 f fd ["_law_items_here", "_law_start", "_law_stop"] (spV (gm K w ca Tb sa sn) 3 F_law_due) :=
  fn_v (k := 1) (B := B_law_due) (N := N_law_due) (ps := ["_law_items_here", "_law_start", "_law_stop"]) F sc_law_due fun cdv A outer s H E =>
  (vss_cons (vs_if (VW.vt (vw_and (vt_tru (ve_call d_law_is_bound (by decide) rfl (va_cons (ve_var (i := 1) rfl (.inl rfl)) (va_cons ve_int (va_cons (ve_len m_len (va_cons (ve_var (i := 0) rfl (.inr (.inl rfl))) va_nil)) va_nil))))) (vw_and1 (vt_tru (ve_call d_law_is_bound (by decide) rfl (va_cons (ve_var (i := 2) rfl (.inl rfl)) (va_cons (ve_add (ve_var (i := 1) rfl (.inl rfl)) ve_int) (va_cons (ve_len m_len (va_cons (ve_var (i := 0) rfl (.inr (.inl rfl))) va_nil)) va_nil))))))))
    (vss_one (vs_ret (ve_lst (va_cons ve_str (va_cons (ve_frz (ve_join ve_str (va_cons (ve_lc (own := [("_law_k", 3)]) (vi_range2 m_range (ve_var (i := 1) rfl (.inl rfl)) (ve_var (i := 2) rfl (.inl rfl))) (blkOk_by (own := [("_law_k", 3)]) (N := N_law_due) (sc := defScope s_law_due) (by decide +kernel)) (by decide) (fun _ _ _ _ _ => (vg_name (i := 3) rfl (.inl rfl))) (fun _ _ _ _ _ => vts_nil) (fun _ _ _ _ _ => (ve_sub (ve_var (i := 0) rfl (by first | exact .inr (.inr rfl) | exact .inr (.inl rfl) | exact .inl rfl)) (ve_var (i := 3) rfl (.inl rfl))))) va_nil))) va_nil)))))
    vss_nil)
  (vss_one (vs_ret (ve_lst (va_cons ve_str (va_cons (ve_frz (ve_repr sy m_repr (va_cons (ve_var (i := 1) rfl (.inl rfl)) va_nil))) (va_cons (ve_frz (ve_repr sy m_repr (va_cons (ve_var (i := 2) rfl (.inl rfl)) va_nil))) (va_cons ve_bl va_nil))))))))

abbrev N_law : List Str := ["_law_script", "_law_bag_here", "_law_letters_here", "_law_longest", "_law_items_here", "_law_text", "_law_pairs", "_law_k", "_law_start", "_law_stop", "_law_told_here", "_law_item"]
theorem sc_law : FnScope N_law ["_law_script"] (defScope s_law) := ⟨rfl, rfl, rfl, by decide +kernel, rfl, by decide +kernel, by decide +kernel⟩
def L_law_1 : M Ctl :=
  (fSeq (fSet 1 (fCall F_law_bag (fCons (fVar 0) (fCons (fOp addD (fVar 7) (fC (.int 1))) fNil))))
    (fSeq (fSet 8 (fCall F_law_bound (fCons (fVar 1) (fCons (fApp lenD (fCons (fVar 4) fNil)) fNil))))
    (fExp (fMut "list" appD 6 (fCons (fFrz (fTup (fCons (fFrz (fVar 8)) (fCons (fFrz (fCall F_law_bound (fCons (fVar 1) (fCons (fApp lenD (fCons (fVar 4) fNil)) fNil)))) fNil)))) fNil)))))
theorem L_law_1_e {e : Ve} : L_law_1 e = (fSeq (fSet 1 (fCall F_law_bag (fCons (fVar 0) (fCons (fOp addD (fVar 7) (fC (.int 1))) fNil))))
    (fSeq (fSet 8 (fCall F_law_bound (fCons (fVar 1) (fCons (fApp lenD (fCons (fVar 4) fNil)) fNil))))
    (fExp (fMut "list" appD 6 (fCons (fFrz (fTup (fCons (fFrz (fVar 8)) (fCons (fFrz (fCall F_law_bound (fCons (fVar 1) (fCons (fApp lenD (fCons (fVar 4) fNil)) fNil)))) fNil)))) fNil))))) e := rfl
def L_law_2 : M Ctl :=
  (fSeq (fSet 10 (fCall F_law_told (fCons (fVar 5) (fCons (fVar 2) (fCons (fVar 8) (fCons (fVar 9) fNil))))))
    (fSeq (fIfE (fTest (fOp neG (fVar 10) (fCall F_law_due (fCons (fVar 4) (fCons (fVar 8) (fCons (fVar 9) fNil))))))
      (fRet (fC (.bl false)))
      fNx)
    (fSeq (fIfE (fAnd (fTest (fOp eqG (fOp ixA (fVar 10) (fC (.int 0))) (fC (.str [114, 101, 116, 117, 114, 110, 101, 100])))) (fTest (fOp neG (fCall F_items_of (fCons (fOp ixA (fVar 10) (fC (.int 1))) (fCons (fVar 2) fNil))) (fSl (fVar 4) (fPart (fVar 8)) (fPart (fVar 9))))))
      (fRet (fC (.bl false)))
      fNx)
    (fIfE (fTest (fOp neG (fCall F_law_told (fCons (fVar 5) (fCons (fVar 2) (fCons (fVar 8) (fCons (fVar 9) fNil))))) (fVar 10)))
      (fRet (fC (.bl false)))
      fNx))))
def L_law_3 : M Ctl :=
  (fIfE (fTest (fOp neG (fCall F_stretch_of (fCons (fVar 5) (fCons (fVar 2) (fCons (fVar 7) (fCons (fOp addD (fVar 7) (fC (.int 1))) fNil))))) (fVar 11)))
      (fRet (fC (.bl false)))
      fNx)
theorem L_law_3_e {e : Ve} : L_law_3 e = (fIfE (fTest (fOp neG (fCall F_stretch_of (fCons (fVar 5) (fCons (fVar 2) (fCons (fVar 7) (fCons (fOp addD (fVar 7) (fC (.int 1))) fNil))))) (fVar 11)))
      (fRet (fC (.bl false)))
      fNx) e := rfl
def B_law : M Ctl :=
  (fSeq (fSet 1 (fCall F_law_bag (fCons (fVar 0) (fCons (fC (.int 0)) fNil))))
  (fSeq (fPar2 2 3 (fCons (fCall F_law_letters (fCons (fVar 1) fNil)) (fCons (fOp addD (fC (.int 1)) (fCall F_law_draw (fCons (fVar 1) (fCons (fC (.int 40)) fNil)))) fNil)))
  (fSeq (fSet 4 (fCall F_law_items (fCons (fVar 1) (fCons (fVar 2) (fCons (fC (.int 60)) (fCons (fVar 3) fNil))))))
  (fSeq (fSet 5 (fCall F_law_written (fCons (fVar 1) (fCons (fVar 2) (fCons (fVar 4) fNil)))))
  (fSeq (fSet 6 (fLst (fCons (fFrz (fTup (fCons (fC (.int 0)) (fCons (fFrz (fApp lenD (fCons (fVar 4) fNil))) fNil)))) (fCons (fFrz (fTup (fCons (fC (.bl false)) (fCons (fFrz (fApp lenD (fCons (fVar 4) fNil))) fNil)))) (fCons (fFrz (fTup (fCons (fC (.int 0)) (fCons (fC (.bl true)) fNil)))) (fCons (fFrz (fTup (fCons (fFrz (fApp lenD (fCons (fVar 4) fNil))) (fCons (fFrz (fApp lenD (fCons (fVar 4) fNil))) fNil)))) (fCons (fFrz (fTup (fCons (fC (.int 0)) (fCons (fFrz (fOp addD (fApp lenD (fCons (fVar 4) fNil)) (fC (.int 1)))) fNil)))) fNil)))))))
  (fSeq (fFor (fRng1 (fC (.int 6))) (stoD 7)
    L_law_1)
  (fSeq (fFor (fItems (fVar 6)) (gTupF 2 (gConsF (stoD 8) (gConsF (stoD 9) gNilF)))
    L_law_2)
  (fSeq (fFor (fEnum (fVar 4)) (gTupF 2 (gConsF (stoD 7) (gConsF (stoD 11) gNilF)))
    L_law_3)
  (fRet (fOp eqG (fCall F_law_told (fCons (fC (.str [])) (fCons (fVar 2) (fCons (fC (.int 0)) (fCons (fC (.int 1)) fNil))))) (fLst (fCons (fC (.str [114, 97, 105, 115, 101, 100])) (fCons (fC (.str [48])) (fCons (fC (.str [49])) (fCons (fC (.bl false)) fNil)))))))))))))))
def F_law : List Sl → Res Rv := fnF 1 12 B_law
theorem o_law {P : Program} {w : World} {K : PySem.W.Frag} {mg : Str → Option Value} {base : Heap} {ca : Str → Addr} {Tb : LT} {sa : Addr} {sn : List Int} {f : Addr} {fd : FuncData}   (F : FunD K "law" "law" (defArgs s_law) (defBody s_law) (defScope s_law) [] [] f fd) (d_law_bag : Df P mg base (gm K w ca Tb sa sn) "_law_bag" [] 1 F_law_bag) (d_law_draw : Df P mg base (gm K w ca Tb sa sn) "_law_draw" [] 1 F_law_draw) (d_law_letters : Df P mg base (gm K w ca Tb sa sn) "_law_letters" [] 3 F_law_letters) (d_law_items : Df P mg base (gm K w ca Tb sa sn) "_law_items" [] 3 F_law_items) (d_law_written : Df P mg base (gm K w ca Tb sa sn) "_law_written" [] 3 F_law_written) (m_len : mg "len" = none) (m_range : mg "range" = none) (d_law_bound : Df P mg base (gm K w ca Tb sa sn) "_law_bound" [] 5 F_law_bound) (d_law_told : Df P mg base (gm K w ca Tb sa sn) "_law_told" [] 4 F_law_told) (d_law_due : Df P mg base (gm K w ca Tb sa sn) "_law_due" [] 2 F_law_due) (d_items_of : Df P mg base (gm K w ca Tb sa sn) "items_of" [] 1 F_items_of) (m_enumerate : mg "enumerate" = none) (d_stretch_of : Df P mg base (gm K w ca Tb sa sn) "stretch_of" [] 3 F_stretch_of) :
    FnG P w K mg base (L2.CX P w) 6 f fd ["_law_script"] (spV (gm K w ca Tb sa sn) 1 F_law) :=
  fn_v (k := 5) (B := B_law) (N := N_law) (ps := ["_law_script"]) F sc_law fun cdv A outer s H E =>
  (vss_cons (vs_set (i := 1) rfl (.inl rfl) (ve_call d_law_bag (by decide) rfl (va_cons (ve_var (i := 0) rfl (.inl rfl)) (va_cons ve_int va_nil))))
  (vss_cons (vs_par2 (i := 2) (j := 3) rfl rfl rfl rfl (va_cons (ve_call d_law_letters (by decide) rfl (va_cons (ve_var (i := 1) rfl (.inl rfl)) va_nil)) (va_cons (ve_add ve_int (ve_call d_law_draw (by decide) rfl (va_cons (ve_var (i := 1) rfl (.inl rfl)) (va_cons ve_int va_nil)))) va_nil)))
  (vss_cons (vs_set (i := 4) rfl (.inl rfl) (ve_call d_law_items (by decide) rfl (va_cons (ve_var (i := 1) rfl (.inl rfl)) (va_cons (ve_var (i := 2) rfl (.inl rfl)) (va_cons ve_int (va_cons (ve_var (i := 3) rfl (.inl rfl)) va_nil))))))
  (vss_cons (vs_set (i := 5) rfl (.inl rfl) (ve_call d_law_written (by decide) rfl (va_cons (ve_var (i := 1) rfl (.inl rfl)) (va_cons (ve_var (i := 2) rfl (.inl rfl)) (va_cons (ve_var (i := 4) rfl (.inl rfl)) va_nil)))))
  (vss_cons (vs_set (i := 6) rfl (.inl rfl) (ve_lst (va_cons (ve_frz (ve_tup (va_cons ve_int (va_cons (ve_frz (ve_len m_len (va_cons (ve_var (i := 4) rfl (.inl rfl)) va_nil))) va_nil)))) (va_cons (ve_frz (ve_tup (va_cons ve_bl (va_cons (ve_frz (ve_len m_len (va_cons (ve_var (i := 4) rfl (.inl rfl)) va_nil))) va_nil)))) (va_cons (ve_frz (ve_tup (va_cons ve_int (va_cons ve_bl va_nil)))) (va_cons (ve_frz (ve_tup (va_cons (ve_frz (ve_len m_len (va_cons (ve_var (i := 4) rfl (.inl rfl)) va_nil))) (va_cons (ve_frz (ve_len m_len (va_cons (ve_var (i := 4) rfl (.inl rfl)) va_nil))) va_nil)))) (va_cons (ve_frz (ve_tup (va_cons ve_int (va_cons (ve_frz (ve_add (ve_len m_len (va_cons (ve_var (i := 4) rfl (.inl rfl)) va_nil)) ve_int)) va_nil)))) va_nil)))))))
  (vss_cons (vs_for (vi_range1 m_range ve_int) (vg_name (i := 7) rfl (.inl rfl))
    (vss_cons (vs_set (i := 1) rfl (.inl rfl) (ve_call d_law_bag (by decide) rfl (va_cons (ve_var (i := 0) rfl (.inl rfl)) (va_cons (ve_add (ve_var (i := 7) rfl (.inl rfl)) ve_int) va_nil))))
    (vss_cons (vs_set (i := 8) rfl (.inl rfl) (ve_call d_law_bound (by decide) rfl (va_cons (ve_var (i := 1) rfl (.inl rfl)) (va_cons (ve_len m_len (va_cons (ve_var (i := 4) rfl (.inl rfl)) va_nil)) va_nil))))
    (vss_one (vs_expr (ve_append (i := 6) rfl (.inl rfl) (va_cons (ve_frz (ve_tup (va_cons (ve_frz (ve_var (i := 8) rfl (.inl rfl))) (va_cons (ve_frz (ve_call d_law_bound (by decide) rfl (va_cons (ve_var (i := 1) rfl (.inl rfl)) (va_cons (ve_len m_len (va_cons (ve_var (i := 4) rfl (.inl rfl)) va_nil)) va_nil)))) va_nil)))) va_nil)))))))
  (vss_cons (vs_for (vi_seq (ve_var (i := 6) rfl (.inl rfl))) (vg_tup (n := 2) (vgs_cons (vg_name (i := 8) rfl (.inl rfl)) (vgs_cons (vg_name (i := 9) rfl (.inl rfl)) vgs_nil)))
    (vss_cons (vs_set (i := 10) rfl (.inl rfl) (ve_call d_law_told (by decide) rfl (va_cons (ve_var (i := 5) rfl (.inl rfl)) (va_cons (ve_var (i := 2) rfl (.inl rfl)) (va_cons (ve_var (i := 8) rfl (.inl rfl)) (va_cons (ve_var (i := 9) rfl (.inl rfl)) va_nil))))))
    (vss_cons (vs_if (vt_c1 c_ne (ve_var (i := 10) rfl (.inl rfl)) (ve_call d_law_due (by decide) rfl (va_cons (ve_var (i := 4) rfl (.inl rfl)) (va_cons (ve_var (i := 8) rfl (.inl rfl)) (va_cons (ve_var (i := 9) rfl (.inl rfl)) va_nil)))))
      (vss_one (vs_ret ve_bl))
      vss_nil)
    (vss_cons (vs_if (VW.vt (vw_and (vt_c1 c_eq (ve_sub (ve_var (i := 10) rfl (.inl rfl)) ve_int) ve_str) (vw_and1 (vt_c1 c_ne (ve_call d_items_of (by decide) rfl (va_cons (ve_sub (ve_var (i := 10) rfl (.inl rfl)) ve_int) (va_cons (ve_var (i := 2) rfl (.inl rfl)) va_nil))) (ve_slice (ve_var (i := 4) rfl (.inl rfl)) (vo_some (ve_var (i := 8) rfl (.inl rfl))) (vo_some (ve_var (i := 9) rfl (.inl rfl))))))))
      (vss_one (vs_ret ve_bl))
      vss_nil)
    (vss_one (vs_if (vt_c1 c_ne (ve_call d_law_told (by decide) rfl (va_cons (ve_var (i := 5) rfl (.inl rfl)) (va_cons (ve_var (i := 2) rfl (.inl rfl)) (va_cons (ve_var (i := 8) rfl (.inl rfl)) (va_cons (ve_var (i := 9) rfl (.inl rfl)) va_nil))))) (ve_var (i := 10) rfl (.inl rfl)))
      (vss_one (vs_ret ve_bl))
      vss_nil))))))
  (vss_cons (vs_for (vi_enum m_enumerate (ve_var (i := 4) rfl (.inl rfl))) (vg_tup (n := 2) (vgs_cons (vg_name (i := 7) rfl (.inl rfl)) (vgs_cons (vg_name (i := 11) rfl (.inl rfl)) vgs_nil)))
    (vss_one (vs_if (vt_c1 c_ne (ve_call d_stretch_of (by decide) rfl (va_cons (ve_var (i := 5) rfl (.inl rfl)) (va_cons (ve_var (i := 2) rfl (.inl rfl)) (va_cons (ve_var (i := 7) rfl (.inl rfl)) (va_cons (ve_add (ve_var (i := 7) rfl (.inl rfl)) ve_int) va_nil))))) (ve_var (i := 11) rfl (.inl rfl)))
      (vss_one (vs_ret ve_bl))
      vss_nil)))
  (vss_one (vs_ret (ve_c1 c_eq (ve_call d_law_told (by decide) rfl (va_cons ve_str (va_cons (ve_var (i := 2) rfl (.inl rfl)) (va_cons ve_int (va_cons ve_int va_nil))))) (ve_lst (va_cons ve_str (va_cons ve_str (va_cons ve_str (va_cons ve_bl va_nil))))))))))))))))

def charsL : List Nat := [39, 45, 65, 66, 67, 68, 69, 70, 71, 72, 73, 74, 75, 76, 77, 78, 79, 80, 81, 82, 83, 84, 85, 86, 87, 88, 89, 90, 97, 98, 99, 100, 101, 102, 103, 104, 105, 106, 107, 108, 109, 110, 111, 112, 113, 114, 115, 116, 117, 118, 119, 120, 121, 122]
theorem draw_ok (c f r m : Int) (h0 : 0 < m) (h1 : m < 2 ^ 200) : ∃ i c' r', 0 ≤ i ∧ i < m ∧ F_law_draw [.bo (.lst [.int c, .int f, .int r]), .sh (.int m)] = .ok (.val (.int i)) [.bo (.lst [.int c', .int f, .int r']), .sh (.int m)] := by
  have e1 : ∀ c, 0 ≤ c % m := fun c => Int.emod_nonneg _ (by omega)
  have e2 : ∀ c, c % m < m := fun c => Int.emod_lt_of_pos _ h0
  unfold F_law_draw B_law_draw
  cases hb : (f == 1) <;> cases hc : decide (0 < c) <;> simp_arith! [hb, hc, h0, fdivD_int (i := c) h0 h1]
  all_goals exact ⟨_, _, _, e1 _, e2 _, rfl⟩
theorem bag_loop (a b c : Sl) : ∀ (l : List Int) (r : Int) (x : Sl), canSto [a, b, c, .sh (.int r), x] 4 = true → ∃ r' x', forL (stoD 4) L_law_bag_1 (l.map .int) [a, b, c, .sh (.int r), x] = .ok .nx [a, b, c, .sh (.int r'), x']
  | [], r, x, _ => ⟨r, x, rfl⟩
  | i :: l, r, x, h => by
    rw [List.map_cons, forL_cons]
    rw [stoD_e, h]
    simp_arith! [L_law_bag_1_e]
    exact bag_loop a b c l _ _ rfl
theorem bag_ok (ns : List Int) (k : Int) (h : 0 ≤ k) : ∃ c f r, F_law_bag [.sh (.scr ns), .sh (.int k)] = .ok (.fresh (.lst [.int c, .int f, .int r])) [.sh (.scr ns), .sh (.int k)] := by
  unfold F_law_bag B_law_bag
  cases hk : decide (k < ns.length)
  · obtain ⟨r', x', hl⟩ := bag_loop (.sh (.scr ns)) (.sh (.int k)) (.sh (.int 0)) (cutL ns none (some 63)) (k + 1) .un rfl
    simp_arith! [hk, hl]
    exact ⟨_, _, _, rfl⟩
  · have hk := of_decide_eq_true hk
    have hx : atI ns k = some (ns[k.toNat]'(by omega)) := by
      unfold atI ixN
      rw [if_pos h]
      rw [if_pos hk]
      simp
    obtain ⟨r', x', hl⟩ := bag_loop (.sh (.scr ns)) (.sh (.int k)) (.sh (.int (ns[k.toNat]'(by omega)))) (cutL ns none (some 63)) (k + 1) .un rfl
    simp_arith! [decide_eq_true hk, hx, hl]
    exact ⟨_, _, _, rfl⟩
theorem chars_ok : F_law_characters [] = .ok (.val (.str charsL)) [] := rfl
/-- a bag -/
def IsBag (d : D) : Prop := ∃ c f r, d = .lst [.int c, .int f, .int r]
theorem atI_in {α : Type} (l : List α) (i : Int) (h0 : 0 ≤ i) (h1 : i < l.length) : ∃ x ∈ l, atI l i = some x := by
  have hlt : i.toNat < l.length := by omega
  refine ⟨l[i.toNat], List.getElem_mem hlt, ?_⟩
  unfold atI ixN
  rw [if_pos h0, if_pos h1]
  exact List.getElem?_eq_getElem hlt
theorem ix_sign (l : List Nat) (i : Int) (h0 : 0 ≤ i) (h1 : i < l.length) (hz : l.length ≤ 100000) : ∃ x ∈ l, ixA (.str l) (.int i) = some (.val (.str [x])) := by
  obtain ⟨x, hx, e⟩ := atI_in l i h0 h1
  refine ⟨x, hx, ?_⟩
  show (match (if l.length ≤ sizeLine then (atI l i).map fun c => Rv.val (D.str [c]) else none) with | some r => some r | none => _) = _
  rw [if_pos (by rw [sizeLine_eq]; omega), e]
  rfl
theorem string_loop (signs : List Nat) (hs : signs ≠ []) (hz : signs.length ≤ 100000) (a b s : Sl) : ∀ (ds : List D) (c f r : Int), ∃ (l : List Nat) (c' r' : Int), l.length = ds.length ∧ (∀ x ∈ l, x ∈ signs) ∧
    lcL (stoD 5) (M.ret true) E_law_string_1 [5] ds [.bo (.lst [.int c, .int f, .int r]), .sh (.str signs), a, b, s, .un] = .ok (l.map fun x => .str [x]) [.bo (.lst [.int c', .int f, .int r']), .sh (.str signs), a, b, s, .un]
  | [], c, f, r => ⟨[], c, r, rfl, (fun x hx => nomatch hx), rfl⟩
  | d :: ds, c, f, r => by
    have hp : 0 < signs.length := List.length_pos_iff.mpr hs
    obtain ⟨i, c1, r1, i0, i1, hd⟩ := draw_ok c f r signs.length (by omega) (by omega)
    obtain ⟨x, hx, hi⟩ := ix_sign signs i i0 i1 hz
    obtain ⟨l, c', r', hl, hm, hc⟩ := string_loop signs hs hz a b s ds c1 f r1
    refine ⟨x :: l, c', r', by simp [hl], fun y hy => ?_, ?_⟩
    · rcases List.mem_cons.mp hy with z | z
      · rw [z]; exact hx
      · exact hm y z
    · rw [lcL_cons]
      have hlen : lenD [.str signs] = some (.val (.int signs.length)) := lenD_str (by omega)
      simp_arith! [E_law_string_1_e, hlen, hd, hi, hc]
      rfl
theorem strs_one (l : List Nat) : strsD (l.map fun x => .str [x]) = some (l.map fun x => [x]) := by
  induction l with
  | nil => rfl
  | cons a r ih => simp [strsD, ih]
theorem join_one (l : List Nat) : TL.joinL [] (l.map fun x => [x]) = l := by
  rw [joinL_flat]
  induction l with
  | nil => rfl
  | cons a r ih => simp [ih]
theorem sum_one (l : List Nat) : ((l.map fun x => [x]).map (·.length)).sum = l.length := by
  induction l with
  | nil => rfl
  | cons a r ih => simp at ih ⊢; omega
theorem string_ok (c f r : Int) (signs : List Nat) (lo hi : Int) (hs : signs ≠ []) (hz : signs.length ≤ 100000) (h0 : 0 ≤ lo) (h1 : lo ≤ hi) (h2 : hi ≤ 100000) :
    ∃ (l : List Nat) (c' r' : Int), lo ≤ l.length ∧ l.length ≤ hi ∧ (∀ x ∈ l, x ∈ signs) ∧
      F_law_string [.bo (.lst [.int c, .int f, .int r]), .sh (.str signs), .sh (.int lo), .sh (.int hi)] = .ok (.val (.str l)) [.bo (.lst [.int c', .int f, .int r']), .sh (.str signs), .sh (.int lo), .sh (.int hi)] := by
  obtain ⟨i, c1, r1, i0, i1, hd⟩ := draw_ok c f r (hi - lo + 1) (by omega) (by omega)
  obtain ⟨l, c', r', hl, hm, hc⟩ := string_loop signs hs hz (.sh (.int lo)) (.sh (.int hi)) (.sh (.int (lo + i))) (rngD 0 (lo + i).toNat) c1 f r1
  have hn : (rngD 0 (lo + i).toNat).length = (lo + i).toNat := by unfold rngD; rw [List.length_map, List.length_range]
  refine ⟨l, c', r', by omega, by omega, hm, ?_⟩
  unfold F_law_string B_law_string
  have hb : decide (-4611686018427387904 ≤ lo + i ∧ lo + i < 4611686018427387904) = true := decide_eq_true (by omega)
  have hj : joinD (.str []) [.lst (l.map fun x => .str [x])] = some (.val (.str l)) := by
    show (match strsD (l.map fun x => D.str [x]) with
      | some ls => if (ls.map List.length).sum + ls.length * ([] : List Nat).length ≤ 16777216 then some (Rv.val (.str (TL.joinL [] ls))) else none
      | none => none) = _
    rw [strs_one]
    simp only
    rw [sum_one, if_pos (by simp; omega), join_one]
  have hsz : decide ((l.map fun x => (D.str [x])).length ≤ sizeLine) = true := decide_eq_true (by rw [sizeLine_eq, List.length_map]; omega)
  simp_arith! [hd, hb, hc, hsz, hj]


theorem isInt_ok (v lo hi : Int) : F_is_integer [.sh (.int v), .sh (.int lo), .sh (.int hi)] = .ok (.val (.bl (decide (lo ≤ v) && decide (v ≤ hi)))) [.sh (.int v), .sh (.int lo), .sh (.int hi)] := by
  unfold F_is_integer B_is_integer
  have h1 : isiD [.int v, .con (.ty "int")] = some (.val (.bl true)) := rfl
  have h2 : isiD [.int v, .con (.ty "bool")] = some (.val (.bl false)) := rfl
  cases ha : decide (lo ≤ v)
  · simp_arith! [h1, h2, ha]
  · simp_arith! [h1, h2, ha]
def ones (l : List Nat) : List (List Nat) := l.map fun c => [c]
/-- the letters of a step: each sign once, ascending -/
def lettersOf (l : List Nat) : List Nat := (upsN (ones l)).flatten
theorem ups_len (xs : List (List Nat)) : (upsN xs).length ≤ xs.length := by
  have nd : (upsN xs).Nodup := by
    have h : ((upsN xs).map S).Nodup := by rw [upsN_S]; exact ups_nodup _
    exact (List.pairwise_map.mp h).imp fun h e => h (congrArg S e)
  exact nd.length_le_of_subset fun x hx => upsN_mem.mp hx
theorem sum_ones {xs : List (List Nat)} (h : ∀ x ∈ xs, x.length = 1) : (xs.map List.length).sum = xs.length := by
  induction xs with
  | nil => rfl
  | cons a r ih =>
    have h1 := h a List.mem_cons_self
    have h2 := ih fun x hx => h x (List.mem_cons_of_mem _ hx)
    simp [h1, h2]; omega
theorem strs_map (ls : List (List Nat)) : strsD (ls.map D.str) = some ls := by
  induction ls with
  | nil => rfl
  | cons a r ih => simp [strsD, ih]
theorem letters_ok (l : List Nat) (hl : l.length ≤ 1000) (ok : ∀ c ∈ l, c < 1114112) :
    setD [.str l] = some (.val (.set (ones l))) ∧ sortD [.set (ones l)] = some (.fresh (.lst ((upsN (ones l)).map .str))) ∧ joinD (.str []) [.lst ((upsN (ones l)).map .str)] = some (.val (.str (lettersOf l))) := by
  have lo : (ones l).length = l.length := by unfold ones; rw [List.length_map]
  have lu := ups_len (ones l)
  refine ⟨?_, ?_, ?_⟩
  · show (match (if l.length ≤ sizeLine then some (l.map fun c => [c]) else none) with | some ls => if ls.length ≤ 4000 then some (Rv.val (.set ls)) else none | none => none) = _
    rw [if_pos (by rw [sizeLine_eq]; omega)]
    show (if (l.map fun c => [c]).length ≤ 4000 then some (Rv.val (.set (l.map fun c => [c]))) else none) = _
    rw [if_pos (by rw [List.length_map]; omega)]
    rfl
  · show (if (upsN (ones l)).length ≤ sizeLine ∧ (ones l).all (fun l => l.all (· < 1114112)) = true then some (Rv.fresh (.lst ((upsN (ones l)).map .str))) else none) = _
    rw [if_pos]
    refine ⟨by rw [sizeLine_eq]; omega, List.all_eq_true.mpr fun x hx => ?_⟩
    obtain ⟨c, hc, rfl⟩ := List.mem_map.mp hx
    simp [ok c hc]
  · show (match strsD ((upsN (ones l)).map .str) with | some ls => if (ls.map List.length).sum + ls.length * ([] : List Nat).length ≤ 16777216 then some (Rv.val (.str (TL.joinL [] ls))) else none | none => none) = _
    rw [strs_map]
    show (if ((upsN (ones l)).map List.length).sum + (upsN (ones l)).length * 0 ≤ 16777216 then some (Rv.val (.str (TL.joinL [] (upsN (ones l))))) else none) = _
    rw [sum_ones (fun x hx => ?_), if_pos (by omega), joinL_flat]
    · rfl
    · obtain ⟨c, hc, rfl⟩ := List.mem_map.mp (upsN_mem.mp hx)
      rfl
theorem in_sign (c : Nat) (cs : List Nat) : boolV inA false (.str [c]) (.str cs) = some (.val (.bl (decide (c ∈ cs)))) := rfl
/-- what Bounded.__init__ lays into the fields -/
def boundF (lo hi : D) (line : List Nat) (fs : List (Str × D)) : List (Str × D) := putFD "line" (.str line) (putFD "letters" (.str []) (putFD "high" hi (putFD "low" lo fs)))
theorem addD_str {a b : List Nat} (h : a.length + b.length ≤ 16777216) : addD (.str a) (.str b) = some (.val (.str (a ++ b))) := by
  show (if a.length + b.length ≤ sizeLine then some (Rv.val (D.str (a ++ b))) else none) = _
  rw [if_pos (by rw [sizeLine_eq]; exact h)]
/-- whether a number of letters lies within the bounds -/
def fits (lo : Int) (hi : D) (n : Nat) : Bool := decide (lo ≤ (n : Int)) && (match hi with | .int h => decide ((n : Int) ≤ h) | _ => true)
/-- a book of texts -/
def bkD (b : List (List Nat × List Nat)) : List (List Nat × D) := b.map fun p => (p.1, .str p.2)
/-- the signs of a book without blanks -/
def signsB (b : List (List Nat × List Nat)) : List Nat := PySem.StrLaws.replL [32] [] ((b.map fun p => p.1 ++ p.2).flatten)
theorem sum_le_n {xs : List (List Nat)} {n : Nat} (h : ∀ x ∈ xs, x.length ≤ n) : (xs.map List.length).sum ≤ xs.length * n := by
  induction xs with
  | nil => simp
  | cons x r ih =>
    have h1 := h x List.mem_cons_self
    have h2 := ih fun y hy => h y (List.mem_cons_of_mem _ hy)
    rw [List.map_cons, List.sum_cons, List.length_cons, Nat.succ_mul]
    omega
/-- how an argument may come: shared, or lent -/
def Arg (s : Sl) (d : D) : Prop := s = .sh d ∨ s = .bo d
theorem joinL_len (a : List Nat) : ∀ ls : List (List Nat), (TL.joinL a ls).length ≤ (ls.map List.length).sum + ls.length * a.length
  | [] => Nat.zero_le _
  | [x] => by show x.length ≤ _; simp
  | x :: y :: r => by
    have h := joinL_len a (y :: r)
    show (x ++ (a ++ TL.joinL a (y :: r))).length ≤ _
    rw [List.length_append, List.length_append, List.map_cons, List.sum_cons, List.length_cons (a := x), Nat.succ_mul]
    omega
def signsL : List Nat := [32, 33, 34, 35, 36, 38, 39, 40, 41, 42, 43, 44, 45, 46, 47, 48, 49, 50, 51, 52, 53, 54, 55, 56, 57, 58, 59, 60, 61, 62, 63, 64, 65, 66, 67, 68, 69, 70, 71, 72, 73, 74, 75, 76, 77, 78, 79, 80, 81, 82, 83, 84, 85, 86, 87, 88, 89, 90, 91, 92, 93, 94, 95, 96, 97, 98, 99, 100, 101, 102, 103, 104, 105, 106, 107, 108, 109, 110, 111, 112, 113, 114, 115, 116, 117, 118, 119, 120, 121, 122, 123, 124, 125, 126]
def digsL : List Nat := [48, 49, 50, 51, 52, 53, 54, 55, 56, 57]
theorem signs_ok : F_law_signs [] = .ok (.val (.str signsL)) [] := by
  have h := @addD_str [32, 33, 34, 35, 36, 38, 39, 40, 41, 42, 43, 44, 45, 46, 47, 48, 49, 50, 51, 52, 53, 54, 55, 56, 57, 58, 59, 60, 61, 62, 63, 64, 65, 66, 67, 68, 69, 70, 71, 72, 73, 74, 75, 76, 77, 78, 79, 80, 81, 82, 83, 84, 85, 86, 87, 88, 89, 90, 91, 92, 93, 94, 95, 96] [97, 98, 99, 100, 101, 102, 103, 104, 105, 106, 107, 108, 109, 110, 111, 112, 113, 114, 115, 116, 117, 118, 119, 120, 121, 122, 123, 124, 125, 126] (by decide)
  unfold F_law_signs B_law_signs
  simp_arith! [h]
  rfl
theorem signsL_ne : signsL ≠ [] := by decide
theorem digsL_in : ∀ x ∈ digsL, x ∈ signsL := by decide +kernel
/-- a value as it is drawn, nested at most n deep -/
inductive IsVal : Nat → D → Prop
  | non (n : Nat) : IsVal n .non
  | bl (n : Nat) (b : Bool) : IsVal n (.bl b)
  | int (n : Nat) (i : Int) (h1 : -(10 ^ 30) ≤ i) (h2 : i ≤ 10 ^ 30) : IsVal n (.int i)
  | str (n : Nat) (l : List Nat) (h : l.length ≤ 6) (hm : ∀ x ∈ l, x ∈ signsL) : IsVal n (.str l)
  | lst (n : Nat) (ds : List D) (h : ds.length ≤ 3) (hd : ∀ d ∈ ds, IsVal n d) : IsVal (n + 1) (.lst ds)
  | tup (n : Nat) (ds : List D) (h : ds.length ≤ 3) (hd : ∀ d ∈ ds, IsVal n d) : IsVal (n + 1) (.tup ds)
  | dct (n : Nat) (kvs : List (List Nat × D)) (h : kvs.length ≤ 3) (hk : ∀ p ∈ kvs, p.1.length ≤ 2 ∧ ∀ x ∈ p.1, x ∈ signsL) (hd : ∀ p ∈ kvs, IsVal n p.2) (nd : (kvs.map (·.1)).Nodup) : IsVal (n + 1) (.dct kvs)
/-- what a call gave: new or not -/
def Gave (r : Rv) (d : D) : Prop := r = .val d ∨ r = .fresh d
/-- a slot that may be stored to -/
def Sto (s : Sl) : Prop := s = .un ∨ ∃ p, s = .sh p
/-- a function that draws values at depth z -/
def Draws (n : Nat) (z : Int) (R : List Sl → Res Rv) : Prop := ∀ c f r : Int, ∃ (v : Rv) (d : D) (c' r' : Int), Gave v d ∧ IsVal n d ∧ R [.bo (.lst [.int c, .int f, .int r]), .sh (.int z)] = .ok v [.bo (.lst [.int c', .int f, .int r']), .sh (.int z)]
theorem value_lc (n : Nat) (z : Int) (R : List Sl → Res Rv) (hR : Draws n (z - 1) R) (s2 s3 s4 s6 : Sl) : ∀ (ds : List D) (c f r : Int), ∃ (xs : List D) (c' r' : Int), xs.length = ds.length ∧ (∀ x ∈ xs, IsVal n x) ∧
    lcL (stoD 5) (M.ret true) (E_law_value_1 R) [5] ds [.bo (.lst [.int c, .int f, .int r]), .sh (.int z), s2, s3, s4, .un, s6] = .ok xs [.bo (.lst [.int c', .int f, .int r']), .sh (.int z), s2, s3, s4, .un, s6]
  | [], c, f, r => ⟨[], c, r, rfl, (fun x hx => nomatch hx), rfl⟩
  | d :: ds, c, f, r => by
    obtain ⟨v, y, c1, r1, g, hy, e⟩ := hR c f r
    obtain ⟨xs, c', r', hl, hm, hc⟩ := value_lc n z R hR s2 s3 s4 s6 ds c1 f r1
    refine ⟨y :: xs, c', r', by simp [hl], fun x hx => ?_, ?_⟩
    · rcases List.mem_cons.mp hx with q | q
      · rw [q]; exact hy
      · exact hm x q
    · rw [lcL_cons]
      rcases g with rfl | rfl <;> simp_arith! [E_law_value_1_e, e, hc] <;> rfl
theorem putKD_keys (kvs : List (List Nat × D)) (k : List Nat) (v : D) : (putKD kvs k v).map (·.1) = if k ∈ kvs.map (·.1) then kvs.map (·.1) else kvs.map (·.1) ++ [k] := by
  unfold putKD
  by_cases h : kvs.any (fun kv => decide (kv.1 = k)) = true
  · rw [if_pos h]
    obtain ⟨q, hq, e⟩ := List.any_eq_true.mp h
    rw [if_pos (List.mem_map.mpr ⟨q, hq, of_decide_eq_true e⟩), List.map_map]
    refine List.map_congr_left fun p hp => ?_
    show (if p.1 = k then (p.1, v) else p).1 = p.1
    split <;> rfl
  · rw [if_neg h, if_neg, List.map_append]
    · rfl
    · intro hm
      obtain ⟨q, hq, e⟩ := List.mem_map.mp hm
      exact h (List.any_eq_true.mpr ⟨q, hq, decide_eq_true e⟩)
theorem putKD_mem {kvs : List (List Nat × D)} {k : List Nat} {v : D} {p : List Nat × D} (h : p ∈ putKD kvs k v) : p ∈ kvs ∨ p = (k, v) := by
  unfold putKD at h
  split at h
  · obtain ⟨q, hq, e⟩ := List.mem_map.mp h
    by_cases c : q.1 = k
    · rw [if_pos c] at e; right; rw [← e, c]
    · rw [if_neg c] at e; left; rw [← e]; exact hq
  · rcases List.mem_append.mp h with q | q
    · exact .inl q
    · exact .inr (List.mem_singleton.mp q)
theorem putKD_len (kvs : List (List Nat × D)) (k : List Nat) (v : D) : (putKD kvs k v).length ≤ kvs.length + 1 := by
  unfold putKD
  split
  · rw [List.length_map]; omega
  · rw [List.length_append]; simp
theorem putKD_nd {kvs : List (List Nat × D)} {k : List Nat} {v : D} (h : (kvs.map (·.1)).Nodup) : ((putKD kvs k v).map (·.1)).Nodup := by
  rw [putKD_keys]
  split
  · exact h
  · rename_i hk
    rw [List.nodup_append]
    refine ⟨h, by simp, fun a ha b hb e => ?_⟩
    rw [List.mem_singleton] at hb
    rw [e, hb] at ha
    exact hk ha
theorem value_dc (n : Nat) (z : Int) (R : List Sl → Res Rv) (hR : Draws n (z - 1) R) (s2 s3 : Sl) : ∀ (ds : List D) (c f r : Int) (kvs : List (List Nat × D)) (x5 x6 : Sl), Sto x5 → Sto x6 → kvs.length + ds.length ≤ 1000 → (∀ p ∈ kvs, p.1.length ≤ 2 ∧ ∀ x ∈ p.1, x ∈ signsL) → (∀ p ∈ kvs, IsVal n p.2) → (kvs.map (·.1)).Nodup →
    ∃ (kvs' : List (List Nat × D)) (c' r' : Int) (x5' x6' : Sl), kvs'.length ≤ kvs.length + ds.length ∧ (∀ p ∈ kvs', p.1.length ≤ 2 ∧ ∀ x ∈ p.1, x ∈ signsL) ∧ (∀ p ∈ kvs', IsVal n p.2) ∧ (kvs'.map (·.1)).Nodup ∧
    forL (stoD 5) (L_law_value_1 R) ds [.bo (.lst [.int c, .int f, .int r]), .sh (.int z), s2, s3, .ow (.dct kvs), x5, x6] = .ok .nx [.bo (.lst [.int c', .int f, .int r']), .sh (.int z), s2, s3, .ow (.dct kvs'), x5', x6']
  | [], c, f, r, kvs, x5, x6, _, _, _, hk, hd, nd => ⟨kvs, c, r, x5, x6, by simp, hk, hd, nd, rfl⟩
  | d :: ds, c, f, r, kvs, x5, x6, h5, h6, hl, hk, hd, nd => by
    rw [List.length_cons] at hl
    obtain ⟨l, c1, r1, l0, l1, lm, hs⟩ := string_ok c f r signsL 0 2 signsL_ne (by decide) (by omega) (by omega) (by omega)
    obtain ⟨v, y, c2, r2, g, hy, e⟩ := hR c1 f r1
    have ln := putKD_len kvs l y
    obtain ⟨kvs', c', r', x5', x6', q1, q2, q3, q4, q⟩ := value_dc n z R hR s2 s3 ds c2 f r2 (putKD kvs l y) (.sh d) (.sh (.str l)) (.inr ⟨_, rfl⟩) (.inr ⟨_, rfl⟩) (by omega)
      (fun p hp => (putKD_mem hp).elim (hk p) fun z => by rw [z]; exact ⟨by simp only; omega, lm⟩) (fun p hp => (putKD_mem hp).elim (hd p) fun z => by rw [z]; exact hy) (putKD_nd nd)
    refine ⟨kvs', c', r', x5', x6', by rw [List.length_cons]; omega, q2, q3, q4, ?_⟩
    have sk : setKD (.dct kvs) (.str l) y = some (.dct (putKD kvs l y)) := by
      show (if kvs.length < sizeLine then some (D.dct (putKD kvs l y)) else none) = _
      rw [if_pos (by rw [sizeLine_eq]; omega)]
    rw [forL_cons]
    rcases h5 with rfl | ⟨p5, rfl⟩ <;> rcases h6 with rfl | ⟨p6, rfl⟩ <;> rcases g with rfl | rfl <;> simp_arith! [L_law_value_1_e, signs_ok, hs, e, sk, q]
theorem pow29 : powD (.int 10) (.int 29) = some (.val (.int 100000000000000000000000000000)) := by
  show (if (0 : Int) ≤ 29 ∧ (29 : Int) ≤ 1000 ∧ -(2 ^ 60) < (10 : Int) ∧ (10 : Int) < 2 ^ 60 then some (D.int (10 ^ (29 : Int).toNat)) else none).map Rv.val = _
  rw [if_pos (by decide)]; rfl
theorem pow30 : powD (.int 10) (.int 30) = some (.val (.int 1000000000000000000000000000000)) := by
  show (if (0 : Int) ≤ 30 ∧ (30 : Int) ≤ 1000 ∧ -(2 ^ 60) < (10 : Int) ∧ (10 : Int) < 2 ^ 60 then some (D.int (10 ^ (30 : Int).toNat)) else none).map Rv.val = _
  rw [if_pos (by decide)]; rfl
theorem rng_len (n : Nat) : (rngD 0 n).length = n := by unfold rngD; rw [List.length_map, List.length_range]
theorem lc2_eq (R : List Sl → Res Rv) : E_law_value_2 R = E_law_value_1 R := rfl
/-- the first draw of a value: its kind -/
theorem value_at (n : Nat) (z : Int) (R : List Sl → Res Rv) (c f r i c1 r1 : Int) (k : Int) (hk : k = if 0 < z then 9 else 6) (hR : 6 ≤ i → ∃ m, n = m + 1 ∧ Draws m (z - 1) R) (i0 : 0 ≤ i) (i1 : i < 9)
    (hd : F_law_draw [.bo (.lst [.int c, .int f, .int r]), .sh (.int k)] = .ok (.val (.int i)) [.bo (.lst [.int c1, .int f, .int r1]), .sh (.int k)]) :
    ∃ (v : Rv) (d : D) (c' r' : Int), Gave v d ∧ IsVal n d ∧ fnF 2 7 (B_law_value R) [.bo (.lst [.int c, .int f, .int r]), .sh (.int z)] = .ok v [.bo (.lst [.int c', .int f, .int r']), .sh (.int z)] := by
  have hm : mulD (.int 3) (.int (if decide (0 < z) = true then 1 else 0)) = some (.val (.int (if 0 < z then 3 else 0))) := by
    by_cases h : 0 < z
    · rw [decide_eq_true h, if_pos h]; rfl
    · rw [decide_eq_false h, if_neg h]; rfl
  have ha : addD (.int 6) (.int (if 0 < z then 3 else 0)) = some (.val (.int k)) := by
    rw [hk]
    by_cases h : 0 < z
    · rw [if_pos h, if_pos h]; rfl
    · rw [if_neg h, if_neg h]; rfl
  unfold B_law_value
  have e9 : i = 0 ∨ i = 1 ∨ i = 2 ∨ i = 3 ∨ i = 4 ∨ i = 5 ∨ i = 6 ∨ i = 7 ∨ i = 8 := by omega
  rcases e9 with rfl | rfl | rfl | rfl | rfl | rfl | h678
  · obtain ⟨j, c2, r2, j0, j1, hj⟩ := draw_ok c1 f r1 1000000000000000000000000000000 (by omega) (by omega)
    refine ⟨.val (.int (j - 100000000000000000000000000000)), .int (j - 100000000000000000000000000000), c2, r2, .inl rfl, .int _ _ (by omega) (by omega), ?_⟩
    simp_arith! [hm, ha, hd, pow29, pow30, hj]
  · obtain ⟨j, c2, r2, j0, j1, hj⟩ := draw_ok c1 f r1 2 (by omega) (by omega)
    refine ⟨.val (.bl (j == 1)), .bl (j == 1), c2, r2, .inl rfl, .bl _ _, ?_⟩
    simp_arith! [hm, ha, hd, hj]
  · refine ⟨.val .non, .non, c1, r1, .inl rfl, .non _, ?_⟩
    simp_arith! [hm, ha, hd]
  · obtain ⟨l, c2, r2, l0, l1, lm, hs⟩ := string_ok c1 f r1 signsL 0 5 signsL_ne (by decide) (by omega) (by omega) (by omega)
    refine ⟨.val (.str l), .str l, c2, r2, .inl rfl, .str _ _ (by omega) lm, ?_⟩
    simp_arith! [hm, ha, hd, signs_ok, hs]
  · obtain ⟨j, c2, r2, j0, j1, hj⟩ := draw_ok c1 f r1 12 (by omega) (by omega)
    refine ⟨.val (.int (j - 2)), .int (j - 2), c2, r2, .inl rfl, .int _ _ (by omega) (by omega), ?_⟩
    simp_arith! [hm, ha, hd, hj]
  · obtain ⟨l, c2, r2, l0, l1, lm, hs⟩ := string_ok c1 f r1 digsL 1 3 (by decide) (by decide) (by omega) (by omega) (by omega)
    refine ⟨.val (.str l), .str l, c2, r2, .inl rfl, .str _ _ (by omega) fun x hx => digsL_in x (lm x hx), ?_⟩
    unfold digsL at hs
    simp_arith! [hm, ha, hd, hs]
  · obtain ⟨m, rfl, hD⟩ := hR (by omega)
    obtain ⟨j, c2, r2, j0, j1, hj⟩ := draw_ok c1 f r1 4 (by omega) (by omega)
    have hb : decide (-4611686018427387904 ≤ j ∧ j < 4611686018427387904) = true := decide_eq_true (by omega)
    have jl := rng_len j.toNat
    rcases h678 with rfl | rfl | rfl
    · obtain ⟨xs, c3, r3, hl, hx, hc⟩ := value_lc m z R hD (.sh (.int 6)) (.sh (.int j)) .un .un (rngD 0 j.toNat) c2 f r2
      have sz : decide (xs.length ≤ sizeLine) = true := decide_eq_true (by rw [sizeLine_eq]; omega)
      refine ⟨.fresh (.lst xs), .lst xs, c3, r3, .inr rfl, .lst _ _ (by omega) hx, ?_⟩
      simp_arith! [hm, ha, hd, hj, hb, hc, sz]
    · obtain ⟨xs, c3, r3, hl, hx, hc⟩ := value_lc m z R hD (.sh (.int 7)) (.sh (.int j)) .un .un (rngD 0 j.toNat) c2 f r2
      have sz : decide (xs.length ≤ sizeLine) = true := decide_eq_true (by rw [sizeLine_eq]; omega)
      have tp : tupD [.lst xs] = some (.val (.tup xs)) := rfl
      refine ⟨.val (.tup xs), .tup xs, c3, r3, .inl rfl, .tup _ _ (by omega) hx, ?_⟩
      simp_arith! [hm, ha, hd, hj, hb, lc2_eq, hc, sz, tp]
    · obtain ⟨kvs, c3, r3, x5, x6, hl, h1, h2, h3, hc⟩ := value_dc m z R hD (.sh (.int 8)) (.sh (.int j)) (rngD 0 j.toNat) c2 f r2 [] .un .un (.inl rfl) (.inl rfl) (by rw [List.length_nil]; omega) (fun p hp => nomatch hp) (fun p hp => nomatch hp) List.nodup_nil
      rw [List.length_nil] at hl
      refine ⟨.fresh (.dct kvs), .dct kvs, c3, r3, .inr rfl, .dct _ _ (by omega) h1 h2 h3, ?_⟩
      have dn : ∀ e : Ve, fDnew e = .ok (.fresh (.dct [])) e := fun _ => rfl
      simp_arith! [hm, ha, hd, hj, hb, dn, hc]
theorem value_ok : ∀ (n : Nat) (z : Int), z = n → Draws n z (R_law_value (n + 1))
  | 0, z, hz => fun c f r => by
    obtain ⟨i, c1, r1, i0, i1, hd⟩ := draw_ok c f r 6 (by omega) (by omega)
    exact value_at 0 z (R_law_value 0) c f r i c1 r1 6 (by rw [if_neg (by omega)]) (fun h => by omega) i0 (by omega) hd
  | n + 1, z, hz => fun c f r => by
    obtain ⟨i, c1, r1, i0, i1, hd⟩ := draw_ok c f r 9 (by omega) (by omega)
    exact value_at (n + 1) z (R_law_value (n + 1)) c f r i c1 r1 9 (by rw [if_pos (by omega)]) (fun h => ⟨n, rfl, value_ok n (z - 1) (by omega)⟩) i0 i1 hd
theorem log_small (i : Int) (h1 : -(10 ^ 30) ≤ i) (h2 : i ≤ 10 ^ 30) : i.natAbs.log2 < 1920 := by
  have h : i.natAbs < 2 ^ 1920 := Nat.lt_of_le_of_lt (show i.natAbs ≤ 10 ^ 30 by omega) (by decide +kernel)
  by_cases z : i.natAbs = 0
  · rw [z]; decide +kernel
  · exact (Nat.log2_lt z).mpr h
def szB : Nat → Nat
  | 0 => 2000
  | n + 1 => 3 * (szB n + 30) + 2000
theorem szDs_le (b : Nat) : ∀ ds : List D, (∀ d ∈ ds, szD d ≤ b) → szDs ds ≤ ds.length * (b + 2)
  | [], _ => by simp [szDs]
  | d :: ds, h => by
    have h1 := h d List.mem_cons_self
    have h2 := szDs_le b ds fun x hx => h x (List.mem_cons_of_mem _ hx)
    rw [szDs, List.length_cons, Nat.succ_mul]
    omega
theorem szK_le (b : Nat) : ∀ kvs : List (List Nat × D), (∀ p ∈ kvs, p.1.length ≤ 2 ∧ szD p.2 ≤ b) → szK kvs ≤ kvs.length * (b + 26)
  | [], _ => by simp [szK]
  | (k, d) :: r, h => by
    obtain ⟨h0, h1⟩ := h (k, d) List.mem_cons_self
    have h2 := szK_le b r fun x hx => h x (List.mem_cons_of_mem _ hx)
    rw [szK, List.length_cons, Nat.succ_mul r.length]
    simp only at h0 h1
    omega
theorem roks_of : ∀ ds : List D, (∀ d ∈ ds, rok d = true) → roks ds = true
  | [], _ => rfl
  | d :: ds, h => by rw [roks, h d List.mem_cons_self, roks_of ds fun x hx => h x (List.mem_cons_of_mem _ hx)]; rfl
theorem rokK_of : ∀ kvs : List (List Nat × D), (∀ p ∈ kvs, rok p.2 = true) → rokK kvs = true
  | [], _ => rfl
  | (k, d) :: r, h => by rw [rokK, show rok d = true from h (k, d) List.mem_cons_self, rokK_of r fun x hx => h x (List.mem_cons_of_mem _ hx)]; rfl
theorem dpDs_of (n : Nat) : ∀ ds : List D, (∀ d ∈ ds, dpD d ≤ n) → dpDs ds ≤ n
  | [], _ => by simp [dpDs]
  | d :: ds, h => by
    have h1 := h d List.mem_cons_self
    have h2 := dpDs_of n ds fun x hx => h x (List.mem_cons_of_mem _ hx)
    rw [dpDs]; omega
theorem dpK_of (n : Nat) : ∀ kvs : List (List Nat × D), (∀ p ∈ kvs, dpD p.2 ≤ n) → dpK kvs ≤ n
  | [], _ => by simp [dpK]
  | (k, d) :: r, h => by
    have h1 : dpD d ≤ n := h (k, d) List.mem_cons_self
    have h2 := dpK_of n r fun x hx => h x (List.mem_cons_of_mem _ hx)
    rw [dpK]; omega
theorem szB_ge : ∀ n, 2000 ≤ szB n
  | 0 => Nat.le_refl _
  | n + 1 => by rw [szB]; omega
theorem IsVal.shows {n : Nat} {d : D} (h : IsVal n d) : rok d = true ∧ szD d ≤ szB n ∧ dpD d ≤ n := by
  induction h with
  | non n => exact ⟨rfl, Nat.le_trans (by simp [szD]) (szB_ge n), by simp [dpD]⟩
  | bl n b => exact ⟨rfl, Nat.le_trans (by simp [szD]) (szB_ge n), by simp [dpD]⟩
  | int n i h1 h2 => exact ⟨by rw [rok]; exact decide_eq_true (log_small i h1 h2), Nat.le_trans (by simp [szD]) (szB_ge n), by simp [dpD]⟩
  | str n l h hm => exact ⟨rfl, Nat.le_trans (by rw [szD]; omega) (szB_ge n), by simp [dpD]⟩
  | lst n ds h hd ih =>
    refine ⟨by rw [rok]; exact roks_of ds fun d hd => (ih d hd).1, ?_, by rw [dpD]; exact Nat.succ_le_succ (dpDs_of n ds fun d hd => (ih d hd).2.2)⟩
    have := szDs_le (szB n) ds fun d hd => (ih d hd).2.1
    have m := Nat.mul_le_mul_right (szB n + 2) h
    rw [szD, szB]; omega
  | tup n ds h hd ih =>
    refine ⟨by rw [rok]; exact roks_of ds fun d hd => (ih d hd).1, ?_, by rw [dpD]; exact Nat.succ_le_succ (dpDs_of n ds fun d hd => (ih d hd).2.2)⟩
    have := szDs_le (szB n) ds fun d hd => (ih d hd).2.1
    have m := Nat.mul_le_mul_right (szB n + 2) h
    rw [szD, szB]; omega
  | dct n kvs h hk hd nd ih =>
    refine ⟨by rw [rok]; exact rokK_of kvs fun p hp => ih p hp |>.1, ?_, by rw [dpD]; exact Nat.succ_le_succ (dpK_of n kvs fun p hp => (ih p hp).2.2)⟩
    have := szK_le (szB n) kvs fun p hp => ⟨(hk p hp).1, (ih p hp).2.1⟩
    have m := Nat.mul_le_mul_right (szB n + 26) h
    rw [szD, szB]; omega
/-- data that are no object and no function -/
def plainD : D → Bool
  | .non => true
  | .bl _ => true
  | .int _ => true
  | .str _ => true
  | .lst _ => true
  | .tup _ => true
  | .dct _ => true
  | _ => false
theorem IsVal.plain {n : Nat} {d : D} (h : IsVal n d) : plainD d = true := by cases h <;> rfl
/-- a text of some signs -/
def textOf (cs : List Nat) : D → Bool
  | .str l => !decide (l = []) && l.all fun c => decide (c ∈ cs)
  | _ => false
def isT : D → Bool
  | .str _ => true
  | _ => false
/-- not longer than n, if it is a text -/
def shortD (n : Nat) : D → Prop
  | .str l => l.length ≤ n
  | _ => True
theorem lettersOf_mem {l : List Nat} {x : Nat} : x ∈ lettersOf l ↔ x ∈ l := by
  unfold lettersOf ones
  rw [List.mem_flatten]
  constructor
  · rintro ⟨y, hy, hx⟩
    obtain ⟨c, hc, rfl⟩ := List.mem_map.mp (upsN_mem.mp hy)
    rw [List.mem_singleton.mp hx]; exact hc
  · exact fun h => ⟨[x], upsN_mem.mpr (List.mem_map.mpr ⟨x, h, rfl⟩), by simp⟩
theorem lettersOf_len (l : List Nat) : (lettersOf l).length ≤ l.length := by
  unfold lettersOf
  rw [List.length_flatten, sum_ones fun x hx => ?_]
  · exact Nat.le_trans (ups_len _) (by unfold ones; rw [List.length_map]; exact Nat.le_refl _)
  · obtain ⟨c, hc, rfl⟩ := List.mem_map.mp (upsN_mem.mp hx)
    rfl
theorem law_letters_ok (c f r : Int) : ∃ (l : List Nat) (c' r' : Int), 1 ≤ l.length ∧ l.length ≤ 4 ∧ (∀ x ∈ l, x ∈ charsL) ∧ (∃ y, l = lettersOf y) ∧
    F_law_letters [.bo (.lst [.int c, .int f, .int r])] = .ok (.val (.str l)) [.bo (.lst [.int c', .int f, .int r'])] := by
  obtain ⟨l, c1, r1, l0, l1, lm, hs⟩ := string_ok c f r charsL 1 4 (by decide) (by decide) (by omega) (by omega) (by omega)
  have cm : ∀ x ∈ charsL, x < 1114112 := by decide +kernel
  obtain ⟨_, h2, h3⟩ := letters_ok l (by omega) fun x hx => cm x (lm x hx)
  have hl : listD [.str l] = some (.fresh (.lst (l.map fun c => .str [c]))) := by
    show (if l.length ≤ sizeLine then some (Rv.fresh (.lst (l.map fun c => D.str [c]))) else none) = _
    rw [if_pos (by rw [sizeLine_eq]; omega)]
  have h1 : setD [.lst (l.map fun c => .str [c])] = some (.val (.set (ones l))) := by
    show (match strsD (l.map fun c => D.str [c]) with | some ls => if ls.length ≤ 4000 then some (Rv.val (.set ls)) else none | none => none) = _
    rw [strs_one]
    show (if (l.map fun c => [c]).length ≤ 4000 then some (Rv.val (.set (l.map fun c => [c]))) else none) = _
    rw [if_pos (by rw [List.length_map]; omega)]; rfl
  have ln := lettersOf_len l
  refine ⟨lettersOf l, c1, r1, ?_, by omega, fun x hx => lm x (lettersOf_mem.mp hx), ⟨l, rfl⟩, ?_⟩
  · match l, l0 with
    | [], l0 => simp at l0
    | x :: t, _ => exact List.length_pos_of_mem (lettersOf_mem.mpr (List.mem_cons_self (a := x) (l := t)))
  · unfold F_law_letters B_law_letters
    simp_arith! [chars_ok, hs, hl, h1, h2, h3]


/-- a source: what its draws are made of, n draws at most so far -/
def IsSrc (n : Nat) (d : D) : Prop := ∃ c b k, d = .lst [.int c, .int b, .int k] ∧ 0 ≤ b ∧ b < 2000000000000 ∧ 0 ≤ k ∧ k ≤ n
def sg (l : List Nat) : List D := l.map fun c => .str [c]
theorem IsSrc.mono {n m : Nat} {d : D} (h : IsSrc n d) (hm : n ≤ m) : IsSrc m d := by
  obtain ⟨c, b, k, e, x1, x2, x3, x4⟩ := h
  exact ⟨c, b, k, e, x1, x2, x3, by omega⟩
/-- an item of up to nine letters or five digits -/
def IsItem (l w : List Nat) : Prop := 1 ≤ w.length ∧ w.length ≤ 9 ∧ ((∀ x ∈ w, x ∈ l) ∨ ∀ x ∈ w, 48 ≤ x ∧ x ≤ 57)
def kinN (l : List Nat) (c : Nat) : List Nat := if c ∈ l then l else if c ∈ c_DIGITS then c_DIGITS else []
def itemN (l : List Nat) (p : List (List Nat) × List Nat) (c : Nat) : List (List Nat) × List Nat :=
  (if kinN l c = [] then p.1 else if kinN l c = p.2 then p.1.dropLast ++ [p.1.getLastD [] ++ [c]] else p.1 ++ [[c]], kinN l c)
def itemsN (l t : List Nat) : List (List Nat) := (t.foldl (itemN l) ([], [])).1
theorem last_ix {α : Type} (xs : List α) (x : α) : atI (xs ++ [x]) (-1) = some x := by
  unfold atI ixN
  have n : (xs ++ [x]).length = xs.length + 1 := by simp
  rw [if_neg (by decide), n, if_pos (by omega)]
  show (xs ++ [x])[((-1 : Int) + ((xs.length + 1 : Nat) : Int)).toNat]? = _
  rw [show ((-1 : Int) + ((xs.length + 1 : Nat) : Int)).toNat = xs.length by omega]
  simp
theorem last_n (xs : List D) (x : D) : ixN (xs ++ [x]).length (-1) = some xs.length := by
  unfold ixN
  have n : (xs ++ [x]).length = xs.length + 1 := by simp
  rw [if_neg (by decide), n, if_pos (by omega)]
  congr 1
  omega
theorem item_step (l t : List Nat) (hl : l ≠ []) (its : List (List Nat)) (k : List Nat) (c : Nat) (x5 : Sl) (hk : k ≠ [] → its ≠ []) (n1 : its.length < 100000) (n2 : ∀ w ∈ its, w.length < 100000) (h5 : stoS x5 = true) :
    L_items_of_1 [.sh (.str t), .sh (.str l), .ow (.lst (its.map .str)), .sh (.str k), .sh (.str [c]), x5] = .ok .nx [.sh (.str t), .sh (.str l), .ow (.lst ((itemN l (its, k) c).1.map .str)), .sh (.str (itemN l (its, k) c).2), .sh (.str [c]), .sh (.str (kinN l c))] := by
  have i1 := in_sign c l
  have i2 := in_sign c c_DIGITS
  have ap : ∀ w : List Nat, appD (.lst (its.map .str)) [.str w] = some (.lst ((its ++ [w]).map .str), .non) := fun w => by
    show (if (its.map D.str).length < sizeLine then some (D.lst (its.map .str ++ [.str w]), D.non) else none) = _
    rw [if_pos (by rw [sizeLine_eq, List.length_map]; omega), List.map_append]
    rfl
  have dg : c_DIGITS ≠ [] := by decide
  have key : ∀ q : List Nat, q = kinN l c → q ≠ [] → ∀ b1 b2 : Bool, decide (c ∈ l) = b1 → (b1 = false → decide (c ∈ c_DIGITS) = b2) → (q = if b1 = true then l else if b2 = true then c_DIGITS else []) →
      L_items_of_1 [.sh (.str t), .sh (.str l), .ow (.lst (its.map .str)), .sh (.str k), .sh (.str [c]), x5] = .ok .nx [.sh (.str t), .sh (.str l), .ow (.lst ((itemN l (its, k) c).1.map .str)), .sh (.str q), .sh (.str [c]), .sh (.str q)] := by
    intro q hq q0 b1 b2 e1 e2 eq
    have n0 : neG (.str q) (.str []) = some (.val (.bl true)) := by rw [neG_str, decide_eq_false q0]; rfl
    unfold itemN
    rw [← hq, if_neg q0]
    by_cases hk2 : q = k
    · have ee : eqG (.str q) (.str k) = some (.val (.bl true)) := by rw [eqG_str, decide_eq_true hk2]
      obtain ⟨pre, u, rfl⟩ : ∃ pre u, its = pre ++ [u] := by
        rcases List.eq_nil_or_concat its with z | ⟨pre, u, z⟩
        · exact absurd z (hk (hk2 ▸ q0))
        · exact ⟨pre, u, by rw [z, List.concat_eq_append]⟩
      have ix : ixA (.lst ((pre ++ [u]).map .str)) (.int (-1)) = some (.val (.str u)) := by
        rw [List.map_append]
        show (match (atI (pre.map D.str ++ [D.str u]) (-1)).map Rv.val with | some r => some r | none => _) = _
        rw [last_ix]
        rfl
      have ul := n2 u (by simp)
      have ad : addD (.str u) (.str [c]) = some (.val (.str (u ++ [c]))) := addD_str (by simp; omega)
      have st1 : ixN ((pre ++ [u]).map D.str).length (-1) = some pre.length := by
        rw [List.map_append]
        have := last_n (pre.map D.str) (.str u)
        rw [List.length_map] at this
        exact this
      have st2 : ((pre ++ [u]).map D.str).set pre.length (.str (u ++ [c])) = (pre ++ [u ++ [c]]).map .str := by
        rw [List.map_append, List.map_append]
        simp
      have e0 : (if q = (pre ++ [u], k).2 then (pre ++ [u], k).1.dropLast ++ [(pre ++ [u], k).1.getLastD [] ++ [c]] else (pre ++ [u], k).1 ++ [[c]]) = pre ++ [u ++ [c]] := by
        rw [if_pos hk2]
        simp
      rw [e0]
      cases b1 with
      | true =>
        simp only [if_true] at eq
        subst eq
        rw [e1] at i1
        simp_arith! [L_items_of_1_e, i1, h5, n0, ee, fSetAt_e, ix, ad, st1, st2]
      | false =>
        cases b2 with
        | true =>
          simp only [Bool.false_eq_true, if_false, if_true] at eq
          subst eq
          rw [e1] at i1
          rw [e2 rfl] at i2
          simp_arith! [L_items_of_1_e, i1, i2, h5, n0, ee, fSetAt_e, ix, ad, st1, st2]
        | false => simp at eq; exact absurd eq q0
    · have ee : eqG (.str q) (.str k) = some (.val (.bl false)) := by rw [eqG_str, decide_eq_false hk2]
      rw [if_neg (show ¬ q = (its, k).2 from hk2)]
      have a1 := ap [c]
      cases b1 with
      | true =>
        simp only [if_true] at eq
        subst eq
        rw [e1] at i1
        simp_arith! [L_items_of_1_e, i1, h5, n0, ee, a1]
      | false =>
        cases b2 with
        | true =>
          simp only [Bool.false_eq_true, if_false, if_true] at eq
          subst eq
          rw [e1] at i1
          rw [e2 rfl] at i2
          simp_arith! [L_items_of_1_e, i1, i2, h5, n0, ee, a1]
        | false => simp at eq; exact absurd eq q0
  by_cases c1 : c ∈ l
  · have e : kinN l c = l := if_pos c1
    have r := key l e.symm hl true true (decide_eq_true c1) (fun z => nomatch z) rfl
    rw [r, show (itemN l (its, k) c).2 = l from e, e]
  · by_cases c2 : c ∈ c_DIGITS
    · have e : kinN l c = c_DIGITS := by unfold kinN; rw [if_neg c1, if_pos c2]
      have r := key c_DIGITS e.symm dg false true (decide_eq_false c1) (fun _ => decide_eq_true c2) rfl
      rw [r, show (itemN l (its, k) c).2 = c_DIGITS from e, e]
    · have e : kinN l c = [] := by unfold kinN; rw [if_neg c1, if_neg c2]
      have n0 : neG (.str []) (.str []) = some (.val (.bl false)) := rfl
      rw [decide_eq_false c1] at i1
      rw [decide_eq_false c2] at i2
      rw [show (itemN l (its, k) c).2 = [] from e, e, show (itemN l (its, k) c).1 = its from if_pos e]
      simp_arith! [L_items_of_1_e, i1, i2, h5, n0]
theorem kin_ne {l : List Nat} {its : List (List Nat)} {k : List Nat} (c : Nat) (hk : k ≠ [] → its ≠ []) : (itemN l (its, k) c).2 ≠ [] → (itemN l (its, k) c).1 ≠ [] := by
  intro h
  show (if kinN l c = [] then its else if kinN l c = k then its.dropLast ++ [its.getLastD [] ++ [c]] else its ++ [[c]]) ≠ []
  rw [if_neg (show ¬ kinN l c = [] from h)]
  split <;> simp
theorem item_len {l : List Nat} {its : List (List Nat)} {k : List Nat} (c : Nat) (n : Nat) (h1 : its.length < n) (h2 : ∀ w ∈ its, w.length < n) : (itemN l (its, k) c).1.length ≤ n ∧ ∀ w ∈ (itemN l (its, k) c).1, w.length ≤ n := by
  show (if kinN l c = [] then its else if kinN l c = k then its.dropLast ++ [its.getLastD [] ++ [c]] else its ++ [[c]]).length ≤ n ∧ ∀ w ∈ (if kinN l c = [] then its else if kinN l c = k then its.dropLast ++ [its.getLastD [] ++ [c]] else its ++ [[c]]), w.length ≤ n
  split
  · exact ⟨by omega, fun w h => Nat.le_of_lt (h2 w h)⟩
  · split
    · refine ⟨by simp; omega, fun w hw => ?_⟩
      rcases List.mem_append.mp hw with z | z
      · exact Nat.le_of_lt (h2 w (List.dropLast_subset _ z))
      · rw [List.mem_singleton.mp z, List.length_append]
        have : (its.getLastD []).length < n := by
          rcases List.eq_nil_or_concat its with y | ⟨pre, u, y⟩
          · subst y; simp; omega
          · subst y; simpa using h2 u (by simp)
        show (its.getLastD []).length + 1 ≤ n
        omega
    · refine ⟨by simp; omega, fun w hw => ?_⟩
      rcases List.mem_append.mp hw with z | z
      · exact Nat.le_of_lt (h2 w z)
      · rw [List.mem_singleton.mp z]; simp; omega
theorem item_loop (l t : List Nat) (hl : l ≠ []) : ∀ (r : List Nat) (its : List (List Nat)) (k : List Nat) (n : Nat) (x4 x5 : Sl), (k ≠ [] → its ≠ []) → n + r.length ≤ 99999 → its.length ≤ n → (∀ w ∈ its, w.length ≤ n) → stoS x4 = true → stoS x5 = true →
    ∃ x4' x5', forL (stoD 4) L_items_of_1 (r.map fun c => .str [c]) [.sh (.str t), .sh (.str l), .ow (.lst (its.map .str)), .sh (.str k), x4, x5] = .ok .nx [.sh (.str t), .sh (.str l), .ow (.lst ((r.foldl (itemN l) (its, k)).1.map .str)), .sh (.str (r.foldl (itemN l) (its, k)).2), x4', x5']
  | [], its, k, n, x4, x5, _, _, _, _, _, _ => ⟨x4, x5, rfl⟩
  | c :: r, its, k, n, x4, x5, hk, hn, h1, h2, g4, g5 => by
    rw [List.length_cons] at hn
    have st := item_step l t hl its k c x5 hk (by omega) (fun w h => by have := h2 w h; omega) g5
    obtain ⟨m1, m2⟩ := item_len (l := l) (k := k) c (n + 1) (show its.length < n + 1 by omega) (fun w h => by have := h2 w h; omega)
    obtain ⟨y4, y5, ih⟩ := item_loop l t hl r (itemN l (its, k) c).1 (itemN l (its, k) c).2 (n + 1) (.sh (.str [c])) (.sh (.str (kinN l c))) (kin_ne c hk) (by omega) m1 m2 rfl rfl
    refine ⟨y4, y5, ?_⟩
    rw [List.map_cons, forL_cons, List.foldl_cons]
    simp_arith! [g4, st, ih]
theorem items_ok (l t : List Nat) (hl : l ≠ []) (ht : t.length ≤ 90000) : F_items_of [.sh (.str t), .sh (.str l)] = .ok (.fresh (.lst ((itemsN l t).map .str))) [.sh (.str t), .sh (.str l)] := by
  obtain ⟨y4, y5, lp⟩ := item_loop l t hl t [] [] 0 .un .un (fun h => absurd rfl h) (by omega) (by simp) (fun w h => nomatch h) rfl rfl
  simp only [List.map_nil] at lp
  have es : itemsD (.str t) = some (t.map fun c => .str [c]) := rfl
  unfold F_items_of B_items_of
  simp_arith! [es, lp]
  rfl

theorem chars_kin : ∀ c ∈ charsL, c ∉ c_DIGITS ∧ c ≠ 32 := by decide +kernel
theorem dig_mem : ∀ c, 48 ≤ c → c ≤ 57 → c ∈ c_DIGITS := by
  intro c h0 h1
  have : c = 48 ∨ c = 49 ∨ c = 50 ∨ c = 51 ∨ c = 52 ∨ c = 53 ∨ c = 54 ∨ c = 55 ∨ c = 56 ∨ c = 57 := by omega
  rcases this with rfl | rfl | rfl | rfl | rfl | rfl | rfl | rfl | rfl | rfl <;> decide
theorem kin_blank {l : List Nat} (hc : ∀ c ∈ l, c ∈ charsL) : kinN l 32 = [] := by
  unfold kinN
  rw [if_neg (fun h => (chars_kin 32 (hc 32 h)).2 rfl), if_neg (by decide)]
theorem kin_item {l w : List Nat} (hl : l ≠ []) (hc : ∀ c ∈ l, c ∈ charsL) (h : (∀ x ∈ w, x ∈ l) ∨ ∀ x ∈ w, 48 ≤ x ∧ x ≤ 57) : ∃ k, k ≠ [] ∧ ∀ x ∈ w, kinN l x = k := by
  rcases h with h | h
  · exact ⟨l, hl, fun x hx => if_pos (h x hx)⟩
  · refine ⟨c_DIGITS, by decide, fun x hx => ?_⟩
    have d := dig_mem x (h x hx).1 (h x hx).2
    unfold kinN
    rw [if_neg (fun z => (chars_kin x (hc x z)).1 d), if_pos d]
theorem fold_word {l k : List Nat} (hk : k ≠ []) : ∀ (w : List Nat) (its : List (List Nat)) (u : List Nat), (∀ x ∈ w, kinN l x = k) → w.foldl (itemN l) (its ++ [u], k) = (its ++ [u ++ w], k)
  | [], its, u, _ => by simp
  | c :: w, its, u, h => by
    have e := h c List.mem_cons_self
    rw [List.foldl_cons, show itemN l (its ++ [u], k) c = (its ++ [u ++ [c]], k) by
      unfold itemN
      rw [e, if_neg hk, if_pos rfl]
      simp]
    rw [fold_word hk w its (u ++ [c]) fun x hx => h x (List.mem_cons_of_mem _ hx), List.append_assoc]
    rfl
theorem fold_new {l k k0 : List Nat} (hk : k ≠ []) (h0 : k0 ≠ k) (w : List Nat) (hw : w ≠ []) (its : List (List Nat)) (h : ∀ x ∈ w, kinN l x = k) : w.foldl (itemN l) (its, k0) = (its ++ [w], k) := by
  match w, hw with
  | c :: w, _ =>
    have e := h c List.mem_cons_self
    rw [List.foldl_cons, show itemN l (its, k0) c = (its ++ [[c]], k) by
      unfold itemN
      rw [e, if_neg hk, if_neg (fun z => h0 z.symm)]]
    rw [fold_word hk w its [c] fun x hx => h x (List.mem_cons_of_mem _ hx)]
    rfl
theorem fold_join {l : List Nat} (hl : l ≠ []) (hc : ∀ c ∈ l, c ∈ charsL) : ∀ (ws its : List (List Nat)), (∀ w ∈ ws, w ≠ [] ∧ ((∀ x ∈ w, x ∈ l) ∨ ∀ x ∈ w, 48 ≤ x ∧ x ≤ 57)) → ((TL.joinL [32] ws).foldl (itemN l) (its, [])).1 = its ++ ws
  | [], its, _ => by simp [TL.joinL]
  | [w], its, h => by
    obtain ⟨w0, wk⟩ := h w List.mem_cons_self
    obtain ⟨k, k0, kk⟩ := kin_item hl hc wk
    show (w.foldl (itemN l) (its, [])).1 = _
    rw [fold_new k0 (fun z => k0 z.symm) w w0 its kk]
  | w :: v :: r, its, h => by
    obtain ⟨w0, wk⟩ := h w List.mem_cons_self
    obtain ⟨k, k0, kk⟩ := kin_item hl hc wk
    show ((w ++ ([32] ++ TL.joinL [32] (v :: r))).foldl (itemN l) (its, [])).1 = _
    rw [List.foldl_append, fold_new k0 (fun z => k0 z.symm) w w0 its kk, List.foldl_append]
    have b : [32].foldl (itemN l) (its ++ [w], k) = (its ++ [w], []) := by
      show itemN l (its ++ [w], k) 32 = _
      unfold itemN
      rw [kin_blank hc, if_pos rfl]
    rw [b, fold_join hl hc (v :: r) (its ++ [w]) fun x hx => h x (List.mem_cons_of_mem _ hx), List.append_assoc]
    rfl
def IsItB (l w : List Nat) : Prop := 1 ≤ w.length ∧ w.length ≤ 40 ∧ ((∀ x ∈ w, x ∈ l) ∨ ∀ x ∈ w, x ∈ digsL)
theorem dig_notChars : ∀ x ∈ digsL, x ∉ charsL := by decide +kernel
theorem app_strB (ws : List (List Nat)) (w : List Nat) (h : ws.length ≤ 10000) : appD (.lst (ws.map D.str)) [.str w] = some (.lst ((ws ++ [w]).map D.str), .non) := by
  show (if (ws.map D.str).length < sizeLine then some (D.lst (ws.map D.str ++ [.str w]), D.non) else none) = _
  rw [if_pos (by rw [sizeLine_eq, List.length_map]; omega), List.map_append]
  rfl
theorem items_loopB (l : List Nat) (hl : l ≠ []) (hz : l.length ≤ 100) (s2 : Sl) (m : Int) (m1 : 1 ≤ m) (m2 : m ≤ 40) : ∀ (ds : List D) (acc : List (List Nat)) (c f r : Int) (x5 x6 : Sl), acc.length + ds.length ≤ 10000 → (∀ w ∈ acc, IsItB l w) → stoS x5 = true → stoS x6 = true →
    ∃ (acc' : List (List Nat)) (c' r' : Int) (y5 y6 : Sl), acc'.length = acc.length + ds.length ∧ (∀ w ∈ acc', IsItB l w) ∧ forL (stoD 5) L_law_items_1 ds [.bo (.lst [.int c, .int f, .int r]), .sh (.str l), s2, .sh (.int m), .ow (.lst (acc.map D.str)), x5, x6] = .ok .nx [.bo (.lst [.int c', .int f, .int r']), .sh (.str l), s2, .sh (.int m), .ow (.lst (acc'.map D.str)), y5, y6]
  | [], acc, c, f, r, x5, x6, _, ha, _, _ => ⟨acc, c, r, x5, x6, by simp, ha, rfl⟩
  | d :: ds, acc, c, f, r, x5, x6, hn, ha, g5, g6 => by
    rw [List.length_cons] at hn
    obtain ⟨i, c1, r1, i0, i1, hd⟩ := draw_ok c f r 4 (by omega) (by omega)
    have st : ∀ (ss : List Nat), ss ≠ [] → ss.length ≤ 1000 → ((∀ x ∈ ss, x ∈ l) ∨ ∀ x ∈ ss, x ∈ digsL) → ∃ (w : List Nat) (c2 r2 : Int), IsItB l w ∧ F_law_string [.bo (.lst [.int c1, .int f, .int r1]), .sh (.str ss), .sh (.int 1), .sh (.int m)] = .ok (.val (.str w)) [.bo (.lst [.int c2, .int f, .int r2]), .sh (.str ss), .sh (.int 1), .sh (.int m)] := fun ss h1 h2 h3 => by
      obtain ⟨w, c2, r2, l0, l1, lm, hs⟩ := string_ok c1 f r1 ss 1 m h1 (by omega) (by omega) (by omega) (by omega)
      exact ⟨w, c2, r2, ⟨by omega, by omega, h3.imp (fun z x hx => z x (lm x hx)) fun z x hx => z x (lm x hx)⟩, hs⟩
    rw [forL_cons]
    cases hb : (i == 0)
    · obtain ⟨w, c2, r2, hw, hs⟩ := st l hl (by omega) (.inl fun x hx => hx)
      obtain ⟨acc', c', r', y5, y6, a1, a2, ih⟩ := items_loopB l hl hz s2 m m1 m2 ds (acc ++ [w]) c2 f r2 (.sh d) (.sh (.str l)) (by rw [List.length_append, List.length_singleton]; omega) (fun x hx => (List.mem_append.mp hx).elim (ha x) fun z => by rw [List.mem_singleton.mp z]; exact hw) rfl rfl
      refine ⟨acc', c', r', y5, y6, by rw [a1, List.length_append]; simp; omega, a2, ?_⟩
      have ap := app_strB acc w (by omega)
      generalize (acc ++ [w]).map D.str = a3 at *
      generalize acc.map D.str = a4 at *
      generalize acc'.map D.str = a5 at *
      simp_arith! [g5, g6, L_law_items_1_e, hd, hb, hs, ap, ih]
    · obtain ⟨w, c2, r2, hw, hs⟩ := st digsL (by decide) (by decide) (.inr fun x hx => hx)
      have hs : F_law_string [.bo (.lst [.int c1, .int f, .int r1]), .sh (.str [48, 49, 50, 51, 52, 53, 54, 55, 56, 57]), .sh (.int 1), .sh (.int m)] = .ok (.val (.str w)) [.bo (.lst [.int c2, .int f, .int r2]), .sh (.str [48, 49, 50, 51, 52, 53, 54, 55, 56, 57]), .sh (.int 1), .sh (.int m)] := hs
      obtain ⟨acc', c', r', y5, y6, a1, a2, ih⟩ := items_loopB l hl hz s2 m m1 m2 ds (acc ++ [w]) c2 f r2 (.sh d) (.sh (.str [48, 49, 50, 51, 52, 53, 54, 55, 56, 57])) (by rw [List.length_append, List.length_singleton]; omega) (fun x hx => (List.mem_append.mp hx).elim (ha x) fun z => by rw [List.mem_singleton.mp z]; exact hw) rfl rfl
      refine ⟨acc', c', r', y5, y6, by rw [a1, List.length_append]; simp; omega, a2, ?_⟩
      have ap := app_strB acc w (by omega)
      generalize (acc ++ [w]).map D.str = a3 at *
      generalize acc.map D.str = a4 at *
      generalize acc'.map D.str = a5 at *
      simp_arith! [g5, g6, L_law_items_1_e, hd, hb, hs, ap, ih]
theorem items_okB (l : List Nat) (hl : l ≠ []) (hz : l.length ≤ 100) (n m : Int) (n0 : 0 ≤ n) (n1 : n ≤ 5000) (m1 : 1 ≤ m) (m2 : m ≤ 40) (c f r : Int) : ∃ (ws : List (List Nat)) (c' r' : Int), (ws.length : Int) ≤ n ∧ (∀ w ∈ ws, IsItB l w) ∧
    F_law_items [.bo (.lst [.int c, .int f, .int r]), .sh (.str l), .sh (.int n), .sh (.int m)] = .ok (.fresh (.lst (ws.map D.str))) [.bo (.lst [.int c', .int f, .int r']), .sh (.str l), .sh (.int n), .sh (.int m)] := by
  obtain ⟨i, c1, r1, i0, i1, hd⟩ := draw_ok c f r (n + 1) (by omega) (by omega)
  have hl2 : (rngD 0 i.toNat).length = i.toNat := by unfold rngD; rw [List.length_map, List.length_range]
  obtain ⟨ws, c', r', y5, y6, a1, a2, lp⟩ := items_loopB l hl hz (.sh (.int n)) m m1 m2 (rngD 0 i.toNat) [] c1 f r1 .un .un (by rw [hl2]; simp; omega) (fun w h => nomatch h) rfl rfl
  rw [hl2] at a1
  simp only [List.map_nil, List.length_nil] at lp a1
  have hb : decide (-4611686018427387904 ≤ i ∧ i < 4611686018427387904) = true := decide_eq_true (by omega)
  refine ⟨ws, c', r', by omega, a2, ?_⟩
  have z0 : decide (([] : List D).length ≤ sizeLine) = true := by rw [sizeLine_eq]; rfl
  unfold F_law_items B_law_items
  generalize ws.map D.str = wd at *
  simp_arith! [z0, hd, hb, lp]

theorem ixl_atW {ds : List D} {n : Nat} {d : D} (h : ds[n]? = some d) : ixA (.lst ds) (.int (n : Int)) = some (.val d) := by
  obtain ⟨hn, _⟩ := List.getElem?_eq_some_iff.mp h
  show (match (atI ds n).map Rv.val with | some r => some r | none => _) = _
  have e : atI ds (n : Int) = some d := by
    unfold atI ixN
    rw [if_pos (by omega), if_pos (by omega)]
    exact h
  rw [e]
  rfl
theorem ixl_sign (G : List Nat) (i : Int) (h0 : 0 ≤ i) (h1 : i < G.length) : ∃ x ∈ G, ixA (.lst (G.map fun x => D.str [x])) (.int i) = some (.val (.str [x])) := by
  obtain ⟨n, rfl⟩ := Int.eq_ofNat_of_zero_le h0
  have hlt : n < G.length := by omega
  refine ⟨G[n], List.getElem_mem hlt, ixl_atW (n := n) ?_⟩
  rw [List.getElem?_map, List.getElem?_eq_getElem hlt]
  rfl
theorem string_loopL (G : List Nat) (hs : G ≠ []) (hz : G.length ≤ 100000) (a b s : Sl) : ∀ (ds : List D) (c f r : Int), ∃ (l : List Nat) (c' r' : Int), l.length = ds.length ∧ (∀ x ∈ l, x ∈ G) ∧
    lcL (stoD 5) (M.ret true) E_law_string_1 [5] ds [.bo (.lst [.int c, .int f, .int r]), .bo (.lst (G.map fun x => .str [x])), a, b, s, .un] = .ok (l.map fun x => .str [x]) [.bo (.lst [.int c', .int f, .int r']), .bo (.lst (G.map fun x => .str [x])), a, b, s, .un]
  | [], c, f, r => ⟨[], c, r, rfl, (fun x hx => nomatch hx), rfl⟩
  | d :: ds, c, f, r => by
    have hp : 0 < G.length := List.length_pos_iff.mpr hs
    obtain ⟨i, c1, r1, i0, i1, hd⟩ := draw_ok c f r G.length (by omega) (by omega)
    obtain ⟨x, hx, hi⟩ := ixl_sign G i i0 i1
    obtain ⟨l, c', r', hl, hm, hc⟩ := string_loopL G hs hz a b s ds c1 f r1
    refine ⟨x :: l, c', r', by simp [hl], fun y hy => ?_, ?_⟩
    · rcases List.mem_cons.mp hy with z | z
      · rw [z]; exact hx
      · exact hm y z
    · rw [lcL_cons]
      have hlen : lenD [.lst (G.map fun x => D.str [x])] = some (.val (.int G.length)) := by rw [lenD_lst, List.length_map]
      rw [List.map_cons]
      generalize (G.map fun x => D.str [x]) = gd at *
      generalize (l.map fun x => D.str [x]) = ld at *
      simp_arith! [E_law_string_1_e, hlen, hd, hi, hc]
      all_goals rfl
theorem string_okL (G : List Nat) (hs : G ≠ []) (hz : G.length ≤ 100000) (lo hi : Int) (h0 : 0 ≤ lo) (h1 : lo ≤ hi) (h2 : hi ≤ 100000) (c f r : Int) :
    ∃ (l : List Nat) (c' r' : Int), lo ≤ l.length ∧ l.length ≤ hi ∧ (∀ x ∈ l, x ∈ G) ∧
      F_law_string [.bo (.lst [.int c, .int f, .int r]), .bo (.lst (G.map fun x => .str [x])), .sh (.int lo), .sh (.int hi)] = .ok (.val (.str l)) [.bo (.lst [.int c', .int f, .int r']), .bo (.lst (G.map fun x => .str [x])), .sh (.int lo), .sh (.int hi)] := by
  obtain ⟨i, c1, r1, i0, i1, hd⟩ := draw_ok c f r (hi - lo + 1) (by omega) (by omega)
  obtain ⟨l, c', r', hl, hm, hc⟩ := string_loopL G hs hz (.sh (.int lo)) (.sh (.int hi)) (.sh (.int (lo + i))) (rngD 0 (lo + i).toNat) c1 f r1
  have hn : (rngD 0 (lo + i).toNat).length = (lo + i).toNat := by unfold rngD; rw [List.length_map, List.length_range]
  refine ⟨l, c', r', by omega, by omega, hm, ?_⟩
  have hb : decide (-4611686018427387904 ≤ lo + i ∧ lo + i < 4611686018427387904) = true := decide_eq_true (by omega)
  have hj : joinD (.str []) [.lst (l.map fun x => .str [x])] = some (.val (.str l)) := by
    show (match strsD (l.map fun x => D.str [x]) with
      | some ls => if (ls.map List.length).sum + ls.length * ([] : List Nat).length ≤ 16777216 then some (Rv.val (.str (TL.joinL [] ls))) else none
      | none => none) = _
    rw [strs_one]
    simp only
    rw [sum_one, if_pos (by simp; omega), join_one]
  have hsz : decide ((l.map fun x => (D.str [x])).length ≤ sizeLine) = true := decide_eq_true (by rw [sizeLine_eq, List.length_map]; omega)
  unfold F_law_string B_law_string
  generalize (G.map fun x => D.str [x]) = gd at *
  generalize (l.map fun x => D.str [x]) = ld at *
  simp_arith! [hd, hb, hc, hsz, hj]

def gapsB (l : List Nat) : List Nat := (signsL ++ [10]).filter fun c => !decide (c ∈ l) && !decide (c ∈ digsL)
theorem gapsB_mem {l : List Nat} {c : Nat} (h : c ∈ gapsB l) : c ∉ l ∧ c ∉ digsL := by
  obtain ⟨_, h⟩ := List.mem_filter.mp h
  simpa using h
theorem gapsB_ne {l : List Nat} (hc : ∀ c ∈ l, c ∈ charsL) : gapsB l ≠ [] := by
  have : 32 ∈ gapsB l := List.mem_filter.mpr ⟨by decide, by
    have h1 : 32 ∉ l := fun z => absurd (hc 32 z) (by decide)
    have h2 : (32 : Nat) ∉ digsL := by decide
    simp [h1, h2]⟩
  intro z
  rw [z] at this
  cases this
theorem gapsB_len (l : List Nat) : (gapsB l).length ≤ 100 := Nat.le_trans (List.length_filter_le _ _) (by decide)
theorem gaps_lcB (l : List Nat) (s0 s2 s3 s4 s5 s6 s7 : Sl) : ∀ cs : List Nat, lcL (stoD 8) Q_law_written_1 (fVar 8) [8] (cs.map fun c => D.str [c]) [s0, .sh (.str l), s2, s3, s4, s5, s6, s7, .un] = .ok ((cs.filter fun c => !decide (c ∈ l) && !decide (c ∈ digsL)).map fun c => D.str [c]) [s0, .sh (.str l), s2, s3, s4, s5, s6, s7, .un]
  | [] => rfl
  | c :: cs => by
    have ih := gaps_lcB l s0 s2 s3 s4 s5 s6 s7 cs
    have i1 : boolV inA true (.str [c]) (.str l) = some (.val (.bl (!decide (c ∈ l)))) := rfl
    have i2 : boolV inA true (.str [c]) (.str [48, 49, 50, 51, 52, 53, 54, 55, 56, 57]) = some (.val (.bl (!decide (c ∈ digsL)))) := rfl
    rw [List.map_cons, lcL_cons]
    cases h1 : decide (c ∈ l) <;> cases h2 : decide (c ∈ digsL)
    · rw [List.filter_cons_of_pos (p := fun c => !decide (c ∈ l) && !decide (c ∈ digsL)) (by rw [h1, h2]; rfl), List.map_cons]
      rw [h1] at i1
      rw [h2] at i2
      generalize (cs.filter fun c => !decide (c ∈ l) && !decide (c ∈ digsL)).map (fun c => D.str [c]) = fd at *
      simp_arith! [Q_law_written_1_e, i1, i2, ih]
      all_goals rfl
    · rw [List.filter_cons_of_neg (by rw [h1, h2]; simp)]
      rw [h1] at i1
      rw [h2] at i2
      generalize (cs.filter fun c => !decide (c ∈ l) && !decide (c ∈ digsL)).map (fun c => D.str [c]) = fd at *
      simp_arith! [Q_law_written_1_e, i1, i2, ih]
    · rw [List.filter_cons_of_neg (by rw [h1, h2]; simp)]
      rw [h1] at i1
      generalize (cs.filter fun c => !decide (c ∈ l) && !decide (c ∈ digsL)).map (fun c => D.str [c]) = fd at *
      simp_arith! [Q_law_written_1_e, i1, i2, ih]
    · rw [List.filter_cons_of_neg (by rw [h1, h2]; simp)]
      rw [h1] at i1
      generalize (cs.filter fun c => !decide (c ∈ l) && !decide (c ∈ digsL)).map (fun c => D.str [c]) = fd at *
      simp_arith! [Q_law_written_1_e, i1, i2, ih]
def kdL (l w : List Nat) : Bool := decide (w.headD 0 ∈ l)
def kwL (l w : List Nat) : List Nat := if kdL l w = true then l else c_DIGITS
theorem kinL {l w : List Nat} (hc : ∀ c ∈ l, c ∈ charsL) (h : IsItB l w) : ∀ x ∈ w, kinN l x = kwL l w := by
  obtain ⟨h1, _, h2⟩ := h
  match w, h1 with
  | c :: r, _ =>
    unfold kwL kdL
    rcases h2 with h2 | h2
    · rw [if_pos (decide_eq_true (show (c :: r).headD 0 ∈ l from h2 c List.mem_cons_self))]
      exact fun x hx => if_pos (h2 x hx)
    · have n : ∀ x ∈ c :: r, x ∉ l := fun x hx z => dig_notChars x (h2 x hx) (hc x z)
      rw [if_neg (by rw [decide_eq_true_eq]; exact n c List.mem_cons_self)]
      intro x hx
      unfold kinN
      rw [if_neg (n x hx), if_pos (show x ∈ c_DIGITS from h2 x hx)]
theorem kwL_ne {l : List Nat} (hl : l ≠ []) (w : List Nat) : kwL l w ≠ [] := by
  unfold kwL
  split
  · exact hl
  · decide
theorem kwL_diff {l : List Nat} (hc : ∀ c ∈ l, c ∈ charsL) {v w : List Nat} (h : kdL l v ≠ kdL l w) : kwL l v ≠ kwL l w := by
  have ld : l ≠ c_DIGITS := fun z => by
    have := hc 48 (by rw [z]; decide)
    exact absurd this (by decide +kernel)
  unfold kwL
  cases hv : kdL l v <;> cases hw : kdL l w
  · rw [hv, hw] at h; exact absurd rfl h
  · simpa using fun z => ld z.symm
  · simpa using ld
  · rw [hv, hw] at h; exact absurd rfl h
theorem gap_foldB {l : List Nat} : ∀ (g k0 : List Nat) (its : List (List Nat)), (∀ c ∈ g, c ∈ gapsB l) → g.foldl (itemN l) (its, k0) = (its, if g = [] then k0 else [])
  | [], _, _, _ => rfl
  | c :: g, k0, its, h => by
    obtain ⟨n1, n2⟩ := gapsB_mem (h c List.mem_cons_self)
    have e : itemN l (its, k0) c = (its, []) := by
      unfold itemN kinN
      rw [if_neg n1, if_neg (show c ∉ c_DIGITS from n2)]
      rfl
    rw [List.foldl_cons, e, gap_foldB g [] its (fun x hx => h x (List.mem_cons_of_mem _ hx)), if_neg (show ¬ (c :: g = []) from fun z => nomatch z), ite_self]
def TvB (l : List Nat) (pre : List (List Nat)) (t : List Nat) : Prop := t.foldl (itemN l) ([], []) = (pre, match pre.getLast? with | some v => kwL l v | none => [])
theorem TvB_first {l : List Nat} {g w : List Nat} (hl : l ≠ []) (hc : ∀ c ∈ l, c ∈ charsL) (hg : ∀ c ∈ g, c ∈ gapsB l) (hw : IsItB l w) : TvB l [w] (g ++ w) := by
  unfold TvB
  rw [List.foldl_append, gap_foldB g _ _ hg]
  have e : (if g = [] then ([] : List Nat) else []) = [] := ite_self _
  rw [e, fold_new (kwL_ne hl w) (fun z => kwL_ne hl w z.symm) w (fun z => by rw [z] at hw; exact absurd hw.1 (by simp)) [] (kinL hc hw)]
  rfl
theorem TvB_next {l : List Nat} {pre : List (List Nat)} {t g v w : List Nat} (hl : l ≠ []) (hc : ∀ c ∈ l, c ∈ charsL) (ht : TvB l (pre ++ [v]) t) (hg : ∀ c ∈ g, c ∈ gapsB l) (hw : IsItB l w) (h : g = [] → kdL l v ≠ kdL l w) : TvB l (pre ++ [v] ++ [w]) (t ++ g ++ w) := by
  unfold TvB at ht ⊢
  rw [List.getLast?_concat] at ht ⊢
  rw [List.foldl_append, List.foldl_append, ht, gap_foldB g _ _ hg]
  refine fold_new (kwL_ne hl w) ?_ w (fun z => by rw [z] at hw; exact absurd hw.1 (by simp)) _ (kinL hc hw)
  by_cases e : g = []
  · rw [if_pos e]; exact kwL_diff hc (h e)
  · rw [if_neg e]; exact fun z => kwL_ne hl w z.symm

theorem add_strB (a b : List Nat) (h : a.length + b.length ≤ 1000000) : addD (.str a) (.str b) = some (.val (.str (a ++ b))) := by
  show (if a.length + b.length ≤ sizeLine then some (Rv.val (D.str (a ++ b))) else none) = _
  rw [if_pos (by rw [sizeLine_eq]; omega)]
theorem ix0_str (w : List Nat) (h1 : 1 ≤ w.length) (h2 : w.length ≤ 1000) : ixA (.str w) (.int 0) = some (.val (.str [w.headD 0])) := by
  match w, h1 with
  | c :: r, _ =>
    show (match (if (c :: r).length ≤ sizeLine then (atI (c :: r) 0).map fun c => Rv.val (D.str [c]) else none) with | some r => some r | none => _) = _
    have e0 : atI (c :: r) 0 = some c := by
      unfold atI ixN
      rw [if_pos (Int.le_refl 0), if_pos (by simp)]
      rfl
    rw [if_pos (by rw [sizeLine_eq]; omega), e0]
    rfl
theorem ne_bl (a b : Bool) : neG (.bl a) (.bl b) = some (.val (.bl (a != b))) := by cases a <;> cases b <;> rfl
section
variable (l : List Nat) (hl : l ≠ []) (hc : ∀ c ∈ l, c ∈ charsL) (its : List (List Nat)) (hi : ∀ w ∈ its, IsItB l w) (hz : its.length ≤ 1000)
include hl hc hi hz
theorem written_step0 (rest : List (List Nat)) (w : List Nat) (e : its = [] ++ w :: rest) (s2 : Sl) (g : List Nat) (hg : ∀ c ∈ g, c ∈ gapsB l) (gz : g.length ≤ 90000) (c f r : Int) (s3 x5 x6 x7 : Sl) (g5 : stoS x5 = true) (g6 : stoS x6 = true) :
    TvB l [w] (g ++ w) ∧ L_law_written_1 [.bo (.lst [.int c, .int f, .int r]), .sh (.str l), s2, s3, .sh (.str g), .sh (.int 0), .sh (.str w), x7, .un] = .ok .nx [.bo (.lst [.int c, .int f, .int r]), .sh (.str l), s2, s3, .sh (.str (g ++ w)), .sh (.int 0), .sh (.str w), x7, .un] := by
  have hw := hi w (by rw [e]; simp)
  refine ⟨TvB_first hl hc hg hw, ?_⟩
  have ad := add_strB g w (by have := hw.2.1; omega)
  have g0 : decide ((0 : Int) < 0) = false := by decide
  simp_arith! [L_law_written_1_e, g0, ad]
theorem written_step1 (pre rest : List (List Nat)) (v w : List Nat) (e : its = pre ++ v :: w :: rest) (t : List Nat) (ht : TvB l (pre ++ [v]) t) (tz : t.length ≤ 90000) (c f r : Int) (x7 : Sl) (g7 : stoS x7 = true) :
    ∃ (c' r' : Int) (y7 : Sl) (t' : List Nat), stoS y7 = true ∧ t'.length ≤ t.length + 43 ∧ TvB l (pre ++ [v] ++ [w]) t' ∧
      L_law_written_1 [.bo (.lst [.int c, .int f, .int r]), .sh (.str l), .bf (.lst (its.map D.str)), .ow (.lst ((gapsB l).map fun x => .str [x])), .sh (.str t), .sh (.int ((pre.length + 1 : Nat) : Int)), .sh (.str w), x7, .un] = .ok .nx [.bo (.lst [.int c', .int f, .int r']), .sh (.str l), .bf (.lst (its.map D.str)), .ow (.lst ((gapsB l).map fun x => .str [x])), .sh (.str t'), .sh (.int ((pre.length + 1 : Nat) : Int)), .sh (.str w), y7, .un] := by
  have hv := hi v (by rw [e]; simp)
  have hw := hi w (by rw [e]; simp)
  have g0 : decide (0 < ((pre.length + 1 : Nat) : Int)) = true := decide_eq_true (by omega)
  have ixw := ix0_str w hw.1 (by have := hw.2.1; omega)
  have ixv := ix0_str v hv.1 (by have := hv.2.1; omega)
  have ixp : ixA (.lst (its.map D.str)) (.int (((pre.length + 1 : Nat) : Int) - 1)) = some (.val (.str v)) := by
    rw [show ((pre.length + 1 : Nat) : Int) - 1 = ((pre.length : Nat) : Int) by omega]
    refine ixl_atW (n := pre.length) ?_
    rw [e, List.map_append, List.getElem?_append_right (by simp), List.length_map, Nat.sub_self]
    rfl
  have i1 : boolV inA false (.str [w.headD 0]) (.str l) = some (.val (.bl (kdL l w))) := rfl
  have i2 : boolV inA false (.str [v.headD 0]) (.str l) = some (.val (.bl (kdL l v))) := rfl
  have nb := ne_bl (kdL l w) (kdL l v)
  have ib : ∀ b : Bool, intD [.bl b] = some (.val (.int (if b = true then 1 else 0))) := fun _ => rfl
  cases hk : (kdL l w != kdL l v)
  · obtain ⟨g, c', r', g1, g2, gm, hs⟩ := string_okL (gapsB l) (gapsB_ne hc) (by have := gapsB_len l; omega) 1 3 (by omega) (by omega) (by omega) c f r
    have a1 := add_strB t g (by omega)
    have a2 := add_strB (t ++ g) w (by rw [List.length_append]; have := hw.2.1; omega)
    refine ⟨c', r', .sh (.bl false), t ++ g ++ w, rfl, by rw [List.length_append, List.length_append]; have := hw.2.1; omega, TvB_next hl hc ht gm hw (fun z => ?_), ?_⟩
    · subst z; simp at g1
    · have sb : subD (.int 1) (.int 0) = some (.val (.int 1)) := rfl
      have ib0 := ib false
      rw [if_neg Bool.false_ne_true] at ib0
      rw [hk] at nb
      generalize (its.map D.str) = itd at *
      generalize ((gapsB l).map fun x => D.str [x]) = gd at *
      generalize ((pre.length + 1 : Nat) : Int) = p0 at *
      generalize t ++ g ++ w = tgw at *
      generalize w.headD 0 = w0 at *
      generalize v.headD 0 = v0 at *
      simp_arith! [L_law_written_1_e, g0, ixw, ixp, ixv, i1, i2, nb, g7, ib0, sb, hs, a1, a2]
  · obtain ⟨g, c', r', g1, g2, gm, hs⟩ := string_okL (gapsB l) (gapsB_ne hc) (by have := gapsB_len l; omega) 0 3 (by omega) (by omega) (by omega) c f r
    have a1 := add_strB t g (by omega)
    have a2 := add_strB (t ++ g) w (by rw [List.length_append]; have := hw.2.1; omega)
    refine ⟨c', r', .sh (.bl true), t ++ g ++ w, rfl, by rw [List.length_append, List.length_append]; have := hw.2.1; omega, TvB_next hl hc ht gm hw (fun _ q => ?_), ?_⟩
    · rw [q] at hk; simp at hk
    · have sb : subD (.int 1) (.int 1) = some (.val (.int 0)) := rfl
      have ib0 := ib true
      rw [if_pos rfl] at ib0
      rw [hk] at nb
      generalize (its.map D.str) = itd at *
      generalize ((gapsB l).map fun x => D.str [x]) = gd at *
      generalize ((pre.length + 1 : Nat) : Int) = p0 at *
      generalize t ++ g ++ w = tgw at *
      generalize w.headD 0 = w0 at *
      generalize v.headD 0 = v0 at *
      simp_arith! [L_law_written_1_e, g0, ixw, ixp, ixv, i1, i2, nb, g7, ib0, sb, hs, a1, a2]
theorem written_loop : ∀ (rest pre : List (List Nat)) (t : List Nat) (c f r : Int) (x5 x6 x7 : Sl), its = pre ++ rest → pre ≠ [] → t.length + 43 * rest.length ≤ 90000 → TvB l pre t → stoS x5 = true → stoS x6 = true → stoS x7 = true →
    ∃ (c' r' : Int) (t' : List Nat) (y5 y6 y7 : Sl), t'.length ≤ t.length + 43 * rest.length ∧ TvB l its t' ∧
      forL (gTupF 2 (gConsF (stoD 5) (gConsF (stoD 6) gNilF))) L_law_written_1 (enumD pre.length (rest.map D.str)) [.bo (.lst [.int c, .int f, .int r]), .sh (.str l), .bf (.lst (its.map D.str)), .ow (.lst ((gapsB l).map fun x => .str [x])), .sh (.str t), x5, x6, x7, .un] = .ok .nx [.bo (.lst [.int c', .int f, .int r']), .sh (.str l), .bf (.lst (its.map D.str)), .ow (.lst ((gapsB l).map fun x => .str [x])), .sh (.str t'), y5, y6, y7, .un]
  | [], pre, t, c, f, r, x5, x6, x7, e, _, _, inv, _, _, _ => ⟨c, r, t, x5, x6, x7, by simp, by rw [e, List.append_nil]; exact inv, rfl⟩
  | w :: rest, pre, t, c, f, r, x5, x6, x7, e, hp, tz, inv, g5, g6, g7 => by
    rw [List.length_cons] at tz
    rcases List.eq_nil_or_concat pre with z | ⟨p, v, z⟩
    · exact absurd z hp
    · have z : pre = p ++ [v] := by rw [z]; simp
      subst z
      obtain ⟨c1, r1, y7, t1, k7, b1, b2, b3⟩ := written_step1 l hl hc its hi hz p rest v w (by rw [e]; simp) t inv (by omega) c f r x7 g7
      obtain ⟨c', r', t', z5, z6, z7, d1, d2, ih⟩ := written_loop rest (p ++ [v] ++ [w]) t1 c1 f r1 (.sh (.int ((p.length + 1 : Nat) : Int))) (.sh (.str w)) y7 (by rw [e]; simp) (by simp) (by omega) b2 rfl rfl k7
      refine ⟨c', r', t', z5, z6, z7, by rw [List.length_cons]; omega, d2, ?_⟩
      have ee : ((p ++ [v]).length) = p.length + 1 := by simp
      have e2 : ((p ++ [v] ++ [w]).length) = p.length + 1 + 1 := by simp
      rw [e2] at ih
      rw [ee, List.map_cons, show enumD (p.length + 1) (D.str w :: rest.map D.str) = .tup [.int ((p.length + 1 : Nat) : Int), .str w] :: enumD (p.length + 1 + 1) (rest.map D.str) from rfl, forL_cons]
      generalize enumD (p.length + 1 + 1) (rest.map D.str) = es at *
      generalize ((p.length + 1 : Nat) : Int) = p0 at *
      generalize (its.map D.str) = itd at *
      generalize ((gapsB l).map fun x => D.str [x]) = gd at *
      simp_arith! [g5, g6, b3, ih]
theorem written_ok (c f r : Int) : ∃ (t : List Nat) (c' r' : Int), t.length ≤ 50000 ∧ itemsN l t = its ∧
    F_law_written [.bo (.lst [.int c, .int f, .int r]), .sh (.str l), .bo (.lst (its.map D.str))] = .ok (.val (.str t)) [.bo (.lst [.int c', .int f, .int r']), .sh (.str l), .bf (.lst (its.map D.str))] := by
  have sg := signs_ok
  have ad0 : addD (.str signsL) (.str [10]) = some (.val (.str (signsL ++ [10]))) := add_strB _ _ (by decide)
  have it1 : itemsD (.str (signsL ++ [10])) = some ((signsL ++ [10]).map fun c => D.str [c]) := rfl
  have gl := fun s0 s2 s3 s4 s5 s6 s7 => gaps_lcB l s0 s2 s3 s4 s5 s6 s7 (signsL ++ [10])
  have sz : decide (((gapsB l).map fun c => D.str [c]).length ≤ sizeLine) = true := decide_eq_true (by rw [sizeLine_eq, List.length_map]; have := gapsB_len l; omega)
  have gl : ∀ s0 s2 s3 s4 s5 s6 s7, lcL (stoD 8) Q_law_written_1 (fVar 8) [8] ((signsL ++ [10]).map fun c => D.str [c]) [s0, .sh (.str l), s2, s3, s4, s5, s6, s7, .un] = .ok ((gapsB l).map fun c => D.str [c]) [s0, .sh (.str l), s2, s3, s4, s5, s6, s7, .un] := gl
  obtain ⟨g, c1, r1, g1, g2, gm, hs⟩ := string_okL (gapsB l) (gapsB_ne hc) (by have := gapsB_len l; omega) 0 3 (by omega) (by omega) (by omega) c f r
  have st : ∃ (c2 r2 : Int) (t : List Nat) (y5 y6 y7 : Sl), t.length ≤ 45000 ∧ TvB l its t ∧
      forL (gTupF 2 (gConsF (stoD 5) (gConsF (stoD 6) gNilF))) L_law_written_1 (enumD 0 (its.map D.str)) [.bo (.lst [.int c1, .int f, .int r1]), .sh (.str l), .bf (.lst (its.map D.str)), .ow (.lst ((gapsB l).map fun x => .str [x])), .sh (.str g), .un, .un, .un, .un] = .ok .nx [.bo (.lst [.int c2, .int f, .int r2]), .sh (.str l), .bf (.lst (its.map D.str)), .ow (.lst ((gapsB l).map fun x => .str [x])), .sh (.str t), y5, y6, y7, .un] := by
    cases e : its with
    | nil =>
      refine ⟨c1, r1, g, .un, .un, .un, by omega, ?_, rfl⟩
      unfold TvB
      rw [gap_foldB g _ _ gm, ite_self]
      rfl
    | cons w rest =>
      obtain ⟨b1, b2⟩ := written_step0 l hl hc its hi hz rest w (by rw [e]; rfl) (.bf (.lst (its.map D.str))) g gm (by omega) c1 f r1 (.ow (.lst ((gapsB l).map fun x => .str [x]))) .un .un .un rfl rfl
      have hw := hi w (by rw [e]; simp)
      have hz2 := hz
      rw [e, List.length_cons] at hz2
      obtain ⟨c2, r2, t, y5, y6, y7, d1, d2, lp⟩ := written_loop l hl hc its hi hz rest [w] (g ++ w) c1 f r1 (.sh (.int 0)) (.sh (.str w)) .un (by rw [e]; rfl) (by simp) (by rw [List.length_append]; have := hw.2.1; omega) b1 rfl rfl rfl
      refine ⟨c2, r2, t, y5, y6, y7, by rw [List.length_append] at d1; have := hw.2.1; omega, by rw [e] at d2; exact d2, ?_⟩
      rw [← e]
      have en : enumD 0 (its.map D.str) = .tup [.int 0, .str w] :: enumD 1 (rest.map D.str) := by rw [e]; rfl
      rw [en, forL_cons]
      have lp : forL (gTupF 2 (gConsF (stoD 5) (gConsF (stoD 6) gNilF))) L_law_written_1 (enumD 1 (rest.map D.str)) _ = _ := lp
      generalize enumD 1 (rest.map D.str) = es at *
      generalize (its.map D.str) = itd at *
      generalize ((gapsB l).map fun x => D.str [x]) = gd at *
      simp_arith! [b2, lp]
  obtain ⟨c2, r2, t, y5, y6, y7, t0, tv, lp⟩ := st
  obtain ⟨g', c3, r3, h1, h2, gm', hs'⟩ := string_okL (gapsB l) (gapsB_ne hc) (by have := gapsB_len l; omega) 0 3 (by omega) (by omega) (by omega) c2 f r2
  have a9 := add_strB t g' (by omega)
  refine ⟨t ++ g', c3, r3, by rw [List.length_append]; omega, ?_, ?_⟩
  · unfold TvB at tv
    unfold itemsN
    rw [List.foldl_append, tv, gap_foldB g' _ _ gm']
  · have en : ∀ e, enumR (.val (.lst (its.map D.str))) e = .ok (enumD 0 (its.map D.str)) e := fun _ => rfl
    unfold F_law_written B_law_written
    generalize enumD 0 (its.map D.str) = es at *
    generalize (its.map D.str) = itd at *
    generalize ((gapsB l).map fun x => D.str [x]) = gd at *
    generalize signsL ++ [10] = s10 at *
    simp_arith! [sg, ad0, gl, sz, hs, en, lp, hs', a9]
end


def inB (lo hi : Int) : D → Bool
  | .int v => decide (lo ≤ v) && decide (v ≤ hi)
  | _ => false
theorem isInt_any (n : Nat) (d : D) (h : IsVal n d) (lo hi : Int) : F_is_integer [.sh d, .sh (.int lo), .sh (.int hi)] = .ok (.val (.bl (inB lo hi d))) [.sh d, .sh (.int lo), .sh (.int hi)] := by
  have els : ∀ d : D, isiD [d, .con (.ty "int")] = some (.val (.bl false)) → F_is_integer [.sh d, .sh (.int lo), .sh (.int hi)] = .ok (.val (.bl false)) [.sh d, .sh (.int lo), .sh (.int hi)] := fun d h => by
    unfold F_is_integer B_is_integer
    simp_arith! [h]
  cases h with
  | int n i h1 h2 => exact isInt_ok i lo hi
  | bl n b =>
    have h1 : isiD [.bl b, .con (.ty "int")] = some (.val (.bl true)) := rfl
    have h2 : isiD [.bl b, .con (.ty "bool")] = some (.val (.bl true)) := rfl
    show F_is_integer _ = .ok (.val (.bl false)) _
    unfold F_is_integer B_is_integer
    simp_arith! [h1, h2]
  | non n => exact els _ rfl
  | str n l h hm => exact els _ rfl
  | lst n ds h hd => exact els _ rfl
  | tup n ds h hd => exact els _ rfl
  | dct n kvs h hk hd nd => exact els _ rfl
theorem bound_same : F_law_is_bound = F_is_integer := rfl
def rpT (d : D) : List Nat := (rPy d).shown.cps.toList
theorem repr_ok (d : D) (h : IsVal 1 d) : reprD [d] = some (.val (.str (rpT d))) := by
  obtain ⟨h1, h2, h3⟩ := h.shows
  have e : szB 1 = 8090 := rfl
  show (if (rok d && decide (szD d ≤ 16000000) && decide (dpD d ≤ 60)) = true then _ else none) = _
  rw [h1, decide_eq_true (by omega), decide_eq_true (by omega)]
  rfl
def cutB (its : List (List Nat)) (a b : Nat) : List (List Nat) := (its.take b).drop a
theorem cutB_sub (its : List (List Nat)) (a b : Nat) : (cutB its a b).Sublist its := (List.drop_sublist _ _).trans (List.take_sublist _ _)
theorem cut_natB {α : Type} (xs : List α) (a b : Nat) (h1 : a ≤ b) (h2 : b ≤ xs.length) : cutL xs (some (a : Int)) (some (b : Int)) = (xs.take b).drop a := by
  have e1 : cutL xs (some (a : Int)) (some (b : Int)) = (xs.drop a).take (b - a) := by
    unfold cutL HT.sIx
    simp only [Option.getD_some]
    congr 1
    · split <;> (try split) <;> omega
    · congr 1
      split <;> (try split) <;> omega
  rw [e1, List.drop_take]
theorem cut_natM (xs : List (List Nat)) (a b : Nat) (h1 : a ≤ b) (h2 : b ≤ xs.length) : cutL (xs.map D.str) (some (a : Int)) (some (b : Int)) = (cutB xs a b).map D.str := by
  rw [cut_natB _ a b h1 (by rw [List.length_map]; exact h2)]
  unfold cutB
  rw [List.map_drop, List.map_take]
theorem strs_mapB (ws : List (List Nat)) : strsD (ws.map D.str) = some ws := by
  induction ws with
  | nil => rfl
  | cons w r ih => simp [strsD, ih]
theorem join_itB (ws : List (List Nat)) (hn : ws.length ≤ 60) (hw : ∀ w ∈ ws, w.length ≤ 40) : joinD (.str [32]) [.lst (ws.map .str)] = some (.val (.str (TL.joinL [32] ws))) ∧ (TL.joinL [32] ws).length ≤ 90000 := by
  have s := sum_le_n hw
  have jl := joinL_len [32] ws
  have jm : (ws.map List.length).sum ≤ 2400 := by omega
  simp only [List.length_cons, List.length_nil] at jl
  refine ⟨?_, by omega⟩
  show (match strsD (ws.map .str) with | some ls => if (ls.map List.length).sum + ls.length * ([32] : List Nat).length ≤ 16777216 then some (Rv.val (.str (TL.joinL [32] ls))) else none | none => none) = _
  rw [strs_mapB]
  show (if (ws.map List.length).sum + ws.length * 1 ≤ 16777216 then some (Rv.val (.str (TL.joinL [32] ws))) else none) = _
  rw [if_pos (by omega)]
/-- a stretch -/
def okS (n : Nat) : D → D → Option (Nat × Nat)
  | .int a, .int b => if 0 ≤ a ∧ a < b ∧ b ≤ (n : Int) then some (a.toNat, b.toNat) else none
  | _, _ => none
theorem okS_some {n : Nat} {d1 d2 : D} {p : Nat × Nat} (h : okS n d1 d2 = some p) : d1 = .int (p.1 : Int) ∧ d2 = .int (p.2 : Int) ∧ p.1 < p.2 ∧ p.2 ≤ n := by
  unfold okS at h
  split at h
  · rename_i a b
    by_cases c : 0 ≤ a ∧ a < b ∧ b ≤ (n : Int)
    · rw [if_pos c] at h
      cases h
      refine ⟨?_, ?_, ?_, ?_⟩
      · show D.int a = .int ((a.toNat : Nat) : Int); congr 1; omega
      · show D.int b = .int ((b.toNat : Nat) : Int); congr 1; omega
      · show a.toNat < b.toNat; omega
      · show b.toNat ≤ n; omega
    · rw [if_neg c] at h; cases h
  · cases h
/-- what makes it wrong -/
theorem okS_none {n : Nat} {d1 d2 : D} (h : okS n d1 d2 = none) : inB 0 (n : Int) d1 = false ∨ ∃ a : Int, d1 = .int a ∧ inB 0 (n : Int) (.int a) = true ∧ inB (a + 1) (n : Int) d2 = false := by
  cases d1 with
  | int a =>
    by_cases c1 : 0 ≤ a ∧ a ≤ (n : Int)
    · right
      refine ⟨a, rfl, by show (decide (0 ≤ a) && decide (a ≤ (n : Int))) = true; rw [decide_eq_true c1.1, decide_eq_true c1.2]; rfl, ?_⟩
      cases d2 with
      | int b =>
        by_cases c2 : a < b ∧ b ≤ (n : Int)
        · have h' : (if 0 ≤ a ∧ a < b ∧ b ≤ (n : Int) then some (a.toNat, b.toNat) else none) = none := h
          rw [if_pos (show 0 ≤ a ∧ a < b ∧ b ≤ (n : Int) from ⟨c1.1, c2.1, c2.2⟩)] at h'
          cases h'
        · show (decide (a + 1 ≤ b) && decide (b ≤ (n : Int))) = false
          rw [Bool.and_eq_false_iff, decide_eq_false_iff_not, decide_eq_false_iff_not]
          omega
      | _ => rfl
    · left
      show (decide (0 ≤ a) && decide (a ≤ (n : Int))) = false
      rw [Bool.and_eq_false_iff, decide_eq_false_iff_not, decide_eq_false_iff_not]
      omega
  | _ => exact .inl rfl
abbrev retN : List Nat := [114, 101, 116, 117, 114, 110, 101, 100]
abbrev raiN : List Nat := [114, 97, 105, 115, 101, 100]
def ansB (ws : List (List Nat)) (d1 d2 : D) : List D := match okS ws.length d1 d2 with
  | some p => [.str retN, .str (TL.joinL [32] (cutB ws p.1 p.2))]
  | none => [.str raiN, .str (rpT d1), .str (rpT d2), .bl false]
section
variable (l : List Nat) (hl : l ≠ []) (ws : List (List Nat)) (hn : ws.length ≤ 60) (hw : ∀ w ∈ ws, w.length ≤ 40) (t : List Nat) (ht : t.length ≤ 90000) (it : itemsN l t = ws)
include hl hn hw ht it
theorem stretch_some (a b : Nat) (h1 : a < b) (h2 : b ≤ ws.length) :
    F_stretch_of [.sh (.str t), .sh (.str l), .sh (.int (a : Int)), .sh (.int (b : Int))] = .ok (.val (.str (TL.joinL [32] (cutB ws a b)))) [.sh (.str t), .sh (.str l), .sh (.int (a : Int)), .sh (.int (b : Int))] := by
  have io := items_ok l t hl ht
  rw [it] at io
  have ln : lenD [.lst (ws.map D.str)] = some (.val (.int (ws.length : Int))) := by rw [lenD_lst, List.length_map]
  have i1 := isInt_ok (a : Int) 0 (ws.length : Int)
  have i2 := isInt_ok (b : Int) ((a : Int) + 1) (ws.length : Int)
  rw [decide_eq_true (by omega), decide_eq_true (by omega)] at i1 i2
  rw [Bool.and_self] at i1 i2
  have ct := cut_natM ws a b (by omega) h2
  obtain ⟨jn, _⟩ := join_itB (cutB ws a b) (by have := (cutB_sub ws a b).length_le; omega) fun w hx => hw w ((cutB_sub ws a b).subset hx)
  unfold F_stretch_of B_stretch_of
  generalize ws.map D.str = id0 at *
  generalize (cutB ws a b).map D.str = cd at *
  generalize (ws.length : Int) = n0 at *
  generalize (b : Int) = b0 at *
  generalize (a : Int) = a0 at *
  simp_arith! [io, ln, i1, i2, ct, jn]
theorem stretch_none (d1 d2 : D) (v1 : IsVal 1 d1) (v2 : IsVal 1 d2) (h : okS ws.length d1 d2 = none) :
    F_stretch_of [.sh (.str t), .sh (.str l), .sh d1, .sh d2] = .er ("NoStretch", [("stop", d2), ("start", d1)]) [.sh (.str t), .sh (.str l), .sh d1, .sh d2] := by
  have io := items_ok l t hl ht
  rw [it] at io
  have ln : lenD [.lst (ws.map D.str)] = some (.val (.int (ws.length : Int))) := by rw [lenD_lst, List.length_map]
  have i1 := isInt_any 1 d1 v1 0 (ws.length : Int)
  unfold F_stretch_of B_stretch_of
  rcases okS_none h with h | ⟨a, rfl, h, h2⟩
  · rw [h] at i1
    generalize ws.map D.str = id0 at *
    generalize (ws.length : Int) = n0 at *
    simp_arith! [io, ln, i1]
  · have i2 := isInt_any 1 d2 v2 (a + 1) (ws.length : Int)
    rw [h] at i1
    rw [h2] at i2
    generalize ws.map D.str = id0 at *
    generalize (ws.length : Int) = n0 at *
    simp_arith! [io, ln, i1, i2]
theorem told_okB (d1 d2 : D) (v1 : IsVal 1 d1) (v2 : IsVal 1 d2) : F_law_told [.sh (.str t), .sh (.str l), .sh d1, .sh d2] = .ok (.fresh (.lst (ansB ws d1 d2))) [.sh (.str t), .sh (.str l), .sh d1, .sh d2] := by
  unfold ansB
  cases h : okS ws.length d1 d2 with
  | some p =>
    obtain ⟨rfl, rfl, h1, h2⟩ := okS_some h
    have st := stretch_some l hl ws hn hw t ht it p.1 p.2 h1 h2
    have z2 : ∀ a b : D, decide ([a, b].length ≤ sizeLine) = true := fun a b => by rw [sizeLine_eq]; rfl
    show F_law_told _ = .ok (.fresh (.lst [.str retN, .str (TL.joinL [32] (cutB ws p.1 p.2))])) _
    unfold F_law_told B_law_told
    generalize TL.joinL [32] (cutB ws p.1 p.2) = j0 at *
    generalize (p.1 : Int) = a0 at *
    generalize (p.2 : Int) = b0 at *
    simp_arith! [st, z2]
  | none =>
    have st := stretch_none l hl ws hn hw t ht it d1 d2 v1 v2 h
    have q1 := repr_ok d1 v1
    have q2 := repr_ok d2 v2
    have xf : (xCons (xC (.str [114, 97, 105, 115, 101, 100])) (xCons (xApp reprD (xCons (xF "start") xNil)) (xCons (xApp reprD (xCons (xF "stop") xNil)) (xCons (xC (.bl false)) xNil)))) [("stop", d2), ("start", d1)] = some [.str raiN, .str (rpT d1), .str (rpT d2), .bl false] := by
      have c1 : (xCons (xF "start") xNil) [("stop", d2), ("start", d1)] = some [d1] := rfl
      have c2 : (xCons (xF "stop") xNil) [("stop", d2), ("start", d1)] = some [d2] := rfl
      have a1 : (xApp reprD (xCons (xF "start") xNil)) [("stop", d2), ("start", d1)] = some (.str (rpT d1)) := by unfold xApp; rw [c1, Option.bind_some, q1]
      have a2 : (xApp reprD (xCons (xF "stop") xNil)) [("stop", d2), ("start", d1)] = some (.str (rpT d2)) := by unfold xApp; rw [c2, Option.bind_some, q2]
      generalize xApp reprD (xCons (xF "start") xNil) = A1 at *
      generalize xApp reprD (xCons (xF "stop") xNil) = A2 at *
      simp only [xCons, xC, xNil, a1, a2, Option.bind_some, Option.map_some]
    have z4 : ∀ a b c d : D, decide ([a, b, c, d].length ≤ sizeLine) = true := fun a b c d => by rw [sizeLine_eq]; rfl
    show F_law_told _ = .ok (.fresh (.lst [.str raiN, .str (rpT d1), .str (rpT d2), .bl false])) _
    unfold F_law_told B_law_told
    generalize (xCons (xC (.str [114, 97, 105, 115, 101, 100])) (xCons (xApp reprD (xCons (xF "start") xNil)) (xCons (xApp reprD (xCons (xF "stop") xNil)) (xCons (xC (.bl false)) xNil)))) = XF at *
    simp_arith! [st, xf, z4]
end

theorem due_loop (ws : List (List Nat)) (s1 s2 : Sl) : ∀ (n lo : Nat), lo + n ≤ ws.length → lcL (stoD 3) (M.ret true) E_law_due_1 [3] (rngD (lo : Int) n) [.sh (.lst (ws.map D.str)), s1, s2, .un] = .ok (((ws.drop lo).take n).map D.str) [.sh (.lst (ws.map D.str)), s1, s2, .un]
  | 0, lo, _ => by rw [show rngD (lo : Int) 0 = [] from rfl, List.take_zero]; rfl
  | n + 1, lo, h => by
    have hlt : lo < ws.length := by omega
    have ih := due_loop ws s1 s2 n (lo + 1) (by omega)
    have e1 : rngD (lo : Int) (n + 1) = .int (lo : Int) :: rngD ((lo + 1 : Nat) : Int) n := by
      unfold rngD
      rw [List.range_succ_eq_map, List.map_cons, List.map_map]
      have h0 : D.int ((lo : Int) + ((0 : Nat) : Int)) = D.int (lo : Int) := by
        rw [show ((lo : Int) + ((0 : Nat) : Int)) = (lo : Int) by omega]
      rw [h0]
      congr 1
      apply List.map_congr_left
      intro i _
      show D.int ((lo : Int) + ((i + 1 : Nat) : Int)) = D.int (((lo + 1 : Nat) : Int) + (i : Int))
      rw [show ((lo : Int) + ((i + 1 : Nat) : Int)) = (((lo + 1 : Nat) : Int) + (i : Int)) by omega]
    have e2 : ws.drop lo = ws[lo] :: ws.drop (lo + 1) := List.drop_eq_getElem_cons hlt
    have ix : ixA (.lst (ws.map D.str)) (.int (lo : Int)) = some (.val (.str ws[lo])) := ixl_atW (n := lo) (by rw [List.getElem?_map, List.getElem?_eq_getElem hlt]; rfl)
    rw [e1, e2, lcL_cons, List.take_succ_cons, List.map_cons]
    generalize ((ws.drop (lo + 1)).take n).map D.str = rd at *
    generalize rngD ((lo + 1 : Nat) : Int) n = rr at *
    generalize ws[lo] = w0 at *
    generalize ws.map D.str = wd at *
    generalize (lo : Int) = l0 at *
    simp_arith! [E_law_due_1_e, ix, ih]
    all_goals rfl
theorem rng2_goB {A B : M Rv} {e : Ve} {i j : Int} {rr : List D} (hA : A e = .ok (.val (.int i)) e) (hB : B e = .ok (.val (.int j)) e) (h : ∀ e, rngR2 (.val (.int i)) (.val (.int j)) e = .ok rr e) : fRng2 A B e = .ok rr e := by
  rw [fRng2_e, hA]
  show (B e).bnd _ = _
  rw [hB]
  exact h e
theorem due_lc (SR : M (List D)) (EL : M Rv) (rr cd wd : List D) (a0 b0 : Int) (hS : SR [.sh (.lst wd), .sh (.int a0), .sh (.int b0), .un] = .ok rr [.sh (.lst wd), .sh (.int a0), .sh (.int b0), .un])
    (dl : lcL (stoD 3) (M.ret true) EL [3] rr [.sh (.lst wd), .sh (.int a0), .sh (.int b0), .un] = .ok cd [.sh (.lst wd), .sh (.int a0), .sh (.int b0), .un]) (sz : decide (cd.length ≤ sizeLine) = true) :
    fLc SR (stoD 3) (M.ret true) EL [3] [.sh (.lst wd), .sh (.int a0), .sh (.int b0), .un] = .ok (.fresh (.lst cd)) [.sh (.lst wd), .sh (.int a0), .sh (.int b0), .un] := by
  simp_arith! [hS, dl, sz]
def dueX (FB : List Sl → Res Rv) (LX : M Rv) : M Ctl := (fSeq (fIfE (fAnd (fTru (fCall FB (fCons (fVar 1) (fCons (fC (.int 0)) (fCons (fApp lenD (fCons (fVar 0) fNil)) fNil))))) (fTru (fCall FB (fCons (fVar 2) (fCons (fOp addD (fVar 1) (fC (.int 1))) (fCons (fApp lenD (fCons (fVar 0) fNil)) fNil))))))
    (fRet (fLst (fCons (fC (.str [114, 101, 116, 117, 114, 110, 101, 100])) (fCons (fFrz (fMth "str" joinD (fC (.str [32])) (fCons LX fNil))) fNil))))
    fNx)
  (fRet (fLst (fCons (fC (.str [114, 97, 105, 115, 101, 100])) (fCons (fFrz (fApp reprD (fCons (fVar 1) fNil))) (fCons (fFrz (fApp reprD (fCons (fVar 2) fNil))) (fCons (fC (.bl false)) fNil)))))))
theorem due_some (FB : List Sl → Res Rv) (LX : M Rv) (wd cd : List D) (j0 : List Nat) (n0 a0 b0 : Int) (ln : lenD [.lst wd] = some (.val (.int n0)))
    (i1 : FB [.sh (.int a0), .sh (.int 0), .sh (.int n0)] = .ok (.val (.bl true)) [.sh (.int a0), .sh (.int 0), .sh (.int n0)]) (i2 : FB [.sh (.int b0), .sh (.int (a0 + 1)), .sh (.int n0)] = .ok (.val (.bl true)) [.sh (.int b0), .sh (.int (a0 + 1)), .sh (.int n0)])
    (lx : LX [.sh (.lst wd), .sh (.int a0), .sh (.int b0), .un] = .ok (.fresh (.lst cd)) [.sh (.lst wd), .sh (.int a0), .sh (.int b0), .un]) (jn : joinD (.str [32]) [.lst cd] = some (.val (.str j0))) :
    fnF 3 4 (dueX FB LX) [.sh (.lst wd), .sh (.int a0), .sh (.int b0)] = .ok (.fresh (.lst [.str [114, 101, 116, 117, 114, 110, 101, 100], .str j0])) [.sh (.lst wd), .sh (.int a0), .sh (.int b0)] := by
  have z2 : ∀ a b : D, decide ([a, b].length ≤ sizeLine) = true := fun a b => by rw [sizeLine_eq]; rfl
  unfold dueX
  simp_arith! [ln, i1, i2, lx, jn, z2]
theorem due_no1 (FB : List Sl → Res Rv) (LX : M Rv) (wd : List D) (d1 d2 : D) (r1 r2 : List Nat) (n0 : Int) (ln : lenD [.lst wd] = some (.val (.int n0))) (i1 : FB [.sh d1, .sh (.int 0), .sh (.int n0)] = .ok (.val (.bl false)) [.sh d1, .sh (.int 0), .sh (.int n0)])
    (q1 : reprD [d1] = some (.val (.str r1))) (q2 : reprD [d2] = some (.val (.str r2))) :
    fnF 3 4 (dueX FB LX) [.sh (.lst wd), .sh d1, .sh d2] = .ok (.fresh (.lst [.str [114, 97, 105, 115, 101, 100], .str r1, .str r2, .bl false])) [.sh (.lst wd), .sh d1, .sh d2] := by
  have z4 : ∀ a b c d : D, decide ([a, b, c, d].length ≤ sizeLine) = true := fun a b c d => by rw [sizeLine_eq]; rfl
  unfold dueX
  simp_arith! [ln, i1, q1, q2, z4]
theorem due_no2 (FB : List Sl → Res Rv) (LX : M Rv) (wd : List D) (a0 : Int) (d2 : D) (r1 r2 : List Nat) (n0 : Int) (ln : lenD [.lst wd] = some (.val (.int n0))) (i1 : FB [.sh (.int a0), .sh (.int 0), .sh (.int n0)] = .ok (.val (.bl true)) [.sh (.int a0), .sh (.int 0), .sh (.int n0)])
    (i2 : FB [.sh d2, .sh (.int (a0 + 1)), .sh (.int n0)] = .ok (.val (.bl false)) [.sh d2, .sh (.int (a0 + 1)), .sh (.int n0)])
    (q1 : reprD [.int a0] = some (.val (.str r1))) (q2 : reprD [d2] = some (.val (.str r2))) :
    fnF 3 4 (dueX FB LX) [.sh (.lst wd), .sh (.int a0), .sh d2] = .ok (.fresh (.lst [.str [114, 97, 105, 115, 101, 100], .str r1, .str r2, .bl false])) [.sh (.lst wd), .sh (.int a0), .sh d2] := by
  have z4 : ∀ a b c d : D, decide ([a, b, c, d].length ≤ sizeLine) = true := fun a b c d => by rw [sizeLine_eq]; rfl
  unfold dueX
  simp_arith! [ln, i1, i2, q1, q2, z4]
theorem due_okB (ws : List (List Nat)) (hn : ws.length ≤ 60) (hw : ∀ w ∈ ws, w.length ≤ 40) (d1 d2 : D) (v1 : IsVal 1 d1) (v2 : IsVal 1 d2) : F_law_due [.sh (.lst (ws.map D.str)), .sh d1, .sh d2] = .ok (.fresh (.lst (ansB ws d1 d2))) [.sh (.lst (ws.map D.str)), .sh d1, .sh d2] := by
  have ln : lenD [.lst (ws.map D.str)] = some (.val (.int (ws.length : Int))) := by rw [lenD_lst, List.length_map]
  have bs := bound_same
  unfold ansB
  cases h : okS ws.length d1 d2 with
  | some p =>
    obtain ⟨rfl, rfl, h1, h2⟩ := okS_some h
    have i1 := isInt_ok (p.1 : Int) 0 (ws.length : Int)
    have i2 := isInt_ok (p.2 : Int) ((p.1 : Int) + 1) (ws.length : Int)
    rw [decide_eq_true (by omega), decide_eq_true (by omega)] at i1 i2
    rw [Bool.and_self] at i1 i2
    rw [← bs] at i1 i2
    have dl := due_loop ws (.sh (.int (p.1 : Int))) (.sh (.int (p.2 : Int))) (p.2 - p.1) p.1 (by omega)
    have e3 : (ws.drop p.1).take (p.2 - p.1) = cutB ws p.1 p.2 := by unfold cutB; rw [List.drop_take]
    rw [e3] at dl
    obtain ⟨jn, _⟩ := join_itB (cutB ws p.1 p.2) (by have := (cutB_sub ws p.1 p.2).length_le; omega) fun w hx => hw w ((cutB_sub ws p.1 p.2).subset hx)
    have sz : decide (((cutB ws p.1 p.2).map D.str).length ≤ sizeLine) = true := decide_eq_true (by rw [sizeLine_eq, List.length_map]; have := (cutB_sub ws p.1 p.2).length_le; omega)
    have rg : ∀ e, rngR2 (.val (.int (p.1 : Int))) (.val (.int (p.2 : Int))) e = .ok (rngD (p.1 : Int) (p.2 - p.1)) e := fun e => by
      rw [rngR2_int (by omega), show ((p.2 : Int) - (p.1 : Int)).toNat = p.2 - p.1 by omega]
    exact due_some F_law_is_bound _ (ws.map D.str) _ _ (ws.length : Int) (p.1 : Int) (p.2 : Int) ln i1 i2 (due_lc _ E_law_due_1 _ _ (ws.map D.str) _ _ (rng2_goB rfl rfl rg) dl sz) jn
  | none =>
    have q1 := repr_ok d1 v1
    have q2 := repr_ok d2 v2
    have i1 := isInt_any 1 d1 v1 0 (ws.length : Int)
    rcases okS_none h with h | ⟨a, rfl, h, h2⟩
    · rw [h, ← bs] at i1
      exact due_no1 F_law_is_bound _ (ws.map D.str) d1 d2 _ _ (ws.length : Int) ln i1 q1 q2
    · have i2 := isInt_any 1 d2 v2 (a + 1) (ws.length : Int)
      rw [h, ← bs] at i1
      rw [h2, ← bs] at i2
      exact due_no2 F_law_is_bound _ (ws.map D.str) a d2 _ _ (ws.length : Int) ln i1 i2 q1 q2

theorem bound_okB (n : Int) (n0 : 0 ≤ n) (n1 : n ≤ 1000) (c f r : Int) : ∃ (v : Rv) (d : D) (c' r' : Int), Gave v d ∧ IsVal 1 d ∧ F_law_bound [.bo (.lst [.int c, .int f, .int r]), .sh (.int n)] = .ok v [.bo (.lst [.int c', .int f, .int r']), .sh (.int n)] := by
  obtain ⟨i, c1, r1, i0, i1, hd⟩ := draw_ok c f r 4 (by omega) (by omega)
  unfold F_law_bound B_law_bound
  cases hb : (i == 0)
  · obtain ⟨j, c2, r2, j0, j1, hd2⟩ := draw_ok c1 f r1 (n + 3) (by omega) (by omega)
    refine ⟨.val (.int (j - 1)), .int (j - 1), c2, r2, .inl rfl, .int _ _ (by omega) (by omega), ?_⟩
    simp_arith! [hd, hb, hd2]
  · obtain ⟨v, d, c2, r2, g, hv, e⟩ := value_ok 1 1 rfl c1 f r1
    have e : F_law_value _ = _ := e
    refine ⟨v, d, c2, r2, g, hv, ?_⟩
    rcases g with rfl | rfl
    · simp_arith! [hd, hb, e]
    · simp_arith! [hd, hb, e]
def prT (p : D × D) : D := .tup [p.1, p.2]
theorem app_pr (ps : List (D × D)) (d1 d2 : D) (h : ps.length ≤ 1000) : appD (.lst (ps.map prT)) [.tup [d1, d2]] = some (.lst ((ps ++ [(d1, d2)]).map prT), .non) := by
  show (if (ps.map prT).length < sizeLine then some (D.lst (ps.map prT ++ [.tup [d1, d2]]), D.non) else none) = _
  rw [if_pos (by rw [sizeLine_eq, List.length_map]; omega), List.map_append]
  rfl
theorem pair_turn (ns : List Int) (k : Int) (hk : 0 ≤ k) (wd : List D) (n0 : Int) (n1 : 0 ≤ n0) (n2 : n0 ≤ 1000) (ln : lenD [.lst wd] = some (.val (.int n0))) (ps : List (D × D)) (hz : ps.length ≤ 1000) (s2 s3 s5 s9 s10 s11 x1 x8 : Sl) (g1 : stoS x1 = true) (g8 : stoS x8 = true) :
    ∃ (d1 d2 : D) (y1 : Sl), IsVal 1 d1 ∧ IsVal 1 d2 ∧ stoS y1 = true ∧ L_law_1 [.sh (.scr ns), x1, s2, s3, .sh (.lst wd), s5, .ow (.lst (ps.map prT)), .sh (.int k), x8, s9, s10, s11] = .ok .nx [.sh (.scr ns), y1, s2, s3, .sh (.lst wd), s5, .ow (.lst ((ps ++ [(d1, d2)]).map prT)), .sh (.int k), .sh d1, s9, s10, s11] := by
  obtain ⟨c, f, r, hb⟩ := bag_ok ns (k + 1) (by omega)
  obtain ⟨v1, d1, c1, r1, q1, h1, e1⟩ := bound_okB n0 n1 n2 c f r
  obtain ⟨v2, d2, c2, r2, q2, h2, e2⟩ := bound_okB n0 n1 n2 c1 f r1
  have ap := app_pr ps d1 d2 hz
  have z2 : ∀ a b : D, decide ([a, b].length ≤ sizeLine) = true := fun a b => by rw [sizeLine_eq]; rfl
  refine ⟨d1, d2, .ow (.lst [.int c2, .int f, .int r2]), h1, h2, rfl, ?_⟩
  clear h1 h2
  generalize (ps ++ [(d1, d2)]).map prT = p1 at *
  generalize ps.map prT = p0 at *
  rcases q1 with rfl | rfl <;> rcases q2 with rfl | rfl <;> simp_arith! [L_law_1_e, hb, g1, ln, e1, g8, e2, z2, ap]
theorem pair_loop (ns : List Int) (wd : List D) (n0 : Int) (n1 : 0 ≤ n0) (n2 : n0 ≤ 1000) (ln : lenD [.lst wd] = some (.val (.int n0))) (s2 s3 s5 s9 s10 s11 : Sl) : ∀ (ks : List Int) (ps : List (D × D)) (x1 x7 x8 : Sl), (∀ k ∈ ks, 0 ≤ k) → ps.length + ks.length ≤ 1000 → (∀ p ∈ ps, IsVal 1 p.1 ∧ IsVal 1 p.2) → stoS x1 = true → stoS x7 = true → stoS x8 = true →
    ∃ (ps' : List (D × D)) (y1 y7 y8 : Sl), (∀ p ∈ ps', IsVal 1 p.1 ∧ IsVal 1 p.2) ∧ stoS y1 = true ∧ stoS y7 = true ∧ stoS y8 = true ∧ forL (stoD 7) L_law_1 (ks.map D.int) [.sh (.scr ns), x1, s2, s3, .sh (.lst wd), s5, .ow (.lst (ps.map prT)), x7, x8, s9, s10, s11] = .ok .nx [.sh (.scr ns), y1, s2, s3, .sh (.lst wd), s5, .ow (.lst (ps'.map prT)), y7, y8, s9, s10, s11]
  | [], ps, x1, x7, x8, _, _, hp, g1, g7, g8 => ⟨ps, x1, x7, x8, hp, g1, g7, g8, rfl⟩
  | k :: ks, ps, x1, x7, x8, hk, hz, hp, g1, g7, g8 => by
    rw [List.length_cons] at hz
    obtain ⟨d1, d2, y1, v1, v2, k1, e1⟩ := pair_turn ns k (hk k List.mem_cons_self) wd n0 n1 n2 ln ps (by omega) s2 s3 s5 s9 s10 s11 x1 x8 g1 g8
    obtain ⟨ps', z1, z7, z8, a1, r1, r7, r8, ih⟩ := pair_loop ns wd n0 n1 n2 ln s2 s3 s5 s9 s10 s11 ks (ps ++ [(d1, d2)]) y1 (.sh (.int k)) (.sh d1) (fun x hx => hk x (List.mem_cons_of_mem _ hx)) (by rw [List.length_append, List.length_singleton]; omega) (fun p hp' => (List.mem_append.mp hp').elim (hp p) fun z => by rw [List.mem_singleton.mp z]; exact ⟨v1, v2⟩) k1 rfl rfl
    refine ⟨ps', z1, z7, z8, a1, r1, r7, r8, ?_⟩
    rw [List.map_cons, forL_cons]
    generalize (ps ++ [(d1, d2)]).map prT = p1 at *
    generalize ps.map prT = p0 at *
    generalize ps'.map prT = p2 at *
    generalize L_law_1 = LL at *
    simp_arith! [g7, e1, ih]

theorem eqDs_refl : ∀ xs : List D, (∀ x ∈ xs, Vs.eqD x x = true) → eqDs xs xs = true
  | [], _ => rfl
  | x :: xs, h => by
    unfold eqDs
    rw [h x List.mem_cons_self, eqDs_refl xs fun y hy => h y (List.mem_cons_of_mem _ hy)]
    rfl
theorem ne_self (xs : List D) (h1 : xs.all (shp 0) = true) (h : ∀ x ∈ xs, Vs.eqD x x = true) : neG (.lst xs) (.lst xs) = some (.val (.bl false)) :=
  (neG_flat (by rw [h1]; rfl)).trans (by rw [eqDs_refl xs h]; rfl)
theorem eqD_str (l : List Nat) : Vs.eqD (.str l) (.str l) = true := by simp [Vs.eqD]
theorem ne_ans (ws : List (List Nat)) (d1 d2 : D) : neG (.lst (ansB ws d1 d2)) (.lst (ansB ws d1 d2)) = some (.val (.bl false)) := by
  unfold ansB
  cases okS ws.length d1 d2 with
  | some p =>
    refine ne_self _ rfl fun x hx => ?_
    have hx : x ∈ [D.str retN, D.str (TL.joinL [32] (cutB ws p.1 p.2))] := hx
    simp only [List.mem_cons, List.not_mem_nil, or_false] at hx
    rcases hx with rfl | rfl <;> exact eqD_str _
  | none =>
    refine ne_self _ rfl fun x hx => ?_
    have hx : x ∈ [D.str raiN, D.str (rpT d1), D.str (rpT d2), D.bl false] := hx
    · simp only [List.mem_cons, List.not_mem_nil, or_false] at hx
      rcases hx with rfl | rfl | rfl | rfl
      · exact eqD_str _
      · exact eqD_str _
      · exact eqD_str _
      · rfl
theorem ne_strsB (ws : List (List Nat)) : neG (.lst (ws.map D.str)) (.lst (ws.map D.str)) = some (.val (.bl false)) := ne_self _ (List.all_eq_true.mpr fun x hx => by
    obtain ⟨w, _, rfl⟩ := List.mem_map.mp hx
    rfl) fun x hx => by
    obtain ⟨w, _, rfl⟩ := List.mem_map.mp hx
    exact eqD_str w
theorem ask_yes (FT FD FI : List Sl → Res Rv) (L2X : M Ctl) (l t j0 : List Nat) (wd cd ad : List D) (a0 b0 : Int) (s0 s1 s3 s6 s7 x10 s11 : Sl) (g10 : stoS x10 = true) (had : ad = [.str retN, .str j0])
    (e1 : FT [.sh (.str t), .sh (.str l), .sh (.int a0), .sh (.int b0)] = .ok (.fresh (.lst ad)) [.sh (.str t), .sh (.str l), .sh (.int a0), .sh (.int b0)])
    (e2 : FD [.sh (.lst wd), .sh (.int a0), .sh (.int b0)] = .ok (.fresh (.lst ad)) [.sh (.lst wd), .sh (.int a0), .sh (.int b0)]) (n1 : neG (.lst ad) (.lst ad) = some (.val (.bl false)))
    (e3 : FI [.sh (.str j0), .sh (.str l)] = .ok (.fresh (.lst cd)) [.sh (.str j0), .sh (.str l)]) (ct : cutL wd (some a0) (some b0) = cd) (n2 : neG (.lst cd) (.lst cd) = some (.val (.bl false))) :
    (fSeq (fSet 10 (fCall FT (fCons (fVar 5) (fCons (fVar 2) (fCons (fVar 8) (fCons (fVar 9) fNil))))))
    (fSeq (fIfE (fTest (fOp neG (fVar 10) (fCall FD (fCons (fVar 4) (fCons (fVar 8) (fCons (fVar 9) fNil))))))
      (fRet (fC (.bl false)))
      fNx)
    (fSeq (fIfE (fAnd (fTest (fOp eqG (fOp ixA (fVar 10) (fC (.int 0))) (fC (.str [114, 101, 116, 117, 114, 110, 101, 100])))) (fTest (fOp neG (fCall FI (fCons (fOp ixA (fVar 10) (fC (.int 1))) (fCons (fVar 2) fNil))) (fSl (fVar 4) (fPart (fVar 8)) (fPart (fVar 9))))))
      (fRet (fC (.bl false)))
      fNx)
    (fIfE (fTest (fOp neG (fCall FT (fCons (fVar 5) (fCons (fVar 2) (fCons (fVar 8) (fCons (fVar 9) fNil))))) (fVar 10)))
      (fRet (fC (.bl false)))
      fNx)))) [s0, s1, .sh (.str l), s3, .sh (.lst wd), .sh (.str t), s6, s7, .sh (.int a0), .sh (.int b0), x10, s11] = .ok .nx [s0, s1, .sh (.str l), s3, .sh (.lst wd), .sh (.str t), s6, s7, .sh (.int a0), .sh (.int b0), .ow (.lst ad), s11] := by
  subst had
  have ix0 : ∀ a b : D, ixA (.lst [a, b]) (.int 0) = some (.val a) := fun a b => ixl_atW (n := 0) rfl
  have ix1 : ∀ a b : D, ixA (.lst [a, b]) (.int 1) = some (.val b) := fun a b => ixl_atW (n := 1) rfl
  have er : eqG (.str retN) (.str [114, 101, 116, 117, 114, 110, 101, 100]) = some (.val (.bl true)) := rfl
  generalize retN = rn at *
  simp_arith! [e1, g10, e2, n1, ix0, er, ix1, e3, ct, n2]
theorem ask_no (FT FD FI : List Sl → Res Rv) (l t r1 r2 : List Nat) (wd ad : List D) (d1 d2 : D) (s0 s1 s3 s6 s7 x10 s11 : Sl) (g10 : stoS x10 = true) (had : ad = [.str raiN, .str r1, .str r2, .bl false])
    (e1 : FT [.sh (.str t), .sh (.str l), .sh d1, .sh d2] = .ok (.fresh (.lst ad)) [.sh (.str t), .sh (.str l), .sh d1, .sh d2])
    (e2 : FD [.sh (.lst wd), .sh d1, .sh d2] = .ok (.fresh (.lst ad)) [.sh (.lst wd), .sh d1, .sh d2]) (n1 : neG (.lst ad) (.lst ad) = some (.val (.bl false))) :
    (fSeq (fSet 10 (fCall FT (fCons (fVar 5) (fCons (fVar 2) (fCons (fVar 8) (fCons (fVar 9) fNil))))))
    (fSeq (fIfE (fTest (fOp neG (fVar 10) (fCall FD (fCons (fVar 4) (fCons (fVar 8) (fCons (fVar 9) fNil))))))
      (fRet (fC (.bl false)))
      fNx)
    (fSeq (fIfE (fAnd (fTest (fOp eqG (fOp ixA (fVar 10) (fC (.int 0))) (fC (.str [114, 101, 116, 117, 114, 110, 101, 100])))) (fTest (fOp neG (fCall FI (fCons (fOp ixA (fVar 10) (fC (.int 1))) (fCons (fVar 2) fNil))) (fSl (fVar 4) (fPart (fVar 8)) (fPart (fVar 9))))))
      (fRet (fC (.bl false)))
      fNx)
    (fIfE (fTest (fOp neG (fCall FT (fCons (fVar 5) (fCons (fVar 2) (fCons (fVar 8) (fCons (fVar 9) fNil))))) (fVar 10)))
      (fRet (fC (.bl false)))
      fNx)))) [s0, s1, .sh (.str l), s3, .sh (.lst wd), .sh (.str t), s6, s7, .sh d1, .sh d2, x10, s11] = .ok .nx [s0, s1, .sh (.str l), s3, .sh (.lst wd), .sh (.str t), s6, s7, .sh d1, .sh d2, .ow (.lst ad), s11] := by
  subst had
  have ix0 : ∀ a b c d : D, ixA (.lst [a, b, c, d]) (.int 0) = some (.val a) := fun a b c d => ixl_atW (n := 0) rfl
  have er : eqG (.str raiN) (.str [114, 101, 116, 117, 114, 110, 101, 100]) = some (.val (.bl false)) := rfl
  generalize raiN = rn at *
  simp_arith! [e1, g10, e2, n1, ix0, er]
section
variable (l : List Nat) (hl : l ≠ []) (hc : ∀ c ∈ l, c ∈ charsL) (ws : List (List Nat)) (hn : ws.length ≤ 60) (hi : ∀ w ∈ ws, IsItB l w) (t : List Nat) (ht : t.length ≤ 90000) (it : itemsN l t = ws)
include hl hc hn hi ht it
theorem ask_turn (d1 d2 : D) (v1 : IsVal 1 d1) (v2 : IsVal 1 d2) (s0 s1 s3 s6 s7 x10 s11 : Sl) (g10 : stoS x10 = true) :
    L_law_2 [s0, s1, .sh (.str l), s3, .sh (.lst (ws.map D.str)), .sh (.str t), s6, s7, .sh d1, .sh d2, x10, s11] = .ok .nx [s0, s1, .sh (.str l), s3, .sh (.lst (ws.map D.str)), .sh (.str t), s6, s7, .sh d1, .sh d2, .ow (.lst (ansB ws d1 d2)), s11] := by
  have hw : ∀ w ∈ ws, w.length ≤ 40 := fun w h => (hi w h).2.1
  have e1 := told_okB l hl ws hn hw t ht it d1 d2 v1 v2
  have e2 := due_okB ws hn hw d1 d2 v1 v2
  have n1 := ne_ans ws d1 d2
  cases h : okS ws.length d1 d2 with
  | some p =>
    have had : ansB ws d1 d2 = [.str retN, .str (TL.joinL [32] (cutB ws p.1 p.2))] := by unfold ansB; rw [h]
    obtain ⟨rfl, rfl, h1, h2⟩ := okS_some h
    have sub := cutB_sub ws p.1 p.2
    obtain ⟨_, jz⟩ := join_itB (cutB ws p.1 p.2) (by have := sub.length_le; omega) fun w hx => hw w (sub.subset hx)
    have e3 := items_ok l (TL.joinL [32] (cutB ws p.1 p.2)) hl jz
    have it3 : itemsN l (TL.joinL [32] (cutB ws p.1 p.2)) = cutB ws p.1 p.2 := by
      unfold itemsN
      rw [fold_join hl hc (cutB ws p.1 p.2) [] fun w hx => by
        have := hi w (sub.subset hx)
        refine ⟨fun z => by rw [z] at this; exact absurd this.1 (by simp), this.2.2.imp id fun q x hx => ?_⟩
        have := q x hx
        unfold digsL at this
        simp only [List.mem_cons, List.not_mem_nil, or_false] at this
        omega]
      rfl
    rw [it3] at e3
    exact ask_yes F_law_told F_law_due F_items_of fNx l t _ (ws.map D.str) _ _ (p.1 : Int) (p.2 : Int) s0 s1 s3 s6 s7 x10 s11 g10 had e1 e2 n1 e3 (cut_natM ws p.1 p.2 (by omega) h2) (ne_strsB _)
  | none =>
    have had : ansB ws d1 d2 = [.str raiN, .str (rpT d1), .str (rpT d2), .bl false] := by unfold ansB; rw [h]
    exact ask_no F_law_told F_law_due F_items_of l t _ _ (ws.map D.str) _ d1 d2 s0 s1 s3 s6 s7 x10 s11 g10 had e1 e2 n1
theorem ask_loop (s0 s1 s3 s6 s7 s11 : Sl) : ∀ (ps : List (D × D)) (x8 x9 x10 : Sl), (∀ p ∈ ps, IsVal 1 p.1 ∧ IsVal 1 p.2) → stoS x8 = true → stoS x9 = true → stoS x10 = true →
    ∃ y8 y9 y10, forL (gTupF 2 (gConsF (stoD 8) (gConsF (stoD 9) gNilF))) L_law_2 (ps.map prT) [s0, s1, .sh (.str l), s3, .sh (.lst (ws.map D.str)), .sh (.str t), s6, s7, x8, x9, x10, s11] = .ok .nx [s0, s1, .sh (.str l), s3, .sh (.lst (ws.map D.str)), .sh (.str t), s6, s7, y8, y9, y10, s11]
  | [], x8, x9, x10, _, _, _, _ => ⟨x8, x9, x10, rfl⟩
  | (d1, d2) :: ps, x8, x9, x10, h, g8, g9, g10 => by
    obtain ⟨v1, v2⟩ := h (d1, d2) List.mem_cons_self
    have e1 := ask_turn l hl hc ws hn hi t ht it d1 d2 v1 v2 s0 s1 s3 s6 s7 x10 s11 g10
    obtain ⟨y8, y9, y10, ih⟩ := ask_loop s0 s1 s3 s6 s7 s11 ps (.sh d1) (.sh d2) (.ow (.lst (ansB ws d1 d2))) (fun p hp => h p (List.mem_cons_of_mem _ hp)) rfl rfl rfl
    refine ⟨y8, y9, y10, ?_⟩
    rw [List.map_cons, forL_cons, show prT (d1, d2) = .tup [d1, d2] from rfl]
    generalize ansB ws d1 d2 = ad at *
    generalize ws.map D.str = wd at *
    generalize ps.map prT = pd at *
    generalize L_law_2 = LL at *
    simp_arith! [g8, g9, e1, ih]
theorem each_loop (s0 s1 s3 s6 s8 s9 s10 : Sl) : ∀ (rest pre : List (List Nat)) (x7 x11 : Sl), ws = pre ++ rest → stoS x7 = true → stoS x11 = true →
    ∃ y7 y11, forL (gTupF 2 (gConsF (stoD 7) (gConsF (stoD 11) gNilF))) L_law_3 (enumD pre.length (rest.map D.str)) [s0, s1, .sh (.str l), s3, .sh (.lst (ws.map D.str)), .sh (.str t), s6, x7, s8, s9, s10, x11] = .ok .nx [s0, s1, .sh (.str l), s3, .sh (.lst (ws.map D.str)), .sh (.str t), s6, y7, s8, s9, s10, y11]
  | [], pre, x7, x11, _, _, _ => ⟨x7, x11, rfl⟩
  | w :: rest, pre, x7, x11, e, g7, g11 => by
    have hw : ∀ w ∈ ws, w.length ≤ 40 := fun w h => (hi w h).2.1
    obtain ⟨y7, y11, ih⟩ := each_loop s0 s1 s3 s6 s8 s9 s10 rest (pre ++ [w]) (.sh (.int (pre.length : Int))) (.sh (.str w)) (by rw [e]; simp) rfl rfl
    refine ⟨y7, y11, ?_⟩
    have st := stretch_some l hl ws hn hw t ht it pre.length (pre.length + 1) (by omega) (by rw [e]; simp)
    have cb : cutB ws pre.length (pre.length + 1) = [w] := by
      unfold cutB
      rw [e, List.take_append, List.take_of_length_le (by omega), show pre.length + 1 - pre.length = 1 by omega]
      simp
    rw [cb, show TL.joinL [32] [w] = w from rfl, show ((pre.length + 1 : Nat) : Int) = (pre.length : Int) + 1 by omega] at st
    have ne : neG (.str w) (.str w) = some (.val (.bl false)) := by
      unfold neG
      rw [eqD_str]
      rfl
    rw [List.length_append, List.length_singleton] at ih
    rw [List.map_cons, show enumD pre.length (D.str w :: rest.map D.str) = .tup [.int (pre.length : Int), .str w] :: enumD (pre.length + 1) (rest.map D.str) from rfl, forL_cons]
    generalize enumD (pre.length + 1) (rest.map D.str) = es at *
    generalize ws.map D.str = wd at *
    generalize (pre.length : Int) = p0 at *
    simp_arith! [g7, g11, L_law_3_e, st, ne, ih]
end

theorem last_told (l : List Nat) (hl : l ≠ []) : F_law_told [.sh (.str []), .sh (.str l), .sh (.int 0), .sh (.int 1)] = .ok (.fresh (.lst [.str [114, 97, 105, 115, 101, 100], .str [48], .str [49], .bl false])) [.sh (.str []), .sh (.str l), .sh (.int 0), .sh (.int 1)] := by
  have e := told_okB l hl [] (by simp) (fun w h => nomatch h) [] (by simp) rfl (.int 0) (.int 1) (.int _ _ (by omega) (by omega)) (.int _ _ (by omega) (by omega))
  have a : ansB [] (.int 0) (.int 1) = [.str raiN, .str (rpT (.int 0)), .str (rpT (.int 1)), .bl false] := rfl
  have r0 : rpT (.int 0) = [48] := by decide +kernel
  have r1 : rpT (.int 1) = [49] := by decide +kernel
  rw [a, r0, r1] at e
  exact e
def endX : M Ctl := (fRet (fOp eqG (fCall F_law_told (fCons (fC (.str [])) (fCons (fVar 2) (fCons (fC (.int 0)) (fCons (fC (.int 1)) fNil))))) (fLst (fCons (fC (.str [114, 97, 105, 115, 101, 100])) (fCons (fC (.str [48])) (fCons (fC (.str [49])) (fCons (fC (.bl false)) fNil)))))))
theorem end_run (FT : List Sl → Res Rv) (l : List Nat) (s0 s1 s3 s4 s5 s6 s7 s8 s9 s10 s11 : Sl) (e1 : FT [.sh (.str []), .sh (.str l), .sh (.int 0), .sh (.int 1)] = .ok (.fresh (.lst [.str [114, 97, 105, 115, 101, 100], .str [48], .str [49], .bl false])) [.sh (.str []), .sh (.str l), .sh (.int 0), .sh (.int 1)]) :
    (fRet (fOp eqG (fCall FT (fCons (fC (.str [])) (fCons (fVar 2) (fCons (fC (.int 0)) (fCons (fC (.int 1)) fNil))))) (fLst (fCons (fC (.str [114, 97, 105, 115, 101, 100])) (fCons (fC (.str [48])) (fCons (fC (.str [49])) (fCons (fC (.bl false)) fNil))))))) [s0, s1, .sh (.str l), s3, s4, s5, s6, s7, s8, s9, s10, s11] = .ok (.rt (.val (.bl true))) [s0, s1, .sh (.str l), s3, s4, s5, s6, s7, s8, s9, s10, s11] := by
  have z4 : ∀ a b c d : D, decide ([a, b, c, d].length ≤ sizeLine) = true := fun a b c d => by rw [sizeLine_eq]; rfl
  have eq : eqG (.lst [.str [114, 97, 105, 115, 101, 100], .str [48], .str [49], .bl false]) (.lst [.str [114, 97, 105, 115, 101, 100], .str [48], .str [49], .bl false]) = some (.val (.bl true)) := by rfl
  simp_arith! [e1, z4, eq]
def loopX (EX : M Ctl) : M Ctl := (fSeq (fFor (fRng1 (fC (.int 6))) (stoD 7)
    L_law_1)
  (fSeq (fFor (fItems (fVar 6)) (gTupF 2 (gConsF (stoD 8) (gConsF (stoD 9) gNilF)))
    L_law_2)
  (fSeq (fFor (fEnum (fVar 4)) (gTupF 2 (gConsF (stoD 7) (gConsF (stoD 11) gNilF)))
    L_law_3) EX)))
theorem loops_run (L1 L2' L3 EX : M Ctl) (r : Res Ctl) (wd pd pd2 : List D) (s0 x1 y1 s2 s3 s5 y7 y8 z8 z9 z10 w7 w11 : Sl)
    (lp1 : forL (stoD 7) L1 (rngD 0 6) [s0, x1, s2, s3, .sh (.lst wd), s5, .ow (.lst pd), .un, .un, .un, .un, .un] = .ok .nx [s0, y1, s2, s3, .sh (.lst wd), s5, .ow (.lst pd2), y7, y8, .un, .un, .un])
    (lp2 : forL (gTupF 2 (gConsF (stoD 8) (gConsF (stoD 9) gNilF))) L2' pd2 [s0, y1, s2, s3, .sh (.lst wd), s5, .sh (.lst pd2), y7, y8, .un, .un, .un] = .ok .nx [s0, y1, s2, s3, .sh (.lst wd), s5, .sh (.lst pd2), y7, z8, z9, z10, .un])
    (lp3 : forL (gTupF 2 (gConsF (stoD 7) (gConsF (stoD 11) gNilF))) L3 (enumD 0 wd) [s0, y1, s2, s3, .sh (.lst wd), s5, .sh (.lst pd2), y7, z8, z9, z10, .un] = .ok .nx [s0, y1, s2, s3, .sh (.lst wd), s5, .sh (.lst pd2), w7, z8, z9, z10, w11])
    (ex : EX [s0, y1, s2, s3, .sh (.lst wd), s5, .sh (.lst pd2), w7, z8, z9, z10, w11] = r) :
    (fSeq (fFor (fRng1 (fC (.int 6))) (stoD 7) L1) (fSeq (fFor (fItems (fVar 6)) (gTupF 2 (gConsF (stoD 8) (gConsF (stoD 9) gNilF))) L2') (fSeq (fFor (fEnum (fVar 4)) (gTupF 2 (gConsF (stoD 7) (gConsF (stoD 11) gNilF))) L3) EX))) [s0, x1, s2, s3, .sh (.lst wd), s5, .ow (.lst pd), .un, .un, .un, .un, .un] = r := by
  have hb6 : decide (-4611686018427387904 ≤ (6 : Int) ∧ (6 : Int) < 4611686018427387904) = true := by decide
  have r6 : (6 : Int).toNat = 6 := rfl
  have it2 : ∀ d, itemsD (.lst d) = some d := fun _ => rfl
  have en : ∀ e, enumR (.val (.lst wd)) e = .ok (enumD 0 wd) e := fun _ => rfl
  generalize enumD 0 wd = es at *
  simp_arith! [hb6, r6, lp1, it2, lp2, en, lp3, ex]
theorem start_run (NX : M Ctl) (r : Res Ctl) (ns : List Int) (l t : List Nat) (wd : List D) (n0 m c f r0 c1 r1 c2 r2 c3 r3 c4 r4 : Int) (e0 : F_law_bag [.sh (.scr ns), .sh (.int 0)] = .ok (.fresh (.lst [.int c, .int f, .int r0])) [.sh (.scr ns), .sh (.int 0)])
    (e1 : F_law_letters [.bo (.lst [.int c, .int f, .int r0])] = .ok (.val (.str l)) [.bo (.lst [.int c1, .int f, .int r1])]) (e2 : F_law_draw [.bo (.lst [.int c1, .int f, .int r1]), .sh (.int 40)] = .ok (.val (.int m)) [.bo (.lst [.int c2, .int f, .int r2]), .sh (.int 40)])
    (e3 : F_law_items [.bo (.lst [.int c2, .int f, .int r2]), .sh (.str l), .sh (.int 60), .sh (.int (1 + m))] = .ok (.fresh (.lst wd)) [.bo (.lst [.int c3, .int f, .int r3]), .sh (.str l), .sh (.int 60), .sh (.int (1 + m))])
    (e4 : F_law_written [.bo (.lst [.int c3, .int f, .int r3]), .sh (.str l), .bo (.lst wd)] = .ok (.val (.str t)) [.bo (.lst [.int c4, .int f, .int r4]), .sh (.str l), .bf (.lst wd)]) (ln : lenD [.lst wd] = some (.val (.int n0)))
    (nx : NX [.sh (.scr ns), .ow (.lst [.int c4, .int f, .int r4]), .sh (.str l), .sh (.int (1 + m)), .sh (.lst wd), .sh (.str t), .ow (.lst [.tup [.int 0, .int n0], .tup [.bl false, .int n0], .tup [.int 0, .bl true], .tup [.int n0, .int n0], .tup [.int 0, .int (n0 + 1)]]), .un, .un, .un, .un, .un] = r) :
    (fSeq (fSet 1 (fCall F_law_bag (fCons (fVar 0) (fCons (fC (.int 0)) fNil))))
  (fSeq (fPar2 2 3 (fCons (fCall F_law_letters (fCons (fVar 1) fNil)) (fCons (fOp addD (fC (.int 1)) (fCall F_law_draw (fCons (fVar 1) (fCons (fC (.int 40)) fNil)))) fNil)))
  (fSeq (fSet 4 (fCall F_law_items (fCons (fVar 1) (fCons (fVar 2) (fCons (fC (.int 60)) (fCons (fVar 3) fNil))))))
  (fSeq (fSet 5 (fCall F_law_written (fCons (fVar 1) (fCons (fVar 2) (fCons (fVar 4) fNil)))))
  (fSeq (fSet 6 (fLst (fCons (fFrz (fTup (fCons (fC (.int 0)) (fCons (fFrz (fApp lenD (fCons (fVar 4) fNil))) fNil)))) (fCons (fFrz (fTup (fCons (fC (.bl false)) (fCons (fFrz (fApp lenD (fCons (fVar 4) fNil))) fNil)))) (fCons (fFrz (fTup (fCons (fC (.int 0)) (fCons (fC (.bl true)) fNil)))) (fCons (fFrz (fTup (fCons (fFrz (fApp lenD (fCons (fVar 4) fNil))) (fCons (fFrz (fApp lenD (fCons (fVar 4) fNil))) fNil)))) (fCons (fFrz (fTup (fCons (fC (.int 0)) (fCons (fFrz (fOp addD (fApp lenD (fCons (fVar 4) fNil)) (fC (.int 1)))) fNil)))) fNil))))))) NX))))) [.sh (.scr ns), .un, .un, .un, .un, .un, .un, .un, .un, .un, .un, .un] = r := by
  have z2 : ∀ a b : D, decide ([a, b].length ≤ sizeLine) = true := fun a b => by rw [sizeLine_eq]; rfl
  have z5 : ∀ a b c d e : D, decide ([a, b, c, d, e].length ≤ sizeLine) = true := fun a b c d e => by rw [sizeLine_eq]; rfl
  generalize F_law_bag = F0 at *
  generalize F_law_letters = F1 at *
  generalize F_law_draw = F2 at *
  generalize F_law_items = F3 at *
  generalize F_law_written = F4 at *
  simp_arith! [e0, e1, e2, e3, e4, ln, z2, z5, nx]
theorem law_true : LawTrue 63 F_law := by
  intro ns hns
  obtain ⟨c, f, r, e0⟩ := bag_ok ns 0 (by omega)
  obtain ⟨l, c1, r1, l1, l4, lc, _, e1⟩ := law_letters_ok c f r
  have hl : l ≠ [] := fun z => by subst z; simp at l1
  obtain ⟨m, c2, r2, m0, m1, e2⟩ := draw_ok c1 f r1 40 (by omega) (by omega)
  obtain ⟨ws, c3, r3, w1, w2, e3⟩ := items_okB l hl (by omega) 60 (1 + m) (by omega) (by omega) (by omega) (by omega) c2 f r2
  obtain ⟨t, c4, r4, t1, it, e4⟩ := written_ok l hl lc ws w2 (by omega) c3 f r3
  have ln : lenD [.lst (ws.map D.str)] = some (.val (.int (ws.length : Int))) := by rw [lenD_lst, List.length_map]
  have hrng : rngD 0 6 = ([0, 1, 2, 3, 4, 5] : List Int).map D.int := rfl
  obtain ⟨ps, y1, y7, y8, p1, k1, k7, k8, lp1⟩ := pair_loop ns (ws.map D.str) (ws.length : Int) (by omega) (by omega) ln (.sh (.str l)) (.sh (.int (1 + m))) (.sh (.str t)) .un .un .un [0, 1, 2, 3, 4, 5] [(.int 0, .int (ws.length : Int)), (.bl false, .int (ws.length : Int)), (.int 0, .bl true), (.int (ws.length : Int), .int (ws.length : Int)), (.int 0, .int ((ws.length : Int) + 1))]
    (.ow (.lst [.int c4, .int f, .int r4])) .un .un (fun k hk => by
      simp only [List.mem_cons, List.not_mem_nil, or_false] at hk
      omega) (by simp) (fun p hp => by
      simp only [List.mem_cons, List.not_mem_nil, or_false] at hp
      rcases hp with rfl | rfl | rfl | rfl | rfl
      · exact ⟨.int _ _ (by omega) (by omega), .int _ _ (by omega) (by omega)⟩
      · exact ⟨.bl _ _, .int _ _ (by omega) (by omega)⟩
      · exact ⟨.int _ _ (by omega) (by omega), .bl _ _⟩
      · exact ⟨.int _ _ (by omega) (by omega), .int _ _ (by omega) (by omega)⟩
      · exact ⟨.int _ _ (by omega) (by omega), .int _ _ (by omega) (by omega)⟩) rfl rfl rfl
  rw [← hrng] at lp1
  obtain ⟨z8, z9, z10, lp2⟩ := ask_loop l hl lc ws (by omega) w2 t (by omega) it (.sh (.scr ns)) y1 (.sh (.int (1 + m))) (.sh (.lst (ps.map prT))) y7 .un ps y8 .un .un p1 k8 rfl rfl
  obtain ⟨w7, w11, lp3⟩ := each_loop l hl lc ws (by omega) w2 t (by omega) it (.sh (.scr ns)) y1 (.sh (.int (1 + m))) (.sh (.lst (ps.map prT))) z8 z9 z10 ws [] y7 .un rfl k7 rfl
  have fin := end_run F_law_told l (.sh (.scr ns)) y1 (.sh (.int (1 + m))) (.sh (.lst (ws.map D.str))) (.sh (.str t)) (.sh (.lst (ps.map prT))) w7 z8 z9 z10 w11 (last_told l hl)
  have lo := loops_run L_law_1 L_law_2 L_law_3 endX _ (ws.map D.str) _ (ps.map prT) (.sh (.scr ns)) _ y1 (.sh (.str l)) (.sh (.int (1 + m))) (.sh (.str t)) y7 y8 z8 z9 z10 w7 w11 lp1 lp2 lp3 fin
  have st := start_run (loopX endX) _ ns l t (ws.map D.str) (ws.length : Int) m c f r c1 r1 c2 r2 c3 r3 c4 r4 e0 e1 e2 e3 e4 ln lo
  have bl : B_law [.sh (.scr ns), .un, .un, .un, .un, .un, .un, .un, .un, .un, .un, .un] = _ := st
  unfold F_law
  generalize B_law = BL at *
  refine ⟨[.sh (.scr ns)], ?_⟩
  clear st lo fin lp1 lp2 lp3
  simp_arith! [bl]

theorem facts {w : World} {K : PySem.W.Frag} {h : Heap} {mg : Str → Option Value} {f : Addr} (X : K.In h) (G : h.Ns mainGlobals mg) (hfa : mg ("law" : Str) = some (.ref f)) (cP : SaysP ex fa fn tf xn fr h K) :
    LawAtG PySem.Challenge.rw_foundaswritten_k05_stretches w K 6 63 "_law_script" mg f h := by
  have cZ := cP.z
  have cY := cZ.y
  have c := cY.x
  have m_len : mg "len" = none := He.free_ok X G (c.d.fact 0 (f := .free "len") rfl)
  have m_int : mg "int" = none := He.free_ok X G (c.d.fact 1 (f := .free "int") rfl)
  have m_range : mg "range" = none := He.free_ok X G (c.d.fact 2 (f := .free "range") rfl)
  have m_list : mg "list" = none := He.free_ok X G (c.d.fact 3 (f := .free "list") rfl)
  have m_set : mg "set" = none := He.free_ok X G (c.d.fact 4 (f := .free "set") rfl)
  have m_sorted : mg "sorted" = none := He.free_ok X G (c.d.fact 5 (f := .free "sorted") rfl)
  have m_enumerate : mg "enumerate" = none := He.free_ok X G (c.d.fact 6 (f := .free "enumerate") rfl)
  have m_tuple : mg "tuple" = none := He.free_ok X G (c.d.fact 7 (f := .free "tuple") rfl)
  obtain ⟨t_DIGITS, g_DIGITS⟩ := He.str_ok X G (c.d.fact 8 (f := .str "DIGITS" (S c_DIGITS)) rfl)
  have m_bool : mg "bool" = none := He.free_ok X G (c.d.fact 9 (f := .free "bool") rfl)
  have m_isinstance : mg "isinstance" = none := He.free_ok X G (c.d.fact 10 (f := .free "isinstance") rfl)
  have gl_NoStretch : mg "NoStretch" = some (.ref (He.ga K "NoStretch")) := He.glo_ok X G (c.d.fact 11 (f := .glo "NoStretch") rfl)
  have m_super : mg "super" = none := He.free_ok X G (c.d.fact 12 (f := .free "super") rfl)
  have gl_FoundError : mg "FoundError" = some (.ref (He.ga K "FoundError")) := He.glo_ok X G (c.d.fact 13 (f := .glo "FoundError") rfl)
  have sy : SysIn K := sysB_ok (c.more 6 (f := sysB) rfl)
  have m_repr : mg "repr" = none := He.free_ok X G (c.d.fact 14 (f := .free "repr") rfl)
  obtain ⟨fd_law_bag, Fd_law_bag⟩ := c.d.def_ 0 (d := D_law_bag) rfl
  have gl_law_bag : mg "_law_bag" = some (.ref (He.ga K "_law_bag")) := He.glo_ok X G (c.d.fact 15 (f := .glo "_law_bag") rfl)
  obtain ⟨fd_law_draw, Fd_law_draw⟩ := c.d.def_ 1 (d := D_law_draw) rfl
  have gl_law_draw : mg "_law_draw" = some (.ref (He.ga K "_law_draw")) := He.glo_ok X G (c.d.fact 16 (f := .glo "_law_draw") rfl)
  obtain ⟨fd_law_string, Fd_law_string⟩ := c.d.def_ 2 (d := D_law_string) rfl
  have gl_law_string : mg "_law_string" = some (.ref (He.ga K "_law_string")) := He.glo_ok X G (c.d.fact 17 (f := .glo "_law_string") rfl)
  obtain ⟨fd_law_characters, Fd_law_characters⟩ := c.d.def_ 3 (d := D_law_characters) rfl
  have gl_law_characters : mg "_law_characters" = some (.ref (He.ga K "_law_characters")) := He.glo_ok X G (c.d.fact 18 (f := .glo "_law_characters") rfl)
  obtain ⟨fd_law_letters, Fd_law_letters⟩ := c.d.def_ 4 (d := D_law_letters) rfl
  have gl_law_letters : mg "_law_letters" = some (.ref (He.ga K "_law_letters")) := He.glo_ok X G (c.d.fact 19 (f := .glo "_law_letters") rfl)
  obtain ⟨fd_law_items, Fd_law_items⟩ := c.d.def_ 5 (d := D_law_items) rfl
  have gl_law_items : mg "_law_items" = some (.ref (He.ga K "_law_items")) := He.glo_ok X G (c.d.fact 20 (f := .glo "_law_items") rfl)
  obtain ⟨fd_law_signs, Fd_law_signs⟩ := c.d.def_ 6 (d := D_law_signs) rfl
  have gl_law_signs : mg "_law_signs" = some (.ref (He.ga K "_law_signs")) := He.glo_ok X G (c.d.fact 21 (f := .glo "_law_signs") rfl)
  obtain ⟨fd_law_written, Fd_law_written⟩ := c.d.def_ 7 (d := D_law_written) rfl
  have gl_law_written : mg "_law_written" = some (.ref (He.ga K "_law_written")) := He.glo_ok X G (c.d.fact 22 (f := .glo "_law_written") rfl)
  obtain ⟨fd_law_value, Fd_law_value⟩ := c.d.def_ 8 (d := D_law_value) rfl
  have gl_law_value : mg "_law_value" = some (.ref (He.ga K "_law_value")) := He.glo_ok X G (c.d.fact 23 (f := .glo "_law_value") rfl)
  obtain ⟨fd_law_bound, Fd_law_bound⟩ := c.d.def_ 9 (d := D_law_bound) rfl
  have gl_law_bound : mg "_law_bound" = some (.ref (He.ga K "_law_bound")) := He.glo_ok X G (c.d.fact 24 (f := .glo "_law_bound") rfl)
  obtain ⟨fd_items_of, Fd_items_of⟩ := c.d.def_ 10 (d := D_items_of) rfl
  have gl_items_of : mg "items_of" = some (.ref (He.ga K "items_of")) := He.glo_ok X G (c.d.fact 25 (f := .glo "items_of") rfl)
  obtain ⟨fd_is_integer, Fd_is_integer⟩ := c.d.def_ 11 (d := D_is_integer) rfl
  have gl_is_integer : mg "is_integer" = some (.ref (He.ga K "is_integer")) := He.glo_ok X G (c.d.fact 26 (f := .glo "is_integer") rfl)
  obtain ⟨fd_stretch_of, Fd_stretch_of⟩ := c.d.def_ 12 (d := D_stretch_of) rfl
  have gl_stretch_of : mg "stretch_of" = some (.ref (He.ga K "stretch_of")) := He.glo_ok X G (c.d.fact 27 (f := .glo "stretch_of") rfl)
  obtain ⟨fd_law_told, Fd_law_told⟩ := c.d.def_ 13 (d := D_law_told) rfl
  have gl_law_told : mg "_law_told" = some (.ref (He.ga K "_law_told")) := He.glo_ok X G (c.d.fact 28 (f := .glo "_law_told") rfl)
  obtain ⟨fd_law_is_bound, Fd_law_is_bound⟩ := c.d.def_ 14 (d := D_law_is_bound) rfl
  have gl_law_is_bound : mg "_law_is_bound" = some (.ref (He.ga K "_law_is_bound")) := He.glo_ok X G (c.d.fact 29 (f := .glo "_law_is_bound") rfl)
  obtain ⟨fd_law_due, Fd_law_due⟩ := c.d.def_ 15 (d := D_law_due) rfl
  have gl_law_due : mg "_law_due" = some (.ref (He.ga K "_law_due")) := He.glo_ok X G (c.d.fact 30 (f := .glo "_law_due") rfl)
  obtain ⟨fd_law, Fd_law⟩ := c.d.def_ 16 (d := D_law) rfl
  have gl_law : mg "law" = some (.ref (He.ga K "law")) := He.glo_ok X G (c.d.fact 31 (f := .glo "law") rfl)
  have e := hfa.symm.trans gl_law
  cases e
  have b := FunD.bindsA (ps := ["_law_script"]) Fd_law fun _ _ _ _ _ _ us hl => match us, hl with | [_], _ => rfl
  refine ⟨fd_law, tf.map (He.cT K), fun p hp => ?_, fun p hp => ?_, fun p hp => ?_, fun s v => b s [v] rfl, fun base _ _ hTB => ?_⟩
  · obtain ⟨q, hq, rfl⟩ := List.mem_map.mp hp
    exact cY.empty q hq
  · obtain ⟨q, hq, rfl⟩ := List.mem_map.mp hp
    exact cY.out q hq
  · obtain ⟨q, hq, rfl⟩ := List.mem_map.mp hp
    exact PySem.W.codeHd_of_K X (cY.hd q hq)
  show FnG _ _ _ _ _ _ _ _ _ _ (spT K ((tbOf K).tabs.map Prod.fst) 63)
  refine law_ok (ca := He.ga K) (Tb := tbOf K) (B := B_law) (np := 1) (N := 12) (fun sa sn => ?_) rfl law_true
  have x_NoStretch : ExL (PySem.Challenge.rw_foundaswritten_k05_stretches).prog mg base (gm K w (He.ga K) (tbOf K) sa sn) "NoStretch" ["start", "stop"] 1 := xn2L (d := X_NoStretch) (slf := "self") (v1 := "start") (f1 := "start") (v2 := "stop") (f2 := "stop") (c.more 0 (f := exLB R.prog.main.file "NoStretch") rfl) (cZ.at_ 0 (d := X_NoStretch) rfl) gl_NoStretch m_super (noB_ok (c.more 1 (f := noB "NoStretch" "start") rfl)) (noB_ok (c.more 2 (f := noB "NoStretch" "stop") rfl)) rfl ⟨_, rfl, rfl⟩ rfl rfl rfl rfl (NdefX.nscope_by (by decide +kernel)) (fun _ _ _ _ => ⟨_, rfl⟩) (fun _ _ _ _ => rfl) (fun _ _ _ _ => rfl) (fun _ _ _ _ => rfl) (fun _ _ _ _ => rfl) (fun _ _ _ _ _ _ _ us hl => match us, hl with | [_, _, _], _ => rfl)
  have cat_NoStretch_NoStretch : CatD mg (gm K w (He.ga K) (tbOf K) sa sn) "NoStretch" "NoStretch" true := catB_ok gl_NoStretch (c.more 3 (f := catB "NoStretch" "NoStretch" true) rfl)
  have xi_NoStretch_FoundError : IsD mg (gm K w (He.ga K) (tbOf K) sa sn) "NoStretch" "FoundError" false := isXB_ok gl_FoundError (c.more 4 (f := isXB "NoStretch" "FoundError" false) rfl)
  have xf_NoStretch_stop : XfD (gm K w (He.ga K) (tbOf K) sa sn) "NoStretch" "stop" := xfBx_ok (c.more 5 (f := xfBx "NoStretch" "stop") rfl)
  have xf_NoStretch_start : XfD (gm K w (He.ga K) (tbOf K) sa sn) "NoStretch" "start" := xfBx_ok (c.more 7 (f := xfBx "NoStretch" "start") rfl)
  have q_law_bag : FnG (PySem.Challenge.rw_foundaswritten_k05_stretches).prog w K mg base (L2.CX (PySem.Challenge.rw_foundaswritten_k05_stretches).prog w) 1 _ fd_law_bag ["_law_script", "_law_k"] (spV (gm K w (He.ga K) (tbOf K) sa sn) 2 F_law_bag) := o_law_bag Fd_law_bag m_len m_int
  have d_law_bag : Df (PySem.Challenge.rw_foundaswritten_k05_stretches).prog mg base (gm K w (He.ga K) (tbOf K) sa sn) "_law_bag" [] 1 F_law_bag := ⟨_, fk_of' (g := (gm K w (He.ga K) (tbOf K) sa sn)) q_law_bag ⟨[], .nil, Fd_law_bag.bindsN fun _ _ _ _ _ _ us hl => match us, hl with | [_, _], _ => rfl⟩, gl_law_bag, Fd_law_bag.kp⟩
  have q_law_draw : FnG (PySem.Challenge.rw_foundaswritten_k05_stretches).prog w K mg base (L2.CX (PySem.Challenge.rw_foundaswritten_k05_stretches).prog w) 1 _ fd_law_draw ["_law_bag_here", "_law_many"] (spV (gm K w (He.ga K) (tbOf K) sa sn) 2 F_law_draw) := o_law_draw Fd_law_draw m_int
  have d_law_draw : Df (PySem.Challenge.rw_foundaswritten_k05_stretches).prog mg base (gm K w (He.ga K) (tbOf K) sa sn) "_law_draw" [] 1 F_law_draw := ⟨_, fk_of' (g := (gm K w (He.ga K) (tbOf K) sa sn)) q_law_draw ⟨[], .nil, Fd_law_draw.bindsN fun _ _ _ _ _ _ us hl => match us, hl with | [_, _], _ => rfl⟩, gl_law_draw, Fd_law_draw.kp⟩
  have q_law_string : FnG (PySem.Challenge.rw_foundaswritten_k05_stretches).prog w K mg base (L2.CX (PySem.Challenge.rw_foundaswritten_k05_stretches).prog w) 2 _ fd_law_string ["_law_bag_here", "_law_signs_here", "_law_least", "_law_most"] (spV (gm K w (He.ga K) (tbOf K) sa sn) 4 F_law_string) := o_law_string Fd_law_string d_law_draw m_range m_len
  have d_law_string : Df (PySem.Challenge.rw_foundaswritten_k05_stretches).prog mg base (gm K w (He.ga K) (tbOf K) sa sn) "_law_string" [] 2 F_law_string := ⟨_, fk_of' (g := (gm K w (He.ga K) (tbOf K) sa sn)) q_law_string ⟨[], .nil, Fd_law_string.bindsN fun _ _ _ _ _ _ us hl => match us, hl with | [_, _, _, _], _ => rfl⟩, gl_law_string, Fd_law_string.kp⟩
  have q_law_characters : FnG (PySem.Challenge.rw_foundaswritten_k05_stretches).prog w K mg base (L2.CX (PySem.Challenge.rw_foundaswritten_k05_stretches).prog w) 1 _ fd_law_characters [] (spV (gm K w (He.ga K) (tbOf K) sa sn) 0 F_law_characters) := o_law_characters Fd_law_characters 
  have d_law_characters : Df (PySem.Challenge.rw_foundaswritten_k05_stretches).prog mg base (gm K w (He.ga K) (tbOf K) sa sn) "_law_characters" [] 1 F_law_characters := ⟨_, fk_of' (g := (gm K w (He.ga K) (tbOf K) sa sn)) q_law_characters ⟨[], .nil, Fd_law_characters.bindsN fun _ _ _ _ _ _ us hl => match us, hl with | [], _ => rfl⟩, gl_law_characters, Fd_law_characters.kp⟩
  have q_law_letters : FnG (PySem.Challenge.rw_foundaswritten_k05_stretches).prog w K mg base (L2.CX (PySem.Challenge.rw_foundaswritten_k05_stretches).prog w) 3 _ fd_law_letters ["_law_bag_here"] (spV (gm K w (He.ga K) (tbOf K) sa sn) 1 F_law_letters) := o_law_letters Fd_law_letters d_law_string d_law_characters m_list m_set m_sorted
  have d_law_letters : Df (PySem.Challenge.rw_foundaswritten_k05_stretches).prog mg base (gm K w (He.ga K) (tbOf K) sa sn) "_law_letters" [] 3 F_law_letters := ⟨_, fk_of' (g := (gm K w (He.ga K) (tbOf K) sa sn)) q_law_letters ⟨[], .nil, Fd_law_letters.bindsN fun _ _ _ _ _ _ us hl => match us, hl with | [_], _ => rfl⟩, gl_law_letters, Fd_law_letters.kp⟩
  have q_law_items : FnG (PySem.Challenge.rw_foundaswritten_k05_stretches).prog w K mg base (L2.CX (PySem.Challenge.rw_foundaswritten_k05_stretches).prog w) 3 _ fd_law_items ["_law_bag_here", "_law_letters_here", "_law_most", "_law_longest"] (spV (gm K w (He.ga K) (tbOf K) sa sn) 4 F_law_items) := o_law_items Fd_law_items m_range d_law_draw d_law_string
  have d_law_items : Df (PySem.Challenge.rw_foundaswritten_k05_stretches).prog mg base (gm K w (He.ga K) (tbOf K) sa sn) "_law_items" [] 3 F_law_items := ⟨_, fk_of' (g := (gm K w (He.ga K) (tbOf K) sa sn)) q_law_items ⟨[], .nil, Fd_law_items.bindsN fun _ _ _ _ _ _ us hl => match us, hl with | [_, _, _, _], _ => rfl⟩, gl_law_items, Fd_law_items.kp⟩
  have q_law_signs : FnG (PySem.Challenge.rw_foundaswritten_k05_stretches).prog w K mg base (L2.CX (PySem.Challenge.rw_foundaswritten_k05_stretches).prog w) 1 _ fd_law_signs [] (spV (gm K w (He.ga K) (tbOf K) sa sn) 0 F_law_signs) := o_law_signs Fd_law_signs 
  have d_law_signs : Df (PySem.Challenge.rw_foundaswritten_k05_stretches).prog mg base (gm K w (He.ga K) (tbOf K) sa sn) "_law_signs" [] 1 F_law_signs := ⟨_, fk_of' (g := (gm K w (He.ga K) (tbOf K) sa sn)) q_law_signs ⟨[], .nil, Fd_law_signs.bindsN fun _ _ _ _ _ _ us hl => match us, hl with | [], _ => rfl⟩, gl_law_signs, Fd_law_signs.kp⟩
  have q_law_written : FnG (PySem.Challenge.rw_foundaswritten_k05_stretches).prog w K mg base (L2.CX (PySem.Challenge.rw_foundaswritten_k05_stretches).prog w) 3 _ fd_law_written ["_law_bag_here", "_law_letters_here", "_law_items_here"] (spV (gm K w (He.ga K) (tbOf K) sa sn) 3 F_law_written) := o_law_written Fd_law_written d_law_signs d_law_string m_enumerate m_int
  have d_law_written : Df (PySem.Challenge.rw_foundaswritten_k05_stretches).prog mg base (gm K w (He.ga K) (tbOf K) sa sn) "_law_written" [] 3 F_law_written := ⟨_, fk_of' (g := (gm K w (He.ga K) (tbOf K) sa sn)) q_law_written ⟨[], .nil, Fd_law_written.bindsN fun _ _ _ _ _ _ us hl => match us, hl with | [_, _, _], _ => rfl⟩, gl_law_written, Fd_law_written.kp⟩
  have d_law_value_0 : Df (PySem.Challenge.rw_foundaswritten_k05_stretches).prog mg base (gm K w (He.ga K) (tbOf K) sa sn) "_law_value" [] 0 (R_law_value 0) := df_no gl_law_value Fd_law_value.kp
  have q_law_value : FnG (PySem.Challenge.rw_foundaswritten_k05_stretches).prog w K mg base (L2.CX (PySem.Challenge.rw_foundaswritten_k05_stretches).prog w) 3 _ fd_law_value ["_law_bag_here", "_law_depth"] (spV (gm K w (He.ga K) (tbOf K) sa sn) 2 (fnF 2 7 (B_law_value (R_law_value 0)))) := o_law_value Fd_law_value d_law_value_0 d_law_draw m_int d_law_string d_law_signs m_range m_tuple
  have d_law_value_1 : Df (PySem.Challenge.rw_foundaswritten_k05_stretches).prog mg base (gm K w (He.ga K) (tbOf K) sa sn) "_law_value" [] 3 (R_law_value 1) := ⟨_, fk_of' (g := (gm K w (He.ga K) (tbOf K) sa sn)) q_law_value ⟨[], .nil, Fd_law_value.bindsN fun _ _ _ _ _ _ us hl => match us, hl with | [_, _], _ => rfl⟩, gl_law_value, Fd_law_value.kp⟩
  have q_law_value : FnG (PySem.Challenge.rw_foundaswritten_k05_stretches).prog w K mg base (L2.CX (PySem.Challenge.rw_foundaswritten_k05_stretches).prog w) 4 _ fd_law_value ["_law_bag_here", "_law_depth"] (spV (gm K w (He.ga K) (tbOf K) sa sn) 2 (fnF 2 7 (B_law_value (R_law_value 1)))) := o_law_value Fd_law_value d_law_value_1 d_law_draw m_int d_law_string d_law_signs m_range m_tuple
  have d_law_value : Df (PySem.Challenge.rw_foundaswritten_k05_stretches).prog mg base (gm K w (He.ga K) (tbOf K) sa sn) "_law_value" [] 4 (F_law_value) := ⟨_, fk_of' (g := (gm K w (He.ga K) (tbOf K) sa sn)) q_law_value ⟨[], .nil, Fd_law_value.bindsN fun _ _ _ _ _ _ us hl => match us, hl with | [_, _], _ => rfl⟩, gl_law_value, Fd_law_value.kp⟩
  have q_law_bound : FnG (PySem.Challenge.rw_foundaswritten_k05_stretches).prog w K mg base (L2.CX (PySem.Challenge.rw_foundaswritten_k05_stretches).prog w) 5 _ fd_law_bound ["_law_bag_here", "_law_many"] (spV (gm K w (He.ga K) (tbOf K) sa sn) 2 F_law_bound) := o_law_bound Fd_law_bound d_law_draw d_law_value
  have d_law_bound : Df (PySem.Challenge.rw_foundaswritten_k05_stretches).prog mg base (gm K w (He.ga K) (tbOf K) sa sn) "_law_bound" [] 5 F_law_bound := ⟨_, fk_of' (g := (gm K w (He.ga K) (tbOf K) sa sn)) q_law_bound ⟨[], .nil, Fd_law_bound.bindsN fun _ _ _ _ _ _ us hl => match us, hl with | [_, _], _ => rfl⟩, gl_law_bound, Fd_law_bound.kp⟩
  have q_items_of : FnG (PySem.Challenge.rw_foundaswritten_k05_stretches).prog w K mg base (L2.CX (PySem.Challenge.rw_foundaswritten_k05_stretches).prog w) 1 _ fd_items_of ["text", "letters"] (spV (gm K w (He.ga K) (tbOf K) sa sn) 2 F_items_of) := o_items_of Fd_items_of g_DIGITS
  have d_items_of : Df (PySem.Challenge.rw_foundaswritten_k05_stretches).prog mg base (gm K w (He.ga K) (tbOf K) sa sn) "items_of" [] 1 F_items_of := ⟨_, fk_of' (g := (gm K w (He.ga K) (tbOf K) sa sn)) q_items_of ⟨[], .nil, Fd_items_of.bindsN fun _ _ _ _ _ _ us hl => match us, hl with | [_, _], _ => rfl⟩, gl_items_of, Fd_items_of.kp⟩
  have q_is_integer : FnG (PySem.Challenge.rw_foundaswritten_k05_stretches).prog w K mg base (L2.CX (PySem.Challenge.rw_foundaswritten_k05_stretches).prog w) 1 _ fd_is_integer ["value", "low", "high"] (spV (gm K w (He.ga K) (tbOf K) sa sn) 3 F_is_integer) := o_is_integer Fd_is_integer m_bool m_isinstance m_int
  have d_is_integer : Df (PySem.Challenge.rw_foundaswritten_k05_stretches).prog mg base (gm K w (He.ga K) (tbOf K) sa sn) "is_integer" [] 1 F_is_integer := ⟨_, fk_of' (g := (gm K w (He.ga K) (tbOf K) sa sn)) q_is_integer ⟨[], .nil, Fd_is_integer.bindsN fun _ _ _ _ _ _ us hl => match us, hl with | [_, _, _], _ => rfl⟩, gl_is_integer, Fd_is_integer.kp⟩
  have q_stretch_of : FnG (PySem.Challenge.rw_foundaswritten_k05_stretches).prog w K mg base (L2.CX (PySem.Challenge.rw_foundaswritten_k05_stretches).prog w) 3 _ fd_stretch_of ["text", "letters", "start", "stop"] (spV (gm K w (He.ga K) (tbOf K) sa sn) 4 F_stretch_of) := o_stretch_of Fd_stretch_of d_items_of d_is_integer m_len x_NoStretch
  have d_stretch_of : Df (PySem.Challenge.rw_foundaswritten_k05_stretches).prog mg base (gm K w (He.ga K) (tbOf K) sa sn) "stretch_of" [] 3 F_stretch_of := ⟨_, fk_of' (g := (gm K w (He.ga K) (tbOf K) sa sn)) q_stretch_of ⟨[], .nil, Fd_stretch_of.bindsN fun _ _ _ _ _ _ us hl => match us, hl with | [_, _, _, _], _ => rfl⟩, gl_stretch_of, Fd_stretch_of.kp⟩
  have q_law_told : FnG (PySem.Challenge.rw_foundaswritten_k05_stretches).prog w K mg base (L2.CX (PySem.Challenge.rw_foundaswritten_k05_stretches).prog w) 4 _ fd_law_told ["_law_text", "_law_letters_here", "_law_start", "_law_stop"] (spV (gm K w (He.ga K) (tbOf K) sa sn) 4 F_law_told) := o_law_told Fd_law_told cat_NoStretch_NoStretch xi_NoStretch_FoundError m_isinstance xf_NoStretch_stop sy m_repr xf_NoStretch_start d_stretch_of
  have d_law_told : Df (PySem.Challenge.rw_foundaswritten_k05_stretches).prog mg base (gm K w (He.ga K) (tbOf K) sa sn) "_law_told" [] 4 F_law_told := ⟨_, fk_of' (g := (gm K w (He.ga K) (tbOf K) sa sn)) q_law_told ⟨[], .nil, Fd_law_told.bindsN fun _ _ _ _ _ _ us hl => match us, hl with | [_, _, _, _], _ => rfl⟩, gl_law_told, Fd_law_told.kp⟩
  have q_law_is_bound : FnG (PySem.Challenge.rw_foundaswritten_k05_stretches).prog w K mg base (L2.CX (PySem.Challenge.rw_foundaswritten_k05_stretches).prog w) 1 _ fd_law_is_bound ["_law_value_here", "_law_least", "_law_most"] (spV (gm K w (He.ga K) (tbOf K) sa sn) 3 F_law_is_bound) := o_law_is_bound Fd_law_is_bound m_bool m_isinstance m_int
  have d_law_is_bound : Df (PySem.Challenge.rw_foundaswritten_k05_stretches).prog mg base (gm K w (He.ga K) (tbOf K) sa sn) "_law_is_bound" [] 1 F_law_is_bound := ⟨_, fk_of' (g := (gm K w (He.ga K) (tbOf K) sa sn)) q_law_is_bound ⟨[], .nil, Fd_law_is_bound.bindsN fun _ _ _ _ _ _ us hl => match us, hl with | [_, _, _], _ => rfl⟩, gl_law_is_bound, Fd_law_is_bound.kp⟩
  have q_law_due : FnG (PySem.Challenge.rw_foundaswritten_k05_stretches).prog w K mg base (L2.CX (PySem.Challenge.rw_foundaswritten_k05_stretches).prog w) 2 _ fd_law_due ["_law_items_here", "_law_start", "_law_stop"] (spV (gm K w (He.ga K) (tbOf K) sa sn) 3 F_law_due) := o_law_due Fd_law_due d_law_is_bound m_len m_range sy m_repr
  have d_law_due : Df (PySem.Challenge.rw_foundaswritten_k05_stretches).prog mg base (gm K w (He.ga K) (tbOf K) sa sn) "_law_due" [] 2 F_law_due := ⟨_, fk_of' (g := (gm K w (He.ga K) (tbOf K) sa sn)) q_law_due ⟨[], .nil, Fd_law_due.bindsN fun _ _ _ _ _ _ us hl => match us, hl with | [_, _, _], _ => rfl⟩, gl_law_due, Fd_law_due.kp⟩
  exact o_law Fd_law d_law_bag d_law_draw d_law_letters d_law_items d_law_written m_len m_range d_law_bound d_law_told d_law_due d_items_of m_enumerate d_stretch_of
end La
open PySem PySem.W PySem.Calls PyProof.Rows
set_option maxRecDepth 100000 in
set_option maxHeartbeats 0 in
theorem PySem.Challenge.cw_foundaswritten_k05_stretches_holds : PySem.Challenge.rw_foundaswritten_k05_stretches.Holds := by
  w_on; o_law
  refine HandSHeadRun.head_any (r := OpenLaw.row PySem.Challenge.rw_foundaswritten_k05_stretches) (q := view (OpenLaw.row PySem.Challenge.rw_foundaswritten_k05_stretches).prog [22]) (H := La.hk) (ob := La.ob) (M := 8000) (loose := La.loose) (d := HandSHeadRun.topDef (OpenLaw.row PySem.Challenge.rw_foundaswritten_k05_stretches).prog 22) (kwd := []) La.ob_eq
    (by kernel_rfl) (fun s => by kernel_rfl) La.run (by kernel_rfl) (by kernel_rfl) (by kernel_rfl) (by rfl) (by first | assumption | decide +kernel) (by decide +kernel) ⟨rfl, rfl, rfl, rfl, rfl, by decide +kernel⟩ ?hw ?hc
  case hw => w_witness2
  case hc =>
    refine Vs.walk_g (l := PySem.Challenge.rw_foundaswritten_k05_stretches) (n := 63) (k := 6) (x := "_law_script") rfl (by decide) (by kernel_rfl) ⟨⟨rfl, by decide, by decide⟩, rfl⟩ ?F
    intro w mg fa h Y G hmg0
    obtain ⟨K, KX, c⟩ := Y
    have hmg : mg ("law" : PySem.Str) = some (.ref fa) := by
      have e : (HandSHeadRun.topDef (OpenLaw.row PySem.Challenge.rw_foundaswritten_k05_stretches).prog 22).name = ("law" : PySem.Str) := by kernel_rfl
      rw [← e]
      exact hmg0
    exact ⟨K, KX, La.facts KX G hmg c⟩
#print axioms PySem.Challenge.cw_foundaswritten_k05_stretches_holds
