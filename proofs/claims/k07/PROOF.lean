import PyProof.Rows.All
import Wide.All
import OpenK.AllK
import Wide.FinOn
import PyProof.Rows.SortShellAny
import HandS.ForMost
import HandS.Set
import HandS.SetFor
import HandS.ExcValue
import HandS.Wide
import HandS.IsInst
import HandS.Style
import HandS.Codes
import HandS.Defaults
import HandS.Walk
import PyProof.Draws
import HandS.Base
import HandS.Call
import HandS.List
import HandS.Iter
import HandS.Dict
import HandS.More
import HandS.Exc
import HandS.Slots
import HandS.Star
import HandS.ClsMeth
import HandS.MakeKw
import HandS.MakeKwOnly
import HandS.FStr
import HandS.Replace
import KE.KRevSl
import HandS.HeadHook1
import HandS.HeadHook2
import PySem.Challenge.RW_foundaswritten_k07_doubles_and_cut
import HandS.Head0
import HandS.Head1
import HandS.Head2
import HandS.HeadEnd
set_option Elab.async false
set_option linter.all false
set_option maxRecDepth 100000
set_option maxHeartbeats 2000000
/-! Sets of texts: add, set(x) of what is walked, the walk of a set, sorted(x). -/
namespace Fw
open PySem PySem.Spec PyProof.Rows L2

/-- the text of a set's entry -/
def nameT (e : Int × Value) : Str := match e.2 with
  | .str x _ => x
  | _ => Str.empty
def IsTx (w : World) (e : Int × Value) : Prop := ∃ x tk, e.2 = Value.str x tk ∧ e.1 = hashStr w x
/-- the set at a holds just the texts L (in its table's own order) -/
def TxSet (w : World) (h : Heap) (a : Addr) (L : List Str) : Prop :=
  ∃ o es ep t, h.get? a = some o ∧ o.ExactSet ∧ o.data = .set es ep t ∧ (∀ e ∈ es.toList, IsTx w e) ∧ es.toList.map nameT = L ∧ L.Nodup ∧
    L.length < scanBound ∧ t.fits es.size = true ∧ Ris t.place.toList ∧ (w.params.followText "set-order" = true ∨ t.led = true)

section
variable {P : Program} {w : World} {h h' : Heap} {a : Addr} {L : List Str}
theorem TxSet.at (R : TxSet w h a L) (k : ∀ o, h.get? a = some o → h'.get? a = some o) : TxSet w h' a L := by
  obtain ⟨o, es, ep, t, ho, r⟩ := R
  exact ⟨o, es, ep, t, k o ho, r⟩
theorem tx_elems {l : List (Int × Value)} (g : ∀ e ∈ l, IsTx w e) : ElemsOf (strKind P w) l := by
  intro e he
  obtain ⟨x, tk, e2, e1⟩ := g e he
  refine ⟨⟨x, ?_, e1⟩, ?_⟩
  · rw [e2]; exact strKind_is P w x tk
  · rw [e2]; rfl
theorem tx_is {e : Int × Value} (g : IsTx w e) (k : Str) : (strKind P w).is k e.2 = true ↔ nameT e = k := by
  obtain ⟨x, tk, e2, _⟩ := g
  have hn : nameT e = x := by unfold nameT; rw [e2]
  rw [hn, e2]
  constructor
  · intro q
    obtain ⟨t, q2⟩ := Value.isStrOf_shape (x := k) (v := Value.str x tk) q
    injection q2
  · intro q; subst q; exact strKind_is P w x tk
theorem tx_mem {l : List (Int × Value)} (g : ∀ e ∈ l, IsTx w e) (k : Str) : k ∈ l.map nameT ↔ ∃ e ∈ l, (strKind P w).is k e.2 = true := by
  constructor
  · intro q
    obtain ⟨e, he, q2⟩ := List.mem_map.mp q
    exact ⟨e, he, (tx_is (g e he) k).mpr q2⟩
  · rintro ⟨e, he, q⟩
    exact List.mem_map.mpr ⟨e, he, (tx_is (g e he) k).mp q⟩
theorem stored_at {o : Obj} {es es' : Array (Int × Value)} {ep : Nat} {t t' : SetTable} (ho : h.get? a = some o) (hd : o.data = .set es ep t) :
    (h.update a (Obj.putSet es' t')).get? a = some { o with data := .set es' (ep + 1) t' } := L2.store_at ho hd
theorem freshTx {h : Heap} (w : World) {a : Addr} (ho : h.get? a = some { cls := .type "set", dict := none, data := .set #[] 0 (.fresh 0 0 (!w.params.followText "set-order")) }) : TxSet w h a [] := by
  refine ⟨_, #[], 0, _, ho, ⟨rfl, rfl, rfl⟩, rfl, ?_, rfl, List.nodup_nil, by decide, rfl, List.Pairwise.nil, ?_⟩
  · intro e he; simp at he
  · cases q : w.params.followText "set-order" with
    | true => exact .inl rfl
    | false => exact .inr rfl
end

section
variable {P : Program} {w : World} {A : Around} {E : Value → Shared → Prop} {s : Shared} {a : Addr} {L : List Str}
/-- behind a new entry: the table is stored, and laid anew if it is too full -/
theorem tx_tail {g : Bool → Sem Unit} (hg : ∀ (b : Bool) (s1 : Shared) (Q' : Unit → Shared → Prop), Q' () s1 → wpAny (model P w) A (g b) Q' E s1)
    {o : Obj} {es : Array (Int × Value)} {ep : Nat} {t : SetTable} (ho : s.heap.get? a = some o) (hex : o.ExactSet) (hd : o.data = .set es ep t)
    {es1 : Array (Int × Value)} {t2 : SetTable} (g1 : ∀ e ∈ es1.toList, IsTx w e) (nd1 : (es1.toList.map nameT).Nodup) (hb1 : es1.size < scanBound) (hf2 : t2.fits es1.size = true)
    (hr : Ris t2.place.toList) (hl : w.params.followText "set-order" = true ∨ t2.led = true) {wd : Bool} {R : Option Bool → Shared → Prop}
    (hR : ∀ h' L', Heap.SameBut a s.heap h' → L'.Perm (es1.toList.map nameT) → TxSet w h' a L' → R (some true) { s with heap := h' }) :
    wpAny (model P w) A (storeSet a es1 t2 >>= fun _ => if (!wd && t2.tooFull) = true then
        (g (relayAll t2 es1 (SetTable.grown es1.size)).2.2 >>= fun _ =>
          storeSet a (relayAll t2 es1 (SetTable.grown es1.size)).1 (relayAll t2 es1 (SetTable.grown es1.size)).2.1 >>= fun _ => pure (some true))
      else pure (some true)) R E s := by
  have len1 : (es1.toList.map nameT).length = es1.size := by simp
  refine wpAny_bind (wpAny_storeSet_of ho hd ?_ (fits_of_scanBound hb1))
  have ho1 := stored_at (es' := es1) (t' := t2) ho hd
  have sb1 := Heap.SameBut.update s.heap a (Obj.putSet es1 t2)
  by_cases full : (!wd && t2.tooFull) = true
  · rw [if_pos full]
    have pm := relayAll_perm t2 es1 (SetTable.grown es1.size)
    have f3 := relayAll_fits t2 es1 (SetTable.grown es1.size)
    have r3 := relayAll_ris t2 es1 (SetTable.grown es1.size)
    have l3 := relayAll_led t2 es1 (SetTable.grown es1.size)
    generalize relayAll t2 es1 (SetTable.grown es1.size) = Z at pm f3 r3 l3 ⊢
    obtain ⟨es2, t3, gave⟩ := Z
    dsimp only at pm f3 r3 l3 ⊢
    have len2 : es2.size = es1.size := by
      have q := pm.length_eq
      rw [Array.length_toList, Array.length_toList] at q
      exact q
    refine wpAny_bind (hg _ _ _ (wpAny_bind (wpAny_storeSet_of ho1 rfl (wpAny_pure ?_) (fits_of_scanBound (by rw [len2]; exact hb1)))))
    have ho2 := stored_at (es' := es2) (t' := t3) ho1 rfl
    have pn := pm.map nameT
    refine hR _ (es2.toList.map nameT) (sb1.trans (Heap.SameBut.update _ a _)) pn ⟨_, es2, _, t3, ho2, hex, rfl, fun e he => g1 e (pm.mem_iff.mp he), rfl, pn.nodup_iff.mpr nd1, ?_, f3, r3, ?_⟩
    · rw [pn.length_eq, len1]; exact hb1
    · rcases hl with z | z
      · exact .inl z
      · exact .inr (by rw [l3]; exact z)
  · rw [if_neg full]
    exact wpAny_pure (hR _ _ sb1 (List.Perm.refl _) ⟨_, es1, _, t2, ho1, hex, rfl, g1, rfl, nd1, by rw [len1]; exact hb1, hf2, hr, hl⟩)

theorem tx_add {k : Str} {tk : Tok} {Q : Bool → Shared → Prop} (R : TxSet w s.heap a L) (room : L.length + 1 < scanBound)
    (hQ : ∀ b h' L', Heap.SameBut a s.heap h' → TxSet w h' a L' → (k ∈ L → L' = L) → (k ∉ L → L'.Perm (k :: L)) → Q b { s with heap := h' }) :
    wpAny (model P w) A (setAddHashed a (.str k tk) (hashStr w k)) Q E s := by
  obtain ⟨o, es, ep, t, ho, hex, hd, g, eL, nd, hb, hf, hr, hl⟩ := R
  have lenL : L.length = es.size := by rw [← eL]; simp
  have hkey : (strKind P w).is k (.str k tk) = true := strKind_is P w k tk
  have hsc : (Value.str k tk).scannable = true := rfl
  have hel : ElemsOf (strKind P w) es.toList := tx_elems g
  have hb' : es.size < scanBound := by rw [← lenL]; exact hb
  show wpAny (model P w) A (setAddHashed a (.str k tk) ((strKind P w).hash k)) Q E s
  unfold setAddHashed setAddHashedIn
  refine wpAny_holding (wpAny_bind (wpAny_setState_of ho hd hf ?_))
  dsimp only
  rw [byScan_of hsc hb' hel]
  simp only [↓reduceIte]
  unfold setAddByScan
  refine wpAny_bind (wpAny_bind (wpAny_rule (wpAny_bind (wpAny_setScan_of hkey ho hd hf hel ?_))))
  cases hfi : List.findIdx? (fun e => (strKind P w).is k e.2) es.toList with
  | some j =>
    dsimp only
    obtain ⟨hj, pj, _⟩ := List.findIdx?_eq_some_iff_getElem.mp hfi
    have inL : k ∈ L := by
      rw [← eL]
      exact (tx_mem (P := P) g k).mpr ⟨_, List.getElem_mem hj, pj⟩
    exact wpAny_pure (wpAny_pure (hQ _ s.heap L (Heap.SameBut.refl a s.heap) ⟨o, es, ep, t, ho, hex, hd, g, eL, nd, hb, hf, hr, hl⟩ (fun _ => rfl) fun n => absurd inL n))
  | none =>
    dsimp only
    have notL : k ∉ L := by
      rw [← eL]
      intro z
      obtain ⟨e, he, q⟩ := (tx_mem (P := P) g k).mp z
      have c := List.findIdx?_eq_none_iff.mp hfi e he
      rw [q] at c
      cases c
    have calm : ∀ (b : Bool) (s1 : Shared) (Q' : Unit → Shared → Prop), Q' () s1 → wpAny (model P w) A (match b with | true => rule "set.scan.the-table-gave-way" | false => pure ()) Q' E s1 := by
      intro b s1 Q' q
      cases b
      · exact wpAny_pure q
      · exact wpAny_rule q
    have pm := layNew_perm t es ((strKind P w).hash k) (.str k tk)
    have f1 := layNew_fits t es ((strKind P w).hash k) (.str k tk)
    have r1 := layNew_ris t es ((strKind P w).hash k) (.str k tk) hr
    have l1 := layNew_led t es ((strKind P w).hash k) (.str k tk)
    generalize layNew t es ((strKind P w).hash k) (.str k tk) = Z at pm f1 r1 l1 ⊢
    obtain ⟨es1, t1, wd, gave⟩ := Z
    dsimp only at pm f1 r1 l1 ⊢
    have pc : es1.toList.Perm (((strKind P w).hash k, Value.str k tk) :: es.toList) := by
      rw [Array.toList_push] at pm
      exact pm.trans (List.perm_append_singleton _ _)
    have pk : (es1.toList.map nameT).Perm (k :: L) := by
      have q := pc.map nameT
      rw [List.map_cons, eL] at q
      exact q
    have g1 : ∀ e ∈ es1.toList, IsTx w e := by
      intro e he
      rcases List.mem_cons.mp (pc.mem_iff.mp he) with z | z
      · rw [z]; exact ⟨k, tk, rfl, rfl⟩
      · exact g e z
    have nd1 : (es1.toList.map nameT).Nodup := pk.nodup_iff.mpr (List.nodup_cons.mpr ⟨notL, nd⟩)
    have b1 : es1.size < scanBound := by
      have q := pk.length_eq
      rw [List.length_map, Array.length_toList, List.length_cons] at q
      omega
    have led1 : w.params.followText "set-order" = true ∨ t1.led = true := by
      rcases hl with z | z
      · exact .inl z
      · exact .inr (by rw [l1]; exact z)
    have fin : ∀ h' L', Heap.SameBut a s.heap h' → L'.Perm (es1.toList.map nameT) → TxSet w h' a L' → Q true { s with heap := h' } := fun h' L' sb pp r =>
      hQ _ h' L' sb r (fun z => absurd z notL) fun _ => pp.trans pk
    refine wpAny_bind (calm _ _ _ ?_)
    split
    · refine wpAny_bind ?_
      rw [hashByValue_scannable 8 hsc]
      refine wpAny_pure ?_
      refine tx_tail ?_ ho hex hd g1 nd1 b1 ?_ ?_ ?_ ?_
      · intro b s1 Q' q; cases b <;> first | exact wpAny_pure q | exact wpAny_rule q
      · first | (split <;> first | exact f1 | exact SetTable.fits_plain_off f1) | exact f1
      · first | (split <;> exact r1) | exact r1
      · first | (split <;> exact led1) | exact led1
      · intro h' L' sb pp r; dsimp only; exact wpAny_pure (fin h' L' sb pp r)
    · refine wpAny_bind (wpAny_pure ?_)
      simp only [↓reduceIte]
      refine tx_tail ?_ ho hex hd g1 nd1 b1 f1 r1 led1 ?_
      · intro b s1 Q' q; cases b <;> first | exact wpAny_pure q | exact wpAny_rule q
      · intro h' L' sb pp r; dsimp only; exact wpAny_pure (fin h' L' sb pp r)
end
end Fw
namespace Fw
open PySem PySem.Spec PyProof.Rows L2
section
variable {P : Program} {w : World}
/-- v is walked text by text: xs; h0 is the heap in which that is known -/
def Src (P : Program) (w : World) (h0 : Heap) (v : Value) (xs : List Str) : Prop :=
  ∀ (A : Around) (E : Value → Shared → Prop) (Q : Value → Shared → Prop) (s : Shared), (∀ b o, h0.get? b = some o → s.heap.get? b = some o) →
    (∀ (I : Addr) (s2 : Shared) (fp : List Addr) (Pv : Nat → Value → Prop) (St : Nat → Heap → Prop), (∀ b o, s.heap.get? b = some o → s2.heap.get? b = some o) → s2.gens = s.gens → s2.os = s.os →
      s2.drawn = s.drawn → s2.toks = s.toks → s.heap.objs.size ≤ I → (∀ b ∈ fp, b < h0.objs.size ∨ s.heap.objs.size ≤ b) →
      (∀ A' : Around, A'.handled = none → Walks P w A' I fp [I] xs.length Pv St) → (∀ i u, Pv i u → ∃ tk, u = .str (xs.getD i Str.empty) tk) → St 0 s2.heap → Q (.ref I) s2) →
    wpAny (model P w) A (pyIter v) Q E s
theorem StrsAt.at_ : ∀ {us : List Value} {xs : List Str}, StrsAre us xs → ∀ (i : Nat) (v : Value), us[i]? = some v → ∃ tk, v = .str (xs.getD i Str.empty) tk
  | _, _, .nil, i, v, e => by simp at e
  | _, _, .cons x t r, 0, v, e => by
    simp at e
    exact ⟨t, by rw [← e]; rfl⟩
  | _, _, .cons x t r, i + 1, v, e => by
    obtain ⟨tk, q⟩ := StrsAt.at_ r i v (by simpa using e)
    exact ⟨tk, by rw [q]; simp⟩
theorem strs_at' {us : List Value} {xs : List Str} (h : StrsAre us xs) (i : Nat) (v : Value) (e : us[i]? = some v) : ∃ tk, v = .str (xs.getD i Str.empty) tk := StrsAt.at_ h i v e
theorem src_list {h0 : Heap} {l : Addr} {us : List Value} {xs : List Str} (hl : h0.IsList l us.toArray) (hx : StrsAre us xs) : Src P w h0 (.ref l) xs := by
  intro A E Q s k hQ
  have hl1 : s.heap.IsList l us.toArray := hl.at fun o e => k l o e
  have lt0 : l < h0.objs.size := by
    obtain ⟨o, ho, _⟩ := hl
    exact Heap.lt_size ho
  have lt1 : l < s.heap.objs.size := by
    obtain ⟨o, ho, _⟩ := hl1
    exact Heap.lt_size ho
  have hlen : us.toArray.size = xs.length := by
    rw [← StrsAre.length hx]
    simp
  refine wpAny_pyIter_list hl1 (hQ _ _ [s.heap.objs.size, l] (fun i v => us.toArray[i]? = some v) (fun i h => h.IsListIter s.heap.objs.size l i ∧ h.IsList l us.toArray) (fun b o e => Heap.get?_push_of_some _ e) rfl rfl rfl rfl (Nat.le_refl _) ?_ ?_ ?_ ?_)
  · intro b hb
    rcases List.mem_cons.mp hb with z | z
    · exact .inr (Nat.le_of_eq z.symm)
    · exact .inl (by rw [List.mem_singleton.mp z]; exact lt0)
  · intro A' hA'
    rw [← hlen]
    exact Walks.list hA' _ l (Nat.ne_of_lt lt1) us.toArray
  · intro i u e
    exact strs_at' hx i u (by simpa using e)
  · exact ⟨⟨_, Heap.get?_push_size _ rfl, rfl, rfl⟩, hl1.push _⟩
theorem src_tuple {h0 : Heap} {l : Addr} {us : List Value} {xs : List Str} (hl : h0.IsTuple l us.toArray) (hx : StrsAre us xs) : Src P w h0 (.ref l) xs := by
  intro A E Q s k hQ
  have hl1 : s.heap.IsTuple l us.toArray := hl.at fun o e => k l o e
  have lt0 : l < h0.objs.size := by
    obtain ⟨o, ho, _⟩ := hl
    exact Heap.lt_size ho
  have lt1 : l < s.heap.objs.size := by
    obtain ⟨o, ho, _⟩ := hl1
    exact Heap.lt_size ho
  have hlen : us.toArray.size = xs.length := by
    rw [← StrsAre.length hx]
    simp
  refine wpAny_pyIter_tuple hl1 (hQ _ _ [s.heap.objs.size, l] (fun i v => us.toArray[i]? = some v) (fun i h => h.IsTupleIter s.heap.objs.size l i ∧ h.IsTuple l us.toArray) (fun b o e => Heap.get?_push_of_some _ e) rfl rfl rfl rfl (Nat.le_refl _) ?_ ?_ ?_ ?_)
  · intro b hb
    rcases List.mem_cons.mp hb with z | z
    · exact .inr (Nat.le_of_eq z.symm)
    · exact .inl (by rw [List.mem_singleton.mp z]; exact lt0)
  · intro A' hA'
    rw [← hlen]
    exact Walks.tuple hA' _ l (Nat.ne_of_lt lt1) us.toArray
  · intro i u e
    exact strs_at' hx i u (by simpa using e)
  · exact ⟨⟨_, Heap.get?_push_size _ rfl, rfl, rfl⟩, hl1.at fun o e => Heap.get?_push_of_some _ e⟩
/-- a text's signs as texts of one sign -/
def signsOf (x : Str) : List Str := x.cps.toList.map fun c => ⟨#[c]⟩
theorem src_text {h0 : Heap} {x : Str} {t : Tok} : Src P w h0 (.str x t) (signsOf x) := by
  intro A E Q s k hQ
  have hlen : (signsOf x).length = x.cps.size := by simp [signsOf]
  have sg : ∀ i u, SignAt x i u → ∃ tk, u = .str ((signsOf x).getD i Str.empty) tk := by
    intro i u e
    obtain ⟨c, tk, hc, rfl⟩ := e
    refine ⟨tk, ?_⟩
    have q : (signsOf x)[i]? = some ⟨#[c]⟩ := by
      unfold signsOf
      rw [List.getElem?_map, Array.getElem?_toList, hc]
      rfl
    rw [List.getD_eq_getElem?_getD, q]
    rfl
  refine wpAny_pyIter_strU ?_
  by_cases ha : x.cps.all (· < 128) = true
  · have et : strIterType x = "str_ascii_iterator" := by unfold strIterType; rw [if_pos ha]
    rw [et]
    refine hQ _ _ [s.heap.objs.size] (SignAt x) (fun i h => h.IsStrIter s.heap.objs.size "str_ascii_iterator" x t i) (fun b o e => Heap.get?_push_of_some _ e) rfl rfl rfl rfl (Nat.le_refl _) ?_ ?_ sg ?_
    · intro b hb
      exact .inr (Nat.le_of_eq (List.mem_singleton.mp hb).symm)
    · intro A' hA'
      rw [hlen]
      exact Walks.strAscii hA' _ x t
    · exact ⟨_, Heap.get?_push_size _ rfl, rfl, rfl⟩
  · have et : strIterType x = "str_iterator" := by unfold strIterType; rw [if_neg ha]
    rw [et]
    refine hQ _ _ [s.heap.objs.size] (SignAt x) (fun i h => h.IsStrIter s.heap.objs.size "str_iterator" x t i) (fun b o e => Heap.get?_push_of_some _ e) rfl rfl rfl rfl (Nat.le_refl _) ?_ ?_ sg ?_
    · intro b hb
      exact .inr (Nat.le_of_eq (List.mem_singleton.mp hb).symm)
    · intro A' hA'
      rw [hlen]
      exact Walks.strWide hA' _ x t
    · exact ⟨_, Heap.get?_push_size _ rfl, rfl, rfl⟩
end
end Fw
namespace Fw
open PySem PySem.Spec PyProof.Rows L2
section
variable {P : Program} {w : World} {A : Around} {E : Value → Shared → Prop} {s : Shared}
theorem take_mem_succ {xs : List Str} {i : Nat} (hi : i < xs.length) (k : Str) : k ∈ xs.take (i + 1) ↔ k = xs.getD i Str.empty ∨ k ∈ xs.take i := by
  have e : xs[i]? = some (xs.getD i Str.empty) := by
    rw [List.getD_eq_getElem?_getD, List.getElem?_eq_getElem hi]
    rfl
  rw [List.take_add_one, e, List.mem_append]
  simp only [Option.toList_some, List.mem_singleton]
  exact Or.comm
/-- the loop that fills a set -/
theorem fill_loop {I : Addr} {fp : List Addr} {Pv : Nat → Value → Prop} {St : Nat → Heap → Prop} {R : Result → Shared → Prop} {xs : List Str}
    (W : Walks P w A.in1 I fp [I] xs.length Pv St) (S : Addr) (hSf : S ∉ fp) (hv : ∀ i u, Pv i u → ∃ tk, u = .str (xs.getD i Str.empty) tk) (hb : xs.length + 1 < scanBound) :
    ∀ (m i : Nat) (s : Shared) (L : List Str), xs.length - i = m → i ≤ xs.length → St i s.heap → TxSet w s.heap S L → (∀ k, k ∈ L ↔ k ∈ xs.take i) → L.length ≤ i →
      (∀ h' tk L', (∀ b o, b ≠ S → b ≠ I → s.heap.get? b = some o → h'.get? b = some o) → TxSet w h' S L' → (∀ k, k ∈ L' ↔ k ∈ xs) → R (.ok (.ret .none)) { s with heap := h', toks := tk }) →
      codeAny (model P w) A (.builtin "set.update.loop" ⟨[.ref S, .ref I], []⟩) R s := by
  have nSI : S ≠ I := fun z => hSf (W.sub _ (by rw [z]; exact List.mem_singleton_self I))
  intro m
  induction m with
  | zero =>
    intro i s L hm hi hst hS hL hn hR
    obtain rfl : i = xs.length := by omega
    refine codeAny_builtin F.entry_set_update_loop ?_
    rw [Around.under_plainId F.plain_set_update_loop _]
    show wpAny _ A.in1 (pyNext (.ref I) >>= _) _ _ s
    refine wpAny_bind (W.done s _ _ hst fun h' tk k => ?_)
    refine wpAny_pure (hR h' tk L (fun b o _ nI e => k b o (fun z => nI (List.mem_singleton.mp z)) e) (hS.at fun o e => k S o (fun z => nSI (List.mem_singleton.mp z)) e) fun x => ?_)
    rw [hL x, List.take_length]
  | succ m ih =>
    intro i s L hm hi hst hS hL hn hR
    have hlt : i < xs.length := by omega
    refine codeAny_builtin F.entry_set_update_loop ?_
    rw [Around.under_plainId F.plain_set_update_loop _]
    show wpAny _ A.in1 (pyNext (.ref I) >>= _) _ _ s
    refine wpAny_bind (W.item i s _ _ hlt hst fun v h1 tk1 hP hst1 k1 => ?_)
    obtain ⟨tk, rfl⟩ := hv i v hP
    have hS1 : TxSet w h1 S L := hS.at fun o e => k1 S o (fun z => nSI (List.mem_singleton.mp z)) e
    show wpAny _ A.in1 (holding [Value.str (xs.getD i Str.empty) tk] (setAdd S (.str (xs.getD i Str.empty) tk)) >>= _) _ _ _
    refine wpAny_bind (wpAny_holding ?_)
    unfold setAdd
    refine wpAny_holding (wpAny_bind ((strKind P w).pyHash (strKind_is P w _ tk) ?_))
    refine tx_add (s := { s with heap := h1, toks := tk1 + 1 }) hS1 (by omega) fun b h2 L2 sb hS2 c1 c2 => ?_
    have mem2 : ∀ k, k ∈ L2 ↔ k ∈ xs.take (i + 1) := by
      intro k
      rw [take_mem_succ hlt k, ← hL k]
      by_cases c : xs.getD i Str.empty ∈ L
      · rw [c1 c]
        exact ⟨.inr, fun z => z.elim (fun e => e ▸ c) id⟩
      · rw [(c2 c).mem_iff, List.mem_cons]
    have len2 : L2.length ≤ i + 1 := by
      by_cases c : xs.getD i Str.empty ∈ L
      · rw [c1 c]; omega
      · rw [(c2 c).length_eq, List.length_cons]; omega
    have st2 : St (i + 1) h2 := W.frame _ _ _ hst1 fun c hc o e => by
      rw [sb.2 c (fun z => hSf (z ▸ hc))]
      exact e
    refine wpAny_pure ⟨plainId_quiet F.plain_set_update_loop _, ih (i + 1) _ L2 (by omega) hlt st2 hS2 mem2 len2 fun h3 tk3 L3 k3 hS3 m3 => ?_⟩
    refine hR h3 tk3 L3 (fun c o nS nI e => k3 c o nS nI ?_) hS3 m3
    show h2.get? c = some o
    rw [sb.2 c nS]
    exact k1 c o (fun z => nI (List.mem_singleton.mp z)) e
/-- what set(v) asks of v's type -/
structure NoSet (P : Program) (w : World) (h0 : Heap) (v : Value) : Prop where
  set : ∀ (A : Around) (E : Value → Shared → Prop) (Q : Bool → Shared → Prop) (s : Shared), (∀ b o, h0.get? b = some o → s.heap.get? b = some o) → Q false s → wpAny (model P w) A (Builtin.Frozenset.isAnySet v) Q E s
  dict : ∀ (A : Around) (E : Value → Shared → Prop) (Q : Value → Shared → Prop) (s : Shared), (∀ b o, h0.get? b = some o → s.heap.get? b = some o) → (∀ T : Value, (T == .type "dict") = false → Q T s) → wpAny (model P w) A (typeOf v) Q E s
/-- what fills a new set -/
theorem upd_src {v : Value} {xs : List Str} {S : Addr} {h0 : Heap} {Q : Unit → Shared → Prop} (hh : A.handled = none) (ext : ∀ b o, h0.get? b = some o → s.heap.get? b = some o) (hsrc : Src P w h0 v xs) (hno : NoSet P w h0 v) (hb : xs.length + 1 < scanBound)
    (hS : s.heap.get? S = some { cls := .type "set", dict := none, data := .set #[] 0 (.fresh 0 0 (!w.params.followText "set-order")) }) (hS0 : h0.objs.size ≤ S)
    (hQ : ∀ h' tk L, (∀ b o, h0.get? b = some o → h'.get? b = some o) → TxSet w h' S L → (∀ k, k ∈ L ↔ k ∈ xs) → Q () { s with heap := h', toks := tk }) :
    wpAny (model P w) A (Builtin.Frozenset.updateFrom "set.__init__" S v) Q E s := by
  unfold Builtin.Frozenset.updateFrom
  refine wpAny_bind (hno.set _ _ _ _ ext ?_)
  simp only [Bool.false_eq_true, ↓reduceIte]
  refine wpAny_bind (hno.dict _ _ _ _ ext fun T hT => ?_)
  rw [hT]
  simp only [Bool.false_eq_true, ↓reduceIte]
  refine wpAny_bind (hsrc _ _ _ s ext fun I s2 fp Pv St k2 g2 o2 d2 t2 hI hfp hW hv hst => ?_)
  obtain ⟨h2, gs2, dr2, tk2, os2⟩ := s2
  dsimp only at g2 o2 d2 t2
  subst g2; subst o2; subst d2; subst t2
  have ltS : S < s.heap.objs.size := Heap.lt_size hS
  have hSf : S ∉ fp := fun z => by
    rcases hfp S z with q | q
    · exact absurd q (Nat.not_lt_of_le hS0)
    · exact absurd ltS (Nat.not_lt_of_le q)
  refine wpAny_bind (wpAny_runValue ?_)
  refine fill_loop (hW A.in1 hh) S hSf hv hb xs.length 0 _ [] (by omega) (Nat.zero_le _) hst (freshTx w (k2 _ _ hS)) (fun k => by simp) (Nat.le_refl _) fun h' tk L kp hL mem => ?_
  refine wpAny_pure (hQ h' tk L (fun b o e => kp b o ?_ ?_ (k2 b o (ext b o e))) hL mem)
  · intro z; rw [z] at e; exact absurd (Heap.lt_size e) (Nat.not_lt_of_le hS0)
  · intro z; rw [z] at e; exact absurd (Heap.lt_size (ext _ _ e)) (Nat.not_lt_of_le hI)
set_option maxHeartbeats 4000000 in
/-- set(v) -/
theorem call_set_src {v : Value} {xs : List Str} {Q : Value → Shared → Prop} (hh : A.handled = none) (hsrc : Src P w s.heap v xs) (hno : NoSet P w s.heap v) (hb : xs.length + 1 < scanBound)
    (hQ : ∀ h' tk L, (∀ b o, s.heap.get? b = some o → h'.get? b = some o) → TxSet w h' s.heap.objs.size L → (∀ k, k ∈ L ↔ k ∈ xs) → Q (.ref s.heap.objs.size) { s with heap := h', toks := tk }) :
    wpAny (model P w) A (call (.type "set") [v]) Q E s := by
  obtain ⟨c, tl, hmro⟩ := F.called_set.mro
  have hmade := F.called_set.made
  have hsub := F.called_set.sub
  refine wpAny_call (codeAny_of_tree ?_)
  show wpAny _ _ (callAny (.type "set") _) _ _ _
  refine wpAny_pure ⟨Code.quiet_builtin _ (by decide +kernel), codeAny_builtin F.entry_type_call ?_⟩
  rw [Around.under_plain (weight_type_call_type "set" [v] []) rfl]
  have h1 := F.called_set.notType
  have h2 := F.called_set.canCreate
  have hct := F.typeCall_set_1 v
  repeat (any_goals (first | assumption | wp_step))
  let ob : Obj := { cls := .type "set", dict := none, data := .set #[] 0 (.fresh 0 0 (!w.params.followText "set-order")) }
  refine codeAny_mono (code_set_led1 v (E := E) (Q₁ := fun o1 s1 => o1 = .ref s.heap.objs.size ∧ s1 = { s with heap := s.heap.push ob }) ⟨rfl, rfl⟩) fun r s1 hr => ?_
  match r, hr with
  | .error e, hr => exact hr
  | .ok (.ret o1), hr =>
    obtain ⟨rfl, rfl⟩ := hr
    have hS : (s.heap.push ob).get? s.heap.objs.size = some ob := Heap.get?_push_size _ rfl
    have hT : Shared.TypeIs { s with heap := s.heap.push ob } (.ref s.heap.objs.size) "set" := ⟨_, hS, rfl⟩
    have hli := F.called_set.init.lookup
    have hbi := F.called_set.init.bind (.ref s.heap.objs.size)
    repeat (any_goals (first | assumption | wp_step))
    refine codeAny_mono (codeAny_call_builtin (R := wants (fun r s2 => r = .none ∧ ∃ h' tk L, s2 = { s with heap := h', toks := tk } ∧ (∀ b o, s.heap.get? b = some o → h'.get? b = some o) ∧
        TxSet w h' s.heap.objs.size L ∧ ∀ k, k ∈ L ↔ k ∈ xs) E) F.called_set.init.plain F.entry_set_init (check_set_init_1 hT ?_)) fun r2 s2 hr2 => ?_
    · have ext : ∀ b o, s.heap.get? b = some o → (s.heap.push ob).get? b = some o := fun b o e => Heap.get?_push_of_some _ e
      unfold Builtin.«set.__init__» noKeywords
      generalize hU : Builtin.Frozenset.updateFrom = U
      wp_walk
      subst hU
      refine upd_src (s := { s with heap := s.heap.push ob }) hh (fun b o e => ext b o e) hsrc hno hb hS (Nat.le_refl _) fun h' tk L kp hL mem => ?_
      trace_state
      exact wpAny_pure ⟨rfl, h', tk, L, rfl, kp, hL, mem⟩
    · match r2, hr2 with
      | .error e, hr2 => exact hr2
      | .ok (.ret r), hr2 =>
        obtain ⟨rfl, h', tk, L, rfl, kp, hL, mem⟩ := hr2
        repeat (any_goals (first | assumption | wp_step))
        exact hQ _ _ _ kp hL mem
end
end Fw

set_option maxRecDepth 100000
set_option maxHeartbeats 2000000
/-! sorted, set, len(set), list of texts: rules over the layer. -/
namespace Fw
open PySem PySem.Spec PyProof.Rows L2
/-! ### the order of texts -/
def leS (x y : Str) : Bool := !ltCps y.cps.toList x.cps.toList
theorem leS_iff {x y : Str} : leS x y = true ↔ ¬ y.cps.toList < x.cps.toList := by
  unfold leS
  rw [ltCps_eq]
  simp
theorem leS_trans (x y z : Str) (h1 : leS x y = true) (h2 : leS y z = true) : leS x z = true := by
  rw [leS_iff] at *
  have a : x.cps.toList ≤ y.cps.toList := by simpa using h1
  have b : y.cps.toList ≤ z.cps.toList := by simpa using h2
  simpa using List.le_trans a b
theorem leS_total (x y : Str) : (leS x y || leS y x) = true := by
  rcases List.le_total x.cps.toList y.cps.toList with h | h
  · have q : leS x y = true := leS_iff.mpr (by simpa using h)
    rw [q]; rfl
  · have q : leS y x = true := leS_iff.mpr (by simpa using h)
    rw [q]; simp
theorem str_ext {x y : Str} (h : x.cps.toList = y.cps.toList) : x = y := by
  cases x; cases y
  simp at h
  simp [h]
theorem leS_anti (x y : Str) (h1 : leS x y = true) (h2 : leS y x = true) : x = y := by
  rw [leS_iff] at *
  exact str_ext (List.le_antisymm (by simpa using h1) (by simpa using h2))
def srt (xs : List Str) : List Str := xs.mergeSort leS
theorem srt_perm (xs : List Str) : (srt xs).Perm xs := List.mergeSort_perm xs leS
theorem srt_pw (xs : List Str) : (srt xs).Pairwise fun x y => leS x y = true := List.pairwise_mergeSort leS_trans leS_total xs
theorem risingS_pw : ∀ (xs : List Str) (p : Str), risingS p xs = true → (p :: xs).Pairwise fun x y => leS x y = true
  | [], p, _ => by simp
  | x :: r, p, h => by
    obtain ⟨h1, h2⟩ := Bool.and_eq_true_iff.mp (show (!ltCps x.cps.toList p.cps.toList && risingS x r) = true from h)
    have ih := risingS_pw r x h2
    refine List.pairwise_cons.mpr ⟨fun y hy => ?_, ih⟩
    rcases List.mem_cons.mp hy with z | z
    · rw [z]; exact h1
    · exact leS_trans p x y h1 ((List.pairwise_cons.mp ih).1 y z)
theorem sortedS_pw {xs : List Str} (h : sortedS xs = true) : xs.Pairwise fun x y => leS x y = true := by
  cases xs with
  | nil => exact List.Pairwise.nil
  | cons x r => exact risingS_pw r x h
theorem srt_one {xs ys : List Str} (p : ys.Perm xs) (h : ys.Pairwise fun x y => leS x y = true) : ys = srt xs :=
  List.Perm.eq_of_pairwise (fun x y _ _ h1 h2 => leS_anti x y h1 h2) h (srt_pw xs) (p.trans (srt_perm xs).symm)
theorem srt_congr {xs ys : List Str} (p : xs.Perm ys) : srt xs = srt ys := srt_one ((srt_perm xs).trans p) (srt_pw xs)
theorem srt_mem {xs : List Str} {x : Str} : x ∈ srt xs ↔ x ∈ xs := (srt_perm xs).mem_iff
theorem srt_len (xs : List Str) : (srt xs).length = xs.length := (srt_perm xs).length_eq
/-- ascending, each once -/
def once : List Str → List Str
  | [] => []
  | x :: r => if x ∈ r then once r else x :: once r
theorem once_mem : ∀ {xs : List Str} {k : Str}, k ∈ once xs ↔ k ∈ xs
  | [], _ => Iff.rfl
  | x :: r, k => by
    unfold once
    by_cases c : x ∈ r
    · rw [if_pos c, once_mem, List.mem_cons]
      exact ⟨.inr, fun z => z.elim (fun e => e ▸ c) id⟩
    · rw [if_neg c, List.mem_cons, List.mem_cons, once_mem]
theorem once_nodup : ∀ xs : List Str, (once xs).Nodup
  | [] => List.nodup_nil
  | x :: r => by
    unfold once
    by_cases c : x ∈ r
    · rw [if_pos c]; exact once_nodup r
    · rw [if_neg c]
      exact List.nodup_cons.mpr ⟨fun z => c (once_mem.mp z), once_nodup r⟩
def ups (xs : List Str) : List Str := srt (once xs)
theorem nodup_perm {xs ys : List Str} (h1 : xs.Nodup) (h2 : ys.Nodup) (h : ∀ k, k ∈ xs ↔ k ∈ ys) : xs.Perm ys := (List.perm_ext_iff_of_nodup h1 h2).mpr h
theorem ups_nodup (xs : List Str) : (ups xs).Nodup := (srt_perm _).nodup_iff.mpr (once_nodup xs)
theorem ups_mem {xs : List Str} {x : Str} : x ∈ ups xs ↔ x ∈ xs := by
  unfold ups
  rw [srt_mem, once_mem]
theorem srt_set {L xs : List Str} (hL : L.Nodup) (h : ∀ k, k ∈ L ↔ k ∈ xs) : srt L = ups xs :=
  srt_congr (nodup_perm hL (once_nodup xs) fun k => by rw [h k, once_mem])
theorem ups_one {L xs : List Str} (hL : L.Pairwise fun x y => leS x y = true) (hn : L.Nodup) (h : ∀ k, k ∈ L ↔ k ∈ xs) : ups xs = L := by
  rw [← srt_set hn h]
  exact (srt_one (List.Perm.refl L) hL).symm

/-! ### set(v) of texts; sorted(v); len; list(text) -/
/-- v is a text, or a list or tuple of texts: what its walk gives -/
def TxSrc (K : PySem.W.Frag) (H : Hp) (v : V) (ys : List Str) : Prop :=
  (∃ x, v = .str x ∧ ys = signsOf x ∧ x.length ≤ sizeLine) ∨ ∃ a, v = .ref a ∧ (SqL K H a (ys.map V.str) ∨ SqT K H a (ys.map V.str))
/-- the set at a of the texts L -/
def SetS (w : World) (a : Addr) (L : List Str) : HO := .ext fun h => TxSet w h a L
section
variable {X : Cx}
theorem setS_new {w : World} {P : Program} {H : Hp} {h : Heap} {a : Addr} {L : List Str} (R : TxSet w h a L) : ObjOk P w H h a (SetS w a L) := by
  have ⟨o, _, _, _, ho, _⟩ := R
  exact ⟨R, ⟨o, ho⟩, fun h1 h2 p k => TxSet.at p k⟩
theorem setS_get {pins : List (Addr × Obj)} {σ : L2.St} {H : Hp} {s : Shared} {a : Addr} {L : List Str} (I : Inv X pins σ H s) (ha : H a = some (SetS X.w a L)) : TxSet X.w s.heap a L := (I.hok a _ ha).1
theorem vals_strs {ys : List Str} {us : List Value} (r : Vals (ys.map V.str) us) : StrsAre us ys := r.strs
theorem noSet_ty {P : Program} {w : World} {h0 : Heap} {v : Value} {T : String} (ht : ∀ s : Shared, (∀ b o, h0.get? b = some o → s.heap.get? b = some o) → s.TypeIs v T) (h1 : isSubtype (.type T) (.type "set") = pure false)
    (h2 : isSubtype (.type T) (.type "frozenset") = pure false) (h3 : (Value.type T == .type "dict") = false) : NoSet P w h0 v where
  set := fun A E Q s k q => by
    unfold Builtin.Frozenset.isAnySet
    refine wpAny_bind (wpAny_isInstance (ht s k) h1 ?_)
    first
      | exact wpAny_isInstance (ht s k) h2 q
      | (dsimp only; exact wpAny_isInstance (ht s k) h2 q)
      | (simp only [Bool.false_eq_true, ↓reduceIte]; exact wpAny_isInstance (ht s k) h2 q)
  dict := fun A E Q s k q => wpAny_typeOf (ht s k) (q _ h3)
theorem src_of {pins : List (Addr × Obj)} {σ : L2.St} {H : Hp} {s : Shared} {v : V} {u : Value} {ys : List Str} (I : Inv X pins σ H s) (r : RelV v u) (h : TxSrc X.K H v ys) : Src X.prog X.w s.heap u ys ∧ NoSet X.prog X.w s.heap u := by
  rcases h with ⟨x, rfl, rfl, _⟩ | ⟨a, rfl, h | h⟩
  · obtain ⟨t, rfl⟩ := r
    exact ⟨src_text, noSet_ty (T := "str") (fun s k => rfl) F.sub_str_set F.sub_str_frozenset (by decide)⟩
  · cases r
    obtain ⟨its, rv, hl, _⟩ := I.list h
    refine ⟨src_list hl.isList (vals_strs rv), noSet_ty (T := "list") (fun s k => ?_) F.sub_list_set F.sub_list_frozenset (by decide)⟩
    exact (hl.isList.at fun o e => k a o e).typeIs
  · cases r
    obtain ⟨its, rv, hl, _⟩ := I.tuple h
    refine ⟨src_tuple (show s.heap.IsTuple a its.toArray from hl) (vals_strs rv), noSet_ty (T := "tuple") (fun s k => ?_) F.sub_tuple_set F.sub_tuple_frozenset (by decide)⟩
    exact ((show Heap.IsTuple _ a its.toArray from hl).at fun o e => k a o e).typeIs
/-- set(v) -/
def rSetT (K : PySem.W.Frag) (w : World) : List V → Hp → VK → Prop := fun xs H Q => ∃ v ys, xs = [v] ∧ TxSrc K H v ys ∧ ys.length ≤ 4000 ∧ ∀ p L, H p = none → L.Nodup → (∀ k, k ∈ L ↔ k ∈ ys) → Q (.ref p) (upd H p (SetS w p L))
theorem cr_setT (hc : X.calm = true) : CallR X (.type "set") (rSetT X.K X.w) := by
  intro pins s σ H xs us Q I r h
  obtain ⟨v, ys, rfl, hs, hl, q⟩ := h
  cases r with
  | cons rv rn =>
    cases rn
    obtain ⟨h1, h2⟩ := src_of I rv hs
    refine call_set_src (I.ok.hd hc) h1 h2 (by show ys.length + 1 < 4096; omega) fun h' tk L k R mem => ?_
    have nd : L.Nodup := by
      obtain ⟨_, _, _, _, _, _, _, _, _, nd, _⟩ := R
      exact nd
    exact ⟨.ref _, upd H s.heap.objs.size (SetS X.w s.heap.objs.size L), I.laid (t' := tk) k (Nat.le_refl _) (setS_new R), rfl, q _ L (I.hok.fresh (Nat.le_refl _)) nd mem⟩
/-! ### sorted -/
/-- what is collected from v: some arrangement of the texts ys -/
def Coll (P : Program) (w : World) (A : Around) (s : Shared) (v : Value) (ys : List Str) : Prop := ∀ (E : Value → Shared → Prop) (Q : List Value → Shared → Prop),
  (∀ s1 vs zs, (∀ b o, s.heap.get? b = some o → s1.heap.get? b = some o) → s1.gens = s.gens → s1.os = s.os → StrsAre vs zs → zs.Perm ys → Q vs s1) → wpAny (model P w) A (collect v) Q E s
section
variable {P : Program} {w : World} {A : Around} {E : Value → Shared → Prop} {s : Shared}
theorem coll_list {l : Addr} {vs : List Value} {ys : List Str} (hl : s.heap.IsList l vs.toArray) (hv : StrsAre vs ys) (hz : ys.length ≤ sizeLine) : Coll P w A s (.ref l) ys := by
  intro E Q hQ
  refine collect_list hl (hQ _ vs ys (fun b o e => ?_) rfl rfl hv (List.Perm.refl _)) (by rw [StrsAre.length hv]; exact hz)
  rw [Heap.get?_update_ne _ _ _ _ (Nat.ne_of_lt (Heap.lt_size e))]
  exact Heap.get?_push_of_some _ e
theorem coll_tuple {l : Addr} {vs : List Value} {ys : List Str} (hl : s.heap.IsTuple l vs.toArray) (hv : StrsAre vs ys) (hz : ys.length ≤ sizeLine) : Coll P w A s (.ref l) ys := by
  intro E Q hQ
  obtain ⟨o, ho, hc, n, hd⟩ := id hl
  have hsz : vs.length ≤ sizeLine := by rw [StrsAre.length hv]; exact hz
  unfold collect
  refine wpAny_bind (wpAny_runValue (codeAny_builtin F.entry_proto_collect ?_))
  rw [Around.under_plainId F.plain_proto_collect _]
  show wpAny _ A.in1 (newList [] >>= fun l1 => again (.builtin "list.__iadd__" ⟨[l1, .ref l], []⟩)) _ _ s
  refine wpAny_bind (wpAny_newList (wpAny_pure ⟨plainId_quiet F.plain_list_iadd _, codeAny_builtin F.entry_list_iadd ?_⟩))
  rw [Around.under_plainId F.plain_list_iadd _]
  show wpAny _ A.in1 (Builtin.List.listExtendWith (.ref s.heap.objs.size) (.ref l) (.ref s.heap.objs.size)) _ _ { s with heap := s.heap.push (seqObj "list" #[] 0) }
  unfold Builtin.List.listExtendWith
  have ho1 : (s.heap.push (seqObj "list" #[] 0)).get? l = some o := Heap.get?_push_of_some _ ho
  refine wpAny_bind (wpAny_typeOf (T := "tuple") ⟨o, ho1, hc⟩ ?_)
  rw [if_pos (by simp)]
  refine wpAny_bind (listItems_at ho1 hd ?_)
  refine wpAny_bind (listItems_at (xs := #[]) (n := 0) (Heap.get?_push_size _ rfl) rfl ?_)
  rw [if_neg (by simp)]
  refine wpAny_bind (listUpdate_at (xs := #[]) (n := 0) (Heap.get?_push_size _ rfl) rfl ?_ (Nat.zero_le _) (by
    show (#[] ++ vs.toArray).size ≤ sizeLine + 1
    rw [Array.size_append, List.size_toArray]
    show 0 + vs.length ≤ sizeLine + 1
    omega))
  refine wpAny_pure ?_
  show wpAny (model P w) A (load s.heap.objs.size >>= _) _ _ _
  refine wpAny_bind (wpAny_load (get?_update_seq (Heap.get?_push_size _ rfl) _) ?_)
  show wpAny _ _ (pure ((#[] : Array Value) ++ vs.toArray).toList) Q E _
  rw [show ((#[] : Array Value) ++ vs.toArray).toList = vs by simp]
  refine wpAny_pure (hQ _ vs ys (fun b o e => ?_) rfl rfl hv (List.Perm.refl _))
  rw [Heap.get?_update_ne _ _ _ _ (Nat.ne_of_lt (Heap.lt_size e))]
  exact Heap.get?_push_of_some _ e
theorem strs_items {x : Str} {acc : Array Value} (h : ItemsOf (SignAt x) acc x.cps.size) : StrsAre acc.toList (signsOf x) := by
  have key : ∀ (vs : List Value) (ys : List Str), vs.length = ys.length → (∀ i v, vs[i]? = some v → ∃ tk, v = Value.str (ys.getD i Str.empty) tk) → StrsAre vs ys := by
    intro vs
    induction vs with
    | nil =>
      intro ys hl _
      cases ys with
      | nil => exact .nil
      | cons y r => cases hl
    | cons v r ih =>
      intro ys hl hv
      cases ys with
      | nil => cases hl
      | cons y t =>
        obtain ⟨tk, e⟩ := hv 0 v rfl
        rw [e]
        exact .cons y tk (ih t (by simpa using hl) fun i u hu => by simpa using hv (i + 1) u (by simpa using hu))
  refine key _ _ (by rw [Array.length_toList, h.1]; simp [signsOf]) fun i v e => ?_
  obtain ⟨c, tk, hc, rfl⟩ := h.2 i v (by simpa using e)
  refine ⟨tk, ?_⟩
  have q : (signsOf x)[i]? = some ⟨#[c]⟩ := by
    unfold signsOf
    rw [List.getElem?_map, Array.getElem?_toList, hc]
    rfl
  rw [List.getD_eq_getElem?_getD, q]
  rfl
theorem coll_text {x : Str} {t : Tok} (hh : A.handled = none) (hz : x.length ≤ sizeLine) : Coll P w A s (.str x t) (signsOf x) := by
  intro E Q hQ
  refine wpAny_collect_str hh x t (fun s1 acc k g d o h => hQ s1 acc.toList (signsOf x) k g o (strs_items h) (List.Perm.refl _)) hz
theorem coll_set {a : Addr} {L : List Str} (hh : A.handled = none) (R : TxSet w s.heap a L) : Coll P w A s (.ref a) L := by
  intro E Q hQ
  obtain ⟨o, es, ep, t, ho, hex, hd, g, eL, nd, hb, hf, hr, hl⟩ := R
  have hb' : es.size < scanBound := by
    rw [← eL] at hb
    simpa using hb
  refine collect_set hh ⟨o, ho, hex.1, hd⟩ hf hb' hr hl fun s1 out k hz g1 o1 pm => hQ s1 out (out.map strOf) k g1 o1 (strsAre_map out fun v hv => ?_) ?_
  · obtain ⟨e, he, q⟩ := List.mem_map.mp (pm.mem_iff.mp hv)
    obtain ⟨x, tk, e2, _⟩ := g e he
    exact ⟨x, tk, by rw [← q]; exact e2⟩
  · have q := pm.map strOf
    rw [List.map_map] at q
    rw [← eL]
    refine q.trans (List.Perm.of_eq (List.map_congr_left fun e he => ?_))
    obtain ⟨x, tk, e2, _⟩ := g e he
    show strOf e.2 = nameT e
    unfold nameT
    rw [e2]
    rfl
/-- sorted(v) -/
theorem sorted_coll {v : Value} {ys : List Str} {Q : Value → Shared → Prop} (hC : Coll P w A.in1 s v ys) (hz : ys.length ≤ sizeLine)
    (hQ : ∀ s1 p (out : Array Value) (c : Nat), (∀ b o, s.heap.get? b = some o → s1.heap.get? b = some o) → s1.gens = s.gens → s1.os = s.os → s.heap.get? p = none → s1.heap.get? p = some (seqObj "list" out c) → StrsAre out.toList (srt ys) → Q (.ref p) s1) :
    wpAny (model P w) A (call (.builtin "sorted") [v]) Q E s := by
  refine Calls.call_function_entry kind_sorted plain_sorted entry_sorted (args_sorted1 _) ?_
  unfold Builtin.«sorted»
  refine wpAny_bind (m := checkCount "sorted" 1 1 _) (wpAny_pure ?_)
  refine wpAny_bind (hC _ _ fun s1 vs zs k1 g1 o1 hv pm => ?_)
  have hvl : vs.length ≤ sizeLine := by rw [StrsAre.length hv, pm.length_eq]; exact hz
  refine wpAny_bind (wpAny_newList ?_ hvl)
  have hoL : (s1.heap.push (seqObj "list" vs.toArray 0)).get? s1.heap.objs.size = some (seqObj "list" vs.toArray 0) := Heap.get?_push_size _ rfl
  refine wpAny_bind (wpAny_holding (wpAny_call_entry slot_list_sort ⟨_, hoL, rfl⟩ entry_list_sort (list_sort_treeKAny strKind_oneLt hoL hv.keysOf (fun v1 v2 rest e => keyKind_strs (by rw [← e]; exact hv)) hvl fun st hp hs => ⟨_, rfl, ?_⟩) (args_list_sort _)))
  obtain ⟨ss, a1, a2, a3⟩ := sorted_out_str hv hp hs
  obtain ⟨c, hc⟩ := sortedHeap_at (vs := vs) (out := (arrOf st).map (·.2)) hoL
  have free : s.heap.get? s1.heap.objs.size = none := by
    cases q : s.heap.get? s1.heap.objs.size with
    | none => rfl
    | some o => exact absurd (Heap.lt_size (k1 _ _ q)) (Nat.lt_irrefl _)
  have es : ss = srt ys := srt_one (a2.trans pm) (sortedS_pw a3)
  refine wpAny_pure ⟨_, rfl, hQ _ s1.heap.objs.size _ c (fun b u e => ?_) g1 o1 free hc (by rw [← es]; exact a1)⟩
  have q := k1 b u e
  have hlt := Heap.lt_size q
  show (sortedHeap (s1.heap.push (seqObj "list" vs.toArray 0)) s1.heap.objs.size vs _).get? b = some u
  rw [sortedHeap_old (Nat.ne_of_lt hlt) (by rw [size_push']; exact Nat.lt_succ_of_lt hlt)]
  exact Heap.get?_push_of_some _ q
end
theorem there_of {P : Program} {w : World} {H : Hp} {h : Heap} {a : Addr} {o : HO} (x : ObjOk P w H h a o) : ∃ ob, h.get? a = some ob := by
  cases o with
  | lst xs => obtain ⟨_, _, _, _, e⟩ := x; exact ⟨_, e⟩
  | tup xs => obtain ⟨_, _, _, _, e, _⟩ := x; exact ⟨_, e⟩
  | dK kvs => obtain ⟨_, _, _, _, _, _, _, e, _⟩ := x; exact ⟨_, e⟩
  | dT kvs => obtain ⟨_, _, _, _, _, _, _, e, _⟩ := x; exact ⟨_, e⟩
  | set S n => obtain ⟨_, _, _, _, e, _⟩ := x; exact ⟨_, e⟩
  | ins C dx fs => obtain ⟨_, _, _, e, _⟩ := x; exact ⟨_, e⟩
  | own y => exact x
  | xd fs => obtain ⟨_, ⟨_, _, _, e, _⟩, _⟩ := x; exact ⟨_, e⟩
  | rng lo hi => obtain ⟨_, _, _, e⟩ := x; exact ⟨_, e⟩
  | frz ob u => obtain ⟨e, _⟩ := x; exact ⟨_, e⟩
  | tbl ps => exact ⟨_, (show h.get? a = some _ from x)⟩
  | met f y => exact ⟨_, (show h.get? a = some _ from x)⟩
  | ext φ => exact x.2.1
theorem none_of {P : Program} {w : World} {H : Hp} {h : Heap} {a : Addr} (ok : HOk P w H h) (e : h.get? a = none) : H a = none := by
  cases q : H a with
  | none => rfl
  | some o =>
    obtain ⟨ob, e2⟩ := there_of (ok a o q)
    rw [e] at e2
    cases e2
/-- sorted(v) of texts -/
def rSortT (K : PySem.W.Frag) (w : World) : List V → Hp → VK → Prop := fun xs H Q => ∃ v ys, xs = [v] ∧ (TxSrc K H v ys ∨ ∃ a, v = .ref a ∧ H a = some (SetS w a ys)) ∧ ys.length ≤ sizeLine ∧
  ∀ p, H p = none → Q (.ref p) (upd H p (.lst ((srt ys).map V.str)))
theorem strs_vals {us : List Value} {ys : List Str} (h : StrsAre us ys) : Vals (ys.map V.str) us := vals_of_strs h
theorem cr_sortT (hc : X.calm = true) : CallR X (.builtin "sorted") (rSortT X.K X.w) := by
  intro pins s σ H xs us Q I r h
  obtain ⟨v, ys, rfl, hs, hz, q⟩ := h
  cases r with
  | cons rv rn =>
    cases rn
    rename_i u
    have hh : X.A.in1.handled = none := I.ok.hd hc
    have hC : Coll X.prog X.w X.A.in1 s u ys := by
      rcases hs with (⟨x, rfl, rfl, hx⟩ | ⟨a, rfl, h | h⟩) | ⟨a, rfl, h⟩
      · obtain ⟨t, rfl⟩ := rv
        exact coll_text hh hx
      · cases rv
        obtain ⟨its, rv, hl, _⟩ := I.list h
        exact coll_list hl.isList (vals_strs rv) hz
      · cases rv
        obtain ⟨its, rv, hl, _⟩ := I.tuple h
        exact coll_tuple (show s.heap.IsTuple a its.toArray from hl) (vals_strs rv) hz
      · cases rv
        exact coll_set hh (setS_get I h)
    refine sorted_coll hC hz fun s1 p out c k g o free ho hv => ?_
    have hn : H p = none := none_of I.hok free
    have hl : ((srt ys).map V.str).length ≤ sizeLine := by rw [List.length_map, srt_len]; exact hz
    have J : Inv X pins σ (upd H p (.lst ((srt ys).map V.str))) { s with heap := s1.heap, gens := s1.gens, drawn := s1.drawn, toks := s1.toks } :=
      I.call (ch := []) (Un.laidN k free hn) (I.hok.laidN k hn ⟨hl, out.toList, c, strs_vals hv, ho⟩) (by rw [g]; exact I.bare) (fun _ z => nomatch z)
    have e : s1 = { s with heap := s1.heap, gens := s1.gens, drawn := s1.drawn, toks := s1.toks } := by
      cases s1; cases s; cases o; rfl
    rw [e]
    exact ⟨.ref p, _, J, rfl, q p hn⟩
/-- len of a set of texts -/
def rLenSet (w : World) : List V → Hp → VK → Prop := fun xs H Q => ∃ a L, xs = [V.ref a] ∧ H a = some (SetS w a L) ∧ Q (.int (L.length : Nat)) H
theorem cr_lenSet : CallR X (.builtin "len") (rLenSet X.w) := by
  intro pins s σ H xs us Q I r h
  obtain ⟨a, L, rfl, ha, q⟩ := h
  rw [Vals.ref1 r]
  obtain ⟨o, es, ep, t, ho, hex, hd, g, eL, nd, hb, hf, hr, hl⟩ := setS_get I ha
  have e : L.length = es.size := by rw [← eL]; simp
  refine call_len_set ho hex hd hf ?_ ⟨.int _, H, I.tok _, ⟨_, rfl⟩, ?_⟩
  · rw [← e]
    have : L.length < 4096 := hb
    omega
  · rw [← e]; exact q
/-- list(text) -/
def rListT : List V → Hp → VK → Prop := fun xs H Q => ∃ x, xs = [V.str x] ∧ x.length ≤ sizeLine ∧ ∀ p, H p = none → Q (.ref p) (upd H p (.lst ((signsOf x).map V.str)))
theorem cr_listT (hc : X.calm = true) : CallR X (.type "list") rListT := by
  intro pins s σ H xs us Q I r h
  obtain ⟨x, rfl, hx, q⟩ := h
  cases r with
  | cons rv rn =>
    cases rn
    obtain ⟨t, rfl⟩ := rv
    refine call_list_str (I.ok.hd hc) x t (hn := hx) fun h' tk acc c k ho hi => ?_
    have hl : ((signsOf x).map V.str).length ≤ sizeLine := by
      rw [List.length_map]
      show (x.cps.toList.map _).length ≤ sizeLine
      rw [List.length_map, Array.length_toList]
      exact hx
    exact ⟨.ref _, upd H s.heap.objs.size (.lst ((signsOf x).map V.str)), I.laid (t' := tk) k (Nat.le_refl _) ⟨hl, acc.toList, c, strs_vals (strs_items hi), ho⟩, rfl, q _ (I.hok.fresh (Nat.le_refl _))⟩
end
end Fw

set_option maxRecDepth 100000
set_option maxHeartbeats 2000000
/-! Words of my own over the layer: a def's promise with all that a call wants; rules with the written part named; heaps; texts as lists of codes. -/
namespace Fw
open PySem PySem.Spec PyProof.Rows L2
/-- the def that the module's name x stands for keeps the promise sp -/
def Dfn (P : Program) (w : World) (K : PySem.W.Frag) (mg : Str → Option Value) (base : Heap) (CX : CXT) (x : Str) (ps : List Str) (k : Nat) (sp : Sp) : Prop :=
  ∃ f fd, FnOk P w K mg base CX k f fd ps sp ∧ mg x = some (.ref f) ∧ PySem.W.keepIn K (.ref f) = true ∧ Binds K fd ps []
section
variable {X : Cx} {x : Str} {ps : List Str} {k : Nat} {sp : Sp} {e : Expr} {es : List Expr} {t : TA} {p pos : Pos}
theorem pe_d (d : Dfn X.prog X.w X.K X.mg X.base CX0 x ps k sp) (hr : Room k X.A) (hg : Gl X x) (ha : PA X (e :: es) t) (hdb : (x == ("__debug__" : Str)) = false := by decide)
    (he : starEach (e :: es) X.env = (false, eval e X.env) :: starEach es X.env := by rfl) (hpl : (backTo pos (starEach es X.env)).any (·.1) = false := by rfl) : PE X (.Call (.Name x p) (e :: es) [] pos) (tCall sp [] E0 t) := by
  obtain ⟨f, fd, F, hm, hk, hb⟩ := d
  exact pe_call F hr hg hm hk hb .nil pass0 ha hdb he hpl
theorem pe_d0 (d : Dfn X.prog X.w X.K X.mg X.base CX0 x ps k sp) (hr : Room k X.A) (hg : Gl X x) (hdb : (x == ("__debug__" : Str)) = false := by decide) : PE X (.Call (.Name x p) [] [] pos) (tCall sp [] E0 tNil) := by
  obtain ⟨f, fd, F, hm, hk, hb⟩ := d
  exact pe_call0 F hr hg hm hk hb .nil pass0 hdb
end
/-- a constant of the module -/
theorem pe_gs {X : Cx} {x z : Str} {t : Tok} {pos : Pos} (hm : X.mg x = some (.str z t)) (hg : Gl X x := by rfl) (hdb : (x == ("__debug__" : Str)) = false := by decide) : PE X (.Name x pos) (tC (.str z)) := pe_glob hg hm ⟨t, rfl⟩ hdb
theorem pe_gi {X : Cx} {x : Str} {i : Int} {t : Tok} {pos : Pos} (hm : X.mg x = some (.int i t)) (hg : Gl X x := by rfl) (hdb : (x == ("__debug__" : Str)) = false := by decide) : PE X (.Name x pos) (tC (.int i)) := pe_glob hg hm ⟨t, rfl⟩ hdb
/-! ### the rules that read the written part, K named -/
section
variable {X : Cx} (K : PySem.W.Frag) (w : World)
theorem ixL (h : X.K = K := by rfl) : IxR X (rIxL K) := h ▸ ix_list
theorem ixT (h : X.K = K := by rfl) : IxR X (rIxT K) := h ▸ ix_tup
theorem ixQ (h : X.K = K := by rfl) : IxR X (rIx K) := h ▸ ix_seq
theorem slL (h : X.K = K := by rfl) : SlR X (rSlL K) := h ▸ sl_list
theorem slT (h : X.K = K := by rfl) : SlR X (rSlT K) := h ▸ sl_tup
theorem inSeq (h : X.K = K := by rfl) : OpR X (compareOp .In) (rIn K false) := h ▸ op_in_seq
theorem notInSeq (h : X.K = K := by rfl) : OpR X (compareOp .NotIn) (rIn K true) := h ▸ op_notIn_seq
theorem eqD (hu : X.A.units + 64 < cLine) (h : X.K = K := by rfl) : OpR X (compareOp .Eq) (rEqD K) := h ▸ op_eqD hu
theorem neD (hu : X.A.units + 64 < cLine) (h : X.K = K := by rfl) : OpR X (compareOp .NotEq) (rNeD K) := h ▸ op_neD hu
def rLenC (K : PySem.W.Frag) : List V → Hp → VK → Prop := fun xs H Q => ∃ x n, xs = [x] ∧ LenV K x H n ∧ Q (.int n) H
theorem lenC (h : X.K = K := by rfl) : CallR X (.builtin "len") (rLenC K) := h ▸ call_len
def rListOf (K : PySem.W.Frag) : List V → Hp → VK → Prop := fun xs H Q => ∃ p ys, xs = [.ref p] ∧ (SqL K H p ys ∨ SqT K H p ys) ∧ ∀ l, H l = none → Q (.ref l) (upd H l (.lst ys))
theorem listOf (h : X.K = K := by rfl) : CallR X (.type "list") (rListOf K) := h ▸ call_list_of
theorem allC (hc : X.calm = true) (h : X.K = K := by rfl) : CallR X (.builtin "all") (rAll K) := h ▸ cr_all hc
theorem anyC (hc : X.calm = true) (h : X.K = K := by rfl) : CallR X (.builtin "any") (rAny K) := h ▸ cr_any hc
theorem isiC (h : X.K = K := by rfl) : CallR X (.builtin "isinstance") (rIsi K) := h ▸ call_isi
theorem sortT (hc : X.calm = true) (h : X.K = K := by rfl) (h2 : X.w = w := by rfl) : CallR X (.builtin "sorted") (rSortT K w) := h ▸ h2 ▸ cr_sortT hc
theorem setT (hc : X.calm = true) (h : X.K = K := by rfl) (h2 : X.w = w := by rfl) : CallR X (.type "set") (rSetT K w) := h ▸ h2 ▸ cr_setT hc
theorem piL {tg l : Expr} {tl : TE} (hl : PE X l tl) (h : X.K = K := by rfl) : PI X tg l (iList K tl) := h ▸ pi_list hl
theorem piT {tg l : Expr} {tl : TE} (hl : PE X l tl) (h : X.K = K := by rfl) : PI X tg l (iTup K tl) := h ▸ pi_tup hl
theorem enumL {e : Expr} {ta : TA} {p pos tpos : Pos} {elts : List Expr} {kk : Nat} (hm : X.mg "enumerate" = none) (ha : PA X [e] ta) (hg : Gl X "enumerate" := by rfl) (h : X.K = K := by rfl) (hs : starEach [e] X.env = [(false, eval e X.env)] := by rfl) :
    PI X (.Tuple elts kk tpos) (.Call (.Name "enumerate" p) [e] [] pos) (iEnum K ta) := h ▸ pi_enum hg hm ha hs
theorem tupG {es : List Expr} {k : Nat} {t : TGs} {n : Nat} {pos : Pos} (hc : X.calm = true) (hp : PGs X es t) (h : X.K = K := by rfl) (hn : (assignEach es X.env).length = n := by rfl) (hst : (assignEach es X.env).findIdx? (·.1) = none := by rfl) :
    PG X (.Tuple es k pos) (gTup K n t) := h ▸ pg_tup hc hp hn hst
def rJoin (K : PySem.W.Frag) : V → List V → Hp → VK → Prop := fun x xs H Q => ∃ a p, ∃ ys : List Str, x = .str a ∧ xs = [.ref p] ∧ (SqL K H p (ys.map V.str) ∨ SqT K H p (ys.map V.str)) ∧
  (ys.map (·.length)).sum + ys.length * a.length ≤ 16777216 ∧ Q (.str (Txt.join a ys)) H
theorem joinC {o e : Expr} {to te : TE} {apos pos : Pos} (ho : PE X o to) (he : PE X e te) (h : X.K = K := by rfl) (hs : starEach [e] X.env = [(false, eval e X.env)] := by rfl) (hbase : attributeBase o "join" X.env (eval o X.env) = eval o X.env := by rfl) (hline : (apos.endLine == pos.line) = true := by rfl) :
    PE X (.Call (.Attribute o "join" apos) [e] [] pos) (tM1 (rJoin K) to te) := h ▸ pe_join ho he hs hbase hline
theorem revL {e : Expr} {te : TE} {k : Nat} {p1 p2 p3 pos : Pos} (he : PE X e te) (h : X.K = K := by rfl) : PE X (.Subscript e (.Slice none none (some (.UnaryOp .USub (.Constant (.int 1) k p1) p2)) p3) pos) (tRevL K te) := h ▸ pe_revL he
theorem pe_bm' {T : String} {name : Str} {id : String} {r : V → List V → Hp → VK → Prop} {o e : Expr} {es : List Expr} {to : TE} {t : TA} {apos cpos : Pos} (pa : PlainAttrs T) (slot : Slot T name id) (hty : typeOf (.builtin id) = pure (.type "method_descriptor")) (hm : MtR X id r) (ho : PE X o to) (ha : PA X (e :: es) t) (h : X.K = K := by rfl)
    (hbase : attributeBase o name X.env (eval o X.env) = eval o X.env := by rfl)
    (hfew : ((backTo cpos (starEach (e :: es) X.env)).all (fun x => !x.1) && (backToKw cpos (keywordEach [] X.env)).all (fun x => x.1.isSome)
      && decide ((e :: es).length + ([] : List Keyword).length + (if ([] : List Keyword).isEmpty then 0 else 1) < 30)) = true := by rfl)
    (hline : (apos.endLine == cpos.line) = true := by rfl) (hs : starEach (e :: es) X.env = (false, eval e X.env) :: starEach es X.env := by rfl) (hplain : (backTo cpos (starEach es X.env)).any (·.1) = false := by rfl) :
    PE X (.Call (.Attribute o name apos) (e :: es) [] cpos) (tBM K T r to t) := h ▸ pe_bm pa slot hty hm ho ha hbase hfew hline hs hplain
end
/-! ### text * int -/
def timesS (x : Str) (n : Nat) : Str := ⟨(List.replicate n x.cps.toList).flatten.toArray⟩
theorem foldl_cat (x : Array Nat) : ∀ (n : Nat) (acc : Array Nat), ((List.replicate n x).foldl (· ++ ·) acc).toList = acc.toList ++ (List.replicate n x.toList).flatten
  | 0, acc => by simp
  | n + 1, acc => by
    rw [List.replicate_succ, List.foldl_cons, foldl_cat x n]
    simp [List.replicate_succ]
theorem mul_times (x : Str) (k : Int) (hk : 0 ≤ k) : Txt.mul x k = timesS x k.toNat := by
  unfold Txt.mul
  apply str_ext
  by_cases h1 : k < 1
  · have e : k = 0 := by omega
    subst e
    rw [if_pos h1]
    simp [timesS, Str.empty]
  · rw [if_neg h1]
    by_cases h2 : (k == 1 || x.length == 0) = true
    · rw [if_pos h2]
      rcases Bool.or_eq_true_iff.mp h2 with h | h
      · have e : k = 1 := by simpa using h
        subst e
        simp [timesS]
      · have e : x.cps = #[] := by
          have q : x.length = 0 := by simpa using h
          simpa [Str.length] using q
        simp [timesS, e]
    · rw [if_neg h2]
      show ((List.replicate k.toNat x.cps).foldl (· ++ ·) #[]).toList = _
      rw [foldl_cat]
      simp [timesS]
theorem op_mul_str {X : Cx} : OpR X (binaryOp .Mult) (fun x y H Q => ∃ z k, x = .str z ∧ y = .int k ∧ 0 ≤ k ∧ k ≤ 100000 ∧ z.length ≤ 100 ∧ Q (.str (timesS z k.toNat)) H) := by
  intro pins s σ H x y v u Q I rx ry h
  obtain ⟨z, k, rfl, rfl, h0, h1, h2, q⟩ := h
  obtain ⟨t, rfl⟩ := rx
  obtain ⟨t2, rfl⟩ := ry
  refine SB.mul ⟨?_, ?_, ?_⟩ fun t' tk => ⟨.str _, H, I.tok _, ⟨_, rfl⟩, ?_⟩
  · have a : ¬ k < -(2 ^ 63 : Int) := by omega
    have b : ¬ k ≥ 2 ^ 63 := by omega
    rw [decide_eq_false a, decide_eq_false b]
    rfl
  · intro a b
    have hk : 1 ≤ k := by omega
    have : (z.length : Int) ≤ 100 := by omega
    have h3 : 100 ≤ (2 ^ 63 - 1) / k := by
      refine (Int.le_ediv_iff_mul_le (by omega)).mpr ?_
      omega
    omega
  · intro a b
    have : z.length * k.toNat ≤ 100 * 100000 := Nat.mul_le_mul h2 (by omega)
    have e := sizeLine_eq
    unfold Builtin.Str.tooLong
    simp
    omega
  · rw [mul_times z k h0]; exact q

/-! ### heaps -/
/-- all that was tracked stands, but for what is at b -/
def Kb (b : Addr) (H H' : Hp) : Prop := ∀ a o, a ≠ b → H a = some o → H' a = some o
theorem Kb.refl (b : Addr) (H : Hp) : Kb b H H := fun _ _ _ h => h
theorem Kb.trans {b : Addr} {H H1 H2 : Hp} (x : Kb b H H1) (y : Kb b H1 H2) : Kb b H H2 := fun a o n h => y a o n (x a o n h)
theorem Kb.upd {b : Addr} {H H1 : Hp} {o : HO} (x : Kb b H H1) : Kb b H (upd H1 b o) := fun a u n h => by
  rw [upd_ne n]; exact x a u n h
theorem Kb.same {b : Addr} {H H1 : Hp} (x : Same H H1) : Kb b H H1 := fun a o _ h => x a o h
theorem _root_.L2.Same.upd {H : Hp} {p : Addr} {o : HO} (h : H p = none) : Same H (upd H p o) := fun b x e => by
  rw [upd_ne (ne_of_none e h)]
  exact e
/-- an object that is new since H may be written -/
theorem _root_.L2.Same.mut {H H1 : Hp} {p : Addr} {o : HO} (x : Same H H1) (h : H p = none) : Same H (L2.upd H1 p o) := fun b u e => by
  rw [upd_ne (ne_of_none e h)]
  exact x b u e
theorem Kb.new {b : Addr} {H H1 : Hp} {p : Addr} {o : HO} (x : Kb b H H1) (h : H p = none) : Kb b H (L2.upd H1 p o) := fun a u n e => by
  rw [upd_ne (ne_of_none e h)]
  exact x a u n e
theorem Kb.push {b : Addr} {H H1 : Hp} {p : Addr} {o : HO} (x : Kb b H H1) (h : H1 p = none) : Kb b H (L2.upd H1 p o) := fun a u n e => by
  have e1 := x a u n e
  rw [upd_ne (ne_of_none e1 h)]
  exact e1
theorem _root_.L2.Same.push {H H1 : Hp} {p : Addr} {o : HO} (x : Same H H1) (h : H1 p = none) : Same H (L2.upd H1 p o) := fun a u e => by
  have e1 := x a u e
  rw [upd_ne (ne_of_none e1 h)]
  exact e1
theorem len_le_of_nodup {α : Type} [DecidableEq α] : ∀ {m l : List α}, m.Nodup → (∀ c ∈ m, c ∈ l) → m.length ≤ l.length
  | [], _, _, _ => Nat.zero_le _
  | a :: r, l, nd, h => by
    have ha := h a List.mem_cons_self
    obtain ⟨n1, n2⟩ := List.nodup_cons.mp nd
    have ih := len_le_of_nodup (m := r) (l := l.erase a) n2 fun c hc => (List.mem_erase_of_ne (fun (e : c = a) => n1 (e ▸ hc))).mpr (h c (List.mem_cons_of_mem _ hc))
    rw [List.length_erase_of_mem ha] at ih
    have : 0 < l.length := List.length_pos_of_mem ha
    simp only [List.length_cons]
    omega
theorem Kb.freeOf {b p : Addr} {H H1 : Hp} (x : Kb b H H1) (n : p ≠ b) (h : H1 p = none) : H p = none := by
  cases q : H p with
  | none => rfl
  | some o => rw [x p o n q] at h; cases h
theorem Kb.seqL {K : PySem.W.Frag} {b a : Addr} {H H' : Hp} {xs : List V} (x : Kb b H H') (n : a ≠ b) (h : SqL K H a xs) : SqL K H' a xs := by
  rcases h with (h | ⟨o, h⟩) | h
  · exact .inl (.inl (x _ _ n h))
  · exact .inl (.inr ⟨o, x _ _ n h⟩)
  · exact .inr h
theorem _root_.L2.Same.seqT {K : PySem.W.Frag} {a : Addr} {H H' : Hp} {xs : List V} (x : Same H H') (h : SqT K H a xs) : SqT K H' a xs := by
  rcases h with (h | ⟨o, h⟩) | h
  · exact .inl (.inl (x _ _ h))
  · exact .inl (.inr ⟨o, x _ _ h⟩)
  · exact .inr h

/-! ### lists -/
theorem cut_map {α : Type} (f : α → V) (xs : List α) (lo hi : Option Int) : ∃ ys : List α, cutV (xs.map f) lo hi = ys.map f ∧ ys.length ≤ xs.length := by
  refine ⟨(xs.drop (HT.sIx xs.length 0 lo)).take (HT.sIx xs.length xs.length hi - HT.sIx xs.length 0 lo), ?_, ?_⟩
  · unfold cutV
    rw [List.length_map, List.map_take, List.map_drop]
  · simp
    omega
theorem at_int {α : Type} {xs : List α} {i : Int} (h0 : 0 ≤ i) (h1 : i < (xs.length : Int)) : ∃ v, xs[i.toNat]? = some v ∧ atI xs i = some v := by
  have hlt : i.toNat < xs.length := by omega
  refine ⟨xs[i.toNat], List.getElem?_eq_getElem hlt, ?_⟩
  have q := atI_nat (List.getElem?_eq_getElem hlt)
  rw [Int.toNat_of_nonneg h0] at q
  exact q
theorem map_at {α : Type} {f : α → V} {xs : List α} {i : Nat} {v : V} (h : (xs.map f)[i]? = some v) : ∃ x, xs[i]? = some x ∧ v = f x := by
  rw [List.getElem?_map] at h
  cases e : xs[i]? with
  | none => rw [e] at h; cases h
  | some x => rw [e] at h; exact ⟨x, rfl, (Option.some.inj h).symm⟩

/-! ### texts as lists of codes -/
open SX in
theorem signs_S (l : List Nat) : signsOf (S l) = l.map fun c => S [c] := by
  unfold signsOf
  simp
theorem joinL_one (l : List Nat) : TL.joinL [] (l.map fun c => [c]) = l := by
  induction l with
  | nil => rfl
  | cons a r ih =>
    cases r with
    | nil => rfl
    | cons b t =>
      show [a] ++ ([] ++ TL.joinL [] ((b :: t).map fun c => [c])) = a :: b :: t
      rw [ih]
      rfl
open SX in
theorem join_signs (l : List Nat) : Txt.join (S []) (l.map fun c => S [c]) = S l := by
  have e : (l.map fun c => S [c]) = (l.map fun c => [c]).map S := by rw [List.map_map]; rfl
  rw [e, join_S, joinL_one]
open SX in
theorem sum_one (l : List Nat) : ((l.map fun c => S [c]).map (·.length)).sum = l.length := by
  induction l with
  | nil => rfl
  | cons a r ih =>
    rw [List.map_cons, List.map_cons, List.sum_cons, ih]
    show 1 + r.length = r.length + 1
    omega
open SX in
theorem leS_one {a b : Nat} : leS (S [a]) (S [b]) = true ↔ a ≤ b := by
  rw [leS_iff]
  show ¬ ([b] < [a]) ↔ a ≤ b
  rw [List.cons_lt_cons_iff]
  constructor
  · intro h
    exact Nat.le_of_not_lt fun z => h (.inl z)
  · intro h z
    rcases z with z | ⟨_, z⟩
    · omega
    · exact absurd z (List.lt_irrefl _)
open SX in
theorem ups_signs (l : List Nat) : ∃ m : List Nat, ups (l.map fun c => S [c]) = m.map (fun c => S [c]) ∧ m.Pairwise (· < ·) ∧ ∀ c, c ∈ m ↔ c ∈ l := by
  have all : ∀ x ∈ ups (l.map fun c => S [c]), ∃ c, x = S [c] := fun x hx => by
    obtain ⟨c, _, e⟩ := List.mem_map.mp (ups_mem.mp hx)
    exact ⟨c, e.symm⟩
  have key : ∀ xs : List Str, (∀ x ∈ xs, ∃ c, x = S [c]) → ∃ m : List Nat, xs = m.map fun c => S [c] := by
    intro xs
    induction xs with
    | nil => exact fun _ => ⟨[], rfl⟩
    | cons x r ih =>
      intro h
      obtain ⟨c, e⟩ := h x List.mem_cons_self
      obtain ⟨m, em⟩ := ih fun y hy => h y (List.mem_cons_of_mem _ hy)
      exact ⟨c :: m, by rw [e, em]; rfl⟩
  obtain ⟨m, em⟩ := key _ all
  refine ⟨m, em, ?_, fun c => ?_⟩
  · have pw : (m.map fun c => S [c]).Pairwise fun x y => leS x y = true := by rw [← em]; exact srt_pw _
    have nd : (m.map fun c => S [c]).Nodup := by rw [← em]; exact ups_nodup _
    have pw1 : m.Pairwise fun a b => leS (S [a]) (S [b]) = true := List.pairwise_map.mp pw
    have nd1 : m.Pairwise fun a b => S [a] ≠ S [b] := List.pairwise_map.mp nd
    refine (pw1.and nd1).imp fun {a b} h => ?_
    have h1 := leS_one.mp h.1
    have h2 : a ≠ b := fun e => h.2 (by rw [e])
    omega
  · have q : S [c] ∈ ups (l.map fun c => S [c]) ↔ c ∈ l := by
      rw [ups_mem, List.mem_map]
      constructor
      · rintro ⟨d, hd, e⟩
        have e2 := S_inj e
        have e3 : d = c := by simpa using e2
        rw [← e3]; exact hd
      · exact fun h => ⟨c, h, rfl⟩
    rw [← q, em, List.mem_map]
    constructor
    · exact fun h => ⟨c, h, rfl⟩
    · rintro ⟨d, hd, e⟩
      have e2 := S_inj e
      have e3 : d = c := by simpa using e2
      rw [← e3]; exact hd

/-! ### lists of texts as data -/
open SX
def strsV (xs : List (List Nat)) : List V := xs.map fun x => V.str (S x)
def datS (xs : List (List Nat)) : PyData := .list (xs.map fun x => .str (S x))
/-- plain signs -/
def Pl (x : List Nat) : Prop := ∀ c ∈ x, c < 128
theorem strOk_S {x : List Nat} (h : Pl x) : PyData.strOk (S x) = true := by
  unfold PyData.strOk
  simp
  intro c hc
  have := h c hc
  omega
theorem dp_strs {K : PySem.W.Frag} {H : Hp} {a : Addr} {xs : List (List Nat)} (h : SqL K H a (strsV xs)) : Dp K H (.ref a) (datS xs) := by
  refine .lst h ?_
  clear h
  induction xs with
  | nil => exact .nil
  | cons x r ih => exact .cons (.str _) ih
theorem canLay_strs : ∀ {xs : List (List Nat)}, (∀ x ∈ xs, Pl x) → PyData.canLayAll0 (xs.map fun x => .str (S x)) = true
  | [], _ => rfl
  | x :: r, h => by
    show (PyData.canLay0 (.str (S x)) && PyData.canLayAll0 (r.map fun x => .str (S x))) = true
    rw [canLay_strs fun y hy => h y (List.mem_cons_of_mem _ hy)]
    show (PyData.strOk (S x) && true) = true
    rw [strOk_S (h x List.mem_cons_self)]
    rfl
theorem depth_strs : ∀ xs : List (List Nat), PyData.depthAll (xs.map fun x => .str (S x)) = 0
  | [] => rfl
  | x :: r => by
    show max 0 (PyData.depthAll (r.map fun x => .str (S x))) = 0
    rw [depth_strs r]
    rfl
theorem shaped_strs {xs : List (List Nat)} (h : ∀ x ∈ xs, Pl x) : SeqAt.shaped (datS xs) = true := by
  unfold SeqAt.shaped datS
  have e1 : PyData.canLay0 (.list (xs.map fun x => .str (S x))) = true := canLay_strs h
  have e2 : PyData.depth (.list (xs.map fun x => .str (S x))) = 1 := by
    show PyData.depthAll (xs.map fun x => .str (S x)) + 1 = 1
    rw [depth_strs]
  rw [e1, e2]
  rfl
theorem eqv_strs : ∀ xs ys : List (List Nat), PyData.eqvAll (xs.map fun x => .str (S x)) (ys.map fun x => .str (S x)) = decide (xs = ys)
  | [], [] => rfl
  | [], _ :: _ => rfl
  | _ :: _, [] => rfl
  | x :: xs, y :: ys => by
    show ((S x == S y) && PyData.eqvAll (xs.map fun x => .str (S x)) (ys.map fun x => .str (S x))) = _
    rw [eqv_strs xs ys, S_beq_eq]
    by_cases a : x = y
    · by_cases b : xs = ys
      · simp [a, b]
      · simp [a, b]
    · simp [a]
theorem eqv_datS (xs ys : List (List Nat)) : PyData.eqv (datS xs) (datS ys) = decide (xs = ys) := by
  show PyData.eqv (.list (xs.map fun x => .str (S x))) (.list (ys.map fun x => .str (S x))) = _
  rw [PyData.eqv]
  exact eqv_strs xs ys
/-! ### isinstance of built-in types -/
theorem isi_ok {K : PySem.W.Frag} {H : Hp} {x : V} {a b : String} {r : Bool} {Q : VK} (ht : TyOf K H x (.type a)) (q : Q (.bl r) H) (h : kitB a b = some r := by decide +kernel) : rIsi K [x, .ty b] H Q :=
  ⟨x, .ty b, _, _, r, rfl, .ty b, .base ht, kit_ty h, q⟩
theorem str_eq {Q : VK} {z y : Str} {H : Hp} (e : z = y) (q : Q (.str y) H) : Q (.str z) H := by rw [e]; exact q
/-- what is read of a list stays while a new object changes -/
theorem seqL_fresh {K : PySem.W.Frag} {a b : Addr} {H H' : Hp} {xs : List V} (h : SqL K H a xs) (nb : H b = none) (k : Kb b H H') : SqL K H' a xs := by
  rcases h with (h | ⟨o, h⟩) | h
  · exact .inl (.inl (k _ _ (ne_of_none h nb) h))
  · exact .inl (.inr ⟨o, k _ _ (ne_of_none h nb) h⟩)
  · exact .inr h
theorem times_one (c n : Nat) : timesS (S [c]) n = S (List.replicate n c) := by
  unfold timesS
  apply str_ext
  show (List.replicate n [c]).flatten = List.replicate n c
  induction n with
  | zero => rfl
  | succ n ih => rw [List.replicate_succ, List.flatten_cons, ih]; rfl
theorem _root_.L2.Same.kb {b : Addr} {H H' : Hp} (x : Same H H') : Kb b H H' := fun a o _ h => x a o h
/-- a new object of the call's own changes, all else stands -/
theorem Kb.sameOf {b : Addr} {H H1 H2 : Hp} (x : Same H H1) (nb : H b = none) (k : Kb b H1 H2) : Same H H2 := fun a o h => k a o (ne_of_none h nb) (x a o h)
theorem ne_self (xs : List (List Nat)) : V.bl (!PyData.eqv (datS xs) (datS xs)) = V.bl false := by rw [eqv_datS, decide_eq_true rfl]; rfl
theorem eq_self (xs : List (List Nat)) : V.bl (PyData.eqv (datS xs) (datS xs)) = V.bl true := by rw [eqv_datS, decide_eq_true rfl]
end Fw

set_option maxRecDepth 100000
set_option maxHeartbeats 2000000
/-! The items of a text, in plain lists of codes. -/
namespace Fw
def digL : List Nat := [48, 49, 50, 51, 52, 53, 54, 55, 56, 57]
def charsL : List Nat := [39, 45] ++ (List.range 26).map (· + 65) ++ (List.range 26).map (· + 97)
/-- 1: a letter, 2: a digit, 0: any other sign -/
def kin (ls : List Nat) (c : Nat) : Nat := if c ∈ ls then 1 else if c ∈ digL then 2 else 0
def snoc1 : List (List Nat) → Nat → List (List Nat)
  | [], c => [[c]]
  | [x], c => [x ++ [c]]
  | x :: y :: r, c => x :: snoc1 (y :: r) c
theorem snoc1_app (its : List (List Nat)) (x : List Nat) (c : Nat) : snoc1 (its ++ [x]) c = its ++ [x ++ [c]] := by
  induction its with
  | nil => rfl
  | cons a r ih =>
    cases r with
    | nil => rfl
    | cons b t => show a :: snoc1 (b :: t ++ [x]) c = _; rw [ih]; rfl
def step1 (ls : List Nat) (st : List (List Nat) × Nat) (c : Nat) : List (List Nat) × Nat :=
  if kin ls c = 0 then (st.1, 0) else if kin ls c = st.2 then (snoc1 st.1 c, kin ls c) else (st.1 ++ [[c]], kin ls c)
def scan (ls : List Nat) (st : List (List Nat) × Nat) (t : List Nat) : List (List Nat) × Nat := t.foldl (step1 ls) st
/-- the items of a text -/
def itemsF (ls t : List Nat) : List (List Nat) := (scan ls ([], 0) t).1
theorem scan_app (ls : List Nat) (st : List (List Nat) × Nat) (a b : List Nat) : scan ls st (a ++ b) = scan ls (scan ls st a) b := List.foldl_append
theorem scan_snoc (ls : List Nat) (st : List (List Nat) × Nat) (a : List Nat) (c : Nat) : scan ls st (a ++ [c]) = step1 ls (scan ls st a) c := by
  rw [scan_app]; rfl
theorem scan_gap {ls : List Nat} : ∀ {g : List Nat} {its : List (List Nat)} {k : Nat}, (∀ c ∈ g, kin ls c = 0) → scan ls (its, k) g = (its, if g = [] then k else 0)
  | [], its, k, _ => rfl
  | c :: r, its, k, h => by
    show scan ls (step1 ls (its, k) c) r = _
    have e : step1 ls (its, k) c = (its, 0) := by unfold step1; rw [if_pos (h c List.mem_cons_self)]
    rw [e, scan_gap fun d hd => h d (List.mem_cons_of_mem _ hd)]
    by_cases z : r = []
    · subst z; rfl
    · rw [if_neg z, if_neg (List.cons_ne_nil _ _)]
theorem scan_more {ls : List Nat} {κ : Nat} (hκ : κ ≠ 0) : ∀ {r : List Nat} {its : List (List Nat)} {x : List Nat}, (∀ c ∈ r, kin ls c = κ) → scan ls (its ++ [x], κ) r = (its ++ [x ++ r], κ)
  | [], its, x, _ => by simp [scan]
  | c :: r, its, x, h => by
    have hc := h c List.mem_cons_self
    show scan ls (step1 ls (its ++ [x], κ) c) r = _
    have e : step1 ls (its ++ [x], κ) c = (its ++ [x ++ [c]], κ) := by
      unfold step1
      rw [hc, if_neg hκ, if_pos rfl, snoc1_app]
    rw [e, scan_more hκ fun d hd => h d (List.mem_cons_of_mem _ hd), List.append_assoc]
    rfl
/-- a run of one kind behind another kind is a new item -/
theorem scan_item {ls : List Nat} {κ k : Nat} {its : List (List Nat)} {r : List Nat} (hκ : κ ≠ 0) (hk : k ≠ κ) (hr : r ≠ []) (h : ∀ c ∈ r, kin ls c = κ) : scan ls (its, k) r = (its ++ [r], κ) := by
  cases r with
  | nil => exact absurd rfl hr
  | cons c t =>
    have hc := h c List.mem_cons_self
    show scan ls (step1 ls (its, k) c) t = _
    have e : step1 ls (its, k) c = (its ++ [[c]], κ) := by
      unfold step1
      rw [hc, if_neg hκ, if_neg (fun z => hk z.symm)]
    rw [e, scan_more hκ fun d hd => h d (List.mem_cons_of_mem _ hd)]
    rfl
theorem kin_letter {ls : List Nat} {c : Nat} (h : c ∈ ls) : kin ls c = 1 := if_pos h
theorem kin_digit {ls : List Nat} {c : Nat} (h : c ∉ ls) (hd : c ∈ digL) : kin ls c = 2 := by unfold kin; rw [if_neg h, if_pos hd]
theorem kin_other {ls : List Nat} {c : Nat} (h : c ∉ ls) (hd : c ∉ digL) : kin ls c = 0 := by unfold kin; rw [if_neg h, if_neg hd]
theorem kin_le (ls : List Nat) (c : Nat) : kin ls c = 0 ∨ kin ls c = 1 ∨ kin ls c = 2 := by
  unfold kin
  split
  · exact .inr (.inl rfl)
  · split
    · exact .inr (.inr rfl)
    · exact .inl rfl
/-- where the scan stands in an item, there is one -/
theorem scan_inv (ls : List Nat) : ∀ t : List Nat, (scan ls ([], 0) t).2 ≠ 0 → (scan ls ([], 0) t).1 ≠ [] := by
  intro t
  rcases List.eq_nil_or_concat t with rfl | ⟨r, c, rfl⟩
  · intro h; exact absurd rfl h
  · rw [List.concat_eq_append, scan_snoc]
    generalize scan ls ([], 0) r = st
    unfold step1
    split
    · intro h; exact absurd rfl h
    · split
      · intro _ z
        cases h : st.1 with
        | nil => rw [h] at z; cases z
        | cons a b =>
          rw [h] at z
          cases b with
          | nil => cases z
          | cons d e => cases z
      · intro _ z
        simp at z
theorem char_nodig : ∀ c ∈ charsL, c ∉ digL := by decide +kernel
theorem snoc1_len (its : List (List Nat)) (c : Nat) : (snoc1 its c).length ≤ its.length + 1 := by
  rcases List.eq_nil_or_concat its with rfl | ⟨r, x, rfl⟩
  · exact Nat.le_refl _
  · rw [List.concat_eq_append, snoc1_app]
    simp
theorem scan_len (ls t : List Nat) : (scan ls ([], 0) t).1.length ≤ t.length := by
  suffices h : ∀ (t : List Nat) (st : List (List Nat) × Nat), (scan ls st t).1.length ≤ st.1.length + t.length by simpa using h t ([], 0)
  intro t
  induction t with
  | nil => intro st; exact Nat.le_refl _
  | cons c r ih =>
    intro st
    have h1 := ih (step1 ls st c)
    have h2 : (step1 ls st c).1.length ≤ st.1.length + 1 := by
      unfold step1
      split
      · exact Nat.le_succ _
      · split
        · exact snoc1_len _ _
        · simp
    show (scan ls (step1 ls st c) r).1.length ≤ st.1.length + (r.length + 1)
    omega
theorem scan_kin (ls t : List Nat) : (scan ls ([], 0) t).2 = 0 ∨ (scan ls ([], 0) t).2 = 1 ∨ (scan ls ([], 0) t).2 = 2 := by
  rcases List.eq_nil_or_concat t with rfl | ⟨r, c, rfl⟩
  · exact .inl rfl
  · rw [List.concat_eq_append, scan_snoc]
    have h := kin_le ls c
    unfold step1
    split
    · exact .inl rfl
    · split <;> exact h
theorem scan_chars (ls t : List Nat) : ∀ x ∈ (scan ls ([], 0) t).1, x.length ≤ t.length := by
  suffices h : ∀ (t : List Nat) (st : List (List Nat) × Nat) (n : Nat), (∀ x ∈ st.1, x.length ≤ n) → ∀ x ∈ (scan ls st t).1, x.length ≤ n + t.length by
    intro x hx
    have := h t ([], 0) 0 (by simp) x hx
    omega
  intro t
  induction t with
  | nil => intro st n h x hx; have := h x hx; simpa using this
  | cons c r ih =>
    intro st n h x hx
    have h2 : ∀ y ∈ (step1 ls st c).1, y.length ≤ n + 1 := by
      intro y hy
      unfold step1 at hy
      split at hy
      · exact Nat.le_succ_of_le (h y hy)
      · split at hy
        · rcases List.eq_nil_or_concat st.1 with e | ⟨r2, z, e⟩
          · rw [e] at hy
            have : y = [c] := by simpa [snoc1] using hy
            rw [this]; simp
          · rw [e, List.concat_eq_append, snoc1_app] at hy
            rcases List.mem_append.mp hy with q | q
            · exact Nat.le_succ_of_le (h y (by rw [e, List.concat_eq_append]; exact List.mem_append_left _ q))
            · have := h z (by rw [e, List.concat_eq_append]; simp)
              rw [List.mem_singleton.mp q]
              simp
              omega
        · rcases List.mem_append.mp hy with q | q
          · exact Nat.le_succ_of_le (h y q)
          · rw [List.mem_singleton.mp q]; simp
    have := ih (step1 ls st c) (n + 1) h2 x hx
    simp only [List.length_cons]
    omega
def signsL : List Nat := ((List.range 95).map (· + 32)).filter (· ≠ 37)
/-- letters of a chain -/
structure Letters (ls : List Nat) : Prop where
  ne : ls ≠ []
  len : ls.length ≤ 4
  up : ls.Pairwise (· < ·)
  ch : ∀ c ∈ ls, c ∈ charsL
theorem Letters.nodig {ls : List Nat} (h : Letters ls) : ∀ c ∈ ls, c ∉ digL := fun c hc => char_nodig c (h.ch c hc)
theorem char_lt : ∀ c ∈ charsL, c < 128 := by decide +kernel
theorem dig_lt : ∀ c ∈ digL, c < 128 := by decide +kernel
theorem sign_lt : ∀ c ∈ signsL, c < 128 := by decide +kernel
theorem Letters.pl {ls : List Nat} (h : Letters ls) : Pl ls := fun c hc => char_lt c (h.ch c hc)
theorem items_run {ls r : List Nat} {κ : Nat} (hκ : κ ≠ 0) (hr : r ≠ []) (h : ∀ c ∈ r, kin ls c = κ) : itemsF ls r = [r] := by
  unfold itemsF
  rw [scan_item (k := 0) hκ (fun e => hκ e.symm) hr h]
  rfl
theorem kin_12 {ls : List Nat} (h : Letters ls) : (∀ c ∈ [49, 50], kin ls c = 2) := by
  intro c hc
  have hd : c ∈ digL := by
    rcases List.mem_cons.mp hc with e | e
    · rw [e]; decide
    · rw [List.mem_singleton.mp e]; decide
  exact kin_digit (fun z => h.nodig c z hd) hd
end Fw

set_option maxRecDepth 100000
set_option maxHeartbeats 2000000
/-! enumerate(text), walked. -/
namespace Fw
open PySem PySem.Spec PyProof.Rows L2
/-- the signs of x, each in a new pair -/
def IteS (x : Str) : It :=
  ⟨fun i _ => i < x.cps.size, fun i H v H' => ∃ T c, v = .ref T ∧ H T = none ∧ x.cps[i]? = some c ∧ H' = upd H T (.tup [.int (i : Nat), .str ⟨#[c]⟩]), fun i _ => x.cps.size ≤ i⟩
theorem turn_enumS {P : Program} {w : World} {K : PySem.W.Frag} {elts : List Expr} {kk : Nat} {tpos : Pos} (x : Str) (t : Tok) (e it : Addr) (ty : String) (hty : ty = "str_ascii_iterator" ∨ ty = "str_iterator") :
    Turn P w K (.Tuple elts kk tpos) (IteS x) [e, it] e (fun i h => i ≤ x.cps.size ∧ (∃ old, IsEnum h e it ((i : Nat) : Int) old) ∧ h.IsStrIter it ty x t i ∧ e ≠ it) where
  mem := by simp
  obj := fun i h st b hb => by
    obtain ⟨_, ⟨old, he⟩, ⟨o, ho, hc, hd⟩, _⟩ := st
    have e' : b = e ∨ b = it := by simpa using hb
    rcases e' with z | z
    · rw [z]; exact ⟨_, he, fun v q => nomatch q⟩
    · rw [z]; exact ⟨o, ho, fun v q => by rw [hd] at q; cases q⟩
  keep := fun i h h' st k => let ⟨hl, ⟨old, he⟩, ⟨o, ho, r⟩, hne⟩ := st; ⟨hl, ⟨old, k e (by simp) _ he⟩, ⟨o, k it (by simp) o ho, r⟩, hne⟩
  item := by
    intro X hP hw hK hc i pins s σ H E I hf st hg
    subst hP hw hK
    obtain ⟨hl, ⟨old, he⟩, hit, hne⟩ := st
    have hel : e < s.heap.objs.size := Heap.lt_size he
    have hil : it < s.heap.objs.size := by obtain ⟨_, q, _⟩ := hit; exact Heap.lt_size q
    have D : Draws X.prog X.w X.A.in1 it [it] x.cps.size (fun i v => ∃ c u, x.cps[i]? = some c ∧ v = .str ⟨#[c]⟩ u) (fun i h => h.IsStrIter it ty x t i) := by
      rcases hty with z | z
      · rw [z]; exact Draws.strAscii (A := X.A.in1) (I.ok.hd hc) it x t
      · rw [z]; exact Draws.strWide (A := X.A.in1) (I.ok.hd hc) it x t
    refine wpAny_pyNext_enum_itemD D he hit hg hne (by simpa using hne) fun v h' tk hv ho hit' hT hsz hk => ?_
    obtain ⟨c, u, hcx, rfl⟩ := hv
    refine ⟨_, rfl, wpAny_letOwnedTupleGo_enum (s := { s with heap := h', toks := tk + 1 }) ho fun h'' he' sb => ?_⟩
    have hT2 : h''.get? s.heap.objs.size = some { cls := .type "tuple", data := .seq #[.int i tk, .str ⟨#[c]⟩ u] } := (sb.2 _ (Nat.ne_of_gt hel)).trans hT
    have new : ObjOk X.prog X.w (upd H s.heap.objs.size (.tup [.int (i : Nat), .str ⟨#[c]⟩])) h'' s.heap.objs.size (.tup [.int (i : Nat), .str ⟨#[c]⟩]) :=
      ⟨by show 2 ≤ sizeLine; decide, [.int i tk, .str ⟨#[c]⟩ u], .cons ⟨_, rfl⟩ (.cons ⟨u, rfl⟩ .nil), ⟨_, hT2, rfl, _, rfl⟩⟩
    have I1 : Inv X pins σ (upd H s.heap.objs.size (.tup [.int (i : Nat), .str ⟨#[c]⟩])) { s with heap := h'', toks := tk + 1 } :=
      I.turnedNew (ch := [e, it]) (fun b ob hb q => (sb.2 b (fun z => hb (by simp [z]))).trans (hk b ob (fun z => hb (by simp [z])) (fun z => hb (by simp [z])) q)) hf (Nat.le_refl _) new
    refine ⟨.ref s.heap.objs.size, _, I1, rfl, ⟨_, c, rfl, I.hok.fresh (Nat.le_refl _), hcx, rfl⟩, ⟨hg, ⟨.str ⟨#[c]⟩ u, ?_⟩, ?_, hne⟩, fun b hb => ?_⟩
    · have e1 : ((i + 1 : Nat) : Int) = (i : Int) + 1 := by omega
      rw [e1]; exact he'
    · obtain ⟨o, q, r⟩ := hit'
      exact ⟨o, (sb.2 it (Ne.symm hne)).trans q, r⟩
    · have hb' : b < s.heap.objs.size := by
        have e' : b = e ∨ b = it := by simpa using hb
        rcases e' with z | z
        · rw [z]; exact hel
        · rw [z]; exact hil
      rw [upd_ne (Nat.ne_of_lt hb')]
      exact (hf b hb).1
  done := by
    intro X hP hw hK hc i pins s σ H E I hf st hg
    subst hP hw hK
    obtain ⟨hl, ⟨old, he⟩, hit, hne⟩ := st
    have D : Draws X.prog X.w X.A.in1 it [it] x.cps.size (fun i v => ∃ c u, x.cps[i]? = some c ∧ v = .str ⟨#[c]⟩ u) (fun i h => h.IsStrIter it ty x t i) := by
      rcases hty with z | z
      · rw [z]; exact Draws.strAscii (A := X.A.in1) (I.ok.hd hc) it x t
      · rw [z]; exact Draws.strWide (A := X.A.in1) (I.ok.hd hc) it x t
    obtain ⟨f0, f1, f2, f3, f4, f5⟩ := hf it (by simp)
    have ei : i = x.cps.size := Nat.le_antisymm hl hg
    rw [ei] at hit
    exact wpAny_pyNext_enum_endD D he hit fun h' eb => ⟨rfl, I.turned (t' := s.toks) (fun b o hb q => eb b o hb q) f0 f1 f3 f4 f5⟩
  self := fun A i s Q E st h => let ⟨_, ⟨_, he⟩, _⟩ := st; wpAny_pyIter_enum he h
def iEnumS (ta : TA) : TI := fun σ H R => ta σ H fun vs H1 => ∃ x, vs = [.str x] ∧ R (IteS x) H1
theorem enumS {X : Cx} {e : Expr} {ta : TA} {p pos tpos : Pos} {elts : List Expr} {kk : Nat} (hm : X.mg "enumerate" = none) (ha : PA X [e] ta) (hg : Gl X "enumerate" := by rfl) (hs : starEach [e] X.env = [(false, eval e X.env)] := by rfl) :
    PI X (.Tuple elts kk tpos) (.Call (.Name "enumerate" p) [e] [] pos) (iEnumS ta) := by
  refine ⟨fun pins s σ H R I h => ?_⟩
  refine Call_ (ld_blt I hg hm boot_enumerate (PyProof.Rows.callWith_type1 (thn (ha.run pos pins s σ H _ I h) fun us s1 ⟨vs, H1, I1, r1, q1⟩ => ?_) hs rfl))
  obtain ⟨x, ex, q⟩ := q1
  subst ex
  cases r1 with
  | cons r rr =>
    cases rr
    obtain ⟨t, rfl⟩ := r
    refine call_enumerate_str fun h' he hit hsz hk => wpAny_pyIter_enum he ?_
    have I2 : Inv X pins σ H1 { s1 with heap := h' } := I1.kept (t' := s1.toks) hk
    have hty : strIterType x = "str_ascii_iterator" ∨ strIterType x = "str_iterator" := by
      unfold strIterType
      split
      · exact .inl rfl
      · exact .inr rfl
    refine ⟨s1.heap.objs.size + 1, [s1.heap.objs.size + 1, s1.heap.objs.size], _, _, H1, rfl, I2, turn_enumS x t (s1.heap.objs.size + 1) s1.heap.objs.size _ hty, ⟨Nat.zero_le _, ⟨.none, he⟩, hit, Nat.succ_ne_self _⟩, fun b hb => ?_, q⟩
    have e' : b = s1.heap.objs.size + 1 ∨ b = s1.heap.objs.size := by simpa using hb
    have hle : s1.heap.objs.size ≤ b := by
      rcases e' with z | z
      · rw [z]; exact Nat.le_add_right _ _
      · rw [z]; exact Nat.le_refl _
    exact I1.fpOk hle (I1.hok.fresh hle)
theorem walk_enumS {z : Str} : Walk (IteS z) z.cps.size (fun _ => True) (fun i H v H' => ∃ T c, v = .ref T ∧ H T = none ∧ z.cps[i]? = some c ∧ H' = upd H T (.tup [.int (i : Nat), .str ⟨#[c]⟩])) :=
  ⟨fun _ _ hi _ => hi, fun _ _ => Nat.le_refl _, fun _ _ _ _ _ _ y => y⟩
end Fw

set_option maxRecDepth 100000
set_option maxHeartbeats 2000000
/-! Classes: instances made, called; a def called through its class; the head's facts of classes. -/
namespace Fw
open PySem PySem.Spec PyProof.Rows L2
/-! ### a def called through its class -/
/-- x.m, x the module's name of a class, m a def of it, keeps the promise sp -/
def Cfn (P : Program) (w : World) (K : PySem.W.Frag) (mg : Str → Option Value) (base : Heap) (CX : CXT) (x m : Str) (ps : List Str) (k : Nat) (sp : Sp) : Prop :=
  ∃ C g fd mc, mg x = some (.ref C) ∧ ClX.CRead K C mc ∧ PySem.W.findCls K (.ref C) mc m = some (.val (.ref g)) ∧ PySem.W.keepIn K (.ref g) = true ∧ FnOk P w K mg base CX k g fd ps sp ∧ Binds K fd ps []
section
variable {X : Cx} {CX : CXT} {x m : Str} {ps : List Str} {k : Nat} {sp : Sp} {E : XK} {e : Expr} {es : List Expr} {t : TA} {p apos pos : Pos} {pl : Sem Bool}
theorem pe_cf (d : Cfn X.prog X.w X.K X.mg X.base CX x m ps k sp) (hr : Room k X.A) (hx : Passes CX X E) (hg : Gl X x) (ha : PA X (e :: es) t) (hdb : (x == ("__debug__" : Str)) = false := by decide)
    (hst : starEach (e :: es) X.env = (false, eval e X.env) :: starEach es X.env := by rfl) (hpl : (backTo pos (starEach es X.env)).any (·.1) = false := by rfl)
    (ht : eval (.Call (.Attribute (.Name x p) m apos) (e :: es) [] pos) X.env = (do
      let ov ← eval (.Name x p) X.env
      standAt apos.atName
      let (f, first) ← holding [ov] (getMethod ov m pl)
      callWith pos f first (backTo pos (starEach (e :: es) X.env)) (backToKw pos (keywordEach [] X.env))) := by rfl) :
    PE X (.Call (.Attribute (.Name x p) m apos) (e :: es) [] pos) (tCall sp [] E t) := by
  obtain ⟨C, g, fd, mc, hm, r, hc, hk, F, hb⟩ := d
  refine ⟨fun pins s σ H Q I h => ?_⟩
  refine PySem.W.methodCall_KW (pl := pl) (thn ((pe_glob (v := .ref C) hg hm rfl hdb).run pins s σ H (fun v H' => v = .ref C ∧ H' = H) I ⟨rfl, rfl⟩) fun u s1 ⟨y, H1, I1, ry, ey, eH⟩ => ?_) ht
  subst ey eH
  obtain rfl : u = Value.ref C := ry
  refine PySem.W.method_cls I1.kIn r.ga (PySem.W.cls_value I1.kIn r.rd hc rfl ?_)
  have I2 := I1.tok (s1.toks + 1)
  refine PySem.W.callWith_K (h₀ := X.base) (first := []) I2.ok.mod.kin hk (thn (ha.run pos pins _ σ H1 _ I2 h) fun us s3 ⟨vs, H2, I3, rv, q2⟩ => ⟨I3.kIn, ?_⟩) hst hpl
  exact wpAny_call (run_fnR (F.raw hb .nil) hr hx I3 rv q2)
end
/-! ### an instance made; an instance called -/
/-- the class at C under the module's name x: its __init__ keeps the promise sp -/
def Mkd (P : Program) (w : World) (K : PySem.W.Frag) (mg : Str → Option Value) (base : Heap) (CX : CXT) (x : Str) (C : Addr) (ps : List Str) (k : Nat) (sp : Sp) : Prop :=
  ∃ f fd, mg x = some (.ref C) ∧ Mk K C f ∧ FnOk P w K mg base CX k f fd ps sp ∧ Binds K fd ps []
/-- .. called with keywords alone -/
def MkK (P : Program) (w : World) (K : PySem.W.Frag) (mg : Str → Option Value) (base : Heap) (CX : CXT) (x : Str) (C : Addr) (ps : List Str) (k n : Nat) (ks : List Str) (gV : List V → List V → List V) (sp : Sp) : Prop :=
  ∃ f fd g, mg x = some (.ref C) ∧ Mk K C f ∧ FnOk P w K mg base CX k f fd ps sp ∧ KBn K fd ps n ks g gV
/-- instances of the class at C, called -/
def Cal (P : Program) (w : World) (K : PySem.W.Frag) (mg : Str → Option Value) (base : Heap) (CX : CXT) (C : Addr) (ps : List Str) (k : Nat) (sp : Sp) : Prop :=
  ∃ g fd, StX.CallO K C g ∧ FnOk P w K mg base CX k g fd ps sp ∧ Binds K fd ps []
/-- f(e, ..), f gives an instance of the class at C -/
def tCalO (C : Addr) (sp : Sp) (E : XK) (tf : TE) (t : TA) : TE := fun σ H Q => tf σ H fun y H1 => ∃ a, y = V.ref a ∧ t σ H1 fun vs H2 => (∃ dx fs, H2 a = some (.ins C dx fs)) ∧ sp (V.ref a :: (vs ++ [])) H2 Q E
section
variable {X : Cx} {CX : CXT} {x : Str} {C : Addr} {ps ks : List Str} {k n : Nat} {sp : Sp} {E : XK} {e fe : Expr} {es : List Expr} {tf : TE} {t tk : TA} {p pos : Pos} {kws : List Keyword} {gV : List V → List V → List V}
theorem pe_mk (d : Mkd X.prog X.w X.K X.mg X.base CX x C ps k sp) (hr : Room (k + 1) X.A) (hx : Passes CX X E) (hg : Gl X x) (ha : PA X (e :: es) t) (hdb : (x == ("__debug__" : Str)) = false := by decide)
    (he : starEach (e :: es) X.env = (false, eval e X.env) :: starEach es X.env := by rfl) (hpl : (backTo pos (starEach es X.env)).any (·.1) = false := by rfl) : PE X (.Call (.Name x p) (e :: es) [] pos) (tMake C sp [] E t) := by
  obtain ⟨f, fd, hm, M, F, hb⟩ := d
  exact pe_make M F hr hg hm hb .nil hx ha hdb he hpl
theorem pe_mkk (d : MkK X.prog X.w X.K X.mg X.base CX x C ps k 1 ks gV sp) (hr : Room (k + 1) X.A) (hx : Passes CX X E) (hg : Gl X x) (hkw : PK X kws tk)
    (hall : (backToKw pos (keywordEach kws X.env)).all (·.1.isSome) = true := by rfl) (hks : (backToKw pos (keywordEach kws X.env)).filterMap (·.1) = ks := by rfl) (hdb : (x == ("__debug__" : Str)) = false := by decide)
    (hpl : ((backTo pos (starEach [] X.env)).any (·.1) || (backToKw pos (keywordEach kws X.env)).any (·.1.isNone)) = false := by rfl) : PE X (.Call (.Name x p) [] kws pos) (tMakeK C 0 ks.length sp gV E tNil tk) := by
  obtain ⟨f, fd, g, hm, M, F, hb⟩ := d
  exact pe_makeK0 M F hr hg hm hb hx hkw hall hks hdb hpl
theorem pe_mkn (d : MkK X.prog X.w X.K X.mg X.base CX x C ps k (n + 1) ks gV sp) (hr : Room (k + 1) X.A) (hx : Passes CX X E) (hg : Gl X x) (ha : PA X (e :: es) t) (hkw : PK X kws tk)
    (hall : (backToKw pos (keywordEach kws X.env)).all (·.1.isSome) = true := by rfl) (hks : (backToKw pos (keywordEach kws X.env)).filterMap (·.1) = ks := by rfl) (hdb : (x == ("__debug__" : Str)) = false := by decide)
    (he : starEach (e :: es) X.env = (false, eval e X.env) :: starEach es X.env := by rfl) (hpl : ((backTo pos (starEach (e :: es) X.env)).any (·.1) || (backToKw pos (keywordEach kws X.env)).any (·.1.isNone)) = false := by rfl) :
    PE X (.Call (.Name x p) (e :: es) kws pos) (tMakeK C n ks.length sp gV E t tk) := by
  obtain ⟨f, fd, g, hm, M, F, hb⟩ := d
  exact pe_makeK M F hr hg hm hb hx ha hkw hall hks hdb he hpl
theorem pe_cal (hf : PE X fe tf) (d : Cal X.prog X.w X.K X.mg X.base CX C ps k sp) (hr : Room k X.A) (hx : Passes CX X E) (ha : PA X (e :: es) t)
    (ht : eval (.Call fe (e :: es) [] pos) X.env = (do callWith pos (← eval fe X.env) [] (backTo pos (starEach (e :: es) X.env)) (backToKw pos (keywordEach [] X.env))) := by rfl)
    (he : starEach (e :: es) X.env = (false, eval e X.env) :: starEach es X.env := by rfl) (hpl : (backTo pos (starEach es X.env)).any (·.1) = false := by rfl) : PE X (.Call fe (e :: es) [] pos) (tCalO C sp E tf t) := by
  obtain ⟨g, fd, c, F, hb⟩ := d
  refine ⟨fun pins s σ H Q I h => ?_⟩
  refine Call_ (thn (hf.run pins s σ H _ I h) fun u s1 ⟨y, H1, I1, ry, a, ey, q⟩ => ?_) ht
  subst ey
  obtain rfl : u = Value.ref a := ry
  refine StX.callO_with (thn (ha.run pos pins s1 σ H1 _ I1 q) fun us s2 ⟨vs, H2, I2, r, hi, q2⟩ => ?_) he hpl
  have hi2 : StX.InsC X H2 a C := .inr hi
  obtain ⟨ox, od, J, hd⟩ := StX.insC_at I2 hi2
  exact ⟨⟨C, ox, od, J, hd⟩, StX.run_callO (sp := fun vs H Q E => sp (vs ++ []) H Q E) c (F.raw hb .nil) hr hx I2 hi2 r q2⟩
end
section
variable {X : Cx} (K : PySem.W.Frag)
theorem fldK {e : Expr} {ta : TE} {f : Str} {pos : Pos} (he : PE X e ta) (hb : attributeBase e f X.env (eval e X.env) = eval e X.env := by rfl) (h : X.K = K := by rfl) : PE X (.Attribute e f pos) (tFld K ta f) := h ▸ pe_fld he hb
theorem sfldK {o value : Expr} {ta tv : TE} {f : Str} {pos pos' : Pos} (ha : PE X o ta) (hv : PE X value tv) (hs : swapsWith value (some (.Attribute o f pos')) pos.line X.env = pure false := by rfl) (h : X.K = K := by rfl) :
    PS X (.Assign [.Attribute o f pos'] value pos) (sFld K ta tv f) := h ▸ ps_fld ha hv hs
theorem cvalK {e : Expr} {ta : TE} {f : Str} {pos : Pos} (he : PE X e ta) (hb : attributeBase e f X.env (eval e X.env) = eval e X.env := by rfl) (h : X.K = K := by rfl) : PE X (.Attribute e f pos) (ClX.tCVal K ta f) := h ▸ ClX.pe_cval he hb
end
/-- a call with keywords of a def without defaults -/
theorem _root_.L2.FunD.kbN {K : PySem.W.Frag} {x qual : Str} {params : Arguments} {body : List Stmt} {scope : Scope} {kws : List (Str × V)} {f : Addr} {fd : FuncData} {ps : List Str} (F : FunD K x qual params body scope [] kws f fd) (n : Nat) (ks : List Str)
    (h : ∀ (kV doc pm : Value) (an : Option Addr) (cdv ct : Value) (us ws : List Value), us.length = n → ws.length = ks.length → bindArgs (PySem.W.fnOf x qual params body scope .none kV doc pm an cdv ct) ⟨us, ks.zip ws⟩ = pure (ps.zip (us ++ ws))) :
    KBn K fd ps n ks (fun us ws => us ++ ws) (fun vs zs => vs ++ zs) := by
  obtain ⟨oc, od, dV, kV, doc, pm, an, cdv, ct, osl, rfl, lk, hcd, hD, hK⟩ := F.ex
  rcases hD with ⟨_, rfl⟩ | ⟨e, _⟩
  · exact ⟨fun s us ws _ l1 l2 => .of_eq (h kV doc pm an cdv ct us ws l1 l2), fun r1 r2 => r1.append r2⟩
  · exact absurd rfl e
/-! ### text += text; methods without arguments -/
theorem ip_addS {X : Cx} : PIp X .Add (fun x y H Q => ∃ i j, x = .str i ∧ y = .str j ∧ i.length + j.length ≤ sizeLine ∧ Q (.str (i ++ j)) H) := fun pins s σ H x y u v Q I rx ry h => iop_add_str pins s σ H x y u v Q I rx ry h
theorem pe_bm0' {X : Cx} (K : PySem.W.Frag) {T : String} {name : Str} {id : String} {r : V → List V → Hp → VK → Prop} {o : Expr} {to : TE} {apos cpos : Pos} (pa : PlainAttrs T) (slot : Slot T name id) (hty : typeOf (.builtin id) = pure (.type "method_descriptor")) (hm : MtR X id r) (ho : PE X o to) (h : X.K = K := by rfl)
    (hbase : attributeBase o name X.env (eval o X.env) = eval o X.env := by rfl) (hline : (apos.endLine == cpos.line) = true := by rfl) : PE X (.Call (.Attribute o name apos) [] [] cpos) (tBM0 K T r to) := h ▸ pe_bm0 pa slot hty hm ho hbase hline
theorem lenSet {X : Cx} (w : World) (h : X.w = w := by rfl) : CallR X (.builtin "len") (rLenSet w) := h ▸ cr_lenSet
open SX in
theorem srt_signs {l : List Nat} (nd : l.Nodup) : ∃ m : List Nat, srt (l.map fun c => S [c]) = m.map (fun c => S [c]) ∧ m.Pairwise (· < ·) ∧ ∀ c, c ∈ m ↔ c ∈ l := by
  obtain ⟨m, em, up, mm⟩ := ups_signs l
  refine ⟨m, ?_, up, mm⟩
  have n2 : (l.map fun c => S [c]).Nodup := List.pairwise_map.mpr (nd.imp fun {a b} h e => h (by simpa using S_inj e))
  rw [srt_set n2 (fun _ => Iff.rfl), em]
open SX in
theorem app_len (a b : Str) : (a ++ b).length = a.length + b.length := by
  show (a.cps ++ b.cps).size = a.cps.size + b.cps.size
  simp
open SX in
theorem S_app (a b : List Nat) : S a ++ S b = S (a ++ b) := by
  apply str_ext
  show (a.toArray ++ b.toArray).toList = a ++ b
  simp
theorem dig_len : ∀ n : Nat, n ≤ 9 → (toString (n : Int) : Str).length = 1 := by
  intro n hn
  have h : ∀ n : Fin 10, (toString ((n.val : Nat) : Int) : Str).length = 1 := by decide +kernel
  exact h ⟨n, by omega⟩
theorem dig_small (n : Nat) (hn : n ≤ 9) : (n : Int).natAbs.log2 < 1920 := by
  have h : ∀ n : Fin 10, ((n.val : Nat) : Int).natAbs.log2 < 1920 := by decide +kernel
  exact h ⟨n, by omega⟩
theorem pe_gr {X : Cx} {x : Str} {a : Addr} {pos : Pos} (hm : X.mg x = some (.ref a)) (hg : Gl X x := by rfl) (hdb : (x == ("__debug__" : Str)) = false := by decide) : PE X (.Name x pos) (tC (.ref a)) := pe_glob (v := .ref a) hg hm rfl hdb
open SX in
theorem joinL_flat : ∀ xs : List (List Nat), TL.joinL [] xs = xs.flatten
  | [] => rfl
  | [x] => by
    show x = _
    simp
  | x :: y :: r => by
    show x ++ ([] ++ TL.joinL [] (y :: r)) = _
    rw [joinL_flat (y :: r)]
    simp
open SX in
theorem join_flat (xs : List (List Nat)) : Txt.join (Str.ofString "") (xs.map S) = S xs.flatten := by
  show Txt.join (S []) (xs.map S) = _
  rw [SX.join_S, joinL_flat]
open SX in
theorem sum_le {xs : List (List Nat)} {n : Nat} (h : ∀ x ∈ xs, x.length ≤ n) : ((xs.map S).map (·.length)).sum ≤ xs.length * n := by
  induction xs with
  | nil => simp
  | cons x r ih =>
    have h1 := h x List.mem_cons_self
    have h2 := ih fun y hy => h y (List.mem_cons_of_mem _ hy)
    rw [List.map_cons, List.map_cons, List.sum_cons, S_len, List.length_cons, Nat.succ_mul]
    omega
/-! ### text[::-1] -/
def tRevS (te : TE) : TE := fun σ H Q => te σ H fun x H1 => ∃ z : Str, x = .str z ∧ z.length ≤ sizeLine ∧ Q (.str ⟨z.cps.toList.reverse.toArray⟩) H1
theorem rev_indices (z : Str) : ((Builtin.Str.strSliceIndices none none (-1) z.length).filterMap (z.cps[·]?)) = z.cps.toList.reverse := by
  have e : Builtin.Str.strSliceIndices none none (-1) z.length = sliceRange ((z.cps.size : Int) - 1) (-1) (-1) := rfl
  rw [e, PySem.W.krv_sliceRange, PySem.W.krv_range, List.filterMap_reverse, PySem.W.krv_all]
theorem pe_revS {X : Cx} {e : Expr} {te : TE} {k : Nat} {p1 p2 p3 pos : Pos} (he : PE X e te) : PE X (.Subscript e (.Slice none none (some (.UnaryOp .USub (.Constant (.int 1) k p1) p2)) p3) pos) (tRevS te) := by
  refine ⟨fun pins s σ H Q I h => ?_⟩
  refine Subscript_ (thn (he.run pins s σ H _ I h) fun v s1 ⟨x, H1, I1, r1, q1⟩ => ?_)
  obtain ⟨z, ex, hz, q⟩ := q1
  subst ex
  obtain ⟨t, rfl⟩ := r1
  have hst : PO X (some (.UnaryOp .USub (.Constant (.int 1) k p1) p2)) (tPart (tUn (rU fun i => .int (-i)) (tC (.int 1)))) := po_some (pe_un un_neg pe_int)
  refine wpAny_Slice (thn (po_none.run pins s1 σ H1 (fun o H2 => o = none ∧ H2 = H1) I1 ⟨rfl, rfl⟩) fun vl s2 ⟨l, H2, I2, pl, el, e2⟩ => ?_)
  subst el e2
  refine thn (po_none.run pins s2 σ H2 (fun o H3 => o = none ∧ H3 = H2) I2 ⟨rfl, rfl⟩) fun vu s3 ⟨u, H3, I3, pu, eu, e3⟩ => ?_
  subst eu e3
  refine thn (hst.run pins s3 σ H3 (fun o H4 => o = some (-1) ∧ H4 = H3) I3 ⟨1, rfl, -1, rfl, rfl, rfl⟩) fun vs s4 ⟨o, H4, I4, ps, eo, e4⟩ => ?_
  subst eo e4
  have I5 : Inv X pins σ H4 { s4 with heap := s4.heap.push { cls := .type "slice", data := .fields #[vl, vu, vs] } } := I4.kept (t' := s4.toks) fun b ob q => Heap.get?_push_of_some _ q
  show wpAny (model X.prog X.w) X.A (subscriptTail e (.Slice none none (some (.UnaryOp .USub (.Constant (.int 1) k p1) p2)) p3) (.str z t) (.ref s4.heap.objs.size)) (EP X pins σ Q) X.xe { s4 with heap := s4.heap.push { cls := .type "slice", data := .fields #[vl, vu, vs] } }
  refine tail_any (ops := [.str z t, .ref s4.heap.objs.size]) (typeIs_str _ _ _) (F.slot_str_getitem.lookup) ?_ (by with_unfolding_all rfl)
  obtain ⟨l', rfl, el⟩ := IsPart.raw pl
  obtain ⟨u', rfl, eu⟩ := IsPart.raw pu
  obtain ⟨st, rfl, es⟩ := IsPart.raw ps
  obtain ⟨os, hos, hcs, hds⟩ := Heap.IsSliceOf.new s4.heap (partValue l') (partValue u') (partValue st)
  refine wpAny_getItem_str_slice (l := l') (u := u') (st := st) ⟨os, hos, hcs, hds⟩ (by rw [es]; rfl) ?_
  cases l' with
  | some _ => cases el
  | none =>
    cases u' with
    | some _ => cases eu
    | none =>
      cases st with
      | none => cases es
      | some st =>
        obtain ⟨i, tk⟩ := st
        have ei : i = (-1 : Int) := Option.some.inj es
        subst ei
        show Made.post (if ((-1 : Int) == 1 && _) = true then Made.val (.str z t) else Made.str ⟨((Builtin.Str.strSliceIndices none none (-1) z.length).filterMap (z.cps[·]?)).toArray⟩) (EP X pins σ Q) _
        rw [if_neg (by simp), rev_indices]
        exact ⟨by simpa [PySem.Str.length] using hz, .str _, H4, I5.tok _, ⟨_, rfl⟩, q⟩
/-! ### heaps, cuts -/
/-- behind the making of an instance all stands that stood -/
theorem made_same {H H' : Hp} {x dx : Addr} {o u : HO} (nx : H x = none) (nd : H dx = none) (k : Kb x (upd (upd H dx o) x u) H') : Same H H' := fun b v hb => by
  have n1 : b ≠ x := ne_of_none hb nx
  have n2 : b ≠ dx := ne_of_none hb nd
  refine k b v n1 ?_
  rw [upd_ne n1, upd_ne n2]
  exact hb
theorem cut_take (l : List Nat) (n : Nat) : cutS (SX.S l) none (some (n : Int)) = SX.S (l.take n) := by
  unfold cutS
  rw [SX.S_len, HT.sIx_nat, HT.sIx_none]
  show (⟨((l.drop 0).take (min n l.length - 0)).toArray⟩ : Str) = ⟨(l.take n).toArray⟩
  rw [List.drop_zero, Nat.sub_zero, ← List.take_take, List.take_length]
/-! ### a head's facts of classes -/
section
open He
def creadB (x : Str) (K : PySem.W.Frag) : Bool := PySem.W.readsIn K (ga K x) (.type "type")
theorem creadB_ok {x : Str} {K : PySem.W.Frag} (h : creadB x K = true) : ClX.CRead K (ga K x) (.type "type") := by
  refine ⟨h, ?_⟩
  have h : PySem.W.readsIn K (ga K x) (.type "type") = true := h
  unfold PySem.W.readsIn at h
  obtain ⟨h, _⟩ := ba h
  obtain ⟨h, _⟩ := ba h
  obtain ⟨h, h3⟩ := ba h
  obtain ⟨_, h2⟩ := ba h
  unfold PySem.W.specialIn
  rw [beq_iff_eq.mp h2, Option.bind_some]
  exact beq_iff_eq.mp h3
def cfnB (x m : Str) (K : PySem.W.Frag) : Bool := match PySem.W.findCls K (.ref (ga K x)) (.type "type") m with
  | some (.val (.ref g)) => decide (g = ma K (ga K x) m)
  | _ => false
theorem cfnB_ok {x m : Str} {K : PySem.W.Frag} (h : cfnB x m K = true) : PySem.W.findCls K (.ref (ga K x)) (.type "type") m = some (.val (.ref (ma K (ga K x) m))) := by
  unfold cfnB at h
  split at h
  · rename_i g e
    rw [e, of_decide_eq_true h]
  · cases h
def calloB (x : Str) (K : PySem.W.Frag) : Bool := eqO (PySem.W.findIn K (.ref (ga K x)) "__call__") (some (some (.ref (ma K (ga K x) "__call__")))) && (PySem.W.isFn K (.ref (ma K (ga K x) "__call__")) && PySem.W.fnIn K (ma K (ga K x) "__call__"))
theorem calloB_ok {x : Str} {K : PySem.W.Frag} (h : calloB x K = true) : StX.CallO K (ga K x) (ma K (ga K x) "__call__") := by
  obtain ⟨c1, c⟩ := ba h
  obtain ⟨c2, c3⟩ := ba c
  exact ⟨eqO_ok c1, c2, c3⟩
/-- a class constant read off the class: an int -/
def cintB (x f : Str) (i : Int) (K : PySem.W.Frag) : Bool := match PySem.W.findCls K (.ref (ga K x)) (.type "type") f with
  | some (.val (.int j _)) => decide (j = i)
  | _ => false
theorem cintB_ok {x f : Str} {i : Int} {K : PySem.W.Frag} (h : cintB x f i K = true) : ∃ u, ClX.CVal K (ga K x) (.type "type") f (.int i) u := by
  unfold cintB at h
  split at h
  · rename_i j t e
    rw [of_decide_eq_true h] at e
    exact ⟨_, e, ⟨t, rfl⟩⟩
  · cases h
/-! the Hook -/
abbrev Ex := List (PySem.W.Frag → Bool)
def obsX (ex : Ex) (fa : List Fa) (fn : List DefD) (K : PySem.W.Frag) : AlD := ((ex.all fun f => f K) && (obsD fa fn K).1, (obsD fa fn K).2)
def SaysX (ex : Ex) (fa : List Fa) (fn : List DefD) (K : PySem.W.Frag) : Prop := obsX ex fa fn K = valD fn
def asX (g : Addr → Option Obj) (n : Nat) : List Addr := asD g n ++ [cStatics]
def obsXG (n : Nat) (ex : Ex) (fa : List Fa) (fn : List DefD) (g : Addr → Option Obj) : AlD := obsX ex fa fn (frG g (asX g n))
def hookX (n : Nat) (ex : Ex) (fa : List Fa) (fn : List DefD) : PySem.W.Hook where
  α := AlD
  obs := fun s => obsXG n ex fa fn s.heap.get?
  val := fun _ => valD fn
  says := fun _ h => ∃ K : PySem.W.Frag, K.In h ∧ SaysX ex fa fn K
  of := fun _ _ e => ⟨_, frG_in, e⟩
  keeps := fun _ _ _ ⟨K, hK, c⟩ k => ⟨K, PySem.W.Frag.In.keeps hK k, c⟩
theorem obsXG_eq {n : Nat} {ex : Ex} {fa : List Fa} {fn : List DefD} {g : Addr → Option Obj} {s : Shared} (h : ∀ a, g a = s.heap.get? a) : obsXG n ex fa fn g = (hookX n ex fa fn).obs s := by
  have e : g = s.heap.get? := funext h
  rw [e] <;> rfl
section
variable {ex : Ex} {fa : List Fa} {fn : List DefD} {K : PySem.W.Frag}
theorem SaysX.d (c : SaysX ex fa fn K) : SaysD fa fn K := by
  have c1 := (ba (show ((ex.all fun f => f K) && (obsD fa fn K).1) = true from congrArg (fun z : AlD => z.1) c)).2
  have c0 : obsX ex fa fn K = valD fn := c
  have c2 : (obsX ex fa fn K).2 = (valD fn).2 := by rw [c0]
  exact Prod.ext c1 c2
theorem SaysX.more (c : SaysX ex fa fn K) (i : Nat) {f : PySem.W.Frag → Bool} (h : ex[i]? = some f := by rfl) : f K = true := by
  have c1 := (ba (show ((ex.all fun f => f K) && (obsD fa fn K).1) = true from congrArg (fun z : AlD => z.1) c)).1
  exact List.all_eq_true.mp c1 f (List.mem_of_getElem? h)
end
end
end Fw

set_option maxRecDepth 100000
set_option maxHeartbeats 4000000
namespace La
open PySem PySem.Spec PyProof.Rows L2 Fw SX
def topS (i : Nat) : Stmt := PySem.Challenge.pw_foundaswritten_k07_doubles_and_cut.main.body.getD i (.Pass ⟨0, 0, 0, 0⟩)
/-! ### the law's own draws -/
/-- a bag: what is left of the cell, whether it is used, the rest -/
def IsBag (H : Hp) (b : Addr) : Prop := ∃ c f r : Int, H b = some (.lst [.int c, .int f, .int r])
def spBag (K : PySem.W.Frag) : Sp := fun vs H Q _ => ∃ (a : Addr) (ns : List Int) (k : Int), vs = [.ref a, .int k] ∧ SqL K H a (ns.map V.int) ∧ 0 ≤ k ∧
  ∀ b H', H b = none → Same H H' → IsBag H' b → Q (.ref b) H'
def spDraw : Sp := fun vs H Q _ => ∃ (b : Addr) (m : Int), vs = [.ref b, .int m] ∧ IsBag H b ∧ 0 < m ∧ m < 2 ^ 200 ∧
  ∀ i H', 0 ≤ i → i < m → Kb b H H' → IsBag H' b → Q (.int i) H'
abbrev s_law_bag : Stmt := topS 18
abbrev N_law_bag : List Str := ["_law_script", "_law_k", "_law_cell", "_law_rest", "_law_one"]
theorem sc_law_bag : FnScope N_law_bag ["_law_script", "_law_k"] (defScope s_law_bag) := ⟨rfl, rfl, rfl, by decide +kernel, rfl, by decide +kernel, by decide +kernel⟩
abbrev s_law_draw : Stmt := topS 19
abbrev N_law_draw : List Str := ["_law_bag_here", "_law_many", "_law_digit"]
theorem sc_law_draw : FnScope N_law_draw ["_law_bag_here", "_law_many"] (defScope s_law_draw) := ⟨rfl, rfl, rfl, by decide +kernel, rfl, by decide +kernel, by decide +kernel⟩
section
variable {P : Program} {w : World} {K : PySem.W.Frag} {mg : Str → Option Value} {base : Heap} {f : Addr} {fd : FuncData} {k : Nat}
abbrev FnP (K : PySem.W.Frag) (x : Str) (st : Stmt) (f : Addr) (fd : FuncData) : Prop := FunD K x x (defArgs st) (defBody st) (defScope st) [] [] f fd
theorem small_mul (i j : Int) (h : -(2 ^ 64) < j ∧ j < 2 ^ 64) : CMul i j := .inr h
theorem div_ok {i j : Int} (h : 0 < j) (h2 : j < 2 ^ 200) : CDivW i j := wide_div (b := 200) h (by omega) (by decide) (by decide)
theorem ok_draw (F : FnP K "_law_draw" s_law_draw f fd) (m_int : mg "int" = none) : FnOk P w K mg base CX0 (k + 1) f fd ["_law_bag_here", "_law_many"] spDraw := by
  refine F.ok sc_law_draw (fun vs H Q E h => ?_) (fun cdv A outer s H vs Q E hr h => ⟨_, PSs.nox (pss_cons (ps_if (PW.pt (pw_and (pt_cmpR op_eq (pe_ix (ixL K) (pv 0) pe_int (fun _ _ => rfl)) pe_int (nomark _)) (pw_and1 (pt_cmpR op_gt (pe_ix (ixL K) (pv 0) pe_int (fun _ _ => rfl)) pe_int (nomark _))))) (pss_cons (ps_set (i := 2) sc_law_draw.nd rfl (Or.inl rfl) (pe_op op_mod (pe_callTy call_int1 (by rfl) m_int (by decide +kernel) (pa_cons (pe_ix (ixL K) (pv 0) pe_int (fun _ _ => rfl)) pa_nil)) (pv 1)))
      (pss_cons (ps_asg (pe_op op_fdivW (pe_ix (ixL K) (pv 0) pe_int (fun _ _ => rfl)) (pv 1)) (pg_sub (pv 0) pe_int set_list))
      (pss_one (ps_ret (pv 2))))) pss_nil)
      (pss_cons (ps_asg (pe_op op_mod (pe_callTy call_int1 (by rfl) m_int (by decide +kernel) (pa_cons (pe_op op_add (pe_op op_mul (pe_ix (ixL K) (pv 0) pe_int (fun _ _ => rfl)) pe_int) pe_int) pa_nil)) pe_int) (pg_sub (pv 0) pe_int set_list))
      (pss_one (ps_ret (pe_op op_mod (pe_op op_mod (pe_callTy call_int1 (by rfl) m_int (by decide +kernel) (pa_cons (pe_op op_add (pe_op op_mul (pe_op op_fdivW (pe_ix (ixL K) (pv 0) pe_int (fun _ _ => rfl)) pe_int) pe_int) (pe_ix (ixL K) (pv 0) pe_int (fun _ _ => rfl))) pa_nil)) pe_int) (pv 1)))))), ?_⟩)
  · obtain ⟨b, m, rfl, _⟩ := h
    rfl
  · obtain ⟨b, m, rfl, ⟨c, u, r, hb⟩, h0, h1, q⟩ := h
    have more : ∀ c u r : Int, IsBag (upd H b (.lst [.int c, .int u, .int r])) b := fun c u r => ⟨c, u, r, upd_same⟩
    refine ⟨.ref b, rfl, b, _, 1, .int u, rfl, rfl, SqL.of hb, rfl, rfl, _, rfl, ite2 (fun e => ⟨.ref b, rfl, b, _, 0, .int c, rfl, rfl, SqL.of hb, rfl, _, _, rfl, rfl, _, rfl, ite2 (fun e2 => ?fast) (fun e2 => ?_)⟩) (fun e => ?_)⟩
    case fast =>
      refine ⟨_, rfl, _, _, 0, .int c, rfl, rfl, SqL.of hb, rfl, .inl ⟨_, rfl, _, rfl, _, _, rfl, rfl, h0, ?_⟩⟩
      refine ⟨_, rfl, _, _, 0, .int c, rfl, rfl, SqL.of hb, rfl, _, rfl, _, _, rfl, rfl, div_ok h0 h1, _, rfl, _, _, 0, 0, rfl, rfl, hb, rfl, ?_⟩
      refine ⟨_, rfl, q _ _ (Int.emod_nonneg _ (by omega)) (Int.emod_lt_of_pos _ h0) (Kb.refl b H).upd (more _ _ _)⟩
    all_goals
      refine ⟨_, rfl, _, _, 2, .int r, rfl, rfl, SqL.of hb, rfl, _, _, rfl, rfl, small_mul _ _ (by decide), _, _, rfl, rfl, .inl ⟨_, rfl, _, _, rfl, rfl, (by show (0 : Int) < 2147483563; decide), _, rfl, _, _, 2, 2, rfl, rfl, hb, rfl, ?_⟩⟩
      refine ⟨_, rfl, _, _, 2, _, rfl, rfl, SqL.of upd_same, rfl, _, _, rfl, rfl, div_ok (by decide) (by decide), _, _, rfl, rfl, small_mul _ _ (by decide), _, rfl, _, _, 2, _, rfl, rfl, SqL.of upd_same, rfl, _, _, rfl, rfl, .inl ⟨_, rfl, _, _, rfl, rfl, (by show (0 : Int) < 2147483399; decide), _, rfl, _, _, rfl, rfl, h0, ?_⟩⟩
      exact q _ _ (Int.emod_nonneg _ (by omega)) (Int.emod_lt_of_pos _ h0) (Kb.refl b H).upd (more _ _ _)
theorem ok_bag (F : FnP K "_law_bag" s_law_bag f fd) (m_int : mg "int" = none) (m_len : mg "len" = none) : FnOk P w K mg base CX0 (k + 1) f fd ["_law_script", "_law_k"] (spBag K) := by
  refine F.ok sc_law_bag (fun vs H Q E h => ?_) (fun cdv A outer s H vs Q E hr h => ⟨_, PSs.nox (pss_cons (ps_set (i := 2) sc_law_bag.nd rfl (Or.inl rfl) (pe_ifExp (pt_cmpR op_lt (pv 1) (pe_callB (lenC K) (by rfl) m_len (by decide +kernel) (pa_cons (pv 0) pa_nil)) (nomark _)) (pe_ix (ixL K) (pv 0) (pv 1) (fun _ _ => rfl)) pe_int))
      (pss_cons (ps_set (i := 3) sc_law_bag.nd rfl (Or.inl rfl) (pe_op op_add (pv 1) pe_int))
      (pss_cons (ps_for PassesOwn.never rfl (piL K (pe_slice (slL K) (pv 0) po_none (po_some pe_int))) (pg_name (i := 4) sc_law_bag.nd rfl (Or.inl rfl))
        (pss_one (ps_set (i := 3) sc_law_bag.nd rfl (Or.inl rfl) (pe_op op_mod (pe_callTy call_int1 (by rfl) m_int (by decide +kernel) (pa_cons (pe_op op_add (pe_op op_mul (pv 3) pe_int) (pv 4)) pa_nil)) pe_int))))
      (pss_one (ps_ret (pe_lst (pa_cons (pv 2) (pa_cons (pe_callTy call_int1 (by rfl) m_int (by decide +kernel) (pa_cons (pe_cmpR op_ge (pv 2) (pe_op op_pow pe_int pe_int) (nomark _)) pa_nil)) (pa_cons (pv 3) pa_nil))))))))), ?_⟩)
  · obtain ⟨b, m, k, rfl, _⟩ := h
    rfl
  · obtain ⟨a, ns, k, rfl, hS, h0, q⟩ := h
    refine ⟨_, rfl, _, rfl, _, _, rfl, .inl ⟨_, hS, rfl⟩, _, _, rfl, rfl, _, rfl, ite2 (fun e1 => ?one) (fun e1 => ?two)⟩
    case' one =>
      have hk : k < ((ns.map V.int).length : Int) := of_decide_eq_true e1
      obtain ⟨v, hv, ha⟩ := at_int h0 hk
      obtain ⟨z, _, rfl⟩ := map_at hv
      refine ⟨_, rfl, _, rfl, _, _, k, _, rfl, rfl, hS, ha, ?_⟩
    all_goals
      refine ⟨_, rfl, _, _, rfl, rfl, ?_⟩
      obtain ⟨ms, em, _⟩ := cut_map V.int ns none (some 63)
      refine ⟨_, rfl, 63, rfl, _, _, rfl, hS, fun c nc => ⟨c, rfl, ⟨_, SqL.of upd_same⟩, ?_⟩⟩
      rw [em]
      refine for_it (walk_list (xs := ms.map V.int)) (fun i σ H2 => ∃ (rest : Int) (y : Option V), σ = [some (.ref a), some (.int k), _, some (.int rest), y] ∧ H2 = upd H c (.lst (ms.map V.int))) ⟨_, _, rfl, rfl⟩ (fun i σ H2 _ h => ?_) (fun i x σ H2 H3 hi h y => ?_) (fun σ H2 h => ?_)
      · obtain ⟨rest, y, rfl, rfl⟩ := h
        exact SqL.of upd_same
      · obtain ⟨rest, y0, rfl, rfl⟩ := h
        obtain ⟨rfl, hx⟩ := y
        obtain ⟨z1, _, rfl⟩ := map_at hx
        exact ⟨_, rfl, _, _, rfl, rfl, small_mul _ _ (by decide), _, rfl, _, _, rfl, rfl, .inl ⟨_, rfl, _, _, rfl, rfl, (by show (0 : Int) < 2147483647; decide), _, _, rfl, rfl⟩⟩
      · obtain ⟨rest, y0, rfl, rfl⟩ := h
        refine ⟨_, rfl, _, rfl, _, _, rfl, rfl, ⟨by decide, by decide, by decide⟩, _, _, rfl, rfl, .inr ⟨_, rfl, _, rfl, (by show 3 ≤ sizeLine; decide), fun p np => ?_⟩⟩
        have nH : H p = none := by
          have hpc : p ≠ c := fun z => by rw [z, upd_same] at np; cases np
          rw [upd_ne hpc] at np
          exact np
        exact q p _ nH ((Same.upd nc).mut nH) ⟨_, _, _, upd_same⟩
end
/-! ### texts drawn -/
theorem bag_ne {H : Hp} {b p : Addr} (hb : IsBag H b) (np : H p = none) : b ≠ p := by
  obtain ⟨c, u, r, e⟩ := hb
  exact ne_of_none e np
theorem IsBag.keep {H : Hp} {b p : Addr} {o : HO} (hb : IsBag H b) (n : b ≠ p) : IsBag (upd H p o) b := by
  obtain ⟨c, u, r, e⟩ := hb
  exact ⟨c, u, r, by rw [upd_ne n]; exact e⟩
theorem IsBag.new {H : Hp} {b p : Addr} {o : HO} (hb : IsBag H b) (np : H p = none) : IsBag (upd H p o) b := hb.keep (bag_ne hb np)
def spChars : Sp := fun vs H Q _ => vs = [] ∧ Q (.str (S charsL)) H
/-- x is walked and indexed sign by sign: cs -/
def SignSrc (K : PySem.W.Frag) (H : Hp) (x : V) (cs : List Nat) : Prop := x = .str (S cs) ∨ ∃ a, x = .ref a ∧ SqL K H a (cs.map fun c => V.str (S [c]))
def spString (K : PySem.W.Frag) : Sp := fun vs H Q _ => ∃ (b : Addr) (x : V) (cs : List Nat) (lo hi : Int), vs = [.ref b, x, .int lo, .int hi] ∧ IsBag H b ∧ SignSrc K H x cs ∧ x ≠ .ref b ∧ 0 < cs.length ∧ cs.length ≤ 100000 ∧
  0 ≤ lo ∧ lo ≤ hi ∧ hi ≤ 100000 ∧ ∀ l H', (∀ c ∈ l, c ∈ cs) → lo ≤ (l.length : Int) → (l.length : Int) ≤ hi → Kb b H H' → IsBag H' b → Q (.str (S l)) H'
abbrev s_law_characters : Stmt := topS 20
abbrev N_law_characters : List Str := []
theorem sc_law_characters : FnScope N_law_characters [] (defScope s_law_characters) := ⟨rfl, rfl, rfl, by decide +kernel, rfl, by decide +kernel, by decide +kernel⟩
abbrev s_law_string : Stmt := topS 21
abbrev N_law_string : List Str := ["_law_bag_here", "_law_signs", "_law_least", "_law_most", "_law_size", "_law_k"]
theorem sc_law_string : FnScope N_law_string ["_law_bag_here", "_law_signs", "_law_least", "_law_most"] (defScope s_law_string) := ⟨rfl, rfl, rfl, by decide +kernel, rfl, by decide +kernel, by decide +kernel⟩
section
variable {P : Program} {w : World} {K : PySem.W.Frag} {mg : Str → Option Value} {base : Heap} {f : Addr} {fd : FuncData} {k : Nat}
theorem ok_chars (F : FnP K "_law_characters" s_law_characters f fd) : FnOk P w K mg base CX0 (k + 1) f fd [] spChars := by
  refine F.ok sc_law_characters (fun vs H Q E h => ?_) (fun cdv A outer s H vs Q E hr h => ⟨_, PSs.nox (pss_one (ps_ret pe_str)), ?_⟩)
  · obtain ⟨rfl, _⟩ := h
    rfl
  · obtain ⟨rfl, q⟩ := h
    have e : (PySem.Str.ofString "'-ABCDEFGHIJKLMNOPQRSTUVWXYZabcdefghijklmnopqrstuvwxyz") = S charsL := by decide +kernel
    show Q (.str (PySem.Str.ofString "'-ABCDEFGHIJKLMNOPQRSTUVWXYZabcdefghijklmnopqrstuvwxyz")) H
    rw [e]
    exact q
theorem SignSrc.keep {b : Addr} {H H' : Hp} {x : V} {cs : List Nat} (h : SignSrc K H x cs) (n : x ≠ .ref b) (k : Kb b H H') : SignSrc K H' x cs := by
  rcases h with h | ⟨a, rfl, h⟩
  · exact .inl h
  · exact .inr ⟨a, rfl, k.seqL (fun z => n (by rw [z])) h⟩
theorem SignSrc.len {H : Hp} {x : V} {cs : List Nat} (h : SignSrc K H x cs) (hl : cs.length ≤ 100000) : LenV K x H cs.length := by
  have z := sizeLine_eq
  rcases h with rfl | ⟨a, rfl, h⟩
  · exact ⟨by rw [S_len]; omega, (S_len cs).symm⟩
  · exact .inl ⟨_, h, by simp⟩
theorem SignSrc.at_ {H : Hp} {x : V} {cs : List Nat} {i : Int} {Q : VK} (h : SignSrc K H x cs) (hl : cs.length ≤ 100000) (h0 : 0 ≤ i) (h1 : i < (cs.length : Int)) (q : ∀ c, c ∈ cs → Q (.str (S [c])) H) : rIx K x (.int i) H Q := by
  have z := sizeLine_eq
  have hlt : i.toNat < cs.length := by omega
  rcases h with rfl | ⟨a, rfl, h⟩
  · refine .inr (.inr ⟨_, i, cs[i.toNat], rfl, rfl, by rw [S_len]; omega, ?_, q _ (List.getElem_mem hlt)⟩)
    obtain ⟨v, hv, ha⟩ := at_int h0 h1
    rw [List.getElem?_eq_getElem hlt] at hv
    cases hv
    exact ha
  · obtain ⟨v, hv, ha⟩ := at_int (xs := cs.map fun c => V.str (S [c])) h0 (by simpa using h1)
    obtain ⟨c, hc, rfl⟩ := map_at hv
    exact .inl ⟨a, _, i, _, rfl, rfl, h, ha, q c (List.mem_of_getElem? hc)⟩
theorem ok_string (F : FnP K "_law_string" s_law_string f fd) (d_law_draw : Dfn P w K mg base CX0 "_law_draw" ["_law_bag_here", "_law_many"] 1 spDraw) (m_len : mg "len" = none) (m_range : mg "range" = none) :
    FnOk P w K mg base CX0 2 f fd ["_law_bag_here", "_law_signs", "_law_least", "_law_most"] (spString K) := by
  have z := sizeLine_eq
  refine F.ok sc_law_string (fun vs H Q E h => ?_) (fun cdv A outer s H vs Q E hr h => ⟨_, PSs.nox (pss_cons (ps_set (i := 4) sc_law_string.nd rfl (Or.inl rfl) (pe_op op_add (pv 2) (pe_d d_law_draw (hr.mono (by decide)) (by rfl) (pa_cons (pv 0) (pa_cons (pe_op op_add (pe_op op_sub (pv 3) (pv 2)) pe_int) pa_nil)))))
      (pss_one (ps_ret (joinC K pe_str (pe_lc (own := [("_law_k", 5)]) rfl sc_law_string.nd (pi_range1 (by rfl) m_range (pa_cons (pv 4) pa_nil)) (blkOk_by (own := [("_law_k", 5)]) (N := N_law_string) (sc := defScope s_law_string) (by decide +kernel)) (fun _ _ _ _ _ => (pg_name (i := 5) sc_law_string.nd rfl (Or.inl rfl))) (fun _ _ _ _ _ => pts_nil) (fun _ _ _ _ _ => (pe_ix (ixQ K) (pv 1) (pe_d d_law_draw (hr.mono (by decide)) (by rfl) (pa_cons (pv 0) (pa_cons (pe_callB (lenC K) (by rfl) m_len (by decide +kernel) (pa_cons (pv 1) pa_nil)) pa_nil))) (fun _ _ => rfl)))))))), ?_⟩)
  · obtain ⟨b, x, cs, lo, hi, rfl, _⟩ := h
    rfl
  · obtain ⟨b, x, cs, lo, hi, rfl, hb, hx, nx, c0, c1, l0, l1, l2, q⟩ := h
    refine ⟨_, rfl, _, rfl, _, rfl, _, rfl, _, _, rfl, rfl, _, _, rfl, rfl, b, _, rfl, hb, (by omega), (by omega), fun i H1 i0 i1 k1 b1 => ⟨_, _, rfl, rfl, ?_⟩⟩
    refine ⟨⟨_, rfl⟩, _, rfl, _, rfl, (by omega), (by omega), fun D nD => ?_⟩
    have nDb : D ≠ b := fun e => by
      obtain ⟨_, _, _, e2⟩ := b1
      rw [e, e2] at nD
      cases nD
    refine lc_it walk_range (fun j H2 => ∃ l : List Nat, l.length = j ∧ (∀ c ∈ l, c ∈ cs) ∧ H2 D = some (.lst (l.map fun c => V.str (S [c]))) ∧ Kb b H H2 ∧ IsBag H2 b)
      ⟨[], rfl, by simp, upd_same, k1.new (k1.freeOf nDb nD), ?_⟩ (fun _ _ _ _ => trivial) (fun j v H2 H3 hj h y => ?_) (fun H2 h => ?_)
    · obtain ⟨c, u, r, e⟩ := b1
      exact ⟨c, u, r, by rw [upd_ne nDb.symm]; exact e⟩
    · obtain ⟨l, hl, hm, hD, hk, hb2⟩ := h
      obtain ⟨rfl, rfl⟩ := y
      have hx2 := hx.keep nx hk
      refine ⟨rfl, _, rfl, _, rfl, _, rfl, _, _, rfl, hx2.len c1, b, _, rfl, hb2, (by omega), (by omega), fun i2 H4 j0 j1 k4 b4 => ?_⟩
      refine (hx2.keep nx k4).at_ c1 j0 j1 fun c hc => ⟨_, k4 D _ nDb hD, ?_, l ++ [c], by simp [hl], ?_, ?_, ?_, ?_⟩
      · rw [List.length_map]; omega
      · intro d hd
        rcases List.mem_append.mp hd with e | e
        · exact hm d e
        · rw [List.mem_singleton.mp e]; exact hc
      · rw [upd_same, List.map_append]; rfl
      · exact (hk.trans k4).new (k1.freeOf nDb nD)
      · obtain ⟨c3, u3, r3, e⟩ := b4
        exact ⟨c3, u3, r3, by rw [upd_ne nDb.symm]; exact e⟩
    · obtain ⟨l, hl, hm, hD, hk, hb2⟩ := h
      have e0 : PySem.Str.ofString "" = S [] := by decide +kernel
      have em : (l.map fun c => V.str (S [c])) = (l.map fun c => S [c]).map V.str := by rw [List.map_map]; rfl
      refine ⟨_, D, l.map fun c => S [c], rfl, rfl, .inl (SqL.of (by rw [← em]; exact hD)), ?_, ?_⟩
      · rw [sum_one, List.length_map, e0, S_len]
        simp
        omega
      · rw [e0, join_signs]
        exact q l H2 hm (by omega) (by omega) hk hb2
end

/-! ### texts.py, checks.py: words, integers -/
abbrev FnM (K : PySem.W.Frag) (x q : Str) (st : Stmt) (f : Addr) (fd : FuncData) : Prop := FunD K x q (defArgs st) (defBody st) (defScope st) [] [] f fd
def allIn (l cs : List Nat) : Bool := l.all fun c => decide (c ∈ cs)
def spMade : Sp := fun vs H Q _ => ∃ l cs : List Nat, vs = [.str (S l), .str (S cs)] ∧ l.length ≤ 100000 ∧ ∀ H', Same H H' → Q (.bl (!decide (l = []) && allIn l cs)) H'
def spIsInt : Sp := fun vs H Q _ => ∃ v lo hi : Int, vs = [.int v, .int lo, .int hi] ∧ Q (.bl (decide (lo ≤ v) && decide (v ≤ hi))) H
/-- a word: not empty, of characters -/
def Wd (l : List Nat) : Prop := l ≠ [] ∧ (∀ c ∈ l, c ∈ charsL) ∧ l.length ≤ 100000
def spCheck : Sp := fun vs H Q _ => ∃ l : List Nat, vs = [.str (S l)] ∧ Wd l ∧ ∀ H', Same H H' → Q .non H'
abbrev s_is_made_of : Stmt := topS 7
abbrev N_is_made_of : List Str := ["value", "signs", "sign"]
theorem sc_is_made_of : FnScope N_is_made_of ["value", "signs"] (defScope s_is_made_of) := ⟨rfl, rfl, rfl, by decide +kernel, rfl, by decide +kernel, by decide +kernel⟩
abbrev s_is_integer : Stmt := topS 8
abbrev N_is_integer : List Str := ["value", "low", "high"]
theorem sc_is_integer : FnScope N_is_integer ["value", "low", "high"] (defScope s_is_integer) := ⟨rfl, rfl, rfl, by decide +kernel, rfl, by decide +kernel, by decide +kernel⟩
abbrev s_check_word : Stmt := topS 11
abbrev N_check_word : List Str := ["word"]
theorem sc_check_word : FnScope N_check_word ["word"] (defScope s_check_word) := ⟨rfl, rfl, rfl, by decide +kernel, rfl, by decide +kernel, by decide +kernel⟩
section
variable {P : Program} {w : World} {K : PySem.W.Frag} {mg : Str → Option Value} {base : Heap} {f : Addr} {fd : FuncData} {k : Nat}
theorem ok_made_of (F : FnP K "is_made_of" s_is_made_of f fd) (m_isinstance : mg "isinstance" = none) (m_str : mg "str" = none) (m_all : mg "all" = none) : FnOk P w K mg base CX0 (k + 1) f fd ["value", "signs"] spMade := by
  have z := sizeLine_eq
  refine F.ok sc_is_made_of (fun vs H Q E h => ?_) (fun cdv A outer s H vs Q E hr h => ⟨_, PSs.nox (pss_one (ps_ret (pe_and (pe_callB (isiC K) (by rfl) m_isinstance (by decide +kernel) (pa_cons (pv 0) (pa_cons (pe_bltn (v := .ty "str") (by rfl) m_str (by decide +kernel) rfl) pa_nil))) (pe_and (pe_cmpR op_ne (pv 0) pe_str (nomark _)) (pe_one (pe_callB (allC K rfl) (by rfl) m_all (by decide +kernel) (pa_cons (pe_lc (own := [("sign", 2)]) rfl sc_is_made_of.nd (pi_str (pv 0)) (blkOk_by (own := [("sign", 2)]) (N := N_is_made_of) (sc := defScope s_is_made_of) (by decide +kernel)) (fun _ _ _ _ _ => (pg_name (i := 2) sc_is_made_of.nd rfl (Or.inl rfl))) (fun _ _ _ _ _ => pts_nil) (fun _ _ _ _ _ => (pe_cmpR op_in_sign (pv 2) (pv 1) rfl))) pa_nil))))))), ?_⟩)
  · obtain ⟨l, cs, rfl, _⟩ := h
    rfl
  · obtain ⟨l, cs, rfl, hl, q⟩ := h
    refine ⟨_, rfl, _, _, _, _, true, rfl, .ty "str", .base (.str _), kit_ty (by decide +kernel), _, rfl, _, rfl, rfl, _, rfl, ite2 (fun e1 => ?_) (fun e1 => ?_)⟩
    · have e0 : l ≠ [] := fun e => by
        subst e
        exact absurd e1 (by decide)
      refine ⟨_, rfl, _, rfl, fun D nD => ?_⟩
      refine lc_it walk_str (fun j H2 => H2 D = some (.lst (((l.take j).map fun c => decide (c ∈ cs)).map V.bl)) ∧ Same H H2) ⟨upd_same, Same.upd nD⟩ (fun _ _ _ _ => trivial) (fun j v H2 H3 hj h y => ?_) (fun H2 h => ?_)
      · obtain ⟨hD, sm⟩ := h
        obtain ⟨rfl, c, hc, rfl⟩ := y
        have hc2 : l[j]? = some c := by
          rw [← hc]
          exact (Array.getElem?_toList (xs := (S l).cps)).symm ▸ rfl
        refine ⟨rfl, _, rfl, _, rfl, c, _, rfl, rfl, _, hD, ?_, ?_, sm.mut nD⟩
        · rw [List.length_map, List.length_map, List.length_take]; omega
        · rw [upd_same, List.take_add_one, hc2]
          simp
      · obtain ⟨hD, sm⟩ := h
        have hs : (S l).cps.size = l.length := S_len l
        rw [hs, List.take_length] at hD
        refine ⟨D, _, rfl, SqL.of hD, ?_⟩
        have e2 : ((l.map fun c => decide (c ∈ cs)).all id) = (!decide (l = []) && allIn l cs) := by
          rw [decide_eq_false e0, List.all_map]
          rfl
        show Q (.bl _) H2
        rw [e2]
        exact q _ sm
    · have e0 : l = [] := by
        cases l with
        | nil => rfl
        | cons a r =>
          have e2 : S (a :: r) ≠ Str.ofString "" := fun e => by
            have e3 := congrArg PySem.Str.length e
            rw [S_len] at e3
            exact absurd e3 (Nat.succ_ne_zero _)
          exact absurd (show (!decide (V.str (S (a :: r)) = V.str (Str.ofString ""))) = true by rw [decide_eq_false fun e => e2 (V.str.inj e)]; rfl) e1
      subst e0
      exact q _ (fun _ _ h => h)
theorem ok_is_integer (F : FnP K "is_integer" s_is_integer f fd) (m_isinstance : mg "isinstance" = none) (m_int : mg "int" = none) (m_bool : mg "bool" = none) : FnOk P w K mg base CX0 (k + 1) f fd ["value", "low", "high"] spIsInt := by
  refine F.ok sc_is_integer (fun vs H Q E h => ?_) (fun cdv A outer s H vs Q E hr h => ⟨_, PSs.nox (pss_one (ps_ret (pe_and (pe_callB (isiC K) (by rfl) m_isinstance (by decide +kernel) (pa_cons (pv 0) (pa_cons (pe_bltn (v := .ty "int") (by rfl) m_int (by decide +kernel) rfl) pa_nil))) (pe_and (pe_not (pe_callB (isiC K) (by rfl) m_isinstance (by decide +kernel) (pa_cons (pv 0) (pa_cons (pe_bltn (v := .ty "bool") (by rfl) m_bool (by decide +kernel) rfl) pa_nil)))) (pe_one (pe_chain op_le op_le (pv 1) (pv 0) (pv 2))))))), ?_⟩)
  · obtain ⟨v, lo, hi, rfl, _⟩ := h
    rfl
  · obtain ⟨v, lo, hi, rfl, q⟩ := h
    refine ⟨_, rfl, _, _, _, _, true, rfl, .ty "int", .base (.int _), kit_ty (by decide +kernel), _, rfl, _, rfl, _, _, _, _, false, rfl, .ty "bool", .base (.int _), kit_ty (by decide +kernel), _, rfl, _, rfl, _, rfl, _, rfl, _, _, rfl, rfl, _, rfl, ite2 (fun e1 => ⟨_, rfl, _, _, rfl, rfl, ?_⟩) (fun e1 => ?_)⟩
    · rw [show (decide (lo ≤ v) && decide (v ≤ hi)) = decide (v ≤ hi) by rw [e1]; rfl] at q
      exact q
    · rw [show (decide (lo ≤ v) && decide (v ≤ hi)) = false by rw [Bool.eq_false_iff.mpr e1]; rfl] at q
      exact q
theorem ok_check_word (F : FnP K "check_word" s_check_word f fd) (d_is_made_of : Dfn P w K mg base CX0 "is_made_of" ["value", "signs"] 1 spMade) {tC : Tok} (g_CHARACTERS : mg "CHARACTERS" = some (.str (S charsL) tC)) : FnOk P w K mg base CX0 2 f fd ["word"] spCheck := by
  refine F.ok sc_check_word (fun vs H Q E h => ?_) (fun cdv A outer s H vs Q E hr h => ⟨_, PSs.nox (pss_one (ps_if (pt_not (pt_val (pe_d d_is_made_of (hr.mono (by decide)) (by rfl) (pa_cons (pv 0) (pa_cons (pe_gs g_CHARACTERS) pa_nil))))) (pss_one ps_never) pss_nil)), ?_⟩)
  · obtain ⟨l, rfl, _⟩ := h
    rfl
  · obtain ⟨l, rfl, ⟨h0, h1, h2⟩, q⟩ := h
    refine ⟨_, rfl, l, _, rfl, h2, fun H' sm => ?_⟩
    have e : (!decide (l = []) && allIn l charsL) = true := by
      rw [decide_eq_false h0]
      exact List.all_eq_true.mpr fun c hc => decide_eq_true (h1 c hc)
    exact ⟨true, congrArg V.bl e, q _ sm⟩
end

/-! ### steps.py: Step, Bounded -/
/-- what a step's class must have -/
def StC (K : PySem.W.Frag) (C : Addr) : Prop := Cls K C ∧ NoAttr K C "letters" ∧ NoAttr K C "line"
/-- m: the signs of l, ascending, once -/
def UpsOf (m l : List Nat) : Prop := m.Pairwise (· < ·) ∧ ∀ c, c ∈ m ↔ c ∈ l
def spStepI (K : PySem.W.Frag) : Sp := fun vs H Q _ => ∃ (x C dx : Addr) (fs : List (Str × V)) (l : List Nat) (line : Str), vs = [.ref x, .str (S l), .str line] ∧ H x = some (.ins C dx fs) ∧ StC K C ∧ fs.length < 900 ∧ l.length ≤ 4000 ∧
  ∀ m H', UpsOf m l → Kb x H H' → H' x = some (.ins C dx (putF "line" (.str line) (putF "letters" (.str (S m)) fs))) → Q .non H'
abbrev s_Step_init : Stmt := inClass (topS 13) 0
abbrev N_Step_init : List Str := ["self", "letters", "line"]
theorem sc_Step_init : FnScope N_Step_init ["self", "letters", "line"] (defScope s_Step_init) := ⟨rfl, rfl, rfl, by decide +kernel, rfl, by decide +kernel, by decide +kernel⟩
section
variable {P : Program} {w : World} {K : PySem.W.Frag} {mg : Str → Option Value} {base : Heap} {f : Addr} {fd : FuncData} {k : Nat}
theorem putF_len (f : Str) (v : V) (fs : List (Str × V)) : (putF f v fs).length ≤ fs.length + 1 := by
  induction fs with
  | nil => exact Nat.le_refl _
  | cons a r ih =>
    unfold putF
    split
    · exact Nat.le_succ _
    · simpa using ih
theorem ok_step_init (F : FnM K "__init__" "Step.__init__" s_Step_init f fd) (m_set : mg "set" = none) (m_sorted : mg "sorted" = none) : FnOk P w K mg base CX0 (k + 1) f fd ["self", "letters", "line"] (spStepI K) := by
  have z := sizeLine_eq
  refine F.ok sc_Step_init (fun vs H Q E h => ?_) (fun cdv A outer s H vs Q E hr h => ⟨_, PSs.nox (pss_cons (sfldK K (pv 0) (joinC K pe_str (pe_callB (sortT K w rfl) (by rfl) m_sorted (by decide +kernel) (pa_cons (pe_callTy (setT K w rfl) (by rfl) m_set (by decide +kernel) (pa_cons (pv 1) pa_nil)) pa_nil))))
      (pss_one (sfldK K (pv 0) (pv 2)))), ?_⟩)
  · obtain ⟨x, C, dx, fs, l, line, rfl, _⟩ := h
    rfl
  · obtain ⟨x, C, dx, fs, l, line, rfl, hx, ⟨hC, n1, n2⟩, hf, hl, q⟩ := h
    have hS : (S l).length = l.length := S_len l
    obtain ⟨m, em, up, mm⟩ := ups_signs l
    refine ⟨⟨_, rfl⟩, _, rfl, _, signsOf (S l), rfl, .inl ⟨_, rfl, rfl, by omega⟩, ?_, fun p L np nd mem => ?_⟩
    · rw [signs_S, List.length_map]; omega
    have eL : srt L = m.map fun c => S [c] := by rw [srt_set nd mem, signs_S, em]
    have lL : L.length = m.length := by rw [← srt_len L, eL, List.length_map]
    have lm : m.length ≤ l.length := len_le_of_nodup (up.imp fun h => Nat.ne_of_lt h) fun c hc => (mm c).mp hc
    refine ⟨_, _, rfl, .inr ⟨p, rfl, upd_same⟩, by omega, fun p3 np3 => ?_⟩
    have e3 : (srt L).map V.str = (m.map fun c => S [c]).map V.str := by rw [eL]
    rw [e3]
    refine ⟨_, p3, m.map fun c => S [c], rfl, rfl, .inl (SqL.of upd_same), ?_, ?_⟩
    · rw [sum_one, List.length_map]
      show m.length + m.length * 0 ≤ 16777216
      omega
    have ej : Txt.join (Str.ofString "") (m.map fun c => S [c]) = S m := join_signs m
    have h4 := putF_len "letters" (.str (Txt.join (Str.ofString "") (m.map fun c => S [c]))) fs
    refine ⟨_, rfl, x, C, dx, fs, rfl, ((Same.upd np).push np3) x _ hx, hC, n1, by omega, ?_⟩
    refine ⟨_, rfl, _, rfl, x, C, dx, _, rfl, upd_same, hC, n2, by omega, ?_⟩
    refine q m _ ⟨up, mm⟩ (((Kb.refl x H).push np).push np3).upd.upd ?_
    rw [upd_same, ej]
end

def BdC (K : PySem.W.Frag) (C : Addr) : Prop := StC K C ∧ NoAttr K C "low" ∧ NoAttr K C "high"
def boundF (vlo vhi : V) (line : Str) (fs : List (Str × V)) : List (Str × V) := putF "line" (.str line) (putF "letters" (.str (S [])) (putF "high" vhi (putF "low" vlo fs)))
def spBoundI (K : PySem.W.Frag) : Sp := fun vs H Q _ => ∃ (x C dx : Addr) (fs : List (Str × V)) (vlo vhi : V) (line : Str), vs = [.ref x, vlo, vhi, .str line] ∧ H x = some (.ins C dx fs) ∧ BdC K C ∧ fs.length < 800 ∧
  ∀ H', Kb x H H' → H' x = some (.ins C dx (boundF vlo vhi line fs)) → Q .non H'
abbrev s_Bounded_init : Stmt := inClass (topS 14) 1
abbrev N_Bounded_init : List Str := ["self", "low", "high", "line"]
theorem sc_Bounded_init : FnScope N_Bounded_init ["self", "low", "high", "line"] (defScope s_Bounded_init) := ⟨rfl, rfl, rfl, by decide +kernel, rfl, by decide +kernel, by decide +kernel⟩
theorem bound_low (vlo vhi : V) (line : Str) (fs : List (Str × V)) : (boundF vlo vhi line fs).lookup ("low" : Str) = some vlo := by
  unfold boundF
  rw [lookup_putF, if_neg (by decide +kernel), lookup_putF, if_neg (by decide +kernel), lookup_putF, if_neg (by decide +kernel), lookup_putF, if_pos rfl]
theorem bound_high (vlo vhi : V) (line : Str) (fs : List (Str × V)) : (boundF vlo vhi line fs).lookup ("high" : Str) = some vhi := by
  unfold boundF
  rw [lookup_putF, if_neg (by decide +kernel), lookup_putF, if_neg (by decide +kernel), lookup_putF, if_pos rfl]
section
variable {P : Program} {w : World} {K : PySem.W.Frag} {mg : Str → Option Value} {base : Heap} {f : Addr} {fd : FuncData} {k : Nat}
theorem ok_bounded_init (F : FnM K "__init__" "Bounded.__init__" s_Bounded_init f fd) (c_Step_init : Cfn P w K mg base CX0 "Step" "__init__" ["self", "letters", "line"] 1 (spStepI K)) : FnOk P w K mg base CX0 2 f fd ["self", "low", "high", "line"] (spBoundI K) := by
  have z := sizeLine_eq
  refine F.ok sc_Bounded_init (fun vs H Q E h => ?_) (fun cdv A outer s H vs Q E hr h => ⟨_, PSs.nox (pss_cons (sfldK K (pv 0) (pv 1))
      (pss_cons (sfldK K (pv 0) (pv 2))
      (pss_one (ps_expr (pe_cf c_Step_init (hr.mono (by decide)) pass0 (by rfl) (pa_cons (pv 0) (pa_cons pe_str (pa_cons (pv 3) pa_nil)))))))), ?_⟩)
  · obtain ⟨x, C, dx, fs, vlo, vhi, line, rfl, _⟩ := h
    rfl
  · obtain ⟨x, C, dx, fs, vlo, vhi, line, rfl, hx, ⟨hS, n1, n2⟩, hf, q⟩ := h
    have h4 := putF_len "low" vlo fs
    have h5 := putF_len "high" vhi (putF "low" vlo fs)
    refine ⟨_, rfl, _, rfl, x, C, dx, fs, rfl, hx, hS.1, n1, by omega, ?_⟩
    refine ⟨_, rfl, _, rfl, x, C, dx, _, rfl, upd_same, hS.1, n2, by omega, ?_⟩
    refine ⟨_, rfl, _, rfl, x, C, dx, _, [], line, rfl, upd_same, hS, by omega, by simp, fun m H' up k3 hx3 => ?_⟩
    have em : m = [] := by
      cases m with
      | nil => rfl
      | cons a r => exact absurd ((up.2 a).mp List.mem_cons_self) (by simp)
    subst em
    exact q H' ((Kb.refl x H).upd.upd.trans k3) hx3
end

def spIsStr : Sp := fun vs H Q _ => ∃ (l : List Nat) (lo hi : Int), vs = [.str (S l), .int lo, .int hi] ∧ l.length ≤ 100000 ∧ ∀ H', Same H H' → Q (.bl (decide (lo ≤ (l.length : Int)) && (decide ((l.length : Int) ≤ hi) && allIn l charsL))) H'
abbrev s_is_string : Stmt := topS 10
abbrev N_is_string : List Str := ["value", "low", "high", "sign"]
theorem sc_is_string : FnScope N_is_string ["value", "low", "high"] (defScope s_is_string) := ⟨rfl, rfl, rfl, by decide +kernel, rfl, by decide +kernel, by decide +kernel⟩
section
variable {P : Program} {w : World} {K : PySem.W.Frag} {mg : Str → Option Value} {base : Heap} {f : Addr} {fd : FuncData} {k : Nat}
theorem ok_is_string (F : FnP K "is_string" s_is_string f fd) {tC : Tok} (g_CHARACTERS : mg "CHARACTERS" = some (.str (S charsL) tC)) (m_isinstance : mg "isinstance" = none) (m_str : mg "str" = none) (m_len : mg "len" = none) (m_all : mg "all" = none) :
    FnOk P w K mg base CX0 (k + 1) f fd ["value", "low", "high"] spIsStr := by
  have z := sizeLine_eq
  refine F.ok sc_is_string (fun vs H Q E h => ?_) (fun cdv A outer s H vs Q E hr h => ⟨_, PSs.nox (pss_cons (ps_if (PW.pt (pw_or (pt_not (pt_val (pe_callB (isiC K) (by rfl) m_isinstance (by decide +kernel) (pa_cons (pv 0) (pa_cons (pe_bltn (v := .ty "str") (by rfl) m_str (by decide +kernel) rfl) pa_nil))))) (pw_or1 (pt_not (pt_chain op_le op_le (pv 1) (pe_callB (lenC K) (by rfl) m_len (by decide +kernel) (pa_cons (pv 0) pa_nil)) (pv 2)))))) (pss_one (ps_ret pe_bl)) pss_nil)
      (pss_one (ps_ret (pe_callB (allC K rfl) (by rfl) m_all (by decide +kernel) (pa_cons (pe_lc (own := [("sign", 3)]) rfl sc_is_string.nd (pi_str (pv 0)) (blkOk_by (own := [("sign", 3)]) (N := N_is_string) (sc := defScope s_is_string) (by decide +kernel)) (fun _ _ _ _ _ => (pg_name (i := 3) sc_is_string.nd rfl (Or.inl rfl))) (fun _ _ _ _ _ => pts_nil) (fun _ _ _ _ _ => (pe_cmpR op_in_sign (pv 3) (pe_gs g_CHARACTERS) rfl))) pa_nil))))), ?_⟩)
  · obtain ⟨l, lo, hi, rfl, _⟩ := h
    rfl
  · obtain ⟨l, lo, hi, rfl, hl, q⟩ := h
    have hS : (S l).length = l.length := S_len l
    refine ⟨_, rfl, _, _, _, _, true, rfl, .ty "str", .base (.str _), kit_ty (by decide +kernel), _, rfl, _, rfl, _, rfl, _, _, rfl, ⟨by rw [hS]; omega, rfl⟩, _, _, rfl, rfl, _, rfl, ite2 (fun e1 => ⟨_, rfl, _, _, rfl, rfl, _, rfl, ite2 (fun e2 => ?_) (fun e2 => ?_)⟩) (fun e1 => ?_)⟩
    · have e3 : (decide (lo ≤ (l.length : Int)) && (decide ((l.length : Int) ≤ hi) && allIn l charsL)) = false := by
        rw [hS] at e1 e2
        rw [show decide ((l.length : Int) ≤ hi) = false by simpa using e2, Bool.false_and, Bool.and_false]
      have q1 := q H (fun _ _ h => h)
      rw [e3] at q1
      exact q1
    · refine ⟨_, rfl, _, rfl, fun D nD => ?_⟩
      refine lc_it walk_str (fun j H2 => H2 D = some (.lst (((l.take j).map fun c => decide (c ∈ charsL)).map V.bl)) ∧ Same H H2) ⟨upd_same, Same.upd nD⟩ (fun _ _ _ _ => trivial) (fun j v H2 H3 hj h y => ?_) (fun H2 h => ?_)
      · obtain ⟨hD, sm⟩ := h
        obtain ⟨rfl, c, hc, rfl⟩ := y
        have hc2 : l[j]? = some c := by
          rw [← hc]
          exact (Array.getElem?_toList (xs := (S l).cps)).symm ▸ rfl
        refine ⟨rfl, _, rfl, c, _, rfl, rfl, _, hD, ?_, ?_, sm.mut nD⟩
        · rw [List.length_map, List.length_map, List.length_take]; omega
        · rw [upd_same, List.take_add_one, hc2]
          simp
      · obtain ⟨hD, sm⟩ := h
        have hs : (S l).cps.size = l.length := S_len l
        rw [hs, List.take_length] at hD
        refine ⟨D, _, rfl, SqL.of hD, ?_⟩
        have e3 : ((l.map fun c => decide (c ∈ charsL)).all id) = (decide (lo ≤ (l.length : Int)) && (decide ((l.length : Int) ≤ hi) && allIn l charsL)) := by
          rw [hS] at e1 e2
          rw [e1, show decide ((l.length : Int) ≤ hi) = true by simpa using e2, List.all_map]
          rfl
        show Q (.bl _) H2
        rw [e3]
        exact q _ sm
    · have e3 : (decide (lo ≤ (l.length : Int)) && (decide ((l.length : Int) ≤ hi) && allIn l charsL)) = false := by
        rw [hS] at e1
        rw [Bool.eq_false_iff.mpr e1, Bool.false_and]
      have q1 := q H (fun _ _ h => h)
      rw [e3] at q1
      exact ⟨_, rfl, q1⟩
end

/-! ### Doubles -/
def DbC (K : PySem.W.Frag) (C : Addr) : Prop := StC K C ∧ NoAttr K C "of"
def IsDbl (C : Addr) (H : Hp) (a : Addr) (ds : List Nat) : Prop := ∃ dx fs m, H a = some (.ins C dx fs) ∧ fs.lookup ("of" : Str) = some (.str (S m)) ∧ ∀ c, c ∈ m ↔ c ∈ ds
/-- one sign more -/
def dbl1 (ds made : List Nat) (c : Nat) : List Nat := if c ∈ ds ∧ made.getLast? = some c then made else made ++ [c]
def dblF (ds l : List Nat) : List Nat := l.foldl (dbl1 ds) []
def spDblI (C : Addr) : Sp := fun vs H Q _ => ∃ (x dx : Addr) (l : List Nat), vs = [.ref x, .str (S l)] ∧ H x = some (.ins C dx []) ∧ 1 ≤ l.length ∧ l.length ≤ 4 ∧ l.Nodup ∧ (∀ c ∈ l, c ∈ charsL) ∧
  ∀ H', Kb x H H' → IsDbl C H' x l → Q .non H'
def spDblC (C : Addr) : Sp := fun vs H Q _ => ∃ (a : Addr) (l ds : List Nat), vs = [.ref a, .str (S l)] ∧ IsDbl C H a ds ∧ Wd l ∧
  ∀ p H', H p = none → Same H H' → H' p = some (.lst (strsV [dblF ds l])) → Q (.ref p) H'
abbrev s_Doubles_init : Stmt := inClass (topS 15) 0
abbrev N_Doubles_init : List Str := ["self", "of"]
theorem sc_Doubles_init : FnScope N_Doubles_init ["self", "of"] (defScope s_Doubles_init) := ⟨rfl, rfl, rfl, by decide +kernel, rfl, by decide +kernel, by decide +kernel⟩
abbrev s_Doubles_call : Stmt := inClass (topS 15) 1
abbrev N_Doubles_call : List Str := ["self", "word", "made", "sign"]
theorem sc_Doubles_call : FnScope N_Doubles_call ["self", "word"] (defScope s_Doubles_call) := ⟨rfl, rfl, rfl, by decide +kernel, rfl, by decide +kernel, by decide +kernel⟩
section
variable {P : Program} {w : World} {K : PySem.W.Frag} {mg : Str → Option Value} {base : Heap} {f C : Addr} {fd : FuncData} {k : Nat}
theorem ok_dbl_init (F : FnM K "__init__" "Doubles.__init__" s_Doubles_init f fd) (hC : DbC K C) (d_is_string : Dfn P w K mg base CX0 "is_string" ["value", "low", "high"] 1 spIsStr)
    (c_Step_init : Cfn P w K mg base CX0 "Step" "__init__" ["self", "letters", "line"] 1 (spStepI K)) (m_len : mg "len" = none) (m_set : mg "set" = none) (m_sorted : mg "sorted" = none) : FnOk P w K mg base CX0 2 f fd ["self", "of"] (spDblI C) := by
  have z := sizeLine_eq
  refine F.ok sc_Doubles_init (fun vs H Q E h => ?_) (fun cdv A outer s H vs Q E hr h => ⟨_, PSs.nox (pss_cons (ps_if (PW.pt (pw_or (pt_not (pt_val (pe_d d_is_string (hr.mono (by decide)) (by rfl) (pa_cons (pv 1) (pa_cons pe_int (pa_cons pe_int pa_nil)))))) (pw_or1 (pt_cmpR op_ne (pe_callB (lenSet w) (by rfl) m_len (by decide +kernel) (pa_cons (pe_callTy (setT K w rfl) (by rfl) m_set (by decide +kernel) (pa_cons (pv 1) pa_nil)) pa_nil)) (pe_callB (lenC K) (by rfl) m_len (by decide +kernel) (pa_cons (pv 1) pa_nil)) (nomark _))))) (pss_one ps_never) pss_nil)
      (pss_cons (sfldK K (pv 0) (joinC K pe_str (pe_callB (sortT K w rfl) (by rfl) m_sorted (by decide +kernel) (pa_cons (pv 1) pa_nil))))
      (pss_one (ps_expr (pe_cf c_Step_init (hr.mono (by decide)) pass0 (by rfl) (pa_cons (pv 0) (pa_cons (pv 1) (pa_cons (pe_op op_add_str pe_str (fldK K (pv 0))) pa_nil)))))))), ?_⟩)
  · obtain ⟨x, dx, l, rfl, _⟩ := h
    rfl
  · obtain ⟨x, dx, l, rfl, hx, l1, l4, nd, hm, q⟩ := h
    have hS : (S l).length = l.length := S_len l
    have hv : (decide ((1 : Int) ≤ (l.length : Int)) && (decide ((l.length : Int) ≤ 4) && allIn l charsL)) = true := by
      rw [decide_eq_true (by omega), decide_eq_true (by omega)]
      exact List.all_eq_true.mpr fun c hc => decide_eq_true (hm c hc)
    obtain ⟨m, em, up, mm⟩ := srt_signs nd
    refine ⟨_, rfl, l, 1, 4, rfl, by omega, fun H1 s1 => ⟨true, congrArg V.bl hv, ?_⟩⟩
    refine ⟨_, rfl, _, signsOf (S l), rfl, .inl ⟨_, rfl, rfl, by omega⟩, ?_, fun p L np ndL mem => ?_⟩
    · rw [signs_S, List.length_map]; omega
    have eL : L.length = l.length := by
      have n2 : (l.map fun c => S [c]).Nodup := List.pairwise_map.mpr (nd.imp fun {a b} h e => h (by simpa using S_inj e))
      rw [signs_S] at mem
      have := (nodup_perm ndL n2 mem).length_eq
      rw [this, List.length_map]
    refine ⟨_, _, rfl, upd_same, _, rfl, _, _, rfl, ⟨by omega, rfl⟩, rfl, false, congrArg V.bl ?_, ?_⟩
    · rw [hS, eL, decide_eq_true rfl]; rfl
    have hx1 := s1 _ _ hx
    -- self.of
    refine ⟨⟨_, rfl⟩, _, rfl, _, signsOf (S l), rfl, .inl (.inl ⟨_, rfl, rfl, by omega⟩), ?_, fun p3 np3 => ?_⟩
    · rw [signs_S, List.length_map]; omega
    have e3 : (srt (signsOf (S l))).map V.str = (m.map fun c => S [c]).map V.str := by rw [signs_S, em]
    have lm : m.length ≤ 4 := by
      have e1 : m.length = l.length := by
        have := congrArg List.length em
        rw [srt_len] at this
        simpa using this.symm
      omega
    rw [e3]
    refine ⟨_, p3, m.map fun c => S [c], rfl, rfl, .inl (SqL.of upd_same), ?_, ?_⟩
    · rw [sum_one, List.length_map]
      show m.length + m.length * 0 ≤ 16777216
      omega
    have ej : Txt.join (Str.ofString "") (m.map fun c => S [c]) = S m := join_signs m
    refine ⟨_, rfl, x, C, dx, [], rfl, ((Same.upd np).push np3) x _ hx1, hC.1.1, hC.2, by decide, ?_⟩
    refine ⟨_, rfl, _, rfl, _, rfl, x, C, dx, _, _, rfl, upd_same, hC.1.1, hC.2, rfl, _, _, rfl, rfl, ?_, ?_⟩
    · rw [ej, S_len]
      show 8 + m.length ≤ _
      omega
    refine ⟨x, C, dx, _, l, _, rfl, upd_same, hC.1, (by show 1 < 900; decide), by omega, fun m2 H' up2 k3 hx3 => q H' ?_ ⟨dx, _, m, hx3, ?_, mm⟩⟩
    · exact ((((Kb.same s1).push np).push np3).upd).trans k3
    · rw [lookup_putF, if_neg (by decide +kernel), lookup_putF, if_neg (by decide +kernel), ej]
      rfl
theorem last_cut (l : List Nat) : cutS (S l) (some (-1)) none = S (l.drop (l.length - 1)) := by
  unfold cutS
  rw [S_len, HT.sIx_none]
  have e : HT.sIx l.length 0 (some (-1)) = l.length - 1 := by
    show (if (-1 : Int) < 0 then ((-1 : Int) + (l.length : Int)).toNat else min (-1 : Int).toNat l.length) = l.length - 1
    rw [if_pos (by decide)]
    omega
  rw [e]
  show (⟨((l.drop (l.length - 1)).take (l.length - (l.length - 1))).toArray⟩ : Str) = ⟨(l.drop (l.length - 1)).toArray⟩
  rw [List.take_of_length_le (by rw [List.length_drop]; omega)]
theorem last_eq (l : List Nat) (c : Nat) : S (l.drop (l.length - 1)) = S [c] ↔ l.getLast? = some c := by
  rcases List.eq_nil_or_concat l with rfl | ⟨r, d, rfl⟩
  · constructor
    · intro e
      exact absurd (S_inj e) (by simp)
    · intro e
      cases e
  · rw [List.concat_eq_append, show (r ++ [d]).length - 1 = r.length by simp, List.drop_left, List.getLast?_concat]
    constructor
    · intro e
      simpa using S_inj e
    · intro e
      rw [Option.some.inj e]
theorem dbl1_len (ds made : List Nat) (c : Nat) : (dbl1 ds made c).length ≤ made.length + 1 := by
  unfold dbl1
  split <;> simp
theorem ok_dbl_call (F : FnM K "__call__" "Doubles.__call__" s_Doubles_call f fd) (hC : DbC K C) (d_check_word : Dfn P w K mg base CX0 "check_word" ["word"] 2 spCheck) : FnOk P w K mg base CX0 3 f fd ["self", "word"] (spDblC C) := by
  have z := sizeLine_eq
  refine F.ok sc_Doubles_call (fun vs H Q E h => ?_) (fun cdv A outer s H vs Q E hr h => ⟨_, PSs.nox (pss_cons (ps_expr (pe_d d_check_word (hr.mono (by decide)) (by rfl) (pa_cons (pv 1) pa_nil)))
      (pss_cons (ps_set (i := 2) sc_Doubles_call.nd rfl (Or.inl rfl) pe_str)
      (pss_cons (ps_for PassesOwn.never rfl (pi_str (pv 1)) (pg_name (i := 3) sc_Doubles_call.nd rfl (Or.inl rfl))
        (pss_one (ps_if (PW.pt (pw_or (pt_cmpR op_notIn_sign (pv 3) (fldK K (pv 0)) rfl) (pw_or1 (pt_cmpR op_ne (pe_slice sl_str (pv 2) (po_some (pe_un un_neg pe_int)) po_none) (pv 3) (nomark _))))) (pss_one (ps_aug (i := 2) sc_Doubles_call.nd rfl (Or.inl rfl) (pv 3) ip_addS)) pss_nil)))
      (pss_one (ps_ret (pe_lst (pa_cons (pv 2) pa_nil))))))), ?_⟩)
  · obtain ⟨a, l, ds, rfl, _⟩ := h
    rfl
  · obtain ⟨a, l, ds, rfl, ⟨dx, fs, m, ha, fo, mm⟩, hw, q⟩ := h
    have hlen := hw.2.2
    have hs : (S l).cps.size = l.length := S_len l
    refine ⟨_, rfl, l, rfl, hw, fun H1 s1 => ?_⟩
    have ha1 := s1 _ _ ha
    refine ⟨_, rfl, _, rfl, ?_⟩
    refine for_it walk_str (fun i σ H2 => ∃ y made, σ = [some (.ref a), some (.str (S l)), some (.str (S made)), y] ∧ made = (l.take i).foldl (dbl1 ds) [] ∧ made.length ≤ i ∧ H2 = H1) ⟨_, [], rfl, rfl, Nat.le_refl _, rfl⟩ (fun _ _ _ _ _ => trivial) (fun i x σ H2 H3 hi2 h y => ?_) (fun σ H2 h => ?_)
    · obtain ⟨y3, made, rfl, em, lm, rfl⟩ := h
      obtain ⟨rfl, c, hc, rfl⟩ := y
      rw [hs] at hi2
      have hc2 : l[i]? = some c := by
        rw [← hc]
        exact (Array.getElem?_toList (xs := (S l).cps)).symm ▸ rfl
      have e1 : (l.take (i + 1)).foldl (dbl1 ds) [] = dbl1 ds made c := by
        rw [List.take_add_one, hc2, List.foldl_append, ← em]
        rfl
      have hmade : (S made).length = made.length := S_len made
      refine ⟨_, rfl, _, rfl, a, C, dx, fs, _, rfl, ha1, hC.1.1, hC.2, fo, c, _, rfl, rfl, _, rfl, ite2 (fun e2 => ?_) (fun e2 => ?_)⟩
      · have n1 : ¬ (c ∈ ds ∧ made.getLast? = some c) := fun h => by
          have h2 : c ∈ m := (mm c).mpr h.1
          have e3 : c ∉ m := by simpa using e2
          exact e3 h2
        refine ⟨_, rfl, _, rfl, _, _, rfl, rfl, ?_, some (.str (S [c])), made ++ [c], ?_, ?_, by simpa using lm, rfl⟩
        · rw [hmade]
          show made.length + 1 ≤ _
          omega
        · exact congrArg (fun v => [some (V.ref a), some (V.str (S l)), some (V.str v), some (V.str (S [c]))]) (S_app made [c])
        · rw [e1]
          unfold dbl1
          rw [if_neg n1]
      · have e3 : c ∈ m := by simpa using e2
        refine ⟨_, rfl, _, rfl, _, rfl, _, rfl, by rw [hmade]; omega, _, rfl, rfl, _, rfl, ite2 (fun e4 => ?_) (fun e4 => ?_)⟩
        · have n1 : ¬ (c ∈ ds ∧ made.getLast? = some c) := fun h => by
            have e5 := (last_eq made c).mpr h.2
            rw [last_cut, e5] at e4
            exact absurd e4 (by simp [S])
          refine ⟨_, rfl, _, rfl, _, _, rfl, rfl, ?_, some (.str (S [c])), made ++ [c], ?_, ?_, by simpa using lm, rfl⟩
          · rw [hmade]
            show made.length + 1 ≤ _
            omega
          · exact congrArg (fun v => [some (V.ref a), some (V.str (S l)), some (V.str v), some (V.str (S [c]))]) (S_app made [c])
          · rw [e1]
            unfold dbl1
            rw [if_neg n1]
        · have y1 : c ∈ ds ∧ made.getLast? = some c := by
            refine ⟨(mm c).mp e3, (last_eq made c).mp ?_⟩
            rw [last_cut] at e4
            simpa [S] using e4
          refine ⟨_, made, rfl, ?_, by omega, rfl⟩
          rw [e1]
          unfold dbl1
          rw [if_pos y1]
    · obtain ⟨y3, made, rfl, em, lm, rfl⟩ := h
      rw [hs, List.take_length] at em
      refine ⟨_, rfl, (by show 1 ≤ sizeLine; omega), fun p np => q p _ (s1.free np) (s1.push np) ?_⟩
      rw [upd_same, em]
      rfl
end

/-! ### Cut -/
def IsCut (C : Addr) (H : Hp) (a : Addr) (n : Nat) : Prop := ∃ dx fs, H a = some (.ins C dx fs) ∧ fs.lookup ("high" : Str) = some (.int n)
def spCutI (C : Addr) : Sp := fun vs H Q _ => ∃ (x dx : Addr) (n : Nat), vs = [.ref x, .int n] ∧ H x = some (.ins C dx []) ∧ 1 ≤ n ∧ n ≤ 6 ∧ ∀ H', Kb x H H' → IsCut C H' x n → Q .non H'
def spCutC (C : Addr) : Sp := fun vs H Q _ => ∃ (a : Addr) (l : List Nat) (n : Nat), vs = [.ref a, .str (S l)] ∧ IsCut C H a n ∧ Wd l ∧ ∀ p H', H p = none → Same H H' → H' p = some (.lst (strsV [l.take n])) → Q (.ref p) H'
abbrev s_Cut_init : Stmt := inClass (topS 16) 0
abbrev N_Cut_init : List Str := ["self", "high"]
theorem sc_Cut_init : FnScope N_Cut_init ["self", "high"] (defScope s_Cut_init) := ⟨rfl, rfl, rfl, by decide +kernel, rfl, by decide +kernel, by decide +kernel⟩
abbrev s_Cut_call : Stmt := inClass (topS 16) 1
abbrev N_Cut_call : List Str := ["self", "word"]
theorem sc_Cut_call : FnScope N_Cut_call ["self", "word"] (defScope s_Cut_call) := ⟨rfl, rfl, rfl, by decide +kernel, rfl, by decide +kernel, by decide +kernel⟩
section
variable {P : Program} {w : World} {K : PySem.W.Frag} {mg : Str → Option Value} {base : Heap} {f C : Addr} {fd : FuncData} {k : Nat}
theorem ok_cut_init (F : FnM K "__init__" "Cut.__init__" s_Cut_init f fd) (hC : BdC K C) (d_is_integer : Dfn P w K mg base CX0 "is_integer" ["value", "low", "high"] 1 spIsInt)
    (c_Bounded_init : Cfn P w K mg base CX0 "Bounded" "__init__" ["self", "low", "high", "line"] 2 (spBoundI K)) {CB : Addr} {uT : Value} (g_Bounded : mg "Bounded" = some (.ref CB)) (r_Bounded : ClX.CRead K CB (.type "type")) (v_TOP : ClX.CVal K CB (.type "type") "TOP" (.int 6) uT) :
    FnOk P w K mg base CX0 3 f fd ["self", "high"] (spCutI C) := by
  have z := sizeLine_eq
  refine F.ok sc_Cut_init (fun vs H Q E h => ?_) (fun cdv A outer s H vs Q E hr h => ⟨_, PSs.nox (pss_cons (ps_if (pt_not (pt_val (pe_d d_is_integer (hr.mono (by decide)) (by rfl) (pa_cons (pv 1) (pa_cons pe_int (pa_cons (cvalK K (pe_gr g_Bounded)) pa_nil)))))) (pss_one ps_never) pss_nil)
      (pss_one (ps_expr (pe_cf c_Bounded_init (hr.mono (by decide)) pass0 (by rfl) (pa_cons (pv 0) (pa_cons pe_int (pa_cons (pv 1) (pa_cons (pe_joined (PJ.cons pe_str (PJ.cons (pe_fmt (pv 1)) PJ.nil))) pa_nil)))))))), ?_⟩)
  · obtain ⟨x, dx, n, rfl, _⟩ := h
    rfl
  · obtain ⟨x, dx, n, rfl, hx, h1, h2, q⟩ := h
    refine ⟨_, rfl, CB, _, _, _, rfl, r_Bounded, v_TOP, _, _, _, rfl, true, congrArg V.bl ?_, ?_⟩
    · rw [decide_eq_true (by omega), decide_eq_true (by omega)]; rfl
    have l1 := dig_len n (by omega)
    have e1 : (Str.ofString "cut ").length = 4 := by decide +kernel
    refine ⟨_, rfl, _, rfl, _, rfl, ?_, _, rfl, .inr ⟨_, rfl, dig_small _ (by omega), _, rfl, ?_, ?_⟩⟩
    · rw [app_len]; decide +kernel
    · rw [app_len, app_len, l1, e1]; show 0 + 4 + 1 ≤ sizeLine; omega
    · exact ⟨x, C, dx, [], _, _, _, rfl, hx, hC, by simp, fun H' k1 hx1 => q H' k1 ⟨dx, _, hx1, bound_high _ _ _ _⟩⟩
theorem ok_cut_call (F : FnM K "__call__" "Cut.__call__" s_Cut_call f fd) (hC : BdC K C) (d_check_word : Dfn P w K mg base CX0 "check_word" ["word"] 2 spCheck) : FnOk P w K mg base CX0 3 f fd ["self", "word"] (spCutC C) := by
  have z := sizeLine_eq
  refine F.ok sc_Cut_call (fun vs H Q E h => ?_) (fun cdv A outer s H vs Q E hr h => ⟨_, PSs.nox (pss_cons (ps_expr (pe_d d_check_word (hr.mono (by decide)) (by rfl) (pa_cons (pv 1) pa_nil)))
      (pss_one (ps_ret (pe_lst (pa_cons (pe_slice sl_str (pv 1) po_none (po_some (fldK K (pv 0)))) pa_nil))))), ?_⟩)
  · obtain ⟨a, l, n, rfl, _⟩ := h
    rfl
  · obtain ⟨a, l, n, rfl, ⟨dx, fs, ha, fh⟩, hw, q⟩ := h
    have hS : (S l).length = l.length := S_len l
    have hlen := hw.2.2
    refine ⟨_, rfl, l, rfl, hw, fun H1 s1 => ?_⟩
    refine ⟨_, rfl, _, rfl, a, C, dx, fs, _, rfl, s1 _ _ ha, hC.1.1, hC.2.2, fh, _, rfl, _, rfl, by rw [hS]; omega, (by show 1 ≤ sizeLine; omega), fun p np => q p _ (s1.free np) (s1.push np) ?_⟩
    rw [upd_same, cut_take]
    rfl
end

/-! ### runs -/
abbrev Run := Nat × Nat
def Adj : List Run → Prop
  | [] => True
  | [_] => True
  | a :: b :: r => a.1 ≠ b.1 ∧ Adj (b :: r)
def OkR (x : Run) : Prop := x.1 ∈ charsL ∧ 1 ≤ x.2 ∧ x.2 ≤ 5
def wordF (rs : List Run) : List Nat := (rs.map fun x => List.replicate x.2 x.1).flatten
def shortF (ds : List Nat) (rs : List Run) : List Nat := (rs.map fun x => if x.1 ∈ ds then [x.1] else List.replicate x.2 x.1).flatten
def lastS (rs : List Run) : List Nat := match rs.getLast? with
  | none => []
  | some x => [x.1]
theorem adj_app (x : Run) : ∀ rs : List Run, Adj rs → lastS rs ≠ [x.1] → Adj (rs ++ [x])
  | [], _, _ => trivial
  | [a], _, h => ⟨fun e => h (by rw [show lastS [a] = [a.1] from rfl, e]), trivial⟩
  | a :: b :: r, h, hl => by
    refine ⟨h.1, ?_⟩
    have e : lastS (a :: b :: r) = lastS (b :: r) := by
      unfold lastS
      rw [List.getLast?_cons_cons]
    exact adj_app x (b :: r) h.2 (by rw [← e]; exact hl)
theorem dbl_rep (ds : List Nat) (c : Nat) : ∀ (n : Nat) (made : List Nat), made.getLast? = some c → (List.replicate n c).foldl (dbl1 ds) made = if c ∈ ds then made else made ++ List.replicate n c
  | 0, made, _ => by simp
  | n + 1, made, h => by
    rw [List.replicate_succ, List.foldl_cons]
    by_cases m : c ∈ ds
    · have e : dbl1 ds made c = made := by
        unfold dbl1
        rw [if_pos ⟨m, h⟩]
      rw [e, dbl_rep ds c n made h, if_pos m, if_pos m]
    · have e : dbl1 ds made c = made ++ [c] := by
        unfold dbl1
        rw [if_neg fun z => m z.1]
      rw [e, dbl_rep ds c n _ (by simp), if_neg m, if_neg m, List.append_assoc]
      rfl
theorem dbl_run (ds made : List Nat) (x : Run) (h1 : 1 ≤ x.2) (hl : made.getLast? ≠ some x.1) : (List.replicate x.2 x.1).foldl (dbl1 ds) made = made ++ (if x.1 ∈ ds then [x.1] else List.replicate x.2 x.1) := by
  obtain ⟨c, n⟩ := x
  obtain ⟨n, rfl⟩ : ∃ m, n = m + 1 := ⟨n - 1, by simp at h1; omega⟩
  show (List.replicate (n + 1) c).foldl (dbl1 ds) made = made ++ (if c ∈ ds then [c] else List.replicate (n + 1) c)
  rw [List.replicate_succ, List.foldl_cons]
  have e : dbl1 ds made c = made ++ [c] := by
    unfold dbl1
    rw [if_neg fun z => hl z.2]
  rw [e, dbl_rep ds c n _ (by simp)]
  by_cases m : c ∈ ds
  · rw [if_pos m, if_pos m]
  · rw [if_neg m, if_neg m, List.append_assoc]
    rfl
theorem dbl_all (ds : List Nat) : ∀ (rs : List Run) (made : List Nat), (∀ x ∈ rs, 1 ≤ x.2) → Adj rs → (∀ x, rs.head? = some x → made.getLast? ≠ some x.1) → (wordF rs).foldl (dbl1 ds) made = made ++ shortF ds rs
  | [], made, _, _, _ => by simp [wordF, shortF]
  | x :: r, made, h1, ha, hl => by
    have e1 : wordF (x :: r) = List.replicate x.2 x.1 ++ wordF r := rfl
    have e2 : shortF ds (x :: r) = (if x.1 ∈ ds then [x.1] else List.replicate x.2 x.1) ++ shortF ds r := rfl
    rw [e1, e2, List.foldl_append, dbl_run ds made x (h1 x List.mem_cons_self) (hl x rfl), dbl_all ds r _ (fun y hy => h1 y (List.mem_cons_of_mem _ hy)) ?_ ?_, List.append_assoc]
    · cases r with
      | nil => trivial
      | cons b t => exact ha.2
    · intro y hy
      cases r with
      | nil => cases hy
      | cons b t =>
        have eb : b = y := Option.some.inj hy
        have hx1 := h1 x List.mem_cons_self
        have el : (made ++ if x.1 ∈ ds then [x.1] else List.replicate x.2 x.1).getLast? = some x.1 := by
          by_cases m : x.1 ∈ ds
          · rw [if_pos m, List.getLast?_concat]
          · rw [if_neg m]
            obtain ⟨n, hn⟩ : ∃ n, x.2 = n + 1 := ⟨x.2 - 1, by omega⟩
            rw [hn, List.replicate_succ', ← List.append_assoc, List.getLast?_concat]
        rw [el, ← eb]
        exact fun e => ha.1 (Option.some.inj e)
theorem dbl_word {ds : List Nat} {rs : List Run} (h1 : ∀ x ∈ rs, OkR x) (ha : Adj rs) : dblF ds (wordF rs) = shortF ds rs := by
  unfold dblF
  rw [dbl_all ds rs [] (fun x hx => (h1 x hx).2.1) ha (fun x _ => by simp)]
  rfl
theorem word_len : ∀ {rs : List Run}, (∀ x ∈ rs, OkR x) → (wordF rs).length ≤ rs.length * 5
  | [], _ => Nat.le_refl _
  | x :: r, h => by
    have e1 : wordF (x :: r) = List.replicate x.2 x.1 ++ wordF r := rfl
    have ih := word_len (rs := r) fun y hy => h y (List.mem_cons_of_mem _ hy)
    have := (h x List.mem_cons_self).2.2
    rw [e1, List.length_append, List.length_replicate, List.length_cons]
    omega
theorem word_wd {rs : List Run} (h : ∀ x ∈ rs, OkR x) (h0 : rs ≠ []) (hl : rs.length ≤ 20) : Wd (wordF rs) := by
  have hlen := word_len h
  refine ⟨?_, ?_, by omega⟩
  · obtain ⟨x, r, rfl⟩ := List.exists_cons_of_ne_nil h0
    have e1 : wordF (x :: r) = List.replicate x.2 x.1 ++ wordF r := rfl
    have := (h x List.mem_cons_self).2.1
    intro e
    have e2 := congrArg List.length e
    rw [e1, List.length_append, List.length_replicate] at e2
    simp at e2
    omega
  · intro c hc
    obtain ⟨l, hl, hcl⟩ := List.mem_flatten.mp hc
    obtain ⟨x, hx, rfl⟩ := List.mem_map.mp hl
    rw [(List.mem_replicate.mp hcl).2]
    exact (h x hx).1
/-- at r stand the runs rs -/
def IsRuns (H : Hp) (r : Addr) (rs : List Run) : Prop := ∃ ps : List Addr, H r = some (.lst (ps.map V.ref)) ∧ ps.length = rs.length ∧ ∀ (i : Nat) (p : Addr) (x : Run), ps[i]? = some p → rs[i]? = some x → H p = some (.tup [.str (S [x.1]), .int x.2])
theorem IsRuns.same {H H' : Hp} {r : Addr} {rs : List Run} (h : IsRuns H r rs) (s : Same H H') : IsRuns H' r rs := by
  obtain ⟨ps, h1, h2, h3⟩ := h
  exact ⟨ps, s _ _ h1, h2, fun i p x a b => s _ _ (h3 i p x a b)⟩
theorem IsRuns.kb {b : Addr} {H H' : Hp} {r : Addr} {rs : List Run} (h : IsRuns H r rs) (n : IsBag H b) (s : Kb b H H') : IsRuns H' r rs := by
  obtain ⟨c, u, v, e⟩ := n
  obtain ⟨ps, h1, h2, h3⟩ := h
  refine ⟨ps, s _ _ (fun z => ?_) h1, h2, fun i p x a b => s _ _ (fun z => ?_) (h3 i p x a b)⟩
  · subst z
    rw [e] at h1
    have h4 := HO.lst.inj (Option.some.inj h1)
    cases ps with
    | nil => cases h4
    | cons p r => cases h4
  · subst z
    have := h3 i p x a b
    rw [e] at this
    cases this

def spRuns (K : PySem.W.Frag) : Sp := fun vs H Q _ => ∃ (b : Addr) (ds : List Nat), vs = [.ref b, .str (S ds)] ∧ IsBag H b ∧ ds ≠ [] ∧ ds.length ≤ 4 ∧ (∀ c ∈ ds, c ∈ charsL) ∧
  ∀ r rs H', H r = none → Kb b H H' → IsBag H' b → IsRuns H' r rs → rs ≠ [] → rs.length ≤ 20 → (∀ x ∈ rs, OkR x) → Adj rs → Q (.ref r) H'
def spWord : Sp := fun vs H Q _ => ∃ (r : Addr) (rs : List Run), vs = [.ref r] ∧ IsRuns H r rs ∧ rs.length ≤ 20 ∧ (∀ x ∈ rs, OkR x) ∧ ∀ H', Same H H' → Q (.str (S (wordF rs))) H'
def spShort : Sp := fun vs H Q _ => ∃ (r : Addr) (rs : List Run) (ds : List Nat), vs = [.ref r, .str (S ds)] ∧ IsRuns H r rs ∧ rs.length ≤ 20 ∧ (∀ x ∈ rs, OkR x) ∧ ∀ H', Same H H' → Q (.str (S (shortF ds rs))) H'
abbrev s_law_runs : Stmt := topS 22
abbrev N_law_runs : List Str := ["_law_bag_here", "_law_chosen", "_law_runs_here", "_law_last", "_law_k", "_law_signs", "_law_sign", "_law_everything"]
theorem sc_law_runs : FnScope N_law_runs ["_law_bag_here", "_law_chosen"] (defScope s_law_runs) := ⟨rfl, rfl, rfl, by decide +kernel, rfl, by decide +kernel, by decide +kernel⟩
abbrev s_law_word : Stmt := topS 23
abbrev N_law_word : List Str := ["_law_runs_here", "_law_sign", "_law_many"]
theorem sc_law_word : FnScope N_law_word ["_law_runs_here"] (defScope s_law_word) := ⟨rfl, rfl, rfl, by decide +kernel, rfl, by decide +kernel, by decide +kernel⟩
abbrev s_law_short : Stmt := topS 24
abbrev N_law_short : List Str := ["_law_runs_here", "_law_chosen", "_law_sign", "_law_many"]
theorem sc_law_short : FnScope N_law_short ["_law_runs_here", "_law_chosen"] (defScope s_law_short) := ⟨rfl, rfl, rfl, by decide +kernel, rfl, by decide +kernel, by decide +kernel⟩
section
variable {P : Program} {w : World} {K : PySem.W.Frag} {mg : Str → Option Value} {base : Heap} {f C : Addr} {fd : FuncData} {k : Nat}
theorem ok_word (F : FnP K "_law_word" s_law_word f fd) : FnOk P w K mg base CX0 (k + 1) f fd ["_law_runs_here"] spWord := by
  have z := sizeLine_eq
  refine F.ok sc_law_word (fun vs H Q E h => ?_) (fun cdv A outer s H vs Q E hr h => ⟨_, PSs.nox (pss_one (ps_ret (joinC K pe_str (pe_lc (own := [("_law_sign", 1), ("_law_many", 2)]) rfl sc_law_word.nd (piL K (pv 0)) (blkOk_by (own := [("_law_sign", 1), ("_law_many", 2)]) (N := N_law_word) (sc := defScope s_law_word) (by decide +kernel)) (fun _ _ _ _ _ => (tupG K (n := 2) rfl (pgs_cons (pg_name (i := 1) sc_law_word.nd rfl (Or.inl rfl)) (pgs_cons (pg_name (i := 2) sc_law_word.nd rfl (Or.inl rfl)) pgs_nil)))) (fun _ _ _ _ _ => pts_nil) (fun _ _ _ _ _ => (pe_op op_mul_str (pv 1) (pv 2))))))), ?_⟩)
  · obtain ⟨r, rs, rfl, _⟩ := h
    rfl
  · obtain ⟨r, rs, rfl, hr0, hl, ok, q⟩ := h
    obtain ⟨ps, h1, h2, h3⟩ := hr0
    refine ⟨⟨_, rfl⟩, _, rfl, r, rfl, ⟨_, SqL.of h1⟩, fun D nD => ?_⟩
    refine lc_it (walk_list (xs := ps.map V.ref)) (fun j H2 => H2 D = some (.lst (strsV ((rs.take j).map fun x => List.replicate x.2 x.1))) ∧ Same H H2) ⟨upd_same, Same.upd nD⟩ (fun j H2 _ h => SqL.of (h.2 _ _ h1)) (fun j v H2 H3 hj h y => ?_) (fun H2 h => ?_)
    · obtain ⟨hD, sm⟩ := h
      obtain ⟨rfl, hx0⟩ := y
      obtain ⟨p, hp, rfl⟩ := map_at hx0
      have hj2 : j < rs.length := by
        have := (List.getElem?_eq_some_iff.mp hp).1
        omega
      obtain ⟨x, hx⟩ : ∃ x, rs[j]? = some x := ⟨rs[j], List.getElem?_eq_getElem hj2⟩
      have ht := sm _ _ (h3 j p x hp hx)
      have okx := ok x (List.mem_of_getElem? hx)
      refine ⟨p, _, rfl, SqT.of ht, rfl, _, _, rfl, _, _, rfl, rfl, rfl, ?_⟩
      refine ⟨_, rfl, _, rfl, _, _, rfl, rfl, by omega, by have := okx.2.2; omega, (by show 1 ≤ 100; decide), _, hD, ?_, ?_, sm.mut nD⟩
      · simp [strsV]; omega
      · rw [upd_same, List.take_add_one, hx, times_one]
        simp [strsV]
    · obtain ⟨hD, sm⟩ := h
      have el : (ps.map V.ref).length = rs.length := by rw [List.length_map, h2]
      rw [el, List.take_length] at hD
      have em : strsV (rs.map fun x => List.replicate x.2 x.1) = ((rs.map fun x => List.replicate x.2 x.1).map S).map V.str := by simp [strsV]
      refine ⟨_, D, _, rfl, rfl, .inl (SqL.of (by rw [← em]; exact hD)), ?_, ?_⟩
      · have hs := sum_le (xs := rs.map fun x => List.replicate x.2 x.1) (n := 5) fun y hy => by
          obtain ⟨x, hx, rfl⟩ := List.mem_map.mp hy
          rw [List.length_replicate]
          exact (ok x hx).2.2
        rw [List.length_map] at hs
        rw [List.length_map, List.length_map]
        show _ + rs.length * 0 ≤ 16777216
        omega
      · exact str_eq (join_flat _) (q _ sm)
theorem ok_short (F : FnP K "_law_short" s_law_short f fd) : FnOk P w K mg base CX0 (k + 1) f fd ["_law_runs_here", "_law_chosen"] spShort := by
  have z := sizeLine_eq
  refine F.ok sc_law_short (fun vs H Q E h => ?_) (fun cdv A outer s H vs Q E hr h => ⟨_, PSs.nox (pss_one (ps_ret (joinC K pe_str (pe_lc (own := [("_law_sign", 2), ("_law_many", 3)]) rfl sc_law_short.nd (piL K (pv 0)) (blkOk_by (own := [("_law_sign", 2), ("_law_many", 3)]) (N := N_law_short) (sc := defScope s_law_short) (by decide +kernel)) (fun _ _ _ _ _ => (tupG K (n := 2) rfl (pgs_cons (pg_name (i := 2) sc_law_short.nd rfl (Or.inl rfl)) (pgs_cons (pg_name (i := 3) sc_law_short.nd rfl (Or.inl rfl)) pgs_nil)))) (fun _ _ _ _ _ => pts_nil) (fun _ _ _ _ _ => (pe_ifExp (pt_cmpR op_in_sign (pv 2) (pv 1) rfl) (pv 2) (pe_op op_mul_str (pv 2) (pv 3)))))))), ?_⟩)
  · obtain ⟨r, rs, ds, rfl, _⟩ := h
    rfl
  · obtain ⟨r, rs, ds, rfl, hr0, hl, ok, q⟩ := h
    obtain ⟨ps, h1, h2, h3⟩ := hr0
    refine ⟨⟨_, rfl⟩, _, rfl, r, rfl, ⟨_, SqL.of h1⟩, fun D nD => ?_⟩
    refine lc_it (walk_list (xs := ps.map V.ref)) (fun j H2 => H2 D = some (.lst (strsV ((rs.take j).map fun x => if x.1 ∈ ds then [x.1] else List.replicate x.2 x.1))) ∧ Same H H2) ⟨upd_same, Same.upd nD⟩ (fun j H2 _ h => SqL.of (h.2 _ _ h1)) (fun j v H2 H3 hj h y => ?_) (fun H2 h => ?_)
    · obtain ⟨hD, sm⟩ := h
      obtain ⟨rfl, hx0⟩ := y
      obtain ⟨p, hp, rfl⟩ := map_at hx0
      have hj2 : j < rs.length := by
        have := (List.getElem?_eq_some_iff.mp hp).1
        omega
      obtain ⟨x, hx⟩ : ∃ x, rs[j]? = some x := ⟨rs[j], List.getElem?_eq_getElem hj2⟩
      have ht := sm _ _ (h3 j p x hp hx)
      have okx := ok x (List.mem_of_getElem? hx)
      refine ⟨p, _, rfl, SqT.of ht, rfl, _, _, rfl, _, _, rfl, rfl, rfl, ?_⟩
      refine ⟨_, rfl, _, rfl, x.1, _, rfl, rfl, _, rfl, ite2 (fun e1 => ?_) (fun e1 => ?_)⟩
      · have m1 : x.1 ∈ ds := of_decide_eq_true e1
        refine ⟨_, rfl, _, hD, ?_, ?_, sm.mut nD⟩
        · simp [strsV]; omega
        · rw [upd_same, List.take_add_one, hx]
          simp [strsV, m1]
      · have m1 : x.1 ∉ ds := fun h => e1 (decide_eq_true h)
        refine ⟨_, rfl, _, rfl, _, _, rfl, rfl, by omega, by have := okx.2.2; omega, (by show 1 ≤ 100; decide), _, hD, ?_, ?_, sm.mut nD⟩
        · simp [strsV]; omega
        · rw [upd_same, List.take_add_one, hx, times_one]
          simp [strsV, m1]
    · obtain ⟨hD, sm⟩ := h
      have el : (ps.map V.ref).length = rs.length := by rw [List.length_map, h2]
      rw [el, List.take_length] at hD
      have em : strsV (rs.map fun x => if x.1 ∈ ds then [x.1] else List.replicate x.2 x.1) = ((rs.map fun x => if x.1 ∈ ds then [x.1] else List.replicate x.2 x.1).map S).map V.str := by simp [strsV]
      refine ⟨_, D, _, rfl, rfl, .inl (SqL.of (by rw [← em]; exact hD)), ?_, ?_⟩
      · have hs := sum_le (xs := rs.map fun x => if x.1 ∈ ds then [x.1] else List.replicate x.2 x.1) (n := 5) fun y hy => by
          obtain ⟨x, hx, rfl⟩ := List.mem_map.mp hy
          split
          · exact (by decide : 1 ≤ 5)
          · rw [List.length_replicate]
            exact (ok x hx).2.2
        rw [List.length_map] at hs
        rw [List.length_map, List.length_map]
        show _ + rs.length * 0 ≤ 16777216
        omega
      · exact str_eq (join_flat _) (q _ sm)
end

section
variable {P : Program} {w : World} {K : PySem.W.Frag} {mg : Str → Option Value} {base : Heap} {f C : Addr} {fd : FuncData} {k : Nat}
def nextOk (c : Nat) : Bool := match Builtin.Str.occurrences (S charsL) (S [c]) 0 (S charsL).length 1 with
  | i :: _ => decide (i < 54) && (match charsL[(i + 1) % 54]? with
    | some d => decide (d ≠ c)
    | none => false)
  | [] => false
theorem next_ok {c : Nat} (h : c ∈ charsL) : ∃ i rest d, Builtin.Str.occurrences (S charsL) (S [c]) 0 (S charsL).length 1 = i :: rest ∧ charsL[(i + 1) % 54]? = some d ∧ d ≠ c := by
  have all : ∀ c ∈ charsL, nextOk c = true := by decide +kernel
  have h1 := all c h
  unfold nextOk at h1
  split at h1
  · rename_i i rest e
    obtain ⟨_, h2⟩ := Bool.and_eq_true_iff.mp h1
    split at h2
    · rename_i d e2
      exact ⟨i, rest, d, e, e2, of_decide_eq_true h2⟩
    · cases h2
  · cases h1
theorem ok_runs (F : FnP K "_law_runs" s_law_runs f fd) (d_law_draw : Dfn P w K mg base CX0 "_law_draw" ["_law_bag_here", "_law_many"] 1 spDraw) (d_law_characters : Dfn P w K mg base CX0 "_law_characters" [] 1 spChars) (m_range : mg "range" = none) (m_len : mg "len" = none) :
    FnOk P w K mg base CX0 2 f fd ["_law_bag_here", "_law_chosen"] (spRuns K) := by
  have z := sizeLine_eq
  refine F.ok sc_law_runs (fun vs H Q E h => ?_) (fun cdv A outer s H vs Q E hr h => ⟨_, PSs.nox (pss_cons (ps_par rfl sc_law_runs.nd (i := 2) (j := 3) rfl rfl (by decide) rfl rfl (pa_cons (pe_lst pa_nil) (pa_cons pe_str pa_nil)) (by rfl))
      (pss_cons (ps_for PassesOwn.never rfl (pi_range1 (by rfl) m_range (pa_cons (pe_op op_add pe_int (pe_d d_law_draw (hr.mono (by decide)) (by rfl) (pa_cons (pv 0) (pa_cons pe_int pa_nil)))) pa_nil)) (pg_name (i := 4) sc_law_runs.nd rfl (Or.inl rfl))
        (C8.pss_cut (ps_set (i := 5) sc_law_runs.nd rfl (Or.inl rfl) (pe_ifExp (pt_cmpR op_eq (pe_d d_law_draw (hr.mono (by decide)) (by rfl) (pa_cons (pv 0) (pa_cons pe_int pa_nil))) pe_int (nomark _)) (pv 1) (pe_d0 d_law_characters (hr.mono (by decide)) (by rfl))))
      (pss_cons (ps_set (i := 6) sc_law_runs.nd rfl (Or.inl rfl) (pe_ix ix_str (pv 5) (pe_d d_law_draw (hr.mono (by decide)) (by rfl) (pa_cons (pv 0) (pa_cons (pe_callB (lenC K) (by rfl) m_len (by decide +kernel) (pa_cons (pv 5) pa_nil)) pa_nil))) (fun _ _ => rfl)))
      (C8.pss_cut (ps_if (pt_cmpR op_eq (pv 6) (pv 3) (nomark _)) (pss_cons (ps_set (i := 7) sc_law_runs.nd rfl (Or.inl rfl) (pe_d0 d_law_characters (hr.mono (by decide)) (by rfl)))
      (pss_one (ps_set (i := 6) sc_law_runs.nd rfl (Or.inl rfl) (pe_ix ix_str (pv 7) (pe_op op_mod (pe_op op_add (pe_m1 PySem.F.slot_str_index PySem.F.type_str_index mt_sindex (pv 7) (pv 6)) pe_int) pe_int) (fun _ _ => rfl))))) pss_nil)
      (pss_cons (ps_expr (pe_bm' K PySem.F.plainAttrs_list PySem.F.slot_list_append PySem.F.type_list_append mt_append (pv 2) (pa_cons (pe_tup (pa_cons (pv 6) (pa_cons (pe_op op_add pe_int (pe_d d_law_draw (hr.mono (by decide)) (by rfl) (pa_cons (pv 0) (pa_cons pe_int pa_nil)))) pa_nil))) pa_nil)))
      (pss_one (ps_set (i := 3) sc_law_runs.nd rfl (Or.inl rfl) (pv 6))))))))
      (pss_one (ps_ret (pv 2))))), ?_⟩)
  · obtain ⟨b, ds, rfl, _⟩ := h
    rfl
  · obtain ⟨b, ds, rfl, hb, d0, d4, dc, q⟩ := h
    refine ⟨Nat.zero_le _, fun D nD => ⟨_, _, rfl, _, rfl, b, 20, rfl, hb.new nD, by decide, by decide, fun i0 H1 i1 i2 k1 b1 => ⟨_, _, rfl, rfl, _, rfl, by omega, by omega, ?_⟩⟩⟩
    have nDb : D ≠ b := (bag_ne hb nD).symm
    have hD1 := k1 D _ nDb upd_same
    obtain ⟨n, rfl⟩ : ∃ n : Nat, i0 = n := ⟨i0.toNat, by omega⟩
    have en : ((1 : Int) + (n : Int)).toNat = n + 1 := by omega
    rw [en]
    refine for_it walk_range (fun i σ H2 => ∃ (rs : List Run) (y4 y5 y6 y7 : Option V), σ = [some (.ref b), some (.str (S ds)), some (.ref D), some (.str (S (lastS rs))), y4, y5, y6, y7] ∧ rs.length = i ∧ IsRuns H2 D rs ∧ (∀ x ∈ rs, OkR x) ∧ Adj rs ∧ Kb b H H2 ∧ IsBag H2 b)
      ⟨[], _, _, _, _, rfl, rfl, ⟨[], hD1, rfl, fun i p x a b => by cases a⟩, by simp, trivial, ((Kb.refl b H).new nD).trans k1, b1⟩ (fun _ _ _ _ _ => trivial) (fun i x σ H2 H3 hi2 h y => ?_) (fun σ H2 h => ?_)
    · obtain ⟨rs, y4, y5, y6, y7, rfl, rl, hrs, ok, ad, k2, b2⟩ := h
      obtain ⟨rfl, rfl⟩ := y
      -- the signs
      refine ⟨fun σ' H' => ∃ cs : List Nat, σ' = [some (.ref b), some (.str (S ds)), some (.ref D), some (.str (S (lastS rs))), some (.int (0 + (i : Int))), some (.str (S cs)), y6, y7] ∧ cs ≠ [] ∧ cs.length ≤ 54 ∧ (∀ c ∈ cs, c ∈ charsL) ∧ Kb b H3 H' ∧ IsBag H' b, ?_, fun σ' H' h => ?_⟩
      · refine ⟨_, rfl, b, 2, rfl, b2, by decide, by decide, fun j H4 j0 j1 k4 b4 => ⟨rfl, _, rfl, ite2 (fun e1 => ?_) (fun e1 => ?_)⟩⟩
        · exact ⟨_, rfl, ds, rfl, d0, by omega, dc, k4, b4⟩
        · exact ⟨rfl, charsL, rfl, by decide, by decide, fun c hc => hc, k4, b4⟩
      obtain ⟨cs, rfl, c0, c54, cc, k4, b4⟩ := h
      have hcs : (S cs).length = cs.length := S_len cs
      have cpos : 0 < cs.length := List.length_pos_iff.mpr c0
      refine ⟨_, rfl, _, rfl, _, rfl, _, _, rfl, ⟨by rw [hcs]; omega, rfl⟩, b, _, rfl, b4, by rw [hcs]; omega, by rw [hcs]; omega, fun j H5 j0 j1 k5 b5 => ?_⟩
      rw [hcs] at j1
      obtain ⟨c, hc, ha⟩ := at_int (xs := cs) j0 j1
      have cin := cc c (List.mem_of_getElem? hc)
      refine ⟨_, _, c, rfl, rfl, by rw [hcs]; omega, ha, ?_⟩
      have k05 : Kb b H3 H5 := k4.trans k5
      -- another one
      refine ⟨fun σ' H' => ∃ (d : Nat) (y7 : Option V), σ' = [some (.ref b), some (.str (S ds)), some (.ref D), some (.str (S (lastS rs))), some (.int (0 + (i : Int))), some (.str (S cs)), some (.str (S [d])), y7] ∧ d ∈ charsL ∧ lastS rs ≠ [d] ∧ H' = H5, ?_, fun σ' H' h => ?_⟩
      · refine ⟨_, rfl, _, rfl, rfl, _, rfl, ite2 (fun e1 => ?_) (fun e1 => ?_)⟩
        · obtain ⟨i3, rest, d, eo, ed, nd⟩ := next_ok cin
          have el : lastS rs = [c] := by
            have e2 : V.str (S [c]) = V.str (S (lastS rs)) := of_decide_eq_true e1
            exact (S_inj (V.str.inj e2)).symm
          refine ⟨rfl, ?_⟩
          obtain ⟨v, hv, hat⟩ := at_int (xs := charsL) (i := ((((i3 : Nat) : Int) + 1) % 54)) (by omega) (by show _ < (54 : Int); omega)
          have e54 : ((((i3 : Nat) : Int) + 1) % 54).toNat = (i3 + 1) % 54 := by omega
          rw [e54, ed] at hv
          cases hv
          refine ⟨_, rfl, _, rfl, ⟨_, rfl⟩, _, rfl, _, _, i3, rest, rfl, rfl, eo, _, _, rfl, rfl, _, _, rfl, rfl, (by show (0 : Int) < 54; decide), _, _, d, rfl, rfl, (by show 54 ≤ sizeLine; omega), hat, ?_⟩
          exact ⟨d, _, rfl, List.mem_of_getElem? ed, fun e => nd (by rw [el] at e; simpa using e.symm), rfl⟩
        · refine ⟨c, _, rfl, cin, fun e => e1 ?_, rfl⟩
          rw [e]
          exact decide_eq_true rfl
      obtain ⟨d, y8, rfl, din, dne, rfl⟩ := h
      have hrs5 : IsRuns H' D rs := hrs.kb b2 k05
      obtain ⟨ps, h1, h2, h3⟩ := hrs5
      refine ⟨_, rfl, .inl ⟨rfl, _, SqL.of h1⟩, _, rfl, _, rfl, b, 5, rfl, b5, by decide, by decide, fun m H6 m0 m1 k6 b6 => ⟨_, _, rfl, rfl, (by show 2 ≤ sizeLine; omega), fun p np => ?_⟩⟩
      obtain ⟨m, rfl⟩ : ∃ n : Nat, m = n := ⟨m.toNat, by omega⟩
      have hrs6 : IsRuns H6 D rs := (hrs.kb b2 k05).kb b5 k6
      obtain ⟨ps, h1, h2, h3⟩ := hrs6
      have npD : D ≠ p := ne_of_none h1 np
      have el : lastS (rs ++ [(d, m + 1)]) = [d] := by
        unfold lastS
        rw [List.getLast?_concat]
      refine ⟨_, _, _, rfl, rfl, (by rw [upd_ne npD]; exact h1), ?_, _, rfl, rs ++ [(d, m + 1)], some (.int (0 + (i : Int))), some (.str (S cs)), some (.str (S [d])), y8, ?_, by simp [rl], ?_, ?_, ?_, ?_, ?_⟩
      · rw [List.length_map]; omega
      · rw [el]
        rfl
      · refine ⟨ps ++ [p], ?_, by simp [h2], fun j p1 x e1 e2 => ?_⟩
        · rw [upd_same]; simp
        · rcases Nat.lt_or_ge j ps.length with hj | hj
          · rw [List.getElem?_append_left hj] at e1
            rw [List.getElem?_append_left (by omega)] at e2
            have e3 := h3 j p1 x e1 e2
            rw [upd_ne (fun z => by subst z; rw [h1] at e3; cases e3), upd_ne (ne_of_none e3 np)]
            exact e3
          · rw [List.getElem?_append_right hj] at e1
            rw [List.getElem?_append_right (by omega)] at e2
            have j0 : j - ps.length = 0 := by
              have := (List.getElem?_eq_some_iff.mp e1).1
              simpa using this
            rw [j0] at e1
            rw [← h2, j0] at e2
            cases e1
            cases e2
            rw [upd_ne npD.symm, upd_same]
            have em : (1 : Int) + (m : Int) = ((m + 1 : Nat) : Int) := by omega
            show some (HO.tup [V.str (S [d]), V.int (1 + (m : Int))]) = _
            rw [em]
      · intro x hx
        rcases List.mem_append.mp hx with e | e
        · exact ok x e
        · rw [List.mem_singleton.mp e]
          exact ⟨din, by show 1 ≤ m + 1; omega, by show m + 1 ≤ 5; omega⟩
      · exact adj_app (d, m + 1) rs ad dne
      · exact ((k2.trans (k05.trans k6)).push np).new nD
      · exact (b6.new np).keep nDb.symm
    · obtain ⟨rs, y4, y5, y6, y7, rfl, rl, hrs, ok, ad, k2, b2⟩ := h
      refine ⟨_, rfl, q D rs H2 nD k2 b2 hrs (fun e => ?_) (by omega) ok ad⟩
      rw [e] at rl
      simp at rl
end

def spLaw (K : PySem.W.Frag) : Sp := fun vs H Q _ => ∃ (a : Addr) (ns : List Int), vs = [.ref a] ∧ SqL K H a (ns.map V.int) ∧ ∀ H', Q (.bl true) H'
abbrev s_law : Stmt := topS 25
abbrev N_law : List Str := ["_law_script", "_law_bag_here", "_law_chosen", "_law_rows", "_law_steps", "_law_step", "_law_runs_here", "_law_told", "_law_size", "_law_cut", "_law_other", "_law_word_here", "_law_many", "_law_k", "_law_sign"]
theorem sc_law : FnScope N_law ["_law_script"] (defScope s_law) := ⟨rfl, rfl, rfl, by decide +kernel, rfl, by decide +kernel, by decide +kernel⟩
/-- a row of runs -/
def Rw (H : Hp) (r : Addr) : Prop := ∃ rs, IsRuns H r rs ∧ rs ≠ [] ∧ rs.length ≤ 20 ∧ (∀ x ∈ rs, OkR x) ∧ Adj rs
theorem Rw.same {H H' : Hp} {r : Addr} (h : Rw H r) (s : Same H H') : Rw H' r := by
  obtain ⟨rs, h1, h2⟩ := h
  exact ⟨rs, h1.same s, h2⟩
theorem IsDbl.same {C : Addr} {H H' : Hp} {a : Addr} {ds : List Nat} (h : IsDbl C H a ds) (s : Same H H') : IsDbl C H' a ds := by
  obtain ⟨dx, fs, m, h1, h2⟩ := h
  exact ⟨dx, fs, m, s _ _ h1, h2⟩
theorem IsDbl.mem {C : Addr} {H : Hp} {a : Addr} {ds es : List Nat} (h : IsDbl C H a ds) (e : ∀ c, c ∈ ds ↔ c ∈ es) : IsDbl C H a es := by
  obtain ⟨dx, fs, m, h1, h2, h3⟩ := h
  exact ⟨dx, fs, m, h1, h2, fun c => (h3 c).trans (e c)⟩
theorem IsDbl.ins {C : Addr} {H : Hp} {a : Addr} {ds : List Nat} (h : IsDbl C H a ds) : ∃ dx fs, H a = some (.ins C dx fs) := by
  obtain ⟨dx, fs, m, h1, _⟩ := h
  exact ⟨dx, fs, h1⟩
theorem IsCut.same {C : Addr} {H H' : Hp} {a : Addr} {n : Nat} (h : IsCut C H a n) (s : Same H H') : IsCut C H' a n := by
  obtain ⟨dx, fs, h1, h2⟩ := h
  exact ⟨dx, fs, s _ _ h1, h2⟩
theorem IsCut.ins {C : Addr} {H : Hp} {a : Addr} {n : Nat} (h : IsCut C H a n) : ∃ dx fs, H a = some (.ins C dx fs) := by
  obtain ⟨dx, fs, h1, _⟩ := h
  exact ⟨dx, fs, h1⟩
theorem Wd.pl {l : List Nat} (h : Wd l) : Pl l := fun c hc => by
  have h1 := h.2.1 c hc
  have h2 : ∀ c ∈ charsL, c < 128 := by decide +kernel
  exact h2 c h1
theorem Wd.pls {l : List Nat} (h : Wd l) (n : Nat) : ∀ x ∈ [l.take n], Pl x := fun x hx => by
  rw [List.mem_singleton.mp hx]
  exact fun c hc => h.pl c (List.mem_of_mem_take hc)
theorem short_pl {ds : List Nat} {rs : List Run} (h : ∀ x ∈ rs, OkR x) : ∀ x ∈ [shortF ds rs], Pl x := fun x hx => by
  rw [List.mem_singleton.mp hx]
  intro c hc
  have h2 : ∀ c ∈ charsL, c < 128 := by decide +kernel
  obtain ⟨l, hl, hcl⟩ := List.mem_flatten.mp hc
  obtain ⟨y, hy, rfl⟩ := List.mem_map.mp hl
  have : c = y.1 := by
    split at hcl
    · exact List.mem_singleton.mp hcl
    · exact (List.mem_replicate.mp hcl).2
  rw [this]
  exact h2 _ (h y hy).1
theorem cut_drop1 (l : List Nat) : cutS (S l) (some 1) none = S (l.drop 1) := by
  unfold cutS
  rw [S_len, HT.sIx_none, show HT.sIx l.length 0 (some 1) = min 1 l.length from HT.sIx_nat l.length 0 1]
  show (⟨((l.drop (min 1 l.length)).take (l.length - min 1 l.length)).toArray⟩ : Str) = ⟨(l.drop 1).toArray⟩
  cases l with
  | nil => rfl
  | cons a r =>
    rw [show min 1 (a :: r).length = 1 by simp, List.take_of_length_le (by simp)]
section
variable {P : Program} {w : World} {K : PySem.W.Frag} {mg : Str → Option Value} {base : Heap} {f CD CC : Addr} {fd : FuncData} {k : Nat}
theorem ok_law (F : FnP K "law" s_law f fd) (d_law_bag : Dfn P w K mg base CX0 "_law_bag" ["_law_script", "_law_k"] 1 (spBag K)) (d_law_draw : Dfn P w K mg base CX0 "_law_draw" ["_law_bag_here", "_law_many"] 1 spDraw)
    (d_law_characters : Dfn P w K mg base CX0 "_law_characters" [] 1 spChars) (d_law_string : Dfn P w K mg base CX0 "_law_string" ["_law_bag_here", "_law_signs", "_law_least", "_law_most"] 2 (spString K))
    (d_law_runs : Dfn P w K mg base CX0 "_law_runs" ["_law_bag_here", "_law_chosen"] 2 (spRuns K)) (d_law_word : Dfn P w K mg base CX0 "_law_word" ["_law_runs_here"] 1 spWord) (d_law_short : Dfn P w K mg base CX0 "_law_short" ["_law_runs_here", "_law_chosen"] 1 spShort)
    (k_Doubles : Mkd P w K mg base CX0 "Doubles" CD ["self", "of"] 2 (spDblI CD)) (kk_Doubles : MkK P w K mg base CX0 "Doubles" CD ["self", "of"] 2 1 ["of"] (fun vs zs => vs ++ zs) (spDblI CD)) (cal_Doubles : Cal P w K mg base CX0 CD ["self", "word"] 3 (spDblC CD))
    (k_Cut : Mkd P w K mg base CX0 "Cut" CC ["self", "high"] 3 (spCutI CC)) (kk_Cut : MkK P w K mg base CX0 "Cut" CC ["self", "high"] 3 1 ["high"] (fun vs zs => vs ++ zs) (spCutI CC)) (cal_Cut : Cal P w K mg base CX0 CC ["self", "word"] 3 (spCutC CC))
    (m_range : mg "range" = none) (m_list : mg "list" = none) (m_set : mg "set" = none) (m_sorted : mg "sorted" = none) (m_isinstance : mg "isinstance" = none) (m_enumerate : mg "enumerate" = none) : FnOk P w K mg base CX0 5 f fd ["_law_script"] (spLaw K) := by
  have z := sizeLine_eq
  refine F.ok sc_law (fun vs H Q E h => ?_) (fun cdv A outer s H vs Q E hr h => ⟨_, PSs.nox (pss_cons (ps_set (i := 1) sc_law.nd rfl (Or.inl rfl) (pe_d d_law_bag (hr.mono (by decide)) (by rfl) (pa_cons (pv 0) (pa_cons pe_int pa_nil))))
      (pss_cons (ps_set (i := 2) sc_law.nd rfl (Or.inl rfl) (joinC K pe_str (pe_callB (sortT K w rfl) (by rfl) m_sorted (by decide +kernel) (pa_cons (pe_callTy (setT K w rfl) (by rfl) m_set (by decide +kernel) (pa_cons (pe_callTy (cr_listT rfl) (by rfl) m_list (by decide +kernel) (pa_cons (pe_d d_law_string (hr.mono (by decide)) (by rfl) (pa_cons (pv 1) (pa_cons (pe_d0 d_law_characters (hr.mono (by decide)) (by rfl)) (pa_cons pe_int (pa_cons pe_int pa_nil))))) pa_nil)) pa_nil)) pa_nil))))
      (pss_cons (ps_set (i := 3) sc_law.nd rfl (Or.inl rfl) (pe_lst (pa_cons (pe_d d_law_runs (hr.mono (by decide)) (by rfl) (pa_cons (pe_d d_law_bag (hr.mono (by decide)) (by rfl) (pa_cons (pv 0) (pa_cons pe_int pa_nil))) (pa_cons (pv 2) pa_nil))) (pa_cons (pe_d d_law_runs (hr.mono (by decide)) (by rfl) (pa_cons (pe_d d_law_bag (hr.mono (by decide)) (by rfl) (pa_cons (pv 0) (pa_cons pe_int pa_nil))) (pa_cons (pv 2) pa_nil))) pa_nil))))
      (pss_cons (ps_set (i := 4) sc_law.nd rfl (Or.inl rfl) (pe_lst (pa_cons (pe_mk k_Doubles (hr.mono (by decide)) pass0 (by rfl) (pa_cons (pv 2) pa_nil)) (pa_cons (pe_mk k_Doubles (hr.mono (by decide)) pass0 (by rfl) (pa_cons (pe_revS (pv 2)) pa_nil)) (pa_cons (pe_mkk kk_Doubles (hr.mono (by decide)) pass0 (by rfl) (pk_cons (pe_op op_add_str (pe_slice sl_str (pv 2) (po_some pe_int) po_none) (pe_slice sl_str (pv 2) po_none (po_some pe_int))) pk_nil)) pa_nil)))))
      (pss_cons (ps_for PassesOwn.never rfl (piL K (pv 4)) (pg_name (i := 5) sc_law.nd rfl (Or.inl rfl))
        (pss_one (ps_for PassesOwn.never rfl (piL K (pe_op op_cat (pv 3) (revL K (pv 3)))) (pg_name (i := 6) sc_law.nd rfl (Or.inl rfl))
        (pss_cons (ps_set (i := 7) sc_law.nd rfl (Or.inl rfl) (pe_cal (pv 5) cal_Doubles (hr.mono (by decide)) pass0 (pa_cons (pe_d d_law_word (hr.mono (by decide)) (by rfl) (pa_cons (pv 6) pa_nil)) pa_nil)))
      (pss_cons (ps_if (PW.pt (pw_or (pt_not (pt_val (pe_callB (isiC K) (by rfl) m_isinstance (by decide +kernel) (pa_cons (pv 7) (pa_cons (pe_bltn (v := .ty "list") (by rfl) m_list (by decide +kernel) rfl) pa_nil))))) (pw_or1 (pt_cmpR (neD K hr.units) (pv 7) (pe_lst (pa_cons (pe_d d_law_short (hr.mono (by decide)) (by rfl) (pa_cons (pv 6) (pa_cons (pv 2) pa_nil))) pa_nil)) (nomark _))))) (pss_one (ps_ret pe_bl)) pss_nil)
      (pss_cons (ps_expr (pe_bm' K PySem.F.plainAttrs_list PySem.F.slot_list_append PySem.F.type_list_append mt_append (pv 7) (pa_cons pe_str pa_nil)))
      (pss_one (ps_if (pt_cmpR (neD K hr.units) (pe_cal (pv 5) cal_Doubles (hr.mono (by decide)) pass0 (pa_cons (pe_d d_law_word (hr.mono (by decide)) (by rfl) (pa_cons (pv 6) pa_nil)) pa_nil)) (pe_lst (pa_cons (pe_d d_law_short (hr.mono (by decide)) (by rfl) (pa_cons (pv 6) (pa_cons (pv 2) pa_nil))) pa_nil)) (nomark _)) (pss_one (ps_ret pe_bl)) pss_nil))))))))
      (pss_cons (ps_set (i := 8) sc_law.nd rfl (Or.inl rfl) (pe_op op_add pe_int (pe_d d_law_draw (hr.mono (by decide)) (by rfl) (pa_cons (pv 1) (pa_cons pe_int pa_nil)))))
      (pss_cons (ps_par rfl sc_law.nd (i := 9) (j := 10) rfl rfl (by decide) rfl rfl (pa_cons (pe_mk k_Cut (hr.mono (by decide)) pass0 (by rfl) (pa_cons (pv 8) pa_nil)) (pa_cons (pe_mkk kk_Cut (hr.mono (by decide)) pass0 (by rfl) (pk_cons (pe_op op_sub pe_int (pv 8)) pk_nil)) pa_nil)) (by rfl))
      (pss_cons (ps_for PassesOwn.never rfl (piL K (pe_op op_cat (pv 3) (revL K (pv 3)))) (pg_name (i := 6) sc_law.nd rfl (Or.inl rfl))
        (pss_cons (ps_set (i := 11) sc_law.nd rfl (Or.inl rfl) (pe_d d_law_word (hr.mono (by decide)) (by rfl) (pa_cons (pv 6) pa_nil)))
      (pss_cons (ps_set (i := 7) sc_law.nd rfl (Or.inl rfl) (pe_cal (pv 9) cal_Cut (hr.mono (by decide)) pass0 (pa_cons (pv 11) pa_nil)))
      (pss_cons (ps_if (PW.pt (pw_or (pt_not (pt_val (pe_callB (isiC K) (by rfl) m_isinstance (by decide +kernel) (pa_cons (pv 7) (pa_cons (pe_bltn (v := .ty "list") (by rfl) m_list (by decide +kernel) rfl) pa_nil))))) (pw_or (pt_cmpR (neD K hr.units) (pv 7) (pe_lst (pa_cons (pe_slice sl_str (pv 11) po_none (po_some (pv 8))) pa_nil)) (nomark _)) (pw_or1 (pt_cmpR (neD K hr.units) (pe_cal (pv 10) cal_Cut (hr.mono (by decide)) pass0 (pa_cons (pv 11) pa_nil)) (pe_lst (pa_cons (pe_slice sl_str (pv 11) po_none (po_some (pe_op op_sub pe_int (pv 8)))) pa_nil)) (nomark _)))))) (pss_one (ps_ret pe_bl)) pss_nil)
      (pss_cons (ps_expr (pe_bm0' K PySem.F.plainAttrs_list PySem.F.slot_list_clear PySem.F.type_list_clear mt_clear (pv 7)))
      (pss_one (ps_if (pt_cmpR (neD K hr.units) (pe_cal (pv 9) cal_Cut (hr.mono (by decide)) pass0 (pa_cons (pv 11) pa_nil)) (pe_lst (pa_cons (pe_slice sl_str (pv 11) po_none (po_some (pv 8))) pa_nil)) (nomark _)) (pss_one (ps_ret pe_bl)) pss_nil)))))))
      (pss_cons (ps_set (i := 11) sc_law.nd rfl (Or.inl rfl) (pe_d d_law_word (hr.mono (by decide)) (by rfl) (pa_cons (pe_ix (ixL K) (pv 3) pe_int (fun _ _ => rfl)) pa_nil)))
      (pss_cons (ps_for PassesOwn.never rfl (pi_range2 (by rfl) m_range (pa_cons pe_int (pa_cons pe_int pa_nil))) (pg_name (i := 12) sc_law.nd rfl (Or.inr rfl))
        (pss_cons (ps_if (pt_cmpR (neD K hr.units) (pe_cal (pe_mk k_Cut (hr.mono (by decide)) pass0 (by rfl) (pa_cons (pv 12) pa_nil)) cal_Cut (hr.mono (by decide)) pass0 (pa_cons (pv 11) pa_nil)) (pe_lst (pa_cons (joinC K pe_str (pe_lc (own := [("_law_k", 13), ("_law_sign", 14)]) rfl sc_law.nd (enumS m_enumerate (pa_cons (pv 11) pa_nil)) (blkOk_by (own := [("_law_k", 13), ("_law_sign", 14)]) (N := N_law) (sc := defScope s_law) (by decide +kernel)) (fun _ _ _ _ _ => (tupG K (n := 2) rfl (pgs_cons (pg_name (i := 13) sc_law.nd rfl (Or.inl rfl)) (pgs_cons (pg_name (i := 14) sc_law.nd rfl (Or.inl rfl)) pgs_nil)))) (fun _ _ _ _ _ => pts_one (pt_cmpR op_lt (pv 13) (pv 12) (nomark _))) (fun _ _ _ _ _ => (pv 14)))) pa_nil)) (nomark _)) (pss_one (ps_ret pe_bl)) pss_nil)
      (pss_one (ps_if (PW.pt (pw_or (pt_cmpR (neD K hr.units) (pe_cal (pe_mk k_Cut (hr.mono (by decide)) pass0 (by rfl) (pa_cons (pv 12) pa_nil)) cal_Cut (hr.mono (by decide)) pass0 (pa_cons (pe_op op_mul_str (pe_ix ix_str (pv 2) pe_int (fun _ _ => rfl)) (pv 12)) pa_nil)) (pe_lst (pa_cons (pe_op op_mul_str (pe_ix ix_str (pv 2) pe_int (fun _ _ => rfl)) (pv 12)) pa_nil)) (nomark _)) (pw_or1 (pt_cmpR (neD K hr.units) (pe_cal (pe_mk k_Cut (hr.mono (by decide)) pass0 (by rfl) (pa_cons (pv 12) pa_nil)) cal_Cut (hr.mono (by decide)) pass0 (pa_cons (pe_ix ix_str (pv 2) pe_int (fun _ _ => rfl)) pa_nil)) (pe_lst (pa_cons (pe_ix ix_str (pv 2) pe_int (fun _ _ => rfl)) pa_nil)) (nomark _))))) (pss_one (ps_ret pe_bl)) pss_nil))))
      (pss_one (ps_ret pe_bl)))))))))))), ?_⟩)
  · obtain ⟨a, ns, rfl, _⟩ := h
    rfl
  · obtain ⟨a, ns, rfl, hS, q⟩ := h
    refine ⟨_, rfl, a, ns, 0, rfl, hS, by decide, fun b1 H1 nb1 s1 bg1 => ?_⟩
    refine ⟨⟨_, rfl⟩, _, rfl, rfl, b1, _, charsL, 1, 4, rfl, bg1, .inl rfl, (fun e => nomatch e), by decide, by decide, by decide, by decide, by decide, fun l H2 lm l1 l4 k2 bg2 => ?_⟩
    have hl : (S l).length = l.length := S_len l
    obtain ⟨ds, em, up, mm⟩ := ups_signs l
    refine ⟨_, rfl, by omega, fun p np => ?_⟩
    refine ⟨_, _, rfl, .inr ⟨p, rfl, .inl (SqL.of upd_same)⟩, ?_, fun p2 L np2 nd mem => ?_⟩
    · rw [signs_S, List.length_map]; omega
    have eL : srt L = ds.map fun c => S [c] := by rw [srt_set nd mem, signs_S, em]
    have eLl : L.length = ds.length := by rw [← srt_len L, eL, List.length_map]
    have dl : ds.length ≤ l.length := len_le_of_nodup (up.imp fun h => Nat.ne_of_lt h) fun c hc => (mm c).mp hc
    refine ⟨_, _, rfl, .inr ⟨p2, rfl, upd_same⟩, by omega, fun p3 np3 => ?_⟩
    have e3 : (srt L).map V.str = (ds.map fun c => S [c]).map V.str := by rw [eL]
    rw [e3]
    refine ⟨_, p3, ds.map fun c => S [c], rfl, rfl, .inl (SqL.of upd_same), ?_, ?_⟩
    · rw [sum_one, List.length_map]
      show ds.length + ds.length * 0 ≤ 16777216
      omega
    have ej : Txt.join (Str.ofString "") (ds.map fun c => S [c]) = S ds := join_signs ds
    rw [ej]
    have d0 : ds ≠ [] := by
      intro e
      rw [e] at mm
      cases l with
      | nil => simp at l1
      | cons a r => exact absurd ((mm a).mpr List.mem_cons_self) (by simp)
    have d4 : ds.length ≤ 4 := by omega
    have dc : ∀ c ∈ ds, c ∈ charsL := fun c hc => lm c ((mm c).mp hc)
    have dn : ds.Nodup := up.imp fun h => Nat.ne_of_lt h
    obtain ⟨H3, e3⟩ : ∃ H3, H3 = upd (upd (upd H2 p (.lst (List.map V.str (signsOf (S l))))) p2 (SetS w p2 L)) p3 (.lst ((ds.map fun c => S [c]).map V.str)) := ⟨_, rfl⟩
    rw [← e3]
    have k3 : Kb b1 H1 H3 := by rw [e3]; exact ((k2.push np).push np2).push np3
    have bg3 : IsBag H3 b1 := by rw [e3]; exact ((bg2.new np).new np2).new np3
    show tSeq _ _ _ [some (.ref a), some (.ref b1), some (.str (S ds)), none, none, none, none, none, none, none, none, none, none, none, none] _
    have hS3 : SqL K H3 a (ns.map V.int) := seqL_fresh hS nb1 (s1.kb.trans k3)
    -- the rows
    refine ⟨_, rfl, a, ns, 1, rfl, hS3, by decide, fun b2 H4 nb2 s4 bg4 => ?_⟩
    refine ⟨_, rfl, b2, ds, rfl, bg4, d0, d4, dc, fun r1 rs1 H5 nr1 k5 bg5 hr1 n1 le1 ok1 ad1 => ?_⟩
    have hS5 : SqL K H5 a (ns.map V.int) := seqL_fresh hS3 nb2 (s4.kb.trans k5)
    have nbb : b1 ≠ b2 := bag_ne bg3 nb2
    have bg5' : IsBag H5 b1 := by
      obtain ⟨c, u, v, e⟩ := bg3
      exact ⟨c, u, v, k5 _ _ nbb (s4 _ _ e)⟩
    refine ⟨_, rfl, a, ns, 2, rfl, hS5, by decide, fun b3 H6 nb3 s6 bg6 => ?_⟩
    refine ⟨_, rfl, b3, ds, rfl, bg6, d0, d4, dc, fun r2 rs2 H7 nr2 k7 bg7 hr2 n2 le2 ok2 ad2 => ⟨(by show 2 ≤ sizeLine; omega), fun R nR => ?_⟩⟩
    have bg7' : IsBag H7 b1 := by
      have nb : b1 ≠ b3 := bag_ne bg5' nb3
      obtain ⟨c, u, v, e⟩ := bg5'
      exact ⟨c, u, v, k7 _ _ nb (s6 _ _ e)⟩
    have w1 : Rw H7 r1 := ⟨rs1, (hr1.same s6).kb bg6 k7, n1, le1, ok1, ad1⟩
    have w2 : Rw H7 r2 := ⟨rs2, hr2, n2, le2, ok2, ad2⟩
    obtain ⟨H8, e8⟩ : ∃ H8, H8 = upd H7 R (.lst [.ref r1, .ref r2]) := ⟨_, rfl⟩
    have s8 : Same H7 H8 := by rw [e8]; exact Same.upd nR
    have hR : H8 R = some (.lst [.ref r1, .ref r2]) := by rw [e8, upd_same]
    rw [← e8]
    replace w1 := w1.same s8
    replace w2 := w2.same s8
    have bg8 : IsBag H8 b1 := by
      obtain ⟨c, u, v, e⟩ := bg7'
      exact ⟨c, u, v, s8 _ _ e⟩
    show tSeq _ _ _ [some (.ref a), some (.ref b1), some (.str (S ds)), some (.ref R), none, none, none, none, none, none, none, none, none, none, none] _
    -- the steps
    have dpos : 1 ≤ ds.length := List.length_pos_iff.mpr d0
    refine ⟨_, rfl, fun x1 dx1 nx1 nd1 ne1 => ⟨x1, dx1, ds, rfl, upd_same, dpos, d4, dn, dc, fun H9 k9 hb1 => ⟨rfl, ?_⟩⟩⟩
    have s9 := made_same nx1 nd1 k9
    refine ⟨_, rfl, _, rfl, by rw [S_len]; omega, fun x2 dx2 nx2 nd2 ne2 => ⟨x2, dx2, ds.reverse, rfl, upd_same, by simpa using dpos, by simpa using d4, (List.reverse_perm ds).nodup_iff.mpr dn, (fun c hc => dc c (by simpa using hc)), fun H10 k10 hb2 => ⟨rfl, ?_⟩⟩⟩
    have s10 := made_same nx2 nd2 k10
    have e11 : cutS (S ds) (some 1) none ++ cutS (S ds) none (some 1) = S (ds.drop 1 ++ ds.take 1) := by
      rw [cut_drop1, show cutS (S ds) none (some 1) = S (ds.take 1) from cut_take ds 1, S_app]
    have perm : (ds.drop 1 ++ ds.take 1).Perm ds := by
      have h1 := List.take_append_drop 1 ds
      exact (List.perm_append_comm).trans (by rw [h1])
    refine ⟨_, rfl, _, rfl, _, rfl, by rw [S_len]; omega, _, rfl, _, rfl, _, rfl, by rw [S_len]; omega, _, _, rfl, rfl, ?_, rfl, rfl, fun x3 dx3 nx3 nd3 ne3 => ⟨x3, dx3, ds.drop 1 ++ ds.take 1, by rw [e11]; rfl, upd_same, ?_, ?_, perm.nodup_iff.mpr dn, (fun c hc => dc c (perm.mem_iff.mp hc)), fun H11 k11 hb3 => ⟨rfl, (by show 3 ≤ sizeLine; omega), fun T nT => ?_⟩⟩⟩
    · rw [cut_drop1, show cutS (S ds) none (some 1) = S (ds.take 1) from cut_take ds 1, S_len, S_len]
      simp
      omega
    · rw [perm.length_eq]; exact dpos
    · rw [perm.length_eq]; exact d4
    have s11 := made_same nx3 nd3 k11
    obtain ⟨H12, e12⟩ : ∃ H12, H12 = upd H11 T (.lst [.ref x1, .ref x2, .ref x3]) := ⟨_, rfl⟩
    rw [← e12]
    have s12 : Same H11 H12 := by rw [e12]; exact Same.upd nT
    have hT : H12 T = some (.lst [.ref x1, .ref x2, .ref x3]) := by rw [e12, upd_same]
    have hd : ∀ v ∈ [V.ref x1, V.ref x2, V.ref x3], ∃ x, v = .ref x ∧ IsDbl CD H12 x ds := by
      intro v hv
      rcases List.mem_cons.mp hv with e | hv
      · exact ⟨x1, e, hb1.same (s10.trans (s11.trans s12))⟩
      rcases List.mem_cons.mp hv with e | hv
      · exact ⟨x2, e, (hb2.same (s11.trans s12)).mem fun c => List.mem_reverse⟩
      · exact ⟨x3, List.mem_singleton.mp hv, (hb3.same s12).mem fun c => perm.mem_iff⟩
    have s812 : Same H8 H12 := s9.trans (s10.trans (s11.trans s12))
    have hw : ∀ v ∈ [V.ref r1, V.ref r2] ++ [V.ref r1, V.ref r2].reverse, ∃ r, v = .ref r ∧ Rw H12 r := by
      intro v hv
      have hv2 : v ∈ [V.ref r1, V.ref r2] := by
        rcases List.mem_append.mp hv with e | e
        · exact e
        · exact List.mem_reverse.mp e
      rcases List.mem_cons.mp hv2 with e | hv3
      · exact ⟨r1, e, w1.same s812⟩
      · exact ⟨r2, List.mem_singleton.mp hv3, w2.same s812⟩
    have hR12 := s812 _ _ hR
    show tSeq _ _ _ [some (.ref a), some (.ref b1), some (.str (S ds)), some (.ref R), some (.ref T), none, none, none, none, none, none, none, none, none, none] _
    refine ⟨_, rfl, T, rfl, ⟨_, SqL.of hT⟩, for_it (walk_list (xs := [V.ref x1, V.ref x2, V.ref x3])) (fun i σ H13 => ∃ y5 y6 y7, σ = [some (.ref a), some (.ref b1), some (.str (S ds)), some (.ref R), some (.ref T), y5, y6, y7, none, none, none, none, none, none, none] ∧ Same H12 H13) ⟨_, _, _, rfl, fun _ _ h => h⟩ (fun i σ H13 _ h => ?_) (fun i v σ H13 H14 hi2 h yv => ?_) (fun σ H13 h => ?_)⟩
    · obtain ⟨_, _, _, rfl, s13⟩ := h
      exact SqL.of (s13 _ _ hT)
    · obtain ⟨y5, y6, y7, rfl, s13⟩ := h
      obtain ⟨rfl, hx0⟩ := yv
      obtain ⟨x, rfl, hdx⟩ := hd v (List.mem_of_getElem? hx0)
      refine ⟨_, rfl, _, rfl, R, _, rfl, SqL.of (s13 _ _ hR12), fun r nr => ⟨R, r, _, _, rfl, rfl, (Same.upd nr) _ _ (s13 _ _ hR12), upd_same, (by show 4 ≤ sizeLine; omega), fun t nt => ?_⟩⟩
      have st : Same H14 (upd (upd H14 r (.lst [V.ref r1, V.ref r2].reverse)) t (.lst ([V.ref r1, V.ref r2] ++ [V.ref r1, V.ref r2].reverse))) := (Same.upd nr).push nt
      refine ⟨t, rfl, ⟨_, SqL.of upd_same⟩, for_it (walk_list (xs := [V.ref r1, V.ref r2] ++ [V.ref r1, V.ref r2].reverse)) (fun i σ H15 => ∃ y6 y7, σ = [some (.ref a), some (.ref b1), some (.str (S ds)), some (.ref R), some (.ref T), some (.ref x), y6, y7, none, none, none, none, none, none, none] ∧ Same (upd (upd H14 r (.lst [V.ref r1, V.ref r2].reverse)) t (.lst ([V.ref r1, V.ref r2] ++ [V.ref r1, V.ref r2].reverse))) H15) ⟨_, _, rfl, fun _ _ h => h⟩ (fun i σ H15 _ h => ?_) (fun i v σ H15 H16 hi2 h yv => ?_) (fun σ H15 h => ?_)⟩
      · obtain ⟨_, _, rfl, s15⟩ := h
        exact SqL.of (s15 _ _ upd_same)
      · obtain ⟨z6, z7, rfl, s15⟩ := h
        obtain ⟨rfl, hx1⟩ := yv
        obtain ⟨rr, rfl, hrr⟩ := hw v (List.mem_of_getElem? hx1)
        have sA : Same H12 H16 := s13.trans (st.trans s15)
        obtain ⟨rs, ir, nrs, ler, okr, adr⟩ := hrr
        have ed : dblF ds (wordF rs) = shortF ds rs := dbl_word okr adr
        have wd := word_wd okr nrs ler
        have pl := short_pl (ds := ds) okr
        refine ⟨_, rfl, x, rfl, _, rfl, rr, rs, rfl, ir.same sA, ler, okr, fun H17 s17 => ⟨((hdx.same sA).same s17).ins, x, wordF rs, ds, rfl, (hdx.same sA).same s17, wd, fun p H18 np s18 hp => ?_⟩⟩
        rw [ed] at hp
        refine ⟨_, rfl, _, _, _, _, true, rfl, .ty "list", .base (.lst hp), kit_ty (by decide +kernel), true, rfl, _, rfl, _, rfl, _, rfl, rr, rs, ds, rfl, ir.same (sA.trans (s17.trans s18)), ler, okr, fun H19 s19 => ⟨(by show 1 ≤ sizeLine; omega), fun p2 np2 => ?_⟩⟩
        have hp19 : (upd H19 p2 (.lst [V.str (S (shortF ds rs))])) p = some (.lst (strsV [shortF ds rs])) := (s19.push np2) _ _ hp
        refine ⟨_, _, dp_strs (SqL.of hp19), dp_strs (SqL.of upd_same), shaped_strs pl, shaped_strs pl, _, ne_self _, ?_⟩
        refine ⟨_, rfl, .inl ⟨rfl, _, SqL.of hp19⟩, p, _, _, rfl, rfl, hp19, (by show 1 < sizeLine; omega), ?_⟩
        have sB : Same H16 (upd (upd H19 p2 (.lst [V.str (S (shortF ds rs))])) p (.lst (strsV [shortF ds rs] ++ [V.str (Str.ofString "more")]))) := Same.mut (s17.trans (s18.trans (s19.push np2))) (s17.free np)
        refine ⟨_, rfl, x, rfl, _, rfl, rr, rs, rfl, ir.same (sA.trans sB), ler, okr, fun H20 s20 => ⟨((hdx.same (sA.trans sB)).same s20).ins, x, wordF rs, ds, rfl, (hdx.same (sA.trans sB)).same s20, wd, fun p3 H21 np3 s21 hp3 => ?_⟩⟩
        rw [ed] at hp3
        refine ⟨_, rfl, _, rfl, rr, rs, ds, rfl, ir.same (sA.trans (sB.trans (s20.trans s21))), ler, okr, fun H22 s22 => ⟨(by show 1 ≤ sizeLine; omega), fun p4 np4 => ?_⟩⟩
        refine ⟨_, _, dp_strs (SqL.of ((s22.push np4) _ _ hp3)), dp_strs (SqL.of upd_same), shaped_strs pl, shaped_strs pl, _, ne_self _, ?_⟩
        exact ⟨_, _, rfl, s15.trans (sB.trans (s20.trans (s21.trans (s22.push np4))))⟩
      · obtain ⟨z6, z7, rfl, s15⟩ := h
        exact ⟨_, _, _, rfl, s13.trans (st.trans s15)⟩
    · obtain ⟨y5, y6, y7, rfl, s13⟩ := h
      have bg13 : IsBag H13 b1 := by
        obtain ⟨c, u, v, e⟩ := bg8
        exact ⟨c, u, v, s13 _ _ (s812 _ _ e)⟩
      refine ⟨_, rfl, b1, 6, rfl, bg13, by decide, by decide, fun i0 H14 i1 i2 k14 bg14 => ⟨_, _, rfl, rfl, ?_⟩⟩
      obtain ⟨n, rfl⟩ : ∃ n : Nat, i0 = n := ⟨i0.toNat, by omega⟩
      show tSeq _ _ _ [some (.ref a), some (.ref b1), some (.str (S ds)), some (.ref R), some (.ref T), y5, y6, y7, some (.int ((1 + n : Nat) : Int)), none, none, none, none, none, none] _
      obtain ⟨sz, esz⟩ : ∃ sz : Nat, 1 + n = sz := ⟨_, rfl⟩
      rw [esz]
      have z1 : 1 ≤ sz := by omega
      have z6 : sz ≤ 6 := by omega
      have e7 : (7 : Int) - (sz : Int) = ((7 - sz : Nat) : Int) := by omega
      have hw14 : ∀ v ∈ [V.ref r1, V.ref r2] ++ [V.ref r1, V.ref r2].reverse, ∃ r, v = .ref r ∧ Rw H14 r := by
        intro v hv
        obtain ⟨r, e, hr⟩ := hw v hv
        obtain ⟨rs, ir, rest⟩ := hr.same s13
        exact ⟨r, e, rs, ir.kb bg13 k14, rest⟩
      have hR14 : H14 R = some (.lst [.ref r1, .ref r2]) := by
        refine k14 _ _ (fun e => ?_) (s13 _ _ hR12)
        obtain ⟨c, u, v, e2⟩ := bg13
        rw [← e, s13 _ _ hR12] at e2
        cases e2
      refine ⟨_, rfl, fun x dx nx nd ne => ⟨x, dx, sz, rfl, upd_same, z1, z6, fun H15 k15 hc1 => ⟨rfl, ?_⟩⟩⟩
      have s15 := made_same nx nd k15
      refine ⟨_, rfl, _, _, rfl, rfl, rfl, rfl, fun y dy ny nd2 ne2 => ⟨y, dy, 7 - sz, congrArg (fun j => [V.ref y, V.int j]) e7, upd_same, by omega, by omega, fun H16 k16 hc2 => ⟨rfl, _, _, rfl, ?_⟩⟩⟩
      have s16 := made_same ny nd2 k16
      replace hc1 := hc1.same s16
      have hR16 := (s15.trans s16) _ _ hR14
      show tSeq _ _ _ [some (.ref a), some (.ref b1), some (.str (S ds)), some (.ref R), some (.ref T), y5, y6, y7, some (.int sz), some (.ref x), some (.ref y), none, none, none, none] _
      refine ⟨_, rfl, _, rfl, R, _, rfl, SqL.of hR16, fun r nr => ⟨R, r, _, _, rfl, rfl, (Same.upd nr) _ _ hR16, upd_same, (by show 4 ≤ sizeLine; omega), fun t nt => ?_⟩⟩
      have st : Same H16 (upd (upd H16 r (.lst [V.ref r1, V.ref r2].reverse)) t (.lst ([V.ref r1, V.ref r2] ++ [V.ref r1, V.ref r2].reverse))) := (Same.upd nr).push nt
      refine ⟨t, rfl, ⟨_, SqL.of upd_same⟩, for_it (walk_list (xs := [V.ref r1, V.ref r2] ++ [V.ref r1, V.ref r2].reverse)) (fun i σ H17 => ∃ y6 y7 y11, σ = [some (.ref a), some (.ref b1), some (.str (S ds)), some (.ref R), some (.ref T), y5, y6, y7, some (.int sz), some (.ref x), some (.ref y), y11, none, none, none] ∧ Same (upd (upd H16 r (.lst [V.ref r1, V.ref r2].reverse)) t (.lst ([V.ref r1, V.ref r2] ++ [V.ref r1, V.ref r2].reverse))) H17) ⟨_, _, _, rfl, fun _ _ h => h⟩ (fun i σ H17 _ h => ?_) (fun i v σ H17 H18 hi2 h yv => ?_) (fun σ H17 h => ?_)⟩
      · obtain ⟨_, _, _, rfl, s17⟩ := h
        exact SqL.of (s17 _ _ upd_same)
      · obtain ⟨v6, v7, v11, rfl, s17⟩ := h
        obtain ⟨rfl, hx1⟩ := yv
        obtain ⟨rr, rfl, hrr⟩ := hw14 v (List.mem_of_getElem? hx1)
        obtain ⟨rs, ir, nrs, ler, okr, adr⟩ := hrr
        have wd := word_wd okr nrs ler
        have wl := word_len okr
        have sA : Same H16 H18 := st.trans s17
        refine ⟨_, rfl, rr, rs, rfl, ir.same (s15.trans (s16.trans sA)), ler, okr, fun H19 s19 => ?_⟩
        obtain ⟨wl2, ew⟩ : ∃ wl2, wl2 = wordF rs := ⟨_, rfl⟩
        rw [← ew] at wd wl ⊢
        have hS2 : (S wl2).length = wl2.length := S_len wl2
        have c1 : cutS (S wl2) none (some (sz : Int)) = S (wl2.take sz) := cut_take wl2 sz
        have c7 : cutS (S wl2) none (some ((7 : Int) - (sz : Int))) = S (wl2.take (7 - sz)) := by rw [e7]; exact cut_take _ _
        have sB : Same H16 H19 := sA.trans s19
        refine ⟨_, rfl, x, rfl, _, rfl, (hc1.same sB).ins, x, wl2, sz, rfl, hc1.same sB, wd, fun p H20 np s20 hp => ?_⟩
        refine ⟨_, rfl, _, _, _, _, true, rfl, .ty "list", .base (.lst hp), kit_ty (by decide +kernel), true, rfl, ?_⟩
        refine ⟨_, rfl, _, rfl, _, rfl, _, rfl, _, rfl, by rw [hS2]; omega, (by show 1 ≤ sizeLine; omega), fun p2 np2 => ?_⟩
        refine ⟨_, _, dp_strs (SqL.of ((Same.upd np2) _ _ hp)), dp_strs (SqL.of (by rw [upd_same]; exact congrArg (fun z => some (HO.lst [V.str z])) c1)), shaped_strs (wd.pls sz), shaped_strs (wd.pls sz), _, ne_self _, ?_⟩
        have s21 : Same H20 (upd H20 p2 (.lst [V.str (cutS (S wl2) none (some (sz : Int)))])) := Same.upd np2
        refine ⟨_, rfl, y, rfl, _, rfl, (hc2.same (sB.trans (s20.trans s21))).ins, y, wl2, 7 - sz, rfl, hc2.same (sB.trans (s20.trans s21)), wd, fun p3 H22 np3 s22 hp3 => ?_⟩
        refine ⟨_, rfl, _, rfl, _, _, rfl, rfl, _, rfl, _, rfl, by rw [hS2]; omega, (by show 1 ≤ sizeLine; omega), fun p4 np4 => ?_⟩
        refine ⟨_, _, dp_strs (SqL.of ((Same.upd np4) _ _ hp3)), dp_strs (SqL.of (by rw [upd_same]; exact congrArg (fun z => some (HO.lst [V.str z])) c7)), shaped_strs (wd.pls _), shaped_strs (wd.pls _), _, ne_self _, ?_⟩
        have s23 : Same H20 (upd H22 p4 (.lst [V.str (cutS (S wl2) none (some ((7 : Int) - (sz : Int))))])) := s21.trans (s22.push np4)
        have hp23 := s23 _ _ hp
        refine ⟨_, rfl, .inl ⟨rfl, _, SqL.of hp23⟩, p, _, rfl, rfl, hp23, ?_⟩
        have sC : Same H16 (upd (upd H22 p4 (.lst [V.str (cutS (S wl2) none (some ((7 : Int) - (sz : Int))))])) p (.lst [])) := Same.mut (sB.trans (s20.trans s23)) (sB.free np)
        refine ⟨_, rfl, x, rfl, _, rfl, (hc1.same sC).ins, x, wl2, sz, rfl, hc1.same sC, wd, fun p5 H24 np5 s24 hp5 => ?_⟩
        refine ⟨_, rfl, _, rfl, _, rfl, _, rfl, by rw [hS2]; omega, (by show 1 ≤ sizeLine; omega), fun p6 np6 => ?_⟩
        refine ⟨_, _, dp_strs (SqL.of ((Same.upd np6) _ _ hp5)), dp_strs (SqL.of (by rw [upd_same]; exact congrArg (fun z => some (HO.lst [V.str z])) c1)), shaped_strs (wd.pls sz), shaped_strs (wd.pls sz), _, ne_self _, ?_⟩
        refine ⟨_, _, _, rfl, s17.trans (s19.trans ?_)⟩
        exact (Same.mut (s20.trans s23) np).trans (s24.push np6)
      · obtain ⟨v6, v7, v11, rfl, s17⟩ := h
        have sA : Same H16 H17 := st.trans s17
        obtain ⟨rr, er, hrr⟩ := hw14 (V.ref r1) (by simp)
        cases er
        obtain ⟨rs, ir, nrs, ler, okr, adr⟩ := hrr
        have wd := word_wd okr nrs ler
        have wl := word_len okr
        refine ⟨_, rfl, R, _, 0, .ref r1, rfl, rfl, SqL.of (sA _ _ hR16), rfl, r1, rs, rfl, ir.same (s15.trans (s16.trans sA)), ler, okr, fun H19 s19 => ?_⟩
        obtain ⟨wl2, ew⟩ : ∃ wl2, wl2 = wordF rs := ⟨_, rfl⟩
        rw [← ew] at wd wl ⊢
        have hS2 : (S wl2).length = wl2.length := S_len wl2
        show tSeq _ _ _ [some (.ref a), some (.ref b1), some (.str (S ds)), some (.ref R), some (.ref T), y5, v6, v7, some (.int sz), some (.ref x), some (.ref y), some (.str (S wl2)), none, none, none] _
        obtain ⟨c0, cr, rfl⟩ := List.exists_cons_of_ne_nil d0
        have hSd : (S (c0 :: cr)).length = (c0 :: cr).length := S_len _
        have at0 : atI (c0 :: cr) 0 = some c0 := atI_nat (rfl : (c0 :: cr)[0]? = some c0)
        have cin : c0 ∈ charsL := dc c0 List.mem_cons_self
        refine ⟨_, _, rfl, by decide, for_it walk_range (fun i σ H20 => ∃ y12 y13 y14, σ = [some (.ref a), some (.ref b1), some (.str (S (c0 :: cr))), some (.ref R), some (.ref T), y5, v6, v7, some (.int sz), some (.ref x), some (.ref y), some (.str (S wl2)), y12, y13, y14]) ⟨_, _, _, rfl⟩ (fun _ _ _ _ _ => trivial) (fun i v σ H20 H21 hi2 h yv => ?_) (fun σ H20 h => ?_)⟩
        · obtain ⟨y12, y13, y14, rfl⟩ := h
          obtain ⟨rfl, rfl⟩ := yv
          have hi6 : i < 6 := hi2
          have hs2 : (S wl2).cps.size = wl2.length := S_len wl2
          refine ⟨_, rfl, fun x dx nx nd ne => ⟨x, dx, 1 + i, rfl, upd_same, by omega, by omega, fun H22 k22 hc => ⟨rfl, x, rfl, _, rfl, hc.ins, x, wl2, 1 + i, rfl, hc, wd, fun p H23 np s23 hp => ?_⟩⟩⟩
          refine ⟨⟨_, rfl⟩, _, rfl, _, rfl, fun D nD => ?_⟩
          refine lc_it walk_enumS (fun j H2 => H2 D = some (.lst ((wl2.take (min j (1 + i))).map fun c => V.str (S [c]))) ∧ Same H23 H2) ⟨?_, Same.upd nD⟩ (fun _ _ _ _ => trivial) (fun j v H2 H3 hj h y => ?_) (fun H2 h => ?_)
          · rw [upd_same, Nat.zero_min]
            rfl
          · obtain ⟨hD, sm⟩ := h
            obtain ⟨TT, c, rfl, nTT, hc9, rfl⟩ := y
            have hc2 : wl2[j]? = some c := by
              rw [← hc9]
              exact (Array.getElem?_toList (xs := (S wl2).cps)).symm ▸ rfl
            have nDT : D ≠ TT := ne_of_none hD nTT
            refine ⟨TT, _, rfl, SqT.of upd_same, rfl, _, _, rfl, _, _, rfl, rfl, rfl, ?_⟩
            refine ⟨_, rfl, _, rfl, _, _, rfl, rfl, _, rfl, ite2 (fun e => ?_) (fun e => ?_)⟩
            · have e1 : j < 1 + i := by
                have := of_decide_eq_true e
                omega
              refine ⟨_, rfl, _, (by rw [upd_ne nDT]; exact hD), ?_, ?_, (sm.push nTT).mut nD⟩
              · rw [List.length_map, List.length_take]; omega
              · rw [upd_same, show min (j + 1) (1 + i) = min j (1 + i) + 1 by omega, show min j (1 + i) = j by omega, List.take_add_one, hc2]
                simp
            · have e1 : ¬ j < 1 + i := fun h => e (decide_eq_true (by omega))
              refine ⟨?_, sm.push nTT⟩
              rw [upd_ne nDT, show min (j + 1) (1 + i) = min j (1 + i) by omega]
              exact hD
          obtain ⟨hD, sm⟩ := h
          rw [hs2, ← List.take_take, List.take_of_length_le (by rw [List.length_take]; omega)] at hD
          have em : ((wl2.take (1 + i)).map fun c => V.str (S [c])) = ((wl2.take (1 + i)).map fun c => S [c]).map V.str := by rw [List.map_map]; rfl
          rw [em] at hD
          have ej : Txt.join (Str.ofString "") ((wl2.take (1 + i)).map fun c => S [c]) = S (wl2.take (1 + i)) := join_signs _
          refine ⟨_, D, _, rfl, rfl, .inl (SqL.of hD), ?_, (by show 1 ≤ sizeLine; omega), fun p2 np2 => ?_⟩
          · rw [sum_one, List.length_map]
            show _ + (wl2.take (1 + i)).length * 0 ≤ 16777216
            rw [List.length_take]
            omega
          refine ⟨_, _, dp_strs (SqL.of ((sm.push np2) _ _ hp)), dp_strs (SqL.of (by rw [upd_same]; exact congrArg (fun z => some (HO.lst [V.str z])) ej)), shaped_strs (wd.pls _), shaped_strs (wd.pls _), _, ne_self _, ?_⟩
          have et : timesS (S [c0]) ((1 : Int) + (i : Int)).toNat = S (List.replicate (1 + i) c0) := times_one c0 (1 + i)
          have etk : (List.replicate (1 + i) c0).take (1 + i) = List.replicate (1 + i) c0 := by simp
          have etk2 : ([c0] : List Nat).take (1 + i) = [c0] := List.take_of_length_le (by simp)
          have wr : Wd (List.replicate (1 + i) c0) := by
            refine ⟨by rw [Nat.add_comm]; simp [List.replicate_succ], fun d hd => ?_, by rw [List.length_replicate]; omega⟩
            rw [(List.mem_replicate.mp hd).2]
            exact cin
          have w1 : Wd [c0] := ⟨by simp, fun d hd => by rw [List.mem_singleton.mp hd]; exact cin, by simp⟩
          have pr : ∀ x ∈ [List.replicate (1 + i) c0], Pl x := fun x hx => by rw [List.mem_singleton.mp hx]; exact wr.pl
          have p1 : ∀ x ∈ [[c0]], Pl x := fun x hx => by rw [List.mem_singleton.mp hx]; exact w1.pl
          have dl4 : (S (c0 :: cr)).length ≤ sizeLine := by rw [hSd]; omega
          refine ⟨_, rfl, fun x dx nx nd ne => ⟨x, dx, 1 + i, rfl, upd_same, by omega, by omega, fun H25 k25 hc5 => ⟨rfl, x, rfl, _, rfl, _, 0, c0, rfl, rfl, dl4, at0, _, rfl, _, _, rfl, rfl, by omega, by omega, (by show 1 ≤ 100; decide), hc5.ins, x, List.replicate (1 + i) c0, 1 + i, congrArg (fun z => [V.ref x, V.str z]) et, hc5, wr, fun p5 H26 np5 s26 hp5 => ?_⟩⟩⟩
          rw [etk] at hp5
          refine ⟨_, rfl, _, 0, c0, rfl, rfl, dl4, at0, _, rfl, _, _, rfl, rfl, by omega, by omega, (by show 1 ≤ 100; decide), (by show 1 ≤ sizeLine; omega), fun p6 np6 => ?_⟩
          refine ⟨_, _, dp_strs (SqL.of ((Same.upd np6) _ _ hp5)), dp_strs (SqL.of (by rw [upd_same]; exact congrArg (fun z => some (HO.lst [V.str z])) et)), shaped_strs pr, shaped_strs pr, _, ne_self _, ?_⟩
          refine ⟨_, rfl, fun x dx nx nd ne => ⟨x, dx, 1 + i, rfl, upd_same, by omega, by omega, fun H27 k27 hc7 => ⟨rfl, x, rfl, _, rfl, _, 0, c0, rfl, rfl, dl4, at0, hc7.ins, x, [c0], 1 + i, rfl, hc7, w1, fun p7 H28 np7 s28 hp7 => ?_⟩⟩⟩
          rw [etk2] at hp7
          refine ⟨_, rfl, _, 0, c0, rfl, rfl, dl4, at0, (by show 1 ≤ sizeLine; omega), fun p8 np8 => ?_⟩
          refine ⟨_, _, dp_strs (SqL.of ((Same.upd np8) _ _ hp7)), dp_strs (SqL.of upd_same), shaped_strs p1, shaped_strs p1, _, ne_self _, ?_⟩
          exact ⟨_, _, _, rfl⟩
        · obtain ⟨y12, y13, y14, rfl⟩ := h
          exact q _
end

def D_law_bag : He.DefD := ⟨("_law_bag", none), "_law_bag", "_law_bag", defArgs s_law_bag, defBody s_law_bag, defScope s_law_bag, [], []⟩
def D_law_draw : He.DefD := ⟨("_law_draw", none), "_law_draw", "_law_draw", defArgs s_law_draw, defBody s_law_draw, defScope s_law_draw, [], []⟩
def D_law_characters : He.DefD := ⟨("_law_characters", none), "_law_characters", "_law_characters", defArgs s_law_characters, defBody s_law_characters, defScope s_law_characters, [], []⟩
def D_law_string : He.DefD := ⟨("_law_string", none), "_law_string", "_law_string", defArgs s_law_string, defBody s_law_string, defScope s_law_string, [], []⟩
def D_is_made_of : He.DefD := ⟨("is_made_of", none), "is_made_of", "is_made_of", defArgs s_is_made_of, defBody s_is_made_of, defScope s_is_made_of, [], []⟩
def D_is_integer : He.DefD := ⟨("is_integer", none), "is_integer", "is_integer", defArgs s_is_integer, defBody s_is_integer, defScope s_is_integer, [], []⟩
def D_is_string : He.DefD := ⟨("is_string", none), "is_string", "is_string", defArgs s_is_string, defBody s_is_string, defScope s_is_string, [], []⟩
def D_check_word : He.DefD := ⟨("check_word", none), "check_word", "check_word", defArgs s_check_word, defBody s_check_word, defScope s_check_word, [], []⟩
def D_Step_init : He.DefD := ⟨("Step", some "__init__"), "__init__", "Step.__init__", defArgs s_Step_init, defBody s_Step_init, defScope s_Step_init, [], []⟩
def D_Bounded_init : He.DefD := ⟨("Bounded", some "__init__"), "__init__", "Bounded.__init__", defArgs s_Bounded_init, defBody s_Bounded_init, defScope s_Bounded_init, [], []⟩
def D_Doubles_init : He.DefD := ⟨("Doubles", some "__init__"), "__init__", "Doubles.__init__", defArgs s_Doubles_init, defBody s_Doubles_init, defScope s_Doubles_init, [], []⟩
def D_Doubles_call : He.DefD := ⟨("Doubles", some "__call__"), "__call__", "Doubles.__call__", defArgs s_Doubles_call, defBody s_Doubles_call, defScope s_Doubles_call, [], []⟩
def D_Cut_init : He.DefD := ⟨("Cut", some "__init__"), "__init__", "Cut.__init__", defArgs s_Cut_init, defBody s_Cut_init, defScope s_Cut_init, [], []⟩
def D_Cut_call : He.DefD := ⟨("Cut", some "__call__"), "__call__", "Cut.__call__", defArgs s_Cut_call, defBody s_Cut_call, defScope s_Cut_call, [], []⟩
def D_law_runs : He.DefD := ⟨("_law_runs", none), "_law_runs", "_law_runs", defArgs s_law_runs, defBody s_law_runs, defScope s_law_runs, [], []⟩
def D_law_word : He.DefD := ⟨("_law_word", none), "_law_word", "_law_word", defArgs s_law_word, defBody s_law_word, defScope s_law_word, [], []⟩
def D_law_short : He.DefD := ⟨("_law_short", none), "_law_short", "_law_short", defArgs s_law_short, defBody s_law_short, defScope s_law_short, [], []⟩
def D_law : He.DefD := ⟨("law", none), "law", "law", defArgs s_law, defBody s_law, defScope s_law, [], []⟩
def fn : List He.DefD := [D_law_bag, D_law_draw, D_law_characters, D_law_string, D_is_made_of, D_is_integer, D_is_string, D_check_word, D_Step_init, D_Bounded_init, D_Doubles_init, D_Doubles_call, D_Cut_init, D_Cut_call, D_law_runs, D_law_word, D_law_short, D_law]
def fa : List He.Fa := [.free "int", .free "len", .free "range", .free "list", .free "set", .free "sorted", .free "isinstance", .free "str", .free "bool", .free "all", .free "enumerate", .str "CHARACTERS" (S charsL), .glo "_law_bag", .glo "_law_draw", .glo "_law_characters", .glo "_law_string", .glo "is_made_of", .glo "is_integer", .glo "is_string", .glo "check_word", .glo "_law_runs", .glo "_law_word", .glo "_law_short", .glo "law", .glo "Bounded", .glo "Doubles", .cls "Doubles", .noat "Doubles" "letters", .noat "Doubles" "line", .noat "Doubles" "of", .glo "Cut", .cls "Cut", .noat "Cut" "letters", .noat "Cut" "line", .noat "Cut" "low", .noat "Cut" "high", .glo "Step", .mkr "Doubles", .mkr "Cut"]
def ex : Ex := [creadB "Bounded", cintB "Bounded" "TOP" 6, creadB "Step", cfnB "Step" "__init__", cfnB "Bounded" "__init__", calloB "Doubles", calloB "Cut"]
def loose : List PySem.Str := (["_wall", "FoundError", "BadWord", "BadStep", "CHARACTERS", "is_made_of", "is_integer", "is_string", "check_word", "Step", "Bounded", "Doubles", "Cut", "_law_bag", "_law_draw", "_law_characters", "_law_string", "_law_runs", "_law_word", "_law_short"] : List PySem.Str)
abbrev R : PySem.W.OpenRow := PySem.W.OpenLaw.row PySem.Challenge.rw_foundaswritten_k07_doubles_and_cut
abbrev hk : PySem.W.Hook := hookX 5 ex fa fn
def ob (s : PySem.W.SharedT) : He.AlD := obsXG 5 ex fa fn (HandSHeadRun.getT s)
theorem ob_eq (s : PySem.W.SharedT) : ob s = hk.obs s.abs := obsXG_eq (HandSHeadRun.getT_eq s)
theorem run (w : World) : HandSHeadRun.RunEq R (PySem.W.view R.prog [25]) hk ob 3000 loose w := by
  intro os
  kernel_rfl
theorem facts {P : Program} {w : World} {K : PySem.W.Frag} {h : Heap} {mg : Str → Option Value} {f : Addr} (X : K.In h) (G : h.Ns mainGlobals mg) (hfa : mg ("law" : Str) = some (.ref f)) (c : SaysX ex fa fn K) :
    ∃ fd : FuncData, (∀ (s : Shared) (v : Value), BindsTo s fd ⟨[v], []⟩ [("_law_script", v)]) ∧ ∀ base : Heap, K.In base → base.Ns mainGlobals mg → FnOk P w K mg base CX0 5 f fd ["_law_script"] (spLaw K) := by
  have m_int : mg "int" = none := He.free_ok X G (c.d.fact 0 (f := .free "int") rfl)
  have m_len : mg "len" = none := He.free_ok X G (c.d.fact 1 (f := .free "len") rfl)
  have m_range : mg "range" = none := He.free_ok X G (c.d.fact 2 (f := .free "range") rfl)
  have m_list : mg "list" = none := He.free_ok X G (c.d.fact 3 (f := .free "list") rfl)
  have m_set : mg "set" = none := He.free_ok X G (c.d.fact 4 (f := .free "set") rfl)
  have m_sorted : mg "sorted" = none := He.free_ok X G (c.d.fact 5 (f := .free "sorted") rfl)
  have m_isinstance : mg "isinstance" = none := He.free_ok X G (c.d.fact 6 (f := .free "isinstance") rfl)
  have m_str : mg "str" = none := He.free_ok X G (c.d.fact 7 (f := .free "str") rfl)
  have m_bool : mg "bool" = none := He.free_ok X G (c.d.fact 8 (f := .free "bool") rfl)
  have m_all : mg "all" = none := He.free_ok X G (c.d.fact 9 (f := .free "all") rfl)
  have m_enumerate : mg "enumerate" = none := He.free_ok X G (c.d.fact 10 (f := .free "enumerate") rfl)
  obtain ⟨t_CHARACTERS, g_CHARACTERS⟩ := He.str_ok X G (c.d.fact 11 (f := .str "CHARACTERS" (S charsL)) rfl)
  obtain ⟨fd_law_bag, F_law_bag⟩ := c.d.def_ 0 (d := D_law_bag) rfl
  have g_law_bag : mg "_law_bag" = some (.ref (He.ga K "_law_bag")) := He.glo_ok X G (c.d.fact 12 (f := .glo "_law_bag") rfl)
  obtain ⟨fd_law_draw, F_law_draw⟩ := c.d.def_ 1 (d := D_law_draw) rfl
  have g_law_draw : mg "_law_draw" = some (.ref (He.ga K "_law_draw")) := He.glo_ok X G (c.d.fact 13 (f := .glo "_law_draw") rfl)
  obtain ⟨fd_law_characters, F_law_characters⟩ := c.d.def_ 2 (d := D_law_characters) rfl
  have g_law_characters : mg "_law_characters" = some (.ref (He.ga K "_law_characters")) := He.glo_ok X G (c.d.fact 14 (f := .glo "_law_characters") rfl)
  obtain ⟨fd_law_string, F_law_string⟩ := c.d.def_ 3 (d := D_law_string) rfl
  have g_law_string : mg "_law_string" = some (.ref (He.ga K "_law_string")) := He.glo_ok X G (c.d.fact 15 (f := .glo "_law_string") rfl)
  obtain ⟨fd_is_made_of, F_is_made_of⟩ := c.d.def_ 4 (d := D_is_made_of) rfl
  have g_is_made_of : mg "is_made_of" = some (.ref (He.ga K "is_made_of")) := He.glo_ok X G (c.d.fact 16 (f := .glo "is_made_of") rfl)
  obtain ⟨fd_is_integer, F_is_integer⟩ := c.d.def_ 5 (d := D_is_integer) rfl
  have g_is_integer : mg "is_integer" = some (.ref (He.ga K "is_integer")) := He.glo_ok X G (c.d.fact 17 (f := .glo "is_integer") rfl)
  obtain ⟨fd_is_string, F_is_string⟩ := c.d.def_ 6 (d := D_is_string) rfl
  have g_is_string : mg "is_string" = some (.ref (He.ga K "is_string")) := He.glo_ok X G (c.d.fact 18 (f := .glo "is_string") rfl)
  obtain ⟨fd_check_word, F_check_word⟩ := c.d.def_ 7 (d := D_check_word) rfl
  have g_check_word : mg "check_word" = some (.ref (He.ga K "check_word")) := He.glo_ok X G (c.d.fact 19 (f := .glo "check_word") rfl)
  obtain ⟨fd_Step_init, F_Step_init⟩ := c.d.def_ 8 (d := D_Step_init) rfl
  obtain ⟨fd_Bounded_init, F_Bounded_init⟩ := c.d.def_ 9 (d := D_Bounded_init) rfl
  obtain ⟨fd_Doubles_init, F_Doubles_init⟩ := c.d.def_ 10 (d := D_Doubles_init) rfl
  obtain ⟨fd_Doubles_call, F_Doubles_call⟩ := c.d.def_ 11 (d := D_Doubles_call) rfl
  obtain ⟨fd_Cut_init, F_Cut_init⟩ := c.d.def_ 12 (d := D_Cut_init) rfl
  obtain ⟨fd_Cut_call, F_Cut_call⟩ := c.d.def_ 13 (d := D_Cut_call) rfl
  obtain ⟨fd_law_runs, F_law_runs⟩ := c.d.def_ 14 (d := D_law_runs) rfl
  have g_law_runs : mg "_law_runs" = some (.ref (He.ga K "_law_runs")) := He.glo_ok X G (c.d.fact 20 (f := .glo "_law_runs") rfl)
  obtain ⟨fd_law_word, F_law_word⟩ := c.d.def_ 15 (d := D_law_word) rfl
  have g_law_word : mg "_law_word" = some (.ref (He.ga K "_law_word")) := He.glo_ok X G (c.d.fact 21 (f := .glo "_law_word") rfl)
  obtain ⟨fd_law_short, F_law_short⟩ := c.d.def_ 16 (d := D_law_short) rfl
  have g_law_short : mg "_law_short" = some (.ref (He.ga K "_law_short")) := He.glo_ok X G (c.d.fact 22 (f := .glo "_law_short") rfl)
  obtain ⟨fd_law, F_law⟩ := c.d.def_ 17 (d := D_law) rfl
  have g_law : mg "law" = some (.ref (He.ga K "law")) := He.glo_ok X G (c.d.fact 23 (f := .glo "law") rfl)
  have e := hfa.symm.trans g_law
  cases e
  have b := FunD.bindsA (ps := ["_law_script"]) F_law fun _ _ _ _ _ _ us hl => match us, hl with | [_], _ => rfl
  have g_Bounded : mg "Bounded" = some (.ref (He.ga K "Bounded")) := He.glo_ok X G (c.d.fact 24 (f := .glo "Bounded") rfl)
  have r_Bounded := creadB_ok (x := "Bounded") (c.more 0 (f := creadB "Bounded") rfl)
  obtain ⟨u_Bounded_TOP, v_Bounded_TOP⟩ := cintB_ok (x := "Bounded") (f := "TOP") (c.more 1 (f := cintB "Bounded" "TOP" 6) rfl)
  have g_Doubles : mg "Doubles" = some (.ref (He.ga K "Doubles")) := He.glo_ok X G (c.d.fact 25 (f := .glo "Doubles") rfl)
  have hC_Doubles : Cls K (He.ga K "Doubles") := He.cls_ok (c.d.fact 26 (f := .cls "Doubles") rfl)
  have n_Doubles_letters : NoAttr K (He.ga K "Doubles") "letters" := He.noat_ok (c.d.fact 27 (f := .noat "Doubles" "letters") rfl)
  have n_Doubles_line : NoAttr K (He.ga K "Doubles") "line" := He.noat_ok (c.d.fact 28 (f := .noat "Doubles" "line") rfl)
  have n_Doubles_of : NoAttr K (He.ga K "Doubles") "of" := He.noat_ok (c.d.fact 29 (f := .noat "Doubles" "of") rfl)
  have g_Cut : mg "Cut" = some (.ref (He.ga K "Cut")) := He.glo_ok X G (c.d.fact 30 (f := .glo "Cut") rfl)
  have hC_Cut : Cls K (He.ga K "Cut") := He.cls_ok (c.d.fact 31 (f := .cls "Cut") rfl)
  have n_Cut_letters : NoAttr K (He.ga K "Cut") "letters" := He.noat_ok (c.d.fact 32 (f := .noat "Cut" "letters") rfl)
  have n_Cut_line : NoAttr K (He.ga K "Cut") "line" := He.noat_ok (c.d.fact 33 (f := .noat "Cut" "line") rfl)
  have n_Cut_low : NoAttr K (He.ga K "Cut") "low" := He.noat_ok (c.d.fact 34 (f := .noat "Cut" "low") rfl)
  have n_Cut_high : NoAttr K (He.ga K "Cut") "high" := He.noat_ok (c.d.fact 35 (f := .noat "Cut" "high") rfl)
  refine ⟨fd_law, fun s v => b s [v] rfl, fun base _ _ => ?_⟩
  have d_law_bag : Dfn P w K mg base CX0 "_law_bag" ["_law_script", "_law_k"] 1 (spBag K) := ⟨_, fd_law_bag, ok_bag F_law_bag m_int m_len, g_law_bag, F_law_bag.kp, (F_law_bag.bindsN fun _ _ _ _ _ _ us hl => match us, hl with | [_, _], _ => rfl)⟩
  have d_law_draw : Dfn P w K mg base CX0 "_law_draw" ["_law_bag_here", "_law_many"] 1 spDraw := ⟨_, fd_law_draw, ok_draw F_law_draw m_int, g_law_draw, F_law_draw.kp, (F_law_draw.bindsN fun _ _ _ _ _ _ us hl => match us, hl with | [_, _], _ => rfl)⟩
  have d_law_characters : Dfn P w K mg base CX0 "_law_characters" [] 1 spChars := ⟨_, fd_law_characters, ok_chars F_law_characters , g_law_characters, F_law_characters.kp, (F_law_characters.bindsN fun _ _ _ _ _ _ us hl => match us, hl with | [], _ => rfl)⟩
  have d_law_string : Dfn P w K mg base CX0 "_law_string" ["_law_bag_here", "_law_signs", "_law_least", "_law_most"] 2 (spString K) := ⟨_, fd_law_string, ok_string F_law_string d_law_draw m_len m_range, g_law_string, F_law_string.kp, (F_law_string.bindsN fun _ _ _ _ _ _ us hl => match us, hl with | [_, _, _, _], _ => rfl)⟩
  have d_is_made_of : Dfn P w K mg base CX0 "is_made_of" ["value", "signs"] 1 spMade := ⟨_, fd_is_made_of, ok_made_of F_is_made_of m_isinstance m_str m_all, g_is_made_of, F_is_made_of.kp, (F_is_made_of.bindsN fun _ _ _ _ _ _ us hl => match us, hl with | [_, _], _ => rfl)⟩
  have d_is_integer : Dfn P w K mg base CX0 "is_integer" ["value", "low", "high"] 1 spIsInt := ⟨_, fd_is_integer, ok_is_integer F_is_integer m_isinstance m_int m_bool, g_is_integer, F_is_integer.kp, (F_is_integer.bindsN fun _ _ _ _ _ _ us hl => match us, hl with | [_, _, _], _ => rfl)⟩
  have d_is_string : Dfn P w K mg base CX0 "is_string" ["value", "low", "high"] 1 spIsStr := ⟨_, fd_is_string, ok_is_string F_is_string g_CHARACTERS m_isinstance m_str m_len m_all, g_is_string, F_is_string.kp, (F_is_string.bindsN fun _ _ _ _ _ _ us hl => match us, hl with | [_, _, _], _ => rfl)⟩
  have d_check_word : Dfn P w K mg base CX0 "check_word" ["word"] 2 spCheck := ⟨_, fd_check_word, ok_check_word F_check_word d_is_made_of g_CHARACTERS, g_check_word, F_check_word.kp, (F_check_word.bindsN fun _ _ _ _ _ _ us hl => match us, hl with | [_], _ => rfl)⟩
  have o_Step_init : FnOk P w K mg base CX0 1 _ fd_Step_init ["self", "letters", "line"] (spStepI K) := ok_step_init F_Step_init m_set m_sorted
  have g_Step : mg "Step" = some (.ref (He.ga K "Step")) := He.glo_ok X G (c.d.fact 36 (f := .glo "Step") rfl)
  have r_Step := creadB_ok (x := "Step") (c.more 2 (f := creadB "Step") rfl)
  have c_Step_init : Cfn P w K mg base CX0 "Step" "__init__" ["self", "letters", "line"] 1 (spStepI K) := ⟨_, _, fd_Step_init, _, g_Step, r_Step, cfnB_ok (c.more 3 (f := cfnB "Step" "__init__") rfl), F_Step_init.kp, o_Step_init, (F_Step_init.bindsN fun _ _ _ _ _ _ us hl => match us, hl with | [_, _, _], _ => rfl)⟩
  have o_Bounded_init : FnOk P w K mg base CX0 2 _ fd_Bounded_init ["self", "low", "high", "line"] (spBoundI K) := ok_bounded_init F_Bounded_init c_Step_init
  have c_Bounded_init : Cfn P w K mg base CX0 "Bounded" "__init__" ["self", "low", "high", "line"] 2 (spBoundI K) := ⟨_, _, fd_Bounded_init, _, g_Bounded, r_Bounded, cfnB_ok (c.more 4 (f := cfnB "Bounded" "__init__") rfl), F_Bounded_init.kp, o_Bounded_init, (F_Bounded_init.bindsN fun _ _ _ _ _ _ us hl => match us, hl with | [_, _, _, _], _ => rfl)⟩
  have hD : DbC K (He.ga K "Doubles") := ⟨⟨hC_Doubles, n_Doubles_letters, n_Doubles_line⟩, n_Doubles_of⟩
  have hB : BdC K (He.ga K "Cut") := ⟨⟨hC_Cut, n_Cut_letters, n_Cut_line⟩, n_Cut_low, n_Cut_high⟩
  have o_Doubles_init : FnOk P w K mg base CX0 2 _ fd_Doubles_init ["self", "of"] (spDblI (He.ga K "Doubles")) := ok_dbl_init F_Doubles_init hD d_is_string c_Step_init m_len m_set m_sorted
  have k_Doubles : Mkd P w K mg base CX0 "Doubles" (He.ga K "Doubles") ["self", "of"] 2 (spDblI (He.ga K "Doubles")) := ⟨_, fd_Doubles_init, g_Doubles, He.mkr_ok (c.d.fact 37 (f := .mkr "Doubles") rfl), o_Doubles_init, (F_Doubles_init.bindsN fun _ _ _ _ _ _ us hl => match us, hl with | [_, _], _ => rfl)⟩
  have kk_Doubles : MkK P w K mg base CX0 "Doubles" (He.ga K "Doubles") ["self", "of"] 2 1 ["of"] (fun vs zs => vs ++ zs) (spDblI (He.ga K "Doubles")) := ⟨_, fd_Doubles_init, _, g_Doubles, He.mkr_ok (c.d.fact 37 (f := .mkr "Doubles") rfl), o_Doubles_init, F_Doubles_init.kbN 1 ["of"] fun _ _ _ _ _ _ us ws hl hk => match us, ws, hl, hk with | [_], [_], _, _ => rfl⟩
  have o_Doubles_call : FnOk P w K mg base CX0 3 _ fd_Doubles_call ["self", "word"] (spDblC (He.ga K "Doubles")) := ok_dbl_call F_Doubles_call hD d_check_word
  have cal_Doubles : Cal P w K mg base CX0 (He.ga K "Doubles") ["self", "word"] 3 (spDblC (He.ga K "Doubles")) := ⟨_, fd_Doubles_call, calloB_ok (c.more 5 (f := calloB "Doubles") rfl), o_Doubles_call, (F_Doubles_call.bindsN fun _ _ _ _ _ _ us hl => match us, hl with | [_, _], _ => rfl)⟩
  have o_Cut_init : FnOk P w K mg base CX0 3 _ fd_Cut_init ["self", "high"] (spCutI (He.ga K "Cut")) := ok_cut_init F_Cut_init hB d_is_integer c_Bounded_init g_Bounded r_Bounded v_Bounded_TOP
  have k_Cut : Mkd P w K mg base CX0 "Cut" (He.ga K "Cut") ["self", "high"] 3 (spCutI (He.ga K "Cut")) := ⟨_, fd_Cut_init, g_Cut, He.mkr_ok (c.d.fact 38 (f := .mkr "Cut") rfl), o_Cut_init, (F_Cut_init.bindsN fun _ _ _ _ _ _ us hl => match us, hl with | [_, _], _ => rfl)⟩
  have kk_Cut : MkK P w K mg base CX0 "Cut" (He.ga K "Cut") ["self", "high"] 3 1 ["high"] (fun vs zs => vs ++ zs) (spCutI (He.ga K "Cut")) := ⟨_, fd_Cut_init, _, g_Cut, He.mkr_ok (c.d.fact 38 (f := .mkr "Cut") rfl), o_Cut_init, F_Cut_init.kbN 1 ["high"] fun _ _ _ _ _ _ us ws hl hk => match us, ws, hl, hk with | [_], [_], _, _ => rfl⟩
  have o_Cut_call : FnOk P w K mg base CX0 3 _ fd_Cut_call ["self", "word"] (spCutC (He.ga K "Cut")) := ok_cut_call F_Cut_call hB d_check_word
  have cal_Cut : Cal P w K mg base CX0 (He.ga K "Cut") ["self", "word"] 3 (spCutC (He.ga K "Cut")) := ⟨_, fd_Cut_call, calloB_ok (c.more 6 (f := calloB "Cut") rfl), o_Cut_call, (F_Cut_call.bindsN fun _ _ _ _ _ _ us hl => match us, hl with | [_, _], _ => rfl)⟩
  have d_law_runs : Dfn P w K mg base CX0 "_law_runs" ["_law_bag_here", "_law_chosen"] 2 (spRuns K) := ⟨_, fd_law_runs, ok_runs F_law_runs d_law_draw d_law_characters m_range m_len, g_law_runs, F_law_runs.kp, (F_law_runs.bindsN fun _ _ _ _ _ _ us hl => match us, hl with | [_, _], _ => rfl)⟩
  have d_law_word : Dfn P w K mg base CX0 "_law_word" ["_law_runs_here"] 1 spWord := ⟨_, fd_law_word, ok_word F_law_word , g_law_word, F_law_word.kp, (F_law_word.bindsN fun _ _ _ _ _ _ us hl => match us, hl with | [_], _ => rfl)⟩
  have d_law_short : Dfn P w K mg base CX0 "_law_short" ["_law_runs_here", "_law_chosen"] 1 spShort := ⟨_, fd_law_short, ok_short F_law_short , g_law_short, F_law_short.kp, (F_law_short.bindsN fun _ _ _ _ _ _ us hl => match us, hl with | [_, _], _ => rfl)⟩
  exact ok_law F_law d_law_bag d_law_draw d_law_characters d_law_string d_law_runs d_law_word d_law_short k_Doubles kk_Doubles cal_Doubles k_Cut kk_Cut cal_Cut m_range m_list m_set m_sorted m_isinstance m_enumerate

end La
open PySem PySem.W PySem.Calls PyProof.Rows
set_option maxRecDepth 100000 in
set_option maxHeartbeats 0 in
theorem PySem.Challenge.cw_foundaswritten_k07_doubles_and_cut_holds : PySem.Challenge.rw_foundaswritten_k07_doubles_and_cut.Holds := by
  w_on; o_law
  refine HandSHeadRun.head_any (r := OpenLaw.row PySem.Challenge.rw_foundaswritten_k07_doubles_and_cut) (q := view (OpenLaw.row PySem.Challenge.rw_foundaswritten_k07_doubles_and_cut).prog [25]) (H := La.hk) (ob := La.ob) (M := 3000) (loose := La.loose) (d := HandSHeadRun.topDef (OpenLaw.row PySem.Challenge.rw_foundaswritten_k07_doubles_and_cut).prog 25) (kwd := []) La.ob_eq
    (by kernel_rfl) (fun s => by kernel_rfl) La.run (by kernel_rfl) (by kernel_rfl) (by kernel_rfl) (by rfl) (by first | assumption | decide +kernel) (by decide +kernel) ⟨rfl, rfl, rfl, rfl, rfl, by decide +kernel⟩ ?hw ?hc
  case hw => w_witness2
  case hc =>
    refine L2.walk_ofE (l := PySem.Challenge.rw_foundaswritten_k07_doubles_and_cut) (n := 63) (k := 5) (x := "_law_script") (CX := L2.CX0) rfl (by decide) (by kernel_rfl) ⟨rfl, by decide, by decide⟩ ?F (fun _ _ _ _ z => z)
    intro w mg fa h Y G hmg0
    obtain ⟨K, KX, c⟩ := Y
    have hmg : mg ("law" : PySem.Str) = some (.ref fa) := by
      have e : (HandSHeadRun.topDef (OpenLaw.row PySem.Challenge.rw_foundaswritten_k07_doubles_and_cut).prog 25).name = ("law" : PySem.Str) := by kernel_rfl
      rw [← e]
      exact hmg0
    obtain ⟨fd, hb, hF⟩ := La.facts (P := (PySem.Challenge.rw_foundaswritten_k07_doubles_and_cut).prog) (w := w) KX G hmg c
    exact ⟨K, fd, La.spLaw K, KX, hb, fun H a ns hl _ hS => ⟨a, ns, rfl, hS, fun _ => rfl⟩, hF⟩
#print axioms PySem.Challenge.cw_foundaswritten_k07_doubles_and_cut_holds

