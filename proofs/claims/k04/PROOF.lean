import PyProof.Rows.All
import Wide.All
import OpenK.AllK
import Wide.FinOn
import PyProof.Rows.SortShellAny
import HandS.ForMost
import HandS.Set
import HandS.SetFor
import HandS.ExcValue
import HandS.Wide
import HandS.IsInst
import HandS.Style
import HandS.Codes
import HandS.Defaults
import HandS.Walk
import PySem.Challenge.RW_foundaswritten_k04_items_of_texts
import HandS.Head0
import HandS.Head1
import HandS.Head2
import HandS.HeadEnd
import HandS.HeadHook1
import HandS.HeadHook2
set_option Elab.async false
set_option linter.all false
set_option maxRecDepth 100000
set_option maxHeartbeats 2000000
/-! Sets of texts: add, set(x) of what is walked, the walk of a set, sorted(x). -/
namespace Fw
open PySem PySem.Spec PyProof.Rows L2

/-- the text of a set's entry -/
def nameT (e : Int × Value) : Str := match e.2 with
  | .str x _ => x
  | _ => Str.empty
def IsTx (w : World) (e : Int × Value) : Prop := ∃ x tk, e.2 = Value.str x tk ∧ e.1 = hashStr w x
/-- the set at a holds just the texts L (in its table's own order) -/
def TxSet (w : World) (h : Heap) (a : Addr) (L : List Str) : Prop :=
  ∃ o es ep t, h.get? a = some o ∧ o.ExactSet ∧ o.data = .set es ep t ∧ (∀ e ∈ es.toList, IsTx w e) ∧ es.toList.map nameT = L ∧ L.Nodup ∧
    L.length < scanBound ∧ t.fits es.size = true ∧ Ris t.place.toList ∧ (w.params.followText "set-order" = true ∨ t.led = true)

section
variable {P : Program} {w : World} {h h' : Heap} {a : Addr} {L : List Str}
theorem TxSet.at (R : TxSet w h a L) (k : ∀ o, h.get? a = some o → h'.get? a = some o) : TxSet w h' a L := by
  obtain ⟨o, es, ep, t, ho, r⟩ := R
  exact ⟨o, es, ep, t, k o ho, r⟩
theorem tx_elems {l : List (Int × Value)} (g : ∀ e ∈ l, IsTx w e) : ElemsOf (strKind P w) l := by
  intro e he
  obtain ⟨x, tk, e2, e1⟩ := g e he
  refine ⟨⟨x, ?_, e1⟩, ?_⟩
  · rw [e2]; exact strKind_is P w x tk
  · rw [e2]; rfl
theorem tx_is {e : Int × Value} (g : IsTx w e) (k : Str) : (strKind P w).is k e.2 = true ↔ nameT e = k := by
  obtain ⟨x, tk, e2, _⟩ := g
  have hn : nameT e = x := by unfold nameT; rw [e2]
  rw [hn, e2]
  constructor
  · intro q
    obtain ⟨t, q2⟩ := Value.isStrOf_shape (x := k) (v := Value.str x tk) q
    injection q2
  · intro q; subst q; exact strKind_is P w x tk
theorem tx_mem {l : List (Int × Value)} (g : ∀ e ∈ l, IsTx w e) (k : Str) : k ∈ l.map nameT ↔ ∃ e ∈ l, (strKind P w).is k e.2 = true := by
  constructor
  · intro q
    obtain ⟨e, he, q2⟩ := List.mem_map.mp q
    exact ⟨e, he, (tx_is (g e he) k).mpr q2⟩
  · rintro ⟨e, he, q⟩
    exact List.mem_map.mpr ⟨e, he, (tx_is (g e he) k).mp q⟩
theorem stored_at {o : Obj} {es es' : Array (Int × Value)} {ep : Nat} {t t' : SetTable} (ho : h.get? a = some o) (hd : o.data = .set es ep t) :
    (h.update a (Obj.putSet es' t')).get? a = some { o with data := .set es' (ep + 1) t' } := L2.store_at ho hd
theorem freshTx {h : Heap} (w : World) {a : Addr} (ho : h.get? a = some { cls := .type "set", dict := none, data := .set #[] 0 (.fresh 0 0 (!w.params.followText "set-order")) }) : TxSet w h a [] := by
  refine ⟨_, #[], 0, _, ho, ⟨rfl, rfl, rfl⟩, rfl, ?_, rfl, List.nodup_nil, by decide, rfl, List.Pairwise.nil, ?_⟩
  · intro e he; simp at he
  · cases q : w.params.followText "set-order" with
    | true => exact .inl rfl
    | false => exact .inr rfl
end

section
variable {P : Program} {w : World} {A : Around} {E : Value → Shared → Prop} {s : Shared} {a : Addr} {L : List Str}
/-- behind a new entry: the table is stored, and laid anew if it is too full -/
theorem tx_tail {g : Bool → Sem Unit} (hg : ∀ (b : Bool) (s1 : Shared) (Q' : Unit → Shared → Prop), Q' () s1 → wpAny (model P w) A (g b) Q' E s1)
    {o : Obj} {es : Array (Int × Value)} {ep : Nat} {t : SetTable} (ho : s.heap.get? a = some o) (hex : o.ExactSet) (hd : o.data = .set es ep t)
    {es1 : Array (Int × Value)} {t2 : SetTable} (g1 : ∀ e ∈ es1.toList, IsTx w e) (nd1 : (es1.toList.map nameT).Nodup) (hb1 : es1.size < scanBound) (hf2 : t2.fits es1.size = true)
    (hr : Ris t2.place.toList) (hl : w.params.followText "set-order" = true ∨ t2.led = true) {wd : Bool} {R : Option Bool → Shared → Prop}
    (hR : ∀ h' L', Heap.SameBut a s.heap h' → L'.Perm (es1.toList.map nameT) → TxSet w h' a L' → R (some true) { s with heap := h' }) :
    wpAny (model P w) A (storeSet a es1 t2 >>= fun _ => if (!wd && t2.tooFull) = true then
        (g (relayAll t2 es1 (SetTable.grown es1.size)).2.2 >>= fun _ =>
          storeSet a (relayAll t2 es1 (SetTable.grown es1.size)).1 (relayAll t2 es1 (SetTable.grown es1.size)).2.1 >>= fun _ => pure (some true))
      else pure (some true)) R E s := by
  have len1 : (es1.toList.map nameT).length = es1.size := by simp
  refine wpAny_bind (wpAny_storeSet_of ho hd ?_ (fits_of_scanBound hb1))
  have ho1 := stored_at (es' := es1) (t' := t2) ho hd
  have sb1 := Heap.SameBut.update s.heap a (Obj.putSet es1 t2)
  by_cases full : (!wd && t2.tooFull) = true
  · rw [if_pos full]
    have pm := relayAll_perm t2 es1 (SetTable.grown es1.size)
    have f3 := relayAll_fits t2 es1 (SetTable.grown es1.size)
    have r3 := relayAll_ris t2 es1 (SetTable.grown es1.size)
    have l3 := relayAll_led t2 es1 (SetTable.grown es1.size)
    generalize relayAll t2 es1 (SetTable.grown es1.size) = Z at pm f3 r3 l3 ⊢
    obtain ⟨es2, t3, gave⟩ := Z
    dsimp only at pm f3 r3 l3 ⊢
    have len2 : es2.size = es1.size := by
      have q := pm.length_eq
      rw [Array.length_toList, Array.length_toList] at q
      exact q
    refine wpAny_bind (hg _ _ _ (wpAny_bind (wpAny_storeSet_of ho1 rfl (wpAny_pure ?_) (fits_of_scanBound (by rw [len2]; exact hb1)))))
    have ho2 := stored_at (es' := es2) (t' := t3) ho1 rfl
    have pn := pm.map nameT
    refine hR _ (es2.toList.map nameT) (sb1.trans (Heap.SameBut.update _ a _)) pn ⟨_, es2, _, t3, ho2, hex, rfl, fun e he => g1 e (pm.mem_iff.mp he), rfl, pn.nodup_iff.mpr nd1, ?_, f3, r3, ?_⟩
    · rw [pn.length_eq, len1]; exact hb1
    · rcases hl with z | z
      · exact .inl z
      · exact .inr (by rw [l3]; exact z)
  · rw [if_neg full]
    exact wpAny_pure (hR _ _ sb1 (List.Perm.refl _) ⟨_, es1, _, t2, ho1, hex, rfl, g1, rfl, nd1, by rw [len1]; exact hb1, hf2, hr, hl⟩)

theorem tx_add {k : Str} {tk : Tok} {Q : Bool → Shared → Prop} (R : TxSet w s.heap a L) (room : L.length + 1 < scanBound)
    (hQ : ∀ b h' L', Heap.SameBut a s.heap h' → TxSet w h' a L' → (k ∈ L → L' = L) → (k ∉ L → L'.Perm (k :: L)) → Q b { s with heap := h' }) :
    wpAny (model P w) A (setAddHashed a (.str k tk) (hashStr w k)) Q E s := by
  obtain ⟨o, es, ep, t, ho, hex, hd, g, eL, nd, hb, hf, hr, hl⟩ := R
  have lenL : L.length = es.size := by rw [← eL]; simp
  have hkey : (strKind P w).is k (.str k tk) = true := strKind_is P w k tk
  have hsc : (Value.str k tk).scannable = true := rfl
  have hel : ElemsOf (strKind P w) es.toList := tx_elems g
  have hb' : es.size < scanBound := by rw [← lenL]; exact hb
  show wpAny (model P w) A (setAddHashed a (.str k tk) ((strKind P w).hash k)) Q E s
  unfold setAddHashed setAddHashedIn
  refine wpAny_holding (wpAny_bind (wpAny_setState_of ho hd hf ?_))
  dsimp only
  rw [byScan_of hsc hb' hel]
  simp only [↓reduceIte]
  unfold setAddByScan
  refine wpAny_bind (wpAny_bind (wpAny_rule (wpAny_bind (wpAny_setScan_of hkey ho hd hf hel ?_))))
  cases hfi : List.findIdx? (fun e => (strKind P w).is k e.2) es.toList with
  | some j =>
    dsimp only
    obtain ⟨hj, pj, _⟩ := List.findIdx?_eq_some_iff_getElem.mp hfi
    have inL : k ∈ L := by
      rw [← eL]
      exact (tx_mem (P := P) g k).mpr ⟨_, List.getElem_mem hj, pj⟩
    exact wpAny_pure (wpAny_pure (hQ _ s.heap L (Heap.SameBut.refl a s.heap) ⟨o, es, ep, t, ho, hex, hd, g, eL, nd, hb, hf, hr, hl⟩ (fun _ => rfl) fun n => absurd inL n))
  | none =>
    dsimp only
    have notL : k ∉ L := by
      rw [← eL]
      intro z
      obtain ⟨e, he, q⟩ := (tx_mem (P := P) g k).mp z
      have c := List.findIdx?_eq_none_iff.mp hfi e he
      rw [q] at c
      cases c
    have calm : ∀ (b : Bool) (s1 : Shared) (Q' : Unit → Shared → Prop), Q' () s1 → wpAny (model P w) A (match b with | true => rule "set.scan.the-table-gave-way" | false => pure ()) Q' E s1 := by
      intro b s1 Q' q
      cases b
      · exact wpAny_pure q
      · exact wpAny_rule q
    have pm := layNew_perm t es ((strKind P w).hash k) (.str k tk)
    have f1 := layNew_fits t es ((strKind P w).hash k) (.str k tk)
    have r1 := layNew_ris t es ((strKind P w).hash k) (.str k tk) hr
    have l1 := layNew_led t es ((strKind P w).hash k) (.str k tk)
    generalize layNew t es ((strKind P w).hash k) (.str k tk) = Z at pm f1 r1 l1 ⊢
    obtain ⟨es1, t1, wd, gave⟩ := Z
    dsimp only at pm f1 r1 l1 ⊢
    have pc : es1.toList.Perm (((strKind P w).hash k, Value.str k tk) :: es.toList) := by
      rw [Array.toList_push] at pm
      exact pm.trans (List.perm_append_singleton _ _)
    have pk : (es1.toList.map nameT).Perm (k :: L) := by
      have q := pc.map nameT
      rw [List.map_cons, eL] at q
      exact q
    have g1 : ∀ e ∈ es1.toList, IsTx w e := by
      intro e he
      rcases List.mem_cons.mp (pc.mem_iff.mp he) with z | z
      · rw [z]; exact ⟨k, tk, rfl, rfl⟩
      · exact g e z
    have nd1 : (es1.toList.map nameT).Nodup := pk.nodup_iff.mpr (List.nodup_cons.mpr ⟨notL, nd⟩)
    have b1 : es1.size < scanBound := by
      have q := pk.length_eq
      rw [List.length_map, Array.length_toList, List.length_cons] at q
      omega
    have led1 : w.params.followText "set-order" = true ∨ t1.led = true := by
      rcases hl with z | z
      · exact .inl z
      · exact .inr (by rw [l1]; exact z)
    have fin : ∀ h' L', Heap.SameBut a s.heap h' → L'.Perm (es1.toList.map nameT) → TxSet w h' a L' → Q true { s with heap := h' } := fun h' L' sb pp r =>
      hQ _ h' L' sb r (fun z => absurd z notL) fun _ => pp.trans pk
    refine wpAny_bind (calm _ _ _ ?_)
    split
    · refine wpAny_bind ?_
      rw [hashByValue_scannable 8 hsc]
      refine wpAny_pure ?_
      refine tx_tail ?_ ho hex hd g1 nd1 b1 ?_ ?_ ?_ ?_
      · intro b s1 Q' q; cases b <;> first | exact wpAny_pure q | exact wpAny_rule q
      · first | (split <;> first | exact f1 | exact SetTable.fits_plain_off f1) | exact f1
      · first | (split <;> exact r1) | exact r1
      · first | (split <;> exact led1) | exact led1
      · intro h' L' sb pp r; dsimp only; exact wpAny_pure (fin h' L' sb pp r)
    · refine wpAny_bind (wpAny_pure ?_)
      simp only [↓reduceIte]
      refine tx_tail ?_ ho hex hd g1 nd1 b1 f1 r1 led1 ?_
      · intro b s1 Q' q; cases b <;> first | exact wpAny_pure q | exact wpAny_rule q
      · intro h' L' sb pp r; dsimp only; exact wpAny_pure (fin h' L' sb pp r)
end
end Fw
namespace Fw
open PySem PySem.Spec PyProof.Rows L2
section
variable {P : Program} {w : World}
/-- v is walked text by text: xs; h0 is the heap in which that is known -/
def Src (P : Program) (w : World) (h0 : Heap) (v : Value) (xs : List Str) : Prop :=
  ∀ (A : Around) (E : Value → Shared → Prop) (Q : Value → Shared → Prop) (s : Shared), (∀ b o, h0.get? b = some o → s.heap.get? b = some o) →
    (∀ (I : Addr) (s2 : Shared) (fp : List Addr) (Pv : Nat → Value → Prop) (St : Nat → Heap → Prop), (∀ b o, s.heap.get? b = some o → s2.heap.get? b = some o) → s2.gens = s.gens → s2.os = s.os →
      s2.drawn = s.drawn → s2.toks = s.toks → s.heap.objs.size ≤ I → (∀ b ∈ fp, b < h0.objs.size ∨ s.heap.objs.size ≤ b) →
      (∀ A' : Around, A'.handled = none → Walks P w A' I fp [I] xs.length Pv St) → (∀ i u, Pv i u → ∃ tk, u = .str (xs.getD i Str.empty) tk) → St 0 s2.heap → Q (.ref I) s2) →
    wpAny (model P w) A (pyIter v) Q E s
theorem StrsAt.at_ : ∀ {us : List Value} {xs : List Str}, StrsAre us xs → ∀ (i : Nat) (v : Value), us[i]? = some v → ∃ tk, v = .str (xs.getD i Str.empty) tk
  | _, _, .nil, i, v, e => by simp at e
  | _, _, .cons x t r, 0, v, e => by
    simp at e
    exact ⟨t, by rw [← e]; rfl⟩
  | _, _, .cons x t r, i + 1, v, e => by
    obtain ⟨tk, q⟩ := StrsAt.at_ r i v (by simpa using e)
    exact ⟨tk, by rw [q]; simp⟩
theorem strs_at' {us : List Value} {xs : List Str} (h : StrsAre us xs) (i : Nat) (v : Value) (e : us[i]? = some v) : ∃ tk, v = .str (xs.getD i Str.empty) tk := StrsAt.at_ h i v e
theorem src_list {h0 : Heap} {l : Addr} {us : List Value} {xs : List Str} (hl : h0.IsList l us.toArray) (hx : StrsAre us xs) : Src P w h0 (.ref l) xs := by
  intro A E Q s k hQ
  have hl1 : s.heap.IsList l us.toArray := hl.at fun o e => k l o e
  have lt0 : l < h0.objs.size := by
    obtain ⟨o, ho, _⟩ := hl
    exact Heap.lt_size ho
  have lt1 : l < s.heap.objs.size := by
    obtain ⟨o, ho, _⟩ := hl1
    exact Heap.lt_size ho
  have hlen : us.toArray.size = xs.length := by
    rw [← StrsAre.length hx]
    simp
  refine wpAny_pyIter_list hl1 (hQ _ _ [s.heap.objs.size, l] (fun i v => us.toArray[i]? = some v) (fun i h => h.IsListIter s.heap.objs.size l i ∧ h.IsList l us.toArray) (fun b o e => Heap.get?_push_of_some _ e) rfl rfl rfl rfl (Nat.le_refl _) ?_ ?_ ?_ ?_)
  · intro b hb
    rcases List.mem_cons.mp hb with z | z
    · exact .inr (Nat.le_of_eq z.symm)
    · exact .inl (by rw [List.mem_singleton.mp z]; exact lt0)
  · intro A' hA'
    rw [← hlen]
    exact Walks.list hA' _ l (Nat.ne_of_lt lt1) us.toArray
  · intro i u e
    exact strs_at' hx i u (by simpa using e)
  · exact ⟨⟨_, Heap.get?_push_size _ rfl, rfl, rfl⟩, hl1.push _⟩
theorem src_tuple {h0 : Heap} {l : Addr} {us : List Value} {xs : List Str} (hl : h0.IsTuple l us.toArray) (hx : StrsAre us xs) : Src P w h0 (.ref l) xs := by
  intro A E Q s k hQ
  have hl1 : s.heap.IsTuple l us.toArray := hl.at fun o e => k l o e
  have lt0 : l < h0.objs.size := by
    obtain ⟨o, ho, _⟩ := hl
    exact Heap.lt_size ho
  have lt1 : l < s.heap.objs.size := by
    obtain ⟨o, ho, _⟩ := hl1
    exact Heap.lt_size ho
  have hlen : us.toArray.size = xs.length := by
    rw [← StrsAre.length hx]
    simp
  refine wpAny_pyIter_tuple hl1 (hQ _ _ [s.heap.objs.size, l] (fun i v => us.toArray[i]? = some v) (fun i h => h.IsTupleIter s.heap.objs.size l i ∧ h.IsTuple l us.toArray) (fun b o e => Heap.get?_push_of_some _ e) rfl rfl rfl rfl (Nat.le_refl _) ?_ ?_ ?_ ?_)
  · intro b hb
    rcases List.mem_cons.mp hb with z | z
    · exact .inr (Nat.le_of_eq z.symm)
    · exact .inl (by rw [List.mem_singleton.mp z]; exact lt0)
  · intro A' hA'
    rw [← hlen]
    exact Walks.tuple hA' _ l (Nat.ne_of_lt lt1) us.toArray
  · intro i u e
    exact strs_at' hx i u (by simpa using e)
  · exact ⟨⟨_, Heap.get?_push_size _ rfl, rfl, rfl⟩, hl1.at fun o e => Heap.get?_push_of_some _ e⟩
/-- a text's signs as texts of one sign -/
def signsOf (x : Str) : List Str := x.cps.toList.map fun c => ⟨#[c]⟩
theorem src_text {h0 : Heap} {x : Str} {t : Tok} : Src P w h0 (.str x t) (signsOf x) := by
  intro A E Q s k hQ
  have hlen : (signsOf x).length = x.cps.size := by simp [signsOf]
  have sg : ∀ i u, SignAt x i u → ∃ tk, u = .str ((signsOf x).getD i Str.empty) tk := by
    intro i u e
    obtain ⟨c, tk, hc, rfl⟩ := e
    refine ⟨tk, ?_⟩
    have q : (signsOf x)[i]? = some ⟨#[c]⟩ := by
      unfold signsOf
      rw [List.getElem?_map, Array.getElem?_toList, hc]
      rfl
    rw [List.getD_eq_getElem?_getD, q]
    rfl
  refine wpAny_pyIter_strU ?_
  by_cases ha : x.cps.all (· < 128) = true
  · have et : strIterType x = "str_ascii_iterator" := by unfold strIterType; rw [if_pos ha]
    rw [et]
    refine hQ _ _ [s.heap.objs.size] (SignAt x) (fun i h => h.IsStrIter s.heap.objs.size "str_ascii_iterator" x t i) (fun b o e => Heap.get?_push_of_some _ e) rfl rfl rfl rfl (Nat.le_refl _) ?_ ?_ sg ?_
    · intro b hb
      exact .inr (Nat.le_of_eq (List.mem_singleton.mp hb).symm)
    · intro A' hA'
      rw [hlen]
      exact Walks.strAscii hA' _ x t
    · exact ⟨_, Heap.get?_push_size _ rfl, rfl, rfl⟩
  · have et : strIterType x = "str_iterator" := by unfold strIterType; rw [if_neg ha]
    rw [et]
    refine hQ _ _ [s.heap.objs.size] (SignAt x) (fun i h => h.IsStrIter s.heap.objs.size "str_iterator" x t i) (fun b o e => Heap.get?_push_of_some _ e) rfl rfl rfl rfl (Nat.le_refl _) ?_ ?_ sg ?_
    · intro b hb
      exact .inr (Nat.le_of_eq (List.mem_singleton.mp hb).symm)
    · intro A' hA'
      rw [hlen]
      exact Walks.strWide hA' _ x t
    · exact ⟨_, Heap.get?_push_size _ rfl, rfl, rfl⟩
end
end Fw
namespace Fw
open PySem PySem.Spec PyProof.Rows L2
section
variable {P : Program} {w : World} {A : Around} {E : Value → Shared → Prop} {s : Shared}
theorem take_mem_succ {xs : List Str} {i : Nat} (hi : i < xs.length) (k : Str) : k ∈ xs.take (i + 1) ↔ k = xs.getD i Str.empty ∨ k ∈ xs.take i := by
  have e : xs[i]? = some (xs.getD i Str.empty) := by
    rw [List.getD_eq_getElem?_getD, List.getElem?_eq_getElem hi]
    rfl
  rw [List.take_add_one, e, List.mem_append]
  simp only [Option.toList_some, List.mem_singleton]
  exact Or.comm
/-- the loop that fills a set -/
theorem fill_loop {I : Addr} {fp : List Addr} {Pv : Nat → Value → Prop} {St : Nat → Heap → Prop} {R : Result → Shared → Prop} {xs : List Str}
    (W : Walks P w A.in1 I fp [I] xs.length Pv St) (S : Addr) (hSf : S ∉ fp) (hv : ∀ i u, Pv i u → ∃ tk, u = .str (xs.getD i Str.empty) tk) (hb : xs.length + 1 < scanBound) :
    ∀ (m i : Nat) (s : Shared) (L : List Str), xs.length - i = m → i ≤ xs.length → St i s.heap → TxSet w s.heap S L → (∀ k, k ∈ L ↔ k ∈ xs.take i) → L.length ≤ i →
      (∀ h' tk L', (∀ b o, b ≠ S → b ≠ I → s.heap.get? b = some o → h'.get? b = some o) → TxSet w h' S L' → (∀ k, k ∈ L' ↔ k ∈ xs) → R (.ok (.ret .none)) { s with heap := h', toks := tk }) →
      codeAny (model P w) A (.builtin "set.update.loop" ⟨[.ref S, .ref I], []⟩) R s := by
  have nSI : S ≠ I := fun z => hSf (W.sub _ (by rw [z]; exact List.mem_singleton_self I))
  intro m
  induction m with
  | zero =>
    intro i s L hm hi hst hS hL hn hR
    obtain rfl : i = xs.length := by omega
    refine codeAny_builtin F.entry_set_update_loop ?_
    rw [Around.under_plainId F.plain_set_update_loop _]
    show wpAny _ A.in1 (pyNext (.ref I) >>= _) _ _ s
    refine wpAny_bind (W.done s _ _ hst fun h' tk k => ?_)
    refine wpAny_pure (hR h' tk L (fun b o _ nI e => k b o (fun z => nI (List.mem_singleton.mp z)) e) (hS.at fun o e => k S o (fun z => nSI (List.mem_singleton.mp z)) e) fun x => ?_)
    rw [hL x, List.take_length]
  | succ m ih =>
    intro i s L hm hi hst hS hL hn hR
    have hlt : i < xs.length := by omega
    refine codeAny_builtin F.entry_set_update_loop ?_
    rw [Around.under_plainId F.plain_set_update_loop _]
    show wpAny _ A.in1 (pyNext (.ref I) >>= _) _ _ s
    refine wpAny_bind (W.item i s _ _ hlt hst fun v h1 tk1 hP hst1 k1 => ?_)
    obtain ⟨tk, rfl⟩ := hv i v hP
    have hS1 : TxSet w h1 S L := hS.at fun o e => k1 S o (fun z => nSI (List.mem_singleton.mp z)) e
    show wpAny _ A.in1 (holding [Value.str (xs.getD i Str.empty) tk] (setAdd S (.str (xs.getD i Str.empty) tk)) >>= _) _ _ _
    refine wpAny_bind (wpAny_holding ?_)
    unfold setAdd
    refine wpAny_holding (wpAny_bind ((strKind P w).pyHash (strKind_is P w _ tk) ?_))
    refine tx_add (s := { s with heap := h1, toks := tk1 + 1 }) hS1 (by omega) fun b h2 L2 sb hS2 c1 c2 => ?_
    have mem2 : ∀ k, k ∈ L2 ↔ k ∈ xs.take (i + 1) := by
      intro k
      rw [take_mem_succ hlt k, ← hL k]
      by_cases c : xs.getD i Str.empty ∈ L
      · rw [c1 c]
        exact ⟨.inr, fun z => z.elim (fun e => e ▸ c) id⟩
      · rw [(c2 c).mem_iff, List.mem_cons]
    have len2 : L2.length ≤ i + 1 := by
      by_cases c : xs.getD i Str.empty ∈ L
      · rw [c1 c]; omega
      · rw [(c2 c).length_eq, List.length_cons]; omega
    have st2 : St (i + 1) h2 := W.frame _ _ _ hst1 fun c hc o e => by
      rw [sb.2 c (fun z => hSf (z ▸ hc))]
      exact e
    refine wpAny_pure ⟨plainId_quiet F.plain_set_update_loop _, ih (i + 1) _ L2 (by omega) hlt st2 hS2 mem2 len2 fun h3 tk3 L3 k3 hS3 m3 => ?_⟩
    refine hR h3 tk3 L3 (fun c o nS nI e => k3 c o nS nI ?_) hS3 m3
    show h2.get? c = some o
    rw [sb.2 c nS]
    exact k1 c o (fun z => nI (List.mem_singleton.mp z)) e
/-- what set(v) asks of v's type -/
structure NoSet (P : Program) (w : World) (h0 : Heap) (v : Value) : Prop where
  set : ∀ (A : Around) (E : Value → Shared → Prop) (Q : Bool → Shared → Prop) (s : Shared), (∀ b o, h0.get? b = some o → s.heap.get? b = some o) → Q false s → wpAny (model P w) A (Builtin.Frozenset.isAnySet v) Q E s
  dict : ∀ (A : Around) (E : Value → Shared → Prop) (Q : Value → Shared → Prop) (s : Shared), (∀ b o, h0.get? b = some o → s.heap.get? b = some o) → (∀ T : Value, (T == .type "dict") = false → Q T s) → wpAny (model P w) A (typeOf v) Q E s
/-- what fills a new set -/
theorem upd_src {v : Value} {xs : List Str} {S : Addr} {h0 : Heap} {Q : Unit → Shared → Prop} (hh : A.handled = none) (ext : ∀ b o, h0.get? b = some o → s.heap.get? b = some o) (hsrc : Src P w h0 v xs) (hno : NoSet P w h0 v) (hb : xs.length + 1 < scanBound)
    (hS : s.heap.get? S = some { cls := .type "set", dict := none, data := .set #[] 0 (.fresh 0 0 (!w.params.followText "set-order")) }) (hS0 : h0.objs.size ≤ S)
    (hQ : ∀ h' tk L, (∀ b o, h0.get? b = some o → h'.get? b = some o) → TxSet w h' S L → (∀ k, k ∈ L ↔ k ∈ xs) → Q () { s with heap := h', toks := tk }) :
    wpAny (model P w) A (Builtin.Frozenset.updateFrom "set.__init__" S v) Q E s := by
  unfold Builtin.Frozenset.updateFrom
  refine wpAny_bind (hno.set _ _ _ _ ext ?_)
  simp only [Bool.false_eq_true, ↓reduceIte]
  refine wpAny_bind (hno.dict _ _ _ _ ext fun T hT => ?_)
  rw [hT]
  simp only [Bool.false_eq_true, ↓reduceIte]
  refine wpAny_bind (hsrc _ _ _ s ext fun I s2 fp Pv St k2 g2 o2 d2 t2 hI hfp hW hv hst => ?_)
  obtain ⟨h2, gs2, dr2, tk2, os2⟩ := s2
  dsimp only at g2 o2 d2 t2
  subst g2; subst o2; subst d2; subst t2
  have ltS : S < s.heap.objs.size := Heap.lt_size hS
  have hSf : S ∉ fp := fun z => by
    rcases hfp S z with q | q
    · exact absurd q (Nat.not_lt_of_le hS0)
    · exact absurd ltS (Nat.not_lt_of_le q)
  refine wpAny_bind (wpAny_runValue ?_)
  refine fill_loop (hW A.in1 hh) S hSf hv hb xs.length 0 _ [] (by omega) (Nat.zero_le _) hst (freshTx w (k2 _ _ hS)) (fun k => by simp) (Nat.le_refl _) fun h' tk L kp hL mem => ?_
  refine wpAny_pure (hQ h' tk L (fun b o e => kp b o ?_ ?_ (k2 b o (ext b o e))) hL mem)
  · intro z; rw [z] at e; exact absurd (Heap.lt_size e) (Nat.not_lt_of_le hS0)
  · intro z; rw [z] at e; exact absurd (Heap.lt_size (ext _ _ e)) (Nat.not_lt_of_le hI)
set_option maxHeartbeats 4000000 in
/-- set(v) -/
theorem call_set_src {v : Value} {xs : List Str} {Q : Value → Shared → Prop} (hh : A.handled = none) (hsrc : Src P w s.heap v xs) (hno : NoSet P w s.heap v) (hb : xs.length + 1 < scanBound)
    (hQ : ∀ h' tk L, (∀ b o, s.heap.get? b = some o → h'.get? b = some o) → TxSet w h' s.heap.objs.size L → (∀ k, k ∈ L ↔ k ∈ xs) → Q (.ref s.heap.objs.size) { s with heap := h', toks := tk }) :
    wpAny (model P w) A (call (.type "set") [v]) Q E s := by
  obtain ⟨c, tl, hmro⟩ := F.called_set.mro
  have hmade := F.called_set.made
  have hsub := F.called_set.sub
  refine wpAny_call (codeAny_of_tree ?_)
  show wpAny _ _ (callAny (.type "set") _) _ _ _
  refine wpAny_pure ⟨Code.quiet_builtin _ (by decide +kernel), codeAny_builtin F.entry_type_call ?_⟩
  rw [Around.under_plain (weight_type_call_type "set" [v] []) rfl]
  have h1 := F.called_set.notType
  have h2 := F.called_set.canCreate
  have hct := F.typeCall_set_1 v
  repeat (any_goals (first | assumption | wp_step))
  let ob : Obj := { cls := .type "set", dict := none, data := .set #[] 0 (.fresh 0 0 (!w.params.followText "set-order")) }
  refine codeAny_mono (code_set_led1 v (E := E) (Q₁ := fun o1 s1 => o1 = .ref s.heap.objs.size ∧ s1 = { s with heap := s.heap.push ob }) ⟨rfl, rfl⟩) fun r s1 hr => ?_
  match r, hr with
  | .error e, hr => exact hr
  | .ok (.ret o1), hr =>
    obtain ⟨rfl, rfl⟩ := hr
    have hS : (s.heap.push ob).get? s.heap.objs.size = some ob := Heap.get?_push_size _ rfl
    have hT : Shared.TypeIs { s with heap := s.heap.push ob } (.ref s.heap.objs.size) "set" := ⟨_, hS, rfl⟩
    have hli := F.called_set.init.lookup
    have hbi := F.called_set.init.bind (.ref s.heap.objs.size)
    repeat (any_goals (first | assumption | wp_step))
    refine codeAny_mono (codeAny_call_builtin (R := wants (fun r s2 => r = .none ∧ ∃ h' tk L, s2 = { s with heap := h', toks := tk } ∧ (∀ b o, s.heap.get? b = some o → h'.get? b = some o) ∧
        TxSet w h' s.heap.objs.size L ∧ ∀ k, k ∈ L ↔ k ∈ xs) E) F.called_set.init.plain F.entry_set_init (check_set_init_1 hT ?_)) fun r2 s2 hr2 => ?_
    · have ext : ∀ b o, s.heap.get? b = some o → (s.heap.push ob).get? b = some o := fun b o e => Heap.get?_push_of_some _ e
      unfold Builtin.«set.__init__» noKeywords
      generalize hU : Builtin.Frozenset.updateFrom = U
      wp_walk
      subst hU
      refine upd_src (s := { s with heap := s.heap.push ob }) hh (fun b o e => ext b o e) hsrc hno hb hS (Nat.le_refl _) fun h' tk L kp hL mem => ?_
      trace_state
      exact wpAny_pure ⟨rfl, h', tk, L, rfl, kp, hL, mem⟩
    · match r2, hr2 with
      | .error e, hr2 => exact hr2
      | .ok (.ret r), hr2 =>
        obtain ⟨rfl, h', tk, L, rfl, kp, hL, mem⟩ := hr2
        repeat (any_goals (first | assumption | wp_step))
        exact hQ _ _ _ kp hL mem
end
end Fw

set_option maxRecDepth 100000
set_option maxHeartbeats 2000000
/-! sorted, set, len(set), list of texts: rules over the layer. -/
namespace Fw
open PySem PySem.Spec PyProof.Rows L2
/-! ### the order of texts -/
def leS (x y : Str) : Bool := !ltCps y.cps.toList x.cps.toList
theorem leS_iff {x y : Str} : leS x y = true ↔ ¬ y.cps.toList < x.cps.toList := by
  unfold leS
  rw [ltCps_eq]
  simp
theorem leS_trans (x y z : Str) (h1 : leS x y = true) (h2 : leS y z = true) : leS x z = true := by
  rw [leS_iff] at *
  have a : x.cps.toList ≤ y.cps.toList := by simpa using h1
  have b : y.cps.toList ≤ z.cps.toList := by simpa using h2
  simpa using List.le_trans a b
theorem leS_total (x y : Str) : (leS x y || leS y x) = true := by
  rcases List.le_total x.cps.toList y.cps.toList with h | h
  · have q : leS x y = true := leS_iff.mpr (by simpa using h)
    rw [q]; rfl
  · have q : leS y x = true := leS_iff.mpr (by simpa using h)
    rw [q]; simp
theorem str_ext {x y : Str} (h : x.cps.toList = y.cps.toList) : x = y := by
  cases x; cases y
  simp at h
  simp [h]
theorem leS_anti (x y : Str) (h1 : leS x y = true) (h2 : leS y x = true) : x = y := by
  rw [leS_iff] at *
  exact str_ext (List.le_antisymm (by simpa using h1) (by simpa using h2))
def srt (xs : List Str) : List Str := xs.mergeSort leS
theorem srt_perm (xs : List Str) : (srt xs).Perm xs := List.mergeSort_perm xs leS
theorem srt_pw (xs : List Str) : (srt xs).Pairwise fun x y => leS x y = true := List.pairwise_mergeSort leS_trans leS_total xs
theorem risingS_pw : ∀ (xs : List Str) (p : Str), risingS p xs = true → (p :: xs).Pairwise fun x y => leS x y = true
  | [], p, _ => by simp
  | x :: r, p, h => by
    obtain ⟨h1, h2⟩ := Bool.and_eq_true_iff.mp (show (!ltCps x.cps.toList p.cps.toList && risingS x r) = true from h)
    have ih := risingS_pw r x h2
    refine List.pairwise_cons.mpr ⟨fun y hy => ?_, ih⟩
    rcases List.mem_cons.mp hy with z | z
    · rw [z]; exact h1
    · exact leS_trans p x y h1 ((List.pairwise_cons.mp ih).1 y z)
theorem sortedS_pw {xs : List Str} (h : sortedS xs = true) : xs.Pairwise fun x y => leS x y = true := by
  cases xs with
  | nil => exact List.Pairwise.nil
  | cons x r => exact risingS_pw r x h
theorem srt_one {xs ys : List Str} (p : ys.Perm xs) (h : ys.Pairwise fun x y => leS x y = true) : ys = srt xs :=
  List.Perm.eq_of_pairwise (fun x y _ _ h1 h2 => leS_anti x y h1 h2) h (srt_pw xs) (p.trans (srt_perm xs).symm)
theorem srt_congr {xs ys : List Str} (p : xs.Perm ys) : srt xs = srt ys := srt_one ((srt_perm xs).trans p) (srt_pw xs)
theorem srt_mem {xs : List Str} {x : Str} : x ∈ srt xs ↔ x ∈ xs := (srt_perm xs).mem_iff
theorem srt_len (xs : List Str) : (srt xs).length = xs.length := (srt_perm xs).length_eq
/-- ascending, each once -/
def once : List Str → List Str
  | [] => []
  | x :: r => if x ∈ r then once r else x :: once r
theorem once_mem : ∀ {xs : List Str} {k : Str}, k ∈ once xs ↔ k ∈ xs
  | [], _ => Iff.rfl
  | x :: r, k => by
    unfold once
    by_cases c : x ∈ r
    · rw [if_pos c, once_mem, List.mem_cons]
      exact ⟨.inr, fun z => z.elim (fun e => e ▸ c) id⟩
    · rw [if_neg c, List.mem_cons, List.mem_cons, once_mem]
theorem once_nodup : ∀ xs : List Str, (once xs).Nodup
  | [] => List.nodup_nil
  | x :: r => by
    unfold once
    by_cases c : x ∈ r
    · rw [if_pos c]; exact once_nodup r
    · rw [if_neg c]
      exact List.nodup_cons.mpr ⟨fun z => c (once_mem.mp z), once_nodup r⟩
def ups (xs : List Str) : List Str := srt (once xs)
theorem nodup_perm {xs ys : List Str} (h1 : xs.Nodup) (h2 : ys.Nodup) (h : ∀ k, k ∈ xs ↔ k ∈ ys) : xs.Perm ys := (List.perm_ext_iff_of_nodup h1 h2).mpr h
theorem ups_nodup (xs : List Str) : (ups xs).Nodup := (srt_perm _).nodup_iff.mpr (once_nodup xs)
theorem ups_mem {xs : List Str} {x : Str} : x ∈ ups xs ↔ x ∈ xs := by
  unfold ups
  rw [srt_mem, once_mem]
theorem srt_set {L xs : List Str} (hL : L.Nodup) (h : ∀ k, k ∈ L ↔ k ∈ xs) : srt L = ups xs :=
  srt_congr (nodup_perm hL (once_nodup xs) fun k => by rw [h k, once_mem])
theorem ups_one {L xs : List Str} (hL : L.Pairwise fun x y => leS x y = true) (hn : L.Nodup) (h : ∀ k, k ∈ L ↔ k ∈ xs) : ups xs = L := by
  rw [← srt_set hn h]
  exact (srt_one (List.Perm.refl L) hL).symm

/-! ### set(v) of texts; sorted(v); len; list(text) -/
/-- v is a text, or a list or tuple of texts: what its walk gives -/
def TxSrc (K : PySem.W.Frag) (H : Hp) (v : V) (ys : List Str) : Prop :=
  (∃ x, v = .str x ∧ ys = signsOf x ∧ x.length ≤ sizeLine) ∨ ∃ a, v = .ref a ∧ (SqL K H a (ys.map V.str) ∨ SqT K H a (ys.map V.str))
/-- the set at a of the texts L -/
def SetS (w : World) (a : Addr) (L : List Str) : HO := .ext fun h => TxSet w h a L
section
variable {X : Cx}
theorem setS_new {w : World} {P : Program} {H : Hp} {h : Heap} {a : Addr} {L : List Str} (R : TxSet w h a L) : ObjOk P w H h a (SetS w a L) := by
  have ⟨o, _, _, _, ho, _⟩ := R
  exact ⟨R, ⟨o, ho⟩, fun h1 h2 p k => TxSet.at p k⟩
theorem setS_get {pins : List (Addr × Obj)} {σ : L2.St} {H : Hp} {s : Shared} {a : Addr} {L : List Str} (I : Inv X pins σ H s) (ha : H a = some (SetS X.w a L)) : TxSet X.w s.heap a L := (I.hok a _ ha).1
theorem vals_strs {ys : List Str} {us : List Value} (r : Vals (ys.map V.str) us) : StrsAre us ys := r.strs
theorem noSet_ty {P : Program} {w : World} {h0 : Heap} {v : Value} {T : String} (ht : ∀ s : Shared, (∀ b o, h0.get? b = some o → s.heap.get? b = some o) → s.TypeIs v T) (h1 : isSubtype (.type T) (.type "set") = pure false)
    (h2 : isSubtype (.type T) (.type "frozenset") = pure false) (h3 : (Value.type T == .type "dict") = false) : NoSet P w h0 v where
  set := fun A E Q s k q => by
    unfold Builtin.Frozenset.isAnySet
    refine wpAny_bind (wpAny_isInstance (ht s k) h1 ?_)
    first
      | exact wpAny_isInstance (ht s k) h2 q
      | (dsimp only; exact wpAny_isInstance (ht s k) h2 q)
      | (simp only [Bool.false_eq_true, ↓reduceIte]; exact wpAny_isInstance (ht s k) h2 q)
  dict := fun A E Q s k q => wpAny_typeOf (ht s k) (q _ h3)
theorem src_of {pins : List (Addr × Obj)} {σ : L2.St} {H : Hp} {s : Shared} {v : V} {u : Value} {ys : List Str} (I : Inv X pins σ H s) (r : RelV v u) (h : TxSrc X.K H v ys) : Src X.prog X.w s.heap u ys ∧ NoSet X.prog X.w s.heap u := by
  rcases h with ⟨x, rfl, rfl, _⟩ | ⟨a, rfl, h | h⟩
  · obtain ⟨t, rfl⟩ := r
    exact ⟨src_text, noSet_ty (T := "str") (fun s k => rfl) F.sub_str_set F.sub_str_frozenset (by decide)⟩
  · cases r
    obtain ⟨its, rv, hl, _⟩ := I.list h
    refine ⟨src_list hl.isList (vals_strs rv), noSet_ty (T := "list") (fun s k => ?_) F.sub_list_set F.sub_list_frozenset (by decide)⟩
    exact (hl.isList.at fun o e => k a o e).typeIs
  · cases r
    obtain ⟨its, rv, hl, _⟩ := I.tuple h
    refine ⟨src_tuple (show s.heap.IsTuple a its.toArray from hl) (vals_strs rv), noSet_ty (T := "tuple") (fun s k => ?_) F.sub_tuple_set F.sub_tuple_frozenset (by decide)⟩
    exact ((show Heap.IsTuple _ a its.toArray from hl).at fun o e => k a o e).typeIs
/-- set(v) -/
def rSetT (K : PySem.W.Frag) (w : World) : List V → Hp → VK → Prop := fun xs H Q => ∃ v ys, xs = [v] ∧ TxSrc K H v ys ∧ ys.length ≤ 4000 ∧ ∀ p L, H p = none → L.Nodup → (∀ k, k ∈ L ↔ k ∈ ys) → Q (.ref p) (upd H p (SetS w p L))
theorem cr_setT (hc : X.calm = true) : CallR X (.type "set") (rSetT X.K X.w) := by
  intro pins s σ H xs us Q I r h
  obtain ⟨v, ys, rfl, hs, hl, q⟩ := h
  cases r with
  | cons rv rn =>
    cases rn
    obtain ⟨h1, h2⟩ := src_of I rv hs
    refine call_set_src (I.ok.hd hc) h1 h2 (by show ys.length + 1 < 4096; omega) fun h' tk L k R mem => ?_
    have nd : L.Nodup := by
      obtain ⟨_, _, _, _, _, _, _, _, _, nd, _⟩ := R
      exact nd
    exact ⟨.ref _, upd H s.heap.objs.size (SetS X.w s.heap.objs.size L), I.laid (t' := tk) k (Nat.le_refl _) (setS_new R), rfl, q _ L (I.hok.fresh (Nat.le_refl _)) nd mem⟩
/-! ### sorted -/
/-- what is collected from v: some arrangement of the texts ys -/
def Coll (P : Program) (w : World) (A : Around) (s : Shared) (v : Value) (ys : List Str) : Prop := ∀ (E : Value → Shared → Prop) (Q : List Value → Shared → Prop),
  (∀ s1 vs zs, (∀ b o, s.heap.get? b = some o → s1.heap.get? b = some o) → s1.gens = s.gens → s1.os = s.os → StrsAre vs zs → zs.Perm ys → Q vs s1) → wpAny (model P w) A (collect v) Q E s
section
variable {P : Program} {w : World} {A : Around} {E : Value → Shared → Prop} {s : Shared}
theorem coll_list {l : Addr} {vs : List Value} {ys : List Str} (hl : s.heap.IsList l vs.toArray) (hv : StrsAre vs ys) (hz : ys.length ≤ sizeLine) : Coll P w A s (.ref l) ys := by
  intro E Q hQ
  refine collect_list hl (hQ _ vs ys (fun b o e => ?_) rfl rfl hv (List.Perm.refl _)) (by rw [StrsAre.length hv]; exact hz)
  rw [Heap.get?_update_ne _ _ _ _ (Nat.ne_of_lt (Heap.lt_size e))]
  exact Heap.get?_push_of_some _ e
theorem coll_tuple {l : Addr} {vs : List Value} {ys : List Str} (hl : s.heap.IsTuple l vs.toArray) (hv : StrsAre vs ys) (hz : ys.length ≤ sizeLine) : Coll P w A s (.ref l) ys := by
  intro E Q hQ
  obtain ⟨o, ho, hc, n, hd⟩ := id hl
  have hsz : vs.length ≤ sizeLine := by rw [StrsAre.length hv]; exact hz
  unfold collect
  refine wpAny_bind (wpAny_runValue (codeAny_builtin F.entry_proto_collect ?_))
  rw [Around.under_plainId F.plain_proto_collect _]
  show wpAny _ A.in1 (newList [] >>= fun l1 => again (.builtin "list.__iadd__" ⟨[l1, .ref l], []⟩)) _ _ s
  refine wpAny_bind (wpAny_newList (wpAny_pure ⟨plainId_quiet F.plain_list_iadd _, codeAny_builtin F.entry_list_iadd ?_⟩))
  rw [Around.under_plainId F.plain_list_iadd _]
  show wpAny _ A.in1 (Builtin.List.listExtendWith (.ref s.heap.objs.size) (.ref l) (.ref s.heap.objs.size)) _ _ { s with heap := s.heap.push (seqObj "list" #[] 0) }
  unfold Builtin.List.listExtendWith
  have ho1 : (s.heap.push (seqObj "list" #[] 0)).get? l = some o := Heap.get?_push_of_some _ ho
  refine wpAny_bind (wpAny_typeOf (T := "tuple") ⟨o, ho1, hc⟩ ?_)
  rw [if_pos (by simp)]
  refine wpAny_bind (listItems_at ho1 hd ?_)
  refine wpAny_bind (listItems_at (xs := #[]) (n := 0) (Heap.get?_push_size _ rfl) rfl ?_)
  rw [if_neg (by simp)]
  refine wpAny_bind (listUpdate_at (xs := #[]) (n := 0) (Heap.get?_push_size _ rfl) rfl ?_ (Nat.zero_le _) (by
    show (#[] ++ vs.toArray).size ≤ sizeLine + 1
    rw [Array.size_append, List.size_toArray]
    show 0 + vs.length ≤ sizeLine + 1
    omega))
  refine wpAny_pure ?_
  show wpAny (model P w) A (load s.heap.objs.size >>= _) _ _ _
  refine wpAny_bind (wpAny_load (get?_update_seq (Heap.get?_push_size _ rfl) _) ?_)
  show wpAny _ _ (pure ((#[] : Array Value) ++ vs.toArray).toList) Q E _
  rw [show ((#[] : Array Value) ++ vs.toArray).toList = vs by simp]
  refine wpAny_pure (hQ _ vs ys (fun b o e => ?_) rfl rfl hv (List.Perm.refl _))
  rw [Heap.get?_update_ne _ _ _ _ (Nat.ne_of_lt (Heap.lt_size e))]
  exact Heap.get?_push_of_some _ e
theorem strs_items {x : Str} {acc : Array Value} (h : ItemsOf (SignAt x) acc x.cps.size) : StrsAre acc.toList (signsOf x) := by
  have key : ∀ (vs : List Value) (ys : List Str), vs.length = ys.length → (∀ i v, vs[i]? = some v → ∃ tk, v = Value.str (ys.getD i Str.empty) tk) → StrsAre vs ys := by
    intro vs
    induction vs with
    | nil =>
      intro ys hl _
      cases ys with
      | nil => exact .nil
      | cons y r => cases hl
    | cons v r ih =>
      intro ys hl hv
      cases ys with
      | nil => cases hl
      | cons y t =>
        obtain ⟨tk, e⟩ := hv 0 v rfl
        rw [e]
        exact .cons y tk (ih t (by simpa using hl) fun i u hu => by simpa using hv (i + 1) u (by simpa using hu))
  refine key _ _ (by rw [Array.length_toList, h.1]; simp [signsOf]) fun i v e => ?_
  obtain ⟨c, tk, hc, rfl⟩ := h.2 i v (by simpa using e)
  refine ⟨tk, ?_⟩
  have q : (signsOf x)[i]? = some ⟨#[c]⟩ := by
    unfold signsOf
    rw [List.getElem?_map, Array.getElem?_toList, hc]
    rfl
  rw [List.getD_eq_getElem?_getD, q]
  rfl
theorem coll_text {x : Str} {t : Tok} (hh : A.handled = none) (hz : x.length ≤ sizeLine) : Coll P w A s (.str x t) (signsOf x) := by
  intro E Q hQ
  refine wpAny_collect_str hh x t (fun s1 acc k g d o h => hQ s1 acc.toList (signsOf x) k g o (strs_items h) (List.Perm.refl _)) hz
theorem coll_set {a : Addr} {L : List Str} (hh : A.handled = none) (R : TxSet w s.heap a L) : Coll P w A s (.ref a) L := by
  intro E Q hQ
  obtain ⟨o, es, ep, t, ho, hex, hd, g, eL, nd, hb, hf, hr, hl⟩ := R
  have hb' : es.size < scanBound := by
    rw [← eL] at hb
    simpa using hb
  refine collect_set hh ⟨o, ho, hex.1, hd⟩ hf hb' hr hl fun s1 out k hz g1 o1 pm => hQ s1 out (out.map strOf) k g1 o1 (strsAre_map out fun v hv => ?_) ?_
  · obtain ⟨e, he, q⟩ := List.mem_map.mp (pm.mem_iff.mp hv)
    obtain ⟨x, tk, e2, _⟩ := g e he
    exact ⟨x, tk, by rw [← q]; exact e2⟩
  · have q := pm.map strOf
    rw [List.map_map] at q
    rw [← eL]
    refine q.trans (List.Perm.of_eq (List.map_congr_left fun e he => ?_))
    obtain ⟨x, tk, e2, _⟩ := g e he
    show strOf e.2 = nameT e
    unfold nameT
    rw [e2]
    rfl
/-- sorted(v) -/
theorem sorted_coll {v : Value} {ys : List Str} {Q : Value → Shared → Prop} (hC : Coll P w A.in1 s v ys) (hz : ys.length ≤ sizeLine)
    (hQ : ∀ s1 p (out : Array Value) (c : Nat), (∀ b o, s.heap.get? b = some o → s1.heap.get? b = some o) → s1.gens = s.gens → s1.os = s.os → s.heap.get? p = none → s1.heap.get? p = some (seqObj "list" out c) → StrsAre out.toList (srt ys) → Q (.ref p) s1) :
    wpAny (model P w) A (call (.builtin "sorted") [v]) Q E s := by
  refine Calls.call_function_entry kind_sorted plain_sorted entry_sorted (args_sorted1 _) ?_
  unfold Builtin.«sorted»
  refine wpAny_bind (m := checkCount "sorted" 1 1 _) (wpAny_pure ?_)
  refine wpAny_bind (hC _ _ fun s1 vs zs k1 g1 o1 hv pm => ?_)
  have hvl : vs.length ≤ sizeLine := by rw [StrsAre.length hv, pm.length_eq]; exact hz
  refine wpAny_bind (wpAny_newList ?_ hvl)
  have hoL : (s1.heap.push (seqObj "list" vs.toArray 0)).get? s1.heap.objs.size = some (seqObj "list" vs.toArray 0) := Heap.get?_push_size _ rfl
  refine wpAny_bind (wpAny_holding (wpAny_call_entry slot_list_sort ⟨_, hoL, rfl⟩ entry_list_sort (list_sort_treeKAny strKind_oneLt hoL hv.keysOf (fun v1 v2 rest e => keyKind_strs (by rw [← e]; exact hv)) hvl fun st hp hs => ⟨_, rfl, ?_⟩) (args_list_sort _)))
  obtain ⟨ss, a1, a2, a3⟩ := sorted_out_str hv hp hs
  obtain ⟨c, hc⟩ := sortedHeap_at (vs := vs) (out := (arrOf st).map (·.2)) hoL
  have free : s.heap.get? s1.heap.objs.size = none := by
    cases q : s.heap.get? s1.heap.objs.size with
    | none => rfl
    | some o => exact absurd (Heap.lt_size (k1 _ _ q)) (Nat.lt_irrefl _)
  have es : ss = srt ys := srt_one (a2.trans pm) (sortedS_pw a3)
  refine wpAny_pure ⟨_, rfl, hQ _ s1.heap.objs.size _ c (fun b u e => ?_) g1 o1 free hc (by rw [← es]; exact a1)⟩
  have q := k1 b u e
  have hlt := Heap.lt_size q
  show (sortedHeap (s1.heap.push (seqObj "list" vs.toArray 0)) s1.heap.objs.size vs _).get? b = some u
  rw [sortedHeap_old (Nat.ne_of_lt hlt) (by rw [size_push']; exact Nat.lt_succ_of_lt hlt)]
  exact Heap.get?_push_of_some _ q
end
theorem there_of {P : Program} {w : World} {H : Hp} {h : Heap} {a : Addr} {o : HO} (x : ObjOk P w H h a o) : ∃ ob, h.get? a = some ob := by
  cases o with
  | lst xs => obtain ⟨_, _, _, _, e⟩ := x; exact ⟨_, e⟩
  | tup xs => obtain ⟨_, _, _, _, e, _⟩ := x; exact ⟨_, e⟩
  | dK kvs => obtain ⟨_, _, _, _, _, _, _, e, _⟩ := x; exact ⟨_, e⟩
  | dT kvs => obtain ⟨_, _, _, _, _, _, _, e, _⟩ := x; exact ⟨_, e⟩
  | set S n => obtain ⟨_, _, _, _, e, _⟩ := x; exact ⟨_, e⟩
  | ins C dx fs => obtain ⟨_, _, _, e, _⟩ := x; exact ⟨_, e⟩
  | own y => exact x
  | xd fs => obtain ⟨_, ⟨_, _, _, e, _⟩, _⟩ := x; exact ⟨_, e⟩
  | rng lo hi => obtain ⟨_, _, _, e⟩ := x; exact ⟨_, e⟩
  | frz ob u => obtain ⟨e, _⟩ := x; exact ⟨_, e⟩
  | tbl ps => exact ⟨_, (show h.get? a = some _ from x)⟩
  | met f y => exact ⟨_, (show h.get? a = some _ from x)⟩
  | ext φ => exact x.2.1
theorem none_of {P : Program} {w : World} {H : Hp} {h : Heap} {a : Addr} (ok : HOk P w H h) (e : h.get? a = none) : H a = none := by
  cases q : H a with
  | none => rfl
  | some o =>
    obtain ⟨ob, e2⟩ := there_of (ok a o q)
    rw [e] at e2
    cases e2
/-- sorted(v) of texts -/
def rSortT (K : PySem.W.Frag) (w : World) : List V → Hp → VK → Prop := fun xs H Q => ∃ v ys, xs = [v] ∧ (TxSrc K H v ys ∨ ∃ a, v = .ref a ∧ H a = some (SetS w a ys)) ∧ ys.length ≤ sizeLine ∧
  ∀ p, H p = none → Q (.ref p) (upd H p (.lst ((srt ys).map V.str)))
theorem strs_vals {us : List Value} {ys : List Str} (h : StrsAre us ys) : Vals (ys.map V.str) us := vals_of_strs h
theorem cr_sortT (hc : X.calm = true) : CallR X (.builtin "sorted") (rSortT X.K X.w) := by
  intro pins s σ H xs us Q I r h
  obtain ⟨v, ys, rfl, hs, hz, q⟩ := h
  cases r with
  | cons rv rn =>
    cases rn
    rename_i u
    have hh : X.A.in1.handled = none := I.ok.hd hc
    have hC : Coll X.prog X.w X.A.in1 s u ys := by
      rcases hs with (⟨x, rfl, rfl, hx⟩ | ⟨a, rfl, h | h⟩) | ⟨a, rfl, h⟩
      · obtain ⟨t, rfl⟩ := rv
        exact coll_text hh hx
      · cases rv
        obtain ⟨its, rv, hl, _⟩ := I.list h
        exact coll_list hl.isList (vals_strs rv) hz
      · cases rv
        obtain ⟨its, rv, hl, _⟩ := I.tuple h
        exact coll_tuple (show s.heap.IsTuple a its.toArray from hl) (vals_strs rv) hz
      · cases rv
        exact coll_set hh (setS_get I h)
    refine sorted_coll hC hz fun s1 p out c k g o free ho hv => ?_
    have hn : H p = none := none_of I.hok free
    have hl : ((srt ys).map V.str).length ≤ sizeLine := by rw [List.length_map, srt_len]; exact hz
    have J : Inv X pins σ (upd H p (.lst ((srt ys).map V.str))) { s with heap := s1.heap, gens := s1.gens, drawn := s1.drawn, toks := s1.toks } :=
      I.call (ch := []) (Un.laidN k free hn) (I.hok.laidN k hn ⟨hl, out.toList, c, strs_vals hv, ho⟩) (by rw [g]; exact I.bare) (fun _ z => nomatch z)
    have e : s1 = { s with heap := s1.heap, gens := s1.gens, drawn := s1.drawn, toks := s1.toks } := by
      cases s1; cases s; cases o; rfl
    rw [e]
    exact ⟨.ref p, _, J, rfl, q p hn⟩
/-- len of a set of texts -/
def rLenSet (w : World) : List V → Hp → VK → Prop := fun xs H Q => ∃ a L, xs = [V.ref a] ∧ H a = some (SetS w a L) ∧ Q (.int (L.length : Nat)) H
theorem cr_lenSet : CallR X (.builtin "len") (rLenSet X.w) := by
  intro pins s σ H xs us Q I r h
  obtain ⟨a, L, rfl, ha, q⟩ := h
  rw [Vals.ref1 r]
  obtain ⟨o, es, ep, t, ho, hex, hd, g, eL, nd, hb, hf, hr, hl⟩ := setS_get I ha
  have e : L.length = es.size := by rw [← eL]; simp
  refine call_len_set ho hex hd hf ?_ ⟨.int _, H, I.tok _, ⟨_, rfl⟩, ?_⟩
  · rw [← e]
    have : L.length < 4096 := hb
    omega
  · rw [← e]; exact q
/-- list(text) -/
def rListT : List V → Hp → VK → Prop := fun xs H Q => ∃ x, xs = [V.str x] ∧ x.length ≤ sizeLine ∧ ∀ p, H p = none → Q (.ref p) (upd H p (.lst ((signsOf x).map V.str)))
theorem cr_listT (hc : X.calm = true) : CallR X (.type "list") rListT := by
  intro pins s σ H xs us Q I r h
  obtain ⟨x, rfl, hx, q⟩ := h
  cases r with
  | cons rv rn =>
    cases rn
    obtain ⟨t, rfl⟩ := rv
    refine call_list_str (I.ok.hd hc) x t (hn := hx) fun h' tk acc c k ho hi => ?_
    have hl : ((signsOf x).map V.str).length ≤ sizeLine := by
      rw [List.length_map]
      show (x.cps.toList.map _).length ≤ sizeLine
      rw [List.length_map, Array.length_toList]
      exact hx
    exact ⟨.ref _, upd H s.heap.objs.size (.lst ((signsOf x).map V.str)), I.laid (t' := tk) k (Nat.le_refl _) ⟨hl, acc.toList, c, strs_vals (strs_items hi), ho⟩, rfl, q _ (I.hok.fresh (Nat.le_refl _))⟩
end
end Fw

set_option maxRecDepth 100000
set_option maxHeartbeats 2000000
/-! Words of my own over the layer: a def's promise with all that a call wants; rules with the written part named; heaps; texts as lists of codes. -/
namespace Fw
open PySem PySem.Spec PyProof.Rows L2
/-- the def that the module's name x stands for keeps the promise sp -/
def Dfn (P : Program) (w : World) (K : PySem.W.Frag) (mg : Str → Option Value) (base : Heap) (CX : CXT) (x : Str) (ps : List Str) (k : Nat) (sp : Sp) : Prop :=
  ∃ f fd, FnOk P w K mg base CX k f fd ps sp ∧ mg x = some (.ref f) ∧ PySem.W.keepIn K (.ref f) = true ∧ Binds K fd ps []
section
variable {X : Cx} {x : Str} {ps : List Str} {k : Nat} {sp : Sp} {e : Expr} {es : List Expr} {t : TA} {p pos : Pos}
theorem pe_d (d : Dfn X.prog X.w X.K X.mg X.base CX0 x ps k sp) (hr : Room k X.A) (hg : Gl X x) (ha : PA X (e :: es) t) (hdb : (x == ("__debug__" : Str)) = false := by decide)
    (he : starEach (e :: es) X.env = (false, eval e X.env) :: starEach es X.env := by rfl) (hpl : (backTo pos (starEach es X.env)).any (·.1) = false := by rfl) : PE X (.Call (.Name x p) (e :: es) [] pos) (tCall sp [] E0 t) := by
  obtain ⟨f, fd, F, hm, hk, hb⟩ := d
  exact pe_call F hr hg hm hk hb .nil pass0 ha hdb he hpl
theorem pe_d0 (d : Dfn X.prog X.w X.K X.mg X.base CX0 x ps k sp) (hr : Room k X.A) (hg : Gl X x) (hdb : (x == ("__debug__" : Str)) = false := by decide) : PE X (.Call (.Name x p) [] [] pos) (tCall sp [] E0 tNil) := by
  obtain ⟨f, fd, F, hm, hk, hb⟩ := d
  exact pe_call0 F hr hg hm hk hb .nil pass0 hdb
end
/-- a constant of the module -/
theorem pe_gs {X : Cx} {x z : Str} {t : Tok} {pos : Pos} (hm : X.mg x = some (.str z t)) (hg : Gl X x := by rfl) (hdb : (x == ("__debug__" : Str)) = false := by decide) : PE X (.Name x pos) (tC (.str z)) := pe_glob hg hm ⟨t, rfl⟩ hdb
theorem pe_gi {X : Cx} {x : Str} {i : Int} {t : Tok} {pos : Pos} (hm : X.mg x = some (.int i t)) (hg : Gl X x := by rfl) (hdb : (x == ("__debug__" : Str)) = false := by decide) : PE X (.Name x pos) (tC (.int i)) := pe_glob hg hm ⟨t, rfl⟩ hdb
/-! ### the rules that read the written part, K named -/
section
variable {X : Cx} (K : PySem.W.Frag) (w : World)
theorem ixL (h : X.K = K := by rfl) : IxR X (rIxL K) := h ▸ ix_list
theorem ixT (h : X.K = K := by rfl) : IxR X (rIxT K) := h ▸ ix_tup
theorem ixQ (h : X.K = K := by rfl) : IxR X (rIx K) := h ▸ ix_seq
theorem slL (h : X.K = K := by rfl) : SlR X (rSlL K) := h ▸ sl_list
theorem slT (h : X.K = K := by rfl) : SlR X (rSlT K) := h ▸ sl_tup
theorem inSeq (h : X.K = K := by rfl) : OpR X (compareOp .In) (rIn K false) := h ▸ op_in_seq
theorem notInSeq (h : X.K = K := by rfl) : OpR X (compareOp .NotIn) (rIn K true) := h ▸ op_notIn_seq
theorem eqD (hu : X.A.units + 64 < cLine) (h : X.K = K := by rfl) : OpR X (compareOp .Eq) (rEqD K) := h ▸ op_eqD hu
theorem neD (hu : X.A.units + 64 < cLine) (h : X.K = K := by rfl) : OpR X (compareOp .NotEq) (rNeD K) := h ▸ op_neD hu
def rLenC (K : PySem.W.Frag) : List V → Hp → VK → Prop := fun xs H Q => ∃ x n, xs = [x] ∧ LenV K x H n ∧ Q (.int n) H
theorem lenC (h : X.K = K := by rfl) : CallR X (.builtin "len") (rLenC K) := h ▸ call_len
def rListOf (K : PySem.W.Frag) : List V → Hp → VK → Prop := fun xs H Q => ∃ p ys, xs = [.ref p] ∧ (SqL K H p ys ∨ SqT K H p ys) ∧ ∀ l, H l = none → Q (.ref l) (upd H l (.lst ys))
theorem listOf (h : X.K = K := by rfl) : CallR X (.type "list") (rListOf K) := h ▸ call_list_of
theorem allC (hc : X.calm = true) (h : X.K = K := by rfl) : CallR X (.builtin "all") (rAll K) := h ▸ cr_all hc
theorem anyC (hc : X.calm = true) (h : X.K = K := by rfl) : CallR X (.builtin "any") (rAny K) := h ▸ cr_any hc
theorem isiC (h : X.K = K := by rfl) : CallR X (.builtin "isinstance") (rIsi K) := h ▸ call_isi
theorem sortT (hc : X.calm = true) (h : X.K = K := by rfl) (h2 : X.w = w := by rfl) : CallR X (.builtin "sorted") (rSortT K w) := h ▸ h2 ▸ cr_sortT hc
theorem setT (hc : X.calm = true) (h : X.K = K := by rfl) (h2 : X.w = w := by rfl) : CallR X (.type "set") (rSetT K w) := h ▸ h2 ▸ cr_setT hc
theorem piL {tg l : Expr} {tl : TE} (hl : PE X l tl) (h : X.K = K := by rfl) : PI X tg l (iList K tl) := h ▸ pi_list hl
theorem piT {tg l : Expr} {tl : TE} (hl : PE X l tl) (h : X.K = K := by rfl) : PI X tg l (iTup K tl) := h ▸ pi_tup hl
theorem enumL {e : Expr} {ta : TA} {p pos tpos : Pos} {elts : List Expr} {kk : Nat} (hm : X.mg "enumerate" = none) (ha : PA X [e] ta) (hg : Gl X "enumerate" := by rfl) (h : X.K = K := by rfl) (hs : starEach [e] X.env = [(false, eval e X.env)] := by rfl) :
    PI X (.Tuple elts kk tpos) (.Call (.Name "enumerate" p) [e] [] pos) (iEnum K ta) := h ▸ pi_enum hg hm ha hs
theorem tupG {es : List Expr} {k : Nat} {t : TGs} {n : Nat} {pos : Pos} (hc : X.calm = true) (hp : PGs X es t) (h : X.K = K := by rfl) (hn : (assignEach es X.env).length = n := by rfl) (hst : (assignEach es X.env).findIdx? (·.1) = none := by rfl) :
    PG X (.Tuple es k pos) (gTup K n t) := h ▸ pg_tup hc hp hn hst
def rJoin (K : PySem.W.Frag) : V → List V → Hp → VK → Prop := fun x xs H Q => ∃ a p, ∃ ys : List Str, x = .str a ∧ xs = [.ref p] ∧ (SqL K H p (ys.map V.str) ∨ SqT K H p (ys.map V.str)) ∧
  (ys.map (·.length)).sum + ys.length * a.length ≤ 16777216 ∧ Q (.str (Txt.join a ys)) H
theorem joinC {o e : Expr} {to te : TE} {apos pos : Pos} (ho : PE X o to) (he : PE X e te) (h : X.K = K := by rfl) (hs : starEach [e] X.env = [(false, eval e X.env)] := by rfl) (hbase : attributeBase o "join" X.env (eval o X.env) = eval o X.env := by rfl) (hline : (apos.endLine == pos.line) = true := by rfl) :
    PE X (.Call (.Attribute o "join" apos) [e] [] pos) (tM1 (rJoin K) to te) := h ▸ pe_join ho he hs hbase hline
theorem revL {e : Expr} {te : TE} {k : Nat} {p1 p2 p3 pos : Pos} (he : PE X e te) (h : X.K = K := by rfl) : PE X (.Subscript e (.Slice none none (some (.UnaryOp .USub (.Constant (.int 1) k p1) p2)) p3) pos) (tRevL K te) := h ▸ pe_revL he
theorem pe_bm' {T : String} {name : Str} {id : String} {r : V → List V → Hp → VK → Prop} {o e : Expr} {es : List Expr} {to : TE} {t : TA} {apos cpos : Pos} (pa : PlainAttrs T) (slot : Slot T name id) (hty : typeOf (.builtin id) = pure (.type "method_descriptor")) (hm : MtR X id r) (ho : PE X o to) (ha : PA X (e :: es) t) (h : X.K = K := by rfl)
    (hbase : attributeBase o name X.env (eval o X.env) = eval o X.env := by rfl)
    (hfew : ((backTo cpos (starEach (e :: es) X.env)).all (fun x => !x.1) && (backToKw cpos (keywordEach [] X.env)).all (fun x => x.1.isSome)
      && decide ((e :: es).length + ([] : List Keyword).length + (if ([] : List Keyword).isEmpty then 0 else 1) < 30)) = true := by rfl)
    (hline : (apos.endLine == cpos.line) = true := by rfl) (hs : starEach (e :: es) X.env = (false, eval e X.env) :: starEach es X.env := by rfl) (hplain : (backTo cpos (starEach es X.env)).any (·.1) = false := by rfl) :
    PE X (.Call (.Attribute o name apos) (e :: es) [] cpos) (tBM K T r to t) := h ▸ pe_bm pa slot hty hm ho ha hbase hfew hline hs hplain
end
/-! ### text * int -/
def timesS (x : Str) (n : Nat) : Str := ⟨(List.replicate n x.cps.toList).flatten.toArray⟩
theorem foldl_cat (x : Array Nat) : ∀ (n : Nat) (acc : Array Nat), ((List.replicate n x).foldl (· ++ ·) acc).toList = acc.toList ++ (List.replicate n x.toList).flatten
  | 0, acc => by simp
  | n + 1, acc => by
    rw [List.replicate_succ, List.foldl_cons, foldl_cat x n]
    simp [List.replicate_succ]
theorem mul_times (x : Str) (k : Int) (hk : 0 ≤ k) : Txt.mul x k = timesS x k.toNat := by
  unfold Txt.mul
  apply str_ext
  by_cases h1 : k < 1
  · have e : k = 0 := by omega
    subst e
    rw [if_pos h1]
    simp [timesS, Str.empty]
  · rw [if_neg h1]
    by_cases h2 : (k == 1 || x.length == 0) = true
    · rw [if_pos h2]
      rcases Bool.or_eq_true_iff.mp h2 with h | h
      · have e : k = 1 := by simpa using h
        subst e
        simp [timesS]
      · have e : x.cps = #[] := by
          have q : x.length = 0 := by simpa using h
          simpa [Str.length] using q
        simp [timesS, e]
    · rw [if_neg h2]
      show ((List.replicate k.toNat x.cps).foldl (· ++ ·) #[]).toList = _
      rw [foldl_cat]
      simp [timesS]
theorem op_mul_str {X : Cx} : OpR X (binaryOp .Mult) (fun x y H Q => ∃ z k, x = .str z ∧ y = .int k ∧ 0 ≤ k ∧ k ≤ 100000 ∧ z.length ≤ 100 ∧ Q (.str (timesS z k.toNat)) H) := by
  intro pins s σ H x y v u Q I rx ry h
  obtain ⟨z, k, rfl, rfl, h0, h1, h2, q⟩ := h
  obtain ⟨t, rfl⟩ := rx
  obtain ⟨t2, rfl⟩ := ry
  refine SB.mul ⟨?_, ?_, ?_⟩ fun t' tk => ⟨.str _, H, I.tok _, ⟨_, rfl⟩, ?_⟩
  · have a : ¬ k < -(2 ^ 63 : Int) := by omega
    have b : ¬ k ≥ 2 ^ 63 := by omega
    rw [decide_eq_false a, decide_eq_false b]
    rfl
  · intro a b
    have hk : 1 ≤ k := by omega
    have : (z.length : Int) ≤ 100 := by omega
    have h3 : 100 ≤ (2 ^ 63 - 1) / k := by
      refine (Int.le_ediv_iff_mul_le (by omega)).mpr ?_
      omega
    omega
  · intro a b
    have : z.length * k.toNat ≤ 100 * 100000 := Nat.mul_le_mul h2 (by omega)
    have e := sizeLine_eq
    unfold Builtin.Str.tooLong
    simp
    omega
  · rw [mul_times z k h0]; exact q

/-! ### heaps -/
/-- all that was tracked stands, but for what is at b -/
def Kb (b : Addr) (H H' : Hp) : Prop := ∀ a o, a ≠ b → H a = some o → H' a = some o
theorem Kb.refl (b : Addr) (H : Hp) : Kb b H H := fun _ _ _ h => h
theorem Kb.trans {b : Addr} {H H1 H2 : Hp} (x : Kb b H H1) (y : Kb b H1 H2) : Kb b H H2 := fun a o n h => y a o n (x a o n h)
theorem Kb.upd {b : Addr} {H H1 : Hp} {o : HO} (x : Kb b H H1) : Kb b H (upd H1 b o) := fun a u n h => by
  rw [upd_ne n]; exact x a u n h
theorem Kb.same {b : Addr} {H H1 : Hp} (x : Same H H1) : Kb b H H1 := fun a o _ h => x a o h
theorem _root_.L2.Same.upd {H : Hp} {p : Addr} {o : HO} (h : H p = none) : Same H (upd H p o) := fun b x e => by
  rw [upd_ne (ne_of_none e h)]
  exact e
/-- an object that is new since H may be written -/
theorem _root_.L2.Same.mut {H H1 : Hp} {p : Addr} {o : HO} (x : Same H H1) (h : H p = none) : Same H (L2.upd H1 p o) := fun b u e => by
  rw [upd_ne (ne_of_none e h)]
  exact x b u e
theorem Kb.new {b : Addr} {H H1 : Hp} {p : Addr} {o : HO} (x : Kb b H H1) (h : H p = none) : Kb b H (L2.upd H1 p o) := fun a u n e => by
  rw [upd_ne (ne_of_none e h)]
  exact x a u n e
theorem Kb.push {b : Addr} {H H1 : Hp} {p : Addr} {o : HO} (x : Kb b H H1) (h : H1 p = none) : Kb b H (L2.upd H1 p o) := fun a u n e => by
  have e1 := x a u n e
  rw [upd_ne (ne_of_none e1 h)]
  exact e1
theorem _root_.L2.Same.push {H H1 : Hp} {p : Addr} {o : HO} (x : Same H H1) (h : H1 p = none) : Same H (L2.upd H1 p o) := fun a u e => by
  have e1 := x a u e
  rw [upd_ne (ne_of_none e1 h)]
  exact e1
theorem len_le_of_nodup {α : Type} [DecidableEq α] : ∀ {m l : List α}, m.Nodup → (∀ c ∈ m, c ∈ l) → m.length ≤ l.length
  | [], _, _, _ => Nat.zero_le _
  | a :: r, l, nd, h => by
    have ha := h a List.mem_cons_self
    obtain ⟨n1, n2⟩ := List.nodup_cons.mp nd
    have ih := len_le_of_nodup (m := r) (l := l.erase a) n2 fun c hc => (List.mem_erase_of_ne (fun (e : c = a) => n1 (e ▸ hc))).mpr (h c (List.mem_cons_of_mem _ hc))
    rw [List.length_erase_of_mem ha] at ih
    have : 0 < l.length := List.length_pos_of_mem ha
    simp only [List.length_cons]
    omega
theorem Kb.freeOf {b p : Addr} {H H1 : Hp} (x : Kb b H H1) (n : p ≠ b) (h : H1 p = none) : H p = none := by
  cases q : H p with
  | none => rfl
  | some o => rw [x p o n q] at h; cases h
theorem Kb.seqL {K : PySem.W.Frag} {b a : Addr} {H H' : Hp} {xs : List V} (x : Kb b H H') (n : a ≠ b) (h : SqL K H a xs) : SqL K H' a xs := by
  rcases h with (h | ⟨o, h⟩) | h
  · exact .inl (.inl (x _ _ n h))
  · exact .inl (.inr ⟨o, x _ _ n h⟩)
  · exact .inr h
theorem _root_.L2.Same.seqT {K : PySem.W.Frag} {a : Addr} {H H' : Hp} {xs : List V} (x : Same H H') (h : SqT K H a xs) : SqT K H' a xs := by
  rcases h with (h | ⟨o, h⟩) | h
  · exact .inl (.inl (x _ _ h))
  · exact .inl (.inr ⟨o, x _ _ h⟩)
  · exact .inr h

/-! ### lists -/
theorem cut_map {α : Type} (f : α → V) (xs : List α) (lo hi : Option Int) : ∃ ys : List α, cutV (xs.map f) lo hi = ys.map f ∧ ys.length ≤ xs.length := by
  refine ⟨(xs.drop (HT.sIx xs.length 0 lo)).take (HT.sIx xs.length xs.length hi - HT.sIx xs.length 0 lo), ?_, ?_⟩
  · unfold cutV
    rw [List.length_map, List.map_take, List.map_drop]
  · simp
    omega
theorem at_int {α : Type} {xs : List α} {i : Int} (h0 : 0 ≤ i) (h1 : i < (xs.length : Int)) : ∃ v, xs[i.toNat]? = some v ∧ atI xs i = some v := by
  have hlt : i.toNat < xs.length := by omega
  refine ⟨xs[i.toNat], List.getElem?_eq_getElem hlt, ?_⟩
  have q := atI_nat (List.getElem?_eq_getElem hlt)
  rw [Int.toNat_of_nonneg h0] at q
  exact q
theorem map_at {α : Type} {f : α → V} {xs : List α} {i : Nat} {v : V} (h : (xs.map f)[i]? = some v) : ∃ x, xs[i]? = some x ∧ v = f x := by
  rw [List.getElem?_map] at h
  cases e : xs[i]? with
  | none => rw [e] at h; cases h
  | some x => rw [e] at h; exact ⟨x, rfl, (Option.some.inj h).symm⟩

/-! ### texts as lists of codes -/
open SX in
theorem signs_S (l : List Nat) : signsOf (S l) = l.map fun c => S [c] := by
  unfold signsOf
  simp
theorem joinL_one (l : List Nat) : TL.joinL [] (l.map fun c => [c]) = l := by
  induction l with
  | nil => rfl
  | cons a r ih =>
    cases r with
    | nil => rfl
    | cons b t =>
      show [a] ++ ([] ++ TL.joinL [] ((b :: t).map fun c => [c])) = a :: b :: t
      rw [ih]
      rfl
open SX in
theorem join_signs (l : List Nat) : Txt.join (S []) (l.map fun c => S [c]) = S l := by
  have e : (l.map fun c => S [c]) = (l.map fun c => [c]).map S := by rw [List.map_map]; rfl
  rw [e, join_S, joinL_one]
open SX in
theorem sum_one (l : List Nat) : ((l.map fun c => S [c]).map (·.length)).sum = l.length := by
  induction l with
  | nil => rfl
  | cons a r ih =>
    rw [List.map_cons, List.map_cons, List.sum_cons, ih]
    show 1 + r.length = r.length + 1
    omega
open SX in
theorem leS_one {a b : Nat} : leS (S [a]) (S [b]) = true ↔ a ≤ b := by
  rw [leS_iff]
  show ¬ ([b] < [a]) ↔ a ≤ b
  rw [List.cons_lt_cons_iff]
  constructor
  · intro h
    exact Nat.le_of_not_lt fun z => h (.inl z)
  · intro h z
    rcases z with z | ⟨_, z⟩
    · omega
    · exact absurd z (List.lt_irrefl _)
open SX in
theorem ups_signs (l : List Nat) : ∃ m : List Nat, ups (l.map fun c => S [c]) = m.map (fun c => S [c]) ∧ m.Pairwise (· < ·) ∧ ∀ c, c ∈ m ↔ c ∈ l := by
  have all : ∀ x ∈ ups (l.map fun c => S [c]), ∃ c, x = S [c] := fun x hx => by
    obtain ⟨c, _, e⟩ := List.mem_map.mp (ups_mem.mp hx)
    exact ⟨c, e.symm⟩
  have key : ∀ xs : List Str, (∀ x ∈ xs, ∃ c, x = S [c]) → ∃ m : List Nat, xs = m.map fun c => S [c] := by
    intro xs
    induction xs with
    | nil => exact fun _ => ⟨[], rfl⟩
    | cons x r ih =>
      intro h
      obtain ⟨c, e⟩ := h x List.mem_cons_self
      obtain ⟨m, em⟩ := ih fun y hy => h y (List.mem_cons_of_mem _ hy)
      exact ⟨c :: m, by rw [e, em]; rfl⟩
  obtain ⟨m, em⟩ := key _ all
  refine ⟨m, em, ?_, fun c => ?_⟩
  · have pw : (m.map fun c => S [c]).Pairwise fun x y => leS x y = true := by rw [← em]; exact srt_pw _
    have nd : (m.map fun c => S [c]).Nodup := by rw [← em]; exact ups_nodup _
    have pw1 : m.Pairwise fun a b => leS (S [a]) (S [b]) = true := List.pairwise_map.mp pw
    have nd1 : m.Pairwise fun a b => S [a] ≠ S [b] := List.pairwise_map.mp nd
    refine (pw1.and nd1).imp fun {a b} h => ?_
    have h1 := leS_one.mp h.1
    have h2 : a ≠ b := fun e => h.2 (by rw [e])
    omega
  · have q : S [c] ∈ ups (l.map fun c => S [c]) ↔ c ∈ l := by
      rw [ups_mem, List.mem_map]
      constructor
      · rintro ⟨d, hd, e⟩
        have e2 := S_inj e
        have e3 : d = c := by simpa using e2
        rw [← e3]; exact hd
      · exact fun h => ⟨c, h, rfl⟩
    rw [← q, em, List.mem_map]
    constructor
    · exact fun h => ⟨c, h, rfl⟩
    · rintro ⟨d, hd, e⟩
      have e2 := S_inj e
      have e3 : d = c := by simpa using e2
      rw [← e3]; exact hd

/-! ### lists of texts as data -/
open SX
def strsV (xs : List (List Nat)) : List V := xs.map fun x => V.str (S x)
def datS (xs : List (List Nat)) : PyData := .list (xs.map fun x => .str (S x))
/-- plain signs -/
def Pl (x : List Nat) : Prop := ∀ c ∈ x, c < 128
theorem strOk_S {x : List Nat} (h : Pl x) : PyData.strOk (S x) = true := by
  unfold PyData.strOk
  simp
  intro c hc
  have := h c hc
  omega
theorem dp_strs {K : PySem.W.Frag} {H : Hp} {a : Addr} {xs : List (List Nat)} (h : SqL K H a (strsV xs)) : Dp K H (.ref a) (datS xs) := by
  refine .lst h ?_
  clear h
  induction xs with
  | nil => exact .nil
  | cons x r ih => exact .cons (.str _) ih
theorem canLay_strs : ∀ {xs : List (List Nat)}, (∀ x ∈ xs, Pl x) → PyData.canLayAll0 (xs.map fun x => .str (S x)) = true
  | [], _ => rfl
  | x :: r, h => by
    show (PyData.canLay0 (.str (S x)) && PyData.canLayAll0 (r.map fun x => .str (S x))) = true
    rw [canLay_strs fun y hy => h y (List.mem_cons_of_mem _ hy)]
    show (PyData.strOk (S x) && true) = true
    rw [strOk_S (h x List.mem_cons_self)]
    rfl
theorem depth_strs : ∀ xs : List (List Nat), PyData.depthAll (xs.map fun x => .str (S x)) = 0
  | [] => rfl
  | x :: r => by
    show max 0 (PyData.depthAll (r.map fun x => .str (S x))) = 0
    rw [depth_strs r]
    rfl
theorem shaped_strs {xs : List (List Nat)} (h : ∀ x ∈ xs, Pl x) : SeqAt.shaped (datS xs) = true := by
  unfold SeqAt.shaped datS
  have e1 : PyData.canLay0 (.list (xs.map fun x => .str (S x))) = true := canLay_strs h
  have e2 : PyData.depth (.list (xs.map fun x => .str (S x))) = 1 := by
    show PyData.depthAll (xs.map fun x => .str (S x)) + 1 = 1
    rw [depth_strs]
  rw [e1, e2]
  rfl
theorem eqv_strs : ∀ xs ys : List (List Nat), PyData.eqvAll (xs.map fun x => .str (S x)) (ys.map fun x => .str (S x)) = decide (xs = ys)
  | [], [] => rfl
  | [], _ :: _ => rfl
  | _ :: _, [] => rfl
  | x :: xs, y :: ys => by
    show ((S x == S y) && PyData.eqvAll (xs.map fun x => .str (S x)) (ys.map fun x => .str (S x))) = _
    rw [eqv_strs xs ys, S_beq_eq]
    by_cases a : x = y
    · by_cases b : xs = ys
      · simp [a, b]
      · simp [a, b]
    · simp [a]
theorem eqv_datS (xs ys : List (List Nat)) : PyData.eqv (datS xs) (datS ys) = decide (xs = ys) := by
  show PyData.eqv (.list (xs.map fun x => .str (S x))) (.list (ys.map fun x => .str (S x))) = _
  rw [PyData.eqv]
  exact eqv_strs xs ys
/-! ### isinstance of built-in types -/
theorem isi_ok {K : PySem.W.Frag} {H : Hp} {x : V} {a b : String} {r : Bool} {Q : VK} (ht : TyOf K H x (.type a)) (q : Q (.bl r) H) (h : kitB a b = some r := by decide +kernel) : rIsi K [x, .ty b] H Q :=
  ⟨x, .ty b, _, _, r, rfl, .ty b, .base ht, kit_ty h, q⟩
theorem str_eq {Q : VK} {z y : Str} {H : Hp} (e : z = y) (q : Q (.str y) H) : Q (.str z) H := by rw [e]; exact q
/-- what is read of a list stays while a new object changes -/
theorem seqL_fresh {K : PySem.W.Frag} {a b : Addr} {H H' : Hp} {xs : List V} (h : SqL K H a xs) (nb : H b = none) (k : Kb b H H') : SqL K H' a xs := by
  rcases h with (h | ⟨o, h⟩) | h
  · exact .inl (.inl (k _ _ (ne_of_none h nb) h))
  · exact .inl (.inr ⟨o, k _ _ (ne_of_none h nb) h⟩)
  · exact .inr h
theorem times_one (c n : Nat) : timesS (S [c]) n = S (List.replicate n c) := by
  unfold timesS
  apply str_ext
  show (List.replicate n [c]).flatten = List.replicate n c
  induction n with
  | zero => rfl
  | succ n ih => rw [List.replicate_succ, List.flatten_cons, ih]; rfl
theorem _root_.L2.Same.kb {b : Addr} {H H' : Hp} (x : Same H H') : Kb b H H' := fun a o _ h => x a o h
/-- a new object of the call's own changes, all else stands -/
theorem Kb.sameOf {b : Addr} {H H1 H2 : Hp} (x : Same H H1) (nb : H b = none) (k : Kb b H1 H2) : Same H H2 := fun a o h => k a o (ne_of_none h nb) (x a o h)
theorem ne_self (xs : List (List Nat)) : V.bl (!PyData.eqv (datS xs) (datS xs)) = V.bl false := by rw [eqv_datS, decide_eq_true rfl]; rfl
theorem eq_self (xs : List (List Nat)) : V.bl (PyData.eqv (datS xs) (datS xs)) = V.bl true := by rw [eqv_datS, decide_eq_true rfl]
end Fw

set_option maxRecDepth 100000
set_option maxHeartbeats 2000000
/-! The items of a text, in plain lists of codes. -/
namespace Fw
def digL : List Nat := [48, 49, 50, 51, 52, 53, 54, 55, 56, 57]
def charsL : List Nat := [39, 45] ++ (List.range 26).map (· + 65) ++ (List.range 26).map (· + 97)
/-- 1: a letter, 2: a digit, 0: any other sign -/
def kin (ls : List Nat) (c : Nat) : Nat := if c ∈ ls then 1 else if c ∈ digL then 2 else 0
def snoc1 : List (List Nat) → Nat → List (List Nat)
  | [], c => [[c]]
  | [x], c => [x ++ [c]]
  | x :: y :: r, c => x :: snoc1 (y :: r) c
theorem snoc1_app (its : List (List Nat)) (x : List Nat) (c : Nat) : snoc1 (its ++ [x]) c = its ++ [x ++ [c]] := by
  induction its with
  | nil => rfl
  | cons a r ih =>
    cases r with
    | nil => rfl
    | cons b t => show a :: snoc1 (b :: t ++ [x]) c = _; rw [ih]; rfl
def step1 (ls : List Nat) (st : List (List Nat) × Nat) (c : Nat) : List (List Nat) × Nat :=
  if kin ls c = 0 then (st.1, 0) else if kin ls c = st.2 then (snoc1 st.1 c, kin ls c) else (st.1 ++ [[c]], kin ls c)
def scan (ls : List Nat) (st : List (List Nat) × Nat) (t : List Nat) : List (List Nat) × Nat := t.foldl (step1 ls) st
/-- the items of a text -/
def itemsF (ls t : List Nat) : List (List Nat) := (scan ls ([], 0) t).1
theorem scan_app (ls : List Nat) (st : List (List Nat) × Nat) (a b : List Nat) : scan ls st (a ++ b) = scan ls (scan ls st a) b := List.foldl_append
theorem scan_snoc (ls : List Nat) (st : List (List Nat) × Nat) (a : List Nat) (c : Nat) : scan ls st (a ++ [c]) = step1 ls (scan ls st a) c := by
  rw [scan_app]; rfl
theorem scan_gap {ls : List Nat} : ∀ {g : List Nat} {its : List (List Nat)} {k : Nat}, (∀ c ∈ g, kin ls c = 0) → scan ls (its, k) g = (its, if g = [] then k else 0)
  | [], its, k, _ => rfl
  | c :: r, its, k, h => by
    show scan ls (step1 ls (its, k) c) r = _
    have e : step1 ls (its, k) c = (its, 0) := by unfold step1; rw [if_pos (h c List.mem_cons_self)]
    rw [e, scan_gap fun d hd => h d (List.mem_cons_of_mem _ hd)]
    by_cases z : r = []
    · subst z; rfl
    · rw [if_neg z, if_neg (List.cons_ne_nil _ _)]
theorem scan_more {ls : List Nat} {κ : Nat} (hκ : κ ≠ 0) : ∀ {r : List Nat} {its : List (List Nat)} {x : List Nat}, (∀ c ∈ r, kin ls c = κ) → scan ls (its ++ [x], κ) r = (its ++ [x ++ r], κ)
  | [], its, x, _ => by simp [scan]
  | c :: r, its, x, h => by
    have hc := h c List.mem_cons_self
    show scan ls (step1 ls (its ++ [x], κ) c) r = _
    have e : step1 ls (its ++ [x], κ) c = (its ++ [x ++ [c]], κ) := by
      unfold step1
      rw [hc, if_neg hκ, if_pos rfl, snoc1_app]
    rw [e, scan_more hκ fun d hd => h d (List.mem_cons_of_mem _ hd), List.append_assoc]
    rfl
/-- a run of one kind behind another kind is a new item -/
theorem scan_item {ls : List Nat} {κ k : Nat} {its : List (List Nat)} {r : List Nat} (hκ : κ ≠ 0) (hk : k ≠ κ) (hr : r ≠ []) (h : ∀ c ∈ r, kin ls c = κ) : scan ls (its, k) r = (its ++ [r], κ) := by
  cases r with
  | nil => exact absurd rfl hr
  | cons c t =>
    have hc := h c List.mem_cons_self
    show scan ls (step1 ls (its, k) c) t = _
    have e : step1 ls (its, k) c = (its ++ [[c]], κ) := by
      unfold step1
      rw [hc, if_neg hκ, if_neg (fun z => hk z.symm)]
    rw [e, scan_more hκ fun d hd => h d (List.mem_cons_of_mem _ hd)]
    rfl
theorem kin_letter {ls : List Nat} {c : Nat} (h : c ∈ ls) : kin ls c = 1 := if_pos h
theorem kin_digit {ls : List Nat} {c : Nat} (h : c ∉ ls) (hd : c ∈ digL) : kin ls c = 2 := by unfold kin; rw [if_neg h, if_pos hd]
theorem kin_other {ls : List Nat} {c : Nat} (h : c ∉ ls) (hd : c ∉ digL) : kin ls c = 0 := by unfold kin; rw [if_neg h, if_neg hd]
theorem kin_le (ls : List Nat) (c : Nat) : kin ls c = 0 ∨ kin ls c = 1 ∨ kin ls c = 2 := by
  unfold kin
  split
  · exact .inr (.inl rfl)
  · split
    · exact .inr (.inr rfl)
    · exact .inl rfl
/-- where the scan stands in an item, there is one -/
theorem scan_inv (ls : List Nat) : ∀ t : List Nat, (scan ls ([], 0) t).2 ≠ 0 → (scan ls ([], 0) t).1 ≠ [] := by
  intro t
  rcases List.eq_nil_or_concat t with rfl | ⟨r, c, rfl⟩
  · intro h; exact absurd rfl h
  · rw [List.concat_eq_append, scan_snoc]
    generalize scan ls ([], 0) r = st
    unfold step1
    split
    · intro h; exact absurd rfl h
    · split
      · intro _ z
        cases h : st.1 with
        | nil => rw [h] at z; cases z
        | cons a b =>
          rw [h] at z
          cases b with
          | nil => cases z
          | cons d e => cases z
      · intro _ z
        simp at z
theorem char_nodig : ∀ c ∈ charsL, c ∉ digL := by decide +kernel
theorem snoc1_len (its : List (List Nat)) (c : Nat) : (snoc1 its c).length ≤ its.length + 1 := by
  rcases List.eq_nil_or_concat its with rfl | ⟨r, x, rfl⟩
  · exact Nat.le_refl _
  · rw [List.concat_eq_append, snoc1_app]
    simp
theorem scan_len (ls t : List Nat) : (scan ls ([], 0) t).1.length ≤ t.length := by
  suffices h : ∀ (t : List Nat) (st : List (List Nat) × Nat), (scan ls st t).1.length ≤ st.1.length + t.length by simpa using h t ([], 0)
  intro t
  induction t with
  | nil => intro st; exact Nat.le_refl _
  | cons c r ih =>
    intro st
    have h1 := ih (step1 ls st c)
    have h2 : (step1 ls st c).1.length ≤ st.1.length + 1 := by
      unfold step1
      split
      · exact Nat.le_succ _
      · split
        · exact snoc1_len _ _
        · simp
    show (scan ls (step1 ls st c) r).1.length ≤ st.1.length + (r.length + 1)
    omega
theorem scan_kin (ls t : List Nat) : (scan ls ([], 0) t).2 = 0 ∨ (scan ls ([], 0) t).2 = 1 ∨ (scan ls ([], 0) t).2 = 2 := by
  rcases List.eq_nil_or_concat t with rfl | ⟨r, c, rfl⟩
  · exact .inl rfl
  · rw [List.concat_eq_append, scan_snoc]
    have h := kin_le ls c
    unfold step1
    split
    · exact .inl rfl
    · split <;> exact h
theorem scan_chars (ls t : List Nat) : ∀ x ∈ (scan ls ([], 0) t).1, x.length ≤ t.length := by
  suffices h : ∀ (t : List Nat) (st : List (List Nat) × Nat) (n : Nat), (∀ x ∈ st.1, x.length ≤ n) → ∀ x ∈ (scan ls st t).1, x.length ≤ n + t.length by
    intro x hx
    have := h t ([], 0) 0 (by simp) x hx
    omega
  intro t
  induction t with
  | nil => intro st n h x hx; have := h x hx; simpa using this
  | cons c r ih =>
    intro st n h x hx
    have h2 : ∀ y ∈ (step1 ls st c).1, y.length ≤ n + 1 := by
      intro y hy
      unfold step1 at hy
      split at hy
      · exact Nat.le_succ_of_le (h y hy)
      · split at hy
        · rcases List.eq_nil_or_concat st.1 with e | ⟨r2, z, e⟩
          · rw [e] at hy
            have : y = [c] := by simpa [snoc1] using hy
            rw [this]; simp
          · rw [e, List.concat_eq_append, snoc1_app] at hy
            rcases List.mem_append.mp hy with q | q
            · exact Nat.le_succ_of_le (h y (by rw [e, List.concat_eq_append]; exact List.mem_append_left _ q))
            · have := h z (by rw [e, List.concat_eq_append]; simp)
              rw [List.mem_singleton.mp q]
              simp
              omega
        · rcases List.mem_append.mp hy with q | q
          · exact Nat.le_succ_of_le (h y q)
          · rw [List.mem_singleton.mp q]; simp
    have := ih (step1 ls st c) (n + 1) h2 x hx
    simp only [List.length_cons]
    omega
def signsL : List Nat := ((List.range 95).map (· + 32)).filter (· ≠ 37)
/-- letters of a chain -/
structure Letters (ls : List Nat) : Prop where
  ne : ls ≠ []
  len : ls.length ≤ 4
  up : ls.Pairwise (· < ·)
  ch : ∀ c ∈ ls, c ∈ charsL
theorem Letters.nodig {ls : List Nat} (h : Letters ls) : ∀ c ∈ ls, c ∉ digL := fun c hc => char_nodig c (h.ch c hc)
theorem char_lt : ∀ c ∈ charsL, c < 128 := by decide +kernel
theorem dig_lt : ∀ c ∈ digL, c < 128 := by decide +kernel
theorem sign_lt : ∀ c ∈ signsL, c < 128 := by decide +kernel
theorem Letters.pl {ls : List Nat} (h : Letters ls) : Pl ls := fun c hc => char_lt c (h.ch c hc)
theorem items_run {ls r : List Nat} {κ : Nat} (hκ : κ ≠ 0) (hr : r ≠ []) (h : ∀ c ∈ r, kin ls c = κ) : itemsF ls r = [r] := by
  unfold itemsF
  rw [scan_item (k := 0) hκ (fun e => hκ e.symm) hr h]
  rfl
theorem kin_12 {ls : List Nat} (h : Letters ls) : (∀ c ∈ [49, 50], kin ls c = 2) := by
  intro c hc
  have hd : c ∈ digL := by
    rcases List.mem_cons.mp hc with e | e
    · rw [e]; decide
    · rw [List.mem_singleton.mp e]; decide
  exact kin_digit (fun z => h.nodig c z hd) hd
end Fw

set_option maxRecDepth 100000
set_option maxHeartbeats 4000000
namespace La
open PySem PySem.Spec PyProof.Rows L2 Fw SX
def topS (i : Nat) : Stmt := PySem.Challenge.pw_foundaswritten_k04_items_of_texts.main.body.getD i (.Pass ⟨0, 0, 0, 0⟩)
/-! ### the law's own draws -/
/-- a bag: what is left of the cell, whether it is used, the rest -/
def IsBag (H : Hp) (b : Addr) : Prop := ∃ c f r : Int, H b = some (.lst [.int c, .int f, .int r])
def spBag (K : PySem.W.Frag) : Sp := fun vs H Q _ => ∃ (a : Addr) (ns : List Int) (k : Int), vs = [.ref a, .int k] ∧ SqL K H a (ns.map V.int) ∧ 0 ≤ k ∧
  ∀ b H', H b = none → Same H H' → IsBag H' b → Q (.ref b) H'
def spDraw : Sp := fun vs H Q _ => ∃ (b : Addr) (m : Int), vs = [.ref b, .int m] ∧ IsBag H b ∧ 0 < m ∧ m < 2 ^ 200 ∧
  ∀ i H', 0 ≤ i → i < m → Kb b H H' → IsBag H' b → Q (.int i) H'
abbrev s_law_bag : Stmt := topS 4
abbrev N_law_bag : List Str := ["_law_script", "_law_k", "_law_cell", "_law_rest", "_law_one"]
theorem sc_law_bag : FnScope N_law_bag ["_law_script", "_law_k"] (defScope s_law_bag) := ⟨rfl, rfl, rfl, by decide +kernel, rfl, by decide +kernel, by decide +kernel⟩
abbrev s_law_draw : Stmt := topS 5
abbrev N_law_draw : List Str := ["_law_bag_here", "_law_many", "_law_digit"]
theorem sc_law_draw : FnScope N_law_draw ["_law_bag_here", "_law_many"] (defScope s_law_draw) := ⟨rfl, rfl, rfl, by decide +kernel, rfl, by decide +kernel, by decide +kernel⟩
section
variable {P : Program} {w : World} {K : PySem.W.Frag} {mg : Str → Option Value} {base : Heap} {f : Addr} {fd : FuncData} {k : Nat}
abbrev FnP (K : PySem.W.Frag) (x : Str) (st : Stmt) (f : Addr) (fd : FuncData) : Prop := FunD K x x (defArgs st) (defBody st) (defScope st) [] [] f fd
theorem small_mul (i j : Int) (h : -(2 ^ 64) < j ∧ j < 2 ^ 64) : CMul i j := .inr h
theorem div_ok {i j : Int} (h : 0 < j) (h2 : j < 2 ^ 200) : CDivW i j := wide_div (b := 200) h (by omega) (by decide) (by decide)
theorem ok_draw (F : FnP K "_law_draw" s_law_draw f fd) (m_int : mg "int" = none) : FnOk P w K mg base CX0 (k + 1) f fd ["_law_bag_here", "_law_many"] spDraw := by
  refine F.ok sc_law_draw (fun vs H Q E h => ?_) (fun cdv A outer s H vs Q E hr h => ⟨_, PSs.nox (pss_cons (ps_if (PW.pt (pw_and (pt_cmpR op_eq (pe_ix (ixL K) (pv 0) pe_int (fun _ _ => rfl)) pe_int (nomark _)) (pw_and1 (pt_cmpR op_gt (pe_ix (ixL K) (pv 0) pe_int (fun _ _ => rfl)) pe_int (nomark _))))) (pss_cons (ps_set (i := 2) sc_law_draw.nd rfl (Or.inl rfl) (pe_op op_mod (pe_callTy call_int1 (by rfl) m_int (by decide +kernel) (pa_cons (pe_ix (ixL K) (pv 0) pe_int (fun _ _ => rfl)) pa_nil)) (pv 1)))
      (pss_cons (ps_asg (pe_op op_fdivW (pe_ix (ixL K) (pv 0) pe_int (fun _ _ => rfl)) (pv 1)) (pg_sub (pv 0) pe_int set_list))
      (pss_one (ps_ret (pv 2))))) pss_nil)
      (pss_cons (ps_asg (pe_op op_mod (pe_callTy call_int1 (by rfl) m_int (by decide +kernel) (pa_cons (pe_op op_add (pe_op op_mul (pe_ix (ixL K) (pv 0) pe_int (fun _ _ => rfl)) pe_int) pe_int) pa_nil)) pe_int) (pg_sub (pv 0) pe_int set_list))
      (pss_one (ps_ret (pe_op op_mod (pe_op op_mod (pe_callTy call_int1 (by rfl) m_int (by decide +kernel) (pa_cons (pe_op op_add (pe_op op_mul (pe_op op_fdivW (pe_ix (ixL K) (pv 0) pe_int (fun _ _ => rfl)) pe_int) pe_int) (pe_ix (ixL K) (pv 0) pe_int (fun _ _ => rfl))) pa_nil)) pe_int) (pv 1)))))), ?_⟩)
  · obtain ⟨b, m, rfl, _⟩ := h
    rfl
  · obtain ⟨b, m, rfl, ⟨c, u, r, hb⟩, h0, h1, q⟩ := h
    have more : ∀ c u r : Int, IsBag (upd H b (.lst [.int c, .int u, .int r])) b := fun c u r => ⟨c, u, r, upd_same⟩
    refine ⟨.ref b, rfl, b, _, 1, .int u, rfl, rfl, SqL.of hb, rfl, rfl, _, rfl, ite2 (fun e => ⟨.ref b, rfl, b, _, 0, .int c, rfl, rfl, SqL.of hb, rfl, _, _, rfl, rfl, _, rfl, ite2 (fun e2 => ?fast) (fun e2 => ?_)⟩) (fun e => ?_)⟩
    case fast =>
      refine ⟨_, rfl, _, _, 0, .int c, rfl, rfl, SqL.of hb, rfl, .inl ⟨_, rfl, _, rfl, _, _, rfl, rfl, h0, ?_⟩⟩
      refine ⟨_, rfl, _, _, 0, .int c, rfl, rfl, SqL.of hb, rfl, _, rfl, _, _, rfl, rfl, div_ok h0 h1, _, rfl, _, _, 0, 0, rfl, rfl, hb, rfl, ?_⟩
      refine ⟨_, rfl, q _ _ (Int.emod_nonneg _ (by omega)) (Int.emod_lt_of_pos _ h0) (Kb.refl b H).upd (more _ _ _)⟩
    all_goals
      refine ⟨_, rfl, _, _, 2, .int r, rfl, rfl, SqL.of hb, rfl, _, _, rfl, rfl, small_mul _ _ (by decide), _, _, rfl, rfl, .inl ⟨_, rfl, _, _, rfl, rfl, (by show (0 : Int) < 2147483563; decide), _, rfl, _, _, 2, 2, rfl, rfl, hb, rfl, ?_⟩⟩
      refine ⟨_, rfl, _, _, 2, _, rfl, rfl, SqL.of upd_same, rfl, _, _, rfl, rfl, div_ok (by decide) (by decide), _, _, rfl, rfl, small_mul _ _ (by decide), _, rfl, _, _, 2, _, rfl, rfl, SqL.of upd_same, rfl, _, _, rfl, rfl, .inl ⟨_, rfl, _, _, rfl, rfl, (by show (0 : Int) < 2147483399; decide), _, rfl, _, _, rfl, rfl, h0, ?_⟩⟩
      exact q _ _ (Int.emod_nonneg _ (by omega)) (Int.emod_lt_of_pos _ h0) (Kb.refl b H).upd (more _ _ _)
theorem ok_bag (F : FnP K "_law_bag" s_law_bag f fd) (m_int : mg "int" = none) (m_len : mg "len" = none) : FnOk P w K mg base CX0 (k + 1) f fd ["_law_script", "_law_k"] (spBag K) := by
  refine F.ok sc_law_bag (fun vs H Q E h => ?_) (fun cdv A outer s H vs Q E hr h => ⟨_, PSs.nox (pss_cons (ps_set (i := 2) sc_law_bag.nd rfl (Or.inl rfl) (pe_ifExp (pt_cmpR op_lt (pv 1) (pe_callB (lenC K) (by rfl) m_len (by decide +kernel) (pa_cons (pv 0) pa_nil)) (nomark _)) (pe_ix (ixL K) (pv 0) (pv 1) (fun _ _ => rfl)) pe_int))
      (pss_cons (ps_set (i := 3) sc_law_bag.nd rfl (Or.inl rfl) (pe_op op_add (pv 1) pe_int))
      (pss_cons (ps_for PassesOwn.never rfl (piL K (pe_slice (slL K) (pv 0) po_none (po_some pe_int))) (pg_name (i := 4) sc_law_bag.nd rfl (Or.inl rfl))
        (pss_one (ps_set (i := 3) sc_law_bag.nd rfl (Or.inl rfl) (pe_op op_mod (pe_callTy call_int1 (by rfl) m_int (by decide +kernel) (pa_cons (pe_op op_add (pe_op op_mul (pv 3) pe_int) (pv 4)) pa_nil)) pe_int))))
      (pss_one (ps_ret (pe_lst (pa_cons (pv 2) (pa_cons (pe_callTy call_int1 (by rfl) m_int (by decide +kernel) (pa_cons (pe_cmpR op_ge (pv 2) (pe_op op_pow pe_int pe_int) (nomark _)) pa_nil)) (pa_cons (pv 3) pa_nil))))))))), ?_⟩)
  · obtain ⟨b, m, k, rfl, _⟩ := h
    rfl
  · obtain ⟨a, ns, k, rfl, hS, h0, q⟩ := h
    refine ⟨_, rfl, _, rfl, _, _, rfl, .inl ⟨_, hS, rfl⟩, _, _, rfl, rfl, _, rfl, ite2 (fun e1 => ?one) (fun e1 => ?two)⟩
    case' one =>
      have hk : k < ((ns.map V.int).length : Int) := of_decide_eq_true e1
      obtain ⟨v, hv, ha⟩ := at_int h0 hk
      obtain ⟨z, _, rfl⟩ := map_at hv
      refine ⟨_, rfl, _, rfl, _, _, k, _, rfl, rfl, hS, ha, ?_⟩
    all_goals
      refine ⟨_, rfl, _, _, rfl, rfl, ?_⟩
      obtain ⟨ms, em, _⟩ := cut_map V.int ns none (some 63)
      refine ⟨_, rfl, 63, rfl, _, _, rfl, hS, fun c nc => ⟨c, rfl, ⟨_, SqL.of upd_same⟩, ?_⟩⟩
      rw [em]
      refine for_it (walk_list (xs := ms.map V.int)) (fun i σ H2 => ∃ (rest : Int) (y : Option V), σ = [some (.ref a), some (.int k), _, some (.int rest), y] ∧ H2 = upd H c (.lst (ms.map V.int))) ⟨_, _, rfl, rfl⟩ (fun i σ H2 _ h => ?_) (fun i x σ H2 H3 hi h y => ?_) (fun σ H2 h => ?_)
      · obtain ⟨rest, y, rfl, rfl⟩ := h
        exact SqL.of upd_same
      · obtain ⟨rest, y0, rfl, rfl⟩ := h
        obtain ⟨rfl, hx⟩ := y
        obtain ⟨z1, _, rfl⟩ := map_at hx
        exact ⟨_, rfl, _, _, rfl, rfl, small_mul _ _ (by decide), _, rfl, _, _, rfl, rfl, .inl ⟨_, rfl, _, _, rfl, rfl, (by show (0 : Int) < 2147483647; decide), _, _, rfl, rfl⟩⟩
      · obtain ⟨rest, y0, rfl, rfl⟩ := h
        refine ⟨_, rfl, _, rfl, _, _, rfl, rfl, ⟨by decide, by decide, by decide⟩, _, _, rfl, rfl, .inr ⟨_, rfl, _, rfl, (by show 3 ≤ sizeLine; decide), fun p np => ?_⟩⟩
        have nH : H p = none := by
          have hpc : p ≠ c := fun z => by rw [z, upd_same] at np; cases np
          rw [upd_ne hpc] at np
          exact np
        exact q p _ nH ((Same.upd nc).mut nH) ⟨_, _, _, upd_same⟩
end
/-! ### texts drawn -/
def spChars : Sp := fun vs H Q _ => vs = [] ∧ Q (.str (S charsL)) H
/-- x is walked and indexed sign by sign: cs -/
def SignSrc (K : PySem.W.Frag) (H : Hp) (x : V) (cs : List Nat) : Prop := x = .str (S cs) ∨ ∃ a, x = .ref a ∧ SqL K H a (cs.map fun c => V.str (S [c]))
def spString (K : PySem.W.Frag) : Sp := fun vs H Q _ => ∃ (b : Addr) (x : V) (cs : List Nat) (lo hi : Int), vs = [.ref b, x, .int lo, .int hi] ∧ IsBag H b ∧ SignSrc K H x cs ∧ x ≠ .ref b ∧ 0 < cs.length ∧ cs.length ≤ 100000 ∧
  0 ≤ lo ∧ lo ≤ hi ∧ hi ≤ 100000 ∧ ∀ l H', (∀ c ∈ l, c ∈ cs) → lo ≤ (l.length : Int) → (l.length : Int) ≤ hi → Kb b H H' → IsBag H' b → Q (.str (S l)) H'
abbrev s_law_characters : Stmt := topS 6
abbrev N_law_characters : List Str := []
theorem sc_law_characters : FnScope N_law_characters [] (defScope s_law_characters) := ⟨rfl, rfl, rfl, by decide +kernel, rfl, by decide +kernel, by decide +kernel⟩
abbrev s_law_string : Stmt := topS 8
abbrev N_law_string : List Str := ["_law_bag_here", "_law_signs_here", "_law_least", "_law_most", "_law_size", "_law_k"]
theorem sc_law_string : FnScope N_law_string ["_law_bag_here", "_law_signs_here", "_law_least", "_law_most"] (defScope s_law_string) := ⟨rfl, rfl, rfl, by decide +kernel, rfl, by decide +kernel, by decide +kernel⟩
section
variable {P : Program} {w : World} {K : PySem.W.Frag} {mg : Str → Option Value} {base : Heap} {f : Addr} {fd : FuncData} {k : Nat}
theorem ok_chars (F : FnP K "_law_characters" s_law_characters f fd) : FnOk P w K mg base CX0 (k + 1) f fd [] spChars := by
  refine F.ok sc_law_characters (fun vs H Q E h => ?_) (fun cdv A outer s H vs Q E hr h => ⟨_, PSs.nox (pss_one (ps_ret pe_str)), ?_⟩)
  · obtain ⟨rfl, _⟩ := h
    rfl
  · obtain ⟨rfl, q⟩ := h
    have e : (PySem.Str.ofString "'-ABCDEFGHIJKLMNOPQRSTUVWXYZabcdefghijklmnopqrstuvwxyz") = S charsL := by decide +kernel
    show Q (.str (PySem.Str.ofString "'-ABCDEFGHIJKLMNOPQRSTUVWXYZabcdefghijklmnopqrstuvwxyz")) H
    rw [e]
    exact q
theorem SignSrc.keep {b : Addr} {H H' : Hp} {x : V} {cs : List Nat} (h : SignSrc K H x cs) (n : x ≠ .ref b) (k : Kb b H H') : SignSrc K H' x cs := by
  rcases h with h | ⟨a, rfl, h⟩
  · exact .inl h
  · exact .inr ⟨a, rfl, k.seqL (fun z => n (by rw [z])) h⟩
theorem SignSrc.len {H : Hp} {x : V} {cs : List Nat} (h : SignSrc K H x cs) (hl : cs.length ≤ 100000) : LenV K x H cs.length := by
  have z := sizeLine_eq
  rcases h with rfl | ⟨a, rfl, h⟩
  · exact ⟨by rw [S_len]; omega, (S_len cs).symm⟩
  · exact .inl ⟨_, h, by simp⟩
theorem SignSrc.at_ {H : Hp} {x : V} {cs : List Nat} {i : Int} {Q : VK} (h : SignSrc K H x cs) (hl : cs.length ≤ 100000) (h0 : 0 ≤ i) (h1 : i < (cs.length : Int)) (q : ∀ c, c ∈ cs → Q (.str (S [c])) H) : rIx K x (.int i) H Q := by
  have z := sizeLine_eq
  have hlt : i.toNat < cs.length := by omega
  rcases h with rfl | ⟨a, rfl, h⟩
  · refine .inr (.inr ⟨_, i, cs[i.toNat], rfl, rfl, by rw [S_len]; omega, ?_, q _ (List.getElem_mem hlt)⟩)
    obtain ⟨v, hv, ha⟩ := at_int h0 h1
    rw [List.getElem?_eq_getElem hlt] at hv
    cases hv
    exact ha
  · obtain ⟨v, hv, ha⟩ := at_int (xs := cs.map fun c => V.str (S [c])) h0 (by simpa using h1)
    obtain ⟨c, hc, rfl⟩ := map_at hv
    exact .inl ⟨a, _, i, _, rfl, rfl, h, ha, q c (List.mem_of_getElem? hc)⟩
theorem ok_string (F : FnP K "_law_string" s_law_string f fd) (d_law_draw : Dfn P w K mg base CX0 "_law_draw" ["_law_bag_here", "_law_many"] 1 spDraw) (m_len : mg "len" = none) (m_range : mg "range" = none) :
    FnOk P w K mg base CX0 2 f fd ["_law_bag_here", "_law_signs_here", "_law_least", "_law_most"] (spString K) := by
  have z := sizeLine_eq
  refine F.ok sc_law_string (fun vs H Q E h => ?_) (fun cdv A outer s H vs Q E hr h => ⟨_, PSs.nox (pss_cons (ps_set (i := 4) sc_law_string.nd rfl (Or.inl rfl) (pe_op op_add (pv 2) (pe_d d_law_draw (hr.mono (by decide)) (by rfl) (pa_cons (pv 0) (pa_cons (pe_op op_add (pe_op op_sub (pv 3) (pv 2)) pe_int) pa_nil)))))
      (pss_one (ps_ret (joinC K pe_str (pe_lc (own := [("_law_k", 5)]) rfl sc_law_string.nd (pi_range1 (by rfl) m_range (pa_cons (pv 4) pa_nil)) (blkOk_by (own := [("_law_k", 5)]) (N := N_law_string) (sc := defScope s_law_string) (by decide +kernel)) (fun _ _ _ _ _ => (pg_name (i := 5) sc_law_string.nd rfl (Or.inl rfl))) (fun _ _ _ _ _ => pts_nil) (fun _ _ _ _ _ => (pe_ix (ixQ K) (pv 1) (pe_d d_law_draw (hr.mono (by decide)) (by rfl) (pa_cons (pv 0) (pa_cons (pe_callB (lenC K) (by rfl) m_len (by decide +kernel) (pa_cons (pv 1) pa_nil)) pa_nil))) (fun _ _ => rfl)))))))), ?_⟩)
  · obtain ⟨b, x, cs, lo, hi, rfl, _⟩ := h
    rfl
  · obtain ⟨b, x, cs, lo, hi, rfl, hb, hx, nx, c0, c1, l0, l1, l2, q⟩ := h
    refine ⟨_, rfl, _, rfl, _, rfl, _, rfl, _, _, rfl, rfl, _, _, rfl, rfl, b, _, rfl, hb, (by omega), (by omega), fun i H1 i0 i1 k1 b1 => ⟨_, _, rfl, rfl, ?_⟩⟩
    refine ⟨⟨_, rfl⟩, _, rfl, _, rfl, (by omega), (by omega), fun D nD => ?_⟩
    have nDb : D ≠ b := fun e => by
      obtain ⟨_, _, _, e2⟩ := b1
      rw [e, e2] at nD
      cases nD
    refine lc_it walk_range (fun j H2 => ∃ l : List Nat, l.length = j ∧ (∀ c ∈ l, c ∈ cs) ∧ H2 D = some (.lst (l.map fun c => V.str (S [c]))) ∧ Kb b H H2 ∧ IsBag H2 b)
      ⟨[], rfl, by simp, upd_same, k1.new (k1.freeOf nDb nD), ?_⟩ (fun _ _ _ _ => trivial) (fun j v H2 H3 hj h y => ?_) (fun H2 h => ?_)
    · obtain ⟨c, u, r, e⟩ := b1
      exact ⟨c, u, r, by rw [upd_ne nDb.symm]; exact e⟩
    · obtain ⟨l, hl, hm, hD, hk, hb2⟩ := h
      obtain ⟨rfl, rfl⟩ := y
      have hx2 := hx.keep nx hk
      refine ⟨rfl, _, rfl, _, rfl, _, rfl, _, _, rfl, hx2.len c1, b, _, rfl, hb2, (by omega), (by omega), fun i2 H4 j0 j1 k4 b4 => ?_⟩
      refine (hx2.keep nx k4).at_ c1 j0 j1 fun c hc => ⟨_, k4 D _ nDb hD, ?_, l ++ [c], by simp [hl], ?_, ?_, ?_, ?_⟩
      · rw [List.length_map]; omega
      · intro d hd
        rcases List.mem_append.mp hd with e | e
        · exact hm d e
        · rw [List.mem_singleton.mp e]; exact hc
      · rw [upd_same, List.map_append]; rfl
      · exact (hk.trans k4).new (k1.freeOf nDb nD)
      · obtain ⟨c3, u3, r3, e⟩ := b4
        exact ⟨c3, u3, r3, by rw [upd_ne nDb.symm]; exact e⟩
    · obtain ⟨l, hl, hm, hD, hk, hb2⟩ := h
      have e0 : PySem.Str.ofString "" = S [] := by decide +kernel
      have em : (l.map fun c => V.str (S [c])) = (l.map fun c => S [c]).map V.str := by rw [List.map_map]; rfl
      refine ⟨_, D, l.map fun c => S [c], rfl, rfl, .inl (SqL.of (by rw [← em]; exact hD)), ?_, ?_⟩
      · rw [sum_one, List.length_map, e0, S_len]
        simp
        omega
      · rw [e0, join_signs]
        exact q l H2 hm (by omega) (by omega) hk hb2
end

/-! ### signs, letters -/
def spSigns : Sp := fun vs H Q _ => vs = [] ∧ Q (.str (S signsL)) H
def spLetters : Sp := fun vs H Q _ => ∃ b, vs = [.ref b] ∧ IsBag H b ∧ ∀ ls H', Letters ls → Kb b H H' → IsBag H' b → Q (.str (S ls)) H'
abbrev s_law_signs : Stmt := topS 7
abbrev N_law_signs : List Str := ["_law_signs_here"]
theorem sc_law_signs : FnScope N_law_signs [] (defScope s_law_signs) := ⟨rfl, rfl, rfl, by decide +kernel, rfl, by decide +kernel, by decide +kernel⟩
abbrev s_law_letters : Stmt := topS 9
abbrev N_law_letters : List Str := ["_law_bag_here"]
theorem sc_law_letters : FnScope N_law_letters ["_law_bag_here"] (defScope s_law_letters) := ⟨rfl, rfl, rfl, by decide +kernel, rfl, by decide +kernel, by decide +kernel⟩
theorem bag_ne {H : Hp} {b p : Addr} (hb : IsBag H b) (np : H p = none) : b ≠ p := by
  obtain ⟨c, u, r, e⟩ := hb
  exact ne_of_none e np
theorem IsBag.keep {H : Hp} {b p : Addr} {o : HO} (hb : IsBag H b) (n : b ≠ p) : IsBag (upd H p o) b := by
  obtain ⟨c, u, r, e⟩ := hb
  exact ⟨c, u, r, by rw [upd_ne n]; exact e⟩
theorem IsBag.new {H : Hp} {b p : Addr} {o : HO} (hb : IsBag H b) (np : H p = none) : IsBag (upd H p o) b := hb.keep (bag_ne hb np)
section
variable {P : Program} {w : World} {K : PySem.W.Frag} {mg : Str → Option Value} {base : Heap} {f : Addr} {fd : FuncData} {k : Nat}
theorem ok_signs (F : FnP K "_law_signs" s_law_signs f fd) : FnOk P w K mg base CX0 (k + 1) f fd [] spSigns := by
  refine F.ok sc_law_signs (fun vs H Q E h => ?_) (fun cdv A outer s H vs Q E hr h => ⟨_, PSs.nox (pss_cons (ps_set (i := 0) sc_law_signs.nd rfl (Or.inl rfl) pe_str)
      (pss_one (ps_ret (pe_op op_add_str (pv 0) pe_str)))), ?_⟩)
  · obtain ⟨rfl, _⟩ := h
    rfl
  · obtain ⟨rfl, q⟩ := h
    exact ⟨_, rfl, _, _, rfl, rfl, by decide +kernel, str_eq (by decide +kernel) q⟩
theorem ok_letters (F : FnP K "_law_letters" s_law_letters f fd) (d_law_string : Dfn P w K mg base CX0 "_law_string" ["_law_bag_here", "_law_signs_here", "_law_least", "_law_most"] 2 (spString K)) (d_law_characters : Dfn P w K mg base CX0 "_law_characters" [] 1 spChars)
    (m_list : mg "list" = none) (m_set : mg "set" = none) (m_sorted : mg "sorted" = none) : FnOk P w K mg base CX0 3 f fd ["_law_bag_here"] spLetters := by
  have z := sizeLine_eq
  refine F.ok sc_law_letters (fun vs H Q E h => ?_) (fun cdv A outer s H vs Q E hr h => ⟨_, PSs.nox (pss_one (ps_ret (joinC K pe_str (pe_callB (sortT K w rfl) (by rfl) m_sorted (by decide +kernel) (pa_cons (pe_callTy (setT K w rfl) (by rfl) m_set (by decide +kernel) (pa_cons (pe_callTy (cr_listT rfl) (by rfl) m_list (by decide +kernel) (pa_cons (pe_d d_law_string (hr.mono (by decide)) (by rfl) (pa_cons (pv 0) (pa_cons (pe_d0 d_law_characters (hr.mono (by decide)) (by rfl)) (pa_cons pe_int (pa_cons pe_int pa_nil))))) pa_nil)) pa_nil)) pa_nil))))), ?_⟩)
  · obtain ⟨b, rfl, _⟩ := h
    rfl
  · obtain ⟨b, rfl, hb, q⟩ := h
    refine ⟨⟨_, rfl⟩, _, rfl, rfl, b, _, charsL, 1, 4, rfl, hb, .inl rfl, (fun e => nomatch e), by decide, by decide, by decide, by decide, by decide, fun l H1 hm l1 l4 k1 b1 => ?_⟩
    have hl : (S l).length = l.length := S_len l
    obtain ⟨m, em, up, mm⟩ := ups_signs l
    refine ⟨_, rfl, by omega, fun p np => ?_⟩
    refine ⟨_, _, rfl, .inr ⟨p, rfl, .inl (SqL.of upd_same)⟩, ?_, fun p2 L np2 nd mem => ?_⟩
    · rw [signs_S, List.length_map]; omega
    have eL : srt L = m.map fun c => S [c] := by rw [srt_set nd mem, signs_S, em]
    have lL : L.length ≤ 4 := by
      have e1 : L.length = m.length := by rw [← srt_len L, eL, List.length_map]
      have e2 : m.length ≤ l.length := len_le_of_nodup (up.imp fun h => Nat.ne_of_lt h) fun c hc => (mm c).mp hc
      omega
    refine ⟨_, _, rfl, .inr ⟨p2, rfl, upd_same⟩, by omega, fun p3 np3 => ?_⟩
    have lm : m.length ≤ 4 := by
      have e1 : L.length = m.length := by rw [← srt_len L, eL, List.length_map]
      omega
    have e3 : (srt L).map V.str = (m.map fun c => S [c]).map V.str := by rw [eL]
    rw [e3]
    refine ⟨_, p3, m.map fun c => S [c], rfl, rfl, .inl (SqL.of upd_same), ?_, ?_⟩
    · rw [sum_one, List.length_map]
      show m.length + m.length * 0 ≤ 16777216
      omega
    · refine str_eq (y := S m) (by rw [← join_signs m]; rfl) (q m _ ⟨?_, lm, up, fun c hc => hm c ((mm c).mp hc)⟩ ?_ ?_)
      · intro e
        rw [e] at mm
        cases l with
        | nil => simp at l1
        | cons a r => exact absurd ((mm a).mpr List.mem_cons_self) (by simp)
      · exact ((k1.push np).push np2).push np3
      · exact ((b1.new np).new np2).new np3
end

/-! ### items_of -/
def kinS (ls : List Nat) : Nat → List Nat
  | 0 => []
  | 1 => ls
  | _ => digL
def spItems : Sp := fun vs H Q _ => ∃ t ls : List Nat, vs = [.str (S t), .str (S ls)] ∧ t.length ≤ 1000000 ∧ ls ≠ [] ∧ (∀ c ∈ ls, c ∉ digL) ∧
  ∀ p H', H p = none → Same H H' → H' p = some (.lst (strsV (itemsF ls t))) → Q (.ref p) H'
abbrev s_items_of : Stmt := topS 2
abbrev N_items_of : List Str := ["text", "letters", "items", "last", "sign", "kin"]
theorem sc_items_of : FnScope N_items_of ["text", "letters"] (defScope s_items_of) := ⟨rfl, rfl, rfl, by decide +kernel, rfl, by decide +kernel, by decide +kernel⟩
theorem digS : PySem.Str.ofString "0123456789" = S digL := by decide +kernel
theorem nilS : PySem.Str.ofString "" = S [] := by decide +kernel
theorem kinS_inj {ls : List Nat} (h0 : ls ≠ []) (hd : ∀ c ∈ ls, c ∉ digL) {a b : Nat} (ha : a = 0 ∨ a = 1 ∨ a = 2) (hb : b = 0 ∨ b = 1 ∨ b = 2) (h : kinS ls a = kinS ls b) : a = b := by
  have nd : ls ≠ digL := fun e => by
    have := hd 48 (by rw [e]; decide)
    exact this (by decide)
  rcases ha with rfl | rfl | rfl <;> rcases hb with rfl | rfl | rfl <;> first
    | rfl
    | exact absurd h (fun z => h0 z.symm)
    | exact absurd h (fun z => h0 z)
    | exact absurd h nd
    | exact absurd h (fun z => nd z.symm)
    | exact absurd h (by decide)
    | (exact absurd h (by intro z; cases z))
section
variable {P : Program} {w : World} {K : PySem.W.Frag} {mg : Str → Option Value} {base : Heap} {f : Addr} {fd : FuncData} {k : Nat}
theorem ok_items_of (F : FnP K "items_of" s_items_of f fd) {td : Tok} (g_DIGITS : mg "DIGITS" = some (.str (S digL) td)) : FnOk P w K mg base CX0 (k + 1) f fd ["text", "letters"] spItems := by
  have z := sizeLine_eq
  refine F.ok sc_items_of (fun vs H Q E h => ?_) (fun cdv A outer s H vs Q E hr h => ⟨_, PSs.nox (pss_cons (ps_par rfl sc_items_of.nd (i := 2) (j := 3) rfl rfl (by decide) rfl rfl (pa_cons (pe_lst pa_nil) (pa_cons pe_str pa_nil)) (by rfl))
      (pss_cons (ps_for PassesOwn.never rfl (pi_str (pv 0)) (pg_name (i := 4) sc_items_of.nd rfl (Or.inl rfl))
        (C8.pss_cut (ps_set (i := 5) sc_items_of.nd rfl (Or.inl rfl) (pe_ifExp (pt_cmpR op_in_sign (pv 4) (pv 1) rfl) (pv 1) (pe_ifExp (pt_cmpR op_in_sign (pv 4) (pe_gs g_DIGITS) rfl) (pe_gs g_DIGITS) pe_str)))
      (C8.pss_cut (ps_if (PW.pt (pw_and (pt_cmpR op_ne (pv 5) pe_str (nomark _)) (pw_and1 (pt_cmpR op_eq (pv 5) (pv 3) (nomark _))))) (pss_one (ps_asg (pe_op op_add_str (pe_ix (ixL K) (pv 2) (pe_un un_neg pe_int) (fun _ _ => rfl)) (pv 4)) (pg_sub (pv 2) (pe_un un_neg pe_int) set_list))) (pss_one (ps_if (pt_cmpR op_ne (pv 5) pe_str (nomark _)) (pss_one (ps_expr (pe_bm' K PySem.F.plainAttrs_list PySem.F.slot_list_append PySem.F.type_list_append mt_append (pv 2) (pa_cons (pv 4) pa_nil)))) pss_nil)))
      (pss_one (ps_set (i := 3) sc_items_of.nd rfl (Or.inl rfl) (pv 5))))))
      (pss_one (ps_ret (pv 2))))), ?_⟩)
  · obtain ⟨t, ls, rfl, _⟩ := h
    rfl
  · obtain ⟨t, ls, rfl, ht, h0, hd, q⟩ := h
    refine ⟨Nat.zero_le _, fun p np => ⟨_, _, rfl, ?_⟩⟩
    refine ⟨_, rfl, _, rfl, ?_⟩
    refine for_it walk_str (fun i σ H2 => ∃ y4 y5, σ = [some (.str (S t)), some (.str (S ls)), some (.ref p), some (.str (S (kinS ls (scan ls ([], 0) (t.take i)).2))), y4, y5] ∧ Same H H2 ∧ H2 p = some (.lst (strsV (scan ls ([], 0) (t.take i)).1)))
      ⟨none, none, ?_, Same.upd np, upd_same⟩ (fun _ _ _ _ _ => trivial) (fun i v σ H2 H3 hi h y => ?_) (fun σ H2 h => ?_)
    · rw [nilS]; rfl
    · obtain ⟨y4, y5, rfl, sm, hp⟩ := h
      obtain ⟨rfl, c, hc, rfl⟩ := y
      have hc1 : t[i]? = some c := by simpa using hc
      have hi1 : i < t.length := (List.getElem?_eq_some_iff.mp hc1).1
      have et : t.take (i + 1) = t.take i ++ [c] := by rw [List.take_add_one, hc1]; rfl
      have est : scan ls ([], 0) (t.take (i + 1)) = step1 ls (scan ls ([], 0) (t.take i)) c := by rw [et, scan_snoc]
      rw [est]
      have inv := scan_inv ls (t.take i)
      have lenI : (scan ls ([], 0) (t.take i)).1.length ≤ t.length := Nat.le_trans (scan_len ls _) (by simp; omega)
      have chI : ∀ x ∈ (scan ls ([], 0) (t.take i)).1, x.length ≤ t.length := fun x hx => Nat.le_trans (scan_chars ls _ x hx) (by simp; omega)
      have k2 : (scan ls ([], 0) (t.take i)).2 = 0 ∨ (scan ls ([], 0) (t.take i)).2 = 1 ∨ (scan ls ([], 0) (t.take i)).2 = 2 := scan_kin ls _
      generalize scan ls ([], 0) (t.take i) = st at hp inv lenI chI k2 ⊢
      -- kin
      refine ⟨fun σ' H' => σ' = [some (.str (S t)), some (.str (S ls)), some (.ref p), some (.str (S (kinS ls st.2))), some (.str (S [c])), some (.str (S (kinS ls (kin ls c))))] ∧ H' = H3, ?_, fun σ' H' h => ?_⟩
      · refine ⟨_, rfl, _, rfl, _, _, rfl, rfl, _, rfl, ite2 (fun e1 => ⟨_, rfl, ?_, rfl⟩) (fun e1 => ⟨_, rfl, _, _, rfl, rfl, _, rfl, ite2 (fun e2 => ⟨?_, rfl⟩) (fun e2 => ⟨?_, rfl⟩)⟩)⟩
        · rw [kin_letter (of_decide_eq_true e1)]; rfl
        · rw [kin_digit (fun z => e1 (decide_eq_true z)) (of_decide_eq_true e2)]; rfl
        · rw [kin_other (fun z => e1 (decide_eq_true z)) (fun z => e2 (decide_eq_true z)), nilS]; rfl
      · obtain ⟨rfl, rfl⟩ := h
        have kc := kin_le ls c
        have pH : H p = none := np
        refine ⟨fun σ' H' => σ' = [some (.str (S t)), some (.str (S ls)), some (.ref p), some (.str (S (kinS ls st.2))), some (.str (S [c])), some (.str (S (kinS ls (kin ls c))))] ∧ Same H H' ∧ H' p = some (.lst (strsV (step1 ls st c).1)), ?_, fun σ' H' h => ?_⟩
        · have app : kin ls c ≠ 0 → kin ls c ≠ st.2 → step1 ls st c = (st.1 ++ [[c]], kin ls c) := fun a b => by unfold step1; rw [if_neg a, if_neg b]
          have ne0 : ∀ {x : Nat}, (x = 0 ∨ x = 1 ∨ x = 2) → kinS ls x = [] → x = 0 := fun {x} hx e => kinS_inj h0 hd hx (.inl rfl) e
          rw [nilS]
          refine ⟨_, rfl, rfl, _, rfl, ite2 (fun e1 => ?_) (fun e1 => ?_)⟩
          · have hk : kin ls c ≠ 0 := fun z => by
              rw [z] at e1
              simp [kinS] at e1
            refine ⟨_, rfl, _, rfl, rfl, _, rfl, ite2 (fun e2 => ?_) (fun e2 => ?_)⟩
            · have es : kin ls c = st.2 := kinS_inj h0 hd kc k2 (S_inj (V.str.inj (of_decide_eq_true e2)))
              obtain ⟨its, x, ei⟩ : ∃ its x, st.1 = its ++ [x] := by
                rcases List.eq_nil_or_concat st.1 with e | ⟨r, x, e⟩
                · exact absurd e (inv (fun z => hk (es.trans z)))
                · exact ⟨r, x, by rw [e, List.concat_eq_append]⟩
              have e3 : step1 ls st c = (its ++ [x ++ [c]], kin ls c) := by
                unfold step1
                rw [if_neg hk, if_pos es, ei, snoc1_app]
              have hp1 : H' p = some (HO.lst (strsV its ++ [V.str (S x)])) := by rw [hp, ei]; simp [strsV]
              have lx : x.length ≤ t.length := chI x (by rw [ei]; simp)
              refine ⟨_, rfl, _, rfl, _, _, -1, _, rfl, rfl, SqL.of hp1, atI_last _ _, _, rfl, _, _, rfl, rfl, ?_, _, rfl, _, rfl, _, _, -1, (strsV its).length, rfl, rfl, hp1, ?_, rfl, sm.mut pH, ?_⟩
              · rw [S_len, S_len]; simp; omega
              · unfold ixN; simp; omega
              · rw [upd_same, e3, S_cat]
                simp [strsV]
            · have n2 : kin ls c ≠ st.2 := fun z => e2 (decide_eq_true (by rw [z]))
              refine ⟨_, rfl, rfl, _, rfl, ite2 (fun e3 => ?_) (fun e3 => absurd e1 e3)⟩
              refine ⟨_, rfl, .inl ⟨rfl, _, SqL.of hp⟩, _, rfl, _, _, _, rfl, rfl, hp, ?_, rfl, sm.mut pH, ?_⟩
              · simp [strsV]; omega
              · rw [upd_same, app hk n2]
                simp [strsV]
          · have hk : kin ls c = 0 := ne0 kc (by
              have e2 : decide (V.str (S (kinS ls (kin ls c))) = V.str (S [])) = true := by simpa using e1
              exact S_inj (V.str.inj (of_decide_eq_true e2)))
            have e3 : step1 ls st c = (st.1, 0) := by unfold step1; rw [if_pos hk]
            refine ⟨_, rfl, rfl, _, rfl, ite2 (fun e2 => absurd e2 e1) (fun e2 => ⟨rfl, sm, ?_⟩)⟩
            rw [e3]; exact hp
        · obtain ⟨rfl, sm2, hp2⟩ := h
          refine ⟨_, rfl, some (.str (S [c])), some (.str (S (kinS ls (kin ls c)))), ?_, sm2, hp2⟩
          have e4 : (step1 ls st c).2 = kin ls c := by
            unfold step1
            split
            · rename_i h; exact h.symm
            · split <;> rfl
          rw [e4]
          rfl
    · obtain ⟨y4, y5, rfl, sm, hp⟩ := h
      have e : t.take (S t).cps.size = t := by
        rw [List.take_of_length_le]
        exact Nat.le_of_eq rfl
      rw [e] at hp
      exact ⟨_, rfl, q p _ np sm hp⟩
end

/-! ### items drawn -/
structure IsItem (ls : List Nat) (n : Nat) (x : List Nat) : Prop where
  ne : x ≠ []
  len : x.length ≤ n
  of : (∀ c ∈ x, c ∈ ls) ∨ ∀ c ∈ x, c ∈ digL
def kd (ls x : List Nat) : Nat := kin ls (x.headD 0)
theorem IsItem.kd_all {ls x : List Nat} {n : Nat} (h : IsItem ls n x) (hl : Letters ls) : (∀ c ∈ x, kin ls c = kd ls x) ∧ kd ls x ≠ 0 := by
  obtain ⟨a, r, rfl⟩ : ∃ a r, x = a :: r := by
    cases x with
    | nil => exact absurd rfl h.ne
    | cons a r => exact ⟨a, r, rfl⟩
  show (∀ c ∈ a :: r, kin ls c = kin ls a) ∧ kin ls a ≠ 0
  rcases h.of with o | o
  · have e : ∀ c ∈ a :: r, kin ls c = 1 := fun c hc => kin_letter (o c hc)
    have ea := e a List.mem_cons_self
    exact ⟨fun c hc => by rw [e c hc, ea], by rw [ea]; decide⟩
  · have e : ∀ c ∈ a :: r, kin ls c = 2 := fun c hc => kin_digit (fun z => hl.nodig c z (o c hc)) (o c hc)
    have ea := e a List.mem_cons_self
    exact ⟨fun c hc => by rw [e c hc, ea], by rw [ea]; decide⟩
theorem IsItem.pl {ls x : List Nat} {n : Nat} (h : IsItem ls n x) (hl : Letters ls) : Pl x := fun c hc => by
  rcases h.of with o | o
  · exact hl.pl c (o c hc)
  · exact dig_lt c (o c hc)
def spItemsG : Sp := fun vs H Q _ => ∃ (b : Addr) (ls : List Nat) (most longest : Int), vs = [.ref b, .str (S ls), .int most, .int longest] ∧ IsBag H b ∧ Letters ls ∧ 0 ≤ most ∧ most ≤ 1000 ∧ 1 ≤ longest ∧ longest ≤ 1000 ∧
  ∀ p its H', H p = none → (its.length : Int) ≤ most → (∀ x ∈ its, IsItem ls longest.toNat x) → Kb b H H' → IsBag H' b → H' p = some (.lst (strsV its)) → Q (.ref p) H'
abbrev s_law_items : Stmt := topS 10
abbrev N_law_items : List Str := ["_law_bag_here", "_law_letters_here", "_law_most", "_law_longest", "_law_items_here", "_law_k", "_law_signs_here"]
theorem sc_law_items : FnScope N_law_items ["_law_bag_here", "_law_letters_here", "_law_most", "_law_longest"] (defScope s_law_items) := ⟨rfl, rfl, rfl, by decide +kernel, rfl, by decide +kernel, by decide +kernel⟩
abbrev s_law_written : Stmt := topS 11
abbrev N_law_written : List Str := ["_law_bag_here", "_law_letters_here", "_law_items_here", "_law_gaps", "_law_text", "_law_k", "_law_item", "_law_is_other", "_law_sign"]
theorem sc_law_written : FnScope N_law_written ["_law_bag_here", "_law_letters_here", "_law_items_here"] (defScope s_law_written) := ⟨rfl, rfl, rfl, by decide +kernel, rfl, by decide +kernel, by decide +kernel⟩
abbrev s_law_holds : Stmt := topS 12
abbrev N_law_holds : List Str := ["_law_text", "_law_letters_here", "_law_items_here", "_law_told", "_law_item"]
theorem sc_law_holds : FnScope N_law_holds ["_law_text", "_law_letters_here", "_law_items_here"] (defScope s_law_holds) := ⟨rfl, rfl, rfl, by decide +kernel, rfl, by decide +kernel, by decide +kernel⟩
section
variable {P : Program} {w : World} {K : PySem.W.Frag} {mg : Str → Option Value} {base : Heap} {f : Addr} {fd : FuncData} {k : Nat}
theorem ok_items (F : FnP K "_law_items" s_law_items f fd) (d_law_string : Dfn P w K mg base CX0 "_law_string" ["_law_bag_here", "_law_signs_here", "_law_least", "_law_most"] 2 (spString K)) (d_law_draw : Dfn P w K mg base CX0 "_law_draw" ["_law_bag_here", "_law_many"] 1 spDraw)
    (m_range : mg "range" = none) : FnOk P w K mg base CX0 3 f fd ["_law_bag_here", "_law_letters_here", "_law_most", "_law_longest"] spItemsG := by
  have z := sizeLine_eq
  refine F.ok sc_law_items (fun vs H Q E h => ?_) (fun cdv A outer s H vs Q E hr h => ⟨_, PSs.nox (pss_cons (ps_set (i := 4) sc_law_items.nd rfl (Or.inl rfl) (pe_lst pa_nil))
      (pss_cons (ps_for PassesOwn.never rfl (pi_range1 (by rfl) m_range (pa_cons (pe_d d_law_draw (hr.mono (by decide)) (by rfl) (pa_cons (pv 0) (pa_cons (pe_op op_add (pv 2) pe_int) pa_nil))) pa_nil)) (pg_name (i := 5) sc_law_items.nd rfl (Or.inl rfl))
        (C8.pss_cut (ps_set (i := 6) sc_law_items.nd rfl (Or.inl rfl) (pe_ifExp (pt_cmpR op_eq (pe_d d_law_draw (hr.mono (by decide)) (by rfl) (pa_cons (pv 0) (pa_cons pe_int pa_nil))) pe_int (nomark _)) pe_str (pv 1)))
      (pss_one (ps_expr (pe_bm' K PySem.F.plainAttrs_list PySem.F.slot_list_append PySem.F.type_list_append mt_append (pv 4) (pa_cons (pe_d d_law_string (hr.mono (by decide)) (by rfl) (pa_cons (pv 0) (pa_cons (pv 6) (pa_cons pe_int (pa_cons (pv 3) pa_nil))))) pa_nil))))))
      (pss_one (ps_ret (pv 4))))), ?_⟩)
  · obtain ⟨b, ls, most, longest, rfl, _⟩ := h
    rfl
  · obtain ⟨b, ls, most, longest, rfl, hb, hl, m0, m1, g0, g1, q⟩ := h
    refine ⟨Nat.zero_le _, fun p np => ?_⟩
    have npb : b ≠ p := bag_ne hb np
    refine ⟨_, rfl, _, rfl, _, _, rfl, rfl, b, _, rfl, hb.new np, by omega, by omega, fun i H1 i0 i1 k1 b1 => ⟨i, rfl, by omega, by omega, ?_⟩⟩
    refine for_it walk_range (fun j σ H2 => ∃ y5 y6 its, σ = [some (.ref b), some (.str (S ls)), some (.int most), some (.int longest), some (.ref p), y5, y6] ∧ its.length = j ∧ (∀ x ∈ its, IsItem ls longest.toNat x) ∧ Kb b H H2 ∧ IsBag H2 b ∧ H2 p = some (.lst (strsV its)))
      ⟨none, none, [], rfl, rfl, by simp, ((Kb.refl b H).push np).trans k1, b1, k1 p _ npb.symm upd_same⟩ (fun _ _ _ _ _ => trivial) (fun j v σ H2 H3 hj h y => ?_) (fun σ H2 h => ?_)
    · obtain ⟨y5, y6, its, rfl, hn, hit, kb, bb, hp⟩ := h
      obtain ⟨rfl, rfl⟩ := y
      refine ⟨fun σ' H' => ∃ cs, σ' = [some (.ref b), some (.str (S ls)), some (.int most), some (.int longest), some (.ref p), some (.int (0 + (j : Int))), some (.str (S cs))] ∧ (cs = digL ∨ cs = ls) ∧ Kb b H H' ∧ IsBag H' b ∧ H' p = some (.lst (strsV its)), ?_, fun σ' H' h => ?_⟩
      · refine ⟨_, rfl, b, _, rfl, bb, by decide, by decide, fun i4 H4 j0 j1 k4 b4 => ⟨rfl, _, rfl, ite2 (fun e1 => ?_) (fun e1 => ?_)⟩⟩
        · exact ⟨digL, by rw [digS]; rfl, .inl rfl, kb.trans k4, b4, k4 p _ npb.symm hp⟩
        · exact ⟨_, rfl, ls, rfl, .inr rfl, kb.trans k4, b4, k4 p _ npb.symm hp⟩
      · obtain ⟨cs, rfl, hcs, kb2, bb2, hp2⟩ := h
        have c0 : 0 < cs.length := by
          rcases hcs with rfl | rfl
          · decide
          · exact List.length_pos_iff.mpr hl.ne
        have c1 : cs.length ≤ 100000 := by
          rcases hcs with rfl | rfl
          · decide
          · have := hl.len; omega
        refine ⟨_, rfl, .inl ⟨rfl, _, SqL.of hp2⟩, _, rfl, _, rfl, _, rfl, b, _, cs, 1, longest, rfl, bb2, .inl rfl, (fun e => nomatch e), c0, c1, by decide, g0, by omega, fun l H5 hm l1 l2 k5 b5 => ?_⟩
        refine ⟨_, _, _, rfl, rfl, k5 p _ npb.symm hp2, ?_, ?_⟩
        · simp [strsV]; omega
        · refine ⟨_, _, its ++ [l], rfl, by simp [hn], ?_, (kb2.trans k5).new np, b5.keep npb, ?_⟩
          · intro x hx
            rcases List.mem_append.mp hx with e | e
            · exact hit x e
            · rw [List.mem_singleton.mp e]
              refine ⟨fun e => by rw [e] at l1; simp at l1, by omega, ?_⟩
              rcases hcs with rfl | rfl
              · exact .inr hm
              · exact .inl hm
          · rw [upd_same]; simp [strsV]
    · obtain ⟨y5, y6, its, rfl, hn, hit, kb, bb, hp⟩ := h
      exact ⟨_, rfl, q p its H2 np (by omega) hit kb bb hp⟩
end

/-! ### a text written of items -/
def gapsL (ls : List Nat) : List Nat := (signsL ++ [10]).filter fun c => !decide (c ∈ ls) && !decide (c ∈ digL)
theorem gap_kin {ls : List Nat} {c : Nat} (h : c ∈ gapsL ls) : kin ls c = 0 := by
  have q := (List.mem_filter.mp h).2
  obtain ⟨a, b⟩ := Bool.and_eq_true_iff.mp q
  exact kin_other (by simpa using a) (by simpa using b)
def spWritten (K : PySem.W.Frag) : Sp := fun vs H Q _ => ∃ (b a : Addr) (ls : List Nat) (n : Nat) (its : List (List Nat)), vs = [.ref b, .str (S ls), .ref a] ∧ IsBag H b ∧ Letters ls ∧ a ≠ b ∧ SqL K H a (strsV its) ∧ n ≤ 1000 ∧ its.length ≤ 60 ∧
  (∀ x ∈ its, IsItem ls n x) ∧ ∀ t H', itemsF ls t = its → t.length ≤ 100000 → Kb b H H' → IsBag H' b → Q (.str (S t)) H'
section
variable {P : Program} {w : World} {K : PySem.W.Frag} {mg : Str → Option Value} {base : Heap} {f : Addr} {fd : FuncData} {k : Nat}
theorem head_at {x : List Nat} (h : x ≠ []) : atI (S x).cps.toList 0 = some (x.headD 0) := by
  cases x with
  | nil => exact absurd rfl h
  | cons a r => exact atI_nat (j := 0) rfl
theorem kd_eq {ls x y : List Nat} {n m : Nat} (hl : Letters ls) (hx : IsItem ls n x) (hy : IsItem ls m y) : kd ls x = kd ls y ↔ (x.headD 0 ∈ ls ↔ y.headD 0 ∈ ls) := by
  have key : ∀ {x : List Nat} {n : Nat}, IsItem ls n x → (kd ls x = 1 ∧ x.headD 0 ∈ ls) ∨ (kd ls x = 2 ∧ x.headD 0 ∉ ls) := by
    intro x n h
    obtain ⟨a, r, rfl⟩ : ∃ a r, x = a :: r := by
      cases x with
      | nil => exact absurd rfl h.ne
      | cons a r => exact ⟨a, r, rfl⟩
    show (kin ls a = 1 ∧ a ∈ ls) ∨ (kin ls a = 2 ∧ a ∉ ls)
    rcases h.of with o | o
    · exact .inl ⟨kin_letter (o a List.mem_cons_self), o a List.mem_cons_self⟩
    · have hn : a ∉ ls := fun z => hl.nodig a z (o a List.mem_cons_self)
      exact .inr ⟨kin_digit hn (o a List.mem_cons_self), hn⟩
  rcases key hx with ⟨e1, h1⟩ | ⟨e1, h1⟩ <;> rcases key hy with ⟨e2, h2⟩ | ⟨e2, h2⟩ <;> rw [e1, e2]
  · exact ⟨fun _ => iff_of_true h1 h2, fun _ => rfl⟩
  · exact ⟨fun e => absurd e (by decide), fun e => absurd (e.mp h1) h2⟩
  · exact ⟨fun e => absurd e (by decide), fun e => absurd (e.mpr h2) h1⟩
  · exact ⟨fun _ => iff_of_false h1 h2, fun _ => rfl⟩
theorem ok_written (F : FnP K "_law_written" s_law_written f fd) (d_law_string : Dfn P w K mg base CX0 "_law_string" ["_law_bag_here", "_law_signs_here", "_law_least", "_law_most"] 2 (spString K)) (d_law_signs : Dfn P w K mg base CX0 "_law_signs" [] 1 spSigns)
    (m_enumerate : mg "enumerate" = none) (m_int : mg "int" = none) : FnOk P w K mg base CX0 3 f fd ["_law_bag_here", "_law_letters_here", "_law_items_here"] (spWritten K) := by
  have z := sizeLine_eq
  refine F.ok sc_law_written (fun vs H Q E h => ?_) (fun cdv A outer s H vs Q E hr h => ⟨_, PSs.nox (pss_cons (ps_setLc (i := 3) (own := [("_law_sign", 8)]) rfl sc_law_written.nd rfl rfl (sw_true rfl rfl rfl (by decide +kernel)) (pi_str (pe_op op_add_str (pe_d0 d_law_signs (hr.mono (by decide)) (by rfl)) pe_str)) (blkOk_by (own := [("_law_sign", 8)]) (N := N_law_written) (sc := defScope s_law_written) (by decide +kernel)) (fun _ _ _ _ _ => (pg_name (i := 8) sc_law_written.nd rfl (Or.inl rfl))) (fun _ _ _ _ _ => pts_one (PW.pt (pw_and (pt_cmpR op_notIn_sign (pv 8) (pv 1) rfl) (pw_and1 (pt_cmpR op_notIn_sign (pv 8) pe_str rfl))))) (fun _ _ _ _ _ => (pv 8)))
      (pss_cons (ps_set (i := 4) sc_law_written.nd rfl (Or.inl rfl) (pe_d d_law_string (hr.mono (by decide)) (by rfl) (pa_cons (pv 0) (pa_cons (pv 3) (pa_cons pe_int (pa_cons pe_int pa_nil))))))
      (pss_cons (ps_for PassesOwn.never rfl (enumL K m_enumerate (pa_cons (pv 2) pa_nil)) (tupG K rfl (pgs_cons (pg_name (i := 5) sc_law_written.nd rfl (Or.inl rfl)) (pgs_cons (pg_name (i := 6) sc_law_written.nd rfl (Or.inl rfl)) pgs_nil)))
        (C8.pss_cut (ps_if (pt_cmpR op_gt (pv 5) pe_int (nomark _)) (pss_cons (ps_set (i := 7) sc_law_written.nd rfl (Or.inl rfl) (pe_cmpR op_ne (pe_cmpR op_in_sign (pe_ix ix_str (pv 6) pe_int (fun _ _ => rfl)) (pv 1) rfl) (pe_cmpR op_in_sign (pe_ix ix_str (pe_ix (ixL K) (pv 2) (pe_op op_sub (pv 5) pe_int) (fun _ _ => rfl)) pe_int (fun _ _ => rfl)) (pv 1) rfl) (nomark _)))
      (pss_one (ps_set (i := 4) sc_law_written.nd rfl (Or.inl rfl) (pe_op op_add_str (pv 4) (pe_d d_law_string (hr.mono (by decide)) (by rfl) (pa_cons (pv 0) (pa_cons (pv 3) (pa_cons (pe_op op_sub pe_int (pe_callTy call_int1 (by rfl) m_int (by decide +kernel) (pa_cons (pv 7) pa_nil))) (pa_cons pe_int pa_nil))))))))) pss_nil)
      (pss_one (ps_set (i := 4) sc_law_written.nd rfl (Or.inl rfl) (pe_op op_add_str (pv 4) (pv 6))))))
      (pss_one (ps_ret (pe_op op_add_str (pv 4) (pe_d d_law_string (hr.mono (by decide)) (by rfl) (pa_cons (pv 0) (pa_cons (pv 3) (pa_cons pe_int (pa_cons pe_int pa_nil))))))))))), ?_⟩)
  · obtain ⟨b, a, ls, n, its, rfl, _⟩ := h
    rfl
  · obtain ⟨b, a, ls, n, its, rfl, hb, hl, nab, hA, hn, hil, hit, q⟩ := h
    -- the gaps
    refine ⟨rfl, _, _, rfl, rfl, by decide +kernel, S (signsL ++ [10]), congrArg V.str (by decide +kernel), fun D nD => ?_⟩
    have nDb : b ≠ D := bag_ne hb nD
    refine lc_it walk_str (fun i H2 => H2 = upd H D (.lst (((((signsL ++ [10]).take i).filter fun c => !decide (c ∈ ls) && !decide (c ∈ digL))).map fun c => V.str (S [c])))) rfl (fun _ _ _ _ => trivial) (fun i v H2 H3 hi h y => ?_) (fun H2 h => ?_)
    · subst h
      obtain ⟨rfl, c, hc, rfl⟩ := y
      have hc1 : (signsL ++ [10])[i]? = some c := by simpa using hc
      have et : (signsL ++ [10]).take (i + 1) = (signsL ++ [10]).take i ++ [c] := by rw [List.take_add_one, hc1]; rfl
      rw [et, List.filter_append, List.map_append, digS]
      refine ⟨rfl, _, rfl, _, rfl, _, _, rfl, rfl, _, rfl, ite2 (fun e1 => ⟨_, rfl, _, _, rfl, rfl, _, rfl, ite2 (fun e2 => ⟨_, rfl, _, upd_same, ?_, ?_⟩) (fun e2 => ?_)⟩) (fun e1 => iteF ?_)⟩
      · rw [List.length_map]
        have h1 := List.length_filter_le (fun c => !decide (c ∈ ls) && !decide (c ∈ digL)) ((signsL ++ [10]).take i)
        have h2 : ((signsL ++ [10]).take i).length ≤ 95 := Nat.le_trans (List.length_take_le' _ _) (by decide +kernel)
        omega
      · rw [upd_upd]
        have e3 : ([c].filter fun c => !decide (c ∈ ls) && !decide (c ∈ digL)) = [c] := by
          rw [List.filter_cons_of_pos]
          · rfl
          · rw [Bool.and_eq_true]; exact ⟨e1, e2⟩
        rw [e3]; rfl
      · have e3 : ([c].filter fun c => !decide (c ∈ ls) && !decide (c ∈ digL)) = [] := by
          rw [List.filter_cons_of_neg]
          · rfl
          · rw [Bool.and_eq_true]; exact fun z => e2 z.2
        rw [e3, List.map_nil, List.append_nil]
      · have e3 : ([c].filter fun c => !decide (c ∈ ls) && !decide (c ∈ digL)) = [] := by
          rw [List.filter_cons_of_neg]
          · rfl
          · rw [Bool.and_eq_true]; exact fun z => e1 z.1
        rw [e3, List.map_nil, List.append_nil]
    · subst h
      have eg : ((signsL ++ [10]).take (S (signsL ++ [10])).cps.size) = signsL ++ [10] := List.take_of_length_le (Nat.le_of_eq rfl)
      rw [eg]
      have g0 : 0 < (gapsL ls).length := by
        refine List.length_pos_of_mem (a := 32) (List.mem_filter.mpr ⟨by decide +kernel, ?_⟩)
        have h1 : (32 : Nat) ∉ ls := fun z => absurd (hl.ch 32 z) (by decide +kernel)
        simp [h1]
        decide
      have g1 : (gapsL ls).length ≤ 95 := Nat.le_trans (List.length_filter_le _ _) (by decide +kernel)
      show tSeq _ _ _ _ (upd H D (.lst ((gapsL ls).map fun c => V.str (S [c]))))
      have hD : ∀ {H' : Hp}, Kb b (upd H D (.lst ((gapsL ls).map fun c => V.str (S [c])))) H' → SqL K H' D ((gapsL ls).map fun c => V.str (S [c])) := fun k => SqL.of (k D _ nDb.symm upd_same)
      have k0 : Kb b H (upd H D (.lst ((gapsL ls).map fun c => V.str (S [c])))) := (Kb.refl b H).push nD
      have bD : IsBag (upd H D (.lst ((gapsL ls).map fun c => V.str (S [c])))) b := hb.new nD
      generalize upd H D (.lst ((gapsL ls).map fun c => V.str (S [c]))) = HD at hD k0 bD ⊢
      have nRef : V.ref D ≠ V.ref b := fun e => nDb (V.ref.inj e).symm
      -- the first gap
      refine ⟨_, rfl, _, rfl, b, _, gapsL ls, 0, 3, rfl, bD, .inr ⟨D, rfl, hD (Kb.refl b HD)⟩, nRef, g0, by omega, by decide, by decide, by decide, fun l1 H1 hm1 _ l13 k1 b1 => ?_⟩
      have sg : ∀ {g : List Nat}, (∀ c ∈ g, c ∈ gapsL ls) → ∀ its k, scan ls (its, k) g = (its, if g = [] then k else 0) := fun h its k => scan_gap fun c hc => gap_kin (h c hc)
      -- the items
      refine ⟨_, rfl, a, _, rfl, (k0.trans k1).seqL nab hA, ?_⟩
      refine for_it (walk_enum (xs := strsV its)) (fun i σ H2 => ∃ t y5 y6 y7 y8, σ = [some (.ref b), some (.str (S ls)), some (.ref a), some (.ref D), some (.str (S t)), y5, y6, y7, y8] ∧ scan ls ([], 0) t = (its.take i, if i = 0 then 0 else kd ls (its.getD (i - 1) [])) ∧
          t.length ≤ 3 + i * 1003 ∧ Kb b HD H2 ∧ IsBag H2 b) ⟨l1, none, none, none, none, rfl, ?_, by omega, k1, b1⟩ (fun i σ H2 _ h => ?_) (fun i v σ H2 H3 hi h y => ?_) (fun σ H2 h => ?_)
      · rw [sg hm1]
        show ([], if l1 = [] then 0 else 0) = ([], 0)
        split <;> rfl
      · obtain ⟨t, y5, y6, y7, y8, rfl, _, _, kb, _⟩ := h
        exact (k0.trans kb).seqL nab hA
      · obtain ⟨t, y5, y6, y7, y8, rfl, hsc, htl, kb, bb⟩ := h
        obtain ⟨T, x1, x2, rfl, nT, rfl, e1, e2⟩ := y
        obtain rfl : x1 = V.int i := (Option.some.inj e1).symm
        obtain ⟨x, hx, rfl⟩ := map_at e2
        have ixs : IsItem ls n x := hit x (List.mem_of_getElem? hx)
        have hi2 : i < its.length := (List.getElem?_eq_some_iff.mp hx).1
        have kbT : Kb b HD (upd H2 T (.tup [V.int i, V.str (S x)])) := kb.push nT
        have bbT : IsBag (upd H2 T (.tup [V.int i, V.str (S x)])) b := bb.new nT
        refine ⟨T, _, rfl, SqT.of upd_same, rfl, _, _, rfl, _, _, rfl, rfl, ?_⟩
        generalize upd H2 T (.tup [V.int i, V.str (S x)]) = H4 at kbT bbT ⊢
        obtain ⟨kall, kne⟩ := ixs.kd_all hl
        refine ⟨fun σ' H' => ∃ t2 y7 y8 κ, σ' = [some (.ref b), some (.str (S ls)), some (.ref a), some (.ref D), some (.str (S t2)), some (.int i), some (.str (S x)), y7, y8] ∧ scan ls ([], 0) t2 = (its.take i, κ) ∧ κ ≠ kd ls x ∧ t2.length ≤ t.length + 3 ∧ Kb b HD H' ∧ IsBag H' b, ?_, fun σ' H' h => ?_⟩
        · refine ⟨_, rfl, _, _, rfl, rfl, _, rfl, ite2 (fun e3 => ?_) (fun e3 => ?_)⟩
          · have ip : 0 < i := by
              have := of_decide_eq_true e3
              omega
            have hy : its[i - 1]? = some (its.getD (i - 1) []) := by
              rw [List.getD_eq_getElem?_getD, List.getElem?_eq_getElem (by omega : i - 1 < its.length)]
              rfl
            have iys : IsItem ls n (its.getD (i - 1) []) := hit _ (List.mem_of_getElem? hy)
            generalize its.getD (i - 1) [] = y at hy iys hsc
            rw [if_neg (by omega : ¬ i = 0)] at hsc
            have lx : (S x).length ≤ sizeLine := by rw [S_len]; have := ixs.len; omega
            have ly : (S y).length ≤ sizeLine := by rw [S_len]; have := iys.len; omega
            have hA4 : SqL K H4 a (strsV its) := (k0.trans kbT).seqL nab hA
            have hat : atI (strsV its) ((i : Int) - 1) = some (V.str (S y)) := by
              have q : (strsV its)[i - 1]? = some (V.str (S y)) := by unfold strsV; rw [List.getElem?_map, hy]; rfl
              have e : ((i : Int) - 1) = ((i - 1 : Nat) : Int) := by omega
              rw [e]
              exact atI_nat q
            refine ⟨_, rfl, _, _, _, rfl, rfl, lx, head_at ixs.ne, _, rfl, _, _, rfl, rfl, _, rfl, _, rfl, _, _, rfl, rfl, _, _, _, _, rfl, rfl, hA4, hat, _, _, _, rfl, rfl, ly, head_at iys.ne, _, rfl, _, _, rfl, rfl, rfl, ?_⟩
            generalize hw : (!decide (V.bl (decide (x.headD 0 ∈ (S ls).cps.toList)) = V.bl (decide (y.headD 0 ∈ (S ls).cps.toList)))) = other
            refine ⟨_, rfl, _, rfl, _, rfl, _, rfl, .inr ⟨_, rfl, _, _, rfl, rfl, ?_⟩⟩
            refine ⟨b, _, gapsL ls, 1 - (if other = true then 1 else 0), 3, rfl, bbT, .inr ⟨D, rfl, hD kbT⟩, nRef, g0, by omega, by split <;> omega, by split <;> omega, by decide, fun g H5 hm5 l5 l6 k5 b5 => ?_⟩
            refine ⟨_, _, rfl, rfl, by rw [S_len, S_len]; omega, ?_⟩
            refine ⟨t ++ g, _, _, _, by rw [S_cat]; rfl, by rw [scan_app, hsc, sg hm5], ?_, by simp; omega, kbT.trans k5, b5⟩
            by_cases gn : g = []
            · rw [if_pos gn]
              have ho : other = true := by
                cases other with
                | true => rfl
                | false =>
                  rw [gn] at l5
                  simp at l5
              rw [ho] at hw
              intro ek
              have hiff := (kd_eq hl ixs iys).mp ek.symm
              have e5 : decide (x.headD 0 ∈ (S ls).cps.toList) = decide (y.headD 0 ∈ (S ls).cps.toList) := decide_eq_decide.mpr hiff
              rw [e5] at hw
              simp at hw
            · rw [if_neg gn]
              exact fun e => kne e.symm
          · have i0 : i = 0 := by
              have q : ¬ ((0 : Int) < i) := fun z => e3 (decide_eq_true z)
              omega
            refine ⟨t, _, _, _, rfl, hsc, ?_, by omega, kbT, bbT⟩
            rw [if_pos i0]
            exact fun e => kne e.symm
        · obtain ⟨t2, z7, z8, κ, rfl, hs2, hk2, hl2, kb6, bb6⟩ := h
          have hx3 := ixs.len
          refine ⟨_, rfl, _, rfl, _, _, rfl, rfl, by rw [S_len, S_len]; omega, ?_⟩
          refine ⟨t2 ++ x, _, _, _, _, by rw [S_cat]; rfl, ?_, by simp; omega, kb6, bb6⟩
          rw [scan_app, hs2, scan_item kne hk2 ixs.ne kall, List.take_add_one, hx, if_neg (Nat.succ_ne_zero i)]
          show _ = (its.take i ++ [x], kd ls (its.getD (i + 1 - 1) []))
          rw [Nat.add_sub_cancel, List.getD_eq_getElem?_getD, hx]
          rfl
      · obtain ⟨t, y5, y6, y7, y8, rfl, hsc, htl, kb, bb⟩ := h
        refine ⟨_, rfl, _, rfl, _, rfl, b, _, gapsL ls, 0, 3, rfl, bb, .inr ⟨D, rfl, hD kb⟩, nRef, g0, by omega, by decide, by decide, by decide, fun g H5 hm5 _ l6 k5 b5 => ?_⟩
        have lt : (strsV its).length ≤ 60 := by simpa [strsV] using hil
        refine ⟨_, _, rfl, rfl, by rw [S_len, S_len]; omega, ?_⟩
        rw [S_cat]
        refine q _ _ ?_ (by simp; omega) (k0.trans (kb.trans k5)) b5
        unfold itemsF
        rw [scan_app, hsc, sg hm5]
        show its.take (strsV its).length = its
        exact List.take_of_length_le (by simp [strsV])
end

/-! ### the law -/
def spHolds (K : PySem.W.Frag) : Sp := fun vs H Q _ => ∃ (a : Addr) (t ls : List Nat), vs = [.str (S t), .str (S ls), .ref a] ∧ Letters ls ∧ t.length ≤ 1000000 ∧ SqL K H a (strsV (itemsF ls t)) ∧ (∀ x ∈ itemsF ls t, Pl x) ∧
  ∀ H', Same H H' → Q (.bl true) H'
section
variable {P : Program} {w : World} {K : PySem.W.Frag} {mg : Str → Option Value} {base : Heap} {f : Addr} {fd : FuncData} {k : Nat}
theorem ok_holds (F : FnP K "_law_holds" s_law_holds f fd) (d_items_of : Dfn P w K mg base CX0 "items_of" ["text", "letters"] 1 spItems) (m_isinstance : mg "isinstance" = none) (m_list : mg "list" = none) (m_str : mg "str" = none) :
    FnOk P w K mg base CX0 2 f fd ["_law_text", "_law_letters_here", "_law_items_here"] (spHolds K) := by
  have z := sizeLine_eq
  refine F.ok sc_law_holds (fun vs H Q E h => ?_) (fun cdv A outer s H vs Q E hr h => ⟨_, PSs.nox (pss_cons (ps_set (i := 3) sc_law_holds.nd rfl (Or.inl rfl) (pe_d d_items_of (hr.mono (by decide)) (by rfl) (pa_cons (pv 0) (pa_cons (pv 1) pa_nil))))
      (pss_cons (ps_if (PW.pt (pw_or (pt_not (pt_val (pe_callB (isiC K) (by rfl) m_isinstance (by decide +kernel) (pa_cons (pv 3) (pa_cons (pe_bltn (v := .ty "list") (by rfl) m_list (by decide +kernel) rfl) pa_nil))))) (pw_or1 (pt_cmpR (neD K hr.units) (pv 3) (pv 2) (nomark _))))) (pss_one (ps_ret pe_bl)) pss_nil)
      (pss_cons (ps_for PassesOwn.never rfl (piL K (pv 3)) (pg_name (i := 4) sc_law_holds.nd rfl (Or.inl rfl))
        (pss_one (ps_if (pt_not (pt_val (pe_callB (isiC K) (by rfl) m_isinstance (by decide +kernel) (pa_cons (pv 4) (pa_cons (pe_bltn (v := .ty "str") (by rfl) m_str (by decide +kernel) rfl) pa_nil))))) (pss_one (ps_ret pe_bl)) pss_nil)))
      (pss_one (ps_ret pe_bl))))), ?_⟩)
  · obtain ⟨a, t, ls, rfl, _⟩ := h
    rfl
  · obtain ⟨a, t, ls, rfl, hl, ht, hA, hpl, q⟩ := h
    refine ⟨_, rfl, _, rfl, t, ls, rfl, ht, hl.ne, hl.nodig, fun p H1 np sm hp => ?_⟩
    refine ⟨_, rfl, _, _, _, _, true, rfl, .ty "list", .base (.lst hp), kit_ty (by decide +kernel), true, rfl, _, rfl, _, rfl, _, _, dp_strs (SqL.of hp), dp_strs (sm.seq hA), shaped_strs hpl, shaped_strs hpl, _, ne_self _, _, rfl, p, rfl, ⟨_, SqL.of hp⟩, for_it (walk_list (xs := strsV (itemsF ls t))) (fun i σ H2 => ∃ y, σ = [some (.str (S t)), some (.str (S ls)), some (.ref a), some (.ref p), y] ∧ H2 = H1) ⟨_, rfl, rfl⟩ (fun i σ H2 _ h => ?_) (fun i v σ H2 H3 hi h y => ?_) (fun σ H2 h => ?_)⟩
    · obtain ⟨y, rfl, rfl⟩ := h
      exact SqL.of hp
    · obtain ⟨y4, rfl, rfl⟩ := h
      obtain ⟨rfl, hx⟩ := y
      obtain ⟨x, _, rfl⟩ := map_at hx
      exact ⟨_, rfl, _, _, _, _, true, rfl, .ty "str", .base (.str _), kit_ty (by decide +kernel), true, rfl, _, rfl, rfl⟩
    · obtain ⟨y4, rfl, rfl⟩ := h
      exact q _ sm
end

def spLaw (K : PySem.W.Frag) : Sp := fun vs H Q _ => ∃ (a : Addr) (ns : List Int), vs = [.ref a] ∧ SqL K H a (ns.map V.int) ∧ ∀ H', Q (.bl true) H'
abbrev s_law : Stmt := topS 13
abbrev N_law : List Str := ["_law_script", "_law_bag_here", "_law_letters_here", "_law_longest", "_law_items_here", "_law_text", "_law_others", "_law_rows", "_law_second", "_law_told", "_law_kept", "_law_halves", "_law_item"]
theorem sc_law : FnScope N_law ["_law_script"] (defScope s_law) := ⟨rfl, rfl, rfl, by decide +kernel, rfl, by decide +kernel, by decide +kernel⟩
section
variable {P : Program} {w : World} {K : PySem.W.Frag} {mg : Str → Option Value} {base : Heap} {f : Addr} {fd : FuncData} {k : Nat}
theorem halves_items {ls : List Nat} (hl : Letters ls) {c : Nat} (hc : c ∈ ls) : itemsF ls ([c] ++ [49, 50] ++ [c]) = [[c], [49, 50], [c]] := by
  have k1 : ∀ d ∈ [c], kin ls d = 1 := fun d hd => by rw [List.mem_singleton.mp hd]; exact kin_letter hc
  unfold itemsF
  rw [scan_app, scan_app, scan_item (k := 0) (κ := 1) (by decide) (by decide) (by simp) k1, scan_item (κ := 2) (by decide) (by decide) (by simp) (kin_12 hl), scan_item (κ := 1) (by decide) (by decide) (by simp) k1]
  rfl
/-- the words that the last look expects -/
def keepP (ls : List Nat) (x : List Nat) : Bool := decide (x.headD 0 ∈ ls) || decide (x = [49, 50])
theorem last_items {ls : List Nat} (hl : Letters ls) {c : Nat} (hc : c ∈ charsL) : itemsF ls ([49, 50, 32] ++ ([c] ++ [49, 50] ++ [c])) = [[49, 50], [c], [49, 50], [c]].filter (keepP ls) := by
  have k12 := kin_12 hl
  have h32 : ∀ d ∈ [32], kin ls d = 0 := fun d hd => by
    rw [List.mem_singleton.mp hd]
    exact kin_other (fun z => absurd (hl.ch 32 z) (by decide +kernel)) (by decide)
  have e0 : [49, 50, 32] ++ ([c] ++ [49, 50] ++ [c]) = [49, 50] ++ [32] ++ [c] ++ [49, 50] ++ [c] := by simp
  have p12 : keepP ls [49, 50] = true := by simp [keepP]
  rw [e0]
  unfold itemsF
  rw [scan_app, scan_app, scan_app, scan_app, scan_item (k := 0) (κ := 2) (by decide) (by decide) (by simp) k12, scan_gap h32, show (([] : List (List Nat)) ++ [[49, 50]], if ([32] : List Nat) = [] then 2 else 0) = ([[49, 50]], 0) from rfl]
  by_cases m : c ∈ ls
  · have k1 : ∀ d ∈ [c], kin ls d = 1 := fun d hd => by rw [List.mem_singleton.mp hd]; exact kin_letter m
    have pc : keepP ls [c] = true := by simp [keepP, m]
    rw [scan_item (its := [[49, 50]]) (k := 0) (κ := 1) (by decide) (by decide) (by simp) k1, scan_item (its := [[49, 50]] ++ [[c]]) (k := 1) (κ := 2) (by decide) (by decide) (by simp) k12, scan_item (k := 2) (κ := 1) (by decide) (by decide) (by simp) k1]
    simp [List.filter, p12, pc]
  · have k1 : ∀ d ∈ [c], kin ls d = 0 := fun d hd => by rw [List.mem_singleton.mp hd]; exact kin_other m (char_nodig c hc)
    have pc : keepP ls [c] = false := by
      have : c ≠ 49 := fun e => absurd (e ▸ hc) (by decide +kernel)
      simp [keepP, m]
    rw [scan_gap (its := [[49, 50]]) (k := 0) k1, show ([[49, 50]], if [c] = [] then 0 else 0) = ([[49, 50]], 0) from rfl, scan_item (its := [[49, 50]]) (k := 0) (κ := 2) (by decide) (by decide) (by simp) k12, scan_gap k1]
    simp [List.filter, p12, pc]
theorem ok_law (F : FnP K "law" s_law f fd) (d_law_bag : Dfn P w K mg base CX0 "_law_bag" ["_law_script", "_law_k"] 1 (spBag K)) (d_law_draw : Dfn P w K mg base CX0 "_law_draw" ["_law_bag_here", "_law_many"] 1 spDraw)
    (d_law_letters : Dfn P w K mg base CX0 "_law_letters" ["_law_bag_here"] 3 spLetters) (d_law_items : Dfn P w K mg base CX0 "_law_items" ["_law_bag_here", "_law_letters_here", "_law_most", "_law_longest"] 3 spItemsG)
    (d_law_written : Dfn P w K mg base CX0 "_law_written" ["_law_bag_here", "_law_letters_here", "_law_items_here"] 3 (spWritten K)) (d_law_holds : Dfn P w K mg base CX0 "_law_holds" ["_law_text", "_law_letters_here", "_law_items_here"] 2 (spHolds K)) (d_items_of : Dfn P w K mg base CX0 "items_of" ["text", "letters"] 1 spItems)
    (m_list : mg "list" = none) : FnOk P w K mg base CX0 4 f fd ["_law_script"] (spLaw K) := by
  have z := sizeLine_eq
  refine F.ok sc_law (fun vs H Q E h => ?_) (fun cdv A outer s H vs Q E hr h => ⟨_, PSs.nox (pss_cons (ps_set (i := 1) sc_law.nd rfl (Or.inl rfl) (pe_d d_law_bag (hr.mono (by decide)) (by rfl) (pa_cons (pv 0) (pa_cons pe_int pa_nil))))
      (pss_cons (ps_par rfl sc_law.nd (i := 2) (j := 3) rfl rfl (by decide) rfl rfl (pa_cons (pe_d d_law_letters (hr.mono (by decide)) (by rfl) (pa_cons (pv 1) pa_nil)) (pa_cons (pe_op op_add pe_int (pe_d d_law_draw (hr.mono (by decide)) (by rfl) (pa_cons (pv 1) (pa_cons pe_int pa_nil)))) pa_nil)) (by rfl))
      (pss_cons (ps_set (i := 4) sc_law.nd rfl (Or.inl rfl) (pe_d d_law_items (hr.mono (by decide)) (by rfl) (pa_cons (pv 1) (pa_cons (pv 2) (pa_cons pe_int (pa_cons (pv 3) pa_nil))))))
      (pss_cons (ps_set (i := 5) sc_law.nd rfl (Or.inl rfl) (pe_d d_law_written (hr.mono (by decide)) (by rfl) (pa_cons (pv 1) (pa_cons (pv 2) (pa_cons (pv 4) pa_nil)))))
      (pss_cons (ps_set (i := 1) sc_law.nd rfl (Or.inl rfl) (pe_d d_law_bag (hr.mono (by decide)) (by rfl) (pa_cons (pv 0) (pa_cons pe_int pa_nil))))
      (pss_cons (ps_set (i := 6) sc_law.nd rfl (Or.inr rfl) (pe_d d_law_letters (hr.mono (by decide)) (by rfl) (pa_cons (pv 1) pa_nil)))
      (pss_cons (ps_set (i := 7) sc_law.nd rfl (Or.inl rfl) (pe_d d_law_items (hr.mono (by decide)) (by rfl) (pa_cons (pv 1) (pa_cons (pv 6) (pa_cons pe_int (pa_cons pe_int pa_nil))))))
      (pss_cons (ps_set (i := 8) sc_law.nd rfl (Or.inl rfl) (pe_d d_law_written (hr.mono (by decide)) (by rfl) (pa_cons (pv 1) (pa_cons (pv 6) (pa_cons (pv 7) pa_nil)))))
      (pss_cons (ps_if (PW.pt (pw_or (pt_not (pt_val (pe_d d_law_holds (hr.mono (by decide)) (by rfl) (pa_cons (pv 5) (pa_cons (pv 2) (pa_cons (pv 4) pa_nil)))))) (pw_or1 (pt_not (pt_val (pe_d d_law_holds (hr.mono (by decide)) (by rfl) (pa_cons (pv 8) (pa_cons (pv 6) (pa_cons (pv 7) pa_nil))))))))) (pss_one (ps_ret pe_bl)) pss_nil)
      (pss_cons (ps_set (i := 9) sc_law.nd rfl (Or.inl rfl) (pe_d d_items_of (hr.mono (by decide)) (by rfl) (pa_cons (pv 5) (pa_cons (pv 2) pa_nil))))
      (pss_cons (ps_expr (pe_bm' K PySem.F.plainAttrs_list PySem.F.slot_list_append PySem.F.type_list_append mt_append (pv 9) (pa_cons pe_str pa_nil)))
      (pss_cons (ps_set (i := 10) sc_law.nd rfl (Or.inl rfl) (pe_callTy (listOf K) (by rfl) m_list (by decide +kernel) (pa_cons (pv 9) pa_nil)))
      (pss_cons (ps_if (PW.pt (pw_or (pt_not (pt_val (pe_d d_law_holds (hr.mono (by decide)) (by rfl) (pa_cons (pv 5) (pa_cons (pv 2) (pa_cons (pv 4) pa_nil)))))) (pw_or1 (pt_cmpR (neD K hr.units) (pv 9) (pv 10) (nomark _))))) (pss_one (ps_ret pe_bl)) pss_nil)
      (pss_cons (ps_if (PW.pt (pw_or (pt_not (pt_val (pe_d d_law_holds (hr.mono (by decide)) (by rfl) (pa_cons (pe_op op_mul_str (pe_ix ix_str (pv 2) pe_int (fun _ _ => rfl)) pe_int) (pa_cons (pv 2) (pa_cons (pe_lst (pa_cons (pe_op op_mul_str (pe_ix ix_str (pv 2) pe_int (fun _ _ => rfl)) pe_int) pa_nil)) pa_nil)))))) (pw_or1 (pt_not (pt_val (pe_d d_law_holds (hr.mono (by decide)) (by rfl) (pa_cons pe_str (pa_cons (pv 2) (pa_cons (pe_lst pa_nil) pa_nil))))))))) (pss_one (ps_ret pe_bl)) pss_nil)
      (pss_cons (ps_set (i := 11) sc_law.nd rfl (Or.inl rfl) (pe_op op_add_str (pe_op op_add_str (pe_ix ix_str (pv 2) pe_int (fun _ _ => rfl)) pe_str) (pe_ix ix_str (pv 2) pe_int (fun _ _ => rfl))))
      (pss_cons (ps_if (pt_not (pt_val (pe_d d_law_holds (hr.mono (by decide)) (by rfl) (pa_cons (pv 11) (pa_cons (pv 2) (pa_cons (pe_lst (pa_cons (pe_ix ix_str (pv 2) pe_int (fun _ _ => rfl)) (pa_cons pe_str (pa_cons (pe_ix ix_str (pv 2) pe_int (fun _ _ => rfl)) pa_nil)))) pa_nil)))))) (pss_one (ps_ret pe_bl)) pss_nil)
      (pss_one (ps_ret (pe_and (pe_d d_law_holds (hr.mono (by decide)) (by rfl) (pa_cons (pv 8) (pa_cons (pv 6) (pa_cons (pv 7) pa_nil)))) (pe_one (pe_d d_law_holds (hr.mono (by decide)) (by rfl) (pa_cons (pe_op op_add_str pe_str (pv 11)) (pa_cons (pv 6) (pa_cons (pe_lc (own := [("_law_item", 12)]) rfl sc_law.nd (piL K (pe_lst (pa_cons pe_str (pa_cons (pe_ix ix_str (pv 2) pe_int (fun _ _ => rfl)) (pa_cons pe_str (pa_cons (pe_ix ix_str (pv 2) pe_int (fun _ _ => rfl)) pa_nil)))))) (blkOk_by (own := [("_law_item", 12)]) (N := N_law) (sc := defScope s_law) (by decide +kernel)) (fun _ _ _ _ _ => (pg_name (i := 12) sc_law.nd rfl (Or.inl rfl))) (fun _ _ _ _ _ => pts_one (PW.pt (pw_or (pt_cmpR op_in_sign (pe_ix ix_str (pv 12) pe_int (fun _ _ => rfl)) (pv 6) rfl) (pw_or1 (pt_cmpR op_eq (pv 12) pe_str (nomark _)))))) (fun _ _ _ _ _ => (pv 12))) pa_nil)))))))))))))))))))))))), ?_⟩)
  · obtain ⟨a, ns, rfl, _⟩ := h
    rfl
  · obtain ⟨a, ns, rfl, hS, q⟩ := h
    -- the first text
    refine ⟨_, rfl, a, ns, 0, rfl, hS, by decide, fun b1 H1 nb1 s1 bg1 => ?_⟩
    refine ⟨_, rfl, b1, rfl, bg1, fun ls H2 hl k2 bg2 => ⟨_, rfl, b1, 40, rfl, bg2, by decide, by decide, fun i H3 i0 i1 k3 bg3 => ⟨_, _, rfl, rfl, _, _, rfl, ?_⟩⟩⟩
    refine ⟨_, rfl, _, rfl, _, rfl, b1, ls, 60, 1 + i, rfl, bg3, hl, by decide, by decide, by omega, by omega, fun p1 its H4 np1 il hit k4 bg4 hp1 => ?_⟩
    have n1 : p1 ≠ b1 := (bag_ne bg3 np1).symm
    refine ⟨_, rfl, _, rfl, _, rfl, b1, p1, ls, (1 + i).toNat, its, rfl, bg4, hl, n1, SqL.of hp1, by omega, by omega, hit, fun t H5 ht tl k5 bg5 => ?_⟩
    have hS5 : SqL K H5 a (ns.map V.int) := seqL_fresh hS nb1 (s1.kb.trans (k2.trans (k3.trans (k4.trans k5))))
    have hp5 := k5 p1 _ n1 hp1
    -- the second text
    refine ⟨_, rfl, a, ns, 1, rfl, hS5, by decide, fun b2 H6 nb2 s6 bg6 => ?_⟩
    have n2 : p1 ≠ b2 := ne_of_none hp5 nb2
    refine ⟨_, rfl, b2, rfl, bg6, fun os H7 ho k7 bg7 => ?_⟩
    refine ⟨_, rfl, _, rfl, b2, os, 60, 9, rfl, bg7, ho, by decide, by decide, by decide, by decide, fun p2 rws H8 np2 rl hrw k8 bg8 hp2 => ?_⟩
    have n3 : p2 ≠ b2 := (bag_ne bg7 np2).symm
    have hp7 := k7 p1 _ n2 (s6 p1 _ hp5)
    refine ⟨_, rfl, _, rfl, _, rfl, b2, p2, os, 9, rws, rfl, bg8, ho, n3, SqL.of hp2, by decide, by omega, hrw, fun t2 H9 ht2 tl2 k9 bg9 => ?_⟩
    have hp9 := k9 p1 _ n2 (k8 p1 _ n2 hp7)
    have hq9 := k9 p2 _ n3 hp2
    have pl1 : ∀ x ∈ itemsF ls t, Pl x := by rw [ht]; exact fun x hx => (hit x hx).pl hl
    have pl2 : ∀ x ∈ itemsF os t2, Pl x := by rw [ht2]; exact fun x hx => (hrw x hx).pl ho
    have sq1 : ∀ {H' : Hp}, Same H9 H' → SqL K H' p1 (strsV (itemsF ls t)) := fun s => by rw [ht]; exact SqL.of (s _ _ hp9)
    have sq2 : ∀ {H' : Hp}, Same H9 H' → SqL K H' p2 (strsV (itemsF os t2)) := fun s => by rw [ht2]; exact SqL.of (s _ _ hq9)
    show tSeq _ _ _ [some (.ref a), some (.ref b2), some (.str (S ls)), some (.int (1 + i)), some (.ref p1), some (.str (S t)), some (.str (S os)), some (.ref p2), some (.str (S t2)), none, none, none, none] _
    refine ⟨_, rfl, _, rfl, _, rfl, p1, t, ls, rfl, hl, by omega, sq1 (Same.refl _), pl1, fun H10 s10 => ⟨_, rfl, _, rfl, _, rfl, _, rfl, p2, t2, os, rfl, ho, by omega, sq2 s10, pl2, fun H11 s11 => ⟨_, rfl, ?_⟩⟩⟩
    have s9 : Same H9 H11 := s10.trans s11
    -- told.append('more'), list(told)
    refine ⟨_, rfl, _, rfl, t, ls, rfl, by omega, hl.ne, hl.nodig, fun p3 H12 np3 s12 hp3 => ?_⟩
    have il2 : (itemsF ls t).length ≤ 60 := by rw [ht]; omega
    refine ⟨_, rfl, .inl ⟨rfl, _, SqL.of hp3⟩, _, _, _, rfl, rfl, hp3, by simp [strsV]; omega, ?_⟩
    have s13 : Same H9 (upd H12 p3 (.lst (strsV (itemsF ls t) ++ [V.str (PySem.Str.ofString "more")]))) := (s9.trans s12).mut (s9.free np3)
    have hp13 : (upd H12 p3 (.lst (strsV (itemsF ls t) ++ [V.str (PySem.Str.ofString "more")]))) p3 = some (.lst (strsV (itemsF ls t) ++ [V.str (PySem.Str.ofString "more")])) := upd_same
    generalize upd H12 p3 (.lst (strsV (itemsF ls t) ++ [V.str (PySem.Str.ofString "more")])) = H13 at s13 hp13 ⊢
    refine ⟨_, rfl, _, _, rfl, .inl (SqL.of hp13), fun p4 np4 => ?_⟩
    have s14 := s13.push (o := .lst (strsV (itemsF ls t) ++ [V.str (PySem.Str.ofString "more")])) np4
    have hp14 : ∀ H', Same (upd H13 p4 (.lst (strsV (itemsF ls t) ++ [V.str (PySem.Str.ofString "more")]))) H' → H' p3 = some (.lst (strsV (itemsF ls t) ++ [V.str (PySem.Str.ofString "more")])) ∧ H' p4 = some (.lst (strsV (itemsF ls t) ++ [V.str (PySem.Str.ofString "more")])) :=
      fun H' s => ⟨s _ _ (by rw [upd_ne (ne_of_none hp13 np4)]; exact hp13), s _ _ upd_same⟩
    generalize upd H13 p4 (.lst (strsV (itemsF ls t) ++ [V.str (PySem.Str.ofString "more")])) = H14 at s14 hp14 ⊢
    have em : strsV (itemsF ls t) ++ [V.str (PySem.Str.ofString "more")] = strsV (itemsF ls t ++ [[109, 111, 114, 101]]) := by
      have e : PySem.Str.ofString "more" = S [109, 111, 114, 101] := by decide +kernel
      rw [e]; simp [strsV]
    have plm : ∀ x ∈ itemsF ls t ++ [[109, 111, 114, 101]], Pl x := fun x hx => by
      rcases List.mem_append.mp hx with e | e
      · exact pl1 x e
      · rw [List.mem_singleton.mp e]
        show ∀ c ∈ [109, 111, 114, 101], c < 128
        decide
    show tSeq _ _ _ [some (.ref a), some (.ref b2), some (.str (S ls)), some (.int (1 + i)), some (.ref p1), some (.str (S t)), some (.str (S os)), some (.ref p2), some (.str (S t2)), some (.ref p3), some (.ref p4), none, none] _
    refine ⟨_, rfl, _, rfl, _, rfl, p1, t, ls, rfl, hl, by omega, sq1 s14, pl1, fun H15 s15 => ?_⟩
    have hp15 := hp14 H15 s15
    rw [em] at hp15
    have s16 := s14.trans s15
    -- one word of 3000 signs; the empty text
    obtain ⟨c, r, ec⟩ : ∃ c r, ls = c :: r := by
      cases ls with
      | nil => exact absurd rfl hl.ne
      | cons c r => exact ⟨c, r, rfl⟩
    have hc : c ∈ ls := by rw [ec]; exact List.mem_cons_self
    have hd : ls.headD 0 = c := by rw [ec]; rfl
    have hat : atI (S ls).cps.toList 0 = some c := by rw [head_at hl.ne, hd]
    have lls : (S ls).length ≤ sizeLine := by rw [S_len]; have := hl.len; omega
    have l1 : (⟨#[c]⟩ : PySem.Str).length ≤ 100 := by show 1 ≤ 100; decide
    obtain ⟨w3, e3000, i3000, len3, pl3⟩ : ∃ w3 : List Nat, timesS ⟨#[c]⟩ (3000 : Int).toNat = S w3 ∧ itemsF ls w3 = [w3] ∧ w3.length ≤ 1000000 ∧ Pl w3 :=
      ⟨List.replicate 3000 c, times_one c 3000, items_run (κ := 1) (by decide) (by simp) (fun d hd => by rw [List.eq_of_mem_replicate hd]; exact kin_letter hc), by simp, fun d hd => by rw [List.eq_of_mem_replicate hd]; exact hl.pl c hc⟩
    refine ⟨_, rfl, _, rfl, _, rfl, _, _, dp_strs (SqL.of hp15.1), dp_strs (SqL.of hp15.2), shaped_strs plm, shaped_strs plm, _, ne_self _, ?_⟩
    refine ⟨_, rfl, _, _, _, rfl, rfl, lls, hat, _, _, rfl, rfl, by decide, by decide, l1, _, rfl, _, rfl, _, _, _, rfl, rfl, lls, hat, _, _, rfl, rfl, by decide, by decide, l1, (by show 1 ≤ sizeLine; omega), fun p5 np5 => ?_⟩
    generalize timesS ⟨#[c]⟩ (3000 : Int).toNat = W3 at e3000 ⊢
    subst e3000
    have s17 := s16.push (o := .lst [V.str (S w3)]) np5
    have plc : Pl [c] := fun d hd => by rw [List.mem_singleton.mp hd]; exact hl.pl c hc
    refine ⟨p5, w3, ls, rfl, hl, len3, by rw [i3000]; exact SqL.of upd_same, ?_, fun H18 s18 => ?_⟩
    · rw [i3000]
      intro x hx
      rw [List.mem_singleton.mp hx]
      exact pl3
    refine ⟨_, rfl, _, rfl, Nat.zero_le _, fun p6 np6 => ⟨p6, [], ls, by rw [nilS]; rfl, hl, Nat.zero_le _, SqL.of upd_same, (fun x hx => absurd hx (by simp [itemsF, Fw.scan])), fun H19 s19 => ⟨_, rfl, ?_⟩⟩⟩
    have s20 : Same H9 H19 := ((s17.trans s18).push np6).trans s19
    -- letters and digits side by side
    have e12 : PySem.Str.ofString "12" = S [49, 50] := by decide +kernel
    have l3 : ∀ {x y : List Nat}, x.length ≤ 10 → y.length ≤ 10 → (S x).length + (S y).length ≤ sizeLine := fun h1 h2 => by rw [S_len, S_len]; omega
    have eh : S [c] ++ S [49, 50] ++ S [c] = S ([c] ++ [49, 50] ++ [c]) := by rw [S_cat, S_cat]
    refine ⟨_, rfl, _, _, c, rfl, rfl, lls, hat, S [c], _, rfl, congrArg V.str e12, l3 (x := [c]) (by simp) (by decide), _, rfl, _, _, c, rfl, rfl, lls, hat, _, S [c], rfl, rfl, (by rw [S_cat]; exact l3 (x := [c] ++ [49, 50]) (y := [c]) (by simp) (by simp)), ?_⟩
    show tSeq _ _ _ [some (.ref a), some (.ref b2), some (.str (S ls)), some (.int (1 + i)), some (.ref p1), some (.str (S t)), some (.str (S os)), some (.ref p2), some (.str (S t2)), some (.ref p3), some (.ref p4), some (.str (S [c] ++ S [49, 50] ++ S [c])), none] _
    refine ⟨_, rfl, _, rfl, _, rfl, _, _, c, rfl, rfl, lls, hat, _, rfl, _, _, c, rfl, rfl, lls, hat, (by show 3 ≤ sizeLine; omega), fun p7 np7 => ⟨p7, [c] ++ [49, 50] ++ [c], ls, by rw [eh]; rfl, hl, by simp, ?_, ?_, fun H21 s21 => ⟨_, rfl, ?_⟩⟩⟩
    · rw [halves_items hl hc, e12]
      exact SqL.of upd_same
    · rw [halves_items hl hc]
      intro x hx
      rcases List.mem_cons.mp hx with e | hx
      · rw [e]; exact plc
      rcases List.mem_cons.mp hx with e | hx
      · rw [e]
        show ∀ d ∈ [49, 50], d < 128
        decide
      · rw [List.mem_singleton.mp hx]; exact plc
    have s22 : Same H9 H21 := (s20.push np7).trans s21
    -- the last look
    have hcc : c ∈ charsL := hl.ch c hc
    refine ⟨_, rfl, _, rfl, _, rfl, p2, t2, os, rfl, ho, by omega, sq2 s22, pl2, fun H23 s23 => ⟨_, rfl, ?_⟩⟩
    have e12b : PySem.Str.ofString "12 " = S [49, 50, 32] := by decide +kernel
    refine ⟨_, rfl, _, _, congrArg V.str e12b, rfl, (by rw [eh]; exact l3 (by decide) (by simp)), _, rfl, _, rfl, _, _, c, rfl, rfl, lls, hat, _, rfl, _, _, c, rfl, rfl, lls, hat, (by show 4 ≤ sizeLine; omega), fun p8 np8 => ⟨p8, rfl, ⟨_, SqL.of upd_same⟩, fun D nD => ?_⟩⟩
    have eW : ([V.str (PySem.Str.ofString "12"), V.str ⟨#[c]⟩, V.str (PySem.Str.ofString "12"), V.str ⟨#[c]⟩] : List V) = strsV [[49, 50], [c], [49, 50], [c]] := by rw [e12]; rfl
    rw [eW] at nD ⊢
    have hp8 : (upd H23 p8 (.lst (strsV [[49, 50], [c], [49, 50], [c]]))) p8 = some (.lst (strsV [[49, 50], [c], [49, 50], [c]])) := upd_same
    have s24 := (s22.trans s23).push (o := .lst (strsV [[49, 50], [c], [49, 50], [c]])) np8
    generalize upd H23 p8 (.lst (strsV [[49, 50], [c], [49, 50], [c]])) = H24 at nD hp8 s24 ⊢
    have nD8 : p8 ≠ D := ne_of_none hp8 nD
    generalize hW : [[49, 50], [c], [49, 50], [c]] = ws at hp8
    have wne : ∀ x ∈ ws, x ≠ [] ∧ x.length ≤ 2 := by
      rw [← hW]
      intro x hx
      rcases List.mem_cons.mp hx with e | hx
      · rw [e]; simp
      rcases List.mem_cons.mp hx with e | hx
      · rw [e]; simp
      rcases List.mem_cons.mp hx with e | hx
      · rw [e]; simp
      · rw [List.mem_singleton.mp hx]; simp
    have wl : ws.length = 4 := by rw [← hW]; rfl
    refine lc_it (walk_list (xs := strsV ws)) (fun i H2 => H2 = upd H24 D (.lst (strsV ((ws.take i).filter (keepP os))))) rfl (fun i H2 _ h => ?_) (fun i v H2 H3 hi h y => ?_) (fun H2 h => ?_)
    · subst h
      exact SqL.of (by rw [upd_ne nD8]; exact hp8)
    · subst h
      obtain ⟨rfl, hx⟩ := y
      obtain ⟨x, hx2, rfl⟩ := map_at hx
      obtain ⟨xne, xl⟩ := wne x (List.mem_of_getElem? hx2)
      have lx : (S x).length ≤ sizeLine := by rw [S_len]; omega
      have et : ws.take (i + 1) = ws.take i ++ [x] := by rw [List.take_add_one, hx2]; rfl
      have yes : keepP os x = true → upd (upd H24 D (.lst (strsV ((ws.take i).filter (keepP os))))) D (.lst (strsV ((ws.take i).filter (keepP os)) ++ [V.str (S x)])) = upd H24 D (.lst (strsV ((ws.take (i + 1)).filter (keepP os)))) := fun kp => by
        rw [upd_upd, et, List.filter_append, List.filter_cons_of_pos kp]
        simp [strsV]
      have ll : (strsV ((ws.take i).filter (keepP os))).length < sizeLine := by
        have h1 := List.length_filter_le (keepP os) (ws.take i)
        have h2 : (ws.take i).length ≤ 4 := by rw [← wl]; exact List.length_take_le' _ _
        simp [strsV]
        omega
      refine ⟨rfl, _, rfl, _, _, _, rfl, rfl, lx, head_at xne, _, rfl, _, _, rfl, rfl, _, rfl, ite2 (fun e1 => ⟨_, rfl, _, upd_same, ll, yes ?_⟩) (fun e1 => ⟨_, rfl, rfl, _, rfl, ite2 (fun e2 => ⟨_, rfl, _, upd_same, ll, yes ?_⟩) (fun e2 => ?_)⟩)⟩
      · have q : x.headD 0 ∈ os := of_decide_eq_true e1
        simp [keepP]
        exact .inl (by simpa using q)
      · have q : x = [49, 50] := S_inj ((V.str.inj (of_decide_eq_true e2)).trans e12)
        simp [keepP, q]
      · have q1 : x.headD 0 ∉ os := fun m => e1 (decide_eq_true m)
        have q2 : x ≠ [49, 50] := fun m => e2 (decide_eq_true (by rw [m, e12]))
        have kp : ¬ keepP os x = true := by
          unfold keepP
          rw [decide_eq_false q1, decide_eq_false q2]
          exact Bool.false_ne_true
        rw [et, List.filter_append, List.filter_cons_of_neg kp]
        simp
    · subst h
      have e5 : (ws.take (strsV ws).length).filter (keepP os) = itemsF os ([49, 50, 32] ++ ([c] ++ [49, 50] ++ [c])) := by
        rw [last_items ho hcc, hW, List.take_of_length_le (by simp [strsV])]
      rw [e5]
      refine ⟨D, [49, 50, 32] ++ ([c] ++ [49, 50] ++ [c]), os, by rw [eh, S_cat]; rfl, ho, by simp, SqL.of upd_same, ?_, fun H25 _ => q H25⟩
      rw [last_items ho hcc]
      intro x hx
      have hx := (List.mem_filter.mp hx).1
      rcases List.mem_cons.mp hx with e | hx
      · rw [e]
        show ∀ d ∈ [49, 50], d < 128
        decide
      rcases List.mem_cons.mp hx with e | hx
      · rw [e]; exact plc
      rcases List.mem_cons.mp hx with e | hx
      · rw [e]
        show ∀ d ∈ [49, 50], d < 128
        decide
      · rw [List.mem_singleton.mp hx]; exact plc
end

def D_law_bag : He.DefD := ⟨("_law_bag", none), "_law_bag", "_law_bag", defArgs s_law_bag, defBody s_law_bag, defScope s_law_bag, [], []⟩
def D_law_draw : He.DefD := ⟨("_law_draw", none), "_law_draw", "_law_draw", defArgs s_law_draw, defBody s_law_draw, defScope s_law_draw, [], []⟩
def D_law_characters : He.DefD := ⟨("_law_characters", none), "_law_characters", "_law_characters", defArgs s_law_characters, defBody s_law_characters, defScope s_law_characters, [], []⟩
def D_law_signs : He.DefD := ⟨("_law_signs", none), "_law_signs", "_law_signs", defArgs s_law_signs, defBody s_law_signs, defScope s_law_signs, [], []⟩
def D_law_string : He.DefD := ⟨("_law_string", none), "_law_string", "_law_string", defArgs s_law_string, defBody s_law_string, defScope s_law_string, [], []⟩
def D_law_letters : He.DefD := ⟨("_law_letters", none), "_law_letters", "_law_letters", defArgs s_law_letters, defBody s_law_letters, defScope s_law_letters, [], []⟩
def D_items_of : He.DefD := ⟨("items_of", none), "items_of", "items_of", defArgs s_items_of, defBody s_items_of, defScope s_items_of, [], []⟩
def D_law_items : He.DefD := ⟨("_law_items", none), "_law_items", "_law_items", defArgs s_law_items, defBody s_law_items, defScope s_law_items, [], []⟩
def D_law_written : He.DefD := ⟨("_law_written", none), "_law_written", "_law_written", defArgs s_law_written, defBody s_law_written, defScope s_law_written, [], []⟩
def D_law_holds : He.DefD := ⟨("_law_holds", none), "_law_holds", "_law_holds", defArgs s_law_holds, defBody s_law_holds, defScope s_law_holds, [], []⟩
def D_law : He.DefD := ⟨("law", none), "law", "law", defArgs s_law, defBody s_law, defScope s_law, [], []⟩
def fn : List He.DefD := [D_law_bag, D_law_draw, D_law_characters, D_law_signs, D_law_string, D_law_letters, D_items_of, D_law_items, D_law_written, D_law_holds, D_law]
def fa : List He.Fa := [.glo "_law_bag", .glo "_law_draw", .glo "_law_characters", .glo "_law_signs", .glo "_law_string", .glo "_law_letters", .glo "items_of", .glo "_law_items", .glo "_law_written", .glo "_law_holds", .glo "law", .free "int", .free "len", .free "range", .free "list", .free "set", .free "sorted", .free "enumerate", .free "isinstance", .free "str", .str "DIGITS" (S digL)]
def loose : List PySem.Str := (["DIGITS", "items_of", "_law_bag", "_law_draw", "_law_characters", "_law_signs", "_law_string", "_law_letters", "_law_items", "_law_written", "_law_holds"] : List PySem.Str)
abbrev R : PySem.W.OpenRow := PySem.W.OpenLaw.row PySem.Challenge.rw_foundaswritten_k04_items_of_texts
abbrev hk : PySem.W.Hook := He.hookD 5 fa fn
def ob (s : PySem.W.SharedT) : He.AlD := He.obsDG 5 fa fn (HandSHeadRun.getT s)
theorem ob_eq (s : PySem.W.SharedT) : ob s = hk.obs s.abs := He.obsDG_eq (HandSHeadRun.getT_eq s)
theorem run (w : World) : HandSHeadRun.RunEq R (PySem.W.view R.prog [13]) hk ob 3000 loose w := by
  intro os
  kernel_rfl
theorem facts {P : Program} {w : World} {K : PySem.W.Frag} {h : Heap} {mg : Str → Option Value} {f : Addr} (X : K.In h) (G : h.Ns mainGlobals mg) (hfa : mg ("law" : Str) = some (.ref f)) (c : He.SaysD fa fn K) :
    ∃ fd : FuncData, (∀ (s : Shared) (v : Value), BindsTo s fd ⟨[v], []⟩ [("_law_script", v)]) ∧ ∀ base : Heap, K.In base → base.Ns mainGlobals mg → FnOk P w K mg base CX0 4 f fd ["_law_script"] (spLaw K) := by
  have m_int : mg "int" = none := He.free_ok X G (c.fact 11 (f := .free "int") rfl)
  have m_len : mg "len" = none := He.free_ok X G (c.fact 12 (f := .free "len") rfl)
  have m_range : mg "range" = none := He.free_ok X G (c.fact 13 (f := .free "range") rfl)
  have m_list : mg "list" = none := He.free_ok X G (c.fact 14 (f := .free "list") rfl)
  have m_set : mg "set" = none := He.free_ok X G (c.fact 15 (f := .free "set") rfl)
  have m_sorted : mg "sorted" = none := He.free_ok X G (c.fact 16 (f := .free "sorted") rfl)
  have m_enumerate : mg "enumerate" = none := He.free_ok X G (c.fact 17 (f := .free "enumerate") rfl)
  have m_isinstance : mg "isinstance" = none := He.free_ok X G (c.fact 18 (f := .free "isinstance") rfl)
  have m_str : mg "str" = none := He.free_ok X G (c.fact 19 (f := .free "str") rfl)
  obtain ⟨t_DIGITS, g_DIGITS⟩ := He.str_ok X G (c.fact 20 (f := .str "DIGITS" (S digL)) rfl)
  obtain ⟨fd_law_bag, F_law_bag⟩ := c.def_ 0 (d := D_law_bag) rfl
  have g_law_bag : mg "_law_bag" = some (.ref (He.ga K "_law_bag")) := He.glo_ok X G (c.fact 0 (f := .glo "_law_bag") rfl)
  obtain ⟨fd_law_draw, F_law_draw⟩ := c.def_ 1 (d := D_law_draw) rfl
  have g_law_draw : mg "_law_draw" = some (.ref (He.ga K "_law_draw")) := He.glo_ok X G (c.fact 1 (f := .glo "_law_draw") rfl)
  obtain ⟨fd_law_characters, F_law_characters⟩ := c.def_ 2 (d := D_law_characters) rfl
  have g_law_characters : mg "_law_characters" = some (.ref (He.ga K "_law_characters")) := He.glo_ok X G (c.fact 2 (f := .glo "_law_characters") rfl)
  obtain ⟨fd_law_signs, F_law_signs⟩ := c.def_ 3 (d := D_law_signs) rfl
  have g_law_signs : mg "_law_signs" = some (.ref (He.ga K "_law_signs")) := He.glo_ok X G (c.fact 3 (f := .glo "_law_signs") rfl)
  obtain ⟨fd_law_string, F_law_string⟩ := c.def_ 4 (d := D_law_string) rfl
  have g_law_string : mg "_law_string" = some (.ref (He.ga K "_law_string")) := He.glo_ok X G (c.fact 4 (f := .glo "_law_string") rfl)
  obtain ⟨fd_law_letters, F_law_letters⟩ := c.def_ 5 (d := D_law_letters) rfl
  have g_law_letters : mg "_law_letters" = some (.ref (He.ga K "_law_letters")) := He.glo_ok X G (c.fact 5 (f := .glo "_law_letters") rfl)
  obtain ⟨fd_items_of, F_items_of⟩ := c.def_ 6 (d := D_items_of) rfl
  have g_items_of : mg "items_of" = some (.ref (He.ga K "items_of")) := He.glo_ok X G (c.fact 6 (f := .glo "items_of") rfl)
  obtain ⟨fd_law_items, F_law_items⟩ := c.def_ 7 (d := D_law_items) rfl
  have g_law_items : mg "_law_items" = some (.ref (He.ga K "_law_items")) := He.glo_ok X G (c.fact 7 (f := .glo "_law_items") rfl)
  obtain ⟨fd_law_written, F_law_written⟩ := c.def_ 8 (d := D_law_written) rfl
  have g_law_written : mg "_law_written" = some (.ref (He.ga K "_law_written")) := He.glo_ok X G (c.fact 8 (f := .glo "_law_written") rfl)
  obtain ⟨fd_law_holds, F_law_holds⟩ := c.def_ 9 (d := D_law_holds) rfl
  have g_law_holds : mg "_law_holds" = some (.ref (He.ga K "_law_holds")) := He.glo_ok X G (c.fact 9 (f := .glo "_law_holds") rfl)
  obtain ⟨fd_law, F_law⟩ := c.def_ 10 (d := D_law) rfl
  have g_law : mg "law" = some (.ref (He.ga K "law")) := He.glo_ok X G (c.fact 10 (f := .glo "law") rfl)
  have e := hfa.symm.trans g_law
  cases e
  have b := FunD.bindsA (ps := ["_law_script"]) F_law fun _ _ _ _ _ _ us hl => match us, hl with | [_], _ => rfl
  refine ⟨fd_law, fun s v => b s [v] rfl, fun base _ _ => ?_⟩
  have d_law_bag : Dfn P w K mg base CX0 "_law_bag" ["_law_script", "_law_k"] 1 (spBag K) := ⟨_, fd_law_bag, ok_bag F_law_bag m_int m_len, g_law_bag, F_law_bag.kp, (F_law_bag.bindsN fun _ _ _ _ _ _ us hl => match us, hl with | [_, _], _ => rfl)⟩
  have d_law_draw : Dfn P w K mg base CX0 "_law_draw" ["_law_bag_here", "_law_many"] 1 spDraw := ⟨_, fd_law_draw, ok_draw F_law_draw m_int, g_law_draw, F_law_draw.kp, (F_law_draw.bindsN fun _ _ _ _ _ _ us hl => match us, hl with | [_, _], _ => rfl)⟩
  have d_law_characters : Dfn P w K mg base CX0 "_law_characters" [] 1 spChars := ⟨_, fd_law_characters, ok_chars F_law_characters , g_law_characters, F_law_characters.kp, (F_law_characters.bindsN fun _ _ _ _ _ _ us hl => match us, hl with | [], _ => rfl)⟩
  have d_law_signs : Dfn P w K mg base CX0 "_law_signs" [] 1 spSigns := ⟨_, fd_law_signs, ok_signs F_law_signs , g_law_signs, F_law_signs.kp, (F_law_signs.bindsN fun _ _ _ _ _ _ us hl => match us, hl with | [], _ => rfl)⟩
  have d_law_string : Dfn P w K mg base CX0 "_law_string" ["_law_bag_here", "_law_signs_here", "_law_least", "_law_most"] 2 (spString K) := ⟨_, fd_law_string, ok_string F_law_string d_law_draw m_len m_range, g_law_string, F_law_string.kp, (F_law_string.bindsN fun _ _ _ _ _ _ us hl => match us, hl with | [_, _, _, _], _ => rfl)⟩
  have d_law_letters : Dfn P w K mg base CX0 "_law_letters" ["_law_bag_here"] 3 spLetters := ⟨_, fd_law_letters, ok_letters F_law_letters d_law_string d_law_characters m_list m_set m_sorted, g_law_letters, F_law_letters.kp, (F_law_letters.bindsN fun _ _ _ _ _ _ us hl => match us, hl with | [_], _ => rfl)⟩
  have d_items_of : Dfn P w K mg base CX0 "items_of" ["text", "letters"] 1 spItems := ⟨_, fd_items_of, ok_items_of F_items_of g_DIGITS, g_items_of, F_items_of.kp, (F_items_of.bindsN fun _ _ _ _ _ _ us hl => match us, hl with | [_, _], _ => rfl)⟩
  have d_law_items : Dfn P w K mg base CX0 "_law_items" ["_law_bag_here", "_law_letters_here", "_law_most", "_law_longest"] 3 spItemsG := ⟨_, fd_law_items, ok_items F_law_items d_law_string d_law_draw m_range, g_law_items, F_law_items.kp, (F_law_items.bindsN fun _ _ _ _ _ _ us hl => match us, hl with | [_, _, _, _], _ => rfl)⟩
  have d_law_written : Dfn P w K mg base CX0 "_law_written" ["_law_bag_here", "_law_letters_here", "_law_items_here"] 3 (spWritten K) := ⟨_, fd_law_written, ok_written F_law_written d_law_string d_law_signs m_enumerate m_int, g_law_written, F_law_written.kp, (F_law_written.bindsN fun _ _ _ _ _ _ us hl => match us, hl with | [_, _, _], _ => rfl)⟩
  have d_law_holds : Dfn P w K mg base CX0 "_law_holds" ["_law_text", "_law_letters_here", "_law_items_here"] 2 (spHolds K) := ⟨_, fd_law_holds, ok_holds F_law_holds d_items_of m_isinstance m_list m_str, g_law_holds, F_law_holds.kp, (F_law_holds.bindsN fun _ _ _ _ _ _ us hl => match us, hl with | [_, _, _], _ => rfl)⟩
  exact ok_law F_law d_law_bag d_law_draw d_law_letters d_law_items d_law_written d_law_holds d_items_of m_list

end La
open PySem PySem.W PySem.Calls PyProof.Rows
set_option maxRecDepth 100000 in
set_option maxHeartbeats 0 in
theorem PySem.Challenge.cw_foundaswritten_k04_items_of_texts_holds : PySem.Challenge.rw_foundaswritten_k04_items_of_texts.Holds := by
  w_on; o_law
  refine HandSHeadRun.head_any (r := OpenLaw.row PySem.Challenge.rw_foundaswritten_k04_items_of_texts) (q := view (OpenLaw.row PySem.Challenge.rw_foundaswritten_k04_items_of_texts).prog [13]) (H := La.hk) (ob := La.ob) (M := 3000) (loose := La.loose) (d := HandSHeadRun.topDef (OpenLaw.row PySem.Challenge.rw_foundaswritten_k04_items_of_texts).prog 13) (kwd := []) La.ob_eq
    (by kernel_rfl) (fun s => by kernel_rfl) La.run (by kernel_rfl) (by kernel_rfl) (by kernel_rfl) (by rfl) (by first | assumption | decide +kernel) (by decide +kernel) ⟨rfl, rfl, rfl, rfl, rfl, by decide +kernel⟩ ?hw ?hc
  case hw => w_witness2
  case hc =>
    refine L2.walk_ofE (l := PySem.Challenge.rw_foundaswritten_k04_items_of_texts) (n := 63) (k := 4) (x := "_law_script") (CX := L2.CX0) rfl (by decide) (by kernel_rfl) ⟨rfl, by decide, by decide⟩ ?F (fun _ _ _ _ z => z)
    intro w mg fa h Y G hmg0
    obtain ⟨K, KX, c⟩ := Y
    have hmg : mg ("law" : PySem.Str) = some (.ref fa) := by
      have e : (HandSHeadRun.topDef (OpenLaw.row PySem.Challenge.rw_foundaswritten_k04_items_of_texts).prog 13).name = ("law" : PySem.Str) := by kernel_rfl
      rw [← e]
      exact hmg0
    obtain ⟨fd, hb, hF⟩ := La.facts (P := (PySem.Challenge.rw_foundaswritten_k04_items_of_texts).prog) (w := w) KX G hmg c
    exact ⟨K, fd, La.spLaw K, KX, hb, fun H a ns hl _ hS => ⟨a, ns, rfl, hS, fun _ => rfl⟩, hF⟩
#print axioms PySem.Challenge.cw_foundaswritten_k04_items_of_texts_holds

