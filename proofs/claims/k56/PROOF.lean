import PyProof.Rows.All
import Wide.All
import OpenK.AllK
import Wide.FinOn
import KE.KDictKeyed
import KE.KeyNested
import KE.KDictWalk
import PyProof.DictRoadsH
import KE.KDictDisplayH
import HandS.ForMost
import HandS.IsInst
import HandS.TupAny
import HandS.Deep
import HandS.Flow
import HandS.Wide
import HandS.Conv
import HandS.Dict
import HandS.Iter
import HandS.TupLe
import HandS.TupMul
import HandS.More
import HandS.SortRule
import HandS.SortInts
import KE.KDictCopyH
import KE.KDictSum
import KE.GoesEnum
import HandS.Head2
import HandS.HeadEnd
import HandS.HeadHook2
import HandS.EndBits
import HandS.Head0
import HandS.Head1
import HandS.HeadHook1
import HandS.HeadHook4
import PySem.Challenge.RW_everytick_k56_whole_least_machines
set_option Elab.async false
set_option linter.all false
set_option maxRecDepth 100000
set_option maxHeartbeats 999999
/-! dicts whose keys are any plain data (None, bools, numbers, texts, tuples of such), mixed as they come. -/
namespace Pl
open PySem
open Sem (wp)

/-- what is stored in the table: the keys ks, entry by entry -/
def KeysAre (w : World) (h : Heap) (ks : List NestedKey) (es : Array DictEntry) : Prop :=
  ks.length = es.size ∧ ∀ (i : Nat) (k : NestedKey) (e : DictEntry), ks[i]? = some k → es[i]? = some e → NestedIs h k e.key ∧ e.hash = k.hash w ∧ k.depth ≤ 8

section
variable {prog : Program} {w : World} {A : Around} {E : Value → Shared → Prop} {s : Shared} {d : Addr} {o : Obj} {es : Array DictEntry} {ep : Nat} {ks : List NestedKey} {k : NestedKey} {key : Value}

theorem KeysAre.at_ {h : Heap} (K : KeysAre w h ks es) {i : Nat} (hi : i < es.size) : ∃ k, ks[i]? = some k ∧ NestedIs h k es[i].key ∧ es[i].hash = k.hash w ∧ k.depth ≤ 8 := by
  have hk : i < ks.length := by rw [K.1]; exact hi
  exact ⟨ks[i], List.getElem?_eq_getElem hk, K.2 i _ _ (List.getElem?_eq_getElem hk) (Array.getElem?_eq_getElem hi)⟩
theorem KeysAre.un {h : Heap} (K : KeysAre w h ks es) {i : Nat} {k : NestedKey} (e : ks[i]? = some k) : ∃ hi : i < es.size, NestedIs h k es[i].key ∧ es[i].hash = k.hash w ∧ k.depth ≤ 8 := by
  have hk := (List.getElem?_eq_some_iff.mp e).1
  have hi : i < es.size := by rw [← K.1]; exact hk
  exact ⟨hi, K.2 i _ _ e (Array.getElem?_eq_getElem hi)⟩
theorem nested_quiet {A : Around} {Q : Bool → Shared → Prop} {k : NestedKey} {v : Value} (hk : NestedIs s.heap k v) (hd : k.depth ≤ 8) (h : Q true s) : wpAny (model prog w) A (eqIsQuiet 8 v) Q E s := quiet_key k v 8 s hk hd A E Q h
theorem nested_eq {Q : Bool → Shared → Prop} {x y : NestedKey} {u v : Value} (hu : A.units + 8 < cLine) (hx : NestedIs s.heap x u) (hy : NestedIs s.heap y v) (dx : x.depth ≤ 8) (h : Q (decide (x = y)) s) : wpAny (model prog w) A (PySem.eqBool u v) Q E s :=
  eqAt_key x y A s u v hx hy (by omega) _ _ _ _ (by rw [← NestedKey.decide_eq]; exact h)
theorem tells_no {stored : List Value} {Q : Bool → Shared → Prop} (hk : NestedIs s.heap k key) (hdp : k.depth ≤ 8) (hst : ∀ v ∈ stored, ∃ k', NestedIs s.heap k' v ∧ k'.depth ≤ 8) (h : Q false s) :
    wpAny (model prog w) A (tableMayTell key stored) Q E s := by
  unfold tableMayTell
  by_cases e : stored.isEmpty = true
  · rw [if_pos e]
    exact wpAny_pure h
  rw [if_neg e]
  refine wpAny_bind (nested_quiet hk hdp ?_)
  rw [if_neg (by decide)]
  refine wpAny_bind (wpAny_forIn_list _ (fun rest r s' => s' = s ∧ r = (none, ()) ∧ ∀ v ∈ rest, ∃ k', NestedIs s.heap k' v ∧ k'.depth ≤ 8) _ ?_ ?_ _ _ ⟨rfl, rfl, hst⟩)
  · rintro v rest r s' ⟨e1, e2, hr⟩
    subst e1 e2
    obtain ⟨k', h1, h2⟩ := hr v List.mem_cons_self
    refine wpAny_bind (nested_quiet h1 h2 ?_)
    rw [if_neg (by decide)]
    exact wpAny_pure ⟨rfl, rfl, fun v' m => hr v' (List.mem_cons_of_mem _ m)⟩
  · rintro r s' ⟨e1, e2, _⟩
    subst e1 e2
    exact wpAny_pure h
theorem text_key {x : Str} {t : Tok} {h : Heap} (hk : NestedIs h k (.str x t)) : k = .text x := by cases hk; rfl
theorem isStr_key {h : Heap} {k' : NestedKey} {v : Value} {x : Str} (hv : NestedIs h k' v) : v.isStr x = decide (k' = .text x) := by
  cases hv with
  | text y t =>
    show (y == x) = _
    rw [NestedKey.decide_eq]
    simp [NestedKey.beq]
    rfl
  | _ => first | rfl | (rw [NestedKey.decide_eq]; rfl)

theorem places_mem {es : Array DictEntry} {h : Int} {i : Nat} : i ∈ placesWithHash es.size (fun i => es[i]?.map (·.hash)) h ↔ ∃ hi : i < es.size, es[i].hash = h := by
  unfold placesWithHash
  rw [List.mem_filter, List.mem_range]
  constructor
  · rintro ⟨hi, e⟩
    refine ⟨hi, ?_⟩
    simp only [Array.getElem?_eq_getElem hi, Option.map_some] at e
    simpa using e
  · rintro ⟨hi, e⟩
    refine ⟨hi, ?_⟩
    simp only [Array.getElem?_eq_getElem hi, Option.map_some]
    simp [e]
theorem places_nodup {es : Array DictEntry} {h : Int} : (placesWithHash es.size (fun i => es[i]?.map (·.hash)) h).Nodup := by
  unfold placesWithHash
  exact List.Nodup.sublist List.filter_sublist List.nodup_range

theorem wp_ite {α : Type} {c : Prop} [Decidable c] {x y : Sem α} {Q : α → Shared → Prop} (a : wpAny (model prog w) A x Q E s) (b : wpAny (model prog w) A y Q E s) : wpAny (model prog w) A (if c then x else y) Q E s := by
  split
  · exact a
  · exact b
theorem find_any {Q : Option Nat → Shared → Prop} (hu : A.units + 8 < cLine) (hkey : NestedIs s.heap k key) (hdp : k.depth ≤ 8) (ho : s.heap.get? d = some o) (hd : o.data = .dict es ep) (K : KeysAre w s.heap ks es) (nd : ks.Nodup)
    (hno : k ∉ ks → Q none s) (hyes : ∀ j, ks[j]? = some k → Q (some j) s) : wpAny (model prog w) A (dictFind d key (k.hash w)) Q E s := by
  have nokey : ∀ P : List Nat, (∀ j, j ∈ placesWithHash es.size (fun i => es[i]?.map (·.hash)) (k.hash w) → j ∈ P) → (∀ j ∈ P, ks[j]? ≠ some k) → k ∉ ks := by
    intro P hP hn hm
    obtain ⟨j, hj⟩ := List.mem_iff_getElem?.mp hm
    obtain ⟨hi, _, e, _⟩ := K.un hj
    exact hn j (hP j (places_mem.mpr ⟨hi, e⟩)) hj
  have uniq : ∀ i j, ks[i]? = some k → ks[j]? = some k → i = j := fun i j a b => (List.getElem?_inj (List.getElem?_eq_some_iff.mp a).1 nd).mp (a.trans b.symm)
  have hst : ∀ v ∈ (placesWithHash es.size (fun i => es[i]?.map (·.hash)) (k.hash w)).filterMap (fun i => es[i]?.map (·.key)), ∃ k', NestedIs s.heap k' v ∧ k'.depth ≤ 8 := by
    intro v hv
    obtain ⟨i, hi, e⟩ := List.mem_filterMap.mp hv
    obtain ⟨hi', _⟩ := places_mem.mp hi
    rw [Array.getElem?_eq_getElem hi'] at e
    obtain ⟨k', _, h1, _, h3⟩ := K.at_ hi'
    simp at e
    rw [← e]
    exact ⟨k', h1, h3⟩
  -- one place: is the key there?
  have one : ∀ {β : Type} {R : β → Shared → Prop} (i : Nat) (f : Nat → Sem β) (g : Bool → Sem β), (hi : i < es.size) → es[i].hash = k.hash w →
      (∀ b, (b = decide (ks[i]? = some k)) → wpAny (model prog w) A (g b) R E s) →
      wpAny (model prog w) A (dictEpoch d (keyPart key) >>= fun before => PySem.eqBool es[i].key key >>= fun same => dictEpoch d (keyPart key) >>= fun after => if (after != before) = true then f after else g same) R E s := by
    intro β R i f g hi eh hg
    obtain ⟨k', e1, e2, e3, e4⟩ := K.at_ hi
    refine wpAny_bind (wpAny_dictEpoch ho hd (wpAny_bind (nested_eq hu e2 hkey e4 (wpAny_bind (wpAny_dictEpoch ho hd ?_)))))
    rw [if_neg (by simp)]
    refine hg _ ?_
    rw [e1]
    exact decide_eq_decide.mpr ⟨fun e => by rw [e], fun e => Option.some.inj e⟩
  have walkPlain : wpAny (model prog w) A (dictWalkPlain d key (k.hash w) es (placesWithHash es.size (fun i => es[i]?.map (·.hash)) (k.hash w))) Q E s := by
    unfold dictWalkPlain
    refine wpAny_bind (wpAny_forIn_list _ (fun rest b s' => s' = s ∧ b = (none, ()) ∧ ∃ pre, placesWithHash es.size (fun i => es[i]?.map (·.hash)) (k.hash w) = pre ++ rest ∧ ∀ j ∈ pre, ks[j]? ≠ some k) _ ?_ ?_ _ _ ⟨rfl, rfl, [], rfl, by simp⟩)
    · rintro x rest b s' ⟨e1, e2, pre, ep', hn⟩
      subst e1 e2
      obtain ⟨hi, eh⟩ := places_mem.mp (show x ∈ placesWithHash es.size (fun i => es[i]?.map (·.hash)) (k.hash w) by rw [ep']; simp)
      simp only [Array.getElem?_eq_getElem hi]
      rw [if_pos (by simp [eh])]
      refine one (R := _) x (fun _ => _) (fun same => _) hi eh fun b hb => ?_
      cases b with
      | true =>
        have hx : ks[x]? = some k := of_decide_eq_true hb.symm
        exact wpAny_bind (wpAny_rule (wpAny_pure (wpAny_pure (hyes x hx))))
      | false =>
        have hx : ¬ ks[x]? = some k := of_decide_eq_false hb.symm
        refine wpAny_bind (wpAny_rule (wpAny_pure ⟨rfl, rfl, pre ++ [x], by rw [ep']; simp, fun j hj => ?_⟩))
        rcases List.mem_append.mp hj with z | z
        · exact hn j z
        · rw [List.mem_singleton.mp z]; exact hx
    · rintro b s' ⟨e1, e2, pre, ep', hn⟩
      subst e1 e2
      exact wpAny_pure (hno (nokey pre (fun j hj => by rw [ep', List.append_nil] at hj; exact hj) hn))
  have hany : ∀ a : Addr, key = .ref a → ¬ (es.any fun e => e.key == Value.ref a && e.hash != k.hash w) = true := by
    intro a ea
    rw [← Array.any_toList, List.any_eq_true]
    rintro ⟨e, hin, hc⟩
    simp only [Bool.and_eq_true, beq_iff_eq, bne_iff_ne, ne_eq] at hc
    obtain ⟨i, hi, ei⟩ := Array.mem_iff_getElem.mp (Array.mem_toList_iff.mp hin)
    obtain ⟨k', _, h1, h2, _⟩ := K.at_ hi
    rw [ei, hc.1, ← ea] at h1
    rw [ei] at h2
    exact hc.2 (by rw [h2, NestedIs.inj _ _ _ h1 hkey])
  have gen : ¬ ((key :: (placesWithHash es.size (fun i => es[i]?.map (·.hash)) (k.hash w)).filterMap fun i => es[i]?.map (·.key)).all carriedByValue) = true →
      (∀ x t, key = .str x t → ¬ (es.all fun e => isExactStrKey e.key) = true) → wpAny (model prog w) A (dictFind d key (k.hash w)) Q E s := by
    intro hv hs
    unfold dictFind
    try with_reducible refine wpAny_holding ?_
    refine wpAny_bind (wpAny_dictEntries ho hd ?_)
    dsimp only
    rw [if_neg hv]
    have hkc : (∃ a, key = .ref a) ∨ (∃ x t, key = .str x t) ∨ (key = .none ∨ (∃ b, key = .bool b) ∨ ∃ i t, key = .int i t) := by
      cases hkey with
      | none => exact .inr (.inr (.inl rfl))
      | bool _ => exact .inr (.inr (.inr (.inl ⟨_, rfl⟩)))
      | int i t => exact .inr (.inr (.inr (.inr ⟨i, t, rfl⟩)))
      | text x t => exact .inr (.inl ⟨x, t, rfl⟩)
      | tup _ _ _ _ => exact .inl ⟨_, rfl⟩
    rcases hkc with ⟨a, e⟩ | ⟨x, t, e⟩ | e | ⟨b, e⟩ | ⟨i, t, e⟩ <;> (
      subst e
      dsimp only
      first | rw [if_neg (hany _ rfl)] | rw [if_neg (hs _ _ rfl)] | skip
      refine wp_ite ?_ ?_ <;> (first | refine wpAny_bind (wpAny_pure ?_) | refine wpAny_bind (tells_no hkey hdp hst ?_)) <;> (
      rw [if_neg (by simp)]
      refine wpAny_bind (wpAny_forIn_list _ (fun rest b s' => s' = s ∧ b.1 = none ∧ ∃ pre, placesWithHash es.size (fun i => es[i]?.map (·.hash)) (k.hash w) = pre ++ rest ∧ ((b.2 = none ∧ ∀ j ∈ pre, ks[j]? ≠ some k) ∨ ∃ j ∈ pre, b.2 = some j ∧ ks[j]? = some k)) _ ?_ ?_ _ _ ⟨rfl, rfl, [], rfl, .inl ⟨rfl, by simp⟩⟩)
      · rintro x rest ⟨b1, b2⟩ s' ⟨e1, e2, pre, ep', hn⟩
        simp only at e2
        subst e1 e2
        obtain ⟨hi, eh⟩ := places_mem.mp (show x ∈ placesWithHash es.size (fun i => es[i]?.map (·.hash)) (k.hash w) by rw [ep']; simp)
        have xn : x ∉ pre := fun m => by
          have := places_nodup (es := es) (h := k.hash w)
          rw [ep', List.nodup_append] at this
          exact this.2.2 x m x List.mem_cons_self rfl
        simp only [Array.getElem?_eq_getElem hi]
        rw [if_pos (by simp [eh])]
        refine one (R := _) x (fun _ => _) (fun same => _) hi eh fun b hb => ?_
        cases b with
        | true =>
          have hx : ks[x]? = some k := of_decide_eq_true hb.symm
          have hb2 : b2 = none := by
            rcases hn with ⟨z, _⟩ | ⟨j, m, z, q⟩
            · exact z
            · exact absurd (uniq x j hx q ▸ m) xn
          subst hb2
          rw [if_pos rfl]
          simp only [Option.isSome_none, Bool.false_eq_true, if_false]
          refine wpAny_bind (wpAny_rule ?_)
          split
          · exact wpAny_pure (wpAny_pure (hyes x hx))
          · exact wpAny_pure ⟨rfl, rfl, pre ++ [x], by rw [ep']; simp, .inr ⟨x, by simp, rfl, hx⟩⟩
        | false =>
          have hx : ¬ ks[x]? = some k := of_decide_eq_false hb.symm
          have fin : s' = s' ∧ (none : Option (Option Nat)) = none ∧ ∃ pre, placesWithHash es.size (fun i => es[i]?.map (·.hash)) (k.hash w) = pre ++ rest ∧ ((b2 = none ∧ ∀ j ∈ pre, ks[j]? ≠ some k) ∨ ∃ j ∈ pre, b2 = some j ∧ ks[j]? = some k) := by
            refine ⟨rfl, rfl, pre ++ [x], by rw [ep']; simp, ?_⟩
            rcases hn with ⟨z, q⟩ | ⟨j, m, z, q⟩
            · refine .inl ⟨z, fun j hj => ?_⟩
              rcases List.mem_append.mp hj with y | y
              · exact q j y
              · rw [List.mem_singleton.mp y]; exact hx
            · exact .inr ⟨j, List.mem_append_left _ m, z, q⟩
          simp only [Bool.false_eq_true, if_false]
          refine wpAny_bind (wpAny_rule ?_)
          first | rw [if_neg (by simp)] | skip
          first
            | exact wpAny_pure fin
            | exact wpAny_bind (wpAny_pure (wpAny_pure fin))
      · rintro ⟨b1, b2⟩ s' ⟨e1, e2, pre, ep', hn⟩
        simp only at e2
        subst e1 e2
        rcases hn with ⟨z, q⟩ | ⟨j, m, z, q⟩
        · simp only at z
          subst z
          exact wpAny_pure (hno (nokey pre (fun j hj => by rw [ep', List.append_nil] at hj; exact hj) q))
        · simp only at z
          subst z
          exact wpAny_pure (hyes j q)))
  by_cases hv : ((key :: (placesWithHash es.size (fun i => es[i]?.map (·.hash)) (k.hash w)).filterMap fun i => es[i]?.map (·.key)).all carriedByValue) = true
  · by_cases hs : ∃ x t, key = .str x t ∧ (es.all fun e => isExactStrKey e.key) = true
    · obtain ⟨x, t, rfl, hs⟩ := hs
      have ek := text_key hkey
      subst ek
      unfold dictFind
      try with_reducible refine wpAny_holding ?_
      refine wpAny_bind (wpAny_dictEntries ho hd ?_)
      dsimp only
      rw [if_pos hv, if_pos hs]
      unfold foundByValue
      cases hf : es.findIdx? (fun e => e.key.isStr x) with
      | none =>
        refine wpAny_pure (hno fun hm => ?_)
        obtain ⟨j, hj⟩ := List.mem_iff_getElem?.mp hm
        obtain ⟨hi, e1, _⟩ := K.un hj
        have := Array.findIdx?_eq_none_iff.mp hf es[j] (Array.getElem_mem hi)
        rw [isStr_key e1] at this
        simp at this
      | some i =>
        obtain ⟨hlt, hi, _⟩ := Array.findIdx?_eq_some_iff_getElem.mp hf
        obtain ⟨k', e1, e2, e3, e4⟩ := K.at_ hlt
        rw [isStr_key e2] at hi
        have hkk := of_decide_eq_true hi
        subst hkk
        simp only [Array.getElem?_eq_getElem hlt]
        refine wpAny_bind (wpAny_dictEpoch ho hd (wpAny_bind (nested_eq hu e2 hkey e4 (wpAny_bind (wpAny_dictEpoch ho hd ?_)))))
        rw [if_neg (by simp), decide_eq_true rfl]
        exact wpAny_bind (wpAny_rule (wpAny_pure (hyes i e1)))
    · unfold dictFind
      try with_reducible refine wpAny_holding ?_
      refine wpAny_bind (wpAny_dictEntries ho hd ?_)
      dsimp only
      rw [if_pos hv]
      split
      · rename_i x t
        split
        · rename_i hall
          exact absurd ⟨x, t, rfl, hall⟩ hs
        · exact walkPlain
      · exact walkPlain
  · refine gen hv fun x t e hall => hv ?_
    rw [List.all_eq_true]
    intro v hv'
    rcases List.mem_cons.mp hv' with z | z
    · rw [z, e]; rfl
    · obtain ⟨i, hi, e'⟩ := List.mem_filterMap.mp z
      obtain ⟨hi', _⟩ := places_mem.mp hi
      rw [Array.getElem?_eq_getElem hi'] at e'
      simp at e'
      rw [← e']
      rw [← Array.all_toList, List.all_eq_true] at hall
      have := hall es[i] (Array.mem_toList_iff.mpr (Array.getElem_mem hi'))
      revert this
      cases es[i].key <;> intro q <;> first | rfl | cases q

theorem get_any {Q : Option Value → Shared → Prop} (hu : A.units + 8 < cLine) (hkey : NestedIs s.heap k key) (hdp : k.depth ≤ 8) (hm : s.heap.DictRaw d es ep) (K : KeysAre w s.heap ks es) (nd : ks.Nodup)
    (hno : k ∉ ks → Q none { s with toks := s.toks + k.draws }) (hyes : ∀ (j : Nat) (e : DictEntry), ks[j]? = some k → es[j]? = some e → Q (some e.val) { s with toks := s.toks + k.draws }) : wpAny (model prog w) A (dictGet d key) Q E s := by
  obtain ⟨o, ho, _, hd⟩ := hm
  unfold dictGet
  try with_reducible refine wpAny_holding ?_
  refine wpAny_bind (pyHash_key _ _ _ _ _ hkey (by omega) (wpAny_bind (find_any (s := { s with toks := s.toks + k.draws }) hu hkey hdp ho hd K nd (fun n => ?_) fun j hj => ?_)))
  · exact wpAny_pure (hno n)
  · obtain ⟨hi, _⟩ := K.un hj
    refine wpAny_bind (wpAny_dictEntries (s := { s with toks := s.toks + k.draws }) ho hd ?_)
    rw [Array.getElem?_eq_getElem hi]
    exact wpAny_pure (hyes j _ hj (Array.getElem?_eq_getElem hi))
theorem set_any {v : Value} {Q : Unit → Shared → Prop} (hu : A.units + 8 < cLine) (hkey : NestedIs s.heap k key) (hdp : k.depth ≤ 8) (hm : s.heap.DictRaw d es ep) (K : KeysAre w s.heap ks es) (nd : ks.Nodup) (hz : es.size ≤ sizeLine)
    (hnew : k ∉ ks → ∀ h', h'.DictRaw d (es.push ⟨k.hash w, key, v⟩) (ep + 1) → Heap.SameBut d s.heap h' → Q () { s with heap := h', toks := s.toks + k.draws })
    (hold : ∀ j, ks[j]? = some k → ∀ h', h'.DictRaw d (es.modify j fun e => { e with val := v }) ep → Heap.SameBut d s.heap h' → Q () { s with heap := h', toks := s.toks + k.draws }) :
    wpAny (model prog w) A (dictSet d key v) Q E s := by
  obtain ⟨o, ho, hc, hd⟩ := hm
  unfold dictSet
  try with_reducible refine wpAny_holding ?_
  refine wpAny_bind (pyHash_key _ _ _ _ _ hkey (by omega) ?_)
  unfold dictSetHashed
  try with_reducible refine wpAny_holding ?_
  refine wpAny_bind (find_any (s := { s with toks := s.toks + k.draws }) hu hkey hdp ho hd K nd (fun n => ?_) fun j hj => ?_)
  · exact wpAny_bind (wpAny_rule (wpAny_updateDictKeys (hz := hz) (s := { s with toks := s.toks + k.draws }) ho hd (hnew n _ ⟨_, Heap.get?_update_self _ ho (Obj.isFreed_of_dict (Obj.data_mapDictKeys hd _)),
      hc.mapDictKeys _, Obj.data_mapDictKeys hd _⟩ (Heap.SameBut.update ..))))
  · exact wpAny_bind (wpAny_rule (wpAny_bind (wpAny_updateDict (s := { s with toks := s.toks + k.draws }) ho hd (wpAny_point (hold j hj _ ⟨_, Heap.get?_update_self _ ho (Obj.isFreed_of_dict (Obj.data_mapDict hd _)),
      hc.mapDict _, Obj.data_mapDict hd _⟩ (Heap.SameBut.update ..))))))
theorem in_any {Q : Value → Shared → Prop} (neg : Bool) (hu : A.in1.units + 8 < cLine) (hkey : NestedIs s.heap k key) (hdp : k.depth ≤ 8) (hd : (d == sysModules) = false) (hm : s.heap.DictRaw d es ep) (K : KeysAre w s.heap ks es) (nd : ks.Nodup)
    (h : Q (.bool (if neg = true then !decide (k ∈ ks) else decide (k ∈ ks))) { s with toks := s.toks + k.draws }) : wpAny (model prog w) A (compareOp (if neg = true then .NotIn else .In) key (.ref d)) Q E s := by
  have core : ∀ R : Bool → Shared → Prop, R (decide (k ∈ ks)) { s with toks := s.toks + k.draws } → wpAny (model prog w) A (contains (.ref d) key) R E s := by
    intro R h
    unfold contains
    try with_reducible refine wpAny_holding ?_
    refine wpAny_bind (wpAny_specialOf hm.typeIs slot_dict_contains.lookup ?_)
    show wpAny _ _ (if (some (Value.builtin "dict.__contains__") == some Value.none) = true then _ else _) _ E s
    rw [if_neg (by rw [beq_builtin_none]; exact Bool.false_ne_true)]
    refine wpAny_bind (wpAny_callSpecialUnlessNone?_slot (name := Str.ofString "__contains__") hm.typeIs slot_dict_contains
      (wpAny_call_entry slot_dict_contains hm.typeIs entry_dict_contains ?_ (args_dict_contains _ _)))
    show wpAny _ _ (dictGet d key >>= _) _ _ s
    refine wpAny_bind (get_any hu hkey hdp hm K nd (fun n => ?_) fun j e hj he => ?_)
    · rw [decide_eq_false n] at h
      show wpAny _ _ (Builtin.Dict.pendingKey? d key >>= _) _ _ _
      exact wpAny_bind (wpAny_pendingKey_other hd (wpAny_pure ⟨_, rfl, wpAny_truthy_bool h⟩))
    · rw [decide_eq_true (List.mem_of_getElem? hj)] at h
      show wpAny _ _ (ret (.bool true)) _ _ _
      exact wpAny_pure ⟨_, rfl, wpAny_truthy_bool h⟩
  cases neg with
  | false => exact wpAny_bind (core _ (wpAny_pure h))
  | true => exact wpAny_bind (core _ (wpAny_pure h))
theorem getItem_any {Q : Value → Shared → Prop} {j : Nat} {e : DictEntry} (hu : A.in1.units + 8 < cLine) (hkey : NestedIs s.heap k key) (hdp : k.depth ≤ 8) (hm : s.heap.DictRaw d es ep) (K : KeysAre w s.heap ks es) (nd : ks.Nodup)
    (hj : ks[j]? = some k) (he : es[j]? = some e) (h : Q e.val { s with toks := s.toks + k.draws }) : wpAny (model prog w) A (getItem (.ref d) key) Q E s := by
  unfold getItem
  try with_reducible refine wpAny_holding ?_
  refine wpAny_bind (wpAny_sequenceKey hm.typeIs (by decide) ?_)
  refine wpAny_bind (wpAny_callSpecial?_slot (name := Str.ofString "__getitem__") hm.typeIs slot_dict_getitem
    (wpAny_call_entry slot_dict_getitem hm.typeIs entry_dict_getitem ?_ (args_dict_getitem _ _)))
  show wpAny _ _ (dictGet d key >>= _) _ _ s
  refine wpAny_bind (get_any hu hkey hdp hm K nd (fun n => absurd (List.mem_of_getElem? hj) n) fun j' e' hj' he' => ?_)
  have : j' = j := (List.getElem?_inj (List.getElem?_eq_some_iff.mp hj').1 nd).mp (hj'.trans hj.symm)
  subst this
  rw [he] at he'
  cases he'
  exact wpAny_pure ⟨e.val, rfl, wpAny_pure h⟩
theorem setItem_any {v : Value} {Q : Unit → Shared → Prop} (hu : A.in1.units + 8 < cLine) (hkey : NestedIs s.heap k key) (hdp : k.depth ≤ 8) (hm : s.heap.DictRaw d es ep) (K : KeysAre w s.heap ks es) (nd : ks.Nodup) (hz : es.size ≤ sizeLine)
    (hnew : k ∉ ks → ∀ h', h'.DictRaw d (es.push ⟨k.hash w, key, v⟩) (ep + 1) → Heap.SameBut d s.heap h' → Q () { s with heap := h', toks := s.toks + k.draws })
    (hold : ∀ j, ks[j]? = some k → ∀ h', h'.DictRaw d (es.modify j fun e => { e with val := v }) ep → Heap.SameBut d s.heap h' → Q () { s with heap := h', toks := s.toks + k.draws }) :
    wpAny (model prog w) A (setItem (.ref d) key v) Q E s := by
  unfold setItem
  try with_reducible refine wpAny_holding ?_
  refine wpAny_bind (wpAny_sequenceKey hm.typeIs (by decide) ?_)
  refine wpAny_bind (wpAny_callSpecial?_slot (name := Str.ofString "__setitem__") hm.typeIs slot_dict_setitem
    (wpAny_call_entry slot_dict_setitem hm.typeIs entry_dict_setitem ?_ (args_dict_setitem _ _ _)))
  show wpAny _ _ (Builtin.Dict.notOrdered "__setitem__" ⟨[.ref d, key, v], []⟩ >>= _) _ _ s
  refine wpAny_bind (wpAny_notOrdered_dict hm.typeIs ?_)
  show wpAny _ _ (dictSet d key v >>= _) _ _ s
  exact wpAny_bind (set_any hu hkey hdp hm K nd hz (fun n h' m sb => wpAny_pure ⟨.none, rfl, wpAny_pure (hnew n h' m sb)⟩) fun j hj h' m sb => wpAny_pure ⟨.none, rfl, wpAny_pure (hold j hj h' m sb)⟩)
/-- d.get(k, x) -/
theorem getD_any (dflt : Value) {Q : Value → Shared → Prop} (more : List Value) (hmore : (more = [] ∧ dflt = .none) ∨ more = [dflt]) (hu : A.in1.units + 8 < cLine) (hkey : NestedIs s.heap k key) (hdp : k.depth ≤ 8) (hd : (d == sysModules) = false) (hm : s.heap.DictRaw d es ep) (K : KeysAre w s.heap ks es) (nd : ks.Nodup)
    (hno : k ∉ ks → Q dflt { s with toks := s.toks + k.draws }) (hyes : ∀ (j : Nat) (e : DictEntry), ks[j]? = some k → es[j]? = some e → Q e.val { s with toks := s.toks + k.draws }) :
    wpAny (model prog w) A (call (.builtin "dict.get") (.ref d :: key :: more)) Q E s := by
  have me : MeetsIn prog w (Builtin.«dict.get» ⟨.ref d :: key :: more, []⟩) (fun A' R s' => A'.in1.units + 8 < cLine ∧ s' = s ∧ (k ∉ ks → R (.ok (.ret dflt)) { s with toks := s.toks + k.draws }) ∧
      (∀ (j : Nat) (e : DictEntry), ks[j]? = some k → es[j]? = some e → R (.ok (.ret e.val)) { s with toks := s.toks + k.draws })) := .of_wp fun A' R s' ⟨hu', e0, a, b⟩ => by
    subst e0
    rcases hmore with ⟨rfl, rfl⟩ | rfl
    · show wpAny _ _ (dictGet d key >>= _) _ _ s'
      refine wpAny_bind (get_any hu' hkey hdp hm K nd (fun n => ?_) fun j e hj he => ?_)
      · show wpAny _ _ (Builtin.Dict.missed d key >>= _) _ _ _
        exact wpAny_bind (wpAny_missed_other hd (wpAny_pure ⟨_, rfl, a n⟩))
      · exact wpAny_pure ⟨_, rfl, b j e hj he⟩
    · show wpAny _ _ (dictGet d key >>= _) _ _ s'
      refine wpAny_bind (get_any hu' hkey hdp hm K nd (fun n => ?_) fun j e hj he => ?_)
      · show wpAny _ _ (Builtin.Dict.missed d key >>= _) _ _ _
        exact wpAny_bind (wpAny_missed_other hd (wpAny_pure ⟨_, rfl, a n⟩))
      · exact wpAny_pure ⟨_, rfl, b j e hj he⟩
  refine call_meetsIn F.slot_dict_get hm.typeIs F.entry_dict_get ?_ me ⟨hu, rfl, fun n => ?_, fun j e hj he => ?_⟩
  · rcases hmore with ⟨rfl, rfl⟩ | rfl
    · exact F.args_dict_get_2 _ _
    · exact F.args_dict_get_3 _ _ _
  · exact hno n
  · exact hyes j e hj he
theorem len_any {Q : Value → Shared → Prop} (hd : (d == sysModules) = false) (hm : s.heap.DictRaw d es ep) (hz : es.size ≤ sizeLine) (h : Q (.int es.size (s.toks + 1)) { s with toks := s.toks + 1 + 1 }) : wpAny (model prog w) A (call (.builtin "len") [.ref d]) Q E s := by
  rw [sizeLine_eq] at hz
  exact PyProof.Rows.call_len_slot (n := es.size) hm.typeIs F.slot_dict_len (fun Q' hq => call_len_raw hd hm hq) (by omega) (by omega) h
end
end Pl
set_option Elab.async false
set_option linter.all false
set_option maxRecDepth 100000
set_option maxHeartbeats 999999
/-! tables: a dict's entries with their keys. -/
namespace Pl
open PySem
open Sem (wp)
abbrev Tab := List (NestedKey × DictEntry)
def TabAt (h : Heap) (d : Addr) (T : Tab) : Prop := ∃ ep, h.DictRaw d (T.map (·.2)).toArray ep
def TabOk (w : World) (h : Heap) (T : Tab) : Prop := (T.map (·.1)).Nodup ∧ ∀ p ∈ T, NestedIs h p.1 p.2.key ∧ p.2.hash = p.1.hash w ∧ p.1.depth ≤ 8
def tget : Tab → NestedKey → Option Value
  | [], _ => none
  | (k, e) :: r, x => if k = x then some e.val else tget r x
def tput : Tab → NestedKey → DictEntry → Tab
  | [], x, y => [(x, y)]
  | (k, e) :: r, x, y => if k = x then (k, { e with val := y.val }) :: r else (k, e) :: tput r x y
section
variable {prog : Program} {w : World} {A : Around} {E : Value → Shared → Prop} {s : Shared} {d : Addr} {T : Tab} {k : NestedKey} {key : Value} {h : Heap}
theorem TabOk.keys (K : TabOk w h T) : KeysAre w h (T.map (·.1)) (T.map (·.2)).toArray := by
  refine ⟨by simp, fun i k e e1 e2 => ?_⟩
  rw [List.getElem?_map, Option.map_eq_some_iff] at e1
  obtain ⟨p, hp, rfl⟩ := e1
  have e3 : (T.map (·.2))[i]? = some e := by simpa using e2
  rw [List.getElem?_map, hp] at e3
  cases e3
  exact K.2 p (List.mem_of_getElem? hp)
theorem tget_none : ∀ {T : Tab}, k ∉ T.map (·.1) → tget T k = none
  | [], _ => rfl
  | (j, e) :: r, hn => by
    rw [List.map_cons, List.mem_cons, not_or] at hn
    unfold tget
    rw [if_neg (fun z => hn.1 z.symm)]
    exact tget_none hn.2
theorem tget_some : ∀ {T : Tab} {j : Nat} {e : DictEntry}, (T.map (·.1)).Nodup → (T.map (·.1))[j]? = some k → (T.map (·.2))[j]? = some e → tget T k = some e.val
  | [], j, e, _, e1, _ => by simp at e1
  | (x, y) :: r, 0, e, nd, e1, e2 => by
    simp at e1 e2
    subst e1 e2
    unfold tget
    rw [if_pos rfl]
  | (x, y) :: r, j + 1, e, nd, e1, e2 => by
    have hn := List.nodup_cons.mp nd
    have e1' : (r.map (·.1))[j]? = some k := by simpa using e1
    unfold tget
    rw [if_neg (fun z => hn.1 (by show x ∈ r.map (·.1); rw [z]; exact List.mem_of_getElem? e1'))]
    exact tget_some hn.2 e1' (by simpa using e2)
theorem tput_new {y : DictEntry} : ∀ {T : Tab}, k ∉ T.map (·.1) → tput T k y = T ++ [(k, y)]
  | [], _ => rfl
  | (j, e) :: r, hn => by
    rw [List.map_cons, List.mem_cons, not_or] at hn
    unfold tput
    rw [if_neg (fun z => hn.1 z.symm), tput_new hn.2]
    rfl
theorem tput_old {y : DictEntry} : ∀ {T : Tab} {j : Nat}, (T.map (·.1)).Nodup → (T.map (·.1))[j]? = some k → (tput T k y).map (·.2) = (T.map (·.2)).modify j fun e => { e with val := y.val }
  | [], j, _, e1 => by simp at e1
  | (x, e) :: r, 0, nd, e1 => by
    simp at e1
    subst e1
    unfold tput
    rw [if_pos rfl]
    rfl
  | (x, e) :: r, j + 1, nd, e1 => by
    have hn := List.nodup_cons.mp nd
    have e1' : (r.map (·.1))[j]? = some k := by simpa using e1
    unfold tput
    rw [if_neg (fun z => hn.1 (by show x ∈ r.map (·.1); rw [z]; exact List.mem_of_getElem? e1'))]
    simp only [List.map_cons, List.modify_succ_cons]
    rw [tput_old hn.2 e1']
theorem tput_keys {y : DictEntry} : ∀ {T : Tab}, (tput T k y).map (·.1) = if k ∈ T.map (·.1) then T.map (·.1) else T.map (·.1) ++ [k]
  | [] => by simp [tput]
  | (x, e) :: r => by
    unfold tput
    by_cases z : x = k
    · subst z; simp
    · rw [if_neg z, List.map_cons, tput_keys (T := r)]
      have z' : ¬ k = x := fun q => z q.symm
      by_cases m : k ∈ r.map (·.1)
      · rw [if_pos m, if_pos (by rw [List.map_cons]; exact List.mem_cons_of_mem _ m)]; rfl
      · rw [if_neg m, if_neg (by rw [List.map_cons, List.mem_cons, not_or]; exact ⟨z', m⟩)]; rfl
theorem tput_nodup {y : DictEntry} (nd : (T.map (·.1)).Nodup) : ((tput T k y).map (·.1)).Nodup := by
  rw [tput_keys]
  split
  · exact nd
  · rename_i m
    rw [List.nodup_append]
    exact ⟨nd, by simp, fun a ha b hb => by rw [List.mem_singleton.mp hb]; rintro rfl; exact m ha⟩
theorem tput_length {y : DictEntry} : (tput T k y).length ≤ T.length + 1 := by
  have := congrArg List.length (tput_keys (T := T) (k := k) (y := y))
  rw [List.length_map] at this
  rw [this]
  split <;> simp
theorem tput_mem {y : DictEntry} {p : NestedKey × DictEntry} : ∀ {T : Tab}, p ∈ tput T k y → (∃ q ∈ T, p.1 = q.1 ∧ p.2.key = q.2.key ∧ p.2.hash = q.2.hash) ∨ p = (k, y)
  | [], m => .inr (List.mem_singleton.mp m)
  | (x, e) :: r, m => by
    unfold tput at m
    split at m
    · rcases List.mem_cons.mp m with z | z
      · rw [z]; exact .inl ⟨(x, e), List.mem_cons_self, rfl, rfl, rfl⟩
      · exact .inl ⟨p, List.mem_cons_of_mem _ z, rfl, rfl, rfl⟩
    · rcases List.mem_cons.mp m with z | z
      · rw [z]; exact .inl ⟨(x, e), List.mem_cons_self, rfl, rfl, rfl⟩
      · rcases tput_mem z with ⟨q, hq, r1⟩ | r1
        · exact .inl ⟨q, List.mem_cons_of_mem _ hq, r1⟩
        · exact .inr r1
theorem TabAt.typeIs {s : Shared} (x : TabAt s.heap d T) : s.TypeIs (.ref d) "dict" := let ⟨_, hm⟩ := x; hm.typeIs
theorem TabAt.mono {h h' : Heap} (x : TabAt h d T) (e : ∀ o, h.get? d = some o → h'.get? d = some o) : TabAt h' d T := let ⟨ep, hm⟩ := x; ⟨ep, hm.at e⟩
theorem TabAt.there {h : Heap} (x : TabAt h d T) : ∃ o, h.get? d = some o := let ⟨_, o, ho, _⟩ := x; ⟨o, ho⟩
theorem nested_same {h h' : Heap} (hs : Heap.SameBut d h h') (x : TabAt h d T) {k : NestedKey} {v : Value} (hk : NestedIs h k v) : NestedIs h' k v := by
  obtain ⟨ep, o, ho, _, hd⟩ := x
  refine NestedIs.at (fun b ob vs n hb hc => ?_) k v hk
  refine (hs.2 b fun e => ?_).trans hb
  subst e
  rw [ho] at hb
  cases hb
  rw [hd] at hc
  cases hc
theorem TabOk.put {h h' : Heap} (hs : Heap.SameBut d h h') (x : TabAt h d T) (K : TabOk w h T) {v : Value} (hkey : NestedIs h k key) (hdp : k.depth ≤ 8) : TabOk w h' (tput T k ⟨k.hash w, key, v⟩) := by
  refine ⟨tput_nodup K.1, fun p m => ?_⟩
  rcases tput_mem m with ⟨q, hq, e1, e2, e3⟩ | rfl
  · obtain ⟨a, b, c⟩ := K.2 q hq
    exact ⟨by rw [e1, e2]; exact nested_same hs x a, by rw [e3, e1]; exact b, by rw [e1]; exact c⟩
  · exact ⟨nested_same hs x hkey, rfl, hdp⟩
theorem dset_tab {v : Value} {Q : Unit → Shared → Prop} (hu : A.units + 8 < cLine) (hkey : NestedIs s.heap k key) (hdp : k.depth ≤ 8) (hm : TabAt s.heap d T) (K : TabOk w s.heap T) (hz : T.length ≤ sizeLine)
    (h : ∀ h' tk, TabAt h' d (tput T k ⟨k.hash w, key, v⟩) → Heap.SameBut d s.heap h' → Q () { s with heap := h', toks := tk }) : wpAny (model prog w) A (dictSet d key v) Q E s := by
  obtain ⟨ep, hm⟩ := hm
  refine set_any hu hkey hdp hm K.keys K.1 (by simpa using hz) (fun n h' m sb => ?_) fun j hj h' m sb => ?_
  · exact h h' _ ⟨ep + 1, by rw [tput_new n]; simpa using m⟩ sb
  · exact h h' _ ⟨ep, by rw [tput_old K.1 hj]; simpa using m⟩ sb
theorem set_tab {v : Value} {Q : Unit → Shared → Prop} (hu : A.in1.units + 8 < cLine) (hkey : NestedIs s.heap k key) (hdp : k.depth ≤ 8) (hm : TabAt s.heap d T) (K : TabOk w s.heap T) (hz : T.length ≤ sizeLine)
    (h : ∀ h' tk, TabAt h' d (tput T k ⟨k.hash w, key, v⟩) → Heap.SameBut d s.heap h' → Q () { s with heap := h', toks := tk }) : wpAny (model prog w) A (setItem (.ref d) key v) Q E s := by
  obtain ⟨ep, hm⟩ := hm
  refine setItem_any hu hkey hdp hm K.keys K.1 (by simpa using hz) (fun n h' m sb => ?_) fun j hj h' m sb => ?_
  · exact h h' _ ⟨ep + 1, by rw [tput_new n]; simpa using m⟩ sb
  · exact h h' _ ⟨ep, by rw [tput_old K.1 hj]; simpa using m⟩ sb
theorem in_tab {Q : Value → Shared → Prop} (neg : Bool) (hu : A.in1.units + 8 < cLine) (hkey : NestedIs s.heap k key) (hdp : k.depth ≤ 8) (hd : (d == sysModules) = false) (hm : TabAt s.heap d T) (K : TabOk w s.heap T)
    (h : ∀ tk, Q (.bool (if neg = true then !(tget T k).isSome else (tget T k).isSome)) { s with toks := tk }) : wpAny (model prog w) A (compareOp (if neg = true then .NotIn else .In) key (.ref d)) Q E s := by
  obtain ⟨ep, hm⟩ := hm
  refine in_any neg hu hkey hdp hd hm K.keys K.1 ?_
  have e : decide (k ∈ T.map (·.1)) = (tget T k).isSome := by
    by_cases m : k ∈ T.map (·.1)
    · obtain ⟨j, hj⟩ := List.mem_iff_getElem?.mp m
      have hl : j < T.length := by have := (List.getElem?_eq_some_iff.mp hj).1; simpa using this
      rw [tget_some K.1 hj (List.getElem?_eq_getElem (by simpa using hl)), decide_eq_true m]; rfl
    · rw [tget_none m, decide_eq_false m]; rfl
  rw [e]
  exact h _
theorem item_tab {v : Value} {Q : Value → Shared → Prop} (hu : A.in1.units + 8 < cLine) (hkey : NestedIs s.heap k key) (hdp : k.depth ≤ 8) (hm : TabAt s.heap d T) (K : TabOk w s.heap T) (e : tget T k = some v)
    (h : ∀ tk, Q v { s with toks := tk }) : wpAny (model prog w) A (getItem (.ref d) key) Q E s := by
  obtain ⟨ep, hm⟩ := hm
  by_cases m : k ∈ T.map (·.1)
  · obtain ⟨j, hj⟩ := List.mem_iff_getElem?.mp m
    have hl : j < T.length := by have := (List.getElem?_eq_some_iff.mp hj).1; simpa using this
    have e2 : (T.map (·.2))[j]? = some T[j].2 := by rw [List.getElem?_map, List.getElem?_eq_getElem hl]; rfl
    rw [tget_some K.1 hj e2] at e
    cases e
    exact getItem_any hu hkey hdp hm K.keys K.1 hj (by simpa using e2) (h _)
  · rw [tget_none m] at e
    cases e
theorem get_tab (dflt : Value) {Q : Value → Shared → Prop} (more : List Value) (hmore : (more = [] ∧ dflt = .none) ∨ more = [dflt]) (hu : A.in1.units + 8 < cLine) (hkey : NestedIs s.heap k key) (hdp : k.depth ≤ 8) (hd : (d == sysModules) = false) (hm : TabAt s.heap d T) (K : TabOk w s.heap T)
    (h : ∀ tk, Q ((tget T k).getD dflt) { s with toks := tk }) : wpAny (model prog w) A (call (.builtin "dict.get") (.ref d :: key :: more)) Q E s := by
  obtain ⟨ep, hm⟩ := hm
  refine getD_any dflt more hmore hu hkey hdp hd hm K.keys K.1 (fun n => ?_) fun j e hj he => ?_
  · rw [tget_none n] at h
    exact h _
  · rw [tget_some K.1 hj (by simpa using he)] at h
    exact h _
theorem len_tab {Q : Value → Shared → Prop} (hd : (d == sysModules) = false) (hm : TabAt s.heap d T) (hz : T.length ≤ sizeLine) (h : ∀ t tk, Q (.int T.length t) { s with toks := tk }) : wpAny (model prog w) A (call (.builtin "len") [.ref d]) Q E s := by
  obtain ⟨ep, hm⟩ := hm
  refine len_any hd hm (by simpa using hz) ?_
  have e : ((T.map (·.2)).toArray.size : Int) = (T.length : Int) := by simp
  rw [e]
  exact h _ _
theorem TabAt.new (h : Heap) : TabAt (h.push { cls := .type "dict", data := .dict #[] }) h.objs.size [] := ⟨0, _, Heap.get?_push_size _ rfl, ⟨rfl, rfl, rfl⟩, rfl⟩
/-! displays -/
inductive Carry (h : Heap) : List (Value × Value) → List (NestedKey × Value × Value) → Prop
  | nil : Carry h [] []
  | cons {a b : Value} {k : NestedKey} {vs ps} : NestedIs h k a → k.depth ≤ 8 → Carry h vs ps → Carry h ((a, b) :: vs) ((k, a, b) :: ps)
def tputs (w : World) (T : Tab) : List (NestedKey × Value × Value) → Tab
  | [] => T
  | (k, a, b) :: r => tputs w (tput T k ⟨k.hash w, a, b⟩) r
theorem Carry.same {h h' : Heap} (hs : Heap.SameBut d h h') (x : TabAt h d T) : ∀ {vs ps}, Carry h vs ps → Carry h' vs ps
  | _, _, .nil => .nil
  | _, _, .cons a b c => .cons (nested_same hs x a) b (Carry.same hs x c)
theorem storeAll_tab (hu : A.units + 8 < cLine) : ∀ (vs : List (Value × Value)) (ps : List (NestedKey × Value × Value)) (T : Tab) (s : Shared) (Q : PUnit → Shared → Prop), Carry s.heap vs ps → TabAt s.heap d T → TabOk w s.heap T → T.length + ps.length ≤ sizeLine →
    (∀ h' tk, TabAt h' d (tputs w T ps) → Heap.SameBut d s.heap h' → Q PUnit.unit { s with heap := h', toks := tk }) →
    wpAny (model prog w) A (forIn vs PUnit.unit fun (x : Value × Value) (_ : PUnit) => (do dictSet d x.1 x.2; pure (ForInStep.yield PUnit.unit) : Sem (ForInStep PUnit))) Q E s
  | [], _, T, s, Q, .nil, hm, _, _, hQ => by
    rw [List.forIn_nil]
    exact wpAny_pure (hQ s.heap s.toks hm (Heap.SameBut.refl _ _))
  | (a, b) :: vs, _, T, s, Q, .cons (k := k0) (ps := ps) hk hdp hc, hm, K, hz, hQ => by
    rw [List.length_cons] at hz
    rw [List.forIn_cons]
    refine wpAny_bind (wpAny_bind (dset_tab hu hk hdp hm K (by omega) fun h' tk m sb => wpAny_pure ?_))
    exact storeAll_tab hu vs ps _ _ Q (hc.same sb hm) m (K.put sb hm hk hdp) (by have := tput_length (T := T) (k := k0) (y := ⟨NestedKey.hash w k0, a, b⟩); show (tput T k0 ⟨NestedKey.hash w k0, a, b⟩).length + _ ≤ _; omega) fun h2 tk2 m2 sb2 => hQ h2 tk2 m2 (sb.trans sb2)
theorem disp_tab {keys : List (Option PySem.Expr)} {values : List PySem.Expr} {pos : Pos} {env : Env} {Q : Value → Shared → Prop} (hu : A.units + 8 < cLine)
    (hall : keys.all (·.isSome) = true) (hl : keys.length = values.length) (h0 : keys ≠ []) (hlen : keys.length ≤ 15)
    (h : wpAny (model prog w) A (evalPairs (pairTrees keys values env pos)) (fun vs s₁ => ∃ ps, Carry s₁.heap vs ps ∧ ps.length ≤ 15 ∧ TabAt s₁.heap s.heap.objs.size [] ∧
      ∀ h' tk, TabAt h' s.heap.objs.size (tputs w [] ps) → Heap.SameBut s.heap.objs.size s₁.heap h' → Q (.ref s.heap.objs.size) { s₁ with heap := h', toks := tk }) E
      { s with heap := s.heap.push { cls := .type "dict", data := .dict #[] } }) :
    wpAny (model prog w) A (eval (.Dict keys values pos) env) Q E s := by
  have hn := pairTrees_length keys values env pos hall hl
  have hne : pairTrees keys values env pos ≠ [] := fun he => by
    rw [he] at hn
    exact h0 (List.length_eq_zero_iff.mp hn.symm)
  rw [arm_eval_Dict, zip_pairTrees keys values env pos hall hl, dictDisplay_pairs _ hne (by omega)]
  refine wpAny_bind (wpAny_standAt (wpAny_bind ?_))
  unfold subDict
  refine wpAny_bind (wpAny_alloc ?_)
  refine wpAny_bind (wpAny_holding ?_)
  rw [if_pos (by rw [hn]; exact hlen)]
  refine wpAny_bind (wpAny_mono h (fun vs s₁ h₁ => ?_) fun _ _ e => e)
  obtain ⟨ps, hc, hp, hm, hQ⟩ := h₁
  refine wpAny_holding ?_
  exact wpAny_bind (storeAll_tab hu vs ps [] s₁ _ hc hm ⟨by simp, by simp⟩ (by rw [sizeLine_eq, List.length_nil]; omega) fun h' tk hm' hs' => wpAny_pure (wpAny_pure (wpAny_pure (hQ h' tk hm' hs'))))
end
end Pl
set_option Elab.async false
set_option linter.all false
set_option maxRecDepth 100000
/-! Pl: a small language. Plain values, a plain heap of changeable lists, its syntax, its reading. -/
namespace Pl
open PySem L2

/-- a plain value; lst: a list that nobody changes; ro: a list that stands ahead of the call; mr: a changeable object of the plain heap -/
inductive U where
  | non | bl (b : Bool) | int (i : Int) | str (x : Str) | tup (xs : List U) | lst (xs : List U) | ro (xs : List U) | mr (n : Nat) | fn (f : Str)
deriving Inhabited

inductive O where
  | lst (xs : List U)
  | dic (kvs : List (U × U))
  | ins (cls : Str) (fs : List (Str × U))
deriving Inhabited

abbrev Hu := List O
abbrev Sg := List (Option U)
structure Ex where
  cls : Str
  val : Option U

inductive Bo | add | sub | mul | fdiv | mod | pow
deriving DecidableEq
inductive Co | eq | ne | lt | le | gt | ge | isN | notN | inn | nin
deriving DecidableEq
inductive Ty | tup | lst | int | bl | str | dic
deriving DecidableEq
/-- built-in functions by name -/
inductive Bi | len | int | bool | tuple | list | all | any | max2 | min2 | max1 | min1 | sum | sorted | abs | str
deriving DecidableEq
/-- methods of built-in types -/
inductive Mt | append | index | pop0 | pop1 | extend | insert | get1 | get2
deriving DecidableEq

mutual
inductive X where
  | cst (u : U)
  | var (i : Nat)
  | bin (op : Bo) (m : Bool) (a b : X)
  | neg (a : X)
  | not (a : X)
  | bop (isAnd : Bool) (es : Xs)
  | cmp (op : Co) (a b : X)
  | cmp2 (op op' : Co) (a b c : X)
  | ife (c a b : X)
  | call (f : Str) (es : Xs)
  | bi (f : Bi) (m : Bool) (es : Xs)
  | isi (t : Ty) (e : X)
  | mth (f : Mt) (o : X) (es : Xs)
  | ix (a i : X)
  | sl (m : Bool) (a : X) (lo hi : Xo)
  | tup (es : Xs)
  | lst (m : Bool) (es : Xs)
  | lc (m : Bool) (t : T) (it : I) (fs : Xs) (e : X)
  | lc2 (m : Bool) (t : T) (it : I) (fs : Xs) (t1 : T) (it1 : I) (fs1 : Xs) (e : X)
  | lrg (m : Bool) (es : Xs)
  | dic (es : Xs)
inductive Xs where
  | nil
  | cons (e : X) (es : Xs)
inductive Xo where
  | none
  | some (e : X)
/-- what a loop walks -/
inductive I where
  | val (e : X)
  | rng1 (a : X)
  | rng2 (a b : X)
  | rng3 (a b c : X)
  | enum (e : X)
/-- targets: a name, a tuple of names, o[i] -/
inductive T where
  | nm (i : Nat)
  | tp (ts : Ts)
  | sub (o i : X)
inductive Ts where
  | nil
  | cons (t : T) (ts : Ts)
end
mutual
inductive S where
  | expr (e : X)
  | asg (t : T) (e : X)
  | par (i j : Nat) (a b : X)
  | aug (i : Nat) (op : Bo) (e : X)
  | ret (e : X)
  | retN
  | ifs (c : X) (a b : Ss)
  | fr (t : T) (it : I) (b : Ss)
  | wh (c : X) (b : Ss)
  | brk
  | cnt
  | pass
inductive Ss where
  | nil
  | cons (s : S) (ss : Ss)
end

abbrev QE := U → Hu → Prop
/-- f(..): the wanted end, the wanted exception -/
abbrev CallT := Str → List U → Hu → QE → (Ex → Hu → Prop) → Prop

/-! ### primitives -/
def seqOf (h : Hu) : U → Option (List U)
  | .tup xs => some xs
  | .lst xs => some xs
  | .ro xs => some xs
  | .mr n => match h[n]? with
    | some (.lst xs) => some xs
    | _ => none
  | _ => none
def lstOf (h : Hu) : U → Option (List U)
  | .lst xs => some xs
  | .mr n => match h[n]? with
    | some (.lst xs) => some xs
    | _ => none
  | _ => none
def dicOf (h : Hu) : U → Option (List (U × U))
  | .mr n => match h[n]? with
    | some (.dic kvs) => some kvs
    | _ => none
  | _ => none
mutual
/-- the key that a plain value is: True is 1 -/
def keyU : U → Option NestedKey
  | .non => some .none
  | .bl b => some (.num (if b = true then 1 else 0))
  | .int i => some (.num i)
  | .str x => some (.text x)
  | .tup xs => (keyUs xs).map .tup
  | .lst _ => none
  | .ro _ => none
  | .mr _ => none
  | .fn _ => none
def keyUs : List U → Option (List NestedKey)
  | [] => some []
  | x :: xs => match keyU x, keyUs xs with
    | some k, some ks => some (k :: ks)
    | _, _ => none
end
/-- a key of a dict -/
def kOf (u : U) : Option NestedKey := match keyU u with
  | some k => if k.depth ≤ 8 then some k else none
  | none => none
def keq (a b : U) : Bool := match kOf a, kOf b with
  | some x, some y => decide (x = y)
  | _, _ => false
def dlook : List (U × U) → U → Option U
  | [], _ => none
  | (k, v) :: r, x => if keq k x = true then some v else dlook r x
def dput : List (U × U) → U → U → List (U × U)
  | [], x, y => [(x, y)]
  | (k, v) :: r, x, y => if keq k x = true then (k, y) :: r else (k, v) :: dput r x y
def pairU : List U → Option (List (U × U))
  | [] => some []
  | k :: v :: r => (pairU r).map ((k, v) :: ·)
  | [_] => none
def dputs : List (U × U) → List (U × U) → List (U × U)
  | d, [] => d
  | d, (k, v) :: r => dputs (dput d k v) r
/-- a new list: changeable or for good -/
def mkL (m : Bool) (xs : List U) (h : Hu) (Q : QE) : Prop := if m = true then Q (.mr h.length) (h ++ [.lst xs]) else Q (.lst xs) h

def optAll {α : Type} : List (Option α) → Option (List α)
  | [] => some []
  | some x :: r => (optAll r).map (x :: ·)
  | none :: _ => none
/-- the value as data, the changeable lists read -/
def toD (h : Hu) : Nat → U → Option PyData
  | 0, _ => none
  | _ + 1, .non => some .none
  | _ + 1, .bl b => some (.bool b)
  | _ + 1, .int i => some (.int i)
  | _ + 1, .str x => some (.str x)
  | n + 1, .tup xs => (optAll (xs.map (toD h n))).map .tuple
  | n + 1, .lst xs => (optAll (xs.map (toD h n))).map .list
  | n + 1, .ro xs => (optAll (xs.map (toD h n))).map .list
  | n + 1, .mr k => match h[k]? with
    | some (.lst xs) => (optAll (xs.map (toD h n))).map .list
    | _ => none
  | _ + 1, .fn _ => none

def tru (h : Hu) : U → Option Bool
  | .non => some false
  | .bl b => some b
  | .int i => some (i != 0)
  | .str x => some (x.length != 0)
  | .tup xs => some (!xs.isEmpty)
  | .lst xs => some (!xs.isEmpty)
  | .ro xs => some (!xs.isEmpty)
  | .mr n => match h[n]? with
    | some (.lst xs) => some (!xs.isEmpty)
    | _ => none
  | .fn _ => none

def cMul (i j : Int) : Prop := (-(2 ^ 64) < i ∧ i < 2 ^ 64) ∨ (-(2 ^ 64) < j ∧ j < 2 ^ 64)

def binR (op : Bo) (m : Bool) (x y : U) (h : Hu) (Q : QE) : Prop :=
  match op, x, y with
  | .add, .int i, .int j => Q (.int (i + j)) h
  | .add, .str i, .str j => i.length + j.length ≤ sizeLine ∧ Q (.str (i ++ j)) h
  | .add, .tup xs, .tup ys => xs.length + ys.length ≤ sizeLine ∧ Q (.tup (xs ++ ys)) h
  | .add, x, y => ∃ xs ys, lstOf h x = some xs ∧ lstOf h y = some ys ∧ xs.length + ys.length ≤ sizeLine ∧ mkL m (xs ++ ys) h Q
  | .sub, .int i, .int j => Q (.int (i - j)) h
  | .mul, .int i, .int j => cMul i j ∧ Q (.int (i * j)) h
  | .mul, .tup xs, .int k => (xs ≠ [] ∧ 2 ≤ k ∧ k ≤ 1000 ∧ xs.length ≤ 1000) ∧ Q (.tup (List.replicate k.toNat xs).flatten) h
  | .fdiv, .int i, .int j => (0 < j ∧ j.natAbs.log2 < 9000) ∧ Q (.int (i / j)) h
  | .mod, .int i, .int j => 0 < j ∧ Q (.int (i % j)) h
  | .pow, .int i, .int j => (0 ≤ j ∧ j ≤ 1000000 ∧ -(2 ^ 64) < i ∧ i < 2 ^ 64) ∧ Q (.int (i ^ j.toNat)) h
  | _, _, _ => False

def eqR (neg : Bool) (x y : U) (h : Hu) (Q : QE) : Prop :=
  ∃ d e, toD h 64 x = some d ∧ toD h 64 y = some e ∧ SeqAt.shaped d = true ∧ SeqAt.shaped e = true ∧ Q (.bl (if neg then !PyData.eqv d e else PyData.eqv d e)) h
def inR (neg : Bool) (x y : U) (h : Hu) (Q : QE) : Prop :=
  ∃ d ds, toD h 64 x = some d ∧ toD h 64 y = some (.list ds) ∧ SeqAt.shaped d = true ∧ SeqAt.shaped (.list ds) = true ∧
    Q (.bl (if neg then !ds.any fun z => PyData.eqv z d else ds.any fun z => PyData.eqv z d)) h

def dinR (neg : Bool) (x : U) (kvs : List (U × U)) (h : Hu) (Q : QE) : Prop := (kOf x).isSome = true ∧ Q (.bl (if neg then !(dlook kvs x).isSome else (dlook kvs x).isSome)) h
def cmpR (op : Co) (x y : U) (h : Hu) (Q : QE) : Prop :=
  match op, x, y with
  | .eq, x, y => eqR false x y h Q
  | .ne, x, y => eqR true x y h Q
  | .lt, .int i, .int j => Q (.bl (decide (i < j))) h
  | .le, .int i, .int j => Q (.bl (decide (i ≤ j))) h
  | .gt, .int i, .int j => Q (.bl (decide (j < i))) h
  | .ge, .int i, .int j => Q (.bl (decide (j ≤ i))) h
  | .isN, .non, .non => Q (.bl true) h
  | .isN, _, .non => Q (.bl false) h
  | .isN, .bl a, .bl b => Q (.bl (decide (a = b))) h
  | .notN, .non, .non => Q (.bl false) h
  | .notN, _, .non => Q (.bl true) h
  | .notN, .bl a, .bl b => Q (.bl (!decide (a = b))) h
  | .inn, x, y => match dicOf h y with
    | some kvs => dinR false x kvs h Q
    | none => inR false x y h Q
  | .nin, x, y => match dicOf h y with
    | some kvs => dinR true x kvs h Q
    | none => inR true x y h Q
  | _, _, _ => False

def isiR (t : Ty) (u : U) (h : Hu) (Q : QE) : Prop :=
  match u with
  | .non => Q (.bl false) h
  | .bl _ => Q (.bl (t == .bl || t == .int)) h
  | .int _ => Q (.bl (t == .int)) h
  | .str _ => Q (.bl (t == .str)) h
  | .tup _ => Q (.bl (t == .tup)) h
  | .lst _ => Q (.bl (t == .lst)) h
  | .ro _ => Q (.bl (t == .lst)) h
  | .mr n => match h[n]? with
    | some (.lst _) => Q (.bl (t == .lst)) h
    | some (.dic _) => Q (.bl (t == .dic)) h
    | _ => False
  | .fn _ => False

def intsU : List U → Option (List Int)
  | [] => some []
  | .int i :: r => (intsU r).map (i :: ·)
  | _ :: _ => none
def boolsU : List U → Option (List Bool)
  | [] => some []
  | .bl b :: r => (boolsU r).map (b :: ·)
  | _ :: _ => none

/-- what may be sorted: numbers, texts, pairs of numbers -/
inductive Skd | int | str | pair
deriving DecidableEq
def skOf : U → Option Skd
  | .int _ => some .int
  | .str _ => some .str
  | .tup [.int _, .int _] => some .pair
  | _ => none
def skAll (k : Skd) : List U → Bool
  | [] => true
  | u :: us => decide (skOf u = some k) && skAll k us
/-- all of one such kind -/
def sortOk : List U → Bool
  | [] => true
  | u :: us => match skOf u with
    | some k => skAll k us
    | none => false
/-- u comes ahead of v -/
def ltU : U → U → Bool
  | .int i, .int j => decide (i < j)
  | .str x, .str y => decide (x.cps.toList < y.cps.toList)
  | .tup [.int a, .int b], .tup [.int c, .int d] => decide (a < c) || (decide (a = c) && decide (b < d))
  | _, _ => false
def insU (u : U) : List U → List U
  | [] => [u]
  | v :: r => if ltU v u = true then v :: insU u r else u :: v :: r
def srtU : List U → List U
  | [] => []
  | u :: r => insU u (srtU r)
def maxI : List Int → Int
  | [] => 0
  | [i] => i
  | i :: r => if maxI r > i then maxI r else i
def minI : List Int → Int
  | [] => 0
  | [i] => i
  | i :: r => if minI r < i then minI r else i
/-- a row of items, or a dict's keys -/
def itemsOf (h : Hu) (u : U) : Option (List U) := match dicOf h u with
  | some kvs => some (kvs.map (·.1))
  | none => seqOf h u
def sitemsOf (h : Hu) (u : U) : Option (List U) := match dicOf h u with
  | some kvs => some (kvs.map (·.1))
  | none => lstOf h u
def biR (f : Bi) (m : Bool) (us : List U) (h : Hu) (Q : QE) : Prop :=
  match f, us with
  | .len, [.str x] => Q (.int x.length) h
  | .len, [u] => match dicOf h u with
    | some kvs => Q (.int kvs.length) h
    | none => ∃ xs, seqOf h u = some xs ∧ Q (.int xs.length) h
  | .int, [.int i] => Q (.int i) h
  | .int, [.bl b] => Q (.int (if b then 1 else 0)) h
  | .tuple, [u] => ∃ xs, seqOf h u = some xs ∧ Q (.tup xs) h
  | .list, [u] => ∃ xs, itemsOf h u = some xs ∧ mkL m xs h Q
  | .sorted, [u] => ∃ xs, sitemsOf h u = some xs ∧ sortOk xs = true ∧ mkL m (srtU xs) h Q
  | .max1, [u] => ∃ xs ns, lstOf h u = some xs ∧ intsU xs = some ns ∧ ns ≠ [] ∧ Q (.int (maxI ns)) h
  | .min1, [u] => ∃ xs ns, lstOf h u = some xs ∧ intsU xs = some ns ∧ ns ≠ [] ∧ Q (.int (minI ns)) h
  | .all, [u] => ∃ xs bs, lstOf h u = some xs ∧ boolsU xs = some bs ∧ Q (.bl (bs.all id)) h
  | .any, [u] => ∃ xs bs, lstOf h u = some xs ∧ boolsU xs = some bs ∧ Q (.bl (bs.any id)) h
  | .max2, [.int i, .int j] => Q (.int (if j > i then j else i)) h
  | .min2, [.int i, .int j] => Q (.int (if j < i then j else i)) h
  | .sum, [u] => ∃ xs ns, lstOf h u = some xs ∧ intsU xs = some ns ∧ Q (.int ns.sum) h
  | .abs, [.int i] => Q (.int (if i < 0 then -i else i)) h
  | _, _ => False

def mtR (f : Mt) (o : U) (us : List U) (h : Hu) (Q : QE) : Prop :=
  match f, o, us with
  | .append, .mr n, [u] => ∃ xs, h[n]? = some (.lst xs) ∧ xs.length < sizeLine ∧ Q .non (h.set n (.lst (xs ++ [u])))
  | .index, o, [u] => ∃ d ds j z, toD h 64 o = some (.list ds) ∧ toD h 64 u = some d ∧ SeqAt.shaped (.list ds) = true ∧ SeqAt.shaped d = true ∧ ds[j]? = some z ∧ PyData.eqv z d = true ∧
      (∀ (k : Nat) (z' : PyData), k < j → ds[k]? = some z' → PyData.eqv z' d = false) ∧ Q (.int (j : Nat)) h
  | .pop0, .mr n, [] => ∃ xs y, h[n]? = some (.lst xs) ∧ xs[xs.length - 1]? = some y ∧ Q y (h.set n (.lst xs.dropLast))
  | .pop1, .mr n, [.int i] => ∃ xs k y, h[n]? = some (.lst xs) ∧ (-(2 ^ 63) ≤ i ∧ i < 2 ^ 63) ∧ ixN xs.length i = some k ∧ xs[k]? = some y ∧ Q y (h.set n (.lst (xs.eraseIdx k)))
  | .extend, .mr n, [u] => ∃ xs ys, h[n]? = some (.lst xs) ∧ lstOf h u = some ys ∧ xs.length + ys.length ≤ sizeLine ∧ Q .non (h.set n (.lst (xs ++ ys)))
  | .insert, .mr n, [.int i, u] => ∃ xs, h[n]? = some (.lst xs) ∧ xs.length < sizeLine ∧ (0 ≤ i ∧ i < 2 ^ 63) ∧ Q .non (h.set n (.lst (xs.take i.toNat ++ [u] ++ xs.drop i.toNat)))
  | .get1, .mr n, [u] => ∃ kvs, h[n]? = some (.dic kvs) ∧ (kOf u).isSome = true ∧ Q ((dlook kvs u).getD .non) h
  | .get2, .mr n, [u, v] => ∃ kvs, h[n]? = some (.dic kvs) ∧ (kOf u).isSome = true ∧ Q ((dlook kvs u).getD v) h
  | _, _, _ => False

/-- the receiver's type -/
def mtTy (f : Mt) (o : U) (h : Hu) : Prop :=
  match f with
  | .append => ∃ xs, lstOf h o = some xs
  | .index => ∃ xs, lstOf h o = some xs
  | .pop0 => ∃ xs, lstOf h o = some xs
  | .pop1 => ∃ xs, lstOf h o = some xs
  | .extend => ∃ xs, lstOf h o = some xs
  | .insert => ∃ xs, lstOf h o = some xs
  | .get1 => ∃ kvs, dicOf h o = some kvs
  | .get2 => ∃ kvs, dicOf h o = some kvs

def ixR (x i : U) (h : Hu) (Q : QE) : Prop :=
  match x, i with
  | .str z, .int k => ∃ c, atI z.cps.toList k = some c ∧ Q (.str ⟨#[c]⟩) h
  | x, i => match dicOf h x with
    | some kvs => ∃ v, (kOf i).isSome = true ∧ dlook kvs i = some v ∧ Q v h
    | none => ∃ k xs v, i = .int k ∧ seqOf h x = some xs ∧ atI xs k = some v ∧ Q v h

def cutU (xs : List U) (lo hi : Option Int) : List U := (xs.drop (HT.sIx xs.length 0 lo)).take (HT.sIx xs.length xs.length hi - HT.sIx xs.length 0 lo)
def slR (m : Bool) (x : U) (lo hi : Option Int) (h : Hu) (Q : QE) : Prop :=
  match x with
  | .str z => Q (.str (cutS z lo hi)) h
  | .tup xs => Q (.tup (cutU xs lo hi)) h
  | x => ∃ xs, lstOf h x = some xs ∧ mkL m (cutU xs lo hi) h Q

def setR (o i v : U) (h : Hu) (Q : Hu → Prop) : Prop :=
  match o with
  | .mr n => (∃ k xs j, i = .int k ∧ h[n]? = some (.lst xs) ∧ ixN xs.length k = some j ∧ Q (h.set n (.lst (xs.set j v)))) ∨
      ∃ kvs, h[n]? = some (.dic kvs) ∧ (kOf i).isSome = true ∧ kvs.length < sizeLine ∧ Q (h.set n (.dic (dput kvs i v)))
  | _ => False

/-! ### comprehensions and loops over a row of items -/
def lcRun (step : U → Hu → (Option U → Hu → Prop) → Prop) : List U → List U → Hu → (List U → Hu → Prop) → Prop
  | [], acc, h, Q => Q acc h
  | x :: xs, acc, h, Q => step x h fun r h' => lcRun step xs (match r with | some y => acc ++ [y] | none => acc) h' Q
/-- .. where a turn may add many items -/
def lcRunC (step : U → List U → Hu → (List U → Hu → Prop) → Prop) : List U → List U → Hu → (List U → Hu → Prop) → Prop
  | [], acc, h, Q => Q acc h
  | x :: xs, acc, h, Q => step x acc h fun acc' h' => lcRunC step xs acc' h' Q
def frRun (body : U → Sg → Hu → (Sg → Hu → Prop) → Prop) (nx : Sg → Hu → Prop) : List U → Sg → Hu → Prop
  | [], g, h => nx g h
  | x :: xs, g, h => body x g h fun g' h' => frRun body nx xs g' h'

def wipeU (g : Sg) : List Nat → Sg
  | [] => g
  | v :: vs => (wipeU g vs).set v none
mutual
def T.own : T → List Nat
  | .nm i => [i]
  | .tp ts => ts.own
  | .sub _ _ => []
def Ts.own : Ts → List Nat
  | .nil => []
  | .cons t ts => t.own ++ ts.own
end
def Ts.len : Ts → Nat
  | .nil => 0
  | .cons _ ts => ts.len + 1
def enumU : Nat → List U → List U
  | _, [] => []
  | n, x :: xs => .tup [.int n, x] :: enumU (n + 1) xs
def rngU (lo : Int) (n : Nat) : List U := (List.range n).map fun i => .int (lo + (i : Nat))
def rngC (lo c : Int) (n : Nat) : List U := (List.range n).map fun i => .int (lo + (i : Nat) * c)
def small62 (i : Int) : Prop := -(2 ^ 62) ≤ i ∧ i < 2 ^ 62
/-- range(..) by its arguments: the first item, the step, how many -/
def rgR (us : List U) (k : Int → Int → Nat → Prop) : Prop :=
  match us with
  | [.int j] => small62 j ∧ k 0 1 j.toNat
  | [.int i, .int j] => small62 i ∧ small62 j ∧ k i 1 (j - i).toNat
  | [.int i, .int j, .int c] => small62 i ∧ small62 j ∧ ((c = 1 ∧ k i 1 (j - i).toNat) ∨ (c = -1 ∧ k i (-1) (i - j).toNat))
  | _ => False

/-- a source that is changed under the walk is not served: what must hold at each turn -/
def srcOk (u : U) (xs : List U) (h : Hu) : Prop :=
  match u with
  | .mr n => h[n]? = some (.lst xs)
  | _ => True
def strU (z : Str) : List U := z.cps.toList.map fun c => .str ⟨#[c]⟩

/-! ### the reading -/
abbrev RE := Sg → Hu → QE → Prop
abbrev RB := Sg → Hu → (Bool → Hu → Prop) → Prop
/-- an expression's two readings: as a value, as a test -/
structure Rd2 where
  e : RE
  b : RB
/-- most tests: the value's truth -/
def gen (f : RE) : Rd2 := ⟨f, fun g h Q => f g h fun x h1 => ∃ b, tru h1 x = some b ∧ Q b h1⟩
def genB (f : RE) : Rd2 := ⟨f, fun g h Q => f g h fun x h1 => ∃ b, x = .bl b ∧ Q b h1⟩
def cmp2R (op op' : Co) (ra rb rc : RE) : RE := fun g h Q => ra g h fun x h1 => rb g h1 fun y h2 => cmpR op x y h2 fun r h3 => ∃ k, r = .bl k ∧
      if k = true then rc g h3 fun z h4 => cmpR op' y z h4 Q else Q (.bl false) h3
mutual
def wpX (F : CallT) (ex : Ex → Sg → Hu → Prop) : X → Rd2
  | .cst u => gen fun _ h Q => Q u h
  | .var i => gen fun g h Q => ∃ u, g[i]? = some (some u) ∧ Q u h
  | .bin op m a b => gen fun g h Q => (wpX F ex a).e g h fun x h1 => (wpX F ex b).e g h1 fun y h2 => binR op m x y h2 Q
  | .neg a => gen fun g h Q => (wpX F ex a).e g h fun x h1 => ∃ i, x = .int i ∧ Q (.int (-i)) h1
  | .not a => ⟨fun g h Q => (wpX F ex a).e g h fun x h1 => ∃ b, tru h1 x = some b ∧ Q (.bl (!b)) h1, fun g h Q => (wpX F ex a).b g h fun b h1 => Q (!b) h1⟩
  | .bop isAnd es => ⟨wpBop F ex isAnd es, wpBopB F ex isAnd es⟩
  | .cmp op a b => genB fun g h Q => (wpX F ex a).e g h fun x h1 => (wpX F ex b).e g h1 fun y h2 => cmpR op x y h2 Q
  | .cmp2 op op' a b c => genB (cmp2R op op' (wpX F ex a).e (wpX F ex b).e (wpX F ex c).e)
  | .ife c a b => ⟨fun g h Q => (wpX F ex c).b g h fun k h1 => if k = true then (wpX F ex a).e g h1 Q else (wpX F ex b).e g h1 Q,
      fun g h Q => (wpX F ex c).b g h fun k h1 => if k = true then (wpX F ex a).b g h1 Q else (wpX F ex b).b g h1 Q⟩
  | .call f es => gen fun g h Q => wpEs F ex es g h fun us h1 => F f us h1 Q fun e h2 => ex e g h2
  | .bi f m es => gen fun g h Q => wpEs F ex es g h fun us h1 => biR f m us h1 Q
  | .isi t e => gen fun g h Q => (wpX F ex e).e g h fun x h1 => isiR t x h1 Q
  | .mth f o es => gen fun g h Q => (wpX F ex o).e g h fun x h1 => mtTy f x h1 ∧ wpEs F ex es g h1 fun us h2 => mtR f x us h2 Q
  | .ix a i => gen fun g h Q => (wpX F ex a).e g h fun x h1 => (wpX F ex i).e g h1 fun y h2 => ixR x y h2 Q
  | .sl m a lo hi => gen fun g h Q => (wpX F ex a).e g h fun x h1 => wpO F ex lo g h1 fun l h2 => wpO F ex hi g h2 fun r h3 => slR m x l r h3 Q
  | .tup es => gen fun g h Q => wpEs F ex es g h fun us h1 => us.length ≤ sizeLine ∧ Q (.tup us) h1
  | .lst m es => gen fun g h Q => wpEs F ex es g h fun us h1 => us.length ≤ sizeLine ∧ mkL m us h1 Q
  | .lc m t it fs e => gen fun g h Q => wpI F ex it g h fun ok xs h1 => xs.length ≤ sizeLine ∧
      lcRun (fun x h2 k => ok h2 ∧ wpT F ex t x (wipeU g t.own) h2 fun g3 h3 => wpFs F ex fs g3 h3 fun b h4 => if b = true then (wpX F ex e).e g3 h4 fun y h5 => k (some y) h5 else k none h4) xs [] h1 fun ys h2 => ok h2 ∧ mkL m ys h2 Q
  | .lc2 m t it fs t1 it1 fs1 e => gen fun g h Q => wpI F ex it g h fun ok xs h1 => xs.length ≤ sizeLine ∧
      lcRunC (fun x acc h2 k => ok h2 ∧ wpT F ex t x (wipeU g (t.own ++ t1.own)) h2 fun g3 h3 => wpFs F ex fs g3 h3 fun b h4 => if b = true then
        wpI F ex it1 g3 h4 fun ok1 ys h5 => acc.length + ys.length ≤ sizeLine ∧ lcRun (fun y h6 k1 => ok1 h6 ∧ wpT F ex t1 y (wipeU g3 t1.own) h6 fun g7 h7 => wpFs F ex fs1 g7 h7 fun b h8 => if b = true then (wpX F ex e).e g7 h8 fun z h9 => k1 (some z) h9 else k1 none h8) ys acc h5
          fun zs h6 => ok1 h6 ∧ k zs h6
        else k acc h4) xs [] h1 fun ys h2 => ok h2 ∧ mkL m ys h2 Q
  | .lrg m es => gen fun g h Q => wpEs F ex es g h fun us h1 => rgR us fun lo c n => n ≤ 16777216 ∧ mkL m (rngC lo c n) h1 Q
  | .dic es => gen fun g h Q => wpEs F ex es g h fun us h1 => ∃ ps, pairU us = some ps ∧ ps.length ≤ 15 ∧ (∀ p ∈ ps, (kOf p.1).isSome = true) ∧ Q (.mr h1.length) (h1 ++ [.dic (dputs [] ps)])
def wpEs (F : CallT) (ex : Ex → Sg → Hu → Prop) : Xs → Sg → Hu → (List U → Hu → Prop) → Prop
  | .nil => fun _ h Q => Q [] h
  | .cons e es => fun g h Q => (wpX F ex e).e g h fun x h1 => wpEs F ex es g h1 fun xs h2 => Q (x :: xs) h2
def wpO (F : CallT) (ex : Ex → Sg → Hu → Prop) : Xo → Sg → Hu → (Option Int → Hu → Prop) → Prop
  | .none => fun _ h Q => Q none h
  | .some e => fun g h Q => (wpX F ex e).e g h fun x h1 => ∃ i, x = .int i ∧ Q (some i) h1
def wpBopB (F : CallT) (ex : Ex → Sg → Hu → Prop) (isAnd : Bool) : Xs → RB
  | .nil => fun _ h Q => Q isAnd h
  | .cons e es => fun g h Q => (wpX F ex e).b g h fun b h1 => if b = isAnd then wpBopB F ex isAnd es g h1 Q else Q b h1
/-- and, or as values: by truth; the last one is not asked -/
def wpBop (F : CallT) (ex : Ex → Sg → Hu → Prop) (isAnd : Bool) : Xs → RE
  | .nil => fun _ _ _ => False
  | .cons e es => fun g h Q => match es with
    | .nil => (wpX F ex e).e g h Q
    | .cons _ _ => (wpX F ex e).e g h fun x h1 => ∃ b, tru h1 x = some b ∧ if b = isAnd then wpBop F ex isAnd es g h1 Q else Q x h1
/-- the ifs of a comprehension -/
def wpFs (F : CallT) (ex : Ex → Sg → Hu → Prop) : Xs → RB
  | .nil => fun _ h Q => Q true h
  | .cons e es => fun g h Q => (wpX F ex e).b g h fun b h1 => if b = true then wpFs F ex es g h1 Q else Q false h1
def wpI (F : CallT) (ex : Ex → Sg → Hu → Prop) : I → Sg → Hu → ((Hu → Prop) → List U → Hu → Prop) → Prop
  | .val e => fun g h Q => (wpX F ex e).e g h fun x h1 => (∃ z, x = .str z ∧ Q (fun _ => True) (strU z) h1) ∨ ∃ xs, seqOf h1 x = some xs ∧ Q (srcOk x xs) xs h1
  | .rng1 a => fun g h Q => (wpX F ex a).e g h fun x h1 => ∃ j : Int, x = .int j ∧ (-(2 ^ 62) ≤ j ∧ j < 2 ^ 62) ∧ Q (fun _ => True) (rngU 0 j.toNat) h1
  | .rng2 a b => fun g h Q => (wpX F ex a).e g h fun x h1 => (wpX F ex b).e g h1 fun y h2 => ∃ i j : Int, x = .int i ∧ y = .int j ∧ (-(2 ^ 62) ≤ i ∧ i < 2 ^ 62 ∧ -(2 ^ 62) ≤ j ∧ j < 2 ^ 62) ∧ Q (fun _ => True) (rngU i (j - i).toNat) h2
  | .rng3 a b c => fun g h Q => (wpX F ex a).e g h fun x h1 => (wpX F ex b).e g h1 fun y h2 => (wpX F ex c).e g h2 fun z h3 => rgR [x, y, z] fun lo c n => Q (fun _ => True) (rngC lo c n) h3
  | .enum e => fun g h Q => (wpX F ex e).e g h fun x h1 => ∃ xs, seqOf h1 x = some xs ∧ Q (srcOk x xs) (enumU 0 xs) h1
def wpT (F : CallT) (ex : Ex → Sg → Hu → Prop) : T → U → Sg → Hu → (Sg → Hu → Prop) → Prop
  | .nm i => fun u g h Q => Q (g.set i (some u)) h
  | .tp ts => fun u g h Q => ∃ xs, u = .tup xs ∧ xs.length = ts.len ∧ wpTs F ex ts xs g h Q
  | .sub o i => fun u g h Q => (wpX F ex o).e g h fun x h1 => (wpX F ex i).e g h1 fun y h2 => setR x y u h2 fun h3 => Q g h3
def wpTs (F : CallT) (ex : Ex → Sg → Hu → Prop) : Ts → List U → Sg → Hu → (Sg → Hu → Prop) → Prop
  | .nil => fun us g h Q => us = [] ∧ Q g h
  | .cons t ts => fun us g h Q => ∃ u r, us = u :: r ∧ wpT F ex t u g h fun g1 h1 => wpTs F ex ts r g1 h1 Q
end
abbrev wpE (F : CallT) (ex : Ex → Sg → Hu → Prop) (x : X) : RE := (wpX F ex x).e
abbrev wpB (F : CallT) (ex : Ex → Sg → Hu → Prop) (x : X) : RB := (wpX F ex x).b

structure En where
  nx : Sg → Hu → Prop
  rt : QE
  bk : Sg → Hu → Prop := fun _ _ => False
  ct : Sg → Hu → Prop := fun _ _ => False

mutual
def wpS (F : CallT) (ex : Ex → Sg → Hu → Prop) : S → En → Sg → Hu → Prop
  | .expr e, D, g, h => wpE F ex e g h fun _ h1 => D.nx g h1
  | .asg t e, D, g, h => wpE F ex e g h fun u h1 => wpT F ex t u g h1 D.nx
  | .par i j a b, D, g, h => wpE F ex a g h fun x h1 => wpE F ex b g h1 fun y h2 => D.nx ((g.set i (some x)).set j (some y)) h2
  | .aug i op e, D, g, h => ∃ x, g[i]? = some (some x) ∧ wpE F ex e g h fun y h1 => ∃ a b, x = .int a ∧ y = .int b ∧ ((op = .add ∧ D.nx (g.set i (some (.int (a + b)))) h1) ∨ (op = .sub ∧ D.nx (g.set i (some (.int (a - b)))) h1))
  | .ret e, D, g, h => wpE F ex e g h D.rt
  | .retN, D, _, h => D.rt .non h
  | .ifs c a b, D, g, h => wpB F ex c g h fun k h1 => if k = true then wpSs F ex a D g h1 else wpSs F ex b D g h1
  | .fr t it b, D, g, h => wpI F ex it g h fun ok xs h1 =>
      frRun (fun x g2 h2 k => ok h2 ∧ wpT F ex t x g2 h2 fun g3 h3 => wpSs F ex b { D with nx := k, ct := k, bk := D.nx } g3 h3) (fun g2 h2 => ok h2 ∧ D.nx g2 h2) xs g h1
  | .wh c b, D, g, h => ∃ W : Nat → Sg → Hu → Prop, (∃ m, W m g h) ∧ ∀ m g h, W m g h → wpB F ex c g h fun k h1 =>
      if k = true then wpSs F ex b { D with nx := fun g' h' => ∃ m', m' < m ∧ W m' g' h', ct := fun g' h' => ∃ m', m' < m ∧ W m' g' h', bk := D.nx } g h1 else D.nx g h1
  | .brk, D, g, h => D.bk g h
  | .cnt, D, g, h => D.ct g h
  | .pass, D, g, h => D.nx g h
def wpSs (F : CallT) (ex : Ex → Sg → Hu → Prop) : Ss → En → Sg → Hu → Prop
  | .nil, D, g, h => D.nx g h
  | .cons s ss, D, g, h => wpS F ex s { D with nx := wpSs F ex ss D } g h
end

/-! ### a def, a program -/
structure Fn where
  np : Nat
  n : Nat
  body : Ss

/-- what is left of a value when all changeable objects from n on are for good -/
def frz (h : Hu) (n : Nat) : Nat → U → Option U
  | 0, _ => none
  | _ + 1, .non => some .non
  | _ + 1, .bl b => some (.bl b)
  | _ + 1, .int i => some (.int i)
  | _ + 1, .str x => some (.str x)
  | d + 1, .tup xs => (optAll (xs.map (frz h n d))).map .tup
  | d + 1, .lst xs => (optAll (xs.map (frz h n d))).map .lst
  | d + 1, .ro xs => (optAll (xs.map (frz h n d))).map .ro
  | d + 1, .mr k => if k < n then some (.mr k) else match h[k]? with
    | some (.lst xs) => (optAll (xs.map (frz h n d))).map .lst
    | _ => none
  | _ + 1, .fn f => some (.fn f)
def frzO (h : Hu) (n : Nat) : O → Option O
  | .lst xs => (optAll (xs.map (frz h n 64))).map .lst
  | .dic kvs => (optAll (kvs.map fun p => (frz h n 64 p.2).map fun v => (p.1, v))).map .dic
  | .ins c fs => (optAll (fs.map fun p => (frz h n 64 p.2).map fun v => (p.1, v))).map (.ins c)
def frzH (h : Hu) (n : Nat) : Hu → Option Hu
  | [] => some []
  | o :: r => match frzO h n o, frzH h n r with
    | some p, some q => some (p :: q)
    | _, _ => none
/-- a call's end: what was made within may be forgotten (h0: the heap at the call) -/
def stl (h0 : Hu) (r : U) (h : Hu) (Q : QE) : Prop :=
  Q r h ∨ (∃ r' h', frz h h0.length 64 r = some r' ∧ frzH h h0.length (h.take h0.length) = some h' ∧ Q r' h') ∨
    ∃ r', frz h h0.length 64 r = some r' ∧ (∀ (i : Nat) (o : O), (h.take h0.length)[i]? = some o → h0[i]? = some o ∨ frzO h h0.length o = some o) ∧ Q r' (h.take h0.length)

def startU (n : Nat) (us : List U) : Sg := us.map some ++ List.replicate (n - us.length) none
def callN (tbl : Str → Option Fn) : Nat → CallT
  | 0 => fun _ _ _ _ _ => False
  | d + 1 => fun f us h Q E => ∃ fn, tbl f = some fn ∧ us.length = fn.np ∧
      wpSs (callN tbl d) (fun e _ h' => E e h') fn.body { nx := fun _ h' => stl h .non h' Q, rt := fun r h' => stl h r h' Q } (startU fn.n us) h
end Pl
set_option Elab.async false
set_option linter.all false
set_option maxRecDepth 100000
/-! Pl: what a plain state says of the layer's abstract heap. -/
namespace Pl
open PySem PySem.Spec L2

/-- what is fixed through the law: the written part, the text, the world, the module's names -/
structure Kw where
  f : PySem.W.Frag
  P : Program
  w : World
  mg : Str → Option Value
abbrev _root_.L2.Cx.kw (X : L2.Cx) : Kw := ⟨X.K, X.prog, X.w, X.mg⟩
/-- where the changeable objects stand; lists that are just being made (by a comprehension) -/
structure Loc where
  ids : List Addr
  pen : List Addr
/-- a list that stands for good: locked, or the text's own -/
def RoL (K : PySem.W.Frag) (H : Hp) (a : Addr) (xs : List V) : Prop :=
  (∃ o, H a = some (.frz o (.lst xs))) ∨ ∃ (o : Obj) (its : Array Value) (n : Nat), K.lookup a = some o ∧ o.cls = .type "list" ∧ o.dict = none ∧ o.data = .seq its n ∧ its.size ≤ sizeLine ∧ Vals xs its.toList
theorem RoL.sq {K : PySem.W.Frag} {H : Hp} {a : Addr} {xs : List V} (s : RoL K H a xs) : SqL K H a xs := by
  rcases s with e | e
  · exact .inl (.inr e)
  · exact .inr e
mutual
inductive RV (K : Kw) (H : Hp) (ρ : Loc) : U → V → Prop
  | non : RV K H ρ .non .non
  | bl (b : Bool) : RV K H ρ (.bl b) (.bl b)
  | int (i : Int) : RV K H ρ (.int i) (.int i)
  | str (x : Str) : x.length ≤ sizeLine → RV K H ρ (.str x) (.str x)
  | tup {us : List U} {a : Addr} {xs : List V} : SqT K.f H a xs → us.length ≤ sizeLine → RVs K H ρ us xs → RV K H ρ (.tup us) (.ref a)
  | lst {us : List U} {a : Addr} {xs : List V} : Rd H a (.lst xs) → a ∉ ρ.ids → a ∉ ρ.pen → us.length ≤ sizeLine → RVs K H ρ us xs → RV K H ρ (.lst us) (.ref a)
  | ro {us : List U} {a : Addr} {xs : List V} : RoL K.f H a xs → us.length ≤ sizeLine → RVs K H ρ us xs → RV K H ρ (.ro us) (.ref a)
  | mr {n : Nat} {a : Addr} : ρ.ids[n]? = some a → RV K H ρ (.mr n) (.ref a)
  | fn {f : Str} {a : Addr} : K.mg f = some (.ref a) → RV K H ρ (.fn f) (.ref a)
inductive RVs (K : Kw) (H : Hp) (ρ : Loc) : List U → List V → Prop
  | nil : RVs K H ρ [] []
  | cons {u : U} {v : V} {us : List U} {vs : List V} : RV K H ρ u v → RVs K H ρ us vs → RVs K H ρ (u :: us) (v :: vs)
end

inductive KVs (K : Kw) (H : Hp) (ρ : Loc) : List (U × U) → Tab → Prop
  | nil : KVs K H ρ [] []
  | cons {k : U} {kv : V} {kk : NestedKey} {e : DictEntry} {u : U} {v : V} {us : List (U × U)} {T : Tab} : kOf k = some kk → RV K H ρ k kv → RelV kv e.key → e.hash = kk.hash K.w → RV K H ρ u v → RelV v e.val → KVs K H ρ us T → KVs K H ρ ((k, u) :: us) ((kk, e) :: T)
inductive FVs (K : Kw) (H : Hp) (ρ : Loc) : List (Str × U) → List (Str × V) → Prop
  | nil : FVs K H ρ [] []
  | cons {x : Str} {u : U} {v : V} {us : List (Str × U)} {vs : List (Str × V)} : RV K H ρ u v → FVs K H ρ us vs → FVs K H ρ ((x, u) :: us) ((x, v) :: vs)
/-- a dict of any keys, as an object of the layer -/
def DT (a : Addr) (T : Tab) : HO := .ext fun h => TabAt h a T
def RO (K : Kw) (H : Hp) (ρ : Loc) (a : Addr) : O → HO → Prop
  | .lst us, .lst xs => us.length ≤ sizeLine ∧ RVs K H ρ us xs
  | .dic us, .ext φ => us.length ≤ sizeLine ∧ (a == sysModules) = false ∧ ∃ T : Tab, HO.ext φ = DT a T ∧ (T.map (·.1)).Nodup ∧ KVs K H ρ us T
  | .ins c fs, .ins C _ xs => K.mg c = some (.ref C) ∧ FVs K H ρ fs xs
  | _, _ => False

structure Rl (K : Kw) (H : Hp) (ρ : Loc) (h : Hu) : Prop where
  len : ρ.ids.length = h.length
  nd : ρ.ids.Nodup
  ob : ∀ (i : Nat) (o : O), h[i]? = some o → ∃ a ho, ρ.ids[i]? = some a ∧ H a = some ho ∧ RO K H ρ a o ho
  pn : ∀ a ∈ ρ.pen, ∃ xs, H a = some (.lst xs)
  dj : ∀ a ∈ ρ.pen, a ∉ ρ.ids

/-- all but what is being made and the changeable objects stands -/
structure Exw (ρ : Loc) (H : Hp) (ρ' : Loc) (H' : Hp) : Prop where
  pre : ∃ r, ρ'.ids = ρ.ids ++ r ∧ ∀ a ∈ r, H a = none
  pen : ρ'.pen = ρ.pen
  keep : ∀ a o, H a = some o → a ∉ ρ.ids → a ∉ ρ.pen → H' a = some o
/-- all but the changeable objects stands -/
structure Ext (ρ : Loc) (H : Hp) (ρ' : Loc) (H' : Hp) : Prop where
  pre : ∃ r, ρ'.ids = ρ.ids ++ r ∧ ∀ a ∈ r, H a = none
  pen : ρ'.pen = ρ.pen
  keep : ∀ a o, H a = some o → a ∉ ρ.ids → H' a = some o
  there : ∀ a, H a ≠ none → H' a ≠ none

structure SgR (K : Kw) (H : Hp) (ρ : Loc) (g : Sg) (σ : St) : Prop where
  len : g.length = σ.length
  at_ : ∀ (i : Nat) (u : U), g[i]? = some (some u) → ∃ v, σ[i]? = some (some v) ∧ RV K H ρ u v

section
variable {K : Kw} {H H' H'' : Hp} {ρ ρ' ρ'' : Loc} {h : Hu} {g : Sg} {σ : St}

theorem Ext.w (x : Ext ρ H ρ' H') : Exw ρ H ρ' H' := ⟨x.pre, x.pen, fun a o e n _ => x.keep a o e n⟩
theorem Ext.refl : Ext ρ H ρ H := ⟨⟨[], by simp, by simp⟩, rfl, fun _ _ e _ => e, fun _ e => e⟩
theorem Ext.trans (a : Ext ρ H ρ' H') (b : Ext ρ' H' ρ'' H'') : Ext ρ H ρ'' H'' := by
  obtain ⟨r, e1, n1⟩ := a.pre
  obtain ⟨r2, e2, n2⟩ := b.pre
  refine ⟨⟨r ++ r2, by rw [e2, e1, List.append_assoc], fun c hc => ?_⟩, b.pen.trans a.pen, fun c o e n => ?_, fun c e => b.there c (a.there c e)⟩
  · rcases List.mem_append.mp hc with q | q
    · exact n1 c q
    · cases z : H c with
      | none => rfl
      | some o => exact absurd (n2 c q) (a.there c (by rw [z]; intro y; cases y))
  · refine b.keep c o (a.keep c o e n) fun q => ?_
    rw [e1] at q
    rcases List.mem_append.mp q with q | q
    · exact n q
    · rw [n1 c q] at e; cases e

theorem Rl.at_ (R : Rl K H ρ h) {a : Addr} (m : a ∈ ρ.ids) : ∃ (i : Nat) (o : O) (ho : HO), h[i]? = some o ∧ ρ.ids[i]? = some a ∧ H a = some ho ∧ RO K H ρ a o ho := by
  obtain ⟨i, hi, e⟩ := List.getElem_of_mem m
  have hl : i < h.length := by rw [← R.len]; exact hi
  obtain ⟨a', ho, e1, e2, e3⟩ := R.ob i h[i] (List.getElem?_eq_getElem hl)
  have : a' = a := by
    rw [List.getElem?_eq_getElem hi, e] at e1
    exact (Option.some.inj e1).symm
  subst this
  exact ⟨i, h[i], ho, List.getElem?_eq_getElem hl, e1, e2, e3⟩
theorem Rl.some_ (R : Rl K H ρ h) {a : Addr} (m : a ∈ ρ.ids) : H a ≠ none := by
  obtain ⟨_, _, ho, _, _, e, _⟩ := R.at_ m
  rw [e]; intro z; cases z
theorem Rl.out (R : Rl K H ρ h) {a : Addr} (n : H a = none) : a ∉ ρ.ids := fun m => R.some_ m n
theorem Rl.outP (R : Rl K H ρ h) {a : Addr} (n : H a = none) : a ∉ ρ.pen := fun m => by
  obtain ⟨xs, e⟩ := R.pn a m
  rw [n] at e; cases e
theorem Rl.notTup (R : Rl K H ρ h) {a : Addr} {xs : List V} (e : H a = some (.tup xs)) : a ∉ ρ.ids ∧ a ∉ ρ.pen := ⟨fun m => by
  obtain ⟨_, o, ho, _, _, e', r⟩ := R.at_ m
  rw [e] at e'; cases e'
  cases o <;> exact r, fun m => by
  obtain ⟨xs, e'⟩ := R.pn a m
  rw [e] at e'; cases e'⟩
theorem Rl.notFrz (R : Rl K H ρ h) {a : Addr} {o' : Obj} {u : HO} (e : H a = some (.frz o' u)) : a ∉ ρ.ids ∧ a ∉ ρ.pen := ⟨fun m => by
  obtain ⟨_, o, ho, _, _, e', r⟩ := R.at_ m
  rw [e] at e'; cases e'
  cases o <;> exact r, fun m => by
  obtain ⟨xs, e'⟩ := R.pn a m
  rw [e] at e'; cases e'⟩
theorem Exw.sqT (R : Rl K H ρ h) (x : Exw ρ H ρ' H') {a : Addr} {xs : List V} (s : SqT K.f H a xs) : SqT K.f H' a xs := by
  rcases s with (e | ⟨o, e⟩) | s
  · exact .inl (.inl (x.keep a _ e (R.notTup e).1 (R.notTup e).2))
  · exact .inl (.inr ⟨o, x.keep a _ e (R.notFrz e).1 (R.notFrz e).2⟩)
  · exact .inr s
theorem Exw.roL (R : Rl K H ρ h) (x : Exw ρ H ρ' H') {a : Addr} {xs : List V} (s : RoL K.f H a xs) : RoL K.f H' a xs := by
  rcases s with ⟨o, e⟩ | s
  · exact .inl ⟨o, x.keep a _ e (R.notFrz e).1 (R.notFrz e).2⟩
  · exact .inr s
theorem Exw.out (x : Exw ρ H ρ' H') {a : Addr} (n : a ∉ ρ.ids) (e : H a ≠ none) : a ∉ ρ'.ids := fun m => by
  obtain ⟨r, e1, n1⟩ := x.pre
  rw [e1] at m
  rcases List.mem_append.mp m with q | q
  · exact n q
  · exact e (n1 a q)
theorem Exw.get (x : Exw ρ H ρ' H') {i : Nat} {a : Addr} (e : ρ.ids[i]? = some a) : ρ'.ids[i]? = some a := by
  obtain ⟨r, e1, _⟩ := x.pre
  rw [e1, List.getElem?_append_left (List.getElem?_eq_some_iff.mp e).1]
  exact e
theorem Exw.rd (x : Exw ρ H ρ' H') {a : Addr} {u : HO} (s : Rd H a u) (n : a ∉ ρ.ids) (n' : a ∉ ρ.pen) : Rd H' a u := by
  rcases s with e | ⟨o, e⟩
  · exact .inl (x.keep a _ e n n')
  · exact .inr ⟨o, x.keep a _ e n n'⟩
theorem rd_some {a : Addr} {u : HO} (s : Rd H a u) : H a ≠ none := by
  rcases s with e | ⟨o, e⟩ <;> (rw [e]; intro z; cases z)
mutual
theorem RV.monow (R : Rl K H ρ h) (x : Exw ρ H ρ' H') : ∀ {u : U} {v : V}, RV K H ρ u v → RV K H' ρ' u v
  | _, _, .non => .non
  | _, _, .bl b => .bl b
  | _, _, .int i => .int i
  | _, _, .str y l => .str y l
  | _, _, .tup s l r => .tup (x.sqT R s) l (RVs.monow R x r)
  | _, _, .lst s n n' l r => .lst (x.rd s n n') (x.out n (rd_some s)) (by rw [x.pen]; exact n') l (RVs.monow R x r)
  | _, _, .ro s l r => .ro (x.roL R s) l (RVs.monow R x r)
  | _, _, .mr e => .mr (x.get e)
  | _, _, .fn e => .fn e
theorem RVs.monow (R : Rl K H ρ h) (x : Exw ρ H ρ' H') : ∀ {us : List U} {vs : List V}, RVs K H ρ us vs → RVs K H' ρ' us vs
  | _, _, .nil => .nil
  | _, _, .cons r rs => .cons (RV.monow R x r) (RVs.monow R x rs)
end
theorem RV.mono (R : Rl K H ρ h) (x : Ext ρ H ρ' H') {u : U} {v : V} (r : RV K H ρ u v) : RV K H' ρ' u v := r.monow R x.w
theorem RVs.mono (R : Rl K H ρ h) (x : Ext ρ H ρ' H') {us : List U} {vs : List V} (r : RVs K H ρ us vs) : RVs K H' ρ' us vs := r.monow R x.w
/-! another set of places: every list that stood apart stands apart -/
mutual
theorem RV.re (sub : ∀ a, H a ≠ none → a ∉ ρ.ids → a ∉ ρ.pen → a ∉ ρ'.ids ∧ a ∉ ρ'.pen) (get : ∀ (n : Nat) a, ρ.ids[n]? = some a → ρ'.ids[n]? = some a) : ∀ {u : U} {v : V}, RV K H ρ u v → RV K H ρ' u v
  | _, _, .non => .non
  | _, _, .bl b => .bl b
  | _, _, .int i => .int i
  | _, _, .str y l => .str y l
  | _, _, .tup s l r => .tup s l (RVs.re sub get r)
  | _, _, .lst s n n' l r => .lst s (sub _ (rd_some s) n n').1 (sub _ (rd_some s) n n').2 l (RVs.re sub get r)
  | _, _, .ro s l r => .ro s l (RVs.re sub get r)
  | _, _, .mr e => .mr (get _ _ e)
  | _, _, .fn e => .fn e
theorem RVs.re (sub : ∀ a, H a ≠ none → a ∉ ρ.ids → a ∉ ρ.pen → a ∉ ρ'.ids ∧ a ∉ ρ'.pen) (get : ∀ (n : Nat) a, ρ.ids[n]? = some a → ρ'.ids[n]? = some a) : ∀ {us : List U} {vs : List V}, RVs K H ρ us vs → RVs K H ρ' us vs
  | _, _, .nil => .nil
  | _, _, .cons r rs => .cons (RV.re sub get r) (RVs.re sub get rs)
end
theorem KVs.imp (f : ∀ u v, RV K H ρ u v → RV K H' ρ' u v) : ∀ {us : List (U × U)} {T : Tab}, KVs K H ρ us T → KVs K H' ρ' us T
  | _, _, .nil => .nil
  | _, _, .cons e r1 q1 z r2 q2 t => .cons e (f _ _ r1) q1 z (f _ _ r2) q2 (KVs.imp f t)
theorem FVs.imp (f : ∀ u v, RV K H ρ u v → RV K H' ρ' u v) : ∀ {us : List (Str × U)} {vs : List (Str × V)}, FVs K H ρ us vs → FVs K H' ρ' us vs
  | _, _, .nil => .nil
  | _, _, .cons r t => .cons (f _ _ r) (FVs.imp f t)
theorem KVs.length : ∀ {us : List (U × U)} {T : Tab}, KVs K H ρ us T → us.length = T.length
  | _, _, .nil => rfl
  | _, _, .cons _ _ _ _ _ _ t => by simp [KVs.length t]
theorem RO.imp {a : Addr} (f : ∀ u v, RV K H ρ u v → RV K H' ρ' u v) (fs : ∀ us vs, RVs K H ρ us vs → RVs K H' ρ' us vs) {o : O} {ho : HO} (r : RO K H ρ a o ho) : RO K H' ρ' a o ho := by
  cases o with
  | lst us => cases ho <;> first | exact ⟨r.1, fs _ _ r.2⟩ | exact r
  | dic us => cases ho <;> first | exact (let ⟨l, s, T, e, nd, q⟩ := r; ⟨l, s, T, e, nd, q.imp f⟩) | exact r
  | ins c us => cases ho <;> first | exact ⟨r.1, r.2.imp f⟩ | exact r
theorem RO.re {a : Addr} (sub : ∀ a, H a ≠ none → a ∉ ρ.ids → a ∉ ρ.pen → a ∉ ρ'.ids ∧ a ∉ ρ'.pen) (get : ∀ (n : Nat) a, ρ.ids[n]? = some a → ρ'.ids[n]? = some a) {o : O} {ho : HO} (r : RO K H ρ a o ho) : RO K H ρ' a o ho :=
  r.imp (fun _ _ q => q.re sub get) fun _ _ q => RVs.re sub get q
theorem SgR.re (sub : ∀ a, H a ≠ none → a ∉ ρ.ids → a ∉ ρ.pen → a ∉ ρ'.ids ∧ a ∉ ρ'.pen) (get : ∀ (n : Nat) a, ρ.ids[n]? = some a → ρ'.ids[n]? = some a) (S : SgR K H ρ g σ) : SgR K H ρ' g σ :=
  ⟨S.len, fun i u e => let ⟨v, e1, r⟩ := S.at_ i u e; ⟨v, e1, r.re sub get⟩⟩
theorem RO.monow {a : Addr} (R : Rl K H ρ h) (x : Exw ρ H ρ' H') {o : O} {ho : HO} (r : RO K H ρ a o ho) : RO K H' ρ' a o ho :=
  r.imp (fun _ _ q => q.monow R x) fun _ _ q => RVs.monow R x q
theorem SgR.mono (S : SgR K H ρ g σ) (R : Rl K H ρ h) (x : Ext ρ H ρ' H') : SgR K H' ρ' g σ :=
  ⟨S.len, fun i u e => let ⟨v, e1, r⟩ := S.at_ i u e; ⟨v, e1, r.mono R x⟩⟩
theorem SgR.set (S : SgR K H ρ g σ) {i : Nat} {u : U} {v : V} (r : RV K H ρ u v) : SgR K H ρ (g.set i (some u)) (σ.set i (some v)) := by
  refine ⟨by simp [S.len], fun j w e => ?_⟩
  by_cases hj : i = j
  · subst hj
    by_cases hl : i < g.length
    · rw [List.getElem?_set_self hl] at e
      cases e
      exact ⟨v, by rw [List.getElem?_set_self (by rw [← S.len]; exact hl)], r⟩
    · rw [List.getElem?_eq_none (by simpa using hl)] at e; cases e
  · rw [List.getElem?_set_ne hj] at e ⊢
    exact S.at_ j w e
theorem wipeU_length (g : Sg) : ∀ vs : List Nat, (wipeU g vs).length = g.length
  | [] => rfl
  | v :: vs => by unfold wipeU; rw [List.length_set, wipeU_length g vs]
theorem SgR.wipe (S : SgR K H ρ g σ) : ∀ vs : List Nat, SgR K H ρ (wipeU g vs) (L2.wipe σ vs)
  | [] => S
  | v :: vs => by
    have ih := SgR.wipe S vs
    refine ⟨by rw [wipeU_length, wipe_length, S.len], fun j w e => ?_⟩
    unfold wipeU at e
    unfold L2.wipe
    by_cases hj : v = j
    · subst hj
      by_cases hl : v < (wipeU g vs).length
      · rw [List.getElem?_set_self hl] at e; cases e
      · rw [List.getElem?_eq_none (by simpa using hl)] at e; cases e
    · rw [List.getElem?_set_ne hj] at e ⊢
      exact ih.at_ j w e

/-! steps -/
theorem RVs.length : ∀ {us : List U} {vs : List V}, RVs K H ρ us vs → us.length = vs.length
  | _, _, .nil => rfl
  | _, _, .cons _ r => by simp [RVs.length r]
theorem RVs.get : ∀ {us : List U} {vs : List V} {i : Nat} {u : U}, RVs K H ρ us vs → us[i]? = some u → ∃ v, vs[i]? = some v ∧ RV K H ρ u v
  | _, _, 0, _, .cons r _, e => by simp at e; subst e; exact ⟨_, rfl, r⟩
  | _, _, i + 1, u, .cons _ r, e => by
    obtain ⟨v, a, b⟩ := RVs.get (i := i) (u := u) r (by simpa using e)
    exact ⟨v, by simpa using a, b⟩
theorem RVs.get' : ∀ {us : List U} {vs : List V} {i : Nat} {v : V}, RVs K H ρ us vs → vs[i]? = some v → ∃ u, us[i]? = some u ∧ RV K H ρ u v
  | _, _, 0, _, .cons r _, e => by simp at e; subst e; exact ⟨_, rfl, r⟩
  | _, _, i + 1, v, .cons _ r, e => by
    obtain ⟨u, a, b⟩ := RVs.get' (i := i) (v := v) r (by simpa using e)
    exact ⟨u, by simpa using a, b⟩
theorem RVs.append : ∀ {us us' : List U} {vs vs' : List V}, RVs K H ρ us vs → RVs K H ρ us' vs' → RVs K H ρ (us ++ us') (vs ++ vs')
  | _, _, _, _, .nil, s => s
  | _, _, _, _, .cons r t, s => .cons r (RVs.append t s)
theorem RVs.take : ∀ {us : List U} {vs : List V} (n : Nat), RVs K H ρ us vs → RVs K H ρ (us.take n) (vs.take n)
  | _, _, 0, _ => .nil
  | _, _, _ + 1, .nil => .nil
  | _, _, n + 1, .cons r t => .cons r (RVs.take n t)
theorem RVs.drop : ∀ {us : List U} {vs : List V} (n : Nat), RVs K H ρ us vs → RVs K H ρ (us.drop n) (vs.drop n)
  | _, _, 0, r => r
  | _, _, _ + 1, .nil => .nil
  | _, _, n + 1, .cons _ t => RVs.drop n t
theorem RVs.set {u : U} {v : V} (r : RV K H ρ u v) : ∀ {us : List U} {vs : List V} (i : Nat), RVs K H ρ us vs → RVs K H ρ (us.set i u) (vs.set i v)
  | _, _, _, .nil => .nil
  | _, _, 0, .cons _ t => .cons r t
  | _, _, i + 1, .cons q t => .cons q (RVs.set r i t)
theorem Ext.new {p : Addr} {o : HO} (n : H p = none) : Ext ρ H ρ (upd H p o) :=
  ⟨⟨[], by simp, by simp⟩, rfl, fun a u e _ => by rw [upd_ne (ne_of_none e n)]; exact e, fun a e => by
    by_cases z : a = p
    · subst z; exact absurd n e
    · rw [upd_ne z]; exact e⟩
def Loc.add (ρ : Loc) (p : Addr) : Loc := ⟨ρ.ids ++ [p], ρ.pen⟩
theorem Ext.newM {p : Addr} {o : HO} (n : H p = none) : Ext ρ H (ρ.add p) (upd H p o) :=
  ⟨⟨[p], rfl, fun a m => by rw [List.mem_singleton.mp m]; exact n⟩, rfl, fun a u e _ => by rw [upd_ne (ne_of_none e n)]; exact e, fun a e => by
    by_cases z : a = p
    · subst z; exact absurd n e
    · rw [upd_ne z]; exact e⟩
theorem Ext.set {a : Addr} {o : HO} (m : a ∈ ρ.ids) : Ext ρ H ρ (upd H a o) :=
  ⟨⟨[], by simp, by simp⟩, rfl, fun b u e n => by
    have z : b ≠ a := fun z => n (by rw [z]; exact m)
    rw [upd_ne z]; exact e, fun b e => by
    by_cases z : b = a
    · subst z; rw [upd_same]; intro y; cases y
    · rw [upd_ne z]; exact e⟩
theorem RO.mono {a : Addr} (R : Rl K H ρ h) (x : Ext ρ H ρ' H') {o : O} {ho : HO} (r : RO K H ρ a o ho) : RO K H' ρ' a o ho := r.monow R x.w
theorem Rl.new (R : Rl K H ρ h) {p : Addr} {o : HO} (n : H p = none) : Rl K (upd H p o) ρ h :=
  ⟨R.len, R.nd, fun i u e => let ⟨a, ho, e1, e2, e3⟩ := R.ob i u e; ⟨a, ho, e1, by rw [upd_ne (ne_of_none e2 n)]; exact e2, e3.mono R (Ext.new n)⟩,
    fun a m => let ⟨xs, e⟩ := R.pn a m; ⟨xs, by rw [upd_ne (ne_of_none e n)]; exact e⟩, R.dj⟩
theorem Rl.newO (R : Rl K H ρ h) {p : Addr} {o : O} {ho : HO} (n : H p = none) (r : RO K H ρ p o ho) : Rl K (upd H p ho) (ρ.add p) (h ++ [o]) := by
  refine ⟨by simp [Loc.add, R.len], ?_, fun i u e => ?_, fun a m => let ⟨xs, e⟩ := R.pn a m; ⟨xs, by rw [upd_ne (ne_of_none e n)]; exact e⟩, fun a m z => ?_⟩
  · show (ρ.ids ++ [p]).Nodup
    rw [List.nodup_append]
    refine ⟨R.nd, by simp, fun a ha b hb => ?_⟩
    rw [List.mem_singleton.mp hb]
    intro z; subst z
    exact R.out n ha
  · show ∃ a ho, (ρ.ids ++ [p])[i]? = some a ∧ _
    by_cases hi : i < h.length
    · rw [List.getElem?_append_left hi] at e
      obtain ⟨a, ho', e1, e2, e3⟩ := R.ob i u e
      exact ⟨a, ho', by rw [List.getElem?_append_left (by rw [R.len]; exact hi)]; exact e1, by rw [upd_ne (ne_of_none e2 n)]; exact e2, e3.mono R (Ext.newM n)⟩
    · rw [List.getElem?_append_right (by omega)] at e
      have hi0 : i - h.length = 0 := by
        have := (List.getElem?_eq_some_iff.mp e).1
        simp at this; omega
      rw [hi0] at e
      simp at e
      subst e
      refine ⟨p, ho, ?_, upd_same, r.mono R (Ext.newM n)⟩
      rw [List.getElem?_append_right (by rw [R.len]; omega), R.len, hi0]
      rfl
  · rcases List.mem_append.mp (show a ∈ ρ.ids ++ [p] from z) with q | q
    · exact R.dj a m q
    · rw [List.mem_singleton.mp q] at m
      exact R.outP n m
theorem Rl.newM (R : Rl K H ρ h) {p : Addr} {us : List U} {xs : List V} (n : H p = none) (l : us.length ≤ sizeLine) (r : RVs K H ρ us xs) : Rl K (upd H p (.lst xs)) (ρ.add p) (h ++ [.lst us]) := R.newO n ⟨l, r⟩
theorem nodup_get {l : List Addr} (hd : l.Nodup) {i j : Nat} {a : Addr} (e1 : l[i]? = some a) (e2 : l[j]? = some a) : i = j := by
  obtain ⟨h1, q1⟩ := List.getElem?_eq_some_iff.mp e1
  obtain ⟨h2, q2⟩ := List.getElem?_eq_some_iff.mp e2
  exact (List.getElem_inj hd).mp (q1.trans q2.symm)
theorem Rl.setO (R : Rl K H ρ h) {n : Nat} {a : Addr} {o : O} {ho : HO} (e : ρ.ids[n]? = some a) (r : RO K H ρ a o ho) : Rl K (upd H a ho) ρ (h.set n o) := by
  have x : Ext ρ H ρ (upd H a ho) := Ext.set (List.mem_of_getElem? e)
  refine ⟨by simp [R.len], R.nd, fun i u e1 => ?_, fun b m => let ⟨ys, e'⟩ := R.pn b m; ⟨ys, by rw [upd_ne (fun z => R.dj b m (by rw [z]; exact List.mem_of_getElem? e))]; exact e'⟩, R.dj⟩
  by_cases hi : n = i
  · subst hi
    have hl : n < h.length := by
      have := (List.getElem?_eq_some_iff.mp e1).1
      simpa using this
    rw [List.getElem?_set_self hl] at e1
    cases e1
    exact ⟨a, ho, e, upd_same, r.mono R x⟩
  · rw [List.getElem?_set_ne hi] at e1
    obtain ⟨b, ho', e2, e3, e4⟩ := R.ob i u e1
    have z : b ≠ a := fun z => hi (nodup_get R.nd e (by rw [← z]; exact e2))
    exact ⟨b, ho', e2, by rw [upd_ne z]; exact e3, e4.mono R x⟩
theorem Rl.set (R : Rl K H ρ h) {n : Nat} {a : Addr} {us : List U} {xs : List V} (e : ρ.ids[n]? = some a) (l : us.length ≤ sizeLine) (r : RVs K H ρ us xs) : Rl K (upd H a (.lst xs)) ρ (h.set n (.lst us)) := R.setO e ⟨l, r⟩
/-- a changeable dict, where it stands -/
theorem Rl.dic (R : Rl K H ρ h) {n : Nat} {us : List (U × U)} (e : h[n]? = some (.dic us)) : ∃ a T, ρ.ids[n]? = some a ∧ H a = some (DT a T) ∧ us.length ≤ sizeLine ∧ (a == sysModules) = false ∧ (T.map (·.1)).Nodup ∧ KVs K H ρ us T := by
  obtain ⟨a, ho, e1, e2, e3⟩ := R.ob n _ e
  cases ho <;> first | exact (let ⟨l, s, T, e, nd, q⟩ := e3; ⟨a, T, e1, by rw [e2, e], l, s, nd, q⟩) | exact e3.elim
theorem RV.dic (R : Rl K H ρ h) {u : U} {v : V} {us : List (U × U)} (r : RV K H ρ u v) (e : dicOf h u = some us) : ∃ n a T, u = .mr n ∧ h[n]? = some (.dic us) ∧ v = .ref a ∧ ρ.ids[n]? = some a ∧ H a = some (DT a T) ∧ us.length ≤ sizeLine ∧ (a == sysModules) = false ∧ (T.map (·.1)).Nodup ∧ KVs K H ρ us T := by
  cases r with
  | @mr k a m =>
    simp only [dicOf] at e
    cases z : h[k]? with
    | none => rw [z] at e; cases e
    | some o =>
      rw [z] at e
      cases o with
      | dic ws =>
        cases e
        obtain ⟨b, T, e1, e2⟩ := R.dic z
        rw [m] at e1; cases e1
        exact ⟨k, a, T, rfl, z, rfl, m, e2⟩
      | _ => cases e
  | _ => cases e
theorem keq_iff {a b : U} {x y : NestedKey} (ha : kOf a = some x) (hb : kOf b = some y) : keq a b = decide (x = y) := by
  unfold keq
  rw [ha, hb]
theorem KVs.look {x : U} {k : NestedKey} (hx : kOf x = some k) : ∀ {us : List (U × U)} {T : Tab}, KVs K H ρ us T →
    (∀ u, dlook us x = some u → ∃ v val, tget T k = some val ∧ RelV v val ∧ RV K H ρ u v) ∧ (dlook us x = none → tget T k = none)
  | _, _, .nil => ⟨fun u e => (by cases e), fun _ => rfl⟩
  | _, _, .cons (k := j) (kk := j') (e := en) (u := w) (us := us) (T := T) e r1 q1 z1 r q t => by
    have ih := KVs.look hx t
    have q' := keq_iff e hx
    by_cases z : j' = k
    · rw [decide_eq_true z] at q'
      have e1 : dlook ((j, w) :: us) x = some w := by unfold dlook; rw [if_pos q']
      rw [e1]
      exact ⟨fun u e => by cases e; exact ⟨_, en.val, by unfold tget; rw [if_pos z], q, r⟩, fun e => (by cases e)⟩
    · rw [decide_eq_false z] at q'
      have e1 : dlook ((j, w) :: us) x = dlook us x := by rw [dlook, if_neg (by rw [q']; decide)]
      have e2 : tget ((j', en) :: T) k = tget T k := by rw [tget, if_neg z]
      rw [e1, e2]
      exact ih
theorem dput_length : ∀ (us : List (U × U)) (x y : U), (dput us x y).length ≤ us.length + 1
  | [], _, _ => by simp [dput]
  | (k, v) :: r, x, y => by
    unfold dput
    split
    · simp
    · simp; exact dput_length r x y
theorem KVs.put {x : U} {kx : V} {k : NestedKey} (hx : kOf x = some k) (rx : RV K H ρ x kx) {en : DictEntry} (qx : RelV kx en.key) (hz : en.hash = k.hash K.w) {y : U} {v : V} (ry : RV K H ρ y v) (qy : RelV v en.val) : ∀ {us : List (U × U)} {T : Tab}, KVs K H ρ us T → KVs K H ρ (dput us x y) (tput T k en)
  | _, _, .nil => .cons hx rx qx hz ry qy .nil
  | _, _, .cons (k := j) (kk := j') (e := e0) (u := w) (us := us) (T := T) e r1 q1 z1 r q t => by
    have ih := KVs.put hx rx qx hz ry qy t
    have q' := keq_iff e hx
    by_cases z : j' = k
    · rw [decide_eq_true z] at q'
      unfold dput tput
      rw [if_pos q', if_pos z]
      exact .cons (by rw [e, z]) r1 q1 (by rw [z1, z]) ry qy t
    · rw [decide_eq_false z] at q'
      unfold dput tput
      rw [if_neg (by rw [q']; decide), if_neg z]
      exact .cons e r1 q1 z1 r q ih
theorem KVs.keys : ∀ {us : List (U × U)} {T : Tab}, KVs K H ρ us T → us.map (fun p => kOf p.1) = T.map fun p => some p.1
  | _, _, .nil => rfl
  | _, _, .cons e _ _ _ _ _ t => by simp [e, KVs.keys t]
theorem RV.new {p : Addr} {o : HO} {u : U} {v : V} (R : Rl K H ρ h) (n : H p = none) (r : RV K H ρ u v) : RV K (upd H p o) ρ u v := RV.mono R (Ext.new n) r
/-- a changeable list, where it stands -/
theorem Rl.lst (R : Rl K H ρ h) {n : Nat} {us : List U} (e : h[n]? = some (.lst us)) : ∃ a xs, ρ.ids[n]? = some a ∧ H a = some (.lst xs) ∧ us.length ≤ sizeLine ∧ RVs K H ρ us xs := by
  obtain ⟨a, ho, e1, e2, e3⟩ := R.ob n _ e
  cases ho <;> first | exact ⟨a, _, e1, e2, e3.1, e3.2⟩ | exact e3.elim
/-- what a row of items is -/
theorem RV.seq (R : Rl K H ρ h) {u : U} {v : V} {us : List U} (r : RV K H ρ u v) (e : seqOf h u = some us) : ∃ a xs, v = .ref a ∧ (SqL K.f H a xs ∨ SqT K.f H a xs) ∧ us.length ≤ sizeLine ∧ RVs K H ρ us xs := by
  cases r with
  | tup s l q => simp only [seqOf, Option.some.injEq] at e; subst e; exact ⟨_, _, rfl, .inr s, l, q⟩
  | lst s n n' l q => simp only [seqOf, Option.some.injEq] at e; subst e; exact ⟨_, _, rfl, .inl (.inl s), l, q⟩
  | ro s l q => simp only [seqOf, Option.some.injEq] at e; subst e; exact ⟨_, _, rfl, .inl s.sq, l, q⟩
  | @mr k a m =>
    simp only [seqOf] at e
    cases z : h[k]? with
    | none => rw [z] at e; cases e
    | some o =>
      rw [z] at e
      cases o with
      | lst xs =>
        simp only [Option.some.injEq] at e; subst e
        obtain ⟨b, ys, e1, e2, e3, e4⟩ := R.lst z
        rw [m] at e1; cases e1
        exact ⟨_, _, rfl, .inl (.inl (.inl e2)), e3, e4⟩
      | _ => cases e
  | _ => cases e
theorem RV.lseq (R : Rl K H ρ h) {u : U} {v : V} {us : List U} (r : RV K H ρ u v) (e : lstOf h u = some us) : ∃ a xs, v = .ref a ∧ SqL K.f H a xs ∧ us.length ≤ sizeLine ∧ RVs K H ρ us xs := by
  cases r with
  | lst s n n' l q => simp only [lstOf, Option.some.injEq] at e; subst e; exact ⟨_, _, rfl, .inl s, l, q⟩
  | @mr k a m =>
    simp only [lstOf] at e
    cases z : h[k]? with
    | none => rw [z] at e; cases e
    | some o =>
      rw [z] at e
      cases o with
      | lst xs =>
        simp only [Option.some.injEq] at e; subst e
        obtain ⟨b, ys, e1, e2, e3, e4⟩ := R.lst z
        rw [m] at e1; cases e1
        exact ⟨_, _, rfl, .inl (.inl e2), e3, e4⟩
      | _ => cases e
  | _ => cases e
/-- what is wanted of the layer behind an expression -/
def PostE (K : Kw) (ρ : Loc) (H : Hp) (q : QE) (Q : VK) : Prop := ∀ u h' v H' ρ', Ext ρ H ρ' H' → Rl K H' ρ' h' → RV K H' ρ' u v → q u h' → Q v H'
theorem PostE.mono {q : QE} {Q : VK} (p : PostE K ρ H q Q) (x : Ext ρ H ρ' H') : PostE K ρ' H' q Q := fun u h' v H2 ρ2 y => p u h' v H2 ρ2 (x.trans y)
theorem PostE.now {q : QE} {Q : VK} {u : U} {v : V} (p : PostE K ρ H q Q) (R : Rl K H ρ h) (r : RV K H ρ u v) (e : q u h) : Q v H := p u h v H ρ Ext.refl R r e
/-- a new list -/
theorem PostE.mk {q : QE} {Q : VK} {m : Bool} {us : List U} {xs : List V} {p : Addr} (P : PostE K ρ H q Q) (R : Rl K H ρ h) (l : us.length ≤ sizeLine) (r : RVs K H ρ us xs) (n : H p = none) (e : mkL m us h q) : Q (.ref p) (upd H p (.lst xs)) := by
  cases m with
  | true =>
    have e' : q (.mr h.length) (h ++ [.lst us]) := e
    refine P _ _ _ _ (ρ.add p) (Ext.newM n) (R.newM n l r) (.mr ?_) e'
    show (ρ.ids ++ [p])[h.length]? = _
    rw [← R.len, List.getElem?_append_right (Nat.le_refl _), Nat.sub_self]
    rfl
  | false =>
    have e' : q (.lst us) h := e
    exact P _ _ _ _ ρ (Ext.new n) (R.new n) (.lst (.inl upd_same) (R.out n) (R.outP n) l (RVs.mono R (Ext.new n) r)) e'
theorem PostE.tup {q : QE} {Q : VK} {us : List U} {xs : List V} {p : Addr} (P : PostE K ρ H q Q) (R : Rl K H ρ h) (l : us.length ≤ sizeLine) (r : RVs K H ρ us xs) (n : H p = none) (e : q (.tup us) h) : Q (.ref p) (upd H p (.tup xs)) :=
  P _ _ _ _ ρ (Ext.new n) (R.new n) (.tup (.inl (.inl upd_same)) l (RVs.mono R (Ext.new n) r)) e
end
end Pl
set_option Elab.async false
set_option linter.all false
set_option maxRecDepth 100000
set_option maxHeartbeats 999999
/-! Pl: the primitives keep what their plain readings say. -/
namespace Pl
open PySem PySem.Spec L2

section
variable {K : Kw} {H : Hp} {ρ : Loc} {h : Hu}
theorem RV.rdl (R : Rl K H ρ h) {u : U} {v : V} {us : List U} (r : RV K H ρ u v) (e : lstOf h u = some us) : ∃ a xs, v = .ref a ∧ Rd H a (.lst xs) ∧ us.length ≤ sizeLine ∧ RVs K H ρ us xs := by
  cases r with
  | lst s n n' l q => simp only [lstOf, Option.some.injEq] at e; subst e; exact ⟨_, _, rfl, s, l, q⟩
  | @mr k a m =>
    simp only [lstOf] at e
    cases z : h[k]? with
    | none => rw [z] at e; cases e
    | some o =>
      rw [z] at e
      cases o with
      | lst xs =>
        simp only [Option.some.injEq] at e; subst e
        obtain ⟨b, ys, e1, e2, e3, e4⟩ := R.lst z
        rw [m] at e1; cases e1
        exact ⟨_, _, rfl, .inl e2, e3, e4⟩
      | _ => cases e
  | _ => cases e
theorem optAll_get {α : Type} : ∀ {l : List (Option α)} {r : List α}, optAll l = some r → l = r.map some
  | [], r, e => by cases e; rfl
  | none :: l, r, e => by cases e
  | some x :: l, r, e => by
    simp only [optAll, Option.map_eq_some_iff] at e
    obtain ⟨r', e1, e2⟩ := e
    subst e2
    rw [optAll_get e1]; rfl
theorem toD_dp (R : Rl K H ρ h) : ∀ (n : Nat) {u : U} {v : V} {d : PyData}, RV K H ρ u v → toD h n u = some d → Dp K.f H v d
  | 0, u, _, _, _, e => by cases u <;> cases e
  | n + 1, u, v, d, r, e => by
    have all : ∀ (us : List U) (vs : List V) (ds : List PyData), RVs K H ρ us vs → optAll (us.map (toD h n)) = some ds → DpAll K.f H vs ds := by
      intro us
      induction us with
      | nil => intro vs ds rs e; cases rs; cases e; exact .nil
      | cons u' us' ih =>
        intro vs ds rs e
        cases rs with
        | cons r rs =>
          simp only [List.map_cons] at e
          cases z : toD h n u' with
          | none => rw [z] at e; cases e
          | some d' =>
            rw [z] at e
            simp only [optAll, Option.map_eq_some_iff] at e
            obtain ⟨r', e1, e2⟩ := e
            subst e2
            exact .cons (toD_dp R n r z) (ih _ r' rs e1)
    cases r with
    | non => cases e; exact .non
    | bl b => cases e; exact .bl b
    | int i => cases e; exact .int i
    | str x _ => cases e; exact .str x
    | tup s l q =>
      simp only [toD, Option.map_eq_some_iff] at e
      obtain ⟨ds, e1, e2⟩ := e
      subst e2
      exact .tup s (all _ _ _ q e1)
    | lst s m m' l q =>
      simp only [toD, Option.map_eq_some_iff] at e
      obtain ⟨ds, e1, e2⟩ := e
      subst e2
      exact .lst (.inl s) (all _ _ _ q e1)
    | ro s l q =>
      simp only [toD, Option.map_eq_some_iff] at e
      obtain ⟨ds, e1, e2⟩ := e
      subst e2
      exact .lst s.sq (all _ _ _ q e1)
    | @mr k a m =>
      simp only [toD] at e
      cases z : h[k]? with
      | none => rw [z] at e; cases e
      | some o =>
        rw [z] at e
        cases o with
        | lst xs =>
          simp only [Option.map_eq_some_iff] at e
          obtain ⟨ds, e1, e2⟩ := e
          subst e2
          obtain ⟨b, ys, e3, e4, _, q⟩ := R.lst z
          rw [m] at e3; cases e3
          exact .lst (.inl (.inl e4)) (all _ _ _ q e1)
        | _ => cases e
    | fn _ => cases e
end

section
variable {X : Cx}
theorem rdlM {pins : List (Addr × Obj)} {σ : St} {H : Hp} {s : Shared} {l : Addr} {xs : List V} (I : Inv X pins σ H s) (hH : Rd H l (.lst xs)) : ∃ (its : List Value) (n : Nat), Vals xs its ∧ xs.length = its.length ∧ s.heap.get? l = some { cls := .type "list", data := .seq its.toArray n } := by
  obtain ⟨z, its, n, r, e⟩ := hH.ok I.hok
  exact ⟨its, n, r, r.length, e⟩
/-- list + list, of any standing -/
def rCatR : R2 := fun x y H Q => ∃ l b xs zs, x = .ref l ∧ y = .ref b ∧ Rd H l (.lst xs) ∧ Rd H b (.lst zs) ∧ xs.length + zs.length ≤ sizeLine ∧ ∀ p, H p = none → Q (.ref p) (upd H p (.lst (xs ++ zs)))
theorem op_catR : OpR X (binaryOp .Add) rCatR := by
  intro pins s σ H x y v u Q I rx ry h
  obtain ⟨l, b, xs, zs, rfl, rfl, hH, hB, hz, q⟩ := h
  cases rx
  cases ry
  obtain ⟨its, n, r, hl, e⟩ := rdlM I hH
  obtain ⟨its2, n2, r2, hl2, e2⟩ := rdlM I hB
  refine PySem.P.add_list e e2 ?_ (by rw [List.size_toArray, List.size_toArray]; omega)
  have ea : its.toArray ++ its2.toArray = (its ++ its2).toArray := by simp
  rw [ea]
  exact ⟨.ref _, _, I.lnew (t' := s.toks) (r.append r2) (by rw [List.length_append]; omega), rfl, q _ I.fresh⟩

/-! a plain key in the heap -/
mutual
theorem rv_nested {pins : List (Addr × Obj)} {σ : St} {H : Hp} {s : Shared} {ρ : Loc} (I : Inv X pins σ H s) : ∀ {u : U} {v : V} {val : Value} {k : NestedKey}, RV X.kw H ρ u v → RelV v val → keyU u = some k → NestedIs s.heap k val
  | _, _, _, _, .non, q, e => by
    simp only [keyU, Option.some.injEq] at e
    subst e
    cases q
    exact .none
  | _, _, _, _, .bl b, q, e => by
    simp only [keyU, Option.some.injEq] at e
    subst e
    cases q
    exact .bool rfl
  | _, _, _, _, .int i, q, e => by
    simp only [keyU, Option.some.injEq] at e
    subst e
    obtain ⟨t, rfl⟩ := q
    exact .int i t
  | _, _, _, _, .str x _, q, e => by
    simp only [keyU, Option.some.injEq] at e
    subst e
    obtain ⟨t, rfl⟩ := q
    exact .text x t
  | _, _, _, _, .tup s1 l r, q, e => by
    simp only [keyU, Option.map_eq_some_iff] at e
    obtain ⟨ks, e1, e2⟩ := e
    subst e2
    cases q
    obtain ⟨its, rv, ⟨o, ho, hc, n, hd⟩, _⟩ := I.tuple s1
    refine .tup ho hc hd ?_
    rw [List.toList_toArray]
    exact rvs_nested I r rv e1
  | _, _, _, _, .lst _ _ _ _ _, _, e => by cases e
  | _, _, _, _, .ro _ _ _, _, e => by cases e
  | _, _, _, _, .mr _, _, e => by cases e
  | _, _, _, _, .fn _, _, e => by cases e
theorem rvs_nested {pins : List (Addr × Obj)} {σ : St} {H : Hp} {s : Shared} {ρ : Loc} (I : Inv X pins σ H s) : ∀ {us : List U} {vs : List V} {vals : List Value} {ks : List NestedKey}, RVs X.kw H ρ us vs → Vals vs vals → keyUs us = some ks → NestedAll s.heap ks vals
  | _, _, _, _, .nil, q, e => by
    cases q
    simp only [keyUs, Option.some.injEq] at e
    subst e
    exact .nil
  | _, _, _, _, .cons r rs, q, e => by
    cases q with
    | cons q qs =>
      rename_i u v us vs val vals
      unfold keyUs at e
      cases z : keyU u with
      | none => rw [z] at e; cases e
      | some k =>
        cases y : keyUs us with
        | none => rw [z, y] at e; cases e
        | some ks' =>
          rw [z, y] at e
          cases e
          exact .cons (rv_nested I r q z) (rvs_nested I rs qs y)
end
theorem kOf_some {u : U} {k : NestedKey} (e : kOf u = some k) : keyU u = some k ∧ k.depth ≤ 8 := by
  unfold kOf at e
  cases z : keyU u with
  | none => rw [z] at e; cases e
  | some k' =>
    rw [z] at e
    dsimp only at e
    by_cases l : k'.depth ≤ 8
    · rw [if_pos l] at e
      cases e
      exact ⟨rfl, l⟩
    · rw [if_neg l] at e; cases e
section
variable {pins : List (Addr × Obj)} {σ : St} {H : Hp} {s : Shared} {ρ : Loc}
theorem KVs.ok (I : Inv X pins σ H s) : ∀ {us : List (U × U)} {T : Tab}, KVs X.kw H ρ us T → ∀ p ∈ T, NestedIs s.heap p.1 p.2.key ∧ p.2.hash = p.1.hash X.w ∧ p.1.depth ≤ 8
  | _, _, .nil, p, m => by cases m
  | _, _, .cons e r1 q1 z1 r q t, p, m => by
    rcases List.mem_cons.mp m with y | y
    · subst y
      obtain ⟨a, b⟩ := kOf_some e
      exact ⟨rv_nested I r1 q1 a, z1, b⟩
    · exact KVs.ok I t p y
theorem tab_ok (I : Inv X pins σ H s) {us : List (U × U)} {T : Tab} (nd : (T.map (·.1)).Nodup) (q : KVs X.kw H ρ us T) : TabOk X.w s.heap T := ⟨nd, q.ok I⟩
theorem tab_at (I : Inv X pins σ H s) {a : Addr} {T : Tab} (e : H a = some (DT a T)) : TabAt s.heap a T := (I.hok a _ e).1
theorem dt_new {P : Program} {w : World} {H : Hp} {h : Heap} {a : Addr} {T : Tab} (x : TabAt h a T) : ObjOk P w H h a (DT a T) := ⟨x, x.there, fun _ _ y k => y.mono k⟩
theorem dt_write (I : Inv X pins σ H s) {h' : Heap} {t' : Nat} {a : Addr} {T T' : Tab} (e : H a = some (DT a T)) (hs : Heap.SameBut a s.heap h') (x : TabAt h' a T') : Inv X pins σ (upd H a (DT a T')) { s with heap := h', toks := t' } :=
  I.write (x := a) (e := a) (by rw [e]; trivial) (.inl rfl) (fun b q hb z => (hs.2 b hb).trans z) x.there (dt_new x)
theorem dic_in (I : Inv X pins σ H s) (hu : X.A.units + 65 < cLine) (neg : Bool) {a b : U} {kvs : List (U × U)} {h : Hu} {x y : V} {v u : Value} {q : QE} {Q : VK} (R : Rl X.kw H ρ h) (ra : RV X.kw H ρ a x) (rb : RV X.kw H ρ b y) (rx : RelV x v) (ry : RelV y u) (z : dicOf h b = some kvs)
    (e : dinR neg a kvs h q) (p : PostE X.kw ρ H q Q) : wpAny (model X.prog X.w) X.A (compareOp (if neg = true then .NotIn else .In) v u) (EP X pins σ Q) X.xe s := by
  obtain ⟨e1, e2⟩ := e
  obtain ⟨k, hk⟩ := Option.isSome_iff_exists.mp e1
  obtain ⟨n, a', T, rfl, hz, rfl, m, e3, l, ns, nd, kv⟩ := rb.dic R z
  cases ry
  obtain ⟨k1, k2⟩ := kOf_some hk
  have lk : (tget T k).isSome = (dlook kvs a).isSome := by
    obtain ⟨l1, l2⟩ := kv.look hk
    cases y : dlook kvs a with
    | none => rw [l2 y]; rfl
    | some w => obtain ⟨v', val, e5, _⟩ := l1 w y; rw [e5]; rfl
  refine in_tab neg (by show X.A.in1.units + 8 < cLine; have : X.A.in1.units = X.A.units + 1 := rfl; omega) (rv_nested I ra rx k1) k2 ns (tab_at I e3) (tab_ok I nd kv) fun tk => ⟨.bl _, H, I.tok tk, rfl, p.now R (.bl _) ?_⟩
  rw [lk]
  exact e2
end
def opOf : Bo → Operator
  | .add => .Add | .sub => .Sub | .mul => .Mult | .fdiv => .FloorDiv | .mod => .Mod | .pow => .Pow
def rBin (K : Kw) (op : Bo) (m : Bool) : R2 := fun x y H Q => ∃ ρ a b h q, Rl K H ρ h ∧ RV K H ρ a x ∧ RV K H ρ b y ∧ binR op m a b h q ∧ PostE K ρ H q Q
theorem op_bin (op : Bo) (m : Bool) : OpR X (binaryOp (opOf op)) (rBin X.kw op m) := by
  intro pins s σ H x y v u Q I rx ry hh
  obtain ⟨ρ, a, b, h, q, R, ra, rb, e, p⟩ := hh
  have lists : (∃ xs ys, lstOf h a = some xs ∧ lstOf h b = some ys ∧ xs.length + ys.length ≤ sizeLine ∧ mkL m (xs ++ ys) h q) → wpAny (model X.prog X.w) X.A (binaryOp .Add v u) (EP X pins σ Q) X.xe s := by
    rintro ⟨xs, ys, e1, e2, e3, e4⟩
    obtain ⟨l, vs, rfl, s1, _, r1⟩ := ra.rdl R e1
    obtain ⟨l2, vs2, rfl, s2, _, r2⟩ := rb.rdl R e2
    have n1 := r1.length
    have n2 := r2.length
    refine op_catR pins s σ H _ _ v u Q I rx ry ⟨l, l2, vs, vs2, rfl, rfl, s1, s2, by omega, fun pp np => ?_⟩
    exact p.mk R (by rw [List.length_append]; omega) (r1.append r2) np e4
  cases op with
  | add =>
    cases ra <;> cases rb <;> first
      | exact lists e
      | exact op_add pins s σ H _ _ v u Q I rx ry ⟨_, _, rfl, rfl, p.now R (.int _) e⟩
      | skip
    case str.str i _ j _ => exact op_add_str pins s σ H _ _ v u Q I rx ry ⟨_, _, rfl, rfl, e.1, p.now R (.str _ (by have := e.1; show (i.cps ++ j.cps).size ≤ _; rw [Array.size_append]; exact this)) e.2⟩
    case tup.tup us a1 vs s1 l1 r1 us2 a2 vs2 s2 l2 r2 =>
      have n1 := r1.length
      have n2 := r2.length
      obtain ⟨e1, e2⟩ := (show us.length + us2.length ≤ sizeLine ∧ q (.tup (us ++ us2)) h from e)
      refine op_catA pins s σ H _ _ v u Q I rx ry ⟨a1, a2, vs, vs2, rfl, rfl, s1, s2, by omega, fun z => ?_, fun _ z => ?_, fun _ _ pp np => ?_⟩
      · subst z
        have : us = [] := by cases r1; rfl
        subst this
        exact p.now R (.tup s2 l2 r2) e2
      · subst z
        have : us2 = [] := by cases r2; rfl
        subst this
        exact p.now R (.tup s1 l1 r1) (by simpa using e2)
      · exact p.tup R (by rw [List.length_append]; omega) (r1.append r2) np e2
  | sub => cases ra <;> cases rb <;> first | exact op_sub pins s σ H _ _ v u Q I rx ry ⟨_, _, rfl, rfl, p.now R (.int _) e⟩ | exact e.elim
  | mul =>
    cases ra <;> cases rb <;> first | exact op_mul pins s σ H _ _ v u Q I rx ry ⟨_, _, rfl, rfl, e.1, p.now R (.int _) e.2⟩ | exact False.elim e | skip
    case tup.int us a1 vs s1 l1 r1 k =>
      obtain ⟨⟨h0, h1, h2, h3⟩, e⟩ := (show (us ≠ [] ∧ 2 ≤ k ∧ k ≤ 1000 ∧ us.length ≤ 1000) ∧ q (.tup (List.replicate k.toNat us).flatten) h from e)
      have n1 := r1.length
      refine op_repT pins s σ H _ _ v u Q I rx ry ⟨a1, k, vs, rfl, rfl, s1, fun z => ?_, h1, h2, by omega, fun pp np => ?_⟩
      · subst z
        cases r1
        exact h0 rfl
      · have hl : ∀ n : Nat, (List.replicate n us).flatten.length = n * us.length := fun n => by simp
        have hr : ∀ n : Nat, RVs X.kw H ρ (List.replicate n us).flatten (List.replicate n vs).flatten := fun n => by
          induction n with
          | zero => exact .nil
          | succ n ih =>
            rw [List.replicate_succ, List.replicate_succ, List.flatten_cons, List.flatten_cons]
            exact r1.append ih
        refine p.tup R ?_ (hr _) np e
        rw [hl, sizeLine_eq]
        have h4 : k.toNat ≤ 1000 := by omega
        exact Nat.le_trans (Nat.mul_le_mul h4 h3) (by decide)
  | fdiv => cases ra <;> cases rb <;> first | exact op_fdivW pins s σ H _ _ v u Q I rx ry ⟨_, _, rfl, rfl, e.1, p.now R (.int _) e.2⟩ | exact e.elim
  | mod => cases ra <;> cases rb <;> first | exact op_mod pins s σ H _ _ v u Q I rx ry ⟨_, _, rfl, rfl, e.1, p.now R (.int _) e.2⟩ | exact e.elim
  | pow =>
    cases ra <;> cases rb <;> first
      | (refine op_pow pins s σ H _ _ v u Q I rx ry ⟨_, _, rfl, rfl, ⟨e.1.1, e.1.2.1, ?_⟩, p.now R (.int _) e.2⟩
         have h1 := e.1.2.2.1
         have h2 := e.1.2.2.2
         omega)
      | exact e.elim

def cOf : Co → CmpOp
  | .eq => .Eq | .ne => .NotEq | .lt => .Lt | .le => .LtE | .gt => .Gt | .ge => .GtE | .isN => .Is | .notN => .IsNot | .inn => .In | .nin => .NotIn
def rCmp (K : Kw) (op : Co) : R2 := fun x y H Q => ∃ ρ a b h q, Rl K H ρ h ∧ RV K H ρ a x ∧ RV K H ρ b y ∧ cmpR op a b h q ∧ PostE K ρ H q Q
theorem op_cmp (hu : X.A.units + 65 < cLine) (op : Co) : OpR X (compareOp (cOf op)) (rCmp X.kw op) := by
  intro pins s σ H x y v u Q I rx ry hh
  obtain ⟨ρ, a, b, h, q, R, ra, rb, e, p⟩ := hh
  cases op with
  | eq =>
    obtain ⟨d, d', e1, e2, e3, e4, e5⟩ := (show eqR false a b h q from by cases a <;> cases b <;> exact e)
    exact op_eqD (by omega) pins s σ H _ _ v u Q I rx ry ⟨d, d', toD_dp R _ ra e1, toD_dp R _ rb e2, e3, e4, p.now R (.bl _) e5⟩
  | ne =>
    obtain ⟨d, d', e1, e2, e3, e4, e5⟩ := (show eqR true a b h q from by cases a <;> cases b <;> exact e)
    exact op_neD (by omega) pins s σ H _ _ v u Q I rx ry ⟨d, d', toD_dp R _ ra e1, toD_dp R _ rb e2, e3, e4, p.now R (.bl _) e5⟩
  | lt => cases ra <;> cases rb <;> first | exact op_lt pins s σ H _ _ v u Q I rx ry ⟨_, _, rfl, rfl, p.now R (.bl _) e⟩ | exact e.elim
  | le => cases ra <;> cases rb <;> first | exact op_le pins s σ H _ _ v u Q I rx ry ⟨_, _, rfl, rfl, p.now R (.bl _) e⟩ | exact e.elim
  | gt => cases ra <;> cases rb <;> first | exact op_gt pins s σ H _ _ v u Q I rx ry ⟨_, _, rfl, rfl, p.now R (.bl _) e⟩ | exact e.elim
  | ge => cases ra <;> cases rb <;> first | exact op_ge pins s σ H _ _ v u Q I rx ry ⟨_, _, rfl, rfl, p.now R (.bl _) e⟩ | exact e.elim
  | isN => cases rb <;> first | (cases ra <;> exact op_isN pins s σ H _ _ v u Q I rx ry ⟨rfl, p.now R (.bl _) e⟩) | (cases ra <;> first | exact op_is_bl pins s σ H _ _ v u Q I rx ry ⟨_, _, rfl, rfl, p.now R (.bl _) e⟩ | exact e.elim)
  | notN => cases rb <;> first | (cases ra <;> exact op_notN pins s σ H _ _ v u Q I rx ry ⟨rfl, p.now R (.bl _) e⟩) | (cases ra <;> first | exact op_isnot_bl pins s σ H _ _ v u Q I rx ry ⟨_, _, rfl, rfl, p.now R (.bl _) e⟩ | exact e.elim)
  | inn =>
    have e' : (match dicOf h b with | some kvs => dinR false a kvs h q | none => inR false a b h q) := by cases a <;> cases b <;> exact e
    cases z : dicOf h b with
    | some kvs =>
      rw [z] at e'
      exact dic_in I hu false R ra rb rx ry z e' p
    | none =>
      rw [z] at e'
      obtain ⟨d, ds, e1, e2, e3, e4, e5⟩ := e'
      exact op_inD hu pins s σ H _ _ v u Q I rx ry ⟨d, ds, toD_dp R _ ra e1, toD_dp R _ rb e2, e3, e4, p.now R (.bl _) e5⟩
  | nin =>
    have e' : (match dicOf h b with | some kvs => dinR true a kvs h q | none => inR true a b h q) := by cases a <;> cases b <;> exact e
    cases z : dicOf h b with
    | some kvs =>
      rw [z] at e'
      exact dic_in I hu true R ra rb rx ry z e' p
    | none =>
      rw [z] at e'
      obtain ⟨d, ds, e1, e2, e3, e4, e5⟩ := e'
      exact op_notInD hu pins s σ H _ _ v u Q I rx ry ⟨d, ds, toD_dp R _ ra e1, toD_dp R _ rb e2, e3, e4, p.now R (.bl _) e5⟩
end
end Pl
set_option Elab.async false
set_option linter.all false
set_option maxRecDepth 100000
set_option maxHeartbeats 999999
/-! Pl: sorted. -/
namespace Pl
open PySem PySem.Spec L2

/-! ### the plain order -/
theorem natl_neg {a b c : List Nat} (h1 : ¬ b < a) (h2 : ¬ c < b) : ¬ c < a := List.not_lt.mpr (List.le_trans (List.not_lt.mp h1) (List.not_lt.mp h2))
def OKk (k : Skd) (u : U) : Prop := skOf u = some k
theorem skOf_int {u : U} (h : OKk .int u) : ∃ i, u = .int i := by
  unfold OKk at h
  unfold skOf at h
  split at h <;> first | exact ⟨_, rfl⟩ | cases h
theorem skOf_str {u : U} (h : OKk .str u) : ∃ i, u = .str i := by
  unfold OKk at h
  unfold skOf at h
  split at h <;> first | exact ⟨_, rfl⟩ | cases h
theorem skOf_pair {u : U} (h : OKk .pair u) : ∃ i j, u = .tup [.int i, .int j] := by
  unfold OKk at h
  unfold skOf at h
  split at h <;> first | exact ⟨_, _, rfl⟩ | cases h
theorem ltU_pair {a b c d : Int} : ltU (.tup [.int a, .int b]) (.tup [.int c, .int d]) = (decide (a < c) || (decide (a = c) && decide (b < d))) := rfl
theorem ltU_anti {k : Skd} {u v : U} (hu : OKk k u) (hv : OKk k v) (h1 : ltU u v = false) (h2 : ltU v u = false) : u = v := by
  cases k with
  | int =>
    obtain ⟨i, rfl⟩ := skOf_int hu
    obtain ⟨j, rfl⟩ := skOf_int hv
    have a := of_decide_eq_false h1
    have b := of_decide_eq_false h2
    rw [show i = j by omega]
  | str =>
    obtain ⟨i, rfl⟩ := skOf_str hu
    obtain ⟨j, rfl⟩ := skOf_str hv
    have a : ¬ i.cps.toList < j.cps.toList := of_decide_eq_false h1
    have b : ¬ j.cps.toList < i.cps.toList := of_decide_eq_false h2
    have e : i.cps.toList = j.cps.toList := Std.le_antisymm (List.not_lt.mp b) (List.not_lt.mp a)
    obtain ⟨⟨x⟩⟩ := i
    obtain ⟨⟨y⟩⟩ := j
    have e : x = y := e
    rw [e]
  | pair =>
    obtain ⟨a, b, rfl⟩ := skOf_pair hu
    obtain ⟨c, d, rfl⟩ := skOf_pair hv
    rw [ltU_pair] at h1 h2
    simp only [Bool.or_eq_false_iff, Bool.and_eq_false_iff, decide_eq_false_iff_not] at h1 h2
    have e1 : a = c := by omega
    subst e1
    have e2 : b = d := by omega
    rw [e2]
theorem ltU_tr {k : Skd} {u v w : U} (hu : OKk k u) (hv : OKk k v) (hw : OKk k w) (h1 : ltU v u = false) (h2 : ltU w v = false) : ltU w u = false := by
  cases k with
  | int =>
    obtain ⟨i, rfl⟩ := skOf_int hu
    obtain ⟨j, rfl⟩ := skOf_int hv
    obtain ⟨l, rfl⟩ := skOf_int hw
    have a := of_decide_eq_false h1
    have b := of_decide_eq_false h2
    exact decide_eq_false (by omega)
  | str =>
    obtain ⟨i, rfl⟩ := skOf_str hu
    obtain ⟨j, rfl⟩ := skOf_str hv
    obtain ⟨l, rfl⟩ := skOf_str hw
    exact decide_eq_false (natl_neg (of_decide_eq_false h1) (of_decide_eq_false h2))
  | pair =>
    obtain ⟨a, b, rfl⟩ := skOf_pair hu
    obtain ⟨c, d, rfl⟩ := skOf_pair hv
    obtain ⟨e, f, rfl⟩ := skOf_pair hw
    rw [ltU_pair] at h1 h2 ⊢
    simp only [Bool.or_eq_false_iff, Bool.and_eq_false_iff, decide_eq_false_iff_not] at h1 h2 ⊢
    omega
theorem ltU_asym {k : Skd} {u v : U} (hu : OKk k u) (hv : OKk k v) (h1 : ltU u v = true) : ltU v u = false := by
  cases k with
  | int =>
    obtain ⟨i, rfl⟩ := skOf_int hu
    obtain ⟨j, rfl⟩ := skOf_int hv
    have a := of_decide_eq_true h1
    exact decide_eq_false (by omega)
  | str =>
    obtain ⟨i, rfl⟩ := skOf_str hu
    obtain ⟨j, rfl⟩ := skOf_str hv
    exact decide_eq_false (List.lt_asymm (of_decide_eq_true h1))
  | pair =>
    obtain ⟨a, b, rfl⟩ := skOf_pair hu
    obtain ⟨c, d, rfl⟩ := skOf_pair hv
    rw [ltU_pair] at h1 ⊢
    simp only [Bool.or_eq_false_iff, Bool.and_eq_false_iff, decide_eq_false_iff_not, Bool.or_eq_true, Bool.and_eq_true, decide_eq_true_eq] at h1 ⊢
    omega
theorem insU_perm (u : U) : ∀ l : List U, (insU u l).Perm (u :: l)
  | [] => List.Perm.refl _
  | v :: r => by
    unfold insU
    split
    · exact ((insU_perm u r).cons v).trans (List.Perm.swap u v r)
    · exact List.Perm.refl _
theorem srtU_perm : ∀ l : List U, (srtU l).Perm l
  | [] => List.Perm.refl _
  | u :: r => (insU_perm u (srtU r)).trans ((srtU_perm r).cons u)
def Sd (l : List U) : Prop := l.Pairwise fun x y => ltU y x = false
theorem insU_sd {k : Skd} {u : U} (hu : OKk k u) : ∀ {l : List U}, (∀ x ∈ l, OKk k x) → Sd l → Sd (insU u l)
  | [], _, _ => List.pairwise_singleton _ _
  | v :: r, hl, s => by
    have hv := hl v List.mem_cons_self
    have hs := List.pairwise_cons.mp s
    unfold insU
    split
    · rename_i c
      refine List.pairwise_cons.mpr ⟨fun y hy => ?_, insU_sd hu (fun x m => hl x (List.mem_cons_of_mem _ m)) hs.2⟩
      rcases List.mem_cons.mp ((insU_perm u r).mem_iff.mp hy) with z | z
      · rw [z]; exact ltU_asym hv hu c
      · exact hs.1 y z
    · rename_i c
      have c : ltU v u = false := by simpa using c
      refine List.pairwise_cons.mpr ⟨fun y hy => ?_, s⟩
      rcases List.mem_cons.mp hy with z | z
      · rw [z]; exact c
      · exact ltU_tr hu hv (hl y (List.mem_cons_of_mem _ z)) c (hs.1 y z)
theorem srtU_sd {k : Skd} : ∀ {l : List U}, (∀ x ∈ l, OKk k x) → Sd (srtU l)
  | [], _ => List.Pairwise.nil
  | u :: r, hl => insU_sd (hl u List.mem_cons_self) (fun x m => hl x (List.mem_cons_of_mem _ ((srtU_perm r).mem_iff.mp m))) (srtU_sd fun x m => hl x (List.mem_cons_of_mem _ m))
theorem srtU_uniq {k : Skd} {l m : List U} (hl : ∀ x ∈ l, OKk k x) (p : m.Perm l) (s : Sd m) : m = srtU l :=
  List.Perm.eq_of_pairwise (le := fun x y => ltU y x = false) (fun a b ha hb h1 h2 => ltU_anti (hl a (p.mem_iff.mp ha)) (hl b ((srtU_perm l).mem_iff.mp hb)) h2 h1) s (srtU_sd hl) (p.trans (srtU_perm l).symm)
theorem skAll_mem {k : Skd} : ∀ {l : List U}, skAll k l = true → ∀ x ∈ l, OKk k x
  | [], _, _, m => by cases m
  | u :: r, h, x, m => by
    unfold skAll at h
    simp only [Bool.and_eq_true, decide_eq_true_eq] at h
    rcases List.mem_cons.mp m with z | z
    · rw [z]; exact h.1
    · exact skAll_mem h.2 x z
theorem sortOk_mem {l : List U} (h : sortOk l = true) : ∃ k, ∀ x ∈ l, OKk k x := by
  cases l with
  | nil => exact ⟨.int, fun x m => by cases m⟩
  | cons u r =>
    have h : (match skOf u with | some k => skAll k r | none => false) = true := h
    cases e : skOf u with
    | none => rw [e] at h; cases h
    | some k =>
      rw [e] at h
      exact ⟨k, fun x m => by
        rcases List.mem_cons.mp m with z | z
        · rw [z]; exact e
        · exact skAll_mem h x z⟩

/-! ### in the model -/
section
open PyProof.Rows SrtO
variable {prog : Program} {w : World} {A : Around} {E : Value → Shared → Prop} {s : Shared}
theorem sorted_coll {r : Addr} {vs : List Value} {ltv : Value → Value → Bool} {Q : Value → Shared → Prop} (O : Swo ltv)
    (hcol : ∀ R : List Value → Shared → Prop, (∀ h' tk, (∀ b o, s.heap.get? b = some o → h'.get? b = some o) → R vs { s with heap := h', toks := tk }) → wpAny (model prog w) A.in1 (collect (.ref r)) R E s) (hz : vs.length ≤ sizeLine)
    (hS : 2 ≤ vs.length → ∀ (h₁ : Heap) (a : Addr) (tk : Nat), h₁.get? a = some (seqObj "list" vs.toArray 0) → (∀ b o, s.heap.get? b = some o → b ≠ a ∧ h₁.get? b = some o) → SortableO prog w A.in1.in1 { s with heap := h₁, toks := tk } a vs ltv)
    (h : ∀ (h1 h' : Heap) (tk : Nat) (out : List Value), Srtd ltv out → Stb ltv out vs → (∀ b o, s.heap.get? b = some o → h1.get? b = some o) → (∀ b o, h1.get? b = some o → h'.get? b = some o) → (∃ n, h'.get? h1.objs.size = some (seqObj "list" out.toArray n)) → Q (.ref h1.objs.size) { s with heap := h', toks := tk }) :
    wpAny (model prog w) A (call (.builtin "sorted") [.ref r]) Q E s := by
  refine Calls.call_function_entry kind_sorted plain_sorted entry_sorted (args_sorted1 _) ?_
  unfold Builtin.«sorted»
  refine wpAny_bind (m := checkCount "sorted" 1 1 _) (wpAny_pure ?_)
  refine wpAny_bind (hcol _ fun h1 tk hk => ?_)
  refine wpAny_bind (wpAny_newList ?_ hz)
  have hoL : (h1.push (seqObj "list" vs.toArray 0)).get? h1.objs.size = some (seqObj "list" vs.toArray 0) := Heap.get?_push_size _ rfl
  have keep : ∀ b o, s.heap.get? b = some o → b ≠ h1.objs.size ∧ (h1.push (seqObj "list" vs.toArray 0)).get? b = some o := fun b o q => by
    have hlt : b < h1.objs.size := Heap.lt_size (hk b o q)
    exact ⟨Nat.ne_of_lt hlt, Heap.get?_push_of_some _ (hk b o q)⟩
  show wpAny _ _ _ _ _ { s with heap := h1.push (seqObj "list" vs.toArray 0), toks := tk }
  refine wpAny_bind (wpAny_holding (wpAny_call_entry slot_list_sort ⟨_, hoL, rfl⟩ entry_list_sort (list_sort_ord (s := { s with heap := h1.push (seqObj "list" vs.toArray 0), toks := tk }) O hoL hz (fun h2 => hS h2 _ _ _ hoL keep) fun out hs hb => ⟨_, rfl, ?_⟩) (args_list_sort _)))
  refine wpAny_pure ⟨_, rfl, h _ _ _ out hs hb hk (fun b o e => ?_) (sortedHeap_at hoL)⟩
  have k1 : b ≠ h1.objs.size := Nat.ne_of_lt (Heap.lt_size e)
  have k2 := Heap.get?_push_of_some (seqObj "list" vs.toArray 0) e
  exact (sortedHeap_old k1 (Heap.lt_size k2)).trans k2
/-! the order of the values -/
def valLt (k : Skd) (kp : Value → Int × Int) (v u : Value) : Bool := match k with
  | .int => ltIv v u
  | .str => decide ((strOf v).cps.toList < (strOf u).cps.toList)
  | .pair => lexB (kp v) (kp u)
theorem valLt_swo (k : Skd) (kp : Value → Int × Int) : Swo (valLt k kp) := by
  cases k with
  | int => exact swo_int
  | str => exact ⟨fun x y h => decide_eq_false (List.lt_asymm (of_decide_eq_true h)), fun x y z h1 h2 => decide_eq_false (natl_neg (of_decide_eq_false h1) (of_decide_eq_false h2))⟩
  | pair => exact swo_lex kp
theorem strs_sortable {a : Addr} {vs : List Value} {ns : List Str} (hI : StrsAre vs ns) (h2 : 2 ≤ vs.length) : SortableO prog w A s a vs (fun v u => decide ((strOf v).cps.toList < (strOf u).cps.toList)) := by
  intro h' _
  refine ⟨oneType', fun Q E hq => ?_, fun p q hm hm' => ?_⟩
  · match vs, hI, h2 with
    | v1 :: v2 :: rest, hI, _ =>
      rw [keyKind_strs hI]
      exact wpAny_pure hq
    | [], _, h => exact absurd h (by decide)
    | [v], _, h => exact absurd h (by simp)
  · obtain ⟨a, t, e⟩ := hI.all _ hm
    obtain ⟨b, u, e'⟩ := hI.all _ hm'
    show wpAny (model prog w) A (keyLt' oneType' p.1 q.1) (fun r s' => s' = _ ∧ r = decide ((strOf p.1).cps.toList < (strOf q.1).cps.toList)) (fun _ _ => False) _
    rw [e, e', keyLt'_oneType]
    exact oneLt_str ⟨rfl, rfl⟩
end
/-! ### over the layer -/
section
open PyProof.Rows SrtO
variable {X : Cx} {pins : List (Addr × Obj)} {σ : L2.St} {H : Hp} {s : Shared} {ρ : Loc} {h : Hu}
inductive TR (K : Kw) (H : Hp) (ρ : Loc) : List U → List V → List Value → Prop
  | nil : TR K H ρ [] [] []
  | cons {u : U} {v : V} {x : Value} {us : List U} {vs : List V} {xs : List Value} : RV K H ρ u v → RelV v x → TR K H ρ us vs xs → TR K H ρ (u :: us) (v :: vs) (x :: xs)
theorem TR.of {K : Kw} : ∀ {us : List U} {vs : List V} {xs : List Value}, RVs K H ρ us vs → Vals vs xs → TR K H ρ us vs xs
  | _, _, _, .nil, .nil => .nil
  | _, _, _, .cons r rs, .cons q qs => .cons r q (TR.of rs qs)
theorem TR.rvs {K : Kw} : ∀ {us : List U} {vs : List V} {xs : List Value}, TR K H ρ us vs xs → RVs K H ρ us vs ∧ Vals vs xs
  | _, _, _, .nil => ⟨.nil, .nil⟩
  | _, _, _, .cons r q t => ⟨.cons r (TR.rvs t).1, .cons q (TR.rvs t).2⟩
theorem TR.perm {K : Kw} {xs ys : List Value} (p : ys.Perm xs) : ∀ {us : List U} {vs : List V}, TR K H ρ us vs xs → ∃ us' vs', us'.Perm us ∧ TR K H ρ us' vs' ys := by
  have key : ∀ {a b : List Value}, a.Perm b → ∀ {us : List U} {vs : List V}, TR K H ρ us vs a → ∃ us' vs', us'.Perm us ∧ TR K H ρ us' vs' b := by
    intro a b p
    induction p with
    | nil => intro us vs t; cases t; exact ⟨[], [], List.Perm.refl _, .nil⟩
    | cons x p ih =>
      intro us vs t
      cases t with
      | cons r q t =>
        obtain ⟨us', vs', p', t'⟩ := ih t
        exact ⟨_, _, p'.cons _, .cons r q t'⟩
    | swap x y l =>
      intro us vs t
      cases t with
      | cons r q t =>
        cases t with
        | cons r2 q2 t => exact ⟨_, _, List.Perm.swap _ _ _, .cons r2 q2 (.cons r q t)⟩
    | trans p1 p2 ih1 ih2 =>
      intro us vs t
      obtain ⟨us1, vs1, p', t'⟩ := ih1 t
      obtain ⟨us2, vs2, p'', t''⟩ := ih2 t'
      exact ⟨us2, vs2, p''.trans p', t''⟩
  intro us vs t
  exact key p.symm t
open Classical in
noncomputable def kpOf (h : Heap) (v : Value) : Int × Int := if e : ∃ p : Int × Int, Srt.IsPair h v p.1 p.2 then e.choose else (0, 0)
theorem isPair_inj {h : Heap} {v : Value} {i j k l : Int} (a : Srt.IsPair h v i j) (b : Srt.IsPair h v k l) : i = k ∧ j = l := by
  obtain ⟨a, o, t, u, n, e, ho, hc, hd⟩ := a
  obtain ⟨a', o', t', u', n', e', ho', hc', hd'⟩ := b
  subst e
  cases e'
  rw [ho] at ho'; cases ho'
  rw [hd] at hd'
  injection hd' with z _
  simp at z
  exact ⟨z.1.1, z.2.1⟩
theorem kpOf_eq {h : Heap} {v : Value} {i j : Int} (a : Srt.IsPair h v i j) : kpOf h v = (i, j) := by
  unfold kpOf
  have e : ∃ p : Int × Int, Srt.IsPair h v p.1 p.2 := ⟨(i, j), a⟩
  rw [dif_pos e]
  have := isPair_inj e.choose_spec a
  exact Prod.ext this.1 this.2
theorem pair_is (I : Inv X pins σ H s) {i j : Int} {v : V} {x : Value} (r : RV X.kw H ρ (.tup [.int i, .int j]) v) (q : RelV v x) : Srt.IsPair s.heap x i j := by
  cases r with
  | tup s1 l rs =>
    cases q
    obtain ⟨its, rv, ⟨o, ho, hc, n, hd⟩, _⟩ := I.tuple s1
    cases rs with
    | cons r1 rs =>
      cases rs with
      | cons r2 rs =>
        cases rs
        cases r1
        cases r2
        obtain ⟨u1, u2, rfl, ⟨t1, rfl⟩, ⟨t2, rfl⟩⟩ := L2.vals2 rv
        exact ⟨_, o, t1, t2, n, rfl, ho, hc, hd⟩
theorem valLt_eq (I : Inv X pins σ H s) {k : Skd} {u u2 : U} {v v2 : V} {x x2 : Value} (r : RV X.kw H ρ u v) (r2 : RV X.kw H ρ u2 v2) (q : RelV v x) (q2 : RelV v2 x2) (h1 : OKk k u) (h2 : OKk k u2) : valLt k (kpOf s.heap) x x2 = ltU u u2 := by
  cases k with
  | int =>
    obtain ⟨i, rfl⟩ := skOf_int h1
    obtain ⟨j, rfl⟩ := skOf_int h2
    cases r
    cases r2
    obtain ⟨t, rfl⟩ := q
    obtain ⟨t2, rfl⟩ := q2
    rfl
  | str =>
    obtain ⟨i, rfl⟩ := skOf_str h1
    obtain ⟨j, rfl⟩ := skOf_str h2
    cases r
    cases r2
    obtain ⟨t, rfl⟩ := q
    obtain ⟨t2, rfl⟩ := q2
    rfl
  | pair =>
    obtain ⟨a, b, rfl⟩ := skOf_pair h1
    obtain ⟨c, d, rfl⟩ := skOf_pair h2
    show lexB (kpOf s.heap x) (kpOf s.heap x2) = _
    rw [kpOf_eq (pair_is I r q), kpOf_eq (pair_is I r2 q2), ltU_pair]
    unfold lexB
    by_cases e : a = c
    · subst e
      simp
    · simp [e]

theorem TR.ints {k : Kw} : ∀ {us : List U} {vs : List V} {xs : List Value}, (∀ x ∈ us, OKk .int x) → TR k H ρ us vs xs → ∃ ns, IntsAre xs ns
  | [], _, _, _, .nil => ⟨[], .nil⟩
  | u :: us, _, _, o, .cons r q t => by
    obtain ⟨i, rfl⟩ := skOf_int (o u List.mem_cons_self)
    cases r
    obtain ⟨tk, rfl⟩ := q
    obtain ⟨ns, e⟩ := TR.ints (fun x m => o x (List.mem_cons_of_mem _ m)) t
    exact ⟨i :: ns, .cons i tk e⟩
theorem TR.strs {k : Kw} : ∀ {us : List U} {vs : List V} {xs : List Value}, (∀ x ∈ us, OKk .str x) → TR k H ρ us vs xs → ∃ ns, StrsAre xs ns
  | [], _, _, _, .nil => ⟨[], .nil⟩
  | u :: us, _, _, o, .cons r q t => by
    obtain ⟨i, rfl⟩ := skOf_str (o u List.mem_cons_self)
    cases r
    obtain ⟨tk, rfl⟩ := q
    obtain ⟨ns, e⟩ := TR.strs (fun x m => o x (List.mem_cons_of_mem _ m)) t
    exact ⟨i :: ns, .cons i tk e⟩
theorem TR.pairs (I : Inv X pins σ H s) : ∀ {us : List U} {vs : List V} {xs : List Value}, (∀ x ∈ us, OKk .pair x) → TR X.kw H ρ us vs xs → ∀ v ∈ xs, ∃ i j, Srt.IsPair s.heap v i j
  | [], _, _, _, .nil, _, m => by cases m
  | u :: us, _, _, o, .cons r q t, v, m => by
    obtain ⟨i, j, rfl⟩ := skOf_pair (o u List.mem_cons_self)
    rcases List.mem_cons.mp m with z | z
    · rw [z]; exact ⟨i, j, pair_is I r q⟩
    · exact TR.pairs I (fun x m => o x (List.mem_cons_of_mem _ m)) t v z
theorem TR.length {k : Kw} : ∀ {us : List U} {vs : List V} {xs : List Value}, TR k H ρ us vs xs → us.length = xs.length
  | _, _, _, .nil => rfl
  | _, _, _, .cons _ _ t => by simp [TR.length t]
theorem TR.mem {k : Kw} : ∀ {us : List U} {vs : List V} {xs : List Value}, TR k H ρ us vs xs → ∀ x ∈ xs, ∃ u ∈ us, ∃ v, RV k H ρ u v ∧ RelV v x
  | _, _, _, .nil, _, m => by cases m
  | _, _, _, .cons r q t, x, m => by
    rcases List.mem_cons.mp m with z | z
    · rw [z]; exact ⟨_, List.mem_cons_self, _, r, q⟩
    · obtain ⟨u, hu, v, h1⟩ := TR.mem t x z
      exact ⟨u, List.mem_cons_of_mem _ hu, v, h1⟩
theorem TR.sd (I : Inv X pins σ H s) {k : Skd} : ∀ {us : List U} {vs : List V} {xs : List Value}, (∀ x ∈ us, OKk k x) → TR X.kw H ρ us vs xs → Srtd (valLt k (kpOf s.heap)) xs → Sd us
  | [], _, _, _, .nil, _ => List.Pairwise.nil
  | u :: us, v :: vs, x :: xs, o, .cons r q t, hs => by
    have hs' := List.pairwise_cons.mp hs
    refine List.pairwise_cons.mpr ⟨fun y hy => ?_, TR.sd I (fun x m => o x (List.mem_cons_of_mem _ m)) t hs'.2⟩
    have key : ∀ {us : List U} {vs : List V} {xs : List Value}, TR X.kw H ρ us vs xs → ∀ y ∈ us, ∃ x2 ∈ xs, ∃ v2, RV X.kw H ρ y v2 ∧ RelV v2 x2 := by
      intro us vs xs t
      induction t with
      | nil => intro y m; cases m
      | cons r q t ih =>
        intro y m
        rcases List.mem_cons.mp m with z | z
        · rw [z]; exact ⟨_, List.mem_cons_self, _, r, q⟩
        · obtain ⟨x2, hx, v2, h1⟩ := ih y z
          exact ⟨x2, List.mem_cons_of_mem _ hx, v2, h1⟩
    obtain ⟨x2, hx2, v2, r2, q2⟩ := key t y hy
    rw [← valLt_eq I r2 r q2 q (o y (List.mem_cons_of_mem _ hy)) (o u List.mem_cons_self)]
    exact hs'.1 x2 hx2
theorem sort_u {r : Addr} {us : List U} {vs : List V} {its : List Value} {m : Bool} {q : QE} {Q : VK} (I : Inv X pins σ H s) (R : Rl X.kw H ρ h) (t : TR X.kw H ρ us vs its) (ok : sortOk us = true) (hl : us.length ≤ sizeLine)
    (hcol : ∀ R : List Value → Shared → Prop, (∀ h' tk, (∀ b o, s.heap.get? b = some o → h'.get? b = some o) → R its { s with heap := h', toks := tk }) → wpAny (model X.prog X.w) X.A.in1 (collect (.ref r)) R X.xe s)
    (p : PostE X.kw ρ H q Q) (e : mkL m (srtU us) h q) : wpAny (model X.prog X.w) X.A (call (.builtin "sorted") [.ref r]) (EP X pins σ Q) X.xe s := by
  obtain ⟨k, hk⟩ := sortOk_mem ok
  refine sorted_coll (valLt_swo k (kpOf s.heap)) hcol (by rw [← t.length]; exact hl) (fun h2 h1 a tk ha kk => ?_) fun h1 h' tk out hs hb k1 k2 hn => ?_
  · cases k with
    | int =>
      obtain ⟨ns, hi⟩ := t.ints hk
      exact ints_sortable hi h2
    | str =>
      obtain ⟨ns, hi⟩ := t.strs hk
      exact strs_sortable hi h2
    | pair =>
      refine pairs_sortableO (s := { s with heap := h1, toks := tk }) (by omega) (fun v hm => ?_) fun o e => ?_
      · obtain ⟨i, j, hp⟩ := t.pairs I hk v hm
        have hp' := hp.keeps fun b o e _ => (kk b o e).2
        rw [kpOf_eq hp]
        exact hp'
      · have e' : some o = some (seqObj "list" its.toArray 0) := e.symm.trans ha
        cases e'
        intro c
        exact absurd (Value.type.inj c) (by decide)
  · obtain ⟨us', vs', p', t'⟩ := TR.perm hb.perm t
    have hk' : ∀ x ∈ us', OKk k x := fun x m => hk x (p'.mem_iff.mp m)
    have e1 := srtU_uniq hk p' (t'.sd I hk' hs)
    subst e1
    obtain ⟨n, hn⟩ := hn
    have I1 : Inv X pins σ H { s with heap := h1, toks := tk } := I.kept k1
    have hl' : (srtU us).length ≤ sizeLine := by rw [p'.length_eq]; exact hl
    refine ⟨.ref h1.objs.size, upd H h1.objs.size (.lst vs'), I1.laid (t' := tk) k2 (Nat.le_refl _) ⟨?_, out, n, t'.rvs.2, hn⟩, rfl, p.mk R hl' t'.rvs.1 (I1.hok.fresh (Nat.le_refl _)) e⟩
    rw [← t'.rvs.1.length]
    exact hl'
/-- the keys of a dict, as its walk gives them -/
theorem KVs.keysTR {k : Kw} : ∀ {us : List (U × U)} {T : Tab}, KVs k H ρ us T → ∃ vs, TR k H ρ (us.map (·.1)) vs (T.map (·.2.key))
  | _, _, .nil => ⟨[], .nil⟩
  | _, _, .cons _ r1 q1 _ _ _ t => by
    obtain ⟨vs, t'⟩ := KVs.keysTR t
    exact ⟨_ :: vs, .cons r1 q1 t'⟩
theorem items_keys {T : Tab} {acc : Array Value} (h : ItemsOf (fun i v => ∃ hi : i < ((T.map (·.2)).toArray : Array DictEntry).size, v = ((T.map (·.2)).toArray : Array DictEntry)[i].key) acc ((T.map (·.2)).toArray : Array DictEntry).size) : acc.toList = T.map (·.2.key) := by
  apply List.ext_getElem?
  intro i
  by_cases hi : i < T.length
  · have h1 : i < acc.size := by rw [h.1]; simpa using hi
    obtain ⟨_, e⟩ := h.2 i acc[i] (Array.getElem?_eq_getElem h1)
    rw [Array.getElem?_toList, Array.getElem?_eq_getElem h1, e]
    rw [List.getElem?_map, List.getElem?_eq_getElem hi]
    simp
  · rw [List.getElem?_eq_none (by rw [Array.length_toList, h.1]; simpa using hi), List.getElem?_eq_none (by simpa using hi)]
theorem coll_dict (I : Inv X pins σ H s) (hc : X.calm = true) {a : Addr} {T : Tab} (e : H a = some (DT a T)) (hz : T.length ≤ sizeLine) (ns : (a == sysModules) = false) (R : List Value → Shared → Prop)
    (k : ∀ h' tk, (∀ b o, s.heap.get? b = some o → h'.get? b = some o) → R (T.map (·.2.key)) { s with heap := h', toks := tk }) : wpAny (model X.prog X.w) X.A.in1 (collect (.ref a)) R X.xe s := by
  obtain ⟨ep, hm⟩ := tab_at I e
  refine PySem.W.kdu_collect (A := X.A.in1) (KdlSrc.rawDict ns) (I.ok.hd hc) hm (by simpa using hz) fun h' tk acc hk hacc => ?_
  rw [items_keys hacc]
  exact k h' tk hk
theorem coll_list {a : Addr} {its : List Value} (hl : s.heap.IsList a its.toArray) (hz : its.length ≤ sizeLine) (R : List Value → Shared → Prop)
    (k : ∀ h' tk, (∀ b o, s.heap.get? b = some o → h'.get? b = some o) → R its { s with heap := h', toks := tk }) : wpAny (model X.prog X.w) X.A.in1 (collect (.ref a)) R X.xe s :=
  collect_list hl (k _ s.toks fun b o e => by
    have hlt : b < s.heap.objs.size := Heap.lt_size e
    rw [Heap.get?_update_ne _ _ _ _ (Nat.ne_of_lt hlt)]
    exact Heap.get?_push_of_some _ e) hz
theorem list_dict (I : Inv X pins σ H s) (hc : X.calm = true) {a : Addr} {T : Tab} {us : List (U × U)} (e : H a = some (DT a T)) (kv : KVs X.kw H ρ us T) (R : Rl X.kw H ρ h) (hz : us.length ≤ sizeLine) (ns : (a == sysModules) = false) {m : Bool} {q : QE} {Q : VK} (p : PostE X.kw ρ H q Q)
    (w : mkL m (us.map (·.1)) h q) : wpAny (model X.prog X.w) X.A (call (.type "list") [.ref a]) (EP X pins σ Q) X.xe s := by
  obtain ⟨ep, hm⟩ := tab_at I e
  obtain ⟨vs, t⟩ := kv.keysTR
  have hl := kv.length
  refine PySem.W.kdl_call (KdlSrc.rawDict ns) (I.ok.hd hc) hm (by simpa [← hl] using hz) fun h' tk acc c' hk hS hacc => ?_
  have e1 := items_keys hacc
  have hu : (us.map (·.1)).length ≤ sizeLine := by rw [List.length_map]; exact hz
  refine ⟨.ref s.heap.objs.size, upd H s.heap.objs.size (.lst vs), I.laid (t' := tk) hk (Nat.le_refl _) ⟨?_, acc.toList, c', by rw [e1]; exact t.rvs.2, by rw [Array.toArray_toList]; exact hS⟩, rfl, p.mk R hu t.rvs.1 (I.hok.fresh (Nat.le_refl _)) w⟩
  rw [← t.rvs.1.length]
  exact hu
end
end Pl
set_option Elab.async false
set_option linter.all false
set_option maxRecDepth 100000
set_option maxHeartbeats 999999
namespace Pl
open PySem PySem.Spec L2
section
variable {X : Cx}
theorem boolsU_vals {K : Kw} {H : Hp} {ρ : Loc} : ∀ {us : List U} {vs : List V} {bs : List Bool}, RVs K H ρ us vs → boolsU us = some bs → vs = bs.map V.bl
  | [], _, _, .nil, e => by cases e; rfl
  | u :: us, _, _, .cons r rs, e => by
    cases u <;> first
      | (simp only [boolsU, Option.map_eq_some_iff] at e
         obtain ⟨bs', e1, e2⟩ := e
         subst e2
         cases r
         rw [boolsU_vals rs e1]; rfl)
      | cases e
theorem intsU_vals {K : Kw} {H : Hp} {ρ : Loc} : ∀ {us : List U} {vs : List V} {bs : List Int}, RVs K H ρ us vs → intsU us = some bs → vs = bs.map V.int
  | [], _, _, .nil, e => by cases e; rfl
  | u :: us, _, _, .cons r rs, e => by
    cases u <;> first
      | (simp only [intsU, Option.map_eq_some_iff] at e
         obtain ⟨bs', e1, e2⟩ := e
         subst e2
         cases r
         rw [intsU_vals rs e1]; rfl)
      | cases e
/-- a built-in's name, its value, how many arguments it has -/
def biName : Bi → Str
  | .len => "len" | .int => "int" | .bool => "bool" | .tuple => "tuple" | .list => "list" | .all => "all" | .any => "any" | .max2 => "max" | .min2 => "min" | .max1 => "max" | .min1 => "min"
  | .sum => "sum" | .sorted => "sorted" | .abs => "abs" | .str => "str"
def biVal : Bi → Value
  | .len => .builtin "len" | .int => .type "int" | .bool => .type "bool" | .tuple => .type "tuple" | .list => .type "list" | .all => .builtin "all" | .any => .builtin "any" | .max2 => .builtin "max" | .min2 => .builtin "min"
  | .max1 => .builtin "max" | .min1 => .builtin "min" | .sum => .builtin "sum" | .sorted => .builtin "sorted" | .abs => .builtin "abs" | .str => .type "str"
def rBi (K : Kw) (f : Bi) (m : Bool) : List V → Hp → VK → Prop := fun vs H Q => ∃ ρ us h q, Rl K H ρ h ∧ RVs K H ρ us vs ∧ biR f m us h q ∧ PostE K ρ H q Q
theorem RVs.one {K : Kw} {H : Hp} {ρ : Loc} {u : U} {vs : List V} (r : RVs K H ρ [u] vs) : ∃ v, vs = [v] ∧ RV K H ρ u v := by
  cases r with
  | cons r rs => cases rs; exact ⟨_, rfl, r⟩
theorem RVs.two {K : Kw} {H : Hp} {ρ : Loc} {u u2 : U} {vs : List V} (r : RVs K H ρ [u, u2] vs) : ∃ v v2, vs = [v, v2] ∧ RV K H ρ u v ∧ RV K H ρ u2 v2 := by
  cases r with
  | cons r rs => obtain ⟨v2, rfl, r2⟩ := rs.one; exact ⟨_, _, rfl, r, r2⟩
theorem maxI_spec : ∀ {ns : List Int}, ns ≠ [] → maxI ns ∈ ns ∧ ∀ y ∈ ns, y ≤ maxI ns
  | [], h => absurd rfl h
  | [i], _ => ⟨by simp [maxI], by simp [maxI]⟩
  | i :: j :: r, _ => by
    obtain ⟨a, b⟩ := maxI_spec (ns := j :: r) (by simp)
    have e : maxI (i :: j :: r) = if maxI (j :: r) > i then maxI (j :: r) else i := rfl
    rw [e]
    split
    · rename_i c
      refine ⟨List.mem_cons_of_mem _ a, fun y m => ?_⟩
      rcases List.mem_cons.mp m with z | z
      · rw [z]; omega
      · exact b y z
    · rename_i c
      refine ⟨List.mem_cons_self, fun y m => ?_⟩
      rcases List.mem_cons.mp m with z | z
      · rw [z]; exact Int.le_refl _
      · have := b y z; omega
theorem minI_spec : ∀ {ns : List Int}, ns ≠ [] → minI ns ∈ ns ∧ ∀ y ∈ ns, minI ns ≤ y
  | [], h => absurd rfl h
  | [i], _ => ⟨by simp [minI], by simp [minI]⟩
  | i :: j :: r, _ => by
    obtain ⟨a, b⟩ := minI_spec (ns := j :: r) (by simp)
    have e : minI (i :: j :: r) = if minI (j :: r) < i then minI (j :: r) else i := rfl
    rw [e]
    split
    · rename_i c
      refine ⟨List.mem_cons_of_mem _ a, fun y m => ?_⟩
      rcases List.mem_cons.mp m with z | z
      · rw [z]; omega
      · exact b y z
    · rename_i c
      refine ⟨List.mem_cons_self, fun y m => ?_⟩
      rcases List.mem_cons.mp m with z | z
      · rw [z]; exact Int.le_refl _
      · have := b y z; omega
theorem call_bi (hc : X.calm = true) (f : Bi) (m : Bool) : CallR X (biVal f) (rBi X.kw f m) := by
  intro pins s σ H xs vs Q I rx hh
  obtain ⟨ρ, us, h, q, R, ra, e, p⟩ := hh
  match f, us, ra, e with
  | .len, [.str x], ra, e =>
    obtain ⟨v, rfl, r⟩ := ra.one
    cases r with
    | str _ l => exact call_len_str pins s σ H _ vs Q I rx ⟨x, rfl, l, p.now R (.int _) e⟩
  | .len, [.non], ra, ⟨_, z, _⟩ => cases z
  | .len, [.bl _], ra, ⟨_, z, _⟩ => cases z
  | .len, [.int _], ra, ⟨_, z, _⟩ => cases z
  | .len, [.fn _], ra, ⟨_, z, _⟩ => cases z
  | .len, [.tup us], ra, ⟨ws, z, e⟩ =>
    obtain ⟨v, rfl, r⟩ := ra.one
    obtain ⟨a, ys, rfl, s1, _, r1⟩ := r.seq R z
    exact call_len_seq pins s σ H _ vs Q I rx ⟨a, ys, rfl, s1, by rw [← r1.length]; exact p.now R (.int _) e⟩
  | .len, [.lst us], ra, ⟨ws, z, e⟩ =>
    obtain ⟨v, rfl, r⟩ := ra.one
    obtain ⟨a, ys, rfl, s1, _, r1⟩ := r.seq R z
    exact call_len_seq pins s σ H _ vs Q I rx ⟨a, ys, rfl, s1, by rw [← r1.length]; exact p.now R (.int _) e⟩
  | .len, [.ro us], ra, ⟨ws, z, e⟩ =>
    obtain ⟨v, rfl, r⟩ := ra.one
    obtain ⟨a, ys, rfl, s1, _, r1⟩ := r.seq R z
    exact call_len_seq pins s σ H _ vs Q I rx ⟨a, ys, rfl, s1, by rw [← r1.length]; exact p.now R (.int _) e⟩
  | .len, [.mr n], ra, e =>
    obtain ⟨v, rfl, r⟩ := ra.one
    have e' : (match dicOf h (.mr n) with | some kvs => q (.int kvs.length) h | none => ∃ xs, seqOf h (.mr n) = some xs ∧ q (.int xs.length) h) := e
    cases y : dicOf h (.mr n) with
    | some kvs =>
      rw [y] at e'
      obtain ⟨n', a', T, _, hz, rfl, m, e3, l, ns, nd, kv⟩ := r.dic R y
      match vs, rx with
      | [u], .cons ru .nil =>
        cases ru
        exact len_tab ns (tab_at I e3) (by rw [← kv.length]; exact l) fun t tk => ⟨.int kvs.length, H, I.tok tk, ⟨t, by rw [kv.length]⟩, p.now R (.int _) e'⟩
    | none =>
    rw [y] at e'
    obtain ⟨ws, z, e⟩ := e'
    obtain ⟨a, ys, rfl, s1, _, r1⟩ := r.seq R z
    exact call_len_seq pins s σ H _ vs Q I rx ⟨a, ys, rfl, s1, by rw [← r1.length]; exact p.now R (.int _) e⟩
  | .int, [.int i], ra, e =>
    obtain ⟨v, rfl, r⟩ := ra.one
    cases r
    exact call_int1 pins s σ H _ vs Q I rx (.inl ⟨_, rfl, p.now R (.int _) e⟩)
  | .int, [.bl b], ra, e =>
    obtain ⟨v, rfl, r⟩ := ra.one
    cases r
    exact call_int1 pins s σ H _ vs Q I rx (.inr ⟨_, rfl, p.now R (.int _) e⟩)
  | .tuple, [u], ra, ⟨ws, z, e⟩ =>
    obtain ⟨v, rfl, r⟩ := ra.one
    cases r with
    | tup s1 l r1 =>
      cases z
      exact call_tuple_of pins s σ H _ vs Q I rx ⟨_, _, rfl, .inr ⟨s1, p.now R (.tup s1 l r1) e⟩⟩
    | lst s1 n n' l r1 =>
      cases z
      exact call_tuple_of pins s σ H _ vs Q I rx ⟨_, _, rfl, .inl ⟨.inl s1, fun pp np => p.tup R l r1 np e⟩⟩
    | ro s1 l r1 =>
      cases z
      exact call_tuple_of pins s σ H _ vs Q I rx ⟨_, _, rfl, .inl ⟨s1.sq, fun pp np => p.tup R l r1 np e⟩⟩
    | @mr k a mm =>
      obtain ⟨a', ys, ea, s1, l, r1⟩ := (RV.mr (K := X.kw) (H := H) mm).rdl R (us := ws) (by
        simp only [seqOf] at z
        simp only [lstOf]
        exact z)
      cases ea
      exact call_tuple_of pins s σ H _ vs Q I rx ⟨_, _, rfl, .inl ⟨.inl s1, fun pp np => p.tup R l r1 np e⟩⟩
    | _ => cases z
  | .list, [u], ra, ⟨ws, z, e⟩ =>
    obtain ⟨v, rfl, r⟩ := ra.one
    unfold itemsOf at z
    cases y : dicOf h u with
    | none =>
      rw [y] at z
      obtain ⟨a, ys, rfl, s1, l, r1⟩ := r.seq R z
      exact call_list_of pins s σ H _ vs Q I rx ⟨a, ys, rfl, s1, fun pp np => p.mk R l r1 np e⟩
    | some kvs =>
      rw [y] at z
      cases z
      obtain ⟨n', a', T, _, hz, rfl, m, e3, l, ns, nd, kv⟩ := r.dic R y
      match vs, rx with
      | [u], .cons ru .nil =>
        cases ru
        exact list_dict I hc e3 kv R l ns p e
  | .sorted, [u], ra, ⟨ws, z, ok, e⟩ =>
    obtain ⟨v, rfl, r⟩ := ra.one
    unfold sitemsOf at z
    cases y : dicOf h u with
    | none =>
      rw [y] at z
      obtain ⟨a, ys, rfl, s1, l, r1⟩ := r.lseq R z
      match vs, rx with
      | [u], .cons ru .nil =>
        cases ru
        obtain ⟨its, rv, hl, hz⟩ := I.list s1
        have hn := rv.length
        exact sort_u I R (TR.of r1 rv) ok l (coll_list hl.isList (by rw [← hn, ← r1.length]; exact l)) p e
    | some kvs =>
      rw [y] at z
      cases z
      obtain ⟨n', a', T, _, hz, rfl, m, e3, l, ns, nd, kv⟩ := r.dic R y
      match vs, rx with
      | [u], .cons ru .nil =>
        cases ru
        obtain ⟨vs', tr⟩ := kv.keysTR
        exact sort_u I R tr ok (by rw [List.length_map]; exact l) (coll_dict I hc e3 (by rw [← kv.length]; exact l) ns) p e
  | .max1, [u], ra, ⟨ws, ns, z, eb, e0, e⟩ =>
    obtain ⟨v, rfl, r⟩ := ra.one
    obtain ⟨a, ys, rfl, s1, l, r1⟩ := r.lseq R z
    have eb := intsU_vals r1 eb
    subst eb
    refine cr_max hc pins s σ H _ vs Q I rx ⟨a, ns, rfl, s1, List.length_pos_iff.mpr e0, fun m h1 h2 => p.now R (.int _) ?_⟩
    obtain ⟨k1, k2⟩ := maxI_spec e0
    rw [show m = maxI ns from Int.le_antisymm (k2 m h1) (h2 _ k1)]
    exact e
  | .min1, [u], ra, ⟨ws, ns, z, eb, e0, e⟩ =>
    obtain ⟨v, rfl, r⟩ := ra.one
    obtain ⟨a, ys, rfl, s1, l, r1⟩ := r.lseq R z
    have eb := intsU_vals r1 eb
    subst eb
    refine cr_min hc pins s σ H _ vs Q I rx ⟨a, ns, rfl, s1, List.length_pos_iff.mpr e0, fun m h1 h2 => p.now R (.int _) ?_⟩
    obtain ⟨k1, k2⟩ := minI_spec e0
    rw [show m = minI ns from Int.le_antisymm (h2 _ k1) (k2 m h1)]
    exact e
  | .all, [u], ra, ⟨ws, bs, z, eb, e⟩ =>
    obtain ⟨v, rfl, r⟩ := ra.one
    obtain ⟨a, ys, rfl, s1, l, r1⟩ := r.lseq R z
    have eb := boolsU_vals r1 eb
    subst eb
    exact cr_all hc pins s σ H _ vs Q I rx ⟨a, bs, rfl, s1, p.now R (.bl _) e⟩
  | .any, [u], ra, ⟨ws, bs, z, eb, e⟩ =>
    obtain ⟨v, rfl, r⟩ := ra.one
    obtain ⟨a, ys, rfl, s1, l, r1⟩ := r.lseq R z
    have eb := boolsU_vals r1 eb
    subst eb
    exact cr_any hc pins s σ H _ vs Q I rx ⟨a, bs, rfl, s1, p.now R (.bl _) e⟩
  | .max2, [.int i, .int j], ra, e =>
    obtain ⟨v, v2, rfl, r, r2⟩ := ra.two
    cases r
    cases r2
    exact call_max2 hc pins s σ H _ vs Q I rx ⟨i, j, rfl, p.now R (.int _) e⟩
  | .min2, [.int i, .int j], ra, e =>
    obtain ⟨v, v2, rfl, r, r2⟩ := ra.two
    cases r
    cases r2
    exact call_min2 hc pins s σ H _ vs Q I rx ⟨i, j, rfl, p.now R (.int _) e⟩
  | .sum, [u], ra, ⟨ws, bs, z, eb, e⟩ =>
    obtain ⟨v, rfl, r⟩ := ra.one
    obtain ⟨a, ys, rfl, s1, l, r1⟩ := r.lseq R z
    have eb := intsU_vals r1 eb
    subst eb
    exact cr_sum hc pins s σ H _ vs Q I rx ⟨a, bs, rfl, s1, p.now R (.int _) e⟩
  | .abs, [.int i], ra, e =>
    obtain ⟨v, rfl, r⟩ := ra.one
    cases r
    exact call_abs pins s σ H _ vs Q I rx ⟨i, rfl, p.now R (.int _) e⟩

/-! isinstance -/
def tyName : Ty → String
  | .tup => "tuple" | .lst => "list" | .int => "int" | .bl => "bool" | .str => "str" | .dic => "dict"
def rIs (K : Kw) (t : Ty) : List V → Hp → VK → Prop := fun vs H Q => ∃ ρ u v h q, vs = [v, .ty (tyName t)] ∧ Rl K H ρ h ∧ RV K H ρ u v ∧ isiR t u h q ∧ PostE K ρ H q Q
theorem kit_tab : ∀ t t' : Ty, ∀ K : PySem.W.Frag, PySem.W.kitOne K (.type (tyName t)) (.type (tyName t')) = some (t == t' || (t == .bl && t' == .int)) := by
  intro t t' K
  cases t <;> cases t' <;> exact kit_ty (by decide +kernel)
theorem kit_non : ∀ t' : Ty, ∀ K : PySem.W.Frag, PySem.W.kitOne K (.type "NoneType") (.type (tyName t')) = some false := by
  intro t' K
  cases t' <;> exact kit_ty (by decide +kernel)
theorem tyx_rd {K : PySem.W.Frag} {H : Hp} {a : Addr} {xs : List V} (s : Rd H a (.lst xs)) : TyX K H (.ref a) (.type "list") := by
  rcases s with e | ⟨o, e⟩
  · exact .base (.lst e)
  · exact .base (.frz e)
theorem tyx_ro {K : PySem.W.Frag} {H : Hp} {a : Addr} {xs : List V} (s : RoL K H a xs) : TyX K H (.ref a) (.type "list") := by
  rcases s with ⟨o, e⟩ | ⟨o, _, _, e, c, _⟩
  · exact .base (.frz e)
  · exact .kList e c
theorem tyx_sqT {K : PySem.W.Frag} {H : Hp} {a : Addr} {xs : List V} (s : SqT K H a xs) : TyX K H (.ref a) (.type "tuple") := by
  rcases s with (e | ⟨o, e⟩) | ⟨o, _, _, e, c, _⟩
  · exact .base (.tup e)
  · exact .fTuple e
  · exact .kTuple e c
theorem call_is (t : Ty) : CallR X (.builtin "isinstance") (rIs X.kw t) := by
  intro pins s σ H xs vs Q I rx hh
  obtain ⟨ρ, u, v, h, q, rfl, R, r, e, p⟩ := hh
  have go : ∀ (ty : Value) (b : Bool), TyX X.K H v ty → PySem.W.kitOne X.K ty (.type (tyName t)) = some b → q (.bl b) h → wpAny (model X.prog X.w) X.A (call (.builtin "isinstance") vs) (EP X pins σ Q) X.xe s :=
    fun ty b h1 h2 h3 => call_isi pins s σ H _ vs Q I rx ⟨v, .ty (tyName t), ty, .type (tyName t), b, rfl, .ty _, h1, h2, p.now R (.bl _) h3⟩
  cases r with
  | non => exact go _ _ (.base .non) (kit_non t _) e
  | bl b => exact go _ _ (.base (.bl b)) (kit_tab .bl t _) (by cases t <;> exact e)
  | int i => exact go _ _ (.base (.int i)) (kit_tab .int t _) (by cases t <;> exact e)
  | str x l => exact go _ _ (.base (.str x)) (kit_tab .str t _) (by cases t <;> exact e)
  | tup s1 l r1 => exact go _ _ (tyx_sqT s1) (kit_tab .tup t _) (by cases t <;> exact e)
  | lst s1 n n' l r1 => exact go _ _ (tyx_rd s1) (kit_tab .lst t _) (by cases t <;> exact e)
  | ro s1 l r1 => exact go _ _ (tyx_ro s1) (kit_tab .lst t _) (by cases t <;> exact e)
  | @mr k a mm =>
    simp only [isiR] at e
    cases z : h[k]? with
    | none => rw [z] at e; exact e.elim
    | some o =>
      rw [z] at e
      cases o with
      | lst us =>
        obtain ⟨b, ys, e1, e2, _⟩ := R.lst z
        rw [mm] at e1; cases e1
        exact go _ _ (.base (.lst e2)) (kit_tab .lst t _) (by cases t <;> exact e)
      | dic _ =>
        obtain ⟨b, ys, e1, e2, _⟩ := R.dic z
        rw [mm] at e1; cases e1
        obtain ⟨u1, u2, rfl, r1, r2⟩ := vals2 rx
        cases r1
        cases r2
        obtain ⟨ep, o, h1, h2, _⟩ := tab_at I e2
        exact PySem.W.kia_one PySem.W.kitx_dict I.kIn ⟨o, h1, h2.1⟩ (kit_tab .dic t _) (fun z => nomatch z) fun tk => ⟨.bl _, H, I.tok tk, rfl, p.now R (.bl _) (by cases t <;> exact e)⟩
      | ins _ _ => exact e.elim
  | fn _ => exact e.elim
end
end Pl
set_option Elab.async false
set_option linter.all false
set_option maxRecDepth 100000
set_option maxHeartbeats 999999
namespace Pl
open PySem PySem.Spec L2
section
variable {X : Cx}
def rMt (K : Kw) (f : Mt) : V → List V → Hp → VK → Prop := fun x vs H Q => ∃ ρ o us h q, Rl K H ρ h ∧ RV K H ρ o x ∧ RVs K H ρ us vs ∧ mtR f o us h q ∧ PostE K ρ H q Q
theorem PostE.app {K : Kw} {H : Hp} {ρ : Loc} {h : Hu} {q : QE} {Q : VK} {n : Nat} {a : Addr} {us : List U} {xs : List V} (p : PostE K ρ H q Q) (R : Rl K H ρ h) (e : ρ.ids[n]? = some a) (l : us.length ≤ sizeLine) (r : RVs K H ρ us xs) {u : U} {v : V}
    (ru : ∀ H', RV K H' ρ u v) (z : q u (h.set n (.lst us))) : Q v (upd H a (.lst xs)) :=
  p _ _ _ _ ρ (Ext.set (List.mem_of_getElem? e)) (R.set e l r) (ru _) z
def mtId : Mt → String
  | .append => "list.append" | .index => "list.index" | .pop0 => "list.pop" | .pop1 => "list.pop" | .extend => "list.extend" | .insert => "list.insert" | .get1 => "dict.get" | .get2 => "dict.get"
theorem mt_app : MtM X "list.append" (rMt X.kw .append) := by
  intro pins s σ H x xs v us Q I rx rs hh
  obtain ⟨ρ, o, ws, h, q, R, ro, rw', e, p⟩ := hh
  match o, ws, ro, rw', e with
  | .mr n, [u], ro, rw', ⟨ys, z, l, e⟩ =>
    obtain ⟨v2, rfl, r2⟩ := rw'.one
    obtain ⟨a, zs, e1, e2, e3, e4⟩ := R.lst z
    cases ro with
    | mr m =>
      rw [m] at e1; cases e1
      exact mt_append pins s σ H _ _ v us Q I rx rs ⟨a, zs, v2, rfl, rfl, e2, by rw [← e4.length]; exact l, p.app R m (by rw [List.length_append]; simp; omega) (e4.append (.cons r2 .nil)) (fun _ => .non) e⟩
theorem mt_idx (hu : X.A.units + 65 < cLine) : MtR X "list.index" (rMt X.kw .index) := by
  intro pins s σ H x xs v us Q I rx rs hh
  obtain ⟨ρ, o, ws, h, q, R, ro, rw', e, p⟩ := hh
  match ws, rw', e with
  | [u], rw', e =>
    obtain ⟨v2, rfl, r2⟩ := rw'.one
    obtain ⟨d, ds, j, z, e1, e2, e3, e4, e5, e6, e7, e8⟩ := (show ∃ d ds j z, toD h 64 o = some (.list ds) ∧ toD h 64 u = some d ∧ SeqAt.shaped (.list ds) = true ∧ SeqAt.shaped d = true ∧ ds[j]? = some z ∧ PyData.eqv z d = true ∧
      (∀ (k : Nat) (z' : PyData), k < j → ds[k]? = some z' → PyData.eqv z' d = false) ∧ q (.int (j : Nat)) h from by cases o <;> exact e)
    have hd := toD_dp R _ ro e1
    obtain ⟨a, rfl⟩ : ∃ a, x = .ref a := by cases hd; exact ⟨_, rfl⟩
    exact mt_indexD hu pins s σ H _ _ v us Q I rx rs ⟨a, v2, d, ds, j, z, rfl, rfl, hd, toD_dp R _ r2 e2, e3, e4, e5, e6, e7, p.now R (.int _) e8⟩
  | [], _, e => exact absurd (show False from by cases o <;> exact e) id
  | _ :: _ :: _, _, e => exact absurd (show False from by cases o <;> exact e) id

theorem RVs.dropLast {K : Kw} {H : Hp} {ρ : Loc} {us : List U} {xs : List V} (r : RVs K H ρ us xs) : RVs K H ρ us.dropLast xs.dropLast := by
  rw [List.dropLast_eq_take, List.dropLast_eq_take, r.length]
  exact r.take _
theorem RVs.erase {K : Kw} {H : Hp} {ρ : Loc} : ∀ {us : List U} {xs : List V} (k : Nat), RVs K H ρ us xs → RVs K H ρ (us.eraseIdx k) (xs.eraseIdx k)
  | _, _, _, .nil => .nil
  | _, _, 0, .cons _ t => t
  | _, _, k + 1, .cons r t => .cons r (RVs.erase k t)
theorem mt_pop0 : MtR X "list.pop" (rMt X.kw .pop0) := by
  intro pins s σ H x xs v us Q I rx rs hh
  obtain ⟨ρ, o, ws, h, q, R, ro, rw', e, p⟩ := hh
  match o, ws, ro, rw', e with
  | .mr n, [], ro, .nil, ⟨ys, y, z, hy, e⟩ =>
    obtain ⟨a, zs, e1, e2, e3, e4⟩ := R.lst z
    cases ro with
    | mr m =>
      rw [m] at e1; cases e1
      obtain ⟨y', hy', ry⟩ := e4.get hy
      refine mt_pop pins s σ H _ _ v us Q I rx rs ⟨a, zs, y', rfl, rfl, e2, by rw [← e4.length]; exact hy', ?_⟩
      exact p _ _ _ _ ρ (Ext.set (List.mem_of_getElem? m)) (R.set m (by rw [List.length_dropLast]; omega) e4.dropLast) (RV.mono R (Ext.set (List.mem_of_getElem? m)) ry) e
theorem mt_pop1 : MtR X "list.pop" (rMt X.kw .pop1) := by
  intro pins s σ H x xs v us Q I rx rs hh
  obtain ⟨ρ, o, ws, h, q, R, ro, rw', e, p⟩ := hh
  match o, ws, ro, rw', e with
  | .mr n, [.int i], ro, rw', ⟨ys, k, y, z, ⟨b1, b2⟩, hi, hy, e⟩ =>
    obtain ⟨v2, rfl, r2⟩ := rw'.one
    cases r2
    obtain ⟨a, zs, e1, e2, e3, e4⟩ := R.lst z
    cases ro with
    | mr m =>
      rw [m] at e1; cases e1
      obtain ⟨y', hy', ry⟩ := e4.get hy
      obtain ⟨k1, k2, _, _⟩ := ixN_seq hi
      refine mt_popAt pins s σ H _ _ v us Q I rx rs ⟨a, zs, i, k, y', rfl, rfl, e2, b1, b2, by rw [← e4.length]; exact k1, hy', ?_⟩
      exact p _ _ _ _ ρ (Ext.set (List.mem_of_getElem? m)) (R.set m (Nat.le_trans (List.length_eraseIdx_le ..) e3) (e4.erase k)) (RV.mono R (Ext.set (List.mem_of_getElem? m)) ry) e
theorem mt_ext : MtR X "list.extend" (rMt X.kw .extend) := by
  intro pins s σ H x xs v us Q I rx rs hh
  obtain ⟨ρ, o, ws, h, q, R, ro, rw', e, p⟩ := hh
  match o, ws, ro, rw', e with
  | .mr n, [u], ro, rw', ⟨ys, ys2, z, z2, l, e⟩ =>
    obtain ⟨v2, rfl, r2⟩ := rw'.one
    obtain ⟨b, zs2, rfl, s2, l2, r3⟩ := r2.rdl R z2
    obtain ⟨a, zs, e1, e2, e3, e4⟩ := R.lst z
    have n1 := e4.length
    have n2 := r3.length
    cases ro with
    | mr m =>
      rw [m] at e1; cases e1
      cases rx
      obtain ⟨u1, rfl, ru⟩ := L2.Vals.one rs
      cases ru
      obtain ⟨its, c1, r5, hl, g1⟩ := rdlM I (.inl e2)
      obtain ⟨its2, c2, r6, hl2, g2⟩ := rdlM I s2
      have hsz : its.toArray.size + its2.toArray.size ≤ sizeLine := by rw [List.size_toArray, List.size_toArray]; omega
      have long : ¬ (!its.toArray.isEmpty && Builtin.List.listTooLong (its.toArray.size + its2.toArray.size)) = true := by
        rw [notLongL hsz, Bool.and_false]
        exact Bool.false_ne_true
      refine call_meets PySem.F.slot_list_extend ⟨_, g1, rfl⟩ PySem.F.entry_list_extend (PySem.F.args_list_extend_2 _ _) (AutoSeq1.list_extend_list_list_0 a its.toArray c1 b its2.toArray c2 long (by rw [List.size_toArray]; omega) (by omega)) ⟨g1, g2, ?_⟩
      refine ⟨.non, _, I.lset (its' := its ++ its2) e2 g1 (by simp) (r5.append r6) (by rw [List.length_append]; omega), rfl, ?_⟩
      exact p.app R m (by rw [List.length_append]; omega) (e4.append r3) (fun _ => .non) e
theorem mt_ins : MtR X "list.insert" (rMt X.kw .insert) := by
  intro pins s σ H x xs v us Q I rx rs hh
  obtain ⟨ρ, o, ws, h, q, R, ro, rw', e, p⟩ := hh
  match o, ws, ro, rw', e with
  | .mr n, [.int i, u], ro, rw', ⟨ys, z, l, ⟨b1, b2⟩, e⟩ =>
    obtain ⟨v1, v2, rfl, r1, r2⟩ := rw'.two
    cases r1
    obtain ⟨a, zs, e1, e2, e3, e4⟩ := R.lst z
    have n1 := e4.length
    cases ro with
    | mr m =>
      rw [m] at e1; cases e1
      refine mt_insert pins s σ H _ _ v us Q I rx rs ⟨a, zs, i, v2, rfl, rfl, e2, by omega, b1, b2, ?_⟩
      refine p.app R m ?_ (((e4.take i.toNat).append (.cons r2 .nil)).append (e4.drop i.toNat)) (fun _ => .non) e
      simp only [List.length_append, List.length_take, List.length_drop, List.length_cons, List.length_nil]
      omega
theorem mt_get (hu : X.A.units + 65 < cLine) (f : Mt) (hf : f = .get1 ∨ f = .get2) : MtR X "dict.get" (rMt X.kw f) := by
  intro pins s σ H x xs v us Q I rx rs hh
  obtain ⟨ρ, o, ws, h, q, R, ro, rw', e, p⟩ := hh
  obtain ⟨n, u, more, kvs, rfl, rfl, hz, hk, hm, e⟩ : ∃ n u more kvs, o = .mr n ∧ ws = u :: more ∧ h[n]? = some (.dic kvs) ∧ (kOf u).isSome = true ∧ (more = [] ∨ ∃ d, more = [d]) ∧ q ((dlook kvs u).getD (more.headD .non)) h := by
    rcases hf with rfl | rfl
    · match o, ws, e with
      | .mr n, [u], ⟨kvs, z, hk, e⟩ => exact ⟨n, u, [], kvs, rfl, rfl, z, hk, .inl rfl, e⟩
    · match o, ws, e with
      | .mr n, [u, d], ⟨kvs, z, hk, e⟩ => exact ⟨n, u, [d], kvs, rfl, rfl, z, hk, .inr ⟨d, rfl⟩, e⟩
  obtain ⟨k, hk⟩ := Option.isSome_iff_exists.mp hk
  obtain ⟨k1, k2⟩ := kOf_some hk
  obtain ⟨a, T, e1, e2, l, ns, nd, kv⟩ := R.dic hz
  cases ro with
  | mr m =>
    rw [m] at e1; cases e1
    cases rx
    cases rw' with
    | cons r1 r2 =>
      cases rs with
      | cons q1 q2 =>
        rename_i vk vks val vals
        have room : X.A.in1.units + 8 < cLine := by have : X.A.in1.units = X.A.units + 1 := rfl; omega
        -- the default
        obtain ⟨dv, dval, hd, rd, qd⟩ : ∃ dv dval, ((vals = [] ∧ dval = Value.none) ∨ vals = [dval]) ∧ RV X.kw H ρ (more.headD .non) dv ∧ RelV dv dval := by
          rcases hm with rfl | ⟨d, rfl⟩
          · cases r2
            cases q2
            exact ⟨.non, .none, .inl ⟨rfl, rfl⟩, .non, rfl⟩
          · obtain ⟨v2, rfl, r3⟩ := r2.one
            obtain ⟨u1, rfl, ru⟩ := L2.Vals.one q2
            exact ⟨v2, u1, .inr rfl, r3, ru⟩
        refine get_tab dval vals hd room (rv_nested I r1 q1 k1) k2 ns (tab_at I e2) (tab_ok I nd kv) fun tk => ?_
        obtain ⟨l1, l2⟩ := kv.look hk
        cases y : dlook kvs u with
        | none =>
          rw [y] at e
          rw [l2 y]
          exact ⟨dv, H, I.tok tk, qd, p.now R rd e⟩
        | some w =>
          rw [y] at e
          obtain ⟨v', val', e5, q5, r5⟩ := l1 w y
          rw [e5]
          exact ⟨v', H, I.tok tk, q5, p.now R r5 e⟩
/-! a method, whatever the receiver is -/
def tBG (ty : V → Hp → Prop) (r : V → List V → Hp → VK → Prop) (to : TE) (t : TA) : TE := fun σ H Q => to σ H fun x H1 => ty x H1 ∧ t σ H1 fun xs H2 => r x xs H2 Q
def TyOk (X : Cx) (T : String) (ty : V → Hp → Prop) : Prop := ∀ (pins : List (Addr × Obj)) (σ : St) (H : Hp) (s : Shared) (x : V) (v : Value), Inv X pins σ H s → RelV x v → ty x H → s.TypeIs v T ∧ ∀ a, v = .ref a → ∃ ob, s.heap.get? a = some ob ∧ ob.dict = none
section
variable {T id : String} {ty : V → Hp → Prop} {r : V → List V → Hp → VK → Prop} {o e : Expr} {es : List Expr} {to : TE} {t : TA} {name : Str} {ap cp : Pos}
theorem pe_mg (pa : PlainAttrs T) (slot : Slot T name id) (hty : typeOf (.builtin id) = pure (.type "method_descriptor")) (hm : MtR X id r) (hT : TyOk X T ty) (ho : PE X o to) (ha : PA X (e :: es) t)
    (hbase : attributeBase o name X.env (eval o X.env) = eval o X.env) (hfew : ((backTo cp (starEach (e :: es) X.env)).all (fun x => !x.1) && (backToKw cp (keywordEach [] X.env)).all (fun x => x.1.isSome)
      && decide ((e :: es).length + ([] : List Keyword).length + (if ([] : List Keyword).isEmpty then 0 else 1) < 30)) = true)
    (hl : (ap.endLine == cp.line) = true) (hs : starEach (e :: es) X.env = (false, eval e X.env) :: starEach es X.env) (hp : (backTo cp (starEach es X.env)).any (·.1) = false) : PE X (.Call (.Attribute o name ap) (e :: es) [] cp) (tBG ty r to t) := by
  refine ⟨fun pins s σ H Q I h => wpAny_Call_method_late hbase hfew hl rfl (thn (ho.run pins s σ H _ I h) fun v s1 ⟨x, H1, I1, r1, w, q1⟩ => ?_)⟩
  obtain ⟨h1, h2⟩ := hT pins σ H1 s1 x v I1 r1 w
  have hA := ha.run cp pins s1 σ H1 _ I1 q1
  rw [hs] at hA
  refine ⟨T, id, pa, slot, hty, h1, h2, ?_⟩
  rw [hs]
  exact Calls.callWith_builtin (by show (false || (backTo cp (starEach es X.env)).any (·.1)) = false; rw [hp]; rfl) (Calls.evalArgs_plain (thn hA fun us s2 ⟨vs, H2, I2, r2, q2⟩ => hm pins s2 σ H2 x vs v us Q I2 r1 r2 q2))
theorem pe_mg0 (pa : PlainAttrs T) (slot : Slot T name id) (hty : typeOf (.builtin id) = pure (.type "method_descriptor")) (hm : MtR X id r) (hT : TyOk X T ty) (ho : PE X o to)
    (hbase : attributeBase o name X.env (eval o X.env) = eval o X.env) (hl : (ap.endLine == cp.line) = true) : PE X (.Call (.Attribute o name ap) [] [] cp) (tBG ty r to fun _ H Q => Q [] H) := by
  refine ⟨fun pins s σ H Q I h => wpAny_Call_method0_late hbase hl (thn (ho.run pins s σ H _ I h) fun v s1 ⟨x, H1, I1, r1, w, q1⟩ => ?_)⟩
  obtain ⟨h1, h2⟩ := hT pins σ H1 s1 x v I1 r1 w
  exact ⟨T, id, pa, slot, hty, h1, h2, Calls.callWith_builtin rfl (PySem.evalArgs_none (hm pins s1 σ H1 x [] v [] Q I1 r1 .nil q1))⟩
end
def tyL (K : PySem.W.Frag) (x : V) (H : Hp) : Prop := ∃ a xs, x = .ref a ∧ SqL K H a xs
def tyD (x : V) (H : Hp) : Prop := ∃ a T, x = .ref a ∧ H a = some (DT a T)
theorem tyL_ok : TyOk X "list" (tyL X.K) := by
  rintro pins σ H s x v I r ⟨a, xs, rfl, hs⟩
  cases r
  exact tyV_is (T := "list") (x := .ref a) I rfl (.inl ⟨rfl, xs, hs⟩)
theorem tyD_ok : TyOk X "dict" tyD := by
  rintro pins σ H s x v I r ⟨a, T, rfl, hs⟩
  cases r
  obtain ⟨ep, o, ho, hc, hd⟩ := tab_at I hs
  refine ⟨⟨o, ho, hc.1⟩, fun b e => ?_⟩
  cases e
  exact ⟨o, ho, hc.2.1⟩
theorem atI_rv {K : Kw} {H : Hp} {ρ : Loc} {us : List U} {xs : List V} (r : RVs K H ρ us xs) {k : Int} {u : U} (e : atI us k = some u) : ∃ v, atI xs k = some v ∧ RV K H ρ u v := by
  unfold atI at e ⊢
  rw [← r.length]
  cases z : ixN us.length k with
  | none => rw [z] at e; cases e
  | some j =>
    rw [z] at e
    exact r.get e
def rIxU (K : Kw) : R2 := fun x y H Q => ∃ ρ a b h q, Rl K H ρ h ∧ RV K H ρ a x ∧ RV K H ρ b y ∧ ixR a b h q ∧ PostE K ρ H q Q
theorem ix_u (hu : X.A.units + 65 < cLine) : IxR X (rIxU X.kw) := by
  intro vl sl pins s σ H x y v u Q I rx ry hh hs
  obtain ⟨ρ, a, b, h, q, R, ra, rb, e, p⟩ := hh
  have go : (match dicOf h a with
    | some kvs => ∃ v, (kOf b).isSome = true ∧ dlook kvs b = some v ∧ q v h
    | none => ∃ k xs v, b = .int k ∧ seqOf h a = some xs ∧ atI xs k = some v ∧ q v h) → wpAny (model X.prog X.w) X.A (PyProof.Rows.subscriptTail vl sl v u) (EP X pins σ Q) X.xe s := by
    intro e
    cases z : dicOf h a with
    | none =>
      rw [z] at e
      obtain ⟨k, xs, w, rfl, e1, e2, e3⟩ := e
      cases rb
      obtain ⟨c, ys, rfl, s1, _, r1⟩ := ra.seq R e1
      obtain ⟨w', e4, r4⟩ := atI_rv r1 e2
      have e5 := p.now R r4 e3
      rcases s1 with s1 | s1
      · exact ix_seq vl sl pins s σ H _ _ v u Q I rx ry (.inl ⟨c, ys, k, w', rfl, rfl, s1, e4, e5⟩) hs
      · exact ix_seq vl sl pins s σ H _ _ v u Q I rx ry (.inr (.inl ⟨c, ys, k, w', rfl, rfl, s1, e4, e5⟩)) hs
    | some kvs =>
      rw [z] at e
      obtain ⟨w, e1, e2, e3⟩ := e
      obtain ⟨k, hk⟩ := Option.isSome_iff_exists.mp e1
      obtain ⟨n, a', T, rfl, hz, rfl, m, e4, l, ns, nd, kv⟩ := ra.dic R z
      cases rx
      obtain ⟨k1, k2⟩ := kOf_some hk
      obtain ⟨w', val', e5, q5, r5⟩ := (kv.look hk).1 w e2
      have hT : s.TypeIs (.ref a') "dict" := (tab_at I e4).typeIs
      have room : X.A.in1.units + 8 < cLine := by have : X.A.in1.units = X.A.units + 1 := rfl; omega
      unfold PyProof.Rows.subscriptTail
      refine wpAny_bind ?_
      rw [PySem.getitemInPython_of_ne hT.not_modules]
      refine wpAny_bind (wpAny_specialOf hT PySem.F.slot_dict_getitem.lookup ?_)
      have fin : wpAny (model X.prog X.w) X.A (subscripted sl false (.ref a') u) (fun r s₃ => wpAny (model X.prog X.w) X.A (letTemporaryGo vl (.ref a') r >>= fun _ => pure r) (EP X pins σ Q) X.xe s₃) X.xe s := by
        rw [hs]
        exact wpAny_operating (wpAny_mono (item_tab room (rv_nested I rb ry k1) k2 (tab_at I e4) (tab_ok I nd kv) e5 fun tk => (show EP X pins σ Q val' _ from ⟨w', H, I.tok tk, q5, p.now R r5 e3⟩)) (fun r s₃ h₃ => wpAny_bind (wpAny_letTemporaryGo (wpAny_pure h₃))) fun _ _ x => x)
      first
        | exact wpAny_pure (wpAny_bind fin)
        | exact wpAny_bind (wpAny_pure (wpAny_bind fin))
        | exact wpAny_bind fin
  cases a with
  | str z =>
    cases b with
    | int k =>
      obtain ⟨c, e1, e2⟩ := (show ∃ c, atI z.cps.toList k = some c ∧ q (.str ⟨#[c]⟩) h from e)
      cases ra with
      | str _ l =>
        cases rb
        exact ix_seq vl sl pins s σ H _ _ v u Q I rx ry (.inr (.inr ⟨z, k, c, rfl, rfl, l, e1, p.now R (.str _ (by show 1 ≤ sizeLine; decide)) e2⟩)) hs
    | _ => exact go e
  | _ => exact go (by cases b <;> exact e)

def rSlU (K : Kw) (m : Bool) : V → Option Int → Option Int → Hp → VK → Prop := fun x lo hi H Q => ∃ ρ a h q, Rl K H ρ h ∧ RV K H ρ a x ∧ slR m a lo hi h q ∧ PostE K ρ H q Q
theorem cutU_rv {K : Kw} {H : Hp} {ρ : Loc} {us : List U} {xs : List V} (r : RVs K H ρ us xs) (lo hi : Option Int) : RVs K H ρ (cutU us lo hi) (cutV xs lo hi) := by
  unfold cutU cutV
  rw [← r.length]
  exact (r.drop _).take _
theorem cutU_length (us : List U) (lo hi : Option Int) : (cutU us lo hi).length ≤ us.length := by
  unfold cutU
  rw [List.length_take, List.length_drop]
  omega
theorem cutU_all {us : List U} {lo hi : Option Int} (h : HT.sIx us.length 0 lo = 0 ∧ HT.sIx us.length us.length hi = us.length) : cutU us lo hi = us := by
  unfold cutU
  rw [h.1, h.2]
  simp
theorem cutS_length (z : Str) (lo hi : Option Int) : (cutS z lo hi).length ≤ z.length := by
  unfold cutS
  show ((List.take _ (List.drop _ z.cps.toList)).toArray).size ≤ z.cps.size
  rw [List.size_toArray, List.length_take, List.length_drop, Array.length_toList]
  omega
theorem sl_u (m : Bool) : SlR X (rSlU X.kw m) := by
  intro pins s σ H x v vl vu lo hi sl Q I rx hs pl pu hh
  obtain ⟨ρ, a, h, q, R, ra, e, p⟩ := hh
  have go : (∃ xs, lstOf h a = some xs ∧ mkL m (cutU xs lo hi) h q) → ∃ T id, typeLookup (.type T) "__getitem__" = pure (some (.builtin id)) ∧ s.TypeIs v T ∧ wpAny (model X.prog X.w) X.A (getItem v (.ref sl)) (EP X pins σ Q) X.xe s := by
    rintro ⟨xs, e1, e2⟩
    obtain ⟨c, ys, rfl, s1, l, r1⟩ := ra.lseq R e1
    exact sl_list pins s σ H _ v vl vu lo hi sl Q I rx hs pl pu ⟨c, ys, rfl, s1, fun pp np => p.mk R (Nat.le_trans (cutU_length _ _ _) l) (cutU_rv r1 lo hi) np e2⟩
  cases ra with
  | str z l => exact sl_str pins s σ H _ v vl vu lo hi sl Q I rx hs pl pu ⟨z, rfl, l, p.now R (.str _ (Nat.le_trans (cutS_length z lo hi) l)) e⟩
  | @tup us c ys s1 l r1 =>
    have e : q (.tup (cutU us lo hi)) h := e
    refine sl_tupA pins s σ H _ v vl vu lo hi sl Q I rx hs pl pu ⟨c, ys, rfl, s1, fun z => ?_, fun _ pp np => p.tup R (Nat.le_trans (cutU_length _ _ _) l) (cutU_rv r1 lo hi) np e⟩
    rw [← r1.length] at z
    rw [cutU_all z] at e
    exact p.now R (.tup s1 l r1) e
  | _ => exact go e

def rSetU (K : Kw) : V → V → V → Hp → (Hp → Prop) → Prop := fun o i v H Q => ∃ ρ a b c h q, Rl K H ρ h ∧ RV K H ρ a o ∧ RV K H ρ b i ∧ RV K H ρ c v ∧ setR a b c h q ∧ ∀ h' H', Ext ρ H ρ H' → Rl K H' ρ h' → q h' → Q H'
theorem set_u (hu : X.A.units + 65 < cLine) : PSet X (rSetU X.kw) := by
  intro pins s σ H o i v ov iv u Q I ro ri rv hh
  obtain ⟨ρ, a, b, c, h, q, R, ra, rb, rc, e, p⟩ := hh
  cases ra with
  | @mr n a' mm =>
    rcases (show (∃ k xs j, b = .int k ∧ h[n]? = some (.lst xs) ∧ ixN xs.length k = some j ∧ q (h.set n (.lst (xs.set j c)))) ∨
      ∃ kvs, h[n]? = some (.dic kvs) ∧ (kOf b).isSome = true ∧ kvs.length < sizeLine ∧ q (h.set n (.dic (dput kvs b c))) from e) with ⟨k, xs, j, rfl, z, e1, e2⟩ | ⟨kvs, z, e1, l1, e2⟩
    · obtain ⟨d, ys, e3, e4, e5, e6⟩ := R.lst z
      cases rb
      rw [mm] at e3; cases e3
      exact set_list pins s σ H _ _ v ov iv u Q I ro ri rv ⟨_, ys, k, j, rfl, rfl, e4, by rw [← e6.length]; exact e1, p _ _ (Ext.set (List.mem_of_getElem? mm)) (R.set mm (by rw [List.length_set]; exact e5) (e6.set rc j)) e2⟩
    · obtain ⟨d, T, e3, e4, e5, ns, nd, e6⟩ := R.dic z
      rw [mm] at e3; cases e3
      obtain ⟨k, hk⟩ := Option.isSome_iff_exists.mp e1
      obtain ⟨k1, k2⟩ := kOf_some hk
      cases ro
      have room : X.A.in1.units + 8 < cLine := by have : X.A.in1.units = X.A.units + 1 := rfl; omega
      have lT := e6.length
      refine set_tab room (rv_nested I rb ri k1) k2 (tab_at I e4) (tab_ok I nd e6) (by omega) fun h' tk x sb => ⟨_, dt_write I e4 sb x, ?_⟩
      have mo : Ext ρ H ρ (upd H a' (DT a' (tput T k ⟨k.hash X.w, iv, u⟩))) := Ext.set (List.mem_of_getElem? mm)
      have ro' : RO X.kw H ρ a' (.dic (dput kvs b c)) (DT a' (tput T k ⟨k.hash X.w, iv, u⟩)) := ⟨by have := dput_length kvs b c; omega, ns, _, rfl, tput_nodup nd, e6.put hk rb ri rfl rc rv⟩
      exact p _ _ mo (R.setO mm ro') e2
  | _ => exact e.elim

theorem tru_u {K : Kw} {H : Hp} {ρ : Loc} {h : Hu} (R : Rl K H ρ h) {u : U} {v : V} {b : Bool} (r : RV K H ρ u v) (e : tru h u = some b) : TruV K.f v H b := by
  cases r with
  | non => cases e; exact rfl
  | bl b => cases e; exact rfl
  | int i => cases e; exact rfl
  | str x l =>
    refine ⟨l, ?_⟩
    have e : some (x.length != 0) = some b := e
    cases e
    cases x.length <;> rfl
  | tup s1 l r1 =>
    simp only [tru, Option.some.injEq] at e
    exact .inr (.inl ⟨_, s1, by rw [← e]; cases r1 <;> rfl⟩)
  | lst s1 n n' l r1 =>
    simp only [tru, Option.some.injEq] at e
    exact .inl ⟨_, .inl s1, by rw [← e]; cases r1 <;> rfl⟩
  | ro s1 l r1 =>
    simp only [tru, Option.some.injEq] at e
    exact .inl ⟨_, s1.sq, by rw [← e]; cases r1 <;> rfl⟩
  | @mr k a m =>
    simp only [tru] at e
    cases z : h[k]? with
    | none => rw [z] at e; cases e
    | some o =>
      rw [z] at e
      cases o with
      | lst us =>
        obtain ⟨c, ys, e1, e2, _, e4⟩ := R.lst z
        rw [m] at e1; cases e1
        simp only [Option.some.injEq] at e
        exact .inl ⟨_, .inl (.inl e2), by rw [← e]; cases e4 <;> rfl⟩
      | _ => cases e
  | fn _ => cases e
end
end Pl
set_option Elab.async false
set_option linter.all false
set_option maxRecDepth 100000
set_option maxHeartbeats 999999
namespace Pl
open PySem PySem.Spec L2

set_option maxHeartbeats 999999 in
theorem meets_enum1 {v : Value} {o : Obj} {H : Heap → Prop} (B : Begins v o H) :
    Meets (Builtin.«enumerate.__new__» ⟨[.type "enumerate", v], []⟩) (fun _ R s => H s.heap ∧
      R (.ok (.ret (.ref (s.heap.push o).objs.size))) { s with heap := (s.heap.push o).push { cls := .type "enumerate", data := .fields #[.none, .bool false, .ref s.heap.objs.size, rawInt 0, .none, .none] } }) :=
  .of_wp fun prog w A R s h => by
    obtain ⟨hp, g, d, tk, os⟩ := s; obtain ⟨h1, h⟩ := h
    have hsub := sub_enumerate
    have q1 : ∀ {A' : Around} {E : Value → Shared → Prop} {Q : Value → Shared → Prop}, Q (.ref hp.objs.size) ⟨hp.push o, g, d, tk, os⟩ → wpAny (model prog w) A' (pyIter v) Q E ⟨hp, g, d, tk, os⟩ :=
      fun q => B.iter prog w _ _ ⟨hp, g, d, tk, os⟩ _ h1 q
    wp_walk using q1
    refine wpAny_stack_any fun st => wpAny_pure ?_
    split
    · rename_i c _ _ _ _ _
      cases (c == Value.type "enumerate")
      · wp_walk using q1
        exact ⟨_, rfl, h⟩
      · wp_walk using q1
        exact ⟨_, rfl, h⟩
    · wp_walk using q1
      exact ⟨_, rfl, h⟩
section
variable {prog : Program} {w : World} {A : Around} {E : Value → Shared → Prop} {s : Shared}
theorem call_enum1 {v : Value} {o : Obj} {H : Heap → Prop} {Q : Value → Shared → Prop} (B : Begins v o H) (h1 : H s.heap)
    (h : ∀ h', IsEnum h' (s.heap.objs.size + 1) s.heap.objs.size 0 .none → h'.get? s.heap.objs.size = some o → h'.objs.size = s.heap.objs.size + 2 →
      (∀ b o, s.heap.get? b = some o → h'.get? b = some o) → Q (.ref (s.heap.objs.size + 1)) { s with heap := h' }) :
    wpAny (model prog w) A (call (.type "enumerate") [v]) Q E s := by
  refine callType_new F.called_enumerate (by decide) (F.typeCall_enumerate_1 _) (F.newCall_enumerate_1 _) (fun obj => F.args_object_init_2 obj _) F.entry_enumerate_new
    (meets_enum1 B) ⟨h1, ?_⟩
  have hz : (s.heap.push o).objs.size = s.heap.objs.size + 1 := Heap.size_push ..
  show _ ∧ _
  rw [hz]
  have he : IsEnum ((s.heap.push o).push { cls := .type "enumerate", data := .fields #[.none, .bool false, .ref s.heap.objs.size, rawInt 0, .none, .none] }) (s.heap.objs.size + 1) s.heap.objs.size 0 .none := by
    have := Heap.get?_push_size (s.heap.push o) (o := { cls := .type "enumerate", data := .fields #[.none, .bool false, .ref s.heap.objs.size, rawInt 0, .none, .none] }) rfl
    rw [hz] at this; exact this
  refine ⟨⟨_, he, rfl⟩, h _ he (Heap.get?_push_of_some _ (Heap.get?_push_size _ B.free)) (by rw [Heap.size_push, hz]) fun b o x => Heap.get?_push_of_some _ (Heap.get?_push_of_some _ x)⟩
end

/-- the tuple at a, each item in a new pair -/
def IteT (K : PySem.W.Frag) (a : Addr) : It :=
  ⟨fun i H => ∃ (xs : List V) (x : V), SqT K H a xs ∧ xs[i]? = some x, fun i H v H' => ∃ T x, v = .ref T ∧ H T = none ∧ H' = upd H T (.tup [.int (i : Nat), x]) ∧ ∀ xs, SqT K H a xs → xs[i]? = some x, fun i H => ∃ xs : List V, SqT K H a xs ∧ xs.length ≤ i⟩
theorem turn_enumT {P : Program} {w : World} {K : PySem.W.Frag} {elts : List Expr} {kk : Nat} {tpos : Pos} (a e it : Addr) (hai : a ≠ it) (hea : e ≠ a) :
    Turn P w K (.Tuple elts kk tpos) (IteT K a) [e, it] e (fun i h => (∃ old, IsEnum h e it ((i : Nat) : Int) old) ∧ h.IsTupleIter it a i ∧ e ≠ it) where
  mem := by simp
  obj := fun i h st b hb => by
    obtain ⟨⟨old, he⟩, ⟨o, ho, hc, hd⟩, _⟩ := st
    have e' : b = e ∨ b = it := by simpa using hb
    rcases e' with z | z
    · rw [z]; exact ⟨_, he, fun v q => nomatch q⟩
    · rw [z]; exact ⟨o, ho, fun v q => by rw [hd] at q; cases q⟩
  keep := fun i h h' st k => let ⟨⟨old, he⟩, hi, hne⟩ := st; ⟨⟨old, k e (by simp) _ he⟩, hi.at fun o q => k it (by simp) o q, hne⟩
  item := by
    intro X hP hw hK hc i pins s σ H E I hf st hg
    subst hP hw hK
    obtain ⟨⟨old, he⟩, hit, hne⟩ := st
    obtain ⟨xs, x, hq, hx⟩ := hg
    obtain ⟨its, rv, p, hz⟩ := I.tuple hq
    obtain ⟨u, hu, ru⟩ := rv.get hx
    have hel : e < s.heap.objs.size := Heap.lt_size he
    have hil : it < s.heap.objs.size := by obtain ⟨_, q, _⟩ := hit; exact Heap.lt_size q
    have hd : X.A.in1.handled = none := I.ok.hd hc
    have p' : s.heap.IsTuple a its.toArray := p
    have hiu : i < its.toArray.size := by
      have := (List.getElem?_eq_some_iff.mp hu).1
      simpa using this
    refine wpAny_pyNext_enum_itemD (Draws.tuple (prog := X.prog) (w := X.w) hd it a hai its.toArray) he ⟨hit, p'⟩ hiu hne (by
      intro z
      have e' : e = it ∨ e = a := by simpa using z
      rcases e' with z | z
      · exact hne z
      · exact hea z) fun x' h' tk hx' ho hit' hT hsz hk => ?_
    have ex : x' = u := by
      have : its[i]? = some x' := by simpa using hx'
      rw [hu] at this
      exact (Option.some.inj this).symm
    subst ex
    refine ⟨_, rfl, wpAny_letOwnedTupleGo_enum (s := { s with heap := h', toks := tk + 1 }) ho fun h'' he' sb => ?_⟩
    have hT2 : h''.get? s.heap.objs.size = some { cls := .type "tuple", data := .seq #[.int i tk, x'] } := (sb.2 _ (Nat.ne_of_gt hel)).trans hT
    have new : ObjOk X.prog X.w (upd H s.heap.objs.size (.tup [.int (i : Nat), x])) h'' s.heap.objs.size (.tup [.int (i : Nat), x]) :=
      ⟨by show 2 ≤ sizeLine; decide, [.int i tk, x'], .cons ⟨_, rfl⟩ (.cons ru .nil), ⟨_, hT2, rfl, _, rfl⟩⟩
    have I1 : Inv X pins σ (upd H s.heap.objs.size (.tup [.int (i : Nat), x])) { s with heap := h'', toks := tk + 1 } :=
      I.turnedNew (ch := [e, it]) (fun b ob hb q => (sb.2 b (fun z => hb (by simp [z]))).trans (hk b ob (fun z => hb (by simp [z])) (fun z => hb (by simp [z])) q)) hf (Nat.le_refl _) new
    refine ⟨.ref s.heap.objs.size, _, I1, rfl, ⟨_, x, rfl, I.hok.fresh (Nat.le_refl _), rfl, fun ys hy => by rw [I.tuple_inj hy hq]; exact hx⟩, ⟨⟨x', ?_⟩, hit'.1.at fun o q => (sb.2 it (Ne.symm hne)).trans q, hne⟩, fun b hb => ?_⟩
    · have e1 : ((i + 1 : Nat) : Int) = (i : Int) + 1 := by omega
      rw [e1]; exact he'
    · have hb' : b < s.heap.objs.size := by
        have e' : b = e ∨ b = it := by simpa using hb
        rcases e' with z | z
        · rw [z]; exact hel
        · rw [z]; exact hil
      rw [upd_ne (Nat.ne_of_lt hb')]
      exact (hf b hb).1
  done := by
    intro X hP hw hK hc i pins s σ H E I hf st hg
    subst hP hw hK
    obtain ⟨⟨old, he⟩, hit, hne⟩ := st
    obtain ⟨xs, hq, hx⟩ := hg
    obtain ⟨its, rv, p, hz⟩ := I.tuple hq
    obtain ⟨f0, f1, f2, f3, f4, f5⟩ := hf it (by simp)
    have hl := rv.length
    have hd : X.A.in1.handled = none := I.ok.hd hc
    have p' : s.heap.IsTuple a its.toArray := p
    have hT : s.TypeIs (.ref e) "enumerate" := ⟨_, he, rfl⟩
    unfold pyNext
    refine wpAny_bind (wpAny_attempt (wpAny_callSpecial?_slot (name := Str.ofString "__next__") hT F.slot_enumerate_next
      (wpAny_call_entry F.slot_enumerate_next hT F.entry_enumerate_next ?_ (F.args_enumerate_next_1 _))))
    show wpAny _ _ (field (.ref e) 2 >>= _) _ _ _
    refine wpAny_bind (wpAny_field he rfl (x := .ref it) rfl ?_)
    refine wpAny_bind (wpAny_nextOf_tuple_end hd hit p' (by simp; omega) fun h' x he' hx' => ?_)
    obtain ⟨o, ho, hc'⟩ := hx'
    refine wpAny_bind (wpAny_isInstance (T := "StopIteration") (b := true) ⟨o, ho, hc'⟩ isSubtype_stop ?_)
    exact wpAny_pure ⟨rfl, I.turned (t' := s.toks) (fun b o hb q => he' b o hb q) f0 f1 f3 f4 f5⟩
  self := fun A i s Q E st h => let ⟨⟨_, he⟩, _⟩ := st; wpAny_pyIter_enum he h

def iEnumA (K : PySem.W.Frag) (te : TE) : TI := fun σ H R => te σ H fun x H1 => ∃ a xs, x = .ref a ∧ ((SqL K H1 a xs ∧ R (Ite K a) H1) ∨ (SqT K H1 a xs ∧ R (IteT K a) H1))
theorem pi_enumA {X : Cx} {e : Expr} {te : TE} {p pos tpos : Pos} {elts : List Expr} {kk : Nat} (hg : Gl X "enumerate") (hm : X.mg "enumerate" = none) (ha : PA X [e] (tCons te tNil)) (hs : starEach [e] X.env = [(false, eval e X.env)]) :
    PI X (.Tuple elts kk tpos) (.Call (.Name "enumerate" p) [e] [] pos) (iEnumA X.K te) := by
  refine ⟨fun pins s σ H R I h => ?_⟩
  refine PyProof.Rows.Call_ (ld_blt I hg hm PyProof.Rows.boot_enumerate (PyProof.Rows.callWith_type1 (thn (ha.run pos pins s σ H (fun vs H1 => match vs with
    | [x] => ∃ a xs, x = .ref a ∧ ((SqL X.K H1 a xs ∧ R (Ite X.K a) H1) ∨ (SqT X.K H1 a xs ∧ R (IteT X.K a) H1))
    | _ => False) I h) fun us s1 ⟨vs, H1, I1, r1, q1⟩ => ?_) hs rfl))
  have sh : ∃ x, vs = [x] ∧ ∃ a xs, x = V.ref a ∧ ((SqL X.K H1 a xs ∧ R (Ite X.K a) H1) ∨ (SqT X.K H1 a xs ∧ R (IteT X.K a) H1)) := by
    cases vs with
    | nil => exact q1.elim
    | cons x r =>
      cases r with
      | nil => exact ⟨x, rfl, q1⟩
      | cons _ _ => exact q1.elim
  clear q1
  obtain ⟨x, rfl, a, xs, rfl, q1⟩ := sh
  cases r1 with
  | cons r rr =>
    cases rr
    cases r
    rcases q1 with ⟨hq, q⟩ | ⟨hq, q⟩
    · obtain ⟨its, rv, p', hz⟩ := I1.list hq
      refine call_enumerate_list p'.isList fun h' he hit hsz hk => wpAny_pyIter_enum he ?_
      have I2 : Inv X pins σ H1 { s1 with heap := h' } := I1.kept (t' := s1.toks) hk
      refine ⟨s1.heap.objs.size + 1, [s1.heap.objs.size + 1, s1.heap.objs.size], _, _, H1, rfl, I2, turn_enum a (s1.heap.objs.size + 1) s1.heap.objs.size, ⟨⟨.none, he⟩, hit, Nat.succ_ne_self _⟩, fun b hb => ?_, q⟩
      have e' : b = s1.heap.objs.size + 1 ∨ b = s1.heap.objs.size := by simpa using hb
      have hle : s1.heap.objs.size ≤ b := by
        rcases e' with z | z
        · rw [z]; exact Nat.le_add_right _ _
        · rw [z]; exact Nat.le_refl _
      exact I1.fpOk hle (I1.hok.fresh hle)
    · obtain ⟨its, rv, p', hz⟩ := I1.tuple hq
      have p2 : s1.heap.IsTuple a its.toArray := p'
      have hal : a < s1.heap.objs.size := p'.lt
      refine call_enum1 (begins_tuple a its.toArray) p2 fun h' he hit hsz hk => wpAny_pyIter_enum he ?_
      have I2 : Inv X pins σ H1 { s1 with heap := h' } := I1.kept (t' := s1.toks) hk
      refine ⟨s1.heap.objs.size + 1, [s1.heap.objs.size + 1, s1.heap.objs.size], _, _, H1, rfl, I2, turn_enumT a (s1.heap.objs.size + 1) s1.heap.objs.size (Nat.ne_of_lt hal) (Nat.ne_of_gt (Nat.lt_succ_of_lt hal)), ⟨⟨.none, he⟩, ⟨_, hit, rfl, rfl⟩, Nat.succ_ne_self _⟩, fun b hb => ?_, q⟩
      have e' : b = s1.heap.objs.size + 1 ∨ b = s1.heap.objs.size := by simpa using hb
      have hle : s1.heap.objs.size ≤ b := by
        rcases e' with z | z
        · rw [z]; exact Nat.le_add_right _ _
        · rw [z]; exact Nat.le_refl _
      exact I1.fpOk hle (I1.hok.fresh hle)

/-- a list, a tuple, a text, as it comes -/
def iAny (K : PySem.W.Frag) (tl : TE) : TI := fun σ H R => tl σ H fun x H1 => (∃ a, x = .ref a ∧ (∃ xs, SqL K H1 a xs) ∧ R (Itl K a) H1) ∨ (∃ a, x = .ref a ∧ (∃ xs, SqT K H1 a xs) ∧ R (Itt K a) H1) ∨ (∃ z, x = .str z ∧ R (Its z) H1)
theorem pi_any {X : Cx} {tg l : Expr} {tl : TE} (hl : PE X l tl) : PI X tg l (iAny X.K tl) := by
  refine ⟨fun pins s σ H R I h => ?_⟩
  refine thn (hl.run pins s σ H _ I h) fun v s1 ⟨x, H1, I1, r1, q1⟩ => ?_
  rcases q1 with ⟨a, e, ⟨xs, hq⟩, q⟩ | ⟨a, e, ⟨xs, hq⟩, q⟩ | ⟨z, e, q⟩
  · subst e
    cases r1
    obtain ⟨its, rv, p, hz⟩ := I1.list hq
    refine wpAny_pyIter_list p.isList ?_
    refine ⟨s1.heap.objs.size, [s1.heap.objs.size], _, _, H1, rfl, I1.kept (t' := s1.toks) fun b o e => Heap.get?_push_of_some _ e, turn_list a _, ⟨_, Heap.get?_push_size _ rfl, rfl, rfl⟩, fun b hb => ?_, q⟩
    have e : b = s1.heap.objs.size := by simpa using hb
    subst e
    exact I1.fpOk (Nat.le_refl _) (I1.hok.fresh (Nat.le_refl _))
  · subst e
    cases r1
    obtain ⟨its, rv, p, hz⟩ := I1.tuple hq
    refine wpAny_pyIter_tuple (show s1.heap.IsTuple a its.toArray from p) ?_
    refine ⟨s1.heap.objs.size, [s1.heap.objs.size], _, _, H1, rfl, I1.kept (t' := s1.toks) fun b o e => Heap.get?_push_of_some _ e, turn_tuple a _, ⟨_, Heap.get?_push_size _ rfl, rfl, rfl⟩, fun b hb => ?_, q⟩
    have e : b = s1.heap.objs.size := by simpa using hb
    subst e
    exact I1.fpOk (Nat.le_refl _) (I1.hok.fresh (Nat.le_refl _))
  · subst e
    obtain ⟨t, rfl⟩ := r1
    cases ha : z.cps.all (· < 128)
    · exact wpAny_pyIter_wide ha (pi_one (tk := s1.toks) I1 _ (turn_str _ z t "str_iterator" (.inr rfl)) ⟨_, Heap.get?_push_size _ rfl, rfl, rfl⟩ q)
    · exact wpAny_pyIter_ascii ha (pi_one (tk := s1.toks) I1 _ (turn_str _ z t "str_ascii_iterator" (.inl rfl)) ⟨_, Heap.get?_push_size _ rfl, rfl, rfl⟩ q)
end Pl
set_option Elab.async false
set_option linter.all false
set_option maxRecDepth 100000
set_option maxHeartbeats 999999
/-! Pl: the checker: this piece of the text is that piece of Pl. -/
namespace Pl
open PySem PySem.Spec L2

/-- what is known of a def (or a comprehension's block) from the text alone -/
structure Sc where
  N : List Str
  sc : Scope
  fn : Str → Bool
  fs : Str → Option Nat

def visB (sc : Scope) (x : Str) : Bool := match sc.names.lookup x with
  | some .local => true | some .cell => true | some .free => true | _ => false
def glB (sc : Scope) (x : Str) : Bool := match sc.names.lookup x with
  | some .globalImplicit => true | _ => false
def locB (sc : Scope) (x : Str) : Bool := match sc.names.lookup x with
  | some .local => true | some .cell => true | _ => false
def isLocal (sc : Scope) (x : Str) : Bool := match sc.names.lookup x with
  | some .local => true | _ => false
def Sc.blk (c : Sc) (scope : Scope) : Sc := { c with sc := relS scope c.sc, fn := fun x => scope.names.lookup x == some .cell }
def Sc.own (c : Sc) (is : List Nat) : List (Str × Nat) := is.map fun i => ((c.N[i]?).getD ⟨#[]⟩, i)
def notDbg (x : Str) : Bool := !(x == ("__debug__" : Str)) && !(x == ("__classdict__" : Str)) && !(x == ("__name__" : Str))
def mtName : Mt → Str
  | .append => "append" | .index => "index" | .pop0 => "pop" | .pop1 => "pop" | .extend => "extend" | .insert => "insert" | .get1 => "get" | .get2 => "get"
/-- how many arguments -/
def mtN : Mt → Nat
  | .append => 1 | .index => 1 | .pop0 => 0 | .pop1 => 1 | .extend => 1 | .insert => 2 | .get1 => 1 | .get2 => 2
def simpleRecv : Expr → Bool
  | .Name _ _ => true
  | .Subscript _ _ _ => true
  | .Constant _ _ _ => true
  | _ => false
def nonEmpty {α : Type} : List α → Bool
  | [] => false
  | _ :: _ => true
def isComp : Expr → Bool
  | .ListComp .. | .SetComp .. | .DictComp .. => true
  | _ => false
def isTupE : Expr → Bool
  | .Tuple .. => true
  | _ => false

mutual
def okE (c : Sc) (e : Expr) : X → Bool
  | .cst u => match e, u with
    | .Constant .none _ _, .non => true
    | .Constant (.bool b) _ _, .bl b' => b == b'
    | .Constant (.int i) _ _, .int i' => decide (i = i')
    | .Constant (.str x) _ _, .str x' => decide (x = x') && decide (x.length ≤ sizeLine)
    | _, _ => false
  | .var i => match e with
    | .Name x _ => decide (c.N[i]? = some x) && visB c.sc x && notDbg x
    | _ => false
  | .bin op _ a b => match e with
    | .BinOp l o r _ => o == opOf op && okE c l a && okE c r b
    | _ => false
  | .neg a => match e with
    | .UnaryOp .USub l _ => okE c l a
    | _ => false
  | .not a => match e with
    | .UnaryOp .Not l _ => okE c l a
    | _ => false
  | .bop isAnd es => match e with
    | .BoolOp .And vs _ => isAnd && nonEmpty vs && okEs c vs es
    | .BoolOp .Or vs _ => !isAnd && nonEmpty vs && okEs c vs es
    | _ => false
  | .cmp op a b => match e with
    | .Compare l [o] [r] _ => o == cOf op && !behindInMarks o r && okE c l a && okE c r b
    | _ => false
  | .cmp2 op op' a b d => match e with
    | .Compare l [o, o'] [r, s] _ => o == cOf op && o' == cOf op' && !lastMarks [o, o'] [r, s] && okE c l a && okE c r b && okE c s d
    | _ => false
  | .ife t a b => match e with
    | .IfExp t' l r _ => okE c t' t && okE c l a && okE c r b
    | _ => false
  | .call f es => match e with
    | .Call (.Name x _) as [] _ => decide (x = f) && glB c.sc x && notDbg x && (c.fs f).isSome && okEs c as es
    | _ => false
  | .bi f _ es => match e with
    | .Call (.Name x _) as [] _ => decide (x = biName f) && glB c.sc x && nonEmpty as && okEs c as es
    | _ => false
  | .isi t a => match e with
    | .Call (.Name x _) [l, .Name y _] [] _ => decide (x = "isinstance") && decide (y = Str.ofString (tyName t)) && glB c.sc x && glB c.sc y && okE c l a
    | _ => false
  | .mth f o es => match e with
    | .Call (.Attribute ob name ap) as [] cp => decide (name = mtName f) && simpleRecv ob && (ap.endLine == cp.line) && (as.length == mtN f) && okE c ob o && okEs c as es
    | _ => false
  | .ix a i => match e with
    | .Subscript l s _ => okE c l a && okE c s i
    | _ => false
  | .sl _ a lo hi => match e with
    | .Subscript l (.Slice lo' hi' none _) _ => okE c l a && okO c lo' lo && okO c hi' hi
    | _ => false
  | .tup es => match e with
    | .Tuple vs _ _ => okEs c vs es
    | _ => false
  | .lst _ es => match e with
    | .List vs _ => okEs c vs es
    | _ => false
  | .lc _ t it fs a => match e with
    | .ListComp elt [⟨tg, iter, ifs, 0⟩] scope _ => blkC c.N c.sc scope (c.own t.own) && okI c tg iter it && okT (c.blk scope) tg t && decide (ifs.length ≤ 1) && okEs (c.blk scope) ifs fs && okE (c.blk scope) elt a
    | _ => false
  | .lc2 _ t it fs t1 it1 fs1 a => match e with
    | .ListComp elt [⟨tg, iter, ifs, 0⟩, ⟨tg1, iter1, ifs1, 0⟩] scope _ => blkC c.N c.sc scope (c.own (t.own ++ t1.own)) && okI c tg iter it && okT (c.blk scope) tg t && decide (ifs.length ≤ 1) && okEs (c.blk scope) ifs fs &&
        okI (c.blk scope) tg1 iter1 it1 && okT (c.blk scope) tg1 t1 && decide (ifs1.length ≤ 1) && okEs (c.blk scope) ifs1 fs1 && okE (c.blk scope) elt a
    | _ => false
  | .lrg _ es => match e with
    | .Call (.Name x _) [.Call (.Name y _) as [] _] [] _ => decide (x = "list") && decide (y = "range") && glB c.sc x && glB c.sc y && nonEmpty as && okEs c as es
    | _ => false
  | .dic es => match e with
    | .Dict keys values _ => decide (keys.length ≤ 15) && okPs c keys values es
    | _ => false
def okPs (c : Sc) (ks : List (Option Expr)) (vs : List Expr) : Xs → Bool
  | .nil => match ks, vs with
    | [], [] => true
    | _, _ => false
  | .cons _ .nil => false
  | .cons x (.cons y xs) => match ks, vs with
    | some e :: r, e' :: r' => okE c e x && okE c e' y && okPs c r r' xs
    | _, _ => false
def okEs (c : Sc) (es : List Expr) : Xs → Bool
  | .nil => match es with
    | [] => true
    | _ => false
  | .cons x xs => match es with
    | e :: r => okE c e x && okEs c r xs
    | _ => false
def okO (c : Sc) (e : Option Expr) : Xo → Bool
  | .none => match e with
    | none => true
    | _ => false
  | .some x => match e with
    | some e => okE c e x
    | _ => false
def okI (c : Sc) (tg e : Expr) : I → Bool
  | .val x => okE c e x
  | .rng1 a => match e with
    | .Call (.Name x _) [l] [] _ => decide (x = "range") && glB c.sc x && okE c l a
    | _ => false
  | .rng2 a b => match e with
    | .Call (.Name x _) [l, r] [] _ => decide (x = "range") && glB c.sc x && okE c l a && okE c r b
    | _ => false
  | .rng3 a b d => match e with
    | .Call (.Name x _) [l, r, s] [] _ => decide (x = "range") && glB c.sc x && okE c l a && okE c r b && okE c s d
    | _ => false
  | .enum a => match e with
    | .Call (.Name x _) [l] [] _ => decide (x = "enumerate") && glB c.sc x && isTupE tg && okE c l a
    | _ => false
def okT (c : Sc) (e : Expr) : T → Bool
  | .nm i => match e with
    | .Name x _ => decide (c.N[i]? = some x) && locB c.sc x && (c.fn x || isLocal c.sc x)
    | _ => false
  | .tp ts => match e with
    | .Tuple es _ _ => okTs c es ts
    | _ => false
  | .sub o i => match e with
    | .Subscript l r _ => okE c l o && okE c r i
    | _ => false
def okTs (c : Sc) (es : List Expr) : Ts → Bool
  | .nil => match es with
    | [] => true
    | _ => false
  | .cons t ts => match es with
    | e :: r => okT c e t && okTs c r ts
    | _ => false
end

/-- may the plain rule of a stored name be used? (the value is no comprehension, or the name is no plain local) -/
def plainSet (c : Sc) (x : Str) (v : Expr) : Bool := !isComp v || !isLocal c.sc x
/-- y = [..] on one line, y a plain local -/
def swapSet (c : Sc) (y : Str) (py : Pos) (v : Expr) : Bool := match v with
  | .ListComp _ [_] scope pos => isLocal c.sc y && (py.line == pos.line) && !(scope.names.any fun (n, k) => n == y && (k == .local || k == .cell))
  | _ => false

mutual
def okS (c : Sc) (st : Stmt) : S → Bool
  | .expr x => match st with
    | .Expr v _ => !isComp v && okE c v x
    | _ => false
  | .asg t x => match st with
    | .Assign [tg] v _ => okT c tg t && okE c v x && (match t, tg with
      | .nm _, .Name y py => plainSet c y v || swapSet c y py v
      | .tp _, _ => !isTupE v && !isComp v
      | .sub _ _, _ => !isComp v
      | _, _ => false)
    | _ => false
  | .par i j a b => match st with
    | .Assign [.Tuple [.Name x px, .Name y py] _ _] (.Tuple [l, r] _ _) _ => decide (c.N[i]? = some x) && decide (c.N[j]? = some y) && decide (i ≠ j) && decide (x ≠ y) && isLocal c.sc x && isLocal c.sc y && (px.line == py.line) &&
        !([l, r].all (foldedForSure 8)) && !([l, r].all (constantsAlone 8)) && okE c l a && okE c r b
    | _ => false
  | .aug i op x => match st with
    | .AugAssign (.Name y _) o v _ => decide (c.N[i]? = some y) && locB c.sc y && (c.fn y || isLocal c.sc y) && (o == opOf op) && (op == .add || op == .sub) && okE c v x
    | _ => false
  | .ret x => match st with
    | .Return (some v) _ => okE c v x
    | _ => false
  | .retN => match st with
    | .Return none _ => true
    | _ => false
  | .ifs t a b => match st with
    | .If t' l r _ => okE c t' t && okSs c l a && okSs c r b
    | _ => false
  | .fr t it b => match st with
    | .For tg iter body [] _ => okI c tg iter it && okT c tg t && okSs c body b
    | _ => false
  | .wh t b => match st with
    | .While t' body [] _ => okE c t' t && okSs c body b
    | _ => false
  | .brk => match st with
    | .Break _ => true
    | _ => false
  | .cnt => match st with
    | .Continue _ => true
    | _ => false
  | .pass => match st with
    | .Pass _ => true
    | _ => false
def okSs (c : Sc) (st : List Stmt) : Ss → Bool
  | .nil => match st with
    | [] => true
    | _ => false
  | .cons s ss => match st with
    | t :: r => okS c t s && okSs c r ss
    | _ => false
end
end Pl
set_option Elab.async false
set_option linter.all false
set_option maxRecDepth 100000
/-! Pl: a list that is just being made. -/
namespace Pl
open PySem PySem.Spec L2
section
variable {K : Kw} {H H' H'' : Hp} {ρ ρ' ρ'' : Loc} {h : Hu} {g : Sg} {σ : St}
mutual
theorem RV.gen (tk : ∀ a xs, SqT K.f H a xs → SqT K.f H' a xs) (rk : ∀ a xs, RoL K.f H a xs → RoL K.f H' a xs) (lk : ∀ a (ys : List V), Rd H a (.lst ys) → a ∉ ρ.ids → a ∉ ρ.pen → Rd H' a (.lst ys) ∧ a ∉ ρ'.ids ∧ a ∉ ρ'.pen) (get : ∀ (n : Nat) a, ρ.ids[n]? = some a → ρ'.ids[n]? = some a) :
    ∀ {u : U} {v : V}, RV K H ρ u v → RV K H' ρ' u v
  | _, _, .non => .non
  | _, _, .bl b => .bl b
  | _, _, .int i => .int i
  | _, _, .str y l => .str y l
  | _, _, .tup s l r => .tup (tk _ _ s) l (RVs.gen tk rk lk get r)
  | _, _, .lst s n n' l r => .lst (lk _ _ s n n').1 (lk _ _ s n n').2.1 (lk _ _ s n n').2.2 l (RVs.gen tk rk lk get r)
  | _, _, .ro s l r => .ro (rk _ _ s) l (RVs.gen tk rk lk get r)
  | _, _, .mr e => .mr (get _ _ e)
  | _, _, .fn e => .fn e
theorem RVs.gen (tk : ∀ a xs, SqT K.f H a xs → SqT K.f H' a xs) (rk : ∀ a xs, RoL K.f H a xs → RoL K.f H' a xs) (lk : ∀ a (ys : List V), Rd H a (.lst ys) → a ∉ ρ.ids → a ∉ ρ.pen → Rd H' a (.lst ys) ∧ a ∉ ρ'.ids ∧ a ∉ ρ'.pen) (get : ∀ (n : Nat) a, ρ.ids[n]? = some a → ρ'.ids[n]? = some a) :
    ∀ {us : List U} {vs : List V}, RVs K H ρ us vs → RVs K H' ρ' us vs
  | _, _, .nil => .nil
  | _, _, .cons r rs => .cons (RV.gen tk rk lk get r) (RVs.gen tk rk lk get rs)
end
theorem RO.gen {a : Addr} (tk : ∀ a xs, SqT K.f H a xs → SqT K.f H' a xs) (rk : ∀ a xs, RoL K.f H a xs → RoL K.f H' a xs) (lk : ∀ a (ys : List V), Rd H a (.lst ys) → a ∉ ρ.ids → a ∉ ρ.pen → Rd H' a (.lst ys) ∧ a ∉ ρ'.ids ∧ a ∉ ρ'.pen) (get : ∀ (n : Nat) a, ρ.ids[n]? = some a → ρ'.ids[n]? = some a) {o : O} {ho : HO} (r : RO K H ρ a o ho) : RO K H' ρ' a o ho :=
  r.imp (fun _ _ q => q.gen tk rk lk get) fun _ _ q => RVs.gen tk rk lk get q
theorem SgR.gen (tk : ∀ a xs, SqT K.f H a xs → SqT K.f H' a xs) (rk : ∀ a xs, RoL K.f H a xs → RoL K.f H' a xs) (lk : ∀ a (ys : List V), Rd H a (.lst ys) → a ∉ ρ.ids → a ∉ ρ.pen → Rd H' a (.lst ys) ∧ a ∉ ρ'.ids ∧ a ∉ ρ'.pen) (get : ∀ (n : Nat) a, ρ.ids[n]? = some a → ρ'.ids[n]? = some a) (S : SgR K H ρ g σ) : SgR K H' ρ' g σ :=
  ⟨S.len, fun i u e => let ⟨v, e1, r⟩ := S.at_ i u e; ⟨v, e1, r.gen tk rk lk get⟩⟩
def Loc.pend (ρ : Loc) (D : Addr) : Loc := ⟨ρ.ids, D :: ρ.pen⟩
theorem upd_sqT {D : Addr} {o : HO} (n : H D = none) : ∀ a xs, SqT K.f H a xs → SqT K.f (upd H D o) a xs := fun a xs s => by
  rcases s with (e | ⟨o', e⟩) | s
  · exact .inl (.inl (by rw [upd_ne (ne_of_none e n)]; exact e))
  · exact .inl (.inr ⟨o', by rw [upd_ne (ne_of_none e n)]; exact e⟩)
  · exact .inr s
theorem upd_roL {D : Addr} {o : HO} (n : H D = none) : ∀ a xs, RoL K.f H a xs → RoL K.f (upd H D o) a xs := fun a xs s => by
  rcases s with ⟨o', e⟩ | s
  · exact .inl ⟨o', by rw [upd_ne (ne_of_none e n)]; exact e⟩
  · exact .inr s
theorem upd_rd {D : Addr} {o : HO} (n : H D = none) : ∀ a (ys : List V), Rd H a (.lst ys) → a ∉ ρ.ids → a ∉ ρ.pen → Rd (upd H D o) a (.lst ys) ∧ a ∉ (ρ.pend D).ids ∧ a ∉ (ρ.pend D).pen := fun a u s h1 h2 => by
  have ne : a ≠ D := by
    rcases s with e | ⟨o', e⟩ <;> exact ne_of_none e n
  refine ⟨?_, h1, fun m => ?_⟩
  · rcases s with e | ⟨o', e⟩
    · exact .inl (by rw [upd_ne ne]; exact e)
    · exact .inr ⟨o', by rw [upd_ne ne]; exact e⟩
  · rcases List.mem_cons.mp (show a ∈ D :: ρ.pen from m) with z | z
    · exact ne z
    · exact h2 z
theorem RV.pend {D : Addr} {o : HO} (n : H D = none) {u : U} {v : V} (r : RV K H ρ u v) : RV K (upd H D o) (ρ.pend D) u v := r.gen (upd_sqT n) (upd_roL n) (upd_rd n) fun _ _ e => e
theorem RVs.pend {D : Addr} {o : HO} (n : H D = none) {u : List U} {v : List V} (r : RVs K H ρ u v) : RVs K (upd H D o) (ρ.pend D) u v := r.gen (upd_sqT n) (upd_roL n) (upd_rd n) fun _ _ e => e
theorem SgR.pend {D : Addr} {o : HO} (n : H D = none) (S : SgR K H ρ g σ) : SgR K (upd H D o) (ρ.pend D) g σ := S.gen (upd_sqT n) (upd_roL n) (upd_rd n) fun _ _ e => e
theorem Rl.pend {D : Addr} {xs : List V} (R : Rl K H ρ h) (n : H D = none) : Rl K (upd H D (.lst xs)) (ρ.pend D) h :=
  ⟨R.len, R.nd, fun i u e => let ⟨a, ho, e1, e2, e3⟩ := R.ob i u e; ⟨a, ho, e1, by rw [upd_ne (ne_of_none e2 n)]; exact e2, e3.gen (upd_sqT n) (upd_roL n) (upd_rd n) fun _ _ e => e⟩,
    fun a m => by
      rcases List.mem_cons.mp (show a ∈ D :: ρ.pen from m) with z | z
      · subst z; exact ⟨xs, upd_same⟩
      · obtain ⟨ys, e⟩ := R.pn a z
        exact ⟨ys, by rw [upd_ne (ne_of_none e n)]; exact e⟩,
    fun a m => by
      rcases List.mem_cons.mp (show a ∈ D :: ρ.pen from m) with z | z
      · subst z; exact R.out n
      · exact R.dj a z⟩
theorem Exw.updP {D : Addr} {o : HO} (m : D ∈ ρ.pen) : Exw ρ H ρ (upd H D o) :=
  ⟨⟨[], by simp, by simp⟩, rfl, fun a u e _ n => by
    have z : a ≠ D := fun z => n (by rw [z]; exact m)
    rw [upd_ne z]; exact e⟩
theorem Rl.updP {D : Addr} {xs : List V} (R : Rl K H ρ h) (m : D ∈ ρ.pen) : Rl K (upd H D (.lst xs)) ρ h :=
  ⟨R.len, R.nd, fun i u e => let ⟨a, ho, e1, e2, e3⟩ := R.ob i u e; ⟨a, ho, e1, by
      have z : a ≠ D := fun z => R.dj D m (by rw [← z]; exact List.mem_of_getElem? e1)
      rw [upd_ne z]; exact e2, e3.monow R (Exw.updP m)⟩,
    fun a m' => by
      by_cases z : a = D
      · subst z; exact ⟨xs, upd_same⟩
      · obtain ⟨ys, e⟩ := R.pn a m'
        exact ⟨ys, by rw [upd_ne z]; exact e⟩, R.dj⟩
theorem unp_sub {D : Addr} : ∀ a, H a ≠ none → a ∉ (ρ.pend D).ids → a ∉ (ρ.pend D).pen → a ∉ ρ.ids ∧ a ∉ ρ.pen := fun a _ h1 h2 => ⟨h1, fun m => h2 (List.mem_cons_of_mem _ m)⟩
theorem unpM_sub {D : Addr} : ∀ a, H a ≠ none → a ∉ (ρ.pend D).ids → a ∉ (ρ.pend D).pen → a ∉ (ρ.add D).ids ∧ a ∉ (ρ.add D).pen := fun a _ h1 h2 =>
  ⟨fun m => by
    rcases List.mem_append.mp (show a ∈ ρ.ids ++ [D] from m) with z | z
    · exact h1 z
    · rw [List.mem_singleton.mp z] at h2
      exact h2 List.mem_cons_self, fun m => h2 (List.mem_cons_of_mem _ m)⟩
theorem add_get {D : Addr} : ∀ (n : Nat) a, (ρ.pend D).ids[n]? = some a → (ρ.add D).ids[n]? = some a := fun n a e => by
  show (ρ.ids ++ [D])[n]? = some a
  have e' : ρ.ids[n]? = some a := e
  rw [List.getElem?_append_left (List.getElem?_eq_some_iff.mp e').1]
  exact e'
theorem Rl.unp {D : Addr} (R : Rl K H (ρ.pend D) h) : Rl K H ρ h :=
  ⟨R.len, R.nd, fun i u e => let ⟨a, ho, e1, e2, e3⟩ := R.ob i u e; ⟨a, ho, e1, e2, e3.re unp_sub fun _ _ e => e⟩, fun a m => R.pn a (List.mem_cons_of_mem _ m), fun a m => R.dj a (List.mem_cons_of_mem _ m)⟩
theorem Rl.unpM {D : Addr} {us : List U} {xs : List V} (R : Rl K H (ρ.pend D) h) (nd : D ∉ ρ.pen) (e : H D = some (.lst xs)) (l : us.length ≤ sizeLine) (r : RVs K H (ρ.pend D) us xs) : Rl K H (ρ.add D) (h ++ [.lst us]) := by
  have hl : ρ.ids.length = h.length := R.len
  refine ⟨by show (ρ.ids ++ [D]).length = _; simp [hl], ?_, fun i u e' => ?_, fun a m => R.pn a (List.mem_cons_of_mem _ m), fun a m z => ?_⟩
  · show (ρ.ids ++ [D]).Nodup
    rw [List.nodup_append]
    refine ⟨R.nd, by simp, fun a ha b hb => ?_⟩
    rw [List.mem_singleton.mp hb]
    intro z; subst z
    exact R.dj a List.mem_cons_self ha
  · show ∃ a ho, (ρ.ids ++ [D])[i]? = some a ∧ _
    by_cases hi : i < h.length
    · rw [List.getElem?_append_left hi] at e'
      obtain ⟨a, ho, e1, e2, e3⟩ := R.ob i u e'
      exact ⟨a, ho, by rw [List.getElem?_append_left (by rw [hl]; exact hi)]; exact e1, e2, e3.re unpM_sub add_get⟩
    · rw [List.getElem?_append_right (by omega)] at e'
      have hi0 : i - h.length = 0 := by
        have := (List.getElem?_eq_some_iff.mp e').1
        simp at this; omega
      rw [hi0] at e'
      simp at e'
      subst e'
      refine ⟨D, .lst xs, ?_, e, l, RVs.re unpM_sub add_get r⟩
      rw [List.getElem?_append_right (by rw [hl]; omega), hl, hi0]
      rfl
  · rcases List.mem_append.mp (show a ∈ ρ.ids ++ [D] from z) with q | q
    · exact R.dj a (List.mem_cons_of_mem _ m) q
    · rw [List.mem_singleton.mp q] at m
      exact nd m
/-- from before a comprehension to within it -/
theorem Ext.drop {D : Addr} {r : Loc} (x : Ext (ρ.pend D) H r H') : ∃ ρ', r = Loc.pend ρ' D ∧ Ext ρ H ρ' H' := by
  obtain ⟨i', p'⟩ := r
  have e : p' = D :: ρ.pen := x.pen
  subst e
  exact ⟨⟨i', ρ.pen⟩, rfl, x.pre, rfl, x.keep, x.there⟩
theorem Ext.updD {D : Addr} {o : HO} (x : Ext ρ H ρ' H') (n : H D = none) (e : H' D ≠ none) : Ext ρ H ρ' (upd H' D o) :=
  ⟨x.pre, x.pen, fun a u q n' => by rw [upd_ne (ne_of_none q n)]; exact x.keep a u q n', fun a q => by
    by_cases z : a = D
    · subst z; exact absurd n q
    · rw [upd_ne z]; exact x.there a q⟩
end
end Pl
set_option Elab.async false
set_option linter.all false
set_option maxRecDepth 100000
set_option maxHeartbeats 999999
/-! Pl: readings made of plain readings. -/
namespace Pl
open PySem PySem.Spec L2

def spU (K : Kw) (F : CallT) (f : Str) : Sp := fun vs H Q _ => ∃ ρ us h q, Rl K H ρ h ∧ RVs K H ρ us vs ∧ F f us h q (fun _ _ => False) ∧ PostE K ρ H q Q
def biNames : List Str := ["len", "int", "bool", "tuple", "list", "all", "any", "max", "min", "sum", "sorted", "abs", "str", "isinstance", "range", "enumerate", "dict"]
structure CtxOk (F : CallT) (k : Nat) (X : Cx) (c : Sc) : Prop where
  N : X.N = c.N
  sc : X.env.scope = c.sc
  fn : X.fn = c.fn
  nd : c.N.Nodup
  calm : X.calm = true
  room : Room k X.A
  xe : X.xe = fun _ _ => False
  kind : c.sc.kind = .function
  bi : ∀ x ∈ biNames, X.mg x = none
  fu : ∀ f n, c.fs f = some n → ∃ a fd ps, X.mg f = some (.ref a) ∧ FnOk X.prog X.w X.K X.mg X.base CX0 k a fd ps (spU X.kw F f) ∧ PySem.W.keepIn X.K (.ref a) = true ∧ Binds X.K fd ps []

def PostB (K : Kw) (ρ : Loc) (H : Hp) (q : Bool → Hu → Prop) (Q : Bool → Hp → Prop) : Prop := ∀ b h' H' ρ', Ext ρ H ρ' H' → Rl K H' ρ' h' → q b h' → Q b H'
def PostA (K : Kw) (ρ : Loc) (H : Hp) (q : List U → Hu → Prop) (Q : List V → Hp → Prop) : Prop := ∀ us h' vs H' ρ', Ext ρ H ρ' H' → Rl K H' ρ' h' → RVs K H' ρ' us vs → q us h' → Q vs H'
def PostO (K : Kw) (ρ : Loc) (H : Hp) (q : Option Int → Hu → Prop) (Q : Option Int → Hp → Prop) : Prop := ∀ o h' H' ρ', Ext ρ H ρ' H' → Rl K H' ρ' h' → q o h' → Q o H'
def canE (K : Kw) (f : RE) : TE := fun σ H Q => ∃ ρ g h q, Rl K H ρ h ∧ SgR K H ρ g σ ∧ f g h q ∧ PostE K ρ H q Q
def canB (K : Kw) (f : RB) : TT := fun σ H Q => ∃ ρ g h q, Rl K H ρ h ∧ SgR K H ρ g σ ∧ f g h q ∧ PostB K ρ H q Q
def canA (K : Kw) (f : Sg → Hu → (List U → Hu → Prop) → Prop) : TA := fun σ H Q => ∃ ρ g h q, Rl K H ρ h ∧ SgR K H ρ g σ ∧ f g h q ∧ PostA K ρ H q Q
def canO (K : Kw) (f : Sg → Hu → (Option Int → Hu → Prop) → Prop) : TO := fun σ H Q => ∃ ρ g h q, Rl K H ρ h ∧ SgR K H ρ g σ ∧ f g h q ∧ PostO K ρ H q Q
/-- the walk J does what ok and xs say, from here on (also while a list is being made) -/
def Walk (K : Kw) (J : It) (ok : Hu → Prop) (xs : List U) (ρ₁ : Loc) (H₁ : Hp) : Prop := ∀ (i : Nat) ρ' ρ₂ H₂ h₂, Exw ρ₁ H₁ ρ' H₂ → (ρ₂ = ρ' ∨ ∃ D, ρ₂ = ρ'.pend D ∧ H₁ D = none) → Rl K H₂ ρ₂ h₂ → ok h₂ →
  (∀ u, xs[i]? = some u → J.go i H₂ ∧ ∀ x H₃, J.yld i H₂ x H₃ → Ext ρ₂ H₂ ρ₂ H₃ ∧ Rl K H₃ ρ₂ h₂ ∧ RV K H₃ ρ₂ u x) ∧ (xs.length ≤ i → J.stop i H₂)
def PostI (K : Kw) (ρ : Loc) (H : Hp) (q : (Hu → Prop) → List U → Hu → Prop) (R : It → Hp → Prop) : Prop := ∀ ok xs h' J H' ρ', Ext ρ H ρ' H' → Rl K H' ρ' h' → Walk K J ok xs ρ' H' → q ok xs h' → R J H'
def canI (K : Kw) (f : Sg → Hu → ((Hu → Prop) → List U → Hu → Prop) → Prop) : TI := fun σ H R => ∃ ρ g h q, Rl K H ρ h ∧ SgR K H ρ g σ ∧ f g h q ∧ PostI K ρ H q R
def PostG (K : Kw) (ρ : Loc) (H : Hp) (own : List Nat) (σ : St) (q : Sg → Hu → Prop) (Q : St → Hp → Prop) : Prop := ∀ g' σ' h' H' ρ', Ext ρ H ρ' H' → Rl K H' ρ' h' → SgR K H' ρ' g' σ' → L2.wipe σ' own = L2.wipe σ own → q g' h' → Q σ' H'
def canG (K : Kw) (own : List Nat) (f : U → Sg → Hu → (Sg → Hu → Prop) → Prop) : TG := fun v σ H Q => ∃ u ρ g h q, Rl K H ρ h ∧ SgR K H ρ g σ ∧ RV K H ρ u v ∧ f u g h q ∧ PostG K ρ H own σ q Q
structure EndsOk (K : Kw) (ρ : Loc) (H : Hp) (D : En) (E : Ends) : Prop where
  nx : ∀ g' σ' h' H' ρ', Ext ρ H ρ' H' → Rl K H' ρ' h' → SgR K H' ρ' g' σ' → D.nx g' h' → E.nx σ' H'
  rt : PostE K ρ H D.rt E.rt
  bk : ∀ g' σ' h' H' ρ', Ext ρ H ρ' H' → Rl K H' ρ' h' → SgR K H' ρ' g' σ' → D.bk g' h' → E.bk σ' H'
  ct : ∀ g' σ' h' H' ρ', Ext ρ H ρ' H' → Rl K H' ρ' h' → SgR K H' ρ' g' σ' → D.ct g' h' → E.ct σ' H'
def canS (K : Kw) (f : En → Sg → Hu → Prop) : TS := fun E σ H => ∃ ρ g h D, Rl K H ρ h ∧ SgR K H ρ g σ ∧ f D g h ∧ EndsOk K ρ H D E

section
variable {K : Kw} {H H' : Hp} {ρ ρ' : Loc} {h : Hu} {g : Sg} {σ : St} {X : Cx} {e : Expr}
theorem PostB.mono {q Q} (p : PostB K ρ H q Q) (x : Ext ρ H ρ' H') : PostB K ρ' H' q Q := fun b h' H2 ρ2 y => p b h' H2 ρ2 (x.trans y)
theorem PostA.mono {q Q} (p : PostA K ρ H q Q) (x : Ext ρ H ρ' H') : PostA K ρ' H' q Q := fun b h' v H2 ρ2 y => p b h' v H2 ρ2 (x.trans y)
theorem PostO.mono {q Q} (p : PostO K ρ H q Q) (x : Ext ρ H ρ' H') : PostO K ρ' H' q Q := fun b h' H2 ρ2 y => p b h' H2 ρ2 (x.trans y)
theorem PostI.mono {q Q} (p : PostI K ρ H q Q) (x : Ext ρ H ρ' H') : PostI K ρ' H' q Q := fun ok xs h' J H2 ρ2 y => p ok xs h' J H2 ρ2 (x.trans y)
theorem PostG.mono {q Q own} (p : PostG K ρ H own σ q Q) (x : Ext ρ H ρ' H') : PostG K ρ' H' own σ q Q := fun g2 σ2 h' H2 ρ2 y => p g2 σ2 h' H2 ρ2 (x.trans y)
theorem EndsOk.mono {D E} (p : EndsOk K ρ H D E) (x : Ext ρ H ρ' H') : EndsOk K ρ' H' D E :=
  ⟨fun a b c d f y => p.nx a b c d f (x.trans y), p.rt.mono x, fun a b c d f y => p.bk a b c d f (x.trans y), fun a b c d f y => p.ct a b c d f (x.trans y)⟩
theorem _root_.L2.PE.imp {t t' : TE} (p : PE X e t) (i : ∀ σ H Q, t' σ H Q → t σ H Q) : PE X e t' := ⟨fun pins s σ H Q I q => p.run pins s σ H Q I (i _ _ _ q)⟩
theorem _root_.L2.PT.imp {t t' : TT} (p : PT X e t) (i : ∀ σ H Q, t' σ H Q → t σ H Q) : PT X e t' := ⟨fun pins s σ H Q I q => p.run pins s σ H Q I (i _ _ _ q)⟩
theorem _root_.L2.PW.imp {t t' : TT} (p : PW X e t) (i : ∀ σ H Q, t' σ H Q → t σ H Q) : PW X e t' := ⟨fun wh pins s σ H Q I q => p.run wh pins s σ H Q I (i _ _ _ q)⟩
theorem _root_.L2.PA.imp {es : List Expr} {t t' : TA} (p : PA X es t) (i : ∀ σ H Q, t' σ H Q → t σ H Q) : PA X es t' := ⟨fun pos pins s σ H Q I q => p.run pos pins s σ H Q I (i _ _ _ q)⟩
theorem _root_.L2.PTs.imp {es : List Expr} {t t' : TT} (p : PTs X es t) (i : ∀ σ H Q, t' σ H Q → t σ H Q) : PTs X es t' := ⟨fun pins s σ H Q I q => p.run pins s σ H Q I (i _ _ _ q)⟩
theorem _root_.L2.PO.imp {e : Option Expr} {t t' : TO} (p : PO X e t) (i : ∀ σ H Q, t' σ H Q → t σ H Q) : PO X e t' := ⟨fun pins s σ H Q I q => p.run pins s σ H Q I (i _ _ _ q)⟩
theorem _root_.L2.PI.imp {tg : Expr} {t t' : TI} (p : PI X tg e t) (i : ∀ σ H R, t' σ H R → t σ H R) : PI X tg e t' := ⟨fun pins s σ H R I q => p.run pins s σ H R I (i _ _ _ q)⟩
theorem _root_.L2.PG.imp {t t' : TG} (p : PG X e t) (i : ∀ v σ H Q, t' v σ H Q → t v σ H Q) : PG X e t' := ⟨fun pins s σ H v u Q I r q => p.run pins s σ H v u Q I r (i _ _ _ _ q)⟩
theorem _root_.L2.PGs.imp {es : List Expr} {t t' : List V → St → Hp → (St → Hp → Prop) → Prop} (p : PGs X es t) (i : ∀ v σ H Q, t' v σ H Q → t v σ H Q) : PGs X es t' := ⟨fun pins s σ H v u Q I r q => p.run pins s σ H v u Q I r (i _ _ _ _ q)⟩
theorem _root_.L2.PS.imp {st : Stmt} {t t' : TS} (p : PS X st t) (i : ∀ D σ H, t' D σ H → t D σ H) : PS X st t' := ⟨fun pins s σ H D I q => p.run pins s σ H D I (i _ _ _ q)⟩
theorem _root_.L2.PSs.imp {st : List Stmt} {t t' : TS} (p : PSs X st t) (i : ∀ D σ H, t' D σ H → t D σ H) : PSs X st t' := ⟨fun pins s σ H D I q => p.run pins s σ H D I (i _ _ _ q)⟩

/-! no star -/
def noStar : Expr → Bool
  | .Starred .. => false
  | _ => true
theorem starEach_of {es : List Expr} {env : Env} (h : noStar e = true) : starEach (e :: es) env = (false, eval e env) :: starEach es env := by
  cases e <;> first | rfl | cases h
theorem okE_star {c : Sc} {x : Pl.X} (h : okE c e x = true) : noStar e = true := by
  cases e with
  | Starred v p => cases x <;> (unfold okE at h; first | cases h | (split at h <;> first | cases h | (rename_i q; cases q)))
  | _ => rfl
theorem okEs_star {c : Sc} : ∀ {es : List Expr} {xs : Xs}, okEs c es xs = true → ∀ e ∈ es, noStar e = true
  | [], _, _, _, m => by cases m
  | e :: es, .nil, h, _, _ => by cases h
  | e :: es, .cons x xs, h, e', m => by
    unfold okEs at h
    simp only [Bool.and_eq_true] at h
    rcases List.mem_cons.mp m with z | z
    · rw [z]; exact okE_star h.1
    · exact okEs_star h.2 e' z
theorem plain_of {pos : Pos} {env : Env} : ∀ {es : List Expr}, (∀ e ∈ es, noStar e = true) → (backTo pos (starEach es env)).any (·.1) = false
  | [], _ => rfl
  | e :: es, h => by
    rw [starEach_of (h e List.mem_cons_self)]
    have ih := plain_of (pos := pos) (env := env) (es := es) fun e' m => h e' (List.mem_cons_of_mem _ m)
    show (false || (backTo pos (starEach es env)).any (·.1)) = false
    rw [ih]; rfl
theorem okE_slice {c : Sc} {x : Pl.X} (h : okE c e x = true) : PlainIx e := by
  cases e with
  | Slice a b s p => cases x <;> (unfold okE at h; first | cases h | (split at h <;> first | cases h | (rename_i q; cases q)))
  | _ => exact fun _ _ => rfl
theorem okE_set {c : Sc} {x : Pl.X} (h : okE c e x = true) (env : Env) : ∀ v, foldedSetIterable e env v = pure v := by
  cases e with
  | Set a b p => cases x <;> (unfold okE at h; first | cases h | (split at h <;> first | cases h | (rename_i q; cases q)))
  | _ => intro _; rfl
theorem okI_set {c : Sc} {tg : Expr} {it : I} (h : okI c tg e it = true) (env : Env) : ∀ v, foldedSetIterable e env v = pure v := by
  cases it with
  | val x => unfold okI at h; exact okE_set h env
  | _ =>
    unfold okI at h
    split at h
    · intro _; rfl
    · cases h
end
end Pl
set_option Elab.async false
set_option linter.all false
set_option maxRecDepth 100000
set_option maxHeartbeats 999999
/-! Pl: walks, targets. -/
namespace Pl
open PySem PySem.Spec L2
section
variable {K : Kw} {H H' H₁ H₂ : Hp} {ρ ρ' ρ₁ ρ₂ : Loc} {h h₁ h₂ : Hu} {g : Sg} {σ : St} {X : Cx} {e : Expr}

/-- a value from ahead of the walk, within it -/
theorem RV.within {u : U} {v : V} (R : Rl K H₁ ρ₁ h₁) (x : Exw ρ₁ H₁ ρ' H₂) (w : ρ₂ = ρ' ∨ ∃ D, ρ₂ = ρ'.pend D ∧ H₁ D = none) (r : RV K H₁ ρ₁ u v) : RV K H₂ ρ₂ u v := by
  refine r.gen (fun a xs s => x.sqT R s) (fun a xs s => x.roL R s) (fun a u s n n' => ⟨x.rd s n n', ?_, ?_⟩) fun n a e => ?_
  · have := x.out n (rd_some s)
    rcases w with rfl | ⟨D, rfl, _⟩
    · exact this
    · exact this
  · have hp : a ∉ ρ'.pen := by rw [x.pen]; exact n'
    rcases w with rfl | ⟨D, rfl, q⟩
    · exact hp
    · intro m
      rcases List.mem_cons.mp (show a ∈ D :: ρ'.pen from m) with z | z
      · rw [z] at s; exact rd_some s q
      · exact hp z
  · have := x.get e
    rcases w with rfl | ⟨D, rfl, _⟩
    · exact this
    · exact this
/-- a row of items at each turn -/
def Row (K : Kw) (P : Hp → Addr → List V → Prop) (ok : Hu → Prop) (us : List U) (a : Addr) (ρ₁ : Loc) (H₁ : Hp) : Prop := ∀ ρ' ρ₂ H₂ h₂, Exw ρ₁ H₁ ρ' H₂ → (ρ₂ = ρ' ∨ ∃ D, ρ₂ = ρ'.pend D ∧ H₁ D = none) → Rl K H₂ ρ₂ h₂ → ok h₂ → ∃ xs, P H₂ a xs ∧ RVs K H₂ ρ₂ us xs
/-- a value is such a row: it is listed for good, or changeable and then looked at again -/
theorem RV.row (R : Rl K H₁ ρ₁ h₁) {u : U} {v : V} {us : List U} (r : RV K H₁ ρ₁ u v) (e : seqOf h₁ u = some us) :
    ∃ a, v = .ref a ∧ ((∃ xs, SqL K.f H₁ a xs) ∧ Row K (fun H a xs => SqL K.f H a xs) (srcOk u us) us a ρ₁ H₁ ∨ (∃ xs, SqT K.f H₁ a xs) ∧ Row K (fun H a xs => SqT K.f H a xs) (srcOk u us) us a ρ₁ H₁) := by
  cases r with
  | @tup ws a xs s l q =>
    simp only [seqOf, Option.some.injEq] at e; subst e
    refine ⟨a, rfl, .inr ⟨⟨xs, s⟩, fun ρ' ρ₂ H₂ h₂ x w R2 _ => ?_⟩⟩
    have := RV.within R x w (.tup s l q)
    cases this with
    | tup s' l' q' => exact ⟨_, s', q'⟩
  | @lst ws a xs s n n' l q =>
    simp only [seqOf, Option.some.injEq] at e; subst e
    refine ⟨a, rfl, .inl ⟨⟨xs, .inl s⟩, fun ρ' ρ₂ H₂ h₂ x w R2 _ => ?_⟩⟩
    have := RV.within R x w (.lst s n n' l q)
    cases this with
    | lst s' _ _ l' q' => exact ⟨_, .inl s', q'⟩
  | @ro ws a xs s l q =>
    simp only [seqOf, Option.some.injEq] at e; subst e
    refine ⟨a, rfl, .inl ⟨⟨xs, s.sq⟩, fun ρ' ρ₂ H₂ h₂ x w R2 _ => ?_⟩⟩
    have := RV.within R x w (.ro s l q)
    cases this with
    | ro s' l' q' => exact ⟨_, s'.sq, q'⟩
  | @mr k a m =>
    simp only [seqOf] at e
    cases z : h₁[k]? with
    | none => rw [z] at e; cases e
    | some o =>
      rw [z] at e
      cases o with
      | lst ws =>
        simp only [Option.some.injEq] at e; subst e
        obtain ⟨b, ys, e1, e2, e3, e4⟩ := R.lst z
        rw [m] at e1; cases e1
        refine ⟨a, rfl, .inl ⟨⟨ys, .inl (.inl e2)⟩, fun ρ' ρ₂ H₂ h₂ x w R2 ok => ?_⟩⟩
        obtain ⟨b, zs, e5, e6, _, e7⟩ := R2.lst (show h₂[k]? = some (.lst ws) from ok)
        have e8 : ρ₂.ids[k]? = some a := by
          have := x.get m
          rcases w with rfl | ⟨D, rfl, _⟩
          · exact this
          · exact this
        rw [e8] at e5; cases e5
        exact ⟨zs, .inl (.inl e6), e7⟩
      | _ => cases e
  | _ => cases e
theorem walkL {ok : Hu → Prop} {us : List U} {a : Addr} (r : Row K (fun H a xs => SqL K.f H a xs) ok us a ρ₁ H₁) : Walk K (Itl K.f a) ok us ρ₁ H₁ := fun i ρ' ρ₂ H₂ h₂ x w R2 o => by
  obtain ⟨xs, s, q⟩ := r ρ' ρ₂ H₂ h₂ x w R2 o
  refine ⟨fun u e => ?_, fun l => ⟨xs, s, by rw [← q.length]; exact l⟩⟩
  obtain ⟨v, e1, r1⟩ := q.get e
  refine ⟨⟨xs, v, s, e1⟩, ?_⟩
  rintro y H₃ ⟨rfl, hy⟩
  have := hy xs s
  rw [e1] at this; cases this
  exact ⟨Ext.refl, R2, r1⟩
theorem walkT {ok : Hu → Prop} {us : List U} {a : Addr} (r : Row K (fun H a xs => SqT K.f H a xs) ok us a ρ₁ H₁) : Walk K (Itt K.f a) ok us ρ₁ H₁ := fun i ρ' ρ₂ H₂ h₂ x w R2 o => by
  obtain ⟨xs, s, q⟩ := r ρ' ρ₂ H₂ h₂ x w R2 o
  refine ⟨fun u e => ?_, fun l => ⟨xs, s, by rw [← q.length]; exact l⟩⟩
  obtain ⟨v, e1, r1⟩ := q.get e
  refine ⟨⟨xs, v, s, e1⟩, ?_⟩
  rintro y H₃ ⟨rfl, hy⟩
  have := hy xs s
  rw [e1] at this; cases this
  exact ⟨Ext.refl, R2, r1⟩
theorem enumU_get : ∀ (us : List U) (n i : Nat), (enumU n us)[i]? = (us[i]?).map fun u => .tup [.int ((n + i : Nat) : Int), u]
  | [], _, _ => rfl
  | u :: us, n, 0 => by simp [enumU]
  | u :: us, n, i + 1 => by
    have := enumU_get us (n + 1) i
    simp only [enumU, List.getElem?_cons_succ, this]
    have e : n + 1 + i = n + (i + 1) := by omega
    rw [e]
theorem enumU_length : ∀ (us : List U) (n : Nat), (enumU n us).length = us.length
  | [], _ => rfl
  | u :: us, n => by simp [enumU, enumU_length us (n + 1)]
theorem pair_rv {T : Addr} {i : Nat} {u : U} {v : V} (R : Rl K H₂ ρ₂ h₂) (n : H₂ T = none) (r : RV K H₂ ρ₂ u v) : RV K (upd H₂ T (.tup [.int (i : Nat), v])) ρ₂ (.tup [.int (i : Nat), u]) (.ref T) :=
  .tup (.inl (.inl upd_same)) (by show 2 ≤ sizeLine; decide) (.cons (.int _) (.cons (r.new R n) .nil))
theorem walkE {ok : Hu → Prop} {us : List U} {a : Addr} (r : Row K (fun H a xs => SqL K.f H a xs) ok us a ρ₁ H₁) : Walk K (Ite K.f a) ok (enumU 0 us) ρ₁ H₁ := fun i ρ' ρ₂ H₂ h₂ x w R2 o => by
  obtain ⟨xs, s, q⟩ := r ρ' ρ₂ H₂ h₂ x w R2 o
  refine ⟨fun u e => ?_, fun l => ⟨xs, s, by rw [← q.length, ← enumU_length us 0]; exact l⟩⟩
  rw [enumU_get, Option.map_eq_some_iff] at e
  obtain ⟨w', e, rfl⟩ := e
  obtain ⟨v, e1, r1⟩ := q.get e
  refine ⟨⟨xs, v, s, e1⟩, ?_⟩
  rintro y H₃ ⟨T, v', rfl, n, rfl, hy⟩
  have := hy xs s
  rw [e1] at this; cases this
  rw [Nat.zero_add]
  exact ⟨Ext.new n, R2.new n, pair_rv R2 n r1⟩
theorem walkET {ok : Hu → Prop} {us : List U} {a : Addr} (r : Row K (fun H a xs => SqT K.f H a xs) ok us a ρ₁ H₁) : Walk K (IteT K.f a) ok (enumU 0 us) ρ₁ H₁ := fun i ρ' ρ₂ H₂ h₂ x w R2 o => by
  obtain ⟨xs, s, q⟩ := r ρ' ρ₂ H₂ h₂ x w R2 o
  refine ⟨fun u e => ?_, fun l => ⟨xs, s, by rw [← q.length, ← enumU_length us 0]; exact l⟩⟩
  rw [enumU_get, Option.map_eq_some_iff] at e
  obtain ⟨w', e, rfl⟩ := e
  obtain ⟨v, e1, r1⟩ := q.get e
  refine ⟨⟨xs, v, s, e1⟩, ?_⟩
  rintro y H₃ ⟨T, v', rfl, n, rfl, hy⟩
  have := hy xs s
  rw [e1] at this; cases this
  rw [Nat.zero_add]
  exact ⟨Ext.new n, R2.new n, pair_rv R2 n r1⟩
theorem rngU_get (lo : Int) (n i : Nat) : (rngU lo n)[i]? = if i < n then some (.int (lo + (i : Nat))) else none := by
  unfold rngU
  rw [List.getElem?_map]
  by_cases l : i < n
  · rw [if_pos l, List.getElem?_range l]; rfl
  · rw [if_neg l, List.getElem?_eq_none (by simpa using l)]; rfl
theorem walkR {lo : Int} {n : Nat} : Walk K (Itr lo n) (fun _ => True) (rngU lo n) ρ₁ H₁ := fun i ρ' ρ₂ H₂ h₂ x w R2 o => by
  refine ⟨fun u e => ?_, fun l => ?_⟩
  · rw [rngU_get] at e
    by_cases l : i < n
    · rw [if_pos l] at e; cases e
      refine ⟨l, ?_⟩
      rintro y H₃ ⟨rfl, rfl⟩
      exact ⟨Ext.refl, R2, .int _⟩
    · rw [if_neg l] at e; cases e
  · show n ≤ i
    simpa [rngU] using l
theorem walkS {z : Str} : Walk K (Its z) (fun _ => True) (strU z) ρ₁ H₁ := fun i ρ' ρ₂ H₂ h₂ x w R2 o => by
  refine ⟨fun u e => ?_, fun l => ?_⟩
  · unfold strU at e
    rw [List.getElem?_map, Option.map_eq_some_iff] at e
    obtain ⟨c, e, rfl⟩ := e
    have l : i < z.cps.size := by
      have := (List.getElem?_eq_some_iff.mp e).1
      simpa using this
    refine ⟨l, ?_⟩
    rintro y H₃ ⟨rfl, c', e', rfl⟩
    have : c' = c := by
      rw [Array.getElem?_toList] at e
      rw [e] at e'; cases e'; rfl
    subst this
    exact ⟨Ext.refl, R2, .str _ (by show 1 ≤ sizeLine; decide)⟩
  · show z.cps.size ≤ i
    simpa [strU] using l

/-! ### targets -/
theorem wipe_set_in {σ : St} {i : Nat} {v : Option V} : ∀ {vs : List Nat}, i ∈ vs → L2.wipe (σ.set i v) vs = L2.wipe σ vs
  | [], m => by cases m
  | w :: vs, m => by
    unfold L2.wipe
    by_cases hm : i ∈ vs
    · rw [wipe_set_in hm]
    · have : i = w := by
        rcases List.mem_cons.mp m with z | z
        · exact z
        · exact absurd z hm
      subst this
      have q : ∀ (us : List Nat) (τ : St), i ∉ us → L2.wipe (τ.set i v) us = (L2.wipe τ us).set i v := by
        intro us
        induction us with
        | nil => intro τ _; rfl
        | cons u us ih =>
          intro τ hn
          unfold L2.wipe
          rw [ih τ fun z => hn (List.mem_cons_of_mem _ z), List.set_comm]
          exact fun z => hn (by rw [z]; exact List.mem_cons_self)
      rw [q vs σ hm, List.set_set]
theorem wipe_wipe {σ : St} : ∀ {vs us : List Nat}, (∀ i ∈ us, i ∈ vs) → L2.wipe (L2.wipe σ us) vs = L2.wipe σ vs
  | vs, [], _ => rfl
  | vs, u :: us, h => by
    show L2.wipe ((L2.wipe σ us).set u none) vs = _
    rw [wipe_set_in (h u List.mem_cons_self), wipe_wipe fun i m => h i (List.mem_cons_of_mem _ m)]
end
end Pl
set_option Elab.async false
set_option linter.all false
set_option maxRecDepth 100000
set_option maxHeartbeats 1999999
/-! Pl: expressions. -/
namespace Pl
open PySem PySem.Spec L2
section
variable {K : Kw} {H H' H₁ H₂ : Hp} {ρ ρ' ρ₁ ρ₂ : Loc} {h h₁ h₂ : Hu} {g : Sg} {σ : St} {X : Cx} {e : Expr} {F : CallT} {ex : Ex → Sg → Hu → Prop} {k : Nat} {c : Sc}

theorem CtxOk.vis (C : CtxOk F k X c) {x : Str} (h : visB c.sc x = true) : Vis X.env.scope x := by
  rw [C.sc]
  unfold visB at h
  unfold Vis
  split at h <;> simp_all
theorem CtxOk.gl (C : CtxOk F k X c) {x : Str} (h : glB c.sc x = true) : Gl X x := by
  show X.env.scope.names.lookup x = some .globalImplicit
  rw [C.sc]
  unfold glB at h
  split at h <;> simp_all
theorem CtxOk.loc (C : CtxOk F k X c) {x : Str} (h : locB c.sc x = true) : L2.Loc X.env.scope x := by
  rw [C.sc]
  unfold locB at h
  unfold L2.Loc
  split at h <;> simp_all
theorem CtxOk.lcl (C : CtxOk F k X c) {x : Str} (h : isLocal c.sc x = true) : X.env.scope.names.lookup x = some .local := by
  rw [C.sc]
  unfold isLocal at h
  split at h <;> simp_all
theorem CtxOk.fnl (C : CtxOk F k X c) {x : Str} (h : (c.fn x || isLocal c.sc x) = true) : X.fn x = true ∨ X.env.scope.names.lookup x = some .local := by
  rcases Bool.or_eq_true_iff.mp h with q | q
  · exact .inl (by rw [C.fn]; exact q)
  · exact .inr (C.lcl q)
theorem CtxOk.nd' (C : CtxOk F k X c) : X.N.Nodup := by rw [C.N]; exact C.nd
theorem CtxOk.at_ (C : CtxOk F k X c) {i : Nat} {x : Str} (h : c.N[i]? = some x) : X.N[i]? = some x := by rw [C.N]; exact h
theorem CtxOk.hu (C : CtxOk F k X c) : X.A.units + 65 < cLine := by have := C.room.un; omega
theorem CtxOk.blk (C : CtxOk F k X c) {scope : Scope} (s : Shared) (H : Hp) (Ca : Addr) (cl : List (Str × Addr)) (fp : List Addr) (kd : scope.kind = .function) : CtxOk F k (X.blk s H scope (compEnvC scope cl Ca X.env) fp) (c.blk scope) where
  N := C.N
  sc := by
    show relabel scope X.env = relS scope c.sc
    rw [← C.sc]; rfl
  fn := rfl
  nd := C.nd
  calm := C.calm
  room := C.room
  xe := rfl
  kind := kd
  bi := C.bi
  fu := C.fu
theorem dbg_of {x : Str} (h : notDbg x = true) : (x == ("__debug__" : Str)) = false ∧ (x == ("__classdict__" : Str)) = false ∧ x ≠ "__name__" := by
  unfold notDbg at h
  simp only [Bool.and_eq_true, Bool.not_eq_true'] at h
  exact ⟨h.1.1, h.1.2, fun z => by have := h.2; rw [z] at this; simp at this⟩

/-- an expression whose test is its value's truth -/
theorem gen_ok {f : RE} (p : PE X e (canE X.kw f)) (he : ∀ whole, isTrue e X.env whole = (do let v ← whole; standAt e.pos; holding [v] (truthy v))) : PE X e (canE X.kw (gen f).e) ∧ PT X e (canB X.kw (gen f).b) :=
  ⟨p, (pt_truth p he).imp fun σ H Q ⟨ρ, g, h, q, R, S, w, P⟩ => ⟨ρ, g, h, _, R, S, w, fun u h' v H' ρ' x R' r ⟨b, e1, e2⟩ => ⟨b, tru_u R' r e1, P b h' H' ρ' x R' e2⟩⟩⟩
/-- the values, one from another -/
theorem post1 {q : U → Hu → QE → Prop} {Qu : QE} {P : V → Hp → Prop} (hP : ∀ u h' v H' ρ', Ext ρ H ρ' H' → Rl K H' ρ' h' → RV K H' ρ' u v → q u h' Qu → P v H') : PostE K ρ H (fun u h' => q u h' Qu) P := hP
theorem bi_cases (f : Bi) : (∃ id, biVal f = .builtin id) ∨ ∃ T, biVal f = .type T := by
  cases f <;> first | exact .inl ⟨_, rfl⟩ | exact .inr ⟨_, rfl⟩
theorem bi_boot (f : Bi) : bootBuiltins (biName f) = some (biVal f) := by
  cases f <;> decide +kernel
theorem bi_nm (f : Bi) : biName f ≠ "__name__" ∧ (biName f == ("__debug__" : Str)) = false := by
  cases f <;> exact ⟨by decide +kernel, by decide +kernel⟩
theorem bi_mem (f : Bi) : biName f ∈ biNames := by
  cases f <;> simp [biName, biNames]
theorem is_mem : ("isinstance" : Str) ∈ biNames := by simp [biNames]
theorem rg_mem : ("range" : Str) ∈ biNames := by simp [biNames]
theorem en_mem : ("enumerate" : Str) ∈ biNames := by simp [biNames]
theorem ty_mem (t : Ty) : (Str.ofString (tyName t)) ∈ biNames := by
  cases t <;> simp [tyName, biNames]
theorem ty_boot (t : Ty) : bootBuiltins (Str.ofString (tyName t)) = some (.type (tyName t)) := by
  cases t <;> decide +kernel
theorem ty_nm (t : Ty) : Str.ofString (tyName t) ≠ "__name__" ∧ (Str.ofString (tyName t) == ("__debug__" : Str)) = false := by
  cases t <;> exact ⟨by decide +kernel, by decide +kernel⟩
theorem pe_cst {u : U} (h : okE c e (.cst u) = true) : PE X e (canE X.kw fun _ h Q => Q u h) ∧ ∀ whole, isTrue e X.env whole = (do let v ← whole; standAt e.pos; holding [v] (truthy v)) := by
  unfold okE at h
  split at h
  · exact ⟨pe_non.imp fun σ H Q ⟨ρ, g, h, q, R, S, w, P⟩ => P.now R .non w, fun _ => rfl⟩
  · rename_i b _ _ b'
    have : b = b' := by simpa using h
    subst this
    exact ⟨pe_bl.imp fun σ H Q ⟨ρ, g, h, q, R, S, w, P⟩ => P.now R (.bl _) w, fun _ => rfl⟩
  · rename_i i _ _ i'
    have : i = i' := by simpa using h
    subst this
    exact ⟨pe_int.imp fun σ H Q ⟨ρ, g, h, q, R, S, w, P⟩ => P.now R (.int _) w, fun _ => rfl⟩
  · rename_i x _ _ x'
    simp only [Bool.and_eq_true, decide_eq_true_eq] at h
    obtain ⟨rfl, hl⟩ := h
    exact ⟨pe_str.imp fun σ H Q ⟨ρ, g, h, q, R, S, w, P⟩ => P.now R (.str _ hl) w, fun _ => rfl⟩
  · cases h
end
end Pl
set_option Elab.async false
set_option linter.all false
set_option maxRecDepth 100000
set_option maxHeartbeats 1999999
/-! Pl: one lemma a construct. -/
namespace Pl
open PySem PySem.Spec L2
section
variable {X : Cx} {F : CallT} {ex : Ex → Sg → Hu → Prop} {k : Nat} {c : Sc} {l r s e : Expr} {pos : Pos} {fa fb fc : RE} {ba bb bc : RB}

theorem h_bin {op : Bo} {m : Bool} (ha : PE X l (canE X.kw fa)) (hb : PE X r (canE X.kw fb)) : PE X (.BinOp l (opOf op) r pos) (canE X.kw fun g h Q => fa g h fun x h1 => fb g h1 fun y h2 => binR op m x y h2 Q) :=
  (pe_op (op_bin op m) ha hb).imp fun σ H Q ⟨ρ, g, h, q, R, S, w, P⟩ => ⟨ρ, g, h, _, R, S, w, fun u h1 v H1 ρ1 x1 R1 r1 w1 => ⟨ρ1, g, h1, _, R1, S.mono R x1, w1, fun u2 h2 v2 H2 ρ2 x2 R2 r2 w2 =>
    ⟨ρ2, u, u2, h2, q, R2, r1.mono R1 x2, r2, w2, P.mono (x1.trans x2)⟩⟩⟩
theorem h_neg (ha : PE X l (canE X.kw fa)) : PE X (.UnaryOp .USub l pos) (canE X.kw fun g h Q => fa g h fun x h1 => ∃ i, x = .int i ∧ Q (.int (-i)) h1) :=
  (pe_un un_neg ha).imp fun σ H Q ⟨ρ, g, h, q, R, S, w, P⟩ => ⟨ρ, g, h, _, R, S, w, fun u h1 v H1 ρ1 x1 R1 r1 ⟨i, e, w1⟩ => by
    subst e
    cases r1
    exact ⟨i, rfl, (P.mono x1).now R1 (.int _) w1⟩⟩
theorem h_not (ha : PE X l (canE X.kw fa)) : PE X (.UnaryOp .Not l pos) (canE X.kw fun g h Q => fa g h fun x h1 => ∃ b, tru h1 x = some b ∧ Q (.bl (!b)) h1) :=
  (pe_notT ha).imp fun σ H Q ⟨ρ, g, h, q, R, S, w, P⟩ => ⟨ρ, g, h, _, R, S, w, fun u h1 v H1 ρ1 x1 R1 r1 ⟨b, e, w1⟩ => ⟨b, tru_u R1 r1 e, (P.mono x1).now R1 (.bl _) w1⟩⟩
theorem h_notB (ha : PT X l (canB X.kw ba)) : PT X (.UnaryOp .Not l pos) (canB X.kw fun g h Q => ba g h fun b h1 => Q (!b) h1) :=
  (pt_not ha).imp fun σ H Q ⟨ρ, g, h, q, R, S, w, P⟩ => ⟨ρ, g, h, _, R, S, w, fun b h1 H1 ρ1 x1 R1 w1 => P (!b) h1 H1 ρ1 x1 R1 w1⟩
theorem h_cmp (C : CtxOk F k X c) {op : Co} (ha : PE X l (canE X.kw fa)) (hb : PE X r (canE X.kw fb)) (hm : behindInMarks (cOf op) r = false) :
    PE X (.Compare l [cOf op] [r] pos) (canE X.kw fun g h Q => fa g h fun x h1 => fb g h1 fun y h2 => cmpR op x y h2 Q) ∧
    PT X (.Compare l [cOf op] [r] pos) (canB X.kw fun g h Q => fa g h fun x h1 => fb g h1 fun y h2 => cmpR op x y h2 fun x h1 => ∃ b, x = .bl b ∧ Q b h1) :=
  ⟨(pe_cmpR (op_cmp C.hu op) ha hb hm).imp fun σ H Q ⟨ρ, g, h, q, R, S, w, P⟩ => ⟨ρ, g, h, _, R, S, w, fun u h1 v H1 ρ1 x1 R1 r1 w1 => ⟨ρ1, g, h1, _, R1, S.mono R x1, w1, fun u2 h2 v2 H2 ρ2 x2 R2 r2 w2 =>
    ⟨ρ2, u, u2, h2, q, R2, r1.mono R1 x2, r2, w2, P.mono (x1.trans x2)⟩⟩⟩,
   (pt_cmpR (op_cmp C.hu op) ha hb hm).imp fun σ H Q ⟨ρ, g, h, q, R, S, w, P⟩ => ⟨ρ, g, h, _, R, S, w, fun u h1 v H1 ρ1 x1 R1 r1 w1 => ⟨ρ1, g, h1, _, R1, S.mono R x1, w1, fun u2 h2 v2 H2 ρ2 x2 R2 r2 w2 =>
    ⟨ρ2, u, u2, h2, _, R2, r1.mono R1 x2, r2, w2, fun u3 h3 v3 H3 ρ3 x3 R3 r3 ⟨b, e, w3⟩ => by
      subst e
      cases r3
      exact ⟨b, rfl, P b h3 H3 ρ3 (x1.trans (x2.trans x3)) R3 w3⟩⟩⟩⟩⟩
theorem h_cmp2 (C : CtxOk F k X c) {op op' : Co} (ha : PE X l (canE X.kw fa)) (hb : PE X r (canE X.kw fb)) (hc : PE X s (canE X.kw fc)) (hm : lastMarks [cOf op, cOf op'] [r, s] = false) :
    PE X (.Compare l [cOf op, cOf op'] [r, s] pos) (canE X.kw (genB (cmp2R op op' fa fb fc)).e) ∧ PT X (.Compare l [cOf op, cOf op'] [r, s] pos) (canB X.kw (genB (cmp2R op op' fa fb fc)).b) := by
  have key : ∀ σ H Q, canE X.kw (cmp2R op op' fa fb fc) σ H Q → tChain (rCmp X.kw op) (rCmp X.kw op') (canE X.kw fa) (canE X.kw fb) (canE X.kw fc) σ H Q := fun σ H Q ⟨ρ, g, h, q, R, S, w, P⟩ =>
    ⟨ρ, g, h, _, R, S, w, fun u h1 v H1 ρ1 x1 R1 r1 w1 => ⟨ρ1, g, h1, _, R1, S.mono R x1, w1, fun u2 h2 v2 H2 ρ2 x2 R2 r2 w2 =>
      ⟨ρ2, u, u2, h2, _, R2, r1.mono R1 x2, r2, w2, fun u3 h3 v3 H3 ρ3 x3 R3 r3 ⟨b, e, w3⟩ => by
        subst e
        cases r3
        refine ⟨b, rfl, ?_⟩
        have x13 := x1.trans (x2.trans x3)
        cases b with
        | true => exact ⟨ρ3, g, h3, _, R3, S.mono R x13, w3, fun u4 h4 v4 H4 ρ4 x4 R4 r4 w4 => ⟨ρ4, u2, u4, h4, q, R4, r2.mono R2 (x3.trans x4), r4, w4, P.mono (x13.trans x4)⟩⟩
        | false => exact (P.mono x13).now R3 (.bl _) w3⟩⟩⟩
  refine ⟨(pe_chain (op_cmp C.hu op) (op_cmp C.hu op') ha hb hc hm).imp key, (pt_chain (op_cmp C.hu op) (op_cmp C.hu op') ha hb hc hm).imp fun σ H Q ⟨ρ, g, h, q, R, S, w, P⟩ => ?_⟩
  exact key σ H _ ⟨ρ, g, h, _, R, S, w, fun u3 h3 v3 H3 ρ3 x3 R3 r3 ⟨b, e, w3⟩ => by
      subst e
      cases r3
      exact ⟨b, rfl, P b h3 H3 ρ3 x3 R3 w3⟩⟩
theorem pt_ifExp {cnd : Expr} {tc ta tb : TT} (hc : PT X cnd tc) (ha : PT X l ta) (hb : PT X r tb) : PT X (.IfExp cnd l r pos) (fun σ H Q => tc σ H fun d H1 => if d = true then ta σ H1 Q else tb σ H1 Q) := by
  refine ⟨fun pins s σ H Q I h => ?_⟩
  refine PyProof.Rows.isTrue_IfExp (thn (hc.run pins s σ H _ I h) fun d s1 ⟨H1, I1, q1⟩ => ?_)
  cases d with
  | true => exact ha.run pins s1 σ H1 Q I1 q1
  | false => exact hb.run pins s1 σ H1 Q I1 q1
theorem h_ife {cnd : Expr} (hc : PT X cnd (canB X.kw bc)) (ha : PE X l (canE X.kw fa)) (hb : PE X r (canE X.kw fb)) : PE X (.IfExp cnd l r pos) (canE X.kw fun g h Q => bc g h fun k h1 => if k = true then fa g h1 Q else fb g h1 Q) :=
  (pe_ifExp hc ha hb).imp fun σ H Q ⟨ρ, g, h, q, R, S, w, P⟩ => ⟨ρ, g, h, _, R, S, w, fun b h1 H1 ρ1 x1 R1 w1 => by
    cases b with
    | true => exact ⟨ρ1, g, h1, q, R1, S.mono R x1, w1, P.mono x1⟩
    | false => exact ⟨ρ1, g, h1, q, R1, S.mono R x1, w1, P.mono x1⟩⟩
theorem h_ifeB {cnd : Expr} (hc : PT X cnd (canB X.kw bc)) (ha : PT X l (canB X.kw ba)) (hb : PT X r (canB X.kw bb)) : PT X (.IfExp cnd l r pos) (canB X.kw fun g h Q => bc g h fun k h1 => if k = true then ba g h1 Q else bb g h1 Q) :=
  (pt_ifExp hc ha hb).imp fun σ H Q ⟨ρ, g, h, q, R, S, w, P⟩ => ⟨ρ, g, h, _, R, S, w, fun b h1 H1 ρ1 x1 R1 w1 => by
    cases b with
    | true => exact ⟨ρ1, g, h1, q, R1, S.mono R x1, w1, P.mono x1⟩
    | false => exact ⟨ρ1, g, h1, q, R1, S.mono R x1, w1, P.mono x1⟩⟩
theorem h_ix (C : CtxOk F k X c) (ha : PE X l (canE X.kw fa)) (hb : PE X r (canE X.kw fb)) (hs : PlainIx r) : PE X (.Subscript l r pos) (canE X.kw fun g h Q => fa g h fun x h1 => fb g h1 fun y h2 => ixR x y h2 Q) :=
  (pe_ix (ix_u C.hu) ha hb hs).imp fun σ H Q ⟨ρ, g, h, q, R, S, w, P⟩ => ⟨ρ, g, h, _, R, S, w, fun u h1 v H1 ρ1 x1 R1 r1 w1 => ⟨ρ1, g, h1, _, R1, S.mono R x1, w1, fun u2 h2 v2 H2 ρ2 x2 R2 r2 w2 =>
    ⟨ρ2, u, u2, h2, q, R2, r1.mono R1 x2, r2, w2, P.mono (x1.trans x2)⟩⟩⟩
theorem h_sl {m : Bool} {lo hi : Option Expr} {p2 : Pos} {fl fh : Sg → Hu → (Option Int → Hu → Prop) → Prop} (ha : PE X l (canE X.kw fa)) (hl : PO X lo (canO X.kw fl)) (hh : PO X hi (canO X.kw fh)) :
    PE X (.Subscript l (.Slice lo hi none p2) pos) (canE X.kw fun g h Q => fa g h fun x h1 => fl g h1 fun a h2 => fh g h2 fun b h3 => slR m x a b h3 Q) :=
  (pe_slice (sl_u m) ha hl hh).imp fun σ H Q ⟨ρ, g, h, q, R, S, w, P⟩ => ⟨ρ, g, h, _, R, S, w, fun u h1 v H1 ρ1 x1 R1 r1 w1 => ⟨ρ1, g, h1, _, R1, S.mono R x1, w1, fun o2 h2 H2 ρ2 x2 R2 w2 =>
    ⟨ρ2, g, h2, _, R2, S.mono R (x1.trans x2), w2, fun o3 h3 H3 ρ3 x3 R3 w3 => ⟨ρ3, u, h3, q, R3, r1.mono R1 (x2.trans x3), w3, P.mono (x1.trans (x2.trans x3))⟩⟩⟩⟩
theorem h_oN : PO X none (canO X.kw fun _ h Q => Q none h) := po_none.imp fun σ H Q ⟨ρ, g, h, q, R, S, w, P⟩ => P none h H ρ Ext.refl R w
theorem h_oS (ha : PE X l (canE X.kw fa)) : PO X (some l) (canO X.kw fun g h Q => fa g h fun x h1 => ∃ i, x = .int i ∧ Q (some i) h1) :=
  (po_some ha).imp fun σ H Q ⟨ρ, g, h, q, R, S, w, P⟩ => ⟨ρ, g, h, _, R, S, w, fun u h1 v H1 ρ1 x1 R1 r1 ⟨i, e, w1⟩ => by
    subst e
    cases r1
    exact ⟨i, rfl, P (some i) h1 H1 ρ1 x1 R1 w1⟩⟩
section
variable {es : List Expr} {f1 f2 : Sg → Hu → (List U → Hu → Prop) → Prop}
theorem h_nil : PA X [] (canA X.kw fun _ h Q => Q [] h) := pa_nil.imp fun σ H Q ⟨ρ, g, h, q, R, S, w, P⟩ => P [] h [] H ρ Ext.refl R .nil w
theorem h_cons (ha : PE X l (canE X.kw fa)) (hr : PA X es (canA X.kw f1)) (hs : noStar l = true) : PA X (l :: es) (canA X.kw fun g h Q => fa g h fun x h1 => f1 g h1 fun xs h2 => Q (x :: xs) h2) :=
  (pa_cons ha hr (starEach_of hs)).imp fun σ H Q ⟨ρ, g, h, q, R, S, w, P⟩ => ⟨ρ, g, h, _, R, S, w, fun u h1 v H1 ρ1 x1 R1 r1 w1 => ⟨ρ1, g, h1, _, R1, S.mono R x1, w1, fun us h2 vs H2 ρ2 x2 R2 r2 w2 =>
    P (u :: us) h2 (v :: vs) H2 ρ2 (x1.trans x2) R2 (.cons (r1.mono R1 x2) r2) w2⟩⟩
theorem h_tup {j : Nat} (hr : PA X es (canA X.kw f1)) : PE X (.Tuple es j pos) (canE X.kw fun g h Q => f1 g h fun us h1 => us.length ≤ sizeLine ∧ Q (.tup us) h1) :=
  (pe_tup hr).imp fun σ H Q ⟨ρ, g, h, q, R, S, w, P⟩ => ⟨ρ, g, h, _, R, S, w, fun us h1 vs H1 ρ1 x1 R1 r1 ⟨l1, w1⟩ => ⟨by rw [← r1.length]; exact l1, fun p n => (P.mono x1).tup R1 l1 r1 n w1⟩⟩
theorem h_lst {m : Bool} (hr : PA X es (canA X.kw f1)) : PE X (.List es pos) (canE X.kw fun g h Q => f1 g h fun us h1 => us.length ≤ sizeLine ∧ mkL m us h1 Q) :=
  (pe_lst hr).imp fun σ H Q ⟨ρ, g, h, q, R, S, w, P⟩ => ⟨ρ, g, h, _, R, S, w, fun us h1 vs H1 ρ1 x1 R1 r1 ⟨l1, w1⟩ => ⟨by rw [← r1.length]; exact l1, fun p n => (P.mono x1).mk R1 l1 r1 n w1⟩⟩
theorem h_bi (C : CtxOk F k X c) {f : Bi} {m : Bool} {p : Pos} (hr : PA X (l :: es) (canA X.kw f1)) (hg : glB c.sc (biName f) = true) (hs : ∀ e ∈ l :: es, noStar e = true) :
    PE X (.Call (.Name (biName f) p) (l :: es) [] pos) (canE X.kw fun g h Q => f1 g h fun us h1 => biR f m us h1 Q) := by
  have go : ∀ σ H Q, canE X.kw (fun g h Q => f1 g h fun us h1 => biR f m us h1 Q) σ H Q → tCB (rBi X.kw f m) (canA X.kw f1) σ H Q := fun σ H Q ⟨ρ, g, h, q, R, S, w, P⟩ => ⟨ρ, g, h, _, R, S, w, fun us h1 vs H1 ρ1 x1 R1 r1 w1 => ⟨ρ1, us, h1, q, R1, r1, w1, P.mono x1⟩⟩
  have cr := call_bi (X := X) C.calm f m
  have hv := bi_boot f
  rcases bi_cases f with ⟨id, e⟩ | ⟨T, e⟩
  · rw [e] at cr hv
    exact (pe_callB cr (C.gl hg) (C.bi _ (bi_mem f)) hv hr (bi_nm f).1 (bi_nm f).2 (starEach_of (hs l List.mem_cons_self)) (plain_of fun e m => hs e (List.mem_cons_of_mem _ m))).imp go
  · rw [e] at cr hv
    exact (pe_callTy cr (C.gl hg) (C.bi _ (bi_mem f)) hv hr (bi_nm f).1 (bi_nm f).2 (starEach_of (hs l List.mem_cons_self)) (plain_of fun e m => hs e (List.mem_cons_of_mem _ m))).imp go
theorem h_isi (C : CtxOk F k X c) {t : Ty} {p p2 : Pos} (ha : PE X l (canE X.kw fa)) (hg : glB c.sc "isinstance" = true) (hg2 : glB c.sc (Str.ofString (tyName t)) = true) (hs : noStar l = true) :
    PE X (.Call (.Name "isinstance" p) [l, .Name (Str.ofString (tyName t)) p2] [] pos) (canE X.kw fun g h Q => fa g h fun x h1 => isiR t x h1 Q) := by
  have hn : PE X (.Name (Str.ofString (tyName t)) p2) (tC (.ty (tyName t))) := pe_bltn (C.gl hg2) (C.bi _ (ty_mem t)) (ty_boot t) rfl (ty_nm t).1 (ty_nm t).2
  have hA : PA X [l, .Name (Str.ofString (tyName t)) p2] (tCons (canE X.kw fa) (tCons (tC (.ty (tyName t))) tNil)) := pa_cons ha (pa_cons hn pa_nil (starEach_of rfl)) (starEach_of hs)
  refine (pe_callB (call_is t) (C.gl hg) (C.bi _ is_mem) (by decide +kernel) hA (by decide +kernel) (by decide +kernel) (starEach_of hs) (plain_of fun e m => ?_)).imp fun σ H Q ⟨ρ, g, h, q, R, S, w, P⟩ => ⟨ρ, g, h, _, R, S, w, fun u h1 v H1 ρ1 x1 R1 r1 w1 => ⟨ρ1, u, v, h1, q, rfl, R1, r1, w1, P.mono x1⟩⟩
  rw [List.mem_singleton.mp m]
  rfl
theorem h_call (C : CtxOk F k X c) (hex : ex = fun _ _ _ => False) {f : Str} {p : Pos} (hr : PA X (l :: es) (canA X.kw f1)) (hf : (c.fs f).isSome = true) (hg : glB c.sc f = true) (hd : notDbg f = true) (hs : ∀ e ∈ l :: es, noStar e = true) :
    PE X (.Call (.Name f p) (l :: es) [] pos) (canE X.kw fun g h Q => f1 g h fun us h1 => F f us h1 Q fun e h2 => ex e g h2) := by
  obtain ⟨n, hn⟩ := Option.isSome_iff_exists.mp hf
  obtain ⟨a, fd, ps, e1, e2, e3, e4⟩ := C.fu f n hn
  refine (pe_call e2 C.room (C.gl hg) e1 e3 e4 .nil L2.pass0 hr (dbg_of hd).1 (starEach_of (hs l List.mem_cons_self)) (plain_of fun e m => hs e (List.mem_cons_of_mem _ m))).imp fun σ H Q ⟨ρ, g, h, q, R, S, w, P⟩ =>
    ⟨ρ, g, h, _, R, S, w, fun us h1 vs H1 ρ1 x1 R1 r1 w1 => ⟨ρ1, us, h1, q, R1, by rw [List.append_nil]; exact r1, ?_, P.mono x1⟩⟩
  subst hex
  exact w1
theorem h_call0 (C : CtxOk F k X c) (hex : ex = fun _ _ _ => False) {f : Str} {p : Pos} (hf : (c.fs f).isSome = true) (hg : glB c.sc f = true) (hd : notDbg f = true) :
    PE X (.Call (.Name f p) [] [] pos) (canE X.kw fun g h Q => F f [] h Q fun e h2 => ex e g h2) := by
  obtain ⟨n, hn⟩ := Option.isSome_iff_exists.mp hf
  obtain ⟨a, fd, ps, e1, e2, e3, e4⟩ := C.fu f n hn
  refine (pe_call0 e2 C.room (C.gl hg) e1 e3 e4 .nil L2.pass0 (dbg_of hd).1).imp fun σ H Q ⟨ρ, g, h, q, R, S, w, P⟩ =>
    ⟨ρ, [], h, q, R, .nil, ?_, P⟩
  subst hex
  exact w
theorem mt_u (hu : X.A.units + 65 < cLine) (f : Mt) : MtR X (mtId f) (rMt X.kw f) := by
  cases f with
  | append => exact mt_app
  | index => exact mt_idx hu
  | pop0 => exact mt_pop0
  | pop1 => exact mt_pop1
  | extend => exact mt_ext
  | insert => exact mt_ins
  | get1 => exact mt_get hu _ (.inl rfl)
  | get2 => exact mt_get hu _ (.inr rfl)
def mtTn : Mt → String
  | .get1 => "dict" | .get2 => "dict" | _ => "list"
def mtTp (K : PySem.W.Frag) : Mt → V → Hp → Prop
  | .get1 => tyD | .get2 => tyD | _ => tyL K
theorem mtTp_ok (f : Mt) : TyOk X (mtTn f) (mtTp X.K f) := by
  cases f <;> first | exact tyL_ok | exact tyD_ok
theorem mt_facts (f : Mt) : PlainAttrs (mtTn f) ∧ Slot (mtTn f) (mtName f) (mtId f) ∧ typeOf (.builtin (mtId f)) = pure (.type "method_descriptor") := by
  cases f with
  | append => exact ⟨PySem.F.plainAttrs_list, PySem.F.slot_list_append, PySem.F.type_list_append⟩
  | index => exact ⟨PySem.F.plainAttrs_list, PySem.F.slot_list_index, PySem.F.type_list_index⟩
  | pop0 => exact ⟨PySem.F.plainAttrs_list, PySem.F.slot_list_pop, PySem.F.type_list_pop⟩
  | pop1 => exact ⟨PySem.F.plainAttrs_list, PySem.F.slot_list_pop, PySem.F.type_list_pop⟩
  | extend => exact ⟨PySem.F.plainAttrs_list, PySem.F.slot_list_extend, PySem.F.type_list_extend⟩
  | insert => exact ⟨PySem.F.plainAttrs_list, PySem.F.slot_list_insert, PySem.F.type_list_insert⟩
  | get1 => exact ⟨PySem.F.plainAttrs_dict, PySem.F.slot_dict_get, PySem.F.type_dict_get⟩
  | get2 => exact ⟨PySem.F.plainAttrs_dict, PySem.F.slot_dict_get, PySem.F.type_dict_get⟩
theorem mtTy_tp {f : Mt} {H : Hp} {ρ : Loc} {h : Hu} {u : U} {v : V} (R : Rl X.kw H ρ h) (r : RV X.kw H ρ u v) (t : mtTy f u h) : mtTp X.K f v H := by
  have l : (∃ xs, lstOf h u = some xs) → tyL X.K v H := fun ⟨xs, e⟩ => by
    obtain ⟨a, ys, rfl, s1, _, _⟩ := r.lseq R e
    exact ⟨a, ys, rfl, s1⟩
  have d : (∃ kvs, dicOf h u = some kvs) → tyD v H := fun ⟨kvs, e⟩ => by
    obtain ⟨n, a, T, _, _, rfl, _, e3, _⟩ := r.dic R e
    exact ⟨a, T, rfl, e3⟩
  cases f <;> first | exact l t | exact d t
theorem base_of {o : Expr} {nm : Str} {env : Env} (hb : simpleRecv o = true) : attributeBase o nm env (eval o env) = eval o env := by
  cases o <;> first | rfl | cases hb
theorem few_of {cp : Pos} {env : Env} (hs : ∀ e ∈ l :: es, noStar e = true) (hn : (l :: es).length ≤ 2) : ((backTo cp (starEach (l :: es) env)).all (fun x => !x.1) && (backToKw cp (keywordEach [] env)).all (fun x => x.1.isSome)
      && decide ((l :: es).length + ([] : List Keyword).length + (if ([] : List Keyword).isEmpty then 0 else 1) < 30)) = true := by
  match es, hs, hn with
  | [], hs, _ =>
    rw [starEach_of (hs l List.mem_cons_self)]
    rfl
  | [r], hs, _ =>
    rw [starEach_of (hs l List.mem_cons_self), starEach_of (hs r (by simp))]
    rfl
  | _ :: _ :: _, _, hn => simp at hn
theorem h_mth (C : CtxOk F k X c) {f : Mt} {o : Expr} {ap cp : Pos} (hn : (l :: es).length = mtN f) (ho : PE X o (canE X.kw fa)) (ha : PA X (l :: es) (canA X.kw f1)) (hs : ∀ e ∈ l :: es, noStar e = true) (hb : simpleRecv o = true) (hl : (ap.endLine == cp.line) = true) :
    PE X (.Call (.Attribute o (mtName f) ap) (l :: es) [] cp) (canE X.kw fun g h Q => fa g h fun x h1 => mtTy f x h1 ∧ f1 g h1 fun us h2 => mtR f x us h2 Q) := by
  obtain ⟨p1, p2, p3⟩ := mt_facts f
  refine (pe_mg p1 p2 p3 (mt_u C.hu f) (mtTp_ok f) ho ha (base_of hb) (few_of hs (by rw [hn]; cases f <;> decide)) hl (starEach_of (hs l List.mem_cons_self)) (plain_of fun e m => hs e (List.mem_cons_of_mem _ m))).imp fun σ H Q ⟨ρ, g, h, q, R, S, w, P⟩ => ?_
  exact ⟨ρ, g, h, _, R, S, w, fun u h1 v H1 ρ1 x1 R1 r1 ⟨t1, w1⟩ => ⟨mtTy_tp R1 r1 t1, ρ1, g, h1, _, R1, S.mono R x1, w1, fun us h2 vs H2 ρ2 x2 R2 r2 w2 => ⟨ρ2, u, us, h2, q, R2, r1.mono R1 x2, r2, w2, P.mono (x1.trans x2)⟩⟩⟩
theorem h_mth0 (C : CtxOk F k X c) {f : Mt} {o : Expr} {ap cp : Pos} (ho : PE X o (canE X.kw fa)) (hb : simpleRecv o = true) (hl : (ap.endLine == cp.line) = true) :
    PE X (.Call (.Attribute o (mtName f) ap) [] [] cp) (canE X.kw fun g h Q => fa g h fun x h1 => mtTy f x h1 ∧ mtR f x [] h1 Q) := by
  obtain ⟨p1, p2, p3⟩ := mt_facts f
  refine (pe_mg0 p1 p2 p3 (mt_u C.hu f) (mtTp_ok f) ho (base_of hb) hl).imp fun σ H Q ⟨ρ, g, h, q, R, S, w, P⟩ => ?_
  exact ⟨ρ, g, h, _, R, S, w, fun u h1 v H1 ρ1 x1 R1 r1 ⟨t1, w1⟩ => ⟨mtTy_tp R1 r1 t1, ρ1, u, [], h1, q, R1, r1, .nil, w1, P.mono x1⟩⟩
end
end
end Pl
set_option Elab.async false
set_option linter.all false
set_option maxRecDepth 100000
set_option maxHeartbeats 1999999
/-! Pl: what is walked, targets, comprehensions, and/or. -/
namespace Pl
open PySem PySem.Spec L2
section
variable {X : Cx} {F : CallT} {ex : Ex → Sg → Hu → Prop} {k : Nat} {c : Sc} {l r s e : Expr} {pos : Pos} {fa fb fc : RE} {ba bb bc : RB} {tg : Expr}

/-! ### walks -/
theorem h_val (ha : PE X l (canE X.kw fa)) : PI X tg l (canI X.kw fun g h Q => fa g h fun x h1 => (∃ z, x = .str z ∧ Q (fun _ => True) (strU z) h1) ∨ ∃ xs, seqOf h1 x = some xs ∧ Q (srcOk x xs) xs h1) :=
  (pi_any ha).imp fun σ H Rr ⟨ρ, g, h, q, R, S, w, P⟩ => ⟨ρ, g, h, _, R, S, w, fun u h1 v H1 ρ1 x1 R1 r1 w1 => by
    rcases w1 with ⟨z, rfl, w1⟩ | ⟨xs, e, w1⟩
    · cases r1
      exact .inr (.inr ⟨z, rfl, P _ _ h1 _ H1 ρ1 x1 R1 walkS w1⟩)
    · obtain ⟨a, rfl, ⟨s, r⟩ | ⟨s, r⟩⟩ := r1.row R1 e
      · exact .inl ⟨a, rfl, s, P _ _ h1 _ H1 ρ1 x1 R1 (walkL r) w1⟩
      · exact .inr (.inl ⟨a, rfl, s, P _ _ h1 _ H1 ρ1 x1 R1 (walkT r) w1⟩)⟩
theorem h_rng1 (C : CtxOk F k X c) {p : Pos} (ha : PE X l (canE X.kw fa)) (hg : glB c.sc "range" = true) (hs : noStar l = true) :
    PI X tg (.Call (.Name "range" p) [l] [] pos) (canI X.kw fun g h Q => fa g h fun x h1 => ∃ j : Int, x = .int j ∧ (-(2 ^ 62) ≤ j ∧ j < 2 ^ 62) ∧ Q (fun _ => True) (rngU 0 j.toNat) h1) :=
  (pi_range1 (C.gl hg) (C.bi _ rg_mem) (pa_cons ha pa_nil (starEach_of hs)) (by rw [starEach_of hs]; rfl)).imp fun σ H Rr ⟨ρ, g, h, q, R, S, w, P⟩ => ⟨ρ, g, h, _, R, S, w, fun u h1 v H1 ρ1 x1 R1 r1 ⟨j, e, ⟨b1, b2⟩, w1⟩ => by
    subst e
    cases r1
    exact ⟨j, rfl, b1, b2, P _ _ h1 _ H1 ρ1 x1 R1 walkR w1⟩⟩
theorem h_rng2 (C : CtxOk F k X c) {p : Pos} (ha : PE X l (canE X.kw fa)) (hb : PE X r (canE X.kw fb)) (hg : glB c.sc "range" = true) (hs : noStar l = true) (hs2 : noStar r = true) :
    PI X tg (.Call (.Name "range" p) [l, r] [] pos) (canI X.kw fun g h Q => fa g h fun x h1 => fb g h1 fun y h2 => ∃ i j : Int, x = .int i ∧ y = .int j ∧ (-(2 ^ 62) ≤ i ∧ i < 2 ^ 62 ∧ -(2 ^ 62) ≤ j ∧ j < 2 ^ 62) ∧ Q (fun _ => True) (rngU i (j - i).toNat) h2) :=
  (pi_range2 (C.gl hg) (C.bi _ rg_mem) (pa_cons ha (pa_cons hb pa_nil (starEach_of hs2)) (starEach_of hs)) (by rw [starEach_of hs, starEach_of hs2]; rfl) (by rw [starEach_of hs2]; rfl)).imp fun σ H Rr ⟨ρ, g, h, q, R, S, w, P⟩ =>
    ⟨ρ, g, h, _, R, S, w, fun u h1 v H1 ρ1 x1 R1 r1 w1 => ⟨ρ1, g, h1, _, R1, S.mono R x1, w1, fun u2 h2 v2 H2 ρ2 x2 R2 r2 ⟨i, j, e1, e2, b, w2⟩ => by
      subst e1 e2
      cases r1
      cases r2
      exact ⟨i, j, rfl, b, P _ _ h2 _ H2 ρ2 (x1.trans x2) R2 walkR w2⟩⟩⟩
theorem h_enum (C : CtxOk F k X c) {p : Pos} {elts : List Expr} {kk : Nat} {tpos : Pos} (ha : PE X l (canE X.kw fa)) (hg : glB c.sc "enumerate" = true) (hs : noStar l = true) :
    PI X (.Tuple elts kk tpos) (.Call (.Name "enumerate" p) [l] [] pos) (canI X.kw fun g h Q => fa g h fun x h1 => ∃ xs, seqOf h1 x = some xs ∧ Q (srcOk x xs) (enumU 0 xs) h1) :=
  (pi_enumA (C.gl hg) (C.bi _ en_mem) (pa_cons ha pa_nil (starEach_of hs)) (by rw [starEach_of hs]; rfl)).imp fun σ H Rr ⟨ρ, g, h, q, R, S, w, P⟩ => ⟨ρ, g, h, _, R, S, w, fun u h1 v H1 ρ1 x1 R1 r1 ⟨xs, e, w1⟩ => by
    obtain ⟨a, rfl, ⟨⟨ys, s⟩, r⟩ | ⟨⟨ys, s⟩, r⟩⟩ := r1.row R1 e
    · exact ⟨a, ys, rfl, .inl ⟨s, P _ _ h1 _ H1 ρ1 x1 R1 (walkE r) w1⟩⟩
    · exact ⟨a, ys, rfl, .inr ⟨s, P _ _ h1 _ H1 ρ1 x1 R1 (walkET r) w1⟩⟩⟩

/-! ### targets -/
theorem h_nm (C : CtxOk F k X c) {x : Str} {i : Nat} (hi : c.N[i]? = some x) (hl : locB c.sc x = true) (hf : (c.fn x || isLocal c.sc x) = true) : PG X (.Name x pos) (canG X.kw [i] fun u g h Q => Q (g.set i (some u)) h) :=
  (pg_name C.nd' (C.at_ hi) (C.loc hl) (C.fnl hf)).imp fun v σ H Q ⟨u, ρ, g, h, q, R, S, r, w, P⟩ => P _ _ h H ρ Ext.refl R (S.set r) (wipe_set_in (List.mem_singleton.mpr rfl)) w
def canGs (K : Kw) (own : List Nat) (f : List U → Sg → Hu → (Sg → Hu → Prop) → Prop) : List V → St → Hp → (St → Hp → Prop) → Prop := fun vs σ H Q => ∃ us ρ g h q, Rl K H ρ h ∧ SgR K H ρ g σ ∧ RVs K H ρ us vs ∧ f us g h q ∧ PostG K ρ H own σ q Q
theorem h_tsnil : PGs X [] (canGs X.kw [] fun us g h Q => us = [] ∧ Q g h) := pgs_nil.imp fun vs σ H Q ⟨us, ρ, g, h, q, R, S, r, ⟨e, w⟩, P⟩ => by
  subst e
  cases r
  exact ⟨rfl, P _ _ h H ρ Ext.refl R S rfl w⟩
theorem h_tscons {es : List Expr} {o1 o2 : List Nat} {fT : U → Sg → Hu → (Sg → Hu → Prop) → Prop} {fTs : List U → Sg → Hu → (Sg → Hu → Prop) → Prop} (h1 : PG X e (canG X.kw o1 fT)) (h2 : PGs X es (canGs X.kw o2 fTs)) (hs : noStar e = true) :
    PGs X (e :: es) (canGs X.kw (o1 ++ o2) fun us g h Q => ∃ u r, us = u :: r ∧ fT u g h fun g1 h1 => fTs r g1 h1 Q) :=
  (pgs_cons h1 h2 (by cases e <;> first | rfl | cases hs)).imp fun vs σ H Q ⟨us, ρ, g, h, q, R, S, r, ⟨u, us', e, w⟩, P⟩ => by
    subst e
    cases r with
    | @cons _ v _ vs' r rs =>
      refine ⟨v, vs', rfl, u, ρ, g, h, _, R, S, r, w, fun g1 σ1 h1 H1 ρ1 x1 R1 S1 e1 w1 => ⟨us', ρ1, g1, h1, _, R1, S1, RVs.mono R x1 rs, w1, fun g2 σ2 h2 H2 ρ2 x2 R2 S2 e2 w2 => ?_⟩⟩
      refine P g2 σ2 h2 H2 ρ2 (x1.trans x2) R2 S2 ?_ w2
      have k1 := wipe_wipe (σ := σ2) (vs := o1 ++ o2) (us := o2) fun i m => List.mem_append_right _ m
      have k2 := wipe_wipe (σ := σ1) (vs := o1 ++ o2) (us := o2) fun i m => List.mem_append_right _ m
      have k3 := wipe_wipe (σ := σ1) (vs := o1 ++ o2) (us := o1) fun i m => List.mem_append_left _ m
      have k4 := wipe_wipe (σ := σ) (vs := o1 ++ o2) (us := o1) fun i m => List.mem_append_left _ m
      rw [← k1, e2, k2, ← k3, e1, k4]
theorem okT_star {t : T} (h : okT c e t = true) : noStar e = true := by
  cases e with
  | Starred v p => cases t <;> (unfold okT at h; first | cases h | (split at h <;> first | cases h | (rename_i q; cases q)))
  | _ => rfl
theorem okTs_star : ∀ {es : List Expr} {ts : Ts}, okTs c es ts = true → ∀ e ∈ es, noStar e = true
  | [], _, _, _, m => by cases m
  | e :: es, .nil, h, _, _ => by cases h
  | e :: es, .cons x xs, h, e', m => by
    unfold okTs at h
    simp only [Bool.and_eq_true] at h
    rcases List.mem_cons.mp m with z | z
    · rw [z]; exact okT_star h.1
    · exact okTs_star h.2 e' z
theorem okTs_len : ∀ {es : List Expr} {ts : Ts}, okTs c es ts = true → es.length = ts.len
  | [], .nil, _ => rfl
  | [], .cons _ _, h => by cases h
  | e :: es, .nil, h => by cases h
  | e :: es, .cons x xs, h => by
    unfold okTs at h
    simp only [Bool.and_eq_true] at h
    simp [Ts.len, okTs_len h.2]
theorem assignEach_len : ∀ {es : List Expr} {env : Env}, (assignEach es env).length = es.length
  | [], _ => rfl
  | e :: es, env => by
    have ih := assignEach_len (es := es) (env := env)
    cases e <;> (show (_ :: assignEach es env).length = _; simp [ih])
theorem assignEach_plain : ∀ {es : List Expr} {env : Env}, (∀ e ∈ es, noStar e = true) → (assignEach es env).findIdx? (·.1) = none
  | [], _, _ => rfl
  | e :: es, env, h => by
    have ih := assignEach_plain (es := es) (env := env) fun e' m => h e' (List.mem_cons_of_mem _ m)
    have q : assignEach (e :: es) env = (false, assign e env) :: assignEach es env := by
      have := h e List.mem_cons_self
      cases e <;> first | rfl | cases this
    rw [q, List.findIdx?_cons]
    simp [ih]
theorem h_tp (C : CtxOk F k X c) {es : List Expr} {own : List Nat} {n : Nat} {j : Nat} {fTs : List U → Sg → Hu → (Sg → Hu → Prop) → Prop} (h1 : PGs X es (canGs X.kw own fTs)) (hl : es.length = n) (hs : ∀ e ∈ es, noStar e = true) :
    PG X (.Tuple es j pos) (canG X.kw own fun u g h Q => ∃ xs, u = .tup xs ∧ xs.length = n ∧ fTs xs g h Q) := by
  refine (pg_tup (n := n) C.calm h1 (by rw [assignEach_len, hl]) (assignEach_plain hs)).imp fun v σ H Q ⟨u, ρ, g, h, q, R, S, r, ⟨xs, e, hn, w⟩, P⟩ => ?_
  subst e
  cases r with
  | @tup _ a ys s1 l1 r1 =>
    exact ⟨a, ys, rfl, s1, by rw [← r1.length, hn], xs, ρ, g, h, q, R, S, r1, w, P⟩
theorem h_sub (C : CtxOk F k X c) (ho : PE X l (canE X.kw fa)) (hi : PE X r (canE X.kw fb)) (hs : ∃ c x, okE c r x = true) : PG X (.Subscript l r pos) (canG X.kw [] fun u g h Q => fa g h fun x h1 => fb g h1 fun y h2 => setR x y u h2 fun h3 => Q g h3) := by
  have ha : ∀ v, assign (.Subscript l r pos) X.env v = (do
      let ov ← holding [v] (eval l X.env)
      let iv ← holding [v, ov] (eval r X.env)
      standAt pos
      holding [v, ov, iv] (setItem ov iv v)
      release [v, ov, iv] []) := by
    intro v
    obtain ⟨c, x, hx⟩ := hs
    cases r with
    | Slice a b s p => cases x <;> (unfold okE at hx; first | cases hx | (split at hx <;> first | cases hx | (rename_i q; cases q)))
    | _ => rfl
  refine (pg_sub ho hi (set_u C.hu) ha).imp fun v σ H Q ⟨u, ρ, g, h, q, R, S, r, w, P⟩ => ⟨ρ, g, h, _, R, S, w, fun u1 h1 v1 H1 ρ1 x1 R1 r1 w1 => ⟨ρ1, g, h1, _, R1, S.mono R x1, w1, fun u2 h2 v2 H2 ρ2 x2 R2 r2 w2 => ?_⟩⟩
  refine ⟨ρ2, u1, u2, u, h2, _, R2, r1.mono R1 x2, r2, (r.mono R x1).mono R1 x2, w2, fun h3 H3 x3 R3 w3 => ?_⟩
  exact P g σ h3 H3 ρ2 (x1.trans (x2.trans x3)) R3 (((S.mono R x1).mono R1 x2).mono R2 x3) rfl w3

/-! ### and, or -/
theorem h_bop1 {op : BoolOp} (ha : PE X l (canE X.kw fa)) : PE X (.BoolOp op [l] pos) (canE X.kw fa) := pe_one ha
theorem h_and {es : List Expr} (ha : PE X l (canE X.kw fa)) (hr : PE X (.BoolOp .And (r :: es) pos) (canE X.kw fb)) :
    PE X (.BoolOp .And (l :: r :: es) pos) (canE X.kw fun g h Q => fa g h fun x h1 => ∃ b, tru h1 x = some b ∧ if b = true then fb g h1 Q else Q x h1) :=
  (pe_andT ha hr).imp fun σ H Q ⟨ρ, g, h, q, R, S, w, P⟩ => ⟨ρ, g, h, _, R, S, w, fun u h1 v H1 ρ1 x1 R1 r1 ⟨b, e, w1⟩ => ⟨b, tru_u R1 r1 e, by
    cases b with
    | true => exact ⟨ρ1, g, h1, q, R1, S.mono R x1, w1, P.mono x1⟩
    | false => exact (P.mono x1).now R1 r1 w1⟩⟩
theorem h_or {es : List Expr} (ha : PE X l (canE X.kw fa)) (hr : PE X (.BoolOp .Or (r :: es) pos) (canE X.kw fb)) :
    PE X (.BoolOp .Or (l :: r :: es) pos) (canE X.kw fun g h Q => fa g h fun x h1 => ∃ b, tru h1 x = some b ∧ if b = false then fb g h1 Q else Q x h1) :=
  (pe_orT ha hr).imp fun σ H Q ⟨ρ, g, h, q, R, S, w, P⟩ => ⟨ρ, g, h, _, R, S, w, fun u h1 v H1 ρ1 x1 R1 r1 ⟨b, e, w1⟩ => ⟨b, tru_u R1 r1 e, by
    cases b with
    | true => exact (P.mono x1).now R1 r1 w1
    | false => exact ⟨ρ1, g, h1, q, R1, S.mono R x1, w1, P.mono x1⟩⟩⟩
theorem h_andB1 (ha : PT X l (canB X.kw ba)) : PW X (.BoolOp .And [l] pos) (canB X.kw fun g h Q => ba g h fun b h1 => if b = true then Q true h1 else Q b h1) :=
  (pw_and1 ha).imp fun σ H Q ⟨ρ, g, h, q, R, S, w, P⟩ => ⟨ρ, g, h, _, R, S, w, fun b h1 H1 ρ1 x1 R1 w1 => P b h1 H1 ρ1 x1 R1 (by cases b <;> exact w1)⟩
theorem h_orB1 (ha : PT X l (canB X.kw ba)) : PW X (.BoolOp .Or [l] pos) (canB X.kw fun g h Q => ba g h fun b h1 => if b = false then Q false h1 else Q b h1) :=
  (pw_or1 ha).imp fun σ H Q ⟨ρ, g, h, q, R, S, w, P⟩ => ⟨ρ, g, h, _, R, S, w, fun b h1 H1 ρ1 x1 R1 w1 => P b h1 H1 ρ1 x1 R1 (by cases b <;> exact w1)⟩
theorem h_andB {es : List Expr} (ha : PT X l (canB X.kw ba)) (hr : PW X (.BoolOp .And (r :: es) pos) (canB X.kw bb)) :
    PW X (.BoolOp .And (l :: r :: es) pos) (canB X.kw fun g h Q => ba g h fun b h1 => if b = true then bb g h1 Q else Q b h1) :=
  (pw_and ha hr).imp fun σ H Q ⟨ρ, g, h, q, R, S, w, P⟩ => ⟨ρ, g, h, _, R, S, w, fun b h1 H1 ρ1 x1 R1 w1 => by
    cases b with
    | true => exact ⟨ρ1, g, h1, q, R1, S.mono R x1, w1, (P.mono x1 : PostB _ _ _ _ _)⟩
    | false => exact P false h1 H1 ρ1 x1 R1 w1⟩
theorem h_orB {es : List Expr} (ha : PT X l (canB X.kw ba)) (hr : PW X (.BoolOp .Or (r :: es) pos) (canB X.kw bb)) :
    PW X (.BoolOp .Or (l :: r :: es) pos) (canB X.kw fun g h Q => ba g h fun b h1 => if b = false then bb g h1 Q else Q b h1) :=
  (pw_or ha hr).imp fun σ H Q ⟨ρ, g, h, q, R, S, w, P⟩ => ⟨ρ, g, h, _, R, S, w, fun b h1 H1 ρ1 x1 R1 w1 => by
    cases b with
    | true => exact P true h1 H1 ρ1 x1 R1 w1
    | false => exact ⟨ρ1, g, h1, q, R1, S.mono R x1, w1, (P.mono x1 : PostB _ _ _ _ _)⟩⟩
end
end Pl
set_option Elab.async false
set_option linter.all false
set_option maxRecDepth 100000
set_option maxHeartbeats 1999999
/-! Pl: ranges with a step, lists of ranges, dict displays. -/
namespace Pl
open PySem PySem.Spec L2
section
variable {X : Cx} {F : CallT} {ex : Ex → Sg → Hu → Prop} {k : Nat} {c : Sc} {l r s e : Expr} {pos : Pos} {fa fb fc : RE} {tg : Expr} {es : List Expr} {f1 : Sg → Hu → (List U → Hu → Prop) → Prop}
theorem rgC_one {i j : Int} (a : small62 i) (b : small62 j) : RgC i j 1 (j - i).toNat := ⟨by decide, by decide, small_one a.1 a.2 b.1 b.2, PyProof.Rows.rangeSize_nat i j⟩
theorem rgC_neg {i j : Int} (a : small62 i) (b : small62 j) : RgC i j (-1) (i - j).toNat := RgC.neg a.1 a.2 b.1 b.2
theorem rgR_ok {us : List U} {kk : Int → Int → Nat → Prop} {K : Kw} {H : Hp} {ρ : Loc} {vs : List V} (r : RVs K H ρ us vs) (w : rgR us kk) :
    ∃ i j c n, (vs = [.int j] ∧ i = 0 ∧ c = 1 ∨ vs = [.int i, .int j] ∧ c = 1 ∨ vs = [.int i, .int j, .int c]) ∧ RgC i j c n ∧ kk i c n := by
  unfold rgR at w
  split at w
  · rename_i j
    obtain ⟨a, w⟩ := w
    cases r with
    | cons r1 rr =>
      cases rr
      cases r1
      have := rgC_one (i := 0) (j := j) ⟨by decide, by decide⟩ a
      rw [Int.sub_zero] at this
      exact ⟨0, j, 1, _, .inl ⟨rfl, rfl, rfl⟩, this, w⟩
  · rename_i i j
    obtain ⟨a, b, w⟩ := w
    cases r with
    | cons r1 rr =>
      cases rr with
      | cons r2 rr =>
        cases rr
        cases r1
        cases r2
        exact ⟨i, j, 1, _, .inr (.inl ⟨rfl, rfl⟩), rgC_one a b, w⟩
  · rename_i i j c
    obtain ⟨a, b, w⟩ := w
    cases r with
    | cons r1 rr =>
      cases rr with
      | cons r2 rr =>
        cases rr with
        | cons r3 rr =>
          cases rr
          cases r1
          cases r2
          cases r3
          rcases w with ⟨rfl, w⟩ | ⟨rfl, w⟩
          · exact ⟨i, j, 1, _, .inr (.inr rfl), rgC_one a b, w⟩
          · exact ⟨i, j, -1, _, .inr (.inr rfl), rgC_neg a b, w⟩
  · exact w.elim
def rgV2 (lo c : Int) (n : Nat) : List V := (List.range n).map fun i => V.int (lo + (i : Nat) * c)
theorem rgV2_rv {K : Kw} {H : Hp} {ρ : Loc} {lo c : Int} : ∀ (l : List Nat), RVs K H ρ (l.map fun i => .int (lo + (i : Nat) * c)) (l.map fun i => V.int (lo + (i : Nat) * c))
  | [] => .nil
  | x :: r => .cons (.int _) (rgV2_rv r)
def tLstRgC (ta : TA) : TE := fun σ H Q => ta σ H fun vs H1 => ∃ i j c n, (vs = [.int j] ∧ i = 0 ∧ c = 1 ∨ vs = [.int i, .int j] ∧ c = 1 ∨ vs = [.int i, .int j, .int c]) ∧ RgC i j c n ∧ n ≤ 16777216 ∧ ∀ q, H1 q = none → Q (.ref q) (upd H1 q (.lst (rgV2 i c n)))
theorem pe_listRgC {ta : TA} {p p2 pos pos2 : Pos} (hc : X.calm = true) (hg : Gl X "list") (hm : X.mg "list" = none) (hg2 : Gl X "range") (hm2 : X.mg "range" = none) (ha : PA X (l :: es) ta) (hs : starEach (l :: es) X.env = (false, eval l X.env) :: starEach es X.env)
    (hpl : (backTo pos2 (starEach es X.env)).any (·.1) = false) : PE X (.Call (.Name "list" p) [.Call (.Name "range" p2) (l :: es) [] pos2] [] pos) (tLstRgC ta) := by
  refine ⟨fun pins s σ H Q I h => ?_⟩
  refine PyProof.Rows.Call_ (ld_blt I hg hm PyProof.Rows.boot_list (PyProof.Rows.callWith_type1 (PyProof.Rows.args_cons (thn (Q := fun x s1 => ∃ q i j c n t u v H1, x = .ref q ∧ IsRange s1.heap q i j c t u v ∧ Inv X pins σ H1 s1 ∧ RgC i j c n ∧ n ≤ 16777216 ∧ ∀ q, H1 q = none → Q (.ref q) (upd H1 q (.lst (rgV2 i c n)))) ?_
    fun x s1 ⟨q, i, j, cc, n, t, u, v, H1, ex, hr, I1, ⟨c0, c1, c2, c3⟩, hn, w⟩ => PyProof.Rows.args_nil ?_) rfl) rfl))
  · refine PyProof.Rows.Call_ (ld_blt I hg2 hm2 PyProof.Rows.boot_range (PyProof.Rows.callWith_type1 (thn (ha.run pos2 pins s σ H _ I h) fun us s1 ⟨vs, H1, I1, r1, q1⟩ => ?_) hs hpl))
    obtain ⟨i, j, c, n, e, rg, hn, w⟩ := q1
    rcases e with ⟨rfl, rfl, rfl⟩ | ⟨rfl, rfl⟩ | rfl
    · cases r1 with
      | cons r rr =>
        cases rr
        obtain ⟨t, rfl⟩ := r
        exact call_range_1 ⟨_, _, _, _, n, _, _, _, H1, rfl, IsRange.new _ _ _ _ _ _ _, I1.kept fun b u e => Heap.get?_push_of_some _ e, rg, hn, w⟩
    · cases r1 with
      | cons r rr =>
        cases rr with
        | cons r' rr =>
          cases rr
          obtain ⟨t, rfl⟩ := r
          obtain ⟨t', rfl⟩ := r'
          exact call_range_2 ⟨_, _, _, _, n, _, _, _, H1, rfl, IsRange.new _ _ _ _ _ _ _, I1.kept fun b u e => Heap.get?_push_of_some _ e, rg, hn, w⟩
    · cases r1 with
      | cons r rr =>
        cases rr with
        | cons r' rr =>
          cases rr with
          | cons r'' rr =>
            cases rr
            obtain ⟨t, rfl⟩ := r
            obtain ⟨t', rfl⟩ := r'
            obtain ⟨t'', rfl⟩ := r''
            exact call_range_3 rg.1 ⟨_, _, _, _, n, _, _, _, H1, rfl, IsRange.new _ _ _ _ _ _ _, I1.kept fun b u e => Heap.get?_push_of_some _ e, rg, hn, w⟩ (.inl (PyProof.noPylong_small rg.2.1))
  · subst ex
    refine call_list_range (n := n) (I1.ok.hd hc) hr c2 c3 (by omega) fun h' tk acc c' hk e' hi => ?_
    refine ⟨.ref s1.heap.objs.size, upd H1 s1.heap.objs.size (.lst (rgV2 i cc n)), I1.laid hk (Nat.le_refl _) (show ObjOk X.prog X.w _ _ _ (.lst (rgV2 i cc n)) from ⟨?_, acc.toList, c', ?_, ?_⟩), rfl, w _ (I1.hok.fresh (Nat.le_refl _))⟩
    · unfold rgV2; rw [List.length_map, List.length_range, sizeLine_eq]; omega
    · have e : acc.toList.length = n := by rw [Array.length_toList]; exact hi.1
      unfold rgV2
      rw [← e]
      refine vals_of_get acc.toList _ fun j u hj => ?_
      obtain ⟨t, rfl⟩ := hi.2 j u (by rw [← hj, Array.getElem?_toList])
      exact ⟨t, rfl⟩
    · rw [Array.toArray_toList]; exact e'

theorem h_lrg (C : CtxOk F k X c) {m : Bool} {p p2 pos2 : Pos} (hr : PA X (l :: es) (canA X.kw f1)) (hg : glB c.sc "list" = true) (hg2 : glB c.sc "range" = true) (hs : ∀ e ∈ l :: es, noStar e = true) :
    PE X (.Call (.Name "list" p) [.Call (.Name "range" p2) (l :: es) [] pos2] [] pos) (canE X.kw fun g h Q => f1 g h fun us h1 => rgR us fun lo c n => n ≤ 16777216 ∧ mkL m (rngC lo c n) h1 Q) :=
  (pe_listRgC C.calm (C.gl hg) (C.bi _ (by simp [biNames])) (C.gl hg2) (C.bi _ rg_mem) hr (starEach_of (hs l List.mem_cons_self)) (plain_of fun e m => hs e (List.mem_cons_of_mem _ m))).imp
    fun σ H Q ⟨ρ, g, h, q, R, S, w, P⟩ => ⟨ρ, g, h, _, R, S, w, fun us h1 vs H1 ρ1 x1 R1 r1 w1 => by
      obtain ⟨i, j, c, n, e, rg, hn, w2⟩ := rgR_ok r1 w1
      exact ⟨i, j, c, n, e, rg, hn, fun p n0 => (P.mono x1).mk R1 (by rw [List.length_map, List.length_range, sizeLine_eq]; omega) (rgV2_rv (List.range n)) n0 w2⟩⟩
theorem rngC_get (lo c : Int) (n i : Nat) : (rngC lo c n)[i]? = if i < n then some (.int (lo + (i : Nat) * c)) else none := by
  unfold rngC
  rw [List.getElem?_map]
  by_cases l : i < n
  · rw [if_pos l, List.getElem?_range l]; rfl
  · rw [if_neg l, List.getElem?_eq_none (by simpa using l)]; rfl
theorem walkC {K : Kw} {ρ₁ : Loc} {H₁ : Hp} {lo c : Int} {n : Nat} : Walk K (Itc lo c n) (fun _ => True) (rngC lo c n) ρ₁ H₁ := fun i ρ' ρ₂ H₂ h₂ x w R2 o => by
  refine ⟨fun u e => ?_, fun l => ?_⟩
  · rw [rngC_get] at e
    by_cases l : i < n
    · rw [if_pos l] at e; cases e
      refine ⟨l, ?_⟩
      rintro y H₃ ⟨rfl, rfl⟩
      exact ⟨Ext.refl, R2, .int _⟩
    · rw [if_neg l] at e; cases e
  · show n ≤ i
    simpa [rngC] using l
theorem h_rng3 (C : CtxOk F k X c) {p : Pos} (ha : PE X l (canE X.kw fa)) (hb : PE X r (canE X.kw fb)) (hc : PE X s (canE X.kw fc)) (hg : glB c.sc "range" = true) (hs : noStar l = true) (hs2 : noStar r = true) (hs3 : noStar s = true) :
    PI X tg (.Call (.Name "range" p) [l, r, s] [] pos) (canI X.kw fun g h Q => fa g h fun x h1 => fb g h1 fun y h2 => fc g h2 fun z h3 => rgR [x, y, z] fun lo c n => Q (fun _ => True) (rngC lo c n) h3) :=
  (pi_range3 (C.gl hg) (C.bi _ rg_mem) (pa_cons ha (pa_cons hb (pa_cons hc pa_nil (starEach_of hs3)) (starEach_of hs2)) (starEach_of hs)) (starEach_of hs) (by rw [starEach_of hs2, starEach_of hs3]; rfl)).imp fun σ H Rr ⟨ρ, g, h, q, R, S, w, P⟩ =>
    ⟨ρ, g, h, _, R, S, w, fun u h1 v H1 ρ1 x1 R1 r1 w1 => ⟨ρ1, g, h1, _, R1, S.mono R x1, w1, fun u2 h2 v2 H2 ρ2 x2 R2 r2 w2 => ⟨ρ2, g, h2, _, R2, S.mono R (x1.trans x2), w2, fun u3 h3 v3 H3 ρ3 x3 R3 r3 w3 => by
      unfold rgR at w3
      split at w3
      · rename_i he
        cases he
      · rename_i he
        cases he
      · rename_i i j c he
        cases he
        obtain ⟨a, b, w3⟩ := w3
        cases r1
        cases r2
        cases r3
        rcases w3 with ⟨rfl, w3⟩ | ⟨rfl, w3⟩
        · exact ⟨i, j, 1, _, rfl, rgC_one a b, P _ _ h3 _ H3 ρ3 (x1.trans (x2.trans x3)) R3 walkC w3⟩
        · exact ⟨i, j, -1, _, rfl, rgC_neg a b, P _ _ h3 _ H3 ρ3 (x1.trans (x2.trans x3)) R3 walkC w3⟩
      · exact w3.elim⟩⟩⟩

/-! ### displays of dicts -/
def flat : List (V × V) → List V
  | [] => []
  | (a, b) :: r => a :: b :: flat r
theorem tk_upd {K : PySem.W.Frag} {H : Hp} {p : Addr} {d ho : HO} (e : H p = some d) (h1 : ∀ xs, d ≠ .tup xs) (h2 : ∀ o u, d ≠ .frz o u) : ∀ a xs, SqT K H a xs → SqT K (upd H p ho) a xs := fun a xs s => by
  rcases s with (q | ⟨o', q⟩) | s
  · exact .inl (.inl (by rw [upd_ne (fun z => by subst z; rw [e] at q; cases q; exact h1 _ rfl)]; exact q))
  · exact .inl (.inr ⟨o', by rw [upd_ne (fun z => by subst z; rw [e] at q; cases q; exact h2 _ _ rfl)]; exact q⟩)
  · exact .inr s
theorem rk_upd {K : PySem.W.Frag} {H : Hp} {p : Addr} {d ho : HO} (e : H p = some d) (h2 : ∀ o u, d ≠ .frz o u) : ∀ a xs, RoL K H a xs → RoL K (upd H p ho) a xs := fun a xs s => by
  rcases s with ⟨o', q⟩ | s
  · exact .inl ⟨o', by rw [upd_ne (fun z => by subst z; rw [e] at q; cases q; exact h2 _ _ rfl)]; exact q⟩
  · exact .inr s
section
variable {K : Kw} {H H' : Hp} {ρ ρ' : Loc} {h : Hu} {p : Addr} {o : O} {ho : HO}
/-- what is there and known to nobody becomes a changeable object -/
theorem Rl.takeO (R : Rl K H ρ h) (e : H p = some (DT p [])) (n1 : p ∉ ρ.ids) (n2 : p ∉ ρ.pen) (r : RO K H ρ p o ho) : Rl K (upd H p ho) (ρ.add p) (h ++ [o]) := by
  have tk := tk_upd (K := K.f) (ho := ho) e (fun _ z => nomatch z) fun _ _ z => nomatch z
  have rk := rk_upd (K := K.f) (ho := ho) e fun _ _ z => nomatch z
  have lk : ∀ a (ys : List V), Rd H a (.lst ys) → a ∉ ρ.ids → a ∉ ρ.pen → Rd (upd H p ho) a (.lst ys) ∧ a ∉ (ρ.add p).ids ∧ a ∉ (ρ.add p).pen := fun a ys s h1 h2 => by
    have z : a ≠ p := fun z => by
      subst z
      rcases s with q | ⟨o', q⟩ <;> (rw [e] at q; cases q)
    refine ⟨?_, fun m => ?_, h2⟩
    · rcases s with q | ⟨o', q⟩
      · exact .inl (by rw [upd_ne z]; exact q)
      · exact .inr ⟨o', by rw [upd_ne z]; exact q⟩
    · rcases List.mem_append.mp (show a ∈ ρ.ids ++ [p] from m) with q | q
      · exact h1 q
      · exact z (List.mem_singleton.mp q)
  have get : ∀ (n : Nat) a, ρ.ids[n]? = some a → (ρ.add p).ids[n]? = some a := fun n a q => by
    show (ρ.ids ++ [p])[n]? = some a
    rw [List.getElem?_append_left (List.getElem?_eq_some_iff.mp q).1]
    exact q
  have hl : ρ.ids.length = h.length := R.len
  refine ⟨by show (ρ.ids ++ [p]).length = _; simp [hl], ?_, fun i u e' => ?_, fun a m => ?_, fun a m z => ?_⟩
  · show (ρ.ids ++ [p]).Nodup
    rw [List.nodup_append]
    refine ⟨R.nd, by simp, fun a ha b hb => ?_⟩
    rw [List.mem_singleton.mp hb]
    intro z; subst z
    exact n1 ha
  · show ∃ a ho, (ρ.ids ++ [p])[i]? = some a ∧ _
    by_cases hi : i < h.length
    · rw [List.getElem?_append_left hi] at e'
      obtain ⟨a, ho', e1, e2, e3⟩ := R.ob i u e'
      exact ⟨a, ho', get _ _ e1, by rw [upd_ne (fun z => n1 (by rw [← z]; exact List.mem_of_getElem? e1))]; exact e2, e3.gen tk rk lk get⟩
    · rw [List.getElem?_append_right (by omega)] at e'
      have hi0 : i - h.length = 0 := by
        have := (List.getElem?_eq_some_iff.mp e').1
        simp at this; omega
      rw [hi0] at e'
      simp at e'
      subst e'
      refine ⟨p, ho, ?_, upd_same, r.gen tk rk lk get⟩
      rw [List.getElem?_append_right (by rw [hl]; omega), hl, hi0]
      rfl
  · obtain ⟨xs, q⟩ := R.pn a m
    exact ⟨xs, by rw [upd_ne (fun z => n2 (by rw [← z]; exact m))]; exact q⟩
  · rcases List.mem_append.mp (show a ∈ ρ.ids ++ [p] from z) with q | q
    · exact R.dj a m q
    · rw [List.mem_singleton.mp q] at m
      exact n2 m
theorem Ext.takeO (x : Ext ρ (upd H p (DT p [])) ρ' H') (n : H p = none) (n1 : p ∉ ρ.ids) : Ext ρ H (ρ'.add p) (upd H' p ho) := by
  have x0 : Ext ρ H ρ' H' := (Ext.new n).trans x
  obtain ⟨r, e, q⟩ := x0.pre
  refine ⟨⟨r ++ [p], by show ρ'.ids ++ [p] = _; rw [e, List.append_assoc], fun a m => ?_⟩, x0.pen, fun a u q n' => by rw [upd_ne (ne_of_none q n)]; exact x0.keep a u q n', fun a q => ?_⟩
  · rcases List.mem_append.mp m with z | z
    · exact q a z
    · rw [List.mem_singleton.mp z]; exact n
  · by_cases z : a = p
    · subst z; exact absurd n q
    · rw [upd_ne z]; exact x0.there a q
theorem dputs_length : ∀ (pu d : List (U × U)), (dputs d pu).length ≤ d.length + pu.length
  | [], d => by simp [dputs]
  | (a, b) :: r, d => by
    have h1 := dputs_length r (dput d a b)
    have h2 := dput_length d a b
    show (dputs (dput d a b) r).length ≤ _
    simp only [List.length_cons]
    omega
end
def PostPs (K : Kw) (ρ : Loc) (H : Hp) (q : List U → Hu → Prop) (Q : List (V × V) → Hp → Prop) : Prop := ∀ us h' ps H' ρ', Ext ρ H ρ' H' → Rl K H' ρ' h' → RVs K H' ρ' us (flat ps) → q us h' → Q ps H'
def canP (K : Kw) (f : Sg → Hu → (List U → Hu → Prop) → Prop) (σ : St) (H : Hp) (Q : List (V × V) → Hp → Prop) : Prop := ∃ ρ g h q, Rl K H ρ h ∧ SgR K H ρ g σ ∧ f g h q ∧ PostPs K ρ H q Q
/-- the pairs of a display -/
structure PsOk (X : Cx) (pos : Pos) (ks : List (Option Expr)) (vs : List Expr) (f : Sg → Hu → (List U → Hu → Prop) → Prop) : Prop where
  run : ∃ trs, PPs X pos ks vs trs ∧ ∀ σ H Q, canP X.kw f σ H Q → tPairs trs σ H Q
  all : ks.all (·.isSome) = true
  len : ks.length = vs.length
theorem psOk_nil : PsOk X pos [] [] fun _ h Q => Q [] h := ⟨⟨[], pps_nil, fun σ H Q ⟨ρ, g, h, q, R, S, w, P⟩ => P [] h [] H ρ Ext.refl R .nil w⟩, rfl, rfl⟩
theorem psOk_cons {ks : List (Option Expr)} {vs : List Expr} (ha : PE X l (canE X.kw fa)) (hb : PE X r (canE X.kw fb)) (hr : PsOk X pos ks vs f1) :
    PsOk X pos (some l :: ks) (r :: vs) fun g h Q => fa g h fun x h1 => fb g h1 fun y h2 => f1 g h2 fun us h3 => Q (x :: y :: us) h3 := by
  obtain ⟨⟨trs, pp, im⟩, h1, h2⟩ := hr
  refine ⟨⟨_, pps_cons ha hb pp, fun σ H Q ⟨ρ, g, h, q, R, S, w, P⟩ => ?_⟩, by simpa using h1, by simp [h2]⟩
  refine ⟨ρ, g, h, _, R, S, w, fun u h1 v H1 ρ1 x1 R1 r1 w1 => ⟨ρ1, g, h1, _, R1, S.mono R x1, w1, fun u2 h2 v2 H2 ρ2 x2 R2 r2 w2 => im _ _ _ ⟨ρ2, g, h2, _, R2, S.mono R (x1.trans x2), w2, fun us h3 ps H3 ρ3 x3 R3 r3 w3 => ?_⟩⟩⟩
  exact P (u :: u2 :: us) h3 ((v, v2) :: ps) H3 ρ3 (x1.trans (x2.trans x3)) R3 (.cons (r1.mono R1 (x2.trans x3)) (.cons (r2.mono R2 x3) r3)) w3
theorem pairs_ok {pins : List (Addr × Obj)} {σ : St} {H : Hp} {s : Shared} {ρ : Loc} (I : Inv X pins σ H s) : ∀ {ps : List (V × V)} {ws : List (Value × Value)} {us : List U} {pu : List (U × U)}, RVs X.kw H ρ us (flat ps) → VV ps ws → pairU us = some pu → (∀ q ∈ pu, (kOf q.1).isSome = true) →
    ∃ qs : List (NestedKey × Value × Value), Carry s.heap ws qs ∧ qs.length = pu.length ∧
      ∀ {d : List (U × U)} {T : Tab}, KVs X.kw H ρ d T → (T.map (·.1)).Nodup → KVs X.kw H ρ (dputs d pu) (tputs X.w T qs) ∧ ((tputs X.w T qs).map (·.1)).Nodup
  | [], _, _, _, .nil, .nil, e, _ => by
    cases e
    exact ⟨[], .nil, rfl, fun q n => ⟨q, n⟩⟩
  | (a, b) :: ps, _, _, pu, .cons (u := u) (us := us1) r1 rr, .cons ⟨q1, q2⟩ qq, e, hk => by
    cases rr with
    | @cons v _ us _ r2 rr =>
      rename_i w ws
      have e : (pairU us).map ((u, v) :: ·) = some pu := e
      obtain ⟨pu', e1, rfl⟩ := Option.map_eq_some_iff.mp e
      obtain ⟨qs, e2, e3, f⟩ := pairs_ok I rr qq e1 fun q m => hk q (List.mem_cons_of_mem _ m)
      obtain ⟨k, hk1⟩ := Option.isSome_iff_exists.mp (hk (u, v) List.mem_cons_self)
      obtain ⟨k1, k2⟩ := kOf_some hk1
      obtain ⟨w1, w2⟩ := w
      refine ⟨(k, w1, w2) :: qs, .cons (rv_nested I r1 q1 k1) k2 e2, by simp [e3], fun {d T} q n => ?_⟩
      show KVs X.kw H ρ (dputs (dput d u v) pu') (tputs X.w (tput T k ⟨k.hash X.w, w1, w2⟩) qs) ∧ _
      exact f (KVs.put hk1 r1 q1 rfl r2 q2 q) (tput_nodup n)
def dicF (us : List U) (h1 : Hu) (Q : QE) : Prop := ∃ ps, pairU us = some ps ∧ ps.length ≤ 15 ∧ (∀ p ∈ ps, (kOf p.1).isSome = true) ∧ Q (.mr h1.length) (h1 ++ [.dic (dputs [] ps)])
theorem not_mod {pins : List (Addr × Obj)} {σ : St} {H : Hp} {s : Shared} (I : Inv X pins σ H s) : (s.heap.objs.size == sysModules) = false :=
  (dk_empty (P := X.prog) (w := X.w) (H := H) s.heap I.big).2.1
theorem h_dic (C : CtxOk F k X c) {ks : List (Option Expr)} {vs : List Expr} (hr : PsOk X pos ks vs f1) (h0 : ks ≠ []) (h15 : ks.length ≤ 15) :
    PE X (.Dict ks vs pos) (canE X.kw fun g h Q => f1 g h fun us h1 => dicF us h1 Q) := by
  obtain ⟨⟨trs, pp, im⟩, ha, hl⟩ := hr
  refine ⟨fun pins s σ H Q I ⟨ρ, g, h, q, R, S, w, P⟩ => ?_⟩
  have n := I.hok.fresh (Nat.le_refl s.heap.objs.size)
  have n1 := R.out n
  have ns := not_mod I
  have I1 := I.laid (a := s.heap.objs.size) (o := DT s.heap.objs.size []) (h' := s.heap.push { cls := .type "dict", data := .dict #[] }) (t' := s.toks) (fun _ _ q => Heap.get?_push_of_some _ q) (Nat.le_refl _) (dt_new (TabAt.new s.heap))
  have hu := C.hu
  refine disp_tab (by omega) ha hl h0 h15 (thn (pp.run pins _ σ _ (fun ps H2 => ∃ ρ2 us pu h2, Ext ρ (upd H s.heap.objs.size (DT s.heap.objs.size [])) ρ2 H2 ∧ Rl X.kw H2 ρ2 h2 ∧ RVs X.kw H2 ρ2 us (flat ps) ∧ pairU us = some pu ∧ pu.length ≤ 15 ∧ (∀ p ∈ pu, (kOf p.1).isSome = true) ∧ q (.mr h2.length) (h2 ++ [.dic (dputs [] pu)])) I1
    (im _ _ _ ⟨ρ, g, h, _, R.new n, S.mono R (Ext.new n), w, fun us h2 ps H2 ρ2 x2 R2 r2 ⟨pu, e1, e2, e3, w2⟩ => ⟨ρ2, us, pu, h2, x2, R2, r2, e1, e2, e3, w2⟩⟩)) fun ws s2 ⟨ps, H2, I2, rel, ρ2, us, pu, h2, x2, R2, r2, e1, e2, e3, w2⟩ => ?_)
  have eD : H2 s.heap.objs.size = some (DT s.heap.objs.size []) := x2.keep _ _ upd_same n1
  have m1 : s.heap.objs.size ∉ ρ2.ids := x2.w.out n1 (by rw [upd_same]; intro z; cases z)
  have m2 : s.heap.objs.size ∉ ρ2.pen := by rw [x2.pen]; exact R.outP n
  obtain ⟨qs, q1, q2, q3⟩ := pairs_ok I2 r2 rel e1 e3
  obtain ⟨k1, k2⟩ := q3 (d := []) (T := []) .nil (by simp)
  refine ⟨qs, q1, by omega, tab_at I2 eD, fun h' tk x sb => ⟨.ref s.heap.objs.size, _, dt_write I2 eD sb x, rfl, ?_⟩⟩
  have ro : RO X.kw H2 ρ2 s.heap.objs.size (.dic (dputs [] pu)) (DT s.heap.objs.size (tputs X.w [] qs)) := ⟨by
      have := dputs_length pu []
      rw [List.length_nil] at this
      rw [sizeLine_eq]; omega, ns, _, rfl, k2, k1⟩
  refine P _ _ _ _ (ρ2.add s.heap.objs.size) (Ext.takeO x2 n n1) (R2.takeO eD m1 m2 ro) (.mr ?_) w2
  show (ρ2.ids ++ [s.heap.objs.size])[h2.length]? = _
  rw [← R2.len, List.getElem?_append_right (Nat.le_refl _), Nat.sub_self]
  rfl
theorem h_dic0 : PE X (.Dict [] [] pos) (canE X.kw fun g h Q => dicF [] h Q) := by
  refine ⟨fun pins s σ H Q I ⟨ρ, g, h, q, R, S, ⟨ps, e, _, _, w⟩, P⟩ => ?_⟩
  cases e
  have n := I.hok.fresh (Nat.le_refl s.heap.objs.size)
  refine wpAny_Dict_empty ⟨.ref s.heap.objs.size, _, I.laid (a := s.heap.objs.size) (o := DT s.heap.objs.size []) (t' := s.toks) (fun _ _ q => Heap.get?_push_of_some _ q) (Nat.le_refl _) (dt_new (TabAt.new s.heap)), rfl, ?_⟩
  refine P _ _ _ _ (ρ.add s.heap.objs.size) (Ext.newM n) (R.newO (o := .dic (dputs [] [])) n ⟨by simp [dputs], not_mod I, [], rfl, by simp, .nil⟩) (.mr ?_) w
  show (ρ.ids ++ [s.heap.objs.size])[h.length]? = _
  rw [← R.len, List.getElem?_append_right (Nat.le_refl _), Nat.sub_self]
  rfl
end
end Pl
set_option Elab.async false
set_option linter.all false
set_option maxRecDepth 100000
set_option maxHeartbeats 1999999
/-! Pl: comprehensions; all expressions. -/
namespace Pl
open PySem PySem.Spec L2
section
variable {K : Kw} {H H' H₁ H₂ : Hp} {ρ ρ' ρ₁ ρ₂ : Loc} {h h₁ h₂ : Hu} {g : Sg} {σ : St}
theorem SgR.within (R : Rl K H₁ ρ₁ h₁) (x : Exw ρ₁ H₁ ρ' H₂) (w : ρ₂ = ρ' ∨ ∃ D, ρ₂ = ρ'.pend D ∧ H₁ D = none) (S : SgR K H₁ ρ₁ g σ) : SgR K H₂ ρ₂ g σ :=
  ⟨S.len, fun i u e => let ⟨v, e1, r⟩ := S.at_ i u e; ⟨v, e1, r.within R x w⟩⟩
theorem Ext.addD {D : Addr} (x : Ext ρ H ρ' H') (n : H D = none) : Ext ρ H (ρ'.add D) H' := by
  obtain ⟨r, e, q⟩ := x.pre
  refine ⟨⟨r ++ [D], by show ρ'.ids ++ [D] = _; rw [e, List.append_assoc], fun a m => ?_⟩, x.pen, x.keep, x.there⟩
  rcases List.mem_append.mp m with z | z
  · exact q a z
  · rw [List.mem_singleton.mp z]; exact n
theorem Exw.trans {ρ'' : Loc} {H'' : Hp} {h' : Hu} (R' : Rl K H' ρ' h') (a : Exw ρ H ρ' H') (b : Exw ρ' H' ρ'' H'') : Exw ρ H ρ'' H'' := by
  obtain ⟨r, e1, n1⟩ := a.pre
  obtain ⟨r2, e2, n2⟩ := b.pre
  refine ⟨⟨r ++ r2, by rw [e2, e1, List.append_assoc], fun c hc => ?_⟩, b.pen.trans a.pen, fun c o e n n' => ?_⟩
  · rcases List.mem_append.mp hc with q | q
    · exact n1 c q
    · cases z : H c with
      | none => rfl
      | some o =>
        have hn := n2 c q
        by_cases m1 : c ∈ ρ.ids
        · exact absurd hn (R'.some_ (by rw [e1]; exact List.mem_append_left _ m1))
        · by_cases m2 : c ∈ ρ.pen
          · exact absurd (by rw [a.pen]; exact m2) (R'.outP hn)
          · rw [a.keep c o z m1 m2] at hn; cases hn
  · refine b.keep c o (a.keep c o e n n') (fun q => ?_) (by rw [a.pen]; exact n')
    rw [e1] at q
    rcases List.mem_append.mp q with q | q
    · exact n q
    · rw [n1 c q] at e; cases e
variable {fI : Sg → Hu → ((Hu → Prop) → List U → Hu → Prop) → Prop} {fT : U → Sg → Hu → (Sg → Hu → Prop) → Prop} {fF : RB} {fE : RE} {own : List Nat} {m : Bool}
theorem lc_go {Q : VK} (w : canE K (fun g h Q => fI g h fun ok xs h1 => xs.length ≤ sizeLine ∧
      lcRun (fun x h2 k => ok h2 ∧ fT x (wipeU g own) h2 fun g3 h3 => fF g3 h3 fun b h4 => if b = true then fE g3 h4 fun y h5 => k (some y) h5 else k none h4) xs [] h1 fun ys h2 => ok h2 ∧ mkL m ys h2 Q) σ H Q) :
    tLc (canI K fI) (canG K own fT) (canB K fF) (canE K fE) own σ H Q := by
  obtain ⟨ρ, g, h, q, R, S, w, P⟩ := w
  refine ⟨ρ, g, h, _, R, S, w, fun ok xs h1 J H1 ρ1 x1 R1 W1 ⟨hl, w1⟩ => ?_⟩
  intro D nD
  refine ⟨fun i n H' => n = xs.length - i ∧ i ≤ xs.length ∧ ∃ ρ' h' acc accV, Ext ρ1 H1 ρ' H' ∧ Rl K H' (ρ'.pend D) h' ∧ H' D = some (.lst accV) ∧ RVs K H' (ρ'.pend D) acc accV ∧ acc.length ≤ i ∧
      lcRun (fun x h2 k => ok h2 ∧ fT x (wipeU g own) h2 fun g3 h3 => fF g3 h3 fun b h4 => if b = true then fE g3 h4 fun y h5 => k (some y) h5 else k none h4) (xs.drop i) acc h' fun ys h2 => ok h2 ∧ mkL m ys h2 q,
    ⟨xs.length, by simp, Nat.zero_le _, ρ1, h1, [], [], Ext.new nD, R1.pend nD, upd_same, .nil, Nat.le_refl _, w1⟩, ?_⟩
  rintro i n H' ⟨rfl, hi, ρ', h', acc, accV, x2, R2, eD, rA, la, w2⟩
  have dD : D ∉ ρ'.ids := R2.dj D List.mem_cons_self
  by_cases hlt : i < xs.length
  · refine .inr ?_
    rw [List.drop_eq_getElem_cons hlt] at w2
    obtain ⟨okh, w2⟩ := w2
    obtain ⟨go, _⟩ := W1 i ρ' (ρ'.pend D) H' h' x2.w (.inr ⟨D, rfl, nD⟩) R2 okh
    obtain ⟨jgo, yl⟩ := go xs[i] (List.getElem?_eq_getElem hlt)
    refine ⟨jgo, fun H'' => _, fun H'' w => ⟨xs.length - (i + 1), by omega, rfl, by omega, w⟩, fun x H3 y => ?_⟩
    obtain ⟨x3, R3, r3⟩ := yl x H3 y
    have S3 : SgR K H3 (ρ'.pend D) (wipeU g own) (L2.wipe σ own) := (((S.mono R x1).within R1 x2.w (.inr ⟨D, rfl, nD⟩)).mono R2 x3).wipe own
    refine ⟨xs[i], ρ'.pend D, wipeU g own, h', _, R3, S3, r3, w2, fun g3 σ3 h3 H4 ρ4 x4 R4 S4 ew w4 => ⟨by rw [ew, wipe_wipe fun _ m => m], ρ4, g3, h3, _, R4, S4, w4, fun b h5 H5 ρ5 x5 R5 w5 => ?_⟩⟩
    cases b with
    | true =>
      refine ⟨ρ5, g3, h5, _, R5, S4.mono R4 x5, w5, fun y' h6 v H6 ρ6 x6 R6 r6 w6 => ?_⟩
      have X := x3.trans (x4.trans (x5.trans x6))
      obtain ⟨ρ6', rfl, X'⟩ := Ext.drop X
      have eD6 : H6 D = some (.lst accV) := X.keep D _ eD dD
      have rA6 := rA.mono R2 X
      have lv := rA.length
      have mem : D ∈ (ρ6'.pend D).pen := List.mem_cons_self
      refine ⟨accV, eD6, by omega, ρ6', h6, acc ++ [y'], accV ++ [v], (x2.trans X').updD nD (by rw [eD6]; intro z; cases z), R6.updP mem, upd_same, RVs.monow R6 (Exw.updP mem) (rA6.append (.cons r6 .nil)), by simp; omega, w6⟩
    | false =>
      have X := x3.trans (x4.trans x5)
      obtain ⟨ρ6', rfl, X'⟩ := Ext.drop X
      exact ⟨ρ6', h5, acc, accV, x2.trans X', R5, X.keep D _ eD dD, rA.mono R2 X, by omega, w5⟩
  · have e : i = xs.length := by omega
    subst e
    rw [List.drop_length] at w2
    obtain ⟨okh, w2⟩ := w2
    obtain ⟨_, st⟩ := W1 xs.length ρ' (ρ'.pend D) H' h' x2.w (.inr ⟨D, rfl, nD⟩) R2 okh
    refine .inl ⟨st (Nat.le_refl _), ?_⟩
    have hD : H D = none := by
      cases z : H D with
      | none => rfl
      | some o => exact absurd nD (x1.there D (by rw [z]; intro y; cases y))
    have nP : D ∉ ρ'.pen := by rw [x2.pen]; exact R1.outP nD
    have lA : acc.length ≤ sizeLine := Nat.le_trans la hl
    cases m with
    | true =>
      have w3 : q (.mr h'.length) (h' ++ [.lst acc]) := w2
      refine P _ _ _ H' (ρ'.add D) ((x1.trans x2).addD hD) (R2.unpM nP eD lA rA) (.mr ?_) w3
      show (ρ'.ids ++ [D])[h'.length]? = _
      have : ρ'.ids.length = h'.length := R2.len
      rw [← this, List.getElem?_append_right (Nat.le_refl _), Nat.sub_self]
      rfl
    | false =>
      have w3 : q (.lst acc) h' := w2
      exact P _ _ _ H' ρ' (x1.trans x2) R2.unp (.lst (.inl eD) dD nP lA (RVs.re unp_sub (fun _ _ e => e) rA)) w3
end

variable {fI1 : Sg → Hu → ((Hu → Prop) → List U → Hu → Prop) → Prop} {fT1 : U → Sg → Hu → (Sg → Hu → Prop) → Prop} {fF1 : RB} {own1 : List Nat}
theorem lc2_go {Q : VK} (w : canE K (fun g h Q => fI g h fun ok xs h1 => xs.length ≤ sizeLine ∧
      lcRunC (fun x acc h2 k => ok h2 ∧ fT x (wipeU g (own ++ own1)) h2 fun g3 h3 => fF g3 h3 fun b h4 => if b = true then
        fI1 g3 h4 fun ok1 ys h5 => acc.length + ys.length ≤ sizeLine ∧ lcRun (fun y h6 k1 => ok1 h6 ∧ fT1 y (wipeU g3 own1) h6 fun g7 h7 => fF1 g7 h7 fun b h8 => if b = true then fE g7 h8 fun z h9 => k1 (some z) h9 else k1 none h8) ys acc h5
          fun zs h6 => ok1 h6 ∧ k zs h6
        else k acc h4) xs [] h1 fun ys h2 => ok h2 ∧ mkL m ys h2 Q) σ H Q) :
    tLc2 (canI K fI) (canG K own fT) (canB K fF) (canI K fI1) (canG K own1 fT1) (canB K fF1) (canE K fE) (own ++ own1) own1 σ H Q := by
  obtain ⟨ρ, g, h, q, R, S, w, P⟩ := w
  refine ⟨ρ, g, h, _, R, S, w, fun ok xs h1 J H1 ρ1 x1 R1 W1 ⟨hl, w1⟩ => ?_⟩
  intro D nD
  refine ⟨fun i n H' => n = xs.length - i ∧ i ≤ xs.length ∧ ∃ ρ' h' acc accV, Ext ρ1 H1 ρ' H' ∧ Rl K H' (ρ'.pend D) h' ∧ H' D = some (.lst accV) ∧ RVs K H' (ρ'.pend D) acc accV ∧ acc.length ≤ sizeLine ∧
      lcRunC (fun x acc h2 k => ok h2 ∧ fT x (wipeU g (own ++ own1)) h2 fun g3 h3 => fF g3 h3 fun b h4 => if b = true then
        fI1 g3 h4 fun ok1 ys h5 => acc.length + ys.length ≤ sizeLine ∧ lcRun (fun y h6 k1 => ok1 h6 ∧ fT1 y (wipeU g3 own1) h6 fun g7 h7 => fF1 g7 h7 fun b h8 => if b = true then fE g7 h8 fun z h9 => k1 (some z) h9 else k1 none h8) ys acc h5
          fun zs h6 => ok1 h6 ∧ k zs h6
        else k acc h4) (xs.drop i) acc h' fun ys h2 => ok h2 ∧ mkL m ys h2 q,
    ⟨xs.length, by simp, Nat.zero_le _, ρ1, h1, [], [], Ext.new nD, R1.pend nD, upd_same, .nil, by simp, w1⟩, ?_⟩
  rintro i n H' ⟨rfl, hi, ρ', h', acc, accV, x2, R2, eD, rA, la, w2⟩
  have dD : D ∉ ρ'.ids := R2.dj D List.mem_cons_self
  by_cases hlt : i < xs.length
  · refine .inr ?_
    rw [List.drop_eq_getElem_cons hlt] at w2
    obtain ⟨kont, hK, okh, w2⟩ : ∃ kont : List U → Hu → Prop, (∀ a h, kont a h → lcRunC (fun x acc h2 k => ok h2 ∧ fT x (wipeU g (own ++ own1)) h2 fun g3 h3 => fF g3 h3 fun b h4 => if b = true then
        fI1 g3 h4 fun ok1 ys h5 => acc.length + ys.length ≤ sizeLine ∧ lcRun (fun y h6 k1 => ok1 h6 ∧ fT1 y (wipeU g3 own1) h6 fun g7 h7 => fF1 g7 h7 fun b h8 => if b = true then fE g7 h8 fun z h9 => k1 (some z) h9 else k1 none h8) ys acc h5
          fun zs h6 => ok1 h6 ∧ k zs h6
        else k acc h4) (xs.drop (i + 1)) a h fun ys h2 => ok h2 ∧ mkL m ys h2 q) ∧ ok h' ∧ fT xs[i] (wipeU g (own ++ own1)) h' fun g3 h3 => fF g3 h3 fun b h4 => if b = true then
        fI1 g3 h4 fun ok1 ys h5 => acc.length + ys.length ≤ sizeLine ∧ lcRun (fun y h6 k1 => ok1 h6 ∧ fT1 y (wipeU g3 own1) h6 fun g7 h7 => fF1 g7 h7 fun b h8 => if b = true then fE g7 h8 fun z h9 => k1 (some z) h9 else k1 none h8) ys acc h5
          fun zs h6 => ok1 h6 ∧ kont zs h6
        else kont acc h4 := ⟨_, fun _ _ w => w, w2⟩
    obtain ⟨go, _⟩ := W1 i ρ' (ρ'.pend D) H' h' x2.w (.inr ⟨D, rfl, nD⟩) R2 okh
    obtain ⟨jgo, yl⟩ := go xs[i] (List.getElem?_eq_getElem hlt)
    refine ⟨jgo, fun H'' => _, fun H'' w => ⟨xs.length - (i + 1), by omega, rfl, by omega, w⟩, fun x H3 y => ?_⟩
    obtain ⟨x3, R3, r3⟩ := yl x H3 y
    have S3 : SgR K H3 (ρ'.pend D) (wipeU g (own ++ own1)) (L2.wipe σ (own ++ own1)) := (((S.mono R x1).within R1 x2.w (.inr ⟨D, rfl, nD⟩)).mono R2 x3).wipe (own ++ own1)
    refine ⟨xs[i], ρ'.pend D, wipeU g (own ++ own1), h', _, R3, S3, r3, w2, fun g3 σ3 h3 H4 ρ4 x4 R4 S4 ew w4 => ⟨?_, ρ4, g3, h3, _, R4, S4, w4, fun b h5 H5 ρ5 x5 R5 w5 => ?_⟩⟩
    · have e1 := wipe_wipe (σ := σ3) (vs := own ++ own1) (us := own) fun i m => List.mem_append_left _ m
      rw [ew, wipe_wipe (fun i m => List.mem_append_left _ m), wipe_wipe (fun i m => m)] at e1
      exact e1.symm
    cases b with
    | true =>
      refine ⟨ρ5, g3, h5, _, R5, S4.mono R4 x5, w5, fun ok1 ys h6 J1 H6 ρ6 x6 R6 W6 ⟨hl6, w6⟩ => ?_⟩
      have X := x3.trans (x4.trans (x5.trans x6))
      have S6 := (S4.mono R4 x5).mono R5 x6
      have rA6 := rA.mono R2 X
      have eD6 : H6 D = some (.lst accV) := X.keep D _ eD dD
      obtain ⟨ρ6', rfl, X'⟩ := Ext.drop X
      have d6 : D ∉ ρ6'.ids := R6.dj D List.mem_cons_self
      -- the second source's own walk
      refine ⟨fun j kk H' => kk = ys.length - j ∧ j ≤ ys.length ∧ ∃ ρ'' h'' acc' accV', Ext ρ1 H1 ρ'' H' ∧ Exw (ρ6'.pend D) H6 (ρ''.pend D) H' ∧ Rl K H' (ρ''.pend D) h'' ∧ H' D = some (.lst accV') ∧ RVs K H' (ρ''.pend D) acc' accV' ∧ acc'.length ≤ acc.length + j ∧
          lcRun (fun y h6 k1 => ok1 h6 ∧ fT1 y (wipeU g3 own1) h6 fun g7 h7 => fF1 g7 h7 fun b h8 => if b = true then fE g7 h8 fun z h9 => k1 (some z) h9 else k1 none h8) (ys.drop j) acc' h'' fun zs h6 => ok1 h6 ∧ kont zs h6,
        ⟨ys.length, by simp, Nat.zero_le _, ρ6', h6, acc, accV, x2.trans X', Ext.refl.w, R6, eD6, rA6, Nat.le_refl _, w6⟩, ?_⟩
      rintro j kk H' ⟨rfl, hj, ρ'', h'', acc', accV', x7, y7, R7, eD7, rA7, la7, w7⟩
      have dD7 : D ∉ ρ''.ids := R7.dj D List.mem_cons_self
      by_cases hlt' : j < ys.length
      · refine .inr ?_
        rw [List.drop_eq_getElem_cons hlt'] at w7
        obtain ⟨okh, w7⟩ := w7
        obtain ⟨go, _⟩ := W6 j (ρ''.pend D) (ρ''.pend D) H' h'' y7 (.inl rfl) R7 okh
        obtain ⟨jgo, yl⟩ := go ys[j] (List.getElem?_eq_getElem hlt')
        refine ⟨jgo, fun H'' => _, fun H'' w => ⟨ys.length - (j + 1), by omega, rfl, by omega, w⟩, fun x H8 y => ?_⟩
        obtain ⟨x8, R8, r8⟩ := yl x H8 y
        have S8 : SgR K H8 (ρ''.pend D) (wipeU g3 own1) (L2.wipe σ3 own1) := ((S6.within R6 y7 (.inl rfl)).mono R7 x8).wipe own1
        refine ⟨ys[j], ρ''.pend D, wipeU g3 own1, h'', _, R8, S8, r8, w7, fun g9 σ9 h9 H9 ρ9 x9 R9 S9 ew9 w9 => ⟨by rw [ew9, wipe_wipe fun _ m => m], ρ9, g9, h9, _, R9, S9, w9, fun b h10 H10 ρ10 x10 R10 w10 => ?_⟩⟩
        cases b with
        | true =>
          refine ⟨ρ10, g9, h10, _, R10, S9.mono R9 x10, w10, fun y' h11 v H11 ρ11 x11 R11 r11 w11 => ?_⟩
          have X2 := x8.trans (x9.trans (x10.trans x11))
          obtain ⟨ρ11', rfl, X2'⟩ := Ext.drop X2
          have eD11 : H11 D = some (.lst accV') := X2.keep D _ eD7 dD7
          have rA11 := rA7.mono R7 X2
          have lv := rA7.length
          have mem : D ∈ (ρ11'.pend D).pen := List.mem_cons_self
          refine ⟨accV', eD11, by omega, ρ11', h11, acc' ++ [y'], accV' ++ [v], (x7.trans X2').updD nD (by rw [eD11]; intro z; cases z), ?_, R11.updP mem, upd_same, RVs.monow R11 (Exw.updP mem) (rA11.append (.cons r11 .nil)), by simp; omega, w11⟩
          exact Exw.trans R11 (Exw.trans R7 y7 X2.w) (Exw.updP mem)
        | false =>
          have X2 := x8.trans (x9.trans x10)
          obtain ⟨ρ11', rfl, X2'⟩ := Ext.drop X2
          exact ⟨ρ11', h10, acc', accV', x7.trans X2', Exw.trans R7 y7 X2.w, R10, X2.keep D _ eD7 dD7, rA7.mono R7 X2, by omega, w10⟩
      · have e : j = ys.length := by omega
        subst e
        rw [List.drop_length] at w7
        obtain ⟨okh, w8⟩ := w7
        obtain ⟨_, st⟩ := W6 ys.length (ρ''.pend D) (ρ''.pend D) H' h'' y7 (.inl rfl) R7 okh
        exact .inl ⟨st (Nat.le_refl _), ρ'', h'', acc', accV', x7, R7, eD7, rA7, by omega, hK _ _ w8⟩
    | false =>
      have X := x3.trans (x4.trans x5)
      obtain ⟨ρ6', rfl, X'⟩ := Ext.drop X
      exact ⟨ρ6', h5, acc, accV, x2.trans X', R5, X.keep D _ eD dD, rA.mono R2 X, la, hK _ _ w5⟩
  · have e : i = xs.length := by omega
    subst e
    rw [List.drop_length] at w2
    obtain ⟨okh, w2⟩ := w2
    obtain ⟨_, st⟩ := W1 xs.length ρ' (ρ'.pend D) H' h' x2.w (.inr ⟨D, rfl, nD⟩) R2 okh
    refine .inl ⟨st (Nat.le_refl _), ?_⟩
    have hD : H D = none := by
      cases z : H D with
      | none => rfl
      | some o => exact absurd nD (x1.there D (by rw [z]; intro y; cases y))
    have nP : D ∉ ρ'.pen := by rw [x2.pen]; exact R1.outP nD
    have lA : acc.length ≤ sizeLine := la
    cases m with
    | true =>
      have w3 : q (.mr h'.length) (h' ++ [.lst acc]) := w2
      refine P _ _ _ H' (ρ'.add D) ((x1.trans x2).addD hD) (R2.unpM nP eD lA rA) (.mr ?_) w3
      show (ρ'.ids ++ [D])[h'.length]? = _
      have : ρ'.ids.length = h'.length := R2.len
      rw [← this, List.getElem?_append_right (Nat.le_refl _), Nat.sub_self]
      rfl
    | false =>
      have w3 : q (.lst acc) h' := w2
      exact P _ _ _ H' ρ' (x1.trans x2) R2.unp (.lst (.inl eD) dD nP lA (RVs.re unp_sub (fun _ _ e => e) rA)) w3

section
variable {F : CallT} {ex : Ex → Sg → Hu → Prop} {k : Nat}
theorem own_map {c : Sc} {is : List Nat} : (c.own is).map (·.2) = is := by
  unfold Sc.own
  rw [List.map_map]
  exact List.map_id _
/-- a comprehension's parts -/
structure LcP (X : Cx) (F : CallT) (ex : Ex → Sg → Hu → Prop) (t : T) (it : I) (fs : Xs) (a : Pl.X) (elt tg iter : Expr) (ifs : List Expr) (scope : Scope) (own : List (Str × Nat)) : Prop where
  i : PI X tg iter (canI X.kw (wpI F ex it))
  b : BlkOk X.N X.env.scope scope own
  g : ∀ (s : Shared) (H : Hp) (C : Addr) (cl : List (Str × Addr)) (fp : List Addr), PG (X.blk s H scope (compEnvC scope cl C X.env) fp) tg (canG X.kw t.own (wpT F ex t))
  ts : ∀ (s : Shared) (H : Hp) (C : Addr) (cl : List (Str × Addr)) (fp : List Addr), PTs (X.blk s H scope (compEnvC scope cl C X.env) fp) ifs (canB X.kw (wpFs F ex fs))
  e : ∀ (s : Shared) (H : Hp) (C : Addr) (cl : List (Str × Addr)) (fp : List Addr), PE (X.blk s H scope (compEnvC scope cl C X.env) fp) elt (canE X.kw (wpX F ex a).e)
  s : ∀ x, foldedSetIterable iter X.env x = pure x
  o : own.map (·.2) = t.own
theorem LcP.pe {X : Cx} {t : T} {it : I} {fs : Xs} {a : Pl.X} {elt tg iter : Expr} {ifs : List Expr} {scope : Scope} {own : List (Str × Nat)} {pos : Pos} {m : Bool} (p : LcP X F ex t it fs a elt tg iter ifs scope own) (hc : X.calm = true) (hN : X.N.Nodup) :
    PE X (.ListComp elt [⟨tg, iter, ifs, 0⟩] scope pos) (canE X.kw (wpX F ex (.lc m t it fs a)).e) := by
  refine (pe_lc hc hN p.i p.b p.g p.ts p.e p.s).imp fun σ H Q w => ?_
  rw [p.o]
  exact lc_go w

/-- .. of two clauses -/
structure Lc2P (X : Cx) (F : CallT) (ex : Ex → Sg → Hu → Prop) (t : T) (it : I) (fs : Xs) (t1 : T) (it1 : I) (fs1 : Xs) (a : Pl.X) (elt tg iter tg1 iter1 : Expr) (ifs ifs1 : List Expr) (scope : Scope) (own : List (Str × Nat)) : Prop where
  i : PI X tg iter (canI X.kw (wpI F ex it))
  b : BlkOk X.N X.env.scope scope own
  g : ∀ (s : Shared) (H : Hp) (C : Addr) (cl : List (Str × Addr)) (fp : List Addr), PG (X.blk s H scope (compEnvC scope cl C X.env) fp) tg (canG X.kw t.own (wpT F ex t))
  ts : ∀ (s : Shared) (H : Hp) (C : Addr) (cl : List (Str × Addr)) (fp : List Addr), PTs (X.blk s H scope (compEnvC scope cl C X.env) fp) ifs (canB X.kw (wpFs F ex fs))
  i1 : ∀ (s : Shared) (H : Hp) (C : Addr) (cl : List (Str × Addr)) (fp : List Addr), PI (X.blk s H scope (compEnvC scope cl C X.env) fp) tg1 iter1 (canI X.kw (wpI F ex it1))
  g1 : ∀ (s : Shared) (H : Hp) (C : Addr) (cl : List (Str × Addr)) (fp : List Addr), PG (X.blk s H scope (compEnvC scope cl C X.env) fp) tg1 (canG X.kw t1.own (wpT F ex t1))
  ts1 : ∀ (s : Shared) (H : Hp) (C : Addr) (cl : List (Str × Addr)) (fp : List Addr), PTs (X.blk s H scope (compEnvC scope cl C X.env) fp) ifs1 (canB X.kw (wpFs F ex fs1))
  e : ∀ (s : Shared) (H : Hp) (C : Addr) (cl : List (Str × Addr)) (fp : List Addr), PE (X.blk s H scope (compEnvC scope cl C X.env) fp) elt (canE X.kw (wpX F ex a).e)
  s : ∀ x, foldedSetIterable iter X.env x = pure x
  s1 : ∀ env x, foldedSetIterable iter1 env x = pure x
  o : own.map (·.2) = t.own ++ t1.own
theorem Lc2P.pe {X : Cx} {t t1 : T} {it it1 : I} {fs fs1 : Xs} {a : Pl.X} {elt tg iter tg1 iter1 : Expr} {ifs ifs1 : List Expr} {scope : Scope} {own : List (Str × Nat)} {pos : Pos} {m : Bool} (p : Lc2P X F ex t it fs t1 it1 fs1 a elt tg iter tg1 iter1 ifs ifs1 scope own) (hc : X.calm = true) (hN : X.N.Nodup) :
    PE X (.ListComp elt [⟨tg, iter, ifs, 0⟩, ⟨tg1, iter1, ifs1, 0⟩] scope pos) (canE X.kw (wpX F ex (.lc2 m t it fs t1 it1 fs1 a)).e) := by
  refine (pe_lc2 (vs1 := t1.own) hc hN p.i p.b (fun i hi => by rw [p.o]; exact List.mem_append_right _ hi) p.g p.ts p.i1 p.g1 p.ts1 p.e p.s p.s1).imp fun σ H Q w => ?_
  rw [p.o]
  exact lc2_go w

mutual
theorem sndE (hex : ex = fun _ _ _ => False) : ∀ (x : Pl.X) {X : Cx} {c : Sc} {e : Expr}, CtxOk F k X c → okE c e x = true → PE X e (canE X.kw (wpX F ex x).e) ∧ PT X e (canB X.kw (wpX F ex x).b)
  | .cst u, X, c, e, C, h => gen_ok (pe_cst h).1 (pe_cst h).2
  | .var i, X, c, e, C, h => by
    unfold okE at h
    split at h
    · simp only [Bool.and_eq_true, decide_eq_true_eq] at h
      obtain ⟨⟨h1, h2⟩, h3⟩ := h
      exact gen_ok ((pe_var (C.at_ h1) (C.vis h2) (dbg_of h3).1 (dbg_of h3).2.1).imp fun σ H Q ⟨ρ, g, h, q, R, S, ⟨u, e, w⟩, P⟩ => by
        obtain ⟨v, e1, r⟩ := S.at_ _ _ e
        exact ⟨v, e1, P.now R r w⟩) fun _ => rfl
    · cases h
  | .bin op m a b, X, c, e, C, h => by
    unfold okE at h
    split at h
    · simp only [Bool.and_eq_true, beq_iff_eq] at h
      obtain ⟨⟨rfl, h1⟩, h2⟩ := h
      exact gen_ok (h_bin (sndE hex a C h1).1 (sndE hex b C h2).1) fun _ => rfl
    · cases h
  | .neg a, X, c, e, C, h => by
    unfold okE at h
    split at h
    · exact gen_ok (h_neg (sndE hex a C h).1) fun _ => rfl
    · cases h
  | .not a, X, c, e, C, h => by
    unfold okE at h
    split at h
    · exact ⟨h_not (sndE hex a C h).1, h_notB (sndE hex a C h).2⟩
    · cases h
  | .bop isAnd es, X, c, e, C, h => by
    unfold okE at h
    split at h
    · rename_i vs pos
      simp only [Bool.and_eq_true] at h
      obtain ⟨⟨rfl, h1⟩, h2⟩ := h
      have := sndB hex es (pos := pos) C h2 h1
      exact ⟨this.1, this.2.1.pt⟩
    · rename_i vs pos
      simp only [Bool.and_eq_true, Bool.not_eq_true'] at h
      obtain ⟨⟨rfl, h1⟩, h2⟩ := h
      have := sndB hex es (pos := pos) C h2 h1
      exact ⟨this.2.2.1, this.2.2.2.pt⟩
    · cases h
  | .cmp op a b, X, c, e, C, h => by
    unfold okE at h
    split at h
    · simp only [Bool.and_eq_true, beq_iff_eq, Bool.not_eq_true'] at h
      obtain ⟨⟨⟨rfl, hm⟩, h1⟩, h2⟩ := h
      exact h_cmp C (sndE hex a C h1).1 (sndE hex b C h2).1 hm
    · cases h
  | .cmp2 op op' a b d, X, c, e, C, h => by
    unfold okE at h
    split at h
    · simp only [Bool.and_eq_true, beq_iff_eq, Bool.not_eq_true'] at h
      obtain ⟨⟨⟨⟨⟨rfl, rfl⟩, hm⟩, h1⟩, h2⟩, h3⟩ := h
      exact h_cmp2 C (sndE hex a C h1).1 (sndE hex b C h2).1 (sndE hex d C h3).1 hm
    · cases h
  | .ife t a b, X, c, e, C, h => by
    unfold okE at h
    split at h
    · simp only [Bool.and_eq_true] at h
      obtain ⟨⟨h1, h2⟩, h3⟩ := h
      exact ⟨h_ife (sndE hex t C h1).2 (sndE hex a C h2).1 (sndE hex b C h3).1, h_ifeB (sndE hex t C h1).2 (sndE hex a C h2).2 (sndE hex b C h3).2⟩
    · cases h
  | .call f es, X, c, e, C, h => by
    unfold okE at h
    split at h
    · rename_i x p as _
      simp only [Bool.and_eq_true, decide_eq_true_eq] at h
      obtain ⟨⟨⟨⟨rfl, h1⟩, h2⟩, h3⟩, h4⟩ := h
      have hs := okEs_star h4
      cases as with
      | nil =>
        cases es with
        | nil => exact gen_ok (h_call0 C hex h3 h1 h2) fun _ => rfl
        | cons _ _ => unfold okEs at h4; cases h4
      | cons l r => exact gen_ok (h_call C hex (sndEs hex es C h4) h3 h1 h2 hs) fun _ => rfl
    · cases h
  | .bi f m es, X, c, e, C, h => by
    unfold okE at h
    split at h
    · rename_i x p as _
      simp only [Bool.and_eq_true, decide_eq_true_eq] at h
      obtain ⟨⟨⟨rfl, h1⟩, h2⟩, h4⟩ := h
      have hs := okEs_star h4
      cases as with
      | nil => cases h2
      | cons l r => exact gen_ok (h_bi C (sndEs hex es C h4) h1 hs) fun _ => rfl
    · cases h
  | .isi t a, X, c, e, C, h => by
    unfold okE at h
    split at h
    · simp only [Bool.and_eq_true, decide_eq_true_eq] at h
      obtain ⟨⟨⟨⟨rfl, rfl⟩, h1⟩, h2⟩, h3⟩ := h
      exact gen_ok (h_isi C (sndE hex a C h3).1 h1 h2 (okE_star h3)) fun _ => rfl
    · cases h
  | .mth f o es, X, c, e, C, h => by
    unfold okE at h
    split at h
    · rename_i ob nm ap as cp
      simp only [Bool.and_eq_true, decide_eq_true_eq, beq_iff_eq] at h
      obtain ⟨⟨⟨⟨⟨rfl, h1⟩, h2⟩, h3⟩, h4⟩, h5⟩ := h
      have hs := okEs_star h5
      cases as with
      | nil =>
        cases es with
        | nil => exact gen_ok (h_mth0 C (sndE hex o C h4).1 h1 (by simpa using h2)) fun _ => rfl
        | cons _ _ => unfold okEs at h5; cases h5
      | cons l r => exact gen_ok (h_mth C h3 (sndE hex o C h4).1 (sndEs hex es C h5) hs h1 (by simpa using h2)) fun _ => rfl
    · cases h
  | .ix a i, X, c, e, C, h => by
    unfold okE at h
    split at h
    · simp only [Bool.and_eq_true] at h
      exact gen_ok (h_ix C (sndE hex a C h.1).1 (sndE hex i C h.2).1 (okE_slice h.2)) fun _ => rfl
    · cases h
  | .sl m a lo hi, X, c, e, C, h => by
    unfold okE at h
    split at h
    · simp only [Bool.and_eq_true] at h
      exact gen_ok (h_sl (sndE hex a C h.1.1).1 (sndO hex lo C h.1.2) (sndO hex hi C h.2)) fun _ => rfl
    · cases h
  | .tup es, X, c, e, C, h => by
    unfold okE at h
    split at h
    · exact gen_ok (h_tup (sndEs hex es C h)) fun _ => rfl
    · cases h
  | .lst m es, X, c, e, C, h => by
    unfold okE at h
    split at h
    · exact gen_ok (h_lst (sndEs hex es C h)) fun _ => rfl
    · cases h
  | .lc m t it fs a, X, c, e, C, h => by
    unfold okE at h
    split at h
    · rename_i elt tg iter ifs scope pos
      simp only [Bool.and_eq_true] at h
      obtain ⟨⟨⟨⟨⟨h0, h1⟩, h2⟩, h3⟩, h4⟩, h5⟩ := h
      have bo := blkOk_by h0
      have p : LcP X F ex t it fs a elt tg iter ifs scope (c.own t.own) := ⟨sndI hex it C h1, by rw [C.N, C.sc]; exact bo,
        fun s H Ca cl fp => sndT hex t (C.blk s H Ca cl fp bo.kind) h2, fun s H Ca cl fp => sndF hex fs (C.blk s H Ca cl fp bo.kind) h4 h3, fun s H Ca cl fp => (sndE hex a (C.blk s H Ca cl fp bo.kind) h5).1,
        okI_set h1 X.env, own_map⟩
      exact gen_ok (p.pe C.calm C.nd') fun _ => rfl
    · cases h
  | .lc2 m t it fs t1 it1 fs1 a, X, c, e, C, h => by
    unfold okE at h
    split at h
    · rename_i elt tg iter ifs tg1 iter1 ifs1 scope pos
      simp only [Bool.and_eq_true] at h
      obtain ⟨⟨⟨⟨⟨⟨⟨⟨⟨h0, h1⟩, h2⟩, h3⟩, h4⟩, k1⟩, k2⟩, k3⟩, k4⟩, h5⟩ := h
      have bo := blkOk_by h0
      have p : Lc2P X F ex t it fs t1 it1 fs1 a elt tg iter tg1 iter1 ifs ifs1 scope (c.own (t.own ++ t1.own)) := ⟨sndI hex it C h1, by rw [C.N, C.sc]; exact bo,
        fun s H Ca cl fp => sndT hex t (C.blk s H Ca cl fp bo.kind) h2, fun s H Ca cl fp => sndF hex fs (C.blk s H Ca cl fp bo.kind) h4 h3,
        fun s H Ca cl fp => sndI hex it1 (C.blk s H Ca cl fp bo.kind) k1, fun s H Ca cl fp => sndT hex t1 (C.blk s H Ca cl fp bo.kind) k2, fun s H Ca cl fp => sndF hex fs1 (C.blk s H Ca cl fp bo.kind) k4 k3,
        fun s H Ca cl fp => (sndE hex a (C.blk s H Ca cl fp bo.kind) h5).1,
        okI_set h1 X.env, fun env => okI_set k1 env, own_map⟩
      exact gen_ok (p.pe C.calm C.nd') fun _ => rfl
    · cases h
  | .lrg m es, X, c, e, C, h => by
    unfold okE at h
    split at h
    · rename_i x p y p2 as _ _
      simp only [Bool.and_eq_true, decide_eq_true_eq] at h
      obtain ⟨⟨⟨⟨⟨rfl, rfl⟩, h1⟩, h2⟩, h3⟩, h4⟩ := h
      have hs := okEs_star h4
      cases as with
      | nil => cases h3
      | cons l r => exact gen_ok (h_lrg C (sndEs hex es C h4) h1 h2 hs) fun _ => rfl
    · cases h
  | .dic es, X, c, e, C, h => by
    unfold okE at h
    split at h
    · rename_i keys values pos
      simp only [Bool.and_eq_true, decide_eq_true_eq] at h
      have hp := sndPs hex es (pos := pos) C h.2
      cases keys with
      | nil =>
        cases values with
        | cons _ _ => exact (nomatch hp.len)
        | nil =>
          cases es with
          | nil => exact gen_ok h_dic0 fun _ => rfl
          | cons x es =>
            have := h.2
            cases es <;> (unfold okPs at this; cases this)
      | cons a keys => exact gen_ok (h_dic C hp (by simp) h.1) fun _ => rfl
    · cases h
theorem sndPs (hex : ex = fun _ _ _ => False) : ∀ (xs : Xs) {X : Cx} {c : Sc} {ks : List (Option Expr)} {vs : List Expr} {pos : Pos}, CtxOk F k X c → okPs c ks vs xs = true → PsOk X pos ks vs (wpEs F ex xs)
  | .nil, X, c, ks, vs, pos, C, h => by
    unfold okPs at h
    split at h
    · exact psOk_nil
    · cases h
  | .cons x .nil, X, c, ks, vs, pos, C, h => by
    unfold okPs at h
    cases h
  | .cons x (.cons y xs), X, c, ks, vs, pos, C, h => by
    unfold okPs at h
    split at h
    · simp only [Bool.and_eq_true] at h
      exact psOk_cons (sndE hex x C h.1.1).1 (sndE hex y C h.1.2).1 (sndPs hex xs C h.2)
    · cases h
theorem sndEs (hex : ex = fun _ _ _ => False) : ∀ (xs : Xs) {X : Cx} {c : Sc} {es : List Expr}, CtxOk F k X c → okEs c es xs = true → PA X es (canA X.kw (wpEs F ex xs))
  | .nil, X, c, es, C, h => by
    unfold okEs at h
    split at h
    · exact h_nil
    · cases h
  | .cons x xs, X, c, es, C, h => by
    unfold okEs at h
    split at h
    · simp only [Bool.and_eq_true] at h
      exact h_cons (sndE hex x C h.1).1 (sndEs hex xs C h.2) (okE_star h.1)
    · cases h
theorem sndO (hex : ex = fun _ _ _ => False) : ∀ (xs : Xo) {X : Cx} {c : Sc} {e : Option Expr}, CtxOk F k X c → okO c e xs = true → PO X e (canO X.kw (wpO F ex xs))
  | .none, X, c, es, C, h => by
    unfold okO at h
    split at h
    · exact h_oN
    · cases h
  | .some x, X, c, es, C, h => by
    unfold okO at h
    split at h
    · exact h_oS (sndE hex x C h).1
    · cases h
theorem sndF (hex : ex = fun _ _ _ => False) : ∀ (xs : Xs) {X : Cx} {c : Sc} {es : List Expr}, CtxOk F k X c → okEs c es xs = true → decide (es.length ≤ 1) = true → PTs X es (canB X.kw (wpFs F ex xs))
  | .nil, X, c, es, C, h, _ => by
    unfold okEs at h
    split at h
    · exact pts_nil.imp fun σ H Q ⟨ρ, g, h, q, R, S, w, P⟩ => P true h H ρ Ext.refl R w
    · cases h
  | .cons x xs, X, c, es, C, h, hl => by
    unfold okEs at h
    split at h
    · simp only [Bool.and_eq_true] at h
      rename_i e r
      cases r with
      | cons _ _ => simp at hl
      | nil =>
        cases xs with
        | cons _ _ => have := h.2; unfold okEs at this; cases this
        | nil => exact (pts_one (sndE hex x C h.1).2).imp fun σ H Q ⟨ρ, g, h, q, R, S, w, P⟩ => ⟨ρ, g, h, _, R, S, w, fun b h1 H1 ρ1 x1 R1 w1 => P b h1 H1 ρ1 x1 R1 (by cases b <;> exact w1)⟩
    · cases h
theorem sndB (hex : ex = fun _ _ _ => False) : ∀ (xs : Xs) {X : Cx} {c : Sc} {es : List Expr} {pos : Pos}, CtxOk F k X c → okEs c es xs = true → nonEmpty es = true →
    PE X (.BoolOp .And es pos) (canE X.kw (wpBop F ex true xs)) ∧ PW X (.BoolOp .And es pos) (canB X.kw (wpBopB F ex true xs)) ∧ PE X (.BoolOp .Or es pos) (canE X.kw (wpBop F ex false xs)) ∧ PW X (.BoolOp .Or es pos) (canB X.kw (wpBopB F ex false xs))
  | .nil, X, c, es, pos, C, h, hn => by
    unfold okEs at h
    split at h
    · cases hn
    · cases h
  | .cons x xs, X, c, es, pos, C, h, hn => by
    unfold okEs at h
    split at h
    · simp only [Bool.and_eq_true] at h
      rename_i e r
      have hx := sndE hex x C h.1
      cases r with
      | nil =>
        cases xs with
        | cons _ _ => have := h.2; unfold okEs at this; cases this
        | nil => exact ⟨h_bop1 hx.1, h_andB1 hx.2, h_bop1 hx.1, h_orB1 hx.2⟩
      | cons e2 r =>
        have ih := sndB hex xs (pos := pos) C h.2 rfl
        cases xs with
        | nil => have := h.2; unfold okEs at this; cases this
        | cons x2 xs => exact ⟨h_and hx.1 ih.1, h_andB hx.2 ih.2.1, h_or hx.1 ih.2.2.1, h_orB hx.2 ih.2.2.2⟩
    · cases h
theorem sndI (hex : ex = fun _ _ _ => False) : ∀ (it : I) {X : Cx} {c : Sc} {tg e : Expr}, CtxOk F k X c → okI c tg e it = true → PI X tg e (canI X.kw (wpI F ex it))
  | .val x, X, c, tg, e, C, h => by
    unfold okI at h
    exact h_val (sndE hex x C h).1
  | .rng1 a, X, c, tg, e, C, h => by
    unfold okI at h
    split at h
    · simp only [Bool.and_eq_true, decide_eq_true_eq] at h
      obtain ⟨⟨rfl, h1⟩, h2⟩ := h
      exact h_rng1 C (sndE hex a C h2).1 h1 (okE_star h2)
    · cases h
  | .rng2 a b, X, c, tg, e, C, h => by
    unfold okI at h
    split at h
    · simp only [Bool.and_eq_true, decide_eq_true_eq] at h
      obtain ⟨⟨⟨rfl, h1⟩, h2⟩, h3⟩ := h
      exact h_rng2 C (sndE hex a C h2).1 (sndE hex b C h3).1 h1 (okE_star h2) (okE_star h3)
    · cases h
  | .rng3 a b d, X, c, tg, e, C, h => by
    unfold okI at h
    split at h
    · simp only [Bool.and_eq_true, decide_eq_true_eq] at h
      obtain ⟨⟨⟨⟨rfl, h1⟩, h2⟩, h3⟩, h4⟩ := h
      exact h_rng3 C (sndE hex a C h2).1 (sndE hex b C h3).1 (sndE hex d C h4).1 h1 (okE_star h2) (okE_star h3) (okE_star h4)
    · cases h
  | .enum a, X, c, tg, e, C, h => by
    unfold okI at h
    split at h
    · simp only [Bool.and_eq_true, decide_eq_true_eq] at h
      obtain ⟨⟨⟨rfl, h1⟩, h2⟩, h3⟩ := h
      cases tg <;> first
        | exact h_enum C (sndE hex a C h3).1 h1 (okE_star h3)
        | cases h2
    · cases h
theorem sndT (hex : ex = fun _ _ _ => False) : ∀ (t : T) {X : Cx} {c : Sc} {e : Expr}, CtxOk F k X c → okT c e t = true → PG X e (canG X.kw t.own (wpT F ex t))
  | .nm i, X, c, e, C, h => by
    unfold okT at h
    split at h
    · simp only [Bool.and_eq_true, decide_eq_true_eq] at h
      obtain ⟨⟨h1, h2⟩, h3⟩ := h
      exact h_nm C h1 h2 h3
    · cases h
  | .tp ts, X, c, e, C, h => by
    unfold okT at h
    split at h
    · exact h_tp C (sndTs hex ts C h) (okTs_len h) (okTs_star h)
    · cases h
  | .sub o i, X, c, e, C, h => by
    unfold okT at h
    split at h
    · simp only [Bool.and_eq_true] at h
      exact h_sub C (sndE hex o C h.1).1 (sndE hex i C h.2).1 ⟨c, i, h.2⟩
    · cases h
theorem sndTs (hex : ex = fun _ _ _ => False) : ∀ (ts : Ts) {X : Cx} {c : Sc} {es : List Expr}, CtxOk F k X c → okTs c es ts = true → PGs X es (canGs X.kw ts.own (wpTs F ex ts))
  | .nil, X, c, es, C, h => by
    unfold okTs at h
    split at h
    · exact h_tsnil
    · cases h
  | .cons t ts, X, c, es, C, h => by
    unfold okTs at h
    split at h
    · simp only [Bool.and_eq_true] at h
      exact h_tscons (sndT hex t C h.1) (sndTs hex ts C h.2) (okT_star h.1)
    · cases h
end
end
end Pl
set_option Elab.async false
set_option linter.all false
set_option maxRecDepth 100000
set_option maxHeartbeats 1999999
/-! Pl: statements. -/
namespace Pl
open PySem PySem.Spec L2
section
variable {X : Cx} {F : CallT} {ex : Ex → Sg → Hu → Prop} {k : Nat} {c : Sc} {l r s e : Expr} {pos : Pos} {fa fb fc : RE} {ba bb bc : RB} {st : Stmt}

theorem swaps_no {v : Expr} {t : Option Expr} {n : Nat} {env : Env} (h : isComp v = false) : swapsWith v t n env = pure false := by
  cases v <;> first | rfl | cases h
theorem swapsS_no {v t : Expr} {n : Nat} {env : Env} (h : isComp v = false) : swapsWithSole [t] v n env = pure false := swaps_no h
theorem swaps_cell {v : Expr} {y : Str} {p : Pos} {n : Nat} {env : Env} (h : env.scope.names.lookup y ≠ some .local) : swapsWith v (some (.Name y p)) n env = pure false := by
  have hk : (env.kindOf y == some .local) = false := by
    cases z : (env.kindOf y == some NameKind.local) with
    | false => rfl
    | true => exact absurd (show env.kindOf y = some .local by simpa using z) h
  cases hc : isComp v with
  | false => exact swaps_no hc
  | true =>
    cases v <;> first
      | (clear h hc
         unfold swapsWith
         simp only [hk]
         simp
         done)
      | (clear h hc
         unfold swapsWith
         simp only [hk]
         cases env.blockKind <;> rfl)
      | cases hc
theorem stores_no {v t : Expr} {env : Env} (h : isTupE v = false) : swappedStores [t] v env = pure none := by
  cases v <;> first | (cases t <;> rfl) | cases h
theorem stores_nm {v : Expr} {x : Str} {p : Pos} {env : Env} : swappedStores [.Name x p] v env = pure none := by
  cases v <;> rfl
theorem stores_sub {v o i : Expr} {p : Pos} {env : Env} : swappedStores [.Subscript o i p] v env = pure none := by
  cases v <;> rfl

theorem stores_par {x y : Str} {px py : Pos} {kt k2 : Nat} {pt pt2 : Pos} {env : Env} (kx : env.kindOf x = some .local) (ky : env.kindOf y = some .local) (bk : env.blockKind = .function) (hxy : x ≠ y)
    (hl : px.line = py.line) (hf : [l, r].all (foldedForSure 8) = false) (hk : [l, r].all (constantsAlone 8) = false) (sl : noStar l = true) (sr : noStar r = true) :
    swappedStores [.Tuple [.Name x px, .Name y py] kt pt] (.Tuple [l, r] k2 pt2) env = pure (some [x, y]) := by
  have kx' : (env.kindOf x == some NameKind.local) = true := by rw [kx]; rfl
  have ky' : (env.kindOf y == some NameKind.local) = true := by rw [ky]; rfl
  unfold swappedStores
  simp only
  rw [if_neg (by rw [bk]; intro h; cases h)]
  rw [if_neg (by
    intro h
    simp only [List.any_cons, List.any_nil, Bool.or_false, Bool.or_eq_true] at h
    rcases h with h | h
    · cases l <;> first | exact Bool.noConfusion h | exact Bool.noConfusion sl
    · cases r <;> first | exact Bool.noConfusion h | exact Bool.noConfusion sr)]
  simp only [List.filterMap_cons, List.filterMap_nil, kx', ky', List.head?_cons, Option.map_some, Option.getD_some, Expr.pos, hl, beq_self_eq_true, Bool.and_self, if_true]
  rw [if_neg (by simp [List.eraseDups_cons, Ne.symm hxy]), if_neg (by rw [hf]; decide), if_neg (by rw [hk]; decide)]
theorem s_nx : PSs X [] (canS X.kw fun D g h => D.nx g h) := pss_nil.imp fun E σ H ⟨ρ, g, h, D, R, S, w, P⟩ => P.nx g σ h H ρ Ext.refl R S w
theorem s_expr (ha : PE X l (canE X.kw fa)) (hc : isComp l = false) : PS X (.Expr l pos) (canS X.kw fun D g h => fa g h fun _ h1 => D.nx g h1) :=
  (ps_expr ha (swaps_no hc)).imp fun E σ H ⟨ρ, g, h, D, R, S, w, P⟩ => ⟨ρ, g, h, _, R, S, w, fun u h1 v H1 ρ1 x1 R1 r1 w1 => P.nx g σ h1 H1 ρ1 x1 R1 (S.mono R x1) w1⟩
theorem s_ret (ha : PE X l (canE X.kw fa)) : PS X (.Return (some l) pos) (canS X.kw fun D g h => fa g h D.rt) :=
  (ps_ret ha).imp fun E σ H ⟨ρ, g, h, D, R, S, w, P⟩ => ⟨ρ, g, h, _, R, S, w, P.rt⟩
theorem s_retN : PS X (.Return none pos) (canS X.kw fun D g h => D.rt .non h) :=
  ps_retN.imp fun E σ H ⟨ρ, g, h, D, R, S, w, P⟩ => P.rt.now R .non w
theorem s_brk : PS X (.Break pos) (canS X.kw fun D g h => D.bk g h) := ps_break.imp fun E σ H ⟨ρ, g, h, D, R, S, w, P⟩ => P.bk g σ h H ρ Ext.refl R S w
theorem s_cnt : PS X (.Continue pos) (canS X.kw fun D g h => D.ct g h) := ps_continue.imp fun E σ H ⟨ρ, g, h, D, R, S, w, P⟩ => P.ct g σ h H ρ Ext.refl R S w
theorem s_pass : PS X (.Pass pos) (canS X.kw fun D g h => D.nx g h) := ps_pass.imp fun E σ H ⟨ρ, g, h, D, R, S, w, P⟩ => P.nx g σ h H ρ Ext.refl R S w
theorem s_if {a b : List Stmt} {f1 f2 : En → Sg → Hu → Prop} (hc : PT X l (canB X.kw ba)) (ha : PSs X a (canS X.kw f1)) (hb : PSs X b (canS X.kw f2)) : PS X (.If l a b pos) (canS X.kw fun D g h => ba g h fun k h1 => if k = true then f1 D g h1 else f2 D g h1) :=
  (ps_if hc ha hb).imp fun E σ H ⟨ρ, g, h, D, R, S, w, P⟩ => ⟨ρ, g, h, _, R, S, w, fun b h1 H1 ρ1 x1 R1 w1 => by
    cases b with
    | true => exact ⟨ρ1, g, h1, D, R1, S.mono R x1, w1, P.mono x1⟩
    | false => exact ⟨ρ1, g, h1, D, R1, S.mono R x1, w1, P.mono x1⟩⟩
theorem s_cons {sts : List Stmt} {f1 f2 : En → Sg → Hu → Prop} (h1 : PS X st (canS X.kw f1)) (h2 : PSs X sts (canS X.kw f2)) : PSs X (st :: sts) (canS X.kw fun D g h => f1 { D with nx := f2 D } g h) :=
  (pss_cons h1 h2).imp fun E σ H ⟨ρ, g, h, D, R, S, w, P⟩ => ⟨ρ, g, h, _, R, S, w, ⟨fun g' σ' h' H' ρ' x' R' S' w' => ⟨ρ', g', h', D, R', S', w', P.mono x'⟩, P.rt, P.bk, P.ct⟩⟩
theorem asg_go {own : List Nat} {fT : U → Sg → Hu → (Sg → Hu → Prop) → Prop} : ∀ E σ H, canS X.kw (fun D g h => fa g h fun u h1 => fT u g h1 D.nx) E σ H → tAsg (canE X.kw fa) (canG X.kw own fT) E σ H := fun E σ H ⟨ρ, g, h, D, R, S, w, P⟩ =>
  ⟨ρ, g, h, _, R, S, w, fun u h1 v H1 ρ1 x1 R1 r1 w1 => ⟨u, ρ1, g, h1, _, R1, S.mono R x1, r1, w1, fun g' σ' h' H' ρ' x' R' S' _ w' => P.nx g' σ' h' H' ρ' (x1.trans x') R' S' w'⟩⟩
theorem asg_goN {i : Nat} : ∀ E σ H, canS X.kw (fun D g h => fa g h fun u h1 => D.nx (g.set i (some u)) h1) E σ H → tAsg (canE X.kw fa) (gName i) E σ H := fun E σ H ⟨ρ, g, h, D, R, S, w, P⟩ =>
  ⟨ρ, g, h, _, R, S, w, fun u h1 v H1 ρ1 x1 R1 r1 w1 => P.nx _ _ h1 H1 ρ1 x1 R1 ((S.mono R x1).set r1) w1⟩
theorem s_par (C : CtxOk F k X c) {x y : Str} {i j : Nat} {px py : Pos} {kt k2 : Nat} {pt pt2 : Pos} (ha : PE X l (canE X.kw fa)) (hb : PE X r (canE X.kw fb)) (hi : c.N[i]? = some x) (hj : c.N[j]? = some y) (hij : i ≠ j) (hxy : x ≠ y)
    (hx : isLocal c.sc x = true) (hy : isLocal c.sc y = true) (hl : (px.line == py.line) = true) (hf : [l, r].all (foldedForSure 8) = false) (hk : [l, r].all (constantsAlone 8) = false) (sl : noStar l = true) (sr : noStar r = true) :
    PS X (.Assign [.Tuple [.Name x px, .Name y py] kt pt] (.Tuple [l, r] k2 pt2) pos) (canS X.kw fun D g h => fa g h fun u h1 => fb g h1 fun v h2 => D.nx ((g.set i (some u)).set j (some v)) h2) := by
  have kx : X.env.kindOf x = some .local := C.lcl hx
  have ky : X.env.kindOf y = some .local := C.lcl hy
  have kind : X.env.scope.kind = .function := by rw [C.sc]; exact C.kind
  have bk : X.env.blockKind = .function := by unfold Env.blockKind; rw [kind]; rfl
  have hw : swappedStores [.Tuple [.Name x px, .Name y py] kt pt] (.Tuple [l, r] k2 pt2) X.env = pure (some [x, y]) := stores_par kx ky bk hxy (by simpa using hl) hf hk sl sr
  have hA : PA X [l, r] (tCons (canE X.kw fa) (tCons (canE X.kw fb) tNil)) := pa_cons ha (pa_cons hb pa_nil (starEach_of sr)) (starEach_of sl)
  refine (ps_par C.calm C.nd' (C.at_ hi) (C.at_ hj) hij kx ky hA hw).imp fun E σ H ⟨ρ, g, h, D, R, S, w, P⟩ => ⟨ρ, g, h, _, R, S, w, fun u h1 v H1 ρ1 x1 R1 r1 w1 => ⟨ρ1, g, h1, _, R1, S.mono R x1, w1, fun u2 h2 v2 H2 ρ2 x2 R2 r2 w2 =>
    ⟨v, v2, rfl, P.nx _ _ h2 H2 ρ2 (x1.trans x2) R2 ((((S.mono R x1).mono R1 x2).set (r1.mono R1 x2)).set r2) w2⟩⟩⟩
theorem s_aug (C : CtxOk F k X c) {y : Str} {i : Nat} {p : Pos} {op : Bo} (ha : PE X l (canE X.kw fa)) (hi : c.N[i]? = some y) (hl : locB c.sc y = true) (hf : (c.fn y || isLocal c.sc y) = true) (ho : op = .add ∨ op = .sub) :
    PS X (.AugAssign (.Name y p) (opOf op) l pos) (canS X.kw fun D g h => ∃ x, g[i]? = some (some x) ∧ fa g h fun y h1 => ∃ a b, x = .int a ∧ y = .int b ∧ ((op = .add ∧ D.nx (g.set i (some (.int (a + b)))) h1) ∨ (op = .sub ∧ D.nx (g.set i (some (.int (a - b)))) h1))) := by
  rcases ho with rfl | rfl
  · refine (ps_aug C.nd' (C.at_ hi) (C.loc hl) ha ip_add (C.fnl hf)).imp fun E σ H ⟨ρ, g, h, D, R, S, ⟨u, e, w⟩, P⟩ => ?_
    obtain ⟨v, e1, r⟩ := S.at_ _ _ e
    refine ⟨v, e1, ρ, g, h, _, R, S, w, fun u1 h1 v1 H1 ρ1 x1 R1 r1 ⟨a, b, ea, eb, w1⟩ => ?_⟩
    subst ea eb
    cases r
    cases r1
    rcases w1 with ⟨_, w1⟩ | ⟨z, _⟩
    · exact ⟨a, b, rfl, rfl, P.nx _ _ h1 H1 ρ1 x1 R1 ((S.mono R x1).set (.int _)) w1⟩
    · cases z
  · refine (ps_aug C.nd' (C.at_ hi) (C.loc hl) ha ip_sub (C.fnl hf)).imp fun E σ H ⟨ρ, g, h, D, R, S, ⟨u, e, w⟩, P⟩ => ?_
    obtain ⟨v, e1, r⟩ := S.at_ _ _ e
    refine ⟨v, e1, ρ, g, h, _, R, S, w, fun u1 h1 v1 H1 ρ1 x1 R1 r1 ⟨a, b, ea, eb, w1⟩ => ?_⟩
    subst ea eb
    cases r
    cases r1
    rcases w1 with ⟨z, _⟩ | ⟨_, w1⟩
    · cases z
    · exact ⟨a, b, rfl, rfl, P.nx _ _ h1 H1 ρ1 x1 R1 ((S.mono R x1).set (.int _)) w1⟩
theorem s_fr (C : CtxOk F k X c) {tg iter : Expr} {body : List Stmt} {own : List Nat} {fI : Sg → Hu → ((Hu → Prop) → List U → Hu → Prop) → Prop} {fT : U → Sg → Hu → (Sg → Hu → Prop) → Prop} {fb : En → Sg → Hu → Prop}
    (hi : PI X tg iter (canI X.kw fI)) (hg : PG X tg (canG X.kw own fT)) (hb : PSs X body (canS X.kw fb)) (hs : ∀ x, foldedSetIterable iter X.env x = pure x) :
    PS X (.For tg iter body [] pos) (canS X.kw fun D g h => fI g h fun ok xs h1 =>
      frRun (fun x g2 h2 k => ok h2 ∧ fT x g2 h2 fun g3 h3 => fb { D with nx := k, ct := k, bk := D.nx } g3 h3) (fun g2 h2 => ok h2 ∧ D.nx g2 h2) xs g h1) := by
  refine (ps_for (by rw [C.xe]; exact PassesOwn.never) C.calm hi hg hb hs).imp fun E σ H ⟨ρ, g, h, D, R, S, w, P⟩ => ⟨ρ, g, h, _, R, S, w, fun ok xs h1 J H1 ρ1 x1 R1 W1 w1 => ?_⟩
  refine ⟨fun i n σ' H' => n = xs.length - i ∧ i ≤ xs.length ∧ ∃ ρ' g' h', Ext ρ1 H1 ρ' H' ∧ Rl X.kw H' ρ' h' ∧ SgR X.kw H' ρ' g' σ' ∧
      frRun (fun x g2 h2 k => ok h2 ∧ fT x g2 h2 fun g3 h3 => fb { D with nx := k, ct := k, bk := D.nx } g3 h3) (fun g2 h2 => ok h2 ∧ D.nx g2 h2) (xs.drop i) g' h',
    ⟨xs.length, by simp, Nat.zero_le _, ρ1, g, h1, Ext.refl, R1, S.mono R x1, w1⟩, ?_⟩
  rintro i n σ' H' ⟨rfl, hi, ρ', g', h', x2, R2, S2, w2⟩
  by_cases hlt : i < xs.length
  · refine .inr ?_
    rw [List.drop_eq_getElem_cons hlt] at w2
    obtain ⟨okh, w2⟩ := w2
    obtain ⟨go, _⟩ := W1 i ρ' ρ' H' h' x2.w (.inl rfl) R2 okh
    obtain ⟨jgo, yl⟩ := go xs[i] (List.getElem?_eq_getElem hlt)
    refine ⟨jgo, fun σ'' H'' => _, fun σ'' H'' w => ⟨xs.length - (i + 1), by omega, rfl, by omega, w⟩, fun x H3 y => ?_⟩
    obtain ⟨x3, R3, r3⟩ := yl x H3 y
    refine ⟨xs[i], ρ', g', h', _, R3, S2.mono R2 x3, r3, w2, fun g4 σ4 h4 H4 ρ4 x4 R4 S4 _ w4 => ⟨ρ4, g4, h4, _, R4, S4, w4, ?_⟩⟩
    have x14 := x2.trans (x3.trans x4)
    exact ⟨fun g5 σ5 h5 H5 ρ5 x5 R5 S5 w5 => ⟨ρ5, g5, h5, x14.trans x5, R5, S5, w5⟩, P.rt.mono (x1.trans x14), fun g5 σ5 h5 H5 ρ5 x5 R5 S5 w5 => P.nx g5 σ5 h5 H5 ρ5 (x1.trans (x14.trans x5)) R5 S5 w5,
      fun g5 σ5 h5 H5 ρ5 x5 R5 S5 w5 => ⟨ρ5, g5, h5, x14.trans x5, R5, S5, w5⟩⟩
  · have e : i = xs.length := by omega
    subst e
    rw [List.drop_length] at w2
    obtain ⟨okh, w2⟩ := w2
    obtain ⟨_, st⟩ := W1 xs.length ρ' ρ' H' h' x2.w (.inl rfl) R2 okh
    exact .inl ⟨st (Nat.le_refl _), P.nx g' σ' h' H' ρ' (x1.trans x2) R2 S2 w2⟩
theorem s_wh (C : CtxOk F k X c) {body : List Stmt} {fb : En → Sg → Hu → Prop} (hc : PT X l (canB X.kw ba)) (hb : PSs X body (canS X.kw fb)) :
    PS X (.While l body [] pos) (canS X.kw fun D g h => ∃ W : Nat → Sg → Hu → Prop, (∃ m, W m g h) ∧ ∀ m g h, W m g h → ba g h fun k h1 =>
      if k = true then fb { D with nx := fun g' h' => ∃ m', m' < m ∧ W m' g' h', ct := fun g' h' => ∃ m', m' < m ∧ W m' g' h', bk := D.nx } g h1 else D.nx g h1) := by
  refine (ps_while (by rw [C.xe]; exact PassesOwn.never) hc hb).imp fun E σ H ⟨ρ, g, h, D, R, S, ⟨W, ⟨m0, w0⟩, w⟩, P⟩ => ?_
  refine ⟨fun n σ' H' => ∃ ρ' g' h', Ext ρ H ρ' H' ∧ Rl X.kw H' ρ' h' ∧ SgR X.kw H' ρ' g' σ' ∧ W n g' h', ⟨m0, ρ, g, h, Ext.refl, R, S, w0⟩, ?_⟩
  rintro n σ' H' ⟨ρ', g', h', x2, R2, S2, w2⟩
  refine ⟨ρ', g', h', _, R2, S2, w n g' h' w2, fun b h1 H1 ρ1 x1 R1 w1 => ?_⟩
  cases b with
  | true =>
    refine ⟨fun σ'' H'' => ∃ m', m' < n ∧ _, fun σ'' H'' w => w, ρ1, g', h1, _, R1, S2.mono R2 x1, w1, ?_⟩
    have x12 := x2.trans x1
    exact ⟨fun g5 σ5 h5 H5 ρ5 x5 R5 S5 ⟨m', l', w5⟩ => ⟨m', l', ρ5, g5, h5, x12.trans x5, R5, S5, w5⟩, P.rt.mono x12, fun g5 σ5 h5 H5 ρ5 x5 R5 S5 w5 => P.nx g5 σ5 h5 H5 ρ5 (x12.trans x5) R5 S5 w5,
      fun g5 σ5 h5 H5 ρ5 x5 R5 S5 ⟨m', l', w5⟩ => ⟨m', l', ρ5, g5, h5, x12.trans x5, R5, S5, w5⟩⟩
  | false => exact P.nx g' σ' h1 H1 ρ1 (x2.trans x1) R1 (S2.mono R2 x1) w1

/-- y = [..]: the list is stored within the comprehension's frame -/
theorem s_setLc (hex : ex = fun _ _ _ => False) (C : CtxOk F k X c) {i : Nat} {y : Str} {py spos : Pos} {x : Pl.X} {v : Expr} (hi : c.N[i]? = some y) (hx : okE c v x = true) (hw : swapSet c y py v = true) :
    PS X (.Assign [.Name y py] v spos) (canS X.kw fun D g h => (wpX F ex x).e g h fun u h1 => D.nx (g.set i (some u)) h1) := by
  unfold swapSet at hw
  split at hw
  · rename_i elt gs scope pos
    simp only [Bool.and_eq_true] at hw
    obtain ⟨⟨hl, hp⟩, ha⟩ := hw
    cases x with
    | lc m t it fs a =>
      unfold okE at hx
      split at hx
      · rename_i elt' tg iter ifs scope' pos' heq
        cases heq
        simp only [Bool.and_eq_true] at hx
        obtain ⟨⟨⟨⟨⟨h0, h1⟩, h2⟩, h3⟩, h4⟩, h5⟩ := hx
        have bo := blkOk_by h0
        have p : LcP X F ex t it fs a elt tg iter ifs scope (c.own t.own) := ⟨sndI hex it C h1, by rw [C.N, C.sc]; exact bo,
          fun s H Ca cl fp => sndT hex t (C.blk s H Ca cl fp bo.kind) h2, fun s H Ca cl fp => sndF hex fs (C.blk s H Ca cl fp bo.kind) h4 h3, fun s H Ca cl fp => (sndE hex a (C.blk s H Ca cl fp bo.kind) h5).1,
          okI_set h1 X.env, own_map⟩
        have kind : X.env.scope.kind = .function := by rw [C.sc]; exact C.kind
        refine (ps_setLc C.calm C.nd' (C.at_ hi) (C.lcl hl) (sw_true kind (C.lcl hl) hp (by simpa using ha)) p.i p.b p.g p.ts p.e p.s).imp fun E σ H w => ?_
        rw [p.o]
        have w' := asg_goN (X := X) (fa := (wpX F ex (.lc m t it fs a)).e) E σ H w
        exact lc_go w'
      · cases hx
    | _ => unfold okE at hx; first | cases hx | (split at hx <;> first | cases hx | (rename_i q; cases q))
  · cases hw
mutual
theorem sndS (hex : ex = fun _ _ _ => False) : ∀ (s : Pl.S) {X : Cx} {c : Sc} {st : Stmt}, CtxOk F k X c → okS c st s = true → PS X st (canS X.kw (wpS F ex s))
  | .expr x, X, c, st, C, h => by
    unfold okS at h
    split at h
    · simp only [Bool.and_eq_true, Bool.not_eq_true'] at h
      exact s_expr (sndE hex x C h.2).1 h.1
    · cases h
  | .asg t x, X, c, st, C, h => by
    unfold okS at h
    split at h
    · rename_i tg v pos
      simp only [Bool.and_eq_true] at h
      obtain ⟨⟨h1, h2⟩, h3⟩ := h
      have he := (sndE hex x C h2).1
      have hg := sndT hex t C h1
      cases t with
      | nm i =>
        cases tg with
        | Name y py =>
          have h3' : plainSet c y v = true ∨ swapSet c y py v = true := by simpa using h3
          unfold okT at h1
          simp only [Bool.and_eq_true, decide_eq_true_eq] at h1
          obtain ⟨⟨hi, hl⟩, hf⟩ := h1
          rcases h3' with h3 | h3
          · have hs : swapsWith v (some (.Name y py)) pos.line X.env = pure false := by
              unfold plainSet at h3
              rcases Bool.or_eq_true_iff.mp h3 with q | q
              · exact swaps_no (by simpa using q)
              · refine swaps_cell fun z => ?_
                rw [C.sc] at z
                unfold isLocal at q
                rw [z] at q
                cases q
            exact (ps_set C.nd' (C.at_ hi) (C.loc hl) he hs (C.fnl hf)).imp asg_goN
          · exact s_setLc hex C hi h2 h3
        | _ => cases h3
      | tp is =>
        have h3' : isTupE v = false ∧ isComp v = false := by simpa using h3
        exact (ps_asg he hg (swapsS_no h3'.2) (stores_no h3'.1) (by
          unfold okT at h1
          split at h1
          · rfl
          · cases h1)).imp asg_go
      | sub o i =>
        have h3' : isComp v = false := by simpa using h3
        unfold okT at h1
        split at h1
        · exact (ps_asg he hg (swapsS_no h3') stores_sub rfl).imp asg_go
        · cases h1
    · cases h
  | .par i j a b, X, c, st, C, h => by
    unfold okS at h
    split at h
    · simp only [Bool.and_eq_true, decide_eq_true_eq, Bool.not_eq_true'] at h
      obtain ⟨⟨⟨⟨⟨⟨⟨⟨⟨⟨h1, h2⟩, h3⟩, h4⟩, h5⟩, h6⟩, h7⟩, h8⟩, h9⟩, ha⟩, hb⟩ := h
      exact s_par C (sndE hex a C ha).1 (sndE hex b C hb).1 h1 h2 h3 h4 h5 h6 h7 h8 h9 (okE_star ha) (okE_star hb)
    · cases h
  | .aug i op x, X, c, st, C, h => by
    unfold okS at h
    split at h
    · simp only [Bool.and_eq_true, decide_eq_true_eq, beq_iff_eq, Bool.or_eq_true] at h
      obtain ⟨⟨⟨⟨⟨h1, h2⟩, h3⟩, h4⟩, h5⟩, h6⟩ := h
      subst h4
      exact s_aug C (sndE hex x C h6).1 h1 h2 (by simpa using h3) h5
    · cases h
  | .ret x, X, c, st, C, h => by
    unfold okS at h
    split at h
    · exact s_ret (sndE hex x C h).1
    · cases h
  | .retN, X, c, st, C, h => by
    unfold okS at h
    split at h
    · exact s_retN
    · cases h
  | .ifs t a b, X, c, st, C, h => by
    unfold okS at h
    split at h
    · simp only [Bool.and_eq_true] at h
      exact s_if (sndE hex t C h.1.1).2 (sndSs hex a C h.1.2) (sndSs hex b C h.2)
    · cases h
  | .fr t it b, X, c, st, C, h => by
    unfold okS at h
    split at h
    · simp only [Bool.and_eq_true] at h
      exact s_fr C (sndI hex it C h.1.1) (sndT hex t C h.1.2) (sndSs hex b C h.2) (okI_set h.1.1 X.env)
    · cases h
  | .wh t b, X, c, st, C, h => by
    unfold okS at h
    split at h
    · simp only [Bool.and_eq_true] at h
      exact s_wh C (sndE hex t C h.1).2 (sndSs hex b C h.2)
    · cases h
  | .brk, X, c, st, C, h => by
    unfold okS at h
    split at h
    · exact s_brk
    · cases h
  | .cnt, X, c, st, C, h => by
    unfold okS at h
    split at h
    · exact s_cnt
    · cases h
  | .pass, X, c, st, C, h => by
    unfold okS at h
    split at h
    · exact s_pass
    · cases h
theorem sndSs (hex : ex = fun _ _ _ => False) : ∀ (s : Pl.Ss) {X : Cx} {c : Sc} {st : List Stmt}, CtxOk F k X c → okSs c st s = true → PSs X st (canS X.kw (wpSs F ex s))
  | .nil, X, c, st, C, h => by
    unfold okSs at h
    split at h
    · exact s_nx
    · cases h
  | .cons s ss, X, c, st, C, h => by
    unfold okSs at h
    split at h
    · simp only [Bool.and_eq_true] at h
      exact s_cons (f1 := wpS F ex s) (f2 := wpSs F ex ss) (sndS hex s C h.1) (sndSs hex ss C h.2)
    · cases h
end
end
end Pl
set_option Elab.async false
set_option linter.all false
set_option maxRecDepth 100000
set_option maxHeartbeats 1999999
/-! Pl: defs, a program's table. -/
namespace Pl
open PySem PySem.Spec L2

theorem lookup_zip : ∀ {ps : List Str} {us : List Value}, ps.Nodup → us.length = ps.length → ps.filterMap (fun n => ((ps.zip us).lookup n).map fun v => (n, v)) = ps.zip us := by
  have gen : ∀ (ps : List Str) (us : List Value) (pre : List (Str × Value)), ps.Nodup → us.length = ps.length → (∀ n ∈ ps, pre.lookup n = none) → ps.filterMap (fun n => ((pre ++ ps.zip us).lookup n).map fun v => (n, v)) = ps.zip us := by
    intro ps
    induction ps with
    | nil => intro us pre _ _ _; rfl
    | cons p ps ih =>
      intro us pre nd hl hp
      cases us with
      | nil => cases hl
      | cons u us =>
        have hpn := List.nodup_cons.mp nd
        have e1 : (pre ++ (p, u) :: ps.zip us).lookup p = some u := by
          rw [List.lookup_append, hp p List.mem_cons_self]
          simp
        show (p :: ps).filterMap (fun n => ((pre ++ (p, u) :: ps.zip us).lookup n).map fun v => (n, v)) = (p, u) :: ps.zip us
        rw [List.filterMap_cons, e1]
        simp only [Option.map_some]
        have := ih us (pre ++ [(p, u)]) hpn.2 (by simpa using hl) (fun n hn => by
          rw [List.lookup_append, hp n (List.mem_cons_of_mem _ hn)]
          have : (n == p) = false := by
            simp only [beq_eq_false_iff_ne, ne_eq]
            rintro rfl
            exact hpn.1 hn
          simp [List.lookup_cons, this])
        rw [List.append_assoc] at this
        exact congrArg _ this
  intro ps us nd hl
  have := gen ps us [] nd hl (fun _ _ => rfl)
  simpa using this
/-- plain parameters alone -/
def argsB (a : Arguments) (ps : List Str) : Bool := match a with
  | ⟨[], as, none, [], [], none, []⟩ => decide (as.map (·.arg) = ps)
  | _ => false
theorem bind_plain {x qual : Str} {params : Arguments} {body : List Stmt} {scope : Scope} {kV doc pm : Value} {an : Option Addr} {cdv ct : Value} {us : List Value} {ps : List Str} (h : argsB params ps = true) (nd : ps.Nodup) (hl : us.length = ps.length) :
    bindArgs (PySem.W.fnOf x qual params body scope .none kV doc pm an cdv ct) ⟨us, []⟩ = pure (ps.zip us) := by
  unfold argsB at h
  split at h
  · rename_i as
    have e : as.map (·.arg) = ps := by simpa using h
    unfold bindArgs PySem.W.fnOf
    simp only [List.map_nil, List.nil_append, List.append_nil, e]
    have l1 : ¬ ps.length < us.length := by omega
    have mis : (ps.take ps.length).filter (fun n => ((ps.zip us).lookup n).isNone) = [] := by
      rw [List.filter_eq_nil_iff]
      intro n hn
      have hm : n ∈ ps := List.mem_of_mem_take hn
      obtain ⟨i, hi, q⟩ := List.getElem_of_mem hm
      have : ((ps.zip us).lookup n).isSome = true := by
        have hz : (n, us[i]) ∈ ps.zip us := by
          rw [← q]
          rw [show (ps[i], us[i]'(by omega)) = (ps.zip us)[i]'(by simp; omega) from by simp]
          exact List.getElem_mem _
        cases z : (ps.zip us).lookup n with
        | some _ => rfl
        | none =>
          rw [List.lookup_eq_none_iff] at z
          exact absurd (z _ hz) (by simp)
      simp [Option.isNone_iff_eq_none, Option.isSome_iff_ne_none.mp this]
    have sq : seqItems? Value.none = pure none := rfl
    simp only [sq, List.forIn_nil, pure_bind, Option.getD_none, Array.toList_empty, List.length_nil, List.drop_nil, Nat.sub_zero, Option.isNone_none, Bool.and_true, decide_eq_true_eq, l1, if_false, mis, List.zip_nil_right, List.isEmpty_nil]
    have lz := lookup_zip nd hl
    simp [lz]
  · cases h

/-! ### a call's end -/
section
variable {K : Kw} {H H' : Hp} {ρ ρ' : Loc} {h h' : Hu}
theorem frz_ok (R : Rl K H' ρ' h') {n : Nat} (pre : ∃ r, ρ'.ids = ρ.ids ++ r) (hp : ρ'.pen = ρ.pen) (hn : ρ.ids.length = n) : ∀ (d : Nat) {u u' : U} {v : V}, frz h' n d u = some u' → RV K H' ρ' u v → RV K H' ρ u' v
  | 0, u, _, _, e, _ => by cases u <;> cases e
  | d + 1, u, u', v, e, r => by
    obtain ⟨rest, er⟩ := pre
    have all : ∀ (us : List U) (us' : List U) (vs : List V), optAll (us.map (frz h' n d)) = some us' → RVs K H' ρ' us vs → RVs K H' ρ us' vs ∧ us'.length = us.length := by
      intro us
      induction us with
      | nil => intro us' vs e rs; cases rs; cases e; exact ⟨.nil, rfl⟩
      | cons u us ih =>
        intro us' vs e rs
        cases rs with
        | cons r rs =>
          simp only [List.map_cons] at e
          cases z : frz h' n d u with
          | none => rw [z] at e; cases e
          | some w =>
            rw [z] at e
            simp only [optAll, Option.map_eq_some_iff] at e
            obtain ⟨ws, e1, e2⟩ := e
            subst e2
            have := ih ws _ e1 rs
            exact ⟨.cons (frz_ok R ⟨rest, er⟩ hp hn d z r) this.1, by simp [this.2]⟩
    cases r with
    | non => cases e; exact .non
    | bl b => cases e; exact .bl b
    | int i => cases e; exact .int i
    | str x l => cases e; exact .str x l
    | tup s l q =>
      simp only [frz, Option.map_eq_some_iff] at e
      obtain ⟨ws, e1, e2⟩ := e
      subst e2
      have := all _ _ _ e1 q
      exact .tup s (by rw [this.2]; exact l) this.1
    | lst s n1 n2 l q =>
      simp only [frz, Option.map_eq_some_iff] at e
      obtain ⟨ws, e1, e2⟩ := e
      subst e2
      have := all _ _ _ e1 q
      exact .lst s (fun m => n1 (by rw [er]; exact List.mem_append_left _ m)) (by rw [← hp]; exact n2) (by rw [this.2]; exact l) this.1
    | ro s l q =>
      simp only [frz, Option.map_eq_some_iff] at e
      obtain ⟨ws, e1, e2⟩ := e
      subst e2
      have := all _ _ _ e1 q
      exact .ro s (by rw [this.2]; exact l) this.1
    | @mr k a m =>
      simp only [frz] at e
      by_cases hk : k < n
      · rw [if_pos hk] at e
        cases e
        rw [er, List.getElem?_append_left (by omega)] at m
        exact .mr m
      · rw [if_neg hk] at e
        cases z : h'[k]? with
        | none => rw [z] at e; cases e
        | some o =>
          rw [z] at e
          cases o with
          | dic _ => cases e
          | ins _ _ => cases e
          | lst us =>
            simp only [Option.map_eq_some_iff] at e
            obtain ⟨ws, e1, e2⟩ := e
            subst e2
            obtain ⟨b, xs, e3, e4, l, q⟩ := R.lst z
            rw [m] at e3; cases e3
            have := all _ _ _ e1 q
            refine .lst (.inl e4) (fun mm => ?_) (fun mm => ?_) (by rw [this.2]; exact l) this.1
            · obtain ⟨i, hi, ei⟩ := List.getElem_of_mem mm
              have e5 : ρ'.ids[i]? = some a := by
                rw [er, List.getElem?_append_left hi, List.getElem?_eq_getElem hi, ei]
              have := nodup_get R.nd e5 m
              omega
            · exact R.dj a (by rw [hp]; exact mm) (List.mem_of_getElem? m)
    | fn e0 =>
      cases e
      exact .fn e0
mutual
theorem frz_keyU {n : Nat} (pre : ∃ r, ρ'.ids = ρ.ids ++ r) (hp : ρ'.pen = ρ.pen) (hn : ρ.ids.length = n) : ∀ {u : U} {v : V} {k : NestedKey}, keyU u = some k → RV K H' ρ' u v → RV K H' ρ u v
  | _, _, _, _, .non => .non
  | _, _, _, _, .bl b => .bl b
  | _, _, _, _, .int i => .int i
  | _, _, _, _, .str x l => .str x l
  | _, _, _, e, .tup s l r => by
    simp only [keyU, Option.map_eq_some_iff] at e
    obtain ⟨ks, e1, _⟩ := e
    exact .tup s l (frz_keyUs pre hp hn e1 r)
  | _, _, _, e, .lst _ _ _ _ _ => by cases e
  | _, _, _, e, .ro _ _ _ => by cases e
  | _, _, _, e, .mr _ => by cases e
  | _, _, _, e, .fn _ => by cases e
theorem frz_keyUs {n : Nat} (pre : ∃ r, ρ'.ids = ρ.ids ++ r) (hp : ρ'.pen = ρ.pen) (hn : ρ.ids.length = n) : ∀ {us : List U} {vs : List V} {ks : List NestedKey}, keyUs us = some ks → RVs K H' ρ' us vs → RVs K H' ρ us vs
  | _, _, _, _, .nil => .nil
  | u :: us, _, _, e, .cons r rs => by
    unfold keyUs at e
    cases z : keyU u with
    | none => rw [z] at e; cases e
    | some k =>
      cases y : keyUs us with
      | none => rw [z, y] at e; cases e
      | some ks' => exact .cons (frz_keyU pre hp hn z r) (frz_keyUs pre hp hn y rs)
end
theorem frz_key {n : Nat} {u : U} {v : V} {k : NestedKey} (pre : ∃ r, ρ'.ids = ρ.ids ++ r) (hp : ρ'.pen = ρ.pen) (hn : ρ.ids.length = n) (e : kOf u = some k) (r : RV K H' ρ' u v) : RV K H' ρ u v := frz_keyU pre hp hn (kOf_some e).1 r
theorem frzO_ok {a : Addr} (R : Rl K H' ρ' h') {n : Nat} (pre : ∃ r, ρ'.ids = ρ.ids ++ r) (hp : ρ'.pen = ρ.pen) (hn : ρ.ids.length = n) {o o' : O} {ho : HO} (e : frzO h' n o = some o') (r : RO K H' ρ' a o ho) : RO K H' ρ a o' ho := by
  cases o with
  | dic us =>
    simp only [frzO, Option.map_eq_some_iff] at e
    obtain ⟨ws, e1, e2⟩ := e
    subst e2
    cases ho with
    | ext φ =>
      have all : ∀ (us : List (U × U)) (us' : List (U × U)) (vs : Tab), optAll (us.map fun p => (frz h' n 64 p.2).map fun v => (p.1, v)) = some us' → KVs K H' ρ' us vs → KVs K H' ρ us' vs ∧ us'.length = us.length := by
        intro us
        induction us with
        | nil => intro us' vs e rs; cases rs; cases e; exact ⟨.nil, rfl⟩
        | cons u us ih =>
          intro us' vs e rs
          cases rs with
          | @cons k kv kk en u1 v1 _ vs hk r1 q1 z1 r q rs =>
            simp only [List.map_cons] at e
            cases z : frz h' n 64 u1 with
            | none => rw [z] at e; cases e
            | some w =>
              rw [z] at e
              simp only [Option.map_some, optAll, Option.map_eq_some_iff] at e
              obtain ⟨ws, e1, e2⟩ := e
              subst e2
              have := ih ws _ e1 rs
              exact ⟨.cons hk (frz_key pre hp hn hk r1) q1 z1 (frz_ok R pre hp hn 64 z r) q this.1, by simp [this.2]⟩
      obtain ⟨l, ns, T, e3, nd, kv⟩ := r
      have := all _ _ _ e1 kv
      exact ⟨by rw [this.2]; exact l, ns, T, e3, nd, this.1⟩
    | _ => exact r.elim
  | ins c us =>
    simp only [frzO, Option.map_eq_some_iff] at e
    obtain ⟨ws, e1, e2⟩ := e
    subst e2
    cases ho with
    | ins C dx xs =>
      have all : ∀ (us : List (Str × U)) (us' : List (Str × U)) (vs : List (Str × V)), optAll (us.map fun p => (frz h' n 64 p.2).map fun v => (p.1, v)) = some us' → FVs K H' ρ' us vs → FVs K H' ρ us' vs := by
        intro us
        induction us with
        | nil => intro us' vs e rs; cases rs; cases e; exact .nil
        | cons u us ih =>
          intro us' vs e rs
          cases rs with
          | @cons x u1 v1 _ vs r rs =>
            simp only [List.map_cons] at e
            cases z : frz h' n 64 u1 with
            | none => rw [z] at e; cases e
            | some w =>
              rw [z] at e
              simp only [Option.map_some, optAll, Option.map_eq_some_iff] at e
              obtain ⟨ws, e1, e2⟩ := e
              subst e2
              exact .cons (frz_ok R pre hp hn 64 z r) (ih ws _ e1 rs)
      exact ⟨r.1, all _ _ _ e1 r.2⟩
    | _ => exact r.elim
  | lst us =>
    simp only [frzO, Option.map_eq_some_iff] at e
    obtain ⟨ws, e1, e2⟩ := e
    subst e2
    cases ho with
    | lst xs =>
      have key := frz_ok (K := K) (H' := H') (ρ := ρ) R pre hp hn 65 (u := .tup us) (u' := .tup ws) (v := .ref 0)
      have all : ∀ (us : List U) (us' : List U) (vs : List V), optAll (us.map (frz h' n 64)) = some us' → RVs K H' ρ' us vs → RVs K H' ρ us' vs ∧ us'.length = us.length := by
        intro us
        induction us with
        | nil => intro us' vs e rs; cases rs; cases e; exact ⟨.nil, rfl⟩
        | cons u us ih =>
          intro us' vs e rs
          cases rs with
          | cons r rs =>
            simp only [List.map_cons] at e
            cases z : frz h' n 64 u with
            | none => rw [z] at e; cases e
            | some w =>
              rw [z] at e
              simp only [optAll, Option.map_eq_some_iff] at e
              obtain ⟨ws, e1, e2⟩ := e
              subst e2
              have := ih ws _ e1 rs
              exact ⟨.cons (frz_ok R pre hp hn 64 z r) this.1, by simp [this.2]⟩
      have := all _ _ _ e1 r.2
      exact ⟨by rw [this.2]; exact r.1, this.1⟩
    | _ => exact r.elim
theorem frzH_get {n : Nat} : ∀ {g g' : Hu}, frzH h n g = some g' → g'.length = g.length ∧ ∀ (i : Nat) (o' : O), g'[i]? = some o' → ∃ o, g[i]? = some o ∧ frzO h n o = some o'
  | [], g', e => by cases e; exact ⟨rfl, fun i o' e => by cases e⟩
  | o :: r, g', e => by
    simp only [frzH] at e
    cases z : frzO h n o with
    | none => rw [z] at e; cases e
    | some p =>
      rw [z] at e
      cases y : frzH h n r with
      | none => rw [y] at e; cases e
      | some q =>
        rw [y] at e
        cases e
        have ih := frzH_get y
        refine ⟨by simp [ih.1], fun i o' e => ?_⟩
        cases i with
        | zero => simp at e; subst e; exact ⟨o, rfl, z⟩
        | succ i => exact ih.2 i o' (by simpa using e)
mutual
theorem RV.back (pre : ∃ r, ρ'.ids = ρ.ids ++ r) (hp : ρ'.pen = ρ.pen) : ∀ {u : U} {v0 v : V}, RV K H ρ u v0 → RV K H' ρ' u v → RV K H' ρ u v
  | _, _, _, .non, .non => .non
  | _, _, _, .bl _, .bl b => .bl b
  | _, _, _, .int _, .int i => .int i
  | _, _, _, .str _ _, .str x l => .str x l
  | _, _, _, .tup _ _ r0, .tup s l r => .tup s l (RVs.back pre hp r0 r)
  | _, _, _, .lst _ _ _ _ r0, .lst s n1 n2 l r => .lst s (fun m => n1 (by obtain ⟨q, e⟩ := pre; rw [e]; exact List.mem_append_left _ m)) (by rw [← hp]; exact n2) l (RVs.back pre hp r0 r)
  | _, _, _, .ro _ _ r0, .ro s l r => .ro s l (RVs.back pre hp r0 r)
  | _, _, _, .mr e0, .mr e => .mr (by
      obtain ⟨q, z⟩ := pre
      rw [z, List.getElem?_append_left (List.getElem?_eq_some_iff.mp e0).1] at e
      exact e)
  | _, _, _, .fn _, .fn e => .fn e
theorem RVs.back (pre : ∃ r, ρ'.ids = ρ.ids ++ r) (hp : ρ'.pen = ρ.pen) : ∀ {us : List U} {vs0 vs : List V}, RVs K H ρ us vs0 → RVs K H' ρ' us vs → RVs K H' ρ us vs
  | _, _, _, .nil, .nil => .nil
  | _, _, _, .cons r0 q0, .cons r q => .cons (RV.back pre hp r0 r) (RVs.back pre hp q0 q)
end
theorem KVs.back (pre : ∃ r, ρ'.ids = ρ.ids ++ r) (hp : ρ'.pen = ρ.pen) : ∀ {us : List (U × U)} {T0 T : Tab}, KVs K H ρ us T0 → KVs K H' ρ' us T → KVs K H' ρ us T
  | _, _, _, .nil, .nil => .nil
  | _, _, _, .cons _ a0 _ _ b0 _ t0, .cons e a q z b p t => .cons e (a0.back pre hp a) q z (b0.back pre hp b) p (KVs.back pre hp t0 t)
theorem FVs.back (pre : ∃ r, ρ'.ids = ρ.ids ++ r) (hp : ρ'.pen = ρ.pen) : ∀ {us : List (Str × U)} {T0 T : List (Str × V)}, FVs K H ρ us T0 → FVs K H' ρ' us T → FVs K H' ρ us T
  | _, _, _, .nil, .nil => .nil
  | _, _, _, .cons a0 t0, .cons a t => .cons (a0.back pre hp a) (FVs.back pre hp t0 t)
theorem RO.back {a : Addr} {o : O} {h0 ho : HO} (pre : ∃ r, ρ'.ids = ρ.ids ++ r) (hp : ρ'.pen = ρ.pen) (r0 : RO K H ρ a o h0) (r : RO K H' ρ' a o ho) : RO K H' ρ a o ho := by
  cases o with
  | lst us =>
    cases ho with
    | lst xs =>
      cases h0 with
      | lst ys => exact ⟨r.1, RVs.back pre hp r0.2 r.2⟩
      | _ => exact r0.elim
    | _ => exact r.elim
  | dic us =>
    cases ho with
    | ext φ =>
      cases h0 with
      | ext ψ =>
        obtain ⟨_, _, T0, _, _, k0⟩ := r0
        obtain ⟨l, ns, T, e, nd, k⟩ := r
        exact ⟨l, ns, T, e, nd, KVs.back pre hp k0 k⟩
      | _ => exact r0.elim
    | _ => exact r.elim
  | ins c us =>
    cases ho with
    | ins C dx xs =>
      cases h0 with
      | ins C0 dx0 xs0 => exact ⟨r.1, FVs.back pre hp r0.2 r.2⟩
      | _ => exact r0.elim
    | _ => exact r.elim
theorem stl_ok {q : QE} {Q : VK} {u : U} {v : V} (R : Rl K H ρ h) (x : Ext ρ H ρ' H') (R' : Rl K H' ρ' h') (r : RV K H' ρ' u v) (P : PostE K ρ H q Q) (e : stl h u h' q) : Q v H' := by
  obtain ⟨rest, er, en⟩ := x.pre
  have hn : ρ.ids.length = h.length := R.len
  have x' : Ext ρ H ρ H' := ⟨⟨[], by simp, by simp⟩, rfl, x.keep, x.there⟩
  have hl : h.length ≤ h'.length := by
    rw [← hn, ← R'.len, er, List.length_append]; omega
  rcases e with e | ⟨u', h2, e1, e2, e⟩ | ⟨u', e1, e2, e⟩
  · exact P u h' v H' ρ' x R' r e
  · obtain ⟨l2, g2⟩ := frzH_get e2
    refine P u' h2 v H' ρ x' ⟨?_, R.nd, fun i o e' => ?_, fun a m => R'.pn a (by rw [x.pen]; exact m), R.dj⟩ (frz_ok R' ⟨rest, er⟩ x.pen hn 64 e1 r) e
    · rw [l2, List.length_take, Nat.min_eq_left hl, hn]
    · obtain ⟨o1, e3, e4⟩ := g2 i o e'
      have hi : i < h.length := by
        have := (List.getElem?_eq_some_iff.mp e3).1
        simp at this; omega
      rw [List.getElem?_take_of_lt hi] at e3
      obtain ⟨a, ho, e5, e6, e7⟩ := R'.ob i o1 e3
      refine ⟨a, ho, ?_, e6, frzO_ok R' ⟨rest, er⟩ x.pen hn e4 e7⟩
      rw [er, List.getElem?_append_left (by omega)] at e5
      exact e5
  · refine P u' _ v H' ρ x' ⟨?_, R.nd, fun i o e' => ?_, fun a m => R'.pn a (by rw [x.pen]; exact m), R.dj⟩ (frz_ok R' ⟨rest, er⟩ x.pen hn 64 e1 r) e
    · rw [List.length_take, Nat.min_eq_left hl, hn]
    · have hi : i < h.length := by
        have := (List.getElem?_eq_some_iff.mp e').1
        simp at this; omega
      have e3 := e'
      rw [List.getElem?_take_of_lt hi] at e3
      obtain ⟨a, ho, e5, e6, e7⟩ := R'.ob i o e3
      rw [er, List.getElem?_append_left (by omega)] at e5
      refine ⟨a, ho, e5, e6, ?_⟩
      rcases e2 i o e' with z | z
      · obtain ⟨a0, h0, k1, _, k3⟩ := R.ob i o z
        rw [e5] at k1
        cases k1
        exact RO.back ⟨rest, er⟩ x.pen k3 e7
      · exact frzO_ok R' ⟨rest, er⟩ x.pen hn z e7
theorem start_ok {N : List Str} {us : List U} {vs : List V} {n : Nat} (hn : n = N.length) (rs : RVs K H ρ us vs) (hl : us.length ≤ n) : SgR K H ρ (startU n us) (start N vs) := by
  have l := rs.length
  subst hn
  refine ⟨by simp [startU, L2.start, l], fun i u e => ?_⟩
  unfold startU at e
  unfold L2.start
  by_cases hi : i < us.length
  · rw [List.getElem?_append_left (by simpa using hi), List.getElem?_map] at e
    obtain ⟨w, e1, e2⟩ := Option.map_eq_some_iff.mp e
    cases e2
    obtain ⟨v, e3, r⟩ := rs.get e1
    refine ⟨v, ?_, r⟩
    rw [List.getElem?_append_left (by simpa using (by omega : i < vs.length)), List.getElem?_map, e3]; rfl
  · rw [List.getElem?_append_right (by simpa using hi), List.getElem?_replicate] at e
    split at e <;> cases e
end

/-! ### a program's defs -/
structure Df where
  nm : Str
  st : Stmt
  N : List Str
  ps : List Str
  fn : Fn
def scopeB (N P : List Str) (sc : Scope) : Bool :=
  (match sc.kind with | .function => true | _ => false) && !sc.isCoroutine && !sc.isGenerator && decide N.Nodup && decide (N.take P.length = P) && P.all (locB sc) && sc.names.all fun y => match y.2 with | .free => false | _ => true
theorem scope_ok {N P : List Str} {sc : Scope} (h : scopeB N P sc = true) : FnScope N P sc := by
  unfold scopeB at h
  simp only [Bool.and_eq_true, Bool.not_eq_true', decide_eq_true_eq, List.all_eq_true] at h
  obtain ⟨⟨⟨⟨⟨⟨h1, h2⟩, h3⟩, h4⟩, h5⟩, h6⟩, h7⟩ := h
  refine ⟨?_, h2, h3, h4, h5, fun x m => ?_, fun y m e => ?_⟩
  · split at h1
    · assumption
    · cases h1
  · have := h6 x m
    unfold locB at this
    split at this <;> simp_all
  · have := h7 y m
    rw [e] at this
    cases this
def okDf (fs : Str → Option Nat) (d : Df) : Bool :=
  argsB (defArgs d.st) d.ps && scopeB d.N d.ps (defScope d.st) && okSs ⟨d.N, defScope d.st, fun _ => true, fs⟩ (defBody d.st) d.fn.body && decide (d.fn.np = d.ps.length) && decide (d.fn.n = d.N.length) && decide (d.ps.length ≤ d.N.length)
def tblOf (ds : List Df) (f : Str) : Option Fn := (ds.find? fun d => decide (d.nm = f)).map (·.fn)
def fsOf (ds : List Df) (f : Str) : Option Nat := (ds.find? fun d => decide (d.nm = f)).map (·.ps.length)

structure Stands (K : PySem.W.Frag) (mg : Str → Option Value) (ds : List Df) : Prop where
  bi : ∀ x ∈ biNames, mg x = none
  fu : ∀ d ∈ ds, ∃ a fd, mg d.nm = some (.ref a) ∧ FunD K d.nm d.nm (defArgs d.st) (defBody d.st) (defScope d.st) [] [] a fd
section
variable {P : Program} {w : World} {K : PySem.W.Frag} {mg : Str → Option Value} {base : Heap} {ds : List Df}
theorem find_mem {f : Str} {d : Df} (h : (ds.find? fun d => decide (d.nm = f)) = some d) : d ∈ ds ∧ d.nm = f := by
  refine ⟨List.mem_of_find?_eq_some h, ?_⟩
  have := List.find?_some h
  simpa using this
theorem binds_ok {d : Df} {fs : Str → Option Nat} {a : Addr} {fd : FuncData} (ok : okDf fs d = true) (F : FunD K d.nm d.nm (defArgs d.st) (defBody d.st) (defScope d.st) [] [] a fd) : Binds K fd d.ps [] := by
  unfold okDf at ok
  simp only [Bool.and_eq_true] at ok
  have S := scope_ok ok.1.1.1.1.2
  have nd : d.ps.Nodup := by rw [← S.pre]; exact S.nd.sublist (List.take_sublist _ _)
  exact F.bindsN fun kV doc pm an cdv ct us hl => bind_plain ok.1.1.1.1.1 nd hl
/-- THE TABLE: each def does what its plain reading says, to the depth k -/
theorem tbl_ok (ok : ∀ d ∈ ds, okDf (fsOf ds) d = true) (T : Stands K mg ds) : ∀ (k : Nat) (d : Df) (a : Addr) (fd : FuncData), (ds.find? fun e => decide (e.nm = d.nm)) = some d → FunD K d.nm d.nm (defArgs d.st) (defBody d.st) (defScope d.st) [] [] a fd →
    FnOk P w K mg base CX0 k a fd d.ps (spU ⟨K, P, w, mg⟩ (callN (tblOf ds) k) d.nm)
  | 0, d, a, fd, hf, F => ⟨fun vs H Q E ⟨_, _, _, _, _, _, z, _⟩ => z.elim, fun A outer s H args us vs Q E hr e0 hb r ⟨_, _, _, _, _, _, z, _⟩ => z.elim⟩
  | k + 1, d, a, fd, hf, F => by
    have okd := ok d (find_mem hf).1
    have okd' := okd
    unfold okDf at okd'
    simp only [Bool.and_eq_true, decide_eq_true_eq] at okd'
    obtain ⟨⟨⟨⟨⟨o1, o2⟩, o3⟩, o4⟩, o5⟩, o6⟩ := okd'
    have S := scope_ok o2
    have tb : tblOf ds d.nm = some d.fn := by unfold tblOf; rw [hf]; rfl
    refine F.ok S (fun vs H Q E ⟨ρ, us, h, q, R, rs, z, _⟩ => ?_) fun cdv A outer s H vs Q E hr ⟨ρ, us, h, q, R, rs, z, Pq⟩ => ?_
    · obtain ⟨fn, e1, e2, _⟩ := z
      rw [tb] at e1; cases e1
      rw [← rs.length, e2, o4]
    · obtain ⟨fn, e1, e2, z⟩ := z
      rw [tb] at e1; cases e1
      have C : CtxOk (callN (tblOf ds) k) k (cxOf CX0 P w K mg base d.N d.nm (defScope d.st) a cdv A outer s H E).nox ⟨d.N, defScope d.st, fun _ => true, fsOf ds⟩ :=
        { N := rfl, sc := rfl, fn := rfl, nd := S.nd, calm := rfl, room := hr, xe := rfl, kind := S.kind, bi := T.bi, fu := fun f n hn => by
            unfold fsOf at hn
            obtain ⟨d2, h2, rfl⟩ := Option.map_eq_some_iff.mp hn
            obtain ⟨m2, rfl⟩ := find_mem h2
            obtain ⟨a2, fd2, g2, F2⟩ := T.fu d2 m2
            exact ⟨a2, fd2, d2.ps, g2, tbl_ok ok T k d2 a2 fd2 h2 F2, F2.kp, binds_ok (ok d2 m2) F2⟩ }
      refine ⟨canS ⟨K, P, w, mg⟩ (wpSs (callN (tblOf ds) k) (fun e _ h' => False) d.fn.body), PSs.nox (sndSs rfl d.fn.body C o3), ρ, startU d.fn.n us, h, _, R, start_ok o5 rs (by omega), z, ?_⟩
      refine ⟨fun g' σ' h' H' ρ' x R' _ e => stl_ok R x R' .non Pq e, fun u h' v H' ρ' x R' r e => stl_ok R x R' r Pq e, fun _ _ _ _ _ _ _ _ e => e.elim, fun _ _ _ _ _ _ _ _ e => e.elim⟩
end
end Pl
set_option Elab.async false
set_option linter.all false
set_option maxRecDepth 100000
set_option maxHeartbeats 999999
/-! Pl: a law's end. -/
namespace Pl
open PySem PySem.Spec L2
def dD (d : Df) : He.DefD := ⟨(d.nm, none), d.nm, d.nm, defArgs d.st, defBody d.st, defScope d.st, [], []⟩
def faOf (ds : List Df) : List He.Fa := ds.map (fun d => He.Fa.glo d.nm) ++ biNames.map He.Fa.free
abbrev hkOf (ds : List Df) : PySem.W.Hook := He.hookD 4 (faOf ds) (ds.map dD)
def obOf (ds : List Df) (s : PySem.W.SharedT) : He.AlD := He.obsDG 4 (faOf ds) (ds.map dD) (HandSHeadRun.getT s)
theorem obOf_eq (ds : List Df) (s : PySem.W.SharedT) : obOf ds s = (hkOf ds).obs s.abs := He.obsDG_eq (HandSHeadRun.getT_eq s)
theorem stands {K : PySem.W.Frag} {h : Heap} {mg : Str → Option Value} {ds : List Df} (X : K.In h) (G : h.Ns mainGlobals mg) (c : He.SaysD (faOf ds) (ds.map dD) K) : Stands K mg ds := by
  refine ⟨fun x m => He.free_ok X G (c.facts (List.mem_append_right _ (List.mem_map_of_mem m))), fun d m => ?_⟩
  obtain ⟨fd, F⟩ := c.defs (d := dD d) (List.mem_map_of_mem m)
  exact ⟨_, fd, He.glo_ok X G (c.facts (f := .glo d.nm) (List.mem_append_left _ (List.mem_map.mpr ⟨d, m, rfl⟩))), F⟩
theorem ints_rv {K : Kw} {H : Hp} {ρ : Loc} : ∀ ns : List Int, RVs K H ρ (ns.map U.int) (ns.map V.int)
  | [] => .nil
  | n :: r => .cons (.int n) (ints_rv r)
theorem walk_pl {l : PySem.W.OpenLaw} {k : Nat} {q : Program} {loose : List Str} {XP : (Str → Option Value) → Heap → Prop} {d : DefRec} {x : Str} (ds : List Df) (dl : Df)
    (hn : l.most = some 63) (hdf : d.params.defaults = []) (hnm : d.name = ("law" : Str)) (hr : Room k callerA) (ok : ds.all (okDf (fsOf ds)) = true) (hl : (ds.find? fun e => decide (e.nm = ("law" : Str))) = some dl) (hx : dl.ps = [x])
    (law : ∀ ns : List Int, ns.length ≤ 63 → (∀ z ∈ ns, Builtin.Int.intBits z ≤ 1048576) → callN (tblOf ds) k "law" [.ro (ns.map .int)] [] (fun u _ => u = .bl true) fun _ _ => False) :
    PySem.W.WalkO q loose XP (hkOf ds).says l.row.toRowW d [] (fun f vs => PySem.call f vs) := by
  have ok' : ∀ d ∈ ds, okDf (fsOf ds) d = true := List.all_eq_true.mp ok
  obtain ⟨ml, el⟩ := find_mem hl
  refine Att.attach_callB hn hdf fun w s₀ s₁ mg mb fa o pm cd doc a vs ns G Y ho hd hcd hmg hobj hints hlen hbits hg => ?_
  obtain ⟨K, KX, c⟩ := Y
  have S := stands KX G.T.g c
  obtain ⟨a', fd, g', F⟩ := S.fu dl ml
  rw [hnm] at hmg
  rw [el] at g'
  rw [hmg] at g'
  cases g'
  have hl' : (ds.find? fun e => decide (e.nm = dl.nm)) = some dl := by rw [el]; exact hl
  have hok := ok' dl ml
  unfold okDf at hok
  simp only [Bool.and_eq_true] at hok
  have b := FunD.bindsA (ps := dl.ps) F fun kV doc pm an cdv ct us hu => bind_plain hok.1.1.1.1.1 (by rw [hx]; simp) hu
  refine law_call KX G.T.g G.T.b G.T.builtins G.T.nolimit hg hobj hints (Nat.le_trans hlen (by decide)) hr (x := x) (CX := CX0) (sp := spU ⟨K, l.prog, w, mg⟩ (callN (tblOf ds) k) dl.nm) (fun base _ _ => by
    have := tbl_ok (P := l.prog) (w := w) (base := base) ok' S k dl fa fd hl' F
    rw [hx] at this
    exact this) (fun s u => by have := b s [u] (by rw [hx]; rfl); rw [hx] at this; exact this) (fun H hO hS => ?_) (fun H e s' z => z)
  refine ⟨⟨[], []⟩, [.ro (ns.map .int)], [], _, ⟨rfl, by simp, by simp, by simp, by simp⟩, .cons (.ro ?_ ?_ (ints_rv ns)) .nil, by rw [el]; exact law ns hlen hbits, fun u h' v H' ρ' _ _ r e => ?_⟩
  · rcases hS with (e | e) | e
    · rcases hO a with z | ⟨o, xs, z⟩ <;> (rw [z] at e; cases e)
    · exact .inl e
    · exact .inr e
  · rw [List.length_map]; exact Nat.le_trans hlen (by decide)
  · subst e
    cases r
    rfl
end Pl
set_option Elab.async false
set_option linter.all false
set_option maxRecDepth 100000
set_option autoImplicit false
/-! Pl: for proofs in the plain world: the readings as equations. -/
namespace Pl.Eq
open PySem Pl L2
section
variable {F : CallT} {ex : Ex → Sg → Hu → Prop} {g : Sg} {h : Hu} {Q : QE} {B : Bool → Hu → Prop} {D : En} {u : U} {us : List U}
theorem e_cst : (wpX F ex (.cst u)).e g h Q = Q u h := rfl
theorem b_cst : (wpX F ex (.cst u)).b g h B = ∃ b, tru h u = some b ∧ B b h := rfl
theorem e_var {i : Nat} : (wpX F ex (.var i)).e g h Q = ∃ u, g[i]? = some (some u) ∧ Q u h := rfl
theorem b_var {i : Nat} : (wpX F ex (.var i)).b g h B = ∃ u, g[i]? = some (some u) ∧ ∃ b, tru h u = some b ∧ B b h := rfl
theorem e_bin {op m a b} : (wpX F ex (.bin op m a b)).e g h Q = (wpX F ex a).e g h fun x h1 => (wpX F ex b).e g h1 fun y h2 => binR op m x y h2 Q := rfl
theorem b_bin {op m a b} : (wpX F ex (.bin op m a b)).b g h B = (wpX F ex a).e g h fun x h1 => (wpX F ex b).e g h1 fun y h2 => binR op m x y h2 fun x h1 => ∃ b, tru h1 x = some b ∧ B b h1 := rfl
theorem e_neg {a} : (wpX F ex (.neg a)).e g h Q = (wpX F ex a).e g h fun x h1 => ∃ i, x = .int i ∧ Q (.int (-i)) h1 := rfl
theorem e_not {a} : (wpX F ex (.not a)).e g h Q = (wpX F ex a).e g h fun x h1 => ∃ b, tru h1 x = some b ∧ Q (.bl (!b)) h1 := rfl
theorem b_not {a} : (wpX F ex (.not a)).b g h B = (wpX F ex a).b g h fun b h1 => B (!b) h1 := rfl
theorem e_bop {k es} : (wpX F ex (.bop k es)).e g h Q = wpBop F ex k es g h Q := rfl
theorem b_bop {k es} : (wpX F ex (.bop k es)).b g h B = wpBopB F ex k es g h B := rfl
theorem e_cmp {op a b} : (wpX F ex (.cmp op a b)).e g h Q = (wpX F ex a).e g h fun x h1 => (wpX F ex b).e g h1 fun y h2 => cmpR op x y h2 Q := rfl
theorem b_cmp {op a b} : (wpX F ex (.cmp op a b)).b g h B = (wpX F ex a).e g h fun x h1 => (wpX F ex b).e g h1 fun y h2 => cmpR op x y h2 fun x h1 => ∃ b, x = .bl b ∧ B b h1 := rfl
theorem e_cmp2 {op op' a b c} : (wpX F ex (.cmp2 op op' a b c)).e g h Q = (wpX F ex a).e g h fun x h1 => (wpX F ex b).e g h1 fun y h2 => cmpR op x y h2 fun r h3 => ∃ k, r = .bl k ∧
      if k = true then (wpX F ex c).e g h3 fun z h4 => cmpR op' y z h4 Q else Q (.bl false) h3 := rfl
theorem b_cmp2 {op op' a b c} : (wpX F ex (.cmp2 op op' a b c)).b g h B = (wpX F ex a).e g h fun x h1 => (wpX F ex b).e g h1 fun y h2 => cmpR op x y h2 fun r h3 => ∃ k, r = .bl k ∧
      if k = true then (wpX F ex c).e g h3 fun z h4 => cmpR op' y z h4 fun x h1 => ∃ b, x = .bl b ∧ B b h1 else ∃ b, U.bl false = .bl b ∧ B b h3 := rfl
theorem e_ife {c a b} : (wpX F ex (.ife c a b)).e g h Q = (wpX F ex c).b g h fun k h1 => if k = true then (wpX F ex a).e g h1 Q else (wpX F ex b).e g h1 Q := rfl
theorem b_ife {c a b} : (wpX F ex (.ife c a b)).b g h B = (wpX F ex c).b g h fun k h1 => if k = true then (wpX F ex a).b g h1 B else (wpX F ex b).b g h1 B := rfl
theorem e_call {f es} : (wpX F ex (.call f es)).e g h Q = wpEs F ex es g h fun us h1 => F f us h1 Q fun e h2 => ex e g h2 := rfl
theorem b_call {f es} : (wpX F ex (.call f es)).b g h B = wpEs F ex es g h fun us h1 => F f us h1 (fun x h1 => ∃ b, tru h1 x = some b ∧ B b h1) fun e h2 => ex e g h2 := rfl
theorem e_bi {f m es} : (wpX F ex (.bi f m es)).e g h Q = wpEs F ex es g h fun us h1 => biR f m us h1 Q := rfl
theorem b_bi {f m es} : (wpX F ex (.bi f m es)).b g h B = wpEs F ex es g h fun us h1 => biR f m us h1 fun x h1 => ∃ b, tru h1 x = some b ∧ B b h1 := rfl
theorem e_isi {t a} : (wpX F ex (.isi t a)).e g h Q = (wpX F ex a).e g h fun x h1 => isiR t x h1 Q := rfl
theorem b_isi {t a} : (wpX F ex (.isi t a)).b g h B = (wpX F ex a).e g h fun x h1 => isiR t x h1 fun x h1 => ∃ b, tru h1 x = some b ∧ B b h1 := rfl
theorem e_mth {f o es} : (wpX F ex (.mth f o es)).e g h Q = (wpX F ex o).e g h fun x h1 => mtTy f x h1 ∧ wpEs F ex es g h1 fun us h2 => mtR f x us h2 Q := rfl
theorem e_ix {a i} : (wpX F ex (.ix a i)).e g h Q = (wpX F ex a).e g h fun x h1 => (wpX F ex i).e g h1 fun y h2 => ixR x y h2 Q := rfl
theorem b_ix {a i} : (wpX F ex (.ix a i)).b g h B = (wpX F ex a).e g h fun x h1 => (wpX F ex i).e g h1 fun y h2 => ixR x y h2 fun x h1 => ∃ b, tru h1 x = some b ∧ B b h1 := rfl
theorem e_sl {m a lo hi} : (wpX F ex (.sl m a lo hi)).e g h Q = (wpX F ex a).e g h fun x h1 => wpO F ex lo g h1 fun l h2 => wpO F ex hi g h2 fun r h3 => slR m x l r h3 Q := rfl
theorem e_tup {es} : (wpX F ex (.tup es)).e g h Q = wpEs F ex es g h fun us h1 => us.length ≤ sizeLine ∧ Q (.tup us) h1 := rfl
theorem e_lst {m es} : (wpX F ex (.lst m es)).e g h Q = wpEs F ex es g h fun us h1 => us.length ≤ sizeLine ∧ mkL m us h1 Q := rfl
theorem e_lc {m t it fs e} : (wpX F ex (.lc m t it fs e)).e g h Q = wpI F ex it g h fun ok xs h1 => xs.length ≤ sizeLine ∧
      lcRun (fun x h2 k => ok h2 ∧ wpT F ex t x (wipeU g t.own) h2 fun g3 h3 => wpFs F ex fs g3 h3 fun b h4 => if b = true then (wpX F ex e).e g3 h4 fun y h5 => k (some y) h5 else k none h4) xs [] h1 fun ys h2 => ok h2 ∧ mkL m ys h2 Q := rfl
theorem e_lc2 {m t it fs t1 it1 fs1 e} : (wpX F ex (.lc2 m t it fs t1 it1 fs1 e)).e g h Q = wpI F ex it g h fun ok xs h1 => xs.length ≤ sizeLine ∧
      lcRunC (fun x acc h2 k => ok h2 ∧ wpT F ex t x (wipeU g (t.own ++ t1.own)) h2 fun g3 h3 => wpFs F ex fs g3 h3 fun b h4 => if b = true then
        wpI F ex it1 g3 h4 fun ok1 ys h5 => acc.length + ys.length ≤ sizeLine ∧ lcRun (fun y h6 k1 => ok1 h6 ∧ wpT F ex t1 y (wipeU g3 t1.own) h6 fun g7 h7 => wpFs F ex fs1 g7 h7 fun b h8 => if b = true then (wpX F ex e).e g7 h8 fun z h9 => k1 (some z) h9 else k1 none h8) ys acc h5
          fun zs h6 => ok1 h6 ∧ k zs h6
        else k acc h4) xs [] h1 fun ys h2 => ok h2 ∧ mkL m ys h2 Q := rfl
theorem e_lrg {m es} : (wpX F ex (.lrg m es)).e g h Q = wpEs F ex es g h fun us h1 => rgR us fun lo c n => n ≤ 16777216 ∧ mkL m (rngC lo c n) h1 Q := rfl
theorem e_dic {es} : (wpX F ex (.dic es)).e g h Q = wpEs F ex es g h fun us h1 => ∃ ps, pairU us = some ps ∧ ps.length ≤ 15 ∧ (∀ p ∈ ps, (kOf p.1).isSome = true) ∧ Q (.mr h1.length) (h1 ++ [.dic (dputs [] ps)]) := rfl
theorem es_nil {R : List U → Hu → Prop} : wpEs F ex .nil g h R = R [] h := rfl
theorem es_cons {R : List U → Hu → Prop} {e es} : wpEs F ex (.cons e es) g h R = (wpX F ex e).e g h fun x h1 => wpEs F ex es g h1 fun xs h2 => R (x :: xs) h2 := rfl
theorem o_none {R : Option Int → Hu → Prop} : wpO F ex .none g h R = R none h := rfl
theorem o_some {R : Option Int → Hu → Prop} {e} : wpO F ex (.some e) g h R = (wpX F ex e).e g h fun x h1 => ∃ i, x = .int i ∧ R (some i) h1 := rfl
theorem bb_nil {k} : wpBopB F ex k .nil g h B = B k h := rfl
theorem bb_cons {k e es} : wpBopB F ex k (.cons e es) g h B = (wpX F ex e).b g h fun b h1 => if b = k then wpBopB F ex k es g h1 B else B b h1 := rfl
theorem bo_one {k e} : wpBop F ex k (.cons e .nil) g h Q = (wpX F ex e).e g h Q := rfl
theorem bo_cons {k e e' es} : wpBop F ex k (.cons e (.cons e' es)) g h Q = (wpX F ex e).e g h fun x h1 => ∃ b, tru h1 x = some b ∧ if b = k then wpBop F ex k (.cons e' es) g h1 Q else Q x h1 := rfl
theorem f_nil : wpFs F ex .nil g h B = B true h := rfl
theorem f_cons {e es} : wpFs F ex (.cons e es) g h B = (wpX F ex e).b g h fun b h1 => if b = true then wpFs F ex es g h1 B else B false h1 := rfl
section
variable {R : (Hu → Prop) → List U → Hu → Prop}
theorem i_val {e} : wpI F ex (.val e) g h R = (wpX F ex e).e g h fun x h1 => (∃ z, x = .str z ∧ R (fun _ => True) (strU z) h1) ∨ ∃ xs, seqOf h1 x = some xs ∧ R (srcOk x xs) xs h1 := rfl
theorem i_rng1 {a} : wpI F ex (.rng1 a) g h R = (wpX F ex a).e g h fun x h1 => ∃ j : Int, x = .int j ∧ (-(2 ^ 62) ≤ j ∧ j < 2 ^ 62) ∧ R (fun _ => True) (rngU 0 j.toNat) h1 := rfl
theorem i_rng2 {a b} : wpI F ex (.rng2 a b) g h R = (wpX F ex a).e g h fun x h1 => (wpX F ex b).e g h1 fun y h2 => ∃ i j : Int, x = .int i ∧ y = .int j ∧ (-(2 ^ 62) ≤ i ∧ i < 2 ^ 62 ∧ -(2 ^ 62) ≤ j ∧ j < 2 ^ 62) ∧ R (fun _ => True) (rngU i (j - i).toNat) h2 := rfl
theorem i_rng3 {a b c} : wpI F ex (.rng3 a b c) g h R = (wpX F ex a).e g h fun x h1 => (wpX F ex b).e g h1 fun y h2 => (wpX F ex c).e g h2 fun z h3 => rgR [x, y, z] fun lo c n => R (fun _ => True) (rngC lo c n) h3 := rfl
theorem i_enum {e} : wpI F ex (.enum e) g h R = (wpX F ex e).e g h fun x h1 => ∃ xs, seqOf h1 x = some xs ∧ R (srcOk x xs) (enumU 0 xs) h1 := rfl
end
section
variable {N : Sg → Hu → Prop}
theorem t_nm {i} : wpT F ex (.nm i) u g h N = N (g.set i (some u)) h := rfl
theorem t_tp {ts xs} : wpT F ex (.tp ts) (.tup xs) g h N = (xs.length = ts.len ∧ wpTs F ex ts xs g h N) := propext ⟨fun ⟨ys, e, q⟩ => by cases e; exact q, fun q => ⟨xs, rfl, q⟩⟩
theorem ts_nil : wpTs F ex .nil [] g h N = N g h := propext ⟨fun q => q.2, fun q => ⟨rfl, q⟩⟩
theorem ts_cons {t ts r} : wpTs F ex (.cons t ts) (u :: r) g h N = wpT F ex t u g h fun g1 h1 => wpTs F ex ts r g1 h1 N := propext ⟨fun ⟨v, s, e, q⟩ => by cases e; exact q, fun q => ⟨u, r, rfl, q⟩⟩
theorem t_sub {o i} : wpT F ex (.sub o i) u g h N = (wpX F ex o).e g h fun x h1 => (wpX F ex i).e g h1 fun y h2 => setR x y u h2 fun h3 => N g h3 := rfl
end
theorem s_expr {e} : wpS F ex (.expr e) D g h = (wpX F ex e).e g h fun _ h1 => D.nx g h1 := rfl
theorem s_asg {t e} : wpS F ex (.asg t e) D g h = (wpX F ex e).e g h fun u h1 => wpT F ex t u g h1 D.nx := rfl
theorem s_par {i j a b} : wpS F ex (.par i j a b) D g h = (wpX F ex a).e g h fun x h1 => (wpX F ex b).e g h1 fun y h2 => D.nx ((g.set i (some x)).set j (some y)) h2 := rfl
theorem s_aug {i op e} : wpS F ex (.aug i op e) D g h = ∃ x, g[i]? = some (some x) ∧ (wpX F ex e).e g h fun y h1 => ∃ a b, x = .int a ∧ y = .int b ∧ ((op = .add ∧ D.nx (g.set i (some (.int (a + b)))) h1) ∨ (op = .sub ∧ D.nx (g.set i (some (.int (a - b)))) h1)) := rfl
theorem s_ret {e} : wpS F ex (.ret e) D g h = (wpX F ex e).e g h D.rt := rfl
theorem s_retN : wpS F ex .retN D g h = D.rt .non h := rfl
theorem s_ifs {c a b} : wpS F ex (.ifs c a b) D g h = (wpX F ex c).b g h fun k h1 => if k = true then wpSs F ex a D g h1 else wpSs F ex b D g h1 := rfl
theorem s_fr {t it b} : wpS F ex (.fr t it b) D g h = wpI F ex it g h fun ok xs h1 =>
      frRun (fun x g2 h2 k => ok h2 ∧ wpT F ex t x g2 h2 fun g3 h3 => wpSs F ex b ⟨k, D.rt, D.nx, k⟩ g3 h3) (fun g2 h2 => ok h2 ∧ D.nx g2 h2) xs g h1 := rfl
theorem s_wh {c b} : wpS F ex (.wh c b) D g h = ∃ W : Nat → Sg → Hu → Prop, (∃ m, W m g h) ∧ ∀ m g h, W m g h → (wpX F ex c).b g h fun k h1 =>
      if k = true then wpSs F ex b ⟨fun g' h' => ∃ m', m' < m ∧ W m' g' h', D.rt, D.nx, fun g' h' => ∃ m', m' < m ∧ W m' g' h'⟩ g h1 else D.nx g h1 := rfl
theorem s_brk : wpS F ex .brk D g h = D.bk g h := rfl
theorem s_cnt : wpS F ex .cnt D g h = D.ct g h := rfl
theorem s_pass : wpS F ex .pass D g h = D.nx g h := rfl
theorem ss_nil : wpSs F ex .nil D g h = D.nx g h := rfl
theorem ss_cons {s ss} : wpSs F ex (.cons s ss) D g h = wpS F ex s ⟨wpSs F ex ss D, D.rt, D.bk, D.ct⟩ g h := rfl

/-! primitives at known values -/
variable {m : Bool} {i j : Int} {xs ys : List U} {n : Nat}
theorem p_addI : binR .add m (.int i) (.int j) h Q = Q (.int (i + j)) h := rfl
theorem p_addT : binR .add m (.tup xs) (.tup ys) h Q = (xs.length + ys.length ≤ sizeLine ∧ Q (.tup (xs ++ ys)) h) := rfl
theorem p_subI : binR .sub m (.int i) (.int j) h Q = Q (.int (i - j)) h := rfl
theorem p_mulI : binR .mul m (.int i) (.int j) h Q = (cMul i j ∧ Q (.int (i * j)) h) := rfl
theorem p_fdivI : binR .fdiv m (.int i) (.int j) h Q = ((0 < j ∧ j.natAbs.log2 < 9000) ∧ Q (.int (i / j)) h) := rfl
theorem p_modI : binR .mod m (.int i) (.int j) h Q = (0 < j ∧ Q (.int (i % j)) h) := rfl
theorem p_powI : binR .pow m (.int i) (.int j) h Q = ((0 ≤ j ∧ j ≤ 1000000 ∧ -(2 ^ 64) < i ∧ i < 2 ^ 64) ∧ Q (.int (i ^ j.toNat)) h) := rfl
theorem p_lt : cmpR .lt (.int i) (.int j) h Q = Q (.bl (decide (i < j))) h := rfl
theorem p_le : cmpR .le (.int i) (.int j) h Q = Q (.bl (decide (i ≤ j))) h := rfl
theorem p_gt : cmpR .gt (.int i) (.int j) h Q = Q (.bl (decide (j < i))) h := rfl
theorem p_ge : cmpR .ge (.int i) (.int j) h Q = Q (.bl (decide (j ≤ i))) h := rfl
theorem p_eq {x y : U} : cmpR .eq x y h Q = eqR false x y h Q := by cases x <;> cases y <;> rfl
theorem p_ne {x y : U} : cmpR .ne x y h Q = eqR true x y h Q := by cases x <;> cases y <;> rfl
def isN : U → Bool
  | .non => true
  | _ => false
theorem p_isN {x : U} : cmpR .isN x .non h Q = Q (.bl (isN x)) h := by cases x <;> rfl
theorem p_notN {x : U} : cmpR .notN x .non h Q = Q (.bl (!isN x)) h := by cases x <;> rfl
theorem p_isB {a b : Bool} : cmpR .isN (.bl a) (.bl b) h Q = Q (.bl (decide (a = b))) h := rfl
theorem p_notB {a b : Bool} : cmpR .notN (.bl a) (.bl b) h Q = Q (.bl (!decide (a = b))) h := rfl
theorem t_bl {b : Bool} : tru h (.bl b) = some b := rfl
theorem t_int : tru h (.int i) = some (i != 0) := rfl
theorem t_tup : tru h (.tup xs) = some (!xs.isEmpty) := rfl
theorem t_lst : tru h (.lst xs) = some (!xs.isEmpty) := rfl
theorem mk_t : mkL true xs h Q = Q (.mr h.length) (h ++ [.lst xs]) := rfl
theorem mk_f : mkL false xs h Q = Q (.lst xs) h := rfl
/-- the kind of a value as isinstance asks -/
theorem p_len {x : U} {ys : List U} (e : seqOf h x = some ys) : biR .len m [x] h Q = Q (.int ys.length) h := by
  cases x with
  | tup _ => cases e; simp [biR, dicOf, seqOf]
  | lst _ => cases e; simp [biR, dicOf, seqOf]
  | ro _ => cases e; simp [biR, dicOf, seqOf]
  | mr k =>
    have d : dicOf h (.mr k) = none := by
      simp only [seqOf] at e
      simp only [dicOf]
      split at e
      · rename_i z; rw [z]
      · cases e
    simp only [biR, d, e]
    exact propext ⟨fun ⟨xs, q, w⟩ => by cases q; exact w, fun w => ⟨_, rfl, w⟩⟩
  | _ => cases e
theorem i_non_tup  : isiR .tup .non h Q = Q (.bl false) h := rfl
theorem i_non_lst  : isiR .lst .non h Q = Q (.bl false) h := rfl
theorem i_non_int  : isiR .int .non h Q = Q (.bl false) h := rfl
theorem i_non_bl  : isiR .bl .non h Q = Q (.bl false) h := rfl
theorem i_non_str  : isiR .str .non h Q = Q (.bl false) h := rfl
theorem i_non_dic  : isiR .dic .non h Q = Q (.bl false) h := rfl
theorem i_bl_tup {b : Bool} : isiR .tup (.bl b) h Q = Q (.bl false) h := rfl
theorem i_bl_lst {b : Bool} : isiR .lst (.bl b) h Q = Q (.bl false) h := rfl
theorem i_bl_int {b : Bool} : isiR .int (.bl b) h Q = Q (.bl true) h := rfl
theorem i_bl_bl {b : Bool} : isiR .bl (.bl b) h Q = Q (.bl true) h := rfl
theorem i_bl_str {b : Bool} : isiR .str (.bl b) h Q = Q (.bl false) h := rfl
theorem i_bl_dic {b : Bool} : isiR .dic (.bl b) h Q = Q (.bl false) h := rfl
theorem i_int_tup  : isiR .tup (.int i) h Q = Q (.bl false) h := rfl
theorem i_int_lst  : isiR .lst (.int i) h Q = Q (.bl false) h := rfl
theorem i_int_int  : isiR .int (.int i) h Q = Q (.bl true) h := rfl
theorem i_int_bl  : isiR .bl (.int i) h Q = Q (.bl false) h := rfl
theorem i_int_str  : isiR .str (.int i) h Q = Q (.bl false) h := rfl
theorem i_int_dic  : isiR .dic (.int i) h Q = Q (.bl false) h := rfl
theorem i_str_tup {z : Str} : isiR .tup (.str z) h Q = Q (.bl false) h := rfl
theorem i_str_lst {z : Str} : isiR .lst (.str z) h Q = Q (.bl false) h := rfl
theorem i_str_int {z : Str} : isiR .int (.str z) h Q = Q (.bl false) h := rfl
theorem i_str_bl {z : Str} : isiR .bl (.str z) h Q = Q (.bl false) h := rfl
theorem i_str_str {z : Str} : isiR .str (.str z) h Q = Q (.bl true) h := rfl
theorem i_str_dic {z : Str} : isiR .dic (.str z) h Q = Q (.bl false) h := rfl
theorem i_tup_tup  : isiR .tup (.tup xs) h Q = Q (.bl true) h := rfl
theorem i_tup_lst  : isiR .lst (.tup xs) h Q = Q (.bl false) h := rfl
theorem i_tup_int  : isiR .int (.tup xs) h Q = Q (.bl false) h := rfl
theorem i_tup_bl  : isiR .bl (.tup xs) h Q = Q (.bl false) h := rfl
theorem i_tup_str  : isiR .str (.tup xs) h Q = Q (.bl false) h := rfl
theorem i_tup_dic  : isiR .dic (.tup xs) h Q = Q (.bl false) h := rfl
theorem i_lst_tup  : isiR .tup (.lst xs) h Q = Q (.bl false) h := rfl
theorem i_lst_lst  : isiR .lst (.lst xs) h Q = Q (.bl true) h := rfl
theorem i_lst_int  : isiR .int (.lst xs) h Q = Q (.bl false) h := rfl
theorem i_lst_bl  : isiR .bl (.lst xs) h Q = Q (.bl false) h := rfl
theorem i_lst_str  : isiR .str (.lst xs) h Q = Q (.bl false) h := rfl
theorem i_lst_dic  : isiR .dic (.lst xs) h Q = Q (.bl false) h := rfl
theorem n_non  : isN .non = true := rfl
theorem n_bl {b : Bool} : isN (.bl b) = false := rfl
theorem n_int  : isN (.int i) = false := rfl
theorem n_str {z : Str} : isN (.str z) = false := rfl
theorem n_tup  : isN (.tup xs) = false := rfl
theorem n_lst  : isN (.lst xs) = false := rfl
theorem p_slT {lo hi : Option Int} : slR m (.tup xs) lo hi h Q = Q (.tup (cutU xs lo hi)) h := rfl
theorem p_lenT : biR .len m [.tup xs] h Q = Q (.int xs.length) h := p_len rfl
theorem p_lenL : biR .len m [.lst xs] h Q = Q (.int xs.length) h := p_len rfl
theorem p_lenR : biR .len m [.ro xs] h Q = Q (.int xs.length) h := p_len rfl
theorem p_intI : biR .int m [.int i] h Q = Q (.int i) h := rfl
theorem p_tuple {x : U} : biR .tuple m [x] h Q = ∃ ys, seqOf h x = some ys ∧ Q (.tup ys) h := rfl
theorem p_list {x : U} : biR .list m [x] h Q = ∃ ys, itemsOf h x = some ys ∧ mkL m ys h Q := rfl
theorem p_sorted {x : U} : biR .sorted m [x] h Q = ∃ ys, sitemsOf h x = some ys ∧ sortOk ys = true ∧ mkL m (srtU ys) h Q := rfl
theorem p_max1 {x : U} : biR .max1 m [x] h Q = ∃ xs, lstOf h x = some xs ∧ ∃ ns, intsU xs = some ns ∧ ns ≠ [] ∧ Q (.int (maxI ns)) h := propext ⟨fun ⟨a, b, c, d, e⟩ => ⟨a, c, b, d, e⟩, fun ⟨a, c, b, d, e⟩ => ⟨a, b, c, d, e⟩⟩
theorem p_min1 {x : U} : biR .min1 m [x] h Q = ∃ xs, lstOf h x = some xs ∧ ∃ ns, intsU xs = some ns ∧ ns ≠ [] ∧ Q (.int (minI ns)) h := propext ⟨fun ⟨a, b, c, d, e⟩ => ⟨a, c, b, d, e⟩, fun ⟨a, c, b, d, e⟩ => ⟨a, b, c, d, e⟩⟩
theorem p_min : biR .min2 m [.int i, .int j] h Q = Q (.int (if j < i then j else i)) h := rfl
theorem p_intB {b : Bool} : biR .int m [.bl b] h Q = Q (.int (if b then 1 else 0)) h := rfl
theorem p_mulT {k : Int} : binR .mul m (.tup xs) (.int k) h Q = ((xs ≠ [] ∧ 2 ≤ k ∧ k ≤ 1000 ∧ xs.length ≤ 1000) ∧ Q (.tup (List.replicate k.toNat xs).flatten) h) := rfl
theorem p_addLL : binR .add m (.lst xs) (.lst ys) h Q = (xs.length + ys.length ≤ sizeLine ∧ mkL m (xs ++ ys) h Q) := propext ⟨fun ⟨a, b, c, d, e⟩ => by cases c; cases d; exact e, fun e => ⟨xs, ys, rfl, rfl, e⟩⟩
theorem p_slL {lo hi : Option Int} : slR m (.lst xs) lo hi h Q = mkL m (cutU xs lo hi) h Q := propext ⟨fun ⟨a, c, e⟩ => by cases c; exact e, fun e => ⟨xs, rfl, e⟩⟩
theorem it_tup : itemsOf h (.tup xs) = some xs := rfl
theorem it_lst : itemsOf h (.lst xs) = some xs := rfl
theorem it_ro : itemsOf h (.ro xs) = some xs := rfl
theorem si_lst : sitemsOf h (.lst xs) = some xs := rfl
theorem p_all {x : U} : biR .all m [x] h Q = ∃ xs, lstOf h x = some xs ∧ ∃ bs, boolsU xs = some bs ∧ Q (.bl (bs.all id)) h := propext ⟨fun ⟨a, b, c, d, e⟩ => ⟨a, c, b, d, e⟩, fun ⟨a, c, b, d, e⟩ => ⟨a, b, c, d, e⟩⟩
theorem p_any {x : U} : biR .any m [x] h Q = ∃ xs, lstOf h x = some xs ∧ ∃ bs, boolsU xs = some bs ∧ Q (.bl (bs.any id)) h := propext ⟨fun ⟨a, b, c, d, e⟩ => ⟨a, c, b, d, e⟩, fun ⟨a, c, b, d, e⟩ => ⟨a, b, c, d, e⟩⟩
theorem p_max : biR .max2 m [.int i, .int j] h Q = Q (.int (if j > i then j else i)) h := rfl
theorem q_tup : seqOf h (.tup xs) = some xs := rfl
theorem q_lst : seqOf h (.lst xs) = some xs := rfl
theorem q_ro : seqOf h (.ro xs) = some xs := rfl
theorem l_lst : lstOf h (.lst xs) = some xs := rfl
/-! calls, loops -/
theorem call_in {tbl : Str → Option Fn} {d : Nat} {f : Str} {fn : Fn} {E : Ex → Hu → Prop} (e : tbl f = some fn) (l : us.length = fn.np) (hg : startU fn.n us = g)
    (w : wpSs (callN tbl d) (fun e _ h' => E e h') fn.body ⟨fun _ h' => stl h .non h' Q, fun r h' => stl h r h' Q, fun _ _ => False, fun _ _ => False⟩ g h) : callN tbl (d + 1) f us h Q E := by
  subst hg
  exact ⟨fn, e, l, w⟩
theorem frRun_inv {body : U → Sg → Hu → (Sg → Hu → Prop) → Prop} {nx : Sg → Hu → Prop} (I : List U → List U → Sg → Hu → Prop) {xs : List U} :
    ∀ {rest done : List U} {g : Sg} {h : Hu}, done ++ rest = xs → I done rest g h →
      (∀ done x rest g h, done ++ x :: rest = xs → I done (x :: rest) g h → ∀ k : Sg → Hu → Prop, (∀ g' h', I (done ++ [x]) rest g' h' → k g' h') → body x g h k) → (∀ g h, I xs [] g h → nx g h) → frRun body nx rest g h
  | [], done, g, h, e, h0, _, dn => by
    rw [List.append_nil] at e
    subst e
    exact dn g h h0
  | x :: rest, done, g, h, e, h0, st, dn => st done x rest g h e h0 _ fun g' h' i => frRun_inv I (rest := rest) (done := done ++ [x]) (by rw [List.append_assoc]; exact e) i st dn
theorem lcRun_inv {step : U → Hu → (Option U → Hu → Prop) → Prop} {N : List U → Hu → Prop} (I : List U → List U → List U → Hu → Prop) {xs : List U} :
    ∀ {rest done acc : List U} {h : Hu}, done ++ rest = xs → I done rest acc h →
      (∀ done x rest acc h, done ++ x :: rest = xs → I done (x :: rest) acc h → ∀ k : Option U → Hu → Prop, (∀ y h', I (done ++ [x]) rest (acc ++ [y]) h' → k (some y) h') → (∀ h', I (done ++ [x]) rest acc h' → k none h') → step x h k) →
      (∀ acc h, I xs [] acc h → N acc h) → lcRun step rest acc h N
  | [], done, acc, h, e, h0, _, dn => by
    rw [List.append_nil] at e
    subst e
    exact dn acc h h0
  | x :: rest, done, acc, h, e, h0, st, dn => st done x rest acc h e h0 _ (fun y h' i => lcRun_inv I (rest := rest) (done := done ++ [x]) (acc := acc ++ [y]) (by rw [List.append_assoc]; exact e) i st dn)
      fun h' i => lcRun_inv I (rest := rest) (done := done ++ [x]) (acc := acc) (by rw [List.append_assoc]; exact e) i st dn
end
theorem src_tup {xs ys : List U} {h : Hu} : srcOk (.tup xs) ys h = True := rfl
theorem src_lst {xs ys : List U} {h : Hu} : srcOk (.lst xs) ys h = True := rfl
theorem src_ro {xs ys : List U} {h : Hu} : srcOk (.ro xs) ys h = True := rfl
theorem src_mr {n : Nat} {ys : List U} {h : Hu} : srcOk (.mr n) ys h = (h[n]? = some (.lst ys)) := rfl

/-! loops over ranges, rows -/
theorem rng_split {lo : Int} {n : Nat} {done rest : List U} {x : U} (e : done ++ x :: rest = rngU lo n) : x = .int (lo + (done.length : Nat)) ∧ done.length < n ∧ done = rngU lo done.length := by
  have hl : done.length < n := by
    have := congrArg List.length e
    simp [rngU] at this
    omega
  have h1 : (done ++ x :: rest)[done.length]? = some x := by simp
  rw [e] at h1
  unfold rngU at h1
  rw [List.getElem?_map, List.getElem?_range hl] at h1
  refine ⟨(Option.some.inj h1).symm, hl, ?_⟩
  have h2 : (done ++ x :: rest).take done.length = done := by simp
  rw [e] at h2
  rw [← h2]
  unfold rngU
  rw [← List.map_take, List.take_range, Nat.min_eq_left (by omega)]
  simp
theorem frRng {body : U → Sg → Hu → (Sg → Hu → Prop) → Prop} {nx : Sg → Hu → Prop} {lo : Int} {n : Nat} {g : Sg} {h : Hu} (I : Nat → Sg → Hu → Prop) (h0 : I 0 g h)
    (st : ∀ i g h, i < n → I i g h → ∀ k : Sg → Hu → Prop, (∀ g' h', I (i + 1) g' h' → k g' h') → body (.int (lo + (i : Nat))) g h k) (dn : ∀ g h, I n g h → nx g h) : frRun body nx (rngU lo n) g h := by
  refine frRun_inv (xs := rngU lo n) (fun done _ g h => I done.length g h) (done := []) rfl h0 (fun done x rest g h e i k hk => ?_) fun g h i => dn g h (by simpa [rngU] using i)
  obtain ⟨rfl, hl, _⟩ := rng_split e
  exact st _ g h hl i k fun g' h' i' => hk g' h' (by simpa using i')
theorem lcRng {step : U → Hu → (Option U → Hu → Prop) → Prop} {N : List U → Hu → Prop} {lo : Int} {n : Nat} {h : Hu} {acc0 : List U} (I : Nat → List U → Hu → Prop) (h0 : I 0 acc0 h)
    (st : ∀ i acc h, i < n → I i acc h → ∀ k : Option U → Hu → Prop, (∀ y h', I (i + 1) (acc ++ [y]) h' → k (some y) h') → (∀ h', I (i + 1) acc h' → k none h') → step (.int (lo + (i : Nat))) h k) (dn : ∀ acc h, I n acc h → N acc h) : lcRun step (rngU lo n) acc0 h N := by
  refine lcRun_inv (xs := rngU lo n) (fun done _ acc h => I done.length acc h) (done := []) rfl h0 (fun done x rest acc h e i k hk hn => ?_) fun acc h i => dn acc h (by simpa [rngU] using i)
  obtain ⟨rfl, hl, _⟩ := rng_split e
  exact st _ acc h hl i k (fun y h' i' => hk y h' (by simpa using i')) fun h' i' => hn h' (by simpa using i')

theorem lcC_inv {step : U → List U → Hu → (List U → Hu → Prop) → Prop} {N : List U → Hu → Prop} (I : List U → List U → List U → Hu → Prop) {xs : List U} :
    ∀ {rest done acc : List U} {h : Hu}, done ++ rest = xs → I done rest acc h →
      (∀ done x rest acc h, done ++ x :: rest = xs → I done (x :: rest) acc h → ∀ k : List U → Hu → Prop, (∀ acc' h', I (done ++ [x]) rest acc' h' → k acc' h') → step x acc h k) →
      (∀ acc h, I xs [] acc h → N acc h) → lcRunC step rest acc h N
  | [], done, acc, h, e, h0, _, dn => by
    rw [List.append_nil] at e
    subst e
    exact dn acc h h0
  | x :: rest, done, acc, h, e, h0, st, dn => st done x rest acc h e h0 _ fun acc' h' i => lcC_inv I (rest := rest) (done := done ++ [x]) (acc := acc') (by rw [List.append_assoc]; exact e) i st dn
theorem lcCRng {step : U → List U → Hu → (List U → Hu → Prop) → Prop} {N : List U → Hu → Prop} {lo : Int} {n : Nat} {h : Hu} {acc0 : List U} (I : Nat → List U → Hu → Prop) (h0 : I 0 acc0 h)
    (st : ∀ i acc h, i < n → I i acc h → ∀ k : List U → Hu → Prop, (∀ acc' h', I (i + 1) acc' h' → k acc' h') → step (.int (lo + (i : Nat))) acc h k) (dn : ∀ acc h, I n acc h → N acc h) : lcRunC step (rngU lo n) acc0 h N := by
  refine lcC_inv (xs := rngU lo n) (fun done _ acc h => I done.length acc h) (done := []) rfl h0 (fun done x rest acc h e i k hk => ?_) fun acc h i => dn acc h (by simpa [rngU] using i)
  obtain ⟨rfl, hl, _⟩ := rng_split e
  exact st _ acc h hl i k (fun acc' h' i' => hk acc' h' (by simpa using i'))
theorem bools_map : ∀ bs : List Bool, boolsU (bs.map .bl) = some bs
  | [] => rfl
  | b :: bs => by
    show (boolsU (bs.map .bl)).map _ = _
    rw [bools_map bs]; rfl
theorem ints_map : ∀ bs : List Int, intsU (bs.map .int) = some bs
  | [] => rfl
  | b :: bs => by
    show (intsU (bs.map .int)).map _ = _
    rw [ints_map bs]; rfl
theorem frMap {α : Type} {f : α → U} {body : U → Sg → Hu → (Sg → Hu → Prop) → Prop} {nx : Sg → Hu → Prop} (I : List α → Sg → Hu → Prop)
    (st : ∀ x rest g h, I (x :: rest) g h → ∀ k : Sg → Hu → Prop, (∀ g' h', I rest g' h' → k g' h') → body (f x) g h k) (dn : ∀ g h, I [] g h → nx g h) :
    ∀ {xs : List α} {g : Sg} {h : Hu}, I xs g h → frRun body nx (xs.map f) g h
  | [], g, h, i => dn g h i
  | x :: xs, g, h, i => st x xs g h i _ fun g' h' i' => frMap I st dn (xs := xs) i'
theorem frEnum {α : Type} {f : α → U} {body : U → Sg → Hu → (Sg → Hu → Prop) → Prop} {nx : Sg → Hu → Prop} (I : Nat → List α → Sg → Hu → Prop)
    (st : ∀ i x rest g h, I i (x :: rest) g h → ∀ k : Sg → Hu → Prop, (∀ g' h', I (i + 1) rest g' h' → k g' h') → body (.tup [.int i, f x]) g h k) (dn : ∀ i g h, I i [] g h → nx g h) :
    ∀ {xs : List α} {i : Nat} {g : Sg} {h : Hu}, I i xs g h → frRun body nx (enumU i (xs.map f)) g h
  | [], i, g, h, a => dn i g h a
  | x :: xs, i, g, h, a => st i x xs g h a _ fun g' h' i' => frEnum I st dn (xs := xs) i'
theorem lcMap {α : Type} {f : α → U} {step : U → Hu → (Option U → Hu → Prop) → Prop} {N : List U → Hu → Prop} (I : List α → List U → Hu → Prop)
    (st : ∀ x rest acc h, I (x :: rest) acc h → ∀ k : Option U → Hu → Prop, (∀ y h', I rest (acc ++ [y]) h' → k (some y) h') → (∀ h', I rest acc h' → k none h') → step (f x) h k) (dn : ∀ acc h, I [] acc h → N acc h) :
    ∀ {xs : List α} {acc : List U} {h : Hu}, I xs acc h → lcRun step (xs.map f) acc h N
  | [], acc, h, i => dn acc h i
  | x :: xs, acc, h, i => st x xs acc h i _ (fun y h' i' => lcMap I st dn (xs := xs) i') fun h' i' => lcMap I st dn (xs := xs) i'

/-! primitives over the heap, by what stands there -/
section
variable {h : Hu} {Q : QE} {m : Bool} {i : Int} {xs : List U} {n : Nat} {u v : U} {kvs : List (U × U)}
def atP (o : Option U) (P : U → Prop) : Prop := match o with
  | some v => P v
  | none => False
theorem atP_some {P : U → Prop} : atP (some v) P = P v := rfl
theorem atP_ex {o : Option U} {P : U → Prop} : (∃ v, o = some v ∧ P v) = atP o P := by
  cases o <;> simp [atP]
theorem x_tup_ : ixR (.tup xs) (.int i) h Q = atP (atI xs i) fun v => Q v h := by
  rw [← atP_ex]; simp [ixR, dicOf, seqOf]
theorem x_lst_ : ixR (.lst xs) (.int i) h Q = atP (atI xs i) fun v => Q v h := by
  rw [← atP_ex]; simp [ixR, dicOf, seqOf]
theorem x_ro_ : ixR (.ro xs) (.int i) h Q = atP (atI xs i) fun v => Q v h := by
  rw [← atP_ex]; simp [ixR, dicOf, seqOf]
/-! a changeable object, by what stands there -/
def seqO : Option O → Option (List U)
  | some (.lst xs) => some xs
  | _ => none
def dicO : Option O → Option (List (U × U))
  | some (.dic kvs) => some kvs
  | _ => none
def truO : Option O → Option Bool
  | some (.lst xs) => some (!xs.isEmpty)
  | _ => none
def ixO (o : Option O) (y : U) (h : Hu) (Q : QE) : Prop := match o, y with
  | some (.lst xs), .int i => atP (atI xs i) fun v => Q v h
  | some (.dic kvs), y => (kOf y).isSome = true ∧ atP (dlook kvs y) fun v => Q v h
  | _, _ => False
def setO (o : Option O) (n : Nat) (y v : U) (h : Hu) (N : Hu → Prop) : Prop := match o, y with
  | some (.lst xs), .int i => ∃ j, ixN xs.length i = some j ∧ N (h.set n (.lst (xs.set j v)))
  | some (.dic kvs), y => (kOf y).isSome = true ∧ kvs.length < sizeLine ∧ N (h.set n (.dic (dput kvs y v)))
  | _, _ => False
def lenO (o : Option O) (h : Hu) (Q : QE) : Prop := match o with
  | some (.lst xs) => Q (.int xs.length) h
  | some (.dic kvs) => Q (.int kvs.length) h
  | _ => False
def inO (o : Option O) (neg : Bool) (x y : U) (h : Hu) (Q : QE) : Prop := match o with
  | some (.dic kvs) => dinR neg x kvs h Q
  | _ => inR neg x y h Q
def itO : Option O → Option (List U)
  | some (.lst xs) => some xs
  | some (.dic kvs) => some (kvs.map (·.1))
  | _ => none
def tyO (f : Mt) (o : Option O) : Prop := match f with
  | .get1 => ∃ kvs, dicO o = some kvs
  | .get2 => ∃ kvs, dicO o = some kvs
  | _ => ∃ xs, seqO o = some xs
def mtO (f : Mt) (o : Option O) (n : Nat) (us : List U) (h : Hu) (Q : QE) : Prop := match f, o, us with
  | .append, some (.lst xs), [u] => xs.length < sizeLine ∧ Q .non (h.set n (.lst (xs ++ [u])))
  | .pop0, some (.lst xs), [] => atP xs[xs.length - 1]? fun y => Q y (h.set n (.lst xs.dropLast))
  | .pop1, some (.lst xs), [.int i] => (-(2 ^ 63) ≤ i ∧ i < 2 ^ 63) ∧ ∃ k, ixN xs.length i = some k ∧ atP xs[k]? fun y => Q y (h.set n (.lst (xs.eraseIdx k)))
  | .extend, some (.lst xs), [u] => ∃ ys, lstOf h u = some ys ∧ xs.length + ys.length ≤ sizeLine ∧ Q .non (h.set n (.lst (xs ++ ys)))
  | .insert, some (.lst xs), [.int i, u] => xs.length < sizeLine ∧ (0 ≤ i ∧ i < 2 ^ 63) ∧ Q .non (h.set n (.lst (xs.take i.toNat ++ [u] ++ xs.drop i.toNat)))
  | .get1, some (.dic kvs), [u] => (kOf u).isSome = true ∧ Q ((dlook kvs u).getD .non) h
  | .get2, some (.dic kvs), [u, v] => (kOf u).isSome = true ∧ Q ((dlook kvs u).getD v) h
  | _, _, _ => False
theorem seq_mr : seqOf h (.mr n) = seqO h[n]? := by
  simp only [seqOf]
  cases h[n]? with
  | none => rfl
  | some o => cases o <;> rfl
theorem lst_mr : lstOf h (.mr n) = seqO h[n]? := by
  simp only [lstOf]
  cases h[n]? with
  | none => rfl
  | some o => cases o <;> rfl
theorem dic_mr : dicOf h (.mr n) = dicO h[n]? := by
  simp only [dicOf]
  cases h[n]? with
  | none => rfl
  | some o => cases o <;> rfl
theorem tru_mr : tru h (.mr n) = truO h[n]? := by
  simp only [tru]
  cases h[n]? with
  | none => rfl
  | some o => cases o <;> rfl
theorem it_mr : itemsOf h (.mr n) = itO h[n]? := by
  simp only [itemsOf, dic_mr, seq_mr]
  cases h[n]? with
  | none => rfl
  | some o => cases o <;> rfl
theorem si_mr : sitemsOf h (.mr n) = itO h[n]? := by
  simp only [sitemsOf, dic_mr, lst_mr]
  cases h[n]? with
  | none => rfl
  | some o => cases o <;> rfl
theorem x_mr {y : U} : ixR (.mr n) y h Q = ixO h[n]? y h Q := by
  have e : ixR (.mr n) y h Q = (match dicO h[n]? with
    | some kvs => ∃ v, (kOf y).isSome = true ∧ dlook kvs y = some v ∧ Q v h
    | none => ∃ k xs v, y = .int k ∧ seqO h[n]? = some xs ∧ atI xs k = some v ∧ Q v h) := by
    rw [← dic_mr, ← seq_mr]; cases y <;> rfl
  rw [e]
  cases h[n]? with
  | none => simp [dicO, seqO, ixO]
  | some o =>
    cases o with
    | lst xs => cases y <;> simp [dicO, seqO, ixO, ← atP_ex]
    | dic kvs =>
      simp only [dicO, ixO, ← atP_ex]
      exact propext ⟨fun ⟨v, a, b, c⟩ => ⟨a, v, b, c⟩, fun ⟨a, v, b, c⟩ => ⟨v, a, b, c⟩⟩
    | ins c fs => simp [dicO, seqO, ixO]
theorem set_mr {y : U} {N : Hu → Prop} : setR (.mr n) y v h N = setO h[n]? n y v h N := by
  have e : setR (.mr n) y v h N = ((∃ k xs j, y = .int k ∧ h[n]? = some (.lst xs) ∧ ixN xs.length k = some j ∧ N (h.set n (.lst (xs.set j v)))) ∨
      ∃ kvs, h[n]? = some (.dic kvs) ∧ (kOf y).isSome = true ∧ kvs.length < sizeLine ∧ N (h.set n (.dic (dput kvs y v)))) := rfl
  rw [e]
  cases h[n]? with
  | none => simp [setO]
  | some o =>
    cases o with
    | lst xs => cases y <;> simp [setO]
    | dic kvs => simp [setO]
    | ins c fs => simp [setO]
theorem len_mr : biR .len m [.mr n] h Q = lenO h[n]? h Q := by
  have e : biR .len m [.mr n] h Q = (match dicO h[n]? with
    | some kvs => Q (.int kvs.length) h
    | none => ∃ xs, seqO h[n]? = some xs ∧ Q (.int xs.length) h) := by rw [← dic_mr, ← seq_mr]; rfl
  rw [e]
  cases h[n]? with
  | none => simp [dicO, seqO, lenO]
  | some o => cases o <;> simp [dicO, seqO, lenO]
theorem in_mr {x : U} : cmpR .inn x (.mr n) h Q = inO h[n]? false x (.mr n) h Q := by
  have e : cmpR .inn x (.mr n) h Q = (match dicO h[n]? with
    | some kvs => dinR false x kvs h Q
    | none => inR false x (.mr n) h Q) := by rw [← dic_mr]; cases x <;> rfl
  rw [e]
  cases h[n]? with
  | none => rfl
  | some o => cases o <;> rfl
theorem nin_mr {x : U} : cmpR .nin x (.mr n) h Q = inO h[n]? true x (.mr n) h Q := by
  have e : cmpR .nin x (.mr n) h Q = (match dicO h[n]? with
    | some kvs => dinR true x kvs h Q
    | none => inR true x (.mr n) h Q) := by rw [← dic_mr]; cases x <;> rfl
  rw [e]
  cases h[n]? with
  | none => rfl
  | some o => cases o <;> rfl
theorem ty_mr {f : Mt} : mtTy f (.mr n) h = tyO f h[n]? := by
  cases f <;> simp only [mtTy, tyO, lst_mr, dic_mr]
theorem mt_mr {f : Mt} {us : List U} (hf : f ≠ .index) : mtR f (.mr n) us h Q = mtO f h[n]? n us h Q := by
  cases f with
  | index => exact absurd rfl hf
  | append =>
    cases e : h[n]? with
    | none => rcases us with _ | ⟨u, _ | ⟨_, _⟩⟩ <;> simp [mtR, mtO, e]
    | some o => cases o <;> rcases us with _ | ⟨u, _ | ⟨_, _⟩⟩ <;> simp [mtR, mtO, e]
  | pop0 =>
    cases e : h[n]? with
    | none => rcases us with _ | ⟨u, _⟩ <;> simp [mtR, mtO, e]
    | some o => cases o <;> rcases us with _ | ⟨u, _⟩ <;> simp [mtR, mtO, e, ← atP_ex]
  | pop1 =>
    cases e : h[n]? with
    | none => rcases us with _ | ⟨u, _ | ⟨_, _⟩⟩ <;> first | (simp [mtR, mtO, e]; done) | (cases u <;> simp [mtR, mtO, e])
    | some o => cases o <;> rcases us with _ | ⟨u, _ | ⟨_, _⟩⟩ <;> first | (simp [mtR, mtO, e]; done) | (cases u <;> simp [mtR, mtO, e, ← atP_ex])
  | extend =>
    cases e : h[n]? with
    | none => rcases us with _ | ⟨u, _ | ⟨_, _⟩⟩ <;> simp [mtR, mtO, e]
    | some o => cases o <;> rcases us with _ | ⟨u, _ | ⟨_, _⟩⟩ <;> simp [mtR, mtO, e]
  | insert =>
    cases e : h[n]? with
    | none => rcases us with _ | ⟨u, _ | ⟨_, _ | ⟨_, _⟩⟩⟩ <;> first | (simp [mtR, mtO, e]; done) | (cases u <;> simp [mtR, mtO, e])
    | some o => cases o <;> rcases us with _ | ⟨u, _ | ⟨_, _ | ⟨_, _⟩⟩⟩ <;> first | (simp [mtR, mtO, e]; done) | (cases u <;> simp [mtR, mtO, e])
  | get1 =>
    cases e : h[n]? with
    | none => rcases us with _ | ⟨u, _ | ⟨_, _⟩⟩ <;> simp [mtR, mtO, e]
    | some o => cases o <;> rcases us with _ | ⟨u, _ | ⟨_, _⟩⟩ <;> simp [mtR, mtO, e]
  | get2 =>
    cases e : h[n]? with
    | none => rcases us with _ | ⟨u, _ | ⟨_, _ | ⟨_, _⟩⟩⟩ <;> simp [mtR, mtO, e]
    | some o => cases o <;> rcases us with _ | ⟨u, _ | ⟨_, _ | ⟨_, _⟩⟩⟩ <;> simp [mtR, mtO, e]
theorem mt_app {us : List U} : mtR .append (.mr n) us h Q = mtO .append h[n]? n us h Q := mt_mr (by decide)
theorem mt_p0 {us : List U} : mtR .pop0 (.mr n) us h Q = mtO .pop0 h[n]? n us h Q := mt_mr (by decide)
theorem mt_p1 {us : List U} : mtR .pop1 (.mr n) us h Q = mtO .pop1 h[n]? n us h Q := mt_mr (by decide)
theorem mt_ex {us : List U} : mtR .extend (.mr n) us h Q = mtO .extend h[n]? n us h Q := mt_mr (by decide)
theorem mt_in {us : List U} : mtR .insert (.mr n) us h Q = mtO .insert h[n]? n us h Q := mt_mr (by decide)
theorem mt_g1 {us : List U} : mtR .get1 (.mr n) us h Q = mtO .get1 h[n]? n us h Q := mt_mr (by decide)
theorem mt_g2 {us : List U} : mtR .get2 (.mr n) us h Q = mtO .get2 h[n]? n us h Q := mt_mr (by decide)
/-! what these say of a list, of a dict -/
theorem oL_seq : seqO (some (.lst xs)) = some xs := rfl
theorem oL_tru : truO (some (.lst xs)) = some (!xs.isEmpty) := rfl
theorem oL_it : itO (some (.lst xs)) = some xs := rfl
theorem oL_ix : ixO (some (.lst xs)) (.int i) h Q = atP (atI xs i) fun v => Q v h := rfl
theorem oL_set {N : Hu → Prop} : setO (some (.lst xs)) n (.int i) v h N = ∃ j, ixN xs.length i = some j ∧ N (h.set n (.lst (xs.set j v))) := rfl
theorem oL_len : lenO (some (.lst xs)) h Q = Q (.int xs.length) h := rfl
theorem oL_in {neg : Bool} {x y : U} : inO (some (.lst xs)) neg x y h Q = inR neg x y h Q := rfl
theorem oL_tyA : tyO .append (some (.lst xs)) = True := eq_true ⟨xs, rfl⟩
theorem oL_tyI : tyO .index (some (.lst xs)) = True := eq_true ⟨xs, rfl⟩
theorem oL_tyP : tyO .pop0 (some (.lst xs)) = True := eq_true ⟨xs, rfl⟩
theorem oL_tyQ : tyO .pop1 (some (.lst xs)) = True := eq_true ⟨xs, rfl⟩
theorem oL_tyE : tyO .extend (some (.lst xs)) = True := eq_true ⟨xs, rfl⟩
theorem oL_tyN : tyO .insert (some (.lst xs)) = True := eq_true ⟨xs, rfl⟩
theorem oL_app : mtO .append (some (.lst xs)) n [u] h Q = (xs.length < sizeLine ∧ Q .non (h.set n (.lst (xs ++ [u])))) := rfl
theorem oL_p0 : mtO .pop0 (some (.lst xs)) n [] h Q = atP xs[xs.length - 1]? fun y => Q y (h.set n (.lst xs.dropLast)) := rfl
theorem oL_p1 : mtO .pop1 (some (.lst xs)) n [.int i] h Q = ((-(2 ^ 63) ≤ i ∧ i < 2 ^ 63) ∧ ∃ k, ixN xs.length i = some k ∧ atP xs[k]? fun y => Q y (h.set n (.lst (xs.eraseIdx k)))) := rfl
theorem oL_ex : mtO .extend (some (.lst xs)) n [u] h Q = ∃ ys, lstOf h u = some ys ∧ xs.length + ys.length ≤ sizeLine ∧ Q .non (h.set n (.lst (xs ++ ys))) := rfl
theorem oL_ins : mtO .insert (some (.lst xs)) n [.int i, u] h Q = (xs.length < sizeLine ∧ (0 ≤ i ∧ i < 2 ^ 63) ∧ Q .non (h.set n (.lst (xs.take i.toNat ++ [u] ++ xs.drop i.toNat)))) := rfl
theorem oD_dic : dicO (some (.dic kvs)) = some kvs := rfl
theorem oL_dic : dicO (some (.lst xs)) = none := rfl
theorem oD_it : itO (some (.dic kvs)) = some (kvs.map (·.1)) := rfl
theorem oD_ix {y : U} : ixO (some (.dic kvs)) y h Q = ((kOf y).isSome = true ∧ atP (dlook kvs y) fun v => Q v h) := rfl
theorem oD_set {y : U} {N : Hu → Prop} : setO (some (.dic kvs)) n y v h N = ((kOf y).isSome = true ∧ kvs.length < sizeLine ∧ N (h.set n (.dic (dput kvs y v)))) := rfl
theorem oD_len : lenO (some (.dic kvs)) h Q = Q (.int kvs.length) h := rfl
theorem oD_in {neg : Bool} {x y : U} : inO (some (.dic kvs)) neg x y h Q = ((kOf x).isSome = true ∧ Q (.bl (if neg then !(dlook kvs x).isSome else (dlook kvs x).isSome)) h) := rfl
theorem oD_tyG : tyO .get1 (some (.dic kvs)) = True := eq_true ⟨kvs, rfl⟩
theorem oD_tyH : tyO .get2 (some (.dic kvs)) = True := eq_true ⟨kvs, rfl⟩
theorem oD_g1 : mtO .get1 (some (.dic kvs)) n [u] h Q = ((kOf u).isSome = true ∧ Q ((dlook kvs u).getD .non) h) := rfl
theorem oD_g2 {w : U} : mtO .get2 (some (.dic kvs)) n [u, w] h Q = ((kOf u).isSome = true ∧ Q ((dlook kvs u).getD w) h) := rfl
/-! own objects: h ++ [..] -/
section
variable {os : List O} {o : O} {k : Nat}
theorem fx_get : (h ++ os)[h.length + k]? = os[k]? := by
  rw [List.getElem?_append_right (by omega), Nat.add_sub_cancel_left]
theorem fx_get0 : (h ++ os)[h.length]? = os[0]? := fx_get (k := 0)
theorem fx_set : (h ++ os).set (h.length + k) o = h ++ os.set k o := by
  rw [List.set_append_right _ _ (by omega), Nat.add_sub_cancel_left]
theorem fx_set0 : (h ++ os).set h.length o = h ++ os.set 0 o := fx_set (k := 0)
theorem fx_getS {o' : O} : (h.set n o' ++ os)[h.length + k]? = os[k]? := by
  have := fx_get (h := h.set n o') (os := os) (k := k)
  rwa [List.length_set] at this
theorem fx_getS0 {o' : O} : (h.set n o' ++ os)[h.length]? = os[0]? := fx_getS (k := 0)
theorem fx_setS {o' : O} : (h.set n o' ++ os).set (h.length + k) o = h.set n o' ++ os.set k o := by
  have := fx_set (h := h.set n o') (os := os) (k := k) (o := o)
  rwa [List.length_set] at this
theorem fx_setS0 {o' : O} : (h.set n o' ++ os).set h.length o = h.set n o' ++ os.set 0 o := fx_setS (k := 0)
theorem fx_self (l : n < h.length) : (h.set n o)[n]? = some o := List.getElem?_set_self l
theorem fx_out (l : n < h.length) : (h ++ os)[n]? = h[n]? := List.getElem?_append_left l
theorem fx_outs (l : n < h.length) : (h ++ os).set n o = h.set n o ++ os := List.set_append_left _ _ l
theorem fx_take : (h ++ os).take h.length = h := by simp
end
theorem at_nat {α : Type} {xs : List α} {k : Nat} : atI xs (k : Int) = xs[k]? := by
  unfold atI ixN
  by_cases l : k < xs.length
  · simp [l]
  · simp [l]
theorem at_0 {α : Type} {xs : List α} : atI xs 0 = xs[0]? := at_nat (k := 0)
theorem at_1 {α : Type} {xs : List α} : atI xs 1 = xs[1]? := at_nat (k := 1)
theorem at_2 {α : Type} {xs : List α} : atI xs 2 = xs[2]? := at_nat (k := 2)
theorem at_3 {α : Type} {xs : List α} : atI xs 3 = xs[3]? := at_nat (k := 3)
theorem at_4 {α : Type} {xs : List α} : atI xs 4 = xs[4]? := at_nat (k := 4)
theorem at_last {α : Type} {xs : List α} : atI xs (-1) = xs[xs.length - 1]? := by
  unfold atI ixN
  cases xs with
  | nil => simp
  | cons x xs =>
    have e : ((((x :: xs).length : Nat) : Int) + -1).toNat = (x :: xs).length - 1 := by omega
    rw [if_neg (by decide), if_pos (by simp; omega)]
    rw [show (-1 : Int) + (((x :: xs).length : Nat) : Int) = ((((x :: xs).length : Nat) : Int) + -1) by omega, e]
    rfl
theorem sz {k : Nat} (h : k ≤ 100000) : (k ≤ sizeLine) = True := eq_true (Nat.le_trans h (by decide))
theorem at_mem {α : Type} {xs : List α} {i : Int} (h0 : 0 ≤ i) (h1 : i < xs.length) : ∃ u, u ∈ xs ∧ atI xs i = some u := by
  obtain ⟨k, rfl⟩ := Int.eq_ofNat_of_zero_le h0
  have l : k < xs.length := by omega
  exact ⟨xs[k], List.getElem_mem l, by rw [at_nat, List.getElem?_eq_getElem l]⟩
theorem ixN_0 {l : Nat} : ixN l 0 = if 0 < l then some 0 else none := by unfold ixN; simp
theorem ixN_1 {l : Nat} : ixN l 1 = if 1 < l then some 1 else none := by
  unfold ixN; simp; by_cases h : 1 < l <;> simp [h] <;> omega
theorem ixN_2 {l : Nat} : ixN l 2 = if 2 < l then some 2 else none := by
  unfold ixN; simp; by_cases h : 2 < l <;> simp [h] <;> omega
theorem ixN_3 {l : Nat} : ixN l 3 = if 3 < l then some 3 else none := by
  unfold ixN; simp; by_cases h : 3 < l <;> simp [h] <;> omega
theorem ixN_4 {l : Nat} : ixN l 4 = if 4 < l then some 4 else none := by
  unfold ixN; simp; by_cases h : 4 < l <;> simp [h] <;> omega
theorem ixN_nat {k l : Nat} (h : k < l) : ixN l (k : Int) = some k := by
  unfold ixN; simp [h]
end

/-! plain data: no changeable object within, of bounded depth -/
mutual
def pd : Nat → U → Prop
  | 0, _ => False
  | _ + 1, .non => True
  | _ + 1, .bl _ => True
  | _ + 1, .int _ => True
  | _ + 1, .str x => PyData.strOk x = true
  | d + 1, .tup xs => ∀ x ∈ xs, pd d x
  | d + 1, .lst xs => ∀ x ∈ xs, pd d x
  | d + 1, .ro xs => ∀ x ∈ xs, pd d x
  | _ + 1, .mr _ => False
  | _ + 1, .fn _ => False
end
theorem pd_mono : ∀ {d e : Nat} {u : U}, d ≤ e → pd d u → pd e u
  | 0, _, _, _, p => p.elim
  | d + 1, 0, _, l, _ => by omega
  | d + 1, e + 1, u, l, p => by
    cases u with
    | tup xs => exact fun x m => pd_mono (by omega) (p x m)
    | lst xs => exact fun x m => pd_mono (by omega) (p x m)
    | ro xs => exact fun x m => pd_mono (by omega) (p x m)
    | mr _ => exact p.elim
    | fn _ => exact p.elim
    | str x => exact p
    | _ => trivial
theorem optAll_map {α β : Type} {f : α → Option β} {g : α → β} : ∀ {xs : List α}, (∀ x ∈ xs, f x = some (g x)) → optAll (xs.map f) = some (xs.map g)
  | [], _ => rfl
  | x :: xs, h => by
    rw [List.map_cons, h x List.mem_cons_self]
    show (optAll (xs.map f)).map _ = _
    rw [optAll_map fun y m => h y (List.mem_cons_of_mem _ m)]
    rfl
theorem frz_pd {h : Hu} {n : Nat} : ∀ {d : Nat} {u : U}, pd d u → frz h n d u = some u
  | 0, _, p => p.elim
  | d + 1, u, p => by
    cases u with
    | tup xs =>
      show (optAll (xs.map (frz h n d))).map _ = _
      rw [optAll_map (f := frz h n d) (g := id) fun x m => frz_pd (p x m)]; simp
    | lst xs =>
      show (optAll (xs.map (frz h n d))).map _ = _
      rw [optAll_map (f := frz h n d) (g := id) fun x m => frz_pd (p x m)]; simp
    | ro xs =>
      show (optAll (xs.map (frz h n d))).map _ = _
      rw [optAll_map (f := frz h n d) (g := id) fun x m => frz_pd (p x m)]; simp
    | mr _ => exact p.elim
    | fn _ => exact p.elim
    | _ => rfl
def opd : O → Prop
  | .lst xs => ∀ x ∈ xs, pd 64 x
  | .dic kvs => ∀ p ∈ kvs, pd 64 p.2
  | .ins _ fs => ∀ p ∈ fs, pd 64 p.2
theorem frzO_pd {h : Hu} {n : Nat} {o : O} (p : opd o) : frzO h n o = some o := by
  cases o with
  | lst xs =>
    show (optAll (xs.map (frz h n 64))).map _ = _
    rw [optAll_map (f := frz h n 64) (g := id) fun x m => frz_pd (p x m)]; simp
  | dic kvs =>
    show (optAll (kvs.map _)).map _ = _
    rw [optAll_map (g := id) fun x m => by rw [frz_pd (p x m)]; rfl]; simp
  | ins c fs =>
    show (optAll (fs.map _)).map _ = _
    rw [optAll_map (g := id) fun x m => by rw [frz_pd (p x m)]; rfl]; simp
theorem frzH_pd {h : Hu} {n : Nat} : ∀ {g : Hu}, (∀ o ∈ g, opd o) → frzH h n g = some g
  | [], _ => rfl
  | o :: r, p => by
    simp only [frzH, frzO_pd (p o List.mem_cons_self), frzH_pd fun o m => p o (List.mem_cons_of_mem _ m)]
/-- a call's end, all made within forgotten -/
theorem stl_pd {r : U} {h h0 h1 : Hu} {Q : QE} (pr : pd 64 r) (e : h.take h0.length = h1) (ph : ∀ (i : Nat) (o : O), h1[i]? = some o → h0[i]? = some o ∨ opd o) (q : Q r h1) : stl h0 r h Q := by
  subst e
  exact .inr (.inr ⟨r, frz_pd pr, fun i o e => (ph i o e).imp id fun p => frzO_pd p, q⟩)
/-- .. of a def that changes nothing that stood ahead -/
theorem stl_pure {r : U} {os : List O} {h0 : Hu} {Q : QE} (pr : pd 64 r) (q : Q r h0) : stl h0 r (h0 ++ os) Q :=
  stl_pd pr (by simp) (fun _ _ e => .inl e) q
theorem stl_same {r : U} {h0 : Hu} {Q : QE} (q : Q r h0) : stl h0 r h0 Q := .inl q
/-- .. that changes one plain object -/
theorem stl_set {r : U} {os : List O} {h0 : Hu} {Q : QE} {n : Nat} {o : O} (pr : pd 64 r) (po : opd o) (q : Q r (h0.set n o)) : stl h0 r (h0.set n o ++ os) Q := by
  refine stl_pd pr (h1 := h0.set n o) (by simp) (fun i o' e => ?_) q
  by_cases hi : n = i
  · subst hi
    by_cases hl : n < h0.length
    · rw [List.getElem?_set_self hl] at e
      cases e
      exact .inr po
    · rw [List.getElem?_eq_none (by simpa using hl)] at e
      cases e
  · rw [List.getElem?_set_ne hi] at e
    exact .inl e
/-! the plain heap grows -/
section
variable {h h' : Hu} {n m : Nat} {o x : O}
theorem get_app (e : h[n]? = some o) : (h ++ [x])[n]? = some o := by
  rw [List.getElem?_append_left (List.getElem?_eq_some_iff.mp e).1]; exact e
theorem get_new : (h ++ [x])[h.length]? = some x := by simp
theorem get_ne (e : h[n]? = some o) (hn : m ≠ n) : (h.set m x)[n]? = some o := by
  rw [List.getElem?_set_ne hn]; exact e
theorem get_eq (e : h[n]? = some o) : (h.set n x)[n]? = some x := List.getElem?_set_self (List.getElem?_eq_some_iff.mp e).1
theorem get_lt (e : h[n]? = some o) : n < h.length := (List.getElem?_eq_some_iff.mp e).1
/-- what stood ahead stands -/
def Fr (h h' : Hu) : Prop := ∃ r, h' = h ++ r
theorem Fr.refl : Fr h h := ⟨[], by simp⟩
theorem Fr.app (f : Fr h h') : Fr h (h' ++ [x]) := by
  obtain ⟨r, rfl⟩ := f
  exact ⟨r ++ [x], by simp⟩
theorem Fr.set (f : Fr h h') (l : h.length ≤ n) : Fr h (h'.set n x) := by
  obtain ⟨r, rfl⟩ := f
  exact ⟨r.set (n - h.length) x, by rw [List.set_append_right _ _ l]⟩
theorem Fr.set0 (f : Fr h h') (l : n < h.length) : Fr (h.set n x) (h'.set n x) := by
  obtain ⟨r, rfl⟩ := f
  exact ⟨r, by rw [List.set_append_left _ _ l]⟩
theorem Fr.take (f : Fr h h') : h'.take h.length = h := by
  obtain ⟨r, rfl⟩ := f
  simp
theorem Fr.len (f : Fr h h') : h.length ≤ h'.length := by
  obtain ⟨r, rfl⟩ := f
  simp
theorem Fr.get (f : Fr h h') (e : h[n]? = some o) : h'[n]? = some o := by
  obtain ⟨r, rfl⟩ := f
  rw [List.getElem?_append_left (get_lt e)]; exact e
theorem Fr.trans {h2 : Hu} (f : Fr h h') (g : Fr h' h2) : Fr h h2 := by
  obtain ⟨r, rfl⟩ := f
  obtain ⟨q, rfl⟩ := g
  exact ⟨r ++ q, by simp⟩
end
def tl : Ss → Ss
  | .cons _ r => r
  | .nil => .nil
end Pl.Eq
set_option Elab.async false
set_option linter.all false
set_option maxRecDepth 100000
set_option autoImplicit false
/-! Pl: plain values as data: ==, in, index. -/
namespace Pl.Eq
open PySem Pl L2
mutual
def dat : U → PyData
  | .non => .none
  | .bl b => .bool b
  | .int i => .int i
  | .str x => .str x
  | .tup xs => .tuple (datAll xs)
  | .lst xs => .list (datAll xs)
  | .ro xs => .list (datAll xs)
  | .mr _ => .none
  | .fn _ => .none
def datAll : List U → List PyData
  | [] => []
  | x :: xs => dat x :: datAll xs
end
theorem datAll_map : ∀ xs : List U, datAll xs = xs.map dat
  | [] => rfl
  | x :: xs => by simp [datAll, datAll_map xs]
theorem toD_pd {h : Hu} : ∀ {k : Nat} {u : U}, pd k u → toD h k u = some (dat u)
  | 0, _, p => p.elim
  | k + 1, u, p => by
    cases u with
    | tup xs =>
      show (optAll (xs.map (toD h k))).map _ = _
      rw [optAll_map (f := toD h k) (g := dat) fun x m => toD_pd (p x m)]; simp [dat, datAll_map]
    | lst xs =>
      show (optAll (xs.map (toD h k))).map _ = _
      rw [optAll_map (f := toD h k) (g := dat) fun x m => toD_pd (p x m)]; simp [dat, datAll_map]
    | ro xs =>
      show (optAll (xs.map (toD h k))).map _ = _
      rw [optAll_map (f := toD h k) (g := dat) fun x m => toD_pd (p x m)]; simp [dat, datAll_map]
    | mr _ => exact p.elim
    | fn _ => exact p.elim
    | _ => simp [toD, dat]
mutual
theorem lay_pd : ∀ {k : Nat} {u : U}, pd k u → (dat u).canLay0 = true ∧ (dat u).depth ≤ k
  | 0, _, p => p.elim
  | k + 1, .non, _ => ⟨by simp [dat, PyData.canLay0], by simp [dat, PyData.depth]⟩
  | k + 1, .bl _, _ => ⟨by simp [dat, PyData.canLay0], by simp [dat, PyData.depth]⟩
  | k + 1, .int _, _ => ⟨by simp [dat, PyData.canLay0], by simp [dat, PyData.depth]⟩
  | k + 1, .str x, p => ⟨by simp only [dat, PyData.canLay0]; exact p, by simp [dat, PyData.depth]⟩
  | k + 1, .tup xs, p => by
    have := lays_pd (k := k) (us := xs) p
    exact ⟨by simp only [dat, PyData.canLay0]; exact this.1, by simp only [dat, PyData.depth]; have := this.2; omega⟩
  | k + 1, .lst xs, p => by
    have := lays_pd (k := k) (us := xs) p
    exact ⟨by simp only [dat, PyData.canLay0]; exact this.1, by simp only [dat, PyData.depth]; have := this.2; omega⟩
  | k + 1, .ro xs, p => by
    have := lays_pd (k := k) (us := xs) p
    exact ⟨by simp only [dat, PyData.canLay0]; exact this.1, by simp only [dat, PyData.depth]; have := this.2; omega⟩
  | _ + 1, .mr _, p => p.elim
  | _ + 1, .fn _, p => p.elim
theorem lays_pd : ∀ {k : Nat} {us : List U}, (∀ x ∈ us, pd k x) → PyData.canLayAll0 (datAll us) = true ∧ PyData.depthAll (datAll us) ≤ k
  | _, [], _ => ⟨by simp [datAll, PyData.canLayAll0], by simp [datAll, PyData.depthAll]⟩
  | k, x :: xs, p => by
    have h1 := lay_pd (p x List.mem_cons_self)
    have h2 := lays_pd (k := k) (us := xs) fun y m => p y (List.mem_cons_of_mem _ m)
    refine ⟨by simp [datAll, PyData.canLayAll0, h1.1, h2.1], ?_⟩
    simp only [datAll, PyData.depthAll]
    have := h1.2
    have := h2.2
    omega
end
theorem shaped_pd {k : Nat} {u : U} (p : pd k u) (l : k ≤ 64) : SeqAt.shaped (dat u) = true := by
  have := lay_pd p
  unfold SeqAt.shaped
  rw [this.1]
  simp only [Bool.true_and, decide_eq_true_eq]
  omega
section
variable {h : Hu} {Q : QE} {neg : Bool} {x y : U} {n : Nat} {xs : List U}
theorem eqP (p : pd 64 x) (q : pd 64 y) : eqR neg x y h Q = Q (.bl (if neg then !PyData.eqv (dat x) (dat y) else PyData.eqv (dat x) (dat y))) h := by
  unfold eqR
  simp [toD_pd p, toD_pd q, shaped_pd p (by decide), shaped_pd q (by decide)]
theorem eqI {i j : Int} : eqR neg (.int i) (.int j) h Q = Q (.bl (if neg then !(i == j) else (i == j))) h := by
  rw [eqP (by trivial) (by trivial)]; simp [dat, PyData.eqv]
theorem eqB {i j : Bool} : eqR neg (.bl i) (.bl j) h Q = Q (.bl (if neg then !(i == j) else (i == j))) h := by
  rw [eqP (by trivial) (by trivial)]; simp [dat, PyData.eqv]
theorem eqS {i j : Str} (a : PyData.strOk i = true) (b : PyData.strOk j = true) : eqR neg (.str i) (.str j) h Q = Q (.bl (if neg then !(i == j) else (i == j))) h := by
  rw [eqP (by exact a) (by exact b)]; simp [dat, PyData.eqv]
theorem toD_mr (z : h[n]? = some (.lst xs)) (p : ∀ x ∈ xs, pd 63 x) : toD h 64 (.mr n) = some (.list (datAll xs)) := by
  show (match h[n]? with | some (.lst xs) => (optAll (xs.map (toD h 63))).map PyData.list | _ => none) = _
  rw [z]
  show (optAll (xs.map (toD h 63))).map PyData.list = _
  rw [optAll_map (f := toD h 63) (g := dat) fun x m => toD_pd (p x m)]; simp [datAll_map]
theorem inP (z : h[n]? = some (.lst xs)) (p : ∀ x ∈ xs, pd 63 x) (q : pd 64 x) :
    inR neg x (.mr n) h Q = Q (.bl (if neg then !(xs.any fun y => PyData.eqv (dat y) (dat x)) else xs.any fun y => PyData.eqv (dat y) (dat x))) h := by
  have sh : SeqAt.shaped (.list (datAll xs)) = true := shaped_pd (u := .lst xs) (k := 64) p (by decide)
  refine propext ⟨fun ⟨d, ds, e1, e2, _, _, w⟩ => ?_, fun w => ⟨_, _, toD_pd q, toD_mr z p, shaped_pd q (by decide), sh, ?_⟩⟩
  · rw [toD_pd q] at e1
    rw [toD_mr z p] at e2
    cases e1
    cases e2
    rw [datAll_map] at w
    simp only [List.any_map, Function.comp_def] at w
    exact w
  · rw [datAll_map]
    simp only [List.any_map, Function.comp_def]
    exact w
theorem idxP (z : h[n]? = some (.lst xs)) (p : ∀ x ∈ xs, pd 63 x) (q : pd 64 x) {j : Nat} {w : U} (e1 : xs[j]? = some w) (e2 : PyData.eqv (dat w) (dat x) = true)
    (e3 : ∀ (k : Nat) (w' : U), k < j → xs[k]? = some w' → PyData.eqv (dat w') (dat x) = false) (hq : Q (.int (j : Nat)) h) : mtR .index (.mr n) [x] h Q := by
  have sh : SeqAt.shaped (.list (datAll xs)) = true := shaped_pd (u := .lst xs) (k := 64) p (by decide)
  refine ⟨dat x, datAll xs, j, dat w, toD_mr z p, toD_pd q, sh, shaped_pd q (by decide), by rw [datAll_map, List.getElem?_map, e1]; rfl, e2, fun k w' l e => ?_, hq⟩
  rw [datAll_map, List.getElem?_map, Option.map_eq_some_iff] at e
  obtain ⟨v, e, rfl⟩ := e
  exact e3 k v l e
theorem idxPl (p : ∀ x ∈ xs, pd 63 x) (q : pd 64 x) {j : Nat} {w : U} (e1 : xs[j]? = some w) (e2 : PyData.eqv (dat w) (dat x) = true)
    (e3 : ∀ (k : Nat) (w' : U), k < j → xs[k]? = some w' → PyData.eqv (dat w') (dat x) = false) (hq : Q (.int (j : Nat)) h) : mtR .index (.lst xs) [x] h Q := by
  have sh : SeqAt.shaped (.list (datAll xs)) = true := shaped_pd (u := .lst xs) (k := 64) p (by decide)
  refine ⟨dat x, datAll xs, j, dat w, toD_pd (u := .lst xs) (k := 64) p, toD_pd q, sh, shaped_pd q (by decide), by rw [datAll_map, List.getElem?_map, e1]; rfl, e2, fun k w' l e => ?_, hq⟩
  rw [datAll_map, List.getElem?_map, Option.map_eq_some_iff] at e
  obtain ⟨v, e, rfl⟩ := e
  exact e3 k v l e
end
end Pl.Eq
set_option Elab.async false
set_option linter.all false
set_option maxRecDepth 100000
set_option autoImplicit false
/-! Pl: the defs that all laws share: the tape; sameness. -/
namespace Pl.Tp
open PySem Pl L2 Pl.Eq
local macro_rules | `(tactic| simp_all! [$as,*]) => `(tactic| ((try dsimp only); rw [Pl.Eq.ss_cons]; simp only [Pl.Eq.e_cst, Pl.Eq.b_cst, Pl.Eq.e_var, Pl.Eq.b_var, Pl.Eq.e_bin, Pl.Eq.b_bin, Pl.Eq.e_neg, Pl.Eq.e_not, Pl.Eq.b_not, Pl.Eq.e_bop, Pl.Eq.b_bop, Pl.Eq.e_cmp, Pl.Eq.b_cmp, Pl.Eq.e_cmp2, Pl.Eq.b_cmp2, Pl.Eq.e_ife, Pl.Eq.b_ife, Pl.Eq.e_call, Pl.Eq.b_call, Pl.Eq.e_bi, Pl.Eq.b_bi, Pl.Eq.e_isi, Pl.Eq.b_isi, Pl.Eq.e_mth, Pl.Eq.e_ix, Pl.Eq.b_ix, Pl.Eq.e_sl, Pl.Eq.e_tup, Pl.Eq.e_lst, Pl.Eq.e_lc, Pl.Eq.e_lc2, Pl.Eq.e_lrg, Pl.Eq.e_dic, Pl.Eq.es_nil, Pl.Eq.es_cons, Pl.Eq.o_none, Pl.Eq.o_some, Pl.Eq.bb_nil, Pl.Eq.bb_cons, Pl.Eq.bo_one, Pl.Eq.bo_cons, Pl.Eq.f_nil, Pl.Eq.f_cons, Pl.Eq.i_val, Pl.Eq.i_rng1, Pl.Eq.i_rng2, Pl.Eq.i_rng3, Pl.Eq.i_enum, Pl.Eq.t_nm, Pl.Eq.t_tp, Pl.Eq.ts_nil, Pl.Eq.ts_cons, Pl.Eq.t_sub, Pl.Eq.s_expr, Pl.Eq.s_asg, Pl.Eq.s_par, Pl.Eq.s_aug, Pl.Eq.s_ret, Pl.Eq.s_retN, Pl.Eq.s_ifs, Pl.Eq.s_fr, Pl.Eq.s_brk, Pl.Eq.s_cnt, Pl.Eq.s_pass, Pl.Eq.ss_nil, Pl.Eq.p_addI, Pl.Eq.p_addT, Pl.Eq.p_subI, Pl.Eq.p_mulI, Pl.Eq.p_fdivI, Pl.Eq.p_modI, Pl.Eq.p_powI, Pl.Eq.p_lt, Pl.Eq.p_le, Pl.Eq.p_gt, Pl.Eq.p_ge, Pl.Eq.p_eq, Pl.Eq.p_ne, Pl.Eq.p_isN, Pl.Eq.p_notN, Pl.Eq.p_isB, Pl.Eq.p_notB, Pl.Eq.t_bl, Pl.Eq.t_int, Pl.Eq.t_tup, Pl.Eq.t_lst, Pl.Eq.mk_t, Pl.Eq.mk_f, Pl.Eq.i_non_tup, Pl.Eq.i_non_lst, Pl.Eq.i_non_int, Pl.Eq.i_non_bl, Pl.Eq.i_non_str, Pl.Eq.i_non_dic, Pl.Eq.i_bl_tup, Pl.Eq.i_bl_lst, Pl.Eq.i_bl_int, Pl.Eq.i_bl_bl, Pl.Eq.i_bl_str, Pl.Eq.i_bl_dic, Pl.Eq.i_int_tup, Pl.Eq.i_int_lst, Pl.Eq.i_int_int, Pl.Eq.i_int_bl, Pl.Eq.i_int_str, Pl.Eq.i_int_dic, Pl.Eq.i_str_tup, Pl.Eq.i_str_lst, Pl.Eq.i_str_int, Pl.Eq.i_str_bl, Pl.Eq.i_str_str, Pl.Eq.i_str_dic, Pl.Eq.i_tup_tup, Pl.Eq.i_tup_lst, Pl.Eq.i_tup_int, Pl.Eq.i_tup_bl, Pl.Eq.i_tup_str, Pl.Eq.i_tup_dic, Pl.Eq.i_lst_tup, Pl.Eq.i_lst_lst, Pl.Eq.i_lst_int, Pl.Eq.i_lst_bl, Pl.Eq.i_lst_str, Pl.Eq.i_lst_dic, Pl.Eq.n_non, Pl.Eq.n_bl, Pl.Eq.n_int, Pl.Eq.n_str, Pl.Eq.n_tup, Pl.Eq.n_lst, Pl.Eq.p_slT, Pl.Eq.p_lenT, Pl.Eq.p_lenL, Pl.Eq.p_lenR, Pl.Eq.p_intI, Pl.Eq.p_tuple, Pl.Eq.p_list, Pl.Eq.p_sorted, Pl.Eq.p_max1, Pl.Eq.p_min1, Pl.Eq.p_min, Pl.Eq.p_intB, Pl.Eq.p_mulT, Pl.Eq.p_addLL, Pl.Eq.p_slL, Pl.Eq.it_tup, Pl.Eq.it_lst, Pl.Eq.it_ro, Pl.Eq.si_lst, Pl.Eq.p_all, Pl.Eq.p_any, Pl.Eq.p_max, Pl.Eq.q_tup, Pl.Eq.q_lst, Pl.Eq.q_ro, Pl.Eq.l_lst, Pl.Eq.src_tup, Pl.Eq.src_lst, Pl.Eq.src_ro, Pl.Eq.src_mr, Pl.Eq.atP_some, Pl.Eq.x_tup_, Pl.Eq.x_lst_, Pl.Eq.x_ro_, Pl.Eq.seq_mr, Pl.Eq.lst_mr, Pl.Eq.dic_mr, Pl.Eq.tru_mr, Pl.Eq.it_mr, Pl.Eq.si_mr, Pl.Eq.x_mr, Pl.Eq.set_mr, Pl.Eq.len_mr, Pl.Eq.in_mr, Pl.Eq.nin_mr, Pl.Eq.ty_mr, Pl.Eq.mt_app, Pl.Eq.mt_p0, Pl.Eq.mt_p1, Pl.Eq.mt_ex, Pl.Eq.mt_in, Pl.Eq.mt_g1, Pl.Eq.mt_g2, Pl.Eq.oL_seq, Pl.Eq.oL_tru, Pl.Eq.oL_it, Pl.Eq.oL_ix, Pl.Eq.oL_set, Pl.Eq.oL_len, Pl.Eq.oL_in, Pl.Eq.oL_tyA, Pl.Eq.oL_tyI, Pl.Eq.oL_tyP, Pl.Eq.oL_tyQ, Pl.Eq.oL_tyE, Pl.Eq.oL_tyN, Pl.Eq.oL_app, Pl.Eq.oL_p0, Pl.Eq.oL_p1, Pl.Eq.oL_ex, Pl.Eq.oL_ins, Pl.Eq.oD_dic, Pl.Eq.oL_dic, Pl.Eq.oD_it, Pl.Eq.oD_ix, Pl.Eq.oD_set, Pl.Eq.oD_len, Pl.Eq.oD_in, Pl.Eq.oD_tyG, Pl.Eq.oD_tyH, Pl.Eq.oD_g1, Pl.Eq.oD_g2, Pl.Eq.fx_get, Pl.Eq.fx_get0, Pl.Eq.fx_set, Pl.Eq.fx_set0, Pl.Eq.fx_getS, Pl.Eq.fx_getS0, Pl.Eq.fx_setS, Pl.Eq.fx_setS0, Pl.Eq.at_nat, Pl.Eq.at_0, Pl.Eq.at_1, Pl.Eq.at_2, Pl.Eq.at_3, Pl.Eq.at_4, Pl.Eq.at_last, Pl.Eq.sz, Pl.Eq.ixN_0, Pl.Eq.ixN_1, Pl.Eq.ixN_2, Pl.Eq.ixN_3, Pl.Eq.ixN_4, List.getElem?_cons_zero, List.getElem?_cons_succ, List.set_cons_zero, List.set_cons_succ, Option.some.injEq, exists_eq_left, exists_eq_left', U.int.injEq, U.bl.injEq, U.tup.injEq, U.lst.injEq, Int.zero_add, Nat.reduceLeDiff, List.cons_append, List.nil_append, false_and, exists_false, exists_const, false_or, or_false, Pl.T.own, Pl.Ts.own, Pl.Ts.len, wipeU, Pl.Eq.eqI, Pl.Eq.eqB, beq_self_eq_true, Bool.not_true, Bool.not_false, Bool.false_eq_true, Bool.true_eq_false, reduceCtorEq, decide_true, decide_false, List.length_cons, List.length_nil, Nat.zero_add, Nat.reduceAdd, Nat.reduceLT, if_true, if_false, reduceIte, true_and, and_true, List.set_set, List.append_assoc, List.length_append, List.length_set, Nat.add_zero, List.append_nil, $as,*]))
local macro_rules | `(tactic| dsimp! [$as,*]) => `(tactic| (try simp only [Pl.Eq.e_cst, Pl.Eq.b_cst, Pl.Eq.e_var, Pl.Eq.b_var, Pl.Eq.e_bin, Pl.Eq.b_bin, Pl.Eq.e_neg, Pl.Eq.e_not, Pl.Eq.b_not, Pl.Eq.e_bop, Pl.Eq.b_bop, Pl.Eq.e_cmp, Pl.Eq.b_cmp, Pl.Eq.e_cmp2, Pl.Eq.b_cmp2, Pl.Eq.e_ife, Pl.Eq.b_ife, Pl.Eq.e_call, Pl.Eq.b_call, Pl.Eq.e_bi, Pl.Eq.b_bi, Pl.Eq.e_isi, Pl.Eq.b_isi, Pl.Eq.e_mth, Pl.Eq.e_ix, Pl.Eq.b_ix, Pl.Eq.e_sl, Pl.Eq.e_tup, Pl.Eq.e_lst, Pl.Eq.e_lc, Pl.Eq.e_lc2, Pl.Eq.e_lrg, Pl.Eq.e_dic, Pl.Eq.es_nil, Pl.Eq.es_cons, Pl.Eq.o_none, Pl.Eq.o_some, Pl.Eq.bb_nil, Pl.Eq.bb_cons, Pl.Eq.bo_one, Pl.Eq.bo_cons, Pl.Eq.f_nil, Pl.Eq.f_cons, Pl.Eq.i_val, Pl.Eq.i_rng1, Pl.Eq.i_rng2, Pl.Eq.i_rng3, Pl.Eq.i_enum, Pl.Eq.t_nm, Pl.Eq.t_tp, Pl.Eq.ts_nil, Pl.Eq.ts_cons, Pl.Eq.t_sub, Pl.Eq.s_expr, Pl.Eq.s_asg, Pl.Eq.s_par, Pl.Eq.s_aug, Pl.Eq.s_ret, Pl.Eq.s_retN, Pl.Eq.s_ifs, Pl.Eq.s_fr, Pl.Eq.s_brk, Pl.Eq.s_cnt, Pl.Eq.s_pass, Pl.Eq.ss_nil, Pl.Eq.p_addI, Pl.Eq.p_addT, Pl.Eq.p_subI, Pl.Eq.p_mulI, Pl.Eq.p_fdivI, Pl.Eq.p_modI, Pl.Eq.p_powI, Pl.Eq.p_lt, Pl.Eq.p_le, Pl.Eq.p_gt, Pl.Eq.p_ge, Pl.Eq.p_eq, Pl.Eq.p_ne, Pl.Eq.p_isN, Pl.Eq.p_notN, Pl.Eq.p_isB, Pl.Eq.p_notB, Pl.Eq.t_bl, Pl.Eq.t_int, Pl.Eq.t_tup, Pl.Eq.t_lst, Pl.Eq.mk_t, Pl.Eq.mk_f, Pl.Eq.i_non_tup, Pl.Eq.i_non_lst, Pl.Eq.i_non_int, Pl.Eq.i_non_bl, Pl.Eq.i_non_str, Pl.Eq.i_non_dic, Pl.Eq.i_bl_tup, Pl.Eq.i_bl_lst, Pl.Eq.i_bl_int, Pl.Eq.i_bl_bl, Pl.Eq.i_bl_str, Pl.Eq.i_bl_dic, Pl.Eq.i_int_tup, Pl.Eq.i_int_lst, Pl.Eq.i_int_int, Pl.Eq.i_int_bl, Pl.Eq.i_int_str, Pl.Eq.i_int_dic, Pl.Eq.i_str_tup, Pl.Eq.i_str_lst, Pl.Eq.i_str_int, Pl.Eq.i_str_bl, Pl.Eq.i_str_str, Pl.Eq.i_str_dic, Pl.Eq.i_tup_tup, Pl.Eq.i_tup_lst, Pl.Eq.i_tup_int, Pl.Eq.i_tup_bl, Pl.Eq.i_tup_str, Pl.Eq.i_tup_dic, Pl.Eq.i_lst_tup, Pl.Eq.i_lst_lst, Pl.Eq.i_lst_int, Pl.Eq.i_lst_bl, Pl.Eq.i_lst_str, Pl.Eq.i_lst_dic, Pl.Eq.n_non, Pl.Eq.n_bl, Pl.Eq.n_int, Pl.Eq.n_str, Pl.Eq.n_tup, Pl.Eq.n_lst, Pl.Eq.p_slT, Pl.Eq.p_lenT, Pl.Eq.p_lenL, Pl.Eq.p_lenR, Pl.Eq.p_intI, Pl.Eq.p_tuple, Pl.Eq.p_list, Pl.Eq.p_sorted, Pl.Eq.p_max1, Pl.Eq.p_min1, Pl.Eq.p_min, Pl.Eq.p_intB, Pl.Eq.p_mulT, Pl.Eq.p_addLL, Pl.Eq.p_slL, Pl.Eq.it_tup, Pl.Eq.it_lst, Pl.Eq.it_ro, Pl.Eq.si_lst, Pl.Eq.p_all, Pl.Eq.p_any, Pl.Eq.p_max, Pl.Eq.q_tup, Pl.Eq.q_lst, Pl.Eq.q_ro, Pl.Eq.l_lst, Pl.Eq.src_tup, Pl.Eq.src_lst, Pl.Eq.src_ro, Pl.Eq.src_mr, Pl.Eq.atP_some, Pl.Eq.x_tup_, Pl.Eq.x_lst_, Pl.Eq.x_ro_, Pl.Eq.seq_mr, Pl.Eq.lst_mr, Pl.Eq.dic_mr, Pl.Eq.tru_mr, Pl.Eq.it_mr, Pl.Eq.si_mr, Pl.Eq.x_mr, Pl.Eq.set_mr, Pl.Eq.len_mr, Pl.Eq.in_mr, Pl.Eq.nin_mr, Pl.Eq.ty_mr, Pl.Eq.mt_app, Pl.Eq.mt_p0, Pl.Eq.mt_p1, Pl.Eq.mt_ex, Pl.Eq.mt_in, Pl.Eq.mt_g1, Pl.Eq.mt_g2, Pl.Eq.oL_seq, Pl.Eq.oL_tru, Pl.Eq.oL_it, Pl.Eq.oL_ix, Pl.Eq.oL_set, Pl.Eq.oL_len, Pl.Eq.oL_in, Pl.Eq.oL_tyA, Pl.Eq.oL_tyI, Pl.Eq.oL_tyP, Pl.Eq.oL_tyQ, Pl.Eq.oL_tyE, Pl.Eq.oL_tyN, Pl.Eq.oL_app, Pl.Eq.oL_p0, Pl.Eq.oL_p1, Pl.Eq.oL_ex, Pl.Eq.oL_ins, Pl.Eq.oD_dic, Pl.Eq.oL_dic, Pl.Eq.oD_it, Pl.Eq.oD_ix, Pl.Eq.oD_set, Pl.Eq.oD_len, Pl.Eq.oD_in, Pl.Eq.oD_tyG, Pl.Eq.oD_tyH, Pl.Eq.oD_g1, Pl.Eq.oD_g2, Pl.Eq.fx_get, Pl.Eq.fx_get0, Pl.Eq.fx_set, Pl.Eq.fx_set0, Pl.Eq.fx_getS, Pl.Eq.fx_getS0, Pl.Eq.fx_setS, Pl.Eq.fx_setS0, Pl.Eq.at_nat, Pl.Eq.at_0, Pl.Eq.at_1, Pl.Eq.at_2, Pl.Eq.at_3, Pl.Eq.at_4, Pl.Eq.at_last, Pl.Eq.sz, Pl.Eq.ixN_0, Pl.Eq.ixN_1, Pl.Eq.ixN_2, Pl.Eq.ixN_3, Pl.Eq.ixN_4, List.getElem?_cons_zero, List.getElem?_cons_succ, List.set_cons_zero, List.set_cons_succ, Option.some.injEq, exists_eq_left, exists_eq_left', U.int.injEq, U.bl.injEq, U.tup.injEq, U.lst.injEq, Int.zero_add, Nat.reduceLeDiff, List.cons_append, List.nil_append, false_and, exists_false, exists_const, false_or, or_false, Pl.T.own, Pl.Ts.own, Pl.Ts.len, wipeU, Pl.Eq.eqI, Pl.Eq.eqB, beq_self_eq_true, Bool.not_true, Bool.not_false, Bool.false_eq_true, Bool.true_eq_false, reduceCtorEq, decide_true, decide_false, List.length_cons, List.length_nil, Nat.zero_add, Nat.reduceAdd, Nat.reduceLT, if_true, if_false, reduceIte, true_and, and_true, List.set_set, List.append_assoc, List.length_append, List.length_set, Nat.add_zero, List.append_nil, $as,*]))
def t_mix : Ss := (.cons (.asg (.nm 0) (.bin .mod false (.bi .int false (.cons (.bin .add false (.bin .mul false (.var 0) (.cst (.int 6364136223846793005))) (.cst (.int 1442695040888963407))) .nil)) (.cst (.int 18446744073709551616))))
    (.cons (.ret (.bin .mod false (.bi .int false (.cons (.bin .add false (.bin .fdiv false (.bin .mul false (.var 0) (.var 0)) (.cst (.int 4294967296))) (.bin .mul false (.var 0) (.cst (.int 69621)))) .nil)) (.cst (.int 18446744073709551557))))
    .nil))
def t_tape : Ss := (.cons (.ret (.lst true (.cons (.bi .list false (.cons (.var 0) .nil)) (.cons (.cst (.int 0)) (.cons (.cst (.int 0)) (.cons (.cst (.int 1)) (.cons (.var 1) .nil)))))))
    .nil)
def t_take : Ss := (.cons (.ifs (.cmp .lt (.ix (.var 0) (.cst (.int 2))) (.var 1)) (.cons (.ifs (.cmp .lt (.ix (.var 0) (.cst (.int 1))) (.bi .len false (.cons (.ix (.var 0) (.cst (.int 0))) .nil))) (.cons (.asg (.nm 3) (.ix (.ix (.var 0) (.cst (.int 0))) (.ix (.var 0) (.cst (.int 1)))))
    (.cons (.asg (.nm 3) (.ife (.cmp .ge (.var 3) (.cst (.int 0))) (.bin .mul false (.cst (.int 2)) (.var 3)) (.bin .sub false (.bin .mul false (.neg (.cst (.int 2))) (.var 3)) (.cst (.int 1)))))
    (.cons (.asg (.sub (.var 0) (.cst (.int 1))) (.bin .add false (.ix (.var 0) (.cst (.int 1))) (.cst (.int 1))))
    (.cons (.asg (.sub (.var 0) (.cst (.int 3))) (.call "_law_mix" (.cons (.bin .add false (.ix (.var 0) (.cst (.int 3))) (.var 3)) .nil)))
    (.cons (.asg (.sub (.var 0) (.cst (.int 2))) (.ife (.cmp .ge (.var 3) (.bin .pow false (.cst (.int 10)) (.cst (.int 18)))) (.var 3) (.call "_law_mix" (.cons (.call "_law_mix" (.cons (.var 3) .nil)) .nil))))
    .nil))))) (.cons (.asg (.sub (.var 0) (.cst (.int 3))) (.call "_law_mix" (.cons (.bin .add false (.ix (.var 0) (.cst (.int 3))) (.cst (.int 1))) .nil)))
    (.cons (.asg (.sub (.var 0) (.cst (.int 2))) (.ix (.var 0) (.cst (.int 3))))
    .nil)))
    .nil) .nil)
    (.cons (.asg (.nm 2) (.bin .mod false (.bi .int false (.cons (.ix (.var 0) (.cst (.int 2))) .nil)) (.var 1)))
    (.cons (.asg (.sub (.var 0) (.cst (.int 2))) (.bin .fdiv false (.ix (.var 0) (.cst (.int 2))) (.var 1)))
    (.cons (.ret (.var 2))
    .nil))))
def t_same : Ss := (.cons (.ifs (.bop true (.cons (.isi .tup (.var 0)) (.cons (.isi .tup (.var 1)) .nil))) (.cons (.ifs (.cmp .ne (.bi .len false (.cons (.var 0) .nil)) (.bi .len false (.cons (.var 1) .nil))) (.cons (.ret (.cst (.bl false)))
    .nil) .nil)
    (.cons (.fr (.nm 2) (.rng1 (.bi .len false (.cons (.var 0) .nil))) (.cons (.ifs (.not (.call "_law_same" (.cons (.ix (.var 0) (.var 2)) (.cons (.ix (.var 1) (.var 2)) .nil)))) (.cons (.ret (.cst (.bl false)))
    .nil) .nil)
    .nil))
    (.cons (.ret (.cst (.bl true)))
    .nil))) .nil)
    (.cons (.ifs (.bop false (.cons (.isi .bl (.var 0)) (.cons (.isi .bl (.var 1)) .nil))) (.cons (.ret (.bop true (.cons (.isi .bl (.var 0)) (.cons (.isi .bl (.var 1)) (.cons (.cmp .eq (.var 0) (.var 1)) .nil)))))
    .nil) .nil)
    (.cons (.ifs (.bop false (.cons (.bop true (.cons (.isi .int (.var 0)) (.cons (.isi .int (.var 1)) .nil))) (.cons (.bop true (.cons (.isi .str (.var 0)) (.cons (.isi .str (.var 1)) .nil))) .nil))) (.cons (.ret (.cmp .eq (.var 0) (.var 1)))
    .nil) .nil)
    (.cons (.ret (.bop true (.cons (.cmp .isN (.var 0) (.cst .non)) (.cons (.cmp .isN (.var 1) (.cst .non)) .nil))))
    .nil))))
section
variable {tbl : Str → Option Fn} {d : Nat} {h : Hu} {Q : QE} {E : Ex → Hu → Prop}
theorem c_mix (em : tbl "_law_mix" = some ⟨1, 1, t_mix⟩) {n : Int} (q : ∀ r : Int, 0 ≤ r → r < 18446744073709551616 → Q (.int r) h) : callN tbl (d + 1) "_law_mix" [.int n] h Q E := by
  refine call_in em rfl (g := [some (.int n)]) rfl ?_
  unfold t_mix
  simp_all! []
  simp_all! []
  refine ⟨.inr ⟨by decide, by decide⟩, by decide, ?_⟩
  generalize hm : (n * 6364136223846793005 + 1442695040888963407) % 18446744073709551616 = m
  have m0 : 0 ≤ m := by omega
  have m1 : m < 18446744073709551616 := by omega
  refine ⟨.inl ⟨by omega, by omega⟩, ⟨by decide, by decide +kernel⟩, .inr ⟨by decide, by decide⟩, by decide, .inl (q _ (by omega) (by omega))⟩

/-- the tape's own object -/
def tapeO (ss : List Int) (pos left seed bud : Int) : O := .lst [.lst (ss.map .int), .int pos, .int left, .int seed, .int bud]
def IsTape (o : O) : Prop := ∃ ss pos left seed bud, o = tapeO ss pos left seed bud ∧ 0 ≤ pos ∧ 0 ≤ left
theorem c_take (em : tbl "_law_mix" = some ⟨1, 1, t_mix⟩) (et : tbl "_law_take" = some ⟨2, 4, t_take⟩) {t : Nat} {m : Int} {o : O} (z : h[t]? = some o) (ho : IsTape o) (m1 : 1 ≤ m) (m2 : m ≤ 1000000)
    (q : ∀ (k : Int) (o : O), 0 ≤ k → k < m → IsTape o → Q (.int k) (h.set t o)) : callN tbl (d + 2) "_law_take" [.mr t, .int m] h Q E := by
  obtain ⟨ss, pos, left, seed, bud, rfl, hp, hl⟩ := ho
  have zs : ∀ o : O, (h.set t o)[t]? = some o := fun o => List.getElem?_set_self (List.getElem?_eq_some_iff.mp z).1
  have lt : t < h.length := (List.getElem?_eq_some_iff.mp z).1
  unfold tapeO at z
  have lg : m.natAbs.log2 < 9000 := by
    have : m.natAbs < 2 ^ 20 := by omega
    exact Nat.lt_trans ((Nat.log2_lt (by omega)).mpr this) (by decide)
  have tail : ∀ (h' : Hu) (c : Option U) (ss : List Int) (pos left seed bud : Int), h'[t]? = some (tapeO ss pos left seed bud) → 0 ≤ pos → 0 ≤ left → (∀ o : O, h'.set t o = h.set t o) →
      wpSs (callN tbl (d + 1)) (fun e _ h' => E e h') (tl t_take) ⟨fun _ h' => stl h .non h' Q, fun r h' => stl h r h' Q, fun _ _ => False, fun _ _ => False⟩ [some (.mr t), some (.int m), none, c] h' := by
    intro h' c ss pos left seed bud z' hp hl hs
    have zs' : ∀ o : O, (h'.set t o)[t]? = some o := fun o => by rw [hs]; exact zs o
    unfold tapeO at z'
    unfold t_take tl
    simp_all! [z']
    refine ⟨by omega, ?_⟩
    simp_all! [z', Pl.Eq.ixN_2]
    refine ⟨⟨by omega, lg⟩, ?_⟩
    simp_all! [hs]
    exact .inl (q _ _ (Int.emod_nonneg _ (by omega)) (Int.emod_lt_of_pos _ (by omega)) ⟨ss, pos, left / m, seed, bud, rfl, hp, Int.ediv_nonneg hl (by omega)⟩)
  refine call_in et rfl (g := [some (.mr t), some (.int m), none, none]) rfl ?_
  have ht : t_take = .cons (match t_take with | .cons s _ => s | .nil => .pass) (tl t_take) := rfl
  unfold t_take
  simp_all! [z]
  by_cases c1 : left < m
  · simp only [c1, decide_true, if_true]
    simp_all! [z]
    by_cases c2 : pos < ((ss.map U.int).length : Int)
    · simp only [c2, decide_true, if_true]
      obtain ⟨p, rfl⟩ := Int.eq_ofNat_of_zero_le hp
      have c3 : p < (ss.map U.int).length := by omega
      have c4 : p < ss.length := by rw [List.length_map] at c3; exact c3
      have e3 : (ss.map U.int)[p]? = some (.int ss[p]) := by rw [List.getElem?_map, List.getElem?_eq_getElem c4]; rfl
      simp_all! [z, e3]
      generalize hc : ss[p] = c at e3
      simp_all! []
      have mid : ∀ c' : Int, 0 ≤ c' → wpSs (callN tbl (d + 1)) (fun e _ h' => E e h') (match t_take with | .cons (.ifs _ (.cons (.ifs _ b _) _) _) _ => tl (tl b) | _ => .nil) ⟨fun g' h' => wpSs (callN tbl (d + 1)) (fun e _ h' => E e h') (tl t_take) ⟨fun _ h' => stl h .non h' Q, fun r h' => stl h r h' Q, fun _ _ => False, fun _ _ => False⟩ g' h', fun r h' => stl h r h' Q, fun _ _ => False, fun _ _ => False⟩ [some (.mr t), some (.int m), none, some (.int c')] h := by
        intro c' c0
        unfold t_take tl
        simp_all! [z, Pl.Eq.ixN_1]
        simp_all! [Pl.Eq.fx_self lt, Pl.Eq.ixN_3]
        refine c_mix em fun r r0 r1 => ?_
        dsimp! [Pl.Eq.fx_self lt, Pl.Eq.ixN_3]
        simp_all! [Pl.Eq.fx_self lt, Pl.Eq.ixN_2]
        refine ⟨⟨by decide, by decide, by decide, by decide⟩, ?_⟩
        split
        · exact tail _ _ ss _ _ _ bud (zs _) (by omega) (by omega) fun o => by rw [List.set_set]
        · refine c_mix em fun r' r0' r1' => ?_
          refine c_mix em fun r2 r02 r12 => ?_
          dsimp! [Pl.Eq.fx_self lt, Pl.Eq.ixN_2]
          exact tail _ _ ss _ _ _ bud (zs _) (by omega) (by omega) fun o => by rw [List.set_set]
      split
      · rename_i c5
        exact ⟨.inl ⟨by decide, by decide⟩, mid _ (by have := of_decide_eq_true c5; omega)⟩
      · rename_i c5
        exact ⟨.inl ⟨by decide, by decide⟩, mid _ (by have : ¬ 0 ≤ c := fun z => c5 (decide_eq_true z); omega)⟩
    · simp only [c2, decide_false, if_false, Bool.false_eq_true]
      simp_all! [z]
      refine c_mix em fun r r0 r1 => ?_
      dsimp! [z, Pl.Eq.ixN_3]
      simp_all! [Pl.Eq.fx_self lt, Pl.Eq.ixN_2]
      exact tail _ _ ss _ _ _ bud (zs _) (by omega) (by omega) fun o => by rw [List.set_set]
  · simp only [c1, decide_false, if_false, Bool.false_eq_true, Pl.Eq.ss_nil]
    exact tail h none ss pos left seed bud z hp hl fun _ => rfl

/-- data of tuples -/
def sm : Nat → U → Prop
  | 0, _ => False
  | _ + 1, .non => True
  | _ + 1, .bl _ => True
  | _ + 1, .int _ => True
  | _ + 1, .str x => PyData.strOk x = true
  | d + 1, .tup xs => xs.length ≤ sizeLine ∧ ∀ x ∈ xs, sm d x
  | _ + 1, _ => False
theorem sm_pd : ∀ {d : Nat} {u : U}, sm d u → pd d u
  | 0, _, p => p.elim
  | d + 1, u, p => by
    cases u with
    | tup xs => exact fun x m => sm_pd (p.2 x m)
    | lst xs => exact p.elim
    | ro xs => exact p.elim
    | mr _ => exact p.elim
    | fn _ => exact p.elim
    | str x => exact p
    | _ => trivial
theorem lay_of {u : U} {k : Nat} (p : pd k u) : PyData.eqv (dat u) (dat u) = true := PySem.SeqAt.eqv_refl _ (lay_pd p).1
theorem c_same (es : tbl "_law_same" = some ⟨2, 3, t_same⟩) : ∀ {k n : Nat} {a : U} {h : Hu} {Q : QE}, sm k a → k ≤ n → Q (.bl true) h → callN tbl n "_law_same" [a, a] h Q E
  | 0, _, _, _, _, p, _, _ => p.elim
  | k + 1, 0, _, _, _, p, hk, q => by omega
  | k + 1, n + 1, a, h, Q, p, hk, q => by
    refine call_in es rfl (g := [some a, some a, none]) rfl ?_
    unfold t_same
    cases a with
    | tup xs =>
      have hx : (xs.length : Int) < 2 ^ 62 := Int.lt_of_le_of_lt (Int.ofNat_le.mpr p.1) (by decide)
      simp_all! []
      simp_all! []
      simp_all! []
      refine ⟨⟨by omega, hx⟩, ?_⟩
      refine frRng (fun _ g h' => h' = h ∧ ∃ c, g = [some (.tup xs), some (.tup xs), c]) ⟨rfl, _, rfl⟩ ?_ ?_
      · rintro i _ _ hi ⟨rfl, c, rfl⟩ kk hkk
        have hi' : i < xs.length := by simpa using hi
        have e : xs[i]? = some xs[i] := List.getElem?_eq_getElem hi'
        simp_all! [Int.zero_add, e]
        refine c_same es (k := k) (p.2 _ (List.getElem_mem hi')) (by omega) ?_
        dsimp! []
        exact hkk _ _ ⟨rfl, _, rfl⟩
      · rintro _ _ ⟨rfl, c, rfl⟩
        simp_all! []
        exact .inl q
    | lst xs => exact p.elim
    | ro xs => exact p.elim
    | mr _ => exact p.elim
    | fn _ => exact p.elim
    | non =>
      simp_all! []
      simp_all! []
      simp_all! []
      simp_all! []
      exact .inl q
    | bl b =>
      simp_all! []
      simp_all! []
      simp_all! []
      exact .inl q
    | int i =>
      simp_all! []
      simp_all! []
      simp_all! []
      simp_all! []
      exact .inl q
    | str z =>
      simp_all! []
      simp_all! []
      simp_all! []
      simp_all! [Pl.Eq.eqS p p]
      exact .inl q
end
end Pl.Tp
set_option Elab.async false
set_option linter.all false
set_option maxRecDepth 100000
set_option maxHeartbeats 0
/-! the text's defs as Pl syntax: printed by wip/gen.py -/
namespace L56
open PySem Pl
def topS (i : Nat) : Stmt := PySem.Challenge.pw_everytick_k56_whole_least_machines.main.body.getD i (.Pass ⟨0, 0, 0, 0⟩)
def b_first_keys : Ss := (.cons (.ret (.lc false (.nm 1) (.val (.ix (.var 0) (.cst (.int 1)))) .nil (.bi .tuple false (.cons (.lc false (.nm 2) (.val (.var 1)) .nil (.ife (.cmp .isN (.var 2) (.cst .non)) (.cst .non) (.call "tagged" (.cons (.ix (.var 2) (.cst (.int 0))) .nil)))) .nil))))
    .nil)
def d_first_keys : Df := ⟨"first_keys", topS 1, ["machine", "line", "place"], ["machine"], ⟨1, 3, b_first_keys⟩⟩
def b_tagged : Ss := (.cons (.ifs (.isi .tup (.var 0)) (.cons (.ret (.bi .tuple false (.cons (.lc false (.nm 1) (.val (.var 0)) .nil (.call "tagged" (.cons (.var 1) .nil))) .nil)))
    .nil) .nil)
    (.cons (.ret (.tup (.cons (.isi .bl (.var 0)) (.cons (.var 0) .nil))))
    .nil))
def d_tagged : Df := ⟨"tagged", topS 2, ["value", "part"], ["value"], ⟨1, 2, b_tagged⟩⟩
def b_in_order : Ss := (.cons (.asg (.nm 1) (.dic .nil))
    (.cons (.asg (.nm 2) (.lst true .nil))
    (.cons (.fr (.nm 3) (.val (.var 0)) (.cons (.ifs (.cmp .nin (.var 3) (.var 1)) (.cons (.asg (.sub (.var 1) (.var 3)) (.bi .len false (.cons (.var 1) .nil)))
    .nil) .nil)
    (.cons (.expr (.mth .append (.var 2) (.cons (.ix (.var 1) (.var 3)) .nil)))
    .nil)))
    (.cons (.ret (.var 2))
    .nil))))
def d_in_order : Df := ⟨"in_order", topS 3, ["keys", "numbers", "found", "key"], ["keys"], ⟨1, 4, b_in_order⟩⟩
def b_refined : Ss := (.cons (.asg (.nm 2) (.lst true .nil))
    (.cons (.fr (.tp (.cons (.nm 3) (.cons (.nm 4) .nil))) (.enum (.ix (.var 0) (.cst (.int 1)))) (.cons (.expr (.mth .append (.var 2) (.cons (.bin .add false (.tup (.cons (.ix (.var 1) (.var 3)) .nil)) (.bi .tuple false (.cons (.lc false (.nm 5) (.val (.var 4)) .nil (.ife (.cmp .isN (.var 5) (.cst .non)) (.cst .non) (.ix (.var 1) (.ix (.var 5) (.cst (.int 1)))))) .nil))) .nil)))
    .nil))
    (.cons (.ret (.call "in_order" (.cons (.var 2) .nil)))
    .nil)))
def d_refined : Df := ⟨"refined", topS 4, ["machine", "known", "keys", "state", "line", "place"], ["machine", "known"], ⟨2, 6, b_refined⟩⟩
def b_classes : Ss := (.cons (.asg (.nm 1) (.call "in_order" (.cons (.call "first_keys" (.cons (.var 0) .nil)) .nil)))
    (.cons (.wh (.cst (.bl true)) (.cons (.asg (.nm 2) (.call "refined" (.cons (.var 0) (.cons (.var 1) .nil))))
    (.cons (.ifs (.cmp .eq (.bi .max1 false (.cons (.var 2) .nil)) (.bi .max1 false (.cons (.var 1) .nil))) (.cons (.ret (.bi .tuple false (.cons (.var 1) .nil)))
    .nil) .nil)
    (.cons (.asg (.nm 1) (.var 2))
    .nil))))
    .nil))
def d_classes : Df := ⟨"classes", topS 5, ["machine", "known", "after"], ["machine"], ⟨1, 3, b_classes⟩⟩
def b_least_machine : Ss := (.cons (.asg (.tp (.cons (.nm 1) (.cons (.nm 2) .nil))) (.var 0))
    (.cons (.asg (.nm 3) (.call "classes" (.cons (.var 0) .nil)))
    (.cons (.asg (.nm 4) (.lst true (.cons (.cst (.int 0)) .nil)))
    (.cons (.asg (.nm 5) (.dic (.cons (.ix (.var 3) (.cst (.int 0))) (.cons (.cst (.int 0)) .nil))))
    (.cons (.asg (.nm 6) (.lst true .nil))
    (.cons (.wh (.cmp .lt (.bi .len false (.cons (.var 6) .nil)) (.bi .len false (.cons (.var 4) .nil))) (.cons (.asg (.nm 7) (.lst true .nil))
    (.cons (.fr (.nm 8) (.val (.ix (.var 2) (.ix (.var 4) (.bi .len false (.cons (.var 6) .nil))))) (.cons (.ifs (.cmp .isN (.var 8) (.cst .non)) (.cons (.expr (.mth .append (.var 7) (.cons (.cst .non) .nil)))
    (.cons .cnt
    .nil)) .nil)
    (.cons (.asg (.tp (.cons (.nm 9) (.cons (.nm 10) .nil))) (.var 8))
    (.cons (.ifs (.cmp .nin (.ix (.var 3) (.var 10)) (.var 5)) (.cons (.asg (.sub (.var 5) (.ix (.var 3) (.var 10))) (.bi .len false (.cons (.var 4) .nil)))
    (.cons (.expr (.mth .append (.var 4) (.cons (.var 10) .nil)))
    .nil)) .nil)
    (.cons (.expr (.mth .append (.var 7) (.cons (.tup (.cons (.var 9) (.cons (.ix (.var 5) (.ix (.var 3) (.var 10))) .nil))) .nil)))
    .nil)))))
    (.cons (.expr (.mth .append (.var 6) (.cons (.bi .tuple false (.cons (.var 7) .nil)) .nil)))
    .nil))))
    (.cons (.ret (.tup (.cons (.var 1) (.cons (.bi .tuple false (.cons (.var 6) .nil)) .nil))))
    .nil)))))))
def d_least_machine : Df := ⟨"least_machine", topS 6, ["machine", "rows", "table", "known", "order", "numbers", "lines", "line", "place", "outputs", "after"], ["machine"], ⟨1, 11, b_least_machine⟩⟩
def b_law_mix : Ss := (.cons (.asg (.nm 0) (.bin .mod false (.bi .int false (.cons (.bin .add false (.bin .mul false (.var 0) (.cst (.int 6364136223846793005))) (.cst (.int 1442695040888963407))) .nil)) (.cst (.int 18446744073709551616))))
    (.cons (.ret (.bin .mod false (.bi .int false (.cons (.bin .add false (.bin .fdiv false (.bin .mul false (.var 0) (.var 0)) (.cst (.int 4294967296))) (.bin .mul false (.var 0) (.cst (.int 69621)))) .nil)) (.cst (.int 18446744073709551557))))
    .nil))
def d_law_mix : Df := ⟨"_law_mix", topS 8, ["number"], ["number"], ⟨1, 1, b_law_mix⟩⟩
def b_law_tape : Ss := (.cons (.ret (.lst true (.cons (.bi .list false (.cons (.var 0) .nil)) (.cons (.cst (.int 0)) (.cons (.cst (.int 0)) (.cons (.cst (.int 1)) (.cons (.var 1) .nil)))))))
    .nil)
def d_law_tape : Df := ⟨"_law_tape", topS 9, ["script", "budget"], ["script", "budget"], ⟨2, 2, b_law_tape⟩⟩
def b_law_take : Ss := (.cons (.ifs (.cmp .lt (.ix (.var 0) (.cst (.int 2))) (.var 1)) (.cons (.ifs (.cmp .lt (.ix (.var 0) (.cst (.int 1))) (.bi .len false (.cons (.ix (.var 0) (.cst (.int 0))) .nil))) (.cons (.asg (.nm 3) (.ix (.ix (.var 0) (.cst (.int 0))) (.ix (.var 0) (.cst (.int 1)))))
    (.cons (.asg (.nm 3) (.ife (.cmp .ge (.var 3) (.cst (.int 0))) (.bin .mul false (.cst (.int 2)) (.var 3)) (.bin .sub false (.bin .mul false (.neg (.cst (.int 2))) (.var 3)) (.cst (.int 1)))))
    (.cons (.asg (.sub (.var 0) (.cst (.int 1))) (.bin .add false (.ix (.var 0) (.cst (.int 1))) (.cst (.int 1))))
    (.cons (.asg (.sub (.var 0) (.cst (.int 3))) (.call "_law_mix" (.cons (.bin .add false (.ix (.var 0) (.cst (.int 3))) (.var 3)) .nil)))
    (.cons (.asg (.sub (.var 0) (.cst (.int 2))) (.ife (.cmp .ge (.var 3) (.bin .pow false (.cst (.int 10)) (.cst (.int 18)))) (.var 3) (.call "_law_mix" (.cons (.call "_law_mix" (.cons (.var 3) .nil)) .nil))))
    .nil))))) (.cons (.asg (.sub (.var 0) (.cst (.int 3))) (.call "_law_mix" (.cons (.bin .add false (.ix (.var 0) (.cst (.int 3))) (.cst (.int 1))) .nil)))
    (.cons (.asg (.sub (.var 0) (.cst (.int 2))) (.ix (.var 0) (.cst (.int 3))))
    .nil)))
    .nil) .nil)
    (.cons (.asg (.nm 2) (.bin .mod false (.bi .int false (.cons (.ix (.var 0) (.cst (.int 2))) .nil)) (.var 1)))
    (.cons (.asg (.sub (.var 0) (.cst (.int 2))) (.bin .fdiv false (.ix (.var 0) (.cst (.int 2))) (.var 1)))
    (.cons (.ret (.var 2))
    .nil))))
def d_law_take : Df := ⟨"_law_take", topS 10, ["tape", "many", "digit", "cell"], ["tape", "many"], ⟨2, 4, b_law_take⟩⟩
def b_law_same : Ss := (.cons (.ifs (.bop true (.cons (.isi .tup (.var 0)) (.cons (.isi .tup (.var 1)) .nil))) (.cons (.ifs (.cmp .ne (.bi .len false (.cons (.var 0) .nil)) (.bi .len false (.cons (.var 1) .nil))) (.cons (.ret (.cst (.bl false)))
    .nil) .nil)
    (.cons (.fr (.nm 2) (.rng1 (.bi .len false (.cons (.var 0) .nil))) (.cons (.ifs (.not (.call "_law_same" (.cons (.ix (.var 0) (.var 2)) (.cons (.ix (.var 1) (.var 2)) .nil)))) (.cons (.ret (.cst (.bl false)))
    .nil) .nil)
    .nil))
    (.cons (.ret (.cst (.bl true)))
    .nil))) .nil)
    (.cons (.ifs (.bop false (.cons (.isi .bl (.var 0)) (.cons (.isi .bl (.var 1)) .nil))) (.cons (.ret (.bop true (.cons (.isi .bl (.var 0)) (.cons (.isi .bl (.var 1)) (.cons (.cmp .eq (.var 0) (.var 1)) .nil)))))
    .nil) .nil)
    (.cons (.ifs (.bop false (.cons (.bop true (.cons (.isi .int (.var 0)) (.cons (.isi .int (.var 1)) .nil))) (.cons (.bop true (.cons (.isi .str (.var 0)) (.cons (.isi .str (.var 1)) .nil))) .nil))) (.cons (.ret (.cmp .eq (.var 0) (.var 1)))
    .nil) .nil)
    (.cons (.ret (.bop true (.cons (.cmp .isN (.var 0) (.cst .non)) (.cons (.cmp .isN (.var 1) (.cst .non)) .nil))))
    .nil))))
def d_law_same : Df := ⟨"_law_same", topS 11, ["a", "b", "k"], ["a", "b"], ⟨2, 3, b_law_same⟩⟩
def b_law_numbered : Ss := (.cons (.asg (.nm 2) (.lst true (.cons (.cst (.int 0)) .nil)))
    (.cons (.asg (.nm 3) (.lst true .nil))
    (.cons (.fr (.nm 4) (.rng1 (.bi .len false (.cons (.var 1) .nil))) (.cons (.ifs (.cmp .lt (.var 4) (.bi .len false (.cons (.var 2) .nil))) (.cons (.asg (.nm 5) (.lst true .nil))
    (.cons (.fr (.nm 6) (.val (.ix (.var 1) (.ix (.var 2) (.var 4)))) (.cons (.ifs (.bop true (.cons (.cmp .notN (.var 6) (.cst .non)) (.cons (.cmp .nin (.ix (.var 6) (.cst (.int 1))) (.var 2)) .nil))) (.cons (.expr (.mth .append (.var 2) (.cons (.ix (.var 6) (.cst (.int 1))) .nil)))
    .nil) .nil)
    (.cons (.expr (.mth .append (.var 5) (.cons (.ife (.cmp .isN (.var 6) (.cst .non)) (.cst .non) (.tup (.cons (.ix (.var 6) (.cst (.int 0))) (.cons (.mth .index (.var 2) (.cons (.ix (.var 6) (.cst (.int 1))) .nil)) .nil)))) .nil)))
    .nil)))
    (.cons (.expr (.mth .append (.var 3) (.cons (.bi .tuple false (.cons (.var 5) .nil)) .nil)))
    .nil))) .nil)
    .nil))
    (.cons (.ret (.tup (.cons (.var 0) (.cons (.bi .tuple false (.cons (.var 3) .nil)) .nil))))
    .nil))))
def d_law_numbered : Df := ⟨"_law_numbered", topS 12, ["rows", "table", "order", "lines", "turn", "line", "place"], ["rows", "table"], ⟨2, 7, b_law_numbered⟩⟩
def b_law_menu : Ss := (.cons (.asg (.nm 1) (.lst false (.cons (.lst false (.cons (.tup (.cons (.cst (.int 0)) .nil)) (.cons (.tup (.cons (.cst (.int 1)) .nil)) .nil))) (.cons (.lst false (.cons (.tup (.cons (.cst (.bl false)) .nil)) (.cons (.tup (.cons (.cst (.bl true)) .nil)) .nil))) (.cons (.lst false (.cons (.tup (.cons (.cst (.int 0)) .nil)) (.cons (.tup (.cons (.cst (.int 1)) .nil)) (.cons (.tup (.cons (.cst (.int 2)) .nil)) .nil)))) (.cons (.lst false (.cons (.tup (.cons (.cst (.int 1)) .nil)) (.cons (.tup (.cons (.cst (.bl true)) .nil)) (.cons (.tup (.cons (.cst (.int 0)) .nil)) .nil)))) (.cons (.lst false (.cons (.tup .nil) (.cons (.tup (.cons (.cst (.int 0)) .nil)) (.cons (.tup (.cons (.cst (.int 0)) (.cons (.cst (.int 1)) .nil))) .nil)))) (.cons (.lst false (.cons (.tup (.cons (.cst (.str "A")) (.cons (.cst (.int 0)) (.cons (.cst (.int 1)) .nil)))) (.cons (.tup (.cons (.cst (.str "A")) (.cons (.cst (.int 0)) (.cons (.cst (.int 2)) .nil)))) (.cons (.tup (.cons (.cst (.str "B")) (.cons (.cst (.int 0)) (.cons (.cst (.int 1)) .nil)))) .nil)))) (.cons (.lst false (.cons (.tup (.cons (.cst (.bl false)) (.cons (.cst (.int 0)) (.cons (.cst (.int 0)) (.cons (.cst (.int 0)) .nil))))) (.cons (.tup (.cons (.cst (.bl false)) (.cons (.cst (.int 0)) (.cons (.cst (.int 0)) (.cons (.cst (.bl false)) .nil))))) (.cons (.tup (.cons (.cst (.int 0)) (.cons (.cst (.int 0)) (.cons (.cst (.int 0)) (.cons (.cst (.int 0)) .nil))))) .nil)))) (.cons (.lst false (.cons (.tup (.cons (.cst (.str "On")) .nil)) (.cons (.tup (.cons (.cst (.str "Off")) .nil)) .nil))) .nil))))))))))
    (.cons (.ret (.ix (.var 1) (.call "_law_take" (.cons (.var 0) (.cons (.bi .len false (.cons (.var 1) .nil)) .nil)))))
    .nil))
def d_law_menu : Df := ⟨"_law_menu", topS 13, ["tape", "menus"], ["tape"], ⟨1, 2, b_law_menu⟩⟩
def b_law_machine : Ss := (.cons (.asg (.nm 4) (.bin .add false (.cst (.int 1)) (.call "_law_take" (.cons (.var 0) (.cons (.cst (.int 7)) .nil)))))
    (.cons (.asg (.nm 5) (.lst true .nil))
    (.cons (.fr (.nm 6) (.rng1 (.var 4)) (.cons (.asg (.nm 7) (.lst true .nil))
    (.cons (.fr (.nm 8) (.val (.var 1)) (.cons (.asg (.nm 9) (.ife (.cmp .eq (.call "_law_take" (.cons (.var 0) (.cons (.cst (.int 3)) .nil))) (.cst (.int 0))) (.ix (.var 3) (.call "_law_take" (.cons (.var 0) (.cons (.bi .len false (.cons (.var 3) .nil)) .nil)))) (.ix (.var 3) (.bin .mod false (.bi .int false (.cons (.var 6) .nil)) (.cst (.int 2))))))
    (.cons (.asg (.nm 10) (.call "_law_take" (.cons (.var 0) (.cons (.var 4) .nil))))
    (.cons (.expr (.mth .append (.var 7) (.cons (.ife (.bop true (.cons (.var 2) (.cons (.cmp .eq (.call "_law_take" (.cons (.var 0) (.cons (.cst (.int 14)) .nil))) (.cst (.int 0))) .nil))) (.cst .non) (.tup (.cons (.var 9) (.cons (.var 10) .nil)))) .nil)))
    .nil))))
    (.cons (.expr (.mth .append (.var 5) (.cons (.bi .tuple false (.cons (.var 7) .nil)) .nil)))
    .nil))))
    (.cons (.ret (.call "_law_numbered" (.cons (.var 1) (.cons (.var 5) .nil))))
    .nil))))
def d_law_machine : Df := ⟨"_law_machine", topS 14, ["tape", "rows", "faults", "menu", "many", "table", "s", "line", "row", "shown", "after"], ["tape", "rows", "faults", "menu"], ⟨4, 11, b_law_machine⟩⟩
def b_law_ring : Ss := (.cons (.asg (.nm 2) (.bin .add false (.cst (.int 17)) (.call "_law_take" (.cons (.var 0) (.cons (.cst (.int 24)) .nil)))))
    (.cons (.asg (.nm 3) (.call "_law_take" (.cons (.var 0) (.cons (.var 2) .nil))))
    (.cons (.asg (.nm 4) (.lst true .nil))
    (.cons (.fr (.nm 5) (.rng1 (.var 2)) (.cons (.expr (.mth .append (.var 4) (.cons (.tup (.cons (.tup (.cons (.ife (.cmp .eq (.var 5) (.var 3)) (.ix (.var 1) (.cst (.int 1))) (.ix (.var 1) (.cst (.int 0)))) (.cons (.bin .mod false (.bi .int false (.cons (.bin .add false (.var 5) (.cst (.int 1))) .nil)) (.var 2)) .nil))) .nil)) .nil)))
    .nil))
    (.cons (.ret (.tup (.cons (.tup (.cons (.tup .nil) .nil)) (.cons (.bi .tuple false (.cons (.var 4) .nil)) .nil))))
    .nil)))))
def d_law_ring : Df := ⟨"_law_ring", topS 15, ["tape", "menu", "many", "odd", "table", "s"], ["tape", "menu"], ⟨2, 6, b_law_ring⟩⟩
def b_law_input_rows : Ss := (.cons (.asg (.nm 1) (.bin .add false (.cst (.int 17)) (.call "_law_take" (.cons (.var 0) (.cons (.cst (.int 6)) .nil)))))
    (.cons (.asg (.nm 2) (.lst false (.cons (.tup (.cons (.tup (.cons (.cst (.bl false)) .nil)) (.cons (.tup (.cons (.cst (.bl true)) .nil)) .nil))) (.cons (.tup (.cons (.tup .nil) .nil)) (.cons (.tup (.cons (.tup (.cons (.cst (.int 0)) .nil)) (.cons (.tup (.cons (.cst (.int 1)) .nil)) (.cons (.tup (.cons (.cst (.int 2)) .nil)) .nil)))) (.cons (.tup (.cons (.tup (.cons (.cst (.str "A")) (.cons (.cst (.bl true)) .nil))) (.cons (.tup (.cons (.cst (.str "B")) (.cons (.cst (.bl true)) .nil))) .nil))) (.cons (.tup (.cons (.tup (.cons (.cst (.int 1)) .nil)) (.cons (.tup (.cons (.cst (.bl true)) .nil)) .nil))) (.cons (.bi .tuple false (.cons (.lc false (.nm 3) (.rng1 (.var 1)) .nil (.tup (.cons (.var 3) .nil))) .nil)) .nil))))))))
    (.cons (.ret (.ix (.var 2) (.call "_law_take" (.cons (.var 0) (.cons (.cst (.int 6)) .nil)))))
    .nil)))
def d_law_input_rows : Df := ⟨"_law_input_rows", topS 16, ["tape", "many", "rows", "k"], ["tape"], ⟨1, 4, b_law_input_rows⟩⟩
def b_law_copied : Ss := (.cons (.asg (.tp (.cons (.nm 2) (.cons (.nm 3) .nil))) (.var 1))
    (.cons (.asg (.nm 4) (.bi .len false (.cons (.var 3) .nil)))
    (.cons (.asg (.nm 5) (.lst true .nil))
    (.cons (.fr (.nm 6) (.val (.bin .add false (.var 3) (.var 3))) (.cons (.expr (.mth .append (.var 5) (.cons (.bi .tuple false (.cons (.lc false (.nm 7) (.val (.var 6)) .nil (.ife (.cmp .isN (.var 7) (.cst .non)) (.cst .non) (.tup (.cons (.ix (.var 7) (.cst (.int 0))) (.cons (.bin .add false (.ix (.var 7) (.cst (.int 1))) (.bin .mul false (.var 4) (.call "_law_take" (.cons (.var 0) (.cons (.cst (.int 2)) .nil))))) .nil))))) .nil)) .nil)))
    .nil))
    (.cons (.ret (.call "_law_numbered" (.cons (.var 2) (.cons (.var 5) .nil))))
    .nil)))))
def d_law_copied : Df := ⟨"_law_copied", topS 17, ["tape", "machine", "rows", "table", "many", "lines", "line", "place"], ["tape", "machine"], ⟨2, 8, b_law_copied⟩⟩
def b_law_changed : Ss := (.cons (.asg (.tp (.cons (.nm 2) (.cons (.nm 3) .nil))) (.var 1))
    (.cons (.asg (.nm 4) (.call "_law_take" (.cons (.var 0) (.cons (.bi .len false (.cons (.var 3) .nil)) .nil))))
    (.cons (.asg (.nm 5) (.call "_law_take" (.cons (.var 0) (.cons (.bi .len false (.cons (.var 2) .nil)) .nil))))
    (.cons (.asg (.nm 6) (.ix (.ix (.var 3) (.var 4)) (.var 5)))
    (.cons (.asg (.nm 7) (.ix (.lst false (.cons (.cst .non) (.cons (.tup (.cons (.tup (.cons (.cst (.int 7)) .nil)) (.cons (.cst (.int 0)) .nil))) (.cons (.tup (.cons (.tup (.cons (.cst (.int 1)) .nil)) (.cons (.call "_law_take" (.cons (.var 0) (.cons (.bi .len false (.cons (.var 3) .nil)) .nil))) .nil))) (.cons (.tup (.cons (.tup (.cons (.cst (.bl true)) .nil)) (.cons (.cst (.int 0)) .nil))) .nil))))) (.call "_law_take" (.cons (.var 0) (.cons (.cst (.int 4)) .nil)))))
    (.cons (.ifs (.bop true (.cons (.cmp .notN (.var 6) (.cst .non)) (.cons (.cmp .eq (.call "_law_take" (.cons (.var 0) (.cons (.cst (.int 2)) .nil))) (.cst (.int 0))) .nil))) (.cons (.asg (.nm 7) (.ife (.bop false (.cons (.cmp .eq (.call "_law_take" (.cons (.var 0) (.cons (.cst (.int 2)) .nil))) (.cst (.int 0))) (.cons (.cmp .eq (.ix (.var 6) (.cst (.int 0))) (.tup .nil)) .nil))) (.tup (.cons (.bin .add false (.ix (.var 6) (.cst (.int 0))) (.tup (.cons (.cst (.int 0)) .nil))) (.cons (.ix (.var 6) (.cst (.int 1))) .nil))) (.tup (.cons (.bin .add false (.sl false (.ix (.var 6) (.cst (.int 0))) .none (.some (.neg (.cst (.int 1))))) (.tup (.cons (.cst (.str "last")) .nil))) (.cons (.ix (.var 6) (.cst (.int 1))) .nil)))))
    .nil) .nil)
    (.cons (.asg (.nm 8) (.bin .add false (.bin .add false (.sl false (.ix (.var 3) (.var 4)) .none (.some (.var 5))) (.tup (.cons (.var 7) .nil))) (.sl false (.ix (.var 3) (.var 4)) (.some (.bin .add false (.var 5) (.cst (.int 1)))) .none)))
    (.cons (.ret (.call "_law_numbered" (.cons (.var 2) (.cons (.bin .add false (.bin .add false (.sl false (.var 3) .none (.some (.var 4))) (.tup (.cons (.var 8) .nil))) (.sl false (.var 3) (.some (.bin .add false (.var 4) (.cst (.int 1)))) .none)) .nil))))
    .nil))))))))
def d_law_changed : Df := ⟨"_law_changed", topS 18, ["tape", "machine", "rows", "table", "s", "r", "old", "place", "line"], ["tape", "machine"], ⟨2, 9, b_law_changed⟩⟩
def b_law_differ : Ss := (.cons (.ifs (.bop false (.cons (.cmp .isN (.var 0) (.cst .non)) (.cons (.cmp .isN (.var 1) (.cst .non)) .nil))) (.cons (.ret (.bop false (.cons (.cmp .notN (.var 0) (.cst .non)) (.cons (.cmp .notN (.var 1) (.cst .non)) .nil))))
    .nil) .nil)
    (.cons (.ret (.not (.call "_law_same" (.cons (.ix (.var 0) (.cst (.int 0))) (.cons (.ix (.var 1) (.cst (.int 0))) .nil)))))
    .nil))
def d_law_differ : Df := ⟨"_law_differ", topS 19, ["a", "b"], ["a", "b"], ⟨2, 2, b_law_differ⟩⟩
def b_law_marked : Ss := (.cons (.asg (.tp (.cons (.nm 1) (.cons (.nm 2) .nil))) (.var 0))
    (.cons (.asg (.nm 3) (.dic .nil))
    (.cons (.fr (.nm 4) (.rng1 (.bi .len false (.cons (.var 2) .nil))) (.cons (.fr (.nm 6) (.rng1 (.var 4)) (.cons (.ifs (.bi .any false (.cons (.lc false (.nm 7) (.rng1 (.bi .len false (.cons (.var 1) .nil))) .nil (.call "_law_differ" (.cons (.ix (.ix (.var 2) (.var 4)) (.var 7)) (.cons (.ix (.ix (.var 2) (.var 6)) (.var 7)) .nil)))) .nil)) (.cons (.asg (.sub (.var 3) (.tup (.cons (.var 4) (.cons (.var 6) .nil)))) (.cst (.bl true)))
    .nil) .nil)
    .nil))
    .nil))
    (.cons (.fr (.nm 5) (.rng1 (.bin .add false (.bi .len false (.cons (.var 2) .nil)) (.cst (.int 1)))) (.cons (.fr (.nm 4) (.rng1 (.bi .len false (.cons (.var 2) .nil))) (.cons (.fr (.nm 6) (.rng1 (.var 4)) (.cons (.ifs (.bop true (.cons (.cmp .nin (.tup (.cons (.var 4) (.cons (.var 6) .nil))) (.var 3)) (.cons (.call "_law_leads" (.cons (.var 2) (.cons (.var 3) (.cons (.var 4) (.cons (.var 6) .nil))))) .nil))) (.cons (.asg (.sub (.var 3) (.tup (.cons (.var 4) (.cons (.var 6) .nil)))) (.cst (.bl true)))
    .nil) .nil)
    .nil))
    .nil))
    .nil))
    (.cons (.ret (.var 3))
    .nil)))))
def d_law_marked : Df := ⟨"_law_marked", topS 20, ["machine", "rows", "table", "marked", "one", "turn", "other", "r"], ["machine"], ⟨1, 8, b_law_marked⟩⟩
def b_law_leads : Ss := (.cons (.fr (.nm 4) (.rng1 (.bi .len false (.cons (.ix (.var 0) (.var 2)) .nil))) (.cons (.asg (.nm 5) (.ix (.ix (.var 0) (.var 2)) (.var 4)))
    (.cons (.asg (.nm 6) (.ix (.ix (.var 0) (.var 3)) (.var 4)))
    (.cons (.ifs (.bop true (.cons (.cmp .notN (.var 5) (.cst .non)) (.cons (.cmp .notN (.var 6) (.cst .non)) (.cons (.cmp .inn (.tup (.cons (.bi .max2 false (.cons (.ix (.var 5) (.cst (.int 1))) (.cons (.ix (.var 6) (.cst (.int 1))) .nil))) (.cons (.bi .min2 false (.cons (.ix (.var 5) (.cst (.int 1))) (.cons (.ix (.var 6) (.cst (.int 1))) .nil))) .nil))) (.var 1)) .nil)))) (.cons (.ret (.cst (.bl true)))
    .nil) .nil)
    .nil))))
    (.cons (.ret (.cst (.bl false)))
    .nil))
def d_law_leads : Df := ⟨"_law_leads", topS 21, ["table", "marked", "one", "other", "r", "a", "b"], ["table", "marked", "one", "other"], ⟨4, 7, b_law_leads⟩⟩
def b_law_walked : Ss := (.cons (.asg (.nm 2) (.lst true (.cons (.tup (.cons (.cst (.int 0)) (.cons (.cst (.int 0)) .nil))) .nil)))
    (.cons (.asg (.nm 3) (.lst true (.cons (.tup (.cons (.cst (.int 0)) (.cons (.cst (.int 0)) .nil))) .nil)))
    (.cons (.fr (.nm 4) (.rng1 (.bin .add false (.bin .mul false (.bi .len false (.cons (.ix (.var 0) (.cst (.int 1))) .nil)) (.bi .len false (.cons (.ix (.var 1) (.cst (.int 1))) .nil))) (.cst (.int 1)))) (.cons (.ifs (.cmp .eq (.bi .len false (.cons (.var 3) .nil)) (.cst (.int 0))) (.cons (.ret (.cst (.bl true)))
    .nil) .nil)
    (.cons (.asg (.tp (.cons (.nm 5) (.cons (.nm 6) .nil))) (.mth .pop0 (.var 3) .nil))
    (.cons (.fr (.nm 7) (.rng1 (.bi .len false (.cons (.ix (.var 0) (.cst (.int 0))) .nil))) (.cons (.asg (.nm 8) (.ix (.ix (.ix (.var 0) (.cst (.int 1))) (.var 5)) (.var 7)))
    (.cons (.asg (.nm 9) (.ix (.ix (.ix (.var 1) (.cst (.int 1))) (.var 6)) (.var 7)))
    (.cons (.ifs (.call "_law_differ" (.cons (.var 8) (.cons (.var 9) .nil))) (.cons (.ret (.cst (.bl false)))
    .nil) .nil)
    (.cons (.ifs (.bop true (.cons (.cmp .notN (.var 8) (.cst .non)) (.cons (.cmp .nin (.tup (.cons (.ix (.var 8) (.cst (.int 1))) (.cons (.ix (.var 9) (.cst (.int 1))) .nil))) (.var 2)) .nil))) (.cons (.expr (.mth .append (.var 2) (.cons (.tup (.cons (.ix (.var 8) (.cst (.int 1))) (.cons (.ix (.var 9) (.cst (.int 1))) .nil))) .nil)))
    (.cons (.expr (.mth .append (.var 3) (.cons (.tup (.cons (.ix (.var 8) (.cst (.int 1))) (.cons (.ix (.var 9) (.cst (.int 1))) .nil))) .nil)))
    .nil)) .nil)
    .nil)))))
    .nil))))
    (.cons (.ret (.cst (.bl true)))
    .nil))))
def d_law_walked : Df := ⟨"_law_walked", topS 22, ["machine", "other", "met", "todo", "turn", "one", "two", "r", "a", "b"], ["machine", "other"], ⟨2, 10, b_law_walked⟩⟩
def b_law_long : Ss := (.cons (.asg (.nm 1) (.bin .add false (.cst (.int 41)) (.call "_law_take" (.cons (.var 0) (.cons (.cst (.int 160)) .nil)))))
    (.cons (.asg (.nm 2) (.lc false (.nm 10) (.rng2 (.cst (.int 1)) (.bin .add false (.var 1) (.cst (.int 1)))) (.cons (.cmp .eq (.bin .mod false (.var 1) (.var 10)) (.cst (.int 0))) .nil) (.var 10)))
    (.cons (.asg (.nm 3) (.ix (.var 2) (.call "_law_take" (.cons (.var 0) (.cons (.bi .len false (.cons (.var 2) .nil)) .nil)))))
    (.cons (.asg (.nm 4) (.lc false (.nm 11) (.rng1 (.bin .add false (.cst (.int 1)) (.call "_law_take" (.cons (.var 0) (.cons (.cst (.int 3)) .nil))))) .nil (.call "_law_take" (.cons (.var 0) (.cons (.var 3) .nil)))))
    (.cons (.asg (.nm 5) (.lc false (.nm 11) (.rng1 (.var 1)) .nil (.tup (.cons (.cmp .inn (.bin .mod false (.var 11) (.var 3)) (.var 4)) .nil))))
    (.cons (.asg (.nm 6) (.ix (.lc false (.nm 10) (.val (.var 2)) (.cons (.cmp .eq (.bin .add false (.sl false (.var 5) (.some (.var 10)) .none) (.sl false (.var 5) .none (.some (.var 10)))) (.var 5)) .nil) (.var 10)) (.cst (.int 0))))
    (.cons (.asg (.nm 7) (.lc true (.nm 11) (.rng1 (.var 1)) .nil (.bin .mod false (.bin .add false (.var 11) (.cst (.int 1))) (.var 1))))
    (.cons (.ifs (.cmp .eq (.call "_law_take" (.cons (.var 0) (.cons (.cst (.int 3)) .nil))) (.cst (.int 0))) (.cons (.asg (.nm 6) (.var 1))
    (.cons (.asg (.nm 5) (.lc false (.nm 11) (.rng1 (.var 1)) .nil (.tup (.cons (.cmp .eq (.var 11) (.bin .sub false (.var 1) (.cst (.int 1)))) .nil))))
    (.cons (.asg (.sub (.var 7) (.bin .sub false (.var 1) (.cst (.int 1)))) (.bin .sub false (.var 1) (.cst (.int 1))))
    .nil))) .nil)
    (.cons (.asg (.nm 8) (.tup (.cons (.tup (.cons (.tup .nil) .nil)) (.cons (.bi .tuple false (.cons (.lc false (.nm 11) (.rng1 (.var 1)) .nil (.tup (.cons (.tup (.cons (.ix (.var 5) (.var 11)) (.cons (.ix (.var 7) (.var 11)) .nil))) .nil))) .nil)) .nil))))
    (.cons (.asg (.nm 9) (.bi .tuple false (.cons (.lc false (.nm 11) (.rng1 (.var 6)) .nil (.tup (.cons (.tup (.cons (.ix (.var 5) (.var 11)) (.cons (.bin .mod false (.ix (.var 7) (.var 11)) (.var 6)) .nil))) .nil))) .nil)))
    (.cons (.ifs (.not (.call "_law_same" (.cons (.call "classes" (.cons (.var 8) .nil)) (.cons (.bi .tuple false (.cons (.lc false (.nm 11) (.rng1 (.var 1)) .nil (.bin .mod false (.var 11) (.var 6))) .nil)) .nil)))) (.cons (.ret (.cst (.bl false)))
    .nil) .nil)
    (.cons (.ret (.call "_law_same" (.cons (.call "least_machine" (.cons (.var 8) .nil)) (.cons (.tup (.cons (.tup (.cons (.tup .nil) .nil)) (.cons (.var 9) .nil))) .nil))))
    .nil))))))))))))
def d_law_long : Df := ⟨"_law_long", topS 23, ["tape", "many", "periods", "period", "odd", "shown", "least", "after", "machine", "small", "p", "k"], ["tape"], ⟨1, 12, b_law_long⟩⟩
def b_law : Ss := (.cons (.asg (.nm 1) (.call "_law_tape" (.cons (.var 0) (.cons (.cst (.int 0)) .nil))))
    (.cons (.ifs (.bop true (.cons (.cmp .eq (.call "_law_take" (.cons (.var 1) (.cons (.cst (.int 6)) .nil))) (.cst (.int 0))) (.cons (.not (.call "_law_long" (.cons (.var 1) .nil))) .nil))) (.cons (.ret (.cst (.bl false)))
    .nil) .nil)
    (.cons (.asg (.nm 2) (.call "_law_menu" (.cons (.var 1) .nil)))
    (.cons (.asg (.nm 3) (.call "_law_machine" (.cons (.var 1) (.cons (.call "_law_input_rows" (.cons (.var 1) .nil)) (.cons (.cmp .eq (.call "_law_take" (.cons (.var 1) (.cons (.cst (.int 2)) .nil))) (.cst (.int 0))) (.cons (.var 2) .nil))))))
    (.cons (.ifs (.cmp .eq (.call "_law_take" (.cons (.var 1) (.cons (.cst (.int 8)) .nil))) (.cst (.int 0))) (.cons (.asg (.nm 3) (.call "_law_ring" (.cons (.var 1) (.cons (.var 2) .nil))))
    .nil) (.cons (.ifs (.cmp .eq (.call "_law_take" (.cons (.var 1) (.cons (.cst (.int 2)) .nil))) (.cst (.int 0))) (.cons (.asg (.nm 3) (.call "_law_copied" (.cons (.var 1) (.cons (.var 3) .nil))))
    .nil) .nil)
    .nil))
    (.cons (.asg (.nm 4) (.call "_law_marked" (.cons (.var 3) .nil)))
    (.cons (.asg (.nm 5) (.lst true .nil))
    (.cons (.fr (.nm 6) (.rng1 (.bi .len false (.cons (.ix (.var 3) (.cst (.int 1))) .nil))) (.cons (.asg (.nm 8) (.lc false (.nm 9) (.rng1 (.var 6)) (.cons (.cmp .nin (.tup (.cons (.var 6) (.cons (.var 9) .nil))) (.var 4)) .nil) (.var 9)))
    (.cons (.expr (.mth .append (.var 5) (.cons (.ife (.cmp .gt (.bi .len false (.cons (.var 8) .nil)) (.cst (.int 0))) (.ix (.var 5) (.ix (.var 8) (.cst (.int 0)))) (.bin .add false (.bi .max1 false (.cons (.bin .add false (.lst false (.cons (.neg (.cst (.int 1))) .nil)) (.var 5)) .nil)) (.cst (.int 1)))) .nil)))
    .nil)))
    (.cons (.ifs (.not (.call "_law_same" (.cons (.call "classes" (.cons (.var 3) .nil)) (.cons (.bi .tuple false (.cons (.var 5) .nil)) .nil)))) (.cons (.ret (.cst (.bl false)))
    .nil) .nil)
    (.cons (.asg (.nm 7) (.call "least_machine" (.cons (.var 3) .nil)))
    (.cons (.ifs (.bop false (.cons (.not (.isi .tup (.var 7))) (.cons (.cmp .ne (.bi .len false (.cons (.var 7) .nil)) (.cst (.int 2))) (.cons (.not (.call "_law_same" (.cons (.ix (.var 7) (.cst (.int 0))) (.cons (.ix (.var 3) (.cst (.int 0))) .nil)))) (.cons (.cmp .ne (.bi .len false (.cons (.ix (.var 7) (.cst (.int 1))) .nil)) (.bin .add false (.bi .max1 false (.cons (.var 5) .nil)) (.cst (.int 1)))) .nil))))) (.cons (.ret (.cst (.bl false)))
    .nil) .nil)
    (.cons (.ifs (.bop false (.cons (.not (.call "_law_same" (.cons (.call "_law_numbered" (.cons (.ix (.var 7) (.cst (.int 0))) (.cons (.ix (.var 7) (.cst (.int 1))) .nil))) (.cons (.var 7) .nil)))) (.cons (.not (.call "_law_walked" (.cons (.var 3) (.cons (.var 7) .nil)))) .nil))) (.cons (.ret (.cst (.bl false)))
    .nil) .nil)
    (.cons (.ifs (.not (.call "_law_same" (.cons (.call "least_machine" (.cons (.var 7) .nil)) (.cons (.var 7) .nil)))) (.cons (.ret (.cst (.bl false)))
    .nil) .nil)
    (.cons (.ret (.call "_law_same" (.cons (.call "least_machine" (.cons (.call "_law_copied" (.cons (.var 1) (.cons (.var 3) .nil))) .nil)) (.cons (.var 7) .nil))))
    .nil))))))))))))))
def d_law : Df := ⟨"law", topS 24, ["script", "tape", "menu", "machine", "marked", "numbers", "s", "least", "alike", "other"], ["script"], ⟨1, 10, b_law⟩⟩
def ds : List Df := [d_first_keys, d_tagged, d_in_order, d_refined, d_classes, d_least_machine, d_law_mix, d_law_tape, d_law_take, d_law_same, d_law_numbered, d_law_menu, d_law_machine, d_law_ring, d_law_input_rows, d_law_copied, d_law_changed, d_law_differ, d_law_marked, d_law_leads, d_law_walked, d_law_long, d_law]
end L56
set_option Elab.async false
set_option linter.all false
set_option maxRecDepth 100000
set_option autoImplicit false
/-! cuts; the tape within a frame. -/
namespace Pl.Tp
open PySem Pl L2 Pl.Eq
local macro_rules | `(tactic| simp_all! [$as,*]) => `(tactic| ((try dsimp only); rw [Pl.Eq.ss_cons]; simp only [Pl.Eq.e_cst, Pl.Eq.b_cst, Pl.Eq.e_var, Pl.Eq.b_var, Pl.Eq.e_bin, Pl.Eq.b_bin, Pl.Eq.e_neg, Pl.Eq.e_not, Pl.Eq.b_not, Pl.Eq.e_bop, Pl.Eq.b_bop, Pl.Eq.e_cmp, Pl.Eq.b_cmp, Pl.Eq.e_cmp2, Pl.Eq.b_cmp2, Pl.Eq.e_ife, Pl.Eq.b_ife, Pl.Eq.e_call, Pl.Eq.b_call, Pl.Eq.e_bi, Pl.Eq.b_bi, Pl.Eq.e_isi, Pl.Eq.b_isi, Pl.Eq.e_mth, Pl.Eq.e_ix, Pl.Eq.b_ix, Pl.Eq.e_sl, Pl.Eq.e_tup, Pl.Eq.e_lst, Pl.Eq.e_lc, Pl.Eq.e_lc2, Pl.Eq.e_lrg, Pl.Eq.e_dic, Pl.Eq.es_nil, Pl.Eq.es_cons, Pl.Eq.o_none, Pl.Eq.o_some, Pl.Eq.bb_nil, Pl.Eq.bb_cons, Pl.Eq.bo_one, Pl.Eq.bo_cons, Pl.Eq.f_nil, Pl.Eq.f_cons, Pl.Eq.i_val, Pl.Eq.i_rng1, Pl.Eq.i_rng2, Pl.Eq.i_rng3, Pl.Eq.i_enum, Pl.Eq.t_nm, Pl.Eq.t_tp, Pl.Eq.ts_nil, Pl.Eq.ts_cons, Pl.Eq.t_sub, Pl.Eq.s_expr, Pl.Eq.s_asg, Pl.Eq.s_par, Pl.Eq.s_aug, Pl.Eq.s_ret, Pl.Eq.s_retN, Pl.Eq.s_ifs, Pl.Eq.s_fr, Pl.Eq.s_brk, Pl.Eq.s_cnt, Pl.Eq.s_pass, Pl.Eq.ss_nil, Pl.Eq.p_addI, Pl.Eq.p_addT, Pl.Eq.p_subI, Pl.Eq.p_mulI, Pl.Eq.p_fdivI, Pl.Eq.p_modI, Pl.Eq.p_powI, Pl.Eq.p_lt, Pl.Eq.p_le, Pl.Eq.p_gt, Pl.Eq.p_ge, Pl.Eq.p_eq, Pl.Eq.p_ne, Pl.Eq.p_isN, Pl.Eq.p_notN, Pl.Eq.p_isB, Pl.Eq.p_notB, Pl.Eq.t_bl, Pl.Eq.t_int, Pl.Eq.t_tup, Pl.Eq.t_lst, Pl.Eq.mk_t, Pl.Eq.mk_f, Pl.Eq.i_non_tup, Pl.Eq.i_non_lst, Pl.Eq.i_non_int, Pl.Eq.i_non_bl, Pl.Eq.i_non_str, Pl.Eq.i_non_dic, Pl.Eq.i_bl_tup, Pl.Eq.i_bl_lst, Pl.Eq.i_bl_int, Pl.Eq.i_bl_bl, Pl.Eq.i_bl_str, Pl.Eq.i_bl_dic, Pl.Eq.i_int_tup, Pl.Eq.i_int_lst, Pl.Eq.i_int_int, Pl.Eq.i_int_bl, Pl.Eq.i_int_str, Pl.Eq.i_int_dic, Pl.Eq.i_str_tup, Pl.Eq.i_str_lst, Pl.Eq.i_str_int, Pl.Eq.i_str_bl, Pl.Eq.i_str_str, Pl.Eq.i_str_dic, Pl.Eq.i_tup_tup, Pl.Eq.i_tup_lst, Pl.Eq.i_tup_int, Pl.Eq.i_tup_bl, Pl.Eq.i_tup_str, Pl.Eq.i_tup_dic, Pl.Eq.i_lst_tup, Pl.Eq.i_lst_lst, Pl.Eq.i_lst_int, Pl.Eq.i_lst_bl, Pl.Eq.i_lst_str, Pl.Eq.i_lst_dic, Pl.Eq.n_non, Pl.Eq.n_bl, Pl.Eq.n_int, Pl.Eq.n_str, Pl.Eq.n_tup, Pl.Eq.n_lst, Pl.Eq.p_slT, Pl.Eq.p_lenT, Pl.Eq.p_lenL, Pl.Eq.p_lenR, Pl.Eq.p_intI, Pl.Eq.p_tuple, Pl.Eq.p_list, Pl.Eq.p_sorted, Pl.Eq.p_max1, Pl.Eq.p_min1, Pl.Eq.p_min, Pl.Eq.p_intB, Pl.Eq.p_mulT, Pl.Eq.p_addLL, Pl.Eq.p_slL, Pl.Eq.it_tup, Pl.Eq.it_lst, Pl.Eq.it_ro, Pl.Eq.si_lst, Pl.Eq.p_all, Pl.Eq.p_any, Pl.Eq.p_max, Pl.Eq.q_tup, Pl.Eq.q_lst, Pl.Eq.q_ro, Pl.Eq.l_lst, Pl.Eq.src_tup, Pl.Eq.src_lst, Pl.Eq.src_ro, Pl.Eq.src_mr, Pl.Eq.atP_some, Pl.Eq.x_tup_, Pl.Eq.x_lst_, Pl.Eq.x_ro_, Pl.Eq.seq_mr, Pl.Eq.lst_mr, Pl.Eq.dic_mr, Pl.Eq.tru_mr, Pl.Eq.it_mr, Pl.Eq.si_mr, Pl.Eq.x_mr, Pl.Eq.set_mr, Pl.Eq.len_mr, Pl.Eq.in_mr, Pl.Eq.nin_mr, Pl.Eq.ty_mr, Pl.Eq.mt_app, Pl.Eq.mt_p0, Pl.Eq.mt_p1, Pl.Eq.mt_ex, Pl.Eq.mt_in, Pl.Eq.mt_g1, Pl.Eq.mt_g2, Pl.Eq.oL_seq, Pl.Eq.oL_tru, Pl.Eq.oL_it, Pl.Eq.oL_ix, Pl.Eq.oL_set, Pl.Eq.oL_len, Pl.Eq.oL_in, Pl.Eq.oL_tyA, Pl.Eq.oL_tyI, Pl.Eq.oL_tyP, Pl.Eq.oL_tyQ, Pl.Eq.oL_tyE, Pl.Eq.oL_tyN, Pl.Eq.oL_app, Pl.Eq.oL_p0, Pl.Eq.oL_p1, Pl.Eq.oL_ex, Pl.Eq.oL_ins, Pl.Eq.oD_dic, Pl.Eq.oL_dic, Pl.Eq.oD_it, Pl.Eq.oD_ix, Pl.Eq.oD_set, Pl.Eq.oD_len, Pl.Eq.oD_in, Pl.Eq.oD_tyG, Pl.Eq.oD_tyH, Pl.Eq.oD_g1, Pl.Eq.oD_g2, Pl.Eq.fx_get, Pl.Eq.fx_get0, Pl.Eq.fx_set, Pl.Eq.fx_set0, Pl.Eq.fx_getS, Pl.Eq.fx_getS0, Pl.Eq.fx_setS, Pl.Eq.fx_setS0, Pl.Eq.at_nat, Pl.Eq.at_0, Pl.Eq.at_1, Pl.Eq.at_2, Pl.Eq.at_3, Pl.Eq.at_4, Pl.Eq.at_last, Pl.Eq.sz, Pl.Eq.ixN_0, Pl.Eq.ixN_1, Pl.Eq.ixN_2, Pl.Eq.ixN_3, Pl.Eq.ixN_4, List.getElem?_cons_zero, List.getElem?_cons_succ, List.set_cons_zero, List.set_cons_succ, Option.some.injEq, exists_eq_left, exists_eq_left', U.int.injEq, U.bl.injEq, U.tup.injEq, U.lst.injEq, Int.zero_add, Nat.reduceLeDiff, List.cons_append, List.nil_append, false_and, exists_false, exists_const, false_or, or_false, Pl.T.own, Pl.Ts.own, Pl.Ts.len, wipeU, Pl.Eq.eqI, Pl.Eq.eqB, beq_self_eq_true, Bool.not_true, Bool.not_false, Bool.false_eq_true, Bool.true_eq_false, reduceCtorEq, decide_true, decide_false, List.length_cons, List.length_nil, Nat.zero_add, Nat.reduceAdd, Nat.reduceLT, if_true, if_false, reduceIte, true_and, and_true, List.set_set, List.append_assoc, List.length_append, List.length_set, Nat.add_zero, List.append_nil, $as,*]))
local macro_rules | `(tactic| dsimp! [$as,*]) => `(tactic| (try simp only [Pl.Eq.e_cst, Pl.Eq.b_cst, Pl.Eq.e_var, Pl.Eq.b_var, Pl.Eq.e_bin, Pl.Eq.b_bin, Pl.Eq.e_neg, Pl.Eq.e_not, Pl.Eq.b_not, Pl.Eq.e_bop, Pl.Eq.b_bop, Pl.Eq.e_cmp, Pl.Eq.b_cmp, Pl.Eq.e_cmp2, Pl.Eq.b_cmp2, Pl.Eq.e_ife, Pl.Eq.b_ife, Pl.Eq.e_call, Pl.Eq.b_call, Pl.Eq.e_bi, Pl.Eq.b_bi, Pl.Eq.e_isi, Pl.Eq.b_isi, Pl.Eq.e_mth, Pl.Eq.e_ix, Pl.Eq.b_ix, Pl.Eq.e_sl, Pl.Eq.e_tup, Pl.Eq.e_lst, Pl.Eq.e_lc, Pl.Eq.e_lc2, Pl.Eq.e_lrg, Pl.Eq.e_dic, Pl.Eq.es_nil, Pl.Eq.es_cons, Pl.Eq.o_none, Pl.Eq.o_some, Pl.Eq.bb_nil, Pl.Eq.bb_cons, Pl.Eq.bo_one, Pl.Eq.bo_cons, Pl.Eq.f_nil, Pl.Eq.f_cons, Pl.Eq.i_val, Pl.Eq.i_rng1, Pl.Eq.i_rng2, Pl.Eq.i_rng3, Pl.Eq.i_enum, Pl.Eq.t_nm, Pl.Eq.t_tp, Pl.Eq.ts_nil, Pl.Eq.ts_cons, Pl.Eq.t_sub, Pl.Eq.s_expr, Pl.Eq.s_asg, Pl.Eq.s_par, Pl.Eq.s_aug, Pl.Eq.s_ret, Pl.Eq.s_retN, Pl.Eq.s_ifs, Pl.Eq.s_fr, Pl.Eq.s_brk, Pl.Eq.s_cnt, Pl.Eq.s_pass, Pl.Eq.ss_nil, Pl.Eq.p_addI, Pl.Eq.p_addT, Pl.Eq.p_subI, Pl.Eq.p_mulI, Pl.Eq.p_fdivI, Pl.Eq.p_modI, Pl.Eq.p_powI, Pl.Eq.p_lt, Pl.Eq.p_le, Pl.Eq.p_gt, Pl.Eq.p_ge, Pl.Eq.p_eq, Pl.Eq.p_ne, Pl.Eq.p_isN, Pl.Eq.p_notN, Pl.Eq.p_isB, Pl.Eq.p_notB, Pl.Eq.t_bl, Pl.Eq.t_int, Pl.Eq.t_tup, Pl.Eq.t_lst, Pl.Eq.mk_t, Pl.Eq.mk_f, Pl.Eq.i_non_tup, Pl.Eq.i_non_lst, Pl.Eq.i_non_int, Pl.Eq.i_non_bl, Pl.Eq.i_non_str, Pl.Eq.i_non_dic, Pl.Eq.i_bl_tup, Pl.Eq.i_bl_lst, Pl.Eq.i_bl_int, Pl.Eq.i_bl_bl, Pl.Eq.i_bl_str, Pl.Eq.i_bl_dic, Pl.Eq.i_int_tup, Pl.Eq.i_int_lst, Pl.Eq.i_int_int, Pl.Eq.i_int_bl, Pl.Eq.i_int_str, Pl.Eq.i_int_dic, Pl.Eq.i_str_tup, Pl.Eq.i_str_lst, Pl.Eq.i_str_int, Pl.Eq.i_str_bl, Pl.Eq.i_str_str, Pl.Eq.i_str_dic, Pl.Eq.i_tup_tup, Pl.Eq.i_tup_lst, Pl.Eq.i_tup_int, Pl.Eq.i_tup_bl, Pl.Eq.i_tup_str, Pl.Eq.i_tup_dic, Pl.Eq.i_lst_tup, Pl.Eq.i_lst_lst, Pl.Eq.i_lst_int, Pl.Eq.i_lst_bl, Pl.Eq.i_lst_str, Pl.Eq.i_lst_dic, Pl.Eq.n_non, Pl.Eq.n_bl, Pl.Eq.n_int, Pl.Eq.n_str, Pl.Eq.n_tup, Pl.Eq.n_lst, Pl.Eq.p_slT, Pl.Eq.p_lenT, Pl.Eq.p_lenL, Pl.Eq.p_lenR, Pl.Eq.p_intI, Pl.Eq.p_tuple, Pl.Eq.p_list, Pl.Eq.p_sorted, Pl.Eq.p_max1, Pl.Eq.p_min1, Pl.Eq.p_min, Pl.Eq.p_intB, Pl.Eq.p_mulT, Pl.Eq.p_addLL, Pl.Eq.p_slL, Pl.Eq.it_tup, Pl.Eq.it_lst, Pl.Eq.it_ro, Pl.Eq.si_lst, Pl.Eq.p_all, Pl.Eq.p_any, Pl.Eq.p_max, Pl.Eq.q_tup, Pl.Eq.q_lst, Pl.Eq.q_ro, Pl.Eq.l_lst, Pl.Eq.src_tup, Pl.Eq.src_lst, Pl.Eq.src_ro, Pl.Eq.src_mr, Pl.Eq.atP_some, Pl.Eq.x_tup_, Pl.Eq.x_lst_, Pl.Eq.x_ro_, Pl.Eq.seq_mr, Pl.Eq.lst_mr, Pl.Eq.dic_mr, Pl.Eq.tru_mr, Pl.Eq.it_mr, Pl.Eq.si_mr, Pl.Eq.x_mr, Pl.Eq.set_mr, Pl.Eq.len_mr, Pl.Eq.in_mr, Pl.Eq.nin_mr, Pl.Eq.ty_mr, Pl.Eq.mt_app, Pl.Eq.mt_p0, Pl.Eq.mt_p1, Pl.Eq.mt_ex, Pl.Eq.mt_in, Pl.Eq.mt_g1, Pl.Eq.mt_g2, Pl.Eq.oL_seq, Pl.Eq.oL_tru, Pl.Eq.oL_it, Pl.Eq.oL_ix, Pl.Eq.oL_set, Pl.Eq.oL_len, Pl.Eq.oL_in, Pl.Eq.oL_tyA, Pl.Eq.oL_tyI, Pl.Eq.oL_tyP, Pl.Eq.oL_tyQ, Pl.Eq.oL_tyE, Pl.Eq.oL_tyN, Pl.Eq.oL_app, Pl.Eq.oL_p0, Pl.Eq.oL_p1, Pl.Eq.oL_ex, Pl.Eq.oL_ins, Pl.Eq.oD_dic, Pl.Eq.oL_dic, Pl.Eq.oD_it, Pl.Eq.oD_ix, Pl.Eq.oD_set, Pl.Eq.oD_len, Pl.Eq.oD_in, Pl.Eq.oD_tyG, Pl.Eq.oD_tyH, Pl.Eq.oD_g1, Pl.Eq.oD_g2, Pl.Eq.fx_get, Pl.Eq.fx_get0, Pl.Eq.fx_set, Pl.Eq.fx_set0, Pl.Eq.fx_getS, Pl.Eq.fx_getS0, Pl.Eq.fx_setS, Pl.Eq.fx_setS0, Pl.Eq.at_nat, Pl.Eq.at_0, Pl.Eq.at_1, Pl.Eq.at_2, Pl.Eq.at_3, Pl.Eq.at_4, Pl.Eq.at_last, Pl.Eq.sz, Pl.Eq.ixN_0, Pl.Eq.ixN_1, Pl.Eq.ixN_2, Pl.Eq.ixN_3, Pl.Eq.ixN_4, List.getElem?_cons_zero, List.getElem?_cons_succ, List.set_cons_zero, List.set_cons_succ, Option.some.injEq, exists_eq_left, exists_eq_left', U.int.injEq, U.bl.injEq, U.tup.injEq, U.lst.injEq, Int.zero_add, Nat.reduceLeDiff, List.cons_append, List.nil_append, false_and, exists_false, exists_const, false_or, or_false, Pl.T.own, Pl.Ts.own, Pl.Ts.len, wipeU, Pl.Eq.eqI, Pl.Eq.eqB, beq_self_eq_true, Bool.not_true, Bool.not_false, Bool.false_eq_true, Bool.true_eq_false, reduceCtorEq, decide_true, decide_false, List.length_cons, List.length_nil, Nat.zero_add, Nat.reduceAdd, Nat.reduceLT, if_true, if_false, reduceIte, true_and, and_true, List.set_set, List.append_assoc, List.length_append, List.length_set, Nat.add_zero, List.append_nil, $as,*]))
section
variable {F : CallT} {ex : Ex → Sg → Hu → Prop} {g : Sg} {h : Hu} {Q : QE} {D : En}
theorem cutS {s : S} (R : Sg → Hu → Prop) (a : ∀ N : Sg → Hu → Prop, (∀ g h, R g h → N g h) → wpS F ex s ⟨N, D.rt, D.bk, D.ct⟩ g h) (b : ∀ g h, R g h → D.nx g h) : wpS F ex s D g h := a D.nx b
theorem cutSs {s : S} {ss : Ss} (R : Sg → Hu → Prop) (a : ∀ N : Sg → Hu → Prop, (∀ g h, R g h → N g h) → wpS F ex s ⟨N, D.rt, D.bk, D.ct⟩ g h) (b : ∀ g h, R g h → wpSs F ex ss D g h) : wpSs F ex (.cons s ss) D g h := a _ b
theorem cutX {e : X} (R : U → Hu → Prop) (a : ∀ N : QE, (∀ u h, R u h → N u h) → (wpX F ex e).e g h N) (b : ∀ u h, R u h → Q u h) : (wpX F ex e).e g h Q := a Q b
end
theorem fx_setA {h : Hu} {t : Nat} {o : O} (l : t < h.length) : (h.set t o)[t]? = some o := List.getElem?_set_self l
section
variable {tbl : Str → Option Fn} {d : Nat} {h : Hu} {Q : QE} {E : Ex → Hu → Prop}
/-- the tape's object stands at t, in a frame -/
theorem c_tk (em : tbl "_law_mix" = some ⟨1, 1, t_mix⟩) (et : tbl "_law_take" = some ⟨2, 4, t_take⟩) {t : Nat} {m : Int} {o : O} {os : List O} (lt : t < h.length) (ho : IsTape o) (m1 : 1 ≤ m) (m2 : m ≤ 1000000)
    (q : ∀ (k : Nat) (o : O), (k : Int) < m → IsTape o → Q (.int k) (h.set t o ++ os)) : callN tbl (d + 2) "_law_take" [.mr t, .int m] (h.set t o ++ os) Q E := by
  refine c_take em et (o := o) (by rw [fx_out (by simpa using lt), fx_self lt]) ho m1 m2 fun k o' k0 k1 ho' => ?_
  obtain ⟨k, rfl⟩ := Int.eq_ofNat_of_zero_le k0
  rw [fx_outs (by simpa using lt), List.set_set]
  exact q k o' k1 ho'
theorem c_tk0 (em : tbl "_law_mix" = some ⟨1, 1, t_mix⟩) (et : tbl "_law_take" = some ⟨2, 4, t_take⟩) {t : Nat} {m : Int} {o : O} (lt : t < h.length) (ho : IsTape o) (m1 : 1 ≤ m) (m2 : m ≤ 1000000)
    (q : ∀ (k : Nat) (o : O), (k : Int) < m → IsTape o → Q (.int k) (h.set t o)) : callN tbl (d + 2) "_law_take" [.mr t, .int m] (h.set t o) Q E := by
  refine c_take em et (o := o) (fx_self lt) ho m1 m2 fun k o' k0 k1 ho' => ?_
  obtain ⟨k, rfl⟩ := Int.eq_ofNat_of_zero_le k0
  rw [List.set_set]
  exact q k o' k1 ho'
end
theorem sm_mono : ∀ {d e : Nat} {u : U}, d ≤ e → sm d u → sm e u
  | 0, _, _, _, p => p.elim
  | d + 1, 0, _, l, _ => by omega
  | d + 1, e + 1, u, l, p => by
    cases u with
    | tup xs => exact ⟨p.1, fun x m => sm_mono (by omega) (p.2 x m)⟩
    | lst xs => exact p.elim
    | ro xs => exact p.elim
    | mr _ => exact p.elim
    | fn _ => exact p.elim
    | str x => exact p
    | _ => trivial
theorem tape_opd {o : O} (h : IsTape o) : opd o := by
  obtain ⟨ss, pos, left, seed, bud, rfl, _, _⟩ := h
  intro x m
  simp only [List.mem_cons, List.not_mem_nil, or_false] at m
  rcases m with rfl | rfl | rfl | rfl | rfl
  · intro y my
    obtain ⟨i, _, rfl⟩ := List.mem_map.mp my
    trivial
  all_goals trivial
/-- a call's end where only the tape has moved -/
theorem stl_tape {r : U} {os : List O} {h0 : Hu} {Q : QE} {t : Nat} {o o0 : O} (pr : pd 64 r) (po : IsTape o) (q : Q r (h0.set t o)) : stl (h0.set t o0) r (h0.set t o ++ os) Q := by
  have e : h0.set t o = (h0.set t o0).set t o := by rw [List.set_set]
  rw [e]
  exact stl_set pr (tape_opd po) (by rw [← e]; exact q)
theorem stl_tape0 {r : U} {h0 : Hu} {Q : QE} {t : Nat} {o o0 : O} (q : Q r (h0.set t o)) : stl (h0.set t o0) r (h0.set t o) Q := .inl q
end Pl.Tp
set_option Elab.async false
set_option linter.all false
set_option maxRecDepth 100000
set_option autoImplicit false
/-! dicts of encoded keys; sorted rows of pairs. -/
namespace Pl.Tp
open PySem Pl L2 Pl.Eq
local macro_rules | `(tactic| simp_all! [$as,*]) => `(tactic| ((try dsimp only); rw [Pl.Eq.ss_cons]; simp only [Pl.Eq.e_cst, Pl.Eq.b_cst, Pl.Eq.e_var, Pl.Eq.b_var, Pl.Eq.e_bin, Pl.Eq.b_bin, Pl.Eq.e_neg, Pl.Eq.e_not, Pl.Eq.b_not, Pl.Eq.e_bop, Pl.Eq.b_bop, Pl.Eq.e_cmp, Pl.Eq.b_cmp, Pl.Eq.e_cmp2, Pl.Eq.b_cmp2, Pl.Eq.e_ife, Pl.Eq.b_ife, Pl.Eq.e_call, Pl.Eq.b_call, Pl.Eq.e_bi, Pl.Eq.b_bi, Pl.Eq.e_isi, Pl.Eq.b_isi, Pl.Eq.e_mth, Pl.Eq.e_ix, Pl.Eq.b_ix, Pl.Eq.e_sl, Pl.Eq.e_tup, Pl.Eq.e_lst, Pl.Eq.e_lc, Pl.Eq.e_lc2, Pl.Eq.e_lrg, Pl.Eq.e_dic, Pl.Eq.es_nil, Pl.Eq.es_cons, Pl.Eq.o_none, Pl.Eq.o_some, Pl.Eq.bb_nil, Pl.Eq.bb_cons, Pl.Eq.bo_one, Pl.Eq.bo_cons, Pl.Eq.f_nil, Pl.Eq.f_cons, Pl.Eq.i_val, Pl.Eq.i_rng1, Pl.Eq.i_rng2, Pl.Eq.i_rng3, Pl.Eq.i_enum, Pl.Eq.t_nm, Pl.Eq.t_tp, Pl.Eq.ts_nil, Pl.Eq.ts_cons, Pl.Eq.t_sub, Pl.Eq.s_expr, Pl.Eq.s_asg, Pl.Eq.s_par, Pl.Eq.s_aug, Pl.Eq.s_ret, Pl.Eq.s_retN, Pl.Eq.s_ifs, Pl.Eq.s_fr, Pl.Eq.s_brk, Pl.Eq.s_cnt, Pl.Eq.s_pass, Pl.Eq.ss_nil, Pl.Eq.p_addI, Pl.Eq.p_addT, Pl.Eq.p_subI, Pl.Eq.p_mulI, Pl.Eq.p_fdivI, Pl.Eq.p_modI, Pl.Eq.p_powI, Pl.Eq.p_lt, Pl.Eq.p_le, Pl.Eq.p_gt, Pl.Eq.p_ge, Pl.Eq.p_eq, Pl.Eq.p_ne, Pl.Eq.p_isN, Pl.Eq.p_notN, Pl.Eq.p_isB, Pl.Eq.p_notB, Pl.Eq.t_bl, Pl.Eq.t_int, Pl.Eq.t_tup, Pl.Eq.t_lst, Pl.Eq.mk_t, Pl.Eq.mk_f, Pl.Eq.i_non_tup, Pl.Eq.i_non_lst, Pl.Eq.i_non_int, Pl.Eq.i_non_bl, Pl.Eq.i_non_str, Pl.Eq.i_non_dic, Pl.Eq.i_bl_tup, Pl.Eq.i_bl_lst, Pl.Eq.i_bl_int, Pl.Eq.i_bl_bl, Pl.Eq.i_bl_str, Pl.Eq.i_bl_dic, Pl.Eq.i_int_tup, Pl.Eq.i_int_lst, Pl.Eq.i_int_int, Pl.Eq.i_int_bl, Pl.Eq.i_int_str, Pl.Eq.i_int_dic, Pl.Eq.i_str_tup, Pl.Eq.i_str_lst, Pl.Eq.i_str_int, Pl.Eq.i_str_bl, Pl.Eq.i_str_str, Pl.Eq.i_str_dic, Pl.Eq.i_tup_tup, Pl.Eq.i_tup_lst, Pl.Eq.i_tup_int, Pl.Eq.i_tup_bl, Pl.Eq.i_tup_str, Pl.Eq.i_tup_dic, Pl.Eq.i_lst_tup, Pl.Eq.i_lst_lst, Pl.Eq.i_lst_int, Pl.Eq.i_lst_bl, Pl.Eq.i_lst_str, Pl.Eq.i_lst_dic, Pl.Eq.n_non, Pl.Eq.n_bl, Pl.Eq.n_int, Pl.Eq.n_str, Pl.Eq.n_tup, Pl.Eq.n_lst, Pl.Eq.p_slT, Pl.Eq.p_lenT, Pl.Eq.p_lenL, Pl.Eq.p_lenR, Pl.Eq.p_intI, Pl.Eq.p_tuple, Pl.Eq.p_list, Pl.Eq.p_sorted, Pl.Eq.p_max1, Pl.Eq.p_min1, Pl.Eq.p_min, Pl.Eq.p_intB, Pl.Eq.p_mulT, Pl.Eq.p_addLL, Pl.Eq.p_slL, Pl.Eq.it_tup, Pl.Eq.it_lst, Pl.Eq.it_ro, Pl.Eq.si_lst, Pl.Eq.p_all, Pl.Eq.p_any, Pl.Eq.p_max, Pl.Eq.q_tup, Pl.Eq.q_lst, Pl.Eq.q_ro, Pl.Eq.l_lst, Pl.Eq.src_tup, Pl.Eq.src_lst, Pl.Eq.src_ro, Pl.Eq.src_mr, Pl.Eq.atP_some, Pl.Eq.x_tup_, Pl.Eq.x_lst_, Pl.Eq.x_ro_, Pl.Eq.seq_mr, Pl.Eq.lst_mr, Pl.Eq.dic_mr, Pl.Eq.tru_mr, Pl.Eq.it_mr, Pl.Eq.si_mr, Pl.Eq.x_mr, Pl.Eq.set_mr, Pl.Eq.len_mr, Pl.Eq.in_mr, Pl.Eq.nin_mr, Pl.Eq.ty_mr, Pl.Eq.mt_app, Pl.Eq.mt_p0, Pl.Eq.mt_p1, Pl.Eq.mt_ex, Pl.Eq.mt_in, Pl.Eq.mt_g1, Pl.Eq.mt_g2, Pl.Eq.oL_seq, Pl.Eq.oL_tru, Pl.Eq.oL_it, Pl.Eq.oL_ix, Pl.Eq.oL_set, Pl.Eq.oL_len, Pl.Eq.oL_in, Pl.Eq.oL_tyA, Pl.Eq.oL_tyI, Pl.Eq.oL_tyP, Pl.Eq.oL_tyQ, Pl.Eq.oL_tyE, Pl.Eq.oL_tyN, Pl.Eq.oL_app, Pl.Eq.oL_p0, Pl.Eq.oL_p1, Pl.Eq.oL_ex, Pl.Eq.oL_ins, Pl.Eq.oD_dic, Pl.Eq.oL_dic, Pl.Eq.oD_it, Pl.Eq.oD_ix, Pl.Eq.oD_set, Pl.Eq.oD_len, Pl.Eq.oD_in, Pl.Eq.oD_tyG, Pl.Eq.oD_tyH, Pl.Eq.oD_g1, Pl.Eq.oD_g2, Pl.Eq.fx_get, Pl.Eq.fx_get0, Pl.Eq.fx_set, Pl.Eq.fx_set0, Pl.Eq.fx_getS, Pl.Eq.fx_getS0, Pl.Eq.fx_setS, Pl.Eq.fx_setS0, Pl.Eq.at_nat, Pl.Eq.at_0, Pl.Eq.at_1, Pl.Eq.at_2, Pl.Eq.at_3, Pl.Eq.at_4, Pl.Eq.at_last, Pl.Eq.sz, Pl.Eq.ixN_0, Pl.Eq.ixN_1, Pl.Eq.ixN_2, Pl.Eq.ixN_3, Pl.Eq.ixN_4, List.getElem?_cons_zero, List.getElem?_cons_succ, List.set_cons_zero, List.set_cons_succ, Option.some.injEq, exists_eq_left, exists_eq_left', U.int.injEq, U.bl.injEq, U.tup.injEq, U.lst.injEq, Int.zero_add, Nat.reduceLeDiff, List.cons_append, List.nil_append, false_and, exists_false, exists_const, false_or, or_false, Pl.T.own, Pl.Ts.own, Pl.Ts.len, wipeU, Pl.Eq.eqI, Pl.Eq.eqB, beq_self_eq_true, Bool.not_true, Bool.not_false, Bool.false_eq_true, Bool.true_eq_false, reduceCtorEq, decide_true, decide_false, List.length_cons, List.length_nil, Nat.zero_add, Nat.reduceAdd, Nat.reduceLT, if_true, if_false, reduceIte, true_and, and_true, List.set_set, List.append_assoc, List.length_append, List.length_set, Nat.add_zero, List.append_nil, $as,*]))
local macro_rules | `(tactic| dsimp! [$as,*]) => `(tactic| (try simp only [Pl.Eq.e_cst, Pl.Eq.b_cst, Pl.Eq.e_var, Pl.Eq.b_var, Pl.Eq.e_bin, Pl.Eq.b_bin, Pl.Eq.e_neg, Pl.Eq.e_not, Pl.Eq.b_not, Pl.Eq.e_bop, Pl.Eq.b_bop, Pl.Eq.e_cmp, Pl.Eq.b_cmp, Pl.Eq.e_cmp2, Pl.Eq.b_cmp2, Pl.Eq.e_ife, Pl.Eq.b_ife, Pl.Eq.e_call, Pl.Eq.b_call, Pl.Eq.e_bi, Pl.Eq.b_bi, Pl.Eq.e_isi, Pl.Eq.b_isi, Pl.Eq.e_mth, Pl.Eq.e_ix, Pl.Eq.b_ix, Pl.Eq.e_sl, Pl.Eq.e_tup, Pl.Eq.e_lst, Pl.Eq.e_lc, Pl.Eq.e_lc2, Pl.Eq.e_lrg, Pl.Eq.e_dic, Pl.Eq.es_nil, Pl.Eq.es_cons, Pl.Eq.o_none, Pl.Eq.o_some, Pl.Eq.bb_nil, Pl.Eq.bb_cons, Pl.Eq.bo_one, Pl.Eq.bo_cons, Pl.Eq.f_nil, Pl.Eq.f_cons, Pl.Eq.i_val, Pl.Eq.i_rng1, Pl.Eq.i_rng2, Pl.Eq.i_rng3, Pl.Eq.i_enum, Pl.Eq.t_nm, Pl.Eq.t_tp, Pl.Eq.ts_nil, Pl.Eq.ts_cons, Pl.Eq.t_sub, Pl.Eq.s_expr, Pl.Eq.s_asg, Pl.Eq.s_par, Pl.Eq.s_aug, Pl.Eq.s_ret, Pl.Eq.s_retN, Pl.Eq.s_ifs, Pl.Eq.s_fr, Pl.Eq.s_brk, Pl.Eq.s_cnt, Pl.Eq.s_pass, Pl.Eq.ss_nil, Pl.Eq.p_addI, Pl.Eq.p_addT, Pl.Eq.p_subI, Pl.Eq.p_mulI, Pl.Eq.p_fdivI, Pl.Eq.p_modI, Pl.Eq.p_powI, Pl.Eq.p_lt, Pl.Eq.p_le, Pl.Eq.p_gt, Pl.Eq.p_ge, Pl.Eq.p_eq, Pl.Eq.p_ne, Pl.Eq.p_isN, Pl.Eq.p_notN, Pl.Eq.p_isB, Pl.Eq.p_notB, Pl.Eq.t_bl, Pl.Eq.t_int, Pl.Eq.t_tup, Pl.Eq.t_lst, Pl.Eq.mk_t, Pl.Eq.mk_f, Pl.Eq.i_non_tup, Pl.Eq.i_non_lst, Pl.Eq.i_non_int, Pl.Eq.i_non_bl, Pl.Eq.i_non_str, Pl.Eq.i_non_dic, Pl.Eq.i_bl_tup, Pl.Eq.i_bl_lst, Pl.Eq.i_bl_int, Pl.Eq.i_bl_bl, Pl.Eq.i_bl_str, Pl.Eq.i_bl_dic, Pl.Eq.i_int_tup, Pl.Eq.i_int_lst, Pl.Eq.i_int_int, Pl.Eq.i_int_bl, Pl.Eq.i_int_str, Pl.Eq.i_int_dic, Pl.Eq.i_str_tup, Pl.Eq.i_str_lst, Pl.Eq.i_str_int, Pl.Eq.i_str_bl, Pl.Eq.i_str_str, Pl.Eq.i_str_dic, Pl.Eq.i_tup_tup, Pl.Eq.i_tup_lst, Pl.Eq.i_tup_int, Pl.Eq.i_tup_bl, Pl.Eq.i_tup_str, Pl.Eq.i_tup_dic, Pl.Eq.i_lst_tup, Pl.Eq.i_lst_lst, Pl.Eq.i_lst_int, Pl.Eq.i_lst_bl, Pl.Eq.i_lst_str, Pl.Eq.i_lst_dic, Pl.Eq.n_non, Pl.Eq.n_bl, Pl.Eq.n_int, Pl.Eq.n_str, Pl.Eq.n_tup, Pl.Eq.n_lst, Pl.Eq.p_slT, Pl.Eq.p_lenT, Pl.Eq.p_lenL, Pl.Eq.p_lenR, Pl.Eq.p_intI, Pl.Eq.p_tuple, Pl.Eq.p_list, Pl.Eq.p_sorted, Pl.Eq.p_max1, Pl.Eq.p_min1, Pl.Eq.p_min, Pl.Eq.p_intB, Pl.Eq.p_mulT, Pl.Eq.p_addLL, Pl.Eq.p_slL, Pl.Eq.it_tup, Pl.Eq.it_lst, Pl.Eq.it_ro, Pl.Eq.si_lst, Pl.Eq.p_all, Pl.Eq.p_any, Pl.Eq.p_max, Pl.Eq.q_tup, Pl.Eq.q_lst, Pl.Eq.q_ro, Pl.Eq.l_lst, Pl.Eq.src_tup, Pl.Eq.src_lst, Pl.Eq.src_ro, Pl.Eq.src_mr, Pl.Eq.atP_some, Pl.Eq.x_tup_, Pl.Eq.x_lst_, Pl.Eq.x_ro_, Pl.Eq.seq_mr, Pl.Eq.lst_mr, Pl.Eq.dic_mr, Pl.Eq.tru_mr, Pl.Eq.it_mr, Pl.Eq.si_mr, Pl.Eq.x_mr, Pl.Eq.set_mr, Pl.Eq.len_mr, Pl.Eq.in_mr, Pl.Eq.nin_mr, Pl.Eq.ty_mr, Pl.Eq.mt_app, Pl.Eq.mt_p0, Pl.Eq.mt_p1, Pl.Eq.mt_ex, Pl.Eq.mt_in, Pl.Eq.mt_g1, Pl.Eq.mt_g2, Pl.Eq.oL_seq, Pl.Eq.oL_tru, Pl.Eq.oL_it, Pl.Eq.oL_ix, Pl.Eq.oL_set, Pl.Eq.oL_len, Pl.Eq.oL_in, Pl.Eq.oL_tyA, Pl.Eq.oL_tyI, Pl.Eq.oL_tyP, Pl.Eq.oL_tyQ, Pl.Eq.oL_tyE, Pl.Eq.oL_tyN, Pl.Eq.oL_app, Pl.Eq.oL_p0, Pl.Eq.oL_p1, Pl.Eq.oL_ex, Pl.Eq.oL_ins, Pl.Eq.oD_dic, Pl.Eq.oL_dic, Pl.Eq.oD_it, Pl.Eq.oD_ix, Pl.Eq.oD_set, Pl.Eq.oD_len, Pl.Eq.oD_in, Pl.Eq.oD_tyG, Pl.Eq.oD_tyH, Pl.Eq.oD_g1, Pl.Eq.oD_g2, Pl.Eq.fx_get, Pl.Eq.fx_get0, Pl.Eq.fx_set, Pl.Eq.fx_set0, Pl.Eq.fx_getS, Pl.Eq.fx_getS0, Pl.Eq.fx_setS, Pl.Eq.fx_setS0, Pl.Eq.at_nat, Pl.Eq.at_0, Pl.Eq.at_1, Pl.Eq.at_2, Pl.Eq.at_3, Pl.Eq.at_4, Pl.Eq.at_last, Pl.Eq.sz, Pl.Eq.ixN_0, Pl.Eq.ixN_1, Pl.Eq.ixN_2, Pl.Eq.ixN_3, Pl.Eq.ixN_4, List.getElem?_cons_zero, List.getElem?_cons_succ, List.set_cons_zero, List.set_cons_succ, Option.some.injEq, exists_eq_left, exists_eq_left', U.int.injEq, U.bl.injEq, U.tup.injEq, U.lst.injEq, Int.zero_add, Nat.reduceLeDiff, List.cons_append, List.nil_append, false_and, exists_false, exists_const, false_or, or_false, Pl.T.own, Pl.Ts.own, Pl.Ts.len, wipeU, Pl.Eq.eqI, Pl.Eq.eqB, beq_self_eq_true, Bool.not_true, Bool.not_false, Bool.false_eq_true, Bool.true_eq_false, reduceCtorEq, decide_true, decide_false, List.length_cons, List.length_nil, Nat.zero_add, Nat.reduceAdd, Nat.reduceLT, if_true, if_false, reduceIte, true_and, and_true, List.set_set, List.append_assoc, List.length_append, List.length_set, Nat.add_zero, List.append_nil, $as,*]))
structure KeyEnc {α : Type} [DecidableEq α] (f : α → U) : Prop where
  s : ∀ a, (kOf (f a)).isSome = true
  e : ∀ a b, keq (f a) (f b) = decide (a = b)
section
variable {α β : Type} [DecidableEq α] {f : α → U} (K : KeyEnc f) {g : β → U} {kf : β → α}
include K
theorem KeyEnc.look {D : List β} {a : α} : dlook (D.map fun e => (f (kf e), g e)) (f a) = (D.find? fun e => decide (kf e = a)).map g := by
  induction D with
  | nil => rfl
  | cons e r ih =>
    simp only [List.map_cons, dlook, K.e, List.find?_cons]
    by_cases c : kf e = a
    · simp [c]
    · simp [c, ih]
theorem KeyEnc.some_ {D : List β} {a : α} [Decidable (a ∈ D.map kf)] : (dlook (D.map fun e => (f (kf e), g e)) (f a)).isSome = decide (a ∈ D.map kf) := by
  rw [KeyEnc.look K]
  rw [Option.isSome_map, Bool.eq_iff_iff, List.find?_isSome, decide_eq_true_iff]
  simp
theorem KeyEnc.put {D : List β} {a : α} {v : U} (h : a ∉ D.map kf) : dput (D.map fun e => (f (kf e), g e)) (f a) v = (D.map fun e => (f (kf e), g e)) ++ [(f a, v)] := by
  induction D with
  | nil => rfl
  | cons e r ih =>
    simp only [List.map_cons, List.mem_cons, not_or] at h
    have c : ¬ kf e = a := fun z => h.1 z.symm
    simp only [List.map_cons, dput, K.e, c, decide_false, Bool.false_eq_true, if_false, List.cons_append]
    rw [ih h.2]
end
def prU (p : Nat × Nat) : U := .tup [.int p.1, .int p.2]
theorem kOf_pr (p : Nat × Nat) : kOf (prU p) = some (.tup [.num p.1, .num p.2]) := rfl
theorem pr_enc : KeyEnc prU := ⟨fun a => rfl, fun a b => by
  unfold keq
  rw [kOf_pr, kOf_pr]
  simp only [decide_eq_decide]
  constructor
  · intro h
    injection h with h
    injection h with h1 h2
    injection h2 with h2 _
    injection h1 with h1
    injection h2 with h2
    exact Prod.ext (by omega) (by omega)
  · rintro rfl; rfl⟩
theorem nat_enc : KeyEnc fun (k : Nat) => U.int k := ⟨fun a => rfl, fun a b => by
  show decide (NestedKey.num a = NestedKey.num b) = _
  simp only [decide_eq_decide]
  constructor
  · intro h
    injection h with h
    omega
  · rintro rfl; rfl⟩
/-! sorted rows of pairs -/
def prLt (a b : Nat × Nat) : Prop := a.1 < b.1 ∨ (a.1 = b.1 ∧ a.2 < b.2)
instance (a b : Nat × Nat) : Decidable (prLt a b) := by unfold prLt; infer_instance
theorem ltU_pr (a b : Nat × Nat) : ltU (prU a) (prU b) = decide (prLt a b) := by
  show (decide ((a.1 : Int) < b.1) || (decide ((a.1 : Int) = b.1) && decide ((a.2 : Int) < b.2))) = _
  rw [Bool.eq_iff_iff, decide_eq_true_iff]
  simp only [Bool.or_eq_true, Bool.and_eq_true, decide_eq_true_iff]
  unfold prLt
  omega
theorem prLt_tri (a b : Nat × Nat) (h : ¬ prLt a b) (g : ¬ prLt b a) : a = b := by
  unfold prLt at h g
  exact Prod.ext (by omega) (by omega)
theorem prLt_tr {a b c : Nat × Nat} (h : prLt a b) (g : prLt b c) : prLt a c := by
  unfold prLt at *
  omega
def insP (u : Nat × Nat) : List (Nat × Nat) → List (Nat × Nat)
  | [] => [u]
  | v :: r => if prLt v u then v :: insP u r else u :: v :: r
def srtP : List (Nat × Nat) → List (Nat × Nat)
  | [] => []
  | u :: r => insP u (srtP r)
theorem ins_pr (u : Nat × Nat) : ∀ l, insU (prU u) (l.map prU) = (insP u l).map prU
  | [] => rfl
  | v :: r => by
    simp only [List.map_cons, insU, insP, ltU_pr, decide_eq_true_eq]
    split
    · rw [List.map_cons, ins_pr u r]
    · rfl
theorem srt_pr : ∀ l, srtU (l.map prU) = (srtP l).map prU
  | [] => rfl
  | u :: r => by
    simp only [List.map_cons, srtU, srtP]
    rw [srt_pr r, ins_pr]
theorem insP_perm (u : Nat × Nat) : ∀ l, (insP u l).Perm (u :: l)
  | [] => .refl _
  | v :: r => by
    unfold insP
    split
    · exact ((insP_perm u r).cons v).trans (.swap u v r)
    · exact .refl _
theorem srtP_perm : ∀ l, (srtP l).Perm l
  | [] => .refl _
  | u :: r => (insP_perm u _).trans ((srtP_perm r).cons u)
/-- no later one comes ahead -/
abbrev Srt (l : List (Nat × Nat)) : Prop := l.Pairwise fun a b => ¬ prLt b a
theorem insP_srt (u : Nat × Nat) : ∀ {l}, Srt l → Srt (insP u l)
  | [], _ => by simp [insP, Srt]
  | v :: r, h => by
    have h1 := List.pairwise_cons.mp h
    unfold insP
    split
    · rename_i c
      refine List.pairwise_cons.mpr ⟨fun x m => ?_, insP_srt u h1.2⟩
      rcases List.mem_cons.mp ((insP_perm u r).subset m) with rfl | m
      · intro z; unfold prLt at *; omega
      · exact h1.1 x m
    · rename_i c
      refine List.pairwise_cons.mpr ⟨fun x m => ?_, h⟩
      rcases List.mem_cons.mp m with rfl | m
      · exact c
      · intro z
        have := h1.1 x m
        unfold prLt at *
        omega
theorem srtP_srt : ∀ l, Srt (srtP l)
  | [] => List.Pairwise.nil
  | u :: r => insP_srt u (srtP_srt r)
theorem srt_unique : ∀ {l l' : List (Nat × Nat)}, l.Perm l' → Srt l → Srt l' → l = l'
  | [], l', p, _, _ => by rw [p.nil_eq]
  | a :: r, [], p, _, _ => absurd p.symm (by simp)
  | a :: r, b :: r', p, h, h' => by
    have h1 := List.pairwise_cons.mp h
    have h2 := List.pairwise_cons.mp h'
    have e : a = b := by
      have ma : a ∈ b :: r' := p.subset List.mem_cons_self
      have mb : b ∈ a :: r := p.symm.subset List.mem_cons_self
      rcases List.mem_cons.mp ma with e | ma
      · exact e
      · rcases List.mem_cons.mp mb with e | mb
        · exact e.symm
        · exact prLt_tri a b (h2.1 a ma) (h1.1 b mb)
    subst e
    rw [srt_unique p.cons_inv h1.2 h2.2]
theorem srtP_perm_eq {l l' : List (Nat × Nat)} (p : l.Perm l') : srtP l = srtP l' :=
  srt_unique ((srtP_perm l).trans (p.trans (srtP_perm l').symm)) (srtP_srt l) (srtP_srt l')
theorem srtP_id {l : List (Nat × Nat)} (h : Srt l) : srtP l = l := srt_unique (srtP_perm l) (srtP_srt l) h
theorem sk_pr : ∀ l : List (Nat × Nat), skAll .pair (l.map prU) = true
  | [] => rfl
  | u :: r => by
    rw [List.map_cons, skAll, sk_pr r]
    rfl
theorem sort_pr (l : List (Nat × Nat)) : sortOk (l.map prU) = true := by
  cases l with
  | nil => rfl
  | cons u r =>
    show skAll _ _ = true
    exact sk_pr r
end Pl.Tp
set_option Elab.async false
set_option linter.all false
set_option maxRecDepth 100000
set_option autoImplicit false
/-! numbers in the order first met. -/
namespace Pl.Tp
open PySem Pl L2 Pl.Eq
local macro_rules | `(tactic| simp_all! [$as,*]) => `(tactic| ((try dsimp only); rw [Pl.Eq.ss_cons]; simp only [Pl.Eq.e_cst, Pl.Eq.b_cst, Pl.Eq.e_var, Pl.Eq.b_var, Pl.Eq.e_bin, Pl.Eq.b_bin, Pl.Eq.e_neg, Pl.Eq.e_not, Pl.Eq.b_not, Pl.Eq.e_bop, Pl.Eq.b_bop, Pl.Eq.e_cmp, Pl.Eq.b_cmp, Pl.Eq.e_cmp2, Pl.Eq.b_cmp2, Pl.Eq.e_ife, Pl.Eq.b_ife, Pl.Eq.e_call, Pl.Eq.b_call, Pl.Eq.e_bi, Pl.Eq.b_bi, Pl.Eq.e_isi, Pl.Eq.b_isi, Pl.Eq.e_mth, Pl.Eq.e_ix, Pl.Eq.b_ix, Pl.Eq.e_sl, Pl.Eq.e_tup, Pl.Eq.e_lst, Pl.Eq.e_lc, Pl.Eq.e_lc2, Pl.Eq.e_lrg, Pl.Eq.e_dic, Pl.Eq.es_nil, Pl.Eq.es_cons, Pl.Eq.o_none, Pl.Eq.o_some, Pl.Eq.bb_nil, Pl.Eq.bb_cons, Pl.Eq.bo_one, Pl.Eq.bo_cons, Pl.Eq.f_nil, Pl.Eq.f_cons, Pl.Eq.i_val, Pl.Eq.i_rng1, Pl.Eq.i_rng2, Pl.Eq.i_rng3, Pl.Eq.i_enum, Pl.Eq.t_nm, Pl.Eq.t_tp, Pl.Eq.ts_nil, Pl.Eq.ts_cons, Pl.Eq.t_sub, Pl.Eq.s_expr, Pl.Eq.s_asg, Pl.Eq.s_par, Pl.Eq.s_aug, Pl.Eq.s_ret, Pl.Eq.s_retN, Pl.Eq.s_ifs, Pl.Eq.s_fr, Pl.Eq.s_brk, Pl.Eq.s_cnt, Pl.Eq.s_pass, Pl.Eq.ss_nil, Pl.Eq.p_addI, Pl.Eq.p_addT, Pl.Eq.p_subI, Pl.Eq.p_mulI, Pl.Eq.p_fdivI, Pl.Eq.p_modI, Pl.Eq.p_powI, Pl.Eq.p_lt, Pl.Eq.p_le, Pl.Eq.p_gt, Pl.Eq.p_ge, Pl.Eq.p_eq, Pl.Eq.p_ne, Pl.Eq.p_isN, Pl.Eq.p_notN, Pl.Eq.p_isB, Pl.Eq.p_notB, Pl.Eq.t_bl, Pl.Eq.t_int, Pl.Eq.t_tup, Pl.Eq.t_lst, Pl.Eq.mk_t, Pl.Eq.mk_f, Pl.Eq.i_non_tup, Pl.Eq.i_non_lst, Pl.Eq.i_non_int, Pl.Eq.i_non_bl, Pl.Eq.i_non_str, Pl.Eq.i_non_dic, Pl.Eq.i_bl_tup, Pl.Eq.i_bl_lst, Pl.Eq.i_bl_int, Pl.Eq.i_bl_bl, Pl.Eq.i_bl_str, Pl.Eq.i_bl_dic, Pl.Eq.i_int_tup, Pl.Eq.i_int_lst, Pl.Eq.i_int_int, Pl.Eq.i_int_bl, Pl.Eq.i_int_str, Pl.Eq.i_int_dic, Pl.Eq.i_str_tup, Pl.Eq.i_str_lst, Pl.Eq.i_str_int, Pl.Eq.i_str_bl, Pl.Eq.i_str_str, Pl.Eq.i_str_dic, Pl.Eq.i_tup_tup, Pl.Eq.i_tup_lst, Pl.Eq.i_tup_int, Pl.Eq.i_tup_bl, Pl.Eq.i_tup_str, Pl.Eq.i_tup_dic, Pl.Eq.i_lst_tup, Pl.Eq.i_lst_lst, Pl.Eq.i_lst_int, Pl.Eq.i_lst_bl, Pl.Eq.i_lst_str, Pl.Eq.i_lst_dic, Pl.Eq.n_non, Pl.Eq.n_bl, Pl.Eq.n_int, Pl.Eq.n_str, Pl.Eq.n_tup, Pl.Eq.n_lst, Pl.Eq.p_slT, Pl.Eq.p_lenT, Pl.Eq.p_lenL, Pl.Eq.p_lenR, Pl.Eq.p_intI, Pl.Eq.p_tuple, Pl.Eq.p_list, Pl.Eq.p_sorted, Pl.Eq.p_max1, Pl.Eq.p_min1, Pl.Eq.p_min, Pl.Eq.p_intB, Pl.Eq.p_mulT, Pl.Eq.p_addLL, Pl.Eq.p_slL, Pl.Eq.it_tup, Pl.Eq.it_lst, Pl.Eq.it_ro, Pl.Eq.si_lst, Pl.Eq.p_all, Pl.Eq.p_any, Pl.Eq.p_max, Pl.Eq.q_tup, Pl.Eq.q_lst, Pl.Eq.q_ro, Pl.Eq.l_lst, Pl.Eq.src_tup, Pl.Eq.src_lst, Pl.Eq.src_ro, Pl.Eq.src_mr, Pl.Eq.atP_some, Pl.Eq.x_tup_, Pl.Eq.x_lst_, Pl.Eq.x_ro_, Pl.Eq.seq_mr, Pl.Eq.lst_mr, Pl.Eq.dic_mr, Pl.Eq.tru_mr, Pl.Eq.it_mr, Pl.Eq.si_mr, Pl.Eq.x_mr, Pl.Eq.set_mr, Pl.Eq.len_mr, Pl.Eq.in_mr, Pl.Eq.nin_mr, Pl.Eq.ty_mr, Pl.Eq.mt_app, Pl.Eq.mt_p0, Pl.Eq.mt_p1, Pl.Eq.mt_ex, Pl.Eq.mt_in, Pl.Eq.mt_g1, Pl.Eq.mt_g2, Pl.Eq.oL_seq, Pl.Eq.oL_tru, Pl.Eq.oL_it, Pl.Eq.oL_ix, Pl.Eq.oL_set, Pl.Eq.oL_len, Pl.Eq.oL_in, Pl.Eq.oL_tyA, Pl.Eq.oL_tyI, Pl.Eq.oL_tyP, Pl.Eq.oL_tyQ, Pl.Eq.oL_tyE, Pl.Eq.oL_tyN, Pl.Eq.oL_app, Pl.Eq.oL_p0, Pl.Eq.oL_p1, Pl.Eq.oL_ex, Pl.Eq.oL_ins, Pl.Eq.oD_dic, Pl.Eq.oL_dic, Pl.Eq.oD_it, Pl.Eq.oD_ix, Pl.Eq.oD_set, Pl.Eq.oD_len, Pl.Eq.oD_in, Pl.Eq.oD_tyG, Pl.Eq.oD_tyH, Pl.Eq.oD_g1, Pl.Eq.oD_g2, Pl.Eq.fx_get, Pl.Eq.fx_get0, Pl.Eq.fx_set, Pl.Eq.fx_set0, Pl.Eq.fx_getS, Pl.Eq.fx_getS0, Pl.Eq.fx_setS, Pl.Eq.fx_setS0, Pl.Eq.at_nat, Pl.Eq.at_0, Pl.Eq.at_1, Pl.Eq.at_2, Pl.Eq.at_3, Pl.Eq.at_4, Pl.Eq.at_last, Pl.Eq.sz, Pl.Eq.ixN_0, Pl.Eq.ixN_1, Pl.Eq.ixN_2, Pl.Eq.ixN_3, Pl.Eq.ixN_4, List.getElem?_cons_zero, List.getElem?_cons_succ, List.set_cons_zero, List.set_cons_succ, Option.some.injEq, exists_eq_left, exists_eq_left', U.int.injEq, U.bl.injEq, U.tup.injEq, U.lst.injEq, Int.zero_add, Nat.reduceLeDiff, List.cons_append, List.nil_append, false_and, exists_false, exists_const, false_or, or_false, Pl.T.own, Pl.Ts.own, Pl.Ts.len, wipeU, Pl.Eq.eqI, Pl.Eq.eqB, beq_self_eq_true, Bool.not_true, Bool.not_false, Bool.false_eq_true, Bool.true_eq_false, reduceCtorEq, decide_true, decide_false, List.length_cons, List.length_nil, Nat.zero_add, Nat.reduceAdd, Nat.reduceLT, if_true, if_false, reduceIte, true_and, and_true, List.set_set, List.append_assoc, List.length_append, List.length_set, Nat.add_zero, List.append_nil, $as,*]))
local macro_rules | `(tactic| dsimp! [$as,*]) => `(tactic| (try simp only [Pl.Eq.e_cst, Pl.Eq.b_cst, Pl.Eq.e_var, Pl.Eq.b_var, Pl.Eq.e_bin, Pl.Eq.b_bin, Pl.Eq.e_neg, Pl.Eq.e_not, Pl.Eq.b_not, Pl.Eq.e_bop, Pl.Eq.b_bop, Pl.Eq.e_cmp, Pl.Eq.b_cmp, Pl.Eq.e_cmp2, Pl.Eq.b_cmp2, Pl.Eq.e_ife, Pl.Eq.b_ife, Pl.Eq.e_call, Pl.Eq.b_call, Pl.Eq.e_bi, Pl.Eq.b_bi, Pl.Eq.e_isi, Pl.Eq.b_isi, Pl.Eq.e_mth, Pl.Eq.e_ix, Pl.Eq.b_ix, Pl.Eq.e_sl, Pl.Eq.e_tup, Pl.Eq.e_lst, Pl.Eq.e_lc, Pl.Eq.e_lc2, Pl.Eq.e_lrg, Pl.Eq.e_dic, Pl.Eq.es_nil, Pl.Eq.es_cons, Pl.Eq.o_none, Pl.Eq.o_some, Pl.Eq.bb_nil, Pl.Eq.bb_cons, Pl.Eq.bo_one, Pl.Eq.bo_cons, Pl.Eq.f_nil, Pl.Eq.f_cons, Pl.Eq.i_val, Pl.Eq.i_rng1, Pl.Eq.i_rng2, Pl.Eq.i_rng3, Pl.Eq.i_enum, Pl.Eq.t_nm, Pl.Eq.t_tp, Pl.Eq.ts_nil, Pl.Eq.ts_cons, Pl.Eq.t_sub, Pl.Eq.s_expr, Pl.Eq.s_asg, Pl.Eq.s_par, Pl.Eq.s_aug, Pl.Eq.s_ret, Pl.Eq.s_retN, Pl.Eq.s_ifs, Pl.Eq.s_fr, Pl.Eq.s_brk, Pl.Eq.s_cnt, Pl.Eq.s_pass, Pl.Eq.ss_nil, Pl.Eq.p_addI, Pl.Eq.p_addT, Pl.Eq.p_subI, Pl.Eq.p_mulI, Pl.Eq.p_fdivI, Pl.Eq.p_modI, Pl.Eq.p_powI, Pl.Eq.p_lt, Pl.Eq.p_le, Pl.Eq.p_gt, Pl.Eq.p_ge, Pl.Eq.p_eq, Pl.Eq.p_ne, Pl.Eq.p_isN, Pl.Eq.p_notN, Pl.Eq.p_isB, Pl.Eq.p_notB, Pl.Eq.t_bl, Pl.Eq.t_int, Pl.Eq.t_tup, Pl.Eq.t_lst, Pl.Eq.mk_t, Pl.Eq.mk_f, Pl.Eq.i_non_tup, Pl.Eq.i_non_lst, Pl.Eq.i_non_int, Pl.Eq.i_non_bl, Pl.Eq.i_non_str, Pl.Eq.i_non_dic, Pl.Eq.i_bl_tup, Pl.Eq.i_bl_lst, Pl.Eq.i_bl_int, Pl.Eq.i_bl_bl, Pl.Eq.i_bl_str, Pl.Eq.i_bl_dic, Pl.Eq.i_int_tup, Pl.Eq.i_int_lst, Pl.Eq.i_int_int, Pl.Eq.i_int_bl, Pl.Eq.i_int_str, Pl.Eq.i_int_dic, Pl.Eq.i_str_tup, Pl.Eq.i_str_lst, Pl.Eq.i_str_int, Pl.Eq.i_str_bl, Pl.Eq.i_str_str, Pl.Eq.i_str_dic, Pl.Eq.i_tup_tup, Pl.Eq.i_tup_lst, Pl.Eq.i_tup_int, Pl.Eq.i_tup_bl, Pl.Eq.i_tup_str, Pl.Eq.i_tup_dic, Pl.Eq.i_lst_tup, Pl.Eq.i_lst_lst, Pl.Eq.i_lst_int, Pl.Eq.i_lst_bl, Pl.Eq.i_lst_str, Pl.Eq.i_lst_dic, Pl.Eq.n_non, Pl.Eq.n_bl, Pl.Eq.n_int, Pl.Eq.n_str, Pl.Eq.n_tup, Pl.Eq.n_lst, Pl.Eq.p_slT, Pl.Eq.p_lenT, Pl.Eq.p_lenL, Pl.Eq.p_lenR, Pl.Eq.p_intI, Pl.Eq.p_tuple, Pl.Eq.p_list, Pl.Eq.p_sorted, Pl.Eq.p_max1, Pl.Eq.p_min1, Pl.Eq.p_min, Pl.Eq.p_intB, Pl.Eq.p_mulT, Pl.Eq.p_addLL, Pl.Eq.p_slL, Pl.Eq.it_tup, Pl.Eq.it_lst, Pl.Eq.it_ro, Pl.Eq.si_lst, Pl.Eq.p_all, Pl.Eq.p_any, Pl.Eq.p_max, Pl.Eq.q_tup, Pl.Eq.q_lst, Pl.Eq.q_ro, Pl.Eq.l_lst, Pl.Eq.src_tup, Pl.Eq.src_lst, Pl.Eq.src_ro, Pl.Eq.src_mr, Pl.Eq.atP_some, Pl.Eq.x_tup_, Pl.Eq.x_lst_, Pl.Eq.x_ro_, Pl.Eq.seq_mr, Pl.Eq.lst_mr, Pl.Eq.dic_mr, Pl.Eq.tru_mr, Pl.Eq.it_mr, Pl.Eq.si_mr, Pl.Eq.x_mr, Pl.Eq.set_mr, Pl.Eq.len_mr, Pl.Eq.in_mr, Pl.Eq.nin_mr, Pl.Eq.ty_mr, Pl.Eq.mt_app, Pl.Eq.mt_p0, Pl.Eq.mt_p1, Pl.Eq.mt_ex, Pl.Eq.mt_in, Pl.Eq.mt_g1, Pl.Eq.mt_g2, Pl.Eq.oL_seq, Pl.Eq.oL_tru, Pl.Eq.oL_it, Pl.Eq.oL_ix, Pl.Eq.oL_set, Pl.Eq.oL_len, Pl.Eq.oL_in, Pl.Eq.oL_tyA, Pl.Eq.oL_tyI, Pl.Eq.oL_tyP, Pl.Eq.oL_tyQ, Pl.Eq.oL_tyE, Pl.Eq.oL_tyN, Pl.Eq.oL_app, Pl.Eq.oL_p0, Pl.Eq.oL_p1, Pl.Eq.oL_ex, Pl.Eq.oL_ins, Pl.Eq.oD_dic, Pl.Eq.oL_dic, Pl.Eq.oD_it, Pl.Eq.oD_ix, Pl.Eq.oD_set, Pl.Eq.oD_len, Pl.Eq.oD_in, Pl.Eq.oD_tyG, Pl.Eq.oD_tyH, Pl.Eq.oD_g1, Pl.Eq.oD_g2, Pl.Eq.fx_get, Pl.Eq.fx_get0, Pl.Eq.fx_set, Pl.Eq.fx_set0, Pl.Eq.fx_getS, Pl.Eq.fx_getS0, Pl.Eq.fx_setS, Pl.Eq.fx_setS0, Pl.Eq.at_nat, Pl.Eq.at_0, Pl.Eq.at_1, Pl.Eq.at_2, Pl.Eq.at_3, Pl.Eq.at_4, Pl.Eq.at_last, Pl.Eq.sz, Pl.Eq.ixN_0, Pl.Eq.ixN_1, Pl.Eq.ixN_2, Pl.Eq.ixN_3, Pl.Eq.ixN_4, List.getElem?_cons_zero, List.getElem?_cons_succ, List.set_cons_zero, List.set_cons_succ, Option.some.injEq, exists_eq_left, exists_eq_left', U.int.injEq, U.bl.injEq, U.tup.injEq, U.lst.injEq, Int.zero_add, Nat.reduceLeDiff, List.cons_append, List.nil_append, false_and, exists_false, exists_const, false_or, or_false, Pl.T.own, Pl.Ts.own, Pl.Ts.len, wipeU, Pl.Eq.eqI, Pl.Eq.eqB, beq_self_eq_true, Bool.not_true, Bool.not_false, Bool.false_eq_true, Bool.true_eq_false, reduceCtorEq, decide_true, decide_false, List.length_cons, List.length_nil, Nat.zero_add, Nat.reduceAdd, Nat.reduceLT, if_true, if_false, reduceIte, true_and, and_true, List.set_set, List.append_assoc, List.length_append, List.length_set, Nat.add_zero, List.append_nil, $as,*]))
section
variable {κ : Type} [DecidableEq κ]
def met (S : List κ) (k : κ) : List κ := if k ∈ S then S else S ++ [k]
def seen : List κ → List κ → List κ
  | S, [] => S
  | S, k :: ks => seen (met S k) ks
def ordN (ks : List κ) : List Nat := ks.map fun k => (seen [] ks).idxOf k
theorem nd_len : ∀ {l m : List κ}, l.Nodup → (∀ x ∈ l, x ∈ m) → l.length ≤ m.length
  | [], m, _, _ => Nat.zero_le _
  | a :: r, m, nd, h => by
    have h1 := List.nodup_cons.mp nd
    have am := h a List.mem_cons_self
    have ih := nd_len (l := r) (m := m.erase a) h1.2 fun x xm => by
      have hx : x ≠ a := fun z => h1.1 (z ▸ xm)
      exact (List.mem_erase_of_ne hx).mpr (h x (List.mem_cons_of_mem _ xm))
    rw [List.length_erase_of_mem am] at ih
    have : 0 < m.length := List.length_pos_of_mem am
    rw [List.length_cons]; omega
theorem met_nd {S : List κ} {k : κ} (h : S.Nodup) : (met S k).Nodup := by
  unfold met
  split
  · exact h
  · rename_i c
    exact List.nodup_append.mpr ⟨h, by simp, fun a ha b hb => by rw [List.mem_singleton.mp hb]; exact fun z => c (z ▸ ha)⟩
theorem met_mem {S : List κ} {k x : κ} : x ∈ met S k ↔ x ∈ S ∨ x = k := by
  unfold met
  split
  · rename_i c
    exact ⟨.inl, fun h => h.elim id fun z => z ▸ c⟩
  · simp
theorem seen_nd : ∀ {ks S : List κ}, S.Nodup → (seen S ks).Nodup
  | [], _, h => h
  | _ :: ks, _, h => seen_nd (ks := ks) (met_nd h)
theorem seen_mem : ∀ {ks S : List κ} {x : κ}, x ∈ seen S ks ↔ x ∈ S ∨ x ∈ ks
  | [], S, x => by simp [seen]
  | k :: ks, S, x => by
    rw [seen, seen_mem, met_mem, List.mem_cons, or_assoc]
theorem seen_pre : ∀ {ks S : List κ}, ∃ T, seen S ks = S ++ T
  | [], S => ⟨[], by simp [seen]⟩
  | k :: ks, S => by
    obtain ⟨T, e⟩ := seen_pre (ks := ks) (S := met S k)
    rw [seen, e]
    unfold met
    split
    · exact ⟨T, rfl⟩
    · exact ⟨k :: T, by simp⟩
theorem seen_app : ∀ {a b S : List κ}, seen S (a ++ b) = seen (seen S a) b
  | [], _, _ => rfl
  | k :: a, b, S => by rw [List.cons_append, seen, seen, seen_app]
theorem idx_pre {S T : List κ} {k : κ} (h : k ∈ S) : (S ++ T).idxOf k = S.idxOf k := by
  rw [List.idxOf_append, if_pos h]
theorem idx_seen {ks S : List κ} {k : κ} (h : k ∈ S) : (seen S ks).idxOf k = S.idxOf k := by
  obtain ⟨T, e⟩ := seen_pre (ks := ks) (S := S)
  rw [e, idx_pre h]
theorem idx_inj {S : List κ} {a b : κ} (ha : a ∈ S) (hb : b ∈ S) (h : S.idxOf a = S.idxOf b) : a = b := by
  have l1 := List.idxOf_lt_length_of_mem ha
  have l2 := List.idxOf_lt_length_of_mem hb
  have e1 : S[S.idxOf a] = a := List.getElem_idxOf l1
  have e2 : S[S.idxOf b] = b := List.getElem_idxOf l2
  rw [← e1, ← e2]
  simp [h]
theorem ordN_len {ks : List κ} : (ordN ks).length = ks.length := by simp [ordN]
theorem ordN_at {ks : List κ} {i : Nat} (h : i < ks.length) : (ordN ks)[i]? = some ((seen [] ks).idxOf ks[i]) := by
  unfold ordN
  rw [List.getElem?_map, List.getElem?_eq_getElem h]; rfl
theorem ordN_eq {ks : List κ} {i j : Nat} (hi : i < ks.length) (hj : j < ks.length) : ((ordN ks).getD i 0 = (ordN ks).getD j 0) ↔ ks[i] = ks[j] := by
  simp only [List.getD, ordN_at hi, ordN_at hj, Option.getD_some]
  constructor
  · exact idx_inj (seen_mem.mpr (.inr (List.getElem_mem hi))) (seen_mem.mpr (.inr (List.getElem_mem hj)))
  · intro e; rw [e]
theorem ordN_lt {ks : List κ} : ∀ x ∈ ordN ks, x < (seen [] ks).length := fun x m => by
  obtain ⟨k, km, rfl⟩ := List.mem_map.mp m
  exact List.idxOf_lt_length_of_mem (seen_mem.mpr (.inr km))
theorem ordN_hit {ks : List κ} {c : Nat} (h : c < (seen [] ks).length) : ∃ i, i < ks.length ∧ (ordN ks).getD i 0 = c := by
  have m : (seen [] ks)[c] ∈ ks := (seen_mem.mp (List.getElem_mem h)).resolve_left (by simp)
  obtain ⟨i, hi, e⟩ := List.mem_iff_getElem.mp m
  refine ⟨i, hi, ?_⟩
  simp only [List.getD, ordN_at hi, Option.getD_some]
  rw [e]
  exact (seen_nd (ks := ks) List.nodup_nil).idxOf_getElem c h
theorem seen_le : ∀ {ks S : List κ}, (seen S ks).length ≤ S.length + ks.length
  | [], S => by simp [seen]
  | k :: ks, S => by
    have := seen_le (ks := ks) (S := met S k)
    have : (met S k).length ≤ S.length + 1 := by unfold met; split <;> simp
    rw [seen, List.length_cons]; omega
theorem seen_pos {ks : List κ} (h : ks ≠ []) : 0 < (seen [] ks).length := by
  cases ks with
  | nil => exact absurd rfl h
  | cons k r => exact List.length_pos_of_mem (a := k) (seen_mem.mpr (.inr List.mem_cons_self))
theorem seen0 {k : κ} {ks : List κ} : (seen [] (k :: ks))[0]? = some k := by
  obtain ⟨T, e⟩ := seen_pre (ks := ks) (S := [k])
  have : met ([] : List κ) k = [k] := by simp [met]
  rw [seen, this, e]; rfl
theorem ordN_0 {ks : List κ} : (ordN ks).getD 0 0 = 0 := by
  cases ks with
  | nil => rfl
  | cons k r =>
    have e := seen0 (k := k) (ks := r)
    have l : 0 < (seen [] (k :: r)).length := seen_pos (by simp)
    have h : (seen [] (k :: r))[0] = k := by rw [List.getElem?_eq_getElem l] at e; exact Option.some.inj e
    have := (seen_nd (ks := k :: r) List.nodup_nil).idxOf_getElem 0 l
    rw [h] at this
    simp only [List.getD, ordN_at (ks := k :: r) (i := 0) (by simp), Option.getD_some]
    exact this
/-- another naming -/
theorem seen_ge {μ : Type} [DecidableEq μ] {φ : κ → μ} : ∀ {ks S : List κ} {S' : List μ}, (∀ x ∈ S, φ x ∈ S') → (seen S' (ks.map φ)).length + S.length ≤ (seen S ks).length + S'.length
  | [], S, S', _ => by simp [seen]; omega
  | k :: ks, S, S', h => by
    rw [List.map_cons, seen, seen]
    have ih := seen_ge (φ := φ) (ks := ks) (S := met S k) (S' := met S' (φ k)) fun x m => by
      rcases met_mem.mp m with m | rfl
      · exact met_mem.mpr (.inl (h x m))
      · exact met_mem.mpr (.inr rfl)
    have : (met S' (φ k)).length + S.length ≤ (met S k).length + S'.length := by
      unfold met
      by_cases c : k ∈ S
      · rw [if_pos c, if_pos (h k c)]; omega
      · rw [if_neg c]
        split <;> simp <;> omega
    omega
theorem idx_map {μ : Type} [DecidableEq μ] {φ : κ → μ} : ∀ {S : List κ} {k : κ}, (S.map φ).Nodup → k ∈ S → (S.map φ).idxOf (φ k) = S.idxOf k
  | [], k, _, m => by cases m
  | a :: r, k, nd, m => by
    rw [List.map_cons, List.nodup_cons] at nd
    rw [List.map_cons, List.idxOf_cons, List.idxOf_cons]
    by_cases c : a = k
    · subst c; simp
    · have m' : k ∈ r := (List.mem_cons.mp m).resolve_left fun z => c z.symm
      have c' : ¬ φ a = φ k := fun z => nd.1 (z ▸ List.mem_map.mpr ⟨k, m', rfl⟩)
      have e1 : (φ a == φ k) = false := by simpa using c'
      have e2 : (a == k) = false := by simpa using c
      rw [e1, e2, idx_map nd.2 m']
theorem seen_map {μ : Type} [DecidableEq μ] {φ : κ → μ} : ∀ {ks S : List κ}, (seen (S.map φ) (ks.map φ)).length = (seen S ks).length → (S.map φ).Nodup → seen (S.map φ) (ks.map φ) = (seen S ks).map φ
  | [], S, _, _ => rfl
  | k :: ks, S, e, nd => by
    rw [List.map_cons, seen, seen] at e ⊢
    by_cases c : k ∈ S
    · have c' : φ k ∈ S.map φ := List.mem_map.mpr ⟨k, c, rfl⟩
      have e1 : met S k = S := by simp [met, c]
      have e2 : met (S.map φ) (φ k) = S.map φ := if_pos c'
      rw [e1, e2] at e ⊢
      exact seen_map e nd
    · have e1 : met S k = S ++ [k] := by simp [met, c]
      by_cases c' : φ k ∈ S.map φ
      · have e2 : met (S.map φ) (φ k) = S.map φ := if_pos c'
        have g := seen_ge (φ := φ) (ks := ks) (S := S ++ [k]) (S' := S.map φ) fun x m => by
          rcases List.mem_append.mp m with m | m
          · exact List.mem_map.mpr ⟨x, m, rfl⟩
          · rw [List.mem_singleton.mp m]; exact c'
        rw [e1, e2] at e
        simp at g
        omega
      · have e2 : met (S.map φ) (φ k) = (S ++ [k]).map φ := by simp only [met, if_neg c']; simp
        rw [e1, e2] at e ⊢
        refine seen_map e ?_
        rw [← e2]
        exact met_nd nd
theorem ordN_map {μ : Type} [DecidableEq μ] {φ : κ → μ} {ks : List κ} (e : (seen [] (ks.map φ)).length = (seen [] ks).length) : ordN (ks.map φ) = ordN ks := by
  have h : seen [] (ks.map φ) = (seen [] ks).map φ := seen_map (φ := φ) (ks := ks) (S := []) e List.nodup_nil
  have nd := seen_nd (ks := ks.map φ) (S := []) List.nodup_nil
  unfold ordN
  rw [List.map_map]
  refine List.map_congr_left fun k m => ?_
  show (seen [] (ks.map φ)).idxOf (φ k) = _
  rw [h] at nd ⊢
  exact idx_map nd (seen_mem.mpr (.inr m))
theorem ordN_inj {μ : Type} [DecidableEq μ] {φ : κ → μ} {ks : List κ} (h : ∀ a ∈ ks, ∀ b ∈ ks, φ a = φ b → a = b) : ordN (ks.map φ) = ordN ks ∧ (seen [] (ks.map φ)).length = (seen [] ks).length := by
  have e : (seen [] (ks.map φ)).length = (seen [] ks).length := by
    have l1 := seen_ge (φ := φ) (ks := ks) (S := []) (S' := []) (by simp)
    have l2 : (seen [] ks).length ≤ (seen [] (ks.map φ)).length := by
      have nd : ((seen [] ks).map φ).Nodup := by
        refine List.pairwise_map.mpr (List.Pairwise.imp_of_mem (fun {a b} ma mb ne z => ne (h a ((seen_mem.mp ma).resolve_left (by simp)) b ((seen_mem.mp mb).resolve_left (by simp)) z)) (seen_nd (ks := ks) List.nodup_nil))
      have sub : ∀ x ∈ (seen [] ks).map φ, x ∈ seen [] (ks.map φ) := fun x m => by
        obtain ⟨k, km, rfl⟩ := List.mem_map.mp m
        exact seen_mem.mpr (.inr (List.mem_map.mpr ⟨k, (seen_mem.mp km).resolve_left (by simp), rfl⟩))
      have := nd_len nd sub
      simpa using this
    simp at l1
    omega
  exact ⟨ordN_map e, e⟩
end
/-! its greatest -/
theorem maxI_ge : ∀ {l : List Int} {x : Int}, x ∈ l → x ≤ maxI l
  | [], x, m => by cases m
  | [i], x, m => by rw [List.mem_singleton.mp m]; exact Int.le_refl _
  | i :: j :: r, x, m => by
    have ih := fun {x : Int} (m : x ∈ j :: r) => maxI_ge (l := j :: r) m
    have e : maxI (i :: j :: r) = if maxI (j :: r) > i then maxI (j :: r) else i := rfl
    rw [e]
    rcases List.mem_cons.mp m with rfl | m
    · split <;> omega
    · have := ih m
      split <;> omega
theorem maxI_mem : ∀ {l : List Int}, l ≠ [] → maxI l ∈ l
  | [], h => absurd rfl h
  | [i], _ => by simp [maxI]
  | i :: j :: r, _ => by
    have ih := maxI_mem (l := j :: r) (by simp)
    have e : maxI (i :: j :: r) = if maxI (j :: r) > i then maxI (j :: r) else i := rfl
    rw [e]
    split
    · exact List.mem_cons_of_mem _ ih
    · exact List.mem_cons_self
def natsI (l : List Nat) : List Int := l.map fun (k : Nat) => (k : Int)
theorem maxI_nats {l : List Nat} {n : Nat} (hb : ∀ x ∈ l, x < n) (hh : ∃ x ∈ l, x + 1 = n) : maxI (natsI l) = (n : Int) - 1 := by
  obtain ⟨x, xm, e⟩ := hh
  have ne : natsI l ≠ [] := by
    intro z
    unfold natsI at z
    rw [List.map_eq_nil_iff] at z
    rw [z] at xm; cases xm
  obtain ⟨y, ym, ey⟩ := List.mem_map.mp (maxI_mem ne)
  have h1 := maxI_ge (l := natsI l) (List.mem_map.mpr ⟨x, xm, rfl⟩)
  have := hb y ym
  have ey' : (y : Int) = maxI (natsI l) := ey
  omega
theorem ordN_max {κ : Type} [DecidableEq κ] {ks : List κ} (h : ks ≠ []) : maxI (natsI (ordN ks)) = ((seen [] ks).length : Int) - 1 := by
  have p := seen_pos h
  obtain ⟨i, hi, e⟩ := ordN_hit (ks := ks) (c := (seen [] ks).length - 1) (by omega)
  refine maxI_nats ordN_lt ⟨(seen [] ks).length - 1, ?_, by omega⟩
  rw [← e]
  simp only [List.getD, ordN_at hi, Option.getD_some]
  exact List.mem_map.mpr ⟨_, List.getElem_mem hi, rfl⟩
end Pl.Tp
set_option Elab.async false
set_option linter.all false
set_option maxRecDepth 100000
set_option autoImplicit false
/-! drawn machines: what the laws over them share. -/
namespace Pl.Ma
open PySem Pl L2 Pl.Eq Pl.Tp
local macro_rules | `(tactic| simp_all! [$as,*]) => `(tactic| ((try dsimp only); rw [Pl.Eq.ss_cons]; simp only [Pl.Eq.e_cst, Pl.Eq.b_cst, Pl.Eq.e_var, Pl.Eq.b_var, Pl.Eq.e_bin, Pl.Eq.b_bin, Pl.Eq.e_neg, Pl.Eq.e_not, Pl.Eq.b_not, Pl.Eq.e_bop, Pl.Eq.b_bop, Pl.Eq.e_cmp, Pl.Eq.b_cmp, Pl.Eq.e_cmp2, Pl.Eq.b_cmp2, Pl.Eq.e_ife, Pl.Eq.b_ife, Pl.Eq.e_call, Pl.Eq.b_call, Pl.Eq.e_bi, Pl.Eq.b_bi, Pl.Eq.e_isi, Pl.Eq.b_isi, Pl.Eq.e_mth, Pl.Eq.e_ix, Pl.Eq.b_ix, Pl.Eq.e_sl, Pl.Eq.e_tup, Pl.Eq.e_lst, Pl.Eq.e_lc, Pl.Eq.e_lc2, Pl.Eq.e_lrg, Pl.Eq.e_dic, Pl.Eq.es_nil, Pl.Eq.es_cons, Pl.Eq.o_none, Pl.Eq.o_some, Pl.Eq.bb_nil, Pl.Eq.bb_cons, Pl.Eq.bo_one, Pl.Eq.bo_cons, Pl.Eq.f_nil, Pl.Eq.f_cons, Pl.Eq.i_val, Pl.Eq.i_rng1, Pl.Eq.i_rng2, Pl.Eq.i_rng3, Pl.Eq.i_enum, Pl.Eq.t_nm, Pl.Eq.t_tp, Pl.Eq.ts_nil, Pl.Eq.ts_cons, Pl.Eq.t_sub, Pl.Eq.s_expr, Pl.Eq.s_asg, Pl.Eq.s_par, Pl.Eq.s_aug, Pl.Eq.s_ret, Pl.Eq.s_retN, Pl.Eq.s_ifs, Pl.Eq.s_fr, Pl.Eq.s_brk, Pl.Eq.s_cnt, Pl.Eq.s_pass, Pl.Eq.ss_nil, Pl.Eq.p_addI, Pl.Eq.p_addT, Pl.Eq.p_subI, Pl.Eq.p_mulI, Pl.Eq.p_fdivI, Pl.Eq.p_modI, Pl.Eq.p_powI, Pl.Eq.p_lt, Pl.Eq.p_le, Pl.Eq.p_gt, Pl.Eq.p_ge, Pl.Eq.p_eq, Pl.Eq.p_ne, Pl.Eq.p_isN, Pl.Eq.p_notN, Pl.Eq.p_isB, Pl.Eq.p_notB, Pl.Eq.t_bl, Pl.Eq.t_int, Pl.Eq.t_tup, Pl.Eq.t_lst, Pl.Eq.mk_t, Pl.Eq.mk_f, Pl.Eq.i_non_tup, Pl.Eq.i_non_lst, Pl.Eq.i_non_int, Pl.Eq.i_non_bl, Pl.Eq.i_non_str, Pl.Eq.i_non_dic, Pl.Eq.i_bl_tup, Pl.Eq.i_bl_lst, Pl.Eq.i_bl_int, Pl.Eq.i_bl_bl, Pl.Eq.i_bl_str, Pl.Eq.i_bl_dic, Pl.Eq.i_int_tup, Pl.Eq.i_int_lst, Pl.Eq.i_int_int, Pl.Eq.i_int_bl, Pl.Eq.i_int_str, Pl.Eq.i_int_dic, Pl.Eq.i_str_tup, Pl.Eq.i_str_lst, Pl.Eq.i_str_int, Pl.Eq.i_str_bl, Pl.Eq.i_str_str, Pl.Eq.i_str_dic, Pl.Eq.i_tup_tup, Pl.Eq.i_tup_lst, Pl.Eq.i_tup_int, Pl.Eq.i_tup_bl, Pl.Eq.i_tup_str, Pl.Eq.i_tup_dic, Pl.Eq.i_lst_tup, Pl.Eq.i_lst_lst, Pl.Eq.i_lst_int, Pl.Eq.i_lst_bl, Pl.Eq.i_lst_str, Pl.Eq.i_lst_dic, Pl.Eq.n_non, Pl.Eq.n_bl, Pl.Eq.n_int, Pl.Eq.n_str, Pl.Eq.n_tup, Pl.Eq.n_lst, Pl.Eq.p_slT, Pl.Eq.p_lenT, Pl.Eq.p_lenL, Pl.Eq.p_lenR, Pl.Eq.p_intI, Pl.Eq.p_tuple, Pl.Eq.p_list, Pl.Eq.p_sorted, Pl.Eq.p_max1, Pl.Eq.p_min1, Pl.Eq.p_min, Pl.Eq.p_intB, Pl.Eq.p_mulT, Pl.Eq.p_addLL, Pl.Eq.p_slL, Pl.Eq.it_tup, Pl.Eq.it_lst, Pl.Eq.it_ro, Pl.Eq.si_lst, Pl.Eq.p_all, Pl.Eq.p_any, Pl.Eq.p_max, Pl.Eq.q_tup, Pl.Eq.q_lst, Pl.Eq.q_ro, Pl.Eq.l_lst, Pl.Eq.src_tup, Pl.Eq.src_lst, Pl.Eq.src_ro, Pl.Eq.src_mr, Pl.Eq.atP_some, Pl.Eq.x_tup_, Pl.Eq.x_lst_, Pl.Eq.x_ro_, Pl.Eq.seq_mr, Pl.Eq.lst_mr, Pl.Eq.dic_mr, Pl.Eq.tru_mr, Pl.Eq.it_mr, Pl.Eq.si_mr, Pl.Eq.x_mr, Pl.Eq.set_mr, Pl.Eq.len_mr, Pl.Eq.in_mr, Pl.Eq.nin_mr, Pl.Eq.ty_mr, Pl.Eq.mt_app, Pl.Eq.mt_p0, Pl.Eq.mt_p1, Pl.Eq.mt_ex, Pl.Eq.mt_in, Pl.Eq.mt_g1, Pl.Eq.mt_g2, Pl.Eq.oL_seq, Pl.Eq.oL_tru, Pl.Eq.oL_it, Pl.Eq.oL_ix, Pl.Eq.oL_set, Pl.Eq.oL_len, Pl.Eq.oL_in, Pl.Eq.oL_tyA, Pl.Eq.oL_tyI, Pl.Eq.oL_tyP, Pl.Eq.oL_tyQ, Pl.Eq.oL_tyE, Pl.Eq.oL_tyN, Pl.Eq.oL_app, Pl.Eq.oL_p0, Pl.Eq.oL_p1, Pl.Eq.oL_ex, Pl.Eq.oL_ins, Pl.Eq.oD_dic, Pl.Eq.oL_dic, Pl.Eq.oD_it, Pl.Eq.oD_ix, Pl.Eq.oD_set, Pl.Eq.oD_len, Pl.Eq.oD_in, Pl.Eq.oD_tyG, Pl.Eq.oD_tyH, Pl.Eq.oD_g1, Pl.Eq.oD_g2, Pl.Eq.fx_get, Pl.Eq.fx_get0, Pl.Eq.fx_set, Pl.Eq.fx_set0, Pl.Eq.fx_getS, Pl.Eq.fx_getS0, Pl.Eq.fx_setS, Pl.Eq.fx_setS0, Pl.Eq.at_nat, Pl.Eq.at_0, Pl.Eq.at_1, Pl.Eq.at_2, Pl.Eq.at_3, Pl.Eq.at_4, Pl.Eq.at_last, Pl.Eq.sz, Pl.Eq.ixN_0, Pl.Eq.ixN_1, Pl.Eq.ixN_2, Pl.Eq.ixN_3, Pl.Eq.ixN_4, List.getElem?_cons_zero, List.getElem?_cons_succ, List.set_cons_zero, List.set_cons_succ, Option.some.injEq, exists_eq_left, exists_eq_left', U.int.injEq, U.bl.injEq, U.tup.injEq, U.lst.injEq, Int.zero_add, Nat.reduceLeDiff, List.cons_append, List.nil_append, false_and, exists_false, exists_const, false_or, or_false, Pl.T.own, Pl.Ts.own, Pl.Ts.len, wipeU, Pl.Eq.eqI, Pl.Eq.eqB, beq_self_eq_true, Bool.not_true, Bool.not_false, Bool.false_eq_true, Bool.true_eq_false, reduceCtorEq, decide_true, decide_false, List.length_cons, List.length_nil, Nat.zero_add, Nat.reduceAdd, Nat.reduceLT, if_true, if_false, reduceIte, true_and, and_true, List.set_set, List.append_assoc, List.length_append, List.length_set, Nat.add_zero, List.append_nil, $as,*]))
local macro_rules | `(tactic| dsimp! [$as,*]) => `(tactic| (try simp only [Pl.Eq.e_cst, Pl.Eq.b_cst, Pl.Eq.e_var, Pl.Eq.b_var, Pl.Eq.e_bin, Pl.Eq.b_bin, Pl.Eq.e_neg, Pl.Eq.e_not, Pl.Eq.b_not, Pl.Eq.e_bop, Pl.Eq.b_bop, Pl.Eq.e_cmp, Pl.Eq.b_cmp, Pl.Eq.e_cmp2, Pl.Eq.b_cmp2, Pl.Eq.e_ife, Pl.Eq.b_ife, Pl.Eq.e_call, Pl.Eq.b_call, Pl.Eq.e_bi, Pl.Eq.b_bi, Pl.Eq.e_isi, Pl.Eq.b_isi, Pl.Eq.e_mth, Pl.Eq.e_ix, Pl.Eq.b_ix, Pl.Eq.e_sl, Pl.Eq.e_tup, Pl.Eq.e_lst, Pl.Eq.e_lc, Pl.Eq.e_lc2, Pl.Eq.e_lrg, Pl.Eq.e_dic, Pl.Eq.es_nil, Pl.Eq.es_cons, Pl.Eq.o_none, Pl.Eq.o_some, Pl.Eq.bb_nil, Pl.Eq.bb_cons, Pl.Eq.bo_one, Pl.Eq.bo_cons, Pl.Eq.f_nil, Pl.Eq.f_cons, Pl.Eq.i_val, Pl.Eq.i_rng1, Pl.Eq.i_rng2, Pl.Eq.i_rng3, Pl.Eq.i_enum, Pl.Eq.t_nm, Pl.Eq.t_tp, Pl.Eq.ts_nil, Pl.Eq.ts_cons, Pl.Eq.t_sub, Pl.Eq.s_expr, Pl.Eq.s_asg, Pl.Eq.s_par, Pl.Eq.s_aug, Pl.Eq.s_ret, Pl.Eq.s_retN, Pl.Eq.s_ifs, Pl.Eq.s_fr, Pl.Eq.s_brk, Pl.Eq.s_cnt, Pl.Eq.s_pass, Pl.Eq.ss_nil, Pl.Eq.p_addI, Pl.Eq.p_addT, Pl.Eq.p_subI, Pl.Eq.p_mulI, Pl.Eq.p_fdivI, Pl.Eq.p_modI, Pl.Eq.p_powI, Pl.Eq.p_lt, Pl.Eq.p_le, Pl.Eq.p_gt, Pl.Eq.p_ge, Pl.Eq.p_eq, Pl.Eq.p_ne, Pl.Eq.p_isN, Pl.Eq.p_notN, Pl.Eq.p_isB, Pl.Eq.p_notB, Pl.Eq.t_bl, Pl.Eq.t_int, Pl.Eq.t_tup, Pl.Eq.t_lst, Pl.Eq.mk_t, Pl.Eq.mk_f, Pl.Eq.i_non_tup, Pl.Eq.i_non_lst, Pl.Eq.i_non_int, Pl.Eq.i_non_bl, Pl.Eq.i_non_str, Pl.Eq.i_non_dic, Pl.Eq.i_bl_tup, Pl.Eq.i_bl_lst, Pl.Eq.i_bl_int, Pl.Eq.i_bl_bl, Pl.Eq.i_bl_str, Pl.Eq.i_bl_dic, Pl.Eq.i_int_tup, Pl.Eq.i_int_lst, Pl.Eq.i_int_int, Pl.Eq.i_int_bl, Pl.Eq.i_int_str, Pl.Eq.i_int_dic, Pl.Eq.i_str_tup, Pl.Eq.i_str_lst, Pl.Eq.i_str_int, Pl.Eq.i_str_bl, Pl.Eq.i_str_str, Pl.Eq.i_str_dic, Pl.Eq.i_tup_tup, Pl.Eq.i_tup_lst, Pl.Eq.i_tup_int, Pl.Eq.i_tup_bl, Pl.Eq.i_tup_str, Pl.Eq.i_tup_dic, Pl.Eq.i_lst_tup, Pl.Eq.i_lst_lst, Pl.Eq.i_lst_int, Pl.Eq.i_lst_bl, Pl.Eq.i_lst_str, Pl.Eq.i_lst_dic, Pl.Eq.n_non, Pl.Eq.n_bl, Pl.Eq.n_int, Pl.Eq.n_str, Pl.Eq.n_tup, Pl.Eq.n_lst, Pl.Eq.p_slT, Pl.Eq.p_lenT, Pl.Eq.p_lenL, Pl.Eq.p_lenR, Pl.Eq.p_intI, Pl.Eq.p_tuple, Pl.Eq.p_list, Pl.Eq.p_sorted, Pl.Eq.p_max1, Pl.Eq.p_min1, Pl.Eq.p_min, Pl.Eq.p_intB, Pl.Eq.p_mulT, Pl.Eq.p_addLL, Pl.Eq.p_slL, Pl.Eq.it_tup, Pl.Eq.it_lst, Pl.Eq.it_ro, Pl.Eq.si_lst, Pl.Eq.p_all, Pl.Eq.p_any, Pl.Eq.p_max, Pl.Eq.q_tup, Pl.Eq.q_lst, Pl.Eq.q_ro, Pl.Eq.l_lst, Pl.Eq.src_tup, Pl.Eq.src_lst, Pl.Eq.src_ro, Pl.Eq.src_mr, Pl.Eq.atP_some, Pl.Eq.x_tup_, Pl.Eq.x_lst_, Pl.Eq.x_ro_, Pl.Eq.seq_mr, Pl.Eq.lst_mr, Pl.Eq.dic_mr, Pl.Eq.tru_mr, Pl.Eq.it_mr, Pl.Eq.si_mr, Pl.Eq.x_mr, Pl.Eq.set_mr, Pl.Eq.len_mr, Pl.Eq.in_mr, Pl.Eq.nin_mr, Pl.Eq.ty_mr, Pl.Eq.mt_app, Pl.Eq.mt_p0, Pl.Eq.mt_p1, Pl.Eq.mt_ex, Pl.Eq.mt_in, Pl.Eq.mt_g1, Pl.Eq.mt_g2, Pl.Eq.oL_seq, Pl.Eq.oL_tru, Pl.Eq.oL_it, Pl.Eq.oL_ix, Pl.Eq.oL_set, Pl.Eq.oL_len, Pl.Eq.oL_in, Pl.Eq.oL_tyA, Pl.Eq.oL_tyI, Pl.Eq.oL_tyP, Pl.Eq.oL_tyQ, Pl.Eq.oL_tyE, Pl.Eq.oL_tyN, Pl.Eq.oL_app, Pl.Eq.oL_p0, Pl.Eq.oL_p1, Pl.Eq.oL_ex, Pl.Eq.oL_ins, Pl.Eq.oD_dic, Pl.Eq.oL_dic, Pl.Eq.oD_it, Pl.Eq.oD_ix, Pl.Eq.oD_set, Pl.Eq.oD_len, Pl.Eq.oD_in, Pl.Eq.oD_tyG, Pl.Eq.oD_tyH, Pl.Eq.oD_g1, Pl.Eq.oD_g2, Pl.Eq.fx_get, Pl.Eq.fx_get0, Pl.Eq.fx_set, Pl.Eq.fx_set0, Pl.Eq.fx_getS, Pl.Eq.fx_getS0, Pl.Eq.fx_setS, Pl.Eq.fx_setS0, Pl.Eq.at_nat, Pl.Eq.at_0, Pl.Eq.at_1, Pl.Eq.at_2, Pl.Eq.at_3, Pl.Eq.at_4, Pl.Eq.at_last, Pl.Eq.sz, Pl.Eq.ixN_0, Pl.Eq.ixN_1, Pl.Eq.ixN_2, Pl.Eq.ixN_3, Pl.Eq.ixN_4, List.getElem?_cons_zero, List.getElem?_cons_succ, List.set_cons_zero, List.set_cons_succ, Option.some.injEq, exists_eq_left, exists_eq_left', U.int.injEq, U.bl.injEq, U.tup.injEq, U.lst.injEq, Int.zero_add, Nat.reduceLeDiff, List.cons_append, List.nil_append, false_and, exists_false, exists_const, false_or, or_false, Pl.T.own, Pl.Ts.own, Pl.Ts.len, wipeU, Pl.Eq.eqI, Pl.Eq.eqB, beq_self_eq_true, Bool.not_true, Bool.not_false, Bool.false_eq_true, Bool.true_eq_false, reduceCtorEq, decide_true, decide_false, List.length_cons, List.length_nil, Nat.zero_add, Nat.reduceAdd, Nat.reduceLT, if_true, if_false, reduceIte, true_and, and_true, List.set_set, List.append_assoc, List.length_append, List.length_set, Nat.add_zero, List.append_nil, $as,*]))
def m_alike : Ss := (.cons (.ifs (.bop true (.cons (.isi .tup (.var 0)) (.cons (.isi .tup (.var 1)) .nil))) (.cons (.ret (.bop true (.cons (.cmp .eq (.bi .len false (.cons (.var 0) .nil)) (.bi .len false (.cons (.var 1) .nil))) (.cons (.bi .all false (.cons (.lc false (.nm 2) (.rng1 (.bi .len false (.cons (.var 0) .nil))) .nil (.call "alike" (.cons (.ix (.var 0) (.var 2)) (.cons (.ix (.var 1) (.var 2)) .nil)))) .nil)) .nil))))
    .nil) .nil)
    (.cons (.ret (.bop true (.cons (.cmp .eq (.isi .bl (.var 0)) (.isi .bl (.var 1))) (.cons (.cmp .eq (.var 0) (.var 1)) .nil))))
    .nil))
def m_differ : Ss := (.cons (.ifs (.bop false (.cons (.cmp .isN (.var 0) (.cst .non)) (.cons (.cmp .isN (.var 1) (.cst .non)) .nil))) (.cons (.ret (.bop false (.cons (.cmp .notN (.var 0) (.cst .non)) (.cons (.cmp .notN (.var 1) (.cst .non)) .nil))))
    .nil) .nil)
    (.cons (.ret (.not (.call "alike" (.cons (.ix (.var 0) (.cst (.int 0))) (.cons (.ix (.var 1) (.cst (.int 0))) .nil)))))
    .nil))
def m_law_numbered : Ss := (.cons (.asg (.nm 2) (.lst true (.cons (.cst (.int 0)) .nil)))
    (.cons (.asg (.nm 3) (.lst true .nil))
    (.cons (.fr (.nm 4) (.rng1 (.bi .len false (.cons (.var 1) .nil))) (.cons (.ifs (.cmp .lt (.var 4) (.bi .len false (.cons (.var 2) .nil))) (.cons (.asg (.nm 5) (.lst true .nil))
    (.cons (.fr (.nm 6) (.val (.ix (.var 1) (.ix (.var 2) (.var 4)))) (.cons (.ifs (.bop true (.cons (.cmp .notN (.var 6) (.cst .non)) (.cons (.cmp .nin (.ix (.var 6) (.cst (.int 1))) (.var 2)) .nil))) (.cons (.expr (.mth .append (.var 2) (.cons (.ix (.var 6) (.cst (.int 1))) .nil)))
    .nil) .nil)
    (.cons (.expr (.mth .append (.var 5) (.cons (.ife (.cmp .isN (.var 6) (.cst .non)) (.cst .non) (.tup (.cons (.ix (.var 6) (.cst (.int 0))) (.cons (.mth .index (.var 2) (.cons (.ix (.var 6) (.cst (.int 1))) .nil)) .nil)))) .nil)))
    .nil)))
    (.cons (.expr (.mth .append (.var 3) (.cons (.bi .tuple false (.cons (.var 5) .nil)) .nil)))
    .nil))) .nil)
    .nil))
    (.cons (.ret (.tup (.cons (.var 0) (.cons (.bi .tuple false (.cons (.var 3) .nil)) .nil))))
    .nil))))
def m_law_menu : Ss := (.cons (.asg (.nm 1) (.lst false (.cons (.lst false (.cons (.tup (.cons (.cst (.int 0)) .nil)) (.cons (.tup (.cons (.cst (.int 1)) .nil)) .nil))) (.cons (.lst false (.cons (.tup (.cons (.cst (.bl false)) .nil)) (.cons (.tup (.cons (.cst (.bl true)) .nil)) .nil))) (.cons (.lst false (.cons (.tup (.cons (.cst (.int 0)) .nil)) (.cons (.tup (.cons (.cst (.int 1)) .nil)) (.cons (.tup (.cons (.cst (.int 2)) .nil)) .nil)))) (.cons (.lst false (.cons (.tup (.cons (.cst (.int 1)) .nil)) (.cons (.tup (.cons (.cst (.bl true)) .nil)) (.cons (.tup (.cons (.cst (.int 0)) .nil)) .nil)))) (.cons (.lst false (.cons (.tup .nil) (.cons (.tup (.cons (.cst (.int 0)) .nil)) (.cons (.tup (.cons (.cst (.int 0)) (.cons (.cst (.int 1)) .nil))) .nil)))) (.cons (.lst false (.cons (.tup (.cons (.cst (.str "A")) (.cons (.cst (.int 0)) (.cons (.cst (.int 1)) .nil)))) (.cons (.tup (.cons (.cst (.str "A")) (.cons (.cst (.int 0)) (.cons (.cst (.int 2)) .nil)))) (.cons (.tup (.cons (.cst (.str "B")) (.cons (.cst (.int 0)) (.cons (.cst (.int 1)) .nil)))) .nil)))) (.cons (.lst false (.cons (.tup (.cons (.cst (.bl false)) (.cons (.cst (.int 0)) (.cons (.cst (.int 0)) (.cons (.cst (.int 0)) .nil))))) (.cons (.tup (.cons (.cst (.bl false)) (.cons (.cst (.int 0)) (.cons (.cst (.int 0)) (.cons (.cst (.bl false)) .nil))))) (.cons (.tup (.cons (.cst (.int 0)) (.cons (.cst (.int 0)) (.cons (.cst (.int 0)) (.cons (.cst (.int 0)) .nil))))) .nil)))) (.cons (.lst false (.cons (.tup (.cons (.cst (.str "On")) .nil)) (.cons (.tup (.cons (.cst (.str "Off")) .nil)) .nil))) .nil))))))))))
    (.cons (.ret (.ix (.var 1) (.call "_law_take" (.cons (.var 0) (.cons (.bi .len false (.cons (.var 1) .nil)) .nil)))))
    .nil))
def m_law_machine : Ss := (.cons (.asg (.nm 4) (.bin .add false (.cst (.int 1)) (.call "_law_take" (.cons (.var 0) (.cons (.cst (.int 7)) .nil)))))
    (.cons (.asg (.nm 5) (.lst true .nil))
    (.cons (.fr (.nm 6) (.rng1 (.var 4)) (.cons (.asg (.nm 7) (.lst true .nil))
    (.cons (.fr (.nm 8) (.val (.var 1)) (.cons (.asg (.nm 9) (.ife (.cmp .eq (.call "_law_take" (.cons (.var 0) (.cons (.cst (.int 3)) .nil))) (.cst (.int 0))) (.ix (.var 3) (.call "_law_take" (.cons (.var 0) (.cons (.bi .len false (.cons (.var 3) .nil)) .nil)))) (.ix (.var 3) (.bin .mod false (.bi .int false (.cons (.var 6) .nil)) (.cst (.int 2))))))
    (.cons (.asg (.nm 10) (.call "_law_take" (.cons (.var 0) (.cons (.var 4) .nil))))
    (.cons (.expr (.mth .append (.var 7) (.cons (.ife (.bop true (.cons (.var 2) (.cons (.cmp .eq (.call "_law_take" (.cons (.var 0) (.cons (.cst (.int 14)) .nil))) (.cst (.int 0))) .nil))) (.cst .non) (.tup (.cons (.var 9) (.cons (.var 10) .nil)))) .nil)))
    .nil))))
    (.cons (.expr (.mth .append (.var 5) (.cons (.bi .tuple false (.cons (.var 7) .nil)) .nil)))
    .nil))))
    (.cons (.ret (.call "_law_numbered" (.cons (.var 1) (.cons (.var 5) .nil))))
    .nil))))
def m_law_ring : Ss := (.cons (.asg (.nm 2) (.bin .add false (.cst (.int 17)) (.call "_law_take" (.cons (.var 0) (.cons (.cst (.int 24)) .nil)))))
    (.cons (.asg (.nm 3) (.call "_law_take" (.cons (.var 0) (.cons (.var 2) .nil))))
    (.cons (.asg (.nm 4) (.lst true .nil))
    (.cons (.fr (.nm 5) (.rng1 (.var 2)) (.cons (.expr (.mth .append (.var 4) (.cons (.tup (.cons (.tup (.cons (.ife (.cmp .eq (.var 5) (.var 3)) (.ix (.var 1) (.cst (.int 1))) (.ix (.var 1) (.cst (.int 0)))) (.cons (.bin .mod false (.bi .int false (.cons (.bin .add false (.var 5) (.cst (.int 1))) .nil)) (.var 2)) .nil))) .nil)) .nil)))
    .nil))
    (.cons (.ret (.tup (.cons (.tup (.cons (.tup .nil) .nil)) (.cons (.bi .tuple false (.cons (.var 4) .nil)) .nil))))
    .nil)))))
def m_law_input_rows : Ss := (.cons (.asg (.nm 1) (.bin .add false (.cst (.int 17)) (.call "_law_take" (.cons (.var 0) (.cons (.cst (.int 6)) .nil)))))
    (.cons (.asg (.nm 2) (.lst false (.cons (.tup (.cons (.tup (.cons (.cst (.bl false)) .nil)) (.cons (.tup (.cons (.cst (.bl true)) .nil)) .nil))) (.cons (.tup (.cons (.tup .nil) .nil)) (.cons (.tup (.cons (.tup (.cons (.cst (.int 0)) .nil)) (.cons (.tup (.cons (.cst (.int 1)) .nil)) (.cons (.tup (.cons (.cst (.int 2)) .nil)) .nil)))) (.cons (.tup (.cons (.tup (.cons (.cst (.str "A")) (.cons (.cst (.bl true)) .nil))) (.cons (.tup (.cons (.cst (.str "B")) (.cons (.cst (.bl true)) .nil))) .nil))) (.cons (.tup (.cons (.tup (.cons (.cst (.int 1)) .nil)) (.cons (.tup (.cons (.cst (.bl true)) .nil)) .nil))) (.cons (.bi .tuple false (.cons (.lc false (.nm 3) (.rng1 (.var 1)) .nil (.tup (.cons (.var 3) .nil))) .nil)) .nil))))))))
    (.cons (.ret (.ix (.var 2) (.call "_law_take" (.cons (.var 0) (.cons (.cst (.int 6)) .nil)))))
    .nil)))
def m_law_copied : Ss := (.cons (.asg (.tp (.cons (.nm 2) (.cons (.nm 3) .nil))) (.var 1))
    (.cons (.asg (.nm 4) (.bi .len false (.cons (.var 3) .nil)))
    (.cons (.asg (.nm 5) (.lst true .nil))
    (.cons (.fr (.nm 6) (.val (.bin .add false (.var 3) (.var 3))) (.cons (.expr (.mth .append (.var 5) (.cons (.bi .tuple false (.cons (.lc false (.nm 7) (.val (.var 6)) .nil (.ife (.cmp .isN (.var 7) (.cst .non)) (.cst .non) (.tup (.cons (.ix (.var 7) (.cst (.int 0))) (.cons (.bin .add false (.ix (.var 7) (.cst (.int 1))) (.bin .mul false (.var 4) (.call "_law_take" (.cons (.var 0) (.cons (.cst (.int 2)) .nil))))) .nil))))) .nil)) .nil)))
    .nil))
    (.cons (.ret (.call "_law_numbered" (.cons (.var 2) (.cons (.var 5) .nil))))
    .nil)))))
def m_law_changed : Ss := (.cons (.asg (.tp (.cons (.nm 2) (.cons (.nm 3) .nil))) (.var 1))
    (.cons (.asg (.nm 4) (.call "_law_take" (.cons (.var 0) (.cons (.bi .len false (.cons (.var 3) .nil)) .nil))))
    (.cons (.asg (.nm 5) (.call "_law_take" (.cons (.var 0) (.cons (.bi .len false (.cons (.var 2) .nil)) .nil))))
    (.cons (.asg (.nm 6) (.ix (.ix (.var 3) (.var 4)) (.var 5)))
    (.cons (.asg (.nm 7) (.ix (.lst false (.cons (.cst .non) (.cons (.tup (.cons (.tup (.cons (.cst (.int 7)) .nil)) (.cons (.cst (.int 0)) .nil))) (.cons (.tup (.cons (.tup (.cons (.cst (.int 1)) .nil)) (.cons (.call "_law_take" (.cons (.var 0) (.cons (.bi .len false (.cons (.var 3) .nil)) .nil))) .nil))) (.cons (.tup (.cons (.tup (.cons (.cst (.bl true)) .nil)) (.cons (.cst (.int 0)) .nil))) .nil))))) (.call "_law_take" (.cons (.var 0) (.cons (.cst (.int 4)) .nil)))))
    (.cons (.ifs (.bop true (.cons (.cmp .notN (.var 6) (.cst .non)) (.cons (.cmp .eq (.call "_law_take" (.cons (.var 0) (.cons (.cst (.int 2)) .nil))) (.cst (.int 0))) .nil))) (.cons (.asg (.nm 7) (.ife (.bop false (.cons (.cmp .eq (.call "_law_take" (.cons (.var 0) (.cons (.cst (.int 2)) .nil))) (.cst (.int 0))) (.cons (.cmp .eq (.ix (.var 6) (.cst (.int 0))) (.tup .nil)) .nil))) (.tup (.cons (.bin .add false (.ix (.var 6) (.cst (.int 0))) (.tup (.cons (.cst (.int 0)) .nil))) (.cons (.ix (.var 6) (.cst (.int 1))) .nil))) (.tup (.cons (.bin .add false (.sl false (.ix (.var 6) (.cst (.int 0))) .none (.some (.neg (.cst (.int 1))))) (.tup (.cons (.cst (.str "last")) .nil))) (.cons (.ix (.var 6) (.cst (.int 1))) .nil)))))
    .nil) .nil)
    (.cons (.asg (.nm 8) (.bin .add false (.bin .add false (.sl false (.ix (.var 3) (.var 4)) .none (.some (.var 5))) (.tup (.cons (.var 7) .nil))) (.sl false (.ix (.var 3) (.var 4)) (.some (.bin .add false (.var 5) (.cst (.int 1)))) .none)))
    (.cons (.ret (.call "_law_numbered" (.cons (.var 2) (.cons (.bin .add false (.bin .add false (.sl false (.var 3) .none (.some (.var 4))) (.tup (.cons (.var 8) .nil))) (.sl false (.var 3) (.some (.bin .add false (.var 4) (.cst (.int 1)))) .none)) .nil))))
    .nil))))))))
def m_law_differ : Ss := (.cons (.ifs (.bop false (.cons (.cmp .isN (.var 0) (.cst .non)) (.cons (.cmp .isN (.var 1) (.cst .non)) .nil))) (.cons (.ret (.bop false (.cons (.cmp .notN (.var 0) (.cst .non)) (.cons (.cmp .notN (.var 1) (.cst .non)) .nil))))
    .nil) .nil)
    (.cons (.ret (.not (.call "_law_same" (.cons (.ix (.var 0) (.cst (.int 0))) (.cons (.ix (.var 1) (.cst (.int 0))) .nil)))))
    .nil))
abbrev Pc := Option (U × Nat)
abbrev Tb := List (List Pc)
def encP : Pc → U
  | none => .non
  | some (u, k) => .tup [u, .int k]
def encL (l : List Pc) : U := .tup (l.map encP)
def encT (t : Tb) : U := .tup (t.map encL)
def lineMet : Nat → List Pc → Option Nat
  | m, [] => some m
  | m, none :: ps => lineMet m ps
  | m, some (_, k) :: ps => if m < k then none else lineMet (max m (k + 1)) ps
def goN : Tb → Nat → Nat → Option Nat
  | [], _, m => some m
  | l :: ls, s, m => if m ≤ s then none else match lineMet m l with
    | none => none
    | some m' => goN ls (s + 1) m'
def opEq : Option Nat → Nat → Bool
  | none, _ => false
  | some m, n => m == n
def numB (t : Tb) : Bool := opEq (goN t 0 1) t.length
structure Wf (w : Nat) (t : Tb) : Prop where
  ne : t ≠ []
  len : ∀ l ∈ t, l.length = w
  pl : ∀ l ∈ t, ∀ u k, some (u, k) ∈ l → (∃ xs, u = .tup xs) ∧ k < t.length
  s : t.length ≤ 1000
def leaf : U → Prop
  | .bl _ => True
  | .int _ => True
  | .str x => PyData.strOk x = true
  | _ => False
def leafEq : U → U → Bool
  | .bl a, .bl b => a == b
  | .int a, .int b => a == b
  | .str a, .str b => a == b
  | _, _ => false
def rowEq (xs ys : List U) : Bool := (xs.length == ys.length) && (List.zipWith leafEq xs ys).all id
theorem nodup_le : ∀ {n : Nat} {l : List Nat}, l.Nodup → (∀ x ∈ l, x < n) → l.length ≤ n
  | 0, [], _, _ => Nat.le_refl _
  | 0, x :: _, _, h => absurd (h x List.mem_cons_self) (by omega)
  | n + 1, l, d, h => by
    have d' : (l.erase n).Nodup := d.erase n
    have h' : ∀ x ∈ l.erase n, x < n := fun x m => by
      have m1 := (List.Nodup.mem_erase_iff d).mp m
      have := h x m1.2
      have := m1.1
      omega
    have := nodup_le d' h'
    rw [List.length_erase] at this
    split at this <;> omega
def stepOrd (ord : List Nat) : Pc → List Nat
  | none => ord
  | some (_, k) => if k ∈ ord then ord else ord ++ [k]
def newP (ord : List Nat) : Pc → Pc
  | none => none
  | some (u, k) => some (u, ord.idxOf k)
def lineGo : List Nat → List Pc → List Nat × List Pc
  | ord, [] => (ord, [])
  | ord, p :: ps => ((lineGo (stepOrd ord p) ps).1, newP (stepOrd ord p) p :: (lineGo (stepOrd ord p) ps).2)
def numGo (t : Tb) : Nat → Nat → List Nat → Tb → List Nat × Tb
  | 0, _, ord, ls => (ord, ls)
  | f + 1, i, ord, ls => match ord[i]? with
    | some s => numGo t f (i + 1) (lineGo ord (t.getD s [])).1 (ls ++ [(lineGo ord (t.getD s [])).2])
    | none => numGo t f (i + 1) ord ls
def numb (t : Tb) : Tb := (numGo t t.length 0 [0] []).2
def ordU (ord : List Nat) : List U := ord.map fun (k : Nat) => .int k
theorem ordU_any (ord : List Nat) (k : Nat) : ((ordU ord).any fun y => PyData.eqv (dat y) (dat (.int k))) = decide (k ∈ ord) := by
  unfold ordU
  induction ord with
  | nil => simp
  | cons a r ih =>
    rw [List.map_cons, List.any_cons, ih]
    simp only [dat, PyData.eqv]
    by_cases c : a = k
    · subst c; simp
    · have : ((a : Int) == (k : Int)) = false := by simp; omega
      rw [this, Bool.false_or]
      have c' : ¬ k = a := fun z => c z.symm
      simp [c']
theorem ordU_pd (ord : List Nat) : ∀ x ∈ ordU ord, pd 63 x := fun x m => by
  unfold ordU at m
  obtain ⟨k, _, rfl⟩ := List.mem_map.mp m
  trivial
theorem ordU_get {ord : List Nat} {i s : Nat} (e : ord[i]? = some s) : (ordU ord)[i]? = some (.int s) := by
  unfold ordU; rw [List.getElem?_map, e]; rfl
theorem lineGo_out {P : U → Prop} : ∀ {l : List Pc} {ord : List Nat}, (∀ u k, some (u, k) ∈ l → P u) → ∀ u k, some (u, k) ∈ (lineGo ord l).2 → P u
  | [], _, _, u, k, m => by simp [lineGo] at m
  | p :: ps, ord, hp, u, k, m => by
    simp only [lineGo, List.mem_cons] at m
    rcases m with m | m
    · cases p with
      | none => cases m
      | some q => cases m; exact hp _ _ List.mem_cons_self
    · exact lineGo_out (fun u k q => hp u k (List.mem_cons_of_mem _ q)) u k m
theorem getD_mem {t : Tb} {s : Nat} {l : List Pc} (h : t.getD s [] = l) : l ∈ t ∨ l = [] := by
  simp only [List.getD] at h
  cases e : t[s]? with
  | none => rw [e] at h; exact .inr h.symm
  | some x => rw [e] at h; exact .inl (by rw [← h]; exact List.mem_of_getElem? e)
theorem numGo_out {P : U → Prop} {t : Tb} (ht : ∀ l ∈ t, ∀ u k, some (u, k) ∈ l → P u) : ∀ {f i : Nat} {ord : List Nat} {ls : Tb}, (∀ l ∈ ls, ∀ u k, some (u, k) ∈ l → P u) → ∀ l ∈ (numGo t f i ord ls).2, ∀ u k, some (u, k) ∈ l → P u
  | 0, _, _, _, h => h
  | f + 1, i, ord, ls, h => by
    unfold numGo
    split
    · refine numGo_out ht fun l m => ?_
      rcases List.mem_append.mp m with q | q
      · exact h l q
      · rw [List.mem_singleton.mp q]
        refine lineGo_out fun u k z => ?_
        rcases getD_mem rfl with w | w
        · exact ht _ w u k z
        · rw [w] at z; cases z
    · exact numGo_out ht h
theorem numb_out {P : U → Prop} {t : Tb} (ht : ∀ l ∈ t, ∀ u k, some (u, k) ∈ l → P u) : ∀ l ∈ numb t, ∀ u k, some (u, k) ∈ l → P u := numGo_out ht (by simp)
theorem encT_pd {t : Tb} (ht : ∀ l ∈ t, ∀ u k, some (u, k) ∈ l → pd 50 u) : pd 62 (encT t) := by
  unfold encT
  intro x m
  obtain ⟨l, ml, rfl⟩ := List.mem_map.mp m
  intro y my
  obtain ⟨p, mp, rfl⟩ := List.mem_map.mp my
  cases p with
  | none => trivial
  | some q =>
    obtain ⟨u, k⟩ := q
    intro z mz
    simp only [List.mem_cons, List.not_mem_nil, or_false] at mz
    rcases mz with rfl | rfl
    · exact pd_mono (by decide) (ht l ml _ k mp)
    · trivial
section
variable {n : Nat} {h : Hu} {Q : QE} {E : Ex → Hu → Prop}
theorem ord_index {h' : Hu} {ord : List Nat} {k a : Nat} (z : h'[a]? = some (.lst (ordU ord))) (m : k ∈ ord) {R : QE} (q : R (.int (ord.idxOf k : Nat)) h') : mtR .index (.mr a) [.int k] h' R := by
  have l : ord.idxOf k < ord.length := List.idxOf_lt_length_of_mem m
  have e : ord[ord.idxOf k]? = some k := by rw [List.getElem?_eq_getElem l, List.getElem_idxOf l]
  refine idxP z (ordU_pd ord) (by trivial) (ordU_get e) (by simp [dat, PyData.eqv]) (fun j w lt e' => ?_) q
  unfold ordU at e'
  rw [List.getElem?_map, Option.map_eq_some_iff] at e'
  obtain ⟨b, e1, rfl⟩ := e'
  have hne : b ≠ k := fun z => by
    subst z
    have h1 : j < ord.length := (List.getElem?_eq_some_iff.mp e1).1
    have h2 : ord[j] = b := (List.getElem?_eq_some_iff.mp e1).2
    have := List.not_of_lt_findIdx (p := (· == b)) (xs := ord) (i := j) lt
    simp [h2] at this
  simp [dat, PyData.eqv]
  omega
theorem lineGo_facts {N : Nat} : ∀ {l : List Pc} {ord : List Nat}, ord.Nodup → (∀ x ∈ ord, x < N) → (∀ u k, some (u, k) ∈ l → k < N) → (lineGo ord l).1.Nodup ∧ (∀ x ∈ (lineGo ord l).1, x < N) ∧ (lineGo ord l).2.length = l.length
  | [], ord, d, o, _ => ⟨d, o, rfl⟩
  | p :: ps, ord, d, o, m => by
    have key : (stepOrd ord p).Nodup ∧ ∀ x ∈ stepOrd ord p, x < N := by
      cases p with
      | none => exact ⟨d, o⟩
      | some q =>
        obtain ⟨u, k⟩ := q
        unfold stepOrd
        by_cases c : k ∈ ord
        · simp [c]; exact ⟨d, o⟩
        · simp only [c, if_false]
          refine ⟨List.nodup_append.mpr ⟨d, by simp, fun a ha b hb => ?_⟩, fun x hx => ?_⟩
          · rw [List.mem_singleton.mp hb]; exact fun z => c (z ▸ ha)
          · rcases List.mem_append.mp hx with q | q
            · exact o x q
            · rw [List.mem_singleton.mp q]; exact m u k List.mem_cons_self
    have ih := lineGo_facts (l := ps) key.1 key.2 fun u k q => m u k (List.mem_cons_of_mem _ q)
    exact ⟨ih.1, ih.2.1, by simp [lineGo, ih.2.2]⟩
end
/-- the places' skeleton -/
def sk (t : Tb) : List (List (Option Nat)) := t.map fun l => l.map fun p => p.map (·.2)
theorem lineMet_sk : ∀ {l l' : List Pc} {m : Nat}, (l.map fun p => p.map (·.2)) = (l'.map fun p => p.map (·.2)) → lineMet m l = lineMet m l'
  | [], [], _, _ => rfl
  | [], _ :: _, _, e => by simp at e
  | _ :: _, [], _, e => by simp at e
  | p :: ps, p' :: ps', m, e => by
    simp only [List.map_cons, List.cons.injEq] at e
    obtain ⟨e1, e2⟩ := e
    cases p with
    | none =>
      cases p' with
      | none => unfold lineMet; exact lineMet_sk e2
      | some q => simp at e1
    | some q =>
      cases p' with
      | none => simp at e1
      | some q' =>
        obtain ⟨u, k⟩ := q
        obtain ⟨u', k'⟩ := q'
        simp at e1
        subst e1
        unfold lineMet
        rw [lineMet_sk e2]
theorem goN_sk : ∀ {t t' : Tb} {s m : Nat}, sk t = sk t' → goN t s m = goN t' s m
  | [], [], _, _, _ => rfl
  | [], _ :: _, _, _, e => by simp [sk] at e
  | _ :: _, [], _, _, e => by simp [sk] at e
  | l :: t, l' :: t', s, m, e => by
    simp only [sk, List.map_cons, List.cons.injEq] at e
    unfold goN
    rw [lineMet_sk e.1]
    split
    · rfl
    · split
      · rfl
      · exact goN_sk e.2
theorem numB_sk {t t' : Tb} (e : sk t = sk t') : numB t = numB t' := by
  unfold numB
  rw [goN_sk e]
  have : t.length = t'.length := by simpa [sk] using congrArg List.length e
  rw [this]
theorem goN_app : ∀ {t : Tb} {l : List Pc} {s m : Nat}, goN (t ++ [l]) s m = match goN t s m with
    | none => none
    | some m' => if m' ≤ s + t.length then none else lineMet m' l
  | [], l, s, m => by
    show goN [l] s m = _
    unfold goN
    simp only [goN, List.length_nil, Nat.add_zero]
    split
    · rfl
    · split <;> simp_all [goN]
  | a :: t, l, s, m => by
    show goN (a :: (t ++ [l])) s m = _
    unfold goN
    split
    · rfl
    · cases e : lineMet m a with
      | none => rfl
      | some m' =>
        simp only
        rw [goN_app, List.length_cons, show s + 1 + t.length = s + (t.length + 1) by omega]
theorem lineMet_go : ∀ {l : List Pc} {ord : List Nat}, ord.Nodup → lineMet ord.length (lineGo ord l).2 = some (lineGo ord l).1.length
  | [], _, _ => rfl
  | none :: ps, ord, d => by
    simp only [lineGo, stepOrd, newP, lineMet]
    exact lineMet_go d
  | some (u, k) :: ps, ord, d => by
    simp only [lineGo, newP, lineMet]
    by_cases c : k ∈ ord
    · have e : stepOrd ord (some (u, k)) = ord := by simp [stepOrd, c]
      rw [e]
      have l := List.idxOf_lt_length_of_mem c
      rw [if_neg (by omega), Nat.max_eq_left (by omega)]
      exact lineMet_go d
    · have e : stepOrd ord (some (u, k)) = ord ++ [k] := by simp [stepOrd, c]
      rw [e]
      have i : (ord ++ [k]).idxOf k = ord.length := by rw [List.idxOf_append, if_neg c]; simp
      rw [i, if_neg (by omega), Nat.max_eq_right (by omega)]
      have d' : (ord ++ [k]).Nodup := List.nodup_append.mpr ⟨d, by simp, fun a ha b hb => by rw [List.mem_singleton.mp hb]; exact fun z => c (z ▸ ha)⟩
      have := lineMet_go (l := ps) d'
      simpa using this
theorem lineGo_len {l : List Pc} : ∀ {ord : List Nat}, ord.length ≤ (lineGo ord l).1.length := by
  induction l with
  | nil => intro ord; exact Nat.le_refl _
  | cons p ps ih =>
    intro ord
    refine Nat.le_trans ?_ (ih (ord := stepOrd ord p))
    cases p with
    | none => exact Nat.le_refl _
    | some q =>
      unfold stepOrd
      by_cases c : q.2 ∈ ord <;> simp [c]
theorem lineGo_lt : ∀ {l : List Pc} {ord : List Nat}, ∀ u k, some (u, k) ∈ (lineGo ord l).2 → k < (lineGo ord l).1.length
  | [], ord, u, k, m => by simp [lineGo] at m
  | p :: ps, ord, u, k, m => by
    simp only [lineGo, List.mem_cons] at m ⊢
    rcases m with m | m
    · cases p with
      | none => cases m
      | some q =>
        obtain ⟨u', k'⟩ := q
        simp only [newP, Option.some.injEq, Prod.mk.injEq] at m
        obtain ⟨_, rfl⟩ := m
        refine Nat.lt_of_lt_of_le (List.idxOf_lt_length_of_mem ?_) (lineGo_len (l := ps))
        unfold stepOrd
        by_cases c : k' ∈ ord <;> simp [c]
    · exact lineGo_lt u k m
structure NI (t : Tb) (w i : Nat) (ord : List Nat) (ls : Tb) : Prop where
  nd : ord.Nodup
  ob : ∀ x ∈ ord, x < t.length
  c : (ls.length = i ∧ i ≤ ord.length) ∨ (ls.length = ord.length ∧ ord.length ≤ i)
  g : goN ls 0 1 = some ord.length
  pl : ∀ l ∈ ls, ∀ u k, some (u, k) ∈ l → k < ord.length
  wd : ∀ l ∈ ls, l.length = w
  p1 : 1 ≤ ord.length
theorem numGo_inv {t : Tb} {w : Nat} (wf : Wf w t) : ∀ {f i : Nat} {ord : List Nat} {ls : Tb}, f + i = t.length → NI t w i ord ls → ∃ ord', NI t w t.length ord' (numGo t f i ord ls).2
  | 0, i, ord, ls, e, h => by
    have : i = t.length := by omega
    subst this
    exact ⟨ord, h⟩
  | f + 1, i, ord, ls, e, h => by
    unfold numGo
    cases eo : ord[i]? with
    | none =>
      have li : ord.length ≤ i := List.getElem?_eq_none_iff.mp eo
      refine numGo_inv wf (by omega) { h with c := ?_ }
      rcases h.c with ⟨a, b⟩ | ⟨a, b⟩
      · exact .inr ⟨by omega, by omega⟩
      · exact .inr ⟨a, by omega⟩
    | some s =>
      have li : i < ord.length := (List.getElem?_eq_some_iff.mp eo).1
      have ls' : s < t.length := h.ob s (List.mem_of_getElem? eo)
      have lm : t.getD s [] ∈ t := by
        simp only [List.getD, List.getElem?_eq_getElem ls', Option.getD_some]
        exact List.getElem_mem _
      simp only
      generalize t.getD s [] = l at lm ⊢
      obtain ⟨f1, f2, f3⟩ := lineGo_facts (l := l) h.nd h.ob fun u k m => (wf.pl l lm u k m).2
      have fl := lineGo_len (l := l) (ord := ord)
      have lsi : ls.length = i := by
        rcases h.c with ⟨a, b⟩ | ⟨a, b⟩
        · exact a
        · omega
      refine numGo_inv wf (by omega) ⟨f1, f2, .inl ⟨by simp [lsi], by omega⟩, ?_, ?_, ?_, by have := h.p1; omega⟩
      · rw [goN_app, h.g]
        simp only
        rw [if_neg (by omega)]
        exact lineMet_go h.nd
      · intro l' m' u k mk
        rcases List.mem_append.mp m' with q | q
        · exact Nat.lt_of_lt_of_le (h.pl l' q u k mk) fl
        · rw [List.mem_singleton.mp q] at mk
          exact lineGo_lt u k mk
      · intro l' m'
        rcases List.mem_append.mp m' with q | q
        · exact h.wd l' q
        · rw [List.mem_singleton.mp q, f3]
          exact wf.len l lm
theorem numb_ni {t : Tb} {w : Nat} (wf : Wf w t) : ∃ ord, NI t w t.length ord (numb t) :=
  numGo_inv wf (by omega) ⟨by simp, by simpa using List.length_pos_iff.mpr wf.ne, .inl ⟨rfl, by simp⟩, rfl, by simp, by simp, by simp⟩
theorem numb_len {t : Tb} {w : Nat} {ord : List Nat} (h : NI t w t.length ord (numb t)) : (numb t).length = ord.length := by
  have := nodup_le h.nd h.ob
  rcases h.c with ⟨a, b⟩ | ⟨a, b⟩ <;> omega
theorem numb_numB {t : Tb} {w : Nat} (wf : Wf w t) : numB (numb t) = true := by
  obtain ⟨ord, h⟩ := numb_ni wf
  unfold numB
  rw [h.g, numb_len h]
  simp [opEq]
theorem numb_wf {t : Tb} {w : Nat} (wf : Wf w t) : Wf w (numb t) := by
  obtain ⟨ord, h⟩ := numb_ni wf
  have e := numb_len h
  have p := h.p1
  have l := nodup_le h.nd h.ob
  refine ⟨fun z => by rw [z] at e; simp at e; omega, h.wd, fun l m u k mk => ⟨?_, by rw [e]; exact h.pl l m u k mk⟩, by have := wf.s; omega⟩
  exact numb_out (P := fun u => ∃ xs, u = .tup xs) (fun l m u k mk => (wf.pl l m u k mk).1) l m u k mk
theorem goN_cons {l : List Pc} {ls : Tb} {s m : Nat} : goN (l :: ls) s m = if m ≤ s then none else match lineMet m l with
    | none => none
    | some m' => goN ls (s + 1) m' := rfl
theorem goN_append : ∀ {a b : Tb} {s m : Nat}, goN (a ++ b) s m = (goN a s m).bind fun m' => goN b (s + a.length) m'
  | [], b, s, m => by simp [goN]
  | l :: a, b, s, m => by
    show goN (l :: (a ++ b)) s m = _
    rw [goN_cons, goN_cons]
    split
    · rfl
    · cases e : lineMet m l with
      | none => rfl
      | some m' =>
        simp only
        rw [goN_append, List.length_cons, show s + 1 + a.length = s + (a.length + 1) by omega]
theorem idx_range {n k : Nat} (h : k < n) : (List.range n).idxOf k = k := by
  have := List.nodup_range.idxOf_getElem (xs := List.range n) k (by simpa using h)
  simpa using this
theorem lineGo_id : ∀ {l : List Pc} {m m' : Nat}, lineMet m l = some m' → lineGo (List.range m) l = (List.range m', l)
  | [], m, m', e => by cases e; rfl
  | none :: ps, m, m', e => by
    unfold lineMet at e
    simp only [lineGo, stepOrd, newP]
    rw [lineGo_id e]
  | some (u, k) :: ps, m, m', e => by
    unfold lineMet at e
    split at e
    · cases e
    · rename_i c
      by_cases c2 : k < m
      · rw [Nat.max_eq_left (by omega)] at e
        have e1 : stepOrd (List.range m) (some (u, k)) = List.range m := by simp [stepOrd, c2]
        simp only [lineGo, e1, newP, idx_range c2]
        rw [lineGo_id e]
      · have e0 : k = m := by omega
        subst e0
        rw [Nat.max_eq_right (by omega)] at e
        have e1 : stepOrd (List.range k) (some (u, k)) = List.range (k + 1) := by simp [stepOrd, List.range_succ]
        simp only [lineGo, e1, newP, idx_range (Nat.lt_succ_self k)]
        rw [lineGo_id e]
theorem numGo_id : ∀ {b a : Tb} {m : Nat}, goN a 0 1 = some m → goN (a ++ b) 0 1 ≠ none → (numGo (a ++ b) b.length a.length (List.range m) a).2 = a ++ b
  | [], a, m, _, _ => by simp [numGo]
  | l :: b, a, m, e, hn => by
    have e1 : a ++ l :: b = (a ++ [l]) ++ b := by simp
    have hn2 : goN (a ++ [l]) 0 1 ≠ none := fun z => hn (by rw [e1, goN_append, z]; rfl)
    have e2 := goN_app (t := a) (l := l) (s := 0) (m := 1)
    rw [e] at e2
    simp only at e2
    split at e2
    · exact absurd e2 hn2
    · rename_i c
      cases e3 : lineMet m l with
      | none => rw [e3] at e2; exact absurd e2 hn2
      | some m' =>
        rw [e3] at e2
        have g1 : (List.range m)[a.length]? = some a.length := by rw [List.getElem?_range (by omega)]
        have g2 : (a ++ l :: b).getD a.length [] = l := by simp [List.getD]
        rw [List.length_cons]
        unfold numGo
        rw [g1]
        simp only
        rw [g2, lineGo_id e3]
        simp only
        have := numGo_id (b := b) (a := a ++ [l]) e2 (by rw [← e1]; exact hn)
        rw [← e1] at this
        rw [List.length_append] at this
        exact this
theorem numb_id {t : Tb} (h : numB t = true) : numb t = t := by
  unfold numB at h
  have : goN t 0 1 ≠ none := fun z => by rw [z] at h; cases h
  exact numGo_id (b := t) (a := []) (m := 1) rfl this
end Pl.Ma
set_option Elab.async false
set_option linter.all false
set_option maxRecDepth 100000
set_option autoImplicit false
/-! drawn machines: the defs that the laws share. -/
namespace Pl.Ma
open PySem Pl L2 Pl.Eq Pl.Tp
local macro_rules | `(tactic| simp_all! [$as,*]) => `(tactic| ((try dsimp only); rw [Pl.Eq.ss_cons]; simp only [Pl.Eq.e_cst, Pl.Eq.b_cst, Pl.Eq.e_var, Pl.Eq.b_var, Pl.Eq.e_bin, Pl.Eq.b_bin, Pl.Eq.e_neg, Pl.Eq.e_not, Pl.Eq.b_not, Pl.Eq.e_bop, Pl.Eq.b_bop, Pl.Eq.e_cmp, Pl.Eq.b_cmp, Pl.Eq.e_cmp2, Pl.Eq.b_cmp2, Pl.Eq.e_ife, Pl.Eq.b_ife, Pl.Eq.e_call, Pl.Eq.b_call, Pl.Eq.e_bi, Pl.Eq.b_bi, Pl.Eq.e_isi, Pl.Eq.b_isi, Pl.Eq.e_mth, Pl.Eq.e_ix, Pl.Eq.b_ix, Pl.Eq.e_sl, Pl.Eq.e_tup, Pl.Eq.e_lst, Pl.Eq.e_lc, Pl.Eq.e_lc2, Pl.Eq.e_lrg, Pl.Eq.e_dic, Pl.Eq.es_nil, Pl.Eq.es_cons, Pl.Eq.o_none, Pl.Eq.o_some, Pl.Eq.bb_nil, Pl.Eq.bb_cons, Pl.Eq.bo_one, Pl.Eq.bo_cons, Pl.Eq.f_nil, Pl.Eq.f_cons, Pl.Eq.i_val, Pl.Eq.i_rng1, Pl.Eq.i_rng2, Pl.Eq.i_rng3, Pl.Eq.i_enum, Pl.Eq.t_nm, Pl.Eq.t_tp, Pl.Eq.ts_nil, Pl.Eq.ts_cons, Pl.Eq.t_sub, Pl.Eq.s_expr, Pl.Eq.s_asg, Pl.Eq.s_par, Pl.Eq.s_aug, Pl.Eq.s_ret, Pl.Eq.s_retN, Pl.Eq.s_ifs, Pl.Eq.s_fr, Pl.Eq.s_brk, Pl.Eq.s_cnt, Pl.Eq.s_pass, Pl.Eq.ss_nil, Pl.Eq.p_addI, Pl.Eq.p_addT, Pl.Eq.p_subI, Pl.Eq.p_mulI, Pl.Eq.p_fdivI, Pl.Eq.p_modI, Pl.Eq.p_powI, Pl.Eq.p_lt, Pl.Eq.p_le, Pl.Eq.p_gt, Pl.Eq.p_ge, Pl.Eq.p_eq, Pl.Eq.p_ne, Pl.Eq.p_isN, Pl.Eq.p_notN, Pl.Eq.p_isB, Pl.Eq.p_notB, Pl.Eq.t_bl, Pl.Eq.t_int, Pl.Eq.t_tup, Pl.Eq.t_lst, Pl.Eq.mk_t, Pl.Eq.mk_f, Pl.Eq.i_non_tup, Pl.Eq.i_non_lst, Pl.Eq.i_non_int, Pl.Eq.i_non_bl, Pl.Eq.i_non_str, Pl.Eq.i_non_dic, Pl.Eq.i_bl_tup, Pl.Eq.i_bl_lst, Pl.Eq.i_bl_int, Pl.Eq.i_bl_bl, Pl.Eq.i_bl_str, Pl.Eq.i_bl_dic, Pl.Eq.i_int_tup, Pl.Eq.i_int_lst, Pl.Eq.i_int_int, Pl.Eq.i_int_bl, Pl.Eq.i_int_str, Pl.Eq.i_int_dic, Pl.Eq.i_str_tup, Pl.Eq.i_str_lst, Pl.Eq.i_str_int, Pl.Eq.i_str_bl, Pl.Eq.i_str_str, Pl.Eq.i_str_dic, Pl.Eq.i_tup_tup, Pl.Eq.i_tup_lst, Pl.Eq.i_tup_int, Pl.Eq.i_tup_bl, Pl.Eq.i_tup_str, Pl.Eq.i_tup_dic, Pl.Eq.i_lst_tup, Pl.Eq.i_lst_lst, Pl.Eq.i_lst_int, Pl.Eq.i_lst_bl, Pl.Eq.i_lst_str, Pl.Eq.i_lst_dic, Pl.Eq.n_non, Pl.Eq.n_bl, Pl.Eq.n_int, Pl.Eq.n_str, Pl.Eq.n_tup, Pl.Eq.n_lst, Pl.Eq.p_slT, Pl.Eq.p_lenT, Pl.Eq.p_lenL, Pl.Eq.p_lenR, Pl.Eq.p_intI, Pl.Eq.p_tuple, Pl.Eq.p_list, Pl.Eq.p_sorted, Pl.Eq.p_max1, Pl.Eq.p_min1, Pl.Eq.p_min, Pl.Eq.p_intB, Pl.Eq.p_mulT, Pl.Eq.p_addLL, Pl.Eq.p_slL, Pl.Eq.it_tup, Pl.Eq.it_lst, Pl.Eq.it_ro, Pl.Eq.si_lst, Pl.Eq.p_all, Pl.Eq.p_any, Pl.Eq.p_max, Pl.Eq.q_tup, Pl.Eq.q_lst, Pl.Eq.q_ro, Pl.Eq.l_lst, Pl.Eq.src_tup, Pl.Eq.src_lst, Pl.Eq.src_ro, Pl.Eq.src_mr, Pl.Eq.atP_some, Pl.Eq.x_tup_, Pl.Eq.x_lst_, Pl.Eq.x_ro_, Pl.Eq.seq_mr, Pl.Eq.lst_mr, Pl.Eq.dic_mr, Pl.Eq.tru_mr, Pl.Eq.it_mr, Pl.Eq.si_mr, Pl.Eq.x_mr, Pl.Eq.set_mr, Pl.Eq.len_mr, Pl.Eq.in_mr, Pl.Eq.nin_mr, Pl.Eq.ty_mr, Pl.Eq.mt_app, Pl.Eq.mt_p0, Pl.Eq.mt_p1, Pl.Eq.mt_ex, Pl.Eq.mt_in, Pl.Eq.mt_g1, Pl.Eq.mt_g2, Pl.Eq.oL_seq, Pl.Eq.oL_tru, Pl.Eq.oL_it, Pl.Eq.oL_ix, Pl.Eq.oL_set, Pl.Eq.oL_len, Pl.Eq.oL_in, Pl.Eq.oL_tyA, Pl.Eq.oL_tyI, Pl.Eq.oL_tyP, Pl.Eq.oL_tyQ, Pl.Eq.oL_tyE, Pl.Eq.oL_tyN, Pl.Eq.oL_app, Pl.Eq.oL_p0, Pl.Eq.oL_p1, Pl.Eq.oL_ex, Pl.Eq.oL_ins, Pl.Eq.oD_dic, Pl.Eq.oL_dic, Pl.Eq.oD_it, Pl.Eq.oD_ix, Pl.Eq.oD_set, Pl.Eq.oD_len, Pl.Eq.oD_in, Pl.Eq.oD_tyG, Pl.Eq.oD_tyH, Pl.Eq.oD_g1, Pl.Eq.oD_g2, Pl.Eq.fx_get, Pl.Eq.fx_get0, Pl.Eq.fx_set, Pl.Eq.fx_set0, Pl.Eq.fx_getS, Pl.Eq.fx_getS0, Pl.Eq.fx_setS, Pl.Eq.fx_setS0, Pl.Eq.at_nat, Pl.Eq.at_0, Pl.Eq.at_1, Pl.Eq.at_2, Pl.Eq.at_3, Pl.Eq.at_4, Pl.Eq.at_last, Pl.Eq.sz, Pl.Eq.ixN_0, Pl.Eq.ixN_1, Pl.Eq.ixN_2, Pl.Eq.ixN_3, Pl.Eq.ixN_4, List.getElem?_cons_zero, List.getElem?_cons_succ, List.set_cons_zero, List.set_cons_succ, Option.some.injEq, exists_eq_left, exists_eq_left', U.int.injEq, U.bl.injEq, U.tup.injEq, U.lst.injEq, Int.zero_add, Nat.reduceLeDiff, List.cons_append, List.nil_append, false_and, exists_false, exists_const, false_or, or_false, Pl.T.own, Pl.Ts.own, Pl.Ts.len, wipeU, Pl.Eq.eqI, Pl.Eq.eqB, beq_self_eq_true, Bool.not_true, Bool.not_false, Bool.false_eq_true, Bool.true_eq_false, reduceCtorEq, decide_true, decide_false, List.length_cons, List.length_nil, Nat.zero_add, Nat.reduceAdd, Nat.reduceLT, if_true, if_false, reduceIte, true_and, and_true, List.set_set, List.append_assoc, List.length_append, List.length_set, Nat.add_zero, List.append_nil, $as,*]))
local macro_rules | `(tactic| dsimp! [$as,*]) => `(tactic| (try simp only [Pl.Eq.e_cst, Pl.Eq.b_cst, Pl.Eq.e_var, Pl.Eq.b_var, Pl.Eq.e_bin, Pl.Eq.b_bin, Pl.Eq.e_neg, Pl.Eq.e_not, Pl.Eq.b_not, Pl.Eq.e_bop, Pl.Eq.b_bop, Pl.Eq.e_cmp, Pl.Eq.b_cmp, Pl.Eq.e_cmp2, Pl.Eq.b_cmp2, Pl.Eq.e_ife, Pl.Eq.b_ife, Pl.Eq.e_call, Pl.Eq.b_call, Pl.Eq.e_bi, Pl.Eq.b_bi, Pl.Eq.e_isi, Pl.Eq.b_isi, Pl.Eq.e_mth, Pl.Eq.e_ix, Pl.Eq.b_ix, Pl.Eq.e_sl, Pl.Eq.e_tup, Pl.Eq.e_lst, Pl.Eq.e_lc, Pl.Eq.e_lc2, Pl.Eq.e_lrg, Pl.Eq.e_dic, Pl.Eq.es_nil, Pl.Eq.es_cons, Pl.Eq.o_none, Pl.Eq.o_some, Pl.Eq.bb_nil, Pl.Eq.bb_cons, Pl.Eq.bo_one, Pl.Eq.bo_cons, Pl.Eq.f_nil, Pl.Eq.f_cons, Pl.Eq.i_val, Pl.Eq.i_rng1, Pl.Eq.i_rng2, Pl.Eq.i_rng3, Pl.Eq.i_enum, Pl.Eq.t_nm, Pl.Eq.t_tp, Pl.Eq.ts_nil, Pl.Eq.ts_cons, Pl.Eq.t_sub, Pl.Eq.s_expr, Pl.Eq.s_asg, Pl.Eq.s_par, Pl.Eq.s_aug, Pl.Eq.s_ret, Pl.Eq.s_retN, Pl.Eq.s_ifs, Pl.Eq.s_fr, Pl.Eq.s_brk, Pl.Eq.s_cnt, Pl.Eq.s_pass, Pl.Eq.ss_nil, Pl.Eq.p_addI, Pl.Eq.p_addT, Pl.Eq.p_subI, Pl.Eq.p_mulI, Pl.Eq.p_fdivI, Pl.Eq.p_modI, Pl.Eq.p_powI, Pl.Eq.p_lt, Pl.Eq.p_le, Pl.Eq.p_gt, Pl.Eq.p_ge, Pl.Eq.p_eq, Pl.Eq.p_ne, Pl.Eq.p_isN, Pl.Eq.p_notN, Pl.Eq.p_isB, Pl.Eq.p_notB, Pl.Eq.t_bl, Pl.Eq.t_int, Pl.Eq.t_tup, Pl.Eq.t_lst, Pl.Eq.mk_t, Pl.Eq.mk_f, Pl.Eq.i_non_tup, Pl.Eq.i_non_lst, Pl.Eq.i_non_int, Pl.Eq.i_non_bl, Pl.Eq.i_non_str, Pl.Eq.i_non_dic, Pl.Eq.i_bl_tup, Pl.Eq.i_bl_lst, Pl.Eq.i_bl_int, Pl.Eq.i_bl_bl, Pl.Eq.i_bl_str, Pl.Eq.i_bl_dic, Pl.Eq.i_int_tup, Pl.Eq.i_int_lst, Pl.Eq.i_int_int, Pl.Eq.i_int_bl, Pl.Eq.i_int_str, Pl.Eq.i_int_dic, Pl.Eq.i_str_tup, Pl.Eq.i_str_lst, Pl.Eq.i_str_int, Pl.Eq.i_str_bl, Pl.Eq.i_str_str, Pl.Eq.i_str_dic, Pl.Eq.i_tup_tup, Pl.Eq.i_tup_lst, Pl.Eq.i_tup_int, Pl.Eq.i_tup_bl, Pl.Eq.i_tup_str, Pl.Eq.i_tup_dic, Pl.Eq.i_lst_tup, Pl.Eq.i_lst_lst, Pl.Eq.i_lst_int, Pl.Eq.i_lst_bl, Pl.Eq.i_lst_str, Pl.Eq.i_lst_dic, Pl.Eq.n_non, Pl.Eq.n_bl, Pl.Eq.n_int, Pl.Eq.n_str, Pl.Eq.n_tup, Pl.Eq.n_lst, Pl.Eq.p_slT, Pl.Eq.p_lenT, Pl.Eq.p_lenL, Pl.Eq.p_lenR, Pl.Eq.p_intI, Pl.Eq.p_tuple, Pl.Eq.p_list, Pl.Eq.p_sorted, Pl.Eq.p_max1, Pl.Eq.p_min1, Pl.Eq.p_min, Pl.Eq.p_intB, Pl.Eq.p_mulT, Pl.Eq.p_addLL, Pl.Eq.p_slL, Pl.Eq.it_tup, Pl.Eq.it_lst, Pl.Eq.it_ro, Pl.Eq.si_lst, Pl.Eq.p_all, Pl.Eq.p_any, Pl.Eq.p_max, Pl.Eq.q_tup, Pl.Eq.q_lst, Pl.Eq.q_ro, Pl.Eq.l_lst, Pl.Eq.src_tup, Pl.Eq.src_lst, Pl.Eq.src_ro, Pl.Eq.src_mr, Pl.Eq.atP_some, Pl.Eq.x_tup_, Pl.Eq.x_lst_, Pl.Eq.x_ro_, Pl.Eq.seq_mr, Pl.Eq.lst_mr, Pl.Eq.dic_mr, Pl.Eq.tru_mr, Pl.Eq.it_mr, Pl.Eq.si_mr, Pl.Eq.x_mr, Pl.Eq.set_mr, Pl.Eq.len_mr, Pl.Eq.in_mr, Pl.Eq.nin_mr, Pl.Eq.ty_mr, Pl.Eq.mt_app, Pl.Eq.mt_p0, Pl.Eq.mt_p1, Pl.Eq.mt_ex, Pl.Eq.mt_in, Pl.Eq.mt_g1, Pl.Eq.mt_g2, Pl.Eq.oL_seq, Pl.Eq.oL_tru, Pl.Eq.oL_it, Pl.Eq.oL_ix, Pl.Eq.oL_set, Pl.Eq.oL_len, Pl.Eq.oL_in, Pl.Eq.oL_tyA, Pl.Eq.oL_tyI, Pl.Eq.oL_tyP, Pl.Eq.oL_tyQ, Pl.Eq.oL_tyE, Pl.Eq.oL_tyN, Pl.Eq.oL_app, Pl.Eq.oL_p0, Pl.Eq.oL_p1, Pl.Eq.oL_ex, Pl.Eq.oL_ins, Pl.Eq.oD_dic, Pl.Eq.oL_dic, Pl.Eq.oD_it, Pl.Eq.oD_ix, Pl.Eq.oD_set, Pl.Eq.oD_len, Pl.Eq.oD_in, Pl.Eq.oD_tyG, Pl.Eq.oD_tyH, Pl.Eq.oD_g1, Pl.Eq.oD_g2, Pl.Eq.fx_get, Pl.Eq.fx_get0, Pl.Eq.fx_set, Pl.Eq.fx_set0, Pl.Eq.fx_getS, Pl.Eq.fx_getS0, Pl.Eq.fx_setS, Pl.Eq.fx_setS0, Pl.Eq.at_nat, Pl.Eq.at_0, Pl.Eq.at_1, Pl.Eq.at_2, Pl.Eq.at_3, Pl.Eq.at_4, Pl.Eq.at_last, Pl.Eq.sz, Pl.Eq.ixN_0, Pl.Eq.ixN_1, Pl.Eq.ixN_2, Pl.Eq.ixN_3, Pl.Eq.ixN_4, List.getElem?_cons_zero, List.getElem?_cons_succ, List.set_cons_zero, List.set_cons_succ, Option.some.injEq, exists_eq_left, exists_eq_left', U.int.injEq, U.bl.injEq, U.tup.injEq, U.lst.injEq, Int.zero_add, Nat.reduceLeDiff, List.cons_append, List.nil_append, false_and, exists_false, exists_const, false_or, or_false, Pl.T.own, Pl.Ts.own, Pl.Ts.len, wipeU, Pl.Eq.eqI, Pl.Eq.eqB, beq_self_eq_true, Bool.not_true, Bool.not_false, Bool.false_eq_true, Bool.true_eq_false, reduceCtorEq, decide_true, decide_false, List.length_cons, List.length_nil, Nat.zero_add, Nat.reduceAdd, Nat.reduceLT, if_true, if_false, reduceIte, true_and, and_true, List.set_set, List.append_assoc, List.length_append, List.length_set, Nat.add_zero, List.append_nil, $as,*]))
section
variable {tbl : Str → Option Fn} {n : Nat} {h : Hu} {Q : QE} {E : Ex → Hu → Prop}
theorem c_leaf {a b : U} (f_alike : tbl "alike" = some ⟨2, 3, m_alike⟩) (ha : leaf a) (hb : leaf b) (q : Q (.bl (leafEq a b)) h) : callN tbl (n + 1) "alike" [a, b] h Q E := by
  refine call_in f_alike rfl (g := [some a, some b, none]) rfl ?_
  unfold m_alike
  have pe : ∀ (x y : U) (R : QE), leaf x → leaf y → R (.bl (PyData.eqv (dat x) (dat y))) h → eqR false x y h R := fun x y R px py r => by
    rw [eqP (x := x) (y := y) (by cases x <;> first | exact px | trivial | exact px.elim) (by cases y <;> first | exact py | trivial | exact py.elim)]
    exact r
  cases a with
  | bl i =>
    cases b with
    | bl j =>
      simp_all! []
      simp_all! []
      exact .inl q
    | int j =>
      simp_all! []
      simp_all! []
      exact .inl q
    | str j =>
      simp_all! []
      simp_all! []
      exact .inl q
    | _ => exact hb.elim
  | int i =>
    cases b with
    | bl j =>
      simp_all! []
      simp_all! []
      exact .inl q
    | int j =>
      simp_all! []
      simp_all! []
      exact .inl q
    | str j =>
      simp_all! []
      simp_all! []
      exact pe _ _ _ ha hb (.inl (by simpa [dat, PyData.eqv, leafEq] using q))
    | _ => exact hb.elim
  | str i =>
    cases b with
    | bl j =>
      simp_all! []
      simp_all! []
      exact .inl q
    | int j =>
      simp_all! []
      simp_all! []
      exact pe _ _ _ ha hb (.inl (by simpa [dat, PyData.eqv, leafEq] using q))
    | str j =>
      simp_all! []
      simp_all! []
      exact pe _ _ _ ha hb (.inl (by simpa [dat, PyData.eqv, leafEq] using q))
    | _ => exact hb.elim
  | _ => exact ha.elim
theorem c_alike {xs ys : List U} (f_alike : tbl "alike" = some ⟨2, 3, m_alike⟩) (hx : ∀ x ∈ xs, leaf x) (hy : ∀ y ∈ ys, leaf y) (l : xs.length ≤ 1000) (q : Q (.bl (rowEq xs ys)) h) : callN tbl (n + 2) "alike" [.tup xs, .tup ys] h Q E := by
  refine call_in f_alike rfl (g := [some (.tup xs), some (.tup ys), none]) rfl ?_
  unfold m_alike
  simp_all! []
  simp_all! []
  by_cases e : xs.length = ys.length
  · have e' : ((xs.length : Int) == (ys.length : Int)) = true := by simp [e]
    rw [e']
    dsimp! []
    refine ⟨⟨by omega, by omega⟩, by simp [rngU]; exact Nat.le_trans (by omega) (show 1000 ≤ sizeLine by decide), ?_⟩
    refine lcRng (fun i acc h' => h' = h ∧ acc = ((List.zipWith leafEq xs ys).take i).map .bl) ⟨rfl, rfl⟩ ?_ ?_
    · rintro i _ _ hi ⟨rfl, rfl⟩ k hk _
      have hi' : i < xs.length := by simpa [← e] using hi
      have hj : i < ys.length := by omega
      have e1 : xs[i]? = some xs[i] := List.getElem?_eq_getElem hi'
      have e2 : ys[i]? = some ys[i] := List.getElem?_eq_getElem hj
      dsimp! [Int.zero_add, e1, e2]
      refine c_leaf f_alike (hx _ (List.getElem_mem hi')) (hy _ (List.getElem_mem hj)) (hk _ _ ⟨rfl, ?_⟩)
      have hz : i < (List.zipWith leafEq xs ys).length := by simp; omega
      rw [List.take_succ_eq_append_getElem hz]
      simp
    · rintro _ _ ⟨rfl, rfl⟩
      dsimp! [bools_map]
      refine .inl ?_
      rw [List.take_of_length_le (by simp; omega)]
      rw [show rowEq xs ys = (List.zipWith leafEq xs ys).all id by unfold rowEq; simp [e]] at q
      exact q
  · have e' : ((xs.length : Int) == (ys.length : Int)) = false := by simp; omega
    rw [e']
    dsimp! []
    rw [show rowEq xs ys = false by unfold rowEq; simp [e]] at q
    exact .inl q

theorem l_leaf (f_same : tbl "_law_same" = some ⟨2, 3, t_same⟩) {a b : U} (ha : leaf a) (hb : leaf b) (q : Q (.bl (leafEq a b)) h) : callN tbl (n + 1) "_law_same" [a, b] h Q E := by
  refine call_in f_same rfl (g := [some a, some b, none]) rfl ?_
  unfold t_same
  cases a with
  | bl i =>
    cases b with
    | bl j =>
      simp_all! []
      simp_all! []
      simp_all! []
      exact .inl q
    | int j =>
      simp_all! []
      simp_all! []
      simp_all! []
      exact .inl q
    | str j =>
      simp_all! []
      simp_all! []
      simp_all! []
      exact .inl q
    | _ => exact hb.elim
  | int i =>
    cases b with
    | bl j =>
      simp_all! []
      simp_all! []
      simp_all! []
      exact .inl q
    | int j =>
      simp_all! []
      simp_all! []
      simp_all! []
      simp_all! []
      exact .inl q
    | str j =>
      simp_all! []
      simp_all! []
      simp_all! []
      simp_all! []
      exact .inl q
    | _ => exact hb.elim
  | str i =>
    cases b with
    | bl j =>
      simp_all! []
      simp_all! []
      simp_all! []
      exact .inl q
    | int j =>
      simp_all! []
      simp_all! []
      simp_all! []
      simp_all! []
      exact .inl q
    | str j =>
      simp_all! []
      simp_all! []
      simp_all! []
      simp_all! [Pl.Eq.eqS ha hb]
      exact .inl q
    | _ => exact hb.elim
  | _ => exact ha.elim
theorem l_row (f_same : tbl "_law_same" = some ⟨2, 3, t_same⟩) {xs ys : List U} (hx : ∀ x ∈ xs, leaf x) (hy : ∀ y ∈ ys, leaf y) (l : xs.length ≤ 1000) (q : Q (.bl (rowEq xs ys)) h) : callN tbl (n + 2) "_law_same" [.tup xs, .tup ys] h Q E := by
  refine call_in f_same rfl (g := [some (.tup xs), some (.tup ys), none]) rfl ?_
  unfold t_same
  simp_all! []
  simp_all! []
  by_cases e : xs.length = ys.length
  · have e' : ((xs.length : Int) == (ys.length : Int)) = true := by simp [e]
    simp only [e', Bool.not_true, Bool.false_eq_true, if_false, Pl.Eq.ss_nil]
    simp_all! []
    refine ⟨⟨by omega, by omega⟩, ?_⟩
    refine frRng (fun i g h' => h' = h ∧ (∃ c, g = [some (.tup xs), some (.tup ys), c]) ∧ ((List.zipWith leafEq xs ys).take i).all id = true) ⟨rfl, ⟨_, rfl⟩, rfl⟩ ?_ ?_
    · rintro i _ _ hi ⟨rfl, ⟨c, rfl⟩, ac⟩ kk hkk
      have hi' : i < xs.length := by simpa using hi
      have hj : i < ys.length := by omega
      have e1 : xs[i]? = some xs[i] := List.getElem?_eq_getElem hi'
      have e2 : ys[i]? = some ys[i] := List.getElem?_eq_getElem hj
      simp_all! [Int.zero_add, e1, e2]
      refine l_leaf f_same (hx _ (List.getElem_mem hi')) (hy _ (List.getElem_mem hj)) ?_
      dsimp! []
      have hz : i < (List.zipWith leafEq xs ys).length := by simp; omega
      have ez : (List.zipWith leafEq xs ys)[i] = leafEq xs[i] ys[i] := by simp
      cases c : leafEq xs[i] ys[i] with
      | true =>
        refine hkk _ _ ⟨rfl, ⟨_, rfl⟩, ?_⟩
        rw [List.take_succ_eq_append_getElem hz, ez, c]
        simpa using ac
      | false =>
        have : rowEq xs ys = false := by
          unfold rowEq
          have : (List.zipWith leafEq xs ys).all id = false := by
            rw [← Bool.not_eq_true, List.all_eq_true]
            intro al
            have := al _ (List.getElem_mem hz)
            rw [ez, c] at this
            cases this
          rw [this]; simp
        rw [this] at q
        simp_all! []
        exact .inl q
    · rintro _ _ ⟨rfl, ⟨c, rfl⟩, ac⟩
      rw [List.take_of_length_le (by simp; omega)] at ac
      rw [show rowEq xs ys = true by unfold rowEq; simp [e]; simpa using ac] at q
      simp_all! []
      exact .inl q
  · have e' : ((xs.length : Int) == (ys.length : Int)) = false := by simp; omega
    simp only [e', Bool.not_false, if_true]
    rw [show rowEq xs ys = false by unfold rowEq; simp [e]] at q
    simp_all! []
    exact .inl q
/-! places -/
def OutOk (u : U) : Prop := ∃ xs, u = .tup xs ∧ xs.length ≤ 1000 ∧ ∀ x ∈ xs, leaf x
def uEq : U → U → Bool
  | .tup xs, .tup ys => rowEq xs ys
  | _, _ => false
def difP : Pc → Pc → Bool
  | none, none => false
  | some (u, _), some (v, _) => !uEq u v
  | _, _ => true
def POut (p : Pc) : Prop := ∀ u k, p = some (u, k) → OutOk u
theorem c_differ (f_alike : tbl "alike" = some ⟨2, 3, m_alike⟩) (f_differ : tbl "differ" = some ⟨2, 2, m_differ⟩) {p p' : Pc} (hp : POut p) (hp' : POut p') (q : Q (.bl (difP p p')) h) : callN tbl (n + 3) "differ" [encP p, encP p'] h Q E := by
  refine call_in f_differ rfl (g := [some (encP p), some (encP p')]) rfl ?_
  unfold m_differ
  cases p with
  | none =>
    cases p' with
    | none =>
      simp_all! [encP]
      simp_all! [encP]
      exact .inl q
    | some p' =>
      simp_all! [encP]
      simp_all! [encP]
      exact .inl q
  | some p =>
    cases p' with
    | none =>
      simp_all! [encP]
      simp_all! [encP]
      exact .inl q
    | some p' =>
      obtain ⟨u, k⟩ := p
      obtain ⟨v, k'⟩ := p'
      obtain ⟨xs, rfl, lx, hx⟩ := hp _ _ rfl
      obtain ⟨ys, rfl, ly, hy⟩ := hp' _ _ rfl
      simp_all! [encP]
      simp_all! [encP]
      refine c_alike f_alike hx hy lx ?_
      dsimp! []
      exact .inl q
theorem l_differ (f_same : tbl "_law_same" = some ⟨2, 3, t_same⟩) (f_differ : tbl "_law_differ" = some ⟨2, 2, m_law_differ⟩) {p p' : Pc} (hp : POut p) (hp' : POut p') (q : Q (.bl (difP p p')) h) : callN tbl (n + 3) "_law_differ" [encP p, encP p'] h Q E := by
  refine call_in f_differ rfl (g := [some (encP p), some (encP p')]) rfl ?_
  unfold m_law_differ
  cases p with
  | none =>
    cases p' with
    | none =>
      simp_all! [encP]
      simp_all! [encP]
      exact .inl q
    | some p' =>
      simp_all! [encP]
      simp_all! [encP]
      exact .inl q
  | some p =>
    cases p' with
    | none =>
      simp_all! [encP]
      simp_all! [encP]
      exact .inl q
    | some p' =>
      obtain ⟨u, k⟩ := p
      obtain ⟨v, k'⟩ := p'
      obtain ⟨xs, rfl, lx, hx⟩ := hp _ _ rfl
      obtain ⟨ys, rfl, ly, hy⟩ := hp' _ _ rfl
      simp_all! [encP]
      simp_all! [encP]
      refine l_row f_same hx hy lx ?_
      dsimp! []
      exact .inl q
end
end Pl.Ma
set_option Elab.async false
set_option linter.all false
set_option maxRecDepth 100000
set_option autoImplicit false
/-! renumbering. -/
namespace Pl.Ma
open PySem Pl L2 Pl.Eq Pl.Tp
local macro_rules | `(tactic| simp_all! [$as,*]) => `(tactic| ((try dsimp only); rw [Pl.Eq.ss_cons]; simp only [Pl.Eq.e_cst, Pl.Eq.b_cst, Pl.Eq.e_var, Pl.Eq.b_var, Pl.Eq.e_bin, Pl.Eq.b_bin, Pl.Eq.e_neg, Pl.Eq.e_not, Pl.Eq.b_not, Pl.Eq.e_bop, Pl.Eq.b_bop, Pl.Eq.e_cmp, Pl.Eq.b_cmp, Pl.Eq.e_cmp2, Pl.Eq.b_cmp2, Pl.Eq.e_ife, Pl.Eq.b_ife, Pl.Eq.e_call, Pl.Eq.b_call, Pl.Eq.e_bi, Pl.Eq.b_bi, Pl.Eq.e_isi, Pl.Eq.b_isi, Pl.Eq.e_mth, Pl.Eq.e_ix, Pl.Eq.b_ix, Pl.Eq.e_sl, Pl.Eq.e_tup, Pl.Eq.e_lst, Pl.Eq.e_lc, Pl.Eq.e_lc2, Pl.Eq.e_lrg, Pl.Eq.e_dic, Pl.Eq.es_nil, Pl.Eq.es_cons, Pl.Eq.o_none, Pl.Eq.o_some, Pl.Eq.bb_nil, Pl.Eq.bb_cons, Pl.Eq.bo_one, Pl.Eq.bo_cons, Pl.Eq.f_nil, Pl.Eq.f_cons, Pl.Eq.i_val, Pl.Eq.i_rng1, Pl.Eq.i_rng2, Pl.Eq.i_rng3, Pl.Eq.i_enum, Pl.Eq.t_nm, Pl.Eq.t_tp, Pl.Eq.ts_nil, Pl.Eq.ts_cons, Pl.Eq.t_sub, Pl.Eq.s_expr, Pl.Eq.s_asg, Pl.Eq.s_par, Pl.Eq.s_aug, Pl.Eq.s_ret, Pl.Eq.s_retN, Pl.Eq.s_ifs, Pl.Eq.s_fr, Pl.Eq.s_brk, Pl.Eq.s_cnt, Pl.Eq.s_pass, Pl.Eq.ss_nil, Pl.Eq.p_addI, Pl.Eq.p_addT, Pl.Eq.p_subI, Pl.Eq.p_mulI, Pl.Eq.p_fdivI, Pl.Eq.p_modI, Pl.Eq.p_powI, Pl.Eq.p_lt, Pl.Eq.p_le, Pl.Eq.p_gt, Pl.Eq.p_ge, Pl.Eq.p_eq, Pl.Eq.p_ne, Pl.Eq.p_isN, Pl.Eq.p_notN, Pl.Eq.p_isB, Pl.Eq.p_notB, Pl.Eq.t_bl, Pl.Eq.t_int, Pl.Eq.t_tup, Pl.Eq.t_lst, Pl.Eq.mk_t, Pl.Eq.mk_f, Pl.Eq.i_non_tup, Pl.Eq.i_non_lst, Pl.Eq.i_non_int, Pl.Eq.i_non_bl, Pl.Eq.i_non_str, Pl.Eq.i_non_dic, Pl.Eq.i_bl_tup, Pl.Eq.i_bl_lst, Pl.Eq.i_bl_int, Pl.Eq.i_bl_bl, Pl.Eq.i_bl_str, Pl.Eq.i_bl_dic, Pl.Eq.i_int_tup, Pl.Eq.i_int_lst, Pl.Eq.i_int_int, Pl.Eq.i_int_bl, Pl.Eq.i_int_str, Pl.Eq.i_int_dic, Pl.Eq.i_str_tup, Pl.Eq.i_str_lst, Pl.Eq.i_str_int, Pl.Eq.i_str_bl, Pl.Eq.i_str_str, Pl.Eq.i_str_dic, Pl.Eq.i_tup_tup, Pl.Eq.i_tup_lst, Pl.Eq.i_tup_int, Pl.Eq.i_tup_bl, Pl.Eq.i_tup_str, Pl.Eq.i_tup_dic, Pl.Eq.i_lst_tup, Pl.Eq.i_lst_lst, Pl.Eq.i_lst_int, Pl.Eq.i_lst_bl, Pl.Eq.i_lst_str, Pl.Eq.i_lst_dic, Pl.Eq.n_non, Pl.Eq.n_bl, Pl.Eq.n_int, Pl.Eq.n_str, Pl.Eq.n_tup, Pl.Eq.n_lst, Pl.Eq.p_slT, Pl.Eq.p_lenT, Pl.Eq.p_lenL, Pl.Eq.p_lenR, Pl.Eq.p_intI, Pl.Eq.p_tuple, Pl.Eq.p_list, Pl.Eq.p_sorted, Pl.Eq.p_max1, Pl.Eq.p_min1, Pl.Eq.p_min, Pl.Eq.p_intB, Pl.Eq.p_mulT, Pl.Eq.p_addLL, Pl.Eq.p_slL, Pl.Eq.it_tup, Pl.Eq.it_lst, Pl.Eq.it_ro, Pl.Eq.si_lst, Pl.Eq.p_all, Pl.Eq.p_any, Pl.Eq.p_max, Pl.Eq.q_tup, Pl.Eq.q_lst, Pl.Eq.q_ro, Pl.Eq.l_lst, Pl.Eq.src_tup, Pl.Eq.src_lst, Pl.Eq.src_ro, Pl.Eq.src_mr, Pl.Eq.atP_some, Pl.Eq.x_tup_, Pl.Eq.x_lst_, Pl.Eq.x_ro_, Pl.Eq.seq_mr, Pl.Eq.lst_mr, Pl.Eq.dic_mr, Pl.Eq.tru_mr, Pl.Eq.it_mr, Pl.Eq.si_mr, Pl.Eq.x_mr, Pl.Eq.set_mr, Pl.Eq.len_mr, Pl.Eq.in_mr, Pl.Eq.nin_mr, Pl.Eq.ty_mr, Pl.Eq.mt_app, Pl.Eq.mt_p0, Pl.Eq.mt_p1, Pl.Eq.mt_ex, Pl.Eq.mt_in, Pl.Eq.mt_g1, Pl.Eq.mt_g2, Pl.Eq.oL_seq, Pl.Eq.oL_tru, Pl.Eq.oL_it, Pl.Eq.oL_ix, Pl.Eq.oL_set, Pl.Eq.oL_len, Pl.Eq.oL_in, Pl.Eq.oL_tyA, Pl.Eq.oL_tyI, Pl.Eq.oL_tyP, Pl.Eq.oL_tyQ, Pl.Eq.oL_tyE, Pl.Eq.oL_tyN, Pl.Eq.oL_app, Pl.Eq.oL_p0, Pl.Eq.oL_p1, Pl.Eq.oL_ex, Pl.Eq.oL_ins, Pl.Eq.oD_dic, Pl.Eq.oL_dic, Pl.Eq.oD_it, Pl.Eq.oD_ix, Pl.Eq.oD_set, Pl.Eq.oD_len, Pl.Eq.oD_in, Pl.Eq.oD_tyG, Pl.Eq.oD_tyH, Pl.Eq.oD_g1, Pl.Eq.oD_g2, Pl.Eq.fx_get, Pl.Eq.fx_get0, Pl.Eq.fx_set, Pl.Eq.fx_set0, Pl.Eq.fx_getS, Pl.Eq.fx_getS0, Pl.Eq.fx_setS, Pl.Eq.fx_setS0, Pl.Eq.at_nat, Pl.Eq.at_0, Pl.Eq.at_1, Pl.Eq.at_2, Pl.Eq.at_3, Pl.Eq.at_4, Pl.Eq.at_last, Pl.Eq.sz, Pl.Eq.ixN_0, Pl.Eq.ixN_1, Pl.Eq.ixN_2, Pl.Eq.ixN_3, Pl.Eq.ixN_4, List.getElem?_cons_zero, List.getElem?_cons_succ, List.set_cons_zero, List.set_cons_succ, Option.some.injEq, exists_eq_left, exists_eq_left', U.int.injEq, U.bl.injEq, U.tup.injEq, U.lst.injEq, Int.zero_add, Nat.reduceLeDiff, List.cons_append, List.nil_append, false_and, exists_false, exists_const, false_or, or_false, Pl.T.own, Pl.Ts.own, Pl.Ts.len, wipeU, Pl.Eq.eqI, Pl.Eq.eqB, beq_self_eq_true, Bool.not_true, Bool.not_false, Bool.false_eq_true, Bool.true_eq_false, reduceCtorEq, decide_true, decide_false, List.length_cons, List.length_nil, Nat.zero_add, Nat.reduceAdd, Nat.reduceLT, if_true, if_false, reduceIte, true_and, and_true, List.set_set, List.append_assoc, List.length_append, List.length_set, Nat.add_zero, List.append_nil, $as,*]))
local macro_rules | `(tactic| dsimp! [$as,*]) => `(tactic| (try simp only [Pl.Eq.e_cst, Pl.Eq.b_cst, Pl.Eq.e_var, Pl.Eq.b_var, Pl.Eq.e_bin, Pl.Eq.b_bin, Pl.Eq.e_neg, Pl.Eq.e_not, Pl.Eq.b_not, Pl.Eq.e_bop, Pl.Eq.b_bop, Pl.Eq.e_cmp, Pl.Eq.b_cmp, Pl.Eq.e_cmp2, Pl.Eq.b_cmp2, Pl.Eq.e_ife, Pl.Eq.b_ife, Pl.Eq.e_call, Pl.Eq.b_call, Pl.Eq.e_bi, Pl.Eq.b_bi, Pl.Eq.e_isi, Pl.Eq.b_isi, Pl.Eq.e_mth, Pl.Eq.e_ix, Pl.Eq.b_ix, Pl.Eq.e_sl, Pl.Eq.e_tup, Pl.Eq.e_lst, Pl.Eq.e_lc, Pl.Eq.e_lc2, Pl.Eq.e_lrg, Pl.Eq.e_dic, Pl.Eq.es_nil, Pl.Eq.es_cons, Pl.Eq.o_none, Pl.Eq.o_some, Pl.Eq.bb_nil, Pl.Eq.bb_cons, Pl.Eq.bo_one, Pl.Eq.bo_cons, Pl.Eq.f_nil, Pl.Eq.f_cons, Pl.Eq.i_val, Pl.Eq.i_rng1, Pl.Eq.i_rng2, Pl.Eq.i_rng3, Pl.Eq.i_enum, Pl.Eq.t_nm, Pl.Eq.t_tp, Pl.Eq.ts_nil, Pl.Eq.ts_cons, Pl.Eq.t_sub, Pl.Eq.s_expr, Pl.Eq.s_asg, Pl.Eq.s_par, Pl.Eq.s_aug, Pl.Eq.s_ret, Pl.Eq.s_retN, Pl.Eq.s_ifs, Pl.Eq.s_fr, Pl.Eq.s_brk, Pl.Eq.s_cnt, Pl.Eq.s_pass, Pl.Eq.ss_nil, Pl.Eq.p_addI, Pl.Eq.p_addT, Pl.Eq.p_subI, Pl.Eq.p_mulI, Pl.Eq.p_fdivI, Pl.Eq.p_modI, Pl.Eq.p_powI, Pl.Eq.p_lt, Pl.Eq.p_le, Pl.Eq.p_gt, Pl.Eq.p_ge, Pl.Eq.p_eq, Pl.Eq.p_ne, Pl.Eq.p_isN, Pl.Eq.p_notN, Pl.Eq.p_isB, Pl.Eq.p_notB, Pl.Eq.t_bl, Pl.Eq.t_int, Pl.Eq.t_tup, Pl.Eq.t_lst, Pl.Eq.mk_t, Pl.Eq.mk_f, Pl.Eq.i_non_tup, Pl.Eq.i_non_lst, Pl.Eq.i_non_int, Pl.Eq.i_non_bl, Pl.Eq.i_non_str, Pl.Eq.i_non_dic, Pl.Eq.i_bl_tup, Pl.Eq.i_bl_lst, Pl.Eq.i_bl_int, Pl.Eq.i_bl_bl, Pl.Eq.i_bl_str, Pl.Eq.i_bl_dic, Pl.Eq.i_int_tup, Pl.Eq.i_int_lst, Pl.Eq.i_int_int, Pl.Eq.i_int_bl, Pl.Eq.i_int_str, Pl.Eq.i_int_dic, Pl.Eq.i_str_tup, Pl.Eq.i_str_lst, Pl.Eq.i_str_int, Pl.Eq.i_str_bl, Pl.Eq.i_str_str, Pl.Eq.i_str_dic, Pl.Eq.i_tup_tup, Pl.Eq.i_tup_lst, Pl.Eq.i_tup_int, Pl.Eq.i_tup_bl, Pl.Eq.i_tup_str, Pl.Eq.i_tup_dic, Pl.Eq.i_lst_tup, Pl.Eq.i_lst_lst, Pl.Eq.i_lst_int, Pl.Eq.i_lst_bl, Pl.Eq.i_lst_str, Pl.Eq.i_lst_dic, Pl.Eq.n_non, Pl.Eq.n_bl, Pl.Eq.n_int, Pl.Eq.n_str, Pl.Eq.n_tup, Pl.Eq.n_lst, Pl.Eq.p_slT, Pl.Eq.p_lenT, Pl.Eq.p_lenL, Pl.Eq.p_lenR, Pl.Eq.p_intI, Pl.Eq.p_tuple, Pl.Eq.p_list, Pl.Eq.p_sorted, Pl.Eq.p_max1, Pl.Eq.p_min1, Pl.Eq.p_min, Pl.Eq.p_intB, Pl.Eq.p_mulT, Pl.Eq.p_addLL, Pl.Eq.p_slL, Pl.Eq.it_tup, Pl.Eq.it_lst, Pl.Eq.it_ro, Pl.Eq.si_lst, Pl.Eq.p_all, Pl.Eq.p_any, Pl.Eq.p_max, Pl.Eq.q_tup, Pl.Eq.q_lst, Pl.Eq.q_ro, Pl.Eq.l_lst, Pl.Eq.src_tup, Pl.Eq.src_lst, Pl.Eq.src_ro, Pl.Eq.src_mr, Pl.Eq.atP_some, Pl.Eq.x_tup_, Pl.Eq.x_lst_, Pl.Eq.x_ro_, Pl.Eq.seq_mr, Pl.Eq.lst_mr, Pl.Eq.dic_mr, Pl.Eq.tru_mr, Pl.Eq.it_mr, Pl.Eq.si_mr, Pl.Eq.x_mr, Pl.Eq.set_mr, Pl.Eq.len_mr, Pl.Eq.in_mr, Pl.Eq.nin_mr, Pl.Eq.ty_mr, Pl.Eq.mt_app, Pl.Eq.mt_p0, Pl.Eq.mt_p1, Pl.Eq.mt_ex, Pl.Eq.mt_in, Pl.Eq.mt_g1, Pl.Eq.mt_g2, Pl.Eq.oL_seq, Pl.Eq.oL_tru, Pl.Eq.oL_it, Pl.Eq.oL_ix, Pl.Eq.oL_set, Pl.Eq.oL_len, Pl.Eq.oL_in, Pl.Eq.oL_tyA, Pl.Eq.oL_tyI, Pl.Eq.oL_tyP, Pl.Eq.oL_tyQ, Pl.Eq.oL_tyE, Pl.Eq.oL_tyN, Pl.Eq.oL_app, Pl.Eq.oL_p0, Pl.Eq.oL_p1, Pl.Eq.oL_ex, Pl.Eq.oL_ins, Pl.Eq.oD_dic, Pl.Eq.oL_dic, Pl.Eq.oD_it, Pl.Eq.oD_ix, Pl.Eq.oD_set, Pl.Eq.oD_len, Pl.Eq.oD_in, Pl.Eq.oD_tyG, Pl.Eq.oD_tyH, Pl.Eq.oD_g1, Pl.Eq.oD_g2, Pl.Eq.fx_get, Pl.Eq.fx_get0, Pl.Eq.fx_set, Pl.Eq.fx_set0, Pl.Eq.fx_getS, Pl.Eq.fx_getS0, Pl.Eq.fx_setS, Pl.Eq.fx_setS0, Pl.Eq.at_nat, Pl.Eq.at_0, Pl.Eq.at_1, Pl.Eq.at_2, Pl.Eq.at_3, Pl.Eq.at_4, Pl.Eq.at_last, Pl.Eq.sz, Pl.Eq.ixN_0, Pl.Eq.ixN_1, Pl.Eq.ixN_2, Pl.Eq.ixN_3, Pl.Eq.ixN_4, List.getElem?_cons_zero, List.getElem?_cons_succ, List.set_cons_zero, List.set_cons_succ, Option.some.injEq, exists_eq_left, exists_eq_left', U.int.injEq, U.bl.injEq, U.tup.injEq, U.lst.injEq, Int.zero_add, Nat.reduceLeDiff, List.cons_append, List.nil_append, false_and, exists_false, exists_const, false_or, or_false, Pl.T.own, Pl.Ts.own, Pl.Ts.len, wipeU, Pl.Eq.eqI, Pl.Eq.eqB, beq_self_eq_true, Bool.not_true, Bool.not_false, Bool.false_eq_true, Bool.true_eq_false, reduceCtorEq, decide_true, decide_false, List.length_cons, List.length_nil, Nat.zero_add, Nat.reduceAdd, Nat.reduceLT, if_true, if_false, reduceIte, true_and, and_true, List.set_set, List.append_assoc, List.length_append, List.length_set, Nat.add_zero, List.append_nil, $as,*]))
/-- a table as a value: its length, its rows -/
structure TabV (h : Hu) (tv : U) (t : Tb) : Prop where
  tl : ∀ (os : List O) (m : Bool) (R : QE), biR .len m [tv] (h ++ os) R = R (.int t.length) (h ++ os)
  tx : ∀ (os : List O) (i : Int) (R : QE), ixR tv (.int i) (h ++ os) R = atP (atI (t.map encL) i) fun v => R v (h ++ os)
theorem tabV_tup {h : Hu} {t : Tb} : TabV h (encT t) t := ⟨fun h' m R => by unfold encT; rw [Pl.Eq.p_lenT, List.length_map], fun h' i R => Pl.Eq.x_tup_⟩
theorem tabV_lst {h : Hu} {t : Tb} : TabV h (.lst (t.map encL)) t := ⟨fun h' m R => by rw [Pl.Eq.p_lenL, List.length_map], fun h' i R => Pl.Eq.x_lst_⟩
theorem tabV_mr {h : Hu} {t : Tb} {a : Nat} (z : h[a]? = some (.lst (t.map encL))) : TabV h (.mr a) t :=
  ⟨fun os m R => by rw [Pl.Eq.len_mr, fx_out (get_lt z), z, Pl.Eq.oL_len, List.length_map], fun os i R => by rw [Pl.Eq.x_mr, fx_out (get_lt z), z, Pl.Eq.oL_ix]⟩
section
variable {tbl : Str → Option Fn} {n : Nat} {h : Hu} {Q : QE} {E : Ex → Hu → Prop}
theorem c_numb (f_numb : tbl "_law_numbered" = some ⟨2, 7, m_law_numbered⟩) {rs : U} {tv : U} {t : Tb} {w : Nat} (T : TabV h tv t) (wf : Wf w t) (hw : w ≤ 1000) (pr : pd 60 rs) (po : ∀ l ∈ t, ∀ u k, some (u, k) ∈ l → pd 50 u)
    (q : Q (.tup [rs, encT (numb t)]) h) : callN tbl (n + 1) "_law_numbered" [rs, tv] h Q E := by
  refine call_in f_numb rfl (g := [some rs, some tv, none, none, none, none, none]) rfl ?_
  unfold m_law_numbered
  have hs : 100000 ≤ sizeLine := by decide
  have w1 := wf.s
  have t0 : 0 < t.length := List.length_pos_iff.mpr wf.ne
  simp_all! []
  simp_all! []
  simp_all! [T.tl]
  refine ⟨⟨by omega, by omega⟩, ?_⟩
  obtain ⟨R, hR⟩ : ∃ R, numGo t t.length 0 [0] [] = R := ⟨_, rfl⟩
  refine frRng (fun i g h' => ∃ (f : Nat) (ord : List Nat) (ls : Tb) (a b c : Option U) (jk : List O), f + i = t.length ∧ h' = h ++ (.lst (ordU ord) :: .lst (ls.map encL) :: jk) ∧
      g = [some rs, some tv, some (.mr h.length), some (.mr (h.length + 1)), a, b, c] ∧ ord.Nodup ∧ (∀ k ∈ ord, k < t.length) ∧ ls.length ≤ i ∧ numGo t f i ord ls = R)
    ⟨t.length, [0], [], none, none, none, [], by omega, rfl, rfl, by simp, by simpa using t0, by simp, hR⟩ ?_ ?_
  · rintro i _ _ hi ⟨f, ord, ls, a, b, c, jk, ef, rfl, rfl, nd, ob, lb, er⟩ k hk
    obtain ⟨f, rfl⟩ : ∃ f', f = f' + 1 := ⟨f - 1, by omega⟩
    have ol := nodup_le nd ob
    unfold numGo at er
    simp_all! []
    by_cases c1 : i < ord.length
    · have eo : ord[i]? = some ord[i] := List.getElem?_eq_getElem c1
      have c2 : ((i : Int) < ((ordU ord).length : Int)) := by unfold ordU; rw [List.length_map]; omega
      rw [eo] at er
      have cs : ord[i] < t.length := ob _ (List.getElem_mem c1)
      have es : t[ord[i]]? = some t[ord[i]] := List.getElem?_eq_getElem cs
      have eg : t.getD ord[i] [] = t[ord[i]] := by simp [List.getD, es]
      simp only [eg] at er
      generalize hsg : ord[i] = s at *
      generalize hlg : t[s] = l at *
      have lm : l ∈ t := by rw [← hlg]; exact List.getElem_mem _
      have emp : (t.map encL)[s]? = some (encL l) := by rw [List.getElem?_map, es]; rfl
      simp only [c2, decide_true, if_true]
      simp_all! []
      simp_all! [ordU_get eo, T.tx, emp, encL]
      have lw := wf.len l lm
      refine frMap (fun r g h' => ∃ (ord' : List Nat) (ln : List Pc) (a : Option U), h' = h ++ (.lst (ordU ord') :: .lst (ls.map encL) :: (jk ++ [.lst (ln.map encP)])) ∧
          g = [some rs, some tv, some (.mr h.length), some (.mr (h.length + 1)), some (.int i), some (.mr (h.length + (jk.length + 1 + 1))), a] ∧ ord'.Nodup ∧ (∀ k ∈ ord', k < t.length) ∧ ln.length + r.length = l.length ∧ (∀ p ∈ r, p ∈ l) ∧
          (lineGo ord' r).1 = (lineGo ord l).1 ∧ ln ++ (lineGo ord' r).2 = (lineGo ord l).2) ?_ ?_ ⟨ord, [], c, rfl, rfl, nd, ob, by simp, fun p m => m, rfl, rfl⟩
      · rintro p r _ _ ⟨ord', ln, a', rfl, rfl, nd', ob', lc, pm, e1, e2⟩ k2 hk2
        have pml := pm p List.mem_cons_self
        have ol' := nodup_le nd' ob'
        rw [List.length_cons] at lc
        cases p with
        | none =>
          simp_all! [encP]
          simp_all! [encP]
          refine ⟨by rw [List.length_map]; omega, ?_⟩
          refine hk2 _ _ ⟨ord', ln ++ [none], _, by simp [encP], rfl, nd', ob', by simp; omega, fun p m => pm p (List.mem_cons_of_mem _ m), ?_, ?_⟩
          · simpa [lineGo, stepOrd] using e1
          · rw [List.append_assoc]; simpa [lineGo, stepOrd, newP] using e2
        | some p =>
          obtain ⟨u, kk⟩ := p
          have kb := (wf.pl l lm u kk pml).2
          have z1 : ∀ os : List O, (h ++ .lst (ordU ord') :: os)[h.length]? = some (.lst (ordU ord')) := fun os => fx_get0
          refine cutSs (fun g h' => h' = h ++ (.lst (ordU (stepOrd ord' (some (u, kk)))) :: .lst (ls.map encL) :: (jk ++ [.lst (ln.map encP)])) ∧
            g = [some rs, some tv, some (.mr h.length), some (.mr (h.length + 1)), some (.int i), some (.mr (h.length + (jk.length + 1 + 1))), some (.tup [u, .int kk])]) (fun N hN => ?_) ?_
          · dsimp! [encP, inP (z1 _) (ordU_pd ord') (show pd 64 (.int kk) from trivial), ordU_any]
            by_cases c3 : kk ∈ ord'
            · simp only [c3, decide_true, Bool.not_true, Bool.false_eq_true, if_false, Pl.Eq.ss_nil]
              exact hN _ _ ⟨by simp [stepOrd, c3], rfl⟩
            · simp only [c3, decide_false, Bool.not_false, if_true]
              simp_all! []
              exact ⟨by unfold ordU; rw [List.length_map]; omega, hN _ _ ⟨by simp [stepOrd, c3, ordU], rfl⟩⟩
          · rintro _ _ ⟨rfl, rfl⟩
            have km : kk ∈ stepOrd ord' (some (u, kk)) := by
              unfold stepOrd
              by_cases c3 : kk ∈ ord' <;> simp [c3]
            have lf := lineGo_facts (l := [some (u, kk)]) nd' ob' fun u' k' m => by rw [List.mem_singleton] at m; cases m; exact kb
            simp only [lineGo] at lf e1 e2
            simp_all! [encP]
            refine ord_index fx_get0 km ?_
            dsimp! []
            refine ⟨by rw [List.length_map]; omega, ?_⟩
            refine hk2 _ _ ⟨_, ln ++ [some (u, (stepOrd ord' (some (u, kk))).idxOf kk)], _, by simp [encP], rfl, lf.1, lf.2.1, by simp; omega, fun p m => pm p (List.mem_cons_of_mem _ m), e1, ?_⟩
            rw [List.append_assoc]; exact e2
      · rintro _ _ ⟨ord', ln, a', rfl, rfl, nd', ob', lc, pm, e1, e2⟩
        simp only [lineGo, List.append_nil] at e1 e2
        simp_all! []
        refine ⟨by rw [List.length_map]; omega, ?_⟩
        refine hk _ _ ⟨f, ord', ls ++ [ln], _, _, _, jk ++ [.lst (ln.map encP)], by omega, by simp [encL], rfl, nd', ob', by simp; omega, ?_⟩
        rw [e1, e2]
        exact er
    · have eo : ord[i]? = none := List.getElem?_eq_none (by omega)
      have c2 : ¬ ((i : Int) < ((ordU ord).length : Int)) := by unfold ordU; rw [List.length_map]; omega
      rw [eo] at er
      simp only [c2, decide_false, Bool.false_eq_true, if_false, Pl.Eq.ss_nil]
      exact hk _ _ ⟨f, ord, ls, _, _, _, jk, by omega, rfl, rfl, nd, ob, by omega, er⟩
  · rintro _ _ ⟨f, ord, ls, a, b, c, jk, ef, rfl, rfl, nd, ob, lb, er⟩
    have f0 : f = 0 := by omega
    subst f0
    have en : numb t = ls := by unfold numb; rw [hR, ← er]; rfl
    simp_all! []
    rw [en] at q
    refine stl_pure ?_ q
    intro x mx
    simp only [List.mem_cons, List.not_mem_nil, or_false] at mx
    rcases mx with rfl | rfl
    · exact pd_mono (by decide) pr
    · refine pd_mono (d := 62) (by decide) (encT_pd ?_)
      rw [← en]
      exact numb_out po
end
end Pl.Ma
set_option Elab.async false
set_option linter.all false
set_option maxRecDepth 100000
set_option autoImplicit false
/-! the law's own makers. -/
namespace Pl.Ma
open PySem Pl L2 Pl.Eq Pl.Tp
local macro_rules | `(tactic| simp_all! [$as,*]) => `(tactic| ((try dsimp only); rw [Pl.Eq.ss_cons]; simp only [Pl.Eq.e_cst, Pl.Eq.b_cst, Pl.Eq.e_var, Pl.Eq.b_var, Pl.Eq.e_bin, Pl.Eq.b_bin, Pl.Eq.e_neg, Pl.Eq.e_not, Pl.Eq.b_not, Pl.Eq.e_bop, Pl.Eq.b_bop, Pl.Eq.e_cmp, Pl.Eq.b_cmp, Pl.Eq.e_cmp2, Pl.Eq.b_cmp2, Pl.Eq.e_ife, Pl.Eq.b_ife, Pl.Eq.e_call, Pl.Eq.b_call, Pl.Eq.e_bi, Pl.Eq.b_bi, Pl.Eq.e_isi, Pl.Eq.b_isi, Pl.Eq.e_mth, Pl.Eq.e_ix, Pl.Eq.b_ix, Pl.Eq.e_sl, Pl.Eq.e_tup, Pl.Eq.e_lst, Pl.Eq.e_lc, Pl.Eq.e_lc2, Pl.Eq.e_lrg, Pl.Eq.e_dic, Pl.Eq.es_nil, Pl.Eq.es_cons, Pl.Eq.o_none, Pl.Eq.o_some, Pl.Eq.bb_nil, Pl.Eq.bb_cons, Pl.Eq.bo_one, Pl.Eq.bo_cons, Pl.Eq.f_nil, Pl.Eq.f_cons, Pl.Eq.i_val, Pl.Eq.i_rng1, Pl.Eq.i_rng2, Pl.Eq.i_rng3, Pl.Eq.i_enum, Pl.Eq.t_nm, Pl.Eq.t_tp, Pl.Eq.ts_nil, Pl.Eq.ts_cons, Pl.Eq.t_sub, Pl.Eq.s_expr, Pl.Eq.s_asg, Pl.Eq.s_par, Pl.Eq.s_aug, Pl.Eq.s_ret, Pl.Eq.s_retN, Pl.Eq.s_ifs, Pl.Eq.s_fr, Pl.Eq.s_brk, Pl.Eq.s_cnt, Pl.Eq.s_pass, Pl.Eq.ss_nil, Pl.Eq.p_addI, Pl.Eq.p_addT, Pl.Eq.p_subI, Pl.Eq.p_mulI, Pl.Eq.p_fdivI, Pl.Eq.p_modI, Pl.Eq.p_powI, Pl.Eq.p_lt, Pl.Eq.p_le, Pl.Eq.p_gt, Pl.Eq.p_ge, Pl.Eq.p_eq, Pl.Eq.p_ne, Pl.Eq.p_isN, Pl.Eq.p_notN, Pl.Eq.p_isB, Pl.Eq.p_notB, Pl.Eq.t_bl, Pl.Eq.t_int, Pl.Eq.t_tup, Pl.Eq.t_lst, Pl.Eq.mk_t, Pl.Eq.mk_f, Pl.Eq.i_non_tup, Pl.Eq.i_non_lst, Pl.Eq.i_non_int, Pl.Eq.i_non_bl, Pl.Eq.i_non_str, Pl.Eq.i_non_dic, Pl.Eq.i_bl_tup, Pl.Eq.i_bl_lst, Pl.Eq.i_bl_int, Pl.Eq.i_bl_bl, Pl.Eq.i_bl_str, Pl.Eq.i_bl_dic, Pl.Eq.i_int_tup, Pl.Eq.i_int_lst, Pl.Eq.i_int_int, Pl.Eq.i_int_bl, Pl.Eq.i_int_str, Pl.Eq.i_int_dic, Pl.Eq.i_str_tup, Pl.Eq.i_str_lst, Pl.Eq.i_str_int, Pl.Eq.i_str_bl, Pl.Eq.i_str_str, Pl.Eq.i_str_dic, Pl.Eq.i_tup_tup, Pl.Eq.i_tup_lst, Pl.Eq.i_tup_int, Pl.Eq.i_tup_bl, Pl.Eq.i_tup_str, Pl.Eq.i_tup_dic, Pl.Eq.i_lst_tup, Pl.Eq.i_lst_lst, Pl.Eq.i_lst_int, Pl.Eq.i_lst_bl, Pl.Eq.i_lst_str, Pl.Eq.i_lst_dic, Pl.Eq.n_non, Pl.Eq.n_bl, Pl.Eq.n_int, Pl.Eq.n_str, Pl.Eq.n_tup, Pl.Eq.n_lst, Pl.Eq.p_slT, Pl.Eq.p_lenT, Pl.Eq.p_lenL, Pl.Eq.p_lenR, Pl.Eq.p_intI, Pl.Eq.p_tuple, Pl.Eq.p_list, Pl.Eq.p_sorted, Pl.Eq.p_max1, Pl.Eq.p_min1, Pl.Eq.p_min, Pl.Eq.p_intB, Pl.Eq.p_mulT, Pl.Eq.p_addLL, Pl.Eq.p_slL, Pl.Eq.it_tup, Pl.Eq.it_lst, Pl.Eq.it_ro, Pl.Eq.si_lst, Pl.Eq.p_all, Pl.Eq.p_any, Pl.Eq.p_max, Pl.Eq.q_tup, Pl.Eq.q_lst, Pl.Eq.q_ro, Pl.Eq.l_lst, Pl.Eq.src_tup, Pl.Eq.src_lst, Pl.Eq.src_ro, Pl.Eq.src_mr, Pl.Eq.atP_some, Pl.Eq.x_tup_, Pl.Eq.x_lst_, Pl.Eq.x_ro_, Pl.Eq.seq_mr, Pl.Eq.lst_mr, Pl.Eq.dic_mr, Pl.Eq.tru_mr, Pl.Eq.it_mr, Pl.Eq.si_mr, Pl.Eq.x_mr, Pl.Eq.set_mr, Pl.Eq.len_mr, Pl.Eq.in_mr, Pl.Eq.nin_mr, Pl.Eq.ty_mr, Pl.Eq.mt_app, Pl.Eq.mt_p0, Pl.Eq.mt_p1, Pl.Eq.mt_ex, Pl.Eq.mt_in, Pl.Eq.mt_g1, Pl.Eq.mt_g2, Pl.Eq.oL_seq, Pl.Eq.oL_tru, Pl.Eq.oL_it, Pl.Eq.oL_ix, Pl.Eq.oL_set, Pl.Eq.oL_len, Pl.Eq.oL_in, Pl.Eq.oL_tyA, Pl.Eq.oL_tyI, Pl.Eq.oL_tyP, Pl.Eq.oL_tyQ, Pl.Eq.oL_tyE, Pl.Eq.oL_tyN, Pl.Eq.oL_app, Pl.Eq.oL_p0, Pl.Eq.oL_p1, Pl.Eq.oL_ex, Pl.Eq.oL_ins, Pl.Eq.oD_dic, Pl.Eq.oL_dic, Pl.Eq.oD_it, Pl.Eq.oD_ix, Pl.Eq.oD_set, Pl.Eq.oD_len, Pl.Eq.oD_in, Pl.Eq.oD_tyG, Pl.Eq.oD_tyH, Pl.Eq.oD_g1, Pl.Eq.oD_g2, Pl.Eq.fx_get, Pl.Eq.fx_get0, Pl.Eq.fx_set, Pl.Eq.fx_set0, Pl.Eq.fx_getS, Pl.Eq.fx_getS0, Pl.Eq.fx_setS, Pl.Eq.fx_setS0, Pl.Eq.at_nat, Pl.Eq.at_0, Pl.Eq.at_1, Pl.Eq.at_2, Pl.Eq.at_3, Pl.Eq.at_4, Pl.Eq.at_last, Pl.Eq.sz, Pl.Eq.ixN_0, Pl.Eq.ixN_1, Pl.Eq.ixN_2, Pl.Eq.ixN_3, Pl.Eq.ixN_4, List.getElem?_cons_zero, List.getElem?_cons_succ, List.set_cons_zero, List.set_cons_succ, Option.some.injEq, exists_eq_left, exists_eq_left', U.int.injEq, U.bl.injEq, U.tup.injEq, U.lst.injEq, Int.zero_add, Nat.reduceLeDiff, List.cons_append, List.nil_append, false_and, exists_false, exists_const, false_or, or_false, Pl.T.own, Pl.Ts.own, Pl.Ts.len, wipeU, Pl.Eq.eqI, Pl.Eq.eqB, beq_self_eq_true, Bool.not_true, Bool.not_false, Bool.false_eq_true, Bool.true_eq_false, reduceCtorEq, decide_true, decide_false, List.length_cons, List.length_nil, Nat.zero_add, Nat.reduceAdd, Nat.reduceLT, if_true, if_false, reduceIte, true_and, and_true, List.set_set, List.append_assoc, List.length_append, List.length_set, Nat.add_zero, List.append_nil, $as,*]))
local macro_rules | `(tactic| dsimp! [$as,*]) => `(tactic| (try simp only [Pl.Eq.e_cst, Pl.Eq.b_cst, Pl.Eq.e_var, Pl.Eq.b_var, Pl.Eq.e_bin, Pl.Eq.b_bin, Pl.Eq.e_neg, Pl.Eq.e_not, Pl.Eq.b_not, Pl.Eq.e_bop, Pl.Eq.b_bop, Pl.Eq.e_cmp, Pl.Eq.b_cmp, Pl.Eq.e_cmp2, Pl.Eq.b_cmp2, Pl.Eq.e_ife, Pl.Eq.b_ife, Pl.Eq.e_call, Pl.Eq.b_call, Pl.Eq.e_bi, Pl.Eq.b_bi, Pl.Eq.e_isi, Pl.Eq.b_isi, Pl.Eq.e_mth, Pl.Eq.e_ix, Pl.Eq.b_ix, Pl.Eq.e_sl, Pl.Eq.e_tup, Pl.Eq.e_lst, Pl.Eq.e_lc, Pl.Eq.e_lc2, Pl.Eq.e_lrg, Pl.Eq.e_dic, Pl.Eq.es_nil, Pl.Eq.es_cons, Pl.Eq.o_none, Pl.Eq.o_some, Pl.Eq.bb_nil, Pl.Eq.bb_cons, Pl.Eq.bo_one, Pl.Eq.bo_cons, Pl.Eq.f_nil, Pl.Eq.f_cons, Pl.Eq.i_val, Pl.Eq.i_rng1, Pl.Eq.i_rng2, Pl.Eq.i_rng3, Pl.Eq.i_enum, Pl.Eq.t_nm, Pl.Eq.t_tp, Pl.Eq.ts_nil, Pl.Eq.ts_cons, Pl.Eq.t_sub, Pl.Eq.s_expr, Pl.Eq.s_asg, Pl.Eq.s_par, Pl.Eq.s_aug, Pl.Eq.s_ret, Pl.Eq.s_retN, Pl.Eq.s_ifs, Pl.Eq.s_fr, Pl.Eq.s_brk, Pl.Eq.s_cnt, Pl.Eq.s_pass, Pl.Eq.ss_nil, Pl.Eq.p_addI, Pl.Eq.p_addT, Pl.Eq.p_subI, Pl.Eq.p_mulI, Pl.Eq.p_fdivI, Pl.Eq.p_modI, Pl.Eq.p_powI, Pl.Eq.p_lt, Pl.Eq.p_le, Pl.Eq.p_gt, Pl.Eq.p_ge, Pl.Eq.p_eq, Pl.Eq.p_ne, Pl.Eq.p_isN, Pl.Eq.p_notN, Pl.Eq.p_isB, Pl.Eq.p_notB, Pl.Eq.t_bl, Pl.Eq.t_int, Pl.Eq.t_tup, Pl.Eq.t_lst, Pl.Eq.mk_t, Pl.Eq.mk_f, Pl.Eq.i_non_tup, Pl.Eq.i_non_lst, Pl.Eq.i_non_int, Pl.Eq.i_non_bl, Pl.Eq.i_non_str, Pl.Eq.i_non_dic, Pl.Eq.i_bl_tup, Pl.Eq.i_bl_lst, Pl.Eq.i_bl_int, Pl.Eq.i_bl_bl, Pl.Eq.i_bl_str, Pl.Eq.i_bl_dic, Pl.Eq.i_int_tup, Pl.Eq.i_int_lst, Pl.Eq.i_int_int, Pl.Eq.i_int_bl, Pl.Eq.i_int_str, Pl.Eq.i_int_dic, Pl.Eq.i_str_tup, Pl.Eq.i_str_lst, Pl.Eq.i_str_int, Pl.Eq.i_str_bl, Pl.Eq.i_str_str, Pl.Eq.i_str_dic, Pl.Eq.i_tup_tup, Pl.Eq.i_tup_lst, Pl.Eq.i_tup_int, Pl.Eq.i_tup_bl, Pl.Eq.i_tup_str, Pl.Eq.i_tup_dic, Pl.Eq.i_lst_tup, Pl.Eq.i_lst_lst, Pl.Eq.i_lst_int, Pl.Eq.i_lst_bl, Pl.Eq.i_lst_str, Pl.Eq.i_lst_dic, Pl.Eq.n_non, Pl.Eq.n_bl, Pl.Eq.n_int, Pl.Eq.n_str, Pl.Eq.n_tup, Pl.Eq.n_lst, Pl.Eq.p_slT, Pl.Eq.p_lenT, Pl.Eq.p_lenL, Pl.Eq.p_lenR, Pl.Eq.p_intI, Pl.Eq.p_tuple, Pl.Eq.p_list, Pl.Eq.p_sorted, Pl.Eq.p_max1, Pl.Eq.p_min1, Pl.Eq.p_min, Pl.Eq.p_intB, Pl.Eq.p_mulT, Pl.Eq.p_addLL, Pl.Eq.p_slL, Pl.Eq.it_tup, Pl.Eq.it_lst, Pl.Eq.it_ro, Pl.Eq.si_lst, Pl.Eq.p_all, Pl.Eq.p_any, Pl.Eq.p_max, Pl.Eq.q_tup, Pl.Eq.q_lst, Pl.Eq.q_ro, Pl.Eq.l_lst, Pl.Eq.src_tup, Pl.Eq.src_lst, Pl.Eq.src_ro, Pl.Eq.src_mr, Pl.Eq.atP_some, Pl.Eq.x_tup_, Pl.Eq.x_lst_, Pl.Eq.x_ro_, Pl.Eq.seq_mr, Pl.Eq.lst_mr, Pl.Eq.dic_mr, Pl.Eq.tru_mr, Pl.Eq.it_mr, Pl.Eq.si_mr, Pl.Eq.x_mr, Pl.Eq.set_mr, Pl.Eq.len_mr, Pl.Eq.in_mr, Pl.Eq.nin_mr, Pl.Eq.ty_mr, Pl.Eq.mt_app, Pl.Eq.mt_p0, Pl.Eq.mt_p1, Pl.Eq.mt_ex, Pl.Eq.mt_in, Pl.Eq.mt_g1, Pl.Eq.mt_g2, Pl.Eq.oL_seq, Pl.Eq.oL_tru, Pl.Eq.oL_it, Pl.Eq.oL_ix, Pl.Eq.oL_set, Pl.Eq.oL_len, Pl.Eq.oL_in, Pl.Eq.oL_tyA, Pl.Eq.oL_tyI, Pl.Eq.oL_tyP, Pl.Eq.oL_tyQ, Pl.Eq.oL_tyE, Pl.Eq.oL_tyN, Pl.Eq.oL_app, Pl.Eq.oL_p0, Pl.Eq.oL_p1, Pl.Eq.oL_ex, Pl.Eq.oL_ins, Pl.Eq.oD_dic, Pl.Eq.oL_dic, Pl.Eq.oD_it, Pl.Eq.oD_ix, Pl.Eq.oD_set, Pl.Eq.oD_len, Pl.Eq.oD_in, Pl.Eq.oD_tyG, Pl.Eq.oD_tyH, Pl.Eq.oD_g1, Pl.Eq.oD_g2, Pl.Eq.fx_get, Pl.Eq.fx_get0, Pl.Eq.fx_set, Pl.Eq.fx_set0, Pl.Eq.fx_getS, Pl.Eq.fx_getS0, Pl.Eq.fx_setS, Pl.Eq.fx_setS0, Pl.Eq.at_nat, Pl.Eq.at_0, Pl.Eq.at_1, Pl.Eq.at_2, Pl.Eq.at_3, Pl.Eq.at_4, Pl.Eq.at_last, Pl.Eq.sz, Pl.Eq.ixN_0, Pl.Eq.ixN_1, Pl.Eq.ixN_2, Pl.Eq.ixN_3, Pl.Eq.ixN_4, List.getElem?_cons_zero, List.getElem?_cons_succ, List.set_cons_zero, List.set_cons_succ, Option.some.injEq, exists_eq_left, exists_eq_left', U.int.injEq, U.bl.injEq, U.tup.injEq, U.lst.injEq, Int.zero_add, Nat.reduceLeDiff, List.cons_append, List.nil_append, false_and, exists_false, exists_const, false_or, or_false, Pl.T.own, Pl.Ts.own, Pl.Ts.len, wipeU, Pl.Eq.eqI, Pl.Eq.eqB, beq_self_eq_true, Bool.not_true, Bool.not_false, Bool.false_eq_true, Bool.true_eq_false, reduceCtorEq, decide_true, decide_false, List.length_cons, List.length_nil, Nat.zero_add, Nat.reduceAdd, Nat.reduceLT, if_true, if_false, reduceIte, true_and, and_true, List.set_set, List.append_assoc, List.length_append, List.length_set, Nat.add_zero, List.append_nil, $as,*]))
theorem leaf_pd {x : U} (h : leaf x) : pd 1 x := by
  cases x <;> first | exact h | trivial | exact h.elim
theorem out_pd {u : U} (h : OutOk u) : pd 2 u := by
  obtain ⟨xs, rfl, _, hx⟩ := h
  exact fun x m => leaf_pd (hx x m)
theorem nat_mem {α : Type} {xs : List α} {k : Nat} (l : k < xs.length) : ∃ u, u ∈ xs ∧ xs[k]? = some u := ⟨xs[k], List.getElem_mem l, List.getElem?_eq_getElem l⟩
def MenuOk (u : U) : Prop := ∃ xs, u = .lst xs ∧ 2 ≤ xs.length ∧ xs.length ≤ 10 ∧ ∀ x ∈ xs, ∃ ys, x = .tup ys ∧ ys.length ≤ 10 ∧ ∀ y ∈ ys, leaf y
structure RsOk (rs : List U) : Prop where
  ne : rs ≠ []
  s : rs.length ≤ 100
  p : pd 60 (.tup rs)
  m : sm 10 (.tup rs)
/-- the same, reckoned -/
def smB : Nat → U → Bool
  | 0, _ => false
  | _ + 1, .non => true
  | _ + 1, .bl _ => true
  | _ + 1, .int _ => true
  | _ + 1, .str x => PyData.strOk x
  | d + 1, .tup xs => decide (xs.length ≤ 1000) && xs.all (smB d)
  | _ + 1, _ => false
theorem smB_sm : ∀ {d : Nat} {u : U}, smB d u = true → sm d u
  | 0, _, h => by simp [smB] at h
  | d + 1, u, h => by
    cases u with
    | tup xs =>
      have h' : (decide (xs.length ≤ 1000) && xs.all (smB d)) = true := h
      rw [Bool.and_eq_true, decide_eq_true_eq, List.all_eq_true] at h'
      exact ⟨Nat.le_trans h'.1 (by decide), fun x m => smB_sm (h'.2 x m)⟩
    | str x => exact h
    | lst xs => cases h
    | ro xs => cases h
    | mr _ => cases h
    | fn _ => cases h
    | _ => trivial
/-- a machine's table: well formed, its outputs short rows -/
structure MOk (c w : Nat) (t : Tb) : Prop where
  wf : Wf w t
  out : ∀ l ∈ t, ∀ u k, some (u, k) ∈ l → ∃ xs, u = .tup xs ∧ xs.length ≤ c ∧ ∀ x ∈ xs, leaf x
  num : numB t = true
theorem MOk.p50 {c w : Nat} {t : Tb} (m : MOk c w t) : ∀ l ∈ t, ∀ u k, some (u, k) ∈ l → pd 50 u := fun l lm u k mk => by
  obtain ⟨xs, rfl, _, hx⟩ := m.out l lm u k mk
  exact pd_mono (by decide) (show pd 2 (.tup xs) from fun x m => leaf_pd (hx x m))
theorem MOk.pt {c w : Nat} {t : Tb} {rs : List U} (m : MOk c w t) (r : RsOk rs) : pd 64 (.tup [.tup rs, encT t]) := by
  intro x mx
  simp only [List.mem_cons, List.not_mem_nil, or_false] at mx
  rcases mx with rfl | rfl
  · exact pd_mono (by decide) r.p
  · exact pd_mono (by decide) (encT_pd m.p50)
theorem numb_le {t : Tb} {w : Nat} (wf : Wf w t) : (numb t).length ≤ t.length := by
  obtain ⟨ord, h⟩ := numb_ni wf
  rw [numb_len h]
  exact nodup_le h.nd h.ob
theorem numb_mok {c w : Nat} {t : Tb} (wf : Wf w t) (out : ∀ l ∈ t, ∀ u k, some (u, k) ∈ l → ∃ xs, u = .tup xs ∧ xs.length ≤ c ∧ ∀ x ∈ xs, leaf x) : MOk c w (numb t) :=
  ⟨numb_wf wf, numb_out (P := fun u => ∃ xs, u = .tup xs ∧ xs.length ≤ c ∧ ∀ x ∈ xs, leaf x) out, numb_numB wf⟩
section
variable {tbl : Str → Option Fn} {n : Nat} {h : Hu} {Q : QE} {E : Ex → Hu → Prop}
variable (f_mix : tbl "_law_mix" = some ⟨1, 1, t_mix⟩) (f_take : tbl "_law_take" = some ⟨2, 4, t_take⟩)
include f_mix f_take
theorem c_menu (f_menu : tbl "_law_menu" = some ⟨1, 2, m_law_menu⟩) {t : Nat} {o : O} (lt : t < h.length) (ho : IsTape o) (q : ∀ u o, MenuOk u → IsTape o → Q u (h.set t o)) : callN tbl (n + 3) "_law_menu" [.mr t] (h.set t o) Q E := by
  refine call_in f_menu rfl (g := [some (.mr t), none]) rfl ?_
  unfold m_law_menu
  have hs : 100000 ≤ sizeLine := by decide
  simp_all! []
  simp_all! []
  refine c_tk0 f_mix f_take lt ho (by decide) (by decide) fun k o' k1 ho' => ?_
  dsimp! []
  generalize hM : [_, _, _, _, _, _, _, _] = M
  have hl : (M.length : Int) = 8 := by rw [← hM]; rfl
  obtain ⟨u, um, ue⟩ := nat_mem (xs := M) (k := k) (by omega)
  dsimp! [ue]
  refine stl_tape0 (q u o' ?_ ho')
  rw [← hM] at um
  simp only [List.mem_cons, List.not_mem_nil, or_false] at um
  rcases um with rfl | rfl | rfl | rfl | rfl | rfl | rfl | rfl <;> refine ⟨_, rfl, by decide, by decide, ?_⟩ <;> simp [leaf] <;> decide +kernel
theorem c_inrows (f_inrows : tbl "_law_input_rows" = some ⟨1, 4, m_law_input_rows⟩) {t : Nat} {o : O} (lt : t < h.length) (ho : IsTape o) (q : ∀ rs o, RsOk rs → IsTape o → Q (.tup rs) (h.set t o)) : callN tbl (n + 3) "_law_input_rows" [.mr t] (h.set t o) Q E := by
  refine call_in f_inrows rfl (g := [some (.mr t), none, none, none]) rfl ?_
  unfold m_law_input_rows
  have hs : 100000 ≤ sizeLine := by decide
  simp_all! []
  refine c_tk0 f_mix f_take lt ho (by decide) (by decide) fun k o' k1 ho' => ?_
  dsimp! []
  simp_all! []
  refine ⟨⟨by omega, by omega⟩, by simp [rngU]; omega, ?_⟩
  refine lcRng (fun i acc h' => h' = h.set t o' ∧ acc.length = i ∧ ∀ x ∈ acc, ∃ k : Int, x = .tup [.int k]) ⟨rfl, rfl, by simp⟩ ?_ ?_
  · rintro i acc _ hi ⟨rfl, la, ha⟩ k2 hk2 _
    dsimp! []
    refine hk2 _ _ ⟨rfl, by simp [la], fun x mx => ?_⟩
    rcases List.mem_append.mp mx with z | z
    · exact ha x z
    · rw [List.mem_singleton.mp z]; exact ⟨_, rfl⟩
  rintro acc _ ⟨rfl, la, ha⟩
  dsimp! []
  simp_all! []
  refine c_tk0 f_mix f_take lt ho' (by decide) (by decide) fun k2 o2 k21 ho2 => ?_
  dsimp! []
  generalize hM : [_, _, _, _, _, _] = M
  have hl : (M.length : Int) = 6 := by rw [← hM]; rfl
  obtain ⟨u, um, ue⟩ := nat_mem (xs := M) (k := k2) (by omega)
  dsimp! [ue]
  rw [← hM] at um
  simp only [List.mem_cons, List.not_mem_nil, or_false] at um
  have la' : acc.length = (17 + (k : Int)).toNat := by simpa using la
  have px : pd 60 (.tup acc) := fun x m => by
    obtain ⟨k, rfl⟩ := ha x m
    intro y my
    rw [List.mem_singleton.mp my]
    trivial
  have sx : sm 10 (.tup acc) := ⟨by omega, fun x m => by
    obtain ⟨k, rfl⟩ := ha x m
    refine ⟨show 1 ≤ sizeLine by decide, fun y my => ?_⟩
    rw [List.mem_singleton.mp my]
    trivial⟩
  rcases um with rfl | rfl | rfl | rfl | rfl | rfl
  · exact stl_tape0 (q _ _ ⟨by simp, by simp, by simp [pd], smB_sm (by decide +kernel)⟩ ho2)
  · exact stl_tape0 (q _ _ ⟨by simp, by simp, by simp [pd], smB_sm (by decide +kernel)⟩ ho2)
  · exact stl_tape0 (q _ _ ⟨by simp, by simp, by simp [pd], smB_sm (by decide +kernel)⟩ ho2)
  · exact stl_tape0 (q _ _ ⟨by simp, by simp, by simp [pd]; decide +kernel, smB_sm (by decide +kernel)⟩ ho2)
  · exact stl_tape0 (q _ _ ⟨by simp, by simp, by simp [pd], smB_sm (by decide +kernel)⟩ ho2)
  · exact stl_tape0 (q _ _ ⟨fun z => by rw [z] at la'; simp at la'; omega, by omega, px, sx⟩ ho2)
def POk (m : Nat) (p : Pc) : Prop := ∀ u k, p = some (u, k) → (∃ xs, u = .tup xs ∧ xs.length ≤ 10 ∧ ∀ x ∈ xs, leaf x) ∧ k < m
theorem c_mach (f_numb : tbl "_law_numbered" = some ⟨2, 7, m_law_numbered⟩) (f_mach : tbl "_law_machine" = some ⟨4, 11, m_law_machine⟩) {t : Nat} {o : O} {rs : List U} {b : Bool} {mu : U} (ht : t < h.length) (ho : IsTape o) (gr : RsOk rs) (hm : MenuOk mu)
    (q : ∀ (M : Tb) o, MOk 10 rs.length M → M.length ≤ 7 → IsTape o → Q (.tup [.tup rs, encT M]) (h.set t o)) : callN tbl (n + 3) "_law_machine" [.mr t, .tup rs, .bl b, mu] (h.set t o) Q E := by
  refine call_in f_mach rfl (g := [some (.mr t), some (.tup rs), some (.bl b), some mu, none, none, none, none, none, none, none]) rfl ?_
  unfold m_law_machine
  have hs : 100000 ≤ sizeLine := by decide
  have g1 := gr.s
  obtain ⟨ms, rfl, m2, m10, mok⟩ := hm
  simp_all! []
  refine c_tk0 f_mix f_take ht ho (by decide) (by decide) fun k0 o1 k01 ho1 => ?_
  dsimp! []
  simp_all! []
  obtain ⟨m, hm⟩ : ∃ m : Nat, 1 + (k0 : Int) = (m : Int) := ⟨1 + k0, by omega⟩
  rw [hm]
  have mb : 1 ≤ m ∧ m ≤ 7 := by omega
  simp_all! []
  refine ⟨⟨by omega, by omega⟩, ?_⟩
  refine frRng (fun i g h' => ∃ (o : O) (M : Tb) (a b' c d e : Option U) (jk : List O), IsTape o ∧ h' = h.set t o ++ (.lst (M.map encL) :: jk) ∧
      g = [some (.mr t), some (.tup rs), some (.bl b), some (.lst ms), some (.int m), some (.mr h.length), a, b', c, d, e] ∧ M.length = i ∧ ∀ l ∈ M, l.length = rs.length ∧ ∀ p ∈ l, POk m p)
    ⟨o1, [], none, none, none, none, none, [], ho1, rfl, rfl, rfl, by simp⟩ ?_ ?_
  · rintro i _ _ hi ⟨o2, M, a, b', c, d, e, jk, ho2, rfl, rfl, ml, mp⟩ k hk
    have hi' : i < m := by simpa using hi
    simp_all! []
    simp_all! []
    refine frRun_inv (xs := rs) (fun done rest g h' => ∃ (o : O) (ln : List Pc) (c d e : Option U), IsTape o ∧ h' = h.set t o ++ (.lst (M.map encL) :: (jk ++ [.lst (ln.map encP)])) ∧
      g = [some (.mr t), some (.tup rs), some (.bl b), some (.lst ms), some (.int m), some (.mr h.length), some (.int i), some (.mr (h.length + (jk.length + 1))), c, d, e] ∧ ln.length = done.length ∧ ∀ p ∈ ln, POk m p) (done := []) rfl
      ⟨o2, [], c, d, e, ho2, rfl, rfl, rfl, by simp⟩ ?_ ?_
    · rintro done x rest _ _ ed ⟨o3, ln, c, d, e, ho3, rfl, rfl, ll, lp⟩ k2 hk2
      have lns : ln.length ≤ 100 := by
        have := congrArg List.length ed
        simp at this; omega
      dsimp! []
      refine cutSs (fun g h' => ∃ (o : O) (u : U), IsTape o ∧ u ∈ ms ∧ h' = h.set t o ++ (.lst (M.map encL) :: (jk ++ [.lst (ln.map encP)])) ∧
        g = [some (.mr t), some (.tup rs), some (.bl b), some (.lst ms), some (.int m), some (.mr h.length), some (.int i), some (.mr (h.length + (jk.length + 1))), some x, some u, e]) (fun N hN => ?_) ?_
      · dsimp! []
        refine c_tk f_mix f_take ht ho3 (by decide) (by decide) fun k4 o4 k41 ho4 => ?_
        dsimp! []
        by_cases c4 : k4 = 0
        · subst c4
          dsimp! []
          refine c_tk f_mix f_take ht ho4 (by omega) (by omega) fun k5 o5 k51 ho5 => ?_
          obtain ⟨u, um, ue⟩ := nat_mem (xs := ms) (k := k5) (by omega)
          dsimp! [ue]
          exact hN _ _ ⟨o5, u, ho5, um, rfl, rfl⟩
        · have c6 : ((k4 : Int) == 0) = false := by simpa using c4
          rw [c6]
          dsimp! []
          obtain ⟨u, um, ue⟩ := at_mem (xs := ms) (i := (i : Int) % 2) (by omega) (by omega)
          dsimp! [ue]
          exact ⟨by decide, hN _ _ ⟨o4, u, ho4, um, rfl, rfl⟩⟩
      · rintro _ _ ⟨o4, u, ho4, um, rfl, rfl⟩
        have hu := mok u um
        simp_all! []
        refine c_tk f_mix f_take ht ho4 (by omega) (by omega) fun k4 o5 k41 ho5 => ?_
        dsimp! []
        have app : ∀ (p : Pc) (o5 : O), POk m p → IsTape o5 →
            (ln.map encP).length < sizeLine ∧ k2 [some (.mr t), some (.tup rs), some (.bl b), some (.lst ms), some (.int m), some (.mr h.length), some (.int i), some (.mr (h.length + (jk.length + 1))), some x, some u, some (.int k4)] (h.set t o5 ++ (.lst (M.map encL) :: (jk ++ [.lst (ln.map encP ++ [encP p])]))) := by
          intro p o5 hp ho5
          exact ⟨by rw [List.length_map]; omega, hk2 _ _ ⟨o5, ln ++ [p], _, _, _, ho5, by simp, rfl, by simp [ll], fun p' mp' => by
            rcases List.mem_append.mp mp' with q | q
            · exact lp p' q
            · rw [List.mem_singleton.mp q]; exact hp⟩⟩
        have ps : POk m (some (u, k4)) := fun u' k' e => by cases e; exact ⟨hu, by omega⟩
        cases b with
        | false =>
          simp_all! []
          exact app (some (u, k4)) _ ps ho5
        | true =>
          simp_all! []
          refine c_tk f_mix f_take ht ho5 (by decide) (by decide) fun k5 o6 k51 ho6 => ?_
          dsimp! []
          by_cases c5 : k5 = 0
          · subst c5
            dsimp! []
            exact app none _ (fun u k e => by cases e) ho6
          · have c6 : ((k5 : Int) == 0) = false := by simpa using c5
            rw [c6]
            dsimp! []
            exact app (some (u, k4)) _ ps ho6
    · rintro _ _ ⟨o3, ln, c, d, e, ho3, rfl, rfl, ll, lp⟩
      simp_all! []
      refine ⟨by rw [List.length_map]; omega, ?_⟩
      refine hk _ _ ⟨o3, M ++ [ln], _, _, _, _, _, jk ++ [.lst (ln.map encP)], ho3, by simp [encL], rfl, by simp [ml], fun l ml => ?_⟩
      rcases List.mem_append.mp ml with q | q
      · exact mp l q
      · rw [List.mem_singleton.mp q]; exact ⟨ll, lp⟩
  · rintro _ _ ⟨o2, M, a, b', c, d, e, jk, ho2, rfl, rfl, ml, mp⟩
    have ml' : M.length = m := by simpa using ml
    have wf : Wf rs.length M := ⟨fun z => by rw [z] at ml'; simp at ml'; omega, fun l m => (mp l m).1, fun l lm u k mk => ⟨((mp l lm).2 _ mk u k rfl).1.imp fun _ z => z.1, by have := ((mp l lm).2 _ mk u k rfl).2; omega⟩, by omega⟩
    have out : ∀ l ∈ M, ∀ u k, some (u, k) ∈ l → ∃ xs, u = .tup xs ∧ xs.length ≤ 10 ∧ ∀ x ∈ xs, leaf x := fun l lm u k mk => ((mp l lm).2 _ mk u k rfl).1
    have mk := numb_mok wf out
    simp_all! []
    refine c_numb f_numb (w := rs.length) (tabV_mr fx_getS0) wf (by omega) gr.p (fun l lm u k mk => ?_) (stl_tape (mk.pt gr) ho2 (q _ _ mk (Nat.le_trans (numb_le wf) (by omega)) ho2))
    obtain ⟨xs, rfl, _, hx⟩ := out l lm u k mk
    exact pd_mono (by decide) (show pd 2 (.tup xs) from fun x m => leaf_pd (hx x m))
end
end Pl.Ma
set_option Elab.async false
set_option linter.all false
set_option maxRecDepth 100000
set_option autoImplicit false
/-! rings, copies, changed machines. -/
namespace Pl.Ma
open PySem Pl L2 Pl.Eq Pl.Tp
local macro_rules | `(tactic| simp_all! [$as,*]) => `(tactic| ((try dsimp only); rw [Pl.Eq.ss_cons]; simp only [Pl.Eq.e_cst, Pl.Eq.b_cst, Pl.Eq.e_var, Pl.Eq.b_var, Pl.Eq.e_bin, Pl.Eq.b_bin, Pl.Eq.e_neg, Pl.Eq.e_not, Pl.Eq.b_not, Pl.Eq.e_bop, Pl.Eq.b_bop, Pl.Eq.e_cmp, Pl.Eq.b_cmp, Pl.Eq.e_cmp2, Pl.Eq.b_cmp2, Pl.Eq.e_ife, Pl.Eq.b_ife, Pl.Eq.e_call, Pl.Eq.b_call, Pl.Eq.e_bi, Pl.Eq.b_bi, Pl.Eq.e_isi, Pl.Eq.b_isi, Pl.Eq.e_mth, Pl.Eq.e_ix, Pl.Eq.b_ix, Pl.Eq.e_sl, Pl.Eq.e_tup, Pl.Eq.e_lst, Pl.Eq.e_lc, Pl.Eq.e_lc2, Pl.Eq.e_lrg, Pl.Eq.e_dic, Pl.Eq.es_nil, Pl.Eq.es_cons, Pl.Eq.o_none, Pl.Eq.o_some, Pl.Eq.bb_nil, Pl.Eq.bb_cons, Pl.Eq.bo_one, Pl.Eq.bo_cons, Pl.Eq.f_nil, Pl.Eq.f_cons, Pl.Eq.i_val, Pl.Eq.i_rng1, Pl.Eq.i_rng2, Pl.Eq.i_rng3, Pl.Eq.i_enum, Pl.Eq.t_nm, Pl.Eq.t_tp, Pl.Eq.ts_nil, Pl.Eq.ts_cons, Pl.Eq.t_sub, Pl.Eq.s_expr, Pl.Eq.s_asg, Pl.Eq.s_par, Pl.Eq.s_aug, Pl.Eq.s_ret, Pl.Eq.s_retN, Pl.Eq.s_ifs, Pl.Eq.s_fr, Pl.Eq.s_brk, Pl.Eq.s_cnt, Pl.Eq.s_pass, Pl.Eq.ss_nil, Pl.Eq.p_addI, Pl.Eq.p_addT, Pl.Eq.p_subI, Pl.Eq.p_mulI, Pl.Eq.p_fdivI, Pl.Eq.p_modI, Pl.Eq.p_powI, Pl.Eq.p_lt, Pl.Eq.p_le, Pl.Eq.p_gt, Pl.Eq.p_ge, Pl.Eq.p_eq, Pl.Eq.p_ne, Pl.Eq.p_isN, Pl.Eq.p_notN, Pl.Eq.p_isB, Pl.Eq.p_notB, Pl.Eq.t_bl, Pl.Eq.t_int, Pl.Eq.t_tup, Pl.Eq.t_lst, Pl.Eq.mk_t, Pl.Eq.mk_f, Pl.Eq.i_non_tup, Pl.Eq.i_non_lst, Pl.Eq.i_non_int, Pl.Eq.i_non_bl, Pl.Eq.i_non_str, Pl.Eq.i_non_dic, Pl.Eq.i_bl_tup, Pl.Eq.i_bl_lst, Pl.Eq.i_bl_int, Pl.Eq.i_bl_bl, Pl.Eq.i_bl_str, Pl.Eq.i_bl_dic, Pl.Eq.i_int_tup, Pl.Eq.i_int_lst, Pl.Eq.i_int_int, Pl.Eq.i_int_bl, Pl.Eq.i_int_str, Pl.Eq.i_int_dic, Pl.Eq.i_str_tup, Pl.Eq.i_str_lst, Pl.Eq.i_str_int, Pl.Eq.i_str_bl, Pl.Eq.i_str_str, Pl.Eq.i_str_dic, Pl.Eq.i_tup_tup, Pl.Eq.i_tup_lst, Pl.Eq.i_tup_int, Pl.Eq.i_tup_bl, Pl.Eq.i_tup_str, Pl.Eq.i_tup_dic, Pl.Eq.i_lst_tup, Pl.Eq.i_lst_lst, Pl.Eq.i_lst_int, Pl.Eq.i_lst_bl, Pl.Eq.i_lst_str, Pl.Eq.i_lst_dic, Pl.Eq.n_non, Pl.Eq.n_bl, Pl.Eq.n_int, Pl.Eq.n_str, Pl.Eq.n_tup, Pl.Eq.n_lst, Pl.Eq.p_slT, Pl.Eq.p_lenT, Pl.Eq.p_lenL, Pl.Eq.p_lenR, Pl.Eq.p_intI, Pl.Eq.p_tuple, Pl.Eq.p_list, Pl.Eq.p_sorted, Pl.Eq.p_max1, Pl.Eq.p_min1, Pl.Eq.p_min, Pl.Eq.p_intB, Pl.Eq.p_mulT, Pl.Eq.p_addLL, Pl.Eq.p_slL, Pl.Eq.it_tup, Pl.Eq.it_lst, Pl.Eq.it_ro, Pl.Eq.si_lst, Pl.Eq.p_all, Pl.Eq.p_any, Pl.Eq.p_max, Pl.Eq.q_tup, Pl.Eq.q_lst, Pl.Eq.q_ro, Pl.Eq.l_lst, Pl.Eq.src_tup, Pl.Eq.src_lst, Pl.Eq.src_ro, Pl.Eq.src_mr, Pl.Eq.atP_some, Pl.Eq.x_tup_, Pl.Eq.x_lst_, Pl.Eq.x_ro_, Pl.Eq.seq_mr, Pl.Eq.lst_mr, Pl.Eq.dic_mr, Pl.Eq.tru_mr, Pl.Eq.it_mr, Pl.Eq.si_mr, Pl.Eq.x_mr, Pl.Eq.set_mr, Pl.Eq.len_mr, Pl.Eq.in_mr, Pl.Eq.nin_mr, Pl.Eq.ty_mr, Pl.Eq.mt_app, Pl.Eq.mt_p0, Pl.Eq.mt_p1, Pl.Eq.mt_ex, Pl.Eq.mt_in, Pl.Eq.mt_g1, Pl.Eq.mt_g2, Pl.Eq.oL_seq, Pl.Eq.oL_tru, Pl.Eq.oL_it, Pl.Eq.oL_ix, Pl.Eq.oL_set, Pl.Eq.oL_len, Pl.Eq.oL_in, Pl.Eq.oL_tyA, Pl.Eq.oL_tyI, Pl.Eq.oL_tyP, Pl.Eq.oL_tyQ, Pl.Eq.oL_tyE, Pl.Eq.oL_tyN, Pl.Eq.oL_app, Pl.Eq.oL_p0, Pl.Eq.oL_p1, Pl.Eq.oL_ex, Pl.Eq.oL_ins, Pl.Eq.oD_dic, Pl.Eq.oL_dic, Pl.Eq.oD_it, Pl.Eq.oD_ix, Pl.Eq.oD_set, Pl.Eq.oD_len, Pl.Eq.oD_in, Pl.Eq.oD_tyG, Pl.Eq.oD_tyH, Pl.Eq.oD_g1, Pl.Eq.oD_g2, Pl.Eq.fx_get, Pl.Eq.fx_get0, Pl.Eq.fx_set, Pl.Eq.fx_set0, Pl.Eq.fx_getS, Pl.Eq.fx_getS0, Pl.Eq.fx_setS, Pl.Eq.fx_setS0, Pl.Eq.at_nat, Pl.Eq.at_0, Pl.Eq.at_1, Pl.Eq.at_2, Pl.Eq.at_3, Pl.Eq.at_4, Pl.Eq.at_last, Pl.Eq.sz, Pl.Eq.ixN_0, Pl.Eq.ixN_1, Pl.Eq.ixN_2, Pl.Eq.ixN_3, Pl.Eq.ixN_4, List.getElem?_cons_zero, List.getElem?_cons_succ, List.set_cons_zero, List.set_cons_succ, Option.some.injEq, exists_eq_left, exists_eq_left', U.int.injEq, U.bl.injEq, U.tup.injEq, U.lst.injEq, Int.zero_add, Nat.reduceLeDiff, List.cons_append, List.nil_append, false_and, exists_false, exists_const, false_or, or_false, Pl.T.own, Pl.Ts.own, Pl.Ts.len, wipeU, Pl.Eq.eqI, Pl.Eq.eqB, beq_self_eq_true, Bool.not_true, Bool.not_false, Bool.false_eq_true, Bool.true_eq_false, reduceCtorEq, decide_true, decide_false, List.length_cons, List.length_nil, Nat.zero_add, Nat.reduceAdd, Nat.reduceLT, if_true, if_false, reduceIte, true_and, and_true, List.set_set, List.append_assoc, List.length_append, List.length_set, Nat.add_zero, List.append_nil, $as,*]))
local macro_rules | `(tactic| dsimp! [$as,*]) => `(tactic| (try simp only [Pl.Eq.e_cst, Pl.Eq.b_cst, Pl.Eq.e_var, Pl.Eq.b_var, Pl.Eq.e_bin, Pl.Eq.b_bin, Pl.Eq.e_neg, Pl.Eq.e_not, Pl.Eq.b_not, Pl.Eq.e_bop, Pl.Eq.b_bop, Pl.Eq.e_cmp, Pl.Eq.b_cmp, Pl.Eq.e_cmp2, Pl.Eq.b_cmp2, Pl.Eq.e_ife, Pl.Eq.b_ife, Pl.Eq.e_call, Pl.Eq.b_call, Pl.Eq.e_bi, Pl.Eq.b_bi, Pl.Eq.e_isi, Pl.Eq.b_isi, Pl.Eq.e_mth, Pl.Eq.e_ix, Pl.Eq.b_ix, Pl.Eq.e_sl, Pl.Eq.e_tup, Pl.Eq.e_lst, Pl.Eq.e_lc, Pl.Eq.e_lc2, Pl.Eq.e_lrg, Pl.Eq.e_dic, Pl.Eq.es_nil, Pl.Eq.es_cons, Pl.Eq.o_none, Pl.Eq.o_some, Pl.Eq.bb_nil, Pl.Eq.bb_cons, Pl.Eq.bo_one, Pl.Eq.bo_cons, Pl.Eq.f_nil, Pl.Eq.f_cons, Pl.Eq.i_val, Pl.Eq.i_rng1, Pl.Eq.i_rng2, Pl.Eq.i_rng3, Pl.Eq.i_enum, Pl.Eq.t_nm, Pl.Eq.t_tp, Pl.Eq.ts_nil, Pl.Eq.ts_cons, Pl.Eq.t_sub, Pl.Eq.s_expr, Pl.Eq.s_asg, Pl.Eq.s_par, Pl.Eq.s_aug, Pl.Eq.s_ret, Pl.Eq.s_retN, Pl.Eq.s_ifs, Pl.Eq.s_fr, Pl.Eq.s_brk, Pl.Eq.s_cnt, Pl.Eq.s_pass, Pl.Eq.ss_nil, Pl.Eq.p_addI, Pl.Eq.p_addT, Pl.Eq.p_subI, Pl.Eq.p_mulI, Pl.Eq.p_fdivI, Pl.Eq.p_modI, Pl.Eq.p_powI, Pl.Eq.p_lt, Pl.Eq.p_le, Pl.Eq.p_gt, Pl.Eq.p_ge, Pl.Eq.p_eq, Pl.Eq.p_ne, Pl.Eq.p_isN, Pl.Eq.p_notN, Pl.Eq.p_isB, Pl.Eq.p_notB, Pl.Eq.t_bl, Pl.Eq.t_int, Pl.Eq.t_tup, Pl.Eq.t_lst, Pl.Eq.mk_t, Pl.Eq.mk_f, Pl.Eq.i_non_tup, Pl.Eq.i_non_lst, Pl.Eq.i_non_int, Pl.Eq.i_non_bl, Pl.Eq.i_non_str, Pl.Eq.i_non_dic, Pl.Eq.i_bl_tup, Pl.Eq.i_bl_lst, Pl.Eq.i_bl_int, Pl.Eq.i_bl_bl, Pl.Eq.i_bl_str, Pl.Eq.i_bl_dic, Pl.Eq.i_int_tup, Pl.Eq.i_int_lst, Pl.Eq.i_int_int, Pl.Eq.i_int_bl, Pl.Eq.i_int_str, Pl.Eq.i_int_dic, Pl.Eq.i_str_tup, Pl.Eq.i_str_lst, Pl.Eq.i_str_int, Pl.Eq.i_str_bl, Pl.Eq.i_str_str, Pl.Eq.i_str_dic, Pl.Eq.i_tup_tup, Pl.Eq.i_tup_lst, Pl.Eq.i_tup_int, Pl.Eq.i_tup_bl, Pl.Eq.i_tup_str, Pl.Eq.i_tup_dic, Pl.Eq.i_lst_tup, Pl.Eq.i_lst_lst, Pl.Eq.i_lst_int, Pl.Eq.i_lst_bl, Pl.Eq.i_lst_str, Pl.Eq.i_lst_dic, Pl.Eq.n_non, Pl.Eq.n_bl, Pl.Eq.n_int, Pl.Eq.n_str, Pl.Eq.n_tup, Pl.Eq.n_lst, Pl.Eq.p_slT, Pl.Eq.p_lenT, Pl.Eq.p_lenL, Pl.Eq.p_lenR, Pl.Eq.p_intI, Pl.Eq.p_tuple, Pl.Eq.p_list, Pl.Eq.p_sorted, Pl.Eq.p_max1, Pl.Eq.p_min1, Pl.Eq.p_min, Pl.Eq.p_intB, Pl.Eq.p_mulT, Pl.Eq.p_addLL, Pl.Eq.p_slL, Pl.Eq.it_tup, Pl.Eq.it_lst, Pl.Eq.it_ro, Pl.Eq.si_lst, Pl.Eq.p_all, Pl.Eq.p_any, Pl.Eq.p_max, Pl.Eq.q_tup, Pl.Eq.q_lst, Pl.Eq.q_ro, Pl.Eq.l_lst, Pl.Eq.src_tup, Pl.Eq.src_lst, Pl.Eq.src_ro, Pl.Eq.src_mr, Pl.Eq.atP_some, Pl.Eq.x_tup_, Pl.Eq.x_lst_, Pl.Eq.x_ro_, Pl.Eq.seq_mr, Pl.Eq.lst_mr, Pl.Eq.dic_mr, Pl.Eq.tru_mr, Pl.Eq.it_mr, Pl.Eq.si_mr, Pl.Eq.x_mr, Pl.Eq.set_mr, Pl.Eq.len_mr, Pl.Eq.in_mr, Pl.Eq.nin_mr, Pl.Eq.ty_mr, Pl.Eq.mt_app, Pl.Eq.mt_p0, Pl.Eq.mt_p1, Pl.Eq.mt_ex, Pl.Eq.mt_in, Pl.Eq.mt_g1, Pl.Eq.mt_g2, Pl.Eq.oL_seq, Pl.Eq.oL_tru, Pl.Eq.oL_it, Pl.Eq.oL_ix, Pl.Eq.oL_set, Pl.Eq.oL_len, Pl.Eq.oL_in, Pl.Eq.oL_tyA, Pl.Eq.oL_tyI, Pl.Eq.oL_tyP, Pl.Eq.oL_tyQ, Pl.Eq.oL_tyE, Pl.Eq.oL_tyN, Pl.Eq.oL_app, Pl.Eq.oL_p0, Pl.Eq.oL_p1, Pl.Eq.oL_ex, Pl.Eq.oL_ins, Pl.Eq.oD_dic, Pl.Eq.oL_dic, Pl.Eq.oD_it, Pl.Eq.oD_ix, Pl.Eq.oD_set, Pl.Eq.oD_len, Pl.Eq.oD_in, Pl.Eq.oD_tyG, Pl.Eq.oD_tyH, Pl.Eq.oD_g1, Pl.Eq.oD_g2, Pl.Eq.fx_get, Pl.Eq.fx_get0, Pl.Eq.fx_set, Pl.Eq.fx_set0, Pl.Eq.fx_getS, Pl.Eq.fx_getS0, Pl.Eq.fx_setS, Pl.Eq.fx_setS0, Pl.Eq.at_nat, Pl.Eq.at_0, Pl.Eq.at_1, Pl.Eq.at_2, Pl.Eq.at_3, Pl.Eq.at_4, Pl.Eq.at_last, Pl.Eq.sz, Pl.Eq.ixN_0, Pl.Eq.ixN_1, Pl.Eq.ixN_2, Pl.Eq.ixN_3, Pl.Eq.ixN_4, List.getElem?_cons_zero, List.getElem?_cons_succ, List.set_cons_zero, List.set_cons_succ, Option.some.injEq, exists_eq_left, exists_eq_left', U.int.injEq, U.bl.injEq, U.tup.injEq, U.lst.injEq, Int.zero_add, Nat.reduceLeDiff, List.cons_append, List.nil_append, false_and, exists_false, exists_const, false_or, or_false, Pl.T.own, Pl.Ts.own, Pl.Ts.len, wipeU, Pl.Eq.eqI, Pl.Eq.eqB, beq_self_eq_true, Bool.not_true, Bool.not_false, Bool.false_eq_true, Bool.true_eq_false, reduceCtorEq, decide_true, decide_false, List.length_cons, List.length_nil, Nat.zero_add, Nat.reduceAdd, Nat.reduceLT, if_true, if_false, reduceIte, true_and, and_true, List.set_set, List.append_assoc, List.length_append, List.length_set, Nat.add_zero, List.append_nil, $as,*]))
theorem cut_to {xs : List U} {k : Nat} : cutU xs none (some (k : Int)) = xs.take k := by
  unfold cutU
  rw [HT.sIx_nat, HT.sIx_none]
  simp
theorem cut_fr {xs : List U} {k : Nat} : cutU xs (some (k : Int)) none = xs.drop k := by
  unfold cutU
  rw [HT.sIx_nat, HT.sIx_none]
  by_cases l : k ≤ xs.length
  · rw [Nat.min_eq_left l]
    exact List.take_of_length_le (by simp)
  · rw [Nat.min_eq_right (by omega), List.drop_of_length_le (Nat.le_refl _), List.drop_of_length_le (by omega)]
    simp
theorem cut_fr1 {xs : List U} {k : Nat} : cutU xs (some ((k : Int) + 1)) none = xs.drop (k + 1) := cut_fr (k := k + 1)
theorem cut_init {xs : List U} : cutU xs none (some (-1)) = xs.take (xs.length - 1) := by
  unfold cutU HT.sIx
  cases xs with
  | nil => rfl
  | cons x xs => simp; omega
/-! rings -/
def ringAt (m : Nat) (t : Tb) (i : Nat) : Prop := ∃ u, t[i]? = some [some (u, (i + 1) % m)]
theorem ring_go {m : Nat} (m1 : 1 ≤ m) {t : Tb} (lt : t.length = m) (h : ∀ i, i < m → ringAt m t i) : ∀ {f s : Nat}, f + s = m → goN (t.drop s) s (min m (s + 1)) = some m
  | 0, s, e => by
    rw [List.drop_of_length_le (by omega)]
    show some (min m (s + 1)) = _
    rw [Nat.min_eq_left (by omega)]
  | f + 1, s, e => by
    obtain ⟨u, eu⟩ := h s (by omega)
    have hs : s < t.length := by omega
    rw [List.drop_eq_getElem_cons hs]
    have : t[s] = [some (u, (s + 1) % m)] := by rw [List.getElem?_eq_getElem hs] at eu; exact Option.some.inj eu
    rw [this, goN_cons, if_neg (by omega)]
    have ih := ring_go m1 lt h (f := f) (s := s + 1) (by omega)
    by_cases c : s + 1 < m
    · rw [Nat.mod_eq_of_lt c]
      simp only [lineMet]
      rw [if_neg (by omega), show max (min m (s + 1)) (s + 1 + 1) = min m (s + 1 + 1) by omega]
      exact ih
    · have : s + 1 = m := by omega
      rw [this, Nat.mod_self]
      simp only [lineMet]
      rw [if_neg (by omega), show max (min m m) (0 + 1) = min m (m + 1) by omega]
      rw [this] at ih
      exact ih
theorem ring_num {m : Nat} (m1 : 1 ≤ m) {t : Tb} (lt : t.length = m) (h : ∀ i, i < m → ringAt m t i) : numB t = true := by
  have := ring_go m1 lt h (f := m) (s := 0) (by omega)
  rw [List.drop_zero, Nat.min_eq_right (by omega)] at this
  unfold numB
  rw [this, lt]
  simp [opEq]
def rs1 : List U := [.tup []]
theorem rs1_ok : RsOk rs1 := ⟨by simp [rs1], by simp [rs1], by simp [rs1, pd], smB_sm (by decide +kernel)⟩
def mapF (f : Nat → Nat) : Pc → Pc
  | none => none
  | some (u, k) => some (u, f k)
theorem encL_append {a b : Tb} : a.map encL ++ b.map encL = (a ++ b).map encL := by simp
section
variable {tbl : Str → Option Fn} {n : Nat} {h : Hu} {Q : QE} {E : Ex → Hu → Prop}
variable (f_mix : tbl "_law_mix" = some ⟨1, 1, t_mix⟩) (f_take : tbl "_law_take" = some ⟨2, 4, t_take⟩)
include f_mix f_take
theorem c_ring (f_ring : tbl "_law_ring" = some ⟨2, 6, m_law_ring⟩) {t : Nat} {o : O} {mu : U} (ht : t < h.length) (ho : IsTape o) (hm : MenuOk mu)
    (q : ∀ (M : Tb) o, MOk 10 1 M → M.length ≤ 40 → IsTape o → Q (.tup [.tup rs1, encT M]) (h.set t o)) : callN tbl (n + 3) "_law_ring" [.mr t, mu] (h.set t o) Q E := by
  refine call_in f_ring rfl (g := [some (.mr t), some mu, none, none, none, none]) rfl ?_
  unfold m_law_ring
  have hs : 100000 ≤ sizeLine := by decide
  obtain ⟨ms, rfl, m2, m10, mok⟩ := hm
  simp_all! []
  refine c_tk0 f_mix f_take ht ho (by decide) (by decide) fun k0 o1 k01 ho1 => ?_
  obtain ⟨m, hm⟩ : ∃ m : Nat, 17 + (k0 : Int) = (m : Int) := ⟨17 + k0, by omega⟩
  have mb : 17 ≤ m ∧ m ≤ 40 := by omega
  dsimp! [hm]
  simp_all! []
  refine c_tk0 f_mix f_take ht ho1 (by omega) (by omega) fun k2 o2 k21 ho2 => ?_
  dsimp! []
  simp_all! []
  simp_all! []
  refine ⟨⟨by omega, by omega⟩, ?_⟩
  have e0 : ms[0]? = some ms[0] := List.getElem?_eq_getElem (by omega)
  have e1 : ms[1]? = some ms[1] := List.getElem?_eq_getElem (by omega)
  refine frRng (fun i g h' => ∃ (M : Tb) (a : Option U), h' = h.set t o2 ++ [.lst (M.map encL)] ∧
      g = [some (.mr t), some (.lst ms), some (.int m), some (.int k2), some (.mr h.length), a] ∧ M.length = i ∧ ∀ j, j < i → ∃ u, u ∈ ms ∧ M[j]? = some [some (u, (j + 1) % m)])
    ⟨[], none, rfl, rfl, rfl, by omega⟩ ?_ ?_
  · rintro i _ _ hi ⟨M, a, rfl, rfl, ml, mp⟩ k hk
    have hi' : i < m := by simpa using hi
    have nx : ∀ u, u ∈ ms → k [some (.mr t), some (.lst ms), some (.int m), some (.int k2), some (.mr h.length), some (.int i)] (h.set t o2 ++ [.lst (M.map encL ++ [.tup [.tup [u, .int (((i : Int) + 1) % m)]]])]) := by
      intro u um
      refine hk _ _ ⟨M ++ [[some (u, (i + 1) % m)]], _, by simp [encL, encP], rfl, by simp [ml], fun j hj => ?_⟩
      by_cases c : j < i
      · obtain ⟨v, vm, ve⟩ := mp j c
        exact ⟨v, vm, by rw [List.getElem?_append_left (by omega)]; exact ve⟩
      · have : j = i := by omega
        subst this
        exact ⟨u, um, by rw [← ml]; simp⟩
    by_cases c : (i : Int) = (k2 : Int)
    · have c' : ((i : Int) == (k2 : Int)) = true := by simpa using c
      simp_all! [e0, e1, c']
      exact ⟨by omega, by rw [List.length_map]; omega, nx _ (List.getElem_mem (by omega))⟩
    · have c' : ((i : Int) == (k2 : Int)) = false := by simpa using c
      simp_all! [e0, e1, c']
      exact ⟨by omega, by rw [List.length_map]; omega, nx _ (List.getElem_mem (by omega))⟩
  · rintro _ _ ⟨M, a, rfl, rfl, ml, mp⟩
    have ml' : M.length = m := by simpa using ml
    have mp' : ∀ j, j < m → ∃ u, u ∈ ms ∧ M[j]? = some [some (u, (j + 1) % m)] := fun j hj => mp j (by simpa using hj)
    have mem : ∀ l ∈ M, ∃ j u, j < m ∧ u ∈ ms ∧ l = [some (u, (j + 1) % m)] := fun l lm => by
      obtain ⟨j, hj, e⟩ := List.mem_iff_getElem.mp lm
      obtain ⟨u, um, eu⟩ := mp' j (by omega)
      rw [List.getElem?_eq_getElem hj, e] at eu
      exact ⟨j, u, by omega, um, Option.some.inj eu⟩
    have mo : MOk 10 1 M := by
      refine ⟨⟨fun z => by rw [z] at ml'; simp at ml'; omega, fun l lm => ?_, fun l lm u k mk => ?_, by omega⟩, fun l lm u k mk => ?_, ring_num (by omega) ml' fun i hi => (mp' i hi).imp fun _ z => z.2⟩
      · obtain ⟨j, u, _, _, rfl⟩ := mem l lm
        rfl
      · obtain ⟨j, v, hj, vm, rfl⟩ := mem l lm
        rw [List.mem_singleton] at mk
        cases mk
        obtain ⟨ys, e, _⟩ := mok _ vm
        exact ⟨⟨ys, e⟩, by rw [ml']; exact Nat.mod_lt _ (by omega)⟩
      · obtain ⟨j, v, hj, vm, rfl⟩ := mem l lm
        rw [List.mem_singleton] at mk
        cases mk
        exact mok _ vm
    simp_all! []
    exact stl_tape (mo.pt rs1_ok) ho2 (q M o2 mo (by omega) ho2)
theorem c_copied (f_numb : tbl "_law_numbered" = some ⟨2, 7, m_law_numbered⟩) (f_copied : tbl "_law_copied" = some ⟨2, 8, m_law_copied⟩) {t : Nat} {o : O} {rs : List U} {T : Tb} {c : Nat} (ht : t < h.length) (ho : IsTape o) (gr : RsOk rs) (hm : MOk c rs.length T) (hl : T.length ≤ 40)
    (q : ∀ (M : Tb) o, MOk c rs.length M → M.length ≤ 2 * T.length → (∃ M0, M = numb M0 ∧ Wf rs.length M0 ∧ M0.map (·.map (mapF (· % T.length))) = T ++ T) → IsTape o → Q (.tup [.tup rs, encT M]) (h.set t o)) : callN tbl (n + 3) "_law_copied" [.mr t, .tup [.tup rs, encT T]] (h.set t o) Q E := by
  refine call_in f_copied rfl (g := [some (.mr t), some (.tup [.tup rs, encT T]), none, none, none, none, none, none]) rfl ?_
  unfold m_law_copied
  have hs : 100000 ≤ sizeLine := by decide
  have g1 := gr.s
  simp_all! [encT]
  simp_all! [List.length_map]
  simp_all! []
  simp_all! [List.length_map]
  refine ⟨by omega, ?_⟩
  rw [encL_append]
  refine frMap (fun r g h' => ∃ (o : O) (M : Tb) (a b : Option U), IsTape o ∧ h' = h.set t o ++ [.lst (M.map encL)] ∧
      g = [some (.mr t), some (.tup [.tup rs, .tup (T.map encL)]), some (.tup rs), some (.tup (T.map encL)), some (.int T.length), some (.mr h.length), a, b] ∧ M.length + r.length = 2 * T.length ∧ (∀ l ∈ r, l ∈ T) ∧ M.map (·.map (mapF (· % T.length))) ++ r = T ++ T ∧
      ∀ l ∈ M, l.length = rs.length ∧ ∀ u k, some (u, k) ∈ l → (∃ xs, u = .tup xs ∧ xs.length ≤ c ∧ ∀ x ∈ xs, leaf x) ∧ k < 2 * T.length) ?_ ?_
    ⟨o, [], none, none, ho, rfl, rfl, by simp; omega, fun l m => by simpa using m, rfl, by simp⟩
  · rintro l r _ _ ⟨o1, M, a, b, ho1, rfl, rfl, lr, rm, cp, mp⟩ k hk
    have lT := rm l List.mem_cons_self
    have ll := hm.wf.len l lT
    rw [List.length_cons] at lr
    simp_all! [encL, List.length_map]
    refine ⟨by omega, ?_⟩
    refine lcMap (fun r acc h' => ∃ (o : O) (ln : List Pc), IsTape o ∧ h' = h.set t o ++ [.lst (M.map encL)] ∧ acc = ln.map encP ∧ ln.length + r.length = rs.length ∧ (∀ p ∈ r, p ∈ l) ∧ ln.map (mapF (· % T.length)) ++ r = l ∧
      ∀ u k, some (u, k) ∈ ln → (∃ xs, u = .tup xs ∧ xs.length ≤ c ∧ ∀ x ∈ xs, leaf x) ∧ k < 2 * T.length) ?_ ?_ ⟨o1, [], ho1, rfl, rfl, by simpa using ll, fun p m => m, rfl, by simp⟩
    · rintro p r _ _ ⟨o2, ln, ho2, rfl, rfl, l1, pm, lc, lo⟩ k2 hk2 _
      have pl := pm p List.mem_cons_self
      rw [List.length_cons] at l1
      cases p with
      | none =>
        dsimp! [encP]
        exact hk2 _ _ ⟨o2, ln ++ [none], ho2, rfl, by simp [encP], by simp; omega, fun p m => pm p (List.mem_cons_of_mem _ m), by rw [← lc]; simp [mapF], fun u k m => lo u k (by simpa using m)⟩
      | some p =>
        obtain ⟨u, j⟩ := p
        have o3 := hm.out l lT u j pl
        have o4' := (hm.wf.pl l lT u j pl).2
        dsimp! [encP]
        refine c_tk f_mix f_take ht ho2 (by decide) (by decide) fun k4 o4 k41 ho4 => ?_
        dsimp! []
        have em : (j : Int) + (T.length : Int) * (k4 : Int) = ((j + T.length * k4 : Nat) : Int) := by simp
        rw [em]
        have hb : j + T.length * k4 < 2 * T.length := by
          have : k4 = 0 ∨ k4 = 1 := by omega
          rcases this with rfl | rfl <;> omega
        refine ⟨.inr ⟨by omega, by omega⟩, hk2 _ _ ⟨o4, ln ++ [some (u, j + T.length * k4)], ho4, rfl, by simp [encP], by simp; omega, fun p m => pm p (List.mem_cons_of_mem _ m), by rw [← lc]; simp [mapF, Nat.mod_eq_of_lt o4'], fun v k m => ?_⟩⟩
        rcases List.mem_append.mp m with z | z
        · exact lo v k z
        · rw [List.mem_singleton] at z
          cases z
          exact ⟨o3, hb⟩
    · rintro _ _ ⟨o2, ln, ho2, rfl, rfl, l1, pm, lc, lo⟩
      dsimp! []
      refine ⟨by rw [List.length_map]; omega, hk _ _ ⟨o2, M ++ [ln], _, _, ho2, by simp [encL], rfl, by simp; omega, fun l m => rm l (List.mem_cons_of_mem _ m), by rw [List.append_nil] at lc; rw [← cp, ← lc]; simp, fun l m => ?_⟩⟩
      rcases List.mem_append.mp m with z | z
      · exact mp l z
      · rw [List.mem_singleton.mp z]
        exact ⟨by simpa using l1, lo⟩
  · rintro _ _ ⟨o1, M, a, b, ho1, rfl, rfl, lr, rm, cp, mp⟩
    have ml : M.length = 2 * T.length := by simpa using lr
    have t0 : 0 < T.length := List.length_pos_iff.mpr hm.wf.ne
    have wf : Wf rs.length M := ⟨fun z => by rw [z] at ml; simp at ml; omega, fun l m => (mp l m).1, fun l lm u k mk => ⟨((mp l lm).2 u k mk).1.imp fun _ z => z.1, by have := ((mp l lm).2 u k mk).2; omega⟩, by omega⟩
    have out : ∀ l ∈ M, ∀ u k, some (u, k) ∈ l → ∃ xs, u = .tup xs ∧ xs.length ≤ c ∧ ∀ x ∈ xs, leaf x := fun l lm u k mk => ((mp l lm).2 u k mk).1
    have mk := numb_mok wf out
    simp_all! []
    refine c_numb f_numb (w := rs.length) (tabV_mr fx_getS0) wf (by omega) gr.p (fun l lm u k mk => ?_) (stl_tape (mk.pt gr) ho1 (q _ _ mk (Nat.le_trans (numb_le wf) (by omega)) ⟨M, rfl, wf, by rw [← cp]; simp⟩ ho1))
    obtain ⟨xs, rfl, _, hx⟩ := out l lm u k mk
    exact pd_mono (by decide) (show pd 2 (.tup xs) from fun x m => leaf_pd (hx x m))
end
end Pl.Ma
set_option Elab.async false
set_option linter.all false
set_option maxRecDepth 100000
set_option autoImplicit false
/-! changed machines. -/
namespace Pl.Ma
open PySem Pl L2 Pl.Eq Pl.Tp
local macro_rules | `(tactic| simp_all! [$as,*]) => `(tactic| ((try dsimp only); rw [Pl.Eq.ss_cons]; simp only [Pl.Eq.e_cst, Pl.Eq.b_cst, Pl.Eq.e_var, Pl.Eq.b_var, Pl.Eq.e_bin, Pl.Eq.b_bin, Pl.Eq.e_neg, Pl.Eq.e_not, Pl.Eq.b_not, Pl.Eq.e_bop, Pl.Eq.b_bop, Pl.Eq.e_cmp, Pl.Eq.b_cmp, Pl.Eq.e_cmp2, Pl.Eq.b_cmp2, Pl.Eq.e_ife, Pl.Eq.b_ife, Pl.Eq.e_call, Pl.Eq.b_call, Pl.Eq.e_bi, Pl.Eq.b_bi, Pl.Eq.e_isi, Pl.Eq.b_isi, Pl.Eq.e_mth, Pl.Eq.e_ix, Pl.Eq.b_ix, Pl.Eq.e_sl, Pl.Eq.e_tup, Pl.Eq.e_lst, Pl.Eq.e_lc, Pl.Eq.e_lc2, Pl.Eq.e_lrg, Pl.Eq.e_dic, Pl.Eq.es_nil, Pl.Eq.es_cons, Pl.Eq.o_none, Pl.Eq.o_some, Pl.Eq.bb_nil, Pl.Eq.bb_cons, Pl.Eq.bo_one, Pl.Eq.bo_cons, Pl.Eq.f_nil, Pl.Eq.f_cons, Pl.Eq.i_val, Pl.Eq.i_rng1, Pl.Eq.i_rng2, Pl.Eq.i_rng3, Pl.Eq.i_enum, Pl.Eq.t_nm, Pl.Eq.t_tp, Pl.Eq.ts_nil, Pl.Eq.ts_cons, Pl.Eq.t_sub, Pl.Eq.s_expr, Pl.Eq.s_asg, Pl.Eq.s_par, Pl.Eq.s_aug, Pl.Eq.s_ret, Pl.Eq.s_retN, Pl.Eq.s_ifs, Pl.Eq.s_fr, Pl.Eq.s_brk, Pl.Eq.s_cnt, Pl.Eq.s_pass, Pl.Eq.ss_nil, Pl.Eq.p_addI, Pl.Eq.p_addT, Pl.Eq.p_subI, Pl.Eq.p_mulI, Pl.Eq.p_fdivI, Pl.Eq.p_modI, Pl.Eq.p_powI, Pl.Eq.p_lt, Pl.Eq.p_le, Pl.Eq.p_gt, Pl.Eq.p_ge, Pl.Eq.p_eq, Pl.Eq.p_ne, Pl.Eq.p_isN, Pl.Eq.p_notN, Pl.Eq.p_isB, Pl.Eq.p_notB, Pl.Eq.t_bl, Pl.Eq.t_int, Pl.Eq.t_tup, Pl.Eq.t_lst, Pl.Eq.mk_t, Pl.Eq.mk_f, Pl.Eq.i_non_tup, Pl.Eq.i_non_lst, Pl.Eq.i_non_int, Pl.Eq.i_non_bl, Pl.Eq.i_non_str, Pl.Eq.i_non_dic, Pl.Eq.i_bl_tup, Pl.Eq.i_bl_lst, Pl.Eq.i_bl_int, Pl.Eq.i_bl_bl, Pl.Eq.i_bl_str, Pl.Eq.i_bl_dic, Pl.Eq.i_int_tup, Pl.Eq.i_int_lst, Pl.Eq.i_int_int, Pl.Eq.i_int_bl, Pl.Eq.i_int_str, Pl.Eq.i_int_dic, Pl.Eq.i_str_tup, Pl.Eq.i_str_lst, Pl.Eq.i_str_int, Pl.Eq.i_str_bl, Pl.Eq.i_str_str, Pl.Eq.i_str_dic, Pl.Eq.i_tup_tup, Pl.Eq.i_tup_lst, Pl.Eq.i_tup_int, Pl.Eq.i_tup_bl, Pl.Eq.i_tup_str, Pl.Eq.i_tup_dic, Pl.Eq.i_lst_tup, Pl.Eq.i_lst_lst, Pl.Eq.i_lst_int, Pl.Eq.i_lst_bl, Pl.Eq.i_lst_str, Pl.Eq.i_lst_dic, Pl.Eq.n_non, Pl.Eq.n_bl, Pl.Eq.n_int, Pl.Eq.n_str, Pl.Eq.n_tup, Pl.Eq.n_lst, Pl.Eq.p_slT, Pl.Eq.p_lenT, Pl.Eq.p_lenL, Pl.Eq.p_lenR, Pl.Eq.p_intI, Pl.Eq.p_tuple, Pl.Eq.p_list, Pl.Eq.p_sorted, Pl.Eq.p_max1, Pl.Eq.p_min1, Pl.Eq.p_min, Pl.Eq.p_intB, Pl.Eq.p_mulT, Pl.Eq.p_addLL, Pl.Eq.p_slL, Pl.Eq.it_tup, Pl.Eq.it_lst, Pl.Eq.it_ro, Pl.Eq.si_lst, Pl.Eq.p_all, Pl.Eq.p_any, Pl.Eq.p_max, Pl.Eq.q_tup, Pl.Eq.q_lst, Pl.Eq.q_ro, Pl.Eq.l_lst, Pl.Eq.src_tup, Pl.Eq.src_lst, Pl.Eq.src_ro, Pl.Eq.src_mr, Pl.Eq.atP_some, Pl.Eq.x_tup_, Pl.Eq.x_lst_, Pl.Eq.x_ro_, Pl.Eq.seq_mr, Pl.Eq.lst_mr, Pl.Eq.dic_mr, Pl.Eq.tru_mr, Pl.Eq.it_mr, Pl.Eq.si_mr, Pl.Eq.x_mr, Pl.Eq.set_mr, Pl.Eq.len_mr, Pl.Eq.in_mr, Pl.Eq.nin_mr, Pl.Eq.ty_mr, Pl.Eq.mt_app, Pl.Eq.mt_p0, Pl.Eq.mt_p1, Pl.Eq.mt_ex, Pl.Eq.mt_in, Pl.Eq.mt_g1, Pl.Eq.mt_g2, Pl.Eq.oL_seq, Pl.Eq.oL_tru, Pl.Eq.oL_it, Pl.Eq.oL_ix, Pl.Eq.oL_set, Pl.Eq.oL_len, Pl.Eq.oL_in, Pl.Eq.oL_tyA, Pl.Eq.oL_tyI, Pl.Eq.oL_tyP, Pl.Eq.oL_tyQ, Pl.Eq.oL_tyE, Pl.Eq.oL_tyN, Pl.Eq.oL_app, Pl.Eq.oL_p0, Pl.Eq.oL_p1, Pl.Eq.oL_ex, Pl.Eq.oL_ins, Pl.Eq.oD_dic, Pl.Eq.oL_dic, Pl.Eq.oD_it, Pl.Eq.oD_ix, Pl.Eq.oD_set, Pl.Eq.oD_len, Pl.Eq.oD_in, Pl.Eq.oD_tyG, Pl.Eq.oD_tyH, Pl.Eq.oD_g1, Pl.Eq.oD_g2, Pl.Eq.fx_get, Pl.Eq.fx_get0, Pl.Eq.fx_set, Pl.Eq.fx_set0, Pl.Eq.fx_getS, Pl.Eq.fx_getS0, Pl.Eq.fx_setS, Pl.Eq.fx_setS0, Pl.Eq.at_nat, Pl.Eq.at_0, Pl.Eq.at_1, Pl.Eq.at_2, Pl.Eq.at_3, Pl.Eq.at_4, Pl.Eq.at_last, Pl.Eq.sz, Pl.Eq.ixN_0, Pl.Eq.ixN_1, Pl.Eq.ixN_2, Pl.Eq.ixN_3, Pl.Eq.ixN_4, List.getElem?_cons_zero, List.getElem?_cons_succ, List.set_cons_zero, List.set_cons_succ, Option.some.injEq, exists_eq_left, exists_eq_left', U.int.injEq, U.bl.injEq, U.tup.injEq, U.lst.injEq, Int.zero_add, Nat.reduceLeDiff, List.cons_append, List.nil_append, false_and, exists_false, exists_const, false_or, or_false, Pl.T.own, Pl.Ts.own, Pl.Ts.len, wipeU, Pl.Eq.eqI, Pl.Eq.eqB, beq_self_eq_true, Bool.not_true, Bool.not_false, Bool.false_eq_true, Bool.true_eq_false, reduceCtorEq, decide_true, decide_false, List.length_cons, List.length_nil, Nat.zero_add, Nat.reduceAdd, Nat.reduceLT, if_true, if_false, reduceIte, true_and, and_true, List.set_set, List.append_assoc, List.length_append, List.length_set, Nat.add_zero, List.append_nil, $as,*]))
local macro_rules | `(tactic| dsimp! [$as,*]) => `(tactic| (try simp only [Pl.Eq.e_cst, Pl.Eq.b_cst, Pl.Eq.e_var, Pl.Eq.b_var, Pl.Eq.e_bin, Pl.Eq.b_bin, Pl.Eq.e_neg, Pl.Eq.e_not, Pl.Eq.b_not, Pl.Eq.e_bop, Pl.Eq.b_bop, Pl.Eq.e_cmp, Pl.Eq.b_cmp, Pl.Eq.e_cmp2, Pl.Eq.b_cmp2, Pl.Eq.e_ife, Pl.Eq.b_ife, Pl.Eq.e_call, Pl.Eq.b_call, Pl.Eq.e_bi, Pl.Eq.b_bi, Pl.Eq.e_isi, Pl.Eq.b_isi, Pl.Eq.e_mth, Pl.Eq.e_ix, Pl.Eq.b_ix, Pl.Eq.e_sl, Pl.Eq.e_tup, Pl.Eq.e_lst, Pl.Eq.e_lc, Pl.Eq.e_lc2, Pl.Eq.e_lrg, Pl.Eq.e_dic, Pl.Eq.es_nil, Pl.Eq.es_cons, Pl.Eq.o_none, Pl.Eq.o_some, Pl.Eq.bb_nil, Pl.Eq.bb_cons, Pl.Eq.bo_one, Pl.Eq.bo_cons, Pl.Eq.f_nil, Pl.Eq.f_cons, Pl.Eq.i_val, Pl.Eq.i_rng1, Pl.Eq.i_rng2, Pl.Eq.i_rng3, Pl.Eq.i_enum, Pl.Eq.t_nm, Pl.Eq.t_tp, Pl.Eq.ts_nil, Pl.Eq.ts_cons, Pl.Eq.t_sub, Pl.Eq.s_expr, Pl.Eq.s_asg, Pl.Eq.s_par, Pl.Eq.s_aug, Pl.Eq.s_ret, Pl.Eq.s_retN, Pl.Eq.s_ifs, Pl.Eq.s_fr, Pl.Eq.s_brk, Pl.Eq.s_cnt, Pl.Eq.s_pass, Pl.Eq.ss_nil, Pl.Eq.p_addI, Pl.Eq.p_addT, Pl.Eq.p_subI, Pl.Eq.p_mulI, Pl.Eq.p_fdivI, Pl.Eq.p_modI, Pl.Eq.p_powI, Pl.Eq.p_lt, Pl.Eq.p_le, Pl.Eq.p_gt, Pl.Eq.p_ge, Pl.Eq.p_eq, Pl.Eq.p_ne, Pl.Eq.p_isN, Pl.Eq.p_notN, Pl.Eq.p_isB, Pl.Eq.p_notB, Pl.Eq.t_bl, Pl.Eq.t_int, Pl.Eq.t_tup, Pl.Eq.t_lst, Pl.Eq.mk_t, Pl.Eq.mk_f, Pl.Eq.i_non_tup, Pl.Eq.i_non_lst, Pl.Eq.i_non_int, Pl.Eq.i_non_bl, Pl.Eq.i_non_str, Pl.Eq.i_non_dic, Pl.Eq.i_bl_tup, Pl.Eq.i_bl_lst, Pl.Eq.i_bl_int, Pl.Eq.i_bl_bl, Pl.Eq.i_bl_str, Pl.Eq.i_bl_dic, Pl.Eq.i_int_tup, Pl.Eq.i_int_lst, Pl.Eq.i_int_int, Pl.Eq.i_int_bl, Pl.Eq.i_int_str, Pl.Eq.i_int_dic, Pl.Eq.i_str_tup, Pl.Eq.i_str_lst, Pl.Eq.i_str_int, Pl.Eq.i_str_bl, Pl.Eq.i_str_str, Pl.Eq.i_str_dic, Pl.Eq.i_tup_tup, Pl.Eq.i_tup_lst, Pl.Eq.i_tup_int, Pl.Eq.i_tup_bl, Pl.Eq.i_tup_str, Pl.Eq.i_tup_dic, Pl.Eq.i_lst_tup, Pl.Eq.i_lst_lst, Pl.Eq.i_lst_int, Pl.Eq.i_lst_bl, Pl.Eq.i_lst_str, Pl.Eq.i_lst_dic, Pl.Eq.n_non, Pl.Eq.n_bl, Pl.Eq.n_int, Pl.Eq.n_str, Pl.Eq.n_tup, Pl.Eq.n_lst, Pl.Eq.p_slT, Pl.Eq.p_lenT, Pl.Eq.p_lenL, Pl.Eq.p_lenR, Pl.Eq.p_intI, Pl.Eq.p_tuple, Pl.Eq.p_list, Pl.Eq.p_sorted, Pl.Eq.p_max1, Pl.Eq.p_min1, Pl.Eq.p_min, Pl.Eq.p_intB, Pl.Eq.p_mulT, Pl.Eq.p_addLL, Pl.Eq.p_slL, Pl.Eq.it_tup, Pl.Eq.it_lst, Pl.Eq.it_ro, Pl.Eq.si_lst, Pl.Eq.p_all, Pl.Eq.p_any, Pl.Eq.p_max, Pl.Eq.q_tup, Pl.Eq.q_lst, Pl.Eq.q_ro, Pl.Eq.l_lst, Pl.Eq.src_tup, Pl.Eq.src_lst, Pl.Eq.src_ro, Pl.Eq.src_mr, Pl.Eq.atP_some, Pl.Eq.x_tup_, Pl.Eq.x_lst_, Pl.Eq.x_ro_, Pl.Eq.seq_mr, Pl.Eq.lst_mr, Pl.Eq.dic_mr, Pl.Eq.tru_mr, Pl.Eq.it_mr, Pl.Eq.si_mr, Pl.Eq.x_mr, Pl.Eq.set_mr, Pl.Eq.len_mr, Pl.Eq.in_mr, Pl.Eq.nin_mr, Pl.Eq.ty_mr, Pl.Eq.mt_app, Pl.Eq.mt_p0, Pl.Eq.mt_p1, Pl.Eq.mt_ex, Pl.Eq.mt_in, Pl.Eq.mt_g1, Pl.Eq.mt_g2, Pl.Eq.oL_seq, Pl.Eq.oL_tru, Pl.Eq.oL_it, Pl.Eq.oL_ix, Pl.Eq.oL_set, Pl.Eq.oL_len, Pl.Eq.oL_in, Pl.Eq.oL_tyA, Pl.Eq.oL_tyI, Pl.Eq.oL_tyP, Pl.Eq.oL_tyQ, Pl.Eq.oL_tyE, Pl.Eq.oL_tyN, Pl.Eq.oL_app, Pl.Eq.oL_p0, Pl.Eq.oL_p1, Pl.Eq.oL_ex, Pl.Eq.oL_ins, Pl.Eq.oD_dic, Pl.Eq.oL_dic, Pl.Eq.oD_it, Pl.Eq.oD_ix, Pl.Eq.oD_set, Pl.Eq.oD_len, Pl.Eq.oD_in, Pl.Eq.oD_tyG, Pl.Eq.oD_tyH, Pl.Eq.oD_g1, Pl.Eq.oD_g2, Pl.Eq.fx_get, Pl.Eq.fx_get0, Pl.Eq.fx_set, Pl.Eq.fx_set0, Pl.Eq.fx_getS, Pl.Eq.fx_getS0, Pl.Eq.fx_setS, Pl.Eq.fx_setS0, Pl.Eq.at_nat, Pl.Eq.at_0, Pl.Eq.at_1, Pl.Eq.at_2, Pl.Eq.at_3, Pl.Eq.at_4, Pl.Eq.at_last, Pl.Eq.sz, Pl.Eq.ixN_0, Pl.Eq.ixN_1, Pl.Eq.ixN_2, Pl.Eq.ixN_3, Pl.Eq.ixN_4, List.getElem?_cons_zero, List.getElem?_cons_succ, List.set_cons_zero, List.set_cons_succ, Option.some.injEq, exists_eq_left, exists_eq_left', U.int.injEq, U.bl.injEq, U.tup.injEq, U.lst.injEq, Int.zero_add, Nat.reduceLeDiff, List.cons_append, List.nil_append, false_and, exists_false, exists_const, false_or, or_false, Pl.T.own, Pl.Ts.own, Pl.Ts.len, wipeU, Pl.Eq.eqI, Pl.Eq.eqB, beq_self_eq_true, Bool.not_true, Bool.not_false, Bool.false_eq_true, Bool.true_eq_false, reduceCtorEq, decide_true, decide_false, List.length_cons, List.length_nil, Nat.zero_add, Nat.reduceAdd, Nat.reduceLT, if_true, if_false, reduceIte, true_and, and_true, List.set_set, List.append_assoc, List.length_append, List.length_set, Nat.add_zero, List.append_nil, $as,*]))
def PO (c N : Nat) (p : Pc) : Prop := ∀ u k, p = some (u, k) → (∃ xs, u = .tup xs ∧ xs.length ≤ c ∧ ∀ x ∈ xs, leaf x) ∧ k < N
theorem cutU_to {α : Type} (f : α → U) {xs : List α} {k : Nat} : cutU (xs.map f) none (some (k : Int)) = (xs.take k).map f := by rw [cut_to, List.map_take]
theorem cutU_fr1 {α : Type} (f : α → U) {xs : List α} {k : Nat} : cutU (xs.map f) (some ((k : Int) + 1)) none = (xs.drop (k + 1)).map f := by rw [cut_fr1, List.map_drop]
section
variable {tbl : Str → Option Fn} {n : Nat} {h : Hu} {Q : QE} {E : Ex → Hu → Prop}
variable (f_mix : tbl "_law_mix" = some ⟨1, 1, t_mix⟩) (f_take : tbl "_law_take" = some ⟨2, 4, t_take⟩)
include f_mix f_take
theorem c_changed (f_numb : tbl "_law_numbered" = some ⟨2, 7, m_law_numbered⟩) (f_changed : tbl "_law_changed" = some ⟨2, 9, m_law_changed⟩) {t : Nat} {o : O} {rs : List U} {T : Tb} {c : Nat} (ht : t < h.length) (ho : IsTape o) (gr : RsOk rs) (hm : MOk c rs.length T) (hl : T.length ≤ 40) (c1 : 1 ≤ c) (c2 : c ≤ 900)
    (q : ∀ (M : Tb) o, MOk (c + 1) rs.length M → M.length ≤ T.length → IsTape o → Q (.tup [.tup rs, encT M]) (h.set t o)) : callN tbl (n + 3) "_law_changed" [.mr t, .tup [.tup rs, encT T]] (h.set t o) Q E := by
  refine call_in f_changed rfl (g := [some (.mr t), some (.tup [.tup rs, encT T]), none, none, none, none, none, none, none]) rfl ?_
  unfold m_law_changed
  have hs : 100000 ≤ sizeLine := by decide
  have g1 := gr.s
  have t0 : 0 < T.length := List.length_pos_iff.mpr hm.wf.ne
  have r0 : 0 < rs.length := List.length_pos_iff.mpr gr.ne
  simp_all! [encT]
  simp_all! [List.length_map]
  refine c_tk0 f_mix f_take ht ho (by omega) (by omega) fun k1 o1 k11 ho1 => ?_
  dsimp! []
  simp_all! [List.length_map]
  refine c_tk0 f_mix f_take ht ho1 (by omega) (by omega) fun k2 o2 k21 ho2 => ?_
  dsimp! []
  have hk1 : k1 < T.length := by omega
  have e1 : (T.map encL)[k1]? = some (encL T[k1]) := by rw [List.getElem?_map, List.getElem?_eq_getElem hk1]; rfl
  have lm : T[k1] ∈ T := List.getElem_mem _
  generalize hlg : T[k1] = l at *
  have ll := hm.wf.len l lm
  have hk2 : k2 < l.length := by omega
  have e2 : (l.map encP)[k2]? = some (encP l[k2]) := by rw [List.getElem?_map, List.getElem?_eq_getElem hk2]; rfl
  have pm : l[k2] ∈ l := List.getElem_mem _
  generalize hpg : l[k2] = p at *
  have hp : PO c T.length p := fun u k e => ⟨hm.out l lm u k (e ▸ pm), (hm.wf.pl l lm u k (e ▸ pm)).2⟩
  simp_all! [e1, encL, e2]
  refine cutSs (fun g h' => ∃ (o : O) (p' : Pc), IsTape o ∧ PO (c + 1) T.length p' ∧ h' = h.set t o ∧
    g = [some (.mr t), some (.tup [.tup rs, .tup (T.map encL)]), some (.tup rs), some (.tup (T.map encL)), some (.int k1), some (.int k2), some (encP p), some (encP p'), none]) (fun N hN => ?_) ?_
  · dsimp! [List.length_map]
    refine c_tk0 f_mix f_take ht ho2 (by omega) (by omega) fun k3 o3 k31 ho3 => ?_
    dsimp! []
    refine c_tk0 f_mix f_take ht ho3 (by omega) (by omega) fun k4 o4 k41 ho4 => ?_
    dsimp! []
    have : k4 = 0 ∨ k4 = 1 ∨ k4 = 2 ∨ k4 = 3 := by omega
    rcases this with rfl | rfl | rfl | rfl
    · dsimp! []
      exact hN _ _ ⟨o4, none, ho4, (fun _ _ e => by cases e), rfl, rfl⟩
    · dsimp! []
      exact hN _ _ ⟨o4, some (.tup [.int 7], 0), ho4, fun _ _ e => by cases e; exact ⟨⟨_, rfl, by simp, by simp [leaf]⟩, t0⟩, rfl, rfl⟩
    · dsimp! []
      exact hN _ _ ⟨o4, some (.tup [.int 1], k3), ho4, fun _ _ e => by cases e; exact ⟨⟨_, rfl, by simp, by simp [leaf]⟩, by omega⟩, rfl, rfl⟩
    · dsimp! []
      exact hN _ _ ⟨o4, some (.tup [.bl true], 0), ho4, fun _ _ e => by cases e; exact ⟨⟨_, rfl, by simp, by simp [leaf]⟩, t0⟩, rfl, rfl⟩
  rintro _ _ ⟨o3, p1, ho3, hp1, rfl, rfl⟩
  refine cutSs (fun g h' => ∃ (o : O) (p' : Pc), IsTape o ∧ PO (c + 1) T.length p' ∧ h' = h.set t o ∧
    g = [some (.mr t), some (.tup [.tup rs, .tup (T.map encL)]), some (.tup rs), some (.tup (T.map encL)), some (.int k1), some (.int k2), some (encP p), some (encP p'), none]) (fun N hN => ?_) ?_
  · cases p with
    | none =>
      dsimp! [encP]
      exact hN _ _ ⟨o3, p1, ho3, hp1, rfl, rfl⟩
    | some p =>
      obtain ⟨u, j⟩ := p
      obtain ⟨⟨xs, rfl, lx, hx⟩, hj⟩ := hp u j rfl
      have px : pd 64 (.tup xs) := pd_mono (d := 2) (by decide) fun x m => leaf_pd (hx x m)
      have pe : pd 64 (.tup []) := by simp [pd]
      dsimp! [encP]
      refine c_tk0 f_mix f_take ht ho3 (by omega) (by omega) fun k4 o4 k41 ho4 => ?_
      dsimp! []
      by_cases z : k4 = 0
      · subst z
        dsimp! []
        have fin0 : ∀ o, IsTape o → N [some (.mr t), some (.tup [.tup rs, .tup (T.map encL)]), some (.tup rs), some (.tup (T.map encL)), some (.int k1), some (.int k2), some (encP (some (.tup xs, j))), some (.tup [.tup (xs ++ [.int 0]), .int j]), none] (h.set t o) := fun o ho =>
          hN _ _ ⟨o, some (.tup (xs ++ [.int 0]), j), ho, fun _ _ e => by
            cases e
            refine ⟨⟨_, rfl, by simp; omega, fun x m => ?_⟩, hj⟩
            rcases List.mem_append.mp m with z | z
            · exact hx x z
            · rw [List.mem_singleton.mp z]; trivial, rfl, rfl⟩
        simp_all! []
        refine c_tk0 f_mix f_take ht ho4 (by omega) (by omega) fun k5 o5 k51 ho5 => ?_
        dsimp! []
        by_cases z5 : k5 = 0
        · subst z5
          dsimp! []
          exact ⟨by omega, fin0 o5 ho5⟩
        · have z6 : ((k5 : Int) == 0) = false := by simpa using z5
          rw [z6]
          dsimp! [eqP px pe]
          generalize PyData.eqv (dat (.tup xs)) (dat (.tup [])) = bb
          cases bb with
          | true =>
            dsimp! []
            exact ⟨by omega, fin0 o5 ho5⟩
          | false =>
            dsimp! [cut_init]
            refine ⟨by rw [List.length_take]; omega, hN _ _ ⟨o5, some (.tup (xs.take (xs.length - 1) ++ [.str "last"]), j), ho5, fun _ _ e => ?_, rfl, rfl⟩⟩
            cases e
            refine ⟨⟨_, rfl, by simp; omega, fun x m => ?_⟩, hj⟩
            rcases List.mem_append.mp m with z | z
            · exact hx x (List.mem_of_mem_take z)
            · rw [List.mem_singleton.mp z]
              show PyData.strOk _ = true
              decide +kernel
      · have z6 : ((k4 : Int) == 0) = false := by simpa using z
        rw [z6]
        dsimp! []
        exact hN _ _ ⟨o4, p1, ho4, hp1, rfl, rfl⟩
  rintro _ _ ⟨o4, p2, ho4, hp2, rfl, rfl⟩
  simp_all! [e1, encL, cutU_to, cutU_fr1]
  refine ⟨by simp; omega, by simp; omega, ?_⟩
  simp_all! [cutU_to, cutU_fr1]
  refine ⟨by simp; omega, by simp; omega, ?_⟩
  have el : U.tup ((l.take k2).map encP ++ encP p2 :: (l.drop (k2 + 1)).map encP) = encL (l.take k2 ++ p2 :: l.drop (k2 + 1)) := by simp [encL]
  have eM : (T.take k1).map encL ++ encL (l.take k2 ++ p2 :: l.drop (k2 + 1)) :: (T.drop (k1 + 1)).map encL = (T.take k1 ++ (l.take k2 ++ p2 :: l.drop (k2 + 1)) :: T.drop (k1 + 1)).map encL := by simp
  rw [el, eM]
  generalize hM : T.take k1 ++ (l.take k2 ++ p2 :: l.drop (k2 + 1)) :: T.drop (k1 + 1) = M
  have ml : M.length = T.length := by rw [← hM]; simp; omega
  have mem : ∀ l' ∈ M, l' ∈ T ∨ l' = l.take k2 ++ p2 :: l.drop (k2 + 1) := fun l' m => by
    rw [← hM] at m
    rcases List.mem_append.mp m with z | z
    · exact .inl (List.mem_of_mem_take z)
    · rcases List.mem_cons.mp z with z | z
      · exact .inr z
      · exact .inl (List.mem_of_mem_drop z)
  have good : ∀ l' ∈ M, l'.length = rs.length ∧ ∀ u k, some (u, k) ∈ l' → (∃ xs, u = .tup xs ∧ xs.length ≤ c + 1 ∧ ∀ x ∈ xs, leaf x) ∧ k < T.length := fun l' m => by
    rcases mem l' m with z | rfl
    · exact ⟨hm.wf.len l' z, fun u k mk => ⟨(hm.out l' z u k mk).imp fun _ y => ⟨y.1, by omega, y.2.2⟩, (hm.wf.pl l' z u k mk).2⟩⟩
    · refine ⟨by simp; omega, fun u k mk => ?_⟩
      rcases List.mem_append.mp mk with z | z
      · have z := List.mem_of_mem_take z
        exact ⟨(hm.out l lm u k z).imp fun _ y => ⟨y.1, by omega, y.2.2⟩, (hm.wf.pl l lm u k z).2⟩
      · rcases List.mem_cons.mp z with z | z
        · exact hp2 u k z.symm
        · have z := List.mem_of_mem_drop z
          exact ⟨(hm.out l lm u k z).imp fun _ y => ⟨y.1, by omega, y.2.2⟩, (hm.wf.pl l lm u k z).2⟩
  have wf : Wf rs.length M := ⟨fun z => by rw [z] at ml; simp at ml; omega, fun l m => (good l m).1, fun l lm u k mk => ⟨((good l lm).2 u k mk).1.imp fun _ z => z.1, by have := ((good l lm).2 u k mk).2; omega⟩, by omega⟩
  have out : ∀ l ∈ M, ∀ u k, some (u, k) ∈ l → ∃ xs, u = .tup xs ∧ xs.length ≤ c + 1 ∧ ∀ x ∈ xs, leaf x := fun l lm u k mk => ((good l lm).2 u k mk).1
  have mk := numb_mok wf out
  refine c_numb f_numb (w := rs.length) (tabV_tup (t := M)) wf (by omega) gr.p (fun l lm u k mk => ?_) (stl_tape0 (q _ _ mk (Nat.le_trans (numb_le wf) (by omega)) ho4))
  obtain ⟨xs, rfl, _, hx⟩ := out l lm u k mk
  exact pd_mono (by decide) (show pd 2 (.tup xs) from fun x m => leaf_pd (hx x m))
end
end Pl.Ma
set_option Elab.async false
set_option linter.all false
set_option maxRecDepth 100000
set_option autoImplicit false
/-! machines compared: the breadth first walk over pairs. -/
namespace Pl.Ma
open PySem Pl L2 Pl.Eq Pl.Tp
local macro_rules | `(tactic| simp_all! [$as,*]) => `(tactic| ((try dsimp only); rw [Pl.Eq.ss_cons]; simp only [Pl.Eq.e_cst, Pl.Eq.b_cst, Pl.Eq.e_var, Pl.Eq.b_var, Pl.Eq.e_bin, Pl.Eq.b_bin, Pl.Eq.e_neg, Pl.Eq.e_not, Pl.Eq.b_not, Pl.Eq.e_bop, Pl.Eq.b_bop, Pl.Eq.e_cmp, Pl.Eq.b_cmp, Pl.Eq.e_cmp2, Pl.Eq.b_cmp2, Pl.Eq.e_ife, Pl.Eq.b_ife, Pl.Eq.e_call, Pl.Eq.b_call, Pl.Eq.e_bi, Pl.Eq.b_bi, Pl.Eq.e_isi, Pl.Eq.b_isi, Pl.Eq.e_mth, Pl.Eq.e_ix, Pl.Eq.b_ix, Pl.Eq.e_sl, Pl.Eq.e_tup, Pl.Eq.e_lst, Pl.Eq.e_lc, Pl.Eq.e_lc2, Pl.Eq.e_lrg, Pl.Eq.e_dic, Pl.Eq.es_nil, Pl.Eq.es_cons, Pl.Eq.o_none, Pl.Eq.o_some, Pl.Eq.bb_nil, Pl.Eq.bb_cons, Pl.Eq.bo_one, Pl.Eq.bo_cons, Pl.Eq.f_nil, Pl.Eq.f_cons, Pl.Eq.i_val, Pl.Eq.i_rng1, Pl.Eq.i_rng2, Pl.Eq.i_rng3, Pl.Eq.i_enum, Pl.Eq.t_nm, Pl.Eq.t_tp, Pl.Eq.ts_nil, Pl.Eq.ts_cons, Pl.Eq.t_sub, Pl.Eq.s_expr, Pl.Eq.s_asg, Pl.Eq.s_par, Pl.Eq.s_aug, Pl.Eq.s_ret, Pl.Eq.s_retN, Pl.Eq.s_ifs, Pl.Eq.s_fr, Pl.Eq.s_brk, Pl.Eq.s_cnt, Pl.Eq.s_pass, Pl.Eq.ss_nil, Pl.Eq.p_addI, Pl.Eq.p_addT, Pl.Eq.p_subI, Pl.Eq.p_mulI, Pl.Eq.p_fdivI, Pl.Eq.p_modI, Pl.Eq.p_powI, Pl.Eq.p_lt, Pl.Eq.p_le, Pl.Eq.p_gt, Pl.Eq.p_ge, Pl.Eq.p_eq, Pl.Eq.p_ne, Pl.Eq.p_isN, Pl.Eq.p_notN, Pl.Eq.p_isB, Pl.Eq.p_notB, Pl.Eq.t_bl, Pl.Eq.t_int, Pl.Eq.t_tup, Pl.Eq.t_lst, Pl.Eq.mk_t, Pl.Eq.mk_f, Pl.Eq.i_non_tup, Pl.Eq.i_non_lst, Pl.Eq.i_non_int, Pl.Eq.i_non_bl, Pl.Eq.i_non_str, Pl.Eq.i_non_dic, Pl.Eq.i_bl_tup, Pl.Eq.i_bl_lst, Pl.Eq.i_bl_int, Pl.Eq.i_bl_bl, Pl.Eq.i_bl_str, Pl.Eq.i_bl_dic, Pl.Eq.i_int_tup, Pl.Eq.i_int_lst, Pl.Eq.i_int_int, Pl.Eq.i_int_bl, Pl.Eq.i_int_str, Pl.Eq.i_int_dic, Pl.Eq.i_str_tup, Pl.Eq.i_str_lst, Pl.Eq.i_str_int, Pl.Eq.i_str_bl, Pl.Eq.i_str_str, Pl.Eq.i_str_dic, Pl.Eq.i_tup_tup, Pl.Eq.i_tup_lst, Pl.Eq.i_tup_int, Pl.Eq.i_tup_bl, Pl.Eq.i_tup_str, Pl.Eq.i_tup_dic, Pl.Eq.i_lst_tup, Pl.Eq.i_lst_lst, Pl.Eq.i_lst_int, Pl.Eq.i_lst_bl, Pl.Eq.i_lst_str, Pl.Eq.i_lst_dic, Pl.Eq.n_non, Pl.Eq.n_bl, Pl.Eq.n_int, Pl.Eq.n_str, Pl.Eq.n_tup, Pl.Eq.n_lst, Pl.Eq.p_slT, Pl.Eq.p_lenT, Pl.Eq.p_lenL, Pl.Eq.p_lenR, Pl.Eq.p_intI, Pl.Eq.p_tuple, Pl.Eq.p_list, Pl.Eq.p_sorted, Pl.Eq.p_max1, Pl.Eq.p_min1, Pl.Eq.p_min, Pl.Eq.p_intB, Pl.Eq.p_mulT, Pl.Eq.p_addLL, Pl.Eq.p_slL, Pl.Eq.it_tup, Pl.Eq.it_lst, Pl.Eq.it_ro, Pl.Eq.si_lst, Pl.Eq.p_all, Pl.Eq.p_any, Pl.Eq.p_max, Pl.Eq.q_tup, Pl.Eq.q_lst, Pl.Eq.q_ro, Pl.Eq.l_lst, Pl.Eq.src_tup, Pl.Eq.src_lst, Pl.Eq.src_ro, Pl.Eq.src_mr, Pl.Eq.atP_some, Pl.Eq.x_tup_, Pl.Eq.x_lst_, Pl.Eq.x_ro_, Pl.Eq.seq_mr, Pl.Eq.lst_mr, Pl.Eq.dic_mr, Pl.Eq.tru_mr, Pl.Eq.it_mr, Pl.Eq.si_mr, Pl.Eq.x_mr, Pl.Eq.set_mr, Pl.Eq.len_mr, Pl.Eq.in_mr, Pl.Eq.nin_mr, Pl.Eq.ty_mr, Pl.Eq.mt_app, Pl.Eq.mt_p0, Pl.Eq.mt_p1, Pl.Eq.mt_ex, Pl.Eq.mt_in, Pl.Eq.mt_g1, Pl.Eq.mt_g2, Pl.Eq.oL_seq, Pl.Eq.oL_tru, Pl.Eq.oL_it, Pl.Eq.oL_ix, Pl.Eq.oL_set, Pl.Eq.oL_len, Pl.Eq.oL_in, Pl.Eq.oL_tyA, Pl.Eq.oL_tyI, Pl.Eq.oL_tyP, Pl.Eq.oL_tyQ, Pl.Eq.oL_tyE, Pl.Eq.oL_tyN, Pl.Eq.oL_app, Pl.Eq.oL_p0, Pl.Eq.oL_p1, Pl.Eq.oL_ex, Pl.Eq.oL_ins, Pl.Eq.oD_dic, Pl.Eq.oL_dic, Pl.Eq.oD_it, Pl.Eq.oD_ix, Pl.Eq.oD_set, Pl.Eq.oD_len, Pl.Eq.oD_in, Pl.Eq.oD_tyG, Pl.Eq.oD_tyH, Pl.Eq.oD_g1, Pl.Eq.oD_g2, Pl.Eq.fx_get, Pl.Eq.fx_get0, Pl.Eq.fx_set, Pl.Eq.fx_set0, Pl.Eq.fx_getS, Pl.Eq.fx_getS0, Pl.Eq.fx_setS, Pl.Eq.fx_setS0, Pl.Eq.at_nat, Pl.Eq.at_0, Pl.Eq.at_1, Pl.Eq.at_2, Pl.Eq.at_3, Pl.Eq.at_4, Pl.Eq.at_last, Pl.Eq.sz, Pl.Eq.ixN_0, Pl.Eq.ixN_1, Pl.Eq.ixN_2, Pl.Eq.ixN_3, Pl.Eq.ixN_4, List.getElem?_cons_zero, List.getElem?_cons_succ, List.set_cons_zero, List.set_cons_succ, Option.some.injEq, exists_eq_left, exists_eq_left', U.int.injEq, U.bl.injEq, U.tup.injEq, U.lst.injEq, Int.zero_add, Nat.reduceLeDiff, List.cons_append, List.nil_append, false_and, exists_false, exists_const, false_or, or_false, Pl.T.own, Pl.Ts.own, Pl.Ts.len, wipeU, Pl.Eq.eqI, Pl.Eq.eqB, beq_self_eq_true, Bool.not_true, Bool.not_false, Bool.false_eq_true, Bool.true_eq_false, reduceCtorEq, decide_true, decide_false, List.length_cons, List.length_nil, Nat.zero_add, Nat.reduceAdd, Nat.reduceLT, if_true, if_false, reduceIte, true_and, and_true, List.set_set, List.append_assoc, List.length_append, List.length_set, Nat.add_zero, List.append_nil, $as,*]))
local macro_rules | `(tactic| dsimp! [$as,*]) => `(tactic| (try simp only [Pl.Eq.e_cst, Pl.Eq.b_cst, Pl.Eq.e_var, Pl.Eq.b_var, Pl.Eq.e_bin, Pl.Eq.b_bin, Pl.Eq.e_neg, Pl.Eq.e_not, Pl.Eq.b_not, Pl.Eq.e_bop, Pl.Eq.b_bop, Pl.Eq.e_cmp, Pl.Eq.b_cmp, Pl.Eq.e_cmp2, Pl.Eq.b_cmp2, Pl.Eq.e_ife, Pl.Eq.b_ife, Pl.Eq.e_call, Pl.Eq.b_call, Pl.Eq.e_bi, Pl.Eq.b_bi, Pl.Eq.e_isi, Pl.Eq.b_isi, Pl.Eq.e_mth, Pl.Eq.e_ix, Pl.Eq.b_ix, Pl.Eq.e_sl, Pl.Eq.e_tup, Pl.Eq.e_lst, Pl.Eq.e_lc, Pl.Eq.e_lc2, Pl.Eq.e_lrg, Pl.Eq.e_dic, Pl.Eq.es_nil, Pl.Eq.es_cons, Pl.Eq.o_none, Pl.Eq.o_some, Pl.Eq.bb_nil, Pl.Eq.bb_cons, Pl.Eq.bo_one, Pl.Eq.bo_cons, Pl.Eq.f_nil, Pl.Eq.f_cons, Pl.Eq.i_val, Pl.Eq.i_rng1, Pl.Eq.i_rng2, Pl.Eq.i_rng3, Pl.Eq.i_enum, Pl.Eq.t_nm, Pl.Eq.t_tp, Pl.Eq.ts_nil, Pl.Eq.ts_cons, Pl.Eq.t_sub, Pl.Eq.s_expr, Pl.Eq.s_asg, Pl.Eq.s_par, Pl.Eq.s_aug, Pl.Eq.s_ret, Pl.Eq.s_retN, Pl.Eq.s_ifs, Pl.Eq.s_fr, Pl.Eq.s_brk, Pl.Eq.s_cnt, Pl.Eq.s_pass, Pl.Eq.ss_nil, Pl.Eq.p_addI, Pl.Eq.p_addT, Pl.Eq.p_subI, Pl.Eq.p_mulI, Pl.Eq.p_fdivI, Pl.Eq.p_modI, Pl.Eq.p_powI, Pl.Eq.p_lt, Pl.Eq.p_le, Pl.Eq.p_gt, Pl.Eq.p_ge, Pl.Eq.p_eq, Pl.Eq.p_ne, Pl.Eq.p_isN, Pl.Eq.p_notN, Pl.Eq.p_isB, Pl.Eq.p_notB, Pl.Eq.t_bl, Pl.Eq.t_int, Pl.Eq.t_tup, Pl.Eq.t_lst, Pl.Eq.mk_t, Pl.Eq.mk_f, Pl.Eq.i_non_tup, Pl.Eq.i_non_lst, Pl.Eq.i_non_int, Pl.Eq.i_non_bl, Pl.Eq.i_non_str, Pl.Eq.i_non_dic, Pl.Eq.i_bl_tup, Pl.Eq.i_bl_lst, Pl.Eq.i_bl_int, Pl.Eq.i_bl_bl, Pl.Eq.i_bl_str, Pl.Eq.i_bl_dic, Pl.Eq.i_int_tup, Pl.Eq.i_int_lst, Pl.Eq.i_int_int, Pl.Eq.i_int_bl, Pl.Eq.i_int_str, Pl.Eq.i_int_dic, Pl.Eq.i_str_tup, Pl.Eq.i_str_lst, Pl.Eq.i_str_int, Pl.Eq.i_str_bl, Pl.Eq.i_str_str, Pl.Eq.i_str_dic, Pl.Eq.i_tup_tup, Pl.Eq.i_tup_lst, Pl.Eq.i_tup_int, Pl.Eq.i_tup_bl, Pl.Eq.i_tup_str, Pl.Eq.i_tup_dic, Pl.Eq.i_lst_tup, Pl.Eq.i_lst_lst, Pl.Eq.i_lst_int, Pl.Eq.i_lst_bl, Pl.Eq.i_lst_str, Pl.Eq.i_lst_dic, Pl.Eq.n_non, Pl.Eq.n_bl, Pl.Eq.n_int, Pl.Eq.n_str, Pl.Eq.n_tup, Pl.Eq.n_lst, Pl.Eq.p_slT, Pl.Eq.p_lenT, Pl.Eq.p_lenL, Pl.Eq.p_lenR, Pl.Eq.p_intI, Pl.Eq.p_tuple, Pl.Eq.p_list, Pl.Eq.p_sorted, Pl.Eq.p_max1, Pl.Eq.p_min1, Pl.Eq.p_min, Pl.Eq.p_intB, Pl.Eq.p_mulT, Pl.Eq.p_addLL, Pl.Eq.p_slL, Pl.Eq.it_tup, Pl.Eq.it_lst, Pl.Eq.it_ro, Pl.Eq.si_lst, Pl.Eq.p_all, Pl.Eq.p_any, Pl.Eq.p_max, Pl.Eq.q_tup, Pl.Eq.q_lst, Pl.Eq.q_ro, Pl.Eq.l_lst, Pl.Eq.src_tup, Pl.Eq.src_lst, Pl.Eq.src_ro, Pl.Eq.src_mr, Pl.Eq.atP_some, Pl.Eq.x_tup_, Pl.Eq.x_lst_, Pl.Eq.x_ro_, Pl.Eq.seq_mr, Pl.Eq.lst_mr, Pl.Eq.dic_mr, Pl.Eq.tru_mr, Pl.Eq.it_mr, Pl.Eq.si_mr, Pl.Eq.x_mr, Pl.Eq.set_mr, Pl.Eq.len_mr, Pl.Eq.in_mr, Pl.Eq.nin_mr, Pl.Eq.ty_mr, Pl.Eq.mt_app, Pl.Eq.mt_p0, Pl.Eq.mt_p1, Pl.Eq.mt_ex, Pl.Eq.mt_in, Pl.Eq.mt_g1, Pl.Eq.mt_g2, Pl.Eq.oL_seq, Pl.Eq.oL_tru, Pl.Eq.oL_it, Pl.Eq.oL_ix, Pl.Eq.oL_set, Pl.Eq.oL_len, Pl.Eq.oL_in, Pl.Eq.oL_tyA, Pl.Eq.oL_tyI, Pl.Eq.oL_tyP, Pl.Eq.oL_tyQ, Pl.Eq.oL_tyE, Pl.Eq.oL_tyN, Pl.Eq.oL_app, Pl.Eq.oL_p0, Pl.Eq.oL_p1, Pl.Eq.oL_ex, Pl.Eq.oL_ins, Pl.Eq.oD_dic, Pl.Eq.oL_dic, Pl.Eq.oD_it, Pl.Eq.oD_ix, Pl.Eq.oD_set, Pl.Eq.oD_len, Pl.Eq.oD_in, Pl.Eq.oD_tyG, Pl.Eq.oD_tyH, Pl.Eq.oD_g1, Pl.Eq.oD_g2, Pl.Eq.fx_get, Pl.Eq.fx_get0, Pl.Eq.fx_set, Pl.Eq.fx_set0, Pl.Eq.fx_getS, Pl.Eq.fx_getS0, Pl.Eq.fx_setS, Pl.Eq.fx_setS0, Pl.Eq.at_nat, Pl.Eq.at_0, Pl.Eq.at_1, Pl.Eq.at_2, Pl.Eq.at_3, Pl.Eq.at_4, Pl.Eq.at_last, Pl.Eq.sz, Pl.Eq.ixN_0, Pl.Eq.ixN_1, Pl.Eq.ixN_2, Pl.Eq.ixN_3, Pl.Eq.ixN_4, List.getElem?_cons_zero, List.getElem?_cons_succ, List.set_cons_zero, List.set_cons_succ, Option.some.injEq, exists_eq_left, exists_eq_left', U.int.injEq, U.bl.injEq, U.tup.injEq, U.lst.injEq, Int.zero_add, Nat.reduceLeDiff, List.cons_append, List.nil_append, false_and, exists_false, exists_const, false_or, or_false, Pl.T.own, Pl.Ts.own, Pl.Ts.len, wipeU, Pl.Eq.eqI, Pl.Eq.eqB, beq_self_eq_true, Bool.not_true, Bool.not_false, Bool.false_eq_true, Bool.true_eq_false, reduceCtorEq, decide_true, decide_false, List.length_cons, List.length_nil, Nat.zero_add, Nat.reduceAdd, Nat.reduceLT, if_true, if_false, reduceIte, true_and, and_true, List.set_set, List.append_assoc, List.length_append, List.length_set, Nat.add_zero, List.append_nil, $as,*]))
def m_compared : Ss := (.cons (.asg (.nm 2) (.dic (.cons (.tup (.cons (.cst (.int 0)) (.cons (.cst (.int 0)) .nil))) (.cons (.tup .nil) .nil))))
    (.cons (.asg (.nm 3) (.lst false (.cons (.tup (.cons (.cst (.int 0)) (.cons (.cst (.int 0)) .nil))) .nil)))
    (.cons (.wh (.var 3) (.cons (.asg (.nm 4) (.lst true .nil))
    (.cons (.fr (.nm 5) (.val (.var 3)) (.cons (.fr (.nm 6) (.rng1 (.bi .len false (.cons (.ix (.var 0) (.cst (.int 0))) .nil))) (.cons (.par 7 8 (.ix (.ix (.ix (.var 0) (.cst (.int 1))) (.ix (.var 5) (.cst (.int 0)))) (.var 6)) (.ix (.ix (.ix (.var 1) (.cst (.int 1))) (.ix (.var 5) (.cst (.int 1)))) (.var 6)))
    (.cons (.ifs (.call "differ" (.cons (.var 7) (.cons (.var 8) .nil))) (.cons (.ret (.tup (.cons (.cst (.str "apart")) (.cons (.bin .add false (.ix (.var 2) (.var 5)) (.tup (.cons (.var 6) .nil))) .nil))))
    .nil) .nil)
    (.cons (.ifs (.cmp .notN (.var 7) (.cst .non)) (.cons (.asg (.nm 9) (.tup (.cons (.ix (.var 7) (.cst (.int 1))) (.cons (.ix (.var 8) (.cst (.int 1))) .nil))))
    (.cons (.ifs (.cmp .nin (.var 9) (.var 2)) (.cons (.asg (.sub (.var 2) (.var 9)) (.bin .add false (.ix (.var 2) (.var 5)) (.tup (.cons (.var 6) .nil))))
    (.cons (.expr (.mth .append (.var 4) (.cons (.var 9) .nil)))
    .nil)) .nil)
    .nil)) .nil)
    .nil))))
    .nil))
    (.cons (.asg (.nm 3) (.var 4))
    .nil))))
    (.cons (.ret (.tup (.cons (.cst (.str "same")) (.cons (.bi .tuple false (.cons (.bi .sorted false (.cons (.var 2) .nil)) .nil)) .nil))))
    .nil))))
def m_law_due : Ss := (.cons (.asg (.nm 2) (.lst false (.cons (.tup (.cons (.tup .nil) (.cons (.tup (.cons (.cst (.int 0)) (.cons (.cst (.int 0)) .nil))) .nil))) .nil)))
    (.cons (.asg (.nm 3) (.dic (.cons (.tup (.cons (.cst (.int 0)) (.cons (.cst (.int 0)) .nil))) (.cons (.cst (.bl true)) .nil))))
    (.cons (.fr (.nm 4) (.rng1 (.bin .add false (.bin .mul false (.bi .len false (.cons (.ix (.var 0) (.cst (.int 1))) .nil)) (.bi .len false (.cons (.ix (.var 1) (.cst (.int 1))) .nil))) (.cst (.int 1)))) (.cons (.asg (.nm 5) (.lst true .nil))
    (.cons (.fr (.tp (.cons (.nm 6) (.cons (.nm 7) .nil))) (.val (.var 2)) (.cons (.fr (.nm 8) (.rng1 (.bi .len false (.cons (.ix (.var 0) (.cst (.int 0))) .nil))) (.cons (.asg (.nm 9) (.ix (.ix (.ix (.var 0) (.cst (.int 1))) (.ix (.var 7) (.cst (.int 0)))) (.var 8)))
    (.cons (.asg (.nm 10) (.ix (.ix (.ix (.var 1) (.cst (.int 1))) (.ix (.var 7) (.cst (.int 1)))) (.var 8)))
    (.cons (.ifs (.call "_law_differ" (.cons (.var 9) (.cons (.var 10) .nil))) (.cons (.ret (.tup (.cons (.cst (.str "apart")) (.cons (.bin .add false (.var 6) (.tup (.cons (.var 8) .nil))) .nil))))
    .nil) .nil)
    (.cons (.ifs (.bop true (.cons (.cmp .notN (.var 9) (.cst .non)) (.cons (.cmp .nin (.tup (.cons (.ix (.var 9) (.cst (.int 1))) (.cons (.ix (.var 10) (.cst (.int 1))) .nil))) (.var 3)) .nil))) (.cons (.asg (.sub (.var 3) (.tup (.cons (.ix (.var 9) (.cst (.int 1))) (.cons (.ix (.var 10) (.cst (.int 1))) .nil)))) (.cst (.bl true)))
    (.cons (.expr (.mth .append (.var 5) (.cons (.tup (.cons (.bin .add false (.var 6) (.tup (.cons (.var 8) .nil))) (.cons (.tup (.cons (.ix (.var 9) (.cst (.int 1))) (.cons (.ix (.var 10) (.cst (.int 1))) .nil))) .nil))) .nil)))
    .nil)) .nil)
    .nil)))))
    .nil))
    (.cons (.asg (.nm 2) (.var 5))
    (.cons (.ifs (.cmp .eq (.bi .len false (.cons (.var 2) .nil)) (.cst (.int 0))) (.cons .brk
    .nil) .nil)
    .nil)))))
    (.cons (.ret (.tup (.cons (.cst (.str "same")) (.cons (.bi .tuple false (.cons (.bi .sorted false (.cons (.var 3) .nil)) .nil)) .nil))))
    .nil))))
abbrev Ent := (Nat × Nat) × List Nat
def wayU (w : List Nat) : U := .tup (w.map fun (k : Nat) => .int k)
def pc (t : Tb) (s i : Nat) : Pc := (t.getD s []).getD i none
def nxP : Pc → Pc → Option (Nat × Nat)
  | some (_, x), some (_, y) => some (x, y)
  | _, _ => none
abbrev St := List Ent × List Ent
abbrev Bad := Except (List Nat)
def addE (D L : List Ent) (way : List Nat) : Option (Nat × Nat) → St
  | none => (D, L)
  | some p => if p ∈ D.map (·.1) then (D, L) else (D ++ [(p, way)], L ++ [(p, way)])
def goI (t1 t2 : Tb) (e : Ent) : Nat → Nat → St → Bad St
  | 0, _, s => .ok s
  | f + 1, i, s => if difP (pc t1 e.1.1 i) (pc t2 e.1.2 i) = true then .error (e.2 ++ [i]) else
      goI t1 t2 e f (i + 1) (addE s.1 s.2 (e.2 ++ [i]) (nxP (pc t1 e.1.1 i) (pc t2 e.1.2 i)))
def goT (t1 t2 : Tb) (w : Nat) : List Ent → St → Bad St
  | [], s => .ok s
  | e :: r, s => match goI t1 t2 e w 0 s with
    | .error z => .error z
    | .ok s' => goT t1 t2 w r s'
def aft (b : List Ent → List Ent → Bad (List Ent)) : Bad St → Bad (List Ent)
  | .error z => .error z
  | .ok s => if s.2 = [] then .ok s.1 else b s.1 s.2
def bfs (t1 t2 : Tb) (w : Nat) : Nat → List Ent → List Ent → Bad (List Ent)
  | 0, D, _ => .ok D
  | f + 1, D, T => aft (bfs t1 t2 w f) (goT t1 t2 w T (D, []))
def resU : Bad (List Ent) → U
  | .error w => .tup [.str "apart", wayU w]
  | .ok D => .tup [.str "same", .tup (srtU (D.map fun e => prU e.1))]
def D0 : List Ent := [((0, 0), [])]
def walk (t1 t2 : Tb) (w : Nat) : Bad (List Ent) := bfs t1 t2 w (t1.length * t2.length + 1) D0 D0
/-- what holds of the pairs met -/
structure DOk (n1 n2 : Nat) (D : List Ent) : Prop where
  nd : (D.map (·.1)).Nodup
  b : ∀ e ∈ D, e.1.1 < n1 ∧ e.1.2 < n2
  l : ∀ e ∈ D, e.2.length < D.length
theorem DOk.len {n1 n2 : Nat} {D : List Ent} (h : DOk n1 n2 D) : D.length ≤ n1 * n2 := by
  have := nodup_le (n := n1 * n2) (l := (D.map (·.1)).map fun p => p.1 * n2 + p.2) ?_ ?_
  · simpa using this
  · refine (List.pairwise_map).mpr ?_
    refine List.Pairwise.imp_of_mem ?_ h.nd
    intro a b ma mb ne e
    obtain ⟨x, mx, rfl⟩ := List.mem_map.mp ma
    obtain ⟨y, my, rfl⟩ := List.mem_map.mp mb
    have bx := (h.b x mx).2
    have bY := (h.b y my).2
    refine ne (Prod.ext ?_ ?_)
    · have h1 := congrArg (· / n2) e
      rw [Nat.mul_comm, Nat.mul_comm y.1.1, Nat.mul_add_div (by omega), Nat.mul_add_div (by omega), Nat.div_eq_of_lt bx, Nat.div_eq_of_lt bY] at h1
      simpa using h1
    · have h1 := congrArg (· % n2) e
      rw [Nat.mul_comm, Nat.mul_comm y.1.1, Nat.mul_add_mod, Nat.mul_add_mod, Nat.mod_eq_of_lt bx, Nat.mod_eq_of_lt bY] at h1
      exact h1
  · intro x mx
    obtain ⟨p, mp, rfl⟩ := List.mem_map.mp mx
    obtain ⟨e, me, rfl⟩ := List.mem_map.mp mp
    obtain ⟨b1, b2⟩ := h.b e me
    calc e.1.1 * n2 + e.1.2 < e.1.1 * n2 + n2 := by omega
      _ = (e.1.1 + 1) * n2 := by rw [Nat.add_mul, Nat.one_mul]
      _ ≤ n1 * n2 := Nat.mul_le_mul_right _ b1
theorem DOk.find {n1 n2 : Nat} {D : List Ent} (h : DOk n1 n2 D) {e : Ent} (m : e ∈ D) : (D.find? fun x => decide (x.1 = e.1)) = some e := by
  have nd := h.nd
  clear h
  induction D with
  | nil => cases m
  | cons x r ih =>
    rw [List.map_cons, List.nodup_cons] at nd
    rw [List.find?_cons]
    rcases List.mem_cons.mp m with rfl | m
    · simp
    · have : ¬ x.1 = e.1 := fun z => nd.1 (z ▸ List.mem_map.mpr ⟨e, m, rfl⟩)
      simp only [this, decide_false]
      exact ih m nd.2
theorem DOk.add {n1 n2 : Nat} {D : List Ent} (h : DOk n1 n2 D) {p : Nat × Nat} {way : List Nat} (nm : p ∉ D.map (·.1)) (b : p.1 < n1 ∧ p.2 < n2) (l : way.length ≤ D.length) : DOk n1 n2 (D ++ [(p, way)]) := by
  refine ⟨?_, fun e m => ?_, fun e m => ?_⟩
  · rw [List.map_append]
    refine List.nodup_append.mpr ⟨h.nd, by simp, fun a ha b hb => ?_⟩
    rw [List.map_singleton] at hb
    rw [List.mem_singleton.mp hb]
    intro z
    have z' : a = p := z
    exact nm (z' ▸ ha)
  · rcases List.mem_append.mp m with m | m
    · exact h.b e m
    · rw [List.mem_singleton.mp m]; exact b
  · rw [List.length_append, List.length_singleton]
    rcases List.mem_append.mp m with m | m
    · have := h.l e m; omega
    · rw [List.mem_singleton.mp m]; exact Nat.lt_succ_of_le l
theorem D0_ok {n1 n2 : Nat} (a : 0 < n1) (b : 0 < n2) : DOk n1 n2 D0 := ⟨by simp [D0], by simp [D0]; exact ⟨a, b⟩, by simp [D0]⟩
theorem pc_mem {t : Tb} {s i : Nat} {u : U} {k : Nat} (h : pc t s i = some (u, k)) : ∃ l ∈ t, some (u, k) ∈ l := by
  unfold pc at h
  simp only [List.getD] at h
  cases e : t[s]? with
  | none => rw [e] at h; simp at h
  | some l =>
    rw [e] at h
    simp only [Option.getD_some] at h
    cases e2 : l[i]? with
    | none => rw [e2] at h; simp at h
    | some p =>
      rw [e2] at h
      simp only [Option.getD_some] at h
      subst h
      exact ⟨l, List.mem_of_getElem? e, List.mem_of_getElem? e2⟩
theorem nxP_b {w n1 n2 : Nat} {t1 t2 : Tb} (w1 : Wf w t1) (w2 : Wf w t2) {s s' i : Nat} {p : Nat × Nat} (h : nxP (pc t1 s i) (pc t2 s' i) = some p) (e1 : t1.length = n1) (e2 : t2.length = n2) : p.1 < n1 ∧ p.2 < n2 := by
  cases a : pc t1 s i with
  | none => rw [a] at h; cases b : pc t2 s' i <;> (rw [b] at h; cases h)
  | some x =>
    cases b : pc t2 s' i with
    | none => rw [a, b] at h; cases h
    | some y =>
      rw [a, b] at h
      obtain ⟨u, k⟩ := x
      obtain ⟨v, k'⟩ := y
      cases h
      obtain ⟨l, lm, m⟩ := pc_mem a
      obtain ⟨l', lm', m'⟩ := pc_mem b
      exact ⟨e1 ▸ (w1.pl l lm u k m).2, e2 ▸ (w2.pl l' lm' v k' m').2⟩
theorem pc_at {w : Nat} {t : Tb} (wf : Wf w t) {s i : Nat} (hs : s < t.length) (hi : i < w) : ∃ l : List Pc, (t.map encL)[s]? = some (.tup (l.map encP)) ∧ (l.map encP)[i]? = some (encP (pc t s i)) := by
  have e : t[s]? = some t[s] := List.getElem?_eq_getElem hs
  have ll := wf.len _ (List.getElem_mem hs)
  have e2 : (t[s])[i]? = some (t[s])[i] := List.getElem?_eq_getElem (by omega)
  refine ⟨t[s], by rw [List.getElem?_map, e]; rfl, ?_⟩
  rw [List.getElem?_map, e2]
  unfold pc
  simp [List.getD, e, e2]
theorem pc_out {w c : Nat} {t : Tb} (m : MOk c w t) (hc : c ≤ 1000) {s i : Nat} : POut (pc t s i) := fun u k e => by
  obtain ⟨l, lm, h⟩ := pc_mem e
  obtain ⟨xs, rfl, a, b⟩ := m.out l lm u k h
  exact ⟨xs, rfl, by omega, b⟩
theorem way_sm (w : List Nat) (h : w.length ≤ 1000000) : sm 3 (wayU w) := by
  refine ⟨by rw [List.length_map]; exact Nat.le_trans h (by decide), fun x m => ?_⟩
  obtain ⟨k, _, rfl⟩ := List.mem_map.mp m
  trivial
theorem pr_sm (p : Nat × Nat) : sm 3 (prU p) := ⟨show 2 ≤ sizeLine by decide, fun x m => by
  simp only [List.mem_cons, List.not_mem_nil, or_false] at m
  rcases m with rfl | rfl <;> trivial⟩
theorem insU_mem {u x : U} : ∀ {l : List U}, x ∈ insU u l → x = u ∨ x ∈ l
  | [], h => by simpa [insU] using h
  | v :: r, h => by
    unfold insU at h
    split at h
    · rcases List.mem_cons.mp h with h | h
      · exact .inr (by simp [h])
      · rcases insU_mem h with h | h
        · exact .inl h
        · exact .inr (List.mem_cons_of_mem _ h)
    · exact List.mem_cons.mp h
theorem srtU_mem {x : U} : ∀ {l : List U}, x ∈ srtU l → x ∈ l
  | [], h => h
  | u :: r, h => by
    rcases insU_mem h with h | h
    · exact by simp [h]
    · exact List.mem_cons_of_mem _ (srtU_mem h)
theorem insU_len {u : U} : ∀ {l : List U}, (insU u l).length = l.length + 1
  | [] => rfl
  | v :: r => by
    unfold insU
    split
    · rw [List.length_cons, insU_len, List.length_cons]
    · rfl
theorem srtU_len : ∀ {l : List U}, (srtU l).length = l.length
  | [] => rfl
  | u :: r => by rw [srtU, insU_len, srtU_len, List.length_cons]
theorem same_sm {D : List Ent} (h : D.length ≤ 1000000) : sm 5 (resU (.ok D)) := by
  refine ⟨show 2 ≤ sizeLine by decide, fun x m => ?_⟩
  simp only [List.mem_cons, List.not_mem_nil, or_false] at m
  rcases m with rfl | rfl
  · show PyData.strOk _ = true
    decide +kernel
  · refine ⟨by rw [srtU_len, List.length_map]; exact Nat.le_trans h (by decide), fun x m => ?_⟩
    obtain ⟨e, _, rfl⟩ := List.mem_map.mp (srtU_mem m)
    exact pr_sm _
theorem apart_sm {w : List Nat} (h : w.length ≤ 1000000) : sm 5 (resU (.error w)) := by
  refine ⟨show 2 ≤ sizeLine by decide, fun x m => ?_⟩
  simp only [List.mem_cons, List.not_mem_nil, or_false] at m
  rcases m with rfl | rfl
  · show PyData.strOk _ = true
    decide +kernel
  · exact ⟨by rw [List.length_map]; exact Nat.le_trans h (by decide), fun x m => by
      obtain ⟨k, _, rfl⟩ := List.mem_map.mp m
      trivial⟩
end Pl.Ma
set_option Elab.async false
set_option linter.all false
set_option maxRecDepth 100000
set_option autoImplicit false
/-! compared. -/
namespace Pl.Ma
open PySem Pl L2 Pl.Eq Pl.Tp
local macro_rules | `(tactic| simp_all! [$as,*]) => `(tactic| ((try dsimp only); rw [Pl.Eq.ss_cons]; simp only [Pl.Eq.e_cst, Pl.Eq.b_cst, Pl.Eq.e_var, Pl.Eq.b_var, Pl.Eq.e_bin, Pl.Eq.b_bin, Pl.Eq.e_neg, Pl.Eq.e_not, Pl.Eq.b_not, Pl.Eq.e_bop, Pl.Eq.b_bop, Pl.Eq.e_cmp, Pl.Eq.b_cmp, Pl.Eq.e_cmp2, Pl.Eq.b_cmp2, Pl.Eq.e_ife, Pl.Eq.b_ife, Pl.Eq.e_call, Pl.Eq.b_call, Pl.Eq.e_bi, Pl.Eq.b_bi, Pl.Eq.e_isi, Pl.Eq.b_isi, Pl.Eq.e_mth, Pl.Eq.e_ix, Pl.Eq.b_ix, Pl.Eq.e_sl, Pl.Eq.e_tup, Pl.Eq.e_lst, Pl.Eq.e_lc, Pl.Eq.e_lc2, Pl.Eq.e_lrg, Pl.Eq.e_dic, Pl.Eq.es_nil, Pl.Eq.es_cons, Pl.Eq.o_none, Pl.Eq.o_some, Pl.Eq.bb_nil, Pl.Eq.bb_cons, Pl.Eq.bo_one, Pl.Eq.bo_cons, Pl.Eq.f_nil, Pl.Eq.f_cons, Pl.Eq.i_val, Pl.Eq.i_rng1, Pl.Eq.i_rng2, Pl.Eq.i_rng3, Pl.Eq.i_enum, Pl.Eq.t_nm, Pl.Eq.t_tp, Pl.Eq.ts_nil, Pl.Eq.ts_cons, Pl.Eq.t_sub, Pl.Eq.s_expr, Pl.Eq.s_asg, Pl.Eq.s_par, Pl.Eq.s_aug, Pl.Eq.s_ret, Pl.Eq.s_retN, Pl.Eq.s_ifs, Pl.Eq.s_fr, Pl.Eq.s_brk, Pl.Eq.s_cnt, Pl.Eq.s_pass, Pl.Eq.ss_nil, Pl.Eq.p_addI, Pl.Eq.p_addT, Pl.Eq.p_subI, Pl.Eq.p_mulI, Pl.Eq.p_fdivI, Pl.Eq.p_modI, Pl.Eq.p_powI, Pl.Eq.p_lt, Pl.Eq.p_le, Pl.Eq.p_gt, Pl.Eq.p_ge, Pl.Eq.p_eq, Pl.Eq.p_ne, Pl.Eq.p_isN, Pl.Eq.p_notN, Pl.Eq.p_isB, Pl.Eq.p_notB, Pl.Eq.t_bl, Pl.Eq.t_int, Pl.Eq.t_tup, Pl.Eq.t_lst, Pl.Eq.mk_t, Pl.Eq.mk_f, Pl.Eq.i_non_tup, Pl.Eq.i_non_lst, Pl.Eq.i_non_int, Pl.Eq.i_non_bl, Pl.Eq.i_non_str, Pl.Eq.i_non_dic, Pl.Eq.i_bl_tup, Pl.Eq.i_bl_lst, Pl.Eq.i_bl_int, Pl.Eq.i_bl_bl, Pl.Eq.i_bl_str, Pl.Eq.i_bl_dic, Pl.Eq.i_int_tup, Pl.Eq.i_int_lst, Pl.Eq.i_int_int, Pl.Eq.i_int_bl, Pl.Eq.i_int_str, Pl.Eq.i_int_dic, Pl.Eq.i_str_tup, Pl.Eq.i_str_lst, Pl.Eq.i_str_int, Pl.Eq.i_str_bl, Pl.Eq.i_str_str, Pl.Eq.i_str_dic, Pl.Eq.i_tup_tup, Pl.Eq.i_tup_lst, Pl.Eq.i_tup_int, Pl.Eq.i_tup_bl, Pl.Eq.i_tup_str, Pl.Eq.i_tup_dic, Pl.Eq.i_lst_tup, Pl.Eq.i_lst_lst, Pl.Eq.i_lst_int, Pl.Eq.i_lst_bl, Pl.Eq.i_lst_str, Pl.Eq.i_lst_dic, Pl.Eq.n_non, Pl.Eq.n_bl, Pl.Eq.n_int, Pl.Eq.n_str, Pl.Eq.n_tup, Pl.Eq.n_lst, Pl.Eq.p_slT, Pl.Eq.p_lenT, Pl.Eq.p_lenL, Pl.Eq.p_lenR, Pl.Eq.p_intI, Pl.Eq.p_tuple, Pl.Eq.p_list, Pl.Eq.p_sorted, Pl.Eq.p_max1, Pl.Eq.p_min1, Pl.Eq.p_min, Pl.Eq.p_intB, Pl.Eq.p_mulT, Pl.Eq.p_addLL, Pl.Eq.p_slL, Pl.Eq.it_tup, Pl.Eq.it_lst, Pl.Eq.it_ro, Pl.Eq.si_lst, Pl.Eq.p_all, Pl.Eq.p_any, Pl.Eq.p_max, Pl.Eq.q_tup, Pl.Eq.q_lst, Pl.Eq.q_ro, Pl.Eq.l_lst, Pl.Eq.src_tup, Pl.Eq.src_lst, Pl.Eq.src_ro, Pl.Eq.src_mr, Pl.Eq.atP_some, Pl.Eq.x_tup_, Pl.Eq.x_lst_, Pl.Eq.x_ro_, Pl.Eq.seq_mr, Pl.Eq.lst_mr, Pl.Eq.dic_mr, Pl.Eq.tru_mr, Pl.Eq.it_mr, Pl.Eq.si_mr, Pl.Eq.x_mr, Pl.Eq.set_mr, Pl.Eq.len_mr, Pl.Eq.in_mr, Pl.Eq.nin_mr, Pl.Eq.ty_mr, Pl.Eq.mt_app, Pl.Eq.mt_p0, Pl.Eq.mt_p1, Pl.Eq.mt_ex, Pl.Eq.mt_in, Pl.Eq.mt_g1, Pl.Eq.mt_g2, Pl.Eq.oL_seq, Pl.Eq.oL_tru, Pl.Eq.oL_it, Pl.Eq.oL_ix, Pl.Eq.oL_set, Pl.Eq.oL_len, Pl.Eq.oL_in, Pl.Eq.oL_tyA, Pl.Eq.oL_tyI, Pl.Eq.oL_tyP, Pl.Eq.oL_tyQ, Pl.Eq.oL_tyE, Pl.Eq.oL_tyN, Pl.Eq.oL_app, Pl.Eq.oL_p0, Pl.Eq.oL_p1, Pl.Eq.oL_ex, Pl.Eq.oL_ins, Pl.Eq.oD_dic, Pl.Eq.oL_dic, Pl.Eq.oD_it, Pl.Eq.oD_ix, Pl.Eq.oD_set, Pl.Eq.oD_len, Pl.Eq.oD_in, Pl.Eq.oD_tyG, Pl.Eq.oD_tyH, Pl.Eq.oD_g1, Pl.Eq.oD_g2, Pl.Eq.fx_get, Pl.Eq.fx_get0, Pl.Eq.fx_set, Pl.Eq.fx_set0, Pl.Eq.fx_getS, Pl.Eq.fx_getS0, Pl.Eq.fx_setS, Pl.Eq.fx_setS0, Pl.Eq.at_nat, Pl.Eq.at_0, Pl.Eq.at_1, Pl.Eq.at_2, Pl.Eq.at_3, Pl.Eq.at_4, Pl.Eq.at_last, Pl.Eq.sz, Pl.Eq.ixN_0, Pl.Eq.ixN_1, Pl.Eq.ixN_2, Pl.Eq.ixN_3, Pl.Eq.ixN_4, List.getElem?_cons_zero, List.getElem?_cons_succ, List.set_cons_zero, List.set_cons_succ, Option.some.injEq, exists_eq_left, exists_eq_left', U.int.injEq, U.bl.injEq, U.tup.injEq, U.lst.injEq, Int.zero_add, Nat.reduceLeDiff, List.cons_append, List.nil_append, false_and, exists_false, exists_const, false_or, or_false, Pl.T.own, Pl.Ts.own, Pl.Ts.len, wipeU, Pl.Eq.eqI, Pl.Eq.eqB, beq_self_eq_true, Bool.not_true, Bool.not_false, Bool.false_eq_true, Bool.true_eq_false, reduceCtorEq, decide_true, decide_false, List.length_cons, List.length_nil, Nat.zero_add, Nat.reduceAdd, Nat.reduceLT, if_true, if_false, reduceIte, true_and, and_true, List.set_set, List.append_assoc, List.length_append, List.length_set, Nat.add_zero, List.append_nil, $as,*]))
local macro_rules | `(tactic| dsimp! [$as,*]) => `(tactic| (try simp only [Pl.Eq.e_cst, Pl.Eq.b_cst, Pl.Eq.e_var, Pl.Eq.b_var, Pl.Eq.e_bin, Pl.Eq.b_bin, Pl.Eq.e_neg, Pl.Eq.e_not, Pl.Eq.b_not, Pl.Eq.e_bop, Pl.Eq.b_bop, Pl.Eq.e_cmp, Pl.Eq.b_cmp, Pl.Eq.e_cmp2, Pl.Eq.b_cmp2, Pl.Eq.e_ife, Pl.Eq.b_ife, Pl.Eq.e_call, Pl.Eq.b_call, Pl.Eq.e_bi, Pl.Eq.b_bi, Pl.Eq.e_isi, Pl.Eq.b_isi, Pl.Eq.e_mth, Pl.Eq.e_ix, Pl.Eq.b_ix, Pl.Eq.e_sl, Pl.Eq.e_tup, Pl.Eq.e_lst, Pl.Eq.e_lc, Pl.Eq.e_lc2, Pl.Eq.e_lrg, Pl.Eq.e_dic, Pl.Eq.es_nil, Pl.Eq.es_cons, Pl.Eq.o_none, Pl.Eq.o_some, Pl.Eq.bb_nil, Pl.Eq.bb_cons, Pl.Eq.bo_one, Pl.Eq.bo_cons, Pl.Eq.f_nil, Pl.Eq.f_cons, Pl.Eq.i_val, Pl.Eq.i_rng1, Pl.Eq.i_rng2, Pl.Eq.i_rng3, Pl.Eq.i_enum, Pl.Eq.t_nm, Pl.Eq.t_tp, Pl.Eq.ts_nil, Pl.Eq.ts_cons, Pl.Eq.t_sub, Pl.Eq.s_expr, Pl.Eq.s_asg, Pl.Eq.s_par, Pl.Eq.s_aug, Pl.Eq.s_ret, Pl.Eq.s_retN, Pl.Eq.s_ifs, Pl.Eq.s_fr, Pl.Eq.s_brk, Pl.Eq.s_cnt, Pl.Eq.s_pass, Pl.Eq.ss_nil, Pl.Eq.p_addI, Pl.Eq.p_addT, Pl.Eq.p_subI, Pl.Eq.p_mulI, Pl.Eq.p_fdivI, Pl.Eq.p_modI, Pl.Eq.p_powI, Pl.Eq.p_lt, Pl.Eq.p_le, Pl.Eq.p_gt, Pl.Eq.p_ge, Pl.Eq.p_eq, Pl.Eq.p_ne, Pl.Eq.p_isN, Pl.Eq.p_notN, Pl.Eq.p_isB, Pl.Eq.p_notB, Pl.Eq.t_bl, Pl.Eq.t_int, Pl.Eq.t_tup, Pl.Eq.t_lst, Pl.Eq.mk_t, Pl.Eq.mk_f, Pl.Eq.i_non_tup, Pl.Eq.i_non_lst, Pl.Eq.i_non_int, Pl.Eq.i_non_bl, Pl.Eq.i_non_str, Pl.Eq.i_non_dic, Pl.Eq.i_bl_tup, Pl.Eq.i_bl_lst, Pl.Eq.i_bl_int, Pl.Eq.i_bl_bl, Pl.Eq.i_bl_str, Pl.Eq.i_bl_dic, Pl.Eq.i_int_tup, Pl.Eq.i_int_lst, Pl.Eq.i_int_int, Pl.Eq.i_int_bl, Pl.Eq.i_int_str, Pl.Eq.i_int_dic, Pl.Eq.i_str_tup, Pl.Eq.i_str_lst, Pl.Eq.i_str_int, Pl.Eq.i_str_bl, Pl.Eq.i_str_str, Pl.Eq.i_str_dic, Pl.Eq.i_tup_tup, Pl.Eq.i_tup_lst, Pl.Eq.i_tup_int, Pl.Eq.i_tup_bl, Pl.Eq.i_tup_str, Pl.Eq.i_tup_dic, Pl.Eq.i_lst_tup, Pl.Eq.i_lst_lst, Pl.Eq.i_lst_int, Pl.Eq.i_lst_bl, Pl.Eq.i_lst_str, Pl.Eq.i_lst_dic, Pl.Eq.n_non, Pl.Eq.n_bl, Pl.Eq.n_int, Pl.Eq.n_str, Pl.Eq.n_tup, Pl.Eq.n_lst, Pl.Eq.p_slT, Pl.Eq.p_lenT, Pl.Eq.p_lenL, Pl.Eq.p_lenR, Pl.Eq.p_intI, Pl.Eq.p_tuple, Pl.Eq.p_list, Pl.Eq.p_sorted, Pl.Eq.p_max1, Pl.Eq.p_min1, Pl.Eq.p_min, Pl.Eq.p_intB, Pl.Eq.p_mulT, Pl.Eq.p_addLL, Pl.Eq.p_slL, Pl.Eq.it_tup, Pl.Eq.it_lst, Pl.Eq.it_ro, Pl.Eq.si_lst, Pl.Eq.p_all, Pl.Eq.p_any, Pl.Eq.p_max, Pl.Eq.q_tup, Pl.Eq.q_lst, Pl.Eq.q_ro, Pl.Eq.l_lst, Pl.Eq.src_tup, Pl.Eq.src_lst, Pl.Eq.src_ro, Pl.Eq.src_mr, Pl.Eq.atP_some, Pl.Eq.x_tup_, Pl.Eq.x_lst_, Pl.Eq.x_ro_, Pl.Eq.seq_mr, Pl.Eq.lst_mr, Pl.Eq.dic_mr, Pl.Eq.tru_mr, Pl.Eq.it_mr, Pl.Eq.si_mr, Pl.Eq.x_mr, Pl.Eq.set_mr, Pl.Eq.len_mr, Pl.Eq.in_mr, Pl.Eq.nin_mr, Pl.Eq.ty_mr, Pl.Eq.mt_app, Pl.Eq.mt_p0, Pl.Eq.mt_p1, Pl.Eq.mt_ex, Pl.Eq.mt_in, Pl.Eq.mt_g1, Pl.Eq.mt_g2, Pl.Eq.oL_seq, Pl.Eq.oL_tru, Pl.Eq.oL_it, Pl.Eq.oL_ix, Pl.Eq.oL_set, Pl.Eq.oL_len, Pl.Eq.oL_in, Pl.Eq.oL_tyA, Pl.Eq.oL_tyI, Pl.Eq.oL_tyP, Pl.Eq.oL_tyQ, Pl.Eq.oL_tyE, Pl.Eq.oL_tyN, Pl.Eq.oL_app, Pl.Eq.oL_p0, Pl.Eq.oL_p1, Pl.Eq.oL_ex, Pl.Eq.oL_ins, Pl.Eq.oD_dic, Pl.Eq.oL_dic, Pl.Eq.oD_it, Pl.Eq.oD_ix, Pl.Eq.oD_set, Pl.Eq.oD_len, Pl.Eq.oD_in, Pl.Eq.oD_tyG, Pl.Eq.oD_tyH, Pl.Eq.oD_g1, Pl.Eq.oD_g2, Pl.Eq.fx_get, Pl.Eq.fx_get0, Pl.Eq.fx_set, Pl.Eq.fx_set0, Pl.Eq.fx_getS, Pl.Eq.fx_getS0, Pl.Eq.fx_setS, Pl.Eq.fx_setS0, Pl.Eq.at_nat, Pl.Eq.at_0, Pl.Eq.at_1, Pl.Eq.at_2, Pl.Eq.at_3, Pl.Eq.at_4, Pl.Eq.at_last, Pl.Eq.sz, Pl.Eq.ixN_0, Pl.Eq.ixN_1, Pl.Eq.ixN_2, Pl.Eq.ixN_3, Pl.Eq.ixN_4, List.getElem?_cons_zero, List.getElem?_cons_succ, List.set_cons_zero, List.set_cons_succ, Option.some.injEq, exists_eq_left, exists_eq_left', U.int.injEq, U.bl.injEq, U.tup.injEq, U.lst.injEq, Int.zero_add, Nat.reduceLeDiff, List.cons_append, List.nil_append, false_and, exists_false, exists_const, false_or, or_false, Pl.T.own, Pl.Ts.own, Pl.Ts.len, wipeU, Pl.Eq.eqI, Pl.Eq.eqB, beq_self_eq_true, Bool.not_true, Bool.not_false, Bool.false_eq_true, Bool.true_eq_false, reduceCtorEq, decide_true, decide_false, List.length_cons, List.length_nil, Nat.zero_add, Nat.reduceAdd, Nat.reduceLT, if_true, if_false, reduceIte, true_and, and_true, List.set_set, List.append_assoc, List.length_append, List.length_set, Nat.add_zero, List.append_nil, $as,*]))
theorem pr_mk {x y : Nat} : U.tup [.int (x : Nat), .int (y : Nat)] = prU (x, y) := rfl
theorem pr_0 {p : Nat × Nat} {h : Hu} {Q : QE} : ixR (prU p) (.int 0) h Q = Q (.int p.1) h := by
  unfold prU
  dsimp! []
theorem pr_1 {p : Nat × Nat} {h : Hu} {Q : QE} : ixR (prU p) (.int 1) h Q = Q (.int p.2) h := by
  unfold prU
  dsimp! []
theorem way_add {w : List Nat} {i : Nat} {m : Bool} {h : Hu} {Q : QE} : binR .add m (wayU w) (.tup [.int (i : Nat)]) h Q = (w.length + 1 ≤ sizeLine ∧ Q (wayU (w ++ [i])) h) := by
  unfold wayU
  rw [Pl.Eq.p_addT]
  simp
def kdW (D : List Ent) : List (U × U) := D.map fun e => (prU e.1, wayU e.2)
def kdB (D : List Ent) : List (U × U) := D.map fun e => (prU e.1, .bl true)
def ksU (D : List Ent) : List U := D.map fun e => prU e.1
def enU (D : List Ent) : List U := D.map fun e => .tup [wayU e.2, prU e.1]
theorem kdW_look {n1 n2 : Nat} {D : List Ent} (h : DOk n1 n2 D) {e : Ent} (m : e ∈ D) : dlook (kdW D) (prU e.1) = some (wayU e.2) := by
  unfold kdW
  rw [pr_enc.look (g := fun e : Ent => wayU e.2) (kf := fun e : Ent => e.1), h.find m]
  rfl
theorem kdW_in {D : List Ent} {p : Nat × Nat} : (dlook (kdW D) (prU p)).isSome = decide (p ∈ D.map (·.1)) := pr_enc.some_ (g := fun e : Ent => wayU e.2) (kf := fun e : Ent => e.1)
theorem kdW_put {D : List Ent} {p : Nat × Nat} {w : List Nat} (h : p ∉ D.map (·.1)) : dput (kdW D) (prU p) (wayU w) = kdW (D ++ [(p, w)]) := by
  unfold kdW
  rw [pr_enc.put (g := fun e : Ent => wayU e.2) (kf := fun e : Ent => e.1) h]
  simp
theorem kdB_in {D : List Ent} {p : Nat × Nat} : (dlook (kdB D) (prU p)).isSome = decide (p ∈ D.map (·.1)) := pr_enc.some_ (g := fun _ : Ent => .bl true) (kf := fun e : Ent => e.1)
theorem kdB_put {D : List Ent} {p : Nat × Nat} {w : List Nat} (h : p ∉ D.map (·.1)) : dput (kdB D) (prU p) (.bl true) = kdB (D ++ [(p, w)]) := by
  unfold kdB
  rw [pr_enc.put (g := fun _ : Ent => .bl true) (kf := fun e : Ent => e.1) h]
  simp
theorem ksU_app {D : List Ent} {e : Ent} : ksU (D ++ [e]) = ksU D ++ [prU e.1] := by simp [ksU]
theorem enU_app {D : List Ent} {e : Ent} : enU (D ++ [e]) = enU D ++ [.tup [wayU e.2, prU e.1]] := by simp [enU]
theorem ks_kdW {D : List Ent} : (kdW D).map (·.1) = ksU D := by simp [kdW, ksU]
theorem ks_kdB {D : List Ent} : (kdB D).map (·.1) = ksU D := by simp [kdB, ksU]
theorem ks_sort {D : List Ent} : sortOk (ksU D) = true := by
  have : ksU D = (D.map (·.1)).map prU := by simp [ksU]
  rw [this]
  exact sort_pr _
theorem pc_isN (p : Pc) : isN (encP p) = p.isNone := by
  cases p with
  | none => rfl
  | some p => rfl
theorem walk_fin {t1 t2 : Tb} {w f : Nat} {D : List Ent} : bfs t1 t2 w (f + 1) D [] = .ok D := rfl
theorem get_append_some {jk os : List O} {k : Nat} {o : O} (e : jk[k]? = some o) : (jk ++ os)[k]? = some o := by
  rw [List.getElem?_append_left (List.getElem?_eq_some_iff.mp e).1]; exact e
/-- todo, as a list for good or one made within -/
inductive TodoV (h : Hu) (jk : List O) : U → List U → Prop
  | fr (xs : List U) : TodoV h jk (.lst xs) xs
  | mr (k : Nat) (xs : List U) : jk[k]? = some (.lst xs) → TodoV h jk (.mr (h.length + (k + 1))) xs
theorem TodoV.tru {h : Hu} {jk : List O} {v : U} {xs : List U} (T : TodoV h jk v xs) {o : O} : tru (h ++ o :: jk) v = some (!xs.isEmpty) := by
  cases T with
  | fr => rfl
  | mr k _ e => rw [Pl.Eq.tru_mr, fx_get, List.getElem?_cons_succ, e]; rfl
theorem TodoV.seq {h : Hu} {jk : List O} {v : U} {xs : List U} (T : TodoV h jk v xs) {o : O} {os : List O} : seqOf (h ++ o :: (jk ++ os)) v = some xs := by
  cases T with
  | fr => rfl
  | mr k _ e => rw [Pl.Eq.seq_mr, fx_get, List.getElem?_cons_succ, get_append_some e]; rfl
theorem TodoV.src {h : Hu} {jk : List O} {v : U} {xs : List U} (T : TodoV h jk v xs) {o : O} {os : List O} : srcOk v xs (h ++ o :: (jk ++ os)) = True := by
  cases T with
  | fr => rfl
  | mr k _ e => rw [Pl.Eq.src_mr, fx_get, List.getElem?_cons_succ, get_append_some e]; simp
section
variable {tbl : Str → Option Fn} {n : Nat} {h : Hu} {Q : QE} {E : Ex → Hu → Prop}
theorem c_compared (f_alike : tbl "alike" = some ⟨2, 3, m_alike⟩) (f_differ : tbl "differ" = some ⟨2, 2, m_differ⟩) (f_compared : tbl "compared" = some ⟨2, 10, m_compared⟩) {rs rs' : List U} {t1 t2 : Tb} {w c : Nat} (hr : rs.length = w) (hw : w ≤ 1000) (hc : c ≤ 1000)
    (m1 : MOk c w t1) (m2 : MOk c w t2) (q : ∀ R, walk t1 t2 w = R → (∀ D, R = .ok D → D.length ≤ 1000000) → (∀ z, R = .error z → z.length ≤ 1000000) → Q (resU R) h) : callN tbl (n + 4) "compared" [.tup [.tup rs, encT t1], .tup [.tup rs', encT t2]] h Q E := by
  refine call_in f_compared rfl (g := [some (.tup [.tup rs, encT t1]), some (.tup [.tup rs', encT t2]), none, none, none, none, none, none, none, none]) rfl ?_
  unfold m_compared
  have hs : 1000000 < sizeLine := by decide
  have n10 : 0 < t1.length := List.length_pos_iff.mpr m1.wf.ne
  have n20 : 0 < t2.length := List.length_pos_iff.mpr m2.wf.ne
  have n1b := m1.wf.s
  have n2b := m2.wf.s
  have nb : t1.length * t2.length ≤ 1000000 := Nat.mul_le_mul n1b n2b
  obtain ⟨R, hR⟩ : ∃ R, walk t1 t2 w = R := ⟨_, rfl⟩
  replace q := q R hR
  simp_all! [encT]
  refine ⟨_, rfl, by decide, by decide, ?_⟩
  simp_all! []
  rw [Pl.Eq.ss_cons, Pl.Eq.s_wh]
  refine ⟨fun m g h' => ∃ (D T : List Ent) (tv : U) (jk : List O) (a b c d e f : Option U), h' = h ++ (.dic (kdW D) :: jk) ∧ TodoV h jk tv (ksU T) ∧ DOk t1.length t2.length D ∧ (∀ e ∈ T, e ∈ D) ∧
    g = [some (.tup [.tup rs, .tup (t1.map encL)]), some (.tup [.tup rs', .tup (t2.map encL)]), some (.mr h.length), some tv, a, b, c, d, e, f] ∧
    ((T = [] ∧ R = .ok D) ∨ (T ≠ [] ∧ bfs t1 t2 w m D T = R ∧ t1.length * t2.length + 1 ≤ m + D.length)),
    ⟨_, D0, D0, _, [], none, none, none, none, none, none, rfl, .fr _, D0_ok n10 n20, fun _ m => m, rfl, .inr ⟨by simp [D0], hR, by omega⟩⟩, ?_⟩
  rintro m _ _ ⟨D, T, tv, jk, a, b, c', d, e', f', rfl, tV, dok, TD, rfl, al⟩
  dsimp! [tV.tru]
  rcases al with ⟨rfl, rfl⟩ | ⟨Tn, bR, mb⟩
  · have te0 : (ksU ([] : List Ent)).isEmpty = true := rfl
    dsimp! [te0]
    simp_all! [ks_kdW, ks_sort]
    have dl := dok.len
    exact stl_pure (sm_pd (sm_mono (by decide) (same_sm (D := D) (by omega)))) (q (fun D' e => by cases e; omega) (fun z e => by cases e))
  · have te : (ksU T).isEmpty = false := by cases T with | nil => exact absurd rfl Tn | cons => rfl
    have dl := dok.len
    obtain ⟨f, rfl⟩ : ∃ f, m = f + 1 := ⟨m - 1, by omega⟩
    dsimp! [te]
    simp_all! []
    simp_all! [tV.seq]
    refine .inr ?_
    have tsrc := fun (o : O) (os : List O) => tV.src (o := o) (os := os)
    unfold bfs at bR
    obtain ⟨G, hG⟩ : ∃ G, goT t1 t2 w T (D, []) = G := ⟨_, rfl⟩
    rw [hG] at bR
    refine frMap (f := fun e : Ent => prU e.1) (xs := T) (fun r g h' => ∃ (L : List Ent) (b c d e f : Option U), h' = h ++ (.dic (kdW (D ++ L)) :: (jk ++ [.lst (ksU L)])) ∧ DOk t1.length t2.length (D ++ L) ∧ (∀ e ∈ r, e ∈ D) ∧ goT t1 t2 w r (D ++ L, L) = G ∧
      g = [some (.tup [.tup rs, .tup (t1.map encL)]), some (.tup [.tup rs', .tup (t2.map encL)]), some (.mr h.length), some tv, some (.mr (h.length + (jk.length + 1))), b, c, d, e, f]) ?_ ?_
      ⟨[], b, c', d, e', f', by simp [ksU], by simpa using dok, TD, by simpa using hG, rfl⟩
    · rintro e r _ _ ⟨L, b, c', d, e1, f1, rfl, dok', rD, gG, rfl⟩ k hk
      have eD := rD e List.mem_cons_self
      obtain ⟨eb1, eb2⟩ := dok.b e eD
      have el := dok.l e eD
      unfold goT at gG
      obtain ⟨G1, hG1⟩ : ∃ G1, goI t1 t2 e w 0 (D ++ L, L) = G1 := ⟨_, rfl⟩
      rw [hG1] at gG
      dsimp! [tV.src]
      simp_all! []
      refine ⟨⟨by omega, by omega⟩, ?_⟩
      rw [hr]
      refine frRng (fun i g h' => ∃ (fu : Nat) (L : List Ent) (c d e1 f : Option U), fu + i = w ∧ h' = h ++ (.dic (kdW (D ++ L)) :: (jk ++ [.lst (ksU L)])) ∧ DOk t1.length t2.length (D ++ L) ∧ goI t1 t2 e fu i (D ++ L, L) = G1 ∧
        g = [some (.tup [.tup rs, .tup (t1.map encL)]), some (.tup [.tup rs', .tup (t2.map encL)]), some (.mr h.length), some tv, some (.mr (h.length + (jk.length + 1))), some (prU e.1), c, d, e1, f])
        ⟨w, L, c', d, e1, f1, by omega, rfl, dok', hG1, rfl⟩ ?_ ?_
      · rintro i _ _ hi ⟨fu, L, c', d, e1, f1, fe, rfl, dok', g1, rfl⟩ k2 hk2
        have hi' : i < w := by simpa using hi
        obtain ⟨fu, rfl⟩ : ∃ f, fu = f + 1 := ⟨fu - 1, by omega⟩
        unfold goI at g1
        obtain ⟨l1, z1, z2⟩ := pc_at m1.wf eb1 hi'
        obtain ⟨l2, z3, z4⟩ := pc_at m2.wf eb2 hi'
        have po1 := pc_out m1 hc (s := e.1.1) (i := i)
        have po2 := pc_out m2 hc (s := e.1.2) (i := i)
        have bb : ∀ p, nxP (pc t1 e.1.1 i) (pc t2 e.1.2 i) = some p → p.1 < t1.length ∧ p.2 < t2.length := fun p z => nxP_b m1.wf m2.wf z rfl rfl
        generalize pc t1 e.1.1 i = p1 at *
        generalize pc t2 e.1.2 i = p2 at *
        have eD' : e ∈ D ++ L := List.mem_append_left _ eD
        have dl' := dok'.len
        have wl : e.2.length + 1 ≤ sizeLine := by omega
        simp_all! [pr_0, pr_1, z1, z2, z3, z4]
        rw [ss_cons]
        dsimp! []
        refine c_differ f_alike f_differ po1 po2 ?_
        dsimp! []
        by_cases df : difP p1 p2 = true
        · rw [if_pos df] at g1
          dsimp! [df]
          simp_all! [pr_enc.s, kdW_look dok' eD', way_add]
          refine ⟨wl, stl_pure (sm_pd (sm_mono (by decide) (apart_sm (w := e.2 ++ [i]) (by simp; omega)))) ?_⟩
          rw [← g1] at gG
          simp only at gG
          rw [← gG] at bR
          rw [← bR] at q
          exact q (fun D' e => by cases e) (fun z e => by cases e; simp; omega)
        · have df' : difP p1 p2 = false := by simpa using df
          rw [if_neg df] at g1
          dsimp! [df']
          cases p1 with
          | none =>
            cases p2 with
            | some y => simp [difP] at df'
            | none =>
              simp_all! [pc_isN]
              exact hk2 _ _ ⟨fu, L, _, _, _, _, by omega, rfl, dok', g1, rfl⟩
          | some x =>
            cases p2 with
            | none => simp [difP] at df'
            | some y =>
              obtain ⟨u, k1⟩ := x
              obtain ⟨v, k2'⟩ := y
              simp only [nxP, addE] at g1
              have bb' := bb _ rfl
              simp_all! [encP]
              simp_all! [pr_mk]
              simp_all! [pr_enc.s, kdW_in]
              by_cases mem : (k1, k2') ∈ (D ++ L).map (·.1)
              · rw [if_pos mem] at g1
                dsimp! [mem]
                exact hk2 _ _ ⟨fu, L, _, _, _, _, by omega, rfl, dok', g1, rfl⟩
              · rw [if_neg mem] at g1
                dsimp! [mem]
                simp_all! [pr_enc.s, kdW_look dok' eD', way_add, kdW_put mem]
                refine ⟨wl, by simp [kdW]; have := dok'.len; simp at this; omega, ?_⟩
                simp_all! []
                refine ⟨by simp [ksU]; have := dok'.len; simp at this; omega, ?_⟩
                refine hk2 _ _ ⟨fu, L ++ [((k1, k2'), e.2 ++ [i])], _, _, _, _, by omega, by simp [ksU_app], ?_, ?_, rfl⟩
                · rw [← List.append_assoc]
                  exact dok'.add mem bb' (by simp; omega)
                · rw [← List.append_assoc]
                  exact g1
      · rintro _ _ ⟨fu, L, c', d, e1, f1, fe, rfl, dok', g1, rfl⟩
        have f0 : fu = 0 := by omega
        subst f0
        have g1' : G1 = .ok (D ++ L, L) := g1.symm
        rw [g1'] at gG
        dsimp! []
        exact hk _ _ ⟨L, _, _, _, _, _, rfl, dok', fun e m => rD e (List.mem_cons_of_mem _ m), gG, rfl⟩
    · rintro _ _ ⟨L, b, c', d, e1, f1, rfl, dok', rD, gG, rfl⟩
      have gG' : G = .ok (D ++ L, L) := gG.symm
      rw [gG'] at bR
      dsimp! [tV.src]
      simp_all! []
      have tv' : TodoV h (jk ++ [.lst (ksU L)]) (.mr (h.length + (jk.length + 1))) (ksU L) := .mr _ _ (by simp)
      by_cases Ln : L = []
      · subst Ln
        refine ⟨0, by omega, D ++ [], [], _, _, _, _, _, _, _, _, rfl, tv', dok', by simp, rfl, .inl ⟨rfl, ?_⟩⟩
        rw [← bR]; rfl
      · refine ⟨f, by omega, D ++ L, L, _, _, _, _, _, _, _, _, rfl, tv', dok', fun e m => List.mem_append_right _ m, rfl, .inr ⟨Ln, ?_, ?_⟩⟩
        · rw [← bR]
          simp [aft, Ln]
        · have : 0 < L.length := List.length_pos_iff.mpr Ln
          simp; omega
end
end Pl.Ma
set_option Elab.async false
set_option linter.all false
set_option maxRecDepth 100000
set_option autoImplicit false
/-! the law's own walk over pairs. -/
namespace Pl.Ma
open PySem Pl L2 Pl.Eq Pl.Tp
local macro_rules | `(tactic| simp_all! [$as,*]) => `(tactic| ((try dsimp only); rw [Pl.Eq.ss_cons]; simp only [Pl.Eq.e_cst, Pl.Eq.b_cst, Pl.Eq.e_var, Pl.Eq.b_var, Pl.Eq.e_bin, Pl.Eq.b_bin, Pl.Eq.e_neg, Pl.Eq.e_not, Pl.Eq.b_not, Pl.Eq.e_bop, Pl.Eq.b_bop, Pl.Eq.e_cmp, Pl.Eq.b_cmp, Pl.Eq.e_cmp2, Pl.Eq.b_cmp2, Pl.Eq.e_ife, Pl.Eq.b_ife, Pl.Eq.e_call, Pl.Eq.b_call, Pl.Eq.e_bi, Pl.Eq.b_bi, Pl.Eq.e_isi, Pl.Eq.b_isi, Pl.Eq.e_mth, Pl.Eq.e_ix, Pl.Eq.b_ix, Pl.Eq.e_sl, Pl.Eq.e_tup, Pl.Eq.e_lst, Pl.Eq.e_lc, Pl.Eq.e_lc2, Pl.Eq.e_lrg, Pl.Eq.e_dic, Pl.Eq.es_nil, Pl.Eq.es_cons, Pl.Eq.o_none, Pl.Eq.o_some, Pl.Eq.bb_nil, Pl.Eq.bb_cons, Pl.Eq.bo_one, Pl.Eq.bo_cons, Pl.Eq.f_nil, Pl.Eq.f_cons, Pl.Eq.i_val, Pl.Eq.i_rng1, Pl.Eq.i_rng2, Pl.Eq.i_rng3, Pl.Eq.i_enum, Pl.Eq.t_nm, Pl.Eq.t_tp, Pl.Eq.ts_nil, Pl.Eq.ts_cons, Pl.Eq.t_sub, Pl.Eq.s_expr, Pl.Eq.s_asg, Pl.Eq.s_par, Pl.Eq.s_aug, Pl.Eq.s_ret, Pl.Eq.s_retN, Pl.Eq.s_ifs, Pl.Eq.s_fr, Pl.Eq.s_brk, Pl.Eq.s_cnt, Pl.Eq.s_pass, Pl.Eq.ss_nil, Pl.Eq.p_addI, Pl.Eq.p_addT, Pl.Eq.p_subI, Pl.Eq.p_mulI, Pl.Eq.p_fdivI, Pl.Eq.p_modI, Pl.Eq.p_powI, Pl.Eq.p_lt, Pl.Eq.p_le, Pl.Eq.p_gt, Pl.Eq.p_ge, Pl.Eq.p_eq, Pl.Eq.p_ne, Pl.Eq.p_isN, Pl.Eq.p_notN, Pl.Eq.p_isB, Pl.Eq.p_notB, Pl.Eq.t_bl, Pl.Eq.t_int, Pl.Eq.t_tup, Pl.Eq.t_lst, Pl.Eq.mk_t, Pl.Eq.mk_f, Pl.Eq.i_non_tup, Pl.Eq.i_non_lst, Pl.Eq.i_non_int, Pl.Eq.i_non_bl, Pl.Eq.i_non_str, Pl.Eq.i_non_dic, Pl.Eq.i_bl_tup, Pl.Eq.i_bl_lst, Pl.Eq.i_bl_int, Pl.Eq.i_bl_bl, Pl.Eq.i_bl_str, Pl.Eq.i_bl_dic, Pl.Eq.i_int_tup, Pl.Eq.i_int_lst, Pl.Eq.i_int_int, Pl.Eq.i_int_bl, Pl.Eq.i_int_str, Pl.Eq.i_int_dic, Pl.Eq.i_str_tup, Pl.Eq.i_str_lst, Pl.Eq.i_str_int, Pl.Eq.i_str_bl, Pl.Eq.i_str_str, Pl.Eq.i_str_dic, Pl.Eq.i_tup_tup, Pl.Eq.i_tup_lst, Pl.Eq.i_tup_int, Pl.Eq.i_tup_bl, Pl.Eq.i_tup_str, Pl.Eq.i_tup_dic, Pl.Eq.i_lst_tup, Pl.Eq.i_lst_lst, Pl.Eq.i_lst_int, Pl.Eq.i_lst_bl, Pl.Eq.i_lst_str, Pl.Eq.i_lst_dic, Pl.Eq.n_non, Pl.Eq.n_bl, Pl.Eq.n_int, Pl.Eq.n_str, Pl.Eq.n_tup, Pl.Eq.n_lst, Pl.Eq.p_slT, Pl.Eq.p_lenT, Pl.Eq.p_lenL, Pl.Eq.p_lenR, Pl.Eq.p_intI, Pl.Eq.p_tuple, Pl.Eq.p_list, Pl.Eq.p_sorted, Pl.Eq.p_max1, Pl.Eq.p_min1, Pl.Eq.p_min, Pl.Eq.p_intB, Pl.Eq.p_mulT, Pl.Eq.p_addLL, Pl.Eq.p_slL, Pl.Eq.it_tup, Pl.Eq.it_lst, Pl.Eq.it_ro, Pl.Eq.si_lst, Pl.Eq.p_all, Pl.Eq.p_any, Pl.Eq.p_max, Pl.Eq.q_tup, Pl.Eq.q_lst, Pl.Eq.q_ro, Pl.Eq.l_lst, Pl.Eq.src_tup, Pl.Eq.src_lst, Pl.Eq.src_ro, Pl.Eq.src_mr, Pl.Eq.atP_some, Pl.Eq.x_tup_, Pl.Eq.x_lst_, Pl.Eq.x_ro_, Pl.Eq.seq_mr, Pl.Eq.lst_mr, Pl.Eq.dic_mr, Pl.Eq.tru_mr, Pl.Eq.it_mr, Pl.Eq.si_mr, Pl.Eq.x_mr, Pl.Eq.set_mr, Pl.Eq.len_mr, Pl.Eq.in_mr, Pl.Eq.nin_mr, Pl.Eq.ty_mr, Pl.Eq.mt_app, Pl.Eq.mt_p0, Pl.Eq.mt_p1, Pl.Eq.mt_ex, Pl.Eq.mt_in, Pl.Eq.mt_g1, Pl.Eq.mt_g2, Pl.Eq.oL_seq, Pl.Eq.oL_tru, Pl.Eq.oL_it, Pl.Eq.oL_ix, Pl.Eq.oL_set, Pl.Eq.oL_len, Pl.Eq.oL_in, Pl.Eq.oL_tyA, Pl.Eq.oL_tyI, Pl.Eq.oL_tyP, Pl.Eq.oL_tyQ, Pl.Eq.oL_tyE, Pl.Eq.oL_tyN, Pl.Eq.oL_app, Pl.Eq.oL_p0, Pl.Eq.oL_p1, Pl.Eq.oL_ex, Pl.Eq.oL_ins, Pl.Eq.oD_dic, Pl.Eq.oL_dic, Pl.Eq.oD_it, Pl.Eq.oD_ix, Pl.Eq.oD_set, Pl.Eq.oD_len, Pl.Eq.oD_in, Pl.Eq.oD_tyG, Pl.Eq.oD_tyH, Pl.Eq.oD_g1, Pl.Eq.oD_g2, Pl.Eq.fx_get, Pl.Eq.fx_get0, Pl.Eq.fx_set, Pl.Eq.fx_set0, Pl.Eq.fx_getS, Pl.Eq.fx_getS0, Pl.Eq.fx_setS, Pl.Eq.fx_setS0, Pl.Eq.at_nat, Pl.Eq.at_0, Pl.Eq.at_1, Pl.Eq.at_2, Pl.Eq.at_3, Pl.Eq.at_4, Pl.Eq.at_last, Pl.Eq.sz, Pl.Eq.ixN_0, Pl.Eq.ixN_1, Pl.Eq.ixN_2, Pl.Eq.ixN_3, Pl.Eq.ixN_4, List.getElem?_cons_zero, List.getElem?_cons_succ, List.set_cons_zero, List.set_cons_succ, Option.some.injEq, exists_eq_left, exists_eq_left', U.int.injEq, U.bl.injEq, U.tup.injEq, U.lst.injEq, Int.zero_add, Nat.reduceLeDiff, List.cons_append, List.nil_append, false_and, exists_false, exists_const, false_or, or_false, Pl.T.own, Pl.Ts.own, Pl.Ts.len, wipeU, Pl.Eq.eqI, Pl.Eq.eqB, beq_self_eq_true, Bool.not_true, Bool.not_false, Bool.false_eq_true, Bool.true_eq_false, reduceCtorEq, decide_true, decide_false, List.length_cons, List.length_nil, Nat.zero_add, Nat.reduceAdd, Nat.reduceLT, if_true, if_false, reduceIte, true_and, and_true, List.set_set, List.append_assoc, List.length_append, List.length_set, Nat.add_zero, List.append_nil, $as,*]))
local macro_rules | `(tactic| dsimp! [$as,*]) => `(tactic| (try simp only [Pl.Eq.e_cst, Pl.Eq.b_cst, Pl.Eq.e_var, Pl.Eq.b_var, Pl.Eq.e_bin, Pl.Eq.b_bin, Pl.Eq.e_neg, Pl.Eq.e_not, Pl.Eq.b_not, Pl.Eq.e_bop, Pl.Eq.b_bop, Pl.Eq.e_cmp, Pl.Eq.b_cmp, Pl.Eq.e_cmp2, Pl.Eq.b_cmp2, Pl.Eq.e_ife, Pl.Eq.b_ife, Pl.Eq.e_call, Pl.Eq.b_call, Pl.Eq.e_bi, Pl.Eq.b_bi, Pl.Eq.e_isi, Pl.Eq.b_isi, Pl.Eq.e_mth, Pl.Eq.e_ix, Pl.Eq.b_ix, Pl.Eq.e_sl, Pl.Eq.e_tup, Pl.Eq.e_lst, Pl.Eq.e_lc, Pl.Eq.e_lc2, Pl.Eq.e_lrg, Pl.Eq.e_dic, Pl.Eq.es_nil, Pl.Eq.es_cons, Pl.Eq.o_none, Pl.Eq.o_some, Pl.Eq.bb_nil, Pl.Eq.bb_cons, Pl.Eq.bo_one, Pl.Eq.bo_cons, Pl.Eq.f_nil, Pl.Eq.f_cons, Pl.Eq.i_val, Pl.Eq.i_rng1, Pl.Eq.i_rng2, Pl.Eq.i_rng3, Pl.Eq.i_enum, Pl.Eq.t_nm, Pl.Eq.t_tp, Pl.Eq.ts_nil, Pl.Eq.ts_cons, Pl.Eq.t_sub, Pl.Eq.s_expr, Pl.Eq.s_asg, Pl.Eq.s_par, Pl.Eq.s_aug, Pl.Eq.s_ret, Pl.Eq.s_retN, Pl.Eq.s_ifs, Pl.Eq.s_fr, Pl.Eq.s_brk, Pl.Eq.s_cnt, Pl.Eq.s_pass, Pl.Eq.ss_nil, Pl.Eq.p_addI, Pl.Eq.p_addT, Pl.Eq.p_subI, Pl.Eq.p_mulI, Pl.Eq.p_fdivI, Pl.Eq.p_modI, Pl.Eq.p_powI, Pl.Eq.p_lt, Pl.Eq.p_le, Pl.Eq.p_gt, Pl.Eq.p_ge, Pl.Eq.p_eq, Pl.Eq.p_ne, Pl.Eq.p_isN, Pl.Eq.p_notN, Pl.Eq.p_isB, Pl.Eq.p_notB, Pl.Eq.t_bl, Pl.Eq.t_int, Pl.Eq.t_tup, Pl.Eq.t_lst, Pl.Eq.mk_t, Pl.Eq.mk_f, Pl.Eq.i_non_tup, Pl.Eq.i_non_lst, Pl.Eq.i_non_int, Pl.Eq.i_non_bl, Pl.Eq.i_non_str, Pl.Eq.i_non_dic, Pl.Eq.i_bl_tup, Pl.Eq.i_bl_lst, Pl.Eq.i_bl_int, Pl.Eq.i_bl_bl, Pl.Eq.i_bl_str, Pl.Eq.i_bl_dic, Pl.Eq.i_int_tup, Pl.Eq.i_int_lst, Pl.Eq.i_int_int, Pl.Eq.i_int_bl, Pl.Eq.i_int_str, Pl.Eq.i_int_dic, Pl.Eq.i_str_tup, Pl.Eq.i_str_lst, Pl.Eq.i_str_int, Pl.Eq.i_str_bl, Pl.Eq.i_str_str, Pl.Eq.i_str_dic, Pl.Eq.i_tup_tup, Pl.Eq.i_tup_lst, Pl.Eq.i_tup_int, Pl.Eq.i_tup_bl, Pl.Eq.i_tup_str, Pl.Eq.i_tup_dic, Pl.Eq.i_lst_tup, Pl.Eq.i_lst_lst, Pl.Eq.i_lst_int, Pl.Eq.i_lst_bl, Pl.Eq.i_lst_str, Pl.Eq.i_lst_dic, Pl.Eq.n_non, Pl.Eq.n_bl, Pl.Eq.n_int, Pl.Eq.n_str, Pl.Eq.n_tup, Pl.Eq.n_lst, Pl.Eq.p_slT, Pl.Eq.p_lenT, Pl.Eq.p_lenL, Pl.Eq.p_lenR, Pl.Eq.p_intI, Pl.Eq.p_tuple, Pl.Eq.p_list, Pl.Eq.p_sorted, Pl.Eq.p_max1, Pl.Eq.p_min1, Pl.Eq.p_min, Pl.Eq.p_intB, Pl.Eq.p_mulT, Pl.Eq.p_addLL, Pl.Eq.p_slL, Pl.Eq.it_tup, Pl.Eq.it_lst, Pl.Eq.it_ro, Pl.Eq.si_lst, Pl.Eq.p_all, Pl.Eq.p_any, Pl.Eq.p_max, Pl.Eq.q_tup, Pl.Eq.q_lst, Pl.Eq.q_ro, Pl.Eq.l_lst, Pl.Eq.src_tup, Pl.Eq.src_lst, Pl.Eq.src_ro, Pl.Eq.src_mr, Pl.Eq.atP_some, Pl.Eq.x_tup_, Pl.Eq.x_lst_, Pl.Eq.x_ro_, Pl.Eq.seq_mr, Pl.Eq.lst_mr, Pl.Eq.dic_mr, Pl.Eq.tru_mr, Pl.Eq.it_mr, Pl.Eq.si_mr, Pl.Eq.x_mr, Pl.Eq.set_mr, Pl.Eq.len_mr, Pl.Eq.in_mr, Pl.Eq.nin_mr, Pl.Eq.ty_mr, Pl.Eq.mt_app, Pl.Eq.mt_p0, Pl.Eq.mt_p1, Pl.Eq.mt_ex, Pl.Eq.mt_in, Pl.Eq.mt_g1, Pl.Eq.mt_g2, Pl.Eq.oL_seq, Pl.Eq.oL_tru, Pl.Eq.oL_it, Pl.Eq.oL_ix, Pl.Eq.oL_set, Pl.Eq.oL_len, Pl.Eq.oL_in, Pl.Eq.oL_tyA, Pl.Eq.oL_tyI, Pl.Eq.oL_tyP, Pl.Eq.oL_tyQ, Pl.Eq.oL_tyE, Pl.Eq.oL_tyN, Pl.Eq.oL_app, Pl.Eq.oL_p0, Pl.Eq.oL_p1, Pl.Eq.oL_ex, Pl.Eq.oL_ins, Pl.Eq.oD_dic, Pl.Eq.oL_dic, Pl.Eq.oD_it, Pl.Eq.oD_ix, Pl.Eq.oD_set, Pl.Eq.oD_len, Pl.Eq.oD_in, Pl.Eq.oD_tyG, Pl.Eq.oD_tyH, Pl.Eq.oD_g1, Pl.Eq.oD_g2, Pl.Eq.fx_get, Pl.Eq.fx_get0, Pl.Eq.fx_set, Pl.Eq.fx_set0, Pl.Eq.fx_getS, Pl.Eq.fx_getS0, Pl.Eq.fx_setS, Pl.Eq.fx_setS0, Pl.Eq.at_nat, Pl.Eq.at_0, Pl.Eq.at_1, Pl.Eq.at_2, Pl.Eq.at_3, Pl.Eq.at_4, Pl.Eq.at_last, Pl.Eq.sz, Pl.Eq.ixN_0, Pl.Eq.ixN_1, Pl.Eq.ixN_2, Pl.Eq.ixN_3, Pl.Eq.ixN_4, List.getElem?_cons_zero, List.getElem?_cons_succ, List.set_cons_zero, List.set_cons_succ, Option.some.injEq, exists_eq_left, exists_eq_left', U.int.injEq, U.bl.injEq, U.tup.injEq, U.lst.injEq, Int.zero_add, Nat.reduceLeDiff, List.cons_append, List.nil_append, false_and, exists_false, exists_const, false_or, or_false, Pl.T.own, Pl.Ts.own, Pl.Ts.len, wipeU, Pl.Eq.eqI, Pl.Eq.eqB, beq_self_eq_true, Bool.not_true, Bool.not_false, Bool.false_eq_true, Bool.true_eq_false, reduceCtorEq, decide_true, decide_false, List.length_cons, List.length_nil, Nat.zero_add, Nat.reduceAdd, Nat.reduceLT, if_true, if_false, reduceIte, true_and, and_true, List.set_set, List.append_assoc, List.length_append, List.length_set, Nat.add_zero, List.append_nil, $as,*]))
section
variable {tbl : Str → Option Fn} {n : Nat} {h : Hu} {Q : QE} {E : Ex → Hu → Prop}
theorem c_due (f_same : tbl "_law_same" = some ⟨2, 3, t_same⟩) (f_differ : tbl "_law_differ" = some ⟨2, 2, m_law_differ⟩) (f_due : tbl "_law_due" = some ⟨2, 11, m_law_due⟩) {rs rs' : List U} {t1 t2 : Tb} {w c : Nat} (hr : rs.length = w) (hw : w ≤ 1000) (hc : c ≤ 1000)
    (m1 : MOk c w t1) (m2 : MOk c w t2) (q : ∀ R, walk t1 t2 w = R → Q (resU R) h) : callN tbl (n + 4) "_law_due" [.tup [.tup rs, encT t1], .tup [.tup rs', encT t2]] h Q E := by
  refine call_in f_due rfl (g := [some (.tup [.tup rs, encT t1]), some (.tup [.tup rs', encT t2]), none, none, none, none, none, none, none, none, none]) rfl ?_
  unfold m_law_due
  have hs : 1000000 < sizeLine := by decide
  have n10 : 0 < t1.length := List.length_pos_iff.mpr m1.wf.ne
  have n20 : 0 < t2.length := List.length_pos_iff.mpr m2.wf.ne
  have n1b := m1.wf.s
  have n2b := m2.wf.s
  have nb : t1.length * t2.length ≤ 1000000 := Nat.mul_le_mul n1b n2b
  obtain ⟨R, hR⟩ : ∃ R, walk t1 t2 w = R := ⟨_, rfl⟩
  replace q := q R hR
  simp_all! [encT]
  simp_all! []
  refine ⟨_, rfl, by decide, by decide, ?_⟩
  simp_all! [List.length_map]
  refine ⟨.inr ⟨by omega, by omega⟩, ?_⟩
  have enn : (t1.length : Int) * (t2.length : Int) + 1 = ((t1.length * t2.length + 1 : Nat) : Int) := by simp
  rw [enn]
  refine ⟨⟨by omega, by omega⟩, ?_⟩
  have fin : ∀ (D : List Ent) (jk : List O) (a b c d e f g' k : Option U), DOk t1.length t2.length D → R = .ok D →
      wpSs (callN tbl (n + 3)) (fun e _ h' => E e h') (match m_law_due with | .cons _ (.cons _ (.cons _ b)) => b | _ => .nil) ⟨fun _ h' => stl h .non h' Q, fun r h' => stl h r h' Q, fun _ _ => False, fun _ _ => False⟩
        [some (.tup [.tup rs, .tup (t1.map encL)]), some (.tup [.tup rs', .tup (t2.map encL)]), a, some (.mr h.length), b, c, d, e, f, g', k] (h ++ (.dic (kdB D) :: jk)) := by
    rintro D jk a b c d e f g' k dok rfl
    unfold m_law_due
    simp_all! [ks_kdB, ks_sort]
    have dl := dok.len
    exact stl_pure (sm_pd (sm_mono (by decide) (same_sm (D := D) (by omega)))) q
  refine frRng (fun i g h' => ∃ (fz : Nat) (D T : List Ent) (tv : U) (jk : List O) (a b c d e f k : Option U), fz + i = t1.length * t2.length + 1 ∧ h' = h ++ (.dic (kdB D) :: jk) ∧ TodoV h jk tv (enU T) ∧ DOk t1.length t2.length D ∧ (∀ e ∈ T, e ∈ D) ∧
    g = [some (.tup [.tup rs, .tup (t1.map encL)]), some (.tup [.tup rs', .tup (t2.map encL)]), some tv, some (.mr h.length), a, b, c, d, e, f, k] ∧
    T ≠ [] ∧ bfs t1 t2 w fz D T = R ∧ t1.length * t2.length + 1 ≤ fz + D.length)
    ⟨_, D0, D0, _, [], none, none, none, none, none, none, none, rfl, rfl, .fr _, D0_ok n10 n20, fun _ m => m, rfl, by simp [D0], hR, by omega⟩ ?_ ?_
  · rintro i _ _ hi ⟨f, D, T, tv, jk, a, b, c', d, e', f', k', ef, rfl, tV, dok, TD, rfl, Tn, bR, mb⟩ K hK
    have dl := dok.len
    obtain ⟨f, rfl⟩ : ∃ f', f = f' + 1 := ⟨f - 1, by omega⟩
    dsimp! []
    simp_all! []
    simp_all! [tV.seq]
    refine .inr ?_
    have tsrc := fun (o : O) (os : List O) => tV.src (o := o) (os := os)
    unfold bfs at bR
    obtain ⟨G, hG⟩ : ∃ G, goT t1 t2 w T (D, []) = G := ⟨_, rfl⟩
    rw [hG] at bR
    refine frMap (f := fun e : Ent => .tup [wayU e.2, prU e.1]) (xs := T) (fun r g h' => ∃ (L : List Ent) (b c d e f : Option U), h' = h ++ (.dic (kdB (D ++ L)) :: (jk ++ [.lst (enU L)])) ∧ DOk t1.length t2.length (D ++ L) ∧ (∀ e ∈ r, e ∈ D) ∧ goT t1 t2 w r (D ++ L, L) = G ∧
      g = [some (.tup [.tup rs, .tup (t1.map encL)]), some (.tup [.tup rs', .tup (t2.map encL)]), some tv, some (.mr h.length), some (.int i), some (.mr (h.length + (jk.length + 1))), b, c, d, e, f]) ?_ ?_
      ⟨[], c', d, e', f', k', by simp [enU], by simpa using dok, TD, by simpa using hG, rfl⟩
    · rintro e r _ _ ⟨L, b, c', d, e1, f1, rfl, dok', rD, gG, rfl⟩ k hk
      have eD := rD e List.mem_cons_self
      obtain ⟨eb1, eb2⟩ := dok.b e eD
      have el := dok.l e eD
      unfold goT at gG
      obtain ⟨G1, hG1⟩ : ∃ G1, goI t1 t2 e w 0 (D ++ L, L) = G1 := ⟨_, rfl⟩
      rw [hG1] at gG
      dsimp! [tsrc]
      simp_all! []
      refine ⟨⟨by omega, by omega⟩, ?_⟩
      rw [hr]
      refine frRng (fun j g h' => ∃ (fu : Nat) (L : List Ent) (d e1 f : Option U), fu + j = w ∧ h' = h ++ (.dic (kdB (D ++ L)) :: (jk ++ [.lst (enU L)])) ∧ DOk t1.length t2.length (D ++ L) ∧ goI t1 t2 e fu j (D ++ L, L) = G1 ∧
        g = [some (.tup [.tup rs, .tup (t1.map encL)]), some (.tup [.tup rs', .tup (t2.map encL)]), some tv, some (.mr h.length), some (.int i), some (.mr (h.length + (jk.length + 1))), some (wayU e.2), some (prU e.1), d, e1, f])
        ⟨w, L, _, _, _, by omega, rfl, dok', hG1, rfl⟩ ?_ ?_
      · rintro i _ _ hi ⟨fu, L, d, e1, f1, fe, rfl, dok', g1, rfl⟩ k2 hk2
        have hi' : i < w := by simpa using hi
        obtain ⟨fu, rfl⟩ : ∃ f, fu = f + 1 := ⟨fu - 1, by omega⟩
        unfold goI at g1
        obtain ⟨l1, z1, z2⟩ := pc_at m1.wf eb1 hi'
        obtain ⟨l2, z3, z4⟩ := pc_at m2.wf eb2 hi'
        have po1 := pc_out m1 hc (s := e.1.1) (i := i)
        have po2 := pc_out m2 hc (s := e.1.2) (i := i)
        have bb : ∀ p, nxP (pc t1 e.1.1 i) (pc t2 e.1.2 i) = some p → p.1 < t1.length ∧ p.2 < t2.length := fun p z => nxP_b m1.wf m2.wf z rfl rfl
        generalize pc t1 e.1.1 i = p1 at *
        generalize pc t2 e.1.2 i = p2 at *
        have dl' := dok'.len
        have wl : e.2.length + 1 ≤ sizeLine := by omega
        simp_all! [pr_0, z1, z2]
        simp_all! [pr_1, z3, z4]
        rw [Pl.Eq.ss_cons]
        dsimp! []
        refine l_differ f_same f_differ po1 po2 ?_
        dsimp! []
        by_cases df : difP p1 p2 = true
        · rw [if_pos df] at g1
          dsimp! [df]
          simp_all! [way_add]
          have dl0 := dok.len
          refine ⟨wl, stl_pure (sm_pd (sm_mono (by decide) (apart_sm (w := e.2 ++ [i]) (by simp; omega)))) ?_⟩
          rw [← g1] at gG
          simp only at gG
          rw [← gG] at bR
          rw [← bR] at q
          exact q
        · have df' : difP p1 p2 = false := by simpa using df
          rw [if_neg df] at g1
          dsimp! [df']
          cases p1 with
          | none =>
            cases p2 with
            | some y => simp [difP] at df'
            | none =>
              simp_all! [pc_isN]
              exact hk2 _ _ ⟨fu, L, _, _, _, by omega, rfl, dok', g1, rfl⟩
          | some x =>
            cases p2 with
            | none => simp [difP] at df'
            | some y =>
              obtain ⟨u, k1⟩ := x
              obtain ⟨v, k2'⟩ := y
              simp only [nxP, addE] at g1
              have bb' := bb _ rfl
              simp_all! [encP, pr_mk, pr_enc.s, kdB_in]
              by_cases mem : (k1, k2') ∈ (D ++ L).map (·.1)
              · rw [if_pos mem] at g1
                dsimp! [mem]
                exact hk2 _ _ ⟨fu, L, _, _, _, by omega, rfl, dok', g1, rfl⟩
              · rw [if_neg mem] at g1
                dsimp! [mem]
                simp_all! [pr_mk, pr_enc.s, kdB_put (w := e.2 ++ [i]) mem]
                refine ⟨by simp [kdB]; have := dok'.len; simp at this; omega, ?_⟩
                simp_all! [way_add, pr_mk]
                refine ⟨wl, by simp [enU]; have := dok'.len; simp at this; omega, ?_⟩
                refine hk2 _ _ ⟨fu, L ++ [((k1, k2'), e.2 ++ [i])], _, _, _, by omega, by simp [enU_app], ?_, ?_, rfl⟩
                · rw [← List.append_assoc]
                  exact dok'.add mem bb' (by simp; omega)
                · rw [← List.append_assoc]
                  exact g1
      · rintro _ _ ⟨fu, L, d, e1, f1, fe, rfl, dok', g1, rfl⟩
        have f0 : fu = 0 := by omega
        subst f0
        have g1' : G1 = .ok (D ++ L, L) := g1.symm
        rw [g1'] at gG
        dsimp! []
        exact hk _ _ ⟨L, _, _, _, _, _, rfl, dok', fun e m => rD e (List.mem_cons_of_mem _ m), gG, rfl⟩
    · rintro _ _ ⟨L, b, c', d, e1, f1, rfl, dok', rD, gG, rfl⟩
      have gG' : G = .ok (D ++ L, L) := gG.symm
      rw [gG'] at bR
      dsimp! [tsrc]
      simp_all! []
      have tv' : TodoV h (jk ++ [.lst (enU L)]) (.mr (h.length + (jk.length + 1))) (enU L) := .mr _ _ (by simp)
      simp_all! []
      by_cases Ln : L = []
      · subst Ln
        have te0 : (((enU ([] : List Ent)).length : Int) == 0) = true := rfl
        dsimp! [te0]
        simp_all! []
        rw [List.append_nil] at dok' bR
        exact fin _ _ _ _ _ _ _ _ _ _ dok' (by rw [← bR]; rfl)
      · have lp : 0 < L.length := List.length_pos_iff.mpr Ln
        have te0 : (((enU L).length : Int) == 0) = false := by simp [enU]; exact Ln
        dsimp! [te0]
        refine hK _ _ ⟨f, D ++ L, L, _, _, _, _, _, _, _, _, _, by omega, rfl, tv', dok', fun e m => List.mem_append_right _ m, rfl, Ln, ?_, ?_⟩
        · rw [← bR]
          simp [aft, Ln]
        · simp; omega
  · rintro _ _ ⟨f, D, T, tv, jk, a, b, c', d, e', f', k', ef, rfl, tV, dok, TD, rfl, Tn, bR, mb⟩
    have dl := dok.len
    rw [Int.toNat_natCast] at ef
    have hz : f = 0 := by omega
    omega
end
end Pl.Ma
set_option Elab.async false
set_option linter.all false
set_option maxRecDepth 100000
set_option autoImplicit false
/-! the classes of a machine's states. -/
namespace Pl.Ma
open PySem Pl L2 Pl.Eq Pl.Tp
local macro_rules | `(tactic| simp_all! [$as,*]) => `(tactic| ((try dsimp only); rw [Pl.Eq.ss_cons]; simp only [Pl.Eq.e_cst, Pl.Eq.b_cst, Pl.Eq.e_var, Pl.Eq.b_var, Pl.Eq.e_bin, Pl.Eq.b_bin, Pl.Eq.e_neg, Pl.Eq.e_not, Pl.Eq.b_not, Pl.Eq.e_bop, Pl.Eq.b_bop, Pl.Eq.e_cmp, Pl.Eq.b_cmp, Pl.Eq.e_cmp2, Pl.Eq.b_cmp2, Pl.Eq.e_ife, Pl.Eq.b_ife, Pl.Eq.e_call, Pl.Eq.b_call, Pl.Eq.e_bi, Pl.Eq.b_bi, Pl.Eq.e_isi, Pl.Eq.b_isi, Pl.Eq.e_mth, Pl.Eq.e_ix, Pl.Eq.b_ix, Pl.Eq.e_sl, Pl.Eq.e_tup, Pl.Eq.e_lst, Pl.Eq.e_lc, Pl.Eq.e_lc2, Pl.Eq.e_lrg, Pl.Eq.e_dic, Pl.Eq.es_nil, Pl.Eq.es_cons, Pl.Eq.o_none, Pl.Eq.o_some, Pl.Eq.bb_nil, Pl.Eq.bb_cons, Pl.Eq.bo_one, Pl.Eq.bo_cons, Pl.Eq.f_nil, Pl.Eq.f_cons, Pl.Eq.i_val, Pl.Eq.i_rng1, Pl.Eq.i_rng2, Pl.Eq.i_rng3, Pl.Eq.i_enum, Pl.Eq.t_nm, Pl.Eq.t_tp, Pl.Eq.ts_nil, Pl.Eq.ts_cons, Pl.Eq.t_sub, Pl.Eq.s_expr, Pl.Eq.s_asg, Pl.Eq.s_par, Pl.Eq.s_aug, Pl.Eq.s_ret, Pl.Eq.s_retN, Pl.Eq.s_ifs, Pl.Eq.s_fr, Pl.Eq.s_brk, Pl.Eq.s_cnt, Pl.Eq.s_pass, Pl.Eq.ss_nil, Pl.Eq.p_addI, Pl.Eq.p_addT, Pl.Eq.p_subI, Pl.Eq.p_mulI, Pl.Eq.p_fdivI, Pl.Eq.p_modI, Pl.Eq.p_powI, Pl.Eq.p_lt, Pl.Eq.p_le, Pl.Eq.p_gt, Pl.Eq.p_ge, Pl.Eq.p_eq, Pl.Eq.p_ne, Pl.Eq.p_isN, Pl.Eq.p_notN, Pl.Eq.p_isB, Pl.Eq.p_notB, Pl.Eq.t_bl, Pl.Eq.t_int, Pl.Eq.t_tup, Pl.Eq.t_lst, Pl.Eq.mk_t, Pl.Eq.mk_f, Pl.Eq.i_non_tup, Pl.Eq.i_non_lst, Pl.Eq.i_non_int, Pl.Eq.i_non_bl, Pl.Eq.i_non_str, Pl.Eq.i_non_dic, Pl.Eq.i_bl_tup, Pl.Eq.i_bl_lst, Pl.Eq.i_bl_int, Pl.Eq.i_bl_bl, Pl.Eq.i_bl_str, Pl.Eq.i_bl_dic, Pl.Eq.i_int_tup, Pl.Eq.i_int_lst, Pl.Eq.i_int_int, Pl.Eq.i_int_bl, Pl.Eq.i_int_str, Pl.Eq.i_int_dic, Pl.Eq.i_str_tup, Pl.Eq.i_str_lst, Pl.Eq.i_str_int, Pl.Eq.i_str_bl, Pl.Eq.i_str_str, Pl.Eq.i_str_dic, Pl.Eq.i_tup_tup, Pl.Eq.i_tup_lst, Pl.Eq.i_tup_int, Pl.Eq.i_tup_bl, Pl.Eq.i_tup_str, Pl.Eq.i_tup_dic, Pl.Eq.i_lst_tup, Pl.Eq.i_lst_lst, Pl.Eq.i_lst_int, Pl.Eq.i_lst_bl, Pl.Eq.i_lst_str, Pl.Eq.i_lst_dic, Pl.Eq.n_non, Pl.Eq.n_bl, Pl.Eq.n_int, Pl.Eq.n_str, Pl.Eq.n_tup, Pl.Eq.n_lst, Pl.Eq.p_slT, Pl.Eq.p_lenT, Pl.Eq.p_lenL, Pl.Eq.p_lenR, Pl.Eq.p_intI, Pl.Eq.p_tuple, Pl.Eq.p_list, Pl.Eq.p_sorted, Pl.Eq.p_max1, Pl.Eq.p_min1, Pl.Eq.p_min, Pl.Eq.p_intB, Pl.Eq.p_mulT, Pl.Eq.p_addLL, Pl.Eq.p_slL, Pl.Eq.it_tup, Pl.Eq.it_lst, Pl.Eq.it_ro, Pl.Eq.si_lst, Pl.Eq.p_all, Pl.Eq.p_any, Pl.Eq.p_max, Pl.Eq.q_tup, Pl.Eq.q_lst, Pl.Eq.q_ro, Pl.Eq.l_lst, Pl.Eq.src_tup, Pl.Eq.src_lst, Pl.Eq.src_ro, Pl.Eq.src_mr, Pl.Eq.atP_some, Pl.Eq.x_tup_, Pl.Eq.x_lst_, Pl.Eq.x_ro_, Pl.Eq.seq_mr, Pl.Eq.lst_mr, Pl.Eq.dic_mr, Pl.Eq.tru_mr, Pl.Eq.it_mr, Pl.Eq.si_mr, Pl.Eq.x_mr, Pl.Eq.set_mr, Pl.Eq.len_mr, Pl.Eq.in_mr, Pl.Eq.nin_mr, Pl.Eq.ty_mr, Pl.Eq.mt_app, Pl.Eq.mt_p0, Pl.Eq.mt_p1, Pl.Eq.mt_ex, Pl.Eq.mt_in, Pl.Eq.mt_g1, Pl.Eq.mt_g2, Pl.Eq.oL_seq, Pl.Eq.oL_tru, Pl.Eq.oL_it, Pl.Eq.oL_ix, Pl.Eq.oL_set, Pl.Eq.oL_len, Pl.Eq.oL_in, Pl.Eq.oL_tyA, Pl.Eq.oL_tyI, Pl.Eq.oL_tyP, Pl.Eq.oL_tyQ, Pl.Eq.oL_tyE, Pl.Eq.oL_tyN, Pl.Eq.oL_app, Pl.Eq.oL_p0, Pl.Eq.oL_p1, Pl.Eq.oL_ex, Pl.Eq.oL_ins, Pl.Eq.oD_dic, Pl.Eq.oL_dic, Pl.Eq.oD_it, Pl.Eq.oD_ix, Pl.Eq.oD_set, Pl.Eq.oD_len, Pl.Eq.oD_in, Pl.Eq.oD_tyG, Pl.Eq.oD_tyH, Pl.Eq.oD_g1, Pl.Eq.oD_g2, Pl.Eq.fx_get, Pl.Eq.fx_get0, Pl.Eq.fx_set, Pl.Eq.fx_set0, Pl.Eq.fx_getS, Pl.Eq.fx_getS0, Pl.Eq.fx_setS, Pl.Eq.fx_setS0, Pl.Eq.at_nat, Pl.Eq.at_0, Pl.Eq.at_1, Pl.Eq.at_2, Pl.Eq.at_3, Pl.Eq.at_4, Pl.Eq.at_last, Pl.Eq.sz, Pl.Eq.ixN_0, Pl.Eq.ixN_1, Pl.Eq.ixN_2, Pl.Eq.ixN_3, Pl.Eq.ixN_4, List.getElem?_cons_zero, List.getElem?_cons_succ, List.set_cons_zero, List.set_cons_succ, Option.some.injEq, exists_eq_left, exists_eq_left', U.int.injEq, U.bl.injEq, U.tup.injEq, U.lst.injEq, Int.zero_add, Nat.reduceLeDiff, List.cons_append, List.nil_append, false_and, exists_false, exists_const, false_or, or_false, Pl.T.own, Pl.Ts.own, Pl.Ts.len, wipeU, Pl.Eq.eqI, Pl.Eq.eqB, beq_self_eq_true, Bool.not_true, Bool.not_false, Bool.false_eq_true, Bool.true_eq_false, reduceCtorEq, decide_true, decide_false, List.length_cons, List.length_nil, Nat.zero_add, Nat.reduceAdd, Nat.reduceLT, if_true, if_false, reduceIte, true_and, and_true, List.set_set, List.append_assoc, List.length_append, List.length_set, Nat.add_zero, List.append_nil, $as,*]))
local macro_rules | `(tactic| dsimp! [$as,*]) => `(tactic| (try simp only [Pl.Eq.e_cst, Pl.Eq.b_cst, Pl.Eq.e_var, Pl.Eq.b_var, Pl.Eq.e_bin, Pl.Eq.b_bin, Pl.Eq.e_neg, Pl.Eq.e_not, Pl.Eq.b_not, Pl.Eq.e_bop, Pl.Eq.b_bop, Pl.Eq.e_cmp, Pl.Eq.b_cmp, Pl.Eq.e_cmp2, Pl.Eq.b_cmp2, Pl.Eq.e_ife, Pl.Eq.b_ife, Pl.Eq.e_call, Pl.Eq.b_call, Pl.Eq.e_bi, Pl.Eq.b_bi, Pl.Eq.e_isi, Pl.Eq.b_isi, Pl.Eq.e_mth, Pl.Eq.e_ix, Pl.Eq.b_ix, Pl.Eq.e_sl, Pl.Eq.e_tup, Pl.Eq.e_lst, Pl.Eq.e_lc, Pl.Eq.e_lc2, Pl.Eq.e_lrg, Pl.Eq.e_dic, Pl.Eq.es_nil, Pl.Eq.es_cons, Pl.Eq.o_none, Pl.Eq.o_some, Pl.Eq.bb_nil, Pl.Eq.bb_cons, Pl.Eq.bo_one, Pl.Eq.bo_cons, Pl.Eq.f_nil, Pl.Eq.f_cons, Pl.Eq.i_val, Pl.Eq.i_rng1, Pl.Eq.i_rng2, Pl.Eq.i_rng3, Pl.Eq.i_enum, Pl.Eq.t_nm, Pl.Eq.t_tp, Pl.Eq.ts_nil, Pl.Eq.ts_cons, Pl.Eq.t_sub, Pl.Eq.s_expr, Pl.Eq.s_asg, Pl.Eq.s_par, Pl.Eq.s_aug, Pl.Eq.s_ret, Pl.Eq.s_retN, Pl.Eq.s_ifs, Pl.Eq.s_fr, Pl.Eq.s_brk, Pl.Eq.s_cnt, Pl.Eq.s_pass, Pl.Eq.ss_nil, Pl.Eq.p_addI, Pl.Eq.p_addT, Pl.Eq.p_subI, Pl.Eq.p_mulI, Pl.Eq.p_fdivI, Pl.Eq.p_modI, Pl.Eq.p_powI, Pl.Eq.p_lt, Pl.Eq.p_le, Pl.Eq.p_gt, Pl.Eq.p_ge, Pl.Eq.p_eq, Pl.Eq.p_ne, Pl.Eq.p_isN, Pl.Eq.p_notN, Pl.Eq.p_isB, Pl.Eq.p_notB, Pl.Eq.t_bl, Pl.Eq.t_int, Pl.Eq.t_tup, Pl.Eq.t_lst, Pl.Eq.mk_t, Pl.Eq.mk_f, Pl.Eq.i_non_tup, Pl.Eq.i_non_lst, Pl.Eq.i_non_int, Pl.Eq.i_non_bl, Pl.Eq.i_non_str, Pl.Eq.i_non_dic, Pl.Eq.i_bl_tup, Pl.Eq.i_bl_lst, Pl.Eq.i_bl_int, Pl.Eq.i_bl_bl, Pl.Eq.i_bl_str, Pl.Eq.i_bl_dic, Pl.Eq.i_int_tup, Pl.Eq.i_int_lst, Pl.Eq.i_int_int, Pl.Eq.i_int_bl, Pl.Eq.i_int_str, Pl.Eq.i_int_dic, Pl.Eq.i_str_tup, Pl.Eq.i_str_lst, Pl.Eq.i_str_int, Pl.Eq.i_str_bl, Pl.Eq.i_str_str, Pl.Eq.i_str_dic, Pl.Eq.i_tup_tup, Pl.Eq.i_tup_lst, Pl.Eq.i_tup_int, Pl.Eq.i_tup_bl, Pl.Eq.i_tup_str, Pl.Eq.i_tup_dic, Pl.Eq.i_lst_tup, Pl.Eq.i_lst_lst, Pl.Eq.i_lst_int, Pl.Eq.i_lst_bl, Pl.Eq.i_lst_str, Pl.Eq.i_lst_dic, Pl.Eq.n_non, Pl.Eq.n_bl, Pl.Eq.n_int, Pl.Eq.n_str, Pl.Eq.n_tup, Pl.Eq.n_lst, Pl.Eq.p_slT, Pl.Eq.p_lenT, Pl.Eq.p_lenL, Pl.Eq.p_lenR, Pl.Eq.p_intI, Pl.Eq.p_tuple, Pl.Eq.p_list, Pl.Eq.p_sorted, Pl.Eq.p_max1, Pl.Eq.p_min1, Pl.Eq.p_min, Pl.Eq.p_intB, Pl.Eq.p_mulT, Pl.Eq.p_addLL, Pl.Eq.p_slL, Pl.Eq.it_tup, Pl.Eq.it_lst, Pl.Eq.it_ro, Pl.Eq.si_lst, Pl.Eq.p_all, Pl.Eq.p_any, Pl.Eq.p_max, Pl.Eq.q_tup, Pl.Eq.q_lst, Pl.Eq.q_ro, Pl.Eq.l_lst, Pl.Eq.src_tup, Pl.Eq.src_lst, Pl.Eq.src_ro, Pl.Eq.src_mr, Pl.Eq.atP_some, Pl.Eq.x_tup_, Pl.Eq.x_lst_, Pl.Eq.x_ro_, Pl.Eq.seq_mr, Pl.Eq.lst_mr, Pl.Eq.dic_mr, Pl.Eq.tru_mr, Pl.Eq.it_mr, Pl.Eq.si_mr, Pl.Eq.x_mr, Pl.Eq.set_mr, Pl.Eq.len_mr, Pl.Eq.in_mr, Pl.Eq.nin_mr, Pl.Eq.ty_mr, Pl.Eq.mt_app, Pl.Eq.mt_p0, Pl.Eq.mt_p1, Pl.Eq.mt_ex, Pl.Eq.mt_in, Pl.Eq.mt_g1, Pl.Eq.mt_g2, Pl.Eq.oL_seq, Pl.Eq.oL_tru, Pl.Eq.oL_it, Pl.Eq.oL_ix, Pl.Eq.oL_set, Pl.Eq.oL_len, Pl.Eq.oL_in, Pl.Eq.oL_tyA, Pl.Eq.oL_tyI, Pl.Eq.oL_tyP, Pl.Eq.oL_tyQ, Pl.Eq.oL_tyE, Pl.Eq.oL_tyN, Pl.Eq.oL_app, Pl.Eq.oL_p0, Pl.Eq.oL_p1, Pl.Eq.oL_ex, Pl.Eq.oL_ins, Pl.Eq.oD_dic, Pl.Eq.oL_dic, Pl.Eq.oD_it, Pl.Eq.oD_ix, Pl.Eq.oD_set, Pl.Eq.oD_len, Pl.Eq.oD_in, Pl.Eq.oD_tyG, Pl.Eq.oD_tyH, Pl.Eq.oD_g1, Pl.Eq.oD_g2, Pl.Eq.fx_get, Pl.Eq.fx_get0, Pl.Eq.fx_set, Pl.Eq.fx_set0, Pl.Eq.fx_getS, Pl.Eq.fx_getS0, Pl.Eq.fx_setS, Pl.Eq.fx_setS0, Pl.Eq.at_nat, Pl.Eq.at_0, Pl.Eq.at_1, Pl.Eq.at_2, Pl.Eq.at_3, Pl.Eq.at_4, Pl.Eq.at_last, Pl.Eq.sz, Pl.Eq.ixN_0, Pl.Eq.ixN_1, Pl.Eq.ixN_2, Pl.Eq.ixN_3, Pl.Eq.ixN_4, List.getElem?_cons_zero, List.getElem?_cons_succ, List.set_cons_zero, List.set_cons_succ, Option.some.injEq, exists_eq_left, exists_eq_left', U.int.injEq, U.bl.injEq, U.tup.injEq, U.lst.injEq, Int.zero_add, Nat.reduceLeDiff, List.cons_append, List.nil_append, false_and, exists_false, exists_const, false_or, or_false, Pl.T.own, Pl.Ts.own, Pl.Ts.len, wipeU, Pl.Eq.eqI, Pl.Eq.eqB, beq_self_eq_true, Bool.not_true, Bool.not_false, Bool.false_eq_true, Bool.true_eq_false, reduceCtorEq, decide_true, decide_false, List.length_cons, List.length_nil, Nat.zero_add, Nat.reduceAdd, Nat.reduceLT, if_true, if_false, reduceIte, true_and, and_true, List.set_set, List.append_assoc, List.length_append, List.length_set, Nat.add_zero, List.append_nil, $as,*]))
def m_first_keys : Ss := (.cons (.ret (.lc false (.nm 1) (.val (.ix (.var 0) (.cst (.int 1)))) .nil (.bi .tuple false (.cons (.lc false (.nm 2) (.val (.var 1)) .nil (.ife (.cmp .isN (.var 2) (.cst .non)) (.cst .non) (.call "tagged" (.cons (.ix (.var 2) (.cst (.int 0))) .nil)))) .nil))))
    .nil)
def m_tagged : Ss := (.cons (.ifs (.isi .tup (.var 0)) (.cons (.ret (.bi .tuple false (.cons (.lc false (.nm 1) (.val (.var 0)) .nil (.call "tagged" (.cons (.var 1) .nil))) .nil)))
    .nil) .nil)
    (.cons (.ret (.tup (.cons (.isi .bl (.var 0)) (.cons (.var 0) .nil))))
    .nil))
def m_in_order : Ss := (.cons (.asg (.nm 1) (.dic .nil))
    (.cons (.asg (.nm 2) (.lst true .nil))
    (.cons (.fr (.nm 3) (.val (.var 0)) (.cons (.ifs (.cmp .nin (.var 3) (.var 1)) (.cons (.asg (.sub (.var 1) (.var 3)) (.bi .len false (.cons (.var 1) .nil)))
    .nil) .nil)
    (.cons (.expr (.mth .append (.var 2) (.cons (.ix (.var 1) (.var 3)) .nil)))
    .nil)))
    (.cons (.ret (.var 2))
    .nil))))
def m_refined : Ss := (.cons (.asg (.nm 2) (.lst true .nil))
    (.cons (.fr (.tp (.cons (.nm 3) (.cons (.nm 4) .nil))) (.enum (.ix (.var 0) (.cst (.int 1)))) (.cons (.expr (.mth .append (.var 2) (.cons (.bin .add false (.tup (.cons (.ix (.var 1) (.var 3)) .nil)) (.bi .tuple false (.cons (.lc false (.nm 5) (.val (.var 4)) .nil (.ife (.cmp .isN (.var 5) (.cst .non)) (.cst .non) (.ix (.var 1) (.ix (.var 5) (.cst (.int 1)))))) .nil))) .nil)))
    .nil))
    (.cons (.ret (.call "in_order" (.cons (.var 2) .nil)))
    .nil)))
def m_classes : Ss := (.cons (.asg (.nm 1) (.call "in_order" (.cons (.call "first_keys" (.cons (.var 0) .nil)) .nil)))
    (.cons (.wh (.cst (.bl true)) (.cons (.asg (.nm 2) (.call "refined" (.cons (.var 0) (.cons (.var 1) .nil))))
    (.cons (.ifs (.cmp .eq (.bi .max1 false (.cons (.var 2) .nil)) (.bi .max1 false (.cons (.var 1) .nil))) (.cons (.ret (.bi .tuple false (.cons (.var 1) .nil)))
    .nil) .nil)
    (.cons (.asg (.nm 1) (.var 2))
    .nil))))
    .nil))
def m_least_machine : Ss := (.cons (.asg (.tp (.cons (.nm 1) (.cons (.nm 2) .nil))) (.var 0))
    (.cons (.asg (.nm 3) (.call "classes" (.cons (.var 0) .nil)))
    (.cons (.asg (.nm 4) (.lst true (.cons (.cst (.int 0)) .nil)))
    (.cons (.asg (.nm 5) (.dic (.cons (.ix (.var 3) (.cst (.int 0))) (.cons (.cst (.int 0)) .nil))))
    (.cons (.asg (.nm 6) (.lst true .nil))
    (.cons (.wh (.cmp .lt (.bi .len false (.cons (.var 6) .nil)) (.bi .len false (.cons (.var 4) .nil))) (.cons (.asg (.nm 7) (.lst true .nil))
    (.cons (.fr (.nm 8) (.val (.ix (.var 2) (.ix (.var 4) (.bi .len false (.cons (.var 6) .nil))))) (.cons (.ifs (.cmp .isN (.var 8) (.cst .non)) (.cons (.expr (.mth .append (.var 7) (.cons (.cst .non) .nil)))
    (.cons .cnt
    .nil)) .nil)
    (.cons (.asg (.tp (.cons (.nm 9) (.cons (.nm 10) .nil))) (.var 8))
    (.cons (.ifs (.cmp .nin (.ix (.var 3) (.var 10)) (.var 5)) (.cons (.asg (.sub (.var 5) (.ix (.var 3) (.var 10))) (.bi .len false (.cons (.var 4) .nil)))
    (.cons (.expr (.mth .append (.var 4) (.cons (.var 10) .nil)))
    .nil)) .nil)
    (.cons (.expr (.mth .append (.var 7) (.cons (.tup (.cons (.var 9) (.cons (.ix (.var 5) (.ix (.var 3) (.var 10))) .nil))) .nil)))
    .nil)))))
    (.cons (.expr (.mth .append (.var 6) (.cons (.bi .tuple false (.cons (.var 7) .nil)) .nil)))
    .nil))))
    (.cons (.ret (.tup (.cons (.var 1) (.cons (.bi .tuple false (.cons (.var 6) .nil)) .nil))))
    .nil)))))))
/-! keys -/
def isKey (d : Nat) (u : U) (k : NestedKey) : Prop := keyU u = some k ∧ k.depth ≤ d
theorem isKey.kOf {d : Nat} {u : U} {k : NestedKey} (h : isKey d u k) (l : d ≤ 8) : kOf u = some k := by
  unfold Pl.kOf
  rw [h.1]
  exact if_pos (Nat.le_trans h.2 l)
theorem isKey_map {α : Type} {d : Nat} {f : α → U} {g : α → NestedKey} : ∀ {l : List α}, (∀ x ∈ l, isKey d (f x) (g x)) → isKey (d + 1) (.tup (l.map f)) (.tup (l.map g))
  | [], _ => ⟨rfl, by show 0 + 1 ≤ d + 1; omega⟩
  | x :: r, h => by
    obtain ⟨a, b⟩ := h x List.mem_cons_self
    obtain ⟨c, e⟩ := isKey_map (l := r) fun y m => h y (List.mem_cons_of_mem _ m)
    have c' : (keyUs (r.map f)).map NestedKey.tup = some (.tup (r.map g)) := c
    obtain ⟨ks, e1, e2⟩ := Option.map_eq_some_iff.mp c'
    injection e2 with e2
    refine ⟨?_, ?_⟩
    · show (keyUs (f x :: r.map f)).map NestedKey.tup = _
      simp only [keyUs, a, e1, e2]
      rfl
    · have e' : NestedKey.depthAll (r.map g) + 1 ≤ d + 1 := e
      show max (g x).depth (NestedKey.depthAll (r.map g)) + 1 ≤ d + 1
      omega
theorem isKey_two {d : Nat} {u v : U} {k l : NestedKey} (a : isKey d u k) (b : isKey d v l) : isKey (d + 1) (.tup [u, v]) (.tup [k, l]) :=
  isKey_map (l := [(u, k), (v, l)]) (f := (·.1)) (g := (·.2)) fun x m => by
    simp only [List.mem_cons, List.not_mem_nil, or_false] at m
    rcases m with rfl | rfl
    · exact a
    · exact b
theorem isKey_mono {d e : Nat} {u : U} {k : NestedKey} (h : isKey d u k) (l : d ≤ e) : isKey e u k := ⟨h.1, Nat.le_trans h.2 l⟩
def isB : U → Bool
  | .bl _ => true
  | _ => false
def kL : U → NestedKey
  | .bl b => .num (if b = true then 1 else 0)
  | .int i => .num i
  | .str x => .text x
  | _ => .none
theorem leaf_key {x : U} (h : leaf x) : isKey 0 x (kL x) := by
  cases x <;> first | exact h.elim | exact ⟨rfl, Nat.le_refl _⟩
def tagU (x : U) : U := .tup [.bl (isB x), x]
def tagK (x : U) : NestedKey := .tup [kL (.bl (isB x)), kL x]
theorem tag_key {x : U} (h : leaf x) : isKey 1 (tagU x) (tagK x) := isKey_two (leaf_key (x := .bl (isB x)) trivial) (leaf_key h)
theorem tag_inj {x y : U} (hx : leaf x) (hy : leaf y) (h : tagK x = tagK y) : x = y := by
  unfold tagK at h
  injection h with h
  injection h with h1 h2
  injection h2 with h2 _
  cases x <;> cases y <;> first | exact hx.elim | exact hy.elim | (simp [isB, kL] at h1 h2; try simp [h2])
  rename_i a b
  cases a <;> cases b <;> simp at h2 ⊢
def outU : U → U
  | .tup xs => .tup (xs.map tagU)
  | _ => .non
def outK : U → NestedKey
  | .tup xs => .tup (xs.map tagK)
  | _ => .none
theorem map_inj {α β : Type} {f : α → β} : ∀ {xs ys : List α}, (∀ x ∈ xs, ∀ y ∈ ys, f x = f y → x = y) → xs.map f = ys.map f → xs = ys
  | [], [], _, _ => rfl
  | [], _ :: _, _, h => by simp at h
  | _ :: _, [], _, h => by simp at h
  | x :: xs, y :: ys, i, h => by
    rw [List.map_cons, List.map_cons] at h
    injection h with h1 h2
    rw [i x List.mem_cons_self y List.mem_cons_self h1, map_inj (fun a ma b mb => i a (List.mem_cons_of_mem _ ma) b (List.mem_cons_of_mem _ mb)) h2]
theorem out_key {u : U} (h : OutOk u) : isKey 2 (outU u) (outK u) := by
  obtain ⟨xs, rfl, _, hx⟩ := h
  exact isKey_map fun x m => tag_key (hx x m)
theorem out_inj {u v : U} (hu : OutOk u) (hv : OutOk v) (h : outK u = outK v) : u = v := by
  obtain ⟨xs, rfl, _, hx⟩ := hu
  obtain ⟨ys, rfl, _, hy⟩ := hv
  unfold outK at h
  injection h with h
  rw [map_inj (fun x mx y my => tag_inj (hx x mx) (hy y my)) h]
def fkU : Pc → U
  | none => .non
  | some (u, _) => outU u
def fkK : Pc → NestedKey
  | none => .none
  | some (u, _) => outK u
theorem fk_key {p : Pc} (h : POut p) : isKey 2 (fkU p) (fkK p) := by
  cases p with
  | none => exact ⟨rfl, Nat.zero_le _⟩
  | some p => exact out_key (h p.1 p.2 rfl)
theorem fk_inj {p q : Pc} (hp : POut p) (hq : POut q) (h : fkK p = fkK q) : p.map (·.1) = q.map (·.1) := by
  cases p with
  | none =>
    cases q with
    | none => rfl
    | some q =>
      obtain ⟨xs, e, _⟩ := hq q.1 q.2 rfl
      have : NestedKey.none = outK q.1 := h
      rw [e] at this
      cases this
  | some p =>
    cases q with
    | none =>
      obtain ⟨xs, e, _⟩ := hp p.1 p.2 rfl
      have : outK p.1 = NestedKey.none := h
      rw [e] at this
      cases this
    | some q => exact congrArg some (out_inj (hp p.1 p.2 rfl) (hq q.1 q.2 rfl) h)
def lnU (l : List Pc) : U := .tup (l.map fkU)
def lnK (l : List Pc) : NestedKey := .tup (l.map fkK)
theorem ln_key {l : List Pc} (h : ∀ p ∈ l, POut p) : isKey 3 (lnU l) (lnK l) := isKey_map fun p m => fk_key (h p m)
/-- a known row -/
def sucU (K : List Nat) : Pc → U
  | none => .non
  | some (_, k) => .int (K.getD k 0 : Nat)
def sucK (K : List Nat) : Pc → NestedKey
  | none => .none
  | some (_, k) => .num (K.getD k 0 : Nat)
def rfU (K : List Nat) (s : Nat) (l : List Pc) : U := .tup (.int (K.getD s 0 : Nat) :: l.map (sucU K))
def rfK (K : List Nat) (s : Nat) (l : List Pc) : NestedKey := .tup (.num (K.getD s 0 : Nat) :: l.map (sucK K))
theorem suc_key {K : List Nat} {p : Pc} : isKey 0 (sucU K p) (sucK K p) := by
  cases p with
  | none => exact ⟨rfl, Nat.le_refl _⟩
  | some p => exact ⟨rfl, Nat.le_refl _⟩
theorem rf_key {K : List Nat} {s : Nat} {l : List Pc} : isKey 1 (rfU K s l) (rfK K s l) := by
  have := isKey_map (d := 0) (l := (U.int (K.getD s 0 : Nat), NestedKey.num (K.getD s 0 : Nat)) :: l.map fun p => (sucU K p, sucK K p)) (f := (·.1)) (g := (·.2)) (fun x m => by
    rcases List.mem_cons.mp m with rfl | m
    · exact ⟨rfl, Nat.le_refl _⟩
    · obtain ⟨p, _, rfl⟩ := List.mem_map.mp m
      exact suc_key)
  simp only [List.map_cons, List.map_map, Function.comp_def] at this
  exact this
def rfGo (K : List Nat) : Nat → Tb → List (U × NestedKey)
  | _, [] => []
  | s, l :: r => (rfU K s l, rfK K s l) :: rfGo K (s + 1) r
theorem rfGo_ok {K : List Nat} : ∀ {t : Tb} {s : Nat}, ∀ p ∈ rfGo K s t, kOf p.1 = some p.2
  | [], _, _, m => by cases m
  | l :: r, s, p, m => by
    rcases List.mem_cons.mp m with rfl | m
    · exact rf_key.kOf (by decide)
    · exact rfGo_ok (t := r) p m
theorem rfGo_len {K : List Nat} : ∀ {t : Tb} {s : Nat}, (rfGo K s t).length = t.length
  | [], _ => rfl
  | l :: r, s => by rw [rfGo, List.length_cons, rfGo_len, List.length_cons]
theorem rfGo_at {K : List Nat} : ∀ {t : Tb} {s i : Nat}, i < t.length → ((rfGo K s t).map (·.2))[i]? = some (rfK K (s + i) (t.getD i []))
  | [], _, _, h => by cases h
  | l :: r, s, 0, _ => rfl
  | l :: r, s, i + 1, h => by
    have := rfGo_at (K := K) (t := r) (s := s + 1) (i := i) (by simpa using h)
    rw [show s + 1 + i = s + (i + 1) by omega] at this
    exact this
def rfs (t : Tb) (K : List Nat) : List NestedKey := (rfGo K 0 t).map (·.2)
def refN (t : Tb) (K : List Nat) : List Nat := ordN (rfs t K)
theorem rfs_len {t : Tb} {K : List Nat} : (rfs t K).length = t.length := by unfold rfs; rw [List.length_map, rfGo_len]
theorem rfs_at {t : Tb} {K : List Nat} {i : Nat} (h : i < (rfs t K).length) : (rfs t K)[i] = rfK K i (t.getD i []) := by
  have := rfGo_at (K := K) (t := t) (s := 0) (i := i) (by rw [rfs_len] at h; exact h)
  rw [Nat.zero_add] at this
  have e := List.getElem?_eq_getElem h
  unfold rfs at e
  rw [this] at e
  exact (Option.some.inj e).symm
/-- numbers by key -/
def numD : Nat → List (U × NestedKey) → List (U × U)
  | _, [] => []
  | o, p :: r => (p.1, .int (o : Nat)) :: numD (o + 1) r
theorem numD_len : ∀ {S : List (U × NestedKey)} {o : Nat}, (numD o S).length = S.length
  | [], _ => rfl
  | p :: r, o => by rw [numD, List.length_cons, numD_len, List.length_cons]
theorem numD_look {u : U} {k : NestedKey} (hu : kOf u = some k) : ∀ {S : List (U × NestedKey)} {o : Nat}, (∀ p ∈ S, kOf p.1 = some p.2) → dlook (numD o S) u = if k ∈ S.map (·.2) then some (.int ((o + (S.map (·.2)).idxOf k : Nat) : Int)) else none
  | [], _, _ => rfl
  | p :: r, o, h => by
    have hp := h p List.mem_cons_self
    have ih := numD_look hu (S := r) (o := o + 1) fun q m => h q (List.mem_cons_of_mem _ m)
    have e : keq p.1 u = decide (p.2 = k) := by unfold keq; rw [hp, hu]
    simp only [numD, dlook, e, List.map_cons, List.mem_cons, List.idxOf_cons]
    by_cases c : p.2 = k
    · simp [c]
    · have c' : ¬ k = p.2 := fun z => c z.symm
      have c2 : (p.2 == k) = false := by simpa using c
      simp only [c, c', c2, decide_false, Bool.false_eq_true, if_false, false_or]
      rw [ih]
      split
      · simp; omega
      · rfl
theorem numD_put {u : U} {k : NestedKey} (hu : kOf u = some k) : ∀ {S : List (U × NestedKey)} {o : Nat}, (∀ p ∈ S, kOf p.1 = some p.2) → k ∉ S.map (·.2) → dput (numD o S) u (.int ((o + S.length : Nat) : Int)) = numD o (S ++ [(u, k)])
  | [], _, _, _ => rfl
  | p :: r, o, h, nm => by
    have hp := h p List.mem_cons_self
    simp only [List.map_cons, List.mem_cons, not_or] at nm
    have ih := numD_put hu (S := r) (o := o + 1) (fun q m => h q (List.mem_cons_of_mem _ m)) nm.2
    have e : keq p.1 u = decide (p.2 = k) := by unfold keq; rw [hp, hu]
    have c : ¬ p.2 = k := fun z => nm.1 z.symm
    simp only [numD, dput, e, c, decide_false, Bool.false_eq_true, if_false, List.cons_append]
    rw [← ih, List.length_cons, show o + (r.length + 1) = o + 1 + r.length by omega]
theorem stl_own {h0 : Hu} {os : List O} {k : Nat} {xs : List U} {Q : QE} (e : os[k]? = some (.lst xs)) (p : ∀ x ∈ xs, pd 63 x) (q : Q (.lst xs) h0) : stl h0 (.mr (h0.length + k)) (h0 ++ os) Q := by
  refine .inr (.inr ⟨.lst xs, ?_, fun i o e => .inl ?_, ?_⟩)
  · show (if h0.length + k < h0.length then _ else _) = _
    rw [if_neg (by omega), fx_get, e]
    show (optAll (xs.map (frz (h0 ++ os) h0.length 63))).map _ = _
    rw [optAll_map (f := frz (h0 ++ os) h0.length 63) (g := id) fun x m => frz_pd (p x m)]
    simp
  · rw [fx_take] at e; exact e
  · rw [fx_take]; exact q
/-- a row as a value that stays -/
structure SeqV (h : Hu) (v : U) (xs : List U) : Prop where
  seq : ∀ os, seqOf (h ++ os) v = some xs
  src : ∀ os, srcOk v xs (h ++ os) = True
theorem seqV_lst {h : Hu} {xs : List U} : SeqV h (.lst xs) xs := ⟨fun _ => rfl, fun _ => rfl⟩
theorem seqV_tup {h : Hu} {xs : List U} : SeqV h (.tup xs) xs := ⟨fun _ => rfl, fun _ => rfl⟩
theorem seqV_mr {h : Hu} {n : Nat} {xs : List U} (z : h[n]? = some (.lst xs)) : SeqV h (.mr n) xs :=
  ⟨fun os => by rw [Pl.Eq.seq_mr, fx_out (get_lt z), z]; rfl, fun os => by rw [Pl.Eq.src_mr, fx_out (get_lt z), z]; simp⟩
section
variable {tbl : Str → Option Fn} {n : Nat} {h : Hu} {Q : QE} {E : Ex → Hu → Prop}
theorem c_in_order (f_in : tbl "in_order" = some ⟨1, 4, m_in_order⟩) {v : U} {kk : List (U × NestedKey)} (V : SeqV h v (kk.map (·.1))) (ok : ∀ p ∈ kk, kOf p.1 = some p.2) (hl : kk.length ≤ 100000) (q : Q (.lst (ordU (ordN (kk.map (·.2))))) h) : callN tbl (n + 1) "in_order" [v] h Q E := by
  refine call_in f_in rfl (g := [some v, none, none, none]) rfl ?_
  unfold m_in_order
  have hs : 1000000 < sizeLine := by decide
  simp_all! []
  refine ⟨_, rfl, by decide, by decide, ?_⟩
  simp_all! []
  simp_all! [V.seq]
  refine .inr ?_
  obtain ⟨F, hF⟩ : ∃ F, seen [] (kk.map (·.2)) = F := ⟨_, rfl⟩
  have hO : ordN (kk.map (·.2)) = kk.map fun p => F.idxOf p.2 := by
    unfold ordN
    rw [hF, List.map_map]; rfl
  rw [hO] at q
  refine frMap (f := fun p : U × NestedKey => p.1) (xs := kk) (fun r g h' => ∃ (S : List (U × NestedKey)) (fd : List Nat) (a : Option U), h' = h ++ [.dic (numD 0 S), .lst (ordU fd)] ∧ g = [some v, some (.mr h.length), some (.mr (h.length + 1)), a] ∧
    seen (S.map (·.2)) (r.map (·.2)) = F ∧ (∀ p ∈ S, kOf p.1 = some p.2) ∧ (∀ p ∈ r, kOf p.1 = some p.2) ∧ S.length ≤ fd.length ∧ fd ++ (r.map fun p => F.idxOf p.2) = kk.map fun p => F.idxOf p.2) ?_ ?_ ⟨[], [], none, rfl, rfl, hF, by simp, ok, by simp, rfl⟩
  · rintro p r _ _ ⟨S, fd, a, rfl, rfl, hS, So, ro, ll, ef⟩ k hk
    have kp := ro p List.mem_cons_self
    have isS : (kOf p.1).isSome = true := by rw [kp]; rfl
    have lf : fd.length < kk.length := by
      have := congrArg List.length ef
      simp at this; omega
    have lk := numD_look kp So (o := 0)
    have So' : ∀ q ∈ S ++ [p], kOf q.1 = some q.2 := fun q m => by
      rcases List.mem_append.mp m with m | m
      · exact So q m
      · rw [List.mem_singleton.mp m]; exact kp
    have lk' := numD_look kp So' (o := 0)
    rw [List.map_cons, seen] at hS
    rw [List.map_cons] at ef
    dsimp! [V.src]
    by_cases c : p.2 ∈ S.map (·.2)
    · have eM : met (S.map (·.2)) p.2 = S.map (·.2) := if_pos c
      rw [eM] at hS
      rw [if_pos c, Nat.zero_add] at lk
      have eI : F.idxOf p.2 = (S.map (·.2)).idxOf p.2 := by rw [← hS, idx_seen c]
      rw [← eI] at lk
      simp_all! [lk, isS, Option.isSome_some]
      simp_all! [lk, isS]
      refine ⟨by simp [ordU]; omega, hk _ _ ⟨S, fd ++ [F.idxOf p.2], _, by simp [ordU], rfl, hS, So, fun q m => ro q (List.mem_cons_of_mem _ m), by simp; omega, by rw [← ef]; simp⟩⟩
    · have eM : met (S.map (·.2)) p.2 = (S ++ [p]).map (·.2) := by unfold met; rw [if_neg c]; simp
      rw [eM] at hS
      rw [if_neg c] at lk
      have cm : p.2 ∈ (S ++ [p]).map (·.2) := by simp
      rw [if_pos cm, Nat.zero_add] at lk'
      have eI : F.idxOf p.2 = ((S ++ [p]).map (·.2)).idxOf p.2 := by rw [← hS, idx_seen cm]
      rw [← eI] at lk'
      have pu := numD_put kp So c (o := 0)
      rw [Nat.zero_add] at pu
      simp_all! [lk, isS, Option.isSome_none]
      simp_all! [isS, numD_len, pu]
      refine ⟨by omega, ?_⟩
      simp_all! [lk', isS]
      refine ⟨by simp [ordU]; omega, hk _ _ ⟨S ++ [p], fd ++ [F.idxOf p.2], _, by simp [ordU], rfl, hS, So', fun q m => ro q (List.mem_cons_of_mem _ m), by simp; omega, by rw [← ef]; simp⟩⟩
  · rintro _ _ ⟨S, fd, a, rfl, rfl, hS, So, ro, ll, ef⟩
    dsimp! [V.src]
    simp_all! []
    rw [List.map_nil, List.append_nil] at ef
    rw [← ef] at q
    exact stl_own (k := 1) rfl (fun x m => pd_mono (by decide) (ordU_pd _ x m)) q
end
end Pl.Ma
set_option Elab.async false
set_option linter.all false
set_option maxRecDepth 100000
set_option autoImplicit false
/-! the classes: what the code finds. -/
namespace Pl.Ma
open PySem Pl L2 Pl.Eq Pl.Tp
local macro_rules | `(tactic| simp_all! [$as,*]) => `(tactic| ((try dsimp only); rw [Pl.Eq.ss_cons]; simp only [Pl.Eq.e_cst, Pl.Eq.b_cst, Pl.Eq.e_var, Pl.Eq.b_var, Pl.Eq.e_bin, Pl.Eq.b_bin, Pl.Eq.e_neg, Pl.Eq.e_not, Pl.Eq.b_not, Pl.Eq.e_bop, Pl.Eq.b_bop, Pl.Eq.e_cmp, Pl.Eq.b_cmp, Pl.Eq.e_cmp2, Pl.Eq.b_cmp2, Pl.Eq.e_ife, Pl.Eq.b_ife, Pl.Eq.e_call, Pl.Eq.b_call, Pl.Eq.e_bi, Pl.Eq.b_bi, Pl.Eq.e_isi, Pl.Eq.b_isi, Pl.Eq.e_mth, Pl.Eq.e_ix, Pl.Eq.b_ix, Pl.Eq.e_sl, Pl.Eq.e_tup, Pl.Eq.e_lst, Pl.Eq.e_lc, Pl.Eq.e_lc2, Pl.Eq.e_lrg, Pl.Eq.e_dic, Pl.Eq.es_nil, Pl.Eq.es_cons, Pl.Eq.o_none, Pl.Eq.o_some, Pl.Eq.bb_nil, Pl.Eq.bb_cons, Pl.Eq.bo_one, Pl.Eq.bo_cons, Pl.Eq.f_nil, Pl.Eq.f_cons, Pl.Eq.i_val, Pl.Eq.i_rng1, Pl.Eq.i_rng2, Pl.Eq.i_rng3, Pl.Eq.i_enum, Pl.Eq.t_nm, Pl.Eq.t_tp, Pl.Eq.ts_nil, Pl.Eq.ts_cons, Pl.Eq.t_sub, Pl.Eq.s_expr, Pl.Eq.s_asg, Pl.Eq.s_par, Pl.Eq.s_aug, Pl.Eq.s_ret, Pl.Eq.s_retN, Pl.Eq.s_ifs, Pl.Eq.s_fr, Pl.Eq.s_brk, Pl.Eq.s_cnt, Pl.Eq.s_pass, Pl.Eq.ss_nil, Pl.Eq.p_addI, Pl.Eq.p_addT, Pl.Eq.p_subI, Pl.Eq.p_mulI, Pl.Eq.p_fdivI, Pl.Eq.p_modI, Pl.Eq.p_powI, Pl.Eq.p_lt, Pl.Eq.p_le, Pl.Eq.p_gt, Pl.Eq.p_ge, Pl.Eq.p_eq, Pl.Eq.p_ne, Pl.Eq.p_isN, Pl.Eq.p_notN, Pl.Eq.p_isB, Pl.Eq.p_notB, Pl.Eq.t_bl, Pl.Eq.t_int, Pl.Eq.t_tup, Pl.Eq.t_lst, Pl.Eq.mk_t, Pl.Eq.mk_f, Pl.Eq.i_non_tup, Pl.Eq.i_non_lst, Pl.Eq.i_non_int, Pl.Eq.i_non_bl, Pl.Eq.i_non_str, Pl.Eq.i_non_dic, Pl.Eq.i_bl_tup, Pl.Eq.i_bl_lst, Pl.Eq.i_bl_int, Pl.Eq.i_bl_bl, Pl.Eq.i_bl_str, Pl.Eq.i_bl_dic, Pl.Eq.i_int_tup, Pl.Eq.i_int_lst, Pl.Eq.i_int_int, Pl.Eq.i_int_bl, Pl.Eq.i_int_str, Pl.Eq.i_int_dic, Pl.Eq.i_str_tup, Pl.Eq.i_str_lst, Pl.Eq.i_str_int, Pl.Eq.i_str_bl, Pl.Eq.i_str_str, Pl.Eq.i_str_dic, Pl.Eq.i_tup_tup, Pl.Eq.i_tup_lst, Pl.Eq.i_tup_int, Pl.Eq.i_tup_bl, Pl.Eq.i_tup_str, Pl.Eq.i_tup_dic, Pl.Eq.i_lst_tup, Pl.Eq.i_lst_lst, Pl.Eq.i_lst_int, Pl.Eq.i_lst_bl, Pl.Eq.i_lst_str, Pl.Eq.i_lst_dic, Pl.Eq.n_non, Pl.Eq.n_bl, Pl.Eq.n_int, Pl.Eq.n_str, Pl.Eq.n_tup, Pl.Eq.n_lst, Pl.Eq.p_slT, Pl.Eq.p_lenT, Pl.Eq.p_lenL, Pl.Eq.p_lenR, Pl.Eq.p_intI, Pl.Eq.p_tuple, Pl.Eq.p_list, Pl.Eq.p_sorted, Pl.Eq.p_max1, Pl.Eq.p_min1, Pl.Eq.p_min, Pl.Eq.p_intB, Pl.Eq.p_mulT, Pl.Eq.p_addLL, Pl.Eq.p_slL, Pl.Eq.it_tup, Pl.Eq.it_lst, Pl.Eq.it_ro, Pl.Eq.si_lst, Pl.Eq.p_all, Pl.Eq.p_any, Pl.Eq.p_max, Pl.Eq.q_tup, Pl.Eq.q_lst, Pl.Eq.q_ro, Pl.Eq.l_lst, Pl.Eq.src_tup, Pl.Eq.src_lst, Pl.Eq.src_ro, Pl.Eq.src_mr, Pl.Eq.atP_some, Pl.Eq.x_tup_, Pl.Eq.x_lst_, Pl.Eq.x_ro_, Pl.Eq.seq_mr, Pl.Eq.lst_mr, Pl.Eq.dic_mr, Pl.Eq.tru_mr, Pl.Eq.it_mr, Pl.Eq.si_mr, Pl.Eq.x_mr, Pl.Eq.set_mr, Pl.Eq.len_mr, Pl.Eq.in_mr, Pl.Eq.nin_mr, Pl.Eq.ty_mr, Pl.Eq.mt_app, Pl.Eq.mt_p0, Pl.Eq.mt_p1, Pl.Eq.mt_ex, Pl.Eq.mt_in, Pl.Eq.mt_g1, Pl.Eq.mt_g2, Pl.Eq.oL_seq, Pl.Eq.oL_tru, Pl.Eq.oL_it, Pl.Eq.oL_ix, Pl.Eq.oL_set, Pl.Eq.oL_len, Pl.Eq.oL_in, Pl.Eq.oL_tyA, Pl.Eq.oL_tyI, Pl.Eq.oL_tyP, Pl.Eq.oL_tyQ, Pl.Eq.oL_tyE, Pl.Eq.oL_tyN, Pl.Eq.oL_app, Pl.Eq.oL_p0, Pl.Eq.oL_p1, Pl.Eq.oL_ex, Pl.Eq.oL_ins, Pl.Eq.oD_dic, Pl.Eq.oL_dic, Pl.Eq.oD_it, Pl.Eq.oD_ix, Pl.Eq.oD_set, Pl.Eq.oD_len, Pl.Eq.oD_in, Pl.Eq.oD_tyG, Pl.Eq.oD_tyH, Pl.Eq.oD_g1, Pl.Eq.oD_g2, Pl.Eq.fx_get, Pl.Eq.fx_get0, Pl.Eq.fx_set, Pl.Eq.fx_set0, Pl.Eq.fx_getS, Pl.Eq.fx_getS0, Pl.Eq.fx_setS, Pl.Eq.fx_setS0, Pl.Eq.at_nat, Pl.Eq.at_0, Pl.Eq.at_1, Pl.Eq.at_2, Pl.Eq.at_3, Pl.Eq.at_4, Pl.Eq.at_last, Pl.Eq.sz, Pl.Eq.ixN_0, Pl.Eq.ixN_1, Pl.Eq.ixN_2, Pl.Eq.ixN_3, Pl.Eq.ixN_4, List.getElem?_cons_zero, List.getElem?_cons_succ, List.set_cons_zero, List.set_cons_succ, Option.some.injEq, exists_eq_left, exists_eq_left', U.int.injEq, U.bl.injEq, U.tup.injEq, U.lst.injEq, Int.zero_add, Nat.reduceLeDiff, List.cons_append, List.nil_append, false_and, exists_false, exists_const, false_or, or_false, Pl.T.own, Pl.Ts.own, Pl.Ts.len, wipeU, Pl.Eq.eqI, Pl.Eq.eqB, beq_self_eq_true, Bool.not_true, Bool.not_false, Bool.false_eq_true, Bool.true_eq_false, reduceCtorEq, decide_true, decide_false, List.length_cons, List.length_nil, Nat.zero_add, Nat.reduceAdd, Nat.reduceLT, if_true, if_false, reduceIte, true_and, and_true, List.set_set, List.append_assoc, List.length_append, List.length_set, Nat.add_zero, List.append_nil, $as,*]))
local macro_rules | `(tactic| dsimp! [$as,*]) => `(tactic| (try simp only [Pl.Eq.e_cst, Pl.Eq.b_cst, Pl.Eq.e_var, Pl.Eq.b_var, Pl.Eq.e_bin, Pl.Eq.b_bin, Pl.Eq.e_neg, Pl.Eq.e_not, Pl.Eq.b_not, Pl.Eq.e_bop, Pl.Eq.b_bop, Pl.Eq.e_cmp, Pl.Eq.b_cmp, Pl.Eq.e_cmp2, Pl.Eq.b_cmp2, Pl.Eq.e_ife, Pl.Eq.b_ife, Pl.Eq.e_call, Pl.Eq.b_call, Pl.Eq.e_bi, Pl.Eq.b_bi, Pl.Eq.e_isi, Pl.Eq.b_isi, Pl.Eq.e_mth, Pl.Eq.e_ix, Pl.Eq.b_ix, Pl.Eq.e_sl, Pl.Eq.e_tup, Pl.Eq.e_lst, Pl.Eq.e_lc, Pl.Eq.e_lc2, Pl.Eq.e_lrg, Pl.Eq.e_dic, Pl.Eq.es_nil, Pl.Eq.es_cons, Pl.Eq.o_none, Pl.Eq.o_some, Pl.Eq.bb_nil, Pl.Eq.bb_cons, Pl.Eq.bo_one, Pl.Eq.bo_cons, Pl.Eq.f_nil, Pl.Eq.f_cons, Pl.Eq.i_val, Pl.Eq.i_rng1, Pl.Eq.i_rng2, Pl.Eq.i_rng3, Pl.Eq.i_enum, Pl.Eq.t_nm, Pl.Eq.t_tp, Pl.Eq.ts_nil, Pl.Eq.ts_cons, Pl.Eq.t_sub, Pl.Eq.s_expr, Pl.Eq.s_asg, Pl.Eq.s_par, Pl.Eq.s_aug, Pl.Eq.s_ret, Pl.Eq.s_retN, Pl.Eq.s_ifs, Pl.Eq.s_fr, Pl.Eq.s_brk, Pl.Eq.s_cnt, Pl.Eq.s_pass, Pl.Eq.ss_nil, Pl.Eq.p_addI, Pl.Eq.p_addT, Pl.Eq.p_subI, Pl.Eq.p_mulI, Pl.Eq.p_fdivI, Pl.Eq.p_modI, Pl.Eq.p_powI, Pl.Eq.p_lt, Pl.Eq.p_le, Pl.Eq.p_gt, Pl.Eq.p_ge, Pl.Eq.p_eq, Pl.Eq.p_ne, Pl.Eq.p_isN, Pl.Eq.p_notN, Pl.Eq.p_isB, Pl.Eq.p_notB, Pl.Eq.t_bl, Pl.Eq.t_int, Pl.Eq.t_tup, Pl.Eq.t_lst, Pl.Eq.mk_t, Pl.Eq.mk_f, Pl.Eq.i_non_tup, Pl.Eq.i_non_lst, Pl.Eq.i_non_int, Pl.Eq.i_non_bl, Pl.Eq.i_non_str, Pl.Eq.i_non_dic, Pl.Eq.i_bl_tup, Pl.Eq.i_bl_lst, Pl.Eq.i_bl_int, Pl.Eq.i_bl_bl, Pl.Eq.i_bl_str, Pl.Eq.i_bl_dic, Pl.Eq.i_int_tup, Pl.Eq.i_int_lst, Pl.Eq.i_int_int, Pl.Eq.i_int_bl, Pl.Eq.i_int_str, Pl.Eq.i_int_dic, Pl.Eq.i_str_tup, Pl.Eq.i_str_lst, Pl.Eq.i_str_int, Pl.Eq.i_str_bl, Pl.Eq.i_str_str, Pl.Eq.i_str_dic, Pl.Eq.i_tup_tup, Pl.Eq.i_tup_lst, Pl.Eq.i_tup_int, Pl.Eq.i_tup_bl, Pl.Eq.i_tup_str, Pl.Eq.i_tup_dic, Pl.Eq.i_lst_tup, Pl.Eq.i_lst_lst, Pl.Eq.i_lst_int, Pl.Eq.i_lst_bl, Pl.Eq.i_lst_str, Pl.Eq.i_lst_dic, Pl.Eq.n_non, Pl.Eq.n_bl, Pl.Eq.n_int, Pl.Eq.n_str, Pl.Eq.n_tup, Pl.Eq.n_lst, Pl.Eq.p_slT, Pl.Eq.p_lenT, Pl.Eq.p_lenL, Pl.Eq.p_lenR, Pl.Eq.p_intI, Pl.Eq.p_tuple, Pl.Eq.p_list, Pl.Eq.p_sorted, Pl.Eq.p_max1, Pl.Eq.p_min1, Pl.Eq.p_min, Pl.Eq.p_intB, Pl.Eq.p_mulT, Pl.Eq.p_addLL, Pl.Eq.p_slL, Pl.Eq.it_tup, Pl.Eq.it_lst, Pl.Eq.it_ro, Pl.Eq.si_lst, Pl.Eq.p_all, Pl.Eq.p_any, Pl.Eq.p_max, Pl.Eq.q_tup, Pl.Eq.q_lst, Pl.Eq.q_ro, Pl.Eq.l_lst, Pl.Eq.src_tup, Pl.Eq.src_lst, Pl.Eq.src_ro, Pl.Eq.src_mr, Pl.Eq.atP_some, Pl.Eq.x_tup_, Pl.Eq.x_lst_, Pl.Eq.x_ro_, Pl.Eq.seq_mr, Pl.Eq.lst_mr, Pl.Eq.dic_mr, Pl.Eq.tru_mr, Pl.Eq.it_mr, Pl.Eq.si_mr, Pl.Eq.x_mr, Pl.Eq.set_mr, Pl.Eq.len_mr, Pl.Eq.in_mr, Pl.Eq.nin_mr, Pl.Eq.ty_mr, Pl.Eq.mt_app, Pl.Eq.mt_p0, Pl.Eq.mt_p1, Pl.Eq.mt_ex, Pl.Eq.mt_in, Pl.Eq.mt_g1, Pl.Eq.mt_g2, Pl.Eq.oL_seq, Pl.Eq.oL_tru, Pl.Eq.oL_it, Pl.Eq.oL_ix, Pl.Eq.oL_set, Pl.Eq.oL_len, Pl.Eq.oL_in, Pl.Eq.oL_tyA, Pl.Eq.oL_tyI, Pl.Eq.oL_tyP, Pl.Eq.oL_tyQ, Pl.Eq.oL_tyE, Pl.Eq.oL_tyN, Pl.Eq.oL_app, Pl.Eq.oL_p0, Pl.Eq.oL_p1, Pl.Eq.oL_ex, Pl.Eq.oL_ins, Pl.Eq.oD_dic, Pl.Eq.oL_dic, Pl.Eq.oD_it, Pl.Eq.oD_ix, Pl.Eq.oD_set, Pl.Eq.oD_len, Pl.Eq.oD_in, Pl.Eq.oD_tyG, Pl.Eq.oD_tyH, Pl.Eq.oD_g1, Pl.Eq.oD_g2, Pl.Eq.fx_get, Pl.Eq.fx_get0, Pl.Eq.fx_set, Pl.Eq.fx_set0, Pl.Eq.fx_getS, Pl.Eq.fx_getS0, Pl.Eq.fx_setS, Pl.Eq.fx_setS0, Pl.Eq.at_nat, Pl.Eq.at_0, Pl.Eq.at_1, Pl.Eq.at_2, Pl.Eq.at_3, Pl.Eq.at_4, Pl.Eq.at_last, Pl.Eq.sz, Pl.Eq.ixN_0, Pl.Eq.ixN_1, Pl.Eq.ixN_2, Pl.Eq.ixN_3, Pl.Eq.ixN_4, List.getElem?_cons_zero, List.getElem?_cons_succ, List.set_cons_zero, List.set_cons_succ, Option.some.injEq, exists_eq_left, exists_eq_left', U.int.injEq, U.bl.injEq, U.tup.injEq, U.lst.injEq, Int.zero_add, Nat.reduceLeDiff, List.cons_append, List.nil_append, false_and, exists_false, exists_const, false_or, or_false, Pl.T.own, Pl.Ts.own, Pl.Ts.len, wipeU, Pl.Eq.eqI, Pl.Eq.eqB, beq_self_eq_true, Bool.not_true, Bool.not_false, Bool.false_eq_true, Bool.true_eq_false, reduceCtorEq, decide_true, decide_false, List.length_cons, List.length_nil, Nat.zero_add, Nat.reduceAdd, Nat.reduceLT, if_true, if_false, reduceIte, true_and, and_true, List.set_set, List.append_assoc, List.length_append, List.length_set, Nat.add_zero, List.append_nil, $as,*]))
theorem tagU_pd {x : U} (h : leaf x) : pd 3 (tagU x) := fun y m => by
  simp only [List.mem_cons, List.not_mem_nil, or_false] at m
  rcases m with rfl | rfl
  · trivial
  · exact pd_mono (by decide) (leaf_pd h)
theorem outU_pd {u : U} (h : OutOk u) : pd 4 (outU u) := by
  obtain ⟨xs, rfl, _, hx⟩ := h
  intro y m
  obtain ⟨x, xm, rfl⟩ := List.mem_map.mp m
  exact tagU_pd (hx x xm)
theorem fkU_pd {p : Pc} (h : POut p) : pd 4 (fkU p) := by
  cases p with
  | none => trivial
  | some p => exact outU_pd (h p.1 p.2 rfl)
theorem lnU_pd {l : List Pc} (h : ∀ p ∈ l, POut p) : pd 5 (lnU l) := fun y m => by
  obtain ⟨p, pm, rfl⟩ := List.mem_map.mp m
  exact fkU_pd (h p pm)
theorem MOk.po {c w : Nat} {t : Tb} (m : MOk c w t) (hc : c ≤ 1000) : ∀ l ∈ t, ∀ p ∈ l, POut p := fun l lm p pm u k e => by
  subst e
  obtain ⟨xs, rfl, a, b⟩ := m.out l lm u k pm
  exact ⟨xs, rfl, by omega, b⟩
section
variable {tbl : Str → Option Fn} {n : Nat} {h : Hu} {Q : QE} {E : Ex → Hu → Prop}
theorem c_tag_leaf (f_tag : tbl "tagged" = some ⟨1, 2, m_tagged⟩) {x : U} (hx : leaf x) (q : Q (tagU x) h) : callN tbl (n + 1) "tagged" [x] h Q E := by
  refine call_in f_tag rfl (g := [some x, none]) rfl ?_
  unfold m_tagged
  cases x with
  | bl b =>
    simp_all! []
    simp_all! []
    exact .inl q
  | int i =>
    simp_all! []
    simp_all! []
    exact .inl q
  | str z =>
    simp_all! []
    simp_all! []
    exact .inl q
  | _ => exact hx.elim
theorem c_tag (f_tag : tbl "tagged" = some ⟨1, 2, m_tagged⟩) {u : U} (hu : OutOk u) (q : Q (outU u) h) : callN tbl (n + 2) "tagged" [u] h Q E := by
  refine call_in f_tag rfl (g := [some u, none]) rfl ?_
  obtain ⟨xs, rfl, lx, hx⟩ := id hu
  unfold m_tagged
  have hs : 1000000 < sizeLine := by decide
  simp_all! []
  simp_all! []
  refine ⟨by omega, ?_⟩
  refine lcRun_inv (xs := xs) (fun done rest acc h' => h' = h ∧ acc = done.map tagU) (done := []) rfl ⟨rfl, rfl⟩ ?_ ?_
  · rintro done x rest acc _ e ⟨rfl, rfl⟩ k hk _
    dsimp! []
    refine c_tag_leaf f_tag (hx x (by rw [← e]; simp)) (hk _ _ ⟨rfl, by simp⟩)
  · rintro acc _ ⟨rfl, rfl⟩
    dsimp! []
    exact .inl q
theorem c_first (f_tag : tbl "tagged" = some ⟨1, 2, m_tagged⟩) (f_first : tbl "first_keys" = some ⟨1, 3, m_first_keys⟩) {c w : Nat} {rs : U} {t : Tb} (m : MOk c w t) (hc : c ≤ 1000) (hw : w ≤ 1000) (q : Q (.lst (t.map lnU)) h) : callN tbl (n + 3) "first_keys" [.tup [rs, encT t]] h Q E := by
  refine call_in f_first rfl (g := [some (.tup [rs, encT t]), none, none]) rfl ?_
  unfold m_first_keys
  have hs : 1000000 < sizeLine := by decide
  have tb := m.wf.s
  have po := m.po hc
  simp_all! [encT, List.length_map]
  refine ⟨by omega, ?_⟩
  refine lcMap (fun r acc h' => h' = h ∧ (∀ l ∈ r, l ∈ t) ∧ acc ++ r.map lnU = t.map lnU) ?_ ?_ ⟨rfl, fun l m => m, by simp⟩
  · rintro l r acc h' ⟨rfl, rm, ea⟩ k hk _
    have lt := rm l List.mem_cons_self
    have ll := m.wf.len l lt
    dsimp! [encL, List.length_map]
    refine ⟨by omega, ?_⟩
    refine lcMap (fun r2 acc2 h'' => h'' = h' ∧ (∀ p ∈ r2, p ∈ l) ∧ acc2 ++ r2.map fkU = l.map fkU) ?_ ?_ ⟨rfl, fun l m => m, by simp⟩
    · rintro p r2 acc2 _ ⟨rfl, rm2, ea2⟩ k2 hk2 _
      have pl := rm2 p List.mem_cons_self
      have pp := po l lt p pl
      cases p with
      | none =>
        dsimp! [encP]
        exact hk2 _ _ ⟨rfl, fun p m => rm2 p (List.mem_cons_of_mem _ m), by rw [← ea2]; simp [fkU]⟩
      | some p =>
        obtain ⟨u, j⟩ := p
        dsimp! [encP]
        refine c_tag f_tag (pp u j rfl) (hk2 _ _ ⟨rfl, fun p m => rm2 p (List.mem_cons_of_mem _ m), by rw [← ea2]; simp [fkU]⟩)
    · rintro acc2 _ ⟨rfl, rm2, ea2⟩
      rw [List.map_nil, List.append_nil] at ea2
      subst ea2
      dsimp! []
      exact hk _ _ ⟨rfl, fun l m => rm l (List.mem_cons_of_mem _ m), by rw [← ea]; simp [lnU]⟩
  · rintro acc _ ⟨rfl, rm, ea⟩
    rw [List.map_nil, List.append_nil] at ea
    subst ea
    dsimp! []
    exact .inl q
theorem kn_at {K : List Nat} {s : Nat} (h : s < K.length) : (ordU K)[s]? = some (.int (K.getD s 0 : Nat)) := by
  unfold ordU
  rw [List.getElem?_map, List.getElem?_eq_getElem h]
  simp [List.getD, List.getElem?_eq_getElem h]
theorem c_refined (f_in : tbl "in_order" = some ⟨1, 4, m_in_order⟩) (f_ref : tbl "refined" = some ⟨2, 6, m_refined⟩) {c w : Nat} {rs : U} {t : Tb} {K : List Nat} (m : MOk c w t) (hw : w ≤ 1000) (hK : K.length = t.length) (q : Q (.lst (ordU (refN t K))) h) :
    callN tbl (n + 2) "refined" [.tup [rs, encT t], .lst (ordU K)] h Q E := by
  refine call_in f_ref rfl (g := [some (.tup [rs, encT t]), some (.lst (ordU K)), none, none, none, none]) rfl ?_
  unfold m_refined
  have hs : 1000000 < sizeLine := by decide
  have tb := m.wf.s
  simp_all! [encT]
  simp_all! [List.length_map]
  refine frEnum (fun i r g h' => ∃ (ac : List (U × NestedKey)) (a b c : Option U), h' = h ++ [.lst (ac.map (·.1))] ∧ g = [some (.tup [rs, .tup (t.map encL)]), some (.lst (ordU K)), some (.mr h.length), a, b, c] ∧
    ac ++ rfGo K i r = rfGo K 0 t ∧ i + r.length = t.length ∧ ∀ l ∈ r, l ∈ t) ?_ ?_ ⟨[], none, none, none, rfl, rfl, rfl, by simp, fun l m => m⟩
  · rintro i l r _ _ ⟨ac, a, b, c', rfl, rfl, ea, il, rm⟩ k hk
    have lt := rm l List.mem_cons_self
    have ll := m.wf.len l lt
    rw [List.length_cons] at il
    have la : ac.length ≤ t.length := by
      have := congrArg List.length ea
      simp [rfGo_len] at this; omega
    dsimp! []
    simp_all! [kn_at (K := K) (s := i) (by omega), encL, List.length_map]
    refine ⟨by omega, ?_⟩
    refine lcMap (fun r2 acc2 h' => h' = h ++ [.lst (ac.map (·.1))] ∧ (∀ p ∈ r2, p ∈ l) ∧ acc2 ++ r2.map (sucU K) = l.map (sucU K)) ?_ ?_ ⟨rfl, fun l m => m, by simp⟩
    · rintro p r2 acc2 _ ⟨rfl, rm2, ea2⟩ k2 hk2 _
      have pl := rm2 p List.mem_cons_self
      cases p with
      | none =>
        dsimp! [encP]
        exact hk2 _ _ ⟨rfl, fun p m => rm2 p (List.mem_cons_of_mem _ m), by rw [← ea2]; simp [sucU]⟩
      | some p =>
        obtain ⟨u, j⟩ := p
        have jb := (m.wf.pl l lt u j pl).2
        dsimp! [encP, kn_at (K := K) (s := j) (by omega)]
        exact hk2 _ _ ⟨rfl, fun p m => rm2 p (List.mem_cons_of_mem _ m), by rw [← ea2]; simp [sucU]⟩
    · rintro acc2 _ ⟨rfl, rm2, ea2⟩
      rw [List.map_nil, List.append_nil] at ea2
      subst ea2
      dsimp! [List.length_map]
      refine ⟨by omega, by omega, hk _ _ ⟨ac ++ [(rfU K i l, rfK K i l)], _, _, _, by simp [rfU], rfl, by rw [← ea]; simp [rfGo], by omega, fun l m => rm l (List.mem_cons_of_mem _ m)⟩⟩
  · rintro i _ _ ⟨ac, a, b, c', rfl, rfl, ea, il, rm⟩
    have e0 : ac = rfGo K 0 t := by rw [← ea]; simp [rfGo]
    subst e0
    dsimp! []
    rw [Pl.Eq.ss_cons]
    dsimp! []
    refine c_in_order f_in (seqV_mr fx_get0) rfGo_ok (by rw [rfGo_len]; omega) ?_
    refine stl_pure (fun x m => pd_mono (by decide) (ordU_pd _ x m)) q
/-! the loop -/
def Bis (t : Tb) (B : Nat → Nat → Prop) : Prop := ∀ i j, B i j → (t.getD i []).map (·.map (·.1)) = (t.getD j []).map (·.map (·.1)) ∧
  ∀ (r : Nat) (u : U) (k : Nat) (v : U) (k' : Nat), (t.getD i [])[r]? = some (some (u, k)) → (t.getD j [])[r]? = some (some (v, k')) → B k k'
/-- classes on the way -/
structure KIn (t : Tb) (K : List Nat) (ks : List NestedKey) : Prop where
  e : K = ordN ks
  len : ks.length = t.length
  fk : ∀ i j, i < t.length → j < t.length → K.getD i 0 = K.getD j 0 → lnK (t.getD i []) = lnK (t.getD j [])
  co : ∀ B, Bis t B → ∀ i j, i < t.length → j < t.length → B i j → K.getD i 0 = K.getD j 0
/-- classes, steady -/
structure ClsOk (t : Tb) (K : List Nat) : Prop where
  len : K.length = t.length
  st : refN t K = K
  nm : ordN K = K
  fk : ∀ i j, i < t.length → j < t.length → K.getD i 0 = K.getD j 0 → lnK (t.getD i []) = lnK (t.getD j [])
  co : ∀ B, Bis t B → ∀ i j, i < t.length → j < t.length → B i j → K.getD i 0 = K.getD j 0
theorem KIn.klen {t : Tb} {K : List Nat} {ks : List NestedKey} (k : KIn t K ks) : K.length = t.length := by rw [k.e, ordN_len, k.len]
def fks (t : Tb) : List NestedKey := t.map lnK
theorem getD_lt {t : Tb} {i : Nat} (h : i < t.length) : t.getD i [] = t[i] := by simp [List.getD, List.getElem?_eq_getElem h]
theorem kin_first {t : Tb} : KIn t (ordN (fks t)) (fks t) := by
  have l : (fks t).length = t.length := by simp [fks]
  have at_ : ∀ i (h : i < (fks t).length), (fks t)[i] = lnK (t.getD i []) := fun i h => by
    rw [getD_lt (by omega)]; simp [fks]
  refine ⟨rfl, l, fun i j hi hj e => ?_, fun B hB i j hi hj b => ?_⟩
  · have := (ordN_eq (ks := fks t) (by omega) (by omega)).mp e
    rw [at_, at_] at this
    exact this
  · refine (ordN_eq (ks := fks t) (by omega) (by omega)).mpr ?_
    rw [at_, at_]
    unfold lnK
    congr 1
    have e := (hB i j b).1
    have : ∀ l : List Pc, l.map fkK = (l.map (·.map (·.1))).map fun o => match o with | none => NestedKey.none | some u => outK u := fun l => by
      rw [List.map_map]
      refine List.map_congr_left fun p _ => ?_
      cases p <;> rfl
    rw [this, this, e]
theorem rfK_eq {K : List Nat} {i j : Nat} {l l' : List Pc} : rfK K i l = rfK K j l' ↔ (K.getD i 0 = K.getD j 0 ∧ l.map (sucK K) = l'.map (sucK K)) := by
  unfold rfK
  constructor
  · intro h
    injection h with h
    injection h with h1 h2
    injection h1 with h1
    exact ⟨by omega, h2⟩
  · rintro ⟨a, b⟩
    rw [a, b]
theorem kin_next {t : Tb} {w : Nat} (wf : Wf w t) {K : List Nat} {ks : List NestedKey} (k : KIn t K ks) : KIn t (refN t K) (rfs t K) := by
  have l : (rfs t K).length = t.length := rfs_len
  refine ⟨rfl, l, fun i j hi hj e => ?_, fun B hB i j hi hj b => ?_⟩
  · have := (ordN_eq (ks := rfs t K) (by omega) (by omega)).mp e
    rw [rfs_at, rfs_at, rfK_eq] at this
    exact k.fk i j hi hj this.1
  · refine (ordN_eq (ks := rfs t K) (by omega) (by omega)).mpr ?_
    rw [rfs_at, rfs_at, rfK_eq]
    refine ⟨k.co B hB i j hi hj b, ?_⟩
    obtain ⟨e, s⟩ := hB i j b
    have le : (t.getD i []).length = (t.getD j []).length := by
      have := congrArg List.length e
      simpa using this
    refine List.ext_getElem? fun r => ?_
    rw [List.getElem?_map, List.getElem?_map]
    have er := congrArg (fun l => l[r]?) e
    simp only [List.getElem?_map] at er
    cases c1 : (t.getD i [])[r]? with
    | none =>
      rw [c1] at er
      cases c2 : (t.getD j [])[r]? with
      | none => rfl
      | some q => rw [c2] at er; simp at er
    | some p =>
      cases c2 : (t.getD j [])[r]? with
      | none => rw [c1, c2] at er; simp at er
      | some q =>
        rw [c1, c2] at er
        simp at er
        cases p with
        | none =>
          cases q with
          | none => rfl
          | some q => simp at er
        | some p =>
          cases q with
          | none => simp at er
          | some q =>
            have bb := s r p.1 p.2 q.1 q.2 c1 c2
            show some (NestedKey.num (K.getD p.2 0 : Nat)) = some (NestedKey.num (K.getD q.2 0 : Nat))
            have h1 := (wf.pl _ (by rw [getD_lt hi]; exact List.getElem_mem hi) p.1 p.2 (List.mem_of_getElem? c1)).2
            have h2 := (wf.pl _ (by rw [getD_lt hj]; exact List.getElem_mem hj) q.1 q.2 (List.mem_of_getElem? c2)).2
            rw [k.co B hB _ _ h1 h2 bb]
end
end Pl.Ma
set_option Elab.async false
set_option linter.all false
set_option maxRecDepth 100000
set_option autoImplicit false
/-! classes; the least machine. -/
namespace Pl.Ma
open PySem Pl L2 Pl.Eq Pl.Tp
local macro_rules | `(tactic| simp_all! [$as,*]) => `(tactic| ((try dsimp only); rw [Pl.Eq.ss_cons]; simp only [Pl.Eq.e_cst, Pl.Eq.b_cst, Pl.Eq.e_var, Pl.Eq.b_var, Pl.Eq.e_bin, Pl.Eq.b_bin, Pl.Eq.e_neg, Pl.Eq.e_not, Pl.Eq.b_not, Pl.Eq.e_bop, Pl.Eq.b_bop, Pl.Eq.e_cmp, Pl.Eq.b_cmp, Pl.Eq.e_cmp2, Pl.Eq.b_cmp2, Pl.Eq.e_ife, Pl.Eq.b_ife, Pl.Eq.e_call, Pl.Eq.b_call, Pl.Eq.e_bi, Pl.Eq.b_bi, Pl.Eq.e_isi, Pl.Eq.b_isi, Pl.Eq.e_mth, Pl.Eq.e_ix, Pl.Eq.b_ix, Pl.Eq.e_sl, Pl.Eq.e_tup, Pl.Eq.e_lst, Pl.Eq.e_lc, Pl.Eq.e_lc2, Pl.Eq.e_lrg, Pl.Eq.e_dic, Pl.Eq.es_nil, Pl.Eq.es_cons, Pl.Eq.o_none, Pl.Eq.o_some, Pl.Eq.bb_nil, Pl.Eq.bb_cons, Pl.Eq.bo_one, Pl.Eq.bo_cons, Pl.Eq.f_nil, Pl.Eq.f_cons, Pl.Eq.i_val, Pl.Eq.i_rng1, Pl.Eq.i_rng2, Pl.Eq.i_rng3, Pl.Eq.i_enum, Pl.Eq.t_nm, Pl.Eq.t_tp, Pl.Eq.ts_nil, Pl.Eq.ts_cons, Pl.Eq.t_sub, Pl.Eq.s_expr, Pl.Eq.s_asg, Pl.Eq.s_par, Pl.Eq.s_aug, Pl.Eq.s_ret, Pl.Eq.s_retN, Pl.Eq.s_ifs, Pl.Eq.s_fr, Pl.Eq.s_brk, Pl.Eq.s_cnt, Pl.Eq.s_pass, Pl.Eq.ss_nil, Pl.Eq.p_addI, Pl.Eq.p_addT, Pl.Eq.p_subI, Pl.Eq.p_mulI, Pl.Eq.p_fdivI, Pl.Eq.p_modI, Pl.Eq.p_powI, Pl.Eq.p_lt, Pl.Eq.p_le, Pl.Eq.p_gt, Pl.Eq.p_ge, Pl.Eq.p_eq, Pl.Eq.p_ne, Pl.Eq.p_isN, Pl.Eq.p_notN, Pl.Eq.p_isB, Pl.Eq.p_notB, Pl.Eq.t_bl, Pl.Eq.t_int, Pl.Eq.t_tup, Pl.Eq.t_lst, Pl.Eq.mk_t, Pl.Eq.mk_f, Pl.Eq.i_non_tup, Pl.Eq.i_non_lst, Pl.Eq.i_non_int, Pl.Eq.i_non_bl, Pl.Eq.i_non_str, Pl.Eq.i_non_dic, Pl.Eq.i_bl_tup, Pl.Eq.i_bl_lst, Pl.Eq.i_bl_int, Pl.Eq.i_bl_bl, Pl.Eq.i_bl_str, Pl.Eq.i_bl_dic, Pl.Eq.i_int_tup, Pl.Eq.i_int_lst, Pl.Eq.i_int_int, Pl.Eq.i_int_bl, Pl.Eq.i_int_str, Pl.Eq.i_int_dic, Pl.Eq.i_str_tup, Pl.Eq.i_str_lst, Pl.Eq.i_str_int, Pl.Eq.i_str_bl, Pl.Eq.i_str_str, Pl.Eq.i_str_dic, Pl.Eq.i_tup_tup, Pl.Eq.i_tup_lst, Pl.Eq.i_tup_int, Pl.Eq.i_tup_bl, Pl.Eq.i_tup_str, Pl.Eq.i_tup_dic, Pl.Eq.i_lst_tup, Pl.Eq.i_lst_lst, Pl.Eq.i_lst_int, Pl.Eq.i_lst_bl, Pl.Eq.i_lst_str, Pl.Eq.i_lst_dic, Pl.Eq.n_non, Pl.Eq.n_bl, Pl.Eq.n_int, Pl.Eq.n_str, Pl.Eq.n_tup, Pl.Eq.n_lst, Pl.Eq.p_slT, Pl.Eq.p_lenT, Pl.Eq.p_lenL, Pl.Eq.p_lenR, Pl.Eq.p_intI, Pl.Eq.p_tuple, Pl.Eq.p_list, Pl.Eq.p_sorted, Pl.Eq.p_max1, Pl.Eq.p_min1, Pl.Eq.p_min, Pl.Eq.p_intB, Pl.Eq.p_mulT, Pl.Eq.p_addLL, Pl.Eq.p_slL, Pl.Eq.it_tup, Pl.Eq.it_lst, Pl.Eq.it_ro, Pl.Eq.si_lst, Pl.Eq.p_all, Pl.Eq.p_any, Pl.Eq.p_max, Pl.Eq.q_tup, Pl.Eq.q_lst, Pl.Eq.q_ro, Pl.Eq.l_lst, Pl.Eq.src_tup, Pl.Eq.src_lst, Pl.Eq.src_ro, Pl.Eq.src_mr, Pl.Eq.atP_some, Pl.Eq.x_tup_, Pl.Eq.x_lst_, Pl.Eq.x_ro_, Pl.Eq.seq_mr, Pl.Eq.lst_mr, Pl.Eq.dic_mr, Pl.Eq.tru_mr, Pl.Eq.it_mr, Pl.Eq.si_mr, Pl.Eq.x_mr, Pl.Eq.set_mr, Pl.Eq.len_mr, Pl.Eq.in_mr, Pl.Eq.nin_mr, Pl.Eq.ty_mr, Pl.Eq.mt_app, Pl.Eq.mt_p0, Pl.Eq.mt_p1, Pl.Eq.mt_ex, Pl.Eq.mt_in, Pl.Eq.mt_g1, Pl.Eq.mt_g2, Pl.Eq.oL_seq, Pl.Eq.oL_tru, Pl.Eq.oL_it, Pl.Eq.oL_ix, Pl.Eq.oL_set, Pl.Eq.oL_len, Pl.Eq.oL_in, Pl.Eq.oL_tyA, Pl.Eq.oL_tyI, Pl.Eq.oL_tyP, Pl.Eq.oL_tyQ, Pl.Eq.oL_tyE, Pl.Eq.oL_tyN, Pl.Eq.oL_app, Pl.Eq.oL_p0, Pl.Eq.oL_p1, Pl.Eq.oL_ex, Pl.Eq.oL_ins, Pl.Eq.oD_dic, Pl.Eq.oL_dic, Pl.Eq.oD_it, Pl.Eq.oD_ix, Pl.Eq.oD_set, Pl.Eq.oD_len, Pl.Eq.oD_in, Pl.Eq.oD_tyG, Pl.Eq.oD_tyH, Pl.Eq.oD_g1, Pl.Eq.oD_g2, Pl.Eq.fx_get, Pl.Eq.fx_get0, Pl.Eq.fx_set, Pl.Eq.fx_set0, Pl.Eq.fx_getS, Pl.Eq.fx_getS0, Pl.Eq.fx_setS, Pl.Eq.fx_setS0, Pl.Eq.at_nat, Pl.Eq.at_0, Pl.Eq.at_1, Pl.Eq.at_2, Pl.Eq.at_3, Pl.Eq.at_4, Pl.Eq.at_last, Pl.Eq.sz, Pl.Eq.ixN_0, Pl.Eq.ixN_1, Pl.Eq.ixN_2, Pl.Eq.ixN_3, Pl.Eq.ixN_4, List.getElem?_cons_zero, List.getElem?_cons_succ, List.set_cons_zero, List.set_cons_succ, Option.some.injEq, exists_eq_left, exists_eq_left', U.int.injEq, U.bl.injEq, U.tup.injEq, U.lst.injEq, Int.zero_add, Nat.reduceLeDiff, List.cons_append, List.nil_append, false_and, exists_false, exists_const, false_or, or_false, Pl.T.own, Pl.Ts.own, Pl.Ts.len, wipeU, Pl.Eq.eqI, Pl.Eq.eqB, beq_self_eq_true, Bool.not_true, Bool.not_false, Bool.false_eq_true, Bool.true_eq_false, reduceCtorEq, decide_true, decide_false, List.length_cons, List.length_nil, Nat.zero_add, Nat.reduceAdd, Nat.reduceLT, if_true, if_false, reduceIte, true_and, and_true, List.set_set, List.append_assoc, List.length_append, List.length_set, Nat.add_zero, List.append_nil, $as,*]))
local macro_rules | `(tactic| dsimp! [$as,*]) => `(tactic| (try simp only [Pl.Eq.e_cst, Pl.Eq.b_cst, Pl.Eq.e_var, Pl.Eq.b_var, Pl.Eq.e_bin, Pl.Eq.b_bin, Pl.Eq.e_neg, Pl.Eq.e_not, Pl.Eq.b_not, Pl.Eq.e_bop, Pl.Eq.b_bop, Pl.Eq.e_cmp, Pl.Eq.b_cmp, Pl.Eq.e_cmp2, Pl.Eq.b_cmp2, Pl.Eq.e_ife, Pl.Eq.b_ife, Pl.Eq.e_call, Pl.Eq.b_call, Pl.Eq.e_bi, Pl.Eq.b_bi, Pl.Eq.e_isi, Pl.Eq.b_isi, Pl.Eq.e_mth, Pl.Eq.e_ix, Pl.Eq.b_ix, Pl.Eq.e_sl, Pl.Eq.e_tup, Pl.Eq.e_lst, Pl.Eq.e_lc, Pl.Eq.e_lc2, Pl.Eq.e_lrg, Pl.Eq.e_dic, Pl.Eq.es_nil, Pl.Eq.es_cons, Pl.Eq.o_none, Pl.Eq.o_some, Pl.Eq.bb_nil, Pl.Eq.bb_cons, Pl.Eq.bo_one, Pl.Eq.bo_cons, Pl.Eq.f_nil, Pl.Eq.f_cons, Pl.Eq.i_val, Pl.Eq.i_rng1, Pl.Eq.i_rng2, Pl.Eq.i_rng3, Pl.Eq.i_enum, Pl.Eq.t_nm, Pl.Eq.t_tp, Pl.Eq.ts_nil, Pl.Eq.ts_cons, Pl.Eq.t_sub, Pl.Eq.s_expr, Pl.Eq.s_asg, Pl.Eq.s_par, Pl.Eq.s_aug, Pl.Eq.s_ret, Pl.Eq.s_retN, Pl.Eq.s_ifs, Pl.Eq.s_fr, Pl.Eq.s_brk, Pl.Eq.s_cnt, Pl.Eq.s_pass, Pl.Eq.ss_nil, Pl.Eq.p_addI, Pl.Eq.p_addT, Pl.Eq.p_subI, Pl.Eq.p_mulI, Pl.Eq.p_fdivI, Pl.Eq.p_modI, Pl.Eq.p_powI, Pl.Eq.p_lt, Pl.Eq.p_le, Pl.Eq.p_gt, Pl.Eq.p_ge, Pl.Eq.p_eq, Pl.Eq.p_ne, Pl.Eq.p_isN, Pl.Eq.p_notN, Pl.Eq.p_isB, Pl.Eq.p_notB, Pl.Eq.t_bl, Pl.Eq.t_int, Pl.Eq.t_tup, Pl.Eq.t_lst, Pl.Eq.mk_t, Pl.Eq.mk_f, Pl.Eq.i_non_tup, Pl.Eq.i_non_lst, Pl.Eq.i_non_int, Pl.Eq.i_non_bl, Pl.Eq.i_non_str, Pl.Eq.i_non_dic, Pl.Eq.i_bl_tup, Pl.Eq.i_bl_lst, Pl.Eq.i_bl_int, Pl.Eq.i_bl_bl, Pl.Eq.i_bl_str, Pl.Eq.i_bl_dic, Pl.Eq.i_int_tup, Pl.Eq.i_int_lst, Pl.Eq.i_int_int, Pl.Eq.i_int_bl, Pl.Eq.i_int_str, Pl.Eq.i_int_dic, Pl.Eq.i_str_tup, Pl.Eq.i_str_lst, Pl.Eq.i_str_int, Pl.Eq.i_str_bl, Pl.Eq.i_str_str, Pl.Eq.i_str_dic, Pl.Eq.i_tup_tup, Pl.Eq.i_tup_lst, Pl.Eq.i_tup_int, Pl.Eq.i_tup_bl, Pl.Eq.i_tup_str, Pl.Eq.i_tup_dic, Pl.Eq.i_lst_tup, Pl.Eq.i_lst_lst, Pl.Eq.i_lst_int, Pl.Eq.i_lst_bl, Pl.Eq.i_lst_str, Pl.Eq.i_lst_dic, Pl.Eq.n_non, Pl.Eq.n_bl, Pl.Eq.n_int, Pl.Eq.n_str, Pl.Eq.n_tup, Pl.Eq.n_lst, Pl.Eq.p_slT, Pl.Eq.p_lenT, Pl.Eq.p_lenL, Pl.Eq.p_lenR, Pl.Eq.p_intI, Pl.Eq.p_tuple, Pl.Eq.p_list, Pl.Eq.p_sorted, Pl.Eq.p_max1, Pl.Eq.p_min1, Pl.Eq.p_min, Pl.Eq.p_intB, Pl.Eq.p_mulT, Pl.Eq.p_addLL, Pl.Eq.p_slL, Pl.Eq.it_tup, Pl.Eq.it_lst, Pl.Eq.it_ro, Pl.Eq.si_lst, Pl.Eq.p_all, Pl.Eq.p_any, Pl.Eq.p_max, Pl.Eq.q_tup, Pl.Eq.q_lst, Pl.Eq.q_ro, Pl.Eq.l_lst, Pl.Eq.src_tup, Pl.Eq.src_lst, Pl.Eq.src_ro, Pl.Eq.src_mr, Pl.Eq.atP_some, Pl.Eq.x_tup_, Pl.Eq.x_lst_, Pl.Eq.x_ro_, Pl.Eq.seq_mr, Pl.Eq.lst_mr, Pl.Eq.dic_mr, Pl.Eq.tru_mr, Pl.Eq.it_mr, Pl.Eq.si_mr, Pl.Eq.x_mr, Pl.Eq.set_mr, Pl.Eq.len_mr, Pl.Eq.in_mr, Pl.Eq.nin_mr, Pl.Eq.ty_mr, Pl.Eq.mt_app, Pl.Eq.mt_p0, Pl.Eq.mt_p1, Pl.Eq.mt_ex, Pl.Eq.mt_in, Pl.Eq.mt_g1, Pl.Eq.mt_g2, Pl.Eq.oL_seq, Pl.Eq.oL_tru, Pl.Eq.oL_it, Pl.Eq.oL_ix, Pl.Eq.oL_set, Pl.Eq.oL_len, Pl.Eq.oL_in, Pl.Eq.oL_tyA, Pl.Eq.oL_tyI, Pl.Eq.oL_tyP, Pl.Eq.oL_tyQ, Pl.Eq.oL_tyE, Pl.Eq.oL_tyN, Pl.Eq.oL_app, Pl.Eq.oL_p0, Pl.Eq.oL_p1, Pl.Eq.oL_ex, Pl.Eq.oL_ins, Pl.Eq.oD_dic, Pl.Eq.oL_dic, Pl.Eq.oD_it, Pl.Eq.oD_ix, Pl.Eq.oD_set, Pl.Eq.oD_len, Pl.Eq.oD_in, Pl.Eq.oD_tyG, Pl.Eq.oD_tyH, Pl.Eq.oD_g1, Pl.Eq.oD_g2, Pl.Eq.fx_get, Pl.Eq.fx_get0, Pl.Eq.fx_set, Pl.Eq.fx_set0, Pl.Eq.fx_getS, Pl.Eq.fx_getS0, Pl.Eq.fx_setS, Pl.Eq.fx_setS0, Pl.Eq.at_nat, Pl.Eq.at_0, Pl.Eq.at_1, Pl.Eq.at_2, Pl.Eq.at_3, Pl.Eq.at_4, Pl.Eq.at_last, Pl.Eq.sz, Pl.Eq.ixN_0, Pl.Eq.ixN_1, Pl.Eq.ixN_2, Pl.Eq.ixN_3, Pl.Eq.ixN_4, List.getElem?_cons_zero, List.getElem?_cons_succ, List.set_cons_zero, List.set_cons_succ, Option.some.injEq, exists_eq_left, exists_eq_left', U.int.injEq, U.bl.injEq, U.tup.injEq, U.lst.injEq, Int.zero_add, Nat.reduceLeDiff, List.cons_append, List.nil_append, false_and, exists_false, exists_const, false_or, or_false, Pl.T.own, Pl.Ts.own, Pl.Ts.len, wipeU, Pl.Eq.eqI, Pl.Eq.eqB, beq_self_eq_true, Bool.not_true, Bool.not_false, Bool.false_eq_true, Bool.true_eq_false, reduceCtorEq, decide_true, decide_false, List.length_cons, List.length_nil, Nat.zero_add, Nat.reduceAdd, Nat.reduceLT, if_true, if_false, reduceIte, true_and, and_true, List.set_set, List.append_assoc, List.length_append, List.length_set, Nat.add_zero, List.append_nil, $as,*]))
theorem ordN_idem {κ : Type} [DecidableEq κ] (ks : List κ) : ordN (ordN ks) = ordN ks ∧ (seen [] (ordN ks)).length = (seen [] ks).length :=
  ordN_inj (φ := fun k => (seen [] ks).idxOf k) fun a ma b mb e => idx_inj (seen_mem.mpr (.inr ma)) (seen_mem.mpr (.inr mb)) e
theorem rfs_fst {t : Tb} {K : List Nat} (l : K.length = t.length) : (rfs t K).map (fun k => match k with | .tup (x :: _) => x | _ => NestedKey.none) = K.map fun (c : Nat) => NestedKey.num c := by
  refine List.ext_getElem? fun i => ?_
  rw [List.getElem?_map, List.getElem?_map]
  by_cases h : i < t.length
  · have h' : i < (rfs t K).length := by rw [rfs_len]; exact h
    rw [List.getElem?_eq_getElem h', rfs_at, List.getElem?_eq_getElem (by omega : i < K.length)]
    simp [rfK, List.getD, List.getElem?_eq_getElem (by omega : i < K.length)]
  · rw [List.getElem?_eq_none (by rw [rfs_len]; omega), List.getElem?_eq_none (by omega)]
    rfl
theorem seen_rfs {t : Tb} {K : List Nat} {ks : List NestedKey} (k : KIn t K ks) : (seen [] ks).length ≤ (seen [] (rfs t K)).length ∧ ((seen [] ks).length = (seen [] (rfs t K)).length → refN t K = K) := by
  have fe := rfs_fst k.klen
  have i1 := ordN_idem ks
  rw [← k.e] at i1
  have i2 := ordN_inj (φ := fun (c : Nat) => NestedKey.num c) (ks := K) fun a _ b _ e => by
    injection e with e
    omega
  have g := seen_ge (φ := fun k => match k with | .tup (x :: _) => x | _ => NestedKey.none) (ks := rfs t K) (S := []) (S' := []) (by simp)
  rw [fe, i2.2, i1.2] at g
  refine ⟨by simpa using g, fun e => ?_⟩
  have := ordN_map (φ := fun k => match k with | .tup (x :: _) => x | _ => NestedKey.none) (ks := rfs t K) (by rw [fe, i2.2, i1.2, e])
  unfold refN
  rw [← this, fe, i2.1, i1.1]
theorem KIn.done {t : Tb} {K : List Nat} {ks : List NestedKey} (k : KIn t K ks) (e : (seen [] ks).length = (seen [] (rfs t K)).length) : ClsOk t K :=
  ⟨k.klen, (seen_rfs k).2 e, by have := (ordN_idem ks).1; rw [← k.e] at this; exact this, k.fk, k.co⟩
theorem ints_ord (K : List Nat) : intsU (ordU K) = some (natsI K) := by
  have : ordU K = (natsI K).map .int := by unfold ordU natsI; rw [List.map_map]; rfl
  rw [this, ints_map]
section
variable {tbl : Str → Option Fn} {n : Nat} {h : Hu} {Q : QE} {E : Ex → Hu → Prop}
theorem c_classes (f_tag : tbl "tagged" = some ⟨1, 2, m_tagged⟩) (f_first : tbl "first_keys" = some ⟨1, 3, m_first_keys⟩) (f_in : tbl "in_order" = some ⟨1, 4, m_in_order⟩) (f_ref : tbl "refined" = some ⟨2, 6, m_refined⟩)
    (f_cls : tbl "classes" = some ⟨1, 3, m_classes⟩) {c w : Nat} {rs : U} {t : Tb} (m : MOk c w t) (hc : c ≤ 1000) (hw : w ≤ 1000) (q : ∀ K, ClsOk t K → Q (.tup (ordU K)) h) : callN tbl (n + 4) "classes" [.tup [rs, encT t]] h Q E := by
  refine call_in f_cls rfl (g := [some (.tup [rs, encT t]), none, none]) rfl ?_
  unfold m_classes
  have hs : 1000000 < sizeLine := by decide
  have tb := m.wf.s
  have t0 : t ≠ [] := m.wf.ne
  have po := m.po hc
  simp_all! []
  refine c_first f_tag f_first m hc hw ?_
  refine c_in_order f_in (v := .lst (t.map lnU)) (kk := t.map fun l => (lnU l, lnK l)) (by rw [List.map_map]; exact seqV_lst) (fun p mp => ?_) (by rw [List.length_map]; omega) ?_
  · obtain ⟨l, lm, rfl⟩ := List.mem_map.mp mp
    exact (ln_key (po l lm)).kOf (by decide)
  rw [List.map_map]
  have e0 : ordN (t.map ((fun x => x.2) ∘ fun l => (lnU l, lnK l))) = ordN (fks t) := rfl
  rw [e0]
  rw [Pl.Eq.ss_cons, Pl.Eq.s_wh]
  refine ⟨fun mm g h' => ∃ (K : List Nat) (ks : List NestedKey) (a : Option U), h' = h ∧ g = [some (.tup [rs, encT t]), some (.lst (ordU K)), a] ∧ KIn t K ks ∧ mm + (seen [] ks).length = t.length + 1, ⟨t.length + 1 - (seen [] (fks t)).length, _, _, none, rfl, rfl, kin_first, ?_⟩, ?_⟩
  · have := seen_le (ks := fks t) (S := [])
    simp [fks] at this ⊢
    omega
  rintro mm _ _ ⟨K, ks, a, rfl, rfl, ki, em⟩
  dsimp! []
  rw [Pl.Eq.ss_cons]
  dsimp! []
  refine c_refined f_in f_ref m hw ki.klen ?_
  have kn := kin_next m.wf ki
  have sr := seen_rfs ki
  have nk : ks ≠ [] := fun z => by
    have := ki.len
    rw [z] at this
    exact t0 (List.length_eq_zero_iff.mp this.symm)
  have nr : rfs t K ≠ [] := fun z => by
    have := rfs_len (t := t) (K := K)
    rw [z] at this
    exact t0 (List.length_eq_zero_iff.mp this.symm)
  have m1 : maxI (natsI K) = ((seen [] ks).length : Int) - 1 := by rw [ki.e]; exact ordN_max nk
  have m2 : maxI (natsI (refN t K)) = ((seen [] (rfs t K)).length : Int) - 1 := ordN_max nr
  have z1 : natsI K ≠ [] := fun z => by
    unfold natsI at z
    rw [List.map_eq_nil_iff] at z
    have := ki.klen
    rw [z] at this
    exact t0 (List.length_eq_zero_iff.mp this.symm)
  have z2 : natsI (refN t K) ≠ [] := fun z => by
    unfold natsI at z
    rw [List.map_eq_nil_iff] at z
    have := kn.klen
    rw [z] at this
    exact t0 (List.length_eq_zero_iff.mp this.symm)
  simp_all! [ints_ord]
  refine ⟨z2, z1, ?_⟩
  by_cases e : (seen [] ks).length = (seen [] (rfs t K)).length
  · have e' : (maxI (natsI (refN t K)) == maxI (natsI K)) = true := by rw [m1, m2, e]; simp
    dsimp! [e']
    simp_all! []
    exact .inl (q K (ki.done e))
  · have e' : (maxI (natsI (refN t K)) == maxI (natsI K)) = false := by rw [m1, m2]; simp; omega
    dsimp! [e']
    simp_all! []
    have l2 := seen_le (ks := rfs t K) (S := [])
    rw [rfs_len] at l2
    simp at l2
    exact ⟨mm - 1 - ((seen [] (rfs t K)).length - (seen [] ks).length - 1), by omega, refN t K, rfs t K, _, rfl, kn, by omega⟩
end
/-! the least machine: the classes' table, renumbered -/
def mapP (K : List Nat) : Pc → Pc
  | none => none
  | some (u, k) => some (u, K.getD k 0)
def quo (t : Tb) (K : List Nat) : Tb := (List.range (seen [] K).length).map fun c => (t.getD (K.idxOf c) []).map (mapP K)
def least (t : Tb) (K : List Nat) : Tb := numb (quo t K)
theorem ClsOk.lt {t : Tb} {K : List Nat} (k : ClsOk t K) {i : Nat} (h : i < t.length) : K.getD i 0 < (seen [] K).length := by
  have hk : i < K.length := by rw [k.len]; exact h
  have := ordN_lt (ks := K) (K.getD i 0) (by rw [k.nm]; simp [List.getD, List.getElem?_eq_getElem hk])
  exact this
theorem ClsOk.same {c w : Nat} {t : Tb} {K : List Nat} (m : MOk c w t) (hc : c ≤ 1000) (k : ClsOk t K) {i j : Nat} (hi : i < t.length) (hj : j < t.length) (e : K.getD i 0 = K.getD j 0) : (t.getD i []).map (mapP K) = (t.getD j []).map (mapP K) := by
  have f := k.fk i j hi hj e
  have r : (rfs t K)[i]'(by rw [rfs_len]; exact hi) = (rfs t K)[j]'(by rw [rfs_len]; exact hj) := by
    refine (ordN_eq (ks := rfs t K) _ _).mp ?_
    have := k.st
    unfold refN at this
    rw [this, e]
  rw [rfs_at, rfs_at, rfK_eq] at r
  have pi := m.po hc _ (show t.getD i [] ∈ t by rw [getD_lt hi]; exact List.getElem_mem hi)
  have pj := m.po hc _ (show t.getD j [] ∈ t by rw [getD_lt hj]; exact List.getElem_mem hj)
  unfold lnK at f
  injection f with f
  have s := r.2
  generalize t.getD i [] = a at *
  generalize t.getD j [] = b at *
  clear r
  induction a generalizing b with
  | nil =>
    cases b with
    | nil => rfl
    | cons => simp at f
  | cons p a ih =>
    cases b with
    | nil => simp at f
    | cons q b =>
      rw [List.map_cons, List.map_cons] at f s ⊢
      injection f with f1 f2
      injection s with s1 s2
      rw [ih (fun p mp => pi p (List.mem_cons_of_mem _ mp)) b (fun p mp => pj p (List.mem_cons_of_mem _ mp)) f2 s2]
      congr 1
      have fo := fk_inj (pi p List.mem_cons_self) (pj q List.mem_cons_self) f1
      cases p with
      | none => cases q with
        | none => rfl
        | some q => simp at fo
      | some p => cases q with
        | none => simp at fo
        | some q =>
          simp at fo
          have : NestedKey.num (K.getD p.2 0 : Nat) = NestedKey.num (K.getD q.2 0 : Nat) := s1
          injection this with this
          show some (p.1, K.getD p.2 0) = some (q.1, K.getD q.2 0)
          rw [fo, show K.getD p.2 0 = K.getD q.2 0 by omega]
theorem quo_len {t : Tb} {K : List Nat} : (quo t K).length = (seen [] K).length := by simp [quo]
theorem quo_at {c w : Nat} {t : Tb} {K : List Nat} (m : MOk c w t) (hc : c ≤ 1000) (k : ClsOk t K) {s : Nat} (hs : s < t.length) : (quo t K).getD (K.getD s 0) [] = (t.getD s []).map (mapP K) := by
  have l := k.lt hs
  have hk : s < K.length := by rw [k.len]; exact hs
  have mem : K.getD s 0 ∈ K := by simp [List.getD, List.getElem?_eq_getElem hk]
  have li := List.idxOf_lt_length_of_mem mem
  have e : (quo t K).getD (K.getD s 0) [] = (t.getD (K.idxOf (K.getD s 0)) []).map (mapP K) := by
    unfold quo
    simp only [List.getD]
    rw [List.getElem?_map, List.getElem?_range (by simpa [List.getD] using l)]
    rfl
  rw [e]
  refine k.same m hc (by rw [← k.len]; exact li) hs ?_
  generalize K.getD s 0 = x at li
  simp only [List.getD, List.getElem?_eq_getElem li, Option.getD_some]
  rw [List.getElem_idxOf li]
theorem quo_wf {c w : Nat} {t : Tb} {K : List Nat} (m : MOk c w t) (k : ClsOk t K) : Wf w (quo t K) ∧ ∀ l ∈ quo t K, ∀ u j, some (u, j) ∈ l → ∃ xs, u = .tup xs ∧ xs.length ≤ c ∧ ∀ x ∈ xs, leaf x := by
  have kne : K ≠ [] := fun z => by
    have := k.len
    rw [z] at this
    exact m.wf.ne (List.length_eq_zero_iff.mp this.symm)
  have cpos := seen_pos kne
  have cle := seen_le (ks := K) (S := [])
  rw [k.len] at cle
  simp at cle
  have mem : ∀ l ∈ quo t K, ∃ l0 ∈ t, l = l0.map (mapP K) := fun l lm => by
    obtain ⟨cc, cm, rfl⟩ := List.mem_map.mp lm
    have hcc : cc ∈ K := by
      obtain ⟨i, hi, e⟩ := ordN_hit (ks := K) (c := cc) (by simpa using cm)
      rw [k.nm] at e
      rw [← e]
      simp [List.getD, List.getElem?_eq_getElem hi]
    have li := List.idxOf_lt_length_of_mem hcc
    rw [k.len] at li
    exact ⟨_, by rw [getD_lt li]; exact List.getElem_mem li, rfl⟩
  have pl : ∀ l ∈ quo t K, ∀ u j, some (u, j) ∈ l → ∃ l0 ∈ t, ∃ j0, some (u, j0) ∈ l0 ∧ j = K.getD j0 0 := fun l lm u j mj => by
    obtain ⟨l0, m0, rfl⟩ := mem l lm
    obtain ⟨p, pm, e⟩ := List.mem_map.mp mj
    cases p with
    | none => cases e
    | some p =>
      have e' : some (p.1, K.getD p.2 0) = some (u, j) := e
      injection e' with e'
      injection e' with e1 e2
      subst e1
      exact ⟨l0, m0, p.2, pm, e2.symm⟩
  refine ⟨⟨fun z => ?_, fun l lm => ?_, fun l lm u j mj => ?_, by rw [quo_len]; have := m.wf.s; omega⟩, fun l lm u j mj => ?_⟩
  · have := quo_len (t := t) (K := K)
    rw [z] at this
    simp at this; omega
  · obtain ⟨l0, m0, rfl⟩ := mem l lm
    rw [List.length_map]
    exact m.wf.len l0 m0
  · obtain ⟨l0, m0, j0, mj0, rfl⟩ := pl l lm u j mj
    obtain ⟨a, b⟩ := m.wf.pl l0 m0 u j0 mj0
    exact ⟨a, by rw [quo_len]; exact k.lt b⟩
  · obtain ⟨l0, m0, j0, mj0, rfl⟩ := pl l lm u j mj
    exact m.out l0 m0 u j0 mj0
theorem least_mok {c w : Nat} {t : Tb} {K : List Nat} (m : MOk c w t) (k : ClsOk t K) : MOk c w (least t K) := numb_mok (quo_wf m k).1 (quo_wf m k).2
end Pl.Ma
set_option Elab.async false
set_option linter.all false
set_option maxRecDepth 100000
set_option autoImplicit false
/-! least_machine. -/
namespace Pl.Ma
open PySem Pl L2 Pl.Eq Pl.Tp
local macro_rules | `(tactic| simp_all! [$as,*]) => `(tactic| ((try dsimp only); rw [Pl.Eq.ss_cons]; simp only [Pl.Eq.e_cst, Pl.Eq.b_cst, Pl.Eq.e_var, Pl.Eq.b_var, Pl.Eq.e_bin, Pl.Eq.b_bin, Pl.Eq.e_neg, Pl.Eq.e_not, Pl.Eq.b_not, Pl.Eq.e_bop, Pl.Eq.b_bop, Pl.Eq.e_cmp, Pl.Eq.b_cmp, Pl.Eq.e_cmp2, Pl.Eq.b_cmp2, Pl.Eq.e_ife, Pl.Eq.b_ife, Pl.Eq.e_call, Pl.Eq.b_call, Pl.Eq.e_bi, Pl.Eq.b_bi, Pl.Eq.e_isi, Pl.Eq.b_isi, Pl.Eq.e_mth, Pl.Eq.e_ix, Pl.Eq.b_ix, Pl.Eq.e_sl, Pl.Eq.e_tup, Pl.Eq.e_lst, Pl.Eq.e_lc, Pl.Eq.e_lc2, Pl.Eq.e_lrg, Pl.Eq.e_dic, Pl.Eq.es_nil, Pl.Eq.es_cons, Pl.Eq.o_none, Pl.Eq.o_some, Pl.Eq.bb_nil, Pl.Eq.bb_cons, Pl.Eq.bo_one, Pl.Eq.bo_cons, Pl.Eq.f_nil, Pl.Eq.f_cons, Pl.Eq.i_val, Pl.Eq.i_rng1, Pl.Eq.i_rng2, Pl.Eq.i_rng3, Pl.Eq.i_enum, Pl.Eq.t_nm, Pl.Eq.t_tp, Pl.Eq.ts_nil, Pl.Eq.ts_cons, Pl.Eq.t_sub, Pl.Eq.s_expr, Pl.Eq.s_asg, Pl.Eq.s_par, Pl.Eq.s_aug, Pl.Eq.s_ret, Pl.Eq.s_retN, Pl.Eq.s_ifs, Pl.Eq.s_fr, Pl.Eq.s_brk, Pl.Eq.s_cnt, Pl.Eq.s_pass, Pl.Eq.ss_nil, Pl.Eq.p_addI, Pl.Eq.p_addT, Pl.Eq.p_subI, Pl.Eq.p_mulI, Pl.Eq.p_fdivI, Pl.Eq.p_modI, Pl.Eq.p_powI, Pl.Eq.p_lt, Pl.Eq.p_le, Pl.Eq.p_gt, Pl.Eq.p_ge, Pl.Eq.p_eq, Pl.Eq.p_ne, Pl.Eq.p_isN, Pl.Eq.p_notN, Pl.Eq.p_isB, Pl.Eq.p_notB, Pl.Eq.t_bl, Pl.Eq.t_int, Pl.Eq.t_tup, Pl.Eq.t_lst, Pl.Eq.mk_t, Pl.Eq.mk_f, Pl.Eq.i_non_tup, Pl.Eq.i_non_lst, Pl.Eq.i_non_int, Pl.Eq.i_non_bl, Pl.Eq.i_non_str, Pl.Eq.i_non_dic, Pl.Eq.i_bl_tup, Pl.Eq.i_bl_lst, Pl.Eq.i_bl_int, Pl.Eq.i_bl_bl, Pl.Eq.i_bl_str, Pl.Eq.i_bl_dic, Pl.Eq.i_int_tup, Pl.Eq.i_int_lst, Pl.Eq.i_int_int, Pl.Eq.i_int_bl, Pl.Eq.i_int_str, Pl.Eq.i_int_dic, Pl.Eq.i_str_tup, Pl.Eq.i_str_lst, Pl.Eq.i_str_int, Pl.Eq.i_str_bl, Pl.Eq.i_str_str, Pl.Eq.i_str_dic, Pl.Eq.i_tup_tup, Pl.Eq.i_tup_lst, Pl.Eq.i_tup_int, Pl.Eq.i_tup_bl, Pl.Eq.i_tup_str, Pl.Eq.i_tup_dic, Pl.Eq.i_lst_tup, Pl.Eq.i_lst_lst, Pl.Eq.i_lst_int, Pl.Eq.i_lst_bl, Pl.Eq.i_lst_str, Pl.Eq.i_lst_dic, Pl.Eq.n_non, Pl.Eq.n_bl, Pl.Eq.n_int, Pl.Eq.n_str, Pl.Eq.n_tup, Pl.Eq.n_lst, Pl.Eq.p_slT, Pl.Eq.p_lenT, Pl.Eq.p_lenL, Pl.Eq.p_lenR, Pl.Eq.p_intI, Pl.Eq.p_tuple, Pl.Eq.p_list, Pl.Eq.p_sorted, Pl.Eq.p_max1, Pl.Eq.p_min1, Pl.Eq.p_min, Pl.Eq.p_intB, Pl.Eq.p_mulT, Pl.Eq.p_addLL, Pl.Eq.p_slL, Pl.Eq.it_tup, Pl.Eq.it_lst, Pl.Eq.it_ro, Pl.Eq.si_lst, Pl.Eq.p_all, Pl.Eq.p_any, Pl.Eq.p_max, Pl.Eq.q_tup, Pl.Eq.q_lst, Pl.Eq.q_ro, Pl.Eq.l_lst, Pl.Eq.src_tup, Pl.Eq.src_lst, Pl.Eq.src_ro, Pl.Eq.src_mr, Pl.Eq.atP_some, Pl.Eq.x_tup_, Pl.Eq.x_lst_, Pl.Eq.x_ro_, Pl.Eq.seq_mr, Pl.Eq.lst_mr, Pl.Eq.dic_mr, Pl.Eq.tru_mr, Pl.Eq.it_mr, Pl.Eq.si_mr, Pl.Eq.x_mr, Pl.Eq.set_mr, Pl.Eq.len_mr, Pl.Eq.in_mr, Pl.Eq.nin_mr, Pl.Eq.ty_mr, Pl.Eq.mt_app, Pl.Eq.mt_p0, Pl.Eq.mt_p1, Pl.Eq.mt_ex, Pl.Eq.mt_in, Pl.Eq.mt_g1, Pl.Eq.mt_g2, Pl.Eq.oL_seq, Pl.Eq.oL_tru, Pl.Eq.oL_it, Pl.Eq.oL_ix, Pl.Eq.oL_set, Pl.Eq.oL_len, Pl.Eq.oL_in, Pl.Eq.oL_tyA, Pl.Eq.oL_tyI, Pl.Eq.oL_tyP, Pl.Eq.oL_tyQ, Pl.Eq.oL_tyE, Pl.Eq.oL_tyN, Pl.Eq.oL_app, Pl.Eq.oL_p0, Pl.Eq.oL_p1, Pl.Eq.oL_ex, Pl.Eq.oL_ins, Pl.Eq.oD_dic, Pl.Eq.oL_dic, Pl.Eq.oD_it, Pl.Eq.oD_ix, Pl.Eq.oD_set, Pl.Eq.oD_len, Pl.Eq.oD_in, Pl.Eq.oD_tyG, Pl.Eq.oD_tyH, Pl.Eq.oD_g1, Pl.Eq.oD_g2, Pl.Eq.fx_get, Pl.Eq.fx_get0, Pl.Eq.fx_set, Pl.Eq.fx_set0, Pl.Eq.fx_getS, Pl.Eq.fx_getS0, Pl.Eq.fx_setS, Pl.Eq.fx_setS0, Pl.Eq.at_nat, Pl.Eq.at_0, Pl.Eq.at_1, Pl.Eq.at_2, Pl.Eq.at_3, Pl.Eq.at_4, Pl.Eq.at_last, Pl.Eq.sz, Pl.Eq.ixN_0, Pl.Eq.ixN_1, Pl.Eq.ixN_2, Pl.Eq.ixN_3, Pl.Eq.ixN_4, List.getElem?_cons_zero, List.getElem?_cons_succ, List.set_cons_zero, List.set_cons_succ, Option.some.injEq, exists_eq_left, exists_eq_left', U.int.injEq, U.bl.injEq, U.tup.injEq, U.lst.injEq, Int.zero_add, Nat.reduceLeDiff, List.cons_append, List.nil_append, false_and, exists_false, exists_const, false_or, or_false, Pl.T.own, Pl.Ts.own, Pl.Ts.len, wipeU, Pl.Eq.eqI, Pl.Eq.eqB, beq_self_eq_true, Bool.not_true, Bool.not_false, Bool.false_eq_true, Bool.true_eq_false, reduceCtorEq, decide_true, decide_false, List.length_cons, List.length_nil, Nat.zero_add, Nat.reduceAdd, Nat.reduceLT, if_true, if_false, reduceIte, true_and, and_true, List.set_set, List.append_assoc, List.length_append, List.length_set, Nat.add_zero, List.append_nil, $as,*]))
local macro_rules | `(tactic| dsimp! [$as,*]) => `(tactic| (try simp only [Pl.Eq.e_cst, Pl.Eq.b_cst, Pl.Eq.e_var, Pl.Eq.b_var, Pl.Eq.e_bin, Pl.Eq.b_bin, Pl.Eq.e_neg, Pl.Eq.e_not, Pl.Eq.b_not, Pl.Eq.e_bop, Pl.Eq.b_bop, Pl.Eq.e_cmp, Pl.Eq.b_cmp, Pl.Eq.e_cmp2, Pl.Eq.b_cmp2, Pl.Eq.e_ife, Pl.Eq.b_ife, Pl.Eq.e_call, Pl.Eq.b_call, Pl.Eq.e_bi, Pl.Eq.b_bi, Pl.Eq.e_isi, Pl.Eq.b_isi, Pl.Eq.e_mth, Pl.Eq.e_ix, Pl.Eq.b_ix, Pl.Eq.e_sl, Pl.Eq.e_tup, Pl.Eq.e_lst, Pl.Eq.e_lc, Pl.Eq.e_lc2, Pl.Eq.e_lrg, Pl.Eq.e_dic, Pl.Eq.es_nil, Pl.Eq.es_cons, Pl.Eq.o_none, Pl.Eq.o_some, Pl.Eq.bb_nil, Pl.Eq.bb_cons, Pl.Eq.bo_one, Pl.Eq.bo_cons, Pl.Eq.f_nil, Pl.Eq.f_cons, Pl.Eq.i_val, Pl.Eq.i_rng1, Pl.Eq.i_rng2, Pl.Eq.i_rng3, Pl.Eq.i_enum, Pl.Eq.t_nm, Pl.Eq.t_tp, Pl.Eq.ts_nil, Pl.Eq.ts_cons, Pl.Eq.t_sub, Pl.Eq.s_expr, Pl.Eq.s_asg, Pl.Eq.s_par, Pl.Eq.s_aug, Pl.Eq.s_ret, Pl.Eq.s_retN, Pl.Eq.s_ifs, Pl.Eq.s_fr, Pl.Eq.s_brk, Pl.Eq.s_cnt, Pl.Eq.s_pass, Pl.Eq.ss_nil, Pl.Eq.p_addI, Pl.Eq.p_addT, Pl.Eq.p_subI, Pl.Eq.p_mulI, Pl.Eq.p_fdivI, Pl.Eq.p_modI, Pl.Eq.p_powI, Pl.Eq.p_lt, Pl.Eq.p_le, Pl.Eq.p_gt, Pl.Eq.p_ge, Pl.Eq.p_eq, Pl.Eq.p_ne, Pl.Eq.p_isN, Pl.Eq.p_notN, Pl.Eq.p_isB, Pl.Eq.p_notB, Pl.Eq.t_bl, Pl.Eq.t_int, Pl.Eq.t_tup, Pl.Eq.t_lst, Pl.Eq.mk_t, Pl.Eq.mk_f, Pl.Eq.i_non_tup, Pl.Eq.i_non_lst, Pl.Eq.i_non_int, Pl.Eq.i_non_bl, Pl.Eq.i_non_str, Pl.Eq.i_non_dic, Pl.Eq.i_bl_tup, Pl.Eq.i_bl_lst, Pl.Eq.i_bl_int, Pl.Eq.i_bl_bl, Pl.Eq.i_bl_str, Pl.Eq.i_bl_dic, Pl.Eq.i_int_tup, Pl.Eq.i_int_lst, Pl.Eq.i_int_int, Pl.Eq.i_int_bl, Pl.Eq.i_int_str, Pl.Eq.i_int_dic, Pl.Eq.i_str_tup, Pl.Eq.i_str_lst, Pl.Eq.i_str_int, Pl.Eq.i_str_bl, Pl.Eq.i_str_str, Pl.Eq.i_str_dic, Pl.Eq.i_tup_tup, Pl.Eq.i_tup_lst, Pl.Eq.i_tup_int, Pl.Eq.i_tup_bl, Pl.Eq.i_tup_str, Pl.Eq.i_tup_dic, Pl.Eq.i_lst_tup, Pl.Eq.i_lst_lst, Pl.Eq.i_lst_int, Pl.Eq.i_lst_bl, Pl.Eq.i_lst_str, Pl.Eq.i_lst_dic, Pl.Eq.n_non, Pl.Eq.n_bl, Pl.Eq.n_int, Pl.Eq.n_str, Pl.Eq.n_tup, Pl.Eq.n_lst, Pl.Eq.p_slT, Pl.Eq.p_lenT, Pl.Eq.p_lenL, Pl.Eq.p_lenR, Pl.Eq.p_intI, Pl.Eq.p_tuple, Pl.Eq.p_list, Pl.Eq.p_sorted, Pl.Eq.p_max1, Pl.Eq.p_min1, Pl.Eq.p_min, Pl.Eq.p_intB, Pl.Eq.p_mulT, Pl.Eq.p_addLL, Pl.Eq.p_slL, Pl.Eq.it_tup, Pl.Eq.it_lst, Pl.Eq.it_ro, Pl.Eq.si_lst, Pl.Eq.p_all, Pl.Eq.p_any, Pl.Eq.p_max, Pl.Eq.q_tup, Pl.Eq.q_lst, Pl.Eq.q_ro, Pl.Eq.l_lst, Pl.Eq.src_tup, Pl.Eq.src_lst, Pl.Eq.src_ro, Pl.Eq.src_mr, Pl.Eq.atP_some, Pl.Eq.x_tup_, Pl.Eq.x_lst_, Pl.Eq.x_ro_, Pl.Eq.seq_mr, Pl.Eq.lst_mr, Pl.Eq.dic_mr, Pl.Eq.tru_mr, Pl.Eq.it_mr, Pl.Eq.si_mr, Pl.Eq.x_mr, Pl.Eq.set_mr, Pl.Eq.len_mr, Pl.Eq.in_mr, Pl.Eq.nin_mr, Pl.Eq.ty_mr, Pl.Eq.mt_app, Pl.Eq.mt_p0, Pl.Eq.mt_p1, Pl.Eq.mt_ex, Pl.Eq.mt_in, Pl.Eq.mt_g1, Pl.Eq.mt_g2, Pl.Eq.oL_seq, Pl.Eq.oL_tru, Pl.Eq.oL_it, Pl.Eq.oL_ix, Pl.Eq.oL_set, Pl.Eq.oL_len, Pl.Eq.oL_in, Pl.Eq.oL_tyA, Pl.Eq.oL_tyI, Pl.Eq.oL_tyP, Pl.Eq.oL_tyQ, Pl.Eq.oL_tyE, Pl.Eq.oL_tyN, Pl.Eq.oL_app, Pl.Eq.oL_p0, Pl.Eq.oL_p1, Pl.Eq.oL_ex, Pl.Eq.oL_ins, Pl.Eq.oD_dic, Pl.Eq.oL_dic, Pl.Eq.oD_it, Pl.Eq.oD_ix, Pl.Eq.oD_set, Pl.Eq.oD_len, Pl.Eq.oD_in, Pl.Eq.oD_tyG, Pl.Eq.oD_tyH, Pl.Eq.oD_g1, Pl.Eq.oD_g2, Pl.Eq.fx_get, Pl.Eq.fx_get0, Pl.Eq.fx_set, Pl.Eq.fx_set0, Pl.Eq.fx_getS, Pl.Eq.fx_getS0, Pl.Eq.fx_setS, Pl.Eq.fx_setS0, Pl.Eq.at_nat, Pl.Eq.at_0, Pl.Eq.at_1, Pl.Eq.at_2, Pl.Eq.at_3, Pl.Eq.at_4, Pl.Eq.at_last, Pl.Eq.sz, Pl.Eq.ixN_0, Pl.Eq.ixN_1, Pl.Eq.ixN_2, Pl.Eq.ixN_3, Pl.Eq.ixN_4, List.getElem?_cons_zero, List.getElem?_cons_succ, List.set_cons_zero, List.set_cons_succ, Option.some.injEq, exists_eq_left, exists_eq_left', U.int.injEq, U.bl.injEq, U.tup.injEq, U.lst.injEq, Int.zero_add, Nat.reduceLeDiff, List.cons_append, List.nil_append, false_and, exists_false, exists_const, false_or, or_false, Pl.T.own, Pl.Ts.own, Pl.Ts.len, wipeU, Pl.Eq.eqI, Pl.Eq.eqB, beq_self_eq_true, Bool.not_true, Bool.not_false, Bool.false_eq_true, Bool.true_eq_false, reduceCtorEq, decide_true, decide_false, List.length_cons, List.length_nil, Nat.zero_add, Nat.reduceAdd, Nat.reduceLT, if_true, if_false, reduceIte, true_and, and_true, List.set_set, List.append_assoc, List.length_append, List.length_set, Nat.add_zero, List.append_nil, $as,*]))
def nmS (oc : List Nat) : List (U × NestedKey) := oc.map fun (c : Nat) => (U.int c, NestedKey.num c)
theorem nmS_ok {oc : List Nat} : ∀ p ∈ nmS oc, kOf p.1 = some p.2 := fun p m => by
  obtain ⟨c, _, rfl⟩ := List.mem_map.mp m
  rfl
theorem nmS_snd {oc : List Nat} : (nmS oc).map (·.2) = oc.map fun (c : Nat) => NestedKey.num c := by unfold nmS; rw [List.map_map]; rfl
theorem num_mem {oc : List Nat} {c : Nat} : NestedKey.num c ∈ (oc.map fun (c : Nat) => NestedKey.num c) ↔ c ∈ oc := by
  constructor
  · intro m
    obtain ⟨d, dm, e⟩ := List.mem_map.mp m
    injection e with e
    have : d = c := by omega
    exact this ▸ dm
  · intro m
    exact List.mem_map.mpr ⟨c, m, rfl⟩
theorem num_nd {oc : List Nat} (h : oc.Nodup) : (oc.map fun (c : Nat) => NestedKey.num c).Nodup :=
  List.pairwise_map.mpr (h.imp fun ne e => ne (by injection e with e; omega))
theorem nm_look {oc : List Nat} (h : oc.Nodup) {c : Nat} : dlook (numD 0 (nmS oc)) (.int c) = if c ∈ oc then some (.int ((oc.idxOf c : Nat) : Int)) else none := by
  rw [numD_look (u := .int c) (k := .num c) rfl nmS_ok, nmS_snd]
  by_cases m : c ∈ oc
  · rw [if_pos (num_mem.mpr m), if_pos m, idx_map (φ := fun (c : Nat) => NestedKey.num c) (num_nd h) m, Nat.zero_add]
  · rw [if_neg (fun z => m (num_mem.mp z)), if_neg m]
theorem nm_put {oc : List Nat} {c : Nat} (h : c ∉ oc) {n : Nat} (e : oc.length = n) : dput (numD 0 (nmS oc)) (.int c) (.int (n : Int)) = numD 0 (nmS (oc ++ [c])) := by
  subst e
  have := numD_put (u := .int c) (k := .num c) rfl (S := nmS oc) (o := 0) nmS_ok (by rw [nmS_snd]; exact fun z => h (num_mem.mp z))
  rw [Nat.zero_add] at this
  rw [show (nmS oc).length = oc.length by simp [nmS]] at this
  rw [this]
  simp [nmS]
theorem numGo_none {t : Tb} : ∀ {f i : Nat} {ord : List Nat} {ls : Tb}, ord.length ≤ i → numGo t f i ord ls = (ord, ls)
  | 0, _, _, _, _ => rfl
  | f + 1, i, ord, ls, h => by
    unfold numGo
    rw [List.getElem?_eq_none h]
    exact numGo_none (by omega)
section
variable {tbl : Str → Option Fn} {n : Nat} {h : Hu} {Q : QE} {E : Ex → Hu → Prop}
theorem c_least (f_tag : tbl "tagged" = some ⟨1, 2, m_tagged⟩) (f_first : tbl "first_keys" = some ⟨1, 3, m_first_keys⟩) (f_in : tbl "in_order" = some ⟨1, 4, m_in_order⟩) (f_ref : tbl "refined" = some ⟨2, 6, m_refined⟩)
    (f_cls : tbl "classes" = some ⟨1, 3, m_classes⟩) (f_least : tbl "least_machine" = some ⟨1, 11, m_least_machine⟩) {c w : Nat} {rs : List U} {t : Tb} (m : MOk c w t) (ro : RsOk rs) (hc : c ≤ 1000) (hw : w ≤ 1000)
    (q : ∀ K, ClsOk t K → Q (.tup [.tup rs, encT (least t K)]) h) : callN tbl (n + 5) "least_machine" [.tup [.tup rs, encT t]] h Q E := by
  refine call_in f_least rfl (g := [some (.tup [.tup rs, encT t]), none, none, none, none, none, none, none, none, none, none]) rfl ?_
  unfold m_least_machine
  have hs : 1000000 < sizeLine := by decide
  have tb := m.wf.s
  have t0 : 0 < t.length := List.length_pos_iff.mpr m.wf.ne
  simp_all! []
  rw [Pl.Eq.ss_cons]
  dsimp! []
  refine c_classes f_tag f_first f_in f_ref f_cls m hc hw fun K ck => ?_
  replace q := q K ck
  have lk := ck.len
  have k0 : K.getD 0 0 = 0 := by have := ordN_0 (ks := K); rw [ck.nm] at this; exact this
  have qw := (quo_wf m ck).1
  have ql := quo_len (t := t) (K := K)
  have cpos : 0 < (quo t K).length := List.length_pos_iff.mpr qw.ne
  have ka := fun s (hs : s < t.length) => kn_at (K := K) (s := s) (by omega)
  have ka0 := ka 0 t0
  rw [k0] at ka0
  dsimp! []
  simp_all! []
  simp_all! [ka0]
  refine ⟨_, rfl, by decide, fun p m => by rw [List.mem_singleton.mp m]; rfl, ?_⟩
  simp_all! []
  rw [Pl.Eq.ss_cons, Pl.Eq.s_wh]
  have fin : (quo t K).length ≤ t.length := by
    have := seen_le (ks := K) (S := [])
    rw [lk] at this
    simp at this
    omega
  generalize hR : (least t K) = R at q
  have hR' : (numGo (quo t K) (quo t K).length 0 [0] []).2 = R := hR
  refine ⟨fun mm g h' => ∃ (ord : List Nat) (ls : Tb) (jk : List O) (a b c d : Option U), h' = h ++ (.lst (ordU ord) :: .dic (numD 0 (nmS (ord.map fun s => K.getD s 0))) :: .lst (ls.map encL) :: jk) ∧
    g = [some (.tup [.tup rs, encT t]), some (.tup rs), some (encT t), some (.tup (ordU K)), some (.mr h.length), some (.mr (h.length + 1)), some (.mr (h.length + 2)), a, b, c, d] ∧
    (ord.map fun s => K.getD s 0).Nodup ∧ (∀ s ∈ ord, s < t.length) ∧ mm + ls.length = (quo t K).length ∧ (numGo (quo t K) mm ls.length (ord.map fun s => K.getD s 0) ls).2 = R,
    ⟨_, [0], [], [], none, none, none, none, ?_, rfl, by simp, by simpa using t0, rfl, by rw [List.map_cons, List.map_nil, k0]; exact hR'⟩, ?_⟩
  · simp [nmS, numD, ordU, dputs, dput, List.getD]
    have := k0
    simp [List.getD] at this
    omega
  rintro mm _ _ ⟨ord, ls, jk, a, b, c', d, rfl, rfl, nd, ob, em, eR⟩
  have ol : (ord.map fun s => K.getD s 0).length ≤ (quo t K).length := nodup_le nd fun x mx => by
    obtain ⟨s, sm, rfl⟩ := List.mem_map.mp mx
    rw [ql]
    exact ck.lt (ob s sm)
  rw [List.length_map] at ol
  have lo : (ordU ord).length = ord.length := by simp [ordU]
  dsimp! [List.length_map]
  by_cases cc : ls.length < ord.length
  · have cc' : ((ls.length : Int) < ((ordU ord).length : Int)) := by omega
    obtain ⟨f, rfl⟩ : ∃ f, mm = f + 1 := ⟨mm - 1, by omega⟩
    have eo : ord[ls.length]? = some ord[ls.length] := List.getElem?_eq_getElem cc
    have cs : ord[ls.length] < t.length := ob _ (List.getElem_mem cc)
    have eoc : (ord.map fun s => K.getD s 0)[ls.length]? = some (K.getD ord[ls.length] 0) := by rw [List.getElem?_map, eo]; rfl
    unfold numGo at eR
    rw [eoc] at eR
    simp only at eR
    rw [quo_at m hc ck cs] at eR
    generalize hsg : ord[ls.length] = s at *
    have es : t[s]? = some t[s] := List.getElem?_eq_getElem cs
    have eg : t.getD s [] = t[s] := getD_lt cs
    rw [eg] at eR
    have lm : t[s] ∈ t := List.getElem_mem _
    generalize hlg : t[s] = l at *
    have emp : (t.map encL)[s]? = some (encL l) := by rw [List.getElem?_map, es]; rfl
    have lw := m.wf.len l lm
    simp only [cc', decide_true, if_true]
    simp_all! []
    simp_all! [List.length_map, ordU_get eo]
    dsimp! [encT, emp, encL]
    refine frMap (fun r g h' => ∃ (ord' : List Nat) (ln : List Pc) (a b c : Option U), h' = h ++ (.lst (ordU ord') :: .dic (numD 0 (nmS (ord'.map fun s => K.getD s 0))) :: .lst (ls.map encL) :: (jk ++ [.lst (ln.map encP)])) ∧
        g = [some (.tup [.tup rs, encT t]), some (.tup rs), some (encT t), some (.tup (ordU K)), some (.mr h.length), some (.mr (h.length + 1)), some (.mr (h.length + 2)), some (.mr (h.length + (jk.length + 1 + 1 + 1))), a, b, c] ∧
        (ord'.map fun s => K.getD s 0).Nodup ∧ (∀ s ∈ ord', s < t.length) ∧ ln.length + r.length = l.length ∧ (∀ p ∈ r, p ∈ l) ∧
        (lineGo (ord'.map fun s => K.getD s 0) (r.map (mapP K))).1 = (lineGo (ord.map fun s => K.getD s 0) (l.map (mapP K))).1 ∧ ln ++ (lineGo (ord'.map fun s => K.getD s 0) (r.map (mapP K))).2 = (lineGo (ord.map fun s => K.getD s 0) (l.map (mapP K))).2) ?_ ?_
      ⟨ord, [], b, c', d, rfl, rfl, nd, ob, by simp, fun p m => m, rfl, rfl⟩
    · rintro p r _ _ ⟨ord', ln, a', b', c2, rfl, rfl, nd', ob', lc, pm, e1, e2⟩ k2 hk2
      have pml := pm p List.mem_cons_self
      have ol' : (ord'.map fun s => K.getD s 0).length ≤ (quo t K).length := nodup_le nd' fun x mx => by
        obtain ⟨s, sm, rfl⟩ := List.mem_map.mp mx
        rw [ql]
        exact ck.lt (ob' s sm)
      rw [List.length_map] at ol'
      rw [List.length_cons] at lc
      rw [List.map_cons] at e1 e2
      cases p with
      | none =>
        simp_all! [encP]
        simp_all! [encP]
        refine ⟨by rw [List.length_map]; omega, ?_⟩
        simp_all! []
        refine hk2 _ _ ⟨ord', ln ++ [none], _, _, _, by simp [encP], rfl, nd', ob', by simp; omega, fun p m => pm p (List.mem_cons_of_mem _ m), ?_, ?_⟩
        · simpa [lineGo, stepOrd, mapP] using e1
        · rw [List.append_assoc]; simpa [lineGo, stepOrd, newP, mapP] using e2
      | some p =>
        obtain ⟨u, kk⟩ := p
        have kb := (m.wf.pl l lm u kk pml).2
        have kak := ka kk kb
        have klt := ck.lt kb
        simp_all! [encP]
        simp_all! []
        have lk1 := nm_look nd' (c := K.getD kk 0)
        have isS : (kOf (.int (K.getD kk 0 : Nat))).isSome = true := rfl
        refine cutSs (fun g h' => ∃ o2 : List Nat, (o2.map fun s => K.getD s 0) = stepOrd (ord'.map fun s => K.getD s 0) (some (u, K.getD kk 0)) ∧ (∀ s ∈ o2, s < t.length) ∧
          h' = h ++ (.lst (ordU o2) :: .dic (numD 0 (nmS (o2.map fun s => K.getD s 0))) :: .lst (ls.map encL) :: (jk ++ [.lst (ln.map encP)])) ∧
          g = [some (.tup [.tup rs, encT t]), some (.tup rs), some (encT t), some (.tup (ordU K)), some (.mr h.length), some (.mr (h.length + 1)), some (.mr (h.length + 2)), some (.mr (h.length + (jk.length + 1 + 1 + 1))), some (.tup [u, .int kk]), some u, some (.int kk)]) (fun N hN => ?_) ?_
        · by_cases mem : K.getD kk 0 ∈ ord'.map fun s => K.getD s 0
          · rw [if_pos mem] at lk1
            dsimp! [kak, lk1, isS, Option.isSome_some]
            exact hN _ _ ⟨ord', by simp only [stepOrd, if_pos mem], ob', rfl, rfl⟩
          · rw [if_neg mem] at lk1
            dsimp! [kak, lk1, isS, Option.isSome_none]
            have lo' : (ordU ord').length = ord'.length := by simp [ordU]
            have pu := nm_put mem (n := ord'.length) (by simp)
            simp_all! [kak, isS, lo', pu, numD_len]
            refine ⟨by simp [nmS]; omega, ?_⟩
            simp_all! []
            refine ⟨by omega, hN _ _ ⟨ord' ++ [kk], by simp only [stepOrd, if_neg mem]; simp, fun s sm => ?_, by simp [ordU], rfl⟩⟩
            rcases List.mem_append.mp sm with sm | sm
            · exact ob' s sm
            · rw [List.mem_singleton.mp sm]; exact kb
        · rintro _ _ ⟨o2, eo2, ob2, rfl, rfl⟩
          have km : K.getD kk 0 ∈ stepOrd (ord'.map fun s => K.getD s 0) (some (u, K.getD kk 0)) := by
            unfold stepOrd
            by_cases c3 : K.getD kk 0 ∈ ord'.map fun s => K.getD s 0 <;> simp only [c3, if_true, if_false]
            simp
          have lf := lineGo_facts (N := (seen [] K).length) (l := [some (u, K.getD kk 0)]) nd' (fun x mx => by
            obtain ⟨s, sm, rfl⟩ := List.mem_map.mp mx
            exact ck.lt (ob' s sm)) fun u' k' mk => by rw [List.mem_singleton] at mk; cases mk; exact klt
          simp only [lineGo, mapP] at lf e1 e2
          rw [← eo2] at km lf e1 e2
          have lk2 := nm_look lf.1 (c := K.getD kk 0)
          rw [if_pos km] at lk2
          simp_all! [kak, lk2, isS]
          refine ⟨by rw [List.length_map]; omega, ?_⟩
          refine hk2 _ _ ⟨o2, ln ++ [some (u, (o2.map fun s => K.getD s 0).idxOf (K.getD kk 0))], _, _, _, by simp [encP], rfl, lf.1, ob2, by simp; omega, fun p m => pm p (List.mem_cons_of_mem _ m), e1, ?_⟩
          rw [List.append_assoc]
          simp only [newP] at e2
          exact e2
    · rintro _ _ ⟨ord', ln, a', b', c2, rfl, rfl, nd', ob', lc, pm, e1, e2⟩
      simp only [lineGo, List.append_nil, List.map_nil] at e1 e2
      simp_all! []
      refine ⟨by rw [List.length_map]; omega, ?_⟩
      refine ⟨f, by omega, ord', ls ++ [ln], jk ++ [.lst (ln.map encP)], _, _, _, _, by simp [encL], rfl, nd', ob', by simp; omega, ?_⟩
      rw [e1, e2, List.length_append, List.length_singleton]
      exact eR
  · have cc' : ¬ ((ls.length : Int) < ((ordU ord).length : Int)) := by omega
    rw [numGo_none (by rw [List.length_map]; omega)] at eR
    have eR' : ls = R := eR
    simp only [cc', decide_false, Bool.false_eq_true, if_false]
    simp_all! []
    rw [← eR'] at q
    refine stl_pure ?_ q
    have lm := least_mok m ck
    rw [hR, ← eR'] at lm
    exact lm.pt ro
end
end Pl.Ma
set_option Elab.async false
set_option linter.all false
set_option maxRecDepth 100000
set_option autoImplicit false
/-! classes are told by the machine alone; least machines of machines that map onto each other. -/
namespace Pl.Ma
open PySem Pl L2 Pl.Eq Pl.Tp
local macro_rules | `(tactic| simp_all! [$as,*]) => `(tactic| ((try dsimp only); rw [Pl.Eq.ss_cons]; simp only [Pl.Eq.e_cst, Pl.Eq.b_cst, Pl.Eq.e_var, Pl.Eq.b_var, Pl.Eq.e_bin, Pl.Eq.b_bin, Pl.Eq.e_neg, Pl.Eq.e_not, Pl.Eq.b_not, Pl.Eq.e_bop, Pl.Eq.b_bop, Pl.Eq.e_cmp, Pl.Eq.b_cmp, Pl.Eq.e_cmp2, Pl.Eq.b_cmp2, Pl.Eq.e_ife, Pl.Eq.b_ife, Pl.Eq.e_call, Pl.Eq.b_call, Pl.Eq.e_bi, Pl.Eq.b_bi, Pl.Eq.e_isi, Pl.Eq.b_isi, Pl.Eq.e_mth, Pl.Eq.e_ix, Pl.Eq.b_ix, Pl.Eq.e_sl, Pl.Eq.e_tup, Pl.Eq.e_lst, Pl.Eq.e_lc, Pl.Eq.e_lc2, Pl.Eq.e_lrg, Pl.Eq.e_dic, Pl.Eq.es_nil, Pl.Eq.es_cons, Pl.Eq.o_none, Pl.Eq.o_some, Pl.Eq.bb_nil, Pl.Eq.bb_cons, Pl.Eq.bo_one, Pl.Eq.bo_cons, Pl.Eq.f_nil, Pl.Eq.f_cons, Pl.Eq.i_val, Pl.Eq.i_rng1, Pl.Eq.i_rng2, Pl.Eq.i_rng3, Pl.Eq.i_enum, Pl.Eq.t_nm, Pl.Eq.t_tp, Pl.Eq.ts_nil, Pl.Eq.ts_cons, Pl.Eq.t_sub, Pl.Eq.s_expr, Pl.Eq.s_asg, Pl.Eq.s_par, Pl.Eq.s_aug, Pl.Eq.s_ret, Pl.Eq.s_retN, Pl.Eq.s_ifs, Pl.Eq.s_fr, Pl.Eq.s_brk, Pl.Eq.s_cnt, Pl.Eq.s_pass, Pl.Eq.ss_nil, Pl.Eq.p_addI, Pl.Eq.p_addT, Pl.Eq.p_subI, Pl.Eq.p_mulI, Pl.Eq.p_fdivI, Pl.Eq.p_modI, Pl.Eq.p_powI, Pl.Eq.p_lt, Pl.Eq.p_le, Pl.Eq.p_gt, Pl.Eq.p_ge, Pl.Eq.p_eq, Pl.Eq.p_ne, Pl.Eq.p_isN, Pl.Eq.p_notN, Pl.Eq.p_isB, Pl.Eq.p_notB, Pl.Eq.t_bl, Pl.Eq.t_int, Pl.Eq.t_tup, Pl.Eq.t_lst, Pl.Eq.mk_t, Pl.Eq.mk_f, Pl.Eq.i_non_tup, Pl.Eq.i_non_lst, Pl.Eq.i_non_int, Pl.Eq.i_non_bl, Pl.Eq.i_non_str, Pl.Eq.i_non_dic, Pl.Eq.i_bl_tup, Pl.Eq.i_bl_lst, Pl.Eq.i_bl_int, Pl.Eq.i_bl_bl, Pl.Eq.i_bl_str, Pl.Eq.i_bl_dic, Pl.Eq.i_int_tup, Pl.Eq.i_int_lst, Pl.Eq.i_int_int, Pl.Eq.i_int_bl, Pl.Eq.i_int_str, Pl.Eq.i_int_dic, Pl.Eq.i_str_tup, Pl.Eq.i_str_lst, Pl.Eq.i_str_int, Pl.Eq.i_str_bl, Pl.Eq.i_str_str, Pl.Eq.i_str_dic, Pl.Eq.i_tup_tup, Pl.Eq.i_tup_lst, Pl.Eq.i_tup_int, Pl.Eq.i_tup_bl, Pl.Eq.i_tup_str, Pl.Eq.i_tup_dic, Pl.Eq.i_lst_tup, Pl.Eq.i_lst_lst, Pl.Eq.i_lst_int, Pl.Eq.i_lst_bl, Pl.Eq.i_lst_str, Pl.Eq.i_lst_dic, Pl.Eq.n_non, Pl.Eq.n_bl, Pl.Eq.n_int, Pl.Eq.n_str, Pl.Eq.n_tup, Pl.Eq.n_lst, Pl.Eq.p_slT, Pl.Eq.p_lenT, Pl.Eq.p_lenL, Pl.Eq.p_lenR, Pl.Eq.p_intI, Pl.Eq.p_tuple, Pl.Eq.p_list, Pl.Eq.p_sorted, Pl.Eq.p_max1, Pl.Eq.p_min1, Pl.Eq.p_min, Pl.Eq.p_intB, Pl.Eq.p_mulT, Pl.Eq.p_addLL, Pl.Eq.p_slL, Pl.Eq.it_tup, Pl.Eq.it_lst, Pl.Eq.it_ro, Pl.Eq.si_lst, Pl.Eq.p_all, Pl.Eq.p_any, Pl.Eq.p_max, Pl.Eq.q_tup, Pl.Eq.q_lst, Pl.Eq.q_ro, Pl.Eq.l_lst, Pl.Eq.src_tup, Pl.Eq.src_lst, Pl.Eq.src_ro, Pl.Eq.src_mr, Pl.Eq.atP_some, Pl.Eq.x_tup_, Pl.Eq.x_lst_, Pl.Eq.x_ro_, Pl.Eq.seq_mr, Pl.Eq.lst_mr, Pl.Eq.dic_mr, Pl.Eq.tru_mr, Pl.Eq.it_mr, Pl.Eq.si_mr, Pl.Eq.x_mr, Pl.Eq.set_mr, Pl.Eq.len_mr, Pl.Eq.in_mr, Pl.Eq.nin_mr, Pl.Eq.ty_mr, Pl.Eq.mt_app, Pl.Eq.mt_p0, Pl.Eq.mt_p1, Pl.Eq.mt_ex, Pl.Eq.mt_in, Pl.Eq.mt_g1, Pl.Eq.mt_g2, Pl.Eq.oL_seq, Pl.Eq.oL_tru, Pl.Eq.oL_it, Pl.Eq.oL_ix, Pl.Eq.oL_set, Pl.Eq.oL_len, Pl.Eq.oL_in, Pl.Eq.oL_tyA, Pl.Eq.oL_tyI, Pl.Eq.oL_tyP, Pl.Eq.oL_tyQ, Pl.Eq.oL_tyE, Pl.Eq.oL_tyN, Pl.Eq.oL_app, Pl.Eq.oL_p0, Pl.Eq.oL_p1, Pl.Eq.oL_ex, Pl.Eq.oL_ins, Pl.Eq.oD_dic, Pl.Eq.oL_dic, Pl.Eq.oD_it, Pl.Eq.oD_ix, Pl.Eq.oD_set, Pl.Eq.oD_len, Pl.Eq.oD_in, Pl.Eq.oD_tyG, Pl.Eq.oD_tyH, Pl.Eq.oD_g1, Pl.Eq.oD_g2, Pl.Eq.fx_get, Pl.Eq.fx_get0, Pl.Eq.fx_set, Pl.Eq.fx_set0, Pl.Eq.fx_getS, Pl.Eq.fx_getS0, Pl.Eq.fx_setS, Pl.Eq.fx_setS0, Pl.Eq.at_nat, Pl.Eq.at_0, Pl.Eq.at_1, Pl.Eq.at_2, Pl.Eq.at_3, Pl.Eq.at_4, Pl.Eq.at_last, Pl.Eq.sz, Pl.Eq.ixN_0, Pl.Eq.ixN_1, Pl.Eq.ixN_2, Pl.Eq.ixN_3, Pl.Eq.ixN_4, List.getElem?_cons_zero, List.getElem?_cons_succ, List.set_cons_zero, List.set_cons_succ, Option.some.injEq, exists_eq_left, exists_eq_left', U.int.injEq, U.bl.injEq, U.tup.injEq, U.lst.injEq, Int.zero_add, Nat.reduceLeDiff, List.cons_append, List.nil_append, false_and, exists_false, exists_const, false_or, or_false, Pl.T.own, Pl.Ts.own, Pl.Ts.len, wipeU, Pl.Eq.eqI, Pl.Eq.eqB, beq_self_eq_true, Bool.not_true, Bool.not_false, Bool.false_eq_true, Bool.true_eq_false, reduceCtorEq, decide_true, decide_false, List.length_cons, List.length_nil, Nat.zero_add, Nat.reduceAdd, Nat.reduceLT, if_true, if_false, reduceIte, true_and, and_true, List.set_set, List.append_assoc, List.length_append, List.length_set, Nat.add_zero, List.append_nil, $as,*]))
local macro_rules | `(tactic| dsimp! [$as,*]) => `(tactic| (try simp only [Pl.Eq.e_cst, Pl.Eq.b_cst, Pl.Eq.e_var, Pl.Eq.b_var, Pl.Eq.e_bin, Pl.Eq.b_bin, Pl.Eq.e_neg, Pl.Eq.e_not, Pl.Eq.b_not, Pl.Eq.e_bop, Pl.Eq.b_bop, Pl.Eq.e_cmp, Pl.Eq.b_cmp, Pl.Eq.e_cmp2, Pl.Eq.b_cmp2, Pl.Eq.e_ife, Pl.Eq.b_ife, Pl.Eq.e_call, Pl.Eq.b_call, Pl.Eq.e_bi, Pl.Eq.b_bi, Pl.Eq.e_isi, Pl.Eq.b_isi, Pl.Eq.e_mth, Pl.Eq.e_ix, Pl.Eq.b_ix, Pl.Eq.e_sl, Pl.Eq.e_tup, Pl.Eq.e_lst, Pl.Eq.e_lc, Pl.Eq.e_lc2, Pl.Eq.e_lrg, Pl.Eq.e_dic, Pl.Eq.es_nil, Pl.Eq.es_cons, Pl.Eq.o_none, Pl.Eq.o_some, Pl.Eq.bb_nil, Pl.Eq.bb_cons, Pl.Eq.bo_one, Pl.Eq.bo_cons, Pl.Eq.f_nil, Pl.Eq.f_cons, Pl.Eq.i_val, Pl.Eq.i_rng1, Pl.Eq.i_rng2, Pl.Eq.i_rng3, Pl.Eq.i_enum, Pl.Eq.t_nm, Pl.Eq.t_tp, Pl.Eq.ts_nil, Pl.Eq.ts_cons, Pl.Eq.t_sub, Pl.Eq.s_expr, Pl.Eq.s_asg, Pl.Eq.s_par, Pl.Eq.s_aug, Pl.Eq.s_ret, Pl.Eq.s_retN, Pl.Eq.s_ifs, Pl.Eq.s_fr, Pl.Eq.s_brk, Pl.Eq.s_cnt, Pl.Eq.s_pass, Pl.Eq.ss_nil, Pl.Eq.p_addI, Pl.Eq.p_addT, Pl.Eq.p_subI, Pl.Eq.p_mulI, Pl.Eq.p_fdivI, Pl.Eq.p_modI, Pl.Eq.p_powI, Pl.Eq.p_lt, Pl.Eq.p_le, Pl.Eq.p_gt, Pl.Eq.p_ge, Pl.Eq.p_eq, Pl.Eq.p_ne, Pl.Eq.p_isN, Pl.Eq.p_notN, Pl.Eq.p_isB, Pl.Eq.p_notB, Pl.Eq.t_bl, Pl.Eq.t_int, Pl.Eq.t_tup, Pl.Eq.t_lst, Pl.Eq.mk_t, Pl.Eq.mk_f, Pl.Eq.i_non_tup, Pl.Eq.i_non_lst, Pl.Eq.i_non_int, Pl.Eq.i_non_bl, Pl.Eq.i_non_str, Pl.Eq.i_non_dic, Pl.Eq.i_bl_tup, Pl.Eq.i_bl_lst, Pl.Eq.i_bl_int, Pl.Eq.i_bl_bl, Pl.Eq.i_bl_str, Pl.Eq.i_bl_dic, Pl.Eq.i_int_tup, Pl.Eq.i_int_lst, Pl.Eq.i_int_int, Pl.Eq.i_int_bl, Pl.Eq.i_int_str, Pl.Eq.i_int_dic, Pl.Eq.i_str_tup, Pl.Eq.i_str_lst, Pl.Eq.i_str_int, Pl.Eq.i_str_bl, Pl.Eq.i_str_str, Pl.Eq.i_str_dic, Pl.Eq.i_tup_tup, Pl.Eq.i_tup_lst, Pl.Eq.i_tup_int, Pl.Eq.i_tup_bl, Pl.Eq.i_tup_str, Pl.Eq.i_tup_dic, Pl.Eq.i_lst_tup, Pl.Eq.i_lst_lst, Pl.Eq.i_lst_int, Pl.Eq.i_lst_bl, Pl.Eq.i_lst_str, Pl.Eq.i_lst_dic, Pl.Eq.n_non, Pl.Eq.n_bl, Pl.Eq.n_int, Pl.Eq.n_str, Pl.Eq.n_tup, Pl.Eq.n_lst, Pl.Eq.p_slT, Pl.Eq.p_lenT, Pl.Eq.p_lenL, Pl.Eq.p_lenR, Pl.Eq.p_intI, Pl.Eq.p_tuple, Pl.Eq.p_list, Pl.Eq.p_sorted, Pl.Eq.p_max1, Pl.Eq.p_min1, Pl.Eq.p_min, Pl.Eq.p_intB, Pl.Eq.p_mulT, Pl.Eq.p_addLL, Pl.Eq.p_slL, Pl.Eq.it_tup, Pl.Eq.it_lst, Pl.Eq.it_ro, Pl.Eq.si_lst, Pl.Eq.p_all, Pl.Eq.p_any, Pl.Eq.p_max, Pl.Eq.q_tup, Pl.Eq.q_lst, Pl.Eq.q_ro, Pl.Eq.l_lst, Pl.Eq.src_tup, Pl.Eq.src_lst, Pl.Eq.src_ro, Pl.Eq.src_mr, Pl.Eq.atP_some, Pl.Eq.x_tup_, Pl.Eq.x_lst_, Pl.Eq.x_ro_, Pl.Eq.seq_mr, Pl.Eq.lst_mr, Pl.Eq.dic_mr, Pl.Eq.tru_mr, Pl.Eq.it_mr, Pl.Eq.si_mr, Pl.Eq.x_mr, Pl.Eq.set_mr, Pl.Eq.len_mr, Pl.Eq.in_mr, Pl.Eq.nin_mr, Pl.Eq.ty_mr, Pl.Eq.mt_app, Pl.Eq.mt_p0, Pl.Eq.mt_p1, Pl.Eq.mt_ex, Pl.Eq.mt_in, Pl.Eq.mt_g1, Pl.Eq.mt_g2, Pl.Eq.oL_seq, Pl.Eq.oL_tru, Pl.Eq.oL_it, Pl.Eq.oL_ix, Pl.Eq.oL_set, Pl.Eq.oL_len, Pl.Eq.oL_in, Pl.Eq.oL_tyA, Pl.Eq.oL_tyI, Pl.Eq.oL_tyP, Pl.Eq.oL_tyQ, Pl.Eq.oL_tyE, Pl.Eq.oL_tyN, Pl.Eq.oL_app, Pl.Eq.oL_p0, Pl.Eq.oL_p1, Pl.Eq.oL_ex, Pl.Eq.oL_ins, Pl.Eq.oD_dic, Pl.Eq.oL_dic, Pl.Eq.oD_it, Pl.Eq.oD_ix, Pl.Eq.oD_set, Pl.Eq.oD_len, Pl.Eq.oD_in, Pl.Eq.oD_tyG, Pl.Eq.oD_tyH, Pl.Eq.oD_g1, Pl.Eq.oD_g2, Pl.Eq.fx_get, Pl.Eq.fx_get0, Pl.Eq.fx_set, Pl.Eq.fx_set0, Pl.Eq.fx_getS, Pl.Eq.fx_getS0, Pl.Eq.fx_setS, Pl.Eq.fx_setS0, Pl.Eq.at_nat, Pl.Eq.at_0, Pl.Eq.at_1, Pl.Eq.at_2, Pl.Eq.at_3, Pl.Eq.at_4, Pl.Eq.at_last, Pl.Eq.sz, Pl.Eq.ixN_0, Pl.Eq.ixN_1, Pl.Eq.ixN_2, Pl.Eq.ixN_3, Pl.Eq.ixN_4, List.getElem?_cons_zero, List.getElem?_cons_succ, List.set_cons_zero, List.set_cons_succ, Option.some.injEq, exists_eq_left, exists_eq_left', U.int.injEq, U.bl.injEq, U.tup.injEq, U.lst.injEq, Int.zero_add, Nat.reduceLeDiff, List.cons_append, List.nil_append, false_and, exists_false, exists_const, false_or, or_false, Pl.T.own, Pl.Ts.own, Pl.Ts.len, wipeU, Pl.Eq.eqI, Pl.Eq.eqB, beq_self_eq_true, Bool.not_true, Bool.not_false, Bool.false_eq_true, Bool.true_eq_false, reduceCtorEq, decide_true, decide_false, List.length_cons, List.length_nil, Nat.zero_add, Nat.reduceAdd, Nat.reduceLT, if_true, if_false, reduceIte, true_and, and_true, List.set_set, List.append_assoc, List.length_append, List.length_set, Nat.add_zero, List.append_nil, $as,*]))
theorem leaf_sm {x : U} (h : leaf x) : sm 1 x := by
  cases x <;> first | exact h | trivial | exact h.elim
theorem mac_sm {c w : Nat} {t : Tb} {rs : List U} (m : MOk c w t) (hc : c ≤ 1000) (hw : w ≤ 1000) (r : RsOk rs) : sm 12 (.tup [.tup rs, encT t]) := by
  refine ⟨show 2 ≤ sizeLine by decide, fun x mx => ?_⟩
  simp only [List.mem_cons, List.not_mem_nil, or_false] at mx
  have sz : ∀ {k : Nat}, k ≤ 1000 → k ≤ sizeLine := fun h => Nat.le_trans h (by decide)
  rcases mx with rfl | rfl
  · exact sm_mono (by decide) r.m
  · refine ⟨by rw [List.length_map]; exact sz m.wf.s, fun l lm => ?_⟩
    obtain ⟨l, lm', rfl⟩ := List.mem_map.mp lm
    refine ⟨by rw [List.length_map, m.wf.len l lm']; exact sz hw, fun p pm => ?_⟩
    obtain ⟨p, pm', rfl⟩ := List.mem_map.mp pm
    cases p with
    | none => trivial
    | some p =>
      obtain ⟨xs, e, lx, hx⟩ := m.out l lm' p.1 p.2 pm'
      refine ⟨show 2 ≤ sizeLine by decide, fun y my => ?_⟩
      simp only [List.mem_cons, List.not_mem_nil, or_false] at my
      rcases my with rfl | rfl
      · rw [e]
        exact ⟨sz (by omega), fun z mz => sm_mono (by decide) (leaf_sm (hx z mz))⟩
      · trivial
theorem ord_sm {K : List Nat} (h : K.length ≤ 1000) : sm 2 (.tup (ordU K)) := ⟨by unfold ordU; rw [List.length_map]; exact Nat.le_trans h (by decide), fun x m => by
  obtain ⟨k, _, rfl⟩ := List.mem_map.mp m
  trivial⟩
/-! numbers by pattern -/
theorem ordN_pat {K K' : List Nat} (l : K.length = K'.length) (h : ∀ i j, i < K.length → j < K.length → (K.getD i 0 = K.getD j 0 ↔ K'.getD i 0 = K'.getD j 0)) : ordN K = ordN K' := by
  have z1 : (K.zip K').map (·.1) = K := by rw [List.map_fst_zip (by omega)]
  have z2 : (K.zip K').map (·.2) = K' := by rw [List.map_snd_zip (by omega)]
  have key : ∀ a ∈ K.zip K', ∀ b ∈ K.zip K', (a.1 = b.1 ↔ a.2 = b.2) := fun a ma b mb => by
    obtain ⟨i, hi, ei⟩ := List.mem_iff_getElem.mp ma
    obtain ⟨j, hj, ej⟩ := List.mem_iff_getElem.mp mb
    have hi' : i < K.length := by simp at hi; omega
    have hj' : j < K.length := by simp at hj; omega
    have := h i j hi' hj'
    rw [← ei, ← ej]
    simp only [List.getElem_zip]
    simpa [List.getD, List.getElem?_eq_getElem hi', List.getElem?_eq_getElem hj', List.getElem?_eq_getElem (l ▸ hi' : i < K'.length), List.getElem?_eq_getElem (l ▸ hj' : j < K'.length)] using this
  have i1 := (ordN_inj (φ := fun p : Nat × Nat => p.1) (ks := K.zip K') fun a ma b mb e => Prod.ext e ((key a ma b mb).mp e)).1
  have i2 := (ordN_inj (φ := fun p : Nat × Nat => p.2) (ks := K.zip K') fun a ma b mb e => Prod.ext ((key a ma b mb).mpr e) e).1
  rw [z1] at i1
  rw [z2] at i2
  rw [i1, i2]
/-- equal classes: a likeness -/
theorem ClsOk.bis {c w : Nat} {t : Tb} {K : List Nat} (m : MOk c w t) (hc : c ≤ 1000) (k : ClsOk t K) : Bis t fun i j => i < t.length ∧ j < t.length ∧ K.getD i 0 = K.getD j 0 := fun i j ⟨hi, hj, e⟩ => by
  have s := k.same m hc hi hj e
  refine ⟨?_, fun r u x v y h1 h2 => ?_⟩
  · have := congrArg (fun l => l.map (·.map (·.1))) s
    simp only [List.map_map] at this
    have f : (fun p : Pc => p.map (·.1)) = ((fun p : Pc => p.map (·.1)) ∘ mapP K) := by
      funext p
      cases p <;> rfl
    rw [f]
    exact this
  · have mi : t.getD i [] ∈ t := by rw [getD_lt hi]; exact List.getElem_mem hi
    have mj : t.getD j [] ∈ t := by rw [getD_lt hj]; exact List.getElem_mem hj
    refine ⟨(m.wf.pl _ mi u x (List.mem_of_getElem? h1)).2, (m.wf.pl _ mj v y (List.mem_of_getElem? h2)).2, ?_⟩
    have := congrArg (fun l => l[r]?) s
    simp only [List.getElem?_map, h1, h2, Option.map_some, mapP] at this
    injection this with this
    injection this with this
    exact (Prod.mk.inj this).2
theorem ClsOk.uniq {c w : Nat} {t : Tb} {K K' : List Nat} (m : MOk c w t) (hc : c ≤ 1000) (k : ClsOk t K) (k' : ClsOk t K') : K = K' := by
  rw [← k.nm, ← k'.nm]
  refine ordN_pat (by rw [k.len, k'.len]) fun i j hi hj => ?_
  rw [k.len] at hi hj
  exact ⟨fun e => k'.co _ (k.bis m hc) i j hi hj ⟨hi, hj, e⟩, fun e => k.co _ (k'.bis m hc) i j hi hj ⟨hi, hj, e⟩⟩
/-! what renumbering gives -/
def mapO (o : List Nat) : Pc → Pc := mapF fun k => o.idxOf k
theorem lineGo_spec : ∀ {l : List Pc} {ord : List Nat}, ∃ X, (lineGo ord l).1 = ord ++ X ∧ (lineGo ord l).2 = l.map (mapO (ord ++ X)) ∧ (∀ u k, some (u, k) ∈ l → k ∈ ord ++ X) ∧ ∀ x ∈ X, ∃ u, some (u, x) ∈ l
  | [], ord => ⟨[], by simp [lineGo], by simp [lineGo], by simp, by simp⟩
  | none :: ps, ord => by
    obtain ⟨X, a, b, c, d⟩ := lineGo_spec (l := ps) (ord := ord)
    refine ⟨X, a, ?_, fun u k m => c u k (by simpa using m), fun x m => (d x m).imp fun _ z => List.mem_cons_of_mem _ z⟩
    simp only [lineGo, stepOrd, newP, List.map_cons]
    rw [b]
    rfl
  | some (u, k) :: ps, ord => by
    obtain ⟨X, a, b, c, d⟩ := lineGo_spec (l := ps) (ord := stepOrd ord (some (u, k)))
    have e : ∃ Y, stepOrd ord (some (u, k)) = ord ++ Y ∧ k ∈ ord ++ Y ∧ ∀ y ∈ Y, y = k := by
      unfold stepOrd
      by_cases m : k ∈ ord
      · exact ⟨[], by simp [m], by simpa using m, by simp⟩
      · exact ⟨[k], by simp [m], by simp, by simp⟩
    obtain ⟨Y, e1, e2, e3⟩ := e
    rw [e1] at a b c
    refine ⟨Y ++ X, by simp only [lineGo]; rw [e1, a, List.append_assoc], ?_, fun v j m => ?_, fun x m => ?_⟩
    · simp only [lineGo, newP, List.map_cons]
      rw [e1, b, List.append_assoc]
      congr 1
      show some (u, (ord ++ Y).idxOf k) = some (u, (ord ++ (Y ++ X)).idxOf k)
      rw [← List.append_assoc, idx_pre e2]
    · rw [← List.append_assoc]
      rcases List.mem_cons.mp m with z | z
      · cases z
        exact List.mem_append_left _ e2
      · exact c v j z
    · rcases List.mem_append.mp m with m | m
      · rw [e3 x m]
        exact ⟨u, List.mem_cons_self⟩
      · exact (d x m).imp fun _ z => List.mem_cons_of_mem _ z
theorem mapO_ext {o X : List Nat} {l : List Pc} (h : ∀ u k, some (u, k) ∈ l → k ∈ o) : l.map (mapO (o ++ X)) = l.map (mapO o) := by
  refine List.map_congr_left fun p m => ?_
  cases p with
  | none => rfl
  | some p =>
    show some (p.1, (o ++ X).idxOf p.2) = some (p.1, o.idxOf p.2)
    rw [idx_pre (h p.1 p.2 m)]
/-- on the way -/
structure NG (T : Tb) (i : Nat) (ord : List Nat) (ls : Tb) : Prop where
  nd : ord.Nodup
  ob : ∀ k ∈ ord, k < T.length
  il : ls.length = min i ord.length
  at_ : ∀ j, j < i → ∀ s, ord[j]? = some s → ls[j]? = some ((T.getD s []).map (mapO ord)) ∧ ∀ u k, some (u, k) ∈ T.getD s [] → k ∈ ord
  z : ord[0]? = some 0
  mn : ∀ S : Nat → Prop, S 0 → (∀ s, S s → ∀ u k, some (u, k) ∈ T.getD s [] → S k) → ∀ s ∈ ord, S s
theorem numGo_ng {T : Tb} {w : Nat} (wf : Wf w T) : ∀ {f i : Nat} {ord : List Nat} {ls : Tb}, NG T i ord ls → NG T (i + f) (numGo T f i ord ls).1 (numGo T f i ord ls).2
  | 0, i, ord, ls, h => h
  | f + 1, i, ord, ls, h => by
    unfold numGo
    cases eo : ord[i]? with
    | none =>
      simp only
      have hi := List.getElem?_eq_none_iff.mp eo
      have := numGo_ng wf (f := f) (i := i + 1) (ord := ord) (ls := ls) { h with il := by rw [h.il]; omega, at_ := (fun j hj s e => by
        by_cases c : j < i
        · exact h.at_ j c s e
        · rw [List.getElem?_eq_none (by omega)] at e; cases e) }
      rw [show i + 1 + f = i + (f + 1) by omega] at this
      exact this
    | some s =>
      simp only
      have hi : i < ord.length := (List.getElem?_eq_some_iff.mp eo).1
      have hs : s < T.length := h.ob s (List.mem_of_getElem? eo)
      have lm : T.getD s [] ∈ T := by rw [getD_lt hs]; exact List.getElem_mem hs
      obtain ⟨X, a, b, c, d⟩ := lineGo_spec (l := T.getD s []) (ord := ord)
      obtain ⟨f1, f2, f3⟩ := lineGo_facts (l := T.getD s []) h.nd h.ob fun u k m => (wf.pl _ lm u k m).2
      rw [a] at f1 f2
      have hl : ls.length = i := by rw [h.il]; omega
      have := numGo_ng wf (f := f) (i := i + 1) (ord := (lineGo ord (T.getD s [])).1) (ls := ls ++ [(lineGo ord (T.getD s [])).2]) (by
        rw [a, b]
        refine ⟨f1, f2, by simp [hl]; omega, fun j hj s' e => ?_, ?_, fun S s0 cl x mx => ?_⟩
        · by_cases c1 : j < i
          · rw [List.getElem?_append_left (by omega)] at e
            obtain ⟨g1, g2⟩ := h.at_ j c1 s' e
            refine ⟨?_, fun u k m => List.mem_append_left _ (g2 u k m)⟩
            rw [List.getElem?_append_left (by omega), g1, mapO_ext g2]
          · have : j = i := by omega
            subst this
            rw [List.getElem?_append_left hi, eo] at e
            cases e
            refine ⟨?_, c⟩
            rw [← hl]
            simp
        · rw [List.getElem?_append_left (by omega)]
          exact h.z
        · rcases List.mem_append.mp mx with mx | mx
          · exact h.mn S s0 cl x mx
          · obtain ⟨u, mu⟩ := d x mx
            exact cl s (h.mn S s0 cl s (List.mem_of_getElem? eo)) u x mu)
      rw [show i + 1 + f = i + (f + 1) by omega] at this
      exact this
theorem numb_ng {T : Tb} {w : Nat} (wf : Wf w T) : NG T T.length (numGo T T.length 0 [0] []).1 (numb T) := by
  have t0 : 0 < T.length := List.length_pos_iff.mpr wf.ne
  have := numGo_ng wf (f := T.length) (i := 0) (ord := [0]) (ls := []) ⟨by simp, by simpa using t0, by simp, fun j hj => by omega, rfl, fun S s0 _ s m => by rw [List.mem_singleton.mp m]; exact s0⟩
  rw [Nat.zero_add] at this
  exact this
/-- all that is told of a renumbered machine -/
structure NF (T : Tb) (ord : List Nat) : Prop where
  nd : ord.Nodup
  ob : ∀ k ∈ ord, k < T.length
  len : (numb T).length = ord.length
  at_ : ∀ s ∈ ord, (numb T).getD (ord.idxOf s) [] = (T.getD s []).map (mapO ord)
  cl : ∀ s ∈ ord, ∀ u k, some (u, k) ∈ T.getD s [] → k ∈ ord
  z : ord[0]? = some 0
  mn : ∀ S : Nat → Prop, S 0 → (∀ s, S s → ∀ u k, some (u, k) ∈ T.getD s [] → S k) → ∀ s ∈ ord, S s
theorem numb_nf {T : Tb} {w : Nat} (wf : Wf w T) : ∃ ord, NF T ord := by
  have h := numb_ng wf
  have l := nodup_le h.nd h.ob
  have key : ∀ s, s ∈ (numGo T T.length 0 [0] []).1 → ((numGo T T.length 0 [0] []).1)[((numGo T T.length 0 [0] []).1).idxOf s]? = some s := fun s m => by
    have := List.idxOf_lt_length_of_mem m
    rw [List.getElem?_eq_getElem this, List.getElem_idxOf this]
  refine ⟨_, h.nd, h.ob, by rw [h.il]; omega, fun s m => ?_, fun s m => ?_, h.z, h.mn⟩
  · have i := List.idxOf_lt_length_of_mem m
    have := (h.at_ _ (by omega) s (key s m)).1
    simp [List.getD, this]
  · have i := List.idxOf_lt_length_of_mem m
    exact (h.at_ _ (by omega) s (key s m)).2
/-- a numbered machine: all its states are reached -/
theorem num_all {t : Tb} {w : Nat} (wf : Wf w t) (h : numB t = true) {S : Nat → Prop} (s0 : S 0) (cl : ∀ s, S s → ∀ u k, some (u, k) ∈ t.getD s [] → S k) : ∀ s, s < t.length → S s := by
  obtain ⟨ord, f⟩ := numb_nf wf
  have e := f.len
  rw [numb_id h] at e
  intro s hs
  refine f.mn S s0 cl s ?_
  rcases Decidable.em (s ∈ ord) with m | m
  · exact m
  · have : (s :: ord).Nodup := List.nodup_cons.mpr ⟨m, f.nd⟩
    have := nodup_le this fun x mx => by
      rcases List.mem_cons.mp mx with rfl | mx
      · exact hs
      · exact f.ob x mx
    rw [List.length_cons] at this
    omega
/-! maps between machines -/
theorem numGo_s {T : Tb} {f i s : Nat} {ord : List Nat} {ls : Tb} (e : ord[i]? = some s) : numGo T (f + 1) i ord ls = numGo T f (i + 1) (lineGo ord (T.getD s [])).1 (ls ++ [(lineGo ord (T.getD s [])).2]) := by
  show (match ord[i]? with | some s => _ | none => _) = _
  rw [e]
theorem numGo_n {T : Tb} {f i : Nat} {ord : List Nat} {ls : Tb} (e : ord[i]? = none) : numGo T (f + 1) i ord ls = numGo T f (i + 1) ord ls := by
  show (match ord[i]? with | some s => _ | none => _) = _
  rw [e]
theorem numGo_add {T : Tb} : ∀ {f g i : Nat} {ord : List Nat} {ls : Tb}, numGo T (f + g) i ord ls = numGo T g (i + f) (numGo T f i ord ls).1 (numGo T f i ord ls).2
  | 0, g, i, ord, ls => by rw [Nat.zero_add]; rfl
  | f + 1, g, i, ord, ls => by
    rw [show f + 1 + g = (f + g) + 1 by omega]
    cases e : ord[i]? with
    | none => rw [numGo_n e, numGo_n e, numGo_add, show i + 1 + f = i + (f + 1) by omega]
    | some s => rw [numGo_s e, numGo_s e, numGo_add, show i + 1 + f = i + (f + 1) by omega]
theorem numb_more {T : Tb} {w : Nat} (wf : Wf w T) (g : Nat) : (numGo T (T.length + g) 0 [0] []).2 = numb T := by
  have h := numb_ng wf
  have l := nodup_le h.nd h.ob
  rw [numGo_add, numGo_none (by omega)]
  rfl
theorem lineGo_hom {σ : Nat → Nat} {N : Nat} (inj : ∀ a b, a < N → b < N → σ a = σ b → a = b) : ∀ {l : List Pc} {ord : List Nat}, (∀ x ∈ ord, x < N) → (∀ u k, some (u, k) ∈ l → k < N) →
    lineGo (ord.map σ) (l.map (mapF σ)) = ((lineGo ord l).1.map σ, (lineGo ord l).2)
  | [], ord, _, _ => rfl
  | none :: ps, ord, ho, hl => by
    have ih := lineGo_hom inj (l := ps) ho fun u k m => hl u k (List.mem_cons_of_mem _ m)
    simp only [List.map_cons, mapF, lineGo, stepOrd, newP]
    rw [ih]
  | some (u, k) :: ps, ord, ho, hl => by
    have kN := hl u k List.mem_cons_self
    have mem : σ k ∈ ord.map σ ↔ k ∈ ord := ⟨fun m => by
      obtain ⟨x, xm, e⟩ := List.mem_map.mp m
      rw [← inj x k (ho x xm) kN e]; exact xm, fun m => List.mem_map.mpr ⟨k, m, rfl⟩⟩
    have st : stepOrd (ord.map σ) (some (u, σ k)) = (stepOrd ord (some (u, k))).map σ := by
      unfold stepOrd
      by_cases m : k ∈ ord
      · simp only [m, mem.mpr m, if_true]
      · have m' : σ k ∉ ord.map σ := fun z => m (mem.mp z)
        simp only [m, m', if_false]; simp
    have ho' : ∀ x ∈ stepOrd ord (some (u, k)), x < N := fun x mx => by
      simp only [stepOrd] at mx
      split at mx
      · exact ho x mx
      · rcases List.mem_append.mp mx with mx | mx
        · exact ho x mx
        · rw [List.mem_singleton.mp mx]; exact kN
    have km : k ∈ stepOrd ord (some (u, k)) := by
      simp only [stepOrd]
      split
      · assumption
      · simp
    have ih := lineGo_hom inj (l := ps) ho' fun v j m => hl v j (List.mem_cons_of_mem _ m)
    have ix : ((stepOrd ord (some (u, k))).map σ).idxOf (σ k) = (stepOrd ord (some (u, k))).idxOf k := by
      generalize stepOrd ord (some (u, k)) = o at *
      clear ih st mem
      induction o with
      | nil => cases km
      | cons a r ih =>
        rw [List.map_cons, List.idxOf_cons, List.idxOf_cons]
        by_cases c : a = k
        · subst c; simp
        · have c' : ¬ σ a = σ k := fun z => c (inj a k (ho' a List.mem_cons_self) kN z)
          have e1 : (a == k) = false := by simpa using c
          have e2 : (σ a == σ k) = false := by simpa using c'
          rw [e1, e2]
          have km' : k ∈ r := (List.mem_cons.mp km).resolve_left fun z => c z.symm
          rw [ih (fun x m => ho' x (List.mem_cons_of_mem _ m)) km']
    simp only [List.map_cons, mapF, lineGo, newP]
    rw [st, ih, ix]
theorem numGo_hom {σ : Nat → Nat} {w : Nat} {T T' : Tb} (wf : Wf w T) (inj : ∀ a b, a < T.length → b < T.length → σ a = σ b → a = b) (h : ∀ c, c < T.length → (T.getD c []).map (mapF σ) = T'.getD (σ c) []) : ∀ {f i : Nat} {ord : List Nat} {ls : Tb}, (∀ x ∈ ord, x < T.length) →
    (numGo T' f i (ord.map σ) ls).2 = (numGo T f i ord ls).2
  | 0, i, ord, ls, _ => rfl
  | f + 1, i, ord, ls, ho => by
    unfold numGo
    rw [List.getElem?_map]
    cases e : ord[i]? with
    | none => exact numGo_hom wf inj h ho
    | some s =>
      have hs := ho s (List.mem_of_getElem? e)
      have lm : T.getD s [] ∈ T := by rw [getD_lt hs]; exact List.getElem_mem hs
      simp only [Option.map_some]
      rw [← h s hs, lineGo_hom inj ho fun u k m => (wf.pl _ lm u k m).2]
      refine numGo_hom wf inj h fun x mx => ?_
      obtain ⟨X, a, _, _, d⟩ := lineGo_spec (l := T.getD s []) (ord := ord)
      rw [a] at mx
      rcases List.mem_append.mp mx with mx | mx
      · exact ho x mx
      · obtain ⟨u, mu⟩ := d x mx
        exact (wf.pl _ lm u x mu).2
/-- φ maps the states of t2 onto those of t -/
structure Hom (φ : Nat → Nat) (t2 t : Tb) : Prop where
  z : φ 0 = 0
  b : ∀ s, s < t2.length → φ s < t.length
  e : ∀ s, s < t2.length → (t2.getD s []).map (mapF φ) = t.getD (φ s) []
theorem map_at {φ : Nat → Nat} {l l' : List Pc} (h : l.map (mapF φ) = l') {r : Nat} {u : U} {k : Nat} (e : l[r]? = some (some (u, k))) : l'[r]? = some (some (u, φ k)) := by
  rw [← h, List.getElem?_map, e]; rfl
theorem map_at' {φ : Nat → Nat} {l l' : List Pc} (h : l.map (mapF φ) = l') {r : Nat} {u : U} {k : Nat} (e : l'[r]? = some (some (u, k))) : ∃ k0, l[r]? = some (some (u, k0)) ∧ k = φ k0 := by
  rw [← h, List.getElem?_map] at e
  obtain ⟨p, e1, e2⟩ := Option.map_eq_some_iff.mp e
  cases p with
  | none => cases e2
  | some p =>
    have : some (p.1, φ p.2) = some (u, k) := e2
    injection this with this
    injection this with t1 t2
    exact ⟨p.2, by rw [e1, ← t1], t2.symm⟩
theorem map_out {φ : Nat → Nat} {l : List Pc} : (l.map (mapF φ)).map (fun p => p.map (·.1)) = l.map (fun p => p.map (·.1)) := by
  rw [List.map_map]
  refine List.map_congr_left fun p _ => ?_
  cases p <;> rfl
theorem Hom.cls {c w : Nat} {φ : Nat → Nat} {t2 t : Tb} {K2 K : List Nat} (h : Hom φ t2 t) (m2 : MOk c w t2) (m : MOk c w t) (hc : c ≤ 1000) (k2 : ClsOk t2 K2) (k : ClsOk t K) {i j : Nat} (hi : i < t2.length) (hj : j < t2.length) :
    K2.getD i 0 = K2.getD j 0 ↔ K.getD (φ i) 0 = K.getD (φ j) 0 := by
  constructor
  · intro e
    refine k.co (fun u v => ∃ s s', u = φ s ∧ v = φ s' ∧ s < t2.length ∧ s' < t2.length ∧ K2.getD s 0 = K2.getD s' 0) ?_ _ _ (h.b i hi) (h.b j hj) ⟨i, j, rfl, rfl, hi, hj, e⟩
    rintro _ _ ⟨s, s', rfl, rfl, hs, hs', e⟩
    obtain ⟨o, b⟩ := (k2.bis m2 hc) s s' ⟨hs, hs', e⟩
    rw [← h.e s hs, ← h.e s' hs', map_out, map_out]
    refine ⟨o, fun r u x v y h1 h2 => ?_⟩
    obtain ⟨x0, g1, rfl⟩ := map_at' rfl h1
    obtain ⟨y0, g2, rfl⟩ := map_at' rfl h2
    obtain ⟨q1, q2, q3⟩ := b r u x0 v y0 g1 g2
    exact ⟨x0, y0, rfl, rfl, q1, q2, q3⟩
  · intro e
    refine k2.co (fun s s' => s < t2.length ∧ s' < t2.length ∧ K.getD (φ s) 0 = K.getD (φ s') 0) ?_ _ _ hi hj ⟨hi, hj, e⟩
    rintro s s' ⟨hs, hs', e⟩
    obtain ⟨o, b⟩ := (k.bis m hc) (φ s) (φ s') ⟨h.b s hs, h.b s' hs', e⟩
    rw [← h.e s hs, ← h.e s' hs', map_out, map_out] at o
    refine ⟨o, fun r u x v y h1 h2 => ?_⟩
    have ms : t2.getD s [] ∈ t2 := by rw [getD_lt hs]; exact List.getElem_mem hs
    have ms' : t2.getD s' [] ∈ t2 := by rw [getD_lt hs']; exact List.getElem_mem hs'
    obtain ⟨_, _, q3⟩ := b r u (φ x) v (φ y) (map_at (h.e s hs) h1) (map_at (h.e s' hs') h2)
    exact ⟨(m2.wf.pl _ ms u x (List.mem_of_getElem? h1)).2, (m2.wf.pl _ ms' v y (List.mem_of_getElem? h2)).2, q3⟩
theorem Hom.least {c w : Nat} {φ : Nat → Nat} {t2 t : Tb} {K2 K : List Nat} (h : Hom φ t2 t) (m2 : MOk c w t2) (m : MOk c w t) (hc : c ≤ 1000) (k2 : ClsOk t2 K2) (k : ClsOk t K) : least t2 K2 = least t K := by
  have q2 := (quo_wf m2 k2).1
  have q := (quo_wf m k).1
  have t20 : 0 < t2.length := List.length_pos_iff.mpr m2.wf.ne
  have hit : ∀ x, x < (quo t2 K2).length → ∃ s, s < t2.length ∧ K2.getD s 0 = x := fun x hx => by
    rw [quo_len] at hx
    obtain ⟨i, hi, e⟩ := ordN_hit hx
    rw [k2.nm] at e
    exact ⟨i, by rw [← k2.len]; exact hi, e⟩
  have hσ : ∀ s, s < t2.length → K.getD (φ (K2.idxOf (K2.getD s 0))) 0 = K.getD (φ s) 0 := fun s hs => by
    have hk : s < K2.length := by rw [k2.len]; exact hs
    have mem : K2.getD s 0 ∈ K2 := by simp [List.getD, List.getElem?_eq_getElem hk]
    have li := List.idxOf_lt_length_of_mem mem
    refine (h.cls m2 m hc k2 k (by rw [← k2.len]; exact li) hs).mp ?_
    generalize K2.getD s 0 = x at li
    simp only [List.getD, List.getElem?_eq_getElem li, Option.getD_some]
    rw [List.getElem_idxOf li]
  have go := numGo_hom (σ := fun x => K.getD (φ (K2.idxOf x)) 0) (T := quo t2 K2) (T' := quo t K) q2 (fun a b ha hb e => by
    obtain ⟨s, hs, rfl⟩ := hit a ha
    obtain ⟨s', hs', rfl⟩ := hit b hb
    have e : K.getD (φ (K2.idxOf (K2.getD s 0))) 0 = K.getD (φ (K2.idxOf (K2.getD s' 0))) 0 := e
    rw [hσ s hs, hσ s' hs'] at e
    exact (h.cls m2 m hc k2 k hs hs').mpr e) (fun x hx => by
    obtain ⟨s, hs, rfl⟩ := hit x hx
    show _ = (quo t K).getD (K.getD (φ (K2.idxOf (K2.getD s 0))) 0) []
    rw [hσ s hs, quo_at m hc k (h.b s hs), quo_at m2 hc k2 hs, ← h.e s hs, List.map_map, List.map_map]
    refine List.map_congr_left fun p mp => ?_
    cases p with
    | none => rfl
    | some p =>
      have ms : t2.getD s [] ∈ t2 := by rw [getD_lt hs]; exact List.getElem_mem hs
      have pb := (m2.wf.pl _ ms p.1 p.2 mp).2
      show some (p.1, K.getD (φ (K2.idxOf (K2.getD p.2 0))) 0) = some (p.1, K.getD (φ p.2) 0)
      rw [hσ _ pb]) (f := (quo t2 K2).length + (quo t K).length) (i := 0) (ord := [0]) (ls := []) (by simpa using List.length_pos_iff.mpr q2.ne)
  have z : K.getD (φ (K2.idxOf 0)) 0 = 0 := by
    have k20 : K2.getD 0 0 = 0 := by have := ordN_0 (ks := K2); rw [k2.nm] at this; exact this
    have k0 : K.getD 0 0 = 0 := by have := ordN_0 (ks := K); rw [k.nm] at this; exact this
    have := hσ 0 t20
    rw [k20, h.z, k0] at this
    exact this
  rw [List.map_cons, List.map_nil, z, numb_more q2, Nat.add_comm, numb_more q] at go
  exact go.symm
/-- the machine maps onto its least -/
theorem least_hom {c w : Nat} {t : Tb} {K : List Nat} (m : MOk c w t) (hc : c ≤ 1000) (k : ClsOk t K) : ∃ ord, NF (quo t K) ord ∧ (∀ s, s < t.length → K.getD s 0 ∈ ord) ∧ (least t K).length = (seen [] K).length ∧ Hom (fun s => ord.idxOf (K.getD s 0)) t (least t K) := by
  obtain ⟨ord, f⟩ := numb_nf (quo_wf m k).1
  have k0 : K.getD 0 0 = 0 := by have := ordN_0 (ks := K); rw [k.nm] at this; exact this
  have t0 : 0 < t.length := List.length_pos_iff.mpr m.wf.ne
  have all : ∀ s, s < t.length → (s < t.length ∧ K.getD s 0 ∈ ord) := num_all m.wf m.num (S := fun s => s < t.length ∧ K.getD s 0 ∈ ord) ⟨t0, by rw [k0]; exact List.mem_of_getElem? f.z⟩ fun s hs u j mj => by
    have ms : t.getD s [] ∈ t := by rw [getD_lt hs.1]; exact List.getElem_mem hs.1
    refine ⟨(m.wf.pl _ ms u j mj).2, f.cl _ hs.2 u (K.getD j 0) ?_⟩
    rw [quo_at m hc k hs.1]
    exact List.mem_map.mpr ⟨_, mj, rfl⟩
  have mem : ∀ s, s < t.length → K.getD s 0 ∈ ord := fun s hs => (all s hs).2
  refine ⟨ord, f, mem, ?_, ?_, fun s hs => ?_, fun s hs => ?_⟩
  · unfold least
    rw [f.len, ← quo_len (t := t)]
    refine Nat.le_antisymm (nodup_le f.nd f.ob) ?_
    have := nd_len (l := List.range (quo t K).length) (m := ord) List.nodup_range fun x mx => by
      have hx : x < (seen [] K).length := by rw [← quo_len (t := t)]; simpa using mx
      obtain ⟨i, hi, e⟩ := ordN_hit hx
      rw [k.nm] at e
      rw [← e]
      exact mem i (by rw [← k.len]; exact hi)
    simpa using this
  · show ord.idxOf (K.getD 0 0) = 0
    rw [k0]
    have l0 : 0 < ord.length := (List.getElem?_eq_some_iff.mp f.z).1
    have e : ord[0] = 0 := (List.getElem?_eq_some_iff.mp f.z).2
    have := f.nd.idxOf_getElem 0 l0
    rw [e] at this
    exact this
  · unfold least
    rw [f.len]
    exact List.idxOf_lt_length_of_mem (mem s hs)
  · show _ = (numb (quo t K)).getD (ord.idxOf (K.getD s 0)) []
    rw [f.at_ _ (mem s hs), quo_at m hc k hs, List.map_map]
    refine List.map_congr_left fun p _ => ?_
    cases p <;> rfl
/-- the least machine of the least machine -/
theorem least_least {c w : Nat} {t : Tb} {K K' : List Nat} (m : MOk c w t) (hc : c ≤ 1000) (k : ClsOk t K) (k' : ClsOk (least t K) K') : least (least t K) K' = least t K := by
  obtain ⟨ord, _, _, _, h⟩ := least_hom m hc k
  exact (h.least m (least_mok m k) hc k k').symm
/-- copies -/
theorem copied_hom {c w : Nat} {T M0 : Tb} (m : MOk c w T) (wf : Wf w M0) (e : M0.map (·.map (mapF (· % T.length))) = T ++ T) : ∃ φ, Hom φ (numb M0) T := by
  obtain ⟨ord, f⟩ := numb_nf wf
  have t0 : 0 < T.length := List.length_pos_iff.mpr m.wf.ne
  have ml : M0.length = 2 * T.length := by
    have := congrArg List.length e
    simp at this; omega
  have key : ∀ x, x < M0.length → (M0.getD x []).map (mapF (· % T.length)) = T.getD (x % T.length) [] := fun x hx => by
    have h := congrArg (fun l => l[x]?) e
    simp only [List.getElem?_map, List.getElem?_eq_getElem hx, Option.map_some] at h
    rw [getD_lt hx]
    by_cases c : x < T.length
    · rw [Nat.mod_eq_of_lt c, getD_lt c]
      rw [List.getElem?_append_left c, List.getElem?_eq_getElem c] at h
      exact Option.some.inj h
    · have hx2 : x - T.length < T.length := by omega
      have : x % T.length = x - T.length := by rw [Nat.mod_eq_sub_mod (by omega), Nat.mod_eq_of_lt hx2]
      rw [this, getD_lt hx2]
      rw [List.getElem?_append_right (by omega), List.getElem?_eq_getElem hx2] at h
      exact Option.some.inj h
  have back : ∀ k, k ∈ ord → ord.getD (ord.idxOf k) 0 = k := fun k mk => by
    have i := List.idxOf_lt_length_of_mem mk
    simp only [List.getD, List.getElem?_eq_getElem i, Option.getD_some]
    exact List.getElem_idxOf i
  have z0 : ord.getD 0 0 = 0 := by simp [List.getD, f.z]
  refine ⟨fun i => ord.getD i 0 % T.length, ?_, fun s _ => Nat.mod_lt _ t0, fun s hs => ?_⟩
  · show ord.getD 0 0 % _ = 0
    rw [z0, Nat.zero_mod]
  · rw [f.len] at hs
    have mo : ord[s] ∈ ord := List.getElem_mem hs
    have ix : ord.idxOf ord[s] = s := f.nd.idxOf_getElem s hs
    have a := f.at_ _ mo
    rw [ix] at a
    have g : ord.getD s 0 = ord[s] := by simp [List.getD, List.getElem?_eq_getElem hs]
    show _ = T.getD (ord.getD s 0 % T.length) []
    rw [a, g, ← key _ (f.ob _ mo), List.map_map]
    refine List.map_congr_left fun p mp => ?_
    cases p with
    | none => rfl
    | some p =>
      show some (p.1, ord.getD (ord.idxOf p.2) 0 % T.length) = some (p.1, p.2 % T.length)
      rw [back _ (f.cl _ mo p.1 p.2 mp)]
end Pl.Ma
set_option Elab.async false
set_option linter.all false
set_option maxRecDepth 100000
set_option autoImplicit false
/-! the code's own rounds; the law's marks. -/
namespace L56
open PySem Pl L2 Pl.Eq Pl.Tp Pl.Ma
local macro_rules | `(tactic| simp_all! [$as,*]) => `(tactic| ((try dsimp only); rw [Pl.Eq.ss_cons]; simp only [Pl.Eq.e_cst, Pl.Eq.b_cst, Pl.Eq.e_var, Pl.Eq.b_var, Pl.Eq.e_bin, Pl.Eq.b_bin, Pl.Eq.e_neg, Pl.Eq.e_not, Pl.Eq.b_not, Pl.Eq.e_bop, Pl.Eq.b_bop, Pl.Eq.e_cmp, Pl.Eq.b_cmp, Pl.Eq.e_cmp2, Pl.Eq.b_cmp2, Pl.Eq.e_ife, Pl.Eq.b_ife, Pl.Eq.e_call, Pl.Eq.b_call, Pl.Eq.e_bi, Pl.Eq.b_bi, Pl.Eq.e_isi, Pl.Eq.b_isi, Pl.Eq.e_mth, Pl.Eq.e_ix, Pl.Eq.b_ix, Pl.Eq.e_sl, Pl.Eq.e_tup, Pl.Eq.e_lst, Pl.Eq.e_lc, Pl.Eq.e_lc2, Pl.Eq.e_lrg, Pl.Eq.e_dic, Pl.Eq.es_nil, Pl.Eq.es_cons, Pl.Eq.o_none, Pl.Eq.o_some, Pl.Eq.bb_nil, Pl.Eq.bb_cons, Pl.Eq.bo_one, Pl.Eq.bo_cons, Pl.Eq.f_nil, Pl.Eq.f_cons, Pl.Eq.i_val, Pl.Eq.i_rng1, Pl.Eq.i_rng2, Pl.Eq.i_rng3, Pl.Eq.i_enum, Pl.Eq.t_nm, Pl.Eq.t_tp, Pl.Eq.ts_nil, Pl.Eq.ts_cons, Pl.Eq.t_sub, Pl.Eq.s_expr, Pl.Eq.s_asg, Pl.Eq.s_par, Pl.Eq.s_aug, Pl.Eq.s_ret, Pl.Eq.s_retN, Pl.Eq.s_ifs, Pl.Eq.s_fr, Pl.Eq.s_brk, Pl.Eq.s_cnt, Pl.Eq.s_pass, Pl.Eq.ss_nil, Pl.Eq.p_addI, Pl.Eq.p_addT, Pl.Eq.p_subI, Pl.Eq.p_mulI, Pl.Eq.p_fdivI, Pl.Eq.p_modI, Pl.Eq.p_powI, Pl.Eq.p_lt, Pl.Eq.p_le, Pl.Eq.p_gt, Pl.Eq.p_ge, Pl.Eq.p_eq, Pl.Eq.p_ne, Pl.Eq.p_isN, Pl.Eq.p_notN, Pl.Eq.p_isB, Pl.Eq.p_notB, Pl.Eq.t_bl, Pl.Eq.t_int, Pl.Eq.t_tup, Pl.Eq.t_lst, Pl.Eq.mk_t, Pl.Eq.mk_f, Pl.Eq.i_non_tup, Pl.Eq.i_non_lst, Pl.Eq.i_non_int, Pl.Eq.i_non_bl, Pl.Eq.i_non_str, Pl.Eq.i_non_dic, Pl.Eq.i_bl_tup, Pl.Eq.i_bl_lst, Pl.Eq.i_bl_int, Pl.Eq.i_bl_bl, Pl.Eq.i_bl_str, Pl.Eq.i_bl_dic, Pl.Eq.i_int_tup, Pl.Eq.i_int_lst, Pl.Eq.i_int_int, Pl.Eq.i_int_bl, Pl.Eq.i_int_str, Pl.Eq.i_int_dic, Pl.Eq.i_str_tup, Pl.Eq.i_str_lst, Pl.Eq.i_str_int, Pl.Eq.i_str_bl, Pl.Eq.i_str_str, Pl.Eq.i_str_dic, Pl.Eq.i_tup_tup, Pl.Eq.i_tup_lst, Pl.Eq.i_tup_int, Pl.Eq.i_tup_bl, Pl.Eq.i_tup_str, Pl.Eq.i_tup_dic, Pl.Eq.i_lst_tup, Pl.Eq.i_lst_lst, Pl.Eq.i_lst_int, Pl.Eq.i_lst_bl, Pl.Eq.i_lst_str, Pl.Eq.i_lst_dic, Pl.Eq.n_non, Pl.Eq.n_bl, Pl.Eq.n_int, Pl.Eq.n_str, Pl.Eq.n_tup, Pl.Eq.n_lst, Pl.Eq.p_slT, Pl.Eq.p_lenT, Pl.Eq.p_lenL, Pl.Eq.p_lenR, Pl.Eq.p_intI, Pl.Eq.p_tuple, Pl.Eq.p_list, Pl.Eq.p_sorted, Pl.Eq.p_max1, Pl.Eq.p_min1, Pl.Eq.p_min, Pl.Eq.p_intB, Pl.Eq.p_mulT, Pl.Eq.p_addLL, Pl.Eq.p_slL, Pl.Eq.it_tup, Pl.Eq.it_lst, Pl.Eq.it_ro, Pl.Eq.si_lst, Pl.Eq.p_all, Pl.Eq.p_any, Pl.Eq.p_max, Pl.Eq.q_tup, Pl.Eq.q_lst, Pl.Eq.q_ro, Pl.Eq.l_lst, Pl.Eq.src_tup, Pl.Eq.src_lst, Pl.Eq.src_ro, Pl.Eq.src_mr, Pl.Eq.atP_some, Pl.Eq.x_tup_, Pl.Eq.x_lst_, Pl.Eq.x_ro_, Pl.Eq.seq_mr, Pl.Eq.lst_mr, Pl.Eq.dic_mr, Pl.Eq.tru_mr, Pl.Eq.it_mr, Pl.Eq.si_mr, Pl.Eq.x_mr, Pl.Eq.set_mr, Pl.Eq.len_mr, Pl.Eq.in_mr, Pl.Eq.nin_mr, Pl.Eq.ty_mr, Pl.Eq.mt_app, Pl.Eq.mt_p0, Pl.Eq.mt_p1, Pl.Eq.mt_ex, Pl.Eq.mt_in, Pl.Eq.mt_g1, Pl.Eq.mt_g2, Pl.Eq.oL_seq, Pl.Eq.oL_tru, Pl.Eq.oL_it, Pl.Eq.oL_ix, Pl.Eq.oL_set, Pl.Eq.oL_len, Pl.Eq.oL_in, Pl.Eq.oL_tyA, Pl.Eq.oL_tyI, Pl.Eq.oL_tyP, Pl.Eq.oL_tyQ, Pl.Eq.oL_tyE, Pl.Eq.oL_tyN, Pl.Eq.oL_app, Pl.Eq.oL_p0, Pl.Eq.oL_p1, Pl.Eq.oL_ex, Pl.Eq.oL_ins, Pl.Eq.oD_dic, Pl.Eq.oL_dic, Pl.Eq.oD_it, Pl.Eq.oD_ix, Pl.Eq.oD_set, Pl.Eq.oD_len, Pl.Eq.oD_in, Pl.Eq.oD_tyG, Pl.Eq.oD_tyH, Pl.Eq.oD_g1, Pl.Eq.oD_g2, Pl.Eq.fx_get, Pl.Eq.fx_get0, Pl.Eq.fx_set, Pl.Eq.fx_set0, Pl.Eq.fx_getS, Pl.Eq.fx_getS0, Pl.Eq.fx_setS, Pl.Eq.fx_setS0, Pl.Eq.at_nat, Pl.Eq.at_0, Pl.Eq.at_1, Pl.Eq.at_2, Pl.Eq.at_3, Pl.Eq.at_4, Pl.Eq.at_last, Pl.Eq.sz, Pl.Eq.ixN_0, Pl.Eq.ixN_1, Pl.Eq.ixN_2, Pl.Eq.ixN_3, Pl.Eq.ixN_4, List.getElem?_cons_zero, List.getElem?_cons_succ, List.set_cons_zero, List.set_cons_succ, Option.some.injEq, exists_eq_left, exists_eq_left', U.int.injEq, U.bl.injEq, U.tup.injEq, U.lst.injEq, Int.zero_add, Nat.reduceLeDiff, List.cons_append, List.nil_append, false_and, exists_false, exists_const, false_or, or_false, Pl.T.own, Pl.Ts.own, Pl.Ts.len, wipeU, Pl.Eq.eqI, Pl.Eq.eqB, beq_self_eq_true, Bool.not_true, Bool.not_false, Bool.false_eq_true, Bool.true_eq_false, reduceCtorEq, decide_true, decide_false, List.length_cons, List.length_nil, Nat.zero_add, Nat.reduceAdd, Nat.reduceLT, if_true, if_false, reduceIte, true_and, and_true, List.set_set, List.append_assoc, List.length_append, List.length_set, Nat.add_zero, List.append_nil, $as,*]))
local macro_rules | `(tactic| dsimp! [$as,*]) => `(tactic| (try simp only [Pl.Eq.e_cst, Pl.Eq.b_cst, Pl.Eq.e_var, Pl.Eq.b_var, Pl.Eq.e_bin, Pl.Eq.b_bin, Pl.Eq.e_neg, Pl.Eq.e_not, Pl.Eq.b_not, Pl.Eq.e_bop, Pl.Eq.b_bop, Pl.Eq.e_cmp, Pl.Eq.b_cmp, Pl.Eq.e_cmp2, Pl.Eq.b_cmp2, Pl.Eq.e_ife, Pl.Eq.b_ife, Pl.Eq.e_call, Pl.Eq.b_call, Pl.Eq.e_bi, Pl.Eq.b_bi, Pl.Eq.e_isi, Pl.Eq.b_isi, Pl.Eq.e_mth, Pl.Eq.e_ix, Pl.Eq.b_ix, Pl.Eq.e_sl, Pl.Eq.e_tup, Pl.Eq.e_lst, Pl.Eq.e_lc, Pl.Eq.e_lc2, Pl.Eq.e_lrg, Pl.Eq.e_dic, Pl.Eq.es_nil, Pl.Eq.es_cons, Pl.Eq.o_none, Pl.Eq.o_some, Pl.Eq.bb_nil, Pl.Eq.bb_cons, Pl.Eq.bo_one, Pl.Eq.bo_cons, Pl.Eq.f_nil, Pl.Eq.f_cons, Pl.Eq.i_val, Pl.Eq.i_rng1, Pl.Eq.i_rng2, Pl.Eq.i_rng3, Pl.Eq.i_enum, Pl.Eq.t_nm, Pl.Eq.t_tp, Pl.Eq.ts_nil, Pl.Eq.ts_cons, Pl.Eq.t_sub, Pl.Eq.s_expr, Pl.Eq.s_asg, Pl.Eq.s_par, Pl.Eq.s_aug, Pl.Eq.s_ret, Pl.Eq.s_retN, Pl.Eq.s_ifs, Pl.Eq.s_fr, Pl.Eq.s_brk, Pl.Eq.s_cnt, Pl.Eq.s_pass, Pl.Eq.ss_nil, Pl.Eq.p_addI, Pl.Eq.p_addT, Pl.Eq.p_subI, Pl.Eq.p_mulI, Pl.Eq.p_fdivI, Pl.Eq.p_modI, Pl.Eq.p_powI, Pl.Eq.p_lt, Pl.Eq.p_le, Pl.Eq.p_gt, Pl.Eq.p_ge, Pl.Eq.p_eq, Pl.Eq.p_ne, Pl.Eq.p_isN, Pl.Eq.p_notN, Pl.Eq.p_isB, Pl.Eq.p_notB, Pl.Eq.t_bl, Pl.Eq.t_int, Pl.Eq.t_tup, Pl.Eq.t_lst, Pl.Eq.mk_t, Pl.Eq.mk_f, Pl.Eq.i_non_tup, Pl.Eq.i_non_lst, Pl.Eq.i_non_int, Pl.Eq.i_non_bl, Pl.Eq.i_non_str, Pl.Eq.i_non_dic, Pl.Eq.i_bl_tup, Pl.Eq.i_bl_lst, Pl.Eq.i_bl_int, Pl.Eq.i_bl_bl, Pl.Eq.i_bl_str, Pl.Eq.i_bl_dic, Pl.Eq.i_int_tup, Pl.Eq.i_int_lst, Pl.Eq.i_int_int, Pl.Eq.i_int_bl, Pl.Eq.i_int_str, Pl.Eq.i_int_dic, Pl.Eq.i_str_tup, Pl.Eq.i_str_lst, Pl.Eq.i_str_int, Pl.Eq.i_str_bl, Pl.Eq.i_str_str, Pl.Eq.i_str_dic, Pl.Eq.i_tup_tup, Pl.Eq.i_tup_lst, Pl.Eq.i_tup_int, Pl.Eq.i_tup_bl, Pl.Eq.i_tup_str, Pl.Eq.i_tup_dic, Pl.Eq.i_lst_tup, Pl.Eq.i_lst_lst, Pl.Eq.i_lst_int, Pl.Eq.i_lst_bl, Pl.Eq.i_lst_str, Pl.Eq.i_lst_dic, Pl.Eq.n_non, Pl.Eq.n_bl, Pl.Eq.n_int, Pl.Eq.n_str, Pl.Eq.n_tup, Pl.Eq.n_lst, Pl.Eq.p_slT, Pl.Eq.p_lenT, Pl.Eq.p_lenL, Pl.Eq.p_lenR, Pl.Eq.p_intI, Pl.Eq.p_tuple, Pl.Eq.p_list, Pl.Eq.p_sorted, Pl.Eq.p_max1, Pl.Eq.p_min1, Pl.Eq.p_min, Pl.Eq.p_intB, Pl.Eq.p_mulT, Pl.Eq.p_addLL, Pl.Eq.p_slL, Pl.Eq.it_tup, Pl.Eq.it_lst, Pl.Eq.it_ro, Pl.Eq.si_lst, Pl.Eq.p_all, Pl.Eq.p_any, Pl.Eq.p_max, Pl.Eq.q_tup, Pl.Eq.q_lst, Pl.Eq.q_ro, Pl.Eq.l_lst, Pl.Eq.src_tup, Pl.Eq.src_lst, Pl.Eq.src_ro, Pl.Eq.src_mr, Pl.Eq.atP_some, Pl.Eq.x_tup_, Pl.Eq.x_lst_, Pl.Eq.x_ro_, Pl.Eq.seq_mr, Pl.Eq.lst_mr, Pl.Eq.dic_mr, Pl.Eq.tru_mr, Pl.Eq.it_mr, Pl.Eq.si_mr, Pl.Eq.x_mr, Pl.Eq.set_mr, Pl.Eq.len_mr, Pl.Eq.in_mr, Pl.Eq.nin_mr, Pl.Eq.ty_mr, Pl.Eq.mt_app, Pl.Eq.mt_p0, Pl.Eq.mt_p1, Pl.Eq.mt_ex, Pl.Eq.mt_in, Pl.Eq.mt_g1, Pl.Eq.mt_g2, Pl.Eq.oL_seq, Pl.Eq.oL_tru, Pl.Eq.oL_it, Pl.Eq.oL_ix, Pl.Eq.oL_set, Pl.Eq.oL_len, Pl.Eq.oL_in, Pl.Eq.oL_tyA, Pl.Eq.oL_tyI, Pl.Eq.oL_tyP, Pl.Eq.oL_tyQ, Pl.Eq.oL_tyE, Pl.Eq.oL_tyN, Pl.Eq.oL_app, Pl.Eq.oL_p0, Pl.Eq.oL_p1, Pl.Eq.oL_ex, Pl.Eq.oL_ins, Pl.Eq.oD_dic, Pl.Eq.oL_dic, Pl.Eq.oD_it, Pl.Eq.oD_ix, Pl.Eq.oD_set, Pl.Eq.oD_len, Pl.Eq.oD_in, Pl.Eq.oD_tyG, Pl.Eq.oD_tyH, Pl.Eq.oD_g1, Pl.Eq.oD_g2, Pl.Eq.fx_get, Pl.Eq.fx_get0, Pl.Eq.fx_set, Pl.Eq.fx_set0, Pl.Eq.fx_getS, Pl.Eq.fx_getS0, Pl.Eq.fx_setS, Pl.Eq.fx_setS0, Pl.Eq.at_nat, Pl.Eq.at_0, Pl.Eq.at_1, Pl.Eq.at_2, Pl.Eq.at_3, Pl.Eq.at_4, Pl.Eq.at_last, Pl.Eq.sz, Pl.Eq.ixN_0, Pl.Eq.ixN_1, Pl.Eq.ixN_2, Pl.Eq.ixN_3, Pl.Eq.ixN_4, List.getElem?_cons_zero, List.getElem?_cons_succ, List.set_cons_zero, List.set_cons_succ, Option.some.injEq, exists_eq_left, exists_eq_left', U.int.injEq, U.bl.injEq, U.tup.injEq, U.lst.injEq, Int.zero_add, Nat.reduceLeDiff, List.cons_append, List.nil_append, false_and, exists_false, exists_const, false_or, or_false, Pl.T.own, Pl.Ts.own, Pl.Ts.len, wipeU, Pl.Eq.eqI, Pl.Eq.eqB, beq_self_eq_true, Bool.not_true, Bool.not_false, Bool.false_eq_true, Bool.true_eq_false, reduceCtorEq, decide_true, decide_false, List.length_cons, List.length_nil, Nat.zero_add, Nat.reduceAdd, Nat.reduceLT, if_true, if_false, reduceIte, true_and, and_true, List.set_set, List.append_assoc, List.length_append, List.length_set, Nat.add_zero, List.append_nil, $as,*]))
/-! outputs -/
theorem leafEq_iff {x y : U} (hx : leaf x) (hy : leaf y) : leafEq x y = true ↔ x = y := by
  cases x <;> cases y <;> first | exact hx.elim | exact hy.elim | simp [leafEq]
theorem rowEq_iff {xs ys : List U} (hx : ∀ x ∈ xs, leaf x) (hy : ∀ x ∈ ys, leaf x) : rowEq xs ys = true ↔ xs = ys := by
  unfold rowEq
  induction xs generalizing ys with
  | nil => cases ys <;> simp
  | cons x xs ih =>
    cases ys with
    | nil => simp
    | cons y ys =>
      have ih := ih (ys := ys) (fun z m => hx z (List.mem_cons_of_mem _ m)) (fun z m => hy z (List.mem_cons_of_mem _ m))
      have l := leafEq_iff (hx x List.mem_cons_self) (hy y List.mem_cons_self)
      simp only [List.length_cons, List.zipWith_cons_cons, List.all_cons, Bool.and_eq_true, beq_iff_eq, id_eq, List.cons.injEq] at ih ⊢
      rw [l, ← ih]
      constructor
      · rintro ⟨a, b, c⟩
        exact ⟨b, by omega, c⟩
      · rintro ⟨b, a, c⟩
        exact ⟨by omega, b, c⟩
theorem difP_iff {p q : Pc} (hp : POut p) (hq : POut q) : difP p q = false ↔ p.map (·.1) = q.map (·.1) := by
  cases p with
  | none => cases q <;> simp [difP]
  | some p =>
    cases q with
    | none => simp [difP]
    | some q =>
      obtain ⟨xs, e1, _, hx⟩ := hp p.1 p.2 rfl
      obtain ⟨ys, e2, _, hy⟩ := hq q.1 q.2 rfl
      have : difP (some p) (some q) = !uEq p.1 q.1 := rfl
      rw [this, e1, e2]
      show (!rowEq xs ys) = false ↔ some p.1 = some q.1
      rw [Bool.not_eq_false', rowEq_iff hx hy, e1, e2]
      simp
theorem pc_at2 {w : Nat} {t : Tb} (wf : Wf w t) {s i : Nat} (hs : s < t.length) (hi : i < w) : (t.getD s [])[i]? = some (pc t s i) := by
  have ll := wf.len _ (by rw [getD_lt hs]; exact List.getElem_mem hs : t.getD s [] ∈ t)
  unfold pc
  generalize t.getD s [] = l at ll
  have hl : i < l.length := by omega
  rw [List.getElem?_eq_getElem hl]
  simp [List.getD, List.getElem?_eq_getElem hl]
theorem ln_iff {c w : Nat} {t : Tb} (m : MOk c w t) (hc : c ≤ 1000) {a b : Nat} (ha : a < t.length) (hb : b < t.length) : lnK (t.getD a []) = lnK (t.getD b []) ↔ ∀ r, r < w → difP (pc t a r) (pc t b r) = false := by
  have la := m.wf.len _ (by rw [getD_lt ha]; exact List.getElem_mem ha : t.getD a [] ∈ t)
  have lb := m.wf.len _ (by rw [getD_lt hb]; exact List.getElem_mem hb : t.getD b [] ∈ t)
  have pi := m.po hc _ (by rw [getD_lt ha]; exact List.getElem_mem ha : t.getD a [] ∈ t)
  have pj := m.po hc _ (by rw [getD_lt hb]; exact List.getElem_mem hb : t.getD b [] ∈ t)
  constructor
  · intro h r hr
    unfold lnK at h
    injection h with h
    have := congrArg (fun l => l[r]?) h
    simp only [List.getElem?_map, pc_at2 m.wf ha hr, pc_at2 m.wf hb hr, Option.map_some] at this
    rw [difP_iff (pc_out m hc) (pc_out m hc)]
    exact fk_inj (pc_out m hc) (pc_out m hc) (Option.some.inj this)
  · intro h
    unfold lnK
    congr 1
    refine List.ext_getElem? fun r => ?_
    rw [List.getElem?_map, List.getElem?_map]
    by_cases hr : r < w
    · rw [pc_at2 m.wf ha hr, pc_at2 m.wf hb hr]
      have e := (difP_iff (pc_out m hc) (pc_out m hc)).mp (h r hr)
      have : ∀ p : Pc, fkK p = match p.map (·.1) with | none => NestedKey.none | some u => outK u := fun p => by cases p <;> rfl
      simp only [Option.map_some]
      rw [this, this, e]
    · rw [List.getElem?_eq_none (by omega), List.getElem?_eq_none (by omega)]
/-! the rounds -/
def it (t : Tb) : Nat → List Nat
  | 0 => ordN (fks t)
  | k + 1 => refN t (it t k)
def ks (t : Tb) : Nat → List NestedKey
  | 0 => fks t
  | k + 1 => rfs t (it t k)
theorem it_in {w : Nat} {t : Tb} (wf : Wf w t) : ∀ k, KIn t (it t k) (ks t k)
  | 0 => kin_first
  | k + 1 => kin_next wf (it_in wf k)
theorem it_cnt {w : Nat} {t : Tb} (wf : Wf w t) : ∀ k, refN t (it t k) = it t k ∨ k + 1 ≤ (seen [] (ks t k)).length
  | 0 => .inr (seen_pos fun z => wf.ne (by
      have := congrArg List.length z
      simp [ks, fks] at this
      exact this))
  | k + 1 => by
    have sr := seen_rfs (it_in wf k)
    rcases it_cnt wf k with h | h
    · left
      show refN t (refN t (it t k)) = refN t (it t k)
      rw [h, h]
    · by_cases e : (seen [] (ks t k)).length = (seen [] (rfs t (it t k))).length
      · left
        have := sr.2 e
        show refN t (refN t (it t k)) = refN t (it t k)
        rw [this, this]
      · right
        have : ks t (k + 1) = rfs t (it t k) := rfl
        rw [this]
        omega
theorem it_stable {w : Nat} {t : Tb} (wf : Wf w t) : refN t (it t t.length) = it t t.length := by
  rcases it_cnt wf t.length with h | h
  · exact h
  · have := seen_le (ks := ks t t.length) (S := [])
    have l := (it_in wf t.length).len
    rw [l] at this
    simp at this
    omega
theorem it_cls {w : Nat} {t : Tb} (wf : Wf w t) : ClsOk t (it t t.length) := by
  have k := it_in wf t.length
  refine k.done ?_
  have e1 := (ordN_idem (ks t t.length)).2
  rw [← k.e] at e1
  have e2 := (ordN_idem (rfs t (it t t.length))).2
  have : ordN (rfs t (it t t.length)) = it t t.length := it_stable wf
  rw [this] at e2
  omega
/-- what a round adds -/
theorem it_step {c w : Nat} {t : Tb} (m : MOk c w t) (hc : c ≤ 1000) {k a b : Nat} (ha : a < t.length) (hb : b < t.length) (h : (it t (k + 1)).getD a 0 ≠ (it t (k + 1)).getD b 0) :
    (it t k).getD a 0 ≠ (it t k).getD b 0 ∨ ∃ r u x v y, r < w ∧ pc t a r = some (u, x) ∧ pc t b r = some (v, y) ∧ (it t k).getD x 0 ≠ (it t k).getD y 0 := by
  by_cases e : (it t k).getD a 0 = (it t k).getD b 0
  · right
    have ki := it_in m.wf k
    have fe := (ln_iff m hc ha hb).mp (ki.fk a b ha hb e)
    have ne : ¬ (rfs t (it t k))[a]'(by rw [rfs_len]; exact ha) = (rfs t (it t k))[b]'(by rw [rfs_len]; exact hb) := fun z => h ((ordN_eq (by rw [rfs_len]; exact ha) (by rw [rfs_len]; exact hb)).mpr z)
    rw [rfs_at, rfs_at, rfK_eq] at ne
    have ne2 : ¬ (t.getD a []).map (sucK (it t k)) = (t.getD b []).map (sucK (it t k)) := fun z => ne ⟨e, z⟩
    refine Classical.byContradiction fun no => ne2 ?_
    have la := m.wf.len _ (by rw [getD_lt ha]; exact List.getElem_mem ha : t.getD a [] ∈ t)
    have lb := m.wf.len _ (by rw [getD_lt hb]; exact List.getElem_mem hb : t.getD b [] ∈ t)
    refine List.ext_getElem? fun r => ?_
    rw [List.getElem?_map, List.getElem?_map]
    by_cases hr : r < w
    · rw [pc_at2 m.wf ha hr, pc_at2 m.wf hb hr]
      have f := (difP_iff (pc_out m hc) (pc_out m hc)).mp (fe r hr)
      cases ea : pc t a r with
      | none =>
        rw [ea] at f
        cases eb : pc t b r with
        | none => rfl
        | some q => rw [eb] at f; simp at f
      | some p =>
        cases eb : pc t b r with
        | none => rw [ea, eb] at f; simp at f
        | some q =>
          have : (it t k).getD p.2 0 = (it t k).getD q.2 0 := Classical.byContradiction fun z => no ⟨r, p.1, p.2, q.1, q.2, hr, ea, eb, z⟩
          show some (NestedKey.num ((it t k).getD p.2 0 : Nat)) = some (NestedKey.num ((it t k).getD q.2 0 : Nat))
          rw [this]
    · rw [List.getElem?_eq_none (by omega), List.getElem?_eq_none (by omega)]
  · exact .inl e
/-! marks -/
def addK (D : List (Nat × Nat)) (p : Nat × Nat) : List (Nat × Nat) := if p ∈ D then D else D ++ [p]
def kdT (D : List (Nat × Nat)) : List (U × U) := D.map fun p => (prU p, .bl true)
theorem kdT_in {D : List (Nat × Nat)} {p : Nat × Nat} : (dlook (kdT D) (prU p)).isSome = decide (p ∈ D) := by
  have := pr_enc.some_ (g := fun _ : Nat × Nat => U.bl true) (kf := fun p : Nat × Nat => p) (D := D) (a := p)
  unfold kdT
  rw [this]
  simp
theorem kdT_put {D : List (Nat × Nat)} {p : Nat × Nat} : dput (kdT D) (prU p) (.bl true) = kdT (addK D p) := by
  unfold addK kdT
  by_cases h : p ∈ D
  · rw [if_pos h]
    induction D with
    | nil => cases h
    | cons q r ih =>
      simp only [List.map_cons, dput, pr_enc.e]
      by_cases c : q = p
      · simp [c]
      · have : p ∈ r := (List.mem_cons.mp h).resolve_left fun z => c z.symm
        simp only [c, decide_false, Bool.false_eq_true, if_false]
        rw [ih this]
  · rw [if_neg h]
    have := pr_enc.put (g := fun _ : Nat × Nat => U.bl true) (kf := fun p : Nat × Nat => p) (D := D) (a := p) (v := .bl true) (by simpa using h)
    rw [this]
    simp
theorem addK_mem {D : List (Nat × Nat)} {p q : Nat × Nat} : q ∈ addK D p ↔ q ∈ D ∨ q = p := by
  unfold addK
  split
  · rename_i h
    exact ⟨.inl, fun z => z.elim id fun e => e ▸ h⟩
  · simp
theorem addK_nd {D : List (Nat × Nat)} {p : Nat × Nat} (h : D.Nodup) : (addK D p).Nodup := by
  unfold addK
  split
  · exact h
  · rename_i c
    exact List.nodup_append.mpr ⟨h, by simp, fun a ha b hb => by rw [List.mem_singleton.mp hb]; exact fun z => c (z ▸ ha)⟩
/-- marks so far: all are right -/
structure MkOk (n : Nat) (K : List Nat) (D : List (Nat × Nat)) : Prop where
  nd : D.Nodup
  r : ∀ p ∈ D, p.2 < p.1 ∧ p.1 < n ∧ K.getD p.1 0 ≠ K.getD p.2 0
theorem MkOk.len {n : Nat} {K : List Nat} {D : List (Nat × Nat)} (h : MkOk n K D) : D.length ≤ n * n := by
  have := DOk.len (n1 := n) (n2 := n) (D := D.map fun p => (p, [])) ⟨by rw [List.map_map]; simpa [Function.comp_def] using h.nd, fun e m => by
    obtain ⟨p, pm, rfl⟩ := List.mem_map.mp m
    have := h.r p pm
    exact ⟨this.2.1, by show p.2 < n; omega⟩, fun e m => by
    obtain ⟨p, pm, rfl⟩ := List.mem_map.mp m
    have := List.length_pos_of_mem pm
    simpa using this⟩
  simpa using this
theorem MkOk.add {n : Nat} {K : List Nat} {D : List (Nat × Nat)} (h : MkOk n K D) {p : Nat × Nat} (a : p.2 < p.1) (b : p.1 < n) (c : K.getD p.1 0 ≠ K.getD p.2 0) : MkOk n K (addK D p) :=
  ⟨addK_nd h.nd, fun q m => by
    rcases addK_mem.mp m with m | rfl
    · exact h.r q m
    · exact ⟨a, b, c⟩⟩
/-- the marks of a round stand -/
def Cmp (P : List Nat) (n : Nat) (D : List (Nat × Nat)) : Prop := ∀ a b, b < a → a < n → P.getD a 0 ≠ P.getD b 0 → (a, b) ∈ D
theorem Cmp.sub {P : List Nat} {n : Nat} {D : List (Nat × Nat)} (h : Cmp P n D) {p : Nat × Nat} : Cmp P n (addK D p) := fun a b x y z => addK_mem.mpr (.inl (h a b x y z))
def leadB (D : List (Nat × Nat)) : Pc → Pc → Bool
  | some (_, x), some (_, y) => decide ((max x y, min x y) ∈ D)
  | _, _ => false
def leads (t : Tb) (w : Nat) (D : List (Nat × Nat)) (a b : Nat) : Bool := (List.range w).any fun r => leadB D (pc t a r) (pc t b r)
theorem leads_right {c w : Nat} {t : Tb} {K : List Nat} (m : MOk c w t) (hc : c ≤ 1000) (k : ClsOk t K) {D : List (Nat × Nat)} (d : MkOk t.length K D) {a b : Nat} (ha : a < t.length) (hb : b < t.length) (h : leads t w D a b = true) : K.getD a 0 ≠ K.getD b 0 := by
  intro e
  unfold leads at h
  rw [List.any_eq_true] at h
  obtain ⟨r, rm, hr⟩ := h
  have hr' : r < w := by simpa using rm
  obtain ⟨_, bs⟩ := k.bis m hc a b ⟨ha, hb, e⟩
  cases ea : pc t a r with
  | none => rw [ea] at hr; cases hr
  | some p =>
    cases eb : pc t b r with
    | none => rw [ea, eb] at hr; cases hr
    | some q =>
      rw [ea, eb] at hr
      have hr2 : (max p.2 q.2, min p.2 q.2) ∈ D := of_decide_eq_true hr
      have := (d.r _ hr2).2.2
      obtain ⟨_, _, eq⟩ := bs r p.1 p.2 q.1 q.2 (by rw [pc_at2 m.wf ha hr', ea]) (by rw [pc_at2 m.wf hb hr', eb])
      rcases Nat.le_total p.2 q.2 with l | l
      · rw [Nat.max_eq_right l, Nat.min_eq_left l] at this
        exact this eq.symm
      · rw [Nat.max_eq_left l, Nat.min_eq_right l] at this
        exact this eq
theorem leads_all {c w : Nat} {t : Tb} (m : MOk c w t) (hc : c ≤ 1000) {k : Nat} {D : List (Nat × Nat)} (hC : Cmp (it t k) t.length D) {a b : Nat} (hab : b < a) (ha : a < t.length) (h : (it t (k + 1)).getD a 0 ≠ (it t (k + 1)).getD b 0) : (a, b) ∈ D ∨ leads t w D a b = true := by
  rcases it_step m hc ha (by omega) h with e | ⟨r, u, x, v, y, hr, ea, eb, ne⟩
  · exact .inl (hC a b hab ha e)
  · right
    unfold leads
    rw [List.any_eq_true]
    refine ⟨r, by simpa using hr, ?_⟩
    rw [ea, eb]
    obtain ⟨l, lm, ml⟩ := pc_mem ea
    obtain ⟨l', lm', ml'⟩ := pc_mem eb
    have hx := (m.wf.pl l lm u x ml).2
    have hy := (m.wf.pl l' lm' v y ml').2
    refine decide_eq_true ?_
    rcases Nat.lt_trichotomy x y with l | l | l
    · rw [Nat.max_eq_right (by omega), Nat.min_eq_left (by omega)]
      exact hC y x l hy fun z => ne z.symm
    · exact absurd (by rw [l]) ne
    · rw [Nat.max_eq_left (by omega), Nat.min_eq_right (by omega)]
      exact hC x y l hx ne
end L56
set_option Elab.async false
set_option linter.all false
set_option maxRecDepth 100000
set_option autoImplicit false
/-! the law's own marks, walked. -/
namespace L56
open PySem Pl L2 Pl.Eq Pl.Tp Pl.Ma
local macro_rules | `(tactic| simp_all! [$as,*]) => `(tactic| ((try dsimp only); rw [Pl.Eq.ss_cons]; simp only [Pl.Eq.e_cst, Pl.Eq.b_cst, Pl.Eq.e_var, Pl.Eq.b_var, Pl.Eq.e_bin, Pl.Eq.b_bin, Pl.Eq.e_neg, Pl.Eq.e_not, Pl.Eq.b_not, Pl.Eq.e_bop, Pl.Eq.b_bop, Pl.Eq.e_cmp, Pl.Eq.b_cmp, Pl.Eq.e_cmp2, Pl.Eq.b_cmp2, Pl.Eq.e_ife, Pl.Eq.b_ife, Pl.Eq.e_call, Pl.Eq.b_call, Pl.Eq.e_bi, Pl.Eq.b_bi, Pl.Eq.e_isi, Pl.Eq.b_isi, Pl.Eq.e_mth, Pl.Eq.e_ix, Pl.Eq.b_ix, Pl.Eq.e_sl, Pl.Eq.e_tup, Pl.Eq.e_lst, Pl.Eq.e_lc, Pl.Eq.e_lc2, Pl.Eq.e_lrg, Pl.Eq.e_dic, Pl.Eq.es_nil, Pl.Eq.es_cons, Pl.Eq.o_none, Pl.Eq.o_some, Pl.Eq.bb_nil, Pl.Eq.bb_cons, Pl.Eq.bo_one, Pl.Eq.bo_cons, Pl.Eq.f_nil, Pl.Eq.f_cons, Pl.Eq.i_val, Pl.Eq.i_rng1, Pl.Eq.i_rng2, Pl.Eq.i_rng3, Pl.Eq.i_enum, Pl.Eq.t_nm, Pl.Eq.t_tp, Pl.Eq.ts_nil, Pl.Eq.ts_cons, Pl.Eq.t_sub, Pl.Eq.s_expr, Pl.Eq.s_asg, Pl.Eq.s_par, Pl.Eq.s_aug, Pl.Eq.s_ret, Pl.Eq.s_retN, Pl.Eq.s_ifs, Pl.Eq.s_fr, Pl.Eq.s_brk, Pl.Eq.s_cnt, Pl.Eq.s_pass, Pl.Eq.ss_nil, Pl.Eq.p_addI, Pl.Eq.p_addT, Pl.Eq.p_subI, Pl.Eq.p_mulI, Pl.Eq.p_fdivI, Pl.Eq.p_modI, Pl.Eq.p_powI, Pl.Eq.p_lt, Pl.Eq.p_le, Pl.Eq.p_gt, Pl.Eq.p_ge, Pl.Eq.p_eq, Pl.Eq.p_ne, Pl.Eq.p_isN, Pl.Eq.p_notN, Pl.Eq.p_isB, Pl.Eq.p_notB, Pl.Eq.t_bl, Pl.Eq.t_int, Pl.Eq.t_tup, Pl.Eq.t_lst, Pl.Eq.mk_t, Pl.Eq.mk_f, Pl.Eq.i_non_tup, Pl.Eq.i_non_lst, Pl.Eq.i_non_int, Pl.Eq.i_non_bl, Pl.Eq.i_non_str, Pl.Eq.i_non_dic, Pl.Eq.i_bl_tup, Pl.Eq.i_bl_lst, Pl.Eq.i_bl_int, Pl.Eq.i_bl_bl, Pl.Eq.i_bl_str, Pl.Eq.i_bl_dic, Pl.Eq.i_int_tup, Pl.Eq.i_int_lst, Pl.Eq.i_int_int, Pl.Eq.i_int_bl, Pl.Eq.i_int_str, Pl.Eq.i_int_dic, Pl.Eq.i_str_tup, Pl.Eq.i_str_lst, Pl.Eq.i_str_int, Pl.Eq.i_str_bl, Pl.Eq.i_str_str, Pl.Eq.i_str_dic, Pl.Eq.i_tup_tup, Pl.Eq.i_tup_lst, Pl.Eq.i_tup_int, Pl.Eq.i_tup_bl, Pl.Eq.i_tup_str, Pl.Eq.i_tup_dic, Pl.Eq.i_lst_tup, Pl.Eq.i_lst_lst, Pl.Eq.i_lst_int, Pl.Eq.i_lst_bl, Pl.Eq.i_lst_str, Pl.Eq.i_lst_dic, Pl.Eq.n_non, Pl.Eq.n_bl, Pl.Eq.n_int, Pl.Eq.n_str, Pl.Eq.n_tup, Pl.Eq.n_lst, Pl.Eq.p_slT, Pl.Eq.p_lenT, Pl.Eq.p_lenL, Pl.Eq.p_lenR, Pl.Eq.p_intI, Pl.Eq.p_tuple, Pl.Eq.p_list, Pl.Eq.p_sorted, Pl.Eq.p_max1, Pl.Eq.p_min1, Pl.Eq.p_min, Pl.Eq.p_intB, Pl.Eq.p_mulT, Pl.Eq.p_addLL, Pl.Eq.p_slL, Pl.Eq.it_tup, Pl.Eq.it_lst, Pl.Eq.it_ro, Pl.Eq.si_lst, Pl.Eq.p_all, Pl.Eq.p_any, Pl.Eq.p_max, Pl.Eq.q_tup, Pl.Eq.q_lst, Pl.Eq.q_ro, Pl.Eq.l_lst, Pl.Eq.src_tup, Pl.Eq.src_lst, Pl.Eq.src_ro, Pl.Eq.src_mr, Pl.Eq.atP_some, Pl.Eq.x_tup_, Pl.Eq.x_lst_, Pl.Eq.x_ro_, Pl.Eq.seq_mr, Pl.Eq.lst_mr, Pl.Eq.dic_mr, Pl.Eq.tru_mr, Pl.Eq.it_mr, Pl.Eq.si_mr, Pl.Eq.x_mr, Pl.Eq.set_mr, Pl.Eq.len_mr, Pl.Eq.in_mr, Pl.Eq.nin_mr, Pl.Eq.ty_mr, Pl.Eq.mt_app, Pl.Eq.mt_p0, Pl.Eq.mt_p1, Pl.Eq.mt_ex, Pl.Eq.mt_in, Pl.Eq.mt_g1, Pl.Eq.mt_g2, Pl.Eq.oL_seq, Pl.Eq.oL_tru, Pl.Eq.oL_it, Pl.Eq.oL_ix, Pl.Eq.oL_set, Pl.Eq.oL_len, Pl.Eq.oL_in, Pl.Eq.oL_tyA, Pl.Eq.oL_tyI, Pl.Eq.oL_tyP, Pl.Eq.oL_tyQ, Pl.Eq.oL_tyE, Pl.Eq.oL_tyN, Pl.Eq.oL_app, Pl.Eq.oL_p0, Pl.Eq.oL_p1, Pl.Eq.oL_ex, Pl.Eq.oL_ins, Pl.Eq.oD_dic, Pl.Eq.oL_dic, Pl.Eq.oD_it, Pl.Eq.oD_ix, Pl.Eq.oD_set, Pl.Eq.oD_len, Pl.Eq.oD_in, Pl.Eq.oD_tyG, Pl.Eq.oD_tyH, Pl.Eq.oD_g1, Pl.Eq.oD_g2, Pl.Eq.fx_get, Pl.Eq.fx_get0, Pl.Eq.fx_set, Pl.Eq.fx_set0, Pl.Eq.fx_getS, Pl.Eq.fx_getS0, Pl.Eq.fx_setS, Pl.Eq.fx_setS0, Pl.Eq.at_nat, Pl.Eq.at_0, Pl.Eq.at_1, Pl.Eq.at_2, Pl.Eq.at_3, Pl.Eq.at_4, Pl.Eq.at_last, Pl.Eq.sz, Pl.Eq.ixN_0, Pl.Eq.ixN_1, Pl.Eq.ixN_2, Pl.Eq.ixN_3, Pl.Eq.ixN_4, List.getElem?_cons_zero, List.getElem?_cons_succ, List.set_cons_zero, List.set_cons_succ, Option.some.injEq, exists_eq_left, exists_eq_left', U.int.injEq, U.bl.injEq, U.tup.injEq, U.lst.injEq, Int.zero_add, Nat.reduceLeDiff, List.cons_append, List.nil_append, false_and, exists_false, exists_const, false_or, or_false, Pl.T.own, Pl.Ts.own, Pl.Ts.len, wipeU, Pl.Eq.eqI, Pl.Eq.eqB, beq_self_eq_true, Bool.not_true, Bool.not_false, Bool.false_eq_true, Bool.true_eq_false, reduceCtorEq, decide_true, decide_false, List.length_cons, List.length_nil, Nat.zero_add, Nat.reduceAdd, Nat.reduceLT, if_true, if_false, reduceIte, true_and, and_true, List.set_set, List.append_assoc, List.length_append, List.length_set, Nat.add_zero, List.append_nil, $as,*]))
local macro_rules | `(tactic| dsimp! [$as,*]) => `(tactic| (try simp only [Pl.Eq.e_cst, Pl.Eq.b_cst, Pl.Eq.e_var, Pl.Eq.b_var, Pl.Eq.e_bin, Pl.Eq.b_bin, Pl.Eq.e_neg, Pl.Eq.e_not, Pl.Eq.b_not, Pl.Eq.e_bop, Pl.Eq.b_bop, Pl.Eq.e_cmp, Pl.Eq.b_cmp, Pl.Eq.e_cmp2, Pl.Eq.b_cmp2, Pl.Eq.e_ife, Pl.Eq.b_ife, Pl.Eq.e_call, Pl.Eq.b_call, Pl.Eq.e_bi, Pl.Eq.b_bi, Pl.Eq.e_isi, Pl.Eq.b_isi, Pl.Eq.e_mth, Pl.Eq.e_ix, Pl.Eq.b_ix, Pl.Eq.e_sl, Pl.Eq.e_tup, Pl.Eq.e_lst, Pl.Eq.e_lc, Pl.Eq.e_lc2, Pl.Eq.e_lrg, Pl.Eq.e_dic, Pl.Eq.es_nil, Pl.Eq.es_cons, Pl.Eq.o_none, Pl.Eq.o_some, Pl.Eq.bb_nil, Pl.Eq.bb_cons, Pl.Eq.bo_one, Pl.Eq.bo_cons, Pl.Eq.f_nil, Pl.Eq.f_cons, Pl.Eq.i_val, Pl.Eq.i_rng1, Pl.Eq.i_rng2, Pl.Eq.i_rng3, Pl.Eq.i_enum, Pl.Eq.t_nm, Pl.Eq.t_tp, Pl.Eq.ts_nil, Pl.Eq.ts_cons, Pl.Eq.t_sub, Pl.Eq.s_expr, Pl.Eq.s_asg, Pl.Eq.s_par, Pl.Eq.s_aug, Pl.Eq.s_ret, Pl.Eq.s_retN, Pl.Eq.s_ifs, Pl.Eq.s_fr, Pl.Eq.s_brk, Pl.Eq.s_cnt, Pl.Eq.s_pass, Pl.Eq.ss_nil, Pl.Eq.p_addI, Pl.Eq.p_addT, Pl.Eq.p_subI, Pl.Eq.p_mulI, Pl.Eq.p_fdivI, Pl.Eq.p_modI, Pl.Eq.p_powI, Pl.Eq.p_lt, Pl.Eq.p_le, Pl.Eq.p_gt, Pl.Eq.p_ge, Pl.Eq.p_eq, Pl.Eq.p_ne, Pl.Eq.p_isN, Pl.Eq.p_notN, Pl.Eq.p_isB, Pl.Eq.p_notB, Pl.Eq.t_bl, Pl.Eq.t_int, Pl.Eq.t_tup, Pl.Eq.t_lst, Pl.Eq.mk_t, Pl.Eq.mk_f, Pl.Eq.i_non_tup, Pl.Eq.i_non_lst, Pl.Eq.i_non_int, Pl.Eq.i_non_bl, Pl.Eq.i_non_str, Pl.Eq.i_non_dic, Pl.Eq.i_bl_tup, Pl.Eq.i_bl_lst, Pl.Eq.i_bl_int, Pl.Eq.i_bl_bl, Pl.Eq.i_bl_str, Pl.Eq.i_bl_dic, Pl.Eq.i_int_tup, Pl.Eq.i_int_lst, Pl.Eq.i_int_int, Pl.Eq.i_int_bl, Pl.Eq.i_int_str, Pl.Eq.i_int_dic, Pl.Eq.i_str_tup, Pl.Eq.i_str_lst, Pl.Eq.i_str_int, Pl.Eq.i_str_bl, Pl.Eq.i_str_str, Pl.Eq.i_str_dic, Pl.Eq.i_tup_tup, Pl.Eq.i_tup_lst, Pl.Eq.i_tup_int, Pl.Eq.i_tup_bl, Pl.Eq.i_tup_str, Pl.Eq.i_tup_dic, Pl.Eq.i_lst_tup, Pl.Eq.i_lst_lst, Pl.Eq.i_lst_int, Pl.Eq.i_lst_bl, Pl.Eq.i_lst_str, Pl.Eq.i_lst_dic, Pl.Eq.n_non, Pl.Eq.n_bl, Pl.Eq.n_int, Pl.Eq.n_str, Pl.Eq.n_tup, Pl.Eq.n_lst, Pl.Eq.p_slT, Pl.Eq.p_lenT, Pl.Eq.p_lenL, Pl.Eq.p_lenR, Pl.Eq.p_intI, Pl.Eq.p_tuple, Pl.Eq.p_list, Pl.Eq.p_sorted, Pl.Eq.p_max1, Pl.Eq.p_min1, Pl.Eq.p_min, Pl.Eq.p_intB, Pl.Eq.p_mulT, Pl.Eq.p_addLL, Pl.Eq.p_slL, Pl.Eq.it_tup, Pl.Eq.it_lst, Pl.Eq.it_ro, Pl.Eq.si_lst, Pl.Eq.p_all, Pl.Eq.p_any, Pl.Eq.p_max, Pl.Eq.q_tup, Pl.Eq.q_lst, Pl.Eq.q_ro, Pl.Eq.l_lst, Pl.Eq.src_tup, Pl.Eq.src_lst, Pl.Eq.src_ro, Pl.Eq.src_mr, Pl.Eq.atP_some, Pl.Eq.x_tup_, Pl.Eq.x_lst_, Pl.Eq.x_ro_, Pl.Eq.seq_mr, Pl.Eq.lst_mr, Pl.Eq.dic_mr, Pl.Eq.tru_mr, Pl.Eq.it_mr, Pl.Eq.si_mr, Pl.Eq.x_mr, Pl.Eq.set_mr, Pl.Eq.len_mr, Pl.Eq.in_mr, Pl.Eq.nin_mr, Pl.Eq.ty_mr, Pl.Eq.mt_app, Pl.Eq.mt_p0, Pl.Eq.mt_p1, Pl.Eq.mt_ex, Pl.Eq.mt_in, Pl.Eq.mt_g1, Pl.Eq.mt_g2, Pl.Eq.oL_seq, Pl.Eq.oL_tru, Pl.Eq.oL_it, Pl.Eq.oL_ix, Pl.Eq.oL_set, Pl.Eq.oL_len, Pl.Eq.oL_in, Pl.Eq.oL_tyA, Pl.Eq.oL_tyI, Pl.Eq.oL_tyP, Pl.Eq.oL_tyQ, Pl.Eq.oL_tyE, Pl.Eq.oL_tyN, Pl.Eq.oL_app, Pl.Eq.oL_p0, Pl.Eq.oL_p1, Pl.Eq.oL_ex, Pl.Eq.oL_ins, Pl.Eq.oD_dic, Pl.Eq.oL_dic, Pl.Eq.oD_it, Pl.Eq.oD_ix, Pl.Eq.oD_set, Pl.Eq.oD_len, Pl.Eq.oD_in, Pl.Eq.oD_tyG, Pl.Eq.oD_tyH, Pl.Eq.oD_g1, Pl.Eq.oD_g2, Pl.Eq.fx_get, Pl.Eq.fx_get0, Pl.Eq.fx_set, Pl.Eq.fx_set0, Pl.Eq.fx_getS, Pl.Eq.fx_getS0, Pl.Eq.fx_setS, Pl.Eq.fx_setS0, Pl.Eq.at_nat, Pl.Eq.at_0, Pl.Eq.at_1, Pl.Eq.at_2, Pl.Eq.at_3, Pl.Eq.at_4, Pl.Eq.at_last, Pl.Eq.sz, Pl.Eq.ixN_0, Pl.Eq.ixN_1, Pl.Eq.ixN_2, Pl.Eq.ixN_3, Pl.Eq.ixN_4, List.getElem?_cons_zero, List.getElem?_cons_succ, List.set_cons_zero, List.set_cons_succ, Option.some.injEq, exists_eq_left, exists_eq_left', U.int.injEq, U.bl.injEq, U.tup.injEq, U.lst.injEq, Int.zero_add, Nat.reduceLeDiff, List.cons_append, List.nil_append, false_and, exists_false, exists_const, false_or, or_false, Pl.T.own, Pl.Ts.own, Pl.Ts.len, wipeU, Pl.Eq.eqI, Pl.Eq.eqB, beq_self_eq_true, Bool.not_true, Bool.not_false, Bool.false_eq_true, Bool.true_eq_false, reduceCtorEq, decide_true, decide_false, List.length_cons, List.length_nil, Nat.zero_add, Nat.reduceAdd, Nat.reduceLT, if_true, if_false, reduceIte, true_and, and_true, List.set_set, List.append_assoc, List.length_append, List.length_set, Nat.add_zero, List.append_nil, $as,*]))
abbrev tbl := tblOf ds
theorem f_mix : tbl "_law_mix" = some ⟨1, 1, t_mix⟩ := rfl
theorem f_take : tbl "_law_take" = some ⟨2, 4, t_take⟩ := rfl
theorem f_same : tbl "_law_same" = some ⟨2, 3, t_same⟩ := rfl
theorem f_ldiffer : tbl "_law_differ" = some ⟨2, 2, m_law_differ⟩ := rfl
theorem f_leads : tbl "_law_leads" = some ⟨4, 7, b_law_leads⟩ := rfl
theorem f_marked : tbl "_law_marked" = some ⟨1, 8, b_law_marked⟩ := rfl
theorem f_walked : tbl "_law_walked" = some ⟨2, 10, b_law_walked⟩ := rfl
theorem mx_c {x y : Nat} : (if (y : Int) > (x : Int) then (y : Int) else (x : Int)) = ((max x y : Nat) : Int) := by
  split <;> omega
theorem mn_c {x y : Nat} : (if (y : Int) < (x : Int) then (y : Int) else (x : Int)) = ((min x y : Nat) : Int) := by
  split <;> omega
section
variable {n : Nat} {h : Hu} {Q : QE} {E : Ex → Hu → Prop}
theorem c_leads {c w md : Nat} {t : Tb} {D : List (Nat × Nat)} (m : MOk c w t) (hw : w ≤ 1000) (z : h[md]? = some (.dic (kdT D))) {a b : Nat} (ha : a < t.length) (hb : b < t.length) (q : Q (.bl (leads t w D a b)) h) : callN tbl (n + 1) "_law_leads" [encT t, .mr md, .int a, .int b] h Q E := by
  refine call_in f_leads rfl (g := [some (encT t), some (.mr md), some (.int a), some (.int b), none, none, none]) rfl ?_
  unfold b_law_leads
  have hs : 1000000 < sizeLine := by decide
  have ea : (t.map encL)[a]? = some (.tup ((t.getD a []).map encP)) := by rw [List.getElem?_map, List.getElem?_eq_getElem ha, getD_lt ha]; rfl
  have eb : (t.map encL)[b]? = some (.tup ((t.getD b []).map encP)) := by rw [List.getElem?_map, List.getElem?_eq_getElem hb, getD_lt hb]; rfl
  have la := m.wf.len _ (by rw [getD_lt ha]; exact List.getElem_mem ha : t.getD a [] ∈ t)
  simp_all! [encT, ea, List.length_map, la]
  refine ⟨⟨by omega, by omega⟩, ?_⟩
  refine frRng (fun i g h' => h' = h ∧ (∃ x y z, g = [some (.tup (t.map encL)), some (.mr md), some (.int a), some (.int b), x, y, z]) ∧ (List.range i).any (fun r => leadB D (pc t a r) (pc t b r)) = false) ⟨rfl, ⟨_, _, _, rfl⟩, rfl⟩ ?_ ?_
  · rintro i _ _ hi ⟨rfl, ⟨x, y, z', rfl⟩, no⟩ k hk
    have hi' : i < w := by simpa using hi
    have za : ((t.getD a []).map encP)[i]? = some (encP (pc t a i)) := by rw [List.getElem?_map, pc_at2 m.wf ha hi']; rfl
    have zb : ((t.getD b []).map encP)[i]? = some (encP (pc t b i)) := by rw [List.getElem?_map, pc_at2 m.wf hb hi']; rfl
    have nx : leadB D (pc t a i) (pc t b i) = false → (List.range (i + 1)).any (fun r => leadB D (pc t a r) (pc t b r)) = false := fun z => by
      rw [List.range_succ, List.any_append, no]
      simpa using z
    have yes : leadB D (pc t a i) (pc t b i) = true → leads t w D a b = true := fun z => by
      unfold leads
      rw [List.any_eq_true]
      exact ⟨i, by simpa using hi', z⟩
    simp_all! [ea, za]
    simp_all! [eb, zb]
    generalize pc t a i = p1 at *
    generalize pc t b i = p2 at *
    cases p1 with
    | none =>
      simp_all! [encP]
      exact hk _ _ ⟨rfl, ⟨_, _, _, rfl⟩, nx rfl⟩
    | some p1 =>
      obtain ⟨u, x1⟩ := p1
      cases p2 with
      | none =>
        simp_all! [encP]
        exact hk _ _ ⟨rfl, ⟨_, _, _, rfl⟩, nx rfl⟩
      | some p2 =>
        obtain ⟨v, x2⟩ := p2
        simp_all! [encP, mx_c, mn_c, pr_mk, z, pr_enc.s, kdT_in]
        by_cases mem : (max x1 x2, min x1 x2) ∈ D
        · dsimp! [mem]
          simp_all! []
          rw [yes (decide_eq_true mem)] at q
          exact .inl q
        · dsimp! [mem]
          exact hk _ _ ⟨rfl, ⟨_, _, _, rfl⟩, nx (decide_eq_false mem)⟩
  · rintro _ _ ⟨rfl, ⟨x, y, z', rfl⟩, no⟩
    simp_all! []
    have : leads t w D a b = false := by unfold leads; simpa using no
    rw [this] at q
    exact .inl q
theorem c_marked {c w : Nat} {rs : List U} {t : Tb} {K : List Nat} (m : MOk c w t) (hr : rs.length = w) (hw : w ≤ 1000) (hc : c ≤ 1000) (ht : t.length ≤ 100) (k : ClsOk t K)
    (q : ∀ D, MkOk t.length K D → Cmp K t.length D → Q (.mr h.length) (h ++ [.dic (kdT D)])) : callN tbl (n + 4) "_law_marked" [.tup [.tup rs, encT t]] h Q E := by
  refine call_in f_marked rfl (g := [some (.tup [.tup rs, encT t]), none, none, none, none, none, none, none]) rfl ?_
  unfold b_law_marked
  have hs : 1000000 < sizeLine := by decide
  have dlen : ∀ D, MkOk t.length K D → (kdT D).length < sizeLine := fun D d => by
    have := d.len
    have : t.length * t.length ≤ 100 * 100 := Nat.mul_le_mul ht ht
    simp [kdT]; omega
  simp_all! [encT]
  simp_all! []
  refine ⟨_, rfl, by decide, by decide, ?_⟩
  simp_all! [List.length_map]
  refine ⟨⟨by omega, by omega⟩, ?_⟩
  have i0 := it_in m.wf 0
  refine frRng (fun i g h' => ∃ (D : List (Nat × Nat)) (x y z : Option U), h' = h ++ [.dic (kdT D)] ∧ g = [some (.tup [.tup rs, .tup (t.map encL)]), some (.tup rs), some (.tup (t.map encL)), some (.mr h.length), x, none, y, z] ∧ MkOk t.length K D ∧
    ∀ a b, b < a → a < i → (it t 0).getD a 0 ≠ (it t 0).getD b 0 → (a, b) ∈ D) ⟨[], _, _, _, rfl, rfl, ⟨List.nodup_nil, by simp⟩, by omega⟩ ?_ ?_
  · rintro i _ _ hi ⟨D, x, y, z, rfl, rfl, dk, cp⟩ kk hk
    have hi' : i < t.length := by simpa using hi
    simp_all! []
    refine ⟨⟨by omega, by omega⟩, ?_⟩
    refine frRng (fun j g h' => ∃ (D : List (Nat × Nat)) (y z : Option U), h' = h ++ [.dic (kdT D)] ∧ g = [some (.tup [.tup rs, .tup (t.map encL)]), some (.tup rs), some (.tup (t.map encL)), some (.mr h.length), some (.int i), none, y, z] ∧ MkOk t.length K D ∧
      (∀ a b, b < a → a < i → (it t 0).getD a 0 ≠ (it t 0).getD b 0 → (a, b) ∈ D) ∧ ∀ b, b < j → (it t 0).getD i 0 ≠ (it t 0).getD b 0 → (i, b) ∈ D) ⟨D, _, _, rfl, rfl, dk, cp, by omega⟩ ?_ ?_
    · rintro j _ _ hj ⟨D, y, z, rfl, rfl, dk, cp, cp2⟩ k2 hk2
      have hj' : j < i := by simpa using hj
      have hjt : j < t.length := by omega
      have ea : (t.map encL)[i]? = some (.tup ((t.getD i []).map encP)) := by rw [List.getElem?_map, List.getElem?_eq_getElem hi', getD_lt hi']; rfl
      have eb : (t.map encL)[j]? = some (.tup ((t.getD j []).map encP)) := by rw [List.getElem?_map, List.getElem?_eq_getElem hjt, getD_lt hjt]; rfl
      rw [Pl.Eq.ss_cons]
      dsimp! [hr]
      refine ⟨⟨by omega, by omega⟩, by simp [rngU]; omega, ?_⟩
      refine lcRng (fun r acc h' => h' = h ++ [.dic (kdT D)] ∧ acc = ((List.range r).map fun r => difP (pc t i r) (pc t j r)).map .bl) ⟨rfl, rfl⟩ ?_ ?_
      · rintro r _ _ hr ⟨rfl, rfl⟩ k3 hk3 _
        have hr' : r < w := by simpa using hr
        have za : ((t.getD i []).map encP)[r]? = some (encP (pc t i r)) := by rw [List.getElem?_map, pc_at2 m.wf hi' hr']; rfl
        have zb : ((t.getD j []).map encP)[r]? = some (encP (pc t j r)) := by rw [List.getElem?_map, pc_at2 m.wf hjt hr']; rfl
        dsimp! [ea, eb, za, zb]
        refine l_differ f_same f_ldiffer (pc_out m hc) (pc_out m hc) (hk3 _ _ ⟨rfl, ?_⟩)
        rw [List.range_succ, List.map_append, List.map_append]
        rfl
      rintro _ _ ⟨rfl, rfl⟩
      dsimp! [bools_map]
      have ln := ln_iff m hc hi' hjt
      by_cases dif : ((List.range w).map fun r => difP (pc t i r) (pc t j r)).any id = true
      · have dif' : ((List.range (w : Int).toNat).map fun r => difP (pc t i r) (pc t j r)).any id = true := dif
        dsimp! [dif']
        simp_all! [pr_mk, pr_enc.s, kdT_put]
        have ne : K.getD i 0 ≠ K.getD j 0 := fun e => by
          have := ln.mp (k.fk i j hi' hjt e)
          rw [List.any_map, List.any_eq_true] at dif
          obtain ⟨r, rm, rr⟩ := dif
          have := this r (by simpa using rm)
          simp only [Function.comp_apply, id_eq] at rr
          rw [this] at rr
          cases rr
        refine ⟨dlen D dk, hk2 _ _ ⟨addK D (i, j), _, _, rfl, rfl, dk.add hj' hi' ne, fun a b x y z => addK_mem.mpr (.inl (cp a b x y z)), fun b hb x => ?_⟩⟩
        by_cases e : b = j
        · exact addK_mem.mpr (.inr (by rw [e]))
        · exact addK_mem.mpr (.inl (cp2 b (by omega) x))
      · have dif2 : ((List.range w).map fun r => difP (pc t i r) (pc t j r)).any id = false := by simpa using dif
        have dif' : ((List.range (w : Int).toNat).map fun r => difP (pc t i r) (pc t j r)).any id = false := dif2
        dsimp! [dif']
        refine hk2 _ _ ⟨D, _, _, rfl, rfl, dk, cp, fun b hb x => ?_⟩
        by_cases e : b = j
        · subst e
          refine absurd ?_ x
          have fe : (fks t)[i]'(by simpa [fks] using hi') = (fks t)[b]'(by simpa [fks] using hjt) := by
            have : lnK (t.getD i []) = lnK (t.getD b []) := ln.mpr fun r hr => by
              rw [List.any_map, List.any_eq_false] at dif2
              have := dif2 r (by simpa using hr)
              simpa using this
            rw [getD_lt hi', getD_lt hjt] at this
            simpa [fks] using this
          exact (ordN_eq (ks := fks t) (by simpa [fks] using hi') (by simpa [fks] using hjt)).mpr fe
        · exact cp2 b (by omega) x
    · rintro _ _ ⟨D, y, z, rfl, rfl, dk, cp, cp2⟩
      dsimp! []
      refine hk _ _ ⟨D, _, _, _, rfl, rfl, dk, fun a b x y z => ?_⟩
      by_cases e : a = i
      · subst e
        exact cp2 b (by simpa using x) z
      · exact cp a b x (by omega) z
  rintro _ _ ⟨D, x, y, z, rfl, rfl, dk, cp⟩
  simp_all! [List.length_map]
  refine ⟨⟨by omega, by omega⟩, ?_⟩
  refine frRng (fun i g h' => ∃ (D : List (Nat × Nat)) (x y z x2 : Option U), h' = h ++ [.dic (kdT D)] ∧ g = [some (.tup [.tup rs, .tup (t.map encL)]), some (.tup rs), some (.tup (t.map encL)), some (.mr h.length), x, x2, y, z] ∧ MkOk t.length K D ∧ Cmp (it t i) t.length D)
    ⟨D, _, _, _, _, rfl, rfl, dk, fun a b x y z => cp a b x (by simpa using y) z⟩ ?_ ?_
  · rintro ro _ _ hro ⟨D, x, y, z, x2, rfl, rfl, dk, cp⟩ kk hk
    simp_all! [List.length_map]
    refine ⟨⟨by omega, by omega⟩, ?_⟩
    refine frRng (fun i g h' => ∃ (D : List (Nat × Nat)) (x y z x2 : Option U), h' = h ++ [.dic (kdT D)] ∧ g = [some (.tup [.tup rs, .tup (t.map encL)]), some (.tup rs), some (.tup (t.map encL)), some (.mr h.length), x, x2, y, z] ∧ MkOk t.length K D ∧ Cmp (it t ro) t.length D ∧
      ∀ a b, b < a → a < i → (it t (ro + 1)).getD a 0 ≠ (it t (ro + 1)).getD b 0 → (a, b) ∈ D) ⟨D, _, _, _, _, rfl, rfl, dk, cp, by omega⟩ ?_ ?_
    · rintro i _ _ hi ⟨D, x, y, z, x2, rfl, rfl, dk, cp, cq⟩ kk hk
      have hi' : i < t.length := by simpa using hi
      simp_all! []
      refine ⟨⟨by omega, by omega⟩, ?_⟩
      refine frRng (fun j g h' => ∃ (D : List (Nat × Nat)) (y z x2 : Option U), h' = h ++ [.dic (kdT D)] ∧ g = [some (.tup [.tup rs, .tup (t.map encL)]), some (.tup rs), some (.tup (t.map encL)), some (.mr h.length), some (.int i), x2, y, z] ∧ MkOk t.length K D ∧ Cmp (it t ro) t.length D ∧
        (∀ a b, b < a → a < i → (it t (ro + 1)).getD a 0 ≠ (it t (ro + 1)).getD b 0 → (a, b) ∈ D) ∧ ∀ b, b < j → (it t (ro + 1)).getD i 0 ≠ (it t (ro + 1)).getD b 0 → (i, b) ∈ D) ⟨D, _, _, _, rfl, rfl, dk, cp, cq, by omega⟩ ?_ ?_
      · rintro j _ _ hj ⟨D, y, z, x2, rfl, rfl, dk, cp, cq, cq2⟩ k2 hk2
        have hj' : j < i := by simpa using hj
        have hjt : j < t.length := by omega
        have all := fun x => leads_all m hc cp hj' hi' x
        simp_all! [pr_mk, pr_enc.s, kdT_in]
        by_cases mem : (i, j) ∈ D
        · dsimp! [mem]
          refine hk2 _ _ ⟨D, _, _, _, rfl, rfl, dk, cp, cq, fun b hb x => ?_⟩
          by_cases e : b = j
          · rw [e]; exact mem
          · exact cq2 b (by omega) x
        · dsimp! [mem]
          refine c_leads (n := n + 2) m hw fx_get0 hi' hjt ?_
          dsimp! []
          cases ld : leads t w D i j with
          | true =>
            have ne := leads_right m hc k dk hi' hjt ld
            dsimp! []
            simp_all! [pr_mk, pr_enc.s, kdT_put]
            refine ⟨dlen D dk, hk2 _ _ ⟨addK D (i, j), _, _, _, rfl, rfl, dk.add hj' hi' ne, cp.sub, fun a b x y z => addK_mem.mpr (.inl (cq a b x y z)), fun b hb x => ?_⟩⟩
            by_cases e : b = j
            · exact addK_mem.mpr (.inr (by rw [e]))
            · exact addK_mem.mpr (.inl (cq2 b (by omega) x))
          | false =>
            dsimp! []
            refine hk2 _ _ ⟨D, _, _, _, rfl, rfl, dk, cp, cq, fun b hb x => ?_⟩
            by_cases e : b = j
            · subst e
              rcases all x with z | z
              · exact z
              · rw [ld] at z; cases z
            · exact cq2 b (by omega) x
      · rintro _ _ ⟨D, y, z, x2, rfl, rfl, dk, cp, cq, cq2⟩
        dsimp! []
        refine hk _ _ ⟨D, _, _, _, _, rfl, rfl, dk, cp, fun a b x y z => ?_⟩
        by_cases e : a = i
        · subst e
          exact cq2 b (by simpa using x) z
        · exact cq a b x (by omega) z
    · rintro _ _ ⟨D, x, y, z, x2, rfl, rfl, dk, cp, cq⟩
      dsimp! []
      exact hk _ _ ⟨D, _, _, _, _, rfl, rfl, dk, fun a b x y z => cq a b x (by simpa using y) z⟩
  · rintro _ _ ⟨D, x, y, z, x2, rfl, rfl, dk, cp⟩
    simp_all! []
    refine .inl (q D dk ?_)
    have e : it t t.length = K := (it_cls m.wf).uniq m hc k
    have e2 : it t (((t.length : Int) + 1)).toNat = K := by
      have : ((t.length : Int) + 1).toNat = t.length + 1 := by omega
      rw [this]
      show refN t (it t t.length) = K
      rw [it_stable m.wf, e]
    rw [e2] at cp
    exact cp
end
end L56
set_option Elab.async false
set_option linter.all false
set_option maxRecDepth 100000
set_option autoImplicit false
/-! the walk in pairs; the numbers. -/
namespace L56
open PySem Pl L2 Pl.Eq Pl.Tp Pl.Ma
local macro_rules | `(tactic| simp_all! [$as,*]) => `(tactic| ((try dsimp only); rw [Pl.Eq.ss_cons]; simp only [Pl.Eq.e_cst, Pl.Eq.b_cst, Pl.Eq.e_var, Pl.Eq.b_var, Pl.Eq.e_bin, Pl.Eq.b_bin, Pl.Eq.e_neg, Pl.Eq.e_not, Pl.Eq.b_not, Pl.Eq.e_bop, Pl.Eq.b_bop, Pl.Eq.e_cmp, Pl.Eq.b_cmp, Pl.Eq.e_cmp2, Pl.Eq.b_cmp2, Pl.Eq.e_ife, Pl.Eq.b_ife, Pl.Eq.e_call, Pl.Eq.b_call, Pl.Eq.e_bi, Pl.Eq.b_bi, Pl.Eq.e_isi, Pl.Eq.b_isi, Pl.Eq.e_mth, Pl.Eq.e_ix, Pl.Eq.b_ix, Pl.Eq.e_sl, Pl.Eq.e_tup, Pl.Eq.e_lst, Pl.Eq.e_lc, Pl.Eq.e_lc2, Pl.Eq.e_lrg, Pl.Eq.e_dic, Pl.Eq.es_nil, Pl.Eq.es_cons, Pl.Eq.o_none, Pl.Eq.o_some, Pl.Eq.bb_nil, Pl.Eq.bb_cons, Pl.Eq.bo_one, Pl.Eq.bo_cons, Pl.Eq.f_nil, Pl.Eq.f_cons, Pl.Eq.i_val, Pl.Eq.i_rng1, Pl.Eq.i_rng2, Pl.Eq.i_rng3, Pl.Eq.i_enum, Pl.Eq.t_nm, Pl.Eq.t_tp, Pl.Eq.ts_nil, Pl.Eq.ts_cons, Pl.Eq.t_sub, Pl.Eq.s_expr, Pl.Eq.s_asg, Pl.Eq.s_par, Pl.Eq.s_aug, Pl.Eq.s_ret, Pl.Eq.s_retN, Pl.Eq.s_ifs, Pl.Eq.s_fr, Pl.Eq.s_brk, Pl.Eq.s_cnt, Pl.Eq.s_pass, Pl.Eq.ss_nil, Pl.Eq.p_addI, Pl.Eq.p_addT, Pl.Eq.p_subI, Pl.Eq.p_mulI, Pl.Eq.p_fdivI, Pl.Eq.p_modI, Pl.Eq.p_powI, Pl.Eq.p_lt, Pl.Eq.p_le, Pl.Eq.p_gt, Pl.Eq.p_ge, Pl.Eq.p_eq, Pl.Eq.p_ne, Pl.Eq.p_isN, Pl.Eq.p_notN, Pl.Eq.p_isB, Pl.Eq.p_notB, Pl.Eq.t_bl, Pl.Eq.t_int, Pl.Eq.t_tup, Pl.Eq.t_lst, Pl.Eq.mk_t, Pl.Eq.mk_f, Pl.Eq.i_non_tup, Pl.Eq.i_non_lst, Pl.Eq.i_non_int, Pl.Eq.i_non_bl, Pl.Eq.i_non_str, Pl.Eq.i_non_dic, Pl.Eq.i_bl_tup, Pl.Eq.i_bl_lst, Pl.Eq.i_bl_int, Pl.Eq.i_bl_bl, Pl.Eq.i_bl_str, Pl.Eq.i_bl_dic, Pl.Eq.i_int_tup, Pl.Eq.i_int_lst, Pl.Eq.i_int_int, Pl.Eq.i_int_bl, Pl.Eq.i_int_str, Pl.Eq.i_int_dic, Pl.Eq.i_str_tup, Pl.Eq.i_str_lst, Pl.Eq.i_str_int, Pl.Eq.i_str_bl, Pl.Eq.i_str_str, Pl.Eq.i_str_dic, Pl.Eq.i_tup_tup, Pl.Eq.i_tup_lst, Pl.Eq.i_tup_int, Pl.Eq.i_tup_bl, Pl.Eq.i_tup_str, Pl.Eq.i_tup_dic, Pl.Eq.i_lst_tup, Pl.Eq.i_lst_lst, Pl.Eq.i_lst_int, Pl.Eq.i_lst_bl, Pl.Eq.i_lst_str, Pl.Eq.i_lst_dic, Pl.Eq.n_non, Pl.Eq.n_bl, Pl.Eq.n_int, Pl.Eq.n_str, Pl.Eq.n_tup, Pl.Eq.n_lst, Pl.Eq.p_slT, Pl.Eq.p_lenT, Pl.Eq.p_lenL, Pl.Eq.p_lenR, Pl.Eq.p_intI, Pl.Eq.p_tuple, Pl.Eq.p_list, Pl.Eq.p_sorted, Pl.Eq.p_max1, Pl.Eq.p_min1, Pl.Eq.p_min, Pl.Eq.p_intB, Pl.Eq.p_mulT, Pl.Eq.p_addLL, Pl.Eq.p_slL, Pl.Eq.it_tup, Pl.Eq.it_lst, Pl.Eq.it_ro, Pl.Eq.si_lst, Pl.Eq.p_all, Pl.Eq.p_any, Pl.Eq.p_max, Pl.Eq.q_tup, Pl.Eq.q_lst, Pl.Eq.q_ro, Pl.Eq.l_lst, Pl.Eq.src_tup, Pl.Eq.src_lst, Pl.Eq.src_ro, Pl.Eq.src_mr, Pl.Eq.atP_some, Pl.Eq.x_tup_, Pl.Eq.x_lst_, Pl.Eq.x_ro_, Pl.Eq.seq_mr, Pl.Eq.lst_mr, Pl.Eq.dic_mr, Pl.Eq.tru_mr, Pl.Eq.it_mr, Pl.Eq.si_mr, Pl.Eq.x_mr, Pl.Eq.set_mr, Pl.Eq.len_mr, Pl.Eq.in_mr, Pl.Eq.nin_mr, Pl.Eq.ty_mr, Pl.Eq.mt_app, Pl.Eq.mt_p0, Pl.Eq.mt_p1, Pl.Eq.mt_ex, Pl.Eq.mt_in, Pl.Eq.mt_g1, Pl.Eq.mt_g2, Pl.Eq.oL_seq, Pl.Eq.oL_tru, Pl.Eq.oL_it, Pl.Eq.oL_ix, Pl.Eq.oL_set, Pl.Eq.oL_len, Pl.Eq.oL_in, Pl.Eq.oL_tyA, Pl.Eq.oL_tyI, Pl.Eq.oL_tyP, Pl.Eq.oL_tyQ, Pl.Eq.oL_tyE, Pl.Eq.oL_tyN, Pl.Eq.oL_app, Pl.Eq.oL_p0, Pl.Eq.oL_p1, Pl.Eq.oL_ex, Pl.Eq.oL_ins, Pl.Eq.oD_dic, Pl.Eq.oL_dic, Pl.Eq.oD_it, Pl.Eq.oD_ix, Pl.Eq.oD_set, Pl.Eq.oD_len, Pl.Eq.oD_in, Pl.Eq.oD_tyG, Pl.Eq.oD_tyH, Pl.Eq.oD_g1, Pl.Eq.oD_g2, Pl.Eq.fx_get, Pl.Eq.fx_get0, Pl.Eq.fx_set, Pl.Eq.fx_set0, Pl.Eq.fx_getS, Pl.Eq.fx_getS0, Pl.Eq.fx_setS, Pl.Eq.fx_setS0, Pl.Eq.at_nat, Pl.Eq.at_0, Pl.Eq.at_1, Pl.Eq.at_2, Pl.Eq.at_3, Pl.Eq.at_4, Pl.Eq.at_last, Pl.Eq.sz, Pl.Eq.ixN_0, Pl.Eq.ixN_1, Pl.Eq.ixN_2, Pl.Eq.ixN_3, Pl.Eq.ixN_4, List.getElem?_cons_zero, List.getElem?_cons_succ, List.set_cons_zero, List.set_cons_succ, Option.some.injEq, exists_eq_left, exists_eq_left', U.int.injEq, U.bl.injEq, U.tup.injEq, U.lst.injEq, Int.zero_add, Nat.reduceLeDiff, List.cons_append, List.nil_append, false_and, exists_false, exists_const, false_or, or_false, Pl.T.own, Pl.Ts.own, Pl.Ts.len, wipeU, Pl.Eq.eqI, Pl.Eq.eqB, beq_self_eq_true, Bool.not_true, Bool.not_false, Bool.false_eq_true, Bool.true_eq_false, reduceCtorEq, decide_true, decide_false, List.length_cons, List.length_nil, Nat.zero_add, Nat.reduceAdd, Nat.reduceLT, if_true, if_false, reduceIte, true_and, and_true, List.set_set, List.append_assoc, List.length_append, List.length_set, Nat.add_zero, List.append_nil, $as,*]))
local macro_rules | `(tactic| dsimp! [$as,*]) => `(tactic| (try simp only [Pl.Eq.e_cst, Pl.Eq.b_cst, Pl.Eq.e_var, Pl.Eq.b_var, Pl.Eq.e_bin, Pl.Eq.b_bin, Pl.Eq.e_neg, Pl.Eq.e_not, Pl.Eq.b_not, Pl.Eq.e_bop, Pl.Eq.b_bop, Pl.Eq.e_cmp, Pl.Eq.b_cmp, Pl.Eq.e_cmp2, Pl.Eq.b_cmp2, Pl.Eq.e_ife, Pl.Eq.b_ife, Pl.Eq.e_call, Pl.Eq.b_call, Pl.Eq.e_bi, Pl.Eq.b_bi, Pl.Eq.e_isi, Pl.Eq.b_isi, Pl.Eq.e_mth, Pl.Eq.e_ix, Pl.Eq.b_ix, Pl.Eq.e_sl, Pl.Eq.e_tup, Pl.Eq.e_lst, Pl.Eq.e_lc, Pl.Eq.e_lc2, Pl.Eq.e_lrg, Pl.Eq.e_dic, Pl.Eq.es_nil, Pl.Eq.es_cons, Pl.Eq.o_none, Pl.Eq.o_some, Pl.Eq.bb_nil, Pl.Eq.bb_cons, Pl.Eq.bo_one, Pl.Eq.bo_cons, Pl.Eq.f_nil, Pl.Eq.f_cons, Pl.Eq.i_val, Pl.Eq.i_rng1, Pl.Eq.i_rng2, Pl.Eq.i_rng3, Pl.Eq.i_enum, Pl.Eq.t_nm, Pl.Eq.t_tp, Pl.Eq.ts_nil, Pl.Eq.ts_cons, Pl.Eq.t_sub, Pl.Eq.s_expr, Pl.Eq.s_asg, Pl.Eq.s_par, Pl.Eq.s_aug, Pl.Eq.s_ret, Pl.Eq.s_retN, Pl.Eq.s_ifs, Pl.Eq.s_fr, Pl.Eq.s_brk, Pl.Eq.s_cnt, Pl.Eq.s_pass, Pl.Eq.ss_nil, Pl.Eq.p_addI, Pl.Eq.p_addT, Pl.Eq.p_subI, Pl.Eq.p_mulI, Pl.Eq.p_fdivI, Pl.Eq.p_modI, Pl.Eq.p_powI, Pl.Eq.p_lt, Pl.Eq.p_le, Pl.Eq.p_gt, Pl.Eq.p_ge, Pl.Eq.p_eq, Pl.Eq.p_ne, Pl.Eq.p_isN, Pl.Eq.p_notN, Pl.Eq.p_isB, Pl.Eq.p_notB, Pl.Eq.t_bl, Pl.Eq.t_int, Pl.Eq.t_tup, Pl.Eq.t_lst, Pl.Eq.mk_t, Pl.Eq.mk_f, Pl.Eq.i_non_tup, Pl.Eq.i_non_lst, Pl.Eq.i_non_int, Pl.Eq.i_non_bl, Pl.Eq.i_non_str, Pl.Eq.i_non_dic, Pl.Eq.i_bl_tup, Pl.Eq.i_bl_lst, Pl.Eq.i_bl_int, Pl.Eq.i_bl_bl, Pl.Eq.i_bl_str, Pl.Eq.i_bl_dic, Pl.Eq.i_int_tup, Pl.Eq.i_int_lst, Pl.Eq.i_int_int, Pl.Eq.i_int_bl, Pl.Eq.i_int_str, Pl.Eq.i_int_dic, Pl.Eq.i_str_tup, Pl.Eq.i_str_lst, Pl.Eq.i_str_int, Pl.Eq.i_str_bl, Pl.Eq.i_str_str, Pl.Eq.i_str_dic, Pl.Eq.i_tup_tup, Pl.Eq.i_tup_lst, Pl.Eq.i_tup_int, Pl.Eq.i_tup_bl, Pl.Eq.i_tup_str, Pl.Eq.i_tup_dic, Pl.Eq.i_lst_tup, Pl.Eq.i_lst_lst, Pl.Eq.i_lst_int, Pl.Eq.i_lst_bl, Pl.Eq.i_lst_str, Pl.Eq.i_lst_dic, Pl.Eq.n_non, Pl.Eq.n_bl, Pl.Eq.n_int, Pl.Eq.n_str, Pl.Eq.n_tup, Pl.Eq.n_lst, Pl.Eq.p_slT, Pl.Eq.p_lenT, Pl.Eq.p_lenL, Pl.Eq.p_lenR, Pl.Eq.p_intI, Pl.Eq.p_tuple, Pl.Eq.p_list, Pl.Eq.p_sorted, Pl.Eq.p_max1, Pl.Eq.p_min1, Pl.Eq.p_min, Pl.Eq.p_intB, Pl.Eq.p_mulT, Pl.Eq.p_addLL, Pl.Eq.p_slL, Pl.Eq.it_tup, Pl.Eq.it_lst, Pl.Eq.it_ro, Pl.Eq.si_lst, Pl.Eq.p_all, Pl.Eq.p_any, Pl.Eq.p_max, Pl.Eq.q_tup, Pl.Eq.q_lst, Pl.Eq.q_ro, Pl.Eq.l_lst, Pl.Eq.src_tup, Pl.Eq.src_lst, Pl.Eq.src_ro, Pl.Eq.src_mr, Pl.Eq.atP_some, Pl.Eq.x_tup_, Pl.Eq.x_lst_, Pl.Eq.x_ro_, Pl.Eq.seq_mr, Pl.Eq.lst_mr, Pl.Eq.dic_mr, Pl.Eq.tru_mr, Pl.Eq.it_mr, Pl.Eq.si_mr, Pl.Eq.x_mr, Pl.Eq.set_mr, Pl.Eq.len_mr, Pl.Eq.in_mr, Pl.Eq.nin_mr, Pl.Eq.ty_mr, Pl.Eq.mt_app, Pl.Eq.mt_p0, Pl.Eq.mt_p1, Pl.Eq.mt_ex, Pl.Eq.mt_in, Pl.Eq.mt_g1, Pl.Eq.mt_g2, Pl.Eq.oL_seq, Pl.Eq.oL_tru, Pl.Eq.oL_it, Pl.Eq.oL_ix, Pl.Eq.oL_set, Pl.Eq.oL_len, Pl.Eq.oL_in, Pl.Eq.oL_tyA, Pl.Eq.oL_tyI, Pl.Eq.oL_tyP, Pl.Eq.oL_tyQ, Pl.Eq.oL_tyE, Pl.Eq.oL_tyN, Pl.Eq.oL_app, Pl.Eq.oL_p0, Pl.Eq.oL_p1, Pl.Eq.oL_ex, Pl.Eq.oL_ins, Pl.Eq.oD_dic, Pl.Eq.oL_dic, Pl.Eq.oD_it, Pl.Eq.oD_ix, Pl.Eq.oD_set, Pl.Eq.oD_len, Pl.Eq.oD_in, Pl.Eq.oD_tyG, Pl.Eq.oD_tyH, Pl.Eq.oD_g1, Pl.Eq.oD_g2, Pl.Eq.fx_get, Pl.Eq.fx_get0, Pl.Eq.fx_set, Pl.Eq.fx_set0, Pl.Eq.fx_getS, Pl.Eq.fx_getS0, Pl.Eq.fx_setS, Pl.Eq.fx_setS0, Pl.Eq.at_nat, Pl.Eq.at_0, Pl.Eq.at_1, Pl.Eq.at_2, Pl.Eq.at_3, Pl.Eq.at_4, Pl.Eq.at_last, Pl.Eq.sz, Pl.Eq.ixN_0, Pl.Eq.ixN_1, Pl.Eq.ixN_2, Pl.Eq.ixN_3, Pl.Eq.ixN_4, List.getElem?_cons_zero, List.getElem?_cons_succ, List.set_cons_zero, List.set_cons_succ, Option.some.injEq, exists_eq_left, exists_eq_left', U.int.injEq, U.bl.injEq, U.tup.injEq, U.lst.injEq, Int.zero_add, Nat.reduceLeDiff, List.cons_append, List.nil_append, false_and, exists_false, exists_const, false_or, or_false, Pl.T.own, Pl.Ts.own, Pl.Ts.len, wipeU, Pl.Eq.eqI, Pl.Eq.eqB, beq_self_eq_true, Bool.not_true, Bool.not_false, Bool.false_eq_true, Bool.true_eq_false, reduceCtorEq, decide_true, decide_false, List.length_cons, List.length_nil, Nat.zero_add, Nat.reduceAdd, Nat.reduceLT, if_true, if_false, reduceIte, true_and, and_true, List.set_set, List.append_assoc, List.length_append, List.length_set, Nat.add_zero, List.append_nil, $as,*]))
theorem t_pr {F : CallT} {ex : Ex → Sg → Hu → Prop} {a b : Nat} {p : Nat × Nat} {g : Sg} {h : Hu} {N : Sg → Hu → Prop} : wpT F ex (.tp (.cons (.nm a) (.cons (.nm b) .nil))) (prU p) g h N = N ((g.set a (some (.int p.1))).set b (some (.int p.2))) h := by
  unfold prU
  rw [Pl.Eq.t_tp, Pl.Eq.ts_cons, Pl.Eq.t_nm, Pl.Eq.ts_cons, Pl.Eq.t_nm, Pl.Eq.ts_nil]
  exact propext ⟨fun q => q.2, fun q => ⟨rfl, q⟩⟩
theorem pr_pd (p : Nat × Nat) : pd 3 (prU p) := fun x m => by
  simp only [List.mem_cons, List.not_mem_nil, or_false] at m
  rcases m with rfl | rfl <;> trivial
section
variable {n : Nat} {h : Hu} {Q : QE} {E : Ex → Hu → Prop}
theorem c_walked {c w : Nat} {rs rs' : List U} {t l : Tb} {φ : Nat → Nat} (m : MOk c w t) (ml : MOk c w l) (hr : rs.length = w) (hw : w ≤ 100) (hc : c ≤ 1000) (ht : t.length ≤ 100) (hl : l.length ≤ 100) (hom : Hom φ t l)
    (q : Q (.bl true) h) : callN tbl (n + 4) "_law_walked" [.tup [.tup rs, encT t], .tup [.tup rs', encT l]] h Q E := by
  refine call_in f_walked rfl (g := [some (.tup [.tup rs, encT t]), some (.tup [.tup rs', encT l]), none, none, none, none, none, none, none, none]) rfl ?_
  unfold b_law_walked
  have hs : 10000000 < sizeLine := by decide
  have t0 : 0 < t.length := List.length_pos_iff.mpr m.wf.ne
  have nb : t.length * l.length ≤ 100 * 100 := Nat.mul_le_mul ht hl
  simp_all! [encT]
  simp_all! []
  simp_all! [List.length_map]
  refine ⟨.inr ⟨by omega, by omega⟩, ?_⟩
  have enn : (t.length : Int) * (l.length : Int) + 1 = ((t.length * l.length + 1 : Nat) : Int) := by simp
  rw [enn]
  refine ⟨⟨by omega, by omega⟩, ?_⟩
  refine frRng (fun i g h' => ∃ (me : List (Nat × Nat)) (td : List Nat) (x a b c d e : Option U), h' = h ++ [.lst (me.map prU), .lst (td.map fun s => prU (s, φ s))] ∧
    g = [some (.tup [.tup rs, .tup (t.map encL)]), some (.tup [.tup rs', .tup (l.map encL)]), some (.mr h.length), some (.mr (h.length + 1)), x, a, b, c, d, e] ∧ me.length ≤ 1 + i * w ∧ td.length ≤ 1 + i * w ∧ ∀ s ∈ td, s < t.length)
    ⟨[(0, 0)], [0], _, _, _, _, _, _, by simp [prU, hom.z], rfl, by simp, by simp, by simpa using t0⟩ ?_ ?_
  · rintro i _ _ hi ⟨me, td, x, a, b, c', d, e, rfl, rfl, lm, lt, tb⟩ kk hk
    have hi' : i < t.length * l.length + 1 := by rw [Int.toNat_natCast] at hi; exact hi
    have iw : i * w ≤ 10000 * 100 := Nat.mul_le_mul (by omega) hw
    have iw1 : (i + 1) * w = i * w + w := by rw [Nat.add_mul, Nat.one_mul]
    simp_all! [List.length_map]
    cases td with
    | nil =>
      have z0 : ((([] : List Nat).length : Int) == 0) = true := rfl
      dsimp! [z0]
      simp_all! []
      exact stl_pure trivial q
    | cons s0 td0 =>
      obtain ⟨td1, s, es⟩ : ∃ td1 s, s0 :: td0 = td1 ++ [s] := ⟨(s0 :: td0).dropLast, (s0 :: td0).getLast (by simp), (List.dropLast_concat_getLast (by simp)).symm⟩
      rw [es] at tb lt ⊢
      have sb : s < t.length := tb s (by simp)
      have sb' := hom.b s sb
      have z0' : (((td1.length + 1 : Nat) : Int) == 0) = false := by simp; omega
      have la : (List.map (fun s => prU (s, φ s)) (td1 ++ [s]))[(List.map (fun s => prU (s, φ s)) (td1 ++ [s])).length - 1]? = some (prU (s, φ s)) := by simp
      have dl : (List.map (fun s => prU (s, φ s)) (td1 ++ [s])).dropLast = td1.map fun s => prU (s, φ s) := by simp
      dsimp! [z0']
      rw [Pl.Eq.ss_cons]
      generalize hM : List.map (fun s => prU (s, φ s)) (td1 ++ [s]) = Mx at la dl ⊢
      dsimp! [la, dl, t_pr]
      simp only [List.length_append, List.length_cons, List.length_nil, Nat.zero_add] at lt
      simp_all! [hr]
      refine ⟨⟨by omega, by omega⟩, ?_⟩
      refine frRng (fun j g h' => ∃ (me : List (Nat × Nat)) (td : List Nat) (c d e : Option U), h' = h ++ [.lst (me.map prU), .lst (td.map fun s => prU (s, φ s))] ∧
        g = [some (.tup [.tup rs, .tup (t.map encL)]), some (.tup [.tup rs', .tup (l.map encL)]), some (.mr h.length), some (.mr (h.length + 1)), some (.int i), some (.int s), some (.int (φ s : Nat)), c, d, e] ∧ me.length ≤ 1 + i * w + j ∧ td.length ≤ 1 + i * w + j ∧ ∀ s ∈ td, s < t.length)
        ⟨me, td1, _, _, _, rfl, rfl, by omega, by omega, fun x m => tb x (List.mem_append_left _ m)⟩ ?_ ?_
      · rintro j _ _ hj ⟨me, td, c', d, e, rfl, rfl, lm, lt, tb⟩ k2 hk2
        have hj' : j < w := by simpa using hj
        obtain ⟨l1, z1, z2⟩ := pc_at m.wf sb hj'
        obtain ⟨l2, z3, z4⟩ := pc_at ml.wf sb' hj'
        have po1 := pc_out m hc (s := s) (i := j)
        have po2 := pc_out ml hc (s := φ s) (i := j)
        have rel : pc l (φ s) j = mapF φ (pc t s j) := by
          have h1 := pc_at2 ml.wf sb' hj'
          rw [← hom.e s sb, List.getElem?_map, pc_at2 m.wf sb hj'] at h1
          exact (Option.some.inj h1).symm
        have kb : ∀ u k, pc t s j = some (u, k) → k < t.length := fun u k e => by
          obtain ⟨l, lm, ml⟩ := pc_mem e
          exact (m.wf.pl l lm u k ml).2
        have df : difP (pc t s j) (pc l (φ s) j) = false := by
          rw [difP_iff po1 po2, rel]
          cases pc t s j <;> rfl
        simp_all! [z1, z2]
        simp_all! [z3, z4]
        rw [Pl.Eq.ss_cons]
        dsimp! []
        refine l_differ f_same f_ldiffer po1 po2 ?_
        rw [df]
        dsimp! []
        rw [rel]
        generalize pc t s j = p at *
        cases p with
        | none =>
          simp_all! [encP, mapF]
          exact hk2 _ _ ⟨me, td, _, _, _, rfl, rfl, by omega, by omega, tb⟩
        | some p =>
          obtain ⟨u, k⟩ := p
          have kb' := kb u k rfl
          simp_all! [encP, mapF, pr_mk, inP (h := h ++ [.lst (me.map prU), .lst (td.map fun s => prU (s, φ s))]) (n := h.length) (xs := me.map prU) fx_get0 (fun x m => by obtain ⟨p, _, rfl⟩ := List.mem_map.mp m; exact pd_mono (by decide) (pr_pd p)) (pd_mono (by decide) (pr_pd (k, φ k)))]
          generalize (!List.any (me.map prU) fun y => PyData.eqv (dat y) (dat (prU (k, φ k)))) = bb
          cases bb with
          | false =>
            dsimp! []
            exact hk2 _ _ ⟨me, td, _, _, _, rfl, rfl, by omega, by omega, tb⟩
          | true =>
            dsimp! []
            simp_all! [pr_mk]
            refine ⟨by rw [List.length_map]; omega, ?_⟩
            simp_all! [pr_mk]
            refine ⟨by rw [List.length_map]; omega, hk2 _ _ ⟨me ++ [(k, φ k)], td ++ [k], _, _, _, by simp, rfl, by simp; omega, by simp; omega, fun x mx => ?_⟩⟩
            rcases List.mem_append.mp mx with mx | mx
            · exact tb x mx
            · rw [List.mem_singleton.mp mx]; exact kb'
      · rintro _ _ ⟨me, td, c', d, e, rfl, rfl, lm, lt, tb⟩
        have tw : (w : Int).toNat = w := rfl
        rw [tw] at lm lt
        dsimp! []
        exact hk _ _ ⟨me, td, _, _, _, _, _, _, rfl, rfl, by omega, by omega, tb⟩
  · rintro _ _ ⟨me, td, x, a, b, c', d, e, rfl, rfl, lm, lt, tb⟩
    simp_all! []
    exact stl_pure trivial q
end
/-! numbers -/
theorem maxI_is {l : List Int} {v : Int} (m : v ∈ l) (h : ∀ x ∈ l, x ≤ v) : maxI l = v :=
  Int.le_antisymm (h _ (maxI_mem (List.ne_nil_of_mem m))) (maxI_ge m)
theorem idx_at {K : List Nat} (nm : ordN K = K) {s : Nat} (h : s < K.length) : (seen [] K).idxOf K[s] = K[s] := by
  have e := ordN_at h
  rw [nm, List.getElem?_eq_getElem h] at e
  exact (Option.some.inj e).symm
theorem new_max {K : List Nat} (nm : ordN K = K) {s : Nat} (hs : s < K.length) (no : ∀ o, o < s → K.getD o 0 ≠ K.getD s 0) : maxI (-1 :: natsI (K.take s)) + 1 = (K.getD s 0 : Int) := by
  have gs : K.getD s 0 = K[s] := by simp [List.getD, List.getElem?_eq_getElem hs]
  have split : K = K.take s ++ K[s] :: K.drop (s + 1) := by rw [← List.drop_eq_getElem_cons hs, List.take_append_drop]
  have nk : K[s] ∉ K.take s := fun m => by
    obtain ⟨o, ho, e⟩ := List.mem_iff_getElem.mp m
    have ho' : o < s := by simp at ho; omega
    refine no o ho' ?_
    rw [gs, ← e]
    simp [List.getD, List.getElem?_eq_getElem (by omega : o < K.length)]
  generalize hS : seen [] (K.take s) = S
  have ns : K[s] ∉ S := fun m => nk ((seen_mem.mp (hS ▸ m : K[s] ∈ seen [] (K.take s))).resolve_left (by simp))
  have eK : seen [] K = seen (S ++ [K[s]]) (K.drop (s + 1)) := by
    conv => lhs; rw [split]
    rw [seen_app, hS, seen]
    simp [met, ns]
  have idx : ∀ x, x ∈ S ++ [K[s]] → (seen [] K).idxOf x = (S ++ [K[s]]).idxOf x := fun x m => by rw [eK, idx_seen m]
  have es : K[s] = S.length := by
    have h1 := idx_at nm hs
    rw [idx _ (by simp), List.idxOf_append, if_neg ns] at h1
    simp at h1
    exact h1.symm
  have eo : ∀ o (h : o < s), (S.idxOf (K[o]'(by omega))) = K[o]'(by omega) ∧ K[o]'(by omega) ∈ S := fun o h => by
    have mo : K[o]'(by omega) ∈ S := by
      rw [← hS]
      refine seen_mem.mpr (.inr ?_)
      refine List.mem_iff_getElem.mpr ⟨o, by simp; omega, by simp⟩
    have h1 := idx_at nm (show o < K.length by omega)
    rw [idx _ (List.mem_append_left _ mo), List.idxOf_append, if_pos mo] at h1
    exact ⟨h1, mo⟩
  rw [gs, es]
  have nd : S.Nodup := hS ▸ seen_nd List.nodup_nil
  have bound : ∀ x ∈ -1 :: natsI (K.take s), x ≤ (S.length : Int) - 1 := fun x m => by
    rcases List.mem_cons.mp m with rfl | m
    · omega
    · obtain ⟨y, ym, rfl⟩ := List.mem_map.mp m
      obtain ⟨o, ho, e⟩ := List.mem_iff_getElem.mp ym
      have ho' : o < s := by simp at ho; omega
      obtain ⟨h1, h2⟩ := eo o ho'
      have := List.idxOf_lt_length_of_mem h2
      rw [h1] at this
      have e' : K[o]'(by omega) = y := by rw [← e]; simp
      rw [e'] at this
      omega
  have mem : (S.length : Int) - 1 ∈ -1 :: natsI (K.take s) := by
    rcases Nat.eq_zero_or_pos S.length with z | p
    · rw [z]; simp
    · refine List.mem_cons_of_mem _ (List.mem_map.mpr ⟨S.length - 1, ?_, by omega⟩)
      have mS : S[S.length - 1]'(by omega) ∈ K.take s := by
        have : S[S.length - 1]'(by omega) ∈ seen [] (K.take s) := by rw [hS]; exact List.getElem_mem _
        exact (seen_mem.mp this).resolve_left (by simp)
      obtain ⟨o, ho, e⟩ := List.mem_iff_getElem.mp mS
      have ho' : o < s := by simp at ho; omega
      have h1 := (eo o ho').1
      have e' : K[o]'(by omega) = S[S.length - 1]'(by omega) := by rw [← e]; simp
      rw [e', nd.idxOf_getElem] at h1
      rw [h1]
      exact mS
  rw [maxI_is mem bound]
  omega
theorem p_addLM {xs : List U} {k : Nat} {m : Bool} {h : Hu} {Q : QE} : binR .add m (.lst xs) (.mr k) h Q = ∃ ys, seqO h[k]? = some ys ∧ xs.length + ys.length ≤ sizeLine ∧ mkL m (xs ++ ys) h Q := by
  have : binR .add m (.lst xs) (.mr k) h Q = ∃ xs' ys, lstOf h (.lst xs) = some xs' ∧ lstOf h (.mr k) = some ys ∧ xs'.length + ys.length ≤ sizeLine ∧ mkL m (xs' ++ ys) h Q := rfl
  rw [this]
  simp [Pl.Eq.l_lst, Pl.Eq.lst_mr]
theorem ints_cons (K : List Nat) : intsU (.int (-1) :: ordU K) = some (-1 :: natsI K) := by
  show (intsU (ordU K)).map _ = _
  rw [ints_ord]; rfl
end L56
set_option Elab.async false
set_option linter.all false
set_option maxRecDepth 100000
set_option autoImplicit false
/-! long rings and chains: their classes. -/
namespace L56
open PySem Pl L2 Pl.Eq Pl.Tp Pl.Ma
local macro_rules | `(tactic| simp_all! [$as,*]) => `(tactic| ((try dsimp only); rw [Pl.Eq.ss_cons]; simp only [Pl.Eq.e_cst, Pl.Eq.b_cst, Pl.Eq.e_var, Pl.Eq.b_var, Pl.Eq.e_bin, Pl.Eq.b_bin, Pl.Eq.e_neg, Pl.Eq.e_not, Pl.Eq.b_not, Pl.Eq.e_bop, Pl.Eq.b_bop, Pl.Eq.e_cmp, Pl.Eq.b_cmp, Pl.Eq.e_cmp2, Pl.Eq.b_cmp2, Pl.Eq.e_ife, Pl.Eq.b_ife, Pl.Eq.e_call, Pl.Eq.b_call, Pl.Eq.e_bi, Pl.Eq.b_bi, Pl.Eq.e_isi, Pl.Eq.b_isi, Pl.Eq.e_mth, Pl.Eq.e_ix, Pl.Eq.b_ix, Pl.Eq.e_sl, Pl.Eq.e_tup, Pl.Eq.e_lst, Pl.Eq.e_lc, Pl.Eq.e_lc2, Pl.Eq.e_lrg, Pl.Eq.e_dic, Pl.Eq.es_nil, Pl.Eq.es_cons, Pl.Eq.o_none, Pl.Eq.o_some, Pl.Eq.bb_nil, Pl.Eq.bb_cons, Pl.Eq.bo_one, Pl.Eq.bo_cons, Pl.Eq.f_nil, Pl.Eq.f_cons, Pl.Eq.i_val, Pl.Eq.i_rng1, Pl.Eq.i_rng2, Pl.Eq.i_rng3, Pl.Eq.i_enum, Pl.Eq.t_nm, Pl.Eq.t_tp, Pl.Eq.ts_nil, Pl.Eq.ts_cons, Pl.Eq.t_sub, Pl.Eq.s_expr, Pl.Eq.s_asg, Pl.Eq.s_par, Pl.Eq.s_aug, Pl.Eq.s_ret, Pl.Eq.s_retN, Pl.Eq.s_ifs, Pl.Eq.s_fr, Pl.Eq.s_brk, Pl.Eq.s_cnt, Pl.Eq.s_pass, Pl.Eq.ss_nil, Pl.Eq.p_addI, Pl.Eq.p_addT, Pl.Eq.p_subI, Pl.Eq.p_mulI, Pl.Eq.p_fdivI, Pl.Eq.p_modI, Pl.Eq.p_powI, Pl.Eq.p_lt, Pl.Eq.p_le, Pl.Eq.p_gt, Pl.Eq.p_ge, Pl.Eq.p_eq, Pl.Eq.p_ne, Pl.Eq.p_isN, Pl.Eq.p_notN, Pl.Eq.p_isB, Pl.Eq.p_notB, Pl.Eq.t_bl, Pl.Eq.t_int, Pl.Eq.t_tup, Pl.Eq.t_lst, Pl.Eq.mk_t, Pl.Eq.mk_f, Pl.Eq.i_non_tup, Pl.Eq.i_non_lst, Pl.Eq.i_non_int, Pl.Eq.i_non_bl, Pl.Eq.i_non_str, Pl.Eq.i_non_dic, Pl.Eq.i_bl_tup, Pl.Eq.i_bl_lst, Pl.Eq.i_bl_int, Pl.Eq.i_bl_bl, Pl.Eq.i_bl_str, Pl.Eq.i_bl_dic, Pl.Eq.i_int_tup, Pl.Eq.i_int_lst, Pl.Eq.i_int_int, Pl.Eq.i_int_bl, Pl.Eq.i_int_str, Pl.Eq.i_int_dic, Pl.Eq.i_str_tup, Pl.Eq.i_str_lst, Pl.Eq.i_str_int, Pl.Eq.i_str_bl, Pl.Eq.i_str_str, Pl.Eq.i_str_dic, Pl.Eq.i_tup_tup, Pl.Eq.i_tup_lst, Pl.Eq.i_tup_int, Pl.Eq.i_tup_bl, Pl.Eq.i_tup_str, Pl.Eq.i_tup_dic, Pl.Eq.i_lst_tup, Pl.Eq.i_lst_lst, Pl.Eq.i_lst_int, Pl.Eq.i_lst_bl, Pl.Eq.i_lst_str, Pl.Eq.i_lst_dic, Pl.Eq.n_non, Pl.Eq.n_bl, Pl.Eq.n_int, Pl.Eq.n_str, Pl.Eq.n_tup, Pl.Eq.n_lst, Pl.Eq.p_slT, Pl.Eq.p_lenT, Pl.Eq.p_lenL, Pl.Eq.p_lenR, Pl.Eq.p_intI, Pl.Eq.p_tuple, Pl.Eq.p_list, Pl.Eq.p_sorted, Pl.Eq.p_max1, Pl.Eq.p_min1, Pl.Eq.p_min, Pl.Eq.p_intB, Pl.Eq.p_mulT, Pl.Eq.p_addLL, Pl.Eq.p_slL, Pl.Eq.it_tup, Pl.Eq.it_lst, Pl.Eq.it_ro, Pl.Eq.si_lst, Pl.Eq.p_all, Pl.Eq.p_any, Pl.Eq.p_max, Pl.Eq.q_tup, Pl.Eq.q_lst, Pl.Eq.q_ro, Pl.Eq.l_lst, Pl.Eq.src_tup, Pl.Eq.src_lst, Pl.Eq.src_ro, Pl.Eq.src_mr, Pl.Eq.atP_some, Pl.Eq.x_tup_, Pl.Eq.x_lst_, Pl.Eq.x_ro_, Pl.Eq.seq_mr, Pl.Eq.lst_mr, Pl.Eq.dic_mr, Pl.Eq.tru_mr, Pl.Eq.it_mr, Pl.Eq.si_mr, Pl.Eq.x_mr, Pl.Eq.set_mr, Pl.Eq.len_mr, Pl.Eq.in_mr, Pl.Eq.nin_mr, Pl.Eq.ty_mr, Pl.Eq.mt_app, Pl.Eq.mt_p0, Pl.Eq.mt_p1, Pl.Eq.mt_ex, Pl.Eq.mt_in, Pl.Eq.mt_g1, Pl.Eq.mt_g2, Pl.Eq.oL_seq, Pl.Eq.oL_tru, Pl.Eq.oL_it, Pl.Eq.oL_ix, Pl.Eq.oL_set, Pl.Eq.oL_len, Pl.Eq.oL_in, Pl.Eq.oL_tyA, Pl.Eq.oL_tyI, Pl.Eq.oL_tyP, Pl.Eq.oL_tyQ, Pl.Eq.oL_tyE, Pl.Eq.oL_tyN, Pl.Eq.oL_app, Pl.Eq.oL_p0, Pl.Eq.oL_p1, Pl.Eq.oL_ex, Pl.Eq.oL_ins, Pl.Eq.oD_dic, Pl.Eq.oL_dic, Pl.Eq.oD_it, Pl.Eq.oD_ix, Pl.Eq.oD_set, Pl.Eq.oD_len, Pl.Eq.oD_in, Pl.Eq.oD_tyG, Pl.Eq.oD_tyH, Pl.Eq.oD_g1, Pl.Eq.oD_g2, Pl.Eq.fx_get, Pl.Eq.fx_get0, Pl.Eq.fx_set, Pl.Eq.fx_set0, Pl.Eq.fx_getS, Pl.Eq.fx_getS0, Pl.Eq.fx_setS, Pl.Eq.fx_setS0, Pl.Eq.at_nat, Pl.Eq.at_0, Pl.Eq.at_1, Pl.Eq.at_2, Pl.Eq.at_3, Pl.Eq.at_4, Pl.Eq.at_last, Pl.Eq.sz, Pl.Eq.ixN_0, Pl.Eq.ixN_1, Pl.Eq.ixN_2, Pl.Eq.ixN_3, Pl.Eq.ixN_4, List.getElem?_cons_zero, List.getElem?_cons_succ, List.set_cons_zero, List.set_cons_succ, Option.some.injEq, exists_eq_left, exists_eq_left', U.int.injEq, U.bl.injEq, U.tup.injEq, U.lst.injEq, Int.zero_add, Nat.reduceLeDiff, List.cons_append, List.nil_append, false_and, exists_false, exists_const, false_or, or_false, Pl.T.own, Pl.Ts.own, Pl.Ts.len, wipeU, Pl.Eq.eqI, Pl.Eq.eqB, beq_self_eq_true, Bool.not_true, Bool.not_false, Bool.false_eq_true, Bool.true_eq_false, reduceCtorEq, decide_true, decide_false, List.length_cons, List.length_nil, Nat.zero_add, Nat.reduceAdd, Nat.reduceLT, if_true, if_false, reduceIte, true_and, and_true, List.set_set, List.append_assoc, List.length_append, List.length_set, Nat.add_zero, List.append_nil, $as,*]))
local macro_rules | `(tactic| dsimp! [$as,*]) => `(tactic| (try simp only [Pl.Eq.e_cst, Pl.Eq.b_cst, Pl.Eq.e_var, Pl.Eq.b_var, Pl.Eq.e_bin, Pl.Eq.b_bin, Pl.Eq.e_neg, Pl.Eq.e_not, Pl.Eq.b_not, Pl.Eq.e_bop, Pl.Eq.b_bop, Pl.Eq.e_cmp, Pl.Eq.b_cmp, Pl.Eq.e_cmp2, Pl.Eq.b_cmp2, Pl.Eq.e_ife, Pl.Eq.b_ife, Pl.Eq.e_call, Pl.Eq.b_call, Pl.Eq.e_bi, Pl.Eq.b_bi, Pl.Eq.e_isi, Pl.Eq.b_isi, Pl.Eq.e_mth, Pl.Eq.e_ix, Pl.Eq.b_ix, Pl.Eq.e_sl, Pl.Eq.e_tup, Pl.Eq.e_lst, Pl.Eq.e_lc, Pl.Eq.e_lc2, Pl.Eq.e_lrg, Pl.Eq.e_dic, Pl.Eq.es_nil, Pl.Eq.es_cons, Pl.Eq.o_none, Pl.Eq.o_some, Pl.Eq.bb_nil, Pl.Eq.bb_cons, Pl.Eq.bo_one, Pl.Eq.bo_cons, Pl.Eq.f_nil, Pl.Eq.f_cons, Pl.Eq.i_val, Pl.Eq.i_rng1, Pl.Eq.i_rng2, Pl.Eq.i_rng3, Pl.Eq.i_enum, Pl.Eq.t_nm, Pl.Eq.t_tp, Pl.Eq.ts_nil, Pl.Eq.ts_cons, Pl.Eq.t_sub, Pl.Eq.s_expr, Pl.Eq.s_asg, Pl.Eq.s_par, Pl.Eq.s_aug, Pl.Eq.s_ret, Pl.Eq.s_retN, Pl.Eq.s_ifs, Pl.Eq.s_fr, Pl.Eq.s_brk, Pl.Eq.s_cnt, Pl.Eq.s_pass, Pl.Eq.ss_nil, Pl.Eq.p_addI, Pl.Eq.p_addT, Pl.Eq.p_subI, Pl.Eq.p_mulI, Pl.Eq.p_fdivI, Pl.Eq.p_modI, Pl.Eq.p_powI, Pl.Eq.p_lt, Pl.Eq.p_le, Pl.Eq.p_gt, Pl.Eq.p_ge, Pl.Eq.p_eq, Pl.Eq.p_ne, Pl.Eq.p_isN, Pl.Eq.p_notN, Pl.Eq.p_isB, Pl.Eq.p_notB, Pl.Eq.t_bl, Pl.Eq.t_int, Pl.Eq.t_tup, Pl.Eq.t_lst, Pl.Eq.mk_t, Pl.Eq.mk_f, Pl.Eq.i_non_tup, Pl.Eq.i_non_lst, Pl.Eq.i_non_int, Pl.Eq.i_non_bl, Pl.Eq.i_non_str, Pl.Eq.i_non_dic, Pl.Eq.i_bl_tup, Pl.Eq.i_bl_lst, Pl.Eq.i_bl_int, Pl.Eq.i_bl_bl, Pl.Eq.i_bl_str, Pl.Eq.i_bl_dic, Pl.Eq.i_int_tup, Pl.Eq.i_int_lst, Pl.Eq.i_int_int, Pl.Eq.i_int_bl, Pl.Eq.i_int_str, Pl.Eq.i_int_dic, Pl.Eq.i_str_tup, Pl.Eq.i_str_lst, Pl.Eq.i_str_int, Pl.Eq.i_str_bl, Pl.Eq.i_str_str, Pl.Eq.i_str_dic, Pl.Eq.i_tup_tup, Pl.Eq.i_tup_lst, Pl.Eq.i_tup_int, Pl.Eq.i_tup_bl, Pl.Eq.i_tup_str, Pl.Eq.i_tup_dic, Pl.Eq.i_lst_tup, Pl.Eq.i_lst_lst, Pl.Eq.i_lst_int, Pl.Eq.i_lst_bl, Pl.Eq.i_lst_str, Pl.Eq.i_lst_dic, Pl.Eq.n_non, Pl.Eq.n_bl, Pl.Eq.n_int, Pl.Eq.n_str, Pl.Eq.n_tup, Pl.Eq.n_lst, Pl.Eq.p_slT, Pl.Eq.p_lenT, Pl.Eq.p_lenL, Pl.Eq.p_lenR, Pl.Eq.p_intI, Pl.Eq.p_tuple, Pl.Eq.p_list, Pl.Eq.p_sorted, Pl.Eq.p_max1, Pl.Eq.p_min1, Pl.Eq.p_min, Pl.Eq.p_intB, Pl.Eq.p_mulT, Pl.Eq.p_addLL, Pl.Eq.p_slL, Pl.Eq.it_tup, Pl.Eq.it_lst, Pl.Eq.it_ro, Pl.Eq.si_lst, Pl.Eq.p_all, Pl.Eq.p_any, Pl.Eq.p_max, Pl.Eq.q_tup, Pl.Eq.q_lst, Pl.Eq.q_ro, Pl.Eq.l_lst, Pl.Eq.src_tup, Pl.Eq.src_lst, Pl.Eq.src_ro, Pl.Eq.src_mr, Pl.Eq.atP_some, Pl.Eq.x_tup_, Pl.Eq.x_lst_, Pl.Eq.x_ro_, Pl.Eq.seq_mr, Pl.Eq.lst_mr, Pl.Eq.dic_mr, Pl.Eq.tru_mr, Pl.Eq.it_mr, Pl.Eq.si_mr, Pl.Eq.x_mr, Pl.Eq.set_mr, Pl.Eq.len_mr, Pl.Eq.in_mr, Pl.Eq.nin_mr, Pl.Eq.ty_mr, Pl.Eq.mt_app, Pl.Eq.mt_p0, Pl.Eq.mt_p1, Pl.Eq.mt_ex, Pl.Eq.mt_in, Pl.Eq.mt_g1, Pl.Eq.mt_g2, Pl.Eq.oL_seq, Pl.Eq.oL_tru, Pl.Eq.oL_it, Pl.Eq.oL_ix, Pl.Eq.oL_set, Pl.Eq.oL_len, Pl.Eq.oL_in, Pl.Eq.oL_tyA, Pl.Eq.oL_tyI, Pl.Eq.oL_tyP, Pl.Eq.oL_tyQ, Pl.Eq.oL_tyE, Pl.Eq.oL_tyN, Pl.Eq.oL_app, Pl.Eq.oL_p0, Pl.Eq.oL_p1, Pl.Eq.oL_ex, Pl.Eq.oL_ins, Pl.Eq.oD_dic, Pl.Eq.oL_dic, Pl.Eq.oD_it, Pl.Eq.oD_ix, Pl.Eq.oD_set, Pl.Eq.oD_len, Pl.Eq.oD_in, Pl.Eq.oD_tyG, Pl.Eq.oD_tyH, Pl.Eq.oD_g1, Pl.Eq.oD_g2, Pl.Eq.fx_get, Pl.Eq.fx_get0, Pl.Eq.fx_set, Pl.Eq.fx_set0, Pl.Eq.fx_getS, Pl.Eq.fx_getS0, Pl.Eq.fx_setS, Pl.Eq.fx_setS0, Pl.Eq.at_nat, Pl.Eq.at_0, Pl.Eq.at_1, Pl.Eq.at_2, Pl.Eq.at_3, Pl.Eq.at_4, Pl.Eq.at_last, Pl.Eq.sz, Pl.Eq.ixN_0, Pl.Eq.ixN_1, Pl.Eq.ixN_2, Pl.Eq.ixN_3, Pl.Eq.ixN_4, List.getElem?_cons_zero, List.getElem?_cons_succ, List.set_cons_zero, List.set_cons_succ, Option.some.injEq, exists_eq_left, exists_eq_left', U.int.injEq, U.bl.injEq, U.tup.injEq, U.lst.injEq, Int.zero_add, Nat.reduceLeDiff, List.cons_append, List.nil_append, false_and, exists_false, exists_const, false_or, or_false, Pl.T.own, Pl.Ts.own, Pl.Ts.len, wipeU, Pl.Eq.eqI, Pl.Eq.eqB, beq_self_eq_true, Bool.not_true, Bool.not_false, Bool.false_eq_true, Bool.true_eq_false, reduceCtorEq, decide_true, decide_false, List.length_cons, List.length_nil, Nat.zero_add, Nat.reduceAdd, Nat.reduceLT, if_true, if_false, reduceIte, true_and, and_true, List.set_set, List.append_assoc, List.length_append, List.length_set, Nat.add_zero, List.append_nil, $as,*]))
def bU (b : Bool) : U := .tup [.bl b]
theorem bU_ok (b : Bool) : ∃ xs, bU b = .tup xs ∧ xs.length ≤ 10 ∧ ∀ x ∈ xs, leaf x := ⟨_, rfl, by simp, fun x m => by rw [List.mem_singleton.mp m]; trivial⟩
theorem bU_inj {a b : Bool} (h : bU a = bU b) : a = b := by
  unfold bU at h
  injection h with h
  injection h with h
  injection h
/-- one column -/
def RT (n : Nat) (sh : Nat → Bool) (af : Nat → Nat) : Tb := (List.range n).map fun k => [some (bU (sh k), af k)]
def Kp (n p : Nat) : List Nat := (List.range n).map fun k => k % p
section
variable {n p : Nat} {sh : Nat → Bool} {af : Nat → Nat}
theorem RT_len : (RT n sh af).length = n := by simp [RT]
theorem RT_at {i : Nat} (h : i < n) : (RT n sh af).getD i [] = [some (bU (sh i), af i)] := by simp [RT, List.getD, h]
theorem Kp_len : (Kp n p).length = n := by simp [Kp]
theorem Kp_at {i : Nat} (h : i < n) : (Kp n p).getD i 0 = i % p := by simp [Kp, List.getD, h]
theorem seen_Kp (p1 : 1 ≤ p) : ∀ m, seen [] ((List.range m).map fun k => k % p) = List.range (min m p)
  | 0 => by simp [seen]
  | m + 1 => by
    rw [List.range_succ, List.map_append, seen_app, seen_Kp p1 m]
    show met (List.range (min m p)) (m % p) = _
    unfold met
    by_cases c : m < p
    · rw [Nat.mod_eq_of_lt c, Nat.min_eq_left (by omega), Nat.min_eq_left (by omega), if_neg (by simp), List.range_succ]
    · have : m % p < p := Nat.mod_lt _ (by omega)
      rw [Nat.min_eq_right (by omega), Nat.min_eq_right (by omega), if_pos (by simpa using this)]
theorem Kp_nm (p1 : 1 ≤ p) (pn : p ≤ n) : ordN (Kp n p) = Kp n p := by
  unfold ordN
  have e : seen [] (Kp n p) = List.range p := by
    unfold Kp
    rw [seen_Kp p1, Nat.min_eq_right pn]
  rw [e]
  have : ∀ k ∈ Kp n p, (List.range p).idxOf k = k := fun k m => by
    obtain ⟨j, _, rfl⟩ := List.mem_map.mp m
    exact idx_range (Nat.mod_lt _ (by omega))
  rw [List.map_congr_left this]
  simp
/-- p tells the classes -/
structure Per (n p : Nat) (sh : Nat → Bool) (af : Nat → Nat) : Prop where
  p1 : 1 ≤ p
  pn : p ≤ n
  hsh : ∀ k, k < n → sh k = sh (k % p)
  ab : ∀ k, k < n → af k < n
  haf : ∀ k, k < n → af k % p = af (k % p) % p
  co : ∀ B : Nat → Nat → Prop, (∀ i j, B i j → i < n → j < n → sh i = sh j ∧ B (af i) (af j)) → ∀ i j, i < n → j < n → B i j → i % p = j % p
theorem rt_cls (h : Per n p sh af) : ClsOk (RT n sh af) (Kp n p) := by
  have p1 := h.p1
  have nm := Kp_nm p1 h.pn
  have hp : ∀ i, i < n → i % p < n := fun i hi => by
    have := Nat.mod_lt i (by omega : p > 0)
    have := h.pn
    omega
  refine ⟨by rw [Kp_len, RT_len], ?_, nm, fun i j hi hj e => ?_, fun B hB i j hi hj b => ?_⟩
  · have e : rfs (RT n sh af) (Kp n p) = (Kp n p).map fun c => rfK (Kp n p) c ((RT n sh af).getD c []) := by
      refine List.ext_getElem? fun i => ?_
      rw [List.getElem?_map]
      by_cases hi : i < n
      · have h1 : i < (rfs (RT n sh af) (Kp n p)).length := by rw [rfs_len, RT_len]; exact hi
        have h2 : i < (Kp n p).length := by rw [Kp_len]; exact hi
        have h3 : (Kp n p)[i] = i % p := by simp [Kp]
        rw [List.getElem?_eq_getElem h1, rfs_at, List.getElem?_eq_getElem h2, h3, Option.map_some, RT_at hi, RT_at (hp i hi)]
        congr 1
        rw [rfK_eq, Kp_at hi, Kp_at (hp i hi), Nat.mod_mod]
        refine ⟨rfl, ?_⟩
        simp only [List.map_cons, List.map_nil, sucK, Kp_at (h.ab i hi), Kp_at (h.ab _ (hp i hi)), h.haf i hi]
      · rw [List.getElem?_eq_none (by rw [rfs_len, RT_len]; omega), List.getElem?_eq_none (by rw [Kp_len]; omega)]
        rfl
    unfold refN
    rw [e]
    have := (ordN_inj (φ := fun c => rfK (Kp n p) c ((RT n sh af).getD c [])) (ks := Kp n p) fun a ma b mb e => by
      obtain ⟨i, im, rfl⟩ := List.mem_map.mp ma
      obtain ⟨j, jm, rfl⟩ := List.mem_map.mp mb
      have h1 := (rfK_eq.mp e).1
      rw [Kp_at (hp i (by simpa using im)), Kp_at (hp j (by simpa using jm)), Nat.mod_mod, Nat.mod_mod] at h1
      exact h1).1
    rw [this, nm]
  · rw [RT_len] at hi hj
    rw [Kp_at hi, Kp_at hj] at e
    rw [RT_at hi, RT_at hj]
    have : sh i = sh j := by rw [h.hsh i hi, h.hsh j hj, e]
    unfold lnK
    simp only [List.map_cons, List.map_nil, fkK, this]
  · rw [RT_len] at hi hj
    rw [Kp_at hi, Kp_at hj]
    refine h.co B (fun i j b hi hj => ?_) i j hi hj b
    obtain ⟨o, s⟩ := hB i j b
    rw [RT_at hi, RT_at hj] at o s
    simp only [List.map_cons, List.map_nil, Option.map_some] at o
    injection o with o _
    injection o with o
    exact ⟨bU_inj o, s 0 _ _ _ _ rfl rfl⟩
theorem rt_mok (n1 : 1 ≤ n) (n2 : n ≤ 1000) (ab : ∀ k, k < n → af k < n) (nb : numB (RT n sh af) = true) : MOk 10 1 (RT n sh af) := by
  have mem : ∀ l ∈ RT n sh af, ∃ k, k < n ∧ l = [some (bU (sh k), af k)] := fun l lm => by
    obtain ⟨k, km, rfl⟩ := List.mem_map.mp lm
    exact ⟨k, by simpa using km, rfl⟩
  refine ⟨⟨fun z => ?_, fun l lm => ?_, fun l lm u k mk => ?_, by rw [RT_len]; exact n2⟩, fun l lm u k mk => ?_, nb⟩
  · have := RT_len (n := n) (sh := sh) (af := af)
    rw [z] at this
    simp at this; omega
  · obtain ⟨k, _, rfl⟩ := mem l lm
    rfl
  · obtain ⟨j, hj, rfl⟩ := mem l lm
    rw [List.mem_singleton] at mk
    cases mk
    exact ⟨(bU_ok _).imp fun _ z => z.1, by rw [RT_len]; exact ab j hj⟩
  · obtain ⟨j, _, rfl⟩ := mem l lm
    rw [List.mem_singleton] at mk
    cases mk
    exact bU_ok _
theorem rt_quo (h : Per n p sh af) : quo (RT n sh af) (Kp n p) = RT p sh fun k => af k % p := by
  have e : seen [] (Kp n p) = List.range p := by
    unfold Kp
    rw [seen_Kp h.p1, Nat.min_eq_right h.pn]
  unfold quo
  rw [e, List.length_range]
  unfold RT
  refine List.map_congr_left fun c cm => ?_
  have hc : c < p := by simpa using cm
  have hn : c < n := Nat.lt_of_lt_of_le hc h.pn
  have ix : (Kp n p).idxOf c = c := by
    have e1 : Kp n p = List.range c ++ (Kp n p).drop c := by
      have : (Kp n p).take c = List.range c := by
        unfold Kp
        rw [← List.map_take, List.take_range, Nat.min_eq_left (by omega)]
        have : ∀ k ∈ List.range c, k % p = k := fun k m => Nat.mod_eq_of_lt (by
          have : k < c := (by simpa using m)
          omega)
        rw [List.map_congr_left this]
        simp
      rw [← this, List.take_append_drop]
    have hl : c < (Kp n p).length := by rw [Kp_len]; exact hn
    rw [e1, List.idxOf_append, if_neg (by simp), List.drop_eq_getElem_cons hl]
    have : (Kp n p)[c] = c := by simp [Kp, Nat.mod_eq_of_lt hc]
    rw [this]
    simp
  have := RT_at (sh := sh) (af := af) hn
  unfold RT at this
  rw [ix, this]
  show [some (bU (sh c), (Kp n p).getD (af c) 0)] = _
  rw [Kp_at (h.ab c hn)]
theorem rt_least (h : Per n p sh af) (nb : numB (RT p sh fun k => af k % p) = true) : least (RT n sh af) (Kp n p) = RT p sh fun k => af k % p := by
  unfold least
  rw [rt_quo h, numb_id nb]
end
/-! rings -/
def rot (n : Nat) (sh : Nat → Bool) (d : Nat) : Prop := ∀ y, sh (y % n) = sh ((y + d) % n)
section
variable {n p : Nat} {sh : Nat → Bool}
theorem rot_n (n1 : 1 ≤ n) : rot n sh n := fun y => by rw [Nat.add_mod_right]
theorem rot_mul {d : Nat} (h : rot n sh d) : ∀ k, rot n sh (d * k)
  | 0 => fun y => rfl
  | k + 1 => fun y => by
    rw [rot_mul h k y, h (y + d * k), Nat.mul_succ, Nat.add_assoc]
theorem rot_mod {d e : Nat} (h : rot n sh d) (g : rot n sh e) : rot n sh (e % d) := fun y => by
  have h1 := rot_mul h (e / d) (y + e % d)
  have : y + e % d + d * (e / d) = y + e := by
    have := Nat.mod_add_div e d
    omega
  rw [this] at h1
  rw [h1]
  exact g y
/-- the first divisor that is a shift is the least shift -/
theorem rot_first (n1 : 1 ≤ n) (p1 : 1 ≤ p) (hp : rot n sh p) (pf : ∀ q, 1 ≤ q → q < p → n % q = 0 → ¬ rot n sh q) : ∀ e, rot n sh e → e % p = 0 := by
  have ex : ∃ q, 1 ≤ q ∧ rot n sh q ∧ ∀ r, 1 ≤ r → r < q → ¬ rot n sh r := by
    have : ∀ m, (1 ≤ m ∧ rot n sh m) → ∃ q, 1 ≤ q ∧ rot n sh q ∧ ∀ r, 1 ≤ r → r < q → ¬ rot n sh r := by
      intro m
      induction m using Nat.strongRecOn with
      | _ m ih =>
        rintro ⟨a, b⟩
        rcases Classical.em (∃ r, 1 ≤ r ∧ r < m ∧ rot n sh r) with ⟨r, r1, r2, r3⟩ | no
        · exact ih r r2 ⟨r1, r3⟩
        · exact ⟨m, a, b, fun r r1 r2 r3 => no ⟨r, r1, r2, r3⟩⟩
    exact this n ⟨n1, rot_n n1⟩
  obtain ⟨q, q1, q2, q3⟩ := ex
  have dv : ∀ e, rot n sh e → e % q = 0 := fun e he => Classical.byContradiction fun z => q3 (e % q) (by omega) (Nat.mod_lt _ (by omega)) (rot_mod q2 he)
  have pq : p = q := by
    rcases Nat.lt_trichotomy p q with l | l | l
    · exact absurd hp (q3 p p1 l)
    · exact l
    · exact absurd q2 (pf q q1 l (dv n (rot_n n1)))
  rw [pq]
  exact dv
theorem ring_per (n1 : 1 ≤ n) (p1 : 1 ≤ p) (pn : p ≤ n) (dp : n % p = 0) (hp : rot n sh p) (pf : ∀ q, 1 ≤ q → q < p → n % q = 0 → ¬ rot n sh q) : Per n p sh fun k => (k + 1) % n := by
  have fr := rot_first n1 p1 hp pf
  have mm : ∀ j, j % n % p = j % p := fun j => Nat.mod_mod_of_dvd j (Nat.dvd_of_mod_eq_zero dp)
  refine ⟨p1, pn, fun k hk => ?_, fun k hk => Nat.mod_lt _ (by omega), fun k hk => ?_, fun B hB => ?_⟩
  · have h1 := rot_mul hp (k / p) (k % p)
    have h2 : k % p + p * (k / p) = k := Nat.mod_add_div k p
    have h3 : k % p < n := Nat.lt_of_lt_of_le (Nat.mod_lt _ (by omega)) pn
    rw [h2, Nat.mod_eq_of_lt h3, Nat.mod_eq_of_lt hk] at h1
    exact h1.symm
  · show (k + 1) % n % p = (k % p + 1) % n % p
    rw [mm, mm, Nat.mod_add_mod]
  · have key : ∀ i j, i ≤ j → j < n → (∀ x, sh ((i + x) % n) = sh ((j + x) % n)) → i % p = j % p := fun i j hij hj hx => by
      have : rot n sh (j - i) := fun y => by
        have h1 := hx (y + (n - i))
        rw [show i + (y + (n - i)) = y + n by omega, show j + (y + (n - i)) = y + (j - i) + n by omega, Nat.add_mod_right, Nat.add_mod_right] at h1
        exact h1
      have h2 := fr _ this
      have h3 : j = i + p * ((j - i) / p) := by
        have := Nat.mod_add_div (j - i) p
        omega
      rw [h3, Nat.add_mul_mod_self_left]
    have run : ∀ x i j, i < n → j < n → B i j → sh ((i + x) % n) = sh ((j + x) % n) ∧ B ((i + x) % n) ((j + x) % n) := by
      intro x i j hi hj b
      induction x with
      | zero =>
        rw [Nat.add_zero, Nat.add_zero, Nat.mod_eq_of_lt hi, Nat.mod_eq_of_lt hj]
        exact ⟨(hB i j b hi hj).1, b⟩
      | succ x ih =>
        have h1 := (hB _ _ ih.2 (Nat.mod_lt _ (by omega)) (Nat.mod_lt _ (by omega))).2
        have h2 : B ((i + (x + 1)) % n) ((j + (x + 1)) % n) := by
          have e1 : ((i + x) % n + 1) % n = (i + (x + 1)) % n := by rw [Nat.mod_add_mod, Nat.add_assoc]
          have e2 : ((j + x) % n + 1) % n = (j + (x + 1)) % n := by rw [Nat.mod_add_mod, Nat.add_assoc]
          rw [← e1, ← e2]
          exact h1
        exact ⟨(hB _ _ h2 (Nat.mod_lt _ (by omega)) (Nat.mod_lt _ (by omega))).1, h2⟩
    intro i j hi hj b
    rcases Nat.le_total i j with l | l
    · exact key i j l hj fun x => (run x i j hi hj b).1
    · exact (key j i l hi fun x => ((run x i j hi hj b).1).symm).symm
/-- a chain that ends in itself -/
def chA (n : Nat) (k : Nat) : Nat := if k = n - 1 then n - 1 else (k + 1) % n
theorem chain_per (n1 : 1 ≤ n) : Per n n (fun k => decide (k = n - 1)) (chA n) := by
  have ca : ∀ k, k < n - 1 → chA n k = k + 1 := fun k hk => by unfold chA; rw [if_neg (by omega), Nat.mod_eq_of_lt (by omega)]
  have cb : chA n (n - 1) = n - 1 := by unfold chA; rw [if_pos rfl]
  have clt : ∀ k, k < n → chA n k < n := fun k hk => by
    by_cases c : k = n - 1
    · rw [c, cb]; omega
    · rw [ca k (by omega)]; omega
  refine ⟨n1, Nat.le_refl _, fun k hk => by rw [Nat.mod_eq_of_lt hk], clt, fun k hk => by rw [Nat.mod_eq_of_lt hk], fun B hB => ?_⟩
  have key : ∀ B : Nat → Nat → Prop, (∀ i j, B i j → i < n → j < n → decide (i = n - 1) = decide (j = n - 1) ∧ B (chA n i) (chA n j)) → ∀ x i j, i < j → j + x = n - 1 → B i j → False := by
    intro B hB x
    induction x with
    | zero =>
      intro i j hij e b
      have h1 := (hB i j b (by omega) (by omega)).1
      have h2 : j = n - 1 := by omega
      rw [decide_eq_true h2] at h1
      have := of_decide_eq_true h1
      omega
    | succ x ih =>
      intro i j hij e b
      have h1 := (hB i j b (by omega) (by omega)).2
      rw [ca i (by omega), ca j (by omega)] at h1
      exact ih (i + 1) (j + 1) (by omega) (by omega) h1
  intro i j hi hj b
  rcases Nat.lt_trichotomy i j with l | l | l
  · exact (key B hB (n - 1 - j) i j l (by omega) b).elim
  · rw [l]
  · exact (key (fun a b => B b a) (fun a b ba ha hb => ⟨((hB b a ba hb ha).1).symm, (hB b a ba hb ha).2⟩) (n - 1 - i) j i l (by omega) b).elim
theorem chain_go (n1 : 1 ≤ n) {sh : Nat → Bool} : ∀ {f s : Nat}, f + s = n → goN ((RT n sh (chA n)).drop s) s (min n (s + 1)) = some n
  | 0, s, e => by
    rw [List.drop_of_length_le (by rw [RT_len]; omega)]
    show some (min n (s + 1)) = _
    rw [Nat.min_eq_left (by omega)]
  | f + 1, s, e => by
    have hs : s < (RT n sh (chA n)).length := by rw [RT_len]; omega
    have hs' : s < n := by omega
    rw [List.drop_eq_getElem_cons hs, ← getD_lt hs, RT_at hs', goN_cons, if_neg (by omega)]
    have ih := chain_go n1 (sh := sh) (f := f) (s := s + 1) (by omega)
    unfold chA
    by_cases c : s = n - 1
    · rw [if_pos c]
      simp only [lineMet]
      rw [if_neg (by omega), show max (min n (s + 1)) (n - 1 + 1) = min n (s + 1 + 1) by omega]
      exact ih
    · rw [if_neg c, Nat.mod_eq_of_lt (by omega)]
      simp only [lineMet]
      rw [if_neg (by omega), show max (min n (s + 1)) (s + 1 + 1) = min n (s + 1 + 1) by omega]
      exact ih
theorem chain_num (n1 : 1 ≤ n) {sh : Nat → Bool} : numB (RT n sh (chA n)) = true := by
  have := chain_go n1 (sh := sh) (f := n) (s := 0) (by omega)
  rw [List.drop_zero, Nat.min_eq_right (by omega)] at this
  unfold numB
  rw [this, RT_len]
  simp [opEq]
theorem rt_ring_num (n1 : 1 ≤ n) {sh : Nat → Bool} {af : Nat → Nat} (h : ∀ k, k < n → af k = (k + 1) % n) : numB (RT n sh af) = true :=
  ring_num n1 RT_len fun i hi => ⟨bU (sh i), by simp [RT, hi, h i hi]⟩
end
/-! rows that turn onto themselves -/
theorem eqv_bs : ∀ (xs ys : List Bool), PyData.eqvAll (datAll (xs.map bU)) (datAll (ys.map bU)) = decide (xs = ys)
  | [], [] => rfl
  | [], _ :: _ => rfl
  | _ :: _, [] => rfl
  | x :: xs, y :: ys => by
    show (PyData.eqv (dat (bU x)) (dat (bU y)) && PyData.eqvAll (datAll (xs.map bU)) (datAll (ys.map bU))) = _
    rw [eqv_bs xs ys]
    have : PyData.eqv (dat (bU x)) (dat (bU y)) = (x == y) := by
      show ((x == y) && true) = _
      simp
    rw [this, Bool.eq_iff_iff]
    simp
theorem rot_iff {n p : Nat} {sh : Nat → Bool} (n1 : 1 ≤ n) (pn : p ≤ n) : ((List.range n).map sh).drop p ++ ((List.range n).map sh).take p = (List.range n).map sh ↔ rot n sh p := by
  have at_ : ∀ k, k < n → (((List.range n).map sh).drop p ++ ((List.range n).map sh).take p)[k]? = some (sh ((k + p) % n)) := fun k hk => by
    by_cases c : k + p < n
    · rw [List.getElem?_append_left (by simp; omega), List.getElem?_drop, Nat.mod_eq_of_lt c]
      simp [show p + k < n by omega, Nat.add_comm]
    · rw [List.getElem?_append_right (by simp; omega)]
      have : (k + p) % n = k + p - n := by
        rw [Nat.mod_eq_sub_mod (by omega)]
        exact Nat.mod_eq_of_lt (by omega)
      rw [this]
      rw [List.getElem?_take_of_lt (by simp; omega)]
      simp
      refine ⟨k + p - n, ?_, rfl⟩
      rw [List.getElem?_range (by omega)]
      congr 1
      omega
  constructor
  · intro e y
    have hy : y % n < n := Nat.mod_lt _ (by omega)
    have h1 := at_ (y % n) hy
    rw [e, Nat.mod_add_mod] at h1
    simp [hy] at h1
    exact h1
  · intro h
    refine List.ext_getElem? fun k => ?_
    by_cases hk : k < n
    · rw [at_ k hk]
      have := h k
      rw [Nat.mod_eq_of_lt hk] at this
      simp [hk, this]
    · rw [List.getElem?_eq_none (by simp; omega), List.getElem?_eq_none (by simp; omega)]
end L56
set_option Elab.async false
set_option linter.all false
set_option maxRecDepth 100000
set_option autoImplicit false
/-! _law_long. -/
namespace L56
open PySem Pl L2 Pl.Eq Pl.Tp Pl.Ma
local macro_rules | `(tactic| simp_all! [$as,*]) => `(tactic| ((try dsimp only); rw [Pl.Eq.ss_cons]; simp only [Pl.Eq.e_cst, Pl.Eq.b_cst, Pl.Eq.e_var, Pl.Eq.b_var, Pl.Eq.e_bin, Pl.Eq.b_bin, Pl.Eq.e_neg, Pl.Eq.e_not, Pl.Eq.b_not, Pl.Eq.e_bop, Pl.Eq.b_bop, Pl.Eq.e_cmp, Pl.Eq.b_cmp, Pl.Eq.e_cmp2, Pl.Eq.b_cmp2, Pl.Eq.e_ife, Pl.Eq.b_ife, Pl.Eq.e_call, Pl.Eq.b_call, Pl.Eq.e_bi, Pl.Eq.b_bi, Pl.Eq.e_isi, Pl.Eq.b_isi, Pl.Eq.e_mth, Pl.Eq.e_ix, Pl.Eq.b_ix, Pl.Eq.e_sl, Pl.Eq.e_tup, Pl.Eq.e_lst, Pl.Eq.e_lc, Pl.Eq.e_lc2, Pl.Eq.e_lrg, Pl.Eq.e_dic, Pl.Eq.es_nil, Pl.Eq.es_cons, Pl.Eq.o_none, Pl.Eq.o_some, Pl.Eq.bb_nil, Pl.Eq.bb_cons, Pl.Eq.bo_one, Pl.Eq.bo_cons, Pl.Eq.f_nil, Pl.Eq.f_cons, Pl.Eq.i_val, Pl.Eq.i_rng1, Pl.Eq.i_rng2, Pl.Eq.i_rng3, Pl.Eq.i_enum, Pl.Eq.t_nm, Pl.Eq.t_tp, Pl.Eq.ts_nil, Pl.Eq.ts_cons, Pl.Eq.t_sub, Pl.Eq.s_expr, Pl.Eq.s_asg, Pl.Eq.s_par, Pl.Eq.s_aug, Pl.Eq.s_ret, Pl.Eq.s_retN, Pl.Eq.s_ifs, Pl.Eq.s_fr, Pl.Eq.s_brk, Pl.Eq.s_cnt, Pl.Eq.s_pass, Pl.Eq.ss_nil, Pl.Eq.p_addI, Pl.Eq.p_addT, Pl.Eq.p_subI, Pl.Eq.p_mulI, Pl.Eq.p_fdivI, Pl.Eq.p_modI, Pl.Eq.p_powI, Pl.Eq.p_lt, Pl.Eq.p_le, Pl.Eq.p_gt, Pl.Eq.p_ge, Pl.Eq.p_eq, Pl.Eq.p_ne, Pl.Eq.p_isN, Pl.Eq.p_notN, Pl.Eq.p_isB, Pl.Eq.p_notB, Pl.Eq.t_bl, Pl.Eq.t_int, Pl.Eq.t_tup, Pl.Eq.t_lst, Pl.Eq.mk_t, Pl.Eq.mk_f, Pl.Eq.i_non_tup, Pl.Eq.i_non_lst, Pl.Eq.i_non_int, Pl.Eq.i_non_bl, Pl.Eq.i_non_str, Pl.Eq.i_non_dic, Pl.Eq.i_bl_tup, Pl.Eq.i_bl_lst, Pl.Eq.i_bl_int, Pl.Eq.i_bl_bl, Pl.Eq.i_bl_str, Pl.Eq.i_bl_dic, Pl.Eq.i_int_tup, Pl.Eq.i_int_lst, Pl.Eq.i_int_int, Pl.Eq.i_int_bl, Pl.Eq.i_int_str, Pl.Eq.i_int_dic, Pl.Eq.i_str_tup, Pl.Eq.i_str_lst, Pl.Eq.i_str_int, Pl.Eq.i_str_bl, Pl.Eq.i_str_str, Pl.Eq.i_str_dic, Pl.Eq.i_tup_tup, Pl.Eq.i_tup_lst, Pl.Eq.i_tup_int, Pl.Eq.i_tup_bl, Pl.Eq.i_tup_str, Pl.Eq.i_tup_dic, Pl.Eq.i_lst_tup, Pl.Eq.i_lst_lst, Pl.Eq.i_lst_int, Pl.Eq.i_lst_bl, Pl.Eq.i_lst_str, Pl.Eq.i_lst_dic, Pl.Eq.n_non, Pl.Eq.n_bl, Pl.Eq.n_int, Pl.Eq.n_str, Pl.Eq.n_tup, Pl.Eq.n_lst, Pl.Eq.p_slT, Pl.Eq.p_lenT, Pl.Eq.p_lenL, Pl.Eq.p_lenR, Pl.Eq.p_intI, Pl.Eq.p_tuple, Pl.Eq.p_list, Pl.Eq.p_sorted, Pl.Eq.p_max1, Pl.Eq.p_min1, Pl.Eq.p_min, Pl.Eq.p_intB, Pl.Eq.p_mulT, Pl.Eq.p_addLL, Pl.Eq.p_slL, Pl.Eq.it_tup, Pl.Eq.it_lst, Pl.Eq.it_ro, Pl.Eq.si_lst, Pl.Eq.p_all, Pl.Eq.p_any, Pl.Eq.p_max, Pl.Eq.q_tup, Pl.Eq.q_lst, Pl.Eq.q_ro, Pl.Eq.l_lst, Pl.Eq.src_tup, Pl.Eq.src_lst, Pl.Eq.src_ro, Pl.Eq.src_mr, Pl.Eq.atP_some, Pl.Eq.x_tup_, Pl.Eq.x_lst_, Pl.Eq.x_ro_, Pl.Eq.seq_mr, Pl.Eq.lst_mr, Pl.Eq.dic_mr, Pl.Eq.tru_mr, Pl.Eq.it_mr, Pl.Eq.si_mr, Pl.Eq.x_mr, Pl.Eq.set_mr, Pl.Eq.len_mr, Pl.Eq.in_mr, Pl.Eq.nin_mr, Pl.Eq.ty_mr, Pl.Eq.mt_app, Pl.Eq.mt_p0, Pl.Eq.mt_p1, Pl.Eq.mt_ex, Pl.Eq.mt_in, Pl.Eq.mt_g1, Pl.Eq.mt_g2, Pl.Eq.oL_seq, Pl.Eq.oL_tru, Pl.Eq.oL_it, Pl.Eq.oL_ix, Pl.Eq.oL_set, Pl.Eq.oL_len, Pl.Eq.oL_in, Pl.Eq.oL_tyA, Pl.Eq.oL_tyI, Pl.Eq.oL_tyP, Pl.Eq.oL_tyQ, Pl.Eq.oL_tyE, Pl.Eq.oL_tyN, Pl.Eq.oL_app, Pl.Eq.oL_p0, Pl.Eq.oL_p1, Pl.Eq.oL_ex, Pl.Eq.oL_ins, Pl.Eq.oD_dic, Pl.Eq.oL_dic, Pl.Eq.oD_it, Pl.Eq.oD_ix, Pl.Eq.oD_set, Pl.Eq.oD_len, Pl.Eq.oD_in, Pl.Eq.oD_tyG, Pl.Eq.oD_tyH, Pl.Eq.oD_g1, Pl.Eq.oD_g2, Pl.Eq.fx_get, Pl.Eq.fx_get0, Pl.Eq.fx_set, Pl.Eq.fx_set0, Pl.Eq.fx_getS, Pl.Eq.fx_getS0, Pl.Eq.fx_setS, Pl.Eq.fx_setS0, Pl.Eq.at_nat, Pl.Eq.at_0, Pl.Eq.at_1, Pl.Eq.at_2, Pl.Eq.at_3, Pl.Eq.at_4, Pl.Eq.at_last, Pl.Eq.sz, Pl.Eq.ixN_0, Pl.Eq.ixN_1, Pl.Eq.ixN_2, Pl.Eq.ixN_3, Pl.Eq.ixN_4, List.getElem?_cons_zero, List.getElem?_cons_succ, List.set_cons_zero, List.set_cons_succ, Option.some.injEq, exists_eq_left, exists_eq_left', U.int.injEq, U.bl.injEq, U.tup.injEq, U.lst.injEq, Int.zero_add, Nat.reduceLeDiff, List.cons_append, List.nil_append, false_and, exists_false, exists_const, false_or, or_false, Pl.T.own, Pl.Ts.own, Pl.Ts.len, wipeU, Pl.Eq.eqI, Pl.Eq.eqB, beq_self_eq_true, Bool.not_true, Bool.not_false, Bool.false_eq_true, Bool.true_eq_false, reduceCtorEq, decide_true, decide_false, List.length_cons, List.length_nil, Nat.zero_add, Nat.reduceAdd, Nat.reduceLT, if_true, if_false, reduceIte, true_and, and_true, List.set_set, List.append_assoc, List.length_append, List.length_set, Nat.add_zero, List.append_nil, $as,*]))
local macro_rules | `(tactic| dsimp! [$as,*]) => `(tactic| (try simp only [Pl.Eq.e_cst, Pl.Eq.b_cst, Pl.Eq.e_var, Pl.Eq.b_var, Pl.Eq.e_bin, Pl.Eq.b_bin, Pl.Eq.e_neg, Pl.Eq.e_not, Pl.Eq.b_not, Pl.Eq.e_bop, Pl.Eq.b_bop, Pl.Eq.e_cmp, Pl.Eq.b_cmp, Pl.Eq.e_cmp2, Pl.Eq.b_cmp2, Pl.Eq.e_ife, Pl.Eq.b_ife, Pl.Eq.e_call, Pl.Eq.b_call, Pl.Eq.e_bi, Pl.Eq.b_bi, Pl.Eq.e_isi, Pl.Eq.b_isi, Pl.Eq.e_mth, Pl.Eq.e_ix, Pl.Eq.b_ix, Pl.Eq.e_sl, Pl.Eq.e_tup, Pl.Eq.e_lst, Pl.Eq.e_lc, Pl.Eq.e_lc2, Pl.Eq.e_lrg, Pl.Eq.e_dic, Pl.Eq.es_nil, Pl.Eq.es_cons, Pl.Eq.o_none, Pl.Eq.o_some, Pl.Eq.bb_nil, Pl.Eq.bb_cons, Pl.Eq.bo_one, Pl.Eq.bo_cons, Pl.Eq.f_nil, Pl.Eq.f_cons, Pl.Eq.i_val, Pl.Eq.i_rng1, Pl.Eq.i_rng2, Pl.Eq.i_rng3, Pl.Eq.i_enum, Pl.Eq.t_nm, Pl.Eq.t_tp, Pl.Eq.ts_nil, Pl.Eq.ts_cons, Pl.Eq.t_sub, Pl.Eq.s_expr, Pl.Eq.s_asg, Pl.Eq.s_par, Pl.Eq.s_aug, Pl.Eq.s_ret, Pl.Eq.s_retN, Pl.Eq.s_ifs, Pl.Eq.s_fr, Pl.Eq.s_brk, Pl.Eq.s_cnt, Pl.Eq.s_pass, Pl.Eq.ss_nil, Pl.Eq.p_addI, Pl.Eq.p_addT, Pl.Eq.p_subI, Pl.Eq.p_mulI, Pl.Eq.p_fdivI, Pl.Eq.p_modI, Pl.Eq.p_powI, Pl.Eq.p_lt, Pl.Eq.p_le, Pl.Eq.p_gt, Pl.Eq.p_ge, Pl.Eq.p_eq, Pl.Eq.p_ne, Pl.Eq.p_isN, Pl.Eq.p_notN, Pl.Eq.p_isB, Pl.Eq.p_notB, Pl.Eq.t_bl, Pl.Eq.t_int, Pl.Eq.t_tup, Pl.Eq.t_lst, Pl.Eq.mk_t, Pl.Eq.mk_f, Pl.Eq.i_non_tup, Pl.Eq.i_non_lst, Pl.Eq.i_non_int, Pl.Eq.i_non_bl, Pl.Eq.i_non_str, Pl.Eq.i_non_dic, Pl.Eq.i_bl_tup, Pl.Eq.i_bl_lst, Pl.Eq.i_bl_int, Pl.Eq.i_bl_bl, Pl.Eq.i_bl_str, Pl.Eq.i_bl_dic, Pl.Eq.i_int_tup, Pl.Eq.i_int_lst, Pl.Eq.i_int_int, Pl.Eq.i_int_bl, Pl.Eq.i_int_str, Pl.Eq.i_int_dic, Pl.Eq.i_str_tup, Pl.Eq.i_str_lst, Pl.Eq.i_str_int, Pl.Eq.i_str_bl, Pl.Eq.i_str_str, Pl.Eq.i_str_dic, Pl.Eq.i_tup_tup, Pl.Eq.i_tup_lst, Pl.Eq.i_tup_int, Pl.Eq.i_tup_bl, Pl.Eq.i_tup_str, Pl.Eq.i_tup_dic, Pl.Eq.i_lst_tup, Pl.Eq.i_lst_lst, Pl.Eq.i_lst_int, Pl.Eq.i_lst_bl, Pl.Eq.i_lst_str, Pl.Eq.i_lst_dic, Pl.Eq.n_non, Pl.Eq.n_bl, Pl.Eq.n_int, Pl.Eq.n_str, Pl.Eq.n_tup, Pl.Eq.n_lst, Pl.Eq.p_slT, Pl.Eq.p_lenT, Pl.Eq.p_lenL, Pl.Eq.p_lenR, Pl.Eq.p_intI, Pl.Eq.p_tuple, Pl.Eq.p_list, Pl.Eq.p_sorted, Pl.Eq.p_max1, Pl.Eq.p_min1, Pl.Eq.p_min, Pl.Eq.p_intB, Pl.Eq.p_mulT, Pl.Eq.p_addLL, Pl.Eq.p_slL, Pl.Eq.it_tup, Pl.Eq.it_lst, Pl.Eq.it_ro, Pl.Eq.si_lst, Pl.Eq.p_all, Pl.Eq.p_any, Pl.Eq.p_max, Pl.Eq.q_tup, Pl.Eq.q_lst, Pl.Eq.q_ro, Pl.Eq.l_lst, Pl.Eq.src_tup, Pl.Eq.src_lst, Pl.Eq.src_ro, Pl.Eq.src_mr, Pl.Eq.atP_some, Pl.Eq.x_tup_, Pl.Eq.x_lst_, Pl.Eq.x_ro_, Pl.Eq.seq_mr, Pl.Eq.lst_mr, Pl.Eq.dic_mr, Pl.Eq.tru_mr, Pl.Eq.it_mr, Pl.Eq.si_mr, Pl.Eq.x_mr, Pl.Eq.set_mr, Pl.Eq.len_mr, Pl.Eq.in_mr, Pl.Eq.nin_mr, Pl.Eq.ty_mr, Pl.Eq.mt_app, Pl.Eq.mt_p0, Pl.Eq.mt_p1, Pl.Eq.mt_ex, Pl.Eq.mt_in, Pl.Eq.mt_g1, Pl.Eq.mt_g2, Pl.Eq.oL_seq, Pl.Eq.oL_tru, Pl.Eq.oL_it, Pl.Eq.oL_ix, Pl.Eq.oL_set, Pl.Eq.oL_len, Pl.Eq.oL_in, Pl.Eq.oL_tyA, Pl.Eq.oL_tyI, Pl.Eq.oL_tyP, Pl.Eq.oL_tyQ, Pl.Eq.oL_tyE, Pl.Eq.oL_tyN, Pl.Eq.oL_app, Pl.Eq.oL_p0, Pl.Eq.oL_p1, Pl.Eq.oL_ex, Pl.Eq.oL_ins, Pl.Eq.oD_dic, Pl.Eq.oL_dic, Pl.Eq.oD_it, Pl.Eq.oD_ix, Pl.Eq.oD_set, Pl.Eq.oD_len, Pl.Eq.oD_in, Pl.Eq.oD_tyG, Pl.Eq.oD_tyH, Pl.Eq.oD_g1, Pl.Eq.oD_g2, Pl.Eq.fx_get, Pl.Eq.fx_get0, Pl.Eq.fx_set, Pl.Eq.fx_set0, Pl.Eq.fx_getS, Pl.Eq.fx_getS0, Pl.Eq.fx_setS, Pl.Eq.fx_setS0, Pl.Eq.at_nat, Pl.Eq.at_0, Pl.Eq.at_1, Pl.Eq.at_2, Pl.Eq.at_3, Pl.Eq.at_4, Pl.Eq.at_last, Pl.Eq.sz, Pl.Eq.ixN_0, Pl.Eq.ixN_1, Pl.Eq.ixN_2, Pl.Eq.ixN_3, Pl.Eq.ixN_4, List.getElem?_cons_zero, List.getElem?_cons_succ, List.set_cons_zero, List.set_cons_succ, Option.some.injEq, exists_eq_left, exists_eq_left', U.int.injEq, U.bl.injEq, U.tup.injEq, U.lst.injEq, Int.zero_add, Nat.reduceLeDiff, List.cons_append, List.nil_append, false_and, exists_false, exists_const, false_or, or_false, Pl.T.own, Pl.Ts.own, Pl.Ts.len, wipeU, Pl.Eq.eqI, Pl.Eq.eqB, beq_self_eq_true, Bool.not_true, Bool.not_false, Bool.false_eq_true, Bool.true_eq_false, reduceCtorEq, decide_true, decide_false, List.length_cons, List.length_nil, Nat.zero_add, Nat.reduceAdd, Nat.reduceLT, if_true, if_false, reduceIte, true_and, and_true, List.set_set, List.append_assoc, List.length_append, List.length_set, Nat.add_zero, List.append_nil, $as,*]))
theorem f_long : tbl "_law_long" = some ⟨1, 12, b_law_long⟩ := rfl
theorem f_first : tbl "first_keys" = some ⟨1, 3, m_first_keys⟩ := rfl
theorem f_tag : tbl "tagged" = some ⟨1, 2, m_tagged⟩ := rfl
theorem f_in : tbl "in_order" = some ⟨1, 4, m_in_order⟩ := rfl
theorem f_ref : tbl "refined" = some ⟨2, 6, m_refined⟩ := rfl
theorem f_cls : tbl "classes" = some ⟨1, 3, m_classes⟩ := rfl
theorem f_least : tbl "least_machine" = some ⟨1, 11, m_least_machine⟩ := rfl
theorem in_lst {x : U} {xs : List U} {h : Hu} {Q : QE} (p : ∀ x ∈ xs, pd 63 x) (q : pd 64 x) : cmpR .inn x (.lst xs) h Q = Q (.bl (xs.any fun y => PyData.eqv (dat y) (dat x))) h := by
  have e : cmpR .inn x (.lst xs) h Q = inR false x (.lst xs) h Q := by cases x <;> rfl
  have sh : SeqAt.shaped (.list (datAll xs)) = true := shaped_pd (u := .lst xs) (k := 64) p (by decide)
  have tl : toD h 64 (.lst xs) = some (.list (datAll xs)) := toD_pd (u := .lst xs) (k := 64) p
  rw [e]
  refine propext ⟨fun ⟨d, ds, e1, e2, _, _, w⟩ => ?_, fun w => ⟨_, _, toD_pd q, tl, shaped_pd q (by decide), sh, ?_⟩⟩
  · rw [toD_pd q] at e1
    rw [tl] at e2
    cases e1
    cases e2
    rw [datAll_map] at w
    simp only [List.any_map, Function.comp_def] at w
    exact w
  · rw [datAll_map]
    simp only [List.any_map, Function.comp_def]
    exact w
theorem iz {x : Nat} : ((x : Int) == 0) = decide (x = 0) := by
  rw [Bool.eq_iff_iff, beq_iff_eq, decide_eq_true_iff]; omega
def divs (n m : Nat) : List Nat := ((List.range m).map (· + 1)).filter fun q => decide (n % q = 0)
theorem divs_mem {n m q : Nat} : q ∈ divs n m ↔ 1 ≤ q ∧ q ≤ m ∧ n % q = 0 := by
  unfold divs
  rw [List.mem_filter, List.mem_map]
  constructor
  · rintro ⟨⟨k, km, rfl⟩, e⟩
    have : k < m := by simpa using km
    exact ⟨by omega, by omega, of_decide_eq_true e⟩
  · rintro ⟨a, b, c⟩
    exact ⟨⟨q - 1, by simp; omega, by omega⟩, decide_eq_true c⟩
theorem divs_succ {n m : Nat} : divs n (m + 1) = divs n m ++ if n % (m + 1) = 0 then [m + 1] else [] := by
  unfold divs
  rw [List.range_succ, List.map_append, List.filter_append]
  congr 1
  by_cases c : n % (m + 1) = 0 <;> simp [c]
theorem divs_len {n m : Nat} : (divs n m).length ≤ m := by
  unfold divs
  refine Nat.le_trans (List.length_filter_le _ _) ?_
  simp
theorem divs_asc {n m : Nat} : (divs n m).Pairwise (· < ·) := by
  unfold divs
  refine List.Pairwise.filter _ ?_
  refine List.pairwise_map.mpr ((List.pairwise_lt_range (n := m)).imp fun h => by omega)
theorem first_of {l : List Nat} {P : Nat → Bool} {q : Nat} (asc : l.Pairwise (· < ·)) (m : q ∈ l) (hq : P q = true) : ∃ p, (l.filter P)[0]? = some p ∧ p ∈ l ∧ P p = true ∧ ∀ r ∈ l, r < p → P r = false := by
  have mq : q ∈ l.filter P := List.mem_filter.mpr ⟨m, hq⟩
  cases e : l.filter P with
  | nil => rw [e] at mq; cases mq
  | cons p rest =>
    have mp : p ∈ l.filter P := by rw [e]; exact List.mem_cons_self
    obtain ⟨mp1, mp2⟩ := List.mem_filter.mp mp
    refine ⟨p, rfl, mp1, mp2, fun r mr hr => ?_⟩
    cases c : P r with
    | false => rfl
    | true =>
      have : r ∈ l.filter P := List.mem_filter.mpr ⟨mr, c⟩
      have asc2 := asc.filter P
      rw [e] at this asc2
      have h := List.pairwise_cons.mp asc2
      rcases List.mem_cons.mp this with z | z
      · omega
      · have := h.1 r z
        omega
section
variable {n : Nat} {h : Hu} {Q : QE} {E : Ex → Hu → Prop}
theorem c_long {t : Nat} {o : O} (ht : t < h.length) (ho : IsTape o) (q : ∀ o, IsTape o → Q (.bl true) (h.set t o)) : callN tbl (n + 20) "_law_long" [.mr t] (h.set t o) Q E := by
  refine call_in f_long rfl (g := [some (.mr t), none, none, none, none, none, none, none, none, none, none, none]) rfl ?_
  unfold b_law_long
  have hs : 1000000 < sizeLine := by decide
  simp_all! []
  refine c_tk0 f_mix f_take ht ho (by decide) (by decide) fun k0 o1 k01 ho1 => ?_
  obtain ⟨m, hm⟩ : ∃ m : Nat, 41 + (k0 : Int) = (m : Int) := ⟨41 + k0, by omega⟩
  have mb : 41 ≤ m ∧ m ≤ 200 := by omega
  dsimp! [hm]
  simp_all! []
  refine ⟨_, _, rfl, rfl, ⟨by decide, by decide, by omega, by omega⟩, by simp [rngU]; omega, ?_⟩
  have em : ((m : Int) + 1 - 1).toNat = m := by omega
  rw [em]
  refine lcRng (fun i acc h' => h' = h.set t o1 ∧ acc = (divs m i).map fun (k : Nat) => U.int k) ⟨rfl, rfl⟩ ?_ ?_
  · rintro i _ _ hi ⟨rfl, rfl⟩ k hk1 hk2
    have ei : (1 : Int) + (i : Int) = ((i + 1 : Nat) : Int) := by omega
    have ec : ((m : Int) % ((i + 1 : Nat) : Int) == 0) = decide (m % (i + 1) = 0) := by
      rw [← Int.natCast_emod, iz]
    dsimp! [ei, ec]
    refine ⟨by omega, ?_⟩
    by_cases c : m % (i + 1) = 0
    · dsimp! [c]
      exact hk1 _ _ ⟨rfl, by rw [divs_succ, if_pos c, List.map_append]; rfl⟩
    · dsimp! [c]
      exact hk2 _ ⟨rfl, by rw [divs_succ, if_neg c, List.append_nil]⟩
  rintro _ _ ⟨rfl, rfl⟩
  have dl := divs_len (n := m) (m := m)
  have m1 : (1 : Nat) ∈ divs m m := divs_mem.mpr ⟨Nat.le_refl _, by omega, Nat.mod_one _⟩
  have dp : 0 < (divs m m).length := List.length_pos_of_mem m1
  dsimp! []
  simp_all! [List.length_map]
  refine c_tk0 f_mix f_take ht ho1 (by omega) (by omega) fun k1 o2 k11 ho2 => ?_
  obtain ⟨pe, pm, pe1⟩ := nat_mem (xs := divs m m) (k := k1) (by omega)
  have pe2 : ((divs m m).map fun (k : Nat) => U.int k)[k1]? = some (.int pe) := by rw [List.getElem?_map, pe1]; rfl
  have pb := divs_mem.mp pm
  dsimp! [pe2]
  simp_all! []
  refine c_tk0 f_mix f_take ht ho2 (by decide) (by decide) fun k3 o3 k31 ho3 => ?_
  dsimp! []
  refine ⟨⟨by omega, by omega⟩, by simp [rngU]; omega, ?_⟩
  refine lcRng (fun i acc h' => ∃ (o : O) (od : List Nat), IsTape o ∧ h' = h.set t o ∧ acc = od.map fun (k : Nat) => U.int k) ⟨o3, [], ho3, rfl, rfl⟩ ?_ ?_
  · rintro i _ _ hi ⟨o4, od, ho4, rfl, rfl⟩ k hk1 hk2
    dsimp! []
    refine c_tk0 f_mix f_take ht ho4 (by omega) (by omega) fun k5 o5 k51 ho5 => ?_
    exact hk1 _ _ ⟨o5, od ++ [k5], ho5, rfl, by simp⟩
  rintro _ _ ⟨o4, od, ho4, rfl, rfl⟩
  dsimp! []
  obtain ⟨sh0, hsh0⟩ : ∃ sh : Nat → Bool, ∀ k : Nat, (od.map fun (k : Nat) => U.int k).any (fun y => PyData.eqv (dat y) (dat (.int ((k : Int) % (pe : Int))))) = sh k := ⟨_, fun _ => rfl⟩
  have odp : ∀ x ∈ od.map fun (k : Nat) => U.int k, pd 63 x := fun x mx => by
    obtain ⟨k, _, rfl⟩ := List.mem_map.mp mx
    trivial
  simp_all! []
  refine ⟨⟨by omega, by omega⟩, by simp [rngU]; omega, ?_⟩
  refine lcRng (fun i acc h' => h' = h.set t o4 ∧ acc = ((List.range i).map sh0).map bU) ⟨rfl, rfl⟩ ?_ ?_
  · rintro i _ _ hi ⟨rfl, rfl⟩ k hk1 hk2
    have il := in_lst (x := .int ((i : Int) % (pe : Int))) (h := h.set t o4) (Q := fun x_1 h1 => k (some (U.tup [x_1])) h1) odp (by trivial)
    rw [hsh0] at il
    dsimp! []
    refine ⟨by omega, ?_⟩
    rw [il]
    exact hk1 _ _ ⟨rfl, by rw [List.range_succ, List.map_append, List.map_append]; rfl⟩
  rintro _ _ ⟨rfl, rfl⟩
  have em2 : (m : Int).toNat = m := rfl
  rw [em2]
  dsimp! []
  rw [Pl.Eq.ss_cons]
  dsimp! [List.length_map]
  refine ⟨by omega, ?_⟩
  generalize hsh : (List.range m).map sh0 = bs
  have lb : bs.length = m := by rw [← hsh]; simp
  have bp : ∀ (cs : List Bool), pd 64 (.lst (cs.map bU)) := fun cs x mx => by
    obtain ⟨b, _, rfl⟩ := List.mem_map.mp mx
    exact fun y my => by rw [List.mem_singleton.mp my]; trivial
  refine lcMap (f := fun (k : Nat) => U.int k) (xs := divs m m) (fun r acc h' => h' = h.set t o4 ∧ (∀ p ∈ r, p ∈ divs m m) ∧ ∃ fl, acc = fl.map (fun (k : Nat) => U.int k) ∧ fl ++ r.filter (fun p => decide (bs.drop p ++ bs.take p = bs)) = (divs m m).filter fun p => decide (bs.drop p ++ bs.take p = bs)) ?_ ?_ ⟨rfl, fun p z => z, [], rfl, rfl⟩
  · rintro p r _ _ ⟨rfl, rm, fl, rfl, ef⟩ k hk1 hk2
    have pr := divs_mem.mp (rm p List.mem_cons_self)
    have e1 : cutU (bs.map bU) (some (p : Int)) none ++ cutU (bs.map bU) none (some (p : Int)) = (bs.drop p ++ bs.take p).map bU := by rw [cut_fr, cut_to, List.map_append, List.map_drop, List.map_take]
    have e2 : (cutU (bs.map bU) (some (p : Int)) none).length + (cutU (bs.map bU) none (some (p : Int))).length ≤ sizeLine := by rw [cut_fr, cut_to]; simp; omega
    have e3 : PyData.eqv (dat (.lst ((bs.drop p ++ bs.take p).map bU))) (dat (.lst (bs.map bU))) = decide (bs.drop p ++ bs.take p = bs) := eqv_bs _ _
    dsimp! [e1, e2, eqP (bp (bs.drop p ++ bs.take p)) (bp bs), e3]
    by_cases c : bs.drop p ++ bs.take p = bs
    · dsimp! [c]
      exact hk1 _ _ ⟨rfl, fun p z => rm p (List.mem_cons_of_mem _ z), fl ++ [p], by simp, by rw [← ef]; simp [c]⟩
    · dsimp! [c]
      exact hk2 _ ⟨rfl, fun p z => rm p (List.mem_cons_of_mem _ z), fl, rfl, by rw [← ef]; simp [c]⟩
  rintro _ _ ⟨rfl, _, fl, rfl, ef⟩
  rw [List.filter_nil, List.append_nil] at ef
  subst ef
  have mm : m ∈ divs m m := divs_mem.mpr ⟨by omega, Nat.le_refl _, Nat.mod_self _⟩
  obtain ⟨p, pz, pmem, pP, pf⟩ := first_of (P := fun p => decide (bs.drop p ++ bs.take p = bs)) divs_asc mm (decide_eq_true (by rw [List.drop_of_length_le (by omega), List.take_of_length_le (by omega)]; rfl))
  have pz' : (((divs m m).filter fun p => decide (bs.drop p ++ bs.take p = bs)).map fun (k : Nat) => U.int k)[0]? = some (.int p) := by rw [List.getElem?_map, pz]; rfl
  have pb2 := divs_mem.mp pmem
  have per : Per m p sh0 fun k => (k + 1) % m := ring_per (by omega) pb2.1 pb2.2.1 pb2.2.2 ((rot_iff (by omega) pb2.2.1).mp (by rw [hsh]; exact of_decide_eq_true pP)) fun q q1 qp qd z => by
    have h1 := pf q (divs_mem.mpr ⟨q1, by omega, qd⟩) qp
    have h2 := (rot_iff (sh := sh0) (by omega) (show q ≤ m by omega)).mpr z
    rw [hsh] at h2
    rw [decide_eq_true h2] at h1
    cases h1
  dsimp! [pz']
  simp_all! []
  refine ⟨⟨by omega, by omega⟩, by simp [rngU]; omega, ?_⟩
  refine lcRng (fun i acc h' => h' = h.set t o4 ∧ acc = ordU ((List.range i).map fun k => (k + 1) % m)) ⟨rfl, rfl⟩ ?_ ?_
  · rintro i _ _ hi ⟨rfl, rfl⟩ k hk1 hk2
    have cm : ((i : Int) + 1) % (m : Int) = (((i + 1) % m : Nat) : Int) := by rw [Int.natCast_emod]; rfl
    dsimp! [cm]
    exact ⟨by omega, hk1 _ _ ⟨rfl, by rw [List.range_succ, List.map_append]; simp [ordU]⟩⟩
  rintro _ _ ⟨rfl, rfl⟩
  rw [em2]
  dsimp! []
  refine cutSs (fun g h' => ∃ (o : O) (sh : Nat → Bool) (af : Nat → Nat) (p : Nat) (a b : Option U), IsTape o ∧ Per m p sh af ∧ numB (RT m sh af) = true ∧ numB (RT p sh fun k => af k % p) = true ∧ h' = h.set t o ++ [.lst (ordU ((List.range m).map af))] ∧
    g = [some (.mr t), some (.int m), some (.lst ((divs m m).map fun (k : Nat) => U.int k)), some (.int pe), some (.lst (od.map fun (k : Nat) => U.int k)), some (.lst (((List.range m).map sh).map bU)), some (.int p), some (.mr h.length), none, none, a, b]) (fun N hN => ?_) ?_
  · rw [← hsh]
    dsimp! []
    refine c_tk f_mix f_take ht ho4 (by decide) (by decide) fun k6 o6 k61 ho6 => ?_
    dsimp! []
    by_cases z : k6 = 0
    · subst z
      dsimp! []
      simp_all! []
      simp_all! []
      refine ⟨⟨by omega, by omega⟩, by simp [rngU]; omega, ?_⟩
      refine lcRng (fun i acc h' => h' = h.set t o6 ++ [.lst (ordU ((List.range m).map fun k => (k + 1) % m))] ∧ acc = ((List.range i).map fun k => decide (k = m - 1)).map bU) ⟨rfl, rfl⟩ ?_ ?_
      · rintro i _ _ hi ⟨rfl, rfl⟩ k hk1 hk2
        have ed : ((i : Int) == (m : Int) - 1) = decide (i = m - 1) := by
          rw [Bool.eq_iff_iff]
          simp
          omega
        dsimp! [ed]
        exact hk1 _ _ ⟨rfl, by rw [List.range_succ, List.map_append, List.map_append]; rfl⟩
      rintro _ _ ⟨rfl, rfl⟩
      have e1 : (m : Int) - 1 = ((m - 1 : Nat) : Int) := by omega
      have ls : (ordU ((List.range m).map fun k => (k + 1) % m)).length = m := by simp [ordU]
      rw [em2]
      dsimp! []
      simp_all! [e1, ls]
      refine ⟨m - 1, ixN_nat (by omega), hN _ _ ⟨o6, _, chA m, m, _, _, ho6, chain_per (by omega), chain_num (by omega), ?_, ?_, rfl⟩⟩
      · have : (RT m (fun k => decide (k = m - 1)) fun k => chA m k % m) = RT m (fun k => decide (k = m - 1)) (chA m) := by
          unfold RT
          refine List.map_congr_left fun k km => ?_
          have hk : k < m := by simpa using km
          show [some (bU (decide (k = m - 1)), chA m k % m)] = _
          rw [Nat.mod_eq_of_lt ((chain_per (n := m) (by omega)).ab k hk)]
        rw [this]
        exact chain_num (by omega)
      · have : (ordU ((List.range m).map fun k => (k + 1) % m)).set (m - 1) (.int ((m - 1 : Nat) : Int)) = ordU ((List.range m).map (chA m)) := by
          refine List.ext_getElem? fun k => ?_
          unfold ordU
          by_cases c : k = m - 1
          · subst c
            rw [List.getElem?_set_self (by simp; omega)]
            simp [chA, show m - 1 < m by omega]
          · rw [List.getElem?_set_ne (by omega)]
            by_cases hk : k < m
            · simp [chA, hk, c]
            · rw [List.getElem?_eq_none (by simp; omega), List.getElem?_eq_none (by simp; omega)]
        rw [this]
    · have z6 : ((k6 : Int) == 0) = false := by simpa using z
      rw [z6]
      dsimp! []
      refine hN _ _ ⟨o6, sh0, _, p, _, _, ho6, per, rt_ring_num (by omega) fun k hk => rfl, rt_ring_num pb2.1 fun k hk => ?_, rfl, rfl⟩
      exact Nat.mod_mod_of_dvd _ (Nat.dvd_of_mod_eq_zero pb2.2.2)
  clear per pz pz' pP pf pmem pb2
  rintro _ _ ⟨o5, sh, af, p, a, b, ho5, per, nb, nbp, rfl, rfl⟩
  have p1 := per.p1
  have pn := per.pn
  have hsx : ∀ i, i < m → (((List.range m).map sh).map bU)[i]? = some (bU (sh i)) := fun i hi => by simp [hi]
  have hax : ∀ i, i < m → (ordU ((List.range m).map af))[i]? = some (.int (af i : Nat)) := fun i hi => by simp [ordU, hi]
  have mok : MOk 10 1 (RT m sh af) := rt_mok (by omega) (by omega) per.ab nb
  have mokp : MOk 10 1 (RT p sh fun k => af k % p) := rt_mok (by omega) (by omega) (fun k _ => Nat.mod_lt _ (by omega)) nbp
  have uq := fun K (ck : ClsOk (RT m sh af) K) => ck.uniq mok (by decide) (rt_cls per)
  simp_all! []
  refine ⟨⟨by omega, by omega⟩, by simp [rngU]; omega, ?_⟩
  refine lcRng (fun i acc h' => h' = h.set t o5 ++ [.lst (ordU ((List.range m).map af))] ∧ acc = (RT i sh af).map encL) ⟨rfl, rfl⟩ ?_ ?_
  · rintro i _ _ hi ⟨rfl, rfl⟩ k hk1 hk2
    dsimp! [hsx i hi, hax i hi]
    exact hk1 _ _ ⟨rfl, by unfold RT; rw [List.range_succ, List.map_append, List.map_append]; rfl⟩
  rintro _ _ ⟨rfl, rfl⟩
  rw [em2]
  dsimp! []
  simp_all! []
  refine ⟨⟨by omega, by omega⟩, by simp [rngU]; omega, ?_⟩
  refine lcRng (fun i acc h' => h' = h.set t o5 ++ [.lst (ordU ((List.range m).map af))] ∧ acc = (RT i sh fun k => af k % p).map encL) ⟨rfl, rfl⟩ ?_ ?_
  · rintro i _ _ hi ⟨rfl, rfl⟩ k hk1 hk2
    have hi' : i < p := by simpa using hi
    dsimp! [hsx i (by omega), hax i (by omega)]
    refine ⟨by omega, hk1 _ _ ⟨rfl, ?_⟩⟩
    rw [← Int.natCast_emod]
    unfold RT
    rw [List.range_succ, List.map_append, List.map_append]
    rfl
  rintro _ _ ⟨rfl, rfl⟩
  have ep2 : (p : Int).toNat = p := rfl
  rw [ep2]
  dsimp! []
  rw [Pl.Eq.ss_cons]
  dsimp! []
  refine c_classes (n := n + 15) f_tag f_first f_in f_ref f_cls mok (rs := .tup rs1) (by decide) (by decide) fun K ck => ?_
  rw [uq K ck]
  dsimp! []
  refine ⟨⟨by omega, by omega⟩, by simp [rngU]; omega, ?_⟩
  refine lcRng (fun i acc h' => h' = h.set t o5 ++ [.lst (ordU ((List.range m).map af))] ∧ acc = ordU (Kp i p)) ⟨rfl, rfl⟩ ?_ ?_
  · rintro i _ _ hi ⟨rfl, rfl⟩ k hk1 hk2
    dsimp! []
    refine ⟨by omega, hk1 _ _ ⟨rfl, ?_⟩⟩
    rw [← Int.natCast_emod]
    unfold Kp
    rw [List.range_succ, List.map_append]
    simp [ordU]
  rintro _ _ ⟨rfl, rfl⟩
  rw [em2]
  dsimp! []
  refine c_same f_same (k := 2) (ord_sm (by rw [Kp_len]; omega)) (by omega) ?_
  dsimp! []
  rw [Pl.Eq.ss_cons]
  dsimp! []
  refine c_least (n := n + 14) f_tag f_first f_in f_ref f_cls f_least mok rs1_ok (by decide) (by decide) fun K ck => ?_
  rw [uq K ck, rt_least per nbp]
  dsimp! []
  refine c_same f_same (k := 12) (mac_sm mokp (by decide) (by decide) rs1_ok) (by omega) ?_
  exact stl_tape trivial ho5 (q _ ho5)
end
end L56
set_option Elab.async false
set_option linter.all false
set_option maxRecDepth 100000
set_option autoImplicit false
/-! the law -/
namespace L56
open PySem Pl L2 Pl.Eq Pl.Tp Pl.Ma
local macro_rules | `(tactic| simp_all! [$as,*]) => `(tactic| ((try dsimp only); rw [Pl.Eq.ss_cons]; simp only [Pl.Eq.e_cst, Pl.Eq.b_cst, Pl.Eq.e_var, Pl.Eq.b_var, Pl.Eq.e_bin, Pl.Eq.b_bin, Pl.Eq.e_neg, Pl.Eq.e_not, Pl.Eq.b_not, Pl.Eq.e_bop, Pl.Eq.b_bop, Pl.Eq.e_cmp, Pl.Eq.b_cmp, Pl.Eq.e_cmp2, Pl.Eq.b_cmp2, Pl.Eq.e_ife, Pl.Eq.b_ife, Pl.Eq.e_call, Pl.Eq.b_call, Pl.Eq.e_bi, Pl.Eq.b_bi, Pl.Eq.e_isi, Pl.Eq.b_isi, Pl.Eq.e_mth, Pl.Eq.e_ix, Pl.Eq.b_ix, Pl.Eq.e_sl, Pl.Eq.e_tup, Pl.Eq.e_lst, Pl.Eq.e_lc, Pl.Eq.e_lc2, Pl.Eq.e_lrg, Pl.Eq.e_dic, Pl.Eq.es_nil, Pl.Eq.es_cons, Pl.Eq.o_none, Pl.Eq.o_some, Pl.Eq.bb_nil, Pl.Eq.bb_cons, Pl.Eq.bo_one, Pl.Eq.bo_cons, Pl.Eq.f_nil, Pl.Eq.f_cons, Pl.Eq.i_val, Pl.Eq.i_rng1, Pl.Eq.i_rng2, Pl.Eq.i_rng3, Pl.Eq.i_enum, Pl.Eq.t_nm, Pl.Eq.t_tp, Pl.Eq.ts_nil, Pl.Eq.ts_cons, Pl.Eq.t_sub, Pl.Eq.s_expr, Pl.Eq.s_asg, Pl.Eq.s_par, Pl.Eq.s_aug, Pl.Eq.s_ret, Pl.Eq.s_retN, Pl.Eq.s_ifs, Pl.Eq.s_fr, Pl.Eq.s_brk, Pl.Eq.s_cnt, Pl.Eq.s_pass, Pl.Eq.ss_nil, Pl.Eq.p_addI, Pl.Eq.p_addT, Pl.Eq.p_subI, Pl.Eq.p_mulI, Pl.Eq.p_fdivI, Pl.Eq.p_modI, Pl.Eq.p_powI, Pl.Eq.p_lt, Pl.Eq.p_le, Pl.Eq.p_gt, Pl.Eq.p_ge, Pl.Eq.p_eq, Pl.Eq.p_ne, Pl.Eq.p_isN, Pl.Eq.p_notN, Pl.Eq.p_isB, Pl.Eq.p_notB, Pl.Eq.t_bl, Pl.Eq.t_int, Pl.Eq.t_tup, Pl.Eq.t_lst, Pl.Eq.mk_t, Pl.Eq.mk_f, Pl.Eq.i_non_tup, Pl.Eq.i_non_lst, Pl.Eq.i_non_int, Pl.Eq.i_non_bl, Pl.Eq.i_non_str, Pl.Eq.i_non_dic, Pl.Eq.i_bl_tup, Pl.Eq.i_bl_lst, Pl.Eq.i_bl_int, Pl.Eq.i_bl_bl, Pl.Eq.i_bl_str, Pl.Eq.i_bl_dic, Pl.Eq.i_int_tup, Pl.Eq.i_int_lst, Pl.Eq.i_int_int, Pl.Eq.i_int_bl, Pl.Eq.i_int_str, Pl.Eq.i_int_dic, Pl.Eq.i_str_tup, Pl.Eq.i_str_lst, Pl.Eq.i_str_int, Pl.Eq.i_str_bl, Pl.Eq.i_str_str, Pl.Eq.i_str_dic, Pl.Eq.i_tup_tup, Pl.Eq.i_tup_lst, Pl.Eq.i_tup_int, Pl.Eq.i_tup_bl, Pl.Eq.i_tup_str, Pl.Eq.i_tup_dic, Pl.Eq.i_lst_tup, Pl.Eq.i_lst_lst, Pl.Eq.i_lst_int, Pl.Eq.i_lst_bl, Pl.Eq.i_lst_str, Pl.Eq.i_lst_dic, Pl.Eq.n_non, Pl.Eq.n_bl, Pl.Eq.n_int, Pl.Eq.n_str, Pl.Eq.n_tup, Pl.Eq.n_lst, Pl.Eq.p_slT, Pl.Eq.p_lenT, Pl.Eq.p_lenL, Pl.Eq.p_lenR, Pl.Eq.p_intI, Pl.Eq.p_tuple, Pl.Eq.p_list, Pl.Eq.p_sorted, Pl.Eq.p_max1, Pl.Eq.p_min1, Pl.Eq.p_min, Pl.Eq.p_intB, Pl.Eq.p_mulT, Pl.Eq.p_addLL, Pl.Eq.p_slL, Pl.Eq.it_tup, Pl.Eq.it_lst, Pl.Eq.it_ro, Pl.Eq.si_lst, Pl.Eq.p_all, Pl.Eq.p_any, Pl.Eq.p_max, Pl.Eq.q_tup, Pl.Eq.q_lst, Pl.Eq.q_ro, Pl.Eq.l_lst, Pl.Eq.src_tup, Pl.Eq.src_lst, Pl.Eq.src_ro, Pl.Eq.src_mr, Pl.Eq.atP_some, Pl.Eq.x_tup_, Pl.Eq.x_lst_, Pl.Eq.x_ro_, Pl.Eq.seq_mr, Pl.Eq.lst_mr, Pl.Eq.dic_mr, Pl.Eq.tru_mr, Pl.Eq.it_mr, Pl.Eq.si_mr, Pl.Eq.x_mr, Pl.Eq.set_mr, Pl.Eq.len_mr, Pl.Eq.in_mr, Pl.Eq.nin_mr, Pl.Eq.ty_mr, Pl.Eq.mt_app, Pl.Eq.mt_p0, Pl.Eq.mt_p1, Pl.Eq.mt_ex, Pl.Eq.mt_in, Pl.Eq.mt_g1, Pl.Eq.mt_g2, Pl.Eq.oL_seq, Pl.Eq.oL_tru, Pl.Eq.oL_it, Pl.Eq.oL_ix, Pl.Eq.oL_set, Pl.Eq.oL_len, Pl.Eq.oL_in, Pl.Eq.oL_tyA, Pl.Eq.oL_tyI, Pl.Eq.oL_tyP, Pl.Eq.oL_tyQ, Pl.Eq.oL_tyE, Pl.Eq.oL_tyN, Pl.Eq.oL_app, Pl.Eq.oL_p0, Pl.Eq.oL_p1, Pl.Eq.oL_ex, Pl.Eq.oL_ins, Pl.Eq.oD_dic, Pl.Eq.oL_dic, Pl.Eq.oD_it, Pl.Eq.oD_ix, Pl.Eq.oD_set, Pl.Eq.oD_len, Pl.Eq.oD_in, Pl.Eq.oD_tyG, Pl.Eq.oD_tyH, Pl.Eq.oD_g1, Pl.Eq.oD_g2, Pl.Eq.fx_get, Pl.Eq.fx_get0, Pl.Eq.fx_set, Pl.Eq.fx_set0, Pl.Eq.fx_getS, Pl.Eq.fx_getS0, Pl.Eq.fx_setS, Pl.Eq.fx_setS0, Pl.Eq.at_nat, Pl.Eq.at_0, Pl.Eq.at_1, Pl.Eq.at_2, Pl.Eq.at_3, Pl.Eq.at_4, Pl.Eq.at_last, Pl.Eq.sz, Pl.Eq.ixN_0, Pl.Eq.ixN_1, Pl.Eq.ixN_2, Pl.Eq.ixN_3, Pl.Eq.ixN_4, List.getElem?_cons_zero, List.getElem?_cons_succ, List.set_cons_zero, List.set_cons_succ, Option.some.injEq, exists_eq_left, exists_eq_left', U.int.injEq, U.bl.injEq, U.tup.injEq, U.lst.injEq, Int.zero_add, Nat.reduceLeDiff, List.cons_append, List.nil_append, false_and, exists_false, exists_const, false_or, or_false, Pl.T.own, Pl.Ts.own, Pl.Ts.len, wipeU, Pl.Eq.eqI, Pl.Eq.eqB, beq_self_eq_true, Bool.not_true, Bool.not_false, Bool.false_eq_true, Bool.true_eq_false, reduceCtorEq, decide_true, decide_false, List.length_cons, List.length_nil, Nat.zero_add, Nat.reduceAdd, Nat.reduceLT, if_true, if_false, reduceIte, true_and, and_true, List.set_set, List.append_assoc, List.length_append, List.length_set, Nat.add_zero, List.append_nil, $as,*]))
local macro_rules | `(tactic| dsimp! [$as,*]) => `(tactic| (try simp only [Pl.Eq.e_cst, Pl.Eq.b_cst, Pl.Eq.e_var, Pl.Eq.b_var, Pl.Eq.e_bin, Pl.Eq.b_bin, Pl.Eq.e_neg, Pl.Eq.e_not, Pl.Eq.b_not, Pl.Eq.e_bop, Pl.Eq.b_bop, Pl.Eq.e_cmp, Pl.Eq.b_cmp, Pl.Eq.e_cmp2, Pl.Eq.b_cmp2, Pl.Eq.e_ife, Pl.Eq.b_ife, Pl.Eq.e_call, Pl.Eq.b_call, Pl.Eq.e_bi, Pl.Eq.b_bi, Pl.Eq.e_isi, Pl.Eq.b_isi, Pl.Eq.e_mth, Pl.Eq.e_ix, Pl.Eq.b_ix, Pl.Eq.e_sl, Pl.Eq.e_tup, Pl.Eq.e_lst, Pl.Eq.e_lc, Pl.Eq.e_lc2, Pl.Eq.e_lrg, Pl.Eq.e_dic, Pl.Eq.es_nil, Pl.Eq.es_cons, Pl.Eq.o_none, Pl.Eq.o_some, Pl.Eq.bb_nil, Pl.Eq.bb_cons, Pl.Eq.bo_one, Pl.Eq.bo_cons, Pl.Eq.f_nil, Pl.Eq.f_cons, Pl.Eq.i_val, Pl.Eq.i_rng1, Pl.Eq.i_rng2, Pl.Eq.i_rng3, Pl.Eq.i_enum, Pl.Eq.t_nm, Pl.Eq.t_tp, Pl.Eq.ts_nil, Pl.Eq.ts_cons, Pl.Eq.t_sub, Pl.Eq.s_expr, Pl.Eq.s_asg, Pl.Eq.s_par, Pl.Eq.s_aug, Pl.Eq.s_ret, Pl.Eq.s_retN, Pl.Eq.s_ifs, Pl.Eq.s_fr, Pl.Eq.s_brk, Pl.Eq.s_cnt, Pl.Eq.s_pass, Pl.Eq.ss_nil, Pl.Eq.p_addI, Pl.Eq.p_addT, Pl.Eq.p_subI, Pl.Eq.p_mulI, Pl.Eq.p_fdivI, Pl.Eq.p_modI, Pl.Eq.p_powI, Pl.Eq.p_lt, Pl.Eq.p_le, Pl.Eq.p_gt, Pl.Eq.p_ge, Pl.Eq.p_eq, Pl.Eq.p_ne, Pl.Eq.p_isN, Pl.Eq.p_notN, Pl.Eq.p_isB, Pl.Eq.p_notB, Pl.Eq.t_bl, Pl.Eq.t_int, Pl.Eq.t_tup, Pl.Eq.t_lst, Pl.Eq.mk_t, Pl.Eq.mk_f, Pl.Eq.i_non_tup, Pl.Eq.i_non_lst, Pl.Eq.i_non_int, Pl.Eq.i_non_bl, Pl.Eq.i_non_str, Pl.Eq.i_non_dic, Pl.Eq.i_bl_tup, Pl.Eq.i_bl_lst, Pl.Eq.i_bl_int, Pl.Eq.i_bl_bl, Pl.Eq.i_bl_str, Pl.Eq.i_bl_dic, Pl.Eq.i_int_tup, Pl.Eq.i_int_lst, Pl.Eq.i_int_int, Pl.Eq.i_int_bl, Pl.Eq.i_int_str, Pl.Eq.i_int_dic, Pl.Eq.i_str_tup, Pl.Eq.i_str_lst, Pl.Eq.i_str_int, Pl.Eq.i_str_bl, Pl.Eq.i_str_str, Pl.Eq.i_str_dic, Pl.Eq.i_tup_tup, Pl.Eq.i_tup_lst, Pl.Eq.i_tup_int, Pl.Eq.i_tup_bl, Pl.Eq.i_tup_str, Pl.Eq.i_tup_dic, Pl.Eq.i_lst_tup, Pl.Eq.i_lst_lst, Pl.Eq.i_lst_int, Pl.Eq.i_lst_bl, Pl.Eq.i_lst_str, Pl.Eq.i_lst_dic, Pl.Eq.n_non, Pl.Eq.n_bl, Pl.Eq.n_int, Pl.Eq.n_str, Pl.Eq.n_tup, Pl.Eq.n_lst, Pl.Eq.p_slT, Pl.Eq.p_lenT, Pl.Eq.p_lenL, Pl.Eq.p_lenR, Pl.Eq.p_intI, Pl.Eq.p_tuple, Pl.Eq.p_list, Pl.Eq.p_sorted, Pl.Eq.p_max1, Pl.Eq.p_min1, Pl.Eq.p_min, Pl.Eq.p_intB, Pl.Eq.p_mulT, Pl.Eq.p_addLL, Pl.Eq.p_slL, Pl.Eq.it_tup, Pl.Eq.it_lst, Pl.Eq.it_ro, Pl.Eq.si_lst, Pl.Eq.p_all, Pl.Eq.p_any, Pl.Eq.p_max, Pl.Eq.q_tup, Pl.Eq.q_lst, Pl.Eq.q_ro, Pl.Eq.l_lst, Pl.Eq.src_tup, Pl.Eq.src_lst, Pl.Eq.src_ro, Pl.Eq.src_mr, Pl.Eq.atP_some, Pl.Eq.x_tup_, Pl.Eq.x_lst_, Pl.Eq.x_ro_, Pl.Eq.seq_mr, Pl.Eq.lst_mr, Pl.Eq.dic_mr, Pl.Eq.tru_mr, Pl.Eq.it_mr, Pl.Eq.si_mr, Pl.Eq.x_mr, Pl.Eq.set_mr, Pl.Eq.len_mr, Pl.Eq.in_mr, Pl.Eq.nin_mr, Pl.Eq.ty_mr, Pl.Eq.mt_app, Pl.Eq.mt_p0, Pl.Eq.mt_p1, Pl.Eq.mt_ex, Pl.Eq.mt_in, Pl.Eq.mt_g1, Pl.Eq.mt_g2, Pl.Eq.oL_seq, Pl.Eq.oL_tru, Pl.Eq.oL_it, Pl.Eq.oL_ix, Pl.Eq.oL_set, Pl.Eq.oL_len, Pl.Eq.oL_in, Pl.Eq.oL_tyA, Pl.Eq.oL_tyI, Pl.Eq.oL_tyP, Pl.Eq.oL_tyQ, Pl.Eq.oL_tyE, Pl.Eq.oL_tyN, Pl.Eq.oL_app, Pl.Eq.oL_p0, Pl.Eq.oL_p1, Pl.Eq.oL_ex, Pl.Eq.oL_ins, Pl.Eq.oD_dic, Pl.Eq.oL_dic, Pl.Eq.oD_it, Pl.Eq.oD_ix, Pl.Eq.oD_set, Pl.Eq.oD_len, Pl.Eq.oD_in, Pl.Eq.oD_tyG, Pl.Eq.oD_tyH, Pl.Eq.oD_g1, Pl.Eq.oD_g2, Pl.Eq.fx_get, Pl.Eq.fx_get0, Pl.Eq.fx_set, Pl.Eq.fx_set0, Pl.Eq.fx_getS, Pl.Eq.fx_getS0, Pl.Eq.fx_setS, Pl.Eq.fx_setS0, Pl.Eq.at_nat, Pl.Eq.at_0, Pl.Eq.at_1, Pl.Eq.at_2, Pl.Eq.at_3, Pl.Eq.at_4, Pl.Eq.at_last, Pl.Eq.sz, Pl.Eq.ixN_0, Pl.Eq.ixN_1, Pl.Eq.ixN_2, Pl.Eq.ixN_3, Pl.Eq.ixN_4, List.getElem?_cons_zero, List.getElem?_cons_succ, List.set_cons_zero, List.set_cons_succ, Option.some.injEq, exists_eq_left, exists_eq_left', U.int.injEq, U.bl.injEq, U.tup.injEq, U.lst.injEq, Int.zero_add, Nat.reduceLeDiff, List.cons_append, List.nil_append, false_and, exists_false, exists_const, false_or, or_false, Pl.T.own, Pl.Ts.own, Pl.Ts.len, wipeU, Pl.Eq.eqI, Pl.Eq.eqB, beq_self_eq_true, Bool.not_true, Bool.not_false, Bool.false_eq_true, Bool.true_eq_false, reduceCtorEq, decide_true, decide_false, List.length_cons, List.length_nil, Nat.zero_add, Nat.reduceAdd, Nat.reduceLT, if_true, if_false, reduceIte, true_and, and_true, List.set_set, List.append_assoc, List.length_append, List.length_set, Nat.add_zero, List.append_nil, $as,*]))
section
variable {n : Nat} {h : Hu} {Q : QE} {E : Ex → Hu → Prop}
theorem f_tape : tbl "_law_tape" = some ⟨2, 2, t_tape⟩ := rfl
theorem f_menu : tbl "_law_menu" = some ⟨1, 2, m_law_menu⟩ := rfl
theorem f_inrows : tbl "_law_input_rows" = some ⟨1, 4, m_law_input_rows⟩ := rfl
theorem f_numb : tbl "_law_numbered" = some ⟨2, 7, m_law_numbered⟩ := rfl
theorem f_mach : tbl "_law_machine" = some ⟨4, 11, m_law_machine⟩ := rfl
theorem f_ring : tbl "_law_ring" = some ⟨2, 6, m_law_ring⟩ := rfl
theorem f_copied : tbl "_law_copied" = some ⟨2, 8, m_law_copied⟩ := rfl
theorem c_tape {ns : List Int} (q : Q (.mr h.length) (h ++ [tapeO ns 0 0 1 0])) : callN tbl (n + 1) "_law_tape" [.ro (ns.map .int), .int 0] h Q E := by
  refine call_in f_tape rfl (g := [some (.ro (ns.map .int)), some (.int 0)]) rfl ?_
  unfold t_tape
  simp_all! []
  exact .inl q
end
theorem law_ok : ∀ ns : List Int, ns.length ≤ 63 → (∀ z ∈ ns, Builtin.Int.intBits z ≤ 1048576) → callN (tblOf ds) 60 "law" [.ro (ns.map .int)] [] (fun u _ => u = .bl true) fun _ _ => False := by
  intro ns hn hbits
  have f_law : tbl "law" = some ⟨1, 10, b_law⟩ := rfl
  refine call_in f_law rfl (g := [some (.ro (ns.map .int)), none, none, none, none, none, none, none, none, none]) rfl ?_
  unfold b_law
  have hs : 1000000 < sizeLine := by decide
  have fin : ∀ (h : Hu), stl ([] : Hu) (.bl true) h (fun u _ => u = .bl true) := fun h => .inl rfl
  simp_all! []
  refine c_tape (n := 58) ?_
  have ht0 : IsTape (tapeO ns 0 0 1 0) := ⟨_, _, _, _, _, rfl, by decide, by decide⟩
  generalize tapeO ns 0 0 1 0 = o0 at ht0
  obtain ⟨H, hl, eH⟩ : ∃ H : Hu, 0 < H.length ∧ ([] : Hu) ++ [o0] = H.set 0 o0 := ⟨[o0], Nat.zero_lt_one, rfl⟩
  rw [eH]
  generalize ns.map U.int = script
  dsimp! []
  refine cutSs (fun g h' => ∃ o, IsTape o ∧ h' = H.set 0 o ∧ g = [some (.ro script), some (.mr 0), none, none, none, none, none, none, none, none]) (fun N hN => ?_) ?_
  · dsimp! []
    refine c_tk0 f_mix f_take (d := 57) hl ht0 (by decide) (by decide) fun k o1 k1 ho1 => ?_
    dsimp! []
    by_cases z : k = 0
    · subst z
      dsimp! []
      refine c_long (n := 39) hl ho1 fun o2 ho2 => ?_
      dsimp! []
      exact hN _ _ ⟨o2, ho2, rfl, rfl⟩
    · have z6 : ((k : Int) == 0) = false := by simpa using z
      rw [z6]
      dsimp! []
      exact hN _ _ ⟨o1, ho1, rfl, rfl⟩
  rintro _ _ ⟨o1, ho1, rfl, rfl⟩
  rw [Pl.Eq.ss_cons]
  dsimp! []
  refine c_menu f_mix f_take (n := 56) f_menu hl ho1 fun mu o2 hmu ho2 => ?_
  dsimp! []
  rw [Pl.Eq.ss_cons]
  dsimp! []
  refine c_inrows f_mix f_take (n := 56) f_inrows hl ho2 fun rs o3 gr ho3 => ?_
  have g1 := gr.s
  dsimp! []
  refine c_tk0 f_mix f_take (d := 57) hl ho3 (by decide) (by decide) fun k5 o5 k51 ho5 => ?_
  dsimp! []
  refine c_mach f_mix f_take (n := 56) f_numb f_mach hl ho5 gr hmu fun t1 o6 m1 l1 ho6 => ?_
  dsimp! []
  refine cutSs (fun g h' => ∃ (o : O) (rs : List U) (t : Tb), IsTape o ∧ RsOk rs ∧ MOk 10 rs.length t ∧ t.length ≤ 40 ∧ h' = H.set 0 o ∧ g = [some (.ro script), some (.mr 0), some mu, some (.tup [.tup rs, encT t]), none, none, none, none, none, none]) (fun N hN => ?_) ?_
  · dsimp! []
    refine c_tk0 f_mix f_take (d := 57) hl ho6 (by decide) (by decide) fun k o7 k1 ho7 => ?_
    dsimp! []
    by_cases z : k = 0
    · subst z
      dsimp! []
      rw [Pl.Eq.ss_cons]
      dsimp! []
      refine c_ring f_mix f_take (n := 56) f_ring hl ho7 hmu fun t1 o4 m1 l1 ho4 => ?_
      dsimp! []
      exact hN _ _ ⟨o4, rs1, t1, ho4, rs1_ok, m1, l1, rfl, rfl⟩
    · have z6 : ((k : Int) == 0) = false := by simpa using z
      rw [z6]
      dsimp! []
      rw [Pl.Eq.ss_cons]
      dsimp! []
      refine c_tk0 f_mix f_take (d := 57) hl ho7 (by decide) (by decide) fun k o8 k1 ho8 => ?_
      dsimp! []
      by_cases z : k = 0
      · subst z
        dsimp! []
        rw [Pl.Eq.ss_cons]
        dsimp! []
        refine c_copied f_mix f_take (n := 56) f_numb f_copied hl ho8 gr m1 (by omega) fun t3 o9 m3 l3 _ ho9 => ?_
        dsimp! []
        exact hN _ _ ⟨o9, rs, t3, ho9, gr, m3, by omega, rfl, rfl⟩
      · have z6 : ((k : Int) == 0) = false := by simpa using z
        rw [z6]
        dsimp! []
        exact hN _ _ ⟨o8, rs, t1, ho8, gr, m1, by omega, rfl, rfl⟩
  clear m1 l1 gr g1 ho6 ho5 ho3
  rintro _ _ ⟨o, rs, t, ho, gr, m, tl, rfl, rfl⟩
  have g1 := gr.s
  have w1 : rs.length ≤ 1000 := by omega
  have tb := m.wf.s
  have t0 : 0 < t.length := List.length_pos_iff.mpr m.wf.ne
  have ck := it_cls m.wf
  generalize it t t.length = K at ck
  have uq := fun K' (c' : ClsOk t K') => c'.uniq m (by decide) ck
  have lk := ck.len
  rw [Pl.Eq.ss_cons]
  dsimp! []
  refine c_marked (n := 55) m rfl w1 (by decide) (by omega) ck fun D dk cmp => ?_
  dsimp! []
  simp_all! []
  simp_all! [encT, List.length_map]
  refine ⟨⟨by omega, by omega⟩, ?_⟩
  refine frRng (fun s g h' => ∃ (a b c : Option U), h' = H.set 0 o ++ [.dic (kdT D), .lst (ordU (K.take s))] ∧ g = [some (.ro script), some (.mr 0), some mu, some (.tup [.tup rs, .tup (t.map encL)]), some (.mr H.length), some (.mr (H.length + 1)), a, none, b, c]) ⟨_, _, _, rfl, rfl⟩ ?_ ?_
  · rintro s _ _ hs' ⟨a, b, c, rfl, rfl⟩ k hk
    have hs : s < t.length := by simpa using hs'
    simp_all! []
    refine ⟨⟨by omega, by omega⟩, by simp [rngU]; omega, ?_⟩
    refine lcRng (fun i acc h' => h' = H.set 0 o ++ [.dic (kdT D), .lst (ordU (K.take s))] ∧ acc = ordU ((List.range i).filter fun x => decide (K.getD s 0 = K.getD x 0))) ⟨rfl, rfl⟩ ?_ ?_
    · rintro i _ _ hi ⟨rfl, rfl⟩ k2 hk1 hk2
      have hi' : i < s := by simpa using hi
      have mem : (s, i) ∈ D ↔ ¬ K.getD s 0 = K.getD i 0 := ⟨fun z => (dk.r _ z).2.2, fun z => cmp s i hi' hs z⟩
      dsimp! [pr_mk, pr_enc.s, kdT_in]
      by_cases c : K.getD s 0 = K.getD i 0
      · have nm : (s, i) ∉ D := fun z => mem.mp z c
        dsimp! [nm]
        exact hk1 _ _ ⟨rfl, by rw [List.range_succ, List.filter_append]; simp only [ordU, List.map_append, List.filter_cons, List.filter_nil, decide_eq_true c, if_true]; rfl⟩
      · have nm : (s, i) ∈ D := mem.mpr c
        dsimp! [nm]
        exact hk2 _ ⟨rfl, by rw [List.range_succ, List.filter_append]; simp only [ordU, List.map_append, List.filter_cons, List.filter_nil, decide_eq_false c, Bool.false_eq_true, if_false, List.map_nil, List.append_nil]⟩
    rintro _ _ ⟨rfl, rfl⟩
    have es : (s : Int).toNat = s := rfl
    rw [es]
    dsimp! []
    have nx : ∀ (v : Int) (g' : Sg) (a b c : Option U), v = (K.getD s 0 : Int) → g' = [some (.ro script), some (.mr 0), some mu, some (.tup [.tup rs, .tup (t.map encL)]), some (.mr H.length), some (.mr (H.length + 1)), a, none, b, c] → (ordU (K.take s)).length < sizeLine ∧ k g' (H.set 0 o ++ [.dic (kdT D), .lst (ordU (K.take s) ++ [.int v])]) := by
      rintro v g' a b c rfl rfl
      have hk' : s < K.length := by omega
      refine ⟨by simp [ordU]; omega, hk _ _ ⟨_, _, _, ?_, rfl⟩⟩
      have e1 : ordU (K.take (s + 1)) = ordU (K.take s) ++ [.int (K.getD s 0 : Nat)] := by
        rw [List.take_succ_eq_append_getElem hk']
        unfold ordU
        rw [List.map_append, show K.getD s 0 = K[s] by simp [List.getD, List.getElem?_eq_getElem hk']]
        rfl
      rw [e1]
    cases e : (List.range s).filter fun x => decide (K.getD s 0 = K.getD x 0) with
    | nil =>
      have no : ∀ x, x < s → K.getD x 0 ≠ K.getD s 0 := fun x hx z => by
        have := List.filter_eq_nil_iff.mp e x (by simpa using hx)
        exact this (decide_eq_true z.symm)
      have nw := new_max ck.nm (by omega : s < K.length) no
      have z0 : ((ordU ([] : List Nat)).length : Int) = 0 := rfl
      have zi := ints_cons (K.take s)
      simp_all! [z0, p_addLM]
      refine ⟨by simp [ordU]; omega, ?_⟩
      dsimp! [zi]
      refine ⟨by simp, nx _ _ _ _ _ nw rfl⟩
    | cons x0 r =>
      have mx : x0 ∈ (List.range s).filter fun x => decide (K.getD s 0 = K.getD x 0) := by rw [e]; exact List.mem_cons_self
      obtain ⟨mx1, mx2⟩ := List.mem_filter.mp mx
      have hx : x0 < s := by simpa using mx1
      have ex : K.getD s 0 = K.getD x0 0 := of_decide_eq_true mx2
      have z0 : decide ((0 : Int) < ((ordU (x0 :: r)).length : Int)) = true := by simp [ordU]
      have z1 : (ordU (x0 :: r))[0]? = some (.int x0) := rfl
      have z2 : (ordU (K.take s))[x0]? = some (.int (K.getD x0 0 : Nat)) := by
        have := kn_at (K := K.take s) (s := x0) (by simp; omega)
        rw [this]
        congr 3
        simp [List.getD, hx]
      simp_all! [z0, z1, z2]
      exact nx _ _ _ _ _ (by rw [ex]) rfl
  rintro _ _ ⟨a, b, c, rfl, rfl⟩
  have et : (t.length : Int).toNat = t.length := rfl
  have ek : K.take (t.length : Int).toNat = K := by rw [et, ← lk, List.take_length]
  rw [ek]
  have eT : U.tup (t.map encL) = encT t := rfl
  rw [eT]
  have lm := least_mok m ck
  obtain ⟨ord, nf, _, ll, hom⟩ := least_hom m (by decide) ck
  have lb : (least t K).length ≤ 40 := by
    rw [ll]
    have := seen_le (ks := K) (S := [])
    simp at this
    omega
  have idem := fun K' (c' : ClsOk (least t K) K') => least_least m (by decide) ck c'
  have smL := mac_sm lm (by decide) w1 gr
  have kne : K ≠ [] := fun z => by rw [z] at lk; simp at lk; omega
  have mxK : maxI (natsI K) = ((seen [] K).length : Int) - 1 := by
    have := ordN_max (ks := K) kne
    rw [ck.nm] at this
    exact this
  rw [Pl.Eq.ss_cons]
  dsimp! []
  refine c_classes f_tag f_first f_in f_ref f_cls (n := 55) m (by decide) w1 fun K' c' => ?_
  rw [uq K' c']
  dsimp! []
  refine c_same f_same (k := 2) (ord_sm (by omega)) (by decide) ?_
  dsimp! []
  rw [Pl.Eq.ss_cons]
  dsimp! []
  refine c_least f_tag f_first f_in f_ref f_cls f_least (n := 54) m gr (by decide) w1 fun K' c' => ?_
  rw [uq K' c']
  generalize hL : least t K = L at *
  dsimp! []
  rw [Pl.Eq.ss_cons]
  have zi := ints_ord K
  have smr : sm 12 (.tup rs) := sm_mono (by decide) gr.m
  dsimp! []
  refine c_same f_same (k := 12) smr (by decide) ?_
  have lenL : (L.map encL).length = L.length := List.length_map ..
  have nki : natsI K ≠ [] := fun z => kne (by unfold natsI at z; exact List.map_eq_nil_iff.mp z)
  have e9 : ((L.length : Int) == maxI (natsI K) + 1) = true := by
    rw [mxK, ll]
    simp
  dsimp! [encT, lenL, zi, e9]
  refine ⟨nki, ?_⟩
  have eL : U.tup (L.map encL) = encT L := rfl
  have eT : U.tup (t.map encL) = encT t := rfl
  simp only [eL, eT]
  rw [Pl.Eq.ss_cons]
  dsimp! []
  refine c_numb f_numb (n := 58) (w := rs.length) (tabV_tup (t := L)) lm.wf w1 gr.p lm.p50 ?_
  rw [numb_id lm.num]
  refine c_same f_same (k := 12) smL (by decide) ?_
  dsimp! []
  refine c_walked (n := 55) m lm rfl gr.s (by decide) (by omega) (by omega) hom ?_
  dsimp! []
  rw [Pl.Eq.ss_cons]
  dsimp! []
  refine c_least f_tag f_first f_in f_ref f_cls f_least (n := 54) lm gr (by decide) w1 fun K' c' => ?_
  rw [idem K' c']
  refine c_same f_same (k := 12) smL (by decide) ?_
  dsimp! []
  rw [Pl.Eq.ss_cons]
  dsimp! []
  rw [← fx_outs hl]
  refine c_copied f_mix f_take (n := 56) f_numb f_copied (by simp) ho gr m (by omega) fun t3 o9 m3 l3 cp ho9 => ?_
  obtain ⟨M0, e0, wf0, em0⟩ := cp
  obtain ⟨φ, hφ⟩ := copied_hom m wf0 em0
  rw [← e0] at hφ
  refine c_least f_tag f_first f_in f_ref f_cls f_least (n := 54) m3 gr (by decide) w1 fun K' c' => ?_
  rw [hφ.least m3 m (by decide) c' ck, hL]
  refine c_same f_same (k := 12) smL (by decide) ?_
  exact fin _
end L56
set_option Elab.async false
set_option linter.all false
set_option maxRecDepth 100000
set_option maxHeartbeats 0
/-! the head and the end -/
namespace L56
open PySem PySem.Spec PyProof.Rows L2 Pl
abbrev R : PySem.W.OpenRow := PySem.W.OpenLaw.row PySem.Challenge.rw_everytick_k56_whole_least_machines
theorem run (w : World) : HandSHeadRun.RunEq R (PySem.W.view R.prog [24]) (hkOf ds) (obOf ds) 4000 (["first_keys", "tagged", "in_order", "refined", "classes", "least_machine", "_law_mix", "_law_tape", "_law_take", "_law_same", "_law_numbered", "_law_menu", "_law_machine", "_law_ring", "_law_input_rows", "_law_copied", "_law_changed", "_law_differ", "_law_marked", "_law_leads", "_law_walked", "_law_long"]) w := by
  intro os
  kernel_rfl
theorem okAll : ds.all (okDf (fsOf ds)) = true := by decide +kernel
end L56
open PySem PySem.W PyProof.Rows PySem.Calls
theorem PySem.Challenge.cw_everytick_k56_whole_least_machines_holds : PySem.Challenge.rw_everytick_k56_whole_least_machines.Holds := by
  w_on; o_law
  refine HandSHeadRun.head_any (r := OpenLaw.row PySem.Challenge.rw_everytick_k56_whole_least_machines) (q := view (OpenLaw.row PySem.Challenge.rw_everytick_k56_whole_least_machines).prog [24]) (H := Pl.hkOf L56.ds) (ob := Pl.obOf L56.ds) (M := 4000) (loose := ["first_keys", "tagged", "in_order", "refined", "classes", "least_machine", "_law_mix", "_law_tape", "_law_take", "_law_same", "_law_numbered", "_law_menu", "_law_machine", "_law_ring", "_law_input_rows", "_law_copied", "_law_changed", "_law_differ", "_law_marked", "_law_leads", "_law_walked", "_law_long"]) (d := HandSHeadRun.topDef (OpenLaw.row PySem.Challenge.rw_everytick_k56_whole_least_machines).prog 24) (kwd := []) (Pl.obOf_eq L56.ds)
    (by kernel_rfl) (fun s => by kernel_rfl) L56.run (by kernel_rfl) (by kernel_rfl) (by kernel_rfl) (by rfl) (by first | assumption | decide +kernel) (by decide +kernel) ⟨rfl, rfl, rfl, rfl, rfl, by decide +kernel⟩ ?hw ?hc
  case hw => w_witness2
  case hc =>
    exact Pl.walk_pl (l := PySem.Challenge.rw_everytick_k56_whole_least_machines) (k := 60) (x := "script") L56.ds L56.d_law rfl (by kernel_rfl) (by kernel_rfl) ⟨rfl, by decide, by decide⟩ L56.okAll (by kernel_rfl) rfl L56.law_ok
