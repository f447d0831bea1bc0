import PyProof.Rows.All
import KE.KDictKeyed
import KE.KDictWalk
import HandS.ForExc
import HandS.ForMost
import HandS.DictComp
import HandS.Small
import HandS.Records
import HandS.Walk
import HandS.SortInts
import HandS.More
import HandS.IsInst
import KE.KExcIs
import HandS.HotCalls
import HandS.ExcIs
import HandS.ExcField
import HandS.ExcInit
import HandS.ExcInitHot
import HandS.SortKw
import KE.SortKeyHeap
import HandS.ExcValue
import HandS.Deep
import HandS.Wide
import HandS.Conv
import PySem.Challenge.RW_anyroot_k29_machine_rows_kept_and_writte
import HandS.Style
import Wide.All
import OpenK.AllK
import Wide.FinOn

section
set_option Elab.async false
set_option linter.all false
set_option maxRecDepth 100000
set_option maxHeartbeats 4000000
/-! dicts whose keys are any hashable plain data (ints, bools, texts, None, tuples of such) -/
namespace GX
open PySem PyProof.Rows

abbrev NK := NestedKey
/-- a row: the key, the key's own value, the value -/
abbrev MRow := NK × Value × Value
def ent (w : World) (x : MRow) : DictEntry := ⟨x.1.hash w, x.2.1, x.2.2⟩
def KOk (h : Heap) (k : NK) (v : Value) : Prop := NestedIs h k v ∧ k.depth ≤ 8

def putR (xs : List MRow) (k : NK) (kv v : Value) : List MRow :=
  if xs.any (fun x => decide (x.1 = k)) then xs.map (fun x => if x.1 = k then (x.1, x.2.1, v) else x) else xs ++ [(k, kv, v)]
def getR (xs : List MRow) (k : NK) : Option Value := (xs.find? fun x => decide (x.1 = k)).map (·.2.2)

section
variable {prog : Program} {w : World} {A : Around} {E : Value → Shared → Prop} {s : Shared}

theorem quiet_of {k : NK} {v : Value} (h : KOk s.heap k v) {Q : Bool → Shared → Prop} (q : Q true s) : wpAny (model prog w) A (eqIsQuiet 8 v) Q E s :=
  quiet_key (prog := prog) (w := w) k v 8 s h.1 h.2 A E Q q
theorem hash_of {k : NK} {v : Value} (h : KOk s.heap k v) (hu : A.units + 8 < cLine) {Q : Int → Shared → Prop} (q : Q (k.hash w) { s with toks := s.toks + k.draws }) :
    wpAny (model prog w) A (pyHash v) Q E s := pyHash_key k v A s Q h.1 (by have := h.2; omega) q
theorem eq_of {k l : NK} {v u : Value} (h : KOk s.heap k v) (h' : KOk s.heap l u) (hu : A.units + 8 < cLine) {Q : Bool → Shared → Prop} (q : Q (decide (k = l)) s) :
    wpAny (model prog w) A (eqBool v u) Q E s :=
  eqAt_key k l A s v u h.1 h'.1 (by have := h.2; omega) _ _ _ _ (by rw [← NestedKey.decide_eq]; exact q)

theorem tells_no {k : NK} {v : Value} {st : List Value} {Q : Bool → Shared → Prop} (hk : KOk s.heap k v) (hs : ∀ u ∈ st, ∃ l, KOk s.heap l u) (q : Q false s) :
    wpAny (model prog w) A (tableMayTell v st) Q E s := by
  unfold tableMayTell
  split
  · exact wpAny_pure q
  · refine wpAny_bind (quiet_of hk ?_)
    rw [if_neg (by simp)]
    refine wpAny_bind (wpAny_forIn_list _ (fun r b t => t = s ∧ b = (none, ()) ∧ ∀ u ∈ r, ∃ l, KOk s.heap l u) _ ?_ ?_ _ _ ⟨rfl, rfl, hs⟩)
    · rintro x r b t ⟨rfl, rfl, hr⟩
      obtain ⟨l, hl⟩ := hr x List.mem_cons_self
      refine wpAny_bind (quiet_of hl ?_)
      rw [if_neg (by simp)]
      exact wpAny_pure ⟨rfl, rfl, fun u hu => hr u (List.mem_cons_of_mem _ hu)⟩
    · rintro b t ⟨rfl, rfl, _⟩
      exact wpAny_pure q

/-- the place of a key -/
def IsPlace (xs : List MRow) (k : NK) (j : Nat) : Prop := ∃ y, xs[j]? = some (k, y)
theorem place_one {xs : List MRow} (hn : (xs.map (·.1)).Nodup) {k : NK} {i j : Nat} (hi : IsPlace xs k i) (hj : IsPlace xs k j) : i = j := by
  obtain ⟨y, hy⟩ := hi
  obtain ⟨z, hz⟩ := hj
  have h1 : (xs.map (·.1))[i]? = some k := by rw [List.getElem?_map, hy]; rfl
  have h2 : (xs.map (·.1))[j]? = some k := by rw [List.getElem?_map, hz]; rfl
  exact (List.getElem?_inj (List.getElem?_eq_some_iff.mp h1).1 hn).mp (h1.trans h2.symm)

theorem mem_places {n : Nat} {f : Nat → Option Int} {h : Int} {i : Nat} : i ∈ placesWithHash n f h ↔ i < n ∧ (f i == some h) = true := by
  unfold placesWithHash
  rw [List.mem_filter, List.mem_range]
theorem nodup_places (n : Nat) (f : Nat → Option Int) (h : Int) : (placesWithHash n f h).Nodup := by
  unfold placesWithHash
  exact List.Nodup.sublist List.filter_sublist List.nodup_range

end
end GX
end

section
set_option Elab.async false
set_option linter.all false
set_option maxRecDepth 100000
set_option maxHeartbeats 4000000
namespace GX
open PySem PyProof.Rows

section
variable {prog : Program} {w : World} {A : Around} {E : Value → Shared → Prop} {s : Shared}
variable {d : Addr} {o : Obj} {es : Array DictEntry} {ep : Nat} {xs : List MRow} {k : NK} {kv : Value}

theorem ent_at (he : es.toList = xs.map (ent w)) (j : Nat) : es[j]? = (xs[j]?).map (ent w) := by
  rw [← Array.getElem?_toList, he, List.getElem?_map]
theorem ent_size (he : es.toList = xs.map (ent w)) : es.size = xs.length := by
  rw [← Array.length_toList, he, List.length_map]

theorem find_walk (hu : A.units + 8 < cLine) (hk : KOk s.heap k kv) (ho : s.heap.get? d = some o) (hd : o.data = .dict es ep) (he : es.toList = xs.map (ent w))
    (his : ∀ x ∈ xs, KOk s.heap x.1 x.2.1) (hn : (xs.map (·.1)).Nodup) {Q : Option Nat → Shared → Prop}
    (q0 : (∀ j, ¬ IsPlace xs k j) → Q none s) (q1 : ∀ j, IsPlace xs k j → Q (some j) s) :
    wpAny (model prog w) A (dictWalkPlain d kv (k.hash w) es (placesWithHash es.size (fun i => es[i]?.map (·.hash)) (k.hash w))) Q E s := by
  have hall : ∀ j, IsPlace xs k j → j ∈ placesWithHash es.size (fun i => es[i]?.map (·.hash)) (k.hash w) := fun j ⟨y, hy⟩ => by
    rw [mem_places, ent_size he]
    refine ⟨(List.getElem?_eq_some_iff.mp hy).1, ?_⟩
    rw [ent_at he, hy]
    simp [ent]
  unfold dictWalkPlain
  refine wpAny_bind (wpAny_forIn_list _ (fun r b t => t = s ∧ b = (none, ()) ∧ (∀ i ∈ r, i < xs.length) ∧ ∀ j, IsPlace xs k j → j ∈ r) _ ?_ ?_ _ _ ⟨rfl, rfl, fun i hi => ?_, hall⟩)
  · rintro i r b t ⟨rfl, rfl, hr, hj⟩
    have hi := hr i List.mem_cons_self
    obtain ⟨⟨l, lv, v⟩, hx⟩ : ∃ y, xs[i]? = some y := ⟨xs[i], List.getElem?_eq_getElem hi⟩
    have hl := his _ (List.mem_of_getElem? hx)
    have hr' : ∀ i ∈ r, i < xs.length := fun i h => hr i (List.mem_cons_of_mem _ h)
    have hno : l ≠ k → ∀ j, IsPlace xs k j → j ∈ r := fun ne j p => by
      rcases List.mem_cons.mp (hj j p) with e | h
      · subst e
        obtain ⟨y, hy⟩ := p
        rw [hx] at hy
        exact absurd (congrArg Prod.fst (Option.some.inj hy)) ne
      · exact h
    rw [ent_at he, hx]
    simp only [Option.map_some]
    by_cases hh : ((ent w (l, lv, v)).hash == k.hash w) = true
    · rw [if_pos hh]
      refine wpAny_bind (wpAny_dictEpoch ho hd ?_)
      refine wpAny_bind (eq_of hl hk hu ?_)
      refine wpAny_bind (wpAny_dictEpoch ho hd ?_)
      rw [if_neg (by simp)]
      by_cases hlk : l = k
      · rw [decide_eq_true hlk, if_pos rfl]
        subst hlk
        exact wpAny_bind (wpAny_rule (wpAny_pure (wpAny_pure (q1 i ⟨_, hx⟩))))
      · rw [decide_eq_false hlk, if_neg (by simp)]
        exact wpAny_bind (wpAny_rule (wpAny_pure ⟨rfl, rfl, hr', hno hlk⟩))
    · rw [if_neg hh]
      refine wpAny_pure ⟨rfl, rfl, hr', hno fun e => hh ?_⟩
      subst e
      simp [ent]
  · rintro b t ⟨rfl, rfl, _, hj⟩
    exact wpAny_pure (q0 fun j p => nomatch hj j p)
  · rw [mem_places, ent_size he] at hi
    exact hi.1
end
end GX
end

section
set_option Elab.async false
set_option linter.all false
set_option maxRecDepth 100000
set_option maxHeartbeats 4000000
namespace GX
open PySem PyProof.Rows

section
variable {prog : Program} {w : World} {A : Around} {E : Value → Shared → Prop} {s : Shared}
variable {d : Addr} {o : Obj} {es : Array DictEntry} {ep : Nat} {xs : List MRow} {k : NK} {kv : Value}

theorem is_str {h : Heap} {k : NK} {x : Str} {t : Tok} (r : NestedIs h k (.str x t)) : k = .text x := by cases r; rfl
theorem str_is {h : Heap} {x : Str} {v : Value} (r : NestedIs h (.text x) v) : v.isStr x = true := by cases r; simp [Value.isStr]
theorem isStr_to {h : Heap} {k : NK} {x : Str} {v : Value} (z : NestedIs h k v) (r : v.isStr x = true) : k = .text x := by
  cases v <;> simp [Value.isStr] at r
  subst r
  exact is_str z

theorem kforms {h : Heap} {k : NK} {v : Value} (r : NestedIs h k v) : (∃ x t, v = .str x t) ∨ (∃ a, v = .ref a) ∨ v = .none ∨ (∃ b, v = .bool b) ∨ ∃ i t, v = .int i t := by
  cases r with
  | none => exact .inr (.inr (.inl rfl))
  | bool _ => exact .inr (.inr (.inr (.inl ⟨_, rfl⟩)))
  | int i t => exact .inr (.inr (.inr (.inr ⟨_, _, rfl⟩)))
  | text x t => exact .inl ⟨_, _, rfl⟩
  | tup _ _ _ _ => exact .inr (.inl ⟨_, rfl⟩)
theorem wp_iteb {M : Model} {α : Type} {c : Prop} {dc : Decidable c} {t e : Sem α} {Q : α → Shared → Prop} (h : wpAny M A t Q E s) (h' : wpAny M A e Q E s) : wpAny M A (if c then t else e) Q E s := by
  split
  · exact h
  · exact h'

theorem gfind (hu : A.units + 8 < cLine) (hk : KOk s.heap k kv) (ho : s.heap.get? d = some o) (hd : o.data = .dict es ep) (he : es.toList = xs.map (ent w))
    (his : ∀ x ∈ xs, KOk s.heap x.1 x.2.1) (hn : (xs.map (·.1)).Nodup) {Q : Option Nat → Shared → Prop}
    (q0 : (∀ j, ¬ IsPlace xs k j) → Q none s) (q1 : ∀ j, IsPlace xs k j → Q (some j) s) :
    wpAny (model prog w) A (dictFind d kv (k.hash w)) Q E s := by
  have hmem : ∀ e ∈ es, ∃ x ∈ xs, e = ent w x := fun e hin => by
    have : e ∈ xs.map (ent w) := he ▸ Array.mem_toList_iff.mpr hin
    obtain ⟨x, hx, rfl⟩ := List.mem_map.mp this
    exact ⟨x, hx, rfl⟩
  have hall : ∀ j, IsPlace xs k j → j ∈ placesWithHash es.size (fun i => es[i]?.map (·.hash)) (k.hash w) := fun j ⟨y, hy⟩ => by
    rw [mem_places, ent_size he]
    refine ⟨(List.getElem?_eq_some_iff.mp hy).1, ?_⟩
    rw [ent_at he, hy]
    simp [ent]
  have hin : ∀ i ∈ placesWithHash es.size (fun i => es[i]?.map (·.hash)) (k.hash w), i < xs.length := fun i hi => by
    rw [mem_places, ent_size he] at hi
    exact hi.1
  have hst : ∀ v ∈ (placesWithHash es.size (fun i => es[i]?.map (·.hash)) (k.hash w)).filterMap (fun i => es[i]?.map (·.key)), ∃ l, KOk s.heap l v := fun v hv => by
    obtain ⟨i, _, hi⟩ := List.mem_filterMap.mp hv
    cases hei : es[i]? with
    | none => rw [hei] at hi; cases hi
    | some e =>
      rw [hei] at hi
      obtain rfl : e.key = v := by simpa using hi
      obtain ⟨x, hx, rfl⟩ := hmem e (Array.mem_of_getElem? hei)
      exact ⟨x.1, his x hx⟩
  have hsame : ∀ e ∈ es, e.key = kv → e.hash = k.hash w := fun e hin ek => by
    obtain ⟨x, hx, rfl⟩ := hmem e hin
    have h1 : NestedIs s.heap x.1 kv := ek ▸ (his x hx).1
    rw [show (ent w x).hash = x.1.hash w from rfl, NestedIs.inj _ _ _ h1 hk.1]
  have walk := find_walk (E := E) (prog := prog) hu hk ho hd he his hn q0 q1
  have hnd0 := nodup_places es.size (fun i => es[i]?.map (·.hash)) (k.hash w)
  have hkey : ∀ v ∈ (placesWithHash es.size (fun i => es[i]?.map (·.hash)) (k.hash w)).filterMap (fun i => es[i]?.map (·.key)), ∃ e ∈ es, e.key = v := fun v hv => by
    obtain ⟨i, _, hi⟩ := List.mem_filterMap.mp hv
    cases hei : es[i]? with
    | none => rw [hei] at hi; cases hi
    | some e =>
      rw [hei] at hi
      obtain rfl : e.key = v := by simpa using hi
      exact ⟨e, Array.mem_of_getElem? hei, rfl⟩
  unfold dictFind
  refine wpAny_holding ?_
  refine wpAny_bind (wpAny_dictEntries ho hd ?_)
  dsimp only
  generalize (placesWithHash es.size (fun i => es[i]?.map (·.hash)) (k.hash w)).filterMap (fun i => es[i]?.map (·.key)) = stored at hst hkey ⊢
  generalize placesWithHash es.size (fun i => es[i]?.map (·.hash)) (k.hash w) = places at hall hin walk hnd0 ⊢
  by_cases hplain : ((kv :: stored).all carriedByValue) = true
  · rw [if_pos hplain]
    split
    next x t =>
      split
      next hs =>
        unfold foundByValue
        have hk' := is_str hk.1
        cases hf : es.findIdx? (fun e => e.key.isStr x) with
        | none =>
          refine wpAny_pure (q0 fun j ⟨y, hy⟩ => ?_)
          have h1 : es[j]? = some (ent w (k, y)) := by rw [ent_at he, hy]; rfl
          have h2 := Array.findIdx?_eq_none_iff.mp hf _ (Array.mem_of_getElem? h1)
          have h3 : NestedIs s.heap (.text x) y.1 := hk' ▸ (his _ (List.mem_of_getElem? hy)).1
          rw [show (ent w (k, y)).key = y.1 from rfl, str_is h3] at h2
          cases h2
        | some i =>
          obtain ⟨hlt, hi, _⟩ := Array.findIdx?_eq_some_iff_getElem.mp hf
          have hlt' : i < xs.length := by rw [← ent_size he]; exact hlt
          obtain ⟨⟨l, lv, v⟩, hx⟩ : ∃ y, xs[i]? = some y := ⟨xs[i], List.getElem?_eq_getElem hlt'⟩
          have hl := his _ (List.mem_of_getElem? hx)
          have e1 : es[i]? = some (ent w (l, lv, v)) := by rw [ent_at he, hx]; rfl
          have e2 : es[i] = ent w (l, lv, v) := by rw [Array.getElem?_eq_getElem hlt] at e1; exact Option.some.inj e1
          rw [e2] at hi
          have e3 : l = k := (isStr_to hl.1 hi).trans hk'.symm
          subst e3
          dsimp only
          rw [e1]
          dsimp only
          refine wpAny_bind (wpAny_dictEpoch ho hd (wpAny_bind (eq_of hl hk hu (wpAny_bind (wpAny_dictEpoch ho hd ?_)))))
          rw [if_neg (by simp), decide_eq_true rfl, if_pos rfl]
          exact wpAny_bind (wpAny_rule (wpAny_pure (q1 i ⟨_, hx⟩)))
      next => exact walk
    next => exact walk
  · rw [if_neg hplain]
    have noany : ¬ (es.any fun e => e.key == kv && e.hash != k.hash w) = true := by
      intro h
      obtain ⟨i, hi, hc⟩ := Array.any_eq_true.mp h
      rw [Bool.and_eq_true] at hc
      have := hsame es[i] (Array.getElem_mem hi) (by simpa using hc.1)
      rw [this, bne_self_eq_false] at hc
      exact absurd hc.2 (by decide)
    rcases kforms hk.1 with ⟨x, t, rfl⟩ | ⟨a, rfl⟩ | rfl | ⟨b, rfl⟩ | ⟨i, t, rfl⟩
    · have hs : ¬ (es.all fun e => isExactStrKey e.key) = true := fun hs => by
        refine absurd ?_ hplain
        rw [List.all_cons, List.all_eq_true.mpr, Bool.and_true]
        · rfl
        · intro v hv
          obtain ⟨e, hin', rfl⟩ := hkey v hv
          have := Array.all_eq_true_iff_forall_mem.mp hs e hin'
          cases hek : e.key <;> rw [hek] at this <;> first | rfl | (simp [isExactStrKey] at this)
      dsimp only
      rw [if_neg hs]
      refine wp_iteb (wpAny_bind (wpAny_pure ?_)) (wpAny_bind (tells_no hk hst ?_)) <;> skip
      all_goals (
          try dsimp only
          try rw [if_neg (show ¬ ((false && _) = true) by simp)]
          refine wpAny_bind (wpAny_forIn_list _ (fun r b t => t = s ∧ b.1 = none ∧ r.Nodup ∧ (∀ i ∈ r, i < xs.length) ∧ ((b.2 = none ∧ ∀ j, IsPlace xs k j → j ∈ r) ∨ ∃ j, b.2 = some j ∧ IsPlace xs k j ∧ j ∉ r)) _ ?_ ?_ _ _
            ⟨rfl, rfl, hnd0, hin, .inl ⟨rfl, hall⟩⟩)
          · rintro i r ⟨b1, b2⟩ t ⟨rfl, hb, hnd, hr, hj⟩
            obtain rfl : b1 = none := hb
            obtain ⟨hir, hnd'⟩ := List.nodup_cons.mp hnd
            have hi := hr i List.mem_cons_self
            obtain ⟨⟨l, lv, v⟩, hx⟩ : ∃ y, xs[i]? = some y := ⟨xs[i], List.getElem?_eq_getElem hi⟩
            have hl := his _ (List.mem_of_getElem? hx)
            have hr' : ∀ i ∈ r, i < xs.length := fun i h => hr i (List.mem_cons_of_mem _ h)
            have hno : l ≠ k → (b2 = none ∧ ∀ j, IsPlace xs k j → j ∈ r) ∨ ∃ j, b2 = some j ∧ IsPlace xs k j ∧ j ∉ r := fun ne => by
              rcases hj with ⟨e, hj⟩ | ⟨j, e, p, hj⟩
              · refine .inl ⟨e, fun j p => ?_⟩
                rcases List.mem_cons.mp (hj j p) with e | h
                · subst e
                  obtain ⟨y, hy⟩ := p
                  rw [hx] at hy
                  exact absurd (congrArg Prod.fst (Option.some.inj hy)) ne
                · exact h
              · exact .inr ⟨j, e, p, fun h => hj (List.mem_cons_of_mem _ h)⟩
            rw [ent_at he, hx]
            simp only [Option.map_some]
            by_cases hh : ((ent w (l, lv, v)).hash == k.hash w) = true
            · rw [if_pos hh]
              refine wpAny_bind (wpAny_dictEpoch ho hd ?_)
              refine wpAny_bind (eq_of hl hk hu ?_)
              refine wpAny_bind (wpAny_dictEpoch ho hd ?_)
              rw [if_neg (by simp)]
              by_cases hlk : l = k
              · rw [decide_eq_true hlk, if_pos rfl]
                subst hlk
                rcases hj with ⟨e, hj⟩ | ⟨j, e, p, hj⟩
                · obtain rfl : b2 = none := e
                  simp only [Option.isSome_none, Bool.false_eq_true, if_false]
                  refine wpAny_bind (wpAny_rule ?_)
                  split
                  · exact wpAny_pure (wpAny_pure (q1 i ⟨_, hx⟩))
                  · exact wpAny_pure ⟨rfl, rfl, hnd', hr', .inr ⟨i, rfl, ⟨_, hx⟩, hir⟩⟩
                · exact absurd (place_one hn p ⟨_, hx⟩ ▸ List.mem_cons_self) hj
              · rw [decide_eq_false hlk, if_neg (by simp)]
                refine wpAny_bind (wpAny_rule ?_)
                first
                  | exact wpAny_pure ⟨rfl, rfl, hnd', hr', hno hlk⟩
                  | (rw [if_neg (by simp)]; exact wpAny_pure ⟨rfl, rfl, hnd', hr', hno hlk⟩)
            · rw [if_neg hh]
              refine wpAny_pure ⟨rfl, rfl, hnd', hr', hno fun e => hh ?_⟩
              subst e
              simp [ent]
          · rintro ⟨b1, b2⟩ t ⟨rfl, hb, _, _, hj⟩
            obtain rfl : b1 = none := hb
            rcases hj with ⟨e, hj⟩ | ⟨j, e, p, _⟩
            · obtain rfl : b2 = none := e
              exact wpAny_pure (q0 fun j p => nomatch hj j p)
            · obtain rfl : b2 = some j := e
              exact wpAny_pure (q1 j p))
    · dsimp only
      rw [if_neg noany]
      refine wp_iteb (wpAny_bind (wpAny_pure ?_)) (wpAny_bind (tells_no hk hst ?_)) <;> skip
      all_goals (
          try dsimp only
          try rw [if_neg (show ¬ ((false && _) = true) by simp)]
          refine wpAny_bind (wpAny_forIn_list _ (fun r b t => t = s ∧ b.1 = none ∧ r.Nodup ∧ (∀ i ∈ r, i < xs.length) ∧ ((b.2 = none ∧ ∀ j, IsPlace xs k j → j ∈ r) ∨ ∃ j, b.2 = some j ∧ IsPlace xs k j ∧ j ∉ r)) _ ?_ ?_ _ _
            ⟨rfl, rfl, hnd0, hin, .inl ⟨rfl, hall⟩⟩)
          · rintro i r ⟨b1, b2⟩ t ⟨rfl, hb, hnd, hr, hj⟩
            obtain rfl : b1 = none := hb
            obtain ⟨hir, hnd'⟩ := List.nodup_cons.mp hnd
            have hi := hr i List.mem_cons_self
            obtain ⟨⟨l, lv, v⟩, hx⟩ : ∃ y, xs[i]? = some y := ⟨xs[i], List.getElem?_eq_getElem hi⟩
            have hl := his _ (List.mem_of_getElem? hx)
            have hr' : ∀ i ∈ r, i < xs.length := fun i h => hr i (List.mem_cons_of_mem _ h)
            have hno : l ≠ k → (b2 = none ∧ ∀ j, IsPlace xs k j → j ∈ r) ∨ ∃ j, b2 = some j ∧ IsPlace xs k j ∧ j ∉ r := fun ne => by
              rcases hj with ⟨e, hj⟩ | ⟨j, e, p, hj⟩
              · refine .inl ⟨e, fun j p => ?_⟩
                rcases List.mem_cons.mp (hj j p) with e | h
                · subst e
                  obtain ⟨y, hy⟩ := p
                  rw [hx] at hy
                  exact absurd (congrArg Prod.fst (Option.some.inj hy)) ne
                · exact h
              · exact .inr ⟨j, e, p, fun h => hj (List.mem_cons_of_mem _ h)⟩
            rw [ent_at he, hx]
            simp only [Option.map_some]
            by_cases hh : ((ent w (l, lv, v)).hash == k.hash w) = true
            · rw [if_pos hh]
              refine wpAny_bind (wpAny_dictEpoch ho hd ?_)
              refine wpAny_bind (eq_of hl hk hu ?_)
              refine wpAny_bind (wpAny_dictEpoch ho hd ?_)
              rw [if_neg (by simp)]
              by_cases hlk : l = k
              · rw [decide_eq_true hlk, if_pos rfl]
                subst hlk
                rcases hj with ⟨e, hj⟩ | ⟨j, e, p, hj⟩
                · obtain rfl : b2 = none := e
                  simp only [Option.isSome_none, Bool.false_eq_true, if_false]
                  refine wpAny_bind (wpAny_rule ?_)
                  split
                  · exact wpAny_pure (wpAny_pure (q1 i ⟨_, hx⟩))
                  · exact wpAny_pure ⟨rfl, rfl, hnd', hr', .inr ⟨i, rfl, ⟨_, hx⟩, hir⟩⟩
                · exact absurd (place_one hn p ⟨_, hx⟩ ▸ List.mem_cons_self) hj
              · rw [decide_eq_false hlk, if_neg (by simp)]
                refine wpAny_bind (wpAny_rule ?_)
                first
                  | exact wpAny_pure ⟨rfl, rfl, hnd', hr', hno hlk⟩
                  | (rw [if_neg (by simp)]; exact wpAny_pure ⟨rfl, rfl, hnd', hr', hno hlk⟩)
            · rw [if_neg hh]
              refine wpAny_pure ⟨rfl, rfl, hnd', hr', hno fun e => hh ?_⟩
              subst e
              simp [ent]
          · rintro ⟨b1, b2⟩ t ⟨rfl, hb, _, _, hj⟩
            obtain rfl : b1 = none := hb
            rcases hj with ⟨e, hj⟩ | ⟨j, e, p, _⟩
            · obtain rfl : b2 = none := e
              exact wpAny_pure (q0 fun j p => nomatch hj j p)
            · obtain rfl : b2 = some j := e
              exact wpAny_pure (q1 j p))
    all_goals (
      dsimp only
      refine wp_iteb (wpAny_bind (wpAny_pure ?_)) (wpAny_bind (tells_no hk hst ?_)) <;> skip
      all_goals (
          try dsimp only
          try rw [if_neg (show ¬ ((false && _) = true) by simp)]
          refine wpAny_bind (wpAny_forIn_list _ (fun r b t => t = s ∧ b.1 = none ∧ r.Nodup ∧ (∀ i ∈ r, i < xs.length) ∧ ((b.2 = none ∧ ∀ j, IsPlace xs k j → j ∈ r) ∨ ∃ j, b.2 = some j ∧ IsPlace xs k j ∧ j ∉ r)) _ ?_ ?_ _ _
            ⟨rfl, rfl, hnd0, hin, .inl ⟨rfl, hall⟩⟩)
          · rintro i r ⟨b1, b2⟩ t ⟨rfl, hb, hnd, hr, hj⟩
            obtain rfl : b1 = none := hb
            obtain ⟨hir, hnd'⟩ := List.nodup_cons.mp hnd
            have hi := hr i List.mem_cons_self
            obtain ⟨⟨l, lv, v⟩, hx⟩ : ∃ y, xs[i]? = some y := ⟨xs[i], List.getElem?_eq_getElem hi⟩
            have hl := his _ (List.mem_of_getElem? hx)
            have hr' : ∀ i ∈ r, i < xs.length := fun i h => hr i (List.mem_cons_of_mem _ h)
            have hno : l ≠ k → (b2 = none ∧ ∀ j, IsPlace xs k j → j ∈ r) ∨ ∃ j, b2 = some j ∧ IsPlace xs k j ∧ j ∉ r := fun ne => by
              rcases hj with ⟨e, hj⟩ | ⟨j, e, p, hj⟩
              · refine .inl ⟨e, fun j p => ?_⟩
                rcases List.mem_cons.mp (hj j p) with e | h
                · subst e
                  obtain ⟨y, hy⟩ := p
                  rw [hx] at hy
                  exact absurd (congrArg Prod.fst (Option.some.inj hy)) ne
                · exact h
              · exact .inr ⟨j, e, p, fun h => hj (List.mem_cons_of_mem _ h)⟩
            rw [ent_at he, hx]
            simp only [Option.map_some]
            by_cases hh : ((ent w (l, lv, v)).hash == k.hash w) = true
            · rw [if_pos hh]
              refine wpAny_bind (wpAny_dictEpoch ho hd ?_)
              refine wpAny_bind (eq_of hl hk hu ?_)
              refine wpAny_bind (wpAny_dictEpoch ho hd ?_)
              rw [if_neg (by simp)]
              by_cases hlk : l = k
              · rw [decide_eq_true hlk, if_pos rfl]
                subst hlk
                rcases hj with ⟨e, hj⟩ | ⟨j, e, p, hj⟩
                · obtain rfl : b2 = none := e
                  simp only [Option.isSome_none, Bool.false_eq_true, if_false]
                  refine wpAny_bind (wpAny_rule ?_)
                  split
                  · exact wpAny_pure (wpAny_pure (q1 i ⟨_, hx⟩))
                  · exact wpAny_pure ⟨rfl, rfl, hnd', hr', .inr ⟨i, rfl, ⟨_, hx⟩, hir⟩⟩
                · exact absurd (place_one hn p ⟨_, hx⟩ ▸ List.mem_cons_self) hj
              · rw [decide_eq_false hlk, if_neg (by simp)]
                refine wpAny_bind (wpAny_rule ?_)
                first
                  | exact wpAny_pure ⟨rfl, rfl, hnd', hr', hno hlk⟩
                  | (rw [if_neg (by simp)]; exact wpAny_pure ⟨rfl, rfl, hnd', hr', hno hlk⟩)
            · rw [if_neg hh]
              refine wpAny_pure ⟨rfl, rfl, hnd', hr', hno fun e => hh ?_⟩
              subst e
              simp [ent]
          · rintro ⟨b1, b2⟩ t ⟨rfl, hb, _, _, hj⟩
            obtain rfl : b1 = none := hb
            rcases hj with ⟨e, hj⟩ | ⟨j, e, p, _⟩
            · obtain rfl : b2 = none := e
              exact wpAny_pure (q0 fun j p => nomatch hj j p)
            · obtain rfl : b2 = some j := e
              exact wpAny_pure (q1 j p)))
end
end GX
end

section
set_option Elab.async false
set_option linter.all false
set_option maxRecDepth 100000
set_option maxHeartbeats 4000000
namespace GX
open PySem PyProof.Rows

/-- at d stands a dict with these rows -/
def GDict (w : World) (h : Heap) (d : Addr) (xs : List MRow) : Prop :=
  ∃ o es ep, h.get? d = some o ∧ o.ExactDict ∧ o.data = .dict es ep ∧ es.toList = xs.map (ent w)
theorem GDict.typeIs {w : World} {s : Shared} {d : Addr} {xs : List MRow} (g : GDict w s.heap d xs) : s.TypeIs (.ref d) "dict" :=
  let ⟨o, _, _, ho, hc, _⟩ := g; ⟨o, ho, hc.1⟩
theorem GDict.new (w : World) (h : Heap) : GDict w (h.push { cls := .type "dict", data := .dict #[] }) h.objs.size [] :=
  ⟨_, #[], 0, Heap.get?_push_size _ rfl, ⟨rfl, rfl, rfl⟩, rfl, rfl⟩

theorem getR_of {xs : List MRow} (hn : (xs.map (·.1)).Nodup) : ∀ {j : Nat} {k : NK} {y : Value × Value}, xs[j]? = some (k, y) → getR xs k = some y.2 := by
  induction xs with
  | nil => intro j k y h; simp at h
  | cons x r ih =>
    intro j k y h
    rw [List.map_cons, List.nodup_cons] at hn
    cases j with
    | zero =>
      obtain rfl : x = (k, y) := by simpa using h
      simp [getR]
    | succ j =>
      have h' : r[j]? = some (k, y) := by simpa using h
      have hm : k ∈ r.map (·.1) := List.mem_map.mpr ⟨_, List.mem_of_getElem? h', rfl⟩
      have ne : ¬ x.1 = k := fun e => hn.1 (e ▸ hm)
      have := ih hn.2 h'
      simpa [getR, List.find?_cons, ne] using this
theorem getR_no {xs : List MRow} {k : NK} (h : ∀ j, ¬ IsPlace xs k j) : getR xs k = none := by
  have : (xs.find? fun x => decide (x.1 = k)) = none := by
    rw [List.find?_eq_none]
    intro x hx hk
    obtain ⟨j, hj⟩ := List.mem_iff_getElem?.mp hx
    exact h j ⟨x.2, by rw [hj, ← of_decide_eq_true hk]⟩
  simp [getR, this]
theorem any_no {xs : List MRow} {k : NK} (h : ∀ j, ¬ IsPlace xs k j) : (xs.any fun x => decide (x.1 = k)) = false := by
  rw [List.any_eq_false]
  intro x hx hk
  obtain ⟨j, hj⟩ := List.mem_iff_getElem?.mp hx
  exact h j ⟨x.2, by rw [hj, ← of_decide_eq_true hk]⟩
theorem any_yes {xs : List MRow} {k : NK} {j : Nat} (h : IsPlace xs k j) : (xs.any fun x => decide (x.1 = k)) = true := by
  obtain ⟨y, hy⟩ := h
  exact List.any_eq_true.mpr ⟨_, List.mem_of_getElem? hy, by simp⟩
theorem modify_ent (w : World) (k : NK) (v : Value) : ∀ {xs : List MRow} {j : Nat}, (xs.map (·.1)).Nodup → IsPlace xs k j →
    (xs.map (ent w)).modify j (fun e : DictEntry => { e with val := v }) = (xs.map fun x => if x.1 = k then (x.1, x.2.1, v) else x).map (ent w)
  | [], j, _, ⟨y, hy⟩ => by simp at hy
  | x :: r, 0, hn, ⟨y, hy⟩ => by
    rw [List.map_cons, List.nodup_cons] at hn
    obtain rfl : x = (k, y) := by simpa using hy
    have same : (r.map fun x => if x.1 = k then (x.1, x.2.1, v) else x) = r := by
      have : ∀ x ∈ r, (if x.1 = k then (x.1, x.2.1, v) else x) = x := fun z hz => if_neg fun (e : z.1 = k) => hn.1 (e ▸ List.mem_map.mpr ⟨z, hz, rfl⟩)
      rw [List.map_congr_left this, List.map_id']
    rw [List.map_cons (f := fun x : MRow => if x.1 = k then (x.1, x.2.1, v) else x), same, if_pos rfl]
    rfl
  | x :: r, j + 1, hn, ⟨y, hy⟩ => by
    rw [List.map_cons, List.nodup_cons] at hn
    have hy' : r[j]? = some (k, y) := by simpa using hy
    have ne : ¬ x.1 = k := fun e => hn.1 (e ▸ List.mem_map.mpr ⟨_, List.mem_of_getElem? hy', rfl⟩)
    rw [List.map_cons (f := fun x : MRow => if x.1 = k then (x.1, x.2.1, v) else x), if_neg ne, List.map_cons, List.map_cons, ← modify_ent w k v hn.2 ⟨y, hy'⟩]
    rfl

section
variable {prog : Program} {w : World} {A : Around} {E : Value → Shared → Prop} {s : Shared}
variable {d : Addr} {xs : List MRow} {k : NK} {kv : Value}

theorem gget (hu : A.units + 8 < cLine) (hk : KOk s.heap k kv) (g : GDict w s.heap d xs) (his : ∀ x ∈ xs, KOk s.heap x.1 x.2.1) (hn : (xs.map (·.1)).Nodup) {Q : Option Value → Shared → Prop}
    (q : ∀ tk, Q (getR xs k) { s with toks := tk }) : wpAny (model prog w) A (dictGet d kv) Q E s := by
  obtain ⟨o, es, ep, ho, _, hd, he⟩ := g
  unfold dictGet
  refine wpAny_holding (wpAny_bind (hash_of hk hu (wpAny_bind (gfind (s := { s with toks := s.toks + k.draws }) hu hk ho hd he his hn (fun h => ?_) fun j ⟨y, hy⟩ => ?_))))
  · have := q (s.toks + k.draws)
    rw [getR_no h] at this
    exact wpAny_pure this
  · have := q (s.toks + k.draws)
    rw [getR_of hn hy] at this
    refine wpAny_bind (wpAny_dictEntries (s := { s with toks := s.toks + k.draws }) ho hd ?_)
    rw [ent_at he, hy]
    exact wpAny_pure this

theorem gset_at {part : Option Value} {o : Obj} {es : Array DictEntry} {ep : Nat} {v : Value} {Q : Unit → Shared → Prop} (ho : s.heap.get? d = some o) (hc : o.ExactDict) (hd : o.data = .dict es ep) (he : es.toList = xs.map (ent w))
    (hz : xs.length ≤ sizeLine) (hno : ∀ j, ¬ IsPlace xs k j) (q : ∀ h', GDict w h' d (putR xs k kv v) → Heap.SameBut d s.heap h' → Q () { s with heap := h' }) :
    wpAny (model prog w) A (updateDictKeys d (·.push ⟨k.hash w, kv, v⟩) part) Q E s := by
  refine wpAny_updateDictKeys (hz := by rw [ent_size he]; exact hz) ho hd (q _ ⟨_, _, ep + 1, Heap.get?_update_self _ ho (Obj.isFreed_of_dict (Obj.data_mapDictKeys hd _)), hc.mapDictKeys _, Obj.data_mapDictKeys hd _, ?_⟩ (Heap.SameBut.update ..))
  unfold putR
  rw [any_no hno, if_neg (by simp), Array.toList_push, he, List.map_append]
  rfl

theorem gset (hu : A.units + 8 < cLine) (hk : KOk s.heap k kv) (g : GDict w s.heap d xs) (his : ∀ x ∈ xs, KOk s.heap x.1 x.2.1) (hn : (xs.map (·.1)).Nodup) (hz : xs.length ≤ sizeLine) {v : Value} {Q : Unit → Shared → Prop}
    (q : ∀ h' tk, GDict w h' d (putR xs k kv v) → Heap.SameBut d s.heap h' → Q () { s with heap := h', toks := tk }) : wpAny (model prog w) A (dictSet d kv v) Q E s := by
  obtain ⟨o, es, ep, ho, hc, hd, he⟩ := g
  unfold dictSet
  refine wpAny_holding (wpAny_bind (hash_of hk hu ?_))
  unfold dictSetHashed
  refine wpAny_holding (wpAny_bind (gfind (s := { s with toks := s.toks + k.draws }) hu hk ho hd he his hn (fun h => ?_) fun j p => ?_))
  · exact wpAny_bind (wpAny_rule (gset_at (s := { s with toks := s.toks + k.draws }) ho hc hd he hz h fun h' => q h' _))
  · refine wpAny_bind (wpAny_rule (wpAny_bind (wpAny_updateDict (s := { s with toks := s.toks + k.draws }) ho hd (wpAny_point (q _ _ ⟨_, _, ep, Heap.get?_update_self _ ho (Obj.isFreed_of_dict (Obj.data_mapDict hd _)), hc.mapDict _, Obj.data_mapDict hd _, ?_⟩ (Heap.SameBut.update ..))))))
    unfold putR
    rw [any_yes p, if_pos rfl, ← modify_ent w k v hn p, ← he]
    obtain ⟨l⟩ := es
    simp

theorem gsetd (hu : A.units + 8 < cLine) (hk : KOk s.heap k kv) (g : GDict w s.heap d xs) (his : ∀ x ∈ xs, KOk s.heap x.1 x.2.1) (hn : (xs.map (·.1)).Nodup) (hz : xs.length ≤ sizeLine) {v : Value} {Q : Value → Shared → Prop}
    (q1 : ∀ u tk, getR xs k = some u → Q u { s with toks := tk })
    (q2 : getR xs k = none → ∀ h' tk, GDict w h' d (putR xs k kv v) → Heap.SameBut d s.heap h' → Q v { s with heap := h', toks := tk }) : wpAny (model prog w) A (dictSetDefault d kv v) Q E s := by
  obtain ⟨o, es, ep, ho, hc, hd, he⟩ := g
  unfold dictSetDefault
  refine wpAny_holding (wpAny_bind (hash_of hk hu ?_))
  refine wpAny_bind (gfind (s := { s with toks := s.toks + k.draws }) hu hk ho hd he his hn (fun h => ?_) fun j ⟨y, hy⟩ => ?_)
  · exact wpAny_bind (wpAny_rule (wpAny_bind (gset_at (s := { s with toks := s.toks + k.draws }) ho hc hd he hz h fun h' a b => wpAny_pure (q2 (getR_no h) h' _ a b))))
  · refine wpAny_bind (wpAny_dictEntries (s := { s with toks := s.toks + k.draws }) ho hd ?_)
    rw [ent_at he, hy]
    exact wpAny_bind (wpAny_rule (wpAny_pure (q1 _ _ (getR_of hn hy))))
end
end GX
end

section
set_option Elab.async false
set_option linter.all false
set_option maxRecDepth 100000
set_option maxHeartbeats 4000000
namespace GX
open PySem PyProof.Rows

section
variable {prog : Program} {w : World} {A : Around} {E : Value → Shared → Prop} {s : Shared}
variable {d : Addr} {xs : List MRow} {k : NK} {kv : Value}

theorem gcontains (hu : A.units + 9 < cLine) (hk : KOk s.heap k kv) (g : GDict w s.heap d xs) (his : ∀ x ∈ xs, KOk s.heap x.1 x.2.1) (hn : (xs.map (·.1)).Nodup) (hd : (d == sysModules) = false) {Q : Bool → Shared → Prop}
    (q : ∀ tk, Q (getR xs k).isSome { s with toks := tk }) : wpAny (model prog w) A (contains (.ref d) kv) Q E s := by
  refine wpAny_contains_slot g.typeIs F.slot_dict_contains ?_
  refine wpAny_call_entry F.slot_dict_contains g.typeIs F.entry_dict_contains ?_ (F.args_dict_contains_2 _ _)
  show wpAny _ _ (dictGet d kv >>= _) _ _ s
  refine wpAny_bind (gget (show A.units + 1 + 8 < cLine by omega) hk g his hn fun tk => ?_)
  have q' := q tk
  cases e : getR xs k with
  | some p =>
    rw [e] at q'
    show wpAny _ _ (ret (.bool true)) _ _ _
    exact wpAny_pure ⟨_, rfl, wpAny_truthy_bool q'⟩
  | none =>
    rw [e] at q'
    show wpAny _ _ (Builtin.Dict.pendingKey? d kv >>= _) _ _ _
    exact wpAny_bind (wpAny_pendingKey_other hd (wpAny_pure ⟨_, rfl, wpAny_truthy_bool q'⟩))

theorem gitem (hu : A.units + 9 < cLine) (hk : KOk s.heap k kv) (g : GDict w s.heap d xs) (his : ∀ x ∈ xs, KOk s.heap x.1 x.2.1) (hn : (xs.map (·.1)).Nodup) {v : Value} (hv : getR xs k = some v) {Q : Value → Shared → Prop}
    (q : ∀ tk, Q v { s with toks := tk }) : wpAny (model prog w) A (getItem (.ref d) kv) Q E s := by
  unfold getItem
  refine wpAny_holding ?_
  refine wpAny_bind (wpAny_sequenceKey g.typeIs (by decide) ?_)
  refine wpAny_bind (wpAny_callSpecial?_slot (name := Str.ofString "__getitem__") g.typeIs slot_dict_getitem
    (wpAny_call_entry slot_dict_getitem g.typeIs entry_dict_getitem ?_ (args_dict_getitem _ _)))
  show wpAny _ _ (dictGet d kv >>= _) _ _ s
  refine wpAny_bind (gget (show A.units + 1 + 8 < cLine by omega) hk g his hn fun tk => ?_)
  rw [hv]
  exact wpAny_pure ⟨v, rfl, wpAny_pure (q tk)⟩

theorem gsetItem (hu : A.units + 9 < cLine) (hk : KOk s.heap k kv) (g : GDict w s.heap d xs) (his : ∀ x ∈ xs, KOk s.heap x.1 x.2.1) (hn : (xs.map (·.1)).Nodup) (hz : xs.length ≤ sizeLine) {v : Value} {Q : Unit → Shared → Prop}
    (q : ∀ h' tk, GDict w h' d (putR xs k kv v) → Heap.SameBut d s.heap h' → Q () { s with heap := h', toks := tk }) : wpAny (model prog w) A (setItem (.ref d) kv v) Q E s := by
  unfold setItem
  refine wpAny_holding ?_
  refine wpAny_bind (wpAny_sequenceKey g.typeIs (by decide) ?_)
  refine wpAny_bind (wpAny_callSpecial?_slot (name := Str.ofString "__setitem__") g.typeIs slot_dict_setitem
    (wpAny_call_entry slot_dict_setitem g.typeIs entry_dict_setitem ?_ (args_dict_setitem _ _ _)))
  show wpAny _ _ (Builtin.Dict.notOrdered "__setitem__" ⟨[.ref d, kv, v], []⟩ >>= _) _ _ s
  refine wpAny_bind (wpAny_notOrdered_dict g.typeIs ?_)
  show wpAny _ _ (dictSet d kv v >>= _) _ _ s
  exact wpAny_bind (gset (show A.units + 1 + 8 < cLine by omega) hk g his hn hz fun h' tk a b => wpAny_pure ⟨.none, rfl, wpAny_pure (q h' tk a b)⟩)

theorem gsetdefault (hu : A.units + 9 < cLine) (hk : KOk s.heap k kv) (g : GDict w s.heap d xs) (his : ∀ x ∈ xs, KOk s.heap x.1 x.2.1) (hn : (xs.map (·.1)).Nodup) (hz : xs.length ≤ sizeLine) (hd : (d == sysModules) = false) {v : Value} {Q : Value → Shared → Prop}
    (q1 : ∀ u tk, getR xs k = some u → Q u { s with toks := tk })
    (q2 : getR xs k = none → ∀ h' tk, GDict w h' d (putR xs k kv v) → Heap.SameBut d s.heap h' → Q v { s with heap := h', toks := tk }) :
    wpAny (model prog w) A (call (.builtin "dict.setdefault") [.ref d, kv, v]) Q E s := by
  refine wpAny_call_entry F.slot_dict_setdefault g.typeIs F.entry_dict_setdefault ?_ (F.args_dict_setdefault_3 _ _ _)
  unfold Builtin.«dict.setdefault»
  refine wpAny_bind ?_
  unfold Builtin.Dict.keyAndDefault
  refine wpAny_bind (wpAny_notOrdered_dict g.typeIs ?_)
  show wpAny _ _ (pure (d, kv, some v)) _ _ s
  refine wpAny_pure ?_
  show wpAny _ _ (if (d == sysModules) = true then _ else (dictSetDefault d kv v >>= _)) _ _ s
  rw [hd, if_neg (by simp)]
  exact wpAny_bind (gsetd (show A.units + 1 + 8 < cLine by omega) hk g his hn hz (fun u tk e => wpAny_pure ⟨u, rfl, q1 u tk e⟩) fun e h' tk a b => wpAny_pure ⟨v, rfl, q2 e h' tk a b⟩)

theorem GDict.raw (g : GDict w s.heap d xs) : ∃ es ep, s.heap.DictRaw d es ep ∧ es.toList = xs.map (ent w) := by
  obtain ⟨o, es, ep, ho, hc, hd, he⟩ := g
  exact ⟨es, ep, ⟨o, ho, hc, hd⟩, he⟩

theorem glen (hd : (d == sysModules) = false) (g : GDict w s.heap d xs) (hz : xs.length ≤ sizeLine) {Q : Value → Shared → Prop}
    (q : ∀ t tk, Q (.int xs.length t) { s with toks := tk }) : wpAny (model prog w) A (call (.builtin "len") [.ref d]) Q E s := by
  obtain ⟨es, ep, hr, he⟩ := g.raw
  have hs := ent_size he
  refine call_len_slot (n := xs.length) g.typeIs F.slot_dict_len (fun Q' hq => call_len_raw hd hr (by rw [hs]; exact hq)) (by omega) (by rw [sizeLine_eq] at hz; omega) (q _ _)

theorem gtruth (hd : (d == sysModules) = false) (g : GDict w s.heap d xs) (hz : xs.length ≤ sizeLine) {Q : Bool → Shared → Prop}
    (q : ∀ tk, Q (!xs.isEmpty) { s with toks := tk }) : wpAny (model prog w) A (truthy (.ref d)) Q E s := by
  obtain ⟨es, ep, hr, he⟩ := g.raw
  have hs := ent_size he
  have hne : ((xs.length : Int) != 0) = !xs.isEmpty := by cases xs <;> simp <;> omega
  rw [sizeLine_eq] at hz
  have body : wpAny (model prog w) A.in1 (Builtin.«len» ⟨[.ref d], []⟩) (fun f t => ∃ r, f = .done (.ret r) ∧ ((∃ u, r = .int xs.length u) ∧ ∃ tk, t = { s with toks := tk })) E s := by
    unfold Builtin.«len»
    refine wpAny_bind (m := oneArg "len" _) (wpAny_pure ?_)
    refine wpAny_bind (m := callSpecial? (.ref d) (Str.ofString "__len__")) (wpAny_callSpecial?_slot (name := Str.ofString "__len__") g.typeIs F.slot_dict_len (call_len_raw hd hr ?_))
    rw [hs]
    refine wpAny_bind (wpAny_holding (wpAny_pure ?_))
    refine wpAny_bind (wpAny_letGo ?_)
    show wpAny _ _ (if ((xs.length : Nat) : Int) < 0 then _ else _) _ _ _
    rw [if_neg (by omega)]
    show wpAny _ _ (if ((xs.length : Nat) : Int) ≥ 2 ^ 63 then _ else _) _ _ _
    rw [if_neg (by omega)]
    exact wpAny_bind (wpAny_mkInt (wpAny_pure ⟨_, rfl, ⟨_, rfl⟩, _, rfl⟩))
  have key : wpAny (model prog w) A (runValue (.builtin "len" ⟨[.ref d], []⟩)) (fun r t => (∃ u, r = .int xs.length u) ∧ ∃ tk, t = { s with toks := tk }) E s := by
    refine wpAny_runValue (codeAny_builtin entry_len ?_)
    rw [Around.under_plainId plain_len _]
    exact wpAny_mono body (fun f t z => by obtain ⟨r, rfl, z⟩ := z; exact z) fun _ _ e => e
  unfold truthy
  first
    | refine wpAny_bind (wpAny_callSpecial?_none (name := Str.ofString "__bool__") g.typeIs noBool_dict ?_)
    | refine wpAny_bind (wpAny_pure (wpAny_bind (wpAny_callSpecial?_none (name := Str.ofString "__bool__") g.typeIs noBool_dict ?_)))
  first
    | refine wpAny_bind (wpAny_specialOf (name := Str.ofString "__len__") g.typeIs F.slot_dict_len.lookup ?_)
    | refine wpAny_bind (wpAny_pure (wpAny_bind (wpAny_specialOf (name := Str.ofString "__len__") g.typeIs F.slot_dict_len.lookup ?_)))
  first
    | exact wpAny_bind (wpAny_mono key (fun r t z => by obtain ⟨⟨u, rfl⟩, tk, rfl⟩ := z; exact wpAny_pure (hne ▸ q tk)) fun _ _ e => e)
    | exact wpAny_bind (wpAny_pure (wpAny_bind (wpAny_mono key (fun r t z => by obtain ⟨⟨u, rfl⟩, tk, rfl⟩ := z; exact wpAny_pure (hne ▸ q tk)) fun _ _ e => e)))

theorem gclear (g : GDict w s.heap d xs) (hz : xs.length ≤ sizeLine) {Q : Value → Shared → Prop}
    (q : ∀ h', GDict w h' d [] → Heap.SameBut d s.heap h' → Q .none { s with heap := h' }) : wpAny (model prog w) A (call (.builtin "dict.clear") [.ref d]) Q E s := by
  obtain ⟨es, ep, hr, he⟩ := g.raw
  refine call_meetsIn F.slot_dict_clear g.typeIs F.entry_dict_clear (F.args_dict_clear_1 _) (meets_dict_clear_raw d) ⟨es, ep, hr, by rw [ent_size he]; exact hz, fun h' hr' hs' => ?_⟩
  obtain ⟨o, ho, hc, hdat⟩ := hr'
  exact q h' ⟨o, #[], ep + 1, ho, hc, hdat, rfl⟩ hs'
end
end GX
end

section
set_option Elab.async false
set_option linter.all false
set_option maxRecDepth 100000
set_option maxHeartbeats 4000000
namespace GX
open PySem PySem.Spec PyProof.Rows L2

/-! ### keys over the abstract heap -/
mutual
inductive KeyIs (H : Hp) : NK → V → Prop
  | none : KeyIs H .none .non
  | bool {i : Int} (b : Bool) : i = (if b = true then 1 else 0) → KeyIs H (.num i) (.bl b)
  | int (i : Int) : KeyIs H (.num i) (.int i)
  | text (x : Str) : KeyIs H (.text x) (.str x)
  | tup {a : Addr} {vs : List V} {ks : List NK} : H a = some (.tup vs) → KeysAre H ks vs → KeyIs H (.tup ks) (.ref a)
inductive KeysAre (H : Hp) : List NK → List V → Prop
  | nil : KeysAre H [] []
  | cons {k : NK} {v : V} {ks : List NK} {vs : List V} : KeyIs H k v → KeysAre H ks vs → KeysAre H (k :: ks) (v :: vs)
end
mutual
theorem KeyIs.mono {H H' : Hp} (t : ∀ b xs, H b = some (.tup xs) → H' b = some (.tup xs)) : ∀ {k : NK} {v : V}, KeyIs H k v → KeyIs H' k v
  | _, _, .none => .none
  | _, _, .bool b e => .bool b e
  | _, _, .int i => .int i
  | _, _, .text x => .text x
  | _, _, .tup h r => .tup (t _ _ h) (KeysAre.mono t r)
theorem KeysAre.mono {H H' : Hp} (t : ∀ b xs, H b = some (.tup xs) → H' b = some (.tup xs)) : ∀ {ks : List NK} {vs : List V}, KeysAre H ks vs → KeysAre H' ks vs
  | _, _, .nil => .nil
  | _, _, .cons h r => .cons (h.mono t) (KeysAre.mono t r)
end
mutual
theorem KeyIs.inj {H : Hp} : ∀ {k l : NK} {v : V}, KeyIs H k v → KeyIs H l v → k = l
  | _, _, _, .none, .none => rfl
  | _, _, _, .bool b e, .bool _ e' => by rw [e, e']
  | _, _, _, .int i, .int _ => rfl
  | _, _, _, .text x, .text _ => rfl
  | _, _, _, .tup h r, .tup h' r' => by
    rw [h] at h'
    cases h'
    rw [KeysAre.inj r r']
theorem KeysAre.inj {H : Hp} : ∀ {ks ls : List NK} {vs : List V}, KeysAre H ks vs → KeysAre H ls vs → ks = ls
  | _, _, _, .nil, .nil => rfl
  | _, _, _, .cons h r, .cons h' r' => by rw [KeyIs.inj h h', KeysAre.inj r r']
end
mutual
theorem KeyIs.nested {P : Program} {w : World} {H : Hp} {h : Heap} (ok : HOk P w H h) : ∀ {k : NK} {v : V} {u : Value}, KeyIs H k v → RelV v u → NestedIs h k u
  | _, _, _, .none, r => by cases r; exact .none
  | _, _, _, .bool b e, r => by cases r; exact .bool e
  | _, _, _, .int i, r => by obtain ⟨t, rfl⟩ := r; exact .int i t
  | _, _, _, .text x, r => by obtain ⟨t, rfl⟩ := r; exact .text x t
  | _, _, _, .tup hb ra, r => by
    cases r
    obtain ⟨_, its, rv, o, ho, hc, n, hd⟩ := ok _ _ hb
    exact .tup ho hc hd (KeysAre.nested ok ra rv)
theorem KeysAre.nested {P : Program} {w : World} {H : Hp} {h : Heap} (ok : HOk P w H h) : ∀ {ks : List NK} {vs : List V} {us : List Value}, KeysAre H ks vs → Vals vs us → NestedAll h ks us
  | _, _, _, .nil, r => by cases r; exact .nil
  | _, _, _, .cons ka ra, r => by
    cases r with
    | cons r1 r2 => exact .cons (KeyIs.nested ok ka r1) (KeysAre.nested ok ra r2)
end
def KeyAt (H : Hp) (k : NK) (v : V) : Prop := KeyIs H k v ∧ k.depth ≤ 8
theorem KeyAt.mono {H H' : Hp} {k : NK} {v : V} (h : KeyAt H k v) (t : ∀ b xs, H b = some (.tup xs) → H' b = some (.tup xs)) : KeyAt H' k v := ⟨h.1.mono t, h.2⟩
theorem KeyAt.ok {P : Program} {w : World} {H : Hp} {h : Heap} {k : NK} {v : V} {u : Value} (ka : KeyAt H k v) (ok : HOk P w H h) (r : RelV v u) : KOk h k u := ⟨ka.1.nested ok r, ka.2⟩
theorem KeyAt.int (H : Hp) (i : Int) : KeyAt H (.num i) (.int i) := ⟨.int i, Nat.zero_le _⟩
theorem KeyAt.text (H : Hp) (x : Str) : KeyAt H (.text x) (.str x) := ⟨.text x, Nat.zero_le _⟩

/-! ### dicts over the abstract heap -/
/-- key, the key's value, value -/
abbrev GRow := NK × V × V
def RowRel (x : GRow) (y : MRow) : Prop := x.1 = y.1 ∧ RelV x.2.1 y.2.1 ∧ RelV x.2.2 y.2.2
def GPhi (w : World) (a : Addr) (xs : List GRow) (ep : Nat) (h : Heap) : Prop :=
  xs.length ≤ sizeLine ∧ (xs.map (·.1)).Nodup ∧ (a == sysModules) = false ∧ ∃ o es vs, h.get? a = some o ∧ o.ExactDict ∧ o.data = .dict es ep ∧ Paired RowRel xs vs ∧ es.toList = vs.map (ent w)
/-- a dict, its epoch -/
def GO (w : World) (a : Addr) (xs : List GRow) (ep : Nat) : HO := .ext (GPhi w a xs ep)
def getG (xs : List GRow) (k : NK) : Option V := (xs.find? fun x => decide (x.1 = k)).map (·.2.2)
def putG (xs : List GRow) (k : NK) (kv v : V) : List GRow :=
  if xs.any (fun x => decide (x.1 = k)) then xs.map (fun x => if x.1 = k then (x.1, x.2.1, v) else x) else xs ++ [(k, kv, v)]
def KeysOk (H : Hp) (xs : List GRow) : Prop := ∀ x ∈ xs, KeyAt H x.1 x.2.1
theorem KeysOk.mono {H H' : Hp} {xs : List GRow} (h : KeysOk H xs) (t : ∀ b ys, H b = some (.tup ys) → H' b = some (.tup ys)) : KeysOk H' xs := fun x hx => (h x hx).mono t

theorem GPhi.stable {w : World} {a : Addr} {xs : List GRow} {ep : Nat} {h1 h2 : Heap} (g : GPhi w a xs ep h1) (k : ∀ o, h1.get? a = some o → h2.get? a = some o) : GPhi w a xs ep h2 := by
  obtain ⟨z, n, m, o, es, vs, ho, r⟩ := g
  exact ⟨z, n, m, o, es, vs, k o ho, r⟩
theorem GO.ok {P : Program} {w : World} {H : Hp} {h : Heap} {a : Addr} {xs : List GRow} {ep : Nat} (g : GPhi w a xs ep h) : ObjOk P w H h a (GO w a xs ep) := by
  refine ⟨g, ?_, fun h1 h2 g1 k => g1.stable k⟩
  obtain ⟨_, _, _, o, _, _, ho, _⟩ := g
  exact ⟨o, ho⟩
theorem GO.mut {w : World} {H : Hp} {a : Addr} {xs : List GRow} {ep : Nat} (e : H a = some (GO w a xs ep)) : Mut (H a) := by rw [e]; trivial

theorem rel_any {k : NK} : ∀ {xs : List GRow} {vs : List MRow}, Paired RowRel xs vs → (xs.any fun x => decide (x.1 = k)) = (vs.any fun x => decide (x.1 = k))
  | _, _, .nil => rfl
  | _, _, .cons r t => by rw [List.any_cons, List.any_cons, r.1, rel_any t]
theorem rel_get {k : NK} : ∀ {xs : List GRow} {vs : List MRow}, Paired RowRel xs vs → RelO (getG xs k) (getR vs k)
  | _, _, .nil => trivial
  | _, _, .cons (a := x) (b := y) r t => by
    unfold getG getR
    rw [List.find?_cons, List.find?_cons, r.1]
    by_cases e : y.1 = k
    · rw [decide_eq_true e]
      exact r.2.2
    · rw [decide_eq_false e]
      exact rel_get t
theorem rel_map {k : NK} {v : V} {u : Value} (rv : RelV v u) : ∀ {xs : List GRow} {vs : List MRow}, Paired RowRel xs vs → Paired RowRel (xs.map fun x => if x.1 = k then (x.1, x.2.1, v) else x) (vs.map fun x => if x.1 = k then (x.1, x.2.1, u) else x)
  | _, _, .nil => .nil
  | _, _, .cons (a := x) (b := y) r t => by
    refine .cons ?_ (rel_map rv t)
    dsimp only
    by_cases e : x.1 = k
    · rw [if_pos e, if_pos (r.1 ▸ e)]
      exact ⟨r.1, r.2.1, rv⟩
    · rw [if_neg e, if_neg (r.1 ▸ e)]
      exact r
theorem rel_app : ∀ {xs ys : List GRow} {vs ws : List MRow}, Paired RowRel xs vs → Paired RowRel ys ws → Paired RowRel (xs ++ ys) (vs ++ ws)
  | _, _, _, _, .nil, s => s
  | _, _, _, _, .cons r t, s => .cons r (rel_app t s)
theorem rel_put {k : NK} {kv v : V} {ku u : Value} {xs : List GRow} {vs : List MRow} (r : Paired RowRel xs vs) (rk : RelV kv ku) (rv : RelV v u) : Paired RowRel (putG xs k kv v) (putR vs k ku u) := by
  unfold putG putR
  rw [rel_any r]
  split
  · exact rel_map rv r
  · exact rel_app r (.cons ⟨rfl, rk, rv⟩ .nil)
theorem rel_keys : ∀ {xs : List GRow} {vs : List MRow}, Paired RowRel xs vs → xs.map (·.1) = vs.map (·.1)
  | _, _, .nil => rfl
  | _, _, .cons r t => by rw [List.map_cons, List.map_cons, r.1, rel_keys t]
theorem rel_ok {P : Program} {w : World} {H : Hp} {h : Heap} (ok : HOk P w H h) : ∀ {xs : List GRow} {vs : List MRow}, Paired RowRel xs vs → KeysOk H xs → ∀ y ∈ vs, KOk h y.1 y.2.1
  | _, _, .nil, _ => fun y hy => nomatch hy
  | _, _, .cons (a := x) (b := z) r t, ks => fun y hy => by
    rcases List.mem_cons.mp hy with rfl | hy
    · have := (ks x List.mem_cons_self).ok ok r.2.1
      rw [r.1] at this
      exact this
    · exact rel_ok ok t (fun x hx => ks x (List.mem_cons_of_mem _ hx)) y hy
theorem putG_keys (xs : List GRow) (k : NK) (kv v : V) : (putG xs k kv v).map (·.1) = if xs.any (fun x => decide (x.1 = k)) then xs.map (·.1) else xs.map (·.1) ++ [k] := by
  unfold putG
  split
  · rw [List.map_map]
    apply List.map_congr_left
    intro x _
    show (if x.1 = k then (x.1, x.2.1, v) else x).1 = x.1
    split <;> rfl
  · rw [List.map_append]
    rfl
theorem putG_nodup {xs : List GRow} {k : NK} {kv v : V} (hn : (xs.map (·.1)).Nodup) : ((putG xs k kv v).map (·.1)).Nodup := by
  rw [putG_keys]
  split
  · exact hn
  · rename_i h
    rw [List.nodup_append]
    refine ⟨hn, by simp, fun a ha b hb e => h ?_⟩
    obtain rfl : b = k := by simpa using hb
    subst e
    obtain ⟨x, hx, rfl⟩ := List.mem_map.mp ha
    exact List.any_eq_true.mpr ⟨x, hx, by simp⟩
theorem putG_len (xs : List GRow) (k : NK) (kv v : V) : (putG xs k kv v).length = xs.length + (if xs.any (fun x => decide (x.1 = k)) then 0 else 1) := by
  have := congrArg List.length (putG_keys xs k kv v)
  rw [List.length_map] at this
  rw [this]
  split <;> simp
theorem putG_ok {H : Hp} {xs : List GRow} {k : NK} {kv v : V} (h : KeysOk H xs) (hk : KeyAt H k kv) : KeysOk H (putG xs k kv v) := by
  intro x hx
  unfold putG at hx
  split at hx
  · obtain ⟨y, hy, rfl⟩ := List.mem_map.mp hx
    have := h y hy
    split <;> exact this
  · rcases List.mem_append.mp hx with hx | hx
    · exact h x hx
    · obtain rfl : x = (k, kv, v) := by simpa using hx
      exact hk

section
variable {X : Cx} {pins : List (Addr × Obj)} {σ : L2.St} {H : Hp} {s : Shared} {a : Addr} {xs : List GRow} {ep : Nat}
theorem Inv.gd (I : Inv X pins σ H s) (e : H a = some (GO X.w a xs ep)) : GPhi X.w a xs ep s.heap := (I.hok a _ e).1
/-- what a dict operation needs -/
theorem gd_facts (I : Inv X pins σ H s) (e : H a = some (GO X.w a xs ep)) (ks : KeysOk H xs) :
    ∃ vs, Paired RowRel xs vs ∧ GDict X.w s.heap a vs ∧ (∀ x ∈ vs, KOk s.heap x.1 x.2.1) ∧ (vs.map (·.1)).Nodup ∧ vs.length ≤ sizeLine ∧ (a == sysModules) = false := by
  obtain ⟨z, n, m, o, es, vs, ho, hc, hd, r, he⟩ := Inv.gd I e
  refine ⟨vs, r, ⟨o, es, ep, ho, hc, hd, he⟩, rel_ok I.hok r ks, by rw [← rel_keys r]; exact n, by rw [← Paired.length r]; exact z, m⟩
/-- a dict is written -/
theorem gd_write {t' : Nat} {h' : Heap} {ys : List GRow} {ws : List MRow} (I : Inv X pins σ H s) (e : H a = some (GO X.w a xs ep)) (r : Paired RowRel ys ws) (g : GDict X.w h' a ws) (sb : Heap.SameBut a s.heap h')
    (hz : ys.length ≤ sizeLine) (hn : (ys.map (·.1)).Nodup) (hd : (a == sysModules) = false) : ∃ ep', Inv X pins σ (upd H a (GO X.w a ys ep')) { s with heap := h', toks := t' } := by
  obtain ⟨o, es, ep', ho, hc, hdt, he⟩ := g
  exact ⟨ep', I.write (x := a) (e := a) (GO.mut e) (.inl rfl) (fun b u hb q => (sb.2 b hb).trans q) ⟨o, ho⟩ (GO.ok ⟨hz, hn, hd, o, es, ws, ho, hc, hdt, r, he⟩)⟩
end
end GX
end

section
set_option Elab.async false
set_option linter.all false
set_option maxRecDepth 100000
set_option maxHeartbeats 4000000
namespace GX
open PySem PySem.Spec PyProof.Rows L2
section
variable {X : Cx} {pos : Pos}
/-- {} -/
def tGNew (w : World) : TE := fun _ H Q => ∀ p ep, H p = none → Q (.ref p) (upd H p (GO w p [] ep))
theorem gphi_new (w : World) (h : Heap) (hb : sysModules < h.objs.size) : GPhi w h.objs.size [] 0 (h.push { cls := .type "dict", data := .dict #[] }) :=
  ⟨Nat.zero_le _, List.nodup_nil, beq_eq_false_iff_ne.mpr (Ne.symm (Nat.ne_of_lt hb)), _, #[], [], Heap.get?_push_size _ rfl, ⟨rfl, rfl, rfl⟩, rfl, .nil, rfl⟩
theorem pe_gnew : PE X (.Dict [] [] pos) (tGNew X.w) := ⟨fun pins s σ H Q I h =>
  wpAny_Dict_empty ⟨.ref s.heap.objs.size, _, I.laid (a := s.heap.objs.size) (o := GO X.w s.heap.objs.size [] 0) (t' := s.toks) (fun _ _ q => Heap.get?_push_of_some _ q) (Nat.le_refl _) (GO.ok (gphi_new X.w s.heap I.big)), rfl, h _ 0 (I.hok.fresh (Nat.le_refl _))⟩⟩

/-- d[k] -/
def rIxG (w : World) : R2 := fun x y H Q => ∃ a xs ep k v, x = .ref a ∧ H a = some (GO w a xs ep) ∧ KeyAt H k y ∧ KeysOk H xs ∧ getG xs k = some v ∧ Q v H
theorem ix_g (hu : X.A.units + 9 < cLine) : IxR X (rIxG X.w) := by
  intro value slice pins s σ H x y v u Q I rx ry h hs
  obtain ⟨a, xs, ep, k, z, rfl, e, ka, ks, hz, q⟩ := h
  cases rx
  obtain ⟨vs, r, g, his, hn, _, _⟩ := gd_facts I e ks
  have rg := rel_get (k := k) r
  rw [hz] at rg
  cases ev : getR vs k with
  | none => rw [ev] at rg; exact rg.elim
  | some u' =>
    rw [ev] at rg
    exact tail_any g.typeIs slot_dict_getitem.lookup (gitem hu (ka.ok I.hok ry) g his hn ev fun tk => ⟨z, H, I.tok tk, rg, q⟩) hs

/-- k in d -/
def rInG (w : World) (f : Bool → Bool) : R2 := fun y x H Q => ∃ a xs ep k, x = .ref a ∧ H a = some (GO w a xs ep) ∧ KeyAt H k y ∧ KeysOk H xs ∧ Q (.bl (f (getG xs k).isSome)) H
theorem some_rel {o : Option V} {p : Option Value} (r : RelO o p) : p.isSome = o.isSome := by
  cases o <;> cases p <;> first | rfl | exact r.elim
theorem op_in_g (hu : X.A.units + 9 < cLine) : OpR X (compareOp .In) (rInG X.w id) := by
  intro pins s σ H y x u v Q I ry rx h
  obtain ⟨a, xs, ep, k, rfl, e, ka, ks, q⟩ := h
  cases rx
  obtain ⟨vs, r, g, his, hn, _, hd⟩ := gd_facts I e ks
  have q' : Q (.bl (getR vs k).isSome) H := by rw [some_rel (rel_get r)]; exact q
  show wpAny _ _ (do return Value.bool (← contains (.ref a) u)) _ X.xe s
  exact wpAny_bind (gcontains hu (ka.ok I.hok ry) g his hn hd fun tk => wpAny_pure ⟨.bl _, H, I.tok tk, rfl, q'⟩)
theorem op_notin_g (hu : X.A.units + 9 < cLine) : OpR X (compareOp .NotIn) (rInG X.w not) := by
  intro pins s σ H y x u v Q I ry rx h
  obtain ⟨a, xs, ep, k, rfl, e, ka, ks, q⟩ := h
  cases rx
  obtain ⟨vs, r, g, his, hn, _, hd⟩ := gd_facts I e ks
  have q' : Q (.bl (!(getR vs k).isSome)) H := by rw [some_rel (rel_get r)]; exact q
  show wpAny _ _ (do return Value.bool (!(← contains (.ref a) u))) _ X.xe s
  exact wpAny_bind (gcontains hu (ka.ok I.hok ry) g his hn hd fun tk => wpAny_pure ⟨.bl _, H, I.tok tk, rfl, q'⟩)

/-- d[k] = v -/
def rSetG (w : World) : TSet := fun o i v H Q => ∃ a xs ep k, o = .ref a ∧ H a = some (GO w a xs ep) ∧ KeyAt H k i ∧ KeysOk H xs ∧ xs.length < sizeLine ∧ ∀ ep', Q (upd H a (GO w a (putG xs k i v) ep'))
theorem put_size {xs : List GRow} {k : NK} {kv v : V} (h : xs.length < sizeLine) : (putG xs k kv v).length ≤ sizeLine := by
  rw [putG_len]
  split <;> omega
theorem set_g (hu : X.A.units + 9 < cLine) : PSet X (rSetG X.w) := by
  intro pins s σ H o i v ov iv u Q I ro ri rv h
  obtain ⟨a, xs, ep, k, rfl, e, ka, ks, hl, q⟩ := h
  cases ro
  obtain ⟨vs, r, g, his, hn, hz, hd⟩ := gd_facts I e ks
  refine gsetItem hu (ka.ok I.hok ri) g his hn hz fun h' tk g' sb => ?_
  have hn' : ((putG xs k i v).map (·.1)).Nodup := putG_nodup (by rw [rel_keys r]; exact hn)
  obtain ⟨ep', I'⟩ := gd_write (t' := tk) I e (rel_put r ri rv) g' sb (put_size hl) hn' hd
  exact ⟨_, I', q ep'⟩

/-- len(d) -/
theorem call_len_g : CallR X (.builtin "len") (fun vs H Q => ∃ a xs ep, vs = [.ref a] ∧ H a = some (GO X.w a xs ep) ∧ Q (.int xs.length) H) := by
  intro pins s σ H vs us Q I r h
  obtain ⟨a, xs, ep, rfl, e, q⟩ := h
  obtain rfl := Vals.ref1 r
  obtain ⟨z, n, m, o, es, ws, ho, hc, hd, rr, he⟩ := Inv.gd I e
  have hl := Paired.length rr
  refine glen (xs := ws) m ⟨o, es, ep, ho, hc, hd, he⟩ (by rw [← hl]; exact z) fun t tk => ⟨.int xs.length, H, I.tok tk, ⟨t, by rw [hl]⟩, q⟩
/-- the truth of a dict -/
theorem tru_g : TruR X (fun x H Q => ∃ a xs ep, x = .ref a ∧ H a = some (GO X.w a xs ep) ∧ Q (!xs.isEmpty) H) := by
  intro pins s σ H x v Q I rx h
  obtain ⟨a, xs, ep, rfl, e, q⟩ := h
  cases rx
  obtain ⟨z, n, m, o, es, ws, ho, hc, hd, rr, he⟩ := Inv.gd I e
  have hl := Paired.length rr
  have hem : ws.isEmpty = xs.isEmpty := by cases rr <;> rfl
  refine gtruth (xs := ws) m ⟨o, es, ep, ho, hc, hd, he⟩ (by rw [← hl]; exact z) fun tk => ⟨H, I.tok tk, by rw [hem]; exact q⟩
end
end GX
end

section
set_option Elab.async false
set_option linter.all false
set_option maxRecDepth 100000
set_option maxHeartbeats 4000000
namespace GX
open PySem PySem.Spec PyProof.Rows L2
section
variable {X : Cx} {apos cpos : Pos} {o e : Expr} {es : List Expr} {to : TE} {t : TA} {name : Str} {id : String} {r : V → List V → Hp → VK → Prop}
theorem gd_type {pins : List (Addr × Obj)} {σ : L2.St} {H : Hp} {s : Shared} {a : Addr} {xs : List GRow} {ep : Nat} {v : Value} (I : Inv X pins σ H s) (rx : RelV (.ref a) v) (h : H a = some (GO X.w a xs ep)) :
    s.TypeIs v "dict" ∧ ∀ a, v = .ref a → ∃ ob, s.heap.get? a = some ob ∧ ob.dict = none := by
  cases rx
  obtain ⟨_, _, _, ob, _, _, ho, hc, _⟩ := Inv.gd I h
  refine ⟨⟨ob, ho, hc.1⟩, fun b eb => ?_⟩
  cases eb
  exact ⟨ob, ho, hc.2.1⟩
/-- a dict's method, by values -/
def tGM0 (w : World) (r : V → List V → Hp → VK → Prop) (to : TE) : TE := fun σ H Q => to σ H fun x H1 => (∃ a xs ep, x = .ref a ∧ H1 a = some (GO w a xs ep)) ∧ r x [] H1 Q
def tGM (w : World) (r : V → List V → Hp → VK → Prop) (to : TE) (t : TA) : TE := fun σ H Q => to σ H fun x H1 => (∃ a xs ep, x = .ref a ∧ H1 a = some (GO w a xs ep)) ∧ t σ H1 fun vs H2 => r x vs H2 Q
theorem pe_gm0 (slot : Slot "dict" name id) (hty : typeOf (.builtin id) = pure (.type "method_descriptor")) (hm : MtR X id r) (ho : PE X o to)
    (hbase : attributeBase o name X.env (eval o X.env) = eval o X.env := by rfl) (hline : (apos.endLine == cpos.line) = true := by rfl) : PE X (.Call (.Attribute o name apos) [] [] cpos) (tGM0 X.w r to) := by
  refine ⟨fun pins s σ H Q I h => ?_⟩
  refine wpAny_Call_method0_late hbase hline (thn (ho.run pins s σ H _ I h) fun v s1 ⟨x, H1, I1, r1, ⟨a, xs, ep, ex, ea⟩, q1⟩ => ?_)
  subst ex
  obtain ⟨h1, h2⟩ := gd_type I1 r1 ea
  exact ⟨"dict", id, PySem.F.plainAttrs_dict, slot, hty, h1, h2, Calls.callWith_builtin rfl (PySem.evalArgs_none (hm pins s1 σ H1 _ [] v [] Q I1 r1 .nil q1))⟩
theorem pe_gm (slot : Slot "dict" name id) (hty : typeOf (.builtin id) = pure (.type "method_descriptor")) (hm : MtR X id r) (ho : PE X o to) (ha : PA X (e :: es) t)
    (hbase : attributeBase o name X.env (eval o X.env) = eval o X.env := by rfl)
    (hfew : ((backTo cpos (starEach (e :: es) X.env)).all (fun x => !x.1) && (backToKw cpos (keywordEach [] X.env)).all (fun x => x.1.isSome)
      && decide ((e :: es).length + ([] : List Keyword).length + (if ([] : List Keyword).isEmpty then 0 else 1) < 30)) = true := by rfl)
    (hline : (apos.endLine == cpos.line) = true := by rfl) (hs : starEach (e :: es) X.env = (false, eval e X.env) :: starEach es X.env := by rfl) (hplain : (backTo cpos (starEach es X.env)).any (·.1) = false := by rfl) :
    PE X (.Call (.Attribute o name apos) (e :: es) [] cpos) (tGM X.w r to t) := by
  refine ⟨fun pins s σ H Q I h => ?_⟩
  refine wpAny_Call_method_late hbase hfew hline rfl (thn (ho.run pins s σ H _ I h) fun v s1 ⟨x, H1, I1, r1, ⟨a, xs, ep, ex, ea⟩, q1⟩ => ?_)
  subst ex
  obtain ⟨h1, h2⟩ := gd_type I1 r1 ea
  refine ⟨"dict", id, PySem.F.plainAttrs_dict, slot, hty, h1, h2, ?_⟩
  have hA := ha.run cpos pins s1 σ H1 _ I1 q1
  rw [hs] at hA ⊢
  refine Calls.callWith_builtin (by show (false || (backTo cpos (starEach es X.env)).any (·.1)) = false; rw [hplain] <;> rfl) (Calls.evalArgs_plain ?_)
  exact thn hA fun us s2 ⟨vs, H2, I2, r2, q2⟩ => hm pins s2 σ H2 _ vs v us Q I2 r1 r2 q2

/-- d.clear() -/
def rClrG (w : World) : V → List V → Hp → VK → Prop := fun x vs H Q => ∃ a xs ep, x = .ref a ∧ vs = [] ∧ H a = some (GO w a xs ep) ∧ ∀ ep', Q .non (upd H a (GO w a [] ep'))
theorem mt_gclear : MtR X "dict.clear" (rClrG X.w) := by
  intro pins s σ H x vs v us Q I rx rv h
  obtain ⟨a, xs, ep, rfl, rfl, e, q⟩ := h
  cases rx
  cases rv
  obtain ⟨z, n, m, o, es, ws, ho, hc, hd, rr, he⟩ := Inv.gd I e
  refine gclear (xs := ws) ⟨o, es, ep, ho, hc, hd, he⟩ (by rw [← Paired.length rr]; exact z) fun h' g' sb => ?_
  obtain ⟨ep', I'⟩ := gd_write (t' := s.toks) (ys := []) I e .nil g' sb (Nat.zero_le _) List.nodup_nil m
  exact ⟨.non, _, I', rfl, q ep'⟩
/-- d.setdefault(k, x) -/
def rSdG (w : World) : V → List V → Hp → VK → Prop := fun x vs H Q => ∃ a xs ep k kv v, x = .ref a ∧ vs = [kv, v] ∧ H a = some (GO w a xs ep) ∧ KeyAt H k kv ∧ KeysOk H xs ∧ xs.length < sizeLine ∧
  (∀ u, getG xs k = some u → Q u H) ∧ (getG xs k = none → ∀ ep', Q v (upd H a (GO w a (putG xs k kv v) ep')))
theorem mt_gsetd (hu : X.A.units + 9 < cLine) : MtR X "dict.setdefault" (rSdG X.w) := by
  intro pins s σ H x vs v us Q I rx rv h
  obtain ⟨a, xs, ep, k, kv, y, rfl, rfl, e, ka, ks, hl, q1, q2⟩ := h
  cases rx
  obtain ⟨ku, yu, rfl, rk, ry⟩ := vals2 rv
  obtain ⟨ws, r, g, his, hn, hz, hd⟩ := gd_facts I e ks
  have rg := rel_get (k := k) r
  refine gsetdefault hu (ka.ok I.hok rk) g his hn hz hd (fun u tk eu => ?_) fun en h' tk g' sb => ?_
  · rw [eu] at rg
    cases eg : getG xs k with
    | none => rw [eg] at rg; exact rg.elim
    | some z =>
      rw [eg] at rg
      exact ⟨z, H, I.tok tk, rg, q1 z eg⟩
  · rw [en] at rg
    have eg : getG xs k = none := by
      cases eg : getG xs k with
      | none => rfl
      | some z => rw [eg] at rg; exact rg.elim
    have hn' : ((putG xs k kv y).map (·.1)).Nodup := putG_nodup (by rw [rel_keys r]; exact hn)
    obtain ⟨ep', I'⟩ := gd_write (t' := tk) I e (rel_put r rk ry) g' sb (put_size hl) hn' hd
    exact ⟨y, _, I', ry, q2 eg ep'⟩
end

/-! ### for k in d -/
def Itg (w : World) (d : Addr) (xs : List GRow) (ep : Nat) : It :=
  ⟨fun i H => H d = some (GO w d xs ep) ∧ i < xs.length, fun i H x H' => H' = H ∧ ∃ r, xs[i]? = some r ∧ x = r.2.1, fun i H => H d = some (GO w d xs ep) ∧ xs.length ≤ i⟩
theorem walk_g {w : World} {d : Addr} {xs : List GRow} {ep : Nat} : Walk (Itg w d xs ep) xs.length (fun H => H d = some (GO w d xs ep)) (fun i H x H' => H' = H ∧ ∃ r, xs[i]? = some r ∧ x = r.2.1) :=
  ⟨fun _ _ hi q => ⟨q, hi⟩, fun _ q => ⟨q, Nat.le_refl _⟩, fun _ _ _ _ _ _ y => y⟩
theorem rel_at : ∀ {xs : List GRow} {vs : List MRow} {i : Nat} {x : GRow}, Paired RowRel xs vs → xs[i]? = some x → ∃ y, vs[i]? = some y ∧ RowRel x y
  | _, _, _, _, .nil, e => by simp at e
  | _, _, 0, _, .cons r _, e => by simp at e; subst e; exact ⟨_, rfl, r⟩
  | _, _, i + 1, x, .cons _ t, e => by
    obtain ⟨y, h1, h2⟩ := rel_at (i := i) (x := x) t (by simpa using e)
    exact ⟨y, by simpa using h1, h2⟩
section
variable {P : Program} {w : World} {K : PySem.W.Frag} {tg : Expr} {d : Addr} {xs : List GRow} {ep : Nat}
theorem turn_g (it : Addr) : Turn P w K tg (Itg w d xs ep) [it] it (fun i h => h.IsKeyIter it d i xs.length ep) where
  mem := by simp
  obj := fun i h st b hb => by
    obtain rfl : b = it := by simpa using hb
    obtain ⟨oi, e, c, dd⟩ := st
    exact ⟨oi, e, fun v z => by rw [dd] at z; cases z⟩
  keep := fun i h h' st k => by
    obtain ⟨oi, e, r⟩ := st
    exact ⟨oi, k it (by simp) oi e, r⟩
  item := by
    intro X hP hw hK hc i pins s σ H E I hf st hg
    subst hP hw hK
    obtain ⟨hd, hi⟩ := hg
    obtain ⟨f0, f1, f2, f3, f4, f5⟩ := hf it (by simp)
    obtain ⟨z, n, m, o, es, ws, ho, hcx, hdt, rr, he⟩ := Inv.gd I hd
    have hl : es.size = xs.length := by rw [ent_size he, ← Paired.length rr]
    obtain ⟨x, hx⟩ : ∃ x, xs[i]? = some x := ⟨xs[i], List.getElem?_eq_getElem hi⟩
    obtain ⟨y, hy, ry⟩ := rel_at rr hx
    have hi' : i < es.size := by rw [hl]; exact hi
    have hk : es[i].key = y.2.1 := by
      have := ent_at he i
      rw [hy, Array.getElem?_eq_getElem hi'] at this
      rw [Option.some.inj this]
      rfl
    rw [← hl] at st
    refine wpAny_pyNext_keys_item_raw st ⟨o, ho, hcx, hdt⟩ hi' fun h' st' sb => ?_
    have I1 : Inv X pins σ H { s with heap := h' } := I.turned (t' := s.toks) (fun b ob hb e => (sb.2 b hb).trans e) f0 f1 f3 f4 f5
    obtain ⟨oi, e, c, dd⟩ := id st'
    refine ⟨_, rfl, go_of (s := { s with heap := h' }) e c dd (by decide) ⟨x.2.1, H, I1, by rw [hk]; exact ry.2.1, ⟨rfl, x, hx, rfl⟩, ?_, fun b hb => (hf b hb).1⟩⟩
    rw [hl] at st'
    exact st'
  done := by
    intro X hP hw hK hc i pins s σ H E I hf st hg
    subst hP hw hK
    obtain ⟨hd, hi⟩ := hg
    obtain ⟨f0, f1, f2, f3, f4, f5⟩ := hf it (by simp)
    obtain ⟨z, n, m, o, es, ws, ho, hcx, hdt, rr, he⟩ := Inv.gd I hd
    have hl : es.size = xs.length := by rw [ent_size he, ← Paired.length rr]
    rw [← hl] at st
    exact wpAny_pyNext_keys_end_raw (I.ok.hd hc) st ⟨o, ho, hcx, hdt⟩ (by rw [hl]; exact hi) fun h' eb => ⟨rfl, I.turned (t' := s.toks) (fun b ob hb e => eb b ob hb e) f0 f1 f3 f4 f5⟩
  self := fun A i s Q E st h => wpAny_pyIter_keyiter st h
end
def iG (w : World) (td : TE) : TI := fun σ H R => td σ H fun x H1 => ∃ d xs ep, x = .ref d ∧ H1 d = some (GO w d xs ep) ∧ R (Itg w d xs ep) H1
theorem pi_g {X : Cx} {tg e : Expr} {td : TE} (he : PE X e td) : PI X tg e (iG X.w td) := by
  refine ⟨fun pins s σ H R I h => ?_⟩
  refine thn (he.run pins s σ H _ I h) fun u s1 ⟨x, H1, I1, rx, d, xs, ep, ex, hd, q⟩ => ?_
  subst ex
  cases rx
  obtain ⟨z, n, m, o, es, ws, ho, hcx, hdt, rr, he⟩ := Inv.gd I1 hd
  have hl : es.size = xs.length := by rw [ent_size he, ← Paired.length rr]
  refine wpAny_pyIter_dict_raw m ⟨o, ho, hcx, hdt⟩ (pi_one (tk := s1.toks) I1 _ (turn_g _) ⟨_, Heap.get?_push_size _ rfl, rfl, ?_⟩ q)
  rw [hl]
  rfl
end GX
end

section
set_option Elab.async false
set_option linter.all false
set_option maxRecDepth 100000
set_option maxHeartbeats 4000000
namespace GX
open PySem PySem.Spec PyProof.Rows L2
theorem rel_len {xs : List GRow} {ws : List MRow} (r : Paired RowRel xs ws) {es : Array DictEntry} {w : World} (he : es.toList = ws.map (ent w)) : es.size = xs.length := by
  rw [ent_size he, ← Paired.length r]
/-- the keys of a dict, gathered -/
theorem keys_gather {w : World} {es : Array DictEntry} : ∀ {xs : List GRow} {ws : List MRow} {n : Nat} {us : List Value}, Paired RowRel xs ws → us.length = xs.length →
    (∀ j u, us[j]? = some u → ∃ e, es[n + j]? = some e ∧ u = e.key) → (∀ j, es[n + j]? = (ws[j]?).map (ent w)) → Vals (xs.map fun r => r.2.1) us
  | _, _, _, us, .nil, hl, _, _ => by
    obtain rfl : us = [] := List.eq_nil_of_length_eq_zero hl
    exact .nil
  | x :: xs, y :: ws, n, us, .cons r t, hl, h, he => by
    cases us with
    | nil => cases hl
    | cons u us =>
      obtain ⟨e, e1, e2⟩ := h 0 u rfl
      rw [he 0] at e1
      obtain rfl : ent w y = e := Option.some.inj e1
      refine .cons (by rw [e2]; exact r.2.1) (keys_gather (w := w) (es := es) (n := n + 1) t (by simpa using hl) (fun j u hj => ?_) fun j => ?_)
      · have := h (j + 1) u (by simpa using hj)
        rw [show n + 1 + j = n + (j + 1) by omega]
        exact this
      · have := he (j + 1)
        rw [show n + 1 + j = n + (j + 1) by omega]
        simpa using this
section
variable {X : Cx}
/-- list(d) -/
theorem call_list_g (hcalm : X.calm = true) : CallR X (.type "list") (fun vs H Q => ∃ a xs ep, vs = [.ref a] ∧ H a = some (GO X.w a xs ep) ∧ ∀ p, H p = none → Q (.ref p) (upd H p (.lst (xs.map fun r => r.2.1)))) := by
  intro pins s σ H vs us Q I r h
  obtain ⟨a, xs, ep, rfl, e, q⟩ := h
  obtain rfl := Vals.ref1 r
  obtain ⟨z, n, m, o, es, ws, ho, hc, hd, rr, he⟩ := Inv.gd I e
  have hl := rel_len rr he
  refine PySem.W.kdl_call (KdlSrc.rawDict (es := es) (ep := ep) m) (I.ok.hd hcalm) ⟨o, ho, hc, hd⟩ (by rw [hl]; exact z) fun h' tk acc c' hk hD hacc => ?_
  have hv : Vals (xs.map fun r => r.2.1) acc.toList := keys_gather (n := 0) (w := X.w) rr (by rw [Array.length_toList, hacc.1, hl]) (fun j u hj => by
    obtain ⟨hi, e⟩ := hacc.2 j u (by rw [← Array.getElem?_toList]; exact hj)
    exact ⟨_, by rw [Nat.zero_add, Array.getElem?_eq_getElem hi], e⟩) fun j => by rw [Nat.zero_add]; exact ent_at he j
  refine ⟨.ref s.heap.objs.size, upd H s.heap.objs.size (.lst (xs.map fun r => r.2.1)), I.laid (t' := tk) hk (Nat.le_refl _)
    (show ObjOk X.prog X.w _ _ _ (.lst (xs.map fun r => r.2.1)) from ⟨by rw [List.length_map]; exact z, acc.toList, c', hv, by rw [Array.toArray_toList]; exact hD⟩), rfl, q _ (I.hok.fresh (Nat.le_refl _))⟩
/-- sorted(d), the keys whole numbers -/
theorem call_sorted_g (hcalm : X.calm = true) : CallR X (.builtin "sorted") (fun vs H Q => ∃ a xs ep ns, vs = [.ref a] ∧ H a = some (GO X.w a xs ep) ∧ (xs.map fun r => r.2.1) = ns.map V.int ∧
    ∀ (ns' : List Int) (p : Addr), ns'.Perm ns → ns'.Pairwise (· ≤ ·) → H p = none → Q (.ref p) (upd H p (.lst (ns'.map V.int)))) := by
  intro pins s σ H vs us Q I r h
  obtain ⟨a, xs, ep, ns, rfl, e, en, q⟩ := h
  obtain rfl := Vals.ref1 r
  obtain ⟨z, n, m, o, es, ws, ho, hc, hd, rr, he⟩ := Inv.gd I e
  have hl := rel_len rr he
  have hn : ns.length = xs.length := by
    have := congrArg List.length en
    rw [List.length_map, List.length_map] at this
    exact this.symm
  refine Calls.call_function_entry PyProof.Rows.kind_sorted PyProof.Rows.plain_sorted PyProof.Rows.entry_sorted (PyProof.Rows.args_sorted1 _) ?_
  unfold Builtin.«sorted»
  refine wpAny_bind (m := checkCount "sorted" 1 1 _) (wpAny_pure ?_)
  refine wpAny_bind (PySem.W.kdu_collect (A := X.A.in1) (KdlSrc.rawDict (es := es) (ep := ep) m) (I.ok.hd hcalm) ⟨o, ho, hc, hd⟩ (by rw [hl]; exact z) fun h' tk acc hk hacc => ?_)
  have hv : Vals (xs.map fun r => r.2.1) acc.toList := keys_gather (n := 0) (w := X.w) rr (by rw [Array.length_toList, hacc.1, hl]) (fun j u hj => by
    obtain ⟨hi, e⟩ := hacc.2 j u (by rw [← Array.getElem?_toList]; exact hj)
    exact ⟨_, by rw [Nat.zero_add, Array.getElem?_eq_getElem hi], e⟩) fun j => by rw [Nat.zero_add]; exact ent_at he j
  rw [en] at hv
  have hS : IntsAre acc.toList ns := hv.ints
  have hal : acc.toList.length = ns.length := by rw [Array.length_toList, hacc.1, hl, hn]
  have hz : acc.toList.length ≤ sizeLine := by rw [hal, hn]; exact z
  have I1 : Inv X pins σ H { s with heap := h', toks := tk } := I.kept hk
  refine wpAny_bind (wpAny_newList ?_ hz)
  have hoL : (h'.push (seqObj "list" acc.toList.toArray 0)).get? h'.objs.size = some (seqObj "list" acc.toList.toArray 0) := Heap.get?_push_size _ rfl
  show wpAny _ _ _ _ _ { s with heap := h'.push (seqObj "list" acc.toList.toArray 0), toks := tk }
  refine wpAny_bind (wpAny_holding (wpAny_call_entry PyProof.Rows.slot_list_sort ⟨_, hoL, rfl⟩ PyProof.Rows.entry_list_sort
    (SrtO.list_sort_ord (s := { s with heap := h'.push (seqObj "list" acc.toList.toArray 0), toks := tk }) SrtO.swo_int hoL hz (fun h2 => SrtO.ints_sortable hS h2) fun out g1 g2 => ⟨_, rfl, ?_⟩) (PyProof.Rows.args_list_sort _)))
  obtain ⟨k1, k2, k3⟩ := SrtO.ints_out hS g1 g2
  obtain ⟨e', he'⟩ := PyProof.Rows.sortedHeap_at (vs := acc.toList) (out := out.toArray) hoL
  have hlen : ((out.map SrtO.iv).map V.int).length ≤ sizeLine := by
    rw [List.length_map, k2.length_eq, hn]
    exact z
  refine wpAny_pure ⟨_, rfl, .ref h'.objs.size, upd H h'.objs.size (.lst ((out.map SrtO.iv).map V.int)), I1.laid (t' := tk) (fun b u e => ?_) (Nat.le_refl _)
    (show ObjOk X.prog X.w _ _ _ (.lst ((out.map SrtO.iv).map V.int)) from ⟨hlen, out, e', vals_of_ints k1, he'⟩), rfl, q _ _ k2 k3 (I1.hok.fresh (Nat.le_refl _))⟩
  have hb : b < h'.objs.size := Heap.lt_size e
  rw [PyProof.Rows.sortedHeap_old (Nat.ne_of_lt hb) (by rw [size_push']; exact Nat.lt_succ_of_lt hb)]
  exact Heap.get?_push_of_some _ e
end
end GX
end

section
set_option Elab.async false
set_option linter.all false
set_option maxRecDepth 100000
set_option maxHeartbeats 4000000
namespace GX
open PySem PySem.Spec PyProof.Rows L2
theorem KOk.keep {h h' : Heap} {k : NK} {v : Value} (ko : KOk h k v) (t : ∀ a o vs n, h.get? a = some o → o.data = .seq vs n → h'.get? a = some o) : KOk h' k v := ⟨ko.1.at t, ko.2⟩
def mergeR (acc more : List MRow) : List MRow := more.foldl (fun l y => putR l y.1 y.2.1 y.2.2) acc
def mergeG (acc more : List GRow) : List GRow := more.foldl (fun l y => putG l y.1 y.2.1 y.2.2) acc
theorem rel_merge : ∀ {more : List GRow} {rs : List MRow} {acc : List GRow} {ws : List MRow}, Paired RowRel more rs → Paired RowRel acc ws → Paired RowRel (mergeG acc more) (mergeR ws rs)
  | _, _, _, _, .nil, q => q
  | x :: more, y :: rs, acc, ws, .cons r t, q => by
    have e : x.1 = y.1 := r.1
    have := rel_put (k := x.1) q r.2.1 r.2.2
    rw [show putR ws x.1 y.2.1 y.2.2 = putR ws y.1 y.2.1 y.2.2 by rw [e]] at this
    show Paired RowRel (mergeG (putG acc x.1 x.2.1 x.2.2) more) (mergeR (putR ws y.1 y.2.1 y.2.2) rs)
    exact rel_merge t this
theorem putR_keys (xs : List MRow) (k : NK) (kv v : Value) : (putR xs k kv v).map (·.1) = if xs.any (fun x => decide (x.1 = k)) then xs.map (·.1) else xs.map (·.1) ++ [k] := by
  unfold putR
  split
  · rw [List.map_map]
    apply List.map_congr_left
    intro x _
    show (if x.1 = k then (x.1, x.2.1, v) else x).1 = x.1
    split <;> rfl
  · rw [List.map_append]
    rfl
theorem putR_nodup {xs : List MRow} {k : NK} {kv v : Value} (hn : (xs.map (·.1)).Nodup) : ((putR xs k kv v).map (·.1)).Nodup := by
  rw [putR_keys]
  split
  · exact hn
  · rename_i h
    rw [List.nodup_append]
    refine ⟨hn, by simp, fun a ha b hb e => h ?_⟩
    obtain rfl : b = k := by simpa using hb
    subst e
    obtain ⟨x, hx, rfl⟩ := List.mem_map.mp ha
    exact List.any_eq_true.mpr ⟨x, hx, by simp⟩
theorem putR_len (xs : List MRow) (k : NK) (kv v : Value) : (putR xs k kv v).length ≤ xs.length + 1 := by
  have := congrArg List.length (putR_keys xs k kv v)
  rw [List.length_map] at this
  rw [this]
  split <;> simp
theorem putR_ok {h : Heap} {xs : List MRow} {k : NK} {kv v : Value} (ks : ∀ x ∈ xs, KOk h x.1 x.2.1) (hk : KOk h k kv) : ∀ x ∈ putR xs k kv v, KOk h x.1 x.2.1 := by
  intro x hx
  unfold putR at hx
  split at hx
  · obtain ⟨y, hy, rfl⟩ := List.mem_map.mp hx
    have := ks y hy
    split <;> exact this
  · rcases List.mem_append.mp hx with hx | hx
    · exact ks x hx
    · obtain rfl : x = (k, kv, v) := by simpa using hx
      exact hk
section
variable {prog : Program} {w : World} {A : Around} {E : Value → Shared → Prop}
theorem GDict.at {h h' : Heap} {d : Addr} {xs : List MRow} (g : GDict w h d xs) (k : ∀ o, h.get? d = some o → h'.get? d = some o) : GDict w h' d xs := by
  obtain ⟨o, es, ep, ho, r⟩ := g
  exact ⟨o, es, ep, k o ho, r⟩
theorem g_upd_loop {R : Result → Shared → Prop} {S J l : Addr} {items : Array Value} {res : Value} (hu : A.units + 11 < cLine) (hh : A.handled = none) (hlJ : l ≠ J) (hSJ : S ≠ J) (hSl : S ≠ l) :
    ∀ (rest : List MRow) (i : Nat) (acc : List MRow) (ix : Int) (t : Tok) (s : Shared), items.size = i + rest.length → acc.length + rest.length ≤ sizeLine →
      (∀ (j : Nat) (q : MRow), rest[j]? = some q → ∃ b : Addr, items[i + j]? = some (.ref b) ∧ b ≠ S ∧ b ≠ J ∧ IsTup s.heap b #[q.2.1, q.2.2]) → (∀ q ∈ rest, KOk s.heap q.1 q.2.1) →
      s.heap.IsListIter J l i → s.heap.IsList l items → GDict w s.heap S acc → (∀ x ∈ acc, KOk s.heap x.1 x.2.1) → (acc.map (·.1)).Nodup →
      (∀ h' tk, GDict w h' S (mergeR acc rest) → (∀ b o, b ≠ S → b ≠ J → s.heap.get? b = some o → h'.get? b = some o) → R (.ok (.ret res)) { s with heap := h', toks := tk }) →
      codeAny (model prog w) A (.builtin "dict.update.loop" ⟨[.ref S, .ref J, .int ix t, res], []⟩) R s
  | [], i, acc, ix, t, s, hsz, hln, ht, hko, hit, hl, hm, _, _, hR => by
    refine codeAny_builtin ud_entry ?_
    rw [Around.under_plainId ud_plain _]
    show wpAny _ A.in1 (pyNext (.ref J) >>= _) _ _ s
    refine wpAny_bind (wpAny_pyNext_list_end (A := A.in1) hh hit hl (Array.getElem?_eq_none (Nat.le_of_eq (by simpa using hsz))) fun h' he => ?_)
    show wpAny _ A.in1 (Builtin.Dict.addKeywords S [] >>= _) _ _ _
    refine wpAny_bind (wpAny_pure (wpAny_pure ?_))
    exact hR h' s.toks (hm.at fun o e => he S o hSJ e) fun b o _ hb e => he b o hb e
  | q :: rest, i, acc, ix, t, s, hsz, hln, ht, hko, hit, hl, hm, hac, hnd, hR => by
    obtain ⟨b, hb, hbS, hbJ, htup⟩ := ht 0 q rfl
    rw [List.length_cons] at hsz hln
    refine codeAny_builtin ud_entry ?_
    rw [Around.under_plainId ud_plain _]
    show wpAny _ A.in1 (pyNext (.ref J) >>= _) _ _ s
    refine wpAny_bind (wpAny_pyNext_list_item (x := .ref b) hit hl (by simpa using hb) fun h1 hit1 hs1 => ?_)
    obtain ⟨oJ, hoJ, _, hdJ⟩ := id hit
    have seq1 : ∀ a o vs n, s.heap.get? a = some o → o.data = .seq vs n → h1.get? a = some o := fun a o vs n e z => (hs1.2 a fun e' => by
      rw [e', hoJ] at e
      cases e
      rw [hdJ] at z
      cases z).trans e
    have ht1 : IsTup h1 b #[q.2.1, q.2.2] := htup.extBut hs1.extBut hbJ
    have hl1 : h1.IsList l items := hl.extBut hs1.extBut hlJ
    have hm1 : GDict w h1 S acc := hm.at fun o e => (hs1.2 S hSJ).trans e
    obtain ⟨o, ho, hc, n, hd⟩ := id ht1
    show wpAny _ A.in1 (holding [Value.ref b] _ >>= _) _ _ _
    refine wpAny_bind (wpAny_holding ?_)
    refine wpAny_bind (wpAny_tryCatch ?_)
    unfold Builtin.Dict.pairItems
    refine wpAny_bind (wpAny_typeOf (T := "tuple") ⟨o, ho, hc⟩ ?_)
    rw [if_pos (by first | decide | rfl | simp)]
    refine wpAny_bind (wpAny_seqItems ho hd (wpAny_pure ?_))
    show wpAny _ A.in1 (holding [q.2.1, q.2.2] (dictSet S q.2.1 q.2.2)) _ _ _
    have hq1 := (hko q List.mem_cons_self).keep seq1
    refine wpAny_holding (gset (show A.units + 1 + 8 < cLine by omega) hq1 hm1 (fun x hx => (hac x hx).keep seq1) hnd (by omega) fun h2 tk2 hm2 hs2 => ?_)
    obtain ⟨oS, esS, epS, hoS, _, hdS, _⟩ := id hm1
    have seq2 : ∀ a o vs n, h1.get? a = some o → o.data = .seq vs n → h2.get? a = some o := fun a o vs n e z => (hs2.2 a fun e' => by
      rw [e', hoS] at e
      cases e
      rw [hdS] at z
      cases z).trans e
    refine wpAny_pure ⟨plainId_quiet ud_plain _, g_upd_loop (items := items) hu hh hlJ hSJ hSl rest (i + 1) (putR acc q.1 q.2.1 q.2.2) (ix + 1) 0 _ (show items.size = i + 1 + rest.length by omega) ?_ (fun j q' e => ?_) (fun q' hq' => ?_) ?_ ?_ hm2 (putR_ok (fun x hx => ((hac x hx).keep seq1).keep seq2) (hq1.keep seq2)) (putR_nodup hnd) fun h' tk hd' k => ?_⟩
    · have z := putR_len acc q.1 q.2.1 q.2.2
      omega
    · obtain ⟨b', hb', hbS', hbJ', htup'⟩ := ht (j + 1) q' (by simpa using e)
      refine ⟨b', ?_, hbS', hbJ', (htup'.extBut hs1.extBut hbJ').extBut hs2.extBut hbS'⟩
      rw [show i + 1 + j = i + (j + 1) by omega]
      exact hb'
    · exact ((hko q' (List.mem_cons_of_mem _ hq')).keep seq1).keep seq2
    · exact hit1.at fun o' e => hs2.extBut J o' (Ne.symm hSJ) e
    · exact hl1.extBut hs2.extBut (Ne.symm hSl)
    · exact hR h' tk hd' fun c oc h3 h4 e => k c oc h3 h4 (hs2.extBut c oc h3 (hs1.extBut c oc h4 e))
theorem g_dict_pairs {s : Shared} {l : Addr} {ol : Obj} {items : Array Value} {n : Nat} {prs : List MRow} {Q : Value → Shared → Prop} (hu : A.units + 14 < cLine) (hh : A.handled = none) (hl : s.heap.get? l = some ol) (hc : ol.cls = .type "list") (hd : ol.dict = none)
    (hdat : ol.data = .seq items n) (hsz : items.size = prs.length) (hln : prs.length ≤ sizeLine)
    (ht : ∀ (j : Nat) (q : MRow), prs[j]? = some q → ∃ b : Addr, items[j]? = some (.ref b) ∧ IsTup s.heap b #[q.2.1, q.2.2]) (hko : ∀ q ∈ prs, KOk s.heap q.1 q.2.1)
    (h : ∀ h' tk, GDict w h' s.heap.objs.size (mergeR [] prs) → (∀ b o, s.heap.get? b = some o → h'.get? b = some o) → Q (.ref s.heap.objs.size) { s with heap := h', toks := tk }) :
    wpAny (model prog w) A (call (.type "dict") [.ref l]) Q E s := by
  refine callType_codes (Q₁ := fun obj t => obj = .ref s.heap.objs.size ∧ t = { s with heap := s.heap.push { cls := .type "dict", data := .dict #[] } }) PySem.F.kt_called_dict (PySem.F.kt_typeCall_dict_1 _) PySem.F.entry_dict_init (kt_code_dict_new _ ⟨rfl, rfl⟩) ?_
  rintro obj t ⟨rfl, rfl⟩
  have hnew : GDict w (s.heap.push { cls := .type "dict", data := .dict #[] }) s.heap.objs.size [] := GDict.new w s.heap
  have k0 : ∀ b o, s.heap.get? b = some o → (s.heap.push { cls := .type "dict", data := .dict #[] }).get? b = some o := fun b o e => Heap.get?_push_of_some _ e
  have hT : ({ s with heap := s.heap.push { cls := .type "dict", data := .dict #[] } } : Shared).TypeIs (.ref s.heap.objs.size) "dict" := hnew.typeIs (s := { s with heap := s.heap.push { cls := .type "dict", data := .dict #[] } })
  refine ⟨hT, PySem.F.args_dict_init_2 _ _, ?_⟩
  unfold Builtin.«dict.__init__»
  refine wpAny_bind ?_
  unfold Builtin.Dict.selfAndRest
  refine wpAny_bind (wpAny_notOrdered_dict hT ?_)
  show wpAny _ _ (pure (s.heap.objs.size, [Value.ref l])) _ _ _
  refine wpAny_pure ?_
  show wpAny _ _ (Builtin.Dict.updateFrom "dict.__init__" s.heap.objs.size (.ref l) [] .none) _ _ _
  unfold Builtin.Dict.updateFrom
  refine wpAny_bind (wpAny_typeOf (T := "list") ⟨ol, k0 _ _ hl, hc⟩ ?_)
  rw [if_pos (by first | decide | rfl | simp)]
  refine wpAny_bind (miss_list (k0 _ _ hl) hc hdat hd hh fun h1 tk1 hk1 => ?_)
  rw [if_pos (show (none : Option Value).isNone = true from rfl)]
  refine wpAny_bind (wpAny_rule ?_)
  have hl1 : h1.IsList l items := ⟨ol, hk1 _ _ (k0 _ _ hl), hc, n, hdat⟩
  have hS1 : s.heap.objs.size < h1.objs.size := by
    have e : (s.heap.push { cls := .type "dict", data := .dict #[] }).get? s.heap.objs.size = some { cls := .type "dict", data := .dict #[] } := Heap.get?_push_size _ rfl
    exact Heap.lt_size (hk1 _ _ e)
  refine wpAny_bind (wpAny_pyIter_list hl1 ?_)
  have k2 : ∀ b o, h1.get? b = some o → (h1.push { cls := .type "list_iterator", data := .fields #[.ref l, .int 0 0] }).get? b = some o := fun b o e => Heap.get?_push_of_some _ e
  have hlt : l < s.heap.objs.size := Heap.lt_size hl
  have key := g_upd_loop (prog := prog) (w := w) (A := A.in1) (R := wants (fun r t => r = .none ∧ Q (.ref s.heap.objs.size) t) E) (S := s.heap.objs.size) (J := h1.objs.size) (l := l) (items := items) (res := Value.none) (show A.units + 1 + 11 < cLine by omega) hh
    (Nat.ne_of_lt (Nat.lt_trans hlt hS1)) (Nat.ne_of_lt hS1) (Nat.ne_of_gt hlt) prs 0 [] 0 0
    { s with heap := h1.push { cls := .type "list_iterator", data := .fields #[.ref l, .int 0 0] }, toks := tk1 } (by rw [hsz, Nat.zero_add]) (by rw [List.length_nil, Nat.zero_add]; exact hln)
    (fun j q e => by
      obtain ⟨b, e1, e2⟩ := ht j q e
      have hb : b < s.heap.objs.size := e2.lt
      exact ⟨b, by rw [Nat.zero_add]; exact e1, Nat.ne_of_lt hb, Nat.ne_of_lt (Nat.lt_trans hb hS1), e2.keeps fun c o z => k2 _ _ (hk1 _ _ (k0 _ _ z))⟩)
    (fun q hq => (hko q hq).keep fun a o _ _ e _ => k2 _ _ (hk1 _ _ (k0 _ _ e)))
    ⟨_, Heap.get?_push_size _ rfl, rfl, rfl⟩ (hl1.at fun o e => k2 _ _ e) ((hnew.at fun o e => hk1 _ _ e).at fun o e => k2 _ _ e) (fun x hx => nomatch hx) List.nodup_nil
    (fun h' tk hd' k => ⟨rfl, h h' tk hd' fun b o e => k b o (Nat.ne_of_lt (Heap.lt_size e)) (Nat.ne_of_lt (Nat.lt_trans (Heap.lt_size e) hS1)) (k2 _ _ (hk1 _ _ (k0 _ _ e)))⟩)
  first
    | exact wpAny_pure ⟨plainId_quiet ud_plain _, key⟩
    | exact wpAny_bind (wpAny_pure (wpAny_pure ⟨plainId_quiet ud_plain _, key⟩))
end
end GX
end

section
set_option Elab.async false
set_option linter.all false
set_option maxRecDepth 100000
set_option maxHeartbeats 4000000
namespace GX
open PySem PySem.Spec PyProof.Rows L2
theorem mergeG_keep {acc : List GRow} : ∀ {more : List GRow}, (acc.map (·.1)).Nodup → ((mergeG acc more).map (·.1)).Nodup
  | [], h => h
  | x :: more, h => mergeG_keep (acc := putG acc x.1 x.2.1 x.2.2) (more := more) (putG_nodup h)
theorem mergeG_len : ∀ (more acc : List GRow), (mergeG acc more).length ≤ acc.length + more.length
  | [], acc => Nat.le_refl _
  | x :: more, acc => by
    have h1 := mergeG_len more (putG acc x.1 x.2.1 x.2.2)
    have h2 := putG_len acc x.1 x.2.1 x.2.2
    have h3 : (if acc.any (fun y => decide (y.1 = x.1)) then 0 else 1) ≤ 1 := by split <;> omega
    show (mergeG (putG acc x.1 x.2.1 x.2.2) more).length ≤ _
    rw [List.length_cons]
    omega
theorem mergeG_ok {H : Hp} : ∀ {more acc : List GRow}, KeysOk H acc → KeysOk H more → KeysOk H (mergeG acc more)
  | [], _, h, _ => h
  | x :: more, acc, h, h' => mergeG_ok (more := more) (acc := putG acc x.1 x.2.1 x.2.2) (putG_ok h (h' x List.mem_cons_self)) fun y hy => h' y (List.mem_cons_of_mem _ hy)
section
variable {X : Cx} {pins : List (Addr × Obj)} {σ : L2.St} {H : Hp} {s : Shared}
theorem pairs_g (I : Inv X pins σ H s) : ∀ {ps : List Addr} {rows : List GRow}, Paired (fun p (r : GRow) => H p = some (.tup [r.2.1, r.2.2])) ps rows → KeysOk H rows →
    ∃ prs : List MRow, Paired RowRel rows prs ∧ prs.length = ps.length ∧ (∀ (j : Nat) (q : MRow), prs[j]? = some q → ∃ b : Addr, ps[j]? = some b ∧ IsTup s.heap b #[q.2.1, q.2.2]) ∧ ∀ q ∈ prs, KOk s.heap q.1 q.2.1
  | _, _, .nil, _ => ⟨[], .nil, rfl, fun j q e => by simp at e, fun q h => nomatch h⟩
  | p :: ps, r :: rows, .cons h t, ks => by
    obtain ⟨prs, rr, hl, hp, hk⟩ := pairs_g I t fun y hy => ks y (List.mem_cons_of_mem _ hy)
    obtain ⟨_, its, rv, ht⟩ := I.hok p _ h
    obtain ⟨u, y, ei, ru, ry⟩ := vals2 rv
    subst ei
    refine ⟨(r.1, u, y) :: prs, .cons ⟨rfl, ru, ry⟩ rr, by rw [List.length_cons, List.length_cons, hl], fun j q e => ?_, fun q hq => ?_⟩
    · cases j with
      | zero =>
        obtain rfl : (r.1, u, y) = q := Option.some.inj e
        exact ⟨p, rfl, ht⟩
      | succ j => exact hp j q (by simpa using e)
    · rcases List.mem_cons.mp hq with rfl | hq
      · exact (ks r List.mem_cons_self).ok I.hok ru
      · exact hk q hq
theorem refs_vals : ∀ {ps : List Addr} {us : List Value}, Vals (ps.map V.ref) us → us = ps.map Value.ref
  | [], _, r => by cases r; rfl
  | p :: ps, _, r => by
    cases r with
    | cons r t =>
      cases r
      rw [refs_vals t]
      rfl
/-- dict(l) of a list of pairs -/
theorem call_dict_g (hcalm : X.calm = true) (hu : X.A.units + 14 < cLine) : CallR X (.type "dict") (fun vs H Q => ∃ (a : Addr) (ps : List Addr) (rows : List GRow), vs = [.ref a] ∧ H a = some (.lst (ps.map V.ref)) ∧
    Paired (fun p (r : GRow) => H p = some (.tup [r.2.1, r.2.2])) ps rows ∧ KeysOk H rows ∧ ∀ p ep, H p = none → Q (.ref p) (upd H p (GO X.w p (mergeG [] rows) ep))) := by
  intro pins s σ H vs us Q I r h
  obtain ⟨a, ps, rows, rfl, ha, hp, ks, q⟩ := h
  obtain rfl := Vals.ref1 r
  obtain ⟨hz, its, n, rv, ho⟩ := I.hok a _ ha
  obtain rfl := refs_vals rv
  rw [List.length_map] at hz
  obtain ⟨prs, rr, hl, hpr, hko⟩ := pairs_g I hp ks
  refine g_dict_pairs (w := X.w) (prs := prs) hu (I.ok.hd hcalm) ho rfl rfl rfl (by simp [hl]) (by rw [hl]; exact hz) (fun j q' e => ?_) hko fun h' tk g k => ?_
  · obtain ⟨b, e1, e2⟩ := hpr j q' e
    exact ⟨b, by simp [e1], e2⟩
  · obtain ⟨o, es, ep, ho', hc, hd, he⟩ := g
    have hm : (s.heap.objs.size == sysModules) = false := beq_eq_false_iff_ne.mpr (Nat.ne_of_gt I.big)
    have hlen : (mergeG [] rows).length ≤ sizeLine := by
      refine Nat.le_trans (mergeG_len rows []) ?_
      rw [List.length_nil, Nat.zero_add, Paired.length rr, hl]
      exact hz
    exact ⟨.ref s.heap.objs.size, upd H s.heap.objs.size (GO X.w s.heap.objs.size (mergeG [] rows) ep), I.laid (t' := tk) k (Nat.le_refl _)
      (GO.ok ⟨hlen, mergeG_keep List.nodup_nil, hm, o, es, mergeR [] prs, ho', hc, hd, rel_merge rr .nil, he⟩), rfl, q _ ep (I.hok.fresh (Nat.le_refl _))⟩
end
end GX
end

section
set_option Elab.async false
set_option linter.all false
set_option maxRecDepth 100000
set_option maxHeartbeats 4000000
namespace GX
open PySem PySem.Spec PyProof.Rows L2
/-! ### {k: v for target in iter if ..} -/
section
variable {X : Cx}
theorem g_dictSet {pins : List (Addr × Obj)} {σ : L2.St} {H : Hp} {s : Shared} {E : Value → Shared → Prop} {D : Addr} {rows : List GRow} {ep : Nat} {k : NK} {kv v : V} {u r : Value} {Q : Unit → Shared → Prop} (hu : X.A.units + 9 < cLine) (I : Inv X pins σ H s)
    (hD : H D = some (GO X.w D rows ep)) (ka : KeyAt H k kv) (ks : KeysOk H rows) (hz : rows.length < sizeLine) (ry : RelV kv u) (rv : RelV v r)
    (h : ∀ t ep', Inv X pins σ (upd H D (GO X.w D (putG rows k kv v) ep')) t → Q () t) : wpAny (model X.prog X.w) X.A (dictSet D u r) Q E s := by
  obtain ⟨vs, rr, g, his, hn, hz', hd⟩ := gd_facts I hD ks
  refine gset (show X.A.units + 8 < cLine by omega) (ka.ok I.hok ry) g his hn hz' fun h' tk g' sb => ?_
  have hn' : ((putG rows k kv v).map (·.1)).Nodup := putG_nodup (by rw [rel_keys rr]; exact hn)
  obtain ⟨ep', I'⟩ := gd_write (t' := tk) I hD (rel_put rr ry rv) g' sb (put_size hz) hn' hd
  exact h _ ep' I'
/-- what is left of a turn: the entry goes in -/
def dcPut (w : World) (D : Addr) (Nx : Hp → Prop) (y z : V) (H : Hp) : Prop :=
  ∃ rows ep k, H D = some (GO w D rows ep) ∧ KeyAt H k y ∧ KeysOk H rows ∧ rows.length < sizeLine ∧ ∀ ep', Nx (upd H D (GO w D (putG rows k y z) ep'))
def tGc (w : World) (wi : TI) (g : TG) (tt : TT) (tk tv : TE) (vs : List Nat) : TE := fun σ H Q => wi σ H fun J H1 => ∀ D ep, H1 D = none → ∃ W : Nat → Nat → Hp → Prop, (∃ m, W 0 m (upd H1 D (GO w D [] ep))) ∧ ∀ i m H, W i m H →
  (J.stop i H ∧ Q (.ref D) H) ∨ (J.go i H ∧ ∃ Nx : Hp → Prop, (∀ H', Nx H' → ∃ m', m' < m ∧ W (i + 1) m' H') ∧ ∀ x H', J.yld i H x H' → g x (wipe σ vs) H' fun σ2 H2 => wipe σ2 vs = wipe σ vs ∧ tt σ2 H2 fun b H3 =>
    if b = true then tk σ2 H3 fun y H4 => tv σ2 H4 fun z H5 => dcPut w D Nx y z H5 else Nx H3)
theorem pe_gc {kx vx tg iter : Expr} {ifs : List Expr} {scope : Scope} {own : List (Str × Nat)} {pos : Pos} {wi : TI} {g : TG} {tt : TT} {tk tv : TE} (hu : X.A.units + 9 < cLine) (hc : X.calm = true) (hN : X.N.Nodup) (hi : PI X tg iter wi) (ok : BlkOk X.N X.env.scope scope own)
    (hg : ∀ (s : Shared) (H : Hp) (C : Addr) (cl : List (Str × Addr)) (fp : List Addr), PG (X.blk s H scope (compEnvC scope cl C X.env) fp) tg g)
    (ht : ∀ (s : Shared) (H : Hp) (C : Addr) (cl : List (Str × Addr)) (fp : List Addr), PTs (X.blk s H scope (compEnvC scope cl C X.env) fp) ifs tt)
    (hk : ∀ (s : Shared) (H : Hp) (C : Addr) (cl : List (Str × Addr)) (fp : List Addr), PE (X.blk s H scope (compEnvC scope cl C X.env) fp) kx tk)
    (he : ∀ (s : Shared) (H : Hp) (C : Addr) (cl : List (Str × Addr)) (fp : List Addr), PE (X.blk s H scope (compEnvC scope cl C X.env) fp) vx tv) (hs : ∀ x, foldedSetIterable iter X.env x = pure x := by intro _; rfl) :
    PE X (.DictComp kx vx [⟨tg, iter, ifs, 0⟩] scope pos) (tGc X.w wi g tt tk tv (own.map (·.2))) := by
  refine ⟨fun pins s σ H Q I h => ?_⟩
  rw [arm_eval_DictComp]
  have hfree : ∀ y ∈ scope.names, y.2 = .free → ∃ c, X.env.cells.lookup y.1 = some c := fun y hy e => (ok.free y hy e).elim (fun k => I.ok.has _ (.inl k)) fun k => I.ok.has _ (.inr k)
  refine wpAny_comprehension_free (use := none) rfl hs (closure_ok hfree) ok.kind (fun y hy e => by rw [ok.uniq y hy, e]) (thn (hi.run pins s σ H _ I h) fun xv s1 hx => thn hx fun itv s2 h2 => ?_)
  obtain ⟨it, fp, tn, J, H2, rfl, I2, T, st2, f2, q⟩ := h2
  refine wpAny_newObj_type (newEnv_comp ?_)
  generalize hD : s2.heap.objs.size = D
  obtain ⟨W, ⟨m0, w0⟩, turn⟩ := q D 0 (I2.hok.fresh (Nat.le_of_eq hD))
  generalize hs3 : ({ s2 with heap := s2.heap.push { cls := .type "dict", data := .dict #[] } } : Shared) = s3
  have h3 : s3.heap = s2.heap.push { cls := .type "dict", data := .dict #[] } := by rw [← hs3]
  have I3 : Inv X pins σ (upd H2 D (GO X.w D [] 0)) s3 := by
    subst hs3 hD
    exact I2.laid (t' := s2.toks) (fun b o e => Heap.get?_push_of_some _ e) (Nat.le_refl _) (GO.ok (gphi_new X.w s2.heap I2.big))
  have f3 : ∀ b ∈ fp, FpOk X pins (upd H2 D (GO X.w D [] 0)) b ∧ b < s3.heap.objs.size := fun b hb => by
    obtain ⟨o, e, _⟩ := T.obj _ _ st2 b hb
    have hlt := Heap.lt_size e
    refine ⟨⟨?_, (f2 b hb).2⟩, by rw [h3, Heap.size_push]; exact Nat.lt_succ_of_lt hlt⟩
    rw [upd_ne (by rw [← hD]; exact Nat.ne_of_lt hlt)]
    exact (f2 b hb).1
  have st3 : tn 0 s3.heap := T.keep _ _ _ st2 fun b _ o e => by rw [h3]; exact Heap.get?_push_of_some _ e
  have I4 := block_start I3 ok hN f3
  generalize hH3 : upd H2 D (GO X.w D [] 0) = H3 at I3 I4 w0 f3
  have pg := hg s3 H3 s3.heap.objs.size (cellsFrom (s3.heap.objs.size + 1) scope.names (cloFrom X.env.cells scope.names [])) fp
  have pt := ht s3 H3 s3.heap.objs.size (cellsFrom (s3.heap.objs.size + 1) scope.names (cloFrom X.env.cells scope.names [])) fp
  have pk := hk s3 H3 s3.heap.objs.size (cellsFrom (s3.heap.objs.size + 1) scope.names (cloFrom X.env.cells scope.names [])) fp
  have pe := he s3 H3 s3.heap.objs.size (cellsFrom (s3.heap.objs.size + 1) scope.names (cloFrom X.env.cells scope.names [])) fp
  show codeAny _ _ (.compStart (.DictComp kx vx [⟨tg, iter, ifs, 0⟩] scope pos) 0 (.ref it) (.ref D) (compEnvC scope (cellsFrom (s3.heap.objs.size + 1) scope.names (cloFrom X.env.cells scope.names [])) s3.heap.objs.size X.env)) (compPost (model X.prog X.w) X.A X.xe none _ (.ref D) s3.heap.objs.size)
    { s3 with heap := pushCells (s3.heap.push { cls := .type "dict", data := .dict #[] }) scope.names }
  generalize hce : compEnvC scope (cellsFrom (s3.heap.objs.size + 1) scope.names (cloFrom X.env.cells scope.names [])) s3.heap.objs.size X.env = ce at I4 pg pt pk pe ⊢
  have cL : ce.locals = s3.heap.objs.size := by subst hce; rfl
  generalize hs4 : ({ s3 with heap := pushCells (s3.heap.push { cls := .type "dict", data := .dict #[] }) scope.names } : Shared) = s4 at I4 ⊢
  have st4 : tn 0 s4.heap := T.keep _ _ _ st3 fun b _ o e => by rw [← hs4]; exact pushCells_keeps _ _ _ _ (Heap.get?_push_of_some _ e)
  have stat : ∀ {σ' : L2.St} {H' : Hp} {t : Shared}, Inv (X.blk s3 H3 scope ce fp) [] σ' H' t → (∀ b ∈ fp, H' b = none) → ∀ b ∈ fp, FpOk (X.blk s3 H3 scope ce fp) [] H' b := fun {σ' H' t} I' hn b hb =>
    ⟨hn b hb, (I'.ok.exf b hb).1, I'.ok.exfs b hb, .inl hb, fun x c e => (I'.ok.exf b hb).2 x c e, fun p hp => absurd (show p ∈ ([] : List (Addr × Obj)) ++ [] from hp) (by simp)⟩
  have loop : codeAny (model X.prog X.w) X.A (.compLoop (.DictComp kx vx [⟨tg, iter, ifs, 0⟩] scope pos) 0 (.ref it) (.ref D) ce) (compPost (model X.prog X.w) X.A X.xe none (EP X pins σ Q) (.ref D) s3.heap.objs.size) s4 := by
    refine compLoop_anyD (fun n t => ∃ i H', Inv (X.blk s3 H3 scope ce fp) [] (wipe σ (own.map (·.2))) H' t ∧ tn i t.heap ∧ (∀ b ∈ fp, H' b = none) ∧ W i n H') ?_ m0 ⟨0, H3, I4, st4, fun b hb => (f3 b hb).1.1, w0⟩
    rintro n s5 ⟨i, H5, I5, st5, n5, w5⟩
    rcases turn i n H5 w5 with ⟨stop, qq⟩ | ⟨go, Nx, hNx, step⟩
    · refine thnF (T.done (X.blk s3 H3 scope ce fp) rfl rfl rfl hc i [] s5 _ H5 (fun _ _ => False) I5 (stat I5 n5) st5 stop) fun r s6 ⟨hr, I6⟩ => ?_
      subst hr
      have I7 : Inv X pins σ H5 s6 := I3.call' (ch := fp) I6.os I6.base I6.hok I6.bare fun b hb => ⟨(f3 b hb).1.2.2.2.1, (f3 b hb).1.2.1, (f3 b hb).1.2.2.2.2.1, (f3 b hb).1.2.2.2.2.2⟩
      have nC : H5 s3.heap.objs.size = none := cL ▸ (show H5 ce.locals = none from I6.free)
      obtain ⟨m, hn, _⟩ := I6.loc
      have hn : s6.heap.Ns ce.locals m := hn
      rw [cL] at hn
      refine ⟨m, hn, fun h'' sb => ?_⟩
      obtain ⟨f0, f1, _, k3, k4, k5⟩ := I3.fpOk (Nat.le_refl _) nC
      exact ⟨.ref D, H5, I7.turned (t' := s6.toks) (fun b o hb e => (sb.2 b hb).trans e) f0 f1 k3 k4 k5, rfl, qq⟩
    · refine thnF (T.item (X.blk s3 H3 scope ce fp) rfl rfl rfl hc i [] s5 _ H5 (fun _ _ => False) I5 (stat I5 n5) st5 go) fun r s6 ⟨u, hr, h6⟩ => ?_
      subst hr
      refine thnF h6 fun _ s7 ⟨x, H7, I7, r7, y7, st7, n7⟩ => ?_
      have I7' := I7.pinned (stat I7 n7) (T.obj _ _ st7)
      refine thnF (pg.run _ s7 _ H7 x u _ I7' r7 (step x H7 y7)) fun _ s8 ⟨σ8, H8, I8, hw8, q8⟩ => ?_
      refine thnF (pt.run _ s8 σ8 H8 _ I8 q8) fun b s9 ⟨H9, I9, q9⟩ => ?_
      have fin : ∀ {t : Shared} {H' : Hp}, Inv (X.blk s3 H3 scope ce fp) ([] ++ pinsAt fp s7.heap) σ8 H' t → Nx H' → ∃ m, m < n ∧ ∃ i H', Inv (X.blk s3 H3 scope ce fp) [] (wipe σ (own.map (·.2))) H' t ∧ tn i t.heap ∧ (∀ b ∈ fp, H' b = none) ∧ W i m H' := fun {t H'} I' nx => by
        obtain ⟨m', hm, w'⟩ := hNx H' nx
        have pin' : ∀ b ∈ fp, ∀ o, s7.heap.get? b = some o → t.heap.get? b = some o ∧ H' b = none := fun b hb o e =>
          let z := I'.pin (b, o) (List.mem_append_right _ (List.mem_append_right _ (mem_pinsAt hb e)))
          ⟨z.1, z.2.1⟩
        refine ⟨m', hm, i + 1, H', (I'.unpinned (pins := [])).weak (by rw [← hw8, wipe_length]) (fun j v e => ?_), T.keep _ _ _ st7 fun b hb o e => (pin' b hb o e).1, fun b hb => ?_, w'⟩
        · rw [← hw8] at e
          exact (wipe_some e).1
        · obtain ⟨o, e, _⟩ := T.obj _ _ st7 b hb
          exact (pin' b hb o e).2
      cases b with
      | false =>
        simp only [Bool.false_eq_true, if_false] at q9 ⊢
        exact fin I9 q9
      | true =>
        simp only [if_true] at q9 ⊢
        refine thnF (pk.run _ s9 σ8 H9 _ I9 q9) fun z s10 ⟨yk, H10, I10, r10, q10⟩ => ?_
        refine thnF (pe.run _ s10 σ8 H10 _ I10 q10) fun z2 s11 ⟨yv, H11, I11, r11, rows, ep, k, hD11, ka, ks, hz11, nx⟩ => ?_
        exact g_dictSet (X := X.blk s3 H3 scope ce fp) hu I11 hD11 ka ks hz11 r10 r11 fun s12 ep' I12 => fin I12 (nx ep')
  exact codeAny_compStart_dict loop (T.self X.A 0 _ _ _ st4 loop)
end
end GX
end

section
set_option Elab.async false
set_option linter.all false
set_option maxRecDepth 100000
set_option maxHeartbeats 4000000
/-! isinstance of my dicts; calls whose raising wish sees the slots. -/
namespace GX
open PySem PySem.Spec PyProof.Rows L2
/-- a value's built-in class, dicts of GD6 among them -/
inductive TyG (K : PySem.W.Frag) (w : World) (H : Hp) : V → Value → Prop where
  | base {x : V} {t : Value} (h : TyX K H x t) : TyG K w H x t
  | gd {a : Addr} {xs : List GRow} {ep : Nat} (e : H a = some (GO w a xs ep)) : TyG K w H (.ref a) (.type "dict")
section
variable {X : Cx} {pins : List (Addr × Obj)} {σ : L2.St} {H : Hp} {s : Shared}
theorem kit_ofG {x : V} {u t : Value} (I : Inv X pins σ H s) (rx : RelV x u) (ty : TyG X.K X.w H x t) : ∃ P : Heap → Prop, PySem.W.KitX X.K u t P ∧ P s.heap ∧ u ≠ .builtin "__main__.__loader__#opaque" := by
  cases ty with
  | base b => exact kit_of I rx b
  | gd e =>
    cases rx
    obtain ⟨z, n, m, o, es, ws, ho, hc, r⟩ := Inv.gd I e
    exact ⟨_, PySem.W.kitx_dict, ⟨o, ho, hc.1⟩, fun z => nomatch z⟩
end
def rIsiG (K : PySem.W.Frag) (w : World) : List V → Hp → VK → Prop := fun xs H Q => ∃ (x c : V) (t u : Value) (b : Bool), xs = [x, c] ∧ ClsV c u ∧ TyG K w H x t ∧ PySem.W.kitOne K t u = some b ∧ Q (.bl b) H
theorem call_isiG {X : Cx} : CallR X (.builtin "isinstance") (rIsiG X.K X.w) := by
  intro pins s σ H xs us Q I r h
  obtain ⟨x, c, t, u, b, rfl, k, ty, e, q⟩ := h
  obtain ⟨u1, u2, rfl, r1, r2⟩ := vals2 r
  have e2 := k.eq r2
  subst e2
  obtain ⟨P, Z, p, hx⟩ := kit_ofG I r1 ty
  exact PySem.W.kia_one Z I.kIn p e hx fun tk => ⟨.bl b, H, I.tok tk, rfl, q⟩

section
variable {X : Cx} {CX : CXT} {k : Nat} {f C : Addr} {fd : FuncData} {ps : List Str} {sp : Sp} {E : L2.St → XK} {x m : Str} {p pos apos : Pos} {e o : Expr} {es : List Expr} {ta : TE} {t : TA}
/-- C(e, ..), what it raises may be wished by the slots -/
def tMakeS (C : Addr) (sp : Sp) (E : L2.St → XK) (t : TA) : TE := fun σ H Q => t σ H fun vs H1 =>
  ∀ x dx, H1 x = none → H1 dx = none → dx ≠ x → sp (.ref x :: vs) (upd (upd H1 dx (.own x)) x (.ins C dx [])) (fun v H2 => v = .non ∧ Q (.ref x) H2) (E σ)
theorem run_makeS {pins : List (Addr × Obj)} {σ : L2.St} {H : Hp} {s : Shared} {Q : VK} {us : List Value} {vs : List V} (M : Mk X.K C f) (F : FnOk X.prog X.w X.K X.mg X.base CX k f fd ps sp) (hr : Room (k + 1) X.A) (hb : Binds X.K fd ps [])
    (hx : PassesAt CX X σ (E σ)) (I : Inv X pins σ H s) (r : Vals vs us)
    (h : ∀ x dx, H x = none → H dx = none → dx ≠ x → sp (.ref x :: vs) (upd (upd H dx (.own x)) x (.ins C dx [])) (fun v H2 => v = .non ∧ Q (.ref x) H2) (E σ)) :
    wpAny (model X.prog X.w) X.A (call (.ref C) us) (EP X pins σ Q) X.xe s := by
  have hq := h (s.heap.objs.size + 1) s.heap.objs.size (I.hok.fresh (Nat.le_succ _)) (I.hok.fresh (Nat.le_refl _)) (Nat.ne_of_lt (Nat.lt_succ_self _))
  have I2 := Inv.made (C := C) I
  have r2 : Vals (V.ref (s.heap.objs.size + 1) :: vs) (Value.ref (s.heap.objs.size + 1) :: us) := .cons rfl r
  have hl : ((Value.ref (s.heap.objs.size + 1) :: us) ++ []).length = ps.length := by
    rw [List.append_nil, ← r2.length]
    exact F.len _ _ _ _ hq
  have bb := hb _ (Value.ref (s.heap.objs.size + 1) :: us) I2.kIn hl
  rw [List.append_nil] at bb
  refine wpAny_call (make_map (f := f) I.kIn M.makes M.init (beq_iff_eq.mp M.fn) (codeAny_mono (F.run _ X.stack _ _ ⟨Value.ref (s.heap.objs.size + 1) :: us, []⟩ (Value.ref (s.heap.objs.size + 1) :: us) _ _ (E σ) (hr.make C us [])
    (I2.env0.make C us []) bb r2 hq) fun r s' hq' => ?_))
  cases r with
  | error e => exact hx pins _ _ e s' I2 hq'
  | ok fl =>
    cases fl with
    | ret u =>
      obtain ⟨v, H', I3, rv, ev, q3⟩ := I2.after hq'
      subst ev
      exact ⟨rv, ⟨V.ref (s.heap.objs.size + 1), H', I3, rfl, q3⟩⟩
    | next => exact False.elim hq'
    | brk => exact False.elim hq'
    | cont => exact False.elim hq'
theorem pe_makeS (M : Mk X.K C f) (F : FnOk X.prog X.w X.K X.mg X.base CX k f fd ps sp) (hr : Room (k + 1) X.A) (hg : Gl X x) (hm : X.mg x = some (.ref C)) (hb : Binds X.K fd ps []) (hx : ∀ σ, PassesAt CX X σ (E σ))
    (ha : PA X (e :: es) t) (hdb : (x == ("__debug__" : Str)) = false := by decide) (he : starEach (e :: es) X.env = (false, eval e X.env) :: starEach es X.env := by rfl) (hpl : (backTo pos (starEach es X.env)).any (·.1) = false := by rfl) :
    PE X (.Call (.Name x p) (e :: es) [] pos) (tMakeS C sp E t) := by
  refine ⟨fun pins s σ H Q I h => ?_⟩
  refine wpAny_Call_Name_kw (ld_glob I hg hm ?_ hdb)
  refine PySem.W.callWith_K (h₀ := X.base) I.ok.mod.kin M.kp (thn (ha.run pos pins s σ H _ I h) fun us s1 ⟨vs, H1, I1, r, q⟩ => ⟨I1.kIn, ?_⟩) he hpl
  exact run_makeS M F hr hb (hx σ) I1 r q
/-- o.m(e, ..), the same -/
def tMethS (C : Addr) (m : Str) (sp : Sp) (E : L2.St → XK) (ta : TE) (t : TA) : TE := fun σ H Q => ta σ H fun x H1 => ∃ a dx fs, x = .ref a ∧ H1 a = some (.ins C dx fs) ∧ fs.lookup m = none ∧ t σ H1 fun vs H2 => sp (x :: vs) H2 Q (E σ)
theorem pe_methS {pl : Sem Bool} (he : PE X o ta) (c : Cls X.K C) (hm : Meth X.K C m f) (F : FnOk X.prog X.w X.K X.mg X.base CX k f fd ps sp) (hr : Room k X.A) (hb : Binds X.K fd ps []) (hx : ∀ σ, PassesAt CX X σ (E σ)) (ha : PA X (e :: es) t)
    (hst : starEach (e :: es) X.env = (false, eval e X.env) :: starEach es X.env := by rfl) (hpl : (backTo pos (starEach es X.env)).any (·.1) = false := by rfl)
    (ht : eval (.Call (.Attribute o m apos) (e :: es) [] pos) X.env = (do
      let ov ← eval o X.env
      standAt apos.atName
      let (f, first) ← holding [ov] (getMethod ov m pl)
      callWith pos f first (backTo pos (starEach (e :: es) X.env)) (backToKw pos (keywordEach [] X.env))) := by rfl) :
    PE X (.Call (.Attribute o m apos) (e :: es) [] pos) (tMethS C m sp E ta t) := by
  refine ⟨fun pins s σ H Q I h => ?_⟩
  refine PySem.W.methodCall_KW (pl := pl) (thn (he.run pins s σ H _ I h) fun u s1 ⟨x, H1, I1, rx, a, dx, fs, ex, ea, l, q⟩ => ?_) ht
  subst ex
  obtain rfl : u = Value.ref a := rx
  refine getmeth_ok I1 ea c hm l ?_
  refine PySem.W.callWith_K (first := [.ref a]) (h₀ := X.base) I.ok.mod.kin hm.kp (thn (ha.run pos pins s1 σ H1 _ I1 q) fun us s2 ⟨vs, H2, I2, r, q2⟩ => ⟨I2.kIn, ?_⟩) hst hpl
  exact run_fnS (us := .ref a :: us) (vs := .ref a :: vs) F hr hb (hx σ) I2 (.cons rfl r) q2
end
end GX
end

section
set_option Elab.async false
set_option linter.all false
set_option maxRecDepth 100000
set_option maxHeartbeats 4000000
/-! a def that is called in an except suite and looks at the caught error. -/
namespace GX
open PySem PySem.Spec PyProof.Rows L2 L2H
/-- what a def promises that gets the caught error: where it stands, its class, its dict -/
abbrev SpE := Addr → Value → Option Addr → Sp
structure FnE (P : Program) (w : World) (K : PySem.W.Frag) (mg : Str → Option Value) (base : Heap) (CX : CXT) (k : Nat) (f : Addr) (fd : FuncData) (ps : List Str) (sp : SpE) : Prop where
  len : ∀ a cls d vs H Q E, sp a cls d vs H Q E → vs.length = ps.length
  run : ∀ (A : Around) (outer : List Env) (s : Shared) (H : Hp) (args : Args) (us : List Value) (vs : List V) (Q : VK) (E : XK) (p : Addr × Obj) (cls : Value) (d : Option Addr), RoomH k A → Zc cls d p.2 → (∃ fs, p.2.data = .fields fs) → PinOk outer H s p →
    Env0 P w K mg base A outer s H → BindsTo s fd args (ps.zip us) → Vals vs us → sp p.1 cls d vs H Q E → codeAny (model P w) A (.call (.ref f) args) (CR CX outer P w H s Q E) s
theorem fn_ofE {CX : CXT} {P : Program} {w : World} {K : PySem.W.Frag} {mg : Str → Option Value} {base : Heap} {k : Nat} {f : Addr} {name qual : Str} {params : Arguments} {body : List Stmt} {scope : Scope} {dV kV doc pm cdv ct oc : Value} {an od : Option Addr}
    {osl : Array (Option Value)} {N ps : List Str} {sp : SpE} (lk : K.lookup f = some ⟨oc, od, .func (PySem.W.fnOf name qual params body scope dV kV doc pm an cdv ct), osl⟩) (hcd : PySem.W.codeIn K cdv qual = true) (S : FnScope N ps scope)
    (len : ∀ a cls d vs H Q E, sp a cls d vs H Q E → vs.length = ps.length)
    (hbody : ∀ (A : Around) (outer : List Env) (s : Shared) (H : Hp) (vs : List V) (Q : VK) (E : XK) (p : Addr × Obj) (cls : Value) (d : Option Addr), Zc cls d p.2 → (∃ fs, p.2.data = .fields fs) → RoomH k (A.deeper (envOfC qual scope s.heap.objs.size f cdv)) → sp p.1 cls d vs H Q E →
      ∃ t, PSs (cxH CX P w K mg base N qual scope f cdv A outer s H E p) body t ∧ t { nx := fun _ H' => Q .non H', rt := Q } (L2.start N vs) H) :
    FnE P w K mg base CX (k + 1) f (PySem.W.fnOf name qual params body scope dV kV doc pm an cdv ct) ps sp := by
  refine ⟨len, fun A outer s H args us vs Q E p cls d hr hz hf pin e0 hb r hsp => ?_⟩
  have hl := len _ _ _ _ _ _ _ hsp
  have hin : K.In s.heap := e0.mod.kin.keeps fun b o e => (e0.bs b o e).1
  have far : s.heap.NoLimit := e0.mod.nolimit.keeps fun b o e => (e0.bs b o e).1
  have each : ∀ y ∈ ps.zip us, scope.names.lookup y.1 = some .local ∨ (scope.names.lookup y.1 = some .cell ∧ ((cellsFrom (s.heap.objs.size + 1) scope.names []).lookup y.1).isSome = true) := fun ⟨n, v⟩ hy =>
    (S.par n (List.of_mem_zip hy).1).elim .inl fun q => .inr ⟨q, PySem.W.cellsFrom_some _ _ _ (.inl q)⟩
  refine codeAny_call_function hr.depth (hin _ _ lk) rfl S.co S.gen rfl (PySem.W.codeRec_of hin hcd) (hb _ _ _ _ (wpAny_newFunctionEnv_cells S.kind each fun env he s1 x => ?_))
  subst he
  refine ⟨far.keeps x.toInCall.keep, codeAny_func ?_⟩
  obtain ⟨t, ht, hq⟩ := hbody A outer s H vs Q E p cls d hz hf (hr.deeper _) hsp
  have I := inv_startH (CX := CX) (E := E) (qual := qual) (f := f) (cd := cdv) S pin e0 hl r x
  refine wpAny_mono (ht.run [] s1 (L2.start N vs) H _ I hq) (fun fl s' hs => ?_) fun e s' hs => hs
  cases fl with
  | ret u =>
    obtain ⟨v, σ', H', J, rv, q⟩ := hs
    exact ⟨v, H', J.os, J.bare, J.base, J.hok, rv, q⟩
  | next =>
    obtain ⟨σ', H', J, q⟩ := hs
    exact ⟨V.non, H', J.os, J.bare, J.base, J.hok, (rfl : RelV V.non Value.none), q⟩
  | brk =>
    obtain ⟨_, _, _, q⟩ := hs
    exact False.elim q
  | cont =>
    obtain ⟨_, _, _, q⟩ := hs
    exact False.elim q

section
variable {X : Cx} {CX : CXT} {k : Nat} {f C : Addr} {fd : FuncData} {ps : List Str} {sp : SpE} {E : XK} {x m : Str} {q pos apos : Pos} {e o : Expr} {es : List Expr} {ta te : TE} {t : TA} {p : Addr × Obj} {cls : Value} {d : Option Addr}
/-- f(err, ..) in the suite -/
def tCallE (sp : Sp) (E : XK) (t : TA) : TE := fun σ H Q => t σ H fun vs H1 => sp vs H1 Q E
theorem pe_callE (hp : p ∈ X.pn) (hz : Zc cls d p.2) (hf : ∃ fs, p.2.data = .fields fs) (F : FnE X.prog X.w X.K X.mg X.base CX k f fd ps sp) (hr : RoomH k X.A) (hg : Gl X x) (hm : X.mg x = some (.ref f)) (hk : PySem.W.keepIn X.K (.ref f) = true) (hb : Binds X.K fd ps []) (hx : Passes CX X E)
    (ha : PA X (e :: es) t) (hdb : (x == ("__debug__" : Str)) = false := by decide) (he : starEach (e :: es) X.env = (false, eval e X.env) :: starEach es X.env := by rfl) (hpl : (backTo pos (starEach es X.env)).any (·.1) = false := by rfl) :
    PE X (.Call (.Name x q) (e :: es) [] pos) (tCallE (sp p.1 cls d) E t) := by
  refine ⟨fun pins s σ H Q I h => wpAny_Call_Name_kw (ld_glob I hg hm ?_ hdb)⟩
  refine PySem.W.callWith_K (h₀ := X.base) I.ok.mod.kin hk (thn (ha.run pos pins s σ H _ I h) fun us s1 ⟨vs, H1, I1, r, w⟩ => ⟨I1.kIn, ?_⟩) he hpl
  have hl : us.length = ps.length := r.length.symm.trans (F.len _ _ _ _ _ _ _ w)
  have b := hb s1 us I1.kIn (by rw [List.append_nil]; exact hl)
  rw [List.append_nil] at b
  have P1 := I1.pin p (List.mem_append_left _ hp)
  have pin : PinOk X.stack H1 s1 p := ⟨P1.1, P1.2.1, fun hm => (List.mem_cons.mp (I1.stkSub p.1 hm)).elim P1.2.2.1 P1.2.2.2.1, P1.2.2.2.2⟩
  refine wpAny_call (codeAny_mono (F.run X.A X.stack s1 H1 ⟨us, []⟩ us vs Q E p cls d hr hz hf pin I1.env0 b r w) fun r s' hq => ?_)
  cases r with
  | error e => exact hx pins σ H1 s1 e s' I1 hq
  | ok fl =>
    cases fl with
    | ret u => exact I1.after hq
    | next => exact False.elim hq
    | brk => exact False.elim hq
    | cont => exact False.elim hq

/-- the caught error as an instance -/
theorem pin_inst {pins : List (Addr × Obj)} {σ : L2.St} {H : Hp} {s : Shared} {D dd : Addr} {fs : List (Str × V)} (I : Inv X pins σ H s) (hp : p ∈ X.pn) (hz : Zc (.ref D) (some dd) p.2) (hf : ∃ gs, p.2.data = .fields gs) (ea : H dd = some (.xd fs)) :
    ∃ od, PySem.W.InstAt s.heap p.1 p.2 D (some od) := by
  obtain ⟨ha, _⟩ := I.pin p (List.mem_append_left _ hp)
  obtain ⟨gs, hd⟩ := hf
  obtain ⟨mA, hns, hr⟩ := (show ObjOk X.prog X.w H s.heap dd (.xd fs) from I.hok dd _ ea)
  obtain ⟨od, ho, hl⟩ := lookIn_ns hns
  exact ⟨od, ha, hz.1, by unfold PySem.W.notCls; rw [hd] <;> rfl, by rw [hz.2]; exact ho⟩
/-- isinstance(err, C) -/
def rIsP (K : PySem.W.Frag) (a : Addr) (cls : Value) (d : Option Addr) : List V → Hp → VK → Prop := fun xs H Q => ∃ (c : V) (cv : Value) (b : Bool) (D dd : Addr) (fs : List (Str × V)), xs = [.ref a, c] ∧ cls = .ref D ∧ d = some dd ∧ ExcC K D ∧ H dd = some (.xd fs) ∧ ClsV c cv ∧ PySem.W.kitOne K (.ref D) cv = some b ∧ Q (.bl b) H
theorem call_isP (hp : p ∈ X.pn) (hz : Zc cls d p.2) (hf : ∃ fs, p.2.data = .fields fs) : CallR X (.builtin "isinstance") (rIsP X.K p.1 cls d) := by
  intro pins s σ H xs us Q I r h
  obtain ⟨c, cv, b, D, dd, fs, rfl, rfl, rfl, C, ea, hcv, e, w⟩ := h
  obtain ⟨u1, u2, rfl, r1, r2⟩ := vals2 r
  cases r1
  have e2 := hcv.eq r2
  subst e2
  obtain ⟨od, J⟩ := pin_inst I hp hz hf ea
  obtain ⟨cd, hc, _⟩ := PySem.W.any_some C.hd
  exact PySem.W.kia_one (PySem.W.kitx_exc (by rw [hc]; rfl) C.hg C.hk C.hs C.ha C.hn C.ht C.hm) I.kIn J e (fun z => nomatch z) fun tk => ⟨.bl b, H, I.tok tk, rfl, w⟩
/-- err.f -/
def tXfP (K : PySem.W.Frag) (a : Addr) (cls : Value) (d : Option Addr) (f : Str) (te : TE) : TE := fun σ H Q => te σ H fun x H1 => x = .ref a ∧ ∃ (C dd : Addr) (fs : List (Str × V)) (v : V), cls = .ref C ∧ d = some dd ∧ XfC K C ∧ PySem.W.findIn K (.ref C) f = some none ∧ H1 dd = some (.xd fs) ∧ fs.lookup f = some v ∧ Q v H1
theorem pe_xfP {n : Str} (hp : p ∈ X.pn) (hz : Zc cls d p.2) (hf : ∃ fs, p.2.data = .fields fs) (he : PE X e te) (hb : attributeBase e n X.env (eval e X.env) = eval e X.env := by rfl) : PE X (.Attribute e n pos) (tXfP X.K p.1 cls d n te) := by
  refine ⟨fun pins s σ H Q I h => attr_of hb (thn (he.run pins s σ H _ I h) fun u s1 hh => ?_)⟩
  obtain ⟨x, H1, I1, rx, ex, C, dd, fs, v, ec, ed, T, hno, ea, l, w⟩ := hh
  subst ex ec ed
  obtain rfl : u = Value.ref p.1 := rx
  obtain ⟨ha, _⟩ := I1.pin p (List.mem_append_left _ hp)
  obtain ⟨gs, hd⟩ := hf
  obtain ⟨mA, hns, hr⟩ := (show ObjOk X.prog X.w H1 s1.heap dd (.xd fs) from I1.hok dd _ ea)
  obtain ⟨od, ho, hl⟩ := lookIn_ns hns
  obtain ⟨u, hu, ru⟩ := RelO.some_of (v := v) (o := mA n) (by rw [← l]; exact hr n)
  have J : PySem.W.InstAt s1.heap p.1 p.2 C (some od) := ⟨ha, hz.1, by unfold PySem.W.notCls; rw [hd] <;> rfl, by rw [hz.2]; exact ho⟩
  exact HandSPX.exc_get I1.kIn J T.ga T.gg T.exC (PySem.W.findObj_own T.hdC hno rfl (by rw [hl, hu])) (handed_of ru) ⟨v, H1, I1.tok _, ru, w⟩
end
end GX
end

section
set_option Elab.async false
set_option linter.all false
set_option maxRecDepth 100000
set_option maxHeartbeats 4000000
/-! sorted(.., key=f), f a def of the program. -/
namespace GX
open PySem PySem.Spec PyProof.Rows L2 PySem.W
theorem Dp_same {K : PySem.W.Frag} {H H' : Hp} (e : Same H H') {v : V} {d : PyData} (h : Dp K H v d) : Dp K H' v d := by
  refine @Dp.rec K H (fun v d _ => Dp K H' v d) (fun vs ds _ => DpAll K H' vs ds) .non .bl .int .str (fun {a xs ds} s _ ih => .lst (e.seq s) ih) (fun {a xs ds} s _ ih => .tup ?_ ih) .nil (fun _ _ ih1 ih2 => .cons ih1 ih2) v d h
  rcases s with (s | ⟨o, s⟩) | s
  · exact .inl (.inl (e _ _ s))
  · exact .inl (.inr ⟨o, e _ _ s⟩)
  · exact .inr s
theorem DpAll_same {K : PySem.W.Frag} {H H' : Hp} (e : Same H H') : ∀ {vs : List V} {ds : List PyData}, DpAll K H vs ds → DpAll K H' vs ds
  | _, _, .nil => .nil
  | _, _, .cons h t => .cons (Dp_same e h) (DpAll_same e t)
theorem DpAll_snoc {K : PySem.W.Frag} {H : Hp} {v : V} {d : PyData} : ∀ {vs : List V} {ds : List PyData}, DpAll K H vs ds → Dp K H v d → DpAll K H (vs ++ [v]) (ds ++ [d])
  | _, _, .nil, h => .cons h .nil
  | _, _, .cons g t, h => .cons g (DpAll_snoc t h)
theorem Vals_snoc {v : V} {u : Value} : ∀ {vs : List V} {us : List Value}, Vals vs us → RelV v u → Vals (vs ++ [v]) (us ++ [u])
  | _, _, .nil, h => .cons h .nil
  | _, _, .cons g t, h => .cons g (Vals_snoc t h)
theorem DpAll_len {K : PySem.W.Frag} {H : Hp} : ∀ {vs : List V} {ds : List PyData}, DpAll K H vs ds → vs.length = ds.length
  | _, _, .nil => rfl
  | _, _, .cons _ t => congrArg (· + 1) (DpAll_len t)
theorem Vals_each {vs : List V} {us : List Value} : Vals vs us → ∀ {ds : List PyData}, vs.length = ds.length → EachIs (fun u (x : V × PyData) => RelV x.1 u) us (vs.zip ds)
  | .nil, [], _ => .nil
  | .cons r t, _ :: _, hl => .cons r (Vals_each t (Nat.succ.inj hl))
section
variable {X : Cx} {pins : List (Addr × Obj)} {σ : L2.St} {H : Hp}
theorem Dp_each {s : Shared} (I : Inv X pins σ H s) : ∀ {vs : List V} {us : List Value} {ds : List PyData}, DpAll X.K H vs ds → Vals vs us → EachIs (fun u d => ∃ as, Reads s.heap u d as) us ds
  | _, _, _, .nil, .nil => .nil
  | _, _, _, .cons h t, .cons r q => .cons (Dp.reads I _ _ _ h r) (Dp_each I t q)
/-- between two keys -/
def KInv (X : Cx) (pins : List (Addr × Obj)) (σ : L2.St) (H : Hp) (kS a : Addr) (e1 : Nat) (ds : List PyData) (j : Nat) (s' : Shared) : Prop :=
  ∃ (Hj : Hp) (kA : Array Value) (e : Nat) (zs : List V), Inv X pins σ Hj s' ∧ FpOk X pins Hj kS ∧ FpOk X pins Hj a ∧ s'.heap.get? kS = some (seqObj "list" kA e) ∧ s'.heap.get? a = some (seqObj "list" #[] e1) ∧ Same H Hj ∧ Vals zs kA.toList ∧ DpAll X.K Hj zs (ds.take j)
variable {f : Addr} {fd : FuncData} {p1 : Str} {k : Nat} {sp : Sp}
theorem fpOk_to {Ha Hb : Hp} {b : Addr} (h : FpOk X pins Ha b) (n : Hb b = none) : FpOk X pins Hb b := ⟨n, h.2⟩
theorem key_step {s' : Shared} {kS a : Addr} {e1 : Nat} {ds : List PyData} {d : PyData} {j : Nat} {v : V} {x : Value} {Q : ForInStep PUnit → Shared → Prop} {E : Value → Shared → Prop} (F : FnOk X.prog X.w X.K X.mg X.base L2.CX0 k f fd [p1] sp) (hr : Room (k + 2) X.A) (hb : Binds X.K fd [p1] [])
    (hd : ds[j]? = some d) (hz : ds.length ≤ sizeLine) (hka : kS ≠ a) (rx : RelV v x) (J : KInv X pins σ H kS a e1 ds j s')
    (hsp : ∀ Hj, Same H Hj → sp [v] Hj (fun y H' => Same Hj H' ∧ Dp X.K H' y d) E0)
    (h : ∀ r s'', r = .yield ⟨⟩ → KInv X pins σ H kS a e1 ds (j + 1) s'' → Q r s'') {err : Value → Sem (ForInStep PUnit)} :
    wpAny (model X.prog X.w) X.A.in1.in1 (do match ← (call (.ref f) [x]).attempt with
      | .ok k => do Builtin.List.listUpdate (.ref kS) (·.push k); pure (.yield ⟨⟩)
      | .error e => err e) Q E s' := by
  obtain ⟨Hj, kA, e, zs, I, fk, fa, gk, ga, sm, rz, rd⟩ := J
  have hl : kA.size = j := by
    rw [← Array.length_toList, ← Paired.length rz, DpAll_len rd, List.length_take]
    exact Nat.min_eq_left (Nat.le_of_lt (List.getElem?_eq_some_iff.mp hd).1)
  have hj : j < ds.length := (List.getElem?_eq_some_iff.mp hd).1
  have fp : ∀ b ∈ [kS, a], FpOk X pins Hj b := fun b hb => by
    rcases List.mem_cons.mp hb with rfl | hb
    · exact fk
    · obtain rfl : b = a := by simpa using hb
      exact fa
  have ho : ∀ b ∈ [kS, a], ∃ o, s'.heap.get? b = some o ∧ ∀ v, o.data ≠ .cell v := fun b hb => by
    rcases List.mem_cons.mp hb with rfl | hb
    · exact ⟨_, gk, fun v z => nomatch z⟩
    · obtain rfl : b = a := by simpa using hb
      exact ⟨_, ga, fun v z => nomatch z⟩
  have I2 := I.pinned fp ho
  have bb := hb s' [x] I.kIn rfl
  rw [List.append_nil] at bb
  refine wpAny_bind (wpAny_attempt (wpAny_call (codeAny_mono (F.run X.A.in1.in1 X.stack s' Hj ⟨[x], []⟩ [x] [v] _ E0 hr.in1.in1 I.env0.in1.in1 bb (.cons rx .nil) (hsp Hj sm)) fun r s2 hq => ?_)))
  cases r with
  | error e => exact False.elim hq
  | ok fl =>
    cases fl with
    | next => exact False.elim hq
    | brk => exact False.elim hq
    | cont => exact False.elim hq
    | ret u =>
      obtain ⟨y, H2, I3, ry, sm2, dy⟩ := I2.after hq
      have gk2 : s2.heap.get? kS = some (seqObj "list" kA e) ∧ H2 kS = none := ⟨(I3.pin (kS, _) (List.mem_append_right _ (List.mem_append_right _ (mem_pinsAt (by simp) gk)))).1, (I3.pin (kS, _) (List.mem_append_right _ (List.mem_append_right _ (mem_pinsAt (by simp) gk)))).2.1⟩
      have ga2 : s2.heap.get? a = some (seqObj "list" #[] e1) ∧ H2 a = none := ⟨(I3.pin (a, _) (List.mem_append_right _ (List.mem_append_right _ (mem_pinsAt (by simp) ga)))).1, (I3.pin (a, _) (List.mem_append_right _ (List.mem_append_right _ (mem_pinsAt (by simp) ga)))).2.1⟩
      have s1 := Heap.SameBut.update s2.heap kS (Obj.mapSeq (·.push u))
      obtain ⟨c2, hc2⟩ : ∃ c2, (s2.heap.update kS (Obj.mapSeq (·.push u))).get? kS = some (seqObj "list" (kA.push u) c2) := ⟨_, get?_update_seq gk2.1 (·.push u)⟩
      refine wpAny_bind (listUpdate_at gk2.1 rfl ?_ (by rw [hl]; omega) (by rw [Array.size_push, hl]; omega))
      have fk2 := fpOk_to fk gk2.2
      have fa2 := fpOk_to fa ga2.2
      obtain ⟨f0, f1, _, f3, f4, f5⟩ := id fk2
      refine wpAny_pure (h _ _ rfl ⟨H2, kA.push u, c2, zs ++ [y], I3.unpinned.turned (t' := s2.toks) (fun b o hb e => (s1.2 b hb).trans e) f0 f1 f3 f4 f5, fk2, fa2, hc2, (s1.2 a hka.symm).trans ga2.1, sm.trans sm2, ?_, ?_⟩)
      · rw [Array.toList_push]
        exact Vals_snoc rz ry
      · rw [List.take_add_one, hd]
        exact DpAll_snoc (DpAll_same sm2 rd) dy
end
end GX
end

section
set_option Elab.async false
set_option linter.all false
set_option maxRecDepth 100000
set_option maxHeartbeats 4000000
namespace GX
open PySem PySem.Spec PyProof.Rows L2 PySem.W PySem.Calls
section
variable {X : Cx} {pins : List (Addr × Obj)} {σ : L2.St} {H : Hp}
variable {f : Addr} {fd : FuncData} {p1 : Str} {k : Nat} {sp : Sp}
/-- list.sort(a, key=f) on a list a of our own that holds vs -/
theorem key_tree_g {s : Shared} {a n : Addr} {vs : List Value} {ws : List V} {ds : List PyData} {P : PySem.Fin → Shared → Prop} {E : Value → Shared → Prop} (F : FnOk X.prog X.w X.K X.mg X.base L2.CX0 k f fd [p1] sp) (hr : Room (k + 2) X.A) (hb : Binds X.K fd [p1] [])
    (I : Inv X pins σ H s) (fa : FpOk X pins H a) (ho : s.heap.get? a = some (seqObj "list" vs.toArray n)) (rv : Vals ws vs) (hlen : ds.length = vs.length) (hZ : vs.length ≤ sizeLine) (hal : AllAlike ds) (hsk : Sortable ds) (hu : ∀ d, d ∈ ds → X.A.units + 2 + d.depth < cLine)
    (hsp : ∀ Hj, Same H Hj → ∀ (j : Nat) v d, ws[j]? = some v → ds[j]? = some d → sp [v] Hj (fun y H' => Same Hj H' ∧ Dp X.K H' y d) E0)
    (h : ∀ s3 Hj out c, Inv X pins σ Hj s3 → FpOk X pins Hj a → Same H Hj → s3.heap.get? a = some (seqObj "list" (List.toArray out) c) → out.length = vs.length → Vals (((ws.zip ds).mergeSort (dataLe false Prod.snd)).map Prod.fst) out → P (.done (.ret .none)) s3) :
    wpAny (model X.prog X.w) X.A.in1.in1 (ksk_tree a (.ref f) false) P E s := by
  have ha : a < s.heap.objs.size := Heap.lt_size ho
  obtain ⟨e1, ho1⟩ : ∃ e1, (s.heap.update a (Obj.mapSeq fun _ => (#[] : Array Value))).get? a = some (seqObj "list" #[] e1) := ⟨_, get?_update_seq ho fun _ => #[]⟩
  have hkS : ((s.heap.update a (Obj.mapSeq fun _ => (#[] : Array Value))).push (seqObj "tuple" vs.toArray 0)).objs.size = s.heap.objs.size + 1 := by rw [size_push', Heap.size_update]
  unfold ksk_tree
  refine wpAny_bind (listItems_at ho rfl ?_)
  refine wpAny_bind (listUpdate_at ho rfl ?_ (by rw [List.size_toArray]; exact hZ) (Nat.zero_le _))
  refine wpAny_bind (seqEpoch_at ho1 rfl ?_)
  refine wpAny_bind (wpAny_newTuple ?_ (by show vs.length ≤ _; exact hZ))
  refine wpAny_bind (wpAny_newList ?_ (Nat.zero_le _))
  refine wpAny_holding ?_
  have hfr : H (s.heap.objs.size + 1) = none := I.hok.fresh (Nat.le_succ _)
  have fk : FpOk X pins H (s.heap.objs.size + 1) := I.fpOk (Nat.le_succ _) hfr
  have I1 : Inv X pins σ H { s with heap := sortingHeap s.heap a vs } := I.turnedL (t' := s.toks) (ch := [a]) (fun b o hb e => sortingHeap_old (by simpa using hb) e) (fun b hb => by
    obtain rfl : b = a := by simpa using hb
    exact fa)
  have gk : (sortingHeap s.heap a vs).get? (s.heap.objs.size + 1) = some (seqObj "list" #[] 0) := by
    rw [← hkS]
    exact Heap.get?_push_size _ rfl
  have ga : (sortingHeap s.heap a vs).get? a = some (seqObj "list" #[] e1) := Heap.get?_push_of_some _ (Heap.get?_push_of_some _ ho1)
  have hka : s.heap.objs.size + 1 ≠ a := Nat.ne_of_gt (Nat.lt_succ_of_lt ha)
  show wpAny _ _ (ksk_rest a (.ref f) false vs.toArray e1 (.ref _)) P E { s with heap := sortingHeap s.heap a vs }
  rw [hkS]
  unfold ksk_rest
  refine wpAny_bind (wpAny_rule ?_)
  first
    | rw [List.forIn_toArray]
    | (rw [← Array.forIn_toList]; simp only [List.toList_toArray])
    | rw [← Array.forIn_toList]
  refine wpAny_bind (ksk_fold (fun j s' => KInv X pins σ H (s.heap.objs.size + 1) a e1 ds j s') vs 0 _ ⟨H, #[], 0, [], I1, fk, fa, gk, ga, Same.refl _, .nil, by rw [List.take_zero]; exact .nil⟩ ?step ?done)
  case step =>
    intro j x s' hx J
    rw [Nat.zero_add] at J ⊢
    have hj : j < vs.length := (List.getElem?_eq_some_iff.mp hx).1
    obtain ⟨d, hd⟩ : ∃ d, ds[j]? = some d := ⟨_, List.getElem?_eq_getElem (by omega)⟩
    obtain ⟨v, hv⟩ : ∃ v, ws[j]? = some v := ⟨_, List.getElem?_eq_getElem (by rw [rv.length]; exact hj)⟩
    obtain ⟨u, hu2, ru⟩ := rv.get hv
    rw [hx] at hu2
    obtain rfl : x = u := Option.some.inj hu2
    exact key_step F hr hb hd (by rw [hlen]; exact hZ) hka ru J (fun Hj sm => hsp Hj sm j v d hv hd) fun r s'' e J' => ⟨e, J'⟩
  case done =>
    rintro s' ⟨Hj, kA, e, zs, I2, fk2, fa2, gk2, ga2, sm, rz, rd⟩
    rw [Nat.zero_add, List.take_of_length_le (by omega)] at rd
    have hk' : EachIs (fun u d => ∃ as, Reads s'.heap u d as) kA.toList ds := Dp_each I2 rd rz
    have hsz : kA.size = vs.length := by rw [← Array.length_toList, ← Paired.length rz, DpAll_len rd, hlen]
    refine wpAny_bind (listItems_at gk2 rfl ?_)
    obtain ⟨G, g1, g2⟩ := restrict s'.heap fun b => decide (b ≠ s.heap.objs.size + 1)
    have kp : KeepsBut a G s'.heap := fun b o _ e => by
      by_cases q : b = s.heap.objs.size + 1
      · rw [q, g2 _ (by simp)] at e
        cases e
      · rw [← g1 b (by simpa using q)]
        exact e
    refine keyH_end (κ := dataKind s'.heap ds) (h₁ := G) kp (g2 _ (by simp)) gk2 ga2 hka (SortsAt.data hk' hal hsk hu) hsz hZ fun h3 tk3 c k3 n3 => ?_
    have I3 : Inv X pins σ Hj { s' with heap := h3, toks := tk3 } := I2.turnedL (t' := tk3) (ch := [s.heap.objs.size + 1, a]) (fun b o hb e => by
      have hb1 : b ≠ s.heap.objs.size + 1 := fun z => hb (by simp [z])
      have hb2 : b ≠ a := fun z => hb (by simp [z])
      exact k3 b o hb2 (by rw [g1 b (by simpa using hb1)]; exact e)) fun b hb => by
      rcases List.mem_cons.mp hb with rfl | hb
      · exact fk2
      · obtain rfl : b = a := by simpa using hb
        exact fa2
    have hws : ws.length = ds.length := by rw [rv.length, hlen]
    have hmap : (ws.zip ds).map Prod.snd = ds := List.map_snd_zip (by omega)
    have ko : KeyedOut false ((ws.zip ds).map Prod.snd) vs (sortVals (dataKind s'.heap ds) false kA.toList vs) := by
      rw [hmap]
      exact ⟨s'.heap, kA.toList, hal, rfl, hk'⟩
    have er := keyedOut_each Prod.snd ko (Vals_each rv hws)
    refine h _ Hj _ c I3 fa2 sm n3 (sortVals_length false (by rw [Array.length_toList]; exact hsz)) ?_
    have conv : ∀ {us : List Value} {bs : List (V × PyData)}, EachIs (fun u (x : V × PyData) => RelV x.1 u) us bs → Vals (bs.map Prod.fst) us := by
      intro us bs e
      induction e with
      | nil => exact .nil
      | cons h t ih => exact .cons h ih
    exact conv er
/-- what the sort asks of key, items and their keys -/
def SKey (X : Cx) (sp : Sp) (H : Hp) (ws : List V) (ds : List PyData) : Prop :=
  ds.length = ws.length ∧ AllAlike ds ∧ Sortable ds ∧ (∀ d, d ∈ ds → d.depth ≤ 40) ∧ ∀ Hj, Same H Hj → ∀ (j : Nat) v d, ws[j]? = some v → ds[j]? = some d → sp [v] Hj (fun y H' => Same Hj H' ∧ Dp X.K H' y d) E0
def sortedBy (ws : List V) (ds : List PyData) : List V := ((ws.zip ds).mergeSort (dataLe false Prod.snd)).map Prod.fst
theorem sortedBy_perm {ws : List V} {ds : List PyData} (h : ds.length = ws.length) : (sortedBy ws ds).Perm ws := by
  have e : (ws.zip ds).map Prod.fst = ws := List.map_fst_zip (by omega)
  have p := (List.mergeSort_perm (ws.zip ds) (dataLe false Prod.snd)).map Prod.fst
  rw [e] at p
  exact p
/-- sorted(d, key=f) -/
theorem cr_sortedF (hcalm : X.calm = true) (F : FnOk X.prog X.w X.K X.mg X.base L2.CX0 k f fd [p1] sp) (hr : Room (k + 2) X.A) (hb : Binds X.K fd [p1] []) (hu : X.A.units + 42 < cLine) :
    CallRK X (.builtin "sorted") [Str.ofString "key"] (fun vs zs H Q => ∃ a xs ep ds, vs = [.ref a] ∧ zs = [.ref f] ∧ H a = some (GO X.w a xs ep) ∧ SKey X sp H (xs.map fun r => r.2.1) ds ∧
      ∀ (H' : Hp) (p : Addr), Same H H' → H' p = none → Q (.ref p) (upd H' p (.lst (sortedBy (xs.map fun r => r.2.1) ds)))) := by
  intro pins s σ H vs zs us wz Q I r rz h
  obtain ⟨a, xs, ep, ds, rfl, rfl, e, ⟨q1, q2, q3, q4, q5⟩, q⟩ := h
  obtain rfl := Vals.ref1 r
  obtain rfl := Vals.ref1 rz
  obtain ⟨z, n, m, o, es, ws, ho, hc, hd, rr, he⟩ := Inv.gd I e
  have hl := rel_len rr he
  refine call_function_entry_kw kind_sorted plain_sorted entry_sorted (ksk_s1 _ _) ?_
  unfold Builtin.«sorted»
  refine wpAny_bind (m := checkCount "sorted" 1 1 _) (wpAny_pure ?_)
  refine wpAny_bind (PySem.W.kdu_collect (A := X.A.in1) (KdlSrc.rawDict (es := es) (ep := ep) m) (I.ok.hd hcalm) ⟨o, ho, hc, hd⟩ (by rw [hl]; exact z) fun h' tk acc hk hacc => ?_)
  have hv : Vals (xs.map fun r => r.2.1) acc.toList := keys_gather (n := 0) (w := X.w) rr (by rw [Array.length_toList, hacc.1, hl]) (fun j u hj => by
    obtain ⟨hi, e⟩ := hacc.2 j u (by rw [← Array.getElem?_toList]; exact hj)
    exact ⟨_, by rw [Nat.zero_add, Array.getElem?_eq_getElem hi], e⟩) fun j => by rw [Nat.zero_add]; exact ent_at he j
  have hal : acc.toList.length = xs.length := by rw [Array.length_toList, hacc.1, hl]
  have hz : acc.toList.length ≤ sizeLine := by rw [hal]; exact z
  have I1 : Inv X pins σ H { s with heap := h', toks := tk } := I.kept hk
  refine wpAny_bind (wpAny_newList ?_ hz)
  have hoL : (h'.push (seqObj "list" acc.toList.toArray 0)).get? h'.objs.size = some (seqObj "list" acc.toList.toArray 0) := Heap.get?_push_size _ rfl
  have I2 : Inv X pins σ H { s with heap := h'.push (seqObj "list" acc.toList.toArray 0), toks := tk } := I1.kept (t' := tk) fun b o e => Heap.get?_push_of_some _ e
  have fa : FpOk X pins H h'.objs.size := I1.fpOk (Nat.le_refl _) (I1.hok.fresh (Nat.le_refl _))
  show wpAny _ _ _ _ _ { s with heap := h'.push (seqObj "list" acc.toList.toArray 0), toks := tk }
  refine wpAny_bind (wpAny_holding (wpAny_call_entry_kw slot_list_sort ⟨_, hoL, rfl⟩ entry_list_sort ?_ (ksk_l1 _ _)))
  show wpAny _ X.A.in1.in1 (Builtin.«list.sort» ⟨[.ref h'.objs.size], [(Str.ofString "key", .ref f)]⟩) _ _ _
  rw [ksk_t1]
  refine key_tree_g F hr hb I2 fa hoL hv (by rw [q1, List.length_map, hal]) hz q2 q3 (fun d hd => by have := q4 d hd; omega) q5 fun s3 Hj out c I3 fa3 sm g3 hlo ro => ⟨_, rfl, wpAny_pure ⟨_, rfl, ?_⟩⟩
  have hlen : (sortedBy (xs.map fun r => r.2.1) ds).length ≤ sizeLine := by
    rw [(sortedBy_perm q1).length_eq, List.length_map]
    exact z
  obtain ⟨G, u1, u2⟩ := restrict s3.heap fun b => decide (b ≠ h'.objs.size)
  obtain ⟨f0, f1, _, f3, f4, f5⟩ := id fa3
  have I5 : Inv X pins σ Hj { s3 with heap := G, toks := s3.toks } := I3.turned (t' := s3.toks) (it := h'.objs.size) (fun b o hb e => by rw [u1 b (by simpa using hb)]; exact e) f0 f1 f3 f4 f5
  have I4 : Inv X pins σ (upd Hj h'.objs.size (.lst (sortedBy (xs.map fun r => r.2.1) ds))) s3 :=
    Inv.laidN (s := { s3 with heap := G, toks := s3.toks }) (h' := s3.heap) (t' := s3.toks) I5 (fun b u e => by
      by_cases hb : b = h'.objs.size
      · rw [hb, u2 _ (by simp)] at e
        cases e
      · rw [← u1 b (by simpa using hb)]
        exact e) (u2 _ (by simp)) fa3.1 (show ObjOk X.prog X.w _ _ _ (.lst (sortedBy (xs.map fun r => r.2.1) ds)) from ⟨hlen, out, c, ro, g3⟩)
  exact ⟨.ref h'.objs.size, _, I4, rfl, q Hj _ sm fa3.1⟩
end
end GX
end

section
set_option Elab.async false
set_option linter.all false
set_option maxRecDepth 100000
set_option maxHeartbeats 4000000
/-! letters, rows, machines' tables as data; where they stand. -/
namespace GX
open PySem PySem.Spec PyProof.Rows L2
/-- a datum that may be a key -/
inductive KD where
  | non | bl (b : Bool) | int (i : Int) | str (x : Str) | tup (ds : List KD)
mutual
def nk : KD → NK
  | .non => .none
  | .bl b => .num (if b = true then 1 else 0)
  | .int i => .num i
  | .str x => .text x
  | .tup ds => .tup (nks ds)
def nks : List KD → List NK
  | [] => []
  | d :: ds => nk d :: nks ds
end
theorem nks_map : ∀ ds : List KD, nks ds = ds.map nk
  | [] => rfl
  | d :: ds => by rw [nks, nks_map ds]; rfl
mutual
inductive KV (H : Hp) : KD → V → Prop
  | non : KV H .non .non
  | bl (b : Bool) : KV H (.bl b) (.bl b)
  | int (i : Int) : KV H (.int i) (.int i)
  | str (x : Str) : KV H (.str x) (.str x)
  | tup {a : Addr} {vs : List V} {ds : List KD} : H a = some (.tup vs) → KVs H ds vs → KV H (.tup ds) (.ref a)
inductive KVs (H : Hp) : List KD → List V → Prop
  | nil : KVs H [] []
  | cons {d : KD} {v : V} {ds : List KD} {vs : List V} : KV H d v → KVs H ds vs → KVs H (d :: ds) (v :: vs)
end
/-- the tuples stand as they stood -/
def Tups (H H' : Hp) : Prop := ∀ b xs, H b = some (.tup xs) → H' b = some (.tup xs)
theorem Tups.refl (H : Hp) : Tups H H := fun _ _ h => h
theorem Tups.trans {A B C : Hp} (h : Tups A B) (g : Tups B C) : Tups A C := fun b xs e => g b xs (h b xs e)
theorem Tups.of_same {H H' : Hp} (h : Same H H') : Tups H H' := fun b xs e => h b _ e
mutual
theorem KV.mono {H H' : Hp} (t : Tups H H') : ∀ {d : KD} {v : V}, KV H d v → KV H' d v
  | _, _, .non => .non
  | _, _, .bl b => .bl b
  | _, _, .int i => .int i
  | _, _, .str x => .str x
  | _, _, .tup h r => .tup (t _ _ h) (KVs.mono t r)
theorem KVs.mono {H H' : Hp} (t : Tups H H') : ∀ {ds : List KD} {vs : List V}, KVs H ds vs → KVs H' ds vs
  | _, _, .nil => .nil
  | _, _, .cons h r => .cons (h.mono t) (KVs.mono t r)
end
mutual
theorem KV.key {H : Hp} : ∀ {d : KD} {v : V}, KV H d v → KeyIs H (nk d) v
  | _, _, .non => .none
  | _, _, .bl b => .bool b rfl
  | _, _, .int i => .int i
  | _, _, .str x => .text x
  | _, _, .tup h r => .tup h (KVs.keys r)
theorem KVs.keys {H : Hp} : ∀ {ds : List KD} {vs : List V}, KVs H ds vs → KeysAre H (nks ds) vs
  | _, _, .nil => .nil
  | _, _, .cons h r => .cons h.key (KVs.keys r)
end
theorem KVs.len {H : Hp} : ∀ {ds : List KD} {vs : List V}, KVs H ds vs → ds.length = vs.length
  | _, _, .nil => rfl
  | _, _, .cons _ r => congrArg (· + 1) (KVs.len r)
theorem KVs.at {H : Hp} : ∀ {ds : List KD} {vs : List V} {i : Nat} {v : V}, KVs H ds vs → vs[i]? = some v → ∃ d, ds[i]? = some d ∧ KV H d v
  | _, _, _, _, .nil, h => by simp at h
  | _, _, 0, _, .cons h r, e => ⟨_, rfl, by obtain rfl := Option.some.inj e; exact h⟩
  | _, _, i + 1, _, .cons h r, e => KVs.at (i := i) r (by simpa using e)
theorem KVs.at' {H : Hp} : ∀ {ds : List KD} {vs : List V} {i : Nat} {d : KD}, KVs H ds vs → ds[i]? = some d → ∃ v, vs[i]? = some v ∧ KV H d v
  | _, _, _, _, .nil, h => by simp at h
  | _, _, 0, _, .cons h r, e => ⟨_, rfl, by obtain rfl := Option.some.inj e; exact h⟩
  | _, _, i + 1, _, .cons h r, e => KVs.at' (i := i) r (by simpa using e)
theorem KVs.snoc {H : Hp} {d : KD} {v : V} : ∀ {ds : List KD} {vs : List V}, KVs H ds vs → KV H d v → KVs H (ds ++ [d]) (vs ++ [v])
  | _, _, .nil, h => .cons h .nil
  | _, _, .cons g r, h => .cons g (KVs.snoc r h)
theorem KVs.app {H : Hp} : ∀ {ds es : List KD} {vs us : List V}, KVs H ds vs → KVs H es us → KVs H (ds ++ es) (vs ++ us)
  | _, _, _, _, .nil, h => h
  | _, _, _, _, .cons g r, h => .cons g (KVs.app r h)
/-- not too deep -/
def Flat (d : KD) : Prop := (nk d).depth ≤ 8 ∧ ∀ ds, d = .tup ds → ds.length ≤ 1000 ∧ ds ≠ []
theorem KV.at_ {H : Hp} {d : KD} {v : V} (h : KV H d v) (f : Flat d) : KeyAt H (nk d) v := ⟨h.key, f.1⟩
def kty : KD → String
  | .non => "NoneType"
  | .bl _ => "bool"
  | .int _ => "int"
  | .str _ => "str"
  | .tup _ => "tuple"
theorem KV.ty {K : PySem.W.Frag} {w : World} {H : Hp} {d : KD} {v : V} (h : KV H d v) : TyG K w H v (.type (kty d)) := by
  cases h with
  | non => exact .base (.base .non)
  | bl b => exact .base (.base (.bl b))
  | int i => exact .base (.base (.int i))
  | str x => exact .base (.base (.str x))
  | tup h r => exact .base (.base (.tup h))

/-! ### letters -/
def goodSign : KD → Bool
  | .non => true
  | .int _ => true
  | .str x => decide (x = ("lost" : Str))
  | _ => false
def goodLetter : KD → Bool
  | .tup ds => ds.all goodSign
  | _ => false
def signPair : KD → Int × Int
  | .non => (0, 0)
  | .int i => (2, i)
  | _ => (1, 0)

/-! ### rows: letter, digit, target -/
abbrev Row := List (KD × KD × Int)
abbrev Rows := List (Int × Row)
def EntAt (H : Hp) (x : GRow) (r : KD × KD × Int) : Prop := x.1 = nk r.1 ∧ KV H r.1 x.2.1 ∧ KV H (.tup [r.2.1, .int r.2.2]) x.2.2
def RowAt (w : World) (H : Hp) (a : Addr) (row : Row) : Prop := ∃ xs ep, H a = some (GO w a xs ep) ∧ Paired (EntAt H) xs row
def RowOk (row : Row) : Prop := (row.map fun r => nk r.1).Nodup ∧ (∀ r ∈ row, Flat r.1 ∧ (r.2.1 = .non ∨ ∃ i, r.2.1 = .int i)) ∧ row.length ≤ 1000
def StAt (x : GRow) (r : Int × Row) (ra : Addr) : Prop := x = (.num r.1, .int r.1, .ref ra)
/-- the dict's own entries -/
def rowsG : Rows → List Addr → List GRow
  | r :: rs, ra :: as => (.num r.1, .int r.1, .ref ra) :: rowsG rs as
  | _, _ => []
/-- rows stand at a, each row's dict at its place in as -/
def RowsIn (w : World) (H : Hp) (a : Addr) (as : List Addr) (rows : Rows) : Prop :=
  (∃ ep, H a = some (GO w a (rowsG rows as) ep)) ∧ Paired (fun ra (r : Int × Row) => RowAt w H ra r.2) as rows ∧ (a :: as).Nodup
def RowsOk (rows : Rows) : Prop := (rows.map (·.1)).Nodup ∧ (∀ r ∈ rows, RowOk r.2) ∧ rows.length ≤ 1000
/-- all the dicts are new against H0 -/
def RowsAt (w : World) (H0 H : Hp) (a : Addr) (rows : Rows) : Prop := ∃ as, RowsIn w H a as rows ∧ ∀ b ∈ a :: as, H0 b = none

theorem EntAt.mono {H H' : Hp} (t : Tups H H') {x : GRow} {r : KD × KD × Int} (h : EntAt H x r) : EntAt H' x r := ⟨h.1, h.2.1.mono t, h.2.2.mono t⟩
theorem ents_mono {H H' : Hp} (t : Tups H H') {xs : List GRow} {row : Row} (h : Paired (EntAt H) xs row) : Paired (EntAt H') xs row := h.mono fun _ _ e => e.mono t
theorem RowAt.keep {w : World} {H H' : Hp} {a : Addr} {row : Row} (h : RowAt w H a row) (t : Tups H H') (e : ∀ o, H a = some o → H' a = some o) : RowAt w H' a row := by
  obtain ⟨xs, ep, g, p⟩ := h
  exact ⟨xs, ep, e _ g, ents_mono t p⟩
theorem Paired.impM {α β : Type} {F G : α → β → Prop} : ∀ {l : List α} {m : List β}, Paired F l m → (∀ a ∈ l, ∀ b ∈ m, F a b → G a b) → Paired G l m
  | _, _, .nil, _ => .nil
  | _, _, .cons h t, g => .cons (g _ List.mem_cons_self _ List.mem_cons_self h) (Paired.impM t fun a ha b hb => g a (List.mem_cons_of_mem _ ha) b (List.mem_cons_of_mem _ hb))
theorem RowsIn.keep {w : World} {H H' : Hp} {a : Addr} {as : List Addr} {rows : Rows} (h : RowsIn w H a as rows) (t : Tups H H') (e : ∀ b ∈ a :: as, ∀ o, H b = some o → H' b = some o) : RowsIn w H' a as rows := by
  obtain ⟨⟨ep, g⟩, p, n⟩ := h
  exact ⟨⟨ep, e a List.mem_cons_self _ g⟩, Paired.impM p fun b hb r _ q => q.keep t (e b (List.mem_cons_of_mem _ hb)), n⟩
theorem RowsAt.keep {w : World} {H0 H H' : Hp} {a : Addr} {rows : Rows} (h : RowsAt w H0 H a rows) (t : Tups H H') (e : ∀ b o, H0 b = none → H b = some o → H' b = some o) : RowsAt w H0 H' a rows := by
  obtain ⟨as, h, f⟩ := h
  exact ⟨as, h.keep t fun b hb o => e b o (f b hb), f⟩
theorem RowsAt.same {w : World} {H0 H H' : Hp} {a : Addr} {rows : Rows} (h : RowsAt w H0 H a rows) (s : Same H H') : RowsAt w H0 H' a rows := h.keep (.of_same s) fun b o _ q => s b o q
theorem RowsAt.older {w : World} {H0 H1 H : Hp} {a : Addr} {rows : Rows} (h : RowsAt w H1 H a rows) (e : ∀ b, H1 b = none → H0 b = none) : RowsAt w H0 H a rows := by
  obtain ⟨as, h, f⟩ := h
  exact ⟨as, h, fun b hb => e b (f b hb)⟩

theorem Paired.at {α β : Type} {F : α → β → Prop} : ∀ {l : List α} {m : List β} {i : Nat} {a : α}, Paired F l m → l[i]? = some a → ∃ b, m[i]? = some b ∧ F a b
  | _, _, _, _, .nil, h => by simp at h
  | _, _, 0, _, .cons h t, e => ⟨_, rfl, by obtain rfl := Option.some.inj e; exact h⟩
  | _, _, i + 1, _, .cons h t, e => Paired.at (i := i) t (by simpa using e)
theorem Paired.at' {α β : Type} {F : α → β → Prop} : ∀ {l : List α} {m : List β} {i : Nat} {b : β}, Paired F l m → m[i]? = some b → ∃ a, l[i]? = some a ∧ F a b
  | _, _, _, _, .nil, h => by simp at h
  | _, _, 0, _, .cons h t, e => ⟨_, rfl, by obtain rfl := Option.some.inj e; exact h⟩
  | _, _, i + 1, _, .cons h t, e => Paired.at' (i := i) t (by simpa using e)

/-! ### looking up -/
theorem getG_at {xs : List GRow} : ∀ {i : Nat} {x : GRow}, (xs.map (·.1)).Nodup → xs[i]? = some x → getG xs x.1 = some x.2.2 := by
  induction xs with
  | nil => intro i x _ h; simp at h
  | cons y xs ih =>
    intro i x n h
    rw [List.map_cons, List.nodup_cons] at n
    unfold getG
    rw [List.find?_cons]
    cases i with
    | zero =>
      obtain rfl : y = x := by simpa using h
      simp
    | succ i =>
      have h' : xs[i]? = some x := by simpa using h
      have hm : x.1 ∈ xs.map (·.1) := List.mem_map.mpr ⟨x, List.mem_of_getElem? h', rfl⟩
      have ne : ¬ y.1 = x.1 := fun e => n.1 (e ▸ hm)
      rw [decide_eq_false ne]
      exact ih n.2 h'
theorem getG_none {xs : List GRow} {k : NK} (h : k ∉ xs.map (·.1)) : getG xs k = none := by
  unfold getG
  have e : (xs.find? fun x => decide (x.1 = k)) = none := List.find?_eq_none.mpr fun x hx e => h (List.mem_map.mpr ⟨x, hx, by simpa using e⟩)
  rw [e]
  rfl
theorem getG_some {xs : List GRow} {k : NK} {v : V} (h : getG xs k = some v) : ∃ (i : Nat) (x : GRow), xs[i]? = some x ∧ x.1 = k ∧ x.2.2 = v := by
  unfold getG at h
  cases e : xs.find? fun x => decide (x.1 = k) with
  | none => rw [e] at h; cases h
  | some x =>
    rw [e] at h
    obtain ⟨i, hi⟩ := List.mem_iff_getElem?.mp (List.mem_of_find?_eq_some e)
    exact ⟨i, x, hi, by simpa using List.find?_some e, Option.some.inj h⟩
/-- a row's entry under a key -/
def rowGet (row : Row) (k : NK) : Option (KD × KD × Int) := row.find? fun r => decide (nk r.1 = k)
theorem ents_keys {H : Hp} : ∀ {xs : List GRow} {row : Row}, Paired (EntAt H) xs row → xs.map (·.1) = row.map fun r => nk r.1
  | _, _, .nil => rfl
  | _, _, .cons h t => by rw [List.map_cons, List.map_cons, h.1, ents_keys t]
theorem ents_get {H : Hp} {k : NK} : ∀ {xs : List GRow} {row : Row}, Paired (EntAt H) xs row → (∃ r v, rowGet row k = some r ∧ getG xs k = some v ∧ nk r.1 = k ∧ r ∈ row ∧ KV H (.tup [r.2.1, .int r.2.2]) v) ∨ (rowGet row k = none ∧ getG xs k = none)
  | _, _, .nil => .inr ⟨rfl, rfl⟩
  | _, _, .cons (a := x) (b := r) h t => by
    unfold rowGet getG
    rw [List.find?_cons, List.find?_cons, h.1]
    by_cases e : nk r.1 = k
    · rw [decide_eq_true e]
      exact .inl ⟨r, x.2.2, rfl, rfl, e, List.mem_cons_self, h.2.2⟩
    · rw [decide_eq_false e]
      rcases ents_get (k := k) t with ⟨r', v, h1, h2, h3, h4, h5⟩ | ⟨h1, h2⟩
      · exact .inl ⟨r', v, h1, h2, h3, List.mem_cons_of_mem _ h4, h5⟩
      · exact .inr ⟨h1, h2⟩
theorem ents_ok {H : Hp} {xs : List GRow} {row : Row} (p : Paired (EntAt H) xs row) (o : RowOk row) : KeysOk H xs := fun x hx => by
  obtain ⟨i, hi⟩ := List.mem_iff_getElem?.mp hx
  obtain ⟨r, hr, e⟩ := Paired.at p hi
  rw [e.1]
  exact e.2.1.at_ (o.2.1 r (List.mem_of_getElem? hr)).1
theorem ents_nodup {H : Hp} {xs : List GRow} {row : Row} (p : Paired (EntAt H) xs row) (o : RowOk row) : (xs.map (·.1)).Nodup := by rw [ents_keys p]; exact o.1
def rowsGet (rows : Rows) (s : Int) : Option Row := (rows.find? fun r => decide (r.1 = s)).map (·.2)
theorem rowsG_len : ∀ {rows : Rows} {as : List Addr}, as.length = rows.length → (rowsG rows as).length = rows.length
  | [], [], _ => rfl
  | _ :: rs, _ :: as, h => congrArg (· + 1) (rowsG_len (rows := rs) (as := as) (by simpa using h))
theorem rowsG_keys : ∀ {rows : Rows} {as : List Addr}, as.length = rows.length → (rowsG rows as).map (·.1) = rows.map fun r => NestedKey.num r.1
  | [], [], _ => rfl
  | _ :: rs, _ :: as, h => by
    rw [rowsG, List.map_cons, List.map_cons, rowsG_keys (rows := rs) (as := as) (by simpa using h)]
theorem rowsG_vals : ∀ {rows : Rows} {as : List Addr}, as.length = rows.length → (rowsG rows as).map (fun r => r.2.1) = (rows.map (·.1)).map V.int
  | [], [], _ => rfl
  | _ :: rs, _ :: as, h => by
    rw [rowsG, List.map_cons, List.map_cons, List.map_cons, rowsG_vals (rows := rs) (as := as) (by simpa using h)]
theorem rowsG_ok (H : Hp) : ∀ {rows : Rows} {as : List Addr}, KeysOk H (rowsG rows as)
  | [], _ => fun x hx => nomatch hx
  | _ :: _, [] => fun x hx => nomatch hx
  | r :: rs, ra :: as => fun x hx => by
    rcases List.mem_cons.mp hx with rfl | hx
    · exact KeyAt.int H r.1
    · exact rowsG_ok H x hx
theorem rowsG_nodup {rows : Rows} {as : List Addr} (hl : as.length = rows.length) (n : (rows.map (·.1)).Nodup) : ((rowsG rows as).map (·.1)).Nodup := by
  rw [rowsG_keys hl, show (rows.map fun r => NestedKey.num r.1) = (rows.map (·.1)).map NestedKey.num by rw [List.map_map]; rfl]
  exact n.map NestedKey.num fun a b h e => h (by cases e; rfl)
theorem rowsG_at : ∀ {rows : Rows} {as : List Addr} {i : Nat} {r : Int × Row} {ra : Addr}, rows[i]? = some r → as[i]? = some ra → (rowsG rows as)[i]? = some (.num r.1, .int r.1, .ref ra)
  | [], _, _, _, _, h, _ => by simp at h
  | _ :: _, [], _, _, _, _, h => by simp at h
  | r :: rs, ra :: as, 0, _, _, h, g => by
    obtain rfl := Option.some.inj h
    obtain rfl := Option.some.inj g
    rfl
  | r :: rs, ra :: as, i + 1, _, _, h, g => rowsG_at (rows := rs) (as := as) (i := i) (by simpa using h) (by simpa using g)
theorem rowsGet_at {rows : Rows} : ∀ {i : Nat} {r : Int × Row}, (rows.map (·.1)).Nodup → rows[i]? = some r → rowsGet rows r.1 = some r.2 := by
  induction rows with
  | nil => intro i x _ h; simp at h
  | cons y xs ih =>
    intro i x n h
    rw [List.map_cons, List.nodup_cons] at n
    unfold rowsGet
    rw [List.find?_cons]
    cases i with
    | zero =>
      obtain rfl : y = x := by simpa using h
      simp
    | succ i =>
      have h' : xs[i]? = some x := by simpa using h
      have hm : x.1 ∈ xs.map (·.1) := List.mem_map.mpr ⟨x, List.mem_of_getElem? h', rfl⟩
      have ne : ¬ y.1 = x.1 := fun e => n.1 (e ▸ hm)
      rw [decide_eq_false ne]
      exact ih n.2 h'
/-- what the dict of rows tells of a state -/
theorem rows_get {w : World} {H : Hp} {s : Int} : ∀ {rows : Rows} {as : List Addr}, Paired (fun ra (r : Int × Row) => RowAt w H ra r.2) as rows →
    (∃ row ra, rowsGet rows s = some row ∧ getG (rowsG rows as) (.num s) = some (.ref ra) ∧ ra ∈ as ∧ RowAt w H ra row ∧ (s, row) ∈ rows) ∨ (rowsGet rows s = none ∧ getG (rowsG rows as) (.num s) = none ∧ s ∉ rows.map (·.1))
  | _, _, .nil => .inr ⟨rfl, rfl, by simp⟩
  | _, _, .cons (a := ra) (b := r) h t => by
    unfold rowsGet getG
    rw [rowsG, List.find?_cons, List.find?_cons]
    by_cases e : r.1 = s
    · subst e
      rw [decide_eq_true rfl, decide_eq_true rfl]
      exact .inl ⟨r.2, ra, rfl, rfl, List.mem_cons_self, h, List.mem_cons_self⟩
    · rw [decide_eq_false e, decide_eq_false (by intro q; cases q; exact e rfl)]
      rcases rows_get (s := s) t with ⟨row, rb, h1, h2, h3, h4, h5⟩ | ⟨h1, h2, h3⟩
      · exact .inl ⟨row, rb, h1, h2, List.mem_cons_of_mem _ h3, h4, List.mem_cons_of_mem _ h5⟩
      · refine .inr ⟨h1, h2, ?_⟩
        rw [List.map_cons, List.mem_cons]
        rintro (q | q)
        · exact e q.symm
        · exact h3 q

theorem putG_new {xs : List GRow} {k : NK} {kv v : V} (h : k ∉ xs.map (·.1)) : putG xs k kv v = xs ++ [(k, kv, v)] := by
  unfold putG
  rw [if_neg]
  intro e
  obtain ⟨x, hx, e⟩ := List.any_eq_true.mp e
  exact h (List.mem_map.mpr ⟨x, hx, by simpa using e⟩)
theorem take_keys {xs : List GRow} {i : Nat} {r : GRow} (n : (xs.map (·.1)).Nodup) (h : xs[i]? = some r) : r.1 ∉ (xs.take i).map (·.1) := by
  intro hm
  obtain ⟨x, hx, e⟩ := List.mem_map.mp hm
  obtain ⟨j, hj⟩ := List.mem_iff_getElem?.mp hx
  rw [List.getElem?_take] at hj
  split at hj
  · rename_i hlt
    have e1 : (xs.map (·.1))[j]? = some r.1 := by rw [List.getElem?_map, hj, ← e]; rfl
    have e2 : (xs.map (·.1))[i]? = some r.1 := by rw [List.getElem?_map, h]; rfl
    have hl : i < (xs.map (·.1)).length := (List.getElem?_eq_some_iff.mp e2).1
    exact absurd ((List.getElem?_inj (by omega) n).mp (e1.trans e2.symm)) (by omega)
  · cases hj
theorem take_put {xs : List GRow} {i : Nat} {r : GRow} (n : (xs.map (·.1)).Nodup) (h : xs[i]? = some r) : putG (xs.take i) r.1 r.2.1 r.2.2 = xs.take (i + 1) := by
  rw [putG_new (take_keys n h), List.take_add_one, h]
  rfl

theorem rowsG_snoc {r : Int × Row} {ra : Addr} : ∀ {rs : Rows} {as : List Addr}, as.length = rs.length → rowsG (rs ++ [r]) (as ++ [ra]) = rowsG rs as ++ [(.num r.1, .int r.1, .ref ra)]
  | [], [], _ => rfl
  | _ :: rs, _ :: as, h => by
    rw [List.cons_append, List.cons_append, rowsG, rowsG, rowsG_snoc (rs := rs) (as := as) (by simpa using h)]
    rfl
theorem rowsG_put {rs : Rows} {as : List Addr} {r : Int × Row} {ra : Addr} (hl : as.length = rs.length) (n : r.1 ∉ rs.map (·.1)) : putG (rowsG rs as) (.num r.1) (.int r.1) (.ref ra) = rowsG (rs ++ [r]) (as ++ [ra]) := by
  rw [rowsG_snoc hl, putG_new]
  rw [rowsG_keys hl]
  intro h
  obtain ⟨x, hx, e⟩ := List.mem_map.mp h
  exact n (List.mem_map.mpr ⟨x, hx, by injection e⟩)
theorem take_fresh {rows : Rows} {i : Nat} {r : Int × Row} (n : (rows.map (·.1)).Nodup) (h : rows[i]? = some r) : r.1 ∉ (rows.take i).map (·.1) := by
  intro hm
  obtain ⟨x, hx, e⟩ := List.mem_map.mp hm
  obtain ⟨j, hj⟩ := List.mem_iff_getElem?.mp hx
  rw [List.getElem?_take] at hj
  split at hj
  · rename_i hlt
    have e1 : (rows.map (·.1))[j]? = some r.1 := by rw [List.getElem?_map, hj, ← e]; rfl
    have e2 : (rows.map (·.1))[i]? = some r.1 := by rw [List.getElem?_map, h]; rfl
    have hl : i < (rows.map (·.1)).length := (List.getElem?_eq_some_iff.mp e2).1
    exact absurd ((List.getElem?_inj (by omega) n).mp (e1.trans e2.symm)) (by omega)
  · cases hj
/-- one more row is laid into a dict of rows that is being built at D -/
theorem rows_step {w : World} {H H1 H2 : Hp} {D p : Addr} {bs : List Addr} {rs : Rows} {r : Int × Row} {ep : Nat} (sm : Same H H1) (hD : H D = none) (hDi : ∃ o, H1 D = some o) (pb : Paired (fun ra (r : Int × Row) => RowAt w H1 ra r.2) bs rs) (nb : (D :: bs).Nodup) (fb : ∀ b ∈ bs, H b = none)
    (sm2 : ∀ b o, b ≠ D → H1 b = some o → H2 b = some o) (np : H1 p = none) (hp : RowAt w H2 p r.2) (n : r.1 ∉ rs.map (·.1)) (e : H2 D = some (GO w D (putG (rowsG rs bs) (.num r.1) (.int r.1) (.ref p)) ep)) (hT : Tups H1 H2) :
    Same H H2 ∧ (∃ ep, H2 D = some (GO w D (rowsG (rs ++ [r]) (bs ++ [p])) ep)) ∧ Paired (fun ra (r : Int × Row) => RowAt w H2 ra r.2) (bs ++ [p]) (rs ++ [r]) ∧ (D :: (bs ++ [p])).Nodup ∧ ∀ b ∈ bs ++ [p], H b = none := by
  obtain ⟨o, hDi⟩ := hDi
  have nbD : ∀ b ∈ bs, b ≠ D := fun b hb z => (List.nodup_cons.mp nb).1 (z ▸ hb)
  have hasB : ∀ b ∈ bs, ∃ o, H1 b = some o := fun b hb => by
    obtain ⟨i, hi⟩ := List.mem_iff_getElem?.mp hb
    obtain ⟨r, _, xs, ep, g, _⟩ := Paired.at pb hi
    exact ⟨_, g⟩
  refine ⟨fun b u h => sm2 b u (ne_of_none h hD) (sm b u h), ⟨ep, by rw [e, rowsG_put (Paired.length pb) n]⟩, ?_, ?_, fun b hb => ?_⟩
  · refine Paired.snoc ?_ hp
    exact Paired.impM pb fun b hb r _ q => q.keep hT fun o g => sm2 b o (nbD b hb) g
  · rw [← List.cons_append, List.nodup_append]
    refine ⟨nb, by simp, fun x hx y hy z => ?_⟩
    obtain rfl : y = p := by simpa using hy
    subst z
    rcases List.mem_cons.mp hx with rfl | hx
    · rw [hDi] at np; cases np
    · obtain ⟨o, g⟩ := hasB x hx
      rw [g] at np; cases np
  · rcases List.mem_append.mp hb with hb | hb
    · exact fb b hb
    · obtain rfl : b = p := by simpa using hb
      exact sm.free np

theorem KV.two {H : Hp} {d1 d2 : KD} {v : V} (h : KV H (.tup [d1, d2]) v) : ∃ p v1 v2, v = .ref p ∧ H p = some (.tup [v1, v2]) ∧ KV H d1 v1 ∧ KV H d2 v2 := by
  cases h with
  | tup h r =>
    cases r with
    | cons h1 r =>
      cases r with
      | cons h2 r =>
        cases r
        exact ⟨_, _, _, rfl, h, h1, h2⟩
theorem KV.toInt {H : Hp} {i : Int} {v : V} (h : KV H (.int i) v) : v = .int i := by cases h; rfl

theorem take_fresh' {α β : Type} {f : α → β} {l : List α} {i : Nat} {x : α} (n : (l.map f).Nodup) (h : l[i]? = some x) : f x ∉ (l.take i).map f := by
  intro hm
  obtain ⟨y, hy, e⟩ := List.mem_map.mp hm
  obtain ⟨j, hj⟩ := List.mem_iff_getElem?.mp hy
  rw [List.getElem?_take] at hj
  split at hj
  · rename_i hlt
    have e1 : (l.map f)[j]? = some (f x) := by rw [List.getElem?_map, hj, ← e]; rfl
    have e2 : (l.map f)[i]? = some (f x) := by rw [List.getElem?_map, h]; rfl
    have hl : i < (l.map f).length := (List.getElem?_eq_some_iff.mp e2).1
    exact absurd ((List.getElem?_inj (by omega) n).mp (e1.trans e2.symm)) (by omega)
  · cases hj
theorem RowOk.perm {r1 r2 : Row} (p : r1.Perm r2) (h : RowOk r2) : RowOk r1 :=
  ⟨(p.map _).nodup_iff.mpr h.1, fun r hr => h.2.1 r (p.subset hr), by rw [p.length_eq]; exact h.2.2⟩
end GX
end

section
set_option Elab.async false
set_option linter.all false
set_option maxRecDepth 100000
set_option maxHeartbeats 4000000
/-! rules in short, for printed terms. -/
namespace GX
open PySem PySem.Spec PyProof.Rows L2 L2H
section
variable {X : Cx}
theorem pgn (i : Nat) {x : Str} {pos : Pos} (nd : X.N.Nodup) (hi : X.N[i]? = some x := by rfl) (hx : Loc X.env.scope x := by first | exact .inl rfl | exact .inr rfl)
    (hf : X.fn x = true ∨ X.env.scope.names.lookup x = some .local := by first | exact .inl rfl | exact .inr rfl) : PG X (.Name x pos) (gName i) := pg_name nd hi hx hf
theorem psn (i : Nat) {x : Str} {e : Expr} {te : TE} {pos pos' : Pos} (nd : X.N.Nodup) (he : PE X e te) (hi : X.N[i]? = some x := by rfl) (hx : Loc X.env.scope x := by first | exact .inl rfl | exact .inr rfl) (hs : swapsWith e (some (.Name x pos')) pos.line X.env = pure false := by rfl)
    (hf : X.fn x = true ∨ X.env.scope.names.lookup x = some .local := by first | exact .inl rfl | exact .inr rfl) : PS X (.Assign [.Name x pos'] e pos) (tAsg te (gName i)) := ps_set nd hi hx he hs hf
end
theorem hu1 {k : Nat} {A : Around} (hr : Room k A) : A.units + 1 < cLine := by have := hr.un; omega
theorem hu9 {k : Nat} {A : Around} (hr : Room k A) : A.units + 9 < cLine := by have := hr.un; omega
theorem hu14 {k : Nat} {A : Around} (hr : Room k A) : A.units + 14 < cLine := by have := hr.un; omega
theorem hu42 {k : Nat} {A : Around} (hr : Room k A) : A.units + 42 < cLine := by have := hr.un; omega
theorem hu64 {k : Nat} {A : Around} (hr : Room k A) : A.units + 64 < cLine := by have := hr.un; omega
theorem hu65 {k : Nat} {A : Around} (hr : Room k A) : A.units + 65 < cLine := by have := hr.un; omega
theorem hrH {k : Nat} {A : Around} {h : Option Value} (r : Room k A) : RoomH k (A.mark h) := roomH_mark r h
/-- a def of the program under its name: it keeps the promise -/
def Has (P : Program) (w : World) (K : PySem.W.Frag) (mg : Str → Option Value) (base : Heap) (CX : CXT) (k : Nat) (x : Str) (ps : List Str) (sp : Sp) : Prop :=
  ∃ f fd, mg x = some (.ref f) ∧ PySem.W.keepIn K (.ref f) = true ∧ Binds K fd ps [] ∧ FnOk P w K mg base CX k f fd ps sp
/-- a method of the class at C -/
def HasM (P : Program) (w : World) (K : PySem.W.Frag) (mg : Str → Option Value) (base : Heap) (CX : CXT) (k : Nat) (C : Addr) (m : Str) (ps : List Str) (sp : Sp) : Prop :=
  ∃ f fd, Cls K C ∧ Meth K C m f ∧ Binds K fd ps [] ∧ FnOk P w K mg base CX k f fd ps sp
def HasE (P : Program) (w : World) (K : PySem.W.Frag) (mg : Str → Option Value) (base : Heap) (CX : CXT) (k : Nat) (x : Str) (ps : List Str) (sp : SpE) : Prop :=
  ∃ f fd, mg x = some (.ref f) ∧ PySem.W.keepIn K (.ref f) = true ∧ Binds K fd ps [] ∧ FnE P w K mg base CX k f fd ps sp
section
variable {X : Cx} {CX : CXT} {k : Nat} {C : Addr} {ps : List Str} {sp : Sp} {x m : Str} {p pos apos : Pos} {e o : Expr} {es : List Expr} {ta : TE} {t : TA}
theorem pe_hc (F : Has X.prog X.w X.K X.mg X.base L2.CX0 k x ps sp) (hr : Room k X.A) (hg : Gl X x) (ha : PA X (e :: es) t) (hdb : (x == ("__debug__" : Str)) = false := by decide) (he : starEach (e :: es) X.env = (false, eval e X.env) :: starEach es X.env := by rfl)
    (hpl : (backTo pos (starEach es X.env)).any (·.1) = false := by rfl) : PE X (.Call (.Name x p) (e :: es) [] pos) (tCall sp [] L2.E0 t) := by
  obtain ⟨f, fd, hm, hk, hb, F⟩ := F
  exact pe_call F hr hg hm hk hb .nil pass0 ha hdb he hpl
theorem pe_hc0 (F : Has X.prog X.w X.K X.mg X.base L2.CX0 k x ps sp) (hr : Room k X.A) (hg : Gl X x) (hdb : (x == ("__debug__" : Str)) = false := by decide) : PE X (.Call (.Name x p) [] [] pos) (tCall sp [] L2.E0 tNil) := by
  obtain ⟨f, fd, hm, hk, hb, F⟩ := F
  exact pe_call0 F hr hg hm hk hb .nil pass0 hdb
theorem pe_hm {pl : Sem Bool} (F : HasM X.prog X.w X.K X.mg X.base L2.CX0 k C m ps sp) (hr : Room k X.A) (he : PE X o ta) (ha : PA X (e :: es) t)
    (hst : starEach (e :: es) X.env = (false, eval e X.env) :: starEach es X.env := by rfl) (hpl : (backTo pos (starEach es X.env)).any (·.1) = false := by rfl)
    (ht : eval (.Call (.Attribute o m apos) (e :: es) [] pos) X.env = (do
      let ov ← eval o X.env
      standAt apos.atName
      let (f, first) ← holding [ov] (getMethod ov m pl)
      callWith pos f first (backTo pos (starEach (e :: es) X.env)) (backToKw pos (keywordEach [] X.env))) := by rfl) :
    PE X (.Call (.Attribute o m apos) (e :: es) [] pos) (tMeth C m sp [] L2.E0 ta t) := by
  obtain ⟨f, fd, c, hm, hb, F⟩ := F
  exact pe_meth he c hm F hr hb .nil pass0 ha hst hpl ht
theorem pe_hm0 {pl : Sem Bool} (F : HasM X.prog X.w X.K X.mg X.base L2.CX0 k C m ps sp) (hr : Room k X.A) (he : PE X o ta)
    (ht : eval (.Call (.Attribute o m apos) [] [] pos) X.env = (do
      let ov ← eval o X.env
      standAt apos.atName
      let (f, first) ← holding [ov] (getMethod ov m pl)
      callWith pos f first (backTo pos (starEach [] X.env)) (backToKw pos (keywordEach [] X.env))) := by rfl) :
    PE X (.Call (.Attribute o m apos) [] [] pos) (tMeth C m sp [] L2.E0 ta tNil) := by
  obtain ⟨f, fd, c, hm, hb, F⟩ := F
  exact pe_meth0 he c hm F hr hb .nil pass0 ht
theorem pe_hmS {E : L2.St → XK} {pl : Sem Bool} (F : HasM X.prog X.w X.K X.mg X.base CX k C m ps sp) (hr : Room k X.A) (he : PE X o ta) (hx : ∀ σ, PassesAt CX X σ (E σ)) (ha : PA X (e :: es) t)
    (hst : starEach (e :: es) X.env = (false, eval e X.env) :: starEach es X.env := by rfl) (hpl : (backTo pos (starEach es X.env)).any (·.1) = false := by rfl)
    (ht : eval (.Call (.Attribute o m apos) (e :: es) [] pos) X.env = (do
      let ov ← eval o X.env
      standAt apos.atName
      let (f, first) ← holding [ov] (getMethod ov m pl)
      callWith pos f first (backTo pos (starEach (e :: es) X.env)) (backToKw pos (keywordEach [] X.env))) := by rfl) :
    PE X (.Call (.Attribute o m apos) (e :: es) [] pos) (tMethS C m sp E ta t) := by
  obtain ⟨f, fd, c, hm, hb, F⟩ := F
  exact pe_methS he c hm F hr hb hx ha hst hpl ht
theorem pe_hcE {sp : SpE} {q : Addr × Obj} {cls : Value} {d : Option Addr} (F : HasE X.prog X.w X.K X.mg X.base L2.CX0 k x ps sp) (hp : q ∈ X.pn) (hz : Zc cls d q.2) (hf : ∃ fs, q.2.data = .fields fs) (hr : RoomH k X.A) (hg : Gl X x)
    (ha : PA X (e :: es) t) (hdb : (x == ("__debug__" : Str)) = false := by decide) (he : starEach (e :: es) X.env = (false, eval e X.env) :: starEach es X.env := by rfl) (hpl : (backTo pos (starEach es X.env)).any (·.1) = false := by rfl) :
    PE X (.Call (.Name x p) (e :: es) [] pos) (tCallE (sp q.1 cls d) L2.E0 t) := by
  obtain ⟨f, fd, hm, hk, hb, F⟩ := F
  exact pe_callE hp hz hf F hr hg hm hk hb pass0 ha hdb he hpl
end
/-- the built-in names that are left alone -/
structure Blt (mg : Str → Option Value) : Prop where
  len_ : mg "len" = none
  range_ : mg "range" = none
  tuple_ : mg "tuple" = none
  list_ : mg "list" = none
  dict_ : mg "dict" = none
  sorted_ : mg "sorted" = none
  all_ : mg "all" = none
  any_ : mg "any" = none
  max_ : mg "max" = none
  abs_ : mg "abs" = none
  int_ : mg "int" = none
  str_ : mg "str" = none
  bool_ : mg "bool" = none
  isinstance_ : mg "isinstance" = none
def isStr : KD → Bool
  | .str _ => true
  | _ => false
theorem kit_str {K : PySem.W.Frag} : ∀ d : KD, PySem.W.kitOne K (.type (kty d)) (.type "str") = some (isStr d)
  | .non => kit_ty (a := "NoneType") (b := "str") (r := false) (by decide +kernel)
  | .bl _ => kit_ty (a := "bool") (b := "str") (r := false) (by decide +kernel)
  | .int _ => kit_ty (a := "int") (b := "str") (r := false) (by decide +kernel)
  | .str _ => kit_ty (a := "str") (b := "str") (r := true) (by decide +kernel)
  | .tup _ => kit_ty (a := "tuple") (b := "str") (r := false) (by decide +kernel)
def isInt : KD → Bool
  | .bl _ => true
  | .int _ => true
  | _ => false
theorem kit_int {K : PySem.W.Frag} : ∀ d : KD, PySem.W.kitOne K (.type (kty d)) (.type "int") = some (isInt d)
  | .non => kit_ty (a := "NoneType") (b := "int") (r := false) (by decide +kernel)
  | .bl _ => kit_ty (a := "bool") (b := "int") (r := true) (by decide +kernel)
  | .int _ => kit_ty (a := "int") (b := "int") (r := true) (by decide +kernel)
  | .str _ => kit_ty (a := "str") (b := "int") (r := false) (by decide +kernel)
  | .tup _ => kit_ty (a := "tuple") (b := "int") (r := false) (by decide +kernel)
def isBool : KD → Bool
  | .bl _ => true
  | _ => false
theorem kit_bool {K : PySem.W.Frag} : ∀ d : KD, PySem.W.kitOne K (.type (kty d)) (.type "bool") = some (isBool d)
  | .non => kit_ty (a := "NoneType") (b := "bool") (r := false) (by decide +kernel)
  | .bl _ => kit_ty (a := "bool") (b := "bool") (r := true) (by decide +kernel)
  | .int _ => kit_ty (a := "int") (b := "bool") (r := false) (by decide +kernel)
  | .str _ => kit_ty (a := "str") (b := "bool") (r := false) (by decide +kernel)
  | .tup _ => kit_ty (a := "tuple") (b := "bool") (r := false) (by decide +kernel)
def isTuple : KD → Bool
  | .tup _ => true
  | _ => false
theorem kit_tuple {K : PySem.W.Frag} : ∀ d : KD, PySem.W.kitOne K (.type (kty d)) (.type "tuple") = some (isTuple d)
  | .non => kit_ty (a := "NoneType") (b := "tuple") (r := false) (by decide +kernel)
  | .bl _ => kit_ty (a := "bool") (b := "tuple") (r := false) (by decide +kernel)
  | .int _ => kit_ty (a := "int") (b := "tuple") (r := false) (by decide +kernel)
  | .str _ => kit_ty (a := "str") (b := "tuple") (r := false) (by decide +kernel)
  | .tup _ => kit_ty (a := "tuple") (b := "tuple") (r := true) (by decide +kernel)
def isDict : KD → Bool
  | _ => false
theorem kit_dict {K : PySem.W.Frag} : ∀ d : KD, PySem.W.kitOne K (.type (kty d)) (.type "dict") = some (isDict d)
  | .non => kit_ty (a := "NoneType") (b := "dict") (r := false) (by decide +kernel)
  | .bl _ => kit_ty (a := "bool") (b := "dict") (r := false) (by decide +kernel)
  | .int _ => kit_ty (a := "int") (b := "dict") (r := false) (by decide +kernel)
  | .str _ => kit_ty (a := "str") (b := "dict") (r := false) (by decide +kernel)
  | .tup _ => kit_ty (a := "tuple") (b := "dict") (r := false) (by decide +kernel)
def isList : KD → Bool
  | _ => false
theorem kit_list {K : PySem.W.Frag} : ∀ d : KD, PySem.W.kitOne K (.type (kty d)) (.type "list") = some (isList d)
  | .non => kit_ty (a := "NoneType") (b := "list") (r := false) (by decide +kernel)
  | .bl _ => kit_ty (a := "bool") (b := "list") (r := false) (by decide +kernel)
  | .int _ => kit_ty (a := "int") (b := "list") (r := false) (by decide +kernel)
  | .str _ => kit_ty (a := "str") (b := "list") (r := false) (by decide +kernel)
  | .tup _ => kit_ty (a := "tuple") (b := "list") (r := false) (by decide +kernel)
end GX
end

section
set_option Elab.async false
set_option linter.all false
set_option maxRecDepth 100000
set_option maxHeartbeats 4000000
/-! a dict comprehension's reading over a walk; own exceptions made, in short. -/
namespace GX
open PySem PySem.Spec PyProof.Rows L2 L2H
section
variable {J : It} {n : Nat} {G : Hp → Prop} {Y : Nat → Hp → V → Hp → Prop}
theorem gc_it (wk : Walk J n G Y) {w : World} {g : TG} {tt : TT} {tk tv : TE} {vs : List Nat} {σ : L2.St} {H1 : Hp} {D : Addr} {ep : Nat} {Qd : Hp → Prop} (Pv : Nat → Hp → Prop) (h0 : Pv 0 (upd H1 D (GO w D [] ep))) (hG : ∀ i H, i ≤ n → Pv i H → G H)
    (hs : ∀ i x H H', i < n → Pv i H → Y i H x H' → g x (wipe σ vs) H' fun σ2 H2 => wipe σ2 vs = wipe σ vs ∧ tt σ2 H2 fun b H3 =>
      if b = true then tk σ2 H3 fun y H4 => tv σ2 H4 fun z H5 => dcPut w D (Pv (i + 1)) y z H5 else Pv (i + 1) H3) (hd : ∀ H, Pv n H → Qd H) :
    ∃ W : Nat → Nat → Hp → Prop, (∃ m, W 0 m (upd H1 D (GO w D [] ep))) ∧ ∀ i m H, W i m H →
      (J.stop i H ∧ Qd H) ∨ (J.go i H ∧ ∃ Nx : Hp → Prop, (∀ H', Nx H' → ∃ m', m' < m ∧ W (i + 1) m' H') ∧ ∀ x H', J.yld i H x H' → g x (wipe σ vs) H' fun σ2 H2 => wipe σ2 vs = wipe σ vs ∧ tt σ2 H2 fun b H3 =>
        if b = true then tk σ2 H3 fun y H4 => tv σ2 H4 fun z H5 => dcPut w D Nx y z H5 else Nx H3) := by
  refine ⟨fun i m H => m = n - i ∧ i ≤ n ∧ Pv i H, ⟨n, rfl, Nat.zero_le _, h0⟩, ?_⟩
  intro i m H ⟨em, hi, p⟩
  have q := hG i H hi p
  rcases Nat.lt_or_ge i n with hlt | hge
  · exact .inr ⟨wk.goes i H hlt q, Pv (i + 1), fun H' p' => ⟨n - (i + 1), by omega, rfl, hlt, p'⟩, fun x H' y => hs i x H H' hlt p (wk.yields i H x H' hlt q y)⟩
  · obtain rfl : i = n := by omega
    exact .inl ⟨wk.stops H q, hd H p⟩
end
/-- a new error object is made: its own dict holds fs; nothing else has changed -/
def rEx (C : Addr) (fs : List (Str × V)) (H : Hp) (Q : XK) : Prop := ∀ d H', H d = none → Same H H' → H' d = some (.xd fs) → Q (.ref C) (some d) H'
def tEx1 (C : Addr) (f1 : Str) (t : TA) : L2.St → Hp → XK → Prop := fun σ H Q => t σ H fun vs H1 => ∃ y, vs = [y] ∧ rEx C [(f1, y)] H1 Q
def tEx2 (C : Addr) (f1 f2 : Str) (t : TA) : L2.St → Hp → XK → Prop := fun σ H Q => t σ H fun vs H1 => ∃ y z, vs = [y, z] ∧ rEx C [(f2, z), (f1, y)] H1 Q
/-- what the __init__ of such a class promises -/
def spEx1 (C : Addr) (f1 : Str) : Sp := fun vs H Q _ => ∃ (a : Addr) (y : V), vs = [.ref a, y] ∧ H a = some (exo a C none) ∧ ∀ d, H d = none → d ≠ a → Q .non (upd (upd H d (exd d [(f1, y)])) a (exo a C (some d)))
def spEx2 (C : Addr) (f1 f2 : Str) : Sp := fun vs H Q _ => ∃ (a : Addr) (y z : V), vs = [.ref a, y, z] ∧ H a = some (exo a C none) ∧
  ∀ d, H d = none → d ≠ a → Q .non (upd (upd (upd H d (exd d [(f1, y)])) a (exo a C (some d))) d (exd d [(f2, z), (f1, y)]))
/-- the class C as an exception class of the program's own, its __init__ known -/
def HasX (P : Program) (w : World) (K : PySem.W.Frag) (mg : Str → Option Value) (base : Heap) (k : Nat) (x : Str) (C : Addr) (ps : List Str) (sp : Sp) : Prop :=
  OexC K C ∧ mg x = some (.ref C) ∧ ∃ fI fd, PySem.W.findIn K (.ref C) "__init__" = some (some (.ref fI)) ∧ PySem.W.typeIn K (.ref fI) = some (.type "function") ∧ Binds K fd ps [] ∧ FnOk P w K mg base L2.CX0 k fI fd ps sp
theorem ex_heap {H1 H2 : Hp} {a d : Addr} {fs : List (Str × V)} (ha : H1 a = none) (hd : H1 d = none) (hda : d ≠ a) (e : ∀ b, b ≠ a → b ≠ d → H2 b = H1 b) : Same H1 (upd (del H2 a) d (.xd fs)) := fun b o h => by
  have h1 := ne_of_none h ha
  have h2 := ne_of_none h hd
  rw [upd_ne h2, del_ne h1, e b h1 h2]
  exact h
theorem pa_weak {X : Cx} {es : List Expr} {t : TA} (ha : PA X es t) : PA X es (fun σ H Q => ∃ R, t σ H R ∧ ∀ vs H1, R vs H1 → Q vs H1) :=
  ⟨fun pos pins s σ H Q I ⟨R, h, g⟩ => wpAny_mono (ha.run pos pins s σ H R I h) (fun us s1 ⟨vs, H1, I1, r, q⟩ => ⟨vs, H1, I1, r, g vs H1 q⟩) fun _ _ z => z⟩
section
variable {X : Cx} {k : Nat} {x : Str} {C : Addr} {ps : List Str} {f1 f2 : Str} {e : Expr} {es : List Expr} {t : TA} {p pos : Pos}
theorem pmk_ex1 (F : HasX X.prog X.w X.K X.mg X.base k x C ps (spEx1 C f1)) (hr : Room (k + 1) X.A) (hg : Gl X x) (ha : PA X (e :: es) t) (hdb : (x == ("__debug__" : Str)) = false := by decide) (he : starEach (e :: es) X.env = (false, eval e X.env) :: starEach es X.env := by rfl)
    (hpl : (backTo pos (starEach es X.env)).any (·.1) = false := by rfl) : PMk X (.Call (.Name x p) (e :: es) [] pos) (tEx1 C f1 t) := by
  obtain ⟨T, hm, fI, fd, iC, tI, hb, F⟩ := F
  have R := pmk_oex (X := X) (x := x) (p := p) (pos := pos) (e := e) (es := es) (CX := L2.CX0) T iC tI F hr hb .nil (fun _ _ _ _ _ _ _ h => h.elim) hg hm (pa_weak ha) hdb he hpl
  refine fun pins s σ H Q I h => R pins s σ H Q I ⟨_, h, fun vs H1 q => ?_⟩
  obtain ⟨y, rfl, q⟩ := q
  refine ⟨by show 1 ≤ 1000; decide, fun a na => ⟨a, y, rfl, upd_same, fun d nd hda => ?_⟩⟩
  rw [upd_ne hda] at nd
  refine ⟨rfl, d, [(f1, y)], upd_same, ?_, nd, q d _ nd (ex_heap na nd hda fun b h1 h2 => ?_) upd_same⟩
  · rw [upd_ne hda, upd_same]
  · rw [upd_ne h1, upd_ne h2, upd_ne h1]
theorem pmk_ex2 (F : HasX X.prog X.w X.K X.mg X.base k x C ps (spEx2 C f1 f2)) (hr : Room (k + 1) X.A) (hg : Gl X x) (ha : PA X (e :: es) t) (hdb : (x == ("__debug__" : Str)) = false := by decide) (he : starEach (e :: es) X.env = (false, eval e X.env) :: starEach es X.env := by rfl)
    (hpl : (backTo pos (starEach es X.env)).any (·.1) = false := by rfl) : PMk X (.Call (.Name x p) (e :: es) [] pos) (tEx2 C f1 f2 t) := by
  obtain ⟨T, hm, fI, fd, iC, tI, hb, F⟩ := F
  have R := pmk_oex (X := X) (x := x) (p := p) (pos := pos) (e := e) (es := es) (CX := L2.CX0) T iC tI F hr hb .nil (fun _ _ _ _ _ _ _ h => h.elim) hg hm (pa_weak ha) hdb he hpl
  refine fun pins s σ H Q I h => R pins s σ H Q I ⟨_, h, fun vs H1 q => ?_⟩
  obtain ⟨y, z, rfl, q⟩ := q
  refine ⟨by show 2 ≤ 1000; decide, fun a na => ⟨a, y, z, rfl, upd_same, fun d nd hda => ?_⟩⟩
  rw [upd_ne hda] at nd
  refine ⟨rfl, d, [(f2, z), (f1, y)], ?_, ?_, nd, q d _ nd (ex_heap na nd hda fun b h1 h2 => ?_) upd_same⟩
  · rw [upd_ne hda.symm, upd_same]
  · rw [upd_same]
  · rw [upd_ne h2, upd_ne h1, upd_ne h2, upd_ne h1]
end
end GX
end

section
set_option Elab.async false
set_option linter.all false
set_option maxRecDepth 100000
set_option maxHeartbeats 4000000
/-! the rules with the written part and the world told by name (so that they stand in comprehensions). -/
namespace GX
open PySem PySem.Spec PyProof.Rows L2
section
variable {X : Cx}
theorem w_ixg (w : World) (hu : X.A.units + 9 < cLine) (hw : X.w = w := by rfl) : IxR X (rIxG w) := hw ▸ ix_g hu
theorem w_in (w : World) (hu : X.A.units + 9 < cLine) (hw : X.w = w := by rfl) : OpR X (compareOp .In) (rInG w id) := hw ▸ op_in_g hu
theorem w_nin (w : World) (hu : X.A.units + 9 < cLine) (hw : X.w = w := by rfl) : OpR X (compareOp .NotIn) (rInG w not) := hw ▸ op_notin_g hu
theorem w_set (w : World) (hu : X.A.units + 9 < cLine) (hw : X.w = w := by rfl) : PSet X (rSetG w) := hw ▸ set_g hu
def rLenG (w : World) : List V → Hp → VK → Prop := fun vs H Q => ∃ a xs ep, vs = [.ref a] ∧ H a = some (GO w a xs ep) ∧ Q (.int (xs : List GRow).length) H
theorem w_len (w : World) (hw : X.w = w := by rfl) : CallR X (.builtin "len") (rLenG w) := hw ▸ call_len_g
def rTruG (w : World) : V → Hp → (Bool → Hp → Prop) → Prop := fun x H Q => ∃ a xs ep, x = .ref a ∧ H a = some (GO w a xs ep) ∧ Q (!xs.isEmpty) H
theorem w_tru (w : World) (hw : X.w = w := by rfl) : TruR X (rTruG w) := hw ▸ tru_g
def rListG (w : World) : List V → Hp → VK → Prop := fun vs H Q => ∃ a xs ep, vs = [.ref a] ∧ H a = some (GO w a xs ep) ∧ ∀ p, H p = none → Q (.ref p) (upd H p (.lst ((xs : List GRow).map fun r => r.2.1)))
theorem w_list (w : World) (hc : X.calm = true := by rfl) (hw : X.w = w := by rfl) : CallR X (.type "list") (rListG w) := hw ▸ call_list_g hc
def rSortedG (w : World) : List V → Hp → VK → Prop := fun vs H Q => ∃ a xs ep ns, vs = [.ref a] ∧ H a = some (GO w a xs ep) ∧ (xs.map fun r => r.2.1) = ns.map V.int ∧
    ∀ (ns' : List Int) (p : Addr), ns'.Perm ns → ns'.Pairwise (· ≤ ·) → H p = none → Q (.ref p) (upd H p (.lst (ns'.map V.int)))
theorem w_sorted (w : World) (hc : X.calm = true := by rfl) (hw : X.w = w := by rfl) : CallR X (.builtin "sorted") (rSortedG w) := hw ▸ call_sorted_g hc
def rDictG (w : World) : List V → Hp → VK → Prop := fun vs H Q => ∃ (a : Addr) (ps : List Addr) (rows : List GRow), vs = [.ref a] ∧ H a = some (.lst (ps.map V.ref)) ∧
    Paired (fun p (r : GRow) => H p = some (.tup [r.2.1, r.2.2])) ps rows ∧ KeysOk H rows ∧ ∀ p ep, H p = none → Q (.ref p) (upd H p (GO w p (mergeG [] rows) ep))
theorem w_dict (w : World) (hu : X.A.units + 14 < cLine) (hc : X.calm = true := by rfl) (hw : X.w = w := by rfl) : CallR X (.type "dict") (rDictG w) := hw ▸ call_dict_g hc hu
theorem w_clear (w : World) (hw : X.w = w := by rfl) : MtR X "dict.clear" (rClrG w) := hw ▸ mt_gclear
theorem w_setd (w : World) (hu : X.A.units + 9 < cLine) (hw : X.w = w := by rfl) : MtR X "dict.setdefault" (rSdG w) := hw ▸ mt_gsetd hu
theorem w_new (w : World) {pos : Pos} (hw : X.w = w := by rfl) : PE X (.Dict [] [] pos) (tGNew w) := hw ▸ pe_gnew
theorem w_pi (w : World) {tg e : Expr} {td : TE} (he : PE X e td) (hw : X.w = w := by rfl) : PI X tg e (iG w td) := hw ▸ pi_g he
section
variable {o e : Expr} {es : List Expr} {to : TE} {t : TA} {name : Str} {apos cpos : Pos} {id T : String} {r : V → List V → Hp → VK → Prop}
theorem w_gm0 (w : World) (slot : Slot "dict" name id) (hty : typeOf (.builtin id) = pure (.type "method_descriptor")) (hm : MtR X id r) (ho : PE X o to) (hw : X.w = w := by rfl)
    (hbase : attributeBase o name X.env (eval o X.env) = eval o X.env := by rfl) (hline : (apos.endLine == cpos.line) = true := by rfl) : PE X (.Call (.Attribute o name apos) [] [] cpos) (tGM0 w r to) := hw ▸ pe_gm0 slot hty hm ho hbase hline
theorem w_gm (w : World) (slot : Slot "dict" name id) (hty : typeOf (.builtin id) = pure (.type "method_descriptor")) (hm : MtR X id r) (ho : PE X o to) (ha : PA X (e :: es) t) (hw : X.w = w := by rfl)
    (hbase : attributeBase o name X.env (eval o X.env) = eval o X.env := by rfl)
    (hfew : ((backTo cpos (starEach (e :: es) X.env)).all (fun x => !x.1) && (backToKw cpos (keywordEach [] X.env)).all (fun x => x.1.isSome)
      && decide ((e :: es).length + ([] : List Keyword).length + (if ([] : List Keyword).isEmpty then 0 else 1) < 30)) = true := by rfl)
    (hline : (apos.endLine == cpos.line) = true := by rfl) (hs : starEach (e :: es) X.env = (false, eval e X.env) :: starEach es X.env := by rfl) (hplain : (backTo cpos (starEach es X.env)).any (·.1) = false := by rfl) :
    PE X (.Call (.Attribute o name apos) (e :: es) [] cpos) (tGM w r to t) := hw ▸ pe_gm slot hty hm ho ha hbase hfew hline hs hplain
end
theorem w_gc (w : World) {kx vx tg iter : Expr} {ifs : List Expr} {scope : Scope} {own : List (Str × Nat)} {pos : Pos} {wi : TI} {g : TG} {tt : TT} {tk tv : TE} (hu : X.A.units + 9 < cLine) (hc : X.calm = true) (hN : X.N.Nodup) (hi : PI X tg iter wi) (ok : BlkOk X.N X.env.scope scope own)
    (hg : ∀ (s : Shared) (H : Hp) (C : Addr) (cl : List (Str × Addr)) (fp : List Addr), PG (X.blk s H scope (compEnvC scope cl C X.env) fp) tg g)
    (ht : ∀ (s : Shared) (H : Hp) (C : Addr) (cl : List (Str × Addr)) (fp : List Addr), PTs (X.blk s H scope (compEnvC scope cl C X.env) fp) ifs tt)
    (hk : ∀ (s : Shared) (H : Hp) (C : Addr) (cl : List (Str × Addr)) (fp : List Addr), PE (X.blk s H scope (compEnvC scope cl C X.env) fp) kx tk)
    (he : ∀ (s : Shared) (H : Hp) (C : Addr) (cl : List (Str × Addr)) (fp : List Addr), PE (X.blk s H scope (compEnvC scope cl C X.env) fp) vx tv) (hs : ∀ x, foldedSetIterable iter X.env x = pure x := by intro _; rfl) (hw : X.w = w := by rfl) :
    PE X (.DictComp kx vx [⟨tg, iter, ifs, 0⟩] scope pos) (tGc w wi g tt tk tv (own.map (·.2))) := hw ▸ pe_gc hu hc hN hi ok hg ht hk he hs
theorem w_isi (K : PySem.W.Frag) (w : World) (hK : X.K = K := by rfl) (hw : X.w = w := by rfl) : CallR X (.builtin "isinstance") (rIsiG K w) := hK ▸ hw ▸ call_isiG
theorem k_ixl (K : PySem.W.Frag) (hK : X.K = K := by rfl) : IxR X (rIxL K) := hK ▸ ix_list
theorem k_ixt (K : PySem.W.Frag) (hK : X.K = K := by rfl) : IxR X (rIxT K) := hK ▸ ix_tup
theorem k_ixs (K : PySem.W.Frag) (hK : X.K = K := by rfl) : IxR X (rIx K) := hK ▸ ix_seq
def rLenS (K : PySem.W.Frag) : List V → Hp → VK → Prop := fun xs H Q => ∃ p ys, xs = [.ref p] ∧ (SqL K H p ys ∨ SqT K H p ys) ∧ Q (.int (ys : List V).length) H
theorem k_len (K : PySem.W.Frag) (hK : X.K = K := by rfl) : CallR X (.builtin "len") (rLenS K) := hK ▸ call_len_seq
def rListS (K : PySem.W.Frag) : List V → Hp → VK → Prop := fun xs H Q => ∃ p ys, xs = [.ref p] ∧ (SqL K H p ys ∨ SqT K H p ys) ∧ ∀ l, H l = none → Q (.ref l) (upd H l (.lst ys))
theorem k_list (K : PySem.W.Frag) (hK : X.K = K := by rfl) : CallR X (.type "list") (rListS K) := hK ▸ call_list_of
def rTupS (K : PySem.W.Frag) : List V → Hp → VK → Prop := fun xs H Q => ∃ p ys, xs = [.ref p] ∧ ((SqL K H p ys ∧ ∀ l, H l = none → Q (.ref l) (upd H l (.tup ys))) ∨ (SqT K H p ys ∧ Q (.ref p) H))
theorem k_tup (K : PySem.W.Frag) (hK : X.K = K := by rfl) : CallR X (.type "tuple") (rTupS K) := hK ▸ call_tuple_of
theorem k_all (K : PySem.W.Frag) (hc : X.calm = true := by rfl) (hK : X.K = K := by rfl) : CallR X (.builtin "all") (rAll K) := hK ▸ cr_all hc
theorem k_any (K : PySem.W.Frag) (hc : X.calm = true := by rfl) (hK : X.K = K := by rfl) : CallR X (.builtin "any") (rAny K) := hK ▸ cr_any hc
theorem k_max (K : PySem.W.Frag) (hc : X.calm = true := by rfl) (hK : X.K = K := by rfl) : CallR X (.builtin "max") (rMax K) := hK ▸ cr_max hc
theorem k_in (K : PySem.W.Frag) (hu : X.A.units + 65 < cLine) (hK : X.K = K := by rfl) : OpR X (compareOp .In) (rInD K) := hK ▸ op_inD hu
theorem k_nin (K : PySem.W.Frag) (hu : X.A.units + 65 < cLine) (hK : X.K = K := by rfl) : OpR X (compareOp .NotIn) (rNotInD K) := hK ▸ op_notInD hu
theorem k_eq (K : PySem.W.Frag) (hu : X.A.units + 64 < cLine) (hK : X.K = K := by rfl) : OpR X (compareOp .Eq) (rEqD K) := hK ▸ op_eqD hu
theorem k_ne (K : PySem.W.Frag) (hu : X.A.units + 64 < cLine) (hK : X.K = K := by rfl) : OpR X (compareOp .NotEq) (rNeD K) := hK ▸ op_neD hu
theorem k_pil (K : PySem.W.Frag) {tg l : Expr} {tl : TE} (hl : PE X l tl) (hK : X.K = K := by rfl) : PI X tg l (iList K tl) := hK ▸ pi_list hl
theorem k_pit (K : PySem.W.Frag) {tg l : Expr} {tl : TE} (hl : PE X l tl) (hK : X.K = K := by rfl) : PI X tg l (iTup K tl) := hK ▸ pi_tup hl
theorem k_ptup (K : PySem.W.Frag) {es : List Expr} {k : Nat} {pos : Pos} {t : TGs} {n : Nat} (h : PGs X es t) (hc : X.calm = true := by rfl) (hn : (assignEach es X.env).length = n := by rfl) (hst : (assignEach es X.env).findIdx? (·.1) = none := by rfl) (hK : X.K = K := by rfl) :
    PG X (.Tuple es k pos) (gTup K n t) := hK ▸ pg_tup hc h hn hst
def tTruS (K : PySem.W.Frag) (ta : TE) : TT := fun σ H Q => ta σ H fun x H' => ∃ k, TruV K x H' k ∧ Q k H'
theorem k_truth (K : PySem.W.Frag) {a : Expr} {ta : TE} (ha : PE X a ta) (he : ∀ whole, isTrue a X.env whole = (do let v ← whole; standAt a.pos; holding [v] (truthy v)) := by intro _; rfl) (hK : X.K = K := by rfl) : PT X a (tTruS K ta) := hK ▸ pt_truth ha he
section
variable {o e : Expr} {es : List Expr} {to : TE} {t : TA} {name : Str} {apos cpos : Pos} {id T : String} {r : V → List V → Hp → VK → Prop}
theorem k_append (K : PySem.W.Frag) (ho : PE X o to) (ha : PA X [e] t) (hK : X.K = K := by rfl)
    (hbase : attributeBase o "append" X.env (eval o X.env) = eval o X.env := by rfl)
    (hfew : ((backTo cpos (starEach [e] X.env)).all (fun x => !x.1) && (backToKw cpos (keywordEach [] X.env)).all (fun x => x.1.isSome)
      && decide (([e] : List Expr).length + ([] : List Keyword).length + (if ([] : List Keyword).isEmpty then 0 else 1) < 30)) = true := by rfl)
    (hline : (apos.endLine == cpos.line) = true := by rfl) (hs : starEach [e] X.env = (false, eval e X.env) :: starEach [] X.env := by rfl) (hplain : (backTo cpos (starEach [] X.env)).any (·.1) = false := by rfl) :
    PE X (.Call (.Attribute o "append" apos) [e] [] cpos) (tBM K "list" rAppend to t) := hK ▸ pe_bm PySem.F.plainAttrs_list PySem.F.slot_list_append PySem.F.type_list_append mt_append ho ha hbase hfew hline hs hplain
theorem k_popAt (K : PySem.W.Frag) (ho : PE X o to) (ha : PA X [e] t) (hK : X.K = K := by rfl)
    (hbase : attributeBase o "pop" X.env (eval o X.env) = eval o X.env := by rfl)
    (hfew : ((backTo cpos (starEach [e] X.env)).all (fun x => !x.1) && (backToKw cpos (keywordEach [] X.env)).all (fun x => x.1.isSome)
      && decide (([e] : List Expr).length + ([] : List Keyword).length + (if ([] : List Keyword).isEmpty then 0 else 1) < 30)) = true := by rfl)
    (hline : (apos.endLine == cpos.line) = true := by rfl) (hs : starEach [e] X.env = (false, eval e X.env) :: starEach [] X.env := by rfl) (hplain : (backTo cpos (starEach [] X.env)).any (·.1) = false := by rfl) :
    PE X (.Call (.Attribute o "pop" apos) [e] [] cpos) (tBM K "list" rPopAt to t) := hK ▸ pe_bm PySem.F.plainAttrs_list PySem.F.slot_list_pop PySem.F.type_list_pop mt_popAt ho ha hbase hfew hline hs hplain
end
section
variable {f : Addr} {fd : FuncData} {p1 : Str} {k : Nat} {sp : Sp}
def rSortF (K : PySem.W.Frag) (w : World) (f : Addr) (sp : Sp) : List V → List V → Hp → VK → Prop := fun vs zs H Q => ∃ a xs ep ds, vs = [.ref a] ∧ zs = [.ref f] ∧ H a = some (GO w a xs ep) ∧
  (ds.length = (xs.map fun r : GRow => r.2.1).length ∧ PySem.W.AllAlike ds ∧ PySem.W.Sortable ds ∧ (∀ d, d ∈ ds → d.depth ≤ 40) ∧ ∀ Hj, Same H Hj → ∀ (j : Nat) v d, (xs.map fun r : GRow => r.2.1)[j]? = some v → ds[j]? = some d → sp [v] Hj (fun y H' => Same Hj H' ∧ Dp K H' y d) L2.E0) ∧
  ∀ (H' : Hp) (p : Addr), Same H H' → H' p = none → Q (.ref p) (upd H' p (.lst (sortedBy (xs.map fun r => r.2.1) ds)))
theorem w_sortF (K : PySem.W.Frag) (w : World) (F : FnOk X.prog X.w X.K X.mg X.base L2.CX0 k f fd [p1] sp) (hr : Room (k + 2) X.A) (hb : Binds X.K fd [p1] []) (hu : X.A.units + 42 < cLine) (hcalm : X.calm = true := by rfl) (hK : X.K = K := by rfl) (hw : X.w = w := by rfl) :
    CallRK X (.builtin "sorted") [Str.ofString "key"] (rSortF K w f sp) := by
  subst hK hw
  exact cr_sortedF hcalm F hr hb hu
end
end
end GX
end

section
set_option Elab.async false
set_option linter.all false
set_option maxRecDepth 100000
set_option maxHeartbeats 4000000
namespace K29
open PySem PySem.Spec PyProof.Rows L2 GX
def top (i : Nat) : Stmt := PySem.Challenge.pw_anyroot_k29_machine_rows_kept_and_writte.main.body.getD i (.Pass ⟨0, 0, 0, 0⟩)
section
variable {P : Program} {w : World} {K : PySem.W.Frag} {mg : Str → Option Value} {base : Heap}
/-! ### sign_key -/
abbrev s_sign_key : Stmt := top 7
theorem sc_sign_key : FnScope ["sign"] ["sign"] (defScope s_sign_key) := ⟨rfl, rfl, rfl, by decide +kernel, rfl, by decide +kernel, by decide +kernel⟩
def spSignKey : Sp := fun vs H Q _ => ∃ d v, vs = [v] ∧ KV H d v ∧ goodSign d = true ∧ ∀ p, H p = none → Q (.ref p) (upd H p (.tup [.int (signPair d).1, .int (signPair d).2]))
theorem ok_sign_key {f : Addr} {fd : FuncData} (F : L2.Fun K "sign_key" "sign_key" s_sign_key f fd) : FnOk P w K mg base L2.CX0 1 f fd ["sign"] spSignKey := by
  have nd := sc_sign_key.nd
  refine F.ok sc_sign_key (fun vs H Q E h => ?_) (fun cdv A outer s H vs Q E hr h => ?_)
  · obtain ⟨d, v, rfl, _⟩ := h
    rfl
  · obtain ⟨d, v, rfl, hv, hg, q⟩ := h
    refine ⟨_, (pss_cons (ps_if (pt_cmpR op_isN (pv 0) pe_non (nomark _))
  (pss_one (ps_ret (pe_tup (pa_cons pe_int (pa_cons pe_int pa_nil)))))
  pss_nil)
  (pss_cons (ps_if (pt_cmpR op_eq (pv 0) pe_str (nomark _))
  (pss_one (ps_ret (pe_tup (pa_cons pe_int (pa_cons pe_int pa_nil)))))
  pss_nil)
  (pss_one (ps_ret (pe_tup (pa_cons pe_int (pa_cons (pv 0) pa_nil))))))), ?_⟩
    refine ⟨_, rfl, rfl, _, rfl, ?_⟩
    cases hv with
    | non => exact iteT ⟨by show 2 ≤ sizeLine; decide, q⟩
    | str x =>
      have ex : x = "lost" := by simpa [goodSign] using hg
      subst ex
      refine iteF ⟨_, rfl, rfl, _, rfl, ?_⟩
      exact iteT ⟨by show 2 ≤ sizeLine; decide, q⟩
    | int i =>
      refine iteF ⟨_, rfl, rfl, _, rfl, ?_⟩
      exact iteF ⟨_, rfl, by show 2 ≤ sizeLine; decide, q⟩
    | bl b => cases hg
    | tup _ _ => cases hg

/-! ### letter_key -/
abbrev s_letter_key : Stmt := top 8
theorem sc_letter_key : FnScope ["letter", "sign"] ["letter"] (defScope s_letter_key) := ⟨rfl, rfl, rfl, by decide +kernel, rfl, by decide +kernel, by decide +kernel⟩
def pairData (d : KD) : PyData := .tuple [.int (signPair d).1, .int (signPair d).2]
def letterData : KD → PyData
  | .tup ds => .tuple (ds.map pairData)
  | _ => .none
def spLetterKey (K : PySem.W.Frag) : Sp := fun vs H Q _ => ∃ d v, vs = [v] ∧ KV H d v ∧ goodLetter d = true ∧ Flat d ∧ ∀ H' y, Same H H' → Dp K H' y (letterData d) → Q y H'
def PrAt (H : Hp) (y : V) (d : KD) : Prop := ∃ p, y = .ref p ∧ H p = some (.tup [.int (signPair d).1, .int (signPair d).2])
theorem prAt_mono {H H' : Hp} (t : Tups H H') {y : V} {d : KD} (h : PrAt H y d) : PrAt H' y d := by
  obtain ⟨p, e, g⟩ := h
  exact ⟨p, e, t _ _ g⟩
theorem prs_data {K : PySem.W.Frag} {H : Hp} : ∀ {acc : List V} {ds : List KD}, Paired (PrAt H) acc ds → DpAll K H acc (ds.map pairData)
  | _, _, .nil => .nil
  | _, _, .cons ⟨p, e, g⟩ t => by
    subst e
    exact .cons (.tup (SqT.of g) (.cons (.int _) (.cons (.int _) .nil))) (prs_data t)
theorem ok_letter_key {f : Addr} {fd : FuncData} (F : L2.Fun K "letter_key" "letter_key" s_letter_key f fd) (B : Blt mg) (C_sign_key : Has P w K mg base L2.CX0 1 "sign_key" ["sign"] spSignKey) : FnOk P w K mg base L2.CX0 2 f fd ["letter"] (spLetterKey K) := by
  have nd := sc_letter_key.nd
  refine F.ok sc_letter_key (fun vs H Q E h => ?_) (fun cdv A outer s H vs Q E hr h => ?_)
  · obtain ⟨d, v, rfl, _⟩ := h
    rfl
  · obtain ⟨d, v, rfl, hv, hg, hfl, q⟩ := h
    refine ⟨_, (pss_one (ps_ret (pe_callTy call_tuple_of (by rfl) B.tuple_ (by decide +kernel) (pa_cons (pe_lc (own := [("sign", 1)]) rfl nd (pi_tup (pv 0)) (blkOk_by (by kernel_rfl)) (fun _ _ _ _ _ => (pgn 1 nd)) (fun _ _ _ _ _ => pts_nil) (fun _ _ _ _ _ => (pe_hc C_sign_key (hr.mono (by decide)) (by rfl) (pa_cons (pv 1) pa_nil)))) pa_nil)))), ?_⟩
    cases hv with
    | @tup a xs ds ha hs =>
      have hall : ∀ x ∈ ds, goodSign x = true := List.all_eq_true.mp hg
      have hlen := KVs.len hs
      refine ⟨_, rfl, a, rfl, ⟨xs, SqT.of ha⟩, fun D hD => ?_⟩
      refine lc_it (walk_tup (xs := xs)) (fun i Hi => Same H Hi ∧ ∃ acc, Hi D = some (.lst acc) ∧ Paired (PrAt Hi) acc (ds.take i)) ⟨fun b o e => by rw [upd_ne (ne_of_none e hD)]; exact e, [], upd_same, by rw [List.take_zero]; exact .nil⟩ (fun i Hi _ p => SqT.of (p.1 _ _ ha)) ?_ ?_
      · rintro i x H0 Hi hi ⟨sm, acc, hDi, pr⟩ ⟨rfl, hx⟩
        obtain ⟨di, hdi, kv⟩ := hs.at hx
        refine ⟨rfl, ⟨_, rfl, di, x, rfl, kv.mono (.of_same sm), hall di (List.mem_of_getElem? hdi), fun p hp => ?_⟩⟩
        have nDp : D ≠ p := ne_of_none hDi hp
        have np : ∀ b o, Hi b = some o → b ≠ p := fun b o e => ne_of_none e hp
        refine ⟨acc, by rw [upd_ne nDp]; exact hDi, ?_, ?_⟩
        · have := Paired.length pr
          rw [List.length_take] at this
          have h1000 := (hfl.2 ds rfl).1
          exact Nat.lt_of_le_of_lt (by omega : acc.length ≤ 1000) (by decide)
        refine ⟨fun b o e => ?_, acc ++ [.ref p], upd_same, ?_⟩
        · have hb : b ≠ D := ne_of_none e hD
          rw [upd_ne hb, upd_ne (np _ _ (sm _ _ e))]
          exact sm _ _ e
        · rw [List.take_add_one, hdi]
          have tt : Tups Hi (upd (upd Hi p (.tup [.int (signPair di).1, .int (signPair di).2])) D (.lst (acc ++ [.ref p]))) := fun b xs e => by
            have hb : b ≠ D := fun z => by rw [z, hDi] at e; cases e
            rw [upd_ne hb, upd_ne (np _ _ e)]
            exact e
          refine Paired.snoc (pr.mono fun y d h => prAt_mono tt h) ⟨p, rfl, ?_⟩
          rw [upd_ne nDp.symm, upd_same]
      · rintro Hi ⟨sm, acc, hDi, pr⟩
        rw [List.take_of_length_le (by omega)] at pr
        refine ⟨D, acc, rfl, .inl ⟨SqL.of hDi, fun l hl => ?_⟩⟩
        have hs' : Same Hi (upd Hi l (.tup acc)) := fun b o e => by rw [upd_ne (ne_of_none e hl)]; exact e
        refine q _ _ (sm.trans hs') (.tup (SqT.of upd_same) ?_)
        exact DpAll_same hs' (prs_data pr)
    | _ => cases hg

/-! ### is_sign, is_letter -/
abbrev s_is_sign : Stmt := top 9
theorem sc_is_sign : FnScope ["sign"] ["sign"] (defScope s_is_sign) := ⟨rfl, rfl, rfl, by decide +kernel, rfl, by decide +kernel, by decide +kernel⟩
def spIsSign : Sp := fun vs H Q _ => ∃ d v, vs = [v] ∧ KV H d v ∧ Q (.bl (goodSign d)) H
theorem ok_is_sign {f : Addr} {fd : FuncData} (F : L2.Fun K "is_sign" "is_sign" s_is_sign f fd) (B : Blt mg) : FnOk P w K mg base L2.CX0 1 f fd ["sign"] spIsSign := by
  have nd := sc_is_sign.nd
  refine F.ok sc_is_sign (fun vs H Q E h => ?_) (fun cdv A outer s H vs Q E hr h => ?_)
  · obtain ⟨d, v, rfl, _⟩ := h
    rfl
  · obtain ⟨d, v, rfl, hv, q⟩ := h
    refine ⟨_, (pss_cons (ps_if (pt_cmpR op_isN (pv 0) pe_non (nomark _))
  (pss_one (ps_ret pe_bl))
  pss_nil)
  (pss_cons (ps_if (pt_val (pe_callB call_isiG (by rfl) B.isinstance_ (by decide +kernel) (pa_cons (pv 0) (pa_cons (pe_bltn (v := .ty "str") (by rfl) B.str_ (by decide +kernel) rfl) pa_nil))))
  (pss_one (ps_ret (pe_cmpR op_eq (pv 0) pe_str (nomark _))))
  pss_nil)
  (pss_one (ps_ret (pe_and (pe_callB call_isiG (by rfl) B.isinstance_ (by decide +kernel) (pa_cons (pv 0) (pa_cons (pe_bltn (v := .ty "int") (by rfl) B.int_ (by decide +kernel) rfl) pa_nil))) (pe_one (pe_not (pe_callB call_isiG (by rfl) B.isinstance_ (by decide +kernel) (pa_cons (pv 0) (pa_cons (pe_bltn (v := .ty "bool") (by rfl) B.bool_ (by decide +kernel) rfl) pa_nil)))))))))), ?_⟩
    refine ⟨_, rfl, rfl, _, rfl, ?_⟩
    cases hv with
    | non => exact iteT q
    | str x =>
      refine iteF ⟨_, rfl, _, _, _, _, _, rfl, .ty "str", (KV.str x).ty, kit_str _, _, rfl, ?_⟩
      refine iteT ⟨_, rfl, rfl, ?_⟩
      have e : decide (V.str x = V.str "lost") = goodSign (.str x) := by simp [goodSign]
      rw [e]
      exact q
    | int i =>
      refine iteF ⟨_, rfl, _, _, _, _, _, rfl, .ty "str", (KV.int i).ty, kit_str _, _, rfl, ?_⟩
      refine iteF ⟨_, rfl, _, _, _, _, _, rfl, .ty "int", (KV.int i).ty, kit_int _, _, rfl, ?_⟩
      exact iteT ⟨_, rfl, _, _, _, _, _, rfl, .ty "bool", (KV.int i).ty, kit_bool _, _, rfl, q⟩
    | bl b =>
      refine iteF ⟨_, rfl, _, _, _, _, _, rfl, .ty "str", (KV.bl b).ty, kit_str _, _, rfl, ?_⟩
      refine iteF ⟨_, rfl, _, _, _, _, _, rfl, .ty "int", (KV.bl b).ty, kit_int _, _, rfl, ?_⟩
      exact iteT ⟨_, rfl, _, _, _, _, _, rfl, .ty "bool", (KV.bl b).ty, kit_bool _, _, rfl, q⟩
    | tup h r =>
      refine iteF ⟨_, rfl, _, _, _, _, _, rfl, .ty "str", (KV.tup h r).ty, kit_str _, _, rfl, ?_⟩
      refine iteF ⟨_, rfl, _, _, _, _, _, rfl, .ty "int", (KV.tup h r).ty, kit_int _, _, rfl, ?_⟩
      exact iteF q
abbrev s_is_letter : Stmt := top 10
theorem sc_is_letter : FnScope ["letter", "sign"] ["letter"] (defScope s_is_letter) := ⟨rfl, rfl, rfl, by decide +kernel, rfl, by decide +kernel, by decide +kernel⟩
def spIsLetter : Sp := fun vs H Q _ => ∃ d v, vs = [v] ∧ KV H d v ∧ Flat d ∧ ∀ H', Same H H' → Q (.bl (goodLetter d)) H'
theorem ok_is_letter {f : Addr} {fd : FuncData} (F : L2.Fun K "is_letter" "is_letter" s_is_letter f fd) (B : Blt mg) (C_is_sign : Has P w K mg base L2.CX0 1 "is_sign" ["sign"] spIsSign) : FnOk P w K mg base L2.CX0 2 f fd ["letter"] spIsLetter := by
  have nd := sc_is_letter.nd
  refine F.ok sc_is_letter (fun vs H Q E h => ?_) (fun cdv A outer s H vs Q E hr h => ?_)
  · obtain ⟨d, v, rfl, _⟩ := h
    rfl
  · obtain ⟨d, v, rfl, hv, hfl, q⟩ := h
    refine ⟨_, (pss_one (ps_ret (pe_and (pe_callB call_isiG (by rfl) B.isinstance_ (by decide +kernel) (pa_cons (pv 0) (pa_cons (pe_bltn (v := .ty "tuple") (by rfl) B.tuple_ (by decide +kernel) rfl) pa_nil))) (pe_one (pe_callB (cr_all rfl) (by rfl) B.all_ (by decide +kernel) (pa_cons (pe_lc (own := [("sign", 1)]) rfl nd (pi_tup (pv 0)) (blkOk_by (by kernel_rfl)) (fun _ _ _ _ _ => (pgn 1 nd)) (fun _ _ _ _ _ => pts_nil) (fun _ _ _ _ _ => (pe_hc C_is_sign (hr.mono (by decide)) (by rfl) (pa_cons (pv 1) pa_nil)))) pa_nil)))))), ?_⟩
    refine ⟨_, rfl, _, _, _, _, _, rfl, .ty "tuple", hv.ty, kit_tuple d, _, rfl, ?_⟩
    cases hv with
    | @tup a xs ds ha hs =>
      have hlen := KVs.len hs
      refine iteT ⟨_, rfl, a, rfl, ⟨xs, SqT.of ha⟩, fun D hD => ?_⟩
      refine lc_it (walk_tup (xs := xs)) (fun i Hi => Same H Hi ∧ Hi D = some (.lst (((ds.take i).map goodSign).map V.bl))) ⟨fun b o e => by rw [upd_ne (ne_of_none e hD)]; exact e, by rw [upd_same]; rfl⟩ (fun i Hi _ p => SqT.of (p.1 _ _ ha)) ?_ ?_
      · rintro i x H0 Hi hi ⟨sm, hDi⟩ ⟨rfl, hx⟩
        obtain ⟨di, hdi, kv⟩ := hs.at hx
        refine ⟨rfl, ⟨_, rfl, di, x, rfl, kv.mono (.of_same sm), _, hDi, ?_, ?_⟩⟩
        · have h1000 := (hfl.2 ds rfl).1
          rw [List.length_map, List.length_map, List.length_take]
          exact Nat.lt_of_le_of_lt (by omega : min i ds.length ≤ 1000) (by decide)
        refine ⟨fun b o e => ?_, ?_⟩
        · rw [upd_ne (ne_of_none e hD)]
          exact sm _ _ e
        · rw [upd_same, List.take_add_one, hdi, List.map_append, List.map_append]
          rfl
      · rintro Hi ⟨sm, hDi⟩
        rw [List.take_of_length_le (by omega)] at hDi
        refine ⟨D, ds.map goodSign, rfl, SqL.of hDi, ?_⟩
        have e : (ds.map goodSign).all id = goodLetter (.tup ds) := by
          rw [List.all_map]
          rfl
        rw [e]
        exact q Hi sm
    | non => exact iteF (q H (Same.refl H))
    | bl b => exact iteF (q H (Same.refl H))
    | int i => exact iteF (q H (Same.refl H))
    | str x => exact iteF (q H (Same.refl H))
end
end K29
end

section
set_option Elab.async false
set_option linter.all false
set_option maxRecDepth 100000
set_option maxHeartbeats 4000000
namespace K29
open PySem PySem.Spec PyProof.Rows L2 GX
section
variable {P : Program} {w : World} {K : PySem.W.Frag} {mg : Str → Option Value} {base : Heap}
/-! ### the errors -/
abbrev s_TooMany : Stmt := inClass (top 2) 0
theorem sc_TooMany : FnScope ["self", "what"] ["self", "what"] (defScope s_TooMany) := ⟨rfl, rfl, rfl, by decide +kernel, rfl, by decide +kernel, by decide +kernel⟩
theorem ok_TooMany {f C : Addr} {fd : FuncData} (F : L2.Fun K "__init__" "TooMany.__init__" s_TooMany f fd) (T : OexC K C) (n1 : PySem.W.findIn K (.ref C) "what" = some none) : FnOk P w K mg base L2.CX0 1 f fd ["self", "what"] (spEx1 C "what") := by
  refine F.ok sc_TooMany (fun vs H Q E h => ?_) (fun cdv A outer s H vs Q E hr h => ?_)
  · obtain ⟨a, y, rfl, _⟩ := h
    rfl
  · obtain ⟨a, y, rfl, ha, q⟩ := h
    refine ⟨_, (pss_one (ps_ost (pv 0) (pv 1))), ?_⟩
    exact ⟨_, rfl, _, rfl, a, C, rfl, T, n1, .inl ⟨ha, fun d nd hda => q d nd hda⟩⟩
abbrev s_BadMachine : Stmt := inClass (top 3) 0
theorem sc_BadMachine : FnScope ["self", "state", "what"] ["self", "state", "what"] (defScope s_BadMachine) := ⟨rfl, rfl, rfl, by decide +kernel, rfl, by decide +kernel, by decide +kernel⟩
theorem ok_BadMachine {f C : Addr} {fd : FuncData} (F : L2.Fun K "__init__" "BadMachine.__init__" s_BadMachine f fd) (T : OexC K C) (n1 : PySem.W.findIn K (.ref C) "state" = some none) (n2 : PySem.W.findIn K (.ref C) "what" = some none) : FnOk P w K mg base L2.CX0 1 f fd ["self", "state", "what"] (spEx2 C "state" "what") := by
  refine F.ok sc_BadMachine (fun vs H Q E h => ?_) (fun cdv A outer s H vs Q E hr h => ?_)
  · obtain ⟨a, y, z, rfl, _⟩ := h
    rfl
  · obtain ⟨a, y, z, rfl, ha, q⟩ := h
    refine ⟨_, (pss_cons (ps_ost (pv 0) (pv 1)) (pss_one (ps_ost (pv 0) (pv 2)))), ?_⟩
    refine ⟨_, rfl, _, rfl, a, C, rfl, T, n1, .inl ⟨ha, fun d nd hda => ?_⟩⟩
    exact ⟨_, rfl, _, rfl, a, C, rfl, T, n2, .inr ⟨d, _, upd_same, by rw [upd_ne hda, upd_same], by show 1 ≤ 900; decide, q d nd hda⟩⟩

/-! ### machines -/
structure MT (K : PySem.W.Frag) (C : Addr) : Prop where
  cl : Cls K C
  nL : NoAttr K C "own_lag"
  nR : NoAttr K C "own_rows"
theorem lr_ : ¬ (("own_lag" : Str) = "own_rows") := by decide +kernel
theorem rl_ : ¬ (("own_rows" : Str) = "own_lag") := by decide +kernel
def mf (lag : Int) (rd : Addr) : List (Str × V) := putF "own_rows" (.ref rd) (putF "own_lag" (.int lag) [])
theorem mf_lag (lag : Int) (rd : Addr) : (mf lag rd).lookup ("own_lag" : Str) = some (.int lag) := by
  unfold mf
  rw [lookup_putF, if_neg lr_, lookup_putF, if_pos rfl]
theorem mf_rows (lag : Int) (rd : Addr) : (mf lag rd).lookup ("own_rows" : Str) = some (.ref rd) := by
  unfold mf
  rw [lookup_putF, if_pos rfl]
theorem mf_no (lag : Int) (rd : Addr) {m : Str} (h1 : ¬ m = "own_rows") (h2 : ¬ m = "own_lag") : (mf lag rd).lookup m = none := by
  unfold mf
  rw [lookup_putF, if_neg h1, lookup_putF, if_neg h2]
  rfl
/-- a machine stands at m; all of it is new against H0 -/
def MachAt (w : World) (C : Addr) (H0 H : Hp) (m : Addr) (lag : Int) (rows : Rows) : Prop := ∃ dx rd, H m = some (.ins C dx (mf lag rd)) ∧ RowsAt w H0 H rd rows ∧ H0 m = none
theorem MachAt.keep {C : Addr} {H0 H H' : Hp} {m : Addr} {lag : Int} {rows : Rows} (h : MachAt w C H0 H m lag rows) (t : Tups H H') (e : ∀ b o, H0 b = none → H b = some o → H' b = some o) : MachAt w C H0 H' m lag rows := by
  obtain ⟨dx, rd, h1, h2, h3⟩ := h
  exact ⟨dx, rd, e _ _ h3 h1, h2.keep t e, h3⟩
theorem MachAt.same {C : Addr} {H0 H H' : Hp} {m : Addr} {lag : Int} {rows : Rows} (h : MachAt w C H0 H m lag rows) (s : Same H H') : MachAt w C H0 H' m lag rows := h.keep (.of_same s) fun b o _ q => s b o q
/-! lag, states -/
abbrev s_lag : Stmt := inClass (top 11) 1
theorem sc_lag : FnScope ["self"] ["self"] (defScope s_lag) := ⟨rfl, rfl, rfl, by decide +kernel, rfl, by decide +kernel, by decide +kernel⟩
def spLag (w : World) (C : Addr) : Sp := fun vs H Q _ => ∃ H0 m lag rows, vs = [.ref m] ∧ MachAt w C H0 H m lag rows ∧ Q (.int lag) H
theorem ok_lag {f C : Addr} {fd : FuncData} (F : L2.Fun K "lag" "Machine.lag" s_lag f fd) (T : MT K C) : FnOk P w K mg base L2.CX0 1 f fd ["self"] (spLag w C) := by
  refine F.ok sc_lag (fun vs H Q E h => ?_) (fun cdv A outer s H vs Q E hr h => ?_)
  · obtain ⟨H0, m, lag, rows, rfl, _⟩ := h
    rfl
  · obtain ⟨H0, m, lag, rows, rfl, ⟨dx, rd, hm, _⟩, q⟩ := h
    exact ⟨_, (pss_one (ps_ret (pe_fld (pv 0) rfl))), _, rfl, m, C, dx, _, _, rfl, hm, T.cl, T.nL, mf_lag _ _, q⟩
abbrev s_states : Stmt := inClass (top 11) 4
theorem sc_states : FnScope ["self"] ["self"] (defScope s_states) := ⟨rfl, rfl, rfl, by decide +kernel, rfl, by decide +kernel, by decide +kernel⟩
def spStates (w : World) (C : Addr) : Sp := fun vs H Q _ => ∃ H0 m lag rows, vs = [.ref m] ∧ MachAt w C H0 H m lag rows ∧ Q (.int (rows.length : Int)) H
theorem ok_states {f C : Addr} {fd : FuncData} (F : L2.Fun K "states" "Machine.states" s_states f fd) (T : MT K C) (B : Blt mg) : FnOk P w K mg base L2.CX0 1 f fd ["self"] (spStates w C) := by
  refine F.ok sc_states (fun vs H Q E h => ?_) (fun cdv A outer s H vs Q E hr h => ?_)
  · obtain ⟨H0, m, lag, rows, rfl, _⟩ := h
    rfl
  · obtain ⟨H0, m, lag, rows, rfl, ⟨dx, rd, hm, ⟨as, ⟨⟨ep, hrd⟩, pr, _⟩, _⟩, _⟩, q⟩ := h
    refine ⟨_, (pss_one (ps_ret (pe_callB (w_len w) (by rfl) B.len_ (by decide +kernel) (pa_cons (pe_fld (pv 0) rfl) pa_nil)))), _, rfl, m, C, dx, _, _, rfl, hm, T.cl, T.nR, mf_rows _ _, rd, _, ep, rfl, hrd, ?_⟩
    rw [rowsG_len (Paired.length pr)]
    exact q
/-! row_of -/
abbrev s_row_of : Stmt := inClass (top 11) 3
theorem sc_row_of : FnScope ["self", "state", "row", "letter"] ["self", "state"] (defScope s_row_of) := ⟨rfl, rfl, rfl, by decide +kernel, rfl, by decide +kernel, by decide +kernel⟩
def spRowOf (w : World) (C : Addr) : Sp := fun vs H Q _ => ∃ H0 m lag rows st row, vs = [.ref m, .int st] ∧ MachAt w C H0 H m lag rows ∧ RowsOk rows ∧ rowsGet rows st = some row ∧ ∀ H' p, Same H H' → H p = none → RowAt w H' p row → Q (.ref p) H'
theorem ok_row_of {f C : Addr} {fd : FuncData} (F : L2.Fun K "row_of" "Machine.row_of" s_row_of f fd) (T : MT K C) : FnOk P w K mg base L2.CX0 1 f fd ["self", "state"] (spRowOf w C) := by
  have nd := sc_row_of.nd
  refine F.ok sc_row_of (fun vs H Q E h => ?_) (fun cdv A outer s H vs Q E hr h => ?_)
  · obtain ⟨H0, m, lag, rows, st, row, rfl, _⟩ := h
    rfl
  · obtain ⟨H0, m, lag, rows, st, row, rfl, ⟨dx, rd, hm, ⟨as, ⟨⟨ep, hrd⟩, pr, _⟩, _⟩, _⟩, rok, hst, q⟩ := h
    refine ⟨_, (pss_cons (psn 2 nd (pe_ix (w_ixg w (hu9 hr)) (pe_fld (pv 0) rfl) (pv 1) (fun _ _ => rfl)))
  (pss_one (ps_ret (w_gc w (hu9 hr) (own := [("letter", 3)]) rfl nd (w_pi w (pv 2)) (blkOk_by (by kernel_rfl)) (fun _ _ _ _ _ => (pgn 3 nd)) (fun _ _ _ _ _ => pts_nil) (fun _ _ _ _ _ => (pv 3)) (fun _ _ _ _ _ => (pe_ix (w_ixg w (hu9 hr)) (pv 2) (pv 3) (fun _ _ => rfl))))))), ?_⟩
    rcases rows_get (s := st) pr with ⟨row', ra, h1, h2, h3, ⟨xs, ep2, hra, pe⟩, h5⟩ | ⟨h1, _⟩
    · rw [hst] at h1
      obtain rfl := Option.some.inj h1
      have ok := rok.2.1 _ h5
      have kn := ents_nodup pe ok
      have ko := ents_ok pe ok
      refine ⟨_, rfl, m, C, dx, _, _, rfl, hm, T.cl, T.nR, mf_rows _ _, _, rfl, rd, _, ep, _, _, rfl, hrd, KeyAt.int H st, rowsG_ok H, h2, ?_⟩
      refine ⟨_, rfl, ra, xs, ep2, rfl, hra, fun D ep3 hD => ?_⟩
      refine gc_it walk_g (fun i Hi => Same H Hi ∧ ∃ ep, Hi D = some (GO w D (xs.take i) ep)) ⟨fun b o e => by rw [upd_ne (ne_of_none e hD)]; exact e, ep3, upd_same⟩ (fun i Hi _ p => p.1 _ _ hra) ?_ ?_
      · rintro i x H1 Hi hi ⟨sm, ep4, hDi⟩ ⟨rfl, r, hr1, rfl⟩
        have rk : KeyAt Hi r.1 r.2.1 := (ko r (List.mem_of_getElem? hr1)).mono (Tups.of_same sm)
        have kos : KeysOk Hi xs := ko.mono (Tups.of_same sm)
        refine ⟨rfl, ⟨_, rfl, _, rfl, _, rfl, ra, xs, ep2, r.1, r.2.2, rfl, sm _ _ hra, rk, kos, getG_at kn hr1, ?_⟩⟩
        refine ⟨xs.take i, ep4, r.1, hDi, rk, fun y hy => kos y (List.mem_of_mem_take hy), ?_, fun ep5 => ⟨fun b o e => ?_, ep5, ?_⟩⟩
        · rw [List.length_take]
          have h2 : List.length row ≤ 1000 := ok.2.2
          have := Paired.length pe
          exact Nat.lt_of_le_of_lt (by omega : _ ≤ 1000) (by decide)
        · rw [upd_ne (ne_of_none e hD)]
          exact sm _ _ e
        · rw [upd_same, take_put kn hr1]
      · rintro Hi ⟨sm, ep4, hDi⟩
        rw [List.take_of_length_le (Nat.le_refl _)] at hDi
        exact q Hi D sm hD ⟨xs, ep4, hDi, ents_mono (.of_same sm) pe⟩
    · rw [hst] at h1
      cases h1
/-! move -/
abbrev s_move : Stmt := inClass (top 11) 5
theorem sc_move : FnScope ["self", "state", "letter", "row"] ["self", "state", "letter"] (defScope s_move) := ⟨rfl, rfl, rfl, by decide +kernel, rfl, by decide +kernel, by decide +kernel⟩
def spMove (w : World) (C : Addr) : Sp := fun vs H Q _ => ∃ H0 m lag rows st row d v, vs = [.ref m, .int st, v] ∧ MachAt w C H0 H m lag rows ∧ RowsOk rows ∧ rowsGet rows st = some row ∧ KV H d v ∧ Flat d ∧
  (rowGet row (nk d) = none → Q .non H) ∧ ∀ r y, rowGet row (nk d) = some r → KV H (.tup [r.2.1, .int r.2.2]) y → Q y H
theorem ok_move {f C : Addr} {fd : FuncData} (F : L2.Fun K "move" "Machine.move" s_move f fd) (T : MT K C) : FnOk P w K mg base L2.CX0 1 f fd ["self", "state", "letter"] (spMove w C) := by
  have nd := sc_move.nd
  refine F.ok sc_move (fun vs H Q E h => ?_) (fun cdv A outer s H vs Q E hr h => ?_)
  · obtain ⟨H0, m, lag, rows, st, row, d, v, rfl, _⟩ := h
    rfl
  · obtain ⟨H0, m, lag, rows, st, row, d, v, rfl, ⟨dx, rd, hm, ⟨as, ⟨⟨ep, hrd⟩, pr, _⟩, _⟩, _⟩, rok, hst, hv, hfl, q1, q2⟩ := h
    refine ⟨_, (pss_cons (psn 3 nd (pe_ix (w_ixg w (hu9 hr)) (pe_fld (pv 0) rfl) (pv 1) (fun _ _ => rfl)))
  (pss_one (ps_ret (pe_ifExp (pt_cmpR (w_in w (hu9 hr)) (pv 2) (pv 3) (by rfl)) (pe_ix (w_ixg w (hu9 hr)) (pv 3) (pv 2) (fun _ _ => rfl)) pe_non)))), ?_⟩
    rcases rows_get (s := st) pr with ⟨row', ra, h1, h2, h3, ⟨xs, ep2, hra, pe⟩, h5⟩ | ⟨h1, _⟩
    · rw [hst] at h1
      obtain rfl := Option.some.inj h1
      have ok := rok.2.1 _ h5
      have ko := ents_ok pe ok
      have kd := hv.at_ hfl
      refine ⟨_, rfl, m, C, dx, _, _, rfl, hm, T.cl, T.nR, mf_rows _ _, _, rfl, rd, _, ep, _, _, rfl, hrd, KeyAt.int H st, rowsG_ok H, h2, ?_⟩
      refine ⟨_, rfl, _, rfl, ra, xs, ep2, nk d, rfl, hra, kd, ko, _, rfl, ?_⟩
      rcases ents_get (k := nk d) pe with ⟨r, y, g1, g2, g3, g4, g5⟩ | ⟨g1, g2⟩
      · rw [g2]
        exact iteT ⟨_, rfl, _, rfl, ra, xs, ep2, nk d, y, rfl, hra, kd, ko, g2, q2 r y g1 g5⟩
      · rw [g2]
        exact iteF (q1 g1)
    · rw [hst] at h1
      cases h1
/-! rows -/
abbrev s_rows : Stmt := inClass (top 11) 2
theorem sc_rows : FnScope ["self", "state"] ["self"] (defScope s_rows) := ⟨rfl, rfl, rfl, by decide +kernel, rfl, by decide +kernel, by decide +kernel⟩
def spRows (w : World) (C : Addr) : Sp := fun vs H Q _ => ∃ H0 m lag rows, vs = [.ref m] ∧ MachAt w C H0 H m lag rows ∧ RowsOk rows ∧ ∀ H' a, Same H H' → RowsAt w H H' a rows → Q (.ref a) H'
theorem ok_rows {f C : Addr} {fd : FuncData} (F : L2.Fun K "rows" "Machine.rows" s_rows f fd) (T : MT K C) (M_row_of : HasM P w K mg base L2.CX0 1 C "row_of" ["self", "state"] (spRowOf w C)) : FnOk P w K mg base L2.CX0 2 f fd ["self"] (spRows w C) := by
  have nd := sc_rows.nd
  refine F.ok sc_rows (fun vs H Q E h => ?_) (fun cdv A outer s H vs Q E hr h => ?_)
  · obtain ⟨H0, m, lag, rows, rfl, _⟩ := h
    rfl
  · obtain ⟨H0, m, lag, rows, rfl, MA, rok, q⟩ := h
    obtain ⟨dx, rd, hm, ⟨as, ⟨⟨ep, hrd⟩, pr, _⟩, _⟩, _⟩ := id MA
    refine ⟨_, (pss_one (ps_ret (w_gc w (hu9 hr) (own := [("state", 1)]) rfl nd (w_pi w (pe_fld (pv 0) rfl)) (blkOk_by (by kernel_rfl)) (fun _ _ _ _ _ => (pgn 1 nd)) (fun _ _ _ _ _ => pts_nil) (fun _ _ _ _ _ => (pv 1)) (fun _ _ _ _ _ => (pe_hm M_row_of (hr.mono (by decide)) (pv 0) (pa_cons (pv 1) pa_nil)))))), ?_⟩
    have hl := Paired.length pr
    have kn := rowsG_nodup hl rok.1
    refine ⟨_, rfl, m, C, dx, _, _, rfl, hm, T.cl, T.nR, mf_rows _ _, rd, _, ep, rfl, hrd, fun D ep3 hD => ?_⟩
    refine gc_it walk_g (fun i Hi => Same H Hi ∧ ∃ bs ep, Hi D = some (GO w D (rowsG (rows.take i) bs) ep) ∧ Paired (fun ra (r : Int × GX.Row) => RowAt w Hi ra r.2) bs (rows.take i) ∧ (D :: bs).Nodup ∧ ∀ b ∈ bs, H b = none)
      ⟨fun b o e => by rw [upd_ne (ne_of_none e hD)]; exact e, [], ep3, by rw [upd_same]; rfl, .nil, by simp, fun b hb => nomatch hb⟩ (fun i Hi _ p => p.1 _ _ hrd) ?_ ?_
    · rintro i x H1 Hi hi ⟨sm, bs, ep4, hDi, pb, nb, fb⟩ ⟨rfl, r0, hr0, rfl⟩
      rw [rowsG_len hl] at hi
      obtain ⟨r, hri⟩ : ∃ r, rows[i]? = some r := ⟨_, List.getElem?_eq_getElem hi⟩
      obtain ⟨ra, hra, hrow⟩ := Paired.at' pr hri
      have e0 := rowsG_at hri hra
      rw [hr0] at e0
      obtain rfl := Option.some.inj e0
      refine ⟨rfl, ⟨_, rfl, _, rfl, m, dx, _, rfl, sm _ _ hm, mf_no _ _ (by decide +kernel) (by decide +kernel), _, rfl, ?_⟩⟩
      refine ⟨H0, m, lag, rows, r.1, r.2, rfl, MA.same sm, rok, rowsGet_at rok.1 hri, fun H2 p sm2 hp hrow2 => ?_⟩
      have nDp : D ≠ p := ne_of_none hDi hp
      have hlen : (rowsG (rows.take i) bs).length < sizeLine := by
        rw [rowsG_len (Paired.length pb), List.length_take]
        have h2 : rows.length ≤ 1000 := rok.2.2
        exact Nat.lt_of_le_of_lt (by omega : _ ≤ 1000) (by decide)
      refine ⟨rowsG (rows.take i) bs, ep4, .num r.1, sm2 _ _ hDi, KeyAt.int _ r.1, rowsG_ok _, hlen, fun ep5 => ?_⟩
      have tt : Tups H2 (upd H2 D (GO w D (putG (rowsG (rows.take i) bs) (.num r.1) (.int r.1) (.ref p)) ep5)) := fun b xs e => by
        rw [upd_ne (fun z => by rw [z, sm2 _ _ hDi] at e; cases e)]
        exact e
      obtain ⟨s1, ⟨ep6, s2⟩, s3, s4, s5⟩ := rows_step (H2 := upd H2 D (GO w D (putG (rowsG (rows.take i) bs) (.num r.1) (.int r.1) (.ref p)) ep5)) sm hD ⟨_, hDi⟩ pb nb fb (fun b o hb e => by rw [upd_ne hb]; exact sm2 _ _ e) hp
        (hrow2.keep tt fun o e => by rw [upd_ne nDp.symm]; exact e) (take_fresh rok.1 hri) upd_same (fun b xs e => tt b xs (sm2 b _ e))
      have e3 : rows.take (i + 1) = rows.take i ++ [r] := by rw [List.take_add_one, hri]; rfl
      rw [e3]
      exact ⟨s1, bs ++ [p], ep6, s2, s3, s4, s5⟩
    · rintro Hi ⟨sm, bs, ep4, hDi, pb, nb, fb⟩
      rw [rowsG_len hl, List.take_of_length_le (Nat.le_refl _)] at hDi pb
      exact q Hi D sm ⟨bs, ⟨⟨ep4, hDi⟩, pb, nb⟩, fun b hb => by
        rcases List.mem_cons.mp hb with rfl | hb
        · exact hD
        · exact fb b hb⟩
end
end K29
end

section
set_option Elab.async false
set_option linter.all false
set_option maxRecDepth 100000
set_option maxHeartbeats 4000000
namespace K29
open PySem PySem.Spec PyProof.Rows L2 GX
/-- where the machine comes, or what it writes -/
def runOf (rows : Rows) : Int → List KD → List KD → Int ⊕ List KD
  | _, [], out => .inr out
  | st, l :: ls, out => match rowsGet rows st with
    | none => .inl st
    | some row => match rowGet row (nk l) with
      | none => .inl st
      | some r => runOf rows r.2.2 ls (match r.2.1 with | .non => out | d => out ++ [d])
def RowsClosed (rows : Rows) : Prop := ∀ x ∈ rows, ∀ r ∈ x.2, (rowsGet rows r.2.2).isSome
theorem rowsGet_mem {rows : Rows} {st : Int} {row : GX.Row} (h : rowsGet rows st = some row) : (st, row) ∈ rows := by
  unfold rowsGet at h
  cases e : rows.find? fun r => decide (r.1 = st) with
  | none => rw [e] at h; cases h
  | some r =>
    rw [e] at h
    obtain rfl : r.2 = row := Option.some.inj h
    have h1 : r.1 = st := by simpa using List.find?_some e
    rw [← h1]
    exact List.mem_of_find?_eq_some e
theorem rowGet_mem {row : GX.Row} {k : NK} {r : KD × KD × Int} (h : rowGet row k = some r) : r ∈ row := List.mem_of_find?_eq_some h
section
variable {P : Program} {w : World} {K : PySem.W.Frag} {mg : Str → Option Value} {base : Heap}
abbrev s_write : Stmt := inClass (top 11) 6
theorem sc_write : FnScope ["self", "letters", "state", "out", "letter", "told", "digit"] ["self", "letters"] (defScope s_write) := ⟨rfl, rfl, rfl, by decide +kernel, rfl, by decide +kernel, by decide +kernel⟩
def spWrite (K : PySem.W.Frag) (w : World) (C CB : Addr) : Sp := fun vs H Q E => ∃ H0 m la lag rows ws word, vs = [.ref m, .ref la] ∧ MachAt w C H0 H m lag rows ∧ RowsOk rows ∧ RowsClosed rows ∧ (rowsGet rows 0).isSome ∧
  SqL K H la ws ∧ KVs H word ws ∧ (∀ d ∈ word, Flat d) ∧ word.length ≤ 1000 ∧
  (∀ st, runOf rows 0 word [] = .inl st → ∀ d H', H d = none → Same H H' → H' d = some (.xd [("what", .str "letter"), ("state", .int st)]) → E (.ref CB) (some d) H') ∧
  ∀ outs, runOf rows 0 word [] = .inr outs → ∀ H' p us, Same H H' → H p = none → H' p = some (.lst us) → KVs H' outs us → Q (.ref p) H'
theorem ok_write {f C CB : Addr} {fd : FuncData} (F : L2.Fun K "write" "Machine.write" s_write f fd) (T : MT K C) (M_move : HasM P w K mg base L2.CX0 1 C "move" ["self", "state", "letter"] (spMove w C))
    (X_BadMachine : HasX P w K mg base 1 "BadMachine" CB ["self", "state", "what"] (spEx2 CB "state" "what")) : FnOk P w K mg base (L2.CX P w) 3 f fd ["self", "letters"] (spWrite K w C CB) := by
  have nd := sc_write.nd
  refine F.okX sc_write (fun vs H Q E h => ?_) (fun cdv A outer s H vs Q E hr h => ?_)
  · obtain ⟨H0, m, la, lag, rows, ws, word, rfl, _⟩ := h
    rfl
  · obtain ⟨H0, m, la, lag, rows, ws, word, rfl, MA, rok, rcl, r0, hla, hw, hfl, hlen, qE, q⟩ := h
    obtain ⟨dx, rd, hm, _⟩ := id MA
    refine ⟨_, (pss_cons (psn 2 nd pe_int)
  (pss_cons (psn 3 nd (pe_lst pa_nil))
  (pss_cons (ps_for (passes_of rfl) rfl (k_pil K (pv 1)) (pgn 4 nd)
  (pss_cons (psn 5 nd (pe_hm M_move (hr.mono (by decide)) (pv 0) (pa_cons (pv 2) (pa_cons (pv 4) pa_nil))))
  (pss_cons (ps_if (pt_cmpR op_isN (pv 5) pe_non (nomark _))
  (pss_one (ps_raise rfl (takes_of rfl rfl rfl rfl) (pmk_ex2 X_BadMachine (hr.mono (by decide)) (by rfl) (pa_cons (pv 2) (pa_cons pe_str pa_nil)))))
  pss_nil)
  (pss_cons (ps_asg (pv 5) (k_ptup K (pgs_cons (pgn 6 nd) (pgs_cons (pgn 2 nd) pgs_nil))))
  (pss_one (ps_if (pt_cmpR op_notN (pv 6) pe_non (nomark _))
  (pss_one (ps_expr (k_append K (pv 3) (pa_cons (pv 6) pa_nil))))
  pss_nil))))))
  (pss_one (ps_ret (pv 3)))))), ?_⟩
    refine ⟨Nat.zero_le _, fun p hp => ?_⟩
    have s0 : Same H (upd H p (.lst [])) := fun b o e => by rw [upd_ne (ne_of_none e hp)]; exact e
    refine ⟨_, rfl, la, rfl, ⟨ws, s0.seq hla⟩, for_it (walk_list (xs := ws)) (fun i σ Hi => ∃ st outs us a b c, σ = [some (.ref m), some (.ref la), some (.int st), some (.ref p), a, b, c] ∧ runOf rows 0 word [] = runOf rows st (word.drop i) outs ∧ (rowsGet rows st).isSome ∧
      Same H Hi ∧ Hi p = some (.lst us) ∧ KVs Hi outs us ∧ us.length ≤ i) ⟨0, [], [], none, none, none, rfl, rfl, r0, s0, upd_same, .nil, Nat.le_refl _⟩ (fun i σ Hi _ ⟨_, _, _, _, _, _, _, _, _, sm, _⟩ => sm.seq hla) ?_ ?_⟩
    · rintro i x σ H1 Hi hi ⟨st, outs, us, a, b, c, rfl, er, hst, sm, hpi, kvo, hul⟩ ⟨rfl, hx⟩
      obtain ⟨d, hd, kvd⟩ := hw.at hx
      obtain ⟨row, hrow⟩ := Option.isSome_iff_exists.mp hst
      have ed : word.drop i = d :: word.drop (i + 1) := by
        obtain ⟨h1, h2⟩ := List.getElem?_eq_some_iff.mp hd
        rw [List.drop_eq_getElem_cons h1, h2]
      have kvi : KV Hi d x := kvd.mono (Tups.of_same sm)
      rw [ed] at er
      have er2 : runOf rows st (d :: word.drop (i + 1)) outs = (match rowGet row (nk d) with | none => .inl st | some r => runOf rows r.2.2 (word.drop (i + 1)) (match r.2.1 with | .non => outs | d => outs ++ [d])) := by
        rw [runOf, hrow]
      rw [er2] at er
      refine ⟨_, rfl, m, dx, _, rfl, sm _ _ hm, mf_no _ _ (by decide +kernel) (by decide +kernel), _, rfl, _, rfl, ?_⟩
      refine ⟨H0, m, lag, rows, st, row, d, x, rfl, MA.same sm, rok, hrow, kvi, hfl d (List.mem_of_getElem? hd), fun e1 => ?_, fun r y e1 ky => ?_⟩
      · rw [e1] at er
        refine ⟨_, rfl, rfl, _, rfl, iteT ?_⟩
        refine ⟨_, rfl, _, _, rfl, fun d H' hd sm' hx => ?_⟩
        exact qE st er d H' (sm.free hd) (sm.trans sm') hx
      · rw [e1] at er
        cases ky with
        | @tup ta tvs _ hta hts =>
        obtain ⟨dv, tv, rfl⟩ : ∃ dv tv, tvs = [dv, tv] := by
          cases hts with
          | cons h1 h2 => cases h2 with
            | cons h3 h4 => cases h4; exact ⟨_, _, rfl⟩
        cases hts with
        | cons h1 h2 =>
        cases h2 with
        | cons h3 h4 =>
        cases h3
        refine ⟨_, rfl, rfl, _, rfl, iteF ?_⟩
        refine ⟨_, rfl, ta, _, rfl, SqT.of hta, rfl, _, _, rfl, _, _, rfl, rfl, ?_⟩
        refine ⟨_, rfl, rfl, _, rfl, ?_⟩
        have hrm := rowGet_mem e1
        have hcl := rcl _ (rowsGet_mem hrow) r hrm
        have hdg := ((rok.2.1 _ (rowsGet_mem hrow)).2.1 r hrm).2
        obtain ⟨rl, rdg, rt⟩ := r
        dsimp only at h1 er hdg hcl ⊢
        rcases hdg with eg | ⟨n, eg⟩
        · subst eg
          cases h1
          refine iteF ?_
          exact ⟨rt, outs, us, _, _, _, rfl, er, hcl, sm, hpi, kvo, by omega⟩
        · subst eg
          cases h1
          refine iteT ?_
          refine ⟨_, rfl, .inl ⟨rfl, _, SqL.of hpi⟩, _, rfl, p, _, _, rfl, rfl, hpi, ?_, ?_⟩
          · have hl := KVs.len hw
            exact Nat.lt_of_le_of_lt (by omega : us.length ≤ 1000) (by decide)
          have tt : Tups Hi (upd Hi p (.lst (us ++ [.int n]))) := fun b xs e => by
            rw [upd_ne (fun z => by rw [z, hpi] at e; cases e)]
            exact e
          refine ⟨rt, outs ++ [.int n], us ++ [.int n], _, _, _, rfl, er, hcl, fun b o e => ?_, upd_same, (kvo.mono tt).snoc (.int n), by rw [List.length_append]; simpa using hul⟩
          rw [upd_ne (ne_of_none e hp)]
          exact sm _ _ e
    · rintro σ Hi ⟨st, outs, us, a, b, c, rfl, er, hst, sm, hpi, kvo, hul⟩
      have hl := KVs.len hw
      rw [List.drop_of_length_le (by omega)] at er
      exact ⟨_, rfl, q outs er Hi p us sm hp hpi kvo⟩
end
end K29
end

section
set_option Elab.async false
set_option linter.all false
set_option maxRecDepth 100000
set_option maxHeartbeats 4000000
namespace K29
open PySem PySem.Spec PyProof.Rows L2 GX
/-! ### keys of letters -/
theorem alike_pairs : ∀ xs ys : List KD, PySem.W.alikeAll (xs.map pairData) (ys.map pairData) = true
  | [], _ => by simp [PySem.W.alikeAll]
  | _ :: _, [] => by simp [PySem.W.alikeAll]
  | x :: xs, y :: ys => by
    show PySem.W.alikeAll (pairData x :: xs.map pairData) (pairData y :: ys.map pairData) = true
    rw [PySem.W.alikeAll, alike_pairs xs ys]
    simp [PySem.W.alike, pairData, PySem.W.alikeAll]
theorem depth_pairs : ∀ xs : List KD, PyData.depthAll (xs.map pairData) ≤ 1
  | [] => by simp [PyData.depthAll]
  | x :: xs => by
    show PyData.depthAll (pairData x :: xs.map pairData) ≤ 1
    have := depth_pairs xs
    rw [PyData.depthAll]
    simp only [pairData, PyData.depth, PyData.depthAll]
    omega
theorem good_tup {d : KD} (h : goodLetter d = true) : ∃ ds, d = .tup ds ∧ ds.all goodSign = true := by
  cases d with
  | tup ds => exact ⟨ds, rfl, h⟩
  | _ => cases h
theorem letters_alike {ls : List KD} (h : ∀ d ∈ ls, goodLetter d = true) : PySem.W.AllAlike (ls.map letterData) := by
  intro d hd d' hd'
  obtain ⟨b, hb, rfl⟩ := List.mem_map.mp hd
  obtain ⟨b', hb', rfl⟩ := List.mem_map.mp hd'
  obtain ⟨ds, rfl, _⟩ := good_tup (h b hb)
  obtain ⟨ds', rfl, _⟩ := good_tup (h b' hb')
  show PySem.W.alike (.tuple (ds.map pairData)) (.tuple (ds'.map pairData)) = true
  rw [PySem.W.alike]
  exact alike_pairs ds ds'
theorem letters_sortable {ls : List KD} (h : ∀ d ∈ ls, goodLetter d = true) (f : ∀ d ∈ ls, Flat d) : PySem.W.Sortable (ls.map letterData) := .inl fun d hd => by
  obtain ⟨b, hb, rfl⟩ := List.mem_map.mp hd
  obtain ⟨ds, rfl, _⟩ := good_tup (h b hb)
  cases ds with
  | nil => exact absurd rfl ((f _ hb).2 [] rfl).2
  | cons x xs => exact ⟨_, _, rfl⟩
theorem letters_depth {ls : List KD} (h : ∀ d ∈ ls, goodLetter d = true) : ∀ d, d ∈ ls.map letterData → d.depth ≤ 40 := fun d hd => by
  obtain ⟨b, hb, rfl⟩ := List.mem_map.mp hd
  obtain ⟨ds, rfl, _⟩ := good_tup (h b hb)
  show PyData.depth (.tuple (ds.map pairData)) ≤ 40
  have := depth_pairs ds
  rw [PyData.depth]
  omega
/-! ### what the making of a machine comes to -/
inductive Err where
  | many (what : Str) | bad (st : Int) (what : Str)
def dueLoop (rows : Rows) : List Int → Option Err
  | [] => none
  | st :: ns => match rowsGet rows st with
    | none => none
    | some row => if row.any (fun r => !goodLetter r.1) = true then some (.bad st "letter") else if row.any (fun r => (rowsGet rows r.2.2).isNone) = true then some (.bad st "state") else dueLoop rows ns
def dueOf (lag : Int) (rows : Rows) (ns : List Int) : Option Err :=
  if lag > 12 then some (.many "lag") else if rows.length > 400 then some (.many "states") else if (rowsGet rows 0).isNone then some (.bad 0 "missing") else dueLoop rows ns
theorem sorted_uniq : ∀ {l m : List Int}, l.Perm m → l.Pairwise (· ≤ ·) → m.Pairwise (· ≤ ·) → l = m
  | [], m, p, _, _ => (List.Perm.nil_eq p).symm ▸ rfl
  | x :: l, [], p, _, _ => by
    have := p.length_eq
    simp at this
  | x :: l, y :: m, p, h, g => by
    rw [List.pairwise_cons] at h g
    have hx : x ∈ y :: m := p.subset List.mem_cons_self
    have hy : y ∈ x :: l := p.symm.subset List.mem_cons_self
    have e : x = y := by
      have h1 : y ≤ x := by
        rcases List.mem_cons.mp hx with e | e
        · omega
        · exact g.1 x e
      have h2 : x ≤ y := by
        rcases List.mem_cons.mp hy with e | e
        · omega
        · exact h.1 y e
      omega
    subst e
    rw [sorted_uniq (List.Perm.cons_inv p) h.2 g.2]
/-- the states in order -/
def Order (rows : Rows) (ns : List Int) : Prop := ns.Perm (rows.map (·.1)) ∧ ns.Pairwise (· ≤ ·)
theorem Order.uniq {rows : Rows} {ns ms : List Int} (h : Order rows ns) (g : Order rows ms) : ns = ms := sorted_uniq (h.1.trans g.1.symm) h.2 g.2
/-- the machine's own table: each row a rearranged one -/
def RowsPerm (ms rows : Rows) : Prop := (ms.map (·.1)).Perm (rows.map (·.1)) ∧ ∀ x ∈ ms, ∃ row, rowsGet rows x.1 = some row ∧ x.2.Perm row
/-- what stands in an error -/
def ErrIs (CM CB : Addr) (e : Err) (cls : Value) (d : Option Addr) (H' : Hp) : Prop :=
  match e with
  | .many what => cls = .ref CM ∧ ∃ dd, d = some dd ∧ H' dd = some (.xd [("what", .str what)])
  | .bad st what => cls = .ref CB ∧ ∃ dd, d = some dd ∧ H' dd = some (.xd [("what", .str what), ("state", .int st)])
section
variable {P : Program} {w : World} {K : PySem.W.Frag} {mg : Str → Option Value} {base : Heap}
abbrev s_init : Stmt := inClass (top 11) 0
theorem sc_init : FnScope ["self", "lag", "rows", "state", "row", "letter"] ["self", "lag", "rows"] (defScope s_init) := ⟨rfl, rfl, rfl, by decide +kernel, rfl, by decide +kernel, by decide +kernel⟩
def spInit (w : World) (C CM CB : Addr) : Sp := fun vs H Q E => ∃ m dx a lag rows as ns, vs = [.ref m, .int lag, .ref a] ∧ H m = some (.ins C dx []) ∧ RowsIn w H a as rows ∧ RowsOk rows ∧ Order rows ns ∧
  (∀ e, dueOf lag rows ns = some e → ∀ cls d H', Same (del H m) H' → ErrIs CM CB e cls d H' → E cls d H') ∧
  (dueOf lag rows ns = none → ∀ H' rd ms, Same (del H m) H' → H' m = some (.ins C dx (mf lag rd)) → RowsAt w (del H m) H' rd ms → RowsPerm ms rows → RowsOk ms → Q .non H')
theorem perm_map {α β : Type} (f : α → β) : ∀ {l m : List β}, l.Perm m → ∀ xs : List α, m = xs.map f → ∃ ys : List α, ys.Perm xs ∧ ys.map f = l := by
  intro l m p
  induction p with
  | nil => intro xs e; exact ⟨xs, .refl _, e.symm⟩
  | cons x p ih =>
    intro xs e
    cases xs with
    | nil => cases e
    | cons y ys =>
      rw [List.map_cons] at e
      injection e with e1 e2
      obtain ⟨zs, h1, h2⟩ := ih ys e2
      exact ⟨y :: zs, h1.cons y, by rw [List.map_cons, h2, e1]⟩
  | swap x y l =>
    intro xs e
    match xs, e with
    | a :: b :: zs, e =>
      rw [List.map_cons, List.map_cons] at e
      injection e with e1 e2
      injection e2 with e2 e3
      exact ⟨b :: a :: zs, .swap a b zs, by rw [List.map_cons, List.map_cons, ← e1, ← e2, ← e3]⟩
  | trans p q ih1 ih2 =>
    intro xs e
    obtain ⟨ys, h1, h2⟩ := ih2 xs e
    obtain ⟨zs, h3, h4⟩ := ih1 ys h2.symm
    exact ⟨zs, h3.trans h1, h4⟩
theorem zip_ents {H : Hp} : ∀ {xs : List GRow} {row : GX.Row}, Paired (EntAt H) xs row → (∀ z ∈ xs.zip row, EntAt H z.1 z.2) ∧ (xs.zip row).map (fun z => z.1) = xs ∧ (xs.zip row).map (fun z => z.2) = row
  | _, _, .nil => ⟨fun z h => absurd h (by simp), rfl, rfl⟩
  | _, _, .cons h t => by
    obtain ⟨h1, h2, h3⟩ := zip_ents t
    refine ⟨fun z hz => ?_, by rw [List.zip_cons_cons, List.map_cons, h2], by rw [List.zip_cons_cons, List.map_cons, h3]⟩
    rcases List.mem_cons.mp hz with rfl | hz
    · exact h
    · exact h1 z hz
end
end K29
end

section
set_option Elab.async false
set_option linter.all false
set_option maxRecDepth 100000
set_option maxHeartbeats 4000000
namespace K29
open PySem PySem.Spec PyProof.Rows L2 GX
section
variable {P : Program} {w : World} {K : PySem.W.Frag} {mg : Str → Option Value} {base : Heap}
/-- between two states -/
def IInv (w : World) (C : Addr) (H : Hp) (m dx a : Addr) (lag : Int) (rows : Rows) (ns : List Int) (sl rd : Addr) (i : Nat) (σ : L2.St) (Hi : Hp) : Prop :=
  ∃ (ms : Rows) (bs : List Addr) (ep : Nat) (x3 x4 x5 : Option V), σ = [some (.ref m), some (.int lag), some (.ref a), x3, x4, x5] ∧ Same (del H m) Hi ∧ Hi m = some (.ins C dx (mf lag rd)) ∧ Hi sl = some (.lst (ns.map V.int)) ∧
    Hi rd = some (GO w rd (rowsG ms bs) ep) ∧ Paired (fun ra (r : Int × GX.Row) => RowAt w Hi ra r.2) bs ms ∧ (rd :: bs).Nodup ∧ (∀ b ∈ bs, del H m b = none) ∧ ms.map (·.1) = ns.take i ∧ (∀ x ∈ ms, ∃ row, rowsGet rows x.1 = some row ∧ x.2.Perm row) ∧ dueLoop rows ns = dueLoop rows (ns.drop i)
theorem ok_init {f C CM CB fK : Addr} {fd fdK : FuncData} (F : L2.Fun K "__init__" "Machine.__init__" s_init f fd) (T : MT K C) (B : Blt mg) (C_is_letter : Has P w K mg base L2.CX0 2 "is_letter" ["letter"] spIsLetter)
    (g_letter_key : mg "letter_key" = some (.ref fK)) (b_letter_key : Binds K fdK ["letter"] []) (F_letter_key : FnOk P w K mg base L2.CX0 2 fK fdK ["letter"] (spLetterKey K))
    (g_MOST_LAG : ∃ t, mg "MOST_LAG" = some (.int 12 t)) (g_MOST_STATES : ∃ t, mg "MOST_STATES" = some (.int 400 t))
    (X_TooMany : HasX P w K mg base 1 "TooMany" CM ["self", "what"] (spEx1 CM "what")) (X_BadMachine : HasX P w K mg base 1 "BadMachine" CB ["self", "state", "what"] (spEx2 CB "state" "what")) : FnOk P w K mg base (L2.CX P w) 6 f fd ["self", "lag", "rows"] (spInit w C CM CB) := by
  have nd := sc_init.nd
  obtain ⟨t1, g1⟩ := g_MOST_LAG
  obtain ⟨t2, g2⟩ := g_MOST_STATES
  refine F.okX sc_init (fun vs H Q E h => ?_) (fun cdv A outer s H vs Q E hr h => ?_)
  · obtain ⟨m, dx, a, lag, rows, as, ns, rfl, _⟩ := h
    rfl
  · obtain ⟨m, dx, a, lag, rows, as, ns, rfl, hm, RI, rok, ord, qE, q⟩ := h
    refine ⟨_, (pss_cons (ps_if (pt_cmpR op_gt (pv 1) (pe_glob (v := .int 12) (by rfl) g1 ⟨_, rfl⟩) (nomark _))
  (pss_one (ps_raise rfl (takes_of rfl rfl rfl rfl) (pmk_ex1 X_TooMany (hr.mono (by decide)) (by rfl) (pa_cons pe_str pa_nil))))
  pss_nil)
  (pss_cons (ps_if (pt_cmpR op_gt (pe_callB (w_len w) (by rfl) B.len_ (by decide +kernel) (pa_cons (pv 2) pa_nil)) (pe_glob (v := .int 400) (by rfl) g2 ⟨_, rfl⟩) (nomark _))
  (pss_one (ps_raise rfl (takes_of rfl rfl rfl rfl) (pmk_ex1 X_TooMany (hr.mono (by decide)) (by rfl) (pa_cons pe_str pa_nil))))
  pss_nil)
  (pss_cons (ps_if (pt_cmpR (w_nin w (hu9 hr)) pe_int (pv 2) (by rfl))
  (pss_one (ps_raise rfl (takes_of rfl rfl rfl rfl) (pmk_ex2 X_BadMachine (hr.mono (by decide)) (by rfl) (pa_cons pe_int (pa_cons pe_str pa_nil)))))
  pss_nil)
  (pss_cons (ps_fld (pv 0) (pv 1) rfl)
  (pss_cons (ps_fld (pv 0) (w_new w) rfl)
  (pss_one (ps_for (passes_of rfl) rfl (k_pil K (pe_callB (w_sorted w) (by rfl) B.sorted_ (by decide +kernel) (pa_cons (pv 2) pa_nil))) (pgn 3 nd)
  (pss_cons (psn 4 nd (pe_ix (w_ixg w (hu9 hr)) (pv 2) (pv 3) (fun _ _ => rfl)))
  (pss_cons (ps_for (passes_of rfl) rfl (w_pi w (pv 4)) (pgn 5 nd)
  (pss_one (ps_if (pt_not (pt_val (pe_hc C_is_letter (hr.mono (by decide)) (by rfl) (pa_cons (pv 5) pa_nil))))
  (pss_one (ps_raise rfl (takes_of rfl rfl rfl rfl) (pmk_ex2 X_BadMachine (hr.mono (by decide)) (by rfl) (pa_cons (pv 3) (pa_cons pe_str pa_nil)))))
  pss_nil)))
  (pss_cons (ps_for (passes_of rfl) rfl (w_pi w (pv 4)) (pgn 5 nd)
  (pss_one (ps_if (pt_cmpR (w_nin w (hu9 hr)) (pe_ix (k_ixt K) (pe_ix (w_ixg w (hu9 hr)) (pv 4) (pv 5) (fun _ _ => rfl)) pe_int (fun _ _ => rfl)) (pv 2) (by rfl))
  (pss_one (ps_raise rfl (takes_of rfl rfl rfl rfl) (pmk_ex2 X_BadMachine (hr.mono (by decide)) (by rfl) (pa_cons (pv 3) (pa_cons pe_str pa_nil)))))
  pss_nil)))
  (pss_one (ps_asg (w_gc w (hu9 hr) (own := [("letter", 5)]) rfl nd (k_pil K (pe_callBK (w_sortF K w F_letter_key (hr.mono (by decide)) b_letter_key (hu42 hr)) (by rfl) B.sorted_ (by decide +kernel) (pa_cons (pv 4) pa_nil) (pk_cons (pe_glob (v := .ref fK) (by rfl) g_letter_key rfl) pk_nil))) (blkOk_by (by kernel_rfl)) (fun _ _ _ _ _ => (pgn 5 nd)) (fun _ _ _ _ _ => pts_nil) (fun _ _ _ _ _ => (pv 5)) (fun _ _ _ _ _ => (pe_tup (pa_cons (pe_ix (k_ixt K) (pe_ix (w_ixg w (hu9 hr)) (pv 4) (pv 5) (fun _ _ => rfl)) pe_int (fun _ _ => rfl)) (pa_cons (pe_ix (k_ixt K) (pe_ix (w_ixg w (hu9 hr)) (pv 4) (pv 5) (fun _ _ => rfl)) pe_int (fun _ _ => rfl)) pa_nil))))) (pg_sub (pe_fld (pv 0) rfl) (pv 3) (w_set w (hu9 hr))))))))))))))), ?_⟩
    obtain ⟨⟨ep, hA⟩, pA, nA⟩ := id RI
    have hl := Paired.length pA
    have smd : Same (del H m) H := fun b o e => by
      by_cases hb : b = m
      · rw [hb, del_same] at e; cases e
      · rw [del_ne hb] at e; exact e
    refine ⟨_, rfl, _, _, rfl, rfl, _, rfl, ?_⟩
    refine ite2 (fun h1 => ?_) (fun h1 => ?_)
    · refine ⟨_, rfl, fun d H' hd sm hx => qE (.many "lag") ?_ _ _ H' (smd.trans sm) ⟨rfl, d, rfl, hx⟩⟩
      unfold dueOf
      rw [if_pos (by simpa using h1)]
    refine ⟨_, rfl, a, _, ep, rfl, hA, _, _, rfl, rfl, _, rfl, ?_⟩
    rw [rowsG_len hl]
    refine ite2 (fun h2 => ?_) (fun h2 => ?_)
    · refine ⟨_, rfl, fun d H' hd sm hx => qE (.many "states") ?_ _ _ H' (smd.trans sm) ⟨rfl, d, rfl, hx⟩⟩
      unfold dueOf
      have h3 : rows.length > 400 := by
        have := of_decide_eq_true h2
        omega
      rw [if_neg (by simpa using h1), if_pos h3]
    have h2' : ¬ rows.length > 400 := fun z => h2 (decide_eq_true (by omega))
    refine ⟨_, rfl, a, _, ep, _, rfl, hA, KeyAt.int H 0, rowsG_ok H, _, rfl, ?_⟩
    rcases rows_get (s := 0) pA with ⟨row0, ra0, k1, k2, _⟩ | ⟨k1, k2, _⟩
    rotate_left
    · rw [k2]
      refine iteT ⟨_, _, rfl, fun d H' hd sm hx => qE (.bad 0 "missing") ?_ _ _ H' (smd.trans sm) ⟨rfl, d, rfl, hx⟩⟩
      unfold dueOf
      rw [if_neg (by simpa using h1), if_neg h2', k1]
      rfl
    rw [k2]
    refine iteF ?_
    have hdue : dueOf lag rows ns = dueLoop rows ns := by
      unfold dueOf
      rw [if_neg (by simpa using h1), if_neg h2', k1]
      rfl
    rw [hdue] at qE q
    refine ⟨_, rfl, _, rfl, m, C, dx, _, rfl, hm, T.cl, T.nL, by decide, ?_⟩
    intro rd ep1 hrd
    have nmr : m ≠ rd := ne_of_none upd_same hrd
    have hrd0 : H rd = none := by rw [upd_ne nmr.symm] at hrd; exact hrd
    refine ⟨_, rfl, m, C, dx, _, rfl, by rw [upd_ne nmr, upd_same], T.cl, T.nR, by show 1 < 1000; decide, ?_⟩
    have ham : a ≠ m := ne_of hA hm (by intro z; cases z)
    have hard : a ≠ rd := ne_of_none hA hrd0
    refine ⟨_, rfl, a, _, ep, rows.map (·.1), rfl, by rw [upd_ne ham, upd_ne hard, upd_ne ham]; exact hA, rowsG_vals hl, fun ns' sl p1 p2 hsl => ?_⟩
    obtain rfl := Order.uniq (rows := rows) ⟨p1, p2⟩ ord
    have nms : m ≠ sl := ne_of_none upd_same hsl
    have hsl1 : upd (upd H m (.ins C dx (putF "own_lag" (.int lag) []))) rd (GO w rd [] ep1) sl = none := by
      rw [upd_ne nms.symm] at hsl
      exact hsl
    have nrs : rd ≠ sl := ne_of_none upd_same hsl1
    have hsl0 : H sl = none := by
      rw [upd_ne nrs.symm, upd_ne nms.symm] at hsl1
      exact hsl1
    refine ⟨sl, rfl, ⟨_, SqL.of upd_same⟩, for_it (walk_list (xs := ns'.map V.int)) (fun i σ Hi => IInv w C H m dx a lag rows ns' sl rd i σ Hi) ?_ (fun i σ Hi _ ⟨_, _, _, _, _, _, _, _, _, e, _⟩ => SqL.of e) ?_ ?_⟩
    · refine ⟨[], [], ep1, none, none, none, rfl, fun b o e => ?_, ?_, upd_same, ?_, .nil, by simp, by simp, by simp, by simp, by simp⟩
      · have hbm : b ≠ m := fun z => by rw [z, del_same] at e; cases e
        rw [del_ne hbm] at e
        rw [upd_ne (ne_of_none e hsl0), upd_ne hbm, upd_ne (ne_of_none e hrd0), upd_ne hbm]
        exact e
      · rw [upd_ne nms, upd_same]
        rfl
      · rw [upd_ne nrs, upd_ne nmr.symm, upd_same]
        rfl
    · rintro i x σ H1 Hi hi ⟨ms, bs, ep2, x3, x4, x5, rfl, sm, hmi, hsi, hri, pb, nb, fb, em, pm, ed⟩ ⟨rfl, hx⟩
      rw [List.length_map] at hi
      obtain ⟨st, hst⟩ : ∃ st, ns'[i]? = some st := ⟨_, List.getElem?_eq_getElem hi⟩
      obtain rfl : x = .int st := by
        rw [List.getElem?_map, hst] at hx
        exact (Option.some.inj hx).symm
      have off : ∀ b o, b ≠ m → H b = some o → Hi b = some o := fun b o hb e => sm b o (by rw [del_ne hb]; exact e)
      have tups : Tups H Hi := fun b xs e => off b _ (fun z => by rw [z, hm] at e; cases e) e
      have RIi : RowsIn w Hi a as rows := RI.keep tups fun b hb o e => by
        refine off b o (fun z => ?_) e
        subst z
        rcases List.mem_cons.mp hb with z | hb
        · exact ham z.symm
        · obtain ⟨j, hj⟩ := List.mem_iff_getElem?.mp hb
          obtain ⟨r, _, xs, ep, g, _⟩ := Paired.at pA hj
          rw [hm] at g
          cases g
      obtain ⟨⟨ep3, hAi⟩, pAi, _⟩ := RIi
      have hstm : st ∈ rows.map (·.1) := ord.1.subset (List.mem_of_getElem? hst)
      have edrop : ns'.drop i = st :: ns'.drop (i + 1) := by
        obtain ⟨h1, h2⟩ := List.getElem?_eq_some_iff.mp hst
        rw [List.drop_eq_getElem_cons h1, h2]
      rcases rows_get (s := st) pAi with ⟨row, ra, k3, k4, k5, ⟨xs, ep4, hra, pe⟩, k6⟩ | ⟨_, _, k3⟩
      rotate_left
      · exact absurd hstm k3
      have rok1 := rok.2.1 _ k6
      have kn := ents_nodup pe rok1
      have ko := ents_ok pe rok1
      have hlx := Paired.length pe
      rw [edrop, dueLoop, k3] at ed
      dsimp only at ed
      refine ⟨_, rfl, _, rfl, a, _, ep3, _, _, rfl, hAi, KeyAt.int Hi st, rowsG_ok Hi, k4, ?_⟩
      refine ⟨_, rfl, ra, xs, ep4, rfl, hra, for_it walk_g (fun j σ Hj => ∃ x5, σ = [some (.ref m), some (.int lag), some (.ref a), some (.int st), some (.ref ra), x5] ∧ Same Hi Hj ∧ ∀ r ∈ row.take j, goodLetter r.1 = true)
        ⟨_, rfl, Same.refl _, by simp⟩ (fun j σ Hj _ ⟨_, _, s1, _⟩ => s1 _ _ hra) ?_ ?_⟩
      · rintro j y σ Hq Hj hj ⟨x6, rfl, smj, gj⟩ ⟨rfl, r, hr1, rfl⟩
        obtain ⟨ent, hent, e1, e2, e3⟩ := Paired.at pe hr1
        have hem := List.mem_of_getElem? hent
        refine ⟨_, rfl, ent.1, _, rfl, e2.mono (Tups.of_same smj), (rok1.2.1 ent hem).1, fun H' sm' => ⟨_, rfl, ?_⟩⟩
        cases hg : goodLetter ent.1 with
        | true =>
          refine iteF ⟨_, rfl, smj.trans sm', fun z hz => ?_⟩
          rw [List.take_add_one, hent] at hz
          rcases List.mem_append.mp hz with hz | hz
          · exact gj z hz
          · obtain rfl : z = ent := by simpa using hz
            exact hg
        | false =>
          refine iteT ⟨_, rfl, _, _, rfl, fun d H'' hd sm'' hx => qE (.bad st "letter") ?_ _ _ H'' ((sm.trans smj).trans (sm'.trans sm'')) ⟨rfl, d, rfl, hx⟩⟩
          rw [ed, if_pos]
          exact List.any_eq_true.mpr ⟨ent, hem, by simp [hg]⟩
      · rintro σ Hj ⟨x6, rfl, smj, gj⟩
        rw [List.take_of_length_le (by omega)] at gj
        rw [if_neg (by
          intro z
          obtain ⟨ent, hem, hg⟩ := List.any_eq_true.mp z
          rw [gj ent hem] at hg
          cases hg)] at ed
        refine ⟨_, rfl, ra, xs, ep4, rfl, smj _ _ hra, for_it walk_g (fun j σ Hk => ∃ x5, σ = [some (.ref m), some (.int lag), some (.ref a), some (.int st), some (.ref ra), x5] ∧ Hk = Hj ∧ ∀ r ∈ row.take j, (rowsGet rows r.2.2).isSome = true)
          ⟨_, rfl, rfl, by simp⟩ (fun j σ Hk _ ⟨_, _, s1, _⟩ => by rw [s1]; exact smj _ _ hra) ?_ ?_⟩
        · rintro j y σ Hq Hk hj ⟨x7, rfl, rfl, gk⟩ ⟨rfl, r, hr1, rfl⟩
          obtain ⟨ent, hent, e1, e2, e3⟩ := Paired.at pe hr1
          have hem := List.mem_of_getElem? hent
          have kk : KeyAt Hk r.1 r.2.1 := (ko r (List.mem_of_getElem? hr1)).mono (Tups.of_same smj)
          have kos : KeysOk Hk xs := ko.mono (Tups.of_same smj)
          obtain ⟨tp, dv, tv, e4, htp, _, e5⟩ := (e3.mono (Tups.of_same smj)).two
          obtain rfl := e5.toInt
          refine ⟨_, rfl, _, rfl, ra, xs, ep4, r.1, _, rfl, smj _ _ hra, kk, kos, getG_at kn hr1, ?_⟩
          rw [e4]
          refine ⟨tp, _, _, _, rfl, rfl, SqT.of htp, rfl, _, rfl, a, _, ep3, _, rfl, smj _ _ hAi, KeyAt.int _ ent.2.2, rowsG_ok _, _, rfl, ?_⟩
          rcases rows_get (s := ent.2.2) pAi with ⟨row2, ra2, q1, q2, _⟩ | ⟨q1, q2, _⟩
          · rw [q2]
            refine iteF ⟨_, rfl, rfl, fun z hz => ?_⟩
            rw [List.take_add_one, hent] at hz
            rcases List.mem_append.mp hz with hz | hz
            · exact gk z hz
            · obtain rfl : z = ent := by simpa using hz
              rw [q1]
              rfl
          · rw [q2]
            refine iteT ⟨_, rfl, _, _, rfl, fun d H'' hd sm'' hx => qE (.bad st "state") ?_ _ _ H'' ((sm.trans smj).trans sm'') ⟨rfl, d, rfl, hx⟩⟩
            rw [ed, if_pos]
            exact List.any_eq_true.mpr ⟨ent, hem, by rw [q1]; rfl⟩
        · rintro σ Hk ⟨x7, rfl, rfl, gk⟩
          rw [List.take_of_length_le (by omega)] at gk
          rw [if_neg (by
            intro z
            obtain ⟨ent, hem, hg⟩ := List.any_eq_true.mp z
            have := gk ent hem
            rw [Option.isNone_iff_eq_none.mp hg] at this
            cases this)] at ed
          have goodL : ∀ d ∈ row.map (·.1), goodLetter d = true := fun d hd => by
            obtain ⟨r, hr, rfl⟩ := List.mem_map.mp hd
            exact gj r hr
          have flatL : ∀ d ∈ row.map (·.1), Flat d := fun d hd => by
            obtain ⟨r, hr, rfl⟩ := List.mem_map.mp hd
            exact (rok1.2.1 r hr).1
          refine ⟨_, rfl, ra, xs, ep4, (row.map (·.1)).map letterData, rfl, rfl, smj _ _ hra, ⟨by rw [List.length_map, List.length_map, List.length_map, hlx], letters_alike goodL, letters_sortable goodL flatL, letters_depth goodL, fun Hl sml j v d hv hd => ?_⟩, fun Hs p sms hp => ?_⟩
          · rw [List.getElem?_map] at hv hd
            cases hx1 : xs[j]? with
            | none => rw [hx1] at hv; cases hv
            | some r =>
              rw [hx1] at hv
              obtain rfl : r.2.1 = v := Option.some.inj hv
              obtain ⟨ent, hent, e1, e2, e3⟩ := Paired.at pe hx1
              rw [List.getElem?_map, hent] at hd
              obtain rfl : letterData ent.1 = d := Option.some.inj hd
              have hem := List.mem_of_getElem? hent
              exact ⟨ent.1, _, rfl, e2.mono (Tups.of_same (smj.trans sml)), gj ent hem, (rok1.2.1 ent hem).1, fun H' y s1 s2 => ⟨s1, s2⟩⟩
          · generalize hsb : sortedBy (xs.map fun r => r.2.1) ((row.map (·.1)).map letterData) = sb
            have psb : sb.Perm (xs.map fun r => r.2.1) := by
              rw [← hsb]
              exact sortedBy_perm (by rw [List.length_map, List.length_map, List.length_map, hlx])
            obtain ⟨z1, z2, z3⟩ := zip_ents pe
            obtain ⟨zs, pz, ez⟩ := perm_map (fun z : GRow × (KD × KD × Int) => z.1.2.1) psb (xs.zip row) (by
              have e := congrArg (List.map fun r : GRow => r.2.1) z2
              rw [List.map_map] at e
              exact e.symm)
            have pm1 : (zs.map (·.2)).Perm row := by
              have := pz.map (·.2)
              rw [z3] at this
              exact this
            have rokm := RowOk.perm pm1 rok1
            have hlz : zs.length = sb.length := by rw [← ez, List.length_map]
            refine ⟨p, rfl, ⟨_, SqL.of upd_same⟩, fun D ep5 hD => ?_⟩
            have sH3 : Same Hs (upd Hs p (.lst sb)) := fun b o e => by rw [upd_ne (ne_of_none e hp)]; exact e
            have npD : p ≠ D := ne_of_none upd_same hD
            refine gc_it (walk_list (xs := sb)) (fun j Hl => Same (upd Hs p (.lst sb)) Hl ∧ ∃ ys epj, Hl D = some (GO w D ys epj) ∧ Paired (EntAt Hl) ys ((zs.map (·.2)).take j)) ⟨fun b o e => by rw [upd_ne (ne_of_none e hD)]; exact e, [], ep5, upd_same, .nil⟩
              (fun j Hl _ s1 => SqL.of (s1.1 _ _ upd_same)) ?_ ?_
            · rintro j x Hq Hl hj ⟨sml, ys, epj, hDl, py⟩ ⟨rfl, hx1⟩
              obtain ⟨z, hz⟩ : ∃ z, zs[j]? = some z := ⟨_, List.getElem?_eq_getElem (by omega)⟩
              have ezx : z.1.2.1 = x := by
                rw [← ez, List.getElem?_map, hz] at hx1
                exact Option.some.inj hx1
              have hzm : z ∈ xs.zip row := pz.subset (List.mem_of_getElem? hz)
              have sil : Same Hi Hl := ((smj.trans sms).trans sH3).trans sml
              obtain ⟨e1, e2, e3⟩ := z1 z hzm
              have hzx : z.1 ∈ xs := by
                have := List.mem_map_of_mem (f := fun z : GRow × (KD × KD × Int) => z.1) hzm
                rw [z2] at this
                exact this
              obtain ⟨jx, hjx⟩ := List.mem_iff_getElem?.mp hzx
              have kk : KeyAt Hl z.1.1 z.1.2.1 := (ko z.1 hzx).mono (Tups.of_same sil)
              have kos : KeysOk Hl xs := ko.mono (Tups.of_same sil)
              obtain ⟨tp, dv, tv, e4, htp, e6, e5⟩ := (e3.mono (Tups.of_same sil)).two
              obtain rfl := e5.toInt
              have gg : getG xs z.1.1 = some (.ref tp) := by rw [getG_at kn hjx, e4]
              rw [← ezx]
              refine ⟨rfl, ⟨_, rfl, _, rfl, _, rfl, ra, xs, ep4, z.1.1, _, rfl, sil _ _ hra, kk, kos, gg, tp, _, _, _, rfl, rfl, SqT.of htp, rfl, ?_⟩⟩
              refine ⟨_, rfl, _, rfl, ra, xs, ep4, z.1.1, _, rfl, sil _ _ hra, kk, kos, gg, tp, _, _, _, rfl, rfl, SqT.of htp, rfl, ?_⟩
              refine ⟨by show 2 ≤ sizeLine; decide, fun t ht => ?_⟩
              have tt : Tups Hl (upd Hl t (.tup [dv, .int z.2.2.2])) := fun b xs e => by rw [upd_ne (ne_of_none e ht)]; exact e
              have nDt : D ≠ t := ne_of_none hDl ht
              have hyl := Paired.length py
              have kys : KeysOk Hl ys := ents_ok py ⟨by
                rw [List.map_take]
                exact (List.take_sublist _ _).nodup rokm.1, fun r hr => rokm.2.1 r (List.mem_of_mem_take hr), by
                rw [List.length_take]
                have := rokm.2.2
                omega⟩
              refine ⟨ys, epj, z.1.1, by rw [upd_ne nDt]; exact hDl, kk.mono tt, kys.mono tt, ?_, fun ep6 => ⟨fun b o e => ?_, ys ++ [(z.1.1, z.1.2.1, .ref t)], ep6, ?_, ?_⟩⟩
              · rw [hyl, List.length_take]
                have h2 : (zs.map (·.2)).length ≤ 1000 := rokm.2.2
                exact Nat.lt_of_le_of_lt (by omega : _ ≤ 1000) (by decide)
              · have hb : b ≠ D := ne_of_none e hD
                have hb2 := sml b o e
                rw [upd_ne hb, upd_ne (ne_of_none hb2 ht)]
                exact hb2
              · rw [upd_same, putG_new]
                rw [ents_keys py, e1]
                have em1 : (zs.map (·.2))[j]? = some z.2 := by rw [List.getElem?_map, hz]; rfl
                exact take_fresh' (f := fun r : KD × KD × Int => nk r.1) rokm.1 em1
              · have em1 : (zs.map (·.2))[j]? = some z.2 := by rw [List.getElem?_map, hz]; rfl
                rw [List.take_add_one, em1]
                have tt2 : Tups Hl (upd (upd Hl t (.tup [dv, .int z.2.2.2])) D (GO w D (putG ys z.1.1 z.1.2.1 (.ref t)) ep6)) := fun b xs e => by
                  rw [upd_ne (fun q => by rw [q, hDl] at e; cases e)]
                  exact tt b xs e
                refine Paired.snoc (ents_mono tt2 py) ⟨e1, (e2.mono (Tups.of_same sil)).mono tt2, .tup (vs := [dv, .int z.2.2.2]) ?_ (.cons (e6.mono tt2) (.cons (.int _) .nil))⟩
                rw [upd_ne nDt.symm, upd_same]
            · rintro Hl ⟨sml, ys, epj, hDl, py⟩
              rw [List.take_of_length_le (by rw [List.length_map]; omega)] at py
              have sil : Same Hi Hl := ((smj.trans sms).trans sH3).trans sml
              have hDi : Hi D = none := ((smj.trans sms).trans sH3).free hD
              have hlm : ms.length = i := by
                have := congrArg List.length em
                rw [List.length_map, List.length_take] at this
                omega
              refine ⟨_, rfl, m, C, dx, _, _, rfl, sil _ _ hmi, T.cl, T.nR, mf_rows _ _, _, rfl, rd, _, ep2, _, rfl, sil _ _ hri, KeyAt.int _ st, rowsG_ok _, ?_, fun ep7 => ?_⟩
              · rw [rowsG_len (Paired.length pb), hlm]
                have h2 : rows.length ≤ 1000 := rok.2.2
                have h3 := ord.1.length_eq
                rw [List.length_map] at h3
                exact Nat.lt_of_le_of_lt (by omega : i ≤ 1000) (by decide)
              have nrD : D ≠ rd := (ne_of_none hri hDi).symm
              have tt : Tups Hl (upd Hl rd (GO w rd (putG (rowsG ms bs) (.num st) (.int st) (.ref D)) ep7)) := fun b xs e => by
                rw [upd_ne (fun q => by rw [q, sil _ _ hri] at e; cases e)]
                exact e
              obtain ⟨s1, ⟨ep8, s2⟩, s3, s4, s5⟩ := rows_step (w := w) (r := (st, zs.map (·.2))) (H2 := upd Hl rd (GO w rd (putG (rowsG ms bs) (.num st) (.int st) (.ref D)) ep7)) sm (by rw [del_ne nmr.symm]; exact hrd0) ⟨_, hri⟩ pb nb fb (fun b o hb e => by rw [upd_ne hb]; exact sil _ _ e) hDi
                ⟨ys, epj, by rw [upd_ne nrD]; exact hDl, ents_mono tt py⟩ (by
                  rw [em]
                  intro hm2
                  have nn : ns'.Nodup := ord.1.nodup_iff.mpr rok.1
                  have := take_fresh' (f := id) (l := ns') (i := i) (x := st) (by rw [List.map_id]; exact nn) hst
                  rw [List.map_id] at this
                  exact this hm2) upd_same (fun b xs e => tt b xs (sil _ _ e))
              refine ⟨ms ++ [(st, zs.map (·.2))], bs ++ [D], ep8, _, _, _, rfl, s1, ?_, ?_, s2, s3, s4, s5, ?_, ?_, ed⟩
              · rw [upd_ne nmr]
                exact sil _ _ hmi
              · rw [upd_ne nrs.symm]
                exact sil _ _ hsi
              · rw [List.map_append, em, List.take_add_one, hst]
                rfl
              · intro x hx2
                rcases List.mem_append.mp hx2 with hx2 | hx2
                · exact pm x hx2
                · obtain rfl : x = (st, zs.map (·.2)) := by simpa using hx2
                  exact ⟨row, k3, pm1⟩
    · rintro σ Hi ⟨ms, bs, ep2, x3, x4, x5, rfl, sm, hmi, hsi, hri, pb, nb, fb, em, pm, ed⟩
      rw [List.length_map, List.drop_of_length_le (Nat.le_refl _)] at ed
      rw [List.length_map, List.take_of_length_le (Nat.le_refl _)] at em
      have pmr : (ms.map (·.1)).Perm (rows.map (·.1)) := by rw [em]; exact ord.1
      refine q ed Hi rd ms sm hmi ⟨bs, ⟨⟨ep2, hri⟩, pb, nb⟩, fun b hb => ?_⟩ ⟨pmr, pm⟩ ⟨pmr.nodup_iff.mpr rok.1, fun x hx => ?_, ?_⟩
      · rcases List.mem_cons.mp hb with rfl | hb
        · rw [del_ne nmr.symm]
          exact hrd0
        · exact fb b hb
      · obtain ⟨row, h3, h4⟩ := pm x hx
        exact RowOk.perm h4 (rok.2.1 _ (rowsGet_mem h3))
      · have h2 : rows.length ≤ 1000 := rok.2.2
        have h3 := pmr.length_eq
        rw [List.length_map, List.length_map] at h3
        omega
end
end K29
end

section
set_option Elab.async false
set_option linter.all false
set_option maxRecDepth 100000
set_option maxHeartbeats 4000000
/-! draws: the list of four numbers, what a heap keeps while it is drawn from. -/
namespace GX
open PySem PySem.Spec PyProof.Rows L2
def SAt (H : Hp) (sa : Addr) : Prop := ∃ a b c d : Int, H sa = some (.lst [.int a, .int b, .int c, .int d])
/-- all but the numbers at sa is kept -/
structure Kp (sa : Addr) (H H' : Hp) : Prop where
  s : SAt H' sa
  k : ∀ b o, b ≠ sa → H b = some o → H' b = some o
theorem Kp.refl {sa : Addr} {H : Hp} (s : SAt H sa) : Kp sa H H := ⟨s, fun _ _ _ e => e⟩
theorem Kp.trans {sa : Addr} {A B C : Hp} (h : Kp sa A B) (g : Kp sa B C) : Kp sa A C := ⟨g.s, fun b o n e => g.k b o n (h.k b o n e)⟩
theorem SAt.same {sa : Addr} {H H' : Hp} (s : SAt H sa) (h : Same H H') : SAt H' sa := by
  obtain ⟨a, b, c, d, e⟩ := s
  exact ⟨a, b, c, d, h _ _ e⟩
theorem Kp.of_same {sa : Addr} {H H' : Hp} (s : SAt H sa) (h : Same H H') : Kp sa H H' := ⟨s.same h, fun b o _ e => h b o e⟩
theorem Kp.same {sa : Addr} {A B C : Hp} (h : Kp sa A B) (g : Same B C) : Kp sa A C := h.trans (.of_same h.s g)
theorem SAt.ne {sa p : Addr} {H : Hp} {o : HO} (s : SAt H sa) (e : H p = some o) (n : ∀ xs, o ≠ .lst xs) : p ≠ sa := fun z => by
  obtain ⟨a, b, c, d, h⟩ := s
  rw [z, h] at e
  exact n _ (Option.some.inj e).symm
theorem SAt.fresh {sa p : Addr} {H : Hp} (s : SAt H sa) (e : H p = none) : p ≠ sa := fun z => by
  obtain ⟨a, b, c, d, h⟩ := s
  rw [z, h] at e
  cases e
theorem Kp.tups {sa : Addr} {H H' : Hp} (h : Kp sa H H') (s : SAt H sa) : Tups H H' := fun b xs e => h.k b _ (s.ne e (fun _ z => by cases z)) e
theorem Kp.free {sa p : Addr} {H H' : Hp} (h : Kp sa H H') (e : H' p = none) : H p = none := by
  cases q : H p with
  | none => rfl
  | some o =>
    rw [h.k p o (h.s.fresh e) q] at e
    cases e
theorem Kp.new {sa p : Addr} {H : Hp} {o : HO} (s : SAt H sa) (e : H p = none) : Kp sa H (upd H p o) := by
  obtain ⟨a, b, c, d, h⟩ := s
  exact ⟨⟨a, b, c, d, by rw [upd_ne (ne_of_none h e)]; exact h⟩, fun q o _ g => by rw [upd_ne (ne_of_none g e)]; exact g⟩
theorem same_new {H : Hp} {p : Addr} {o : HO} (e : H p = none) : Same H (upd H p o) := fun b u g => by rw [upd_ne (ne_of_none g e)]; exact g
/-- a new object at p may be written -/
theorem Kp.wr {sa p : Addr} {A B : Hp} {o : HO} (h : Kp sa A B) (n : A p = none) (q : p ≠ sa) : Kp sa A (upd B p o) := by
  obtain ⟨a, b, c, d, e⟩ := h.s
  exact ⟨⟨a, b, c, d, by rw [upd_ne q.symm]; exact e⟩, fun b o m g => by rw [upd_ne (ne_of_none g n)]; exact h.k b o m g⟩
theorem same_wr {p : Addr} {A B : Hp} {o : HO} (h : Same A B) (n : A p = none) : Same A (upd B p o) := fun b u g => by rw [upd_ne (ne_of_none g n)]; exact h b u g
theorem Kp.seqT {K : PySem.W.Frag} {sa p : Addr} {H H' : Hp} {xs : List V} (h : Kp sa H H') (s : SAt H sa) (e : H p = some (.tup xs)) : SqT K H' p xs := SqT.of (h.tups s _ _ e)
/-- what is drawn below many -/
def Drawn (many r : Int) : Prop := 0 ≤ r ∧ (r < many ∨ (many ≤ 1 ∧ r = 0))
def spPick : Sp := fun vs H Q _ => ∃ sa many, vs = [.ref sa, .int many] ∧ SAt H sa ∧ many < 1073741824 ∧ ∀ H' r, Kp sa H H' → Drawn many r → Q (.int r) H'
def spNumber : Sp := fun vs H Q _ => ∃ sa limit, vs = [.ref sa, .int limit] ∧ SAt H sa ∧ 0 < limit ∧ ∀ H' r, Kp sa H H' → Q (.int r) H'
def spOne (K : PySem.W.Frag) : Sp := fun vs H Q _ => ∃ sa a xs, vs = [.ref sa, .ref a] ∧ SAt H sa ∧ SqL K H a xs ∧ a ≠ sa ∧ xs ≠ [] ∧ xs.length ≤ 1000000 ∧ ∀ H' v, Kp sa H H' → v ∈ xs → Q v H'
theorem sql_kp {K : PySem.W.Frag} {sa a : Addr} {H H' : Hp} {xs : List V} (h : Kp sa H H') (n : a ≠ sa) (e : SqL K H a xs) : SqL K H' a xs := by
  rcases e with (e | ⟨o, e⟩) | e
  · exact .inl (.inl (h.k _ _ n e))
  · exact .inl (.inr ⟨o, h.k _ _ n e⟩)
  · exact .inr e

def spShuffled (K : PySem.W.Frag) : Sp := fun vs H Q _ => ∃ sa a xs, vs = [.ref sa, .ref a] ∧ SAt H sa ∧ SqL K H a xs ∧ a ≠ sa ∧ xs.length ≤ 1000 ∧ ∀ H' p ys, Kp sa H H' → H p = none → H' p = some (.lst ys) → ys.Perm xs → Q (.ref p) H'
theorem drawn_nat {n : Nat} {r : Int} (hn : 0 < n) (d : Drawn (n : Int) r) : ∃ k : Nat, r = (k : Int) ∧ k < n := by
  obtain ⟨h0, h1⟩ := d
  obtain ⟨k, rfl⟩ := Int.eq_ofNat_of_zero_le h0
  exact ⟨k, rfl, by omega⟩
theorem perm_pop {α : Type} : ∀ {l : List α} {k : Nat} {y : α}, l[k]? = some y → (y :: l.eraseIdx k).Perm l
  | [], _, _, h => by simp at h
  | x :: l, 0, y, h => by
    obtain rfl : x = y := by simpa using h
    exact .refl _
  | x :: l, k + 1, y, h => by
    have ih := perm_pop (l := l) (k := k) (y := y) (by simpa using h)
    rw [List.eraseIdx_cons_succ]
    exact (List.Perm.swap x y _).trans (ih.cons x)
/-- a law's numbers at their start -/
def spSource (K : PySem.W.Frag) : Sp := fun vs H Q _ => ∃ (a : Addr) (ns : List Int) (at_ : Int), vs = [.ref a, .int at_] ∧ SqL K H a (ns.map V.int) ∧ ns.length ≤ 63 ∧ 0 ≤ at_ ∧ ∀ H' p, Same H H' → H p = none → SAt H' p → Q (.ref p) H'

/-! ### what _law_same finds alike, up to a depth -/
def BaseV (v u : V) : Prop := v = u ∧ (u = .non ∨ (∃ s, u = .str s) ∨ (∃ i, u = .int i) ∨ ∃ b, u = .bl b)
def SeqSame (H : Hp) (R : V → V → Prop) (v u : V) : Prop := ∃ a b xs ys, v = .ref a ∧ u = .ref b ∧ xs.length = ys.length ∧ ys.length ≤ 1000 ∧ ((H a = some (.tup xs) ∧ H b = some (.tup ys)) ∨ (H a = some (.lst xs) ∧ H b = some (.lst ys))) ∧
  ∀ (i : Nat) x y, xs[i]? = some x → ys[i]? = some y → R x y
def DictSame (w : World) (H : Hp) (R : V → V → Prop) (v u : V) : Prop := ∃ a b xs ys ep ep', v = .ref a ∧ u = .ref b ∧ H a = some (GO w a xs ep) ∧ H b = some (GO w b ys ep') ∧ xs.length = ys.length ∧ ys.length ≤ 1000 ∧ KeysOk H xs ∧ KeysOk H ys ∧ (ys.map (·.1)).Nodup ∧
  ∀ y ∈ ys, ∃ x, getG xs y.1 = some x ∧ R x y.2.2
def SameN (w : World) (H : Hp) : Nat → V → V → Prop
  | 0 => BaseV
  | n + 1 => fun v u => BaseV v u ∨ SeqSame H (SameN w H n) v u ∨ DictSame w H (SameN w H n) v u
theorem SameN.mono {w : World} {H H' : Hp} (s : Same H H') : ∀ {n : Nat} {v u : V}, SameN w H n v u → SameN w H' n v u
  | 0, _, _, h => h
  | n + 1, v, u, h => by
    rcases h with h | ⟨a, b, xs, ys, e1, e2, hl, hz, ho, h⟩ | ⟨a, b, xs, ys, ep, ep', e1, e2, ha, hb, hl, hz, k1, k2, nn, h⟩
    · exact .inl h
    · refine .inr (.inl ⟨a, b, xs, ys, e1, e2, hl, hz, ?_, fun i x y hx hy => SameN.mono s (h i x y hx hy)⟩)
      rcases ho with ⟨h1, h2⟩ | ⟨h1, h2⟩
      · exact .inl ⟨s _ _ h1, s _ _ h2⟩
      · exact .inr ⟨s _ _ h1, s _ _ h2⟩
    · refine .inr (.inr ⟨a, b, xs, ys, ep, ep', e1, e2, s _ _ ha, s _ _ hb, hl, hz, k1.mono (Tups.of_same s), k2.mono (Tups.of_same s), nn, fun y hy => ?_⟩)
      obtain ⟨x, g, r⟩ := h y hy
      exact ⟨x, g, SameN.mono s r⟩
def spSame (w : World) (n : Nat) : Sp := fun vs H Q _ => ∃ v u, vs = [v, u] ∧ SameN w H n v u ∧ ∀ H', Same H H' → Q (.bl true) H'
def spSamePrev (w : World) : Nat → Sp
  | 0 => fun _ _ _ _ => False
  | n + 1 => spSame w n
end GX
end

section
set_option Elab.async false
set_option linter.all false
set_option maxRecDepth 100000
set_option maxHeartbeats 4000000
namespace K29
open PySem PySem.Spec PyProof.Rows L2 GX
section
variable {P : Program} {w : World} {K : PySem.W.Frag} {mg : Str → Option Value} {base : Heap}
abbrev s_law_pick : Stmt := top 14
theorem sc_law_pick : FnScope ["s", "many", "told"] ["s", "many"] (defScope s_law_pick) := ⟨rfl, rfl, rfl, by decide +kernel, rfl, by decide +kernel, by decide +kernel⟩
theorem ok_law_pick {f : Addr} {fd : FuncData} (F : L2.Fun K "_law_pick" "_law_pick" s_law_pick f fd) (B : Blt mg) : FnOk P w K mg base L2.CX0 1 f fd ["s", "many"] spPick := by
  have nd := sc_law_pick.nd
  refine F.ok sc_law_pick (fun vs H Q E h => ?_) (fun cdv A outer s H vs Q E hr h => ?_)
  · obtain ⟨sa, many, rfl, _⟩ := h
    rfl
  · obtain ⟨sa, many, rfl, hs, hm, q⟩ := h
    obtain ⟨a, b, c, d, e⟩ := id hs
    refine ⟨_, (pss_cons (ps_if (pt_cmpR op_le (pv 1) pe_int (nomark _))
  (pss_one (ps_ret pe_int))
  pss_nil)
  (pss_cons (ps_if (pt_cmpR op_gt (pe_ix (k_ixl K) (pv 0) pe_int (fun _ _ => rfl)) pe_int (nomark _))
  (pss_cons (psn 2 nd (pe_op op_mod (pe_callTy call_int1 (by rfl) B.int_ (by decide +kernel) (pa_cons (pe_ix (k_ixl K) (pv 0) pe_int (fun _ _ => rfl)) pa_nil)) (pv 1)))
  (pss_cons (ps_asg (pe_op op_fdiv (pe_ix (k_ixl K) (pv 0) pe_int (fun _ _ => rfl)) (pv 1)) (pg_sub (pv 0) pe_int set_list))
  (pss_one (ps_ret (pv 2)))))
  pss_nil)
  (pss_cons (ps_asg (pe_op op_add (pe_ix (k_ixl K) (pv 0) pe_int (fun _ _ => rfl)) pe_int) (pg_sub (pv 0) pe_int set_list))
  (pss_cons (ps_asg (pe_op op_mod (pe_callTy call_int1 (by rfl) B.int_ (by decide +kernel) (pa_cons (pe_op op_add (pe_op op_add (pe_op op_mul (pe_ix (k_ixl K) (pv 0) pe_int (fun _ _ => rfl)) pe_int) (pe_op op_mul (pe_ix (k_ixl K) (pv 0) pe_int (fun _ _ => rfl)) pe_int)) pe_int) pa_nil)) pe_int) (pg_sub (pv 0) pe_int set_list))
  (pss_cons (ps_asg (pe_op op_mod (pe_callTy call_int1 (by rfl) B.int_ (by decide +kernel) (pa_cons (pe_op op_add (pe_op op_add (pe_op op_mul (pe_ix (k_ixl K) (pv 0) pe_int (fun _ _ => rfl)) pe_int) (pe_op op_mul (pe_ix (k_ixl K) (pv 0) pe_int (fun _ _ => rfl)) pe_int)) (pe_ix (k_ixl K) (pv 0) pe_int (fun _ _ => rfl))) pa_nil)) pe_int) (pg_sub (pv 0) pe_int set_list))
  (pss_one (ps_ret (pe_op op_mod (pe_callTy call_int1 (by rfl) B.int_ (by decide +kernel) (pa_cons (pe_op op_add (pe_op op_fdiv (pe_ix (k_ixl K) (pv 0) pe_int (fun _ _ => rfl)) pe_int) (pe_op op_fdiv (pe_ix (k_ixl K) (pv 0) pe_int (fun _ _ => rfl)) pe_int)) pa_nil)) (pv 1))))))))), ?_⟩
    refine ⟨_, rfl, _, _, rfl, rfl, _, rfl, ?_⟩
    refine ite2 (fun h1 => ?_) (fun h1 => ?_)
    · exact q H 0 (Kp.refl hs) ⟨by omega, .inr ⟨of_decide_eq_true h1, rfl⟩⟩
    have h1' : 1 < many := by
      have : ¬ many ≤ 1 := fun z => h1 (decide_eq_true z)
      omega
    refine ⟨_, rfl, sa, _, _, _, rfl, rfl, SqL.of e, rfl, _, _, rfl, rfl, _, rfl, ?_⟩
    refine ite2 (fun h2 => ?_) (fun h2 => ?_)
    · refine ⟨_, rfl, sa, _, _, _, rfl, rfl, SqL.of e, rfl, .inl ⟨_, rfl, _, rfl, _, _, rfl, rfl, by omega, ?_⟩⟩
      refine ⟨_, rfl, sa, _, _, _, rfl, rfl, SqL.of e, rfl, _, rfl, _, _, rfl, rfl, ⟨by omega, hm⟩, ?_⟩
      refine ⟨_, rfl, sa, _, _, _, rfl, rfl, e, rfl, _, rfl, ?_⟩
      refine q _ _ ⟨⟨_, _, _, _, upd_same⟩, fun b o n g => by rw [upd_ne n]; exact g⟩ ⟨?_, .inl ?_⟩
      · exact Int.emod_nonneg _ (by omega)
      · exact Int.emod_lt_of_pos _ (by omega)
    · refine ⟨_, rfl, sa, _, _, _, rfl, rfl, SqL.of e, rfl, _, _, rfl, rfl, _, rfl, sa, _, _, _, rfl, rfl, e, rfl, ?_⟩
      refine ⟨_, rfl, sa, _, _, _, rfl, rfl, SqL.of upd_same, rfl, _, _, rfl, rfl, .inr ⟨by decide, by decide⟩, ?_⟩
      refine ⟨_, rfl, sa, _, _, _, rfl, rfl, SqL.of upd_same, rfl, _, _, rfl, rfl, .inr ⟨by decide, by decide⟩, _, _, rfl, rfl, _, _, rfl, rfl, .inl ⟨_, rfl, _, _, rfl, rfl, by show (0 : Int) < _; decide, ?_⟩⟩
      refine ⟨_, rfl, sa, _, _, _, rfl, rfl, upd_same, rfl, ?_⟩
      refine ⟨_, rfl, sa, _, _, _, rfl, rfl, SqL.of upd_same, rfl, _, _, rfl, rfl, .inr ⟨by decide, by decide⟩, ?_⟩
      refine ⟨_, rfl, sa, _, _, _, rfl, rfl, SqL.of upd_same, rfl, _, _, rfl, rfl, .inr ⟨by decide, by decide⟩, _, _, rfl, rfl, ?_⟩
      refine ⟨_, rfl, sa, _, _, _, rfl, rfl, SqL.of upd_same, rfl, _, _, rfl, rfl, .inl ⟨_, rfl, _, _, rfl, rfl, by show (0 : Int) < _; decide, ?_⟩⟩
      refine ⟨_, rfl, sa, _, _, _, rfl, rfl, upd_same, rfl, ?_⟩
      refine ⟨_, rfl, sa, _, _, _, rfl, rfl, SqL.of upd_same, rfl, _, _, rfl, rfl, ⟨by decide, by decide⟩, ?_⟩
      refine ⟨_, rfl, sa, _, _, _, rfl, rfl, SqL.of upd_same, rfl, _, _, rfl, rfl, ⟨by decide, by decide⟩, _, _, rfl, rfl, .inl ⟨_, rfl, _, rfl, _, _, rfl, rfl, by omega, ?_⟩⟩
      refine q _ _ ⟨⟨_, _, _, _, upd_same⟩, fun b o n g => by rw [upd_ne n, upd_ne n, upd_ne n]; exact g⟩ ⟨?_, .inl ?_⟩
      · exact Int.emod_nonneg _ (by omega)
      · exact Int.emod_lt_of_pos _ (by omega)

/-! _law_number, _law_one -/
abbrev s_law_number : Stmt := top 15
theorem sc_law_number : FnScope ["s", "limit", "told", "k"] ["s", "limit"] (defScope s_law_number) := ⟨rfl, rfl, rfl, by decide +kernel, rfl, by decide +kernel, by decide +kernel⟩
theorem ok_law_number {f : Addr} {fd : FuncData} (F : L2.Fun K "_law_number" "_law_number" s_law_number f fd) (B : Blt mg) (C_law_pick : Has P w K mg base L2.CX0 1 "_law_pick" ["s", "many"] spPick) : FnOk P w K mg base L2.CX0 2 f fd ["s", "limit"] spNumber := by
  have nd := sc_law_number.nd
  refine F.ok sc_law_number (fun vs H Q E h => ?_) (fun cdv A outer s H vs Q E hr h => ?_)
  · obtain ⟨sa, many, rfl, _⟩ := h
    rfl
  · obtain ⟨sa, limit, rfl, hs, hm, q⟩ := h
    refine ⟨_, (pss_cons (ps_if (pt_cmpR op_le (pv 1) pe_int (nomark _))
  (pss_one (ps_ret (pe_hc C_law_pick (hr.mono (by decide)) (by rfl) (pa_cons (pv 0) (pa_cons (pv 1) pa_nil)))))
  pss_nil)
  (pss_cons (psn 2 nd pe_int)
  (pss_cons (ps_for PassesOwn.never rfl (pi_range1 (by rfl) B.range_ (pa_cons pe_int pa_nil)) (pgn 3 nd)
  (pss_one (psn 2 nd (pe_op op_add (pe_op op_mul (pv 2) pe_int) (pe_hc C_law_pick (hr.mono (by decide)) (by rfl) (pa_cons (pv 0) (pa_cons pe_int pa_nil)))))))
  (pss_one (ps_ret (pe_op op_mod (pv 2) (pv 1))))))), ?_⟩
    refine ⟨_, rfl, _, _, rfl, rfl, _, rfl, ?_⟩
    refine ite2 (fun h1 => ?_) (fun h1 => ?_)
    · have h2 := of_decide_eq_true h1
      exact ⟨_, rfl, _, rfl, sa, limit, rfl, hs, by omega, fun H' r k d => q H' r k⟩
    refine ⟨4, rfl, by decide, by decide, for_it (walk_range (lo := 0) (n := 4)) (fun i σ Hi => ∃ t x, σ = [some (.ref sa), some (.int limit), some (.int t), x] ∧ Kp sa H Hi) ⟨0, none, rfl, Kp.refl hs⟩ (fun _ _ _ _ _ => True.intro) ?_ ?_⟩
    · rintro i y σ H1 Hi hi ⟨t, x, rfl, kp⟩ ⟨rfl, rfl⟩
      refine ⟨_, rfl, _, _, rfl, rfl, .inr ⟨by decide, by decide⟩, _, rfl, sa, _, rfl, kp.s, by decide, fun H' r k d => ?_⟩
      exact ⟨_, _, rfl, rfl, _, _, rfl, kp.trans k⟩
    · rintro σ Hi ⟨t, x, rfl, kp⟩
      exact ⟨_, rfl, _, rfl, _, _, rfl, rfl, hm, q Hi _ kp⟩
abbrev s_law_one : Stmt := top 16
theorem sc_law_one : FnScope ["s", "things"] ["s", "things"] (defScope s_law_one) := ⟨rfl, rfl, rfl, by decide +kernel, rfl, by decide +kernel, by decide +kernel⟩
theorem at_drawn {xs : List V} {r : Int} (hx : xs ≠ []) (d : Drawn (xs.length : Int) r) : ∃ v, atI xs r = some v ∧ v ∈ xs := by
  have hl : 0 < xs.length := List.length_pos_iff.mpr hx
  obtain ⟨h0, h1⟩ := d
  obtain ⟨n, rfl⟩ := Int.eq_ofNat_of_zero_le h0
  have hn : n < xs.length := by omega
  exact ⟨xs[n], atI_nat (List.getElem?_eq_getElem hn), List.getElem_mem hn⟩
theorem ok_law_one {f : Addr} {fd : FuncData} (F : L2.Fun K "_law_one" "_law_one" s_law_one f fd) (B : Blt mg) (C_law_pick : Has P w K mg base L2.CX0 1 "_law_pick" ["s", "many"] spPick) : FnOk P w K mg base L2.CX0 2 f fd ["s", "things"] (spOne K) := by
  have nd := sc_law_one.nd
  refine F.ok sc_law_one (fun vs H Q E h => ?_) (fun cdv A outer s H vs Q E hr h => ?_)
  · obtain ⟨sa, a, xs, rfl, _⟩ := h
    rfl
  · obtain ⟨sa, a, xs, rfl, hs, ha, hn, hx, hl, q⟩ := h
    refine ⟨_, (pss_one (ps_ret (pe_ix (k_ixl K) (pv 1) (pe_hc C_law_pick (hr.mono (by decide)) (by rfl) (pa_cons (pv 0) (pa_cons (pe_callB (k_len K) (by rfl) B.len_ (by decide +kernel) (pa_cons (pv 1) pa_nil)) pa_nil))) (fun _ _ => rfl)))), ?_⟩
    refine ⟨_, rfl, _, rfl, _, rfl, a, xs, rfl, .inl ha, sa, _, rfl, hs, by omega, fun H' r k d => ?_⟩
    obtain ⟨v, hv, hm⟩ := at_drawn hx d
    exact ⟨a, xs, r, v, rfl, rfl, sql_kp k hn ha, hv, q H' v k hm⟩

/-! _law_shuffled -/
abbrev s_law_shuffled : Stmt := top 17
theorem sc_law_shuffled : FnScope ["s", "things", "left", "out", "k"] ["s", "things"] (defScope s_law_shuffled) := ⟨rfl, rfl, rfl, by decide +kernel, rfl, by decide +kernel, by decide +kernel⟩
theorem ok_law_shuffled {f : Addr} {fd : FuncData} (F : L2.Fun K "_law_shuffled" "_law_shuffled" s_law_shuffled f fd) (B : Blt mg) (C_law_pick : Has P w K mg base L2.CX0 1 "_law_pick" ["s", "many"] spPick) : FnOk P w K mg base L2.CX0 2 f fd ["s", "things"] (spShuffled K) := by
  have nd := sc_law_shuffled.nd
  refine F.ok sc_law_shuffled (fun vs H Q E h => ?_) (fun cdv A outer s H vs Q E hr h => ?_)
  · obtain ⟨sa, a, xs, rfl, _⟩ := h
    rfl
  · obtain ⟨sa, a, xs, rfl, hs, ha, hn, hx, q⟩ := h
    refine ⟨_, (pss_cons (ps_par (i := 2) (j := 3) rfl nd rfl rfl (by decide) rfl rfl (pa_cons (pe_callTy (k_list K) (by rfl) B.list_ (by decide +kernel) (pa_cons (pv 1) pa_nil)) (pa_cons (pe_lst pa_nil) pa_nil)) (by rfl))
  (pss_cons (ps_for PassesOwn.never rfl (pi_range1 (by rfl) B.range_ (pa_cons (pe_callB (k_len K) (by rfl) B.len_ (by decide +kernel) (pa_cons (pv 1) pa_nil)) pa_nil)) (pgn 4 nd)
  (pss_one (ps_expr (k_append K (pv 3) (pa_cons (k_popAt K (pv 2) (pa_cons (pe_hc C_law_pick (hr.mono (by decide)) (by rfl) (pa_cons (pv 0) (pa_cons (pe_callB (k_len K) (by rfl) B.len_ (by decide +kernel) (pa_cons (pv 2) pa_nil)) pa_nil))) pa_nil)) pa_nil)))))
  (pss_one (ps_ret (pv 3))))), ?_⟩
    refine ⟨_, rfl, a, xs, rfl, .inl ha, fun l hl => ⟨Nat.zero_le _, fun o ho => ⟨_, _, rfl, ?_⟩⟩⟩
    have nlo : l ≠ o := ne_of_none upd_same ho
    have ho0 : H o = none := by rw [upd_ne nlo.symm] at ho; exact ho
    have nls := hs.fresh hl
    have nos := hs.fresh ho0
    have s0 : Same H (upd (upd H l (.lst xs)) o (.lst [])) := (same_new hl).trans (same_new ho)
    refine ⟨_, rfl, a, xs, rfl, .inl (s0.seq ha), _, rfl, by omega, by omega, ?_⟩
    refine for_it (walk_range (lo := 0) (n := (xs.length : Int).toNat)) (fun i σ Hi => ∃ ls os x, σ = [some (.ref sa), some (.ref a), some (.ref l), some (.ref o), x] ∧ Kp sa H Hi ∧ Hi l = some (.lst ls) ∧ Hi o = some (.lst os) ∧ (os ++ ls).Perm xs ∧ os.length = i)
      ⟨xs, [], none, rfl, Kp.of_same hs s0, by rw [upd_ne nlo, upd_same], upd_same, .refl _, rfl⟩ (fun _ _ _ _ _ => True.intro) ?_ ?_
    · rintro i y σ H1 Hi hi ⟨ls, os, x, rfl, kp, hli, hoi, pm, hol⟩ ⟨rfl, rfl⟩
      have hlen := pm.length_eq
      rw [List.length_append] at hlen
      have hpos : 0 < ls.length := by omega
      refine ⟨_, rfl, .inl ⟨rfl, _, SqL.of hoi⟩, _, rfl, .inl ⟨rfl, _, SqL.of hli⟩, _, rfl, _, rfl, l, ls, rfl, .inl (SqL.of hli), sa, _, rfl, kp.s, by omega, fun H' r k d => ?_⟩
      obtain ⟨j, rfl, hj⟩ := drawn_nat hpos d
      obtain ⟨z, hz⟩ : ∃ z, ls[j]? = some z := ⟨_, List.getElem?_eq_getElem hj⟩
      have hl' := k.k _ _ nls hli
      have ho' := k.k _ _ nos hoi
      refine ⟨l, ls, _, j, z, rfl, rfl, hl', by omega, by omega, by rw [seqIndex_of (by omega) (by omega)]; rfl, hz, ?_⟩
      refine ⟨o, os, z, rfl, rfl, by rw [upd_ne nlo.symm]; exact ho', Nat.lt_of_le_of_lt (by omega : os.length ≤ 1000) (by decide), ?_⟩
      refine ⟨ls.eraseIdx j, os ++ [z], _, rfl, ((kp.trans k).wr hl nls).wr ho0 nos, by rw [upd_ne nlo, upd_same], upd_same, ?_, by rw [List.length_append, hol]; rfl⟩
      rw [List.append_assoc]
      exact ((perm_pop hz).append_left os).trans pm
    · rintro σ Hi ⟨ls, os, x, rfl, kp, hli, hoi, pm, hol⟩
      have hlen := pm.length_eq
      rw [List.length_append] at hlen
      have : ls = [] := List.eq_nil_of_length_eq_zero (by omega)
      subst this
      rw [List.append_nil] at pm
      exact ⟨_, rfl, q Hi o os kp ho0 hoi pm⟩
/-! _law_source -/
abbrev s_law_source : Stmt := top 13
theorem sc_law_source : FnScope ["script", "at", "fold", "cell", "own", "great", "left"] ["script", "at"] (defScope s_law_source) := ⟨rfl, rfl, rfl, by decide +kernel, rfl, by decide +kernel, by decide +kernel⟩
theorem ok_law_source {f : Addr} {fd : FuncData} (F : L2.Fun K "_law_source" "_law_source" s_law_source f fd) (B : Blt mg) : FnOk P w K mg base L2.CX0 1 f fd ["script", "at"] (spSource K) := by
  have nd := sc_law_source.nd
  refine F.ok sc_law_source (fun vs H Q E h => ?_) (fun cdv A outer s H vs Q E hr h => ?_)
  · obtain ⟨a, ns, at_, rfl, _⟩ := h
    rfl
  · obtain ⟨a, ns, at_, rfl, ha, hl, h0, q⟩ := h
    refine ⟨_, (pss_cons (psn 2 nd pe_int)
  (pss_cons (ps_for PassesOwn.never rfl (k_pil K (pe_slice sl_list (pv 0) po_none (po_some pe_int))) (pgn 3 nd)
  (pss_one (psn 2 nd (pe_op op_mod (pe_op op_add (pe_op op_add (pe_op op_mul (pv 2) pe_int) (pe_callTy call_int1 (by rfl) B.int_ (by decide +kernel) (pa_cons (pv 3) pa_nil))) pe_int) pe_int))))
  (pss_cons (psn 4 nd (pe_ifExp (pt_cmpR op_lt (pv 1) (pe_callB (k_len K) (by rfl) B.len_ (by decide +kernel) (pa_cons (pv 0) pa_nil)) (nomark _)) (pe_callTy call_int1 (by rfl) B.int_ (by decide +kernel) (pa_cons (pe_ix (k_ixl K) (pv 0) (pv 1) (fun _ _ => rfl)) pa_nil)) pe_int))
  (pss_cons (psn 5 nd (pe_op op_pow pe_int pe_int))
  (pss_cons (psn 4 nd (pe_op op_mod (pv 4) (pe_op op_mulW (pe_op op_mulW (pe_op op_mulW (pe_op op_mulW (pe_op op_mulW (pv 5) (pv 5)) (pv 5)) (pv 5)) (pv 5)) (pv 5))))
  (pss_cons (psn 6 nd (pe_ifExp (pt_cmpR op_ge (pv 4) (pe_op op_pow pe_int pe_int) (nomark _)) (pv 4) pe_int))
  (pss_one (ps_ret (pe_lst (pa_cons (pv 6) (pa_cons (pe_op op_mod (pe_op op_add (pe_op op_add (pv 2) (pe_op op_mul pe_int (pv 1))) pe_int) pe_int) (pa_cons (pe_op op_mod (pe_op op_add (pe_op op_add (pe_op op_fdivW (pv 2) pe_int) (pe_op op_mul pe_int (pv 1))) pe_int) pe_int) (pa_cons pe_int pa_nil))))))))))))), ?_⟩
    refine ⟨_, rfl, _, rfl, a, _, rfl, ha, fun p hp => ?_⟩
    have s0 : Same H (upd H p (.lst (cutV (ns.map V.int) none (some 63)))) := same_new hp
    refine ⟨p, rfl, ⟨_, SqL.of upd_same⟩, for_it (walk_list (xs := cutV (ns.map V.int) none (some 63))) (fun i σ Hi => Hi = upd H p (.lst (cutV (ns.map V.int) none (some 63))) ∧ ∃ t x, σ = [some (.ref a), some (.int at_), some (.int t), x, none, none, none]) ⟨rfl, 0, none, rfl⟩ (fun i σ Hi _ e => by rw [e.1]; exact SqL.of upd_same) ?_ ?_⟩
    · rintro i x σ H1 Hi hi ⟨rfl, t, y, rfl⟩ ⟨rfl, hx⟩
      have hm : x ∈ ns.map V.int := List.mem_of_mem_drop (List.mem_of_mem_take (List.mem_of_getElem? hx))
      obtain ⟨n, _, rfl⟩ := List.mem_map.mp hm
      exact ⟨_, rfl, _, _, rfl, rfl, .inr ⟨by decide, by decide⟩, _, rfl, .inl ⟨_, rfl, _, _, rfl, rfl, _, _, rfl, rfl, _, _, rfl, rfl, by show (0 : Int) < _; decide, rfl, _, _, rfl⟩⟩
    · rintro σ Hi ⟨rfl, t, y, rfl⟩
      have ha' := s0.seq ha
      generalize upd H p (.lst (cutV (ns.map V.int) none (some 63))) = H2 at s0 ha'
      refine ⟨_, rfl, _, rfl, a, _, rfl, .inl ha', _, _, rfl, rfl, _, rfl, ?_⟩
      rw [List.length_map]
      refine ite2 (fun h1 => ?g1) (fun h1 => ?g2)
      case' g1 =>
        have h2 : at_ < (ns.length : Int) := of_decide_eq_true h1
        obtain ⟨k, rfl⟩ := Int.eq_ofNat_of_zero_le h0
        have hk : k < ns.length := by omega
        refine ⟨_, rfl, _, rfl, a, _, _, .int ns[k], rfl, rfl, ha', atI_nat (by rw [List.getElem?_map, List.getElem?_eq_getElem hk]; rfl), .inl ⟨_, rfl, ?_⟩⟩
      all_goals
        refine ⟨_, _, rfl, rfl, ⟨by decide, by decide, by decide⟩, _, rfl, ?_⟩
        refine ⟨_, rfl, _, rfl, _, _, rfl, rfl, wide_mul (a := 200) (b := 200) (by decide +kernel) (by decide +kernel) (by decide) (by decide) (by decide), _, rfl, _, _, rfl, rfl, wide_mul (a := 400) (b := 200) (by decide +kernel) (by decide +kernel) (by decide) (by decide) (by decide), _, rfl,
          _, _, rfl, rfl, wide_mul (a := 600) (b := 200) (by decide +kernel) (by decide +kernel) (by decide) (by decide) (by decide), _, rfl, _, _, rfl, rfl, wide_mul (a := 800) (b := 200) (by decide +kernel) (by decide +kernel) (by decide) (by decide) (by decide), _, rfl,
          _, _, rfl, rfl, wide_mul (a := 1000) (b := 200) (by decide +kernel) (by decide +kernel) (by decide) (by decide) (by decide), _, _, rfl, rfl, by show (0 : Int) < _; decide +kernel, ?_⟩
        refine ⟨_, rfl, _, _, rfl, rfl, ⟨by decide, by decide, by decide⟩, _, _, rfl, rfl, _, rfl, ?_⟩
        refine ite2 (fun h3 => ?_) (fun h3 => ?_)
        all_goals
          first
          | (refine ⟨_, rfl, _, rfl, _, rfl, _, rfl, _, _, rfl, rfl, .inl ⟨by decide, by decide⟩, _, _, rfl, rfl, _, _, rfl, rfl, _, _, rfl, rfl, by show (0 : Int) < _; decide, ?_⟩
             refine ⟨_, rfl, _, _, rfl, rfl, wide_div (b := 40) (by decide) (by decide +kernel) (by decide) (by decide), _, rfl, _, _, rfl, rfl, .inl ⟨by decide, by decide⟩, _, _, rfl, rfl, _, _, rfl, rfl, _, _, rfl, rfl, by show (0 : Int) < _; decide, ?_⟩
             refine ⟨by show 4 ≤ sizeLine; decide, fun l hl => ?_⟩
             exact q _ l (s0.trans (same_new hl)) (s0.free hl) ⟨_, _, _, _, upd_same⟩)
          | (refine ⟨_, rfl, _, rfl, _, rfl, _, _, rfl, rfl, .inl ⟨by decide, by decide⟩, _, _, rfl, rfl, _, _, rfl, rfl, _, _, rfl, rfl, by show (0 : Int) < _; decide, ?_⟩
             refine ⟨_, rfl, _, _, rfl, rfl, wide_div (b := 40) (by decide) (by decide +kernel) (by decide) (by decide), _, rfl, _, _, rfl, rfl, .inl ⟨by decide, by decide⟩, _, _, rfl, rfl, _, _, rfl, rfl, _, _, rfl, rfl, by show (0 : Int) < _; decide, ?_⟩
             refine ⟨by show 4 ≤ sizeLine; decide, fun l hl => ?_⟩
             exact q _ l (s0.trans (same_new hl)) (s0.free hl) ⟨_, _, _, _, upd_same⟩)
end
end K29
end

section
set_option Elab.async false
set_option linter.all false
set_option maxRecDepth 100000
set_option maxHeartbeats 4000000
namespace K29
open PySem PySem.Spec PyProof.Rows L2 GX
section
variable {P : Program} {w : World} {K : PySem.W.Frag} {mg : Str → Option Value} {base : Heap}
abbrev s_law_same : Stmt := top 18
theorem sc_law_same : FnScope ["answer", "due", "key", "k"] ["answer", "due"] (defScope s_law_same) := ⟨rfl, rfl, rfl, by decide +kernel, rfl, by decide +kernel, by decide +kernel⟩
theorem ok_same_step {f : Addr} {fd : FuncData} (F : L2.Fun K "_law_same" "_law_same" s_law_same f fd) (B : Blt mg) (n : Nat) (C_law_same : Has P w K mg base L2.CX0 n "_law_same" ["answer", "due"] (spSamePrev w n)) : FnOk P w K mg base L2.CX0 (n + 1) f fd ["answer", "due"] (spSame w n) := by
  have nd := sc_law_same.nd
  refine F.ok sc_law_same (fun vs H Q E h => ?_) (fun cdv A outer s H vs Q E hr h => ?_)
  · obtain ⟨v, u, rfl, _⟩ := h
    rfl
  · obtain ⟨v, u, rfl, hs, q⟩ := h
    refine ⟨_, (pss_cons (ps_if (pt_cmpR op_isN (pv 1) pe_non (nomark _))
  (pss_one (ps_ret (pe_cmpR op_isN (pv 0) pe_non (nomark _))))
  pss_nil)
  (pss_cons (ps_if (pt_val (pe_callB (w_isi K w) (by rfl) B.isinstance_ (by decide +kernel) (pa_cons (pv 1) (pa_cons (pe_bltn (v := .ty "str") (by rfl) B.str_ (by decide +kernel) rfl) pa_nil))))
  (pss_one (ps_ret (pe_and (pe_callB (w_isi K w) (by rfl) B.isinstance_ (by decide +kernel) (pa_cons (pv 0) (pa_cons (pe_bltn (v := .ty "str") (by rfl) B.str_ (by decide +kernel) rfl) pa_nil))) (pe_one (pe_cmpR op_eq (pv 0) (pv 1) (nomark _))))))
  pss_nil)
  (pss_cons (ps_if (pt_val (pe_callB (w_isi K w) (by rfl) B.isinstance_ (by decide +kernel) (pa_cons (pv 1) (pa_cons (pe_bltn (v := .ty "int") (by rfl) B.int_ (by decide +kernel) rfl) pa_nil))))
  (pss_one (ps_ret (pe_and (pe_callB (w_isi K w) (by rfl) B.isinstance_ (by decide +kernel) (pa_cons (pv 0) (pa_cons (pe_bltn (v := .ty "int") (by rfl) B.int_ (by decide +kernel) rfl) pa_nil))) (pe_and (pe_cmpR op_eq (pe_callB (w_isi K w) (by rfl) B.isinstance_ (by decide +kernel) (pa_cons (pv 0) (pa_cons (pe_bltn (v := .ty "bool") (by rfl) B.bool_ (by decide +kernel) rfl) pa_nil))) (pe_callB (w_isi K w) (by rfl) B.isinstance_ (by decide +kernel) (pa_cons (pv 1) (pa_cons (pe_bltn (v := .ty "bool") (by rfl) B.bool_ (by decide +kernel) rfl) pa_nil))) (nomark _)) (pe_one (pe_cmpR op_eq (pv 0) (pv 1) (nomark _)))))))
  pss_nil)
  (pss_cons (ps_if (pt_val (pe_callB (w_isi K w) (by rfl) B.isinstance_ (by decide +kernel) (pa_cons (pv 1) (pa_cons (pe_bltn (v := .ty "dict") (by rfl) B.dict_ (by decide +kernel) rfl) pa_nil))))
  (pss_cons (ps_if (PW.pt (pw_or (pt_not (pt_val (pe_callB (w_isi K w) (by rfl) B.isinstance_ (by decide +kernel) (pa_cons (pv 0) (pa_cons (pe_bltn (v := .ty "dict") (by rfl) B.dict_ (by decide +kernel) rfl) pa_nil))))) (pw_or1 (pt_cmpR op_ne (pe_callB (w_len w) (by rfl) B.len_ (by decide +kernel) (pa_cons (pv 0) pa_nil)) (pe_callB (w_len w) (by rfl) B.len_ (by decide +kernel) (pa_cons (pv 1) pa_nil)) (nomark _)))))
  (pss_one (ps_ret pe_bl))
  pss_nil)
  (pss_one (ps_ret (pe_callB (k_all K) (by rfl) B.all_ (by decide +kernel) (pa_cons (pe_lc (own := [("key", 2)]) rfl nd (w_pi w (pv 1)) (blkOk_by (by kernel_rfl)) (fun _ _ _ _ _ => (pgn 2 nd)) (fun _ _ _ _ _ => pts_nil) (fun _ _ _ _ _ => (pe_and (pe_cmpR (w_in w (hu9 hr)) (pv 2) (pv 0) (by rfl)) (pe_one (pe_hc C_law_same hr (by rfl) (pa_cons (pe_ix (w_ixg w (hu9 hr)) (pv 0) (pv 2) (fun _ _ => rfl)) (pa_cons (pe_ix (w_ixg w (hu9 hr)) (pv 1) (pv 2) (fun _ _ => rfl)) pa_nil))))))) pa_nil)))))
  pss_nil)
  (pss_cons (ps_if (PW.pt (pw_or (pt_cmpR op_ne (pe_callB (w_isi K w) (by rfl) B.isinstance_ (by decide +kernel) (pa_cons (pv 1) (pa_cons (pe_bltn (v := .ty "tuple") (by rfl) B.tuple_ (by decide +kernel) rfl) pa_nil))) (pe_callB (w_isi K w) (by rfl) B.isinstance_ (by decide +kernel) (pa_cons (pv 0) (pa_cons (pe_bltn (v := .ty "tuple") (by rfl) B.tuple_ (by decide +kernel) rfl) pa_nil))) (nomark _)) (pw_or1 (pt_cmpR op_ne (pe_callB (w_isi K w) (by rfl) B.isinstance_ (by decide +kernel) (pa_cons (pv 1) (pa_cons (pe_bltn (v := .ty "list") (by rfl) B.list_ (by decide +kernel) rfl) pa_nil))) (pe_callB (w_isi K w) (by rfl) B.isinstance_ (by decide +kernel) (pa_cons (pv 0) (pa_cons (pe_bltn (v := .ty "list") (by rfl) B.list_ (by decide +kernel) rfl) pa_nil))) (nomark _)))))
  (pss_one (ps_ret pe_bl))
  pss_nil)
  (pss_one (ps_ret (pe_and (pe_cmpR op_eq (pe_callB (k_len K) (by rfl) B.len_ (by decide +kernel) (pa_cons (pv 0) pa_nil)) (pe_callB (k_len K) (by rfl) B.len_ (by decide +kernel) (pa_cons (pv 1) pa_nil)) (nomark _)) (pe_one (pe_callB (k_all K) (by rfl) B.all_ (by decide +kernel) (pa_cons (pe_lc (own := [("k", 3)]) rfl nd (pi_range1 (by rfl) B.range_ (pa_cons (pe_callB (k_len K) (by rfl) B.len_ (by decide +kernel) (pa_cons (pv 1) pa_nil)) pa_nil)) (blkOk_by (by kernel_rfl)) (fun _ _ _ _ _ => (pgn 3 nd)) (fun _ _ _ _ _ => pts_nil) (fun _ _ _ _ _ => (pe_hc C_law_same hr (by rfl) (pa_cons (pe_ix (k_ixs K) (pv 0) (pv 3) (fun _ _ => rfl)) (pa_cons (pe_ix (k_ixs K) (pv 1) (pv 3) (fun _ _ => rfl)) pa_nil))))) pa_nil))))))))))), ?_⟩
    refine ⟨_, rfl, rfl, _, rfl, ?_⟩
    have hc : BaseV v u ∨ ∃ m, n = m + 1 ∧ (SeqSame H (SameN w H m) v u ∨ DictSame w H (SameN w H m) v u) := by
      cases n with
      | zero => exact .inl hs
      | succ m =>
        rcases hs with h | h
        · exact .inl h
        · exact .inr ⟨m, rfl, h⟩
    rcases hc with ⟨rfl, rfl | ⟨x, rfl⟩ | ⟨i, rfl⟩ | ⟨b, rfl⟩⟩ | ⟨m, rfl, ⟨a, b, xs, ys, rfl, rfl, hl, hz, ho, hr1⟩ | ⟨a, b, xs, ys, ep, ep', rfl, rfl, ha, hb, hl, hz, kx, ky, nn, hr1⟩⟩
    · exact iteT ⟨_, rfl, rfl, q H (Same.refl H)⟩
    · refine iteF ⟨_, rfl, _, _, _, _, _, rfl, .ty "str", .base (.base (.str x)), kit_ty (a := "str") (b := "str") (r := true) (by decide +kernel), _, rfl, iteT ⟨_, rfl, _, _, _, _, _, rfl, .ty "str", .base (.base (.str x)), kit_ty (a := "str") (b := "str") (r := true) (by decide +kernel), _, rfl, iteT ⟨_, rfl, _, rfl, rfl, ?_⟩⟩⟩
      rw [decide_eq_true rfl]
      exact q H (Same.refl H)
    · refine iteF ⟨_, rfl, _, _, _, _, _, rfl, .ty "str", .base (.base (.int i)), kit_ty (a := "int") (b := "str") (r := false) (by decide +kernel), _, rfl, iteF ⟨_, rfl, _, _, _, _, _, rfl, .ty "int", .base (.base (.int i)), kit_ty (a := "int") (b := "int") (r := true) (by decide +kernel), _, rfl, iteT ⟨_, rfl, _, _, _, _, _, rfl, .ty "int", .base (.base (.int i)), kit_ty (a := "int") (b := "int") (r := true) (by decide +kernel), _, rfl, iteT ⟨_, rfl, _, _, _, _, _, rfl, .ty "bool", .base (.base (.int i)), kit_ty (a := "int") (b := "bool") (r := false) (by decide +kernel), _, rfl, _, _, _, _, _, rfl, .ty "bool", .base (.base (.int i)), kit_ty (a := "int") (b := "bool") (r := false) (by decide +kernel), rfl, _, rfl, iteT ⟨_, rfl, _, rfl, rfl, ?_⟩⟩⟩⟩⟩
      rw [decide_eq_true rfl]
      exact q H (Same.refl H)
    · refine iteF ⟨_, rfl, _, _, _, _, _, rfl, .ty "str", .base (.base (.bl b)), kit_ty (a := "bool") (b := "str") (r := false) (by decide +kernel), _, rfl, iteF ⟨_, rfl, _, _, _, _, _, rfl, .ty "int", .base (.base (.bl b)), kit_ty (a := "bool") (b := "int") (r := true) (by decide +kernel), _, rfl, iteT ⟨_, rfl, _, _, _, _, _, rfl, .ty "int", .base (.base (.bl b)), kit_ty (a := "bool") (b := "int") (r := true) (by decide +kernel), _, rfl, iteT ⟨_, rfl, _, _, _, _, _, rfl, .ty "bool", .base (.base (.bl b)), kit_ty (a := "bool") (b := "bool") (r := true) (by decide +kernel), _, rfl, _, _, _, _, _, rfl, .ty "bool", .base (.base (.bl b)), kit_ty (a := "bool") (b := "bool") (r := true) (by decide +kernel), rfl, _, rfl, iteT ⟨_, rfl, _, rfl, rfl, ?_⟩⟩⟩⟩⟩
      rw [decide_eq_true rfl]
      exact q H (Same.refl H)
    · rcases ho with ⟨ha, hb⟩ | ⟨ha, hb⟩
      · refine iteF ⟨_, rfl, _, _, _, _, _, rfl, .ty "str", .base (.base (.tup hb)), kit_ty (a := "tuple") (b := "str") (r := false) (by decide +kernel), _, rfl, iteF ⟨_, rfl, _, _, _, _, _, rfl, .ty "int", .base (.base (.tup hb)), kit_ty (a := "tuple") (b := "int") (r := false) (by decide +kernel), _, rfl, iteF ⟨_, rfl, _, _, _, _, _, rfl, .ty "dict", .base (.base (.tup hb)), kit_ty (a := "tuple") (b := "dict") (r := false) (by decide +kernel), _, rfl, iteF ?_⟩⟩⟩
        refine ⟨_, rfl, _, _, _, _, _, rfl, .ty "tuple", .base (.base (.tup hb)), kit_ty (a := "tuple") (b := "tuple") (r := true) (by decide +kernel), _, rfl, _, _, _, _, _, rfl, .ty "tuple", .base (.base (.tup ha)), kit_ty (a := "tuple") (b := "tuple") (r := true) (by decide +kernel), rfl, _, rfl, iteF ⟨_, rfl, _, _, _, _, _, rfl, .ty "list", .base (.base (.tup hb)), kit_ty (a := "tuple") (b := "list") (r := false) (by decide +kernel), _, rfl, _, _, _, _, _, rfl, .ty "list", .base (.base (.tup ha)), kit_ty (a := "tuple") (b := "list") (r := false) (by decide +kernel), rfl, _, rfl, iteF ?_⟩⟩
        refine ⟨_, rfl, a, xs, rfl, .inr (SqT.of ha), _, rfl, b, ys, rfl, .inr (SqT.of hb), rfl, true, by rw [decide_eq_true (by rw [hl])], iteT ?_⟩
        refine ⟨_, rfl, b, ys, rfl, .inr (SqT.of hb), _, rfl, by omega, by omega, fun D hD => ?_⟩
        refine lc_it (walk_range (lo := 0) (n := (ys.length : Int).toNat)) (fun i Hi => Same H Hi ∧ Hi D = some (.lst ((List.replicate i true).map V.bl))) ⟨same_new hD, by rw [upd_same]; rfl⟩ (fun _ _ _ _ => True.intro) ?_ ?_
        · rintro i y H1 Hi hi ⟨sm, hDi⟩ ⟨rfl, rfl⟩
          have h1 : i < xs.length := by omega
          have h2 : i < ys.length := by omega
          have e1 : xs[i]? = some xs[i] := List.getElem?_eq_getElem h1
          have e2 : ys[i]? = some ys[i] := List.getElem?_eq_getElem h2
          have ez : (0 : Int) + (i : Nat) = ((i : Nat) : Int) := by omega
          refine ⟨rfl, ⟨_, rfl, _, rfl, .inr (.inl ⟨a, xs, _, _, rfl, rfl, SqT.of (sm _ _ ha), (by rw [ez]; exact atI_nat e1), ?_⟩)⟩⟩
          refine ⟨_, rfl, _, rfl, .inr (.inl ⟨b, ys, _, _, rfl, rfl, SqT.of (sm _ _ hb), (by rw [ez]; exact atI_nat e2), ?_⟩)⟩
          refine ⟨_, _, rfl, (hr1 i _ _ e1 e2).mono sm, fun H' sm' => ⟨_, sm' _ _ hDi, ?_, same_wr (sm.trans sm') hD, ?_⟩⟩
          · rw [List.length_map, List.length_replicate]
            exact Nat.lt_of_le_of_lt (by omega : i ≤ 1000) (by decide)
          · rw [upd_same, List.replicate_succ', List.map_append]
            rfl
        · rintro Hi ⟨sm, hDi⟩
          refine ⟨D, _, rfl, SqL.of hDi, ?_⟩
          rw [show (List.replicate (ys.length : Int).toNat true).all id = true by simp]
          exact q Hi sm
      · refine iteF ⟨_, rfl, _, _, _, _, _, rfl, .ty "str", .base (.base (.lst hb)), kit_ty (a := "list") (b := "str") (r := false) (by decide +kernel), _, rfl, iteF ⟨_, rfl, _, _, _, _, _, rfl, .ty "int", .base (.base (.lst hb)), kit_ty (a := "list") (b := "int") (r := false) (by decide +kernel), _, rfl, iteF ⟨_, rfl, _, _, _, _, _, rfl, .ty "dict", .base (.base (.lst hb)), kit_ty (a := "list") (b := "dict") (r := false) (by decide +kernel), _, rfl, iteF ?_⟩⟩⟩
        refine ⟨_, rfl, _, _, _, _, _, rfl, .ty "tuple", .base (.base (.lst hb)), kit_ty (a := "list") (b := "tuple") (r := false) (by decide +kernel), _, rfl, _, _, _, _, _, rfl, .ty "tuple", .base (.base (.lst ha)), kit_ty (a := "list") (b := "tuple") (r := false) (by decide +kernel), rfl, _, rfl, iteF ⟨_, rfl, _, _, _, _, _, rfl, .ty "list", .base (.base (.lst hb)), kit_ty (a := "list") (b := "list") (r := true) (by decide +kernel), _, rfl, _, _, _, _, _, rfl, .ty "list", .base (.base (.lst ha)), kit_ty (a := "list") (b := "list") (r := true) (by decide +kernel), rfl, _, rfl, iteF ?_⟩⟩
        refine ⟨_, rfl, a, xs, rfl, .inl (SqL.of ha), _, rfl, b, ys, rfl, .inl (SqL.of hb), rfl, true, by rw [decide_eq_true (by rw [hl])], iteT ?_⟩
        refine ⟨_, rfl, b, ys, rfl, .inl (SqL.of hb), _, rfl, by omega, by omega, fun D hD => ?_⟩
        refine lc_it (walk_range (lo := 0) (n := (ys.length : Int).toNat)) (fun i Hi => Same H Hi ∧ Hi D = some (.lst ((List.replicate i true).map V.bl))) ⟨same_new hD, by rw [upd_same]; rfl⟩ (fun _ _ _ _ => True.intro) ?_ ?_
        · rintro i y H1 Hi hi ⟨sm, hDi⟩ ⟨rfl, rfl⟩
          have h1 : i < xs.length := by omega
          have h2 : i < ys.length := by omega
          have e1 : xs[i]? = some xs[i] := List.getElem?_eq_getElem h1
          have e2 : ys[i]? = some ys[i] := List.getElem?_eq_getElem h2
          have ez : (0 : Int) + (i : Nat) = ((i : Nat) : Int) := by omega
          refine ⟨rfl, ⟨_, rfl, _, rfl, .inl (⟨a, xs, _, _, rfl, rfl, SqL.of (sm _ _ ha), (by rw [ez]; exact atI_nat e1), ?_⟩)⟩⟩
          refine ⟨_, rfl, _, rfl, .inl (⟨b, ys, _, _, rfl, rfl, SqL.of (sm _ _ hb), (by rw [ez]; exact atI_nat e2), ?_⟩)⟩
          refine ⟨_, _, rfl, (hr1 i _ _ e1 e2).mono sm, fun H' sm' => ⟨_, sm' _ _ hDi, ?_, same_wr (sm.trans sm') hD, ?_⟩⟩
          · rw [List.length_map, List.length_replicate]
            exact Nat.lt_of_le_of_lt (by omega : i ≤ 1000) (by decide)
          · rw [upd_same, List.replicate_succ', List.map_append]
            rfl
        · rintro Hi ⟨sm, hDi⟩
          refine ⟨D, _, rfl, SqL.of hDi, ?_⟩
          rw [show (List.replicate (ys.length : Int).toNat true).all id = true by simp]
          exact q Hi sm
    · refine iteF ⟨_, rfl, _, _, _, _, _, rfl, .ty "str", .gd hb, kit_ty (a := "dict") (b := "str") (r := false) (by decide +kernel), _, rfl, iteF ⟨_, rfl, _, _, _, _, _, rfl, .ty "int", .gd hb, kit_ty (a := "dict") (b := "int") (r := false) (by decide +kernel), _, rfl, iteF ⟨_, rfl, _, _, _, _, _, rfl, .ty "dict", .gd hb, kit_ty (a := "dict") (b := "dict") (r := true) (by decide +kernel), _, rfl, iteT ?_⟩⟩⟩
      refine ⟨_, rfl, _, _, _, _, _, rfl, .ty "dict", .gd ha, kit_ty (a := "dict") (b := "dict") (r := true) (by decide +kernel), _, rfl, iteF ⟨_, rfl, a, xs, ep, rfl, ha, _, rfl, b, ys, ep', rfl, hb, rfl, false, by rw [decide_eq_true (by rw [hl])]; rfl, iteF ?_⟩⟩
      refine ⟨_, rfl, b, ys, ep', rfl, hb, fun D hD => ?_⟩
      refine lc_it walk_g (fun i Hi => Same H Hi ∧ Hi D = some (.lst ((List.replicate i true).map V.bl))) ⟨same_new hD, by rw [upd_same]; rfl⟩ (fun i Hi _ p => p.1 _ _ hb) ?_ ?_
      · rintro i y H1 Hi hi ⟨sm, hDi⟩ ⟨rfl, r, hr0, rfl⟩
        have hm := List.mem_of_getElem? hr0
        obtain ⟨x, gx, rx⟩ := hr1 r hm
        have kk : KeyAt Hi r.1 r.2.1 := (ky r hm).mono (Tups.of_same sm)
        have kxi := kx.mono (Tups.of_same sm)
        have kyi := ky.mono (Tups.of_same sm)
        refine ⟨rfl, ⟨_, rfl, _, rfl, a, xs, ep, r.1, rfl, sm _ _ ha, kk, kxi, true, by rw [gx]; rfl, iteT ?_⟩⟩
        refine ⟨_, rfl, _, rfl, a, xs, ep, r.1, x, rfl, sm _ _ ha, kk, kxi, gx, _, rfl, _, rfl, b, ys, ep', r.1, _, rfl, sm _ _ hb, kk, kyi, getG_at nn hr0, ?_⟩
        refine ⟨_, _, rfl, rx.mono sm, fun H' sm' => ⟨_, sm' _ _ hDi, ?_, same_wr (sm.trans sm') hD, ?_⟩⟩
        · rw [List.length_map, List.length_replicate]
          exact Nat.lt_of_le_of_lt (by omega : i ≤ 1000) (by decide)
        · rw [upd_same, List.replicate_succ', List.map_append]
          rfl
      · rintro Hi ⟨sm, hDi⟩
        refine ⟨D, _, rfl, SqL.of hDi, ?_⟩
        rw [show (List.replicate ys.length true).all id = true by simp]
        exact q Hi sm
theorem ok_law_same {f : Addr} {fd : FuncData} (F : L2.Fun K "_law_same" "_law_same" s_law_same f fd) (B : Blt mg) (hm : mg "_law_same" = some (.ref f)) (hb : Binds K fd ["answer", "due"] []) : ∀ n, Has P w K mg base L2.CX0 (n + 1) "_law_same" ["answer", "due"] (spSame w n)
  | 0 => ⟨f, fd, hm, F.kp, hb, ok_same_step F B 0 ⟨f, fd, hm, F.kp, hb, ⟨fun _ _ _ _ h => h.elim, fun _ _ _ _ _ _ _ _ _ _ _ _ _ h => h.elim⟩⟩⟩
  | n + 1 => ⟨f, fd, hm, F.kp, hb, ok_same_step F B (n + 1) (ok_law_same F B hm hb n)⟩
end
end K29
end

section
set_option Elab.async false
set_option linter.all false
set_option maxRecDepth 100000
set_option maxHeartbeats 4000000
namespace GX
open PySem PySem.Spec PyProof.Rows L2 L2H
theorem fun_okE {P : Program} {w : World} {K : PySem.W.Frag} {mg : Str → Option Value} {base : Heap} {x qual : Str} {st : Stmt} {f : Addr} {fd : FuncData} {N ps : List Str} {k : Nat} {sp : SpE} (F : L2.Fun K x qual st f fd) (S : FnScope N ps (defScope st))
    (len : ∀ a cls d vs H Q E, sp a cls d vs H Q E → vs.length = ps.length)
    (hbody : ∀ (cdv : Value) (A : Around) (outer : List Env) (s : Shared) (H : Hp) (vs : List V) (Q : VK) (E : XK) (p : Addr × Obj) (cls : Value) (d : Option Addr), Zc cls d p.2 → (∃ fs, p.2.data = .fields fs) → RoomH k (A.deeper (envOfC qual (defScope st) s.heap.objs.size f cdv)) → sp p.1 cls d vs H Q E →
      ∃ t, PSs (cxH L2.CX0 P w K mg base N qual (defScope st) f cdv A outer s H E p) (defBody st) t ∧ t { nx := fun _ H' => Q .non H', rt := Q } (L2.start N vs) H) : FnE P w K mg base L2.CX0 (k + 1) f fd ps sp := by
  obtain ⟨oc, od, kV, doc, pm, an, cdv, ct, osl, rfl, lk, hcd⟩ := F.ex
  exact fn_ofE lk hcd S len fun A outer s H vs Q E p cls d hz hf hr h => hbody cdv A outer s H vs Q E p cls d hz hf hr h
mutual
def kdata : KD → PyData
  | .non => .none
  | .bl b => .bool b
  | .int i => .int i
  | .str x => .str x
  | .tup ds => .tuple (kdatas ds)
def kdatas : List KD → List PyData
  | [] => []
  | d :: ds => kdata d :: kdatas ds
end
mutual
theorem KV.dp {K : PySem.W.Frag} {H : Hp} : ∀ {d : KD} {v : V}, KV H d v → Dp K H v (kdata d)
  | _, _, .non => .non
  | _, _, .bl b => .bl b
  | _, _, .int i => .int i
  | _, _, .str x => .str x
  | _, _, .tup h r => .tup (SqT.of h) (KVs.dps r)
theorem KVs.dps {K : PySem.W.Frag} {H : Hp} : ∀ {ds : List KD} {vs : List V}, KVs H ds vs → DpAll K H vs (kdatas ds)
  | _, _, .nil => .nil
  | _, _, .cons h r => .cons h.dp (KVs.dps r)
end
theorem kdatas_can : ∀ ds : List KD, (∀ d ∈ ds, (kdata d).canLay0 = true) → PyData.canLayAll0 (kdatas ds) = true
  | [], _ => by simp [kdatas, PyData.canLayAll0]
  | d :: ds, h => by
    rw [kdatas, PyData.canLayAll0, h d List.mem_cons_self, kdatas_can ds fun d hd => h d (List.mem_cons_of_mem _ hd)]
    rfl
theorem sign_can {d : KD} (h : goodSign d = true) : (kdata d).canLay0 = true := by
  cases d with
  | non => simp [kdata, PyData.canLay0]
  | int i => simp [kdata, PyData.canLay0]
  | str x =>
    have e : x = "lost" := by simpa [goodSign] using h
    subst e
    decide +kernel
  | bl b => cases h
  | tup ds => cases h
theorem letter_can {d : KD} (h : goodLetter d = true) : (kdata d).canLay0 = true := by
  cases d with
  | tup ds =>
    rw [kdata, PyData.canLay0]
    exact kdatas_can ds fun d hd => sign_can (List.all_eq_true.mp h d hd)
  | _ => cases h
mutual
theorem kdata_depth : ∀ d : KD, (kdata d).depth = (nk d).depth
  | .non => by simp [kdata, nk, PyData.depth, NestedKey.depth]
  | .bl b => by simp [kdata, nk, PyData.depth, NestedKey.depth]
  | .int i => by simp [kdata, nk, PyData.depth, NestedKey.depth]
  | .str x => by simp [kdata, nk, PyData.depth, NestedKey.depth]
  | .tup ds => by rw [kdata, nk, PyData.depth, NestedKey.depth, kdatas_depth ds]
theorem kdatas_depth : ∀ ds : List KD, PyData.depthAll (kdatas ds) = NestedKey.depthAll (nks ds)
  | [] => by simp [kdatas, nks, PyData.depthAll, NestedKey.depthAll]
  | d :: ds => by rw [kdatas, nks, PyData.depthAll, NestedKey.depthAll, kdata_depth d, kdatas_depth ds]
end
theorem kd_shaped {d : KD} (g : goodLetter d = true) (f : Flat d) : SeqAt.shaped (kdata d) = true := by
  unfold SeqAt.shaped
  rw [letter_can g, kdata_depth]
  have := f.1
  simp
  omega
theorem kds_shaped {ds : List KD} (g : ∀ d ∈ ds, goodLetter d = true) (f : ∀ d ∈ ds, Flat d) : SeqAt.shaped (.list (kdatas ds)) = true := by
  unfold SeqAt.shaped
  have h1 : PyData.canLay0 (.list (kdatas ds)) = true := by rw [PyData.canLay0]; exact kdatas_can ds fun d hd => letter_can (g d hd)
  have h2 : ∀ ds : List KD, (∀ d ∈ ds, Flat d) → PyData.depthAll (kdatas ds) ≤ 8 := by
    intro ds
    induction ds with
    | nil => intro _; simp [kdatas, PyData.depthAll]
    | cons d ds ih =>
      intro f
      rw [kdatas, PyData.depthAll, kdata_depth]
      have := (f d List.mem_cons_self).1
      have := ih fun d hd => f d (List.mem_cons_of_mem _ hd)
      omega
  have h3 : PyData.depth (.list (kdatas ds)) ≤ 9 := by
    rw [PyData.depth]
    have := h2 ds f
    omega
  rw [h1]
  simp
  omega

section
variable {X : Cx} {k : Nat} {ps : List Str} {x : Str} {p pos : Pos} {e : Expr} {es : List Expr} {t : TA}
theorem pe_hcF {sp : SpE} {a : Addr} {oe : Obj} {cls : Value} {d : Option Addr} (F : HasE X.prog X.w X.K X.mg X.base L2.CX0 k x ps sp) (hp : (a, oe) ∈ X.pn) (hz : Zc cls d oe) (hf : ∃ fs, oe.data = .fields fs) (hr : RoomH k X.A) (hg : Gl X x)
    (ha : PA X (e :: es) t) (hdb : (x == ("__debug__" : Str)) = false := by decide) (he : starEach (e :: es) X.env = (false, eval e X.env) :: starEach es X.env := by rfl) (hpl : (backTo pos (starEach es X.env)).any (·.1) = false := by rfl) :
    PE X (.Call (.Name x p) (e :: es) [] pos) (tCallE (sp a cls d) L2.E0 t) := pe_hcE (q := (a, oe)) F hp hz hf hr hg ha hdb he hpl
end

theorem mergeG_app : ∀ {more acc : List GRow}, ((acc ++ more).map (·.1)).Nodup → mergeG acc more = acc ++ more
  | [], acc, _ => (List.append_nil acc).symm
  | x :: more, acc, n => by
    show mergeG (putG acc x.1 x.2.1 x.2.2) more = _
    have hx : x.1 ∉ acc.map (·.1) := by
      rw [List.map_append, List.map_cons, List.nodup_append] at n
      intro h
      exact n.2.2 _ h _ List.mem_cons_self rfl
    rw [putG_new hx, mergeG_app (by rw [List.append_assoc]; exact n), List.append_assoc]
    rfl
theorem mergeG_nil {more : List GRow} (n : (more.map (·.1)).Nodup) : mergeG [] more = more := mergeG_app n

/-- a statement whose ways come together again: I holds behind it -/
def tCutS (t : TS) : TS := fun D σ H => ∃ I : L2.St → Hp → Prop, t { D with nx := I } σ H ∧ ∀ σ' H', I σ' H' → D.nx σ' H'
theorem ps_cut {X : Cx} {st : Stmt} {t : TS} (h : PS X st t) : PS X st (tCutS t) := by
  refine ⟨fun pins s σ H D I0 ⟨I, h1, h2⟩ => wpAny_mono (h.run pins s σ H { D with nx := I } I0 h1) (fun f s1 hs => ?_) fun _ _ z => z⟩
  cases f with
  | next =>
    obtain ⟨σ1, H1, J, q⟩ := hs
    exact ⟨σ1, H1, J, h2 _ _ q⟩
  | ret u => exact hs
  | brk => exact hs
  | cont => exact hs
theorem same_kp {sa : Addr} {H A B : Hp} (s : Same H A) (n : H sa = none) (k : Kp sa A B) : Same H B := fun b o e => k.k b o (ne_of_none e n) (s b o e)
end GX
end

section
set_option Elab.async false
set_option linter.all false
set_option maxRecDepth 100000
set_option maxHeartbeats 4000000
namespace K29
open PySem PySem.Spec PyProof.Rows L2 L2H GX
section
variable {P : Program} {w : World} {K : PySem.W.Frag} {mg : Str → Option Value} {base : Heap}
/-! ### _law_fault -/
abbrev s_law_fault : Stmt := top 19
theorem sc_law_fault : FnScope ["error"] ["error"] (defScope s_law_fault) := ⟨rfl, rfl, rfl, by decide +kernel, rfl, by decide +kernel, by decide +kernel⟩
def ErrTup (H : Hp) (p : Addr) : Err → Prop
  | .many what => H p = some (.tup [.str "TooMany", .str what])
  | .bad st what => H p = some (.tup [.str "BadMachine", .int st, .str what])
def spFault (CM CB : Addr) : SpE := fun a cls d vs H Q _ => ∃ e, vs = [.ref a] ∧ ErrIs CM CB e cls d H ∧ ∀ H' p, Same H H' → H p = none → ErrTup H' p e → Q (.ref p) H'
/-- what the top tells of the two error classes -/
structure ET (K : PySem.W.Frag) (mg : Str → Option Value) (CM CB : Addr) : Prop where
  gM : mg "TooMany" = some (.ref CM)
  gB : mg "BadMachine" = some (.ref CB)
  eM : ExcC K CM
  eB : ExcC K CB
  xM : XfC K CM
  xB : XfC K CB
  nMw : PySem.W.findIn K (.ref CM) "what" = some none
  nBw : PySem.W.findIn K (.ref CB) "what" = some none
  nBs : PySem.W.findIn K (.ref CB) "state" = some none
  kMM : PySem.W.kitOne K (.ref CM) (.ref CM) = some true
  kBM : PySem.W.kitOne K (.ref CB) (.ref CM) = some false
  kBB : PySem.W.kitOne K (.ref CB) (.ref CB) = some true
theorem ok_law_fault {f CM CB : Addr} {fd : FuncData} (F : L2.Fun K "_law_fault" "_law_fault" s_law_fault f fd) (B : Blt mg) (T : ET K mg CM CB) : FnE P w K mg base L2.CX0 1 f fd ["error"] (spFault CM CB) := by
  refine fun_okE F sc_law_fault (fun a cls d vs H Q E h => ?_) (fun cdv A outer s H vs Q E p cls d hz hf hr h => ?_)
  · obtain ⟨e, rfl, _⟩ := h
    rfl
  · obtain ⟨e, rfl, he, q⟩ := h
    refine ⟨_, (pss_cons (ps_if (pt_val (pe_callB (call_isP List.mem_cons_self hz hf) (by rfl) B.isinstance_ (by decide +kernel) (pa_cons (pv 0) (pa_cons (pe_glob (v := .ref CM) (by rfl) T.gM rfl) pa_nil))))
  (pss_one (ps_ret (pe_tup (pa_cons pe_str (pa_cons (pe_xfP List.mem_cons_self hz hf (pv 0)) pa_nil)))))
  pss_nil)
  (pss_cons (ps_if (pt_val (pe_callB (call_isP List.mem_cons_self hz hf) (by rfl) B.isinstance_ (by decide +kernel) (pa_cons (pv 0) (pa_cons (pe_glob (v := .ref CB) (by rfl) T.gB rfl) pa_nil))))
  (pss_one (ps_ret (pe_tup (pa_cons pe_str (pa_cons (pe_xfP List.mem_cons_self hz hf (pv 0)) (pa_cons (pe_xfP List.mem_cons_self hz hf (pv 0)) pa_nil))))))
  pss_nil)
  (pss_one (ps_ret (pe_tup (pa_cons pe_str pa_nil)))))), ?_⟩
    cases e with
    | many what =>
      obtain ⟨rfl, dd, rfl, hd⟩ := he
      refine ⟨_, rfl, _, _, _, CM, dd, _, rfl, rfl, rfl, T.eM, hd, .own CM, T.kMM, _, rfl, iteT ?_⟩
      refine ⟨_, rfl, rfl, CM, dd, _, .str what, rfl, rfl, T.xM, T.nMw, hd, rfl, by show 2 ≤ sizeLine; decide, fun t ht => ?_⟩
      exact q _ t (same_new ht) ht upd_same
    | bad st what =>
      obtain ⟨rfl, dd, rfl, hd⟩ := he
      refine ⟨_, rfl, _, _, _, CB, dd, _, rfl, rfl, rfl, T.eB, hd, .own CM, T.kBM, _, rfl, iteF ?_⟩
      refine ⟨_, rfl, _, _, _, CB, dd, _, rfl, rfl, rfl, T.eB, hd, .own CB, T.kBB, _, rfl, iteT ?_⟩
      refine ⟨_, rfl, rfl, CB, dd, _, .int st, rfl, rfl, T.xB, T.nBs, hd, (by rw [lookup_put, if_neg (by decide +kernel), lookup_put, if_pos rfl]), _, rfl, rfl, CB, dd, _, .str what, rfl, rfl, T.xB, T.nBw, hd, rfl, by show 3 ≤ sizeLine; decide, fun t ht => ?_⟩
      exact q _ t (same_new ht) ht upd_same
/-! ### _law_g_bad -/
abbrev s_law_g_bad : Stmt := top 26
theorem sc_law_g_bad : FnScope ["letter", "sign"] ["letter"] (defScope s_law_g_bad) := ⟨rfl, rfl, rfl, by decide +kernel, rfl, by decide +kernel, by decide +kernel⟩
def spBad : Sp := fun vs H Q _ => ∃ d v, vs = [v] ∧ KV H d v ∧ Q (.bl (!goodLetter d)) H
theorem ok_law_g_bad {f : Addr} {fd : FuncData} (F : L2.Fun K "_law_g_bad" "_law_g_bad" s_law_g_bad f fd) (B : Blt mg) : FnOk P w K mg base L2.CX0 1 f fd ["letter"] spBad := by
  have nd := sc_law_g_bad.nd
  refine F.ok sc_law_g_bad (fun vs H Q E h => ?_) (fun cdv A outer s H vs Q E hr h => ?_)
  · obtain ⟨d, v, rfl, _⟩ := h
    rfl
  · obtain ⟨d, v, rfl, hv, q⟩ := h
    refine ⟨_, (pss_cons (ps_if (pt_not (pt_val (pe_callB (w_isi K w) (by rfl) B.isinstance_ (by decide +kernel) (pa_cons (pv 0) (pa_cons (pe_bltn (v := .ty "tuple") (by rfl) B.tuple_ (by decide +kernel) rfl) pa_nil)))))
  (pss_one (ps_ret pe_bl))
  pss_nil)
  (pss_cons (ps_for PassesOwn.never rfl (k_pit K (pv 0)) (pgn 1 nd)
  (pss_cons (ps_if (pt_val (pe_callB (w_isi K w) (by rfl) B.isinstance_ (by decide +kernel) (pa_cons (pv 1) (pa_cons (pe_bltn (v := .ty "bool") (by rfl) B.bool_ (by decide +kernel) rfl) pa_nil))))
  (pss_one (ps_ret pe_bl))
  pss_nil)
  (pss_one (ps_if (pt_not (PW.pt (pw_or (pt_cmpR op_isN (pv 1) pe_non (nomark _)) (pw_or (pt_val (pe_callB (w_isi K w) (by rfl) B.isinstance_ (by decide +kernel) (pa_cons (pv 1) (pa_cons (pe_bltn (v := .ty "int") (by rfl) B.int_ (by decide +kernel) rfl) pa_nil)))) (pw_or1 (PW.pt (pw_and (pt_val (pe_callB (w_isi K w) (by rfl) B.isinstance_ (by decide +kernel) (pa_cons (pv 1) (pa_cons (pe_bltn (v := .ty "str") (by rfl) B.str_ (by decide +kernel) rfl) pa_nil)))) (pw_and1 (pt_cmpR op_eq (pv 1) pe_str (nomark _))))))))))
  (pss_one (ps_ret pe_bl))
  pss_nil))))
  (pss_one (ps_ret pe_bl)))), ?_⟩
    refine ⟨_, rfl, _, _, _, _, _, rfl, .ty "tuple", hv.ty, kit_tuple d, _, rfl, ?_⟩
    cases hv with
    | @tup a xs ds ha hs =>
      have hlen := KVs.len hs
      refine iteF ⟨_, rfl, a, rfl, ⟨xs, SqT.of ha⟩, for_it (walk_tup (xs := xs)) (fun i σ Hi => Hi = H ∧ (∃ x, σ = [some (.ref a), x]) ∧ ∀ d ∈ ds.take i, goodSign d = true) ⟨rfl, ⟨none, rfl⟩, by simp⟩ (fun i σ Hi _ p => by rw [p.1]; exact SqT.of ha) ?_ ?_⟩
      · rintro i x σ H1 Hi hi ⟨rfl, ⟨y, rfl⟩, hg⟩ ⟨rfl, hx⟩
        obtain ⟨di, hdi, kv⟩ := hs.at hx
        have hm := List.mem_of_getElem? hdi
        have bad : goodSign di = false → (!goodLetter (.tup ds)) = true := fun e => by
          show (!ds.all goodSign) = true
          rw [Bool.not_eq_true', List.all_eq_false]
          exact ⟨di, hm, by rw [e]; exact Bool.false_ne_true⟩
        have good : goodSign di = true → ∀ d ∈ ds.take (i + 1), goodSign d = true := fun e z hz => by
          rw [List.take_add_one, hdi] at hz
          rcases List.mem_append.mp hz with hz | hz
          · exact hg z hz
          · obtain rfl : z = di := by simpa using hz
            exact e
        refine ⟨_, rfl, _, _, _, _, _, rfl, .ty "bool", kv.ty, kit_bool di, _, rfl, ?_⟩
        cases kv with
        | bl b =>
          rw [bad rfl] at q
          exact iteT q
        | non => exact iteF ⟨_, rfl, rfl, _, rfl, iteT (iteF ⟨rfl, ⟨_, rfl⟩, good rfl⟩)⟩
        | int n => exact iteF ⟨_, rfl, rfl, _, rfl, iteF ⟨_, rfl, _, _, _, _, _, rfl, .ty "int", (KV.int n).ty, kit_int _, _, rfl, iteT (iteF ⟨rfl, ⟨_, rfl⟩, good rfl⟩)⟩⟩
        | tup h r =>
          rw [bad rfl] at q
          exact iteF ⟨_, rfl, rfl, _, rfl, iteF ⟨_, rfl, _, _, _, _, _, rfl, .ty "int", (KV.tup h r).ty, kit_int _, _, rfl, iteF ⟨_, rfl, _, _, _, _, _, rfl, .ty "str", (KV.tup h r).ty, kit_str _, _, rfl, iteF (iteT q)⟩⟩⟩
        | str z =>
          refine iteF ⟨_, rfl, rfl, _, rfl, iteF ⟨_, rfl, _, _, _, _, _, rfl, .ty "int", (KV.str z).ty, kit_int _, _, rfl, iteF ⟨_, rfl, _, _, _, _, _, rfl, .ty "str", (KV.str z).ty, kit_str _, _, rfl, iteT ⟨_, rfl, rfl, _, rfl, ?_⟩⟩⟩⟩
          by_cases e : z = "lost"
          · rw [decide_eq_true (by rw [e])]
            exact iteF ⟨rfl, ⟨_, rfl⟩, good (by simp [goodSign, e])⟩
          · rw [decide_eq_false (by intro q; exact e (by injection q))]
            rw [bad (by simp [goodSign, e])] at q
            exact iteT q
      · rintro σ Hi ⟨rfl, ⟨y, rfl⟩, hg⟩
        rw [List.take_of_length_le (by omega)] at hg
        have e : goodLetter (.tup ds) = true := List.all_eq_true.mpr hg
        rw [e] at q
        exact q
    | non => exact iteT q
    | bl b => exact iteT q
    | int i => exact iteT q
    | str x => exact iteT q
end
end K29
end

section
set_option Elab.async false
set_option linter.all false
set_option maxRecDepth 100000
set_option maxHeartbeats 4000000
namespace K29
open PySem PySem.Spec PyProof.Rows L2 L2H GX
section
variable {P : Program} {w : World} {K : PySem.W.Frag} {mg : Str → Option Value} {base : Heap}
/-! ### _law_g_made -/
abbrev s_law_g_made : Stmt := top 28
theorem sc_law_g_made : FnScope ["lag", "rows", "told", "error"] ["lag", "rows"] (defScope s_law_g_made) := ⟨rfl, rfl, rfl, by decide +kernel, rfl, by decide +kernel, by decide +kernel⟩
def spMade (w : World) (C : Addr) : Sp := fun vs H Q _ => ∃ lag a as rows ns, vs = [.int lag, .ref a] ∧ RowsIn w H a as rows ∧ RowsOk rows ∧ Order rows ns ∧
  (∀ e, dueOf lag rows ns = some e → ∀ H' p p2, Same H H' → H' p = some (.tup [.str "raised", .ref p2]) → ErrTup H' p2 e → Q (.ref p) H') ∧
  (dueOf lag rows ns = none → ∀ H' p m ms, Same H H' → H' p = some (.tup [.str "let", .ref m]) → MachAt w C H H' m lag ms → RowsPerm ms rows → RowsOk ms → Q (.ref p) H')
/-- how the clause «except AnyRootError» meets the two -/
structure ER (K : PySem.W.Frag) (mg : Str → Option Value) (CA CM CB : Addr) : Prop where
  gA : mg "AnyRootError" = some (.ref CA)
  mA : PySem.W.exmOne K (.ref CM) (.ref CA) = some true
  bA : PySem.W.exmOne K (.ref CB) (.ref CA) = some true
theorem ErrIs.meets {CA CM CB : Addr} {e : Err} {cls : Value} {d : Option Addr} {H : Hp} (T : ER K mg CA CM CB) (h : ErrIs CM CB e cls d H) : PySem.W.exmOne K cls (.ref CA) = some true := by
  cases e with
  | many what => obtain ⟨rfl, _⟩ := h; exact T.mA
  | bad st what => obtain ⟨rfl, _⟩ := h; exact T.bA
theorem ErrTup.same {H H' : Hp} (s : Same H H') {p : Addr} : ∀ {e : Err}, ErrTup H p e → ErrTup H' p e
  | .many _, h => s _ _ h
  | .bad _ _, h => s _ _ h
theorem ErrTup.there {H : Hp} {p : Addr} : ∀ {e : Err}, ErrTup H p e → ∃ o, H p = some o
  | .many _, h => ⟨_, h⟩
  | .bad _ _, h => ⟨_, h⟩
theorem ok_law_g_made {f C CA CM CB fI : Addr} {fd fdI : FuncData} (F : L2.Fun K "_law_g_made" "_law_g_made" s_law_g_made f fd) (T : ER K mg CA CM CB) (K_Machine : Mk K C fI) (G_Machine : FnOk P w K mg base (L2.CX P w) 6 fI fdI ["self", "lag", "rows"] (spInit w C CM CB)) (m_Machine : mg "Machine" = some (.ref C)) (b_Machine : Binds K fdI ["self", "lag", "rows"] [])
    (C_law_fault : HasE P w K mg base L2.CX0 1 "_law_fault" ["error"] (spFault CM CB)) : FnOk P w K mg base L2.CX0 8 f fd ["lag", "rows"] (spMade w C) := by
  have nd := sc_law_g_made.nd
  refine F.ok sc_law_g_made (fun vs H Q E h => ?_) (fun cdv A outer s H vs Q E hr h => ?_)
  · obtain ⟨lag, a, as, rows, ns, rfl, _⟩ := h
    rfl
  · obtain ⟨lag, a, as, rows, ns, rfl, RI, rok, ord, qE, q⟩ := h
    refine ⟨_, (pss_cons (ps_try_as (i := 3) (Wout := fun _ _ _ _ => False) rfl rfl nd rfl rfl ⟨rfl, by decide, .inl T.gA⟩ takes0 (fun W pn xe tk pw => pss_one (psn 2 nd (pe_makeS K_Machine G_Machine (hr.mono (by decide)) (by rfl) m_Machine b_Machine (fun σ => passAt tk σ) (pa_cons (pv 0) (pa_cons (pv 1) pa_nil))))) (fun a oe cls d pn hz hf => (pss_one (ps_ret (pe_tup (pa_cons pe_str (pa_cons (pe_hcF C_law_fault List.mem_cons_self hz hf (hrH (hr.mono (by decide))) (by rfl) (pa_cons (pv 3) pa_nil)) pa_nil)))))))
  (pss_one (ps_ret (pe_tup (pa_cons pe_str (pa_cons (pv 2) pa_nil)))))), ?_⟩
    refine ⟨_, rfl, _, rfl, fun x dx hx hdx ndx => ?_⟩
    have s0 : Same H (upd (upd H dx (.own x)) x (.ins C dx [])) := fun b o e => by
      rw [upd_ne (ne_of_none e hx), upd_ne (ne_of_none e hdx)]
      exact e
    have s1 : ∀ {H' : Hp}, Same (del (upd (upd H dx (.own x)) x (.ins C dx [])) x) H' → Same H H' := fun {H'} s b o e => s b o (by rw [del_ne (ne_of_none e hx)]; exact s0 b o e)
    refine ⟨x, dx, a, lag, rows, as, ns, rfl, upd_same, RI.keep (Tups.of_same s0) fun b _ o e => s0 b o e, rok, ord, fun e he cls d H' sm hi => ?_, fun he H' rd ms sm hm hra pm mok => ⟨rfl, ?_⟩⟩
    · refine ⟨true, hi.meets T, fun _ b hb => ?_, fun z => nomatch z⟩
      refine ⟨_, rfl, e, rfl, hi, fun H2 p sm2 hp het => ⟨by show 2 ≤ sizeLine; decide, fun t ht => ?_⟩⟩
      exact qE e he _ t p ((s1 sm).trans (sm2.trans (same_new ht))) upd_same (het.same (same_new ht))
    · refine ⟨_, rfl, by show 2 ≤ sizeLine; decide, fun t ht => ?_⟩
      refine q he _ t x ms ((s1 sm).trans (same_new ht)) upd_same ?_ pm mok
      refine MachAt.same ⟨dx, rd, hm, hra.older fun b hb => ?_, hx⟩ (same_new ht)
      by_cases hbx : b = x
      · rw [hbx]; exact hx
      · rw [del_ne hbx] at hb
        exact s0.free hb
/-! ### _law_g_written -/
abbrev s_law_g_written : Stmt := top 29
theorem sc_law_g_written : FnScope ["machine", "letters", "told", "error"] ["machine", "letters"] (defScope s_law_g_written) := ⟨rfl, rfl, rfl, by decide +kernel, rfl, by decide +kernel, by decide +kernel⟩
/-- what is told of a writing -/
def ResAt (H : Hp) (p : Addr) : Int ⊕ List KD → Prop
  | .inl st => ∃ p2, H p = some (.tup [.str "raised", .ref p2]) ∧ H p2 = some (.tup [.str "BadMachine", .int st, .str "letter"])
  | .inr outs => ∃ p2 us, H p = some (.tup [.str "let", .ref p2]) ∧ H p2 = some (.lst us) ∧ KVs H outs us
def spWritten (K : PySem.W.Frag) (w : World) (C : Addr) : Sp := fun vs H Q _ => ∃ H0 m la lag rows ws word, vs = [.ref m, .ref la] ∧ MachAt w C H0 H m lag rows ∧ RowsOk rows ∧ RowsClosed rows ∧ (rowsGet rows 0).isSome ∧
  SqL K H la ws ∧ KVs H word ws ∧ (∀ d ∈ word, Flat d) ∧ word.length ≤ 1000 ∧ ∀ H' p, Same H H' → ResAt H' p (runOf rows 0 word []) → Q (.ref p) H'
theorem ok_law_g_written {f C CA CM CB : Addr} {fd : FuncData} (F : L2.Fun K "_law_g_written" "_law_g_written" s_law_g_written f fd) (T : ER K mg CA CM CB) (M_write : HasM P w K mg base (L2.CX P w) 3 C "write" ["self", "letters"] (spWrite K w C CB))
    (C_law_fault : HasE P w K mg base L2.CX0 1 "_law_fault" ["error"] (spFault CM CB)) : FnOk P w K mg base L2.CX0 4 f fd ["machine", "letters"] (spWritten K w C) := by
  have nd := sc_law_g_written.nd
  refine F.ok sc_law_g_written (fun vs H Q E h => ?_) (fun cdv A outer s H vs Q E hr h => ?_)
  · obtain ⟨H0, m, la, lag, rows, ws, word, rfl, _⟩ := h
    rfl
  · obtain ⟨H0, m, la, lag, rows, ws, word, rfl, MA, rok, rcl, r0, hla, hw, hfl, hlen, q⟩ := h
    obtain ⟨dx, rd, hm, _⟩ := id MA
    refine ⟨_, (pss_cons (ps_try_as (i := 3) (Wout := fun _ _ _ _ => False) rfl rfl nd rfl rfl ⟨rfl, by decide, .inl T.gA⟩ takes0 (fun W pn xe tk pw => pss_one (psn 2 nd (pe_hmS M_write (hr.mono (by decide)) (pv 0) (fun σ => passAt tk σ) (pa_cons (pv 1) pa_nil)))) (fun a oe cls d pn hz hf => (pss_one (ps_ret (pe_tup (pa_cons pe_str (pa_cons (pe_hcF C_law_fault List.mem_cons_self hz hf (hrH (hr.mono (by decide))) (by rfl) (pa_cons (pv 3) pa_nil)) pa_nil)))))))
  (pss_one (ps_ret (pe_tup (pa_cons pe_str (pa_cons (pv 2) pa_nil)))))), ?_⟩
    refine ⟨_, rfl, m, dx, _, rfl, hm, mf_no _ _ (by decide +kernel) (by decide +kernel), _, rfl, ?_⟩
    refine ⟨H0, m, la, lag, rows, ws, word, rfl, MA, rok, rcl, r0, hla, hw, hfl, hlen, fun st he d H' hd sm hx => ?_, fun outs he H' p us sm hp hus kv => ?_⟩
    · refine ⟨true, T.bA, fun _ b hb => ?_, fun z => nomatch z⟩
      refine ⟨_, rfl, .bad st "letter", rfl, ⟨rfl, d, rfl, hx⟩, fun H2 p sm2 hp het => ⟨by show 2 ≤ sizeLine; decide, fun t ht => ?_⟩⟩
      refine q _ t (sm.trans (sm2.trans (same_new ht))) ?_
      rw [he]
      exact ⟨p, upd_same, het.same (same_new ht)⟩
    · refine ⟨_, rfl, by show 2 ≤ sizeLine; decide, fun t ht => ?_⟩
      refine q _ t (sm.trans (same_new ht)) ?_
      rw [he]
      exact ⟨p, us, upd_same, same_new ht _ _ hus, kv.mono (Tups.of_same (same_new ht))⟩
end
end K29
end

section
set_option Elab.async false
set_option linter.all false
set_option maxRecDepth 100000
set_option maxHeartbeats 4000000
namespace K29
open PySem PySem.Spec PyProof.Rows L2 L2H GX
section
variable {P : Program} {w : World} {K : PySem.W.Frag} {mg : Str → Option Value} {base : Heap}
/-! ### _law_g_copy -/
abbrev s_law_g_copy : Stmt := top 20
theorem sc_law_g_copy : FnScope ["rows", "out", "state", "letter"] ["rows"] (defScope s_law_g_copy) := ⟨rfl, rfl, rfl, by decide +kernel, rfl, by decide +kernel, by decide +kernel⟩
def spCopy (w : World) : Sp := fun vs H Q _ => ∃ a as rows, vs = [.ref a] ∧ RowsIn w H a as rows ∧ RowsOk rows ∧ ∀ H' p, Same H H' → RowsAt w H H' p rows → Q (.ref p) H'
theorem ok_law_g_copy {f : Addr} {fd : FuncData} (F : L2.Fun K "_law_g_copy" "_law_g_copy" s_law_g_copy f fd) (B : Blt mg) : FnOk P w K mg base L2.CX0 1 f fd ["rows"] (spCopy w) := by
  have nd := sc_law_g_copy.nd
  refine F.ok sc_law_g_copy (fun vs H Q E h => ?_) (fun cdv A outer s H vs Q E hr h => ?_)
  · obtain ⟨a, as, rows, rfl, _⟩ := h
    rfl
  · obtain ⟨a, as, rows, rfl, RI, rok, q⟩ := h
    obtain ⟨⟨ep0, hA⟩, pA, _⟩ := RI
    have hl := Paired.length pA
    refine ⟨_, (pss_cons (psn 1 nd (w_new w))
  (pss_cons (ps_for PassesOwn.never rfl (w_pi w (pv 0)) (pgn 2 nd)
  (pss_one (ps_asg (pe_callTy (w_dict w (hu14 hr)) (by rfl) B.dict_ (by decide +kernel) (pa_cons (pe_lc (own := [("letter", 3)]) rfl nd (w_pi w (pe_ix (w_ixg w (hu9 hr)) (pv 0) (pv 2) (fun _ _ => rfl))) (blkOk_by (by kernel_rfl)) (fun _ _ _ _ _ => (pgn 3 nd)) (fun _ _ _ _ _ => pts_nil) (fun _ _ _ _ _ => (pe_tup (pa_cons (pv 3) (pa_cons (pe_ix (w_ixg w (hu9 hr)) (pe_ix (w_ixg w (hu9 hr)) (pv 0) (pv 2) (fun _ _ => rfl)) (pv 3) (fun _ _ => rfl)) pa_nil))))) pa_nil)) (pg_sub (pv 1) (pv 2) (w_set w (hu9 hr))))))
  (pss_one (ps_ret (pv 1))))), ?_⟩
    intro o ep1 ho
    refine ⟨_, rfl, a, _, ep0, rfl, same_new ho _ _ hA, for_it walk_g (fun i σ Hi => ∃ bs ep x y, σ = [some (.ref a), some (.ref o), x, y] ∧ Same H Hi ∧ Hi o = some (GO w o (rowsG (rows.take i) bs) ep) ∧ Paired (fun ra (r : Int × GX.Row) => RowAt w Hi ra r.2) bs (rows.take i) ∧ (o :: bs).Nodup ∧ ∀ b ∈ bs, H b = none)
      ⟨[], ep1, none, none, rfl, same_new ho, by rw [upd_same]; rfl, .nil, by simp, fun b hb => nomatch hb⟩ (fun i σ Hi _ ⟨_, _, _, _, _, p, _⟩ => p _ _ hA) ?_ ?_⟩
    · rintro i z σ H1 Hi hi ⟨bs, ep, x, y, rfl, sm, hoi, pb, nb, fb⟩ ⟨rfl, r0, hr0, rfl⟩
      rw [rowsG_len hl] at hi
      obtain ⟨r, hri⟩ : ∃ r, rows[i]? = some r := ⟨_, List.getElem?_eq_getElem hi⟩
      obtain ⟨ra, hra, hrow⟩ := Paired.at' pA hri
      have e0 := rowsG_at hri hra
      rw [hr0] at e0
      obtain rfl := Option.some.inj e0
      have rok1 := rok.2.1 r (List.mem_of_getElem? hri)
      obtain ⟨xs, ep2, hxs, pe⟩ := hrow
      have kn := ents_nodup pe rok1
      have ko := ents_ok pe rok1
      have gst : getG (rowsG rows as) (.num r.1) = some (.ref ra) := getG_at (rowsG_nodup hl rok.1) (rowsG_at hri hra)
      have hlx := Paired.length pe
      have h1000 : List.length r.2 ≤ 1000 := rok1.2.2
      refine ⟨_, rfl, _, rfl, a, _, ep0, _, _, rfl, sm _ _ hA, KeyAt.int _ r.1, rowsG_ok _, gst, ra, xs, ep2, rfl, sm _ _ hxs, fun D hD => ?_⟩
      refine lc_it walk_g (fun j Hj => Same Hi Hj ∧ ∃ ps : List Addr, Hj D = some (.lst (ps.map V.ref)) ∧ Paired (fun p (r : GRow) => Hj p = some (.tup [r.2.1, r.2.2])) ps (xs.take j)) ⟨same_new hD, [], upd_same, .nil⟩ (fun j Hj _ p => p.1 _ _ (sm _ _ hxs)) ?_ ?_
      · rintro j z H2 Hj hj ⟨sm2, ps, hDj, pp⟩ ⟨rfl, g, hg, rfl⟩
        have sij := sm.trans sm2
        have kg : KeyAt Hj g.1 g.2.1 := (ko g (List.mem_of_getElem? hg)).mono (Tups.of_same sij)
        refine ⟨rfl, ⟨_, rfl, _, rfl, _, rfl, a, _, ep0, _, _, rfl, sij _ _ hA, KeyAt.int _ r.1, rowsG_ok _, gst, _, rfl, ra, xs, ep2, g.1, g.2.2, rfl, sij _ _ hxs, kg, ko.mono (Tups.of_same sij), getG_at kn hg, by show 2 ≤ sizeLine; decide, fun t ht => ?_⟩⟩
        have nDt : D ≠ t := ne_of_none hDj ht
        have hpl := Paired.length pp
        refine ⟨ps.map V.ref, by rw [upd_ne nDt]; exact hDj, ?_, same_wr (sm2.trans (same_new ht)) hD, ps ++ [t], by rw [upd_same, List.map_append]; rfl, ?_⟩
        · rw [List.length_map, hpl, List.length_take]
          exact Nat.lt_of_le_of_lt (by omega : _ ≤ 1000) (by decide)
        · rw [List.take_add_one, hg]
          refine Paired.snoc (pp.mono fun p g h => ?_) ?_
          · have n1 : p ≠ D := fun q => by rw [q, hDj] at h; cases h
            rw [upd_ne n1, upd_ne (ne_of_none h ht)]
            exact h
          · rw [upd_ne nDt.symm, upd_same]
      · rintro Hj ⟨sm2, ps, hDj, pp⟩
        rw [List.take_of_length_le (Nat.le_refl _)] at pp
        have sij := sm.trans sm2
        refine ⟨D, ps, xs, rfl, hDj, pp, ko.mono (Tups.of_same sij), fun p ep3 hp => ?_⟩
        rw [mergeG_nil kn]
        have hpi : Hi p = none := sm2.free hp
        have nop : o ≠ p := ne_of_none hoi hpi
        refine ⟨_, rfl, _, rfl, o, _, ep, .num r.1, rfl, by rw [upd_ne nop]; exact sm2 _ _ hoi, KeyAt.int _ r.1, rowsG_ok _, ?_, fun ep4 => ?_⟩
        · rw [rowsG_len (Paired.length pb), List.length_take]
          have h2 : rows.length ≤ 1000 := rok.2.2
          exact Nat.lt_of_le_of_lt (by omega : _ ≤ 1000) (by decide)
        have smp : Same Hj (upd Hj p (GO w p xs ep3)) := same_new hp
        have tt : Tups (upd Hj p (GO w p xs ep3)) (upd (upd Hj p (GO w p xs ep3)) o (GO w o (putG (rowsG (rows.take i) bs) (.num r.1) (.int r.1) (.ref p)) ep4)) := fun b xs e => by
          rw [upd_ne (fun q => by rw [q, smp _ _ (sm2 _ _ hoi)] at e; cases e)]
          exact e
        obtain ⟨s1, ⟨ep5, s2⟩, s3, s4, s5⟩ := rows_step (H2 := upd (upd Hj p (GO w p xs ep3)) o (GO w o (putG (rowsG (rows.take i) bs) (.num r.1) (.int r.1) (.ref p)) ep4)) sm ho ⟨_, hoi⟩ pb nb fb (fun b u hb e => by rw [upd_ne hb]; exact smp _ _ (sm2 _ _ e)) hpi
          ⟨xs, ep3, by rw [upd_ne nop.symm, upd_same], ents_mono tt (ents_mono (Tups.of_same (sij.trans smp)) pe)⟩ (take_fresh rok.1 hri) upd_same (fun b xs e => tt b xs (smp _ _ (sm2 _ _ e)))
        have e3 : rows.take (i + 1) = rows.take i ++ [r] := by rw [List.take_add_one, hri]; rfl
        rw [e3]
        exact ⟨bs ++ [p], ep5, _, _, rfl, s1, s2, s3, s4, s5⟩
    · rintro σ Hi ⟨bs, ep, x, y, rfl, sm, hoi, pb, nb, fb⟩
      rw [rowsG_len hl, List.take_of_length_le (Nat.le_refl _)] at hoi pb
      refine ⟨_, rfl, q Hi o sm ⟨bs, ⟨⟨ep, hoi⟩, pb, nb⟩, fun b hb => ?_⟩⟩
      rcases List.mem_cons.mp hb with rfl | hb
      · exact ho
      · exact fb b hb
end
end K29
end

section
set_option Elab.async false
set_option linter.all false
set_option maxRecDepth 100000
set_option maxHeartbeats 4000000
namespace K29
open PySem PySem.Spec PyProof.Rows L2 L2H GX
section
variable {P : Program} {w : World} {K : PySem.W.Frag} {mg : Str → Option Value} {base : Heap}
/-! ### _law_g_due -/
abbrev s_law_g_due : Stmt := top 27
theorem sc_law_g_due : FnScope ["lag", "rows", "state", "letter"] ["lag", "rows"] (defScope s_law_g_due) := ⟨rfl, rfl, rfl, by decide +kernel, rfl, by decide +kernel, by decide +kernel⟩
def spDue (w : World) : Sp := fun vs H Q _ => ∃ lag a as rows ns, vs = [.int lag, .ref a] ∧ RowsIn w H a as rows ∧ RowsOk rows ∧ Order rows ns ∧
  (∀ e, dueOf lag rows ns = some e → ∀ H' p, Same H H' → ErrTup H' p e → Q (.ref p) H') ∧ (dueOf lag rows ns = none → ∀ H', Same H H' → Q .non H')
theorem bl_step {α : Type} {f : α → Bool} {l : List α} {j : Nat} {x : α} (h : l[j]? = some x) : ((l.take j).map f).map V.bl ++ [V.bl (f x)] = ((l.take (j + 1)).map f).map V.bl := by
  rw [List.take_add_one, h, List.map_append, List.map_append]
  rfl
theorem ok_law_g_due {f : Addr} {fd : FuncData} (F : L2.Fun K "_law_g_due" "_law_g_due" s_law_g_due f fd) (B : Blt mg) (C_law_g_bad : Has P w K mg base L2.CX0 1 "_law_g_bad" ["letter"] spBad) : FnOk P w K mg base L2.CX0 2 f fd ["lag", "rows"] (spDue w) := by
  have nd := sc_law_g_due.nd
  refine F.ok sc_law_g_due (fun vs H Q E h => ?_) (fun cdv A outer s H vs Q E hr h => ?_)
  · obtain ⟨lag, a, as, rows, ns, rfl, _⟩ := h
    rfl
  · obtain ⟨lag, a, as, rows, ns, rfl, RI, rok, ord, qE, q⟩ := h
    obtain ⟨⟨ep, hA⟩, pA, _⟩ := RI
    have hl := Paired.length pA
    refine ⟨_, (pss_cons (ps_if (pt_cmpR op_gt (pv 0) pe_int (nomark _))
  (pss_one (ps_ret (pe_tup (pa_cons pe_str (pa_cons pe_str pa_nil)))))
  pss_nil)
  (pss_cons (ps_if (pt_cmpR op_gt (pe_callB (w_len w) (by rfl) B.len_ (by decide +kernel) (pa_cons (pv 1) pa_nil)) pe_int (nomark _))
  (pss_one (ps_ret (pe_tup (pa_cons pe_str (pa_cons pe_str pa_nil)))))
  pss_nil)
  (pss_cons (ps_if (pt_cmpR (w_nin w (hu9 hr)) pe_int (pv 1) (by rfl))
  (pss_one (ps_ret (pe_tup (pa_cons pe_str (pa_cons pe_int (pa_cons pe_str pa_nil))))))
  pss_nil)
  (pss_cons (ps_for PassesOwn.never rfl (k_pil K (pe_callB (w_sorted w) (by rfl) B.sorted_ (by decide +kernel) (pa_cons (pv 1) pa_nil))) (pgn 2 nd)
  (pss_cons (ps_if (pt_val (pe_callB (k_any K) (by rfl) B.any_ (by decide +kernel) (pa_cons (pe_lc (own := [("letter", 3)]) rfl nd (w_pi w (pe_ix (w_ixg w (hu9 hr)) (pv 1) (pv 2) (fun _ _ => rfl))) (blkOk_by (by kernel_rfl)) (fun _ _ _ _ _ => (pgn 3 nd)) (fun _ _ _ _ _ => pts_nil) (fun _ _ _ _ _ => (pe_hc C_law_g_bad (hr.mono (by decide)) (by rfl) (pa_cons (pv 3) pa_nil)))) pa_nil)))
  (pss_one (ps_ret (pe_tup (pa_cons pe_str (pa_cons (pv 2) (pa_cons pe_str pa_nil))))))
  pss_nil)
  (pss_one (ps_if (pt_val (pe_callB (k_any K) (by rfl) B.any_ (by decide +kernel) (pa_cons (pe_lc (own := [("letter", 3)]) rfl nd (w_pi w (pe_ix (w_ixg w (hu9 hr)) (pv 1) (pv 2) (fun _ _ => rfl))) (blkOk_by (by kernel_rfl)) (fun _ _ _ _ _ => (pgn 3 nd)) (fun _ _ _ _ _ => pts_nil) (fun _ _ _ _ _ => (pe_cmpR (w_nin w (hu9 hr)) (pe_ix (k_ixt K) (pe_ix (w_ixg w (hu9 hr)) (pe_ix (w_ixg w (hu9 hr)) (pv 1) (pv 2) (fun _ _ => rfl)) (pv 3) (fun _ _ => rfl)) pe_int (fun _ _ => rfl)) (pv 1) (by rfl)))) pa_nil)))
  (pss_one (ps_ret (pe_tup (pa_cons pe_str (pa_cons (pv 2) (pa_cons pe_str pa_nil))))))
  pss_nil))))
  (pss_one (ps_ret pe_non)))))), ?_⟩
    refine ⟨_, rfl, _, _, rfl, rfl, _, rfl, ?_⟩
    refine ite2 (fun h1 => ?_) (fun h1 => ?_)
    · refine ⟨by show 2 ≤ sizeLine; decide, fun t ht => qE (.many "lag") ?_ _ t (same_new ht) upd_same⟩
      unfold dueOf
      rw [if_pos (by simpa using h1)]
    refine ⟨_, rfl, a, _, ep, rfl, hA, _, _, rfl, rfl, _, rfl, ?_⟩
    rw [rowsG_len hl]
    refine ite2 (fun h2 => ?_) (fun h2 => ?_)
    · refine ⟨by show 2 ≤ sizeLine; decide, fun t ht => qE (.many "states") ?_ _ t (same_new ht) upd_same⟩
      unfold dueOf
      have h3 : rows.length > 400 := by
        have := of_decide_eq_true h2
        omega
      rw [if_neg (by simpa using h1), if_pos h3]
    have h2' : ¬ rows.length > 400 := fun z => h2 (decide_eq_true (by omega))
    refine ⟨_, rfl, a, _, ep, _, rfl, hA, KeyAt.int H 0, rowsG_ok H, _, rfl, ?_⟩
    rcases rows_get (s := 0) pA with ⟨row0, ra0, k1, k2, _⟩ | ⟨k1, k2, _⟩
    rotate_left
    · rw [k2]
      refine iteT ⟨by show 3 ≤ sizeLine; decide, fun t ht => qE (.bad 0 "missing") ?_ _ t (same_new ht) upd_same⟩
      unfold dueOf
      rw [if_neg (by simpa using h1), if_neg h2', k1]
      rfl
    rw [k2]
    refine iteF ?_
    have hdue : dueOf lag rows ns = dueLoop rows ns := by
      unfold dueOf
      rw [if_neg (by simpa using h1), if_neg h2', k1]
      rfl
    rw [hdue] at qE q
    refine ⟨_, rfl, a, _, ep, rows.map (·.1), rfl, hA, rowsG_vals hl, fun ns' sl p1 p2 hsl => ?_⟩
    obtain rfl := Order.uniq (rows := rows) ⟨p1, p2⟩ ord
    refine ⟨sl, rfl, ⟨_, SqL.of upd_same⟩, for_it (walk_list (xs := ns'.map V.int)) (fun i σ Hi => Same (upd H sl (.lst (ns'.map V.int))) Hi ∧ (∃ x y, σ = [some (.int lag), some (.ref a), x, y]) ∧ dueLoop rows ns' = dueLoop rows (ns'.drop i))
      ⟨Same.refl _, ⟨none, none, rfl⟩, rfl⟩ (fun i σ Hi _ p => SqL.of (p.1 _ _ upd_same)) ?_ ?_⟩
    · rintro i z σ H1 Hi hi ⟨sm0, ⟨x, y, rfl⟩, ed⟩ ⟨rfl, hx⟩
      have sm : Same H Hi := (same_new hsl).trans sm0
      rw [List.length_map] at hi
      obtain ⟨st, hst⟩ : ∃ st, ns'[i]? = some st := ⟨_, List.getElem?_eq_getElem hi⟩
      obtain rfl : z = .int st := by
        rw [List.getElem?_map, hst] at hx
        exact (Option.some.inj hx).symm
      have hstm : st ∈ rows.map (·.1) := ord.1.subset (List.mem_of_getElem? hst)
      have edrop : ns'.drop i = st :: ns'.drop (i + 1) := by
        obtain ⟨h1, h2⟩ := List.getElem?_eq_some_iff.mp hst
        rw [List.drop_eq_getElem_cons h1, h2]
      rcases rows_get (s := st) pA with ⟨row, ra, k3, k4, k5, ⟨xs, ep4, hra, pe⟩, k6⟩ | ⟨_, _, k3⟩
      rotate_left
      · exact absurd hstm k3
      have rok1 := rok.2.1 _ k6
      have kn := ents_nodup pe rok1
      have ko := ents_ok pe rok1
      have hlx := Paired.length pe
      have h1000 : List.length row ≤ 1000 := rok1.2.2
      rw [edrop, dueLoop, k3] at ed
      dsimp only at ed
      refine ⟨_, rfl, _, rfl, a, _, ep, _, _, rfl, sm _ _ hA, KeyAt.int Hi st, rowsG_ok Hi, k4, ra, xs, ep4, rfl, sm _ _ hra, fun D hD => ?_⟩
      refine lc_it walk_g (fun j Hj => Same Hi Hj ∧ Hj D = some (.lst (((row.take j).map fun r => !goodLetter r.1).map V.bl))) ⟨same_new hD, upd_same⟩ (fun j Hj _ p => p.1 _ _ (sm _ _ hra)) ?_ ?_
      · rintro j v H2 Hj hj ⟨sm2, hDj⟩ ⟨rfl, g, hg, rfl⟩
        obtain ⟨ent, hent, e1, e2, e3⟩ := Paired.at pe hg
        refine ⟨rfl, ⟨_, rfl, ent.1, _, rfl, e2.mono (Tups.of_same (sm.trans sm2)), _, hDj, ?_, same_wr sm2 hD, ?_⟩⟩
        · rw [List.length_map, List.length_map, List.length_take]
          exact Nat.lt_of_le_of_lt (by omega : _ ≤ 1000) (by decide)
        · rw [upd_same, ← bl_step (f := fun r : KD × KD × Int => !goodLetter r.1) hent]
      · rintro Hj ⟨sm2, hDj⟩
        rw [List.take_of_length_le (by omega)] at hDj
        refine ⟨D, _, rfl, SqL.of hDj, _, rfl, ?_⟩
        have ea : (row.map fun r => !goodLetter r.1).any id = row.any fun r => !goodLetter r.1 := by rw [List.any_map]; rfl
        rw [ea]
        cases hb : row.any fun r => !goodLetter r.1 with
        | true =>
          rw [hb, if_pos rfl] at ed
          exact iteT ⟨_, rfl, by show 3 ≤ sizeLine; decide, fun t ht => qE (.bad st "letter") ed _ t (sm.trans (sm2.trans (same_new ht))) upd_same⟩
        | false =>
          rw [hb, if_neg Bool.false_ne_true] at ed
          refine iteF ?_
          have sij := sm.trans sm2
          refine ⟨_, rfl, _, rfl, a, _, ep, _, _, rfl, sij _ _ hA, KeyAt.int _ st, rowsG_ok _, k4, ra, xs, ep4, rfl, sij _ _ hra, fun D2 hD2 => ?_⟩
          refine lc_it walk_g (fun j Hk => Same Hj Hk ∧ Hk D2 = some (.lst (((row.take j).map fun r => (rowsGet rows r.2.2).isNone).map V.bl))) ⟨same_new hD2, upd_same⟩ (fun j Hk _ p => p.1 _ _ (sij _ _ hra)) ?_ ?_
          · rintro j v H2 Hk hj ⟨sm3, hDk⟩ ⟨rfl, g, hg, rfl⟩
            obtain ⟨ent, hent, e1, e2, e3⟩ := Paired.at pe hg
            have sik := sij.trans sm3
            have kk : KeyAt Hk g.1 g.2.1 := (ko g (List.mem_of_getElem? hg)).mono (Tups.of_same sik)
            obtain ⟨tp, dv, tv, e4, htp, _, e5⟩ := (e3.mono (Tups.of_same sik)).two
            obtain rfl := e5.toInt
            refine ⟨rfl, ⟨_, rfl, _, rfl, a, _, ep, _, _, rfl, sik _ _ hA, KeyAt.int _ st, rowsG_ok _, k4, _, rfl, ra, xs, ep4, g.1, .ref tp, rfl, sik _ _ hra, kk, ko.mono (Tups.of_same sik), by rw [getG_at kn hg, e4], ?_⟩⟩
            refine ⟨tp, _, _, _, rfl, rfl, SqT.of htp, rfl, _, rfl, a, _, ep, _, rfl, sik _ _ hA, KeyAt.int _ ent.2.2, rowsG_ok _, _, hDk, ?_, same_wr sm3 hD2, ?_⟩
            · rw [List.length_map, List.length_map, List.length_take]
              exact Nat.lt_of_le_of_lt (by omega : _ ≤ 1000) (by decide)
            · have eb : (!(getG (rowsG rows as) (.num ent.2.2)).isSome) = (rowsGet rows ent.2.2).isNone := by
                rcases rows_get (s := ent.2.2) pA with ⟨row2, ra2, q1, q2, _⟩ | ⟨q1, q2, _⟩
                · rw [q1, q2]; rfl
                · rw [q1, q2]; rfl
              rw [upd_same, eb, ← bl_step (f := fun r : KD × KD × Int => (rowsGet rows r.2.2).isNone) hent]
          · rintro Hk ⟨sm3, hDk⟩
            rw [List.take_of_length_le (by omega)] at hDk
            refine ⟨D2, _, rfl, SqL.of hDk, _, rfl, ?_⟩
            have ea : (row.map fun r => (rowsGet rows r.2.2).isNone).any id = row.any fun r => (rowsGet rows r.2.2).isNone := by rw [List.any_map]; rfl
            rw [ea]
            cases hb : row.any fun r => (rowsGet rows r.2.2).isNone with
            | true =>
              rw [hb, if_pos rfl] at ed
              exact iteT ⟨_, rfl, by show 3 ≤ sizeLine; decide, fun t ht => qE (.bad st "state") ed _ t (sij.trans (sm3.trans (same_new ht))) upd_same⟩
            | false =>
              rw [hb, if_neg Bool.false_ne_true] at ed
              exact iteF ⟨sm0.trans (sm2.trans sm3), ⟨_, _, rfl⟩, ed⟩
    · rintro σ Hi ⟨sm0, ⟨x, y, rfl⟩, ed⟩
      rw [List.length_map, List.drop_of_length_le (Nat.le_refl _)] at ed
      exact q ed Hi ((same_new hsl).trans sm0)
end
end K29
end

section
set_option Elab.async false
set_option linter.all false
set_option maxRecDepth 100000
set_option maxHeartbeats 4000000
namespace K29
open PySem PySem.Spec PyProof.Rows L2 L2H GX
section
variable {P : Program} {w : World} {K : PySem.W.Frag} {mg : Str → Option Value} {base : Heap}
/-! ### _law_g_own -/
abbrev s_law_g_own : Stmt := top 30
theorem sc_law_g_own : FnScope ["rows", "letters", "state", "out", "letter", "digit"] ["rows", "letters"] (defScope s_law_g_own) := ⟨rfl, rfl, rfl, by decide +kernel, rfl, by decide +kernel, by decide +kernel⟩
def spOwn (K : PySem.W.Frag) (w : World) : Sp := fun vs H Q _ => ∃ a la as rows ws word, vs = [.ref a, .ref la] ∧ RowsIn w H a as rows ∧ RowsOk rows ∧ RowsClosed rows ∧ (rowsGet rows 0).isSome ∧
  SqL K H la ws ∧ KVs H word ws ∧ (∀ d ∈ word, Flat d) ∧ word.length ≤ 1000 ∧ ∀ H' p, Same H H' → ResAt H' p (runOf rows 0 word []) → Q (.ref p) H'
theorem ok_law_g_own {f : Addr} {fd : FuncData} (F : L2.Fun K "_law_g_own" "_law_g_own" s_law_g_own f fd) (B : Blt mg) : FnOk P w K mg base L2.CX0 1 f fd ["rows", "letters"] (spOwn K w) := by
  have nd := sc_law_g_own.nd
  refine F.ok sc_law_g_own (fun vs H Q E h => ?_) (fun cdv A outer s H vs Q E hr h => ?_)
  · obtain ⟨a, la, as, rows, ws, word, rfl, _⟩ := h
    rfl
  · obtain ⟨a, la, as, rows, ws, word, rfl, RI, rok, rcl, r0, hla, hw, hfl, hlen, q⟩ := h
    obtain ⟨⟨ep, hA⟩, pA, _⟩ := RI
    have hl := Paired.length pA
    refine ⟨_, (pss_cons (ps_par (i := 2) (j := 3) rfl nd rfl rfl (by decide) rfl rfl (pa_cons pe_int (pa_cons (pe_lst pa_nil) pa_nil)) (by rfl))
  (pss_cons (ps_for PassesOwn.never rfl (k_pil K (pv 1)) (pgn 4 nd)
  (pss_cons (ps_if (pt_cmpR (w_nin w (hu9 hr)) (pv 4) (pe_ix (w_ixg w (hu9 hr)) (pv 0) (pv 2) (fun _ _ => rfl)) (by rfl))
  (pss_one (ps_ret (pe_tup (pa_cons pe_str (pa_cons (pe_tup (pa_cons pe_str (pa_cons (pv 2) (pa_cons pe_str pa_nil)))) pa_nil)))))
  pss_nil)
  (pss_cons (ps_asg (pe_ix (w_ixg w (hu9 hr)) (pe_ix (w_ixg w (hu9 hr)) (pv 0) (pv 2) (fun _ _ => rfl)) (pv 4) (fun _ _ => rfl)) (k_ptup K (pgs_cons (pgn 5 nd) (pgs_cons (pgn 2 nd) pgs_nil))))
  (pss_one (ps_if (pt_cmpR op_notN (pv 5) pe_non (nomark _))
  (pss_one (ps_expr (k_append K (pv 3) (pa_cons (pv 5) pa_nil))))
  pss_nil)))))
  (pss_one (ps_ret (pe_tup (pa_cons pe_str (pa_cons (pv 3) pa_nil))))))), ?_⟩
    refine ⟨Nat.zero_le _, fun p hp => ⟨_, _, rfl, ?_⟩⟩
    have s0 : Same H (upd H p (.lst [])) := same_new hp
    refine ⟨_, rfl, la, rfl, ⟨ws, s0.seq hla⟩, for_it (walk_list (xs := ws)) (fun i σ Hi => ∃ st outs us x y, σ = [some (.ref a), some (.ref la), some (.int st), some (.ref p), x, y] ∧ runOf rows 0 word [] = runOf rows st (word.drop i) outs ∧ (rowsGet rows st).isSome ∧
      Same H Hi ∧ Hi p = some (.lst us) ∧ KVs Hi outs us ∧ us.length ≤ i) ⟨0, [], [], none, none, rfl, rfl, r0, s0, upd_same, .nil, Nat.le_refl _⟩ (fun i σ Hi _ ⟨_, _, _, _, _, _, _, _, sm, _⟩ => sm.seq hla) ?_ ?_⟩
    · rintro i x σ H1 Hi hi ⟨st, outs, us, x, y, rfl, er, hst, sm, hpi, kvo, hul⟩ ⟨rfl, hx⟩
      obtain ⟨d, hd, kvd⟩ := hw.at hx
      obtain ⟨row, hrow⟩ := Option.isSome_iff_exists.mp hst
      have ed : word.drop i = d :: word.drop (i + 1) := by
        obtain ⟨h1, h2⟩ := List.getElem?_eq_some_iff.mp hd
        rw [List.drop_eq_getElem_cons h1, h2]
      have kvi := kvd.mono (Tups.of_same sm)
      rw [ed] at er
      have er2 : runOf rows st (d :: word.drop (i + 1)) outs = (match rowGet row (nk d) with | none => .inl st | some r => runOf rows r.2.2 (word.drop (i + 1)) (match r.2.1 with | .non => outs | d => outs ++ [d])) := by
        rw [runOf, hrow] <;> rfl
      rw [er2] at er
      rcases rows_get (s := st) pA with ⟨row', ra, k3, k4, k5, ⟨xs, ep4, hra, pe⟩, k6⟩ | ⟨k3, _⟩
      rotate_left
      · rw [hrow] at k3; cases k3
      rw [hrow] at k3
      obtain rfl := Option.some.inj k3
      have rok1 := rok.2.1 _ k6
      have ko := (ents_ok pe rok1).mono (Tups.of_same sm)
      have kd := kvi.at_ (hfl d (List.mem_of_getElem? hd))
      refine ⟨_, rfl, _, rfl, _, rfl, a, _, ep, _, _, rfl, sm _ _ hA, KeyAt.int _ st, rowsG_ok _, k4, ra, xs, ep4, nk d, rfl, sm _ _ hra, kd, ko, _, rfl, ?_⟩
      rcases ents_get (k := nk d) pe with ⟨r, v, g1, g2, g3, g4, g5⟩ | ⟨g1, g2⟩
      · rw [g2]
        rw [g1] at er
        have hdg := (rok1.2.1 r g4).2
        have hcl := rcl _ (rowsGet_mem hrow) r g4
        obtain ⟨rl, rdg, rt⟩ := r
        dsimp only at er hdg hcl g5
        obtain ⟨tp, dv, tv, e4, htp, e6, e5⟩ := (g5.mono (Tups.of_same sm)).two
        obtain rfl := e5.toInt
        refine iteF ⟨_, rfl, _, rfl, a, _, ep, _, _, rfl, sm _ _ hA, KeyAt.int _ st, rowsG_ok _, k4, _, rfl, ra, xs, ep4, nk d, _, rfl, sm _ _ hra, kd, ko, g2, ?_⟩
        refine ⟨tp, _, e4, SqT.of htp, rfl, _, _, rfl, _, _, rfl, rfl, ?_⟩
        refine ⟨_, rfl, rfl, _, rfl, ?_⟩
        rcases hdg with eg | ⟨n, eg⟩
        · subst eg
          cases e6
          refine iteF ?_
          exact ⟨rt, outs, us, _, _, rfl, er, hcl, sm, hpi, kvo, by omega⟩
        · subst eg
          cases e6
          refine iteT ?_
          refine ⟨_, rfl, .inl ⟨rfl, _, SqL.of hpi⟩, _, rfl, p, _, _, rfl, rfl, hpi, ?_, ?_⟩
          · have hl := KVs.len hw
            exact Nat.lt_of_le_of_lt (by omega : us.length ≤ 1000) (by decide)
          have tt : Tups Hi (upd Hi p (.lst (us ++ [.int n]))) := fun b xs e => by
            rw [upd_ne (fun z => by rw [z, hpi] at e; cases e)]
            exact e
          exact ⟨rt, outs ++ [.int n], us ++ [.int n], _, _, rfl, er, hcl, same_wr sm hp, upd_same, (kvo.mono tt).snoc (.int n), by rw [List.length_append]; simpa using hul⟩
      · rw [g2]
        rw [g1] at er
        refine iteT ⟨_, rfl, by show 3 ≤ sizeLine; decide, fun t ht => ⟨by show 2 ≤ sizeLine; decide, fun t2 ht2 => ?_⟩⟩
        refine q _ t2 (sm.trans ((same_new ht).trans (same_new ht2))) ?_
        rw [er]
        exact ⟨t, upd_same, by rw [upd_ne (ne_of_none upd_same ht2), upd_same]⟩
    · rintro σ Hi ⟨st, outs, us, x, y, rfl, er, hst, sm, hpi, kvo, hul⟩
      have hl := KVs.len hw
      rw [List.drop_of_length_le (by omega)] at er
      refine ⟨_, rfl, by show 2 ≤ sizeLine; decide, fun t ht => ?_⟩
      refine q _ t (sm.trans (same_new ht)) ?_
      rw [er]
      exact ⟨p, us, upd_same, same_new ht _ _ hpi, kvo.mono (Tups.of_same (same_new ht))⟩
/-! ### _law_g_sign, _law_g_letter -/
abbrev s_law_g_sign : Stmt := top 21
theorem sc_law_g_sign : FnScope ["s", "style"] ["s"] (defScope s_law_g_sign) := ⟨rfl, rfl, rfl, by decide +kernel, rfl, by decide +kernel, by decide +kernel⟩
def spSign : Sp := fun vs H Q _ => ∃ sa, vs = [.ref sa] ∧ SAt H sa ∧ ∀ H' v d, Kp sa H H' → KV H' d v → goodSign d = true → Q v H'
theorem ok_law_g_sign {f : Addr} {fd : FuncData} (F : L2.Fun K "_law_g_sign" "_law_g_sign" s_law_g_sign f fd) (B : Blt mg) (C_law_pick : Has P w K mg base L2.CX0 1 "_law_pick" ["s", "many"] spPick) (C_law_number : Has P w K mg base L2.CX0 2 "_law_number" ["s", "limit"] spNumber) : FnOk P w K mg base L2.CX0 3 f fd ["s"] spSign := by
  have nd := sc_law_g_sign.nd
  refine F.ok sc_law_g_sign (fun vs H Q E h => ?_) (fun cdv A outer s H vs Q E hr h => ?_)
  · obtain ⟨sa, rfl, _⟩ := h
    rfl
  · obtain ⟨sa, rfl, hs, q⟩ := h
    refine ⟨_, (pss_cons (psn 1 nd (pe_hc C_law_pick (hr.mono (by decide)) (by rfl) (pa_cons (pv 0) (pa_cons pe_int pa_nil))))
  (pss_cons (ps_if (pt_cmpR op_lt (pv 1) pe_int (nomark _))
  (pss_one (ps_ret (pe_op op_sub (pe_hc C_law_pick (hr.mono (by decide)) (by rfl) (pa_cons (pv 0) (pa_cons pe_int pa_nil))) pe_int)))
  pss_nil)
  (pss_one (ps_ret (pe_ifExp (pt_cmpR op_eq (pv 1) pe_int (nomark _)) pe_non (pe_ifExp (pt_cmpR op_eq (pv 1) pe_int (nomark _)) pe_str (pe_op op_sub (pe_hc C_law_number (hr.mono (by decide)) (by rfl) (pa_cons (pv 0) (pa_cons (pe_op op_pow pe_int pe_int) pa_nil))) (pe_op op_mul pe_int (pe_op op_pow pe_int pe_int))))))))), ?_⟩
    refine ⟨_, rfl, sa, 8, rfl, hs, by decide, fun H1 r k1 d1 => ?_⟩
    refine ⟨_, rfl, _, _, rfl, rfl, _, rfl, ?_⟩
    refine ite2 (fun h1 => ?_) (fun h1 => ?_)
    · refine ⟨_, rfl, sa, 5, rfl, k1.s, by decide, fun H2 r2 k2 d2 => ⟨_, _, rfl, rfl, ?_⟩⟩
      exact q H2 _ (.int _) (k1.trans k2) (.int _) rfl
    refine ⟨_, rfl, rfl, _, rfl, ?_⟩
    refine ite2 (fun h2 => ?_) (fun h2 => ?_)
    · exact q H1 _ .non k1 .non rfl
    refine ⟨_, rfl, rfl, _, rfl, ?_⟩
    refine ite2 (fun h3 => ?_) (fun h3 => ?_)
    · exact q H1 _ (.str "lost") k1 (.str _) (by decide +kernel)
    refine ⟨_, rfl, _, _, rfl, rfl, ⟨by decide, by decide, by decide⟩, sa, _, rfl, k1.s, by decide +kernel, fun H2 r2 k2 => ?_⟩
    refine ⟨_, _, rfl, rfl, ⟨by decide, by decide, by decide⟩, _, _, rfl, rfl, .inl ⟨by decide, by decide⟩, _, _, rfl, rfl, ?_⟩
    exact q H2 _ (.int _) (k1.trans k2) (.int _) rfl
abbrev s_law_g_letter : Stmt := top 22
theorem sc_law_g_letter : FnScope ["s", "width", "k"] ["s", "width"] (defScope s_law_g_letter) := ⟨rfl, rfl, rfl, by decide +kernel, rfl, by decide +kernel, by decide +kernel⟩
def spLetter : Sp := fun vs H Q _ => ∃ sa width, vs = [.ref sa, .int width] ∧ SAt H sa ∧ 1 ≤ width ∧ width ≤ 3 ∧ ∀ H' v d, Kp sa H H' → KV H' d v → goodLetter d = true → Flat d → Q v H'
theorem depth_signs : ∀ {ds : List KD}, (∀ d ∈ ds, goodSign d = true) → NestedKey.depthAll (nks ds) = 0
  | [], _ => by simp [nks, NestedKey.depthAll]
  | d :: ds, h => by
    rw [nks, NestedKey.depthAll, depth_signs fun d hd => h d (List.mem_cons_of_mem _ hd)]
    have := h d List.mem_cons_self
    cases d with
    | non => simp [nk, NestedKey.depth]
    | int i => simp [nk, NestedKey.depth]
    | str x => simp [nk, NestedKey.depth]
    | bl b => cases this
    | tup ds => cases this
theorem good_flat {ds : List KD} (h : ∀ d ∈ ds, goodSign d = true) (h1 : ds ≠ []) (h2 : ds.length ≤ 1000) : Flat (.tup ds) := by
  refine ⟨?_, fun es e => by cases e; exact ⟨h2, h1⟩⟩
  rw [nk, NestedKey.depth, depth_signs h]
  decide
theorem ok_law_g_letter {f : Addr} {fd : FuncData} (F : L2.Fun K "_law_g_letter" "_law_g_letter" s_law_g_letter f fd) (B : Blt mg) (C_law_g_sign : Has P w K mg base L2.CX0 3 "_law_g_sign" ["s"] spSign) : FnOk P w K mg base L2.CX0 4 f fd ["s", "width"] spLetter := by
  have nd := sc_law_g_letter.nd
  refine F.ok sc_law_g_letter (fun vs H Q E h => ?_) (fun cdv A outer s H vs Q E hr h => ?_)
  · obtain ⟨sa, width, rfl, _⟩ := h
    rfl
  · obtain ⟨sa, width, rfl, hs, w1, w2, q⟩ := h
    refine ⟨_, (pss_one (ps_ret (pe_callTy (k_tup K) (by rfl) B.tuple_ (by decide +kernel) (pa_cons (pe_lc (own := [("k", 2)]) rfl nd (pi_range1 (by rfl) B.range_ (pa_cons (pv 1) pa_nil)) (blkOk_by (by kernel_rfl)) (fun _ _ _ _ _ => (pgn 2 nd)) (fun _ _ _ _ _ => pts_nil) (fun _ _ _ _ _ => (pe_hc C_law_g_sign (hr.mono (by decide)) (by rfl) (pa_cons (pv 0) pa_nil)))) pa_nil)))), ?_⟩
    refine ⟨_, rfl, _, rfl, by omega, by omega, fun D hD => ?_⟩
    have nD := hs.fresh hD
    refine lc_it (walk_range (lo := 0) (n := width.toNat)) (fun i Hi => Kp sa H Hi ∧ ∃ us ds, Hi D = some (.lst us) ∧ KVs Hi ds us ∧ (∀ d ∈ ds, goodSign d = true) ∧ ds.length = i) ⟨Kp.new hs hD, [], [], upd_same, .nil, fun d h => absurd h (by simp), rfl⟩ (fun _ _ _ _ => True.intro) ?_ ?_
    · rintro i y H1 Hi hi ⟨kp, us, ds, hDi, kv, hg, hl⟩ ⟨rfl, rfl⟩
      refine ⟨rfl, ⟨_, rfl, sa, rfl, kp.s, fun H' v d k kd gd => ?_⟩⟩
      have hD' := k.k _ _ nD hDi
      have tt : Tups H' (upd H' D (.lst (us ++ [v]))) := fun b xs e => by
        rw [upd_ne (fun z => by rw [z, hD'] at e; cases e)]
        exact e
      have hul := KVs.len kv
      refine ⟨us, hD', Nat.lt_of_le_of_lt (by omega : us.length ≤ 1000) (by decide), (kp.trans k).wr hD nD, us ++ [v], ds ++ [d], upd_same, (((kv.mono (k.tups kp.s)).snoc kd).mono tt), fun z hz => ?_, by rw [List.length_append, hl]; rfl⟩
      rcases List.mem_append.mp hz with hz | hz
      · exact hg z hz
      · obtain rfl : z = d := by simpa using hz
        exact gd
    · rintro Hi ⟨kp, us, ds, hDi, kv, hg, hl⟩
      refine ⟨D, us, rfl, .inl ⟨SqL.of hDi, fun t ht => ?_⟩⟩
      have s1 : Same Hi (upd Hi t (.tup us)) := same_new ht
      refine q _ _ (.tup ds) (kp.same s1) (.tup upd_same (kv.mono (Tups.of_same s1))) (List.all_eq_true.mpr hg) (good_flat hg ?_ (by omega))
      intro e
      rw [e] at hl
      simp at hl
      omega
end
end K29
end

section
set_option Elab.async false
set_option linter.all false
set_option maxRecDepth 100000
set_option maxHeartbeats 4000000
/-! stores into tables. -/
namespace GX
open PySem PySem.Spec PyProof.Rows L2
/-- row[l] = (dg, t) -/
def setE (row : Row) (l dg : KD) (t : Int) : Row := if row.any (fun r => decide (nk r.1 = nk l)) then row.map (fun r => if nk r.1 = nk l then (r.1, dg, t) else r) else row ++ [(l, dg, t)]
theorem ents_any {H : Hp} {k : NK} : ∀ {xs : List GRow} {row : Row}, Paired (EntAt H) xs row → (xs.any fun x => decide (x.1 = k)) = row.any fun r => decide (nk r.1 = k)
  | _, _, .nil => rfl
  | _, _, .cons h t => by rw [List.any_cons, List.any_cons, h.1, ents_any t]
theorem ents_map {H : Hp} {l dg : KD} {t : Int} {v : V} (hv : KV H (.tup [dg, .int t]) v) : ∀ {xs : List GRow} {row : Row}, Paired (EntAt H) xs row →
    Paired (EntAt H) (xs.map fun x => if x.1 = nk l then (x.1, x.2.1, v) else x) (row.map fun r => if nk r.1 = nk l then (r.1, dg, t) else r)
  | _, _, .nil => .nil
  | _, _, .cons (a := x) (b := r) h q => by
    rw [List.map_cons, List.map_cons]
    refine .cons ?_ (ents_map hv q)
    by_cases e : nk r.1 = nk l
    · rw [if_pos e, if_pos (h.1.trans e)]
      exact ⟨h.1, h.2.1, hv⟩
    · rw [if_neg e, if_neg (by rw [h.1]; exact e)]
      exact h
theorem ents_put {H : Hp} {l dg : KD} {t : Int} {kv v : V} {xs : List GRow} {row : Row} (p : Paired (EntAt H) xs row) (hk : KV H l kv) (hv : KV H (.tup [dg, .int t]) v) : Paired (EntAt H) (putG xs (nk l) kv v) (setE row l dg t) := by
  unfold putG setE
  rw [ents_any p]
  split
  · exact ents_map hv p
  · exact Paired.snoc p ⟨rfl, hk, hv⟩
theorem setE_keys (row : Row) (l dg : KD) (t : Int) : (setE row l dg t).map (fun r => nk r.1) = if row.any (fun r => decide (nk r.1 = nk l)) then row.map (fun r => nk r.1) else row.map (fun r => nk r.1) ++ [nk l] := by
  unfold setE
  split
  · rw [List.map_map]
    apply List.map_congr_left
    intro x _
    show nk (if nk x.1 = nk l then (x.1, dg, t) else x).1 = nk x.1
    split <;> rfl
  · rw [List.map_append]
    rfl
theorem setE_len (row : Row) (l dg : KD) (t : Int) : (setE row l dg t).length ≤ row.length + 1 := by
  have := congrArg List.length (setE_keys row l dg t)
  rw [List.length_map] at this
  rw [this]
  split <;> simp
theorem setE_ok {row : Row} {l dg : KD} {t : Int} (h : RowOk row) (f : Flat l) (d : dg = .non ∨ ∃ i, dg = .int i) (hl : row.length < 1000) : RowOk (setE row l dg t) := by
  refine ⟨?_, fun r hr => ?_, ?_⟩
  · rw [setE_keys]
    split
    · exact h.1
    · rename_i hn
      rw [List.nodup_append]
      refine ⟨h.1, by simp, fun a ha b hb e => hn ?_⟩
      obtain rfl : b = nk l := by simpa using hb
      obtain ⟨r, hr, e2⟩ := List.mem_map.mp ha
      exact List.any_eq_true.mpr ⟨r, hr, by simp [e2, e]⟩
  · unfold setE at hr
    split at hr
    · obtain ⟨x, hx, rfl⟩ := List.mem_map.mp hr
      have := h.2.1 x hx
      split
      · exact ⟨this.1, d⟩
      · exact this
    · rcases List.mem_append.mp hr with hr | hr
      · exact h.2.1 r hr
      · obtain rfl : r = (l, dg, t) := by simpa using hr
        exact ⟨f, d⟩
  · have := setE_len row l dg t
    omega
/-- rows[st] = row -/
def setR (rows : Rows) (st : Int) (row : Row) : Rows := if rows.any (fun r => decide (r.1 = st)) then rows.map (fun r => if r.1 = st then (r.1, row) else r) else rows ++ [(st, row)]
theorem setR_keys (rows : Rows) (st : Int) (row : Row) : (setR rows st row).map (·.1) = if rows.any (fun r => decide (r.1 = st)) then rows.map (·.1) else rows.map (·.1) ++ [st] := by
  unfold setR
  split
  · rw [List.map_map]
    apply List.map_congr_left
    intro x _
    show (if x.1 = st then (x.1, row) else x).1 = x.1
    split <;> rfl
  · rw [List.map_append]
    rfl
theorem setR_len (rows : Rows) (st : Int) (row : Row) : (setR rows st row).length ≤ rows.length + 1 := by
  have := congrArg List.length (setR_keys rows st row)
  rw [List.length_map] at this
  rw [this]
  split <;> simp
theorem setR_mem {rows : Rows} {st : Int} {row : Row} {r : Int × Row} (h : r ∈ setR rows st row) : r ∈ rows ∨ r = (st, row) := by
  unfold setR at h
  split at h
  · obtain ⟨x, hx, rfl⟩ := List.mem_map.mp h
    split
    · rename_i e
      right
      rw [e]
    · exact .inl hx
  · rcases List.mem_append.mp h with h | h
    · exact .inl h
    · exact .inr (by simpa using h)
theorem setR_ok {rows : Rows} {st : Int} {row : Row} (h : RowsOk rows) (r : RowOk row) (hl : rows.length < 1000) : RowsOk (setR rows st row) := by
  refine ⟨?_, fun x hx => ?_, ?_⟩
  · rw [setR_keys]
    split
    · exact h.1
    · rename_i hn
      rw [List.nodup_append]
      refine ⟨h.1, by simp, fun a ha b hb e => hn ?_⟩
      obtain rfl : b = st := by simpa using hb
      obtain ⟨r, hr, e2⟩ := List.mem_map.mp ha
      exact List.any_eq_true.mpr ⟨r, hr, by simp [e2, e]⟩
  · rcases setR_mem hx with hx | rfl
    · exact h.2.1 x hx
    · exact r
  · have := setR_len rows st row
    omega
def setA : Rows → List Addr → Int → Addr → List Addr
  | r :: rs, a :: as, st, p => (if r.1 = st then p else a) :: setA rs as st p
  | _, _, _, _ => []
theorem rowsG_any {st : Int} : ∀ {rows : Rows} {as : List Addr}, as.length = rows.length → ((rowsG rows as).any fun x => decide (x.1 = .num st)) = rows.any fun r => decide (r.1 = st)
  | [], [], _ => rfl
  | r :: rs, a :: as, h => by
    rw [rowsG, List.any_cons, List.any_cons, rowsG_any (rows := rs) (as := as) (by simpa using h)]
    by_cases e : r.1 = st
    · rw [decide_eq_true e, decide_eq_true (by show NestedKey.num r.1 = .num st; rw [e])]
    · rw [decide_eq_false e, decide_eq_false (by intro q; injection q with q; exact e q)]
theorem rowsG_map {st : Int} {row : Row} {p : Addr} : ∀ {rows : Rows} {as : List Addr}, as.length = rows.length → (rowsG rows as).map (fun x => if x.1 = .num st then (x.1, x.2.1, V.ref p) else x) = rowsG (rows.map fun r => if r.1 = st then (r.1, row) else r) (setA rows as st p)
  | [], [], _ => rfl
  | r :: rs, a :: as, h => by
    rw [rowsG, List.map_cons, List.map_cons, setA, rowsG, rowsG_map (row := row) (rows := rs) (as := as) (by simpa using h)]
    by_cases e : r.1 = st
    · rw [if_pos e, if_pos e, if_pos (by show NestedKey.num r.1 = .num st; rw [e])]
    · rw [if_neg e, if_neg e, if_neg (by intro q; injection q with q; exact e q)]
theorem setA_pair {F : Addr → Int × Row → Prop} {st : Int} {row : Row} {p : Addr} : ∀ {rows : Rows} {as : List Addr}, Paired F as rows → (∀ r : Int, F p (r, row)) → Paired F (setA rows as st p) (rows.map fun r => if r.1 = st then (r.1, row) else r)
  | _, _, .nil, _ => .nil
  | _, _, .cons (a := a) (b := r) h t, g => by
    rw [setA, List.map_cons]
    refine .cons ?_ (setA_pair t g)
    split
    · exact g r.1
    · exact h
theorem setA_mem {st : Int} {p b : Addr} : ∀ {rows : Rows} {as : List Addr}, b ∈ setA rows as st p → b ∈ as ∨ b = p
  | [], _, h => by simp [setA] at h
  | _ :: _, [], h => by simp [setA] at h
  | r :: rs, a :: as, h => by
    rw [setA] at h
    rcases List.mem_cons.mp h with h | h
    · split at h
      · exact .inr h
      · exact .inl (h ▸ List.mem_cons_self)
    · rcases setA_mem h with h | h
      · exact .inl (List.mem_cons_of_mem _ h)
      · exact .inr h
theorem setA_none {st : Int} {p : Addr} : ∀ {rows : Rows} {as : List Addr}, as.length = rows.length → st ∉ rows.map (·.1) → setA rows as st p = as
  | [], [], _, _ => rfl
  | r :: rs, a :: as, h, n => by
    rw [List.map_cons, List.mem_cons, not_or] at n
    rw [setA, if_neg (fun e => n.1 e.symm), setA_none (by simpa using h) n.2]
theorem setA_nodup {st : Int} {p : Addr} : ∀ {rows : Rows} {as : List Addr}, as.length = rows.length → (rows.map (·.1)).Nodup → as.Nodup → p ∉ as → (setA rows as st p).Nodup
  | [], [], _, _, _, _ => List.nodup_nil
  | r :: rs, a :: as, h, n, na, np => by
    rw [List.map_cons, List.nodup_cons] at n
    rw [List.nodup_cons] at na
    rw [List.mem_cons, not_or] at np
    have hl : as.length = rs.length := by simpa using h
    rw [setA, List.nodup_cons]
    by_cases e : r.1 = st
    · rw [if_pos e, setA_none hl (e ▸ n.1)]
      exact ⟨np.2, na.2⟩
    · rw [if_neg e]
      refine ⟨fun hm => ?_, setA_nodup hl n.2 na.2 np.2⟩
      rcases setA_mem hm with hm | hm
      · exact na.1 hm
      · exact np.1 hm.symm
/-- a new row is stored -/
theorem RowsIn.store {w : World} {H H' : Hp} {a p : Addr} {as : List Addr} {rows : Rows} {st : Int} {row : Row} {ep : Nat} (h : RowsIn w H a as rows) (ok : RowsOk rows) (np : p ∉ a :: as) (hp : RowAt w H' p row) (t : Tups H H')
    (k : ∀ b o, b ∈ as → H b = some o → H' b = some o) (e : H' a = some (GO w a (putG (rowsG rows as) (.num st) (.int st) (.ref p)) ep)) : ∃ as', RowsIn w H' a as' (setR rows st row) ∧ ∀ b ∈ as', b ∈ as ∨ b = p := by
  obtain ⟨_, pA, nA⟩ := h
  have hl := Paired.length pA
  have pA' : Paired (fun ra (r : Int × Row) => RowAt w H' ra r.2) as rows := Paired.impM pA fun b hb r _ q => q.keep t fun o g => k b o hb g
  rw [List.mem_cons, not_or] at np
  rw [List.nodup_cons] at nA
  unfold putG at e
  rw [rowsG_any hl] at e
  unfold setR
  by_cases hany : rows.any fun r => decide (r.1 = st)
  · rw [if_pos hany] at e
    rw [if_pos hany]
    refine ⟨setA rows as st p, ⟨⟨ep, ?_⟩, setA_pair pA' fun _ => hp, ?_⟩, fun b hb => setA_mem hb⟩
    · rw [e, rowsG_map hl]
    · rw [List.nodup_cons]
      refine ⟨fun hm => ?_, setA_nodup hl ok.1 nA.2 np.2⟩
      rcases setA_mem hm with hm | hm
      · exact nA.1 hm
      · exact np.1 hm.symm
  · rw [if_neg hany] at e
    rw [if_neg hany]
    refine ⟨as ++ [p], ⟨⟨ep, by rw [e, rowsG_snoc hl]⟩, Paired.snoc pA' hp, ?_⟩, fun b hb => ?_⟩
    · rw [← List.cons_append, List.nodup_append]
      refine ⟨List.nodup_cons.mpr nA, by simp, fun x hx y hy z => ?_⟩
      obtain rfl : y = p := by simpa using hy
      subst z
      rcases List.mem_cons.mp hx with hx | hx
      · exact np.1 hx
      · exact np.2 hx
    · rcases List.mem_append.mp hb with hb | hb
      · exact .inl hb
      · exact .inr (by simpa using hb)
theorem rowsG_same {st : Int} {row : Row} : ∀ {rows : Rows} {as : List Addr}, rowsG (rows.map fun r => if r.1 = st then (r.1, row) else r) as = rowsG rows as
  | [], _ => rfl
  | _ :: _, [] => rfl
  | r :: rs, a :: as => by
    rw [List.map_cons, rowsG, rowsG, rowsG_same (rows := rs) (as := as)]
    split <;> rfl
/-- a row is written where it stands -/
theorem RowsIn.change {w : World} {H H' : Hp} {a ra : Addr} {as : List Addr} {rows : Rows} {st : Int} {row row' : Row} {i : Nat} (h : RowsIn w H a as rows) (ok : RowsOk rows) (hi : rows[i]? = some (st, row)) (ha : as[i]? = some ra) (hp : RowAt w H' ra row') (t : Tups H H')
    (k : ∀ b o, b ∈ a :: as → b ≠ ra → H b = some o → H' b = some o) : RowsIn w H' a as (setR rows st row') := by
  obtain ⟨⟨ep, hA⟩, pA, nA⟩ := h
  have hl := Paired.length pA
  have hany : rows.any (fun r => decide (r.1 = st)) = true := List.any_eq_true.mpr ⟨_, List.mem_of_getElem? hi, by simp⟩
  have nar : a ≠ ra := fun z => (List.nodup_cons.mp nA).1 (z ▸ List.mem_of_getElem? ha)
  refine ⟨⟨ep, ?_⟩, ?_, nA⟩
  · rw [k a _ List.mem_cons_self nar hA]
    unfold setR
    rw [if_pos hany]
    rw [rowsG_same]
  · unfold setR
    rw [if_pos hany]
    have key : ∀ {rs : Rows} {bs : List Addr} {i : Nat}, Paired (fun ra (r : Int × Row) => RowAt w H ra r.2) bs rs → (rs.map (·.1)).Nodup → bs.Nodup → rs[i]? = some (st, row) → bs[i]? = some ra → (∀ b ∈ bs, b ∈ a :: as) → Paired (fun ra (r : Int × Row) => RowAt w H' ra r.2) bs (rs.map fun r => if r.1 = st then (r.1, row') else r) := by
      intro rs bs i p
      induction p generalizing i with
      | nil => intro _ _ h; simp at h
      | @cons b r bs rs h q ih =>
        intro n nb h1 h2 hm
        rw [List.map_cons, List.nodup_cons] at n
        rw [List.nodup_cons] at nb
        rw [List.map_cons]
        cases i with
        | zero =>
          obtain rfl : r = (st, row) := by simpa using h1
          obtain rfl : b = ra := by simpa using h2
          rw [if_pos rfl]
          refine .cons hp ?_
          have e : (rs.map fun r : Int × Row => if r.1 = st then (r.1, row') else r) = rs := by
            refine (List.map_congr_left fun x hx => ?_).trans (List.map_id rs)
            rw [if_neg]
            · rfl
            · intro e
              exact n.1 (List.mem_map.mpr ⟨x, hx, e⟩)
          rw [e]
          exact Paired.impM q fun b hb r _ g => g.keep t fun o gg => k b o (hm b (List.mem_cons_of_mem _ hb)) (fun z => nb.1 (z ▸ hb)) gg
        | succ i =>
          have h1' : rs[i]? = some (st, row) := by simpa using h1
          have h2' : bs[i]? = some ra := by simpa using h2
          have ne : ¬ r.1 = st := fun e => n.1 (List.mem_map.mpr ⟨_, List.mem_of_getElem? h1', e.symm⟩)
          rw [if_neg ne]
          refine .cons (h.keep t fun o gg => k b o (hm b List.mem_cons_self) (fun z => nb.1 (z ▸ List.mem_of_getElem? h2')) gg) (ih n.2 nb.2 h1' h2' fun b hb => hm b (List.mem_cons_of_mem _ hb))
    exact key pA ok.1 (List.nodup_cons.mp nA).2 hi ha fun b hb => List.mem_cons_of_mem _ hb

theorem rowsG_inv : ∀ {rows : Rows} {as : List Addr} {i : Nat} {x : GRow}, (rowsG rows as)[i]? = some x → ∃ r a, rows[i]? = some r ∧ as[i]? = some a ∧ x = (.num r.1, .int r.1, .ref a)
  | [], _, _, _, h => by simp [rowsG] at h
  | _ :: _, [], _, _, h => by simp [rowsG] at h
  | r :: rs, a :: as, 0, x, h => ⟨r, a, rfl, rfl, by simpa [rowsG] using h.symm⟩
  | r :: rs, a :: as, i + 1, x, h => by
    obtain ⟨r', a', h1, h2, h3⟩ := rowsG_inv (rows := rs) (as := as) (i := i) (x := x) (by simpa [rowsG] using h)
    exact ⟨r', a', by simpa using h1, by simpa using h2, h3⟩
theorem rowsGet_any {rows : Rows} {st : Int} : (rowsGet rows st).isSome = rows.any fun r => decide (r.1 = st) := by
  induction rows with
  | nil => rfl
  | cons r rs ih =>
    unfold rowsGet at ih ⊢
    rw [List.find?_cons, List.any_cons]
    by_cases e : r.1 = st
    · rw [decide_eq_true e]; rfl
    · rw [decide_eq_false e, Bool.false_or]
      exact ih
theorem rowsGet_cons {r : Int × Row} {rs : Rows} {s : Int} : rowsGet (r :: rs) s = if r.1 = s then some r.2 else rowsGet rs s := by
  unfold rowsGet
  rw [List.find?_cons]
  by_cases e : r.1 = s
  · rw [decide_eq_true e, if_pos e]; rfl
  · rw [decide_eq_false e, if_neg e]
theorem setR_get {rows : Rows} {st : Int} {row : Row} : rowsGet (setR rows st row) st = some row := by
  unfold setR
  split
  · rename_i h
    induction rows with
    | nil => simp at h
    | cons r rs ih =>
      rw [List.map_cons, rowsGet_cons]
      by_cases e : r.1 = st
      · rw [if_pos e, if_pos (show (r.1, row).1 = st from e)]
      · rw [if_neg e, if_neg e]
        rw [List.any_cons, decide_eq_false e, Bool.false_or] at h
        exact ih h
  · rename_i h
    induction rows with
    | nil => rw [List.nil_append, rowsGet_cons, if_pos rfl]
    | cons r rs ih =>
      rw [List.any_cons, Bool.or_eq_true, not_or] at h
      rw [List.cons_append, rowsGet_cons, if_neg (by simpa using h.1)]
      exact ih h.2
theorem setR_len' {rows : Rows} {st : Int} {row : Row} (h : (rowsGet rows st).isSome = true) : (setR rows st row).length = rows.length := by
  rw [rowsGet_any] at h
  unfold setR
  rw [if_pos h, List.length_map]
/-- a row is written where it stands, the dict told by the look-up -/
theorem RowsIn.change' {w : World} {H H' : Hp} {a ra : Addr} {as : List Addr} {rows : Rows} {st : Int} {row' : Row} (h : RowsIn w H a as rows) (ok : RowsOk rows) (g : getG (rowsG rows as) (.num st) = some (.ref ra)) (hp : RowAt w H' ra row') (t : Tups H H')
    (k : ∀ b o, b ≠ ra → H b = some o → H' b = some o) : RowsIn w H' a as (setR rows st row') := by
  obtain ⟨i, x, h1, h2, h3⟩ := getG_some g
  obtain ⟨r, b, e1, e2, rfl⟩ := rowsG_inv h1
  injection h2 with h2
  injection h3 with h3
  subst h2 h3
  exact h.change ok (row := r.2) e1 e2 hp t fun b o _ n => k b o n

def RowsB (n : Nat) (rows : Rows) : Prop := rows.length ≤ n ∧ ∀ r ∈ rows, r.2.length ≤ n
theorem rows_filter {F : Addr → Int × Row → Prop} (k : NK) : ∀ {rows : Rows} {as : List Addr}, Paired F as rows → ∃ as' rows', (rowsG rows as).filter (fun x => !decide (x.1 = k)) = rowsG rows' as' ∧ Paired F as' rows' ∧ as'.Sublist as ∧ rows'.Sublist rows
  | _, _, .nil => ⟨[], [], rfl, .nil, .slnil, .slnil⟩
  | _, _, .cons (a := a) (b := r) h t => by
    obtain ⟨as', rows', e, p, s1, s2⟩ := rows_filter k t
    rw [rowsG, List.filter_cons]
    split
    · exact ⟨a :: as', r :: rows', by rw [rowsG, e], .cons h p, s1.cons₂ _, s2.cons₂ _⟩
    · exact ⟨as', rows', e, p, s1.cons _, s2.cons _⟩
def mergeE (acc more : Row) : Row := more.foldl (fun l r => setE l r.1 r.2.1 r.2.2) acc
theorem ents_merge {H : Hp} : ∀ {more : List GRow} {rm : Row} {acc : List GRow} {ra : Row}, Paired (EntAt H) more rm → Paired (EntAt H) acc ra → Paired (EntAt H) (mergeG acc more) (mergeE ra rm)
  | _, _, _, _, .nil, h => h
  | _, _, acc, ra, .cons (a := x) (b := r) g t, h => by
    show Paired (EntAt H) (mergeG (putG acc x.1 x.2.1 x.2.2) _) (mergeE (setE ra r.1 r.2.1 r.2.2) _)
    rw [g.1]
    exact ents_merge t (ents_put h g.2.1 g.2.2)
theorem mergeE_ok : ∀ {more acc : Row}, RowOk acc → (∀ r ∈ more, Flat r.1 ∧ (r.2.1 = .non ∨ ∃ i, r.2.1 = .int i)) → acc.length + more.length ≤ 1000 → RowOk (mergeE acc more) ∧ (mergeE acc more).length ≤ acc.length + more.length
  | [], acc, h, _, _ => ⟨h, Nat.le_refl _⟩
  | r :: more, acc, h, f, hl => by
    rw [List.length_cons] at hl
    have h1 := setE_len acc r.1 r.2.1 r.2.2
    have f1 := f r List.mem_cons_self
    obtain ⟨h2, h3⟩ := mergeE_ok (more := more) (setE_ok (t := r.2.2) h f1.1 f1.2 (by omega)) (fun x hx => f x (List.mem_cons_of_mem _ hx)) (by omega)
    refine ⟨h2, ?_⟩
    show (mergeE (setE acc r.1 r.2.1 r.2.2) more).length ≤ _
    rw [List.length_cons]
    omega

/-- a tuple of one or two flat things -/
theorem flat_tup {ds : List KD} (h : NestedKey.depthAll (nks ds) ≤ 3) (h1 : ds ≠ []) (h2 : ds.length ≤ 1000) : Flat (.tup ds) := ⟨by rw [nk, NestedKey.depth]; omega, fun es e => by cases e; exact ⟨h2, h1⟩⟩
theorem flat_int (i : Int) : Flat (.int i) := ⟨by simp [nk, NestedKey.depth], fun ds e => nomatch e⟩
theorem flat_str (x : Str) : Flat (.str x) := ⟨by simp [nk, NestedKey.depth], fun ds e => nomatch e⟩
theorem rowOk_nil : RowOk [] := ⟨List.nodup_nil, fun r h => absurd h (by simp), by decide⟩
end GX
end

section
set_option Elab.async false
set_option linter.all false
set_option maxRecDepth 100000
set_option maxHeartbeats 4000000
namespace K29
open PySem PySem.Spec PyProof.Rows L2 L2H GX
section
variable {P : Program} {w : World} {K : PySem.W.Frag} {mg : Str → Option Value} {base : Heap}
/-- a list of letters -/
def PoolAt (H : Hp) (pl : Addr) (pool : List KD) : Prop := (∃ us, H pl = some (.lst us) ∧ KVs H pool us) ∧ (∀ d ∈ pool, goodLetter d = true ∧ Flat d) ∧ pool.length ≤ 4
abbrev s_law_g_drawn : Stmt := top 23
theorem sc_law_g_drawn : FnScope ["s", "base", "step", "width", "states", "pool", "i", "k", "letter", "rows", "state"] ["s"] (defScope s_law_g_drawn) := ⟨rfl, rfl, rfl, by decide +kernel, rfl, by decide +kernel, by decide +kernel⟩
def RowsSmall (rows : Rows) : Prop := rows.length ≤ 8 ∧ ∀ r ∈ rows, r.2.length ≤ 8
def spDrawn (w : World) : Sp := fun vs H Q _ => ∃ sa, vs = [.ref sa] ∧ SAt H sa ∧ ∀ H' t rp pl rows pool, Kp sa H H' → H' t = some (.tup [.ref rp, .ref pl]) → RowsAt w H H' rp rows → RowsOk rows → RowsSmall rows → PoolAt H' pl pool → pool ≠ [] → H pl = none → pl ≠ rp → Q (.ref t) H'
theorem ok_law_g_drawn {f : Addr} {fd : FuncData} (F : L2.Fun K "_law_g_drawn" "_law_g_drawn" s_law_g_drawn f fd) (B : Blt mg) (C_law_pick : Has P w K mg base L2.CX0 1 "_law_pick" ["s", "many"] spPick) (C_law_one : Has P w K mg base L2.CX0 2 "_law_one" ["s", "things"] (spOne K)) (C_law_number : Has P w K mg base L2.CX0 2 "_law_number" ["s", "limit"] spNumber)
    (C_law_g_letter : Has P w K mg base L2.CX0 4 "_law_g_letter" ["s", "width"] spLetter) (C_law_shuffled : Has P w K mg base L2.CX0 2 "_law_shuffled" ["s", "things"] (spShuffled K)) : FnOk P w K mg base L2.CX0 5 f fd ["s"] (spDrawn w) := by
  have nd := sc_law_g_drawn.nd
  refine F.ok sc_law_g_drawn (fun vs H Q E h => ?_) (fun cdv A outer s H vs Q E hr h => ?_)
  · obtain ⟨sa, rfl, _⟩ := h
    rfl
  · obtain ⟨sa, rfl, hs, q⟩ := h
    refine ⟨_, (pss_cons (ps_par3 (i := 1) (j := 2) (l := 3) rfl nd rfl rfl rfl (by decide) (by decide) (by decide) rfl rfl rfl (pa_cons (pe_op op_add pe_int (pe_hc C_law_pick (hr.mono (by decide)) (by rfl) (pa_cons (pv 0) (pa_cons pe_int pa_nil)))) (pa_cons (pe_op op_add pe_int (pe_hc C_law_pick (hr.mono (by decide)) (by rfl) (pa_cons (pv 0) (pa_cons pe_int pa_nil)))) (pa_cons (pe_op op_add pe_int (pe_hc C_law_pick (hr.mono (by decide)) (by rfl) (pa_cons (pv 0) (pa_cons pe_int pa_nil)))) pa_nil))) (by rfl))
  (pss_cons (ps_par (i := 4) (j := 5) rfl nd rfl rfl (by decide) rfl rfl (pa_cons (pe_lst (pa_cons pe_int pa_nil)) (pa_cons (pe_lst pa_nil) pa_nil)) (by rfl))
  (pss_cons (ps_for PassesOwn.never rfl (pi_range1 (by rfl) B.range_ (pa_cons (pe_hc C_law_pick (hr.mono (by decide)) (by rfl) (pa_cons (pv 0) (pa_cons pe_int pa_nil))) pa_nil)) (pgn 6 nd)
  (pss_one (ps_expr (k_append K (pv 4) (pa_cons (pe_op op_mul (pe_op op_add (pv 1) (pe_op op_mul (pv 2) (pv 6))) (pe_hc C_law_one (hr.mono (by decide)) (by rfl) (pa_cons (pv 0) (pa_cons (pe_lst (pa_cons pe_int (pa_cons pe_int (pa_cons (pe_op op_sub pe_int pe_int) pa_nil)))) pa_nil)))) pa_nil)))))
  (pss_cons (ps_for PassesOwn.never rfl (pi_range1 (by rfl) B.range_ (pa_cons pe_int pa_nil)) (pgn 7 nd)
  (pss_cons (psn 8 nd (pe_hc C_law_g_letter (hr.mono (by decide)) (by rfl) (pa_cons (pv 0) (pa_cons (pv 3) pa_nil))))
  (pss_one (ps_if (pt_cmpR (k_nin K (hu65 hr)) (pv 8) (pv 5) (by rfl))
  (pss_one (ps_expr (k_append K (pv 5) (pa_cons (pv 8) pa_nil))))
  pss_nil))))
  (pss_cons (psn 9 nd (w_new w))
  (pss_cons (ps_for PassesOwn.never rfl (k_pil K (pe_hc C_law_shuffled (hr.mono (by decide)) (by rfl) (pa_cons (pv 0) (pa_cons (pv 4) pa_nil)))) (pgn 10 nd)
  (pss_cons (ps_asg (w_new w) (pg_sub (pv 9) (pv 10) (w_set w (hu9 hr))))
  (pss_one (ps_for PassesOwn.never rfl (k_pil K (pe_hc C_law_shuffled (hr.mono (by decide)) (by rfl) (pa_cons (pv 0) (pa_cons (pv 5) pa_nil)))) (pgn 8 nd)
  (pss_one (ps_if (k_truth K (pe_hc C_law_pick (hr.mono (by decide)) (by rfl) (pa_cons (pv 0) (pa_cons pe_int pa_nil))))
  (pss_one (ps_asg (pe_tup (pa_cons (pe_hc C_law_one (hr.mono (by decide)) (by rfl) (pa_cons (pv 0) (pa_cons (pe_lst (pa_cons pe_non (pa_cons pe_int (pa_cons pe_int (pa_cons (pe_op op_sub pe_int pe_int) (pa_cons (pe_hc C_law_number (hr.mono (by decide)) (by rfl) (pa_cons (pv 0) (pa_cons (pe_op op_pow pe_int pe_int) pa_nil))) pa_nil)))))) pa_nil))) (pa_cons (pe_hc C_law_one (hr.mono (by decide)) (by rfl) (pa_cons (pv 0) (pa_cons (pv 4) pa_nil))) pa_nil))) (pg_sub (pe_ix (w_ixg w (hu9 hr)) (pv 9) (pv 10) (fun _ _ => rfl)) (pv 8) (w_set w (hu9 hr)))))
  pss_nil))))))
  (pss_one (ps_ret (pe_tup (pa_cons (pv 9) (pa_cons (pv 5) pa_nil))))))))))), ?_⟩
    refine ⟨_, rfl, sa, 900, rfl, hs, by decide, fun H1 r1 k1 d1 => ⟨_, _, rfl, rfl, _, rfl, sa, 9, rfl, k1.s, by decide, fun H2 r2 k2 d2 => ⟨_, _, rfl, rfl, _, rfl, sa, 3, rfl, k2.s, by decide, fun H3 r3 k3 d3 => ⟨_, _, rfl, rfl, ?_⟩⟩⟩⟩
    have k13 := (k1.trans k2).trans k3
    refine ⟨_, _, _, rfl, by show 1 ≤ sizeLine; decide, fun sl hsl => ⟨Nat.zero_le _, fun pl hpl => ⟨_, _, rfl, ?_⟩⟩⟩
    have hsl0 := k13.free hsl
    have nslp : sl ≠ pl := ne_of_none upd_same hpl
    have hpl3 : H3 pl = none := by rw [upd_ne nslp.symm] at hpl; exact hpl
    have hpl0 := k13.free hpl3
    have nss := hs.fresh hsl0
    have nsp := hs.fresh hpl0
    have k4 : Kp sa H (upd (upd H3 sl (.lst [.int 0])) pl (.lst [])) := (k13.wr hsl0 nss).wr hpl0 nsp
    generalize hH4 : upd (upd H3 sl (.lst [V.int 0])) pl (.lst []) = H4 at k4
    have e4s : H4 sl = some (.lst (([0] : List Int).map V.int)) := by rw [← hH4, upd_ne nslp, upd_same]; rfl
    have e4p : H4 pl = some (.lst []) := by rw [← hH4, upd_same]
    refine ⟨_, rfl, sa, 6, rfl, k4.s, by decide, fun H5 r5 k5 d5 => ⟨_, rfl, by have := d5.1; omega, by have := d5.2; omega, ?_⟩⟩
    refine for_it (walk_range (lo := 0) (n := r5.toNat)) (fun i σ Hi => ∃ ns x, σ = [some (.ref sa), some (.int (1 + r1)), some (.int (1 + r2)), some (.int (1 + r3)), some (.ref sl), some (.ref pl), x, none, none, none, none] ∧ Kp sa H Hi ∧ Hi sl = some (.lst ((ns : List Int).map V.int)) ∧ Hi pl = some (.lst []) ∧ ns.length = i + 1)
      ⟨[0], none, rfl, k4.trans k5, k5.k _ _ nss e4s, k5.k _ _ nsp e4p, rfl⟩ (fun _ _ _ _ _ => True.intro) ?_ ?_
    · rintro i y σ H1' Hi hi ⟨ns, x, rfl, kp, hsi, hpi, hnl⟩ ⟨rfl, rfl⟩
      have h9 := d2.2
      have h9' := d2.1
      refine ⟨_, rfl, .inl ⟨rfl, _, SqL.of hsi⟩, _, rfl, _, rfl, _, rfl, _, _, rfl, rfl, .inl ⟨by omega, by omega⟩, _, _, rfl, rfl, _, rfl, _, _, rfl, rfl, by show 3 ≤ sizeLine; decide, fun l hl => ?_⟩
      have s1 : Same Hi (upd Hi l (.lst [.int 1, .int 1, .int (0 - 1)])) := same_new hl
      refine ⟨sa, l, _, rfl, kp.s.same s1, SqL.of upd_same, kp.s.fresh hl, by simp, by decide, fun H' v k hm => ?_⟩
      obtain ⟨u, rfl, u1, u2⟩ : ∃ u, v = .int u ∧ -5 < u ∧ u < 5 := by
        simp only [List.mem_cons, List.mem_nil_iff, or_false] at hm
        rcases hm with rfl | rfl | rfl
        · exact ⟨1, rfl, by decide, by decide⟩
        · exact ⟨1, rfl, by decide, by decide⟩
        · exact ⟨_, rfl, by decide, by decide⟩
      refine ⟨_, _, rfl, rfl, .inr ⟨by omega, by omega⟩, sl, _, _, rfl, rfl, k.k _ _ nss (s1 _ _ hsi), ?_, ?_⟩
      · rw [List.length_map, hnl]
        have := d5.2
        exact Nat.lt_of_le_of_lt (by omega : i + 1 ≤ 1000) (by decide)
      · refine ⟨ns ++ [_], _, rfl, ((kp.same s1).trans k).wr hsl0 nss, by rw [upd_same, List.map_append]; rfl, by rw [upd_ne nslp.symm]; exact k.k _ _ nsp (s1 _ _ hpi), by rw [List.length_append, hnl]; rfl⟩
    · rintro σ Hi ⟨ns, x, rfl, kp, hsi, hpi, hnl⟩
      have hns : ns.length ≤ 6 := by
        have := d5.1
        have := d5.2
        omega
      have hns0 : ns ≠ [] := fun e => by rw [e] at hnl; simp at hnl
      refine ⟨4, rfl, by decide, by decide, for_it (walk_range (lo := 0) (n := 4)) (fun i σ Hi => ∃ us pool x7 x8, σ = [some (.ref sa), some (.int (1 + r1)), some (.int (1 + r2)), some (.int (1 + r3)), some (.ref sl), some (.ref pl), x, x7, x8, none, none] ∧ Kp sa H Hi ∧ Hi sl = some (.lst (ns.map V.int)) ∧
        Hi pl = some (.lst us) ∧ KVs Hi pool us ∧ (∀ d ∈ pool, goodLetter d = true ∧ Flat d) ∧ pool.length ≤ i ∧ (0 < i → pool ≠ [])) ⟨[], [], none, none, rfl, kp, hsi, hpi, .nil, fun d h => absurd h (by simp), Nat.le_refl _, fun h => absurd h (by decide)⟩ (fun _ _ _ _ _ => True.intro) ?_ ?_⟩
      · rintro i y σ H1' Hi' hi ⟨us, pool, x7, x8, rfl, kp', hsi', hpi', kv, hg, hl, hne⟩ ⟨rfl, rfl⟩
        have h3 := d3.1
        have h3' := d3.2
        refine ⟨_, rfl, _, rfl, sa, _, rfl, kp'.s, by omega, by omega, fun H' v d k kd gd fd' => ?_⟩
        have hp2 := k.k _ _ nsp hpi'
        have kv2 := kv.mono (k.tups kp'.s)
        refine ⟨_, rfl, _, rfl, kdata d, kdatas pool, kd.dp, .lst (SqL.of hp2) (KVs.dps kv2), kd_shaped gd fd', kds_shaped (fun z hz => (hg z hz).1) (fun z hz => (hg z hz).2), _, rfl, ?_⟩
        cases hb : (kdatas pool).any fun z => PyData.eqv z (kdata d) with
        | true =>
          refine iteF ⟨us, pool, _, _, rfl, kp'.trans k, k.k _ _ nss hsi', hp2, kv2, hg, by omega, fun _ e => ?_⟩
          rw [e] at hb
          simp [kdatas] at hb
        | false =>
          refine iteT ⟨_, rfl, .inl ⟨rfl, _, SqL.of hp2⟩, _, rfl, pl, _, _, rfl, rfl, hp2, ?_, ?_⟩
          · have := KVs.len kv
            exact Nat.lt_of_le_of_lt (by omega : us.length ≤ 1000) (by decide)
          have tt : Tups H' (upd H' pl (.lst (us ++ [v]))) := fun b xs e => by
            rw [upd_ne (fun z => by rw [z, hp2] at e; cases e)]
            exact e
          refine ⟨us ++ [v], pool ++ [d], _, _, rfl, (kp'.trans k).wr hpl0 nsp, by rw [upd_ne nslp]; exact k.k _ _ nss hsi', upd_same, (kv2.snoc kd).mono tt, fun z hz => ?_, by rw [List.length_append]; simpa using hl, fun _ e => by simp at e⟩
          rcases List.mem_append.mp hz with hz | hz
          · exact hg z hz
          · obtain rfl : z = d := by simpa using hz
            exact ⟨gd, fd'⟩
      · rintro σ Hi' ⟨us, pool, x7, x8, rfl, kp', hsi', hpi', kv, hg, hl, hne⟩
        intro rp ep1 hrp
        have hrp0 := kp'.free hrp
        have nrs := hs.fresh hrp0
        have nsr : sl ≠ rp := ne_of_none hsi' hrp
        have npr : pl ≠ rp := ne_of_none hpi' hrp
        have k6 : Kp sa H (upd Hi' rp (GO w rp [] ep1)) := kp'.wr hrp0 nrs
        refine ⟨_, rfl, _, rfl, sa, sl, _, rfl, k6.s, SqL.of (by rw [upd_ne nsr]; exact hsi'), nss, by rw [List.length_map]; omega, fun H7 q1 ys k7 hq1 hq1' py => ?_⟩
        have hq10 : H q1 = none := (k6.free hq1)
        have nsq := hs.fresh hq10
        have nrq : rp ≠ q1 := ne_of_none upd_same hq1
        have nslq : sl ≠ q1 := ne_of_none (show upd Hi' rp (GO w rp [] ep1) sl = _ by rw [upd_ne nsr]; exact hsi') hq1
        have nplq : pl ≠ q1 := ne_of_none (show upd Hi' rp (GO w rp [] ep1) pl = _ by rw [upd_ne npr]; exact hpi') hq1
        let Env : Hp → Prop := fun Hi => Kp sa H Hi ∧ Hi sl = some (.lst (ns.map V.int)) ∧ Hi pl = some (.lst us) ∧ Hi q1 = some (.lst ys)
        have env_kp : ∀ {A B : Hp}, Env A → Kp sa A B → Env B := fun {A B} e k => ⟨e.1.trans k, k.k _ _ nss e.2.1, k.k _ _ nsp e.2.2.1, k.k _ _ nsq e.2.2.2⟩
        have env_wr : ∀ {A : Hp} {p : Addr} {o : HO}, Env A → H p = none → p ≠ sl → p ≠ pl → p ≠ q1 → Env (upd A p o) := fun {A p o} e n n1 n2 n3 =>
          ⟨e.1.wr n (hs.fresh n), by rw [upd_ne n1.symm]; exact e.2.1, by rw [upd_ne n2.symm]; exact e.2.2.1, by rw [upd_ne n3.symm]; exact e.2.2.2⟩
        have env_new : ∀ {A : Hp} {p : Addr} {o : HO}, Env A → A p = none → Env (upd A p o) := fun {A p o} e n =>
          env_wr e (e.1.free n) (ne_of_none e.2.1 n).symm (ne_of_none e.2.2.1 n).symm (ne_of_none e.2.2.2 n).symm
        have e7 : Env H7 := ⟨k6.trans k7, k7.k _ _ nss (by rw [upd_ne nsr]; exact hsi'), k7.k _ _ nsp (by rw [upd_ne npr]; exact hpi'), hq1'⟩
        have hkv : ∀ {A : Hp}, Env A → Tups Hi' A → KVs A pool us := fun {A} _ t => kv.mono t
        have t7 : Tups Hi' H7 := fun b xs e => k7.tups k6.s b xs (by rw [upd_ne (ne_of_none e hrp)]; exact e)
        have hpool : pool ≠ [] := hne (by decide)
        refine ⟨q1, rfl, ⟨ys, SqL.of hq1'⟩, for_it (walk_list (xs := ys)) (fun i σ Hi => ∃ bs rows x8 xa, σ = [some (.ref sa), some (.int (1 + r1)), some (.int (1 + r2)), some (.int (1 + r3)), some (.ref sl), some (.ref pl), x, x7, x8, some (.ref rp), xa] ∧ Env Hi ∧ Tups Hi' Hi ∧
          RowsIn w Hi rp bs rows ∧ (∀ b ∈ rp :: bs, H b = none) ∧ RowsOk rows ∧ rows.length ≤ i ∧ ∀ r ∈ rows, r.2.length ≤ 8)
          ⟨[], [], _, none, rfl, e7, t7, ⟨⟨ep1, k7.k _ _ nrs upd_same⟩, .nil, by simp⟩, fun b hb => by
            obtain rfl : b = rp := by simpa using hb
            exact hrp0, ⟨List.nodup_nil, fun r h => absurd h (by simp), by decide⟩, Nat.le_refl _, fun r h => absurd h (by simp)⟩ (fun i σ Hi _ ⟨_, _, _, _, _, e, _⟩ => SqL.of e.2.2.2) ?_ ?_⟩
        · rintro i z σ Hq Hi hi ⟨bs, rows, x8', xa, rfl, env, tt, RI, fr, rok, rl, rs⟩ ⟨rfl, hz⟩
          have hym : z ∈ ns.map V.int := py.subset (List.mem_of_getElem? hz)
          obtain ⟨st, _, rfl⟩ := List.mem_map.mp hym
          have hyl : ys.length = ns.length := by rw [py.length_eq, List.length_map]
          intro p ep2 hp
          obtain ⟨⟨ep3, hri⟩, pR, nR⟩ := id RI
          have hlR := Paired.length pR
          have nrp : rp ≠ p := ne_of_none hri hp
          have env2 := env_new (o := GO w p [] ep2) env hp
          refine ⟨_, rfl, _, rfl, rp, _, ep3, .num st, rfl, by rw [upd_ne nrp]; exact hri, KeyAt.int _ st, rowsG_ok _, ?_, fun ep4 => ?_⟩
          · rw [rowsG_len hlR]
            exact Nat.lt_of_le_of_lt (by omega : rows.length ≤ 1000) (by decide)
          generalize hgo : GO w rp (putG (rowsG rows bs) (NestedKey.num st) (V.int st) (V.ref p)) ep4 = go
          have env3 : Env (upd (upd Hi p (GO w p [] ep2)) rp go) := env_wr env2 hrp0 nsr.symm npr.symm nrq
          have tp : Tups Hi (upd (upd Hi p (GO w p [] ep2)) rp go) := fun b xs e => by
            rw [upd_ne (fun q => by rw [q, hri] at e; cases e), upd_ne (ne_of_none e hp)]
            exact e
          have hasb : ∀ b ∈ rp :: bs, ∃ o, Hi b = some o := fun b hb => by
            rcases List.mem_cons.mp hb with rfl | hb
            · exact ⟨_, hri⟩
            · obtain ⟨j, hj⟩ := List.mem_iff_getElem?.mp hb
              obtain ⟨r, _, xs, ep, g, _⟩ := Paired.at pR hj
              exact ⟨_, g⟩
          obtain ⟨bs', RI3, hb3⟩ := RI.store (p := p) (st := st) (row := []) (ep := ep4) (H' := upd (upd Hi p (GO w p [] ep2)) rp go) rok (fun hm => by
              obtain ⟨o, ho⟩ := hasb p hm
              rw [hp] at ho
              cases ho) ⟨[], ep2, by rw [upd_ne nrp.symm, upd_same], .nil⟩ tp (fun b o hb e => by
              have n1 : b ≠ rp := fun q => (List.nodup_cons.mp nR).1 (q ▸ hb)
              rw [upd_ne n1, upd_ne (ne_of_none e hp)]
              exact e) (by rw [upd_same, hgo])
          have fr3 : ∀ b ∈ rp :: bs', H b = none := fun b hb => by
            rcases List.mem_cons.mp hb with rfl | hb
            · exact hrp0
            · rcases hb3 b hb with hb | rfl
              · exact fr b (List.mem_cons_of_mem _ hb)
              · exact env.1.free hp
          have rok3 : RowsOk (setR rows st []) := setR_ok rok ⟨List.nodup_nil, fun r h => absurd h (by simp), by decide⟩ (by omega)
          refine ⟨_, rfl, _, rfl, sa, pl, us, rfl, env3.1.s, SqL.of env3.2.2.1, nsp, by have := KVs.len kv; omega, fun H9 q2 zs k9 hq2 hq2' pz => ?_⟩
          have hq20 := env3.1.free hq2
          have env9 := env_kp env3 k9
          have t9 : Tups Hi' H9 := (tt.trans tp).trans (k9.tups env3.1.s)
          have RI9 : RowsIn w H9 rp bs' (setR rows st []) := RI3.keep (k9.tups env3.1.s) fun b hb o e => k9.k b o (hs.fresh (fr3 b hb)) e
          have nrp2 : rp ≠ q2 := ne_of_none upd_same hq2
          have nsq2 := hs.fresh hq20
          refine ⟨q2, rfl, ⟨zs, SqL.of hq2'⟩, for_it (walk_list (xs := zs)) (fun j σ Hj => ∃ rows2 row x8, σ = [some (.ref sa), some (.int (1 + r1)), some (.int (1 + r2)), some (.int (1 + r3)), some (.ref sl), some (.ref pl), x, x7, x8, some (.ref rp), some (.int st)] ∧ Env Hj ∧ Tups Hi' Hj ∧ Hj q2 = some (.lst zs) ∧
            RowsIn w Hj rp bs' rows2 ∧ RowsOk rows2 ∧ rows2.length ≤ i + 1 ∧ (∀ r ∈ rows2, r.2.length ≤ 8) ∧ rowsGet rows2 st = some row ∧ row.length ≤ j)
            ⟨_, [], _, rfl, env9, t9, hq2', RI9, rok3, by have := setR_len rows st []; omega, fun r hr => by
              rcases setR_mem hr with hr | rfl
              · exact rs r hr
              · exact Nat.zero_le _, setR_get, Nat.le_refl _⟩ (fun j σ Hj _ ⟨_, _, _, _, _, _, e, _⟩ => SqL.of e) ?_ ?_⟩
          · rintro j v σ Hq2 Hj hj ⟨rows2, row, x8'', rfl, env4, tt4, hq24, RI4, rok4, rl4, rs4, hget, hrl⟩ ⟨rfl, hv⟩
            have hum : v ∈ us := pz.subset (List.mem_of_getElem? hv)
            obtain ⟨iu, hiu⟩ := List.mem_iff_getElem?.mp hum
            obtain ⟨d, hd, kd0⟩ := kv.at hiu
            have hdm := List.mem_of_getElem? hd
            have hzl : zs.length ≤ 4 := by
              have := pz.length_eq
              have := KVs.len kv
              omega
            refine ⟨_, rfl, sa, 4, rfl, env4.1.s, by decide, fun H10 r10 k10 d10 => ⟨_, rfl, ?_⟩⟩
            have env10 := env_kp env4 k10
            have t10 := tt4.trans (k10.tups env4.1.s)
            have RI10 : RowsIn w H10 rp bs' rows2 := RI4.keep (k10.tups env4.1.s) fun b hb o e => k10.k b o (hs.fresh (fr3 b hb)) e
            have hq210 := k10.k _ _ nsq2 hq24
            cases hb10 : (r10 != 0) with
            | false => exact iteF ⟨rows2, row, _, rfl, env10, t10, hq210, RI10, rok4, rl4, rs4, hget, by omega⟩
            | true =>
              refine iteT ⟨_, rfl, _, _, rfl, rfl, _, rfl, _, _, rfl, rfl, ⟨by decide, by decide, by decide⟩, sa, _, rfl, env10.1.s, by decide +kernel, fun H11 r11 k11 => ?_⟩
              refine ⟨by show 5 ≤ sizeLine; decide, fun l hl => ?_⟩
              have env11 := env_kp env10 k11
              have env12 := env_new (o := .lst [V.non, V.int 0, V.int 1, V.int (0 - 7), V.int r11]) env11 hl
              refine ⟨sa, l, _, rfl, env12.1.s, SqL.of upd_same, (hs.fresh (env11.1.free hl)), by simp, by show 5 ≤ 1000000; decide, fun H13 v13 k13' hm13 => ?_⟩
              obtain ⟨dg, hdgk, hdg⟩ : ∃ dg, (∀ A : Hp, KV A dg v13) ∧ (dg = .non ∨ ∃ i, dg = .int i) := by
                simp only [List.mem_cons, List.mem_nil_iff, or_false] at hm13
                rcases hm13 with rfl | rfl | rfl | rfl | rfl
                · exact ⟨.non, fun _ => .non, .inl rfl⟩
                all_goals exact ⟨.int _, fun _ => .int _, .inr ⟨_, rfl⟩⟩
              have env13 := env_kp env12 k13'
              refine ⟨_, rfl, _, rfl, sa, sl, _, rfl, env13.1.s, SqL.of env13.2.1, nss, by simpa using hns0, by rw [List.length_map]; omega, fun H14 v14 k14 hm14 => ?_⟩
              obtain ⟨t14, _, rfl⟩ := List.mem_map.mp hm14
              have env14 := env_kp env13 k14
              refine ⟨by show 2 ≤ sizeLine; decide, fun t ht => ?_⟩
              have env15 := env_new (o := .tup [v13, V.int t14]) env14 ht
              have k1014 : Kp sa H10 H14 := (k11.trans ((Kp.new env11.1.s hl).trans k13')).trans k14
              have t1015 : Tups H10 (upd H14 t (.tup [v13, .int t14])) := (k1014.tups env10.1.s).trans (Tups.of_same (same_new ht))
              have k1015 : ∀ b o, b ≠ sa → H10 b = some o → upd H14 t (.tup [v13, .int t14]) b = some o := fun b o n e => same_new ht b o (k1014.k b o n e)
              have RI15 : RowsIn w (upd H14 t (.tup [v13, .int t14])) rp bs' rows2 := RI10.keep t1015 fun b hb o e => k1015 b o (hs.fresh (fr3 b hb)) e
              have tt15 := t10.trans t1015
              obtain ⟨⟨ep5, hri5⟩, pR5, nR5⟩ := id RI15
              rcases rows_get (s := st) pR5 with ⟨row', ra, g1, g2, g3, ⟨xs, ep6, hra, pe⟩, g5⟩ | ⟨g1, _⟩
              rotate_left
              · rw [hget] at g1; cases g1
              rw [hget] at g1
              obtain rfl := Option.some.inj g1
              have rokr := rok4.2.1 _ g5
              have kd := (kd0.mono tt15).at_ (hg d hdm).2
              have hlx := Paired.length pe
              refine ⟨_, rfl, _, rfl, rp, _, ep5, .num st, _, rfl, hri5, KeyAt.int _ st, rowsG_ok _, g2, _, rfl, ra, xs, ep6, nk d, rfl, hra, kd, ents_ok pe rokr, Nat.lt_of_le_of_lt (by omega : xs.length ≤ 1000) (by decide), fun ep7 => ?_⟩
              have nras : ra ≠ sl := ne_of hra env15.2.1 (by intro z; cases z)
              have nrap : ra ≠ pl := ne_of hra env15.2.2.1 (by intro z; cases z)
              have nraq : ra ≠ q1 := ne_of hra env15.2.2.2 (by intro z; cases z)
              have ht10 : H10 t = none := k1014.free ht
              have nq2t : q2 ≠ t := ne_of_none hq210 ht10
              have hq215 : upd H14 t (.tup [v13, .int t14]) q2 = some (.lst zs) := k1015 _ _ nsq2 hq210
              have nraq2 : ra ≠ q2 := ne_of hra hq215 (by intro z; cases z)
              have tw : Tups (upd H14 t (.tup [v13, .int t14])) (upd (upd H14 t (.tup [v13, .int t14])) ra (GO w ra (putG xs (nk d) v (.ref t)) ep7)) := fun b ys e => by
                rw [upd_ne (fun q => by rw [q, hra] at e; cases e)]
                exact e
              have hent : RowAt w (upd (upd H14 t (.tup [v13, .int t14])) ra (GO w ra (putG xs (nk d) v (.ref t)) ep7)) ra (setE row d dg t14) :=
                ⟨_, ep7, upd_same, ents_put (ents_mono tw pe) ((kd0.mono tt15).mono tw) (.tup (tw _ _ upd_same) (.cons (hdgk _) (.cons (.int _) .nil)))⟩
              have hraf : H ra = none := fr3 ra (List.mem_cons_of_mem _ g3)
              have rok16 := setE_ok (t := t14) rokr (hg d hdm).2 hdg (by show List.length row < 1000; omega)
              refine ⟨setR rows2 st (setE row d dg t14), setE row d dg t14, _, rfl, env_wr env15 hraf nras nrap nraq, tt15.trans tw, by rw [upd_ne nraq2.symm]; exact hq215, RI15.change' rok4 g2 hent tw fun b o n e => by rw [upd_ne n]; exact e, setR_ok rok4 rok16 (by omega), ?_, fun r hr => ?_, setR_get, ?_⟩
              · rw [setR_len' (by rw [hget]; rfl)]
                exact rl4
              · rcases setR_mem hr with hr | rfl
                · exact rs4 r hr
                · have := setE_len row d dg t14
                  show (setE row d dg t14).length ≤ 8
                  omega
              · have := setE_len row d dg t14
                omega
          · rintro σ Hj ⟨rows2, row, x8'', rfl, env4, tt4, hq24, RI4, rok4, rl4, rs4, hget, hrl⟩
            exact ⟨bs', rows2, _, _, rfl, env4, tt4, RI4, fr3, rok4, rl4, rs4⟩
        · rintro σ Hi ⟨bs, rows, x8', xa, rfl, env, tt, RI, fr, rok, rl, rs⟩
          have hyl : ys.length = ns.length := by rw [py.length_eq, List.length_map]
          refine ⟨_, rfl, _, rfl, by show 2 ≤ sizeLine; decide, fun t ht => ?_⟩
          refine q _ t rp pl rows pool (env.1.same (same_new ht)) upd_same ?_ rok ⟨by omega, rs⟩ ⟨⟨us, same_new ht _ _ env.2.2.1, kv.mono (tt.trans (Tups.of_same (same_new ht)))⟩, hg, by omega⟩ hpool hpl0 npr
          exact ⟨bs, RI.keep (Tups.of_same (same_new ht)) fun b _ o e => same_new ht b o e, fr⟩
end
end K29
end

section
set_option Elab.async false
set_option linter.all false
set_option maxRecDepth 100000
set_option maxHeartbeats 4000000
namespace K29
open PySem PySem.Spec PyProof.Rows L2 L2H GX
section
variable {P : Program} {w : World} {K : PySem.W.Frag} {mg : Str → Option Value} {base : Heap}
abbrev s_law_g_wrong : Stmt := top 24
theorem sc_law_g_wrong : FnScope ["s", "rows", "kind", "out", "state", "told", "n", "odd", "letter", "far", "letters"] ["s", "rows", "kind"] (defScope s_law_g_wrong) := ⟨rfl, rfl, rfl, by decide +kernel, rfl, by decide +kernel, by decide +kernel⟩
def spWrong (w : World) : Sp := fun vs H Q _ => ∃ sa a as rows kind n, vs = [.ref sa, .ref a, .str kind] ∧ SAt H sa ∧ RowsIn w H a as rows ∧ RowsOk rows ∧ RowsB n rows ∧ n ≤ 100 ∧ rows ≠ [] ∧
  ∀ H' p rows', Kp sa H H' → RowsAt w H H' p rows' → RowsOk rows' → RowsB (n + 1) rows' → Q (.ref p) H'
theorem ok_law_g_wrong {f : Addr} {fd : FuncData} (F : L2.Fun K "_law_g_wrong" "_law_g_wrong" s_law_g_wrong f fd) (B : Blt mg) (C_law_pick : Has P w K mg base L2.CX0 1 "_law_pick" ["s", "many"] spPick) (C_law_one : Has P w K mg base L2.CX0 2 "_law_one" ["s", "things"] (spOne K))
    (C_law_g_copy : Has P w K mg base L2.CX0 1 "_law_g_copy" ["rows"] (spCopy w)) : FnOk P w K mg base L2.CX0 3 f fd ["s", "rows", "kind"] (spWrong w) := by
  have nd := sc_law_g_wrong.nd
  refine F.ok sc_law_g_wrong (fun vs H Q E h => ?_) (fun cdv A outer s H vs Q E hr h => ?_)
  · obtain ⟨sa, a, as, rows, kind, n, rfl, _⟩ := h
    rfl
  · obtain ⟨sa, a, as, rows, kind, N, rfl, hs, RI, rok, rb, hN, hne, q⟩ := h
    refine ⟨_, (pss_cons (ps_asg (pe_tup (pa_cons (pe_hc C_law_g_copy (hr.mono (by decide)) (by rfl) (pa_cons (pv 1) pa_nil)) (pa_cons (pe_hc C_law_one (hr.mono (by decide)) (by rfl) (pa_cons (pv 0) (pa_cons (pe_callB (w_sorted w) (by rfl) B.sorted_ (by decide +kernel) (pa_cons (pv 1) pa_nil)) pa_nil))) pa_nil))) (k_ptup K (pgs_cons (pgn 3 nd) (pgs_cons (pgn 4 nd) pgs_nil))))
  (pss_cons (ps_if (pt_cmpR op_eq (pv 2) pe_str (nomark _))
  (pss_one (ps_ret (pe_callTy (w_dict w (hu14 hr)) (by rfl) B.dict_ (by decide +kernel) (pa_cons (pe_lc (own := [("told", 5)]) rfl nd (w_pi w (pv 3)) (blkOk_by (by kernel_rfl)) (fun _ _ _ _ _ => (pgn 5 nd)) (fun _ _ _ _ _ => (pts_one (pt_cmpR op_ne (pv 5) pe_int (nomark _)))) (fun _ _ _ _ _ => (pe_tup (pa_cons (pv 5) (pa_cons (pe_ix (w_ixg w (hu9 hr)) (pv 3) (pv 5) (fun _ _ => rfl)) pa_nil))))) pa_nil))))
  pss_nil)
  (pss_cons (ps_if (pt_cmpR op_eq (pv 2) pe_str (nomark _))
  (pss_cons (psn 6 nd (pe_hc C_law_pick (hr.mono (by decide)) (by rfl) (pa_cons (pv 0) (pa_cons pe_int pa_nil))))
  (pss_cons (psn 7 nd (pe_hc C_law_one (hr.mono (by decide)) (by rfl) (pa_cons (pv 0) (pa_cons (pe_lst (pa_cons (pe_tup (pa_cons pe_bl pa_nil)) (pa_cons (pe_tup (pa_cons pe_bl (pa_cons pe_non pa_nil))) (pa_cons (pv 6) (pa_cons pe_str (pa_cons (pe_tup (pa_cons pe_str pa_nil)) (pa_cons (pe_tup (pa_cons pe_str pa_nil)) (pa_cons (pe_tup (pa_cons (pe_tup (pa_cons (pv 6) pa_nil)) pa_nil)) (pa_cons (pe_tup (pa_cons (pv 6) (pa_cons pe_str pa_nil))) (pa_cons (pe_tup (pa_cons pe_non (pa_cons pe_bl pa_nil))) pa_nil)))))))))) pa_nil))))
  (pss_one (ps_asg (pe_callTy (w_dict w (hu14 hr)) (by rfl) B.dict_ (by decide +kernel) (pa_cons (pe_op op_cat (pe_lst (pa_cons (pe_tup (pa_cons (pv 7) (pa_cons (pe_tup (pa_cons (pv 6) (pa_cons (pe_hc C_law_one (hr.mono (by decide)) (by rfl) (pa_cons (pv 0) (pa_cons (pe_callB (w_sorted w) (by rfl) B.sorted_ (by decide +kernel) (pa_cons (pv 3) pa_nil)) pa_nil))) pa_nil))) pa_nil))) pa_nil)) (pe_lc (own := [("letter", 8)]) rfl nd (w_pi w (pe_ix (w_ixg w (hu9 hr)) (pv 3) (pv 4) (fun _ _ => rfl))) (blkOk_by (by kernel_rfl)) (fun _ _ _ _ _ => (pgn 8 nd)) (fun _ _ _ _ _ => pts_nil) (fun _ _ _ _ _ => (pe_tup (pa_cons (pv 8) (pa_cons (pe_ix (w_ixg w (hu9 hr)) (pe_ix (w_ixg w (hu9 hr)) (pv 3) (pv 4) (fun _ _ => rfl)) (pv 8) (fun _ _ => rfl)) pa_nil)))))) pa_nil)) (pg_sub (pv 3) (pv 4) (w_set w (hu9 hr)))))))
  pss_nil)
  (pss_cons (ps_if (pt_cmpR op_eq (pv 2) pe_str (nomark _))
  (pss_cons (psn 9 nd (pe_op op_add (pe_op op_add (pe_callB (k_max K) (by rfl) B.max_ (by decide +kernel) (pa_cons (pe_lc (own := [("told", 5)]) rfl nd (w_pi w (pv 3)) (blkOk_by (by kernel_rfl)) (fun _ _ _ _ _ => (pgn 5 nd)) (fun _ _ _ _ _ => pts_nil) (fun _ _ _ _ _ => (pe_callB call_abs (by rfl) B.abs_ (by decide +kernel) (pa_cons (pv 5) pa_nil)))) pa_nil)) pe_int) (pe_hc C_law_pick (hr.mono (by decide)) (by rfl) (pa_cons (pv 0) (pa_cons pe_int pa_nil)))))
  (pss_cons (psn 10 nd (pe_op op_cat (pe_callTy (w_list w) (by rfl) B.list_ (by decide +kernel) (pa_cons (pe_ix (w_ixg w (hu9 hr)) (pv 3) (pv 4) (fun _ _ => rfl)) pa_nil)) (pe_lst (pa_cons (pe_tup (pa_cons (pe_op op_sub pe_int (pe_op op_pow pe_int pe_int)) pa_nil)) pa_nil))))
  (pss_one (ps_asg (pe_tup (pa_cons pe_non (pa_cons (pe_hc C_law_one (hr.mono (by decide)) (by rfl) (pa_cons (pv 0) (pa_cons (pe_lst (pa_cons (pv 9) (pa_cons (pe_op op_sub pe_int (pv 9)) pa_nil))) pa_nil))) pa_nil))) (pg_sub (pe_ix (w_ixg w (hu9 hr)) (pv 3) (pv 4) (fun _ _ => rfl)) (pe_hc C_law_one (hr.mono (by decide)) (by rfl) (pa_cons (pv 0) (pa_cons (pv 10) pa_nil))) (w_set w (hu9 hr)))))))
  pss_nil)
  (pss_one (ps_ret (pv 3))))))), ?_⟩
    refine ⟨_, rfl, a, as, rows, rfl, RI, rok, fun H1 o sm1 RA => ?_⟩
    obtain ⟨⟨ep, hA⟩, pA, _⟩ := id RI
    have hl := Paired.length pA
    have hln : 0 < rows.length := List.length_pos_iff.mpr hne
    refine ⟨_, rfl, _, rfl, a, _, ep, rows.map (·.1), rfl, sm1 _ _ hA, rowsG_vals hl, fun ns' qa p1 p2 hqa => ?_⟩
    have hnl := p1.length_eq
    rw [List.length_map] at hnl
    have s1 := hs.same sm1
    refine ⟨sa, qa, _, rfl, s1.same (same_new hqa), SqL.of upd_same, s1.fresh hqa, by intro e; have := congrArg List.length e; rw [List.length_map, List.length_nil] at this; omega, by rw [List.length_map]; have := rb.1; omega, fun H2 v k2 hm => ?_⟩
    obtain ⟨st, hst0, rfl⟩ := List.mem_map.mp hm
    have hst : st ∈ rows.map (·.1) := p1.subset hst0
    refine ⟨by show 2 ≤ sizeLine; decide, fun t ht => ?_⟩
    have k12 : Kp sa H1 (upd H2 t (.tup [.ref o, .int st])) := ((Kp.new (o := .lst (ns'.map V.int)) s1 hqa).trans k2).same (same_new ht)
    have k02 : Kp sa H (upd H2 t (.tup [.ref o, .int st])) := (Kp.of_same hs sm1).trans k12
    have htt : (upd H2 t (.tup [.ref o, .int st])) t = some (.tup [.ref o, .int st]) := upd_same
    generalize hH3 : upd H2 t (.tup [V.ref o, V.int st]) = H3 at k12 k02 htt
    obtain ⟨bs, RI1, fr⟩ := RA
    have RI3 : RowsIn w H3 o bs rows := RI1.keep (k12.tups s1) fun b hb e => k12.k b e (hs.fresh (fr b hb))
    refine ⟨t, _, rfl, SqT.of htt, rfl, _, _, rfl, _, _, rfl, rfl, ?_⟩
    obtain ⟨⟨ep3, ho3⟩, pR, nR⟩ := id RI3
    have hs3 := k02.s
    have hlR := Paired.length pR
    have nos := hs.fresh (fr o List.mem_cons_self)
    have kn := rowsG_nodup hlR rok.1
    refine ⟨_, rfl, rfl, _, rfl, ?_⟩
    refine ite2 (fun h1 => ?_) (fun h1 => ?_)
    · refine ⟨_, rfl, o, _, ep3, rfl, ho3, fun D hD => ?_⟩
      refine lc_it walk_g (fun i Hi => Same H3 Hi ∧ ∃ ps : List Addr, Hi D = some (.lst (ps.map V.ref)) ∧ Paired (fun p (g : GRow) => Hi p = some (.tup [g.2.1, g.2.2])) ps (((rowsG rows bs).take i).filter fun x => !decide (x.1 = .num 0))) ⟨same_new hD, [], upd_same, .nil⟩ (fun i Hi _ p => p.1 _ _ ho3) ?_ ?_
      · rintro i x Hq Hi hi ⟨sm, ps, hDi, pp⟩ ⟨rfl, g, hg, rfl⟩
        obtain ⟨r, ra, hr1, hra1, rfl⟩ := rowsG_inv hg
        have hpl := Paired.length pp
        have hfl : (((rowsG rows bs).take i).filter fun x => !decide (x.1 = .num 0)).length ≤ 1000 := by
          have h2 := List.length_filter_le (fun x : GRow => !decide (x.1 = .num 0)) ((rowsG rows bs).take i)
          rw [List.length_take, rowsG_len hlR] at h2
          have := rb.1
          omega
        refine ⟨rfl, ⟨_, rfl, rfl, _, rfl, ?_⟩⟩
        by_cases e : r.1 = 0
        · rw [decide_eq_true (by rw [e])]
          refine iteF ⟨sm, ps, hDi, ?_⟩
          rw [List.take_add_one, hg, List.filter_append, Option.toList_some, List.filter_cons, if_neg (by simp [e]), List.filter_nil, List.append_nil]
          exact pp
        · rw [decide_eq_false (by intro z; injection z with z; exact e z)]
          refine iteT ⟨_, rfl, _, rfl, _, rfl, o, _, ep3, .num r.1, _, rfl, sm _ _ ho3, KeyAt.int _ r.1, rowsG_ok _, getG_at kn hg, by show 2 ≤ sizeLine; decide, fun t ht => ?_⟩
          have nDt : D ≠ t := ne_of_none hDi ht
          refine ⟨ps.map V.ref, by rw [upd_ne nDt]; exact hDi, by rw [List.length_map, hpl]; exact Nat.lt_of_le_of_lt hfl (by decide), same_wr (sm.trans (same_new ht)) hD, ps ++ [t], by rw [upd_same, List.map_append]; rfl, ?_⟩
          rw [List.take_add_one, hg, List.filter_append, Option.toList_some, List.filter_cons, if_pos (by simp [e]), List.filter_nil]
          refine Paired.snoc (pp.mono fun p g h => ?_) ?_
          · have n1 : p ≠ D := fun q => by rw [q, hDi] at h; cases h
            rw [upd_ne n1, upd_ne (ne_of_none h ht)]
            exact h
          · rw [upd_ne nDt.symm, upd_same]
      · rintro Hi ⟨sm, ps, hDi, pp⟩
        rw [List.take_of_length_le (Nat.le_refl _)] at pp
        obtain ⟨as', rows', ef, pf, f1, f2⟩ := rows_filter (.num 0) pR
        rw [ef] at pp
        have kn' : ((rowsG rows' as').map (·.1)).Nodup := by
          rw [← ef]
          exact ((List.filter_sublist).map _).nodup kn
        refine ⟨D, ps, _, rfl, hDi, pp, rowsG_ok _, fun p ep5 hp => ?_⟩
        rw [mergeG_nil kn']
        have hp0 := (k02.same sm).free hp
        have sp := same_new (o := GO w p (rowsG rows' as') ep5) hp
        have s3p := sm.trans sp
        have hasb : ∀ b ∈ bs, ∃ o, H3 b = some o := fun b hb => by
          obtain ⟨j, hj⟩ := List.mem_iff_getElem?.mp hb
          obtain ⟨r, _, xs, ep, g, _⟩ := Paired.at pR hj
          exact ⟨_, g⟩
        refine q _ p rows' ((k02.same sm).same sp) ⟨as', ⟨⟨ep5, upd_same⟩, pf.mono fun ra r h => h.keep (Tups.of_same s3p) fun o e => s3p _ _ e, ?_⟩, fun b hb => ?_⟩ ⟨(f2.map _).nodup rok.1, fun r hr => rok.2.1 r (f2.subset hr), by have := f2.length_le; have := rok.2.2; omega⟩ ⟨by have := f2.length_le; have := rb.1; omega, fun r hr => by have := rb.2 r (f2.subset hr); omega⟩
        · rw [List.nodup_cons]
          refine ⟨fun hm => ?_, f1.nodup (List.nodup_cons.mp nR).2⟩
          obtain ⟨o, ho⟩ := hasb p (f1.subset hm)
          rw [sm.free hp] at ho
          cases ho
        · rcases List.mem_cons.mp hb with rfl | hb
          · exact hp0
          · exact fr b (List.mem_cons_of_mem _ (f1.subset hb))
    refine ⟨_, rfl, rfl, _, rfl, ?_⟩
    refine ite2 (fun h2 => ?_) (fun h2 => ?_)
    · have ek : kind = "letter" := by simpa using of_decide_eq_true h2
      subst ek
      refine ⟨_, rfl, sa, 1000, rfl, hs3, by decide, fun H4 n k4 d4 => ?_⟩
      refine ⟨_, rfl, by show 1 ≤ sizeLine; decide, fun t1 ht1 => ⟨by show 2 ≤ sizeLine; decide, fun t2 ht2 => ⟨_, rfl, by show 1 ≤ sizeLine; decide, fun t5 ht5 => ⟨by show 1 ≤ sizeLine; decide, fun t6 ht6 => ⟨_, rfl, by show 1 ≤ sizeLine; decide, fun t7 ht7 => ⟨by show 1 ≤ sizeLine; decide, fun t8 ht8 =>
        ⟨_, rfl, by show 2 ≤ sizeLine; decide, fun t9 ht9 => ⟨by show 2 ≤ sizeLine; decide, fun t10 ht10 => ⟨by show 9 ≤ sizeLine; decide, fun l hl => ?_⟩⟩⟩⟩⟩⟩⟩⟩⟩
      have a1 := same_new (o := .tup [.bl true]) ht1
      have a2 := same_new (o := .tup [.bl false, .non]) ht2
      have a5 := same_new (o := .tup [.str "Lost"]) ht5
      have a6 := same_new (o := .tup [.str ""]) ht6
      have a7 := same_new (o := .tup [.int n]) ht7
      have a8 := same_new (o := .tup [.ref t7]) ht8
      have a9 := same_new (o := .tup [.int n, .str "x"]) ht9
      have a10 := same_new (o := .tup [.non, .bl true]) ht10
      have al := same_new (o := .lst [.ref t1, .ref t2, .int n, .str "lost", .ref t5, .ref t6, .ref t8, .ref t9, .ref t10]) hl
      have b10 := a10.trans al
      have b9 := a9.trans b10
      have b8 := a8.trans b9
      have b7 := a7.trans b8
      have b6 := a6.trans b7
      have b5 := a5.trans b6
      have b2 := a2.trans b5
      have b1 := a1.trans b2
      have c1 := b2 _ _ (upd_same (a := t1) (o := .tup [.bl true]))
      have c2 := b5 _ _ (upd_same (a := t2) (o := .tup [.bl false, .non]))
      have c5 := b6 _ _ (upd_same (a := t5) (o := .tup [.str "Lost"]))
      have c6 := b7 _ _ (upd_same (a := t6) (o := .tup [.str ""]))
      have c7 := b8 _ _ (upd_same (a := t7) (o := .tup [.int n]))
      have c8 := b9 _ _ (upd_same (a := t8) (o := .tup [.ref t7]))
      have c9 := b10 _ _ (upd_same (a := t9) (o := .tup [.int n, .str "x"]))
      have c10 := al _ _ (upd_same (a := t10) (o := .tup [.non, .bl true]))
      have k9 : Kp sa H3 _ := k4.same b1
      have k9s := k9.s
      refine ⟨sa, l, _, rfl, k9s, SqL.of upd_same, (k4.same (((((((a1.trans a2).trans a5).trans a6).trans a7).trans a8).trans a9).trans a10)).s.fresh hl, by simp, by show 9 ≤ 1000000; decide, fun H6 v6 k6 hm6 => ?_⟩
      obtain ⟨odd, kod, fod⟩ : ∃ d, KV H6 d v6 ∧ Flat d := by
        have tk := k6.tups k9s
        simp only [List.mem_cons, List.mem_nil_iff, or_false] at hm6
        rcases hm6 with rfl | rfl | rfl | rfl | rfl | rfl | rfl | rfl | rfl
        · exact ⟨.tup [.bl true], .tup (tk _ _ c1) (.cons (.bl _) .nil), flat_tup (by simp [nks, nk, NestedKey.depthAll, NestedKey.depth]) (by simp) (by simp)⟩
        · exact ⟨.tup [.bl false, .non], .tup (tk _ _ c2) (.cons (.bl _) (.cons .non .nil)), flat_tup (by simp [nks, nk, NestedKey.depthAll, NestedKey.depth]) (by simp) (by simp)⟩
        · exact ⟨.int _, .int _, flat_int _⟩
        · exact ⟨.str _, .str _, flat_str _⟩
        · exact ⟨.tup [.str "Lost"], .tup (tk _ _ c5) (.cons (.str _) .nil), flat_tup (by simp [nks, nk, NestedKey.depthAll, NestedKey.depth]) (by simp) (by simp)⟩
        · exact ⟨.tup [.str ""], .tup (tk _ _ c6) (.cons (.str _) .nil), flat_tup (by simp [nks, nk, NestedKey.depthAll, NestedKey.depth]) (by simp) (by simp)⟩
        · exact ⟨.tup [.tup [.int n]], .tup (tk _ _ c8) (.cons (.tup (tk _ _ c7) (.cons (.int _) .nil)) .nil), flat_tup (by simp [nks, nk, NestedKey.depthAll, NestedKey.depth]) (by simp) (by simp)⟩
        · exact ⟨.tup [.int n, .str "x"], .tup (tk _ _ c9) (.cons (.int _) (.cons (.str _) .nil)), flat_tup (by simp [nks, nk, NestedKey.depthAll, NestedKey.depth]) (by simp) (by simp)⟩
        · exact ⟨.tup [.non, .bl true], .tup (tk _ _ c10) (.cons .non (.cons (.bl _) .nil)), flat_tup (by simp [nks, nk, NestedKey.depthAll, NestedKey.depth]) (by simp) (by simp)⟩
      have k36 : Kp sa H3 H6 := k9.trans k6
      clear c1 c2 c5 c6 c7 c8 c9 c10 b1 b2 b5 b6 b7 b8 b9 b10 a1 a2 a5 a6 a7 a8 a9 a10 al hm6 k9s k9 ht1 ht2 ht5 ht6 ht7 ht8 ht9 ht10 hl k6
      have ho6 : H6 o = some (GO w o (rowsG rows bs) ep3) := k36.k _ _ nos ho3
      refine ⟨_, rfl, _, rfl, _, rfl, _, rfl, o, _, ep3, rows.map (·.1), rfl, ho6, rowsG_vals hlR, fun ns2 q2 p3 p4 hq2 => ?_⟩
      have hnl2 := p3.length_eq
      rw [List.length_map] at hnl2
      have k6q := Kp.new (o := .lst (ns2.map V.int)) k36.s hq2
      refine ⟨sa, q2, _, rfl, k6q.s, SqL.of upd_same, k36.s.fresh hq2, by intro e; have := congrArg List.length e; rw [List.length_map, List.length_nil] at this; omega, by rw [List.length_map]; have := rb.1; omega, fun H7 v7 k7 hm7 => ?_⟩
      obtain ⟨tg, _, rfl⟩ := List.mem_map.mp hm7
      refine ⟨by show 2 ≤ sizeLine; decide, fun t11 ht11 => ⟨by show 2 ≤ sizeLine; decide, fun t12 ht12 => ⟨by show 1 ≤ sizeLine; decide, fun l2 hl2 => ?_⟩⟩⟩
      have d1 := same_new (o := .tup [.int n, .int tg]) ht11
      have d2 := same_new (o := .tup [v6, .ref t11]) ht12
      have d3 := same_new (o := .lst [.ref t12]) hl2
      have k68 := ((k6q.trans k7).same ((d1.trans d2).trans d3))
      have k38 := k36.trans k68
      have f11 := (d2.trans d3) _ _ (upd_same (a := t11) (o := .tup [.int n, .int tg]))
      have f12 := d3 _ _ (upd_same (a := t12) (o := .tup [v6, .ref t11]))
      have fl2 := (upd_same (H := upd (upd H7 t11 (.tup [.int n, .int tg])) t12 (.tup [v6, .ref t11])) (a := l2) (o := .lst [V.ref t12]))
      have kod8 := kod.mono (k68.tups k36.s)
      generalize upd (upd (upd H7 t11 (.tup [V.int n, V.int tg])) t12 (.tup [v6, V.ref t11])) l2 (.lst [V.ref t12]) = H8 at k68 k38 f11 f12 fl2 kod8
      have RI8 : RowsIn w H8 o bs rows := RI3.keep (k38.tups hs3) fun b hb e => k38.k b e (hs.fresh (fr b hb))
      obtain ⟨⟨ep8, ho8⟩, pR8, nR8⟩ := id RI8
      rcases rows_get (s := st) pR8 with ⟨row, ra, g1, g2, g3, ⟨xs, ep9, hra, pe⟩, g5⟩ | ⟨_, _, g3⟩
      rotate_left
      · exact absurd hst g3
      have rok1 := rok.2.1 _ g5
      have kx := ents_nodup pe rok1
      have kox := ents_ok pe rok1
      have hlx := Paired.length pe
      have h1000 : List.length row ≤ N := rb.2 _ g5
      refine ⟨_, rfl, _, rfl, o, _, ep8, .num st, _, rfl, ho8, KeyAt.int _ st, rowsG_ok _, g2, ra, xs, ep9, rfl, hra, fun D hD => ?_⟩
      refine lc_it walk_g (fun j Hj => Same H8 Hj ∧ ∃ ps : List Addr, Hj D = some (.lst (ps.map V.ref)) ∧ Paired (fun p (g : GRow) => Hj p = some (.tup [g.2.1, g.2.2])) ps (xs.take j)) ⟨same_new hD, [], upd_same, .nil⟩ (fun j Hj _ p => p.1 _ _ hra) ?_ ?_
      · rintro j z Hq Hj hj ⟨sm2, ps, hDj, pp⟩ ⟨rfl, g, hg, rfl⟩
        have kg : KeyAt Hj g.1 g.2.1 := (kox g (List.mem_of_getElem? hg)).mono (Tups.of_same sm2)
        refine ⟨rfl, ⟨_, rfl, _, rfl, _, rfl, o, _, ep8, .num st, _, rfl, sm2 _ _ ho8, KeyAt.int _ st, rowsG_ok _, g2, _, rfl, ra, xs, ep9, g.1, g.2.2, rfl, sm2 _ _ hra, kg, kox.mono (Tups.of_same sm2), getG_at kx hg, by show 2 ≤ sizeLine; decide, fun t ht => ?_⟩⟩
        have nDt : D ≠ t := ne_of_none hDj ht
        have hpl := Paired.length pp
        refine ⟨ps.map V.ref, by rw [upd_ne nDt]; exact hDj, ?_, same_wr (sm2.trans (same_new ht)) hD, ps ++ [t], by rw [upd_same, List.map_append]; rfl, ?_⟩
        · rw [List.length_map, hpl, List.length_take]
          exact Nat.lt_of_le_of_lt (by omega : _ ≤ 1000) (by decide)
        · rw [List.take_add_one, hg]
          refine Paired.snoc (pp.mono fun p g h => ?_) ?_
          · have n1 : p ≠ D := fun q => by rw [q, hDj] at h; cases h
            rw [upd_ne n1, upd_ne (ne_of_none h ht)]
            exact h
          · rw [upd_ne nDt.symm, upd_same]
      · rintro Hj ⟨sm2, ps, hDj, pp⟩
        rw [List.take_of_length_le (Nat.le_refl _)] at pp
        have hpl := Paired.length pp
        refine ⟨l2, D, _, _, rfl, rfl, sm2 _ _ fl2, hDj, by rw [List.length_map, hpl]; exact Nat.le_trans (by simp; omega : _ ≤ 1000) (by decide), fun c hc => ?_⟩
        have sc := same_new (o := .lst ([V.ref t12] ++ ps.map V.ref)) hc
        have s8c := sm2.trans sc
        have ppc : Paired (fun p (g : GRow) => upd Hj c (.lst ([V.ref t12] ++ ps.map V.ref)) p = some (.tup [g.2.1, g.2.2])) (t12 :: ps) ((nk odd, v6, .ref t11) :: xs) := .cons (s8c _ _ f12) (pp.mono fun p g h => sc _ _ h)
        refine ⟨c, t12 :: ps, (nk odd, v6, .ref t11) :: xs, rfl, upd_same, ppc, fun x hx => ?_, fun p ep10 hp => ?_⟩
        · rcases List.mem_cons.mp hx with rfl | hx
          · exact (kod8.mono (Tups.of_same s8c)).at_ fod
          · exact (kox x hx).mono (Tups.of_same s8c)
        have sp := same_new (o := GO w p (mergeG [] ((nk odd, v6, .ref t11) :: xs)) ep10) hp
        have s8p := s8c.trans sp
        have RIp : RowsIn w (upd (upd Hj c (.lst ([V.ref t12] ++ ps.map V.ref))) p (GO w p (mergeG [] ((nk odd, v6, .ref t11) :: xs)) ep10)) o bs rows := RI8.keep (Tups.of_same s8p) fun b _ o e => s8p b o e
        have hp8 : H8 p = none := s8c.free hp
        have nop : o ≠ p := ne_of_none ho8 hp8
        refine ⟨_, rfl, _, rfl, o, _, ep8, .num st, rfl, s8p _ _ ho8, KeyAt.int _ st, rowsG_ok _, by rw [rowsG_len hlR]; have := rb.1; exact Nat.lt_of_le_of_lt (by omega : _ ≤ 1000) (by decide), fun ep11 => ?_⟩
        generalize hHp : upd (upd Hj c (.lst ([V.ref t12] ++ ps.map V.ref))) p (GO w p (mergeG [] ((nk odd, v6, V.ref t11) :: xs)) ep10) = Hp' at s8p RIp
        have hpp : Hp' p = some (GO w p (mergeG [] ((nk odd, v6, .ref t11) :: xs)) ep10) := by rw [← hHp, upd_same]
        have hop := s8p _ _ ho8
        have tw : Tups Hp' (upd Hp' o (GO w o (putG (rowsG rows bs) (.num st) (.int st) (.ref p)) ep11)) := fun b ys e => by
          rw [upd_ne (fun q => by rw [q, hop] at e; cases e)]
          exact e
        have tt8 : Tups H8 (upd Hp' o (GO w o (putG (rowsG rows bs) (.num st) (.int st) (.ref p)) ep11)) := (Tups.of_same s8p).trans tw
        obtain ⟨mk1, mk2⟩ := mergeE_ok (more := (odd, .int n, tg) :: row) rowOk_nil (fun r hr => by
          rcases List.mem_cons.mp hr with rfl | hr
          · exact ⟨fod, .inr ⟨n, rfl⟩⟩
          · exact rok1.2.1 r hr) (by simp; omega)
        rw [List.length_nil, List.length_cons] at mk2
        obtain ⟨bs', RI9, hb9⟩ := RIp.store (p := p) (st := st) (row := mergeE [] ((odd, .int n, tg) :: row)) (ep := ep11) (H' := upd Hp' o (GO w o (putG (rowsG rows bs) (.num st) (.int st) (.ref p)) ep11)) rok (fun hm => by
            rcases List.mem_cons.mp hm with hm | hm
            · exact nop hm.symm
            · obtain ⟨j, hj⟩ := List.mem_iff_getElem?.mp hm
              obtain ⟨r, _, xs, ep, g, _⟩ := Paired.at pR8 hj
              rw [hp8] at g
              cases g) ⟨_, ep10, by rw [upd_ne nop.symm]; exact hpp, ents_merge (.cons ⟨rfl, kod8.mono tt8, .tup (tt8 _ _ f11) (.cons (.int _) (.cons (.int _) .nil))⟩ (ents_mono tt8 pe)) .nil⟩ tw (fun b u hb e => by
            have n1 : b ≠ o := fun q => (List.nodup_cons.mp nR8).1 (q ▸ hb)
            rw [upd_ne n1]
            exact e) upd_same
        refine ⟨_, rfl, rfl, _, rfl, ?_⟩
        refine iteF ⟨_, rfl, ?_⟩
        have k0p : Kp sa H (upd Hp' o (GO w o (putG (rowsG rows bs) (.num st) (.int st) (.ref p)) ep11)) := ((k02.trans k38).same s8p).wr (fr o List.mem_cons_self) nos
        refine q _ o _ k0p ⟨bs', RI9, fun b hb => ?_⟩ (setR_ok rok mk1 (by have := rb.1; omega)) ⟨by have := setR_len rows st (mergeE [] ((odd, .int n, tg) :: row)); have := rb.1; omega, fun r hr => ?_⟩
        · rcases List.mem_cons.mp hb with rfl | hb
          · exact fr b List.mem_cons_self
          · rcases hb9 b hb with hb | rfl
            · exact fr b (List.mem_cons_of_mem _ hb)
            · exact (k02.trans k38).free hp8
        · rcases setR_mem hr with hr | rfl
          · have := rb.2 r hr
            omega
          · show List.length (mergeE [] ((odd, .int n, tg) :: row)) ≤ N + 1
            omega
    refine ⟨_, rfl, rfl, _, rfl, ?_⟩
    refine ite2 (fun h3 => ?_) (fun h3 => ?_)
    · refine ⟨_, rfl, o, _, ep3, rfl, ho3, fun D hD => ?_⟩
      refine lc_it walk_g (fun i Hi => Same H3 Hi ∧ Hi D = some (.lst (((rows.take i).map fun r => if r.1 < 0 then -r.1 else r.1).map V.int))) ⟨same_new hD, upd_same⟩ (fun i Hi _ p => p.1 _ _ ho3) ?_ ?_
      · rintro i x Hq Hi hi ⟨sm, hDi⟩ ⟨rfl, g, hg, rfl⟩
        obtain ⟨r, ra, hr1, hra1, rfl⟩ := rowsG_inv hg
        refine ⟨rfl, ⟨_, rfl, _, rfl, _, hDi, ?_, same_wr sm hD, ?_⟩⟩
        · rw [List.length_map, List.length_map, List.length_take]
          have := rb.1
          exact Nat.lt_of_le_of_lt (by omega : _ ≤ 1000) (by decide)
        · rw [upd_same, List.take_add_one, hr1, List.map_append, List.map_append]
          rfl
      · rintro Hi ⟨sm, hDi⟩
        rw [rowsG_len hlR, List.take_of_length_le (Nat.le_refl _)] at hDi
        refine ⟨D, _, rfl, SqL.of hDi, by rw [List.length_map]; exact hln, fun mx _ _ => ⟨_, _, rfl, rfl, _, rfl, sa, 3, rfl, hs3.same sm, by decide, fun H5 r5 k5 d5 => ⟨_, _, rfl, rfl, ?_⟩⟩⟩
        have k35 : Kp sa H3 H5 := (Kp.of_same hs3 sm).trans k5
        have RI5 : RowsIn w H5 o bs rows := RI3.keep (k35.tups hs3) fun b hb e => k35.k b e (hs.fresh (fr b hb))
        obtain ⟨⟨ep5, ho5⟩, pR5, nR5⟩ := id RI5
        rcases rows_get (s := st) pR5 with ⟨row, ra, g1, g2, g3, ⟨xs, ep9, hra, pe⟩, g5⟩ | ⟨_, _, g3⟩
        rotate_left
        · exact absurd hst g3
        have rok1 := rok.2.1 _ g5
        have kox := ents_ok pe rok1
        have hlx := Paired.length pe
        have h1000 : List.length row ≤ N := rb.2 _ g5
        refine ⟨_, rfl, _, rfl, o, _, ep5, .num st, _, rfl, ho5, KeyAt.int _ st, rowsG_ok _, g2, ra, xs, ep9, rfl, hra, fun l1 hl1 => ?_⟩
        refine ⟨_, _, rfl, rfl, ⟨by decide, by decide, by decide⟩, _, _, rfl, rfl, by show 1 ≤ sizeLine; decide, fun t1 ht1 => ⟨by show 1 ≤ sizeLine; decide, fun l3 hl3 => ?_⟩⟩
        have d1 := same_new (o := .lst (xs.map fun r => r.2.1)) hl1
        have d2 := same_new (o := .tup [.int (0 - 10 ^ Int.toNat 31)]) ht1
        have d3 := same_new (o := .lst [.ref t1]) hl3
        have fl1 := (d2.trans d3) _ _ (upd_same (H := H5) (a := l1) (o := .lst (xs.map fun r => r.2.1)))
        refine ⟨l1, l3, _, _, rfl, rfl, fl1, upd_same, by rw [List.length_map]; exact Nat.le_trans (by simp; omega : _ ≤ 1000) (by decide), fun lt hlt => ?_⟩
        have d4 := same_new (o := .lst ((xs.map fun r => r.2.1) ++ [V.ref t1])) hlt
        have s56 := ((d1.trans d2).trans d3).trans d4
        have ft1 := (d3.trans d4) _ _ (upd_same (a := t1) (o := .tup [.int (0 - 10 ^ Int.toNat 31)]))
        have flt := (upd_same (H := upd (upd (upd H5 l1 (.lst (xs.map fun r => r.2.1))) t1 (.tup [.int (0 - 10 ^ Int.toNat 31)])) l3 (.lst [.ref t1])) (a := lt) (o := .lst ((xs.map fun r => r.2.1) ++ [V.ref t1])))
        generalize upd (upd (upd (upd H5 l1 (.lst (xs.map fun r => r.2.1))) t1 (.tup [V.int (0 - 10 ^ Int.toNat 31)])) l3 (.lst [V.ref t1])) lt (.lst ((xs.map fun r => r.2.1) ++ [V.ref t1])) = H6 at s56 ft1 flt
        refine ⟨_, rfl, _, rfl, _, rfl, _, _, rfl, rfl, by show 2 ≤ sizeLine; decide, fun l2 hl2 => ?_⟩
        have s6s := k5.s.same s56
        have k6 := Kp.new (o := .lst [V.int (mx + 1 + r5), V.int (0 - (mx + 1 + r5))]) s6s hl2
        refine ⟨sa, l2, _, rfl, k6.s, SqL.of upd_same, s6s.fresh hl2, by simp, by show 2 ≤ 1000000; decide, fun H7 v7 k7 hm7 => ?_⟩
        obtain ⟨tg, rfl⟩ : ∃ tg, v7 = .int tg := by
          simp only [List.mem_cons, List.mem_nil_iff, or_false] at hm7
          rcases hm7 with rfl | rfl
          · exact ⟨_, rfl⟩
          · exact ⟨_, rfl⟩
        refine ⟨by show 2 ≤ sizeLine; decide, fun t2 ht2 => ?_⟩
        have d5 := same_new (o := .tup [.non, .int tg]) ht2
        have k68 := (k6.trans k7).same d5
        have k58 := (Kp.of_same k5.s s56).trans k68
        have k38 := k35.trans k58
        have ft2 := upd_same (H := H7) (a := t2) (o := .tup [V.non, .int tg])
        generalize upd H7 t2 (.tup [V.non, V.int tg]) = H8 at k68 k58 k38 ft2
        have RI8 : RowsIn w H8 o bs rows := RI3.keep (k38.tups hs3) fun b hb e => k38.k b e (hs.fresh (fr b hb))
        have hraf := fr ra (List.mem_cons_of_mem _ g3)
        have hlt6 : lt ≠ sa := by
          have e6 : H6 lt ≠ none := by rw [flt]; exact fun z => nomatch z
          intro z
          obtain ⟨w1, w2, w3, w4, e⟩ := s6s
          rw [← z, flt] at e
          have e2 := congrArg (fun o : Option HO => match o with | some (.lst l) => l | _ => []) e
          have e3 : V.ref t1 ∈ [V.int w1, .int w2, .int w3, .int w4] := by
            have : V.ref t1 ∈ (xs.map fun r => r.2.1) ++ [V.ref t1] := by simp
            rw [show (xs.map fun r => r.2.1) ++ [V.ref t1] = [V.int w1, .int w2, .int w3, .int w4] from e2] at this
            exact this
          simp at e3
        refine ⟨_, rfl, _, rfl, o, _, ep5, .num st, _, rfl, k58.k _ _ nos ho5, KeyAt.int _ st, rowsG_ok _, g2, ?_⟩
        refine ⟨_, rfl, _, rfl, sa, lt, _, rfl, k68.s, SqL.of (k68.k _ _ hlt6 flt), hlt6, by simp, by simp; omega, fun H9 v9 k9 hm9 => ?_⟩
        have k59 := k58.trans k9
        have k39 := k38.trans k9
        have RI9 : RowsIn w H9 o bs rows := RI3.keep (k39.tups hs3) fun b hb e => k39.k b e (hs.fresh (fr b hb))
        obtain ⟨d, kd, fd'⟩ : ∃ d, KV H9 d v9 ∧ Flat d := by
          rcases List.mem_append.mp hm9 with hm | hm
          · obtain ⟨x, hx, rfl⟩ := List.mem_map.mp hm
            obtain ⟨j, hj⟩ := List.mem_iff_getElem?.mp hx
            obtain ⟨ent, hent, e1, e2, e3⟩ := Paired.at pe hj
            exact ⟨ent.1, e2.mono (k59.tups k35.s), (rok1.2.1 ent (List.mem_of_getElem? hent)).1⟩
          · obtain rfl : v9 = .ref t1 := by simpa using hm
            exact ⟨.tup [.int _], .tup ((k68.trans k9).tups s6s _ _ ft1) (.cons (.int _) .nil), flat_tup (by simp [nks, nk, NestedKey.depthAll, NestedKey.depth]) (by simp) (by simp)⟩
        have hra9 : H9 ra = some (GO w ra xs ep9) := k59.k _ _ (hs.fresh hraf) hra
        have pe9 := ents_mono (k59.tups k35.s) pe
        refine ⟨ra, xs, ep9, nk d, rfl, hra9, kd.at_ fd', ents_ok pe9 rok1, Nat.lt_of_le_of_lt (by omega : xs.length ≤ 1000) (by decide), fun ep10 => ⟨_, rfl, ?_⟩⟩
        have tw : Tups H9 (upd H9 ra (GO w ra (putG xs (nk d) v9 (.ref t2)) ep10)) := fun b ys e => by
          rw [upd_ne (fun q => by rw [q, hra9] at e; cases e)]
          exact e
        have ft29 := k9.tups k68.s _ _ ft2
        have rok16 := setE_ok (dg := .non) (t := tg) rok1 fd' (.inl rfl) (by show List.length row < 1000; omega)
        have hget : (rowsGet rows st).isSome = true := by rw [g1]; rfl
        refine q _ o _ ((k02.trans k39).wr hraf (hs.fresh hraf)) ⟨bs, RI9.change' rok g2 ⟨_, ep10, upd_same, ents_put (ents_mono tw pe9) (kd.mono tw) (.tup (tw _ _ ft29) (.cons .non (.cons (.int _) .nil)))⟩ tw fun b o n e => by rw [upd_ne n]; exact e, fr⟩ (setR_ok rok rok16 (by have := rb.1; omega)) ⟨by rw [setR_len' hget]; have := rb.1; omega, fun r hr => ?_⟩
        rcases setR_mem hr with hr | rfl
        · have := rb.2 r hr
          omega
        · have := setE_len row d .non tg
          show List.length (setE row d .non tg) ≤ N + 1
          have h2 : List.length row ≤ N := h1000
          omega
    exact ⟨_, rfl, q H3 o rows k02 ⟨bs, RI3, fr⟩ rok ⟨by have := rb.1; omega, fun r hr => by have := rb.2 r hr; omega⟩⟩
end
end K29
end

section
set_option Elab.async false
set_option linter.all false
set_option maxRecDepth 100000
set_option maxHeartbeats 4000000
namespace K29
open PySem PySem.Spec PyProof.Rows L2 L2H GX
/-! ### rearranged tables -/
theorem rowGet_iff {row : GX.Row} {k : NK} {r : KD × KD × Int} (n : (row.map fun r => nk r.1).Nodup) : rowGet row k = some r ↔ r ∈ row ∧ nk r.1 = k := by
  constructor
  · intro h
    exact ⟨rowGet_mem h, by simpa using List.find?_some h⟩
  · rintro ⟨h, e⟩
    induction row with
    | nil => simp at h
    | cons x row ih =>
      rw [List.map_cons, List.nodup_cons] at n
      unfold rowGet
      rw [List.find?_cons]
      rcases List.mem_cons.mp h with rfl | h
      · rw [decide_eq_true e]
      · have ne : ¬ nk x.1 = k := fun z => n.1 (List.mem_map.mpr ⟨r, h, by rw [e, z]⟩)
        rw [decide_eq_false ne]
        exact ih n.2 h
theorem rowGet_perm {r1 r2 : GX.Row} (p : r1.Perm r2) (o : RowOk r2) (k : NK) : rowGet r1 k = rowGet r2 k := by
  have n1 := (RowOk.perm p o).1
  cases h : rowGet r1 k with
  | some r =>
    have := (rowGet_iff n1).mp h
    exact ((rowGet_iff o.1).mpr ⟨p.subset this.1, this.2⟩).symm
  | none =>
    cases g : rowGet r2 k with
    | none => rfl
    | some r =>
      have := (rowGet_iff o.1).mp g
      rw [(rowGet_iff n1).mpr ⟨p.symm.subset this.1, this.2⟩] at h
      cases h
theorem rowsGet_some {rows : Rows} {s : Int} (h : s ∈ rows.map (·.1)) : ∃ row, rowsGet rows s = some row := by
  have : (rowsGet rows s).isSome = true := by
    rw [rowsGet_any]
    obtain ⟨x, hx, e⟩ := List.mem_map.mp h
    exact List.any_eq_true.mpr ⟨x, hx, by simp [e]⟩
  exact Option.isSome_iff_exists.mp this
theorem rowsGet_isSome {rows : Rows} {s : Int} : (rowsGet rows s).isSome = true ↔ s ∈ rows.map (·.1) := by
  constructor
  · intro h
    obtain ⟨row, h⟩ := Option.isSome_iff_exists.mp h
    exact List.mem_map.mpr ⟨_, rowsGet_mem h, rfl⟩
  · intro h
    obtain ⟨row, h⟩ := rowsGet_some h
    rw [h]
    rfl
theorem RowsPerm.get {ms rows : Rows} (p : RowsPerm ms rows) {s : Int} {r1 : GX.Row} (h : rowsGet ms s = some r1) : ∃ row, rowsGet rows s = some row ∧ r1.Perm row := p.2 (s, r1) (rowsGet_mem h)
theorem RowsPerm.same {ms rows : Rows} (p : RowsPerm ms rows) (s : Int) : (rowsGet ms s).isSome = (rowsGet rows s).isSome := by
  have : (rowsGet ms s).isSome = true ↔ (rowsGet rows s).isSome = true := by
    rw [rowsGet_isSome, rowsGet_isSome]
    exact p.1.mem_iff
  cases h : (rowsGet ms s).isSome <;> cases g : (rowsGet rows s).isSome <;> simp_all
theorem RowsPerm.refl {rows : Rows} (o : RowsOk rows) : RowsPerm rows rows := ⟨.refl _, fun x hx => by
  obtain ⟨i, hi⟩ := List.mem_iff_getElem?.mp hx
  exact ⟨_, rowsGet_at o.1 hi, .refl _⟩⟩
theorem run_perm {ms rows : Rows} (p : RowsPerm ms rows) (o : RowsOk rows) : ∀ (ls : List KD) (s : Int) (out : List KD), runOf ms s ls out = runOf rows s ls out
  | [], _, _ => by rw [runOf, runOf]
  | l :: ls, s, out => by
    rw [runOf, runOf]
    cases h : rowsGet ms s with
    | none =>
      have e := p.same s
      rw [h] at e
      have : rowsGet rows s = none := by
        cases g : rowsGet rows s with
        | none => rfl
        | some r => rw [g] at e; cases e
      rw [this]
    | some r1 =>
      obtain ⟨row, g, pr⟩ := p.get h
      rw [g]
      dsimp only
      rw [rowGet_perm pr (o.2.1 _ (rowsGet_mem g))]
      cases rowGet row (nk l) with
      | none => rfl
      | some r => exact run_perm p o ls _ _
theorem RowsPerm.closed {ms rows : Rows} (p : RowsPerm ms rows) (c : RowsClosed rows) : RowsClosed ms := fun x hx r hr => by
  obtain ⟨row, g, pr⟩ := p.2 x hx
  rw [p.same]
  exact c _ (rowsGet_mem g) r (pr.subset hr)
/-- no fault is due: every target is a state -/
theorem due_none {lag : Int} {rows : Rows} {ns : List Int} (h : dueOf lag rows ns = none) (ord : Order rows ns) (o : RowsOk rows) : RowsClosed rows ∧ (rowsGet rows 0).isSome = true := by
  unfold dueOf at h
  split at h
  · cases h
  split at h
  · cases h
  split at h
  · cases h
  rename_i h0
  have key : ∀ ns : List Int, dueLoop rows ns = none → (∀ s ∈ ns, (rowsGet rows s).isSome = true) → ∀ s ∈ ns, ∀ row, rowsGet rows s = some row → ∀ r ∈ row, (rowsGet rows r.2.2).isSome = true := by
    intro ns
    induction ns with
    | nil => intro _ _ s hs; simp at hs
    | cons st ns ih =>
      intro h hall s hs row hrow r hr
      rw [dueLoop] at h
      obtain ⟨row1, h1⟩ := Option.isSome_iff_exists.mp (hall st List.mem_cons_self)
      rw [h1] at h
      dsimp only at h
      split at h
      · cases h
      split at h
      · cases h
      rename_i h2
      rcases List.mem_cons.mp hs with rfl | hs
      · rw [h1] at hrow
        obtain rfl := Option.some.inj hrow
        cases g : rowsGet rows r.2.2 with
        | some _ => rfl
        | none => exact absurd (List.any_eq_true.mpr ⟨r, hr, by rw [g]; rfl⟩) h2
      · exact ih h (fun s hs => hall s (List.mem_cons_of_mem _ hs)) s hs row hrow r hr
  refine ⟨fun x hx r hr => ?_, ?_⟩
  · have hm : x.1 ∈ ns := ord.1.symm.subset (List.mem_map.mpr ⟨x, hx, rfl⟩)
    obtain ⟨i, hi⟩ := List.mem_iff_getElem?.mp hx
    exact key ns h (fun s hs => rowsGet_isSome.mpr (ord.1.subset hs)) x.1 hm x.2 (rowsGet_at o.1 hi) r hr
  · cases g : rowsGet rows 0 with
    | none => rw [g] at h0; exact absurd rfl h0
    | some _ => rfl
theorem run_outs {rows : Rows} (o : RowsOk rows) : ∀ (ls : List KD) (s : Int) (out outs : List KD), runOf rows s ls out = .inr outs → (∀ d ∈ out, ∃ i, d = .int i) → (∀ d ∈ outs, ∃ i, d = .int i) ∧ outs.length ≤ out.length + ls.length
  | [], s, out, outs, h, f => by
    rw [runOf] at h
    obtain rfl := Sum.inr.inj h
    exact ⟨f, Nat.le_refl _⟩
  | l :: ls, s, out, outs, h, f => by
    rw [runOf] at h
    cases g : rowsGet rows s with
    | none => rw [g] at h; cases h
    | some row =>
      rw [g] at h
      dsimp only at h
      cases g2 : rowGet row (nk l) with
      | none => rw [g2] at h; cases h
      | some r =>
        rw [g2] at h
        dsimp only at h
        have hd := ((o.2.1 _ (rowsGet_mem g)).2.1 r (rowGet_mem g2)).2
        obtain ⟨rl, rd, rt⟩ := r
        dsimp only at h hd
        rcases hd with rfl | ⟨i, rfl⟩
        · obtain ⟨h1, h2⟩ := run_outs o ls _ _ _ h f
          have h2' : outs.length ≤ out.length + ls.length := h2
          exact ⟨h1, by rw [List.length_cons]; omega⟩
        · obtain ⟨h1, h2⟩ := run_outs o ls _ _ _ h fun d hd => by
            rcases List.mem_append.mp hd with hd | hd
            · exact f d hd
            · exact ⟨i, by simpa using hd⟩
          rw [List.length_append] at h2
          exact ⟨h1, by rw [List.length_cons]; simp at h2; omega⟩
/-! ### what _law_same says of them -/
section
variable {w : World} {H : Hp}
theorem kv_base {d : KD} {v u : V} (h : KV H d v) (g : KV H d u) (n : ∀ ds, d ≠ .tup ds) : BaseV v u := by
  cases h with
  | non => cases g; exact ⟨rfl, .inl rfl⟩
  | bl b => cases g; exact ⟨rfl, .inr (.inr (.inr ⟨_, rfl⟩))⟩
  | int i => cases g; exact ⟨rfl, .inr (.inr (.inl ⟨_, rfl⟩))⟩
  | str x => cases g; exact ⟨rfl, .inr (.inl ⟨_, rfl⟩)⟩
  | tup _ _ => exact absurd rfl (n _)
theorem base_same {v u : V} (h : BaseV v u) : ∀ n, SameN w H n v u
  | 0 => h
  | _ + 1 => .inl h
theorem kvs_two {a b c d : V} {R : V → V → Prop} (h1 : R a c) (h2 : R b d) : ∀ (i : Nat) x y, [a, b][i]? = some x → [c, d][i]? = some y → R x y
  | 0, x, y, e, g => by
    obtain rfl := Option.some.inj e
    obtain rfl := Option.some.inj g
    exact h1
  | 1, x, y, e, g => by
    obtain rfl := Option.some.inj e
    obtain rfl := Option.some.inj g
    exact h2
  | i + 2, x, y, e, _ => by simp at e
theorem seqT2 {R : V → V → Prop} {t1 t2 : Addr} {a1 a2 b1 b2 : V} (h1 : H t1 = some (.tup [a1, a2])) (h2 : H t2 = some (.tup [b1, b2])) (r1 : R a1 b1) (r2 : R a2 b2) : SeqSame H R (.ref t1) (.ref t2) :=
  ⟨t1, t2, [a1, a2], [b1, b2], rfl, rfl, rfl, by show 2 ≤ 1000; decide, .inl ⟨h1, h2⟩, kvs_two r1 r2⟩
theorem seqTR {R : V → V → Prop} {t1 t2 : Addr} {l : List V} (h1 : H t1 = some (.tup l)) (h2 : H t2 = some (.tup l)) (hl : l.length ≤ 1000) (r : ∀ x ∈ l, R x x) : SeqSame H R (.ref t1) (.ref t2) :=
  ⟨t1, t2, l, l, rfl, rfl, rfl, hl, .inl ⟨h1, h2⟩, fun i x y hx hy => by
    rw [hx] at hy
    obtain rfl := Option.some.inj hy
    exact r x (List.mem_of_getElem? hx)⟩
theorem str_same (x : Str) (n : Nat) : SameN w H n (.str x) (.str x) := base_same ⟨rfl, .inr (.inl ⟨_, rfl⟩)⟩ n
theorem int_same (i : Int) (n : Nat) : SameN w H n (.int i) (.int i) := base_same ⟨rfl, .inr (.inr (.inl ⟨_, rfl⟩))⟩ n
theorem err_tup (st : Int) (what : Str) : ∀ x ∈ [V.str "BadMachine", .int st, .str what], SameN w H 1 x x := fun x hm => by
  simp only [List.mem_cons, List.mem_nil_iff, or_false] at hm
  rcases hm with rfl | rfl | rfl
  · exact str_same _ 1
  · exact int_same _ 1
  · exact str_same _ 1
theorem same_rows {a b : Addr} {as bs : List Addr} {ms rows : Rows} (h : RowsIn w H b bs ms) (g : RowsIn w H a as rows) (p : RowsPerm ms rows) (om : RowsOk ms) (o : RowsOk rows) : SameN w H 3 (.ref b) (.ref a) := by
  obtain ⟨⟨ep, hb⟩, pb, _⟩ := h
  obtain ⟨⟨ep', ha⟩, pa, _⟩ := g
  have l1 := Paired.length pb
  have l2 := Paired.length pa
  have l3 := p.1.length_eq
  rw [List.length_map, List.length_map] at l3
  have h1000 : rows.length ≤ 1000 := o.2.2
  refine .inr (.inr ⟨b, a, _, _, ep, ep', rfl, rfl, hb, ha, by rw [rowsG_len l1, rowsG_len l2, l3], by rw [rowsG_len l2]; exact h1000, rowsG_ok _, rowsG_ok _, rowsG_nodup l2 o.1, fun y hy => ?_⟩)
  obtain ⟨i, hi⟩ := List.mem_iff_getElem?.mp hy
  obtain ⟨r, ra, e1, e2, rfl⟩ := rowsG_inv hi
  obtain ⟨r', e3, ys, ep2, hya, pya⟩ := Paired.at pa e2
  rw [e1] at e3
  obtain rfl := Option.some.inj e3
  have hst : (rowsGet ms r.1).isSome = true := by
    rw [p.same, rowsGet_at o.1 e1]
    rfl
  obtain ⟨row1, hrow1⟩ := Option.isSome_iff_exists.mp hst
  obtain ⟨row2, hrow2, pr⟩ := p.get hrow1
  rw [rowsGet_at o.1 e1] at hrow2
  obtain rfl := Option.some.inj hrow2
  rcases rows_get (s := r.1) pb with ⟨row, rb, k1, k2, k3, ⟨xs, ep3, hxb, pxb⟩, k5⟩ | ⟨k1, _⟩
  rotate_left
  · rw [hrow1] at k1; cases k1
  rw [hrow1] at k1
  obtain rfl := Option.some.inj k1
  have o2 := o.2.1 _ (List.mem_of_getElem? e1)
  have o1 := RowOk.perm pr o2
  refine ⟨.ref rb, k2, .inr (.inr ⟨rb, ra, xs, ys, ep3, ep2, rfl, rfl, hxb, hya, ?_, ?_, ents_ok pxb o1, ents_ok pya o2, ents_nodup pya o2, fun z hz => ?_⟩)⟩
  · rw [Paired.length pxb, Paired.length pya, pr.length_eq]
  · rw [Paired.length pya]
    exact o2.2.2
  obtain ⟨j, hj⟩ := List.mem_iff_getElem?.mp hz
  obtain ⟨ent, hent, f1, f2, f3⟩ := Paired.at pya hj
  have hem := List.mem_of_getElem? hent
  have ge : rowGet r.2 z.1 = some ent := (rowGet_iff o2.1).mpr ⟨hem, f1.symm⟩
  rw [← rowGet_perm pr o2] at ge
  rcases ents_get (k := z.1) pxb with ⟨r1, v1, q1, q2, q3, q4, q5⟩ | ⟨q1, _⟩
  rotate_left
  · rw [ge] at q1; cases q1
  rw [ge] at q1
  obtain rfl := Option.some.inj q1
  refine ⟨v1, q2, ?_⟩
  obtain ⟨t1, a1, a2, rfl, ht1, ka1, ka2⟩ := q5.two
  obtain ⟨t2, b1, b2, e4, ht2, kb1, kb2⟩ := f3.two
  rw [e4]
  have hdg := (o2.2.1 ent hem).2
  refine .inr (.inl (seqT2 ht1 ht2 (kv_base ka1 kb1 ?_) (kv_base ka2 kb2 (by intro ds e; cases e))))
  intro ds e
  rcases hdg with h | ⟨i, h⟩
  · rw [h] at e; cases e
  · rw [h] at e; cases e
theorem same_res {rows : Rows} {word : List KD} {p p' : Addr} (o : RowsOk rows) (hw : word.length ≤ 1000) (h : ResAt H p (runOf rows 0 word [])) (g : ResAt H p' (runOf rows 0 word [])) : SameN w H 3 (.ref p) (.ref p') := by
  cases e : runOf rows 0 word [] with
  | inl st =>
    rw [e] at h g
    obtain ⟨q, h1, h2⟩ := h
    obtain ⟨q', g1, g2⟩ := g
    exact .inr (.inl (seqT2 h1 g1 (str_same _ 2) (.inr (.inl (seqTR h2 g2 (by show 3 ≤ 1000; decide) (err_tup st "letter"))))))
  | inr outs =>
    obtain ⟨f1, f2⟩ := run_outs o word 0 [] outs e (fun d h => absurd h (by simp))
    rw [e] at h g
    obtain ⟨q, us, h1, h2, h3⟩ := h
    obtain ⟨q', us', g1, g2, g3⟩ := g
    have l1 := KVs.len h3
    have l2 := KVs.len g3
    rw [List.length_nil] at f2
    refine .inr (.inl (seqT2 h1 g1 (str_same _ 2) (.inr (.inl ⟨q, q', us, us', rfl, rfl, by omega, by omega, .inr ⟨h2, g2⟩, fun i x y hx hy => ?_⟩))))
    obtain ⟨d, hd, kx⟩ := h3.at hx
    obtain ⟨d', hd', ky⟩ := g3.at hy
    rw [hd] at hd'
    obtain rfl := Option.some.inj hd'
    obtain ⟨n, rfl⟩ := f1 d (List.mem_of_getElem? hd)
    exact base_same (kv_base kx ky (by intro ds e; cases e)) 1
theorem same_err {p p' p2 : Addr} {e : Err} (h1 : H p = some (.tup [.str "raised", .ref p2])) (h2 : ErrTup H p2 e) {q2 : Addr} (g1 : H p' = some (.tup [.str "raised", .ref q2])) (g2 : ErrTup H q2 e) : SameN w H 3 (.ref p) (.ref p') := by
  refine .inr (.inl (seqT2 h1 g1 (str_same _ 2) ?_))
  cases e with
  | many what => exact .inr (.inl (seqT2 h2 g2 (str_same _ 1) (str_same _ 1)))
  | bad st what => exact .inr (.inl (seqTR h2 g2 (by show 3 ≤ 1000; decide) (err_tup st what)))
end
section
variable {P : Program} {w : World} {K : PySem.W.Frag} {mg : Str → Option Value} {base : Heap}
/-! ### _law_g_grown -/
abbrev s_law_g_grown : Stmt := top 25
theorem sc_law_g_grown : FnScope ["rows", "many", "out", "start", "k"] ["rows", "many"] (defScope s_law_g_grown) := ⟨rfl, rfl, rfl, by decide +kernel, rfl, by decide +kernel, by decide +kernel⟩
def spGrown (w : World) : Sp := fun vs H Q _ => ∃ a as rows many, vs = [.ref a, .int many] ∧ RowsIn w H a as rows ∧ RowsOk rows ∧ rows.length ≤ 100 ∧ 0 ≤ many ∧ many ≤ 401 ∧ ∀ H' p rows', Same H H' → RowsAt w H H' p rows' → RowsOk rows' → Q (.ref p) H'
theorem ok_law_g_grown {f : Addr} {fd : FuncData} (F : L2.Fun K "_law_g_grown" "_law_g_grown" s_law_g_grown f fd) (B : Blt mg) (C_law_g_copy : Has P w K mg base L2.CX0 1 "_law_g_copy" ["rows"] (spCopy w)) : FnOk P w K mg base L2.CX0 2 f fd ["rows", "many"] (spGrown w) := by
  have nd := sc_law_g_grown.nd
  refine F.ok sc_law_g_grown (fun vs H Q E h => ?_) (fun cdv A outer s H vs Q E hr h => ?_)
  · obtain ⟨a, as, rows, many, rfl, _⟩ := h
    rfl
  · obtain ⟨a, as, rows, many, rfl, RI, rok, rl, hm0, hm, q⟩ := h
    refine ⟨_, (pss_cons (ps_par (i := 2) (j := 3) rfl nd rfl rfl (by decide) rfl rfl (pa_cons (pe_hc C_law_g_copy (hr.mono (by decide)) (by rfl) (pa_cons (pv 0) pa_nil)) (pa_cons (pe_op op_pow pe_int pe_int) pa_nil)) (by rfl))
  (pss_cons (ps_for PassesOwn.never rfl (pi_range1 (by rfl) B.range_ (pa_cons (pe_op op_sub (pv 1) (pe_callB (w_len w) (by rfl) B.len_ (by decide +kernel) (pa_cons (pv 2) pa_nil))) pa_nil)) (pgn 4 nd)
  (pss_one (ps_asg (w_new w) (pg_sub (pv 2) (pe_op op_add (pv 3) (pv 4)) (w_set w (hu9 hr))))))
  (pss_one (ps_ret (pv 2))))), ?_⟩
    refine ⟨_, rfl, a, as, rows, rfl, RI, rok, fun H1 o sm1 RA => ?_⟩
    obtain ⟨bs, RI1, fr⟩ := RA
    obtain ⟨⟨ep, ho⟩, pR, nR⟩ := id RI1
    have hl := Paired.length pR
    refine ⟨_, _, rfl, rfl, ⟨by decide, by decide, by decide⟩, _, _, rfl, ?_⟩
    refine ⟨_, rfl, _, rfl, o, _, ep, rfl, ho, _, _, rfl, rfl, _, rfl, by rw [rowsG_len hl]; omega, by rw [rowsG_len hl]; omega, ?_⟩
    rw [rowsG_len hl]
    refine for_it (walk_range (lo := 0) (n := (many - (rows.length : Int)).toNat)) (fun i σ Hi => ∃ bs rows2 x, σ = [some (.ref a), some (.int many), some (.ref o), some (.int (10 ^ Int.toNat 6)), x] ∧ Same H Hi ∧ RowsIn w Hi o bs rows2 ∧ (∀ b ∈ o :: bs, H b = none) ∧ RowsOk rows2 ∧ rows2.length ≤ 100 + i)
      ⟨bs, rows, none, rfl, sm1, RI1, fr, rok, by omega⟩ (fun _ _ _ _ _ => True.intro) ?_ ?_
    · rintro i y σ Hq Hi hi ⟨bs, rows2, x, rfl, sm, RIi, fri, roki, rli⟩ ⟨rfl, rfl⟩
      obtain ⟨⟨ep2, hoi⟩, pRi, nRi⟩ := id RIi
      have hli := Paired.length pRi
      intro p ep3 hp
      have nop : o ≠ p := ne_of_none hoi hp
      have sp := same_new (o := GO w p [] ep3) hp
      refine ⟨_, rfl, _, rfl, _, rfl, _, _, rfl, rfl, o, _, ep2, _, rfl, sp _ _ hoi, KeyAt.int _ _, rowsG_ok _, by rw [rowsG_len hli]; exact Nat.lt_of_le_of_lt (by omega : _ ≤ 1000) (by decide), fun ep4 => ?_⟩
      generalize hgo : GO w o (putG (rowsG rows2 bs) (NestedKey.num (10 ^ Int.toNat 6 + (0 + (i : Nat)))) (V.int (10 ^ Int.toNat 6 + (0 + (i : Nat)))) (V.ref p)) ep4 = go
      have tw : Tups Hi (upd (upd Hi p (GO w p [] ep3)) o go) := fun b xs e => by
        rw [upd_ne (fun q => by rw [q, hoi] at e; cases e)]
        exact sp _ _ e
      obtain ⟨bs', RI3, hb3⟩ := RIi.store (p := p) (st := 10 ^ Int.toNat 6 + (0 + (i : Nat))) (row := []) (ep := ep4) (H' := upd (upd Hi p (GO w p [] ep3)) o go) roki (fun hm => by
          rcases List.mem_cons.mp hm with hm | hm
          · exact nop hm.symm
          · obtain ⟨j, hj⟩ := List.mem_iff_getElem?.mp hm
            obtain ⟨r, _, xs, ep, g, _⟩ := Paired.at pRi hj
            rw [hp] at g
            cases g) ⟨[], ep3, by rw [upd_ne nop.symm, upd_same], .nil⟩ tw (fun b u hb e => by
          have n1 : b ≠ o := fun q => (List.nodup_cons.mp nRi).1 (q ▸ hb)
          rw [upd_ne n1]
          exact sp _ _ e) (by rw [upd_same, hgo])
      refine ⟨bs', _, _, rfl, same_wr (sm.trans sp) (fri o List.mem_cons_self), RI3, fun b hb => ?_, setR_ok roki rowOk_nil (by omega), ?_⟩
      · rcases List.mem_cons.mp hb with rfl | hb
        · exact fri b List.mem_cons_self
        · rcases hb3 b hb with hb | rfl
          · exact fri b (List.mem_cons_of_mem _ hb)
          · exact sm.free hp
      · have := setR_len rows2 (10 ^ Int.toNat 6 + (0 + (i : Nat))) []
        omega
    · rintro σ Hi ⟨bs, rows2, x, rfl, sm, RIi, fri, roki, rli⟩
      exact ⟨_, rfl, q Hi o rows2 sm ⟨bs, RIi, fri⟩ roki⟩
end
end K29
end

section
set_option Elab.async false
set_option linter.all false
set_option maxRecDepth 100000
set_option maxHeartbeats 4000000
namespace K29
open PySem PySem.Spec PyProof.Rows L2 L2H GX
section
variable {P : Program} {w : World} {K : PySem.W.Frag} {mg : Str → Option Value} {base : Heap}
/-- the rows at bs are being emptied -/
def Clr (w : World) (bs : List Addr) (Hc Hi : Hp) : Prop := (∀ b o, b ∉ bs → Hc b = some o → Hi b = some o) ∧ ∀ b ∈ bs, ∃ xs ep, Hi b = some (GO w b xs ep)
theorem Clr.start {td : Addr} {bs : List Addr} {rows : Rows} {H : Hp} (h : RowsIn w H td bs rows) : Clr w bs H H := by
  obtain ⟨_, p, _⟩ := h
  refine ⟨fun _ _ _ e => e, fun b hb => ?_⟩
  obtain ⟨i, hi⟩ := List.mem_iff_getElem?.mp hb
  obtain ⟨r, _, xs, ep, g, _⟩ := Paired.at p hi
  exact ⟨xs, ep, g⟩
theorem Clr.step {bs : List Addr} {Hc Hi : Hp} {b : Addr} {ep : Nat} (h : Clr w bs Hc Hi) (hb : b ∈ bs) : Clr w bs Hc (upd Hi b (GO w b [] ep)) := by
  refine ⟨fun c o n e => ?_, fun c hc => ?_⟩
  · rw [upd_ne (fun z => n (by rw [z]; exact hb))]
    exact h.1 c o n e
  · by_cases e : c = b
    · rw [e, upd_same]
      exact ⟨[], ep, rfl⟩
    · rw [upd_ne e]
      exact h.2 c hc
theorem Clr.kp {sa td : Addr} {bs : List Addr} {H Hc Hi : Hp} {rows : Rows} (h : Clr w bs Hc Hi) (r : RowsIn w Hc td bs rows) (k : Kp sa H Hc) (hs : SAt H sa) (f : ∀ b ∈ bs, H b = none) : Kp sa H Hi := by
  have ns : sa ∉ bs := fun hm => hs.fresh (f _ hm) rfl
  obtain ⟨a, b, c, d, e⟩ := k.s
  exact ⟨⟨a, b, c, d, h.1 _ _ ns e⟩, fun b o n g => h.1 b o (fun hm => by rw [f b hm] at g; cases g) (k.k b o n g)⟩
theorem ResAt.same {H H' : Hp} (s : Same H H') {p : Addr} : ∀ {r : Int ⊕ List KD}, ResAt H p r → ResAt H' p r
  | .inl _, ⟨p2, h1, h2⟩ => ⟨p2, s _ _ h1, s _ _ h2⟩
  | .inr _, ⟨p2, us, h1, h2, h3⟩ => ⟨p2, us, s _ _ h1, s _ _ h2, h3.mono (Tups.of_same s)⟩
abbrev s_law_g_kept : Stmt := top 31
theorem sc_law_g_kept : FnScope ["s", "machine", "lag", "rows", "pool", "words", "k", "turn", "word", "due", "handed", "told", "state", "row"] ["s", "machine", "lag", "rows", "pool"] (defScope s_law_g_kept) := ⟨rfl, rfl, rfl, by decide +kernel, rfl, by decide +kernel, by decide +kernel⟩
def spKept (w : World) (C : Addr) : Sp := fun vs H Q _ => ∃ sa m a pl lag H0 as ms rows pool, vs = [.ref sa, .ref m, .int lag, .ref a, .ref pl] ∧ SAt H sa ∧ MachAt w C H0 H m lag ms ∧ RowsPerm ms rows ∧ RowsOk ms ∧ RowsIn w H a as rows ∧ RowsOk rows ∧ RowsClosed rows ∧ (rowsGet rows 0).isSome ∧
  PoolAt H pl pool ∧ pool ≠ [] ∧ pl ≠ sa ∧ (∀ b, H0 b = none → b ≠ sa) ∧ sa ∉ a :: as ∧ ∀ H', Kp sa H H' → Q (.bl true) H'
theorem RowsIn.kp {sa a : Addr} {as : List Addr} {H H' : Hp} {rows : Rows} (h : RowsIn w H a as rows) (k : Kp sa H H') (hs : SAt H sa) (n : sa ∉ a :: as) : RowsIn w H' a as rows := h.keep (k.tups hs) fun b hb o e => k.k b o (fun z => n (z ▸ hb)) e
theorem MachAt.kp {C sa m : Addr} {H0 H H' : Hp} {lag : Int} {rows : Rows} (h : MachAt w C H0 H m lag rows) (k : Kp sa H H') (hs : SAt H sa) (n : ∀ b, H0 b = none → b ≠ sa) : MachAt w C H0 H' m lag rows := h.keep (k.tups hs) fun b o f e => k.k b o (n b f) e
theorem ok_law_g_kept {f C : Addr} {fd : FuncData} (F : L2.Fun K "_law_g_kept" "_law_g_kept" s_law_g_kept f fd) (B : Blt mg) (C_law_pick : Has P w K mg base L2.CX0 1 "_law_pick" ["s", "many"] spPick) (C_law_one : Has P w K mg base L2.CX0 2 "_law_one" ["s", "things"] (spOne K))
    (C_law_same : Has P w K mg base L2.CX0 4 "_law_same" ["answer", "due"] (spSame w 3)) (M_lag : HasM P w K mg base L2.CX0 1 C "lag" ["self"] (spLag w C)) (M_states : HasM P w K mg base L2.CX0 1 C "states" ["self"] (spStates w C)) (M_rows : HasM P w K mg base L2.CX0 2 C "rows" ["self"] (spRows w C))
    (C_law_g_own : Has P w K mg base L2.CX0 1 "_law_g_own" ["rows", "letters"] (spOwn K w)) (C_law_g_written : Has P w K mg base L2.CX0 4 "_law_g_written" ["machine", "letters"] (spWritten K w C)) : FnOk P w K mg base L2.CX0 5 f fd ["s", "machine", "lag", "rows", "pool"] (spKept w C) := by
  have nd := sc_law_g_kept.nd
  refine F.ok sc_law_g_kept (fun vs H Q E h => ?_) (fun cdv A outer s H vs Q E hr h => ?_)
  · obtain ⟨sa, m, a, pl, lag, H0, as, ms, rows, pool, rfl, _⟩ := h
    rfl
  · obtain ⟨sa, m, a, pl, lag, H0, as, ms, rows, pool, rfl, hs, MA, pm, om, RI, rok, rcl, r0, ⟨⟨us, hpl, kv⟩, hg, hpl4⟩, hpne, nps, nh0, nas, q⟩ := h
    refine ⟨_, (pss_cons (ps_setLc (i := 5) (own := [("turn", 7)]) rfl nd rfl rfl (sw_true rfl rfl rfl (by kernel_rfl)) (pi_range1 (by rfl) B.range_ (pa_cons pe_int pa_nil)) (blkOk_by (by kernel_rfl)) (fun _ _ _ _ _ => (pgn 7 nd)) (fun _ _ _ _ _ => pts_nil) (fun _ _ _ _ _ => (pe_lc (own := [("k", 6)]) rfl nd (pi_range1 (by rfl) B.range_ (pa_cons (pe_hc C_law_pick (hr.mono (by decide)) (by rfl) (pa_cons (pv 0) (pa_cons pe_int pa_nil))) pa_nil)) (blkOk_by (by kernel_rfl)) (fun _ _ _ _ _ => (pgn 6 nd)) (fun _ _ _ _ _ => pts_nil) (fun _ _ _ _ _ => (pe_hc C_law_one (hr.mono (by decide)) (by rfl) (pa_cons (pv 0) (pa_cons (pv 4) pa_nil)))))))
  (pss_cons (ps_for PassesOwn.never rfl (pi_range1 (by rfl) B.range_ (pa_cons pe_int pa_nil)) (pgn 7 nd)
  (pss_cons (ps_if (pt_not (PW.pt (pw_and (pt_val (pe_hc C_law_same (hr.mono (by decide)) (by rfl) (pa_cons (pe_hm0 M_lag (hr.mono (by decide)) (pv 1)) (pa_cons (pv 2) pa_nil)))) (pw_and (pt_val (pe_hc C_law_same (hr.mono (by decide)) (by rfl) (pa_cons (pe_hm0 M_states (hr.mono (by decide)) (pv 1)) (pa_cons (pe_callB (w_len w) (by rfl) B.len_ (by decide +kernel) (pa_cons (pv 3) pa_nil)) pa_nil)))) (pw_and1 (pt_val (pe_hc C_law_same (hr.mono (by decide)) (by rfl) (pa_cons (pe_hm0 M_rows (hr.mono (by decide)) (pv 1)) (pa_cons (pv 3) pa_nil)))))))))
  (pss_one (ps_ret pe_bl))
  pss_nil)
  (pss_cons (ps_for PassesOwn.never rfl (k_pil K (pv 5)) (pgn 8 nd)
  (pss_cons (ps_par (i := 9) (j := 10) rfl nd rfl rfl (by decide) rfl rfl (pa_cons (pe_hc C_law_g_own (hr.mono (by decide)) (by rfl) (pa_cons (pv 3) (pa_cons (pv 8) pa_nil))) (pa_cons (pe_callTy (k_list K) (by rfl) B.list_ (by decide +kernel) (pa_cons (pv 8) pa_nil)) pa_nil)) (by rfl))
  (pss_one (ps_if (PW.pt (pw_or (pt_not (pt_val (pe_hc C_law_same (hr.mono (by decide)) (by rfl) (pa_cons (pe_hc C_law_g_written (hr.mono (by decide)) (by rfl) (pa_cons (pv 1) (pa_cons (pv 10) pa_nil))) (pa_cons (pv 9) pa_nil))))) (pw_or1 (pt_cmpR (k_ne K (hu64 hr)) (pv 10) (pv 8) (nomark _)))))
  (pss_one (ps_ret pe_bl))
  pss_nil))))
  (pss_cons (psn 11 nd (pe_hm0 M_rows (hr.mono (by decide)) (pv 1)))
  (pss_cons (ps_for PassesOwn.never rfl (k_pil K (pe_callTy (w_list w) (by rfl) B.list_ (by decide +kernel) (pa_cons (pv 11) pa_nil))) (pgn 12 nd)
  (pss_cons (psn 13 nd (pe_ix (w_ixg w (hu9 hr)) (pv 11) (pv 12) (fun _ _ => rfl)))
  (pss_one (ps_expr (w_gm0 w PySem.F.slot_dict_clear PySem.F.type_dict_clear (w_clear w) (pv 13))))))
  (pss_one (ps_expr (w_gm0 w PySem.F.slot_dict_clear PySem.F.type_dict_clear (w_clear w) (pv 11)))))))))
  (pss_one (ps_ret pe_bl)))), ?_⟩
    have nd' : True := True.intro
    refine ⟨3, rfl, by decide, by decide, fun D hD => ?_⟩
    have nDs := hs.fresh hD
    have usne : us ≠ [] := fun e => by
      have := KVs.len kv
      rw [e] at this
      exact hpne (List.eq_nil_of_length_eq_zero this)
    let WordAt : Hp → Addr → List KD → Prop := fun Hi wl word => (∃ xs, Hi wl = some (.lst xs) ∧ KVs Hi word xs) ∧ (∀ d ∈ word, d ∈ pool) ∧ word.length ≤ 8 ∧ H wl = none ∧ wl ≠ D
    have word_kp : ∀ {A B : Hp} {wl : Addr} {word : List KD}, SAt A sa → Kp sa A B → WordAt A wl word → WordAt B wl word := fun {A B wl word} sA k ⟨⟨xs, h1, h2⟩, h3, h4, h5, h6⟩ =>
      ⟨⟨xs, k.k _ _ (hs.fresh h5) h1, h2.mono (k.tups sA)⟩, h3, h4, h5, h6⟩
    have word_D : ∀ {A : Hp} {wl : Addr} {word : List KD} {l l' : List V}, A D = some (.lst l) → WordAt A wl word → WordAt (upd A D (.lst l')) wl word := fun {A wl word l l'} hAD ⟨⟨xs, h1, h2⟩, h3, h4, h5, h6⟩ =>
      ⟨⟨xs, by rw [upd_ne h6]; exact h1, h2.mono fun b ys e => by rw [upd_ne (fun z => by rw [z, hAD] at e; cases e)]; exact e⟩, h3, h4, h5, h6⟩
    refine lc_it (walk_range (lo := 0) (n := 3)) (fun i Hi => Kp sa H Hi ∧ ∃ (wls : List Addr) (words : List (List KD)), Hi D = some (.lst (wls.map V.ref)) ∧ Paired (fun wl word => WordAt Hi wl word) wls words ∧ wls.length = i)
      ⟨Kp.new hs hD, [], [], upd_same, .nil, rfl⟩ (fun _ _ _ _ => True.intro) ?_ ?_
    · rintro i y Hq Hi hi ⟨kp, wls, words, hDi, pw, hwl⟩ ⟨rfl, rfl⟩
      refine ⟨rfl, ⟨_, rfl, sa, 9, rfl, kp.s, by decide, fun H1 r1 k1 d1 => ⟨_, rfl, by have := d1.1; omega, by have := d1.2; omega, fun D2 hD2 => ?_⟩⟩⟩
      have kp1 := kp.trans k1
      have hD20 := kp1.free hD2
      have nD2s := hs.fresh hD20
      have hD1 := k1.k _ _ nDs hDi
      have nDD2 : D ≠ D2 := ne_of_none hD1 hD2
      have pw1 : Paired (fun wl word => WordAt H1 wl word) wls words := pw.mono fun wl word h => word_kp kp.s k1 h
      have hpl1 := kp1.k _ _ nps hpl
      refine lc_it (walk_range (lo := 0) (n := r1.toNat)) (fun j Hj => Kp sa H1 Hj ∧ ∃ xs word, Hj D2 = some (.lst xs) ∧ KVs Hj word xs ∧ (∀ d ∈ word, d ∈ pool) ∧ word.length = j) ⟨Kp.new k1.s hD2, [], [], upd_same, .nil, fun d h => absurd h (by simp), rfl⟩ (fun _ _ _ _ => True.intro) ?_ ?_
      · rintro j z Hq2 Hj hj ⟨kj, xs, word, hD2j, kvj, hwm, hwl2⟩ ⟨rfl, rfl⟩
        have k0j := kp1.trans kj
        refine ⟨rfl, ⟨_, rfl, _, rfl, sa, pl, us, rfl, kj.s, SqL.of (k0j.k _ _ nps hpl), nps, usne, by have := KVs.len kv; omega, fun H2 v k2 hm => ?_⟩⟩
        obtain ⟨iu, hiu⟩ := List.mem_iff_getElem?.mp hm
        obtain ⟨d, hd, kd⟩ := kv.at hiu
        have hD22 := k2.k _ _ nD2s hD2j
        have tt : Tups H2 (upd H2 D2 (.lst (xs ++ [v]))) := fun b ys e => by
          rw [upd_ne (fun q => by rw [q, hD22] at e; cases e)]
          exact e
        have hxl := KVs.len kvj
        have h9 := d1.2
        refine ⟨xs, hD22, Nat.lt_of_le_of_lt (by omega : xs.length ≤ 1000) (by decide), (kj.trans k2).wr hD2 nD2s, xs ++ [v], word ++ [d], upd_same, ((kvj.mono (k2.tups kj.s)).snoc (kd.mono ((k0j.trans k2).tups hs))).mono tt, fun z hz => ?_, by rw [List.length_append, hwl2]; rfl⟩
        rcases List.mem_append.mp hz with hz | hz
        · exact hwm z hz
        · obtain rfl : z = d := by simpa using hz
          exact List.mem_of_getElem? hd
      · rintro Hj ⟨kj, xs, word, hD2j, kvj, hwm, hwl2⟩
        have hDj := kj.k _ _ nDs hD1
        refine ⟨wls.map V.ref, hDj, by rw [List.length_map, hwl]; exact Nat.lt_of_le_of_lt (by omega : i ≤ 1000) (by decide), (kp1.trans kj).wr hD nDs, wls ++ [D2], words ++ [word], by rw [upd_same, List.map_append]; rfl, ?_, by rw [List.length_append, hwl]; rfl⟩
        have h9 := d1.2
        exact Paired.snoc (pw1.mono fun wl word h => word_D hDj (word_kp k1.s kj h)) (word_D hDj ⟨⟨xs, hD2j, kvj⟩, hwm, by omega, hD20, nDD2.symm⟩)
    · rintro H5 ⟨kp5, wls, words, hD5, pw5, hwl5⟩
      have hlR := Paired.length RI.2.1
      have lms : ms.length = rows.length := by
        have := pm.1.length_eq
        rw [List.length_map, List.length_map] at this
        exact this
      refine ⟨2, rfl, by decide, by decide, for_it (walk_range (lo := 0) (n := 2)) (fun i σ Hi => ∃ x6 x7 x8 x9 x10 x11 x12 x13, σ = [some (.ref sa), some (.ref m), some (.int lag), some (.ref a), some (.ref pl), some (.ref D), x6, x7, x8, x9, x10, x11, x12, x13] ∧ Kp sa H5 Hi)
        ⟨none, none, none, none, none, none, none, none, rfl, Kp.refl kp5.s⟩ (fun _ _ _ _ _ => True.intro) ?_ ?_⟩
      · rintro i y σ Hq Hi hi ⟨x6, x7, x8, x9, x10, x11, x12, x13, rfl, k5⟩ ⟨rfl, rfl⟩
        have k0 := kp5.trans k5
        have MAi := MA.kp k0 hs nh0
        have RIi := RowsIn.kp RI k0 hs nas
        obtain ⟨dx, rd, hm, _⟩ := id MAi
        obtain ⟨⟨epa, hA⟩, _, _⟩ := id RIi
        refine ⟨_, rfl, m, dx, _, rfl, hm, mf_no _ _ (by decide +kernel) (by decide +kernel), H0, m, lag, ms, rfl, MAi, _, rfl, _, _, rfl, int_same _ 3, fun H6 sm6 => ⟨_, rfl, iteT ?_⟩⟩
        refine ⟨_, rfl, m, dx, _, rfl, sm6 _ _ hm, mf_no _ _ (by decide +kernel) (by decide +kernel), H0, m, lag, ms, rfl, MAi.same sm6, _, rfl, a, _, epa, rfl, sm6 _ _ hA, _, _, rfl, by rw [rowsG_len hlR, lms]; exact int_same _ 3, fun H7 sm7 => ⟨_, rfl, iteT ?_⟩⟩
        have sm67 := sm6.trans sm7
        refine ⟨_, rfl, m, dx, _, rfl, sm67 _ _ hm, mf_no _ _ (by decide +kernel) (by decide +kernel), H0, m, lag, ms, rfl, MAi.same sm67, om, fun H8 b sm8 RA8 => ?_⟩
        obtain ⟨bs8, RI8, _⟩ := RA8
        have sm68 := sm67.trans sm8
        refine ⟨_, rfl, _, _, rfl, same_rows RI8 (RIi.keep (Tups.of_same sm68) fun b _ o e => sm68 b o e) pm om rok, fun H9 sm9 => ⟨_, rfl, iteF ?_⟩⟩
        have k9 : Kp sa H5 H9 := k5.same (sm68.trans sm9)
        refine ⟨_, rfl, D, rfl, ⟨_, SqL.of (k9.k _ _ nDs hD5)⟩, for_it (walk_list (xs := wls.map V.ref)) (fun j σ Hj => ∃ x8 x9 x10, σ = [some (.ref sa), some (.ref m), some (.int lag), some (.ref a), some (.ref pl), some (.ref D), x6, some (.int (0 + (i : Nat))), x8, x9, x10, x11, x12, x13] ∧ Kp sa H5 Hj)
          ⟨x8, x9, x10, rfl, k9⟩ (fun j σ Hj _ ⟨_, _, _, _, kj⟩ => SqL.of (kj.k _ _ nDs hD5)) ?_ ?_⟩
        · rintro j v σ Hq2 Hj hj ⟨y8, y9, y10, rfl, kj⟩ ⟨rfl, hv⟩
          have k0j := kp5.trans kj
          have MAj := MA.kp k0j hs nh0
          have RIj := RowsIn.kp RI k0j hs nas
          obtain ⟨wl, hwl, rfl⟩ : ∃ wl, wls[j]? = some wl ∧ v = .ref wl := by
            rw [List.getElem?_map] at hv
            cases e : wls[j]? with
            | none => rw [e] at hv; cases hv
            | some wl => rw [e] at hv; exact ⟨wl, rfl, (Option.some.inj hv).symm⟩
          obtain ⟨word, hword, hwa⟩ := Paired.at pw5 hwl
          obtain ⟨⟨xs, hxs, kvx⟩, hwm, hw8, _, _⟩ := word_kp kp5.s kj hwa
          have flw : ∀ d ∈ word, Flat d := fun d hd => (hg d (hwm d hd)).2
          have gow : ∀ d ∈ word, goodLetter d = true := fun d hd => (hg d (hwm d hd)).1
          refine ⟨_, rfl, _, rfl, a, wl, as, rows, xs, word, rfl, RIj, rok, rcl, r0, SqL.of hxs, kvx, flw, by omega, fun H6 p6 sm6 res6 => ?_⟩
          refine ⟨_, rfl, wl, xs, rfl, .inl (SqL.of (sm6 _ _ hxs)), fun l hl => ⟨_, _, rfl, ?_⟩⟩
          have s6l := sm6.trans (same_new (o := .lst xs) hl)
          have hxl := KVs.len kvx
          refine ⟨_, rfl, _, rfl, H0, m, l, lag, ms, xs, word, rfl, MAj.same s6l, om, pm.closed rcl, by rw [pm.same]; exact r0, SqL.of upd_same, kvx.mono (Tups.of_same s6l), flw, by omega, fun H8 p8 sm8 res8 => ?_⟩
          rw [run_perm pm rok] at res8
          refine ⟨_, rfl, _, _, rfl, same_res rok (by omega) res8 ((res6.same (same_new hl)).same sm8), fun H10 sm10 => ⟨_, rfl, iteF ?_⟩⟩
          have s8 := sm8.trans sm10
          have sall := s6l.trans s8
          refine ⟨_, rfl, _, rfl, _, _, .lst (SqL.of (s8 _ _ upd_same)) (KVs.dps (kvx.mono (Tups.of_same sall))), .lst (SqL.of (sall _ _ hxs)) (KVs.dps (kvx.mono (Tups.of_same sall))), kds_shaped gow flw, kds_shaped gow flw, _, rfl, ?_⟩
          rw [SeqAt.eqv_refl _ (SeqAt.canLay_of_shaped (kds_shaped gow flw))]
          exact iteF ⟨_, _, _, rfl, kj.same sall⟩
        · rintro σ Hj ⟨y8, y9, y10, rfl, kj⟩
          have k0j := kp5.trans kj
          have MAj := MA.kp k0j hs nh0
          obtain ⟨dx, rd, hm, _⟩ := id MAj
          refine ⟨_, rfl, m, dx, _, rfl, hm, mf_no _ _ (by decide +kernel) (by decide +kernel), H0, m, lag, ms, rfl, MAj, om, fun H6 td sm6 RA6 => ?_⟩
          obtain ⟨bs, RI6, fr6⟩ := RA6
          obtain ⟨⟨ept, htd⟩, pT, nT⟩ := id RI6
          have hlT := Paired.length pT
          have knT := rowsG_nodup hlT om.1
          have k06 := k0j.same sm6
          refine ⟨_, rfl, td, _, ept, rfl, htd, fun q1 hq1 => ?_⟩
          have sq := same_new (o := .lst ((rowsG ms bs).map fun r => r.2.1)) hq1
          have k0c := k06.same sq
          have RIc : RowsIn w (upd H6 q1 (.lst ((rowsG ms bs).map fun r => r.2.1))) td bs ms := RI6.keep (Tups.of_same sq) fun b _ o e => sq b o e
          have htdc := sq _ _ htd
          have hqc : (upd H6 q1 (.lst ((rowsG ms bs).map fun r => r.2.1))) q1 = some (.lst ((rowsG ms bs).map fun r => r.2.1)) := upd_same
          have ntd : td ∉ bs := (List.nodup_cons.mp nT).1
          have nq1 : q1 ∉ bs := fun hmem => by
            obtain ⟨j, hj⟩ := List.mem_iff_getElem?.mp hmem
            obtain ⟨r, _, xs, ep, g, _⟩ := Paired.at pT hj
            rw [hq1] at g
            cases g
          have frb : ∀ b ∈ bs, H b = none := fun b hb => k0j.free (fr6 b (List.mem_cons_of_mem _ hb))
          generalize upd H6 q1 (.lst ((rowsG ms bs).map fun r => r.2.1)) = Hc at sq k0c RIc htdc hqc
          refine ⟨q1, rfl, ⟨_, SqL.of hqc⟩, for_it (walk_list (xs := (rowsG ms bs).map fun r => r.2.1)) (fun j σ Hk => ∃ x12 x13, σ = [some (.ref sa), some (.ref m), some (.int lag), some (.ref a), some (.ref pl), some (.ref D), x6, some (.int (0 + (i : Nat))), y8, y9, y10, some (.ref td), x12, x13] ∧ Clr w bs Hc Hk)
            ⟨x12, x13, rfl, Clr.start RIc⟩ (fun j σ Hk _ ⟨_, _, _, c⟩ => SqL.of (c.1 _ _ nq1 hqc)) ?_ ?_⟩
          · rintro j v σ Hq3 Hk hj ⟨z12, z13, rfl, clr⟩ ⟨rfl, hv⟩
            obtain ⟨g, hg2, rfl⟩ : ∃ g, (rowsG ms bs)[j]? = some g ∧ v = g.2.1 := by
              rw [List.getElem?_map] at hv
              cases e : (rowsG ms bs)[j]? with
              | none => rw [e] at hv; cases hv
              | some g => rw [e] at hv; exact ⟨g, rfl, (Option.some.inj hv).symm⟩
            obtain ⟨r, rb, hr1, hrb, rfl⟩ := rowsG_inv hg2
            have hbm := List.mem_of_getElem? hrb
            obtain ⟨xs, ep5, hxb⟩ := clr.2 rb hbm
            refine ⟨_, rfl, _, rfl, td, _, ept, .num r.1, _, rfl, clr.1 _ _ ntd htdc, KeyAt.int _ r.1, rowsG_ok _, getG_at knT hg2, ?_⟩
            refine ⟨_, rfl, ⟨rb, xs, ep5, rfl, hxb⟩, rb, xs, ep5, rfl, rfl, hxb, fun ep6 => ⟨_, _, rfl, clr.step hbm⟩⟩
          · rintro σ Hk ⟨z12, z13, rfl, clr⟩
            have htk := clr.1 _ _ ntd htdc
            refine ⟨_, rfl, ⟨td, _, ept, rfl, htk⟩, td, _, ept, rfl, rfl, htk, fun ep6 => ⟨_, _, _, _, _, _, _, _, rfl, ?_⟩⟩
            have k5c : Kp sa H5 Hc := (kj.same sm6).same sq
            have frb5 : ∀ b ∈ bs, H5 b = none := fun b hb => kj.free (fr6 b (List.mem_cons_of_mem _ hb))
            have ftd : H5 td = none := kj.free (fr6 td List.mem_cons_self)
            exact (clr.kp RIc k5c kp5.s frb5).wr ftd (kp5.s.fresh ftd)
      · rintro σ Hi ⟨x6, x7, x8, x9, x10, x11, x12, x13, rfl, k5⟩
        exact q Hi (kp5.trans k5)
end
end K29
end

section
set_option Elab.async false
set_option linter.all false
set_option maxRecDepth 100000
set_option maxHeartbeats 4000000
namespace K29
open PySem PySem.Spec PyProof.Rows L2 L2H GX
theorem order_exists (rows : Rows) : ∃ ns, Order rows ns := by
  refine ⟨(rows.map (·.1)).mergeSort (fun a b => decide (a ≤ b)), List.mergeSort_perm _ _, ?_⟩
  have := List.pairwise_mergeSort (le := fun a b : Int => decide (a ≤ b)) (fun a b c h1 h2 => by simp at *; omega) (fun a b => by simp; omega) (rows.map (·.1))
  exact this.imp fun h => by simpa using h
def Names5 : List Str := ["lag", "states", "missing", "letter", "state"]
theorem names_ok : ∀ z ∈ Names5, PyData.strOk z = true := by decide +kernel
theorem strs_can : ∀ {zs : List Str}, (∀ z ∈ zs, PyData.strOk z = true) → PyData.canLayAll0 (zs.map PyData.str) = true
  | [], _ => by simp [PyData.canLayAll0]
  | z :: zs, h => by
    rw [List.map_cons, PyData.canLayAll0, PyData.canLay0, h z List.mem_cons_self, strs_can fun y hy => h y (List.mem_cons_of_mem _ hy)]
    rfl
theorem strs_depth : ∀ zs : List Str, PyData.depthAll (zs.map PyData.str) = 0
  | [] => by simp [PyData.depthAll]
  | z :: zs => by rw [List.map_cons, PyData.depthAll, PyData.depth, strs_depth zs]; rfl
theorem strs_shaped {zs : List Str} (h : ∀ z ∈ zs, z ∈ Names5) : SeqAt.shaped (.list (zs.map PyData.str)) = true := by
  unfold SeqAt.shaped
  rw [PyData.canLay0, strs_can fun z hz => names_ok z (h z hz), PyData.depth, strs_depth]
  rfl
theorem str_shaped {z : Str} (h : z ∈ Names5) : SeqAt.shaped (.str z) = true := by
  unfold SeqAt.shaped
  rw [PyData.canLay0, names_ok z h, PyData.depth]
  rfl
theorem strs_dp {K : PySem.W.Frag} {H : Hp} : ∀ zs : List Str, DpAll K H (zs.map V.str) (zs.map PyData.str)
  | [] => .nil
  | z :: zs => .cons (.str z) (strs_dp zs)
section
variable {P : Program} {w : World} {K : PySem.W.Frag} {mg : Str → Option Value} {base : Heap}
abbrev s_law : Stmt := top 32
theorem sc_law : FnScope ["script", "turn", "s", "rows", "pool", "lag", "kinds", "k", "kind", "size", "handed", "due", "told", "state", "row"] ["script"] (defScope s_law) := ⟨rfl, rfl, rfl, by decide +kernel, rfl, by decide +kernel, by decide +kernel⟩
def spLaw (K : PySem.W.Frag) : Sp := fun vs H Q _ => ∃ (a : Addr) (ns : List Int), vs = [.ref a] ∧ SqL K H a (ns.map V.int) ∧ ns.length ≤ 63 ∧ ∀ H', Q (.bl true) H'
theorem RowsAt.kp {sa a : Addr} {H0 H H' : Hp} {rows : Rows} (h : RowsAt w H0 H a rows) (k : Kp sa H H') (hs : SAt H sa) (h0 : SAt H0 sa) : RowsAt w H0 H' a rows := GX.RowsAt.keep h (k.tups hs) fun b o n e => k.k b o (h0.fresh n) e
theorem Clr.tups {td : Addr} {bs : List Addr} {rows : Rows} {Hc Hi : Hp} (h : Clr w bs Hc Hi) (r : RowsIn w Hc td bs rows) : Tups Hc Hi := fun b xs e => h.1 b _ (fun hm => by
  obtain ⟨_, p, _⟩ := r
  obtain ⟨i, hi⟩ := List.mem_iff_getElem?.mp hm
  obtain ⟨r, _, xs, ep, g, _⟩ := Paired.at p hi
  rw [g] at e
  cases e) e
theorem ok_law {f C : Addr} {fd : FuncData} (F : L2.Fun K "law" "law" s_law f fd) (B : Blt mg) (C_law_source : Has P w K mg base L2.CX0 1 "_law_source" ["script", "at"] (spSource K)) (C_law_g_drawn : Has P w K mg base L2.CX0 5 "_law_g_drawn" ["s"] (spDrawn w))
    (C_law_pick : Has P w K mg base L2.CX0 1 "_law_pick" ["s", "many"] spPick) (C_law_one : Has P w K mg base L2.CX0 2 "_law_one" ["s", "things"] (spOne K)) (C_law_g_wrong : Has P w K mg base L2.CX0 3 "_law_g_wrong" ["s", "rows", "kind"] (spWrong w))
    (C_law_g_grown : Has P w K mg base L2.CX0 2 "_law_g_grown" ["rows", "many"] (spGrown w)) (C_law_g_copy : Has P w K mg base L2.CX0 1 "_law_g_copy" ["rows"] (spCopy w)) (C_law_g_due : Has P w K mg base L2.CX0 2 "_law_g_due" ["lag", "rows"] (spDue w))
    (C_law_g_made : Has P w K mg base L2.CX0 8 "_law_g_made" ["lag", "rows"] (spMade w C)) (C_law_same : Has P w K mg base L2.CX0 4 "_law_same" ["answer", "due"] (spSame w 3)) (C_law_g_kept : Has P w K mg base L2.CX0 5 "_law_g_kept" ["s", "machine", "lag", "rows", "pool"] (spKept w C)) :
    FnOk P w K mg base L2.CX0 9 f fd ["script"] (spLaw K) := by
  have nd := sc_law.nd
  refine F.ok sc_law (fun vs H Q E h => ?_) (fun cdv A outer s H vs Q E hr h => ?_)
  · obtain ⟨a, ns, rfl, _⟩ := h
    rfl
  · obtain ⟨a, ns, rfl, ha, hns, q⟩ := h
    refine ⟨_, (pss_cons (ps_for PassesOwn.never rfl (pi_range1 (by rfl) B.range_ (pa_cons pe_int pa_nil)) (pgn 1 nd)
  (pss_cons (psn 2 nd (pe_hc C_law_source (hr.mono (by decide)) (by rfl) (pa_cons (pv 0) (pa_cons (pv 1) pa_nil))))
  (pss_cons (ps_asg (pe_hc C_law_g_drawn (hr.mono (by decide)) (by rfl) (pa_cons (pv 2) pa_nil)) (k_ptup K (pgs_cons (pgn 3 nd) (pgs_cons (pgn 4 nd) pgs_nil))))
  (pss_cons (ps_asg (pe_tup (pa_cons (pe_hc C_law_pick (hr.mono (by decide)) (by rfl) (pa_cons (pv 2) (pa_cons pe_int pa_nil))) (pa_cons (pe_lst (pa_cons pe_str (pa_cons pe_str (pa_cons pe_str (pa_cons pe_str (pa_cons pe_str pa_nil)))))) pa_nil))) (k_ptup K (pgs_cons (pgn 5 nd) (pgs_cons (pgn 6 nd) pgs_nil))))
  (pss_cons (psn 6 nd (pe_lc (own := [("k", 7)]) rfl nd (pi_range1 (by rfl) B.range_ (pa_cons (pe_ix (k_ixl K) (pe_lst (pa_cons pe_int (pa_cons pe_int (pa_cons pe_int pa_nil)))) (pv 1) (fun _ _ => rfl)) pa_nil)) (blkOk_by (by kernel_rfl)) (fun _ _ _ _ _ => (pgn 7 nd)) (fun _ _ _ _ _ => pts_nil) (fun _ _ _ _ _ => (pe_hc C_law_one (hr.mono (by decide)) (by rfl) (pa_cons (pv 2) (pa_cons (pv 6) pa_nil))))))
  (pss_cons (ps_for PassesOwn.never rfl (k_pil K (pv 6)) (pgn 8 nd)
  (pss_one (ps_cut (psn 3 nd (pe_ifExp (pt_truthR (pv 3) (w_tru w) (by intro _; rfl)) (pe_hc C_law_g_wrong (hr.mono (by decide)) (by rfl) (pa_cons (pv 2) (pa_cons (pv 3) (pa_cons (pv 8) pa_nil)))) (pv 3))))))
  (pss_cons (ps_cut (ps_if (pt_cmpR (k_in K (hu65 hr)) pe_str (pv 6) (by rfl))
  (pss_one (psn 5 nd (pe_op op_add pe_int (pe_hc C_law_pick (hr.mono (by decide)) (by rfl) (pa_cons (pv 2) (pa_cons pe_int pa_nil))))))
  pss_nil))
  (pss_cons (ps_cut (ps_if (PW.pt (pw_and (pt_cmpR op_eq (pv 1) pe_int (nomark _)) (pw_and1 (pt_cmpR op_eq (pe_hc C_law_pick (hr.mono (by decide)) (by rfl) (pa_cons (pv 2) (pa_cons pe_int pa_nil))) pe_int (nomark _)))))
  (pss_one (psn 5 nd pe_int))
  pss_nil))
  (pss_cons (ps_cut (psn 9 nd (pe_ifExp (pt_cmpR (k_in K (hu65 hr)) pe_str (pv 6) (by rfl)) pe_int (pe_ifExp (pt_cmpR op_eq (pe_hc C_law_pick (hr.mono (by decide)) (by rfl) (pa_cons (pv 2) (pa_cons pe_int pa_nil))) pe_int (nomark _)) pe_int pe_int))))
  (pss_cons (ps_cut (ps_if (k_truth K (pv 9))
  (pss_one (psn 3 nd (pe_hc C_law_g_grown (hr.mono (by decide)) (by rfl) (pa_cons (pv 3) (pa_cons (pv 9) pa_nil)))))
  pss_nil))
  (pss_cons (ps_cut (ps_par (i := 10) (j := 11) rfl nd rfl rfl (by decide) rfl rfl (pa_cons (pe_hc C_law_g_copy (hr.mono (by decide)) (by rfl) (pa_cons (pv 3) pa_nil)) (pa_cons (pe_hc C_law_g_due (hr.mono (by decide)) (by rfl) (pa_cons (pv 5) (pa_cons (pv 3) pa_nil))) pa_nil)) (by rfl)))
  (pss_cons (ps_cut (psn 12 nd (pe_hc C_law_g_made (hr.mono (by decide)) (by rfl) (pa_cons (pv 5) (pa_cons (pv 10) pa_nil)))))
  (pss_cons (ps_if (pt_not (pt_val (pe_hc C_law_same (hr.mono (by decide)) (by rfl) (pa_cons (pv 10) (pa_cons (pv 3) pa_nil)))))
  (pss_one (ps_ret pe_bl))
  pss_nil)
  (pss_cons (ps_for PassesOwn.never rfl (k_pil K (pe_callTy (w_list w) (by rfl) B.list_ (by decide +kernel) (pa_cons (pv 10) pa_nil))) (pgn 13 nd)
  (pss_cons (psn 14 nd (pe_ix (w_ixg w (hu9 hr)) (pv 10) (pv 13) (fun _ _ => rfl)))
  (pss_one (ps_expr (w_gm0 w PySem.F.slot_dict_clear PySem.F.type_dict_clear (w_clear w) (pv 14))))))
  (pss_one (ps_if (pt_cmpR op_notN (pv 11) pe_non (nomark _))
  (pss_one (ps_if (pt_not (pt_val (pe_hc C_law_same (hr.mono (by decide)) (by rfl) (pa_cons (pv 12) (pa_cons (pe_tup (pa_cons pe_str (pa_cons (pv 11) pa_nil))) pa_nil)))))
  (pss_one (ps_ret pe_bl))
  pss_nil))
  (pss_one (ps_if (PW.pt (pw_or (pt_cmpR op_ne (pe_ix (k_ixt K) (pv 12) pe_int (fun _ _ => rfl)) pe_str (nomark _)) (pw_or1 (pt_not (pt_val (pe_hc C_law_g_kept (hr.mono (by decide)) (by rfl) (pa_cons (pv 2) (pa_cons (pe_ix (k_ixt K) (pv 12) pe_int (fun _ _ => rfl)) (pa_cons (pv 5) (pa_cons (pv 3) (pa_cons (pv 4) pa_nil)))))))))))
  (pss_one (ps_ret pe_bl))
  pss_nil))))))))))))))))))
  (pss_one (ps_ret pe_bl))), ?_⟩
    refine ⟨3, rfl, by decide, by decide, for_it (walk_range (lo := 0) (n := 3)) (fun i σ Hi => ∃ x1 x2 x3 x4 x5 x6 x7 x8 x9 x10 x11 x12 x13 x14, σ = [some (.ref a), x1, x2, x3, x4, x5, x6, x7, x8, x9, x10, x11, x12, x13, x14] ∧ Same H Hi)
      ⟨none, none, none, none, none, none, none, none, none, none, none, none, none, none, rfl, Same.refl _⟩ (fun _ _ _ _ _ => True.intro) ?_ ?_⟩
    rotate_left
    · rintro σ Hi ⟨x1, x2, x3, x4, x5, x6, x7, x8, x9, x10, x11, x12, x13, x14, rfl, sm⟩
      exact q Hi
    rintro i y σ Hq Hi hi ⟨x1, x2, x3, x4, x5, x6, x7, x8, x9, x10, x11, x12, x13, x14, rfl, sm0⟩ ⟨rfl, rfl⟩
    refine ⟨_, rfl, _, rfl, a, ns, _, rfl, sm0.seq ha, hns, by omega, fun H1 sa sm1 hsa s1 => ?_⟩
    have sH1 := sm0.trans sm1
    have hsa0 : H sa = none := sm0.free hsa
    refine ⟨_, rfl, sa, rfl, s1, fun H2 t rp pl rows pool k2 ht RA rok rsm PA pne hplf nplrp => ?_⟩
    refine ⟨t, _, rfl, SqT.of ht, rfl, _, _, rfl, _, _, rfl, rfl, ?_⟩
    have nps := s1.fresh hplf
    refine ⟨_, rfl, sa, 13, rfl, k2.s, by decide, fun H3 r3 k3 d3 => ⟨by show 5 ≤ sizeLine; decide, fun kl hkl => ⟨by show 2 ≤ sizeLine; decide, fun t2 ht2 => ?_⟩⟩⟩
    have skl := same_new (o := .lst [V.str "lag", .str "states", .str "missing", .str "letter", .str "state"]) hkl
    have fkl := (upd_same (H := H3) (a := kl) (o := .lst [V.str "lag", .str "states", .str "missing", .str "letter", .str "state"]))
    generalize upd H3 kl (.lst [V.str "lag", .str "states", .str "missing", .str "letter", .str "state"]) = H3a at skl fkl ht2
    have st2 := same_new (o := .tup [.int r3, .ref kl]) ht2
    have ft2 := (upd_same (H := H3a) (a := t2) (o := .tup [V.int r3, .ref kl]))
    generalize upd H3a t2 (.tup [V.int r3, .ref kl]) = H4 at st2 ft2
    refine ⟨t2, _, rfl, SqT.of ft2, rfl, _, _, rfl, _, _, rfl, rfl, ?_⟩
    have k4 : Kp sa H2 H4 := k3.same (skl.trans st2)
    have fkl4 := st2 _ _ fkl
    have nkl := k3.s.fresh hkl
    have at_i : atI [V.int 0, .int 1, .int 2] ((0 : Int) + (i : Nat)) = some (.int (i : Int)) := by
      obtain rfl | rfl | rfl : i = 0 ∨ i = 1 ∨ i = 2 := by omega
      all_goals rfl
    refine ⟨by show 3 ≤ sizeLine; decide, fun il hil => ⟨_, rfl, il, _, _, _, rfl, rfl, SqL.of upd_same, at_i, _, rfl, by omega, by omega, fun D hD => ?_⟩⟩
    have k4i := Kp.new (o := .lst [V.int 0, .int 1, .int 2]) k4.s hil
    have k24i := k4.trans k4i
    have hDf := k24i.free hD
    have nDs := k2.s.fresh hDf
    refine lc_it (walk_range (lo := 0) (n := (i : Int).toNat)) (fun j Hj => Kp sa H2 Hj ∧ Hj kl = some (.lst [V.str "lag", .str "states", .str "missing", .str "letter", .str "state"]) ∧ ∃ ks : List Str, Hj D = some (.lst (ks.map V.str)) ∧ (∀ z ∈ ks, z ∈ Names5) ∧ ks.length = j)
      ⟨k24i.trans (Kp.new k4i.s hD), ?_, [], upd_same, fun z h => absurd h (by simp), rfl⟩ (fun _ _ _ _ => True.intro) ?_ ?_
    · have := k4i.k _ _ nkl fkl4
      rw [upd_ne (ne_of_none this hD)]
      exact this
    · rintro j z Hq2 Hj hj ⟨kj, hkl5, ks, hDj, hks, hkl6⟩ ⟨rfl, rfl⟩
      refine ⟨rfl, ⟨_, rfl, _, rfl, sa, kl, _, rfl, kj.s, SqL.of hkl5, nkl, by simp, by show 5 ≤ 1000000; decide, fun H6 v k6 hm => ?_⟩⟩
      obtain ⟨z, rfl, hz⟩ : ∃ z, v = .str z ∧ z ∈ Names5 := by
        simp only [List.mem_cons, List.mem_nil_iff, or_false] at hm
        rcases hm with rfl | rfl | rfl | rfl | rfl
        all_goals exact ⟨_, rfl, by decide +kernel⟩
      have hD6 := k6.k _ _ nDs hDj
      have nklD : kl ≠ D := fun q => by
        have e1 := k4i.k _ _ nkl fkl4
        rw [q, hD] at e1
        cases e1
      refine ⟨_, hD6, ?_, (kj.trans k6).wr hDf nDs, by rw [upd_ne nklD]; exact k6.k _ _ nkl hkl5, ks ++ [z], by rw [upd_same, List.map_append]; rfl, fun y hy => ?_, by rw [List.length_append, hkl6]; rfl⟩
      · rw [List.length_map, hkl6]
        exact Nat.lt_of_le_of_lt (by omega : j ≤ 1000) (by decide)
      · rcases List.mem_append.mp hy with hy | hy
        · exact hks y hy
        · obtain rfl : y = z := by simpa using hy
          exact hz
    rintro H5 ⟨k5, _, ks, hD5, hks, hksl⟩
    have hks2 : ks.length ≤ 2 := by omega
    have s2 := k2.s
    have RA5 := RowsAt.kp RA k5 s2 s1
    refine ⟨_, rfl, D, rfl, ⟨_, SqL.of hD5⟩, for_it (walk_list (xs := ks.map V.str)) (fun j σ Hj => ∃ rpj rowsj x7 x8, σ = [some (.ref a), some (.int (0 + (i : Nat))), some (.ref sa), some (.ref rpj), some (.ref pl), some (.int r3), some (.ref D), x7, x8, x9, x10, x11, x12, x13, x14] ∧ Kp sa H2 Hj ∧ Hj D = some (.lst (ks.map V.str)) ∧
      RowsAt w H1 Hj rpj rowsj ∧ RowsOk rowsj ∧ RowsB (8 + j) rowsj) ⟨rp, rows, _, _, rfl, k5, hD5, RA5, rok, rsm⟩ (fun j σ Hj _ ⟨_, _, _, _, _, _, e, _⟩ => SqL.of e) ?_ ?_⟩
    · rintro j z σ Hq2 Hj hj ⟨rpj, rowsj, x7', x8', rfl, kj, hDj, RAj, rokj, rbj⟩ ⟨rfl, hz⟩
      rw [List.length_map] at hj
      obtain ⟨zk, hzk, rfl⟩ : ∃ zk, ks[j]? = some zk ∧ z = .str zk := by
        rw [List.getElem?_map] at hz
        cases e : ks[j]? with
        | none => rw [e] at hz; cases hz
        | some zk => rw [e] at hz; exact ⟨zk, rfl, (Option.some.inj hz).symm⟩
      refine ⟨fun σ Hx => ∃ rpj rowsj x7 x8, σ = [some (.ref a), some (.int (0 + (i : Nat))), some (.ref sa), some (.ref rpj), some (.ref pl), some (.int r3), some (.ref D), x7, x8, x9, x10, x11, x12, x13, x14] ∧ Kp sa H2 Hx ∧ Hx D = some (.lst (ks.map V.str)) ∧
        RowsAt w H1 Hx rpj rowsj ∧ RowsOk rowsj ∧ RowsB (8 + (j + 1)) rowsj, ?_, fun σ' H' h => h⟩
      obtain ⟨asj, RIj, frj⟩ := id RAj
      obtain ⟨⟨epj, hrj⟩, pRj, _⟩ := id RIj
      refine ⟨_, rfl, rpj, _, epj, rfl, hrj, ?_⟩
      by_cases hne : rowsj = []
      · subst hne
        refine iteF ⟨_, rfl, rpj, [], _, _, rfl, kj, hDj, RAj, rokj, ⟨by simp, fun r h => absurd h (by simp)⟩⟩
      · have e1 : (!(rowsG rowsj asj).isEmpty) = true := by
          have hl := rowsG_len (Paired.length pRj)
          cases h : rowsG rowsj asj with
          | nil =>
            rw [h] at hl
            exact absurd (List.eq_nil_of_length_eq_zero hl.symm) hne
          | cons _ _ => rfl
        rw [e1]
        refine iteT ⟨_, rfl, _, rfl, _, rfl, sa, rpj, asj, rowsj, zk, 8 + j, rfl, kj.s, RIj, rokj, rbj, by omega, hne, fun H' p rows' k' RA' rok' rb' => ?_⟩
        refine ⟨p, rows', _, _, rfl, kj.trans k', k'.k _ _ nDs hDj, GX.RowsAt.older RA' fun b hb => k2.free (kj.free hb), rok', by simpa [Nat.add_assoc] using rb'⟩
    rintro σ H6 ⟨rp6, rows6, x7', x8', rfl, k6, hD6, RA6, rok6, rb6⟩
    rw [List.length_map] at rb6
    -- if 'lag' in kinds
    refine ⟨fun σ Hx => ∃ lag, σ = [some (.ref a), some (.int (0 + (i : Nat))), some (.ref sa), some (.ref rp6), some (.ref pl), some (.int lag), some (.ref D), x7', x8', x9, x10, x11, x12, x13, x14] ∧ Kp sa H6 Hx, ?_, ?_⟩
    · refine ⟨_, rfl, _, _, .str "lag", .lst (SqL.of hD6) (strs_dp ks), str_shaped (by decide +kernel), strs_shaped hks, _, rfl, ?_⟩
      cases (ks.map PyData.str).any fun z => PyData.eqv z (.str "lag") with
      | true => exact iteT ⟨_, rfl, sa, 3, rfl, k6.s, by decide, fun H7 r7 k7 d7 => ⟨_, _, rfl, rfl, _, rfl, k7⟩⟩
      | false => exact iteF ⟨_, rfl, Kp.refl k6.s⟩
    rintro σ H6a ⟨lag6, rfl, k6a⟩
    -- if turn == 0 and ..
    refine ⟨fun σ Hx => ∃ lag, σ = [some (.ref a), some (.int (0 + (i : Nat))), some (.ref sa), some (.ref rp6), some (.ref pl), some (.int lag), some (.ref D), x7', x8', x9, x10, x11, x12, x13, x14] ∧ Kp sa H6 Hx, ?_, ?_⟩
    · refine ⟨_, rfl, rfl, _, rfl, ?_⟩
      refine ite2 (fun h1 => ?_) (fun h1 => ?_)
      · refine ⟨_, rfl, sa, 3, rfl, k6a.s, by decide, fun H7 r7 k7 d7 => ⟨rfl, _, rfl, ?_⟩⟩
        refine ite2 (fun h2 => ?_) (fun h2 => ?_)
        · exact ⟨12, rfl, k6a.trans k7⟩
        · exact ⟨lag6, rfl, k6a.trans k7⟩
      · exact ⟨lag6, rfl, k6a⟩
    rintro σ H6b ⟨lag, rfl, k6b⟩
    -- size
    refine ⟨fun σ Hx => ∃ sz, σ = [some (.ref a), some (.int (0 + (i : Nat))), some (.ref sa), some (.ref rp6), some (.ref pl), some (.int lag), some (.ref D), x7', x8', some (.int sz), x10, x11, x12, x13, x14] ∧ Kp sa H6 Hx ∧ 0 ≤ sz ∧ sz ≤ 401, ?_, ?_⟩
    · refine ⟨_, rfl, _, _, .str "states", .lst (SqL.of (k6b.k _ _ nDs hD6)) (strs_dp ks), str_shaped (by decide +kernel), strs_shaped hks, _, rfl, ?_⟩
      cases (ks.map PyData.str).any fun z => PyData.eqv z (.str "states") with
      | true => exact iteT ⟨_, rfl, k6b, by decide, by decide⟩
      | false =>
        refine iteF ⟨_, rfl, sa, 8, rfl, k6b.s, by decide, fun H7 r7 k7 d7 => ⟨rfl, _, rfl, ?_⟩⟩
        refine ite2 (fun h2 => ?_) (fun h2 => ?_)
        · exact ⟨_, rfl, k6b.trans k7, by decide, by decide⟩
        · exact ⟨_, rfl, k6b.trans k7, by decide, by decide⟩
    rintro σ H6c ⟨sz, rfl, k6c, sz0, sz1⟩
    have RA6c := RowsAt.kp RA6 k6c k6.s s1
    -- if size
    refine ⟨fun σ Hx => ∃ rp7 rows7, σ = [some (.ref a), some (.int (0 + (i : Nat))), some (.ref sa), some (.ref rp7), some (.ref pl), some (.int lag), some (.ref D), x7', x8', some (.int sz), x10, x11, x12, x13, x14] ∧ Kp sa H2 Hx ∧ RowsAt w H1 Hx rp7 rows7 ∧ RowsOk rows7, ?_, ?_⟩
    · refine ⟨_, rfl, _, rfl, ?_⟩
      cases (sz != 0) with
      | false => exact iteF ⟨rp6, rows6, rfl, k6.trans k6c, RA6c, rok6⟩
      | true =>
        obtain ⟨as6, RI6, _⟩ := id RA6c
        have := rb6.1
        refine iteT ⟨_, rfl, _, rfl, rp6, as6, rows6, sz, rfl, RI6, rok6, by omega, sz0, sz1, fun H' p rows' sm RA' rok' => ⟨p, rows', rfl, (k6.trans k6c).same sm, GX.RowsAt.older RA' fun b hb => k2.free ((k6.trans k6c).free hb), rok'⟩⟩
    rintro σ H7 ⟨rp7, rows7, rfl, k7, RA7, rok7⟩
    obtain ⟨ord, hord⟩ := order_exists rows7
    obtain ⟨as7, RI7, fr7⟩ := id RA7
    -- handed, due = ..
    refine ⟨fun σ Hx => ∃ hp dv, σ = [some (.ref a), some (.int (0 + (i : Nat))), some (.ref sa), some (.ref rp7), some (.ref pl), some (.int lag), some (.ref D), x7', x8', some (.int sz), some (.ref hp), some dv, x12, x13, x14] ∧ Same H7 Hx ∧ RowsAt w H7 Hx hp rows7 ∧
      ((∃ e dp, dueOf lag rows7 ord = some e ∧ dv = .ref dp ∧ ErrTup Hx dp e) ∨ (dueOf lag rows7 ord = none ∧ dv = .non)), ?_, ?_⟩
    · refine ⟨_, rfl, rp7, as7, rows7, rfl, RI7, rok7, fun H8 hp sm8 RA8 => ?_⟩
      refine ⟨_, rfl, _, rfl, lag, rp7, as7, rows7, ord, rfl, RI7.keep (Tups.of_same sm8) fun b _ o e => sm8 b o e, rok7, hord, fun e he H9 p sm9 et => ⟨_, _, rfl, hp, _, rfl, sm8.trans sm9, GX.RowsAt.same RA8 sm9, .inl ⟨e, p, he, rfl, et⟩⟩,
        fun hn H9 sm9 => ⟨_, _, rfl, hp, _, rfl, sm8.trans sm9, GX.RowsAt.same RA8 sm9, .inr ⟨hn, rfl⟩⟩⟩
    rintro σ H8 ⟨hp, dv, rfl, sm8, RA8, hdv⟩
    obtain ⟨bs8, RI8, fr8⟩ := id RA8
    -- told = ..
    refine ⟨fun σ Hx => ∃ tp, σ = [some (.ref a), some (.int (0 + (i : Nat))), some (.ref sa), some (.ref rp7), some (.ref pl), some (.int lag), some (.ref D), x7', x8', some (.int sz), some (.ref hp), some dv, some (.ref tp), x13, x14] ∧ Same H8 Hx ∧
      ((∃ e p2, dueOf lag rows7 ord = some e ∧ Hx tp = some (.tup [.str "raised", .ref p2]) ∧ ErrTup Hx p2 e) ∨ (dueOf lag rows7 ord = none ∧ ∃ m ms, Hx tp = some (.tup [.str "let", .ref m]) ∧ MachAt w C H8 Hx m lag ms ∧ RowsPerm ms rows7 ∧ RowsOk ms)), ?_, ?_⟩
    · exact ⟨_, rfl, _, rfl, lag, hp, bs8, rows7, ord, rfl, RI8, rok7, hord, fun e he H9 p p2 sm9 h1 h2 => ⟨p, rfl, sm9, .inl ⟨e, p2, he, h1, h2⟩⟩, fun hn H9 p m ms sm9 h1 h2 h3 h4 => ⟨p, rfl, sm9, .inr ⟨hn, m, ms, h1, h2, h3, h4⟩⟩⟩
    rintro σ H9 ⟨tp, rfl, sm9, htp⟩
    have RIh9 : RowsIn w H9 hp bs8 rows7 := RI8.keep (Tups.of_same sm9) fun b _ o e => sm9 b o e
    have s79 := sm8.trans sm9
    have RIr9 : RowsIn w H9 rp7 as7 rows7 := RI7.keep (Tups.of_same s79) fun b _ o e => s79 b o e
    refine ⟨_, rfl, _, rfl, _, _, rfl, same_rows RIh9 RIr9 (RowsPerm.refl rok7) rok7 rok7, fun H10 sm10 => ⟨_, rfl, iteF ?_⟩⟩
    have RIh10 : RowsIn w H10 hp bs8 rows7 := RIh9.keep (Tups.of_same sm10) fun b _ o e => sm10 b o e
    obtain ⟨⟨eph, hhp⟩, pH, nH⟩ := id RIh10
    have hlH := Paired.length pH
    have knH := rowsG_nodup hlH rok7.1
    refine ⟨_, rfl, hp, _, eph, rfl, hhp, fun q1 hq1 => ?_⟩
    have sq := same_new (o := .lst ((rowsG rows7 bs8).map fun r => r.2.1)) hq1
    have RIc : RowsIn w (upd H10 q1 (.lst ((rowsG rows7 bs8).map fun r => r.2.1))) hp bs8 rows7 := RIh10.keep (Tups.of_same sq) fun b _ o e => sq b o e
    have htdc := sq _ _ hhp
    have hqc : (upd H10 q1 (.lst ((rowsG rows7 bs8).map fun r => r.2.1))) q1 = some (.lst ((rowsG rows7 bs8).map fun r => r.2.1)) := upd_same
    have ntd : hp ∉ bs8 := (List.nodup_cons.mp nH).1
    have nq1 : q1 ∉ bs8 := fun hmem => by
      obtain ⟨j, hj⟩ := List.mem_iff_getElem?.mp hmem
      obtain ⟨r, _, xs, ep, g, _⟩ := Paired.at pH hj
      rw [hq1] at g
      cases g
    generalize upd H10 q1 (.lst ((rowsG rows7 bs8).map fun r => r.2.1)) = Hc at sq RIc htdc hqc
    have s8c := (sm9.trans sm10).trans sq
    have s7c := sm8.trans s8c
    refine ⟨q1, rfl, ⟨_, SqL.of hqc⟩, for_it (walk_list (xs := (rowsG rows7 bs8).map fun r => r.2.1)) (fun j σ Hk => ∃ x13 x14, σ = [some (.ref a), some (.int (0 + (i : Nat))), some (.ref sa), some (.ref rp7), some (.ref pl), some (.int lag), some (.ref D), x7', x8', some (.int sz), some (.ref hp), some dv, some (.ref tp), x13, x14] ∧ Clr w bs8 Hc Hk)
      ⟨x13, x14, rfl, Clr.start RIc⟩ (fun j σ Hk _ ⟨_, _, _, c⟩ => SqL.of (c.1 _ _ nq1 hqc)) ?_ ?_⟩
    · rintro j v σ Hq3 Hk hj ⟨z12, z13, rfl, clr⟩ ⟨rfl, hv⟩
      obtain ⟨g, hg2, rfl⟩ : ∃ g, (rowsG rows7 bs8)[j]? = some g ∧ v = g.2.1 := by
        rw [List.getElem?_map] at hv
        cases e : (rowsG rows7 bs8)[j]? with
        | none => rw [e] at hv; cases hv
        | some g => rw [e] at hv; exact ⟨g, rfl, (Option.some.inj hv).symm⟩
      obtain ⟨r, rb, hr1, hrb, rfl⟩ := rowsG_inv hg2
      have hbm := List.mem_of_getElem? hrb
      obtain ⟨xs, ep5, hxb⟩ := clr.2 rb hbm
      refine ⟨_, rfl, _, rfl, hp, _, eph, .num r.1, _, rfl, clr.1 _ _ ntd htdc, KeyAt.int _ r.1, rowsG_ok _, getG_at knH hg2, ?_⟩
      refine ⟨_, rfl, ⟨rb, xs, ep5, rfl, hxb⟩, rb, xs, ep5, rfl, rfl, hxb, fun ep6 => ⟨_, _, rfl, clr.step hbm⟩⟩
    rintro σ Hk ⟨z12, z13, rfl, clr⟩
    have s71 : SAt H7 sa := k7.s
    have fr8b : ∀ b ∈ bs8, H7 b = none := fun b hb => fr8 b (List.mem_cons_of_mem _ hb)
    have k7k : Kp sa H7 Hk := clr.kp RIc (Kp.of_same s71 s7c) s71 fr8b
    have tck := clr.tups RIc
    have k0k : Same H Hk := same_kp sH1 hsa0 ((k2.trans k7).trans k7k)
    have hdvk : (∃ e dp, dueOf lag rows7 ord = some e ∧ dv = .ref dp ∧ ErrTup Hk dp e) ∨ (dueOf lag rows7 ord = none ∧ dv = .non) := by
      rcases hdv with ⟨e, dp, h1, h2, h3⟩ | h
      · refine .inl ⟨e, dp, h1, h2, ?_⟩
        have h4 := h3.same s8c
        cases e with
        | many what => exact tck _ _ h4
        | bad st what => exact tck _ _ h4
      · exact .inr h
    have s9c := sm10.trans sq
    refine ⟨_, rfl, rfl, _, rfl, ?_⟩
    rcases hdvk with ⟨e, dp, he, rfl, het⟩ | ⟨hn, rfl⟩
    · refine iteT ?_
      rcases htp with ⟨e', p2, he', h1, h2⟩ | ⟨hn, _⟩
      rotate_left
      · rw [he] at hn; cases hn
      rw [he] at he'
      obtain rfl := Option.some.inj he'
      have h1k := tck _ _ (s9c _ _ h1)
      have h2k : ErrTup Hk p2 e := by
        have h4 := h2.same s9c
        cases e with
        | many what => exact tck _ _ h4
        | bad st what => exact tck _ _ h4
      refine ⟨_, rfl, _, rfl, by show 2 ≤ sizeLine; decide, fun t9 ht9 => ?_⟩
      have s9 := same_new (o := .tup [.str "raised", .ref dp]) ht9
      refine ⟨_, _, rfl, same_err (s9 _ _ h1k) (h2k.same s9) upd_same (het.same s9), fun H11 sm11 => ⟨_, rfl, iteF ?_⟩⟩
      exact ⟨_, _, _, _, _, _, _, _, _, _, _, _, _, _, rfl, k0k.trans (s9.trans sm11)⟩
    · refine iteF ?_
      rcases htp with ⟨e', p2, he', _⟩ | ⟨_, m, ms, h1, MA, pm, om⟩
      · rw [hn] at he'; cases he'
      have h1k := tck _ _ (s9c _ _ h1)
      obtain ⟨rcl, r0⟩ := due_none hn hord rok7
      refine ⟨_, rfl, tp, _, _, _, rfl, rfl, SqT.of h1k, rfl, rfl, _, rfl, iteF ?_⟩
      have MAk : MachAt w C H8 Hk m lag ms := (MA.same s9c).keep tck fun b o n e => clr.1 b o (fun hm => by
        obtain ⟨j, hj⟩ := List.mem_iff_getElem?.mp hm
        obtain ⟨r, _, xs, ep, g, _⟩ := Paired.at RI8.2.1 hj
        rw [n] at g
        cases g) e
      have RIk : RowsIn w Hk rp7 as7 rows7 := (RI7.keep (Tups.of_same s7c) fun b _ o e => s7c b o e).keep tck fun b hb o e => clr.1 b o (fun hm => by
        have h7 : H7 b = none := fr8b b hm
        rcases List.mem_cons.mp hb with rfl | hb
        · obtain ⟨⟨_, g⟩, _⟩ := RI7
          rw [h7] at g
          cases g
        · obtain ⟨j, hj⟩ := List.mem_iff_getElem?.mp hb
          obtain ⟨r, _, xs, ep, g, _⟩ := Paired.at RI7.2.1 hj
          rw [h7] at g
          cases g) e
      have PAk : PoolAt Hk pl pool := by
        obtain ⟨⟨us, hu, kv⟩, hg, hl⟩ := PA
        have k2k := k7.trans k7k
        exact ⟨⟨us, k2k.k _ _ nps hu, kv.mono (k2k.tups s2)⟩, hg, hl⟩
      refine ⟨_, rfl, _, rfl, tp, _, _, _, rfl, rfl, SqT.of h1k, rfl, _, rfl, _, rfl, _, rfl, sa, m, rp7, pl, lag, H8, as7, ms, rows7, pool, rfl, k7k.s, MAk, pm, om, RIk, rok7, rcl, r0, PAk, pne, nps, fun b hb => ?_, fun hm => ?_, fun H11 k11 => ⟨_, rfl, iteF ?_⟩⟩
      · exact (s71.same sm8).fresh hb
      · have := fr7 sa hm
        exact s1.fresh this rfl
      · exact ⟨_, _, _, _, _, _, _, _, _, _, _, _, _, _, rfl, same_kp k0k hsa0 k11⟩
end
end K29
end

section
set_option Elab.async false
set_option linter.all false
set_option maxRecDepth 100000
set_option maxHeartbeats 4000000
namespace K29
open PySem PySem.Spec PyProof.Rows L2 L2H GX
theorem all_mk {l : PySem.W.OpenLaw} {w : World} {K : PySem.W.Frag} {h : Heap} {mg : Str → Option Value} {fa CA CM CB C f1 f2 f3 f4 f5 f6 f7 f8 f9 f10 f11 f12 f13 f14 f15 f16 f17 f18 f19 f20 f21 f22 f23 f24 f25 f26 f27 f28 f29 f30 f31 f32 f33 : Addr} {od1 an1 od2 an2 od3 an3 od4 an4 od5 an5 od6 an6 od7 an7 od8 an8 od9 an9 od10 an10 od11 an11 od12 an12 od13 an13 od14 an14 od15 an15 od16 an16 od17 an17 od18 an18 od19 an19 od20 an20 od21 an21 od22 an22 od23 an23 od24 an24 od25 an25 od26 an26 od27 an27 od28 an28 od29 an29 od30 an30 od31 an31 od32 an32 od33 an33 : Option Addr} {sl1 sl2 sl3 sl4 sl5 sl6 sl7 sl8 sl9 sl10 sl11 sl12 sl13 sl14 sl15 sl16 sl17 sl18 sl19 sl20 sl21 sl22 sl23 sl24 sl25 sl26 sl27 sl28 sl29 sl30 sl31 sl32 sl33 : Array (Option Value)} {oc1 kV1 dc1 pm1 cd1 ct1 oc2 kV2 dc2 pm2 cd2 ct2 oc3 kV3 dc3 pm3 cd3 ct3 oc4 kV4 dc4 pm4 cd4 ct4 oc5 kV5 dc5 pm5 cd5 ct5 oc6 kV6 dc6 pm6 cd6 ct6 oc7 kV7 dc7 pm7 cd7 ct7 oc8 kV8 dc8 pm8 cd8 ct8 oc9 kV9 dc9 pm9 cd9 ct9 oc10 kV10 dc10 pm10 cd10 ct10 oc11 kV11 dc11 pm11 cd11 ct11 oc12 kV12 dc12 pm12 cd12 ct12 oc13 kV13 dc13 pm13 cd13 ct13 oc14 kV14 dc14 pm14 cd14 ct14 oc15 kV15 dc15 pm15 cd15 ct15 oc16 kV16 dc16 pm16 cd16 ct16 oc17 kV17 dc17 pm17 cd17 ct17 oc18 kV18 dc18 pm18 cd18 ct18 oc19 kV19 dc19 pm19 cd19 ct19 oc20 kV20 dc20 pm20 cd20 ct20 oc21 kV21 dc21 pm21 cd21 ct21 oc22 kV22 dc22 pm22 cd22 ct22 oc23 kV23 dc23 pm23 cd23 ct23 oc24 kV24 dc24 pm24 cd24 ct24 oc25 kV25 dc25 pm25 cd25 ct25 oc26 kV26 dc26 pm26 cd26 ct26 oc27 kV27 dc27 pm27 cd27 ct27 oc28 kV28 dc28 pm28 cd28 ct28 oc29 kV29 dc29 pm29 cd29 ct29 oc30 kV30 dc30 pm30 cd30 ct30 oc31 kV31 dc31 pm31 cd31 ct31 oc32 kV32 dc32 pm32 cd32 ct32 oc33 kV33 dc33 pm33 cd33 ct33 : Value} {tk1 tk2 : Tok} {nmCM qCM : Str} {NCM : Addr} {bsCM : List Value} {snCM : List Str} {subCM : List Value} {abCM : Bool} {colCM : Option Bool} {ddCM : Option Addr} {m0CM m1CM m2CM m3CM m5CM : Option Value} {nmCB qCB : Str} {NCB : Addr} {bsCB : List Value} {snCB : List Str} {subCB : List Value} {abCB : Bool} {colCB : Option Bool} {ddCB : Option Addr} {m0CB m1CB m2CB m3CB m5CB : Option Value}
    (X : K.In h) (G : h.Ns mainGlobals mg) (hfa : mg "law" = some (.ref fa))
    (aCA : PySem.W.nsIn K mainGlobals "AnyRootError" = some (some (.ref CA)))
    (aCM : PySem.W.nsIn K mainGlobals "TooMany" = some (some (.ref CM)))
    (aCB : PySem.W.nsIn K mainGlobals "BadMachine" = some (some (.ref CB)))
    (aC : PySem.W.nsIn K mainGlobals "Machine" = some (some (.ref C)))
    (g1 : PySem.W.nsIn K mainGlobals "sign_key" = some (some (.ref f1)))
    (l1 : K.lookup f1 = some ⟨oc1, od1, .func (PySem.W.fnOf "sign_key" "sign_key" (defArgs s_sign_key) (defBody s_sign_key) (defScope s_sign_key) .none kV1 dc1 pm1 an1 cd1 ct1), sl1⟩)
    (c1 : PySem.W.codeIn K cd1 "sign_key" = true)
    (k1 : PySem.W.keepIn K (.ref f1) = true)
    (g2 : PySem.W.nsIn K mainGlobals "letter_key" = some (some (.ref f2)))
    (l2 : K.lookup f2 = some ⟨oc2, od2, .func (PySem.W.fnOf "letter_key" "letter_key" (defArgs s_letter_key) (defBody s_letter_key) (defScope s_letter_key) .none kV2 dc2 pm2 an2 cd2 ct2), sl2⟩)
    (c2 : PySem.W.codeIn K cd2 "letter_key" = true)
    (k2 : PySem.W.keepIn K (.ref f2) = true)
    (g3 : PySem.W.nsIn K mainGlobals "is_sign" = some (some (.ref f3)))
    (l3 : K.lookup f3 = some ⟨oc3, od3, .func (PySem.W.fnOf "is_sign" "is_sign" (defArgs s_is_sign) (defBody s_is_sign) (defScope s_is_sign) .none kV3 dc3 pm3 an3 cd3 ct3), sl3⟩)
    (c3 : PySem.W.codeIn K cd3 "is_sign" = true)
    (k3 : PySem.W.keepIn K (.ref f3) = true)
    (g4 : PySem.W.nsIn K mainGlobals "is_letter" = some (some (.ref f4)))
    (l4 : K.lookup f4 = some ⟨oc4, od4, .func (PySem.W.fnOf "is_letter" "is_letter" (defArgs s_is_letter) (defBody s_is_letter) (defScope s_is_letter) .none kV4 dc4 pm4 an4 cd4 ct4), sl4⟩)
    (c4 : PySem.W.codeIn K cd4 "is_letter" = true)
    (k4 : PySem.W.keepIn K (.ref f4) = true)
    (g5 : PySem.W.nsIn K mainGlobals "_law_source" = some (some (.ref f5)))
    (l5 : K.lookup f5 = some ⟨oc5, od5, .func (PySem.W.fnOf "_law_source" "_law_source" (defArgs s_law_source) (defBody s_law_source) (defScope s_law_source) .none kV5 dc5 pm5 an5 cd5 ct5), sl5⟩)
    (c5 : PySem.W.codeIn K cd5 "_law_source" = true)
    (k5 : PySem.W.keepIn K (.ref f5) = true)
    (g6 : PySem.W.nsIn K mainGlobals "_law_pick" = some (some (.ref f6)))
    (l6 : K.lookup f6 = some ⟨oc6, od6, .func (PySem.W.fnOf "_law_pick" "_law_pick" (defArgs s_law_pick) (defBody s_law_pick) (defScope s_law_pick) .none kV6 dc6 pm6 an6 cd6 ct6), sl6⟩)
    (c6 : PySem.W.codeIn K cd6 "_law_pick" = true)
    (k6 : PySem.W.keepIn K (.ref f6) = true)
    (g7 : PySem.W.nsIn K mainGlobals "_law_number" = some (some (.ref f7)))
    (l7 : K.lookup f7 = some ⟨oc7, od7, .func (PySem.W.fnOf "_law_number" "_law_number" (defArgs s_law_number) (defBody s_law_number) (defScope s_law_number) .none kV7 dc7 pm7 an7 cd7 ct7), sl7⟩)
    (c7 : PySem.W.codeIn K cd7 "_law_number" = true)
    (k7 : PySem.W.keepIn K (.ref f7) = true)
    (g8 : PySem.W.nsIn K mainGlobals "_law_one" = some (some (.ref f8)))
    (l8 : K.lookup f8 = some ⟨oc8, od8, .func (PySem.W.fnOf "_law_one" "_law_one" (defArgs s_law_one) (defBody s_law_one) (defScope s_law_one) .none kV8 dc8 pm8 an8 cd8 ct8), sl8⟩)
    (c8 : PySem.W.codeIn K cd8 "_law_one" = true)
    (k8 : PySem.W.keepIn K (.ref f8) = true)
    (g9 : PySem.W.nsIn K mainGlobals "_law_shuffled" = some (some (.ref f9)))
    (l9 : K.lookup f9 = some ⟨oc9, od9, .func (PySem.W.fnOf "_law_shuffled" "_law_shuffled" (defArgs s_law_shuffled) (defBody s_law_shuffled) (defScope s_law_shuffled) .none kV9 dc9 pm9 an9 cd9 ct9), sl9⟩)
    (c9 : PySem.W.codeIn K cd9 "_law_shuffled" = true)
    (k9 : PySem.W.keepIn K (.ref f9) = true)
    (g10 : PySem.W.nsIn K mainGlobals "_law_same" = some (some (.ref f10)))
    (l10 : K.lookup f10 = some ⟨oc10, od10, .func (PySem.W.fnOf "_law_same" "_law_same" (defArgs s_law_same) (defBody s_law_same) (defScope s_law_same) .none kV10 dc10 pm10 an10 cd10 ct10), sl10⟩)
    (c10 : PySem.W.codeIn K cd10 "_law_same" = true)
    (k10 : PySem.W.keepIn K (.ref f10) = true)
    (g11 : PySem.W.nsIn K mainGlobals "_law_fault" = some (some (.ref f11)))
    (l11 : K.lookup f11 = some ⟨oc11, od11, .func (PySem.W.fnOf "_law_fault" "_law_fault" (defArgs s_law_fault) (defBody s_law_fault) (defScope s_law_fault) .none kV11 dc11 pm11 an11 cd11 ct11), sl11⟩)
    (c11 : PySem.W.codeIn K cd11 "_law_fault" = true)
    (k11 : PySem.W.keepIn K (.ref f11) = true)
    (g12 : PySem.W.nsIn K mainGlobals "_law_g_copy" = some (some (.ref f12)))
    (l12 : K.lookup f12 = some ⟨oc12, od12, .func (PySem.W.fnOf "_law_g_copy" "_law_g_copy" (defArgs s_law_g_copy) (defBody s_law_g_copy) (defScope s_law_g_copy) .none kV12 dc12 pm12 an12 cd12 ct12), sl12⟩)
    (c12 : PySem.W.codeIn K cd12 "_law_g_copy" = true)
    (k12 : PySem.W.keepIn K (.ref f12) = true)
    (g13 : PySem.W.nsIn K mainGlobals "_law_g_sign" = some (some (.ref f13)))
    (l13 : K.lookup f13 = some ⟨oc13, od13, .func (PySem.W.fnOf "_law_g_sign" "_law_g_sign" (defArgs s_law_g_sign) (defBody s_law_g_sign) (defScope s_law_g_sign) .none kV13 dc13 pm13 an13 cd13 ct13), sl13⟩)
    (c13 : PySem.W.codeIn K cd13 "_law_g_sign" = true)
    (k13 : PySem.W.keepIn K (.ref f13) = true)
    (g14 : PySem.W.nsIn K mainGlobals "_law_g_letter" = some (some (.ref f14)))
    (l14 : K.lookup f14 = some ⟨oc14, od14, .func (PySem.W.fnOf "_law_g_letter" "_law_g_letter" (defArgs s_law_g_letter) (defBody s_law_g_letter) (defScope s_law_g_letter) .none kV14 dc14 pm14 an14 cd14 ct14), sl14⟩)
    (c14 : PySem.W.codeIn K cd14 "_law_g_letter" = true)
    (k14 : PySem.W.keepIn K (.ref f14) = true)
    (g15 : PySem.W.nsIn K mainGlobals "_law_g_drawn" = some (some (.ref f15)))
    (l15 : K.lookup f15 = some ⟨oc15, od15, .func (PySem.W.fnOf "_law_g_drawn" "_law_g_drawn" (defArgs s_law_g_drawn) (defBody s_law_g_drawn) (defScope s_law_g_drawn) .none kV15 dc15 pm15 an15 cd15 ct15), sl15⟩)
    (c15 : PySem.W.codeIn K cd15 "_law_g_drawn" = true)
    (k15 : PySem.W.keepIn K (.ref f15) = true)
    (g16 : PySem.W.nsIn K mainGlobals "_law_g_wrong" = some (some (.ref f16)))
    (l16 : K.lookup f16 = some ⟨oc16, od16, .func (PySem.W.fnOf "_law_g_wrong" "_law_g_wrong" (defArgs s_law_g_wrong) (defBody s_law_g_wrong) (defScope s_law_g_wrong) .none kV16 dc16 pm16 an16 cd16 ct16), sl16⟩)
    (c16 : PySem.W.codeIn K cd16 "_law_g_wrong" = true)
    (k16 : PySem.W.keepIn K (.ref f16) = true)
    (g17 : PySem.W.nsIn K mainGlobals "_law_g_grown" = some (some (.ref f17)))
    (l17 : K.lookup f17 = some ⟨oc17, od17, .func (PySem.W.fnOf "_law_g_grown" "_law_g_grown" (defArgs s_law_g_grown) (defBody s_law_g_grown) (defScope s_law_g_grown) .none kV17 dc17 pm17 an17 cd17 ct17), sl17⟩)
    (c17 : PySem.W.codeIn K cd17 "_law_g_grown" = true)
    (k17 : PySem.W.keepIn K (.ref f17) = true)
    (g18 : PySem.W.nsIn K mainGlobals "_law_g_bad" = some (some (.ref f18)))
    (l18 : K.lookup f18 = some ⟨oc18, od18, .func (PySem.W.fnOf "_law_g_bad" "_law_g_bad" (defArgs s_law_g_bad) (defBody s_law_g_bad) (defScope s_law_g_bad) .none kV18 dc18 pm18 an18 cd18 ct18), sl18⟩)
    (c18 : PySem.W.codeIn K cd18 "_law_g_bad" = true)
    (k18 : PySem.W.keepIn K (.ref f18) = true)
    (g19 : PySem.W.nsIn K mainGlobals "_law_g_due" = some (some (.ref f19)))
    (l19 : K.lookup f19 = some ⟨oc19, od19, .func (PySem.W.fnOf "_law_g_due" "_law_g_due" (defArgs s_law_g_due) (defBody s_law_g_due) (defScope s_law_g_due) .none kV19 dc19 pm19 an19 cd19 ct19), sl19⟩)
    (c19 : PySem.W.codeIn K cd19 "_law_g_due" = true)
    (k19 : PySem.W.keepIn K (.ref f19) = true)
    (g20 : PySem.W.nsIn K mainGlobals "_law_g_made" = some (some (.ref f20)))
    (l20 : K.lookup f20 = some ⟨oc20, od20, .func (PySem.W.fnOf "_law_g_made" "_law_g_made" (defArgs s_law_g_made) (defBody s_law_g_made) (defScope s_law_g_made) .none kV20 dc20 pm20 an20 cd20 ct20), sl20⟩)
    (c20 : PySem.W.codeIn K cd20 "_law_g_made" = true)
    (k20 : PySem.W.keepIn K (.ref f20) = true)
    (g21 : PySem.W.nsIn K mainGlobals "_law_g_written" = some (some (.ref f21)))
    (l21 : K.lookup f21 = some ⟨oc21, od21, .func (PySem.W.fnOf "_law_g_written" "_law_g_written" (defArgs s_law_g_written) (defBody s_law_g_written) (defScope s_law_g_written) .none kV21 dc21 pm21 an21 cd21 ct21), sl21⟩)
    (c21 : PySem.W.codeIn K cd21 "_law_g_written" = true)
    (k21 : PySem.W.keepIn K (.ref f21) = true)
    (g22 : PySem.W.nsIn K mainGlobals "_law_g_own" = some (some (.ref f22)))
    (l22 : K.lookup f22 = some ⟨oc22, od22, .func (PySem.W.fnOf "_law_g_own" "_law_g_own" (defArgs s_law_g_own) (defBody s_law_g_own) (defScope s_law_g_own) .none kV22 dc22 pm22 an22 cd22 ct22), sl22⟩)
    (c22 : PySem.W.codeIn K cd22 "_law_g_own" = true)
    (k22 : PySem.W.keepIn K (.ref f22) = true)
    (g23 : PySem.W.nsIn K mainGlobals "_law_g_kept" = some (some (.ref f23)))
    (l23 : K.lookup f23 = some ⟨oc23, od23, .func (PySem.W.fnOf "_law_g_kept" "_law_g_kept" (defArgs s_law_g_kept) (defBody s_law_g_kept) (defScope s_law_g_kept) .none kV23 dc23 pm23 an23 cd23 ct23), sl23⟩)
    (c23 : PySem.W.codeIn K cd23 "_law_g_kept" = true)
    (k23 : PySem.W.keepIn K (.ref f23) = true)
    (g24 : PySem.W.nsIn K mainGlobals "law" = some (some (.ref f24)))
    (l24 : K.lookup f24 = some ⟨oc24, od24, .func (PySem.W.fnOf "law" "law" (defArgs s_law) (defBody s_law) (defScope s_law) .none kV24 dc24 pm24 an24 cd24 ct24), sl24⟩)
    (c24 : PySem.W.codeIn K cd24 "law" = true)
    (k24 : PySem.W.keepIn K (.ref f24) = true)
    (g25 : PySem.W.findIn K (.ref C) "__init__" = some (some (.ref f25)))
    (i25 : PySem.W.isFn K (.ref f25) = true)
    (l25 : K.lookup f25 = some ⟨oc25, od25, .func (PySem.W.fnOf "__init__" "Machine.__init__" (defArgs s_init) (defBody s_init) (defScope s_init) .none kV25 dc25 pm25 an25 cd25 ct25), sl25⟩)
    (c25 : PySem.W.codeIn K cd25 "Machine.__init__" = true)
    (k25 : PySem.W.keepIn K (.ref f25) = true)
    (g26 : PySem.W.findIn K (.ref C) "lag" = some (some (.ref f26)))
    (i26 : PySem.W.isFn K (.ref f26) = true)
    (l26 : K.lookup f26 = some ⟨oc26, od26, .func (PySem.W.fnOf "lag" "Machine.lag" (defArgs s_lag) (defBody s_lag) (defScope s_lag) .none kV26 dc26 pm26 an26 cd26 ct26), sl26⟩)
    (c26 : PySem.W.codeIn K cd26 "Machine.lag" = true)
    (k26 : PySem.W.keepIn K (.ref f26) = true)
    (g27 : PySem.W.findIn K (.ref C) "rows" = some (some (.ref f27)))
    (i27 : PySem.W.isFn K (.ref f27) = true)
    (l27 : K.lookup f27 = some ⟨oc27, od27, .func (PySem.W.fnOf "rows" "Machine.rows" (defArgs s_rows) (defBody s_rows) (defScope s_rows) .none kV27 dc27 pm27 an27 cd27 ct27), sl27⟩)
    (c27 : PySem.W.codeIn K cd27 "Machine.rows" = true)
    (k27 : PySem.W.keepIn K (.ref f27) = true)
    (g28 : PySem.W.findIn K (.ref C) "row_of" = some (some (.ref f28)))
    (i28 : PySem.W.isFn K (.ref f28) = true)
    (l28 : K.lookup f28 = some ⟨oc28, od28, .func (PySem.W.fnOf "row_of" "Machine.row_of" (defArgs s_row_of) (defBody s_row_of) (defScope s_row_of) .none kV28 dc28 pm28 an28 cd28 ct28), sl28⟩)
    (c28 : PySem.W.codeIn K cd28 "Machine.row_of" = true)
    (k28 : PySem.W.keepIn K (.ref f28) = true)
    (g29 : PySem.W.findIn K (.ref C) "states" = some (some (.ref f29)))
    (i29 : PySem.W.isFn K (.ref f29) = true)
    (l29 : K.lookup f29 = some ⟨oc29, od29, .func (PySem.W.fnOf "states" "Machine.states" (defArgs s_states) (defBody s_states) (defScope s_states) .none kV29 dc29 pm29 an29 cd29 ct29), sl29⟩)
    (c29 : PySem.W.codeIn K cd29 "Machine.states" = true)
    (k29 : PySem.W.keepIn K (.ref f29) = true)
    (g30 : PySem.W.findIn K (.ref C) "move" = some (some (.ref f30)))
    (i30 : PySem.W.isFn K (.ref f30) = true)
    (l30 : K.lookup f30 = some ⟨oc30, od30, .func (PySem.W.fnOf "move" "Machine.move" (defArgs s_move) (defBody s_move) (defScope s_move) .none kV30 dc30 pm30 an30 cd30 ct30), sl30⟩)
    (c30 : PySem.W.codeIn K cd30 "Machine.move" = true)
    (k30 : PySem.W.keepIn K (.ref f30) = true)
    (g31 : PySem.W.findIn K (.ref C) "write" = some (some (.ref f31)))
    (i31 : PySem.W.isFn K (.ref f31) = true)
    (l31 : K.lookup f31 = some ⟨oc31, od31, .func (PySem.W.fnOf "write" "Machine.write" (defArgs s_write) (defBody s_write) (defScope s_write) .none kV31 dc31 pm31 an31 cd31 ct31), sl31⟩)
    (c31 : PySem.W.codeIn K cd31 "Machine.write" = true)
    (k31 : PySem.W.keepIn K (.ref f31) = true)
    (g32 : PySem.W.findIn K (.ref CM) "__init__" = some (some (.ref f32)))
    (t32 : PySem.W.typeIn K (.ref f32) = some (.type "function"))
    (l32 : K.lookup f32 = some ⟨oc32, od32, .func (PySem.W.fnOf "__init__" "TooMany.__init__" (defArgs s_TooMany) (defBody s_TooMany) (defScope s_TooMany) .none kV32 dc32 pm32 an32 cd32 ct32), sl32⟩)
    (c32 : PySem.W.codeIn K cd32 "TooMany.__init__" = true)
    (k32 : PySem.W.keepIn K (.ref f32) = true)
    (xCM : K.lookup CM = some (excClassObj nmCM qCM CM NCM bsCM [.ref CA, .type "ValueError", .type "Exception", .type "BaseException", .type "object"] true snCM subCM abCM colCM ddCM m0CM m1CM m2CM m3CM m5CM "ValueError.__new__"))
    (saCM : PySem.W.findIn K (.ref CM) "__setattr__" = some (some (.builtin "object.__setattr__")))
    (gaCM : PySem.W.findIn K (.ref CM) "__getattribute__" = some (some (.builtin "BaseException.__getattribute__")))
    (ggCM : PySem.W.findIn K (.ref CM) "__getattr__" = some none)
    (exCM : PySem.W.subIn K (.ref CM) (.type "BaseException") = some true)
    (tyCM : PySem.W.typeIn K (.ref CM) = some (.type "type"))
    (kCCM : PySem.W.keepIn K (.ref CM) = true)
    (hdCM : PySem.W.hasDictIn K CM = true)
    (clCM : PySem.W.findIn K (.ref CM) "__class__" = some (some (.builtin "object.__class__")))
    (moCM : PySem.W.mroIn K CM (.type "object") = some true)
    (sACM : PySem.W.subIn K (.ref CM) (.ref CA) = some true)
    (nCMwhat : PySem.W.findIn K (.ref CM) "what" = some none)
    (g33 : PySem.W.findIn K (.ref CB) "__init__" = some (some (.ref f33)))
    (t33 : PySem.W.typeIn K (.ref f33) = some (.type "function"))
    (l33 : K.lookup f33 = some ⟨oc33, od33, .func (PySem.W.fnOf "__init__" "BadMachine.__init__" (defArgs s_BadMachine) (defBody s_BadMachine) (defScope s_BadMachine) .none kV33 dc33 pm33 an33 cd33 ct33), sl33⟩)
    (c33 : PySem.W.codeIn K cd33 "BadMachine.__init__" = true)
    (k33 : PySem.W.keepIn K (.ref f33) = true)
    (xCB : K.lookup CB = some (excClassObj nmCB qCB CB NCB bsCB [.ref CA, .type "ValueError", .type "Exception", .type "BaseException", .type "object"] true snCB subCB abCB colCB ddCB m0CB m1CB m2CB m3CB m5CB "ValueError.__new__"))
    (saCB : PySem.W.findIn K (.ref CB) "__setattr__" = some (some (.builtin "object.__setattr__")))
    (gaCB : PySem.W.findIn K (.ref CB) "__getattribute__" = some (some (.builtin "BaseException.__getattribute__")))
    (ggCB : PySem.W.findIn K (.ref CB) "__getattr__" = some none)
    (exCB : PySem.W.subIn K (.ref CB) (.type "BaseException") = some true)
    (tyCB : PySem.W.typeIn K (.ref CB) = some (.type "type"))
    (kCCB : PySem.W.keepIn K (.ref CB) = true)
    (hdCB : PySem.W.hasDictIn K CB = true)
    (clCB : PySem.W.findIn K (.ref CB) "__class__" = some (some (.builtin "object.__class__")))
    (moCB : PySem.W.mroIn K CB (.type "object") = some true)
    (sACB : PySem.W.subIn K (.ref CB) (.ref CA) = some true)
    (nCBstate : PySem.W.findIn K (.ref CB) "state" = some none)
    (nCBwhat : PySem.W.findIn K (.ref CB) "what" = some none)
    (hn : PySem.W.specialIn K (.builtin "object.__class__") "__get__" = some (some (.builtin "getset_descriptor.__get__")))
    (ht : PySem.W.takesIn K (.builtin "object.__class__") = some true)
    (exCA : PySem.W.subIn K (.ref CA) (.type "BaseException") = some true)
    (hdCA : PySem.W.hasDictIn K CA = true)
    (tyCA : PySem.W.typeIn K (.ref CA) = some (.type "type"))
    (kMM : PySem.W.kitOne K (.ref CM) (.ref CM) = some true)
    (kBM : PySem.W.kitOne K (.ref CB) (.ref CM) = some false)
    (kBB : PySem.W.kitOne K (.ref CB) (.ref CB) = some true)
    (pg : PySem.W.plainGet K C Str.empty = true)
    (hd : PySem.W.hasDictIn K C = true)
    (po : PySem.W.plainOver K C = true)
    (sa : PySem.W.findIn K (.ref C) "__setattr__" = some (some (.builtin "object.__setattr__")))
    (mk : PySem.W.makesIn K C = true)
    (kc : PySem.W.keepIn K (.ref C) = true)
    (nL : PySem.W.findIn K (.ref C) "own_lag" = some none)
    (nR : PySem.W.findIn K (.ref C) "own_rows" = some none)
    (gLag : PySem.W.nsIn K mainGlobals "MOST_LAG" = some (some (.int 12 tk1)))
    (gSt : PySem.W.nsIn K mainGlobals "MOST_STATES" = some (some (.int 400 tk2)))
    (z_len : PySem.W.nsIn K mainGlobals "len" = some none)
    (z_range : PySem.W.nsIn K mainGlobals "range" = some none)
    (z_tuple : PySem.W.nsIn K mainGlobals "tuple" = some none)
    (z_list : PySem.W.nsIn K mainGlobals "list" = some none)
    (z_dict : PySem.W.nsIn K mainGlobals "dict" = some none)
    (z_sorted : PySem.W.nsIn K mainGlobals "sorted" = some none)
    (z_all : PySem.W.nsIn K mainGlobals "all" = some none)
    (z_any : PySem.W.nsIn K mainGlobals "any" = some none)
    (z_max : PySem.W.nsIn K mainGlobals "max" = some none)
    (z_abs : PySem.W.nsIn K mainGlobals "abs" = some none)
    (z_int : PySem.W.nsIn K mainGlobals "int" = some none)
    (z_str : PySem.W.nsIn K mainGlobals "str" = some none)
    (z_bool : PySem.W.nsIn K mainGlobals "bool" = some none)
    (z_isinstance : PySem.W.nsIn K mainGlobals "isinstance" = some none) :
    ∃ fd : FuncData, (∀ (s : Shared) (v : Value), BindsTo s fd ⟨[v], []⟩ [("script", v)]) ∧ ∀ base : Heap, K.In base → base.Ns mainGlobals mg → FnOk l.prog w K mg base L2.CX0 9 fa fd ["script"] (spLaw K) := by
  have e := hfa.symm.trans (PySem.W.mg_of X G g24)
  cases e
  have Bt : Blt mg := ⟨PySem.W.mg_none_of X G z_len, PySem.W.mg_none_of X G z_range, PySem.W.mg_none_of X G z_tuple, PySem.W.mg_none_of X G z_list, PySem.W.mg_none_of X G z_dict, PySem.W.mg_none_of X G z_sorted, PySem.W.mg_none_of X G z_all, PySem.W.mg_none_of X G z_any, PySem.W.mg_none_of X G z_max, PySem.W.mg_none_of X G z_abs, PySem.W.mg_none_of X G z_int, PySem.W.mg_none_of X G z_str, PySem.W.mg_none_of X G z_bool, PySem.W.mg_none_of X G z_isinstance⟩
  have F1 := fun_mk (st := s_sign_key) l1 c1 k1
  have b1 := F1.binds (ps := ["sign"]) fun _ _ _ _ _ _ us hl => match us, hl with | [_], _ => rfl
  have F2 := fun_mk (st := s_letter_key) l2 c2 k2
  have b2 := F2.binds (ps := ["letter"]) fun _ _ _ _ _ _ us hl => match us, hl with | [_], _ => rfl
  have F3 := fun_mk (st := s_is_sign) l3 c3 k3
  have b3 := F3.binds (ps := ["sign"]) fun _ _ _ _ _ _ us hl => match us, hl with | [_], _ => rfl
  have F4 := fun_mk (st := s_is_letter) l4 c4 k4
  have b4 := F4.binds (ps := ["letter"]) fun _ _ _ _ _ _ us hl => match us, hl with | [_], _ => rfl
  have F5 := fun_mk (st := s_law_source) l5 c5 k5
  have b5 := F5.binds (ps := ["script", "at"]) fun _ _ _ _ _ _ us hl => match us, hl with | [_, _], _ => rfl
  have F6 := fun_mk (st := s_law_pick) l6 c6 k6
  have b6 := F6.binds (ps := ["s", "many"]) fun _ _ _ _ _ _ us hl => match us, hl with | [_, _], _ => rfl
  have F7 := fun_mk (st := s_law_number) l7 c7 k7
  have b7 := F7.binds (ps := ["s", "limit"]) fun _ _ _ _ _ _ us hl => match us, hl with | [_, _], _ => rfl
  have F8 := fun_mk (st := s_law_one) l8 c8 k8
  have b8 := F8.binds (ps := ["s", "things"]) fun _ _ _ _ _ _ us hl => match us, hl with | [_, _], _ => rfl
  have F9 := fun_mk (st := s_law_shuffled) l9 c9 k9
  have b9 := F9.binds (ps := ["s", "things"]) fun _ _ _ _ _ _ us hl => match us, hl with | [_, _], _ => rfl
  have F10 := fun_mk (st := s_law_same) l10 c10 k10
  have b10 := F10.binds (ps := ["answer", "due"]) fun _ _ _ _ _ _ us hl => match us, hl with | [_, _], _ => rfl
  have F11 := fun_mk (st := s_law_fault) l11 c11 k11
  have b11 := F11.binds (ps := ["error"]) fun _ _ _ _ _ _ us hl => match us, hl with | [_], _ => rfl
  have F12 := fun_mk (st := s_law_g_copy) l12 c12 k12
  have b12 := F12.binds (ps := ["rows"]) fun _ _ _ _ _ _ us hl => match us, hl with | [_], _ => rfl
  have F13 := fun_mk (st := s_law_g_sign) l13 c13 k13
  have b13 := F13.binds (ps := ["s"]) fun _ _ _ _ _ _ us hl => match us, hl with | [_], _ => rfl
  have F14 := fun_mk (st := s_law_g_letter) l14 c14 k14
  have b14 := F14.binds (ps := ["s", "width"]) fun _ _ _ _ _ _ us hl => match us, hl with | [_, _], _ => rfl
  have F15 := fun_mk (st := s_law_g_drawn) l15 c15 k15
  have b15 := F15.binds (ps := ["s"]) fun _ _ _ _ _ _ us hl => match us, hl with | [_], _ => rfl
  have F16 := fun_mk (st := s_law_g_wrong) l16 c16 k16
  have b16 := F16.binds (ps := ["s", "rows", "kind"]) fun _ _ _ _ _ _ us hl => match us, hl with | [_, _, _], _ => rfl
  have F17 := fun_mk (st := s_law_g_grown) l17 c17 k17
  have b17 := F17.binds (ps := ["rows", "many"]) fun _ _ _ _ _ _ us hl => match us, hl with | [_, _], _ => rfl
  have F18 := fun_mk (st := s_law_g_bad) l18 c18 k18
  have b18 := F18.binds (ps := ["letter"]) fun _ _ _ _ _ _ us hl => match us, hl with | [_], _ => rfl
  have F19 := fun_mk (st := s_law_g_due) l19 c19 k19
  have b19 := F19.binds (ps := ["lag", "rows"]) fun _ _ _ _ _ _ us hl => match us, hl with | [_, _], _ => rfl
  have F20 := fun_mk (st := s_law_g_made) l20 c20 k20
  have b20 := F20.binds (ps := ["lag", "rows"]) fun _ _ _ _ _ _ us hl => match us, hl with | [_, _], _ => rfl
  have F21 := fun_mk (st := s_law_g_written) l21 c21 k21
  have b21 := F21.binds (ps := ["machine", "letters"]) fun _ _ _ _ _ _ us hl => match us, hl with | [_, _], _ => rfl
  have F22 := fun_mk (st := s_law_g_own) l22 c22 k22
  have b22 := F22.binds (ps := ["rows", "letters"]) fun _ _ _ _ _ _ us hl => match us, hl with | [_, _], _ => rfl
  have F23 := fun_mk (st := s_law_g_kept) l23 c23 k23
  have b23 := F23.binds (ps := ["s", "machine", "lag", "rows", "pool"]) fun _ _ _ _ _ _ us hl => match us, hl with | [_, _, _, _, _], _ => rfl
  have F24 := fun_mk (st := s_law) l24 c24 k24
  have F25 := fun_mk (st := s_init) l25 c25 k25
  have b25 := F25.binds (ps := ["self", "lag", "rows"]) fun _ _ _ _ _ _ us hl => match us, hl with | [_, _, _], _ => rfl
  have F26 := fun_mk (st := s_lag) l26 c26 k26
  have b26 := F26.binds (ps := ["self"]) fun _ _ _ _ _ _ us hl => match us, hl with | [_], _ => rfl
  have F27 := fun_mk (st := s_rows) l27 c27 k27
  have b27 := F27.binds (ps := ["self"]) fun _ _ _ _ _ _ us hl => match us, hl with | [_], _ => rfl
  have F28 := fun_mk (st := s_row_of) l28 c28 k28
  have b28 := F28.binds (ps := ["self", "state"]) fun _ _ _ _ _ _ us hl => match us, hl with | [_, _], _ => rfl
  have F29 := fun_mk (st := s_states) l29 c29 k29
  have b29 := F29.binds (ps := ["self"]) fun _ _ _ _ _ _ us hl => match us, hl with | [_], _ => rfl
  have F30 := fun_mk (st := s_move) l30 c30 k30
  have b30 := F30.binds (ps := ["self", "state", "letter"]) fun _ _ _ _ _ _ us hl => match us, hl with | [_, _, _], _ => rfl
  have F31 := fun_mk (st := s_write) l31 c31 k31
  have b31 := F31.binds (ps := ["self", "letters"]) fun _ _ _ _ _ _ us hl => match us, hl with | [_, _], _ => rfl
  have F32 := fun_mk (st := s_TooMany) l32 c32 k32
  have b32 := F32.binds (ps := ["self", "what"]) fun _ _ _ _ _ _ us hl => match us, hl with | [_, _], _ => rfl
  have OCM : OexC K CM := ⟨⟨_, _, _, _, _, _, _, _, _, _, _, _, _, _, _, xCM, rfl⟩, saCM, exCM, tyCM, kCCM⟩
  have F33 := fun_mk (st := s_BadMachine) l33 c33 k33
  have b33 := F33.binds (ps := ["self", "state", "what"]) fun _ _ _ _ _ _ us hl => match us, hl with | [_, _, _], _ => rfl
  have OCB : OexC K CB := ⟨⟨_, _, _, _, _, _, _, _, _, _, _, _, _, _, _, xCB, rfl⟩, saCB, exCB, tyCB, kCCB⟩
  have T : MT K C := ⟨⟨pg, hd, po, sa⟩, nL, nR⟩
  have TE_ : ET K mg CM CB := ⟨PySem.W.mg_of X G aCM, PySem.W.mg_of X G aCB, ⟨gaCM, ggCM, exCM, hdCM, clCM, hn, ht, moCM⟩, ⟨gaCB, ggCB, exCB, hdCB, clCB, hn, ht, moCB⟩, ⟨gaCM, ggCM, exCM, hdCM⟩, ⟨gaCB, ggCB, exCB, hdCB⟩, nCMwhat, nCBwhat, nCBstate, kMM, kBM, kBB⟩
  have TR : ER K mg CA CM CB := ⟨PySem.W.mg_of X G aCA, PySem.W.exm_ref exCA hdCA tyCA sACM, PySem.W.exm_ref exCA hdCA tyCA sACB⟩
  refine ⟨PySem.W.fnOf "law" "law" (defArgs s_law) (defBody s_law) (defScope s_law) .none kV24 dc24 pm24 an24 cd24 ct24, fun s v => .of_eq rfl, fun base _ _ => ?_⟩
  have hl : ∀ {x : Str} {k : Nat} {ps : List Str} {sp : Sp} {f : Addr} {fd : FuncData}, mg x = some (.ref f) → PySem.W.keepIn K (.ref f) = true → Binds K fd ps [] → FnOk l.prog w K mg base L2.CX0 k f fd ps sp → Has l.prog w K mg base L2.CX0 k x ps sp := fun h1 h2 h3 h4 => ⟨_, _, h1, h2, h3, h4⟩
  have H_sign_key := hl (PySem.W.mg_of X G g1) k1 b1 (ok_sign_key (P := l.prog) (w := w) (mg := mg) (base := base) F1)
  have H_is_sign := hl (PySem.W.mg_of X G g3) k3 b3 (ok_is_sign (P := l.prog) (w := w) (mg := mg) (base := base) F3 Bt)
  have H_is_letter := hl (PySem.W.mg_of X G g4) k4 b4 (ok_is_letter F4 Bt H_is_sign)
  have FL := ok_letter_key F2 Bt H_sign_key
  have H_pick := hl (PySem.W.mg_of X G g6) k6 b6 (ok_law_pick (P := l.prog) (w := w) (mg := mg) (base := base) F6 Bt)
  have H_source := hl (PySem.W.mg_of X G g5) k5 b5 (ok_law_source (P := l.prog) (w := w) (mg := mg) (base := base) F5 Bt)
  have H_number := hl (PySem.W.mg_of X G g7) k7 b7 (ok_law_number F7 Bt H_pick)
  have H_one := hl (PySem.W.mg_of X G g8) k8 b8 (ok_law_one F8 Bt H_pick)
  have H_shuffled := hl (PySem.W.mg_of X G g9) k9 b9 (ok_law_shuffled F9 Bt H_pick)
  have H_same := ok_law_same (P := l.prog) (w := w) (base := base) F10 Bt (PySem.W.mg_of X G g10) b10 3
  have H_fault : HasE l.prog w K mg base L2.CX0 1 "_law_fault" ["error"] (spFault CM CB) := ⟨_, _, PySem.W.mg_of X G g11, k11, b11, ok_law_fault F11 Bt TE_⟩
  have H_TooMany : HasX l.prog w K mg base 1 "TooMany" CM ["self", "what"] (spEx1 CM "what") := ⟨OCM, PySem.W.mg_of X G aCM, _, _, g32, t32, b32, ok_TooMany F32 OCM nCMwhat⟩
  have H_BadMachine : HasX l.prog w K mg base 1 "BadMachine" CB ["self", "state", "what"] (spEx2 CB "state" "what") := ⟨OCB, PySem.W.mg_of X G aCB, _, _, g33, t33, b33, ok_BadMachine F33 OCB nCBstate nCBwhat⟩
  have M_lag : HasM l.prog w K mg base L2.CX0 1 C "lag" ["self"] (spLag w C) := ⟨_, _, T.cl, ⟨g26, i26, k26⟩, b26, ok_lag F26 T⟩
  have M_states : HasM l.prog w K mg base L2.CX0 1 C "states" ["self"] (spStates w C) := ⟨_, _, T.cl, ⟨g29, i29, k29⟩, b29, ok_states F29 T Bt⟩
  have M_row_of : HasM l.prog w K mg base L2.CX0 1 C "row_of" ["self", "state"] (spRowOf w C) := ⟨_, _, T.cl, ⟨g28, i28, k28⟩, b28, ok_row_of F28 T⟩
  have M_rows : HasM l.prog w K mg base L2.CX0 2 C "rows" ["self"] (spRows w C) := ⟨_, _, T.cl, ⟨g27, i27, k27⟩, b27, ok_rows F27 T M_row_of⟩
  have M_move : HasM l.prog w K mg base L2.CX0 1 C "move" ["self", "state", "letter"] (spMove w C) := ⟨_, _, T.cl, ⟨g30, i30, k30⟩, b30, ok_move F30 T⟩
  have M_write : HasM l.prog w K mg base (L2.CX l.prog w) 3 C "write" ["self", "letters"] (spWrite K w C CB) := ⟨_, _, T.cl, ⟨g31, i31, k31⟩, b31, ok_write F31 T M_move H_BadMachine⟩
  have G_init := ok_init F25 T Bt H_is_letter (PySem.W.mg_of X G g2) b2 FL ⟨_, PySem.W.mg_of X G gLag⟩ ⟨_, PySem.W.mg_of X G gSt⟩ H_TooMany H_BadMachine
  have H_made := hl (PySem.W.mg_of X G g20) k20 b20 (ok_law_g_made F20 TR ⟨mk, g25, i25, kc⟩ G_init (PySem.W.mg_of X G aC) b25 H_fault)
  have H_written := hl (PySem.W.mg_of X G g21) k21 b21 (ok_law_g_written F21 TR M_write H_fault)
  have H_copy := hl (PySem.W.mg_of X G g12) k12 b12 (ok_law_g_copy (P := l.prog) (w := w) (mg := mg) (base := base) F12 Bt)
  have H_bad := hl (PySem.W.mg_of X G g18) k18 b18 (ok_law_g_bad (P := l.prog) (w := w) (mg := mg) (base := base) F18 Bt)
  have H_due := hl (PySem.W.mg_of X G g19) k19 b19 (ok_law_g_due F19 Bt H_bad)
  have H_own := hl (PySem.W.mg_of X G g22) k22 b22 (ok_law_g_own (P := l.prog) (w := w) (mg := mg) (base := base) F22 Bt)
  have H_sign := hl (PySem.W.mg_of X G g13) k13 b13 (ok_law_g_sign F13 Bt H_pick H_number)
  have H_letter := hl (PySem.W.mg_of X G g14) k14 b14 (ok_law_g_letter F14 Bt H_sign)
  have H_drawn := hl (PySem.W.mg_of X G g15) k15 b15 (ok_law_g_drawn F15 Bt H_pick H_one H_number H_letter H_shuffled)
  have H_wrong := hl (PySem.W.mg_of X G g16) k16 b16 (ok_law_g_wrong F16 Bt H_pick H_one H_copy)
  have H_grown := hl (PySem.W.mg_of X G g17) k17 b17 (ok_law_g_grown F17 Bt H_copy)
  have H_kept := hl (PySem.W.mg_of X G g23) k23 b23 (ok_law_g_kept F23 Bt H_pick H_one H_same M_lag M_states M_rows H_own H_written)
  exact ok_law F24 Bt H_source H_drawn H_pick H_one H_wrong H_grown H_copy H_due H_made H_same H_kept
theorem walk {l : PySem.W.OpenLaw} {q : Program} {loose : List Str} {XP : (Str → Option Value) → Heap → Prop} {YP : World → Heap → Prop} {d : DefRec} {K : Params → PySem.W.Frag} (hn : l.most = some 63) (hdf : d.params.defaults = [])
    (hY : ∀ (w : World) (h : Heap), YP w h → (K w.params).In h)
    (F : ∀ (w : World) (mg : Str → Option Value) (fa : Addr) (h : Heap), (K w.params).In h → h.Ns mainGlobals mg → mg d.name = some (.ref fa) →
      ∃ fd : FuncData, (∀ (s : Shared) (u : Value), BindsTo s fd ⟨[u], []⟩ [("script", u)]) ∧ ∀ base : Heap, (K w.params).In base → base.Ns mainGlobals mg → FnOk l.prog w (K w.params) mg base L2.CX0 9 fa fd ["script"] (spLaw (K w.params))) :
    PySem.W.WalkO q loose XP YP l.row.toRowW d [] (fun f vs => PySem.call f vs) :=
  L2.walk_of (n := 63) (k := 9) (x := "script") (CX := fun _ => L2.CX0) (sp := fun w => spLaw (K w.params)) hn (by decide) hdf ⟨rfl, by decide, by decide⟩ hY F (fun _ _ a ns hl _ hS => ⟨a, ns, rfl, hS, hl, fun _ => rfl⟩) fun _ _ _ _ _ z => z
end K29
end

section
set_option Elab.async false
set_option linter.all false
set_option maxRecDepth 100000
open PySem PySem.W PyProof.Rows in
set_option maxHeartbeats 0 in
theorem PySem.Challenge.cw_anyroot_k29_machine_rows_kept_and_writte_holds : PySem.Challenge.rw_anyroot_k29_machine_rows_kept_and_writte.Holds := by
  w_on; o_law; k_head; (case hw => w_witness2)
  k_fill
  refine K29.walk (l := PySem.Challenge.rw_anyroot_k29_machine_rows_kept_and_writte) rfl rfl (fun w h Y => PySem.W.kIn_of Y) ?F
  case F =>
    intro w mg fa h KX G hmg
    refine' K29.all_mk KX G hmg ?aCA ?aCM ?aCB ?aC ?g1 ?l1 ?c1 ?k1 ?g2 ?l2 ?c2 ?k2 ?g3 ?l3 ?c3 ?k3 ?g4 ?l4 ?c4 ?k4 ?g5 ?l5 ?c5 ?k5 ?g6 ?l6 ?c6 ?k6 ?g7 ?l7 ?c7 ?k7 ?g8 ?l8 ?c8 ?k8 ?g9 ?l9 ?c9 ?k9 ?g10 ?l10 ?c10 ?k10 ?g11 ?l11 ?c11 ?k11 ?g12 ?l12 ?c12 ?k12 ?g13 ?l13 ?c13 ?k13 ?g14 ?l14 ?c14 ?k14 ?g15 ?l15 ?c15 ?k15 ?g16 ?l16 ?c16 ?k16 ?g17 ?l17 ?c17 ?k17 ?g18 ?l18 ?c18 ?k18 ?g19 ?l19 ?c19 ?k19 ?g20 ?l20 ?c20 ?k20 ?g21 ?l21 ?c21 ?k21 ?g22 ?l22 ?c22 ?k22 ?g23 ?l23 ?c23 ?k23 ?g24 ?l24 ?c24 ?k24 ?g25 ?i25 ?l25 ?c25 ?k25 ?g26 ?i26 ?l26 ?c26 ?k26 ?g27 ?i27 ?l27 ?c27 ?k27 ?g28 ?i28 ?l28 ?c28 ?k28 ?g29 ?i29 ?l29 ?c29 ?k29 ?g30 ?i30 ?l30 ?c30 ?k30 ?g31 ?i31 ?l31 ?c31 ?k31 ?g32 ?t32 ?l32 ?c32 ?k32 ?xCM ?saCM ?gaCM ?ggCM ?exCM ?tyCM ?kCCM ?hdCM ?clCM ?moCM ?sACM ?nCMwhat ?g33 ?t33 ?l33 ?c33 ?k33 ?xCB ?saCB ?gaCB ?ggCB ?exCB ?tyCB ?kCCB ?hdCB ?clCB ?moCB ?sACB ?nCBstate ?nCBwhat ?hn ?ht ?exCA ?hdCA ?tyCA ?kMM ?kBM ?kBB ?pg ?hd ?po ?sa ?mk ?kc ?nL ?nR ?gLag ?gSt ?z_len ?z_range ?z_tuple ?z_list ?z_dict ?z_sorted ?z_all ?z_any ?z_max ?z_abs ?z_int ?z_str ?z_bool ?z_isinstance
    (case aCA => first | k_is | rfl)
    (case aCM => first | k_is | rfl)
    (case aCB => first | k_is | rfl)
    (case aC => first | k_is | rfl)
    (case g1 => first | k_is | rfl)
    (case l1 => first | k_is | rfl)
    (case c1 => first | k_is | rfl)
    (case k1 => first | k_is | rfl)
    (case g2 => first | k_is | rfl)
    (case l2 => first | k_is | rfl)
    (case c2 => first | k_is | rfl)
    (case k2 => first | k_is | rfl)
    (case g3 => first | k_is | rfl)
    (case l3 => first | k_is | rfl)
    (case c3 => first | k_is | rfl)
    (case k3 => first | k_is | rfl)
    (case g4 => first | k_is | rfl)
    (case l4 => first | k_is | rfl)
    (case c4 => first | k_is | rfl)
    (case k4 => first | k_is | rfl)
    (case g5 => first | k_is | rfl)
    (case l5 => first | k_is | rfl)
    (case c5 => first | k_is | rfl)
    (case k5 => first | k_is | rfl)
    (case g6 => first | k_is | rfl)
    (case l6 => first | k_is | rfl)
    (case c6 => first | k_is | rfl)
    (case k6 => first | k_is | rfl)
    (case g7 => first | k_is | rfl)
    (case l7 => first | k_is | rfl)
    (case c7 => first | k_is | rfl)
    (case k7 => first | k_is | rfl)
    (case g8 => first | k_is | rfl)
    (case l8 => first | k_is | rfl)
    (case c8 => first | k_is | rfl)
    (case k8 => first | k_is | rfl)
    (case g9 => first | k_is | rfl)
    (case l9 => first | k_is | rfl)
    (case c9 => first | k_is | rfl)
    (case k9 => first | k_is | rfl)
    (case g10 => first | k_is | rfl)
    (case l10 => first | k_is | rfl)
    (case c10 => first | k_is | rfl)
    (case k10 => first | k_is | rfl)
    (case g11 => first | k_is | rfl)
    (case l11 => first | k_is | rfl)
    (case c11 => first | k_is | rfl)
    (case k11 => first | k_is | rfl)
    (case g12 => first | k_is | rfl)
    (case l12 => first | k_is | rfl)
    (case c12 => first | k_is | rfl)
    (case k12 => first | k_is | rfl)
    (case g13 => first | k_is | rfl)
    (case l13 => first | k_is | rfl)
    (case c13 => first | k_is | rfl)
    (case k13 => first | k_is | rfl)
    (case g14 => first | k_is | rfl)
    (case l14 => first | k_is | rfl)
    (case c14 => first | k_is | rfl)
    (case k14 => first | k_is | rfl)
    (case g15 => first | k_is | rfl)
    (case l15 => first | k_is | rfl)
    (case c15 => first | k_is | rfl)
    (case k15 => first | k_is | rfl)
    (case g16 => first | k_is | rfl)
    (case l16 => first | k_is | rfl)
    (case c16 => first | k_is | rfl)
    (case k16 => first | k_is | rfl)
    (case g17 => first | k_is | rfl)
    (case l17 => first | k_is | rfl)
    (case c17 => first | k_is | rfl)
    (case k17 => first | k_is | rfl)
    (case g18 => first | k_is | rfl)
    (case l18 => first | k_is | rfl)
    (case c18 => first | k_is | rfl)
    (case k18 => first | k_is | rfl)
    (case g19 => first | k_is | rfl)
    (case l19 => first | k_is | rfl)
    (case c19 => first | k_is | rfl)
    (case k19 => first | k_is | rfl)
    (case g20 => first | k_is | rfl)
    (case l20 => first | k_is | rfl)
    (case c20 => first | k_is | rfl)
    (case k20 => first | k_is | rfl)
    (case g21 => first | k_is | rfl)
    (case l21 => first | k_is | rfl)
    (case c21 => first | k_is | rfl)
    (case k21 => first | k_is | rfl)
    (case g22 => first | k_is | rfl)
    (case l22 => first | k_is | rfl)
    (case c22 => first | k_is | rfl)
    (case k22 => first | k_is | rfl)
    (case g23 => first | k_is | rfl)
    (case l23 => first | k_is | rfl)
    (case c23 => first | k_is | rfl)
    (case k23 => first | k_is | rfl)
    (case g24 => first | k_is | rfl)
    (case l24 => first | k_is | rfl)
    (case c24 => first | k_is | rfl)
    (case k24 => first | k_is | rfl)
    (case g25 => first | k_is | rfl)
    (case i25 => first | k_is | rfl)
    (case l25 => first | k_is | rfl)
    (case c25 => first | k_is | rfl)
    (case k25 => first | k_is | rfl)
    (case g26 => first | k_is | rfl)
    (case i26 => first | k_is | rfl)
    (case l26 => first | k_is | rfl)
    (case c26 => first | k_is | rfl)
    (case k26 => first | k_is | rfl)
    (case g27 => first | k_is | rfl)
    (case i27 => first | k_is | rfl)
    (case l27 => first | k_is | rfl)
    (case c27 => first | k_is | rfl)
    (case k27 => first | k_is | rfl)
    (case g28 => first | k_is | rfl)
    (case i28 => first | k_is | rfl)
    (case l28 => first | k_is | rfl)
    (case c28 => first | k_is | rfl)
    (case k28 => first | k_is | rfl)
    (case g29 => first | k_is | rfl)
    (case i29 => first | k_is | rfl)
    (case l29 => first | k_is | rfl)
    (case c29 => first | k_is | rfl)
    (case k29 => first | k_is | rfl)
    (case g30 => first | k_is | rfl)
    (case i30 => first | k_is | rfl)
    (case l30 => first | k_is | rfl)
    (case c30 => first | k_is | rfl)
    (case k30 => first | k_is | rfl)
    (case g31 => first | k_is | rfl)
    (case i31 => first | k_is | rfl)
    (case l31 => first | k_is | rfl)
    (case c31 => first | k_is | rfl)
    (case k31 => first | k_is | rfl)
    (case g32 => first | k_is | rfl)
    (case t32 => first | k_is | rfl)
    (case l32 => first | k_is | rfl)
    (case c32 => first | k_is | rfl)
    (case k32 => first | k_is | rfl)
    (case xCM => first | k_is | rfl)
    (case saCM => first | k_is | rfl)
    (case gaCM => first | k_is | rfl)
    (case ggCM => first | k_is | rfl)
    (case exCM => first | k_is | rfl)
    (case tyCM => first | k_is | rfl)
    (case kCCM => first | k_is | rfl)
    (case hdCM => first | k_is | rfl)
    (case clCM => first | k_is | rfl)
    (case moCM => first | k_is | rfl)
    (case sACM => first | k_is | rfl)
    (case nCMwhat => first | k_is | rfl)
    (case g33 => first | k_is | rfl)
    (case t33 => first | k_is | rfl)
    (case l33 => first | k_is | rfl)
    (case c33 => first | k_is | rfl)
    (case k33 => first | k_is | rfl)
    (case xCB => first | k_is | rfl)
    (case saCB => first | k_is | rfl)
    (case gaCB => first | k_is | rfl)
    (case ggCB => first | k_is | rfl)
    (case exCB => first | k_is | rfl)
    (case tyCB => first | k_is | rfl)
    (case kCCB => first | k_is | rfl)
    (case hdCB => first | k_is | rfl)
    (case clCB => first | k_is | rfl)
    (case moCB => first | k_is | rfl)
    (case sACB => first | k_is | rfl)
    (case nCBstate => first | k_is | rfl)
    (case nCBwhat => first | k_is | rfl)
    (case hn => first | k_is | rfl)
    (case ht => first | k_is | rfl)
    (case exCA => first | k_is | rfl)
    (case hdCA => first | k_is | rfl)
    (case tyCA => first | k_is | rfl)
    (case kMM => first | k_is | rfl | kit_is)
    (case kBM => first | k_is | rfl | kit_is)
    (case kBB => first | k_is | rfl | kit_is)
    (case pg => first | k_is | rfl)
    (case hd => first | k_is | rfl)
    (case po => first | k_is | rfl)
    (case sa => first | k_is | rfl)
    (case mk => first | k_is | rfl)
    (case kc => first | k_is | rfl)
    (case nL => first | k_is | rfl)
    (case nR => first | k_is | rfl)
    (case gLag => first | k_is | rfl)
    (case gSt => first | k_is | rfl)
    (case z_len => first | k_is | rfl)
    (case z_range => first | k_is | rfl)
    (case z_tuple => first | k_is | rfl)
    (case z_list => first | k_is | rfl)
    (case z_dict => first | k_is | rfl)
    (case z_sorted => first | k_is | rfl)
    (case z_all => first | k_is | rfl)
    (case z_any => first | k_is | rfl)
    (case z_max => first | k_is | rfl)
    (case z_abs => first | k_is | rfl)
    (case z_int => first | k_is | rfl)
    (case z_str => first | k_is | rfl)
    (case z_bool => first | k_is | rfl)
    (case z_isinstance => first | k_is | rfl)
end
