import PyProof.Rows.All
import Wide.All
import OpenK.AllK
import Wide.FinOn
import KE.KDictKeyed
import KE.KeyNested
import HandS.ForMost
import HandS.SetKeys
import HandS.DictTup
import HandS.DictComp
import HandS.Walk
import HandS.Deep
import HandS.SetFor
import HandS.More
import KE.DataFind
import KE.SortData
import HandS.Style
import HandS.IsInst
import HandS.Conv
import HandS.Wide
import KE.Datum
import HandS.TupSets
import HandS.Strs
import KE.GoesEnum
import PySem.Challenge.RW_stuckrows_k12_whole_who_is_stuck_stays_s
set_option Elab.async false
set_option linter.all false
section
set_option maxRecDepth 100000
set_option maxHeartbeats 1000000
/-! Dicts whose keys are texts and tuples side by side: the look-up, for keys carried by their values. -/
namespace Mx
open PySem

/-- a row of a dict: what the key is, the key itself, the value -/
abbrev Row := NestedKey × Value × Value
def ent (w : World) (x : Row) : DictEntry := ⟨x.1.hash w, x.2.1, x.2.2⟩
/-- u is a key: a text, or a tuple of such things, no deeper than eight -/
structure Key (h : Heap) (k : NestedKey) (u : Value) : Prop where
  is : NestedIs h k u
  low : k.depth ≤ 8
  form : (∃ x t, u = .str x t) ∨ ∃ a, u = .ref a
theorem Key.inj {h : Heap} {k l : NestedKey} {u : Value} (a : Key h k u) (b : Key h l u) : k = l := NestedIs.inj _ _ _ a.is b.is
theorem Key.same {h h' : Heap} {k : NestedKey} {u : Value} (a : Key h k u) (hk : ∀ b o vs n, h.get? b = some o → o.data = .seq vs n → h'.get? b = some o) : Key h' k u := ⟨a.is.at hk, a.low, a.form⟩
theorem Key.but {h h' : Heap} {k : NestedKey} {u : Value} {d : Addr} {o : Obj} {es ep} (a : Key h k u) (ho : h.get? d = some o) (hd : o.data = .dict es ep) (hs : Heap.SameBut d h h') : Key h' k u :=
  a.same fun b ob vs n hb hc => (hs.2 b fun e => by subst e; rw [ho] at hb; cases hb; rw [hd] at hc; cases hc).trans hb
theorem Key.part {h : Heap} {k : NestedKey} {u : Value} (a : Key h k u) : (keyPart u).isSome = true ∨ ∃ b, u = .ref b := by
  rcases a.form with ⟨x, t, e⟩ | e
  · subst e; exact .inl rfl
  · exact .inr e

section
variable {P : Program} {w : World} {A : Around} {E : Value → Shared → Prop} {s : Shared} {d : Addr} {u : Value} {k : NestedKey} {xs : List Row} {o : Obj} {es : Array DictEntry} {ep : Nat}

theorem Key.hash {Q : Int → Shared → Prop} (hu : A.units + 8 < cLine) (a : Key s.heap k u) (h : Q (k.hash w) { s with toks := s.toks + k.draws }) : wpAny (model P w) A (pyHash u) Q E s :=
  pyHash_key k u A s Q a.is (Nat.lt_of_le_of_lt (Nat.add_le_add_left a.low _) hu) h
theorem Key.eq {l : NestedKey} {v : Value} {Q : Bool → Shared → Prop} (hu : A.units + 8 < cLine) (a : Key s.heap k u) (b : Key s.heap l v) (h : Q (decide (k = l)) s) : wpAny (model P w) A (eqBool u v) Q E s := by
  rw [NestedKey.decide_eq] at h
  have low := a.low
  exact eqAt_key k l A s u v a.is b.is (by omega) P w E Q h
theorem Key.quiet {Q : Bool → Shared → Prop} (a : Key s.heap k u) (h : Q true s) : wpAny (model P w) A (eqIsQuiet 8 u) Q E s := quiet_key k u 8 s a.is a.low A E Q h

theorem row_at (he : es.toList = xs.map (ent w)) (j : Nat) : es[j]? = xs[j]?.map (ent w) := by
  rw [← Array.getElem?_toList, he, List.getElem?_map]
theorem rows_len (he : es.toList = xs.map (ent w)) : es.size = xs.length := by
  rw [← Array.length_toList, he, List.length_map]
/-- the places of one hash -/
abbrev spots (es : Array DictEntry) (x : Int) : List Nat := placesWithHash es.size (fun i => es[i]?.map (·.hash)) x
theorem mem_spots {es : Array DictEntry} {x : Int} {i : Nat} : i ∈ spots es x ↔ i < es.size ∧ (es[i]?.map (·.hash)) = some x := by
  unfold spots placesWithHash
  rw [List.mem_filter, List.mem_range, beq_iff_eq]
theorem spots_nodup {es : Array DictEntry} {x : Int} : (spots es x).Nodup := by
  unfold spots placesWithHash
  exact List.nodup_range.filter _
theorem spots_key (he : es.toList = xs.map (ent w)) {j : Nat} {p : Value × Value} (h : xs[j]? = some (k, p)) : j ∈ spots es (k.hash w) := by
  rw [mem_spots, row_at he, h, rows_len he]
  exact ⟨(List.getElem?_eq_some_iff.mp h).1, rfl⟩
theorem spots_row (he : es.toList = xs.map (ent w)) {x : Int} {j : Nat} (h : j ∈ spots es x) : ∃ r, xs[j]? = some r ∧ es[j]? = some (ent w r) := by
  obtain ⟨h1, h2⟩ := mem_spots.mp h
  rw [rows_len he] at h1
  have e : xs[j]? = some xs[j] := List.getElem?_eq_getElem h1
  exact ⟨xs[j], e, by rw [row_at he, e]; rfl⟩
theorem one_place (hn : (xs.map (·.1)).Nodup) {i j : Nat} {p q : Value × Value} (hi : xs[i]? = some (k, p)) (hj : xs[j]? = some (k, q)) : i = j := by
  have a : (xs.map (·.1))[i]? = some k := by rw [List.getElem?_map, hi]; rfl
  have b : (xs.map (·.1))[j]? = some k := by rw [List.getElem?_map, hj]; rfl
  exact (List.getElem?_inj (List.getElem?_eq_some_iff.mp a).1 hn).mp (a.trans b.symm)
theorem no_place (h : ∀ (j : Nat) (p : Value × Value), xs[j]? ≠ some (k, p)) : k ∉ xs.map (·.1) := fun hm => by
  obtain ⟨r, hr, e⟩ := List.mem_map.mp hm
  obtain ⟨j, hj⟩ := List.mem_iff_getElem?.mp hr
  exact h j r.2 (by rw [hj, ← e])
theorem key_at (he : es.toList = xs.map (ent w)) (hx : ∀ x ∈ xs, Key s.heap x.1 x.2.1) {e : DictEntry} (hm : e ∈ es) : ∃ k', Key s.heap k' e.key ∧ e.hash = k'.hash w := by
  have : e ∈ xs.map (ent w) := he ▸ Array.mem_toList_iff.mpr hm
  obtain ⟨x, hxm, e2⟩ := List.mem_map.mp this
  subst e2
  exact ⟨x.1, hx x hxm, rfl⟩

/-- one turn of a look-up: the entry at a place of the hash is asked -/
theorem turn_at {β : Type} {f : Bool → Sem β} {Q : β → Shared → Prop} {j : Nat} {r : Row} (hu : A.units + 8 < cLine) (hk : Key s.heap k u) (ho : s.heap.get? d = some o) (hd : o.data = .dict es ep) (hr : Key s.heap r.1 r.2.1)
    (h : wpAny (model P w) A (f (decide (r.1 = k))) Q E s) :
    wpAny (model P w) A (do
      let before ← dictEpoch d (keyPart u)
      let same ← eqBool (ent w r).key u
      if (← dictEpoch d (keyPart u)) != before then unsupported "dict.changed-during-lookup"
      f same) Q E s := by
  refine wpAny_bind (wpAny_dictEpoch ho hd (wpAny_bind (hr.eq hu hk (wpAny_bind (wpAny_dictEpoch ho hd ?_)))))
  show wpAny _ _ (if (ep != ep) = true then _ else _) _ E _
  rw [if_neg (by simp)]
  exact h

theorem find_mx {Q : Option Nat → Shared → Prop} (hu : A.units + 8 < cLine) (hk : Key s.heap k u) (ho : s.heap.get? d = some o) (hd : o.data = .dict es ep) (he : es.toList = xs.map (ent w)) (hx : ∀ x ∈ xs, Key s.heap x.1 x.2.1)
    (hn : (xs.map (·.1)).Nodup) (h0 : (∀ (j : Nat) (p : Value × Value), xs[j]? ≠ some (k, p)) → Q none s) (h1 : ∀ (j : Nat) (p : Value × Value), xs[j]? = some (k, p) → Q (some j) s) : wpAny (model P w) A (dictFind d u (k.hash w)) Q E s := by
  have rowkey : ∀ {j : Nat} {r : Row}, xs[j]? = some r → Key s.heap r.1 r.2.1 := fun h => hx _ (List.mem_of_getElem? h)
  have step : ∀ {j : Nat} {dn rest : List Nat} {r : Row}, spots es (k.hash w) = dn ++ j :: rest → (∀ i ∈ dn, ∀ p, xs[i]? ≠ some (k, p)) → xs[j]? = some r → r.1 ≠ k → ∀ i ∈ dn ++ [j], ∀ p, xs[i]? ≠ some (k, p) := fun _ hdn hj hne i hi p e => by
    rcases List.mem_append.mp hi with hi | hi
    · exact hdn i hi p e
    · have hi : i = _ := List.mem_singleton.mp hi
      rw [hi, hj] at e
      cases e
      exact hne rfl
  unfold dictFind
  try with_reducible refine wpAny_holding ?_
  refine wpAny_bind (wpAny_dictEntries ho hd ?_)
  dsimp only
  -- the look by the keys' own words
  have plain : wpAny (model P w) A (dictWalkPlain d u (k.hash w) es (spots es (k.hash w))) Q E s := by
    unfold dictWalkPlain
    refine wpAny_bind ?_
    refine wpAny_forIn_list _ (fun rest b s' => s' = s ∧ b = (none, ()) ∧ ∃ dn, spots es (k.hash w) = dn ++ rest ∧ ∀ i ∈ dn, ∀ p, xs[i]? ≠ some (k, p)) _ ?_ ?_ _ _ ⟨rfl, rfl, [], rfl, fun _ h => nomatch h⟩
    · rintro j rest b s' ⟨rfl, rfl, dn, hs, hdn⟩
      have hj : j ∈ spots es (k.hash w) := by rw [hs]; exact List.mem_append_right _ List.mem_cons_self
      obtain ⟨r, hr, hre⟩ := spots_row he hj
      have hh : (ent w r).hash = k.hash w := by
        have := (mem_spots.mp hj).2
        rw [hre] at this
        exact Option.some.inj this
      simp only [hre]
      rw [if_pos (by rw [hh]; exact beq_self_eq_true _)]
      refine wpAny_bind (wpAny_dictEpoch ho hd (wpAny_bind ((rowkey hr).eq hu hk (wpAny_bind (wpAny_dictEpoch ho hd ?_)))))
      show wpAny _ _ (if (ep != ep) = true then _ else _) _ E _
      rw [if_neg (by simp)]
      by_cases e : r.1 = k
      · rw [decide_eq_true e]
        refine wpAny_bind (wpAny_rule (wpAny_pure (wpAny_pure ?_)))
        exact h1 j r.2 (by rw [hr, ← e])
      · rw [decide_eq_false e]
        exact wpAny_bind (wpAny_rule (wpAny_pure ⟨rfl, rfl, dn ++ [j], by rw [hs, List.append_assoc]; rfl, step hs hdn hr e⟩))
    · rintro b s' ⟨rfl, rfl, dn, hs, hdn⟩
      rw [List.append_nil] at hs
      exact wpAny_pure (h0 fun j p hj => hdn j (hs ▸ spots_key he hj) p hj)
  -- the look where an object is among them
  have tell : ∀ {f : Bool → Sem (Option Nat)} {stored : List Value}, (∀ v ∈ stored, ∃ k', Key s.heap k' v) → wpAny (model P w) A (f false) Q E s → wpAny (model P w) A (if (stored == [u]) = true then pure false >>= f else tableMayTell u stored >>= f) Q E s := by
    intro f stored hst h
    by_cases e : (stored == [u]) = true
    · rw [if_pos e]; exact wpAny_bind (wpAny_pure h)
    · rw [if_neg e]
      refine wpAny_bind ?_
      unfold tableMayTell
      split
      · exact wpAny_pure h
      · refine wpAny_bind (hk.quiet ?_)
        simp only [Bool.not_true, Bool.false_eq_true, if_false]
        refine wpAny_bind ?_
        refine wpAny_forIn_list _ (fun rest r s' => s' = s ∧ r = (none, ()) ∧ ∀ v ∈ rest, ∃ k', Key s.heap k' v) _ ?_ ?_ _ _ ⟨rfl, rfl, hst⟩
        · rintro v rest r s' ⟨rfl, rfl, hr⟩
          obtain ⟨k', hv⟩ := hr v List.mem_cons_self
          refine wpAny_bind (hv.quiet ?_)
          simp only [Bool.not_true, Bool.false_eq_true, if_false]
          exact wpAny_pure ⟨rfl, rfl, fun z hz => hr z (List.mem_cons_of_mem _ hz)⟩
        · rintro r s' ⟨rfl, rfl, _⟩
          exact wpAny_pure h
  have hst : ∀ v ∈ (spots es (k.hash w)).filterMap (fun i => es[i]?.map (·.key)), ∃ k', Key s.heap k' v := fun v hv => by
    obtain ⟨i, hi, hv⟩ := List.mem_filterMap.mp hv
    obtain ⟨r, hr, hre⟩ := spots_row he hi
    rw [hre] at hv
    cases hv
    exact ⟨r.1, rowkey hr⟩
  have hmem : ∀ e ∈ es, ∃ k', Key s.heap k' e.key ∧ e.hash = k'.hash w := fun e hm => key_at he hx hm
  have byTx : ∀ {x : Str} {t : Tok}, u = .str x t → wpAny (model P w) A (foundByValue d u es x) Q E s := by
    rintro x t rfl
    have kx : k = .text x := hk.inj ⟨.text x t, Nat.zero_le _, .inl ⟨x, t, rfl⟩⟩
    have same : ∀ {j : Nat} {r : Row}, xs[j]? = some r → r.2.1.isStr x = true → r.1 = k := fun {j r} hr hs => by
      have q := (rowkey hr).is
      obtain ⟨r1, r2, r3⟩ := r
      simp only at q hs ⊢
      cases q with
      | text y t' =>
        have e : y = x := by simpa [Value.isStr] using hs
        rw [kx, e]
      | none => simp [Value.isStr] at hs
      | bool _ => simp [Value.isStr] at hs
      | int _ _ => simp [Value.isStr] at hs
      | tup _ _ _ _ => simp [Value.isStr] at hs
    unfold foundByValue
    cases hf : es.findIdx? (fun e => e.key.isStr x) with
    | none =>
      refine wpAny_pure (h0 fun j p hj => ?_)
      have z := Array.findIdx?_eq_none_iff.mp hf (ent w (k, p)) (Array.mem_of_getElem? (by rw [row_at he, hj]; rfl))
      have q := (rowkey hj).is
      rw [kx] at q
      obtain ⟨p1, p2⟩ := p
      simp only at q
      cases q with
      | text _ t' => simp [ent, Value.isStr] at z
    | some j =>
      obtain ⟨hlt, hj, _⟩ := Array.findIdx?_eq_some_iff_getElem.mp hf
      have hl : j < xs.length := by rw [← rows_len he]; exact hlt
      have hr : xs[j]? = some xs[j] := List.getElem?_eq_getElem hl
      have hre : es[j]? = some (ent w xs[j]) := by rw [row_at he, hr]; rfl
      have hee : es[j] = ent w xs[j] := by rw [Array.getElem?_eq_getElem hlt] at hre; exact Option.some.inj hre
      have hk' : xs[j].1 = k := same hr (by rw [hee] at hj; exact hj)
      simp only [hre]
      refine wpAny_bind (wpAny_dictEpoch ho hd (wpAny_bind ((rowkey hr).eq hu hk (wpAny_bind (wpAny_dictEpoch ho hd ?_)))))
      show wpAny _ _ (if (ep != ep) = true then _ else _) _ E _
      rw [if_neg (by simp), decide_eq_true hk']
      exact wpAny_bind (wpAny_rule (wpAny_pure (h1 j xs[j].2 (by rw [hr, ← hk']))))
  rcases hk.form with ⟨x, t, rfl⟩ | ⟨a, rfl⟩
  all_goals dsimp only
  by_cases hall : (es.all fun e => isExactStrKey e.key) = true
  · rw [if_pos hall]
    exact byTx rfl
  rw [if_neg hall]
  by_cases hval : ((Value.str x t :: (spots es (k.hash w)).filterMap (fun i => es[i]?.map (·.key))).all carriedByValue) = true
  · rw [if_pos hval]
    exact plain
  rw [if_neg hval]
  rotate_left
  rw [if_neg (by simp [carriedByValue])]
  rw [if_neg (by
    rw [← Array.any_toList, List.any_eq_true]
    rintro ⟨e, hin, hc⟩
    obtain ⟨k', h2, h3⟩ := hmem e (Array.mem_toList_iff.mp hin)
    simp only [Bool.and_eq_true, beq_iff_eq, bne_iff_ne, ne_eq] at hc
    rw [hc.1] at h2
    exact hc.2 (by rw [h3, h2.inj hk]))]
  all_goals
    refine tell hst ?_
    rw [if_neg (by simp)]
    refine wpAny_bind ?_
    refine wpAny_forIn_list _ (fun rest b s' => s' = s ∧ ∃ dn hit, b = (none, hit) ∧ spots es (k.hash w) = dn ++ rest ∧
      ((hit = none ∧ ∀ i ∈ dn, ∀ p, xs[i]? ≠ some (k, p)) ∨ ∃ j p, hit = some j ∧ j ∈ dn ∧ xs[j]? = some (k, p))) _ ?_ ?_ _ _ ⟨rfl, [], none, rfl, rfl, .inl ⟨rfl, fun _ h => nomatch h⟩⟩
  all_goals first
    | (rintro j rest b s' ⟨rfl, dn, hit, rfl, hs, hH⟩
       have hj : j ∈ spots es (k.hash w) := by rw [hs]; exact List.mem_append_right _ List.mem_cons_self
       obtain ⟨r, hr, hre⟩ := spots_row he hj
       have hh : (ent w r).hash = k.hash w := by
         have := (mem_spots.mp hj).2
         rw [hre] at this
         exact Option.some.inj this
       simp only [hre]
       rw [if_pos (by rw [hh]; exact beq_self_eq_true _)]
       refine wpAny_bind (wpAny_dictEpoch ho hd (wpAny_bind ((rowkey hr).eq hu hk (wpAny_bind (wpAny_dictEpoch ho hd ?_)))))
       show wpAny _ _ (if (ep != ep) = true then _ else _) _ E _
       rw [if_neg (by simp)]
       by_cases e : r.1 = k
       · rw [decide_eq_true e]
         have hrk : xs[j]? = some (k, r.2) := by rw [hr, ← e]
         rcases hH with ⟨rfl, _⟩ | ⟨i, p, _, hi, hp⟩
         · simp only [Option.isSome_none, Bool.false_eq_true, if_false, if_true]
           refine wpAny_bind (wpAny_rule ?_)
           split
           · exact wpAny_pure (wpAny_pure (h1 j _ hrk))
           · exact wpAny_pure ⟨rfl, dn ++ [j], some j, rfl, by rw [hs, List.append_assoc]; rfl, .inr ⟨j, _, rfl, List.mem_append_right _ List.mem_cons_self, hrk⟩⟩
         · have nd := spots_nodup (es := es) (x := k.hash w)
           rw [hs, List.nodup_append] at nd
           exact (nd.2.2 i hi j List.mem_cons_self (one_place hn hp hrk)).elim
       · rw [decide_eq_false e]
         simp only [Bool.false_eq_true, if_false]
         refine wpAny_bind (wpAny_rule ?_)
         rw [if_neg (by simp)]
         refine wpAny_pure ⟨rfl, dn ++ [j], hit, rfl, by rw [hs, List.append_assoc]; rfl, ?_⟩
         rcases hH with ⟨h2, h3⟩ | ⟨i, p, h2, h3, h4⟩
         · exact .inl ⟨h2, step hs h3 hr e⟩
         · exact .inr ⟨i, p, h2, List.mem_append_left _ h3, h4⟩)
    | (rintro b s' ⟨rfl, dn, hit, rfl, hs, hH⟩
       rw [List.append_nil] at hs
       rcases hH with ⟨rfl, h3⟩ | ⟨i, p, rfl, _, h4⟩
       · exact wpAny_pure (h0 fun j p hj => h3 j (hs ▸ spots_key he hj) p hj)
       · exact wpAny_pure (h1 i p h4))
end
end Mx
end
section
set_option maxRecDepth 100000
set_option maxHeartbeats 2000000
/-! Such a dict as a tracked thing of the hand layer: read, stored to, walked. -/
namespace Mx
open PySem L2

/-! ### the rows -/
def rowV (xs : List Row) (k : NestedKey) : Option Value := (xs.find? fun x => decide (x.1 = k)).map fun x => x.2.2
def rowPut (xs : List Row) (k : NestedKey) (u v : Value) : List Row := if (rowV xs k).isSome then xs.map (fun x => if x.1 = k then (x.1, x.2.1, v) else x) else xs ++ [(k, u, v)]
theorem rowV_none {xs : List Row} {k : NestedKey} (h : ∀ (j : Nat) (p : Value × Value), xs[j]? ≠ some (k, p)) : rowV xs k = none := by
  unfold rowV
  rw [List.find?_eq_none.mpr, Option.map_none]
  intro x hx hk
  obtain ⟨j, hj⟩ := List.mem_iff_getElem?.mp hx
  exact h j x.2 (by rw [hj, ← of_decide_eq_true hk])
theorem rowV_some {k : NestedKey} : ∀ {xs : List Row} {j : Nat} {p : Value × Value}, (xs.map (·.1)).Nodup → xs[j]? = some (k, p) → rowV xs k = some p.2
  | [], _, _, _, h => by simp at h
  | x :: xs, 0, p, _, h => by
    have e : x = (k, p) := by simpa using h
    subst e
    simp [rowV]
  | x :: xs, j + 1, p, hn, h => by
    rw [List.map_cons, List.nodup_cons] at hn
    have h' : xs[j]? = some (k, p) := by simpa using h
    have ne : ¬ x.1 = k := fun e => hn.1 (List.mem_map.mpr ⟨_, List.mem_of_getElem? h', e.symm⟩)
    have ih := rowV_some hn.2 h'
    simpa [rowV, List.find?_cons, ne] using ih

section
variable {P : Program} {w : World} {A : Around} {E : Value → Shared → Prop} {s : Shared} {d : Addr} {u v : Value} {k : NestedKey} {xs : List Row}
/-- at d a dict of the rows xs -/
def Rows (w : World) (h : Heap) (d : Addr) (xs : List Row) : Prop := ∃ o es ep, h.get? d = some o ∧ o.ExactDict ∧ o.data = .dict es ep ∧ es.toList = xs.map (ent w) ∧ (xs.map (·.1)).Nodup
theorem Rows.typeIs (r : Rows w s.heap d xs) : s.TypeIs (.ref d) "dict" := let ⟨o, _, _, ho, hc, _⟩ := r; ⟨o, ho, hc.1⟩
theorem Rows.get {Q : Option Value → Shared → Prop} (hu : A.units + 8 < cLine) (hk : Key s.heap k u) (hx : ∀ x ∈ xs, Key s.heap x.1 x.2.1) (r : Rows w s.heap d xs) (h : Q (rowV xs k) { s with toks := s.toks + k.draws }) :
    wpAny (model P w) A (dictGet d u) Q E s := by
  obtain ⟨o, es, ep, ho, _, hd, he, hn⟩ := r
  unfold dictGet
  try with_reducible refine wpAny_holding ?_
  refine wpAny_bind (hk.hash hu (wpAny_bind (find_mx (s := { s with toks := s.toks + k.draws }) hu hk ho hd he hx hn (fun h0 => ?_) fun j p hj => ?_)))
  · rw [rowV_none h0] at h
    exact wpAny_pure h
  · rw [rowV_some hn hj] at h
    refine wpAny_bind (wpAny_dictEntries (s := { s with toks := s.toks + k.draws }) ho hd ?_)
    rw [row_at he j, hj]
    exact wpAny_pure h
theorem map_put_off {k : NestedKey} (v : Value) : ∀ (xs : List Row), k ∉ xs.map (·.1) → xs.map (fun x => if x.1 = k then (x.1, x.2.1, v) else x) = xs
  | [], _ => rfl
  | x :: xs, h => by
    rw [List.map_cons, List.mem_cons, not_or] at h
    rw [List.map_cons, if_neg (fun e => h.1 e.symm), map_put_off v xs h.2]
theorem modify_put {k : NestedKey} (v : Value) : ∀ {xs : List Row} {j : Nat} {p : Value × Value}, (xs.map (·.1)).Nodup → xs[j]? = some (k, p) →
    (xs.map (ent w)).modify j (fun e => { e with val := v }) = (xs.map fun x => if x.1 = k then (x.1, x.2.1, v) else x).map (ent w)
  | [], _, _, _, h => by simp at h
  | x :: xs, 0, p, hn, h => by
    have e : x = (k, p) := by simpa using h
    subst e
    rw [List.map_cons, List.nodup_cons] at hn
    rw [List.map_cons, List.map_cons, if_pos rfl, List.map_cons, map_put_off v xs hn.1]
    rfl
  | x :: xs, j + 1, p, hn, h => by
    rw [List.map_cons, List.nodup_cons] at hn
    have h' : xs[j]? = some (k, p) := by simpa using h
    have ne : ¬ x.1 = k := fun e => hn.1 (List.mem_map.mpr ⟨_, List.mem_of_getElem? h', e.symm⟩)
    rw [List.map_cons, List.map_cons, if_neg ne, List.map_cons, List.modify_succ_cons, modify_put v hn.2 h']
theorem keys_put {k : NestedKey} (v : Value) (xs : List Row) : (xs.map fun x => if x.1 = k then (x.1, x.2.1, v) else x).map (·.1) = xs.map (·.1) := by
  rw [List.map_map]
  refine List.map_congr_left fun x _ => ?_
  by_cases e : x.1 = k <;> simp [e]
/-- the state behind a store: what is stored, by whether the key stands there already -/
theorem Rows.changed {Q : Unit → Shared → Prop} (hsz : xs.length ≤ sizeLine) (hu : A.units + 8 < cLine) (hk : Key s.heap k u) (hx : ∀ x ∈ xs, Key s.heap x.1 x.2.1) (r : Rows w s.heap d xs)
    (h : ∀ h', Rows w h' d (rowPut xs k u v) → Heap.SameBut d s.heap h' → Q () { s with heap := h', toks := s.toks + k.draws }) : wpAny (model P w) A (dictSet d u v) Q E s := by
  obtain ⟨o, es, ep, ho, hc, hd, he, hn⟩ := r
  unfold dictSet
  try with_reducible refine wpAny_holding ?_
  refine wpAny_bind (hk.hash hu ?_)
  unfold dictSetHashed
  try with_reducible refine wpAny_holding ?_
  refine wpAny_bind (find_mx (s := { s with toks := s.toks + k.draws }) hu hk ho hd he hx hn (fun h0 => ?_) fun j p hj => ?_)
  · have e : rowPut xs k u v = xs ++ [(k, u, v)] := by unfold rowPut; rw [rowV_none h0]; rfl
    refine wpAny_bind (wpAny_rule (wpAny_updateDictKeys (hz := by have e := rows_len he; omega) (s := { s with toks := s.toks + k.draws }) ho hd (h _ ⟨_, _, ep + 1, Heap.get?_update_self _ ho (Obj.isFreed_of_dict (Obj.data_mapDictKeys hd _)), hc.mapDictKeys _, Obj.data_mapDictKeys hd _, ?_, ?_⟩ (Heap.SameBut.update ..))))
    · rw [e]
      simp [he, ent]
    · rw [e, List.map_append, List.nodup_append]
      refine ⟨hn, by simp, fun a ha b hb => ?_⟩
      have hb : b = k := by simpa using hb
      rw [hb]
      exact fun e => no_place h0 (e ▸ ha)
  · have e : rowPut xs k u v = xs.map fun x => if x.1 = k then (x.1, x.2.1, v) else x := by unfold rowPut; rw [rowV_some hn hj]; rfl
    refine wpAny_bind (wpAny_rule (wpAny_bind (wpAny_updateDict (s := { s with toks := s.toks + k.draws }) ho hd (wpAny_point (h _ ⟨_, _, ep, Heap.get?_update_self _ ho (Obj.isFreed_of_dict (Obj.data_mapDict hd _)), hc.mapDict _, Obj.data_mapDict hd _, ?_, ?_⟩ (Heap.SameBut.update ..))))))
    · rw [e]
      have z := modify_put (w := w) v hn hj
      rw [← he] at z
      obtain ⟨l⟩ := es
      simpa using z
    · rw [e, keys_put]
      exact hn
theorem Rows.setdefault {dv : Value} {Q : Value → Shared → Prop} (hsz : xs.length ≤ sizeLine) (hu : A.units + 8 < cLine) (hk : Key s.heap k u) (hx : ∀ x ∈ xs, Key s.heap x.1 x.2.1) (r : Rows w s.heap d xs)
    (h1 : ∀ v, rowV xs k = some v → Q v { s with toks := s.toks + k.draws })
    (h2 : rowV xs k = none → ∀ h', Rows w h' d (xs ++ [(k, u, dv)]) → Heap.SameBut d s.heap h' → Q dv { s with heap := h', toks := s.toks + k.draws }) : wpAny (model P w) A (dictSetDefault d u dv) Q E s := by
  obtain ⟨o, es, ep, ho, hc, hd, he, hn⟩ := r
  unfold dictSetDefault
  try with_reducible refine wpAny_holding ?_
  refine wpAny_bind (hk.hash hu ?_)
  refine wpAny_bind (find_mx (s := { s with toks := s.toks + k.draws }) hu hk ho hd he hx hn (fun h0 => ?_) fun j p hj => ?_)
  · refine wpAny_bind (wpAny_rule (wpAny_bind (wpAny_updateDictKeys (hz := by have e := rows_len he; omega) (s := { s with toks := s.toks + k.draws }) ho hd (wpAny_pure (h2 (rowV_none h0) _ ⟨_, _, ep + 1, Heap.get?_update_self _ ho (Obj.isFreed_of_dict (Obj.data_mapDictKeys hd _)), hc.mapDictKeys _, Obj.data_mapDictKeys hd _, ?_, ?_⟩ (Heap.SameBut.update ..))))))
    · simp [he, ent]
    · rw [List.map_append, List.nodup_append]
      refine ⟨hn, by simp, fun a ha b hb => ?_⟩
      have hb : b = k := by simpa using hb
      rw [hb]
      exact fun e => no_place h0 (e ▸ ha)
  · refine wpAny_bind (wpAny_dictEntries (s := { s with toks := s.toks + k.draws }) ho hd ?_)
    rw [row_at he j, hj]
    exact wpAny_bind (wpAny_rule (wpAny_pure (h1 p.2 (rowV_some hn hj))))
end
end Mx
end
section
set_option maxRecDepth 100000
set_option maxHeartbeats 2000000
/-! Dicts keyed by items (texts and rows): tracked, with their keys' own values V told. -/
namespace Mx
open PySem L2

/-- y is the key k: a text, or a tuple of a text and an int -/
inductive KeyV (H : Hp) : NestedKey → V → Prop
  | str (x : Str) : KeyV H (.text x) (.str x)
  | tup {a : Addr} {x : Str} {i : Int} : H a = some (.tup [.str x, .int i]) → KeyV H (.tup [.text x, .num i]) (.ref a)
theorem KeyV.mono {H H' : Hp} {k : NestedKey} {y : V} (ht : ∀ b xs, H b = some (.tup xs) → H' b = some (.tup xs)) : KeyV H k y → KeyV H' k y
  | .str x => .str x
  | .tup h => .tup (ht _ _ h)
/-- some items J: each has its key, and different ones have different keys -/
structure Items (H : Hp) (kof : V → NestedKey) (J : List V) : Prop where
  key : ∀ v ∈ J, KeyV H (kof v) v
  inj : ∀ v ∈ J, ∀ y ∈ J, kof v = kof y → v = y
theorem Items.mono {H H' : Hp} {kof : V → NestedKey} {J : List V} (t : Items H kof J) (ht : ∀ b xs, H b = some (.tup xs) → H' b = some (.tup xs)) : Items H' kof J := ⟨fun v hv => (t.key v hv).mono ht, t.inj⟩

abbrev RelRow (kof : V → NestedKey) (p : V × V) (x : Row) : Prop := kof p.1 = x.1 ∧ RelV p.1 x.2.1 ∧ RelV p.2 x.2.2
def MixAt (w : World) (kof : V → NestedKey) (a : Addr) (kvs : List (V × V)) (h : Heap) : Prop :=
  kvs.length ≤ sizeLine ∧ (a == sysModules) = false ∧ ∃ xs, Paired (RelRow kof) kvs xs ∧ Rows w h a xs
def MixO (w : World) (kof : V → NestedKey) (a : Addr) (kvs : List (V × V)) : HO := .ext (MixAt w kof a kvs)

section
variable {X : Cx} {pins : List (Addr × Obj)} {σ : St} {H : Hp} {s : Shared} {a : Addr} {A : Around} {E : Value → Shared → Prop} {kof : V → NestedKey} {J : List V} {kvs : List (V × V)} {y v : V} {u r : Value}

theorem mix_new {P : Program} {w : World} {H : Hp} {h : Heap} (m : MixAt w kof a kvs h) : ObjOk P w H h a (MixO w kof a kvs) := by
  obtain ⟨h1, h2, xs, h3, o, es, ep, ho, r⟩ := id m
  refine ⟨m, ⟨o, ho⟩, fun g g' z hk => ?_⟩
  obtain ⟨h1, h2, xs, h3, o, es, ep, ho, r⟩ := z
  exact ⟨h1, h2, xs, h3, o, es, ep, hk o ho, r⟩
theorem KeyV.at_ (I : Inv X pins σ H s) {k : NestedKey} (h : KeyV H k y) (ry : RelV y u) : Key s.heap k u := by
  cases h with
  | str x =>
    obtain ⟨t, rfl⟩ := ry
    exact ⟨.text x t, Nat.zero_le _, .inl ⟨x, t, rfl⟩⟩
  | @tup a x i h =>
    cases (show u = Value.ref a from ry)
    obtain ⟨_, its, rv, o, ho, hc, n, hd⟩ := (show ObjOk X.prog X.w H s.heap a (.tup [.str x, .int i]) from I.hok a _ h)
    cases rv with
    | cons r1 rv =>
      cases rv with
      | cons r2 rv =>
        cases rv
        obtain ⟨t1, e1⟩ := r1
        obtain ⟨t2, e2⟩ := r2
        subst e1 e2
        exact ⟨.tup ho hc hd (.cons (.text x t1) (.cons (.int i t2) .nil)), (show (1 : Nat) ≤ 8 by decide), .inr ⟨a, rfl⟩⟩
theorem rows_keys (I : Inv X pins σ H s) (t : Items H kof J) : ∀ {kvs : List (V × V)} {xs : List Row}, (∀ p ∈ kvs, p.1 ∈ J) → Paired (RelRow kof) kvs xs → ∀ x ∈ xs, Key s.heap x.1 x.2.1
  | _, _, _, .nil, _, h => nomatch h
  | _, _, hJ, .cons r q, x, h => by
    rcases List.mem_cons.mp h with e | h
    · subst e
      have z := (t.key _ (hJ _ List.mem_cons_self)).at_ I r.2.1
      rw [r.1] at z
      exact z
    · exact rows_keys I t (fun p hp => hJ p (List.mem_cons_of_mem _ hp)) q x h
theorem rows_val (t : Items H kof J) (hy : y ∈ J) {kvs : List (V × V)} {xs : List Row} (hJ : ∀ p ∈ kvs, p.1 ∈ J) (q : Paired (RelRow kof) kvs xs) : RelO (valV kvs y) (rowV xs (kof y)) := by
  induction q with
  | nil => exact True.intro
  | @cons p x ps xs' r q ih =>
    have ih := ih fun p hp => hJ p (List.mem_cons_of_mem _ hp)
    by_cases e : p.1 = y
    · rw [valV_pos e]
      have e2 : x.1 = kof y := by rw [← r.1, e]
      simp only [rowV, List.find?_cons, e2, decide_true, Option.map_some]
      exact r.2.2
    · rw [valV_neg e]
      have e2 : ¬ x.1 = kof y := fun z => e (t.inj _ (hJ _ List.mem_cons_self) _ hy (r.1.trans z))
      simp only [rowV, List.find?_cons, e2, decide_false]
      exact ih
theorem rows_put (t : Items H kof J) (hy : y ∈ J) (ry : RelV y u) (rv : RelV v r) {xs : List Row} (hJ : ∀ p ∈ kvs, p.1 ∈ J) (q : Paired (RelRow kof) kvs xs) : Paired (RelRow kof) (putK kvs y v) (rowPut xs (kof y) u r) := by
  have e : (kvs.any fun kv => decide (kv.1 = y)) = (rowV xs (kof y)).isSome := by rw [valV_any]; exact (rows_val t hy hJ q).isSome_eq
  unfold putK rowPut
  rw [e]
  by_cases g : (rowV xs (kof y)).isSome = true
  · rw [if_pos g, if_pos g]
    clear e g
    induction q with
    | nil => exact .nil
    | @cons p x ps xs' r' q' ih =>
      rw [List.map_cons, List.map_cons]
      refine .cons ?_ (ih fun p hp => hJ p (List.mem_cons_of_mem _ hp))
      by_cases e : p.1 = y
      · rw [if_pos e, if_pos (by rw [← r'.1, e])]
        exact ⟨r'.1, r'.2.1, rv⟩
      · rw [if_neg e, if_neg (fun z => e (t.inj _ (hJ _ List.mem_cons_self) _ hy (r'.1.trans z)))]
        exact r'
  · rw [if_neg g, if_neg g]
    exact Paired.snoc q ⟨rfl, ry, rv⟩

/-- what is to be seen ahead of an operation -/
structure MOk (w : World) (H : Hp) (kof : V → NestedKey) (J : List V) (a : Addr) (kvs : List (V × V)) : Prop where
  at_ : Rd H a (MixO w kof a kvs)
  it : Items H kof J
  sub : ∀ p ∈ kvs, p.1 ∈ J
theorem MOk.open_ {P : Program} {h : Heap} {w : World} (m : MOk w H kof J a kvs) (ok : HOk P w H h) : MixAt w kof a kvs h := ((show ObjOk P w H h a (MixO w kof a kvs) from m.at_.ok ok)).1
theorem sub_put (hJ : ∀ p ∈ kvs, p.1 ∈ J) (hy : y ∈ J) : ∀ p ∈ putK kvs y v, p.1 ∈ J := fun p hp => by
  unfold putK at hp
  split at hp
  · obtain ⟨q, hq, e⟩ := List.mem_map.mp hp
    subst e
    split
    · exact hJ q hq
    · exact hJ q hq
  · rcases List.mem_append.mp hp with h | h
    · exact hJ p h
    · have e : p = (y, v) := by simpa using h
      rw [e]; exact hy

theorem m_getItem {Q : Value → Shared → Prop} (hu : A.units + 9 < cLine) (I : Inv X pins σ H s) (m : MOk X.w H kof J a kvs) (hy : y ∈ J) (hv : valV kvs y = some v) (ry : RelV y u) (h : ∀ w' s', Inv X pins σ H s' → RelV v w' → Q w' s') :
    wpAny (model X.prog X.w) A (getItem (.ref a) u) Q E s := by
  obtain ⟨_, _, xs, q, R⟩ := m.open_ I.hok
  have z := rows_val m.it hy m.sub q
  rw [hv] at z
  cases e : rowV xs (kof y) with
  | none => rw [e] at z; exact (show False from z).elim
  | some w' =>
    rw [e] at z
    unfold getItem
    try with_reducible refine wpAny_holding ?_
    refine wpAny_bind (wpAny_sequenceKey R.typeIs (by decide) ?_)
    refine wpAny_bind (wpAny_callSpecial?_slot (name := Str.ofString "__getitem__") R.typeIs slot_dict_getitem (wpAny_call_entry slot_dict_getitem R.typeIs entry_dict_getitem ?_ (args_dict_getitem _ _)))
    show wpAny _ _ (dictGet a u >>= _) _ _ s
    refine wpAny_bind (R.get (by simp only [Around.in1_units]; omega) ((m.it.key y hy).at_ I ry) (rows_keys I m.it m.sub q) ?_)
    rw [e]
    exact wpAny_pure ⟨w', rfl, wpAny_pure (h w' _ (I.tok _) z)⟩
theorem m_get2 {dv : V} {Q : Value → Shared → Prop} (hu : A.units + 9 < cLine) (I : Inv X pins σ H s) (m : MOk X.w H kof J a kvs) (hy : y ∈ J) (ry : RelV y u) (rd : RelV dv r) (h : ∀ w' s', Inv X pins σ H s' → RelV ((valV kvs y).getD dv) w' → Q w' s') :
    wpAny (model X.prog X.w) A (call (.builtin "dict.get") [.ref a, u, r]) Q E s := by
  obtain ⟨_, hd, xs, q, R⟩ := m.open_ I.hok
  have z := (rows_val m.it hy m.sub q).getD rd
  refine call_meetsIn PySem.F.slot_dict_get R.typeIs PySem.F.entry_dict_get (PySem.F.args_dict_get_3 _ _ _) (S := fun A' R' s' => A' = A ∧ s' = s ∧ ∀ t, R' (.ok (.ret ((rowV xs (kof y)).getD r))) { s with toks := t }) (.of_wp fun A' R' s' hS => ?_) ⟨rfl, rfl, fun t => h _ _ (I.tok t) z⟩
  obtain ⟨rfl, rfl, hq⟩ := hS
  show wpAny _ _ (dictGet a u >>= _) _ _ _
  refine wpAny_bind (R.get (by simp only [Around.in1_units]; omega) ((m.it.key y hy).at_ I ry) (rows_keys I m.it m.sub q) ?_)
  cases e : rowV xs (kof y) with
  | some w' =>
    rw [e] at hq
    exact wpAny_pure ⟨w', rfl, hq _⟩
  | none =>
    rw [e] at hq
    show wpAny _ _ (Builtin.Dict.missed a u >>= _) _ _ _
    exact wpAny_bind (wpAny_missed_other hd (wpAny_pure ⟨r, rfl, hq _⟩))
theorem m_write {h' : Heap} {t' : Nat} {ob : HO} (I : Inv X pins σ H s) (ha : H a = some (MixO X.w kof a kvs)) (hs : Heap.SameBut a s.heap h') (he : ∃ q, h'.get? a = some q) (new : ObjOk X.prog X.w (upd H a ob) h' a ob) :
    Inv X pins σ (upd H a ob) { s with heap := h', toks := t' } := d_write I (by rw [ha]; exact True.intro) hs he new
/-- a store changes that dict alone -/
theorem m_dictSet {Q : Unit → Shared → Prop} (hu : A.units + 8 < cLine) (I : Inv X pins σ H s) (ha : H a = some (MixO X.w kof a kvs)) (t : Items H kof J) (hJ : ∀ p ∈ kvs, p.1 ∈ J) (hy : y ∈ J) (hl : kvs.length < sizeLine) (ry : RelV y u) (rv : RelV v r)
    (h : ∀ s', Inv X pins σ (upd H a (MixO X.w kof a (putK kvs y v))) s' → Q () s') : wpAny (model X.prog X.w) A (dictSet a u r) Q E s := by
  have m : MOk X.w H kof J a kvs := ⟨.inl ha, t, hJ⟩
  obtain ⟨_, hd, xs, q, R⟩ := m.open_ I.hok
  have hz : xs.length ≤ sizeLine := by rw [← Paired.length q]; omega
  refine R.changed hz hu ((t.key y hy).at_ I ry) (rows_keys I t hJ q) fun h' R' hs => h _ (m_write I ha hs ?_ (mix_new ⟨?_, hd, _, rows_put t hy ry rv hJ q, R'⟩))
  · obtain ⟨o, _, _, ho, _⟩ := R'
    exact ⟨o, ho⟩
  · have := length_putK kvs y v
    omega
theorem m_setItem {Q : Unit → Shared → Prop} (hu : A.units + 9 < cLine) (I : Inv X pins σ H s) (ha : H a = some (MixO X.w kof a kvs)) (t : Items H kof J) (hJ : ∀ p ∈ kvs, p.1 ∈ J) (hy : y ∈ J) (hl : kvs.length < sizeLine) (ry : RelV y u) (rv : RelV v r)
    (h : ∀ s', Inv X pins σ (upd H a (MixO X.w kof a (putK kvs y v))) s' → Q () s') : wpAny (model X.prog X.w) A (setItem (.ref a) u r) Q E s := by
  have m : MOk X.w H kof J a kvs := ⟨.inl ha, t, hJ⟩
  obtain ⟨_, hd, xs, q, R⟩ := m.open_ I.hok
  unfold setItem
  try with_reducible refine wpAny_holding ?_
  refine wpAny_bind (wpAny_sequenceKey R.typeIs (by decide) ?_)
  refine wpAny_bind (wpAny_callSpecial?_slot (name := Str.ofString "__setitem__") R.typeIs slot_dict_setitem (wpAny_call_entry slot_dict_setitem R.typeIs entry_dict_setitem ?_ (args_dict_setitem _ _ _)))
  show wpAny _ _ (Builtin.Dict.notOrdered "__setitem__" ⟨[.ref a, u, r], []⟩ >>= _) _ _ s
  refine wpAny_bind (wpAny_notOrdered_dict R.typeIs ?_)
  show wpAny _ _ (dictSet a u r >>= _) _ _ s
  exact wpAny_bind (m_dictSet (by simp only [Around.in1_units]; omega) I ha t hJ hy hl ry rv fun s' I' => wpAny_pure ⟨.none, rfl, wpAny_pure (h s' I')⟩)
theorem m_setd {dv : V} {Q : Value → Shared → Prop} (hu : A.units + 9 < cLine) (I : Inv X pins σ H s) (ha : H a = some (MixO X.w kof a kvs)) (t : Items H kof J) (hJ : ∀ p ∈ kvs, p.1 ∈ J) (hy : y ∈ J) (hl : kvs.length < sizeLine) (ry : RelV y u) (rd : RelV dv r)
    (h1 : ∀ v, valV kvs y = some v → ∀ (w' : Value) (s' : Shared), Inv X pins σ H s' → RelV v w' → Q w' s')
    (h2 : valV kvs y = none → ∀ (w' : Value) (s' : Shared), Inv X pins σ (upd H a (MixO X.w kof a (putK kvs y dv))) s' → RelV dv w' → Q w' s') :
    wpAny (model X.prog X.w) A (call (.builtin "dict.setdefault") [.ref a, u, r]) Q E s := by
  have m : MOk X.w H kof J a kvs := ⟨.inl ha, t, hJ⟩
  obtain ⟨_, hd, xs, q, R⟩ := m.open_ I.hok
  have hz : xs.length ≤ sizeLine := by rw [← Paired.length q]; omega
  have z := rows_val t hy hJ q
  refine call_meetsIn PySem.F.slot_dict_setdefault R.typeIs PySem.F.entry_dict_setdefault (PySem.F.args_dict_setdefault_3 _ _ _)
    (S := fun A' R' s' => A' = A ∧ s' = s ∧ (∀ v, valV kvs y = some v → ∀ (w' : Value) (s' : Shared), Inv X pins σ H s' → RelV v w' → R' (.ok (.ret w')) s') ∧
      (valV kvs y = none → ∀ (w' : Value) (s' : Shared), Inv X pins σ (upd H a (MixO X.w kof a (putK kvs y dv))) s' → RelV dv w' → R' (.ok (.ret w')) s')) (.of_wp fun A' R' s' hS => ?_) ⟨rfl, rfl, h1, h2⟩
  obtain ⟨rfl, rfl, k1, k2⟩ := hS
  unfold Builtin.«dict.setdefault»
  refine wpAny_bind ?_
  unfold Builtin.Dict.keyAndDefault
  refine wpAny_bind (wpAny_notOrdered_dict R.typeIs ?_)
  show wpAny _ _ (pure (a, u, some r)) _ _ _
  refine wpAny_pure ?_
  show wpAny _ _ (if (a == sysModules) = true then _ else (dictSetDefault a u r >>= _)) _ _ _
  rw [if_neg (by rw [hd]; exact Bool.false_ne_true)]
  refine wpAny_bind (R.setdefault hz (by simp only [Around.in1_units]; omega) ((t.key y hy).at_ I ry) (rows_keys I t hJ q) (fun v' hv' => ?_) fun hn h' R' hs => ?_)
  · rw [hv'] at z
    cases e : valV kvs y with
    | none => rw [e] at z; exact (show False from z).elim
    | some v0 =>
      rw [e] at z
      exact wpAny_pure ⟨v', rfl, k1 v0 e v' _ (I.tok _) z⟩
  · rw [hn] at z
    cases e : valV kvs y with
    | some v0 => rw [e] at z; exact (show False from z).elim
    | none =>
      have e2 : rowPut xs (kof y) u r = xs ++ [(kof y, u, r)] := by unfold rowPut; rw [hn]; rfl
      rw [← e2] at R'
      refine wpAny_pure ⟨r, rfl, k2 e r _ (m_write I ha hs ?_ (mix_new ⟨?_, hd, _, rows_put t hy ry rd hJ q, R'⟩)) rd⟩
      · obtain ⟨o, _, _, ho, _⟩ := R'
        exact ⟨o, ho⟩
      · have := length_putK kvs y dv
        omega
end
end Mx
end
section
set_option maxRecDepth 100000
set_option maxHeartbeats 2000000
/-! The readings of the operations on dicts keyed by items, and their rules. -/
namespace Mx
open PySem L2

/-- d[y] -/
def tMGet (w : World) (kof : V → NestedKey) (td ty : TE) : TE := fun σ H Q => td σ H fun x H1 => ty σ H1 fun y H2 => ∃ a kvs J v, x = .ref a ∧ MOk w H2 kof J a kvs ∧ y ∈ J ∧ valV kvs y = some v ∧ Q v H2
/-- d.get(y, z) -/
def tMGet2 (w : World) (kof : V → NestedKey) (td ty tx : TE) : TE := fun σ H Q => td σ H fun x H1 => (∃ a kvs J, x = .ref a ∧ MOk w H1 kof J a kvs) ∧ ty σ H1 fun y H2 => tx σ H2 fun z H3 =>
  ∃ a kvs J, x = .ref a ∧ MOk w H3 kof J a kvs ∧ y ∈ J ∧ Q ((valV kvs y).getD z) H3
/-- what is seen of d ahead of a store of v at y, and the heap behind it -/
def MPut (w : World) (H : Hp) (kof : V → NestedKey) (a : Addr) (y v : V) (H' : Hp) : Prop :=
  ∃ kvs J, H a = some (MixO w kof a kvs) ∧ Items H kof J ∧ (∀ p ∈ kvs, p.1 ∈ J) ∧ y ∈ J ∧ kvs.length < sizeLine ∧ H' = upd H a (MixO w kof a (putK kvs y v))
/-- d[y] = v -/
def sMPut (w : World) (kof : V → NestedKey) (td ty tv : TE) : TS := fun D σ H => tv σ H fun v H1 => td σ H1 fun x H2 => ty σ H2 fun y H3 => ∃ a H4, x = .ref a ∧ MPut w H3 kof a y v H4 ∧ D.nx σ H4
/-- d.setdefault(y, z) -/
def tMSetd (w : World) (kof : V → NestedKey) (td ty tx : TE) : TE := fun σ H Q => td σ H fun x H1 => (∃ a kvs J, x = .ref a ∧ MOk w H1 kof J a kvs) ∧ ty σ H1 fun y H2 => tx σ H2 fun z H3 =>
  ∃ a kvs J, x = .ref a ∧ H3 a = some (MixO w kof a kvs) ∧ Items H3 kof J ∧ (∀ p ∈ kvs, p.1 ∈ J) ∧ y ∈ J ∧ kvs.length < sizeLine ∧ (∀ v, valV kvs y = some v → Q v H3) ∧ (valV kvs y = none → Q z (upd H3 a (MixO w kof a (putK kvs y z))))
/-- {} -/
def tMNew (w : World) (kof : V → NestedKey) : TE := fun _ H Q => ∀ p, H p = none → Q (.ref p) (upd H p (MixO w kof p []))
theorem mix_empty {P : Program} {w : World} {kof : V → NestedKey} {H : Hp} (h : Heap) (hb : sysModules < h.objs.size) : ObjOk P w H (h.push { cls := .type "dict", data := .dict #[] }) h.objs.size (MixO w kof h.objs.size []) :=
  mix_new ⟨Nat.zero_le _, beq_eq_false_iff_ne.mpr (Ne.symm (Nat.ne_of_lt hb)), [], .nil, _, #[], 0, Heap.get?_push_size _ rfl, ⟨rfl, rfl, rfl⟩, rfl, rfl, List.nodup_nil⟩

section
variable {X : Cx} {o i e f value : Expr} {pos pos' apos cpos : Pos} {td ty tv tx : TE} {kof : V → NestedKey}
theorem mok_dict {pins : List (Addr × Obj)} {σ : St} {H : Hp} {s : Shared} {a : Addr} {J : List V} {kvs : List (V × V)} (I : Inv X pins σ H s) (m : MOk X.w H kof J a kvs) :
    s.TypeIs (.ref a) "dict" ∧ ∀ b, Value.ref a = .ref b → ∃ ob, s.heap.get? b = some ob ∧ ob.dict = none := by
  obtain ⟨_, _, xs, q, R⟩ := m.open_ I.hok
  refine ⟨R.typeIs, fun b z => ?_⟩
  cases z
  obtain ⟨ob, _, _, h1, h2, _⟩ := R
  exact ⟨ob, h1, h2.2.1⟩
theorem pe_mget (hu : X.A.units + 9 < cLine) (ho : PE X o td) (hi : PE X i ty) (hs : NoSl i) : PE X (.Subscript o i pos) (tMGet X.w kof td ty) := by
  refine ⟨fun pins s σ H Q I h => ?_⟩
  refine subD_of PySem.F.slot_dict_getitem.lookup hs (thn (ho.run pins s σ H _ I h) fun u s1 ⟨x, H1, I1, rx, q1⟩ => thn (hi.run pins s1 σ H1 _ I1 q1) fun iv s2 ⟨y, H2, I2, ry, a, kvs, J, v, ex, m, hy, hv, q2⟩ => ?_)
  subst ex
  obtain rfl : u = Value.ref a := rx
  exact ⟨(mok_dict I2 m).1, m_getItem hu I2 m hy hv ry fun w' s3 I3 rw' => ⟨v, H2, I3, rw', q2⟩⟩
theorem pe_mget2 (hu : X.A.units + 9 < cLine) (ho : PE X o td) (he : PE X e ty) (hf : PE X f tx) (m : M2 X o "get" apos e f cpos) : PE X (.Call (.Attribute o "get" apos) [e, f] [] cpos) (tMGet2 X.w kof td ty tx) := by
  refine ⟨fun pins s σ H Q I h => ?_⟩
  refine wpAny_Call_method m.base m.few m.line PySem.F.plainAttrs_dict PySem.F.slot_dict_get PySem.F.type_dict_get (thn (ho.run pins s σ H _ I h) fun u s1 ⟨x, H1, I1, rx, ⟨a, kvs, J, ex, mo⟩, q1⟩ => ?_)
  subst ex
  obtain rfl : u = Value.ref a := rx
  obtain ⟨t1, t2⟩ := mok_dict I1 mo
  refine ⟨t1, t2, ?_⟩
  rw [m.trees]
  refine Calls.callWith_builtin rfl (Calls.evalArgs_plain (Calls.spliced_cons (thn (he.run pins s1 σ H1 _ I1 q1) fun iv s2 ⟨y, H2, I2, ry, q2⟩ =>
    Calls.spliced_cons (thn (hf.run pins s2 σ H2 _ I2 q2) fun fv s3 ⟨z, H3, I3, rz, b, kvs', J', eb, m3, hy, q3⟩ => Calls.spliced_nil ?_))))
  cases eb
  exact m_get2 hu I3 m3 hy ry rz fun w' s4 I4 rw' => ⟨_, H3, I4, rw', q3⟩
theorem pe_msetd (hu : X.A.units + 9 < cLine) (ho : PE X o td) (he : PE X e ty) (hf : PE X f tx) (m : M2 X o "setdefault" apos e f cpos) : PE X (.Call (.Attribute o "setdefault" apos) [e, f] [] cpos) (tMSetd X.w kof td ty tx) := by
  refine ⟨fun pins s σ H Q I h => ?_⟩
  refine wpAny_Call_method m.base m.few m.line PySem.F.plainAttrs_dict PySem.F.slot_dict_setdefault PySem.F.type_dict_setdefault (thn (ho.run pins s σ H _ I h) fun u s1 ⟨x, H1, I1, rx, ⟨a, kvs, J, ex, mo⟩, q1⟩ => ?_)
  subst ex
  obtain rfl : u = Value.ref a := rx
  obtain ⟨t1, t2⟩ := mok_dict I1 mo
  refine ⟨t1, t2, ?_⟩
  rw [m.trees]
  refine Calls.callWith_builtin rfl (Calls.evalArgs_plain (Calls.spliced_cons (thn (he.run pins s1 σ H1 _ I1 q1) fun iv s2 ⟨y, H2, I2, ry, q2⟩ =>
    Calls.spliced_cons (thn (hf.run pins s2 σ H2 _ I2 q2) fun fv s3 ⟨z, H3, I3, rz, b, kvs', J', eb, ha, t, hJ, hy, hl, q3, q4⟩ => Calls.spliced_nil ?_))))
  cases eb
  exact m_setd hu I3 ha t hJ hy hl ry rz (fun v hv w' s4 I4 rw' => ⟨v, _, I4, rw', q3 v hv⟩) fun hn w' s4 I4 rw' => ⟨z, _, I4, rw', q4 hn⟩
theorem ps_mput (hu : X.A.units + 9 < cLine) (ho : PE X o td) (hi : PE X i ty) (hv : PE X value tv) (hs : swapsWith value (some (.Subscript o i pos')) pos.line X.env = pure false) :
    PS X (.Assign [.Subscript o i pos'] value pos) (sMPut X.w kof td ty tv) := by
  refine ⟨fun pins s σ H D I h => ?_⟩
  refine wpAny_Assign_Subscript (thn (hv.run pins s σ H _ I h) fun r s1 ⟨v, H1, I1, rv, q1⟩ => thn (ho.run pins s1 σ H1 _ I1 q1) fun u s2 ⟨x, H2, I2, rx, q2⟩ => thn (hi.run pins s2 σ H2 _ I2 q2) fun iv s3 ⟨y, H3, I3, ry, a, H4, ex, g, q3⟩ => ?_) hs
  subst ex
  obtain rfl : u = Value.ref a := rx
  obtain ⟨kvs, J, ha, t, hJ, hy, hl, eH⟩ := g
  subst eH
  exact m_setItem hu I3 ha t hJ hy hl ry rv fun s4 I4 => ⟨σ, _, I4, q3⟩
theorem pe_mnew : PE X (.Dict [] [] pos) (tMNew X.w kof) := ⟨fun pins s σ H Q I h =>
  wpAny_Dict_empty ⟨.ref s.heap.objs.size, _, I.laid (a := s.heap.objs.size) (o := MixO X.w kof s.heap.objs.size []) (t' := s.toks) (fun _ _ q => Heap.get?_push_of_some _ q) (Nat.le_refl _) (mix_empty s.heap I.big), rfl, h _ (I.hok.fresh (Nat.le_refl _))⟩⟩
end

/-! ### an expression under a lock, or not -/
def tMayLock (t : TE) : TE := fun σ H Q => tLockE t σ H Q ∨ t σ H Q
theorem pe_mayLock {X : Cx} {e : Expr} {t : TE} (h : PE X e t) : PE X e (tMayLock t) := ⟨fun pins s σ H Q I q => q.elim ((pe_lock h).run pins s σ H Q I) (h.run pins s σ H Q I)⟩
def sMayLock (t : TS) : TS := fun D σ H => tLock t D σ H ∨ t D σ H
theorem ps_mayLock {X : Cx} {st : Stmt} {t : TS} (h : PS X st t) : PS X st (sMayLock t) := ⟨fun pins s σ H D I q => q.elim ((ps_lock h).run pins s σ H D I) (h.run pins s σ H D I)⟩

/-! ### the pairs of a dict of ints, locked already or from now on -/
def iItemsN (td : TE) : TI := fun σ H R => td σ H fun x H1 => ∃ d kvs, x = .ref d ∧ ((∃ o, H1 d = some (.frz o (.dK kvs)) ∧ R (Iti d o kvs) H1) ∨ (H1 d = some (.dK kvs) ∧ ∀ o, R (Iti d o kvs) (upd H1 d (.frz o (.dK kvs)))))
theorem pi_itemsN {X : Cx} {e : Expr} {td : TE} {apos cpos tpos : Pos} {elts : List Expr} {kk : Nat} (he : PE X e td) (hbase : attributeBase e "items" X.env (eval e X.env) = eval e X.env := by rfl) (hline : (apos.endLine == cpos.line) = true := by rfl) :
    PI X (.Tuple elts kk tpos) (.Call (.Attribute e "items" apos) [] [] cpos) (iItemsN td) := by
  refine ⟨fun pins s σ H R I h => ?_⟩
  refine wpAny_Call_method (T := "dict") (id := "dict.items") hbase rfl hline F.plainAttrs_dict F.slot_dict_items F.type_dict_items (thn (he.run pins s σ H _ I h) fun u s1 ⟨x, H0, I0, rx, d, kvs, ex, hq⟩ => ?_)
  subst ex
  obtain rfl : u = Value.ref d := rx
  have hl : ∃ o H1, Inv X pins σ H1 s1 ∧ H1 d = some (.frz o (.dK kvs)) ∧ R (Iti d o kvs) H1 := by
    rcases hq with ⟨o, hd, q⟩ | ⟨hd, q⟩
    · exact ⟨o, H0, I0, hd, q⟩
    · obtain ⟨o, I1⟩ := I0.lock hd True.intro
      exact ⟨o, _, I1, upd_same, q o⟩
  obtain ⟨o, H1, I1, hd, q⟩ := hl
  obtain ⟨hs, hgd, hx, es, ep, vs, hdt, hsz, kv, hm⟩ := I1.frzK hd
  have hl : kvs.length = vs.length := Paired.length kv
  refine ⟨hm.dictOf.typeIs, hm.dictOf.mapOf.noDict, ?_⟩
  have I2 : Inv X pins σ H1 { s1 with heap := s1.heap.push { cls := .type "dict_items", data := .fields #[.ref d] } } := I1.kept (t' := s1.toks) fun b ob q => Heap.get?_push_of_some _ q
  have fin : wpAny (model X.prog X.w) X.A (pyIter (.ref s1.heap.objs.size)) (PIE X pins σ (.Tuple elts kk tpos) R) X.xe { s1 with heap := s1.heap.push { cls := .type "dict_items", data := .fields #[.ref d] } } := by
    refine wpAny_pyIter_items (d := d) (knd := mixKind X.prog X.w) ⟨_, Heap.get?_push_size _ rfl, rfl, rfl⟩ (hm.push _) (pi_one (tk := s1.toks) I2 _ (turn_items _ hdt) ⟨.none, .none, ?_⟩ q)
    rw [hl]
    exact Heap.get?_push_size _ rfl
  show wpAny _ _ (callWith cpos (.builtin "dict.items") [.ref d] [] []) _ X.xe s1
  exact method_meetsIn F.slot_dict_items F.entry_dict_items rfl (PySem.evalArgs_none ⟨rfl, hm.dictOf.typeIs, F.args_dict_items_1 _, _, meets_dict_items (mixKind X.prog X.w) d hs, ⟨vs, hm.dictOf⟩, fin⟩)

/-! ### the pairs of a dict keyed by items -/
/-- the pairs, each a new tuple -/
def ItM (w : World) (kof : V → NestedKey) (d : Addr) (o : Obj) (kvs : List (V × V)) : It :=
  ⟨fun i H => H d = some (.frz o (MixO w kof d kvs)) ∧ i < kvs.length, fun i H x H' => ∃ T k v, kvs[i]? = some (k, v) ∧ x = .ref T ∧ H T = none ∧ H' = upd H T (.tup [k, v]), fun i H => H d = some (.frz o (MixO w kof d kvs)) ∧ kvs.length ≤ i⟩
theorem frzM {X : Cx} {pins : List (Addr × Obj)} {σ : St} {H : Hp} {s : Shared} {d : Addr} {o : Obj} {kof : V → NestedKey} {kvs : List (V × V)} (I : Inv X pins σ H s) (h : H d = some (.frz o (MixO X.w kof d kvs))) :
    (d == sysModules) = false ∧ s.heap.get? d = some o ∧ o.ExactDict ∧ ∃ es ep xs, o.data = .dict es ep ∧ es.size = kvs.length ∧ Paired (RelRow kof) kvs xs ∧ es.toList = xs.map (ent X.w) := by
  obtain ⟨h1, ⟨_, h3, xs, q, o', es, ep, ho, hc, hd, he, _⟩, _⟩ := (show ObjOk X.prog X.w H s.heap d (.frz o (MixO X.w kof d kvs)) from I.hok d _ h)
  rw [h1] at ho
  cases ho
  refine ⟨h3, h1, hc, es, ep, xs, hd, ?_, q, he⟩
  rw [rows_len he, ← Paired.length q]
theorem row_get {kof : V → NestedKey} {kvs : List (V × V)} {xs : List Row} (q : Paired (RelRow kof) kvs xs) {i : Nat} {k v : V} (h : kvs[i]? = some (k, v)) : ∃ x, xs[i]? = some x ∧ RelV k x.2.1 ∧ RelV v x.2.2 := by
  obtain ⟨x, hx, r⟩ := paired_get q h
  exact ⟨x, hx, r.2.1, r.2.2⟩
theorem turn_itemsM {P : Program} {w : World} {K : PySem.W.Frag} {kof : V → NestedKey} {d : Addr} {o : Obj} {es : Array DictEntry} {ep : Nat} {kvs : List (V × V)} {elts : List Expr} {kk : Nat} {tpos : Pos} (it : Addr) (hod : o.data = .dict es ep) :
    Turn P w K (.Tuple elts kk tpos) (ItM w kof d o kvs) [it] it (fun i h => ∃ ok ov, IsItemIter h it d i es.size ep ok ov) where
  mem := by simp
  obj := fun i h st b hb => by
    have e : b = it := by simpa using hb
    subst e
    obtain ⟨ok, ov, e⟩ := st
    exact ⟨_, e, fun v z => nomatch z⟩
  keep := fun i h h' st k => let ⟨ok, ov, e⟩ := st; ⟨ok, ov, k it (by simp) _ e⟩
  item := by
    intro X hP hw hK hc i pins s σ H E I hf st hg
    subst hP hw hK
    obtain ⟨hd, hi⟩ := hg
    obtain ⟨hs, hgd, hx, es', ep', xs, hdt, hsz, q, hes⟩ := frzM I hd
    obtain ⟨rfl, rfl⟩ := dict_ep hod hdt
    obtain ⟨⟨k, v⟩, hkv⟩ : ∃ p, kvs[i]? = some p := ⟨kvs[i], List.getElem?_eq_getElem hi⟩
    obtain ⟨x, hxi, r1, r2⟩ := row_get q hkv
    have hie : i < es'.size := by rw [hsz]; exact hi
    have hen : es'[i] = ent X.w x := by
      have z := row_at hes i
      rw [hxi, Array.getElem?_eq_getElem hie] at z
      exact Option.some.inj z
    obtain ⟨ok, ov, he⟩ := st
    have hlt : it < s.heap.objs.size := Heap.lt_size he
    refine wpAny_pyNext_items_item_raw he ⟨o, hgd, hx, hod⟩ hie fun h' ho hT hz hk => ?_
    rw [hen] at ho hT
    refine ⟨_, rfl, wpAny_letOwnedTupleGo_items (s := { s with heap := h' }) ho fun h'' he' sb => ?_⟩
    have hT2 : h''.get? s.heap.objs.size = some { cls := .type "tuple", data := .seq #[(ent X.w x).key, (ent X.w x).val] } := (sb.2 _ (Nat.ne_of_gt hlt)).trans hT
    have new : ObjOk X.prog X.w (upd H s.heap.objs.size (.tup [k, v])) h'' s.heap.objs.size (.tup [k, v]) :=
      ⟨by show 2 ≤ sizeLine; decide, [(ent X.w x).key, (ent X.w x).val], .cons r1 (.cons r2 .nil), ⟨_, hT2, rfl, _, rfl⟩⟩
    have I1 : Inv X pins σ (upd H s.heap.objs.size (.tup [k, v])) { s with heap := h'' } :=
      I.turnedNew (t' := s.toks) (ch := [it]) (fun b ob hb e => (sb.2 b (by simpa using hb)).trans (hk b ob (by simpa using hb) e)) hf (Nat.le_refl _) new
    refine ⟨.ref s.heap.objs.size, _, I1, rfl, ⟨_, k, v, hkv, rfl, I.hok.fresh (Nat.le_refl _), rfl⟩, ⟨(ent X.w x).key, (ent X.w x).val, he'⟩, fun b hb => ?_⟩
    have e : b = it := by simpa using hb
    rw [e, upd_ne (Nat.ne_of_lt hlt)]
    exact (hf it (by simp)).1
  done := by
    intro X hP hw hK hc i pins s σ H E I hf st hg
    subst hP hw hK
    obtain ⟨hd, hi⟩ := hg
    obtain ⟨f0, f1, f2, f3, f4, f5⟩ := hf it (by simp)
    obtain ⟨hs, hgd, hx, es', ep', xs, hdt, hsz, q, hes⟩ := frzM I hd
    obtain ⟨rfl, rfl⟩ := dict_ep hod hdt
    obtain ⟨ok, ov, he⟩ := st
    exact wpAny_pyNext_items_end_raw (I.ok.hd hc) he ⟨o, hgd, hx, hod⟩ (by rw [hsz]; exact hi) fun h' eb => ⟨rfl, I.turned (t' := s.toks) (fun b ob hb e => eb b ob hb e) f0 f1 f3 f4 f5⟩
  self := fun A i s Q E st h => let ⟨_, _, e⟩ := st; PySem.W.kcp_self e h
/-- for k, v in d.items(), d locked -/
def iItemsM (w : World) (kof : V → NestedKey) (td : TE) : TI := fun σ H R => td σ H fun x H1 => ∃ d o kvs, x = .ref d ∧ H1 d = some (.frz o (MixO w kof d kvs)) ∧ R (ItM w kof d o kvs) H1
theorem pi_itemsM {X : Cx} {e : Expr} {td : TE} {kof : V → NestedKey} {apos cpos tpos : Pos} {elts : List Expr} {kk : Nat} (he : PE X e td) (hbase : attributeBase e "items" X.env (eval e X.env) = eval e X.env := by rfl) (hline : (apos.endLine == cpos.line) = true := by rfl) :
    PI X (.Tuple elts kk tpos) (.Call (.Attribute e "items" apos) [] [] cpos) (iItemsM X.w kof td) := by
  refine ⟨fun pins s σ H R I h => ?_⟩
  refine wpAny_Call_method (T := "dict") (id := "dict.items") hbase rfl hline F.plainAttrs_dict F.slot_dict_items F.type_dict_items (thn (he.run pins s σ H _ I h) fun u s1 ⟨x, H1, I1, rx, d, o, kvs, ex, hd, q⟩ => ?_)
  subst ex
  obtain rfl : u = Value.ref d := rx
  obtain ⟨hs, hgd, hx, es, ep, xs, hdt, hsz, _, _⟩ := frzM I1 hd
  have raw : s1.heap.DictRaw d es ep := ⟨o, hgd, hx, hdt⟩
  refine ⟨raw.typeIs, fun b z => (by cases z; exact ⟨o, hgd, hx.2.1⟩), ?_⟩
  have I2 : Inv X pins σ H1 { s1 with heap := s1.heap.push { cls := .type "dict_items", data := .fields #[.ref d] } } := I1.kept (t' := s1.toks) fun b ob q => Heap.get?_push_of_some _ q
  have fin : wpAny (model X.prog X.w) X.A (pyIter (.ref s1.heap.objs.size)) (PIE X pins σ (.Tuple elts kk tpos) R) X.xe { s1 with heap := s1.heap.push { cls := .type "dict_items", data := .fields #[.ref d] } } := by
    refine wpAny_pyIter_items_raw (d := d) ⟨_, Heap.get?_push_size _ rfl, rfl, rfl⟩ (raw.at fun ob z => Heap.get?_push_of_some _ z) (pi_one (tk := s1.toks) I2 _ (turn_itemsM _ hdt) ⟨.none, .none, ?_⟩ q)
    exact Heap.get?_push_size _ rfl
  show wpAny _ _ (callWith cpos (.builtin "dict.items") [.ref d] [] []) _ X.xe s1
  exact method_meetsIn F.slot_dict_items F.entry_dict_items rfl (PySem.evalArgs_none ⟨rfl, raw.typeIs, F.args_dict_items_1 _, _, meets_dict_items_raw d hs, ⟨es, ep, raw⟩, fin⟩)
theorem walk_itemsM {w : World} {kof : V → NestedKey} {d : Addr} {o : Obj} {kvs : List (V × V)} : Walk (ItM w kof d o kvs) kvs.length (fun H => H d = some (.frz o (MixO w kof d kvs))) (YPair (fun i => kvs[i]?.map Prod.fst) (fun i => kvs[i]?.map Prod.snd)) := by
  refine ⟨fun _ _ hi q => ⟨q, hi⟩, fun _ q => ⟨q, Nat.le_refl _⟩, fun i H x H' _ _ y => ?_⟩
  obtain ⟨T, k, v, h1, h2, h3, h4⟩ := y
  exact ⟨T, k, v, h2, h3, h4, by simp [h1], by simp [h1]⟩
end Mx
end
section
set_option maxRecDepth 100000
set_option maxHeartbeats 2000000
/-! Dict comprehensions over any of the dicts: keys ints and texts, tuples, or items. -/
namespace Mx
open PySem L2

/-- D[y] = z, whatever D's keys are -/
def SPut (w : World) (kof : V → NestedKey) (H : Hp) (D : Addr) (y z : V) (H' : Hp) : Prop := DPut H D y z H' ∨ MPut w H kof D y z H'
theorem s_dictSet {Y : Cx} {pins : List (Addr × Obj)} {σ : St} {H H' : Hp} {s : Shared} {E : Value → Shared → Prop} {kof : V → NestedKey} {D : Addr} {y z : V} {u r : Value} {Q : Unit → Shared → Prop} (hu : Y.A.units + 8 < cLine) (I : Inv Y pins σ H s) (g : SPut Y.w kof H D y z H')
    (ry : RelV y u) (rz : RelV z r) (h : ∀ s', Inv Y pins σ H' s' → Q () s') : wpAny (model Y.prog Y.w) Y.A (dictSet D u r) Q E s := by
  rcases g with g | ⟨kvs, J, ha, t, hJ, hy, hl, eH⟩
  · rcases g with ⟨kvs, k, e, ey, l, eH⟩ | ⟨kvs, k, b, e, ey, eb, l, eH⟩
    · subst ey eH
      exact d_dictSet I e l ry rz h
    · subst ey eH
      cases (show u = Value.ref b from ry)
      obtain ⟨q, hd, xs, rel, dd⟩ := dt_of I.hok e
      have hz : xs.length ≤ sizeLine := by rw [← Paired.length rel]; exact q
      have hl : (putK kvs k z).length ≤ sizeLine := by have := length_putK kvs k z; omega
      refine wpAny_dictSet_heap (hsz := hz) (show (tupleKind (mixKind Y.prog Y.w)).room Y.A from (show Y.A.units < cLine by omega)) (key_of I.hok eb) dd fun h' dd' hs => h _ ?_
      obtain ⟨q, es, ep, hq, h2, h3, h4, _, h5⟩ := dd'
      refine d_write I (by rw [e]; exact True.intro) hs ⟨q, hq⟩ ⟨hl, hd, _, (rel.put k eb rz).keeps fun c ys ec => ?_, q, es, ep, hq, h2, h3, h4, h5⟩
      rw [upd_ne (ne_of ec e (fun z => nomatch z))]
      exact ec
  · subst eH
    exact m_dictSet hu I ha t hJ hy hl ry rz h

/-- {k: v for target in iter if ..}: D the new dict, at first mk D -/
def tDcG (w : World) (kof : V → NestedKey) (mk : Addr → HO) (wi : TI) (g : TG) (tt : TT) (tk tv : TE) (vs : List Nat) : TE := fun σ H Q => wi σ H fun J H1 => ∀ D, H1 D = none → ∃ W : Nat → Nat → Hp → Prop, (∃ m, W 0 m (upd H1 D (mk D))) ∧ ∀ i m H, W i m H →
  (J.stop i H ∧ Q (.ref D) H) ∨ (J.go i H ∧ ∃ Nx : Hp → Prop, (∀ H', Nx H' → ∃ m', m' < m ∧ W (i + 1) m' H') ∧ ∀ x H', J.yld i H x H' → g x (wipe σ vs) H' fun σ2 H2 => wipe σ2 vs = wipe σ vs ∧ tt σ2 H2 fun b H3 =>
    if b = true then tk σ2 H3 fun y H4 => tv σ2 H4 fun z H5 => ∃ H6, SPut w kof H5 D y z H6 ∧ Nx H6 else Nx H3)
/-- what a new dict may be told as -/
def Fresh (X : Cx) (mk : Addr → HO) : Prop := ∀ (H : Hp) (h : Heap), sysModules < h.objs.size → ObjOk X.prog X.w H (h.push { cls := .type "dict", data := .dict #[] }) h.objs.size (mk h.objs.size)
theorem fresh_dK {X : Cx} : Fresh X fun _ => .dK [] := fun _ h hb => dk_empty h hb
theorem fresh_dT {X : Cx} : Fresh X fun _ => .dT [] := fun _ h hb => dt_empty h hb
theorem fresh_mix {X : Cx} {kof : V → NestedKey} : Fresh X fun D => MixO X.w kof D [] := fun _ h hb => mix_empty h hb

section
variable {X : Cx}
theorem dc_coreG {pins : List (Addr × Obj)} {s : Shared} {σ : St} {H : Hp} {Q : VK} {kof : V → NestedKey} {mk : Addr → HO} {kx vx tg iter : Expr} {ifs : List Expr} {scope : Scope} {own : List (Str × Nat)} {pos pos' : Pos} {wi : TI} {g : TG} {tt : TT} {tk tv : TE} {use : Option (Value → Sem Unit)} {Qf : Value → Shared → Prop}
    (hu : X.A.units + 8 < cLine) (hmk : Fresh X mk) (hc : X.calm = true) (hN : X.N.Nodup) (I : Inv X pins σ H s) (hi : PI X tg iter wi)
    (ok : BlkOk X.N X.env.scope scope own)
    (hg : ∀ (s : Shared) (H : Hp) (C : Addr) (cl : List (Str × Addr)) (fp : List Addr), PG (X.blk s H scope (compEnvC scope cl C X.env) fp) tg g)
    (ht : ∀ (s : Shared) (H : Hp) (C : Addr) (cl : List (Str × Addr)) (fp : List Addr), PTs (X.blk s H scope (compEnvC scope cl C X.env) fp) ifs tt)
    (hk : ∀ (s : Shared) (H : Hp) (C : Addr) (cl : List (Str × Addr)) (fp : List Addr), PE (X.blk s H scope (compEnvC scope cl C X.env) fp) kx tk)
    (he : ∀ (s : Shared) (H : Hp) (C : Addr) (cl : List (Str × Addr)) (fp : List Addr), PE (X.blk s H scope (compEnvC scope cl C X.env) fp) vx tv) (hs : ∀ x, foldedSetIterable iter X.env x = pure x) (h : tDcG X.w kof mk wi g tt tk tv (own.map (·.2)) σ H Q)
    (fini : ∀ D C s' m H', Inv X pins σ H' s' → Q (.ref D) H' → s'.heap.Ns C m → FpOk X pins H' C → compPost (model X.prog X.w) X.A X.xe use Qf (.ref D) C (.ok .next) s') :
    wpAny (model X.prog X.w) X.A (comprehension (.DictComp kx vx [⟨tg, iter, ifs, 0⟩] scope pos) scope X.env pos' newDict false (eval iter X.env) use) Qf X.xe s := by
  have hfree : ∀ y ∈ scope.names, y.2 = .free → ∃ c, X.env.cells.lookup y.1 = some c := fun y hy e => (ok.free y hy e).elim (fun k => I.ok.has _ (.inl k)) fun k => I.ok.has _ (.inr k)
  refine wpAny_comprehension_free (use := use) rfl hs (closure_ok hfree) ok.kind (fun y hy e => by rw [ok.uniq y hy, e]) (thn (hi.run pins s σ H _ I h) fun xv s1 hx => thn hx fun itv s2 h2 => ?_)
  obtain ⟨it, fp, tn, J, H2, e, I2, T, st2, f2, q⟩ := h2
  subst e
  refine wpAny_newObj_type (newEnv_comp ?_)
  obtain ⟨W, ⟨m0, w0⟩, turn⟩ := q _ (I2.hok.fresh (Nat.le_refl _))
  have low : ∀ b ∈ fp, b < s2.heap.objs.size := fun b hb => by
    obtain ⟨o, e, _⟩ := T.obj _ _ st2 b hb
    exact Heap.lt_size e
  have I3 : Inv X pins σ (upd H2 s2.heap.objs.size (mk s2.heap.objs.size)) { s2 with heap := s2.heap.push { cls := .type "dict", data := .dict #[] } } :=
    I2.laid (t' := s2.toks) (fun b o e => Heap.get?_push_of_some _ e) (Nat.le_refl _) (hmk _ s2.heap I2.big)
  have f3 : ∀ b ∈ fp, FpOk X pins (upd H2 s2.heap.objs.size (mk s2.heap.objs.size)) b ∧ b < (s2.heap.push { cls := .type "dict", data := .dict #[] }).objs.size := fun b hb => by
    refine ⟨⟨?_, (f2 b hb).2⟩, by rw [Heap.size_push]; exact Nat.lt_succ_of_lt (low b hb)⟩
    rw [upd_ne (Nat.ne_of_lt (low b hb))]
    exact (f2 b hb).1
  have st3 : tn 0 (s2.heap.push { cls := .type "dict", data := .dict #[] }) := T.keep _ _ _ st2 fun b _ o e => Heap.get?_push_of_some _ e
  generalize hs3 : ({ s2 with heap := s2.heap.push { cls := .type "dict", data := .dict #[] } } : Shared) = s3 at I3 ⊢
  have h3 : s3.heap = s2.heap.push { cls := .type "dict", data := .dict #[] } := by rw [← hs3]
  rw [← h3] at f3 st3
  generalize s2.heap.objs.size = D at w0 turn I3 f3 ⊢
  generalize hH3 : upd H2 D (mk D) = H3 at I3 f3 w0
  have I4 := block_start I3 ok hN f3
  have pg := hg s3 H3 s3.heap.objs.size (cellsFrom (s3.heap.objs.size + 1) scope.names (cloFrom X.env.cells scope.names [])) fp
  have pt := ht s3 H3 s3.heap.objs.size (cellsFrom (s3.heap.objs.size + 1) scope.names (cloFrom X.env.cells scope.names [])) fp
  have pk := hk s3 H3 s3.heap.objs.size (cellsFrom (s3.heap.objs.size + 1) scope.names (cloFrom X.env.cells scope.names [])) fp
  have pe := he s3 H3 s3.heap.objs.size (cellsFrom (s3.heap.objs.size + 1) scope.names (cloFrom X.env.cells scope.names [])) fp
  have nfp : ∀ b ∈ fp, H3 b = none := fun b hb => (f3 b hb).1.1
  show codeAny (model X.prog X.w) X.A (.compStart (.DictComp kx vx [⟨tg, iter, ifs, 0⟩] scope pos) 0 (.ref it) (.ref D) (compEnvC scope (cellsFrom (s3.heap.objs.size + 1) scope.names (cloFrom X.env.cells scope.names [])) s3.heap.objs.size X.env)) _ { s3 with heap := pushCells (s3.heap.push { cls := .type "dict", data := .dict #[] }) scope.names }
  generalize hce : compEnvC scope (cellsFrom (s3.heap.objs.size + 1) scope.names (cloFrom X.env.cells scope.names [])) s3.heap.objs.size X.env = ce at I4 pg pt pk pe ⊢
  have cL : ce.locals = s3.heap.objs.size := by subst hce; rfl
  generalize hs4 : ({ s3 with heap := pushCells (s3.heap.push { cls := .type "dict", data := .dict #[] }) scope.names } : Shared) = s4 at I4 ⊢
  have st4 : tn 0 s4.heap := T.keep _ _ _ st3 fun b _ o e => by rw [← hs4]; exact pushCells_keeps _ _ _ _ (Heap.get?_push_of_some _ e)
  have stat : ∀ {σ' : St} {H' : Hp} {s' : Shared}, Inv (X.blk s3 H3 scope ce fp) [] σ' H' s' → (∀ b ∈ fp, H' b = none) → ∀ b ∈ fp, FpOk (X.blk s3 H3 scope ce fp) [] H' b := fun {σ' H' s'} I' hn b hb =>
    ⟨hn b hb, (I'.ok.exf b hb).1, I'.ok.exfs b hb, .inl hb, fun x c e => (I'.ok.exf b hb).2 x c e, fun p hp => absurd (show p ∈ ([] : List (Addr × Obj)) ++ [] from hp) (by simp)⟩
  refine codeAny_compStart_dict ?_ (T.self X.A 0 _ _ _ st4 ?_)
  all_goals
    refine compLoop_anyD (fun n s' => ∃ i H', Inv (X.blk s3 H3 scope ce fp) [] (wipe σ (own.map (·.2))) H' s' ∧ tn i s'.heap ∧ (∀ b ∈ fp, H' b = none) ∧ W i n H') ?_ m0 ⟨0, H3, I4, st4, nfp, w0⟩
    rintro n s5 ⟨i, H5, I5, st5, n5, w5⟩
    rcases turn i n H5 w5 with ⟨stop, qq⟩ | ⟨go, Nx, hNx, step⟩
    · have td := T.done (X.blk s3 H3 scope ce fp) rfl rfl rfl hc i [] s5 _ H5 (fun _ _ => False) I5 (stat I5 n5) st5 stop
      refine thnF td fun r s6 ⟨hr, I6⟩ => ?_
      subst hr
      have I7 : Inv X pins σ H5 s6 := I3.call' (ch := fp) I6.os I6.base I6.hok I6.bare fun b hb => ⟨(f3 b hb).1.2.2.2.1, (f3 b hb).1.2.1, (f3 b hb).1.2.2.2.2.1, (f3 b hb).1.2.2.2.2.2⟩
      have nC : H5 s3.heap.objs.size = none := by
        have z : H5 ce.locals = none := I6.free
        rwa [cL] at z
      obtain ⟨m, hn, _⟩ := I6.loc
      have hn : s6.heap.Ns ce.locals m := hn
      rw [cL] at hn
      exact fini D s3.heap.objs.size s6 m H5 I7 qq hn (I3.fpOk (Nat.le_refl _) nC)
    · have ti := T.item (X.blk s3 H3 scope ce fp) rfl rfl rfl hc i [] s5 _ H5 (fun _ _ => False) I5 (stat I5 n5) st5 go
      refine thnF ti fun r s6 ⟨u, hr, h6⟩ => ?_
      subst hr
      refine thnF h6 fun _ s7 ⟨x, H7, I7, r7, y7, st7, n7⟩ => ?_
      have I7' := I7.pinned (stat I7 n7) (T.obj _ _ st7)
      refine thnF (pg.run _ s7 _ H7 x u _ I7' r7 (step x H7 y7)) fun _ s8 ⟨σ8, H8, I8, hw8, q8⟩ => ?_
      refine thnF (pt.run _ s8 σ8 H8 _ I8 q8) fun b s9 ⟨H9, I9, q9⟩ => ?_
      have fin : ∀ {s' : Shared} {H' : Hp}, Inv (X.blk s3 H3 scope ce fp) ([] ++ pinsAt fp s7.heap) σ8 H' s' → Nx H' → ∃ m, m < n ∧ ∃ i H', Inv (X.blk s3 H3 scope ce fp) [] (wipe σ (own.map (·.2))) H' s' ∧ tn i s'.heap ∧ (∀ b ∈ fp, H' b = none) ∧ W i m H' := fun {s' H'} I' nx => by
        obtain ⟨m', hm, w'⟩ := hNx H' nx
        have pin' : ∀ b ∈ fp, ∀ o, s7.heap.get? b = some o → s'.heap.get? b = some o ∧ H' b = none := fun b hb o e =>
          let z := I'.pin (b, o) (List.mem_append_right _ (List.mem_append_right _ (mem_pinsAt hb e)))
          ⟨z.1, z.2.1⟩
        have hl : (wipe σ (own.map (·.2))).length = σ8.length := by rw [← hw8, wipe_length]
        refine ⟨m', hm, i + 1, H', (I'.unpinned (pins := [])).weak hl (fun j v e => ?_), T.keep _ _ _ st7 fun b hb o e => (pin' b hb o e).1, fun b hb => ?_, w'⟩
        · rw [← hw8] at e
          exact (wipe_some e).1
        · obtain ⟨o, e, _⟩ := T.obj _ _ st7 b hb
          exact (pin' b hb o e).2
      cases b with
      | false =>
        simp only [Bool.false_eq_true, if_false] at q9 ⊢
        exact fin I9 q9
      | true =>
        simp only [if_true] at q9 ⊢
        refine thnF (pk.run _ s9 σ8 H9 _ I9 q9) fun z s10 ⟨yk, H10, I10, r10, q10⟩ => ?_
        refine thnF (pe.run _ s10 σ8 H10 _ I10 q10) fun z2 s11 ⟨yv, H11, I11, r11, H12, sp, nx⟩ => ?_
        exact s_dictSet (Y := X.blk s3 H3 scope ce fp) hu I11 sp r10 r11 fun s12 I12 => fin I12 nx
/-- as a value -/
theorem pe_dcG {kof : V → NestedKey} {mk : Addr → HO} {kx vx tg iter : Expr} {ifs : List Expr} {scope : Scope} {own : List (Str × Nat)} {pos : Pos} {wi : TI} {g : TG} {tt : TT} {tk tv : TE} (hu : X.A.units + 8 < cLine) (hmk : Fresh X mk) (hc : X.calm = true) (hN : X.N.Nodup) (hi : PI X tg iter wi)
    (ok : BlkOk X.N X.env.scope scope own)
    (hg : ∀ (s : Shared) (H : Hp) (C : Addr) (cl : List (Str × Addr)) (fp : List Addr), PG (X.blk s H scope (compEnvC scope cl C X.env) fp) tg g)
    (ht : ∀ (s : Shared) (H : Hp) (C : Addr) (cl : List (Str × Addr)) (fp : List Addr), PTs (X.blk s H scope (compEnvC scope cl C X.env) fp) ifs tt)
    (hk : ∀ (s : Shared) (H : Hp) (C : Addr) (cl : List (Str × Addr)) (fp : List Addr), PE (X.blk s H scope (compEnvC scope cl C X.env) fp) kx tk)
    (he : ∀ (s : Shared) (H : Hp) (C : Addr) (cl : List (Str × Addr)) (fp : List Addr), PE (X.blk s H scope (compEnvC scope cl C X.env) fp) vx tv) (hs : ∀ x, foldedSetIterable iter X.env x = pure x := by intro _; rfl) :
    PE X (.DictComp kx vx [⟨tg, iter, ifs, 0⟩] scope pos) (tDcG X.w kof mk wi g tt tk tv (own.map (·.2))) := by
  refine ⟨fun pins s σ H Q I h => ?_⟩
  rw [arm_eval_DictComp]
  refine dc_coreG hu hmk hc hN I hi ok hg ht hk he hs h fun D C s' m H' I' q hn z => ⟨m, hn, fun h2 sb => ?_⟩
  exact ⟨.ref D, H', I'.turned (t' := s'.toks) (fun b o hb e => (sb.2 b hb).trans e) z.1 z.2.1 z.2.2.2.1 z.2.2.2.2.1 z.2.2.2.2.2, rfl, q⟩
/-- a local name = such a dict, on one line -/
theorem ps_setDcG {kof : V → NestedKey} {mk : Addr → HO} {i : Nat} {y : Str} {py spos : Pos} {kx vx tg iter : Expr} {ifs : List Expr} {scope : Scope} {own : List (Str × Nat)} {pos : Pos} {wi : TI} {g : TG} {tt : TT} {tk tv : TE} (hu : X.A.units + 8 < cLine) (hmk : Fresh X mk) (hc : X.calm = true) (hN : X.N.Nodup)
    (hy : X.N[i]? = some y) (hyl : X.env.scope.names.lookup y = some .local) (hsw : swapsWith (.DictComp kx vx [⟨tg, iter, ifs, 0⟩] scope pos) (some (.Name y py)) spos.line X.env = pure true) (hi : PI X tg iter wi)
    (ok : BlkOk X.N X.env.scope scope own)
    (hg : ∀ (s : Shared) (H : Hp) (C : Addr) (cl : List (Str × Addr)) (fp : List Addr), PG (X.blk s H scope (compEnvC scope cl C X.env) fp) tg g)
    (ht : ∀ (s : Shared) (H : Hp) (C : Addr) (cl : List (Str × Addr)) (fp : List Addr), PTs (X.blk s H scope (compEnvC scope cl C X.env) fp) ifs tt)
    (hk : ∀ (s : Shared) (H : Hp) (C : Addr) (cl : List (Str × Addr)) (fp : List Addr), PE (X.blk s H scope (compEnvC scope cl C X.env) fp) kx tk)
    (he : ∀ (s : Shared) (H : Hp) (C : Addr) (cl : List (Str × Addr)) (fp : List Addr), PE (X.blk s H scope (compEnvC scope cl C X.env) fp) vx tv) (hs : ∀ x, foldedSetIterable iter X.env x = pure x := by intro _; rfl) :
    PS X (.Assign [.Name y py] (.DictComp kx vx [⟨tg, iter, ifs, 0⟩] scope pos) spos) (tAsg (tDcG X.w kof mk wi g tt tk tv (own.map (·.2))) (gName i)) := by
  refine ⟨fun pins s σ H D I h => ?_⟩
  have h2 : tDcG X.w kof mk wi g tt tk tv (own.map (·.2)) σ H (fun x H1 => gName i x σ H1 D.nx) := h
  rw [exec_Assign_Name_used _ _ _ _ hsw]
  refine wpAny_bind (wpAny_standAt (wpAny_bind ?_))
  show wpAny _ X.A (do let _ ← comprehension (.DictComp kx vx [⟨tg, iter, ifs, 0⟩] scope pos) scope X.env (firstIterPos [⟨tg, iter, ifs, 0⟩] pos) newDict false (eval iter X.env) (some (assign (.Name y py) X.env))) _ _ s
  refine wpAny_bind (thn (dc_coreG (Qf := fun _ s' => SP X pins D .next s') hu hmk hc hN I hi ok hg ht hk he hs h2 fun L C s' m H' I' q hn f => ?_) fun _ s' z => wpAny_pure (wpAny_pure z))
  show wpAny _ _ (assign (.Name y py) X.env (.ref L)) _ _ _
  obtain ⟨f0, f1, f2, f3, f4, f5⟩ := f
  refine wpAny_assign_Name (store_ok2 (v := V.ref L) I' hN hy (.inl hyl) rfl (fun s2 I2 ⟨a, sb, ha⟩ => ?_) (.inr hyl))
  have ne : C ≠ a := by
    rcases ha with z | z
    · exact z ▸ f1
    · exact (f4 y a z).symm
  exact ⟨m, hn.sameBut sb ne, fun h3 sb3 => ⟨_, H', I2.turned (t' := s2.toks) (fun b o hb e => (sb3.2 b hb).trans e) f0 f1 f3 f4 f5, q⟩⟩
theorem sw_dict {kx vx : Expr} {gs : List Comprehension} {scope : Scope} {pos py : Pos} {y : Str} {l : Nat} {env : Env} (hk : env.scope.kind = .function) (hy : env.scope.names.lookup y = some .local) (hl : (py.line == pos.line) = true)
    (ha : (scope.names.any fun (n, k) => n == y && (k == .local || k == .cell)) = false) : swapsWith (.DictComp kx vx gs scope pos) (some (.Name y py)) l env = pure true := by
  have e1 : env.kindOf y = some .local := hy
  have e2 : env.blockKind = .function := by unfold Env.blockKind; rw [hk]; rfl
  unfold swapsWith
  simp only [e1, e2, ha, Expr.pos, hl]
  rfl
/-- the reading of such a comprehension by any walk -/
theorem dc_it {w : World} {kof : V → NestedKey} {mk : Addr → HO} {J : It} {n : Nat} {G : Hp → Prop} {Y : Nat → Hp → V → Hp → Prop} (wk : Walk J n G Y) {g : TG} {tt : TT} {tk tv : TE} {vs : List Nat} {σ : St} {H1 : Hp} {D : Addr} {Qd : Hp → Prop} (Pv : Nat → Hp → Prop)
    (h0 : Pv 0 (upd H1 D (mk D))) (hG : ∀ i H, i ≤ n → Pv i H → G H)
    (hs : ∀ i x H H', i < n → Pv i H → Y i H x H' → g x (wipe σ vs) H' fun σ2 H2 => wipe σ2 vs = wipe σ vs ∧ tt σ2 H2 fun b H3 =>
      if b = true then tk σ2 H3 fun y H4 => tv σ2 H4 fun z H5 => ∃ H6, SPut w kof H5 D y z H6 ∧ Pv (i + 1) H6 else Pv (i + 1) H3) (hd : ∀ H, Pv n H → Qd H) :
    ∃ W : Nat → Nat → Hp → Prop, (∃ m, W 0 m (upd H1 D (mk D))) ∧ ∀ i m H, W i m H →
      (J.stop i H ∧ Qd H) ∨ (J.go i H ∧ ∃ Nx : Hp → Prop, (∀ H', Nx H' → ∃ m', m' < m ∧ W (i + 1) m' H') ∧ ∀ x H', J.yld i H x H' → g x (wipe σ vs) H' fun σ2 H2 => wipe σ2 vs = wipe σ vs ∧ tt σ2 H2 fun b H3 =>
        if b = true then tk σ2 H3 fun y H4 => tv σ2 H4 fun z H5 => ∃ H6, SPut w kof H5 D y z H6 ∧ Nx H6 else Nx H3) := by
  refine ⟨fun i m H => m = n - i ∧ i ≤ n ∧ Pv i H, ⟨n, by simp, Nat.zero_le _, h0⟩, ?_⟩
  rintro i m H ⟨rfl, hi, p⟩
  have q := hG i H hi p
  by_cases hlt : i < n
  · exact .inr ⟨wk.goes i H hlt q, Pv (i + 1), fun H' p' => ⟨n - (i + 1), by omega, rfl, hlt, p'⟩, fun x H' y => hs i x H H' hlt p (wk.yields i H x H' hlt q y)⟩
  · have e : i = n := by omega
    subst e
    exact .inl ⟨wk.stops H q, hd H p⟩
end
end Mx
end
section
set_option maxRecDepth 100000
set_option maxHeartbeats 2000000
/-! Rules that the hand layer lacks: in over a tuple of tuples, list.remove of data, dict.update, sorted(d.items()). -/
namespace Ru
open PySem PySem.Spec L2

section
variable {X : Cx}
/-- x in t, x not in t: t a tuple of data -/
def rInT (K : PySem.W.Frag) (neg : Bool) : R2 := fun x y H Q => ∃ d ds, Dp K H x d ∧ Dp K H y (.tuple ds) ∧ SeqAt.shaped d = true ∧ PyData.canLayAll0 ds = true ∧ Q (.bl (if neg then !ds.any (fun z => PyData.eqv z d) else ds.any fun z => PyData.eqv z d)) H
theorem op_inT (hu : X.A.units + 65 < cLine) : OpR X (compareOp .In) (rInT X.K false) := by
  intro pins s σ H x y v u Q I rx ry h
  obtain ⟨d, ds, hd, he, sd, se, q⟩ := h
  obtain ⟨as, r1⟩ := Dp.reads I d x v hd rx
  obtain ⟨bs, r2⟩ := Dp.reads I (.tuple ds) y u he ry
  exact SeqAt.in_tuple_reads r2 r1 se (SeqAt.canLay_of_shaped sd) (PyProof.Rows.room_in_shaped sd hu) ⟨.bl _, H, I, rfl, q⟩
theorem op_notInT (hu : X.A.units + 65 < cLine) : OpR X (compareOp .NotIn) (rInT X.K true) := by
  intro pins s σ H x y v u Q I rx ry h
  obtain ⟨d, ds, hd, he, sd, se, q⟩ := h
  obtain ⟨as, r1⟩ := Dp.reads I d x v hd rx
  obtain ⟨bs, r2⟩ := Dp.reads I (.tuple ds) y u he ry
  exact SeqAt.notIn_tuple_reads r2 r1 se (SeqAt.canLay_of_shaped sd) (PyProof.Rows.room_in_shaped sd hu) ⟨.bl _, H, I, rfl, q⟩

/-- l.remove(y): the first equal one goes -/
def rRemD (K : PySem.W.Frag) : V → List V → Hp → VK → Prop := fun x vs H Q => ∃ (l : Addr) (xs : List V) (y : V) (d : PyData) (ds : List PyData) (j : Nat), x = .ref l ∧ vs = [y] ∧ H l = some (.lst xs) ∧ DpAll K H xs ds ∧ Dp K H y d ∧
  PyData.plainAll ds = true ∧ d.plain = true ∧ d.depth ≤ 64 ∧ SeqAt.dataPlace ds d = some j ∧ Q .non (upd H l (.lst (xs.eraseIdx j)))
theorem mt_removeD (hu : X.A.units + 65 < cLine) : MtR X "list.remove" (rRemD X.K) := by
  intro pins s σ H x vs v us Q I rx rxs h
  obtain ⟨l, xs, y, d, ds, j, rfl, rfl, hH, ha, hy, p1, p2, p3, hp, q⟩ := h
  cases rx
  obtain ⟨u, rfl, ru⟩ := rxs.one
  obtain ⟨z, its, n, r, hl, e⟩ := I.lstM hH
  obtain ⟨as, r1⟩ := Dp.readsAll I ds xs its ha r
  obtain ⟨bs, r2⟩ := Dp.reads I d y u hy ru
  have hm : min (PyData.depthAll ds) d.depth ≤ d.depth := Nat.min_le_right _ _
  refine SeqAt.remove_list_data (vs := its.toArray) (j := j) ⟨_, e, rfl, n, rfl⟩ (by simpa using r1) r2 p1 p2 (by omega) hp (by rw [List.size_toArray]; omega) ?_
  refine ⟨.non, _, I.lset (its' := its.eraseIdx j) (t' := s.toks) hH e ?_ (r.eraseIdx j) ?_, rfl, q⟩
  · show its.toArray.eraseIdxIfInBounds j = (its.eraseIdx j).toArray
    rw [List.eraseIdxIfInBounds_toArray]
  · have := len_erase xs j
    omega

/-- d.update(e): two dicts of ints and texts -/
def rDUpd : V → List V → Hp → VK → Prop := fun x vs H Q => ∃ (a b : Addr) (kvs more : List (L2.Key × V)), x = .ref a ∧ vs = [.ref b] ∧ a ≠ b ∧ H a = some (.dK kvs) ∧ H b = some (.dK more) ∧ kvs.length + more.length ≤ sizeLine ∧ Q .non (upd H a (.dK (mergeK kvs more)))
theorem mt_dupd : MtR X "dict.update" rDUpd := by
  intro pins s σ H x vs v us Q I rx rxs h
  obtain ⟨a, b, kvs, more, rfl, rfl, hab, ea, eb, hz, q⟩ := h
  cases rx
  obtain ⟨u, rfl, ru⟩ := rxs.one
  cases ru
  obtain ⟨za, hda, va, ra, da⟩ := dk_of I.hok ea
  obtain ⟨zb, hdb, vb, rb, db⟩ := dk_of I.hok eb
  refine call_meetsIn PySem.F.slot_dict_update da.typeIs PySem.F.entry_dict_update (PySem.F.args_dict_update_2 _ _) (meets_dict_update (mixKind X.prog X.w) a b hab hdb) ⟨va, vb, da, db, by rw [← ra.length, ← rb.length]; exact hz, fun h' dd' _ hs => ?_⟩
  have he : ∃ q, h'.get? a = some q := let ⟨q, _, _, hq, _⟩ := dd'; ⟨q, hq⟩
  refine ⟨.non, _, d_write (t' := s.toks) I (by rw [ea]; exact True.intro) hs he (dk_new ?_ hda (KV.merge rb ra) dd'), rfl, q⟩
  exact Nat.le_trans (length_mergeK more kvs) hz

/-- d.items(), a view -/
def rItemsK : V → List V → Hp → VK → Prop := fun x vs H Q => ∃ (a : Addr) (kvs : List (L2.Key × V)), x = .ref a ∧ vs = [] ∧ H a = some (.dK kvs) ∧ ∀ p, H p = none → Q (.ref p) (upd H p (L2.DX.itemsO p a))
theorem mt_itemsK : MtR X "dict.items" rItemsK := by
  intro pins s σ H x vs v us Q I rx rxs h
  obtain ⟨a, kvs, rfl, rfl, ha, q⟩ := h
  cases rx
  cases rxs
  obtain ⟨z, hd, xs', rel, o, es, ep, ho, hx, hdat, _⟩ := dk_of I.hok ha
  refine DT.callItems (es := es) (ep := ep) hd ⟨o, ho, hx, hdat⟩ ?_
  have hf : H s.heap.objs.size = none := I.hok.fresh (Nat.le_refl _)
  exact ⟨.ref s.heap.objs.size, upd H s.heap.objs.size (L2.DX.itemsO s.heap.objs.size a), I.laid (t' := s.toks) (fun b u e => Heap.get?_push_of_some _ e) (Nat.le_refl _) (L2.DX.itemsO_ok (Heap.get?_push_size _ rfl)), rfl, q _ hf⟩

/-- the pairs of a dict from ints to texts, by the ints -/
abbrev entI (e : Int × Str) : L2.Key × V := (Sum.inl e.1, .str e.2)
def rSortedI : List V → Hp → VK → Prop := fun vs H Q => ∃ (p a : Addr) (kvs : List (Int × Str)), vs = [.ref p] ∧ H p = some (L2.DX.itemsO p a) ∧ H a = some (.dK (kvs.map entI)) ∧ (kvs.map (·.1)).Nodup ∧
  ∀ (H' : Hp) (l : Addr) (ps : List (Addr × Int × Str)), (∀ b o, H b = some o → H' b = some o) → H l = none → (ps.map (·.2)).Perm kvs → (ps.map (·.2)).Pairwise (fun e f => e.1 ≤ f.1) → H' l = some (.lst (ps.map fun z => V.ref z.1)) →
    (∀ z ∈ ps, H' z.1 = some (.tup [.int z.2.1, .str z.2.2])) → Q (.ref l) H'

theorem enc_le (kvs : List (Addr × Int × Str)) (hn : (kvs.map fun z => z.2.1).Nodup) : kvs.mergeSort (PySem.W.dataLe false fun z : Addr × Int × Str => PyData.tuple [.int z.2.1, .str z.2.2]) = kvs.mergeSort fun p q => decide (p.2.1 ≤ q.2.1) := by
  refine PySem.W.sort_congr fun p hp q hq => ?_
  rw [PySem.W.dataLe_eq]
  show (!PySem.W.dataLt (.tuple [.int q.2.1, .str q.2.2]) (.tuple [.int p.2.1, .str p.2.2])) = _
  rw [PySem.W.dataLt_pair (by simp [PySem.W.alike]) (by simp [PySem.W.alike]), PySem.W.dataLt_int]
  by_cases e : q.2.1 = p.2.1
  · have epq : p = q := by
      obtain ⟨i, hi⟩ := List.mem_iff_getElem?.mp hp
      obtain ⟨j, hj⟩ := List.mem_iff_getElem?.mp hq
      have a1 : (kvs.map fun z => z.2.1)[i]? = some p.2.1 := by rw [List.getElem?_map, hi]; rfl
      have a2 : (kvs.map fun z => z.2.1)[j]? = some p.2.1 := by rw [List.getElem?_map, hj, ← e]; rfl
      have eij : i = j := (List.getElem?_inj (List.getElem?_eq_some_iff.mp a1).1 hn).mp (a1.trans a2.symm)
      rw [eij, hj] at hi
      exact (Option.some.inj hi).symm
    subst epq
    simp [PyData.eqv]
  · have ne : PyData.eqv (.int q.2.1) (.int p.2.1) = false := by simpa [PyData.eqv] using e
    rw [ne]
    simp only [Bool.false_eq_true, if_false]
    by_cases l : q.2.1 < p.2.1
    · rw [decide_eq_true l, decide_eq_false (by omega)]; rfl
    · rw [decide_eq_false l, decide_eq_true (by omega)]; rfl
theorem each_refs {bs : List (Addr × Int × Str)} : ∀ {out : List Value}, PySem.W.EachIs (fun (v : Value) (b : Addr × Int × Str) => v = .ref b.1) out bs → out = bs.map fun z => Value.ref z.1 := by
  intro out h
  induction h with
  | nil => rfl
  | cons h _ ih => rw [h, ih]; rfl
theorem refs_each : ∀ bs : List (Addr × Int × Str), PySem.W.EachIs (fun (v : Value) (b : Addr × Int × Str) => v = .ref b.1) (bs.map fun z => Value.ref z.1) bs
  | [] => .nil
  | _ :: bs => .cons rfl (refs_each bs)
theorem reads_each {h : Heap} {a : Addr} : ∀ bs : List (Addr × Int × Str), (∀ z ∈ bs, ∃ u v, RelV (.int z.2.1) u ∧ RelV (.str z.2.2) v ∧ h.get? z.1 = some { cls := .type "tuple", data := .seq #[u, v] } ∧ z.1 ≠ a) →
    PySem.W.EachIs (fun (v : Value) (b : Addr × Int × Str) => ∃ as, Reads h v (.tuple [.int b.2.1, .str b.2.2]) as ∧ a ∉ as) (bs.map fun z => Value.ref z.1) bs
  | [], _ => .nil
  | z :: bs, hb => by
    obtain ⟨u, v, ⟨t1, e1⟩, ⟨t2, e2⟩, hg, ne⟩ := hb z List.mem_cons_self
    subst e1 e2
    refine .cons ⟨_, .tuple hg rfl rfl (.cons (.int _ t1) (.cons (.str _ t2) .nil)), by simp⟩ (reads_each bs fun y hy => hb y (List.mem_cons_of_mem _ hy))
theorem two_tup {P : Program} {w : World} {H : Hp} {h : Heap} {a : Addr} {x y : V} {u v : Value} (r1 : RelV x u) (r2 : RelV y v) (e : h.get? a = some { cls := .type "tuple", data := .seq #[u, v] }) : ObjOk P w H h a (.tup [x, y]) :=
  ⟨by show 2 ≤ sizeLine; decide, [u, v], .cons r1 (.cons r2 .nil), ⟨_, e, rfl, 0, rfl⟩⟩
theorem cr_sortedI (hc : X.calm = true) (hu : X.A.units + 64 < cLine) : CallR X (.builtin "sorted") rSortedI := by
  intro pins s σ H xs us Q I r h
  obtain ⟨p, a, kvs, rfl, hp, ha, hn, q⟩ := h
  obtain rfl := Vals.ref1 r
  have view : s.heap.IsItemsView p a := (show ObjOk X.prog X.w H s.heap p (L2.DX.itemsO p a) from I.hok p _ hp).1
  obtain ⟨z, hd, vs, rel, dd⟩ := dk_of I.hok ha
  obtain ⟨es, ep, raw, hsz, hrow⟩ := dd.raw
  obtain ⟨o, ho, hx, hdat⟩ := raw
  have l1 : (kvs.map entI).length = vs.length := Paired.length rel
  have l0 : kvs.length = vs.length := by rw [← l1, List.length_map]
  have hh : X.A.handled = none := I.ok.hd hc
  rw [List.length_map] at z
  refine DT.sortedI (es := es) (ep := ep) hh view ⟨o, ho, hx, hdat⟩ (by omega) fun h' tk as hk hlt hl hG => ?_
  have lak : as.length = kvs.length := by omega
  have nd : as.Nodup := List.Pairwise.imp (fun h => Nat.ne_of_lt h) hG.rise
  have pr : ∀ (j : Nat) (b : Addr), as[j]? = some b → ∃ (e : Int × Str) (u v : Value), kvs[j]? = some e ∧ RelV (.int e.1) u ∧ RelV (.str e.2) v ∧ h'.get? b = some { cls := .type "tuple", data := .seq #[u, v] } := by
    intro j b hj
    obtain ⟨en, he, hg⟩ := hG.pairs j b hj
    obtain ⟨hje, hen⟩ := Array.getElem?_eq_some_iff.mp he
    have hjk : j < kvs.length := by omega
    have hkj : kvs[j]? = some kvs[j] := List.getElem?_eq_getElem hjk
    have hej : (kvs.map entI)[j]? = some (entI kvs[j]) := by rw [List.getElem?_map, hkj]; rfl
    obtain ⟨u, hu', ru⟩ := kv_get (k := Sum.inl kvs[j].1) (v := .str kvs[j].2) rel hej
    obtain ⟨k1, k2⟩ := hrow j hje _ _ hu'
    refine ⟨kvs[j], en.key, en.val, hkj, ?_, ?_, hg⟩
    · rw [hen] at k1
      exact relV_key (k := Sum.inl kvs[j].1) k1
    · rw [hen] at k2
      rw [k2]
      exact ru
  generalize hbs : as.zip kvs = bs
  have lb : bs.length = kvs.length := by rw [← hbs, List.length_zip]; omega
  have b1 : bs.map (fun z => z.1) = as := by rw [← hbs]; exact List.map_fst_zip (by omega)
  have b2 : bs.map (·.2) = kvs := by rw [← hbs]; exact List.map_snd_zip (by omega)
  have refs : as.map Value.ref = bs.map fun z => Value.ref z.1 := by rw [← b1, List.map_map]; rfl
  have atb : ∀ z ∈ bs, ∃ u v, RelV (.int z.2.1) u ∧ RelV (.str z.2.2) v ∧ h'.get? z.1 = some { cls := .type "tuple", data := .seq #[u, v] } := fun z hz => by
    obtain ⟨j, hj⟩ := List.mem_iff_getElem?.mp hz
    have j1 : as[j]? = some z.1 := by rw [← b1, List.getElem?_map, hj]; rfl
    have j2 : kvs[j]? = some z.2 := by rw [← b2, List.getElem?_map, hj]; rfl
    obtain ⟨e, u, v, e1, e2, e3, e4⟩ := pr j z.1 j1
    rw [j2] at e1
    cases e1
    exact ⟨u, v, e2, e3, e4⟩
  have ne0 : ∀ b o, h'.get? b = some o → b ≠ h'.objs.size := fun b o e => Nat.ne_of_lt (Heap.lt_size e)
  have hob : (h'.push { cls := .type "list", data := .seq (as.map Value.ref).toArray }).get? h'.objs.size = some (PyProof.Rows.seqObj "list" (bs.map fun z => Value.ref z.1).toArray 0) := by
    rw [← refs]; exact Heap.get?_push_size _ rfl
  have ka : ∀ b o, h'.get? b = some o → (h'.push { cls := .type "list", data := .seq (as.map Value.ref).toArray }).get? b = some o := fun b o e => Heap.get?_push_of_some _ e
  generalize h'.push { cls := .type "list", data := .seq (as.map Value.ref).toArray } = h2 at hob ka ⊢
  have nk : (bs.map fun z => z.2.1).Nodup := by
    have e : (bs.map fun z => z.2.1) = kvs.map (·.1) := by rw [← b2, List.map_map]; rfl
    rw [e]; exact hn
  refine PySem.W.list_sort_data (s := { s with heap := h2, toks := tk }) (A := X.A.in1) (R := fun (v : Value) (b : Addr × Int × Str) => v = .ref b.1) (enc := fun z : Addr × Int × Str => PyData.tuple [.int z.2.1, .str z.2.2]) hob (refs_each bs)
    (reads_each bs fun z hz => ?_) (PySem.W.AllAlike.of fun b b' => by simp [PySem.W.alike, PySem.W.alikeAll]) (PySem.W.Sortable.tuples fun b => ⟨_, _, rfl⟩) (by omega) (fun b _ => ?_) fun out ho2 hout => ?_
  · obtain ⟨u, v, e1, e2, e3⟩ := atb z hz
    exact ⟨u, v, e1, e2, ka _ _ e3, ne0 _ _ e3⟩
  · show X.A.units + 1 + 1 + 1 < cLine
    omega
  · rw [enc_le bs nk] at hout
    generalize hms : bs.mergeSort (fun p q => decide (p.2.1 ≤ q.2.1)) = ms at hout
    have eo := each_refs hout
    have perm : ms.Perm bs := by rw [← hms]; exact List.mergeSort_perm _ _
    have srt : ms.Pairwise (fun p q => p.2.1 ≤ q.2.1) := by
      rw [← hms]
      have t : PySem.W.TotalLe (fun p q : Addr × Int × Str => decide (p.2.1 ≤ q.2.1)) := ⟨fun a b c h1 h2 => by simp only [decide_eq_true_eq] at *; omega, fun a b => by simp only [decide_eq_true_eq]; omega⟩
      exact (PySem.W.sort_pairwise t bs).imp fun h => of_decide_eq_true h
    obtain ⟨eF, heF⟩ := PyProof.Rows.sortedHeap_at (vs := bs.map fun z => Value.ref z.1) (out := out.toArray) hob
    have kF : ∀ b o, b ≠ h'.objs.size → h2.get? b = some o → (PyProof.Rows.sortedHeap h2 h'.objs.size (bs.map fun z => Value.ref z.1) out.toArray).get? b = some o := fun b o hb e => (PyProof.Rows.sortedHeap_old hb (Heap.lt_size e)).trans e
    have kS : ∀ b o, s.heap.get? b = some o → (PyProof.Rows.sortedHeap h2 h'.objs.size (bs.map fun z => Value.ref z.1) out.toArray).get? b = some o := fun b o e => kF b o (ne0 _ _ (hk b o e)) (ka _ _ (hk b o e))
    show EP X pins σ Q (.ref h'.objs.size) { s with heap := PyProof.Rows.sortedHeap h2 h'.objs.size (bs.map fun z => Value.ref z.1) out.toArray, toks := tk }
    generalize PyProof.Rows.sortedHeap h2 h'.objs.size (bs.map fun z => Value.ref z.1) out.toArray = hz at heF kF kS ⊢
    have I1 : Inv X pins σ H { s with heap := hz, toks := tk } := I.kept (t' := tk) kS
    have hn0 : H h'.objs.size = none := I.hok.fresh (Nat.le_of_lt hlt)
    have lms : ms.length = kvs.length := by rw [perm.length_eq, lb]
    have rv : Vals (ms.map fun z => V.ref z.1) out := by
      rw [eo]
      exact vals_maps (fun z : Addr × Int × Str => V.ref z.1) (fun z => Value.ref z.1) ms fun _ _ => rfl
    have hlen : (ms.map fun z => V.ref z.1).length ≤ sizeLine := by rw [List.length_map]; omega
    have I2 : Inv X pins σ (upd H h'.objs.size (.lst (ms.map fun z => V.ref z.1))) { s with heap := hz, toks := tk } :=
      I1.take (h' := hz) (t' := tk) (fun b ob _ e => e) (I.fpOk (Nat.le_of_lt hlt) hn0) ⟨hlen, out, eF, rv, heF⟩
    obtain ⟨H2, I3, g, qt⟩ := L2.DX.takeT (P := fun b vs => ∀ z ∈ ms, z.1 = b → vs = [.int z.2.1, .str z.2.2]) I as _ I2 nd fun b hb => by
      obtain ⟨j, hj⟩ := List.mem_iff_getElem?.mp hb
      obtain ⟨e, u, v, e1, e2, e3, e4⟩ := pr j b hj
      have hbl : s.heap.objs.size ≤ b := Nat.le_of_lt (hG.above b hb)
      refine ⟨hbl, ?_, [.int e.1, .str e.2], fun z hz ez => ?_, fun H3 => two_tup e2 e3 (kF _ _ (ne0 _ _ e4) (ka _ _ e4))⟩
      · rw [upd_ne (ne0 _ _ e4)]
        exact I.hok.fresh hbl
      · obtain ⟨i, hi⟩ := List.mem_iff_getElem?.mp (perm.mem_iff.mp hz)
        have i1 : as[i]? = some b := by rw [← b1, List.getElem?_map, hi, ← ez]; rfl
        have i2 : kvs[i]? = some z.2 := by rw [← b2, List.getElem?_map, hi]; rfl
        have eij : i = j := (List.getElem?_inj (List.getElem?_eq_some_iff.mp i1).1 nd).mp (i1.trans hj.symm)
        subst eij
        rw [i2] at e1
        cases e1
        rfl
    have gr : ∀ b o, H b = some o → H2 b = some o := fun b o e => g b o (by rw [upd_ne (ne_of_none e hn0)]; exact e)
    refine ⟨.ref h'.objs.size, H2, I3, rfl, q H2 h'.objs.size ms gr hn0 ?_ ?_ (g _ _ upd_same) fun z hz => ?_⟩
    · rw [← b2]; exact perm.map _
    · rw [List.pairwise_map]; exact srt
    · have hza : z.1 ∈ as := by rw [← b1]; exact List.mem_map.mpr ⟨z, perm.mem_iff.mp hz, rfl⟩
      obtain ⟨vs, hv, hH⟩ := qt z.1 hza
      rw [hv z hz rfl] at hH
      exact hH
end
end Ru
end
section
set_option maxRecDepth 100000
set_option maxHeartbeats 1000000
/-! The text by places; defs, methods and classes with their promises. -/
namespace Lk
open PySem L2

def top (i : Nat) : Stmt := PySem.Challenge.pw_stuckrows_k12_whole_who_is_stuck_stays_s.main.body.getD i (.Pass ⟨0, 0, 0, 0⟩)
/-- what stands fast through the law -/
structure Bs where
  P : Program
  w : World
  K : PySem.W.Frag
  mg : Str → Option Value
  base : Heap
abbrev bs (X : Cx) : Bs := ⟨X.prog, X.w, X.K, X.mg, X.base⟩
/-- a def as the top has left it -/
def Raw (b : Bs) (x qual : Str) (st : Stmt) (ps : List Str) : Prop := ∃ f fd, Fun b.K x qual st f fd ∧ b.mg x = some (.ref f) ∧ Binds b.K fd ps []
def RawM (b : Bs) (C : Addr) (x qual : Str) (st : Stmt) (ps : List Str) : Prop := ∃ f fd, Fun b.K x qual st f fd ∧ Meth b.K C x f ∧ Binds b.K fd ps []
def RawI (b : Bs) (C : Addr) (x qual : Str) (st : Stmt) (ps : List Str) : Prop := ∃ f fd, Fun b.K "__init__" qual st f fd ∧ Mk b.K C f ∧ b.mg x = some (.ref C) ∧ Binds b.K fd ps []
/-- fd is what stands at f -/
def Lkp (b : Bs) (f : Addr) (fd : FuncData) : Prop := ∃ (oc : Value) (od : Option Addr) (osl : Array (Option Value)), b.K.lookup f = some ⟨oc, od, .func fd, osl⟩
/-- a def with its promise -/
def Df (b : Bs) (k : Nat) (x : Str) (ps : List Str) (sp : Sp) : Prop := ∃ f fd, FnOk b.P b.w b.K b.mg b.base CX0 k f fd ps sp ∧ b.mg x = some (.ref f) ∧ PySem.W.keepIn b.K (.ref f) = true ∧ Binds b.K fd ps [] ∧ Lkp b f fd
def Mt (b : Bs) (k : Nat) (C : Addr) (x : Str) (ps : List Str) (sp : Sp) : Prop := ∃ f fd, FnOk b.P b.w b.K b.mg b.base CX0 k f fd ps sp ∧ Meth b.K C x f ∧ Binds b.K fd ps [] ∧ Cls b.K C ∧ Lkp b f fd
def Mkd (b : Bs) (k : Nat) (C : Addr) (x : Str) (ps : List Str) (sp : Sp) : Prop := ∃ f fd, FnOk b.P b.w b.K b.mg b.base CX0 k f fd ps sp ∧ Mk b.K C f ∧ b.mg x = some (.ref C) ∧ Binds b.K fd ps [] ∧ Lkp b f fd

theorem fun_lkp {b : Bs} {x qual : Str} {st : Stmt} {f : Addr} {fd : FuncData} (F : Fun b.K x qual st f fd) : Lkp b f fd := by
  obtain ⟨oc, od, kV, doc, pm, an, cdv, ct, osl, _, lk, _⟩ := F.ex
  exact ⟨oc, od, osl, lk⟩
theorem hu8 {A : Around} {k : Nat} (hr : Room k A) : A.units + 8 < cLine := by have := hr.un; omega
theorem hu9 {A : Around} {k : Nat} (hr : Room k A) : A.units + 9 < cLine := by have := hr.un; omega
theorem hu65 {A : Around} {k : Nat} (hr : Room k A) : A.units + 65 < cLine := by have := hr.un; omega

section
variable {b : Bs} {k : Nat} {x qual : Str} {st : Stmt} {ps N : List Str} {sp : Sp} {C : Addr}
abbrev Body (b : Bs) (k : Nat) (qual : Str) (st : Stmt) (N : List Str) (sp : Sp) : Prop :=
  ∀ (f : Addr) (cdv : Value) (A : Around) (outer : List Env) (s : Shared) (H : Hp) (vs : List V) (Q : VK) (E : XK), Room k (A.deeper (PyProof.Rows.envOfC qual (defScope st) s.heap.objs.size f cdv)) → sp vs H Q E →
      ∃ t, PSs (cxOf CX0 b.P b.w b.K b.mg b.base N qual (defScope st) f cdv A outer s H E).nox (defBody st) t ∧ t { nx := fun _ H' => Q .non H', rt := Q } (start N vs) H
theorem Raw.ok (R : Raw b x qual st ps) (S : FnScope N ps (defScope st)) (len : ∀ vs H Q E, sp vs H Q E → vs.length = ps.length) (body : Body b k qual st N sp) : Df b (k + 1) x ps sp := by
  obtain ⟨f, fd, F, hm, hb⟩ := R
  exact ⟨f, fd, F.ok S len fun cdv A outer s H vs Q E hr h => body f cdv A outer s H vs Q E hr h, hm, F.kp, hb, fun_lkp F⟩
theorem RawM.ok (R : RawM b C x qual st ps) (c : Cls b.K C) (S : FnScope N ps (defScope st)) (len : ∀ vs H Q E, sp vs H Q E → vs.length = ps.length) (body : Body b k qual st N sp) : Mt b (k + 1) C x ps sp := by
  obtain ⟨f, fd, F, hm, hb⟩ := R
  exact ⟨f, fd, F.ok S len fun cdv A outer s H vs Q E hr h => body f cdv A outer s H vs Q E hr h, hm, hb, c, fun_lkp F⟩
theorem RawI.ok (R : RawI b C x qual st ps) (S : FnScope N ps (defScope st)) (len : ∀ vs H Q E, sp vs H Q E → vs.length = ps.length) (body : Body b k qual st N sp) : Mkd b (k + 1) C x ps sp := by
  obtain ⟨f, fd, F, hm, hx, hb⟩ := R
  exact ⟨f, fd, F.ok S len fun cdv A outer s H vs Q E hr h => body f cdv A outer s H vs Q E hr h, hm, hx, hb, fun_lkp F⟩
end
section
variable {X : Cx} {k : Nat} {x m : Str} {ps : List Str} {sp : Sp} {C : Addr} {p pos apos : Pos} {e o : Expr} {es : List Expr} {ta : TE} {t : TA}
theorem pe_df (D : Df (bs X) k x ps sp) (hr : Room k X.A) (ha : PA X (e :: es) t) (hg : Gl X x := by rfl) (hdb : (x == ("__debug__" : Str)) = false := by decide) (he : starEach (e :: es) X.env = (false, eval e X.env) :: starEach es X.env := by rfl)
    (hpl : (backTo pos (starEach es X.env)).any (·.1) = false := by rfl) : PE X (.Call (.Name x p) (e :: es) [] pos) (tCall sp [] E0 t) := by
  obtain ⟨f, fd, F, hm, hk, hb, _⟩ := D
  exact pe_call F hr hg hm hk hb .nil pass0 ha hdb he hpl
theorem pe_df0 (D : Df (bs X) k x ps sp) (hr : Room k X.A) (hg : Gl X x := by rfl) (hdb : (x == ("__debug__" : Str)) = false := by decide) : PE X (.Call (.Name x p) [] [] pos) (tCall sp [] E0 tNil) := by
  obtain ⟨f, fd, F, hm, hk, hb, _⟩ := D
  exact pe_call0 F hr hg hm hk hb .nil pass0 hdb
theorem pe_mtd {pl : Sem Bool} (D : Mt (bs X) k C m ps sp) (he : PE X o ta) (hr : Room k X.A) (ha : PA X (e :: es) t) (hst : starEach (e :: es) X.env = (false, eval e X.env) :: starEach es X.env := by rfl) (hpl : (backTo pos (starEach es X.env)).any (·.1) = false := by rfl)
    (ht : eval (.Call (.Attribute o m apos) (e :: es) [] pos) X.env = (do
      let ov ← eval o X.env
      standAt apos.atName
      let (f, first) ← holding [ov] (getMethod ov m pl)
      callWith pos f first (backTo pos (starEach (e :: es) X.env)) (backToKw pos (keywordEach [] X.env))) := by rfl) : PE X (.Call (.Attribute o m apos) (e :: es) [] pos) (tMeth C m sp [] E0 ta t) := by
  obtain ⟨f, fd, F, hm, hb, c, _⟩ := D
  exact pe_meth he c hm F hr hb .nil pass0 ha hst hpl ht
theorem pe_mtd0 {pl : Sem Bool} (D : Mt (bs X) k C m ps sp) (he : PE X o ta) (hr : Room k X.A)
    (ht : eval (.Call (.Attribute o m apos) [] [] pos) X.env = (do
      let ov ← eval o X.env
      standAt apos.atName
      let (f, first) ← holding [ov] (getMethod ov m pl)
      callWith pos f first (backTo pos (starEach [] X.env)) (backToKw pos (keywordEach [] X.env))) := by rfl) : PE X (.Call (.Attribute o m apos) [] [] pos) (tMeth C m sp [] E0 ta tNil) := by
  obtain ⟨f, fd, F, hm, hb, c, _⟩ := D
  exact pe_meth0 he c hm F hr hb .nil pass0 ht
theorem pe_mk_ (D : Mkd (bs X) k C x ps sp) (hr : Room (k + 1) X.A) (ha : PA X (e :: es) t) (hg : Gl X x := by rfl) (hdb : (x == ("__debug__" : Str)) = false := by decide) (he : starEach (e :: es) X.env = (false, eval e X.env) :: starEach es X.env := by rfl)
    (hpl : (backTo pos (starEach es X.env)).any (·.1) = false := by rfl) : PE X (.Call (.Name x p) (e :: es) [] pos) (tMake C sp [] E0 t) := by
  obtain ⟨f, fd, F, M, hm, hb, _⟩ := D
  exact pe_make M F hr hg hm hb .nil pass0 ha hdb he hpl
theorem pe_mk0 (D : Mkd (bs X) k C x ps sp) (hr : Room (k + 1) X.A) (hg : Gl X x := by rfl) (hdb : (x == ("__debug__" : Str)) = false := by decide) : PE X (.Call (.Name x p) [] [] pos) (tMake C sp [] E0 tNil) := by
  obtain ⟨f, fd, F, M, hm, hb, _⟩ := D
  exact pe_make0 M F hr hg hm hb .nil pass0 hdb
end

/-! ### a promise for each of some things -/
theorem Lkp.inj {b : Bs} {f : Addr} {fd fd' : FuncData} (h : Lkp b f fd) (h' : Lkp b f fd') : fd = fd' := by
  obtain ⟨oc, od, osl, e⟩ := h
  obtain ⟨oc', od', osl', e'⟩ := h'
  rw [e] at e'
  injection e' with e'
  injection e' with _ _ e' _
  injection e'
section
variable {b : Bs} {k : Nat} {x : Str} {ps : List Str} {C : Addr} {ι : Type} {good : ι → Prop} {sp : ι → Sp}
theorem fnok_all {f : Addr} {fd : FuncData} (h : ∀ i, good i → FnOk b.P b.w b.K b.mg b.base CX0 k f fd ps (sp i)) : FnOk b.P b.w b.K b.mg b.base CX0 k f fd ps (fun vs H Q E => ∃ i, good i ∧ sp i vs H Q E) :=
  ⟨fun vs H Q E ⟨i, g, q⟩ => (h i g).len vs H Q E q, fun A outer s H args us vs Q E hr he hb hv ⟨i, g, q⟩ => (h i g).run A outer s H args us vs Q E hr he hb hv q⟩
theorem Df.all (i0 : ι) (g0 : good i0) (h : ∀ i, good i → Df b k x ps (sp i)) : Df b k x ps (fun vs H Q E => ∃ i, good i ∧ sp i vs H Q E) := by
  obtain ⟨f, fd, F, hm, hk, hb, l⟩ := h i0 g0
  refine ⟨f, fd, fnok_all fun i g => ?_, hm, hk, hb, l⟩
  obtain ⟨f', fd', F', hm', hk', hb', l'⟩ := h i g
  rw [hm] at hm'
  injection hm' with hm'
  injection hm' with hm'
  subst hm'
  rw [l.inj l']
  exact F'
theorem Mt.all (i0 : ι) (g0 : good i0) (h : ∀ i, good i → Mt b k C x ps (sp i)) : Mt b k C x ps (fun vs H Q E => ∃ i, good i ∧ sp i vs H Q E) := by
  obtain ⟨f, fd, F, hm, hb, c, l⟩ := h i0 g0
  refine ⟨f, fd, fnok_all fun i g => ?_, hm, hb, c, l⟩
  obtain ⟨f', fd', F', hm', hb', c', l'⟩ := h i g
  have e := hm'.at_
  rw [hm.at_] at e
  injection e with e
  injection e with e
  injection e with e
  subst e
  rw [l.inj l']
  exact F'
theorem Mkd.all (i0 : ι) (g0 : good i0) (h : ∀ i, good i → Mkd b k C x ps (sp i)) : Mkd b k C x ps (fun vs H Q E => ∃ i, good i ∧ sp i vs H Q E) := by
  obtain ⟨f, fd, F, hM, hm, hb, l⟩ := h i0 g0
  refine ⟨f, fd, fnok_all fun i g => ?_, hM, hm, hb, l⟩
  obtain ⟨f', fd', F', hM', hm', hb', l'⟩ := h i g
  have e := hM'.init
  rw [hM.init] at e
  injection e with e
  injection e with e
  injection e with e
  subst e
  rw [l.inj l']
  exact F'
end
end Lk
end
section
set_option maxRecDepth 100000
set_option maxHeartbeats 1000000
/-! isinstance with one built-in class; what is known of the top. -/
namespace Lk
open PySem L2

/-- x is an instance of T -/
inductive IsiV (K : PySem.W.Frag) (H : Hp) : V → String → Bool → Prop
  | intI (i : Int) : IsiV K H (.int i) "int" true
  | intB (i : Int) : IsiV K H (.int i) "bool" false
  | intT (i : Int) : IsiV K H (.int i) "tuple" false
  | strS (x : Str) : IsiV K H (.str x) "str" true
  | strT (x : Str) : IsiV K H (.str x) "tuple" false
  | tupT {a : Addr} {xs : List V} : SqT K H a xs → IsiV K H (.ref a) "tuple" true
theorem isi_ok {K : PySem.W.Frag} {H : Hp} {x : V} {T : String} {c : Bool} {Q : VK} (h : IsiV K H x T c) (q : Q (.bl c) H) : rIsi K [x, .ty T] H Q := by
  cases h with
  | intI i => exact ⟨_, _, _, _, _, rfl, .ty _, .base (.int _), kit_ty (by decide +kernel), q⟩
  | intB i => exact ⟨_, _, _, _, _, rfl, .ty _, .base (.int _), kit_ty (by decide +kernel), q⟩
  | intT i => exact ⟨_, _, _, _, _, rfl, .ty _, .base (.int _), kit_ty (by decide +kernel), q⟩
  | strS i => exact ⟨_, _, _, _, _, rfl, .ty _, .base (.str _), kit_ty (by decide +kernel), q⟩
  | strT i => exact ⟨_, _, _, _, _, rfl, .ty _, .base (.str _), kit_ty (by decide +kernel), q⟩
  | tupT h =>
    rcases h with (h | ⟨o, h⟩) | ⟨o, its, n, h1, h2, _⟩
    · exact ⟨_, _, _, _, _, rfl, .ty _, .base (.tup h), kit_ty (by decide +kernel), q⟩
    · exact ⟨_, _, _, _, _, rfl, .ty _, .fTuple h, kit_ty (by decide +kernel), q⟩
    · exact ⟨_, _, _, _, _, rfl, .ty _, .kTuple h1 h2, kit_ty (by decide +kernel), q⟩

/-- a tuple that stands fast: tracked, or written -/
def Tp (K : PySem.W.Frag) (H : Hp) (a : Addr) (xs : List V) : Prop := H a = some (.tup xs) ∨ ∀ H', SqT K H' a xs
theorem Tp.sq {K : PySem.W.Frag} {H : Hp} {a : Addr} {xs : List V} (h : Tp K H a xs) : SqT K H a xs := h.elim (fun h => .inl (.inl h)) fun h => h H
/-- the tuples stay -/
def Tups (H H' : Hp) : Prop := ∀ b xs, H b = some (.tup xs) → H' b = some (.tup xs)
theorem Tups.refl (H : Hp) : Tups H H := fun _ _ h => h
theorem Tups.trans {H H1 H2 : Hp} (a : Tups H H1) (b : Tups H1 H2) : Tups H H2 := fun c xs h => b c xs (a c xs h)
theorem Tups.new {H : Hp} {p : Addr} {o : HO} (h : H p = none) : Tups H (upd H p o) := fun b xs e => by rw [upd_ne (ne_of_none e h)]; exact e
theorem Tups.mut {H : Hp} {p : Addr} {o u : HO} (h : H p = some u) (hu : ∀ xs, u ≠ .tup xs) : Tups H (upd H p o) := fun b xs e => by
  by_cases hb : b = p
  · subst hb; rw [h] at e; exact (hu xs (Option.some.inj e)).elim
  · rw [upd_ne hb]; exact e
theorem Tp.mono {K : PySem.W.Frag} {H H' : Hp} {a : Addr} {xs : List V} (t : Tups H H') (h : Tp K H a xs) : Tp K H' a xs := h.imp (t a xs) id
theorem Same.tups {H H' : Hp} (s : Same H H') : Tups H H' := fun b xs e => s b _ e

def stdN : List Str := ["is", "ix", "s", "u", "six", "x"]
def togT : List (Str × List Str) := [("is", ["is", "ix", "s", "u", "six"]), ("ix", ["is", "ix"]), ("s", ["is", "s", "u"]), ("u", ["is", "s"]), ("six", ["is"]), ("x", [])]
def aboT : List (Str × List Str) := [("is", []), ("ix", ["is"]), ("s", ["is"]), ("u", ["is", "s"]), ("six", ["is", "ix", "s", "u"])]
/-- a written dict of written tuples of texts -/
def Tab (b : Bs) (x : Str) (t : List (Str × List Str)) : Prop := ∃ p, b.mg x = some (.ref p) ∧ ∀ e ∈ t, ∃ q, KDct b.K b.w p e.1 (.ref q) ∧ ∀ H, SqT b.K H q (e.2.map V.str)
/-- what the top has left: the builtins that the text names, its constants -/
structure Tops (b : Bs) : Prop where
  b_len : b.mg "len" = none
  b_int : b.mg "int" = none
  b_all : b.mg "all" = none
  b_isinstance : b.mg "isinstance" = none
  b_list : b.mg "list" = none
  b_tuple : b.mg "tuple" = none
  b_dict : b.mg "dict" = none
  b_sorted : b.mg "sorted" = none
  b_set : b.mg "set" = none
  b_enumerate : b.mg "enumerate" = none
  b_range : b.mg "range" = none
  b_str : b.mg "str" = none
  b_bool : b.mg "bool" = none
  m_MAX_LETTERS : ∃ t, b.mg "MAX_LETTERS" = some (.int 12 t)
  m_MAX_MODES : ∃ t, b.mg "MAX_MODES" = some (.int 6 t)
  m_STANDARD_NAMES : ∃ p, b.mg "STANDARD_NAMES" = some (.ref p) ∧ ∀ H, SqT b.K H p (stdN.map V.str)
  m_STANDARD_TOGETHER : Tab b "STANDARD_TOGETHER" togT
  m_STANDARD_ABOVE : Tab b "STANDARD_ABOVE" aboT
  m_LETTERS : ∃ t, b.mg "LETTERS" = some (.str "abcdefghijklmnopqrstuvwxyz" t)
end Lk
end
section
/-! Comprehensions whose inner readings name the block's surroundings: those are the def's own. -/
namespace Lk
open PySem L2
abbrev OB (α : Type) := Shared → Hp → Addr → List (Str × Addr) → List Addr → α
abbrev at0 {α : Type} (f : OB α) : α := f {} (fun _ => none) 0 [] []
variable {X : Cx}
theorem pe_lcB {elt tg iter : Expr} {ifs : List Expr} {scope : Scope} {own : List (Str × Nat)} {pos : Pos} {wi : TI} {g : OB TG} {tt : OB TT} {te : OB TE} (hc : X.calm = true) (hN : X.N.Nodup) (hi : PI X tg iter wi) (ok : BlkOk X.N X.env.scope scope own) (hg : ∀ (s : Shared) (H : Hp) (C : Addr) (cl : List (Str × Addr)) (fp : List Addr), PG (X.blk s H scope (compEnvC scope cl C X.env) fp) tg (g s H C cl fp)) (ht : ∀ (s : Shared) (H : Hp) (C : Addr) (cl : List (Str × Addr)) (fp : List Addr), PTs (X.blk s H scope (compEnvC scope cl C X.env) fp) ifs (tt s H C cl fp)) (he : ∀ (s : Shared) (H : Hp) (C : Addr) (cl : List (Str × Addr)) (fp : List Addr), PE (X.blk s H scope (compEnvC scope cl C X.env) fp) elt (te s H C cl fp)) (hs : ∀ x, foldedSetIterable iter X.env x = pure x := by intro _; rfl) (eg : ∀ (s : Shared) (H : Hp) (C : Addr) (cl : List (Str × Addr)) (fp : List Addr), g s H C cl fp = at0 g := by intros; rfl) (ett : ∀ (s : Shared) (H : Hp) (C : Addr) (cl : List (Str × Addr)) (fp : List Addr), tt s H C cl fp = at0 tt := by intros; rfl) (ete : ∀ (s : Shared) (H : Hp) (C : Addr) (cl : List (Str × Addr)) (fp : List Addr), te s H C cl fp = at0 te := by intros; rfl) :
    PE X (.ListComp elt [⟨tg, iter, ifs, 0⟩] scope pos) (tLc wi (at0 g) (at0 tt) (at0 te) (own.map (·.2))) :=
  pe_lc hc hN hi ok (fun s H C cl fp => eg s H C cl fp ▸ hg s H C cl fp) (fun s H C cl fp => ett s H C cl fp ▸ ht s H C cl fp) (fun s H C cl fp => ete s H C cl fp ▸ he s H C cl fp) hs
theorem ps_setLcB {i : Nat} {y : Str} {py spos : Pos} {elt tg iter : Expr} {ifs : List Expr} {scope : Scope} {own : List (Str × Nat)} {pos : Pos} {wi : TI} {g : OB TG} {tt : OB TT} {te : OB TE} (hc : X.calm = true) (hN : X.N.Nodup) (hy : X.N[i]? = some y) (hyl : X.env.scope.names.lookup y = some .local) (hsw : swapsWith (.ListComp elt [⟨tg, iter, ifs, 0⟩] scope pos) (some (.Name y py)) spos.line X.env = pure true) (hi : PI X tg iter wi) (ok : BlkOk X.N X.env.scope scope own) (hg : ∀ (s : Shared) (H : Hp) (C : Addr) (cl : List (Str × Addr)) (fp : List Addr), PG (X.blk s H scope (compEnvC scope cl C X.env) fp) tg (g s H C cl fp)) (ht : ∀ (s : Shared) (H : Hp) (C : Addr) (cl : List (Str × Addr)) (fp : List Addr), PTs (X.blk s H scope (compEnvC scope cl C X.env) fp) ifs (tt s H C cl fp)) (he : ∀ (s : Shared) (H : Hp) (C : Addr) (cl : List (Str × Addr)) (fp : List Addr), PE (X.blk s H scope (compEnvC scope cl C X.env) fp) elt (te s H C cl fp)) (hs : ∀ x, foldedSetIterable iter X.env x = pure x := by intro _; rfl) (eg : ∀ (s : Shared) (H : Hp) (C : Addr) (cl : List (Str × Addr)) (fp : List Addr), g s H C cl fp = at0 g := by intros; rfl) (ett : ∀ (s : Shared) (H : Hp) (C : Addr) (cl : List (Str × Addr)) (fp : List Addr), tt s H C cl fp = at0 tt := by intros; rfl) (ete : ∀ (s : Shared) (H : Hp) (C : Addr) (cl : List (Str × Addr)) (fp : List Addr), te s H C cl fp = at0 te := by intros; rfl) :
    PS X (.Assign [.Name y py] (.ListComp elt [⟨tg, iter, ifs, 0⟩] scope pos) spos) (tAsg (tLc wi (at0 g) (at0 tt) (at0 te) (own.map (·.2))) (gName i)) :=
  ps_setLc hc hN hy hyl hsw hi ok (fun s H C cl fp => eg s H C cl fp ▸ hg s H C cl fp) (fun s H C cl fp => ett s H C cl fp ▸ ht s H C cl fp) (fun s H C cl fp => ete s H C cl fp ▸ he s H C cl fp) hs
theorem pe_lc2B {elt tg iter tg1 iter1 : Expr} {ifs ifs1 : List Expr} {scope : Scope} {own : List (Str × Nat)} {vs1 : List Nat} {pos : Pos} {wi : TI} {wi1 : OB TI} {g g1 : OB TG} {tt tt1 : OB TT} {te : OB TE} (hc : X.calm = true) (hN : X.N.Nodup) (hi : PI X tg iter wi) (ok : BlkOk X.N X.env.scope scope own) (hv : ∀ i ∈ vs1, i ∈ own.map (·.2)) (hg : ∀ (s : Shared) (H : Hp) (C : Addr) (cl : List (Str × Addr)) (fp : List Addr), PG (X.blk s H scope (compEnvC scope cl C X.env) fp) tg (g s H C cl fp)) (ht : ∀ (s : Shared) (H : Hp) (C : Addr) (cl : List (Str × Addr)) (fp : List Addr), PTs (X.blk s H scope (compEnvC scope cl C X.env) fp) ifs (tt s H C cl fp)) (hi1 : ∀ (s : Shared) (H : Hp) (C : Addr) (cl : List (Str × Addr)) (fp : List Addr), PI (X.blk s H scope (compEnvC scope cl C X.env) fp) tg1 iter1 (wi1 s H C cl fp)) (hg1 : ∀ (s : Shared) (H : Hp) (C : Addr) (cl : List (Str × Addr)) (fp : List Addr), PG (X.blk s H scope (compEnvC scope cl C X.env) fp) tg1 (g1 s H C cl fp)) (ht1 : ∀ (s : Shared) (H : Hp) (C : Addr) (cl : List (Str × Addr)) (fp : List Addr), PTs (X.blk s H scope (compEnvC scope cl C X.env) fp) ifs1 (tt1 s H C cl fp)) (he : ∀ (s : Shared) (H : Hp) (C : Addr) (cl : List (Str × Addr)) (fp : List Addr), PE (X.blk s H scope (compEnvC scope cl C X.env) fp) elt (te s H C cl fp)) (hs : ∀ x, foldedSetIterable iter X.env x = pure x := by intro _; rfl) (hs1 : ∀ env x, foldedSetIterable iter1 env x = pure x := by intro _ _; rfl) (eg : ∀ (s : Shared) (H : Hp) (C : Addr) (cl : List (Str × Addr)) (fp : List Addr), g s H C cl fp = at0 g := by intros; rfl) (eg1 : ∀ (s : Shared) (H : Hp) (C : Addr) (cl : List (Str × Addr)) (fp : List Addr), g1 s H C cl fp = at0 g1 := by intros; rfl) (ett : ∀ (s : Shared) (H : Hp) (C : Addr) (cl : List (Str × Addr)) (fp : List Addr), tt s H C cl fp = at0 tt := by intros; rfl) (ewi : ∀ (s : Shared) (H : Hp) (C : Addr) (cl : List (Str × Addr)) (fp : List Addr), wi1 s H C cl fp = at0 wi1 := by intros; rfl) (ett1 : ∀ (s : Shared) (H : Hp) (C : Addr) (cl : List (Str × Addr)) (fp : List Addr), tt1 s H C cl fp = at0 tt1 := by intros; rfl) (ete : ∀ (s : Shared) (H : Hp) (C : Addr) (cl : List (Str × Addr)) (fp : List Addr), te s H C cl fp = at0 te := by intros; rfl) :
    PE X (.ListComp elt [⟨tg, iter, ifs, 0⟩, ⟨tg1, iter1, ifs1, 0⟩] scope pos) (tLc2 wi (at0 g) (at0 tt) (at0 wi1) (at0 g1) (at0 tt1) (at0 te) (own.map (·.2)) vs1) :=
  pe_lc2 hc hN hi ok hv (fun s H C cl fp => eg s H C cl fp ▸ hg s H C cl fp) (fun s H C cl fp => ett s H C cl fp ▸ ht s H C cl fp) (fun s H C cl fp => ewi s H C cl fp ▸ hi1 s H C cl fp) (fun s H C cl fp => eg1 s H C cl fp ▸ hg1 s H C cl fp) (fun s H C cl fp => ett1 s H C cl fp ▸ ht1 s H C cl fp) (fun s H C cl fp => ete s H C cl fp ▸ he s H C cl fp) hs hs1
theorem ps_setLc2B {i : Nat} {y : Str} {py spos : Pos} {elt tg iter tg1 iter1 : Expr} {ifs ifs1 : List Expr} {scope : Scope} {own : List (Str × Nat)} {vs1 : List Nat} {pos : Pos} {wi : TI} {wi1 : OB TI} {g g1 : OB TG} {tt tt1 : OB TT} {te : OB TE} (hc : X.calm = true) (hN : X.N.Nodup) (hy : X.N[i]? = some y) (hyl : X.env.scope.names.lookup y = some .local) (hsw : swapsWith (.ListComp elt [⟨tg, iter, ifs, 0⟩, ⟨tg1, iter1, ifs1, 0⟩] scope pos) (some (.Name y py)) spos.line X.env = pure true) (hi : PI X tg iter wi) (ok : BlkOk X.N X.env.scope scope own) (hv : ∀ i ∈ vs1, i ∈ own.map (·.2)) (hg : ∀ (s : Shared) (H : Hp) (C : Addr) (cl : List (Str × Addr)) (fp : List Addr), PG (X.blk s H scope (compEnvC scope cl C X.env) fp) tg (g s H C cl fp)) (ht : ∀ (s : Shared) (H : Hp) (C : Addr) (cl : List (Str × Addr)) (fp : List Addr), PTs (X.blk s H scope (compEnvC scope cl C X.env) fp) ifs (tt s H C cl fp)) (hi1 : ∀ (s : Shared) (H : Hp) (C : Addr) (cl : List (Str × Addr)) (fp : List Addr), PI (X.blk s H scope (compEnvC scope cl C X.env) fp) tg1 iter1 (wi1 s H C cl fp)) (hg1 : ∀ (s : Shared) (H : Hp) (C : Addr) (cl : List (Str × Addr)) (fp : List Addr), PG (X.blk s H scope (compEnvC scope cl C X.env) fp) tg1 (g1 s H C cl fp)) (ht1 : ∀ (s : Shared) (H : Hp) (C : Addr) (cl : List (Str × Addr)) (fp : List Addr), PTs (X.blk s H scope (compEnvC scope cl C X.env) fp) ifs1 (tt1 s H C cl fp)) (he : ∀ (s : Shared) (H : Hp) (C : Addr) (cl : List (Str × Addr)) (fp : List Addr), PE (X.blk s H scope (compEnvC scope cl C X.env) fp) elt (te s H C cl fp)) (hs : ∀ x, foldedSetIterable iter X.env x = pure x := by intro _; rfl) (hs1 : ∀ env x, foldedSetIterable iter1 env x = pure x := by intro _ _; rfl) (eg : ∀ (s : Shared) (H : Hp) (C : Addr) (cl : List (Str × Addr)) (fp : List Addr), g s H C cl fp = at0 g := by intros; rfl) (eg1 : ∀ (s : Shared) (H : Hp) (C : Addr) (cl : List (Str × Addr)) (fp : List Addr), g1 s H C cl fp = at0 g1 := by intros; rfl) (ett : ∀ (s : Shared) (H : Hp) (C : Addr) (cl : List (Str × Addr)) (fp : List Addr), tt s H C cl fp = at0 tt := by intros; rfl) (ewi : ∀ (s : Shared) (H : Hp) (C : Addr) (cl : List (Str × Addr)) (fp : List Addr), wi1 s H C cl fp = at0 wi1 := by intros; rfl) (ett1 : ∀ (s : Shared) (H : Hp) (C : Addr) (cl : List (Str × Addr)) (fp : List Addr), tt1 s H C cl fp = at0 tt1 := by intros; rfl) (ete : ∀ (s : Shared) (H : Hp) (C : Addr) (cl : List (Str × Addr)) (fp : List Addr), te s H C cl fp = at0 te := by intros; rfl) :
    PS X (.Assign [.Name y py] (.ListComp elt [⟨tg, iter, ifs, 0⟩, ⟨tg1, iter1, ifs1, 0⟩] scope pos) spos) (tAsg (tLc2 wi (at0 g) (at0 tt) (at0 wi1) (at0 g1) (at0 tt1) (at0 te) (own.map (·.2)) vs1) (gName i)) :=
  ps_setLc2 hc hN hy hyl hsw hi ok hv (fun s H C cl fp => eg s H C cl fp ▸ hg s H C cl fp) (fun s H C cl fp => ett s H C cl fp ▸ ht s H C cl fp) (fun s H C cl fp => ewi s H C cl fp ▸ hi1 s H C cl fp) (fun s H C cl fp => eg1 s H C cl fp ▸ hg1 s H C cl fp) (fun s H C cl fp => ett1 s H C cl fp ▸ ht1 s H C cl fp) (fun s H C cl fp => ete s H C cl fp ▸ he s H C cl fp) hs hs1
theorem pe_dcB {kof : V → NestedKey} {mk : Addr → HO} {kx vx tg iter : Expr} {ifs : List Expr} {scope : Scope} {own : List (Str × Nat)} {pos : Pos} {wi : TI} {g : OB TG} {tt : OB TT} {tk tv : OB TE} (hu : X.A.units + 8 < cLine) (hmk : Mx.Fresh X mk) (hc : X.calm = true) (hN : X.N.Nodup) (hi : PI X tg iter wi) (ok : BlkOk X.N X.env.scope scope own) (hg : ∀ (s : Shared) (H : Hp) (C : Addr) (cl : List (Str × Addr)) (fp : List Addr), PG (X.blk s H scope (compEnvC scope cl C X.env) fp) tg (g s H C cl fp)) (ht : ∀ (s : Shared) (H : Hp) (C : Addr) (cl : List (Str × Addr)) (fp : List Addr), PTs (X.blk s H scope (compEnvC scope cl C X.env) fp) ifs (tt s H C cl fp)) (hk : ∀ (s : Shared) (H : Hp) (C : Addr) (cl : List (Str × Addr)) (fp : List Addr), PE (X.blk s H scope (compEnvC scope cl C X.env) fp) kx (tk s H C cl fp)) (he : ∀ (s : Shared) (H : Hp) (C : Addr) (cl : List (Str × Addr)) (fp : List Addr), PE (X.blk s H scope (compEnvC scope cl C X.env) fp) vx (tv s H C cl fp)) (hs : ∀ x, foldedSetIterable iter X.env x = pure x := by intro _; rfl) (eg : ∀ (s : Shared) (H : Hp) (C : Addr) (cl : List (Str × Addr)) (fp : List Addr), g s H C cl fp = at0 g := by intros; rfl) (ett : ∀ (s : Shared) (H : Hp) (C : Addr) (cl : List (Str × Addr)) (fp : List Addr), tt s H C cl fp = at0 tt := by intros; rfl) (etk : ∀ (s : Shared) (H : Hp) (C : Addr) (cl : List (Str × Addr)) (fp : List Addr), tk s H C cl fp = at0 tk := by intros; rfl) (etv : ∀ (s : Shared) (H : Hp) (C : Addr) (cl : List (Str × Addr)) (fp : List Addr), tv s H C cl fp = at0 tv := by intros; rfl) :
    PE X (.DictComp kx vx [⟨tg, iter, ifs, 0⟩] scope pos) (Mx.tDcG X.w kof mk wi (at0 g) (at0 tt) (at0 tk) (at0 tv) (own.map (·.2))) :=
  Mx.pe_dcG (kof := kof) hu hmk hc hN hi ok (fun s H C cl fp => eg s H C cl fp ▸ hg s H C cl fp) (fun s H C cl fp => ett s H C cl fp ▸ ht s H C cl fp) (fun s H C cl fp => etk s H C cl fp ▸ hk s H C cl fp) (fun s H C cl fp => etv s H C cl fp ▸ he s H C cl fp) hs
theorem ps_setDcB {i : Nat} {y : Str} {py spos : Pos} {kof : V → NestedKey} {mk : Addr → HO} {kx vx tg iter : Expr} {ifs : List Expr} {scope : Scope} {own : List (Str × Nat)} {pos : Pos} {wi : TI} {g : OB TG} {tt : OB TT} {tk tv : OB TE} (hu : X.A.units + 8 < cLine) (hmk : Mx.Fresh X mk) (hc : X.calm = true) (hN : X.N.Nodup) (hy : X.N[i]? = some y) (hyl : X.env.scope.names.lookup y = some .local) (hsw : swapsWith (.DictComp kx vx [⟨tg, iter, ifs, 0⟩] scope pos) (some (.Name y py)) spos.line X.env = pure true) (hi : PI X tg iter wi) (ok : BlkOk X.N X.env.scope scope own) (hg : ∀ (s : Shared) (H : Hp) (C : Addr) (cl : List (Str × Addr)) (fp : List Addr), PG (X.blk s H scope (compEnvC scope cl C X.env) fp) tg (g s H C cl fp)) (ht : ∀ (s : Shared) (H : Hp) (C : Addr) (cl : List (Str × Addr)) (fp : List Addr), PTs (X.blk s H scope (compEnvC scope cl C X.env) fp) ifs (tt s H C cl fp)) (hk : ∀ (s : Shared) (H : Hp) (C : Addr) (cl : List (Str × Addr)) (fp : List Addr), PE (X.blk s H scope (compEnvC scope cl C X.env) fp) kx (tk s H C cl fp)) (he : ∀ (s : Shared) (H : Hp) (C : Addr) (cl : List (Str × Addr)) (fp : List Addr), PE (X.blk s H scope (compEnvC scope cl C X.env) fp) vx (tv s H C cl fp)) (hs : ∀ x, foldedSetIterable iter X.env x = pure x := by intro _; rfl) (eg : ∀ (s : Shared) (H : Hp) (C : Addr) (cl : List (Str × Addr)) (fp : List Addr), g s H C cl fp = at0 g := by intros; rfl) (ett : ∀ (s : Shared) (H : Hp) (C : Addr) (cl : List (Str × Addr)) (fp : List Addr), tt s H C cl fp = at0 tt := by intros; rfl) (etk : ∀ (s : Shared) (H : Hp) (C : Addr) (cl : List (Str × Addr)) (fp : List Addr), tk s H C cl fp = at0 tk := by intros; rfl) (etv : ∀ (s : Shared) (H : Hp) (C : Addr) (cl : List (Str × Addr)) (fp : List Addr), tv s H C cl fp = at0 tv := by intros; rfl) :
    PS X (.Assign [.Name y py] (.DictComp kx vx [⟨tg, iter, ifs, 0⟩] scope pos) spos) (tAsg (Mx.tDcG X.w kof mk wi (at0 g) (at0 tt) (at0 tk) (at0 tv) (own.map (·.2))) (gName i)) :=
  Mx.ps_setDcG (kof := kof) hu hmk hc hN hy hyl hsw hi ok (fun s H C cl fp => eg s H C cl fp ▸ hg s H C cl fp) (fun s H C cl fp => ett s H C cl fp ▸ ht s H C cl fp) (fun s H C cl fp => etk s H C cl fp ▸ hk s H C cl fp) (fun s H C cl fp => etv s H C cl fp ▸ he s H C cl fp) hs
end Lk
end
section
set_option maxRecDepth 100000
set_option maxHeartbeats 1000000
/-! Comprehensions whose elements change nothing that stood. -/
namespace Lk
open PySem L2

theorem filterMap_some' {α β : Type} (f : α → β) : ∀ l : List α, l.filterMap (fun i => some (f i)) = l.map f
  | [] => rfl
  | x :: l => by rw [List.filterMap_cons, filterMap_some' f l]; rfl
section
variable {J : It} {n : Nat} {G : Hp → Prop} {Y : Nat → Hp → V → Hp → Prop}
/-- what a reading asks of such a comprehension: the list of those f i that are there -/
theorem lc_pure (w : Walk J n G Y) {g : TG} {tt : TT} {te : TE} {vs : List Nat} {σ : St} {H1 : Hp} {D : Addr} {Qd : Hp → Prop} (f : Nat → Option V) (hD : H1 D = none) (hn : n < sizeLine) (hG : ∀ H, Same H1 H → G H)
    (turn : ∀ i x H H' (Q : VK) (N : Hp → Prop), i < n → Same H1 H → Y i H x H' → (∀ H4, Same H H4 → match f i with
      | some y => Q y H4
      | none => N H4) → g x (wipe σ vs) H' fun σ2 H2 => wipe σ2 vs = wipe σ vs ∧ tt σ2 H2 fun b H3 => if b = true then te σ2 H3 Q else N H3)
    (done : ∀ H, Same H1 H → H D = some (.lst ((List.range n).filterMap f)) → Qd H) :
    ∃ W : Nat → Nat → Hp → Prop, (∃ m, W 0 m (upd H1 D (.lst []))) ∧ ∀ i m H, W i m H →
      (J.stop i H ∧ Qd H) ∨ (J.go i H ∧ ∃ Nx : Hp → Prop, (∀ H', Nx H' → ∃ m', m' < m ∧ W (i + 1) m' H') ∧ ∀ x H', J.yld i H x H' → g x (wipe σ vs) H' fun σ2 H2 => wipe σ2 vs = wipe σ vs ∧ tt σ2 H2 fun b H3 =>
        if b = true then te σ2 H3 fun y H4 => ∃ acc, H4 D = some (.lst acc) ∧ acc.length < sizeLine ∧ Nx (upd H4 D (.lst (acc ++ [y]))) else Nx H3) := by
  refine lc_it w (fun i H => Same H1 H ∧ H D = some (.lst ((List.range i).filterMap f))) ⟨fun b o e => by rw [upd_ne (ne_of_none e hD)]; exact e, upd_same⟩ (fun i H _ p => hG H p.1) (fun i x H H' hi p y => ?_) (fun H p => done H p.1 p.2)
  obtain ⟨p1, p2⟩ := p
  refine turn i x H H' _ _ hi p1 y fun H4 s4 => ?_
  have e4 := s4 D _ p2
  have er : (List.range (i + 1)).filterMap f = (List.range i).filterMap f ++ (f i).toList := by
    have e1 : [i].filterMap f = (f i).toList := by rw [List.filterMap_cons]; cases f i <;> rfl
    rw [List.range_succ, List.filterMap_append, e1]
  cases hf : f i with
  | some v =>
    refine ⟨_, e4, ?_, fun b o e => ?_, ?_⟩
    · have := List.length_filterMap_le f (List.range i)
      rw [List.length_range] at this
      omega
    · rw [upd_ne (ne_of_none e hD)]
      exact s4 b o (p1 b o e)
    · rw [upd_same, er, hf]
      rfl
  | none =>
    refine ⟨fun b o e => s4 b o (p1 b o e), ?_⟩
    rw [e4, er, hf]
    simp
/-- .. without an if -/
theorem lc_map (w : Walk J n G Y) {g : TG} {te : TE} {vs : List Nat} {σ : St} {H1 : Hp} {D : Addr} {Qd : Hp → Prop} (f : Nat → V) (hD : H1 D = none) (hn : n < sizeLine) (hG : ∀ H, Same H1 H → G H)
    (turn : ∀ i x H H' (Q : VK), i < n → Same H1 H → Y i H x H' → (∀ H4, Same H H4 → Q (f i) H4) → g x (wipe σ vs) H' fun σ2 H2 => wipe σ2 vs = wipe σ vs ∧ te σ2 H2 Q)
    (done : ∀ H, Same H1 H → H D = some (.lst ((List.range n).map f)) → Qd H) :
    ∃ W : Nat → Nat → Hp → Prop, (∃ m, W 0 m (upd H1 D (.lst []))) ∧ ∀ i m H, W i m H →
      (J.stop i H ∧ Qd H) ∨ (J.go i H ∧ ∃ Nx : Hp → Prop, (∀ H', Nx H' → ∃ m', m' < m ∧ W (i + 1) m' H') ∧ ∀ x H', J.yld i H x H' → g x (wipe σ vs) H' fun σ2 H2 => wipe σ2 vs = wipe σ vs ∧ tYes σ2 H2 fun b H3 =>
        if b = true then te σ2 H3 fun y H4 => ∃ acc, H4 D = some (.lst acc) ∧ acc.length < sizeLine ∧ Nx (upd H4 D (.lst (acc ++ [y]))) else Nx H3) := by
  refine lc_pure (tt := tYes) w (fun i => some (f i)) hD hn hG (fun i x H H' Q N hi s y q => ?_) fun H s e => done H s (by rw [e]; congr 2; exact filterMap_some' f _)
  exact turn i x H H' Q hi s y q
end
theorem range_bind {α β : Type} (g : α → Option β) : ∀ xs : List α, (List.range xs.length).filterMap (fun i => xs[i]?.bind g) = xs.filterMap g
  | [] => rfl
  | x :: xs => by
    have ih := range_bind g xs
    rw [List.length_cons, List.range_succ_eq_map, List.filterMap_cons, List.filterMap_map, List.filterMap_cons, ← ih]
    rfl
theorem all_true (n : Nat) : (List.range n).map (fun _ => V.bl true) = (List.replicate n true).map V.bl := by
  induction n with
  | zero => rfl
  | succ n ih => rw [List.range_succ, List.map_append, ih, List.replicate_succ', List.map_append]; rfl
theorem all_rep (n : Nat) : (List.replicate n true).all id = true := by simp
end Lk
end
section
set_option maxRecDepth 100000
set_option maxHeartbeats 1000000
/-! Small defs: what is an integer, a name, an owner, an item. -/
namespace Lk
open PySem L2

/-- a name: one to twelve letters -/
def IsName (x : Str) : Prop := 1 ≤ x.length ∧ x.length ≤ 12 ∧ ∀ c ∈ x.cps.toList, c ∈ ("abcdefghijklmnopqrstuvwxyz" : Str).cps.toList

def spIsInt : Sp := fun vs H Q _ => ∃ i : Int, vs = [.int i] ∧ Q (.bl true) H
abbrev s_is_integer : Stmt := top 16
abbrev N_is_integer : List Str := ["value"]
abbrev P_is_integer : List Str := ["value"]
theorem sc_is_integer : FnScope N_is_integer P_is_integer (defScope s_is_integer) := ⟨rfl, rfl, rfl, by decide +kernel, rfl, by decide +kernel, by decide +kernel⟩
theorem ok_is_integer {b : Bs} (R : Raw b "is_integer" "is_integer" s_is_integer P_is_integer) (T : Tops b) : Df b 1 "is_integer" P_is_integer spIsInt := by
  refine R.ok sc_is_integer (fun vs H Q E h => ?_) fun f cdv A outer s H vs Q E hr h => ?_
  · obtain ⟨i, rfl, _⟩ := h
    rfl
  · obtain ⟨i, rfl, k⟩ := h
    refine ⟨_, (pss_one (ps_ret (pe_and (pe_callB call_isi (by rfl) T.b_isinstance (by decide +kernel) (pa_cons (pv 0) (pa_cons (pe_bltn (v := .ty "int") (by rfl) T.b_int (by decide +kernel) rfl) pa_nil))) (pe_one (pe_not (pe_callB call_isi (by rfl) T.b_isinstance (by decide +kernel) (pa_cons (pv 0) (pa_cons (pe_bltn (v := .ty "bool") (by rfl) T.b_bool (by decide +kernel) rfl) pa_nil)))))))), ?_⟩
    refine ⟨_, rfl, _, _, _, _, _, rfl, .ty _, .base (.int _), kit_ty (b := "int") (r := true) (by decide +kernel), true, rfl, ?_⟩
    refine iteT ?_
    exact ⟨_, rfl, _, _, _, _, _, rfl, .ty _, .base (.int _), kit_ty (b := "bool") (r := false) (by decide +kernel), false, rfl, k⟩

def spIsName : Sp := fun vs H Q _ => ∃ x : Str, vs = [.str x] ∧ IsName x ∧ ∀ H', Same H H' → Q (.bl true) H'
abbrev s_is_name : Stmt := top 17
abbrev N_is_name : List Str := ["value", "letter"]
abbrev P_is_name : List Str := ["value"]
theorem sc_is_name : FnScope N_is_name P_is_name (defScope s_is_name) := ⟨rfl, rfl, rfl, by decide +kernel, rfl, by decide +kernel, by decide +kernel⟩
theorem ok_is_name {b : Bs} (R : Raw b "is_name" "is_name" s_is_name P_is_name) (T : Tops b) : Df b 1 "is_name" P_is_name spIsName := by
  refine R.ok sc_is_name (fun vs H Q E h => ?_) fun f cdv A outer s H vs Q E hr h => ?_
  · obtain ⟨i, rfl, _⟩ := h
    rfl
  · obtain ⟨x, rfl, ⟨n1, n2, n3⟩, k⟩ := h
    obtain ⟨t1, g_MAX_LETTERS⟩ := T.m_MAX_LETTERS
    obtain ⟨t2, g_LETTERS⟩ := T.m_LETTERS
    refine ⟨_, (pss_cons (ps_if (PW.pt (pw_or (pt_not (pt_val (pe_callB call_isi (by rfl) T.b_isinstance (by decide +kernel) (pa_cons (pv 0) (pa_cons (pe_bltn (v := .ty "str") (by rfl) T.b_str (by decide +kernel) rfl) pa_nil))))) (pw_or1 (pt_not (pt_chain op_le op_le pe_int (pe_callB call_len_str (by rfl) T.b_len (by decide +kernel) (pa_cons (pv 0) pa_nil)) (pe_glob (v := .int 12) rfl g_MAX_LETTERS ⟨_, rfl⟩)))))) (pss_one (ps_ret pe_bl)) pss_nil)
      (pss_one (ps_ret (pe_callB (cr_all rfl) (by rfl) T.b_all (by decide +kernel) (pa_cons (pe_lc (own := [("letter", 1)]) rfl sc_is_name.nd (pi_str (pv 0)) (blkOk_by (own := [("letter", 1)]) (N := N_is_name) (sc := defScope s_is_name) (by decide +kernel)) (fun _ _ _ _ _ => (pg_name (i := 1) sc_is_name.nd rfl (Or.inl rfl))) (fun _ _ _ _ _ => pts_nil) (fun _ _ _ _ _ => (pe_cmpR op_in_sign (pv 1) (pe_glob (v := .str "abcdefghijklmnopqrstuvwxyz") rfl g_LETTERS ⟨_, rfl⟩) rfl))) pa_nil))))), ?_⟩
    refine ⟨_, rfl, _, _, _, _, _, rfl, .ty _, .base (.str _), kit_ty (b := "str") (r := true) (by decide +kernel), true, rfl, ?_⟩
    refine iteF ?_
    refine ⟨_, rfl, _, rfl, (by rw [sizeLine_eq]; omega), _, _, rfl, rfl, _, rfl, ?_⟩
    rw [decide_eq_true (show (1 : Int) ≤ (x.length : Int) by omega)]
    refine iteT ⟨_, _, rfl, rfl, _, rfl, ?_⟩
    rw [decide_eq_true (show (x.length : Int) ≤ 12 by omega)]
    refine iteF ?_
    refine ⟨_, rfl, _, rfl, fun D hD => ?_⟩
    refine lc_map (walk_str (z := x)) (fun _ => V.bl true) hD (by show x.length < sizeLine; rw [sizeLine_eq]; omega) (fun _ _ => True.intro) (fun i y H1 H2 Q' hi s1 hy q => ?_) fun H2 s2 e2 => ?_
    · obtain ⟨rfl, c, hc, rfl⟩ := hy
      refine ⟨rfl, _, rfl, c, _, rfl, rfl, ?_⟩
      rw [decide_eq_true (n3 c (by rw [← Array.getElem?_toList] at hc; exact List.mem_of_getElem? hc))]
      exact q _ (Same.refl _)
    · rw [all_true] at e2
      refine ⟨D, _, rfl, .inl (.inl e2), ?_⟩
      rw [all_rep]
      exact k _ s2

def spIsOwner : Sp := fun vs H Q _ => ∃ i : Int, vs = [.int i] ∧ 0 ≤ i ∧ Q (.bl true) H
abbrev s_is_owner : Stmt := top 32
abbrev N_is_owner : List Str := ["value"]
abbrev P_is_owner : List Str := ["value"]
theorem sc_is_owner : FnScope N_is_owner P_is_owner (defScope s_is_owner) := ⟨rfl, rfl, rfl, by decide +kernel, rfl, by decide +kernel, by decide +kernel⟩
theorem ok_is_owner {b : Bs} (R : Raw b "is_owner" "is_owner" s_is_owner P_is_owner) (T : Tops b) (D_is_integer : Df b 1 "is_integer" P_is_integer spIsInt) : Df b 2 "is_owner" P_is_owner spIsOwner := by
  refine R.ok sc_is_owner (fun vs H Q E h => ?_) fun f cdv A outer s H vs Q E hr h => ?_
  · obtain ⟨i, rfl, _⟩ := h
    rfl
  · obtain ⟨i, rfl, h0, k⟩ := h
    refine ⟨_, (pss_one (ps_ret (pe_and (pe_df D_is_integer (hr.mono (by decide)) (pa_cons (pv 0) pa_nil)) (pe_one (pe_cmpR op_ge (pv 0) pe_int (nomark _)))))), ?_⟩
    refine ⟨_, rfl, i, rfl, true, rfl, ?_⟩
    refine iteT ⟨_, rfl, _, _, rfl, rfl, ?_⟩
    have e : decide ((0 : Int) ≤ i) = true := decide_eq_true h0
    show Q (.bl (decide ((0 : Int) ≤ i))) H
    rw [e]
    exact k

def spReqOwner : Sp := fun vs H Q _ => ∃ i : Int, vs = [.int i] ∧ 0 ≤ i ∧ Q .non H
abbrev s_require_owner : Stmt := top 34
abbrev N_require_owner : List Str := ["value"]
abbrev P_require_owner : List Str := ["value"]
theorem sc_require_owner : FnScope N_require_owner P_require_owner (defScope s_require_owner) := ⟨rfl, rfl, rfl, by decide +kernel, rfl, by decide +kernel, by decide +kernel⟩
theorem ok_require_owner {b : Bs} (R : Raw b "require_owner" "require_owner" s_require_owner P_require_owner) (T : Tops b) (D_is_owner : Df b 2 "is_owner" P_is_owner spIsOwner) : Df b 3 "require_owner" P_require_owner spReqOwner := by
  refine R.ok sc_require_owner (fun vs H Q E h => ?_) fun f cdv A outer s H vs Q E hr h => ?_
  · obtain ⟨i, rfl, _⟩ := h
    rfl
  · obtain ⟨i, rfl, h0, k⟩ := h
    refine ⟨_, (pss_one (ps_if (pt_not (pt_val (pe_df D_is_owner (hr.mono (by decide)) (pa_cons (pv 0) pa_nil)))) (pss_one ps_never) pss_nil)), ?_⟩
    refine ⟨_, rfl, i, rfl, h0, true, rfl, ?_⟩
    exact iteF k

/-- an item's value: a name, or a row -/
inductive ItemV (H : Hp) : V → Prop
  | name (x : Str) : IsName x → ItemV H (.str x)
  | row {a : Addr} {x : Str} {i : Int} : IsName x → H a = some (.tup [.str x, .int i]) → ItemV H (.ref a)
theorem ItemV.mono {H H' : Hp} {v : V} (t : Tups H H') : ItemV H v → ItemV H' v
  | .name x h => .name x h
  | .row h e => .row h (t _ _ e)
def spIsItem : Sp := fun vs H Q _ => ∃ v : V, vs = [v] ∧ ItemV H v ∧ ∀ H', Same H H' → Q (.bl true) H'
abbrev s_is_item : Stmt := top 33
abbrev N_is_item : List Str := ["value"]
abbrev P_is_item : List Str := ["value"]
theorem sc_is_item : FnScope N_is_item P_is_item (defScope s_is_item) := ⟨rfl, rfl, rfl, by decide +kernel, rfl, by decide +kernel, by decide +kernel⟩
theorem ok_is_item {b : Bs} (R : Raw b "is_item" "is_item" s_is_item P_is_item) (T : Tops b) (D_is_integer : Df b 1 "is_integer" P_is_integer spIsInt) (D_is_name : Df b 1 "is_name" P_is_name spIsName) : Df b 2 "is_item" P_is_item spIsItem := by
  refine R.ok sc_is_item (fun vs H Q E h => ?_) fun f cdv A outer s H vs Q E hr h => ?_
  · obtain ⟨i, rfl, _⟩ := h
    rfl
  · obtain ⟨v, rfl, hv, k⟩ := h
    refine ⟨_, (pss_cons (ps_if (pt_val (pe_callB call_isi (by rfl) T.b_isinstance (by decide +kernel) (pa_cons (pv 0) (pa_cons (pe_bltn (v := .ty "tuple") (by rfl) T.b_tuple (by decide +kernel) rfl) pa_nil)))) (pss_one (ps_ret (pe_and (pe_cmpR op_eq (pe_callB call_len_seq (by rfl) T.b_len (by decide +kernel) (pa_cons (pv 0) pa_nil)) pe_int (nomark _)) (pe_and (pe_df D_is_name (hr.mono (by decide)) (pa_cons (pe_ix ix_tup (pv 0) pe_int (fun _ _ => rfl)) pa_nil)) (pe_one (pe_df D_is_integer (hr.mono (by decide)) (pa_cons (pe_ix ix_tup (pv 0) pe_int (fun _ _ => rfl)) pa_nil))))))) pss_nil)
      (pss_one (ps_ret (pe_df D_is_name (hr.mono (by decide)) (pa_cons (pv 0) pa_nil))))), ?_⟩
    cases hv with
    | name x hx =>
      refine ⟨_, rfl, _, _, _, _, _, rfl, .ty _, .base (.str _), kit_ty (b := "tuple") (r := false) (by decide +kernel), false, rfl, ?_⟩
      refine iteF ⟨_, rfl, x, rfl, hx, fun H1 s1 => k H1 s1⟩
    | @row a x i hx e =>
      refine ⟨_, rfl, _, _, _, _, _, rfl, .ty _, .base (.tup e), kit_ty (b := "tuple") (r := true) (by decide +kernel), true, rfl, ?_⟩
      refine iteT ⟨_, rfl, a, _, rfl, .inr (.inl (.inl e)), rfl, true, rfl, ?_⟩
      refine iteT ⟨_, rfl, a, _, 0, _, rfl, rfl, .inl (.inl e), rfl, x, rfl, hx, fun H1 s1 => ⟨true, rfl, ?_⟩⟩
      exact iteT ⟨_, rfl, a, _, 1, _, rfl, rfl, .inl (.inl (s1 _ _ e)), rfl, i, rfl, k H1 s1⟩

def spReqItem : Sp := fun vs H Q _ => ∃ v : V, vs = [v] ∧ ItemV H v ∧ ∀ H', Same H H' → Q .non H'
abbrev s_require_item : Stmt := top 35
abbrev N_require_item : List Str := ["value"]
abbrev P_require_item : List Str := ["value"]
theorem sc_require_item : FnScope N_require_item P_require_item (defScope s_require_item) := ⟨rfl, rfl, rfl, by decide +kernel, rfl, by decide +kernel, by decide +kernel⟩
theorem ok_require_item {b : Bs} (R : Raw b "require_item" "require_item" s_require_item P_require_item) (T : Tops b) (D_is_item : Df b 2 "is_item" P_is_item spIsItem) : Df b 3 "require_item" P_require_item spReqItem := by
  refine R.ok sc_require_item (fun vs H Q E h => ?_) fun f cdv A outer s H vs Q E hr h => ?_
  · obtain ⟨i, rfl, _⟩ := h
    rfl
  · obtain ⟨v, rfl, hv, k⟩ := h
    refine ⟨_, (pss_one (ps_if (pt_not (pt_val (pe_df D_is_item (hr.mono (by decide)) (pa_cons (pv 0) pa_nil)))) (pss_one ps_never) pss_nil)), ?_⟩
    refine ⟨_, rfl, v, rfl, hv, fun H1 s1 => ⟨true, rfl, ?_⟩⟩
    exact iteF (k H1 s1)
end Lk
end
section
set_option maxRecDepth 100000
set_option maxHeartbeats 1000000
/-! Values as data: what may be compared; items, pairs of texts. -/
namespace Lk
open PySem L2

/-- d may be compared, n deep at most -/
def Sh (n : Nat) (d : PyData) : Prop := d.canLay0 = true ∧ d.depth ≤ n
abbrev OkS (x : Str) : Prop := PyData.strOk x = true
theorem Sh.str {n : Nat} {x : Str} (h : OkS x) : Sh n (.str x) := ⟨by simp only [PyData.canLay0]; exact h, by simp only [PyData.depth]; exact Nat.zero_le _⟩
theorem Sh.int {n : Nat} (x : Int) : Sh n (.int x) := ⟨by simp only [PyData.canLay0], by simp only [PyData.depth]; exact Nat.zero_le _⟩
theorem Sh.none {n : Nat} : Sh n .none := ⟨by simp only [PyData.canLay0], by simp only [PyData.depth]; exact Nat.zero_le _⟩
theorem sh_all {n : Nat} : ∀ {ds : List PyData}, (∀ z ∈ ds, Sh n z) → PyData.canLayAll0 ds = true ∧ PyData.depthAll ds ≤ n
  | [], _ => ⟨by simp only [PyData.canLayAll0], by simp only [PyData.depthAll]; exact Nat.zero_le _⟩
  | d :: ds, h => by
    obtain ⟨h1, h2⟩ := h d List.mem_cons_self
    obtain ⟨h3, h4⟩ := sh_all fun z hz => h z (List.mem_cons_of_mem _ hz)
    refine ⟨by simp only [PyData.canLayAll0, h1, h3, Bool.and_self], ?_⟩
    simp only [PyData.depthAll]
    omega
theorem Sh.tup {n : Nat} {ds : List PyData} (h : ∀ z ∈ ds, Sh n z) : Sh (n + 1) (.tuple ds) := by
  obtain ⟨h1, h2⟩ := sh_all h
  refine ⟨by simp only [PyData.canLay0, h1], ?_⟩
  simp only [PyData.depth]
  omega
theorem Sh.lst {n : Nat} {ds : List PyData} (h : ∀ z ∈ ds, Sh n z) : Sh (n + 1) (.list ds) := by
  obtain ⟨h1, h2⟩ := sh_all h
  refine ⟨by simp only [PyData.canLay0, h1], ?_⟩
  simp only [PyData.depth]
  omega
theorem Sh.le {n m : Nat} {d : PyData} (h : Sh n d) (l : n ≤ m) : Sh m d := ⟨h.1, Nat.le_trans h.2 l⟩
theorem Sh.ok {n : Nat} {d : PyData} (h : Sh n d) (l : n ≤ 64) : SeqAt.shaped d = true := by
  unfold SeqAt.shaped
  rw [h.1, decide_eq_true (Nat.le_trans h.2 l)]
  rfl

/-- two texts -/
abbrev dP (e : Str × Str) : PyData := .tuple [.str e.1, .str e.2]
theorem sh_P {e : Str × Str} (g : OkS e.1 ∧ OkS e.2) : Sh 1 (dP e) := Sh.tup (n := 0) fun z hz => by
  rcases List.mem_cons.mp hz with h | hz
  · rw [h]; exact Sh.str g.1
  · rcases List.mem_cons.mp hz with h | hz
    · rw [h]; exact Sh.str g.2
    · cases hz
theorem any_P (xs : List (Str × Str)) (x : Str × Str) : ((xs.map dP).any fun d => PyData.eqv d (dP x)) = decide (x ∈ xs) := (PySem.W.any_datum xs x).trans (decide_eq_decide.mpr Iff.rfl)
theorem dp_P {K : PySem.W.Frag} {H : Hp} {a : Addr} {e : Str × Str} (h : SqT K H a [.str e.1, .str e.2]) : Dp K H (.ref a) (dP e) := .tup h (.cons (.str _) (.cons (.str _) .nil))
theorem dp_Ps {K : PySem.W.Frag} {H : Hp} : ∀ {ps : List Addr} {es : List (Str × Str)}, Paired (fun p (e : Str × Str) => SqT K H p [.str e.1, .str e.2]) ps es → DpAll K H (ps.map V.ref) (es.map dP)
  | _, _, .nil => .nil
  | _, _, .cons h q => .cons (dp_P h) (dp_Ps q)
theorem sh_Ps {es : List (Str × Str)} (g : ∀ e ∈ es, OkS e.1 ∧ OkS e.2) : ∀ z ∈ es.map dP, Sh 1 z := fun z hz => by
  obtain ⟨e, he, rfl⟩ := List.mem_map.mp hz
  exact sh_P (g e he)

/-- an item's data -/
def dk : NestedKey → PyData
  | .text x => .str x
  | .tup [.text x, .num i] => .tuple [.str x, .int i]
  | _ => .none
theorem dp_K {K : PySem.W.Frag} {H : Hp} {k : NestedKey} {v : V} (h : Mx.KeyV H k v) : Dp K H v (dk k) := by
  cases h with
  | str x => exact .str x
  | tup h => exact .tup (.inl (.inl h)) (.cons (.str _) (.cons (.int _) .nil))
/-- the texts in a key -/
def KeyOk : NestedKey → Prop
  | .text x => OkS x
  | .tup [.text x, .num _] => OkS x
  | _ => True
theorem sh_K {H : Hp} {k : NestedKey} {v : V} (h : Mx.KeyV H k v) (g : KeyOk k) : Sh 1 (dk k) := by
  cases h with
  | str x => exact .str g
  | tup h =>
    refine Sh.tup (n := 0) fun z hz => ?_
    rcases List.mem_cons.mp hz with h | hz
    · rw [h]; exact Sh.str g
    · rcases List.mem_cons.mp hz with h | hz
      · rw [h]; exact Sh.int _
      · cases hz
theorem okS_name {x : Str} (h : IsName x) : OkS x := by
  show x.cps.all (· < 0x110000) = true
  rw [← Array.all_toList, List.all_eq_true]
  intro c hc
  have := h.2.2 c hc
  have key : (("abcdefghijklmnopqrstuvwxyz" : Str).cps.toList.all fun c => decide (c < 0x110000)) = true := by decide +kernel
  exact List.all_eq_true.mp key c this
theorem str_beq (x y : Str) : (x == y) = decide (x = y) := PySem.W.beq_decide x y
theorem eqv_K {H H' : Hp} {k l : NestedKey} {v w : V} (h : Mx.KeyV H k v) (g : Mx.KeyV H' l w) : PyData.eqv (dk k) (dk l) = decide (k = l) := by
  cases h with
  | str x =>
    cases g with
    | str y =>
      show PyData.eqv (.str x) (.str y) = _
      rw [PyData.eqv, str_beq]
      by_cases e : x = y
      · subst e; simp
      · rw [decide_eq_false e, decide_eq_false fun z => e (by injection z)]
    | tup _ =>
      show PyData.eqv (.str x) (.tuple _) = _
      rw [PyData.eqv, decide_eq_false fun z => by injection z]
  | @tup a x i _ =>
    cases g with
    | str y =>
      show PyData.eqv (.tuple _) (.str _) = _
      rw [PyData.eqv, decide_eq_false fun z => by injection z]
    | @tup b y j _ =>
      show PyData.eqv (.tuple [.str x, .int i]) (.tuple [.str y, .int j]) = _
      simp only [PyData.eqv, PyData.eqvAll, Bool.and_true, str_beq]
      by_cases e : x = y
      · subst e
        by_cases e2 : i = j
        · subst e2; simp
        · rw [decide_eq_false fun z => e2 (NestedKey.num.inj (List.cons.inj (List.cons.inj (NestedKey.tup.inj z)).2).1)]
          simp [e2]
      · rw [decide_eq_false e, decide_eq_false fun z => e (by injection z with z; injection z with z z2; injection z)]
        rfl
section
variable {H : Hp} {kof : V → NestedKey} {J : List V}
abbrev dI (kof : V → NestedKey) (v : V) : PyData := dk (kof v)
theorem eqv_I (t : Mx.Items H kof J) {v w : V} (hv : v ∈ J) (hw : w ∈ J) : PyData.eqv (dI kof v) (dI kof w) = decide (v = w) := by
  rw [eqv_K (t.key v hv) (t.key w hw)]
  by_cases e : v = w
  · subst e; simp
  · rw [decide_eq_false e, decide_eq_false fun z => e (t.inj v hv w hw z)]
theorem any_I (t : Mx.Items H kof J) {v : V} (hv : v ∈ J) : ∀ {l : List V}, (∀ x ∈ l, x ∈ J) → ((l.map (dI kof)).any fun z => PyData.eqv z (dI kof v)) = decide (v ∈ l)
  | [], _ => rfl
  | x :: l, h => by
    rw [List.map_cons, List.any_cons, any_I t hv fun y hy => h y (List.mem_cons_of_mem _ hy), eqv_I t (h x List.mem_cons_self) hv]
    by_cases e : x = v
    · subst e; simp
    · have e' : ¬ v = x := fun z => e z.symm
      simp [e, e']
theorem place_I (t : Mx.Items H kof J) {v : V} (hv : v ∈ J) : ∀ {l : List V}, (∀ x ∈ l, x ∈ J) → v ∈ l → ∃ j, SeqAt.dataPlace (l.map (dI kof)) (dI kof v) = some j ∧ ∀ m : List V, m = l → m.eraseIdx j = l.erase v
  | [], _, h => by cases h
  | x :: l, hJ, h => by
    unfold SeqAt.dataPlace
    rw [List.map_cons, List.findIdx?_cons, eqv_I t (hJ x List.mem_cons_self) hv]
    by_cases e : x = v
    · subst e
      refine ⟨0, by simp, fun m em => ?_⟩
      rw [em]; simp
    · obtain ⟨j, h1, h2⟩ := place_I t hv (fun y hy => hJ y (List.mem_cons_of_mem _ hy)) ((List.mem_cons.mp h).resolve_left fun z => e z.symm)
      unfold SeqAt.dataPlace at h1
      rw [h1]
      refine ⟨j + 1, by simp [e], fun m em => ?_⟩
      rw [em, List.eraseIdx_cons_succ, h2 l rfl, List.erase_cons]
      simp [e]
theorem sh_I (t : Mx.Items H kof J) (g : ∀ v ∈ J, KeyOk (kof v)) {v : V} (hv : v ∈ J) : Sh 1 (dI kof v) := sh_K (t.key v hv) (g v hv)
theorem dp_I {K : PySem.W.Frag} (t : Mx.Items H kof J) {v : V} (hv : v ∈ J) : Dp K H v (dI kof v) := dp_K (t.key v hv)
theorem dp_Is {K : PySem.W.Frag} (t : Mx.Items H kof J) : ∀ {l : List V}, (∀ x ∈ l, x ∈ J) → DpAll K H l (l.map (dI kof))
  | [], _ => .nil
  | x :: l, h => .cons (dp_I t (h x List.mem_cons_self)) (dp_Is t fun y hy => h y (List.mem_cons_of_mem _ hy))
theorem sh_Is (t : Mx.Items H kof J) (g : ∀ v ∈ J, KeyOk (kof v)) {l : List V} (h : ∀ x ∈ l, x ∈ J) : ∀ z ∈ l.map (dI kof), Sh 1 z := fun z hz => by
  obtain ⟨e, he, rfl⟩ := List.mem_map.mp hz
  exact sh_I t g (h e he)
end
end Lk
end
section
set_option maxRecDepth 100000
set_option maxHeartbeats 1000000
/-! Modes as data; join, allows, require_mode. -/
namespace Lk
open PySem L2

structure MDat where
  names : List Str
  allowed : List (Str × Str)
  joins : List (Str × Str × Str)
def MDat.al (d : MDat) (h a : Str) : Bool := decide ((h, a) ∈ d.allowed)
def MDat.rows (d : MDat) (h m : Str) : List Str := (d.joins.filter fun r => (decide (h = r.1) || decide (m = r.1)) && (decide (h = r.2.1) || decide (m = r.2.1))).map fun r => r.2.2
def MDat.jn (d : MDat) (h : Option Str) (m : Str) : Str := match h with
  | none => m
  | some h => if h = m then m else (d.rows h m).headD m
/-- two different modes have a join, which is one of them -/
def MDat.Fit (d : MDat) : Prop := ∀ h ∈ d.names, ∀ m ∈ d.names, h ≠ m → ∃ r l, d.rows h m = r :: l ∧ r ∈ d.names
abbrev vO (h : Option Str) : V := match h with
  | none => .non
  | some x => .str x
abbrev vP (e : Str × Str) : List V := [.str e.1, .str e.2]
abbrev vJ (e : Str × Str × Str) : List V := [.str e.1, .str e.2.1, .str e.2.2]
/-- some modes stand at mo -/
structure ModesAt (K : PySem.W.Frag) (H : Hp) (mo : Addr) (d : MDat) (n a j : Addr) (ps js : List Addr) : Prop where
  top : Tp K H mo [.ref n, .ref a, .ref j]
  nam : Tp K H n (d.names.map V.str)
  alw : Tp K H a (ps.map V.ref)
  each : Paired (fun p e => H p = some (.tup (vP e))) ps d.allowed
  jns : Tp K H j (js.map V.ref)
  eachJ : Paired (fun p e => Tp K H p (vJ e)) js d.joins
  ok : (∀ x ∈ d.names, IsName x) ∧ (∀ e ∈ d.allowed, e.1 ∈ d.names ∧ e.2 ∈ d.names)
  few : d.names.length ≤ 100 ∧ d.allowed.length ≤ 100 ∧ d.joins.length ≤ 100
def Modes (K : PySem.W.Frag) (H : Hp) (mo : Addr) (d : MDat) : Prop := ∃ n a j ps js, ModesAt K H mo d n a j ps js
theorem ModesAt.mono {K : PySem.W.Frag} {H H' : Hp} {mo : Addr} {d : MDat} {n a j : Addr} {ps js : List Addr} (t : Tups H H') (m : ModesAt K H mo d n a j ps js) : ModesAt K H' mo d n a j ps js :=
  ⟨m.top.mono t, m.nam.mono t, m.alw.mono t, L2.Paired.mapP m.each fun _ _ h => t _ _ h, m.jns.mono t, L2.Paired.mapP m.eachJ fun _ _ h => h.mono t, m.ok, m.few⟩
theorem ModesAt.same {K : PySem.W.Frag} {H H' : Hp} {mo : Addr} {d : MDat} {n a j : Addr} {ps js : List Addr} (m : ModesAt K H mo d n a j ps js) (s : Same H H') : ModesAt K H' mo d n a j ps js := m.mono (Same.tups s)
theorem Modes.mono {K : PySem.W.Frag} {H H' : Hp} {mo : Addr} {d : MDat} (t : Tups H H') (m : Modes K H mo d) : Modes K H' mo d := by
  obtain ⟨n, a, j, ps, js, m⟩ := m
  exact ⟨n, a, j, ps, js, m.mono t⟩
theorem paired_at {α β : Type} {F : α → β → Prop} {l : List α} {m : List β} (h : Paired F l m) {i : Nat} {a : α} (e : l[i]? = some a) : ∃ b, m[i]? = some b ∧ F a b := paired_get h e

theorem same_new {H : Hp} {a : Addr} {o : HO} (h : H a = none) : Same H (upd H a o) := fun b u e => by rw [upd_ne (ne_of_none e h)]; exact e
theorem two_le {x y : V} : [x, y].length ≤ sizeLine := by rw [sizeLine_eq]; show 2 ≤ _; omega
theorem in2 {x p q : Str} : inV (.str x) [.str p, .str q] = (decide (p = x) || decide (q = x)) := by
  have e (z w : Str) : eqV (.str z) (.str w) = decide (z = w) := by
    by_cases h : z = w
    · subst h; simp [eqV]
    · simp [eqV, h]
  simp [inV, e]
theorem filterMap_if {α β : Type} (c : α → Bool) (f : α → β) : ∀ l : List α, (l.filterMap fun r => if c r = true then some (f r) else none) = (l.filter c).map f
  | [] => rfl
  | x :: l => by
    rw [List.filterMap_cons, List.filter_cons, filterMap_if c f l]
    cases c x <;> rfl

theorem atI0 {α : Type} {x : α} {l : List α} : atI (x :: l) 0 = some x := by
  show (ixN (l.length + 1) 0).bind (fun j => (x :: l)[j]?) = _
  have e : ixN (l.length + 1) 0 = some 0 := by
    unfold ixN
    rw [if_pos (by decide), if_pos (by omega)]
    rfl
  rw [e]
  rfl
theorem eqV_str (z w : Str) : eqV (.str z) (.str w) = decide (z = w) := by
  by_cases h : z = w
  · subst h; simp [eqV]
  · simp [eqV, h]
theorem in_strB {x : Str} {l : List Str} : inV (.str x) (l.map V.str) = decide (x ∈ l) := by
  rw [inV, List.any_map]
  by_cases h : x ∈ l
  · rw [decide_eq_true h, List.any_eq_true]
    exact ⟨x, h, by show eqV (.str x) (.str x) = true; rw [eqV_str]; exact decide_eq_true rfl⟩
  · rw [decide_eq_false h, List.any_eq_false]
    intro y hy e
    have e : eqV (.str y) (.str x) = true := e
    rw [eqV_str] at e
    exact h (of_decide_eq_true e ▸ hy)
theorem in_str {x : Str} {l : List Str} (h : x ∈ l) : inV (.str x) (l.map V.str) = true := by rw [in_strB]; exact decide_eq_true h
theorem all_str (l : List Str) : (l.map V.str).all flatV = true := by
  rw [List.all_map, List.all_eq_true]
  intro _ _
  rfl

abbrev spJoin (K : PySem.W.Frag) : Sp := fun vs H Q _ => ∃ (mo : Addr) (d : MDat) (h : Option Str) (m : Str), vs = [.ref mo, vO h, .str m] ∧ Modes K H mo d ∧ d.Fit ∧ (∀ x, h = some x → x ∈ d.names) ∧ m ∈ d.names ∧ ∀ H', Same H H' → Q (.str (d.jn h m)) H'
abbrev s_join : Stmt := top 22
abbrev N_join : List Str := ["modes", "one", "other", "row"]
abbrev P_join : List Str := ["modes", "one", "other"]
theorem sc_join : FnScope N_join P_join (defScope s_join) := ⟨rfl, rfl, rfl, by decide +kernel, rfl, by decide +kernel, by decide +kernel⟩
theorem ok_join {b : Bs} (R : Raw b "join" "join" s_join P_join) (T : Tops b) : Df b 1 "join" P_join (spJoin b.K) := by
  refine R.ok sc_join (fun vs H Q E h => ?_) fun f cdv A outer s H vs Q E hr h => ?_
  · obtain ⟨mo, d, h, m, rfl, _⟩ := h
    rfl
  · obtain ⟨mo, d, h, m, rfl, ⟨n, a, j, ps, js, M⟩, fit, hh, hm, k⟩ := h
    refine ⟨_, (pss_cons (ps_if (PW.pt (pw_or (pt_cmpR op_isN (pv 1) pe_non (nomark _)) (pw_or1 (pt_cmpR op_eq (pv 1) (pv 2) (nomark _))))) (pss_one (ps_ret (pv 2))) pss_nil)
      (pss_cons (ps_if (pt_cmpR op_isN (pv 2) pe_non (nomark _)) (pss_one (ps_ret (pv 1))) pss_nil)
      (pss_one (ps_ret (pe_ix ix_list (pe_lcB (own := [("row", 3)]) rfl sc_join.nd (pi_tup (pe_ix ix_tup (pv 0) pe_int (fun _ _ => rfl))) (blkOk_by (own := [("row", 3)]) (N := N_join) (sc := defScope s_join) (by decide +kernel)) (fun _ _ _ _ _ => (pg_name (i := 3) sc_join.nd rfl (Or.inl rfl))) (fun _ _ _ _ _ => (pts_one (PW.pt (pw_and (pt_cmpR op_in_seq (pe_ix ix_tup (pv 3) pe_int (fun _ _ => rfl)) (pe_tup (pa_cons (pv 1) (pa_cons (pv 2) pa_nil))) (by rfl)) (pw_and1 (pt_cmpR op_in_seq (pe_ix ix_tup (pv 3) pe_int (fun _ _ => rfl)) (pe_tup (pa_cons (pv 1) (pa_cons (pv 2) pa_nil))) (by rfl))))))) (fun _ _ _ _ _ => (pe_ix ix_tup (pv 3) pe_int (fun _ _ => rfl)))) pe_int (fun _ _ => rfl)))))), ?_⟩
    cases h with
    | none => exact ⟨_, rfl, rfl, _, rfl, iteT ⟨_, rfl, k H (Same.refl H)⟩⟩
    | some h =>
      refine ⟨_, rfl, rfl, false, rfl, ?_⟩
      refine iteF ⟨_, rfl, _, rfl, rfl, _, rfl, ?_⟩
      have hh := hh h rfl
      by_cases e : h = m
      · subst e
        have e2 : decide (V.str h = V.str h) = true := decide_eq_true rfl
        rw [e2]
        have e3 : d.jn (some h) h = h := if_pos rfl
        rw [e3] at k
        exact iteT ⟨_, rfl, k H (Same.refl H)⟩
      have e2 : decide (V.str h = V.str m) = false := decide_eq_false fun z => e (by injection z)
      rw [e2]
      refine iteF ⟨_, rfl, rfl, false, rfl, ?_⟩
      refine iteF ?_
      refine ⟨_, rfl, mo, _, 2, _, rfl, rfl, M.top.sq, rfl, j, rfl, ⟨_, M.jns.sq⟩, fun D hD => ?_⟩
      refine lc_pure (walk_tup (xs := js.map V.ref)) (fun i => d.joins[i]?.bind fun r => if (decide (h = r.1) || decide (m = r.1)) && (decide (h = r.2.1) || decide (m = r.2.1)) then some (V.str r.2.2) else none) hD ?_ (fun H1 s1 => (M.jns.mono (Same.tups s1)).sq) (fun i y H1 H2 Q' N hi s1 hy q => ?_) fun H2 s2 e2 => ?_
      · have := Paired.length M.eachJ
        have := M.few.2.2
        rw [List.length_map, sizeLine_eq]
        omega
      · obtain ⟨rfl, hy⟩ := hy
        rw [List.getElem?_map] at hy
        cases hp : js[i]? with
        | none => rw [hp] at hy; cases hy
        | some p =>
        rw [hp] at hy
        cases hy
        obtain ⟨r, hr2, tp⟩ := paired_at M.eachJ hp
        have tp1 := tp.mono (Same.tups s1)
        rw [hr2] at q
        have q0 : ∀ H4, Same H2 H4 → match (if (decide (h = r.1) || decide (m = r.1)) && (decide (h = r.2.1) || decide (m = r.2.1)) then some (V.str r.2.2) else none) with
          | some y => Q' y H4
          | none => N H4 := q
        refine ⟨rfl, ⟨_, rfl, p, _, 0, _, rfl, rfl, tp1.sq, rfl, _, rfl, _, rfl, two_le, fun t1 ht1 => ⟨t1, _, rfl, .inr (.inl (.inl upd_same)), rfl, rfl, decide (h = r.1) || decide (m = r.1), congrArg V.bl in2, ?_⟩⟩⟩
        cases c1 : decide (h = r.1) || decide (m = r.1) with
        | false =>
          rw [c1] at q0
          exact iteF (iteF (q0 _ (same_new ht1)))
        | true =>
        rw [c1] at q0
        have s2 := same_new (o := .tup [vO (some h), V.str m]) ht1
        refine iteT ⟨_, rfl, p, _, 1, _, rfl, rfl, (tp1.mono (Same.tups s2)).sq, rfl, _, rfl, _, rfl, two_le, fun t2 ht2 => ⟨t2, _, rfl, .inr (.inl (.inl upd_same)), rfl, rfl, decide (h = r.2.1) || decide (m = r.2.1), congrArg V.bl in2, ?_⟩⟩
        have s3 := same_new (o := .tup [vO (some h), V.str m]) ht2
        cases c2 : decide (h = r.2.1) || decide (m = r.2.1) with
        | false =>
          rw [c2] at q0
          exact iteF (q0 _ (Same.trans s2 s3))
        | true =>
        rw [c2] at q0
        exact iteT ⟨_, rfl, p, _, 2, _, rfl, rfl, (tp1.mono (Same.tups (Same.trans s2 s3))).sq, rfl, q0 _ (Same.trans s2 s3)⟩
      · rw [List.length_map, Paired.length M.eachJ, range_bind] at e2
        obtain ⟨r, l, hr, _⟩ := fit h hh m hm e
        have e3 : (d.joins.filterMap fun r => if (decide (h = r.1) || decide (m = r.1)) && (decide (h = r.2.1) || decide (m = r.2.1)) then some (V.str r.2.2) else none) = (d.rows h m).map V.str := by
          rw [MDat.rows, filterMap_if]
          simp
        rw [e3, hr] at e2
        have e4 : d.jn (some h) m = r := by show (if h = m then m else (d.rows h m).headD m) = r; rw [if_neg e, hr]; rfl
        rw [e4] at k
        exact ⟨D, (r :: l).map V.str, 0, .str r, rfl, rfl, .inl (.inl e2), atI0, k _ s2⟩

abbrev spAllows (K : PySem.W.Frag) : Sp := fun vs H Q _ => ∃ (mo : Addr) (d : MDat) (h m : Str), vs = [.ref mo, .str h, .str m] ∧ Modes K H mo d ∧ h ∈ d.names ∧ m ∈ d.names ∧ ∀ H', Same H H' → Q (.bl (d.al h m)) H'
abbrev s_allows : Stmt := top 23
abbrev N_allows : List Str := ["modes", "held", "asked"]
abbrev P_allows : List Str := ["modes", "held", "asked"]
theorem sc_allows : FnScope N_allows P_allows (defScope s_allows) := ⟨rfl, rfl, rfl, by decide +kernel, rfl, by decide +kernel, by decide +kernel⟩
theorem ok_allows {b : Bs} (R : Raw b "allows" "allows" s_allows P_allows) (T : Tops b) : Df b 1 "allows" P_allows (spAllows b.K) := by
  refine R.ok sc_allows (fun vs H Q E h => ?_) fun f cdv A outer s H vs Q E hr h => ?_
  · obtain ⟨mo, d, h, m, rfl, _⟩ := h
    rfl
  · obtain ⟨mo, d, h, m, rfl, ⟨n, a, j, ps, js, M⟩, hh, hm, k⟩ := h
    refine ⟨_, (pss_one (ps_ret (pe_or (pe_cmpR op_isN (pv 1) pe_non (nomark _)) (pe_one (pe_cmpR (Ru.op_inT (hu65 hr)) (pe_tup (pa_cons (pv 1) (pa_cons (pv 2) pa_nil))) (pe_ix ix_tup (pv 0) pe_int (fun _ _ => rfl)) (by rfl)))))), ?_⟩
    refine ⟨_, rfl, rfl, false, rfl, ?_⟩
    refine iteF ⟨_, rfl, _, rfl, two_le, fun t ht => ?_⟩
    have s1 := same_new (o := .tup (vP (h, m))) ht
    have dm : Dp b.K (upd H t (.tup (vP (h, m)))) (.ref a) (.tuple (d.allowed.map dP)) := .tup (M.alw.mono (Same.tups s1)).sq (dp_Ps (L2.Paired.mapP M.each fun _ _ h => .inl (.inl (s1 _ _ h))))
    refine ⟨_, rfl, mo, _, 1, _, rfl, rfl, (M.top.mono (Same.tups s1)).sq, rfl, dP (h, m), _, dp_P (.inl (.inl upd_same)), dm, (sh_P (e := (h, m)) ⟨okS_name (M.ok.1 h hh), okS_name (M.ok.1 m hm)⟩).ok (by decide), (sh_all (sh_Ps fun e he => ⟨okS_name (M.ok.1 _ (M.ok.2 e he).1), okS_name (M.ok.1 _ (M.ok.2 e he).2)⟩)).1, ?_⟩
    have e : (d.allowed.map dP).any (fun z => PyData.eqv z (dP (h, m))) = d.al h m := any_P _ _
    show Q (.bl ((d.allowed.map dP).any (fun z => PyData.eqv z (dP (h, m))))) _
    rw [e]
    exact k _ s1

abbrev spReqMode (K : PySem.W.Frag) : Sp := fun vs H Q _ => ∃ (mo : Addr) (d : MDat) (m : Str), vs = [.ref mo, .str m] ∧ Modes K H mo d ∧ m ∈ d.names ∧ Q .non H
abbrev s_require_mode : Stmt := top 30
abbrev N_require_mode : List Str := ["modes", "mode"]
abbrev P_require_mode : List Str := ["modes", "mode"]
theorem sc_require_mode : FnScope N_require_mode P_require_mode (defScope s_require_mode) := ⟨rfl, rfl, rfl, by decide +kernel, rfl, by decide +kernel, by decide +kernel⟩
theorem ok_require_mode {b : Bs} (R : Raw b "require_mode" "require_mode" s_require_mode P_require_mode) (T : Tops b) : Df b 1 "require_mode" P_require_mode (spReqMode b.K) := by
  refine R.ok sc_require_mode (fun vs H Q E h => ?_) fun f cdv A outer s H vs Q E hr h => ?_
  · obtain ⟨mo, d, m, rfl, _⟩ := h
    rfl
  · obtain ⟨mo, d, m, rfl, ⟨n, a, j, ps, js, M⟩, hm, k⟩ := h
    refine ⟨_, (pss_one (ps_if (PW.pt (pw_or (pt_not (pt_val (pe_callB call_isi (by rfl) T.b_isinstance (by decide +kernel) (pa_cons (pv 1) (pa_cons (pe_bltn (v := .ty "str") (by rfl) T.b_str (by decide +kernel) rfl) pa_nil))))) (pw_or1 (pt_cmpR op_notIn_seq (pv 1) (pe_ix ix_tup (pv 0) pe_int (fun _ _ => rfl)) (by rfl))))) (pss_one ps_never) pss_nil)), ?_⟩
    refine ⟨_, rfl, _, _, _, _, _, rfl, .ty _, .base (.str _), kit_ty (b := "str") (r := true) (by decide +kernel), true, rfl, ?_⟩
    refine iteF ⟨_, rfl, _, rfl, mo, _, 0, _, rfl, rfl, M.top.sq, rfl, n, d.names.map V.str, rfl, .inr M.nam.sq, rfl, all_str _, !true, congrArg V.bl (by rw [in_str hm]; rfl), ?_⟩
    exact iteF k
end Lk
end
section
set_option maxRecDepth 100000
set_option maxHeartbeats 3200000
/-! len(set(t)) == len(t), t a tuple of different tuples of texts (at most 17). -/
namespace St
open PySem PySem.Spec PyProof.Rows L2

abbrev TKey (P : Program) (w : World) (h : Heap) (k : List Str) (b : Addr) : Prop := IsTupleKey (PySem.strKind P w) h k b
abbrev TH (P : Program) (w : World) (k : List Str) : Int := tupleKeyHash (PySem.strKind P w) k

section
variable {P : Program} {w : World} {A : Around} {E : Value → Shared → Prop} {s : Shared}

theorem texts {k : List Str} {vs : List Value} (h : ItemsAre (PySem.strKind P w) k vs) : ∀ v ∈ vs, ∃ x t, v = Value.str x t := by
  induction h with
  | nil => exact fun v hv => nomatch hv
  | cons h1 _ ih =>
    intro v hv
    cases hv with
    | head => exact ⟨_, Value.isStrOf_shape h1⟩
    | tail _ hv => exact ih v hv
theorem cls_text (n : Nat) (x : Str) (t : Tok) : ofAClassStatement n (.str x t) = pure false := by cases n <;> rfl
theorem byv_text (n : Nat) (x : Str) (t : Tok) : hashByValue n (.str x t) = pure false := by cases n <;> (unfold hashByValue; rfl)
theorem cls_key {k : List Str} {b : Addr} {Q : Bool → Shared → Prop} (hk : TKey P w s.heap k b) (h : Q false s) : wpAny (model P w) A (ofAClassStatement 8 (.ref b)) Q E s := by
  have hT := hk.typeIs
  obtain ⟨o, items, n, ho, hc, hd, hi⟩ := hk
  unfold ofAClassStatement
  refine wpAny_bind (wpAny_typeOf hT ?_)
  simp only [beq_self_eq_true, if_true, Bool.not_true, Bool.false_eq_true, if_false]
  try refine wpAny_bind (wpAny_pure ?_)
  try simp only [Bool.not_true, Bool.false_eq_true, if_false]
  refine wpAny_bind (wpAny_seqItems ho hd ?_)
  refine wpAny_bind ?_
  rw [← Array.forIn_toList]
  refine wpAny_forIn_list _ (fun rest r s' => r.1 = none ∧ s' = s ∧ ∀ v ∈ rest, ∃ x t, v = Value.str x t) _ (fun v rest r s' hh => ?_) (fun r s' hh => ?_) _ _ ⟨rfl, rfl, texts hi⟩
  · obtain ⟨hr, rfl, hs⟩ := hh
    obtain ⟨x, t, rfl⟩ := hs v (.head _)
    rw [cls_text]
    refine wpAny_bind (wpAny_pure ?_)
    simp only [Bool.false_eq_true, if_false]
    exact wpAny_pure ⟨rfl, rfl, fun u hu => hs u (.tail _ hu)⟩
  · obtain ⟨r1, r2⟩ := r
    obtain ⟨hr, rfl, _⟩ := hh
    cases hr
    exact wpAny_pure h
theorem byv_key {k : List Str} {b : Addr} {Q : Bool → Shared → Prop} (hk : TKey P w s.heap k b) (h : ∀ c, Q c s) : wpAny (model P w) A (hashByValue 8 (.ref b)) Q E s := by
  have hT := hk.typeIs
  obtain ⟨o, items, n, ho, hc, hd, hi⟩ := hk
  unfold hashByValue
  refine wpAny_bind (wpAny_specialOf hT F.slot_tuple_hash.lookup ?_)
  refine wpAny_bind (wpAny_seqItems ho hd ?_)
  refine wpAny_bind ?_
  show wpAny _ _ (forIn items _ _) _ _ s
  rw [← Array.forIn_toList]
  refine wpAny_forIn_list _ (fun rest r s' => r.1 = none ∧ s' = s ∧ ∀ v ∈ rest, ∃ x t, v = Value.str x t) _ (fun v rest r s' hh => ?_) (fun r s' hh => ?_) _ _ ⟨rfl, rfl, texts hi⟩
  · obtain ⟨hr, rfl, hs⟩ := hh
    obtain ⟨x, t, rfl⟩ := hs v (.head _)
    rw [byv_text]
    refine wpAny_bind (wpAny_pure ?_)
    simp only [Bool.not_false, if_true]
    exact wpAny_pure (wpAny_pure (h _))
  · obtain ⟨r1, r2⟩ := r
    obtain ⟨hr, rfl, _⟩ := hh
    cases hr
    exact wpAny_pure (h _)
theorem unseen {k : List Str} {b : Addr} {ys : List Value} {Q : Bool → Shared → Prop} (hk : TKey P w s.heap k b) (hy : ∀ y ∈ ys, ∃ l c, y = Value.ref c ∧ TKey P w s.heap l c) (h : Q false s) :
    wpAny (model P w) A (searchCouldBeSeen (.ref b) ys) Q E s := by
  unfold searchCouldBeSeen
  refine wpAny_bind (wpAny_forIn_list _ (fun rest r s' => r.1 = none ∧ s' = s ∧ ∀ y ∈ rest, ∃ l c, y = Value.ref c ∧ TKey P w s.heap l c) _ (fun v rest r s' hh => ?_) (fun r s' hh => ?_) _ _ ⟨rfl, rfl, hy⟩)
  · obtain ⟨hr, rfl, hs⟩ := hh
    obtain ⟨l, c, rfl, hc⟩ := hs v (.head _)
    have more : ∀ y ∈ rest, ∃ l c, y = Value.ref c ∧ TKey P w s'.heap l c := fun u hu => hs u (.tail _ hu)
    dsimp only
    by_cases hv : (b == c || (carriedByValue (.ref b) && carriedByValue (.ref c))) = true
    · exact wp_if_pos hv (wpAny_pure ⟨rfl, rfl, more⟩)
    refine wp_if_neg hv (wpAny_bind (wpAny_eqIsQuiet_tuple hk ?_))
    simp only [Bool.not_true, Bool.false_eq_true, if_false]
    refine wpAny_bind (wpAny_eqIsQuiet_tuple hc ?_)
    simp only [Bool.not_true, Bool.false_eq_true, if_false]
    refine wpAny_bind (cls_key hk ?_)
    simp only [Bool.false_eq_true, if_false]
    refine wpAny_bind (cls_key hc ?_)
    simp only [Bool.false_eq_true, if_false]
    exact wpAny_pure ⟨rfl, rfl, more⟩
  · obtain ⟨r1, r2⟩ := r
    obtain ⟨hr, rfl, _⟩ := hh
    cases hr
    exact wpAny_pure h

/-- the set at a holds the keys ks, in some order -/
abbrev Keeps (g h : Heap) : Prop := ∀ b o, g.get? b = some o → h.get? b = some o
theorem TKey.keep {P : Program} {w : World} {g h : Heap} {k : List Str} {b : Addr} (x : TKey P w g k b) (kp : Keeps g h) : TKey P w h k b := by
  obtain ⟨o, its, n, ho, r⟩ := x
  exact ⟨o, its, n, kp b o ho, r⟩
structure SOk (P : Program) (w : World) (g h : Heap) (a : Addr) (ks : List (List Str)) (es : Array (Int × Value)) (ep : Nat) (t : SetTable) : Prop where
  ob : ∃ o, h.get? a = some o ∧ o.ExactSet ∧ o.data = .set es ep t
  el : ∀ e ∈ es.toList, ∃ k p, k ∈ ks ∧ e = (TH P w k, Value.ref p) ∧ TKey P w g k p
  kp : Keeps g h
  ga : g.get? a = none
  tab : TabOk t (es.toList.map (·.1))
  sz : es.size = ks.length
  room : es.size * 5 < t.mask * 3
  few : es.size ≤ 17
  msk : t.mask = 7 ∨ t.mask = 31
variable {g : Heap} {a : Addr} {ks : List (List Str)} {es : Array (Int × Value)} {ep : Nat} {t : SetTable}
theorem SOk.placed (R : SOk P w g s.heap a ks es ep t) : t.place.size = es.size := by
  have := R.tab.sz
  rwa [List.length_map, Array.length_toList] at this
theorem SOk.fits (R : SOk P w g s.heap a ks es ep t) : t.fits es.size = true := by
  have h1 := R.placed
  have h2 := R.room
  unfold SetTable.fits SetTable.fill
  rw [R.tab.dm, Bool.and_eq_true, beq_iff_eq, decide_eq_true_eq]
  refine ⟨h1, ?_⟩
  show t.place.size + 0 ≤ t.mask
  omega
theorem nth_dummy (m : Nat) : ∀ (n : Nat) (p : SetTable.Probe), p.dummy = none → (nth m p n).dummy = none
  | 0, _, h => h
  | n + 1, p, h => nth_dummy m n (adv m p) (by unfold adv; split <;> exact h)
/-- a search for a key that is not there ends at the first empty slot -/
theorem SOk.search (R : SOk P w g s.heap a ks es ep t) {x : Addr} {k : List Str} (hx : TKey P w s.heap k x) (hk : k ∉ ks) (hu : A.units < cLine) {K : Nat} (hf0 : K < 10 * SetTable.turns t.mask)
    (hK : way t.mask (TH P w k) K ∉ t.place.toList) (hKb : ∀ c, c < K → way t.mask (TH P w k) c ∈ t.place.toList) {Q : SetFound → Shared → Prop} (q : Q (.free (way t.mask (TH P w k) K) false) s) :
    ∀ (f c : Nat) (stand : Option SetTable.Probe) (p : SetTable.Probe), stand.getD (t.probeStart (TH P w k)) = p → p.dummy = none → (∀ n, (nth t.mask p n).j = way t.mask (TH P w k) (c + n)) → c ≤ K → K - c < f →
      wpAny (model P w) A (setSearchFrom a (.ref x) (TH P w k) true f stand) Q E s
  | 0, _, _, _, _, _, _, _, hf => absurd hf (Nat.not_lt_zero _)
  | f + 1, c, stand, p, hst, hdm, at_, hc, hf => by
    obtain ⟨o, ho, hex, hd⟩ := R.ob
    rw [setSearchFrom_succ]
    refine wpAny_bind (wpAny_setState_of ho hd R.fits ?_)
    dsimp only
    rw [hst]
    refine wp_if_neg (by unfold SetTable.gaveWay; rw [mask_odd R.tab.mok]; decide) ?_
    try refine wpAny_bind (wpAny_pure ?_)
    have go := go_spec t R.tab.ris R.tab.dm (fun i => (es[i]?.map (·.1)).getD 0) (TH P w k) (10 * SetTable.turns t.mask) (K - c) p hdm (by omega)
      (fun n hn => by rw [at_]; exact hKb (c + n) (by omega)) (by rw [at_, show c + (K - c) = K by omega]; exact hK)
    rcases go with ⟨n, i, hn, hi, _, _, hp⟩ | ⟨_, hp⟩
    · rw [show t.probe (fun i => (es[i]?.map (·.1)).getD 0) (TH P w k) p = some (.candidate (nth t.mask p n).j i (nth t.mask p (n + 1))) from hp]
      dsimp only
      have hil : i < es.size := by
        have := (List.getElem?_eq_some_iff.mp hi).1
        rw [Array.length_toList, R.placed] at this
        exact this
      obtain ⟨e, he⟩ : ∃ e, es[i]? = some e := ⟨_, Array.getElem?_eq_getElem hil⟩
      obtain ⟨l, p', hl, rfl, hlp⟩ := R.el e (by rw [← Array.getElem?_toList] at he; exact List.mem_of_getElem? he)
      have hlp := hlp.keep R.kp
      have ne : l ≠ k := fun z => hk (z ▸ hl)
      have again := R.search hx hk hu hf0 hK hKb q f (c + (n + 1)) (some (nth t.mask p (n + 1))) (nth t.mask p (n + 1)) rfl (nth_dummy _ _ _ hdm) (fun m => by rw [← nth_add, at_, show c + (n + 1 + m) = c + (n + 1) + m by omega]) (by omega) (by omega)
      generalize nth t.mask p (n + 1) = p2 at again ⊢
      generalize hj : (nth t.mask p n).j = j at hi ⊢
      have rest : wpAny (model P w) A (searchRest a (.ref x) (TH P w k) true f es t j i p2) Q E s := by
        unfold searchRest
        rw [he]
        dsimp only
        refine wpAny_bind (wpAny_holding (wpAny_eqBool_tuple hu hlp hx (wpAny_bind (wpAny_setState_of ho hd R.fits ?_))))
        dsimp only
        refine wp_if_neg (by simp [ne]) ?_
        try refine wpAny_bind (wpAny_pure ?_)
        rw [sameMem]
        dsimp only
        simp only [if_true, slot_live R.tab.ris hi, he]
        refine wpAny_bind (wpAny_isSame_ref_self (wpAny_bind (wpAny_pure ?_)))
        simp only [if_true]
        exact wp_if_neg (by simp [ne]) again
      by_cases hl : t.led = true
      · refine wp_if_neg (by simp [hl]) ?_
        try refine wpAny_bind (wpAny_pure ?_)
        exact rest
      · refine wp_if_pos (by simp [hl]) (wpAny_bind (unseen hx (fun y hy => ?_) ?_))
        · obtain ⟨e, he, rfl⟩ := List.mem_map.mp hy
          have he2 : e ∈ es ∧ e.1 = TH P w k := by simpa using he
          obtain ⟨l, p, _, rfl, hlp⟩ := R.el e (Array.mem_toList_iff.mpr he2.1)
          exact ⟨l, p, rfl, hlp.keep R.kp⟩
        · refine wp_if_neg (by decide) ?_
          try refine wpAny_bind (wpAny_pure ?_)
          exact rest
    · rw [at_, show c + (K - c) = K by omega] at hp
      rw [show t.probe (fun i => (es[i]?.map (·.1)).getD 0) (TH P w k) p = some (.empty (way t.mask (TH P w k) K) none) from hp]
      dsimp only
      exact wpAny_pure q
/-- the set laid anew -/
theorem SOk.relaid {o : Obj} {t1 : SetTable} (ho : s.heap.get? a = some o) (hex : o.ExactSet) (hd : o.data = .set es ep t1) (el : ∀ e ∈ es.toList, ∃ k p, k ∈ ks ∧ e = (TH P w k, Value.ref p) ∧ TKey P w g k p) (kp : Keeps g s.heap) (ga : g.get? a = none)
    (tab : TabOk t1 (es.toList.map (·.1))) (sz : es.size = ks.length) (h5 : es.size = 5) (hm : t1.mask = 7) {Q : Unit → Shared → Prop}
    (q : ∀ h' es' ep' t', Heap.SameBut a s.heap h' → SOk P w g h' a ks es' ep' t' → Q () { s with heap := h' }) : wpAny (model P w) A (setRelay a (SetTable.grown 5)) Q E s := by
  have pl : t1.place.size = es.size := by
    have := tab.sz
    rwa [List.length_map, Array.length_toList] at this
  have ft : t1.fits es.size = true := by
    unfold SetTable.fits SetTable.fill
    rw [tab.dm, Bool.and_eq_true, beq_iff_eq, decide_eq_true_eq]
    refine ⟨pl, ?_⟩
    show t1.place.size + 0 ≤ t1.mask
    omega
  obtain ⟨t', order, e, hp, T, em, _, _, ed⟩ := relaid_ok t1 (hs := es.map (·.1)) (wanted := SetTable.grown 5) (M := 31) (by rw [size_20]) (.inr (.inl rfl)) (by rw [Array.size_map]; omega)
  rw [Array.size_map] at hp
  have ol : order.toList.length = es.size := by rw [hp.length_eq, List.length_range]
  have oin : ∀ i ∈ order.toList, i < es.size := fun i hi => List.mem_range.mp (hp.mem_iff.mp hi)
  have sel : ∀ l : List Nat, (∀ i ∈ l, i < es.size) → (l.filterMap fun i => es[i]?).length = l.length ∧ (∀ e ∈ l.filterMap fun i => es[i]?, e ∈ es.toList) ∧ (l.filterMap fun i => es[i]?).map (·.1) = l.map fun i => (es.map (·.1)).getD i 0 := by
    intro l hl
    induction l with
    | nil => exact ⟨rfl, (fun e he => (by cases he)), rfl⟩
    | cons i l ih =>
      obtain ⟨h1, h2, h3⟩ := ih fun j hj => hl j (.tail _ hj)
      have hi := hl i (.head _)
      have g : es[i]? = some es[i] := Array.getElem?_eq_getElem hi
      rw [List.filterMap_cons_some g]
      refine ⟨congrArg (· + 1) h1, fun e he => ?_, ?_⟩
      · cases he with
        | head => exact Array.mem_toList_iff.mpr (Array.getElem_mem hi)
        | tail _ he => exact h2 e he
      · rw [List.map_cons, List.map_cons, h3]
        congr 1
        simp [Array.getD_eq_getD_getElem?, g]
  obtain ⟨s1, s2, s3⟩ := sel order.toList oin
  have e0 : (order.filterMap (es[·]?)).toList = order.toList.filterMap fun i => es[i]? := by simp
  have hs2 : (order.filterMap (es[·]?)).size = es.size := by rw [← Array.length_toList, e0, s1, ol]
  rw [setRelay_eq]
  refine wpAny_bind (wpAny_setState_of ho hd ft ?_)
  dsimp only
  refine wp_if_neg (by rw [size_20, sizeLine_eq]; omega) ?_
  try refine wpAny_bind (wpAny_pure ?_)
  rw [e]
  dsimp only
  refine wpAny_bind (wp_if_neg (by rw [hs2]; simp) ?_)
  try refine wpAny_bind (wpAny_pure ?_)
  refine wpAny_pure ?_
  dsimp only
  refine wpAny_storeSet_of ho hd ?_ (by rw [hs2, sizeLine_eq]; omega)
  have sb : Heap.SameBut a s.heap (s.heap.update a (Obj.putSet (order.filterMap (es[·]?)) t')) := Heap.SameBut.update ..
  refine q _ (order.filterMap (es[·]?)) (ep + 1) t' sb ⟨⟨_, store_at ho hd, ⟨hex.1, hex.2.1, hex.2.2⟩, rfl⟩, fun e he => el e (s2 e (e0 ▸ he)), fun b o e => (sb.2 b fun z => by rw [z, ga] at e; cases e).trans (kp b o e), ga, ?_, by rw [hs2, sz], by rw [hs2, em, h5]; decide, by omega, .inr em⟩
  · rw [e0, s3]
    exact T
/-- one more key -/
theorem SOk.add (R : SOk P w g s.heap a ks es ep t) {x : Addr} {k : List Str} (hg : TKey P w g k x) (hk : k ∉ ks) (hu : A.units < cLine) (h17 : es.size + 1 ≤ 17) {Q : Bool → Shared → Prop}
    (q : ∀ h' es' ep' t', Heap.SameBut a s.heap h' → SOk P w g h' a (k :: ks) es' ep' t' → Q true { s with heap := h' }) : wpAny (model P w) A (setAddHashed a (.ref x) (TH P w k)) Q E s := by
  have hx := hg.keep R.kp
  obtain ⟨o, ho, hex, hd⟩ := R.ob
  have room := R.room
  obtain ⟨K, hKf, hK, hKb⟩ := R.tab.first (by rw [List.length_map, Array.length_toList]; omega) (TH P w k)
  have turns : 10 * SetTable.turns t.mask ≤ 1420 := by
    unfold SetTable.turns
    rcases R.tab.mok with e | e | e <;> omega
  unfold setAddHashed
  refine wpAny_holding ?_
  rw [show (100000 : Nat) = 99999 + 1 from rfl, setAddHashedIn_succ]
  refine wpAny_bind (wpAny_setState_of ho hd R.fits ?_)
  dsimp only
  refine wp_if_neg (by simp [byScan, Value.scannable]) ?_
  try refine wpAny_bind (wpAny_pure ?_)
  unfold setSearch
  refine wpAny_bind (R.search hx hk hu hKf hK hKb ?_ 100000 0 none _ rfl rfl (fun n => by rw [Nat.zero_add]; rfl) (Nat.zero_le _) (by omega))
  dsimp only
  refine wpAny_bind (wpAny_setState_of ho hd R.fits ?_)
  dsimp only
  obtain ⟨q1, q2, q3, q4, q5, q6, q7, q8, q9⟩ := R.tab.put hK hKb
  rw [List.length_map, Array.length_toList] at q9
  generalize t.put (way t.mask (TH P w k) K) = pt at q1 q3 q4 q5 q6 q7 q8 q9 ⊢
  obtain ⟨t1, pl⟩ := pt
  dsimp only at q1 q3 q4 q5 q6 q7 q8 q9 ⊢
  subst q1
  generalize SetTable.below t.place (way t.mask (TH P w k) K) = pl at q2 q3 ⊢
  have e1 : (SetTable.insertAt es pl (TH P w k, Value.ref x)).toList = es.toList.take pl ++ (TH P w k, Value.ref x) :: es.toList.drop pl := SetTable.toList_insertAt es pl _
  have hh : ((SetTable.insertAt es pl (TH P w k, Value.ref x)).toList.map (·.1)) = (es.toList.map (·.1)).take pl ++ TH P w k :: (es.toList.map (·.1)).drop pl := by rw [e1, List.map_append, List.map_cons, List.map_take, List.map_drop]
  rw [← hh] at q3
  have mem : ∀ e ∈ (SetTable.insertAt es pl (TH P w k, Value.ref x)).toList, e = (TH P w k, Value.ref x) ∨ e ∈ es.toList := fun e he => by
    rw [e1] at he
    rcases List.mem_append.mp he with z | z
    · exact .inr (List.mem_of_mem_take z)
    · rcases List.mem_cons.mp z with z | z
      · exact .inl z
      · exact .inr (List.mem_of_mem_drop z)
  have hes : (SetTable.insertAt es pl (TH P w k, Value.ref x)).size = es.size + 1 := by
    rw [← Array.length_toList, (SetTable.insertAt_perm es pl _).length_eq]
    simp
  generalize SetTable.insertAt es pl (TH P w k, Value.ref x) = es1 at q3 hes mem ⊢
  have fin : ∀ t2 : SetTable, TabOk t2 (es1.toList.map (·.1)) → t2.mask = t.mask → t2.fill = es.size + 1 → wpAny (model P w) A (do
      storeSet a es1 t2
      if !false && t2.tooFull then setRelay a (SetTable.grown (es.size + 1))
      return true) Q E s := by
    intro t2 tab2 em ef
    refine wpAny_bind (wpAny_storeSet_of ho hd ?_ (by rw [hes, sizeLine_eq]; omega))
    have sb : Heap.SameBut a s.heap (s.heap.update a (Obj.putSet es1 t2)) := Heap.SameBut.update ..
    have ho1 := store_at (es' := es1) (t' := t2) ho hd
    generalize s.heap.update a (Obj.putSet es1 t2) = h1 at sb ho1 ⊢
    have el1 : ∀ e ∈ es1.toList, ∃ l p, l ∈ k :: ks ∧ e = (TH P w l, Value.ref p) ∧ TKey P w g l p := fun e he => by
      rcases mem e he with z | z
      · exact ⟨k, x, .head _, z, hg⟩
      · obtain ⟨l, p, h1, h2, h3⟩ := R.el e z
        exact ⟨l, p, .tail _ h1, h2, h3⟩
    have kp1 : Keeps g h1 := fun b o e => (sb.2 b fun z => by rw [z, R.ga] at e; cases e).trans (R.kp b o e)
    have sz1 : es1.size = (k :: ks).length := by rw [hes, R.sz]; rfl
    have full : t2.tooFull = decide ((es.size + 1) * 5 ≥ t2.mask * 3) := by unfold SetTable.tooFull; rw [ef]
    by_cases hf : t2.tooFull = true
    · have hf5 := hf
      rw [full, decide_eq_true_eq, em] at hf5
      have c7 : t.mask = 7 ∧ es.size = 4 := by
        rcases R.msk with e | e
        · rw [e] at hf5 room; exact ⟨e, by omega⟩
        · rw [e] at hf5; omega
      have relay : wpAny (model P w) A (setRelay a (SetTable.grown (es.size + 1))) (fun _ s' => wpAny (model P w) A (pure true) Q E s') E { s with heap := h1 } := by
        rw [c7.2]
        refine SOk.relaid (s := { s with heap := h1 }) ho1 ⟨hex.1, hex.2.1, hex.2.2⟩ rfl el1 kp1 R.ga tab2 sz1 (by rw [hes, c7.2]) (by rw [em, c7.1]) fun h2 es2 ep2 t3 sb2 R2 => ?_
        exact wpAny_pure (q h2 es2 ep2 t3 (sb.trans sb2) R2)
      first
        | (refine wpAny_bind ?_; refine wp_if_pos (by simp [hf]) ?_; exact relay)
        | (refine wp_if_pos (by simp [hf]) ?_; exact wpAny_bind relay)
    · have hf5 := hf
      rw [full, decide_eq_true_eq] at hf5
      have done : Q true { s with heap := h1 } := q h1 es1 (ep + 1) t2 sb ⟨⟨_, ho1, ⟨hex.1, hex.2.1, hex.2.2⟩, rfl⟩, el1, kp1, R.ga, tab2, sz1, by rw [hes]; omega, by rw [hes]; exact h17, by rw [em]; exact R.msk⟩
      first
        | (refine wp_if_neg (by simp [hf]) ?_; exact wpAny_pure done)
        | (refine wpAny_bind ?_; refine wp_if_neg (by simp [hf]) ?_; exact wpAny_pure (wpAny_pure done))
  have go : ∀ c : Bool, wpAny (model P w) A (do
      let t2 := if c then t1 else { t1 with plain := false }
      storeSet a es1 t2
      if !false && t2.tooFull then setRelay a (SetTable.grown (es.size + 1))
      return true) Q E s := by
    intro c
    cases c with
    | true => exact fin t1 q3 q4 q9
    | false => exact fin { t1 with plain := false } ⟨q3.ris, q3.dm, q3.sz, q3.mok, q3.bd, q3.reach⟩ q4 q9
  by_cases hp : t1.plain = true
  · exact wp_if_pos hp (wpAny_bind (byv_key hx fun c => go c))
  · exact wp_if_neg hp (wpAny_bind (wpAny_pure (go true)))
end
end St
end
section
set_option maxRecDepth 100000
set_option maxHeartbeats 3200000
/-! set(t) of a tuple, by what each adding makes of it; len(set(t)) of different texts, of different pairs of texts. -/
namespace St
open PySem PySem.Spec PyProof.Rows L2

abbrev bare (led : Bool) : Obj := { cls := .type "set", dict := none, data := .set #[] 0 (.fresh 0 0 led) }
/-- what the set at S is behind i additions -/
structure Gro (P : Program) (w : World) (A : Around) (g : Heap) (S : Addr) (its : Array Value) (Iv : Nat → Heap → Prop) : Prop where
  zero : ∀ h led, Keeps g h → h.get? S = some (bare led) → Iv 0 h
  keep : ∀ i h h', Iv i h → Keeps g h → (∀ o, h.get? S = some o → h'.get? S = some o) → Keeps g h' → Iv i h'
  add : ∀ i v (s : Shared) (Q : Bool → Shared → Prop) (E : Value → Shared → Prop), its[i]? = some v → Iv i s.heap → Keeps g s.heap → (∀ c h' tk, Heap.SameBut S s.heap h' → s.toks ≤ tk → Iv (i + 1) h' → Q c { s with heap := h', toks := tk }) →
    wpAny (model P w) A (setAdd S v) Q E s
section
variable {P : Program} {w : World} {A : Around} {E : Value → Shared → Prop} {s : Shared} {its : Array Value} {Iv : Nat → Heap → Prop} {g : Heap} {S : Addr}
theorem grow {I : Addr} {fp wr : List Addr} {G : Array GenState → Array GenState → Prop} {St : Nat → Shared → Prop} {R : Result → Shared → Prop} (gr : Gro P w A.in1 g S its Iv) (W : WalksS P w A.in1 I fp wr G its.size (fun i v => its[i]? = some v) St)
    (hS : S ∉ fp) (gS : g.get? S = none) (gw : ∀ b ∈ wr, g.get? b = none) : ∀ (m i : Nat) (s : Shared), its.size - i = m → i ≤ its.size → St i s → Keeps g s.heap → Iv i s.heap →
      (∀ s', Moved (S :: wr) G s s' → Keeps g s'.heap → Iv its.size s'.heap → R (.ok (.ret .none)) s') → codeAny (model P w) A (.builtin "set.update.loop" ⟨[.ref S, .ref I], []⟩) R s := by
  have nw : S ∉ wr := fun z => hS (W.sub _ z)
  have wide : ∀ b ∈ wr, b ∈ S :: wr := fun b => List.mem_cons_of_mem _
  have mv : ∀ {a b : Shared}, Moved wr G a b → Keeps g a.heap → Keeps g b.heap := fun hm k b o e => hm.heap b o (fun z => by rw [gw b z] at e; cases e) (k b o e)
  intro m
  induction m with
  | zero =>
    intro i s hm hi st kp iv q
    obtain rfl : i = its.size := by omega
    refine codeAny_builtin F.entry_set_update_loop ?_
    rw [Around.under_plainId F.plain_set_update_loop _]
    exact wpAny_bind (W.done s _ _ st fun s' mo => wpAny_pure (q s' (mo.mono wide) (mv mo kp) (gr.keep _ _ _ iv kp (fun o e => mo.heap S o nw e) (mv mo kp))))
  | succ m ih =>
    intro i s hm hi st kp iv q
    have lt : i < its.size := by omega
    refine codeAny_builtin F.entry_set_update_loop ?_
    rw [Around.under_plainId F.plain_set_update_loop _]
    refine wpAny_bind (W.item i s _ _ lt st fun v s' hv st' mo => ?_)
    have kp' := mv mo kp
    show wpAny _ A.in1 (holding [v] (setAdd S v) >>= _) _ _ s'
    refine wpAny_bind (wpAny_holding (gr.add i v s' _ _ hv (gr.keep _ _ _ iv kp (fun o e => mo.heap S o nw e) kp') kp' fun c h' tk sb ht iv' => ?_))
    have kp2 : Keeps g h' := fun b o e => (sb.2 b fun z => by rw [z, gS] at e; cases e).trans (kp' b o e)
    refine wpAny_pure ⟨plainId_quiet F.plain_set_update_loop _, ih (i + 1) _ (by omega) lt (W.frame _ s' _ _ st' ht fun b hb o e => (sb.2 b fun z => hS (z ▸ hb)).trans e) kp2 iv' fun s2 m2 k2 iv2 => ?_⟩
    exact q s2 (Moved.trans W.gtrans ((mo.mono wide).then_heap ht fun b o hb e => (sb.2 b fun z => hb (z ▸ List.mem_cons_self)).trans e) m2) k2 iv2
/-- set(t) -/
theorem set_of {l : Addr} {Q : Value → Shared → Prop} (hh : A.handled = none) (hl : s.heap.IsTuple l its) (gr : ∀ B, B.units ≤ A.units + 4 → Gro P w B s.heap s.heap.objs.size its Iv)
    (h : ∀ (h' : Heap) (tk : Nat), Keeps s.heap h' → Iv its.size h' → Q (.ref s.heap.objs.size) { s with heap := h', toks := tk }) : wpAny (model P w) A (call (.type "set") [.ref l]) Q E s := by
  have none_of : ∀ b, s.heap.objs.size ≤ b → s.heap.get? b = none := fun b hb => by
    cases z : s.heap.get? b with
    | none => rfl
    | some o => exact absurd (Nat.lt_of_lt_of_le (Heap.lt_size z) hb) (Nat.lt_irrefl _)
  obtain ⟨c, tl, x1⟩ := F.called_set.mro
  have x2 := F.called_set.made
  have x3 := F.called_set.sub
  refine wpAny_call (codeAny_of_tree ?_)
  show wpAny _ _ (callAny (.type "set") _) _ _ _
  refine wpAny_pure ⟨Code.quiet_builtin _ (by decide +kernel), codeAny_builtin F.entry_type_call ?_⟩
  rw [Around.under_plain (weight_type_call_type "set" [.ref l] []) rfl]
  have x4 := F.called_set.notType
  have x5 := F.called_set.canCreate
  have x6 := F.typeCall_set_1 (.ref l)
  repeat (any_goals (first | assumption | wp_step))
  refine codeAny_mono (code_set_new_1 (.ref l) (E := E) (Q₁ := fun y s1 => ∃ led, y = .ref s.heap.objs.size ∧ s1 = { s with heap := s.heap.push (bare led) }) fun led => ⟨led, rfl, rfl⟩) fun r s1 hr => ?_
  cases r with
  | error e => exact hr
  | ok fl =>
  cases fl with
  | ret y =>
    obtain ⟨led, rfl, rfl⟩ := hr
    have at0 : (s.heap.push (bare led)).get? s.heap.objs.size = some (bare led) := Heap.get?_push_size _ rfl
    have x7 : Shared.TypeIs { s with heap := s.heap.push (bare led) } (.ref s.heap.objs.size) "set" := ⟨_, at0, rfl⟩
    have x8 := F.called_set.init.lookup
    have x9 := F.called_set.init.bind (.ref s.heap.objs.size)
    repeat (any_goals (first | assumption | wp_step))
    refine codeAny_mono (codeAny_call_builtin (R := wants (fun r s2 => r = .none ∧ ∃ h' tk, s2 = { s with heap := h', toks := tk } ∧ Keeps s.heap h' ∧ Iv its.size h') E) F.called_set.init.plain F.entry_set_init (check_set_init_1 x7 ?_)) fun r s2 hr => ?_
    · have hl1 : (s.heap.push (bare led)).IsTuple l its := hl.push _
      have hlS : l < s.heap.objs.size := by obtain ⟨o, ho, _⟩ := hl; exact Heap.lt_size ho
      obtain ⟨⟨cl, dd, dt, sl⟩, hol, hc, n, hdt⟩ := hl
      dsimp only at hc hdt
      subst hc hdt
      have hol1 : (s.heap.push (bare led)).get? l = some { cls := .type "tuple", dict := dd, data := .seq its n, slots := sl } := Heap.get?_push_of_some _ hol
      have y1 := F.sub_tuple_set
      have y2 := F.sub_tuple_frozenset
      have y3 : (Value.type "tuple" == Value.type "dict") = false := by decide
      unfold Builtin.«set.__init__» noKeywords Builtin.Frozenset.updateFrom
      generalize hPI : pyIter = PI
      wp_walk
      subst hPI
      refine wpAny_pyIter_tuple hl1 (wpAny_bind (wpAny_runValue ?_))
      have y4 : A.in1.in1.in1.handled = none := by simp [hh]
      have size1 : (s.heap.push (bare led)).objs.size = s.heap.objs.size + 1 := Heap.size_push ..
      have y5 : l ≠ (s.heap.push (bare led)).objs.size := by rw [size1]; exact Nat.ne_of_lt (Nat.lt_succ_of_lt hlS)
      refine grow (gr _ ?_) ((Walks.tuple y4 _ l y5 its).toS) ?_ (none_of _ (Nat.le_refl _)) (fun b hb => none_of b ?_) (its.size - 0) 0 _ rfl (Nat.zero_le _) ⟨⟨_, Heap.get?_push_size _ rfl, rfl, rfl⟩, hl1.push _⟩
        (fun b o e => Heap.get?_push_of_some _ (Heap.get?_push_of_some _ e)) ?_ ?_
      · simp
      · rw [size1]
        simp only [List.mem_cons, List.not_mem_nil, or_false, not_or]
        exact ⟨Nat.ne_of_lt (Nat.lt_succ_self _), Nat.ne_of_gt hlS⟩
      · have e := List.mem_singleton.mp hb
        rw [e, size1]
        omega
      · exact (gr A (by omega)).zero _ led (fun b o e => Heap.get?_push_of_some _ (Heap.get?_push_of_some _ e)) (Heap.get?_push_of_some _ at0)
      · intro s2 mo kp iv
        obtain ⟨h', gg, dr, tk, os⟩ := s2
        obtain ⟨_, m1, m2, m3, _⟩ := mo
        dsimp only at m1 m2 m3
        subst m1 m2 m3
        exact wpAny_pure (wpAny_pure ⟨rfl, h', tk, rfl, kp, iv⟩)
    · cases r with
      | error e => exact hr
      | ok fl =>
      cases fl with
      | ret r =>
        obtain ⟨rfl, h', tk, rfl, kp, iv⟩ := hr
        repeat (any_goals (first | assumption | wp_step))
        exact h _ _ kp iv
      | _ => exact hr.elim
  | _ => exact hr.elim
end
end St
end
section
set_option maxRecDepth 100000
set_option maxHeartbeats 1000000
/-! len(set(t)): of different texts, of different pairs of texts. -/
namespace St
open PySem PySem.Spec PyProof.Rows L2
theorem take_one {α : Type} {xs : List α} {i : Nat} {x : α} (hx : xs[i]? = some x) : xs.take (i + 1) = xs.take i ++ [x] := by rw [List.take_succ, hx]; rfl
theorem fresh_at {α : Type} {xs : List α} {i : Nat} {x : α} (hn : xs.Nodup) (hx : xs[i]? = some x) : x ∉ xs.take i := fun h => by
  have z : (xs.take (i + 1)).Nodup := hn.sublist (List.take_sublist _ _)
  rw [take_one hx] at z
  exact (List.nodup_append.mp z).2.2 x h x (List.mem_singleton.mpr rfl) rfl
section
variable {P : Program} {w : World} {A : Around} {g : Heap} {S : Addr}
/-- texts -/
theorem gro_text {its : Array Value} {xs : List Str} (hn : xs.Nodup) (hl : xs.length ≤ 100) (hv : ∀ (i : Nat) (v : Value), its[i]? = some v → ∃ x t, xs[i]? = some x ∧ v = Value.str x t) :
    Gro P w A g S its fun i h => h.SetOf (PySem.strKind P w) S (fun k => (xs.take i).any (· == k)) i where
  zero h led _ e := PyProof.Rows.SetOf_congr ((PyProof.Rows.setObjOf_fresh (knd := PySem.strKind P w) led).setOf e (by unfold scanBound; omega)) (fun _ => rfl) rfl
  keep i h h' iv _ ke _ := by
    obtain ⟨o, es, ep, t, ho, r⟩ := iv
    exact ⟨o, es, ep, t, ke o ho, r⟩
  add i v s Q E hi iv kp q := by
    obtain ⟨x, t, hx, rfl⟩ := hv i v hi
    have hlt : i < xs.length := (List.getElem?_eq_some_iff.mp hx).1
    have no : (xs.take i).any (· == x) = false := by
      rw [List.any_eq_false]
      intro y hy e
      have e : y = x := by simpa using e
      exact fresh_at hn hx (e ▸ hy)
    unfold setAdd
    refine wpAny_holding (wpAny_bind ((PySem.strKind P w).pyHash (k := x) (strKind_is _ _ _ _) ?_))
    refine wpAny_setAddHashed_of (knd := PySem.strKind P w) (s := { s with toks := s.toks + 1 }) (strKind_is _ _ _ _) rfl iv (by unfold scanBound; omega) fun h' sb hS2 => q _ h' _ sb (Nat.le_succ _) ?_
    rw [no] at hS2
    refine PyProof.Rows.SetOf_congr hS2 (fun k => ?_) rfl
    rw [take_one hx, List.any_append, List.any_cons, List.any_nil, Bool.or_false]
    congr 1
    by_cases e : k = x
    · subst e; simp
    · rw [decide_eq_false e]
      exact (beq_eq_false_iff_ne.mpr fun z => e z.symm).symm
/-- tuples of texts -/
theorem gro_pairs {its : Array Value} {ks : List (List Str)} (hn : ks.Nodup) (hl : ks.length ≤ 17) (hu : A.units < cLine) (hv : ∀ (i : Nat) (v : Value), its[i]? = some v → ∃ k p, ks[i]? = some k ∧ v = Value.ref p ∧ TKey P w g k p) (hS : g.get? S = none) :
    Gro P w A g S its fun i h => ∃ es ep t, SOk P w g h S (ks.take i).reverse es ep t where
  zero h led kp e := ⟨#[], 0, .fresh 0 0 led, ⟨⟨_, e, ⟨rfl, rfl, rfl⟩, rfl⟩, (fun e he => (by cases he)), kp, hS, ⟨List.Pairwise.nil, rfl, rfl, .inl rfl, fun x hx => (by cases hx), fun i h j hi => (by simp at hi)⟩, rfl, (show 0 * 5 < 7 * 3 by decide), (show 0 ≤ 17 by decide), .inl rfl⟩⟩
  keep i h h' iv _ ke kp := by
    obtain ⟨es, ep, t, R⟩ := iv
    obtain ⟨o, ho, r⟩ := R.ob
    exact ⟨es, ep, t, ⟨⟨o, ke o ho, r⟩, R.el, kp, R.ga, R.tab, R.sz, R.room, R.few, R.msk⟩⟩
  add i v s Q E hi iv kp q := by
    obtain ⟨k, p, hk, rfl, hp⟩ := hv i v hi
    obtain ⟨es, ep, t, R⟩ := iv
    have hlt : i < ks.length := (List.getElem?_eq_some_iff.mp hk).1
    have sz := R.sz
    rw [List.length_reverse, List.length_take] at sz
    unfold setAdd
    refine wpAny_holding (wpAny_bind (wpAny_pyHash_tuple hu (hp.keep kp) ?_))
    refine SOk.add (s := { s with toks := s.toks + (k.length + 1) }) R hp (fun z => fresh_at hn hk (List.mem_reverse.mp z)) hu (by omega) fun h' es' ep' t' sb R' => q _ h' _ sb (Nat.le_add_right _ _) ⟨es', ep', t', ?_⟩
    rw [take_one hk, List.reverse_append]
    exact R'
end
section
variable {X : Cx}
/-- len(set(t)) -/
def tLenSetS (K : PySem.W.Frag) (ta : TE) : TE := fun σ H Q => ta σ H fun x H1 => ∃ l, x = .ref l ∧
  ((∃ xs : List Str, SqT K H1 l (xs.map V.str) ∧ xs.Nodup ∧ xs.length ≤ 100 ∧ Q (.int xs.length) H1) ∨
   (∃ (ps : List Addr) (es : List (Str × Str)), SqT K H1 l (ps.map V.ref) ∧ Paired (fun p (e : Str × Str) => SqT K H1 p [.str e.1, .str e.2]) ps es ∧ es.Nodup ∧ es.length ≤ 17 ∧ Q (.int es.length) H1))
theorem vals_at {vs : List V} {us : List Value} (r : Vals vs us) {i : Nat} {u : Value} (h : us[i]? = some u) : ∃ v, vs[i]? = some v ∧ RelV v u := by
  cases e : vs[i]? with
  | none => rw [r.none_of e] at h; cases h
  | some v =>
    obtain ⟨u', h', q⟩ := r.get e
    rw [h] at h'
    cases h'
    exact ⟨v, rfl, q⟩
theorem key_of {pins : List (Addr × Obj)} {σ : L2.St} {H : Hp} {s : Shared} {p : Addr} {e : Str × Str} (I : Inv X pins σ H s) (h : SqT X.K H p [.str e.1, .str e.2]) : TKey X.prog X.w s.heap [e.1, e.2] p := by
  obtain ⟨its, r, ⟨o, ho, hc, n, hd⟩, _⟩ := I.tuple h
  cases r with
  | cons r1 r =>
  cases r with
  | cons r2 r =>
  cases r
  obtain ⟨t1, rfl⟩ := r1
  obtain ⟨t2, rfl⟩ := r2
  exact ⟨o, _, n, ho, hc, hd, .cons (strKind_is _ _ _ _) (.cons (strKind_is _ _ _ _) .nil)⟩
theorem two_nodup : ∀ {es : List (Str × Str)}, es.Nodup → (es.map fun e => [e.1, e.2]).Nodup
  | [], _ => .nil
  | e :: es, h => by
    obtain ⟨h1, h2⟩ := List.nodup_cons.mp h
    refine List.nodup_cons.mpr ⟨fun z => ?_, two_nodup h2⟩
    obtain ⟨f, hf, ef⟩ := List.mem_map.mp z
    have a1 := (List.cons.inj ef).1
    have a2 := (List.cons.inj (List.cons.inj ef).2).1
    exact h1 ((Prod.ext a1 a2 : f = e) ▸ hf)
theorem pe_lenSet_ {a : Expr} {ta : TE} {p p2 q pos : Pos} (hm : X.mg "len" = none) (hm2 : X.mg "set" = none) (ha : PE X a ta) (hc : X.calm = true := by rfl) (hu : X.A.units + 9 < cLine := by assumption) (hg : Gl X "len" := by rfl) (hg2 : Gl X "set" := by rfl)
    (na : starEach [a] X.env = (false, eval a X.env) :: starEach [] X.env := by rfl) : PE X (.Call (.Name "len" p) [.Call (.Name "set" p2) [a] [] q] [] pos) (tLenSetS X.K ta) := by
  refine ⟨fun pins s σ H Q I h => Call_ (ld_blt I hg hm boot_len ?_)⟩
  refine PyProof.Rows.callWith_builtin1 (PyProof.Rows.args_cons ?_ rfl) rfl rfl
  refine Call_ (ld_blt I hg2 hm2 boot_set (PyProof.Rows.callWith_type1 (PyProof.Rows.args_cons ?_ na) na rfl))
  refine thn (ha.run pins s σ H _ I h) fun v s1 ⟨x, H1, I1, r1, q1⟩ => PyProof.Rows.args_nil ?_
  obtain ⟨l, rfl, q1⟩ := q1
  cases r1
  have fin : ∀ (h' : Heap) (tk n : Nat) {o : Obj} {es : Array (Int × Value)} {ep : Nat} {t : SetTable}, Keeps s1.heap h' → h'.get? s1.heap.objs.size = some o → o.ExactSet → o.data = .set es ep t → t.fits es.size = true → es.size = n → n ≤ 100 → Q (.int n) H1 →
      wpAny (model X.prog X.w) X.A (spliced (backTo pos (starEach [] X.env))) (fun vs s2 => wpAny (model X.prog X.w) X.A (call (.builtin "len") (Value.ref s1.heap.objs.size :: vs)) (EP X pins σ Q) X.xe s2) X.xe { s1 with heap := h', toks := tk } := by
    intro h' tk n o es ep t kp ho hex hd hf hn hle qn
    have I2 : Inv X pins σ H1 { s1 with heap := h', toks := tk } := I1.kept kp
    refine PyProof.Rows.args_nil (call_len_set ho hex hd hf (by rw [hn]; omega) ⟨.int n, H1, I2.tok _, ⟨_, by rw [hn]⟩, qn⟩)
  rcases q1 with ⟨xs, hl, nd, le, q1⟩ | ⟨ps, es, hl, hp, nd, le, q1⟩
  · obtain ⟨its, r, pl, hz⟩ := I1.tuple hl
    have sz : its.toArray.size = xs.length := by rw [List.size_toArray, ← r.length, List.length_map]
    refine set_of (I1.ok.hd hc) pl (fun B _ => gro_text nd le fun i v hv => ?_) fun h' tk kp iv => ?_
    · obtain ⟨x, hx, rx⟩ := vals_at r (by simpa using hv)
      rw [List.getElem?_map] at hx
      cases e : xs[i]? with
      | none => rw [e] at hx; cases hx
      | some y =>
        rw [e] at hx
        cases hx
        obtain ⟨t, rfl⟩ := rx
        exact ⟨y, t, rfl, rfl⟩
    · obtain ⟨o, es, ep, t, ho, hex, hd, _, _, _, hf, hn⟩ := iv
      exact fin h' tk xs.length kp ho hex hd hf (hn.trans sz) le q1
  · obtain ⟨its, r, pl, hz⟩ := I1.tuple hl
    have sz : its.toArray.size = es.length := by rw [List.size_toArray, ← r.length, List.length_map, Paired.length hp]
    have none_at : s1.heap.get? s1.heap.objs.size = none := by
      cases z : s1.heap.get? s1.heap.objs.size with
      | none => rfl
      | some o => exact absurd (Heap.lt_size z) (Nat.lt_irrefl _)
    refine set_of (I1.ok.hd hc) pl (fun B hB => gro_pairs (ks := es.map fun e => [e.1, e.2]) (two_nodup nd) (by rw [List.length_map]; exact le) (by omega) (fun i v hv => ?_) none_at) fun h' tk kp iv => ?_
    · obtain ⟨x, hx, rx⟩ := vals_at r (by simpa using hv)
      rw [List.getElem?_map] at hx
      cases e : ps[i]? with
      | none => rw [e] at hx; cases hx
      | some p =>
        rw [e] at hx
        cases hx
        obtain ⟨d, hd, hq⟩ := paired_get hp e
        refine ⟨[d.1, d.2], p, by rw [List.getElem?_map, hd]; rfl, rx, key_of I1 hq⟩
    · obtain ⟨es', ep, t, R⟩ := iv
      obtain ⟨o, ho, hex, hd⟩ := R.ob
      have n := R.sz
      rw [List.length_reverse, List.length_take, List.length_map, sz, Nat.min_self] at n
      exact fin h' tk es.length kp ho hex hd (SOk.fits (s := { s1 with heap := h' }) R) n (by omega) q1
end
end St
end
section
set_option maxRecDepth 100000
set_option maxHeartbeats 2000000
/-! enumerate(t), t a tuple. -/
namespace En
open PySem PySem.Spec L2

/-- enumerate.__new__ of one value -/
theorem meets_one {v : Value} {o : Obj} {Hh : Heap → Prop} (B : Begins v o Hh) :
    Meets (Builtin.«enumerate.__new__» ⟨[.type "enumerate", v], []⟩) (fun _ R s => Hh s.heap ∧
      R (.ok (.ret (.ref (s.heap.push o).objs.size))) { s with heap := (s.heap.push o).push { cls := .type "enumerate", data := .fields #[.none, .bool false, .ref s.heap.objs.size, rawInt 0, .none, .none] } }) :=
  .of_wp fun prog w A R s h => by
    obtain ⟨hp, gs, dr, tk, os⟩ := s
    obtain ⟨h1, h2⟩ := h
    have z1 := sub_enumerate
    have z2 : ∀ {B : Around} {E : Value → Shared → Prop} {Q : Value → Shared → Prop}, Q (.ref hp.objs.size) ⟨hp.push o, gs, dr, tk, os⟩ → wpAny (model prog w) B (pyIter v) Q E ⟨hp, gs, dr, tk, os⟩ := fun q => B.iter prog w _ _ ⟨hp, gs, dr, tk, os⟩ _ h1 q
    wp_walk using z2
    refine wpAny_stack_any fun st => wpAny_pure ?_
    split
    · rename_i c _ _ _ _ _
      cases (c == Value.type "enumerate") <;> (wp_walk using z2; exact ⟨_, rfl, h2⟩)
    · wp_walk using z2
      exact ⟨_, rfl, h2⟩
section
variable {P : Program} {w : World} {A : Around} {E : Value → Shared → Prop} {s : Shared}
theorem call_one {v : Value} {o : Obj} {Hh : Heap → Prop} {Q : Value → Shared → Prop} (B : Begins v o Hh) (h1 : Hh s.heap)
    (h : ∀ h', IsEnum h' (s.heap.objs.size + 1) s.heap.objs.size 0 .none → h'.get? s.heap.objs.size = some o → (∀ b u, s.heap.get? b = some u → h'.get? b = some u) → Q (.ref (s.heap.objs.size + 1)) { s with heap := h' }) :
    wpAny (model P w) A (call (.type "enumerate") [v]) Q E s := by
  refine callType_new F.called_enumerate (by decide) (F.typeCall_enumerate_1 _) (F.newCall_enumerate_1 _) (fun y => F.args_object_init_2 y _) F.entry_enumerate_new (meets_one B) ⟨h1, ?_⟩
  have z : (s.heap.push o).objs.size = s.heap.objs.size + 1 := Heap.size_push ..
  have he := Heap.get?_push_size (s.heap.push o) (o := { cls := .type "enumerate", data := .fields #[.none, .bool false, .ref s.heap.objs.size, rawInt 0, .none, .none] }) rfl
  rw [z] at he
  show _ ∧ _
  rw [z]
  exact ⟨⟨_, he, rfl⟩, h _ he (Heap.get?_push_of_some _ (Heap.get?_push_size _ B.free)) fun b u x => Heap.get?_push_of_some _ (Heap.get?_push_of_some _ x)⟩
end
/-- the tuple at a, each item in a new pair -/
def ItT (K : PySem.W.Frag) (a : Addr) : It :=
  ⟨fun i H => ∃ (xs : List V) (x : V), SqT K H a xs ∧ xs[i]? = some x, fun i H v H' => ∃ T x, v = .ref T ∧ H T = none ∧ H' = upd H T (.tup [.int (i : Nat), x]) ∧ ∀ xs, SqT K H a xs → xs[i]? = some x, fun i H => ∃ xs : List V, SqT K H a xs ∧ xs.length ≤ i⟩
theorem tuple_inj {X : Cx} {pins : List (Addr × Obj)} {σ : St} {H : Hp} {s : Shared} {a : Addr} {xs ys : List V} (I : Inv X pins σ H s) (h : SqT X.K H a xs) (g : SqT X.K H a ys) : xs = ys := by
  obtain ⟨i1, r1, ⟨o1, a1, b1, n1, c1⟩, _⟩ := I.tuple h
  obtain ⟨i2, r2, ⟨o2, a2, b2, n2, c2⟩, _⟩ := I.tuple g
  rw [a1] at a2
  cases a2
  rw [c1] at c2
  injection c2 with c2
  have : i1 = i2 := by simpa using c2
  subst this
  exact Vals.inj r1 r2
theorem turn_enT {P : Program} {w : World} {K : PySem.W.Frag} {elts : List Expr} {kk : Nat} {tpos : Pos} (a e it : Addr) :
    Turn P w K (.Tuple elts kk tpos) (ItT K a) [e, it] e (fun i h => (∃ old, IsEnum h e it ((i : Nat) : Int) old) ∧ h.IsTupleIter it a i ∧ e ≠ it) where
  mem := List.mem_cons_self
  obj i h st b hb := by
    obtain ⟨⟨old, he⟩, ⟨o, ho, hc, hd⟩, _⟩ := st
    rcases List.mem_cons.mp hb with z | hb
    · rw [z]; exact ⟨_, he, fun v q => nomatch q⟩
    · rw [List.mem_singleton.mp hb]; exact ⟨o, ho, fun v q => by rw [hd] at q; cases q⟩
  keep i h h' st k := by
    obtain ⟨⟨old, he⟩, hi, hne⟩ := st
    exact ⟨⟨old, k e (.head _) _ he⟩, hi.at fun o q => k it (.tail _ (.head _)) o q, hne⟩
  item X hP hw hK hc i pins s σ H E I hf st hg := by
    subst hP hw hK
    obtain ⟨⟨old, he⟩, hit, hne⟩ := st
    obtain ⟨xs, x, hq, hx⟩ := hg
    obtain ⟨its, rv, ip, hz⟩ := I.tuple hq
    have hl := rv.length
    have hlt : i < its.toArray.size := by
      have := (List.getElem?_eq_some_iff.mp hx).1
      rw [List.size_toArray]; omega
    have hel : e < s.heap.objs.size := Heap.lt_size he
    have hil : it < s.heap.objs.size := by obtain ⟨_, q, _⟩ := hit; exact Heap.lt_size q
    have hae : a ≠ e := fun z => by
      obtain ⟨o, ho, hc, _⟩ := ip
      have he' : s.heap.get? e = some _ := he
      rw [z, he'] at ho
      cases ho
      injection hc with hc
      exact absurd hc (by decide)
    have hai : a ≠ it := fun z => by
      obtain ⟨o, ho, hc, _⟩ := ip
      obtain ⟨o2, ho2, hc2, _⟩ := hit
      rw [z, ho2] at ho
      cases ho
      rw [hc2] at hc
      injection hc with hc
      exact absurd hc (by decide)
    refine wpAny_pyNext_enum_itemD (Draws.tuple (A := X.A.in1) (by simp [I.ok.hd hc]) it a hai its.toArray) he ⟨hit, ip⟩ hlt hne (by simp [hne, Ne.symm hae]) fun y h' tk hy ho st' hT hsz hk => ?_
    obtain ⟨u, hu, ru⟩ := rv.get hx
    obtain rfl : y = u := by
      have : its[i]? = some y := by simpa using hy
      rw [hu] at this
      exact (Option.some.inj this).symm
    refine ⟨_, rfl, wpAny_letOwnedTupleGo_enum (s := { s with heap := h', toks := tk + 1 }) ho fun h2 he' sb => ?_⟩
    have hT2 := (sb.2 s.heap.objs.size (Nat.ne_of_gt hel)).trans hT
    have new : ObjOk X.prog X.w (upd H s.heap.objs.size (.tup [.int (i : Nat), x])) h2 s.heap.objs.size (.tup [.int (i : Nat), x]) := ⟨by show 2 ≤ sizeLine; decide, [.int i tk, y], .cons ⟨_, rfl⟩ (.cons ru .nil), ⟨_, hT2, rfl, _, rfl⟩⟩
    have I1 : Inv X pins σ (upd H s.heap.objs.size (.tup [.int (i : Nat), x])) { s with heap := h2, toks := tk + 1 } :=
      I.turnedNew (ch := [e, it]) (fun b ob hb q => (sb.2 b (fun z => hb (z ▸ .head _))).trans (hk b ob (fun z => hb (z ▸ .head _)) (fun z => hb (z ▸ .tail _ (.head _))) q)) hf (Nat.le_refl _) new
    refine ⟨.ref s.heap.objs.size, _, I1, rfl, ⟨_, x, rfl, I.hok.fresh (Nat.le_refl _), rfl, fun ys hy => by rw [tuple_inj I hy hq]; exact hx⟩, ⟨⟨y, ?_⟩, st'.1.at fun o q => (sb.2 it (Ne.symm hne)).trans q, hne⟩, fun b hb => ?_⟩
    · rw [show ((i + 1 : Nat) : Int) = (i : Int) + 1 by omega]
      exact he'
    · have hlt : b < s.heap.objs.size := by
        rcases List.mem_cons.mp hb with z | hb
        · rw [z]; exact hel
        · rw [List.mem_singleton.mp hb]; exact hil
      rw [upd_ne (Nat.ne_of_lt hlt)]
      exact (hf b hb).1
  done X hP hw hK hc i pins s σ H E I hf st hg := by
    subst hP hw hK
    obtain ⟨⟨old, he⟩, hit, hne⟩ := st
    obtain ⟨xs, hq, hx⟩ := hg
    obtain ⟨its, rv, ip, hz⟩ := I.tuple hq
    obtain ⟨f0, f1, f2, f3, f4, f5⟩ := hf it (.tail _ (.head _))
    have hl := rv.length
    have D : Draws X.prog X.w X.A.in1 it [it, a] i (fun _ _ => True) (fun j h => j = i ∧ h.IsTupleIter it a j ∧ h.IsTuple a its.toArray) :=
      { live := fun _ _ st => let ⟨o, ho, _⟩ := st.2.1; ⟨o, ho⟩
        frame := fun _ _ _ st hk => ⟨st.1, st.2.1.at fun o e => hk it (.head _) o e, st.2.2.at fun o e => hk a (.tail _ (.head _)) o e⟩
        item := fun j _ _ _ lt st _ => absurd st.1 (Nat.ne_of_lt lt)
        done := fun s Q E st hE => wpAny_nextOf_tuple_end (by simp [I.ok.hd hc]) st.2.1 st.2.2 (by simp; omega) hE }
    exact wpAny_pyNext_enum_endD D he ⟨rfl, hit, ip⟩ fun h' eb => ⟨rfl, I.turned (t' := s.toks) (fun b o hb q => eb b o hb q) f0 f1 f3 f4 f5⟩
  self A i s Q E st h := by
    obtain ⟨⟨_, he⟩, _⟩ := st
    exact wpAny_pyIter_enum he h
def iEnT (K : PySem.W.Frag) (ta : TA) : TI := fun σ H R => ta σ H fun vs H1 => ∃ a xs, vs = [.ref a] ∧ SqT K H1 a xs ∧ R (ItT K a) H1
theorem pi_enumT {X : Cx} {e : Expr} {ta : TA} {p pos tpos : Pos} {elts : List Expr} {kk : Nat} (hg : Gl X "enumerate") (hm : X.mg "enumerate" = none) (ha : PA X [e] ta) (hs : starEach [e] X.env = [(false, eval e X.env)] := by rfl) :
    PI X (.Tuple elts kk tpos) (.Call (.Name "enumerate" p) [e] [] pos) (iEnT X.K ta) := by
  refine ⟨fun pins s σ H R I h => PyProof.Rows.Call_ (ld_blt I hg hm PyProof.Rows.boot_enumerate (PyProof.Rows.callWith_type1 (thn (ha.run pos pins s σ H _ I h) fun us s1 ⟨vs, H1, I1, r1, a, xs, ex, hq, q⟩ => ?_) hs rfl))⟩
  subst ex
  cases r1 with
  | cons r rr =>
  cases rr
  cases r
  obtain ⟨its, rv, ip, hz⟩ := I1.tuple hq
  refine call_one (begins_tuple a its.toArray) ip fun h' he hit hk => wpAny_pyIter_enum he ?_
  have I2 : Inv X pins σ H1 { s1 with heap := h' } := I1.kept (t' := s1.toks) hk
  refine ⟨s1.heap.objs.size + 1, [s1.heap.objs.size + 1, s1.heap.objs.size], _, _, H1, rfl, I2, turn_enT a (s1.heap.objs.size + 1) s1.heap.objs.size, ⟨⟨.none, he⟩, ⟨_, hit, rfl, rfl⟩, Nat.succ_ne_self _⟩, fun b hb => ?_, q⟩
  have ge : s1.heap.objs.size ≤ b := by
    rcases List.mem_cons.mp hb with z | hb
    · rw [z]; exact Nat.le_add_right _ _
    · rw [List.mem_singleton.mp hb]; exact Nat.le_refl _
  exact I1.fpOk ge (I1.hok.fresh ge)
theorem walk_enT {K : PySem.W.Frag} {a : Addr} {xs : List V} : Walk (ItT K a) xs.length (fun H => SqT K H a xs) (YPair (fun i => some (.int (i : Nat))) (fun i => xs[i]?)) := by
  refine ⟨fun i _ hi q => ⟨xs, xs[i], q, by simp [hi]⟩, fun _ q => ⟨xs, q, Nat.le_refl _⟩, fun i H v H' _ q ⟨T, x, h1, h2, h3, h4⟩ => ?_⟩
  exact ⟨T, .int (i : Nat), x, h1, h2, h3, rfl, h4 xs q⟩
end En
end
section
set_option maxRecDepth 100000
set_option maxHeartbeats 2000000
/-! sorted(l), l a list of pairs of texts; d[k] of a written dict. -/
namespace Lk
open PySem PySem.Spec L2
abbrev PT := Addr × Str × Str
abbrev encT (z : PT) : PyData := dP z.2
/-- how pairs of texts are put in order -/
def leP : Str × Str → Str × Str → Bool := PySem.W.dataLe false dP
def rSortedSS (K : PySem.W.Frag) : List V → Hp → VK → Prop := fun vs H Q => ∃ (l : Addr) (bs : List PT), vs = [.ref l] ∧ SqL K H l (bs.map fun z => V.ref z.1) ∧ (∀ z ∈ bs, SqT K H z.1 [.str z.2.1, .str z.2.2]) ∧ bs.length ≤ 1000 ∧
  ∀ (ys : List PT) (p : Addr), ys.map (·.2) = (bs.map (·.2)).mergeSort leP → (∀ z ∈ ys, z ∈ bs) → H p = none → Q (.ref p) (upd H p (.lst (ys.map fun z => V.ref z.1)))
section
variable {X : Cx}
theorem each_ref : ∀ {bs : List PT} {vs : List Value}, Vals (bs.map fun z => V.ref z.1) vs → PySem.W.EachIs (fun (v : Value) (z : PT) => v = .ref z.1) vs bs
  | [], _, r => by cases r; exact .nil
  | z :: bs, _, r => by
    cases r with
    | cons h t => exact .cons h (each_ref t)
theorem ref_each : ∀ {bs : List PT} {vs : List Value}, PySem.W.EachIs (fun (v : Value) (z : PT) => v = .ref z.1) vs bs → Vals (bs.map fun z => V.ref z.1) vs
  | [], _, r => by cases r; exact .nil
  | z :: bs, _, r => by
    cases r with
    | cons h t => exact .cons h (ref_each t)
theorem each_read {h : Heap} : ∀ {bs : List PT} {vs : List Value}, PySem.W.EachIs (fun (v : Value) (z : PT) => v = .ref z.1) vs bs → (∀ z ∈ bs, ∃ as, Reads h (.ref z.1) (encT z) as) → PySem.W.EachIs (fun v z => ∃ as, Reads h v (encT z) as) vs bs
  | [], _, r, _ => by cases r; exact .nil
  | z :: bs, _, r, g => by
    cases r with
    | cons h t => exact .cons (h ▸ g z (.head _)) (each_read t fun y hy => g y (.tail _ hy))
theorem cr_sortedSS (hc : X.calm = true) (hu : X.A.units + 64 < cLine) : CallR X (.builtin "sorted") (rSortedSS X.K) := by
  intro pins s σ H xs us Q I r h
  obtain ⟨l, bs, rfl, hl, hp, hz, q⟩ := h
  obtain ⟨its, rv, il, iz⟩ := I.list hl
  obtain rfl := Vals.ref1 r
  have e := each_ref rv
  refine PySem.W.sorted_data (enc := encT) il.isList e (each_read e fun z hz => ?_) (PySem.W.AllAlike.of fun b b' => by simp [PySem.W.alike, PySem.W.alikeAll, encT, dP]) (PySem.W.Sortable.tuples fun b => ⟨_, _, rfl⟩) (by rw [sizeLine_eq]; omega) (fun b _ => ?_) fun out lo eo => ?_
  · exact Dp.reads I (encT z) (.ref z.1) _ (dp_P (e := z.2) (hp z hz)) rfl
  · have : (encT b).depth ≤ 1 := by simp [encT, dP, PyData.depth, PyData.depthAll]
    omega
  · generalize hy : bs.mergeSort (PySem.W.dataLe false encT) = ys at eo
    have perm : ys.Perm bs := by rw [← hy]; exact List.mergeSort_perm _ _
    obtain ⟨n, hn⟩ := PyProof.Rows.sortedAll_at s.heap its out.toArray
    have new : ObjOk X.prog X.w (upd H (s.heap.objs.size + 1) (.lst (ys.map fun z => V.ref z.1))) (PyProof.Rows.sortedAll s.heap its out.toArray) (s.heap.objs.size + 1) (.lst (ys.map fun z => V.ref z.1)) :=
      ⟨by rw [List.length_map, perm.length_eq, sizeLine_eq]; omega, out, n, ref_each eo, hn⟩
    refine ⟨.ref (s.heap.objs.size + 1), _, I.laid (t' := s.toks) (a := s.heap.objs.size + 1) (fun b o e => PyProof.Rows.sortedAll_old e) (Nat.le_succ _) new, rfl, q ys _ ?_ (fun z hz => perm.mem_iff.mp hz) (I.hok.fresh (Nat.le_succ _))⟩
    rw [← hy]
    exact List.map_mergeSort (fun a _ b _ => rfl)
def tKd (K : PySem.W.Frag) (w : World) (ta tb : TE) : TE := tOp (rIxD K w) ta tb
theorem pe_kd {a b : Expr} {ta tb : TE} {pos : Pos} (ha : PE X a ta) (hb : PE X b tb) (hs : PlainIx b := by intro _ _; rfl) : PE X (.Subscript a b pos) (tKd X.K X.w ta tb) := pe_ix ix_kdict ha hb hs
end
end Lk
end
section
set_option maxRecDepth 100000
set_option maxHeartbeats 1000000
/-! is_row_of, are_names, are_allowed. -/
namespace Lk
open PySem L2
open St (pe_lenSet_)
open En (pi_enumT walk_enT)

/-- a walk over a tuple that stands fast -/
theorem tup_pure {K : PySem.W.Frag} {a : Addr} {xs : List V} {g : TG} {tt : TT} {te : TE} {vs : List Nat} {σ : St} {H1 : Hp} {D : Addr} {Qd : Hp → Prop} (T : Tp K H1 a xs) (hD : H1 D = none) (hn : xs.length < sizeLine)
    (f : V → Option V) (turn : ∀ x H (Q : VK) (N : Hp → Prop), x ∈ xs → Same H1 H → (∀ H4, Same H H4 → match f x with
      | some y => Q y H4
      | none => N H4) → g x (wipe σ vs) H fun σ2 H2 => wipe σ2 vs = wipe σ vs ∧ tt σ2 H2 fun b H3 => if b = true then te σ2 H3 Q else N H3)
    (done : ∀ H, Same H1 H → H D = some (.lst (xs.filterMap f)) → Qd H) :
    ∃ W : Nat → Nat → Hp → Prop, (∃ m, W 0 m (upd H1 D (.lst []))) ∧ ∀ i m H, W i m H →
      ((Itt K a).stop i H ∧ Qd H) ∨ ((Itt K a).go i H ∧ ∃ Nx : Hp → Prop, (∀ H', Nx H' → ∃ m', m' < m ∧ W (i + 1) m' H') ∧ ∀ x H', (Itt K a).yld i H x H' → g x (wipe σ vs) H' fun σ2 H2 => wipe σ2 vs = wipe σ vs ∧ tt σ2 H2 fun b H3 =>
        if b = true then te σ2 H3 fun y H4 => ∃ acc, H4 D = some (.lst acc) ∧ acc.length < sizeLine ∧ Nx (upd H4 D (.lst (acc ++ [y]))) else Nx H3) := by
  refine lc_pure (walk_tup (xs := xs)) (fun i => xs[i]?.bind f) hD hn (fun H1 s1 => (T.mono (Same.tups s1)).sq) (fun i y H1 H2 Q' N hi s1 hy q => ?_) fun H2 s2 e2 => done H2 s2 (by rw [e2, range_bind])
  obtain ⟨rfl, hy⟩ := hy
  rw [hy] at q
  exact turn y _ Q' N (List.mem_of_getElem? hy) s1 q
theorem tupX {K : PySem.W.Frag} {H : Hp} {a : Addr} {xs : List V} (h : SqT K H a xs) : ∃ t, TyX K H (.ref a) t ∧ PySem.W.kitOne K t (.type "tuple") = some true := by
  rcases h with (h | ⟨o, h⟩) | ⟨o, its, n, h1, h2, _⟩
  · exact ⟨_, .base (.tup h), kit_ty (by decide +kernel)⟩
  · exact ⟨_, .fTuple h, kit_ty (by decide +kernel)⟩
  · exact ⟨_, .kTuple h1 h2, kit_ty (by decide +kernel)⟩
theorem mem_str {y : V} {xs : List Str} (h : y ∈ xs.map V.str) : ∃ x ∈ xs, y = .str x := by
  obtain ⟨x, hx, e⟩ := List.mem_map.mp h
  exact ⟨x, hx, e.symm⟩
theorem map_true {α : Type} (xs : List α) : (xs.filterMap fun _ => some (V.bl true)) = (List.replicate xs.length true).map V.bl := by
  induction xs with
  | nil => rfl
  | cons x xs ih => rw [List.filterMap_cons, ih]; rfl

abbrev spIsRow (K : PySem.W.Frag) : Sp := fun vs H Q _ => ∃ (a nm : Addr) (xs names : List Str), vs = [.ref a, .int xs.length, .ref nm] ∧ Tp K H a (xs.map V.str) ∧ Tp K H nm (names.map V.str) ∧ xs.length ≤ 100 ∧ (∀ x ∈ xs, x ∈ names) ∧ ∀ H', Same H H' → Q (.bl true) H'
abbrev s_is_row_of : Stmt := top 19
abbrev N_is_row_of : List Str := ["value", "size", "names", "part"]
abbrev P_is_row_of : List Str := ["value", "size", "names"]
theorem sc_is_row_of : FnScope N_is_row_of P_is_row_of (defScope s_is_row_of) := ⟨rfl, rfl, rfl, by decide +kernel, rfl, by decide +kernel, by decide +kernel⟩
theorem ok_is_row_of {b : Bs} (R : Raw b "is_row_of" "is_row_of" s_is_row_of P_is_row_of) (T : Tops b) : Df b 1 "is_row_of" P_is_row_of (spIsRow b.K) := by
  refine R.ok sc_is_row_of (fun vs H Q E h => ?_) fun f cdv A outer s H vs Q E hr h => ?_
  · obtain ⟨a, nm, xs, names, rfl, _⟩ := h
    rfl
  · obtain ⟨a, nm, xs, names, rfl, ta, tn, le, hin, k⟩ := h
    refine ⟨_, (pss_cons (ps_if (PW.pt (pw_or (pt_not (pt_val (pe_callB call_isi (by rfl) T.b_isinstance (by decide +kernel) (pa_cons (pv 0) (pa_cons (pe_bltn (v := .ty "tuple") (by rfl) T.b_tuple (by decide +kernel) rfl) pa_nil))))) (pw_or1 (pt_cmpR op_ne (pe_callB call_len_seq (by rfl) T.b_len (by decide +kernel) (pa_cons (pv 0) pa_nil)) (pv 1) (nomark _))))) (pss_one (ps_ret pe_bl)) pss_nil)
      (pss_one (ps_ret (pe_callB (cr_all rfl) (by rfl) T.b_all (by decide +kernel) (pa_cons (pe_lcB (own := [("part", 3)]) rfl sc_is_row_of.nd (pi_tup (pv 0)) (blkOk_by (own := [("part", 3)]) (N := N_is_row_of) (sc := defScope s_is_row_of) (by decide +kernel)) (fun _ _ _ _ _ => (pg_name (i := 3) sc_is_row_of.nd rfl (Or.inl rfl))) (fun _ _ _ _ _ => pts_nil) (fun _ _ _ _ _ => (pe_and (pe_callB call_isi (by rfl) T.b_isinstance (by decide +kernel) (pa_cons (pv 3) (pa_cons (pe_bltn (v := .ty "str") (by rfl) T.b_str (by decide +kernel) rfl) pa_nil))) (pe_one (pe_cmpR op_in_seq (pv 3) (pv 2) (by rfl)))))) pa_nil))))), ?_⟩
    obtain ⟨ty, tx, kt⟩ := tupX ta.sq
    refine ⟨_, rfl, _, _, _, _, true, rfl, .ty _, tx, kt, true, rfl, ?_⟩
    refine iteF ⟨_, rfl, a, _, rfl, .inr ta.sq, _, rfl, rfl, false, ?_, iteF ?_⟩
    · rw [List.length_map]
      simp
    refine ⟨_, rfl, a, rfl, ⟨_, ta.sq⟩, fun D hD => ?_⟩
    refine tup_pure ta hD (by rw [List.length_map, sizeLine_eq]; omega) (fun _ => some (.bl true)) (fun y H1 Q' N hy s1 q => ?_) fun H2 s2 e2 => ?_
    · obtain ⟨x, hx, rfl⟩ := mem_str hy
      refine ⟨rfl, _, rfl, _, _, _, _, true, rfl, .ty _, .base (.str _), kit_ty (b := "str") (r := true) (by decide +kernel), true, rfl, ?_⟩
      refine iteT ⟨_, rfl, _, rfl, nm, _, rfl, .inr (tn.mono (Same.tups s1)).sq, rfl, all_str _, ?_⟩
      show Q' (.bl (inV (.str x) (names.map V.str))) H1
      rw [in_str (hin x hx)]
      exact q _ (Same.refl _)
    · rw [map_true] at e2
      refine ⟨D, _, rfl, .inl (.inl e2), ?_⟩
      rw [all_rep]
      exact k _ s2

abbrev spAreNames (K : PySem.W.Frag) : Sp := fun vs H Q _ => ∃ (a : Addr) (names : List Str) (most : Int), vs = [.ref a, .int most] ∧ Tp K H a (names.map V.str) ∧ (names.length : Int) ≤ most ∧ names.length ≤ 100 ∧ (∀ x ∈ names, IsName x) ∧ names.Nodup ∧ ∀ H', Same H H' → Q (.bl true) H'
abbrev s_are_names : Stmt := top 18
abbrev N_are_names : List Str := ["value", "most", "name"]
abbrev P_are_names : List Str := ["value", "most"]
theorem sc_are_names : FnScope N_are_names P_are_names (defScope s_are_names) := ⟨rfl, rfl, rfl, by decide +kernel, rfl, by decide +kernel, by decide +kernel⟩
theorem ok_are_names {b : Bs} (R : Raw b "are_names" "are_names" s_are_names P_are_names) (T : Tops b) (D_is_name : Df b 1 "is_name" P_is_name spIsName) : Df b 2 "are_names" P_are_names (spAreNames b.K) := by
  refine R.ok sc_are_names (fun vs H Q E h => ?_) fun f cdv A outer s H vs Q E hr h => ?_
  · obtain ⟨a, names, most, rfl, _⟩ := h
    rfl
  · obtain ⟨a, names, most, rfl, ta, lm, le, hin, nd, k⟩ := h
    refine ⟨_, (pss_cons (ps_if (PW.pt (pw_or (pt_not (pt_val (pe_callB call_isi (by rfl) T.b_isinstance (by decide +kernel) (pa_cons (pv 0) (pa_cons (pe_bltn (v := .ty "tuple") (by rfl) T.b_tuple (by decide +kernel) rfl) pa_nil))))) (pw_or (pt_cmpR op_gt (pe_callB call_len_seq (by rfl) T.b_len (by decide +kernel) (pa_cons (pv 0) pa_nil)) (pv 1) (nomark _)) (pw_or1 (pt_not (pt_val (pe_callB (cr_all rfl) (by rfl) T.b_all (by decide +kernel) (pa_cons (pe_lcB (own := [("name", 2)]) rfl sc_are_names.nd (pi_tup (pv 0)) (blkOk_by (own := [("name", 2)]) (N := N_are_names) (sc := defScope s_are_names) (by decide +kernel)) (fun _ _ _ _ _ => (pg_name (i := 2) sc_are_names.nd rfl (Or.inl rfl))) (fun _ _ _ _ _ => pts_nil) (fun _ _ _ _ _ => (pe_df D_is_name (hr.mono (by decide)) (pa_cons (pv 2) pa_nil)))) pa_nil)))))))) (pss_one (ps_ret pe_bl)) pss_nil)
      (pss_one (ps_ret (pe_cmpR op_eq (pe_lenSet_ T.b_len T.b_set (pv 0) (hu := hu9 hr)) (pe_callB call_len_seq (by rfl) T.b_len (by decide +kernel) (pa_cons (pv 0) pa_nil)) (nomark _))))), ?_⟩
    obtain ⟨ty, tx, kt⟩ := tupX ta.sq
    refine ⟨_, rfl, _, _, _, _, true, rfl, .ty _, tx, kt, true, rfl, ?_⟩
    refine iteF ⟨_, rfl, a, _, rfl, .inr ta.sq, _, rfl, _, _, rfl, rfl, false, ?_, iteF ?_⟩
    · rw [List.length_map]
      exact congrArg V.bl (decide_eq_false (by omega))
    refine ⟨_, rfl, a, rfl, ⟨_, ta.sq⟩, fun D hD => ?_⟩
    refine tup_pure ta hD (by rw [List.length_map, sizeLine_eq]; omega) (fun _ => some (.bl true)) (fun y H1 Q' N hy s1 q => ?_) fun H2 s2 e2 => ?_
    · obtain ⟨x, hx, rfl⟩ := mem_str hy
      exact ⟨rfl, _, rfl, x, rfl, hin x hx, q⟩
    · rw [map_true] at e2
      refine ⟨D, _, rfl, .inl (.inl e2), ?_⟩
      rw [all_rep]
      have ta2 := ta.mono (Same.tups s2)
      refine ⟨true, rfl, iteF ⟨_, rfl, a, rfl, .inl ⟨names, ta2.sq, nd, le, _, rfl, a, _, rfl, .inr ta2.sq, rfl, ?_⟩⟩⟩
      rw [List.length_map]
      show Q (.bl (decide (V.int names.length = V.int names.length))) H2
      rw [decide_eq_true rfl]
      exact k _ s2

abbrev spAreAllowed (K : PySem.W.Frag) : Sp := fun vs H Q _ => ∃ (a nm : Addr) (names : List Str) (ps : List Addr) (es : List (Str × Str)), vs = [.ref nm, .ref a] ∧ Tp K H nm (names.map V.str) ∧ Tp K H a (ps.map V.ref) ∧ Paired (fun p (e : Str × Str) => Tp K H p (vP e)) ps es ∧ es.length ≤ 17 ∧ (∀ e ∈ es, e.1 ∈ names ∧ e.2 ∈ names) ∧ es.Nodup ∧ ∀ H', Same H H' → Q (.bl true) H'
theorem paired_mem {α β : Type} {F : α → β → Prop} {l : List α} {m : List β} (h : Paired F l m) {a : α} (ha : a ∈ l) : ∃ b ∈ m, F a b := by
  obtain ⟨i, hi⟩ := List.mem_iff_getElem?.mp ha
  obtain ⟨b, hb, f⟩ := paired_get h hi
  exact ⟨b, List.mem_of_getElem? hb, f⟩
abbrev s_are_allowed : Stmt := top 20
abbrev N_are_allowed : List Str := ["names", "value", "pair"]
abbrev P_are_allowed : List Str := ["names", "value"]
theorem sc_are_allowed : FnScope N_are_allowed P_are_allowed (defScope s_are_allowed) := ⟨rfl, rfl, rfl, by decide +kernel, rfl, by decide +kernel, by decide +kernel⟩
theorem ok_are_allowed {b : Bs} (R : Raw b "are_allowed" "are_allowed" s_are_allowed P_are_allowed) (T : Tops b) (D_is_row_of : Df b 1 "is_row_of" P_is_row_of (spIsRow b.K)) : Df b 2 "are_allowed" P_are_allowed (spAreAllowed b.K) := by
  refine R.ok sc_are_allowed (fun vs H Q E h => ?_) fun f cdv A outer s H vs Q E hr h => ?_
  · obtain ⟨a, nm, names, ps, es, rfl, _⟩ := h
    rfl
  · obtain ⟨a, nm, names, ps, es, rfl, tn, ta, te, le, hin, nd, k⟩ := h
    refine ⟨_, (pss_cons (ps_if (PW.pt (pw_or (pt_not (pt_val (pe_callB call_isi (by rfl) T.b_isinstance (by decide +kernel) (pa_cons (pv 1) (pa_cons (pe_bltn (v := .ty "tuple") (by rfl) T.b_tuple (by decide +kernel) rfl) pa_nil))))) (pw_or1 (pt_not (pt_val (pe_callB (cr_all rfl) (by rfl) T.b_all (by decide +kernel) (pa_cons (pe_lcB (own := [("pair", 2)]) rfl sc_are_allowed.nd (pi_tup (pv 1)) (blkOk_by (own := [("pair", 2)]) (N := N_are_allowed) (sc := defScope s_are_allowed) (by decide +kernel)) (fun _ _ _ _ _ => (pg_name (i := 2) sc_are_allowed.nd rfl (Or.inl rfl))) (fun _ _ _ _ _ => pts_nil) (fun _ _ _ _ _ => (pe_df D_is_row_of (hr.mono (by decide)) (pa_cons (pv 2) (pa_cons pe_int (pa_cons (pv 0) pa_nil)))))) pa_nil))))))) (pss_one (ps_ret pe_bl)) pss_nil)
      (pss_one (ps_ret (pe_cmpR op_eq (pe_lenSet_ T.b_len T.b_set (pv 1) (hu := hu9 hr)) (pe_callB call_len_seq (by rfl) T.b_len (by decide +kernel) (pa_cons (pv 1) pa_nil)) (nomark _))))), ?_⟩
    obtain ⟨ty, tx, kt⟩ := tupX ta.sq
    have lp := Paired.length te
    refine ⟨_, rfl, _, _, _, _, true, rfl, .ty _, tx, kt, true, rfl, ?_⟩
    refine iteF ⟨_, rfl, a, rfl, ⟨_, ta.sq⟩, fun D hD => ?_⟩
    refine tup_pure ta hD (by rw [List.length_map, sizeLine_eq]; omega) (fun _ => some (.bl true)) (fun y H1 Q' N hy s1 q => ?_) fun H2 s2 e2 => ?_
    · obtain ⟨p, hp, rfl⟩ := List.mem_map.mp hy
      obtain ⟨e, he, tp⟩ := paired_mem te hp
      obtain ⟨i1, i2⟩ := hin e he
      refine ⟨rfl, _, rfl, _, rfl, p, nm, [e.1, e.2], names, rfl, tp.mono (Same.tups s1), tn.mono (Same.tups s1), (by show 2 ≤ 100; omega), fun x hx => ?_, q⟩
      rcases List.mem_cons.mp hx with h | hx
      · rw [h]; exact i1
      · rw [List.mem_singleton.mp hx]; exact i2
    · rw [map_true] at e2
      refine ⟨D, _, rfl, .inl (.inl e2), ?_⟩
      rw [all_rep]
      have ta2 := ta.mono (Same.tups s2)
      refine ⟨true, rfl, iteF ⟨_, rfl, a, rfl, .inr ⟨ps, es, ta2.sq, L2.Paired.mapP te fun _ _ h => (h.mono (Same.tups s2)).sq, nd, le, _, rfl, a, _, rfl, .inr ta2.sq, rfl, ?_⟩⟩⟩
      rw [List.length_map, lp]
      show Q (.bl (decide (V.int es.length = V.int es.length))) H2
      rw [decide_eq_true rfl]
      exact k _ s2
end Lk
end
section
set_option maxRecDepth 100000
set_option maxHeartbeats 1000000
/-! Walks whatever their bodies; comprehensions whose elements are told by data. -/
namespace Lk
open PySem L2
section
variable {J : It} {n : Nat} {G : Hp → Prop} {Y : Nat → Hp → V → Hp → Prop}
theorem it_gen (w : Walk J n G Y) {Bd : (Hp → Prop) → V → Hp → Prop} {H0 : Hp} {Stop : Hp → Prop} (Pv : Nat → Hp → Prop) (h0 : Pv 0 H0) (hG : ∀ i H, i ≤ n → Pv i H → G H)
    (hs : ∀ i x H H', i < n → Pv i H → Y i H x H' → Bd (Pv (i + 1)) x H') (hd : ∀ H, Pv n H → Stop H) :
    ∃ W : Nat → Nat → Hp → Prop, (∃ m, W 0 m H0) ∧ ∀ i m H, W i m H → (J.stop i H ∧ Stop H) ∨ (J.go i H ∧ ∃ Nx : Hp → Prop, (∀ H', Nx H' → ∃ m', m' < m ∧ W (i + 1) m' H') ∧ ∀ x H', J.yld i H x H' → Bd Nx x H') := by
  refine ⟨fun i m H => m = n - i ∧ i ≤ n ∧ Pv i H, ⟨n, rfl, Nat.zero_le _, h0⟩, ?_⟩
  rintro i m H ⟨rfl, hi, p⟩
  rcases Nat.lt_or_ge i n with lt | ge
  · exact .inr ⟨w.goes i H lt (hG i H hi p), Pv (i + 1), fun H' p' => ⟨n - (i + 1), by omega, rfl, lt, p'⟩, fun x H' y => hs i x H H' lt p (w.yields i H x H' lt (hG i H hi p) y)⟩
  · obtain rfl : i = n := by omega
    exact .inl ⟨w.stops H (hG i H hi p), hd H p⟩
theorem paired_snoc {α β : Type} {F : α → β → Prop} {a : α} {b : β} (h : F a b) : ∀ {l : List α} {m : List β}, Paired F l m → Paired F (l ++ [a]) (m ++ [b])
  | _, _, .nil => .cons h .nil
  | _, _, .cons g t => .cons g (paired_snoc h t)
/-- the elements stand for data, in a state S that does not hang on the list at D -/
theorem lc_rel {α : Type} (w : Walk J n G Y) {g : TG} {tt : TT} {te : TE} {vs : List Nat} {σ : St} {H1 : Hp} {D : Addr} {Qd : Hp → Prop} (S : Hp → Prop) (F : Hp → V → α → Prop) (dat : Nat → Option α) (hn : n < sizeLine)
    (hF : ∀ H H' y d, Tups H H' → F H y d → F H' y d) (h0 : S (upd H1 D (.lst []))) (hD : ∀ H acc acc', S H → H D = some (.lst acc) → S (upd H D (.lst acc'))) (hG : ∀ H, S H → G H)
    (turn : ∀ i x H H' (Q : VK) (N : Hp → Prop), i < n → S H → (∃ acc, H D = some (.lst acc)) → Y i H x H' → (match dat i with
      | some d => ∀ y H4, S H4 → Tups H H4 → H4 D = H D → F H4 y d → Q y H4
      | none => ∀ H4, S H4 → Tups H H4 → H4 D = H D → N H4) → g x (wipe σ vs) H' fun σ2 H2 => wipe σ2 vs = wipe σ vs ∧ tt σ2 H2 fun b H3 => if b = true then te σ2 H3 Q else N H3)
    (done : ∀ H ys, S H → H D = some (.lst ys) → Paired (F H) ys ((List.range n).filterMap dat) → Qd H) :
    ∃ W : Nat → Nat → Hp → Prop, (∃ m, W 0 m (upd H1 D (.lst []))) ∧ ∀ i m H, W i m H →
      (J.stop i H ∧ Qd H) ∨ (J.go i H ∧ ∃ Nx : Hp → Prop, (∀ H', Nx H' → ∃ m', m' < m ∧ W (i + 1) m' H') ∧ ∀ x H', J.yld i H x H' → g x (wipe σ vs) H' fun σ2 H2 => wipe σ2 vs = wipe σ vs ∧ tt σ2 H2 fun b H3 =>
        if b = true then te σ2 H3 fun y H4 => ∃ acc, H4 D = some (.lst acc) ∧ acc.length < sizeLine ∧ Nx (upd H4 D (.lst (acc ++ [y]))) else Nx H3) := by
  have mono : ∀ {H H' : Hp} {ys : List V} {ds : List α}, Tups H H' → Paired (F H) ys ds → Paired (F H') ys ds := fun t p => L2.Paired.mapP p fun y d => hF _ _ y d t
  refine it_gen w (fun i H => S H ∧ ∃ ys, H D = some (.lst ys) ∧ Paired (F H) ys ((List.range i).filterMap dat)) ⟨h0, [], upd_same, .nil⟩ (fun i H _ p => hG H p.1) (fun i x H H' hi p hy => ?_) fun H p => ?_
  · obtain ⟨p1, ys, p2, p3⟩ := p
    refine turn i x H H' _ _ hi p1 ⟨ys, p2⟩ hy ?_
    have er : (List.range (i + 1)).filterMap dat = (List.range i).filterMap dat ++ (dat i).toList := by
      rw [List.range_succ, List.filterMap_append, List.filterMap_cons]
      cases dat i <;> rfl
    rw [er]
    cases hd : dat i with
    | some d =>
      intro y H4 s4 t4 e4 f4
      refine ⟨ys, e4.trans p2, ?_, hD H4 ys _ s4 (e4.trans p2), ys ++ [y], upd_same, ?_⟩
      · have l1 := Paired.length p3
        have l2 := List.length_filterMap_le dat (List.range i)
        rw [List.length_range] at l2
        omega
      · have t5 : Tups H4 (upd H4 D (.lst (ys ++ [y]))) := Tups.mut (e4.trans p2) fun xs z => by cases z
        exact paired_snoc (hF _ _ _ _ t5 f4) (mono (Tups.trans t4 t5) p3)
    | none =>
      intro H4 s4 t4 e4
      refine ⟨s4, ys, e4.trans p2, ?_⟩
      simpa using mono t4 p3
  · obtain ⟨p1, ys, p2, p3⟩ := p
    exact done H ys p1 p2 p3
theorem same_at {H1 H : Hp} {D : Addr} {o : HO} (h : H1 D = none) (s : Same H1 H) : Same H1 (upd H D o) := fun b u e => by rw [upd_ne (ne_of_none e h)]; exact s b u e
theorem same_new' {H : Hp} {a : Addr} {o : HO} (h : H a = none) : Same H (upd H a o) := fun b u e => by rw [upd_ne (ne_of_none e h)]; exact e
end
end Lk
end
section
set_option maxRecDepth 100000
set_option maxHeartbeats 1000000
/-! are_joins. -/
namespace Lk
open PySem L2
open En (pi_enumT walk_enT)

/-- the pairs that are due at place i -/
def dueAt (names : List Str) (i : Nat) : List (Str × Str) := match names[i]? with
  | some x => (names.drop (i + 1)).map (Prod.mk x)
  | none => []
def dueN (names : List Str) : List (Str × Str) := (List.range names.length).flatMap (dueAt names)
theorem cut_from {xs : List V} {i : Nat} (h0 : 0 < i) (h : i ≤ xs.length) : ¬ (HT.sIx xs.length 0 (some (i : Int)) = 0 ∧ HT.sIx xs.length xs.length none = xs.length) ∧ cutV xs (some (i : Int)) none = xs.drop i := by
  have e1 : HT.sIx xs.length 0 (some (i : Int)) = i := by
    rw [HT.sIx_nat]
    omega
  have e2 : HT.sIx xs.length xs.length none = xs.length := rfl
  refine ⟨fun z => by rw [e1] at z; omega, ?_⟩
  unfold cutV
  rw [e1, e2, List.take_of_length_le]
  rw [List.length_drop]
  exact Nat.le_refl _
theorem cut_two {x y z : V} : ¬ (HT.sIx [x, y, z].length 0 none = 0 ∧ HT.sIx [x, y, z].length [x, y, z].length (some 2) = [x, y, z].length) ∧ cutV [x, y, z] none (some 2) = [x, y] := by
  have e1 : HT.sIx [x, y, z].length 0 none = 0 := rfl
  have e2 : HT.sIx [x, y, z].length [x, y, z].length (some 2) = 2 := rfl
  refine ⟨fun z => by rw [e2] at z; exact absurd z.2 (by simp), ?_⟩
  unfold cutV
  rw [e1, e2]
  rfl
theorem range_map {α β : Type} (g : α → β) : ∀ xs : List α, (List.range xs.length).filterMap (fun i => xs[i]?.map g) = xs.map g
  | [] => rfl
  | x :: xs => by
    have ih := range_map g xs
    rw [List.length_cons, List.range_succ_eq_map, List.filterMap_cons, List.filterMap_map, List.map_cons, ← ih]
    rfl
theorem cut_next {xs : List V} {i : Nat} (h : i < xs.length) : ¬ (HT.sIx xs.length 0 (some ((i : Int) + 1)) = 0 ∧ HT.sIx xs.length xs.length none = xs.length) ∧ cutV xs (some ((i : Int) + 1)) none = xs.drop (i + 1) := by
  have e : ((i : Int) + 1) = ((i + 1 : Nat) : Int) := by omega
  rw [e]
  exact cut_from (Nat.succ_pos i) h
theorem due_pre (names : List Str) : ∀ i : Nat, ((List.range i).flatMap (dueAt names)).length ≤ i * names.length
  | 0 => Nat.zero_le _
  | i + 1 => by
    rw [List.range_succ, List.flatMap_append, List.length_append, List.flatMap_cons, List.flatMap_nil, List.append_nil]
    have h1 := due_pre names i
    have h2 : (dueAt names i).length ≤ names.length := by
      unfold dueAt
      cases names[i]? with
      | none => exact Nat.zero_le _
      | some x => rw [List.length_map, List.length_drop]; omega
    rw [Nat.succ_mul]
    omega
theorem due_len (x : Str) (names : List Str) (i j : Nat) (h : i < names.length) : ((List.range i).flatMap (dueAt names) ++ ((names.drop (i + 1)).take j).map (Prod.mk x)).length ≤ names.length * names.length + names.length := by
  rw [List.length_append, List.length_map, List.length_take, List.length_drop]
  have h1 := due_pre names i
  have h2 : i * names.length ≤ names.length * names.length := Nat.mul_le_mul_right _ (Nat.le_of_lt h)
  omega
theorem mem_PT {K : PySem.W.Frag} {H H' : Hp} {bs zs : List PT} (g : ∀ z ∈ bs, Tp K H z.1 [.str z.2.1, .str z.2.2]) (t : Tups H H') (h : ∀ z ∈ zs, z ∈ bs) : DpAll K H' (zs.map fun z => V.ref z.1) ((zs.map (·.2)).map dP) := by
  induction zs with
  | nil => exact .nil
  | cons z zs ih => exact .cons (dp_P (e := z.2) ((g z (h z (.head _))).mono t).sq) (ih fun y hy => h y (.tail _ hy))
abbrev FP (K : PySem.W.Frag) (H : Hp) (y : V) (e : Str × Str) : Prop := ∃ p, y = .ref p ∧ Tp K H p [.str e.1, .str e.2]
theorem FP.mono {K : PySem.W.Frag} {H H' : Hp} {y : V} {e : Str × Str} (t : Tups H H') : FP K H y e → FP K H' y e := fun ⟨p, e, h⟩ => ⟨p, e, h.mono t⟩
theorem PTs {K : PySem.W.Frag} {H : Hp} : ∀ {ys : List V} {es : List (Str × Str)}, Paired (FP K H) ys es → ∃ bs : List PT, ys = bs.map (fun z => V.ref z.1) ∧ bs.map (·.2) = es ∧ ∀ z ∈ bs, Tp K H z.1 [.str z.2.1, .str z.2.2]
  | _, _, .nil => ⟨[], rfl, rfl, fun _ h => nomatch h⟩
  | _, _, .cons (b := e) ⟨p, h1, h2⟩ t => by
    obtain ⟨bs, h3, h4, h5⟩ := PTs t
    refine ⟨(p, e) :: bs, by rw [List.map_cons, ← h3, h1], by rw [List.map_cons, h4], fun z hz => ?_⟩
    rcases List.mem_cons.mp hz with hz | hz
    · rw [hz]; exact h2
    · exact h5 z hz

abbrev spAreJoins (K : PySem.W.Frag) : Sp := fun vs H Q _ => ∃ (j nm : Addr) (names : List Str) (js : List Addr) (rows : List (Str × Str × Str)), vs = [.ref nm, .ref j] ∧ Tp K H nm (names.map V.str) ∧ Tp K H j (js.map V.ref) ∧ Paired (fun p (e : Str × Str × Str) => Tp K H p (vJ e)) js rows ∧
  rows.length ≤ 100 ∧ names.length ≤ 10 ∧ (∀ e ∈ rows, e.1 ∈ names ∧ e.2.1 ∈ names ∧ e.2.2 ∈ names) ∧ (∀ x ∈ names, IsName x) ∧ rows.map (fun r => (r.1, r.2.1)) = dueN names ∧ ∀ H', Same H H' → Q (.bl true) H'
abbrev s_are_joins : Stmt := top 21
abbrev N_are_joins : List Str := ["names", "value", "pairs", "due", "row", "other", "place", "one"]
abbrev P_are_joins : List Str := ["names", "value"]
theorem sc_are_joins : FnScope N_are_joins P_are_joins (defScope s_are_joins) := ⟨rfl, rfl, rfl, by decide +kernel, rfl, by decide +kernel, by decide +kernel⟩
theorem ok_are_joins {b : Bs} (R : Raw b "are_joins" "are_joins" s_are_joins P_are_joins) (T : Tops b) (D_is_row_of : Df b 1 "is_row_of" P_is_row_of (spIsRow b.K)) : Df b 2 "are_joins" P_are_joins (spAreJoins b.K) := by
  refine R.ok sc_are_joins (fun vs H Q E h => ?_) fun f cdv A outer s H vs Q E hr h => ?_
  · obtain ⟨j, nm, names, js, rows, rfl, _⟩ := h
    rfl
  · obtain ⟨j, nm, names, js, rows, rfl, tn, tj, te, le, ln, hin, nam, due, k⟩ := h
    refine ⟨_, (pss_cons (ps_if (PW.pt (pw_or (pt_not (pt_val (pe_callB call_isi (by rfl) T.b_isinstance (by decide +kernel) (pa_cons (pv 1) (pa_cons (pe_bltn (v := .ty "tuple") (by rfl) T.b_tuple (by decide +kernel) rfl) pa_nil))))) (pw_or1 (pt_not (pt_val (pe_callB (cr_all rfl) (by rfl) T.b_all (by decide +kernel) (pa_cons (pe_lcB (own := [("row", 4)]) rfl sc_are_joins.nd (pi_tup (pv 1)) (blkOk_by (own := [("row", 4)]) (N := N_are_joins) (sc := defScope s_are_joins) (by decide +kernel)) (fun _ _ _ _ _ => (pg_name (i := 4) sc_are_joins.nd rfl (Or.inl rfl))) (fun _ _ _ _ _ => pts_nil) (fun _ _ _ _ _ => (pe_df D_is_row_of (hr.mono (by decide)) (pa_cons (pv 4) (pa_cons pe_int (pa_cons (pv 0) pa_nil)))))) pa_nil))))))) (pss_one (ps_ret pe_bl)) pss_nil)
      (pss_cons (ps_setLcB (i := 2) (own := [("row", 4)]) rfl sc_are_joins.nd rfl rfl (sw_true rfl rfl rfl (by decide +kernel)) (pi_tup (pv 1)) (blkOk_by (own := [("row", 4)]) (N := N_are_joins) (sc := defScope s_are_joins) (by decide +kernel)) (fun _ _ _ _ _ => (pg_name (i := 4) sc_are_joins.nd rfl (Or.inl rfl))) (fun _ _ _ _ _ => pts_nil) (fun _ _ _ _ _ => (pe_slice sl_tup (pv 4) po_none (po_some pe_int))))
      (pss_cons (ps_setLc2B (i := 3) (own := [("place", 6), ("one", 7), ("other", 5)]) (vs1 := [5]) rfl sc_are_joins.nd rfl rfl (sw_true rfl rfl rfl (by decide +kernel)) (pi_enumT rfl T.b_enumerate (pa_cons (pv 0) pa_nil)) (blkOk_by (own := [("place", 6), ("one", 7), ("other", 5)]) (N := N_are_joins) (sc := defScope s_are_joins) (by decide +kernel)) (by decide) (fun _ _ _ _ _ => (pg_tup rfl (pgs_cons (pg_name (i := 6) sc_are_joins.nd rfl (Or.inl rfl)) (pgs_cons (pg_name (i := 7) sc_are_joins.nd rfl (Or.inl rfl)) pgs_nil)))) (fun _ _ _ _ _ => pts_nil) (fun _ _ _ _ _ => (pi_tup (pe_slice sl_tup (pv 0) (po_some (pe_op op_add (pv 6) pe_int)) po_none))) (fun _ _ _ _ _ => (pg_name (i := 5) sc_are_joins.nd rfl (Or.inl rfl))) (fun _ _ _ _ _ => pts_nil) (fun _ _ _ _ _ => (pe_tup (pa_cons (pv 7) (pa_cons (pv 5) pa_nil)))))
      (pss_one (ps_ret (pe_cmpR (op_eqD hr.units) (pe_callB (cr_sortedSS rfl hr.units) (by rfl) T.b_sorted (by decide +kernel) (pa_cons (pv 2) pa_nil)) (pe_callB (cr_sortedSS rfl hr.units) (by rfl) T.b_sorted (by decide +kernel) (pa_cons (pv 3) pa_nil)) (nomark _))))))), ?_⟩
    obtain ⟨ty, tx, kt⟩ := tupX tj.sq
    have lp := Paired.length te
    refine ⟨_, rfl, _, _, _, _, true, rfl, .ty _, tx, kt, true, rfl, ?_⟩
    refine iteF ⟨_, rfl, j, rfl, ⟨_, tj.sq⟩, fun D hD => ?_⟩
    refine tup_pure tj hD (by rw [List.length_map, sizeLine_eq]; omega) (fun _ => some (.bl true)) (fun y H1 Q' N hy s1 q => ?_) fun H2 s2 e2 => ?_
    · obtain ⟨p, hp, rfl⟩ := List.mem_map.mp hy
      obtain ⟨e, he, tp⟩ := paired_mem te hp
      obtain ⟨i1, i2, i3⟩ := hin e he
      refine ⟨rfl, _, rfl, _, rfl, p, nm, [e.1, e.2.1, e.2.2], names, rfl, tp.mono (Same.tups s1), tn.mono (Same.tups s1), (by show 3 ≤ 100; omega), fun x hx => ?_, q⟩
      rcases List.mem_cons.mp hx with h | hx
      · rw [h]; exact i1
      · rcases List.mem_cons.mp hx with h | hx
        · rw [h]; exact i2
        · rw [List.mem_singleton.mp hx]; exact i3
    · rw [map_true] at e2
      refine ⟨D, _, rfl, .inl (.inl e2), ?_⟩
      rw [all_rep]
      have tj2 := tj.mono (Same.tups s2)
      refine ⟨true, rfl, iteF ⟨_, rfl, j, rfl, ⟨_, tj2.sq⟩, fun D2 hD2 => ?_⟩⟩
      refine lc_rel (walk_tup (xs := js.map V.ref)) (Same H2) (FP b.K) (fun i => (rows[i]?).map fun r => (r.1, r.2.1)) (by rw [List.length_map, sizeLine_eq]; omega) (fun _ _ _ _ t f => f.mono t) (same_new' hD2) (fun H acc acc' s e => same_at hD2 s) (fun H s => (tj2.mono (Same.tups s)).sq) (fun i y H3 H4 Q' N hi s3 _ hy q => ?_) fun H3 ys s3 e3 pa => ?_
      · obtain ⟨rfl, hy⟩ := hy
        rw [List.getElem?_map] at hy
        cases hp : js[i]? with
        | none => rw [hp] at hy; cases hy
        | some p =>
        rw [hp] at hy
        cases hy
        obtain ⟨r, hr2, tp⟩ := paired_at te hp
        rw [hr2] at q
        have tp3 := tp.mono (Same.tups (Same.trans s2 s3))
        refine ⟨rfl, _, rfl, 2, rfl, p, _, rfl, tp3.sq, cut_two.1, fun t ht => ?_⟩
        obtain ⟨acc, ha⟩ := ‹∃ acc, _›
        exact q _ _ (Same.trans s3 (same_new' ht)) (Tups.new ht) (upd_ne (ne_of_none ha ht)) ⟨t, rfl, .inl (by rw [upd_same]; exact congrArg (fun z => some (HO.tup z)) cut_two.2)⟩
      · rw [List.length_map, lp, range_map] at pa
        have s03 := Same.trans s2 s3
        have tn3 := tn.mono (Same.tups s03)
        refine ⟨_, rfl, nm, _, rfl, tn3.sq, fun D3 hD3 => ?_⟩
        refine it_gen (walk_enT (xs := names.map V.str)) (fun i H => Same H3 H ∧ ∃ ys, H D3 = some (.lst ys) ∧ Paired (FP b.K H) ys ((List.range i).flatMap (dueAt names))) ⟨same_new' hD3, [], upd_same, .nil⟩ (fun i H _ p => (tn3.mono (Same.tups p.1)).sq) (fun i y H4 H5 hi p hy => ?_) fun H4 p => ?_
        · obtain ⟨s4, ys, e4, p4⟩ := p
          obtain ⟨T, x0, x1, rfl, hT, rfl, h0, h1⟩ := hy
          cases h0
          have h1 : (names.map V.str)[i]? = some x1 := h1
          rw [List.getElem?_map] at h1
          cases hx : names[i]? with
          | none => rw [hx] at h1; cases h1
          | some x =>
          rw [hx] at h1
          cases h1
          have li := (List.getElem?_eq_some_iff.mp hx).1
          have s5 := Same.trans s4 (same_new' (o := .tup [.int (i : Nat), .str x]) hT)
          have tn5 := tn3.mono (Same.tups s5)
          have cut := cut_next (xs := names.map V.str) (i := i) (by rw [List.length_map]; exact li)
          refine ⟨T, _, rfl, .inl (.inl upd_same), rfl, _, _, rfl, _, _, rfl, rfl, rfl, _, rfl, _, rfl, _, _, rfl, rfl, _, rfl, nm, _, rfl, tn5.sq, cut.1, fun p2 hp2 => ⟨p2, rfl, ⟨_, .inl (.inl upd_same)⟩, ?_⟩⟩
          rw [cut.2, ← List.map_drop]
          have s6 := Same.trans s5 (same_new' (o := .tup ((names.drop (i + 1)).map V.str)) hp2)
          have e6 : (upd (upd H4 T (.tup [.int (i : Nat), .str x])) p2 (.tup ((names.drop (i + 1)).map V.str))) D3 = some (.lst ys) := by
            rw [upd_ne (ne_of_none (by rw [upd_ne (ne_of_none e4 hT)]; exact e4) hp2), upd_ne (ne_of_none e4 hT), e4]
          have t6 : Tups H4 (upd (upd H4 T (.tup [.int (i : Nat), .str x])) p2 (.tup ((names.drop (i + 1)).map V.str))) := Tups.trans (Tups.new hT) (Tups.new hp2)
          refine it_gen (walk_tup (xs := (names.drop (i + 1)).map V.str)) (fun j H => Same H3 H ∧ H p2 = some (.tup ((names.drop (i + 1)).map V.str)) ∧ ∃ ys, H D3 = some (.lst ys) ∧ Paired (FP b.K H) ys ((List.range i).flatMap (dueAt names) ++ ((names.drop (i + 1)).take j).map (Prod.mk x)))
            ⟨s6, upd_same, ys, e6, ?_⟩ (fun j H _ p => .inl (.inl p.2.1)) (fun j y H6 H7 hj p hy => ?_) fun H6 p => ?_
          · rw [List.take_zero, List.map_nil, List.append_nil]
            exact L2.Paired.mapP p4 fun _ _ h => h.mono t6
          · obtain ⟨q1, q2, ys1, q3, q4⟩ := p
            obtain ⟨rfl, hy⟩ := hy
            rw [List.getElem?_map] at hy
            cases hz : (names.drop (i + 1))[j]? with
            | none => rw [hz] at hy; cases hy
            | some z =>
            rw [hz] at hy
            cases hy
            refine ⟨rfl, _, rfl, _, rfl, two_le, fun t ht => ⟨ys1, by rw [upd_ne (ne_of_none q3 ht)]; exact q3, ?_, ?_, ?_, ys1 ++ [.ref t], upd_same, ?_⟩⟩
            · have l1 := Paired.length q4
              have l2 := due_len x names i j li
              have l3 : names.length * names.length ≤ 10 * 10 := Nat.mul_le_mul ln ln
              rw [sizeLine_eq]
              omega
            · exact same_at hD3 (Same.trans q1 (same_new' ht))
            · rw [upd_ne (fun e => by rw [e, q3] at q2; cases q2), upd_ne (ne_of_none q2 ht)]
              exact q2
            · have t7 : Tups H7 (upd (upd H7 t (.tup [.str x, .str z])) D3 (.lst (ys1 ++ [.ref t]))) := Tups.trans (Tups.new ht) (Tups.mut (by rw [upd_ne (ne_of_none q3 ht)]; exact q3) fun xs e => by cases e)
              rw [List.take_succ, hz, List.map_append, ← List.append_assoc]
              refine paired_snoc ⟨t, rfl, .inl ?_⟩ (L2.Paired.mapP q4 fun _ _ h => h.mono t7)
              rw [upd_ne (ne_of_none q3 ht).symm, upd_same]
          · obtain ⟨q1, _, ys1, q3, q4⟩ := p
            refine ⟨q1, ys1, q3, ?_⟩
            rw [List.length_map, List.take_length] at q4
            rw [List.range_succ, List.flatMap_append, List.flatMap_cons, List.flatMap_nil, List.append_nil]
            have e : dueAt names i = (names.drop (i + 1)).map (Prod.mk x) := by unfold dueAt; rw [hx]
            rw [e]
            exact q4
        · obtain ⟨q1, ys3, q3, q4⟩ := p
          rw [List.length_map] at q4
          have q4 : Paired (FP b.K H4) ys3 (dueN names) := q4
          rw [due] at pa
          obtain ⟨bs1, rfl, d1, t1⟩ := PTs pa
          obtain ⟨bs2, rfl, d2, t2⟩ := PTs q4
          have ld : (dueN names).length ≤ 100 := by rw [← due, List.length_map]; exact le
          have l1 : bs1.length ≤ 1000 := by
            have := congrArg List.length d1
            rw [List.length_map] at this
            omega
          have l2 : bs2.length ≤ 1000 := by
            have := congrArg List.length d2
            rw [List.length_map] at this
            omega
          refine ⟨_, rfl, D2, bs1, rfl, .inl (.inl (q1 _ _ e3)), fun z hz => ((t1 z hz).mono (Same.tups q1)).sq, l1, fun zs p1 hz1 hm1 hp1 => ?_⟩
          have s5 := same_new' (o := .lst (zs.map fun z => V.ref z.1)) hp1
          refine ⟨_, rfl, D3, bs2, rfl, .inl (.inl (s5 _ _ q3)), fun z hz => ((t2 z hz).mono (Same.tups s5)).sq, l2, fun ws p2 hz2 hm2 hp2 => ?_⟩
          have s6 := same_new' (o := .lst (ws.map fun z => V.ref z.1)) hp2
          rw [d1] at hz1
          rw [d2] at hz2
          have x1 := mem_PT t1 (Same.tups (Same.trans q1 (Same.trans s5 s6))) hm1
          have x2 := mem_PT t2 (Same.tups (Same.trans s5 s6)) hm2
          rw [hz2, ← hz1] at x2
          have sh : Sh 2 (.list ((zs.map (·.2)).map dP)) := Sh.lst (sh_Ps fun e he => by
            rw [hz1] at he
            have he : e ∈ dueN names := List.mem_mergeSort.mp he
            rw [← due] at he
            obtain ⟨r, hr, rfl⟩ := List.mem_map.mp he
            obtain ⟨i1, i2, _⟩ := hin r hr
            exact ⟨okS_name (nam _ i1), okS_name (nam _ i2)⟩)
          refine ⟨_, _, .lst (.inl (.inl (s6 _ _ upd_same))) x1, .lst (.inl (.inl upd_same)) x2, sh.ok (by decide), sh.ok (by decide), ?_⟩
          rw [PySem.SeqAt.eqv_refl _ sh.1]
          exact k _ (Same.trans s03 (Same.trans q1 (Same.trans s5 s6)))
end Lk
end
section
set_option maxRecDepth 100000
set_option maxHeartbeats 1000000
/-! all_joins, is_exact. -/
namespace Lk
open PySem L2
open Mx (fresh_dT pe_mayLock ps_mayLock dc_it)

abbrev kP (x y : Str) : List L2.Key := [.inr x, .inr y]
def aj0 (l : List Str) : List (List L2.Key × V) := l.foldl (fun kvs n => putK kvs (kP n n) (.str n)) []
def ajR (k0 : List (List L2.Key × V)) (l : List (Str × Str × Str)) : List (List L2.Key × V) := l.foldl (fun kvs r => putK (putK kvs (kP r.1 r.2.1) (.str r.2.2)) (kP r.2.1 r.1) (.str r.2.2)) k0
def MDat.aj (d : MDat) : List (List L2.Key × V) := ajR (aj0 d.names) d.joins
theorem put_len {κ : Type} [DecidableEq κ] (kvs : List (κ × V)) (k : κ) (v : V) : (putK kvs k v).length ≤ kvs.length + 1 := by
  unfold putK
  split
  · rw [List.length_map]; exact Nat.le_succ _
  · simp
theorem aj0_len (l : List Str) : (aj0 l).length ≤ l.length := by
  have key : ∀ (l : List Str) (k0 : List (List L2.Key × V)), (l.foldl (fun kvs n => putK kvs (kP n n) (.str n)) k0).length ≤ k0.length + l.length := by
    intro l
    induction l with
    | nil => intro k0; exact Nat.le_refl _
    | cons x l ih =>
      intro k0
      have := ih (putK k0 (kP x x) (.str x))
      have := put_len k0 (kP x x) (.str x)
      rw [List.foldl_cons, List.length_cons]
      omega
  have := key l []
  rw [List.length_nil, Nat.zero_add] at this
  exact this
theorem ajR_len (l : List (Str × Str × Str)) : ∀ k0, (ajR k0 l).length ≤ k0.length + 2 * l.length := by
  unfold ajR
  induction l with
  | nil => intro k0; exact Nat.le_refl _
  | cons r l ih =>
    intro k0
    have h1 := ih (putK (putK k0 (kP r.1 r.2.1) (.str r.2.2)) (kP r.2.1 r.1) (.str r.2.2))
    have h2 := put_len (putK k0 (kP r.1 r.2.1) (.str r.2.2)) (kP r.2.1 r.1) (.str r.2.2)
    have h3 := put_len k0 (kP r.1 r.2.1) (.str r.2.2)
    rw [List.foldl_cons, List.length_cons]
    omega
theorem aj0_next {l : List Str} {i : Nat} {x : Str} (h : l[i]? = some x) : aj0 (l.take (i + 1)) = putK (aj0 (l.take i)) (kP x x) (.str x) := by
  unfold aj0
  rw [List.take_succ, h, List.foldl_append]
  rfl
theorem ajR_next {k0 : List (List L2.Key × V)} {l : List (Str × Str × Str)} {i : Nat} {r : Str × Str × Str} (h : l[i]? = some r) : ajR k0 (l.take (i + 1)) = putK (putK (ajR k0 (l.take i)) (kP r.1 r.2.1) (.str r.2.2)) (kP r.2.1 r.1) (.str r.2.2) := by
  unfold ajR
  rw [List.take_succ, h, List.foldl_append]
  rfl

abbrev spAllJoins (K : PySem.W.Frag) : Sp := fun vs H Q _ => ∃ (mo : Addr) (d : MDat), vs = [.ref mo] ∧ Modes K H mo d ∧ ∀ H' D, Same H H' → H D = none → H' D = some (.dT d.aj) → Q (.ref D) H'
abbrev s_all_joins : Stmt := top 24
abbrev N_all_joins : List Str := ["modes", "found", "one", "other", "both"]
abbrev P_all_joins : List Str := ["modes"]
theorem sc_all_joins : FnScope N_all_joins P_all_joins (defScope s_all_joins) := ⟨rfl, rfl, rfl, by decide +kernel, rfl, by decide +kernel, by decide +kernel⟩
theorem ok_all_joins {b : Bs} (R : Raw b "all_joins" "all_joins" s_all_joins P_all_joins) (T : Tops b) : Df b 1 "all_joins" P_all_joins (spAllJoins b.K) := by
  refine R.ok sc_all_joins (fun vs H Q E h => ?_) fun f cdv A outer s H vs Q E hr h => ?_
  · obtain ⟨mo, d, rfl, _⟩ := h
    rfl
  · obtain ⟨mo, d, rfl, ⟨n, a, j, ps, js, M⟩, k⟩ := h
    let kof : V → NestedKey := fun _ => .none
    refine ⟨_, (pss_cons (ps_setDcB (i := 1) (kof := kof) (own := [("one", 2)]) (hu8 hr) fresh_dT rfl sc_all_joins.nd rfl rfl (Mx.sw_dict rfl rfl rfl (by decide +kernel)) (pi_tup (pe_ix ix_tup (pv 0) pe_int (fun _ _ => rfl))) (blkOk_by (own := [("one", 2)]) (N := N_all_joins) (sc := defScope s_all_joins) (by decide +kernel)) (fun _ _ _ _ _ => (pg_name (i := 2) sc_all_joins.nd rfl (Or.inl rfl))) (fun _ _ _ _ _ => pts_nil) (fun _ _ _ _ _ => (pe_tup (pa_cons (pv 2) (pa_cons (pv 2) pa_nil)))) (fun _ _ _ _ _ => (pv 2)))
      (pss_cons (ps_for PassesOwn.never rfl (pi_tup (pe_ix ix_tup (pv 0) pe_int (fun _ _ => rfl))) (pg_tup rfl (pgs_cons (pg_name (i := 2) sc_all_joins.nd rfl (Or.inl rfl)) (pgs_cons (pg_name (i := 3) sc_all_joins.nd rfl (Or.inl rfl)) (pgs_cons (pg_name (i := 4) sc_all_joins.nd rfl (Or.inl rfl)) pgs_nil))))
      (pss_cons (ps_dput (hu_of hr) (pv 1) (pe_tup (pa_cons (pv 2) (pa_cons (pv 3) pa_nil))) (pv 4) rfl)
      (pss_one (ps_dput (hu_of hr) (pv 1) (pe_tup (pa_cons (pv 3) (pa_cons (pv 2) pa_nil))) (pv 4) rfl))))
      (pss_one (ps_ret (pv 1))))), ?_⟩
    refine ⟨_, rfl, mo, _, 0, _, rfl, rfl, M.top.sq, rfl, n, rfl, ⟨_, M.nam.sq⟩, fun D hD => ?_⟩
    have le1 := M.few.1
    have le3 := M.few.2.2
    refine dc_it (mk := fun _ => .dT []) (walk_tup (xs := d.names.map V.str)) (fun i H1 => Same H H1 ∧ H1 D = some (.dT (aj0 (d.names.take i)))) ⟨same_new' hD, upd_same⟩ (fun i H _ p => (M.nam.mono (Same.tups p.1)).sq) (fun i y H1 H2 hi p hy => ?_) fun H1 p => ?_
    · obtain ⟨s1, e1⟩ := p
      obtain ⟨rfl, hy⟩ := hy
      rw [List.getElem?_map] at hy
      cases hx : d.names[i]? with
      | none => rw [hx] at hy; cases hy
      | some x =>
      rw [hx] at hy
      cases hy
      have li := (List.getElem?_eq_some_iff.mp hx).1
      refine ⟨rfl, _, rfl, _, rfl, two_le, fun t ht => ⟨_, rfl, _, .inl (.inr ⟨aj0 (d.names.take i), kP x x, t, ?_, rfl, upd_same, ?_, rfl⟩), ?_, ?_⟩⟩
      · rw [upd_ne (ne_of_none e1 ht)]; exact e1
      · have := aj0_len (d.names.take i)
        rw [List.length_take] at this
        rw [sizeLine_eq]
        omega
      · exact same_at hD (Same.trans s1 (same_new' ht))
      · rw [upd_same, aj0_next hx]
    · obtain ⟨s1, e1⟩ := p
      rw [List.length_map, List.take_length] at e1
      have lp := Paired.length M.eachJ
      have m1 : ModesAt b.K H1 mo d n a j ps js := M.same s1
      refine ⟨_, rfl, mo, _, 2, _, rfl, rfl, m1.top.sq, rfl, j, rfl, ⟨_, m1.jns.sq⟩, ?_⟩
      refine for_it (walk_tup (xs := js.map V.ref)) (fun i σ H2 => (∃ x y z, σ = [some (.ref mo), some (.ref D), x, y, z]) ∧ Same H H2 ∧ H2 D = some (.dT (ajR (aj0 d.names) (d.joins.take i)))) ⟨⟨_, _, _, rfl⟩, s1, e1⟩
        (fun i σ H2 _ p => (M.jns.mono (Same.tups p.2.1)).sq) (fun i y σ H2 H3 hi p hy => ?_) fun σ H2 p => ?_
      · obtain ⟨⟨x1, x2, x3, rfl⟩, s2, e2⟩ := p
        obtain ⟨rfl, hy⟩ := hy
        rw [List.getElem?_map] at hy
        cases hp : js[i]? with
        | none => rw [hp] at hy; cases hy
        | some p =>
        rw [hp] at hy
        cases hy
        obtain ⟨r, hr2, tp⟩ := paired_at M.eachJ hp
        have tp2 := tp.mono (Same.tups s2)
        have li := (List.getElem?_eq_some_iff.mp hr2).1
        have l1 := ajR_len (d.joins.take i) (aj0 d.names)
        have l2 := aj0_len d.names
        rw [List.length_take] at l1
        refine ⟨p, _, rfl, tp2.sq, rfl, _, _, rfl, _, _, rfl, _, _, rfl, rfl, _, rfl, _, rfl, _, rfl, _, rfl, two_le, fun t ht => ⟨D, _, rfl, .inr ⟨ajR (aj0 d.names) (d.joins.take i), kP r.1 r.2.1, t, ?_, rfl, upd_same, ?_, rfl⟩, ?_⟩⟩
        · rw [upd_ne (ne_of_none e2 ht)]; exact e2
        · rw [sizeLine_eq]; omega
        have s3 : Same H (upd (upd H3 t (.tup [.str r.1, .str r.2.1])) D (.dT (putK (ajR (aj0 d.names) (d.joins.take i)) (kP r.1 r.2.1) (.str r.2.2)))) := same_at hD (Same.trans s2 (same_new' ht))
        refine ⟨_, rfl, _, rfl, _, rfl, _, rfl, two_le, fun t2 ht2 => ⟨D, _, rfl, .inr ⟨putK (ajR (aj0 d.names) (d.joins.take i)) (kP r.1 r.2.1) (.str r.2.2), kP r.2.1 r.1, t2, ?_, rfl, upd_same, ?_, rfl⟩, ?_⟩⟩
        · rw [upd_ne (ne_of_none upd_same ht2), upd_same]
        · have := put_len (ajR (aj0 d.names) (d.joins.take i)) (kP r.1 r.2.1) (.str r.2.2)
          rw [sizeLine_eq]; omega
        refine ⟨⟨_, _, _, rfl⟩, same_at hD (Same.trans s3 (same_new' ht2)), ?_⟩
        rw [upd_same, ajR_next hr2]
      · obtain ⟨⟨x1, x2, x3, rfl⟩, s2, e2⟩ := p
        rw [List.length_map, lp, List.take_length] at e2
        exact ⟨_, rfl, k H2 D s2 hD e2⟩
end Lk
end
section
set_option maxRecDepth 100000
set_option maxHeartbeats 1000000
/-! is_exact. -/
namespace Lk
open PySem L2
open Mx (fresh_dT pe_mayLock ps_mayLock dc_it)

def aAl (l : List (Str × Str)) : List (List L2.Key × V) := l.foldl (fun kvs e => putK kvs (kP e.1 e.2) (.bl true)) []
def MDat.J (d : MDat) (x y : Str) : Str := d.jn (some x) y
structure MDat.Exact (d : MDat) : Prop where
  keys : ∀ kv ∈ d.aj, ∃ x ∈ d.names, ∃ y ∈ d.names, kv.1 = kP x y
  get : ∀ x ∈ d.names, ∀ y ∈ d.names, valV d.aj (kP x y) = some (.str (d.J x y)) ∧ d.J x y ∈ d.names
  has : ∀ x ∈ d.names, ∀ y ∈ d.names, (valV (aAl d.allowed) (kP x y)).isSome = d.al x y
  e1 : ∀ x ∈ d.names, ∀ y ∈ d.names, ∀ z ∈ d.names, d.al (d.J x y) z = (d.al x z && d.al y z)
  e2 : ∀ x ∈ d.names, ∀ y ∈ d.names, ∀ z ∈ d.names, d.al z (d.J x y) = (d.al z x && d.al z y)
  e3 : ∀ x ∈ d.names, ∀ y ∈ d.names, ∀ z ∈ d.names, d.J (d.J x y) z = d.J x (d.J y z)
theorem aAl_len (l : List (Str × Str)) : (aAl l).length ≤ l.length := by
  have key : ∀ (l : List (Str × Str)) (k0 : List (List L2.Key × V)), (l.foldl (fun kvs e => putK kvs (kP e.1 e.2) (.bl true)) k0).length ≤ k0.length + l.length := by
    intro l
    induction l with
    | nil => intro k0; exact Nat.le_refl _
    | cons x l ih =>
      intro k0
      have := ih (putK k0 (kP x.1 x.2) (.bl true))
      have := put_len k0 (kP x.1 x.2) (.bl true)
      rw [List.foldl_cons, List.length_cons]
      omega
  have := key l []
  rw [List.length_nil, Nat.zero_add] at this
  exact this
theorem aAl_next {l : List (Str × Str)} {i : Nat} {e : Str × Str} (h : l[i]? = some e) : aAl (l.take (i + 1)) = putK (aAl (l.take i)) (kP e.1 e.2) (.bl true) := by
  unfold aAl
  rw [List.take_succ, h, List.foldl_append]
  rfl

theorem none_of_same {H H1 : Hp} {a : Addr} (s : Same H H1) (h : H1 a = none) : H a = none := by
  cases e : H a with
  | none => rfl
  | some o => rw [s a o e] at h; cases h
theorem test_and {σ : St} {H : Hp} {Q : Bool → Hp → Prop} {AD : Addr} {kvs : List (List L2.Key × V)} {a i1 j1 i2 j2 i3 j3 : Nat} {x1 y1 x2 y2 x3 y3 : Str} (e : H AD = some (.dT kvs)) (ha : σ[a]? = some (some (.ref AD)))
    (h1 : σ[i1]? = some (some (.str x1))) (g1 : σ[j1]? = some (some (.str y1))) (h2 : σ[i2]? = some (some (.str x2))) (g2 : σ[j2]? = some (some (.str y2))) (h3 : σ[i3]? = some (some (.str x3))) (g3 : σ[j3]? = some (some (.str y3)))
    (h : (valV kvs (kP x1 y1)).isSome = ((valV kvs (kP x2 y2)).isSome && (valV kvs (kP x3 y3)).isSome)) (q : ∀ H', Same H H' → Q false H') :
    tTest (tOp rNe (tDIn (tTup (tCons (tVar i1) (tCons (tVar j1) tNil))) (tVar a)) (tAndV (tDIn (tTup (tCons (tVar i2) (tCons (tVar j2) tNil))) (tVar a)) (tDIn (tTup (tCons (tVar i3) (tCons (tVar j3) tNil))) (tVar a)))) σ H Q := by
  refine ⟨_, h1, _, g1, two_le, fun t1 n1 => ⟨_, ha, AD, _, rfl, .t (k := kP x1 y1) ((same_new' n1) _ _ e) upd_same, ?_⟩⟩
  have s1 := same_new' (o := .tup [.str x1, .str y1]) n1
  refine ⟨_, h2, _, g2, two_le, fun t2 n2 => ⟨_, ha, AD, _, rfl, .t (k := kP x2 y2) ((Same.trans s1 (same_new' n2)) _ _ e) upd_same, _, rfl, ?_⟩⟩
  have s2 := Same.trans s1 (same_new' (o := .tup [.str x2, .str y2]) n2)
  rw [h]
  cases (valV kvs (kP x2 y2)).isSome with
  | false => exact ⟨rfl, false, rfl, q _ s2⟩
  | true =>
    refine iteT ⟨_, h3, _, g3, two_le, fun t3 n3 => ⟨_, ha, AD, _, rfl, .t (k := kP x3 y3) ((Same.trans s2 (same_new' n3)) _ _ e) upd_same, rfl, false, ?_, q _ (Same.trans s2 (same_new' n3))⟩⟩
    rw [Bool.true_and]
    simp
abbrev spIsExact (K : PySem.W.Frag) : Sp := fun vs H Q _ => ∃ (mo : Addr) (d : MDat), vs = [.ref mo] ∧ Modes K H mo d ∧ d.Exact ∧ ∀ H', Same H H' → Q (.bl true) H'
abbrev s_is_exact : Stmt := top 25
abbrev N_is_exact : List Str := ["modes", "names", "allowed", "joins", "one", "other", "both", "third", "pair"]
abbrev P_is_exact : List Str := ["modes"]
theorem sc_is_exact : FnScope N_is_exact P_is_exact (defScope s_is_exact) := ⟨rfl, rfl, rfl, by decide +kernel, rfl, by decide +kernel, by decide +kernel⟩
theorem ok_is_exact {b : Bs} (R : Raw b "is_exact" "is_exact" s_is_exact P_is_exact) (T : Tops b) (D_all_joins : Df b 1 "all_joins" P_all_joins (spAllJoins b.K)) : Df b 2 "is_exact" P_is_exact (spIsExact b.K) := by
  refine R.ok sc_is_exact (fun vs H Q E h => ?_) fun f cdv A outer s H vs Q E hr h => ?_
  · obtain ⟨mo, d, rfl, _⟩ := h
    rfl
  · obtain ⟨mo, d, rfl, ⟨n, a, j, ps, js, M⟩, X, k⟩ := h
    let kof : V → NestedKey := fun _ => .none
    refine ⟨_, (pss_cons (ps_par3 (i := 1) (j := 2) (l := 3) rfl sc_is_exact.nd rfl rfl rfl (by decide) (by decide) (by decide) rfl rfl rfl (pa_cons (pe_ix ix_tup (pv 0) pe_int (fun _ _ => rfl)) (pa_cons (pe_dcB (kof := kof) (own := [("pair", 8)]) (hu8 hr) fresh_dT rfl sc_is_exact.nd (pi_tup (pe_ix ix_tup (pv 0) pe_int (fun _ _ => rfl))) (blkOk_by (own := [("pair", 8)]) (N := N_is_exact) (sc := defScope s_is_exact) (by decide +kernel)) (fun _ _ _ _ _ => (pg_name (i := 8) sc_is_exact.nd rfl (Or.inl rfl))) (fun _ _ _ _ _ => pts_nil) (fun _ _ _ _ _ => (pv 8)) (fun _ _ _ _ _ => pe_bl)) (pa_cons (pe_df D_all_joins (hr.mono (by decide)) (pa_cons (pv 0) pa_nil)) pa_nil))) (by rfl))
      (pss_cons (ps_mayLock (ps_for PassesOwn.never rfl (pi_keys (pv 3)) (pg_tup rfl (pgs_cons (pg_name (i := 4) sc_is_exact.nd rfl (Or.inl rfl)) (pgs_cons (pg_name (i := 5) sc_is_exact.nd rfl (Or.inl rfl)) pgs_nil)))
      (pss_cons (ps_set (i := 6) sc_is_exact.nd rfl (Or.inl rfl) (pe_dget (hu_of hr) (pv 3) (pe_tup (pa_cons (pv 4) (pa_cons (pv 5) pa_nil))) (fun _ _ => rfl)))
      (pss_one (ps_for PassesOwn.never rfl (pi_tup (pv 1)) (pg_name (i := 7) sc_is_exact.nd rfl (Or.inl rfl))
      (pss_cons (ps_if (pt_cmpR op_ne (pe_cmp (pc_din (hu_of hr) (pe_tup (pa_cons (pv 6) (pa_cons (pv 7) pa_nil))) (pv 2)) rfl) (pe_and (pe_cmp (pc_din (hu_of hr) (pe_tup (pa_cons (pv 4) (pa_cons (pv 7) pa_nil))) (pv 2)) rfl) (pe_one (pe_cmp (pc_din (hu_of hr) (pe_tup (pa_cons (pv 5) (pa_cons (pv 7) pa_nil))) (pv 2)) rfl))) (nomark _)) (pss_one (ps_ret pe_bl)) pss_nil)
      (pss_cons (ps_if (pt_cmpR op_ne (pe_cmp (pc_din (hu_of hr) (pe_tup (pa_cons (pv 7) (pa_cons (pv 6) pa_nil))) (pv 2)) rfl) (pe_and (pe_cmp (pc_din (hu_of hr) (pe_tup (pa_cons (pv 7) (pa_cons (pv 4) pa_nil))) (pv 2)) rfl) (pe_one (pe_cmp (pc_din (hu_of hr) (pe_tup (pa_cons (pv 7) (pa_cons (pv 5) pa_nil))) (pv 2)) rfl))) (nomark _)) (pss_one (ps_ret pe_bl)) pss_nil)
      (pss_one (ps_if (pt_cmpR op_ne (pe_dget (hu_of hr) (pv 3) (pe_tup (pa_cons (pv 6) (pa_cons (pv 7) pa_nil))) (fun _ _ => rfl)) (pe_dget (hu_of hr) (pv 3) (pe_tup (pa_cons (pv 4) (pa_cons (pe_dget (hu_of hr) (pv 3) (pe_tup (pa_cons (pv 5) (pa_cons (pv 7) pa_nil))) (fun _ _ => rfl)) pa_nil))) (fun _ _ => rfl)) (nomark _)) (pss_one (ps_ret pe_bl)) pss_nil)))))))))
      (pss_one (ps_ret pe_bl)))), ?_⟩
    have le2 := M.few.2.1
    refine ⟨_, rfl, mo, _, 0, _, rfl, rfl, M.top.sq, rfl, _, rfl, mo, _, 1, _, rfl, rfl, M.top.sq, rfl, a, rfl, ⟨_, M.alw.sq⟩, fun AD hA => ?_⟩
    refine dc_it (mk := fun _ => .dT []) (walk_tup (xs := ps.map V.ref)) (fun i H1 => Same H H1 ∧ H1 AD = some (.dT (aAl (d.allowed.take i)))) ⟨same_new' hA, upd_same⟩ (fun i H _ p => (M.alw.mono (Same.tups p.1)).sq) (fun i y H1 H2 hi p hy => ?_) fun H1 p => ?_
    · obtain ⟨s1, e1⟩ := p
      obtain ⟨rfl, hy⟩ := hy
      rw [List.getElem?_map] at hy
      cases hp : ps[i]? with
      | none => rw [hp] at hy; cases hy
      | some p =>
      rw [hp] at hy
      cases hy
      obtain ⟨e, he, tp⟩ := paired_at M.each hp
      have li := (List.getElem?_eq_some_iff.mp he).1
      refine ⟨rfl, _, rfl, _, .inl (.inr ⟨aAl (d.allowed.take i), kP e.1 e.2, p, e1, rfl, s1 _ _ tp, ?_, rfl⟩), same_at hA s1, ?_⟩
      · have := aAl_len (d.allowed.take i)
        rw [List.length_take] at this
        rw [sizeLine_eq]
        omega
      · rw [upd_same, aAl_next he]
    · obtain ⟨s1, e1⟩ := p
      rw [List.length_map, Paired.length M.each, List.take_length] at e1
      refine ⟨_, rfl, mo, d, rfl, ⟨n, a, j, ps, js, M.same s1⟩, fun H2 JD s2 hJ eJ => ?_⟩
      have eA := s2 _ _ e1
      have neAJ : AD ≠ JD := ne_of_none e1 hJ
      have s3 : Same H H2 := Same.trans s1 s2
      refine ⟨_, _, _, rfl, .inl ⟨JD, _, eJ, True.intro, fun od => ⟨_, rfl, JD, od, rfl, .inr ⟨_, upd_same, ?_⟩⟩⟩⟩
      have bA : (upd H2 JD (.frz od (.dT d.aj))) AD = some (.dT (aAl d.allowed)) := by rw [upd_ne neAJ]; exact eA
      have bJ : (upd H2 JD (.frz od (.dT d.aj))) JD = some (.frz od (.dT d.aj)) := upd_same
      have sB : Same H (upd H2 JD (.frz od (.dT d.aj))) := same_at (none_of_same s1 hJ) s3
      have back : ∀ H4, Same (upd H2 JD (.frz od (.dT d.aj))) H4 → Same H (upd H4 JD (.dT d.aj)) := fun H4 s4 => same_at (none_of_same s1 hJ) (Same.trans sB s4)
      generalize upd H2 JD (.frz od (.dT d.aj)) = H3 at bA bJ sB back ⊢
      refine for_it (walk_keysT (kvs := d.aj)) (fun i σ H4 => (∃ x4 x5 x6 x7, σ = [some (.ref mo), some (.ref n), some (.ref AD), some (.ref JD), x4, x5, x6, x7, none]) ∧ Same H3 H4) ⟨⟨_, _, _, _, rfl⟩, Same.refl _⟩ (fun i σ H4 _ p => p.2 _ _ bJ) (fun i y σ H4 H5 hi p hy => ?_) fun σ H4 p => ?_
      · obtain ⟨⟨x4, x5, x6, x7, rfl⟩, s4⟩ := p
        obtain ⟨rfl, ky, v, tq, hkv, rfl, etq⟩ := hy
        obtain ⟨x, hx, y, hy, ek⟩ := X.keys _ (List.mem_of_getElem? hkv)
        obtain rfl : ky = kP x y := ek
        obtain ⟨g1, g2⟩ := X.get x hx y hy
        refine ⟨tq, _, rfl, .inl (.inl etq), rfl, _, _, rfl, _, _, rfl, rfl, _, rfl, _, rfl, _, rfl, two_le, fun t ht => ⟨JD, _, rfl, .inr ⟨_, kP x y, t, .inr ⟨od, (Same.trans s4 (same_new' ht)) _ _ bJ⟩, rfl, upd_same, g1.symm⟩, ?_⟩⟩
        have s5 := Same.trans s4 (same_new' (o := .tup [.str x, .str y]) ht)
        have tn5 := M.nam.mono (Same.tups (Same.trans sB s5))
        refine ⟨_, rfl, n, rfl, ⟨_, tn5.sq⟩, ?_⟩
        refine for_it (walk_tup (xs := d.names.map V.str)) (fun i σ H4 => (∃ x7, σ = [some (.ref mo), some (.ref n), some (.ref AD), some (.ref JD), some (.str x), some (.str y), some (.str (d.J x y)), x7, none]) ∧ Same H3 H4) ⟨⟨_, rfl⟩, s5⟩ (fun i σ H4 _ p => (M.nam.mono (Same.tups (Same.trans sB p.2))).sq) (fun i y0 σ H4 H6 hi p hy0 => ?_) fun σ H4 p => ?_
        · obtain ⟨⟨x7, rfl⟩, s6⟩ := p
          obtain ⟨rfl, hy0⟩ := hy0
          obtain ⟨z, hz, rfl⟩ := mem_str (List.mem_of_getElem? hy0)
          refine test_and (x1 := d.J x y) (y1 := z) (x2 := x) (y2 := z) (x3 := y) (y3 := z) (s6 _ _ bA) rfl rfl rfl rfl rfl rfl rfl (by rw [X.has _ g2 _ hz, X.has _ hx _ hz, X.has _ hy _ hz]; exact X.e1 _ hx _ hy _ hz) fun H7 s7 => iteF ?_
          have s7 := Same.trans s6 s7
          refine test_and (x1 := z) (y1 := d.J x y) (x2 := z) (y2 := x) (x3 := z) (y3 := y) (s7 _ _ bA) rfl rfl rfl rfl rfl rfl rfl (by rw [X.has _ hz _ g2, X.has _ hz _ hx, X.has _ hz _ hy]; exact X.e2 _ hx _ hy _ hz) fun H8 s8 => iteF ?_
          have s8 := Same.trans s7 s8
          obtain ⟨p1, p2⟩ := X.get _ g2 _ hz
          obtain ⟨q1, q2⟩ := X.get _ hy _ hz
          obtain ⟨r1, r2⟩ := X.get _ hx _ q2
          refine ⟨_, rfl, _, rfl, _, rfl, two_le, fun t1 h1 => ⟨JD, _, rfl, .inr ⟨_, kP (d.J x y) z, t1, .inr ⟨od, (Same.trans s8 (same_new' h1)) _ _ bJ⟩, rfl, upd_same, p1.symm⟩, ?_⟩⟩
          have s9 := Same.trans s8 (same_new' (o := .tup [.str (d.J x y), .str z]) h1)
          refine ⟨_, rfl, _, rfl, _, rfl, _, rfl, _, rfl, two_le, fun t2 h2 => ⟨JD, _, rfl, .inr ⟨_, kP y z, t2, .inr ⟨od, (Same.trans s9 (same_new' h2)) _ _ bJ⟩, rfl, upd_same, q1.symm⟩, ?_⟩⟩
          have s10 := Same.trans s9 (same_new' (o := .tup [.str y, .str z]) h2)
          refine ⟨two_le, fun t3 h3 => ⟨JD, _, rfl, .inr ⟨_, kP x (d.J y z), t3, .inr ⟨od, (Same.trans s10 (same_new' h3)) _ _ bJ⟩, rfl, upd_same, r1.symm⟩, rfl, false, ?_, ?_⟩⟩
          · rw [X.e3 _ hx _ hy _ hz]
            simp
          · exact iteF ⟨⟨_, rfl⟩, Same.trans s10 (same_new' h3)⟩
        · obtain ⟨⟨x7, rfl⟩, s6⟩ := p
          exact ⟨⟨_, _, _, _, rfl⟩, s6⟩
      · obtain ⟨⟨x4, x5, x6, x7, rfl⟩, s4⟩ := p
        exact ⟨s4 _ _ bJ, k _ (back H4 s4)⟩
end Lk
end
section
set_option maxRecDepth 100000
set_option maxHeartbeats 1000000
/-! fault_of_modes, require_modes. -/
namespace Lk
open PySem L2

structure MDat.Good (d : MDat) : Prop where
  nd : d.names.Nodup
  ne : d.names ≠ []
  six : d.names.length ≤ 6
  nda : d.allowed.Nodup
  few : d.allowed.length ≤ 17
  inj : ∀ e ∈ d.joins, e.1 ∈ d.names ∧ e.2.1 ∈ d.names ∧ e.2.2 ∈ d.names
  due : d.joins.map (fun r => (r.1, r.2.1)) = dueN d.names
  ex : d.Exact
  fit : d.Fit
theorem dpAll_str {K : PySem.W.Frag} {H : Hp} : ∀ l : List Str, DpAll K H (l.map V.str) (l.map PyData.str)
  | [] => .nil
  | x :: l => .cons (.str x) (dpAll_str l)

abbrev spFault (K : PySem.W.Frag) : Sp := fun vs H Q _ => ∃ (mo : Addr) (d : MDat), vs = [.ref mo] ∧ Modes K H mo d ∧ d.Good ∧ ∀ H', Same H H' → Q .non H'
abbrev s_fault_of_modes : Stmt := top 26
abbrev N_fault_of_modes : List Str := ["modes"]
abbrev P_fault_of_modes : List Str := ["modes"]
theorem sc_fault_of_modes : FnScope N_fault_of_modes P_fault_of_modes (defScope s_fault_of_modes) := ⟨rfl, rfl, rfl, by decide +kernel, rfl, by decide +kernel, by decide +kernel⟩
theorem ok_fault {b : Bs} (R : Raw b "fault_of_modes" "fault_of_modes" s_fault_of_modes P_fault_of_modes) (T : Tops b) (D_are_names : Df b 2 "are_names" P_are_names (spAreNames b.K)) (D_are_allowed : Df b 2 "are_allowed" P_are_allowed (spAreAllowed b.K))
    (D_are_joins : Df b 2 "are_joins" P_are_joins (spAreJoins b.K)) (D_is_exact : Df b 2 "is_exact" P_is_exact (spIsExact b.K)) : Df b 3 "fault_of_modes" P_fault_of_modes (spFault b.K) := by
  refine R.ok sc_fault_of_modes (fun vs H Q E h => ?_) fun f cdv A outer s H vs Q E hr h => ?_
  · obtain ⟨mo, d, rfl, _⟩ := h
    rfl
  · obtain ⟨mo, d, rfl, ⟨n, a, j, ps, js, M⟩, G, k⟩ := h
    obtain ⟨t1, g_MAX_MODES⟩ := T.m_MAX_MODES
    refine ⟨_, (pss_cons (ps_if (PW.pt (pw_or (pt_not (pt_val (pe_callB call_isi (by rfl) T.b_isinstance (by decide +kernel) (pa_cons (pv 0) (pa_cons (pe_bltn (v := .ty "tuple") (by rfl) T.b_tuple (by decide +kernel) rfl) pa_nil))))) (pw_or1 (pt_cmpR op_ne (pe_callB call_len_seq (by rfl) T.b_len (by decide +kernel) (pa_cons (pv 0) pa_nil)) pe_int (nomark _))))) (pss_one (ps_ret pe_str)) pss_nil)
      (pss_cons (ps_if (PW.pt (pw_or (pt_not (pt_val (pe_df D_are_names (hr.mono (by decide)) (pa_cons (pe_ix ix_tup (pv 0) pe_int (fun _ _ => rfl)) (pa_cons (pe_glob (v := .int 6) rfl g_MAX_MODES ⟨_, rfl⟩) pa_nil))))) (pw_or1 (pt_cmpR (op_eqD hr.units) (pe_ix ix_tup (pv 0) pe_int (fun _ _ => rfl)) (pe_tup pa_nil) (nomark _))))) (pss_one (ps_ret pe_str)) pss_nil)
      (pss_cons (ps_if (pt_not (pt_val (pe_df D_are_allowed (hr.mono (by decide)) (pa_cons (pe_ix ix_tup (pv 0) pe_int (fun _ _ => rfl)) (pa_cons (pe_ix ix_tup (pv 0) pe_int (fun _ _ => rfl)) pa_nil))))) (pss_one (ps_ret pe_str)) pss_nil)
      (pss_cons (ps_if (pt_not (pt_val (pe_df D_are_joins (hr.mono (by decide)) (pa_cons (pe_ix ix_tup (pv 0) pe_int (fun _ _ => rfl)) (pa_cons (pe_ix ix_tup (pv 0) pe_int (fun _ _ => rfl)) pa_nil))))) (pss_one (ps_ret pe_str)) pss_nil)
      (pss_one (ps_ret (pe_ifExp (pt_val (pe_df D_is_exact (hr.mono (by decide)) (pa_cons (pv 0) pa_nil))) pe_non pe_str))))))), ?_⟩
    obtain ⟨ty, tx, kt⟩ := tupX M.top.sq
    have lj : d.joins.length ≤ 100 := M.few.2.2
    refine ⟨_, rfl, _, _, _, _, true, rfl, .ty _, tx, kt, true, rfl, ?_⟩
    refine iteF ⟨_, rfl, mo, _, rfl, .inr M.top.sq, rfl, false, rfl, iteF ?_⟩
    refine ⟨_, rfl, mo, _, 0, _, rfl, rfl, M.top.sq, rfl, n, d.names, 6, rfl, M.nam, by have := G.six; omega, M.few.1, M.ok.1, G.nd, fun H1 s1 => ⟨true, rfl, iteF ?_⟩⟩
    have M1 := M.same s1
    refine ⟨_, rfl, mo, _, 0, _, rfl, rfl, M1.top.sq, rfl, Nat.zero_le _, fun t ht => ?_⟩
    have s2 := Same.trans s1 (same_new' (o := .tup []) ht)
    have M2 := M.same s2
    refine ⟨_, _, .tup M2.nam.sq (dpAll_str d.names), .tup (.inl (.inl upd_same)) .nil, (Sh.tup (n := 0) fun z hz => ?_).ok (by decide), (Sh.tup (n := 0) (ds := []) fun z hz => (by cases hz)).ok (by decide), false, ?_, iteF ?_⟩
    · obtain ⟨x, hx, rfl⟩ := List.mem_map.mp hz
      exact .str (okS_name (M.ok.1 x hx))
    · cases e : d.names with
      | nil => exact absurd e G.ne
      | cons x l => rfl
    refine ⟨_, rfl, mo, _, 0, _, rfl, rfl, M2.top.sq, rfl, _, rfl, mo, _, 1, _, rfl, rfl, M2.top.sq, rfl, a, n, d.names, ps, d.allowed, rfl, M2.nam, M2.alw, L2.Paired.mapP M2.each fun _ _ h => .inl h, G.few, M.ok.2, G.nda, fun H3 s3 => ⟨true, rfl, iteF ?_⟩⟩
    have s3 := Same.trans s2 s3
    have M3 := M.same s3
    refine ⟨_, rfl, mo, _, 0, _, rfl, rfl, M3.top.sq, rfl, _, rfl, mo, _, 2, _, rfl, rfl, M3.top.sq, rfl, j, n, d.names, js, d.joins, rfl, M3.nam, M3.jns, M3.eachJ, lj, by have := G.six; omega, G.inj, M.ok.1, G.due, fun H4 s4 => ⟨true, rfl, iteF ?_⟩⟩
    have s4 := Same.trans s3 s4
    exact ⟨_, rfl, mo, d, rfl, ⟨n, a, j, ps, js, M.same s4⟩, G.ex, fun H5 s5 => ⟨true, rfl, iteT (k H5 (Same.trans s4 s5))⟩⟩

abbrev spReqModes (K : PySem.W.Frag) : Sp := fun vs H Q _ => ∃ (mo : Addr) (d : MDat), vs = [.ref mo] ∧ Modes K H mo d ∧ d.Good ∧ ∀ H', Same H H' → Q .non H'
abbrev s_require_modes : Stmt := top 27
abbrev N_require_modes : List Str := ["modes", "part"]
abbrev P_require_modes : List Str := ["modes"]
theorem sc_require_modes : FnScope N_require_modes P_require_modes (defScope s_require_modes) := ⟨rfl, rfl, rfl, by decide +kernel, rfl, by decide +kernel, by decide +kernel⟩
theorem ok_require_modes {b : Bs} (R : Raw b "require_modes" "require_modes" s_require_modes P_require_modes) (T : Tops b) (D_fault_of_modes : Df b 3 "fault_of_modes" P_fault_of_modes (spFault b.K)) : Df b 4 "require_modes" P_require_modes (spReqModes b.K) := by
  refine R.ok sc_require_modes (fun vs H Q E h => ?_) fun f cdv A outer s H vs Q E hr h => ?_
  · obtain ⟨mo, d, rfl, _⟩ := h
    rfl
  · obtain ⟨mo, d, rfl, m, G, k⟩ := h
    refine ⟨_, (pss_cons (ps_set (i := 1) sc_require_modes.nd rfl (Or.inl rfl) (pe_df D_fault_of_modes (hr.mono (by decide)) (pa_cons (pv 0) pa_nil)))
      (pss_one (ps_if (pt_cmpR op_notN (pv 1) pe_non (nomark _)) (pss_one ps_never) pss_nil))), ?_⟩
    exact ⟨_, rfl, mo, d, rfl, m, G, fun H1 s1 => ⟨_, rfl, rfl, false, rfl, iteF (k H1 s1)⟩⟩
end Lk
end
section
set_option maxRecDepth 100000
set_option maxHeartbeats 1000000
/-! standard_join, standard. -/
namespace Lk
open PySem L2
open En (pi_enumT walk_enT)

def above (y : Str) : List Str := (aboT.lookup y).getD []
def tog (y : Str) : List Str := (togT.lookup y).getD []
def sj (x y : Str) : Str := if x = y ∨ ("x" = x ∨ "x" = y) then (if x = y then x else "x") else if x ∈ above y then y else if y ∈ above x then x else "six"
def dStd : MDat := ⟨stdN, stdN.flatMap fun h => (tog h).map (Prod.mk h), (dueN stdN).map fun e => (e.1, e.2, sj e.1 e.2)⟩
theorem above_mem : ∀ y ∈ stdN, y ≠ "x" → (y, above y) ∈ aboT := by decide +kernel
theorem tog_mem : ∀ y ∈ stdN, (y, tog y) ∈ togT := by decide +kernel
theorem due_std : ∀ e ∈ dueN stdN, e.1 ∈ stdN ∧ e.2 ∈ stdN := by decide +kernel

abbrev spSj : Sp := fun vs H Q _ => ∃ x y : Str, vs = [.str x, .str y] ∧ x ∈ stdN ∧ y ∈ stdN ∧ ∀ H', Same H H' → Q (.str (sj x y)) H'
abbrev s_standard_join : Stmt := top 28
abbrev N_standard_join : List Str := ["one", "other"]
abbrev P_standard_join : List Str := ["one", "other"]
theorem sc_standard_join : FnScope N_standard_join P_standard_join (defScope s_standard_join) := ⟨rfl, rfl, rfl, by decide +kernel, rfl, by decide +kernel, by decide +kernel⟩
theorem ok_standard_join {b : Bs} (R : Raw b "standard_join" "standard_join" s_standard_join P_standard_join) (T : Tops b) : Df b 1 "standard_join" P_standard_join spSj := by
  refine R.ok sc_standard_join (fun vs H Q E h => ?_) fun f cdv A outer s H vs Q E hr h => ?_
  · obtain ⟨x, y, rfl, _⟩ := h
    rfl
  · obtain ⟨x, y, rfl, hx, hy, k⟩ := h
    obtain ⟨p_STANDARD_ABOVE, g_STANDARD_ABOVE, tab⟩ := T.m_STANDARD_ABOVE
    refine ⟨_, (pss_cons (ps_if (PW.pt (pw_or (pt_cmpR op_eq (pv 0) (pv 1) (nomark _)) (pw_or1 (pt_cmpR op_in_seq pe_str (pe_tup (pa_cons (pv 0) (pa_cons (pv 1) pa_nil))) (by rfl))))) (pss_one (ps_ret (pe_ifExp (pt_cmpR op_eq (pv 0) (pv 1) (nomark _)) (pv 0) pe_str))) pss_nil)
      (pss_cons (ps_if (pt_cmpR op_in_seq (pv 0) (pe_kd (pe_glob (v := .ref p_STANDARD_ABOVE) rfl g_STANDARD_ABOVE rfl) (pv 1)) (by rfl)) (pss_one (ps_ret (pv 1))) pss_nil)
      (pss_cons (ps_if (pt_cmpR op_in_seq (pv 1) (pe_kd (pe_glob (v := .ref p_STANDARD_ABOVE) rfl g_STANDARD_ABOVE rfl) (pv 0)) (by rfl)) (pss_one (ps_ret (pv 0))) pss_nil)
      (pss_one (ps_ret pe_str))))), ?_⟩
    have sc : ∀ u v : Str, decide (V.str u = V.str v) = decide (u = v) := fun u v => decide_eq_decide.mpr ⟨fun z => by injection z, fun z => by rw [z]⟩
    refine ⟨_, rfl, _, rfl, rfl, decide (x = y), congrArg V.bl (sc x y), ?_⟩
    by_cases e1 : x = y
    · rw [decide_eq_true e1]
      refine iteT (iteT ⟨_, rfl, _, rfl, rfl, decide (x = y), congrArg V.bl (sc x y), ?_⟩)
      rw [decide_eq_true e1]
      refine iteT ⟨_, rfl, ?_⟩
      have e : sj x y = x := by unfold sj; rw [if_pos (.inl e1), if_pos e1]
      rw [e] at k
      exact k H (Same.refl H)
    rw [decide_eq_false e1]
    refine iteF ⟨_, rfl, _, rfl, two_le, fun t ht => ⟨t, _, rfl, .inr (.inl (.inl upd_same)), rfl, rfl, decide (x = "x") || decide (y = "x"), congrArg V.bl in2, ?_⟩⟩
    have s1 := same_new' (o := .tup [.str x, .str y]) ht
    cases c : decide (x = "x") || decide (y = "x") with
    | true =>
      refine iteT ⟨_, rfl, _, rfl, rfl, decide (x = y), congrArg V.bl (sc x y), ?_⟩
      rw [decide_eq_false e1]
      have c2 : "x" = x ∨ "x" = y := by
        rcases Bool.or_eq_true_iff.mp c with z | z
        · exact .inl (of_decide_eq_true z).symm
        · exact .inr (of_decide_eq_true z).symm
      have e : sj x y = "x" := by unfold sj; rw [if_pos (.inr c2), if_neg e1]
      rw [e] at k
      exact iteF (k _ s1)
    | false =>
      obtain ⟨c1, c2⟩ := Bool.or_eq_false_iff.mp c
      have nx : x ≠ "x" := of_decide_eq_false c1
      have ny : y ≠ "x" := of_decide_eq_false c2
      obtain ⟨qy, dy, ty⟩ := tab _ (above_mem y hy ny)
      obtain ⟨qx, dx, tx⟩ := tab _ (above_mem x hx nx)
      have cc : ¬ (x = y ∨ ("x" = x ∨ "x" = y)) := fun z => z.elim e1 fun z => z.elim (fun z => nx z.symm) fun z => ny z.symm
      refine iteF ⟨_, rfl, _, rfl, _, y, _, rfl, rfl, dy, qy, (above y).map V.str, rfl, .inr (ty _), rfl, all_str _, decide (x ∈ above y), congrArg V.bl in_strB, ?_⟩
      by_cases e2 : x ∈ above y
      · rw [decide_eq_true e2]
        have e : sj x y = y := by unfold sj; rw [if_neg cc, if_pos e2]
        rw [e] at k
        exact iteT ⟨_, rfl, k _ s1⟩
      rw [decide_eq_false e2]
      refine iteF ⟨_, rfl, _, rfl, _, x, _, rfl, rfl, dx, qx, (above x).map V.str, rfl, .inr (tx _), rfl, all_str _, decide (y ∈ above x), congrArg V.bl in_strB, ?_⟩
      by_cases e3 : y ∈ above x
      · rw [decide_eq_true e3]
        have e : sj x y = x := by unfold sj; rw [if_neg cc, if_neg e2, if_pos e3]
        rw [e] at k
        exact iteT ⟨_, rfl, k _ s1⟩
      rw [decide_eq_false e3]
      have e : sj x y = "six" := by unfold sj; rw [if_neg cc, if_neg e2, if_neg e3]
      rw [e] at k
      exact iteF (k _ s1)

abbrev FPt (H : Hp) (y : V) (e : Str × Str) : Prop := ∃ p, y = .ref p ∧ H p = some (.tup (vP e))
theorem FPt.mono {H H' : Hp} {y : V} {e : Str × Str} (t : Tups H H') : FPt H y e → FPt H' y e := fun ⟨p, e, h⟩ => ⟨p, e, t _ _ h⟩
theorem tog_len (i : Nat) : ((stdN.take i).flatMap fun h => (tog h).map (Prod.mk h)).length ≤ 13 := by
  have key : ∀ i, i ≤ 6 → ((stdN.take i).flatMap fun h => (tog h).map (Prod.mk h)).length ≤ 13 := by decide +kernel
  rcases Nat.lt_or_ge i 6 with l | l
  · exact key i (Nat.le_of_lt l)
  · rw [List.take_of_length_le (show stdN.length ≤ i from l)]
    exact key 6 (Nat.le_refl _)
theorem FPts {H : Hp} : ∀ {ys : List V} {es : List (Str × Str)}, Paired (FPt H) ys es → ∃ ps : List Addr, ys = ps.map V.ref ∧ Paired (fun p e => H p = some (.tup (vP e))) ps es
  | _, _, .nil => ⟨[], rfl, .nil⟩
  | _, _, .cons ⟨p, h1, h2⟩ t => by
    obtain ⟨ps, h3, h4⟩ := FPts t
    exact ⟨p :: ps, by rw [List.map_cons, h1, h3], .cons h2 h4⟩
abbrev FJ (K : PySem.W.Frag) (H : Hp) (y : V) (e : Str × Str × Str) : Prop := ∃ p, y = .ref p ∧ Tp K H p (vJ e)
theorem FJ.mono {K : PySem.W.Frag} {H H' : Hp} {y : V} {e : Str × Str × Str} (t : Tups H H') : FJ K H y e → FJ K H' y e := fun ⟨p, e, h⟩ => ⟨p, e, h.mono t⟩
theorem FJs {K : PySem.W.Frag} {H : Hp} : ∀ {ys : List V} {es : List (Str × Str × Str)}, Paired (FJ K H) ys es → ∃ ps : List Addr, ys = ps.map V.ref ∧ Paired (fun p e => Tp K H p (vJ e)) ps es
  | _, _, .nil => ⟨[], rfl, .nil⟩
  | _, _, .cons ⟨p, h1, h2⟩ t => by
    obtain ⟨ps, h3, h4⟩ := FJs t
    exact ⟨p :: ps, by rw [List.map_cons, h1, h3], .cons h2 h4⟩
theorem three_le {x y z : V} : [x, y, z].length ≤ sizeLine := by rw [sizeLine_eq]; show 3 ≤ _; omega
instance (x : Str) : Decidable (IsName x) := by unfold IsName; infer_instance
theorem std_ok : (∀ x ∈ dStd.names, IsName x) ∧ (∀ e ∈ dStd.allowed, e.1 ∈ dStd.names ∧ e.2 ∈ dStd.names) := by decide +kernel
theorem std_few : dStd.names.length ≤ 100 ∧ dStd.allowed.length ≤ 100 ∧ dStd.joins.length ≤ 100 := by decide +kernel
abbrev spStd (K : PySem.W.Frag) : Sp := fun vs H Q _ => vs = [] ∧ ∀ H' mo, Same H H' → Modes K H' mo dStd → Q (.ref mo) H'
abbrev s_standard : Stmt := top 29
abbrev N_standard : List Str := ["names", "allowed", "rows", "held", "asked", "other", "place", "one"]
abbrev P_standard : List Str := []
theorem sc_standard : FnScope N_standard P_standard (defScope s_standard) := ⟨rfl, rfl, rfl, by decide +kernel, rfl, by decide +kernel, by decide +kernel⟩
theorem ok_standard {b : Bs} (R : Raw b "standard" "standard" s_standard P_standard) (T : Tops b) (D_standard_join : Df b 1 "standard_join" P_standard_join spSj) : Df b 2 "standard" P_standard (spStd b.K) := by
  refine R.ok sc_standard (fun vs H Q E h => ?_) fun f cdv A outer s H vs Q E hr h => ?_
  · obtain ⟨rfl, _⟩ := h
    rfl
  · obtain ⟨rfl, k⟩ := h
    obtain ⟨p_STANDARD_TOGETHER, g_STANDARD_TOGETHER, tab⟩ := T.m_STANDARD_TOGETHER
    obtain ⟨p_STANDARD_NAMES, g_STANDARD_NAMES, tn⟩ := T.m_STANDARD_NAMES
    refine ⟨_, (pss_cons (ps_set (i := 0) sc_standard.nd rfl (Or.inr rfl) (pe_glob (v := .ref p_STANDARD_NAMES) rfl g_STANDARD_NAMES rfl))
      (pss_cons (ps_setLc2B (i := 1) (own := [("held", 3), ("asked", 4)]) (vs1 := [4]) rfl sc_standard.nd rfl rfl (sw_true rfl rfl rfl (by decide +kernel)) (pi_tup (pv 0)) (blkOk_by (own := [("held", 3), ("asked", 4)]) (N := N_standard) (sc := defScope s_standard) (by decide +kernel)) (by decide) (fun _ _ _ _ _ => (pg_name (i := 3) sc_standard.nd rfl (Or.inl rfl))) (fun _ _ _ _ _ => pts_nil) (fun _ _ _ _ _ => (pi_tup (pe_kd (pe_glob (v := .ref p_STANDARD_TOGETHER) rfl g_STANDARD_TOGETHER rfl) (pv 3)))) (fun _ _ _ _ _ => (pg_name (i := 4) sc_standard.nd rfl (Or.inl rfl))) (fun _ _ _ _ _ => pts_nil) (fun _ _ _ _ _ => (pe_tup (pa_cons (pv 3) (pa_cons (pv 4) pa_nil)))))
      (pss_cons (ps_setLc2B (i := 2) (own := [("place", 6), ("one", 7), ("other", 5)]) (vs1 := [5]) rfl sc_standard.nd rfl rfl (sw_true rfl rfl rfl (by decide +kernel)) (pi_enumT rfl T.b_enumerate (pa_cons (pv 0) pa_nil)) (blkOk_by (own := [("place", 6), ("one", 7), ("other", 5)]) (N := N_standard) (sc := defScope s_standard) (by decide +kernel)) (by decide) (fun _ _ _ _ _ => (pg_tup rfl (pgs_cons (pg_name (i := 6) sc_standard.nd rfl (Or.inl rfl)) (pgs_cons (pg_name (i := 7) sc_standard.nd rfl (Or.inl rfl)) pgs_nil)))) (fun _ _ _ _ _ => pts_nil) (fun _ _ _ _ _ => (pi_tup (pe_slice sl_tup (pv 0) (po_some (pe_op op_add (pv 6) pe_int)) po_none))) (fun _ _ _ _ _ => (pg_name (i := 5) sc_standard.nd rfl (Or.inl rfl))) (fun _ _ _ _ _ => pts_nil) (fun _ _ _ _ _ => (pe_tup (pa_cons (pv 7) (pa_cons (pv 5) pa_nil)))))
      (pss_one (ps_ret (pe_tup (pa_cons (pv 0) (pa_cons (pe_callTy call_tuple_of (by rfl) T.b_tuple (by decide +kernel) (pa_cons (pv 1) pa_nil)) (pa_cons (pe_callTy call_tuple_of (by rfl) T.b_tuple (by decide +kernel) (pa_cons (pe_lcB (own := [("one", 7), ("other", 5)]) rfl sc_standard.nd (pi_list (pv 2)) (blkOk_by (own := [("one", 7), ("other", 5)]) (N := N_standard) (sc := defScope s_standard) (by decide +kernel)) (fun _ _ _ _ _ => (pg_tup rfl (pgs_cons (pg_name (i := 7) sc_standard.nd rfl (Or.inl rfl)) (pgs_cons (pg_name (i := 5) sc_standard.nd rfl (Or.inl rfl)) pgs_nil)))) (fun _ _ _ _ _ => pts_nil) (fun _ _ _ _ _ => (pe_tup (pa_cons (pv 7) (pa_cons (pv 5) (pa_cons (pe_df D_standard_join (hr.mono (by decide)) (pa_cons (pv 7) (pa_cons (pv 5) pa_nil))) pa_nil)))))) pa_nil)) pa_nil))))))))), ?_⟩
    refine ⟨_, rfl, p_STANDARD_NAMES, rfl, ⟨_, tn H⟩, fun D1 hD1 => ?_⟩
    refine it_gen (walk_tup (xs := stdN.map V.str)) (fun i H1 => Same H H1 ∧ ∃ ys, H1 D1 = some (.lst ys) ∧ Paired (FPt H1) ys ((stdN.take i).flatMap fun h => (tog h).map (Prod.mk h))) ⟨same_new' hD1, [], upd_same, .nil⟩ (fun i H _ p => tn _) (fun i y H1 H2 hi p hy => ?_) fun H1 p => ?_
    · obtain ⟨s1, ys, e1, p1⟩ := p
      obtain ⟨rfl, hy⟩ := hy
      rw [List.getElem?_map] at hy
      cases hx : stdN[i]? with
      | none => rw [hx] at hy; cases hy
      | some x =>
      rw [hx] at hy
      cases hy
      obtain ⟨q, dq, tq⟩ := tab _ (tog_mem x (List.mem_of_getElem? hx))
      have lt : (tog x).length ≤ 6 := (show ∀ y ∈ stdN, (tog y).length ≤ 6 by decide) x (List.mem_of_getElem? hx)
      have l0 : ((stdN.take i).flatMap fun h => (tog h).map (Prod.mk h)).length ≤ 13 := tog_len i
      refine ⟨rfl, _, rfl, _, x, _, rfl, rfl, dq, q, rfl, ⟨_, tq _⟩, ?_⟩
      refine it_gen (walk_tup (xs := (tog x).map V.str)) (fun j H1 => Same H H1 ∧ ∃ ys, H1 D1 = some (.lst ys) ∧ Paired (FPt H1) ys (((stdN.take i).flatMap fun h => (tog h).map (Prod.mk h)) ++ ((tog x).take j).map (Prod.mk x))) ⟨s1, ys, e1, by rw [List.take_zero, List.map_nil, List.append_nil]; exact p1⟩ (fun j H _ p => tq _) (fun j y H3 H4 hj p hy => ?_) fun H3 p => ?_
      · obtain ⟨q1, ys1, q3, q4⟩ := p
        obtain ⟨rfl, hy⟩ := hy
        rw [List.getElem?_map] at hy
        cases hz : (tog x)[j]? with
        | none => rw [hz] at hy; cases hy
        | some z =>
        rw [hz] at hy
        cases hy
        refine ⟨rfl, _, rfl, _, rfl, two_le, fun t ht => ⟨ys1, by rw [upd_ne (ne_of_none q3 ht)]; exact q3, ?_, ?_, ys1 ++ [.ref t], upd_same, ?_⟩⟩
        · have l1 := Paired.length q4
          rw [List.length_append, List.length_map, List.length_take] at l1
          rw [sizeLine_eq]
          omega
        · exact same_at hD1 (Same.trans q1 (same_new' ht))
        · have t7 : Tups H4 (upd (upd H4 t (.tup [.str x, .str z])) D1 (.lst (ys1 ++ [.ref t]))) := Tups.trans (Tups.new ht) (Tups.mut (by rw [upd_ne (ne_of_none q3 ht)]; exact q3) fun xs e => by cases e)
          rw [List.take_succ, hz, List.map_append, ← List.append_assoc]
          refine paired_snoc ⟨t, rfl, ?_⟩ (L2.Paired.mapP q4 fun _ _ h => h.mono t7)
          rw [upd_ne (ne_of_none q3 ht).symm, upd_same]
      · obtain ⟨q1, ys1, q3, q4⟩ := p
        refine ⟨q1, ys1, q3, ?_⟩
        rw [List.length_map, List.take_length] at q4
        rw [List.take_succ, hx, List.flatMap_append]
        simpa using q4
    obtain ⟨s1, ys1, e1, p1⟩ := p
    rw [List.length_map, List.take_length] at p1
    have H3 := H1
    refine ⟨_, rfl, p_STANDARD_NAMES, _, rfl, tn _, fun D3 hD3 => ?_⟩
    refine it_gen (walk_enT (xs := stdN.map V.str)) (fun i H => Same H1 H ∧ ∃ ys, H D3 = some (.lst ys) ∧ Paired (FP b.K H) ys ((List.range i).flatMap (dueAt stdN))) ⟨same_new' hD3, [], upd_same, .nil⟩ (fun i H _ p => tn _) (fun i y H4 H5 hi p hy => ?_) fun H4 p => ?_
    · obtain ⟨s4, ys, e4, p4⟩ := p
      obtain ⟨T, x0, x1, rfl, hT, rfl, h0, h1⟩ := hy
      cases h0
      have h1 : (stdN.map V.str)[i]? = some x1 := h1
      rw [List.getElem?_map] at h1
      cases hx : stdN[i]? with
      | none => rw [hx] at h1; cases h1
      | some x =>
      rw [hx] at h1
      cases h1
      have li := (List.getElem?_eq_some_iff.mp hx).1
      have s5 := Same.trans s4 (same_new' (o := .tup [.int (i : Nat), .str x]) hT)
      skip
      have cut := cut_next (xs := stdN.map V.str) (i := i) (by rw [List.length_map]; exact li)
      refine ⟨T, _, rfl, .inl (.inl upd_same), rfl, _, _, rfl, _, _, rfl, rfl, rfl, _, rfl, _, rfl, _, _, rfl, rfl, _, rfl, p_STANDARD_NAMES, _, rfl, tn _, cut.1, fun p2 hp2 => ⟨p2, rfl, ⟨_, .inl (.inl upd_same)⟩, ?_⟩⟩
      rw [cut.2, ← List.map_drop]
      have s6 := Same.trans s5 (same_new' (o := .tup ((stdN.drop (i + 1)).map V.str)) hp2)
      have e6 : (upd (upd H4 T (.tup [.int (i : Nat), .str x])) p2 (.tup ((stdN.drop (i + 1)).map V.str))) D3 = some (.lst ys) := by
        rw [upd_ne (ne_of_none (by rw [upd_ne (ne_of_none e4 hT)]; exact e4) hp2), upd_ne (ne_of_none e4 hT), e4]
      have t6 : Tups H4 (upd (upd H4 T (.tup [.int (i : Nat), .str x])) p2 (.tup ((stdN.drop (i + 1)).map V.str))) := Tups.trans (Tups.new hT) (Tups.new hp2)
      refine it_gen (walk_tup (xs := (stdN.drop (i + 1)).map V.str)) (fun j H => Same H1 H ∧ H p2 = some (.tup ((stdN.drop (i + 1)).map V.str)) ∧ ∃ ys, H D3 = some (.lst ys) ∧ Paired (FP b.K H) ys ((List.range i).flatMap (dueAt stdN) ++ ((stdN.drop (i + 1)).take j).map (Prod.mk x)))
        ⟨s6, upd_same, ys, e6, ?_⟩ (fun j H _ p => .inl (.inl p.2.1)) (fun j y H6 H7 hj p hy => ?_) fun H6 p => ?_
      · rw [List.take_zero, List.map_nil, List.append_nil]
        exact L2.Paired.mapP p4 fun _ _ h => h.mono t6
      · obtain ⟨q1, q2, ys1, q3, q4⟩ := p
        obtain ⟨rfl, hy⟩ := hy
        rw [List.getElem?_map] at hy
        cases hz : (stdN.drop (i + 1))[j]? with
        | none => rw [hz] at hy; cases hy
        | some z =>
        rw [hz] at hy
        cases hy
        refine ⟨rfl, _, rfl, _, rfl, two_le, fun t ht => ⟨ys1, by rw [upd_ne (ne_of_none q3 ht)]; exact q3, ?_, ?_, ?_, ys1 ++ [.ref t], upd_same, ?_⟩⟩
        · have l1 := Paired.length q4
          have l2 := due_len x stdN i j li
          have l4 : stdN.length = 6 := rfl
          have l3 : stdN.length * stdN.length ≤ 10 * 10 := Nat.mul_le_mul (show stdN.length ≤ 10 by decide) (show stdN.length ≤ 10 by decide)
          rw [sizeLine_eq]
          omega
        · exact same_at hD3 (Same.trans q1 (same_new' ht))
        · rw [upd_ne (fun e => by rw [e, q3] at q2; cases q2), upd_ne (ne_of_none q2 ht)]
          exact q2
        · have t7 : Tups H7 (upd (upd H7 t (.tup [.str x, .str z])) D3 (.lst (ys1 ++ [.ref t]))) := Tups.trans (Tups.new ht) (Tups.mut (by rw [upd_ne (ne_of_none q3 ht)]; exact q3) fun xs e => by cases e)
          rw [List.take_succ, hz, List.map_append, ← List.append_assoc]
          refine paired_snoc ⟨t, rfl, .inl ?_⟩ (L2.Paired.mapP q4 fun _ _ h => h.mono t7)
          rw [upd_ne (ne_of_none q3 ht).symm, upd_same]
      · obtain ⟨q1, _, ys1, q3, q4⟩ := p
        refine ⟨q1, ys1, q3, ?_⟩
        rw [List.length_map, List.take_length] at q4
        rw [List.range_succ, List.flatMap_append, List.flatMap_cons, List.flatMap_nil, List.append_nil]
        have e : dueAt stdN i = (stdN.drop (i + 1)).map (Prod.mk x) := by unfold dueAt; rw [hx]
        rw [e]
        exact q4
    obtain ⟨q1, ys3, q3, q4⟩ := p
    rw [List.length_map] at q4
    have q4 : Paired (FP b.K H4) ys3 (dueN stdN) := q4
    have lq := Paired.length q4
    have ld : (dueN stdN).length = 15 := by decide +kernel
    refine ⟨_, rfl, _, rfl, D1, ys1, rfl, .inl ⟨.inl (.inl (q1 _ _ e1)), fun A1 hA1 => ⟨_, rfl, D3, rfl, ⟨_, .inl (.inl ((same_new' hA1) _ _ q3))⟩, fun D4 hD4 => ?_⟩⟩⟩
    have s5 := same_new' (o := .tup ys1) hA1
    refine lc_rel (walk_list (xs := ys3)) (Same (upd H4 A1 (.tup ys1))) (FJ b.K) (fun i => ((dueN stdN)[i]?).map fun e => (e.1, e.2, sj e.1 e.2)) (by rw [lq, ld, sizeLine_eq]; omega) (fun _ _ _ _ t f => f.mono t) (same_new' hD4) (fun H acc acc' s e => same_at hD4 s) (fun H s => .inl (.inl (s _ _ (s5 _ _ q3)))) (fun i y H6 H7 Q' N hi s6 hac hy q => ?_) fun H6 ys6 s6 e6 pa => ?_
    · obtain ⟨rfl, hy⟩ := hy
      obtain ⟨acc, hac⟩ := hac
      obtain ⟨e, he, p, rfl, tp⟩ := paired_at q4 hy
      rw [he] at q
      have tp6 := tp.mono (Same.tups (Same.trans s5 s6))
      obtain ⟨i1, i2⟩ := due_std e (List.mem_of_getElem? he)
      refine ⟨p, _, rfl, tp6.sq, rfl, _, _, rfl, _, _, rfl, rfl, rfl, _, rfl, _, rfl, _, rfl, _, rfl, e.1, e.2, rfl, i1, i2, fun H8 s8 => ⟨three_le, fun t ht => ?_⟩⟩
      refine q _ _ (Same.trans s6 (Same.trans s8 (same_new' ht))) (Same.tups (Same.trans s8 (same_new' ht))) ?_ ⟨t, rfl, .inl upd_same⟩
      rw [upd_ne (ne_of_none (s8 _ _ hac) ht), s8 _ _ hac, hac]
    · rw [lq, range_map] at pa
      refine ⟨D4, ys6, rfl, .inl ⟨.inl (.inl e6), fun A2 hA2 => ⟨three_le, fun mo hmo => ?_⟩⟩⟩
      have s7 := same_new' (o := .tup ys6) hA2
      have s8 := same_new' (o := .tup [.ref p_STANDARD_NAMES, .ref A1, .ref A2]) hmo
      obtain ⟨ps, rfl, w1⟩ := FPts p1
      obtain ⟨js, rfl, w2⟩ := FJs pa
      refine k _ mo (Same.trans s1 (Same.trans q1 (Same.trans s5 (Same.trans s6 (Same.trans s7 s8))))) ⟨p_STANDARD_NAMES, A1, A2, ps, js, .inl upd_same, .inr tn, .inl (s8 _ _ (s7 _ _ (s6 _ _ upd_same))), ?_, .inl (s8 _ _ upd_same), L2.Paired.mapP w2 fun _ _ h => h.mono (Same.tups (Same.trans s7 s8)), ?_, ?_⟩
      · exact L2.Paired.mapP w1 fun _ _ h => s8 _ _ (s7 _ _ (s6 _ _ (s5 _ _ (q1 _ _ h))))
      · exact std_ok
      · exact std_few
end Lk
end
section
set_option maxRecDepth 100000
set_option maxHeartbeats 1000000
/-! The modes of the menu. -/
namespace Lk
open PySem L2

def MDat.lrows (d : MDat) (h m : Str) : List Str := (d.joins.filter fun r => decide ((r.1, r.2.1) = (h, m)) || decide ((r.1, r.2.1) = (m, h))).map fun r => r.2.2
/-- all that is asked of modes, as a test -/
def MDat.chk (d : MDat) : Prop :=
  (d.names.Nodup ∧ d.names ≠ [] ∧ d.names.length ≤ 6 ∧ d.allowed.Nodup ∧ d.allowed.length ≤ 17 ∧ d.joins.length ≤ 100) ∧ ((∀ x ∈ d.names, IsName x) ∧ (∀ e ∈ d.allowed, e.1 ∈ d.names ∧ e.2 ∈ d.names)) ∧
  (∀ e ∈ d.joins, e.1 ∈ d.names ∧ e.2.1 ∈ d.names ∧ e.2.2 ∈ d.names) ∧ d.joins.map (fun r => (r.1, r.2.1)) = dueN d.names ∧
  (∀ kv ∈ d.aj, ∃ x ∈ d.names, ∃ y ∈ d.names, kv.1 = kP x y) ∧
  (∀ x ∈ d.names, ∀ y ∈ d.names, valV d.aj (kP x y) = some (.str (d.J x y)) ∧ d.J x y ∈ d.names) ∧
  (∀ x ∈ d.names, ∀ y ∈ d.names, (valV (aAl d.allowed) (kP x y)).isSome = d.al x y) ∧
  (∀ x ∈ d.names, ∀ y ∈ d.names, ∀ z ∈ d.names, d.al (d.J x y) z = (d.al x z && d.al y z) ∧ d.al z (d.J x y) = (d.al z x && d.al z y) ∧ d.J (d.J x y) z = d.J x (d.J y z)) ∧
  (∀ h ∈ d.names, ∀ m ∈ d.names, h ≠ m → d.rows h m ≠ [] ∧ (∀ r ∈ d.rows h m, r ∈ d.names) ∧ d.lrows h m = d.rows h m)
instance (d : MDat) : Decidable d.chk := by unfold MDat.chk; infer_instance
theorem MDat.chk.fit {d : MDat} (h : d.chk) : d.Fit := fun x hx y hy ne => by
  obtain ⟨h1, h2, h3⟩ := h.2.2.2.2.2.2.2.2 x hx y hy ne
  cases e : d.rows x y with
  | nil => exact absurd e h1
  | cons r l => exact ⟨r, l, rfl, h2 r (by rw [e]; exact .head _)⟩
theorem MDat.chk.good {d : MDat} (h : d.chk) : d.Good where
  nd := h.1.1
  ne := h.1.2.1
  six := h.1.2.2.1
  nda := h.1.2.2.2.1
  few := h.1.2.2.2.2.1
  inj := h.2.2.1
  due := h.2.2.2.1
  ex := ⟨h.2.2.2.2.1, h.2.2.2.2.2.1, h.2.2.2.2.2.2.1, fun x hx y hy z hz => (h.2.2.2.2.2.2.2.1 x hx y hy z hz).1, fun x hx y hy z hz => (h.2.2.2.2.2.2.2.1 x hx y hy z hz).2.1, fun x hx y hy z hz => (h.2.2.2.2.2.2.2.1 x hx y hy z hz).2.2⟩
  fit := h.fit
theorem MDat.chk.few {d : MDat} (h : d.chk) : d.names.length ≤ 100 ∧ d.allowed.length ≤ 100 ∧ d.joins.length ≤ 100 := ⟨by have := h.1.2.2.1; omega, by have := h.1.2.2.2.2.1; omega, h.1.2.2.2.2.2⟩
def dPl : MDat := ⟨["s", "x"], [("s", "s")], [("s", "x", "x")]⟩
def dBa : MDat := ⟨["write", "r"], [("r", "r")], [("write", "r", "write")]⟩
def dUn : MDat := ⟨["s", "u", "x"], [("s", "s"), ("s", "u")], [("s", "u", "u"), ("s", "x", "x"), ("u", "x", "x")]⟩
def dPa : MDat := ⟨["one", "two", "top"], [("one", "one"), ("two", "two")], [("one", "two", "top"), ("one", "top", "top"), ("two", "top", "top")]⟩
def dOn : MDat := ⟨["a"], [("a", "a")], []⟩
def dNo : MDat := ⟨["only"], [], []⟩
theorem k_Pl : dPl.chk := by decide +kernel
theorem k_Ba : dBa.chk := by decide +kernel
theorem k_Un : dUn.chk := by decide +kernel
theorem k_Pa : dPa.chk := by decide +kernel
theorem k_On : dOn.chk := by decide +kernel
theorem k_No : dNo.chk := by decide +kernel
theorem k_Std : dStd.chk := by decide +kernel
end Lk
end
section
/-! A lock table in plain Lean: who holds what, who waits, and the laws about who is stuck. No program here. -/
namespace LT

/-- a function changed at one place -/
def put {α β : Type} [DecidableEq α] (f : α → β) (a : α) (b : β) : α → β := fun x => if x = a then b else f x
theorem put_at {α β : Type} [DecidableEq α] (f : α → β) (a : α) (b : β) : put f a b a = b := by simp [put]
theorem put_off {α β : Type} [DecidableEq α] (f : α → β) {a x : α} (b : β) (h : x ≠ a) : put f a b x = f x := by simp [put, h]

variable {I M : Type} [DecidableEq I] [DecidableEq M]

/-- what modes are for: al h m (h lets m stand beside it), jn h m (what is held then) -/
structure Md (M : Type) where
  al : M → M → Bool
  jn : Option M → M → M

/-- the table's state -/
structure TS (I M : Type) where
  held : I → Int → Option M
  conv : I → List Int
  queue : I → List Int
  asks : Int → Option (I × M)
  got : Int → List I

def TS.empty : TS I M := ⟨fun _ _ => none, fun _ => [], fun _ => [], fun _ => none, fun _ => []⟩

section ops
variable (md : Md M) (U : List Int)

/-- all other holders of i let m stand -/
def lets (ts : TS I M) (o : Int) (i : I) (m : M) : Bool :=
  U.all fun q => decide (q = o) || match ts.held i q with
    | none => true
    | some h => md.al h m

def give (ts : TS I M) (o : Int) (i : I) (m : M) : TS I M :=
  { ts with
    held := put ts.held i (put (ts.held i) o (some m))
    asks := put ts.asks o none
    got := put ts.got o (if i ∈ ts.got o then ts.got o else ts.got o ++ [i]) }

def grants (ts : TS I M) (o : Int) (i : I) (m : M) : Bool :=
  decide (some (md.jn (ts.held i o) m) = ts.held i o) ||
    (lets md U ts o i (md.jn (ts.held i o) m) && (decide (ts.held i o ≠ none) || decide (ts.conv i ++ ts.queue i = [])))

def await (ts : TS I M) (o : Int) (i : I) (m : M) : TS I M :=
  { ts with
    asks := put ts.asks o (some (i, md.jn (ts.held i o) m))
    conv := if ts.held i o = none then ts.conv else put ts.conv i (ts.conv i ++ [o])
    queue := if ts.held i o = none then put ts.queue i (ts.queue i ++ [o]) else ts.queue }

def ask (ts : TS I M) (o : Int) (i : I) (m : M) : Bool × TS I M :=
  if grants md U ts o i m = true then (true, give ts o i (md.jn (ts.held i o) m)) else (false, await md ts o i m)

def outC (ts : TS I M) (o : Int) (i : I) : TS I M := { ts with conv := put ts.conv i ((ts.conv i).erase o) }
def outQ (ts : TS I M) (i : I) (r : List Int) : TS I M := { ts with queue := put ts.queue i r }

def askedMode (ts : TS I M) (o : Int) (d : M) : M := match ts.asks o with
  | some p => p.2
  | none => d

/-- the waiting conversions, in turn -/
def serveC (i : I) : List Int → TS I M → List (Int × I) × TS I M
  | [], ts => ([], ts)
  | o :: r, ts => match ts.asks o with
    | none => serveC i r ts
    | some p => if lets md U ts o i p.2 = true then
        ((o, i) :: (serveC i r (give (outC ts o i) o i p.2)).1, (serveC i r (give (outC ts o i) o i p.2)).2)
      else serveC i r ts

/-- the queue, from its front -/
def serveQ (i : I) : List Int → TS I M → List (Int × I) × TS I M
  | [], ts => ([], ts)
  | o :: r, ts => if ts.conv i = [] then
      match ts.asks o with
      | none => ([], ts)
      | some p => if lets md U ts o i p.2 = true then
          ((o, i) :: (serveQ i r (give (outQ ts i r) o i p.2)).1, (serveQ i r (give (outQ ts i r) o i p.2)).2)
        else ([], ts)
    else ([], ts)

def serve (ts : TS I M) (i : I) : List (Int × I) × TS I M :=
  ((serveC md U i (ts.conv i) ts).1 ++ (serveQ md U i ((serveC md U i (ts.conv i) ts).2.queue i) (serveC md U i (ts.conv i) ts).2).1,
    (serveQ md U i ((serveC md U i (ts.conv i) ts).2.queue i) (serveC md U i (ts.conv i) ts).2).2)

def unhold (ts : TS I M) (o : Int) (i : I) : TS I M :=
  { ts with held := put ts.held i (put (ts.held i) o none), got := put ts.got o ((ts.got o).erase i) }

def freed (ts : TS I M) (o : Int) (i : I) : List (Int × I) × TS I M := serve md U (unhold ts o i) i

def dropAsk (ts : TS I M) (o : Int) (i : I) : TS I M :=
  { ts with
    asks := put ts.asks o none
    conv := put ts.conv i ((ts.conv i).erase o)
    queue := put ts.queue i ((ts.queue i).erase o) }

def freeAll (o : Int) : List I → TS I M → List (Int × I) × TS I M
  | [], ts => ([], ts)
  | i :: r, ts => ((freed md U ts o i).1 ++ (freeAll o r (freed md U ts o i).2).1, (freeAll o r (freed md U ts o i).2).2)

/-- behind the taking away of its ask -/
def quit (ts : TS I M) (o : Int) : List (Int × I) × TS I M := match ts.asks o with
  | none => ([], ts)
  | some p => serve md U (dropAsk ts o p.1) p.1

def finish (ts : TS I M) (o : Int) : List (Int × I) × TS I M :=
  ((quit md U ts o).1 ++ (freeAll md U o ((quit md U ts o).2.got o) (quit md U ts o).2).1, (freeAll md U o ((quit md U ts o).2.got o) (quit md U ts o).2).2)

/-- o waits for b -/
def waits (ts : TS I M) (o b : Int) : Prop := ∃ i m, ts.asks o = some (i, m) ∧
  ((b ≠ o ∧ ∃ h, ts.held i b = some h ∧ md.al h m = false) ∨ (o ∉ ts.conv i ∧ b ∈ ts.conv i ++ (ts.queue i).takeWhile fun q => decide (q ≠ o)))

/-- each of T waits for one of T -/
def SelfSup (ts : TS I M) (T : Int → Prop) : Prop := ∀ a, T a → ∃ b, T b ∧ waits md ts a b
def Stuck (ts : TS I M) (a : Int) : Prop := ∃ T, SelfSup md ts T ∧ T a
end ops

/-! ### what always holds -/
structure WF (U : List Int) (J : List I) (B : List M) (ts : TS I M) : Prop where
  asksIn : ∀ o i m, ts.asks o = some (i, m) → m ∈ B ∧ ((o ∈ ts.conv i) ∨ (o ∈ ts.queue i))
  convAsk : ∀ o i, o ∈ ts.conv i → (∃ m, ts.asks o = some (i, m)) ∧ ts.held i o ≠ none
  queueAsk : ∀ o i, o ∈ ts.queue i → (∃ m, ts.asks o = some (i, m)) ∧ ts.held i o = none
  convNd : ∀ i, (ts.conv i).Nodup
  queueNd : ∀ i, (ts.queue i).Nodup
  gotNd : ∀ o, (ts.got o).Nodup
  gotIff : ∀ o i, i ∈ ts.got o ↔ ts.held i o ≠ none
  heldIn : ∀ i o m, ts.held i o = some m → o ∈ U ∧ i ∈ J ∧ m ∈ B
  asksU : ∀ o i m, ts.asks o = some (i, m) → o ∈ U ∧ i ∈ J

section wf
variable {md : Md M} {U : List Int} {J : List I} {B : List M} {ts : TS I M} {o : Int} {i : I} {m : M}

theorem WF.empty : WF U J B (TS.empty : TS I M) where
  asksIn := fun _ _ _ h => by cases h
  convAsk := fun _ _ h => by cases h
  queueAsk := fun _ _ h => by cases h
  convNd := fun _ => List.nodup_nil
  queueNd := fun _ => List.nodup_nil
  gotNd := fun _ => List.nodup_nil
  gotIff := fun _ _ => ⟨fun h => (by cases h), fun h => (h rfl).elim⟩
  heldIn := fun _ _ _ h => by cases h
  asksU := fun _ _ _ h => by cases h

theorem lets_spec (w : WF U J B ts) : lets md U ts o i m = true ↔ ∀ q h, q ≠ o → ts.held i q = some h → md.al h m = true := by
  unfold lets
  rw [List.all_eq_true]
  constructor
  · intro h q k hq hk
    have z := h q (w.heldIn i q k hk).1
    rw [hk] at z
    simpa [hq] using z
  · intro h q hq
    by_cases e : q = o
    · simp [e]
    · cases hk : ts.held i q with
      | none => simp
      | some k => simpa [e] using h q k e hk

theorem held_give (a : I) (q : Int) : (give ts o i m).held a q = if a = i ∧ q = o then some m else ts.held a q := by
  by_cases e : a = i
  · subst e
    by_cases e2 : q = o
    · subst e2; simp [give, put]
    · simp [give, put, e2]
  · simp [give, put, e]
theorem asks_give (q : Int) : (give ts o i m).asks q = if q = o then none else ts.asks q := rfl
theorem got_give (q : Int) : (give ts o i m).got q = if q = o then (if i ∈ ts.got o then ts.got o else ts.got o ++ [i]) else ts.got q := rfl
theorem conv_give : (give ts o i m).conv = ts.conv := rfl
theorem queue_give : (give ts o i m).queue = ts.queue := rfl

/-- a grant to one that waits nowhere (any more) -/
theorem WF.give (w : WF U J B ts) (ho : o ∈ U) (hi : i ∈ J) (hm : m ∈ B) (hc : ∀ a, o ∉ ts.conv a) (hq : ∀ a, o ∉ ts.queue a) : WF U J B (give ts o i m) where
  asksIn := fun q a k h => by
    rw [asks_give] at h
    by_cases e : q = o
    · rw [if_pos e] at h; cases h
    · rw [if_neg e] at h; exact w.asksIn q a k h
  convAsk := fun q a h => by
    have h : q ∈ ts.conv a := h
    have e : q ≠ o := fun e => hc a (e ▸ h)
    obtain ⟨⟨k, h1⟩, h2⟩ := w.convAsk q a h
    refine ⟨⟨k, by rw [asks_give, if_neg e]; exact h1⟩, ?_⟩
    rw [held_give, if_neg (fun z => e z.2)]
    exact h2
  queueAsk := fun q a h => by
    have h : q ∈ ts.queue a := h
    have e : q ≠ o := fun e => hq a (e ▸ h)
    obtain ⟨⟨k, h1⟩, h2⟩ := w.queueAsk q a h
    refine ⟨⟨k, by rw [asks_give, if_neg e]; exact h1⟩, ?_⟩
    rw [held_give, if_neg (fun z => e z.2)]
    exact h2
  convNd := w.convNd
  queueNd := w.queueNd
  gotNd := fun q => by
    rw [got_give]
    by_cases e : q = o
    · rw [if_pos e]
      by_cases h : i ∈ ts.got o
      · rw [if_pos h]; exact w.gotNd o
      · rw [if_neg h, List.nodup_append]
        refine ⟨w.gotNd o, by simp, fun x hx y hy e => h ?_⟩
        have hy : y = i := by simpa using hy
        rw [← hy, ← e]; exact hx
    · rw [if_neg e]; exact w.gotNd q
  gotIff := fun q a => by
    rw [got_give, held_give]
    by_cases e : q = o
    · subst e
      rw [if_pos rfl]
      by_cases e2 : a = i
      · subst e2
        rw [if_pos (show a = a ∧ q = q from ⟨rfl, rfl⟩)]
        by_cases h : a ∈ ts.got q
        · rw [if_pos h]; exact ⟨fun _ z => (by cases z), fun _ => h⟩
        · rw [if_neg h]; exact ⟨fun _ z => (by cases z), fun _ => List.mem_append_right _ List.mem_cons_self⟩
      · rw [if_neg (fun z : a = i ∧ q = q => e2 z.1), ← w.gotIff q a]
        by_cases h : i ∈ ts.got q
        · rw [if_pos h]
        · rw [if_neg h, List.mem_append]
          exact ⟨fun z => z.elim id (fun z => (e2 (by simpa using z)).elim), Or.inl⟩
    · rw [if_neg e, if_neg (fun z => e z.2)]
      exact w.gotIff q a
  heldIn := fun a q k h => by
    rw [held_give] at h
    by_cases e : a = i ∧ q = o
    · rw [if_pos e] at h
      rw [e.1, e.2]
      cases h
      exact ⟨ho, hi, hm⟩
    · rw [if_neg e] at h
      exact w.heldIn a q k h
  asksU := fun q a k h => by
    rw [asks_give] at h
    by_cases e : q = o
    · rw [if_pos e] at h; cases h
    · rw [if_neg e] at h; exact w.asksU q a k h

theorem WF.free_conv (w : WF U J B ts) (h : ts.asks o = none) (a : I) : o ∉ ts.conv a := fun z => by
  obtain ⟨⟨k, e⟩, _⟩ := w.convAsk o a z
  rw [h] at e; cases e
theorem WF.free_queue (w : WF U J B ts) (h : ts.asks o = none) (a : I) : o ∉ ts.queue a := fun z => by
  obtain ⟨⟨k, e⟩, _⟩ := w.queueAsk o a z
  rw [h] at e; cases e

theorem erase_notin {α : Type} [DecidableEq α] {l : List α} {x : α} (h : l.Nodup) : x ∉ l.erase x := fun z => (List.Nodup.mem_erase_iff h).mp z |>.1 rfl
theorem mem_erase {α : Type} [DecidableEq α] {l : List α} {x y : α} (h : y ≠ x) : y ∈ l.erase x ↔ y ∈ l := List.mem_erase_of_ne h

/-- its ask taken away, wherever it stands -/
theorem WF.dropAsk (w : WF U J B ts) (h : ts.asks o = some (i, m)) : WF U J B (dropAsk ts o i) ∧ (∀ a, o ∉ (dropAsk ts o i).conv a) ∧ (∀ a, o ∉ (dropAsk ts o i).queue a) := by
  have at1 : ∀ a, a ≠ i → o ∉ ts.conv a := fun a ne z => by
    obtain ⟨⟨k, e⟩, _⟩ := w.convAsk o a z
    rw [h] at e; cases e; exact ne rfl
  have at2 : ∀ a, a ≠ i → o ∉ ts.queue a := fun a ne z => by
    obtain ⟨⟨k, e⟩, _⟩ := w.queueAsk o a z
    rw [h] at e; cases e; exact ne rfl
  have hc : ∀ a, (LT.dropAsk ts o i).conv a = if a = i then (ts.conv i).erase o else ts.conv a := fun _ => rfl
  have hq : ∀ a, (LT.dropAsk ts o i).queue a = if a = i then (ts.queue i).erase o else ts.queue a := fun _ => rfl
  have ha : ∀ q, (LT.dropAsk ts o i).asks q = if q = o then none else ts.asks q := fun _ => rfl
  have no1 : ∀ a, o ∉ (LT.dropAsk ts o i).conv a := fun a => by
    rw [hc]
    by_cases e : a = i
    · rw [if_pos e]; exact erase_notin (w.convNd i)
    · rw [if_neg e]; exact at1 a e
  have no2 : ∀ a, o ∉ (LT.dropAsk ts o i).queue a := fun a => by
    rw [hq]
    by_cases e : a = i
    · rw [if_pos e]; exact erase_notin (w.queueNd i)
    · rw [if_neg e]; exact at2 a e
  have sub1 : ∀ a q, q ∈ (LT.dropAsk ts o i).conv a → q ∈ ts.conv a := fun a q z => by
    rw [hc] at z
    by_cases e : a = i
    · rw [if_pos e] at z; rw [e]; exact List.mem_of_mem_erase z
    · rw [if_neg e] at z; exact z
  have sub2 : ∀ a q, q ∈ (LT.dropAsk ts o i).queue a → q ∈ ts.queue a := fun a q z => by
    rw [hq] at z
    by_cases e : a = i
    · rw [if_pos e] at z; rw [e]; exact List.mem_of_mem_erase z
    · rw [if_neg e] at z; exact z
  refine ⟨⟨fun q a k z => ?_, fun q a z => ?_, fun q a z => ?_, fun a => ?_, fun a => ?_, w.gotNd, w.gotIff, w.heldIn, fun q a k z => ?_⟩, no1, no2⟩
  · rw [ha] at z
    by_cases e : q = o
    · rw [if_pos e] at z; cases z
    · rw [if_neg e] at z
      obtain ⟨z1, z2⟩ := w.asksIn q a k z
      refine ⟨z1, z2.imp (fun z => ?_) (fun z => ?_)⟩
      · rw [hc]
        by_cases e2 : a = i
        · rw [if_pos e2, mem_erase e, ← e2]; exact z
        · rw [if_neg e2]; exact z
      · rw [hq]
        by_cases e2 : a = i
        · rw [if_pos e2, mem_erase e, ← e2]; exact z
        · rw [if_neg e2]; exact z
  · have e : q ≠ o := fun e => no1 a (e ▸ z)
    obtain ⟨⟨k, h1⟩, h2⟩ := w.convAsk q a (sub1 a q z)
    exact ⟨⟨k, by rw [ha, if_neg e]; exact h1⟩, h2⟩
  · have e : q ≠ o := fun e => no2 a (e ▸ z)
    obtain ⟨⟨k, h1⟩, h2⟩ := w.queueAsk q a (sub2 a q z)
    exact ⟨⟨k, by rw [ha, if_neg e]; exact h1⟩, h2⟩
  · rw [hc]
    by_cases e : a = i
    · rw [if_pos e]; exact (w.convNd i).erase o
    · rw [if_neg e]; exact w.convNd a
  · rw [hq]
    by_cases e : a = i
    · rw [if_pos e]; exact (w.queueNd i).erase o
    · rw [if_neg e]; exact w.queueNd a
  · rw [ha] at z
    by_cases e : q = o
    · rw [if_pos e] at z; cases z
    · rw [if_neg e] at z; exact w.asksU q a k z

/-- a conversion granted is a dropped ask and a grant -/
theorem give_outC (w : WF U J B ts) (h : ts.asks o = some (i, m)) (hc : o ∈ ts.conv i) : LT.give (outC ts o i) o i m = LT.give (LT.dropAsk ts o i) o i m := by
  have hq : o ∉ ts.queue i := fun z => (w.convAsk o i hc).2 (w.queueAsk o i z).2
  have e1 : (ts.queue i).erase o = ts.queue i := List.erase_of_not_mem hq
  have e2 : put ts.queue i ((ts.queue i).erase o) = ts.queue := by
    funext a
    by_cases e : a = i
    · rw [e, put_at, e1]
    · rw [put_off _ _ e]
  have e3 : put (put ts.asks o none) o none = put ts.asks o none := by
    funext q
    by_cases e : q = o
    · rw [e, put_at, put_at]
    · rw [put_off _ _ e]
  unfold LT.give outC LT.dropAsk
  simp only [e2, e3]
theorem give_outQ (w : WF U J B ts) {r : List Int} (h : ts.asks o = some (i, m)) (hq : ts.queue i = o :: r) : LT.give (outQ ts i r) o i m = LT.give (LT.dropAsk ts o i) o i m := by
  have hm : o ∈ ts.queue i := by rw [hq]; exact List.mem_cons_self
  have hc : o ∉ ts.conv i := fun z => (w.convAsk o i z).2 (w.queueAsk o i hm).2
  have e1 : (ts.conv i).erase o = ts.conv i := List.erase_of_not_mem hc
  have e2 : put ts.conv i ((ts.conv i).erase o) = ts.conv := by
    funext a
    by_cases e : a = i
    · rw [e, put_at, e1]
    · rw [put_off _ _ e]
  have e4 : (ts.queue i).erase o = r := by rw [hq]; simp
  have e3 : put (put ts.asks o none) o none = put ts.asks o none := by
    funext q
    by_cases e : q = o
    · rw [e, put_at, put_at]
    · rw [put_off _ _ e]
  unfold LT.give outQ LT.dropAsk
  simp only [e2, e3, e4]

theorem WF.unhold (w : WF U J B ts) (h : ts.asks o = none) : WF U J B (unhold ts o i) := by
  have hh : ∀ a q, (LT.unhold ts o i).held a q = if a = i ∧ q = o then none else ts.held a q := fun a q => by
    by_cases e : a = i
    · subst e
      by_cases e2 : q = o
      · subst e2; simp [LT.unhold, put]
      · simp [LT.unhold, put, e2]
    · simp [LT.unhold, put, e]
  have hg : ∀ q, (LT.unhold ts o i).got q = if q = o then (ts.got o).erase i else ts.got q := fun _ => rfl
  refine ⟨w.asksIn, fun q a z => ?_, fun q a z => ?_, w.convNd, w.queueNd, fun q => ?_, fun q a => ?_, fun a q k z => ?_, w.asksU⟩
  · have e : q ≠ o := fun e => w.free_conv h a (e ▸ z)
    obtain ⟨h1, h2⟩ := w.convAsk q a z
    refine ⟨h1, ?_⟩
    rw [hh, if_neg (fun y => e y.2)]; exact h2
  · have e : q ≠ o := fun e => w.free_queue h a (e ▸ z)
    obtain ⟨h1, h2⟩ := w.queueAsk q a z
    refine ⟨h1, ?_⟩
    rw [hh, if_neg (fun y => e y.2)]; exact h2
  · rw [hg]
    by_cases e : q = o
    · rw [if_pos e]; exact (w.gotNd o).erase i
    · rw [if_neg e]; exact w.gotNd q
  · rw [hg, hh]
    by_cases e : q = o
    · subst e
      rw [if_pos rfl]
      by_cases e2 : a = i
      · subst e2
        rw [if_pos ⟨rfl, rfl⟩]
        exact ⟨fun z => (erase_notin (w.gotNd q) z).elim, fun z => (z rfl).elim⟩
      · rw [if_neg (fun z => e2 z.1), mem_erase e2]
        exact w.gotIff q a
    · rw [if_neg e, if_neg (fun z => e z.2)]
      exact w.gotIff q a
  · rw [hh] at z
    by_cases e : a = i ∧ q = o
    · rw [if_pos e] at z; cases z
    · rw [if_neg e] at z; exact w.heldIn a q k z

/-- it asks, and waits -/
theorem WF.await (w : WF U J B ts) (h : ts.asks o = none) (ho : o ∈ U) (hi : i ∈ J) (hb : md.jn (ts.held i o) m ∈ B) : WF U J B (await md ts o i m) := by
  have ha : ∀ q, (LT.await md ts o i m).asks q = if q = o then some (i, md.jn (ts.held i o) m) else ts.asks q := fun _ => rfl
  have hc : ∀ a, (LT.await md ts o i m).conv a = if ts.held i o = none then ts.conv a else if a = i then ts.conv i ++ [o] else ts.conv a := fun a => by
    unfold LT.await
    by_cases e : ts.held i o = none
    · simp only [e, if_true]
    · simp only [e, if_false]; rfl
  have hq : ∀ a, (LT.await md ts o i m).queue a = if ts.held i o = none then (if a = i then ts.queue i ++ [o] else ts.queue a) else ts.queue a := fun a => by
    unfold LT.await
    by_cases e : ts.held i o = none
    · simp only [e, if_true]; rfl
    · simp only [e, if_false]
  refine ⟨fun q a k z => ?_, fun q a z => ?_, fun q a z => ?_, fun a => ?_, fun a => ?_, w.gotNd, w.gotIff, w.heldIn, fun q a k z => ?_⟩
  · rw [ha] at z
    by_cases e : q = o
    · rw [if_pos e] at z
      cases z
      refine ⟨hb, ?_⟩
      rw [hc, hq, e]
      by_cases e2 : ts.held i o = none
      · rw [if_pos e2, if_pos e2, if_pos rfl]; right; simp
      · rw [if_neg e2, if_neg e2, if_pos rfl]; left; simp
    · rw [if_neg e] at z
      obtain ⟨z1, z2⟩ := w.asksIn q a k z
      refine ⟨z1, z2.imp (fun z => ?_) (fun z => ?_)⟩
      · rw [hc]
        by_cases e2 : ts.held i o = none
        · rw [if_pos e2]; exact z
        · rw [if_neg e2]
          by_cases e3 : a = i
          · rw [if_pos e3]; rw [e3] at z; exact List.mem_append_left _ z
          · rw [if_neg e3]; exact z
      · rw [hq]
        by_cases e2 : ts.held i o = none
        · rw [if_pos e2]
          by_cases e3 : a = i
          · rw [if_pos e3]; rw [e3] at z; exact List.mem_append_left _ z
          · rw [if_neg e3]; exact z
        · rw [if_neg e2]; exact z
  · rw [hc] at z
    have old : q ∈ ts.conv a → (∃ k, (LT.await md ts o i m).asks q = some (a, k)) ∧ ts.held a q ≠ none := fun z => by
      have e : q ≠ o := fun e => w.free_conv h a (e ▸ z)
      obtain ⟨⟨k, h1⟩, h2⟩ := w.convAsk q a z
      exact ⟨⟨k, by rw [ha, if_neg e]; exact h1⟩, h2⟩
    by_cases e2 : ts.held i o = none
    · rw [if_pos e2] at z; exact old z
    · rw [if_neg e2] at z
      by_cases e3 : a = i
      · rw [if_pos e3] at z
        rcases List.mem_append.mp z with z | z
        · exact old (e3 ▸ z)
        · have e : q = o := by simpa using z
          rw [e, e3]
          exact ⟨⟨_, by rw [ha, if_pos rfl]⟩, e2⟩
      · rw [if_neg e3] at z; exact old z
  · rw [hq] at z
    have old : q ∈ ts.queue a → (∃ k, (LT.await md ts o i m).asks q = some (a, k)) ∧ ts.held a q = none := fun z => by
      have e : q ≠ o := fun e => w.free_queue h a (e ▸ z)
      obtain ⟨⟨k, h1⟩, h2⟩ := w.queueAsk q a z
      exact ⟨⟨k, by rw [ha, if_neg e]; exact h1⟩, h2⟩
    by_cases e2 : ts.held i o = none
    · rw [if_pos e2] at z
      by_cases e3 : a = i
      · rw [if_pos e3] at z
        rcases List.mem_append.mp z with z | z
        · exact old (e3 ▸ z)
        · have e : q = o := by simpa using z
          rw [e, e3]
          exact ⟨⟨_, by rw [ha, if_pos rfl]⟩, e2⟩
      · rw [if_neg e3] at z; exact old z
    · rw [if_neg e2] at z; exact old z
  · rw [hc]
    have nd : (ts.conv i ++ [o]).Nodup := by
      rw [List.nodup_append]
      refine ⟨w.convNd i, by simp, fun x hx y hy e => w.free_conv h i ?_⟩
      have hy : y = o := by simpa using hy
      rw [← hy, ← e]; exact hx
    by_cases e2 : ts.held i o = none
    · rw [if_pos e2]; exact w.convNd a
    · rw [if_neg e2]
      by_cases e3 : a = i
      · rw [if_pos e3]; exact nd
      · rw [if_neg e3]; exact w.convNd a
  · rw [hq]
    have nd : (ts.queue i ++ [o]).Nodup := by
      rw [List.nodup_append]
      refine ⟨w.queueNd i, by simp, fun x hx y hy e => w.free_queue h i ?_⟩
      have hy : y = o := by simpa using hy
      rw [← hy, ← e]; exact hx
    by_cases e2 : ts.held i o = none
    · rw [if_pos e2]
      by_cases e3 : a = i
      · rw [if_pos e3]; exact nd
      · rw [if_neg e3]; exact w.queueNd a
    · rw [if_neg e2]; exact w.queueNd a
  · rw [ha] at z
    by_cases e : q = o
    · rw [if_pos e] at z
      cases z
      rw [e]
      exact ⟨ho, hi⟩
    · rw [if_neg e] at z; exact w.asksU q a k z
end wf

/-! ### the steps of a serving, a freeing, an ending -/
/-- one step while y frees or ends -/
inductive Step (md : Md M) (U : List Int) (y : Int) : TS I M → TS I M → Prop
  | drop {ts i m} : ts.asks y = some (i, m) → Step md U y ts (dropAsk ts y i)
  | grantC {ts c i m} : ts.asks c = some (i, m) → c ∈ ts.conv i → lets md U ts c i m = true → Step md U y ts (give (dropAsk ts c i) c i m)
  | grantQ {ts c i m r} : ts.asks c = some (i, m) → ts.conv i = [] → ts.queue i = c :: r → lets md U ts c i m = true → Step md U y ts (give (dropAsk ts c i) c i m)
  | unhold {ts i} : ts.asks y = none → Step md U y ts (unhold ts y i)

inductive Steps (md : Md M) (U : List Int) (y : Int) : TS I M → TS I M → Prop
  | refl {ts} : Steps md U y ts ts
  | cons {a b c} : Step md U y a b → Steps md U y b c → Steps md U y a c
theorem Steps.trans {md : Md M} {U : List Int} {y : Int} {a b c : TS I M} (h : Steps md U y a b) (k : Steps md U y b c) : Steps md U y a c := by
  induction h with
  | refl => exact k
  | cons s _ ih => exact .cons s (ih k)
theorem Steps.one {md : Md M} {U : List Int} {y : Int} {a b : TS I M} (h : Step md U y a b) : Steps md U y a b := .cons h .refl

section steps
variable {md : Md M} {U : List Int} {J : List I} {B : List M} {ts ts' : TS I M} {y o : Int} {i : I} {m : M}

theorem conv_drop (a : I) : (dropAsk ts o i).conv a = if a = i then (ts.conv i).erase o else ts.conv a := rfl
theorem queue_drop (a : I) : (dropAsk ts o i).queue a = if a = i then (ts.queue i).erase o else ts.queue a := rfl
theorem asks_drop (q : Int) : (dropAsk ts o i).asks q = if q = o then none else ts.asks q := rfl
theorem held_drop : (dropAsk ts o i).held = ts.held := rfl
theorem got_drop : (dropAsk ts o i).got = ts.got := rfl
theorem held_unhold (a : I) (q : Int) : (unhold ts o i).held a q = if a = i ∧ q = o then none else ts.held a q := by
  by_cases e : a = i
  · subst e
    by_cases e2 : q = o
    · subst e2; simp [unhold, put]
    · simp [unhold, put, e2]
  · simp [unhold, put, e]

theorem WF.grant (w : WF U J B ts) (h : ts.asks o = some (i, m)) : WF U J B (LT.give (LT.dropAsk ts o i) o i m) := by
  obtain ⟨w', h1, h2⟩ := w.dropAsk h
  obtain ⟨z1, z2⟩ := w.asksU o i m h
  exact w'.give z1 z2 (w.asksIn o i m h).1 h1 h2
theorem Step.wf (s : Step md U y ts ts') (w : WF U J B ts) : WF U J B ts' := by
  cases s with
  | drop h => exact (w.dropAsk h).1
  | grantC h _ _ => exact w.grant h
  | grantQ h _ _ _ => exact w.grant h
  | unhold h => exact w.unhold h
theorem Steps.wf (s : Steps md U y ts ts') : WF U J B ts → WF U J B ts' := by
  induction s with
  | refl => exact id
  | cons s _ ih => exact fun w => ih (s.wf w)

/-- what a step does, as one form: c leaves its place (if it had one), and c's hold at one item changes -/
structure Moved (c : Int) (ts ts' : TS I M) : Prop where
  asks : ∀ q, q ≠ c → ts'.asks q = ts.asks q
  gone : ts'.asks c = none
  held : ∀ a q, q ≠ c → ts'.held a q = ts.held a q
  got : ∀ q, q ≠ c → ts'.got q = ts.got q
  conv : ∀ a q, q ≠ c → (q ∈ ts'.conv a ↔ q ∈ ts.conv a)
  queue : ∀ a, ts'.queue a = (ts.queue a).erase c
theorem moved_give {ts : TS I M} : Moved o (dropAsk ts o i) (give (dropAsk ts o i) o i m) → True := fun _ => trivial
theorem moved_drop (w : WF U J B ts) (h : ts.asks o = some (i, m)) : Moved o ts (dropAsk ts o i) where
  asks := fun q e => by rw [asks_drop, if_neg e]
  gone := by rw [asks_drop, if_pos rfl]
  held := fun _ _ _ => rfl
  got := fun _ _ => rfl
  conv := fun a q e => by
    rw [conv_drop]
    by_cases e2 : a = i
    · rw [if_pos e2, mem_erase e, e2]
    · rw [if_neg e2]
  queue := fun a => by
    rw [queue_drop]
    by_cases e2 : a = i
    · rw [if_pos e2, e2]
    · rw [if_neg e2]
      exact (List.erase_of_not_mem fun z => by
        obtain ⟨⟨k, e⟩, _⟩ := w.queueAsk o a z
        rw [h] at e; cases e; exact e2 rfl).symm
theorem moved_grant (w : WF U J B ts) (h : ts.asks o = some (i, m)) : Moved o ts (give (dropAsk ts o i) o i m) := by
  have d := moved_drop w h
  refine ⟨fun q e => ?_, ?_, fun a q e => ?_, fun q e => ?_, fun a q e => ?_, fun a => ?_⟩
  · rw [asks_give, if_neg e]; exact d.asks q e
  · rw [asks_give, if_pos rfl]
  · rw [held_give, if_neg fun z => e z.2]; exact d.held a q e
  · rw [got_give, if_neg e]; exact d.got q e
  · rw [conv_give]; exact d.conv a q e
  · rw [queue_give]; exact d.queue a
theorem moved_unhold (w : WF U J B ts) (h : ts.asks o = none) : Moved o ts (unhold ts o i) where
  asks := fun _ _ => rfl
  gone := h
  held := fun a q e => by rw [held_unhold, if_neg fun z => e z.2]
  got := fun q e => by show put ts.got o _ q = _; rw [put_off _ _ e]
  conv := fun _ _ _ => Iff.rfl
  queue := fun a => (List.erase_of_not_mem (w.free_queue h a)).symm
/-- the mover of a step: y itself, or one whose ask is let -/
theorem Step.mover (s : Step md U y ts ts') (w : WF U J B ts) : ∃ c, Moved c ts ts' ∧ (c = y ∨ ∃ i m, ts.asks c = some (i, m) ∧ lets md U ts c i m = true ∧ (c ∈ ts.conv i ∨ ts.conv i = [] ∧ ∃ r, ts.queue i = c :: r)) := by
  cases s with
  | drop h => exact ⟨y, moved_drop w h, .inl rfl⟩
  | grantC h hc hl => exact ⟨_, moved_grant w h, .inr ⟨_, _, h, hl, .inl hc⟩⟩
  | grantQ h hc hq hl => exact ⟨_, moved_grant w h, .inr ⟨_, _, h, hl, .inr ⟨hc, _, hq⟩⟩⟩
  | unhold h => exact ⟨y, moved_unhold w h, .inl rfl⟩

/-! ### ahead of one in the queue -/
abbrev ahead (l : List Int) (o : Int) : List Int := l.takeWhile fun q => decide (q ≠ o)
theorem mem_ahead_erase {a b c : Int} (ha : a ≠ c) (hb : b ≠ c) : ∀ l : List Int, b ∈ ahead (l.erase c) a ↔ b ∈ ahead l a
  | [] => Iff.rfl
  | x :: l => by
    have ih := mem_ahead_erase ha hb l
    by_cases e : x = c
    · subst e
      have e1 : (x :: l).erase x = l := by simp
      rw [e1]
      unfold ahead
      rw [List.takeWhile_cons, if_pos (by simpa using Ne.symm ha), List.mem_cons]
      exact ⟨Or.inr, fun z => z.elim (fun z => (hb z).elim) id⟩
    · have e1 : (x :: l).erase c = x :: l.erase c := by
        rw [List.erase_cons, if_neg (by simpa using e)]
      rw [e1]
      unfold ahead at ih ⊢
      rw [List.takeWhile_cons, List.takeWhile_cons]
      by_cases e2 : x = a
      · rw [if_neg (by simp [e2]), if_neg (by simp [e2])]
      · rw [if_pos (by simpa using e2), if_pos (by simpa using e2), List.mem_cons, List.mem_cons, ih]
theorem mem_ahead_append {a b : Int} {l r : List Int} (h : b ∈ ahead l a) : b ∈ ahead (l ++ r) a := by
  induction l with
  | nil => cases h
  | cons x l ih =>
    unfold ahead at h ih ⊢
    rw [List.cons_append, List.takeWhile_cons]
    rw [List.takeWhile_cons] at h
    by_cases e : decide (x ≠ a) = true
    · rw [if_pos e] at h ⊢
      rcases List.mem_cons.mp h with h | h
      · rw [h]; exact List.mem_cons_self
      · exact List.mem_cons_of_mem _ (ih h)
    · rw [if_neg e] at h; cases h

/-- whom others wait for does not hang on the mover -/
theorem Moved.waits {c a b : Int} (mv : Moved c ts ts') (ha : a ≠ c) (hb : b ≠ c) : waits md ts' a b ↔ waits md ts a b := by
  unfold LT.waits
  constructor
  · rintro ⟨i, m, h, k⟩
    rw [mv.asks a ha] at h
    refine ⟨i, m, h, k.imp ?_ ?_⟩
    · rintro ⟨e, x, hx, z⟩
      rw [mv.held i b hb] at hx
      exact ⟨e, x, hx, z⟩
    · rintro ⟨e, z⟩
      rw [mv.conv i a ha] at e
      refine ⟨e, ?_⟩
      rw [List.mem_append] at z ⊢
      rw [mv.conv i b hb, mv.queue i, mem_ahead_erase ha hb] at z
      exact z
  · rintro ⟨i, m, h, k⟩
    refine ⟨i, m, by rw [mv.asks a ha]; exact h, k.imp ?_ ?_⟩
    · rintro ⟨e, x, hx, z⟩
      exact ⟨e, x, by rw [mv.held i b hb]; exact hx, z⟩
    · rintro ⟨e, z⟩
      refine ⟨by rw [mv.conv i a ha]; exact e, ?_⟩
      rw [List.mem_append] at z ⊢
      rw [mv.conv i b hb, mv.queue i, mem_ahead_erase ha hb]
      exact z

/-- the asks and holds of some are what they were -/
def Fast (T : Int → Prop) (ts ts' : TS I M) : Prop := ∀ a, T a → ts'.asks a = ts.asks a ∧ ts'.got a = ts.got a ∧ ∀ i, ts'.held i a = ts.held i a
theorem Fast.refl {T : Int → Prop} : Fast T ts ts := fun _ _ => ⟨rfl, rfl, fun _ => rfl⟩
theorem Fast.trans {T : Int → Prop} {a b c : TS I M} (h : Fast T a b) (k : Fast T b c) : Fast T a c := fun x hx =>
  ⟨(k x hx).1.trans (h x hx).1, (k x hx).2.1.trans (h x hx).2.1, fun i => ((k x hx).2.2 i).trans ((h x hx).2.2 i)⟩

theorem Step.keeps (s : Step md U y ts ts') (w : WF U J B ts) {T : Int → Prop} (h : SelfSup md ts T) (hy : ¬ T y) : SelfSup md ts' T ∧ Fast T ts ts' := by
  obtain ⟨c, mv, hc⟩ := s.mover w
  have nc : ¬ T c := by
    rcases hc with e | ⟨i, m, hm, hl, hp⟩
    · rw [e]; exact hy
    · intro z
      obtain ⟨b, hb, i', m', h1, h2⟩ := h c z
      rw [hm] at h1
      cases h1
      rcases h2 with ⟨ne, x, hx, hn⟩ | ⟨nc, hm2⟩
      · have := (lets_spec w).mp hl b x ne hx
        rw [hn] at this; cases this
      · rcases hp with hp | ⟨e1, r, e2⟩
        · exact nc hp
        · rw [e1, e2, List.nil_append, List.takeWhile_cons, if_neg (by simp)] at hm2
          cases hm2
  have ne : ∀ a, T a → a ≠ c := fun a ha e => nc (e ▸ ha)
  refine ⟨fun a ha => ?_, fun a ha => ⟨mv.asks a (ne a ha), mv.got a (ne a ha), fun i => mv.held i a (ne a ha)⟩⟩
  obtain ⟨b, hb, hw⟩ := h a ha
  exact ⟨b, hb, (mv.waits (ne a ha) (ne b hb)).mpr hw⟩
/-- (1) who is stuck stays stuck, holds and asks for what it did, when others free and end -/
theorem Steps.keeps (s : Steps md U y ts ts') : WF U J B ts → ∀ {T : Int → Prop}, SelfSup md ts T → ¬ T y → SelfSup md ts' T ∧ Fast T ts ts' := by
  induction s with
  | refl => exact fun _ T h _ => ⟨h, Fast.refl⟩
  | cons s _ ih =>
    intro w T h hy
    obtain ⟨h1, f1⟩ := s.keeps w h hy
    obtain ⟨h2, f2⟩ := ih (s.wf w) h1 hy
    exact ⟨h2, f1.trans f2⟩
/-- (2) a freeing, an ending makes nobody stuck -/
theorem Steps.none_new (s : Steps md U y ts ts') : WF U J B ts → ∀ {T : Int → Prop}, SelfSup md ts' T → SelfSup md ts T := by
  induction s with
  | refl => exact fun _ T h => h
  | cons s _ ih =>
    intro w T h
    have h1 := ih (s.wf w) h
    obtain ⟨c, mv, _⟩ := s.mover w
    have nc : ¬ T c := fun z => by
      obtain ⟨b, _, i, m, hm, _⟩ := h1 c z
      rw [mv.gone] at hm; cases hm
    have ne : ∀ a, T a → a ≠ c := fun a ha e => nc (e ▸ ha)
    intro a ha
    obtain ⟨b, hb, hw⟩ := h1 a ha
    exact ⟨b, hb, (mv.waits (ne a ha) (ne b hb)).mp hw⟩

/-! ### an ask -/
theorem grants_spec (w : WF U J B ts) (h : grants md U ts o i m = false) (_ : ts.asks o = none) : True := trivial
theorem ask_keeps (w : WF U J B ts) {T : Int → Prop} (h : SelfSup md ts T) (ho : ¬ T o) : SelfSup md (ask md U ts o i m).2 T ∧ Fast T ts (ask md U ts o i m).2 := by
  have ne : ∀ a, T a → a ≠ o := fun a ha e => ho (e ▸ ha)
  unfold ask
  by_cases g : grants md U ts o i m = true
  · rw [if_pos g]
    refine ⟨fun a ha => ?_, fun a ha => ⟨by rw [asks_give, if_neg (ne a ha)], by rw [got_give, if_neg (ne a ha)], fun j => by rw [held_give, if_neg fun z => ne a ha z.2]⟩⟩
    obtain ⟨b, hb, j, k, h1, h2⟩ := h a ha
    refine ⟨b, hb, j, k, by rw [asks_give, if_neg (ne a ha)]; exact h1, h2.imp ?_ id⟩
    rintro ⟨e, x, hx, z⟩
    exact ⟨e, x, by rw [held_give, if_neg fun z => ne b hb z.2]; exact hx, z⟩
  · rw [if_neg g]
    have e1 : ∀ a, a ≠ o → (await md ts o i m).asks a = ts.asks a := fun a e => put_off _ _ e
    refine ⟨fun a ha => ?_, fun a ha => ⟨e1 a (ne a ha), rfl, fun _ => rfl⟩⟩
    obtain ⟨b, hb, j, k, h1, h2⟩ := h a ha
    refine ⟨b, hb, j, k, (e1 a (ne a ha)).trans h1, h2.imp id ?_⟩
    rintro ⟨e, z⟩
    unfold await
    by_cases hn : ts.held i o = none
    · simp only [hn, if_true]
      refine ⟨e, ?_⟩
      rw [List.mem_append] at z ⊢
      refine z.imp id fun z => ?_
      by_cases ej : j = i
      · rw [ej, put_at]; rw [ej] at z; exact mem_ahead_append z
      · rw [put_off _ _ ej]; exact z
    · simp only [hn, if_false]
      by_cases ej : j = i
      · rw [ej, put_at]
        rw [ej] at e z
        refine ⟨fun y => (List.mem_append.mp y).elim e fun y => ne a ha (by simpa using y), ?_⟩
        rw [List.mem_append] at z ⊢
        exact z.imp (List.mem_append_left _) id
      · rw [put_off _ _ ej]
        exact ⟨e, z⟩
theorem ask_wf (w : WF U J B ts) (h : ts.asks o = none) (ho : o ∈ U) (hi : i ∈ J) (hb : md.jn (ts.held i o) m ∈ B) : WF U J B (ask md U ts o i m).2 := by
  unfold ask
  by_cases g : grants md U ts o i m = true
  · rw [if_pos g]
    exact w.give ho hi hb (w.free_conv h) (w.free_queue h)
  · rw [if_neg g]
    exact w.await h ho hi hb

/-! ### servings and endings are steps -/
theorem serveC_steps (w : WF U J B ts) : ∀ (l : List Int), (∀ q ∈ l, q ∈ ts.conv i) → l.Nodup → Steps md U y ts (serveC md U i l ts).2 := by
  intro l
  induction l generalizing ts with
  | nil => exact fun _ _ => .refl
  | cons q l ih =>
    intro hl hn
    rw [List.nodup_cons] at hn
    have hq := hl q List.mem_cons_self
    obtain ⟨⟨m, hm⟩, hh⟩ := w.convAsk q i hq
    unfold serveC
    rw [hm]
    simp only
    by_cases g : lets md U ts q i m = true
    · rw [if_pos g, give_outC w hm hq]
      refine .cons (.grantC hm hq g) (ih (w.grant hm) (fun z hz => ?_) hn.2)
      have ne : z ≠ q := fun e => hn.1 (e ▸ hz)
      rw [conv_give, conv_drop, if_pos rfl, mem_erase ne]
      exact hl z (List.mem_cons_of_mem _ hz)
    · rw [if_neg g]
      exact ih w (fun z hz => hl z (List.mem_cons_of_mem _ hz)) hn.2
theorem serveQ_steps (w : WF U J B ts) : ∀ (l : List Int), ts.queue i = l → Steps md U y ts (serveQ md U i l ts).2 := by
  intro l
  induction l generalizing ts with
  | nil => exact fun _ => .refl
  | cons q l ih =>
    intro hl
    obtain ⟨⟨m, hm⟩, hh⟩ := w.queueAsk q i (by rw [hl]; exact List.mem_cons_self)
    unfold serveQ
    by_cases hc : ts.conv i = []
    · rw [if_pos hc, hm]
      simp only
      by_cases g : lets md U ts q i m = true
      · rw [if_pos g, give_outQ w hm hl]
        refine .cons (.grantQ hm hc hl g) (ih (w.grant hm) ?_)
        rw [queue_give, queue_drop, if_pos rfl, hl]
        simp
      · rw [if_neg g]; exact .refl
    · rw [if_neg hc]; exact .refl
theorem serve_steps (w : WF U J B ts) : Steps md U y ts (serve md U ts i).2 := by
  have s1 := serveC_steps (md := md) (i := i) (y := y) w (ts.conv i) (fun _ h => h) (w.convNd i)
  exact s1.trans (serveQ_steps (s1.wf w) _ rfl)
theorem serve_wf (w : WF U J B ts) : WF U J B (serve md U ts i).2 := (serve_steps (y := 0) w).wf w

theorem Step.asks_sub (s : Step md U y ts ts') {q : Int} {p : I × M} (h : ts'.asks q = some p) : ts.asks q = some p := by
  have put_sub : ∀ {f : Int → Option (I × M)} {c : Int}, put f c none q = some p → f q = some p := fun {f c} h => by
    by_cases e : q = c
    · rw [e, put_at] at h; cases h
    · rwa [put_off _ _ e] at h
  cases s with
  | drop _ => exact put_sub h
  | grantC _ _ _ => exact put_sub (put_sub h)
  | grantQ _ _ _ _ => exact put_sub (put_sub h)
  | unhold _ => exact h
theorem Steps.asks_sub (s : Steps md U y ts ts') {q : Int} {p : I × M} : ts'.asks q = some p → ts.asks q = some p := by
  induction s with
  | refl => exact id
  | cons s _ ih => exact fun h => s.asks_sub (ih h)
theorem Steps.asks_none (s : Steps md U y ts ts') {q : Int} (h : ts.asks q = none) : ts'.asks q = none := by
  cases e : ts'.asks q with
  | none => rfl
  | some p => rw [s.asks_sub e] at h; cases h

/-- a serving leaves those that do not wait as they are -/
structure Idle (o : Int) (ts ts' : TS I M) : Prop where
  asks : ts'.asks o = none
  got : ts'.got o = ts.got o
  held : ∀ a, ts'.held a o = ts.held a o
theorem Idle.trans {a b c : TS I M} (h : Idle o a b) (k : Idle o b c) : Idle o a c := ⟨k.asks, k.got.trans h.got, fun x => (k.held x).trans (h.held x)⟩
theorem idle_grant {q : Int} (w : WF U J B ts) (h : ts.asks o = none) (hm : ts.asks q = some (i, m)) : Idle o ts (give (dropAsk ts q i) q i m) := by
  have mv := moved_grant w hm
  have ne : o ≠ q := fun e => by rw [e, hm] at h; cases h
  exact ⟨(mv.asks o ne).trans h, mv.got o ne, fun a => mv.held a o ne⟩
theorem serveC_idle (w : WF U J B ts) (h : ts.asks o = none) : ∀ (l : List Int), (∀ q ∈ l, q ∈ ts.conv i) → l.Nodup → Idle o ts (serveC md U i l ts).2 := by
  intro l
  induction l generalizing ts with
  | nil => exact fun _ _ => ⟨h, rfl, fun _ => rfl⟩
  | cons q l ih =>
    intro hl hn
    rw [List.nodup_cons] at hn
    have hq := hl q List.mem_cons_self
    obtain ⟨⟨m, hm⟩, hh⟩ := w.convAsk q i hq
    unfold serveC
    rw [hm]
    simp only
    by_cases g : lets md U ts q i m = true
    · rw [if_pos g, give_outC w hm hq]
      have d := idle_grant w h hm
      refine d.trans (ih (w.grant hm) d.asks (fun z hz => ?_) hn.2)
      have ne : z ≠ q := fun e => hn.1 (e ▸ hz)
      rw [conv_give, conv_drop, if_pos rfl, mem_erase ne]
      exact hl z (List.mem_cons_of_mem _ hz)
    · rw [if_neg g]
      exact ih w h (fun z hz => hl z (List.mem_cons_of_mem _ hz)) hn.2
theorem serveQ_idle (w : WF U J B ts) (h : ts.asks o = none) : ∀ (l : List Int), ts.queue i = l → Idle o ts (serveQ md U i l ts).2 := by
  intro l
  induction l generalizing ts with
  | nil => exact fun _ => ⟨h, rfl, fun _ => rfl⟩
  | cons q l ih =>
    intro hl
    obtain ⟨⟨m, hm⟩, hh⟩ := w.queueAsk q i (by rw [hl]; exact List.mem_cons_self)
    unfold serveQ
    by_cases hc : ts.conv i = []
    · rw [if_pos hc, hm]
      simp only
      by_cases g : lets md U ts q i m = true
      · rw [if_pos g, give_outQ w hm hl]
        have d := idle_grant w h hm
        refine d.trans (ih (w.grant hm) d.asks ?_)
        rw [queue_give, queue_drop, if_pos rfl, hl]
        simp
      · rw [if_neg g]; exact ⟨h, rfl, fun _ => rfl⟩
    · rw [if_neg hc]; exact ⟨h, rfl, fun _ => rfl⟩
theorem serve_idle (w : WF U J B ts) (h : ts.asks o = none) : Idle o ts (serve md U ts i).2 := by
  have s1 := serveC_idle (md := md) (i := i) w h (ts.conv i) (fun _ h => h) (w.convNd i)
  have w1 := (serveC_steps (md := md) (i := i) (y := 0) w (ts.conv i) (fun _ h => h) (w.convNd i)).wf w
  exact s1.trans (serveQ_idle w1 s1.asks _ rfl)

theorem freed_steps (w : WF U J B ts) (h : ts.asks o = none) : Steps md U o ts (freed md U ts o i).2 :=
  .cons (.unhold h) (serve_steps (w.unhold h))
theorem freed_wf (w : WF U J B ts) (h : ts.asks o = none) : WF U J B (freed md U ts o i).2 := (freed_steps w h).wf w
theorem freed_asks (w : WF U J B ts) (h : ts.asks o = none) : (freed md U ts o i).2.asks o = none := (serve_idle (w.unhold h) h).asks
theorem freed_got (w : WF U J B ts) (h : ts.asks o = none) : (freed md U ts o i).2.got o = (ts.got o).erase i :=
  (serve_idle (w.unhold h) h).got.trans (put_at _ _ _)
theorem freeAll_steps (w : WF U J B ts) (h : ts.asks o = none) : ∀ l : List I, Steps md U o ts (freeAll md U o l ts).2 ∧ (freeAll md U o l ts).2.asks o = none := by
  intro l
  induction l generalizing ts with
  | nil => exact ⟨.refl, h⟩
  | cons i l ih =>
    obtain ⟨z1, z2⟩ := ih (freed_wf (md := md) (i := i) w h) (freed_asks w h)
    exact ⟨(freed_steps w h).trans z1, z2⟩
theorem quit_steps (w : WF U J B ts) : Steps md U o ts (quit md U ts o).2 ∧ (quit md U ts o).2.asks o = none := by
  unfold quit
  cases h : ts.asks o with
  | none => exact ⟨.refl, h⟩
  | some p =>
    have w1 := (w.dropAsk (m := p.2) h).1
    have n1 : (dropAsk ts o p.1).asks o = none := by rw [asks_drop, if_pos rfl]
    exact ⟨.cons (.drop (m := p.2) h) (serve_steps w1), (serve_idle w1 n1).asks⟩
theorem finish_steps (w : WF U J B ts) : Steps md U o ts (finish md U ts o).2 ∧ (finish md U ts o).2.asks o = none := by
  obtain ⟨s1, n1⟩ := quit_steps (md := md) (o := o) w
  obtain ⟨s2, n2⟩ := freeAll_steps (md := md) (s1.wf w) n1 ((quit md U ts o).2.got o)
  exact ⟨s1.trans s2, n2⟩
theorem finish_wf (w : WF U J B ts) : WF U J B (finish md U ts o).2 := (finish_steps w).1.wf w
theorem finish_gone (w : WF U J B ts) : (finish md U ts o).2.asks o = none := (finish_steps w).2
theorem finish_asks_none (w : WF U J B ts) {q : Int} (h : ts.asks q = none) : (finish md U ts o).2.asks q = none := (finish_steps w).1.asks_none h
theorem finish_keeps (w : WF U J B ts) {T : Int → Prop} (h : SelfSup md ts T) (ho : ¬ T o) : SelfSup md (finish md U ts o).2 T ∧ Fast T ts (finish md U ts o).2 := (finish_steps w).1.keeps w h ho
theorem finish_none_new (w : WF U J B ts) {T : Int → Prop} (h : SelfSup md (finish md U ts o).2 T) : SelfSup md ts T := (finish_steps w).1.none_new w h

/-! ### the stuck ones, as a list -/
theorem stuck_sup (md : Md M) (ts : TS I M) : SelfSup md ts (Stuck md ts) := fun a ⟨T, hT, ha⟩ => by
  obtain ⟨b, hb, hw⟩ := hT a ha
  exact ⟨b, ⟨T, hT, hb⟩, hw⟩
theorem SelfSup.stuck {T : Int → Prop} (h : SelfSup md ts T) {a : Int} (ha : T a) : Stuck md ts a := ⟨T, h, ha⟩
theorem Stuck.asks {a : Int} (h : Stuck md ts a) : ∃ p, ts.asks a = some p := by
  obtain ⟨b, _, i, m, hm, _⟩ := stuck_sup md ts a h
  exact ⟨_, hm⟩
theorem waits_in (w : WF U J B ts) {a b : Int} (h : waits md ts a b) : b ∈ U := by
  obtain ⟨i, m, _, k⟩ := h
  rcases k with ⟨_, x, hx, _⟩ | ⟨_, z⟩
  · exact (w.heldIn i b x hx).1
  · rcases List.mem_append.mp z with z | z
    · obtain ⟨⟨k, e⟩, _⟩ := w.convAsk b i z
      exact (w.asksU b i k e).1
    · obtain ⟨⟨k, e⟩, _⟩ := w.queueAsk b i (List.takeWhile_subset _ z)
      exact (w.asksU b i k e).1

open Classical in
noncomputable def waitsFor (md : Md M) (U : List Int) (ts : TS I M) (o : Int) : List Int := U.filter fun b => decide (waits md ts o b)
open Classical in
noncomputable def stuckL (md : Md M) (U : List Int) (ts : TS I M) : List Int := U.filter fun a => decide (Stuck md ts a)
def askers (U : List Int) (ts : TS I M) : List Int := U.filter fun a => (ts.asks a).isSome
open Classical in
theorem mem_waitsFor (w : WF U J B ts) {o b : Int} : b ∈ waitsFor md U ts o ↔ waits md ts o b := by
  unfold waitsFor
  rw [List.mem_filter]
  exact ⟨fun h => of_decide_eq_true h.2, fun h => ⟨waits_in w h, decide_eq_true h⟩⟩
open Classical in
theorem mem_stuckL (w : WF U J B ts) {a : Int} : a ∈ stuckL md U ts ↔ Stuck md ts a := by
  unfold stuckL
  rw [List.mem_filter]
  refine ⟨fun h => of_decide_eq_true h.2, fun h => ⟨?_, decide_eq_true h⟩⟩
  obtain ⟨⟨i, m⟩, hp⟩ := h.asks
  exact (w.asksU a i m hp).1
theorem mem_askers (w : WF U J B ts) {a : Int} : a ∈ askers U ts ↔ ∃ p, ts.asks a = some p := by
  unfold askers
  rw [List.mem_filter]
  refine ⟨fun h => Option.isSome_iff_exists.mp h.2, fun ⟨p, h⟩ => ⟨(w.asksU a p.1 p.2 h).1, by rw [h]; rfl⟩⟩
theorem stuckL_askers (md : Md M) (U : List Int) (ts : TS I M) : stuckL md U ts = (askers U ts).filter fun a => @decide (Stuck md ts a) (Classical.propDecidable _) := by
  unfold stuckL askers
  rw [List.filter_filter]
  refine List.filter_congr fun a _ => ?_
  by_cases h : Stuck md ts a
  · obtain ⟨p, hp⟩ := h.asks
    simp [h, hp]
  · simp [h]
end steps

/-! ### peeling: who waits for nobody (any more) goes, as long as there is one -/
section peel
variable (some_ : List Int) (after : Int → List Int)
/-- how many of those that o waits for are not yet gone -/
def cnt (gone : List Int) (o : Int) : Nat := ((after o).filter fun b => decide (b ∉ gone)).length
def before (x : Int) : List Int := some_.filter fun o => decide (x ∈ after o)
def Sup (T : Int → Prop) : Prop := ∀ a, T a → ∃ b, T b ∧ b ∈ after a
structure Peel (gone free : List Int) : Prop where
  nd : (gone ++ free).Nodup
  sub : ∀ x ∈ gone ++ free, x ∈ some_
  zero : ∀ o ∈ some_, (o ∈ gone ++ free ↔ cnt after gone o = 0)
  dis : ∀ T : Int → Prop, Sup after T → ∀ x ∈ gone ++ free, ¬ T x
variable {some_ after}
theorem cnt_nil (o : Int) : cnt after [] o = (after o).length := by
  unfold cnt
  rw [List.filter_eq_self.mpr]
  intro b _
  simp
theorem cnt_zero_sup {gone : List Int} {o : Int} (h : cnt after gone o = 0) {T : Int → Prop} (hT : Sup after T) (hg : ∀ x ∈ gone, ¬ T x) : ¬ T o := fun ho => by
  obtain ⟨b, hb, hm⟩ := hT o ho
  have z : b ∉ (after o).filter fun b => decide (b ∉ gone) := by
    rw [List.eq_nil_of_length_eq_zero h]; simp
  by_cases e : b ∈ gone
  · exact hg b e hb
  · exact z (List.mem_filter.mpr ⟨hm, decide_eq_true e⟩)
theorem Peel.start (hn : some_.Nodup) : Peel some_ after [] (some_.filter fun o => decide ((after o).length = 0)) where
  nd := by rw [List.nil_append]; exact hn.filter _
  sub := fun x h => by rw [List.nil_append] at h; exact (List.mem_filter.mp h).1
  zero := fun o ho => by
    rw [List.nil_append, List.mem_filter, cnt_nil]
    exact ⟨fun h => of_decide_eq_true h.2, fun h => ⟨ho, decide_eq_true h⟩⟩
  dis := fun T hT x hx => by
    rw [List.nil_append] at hx
    have h := (List.mem_filter.mp hx).2
    exact cnt_zero_sup (gone := []) (by rw [cnt_nil]; exact of_decide_eq_true h) hT (fun _ z => nomatch z)
theorem cnt_more (hn : ∀ o, (after o).Nodup) {gone : List Int} {x : Int} (hx : x ∉ gone) (o : Int) : cnt after gone o = cnt after (gone ++ [x]) o + if x ∈ after o then 1 else 0 := by
  unfold cnt
  have go : ∀ l : List Int, l.Nodup → (l.filter fun b => decide (b ∉ gone)).length = (l.filter fun b => decide (b ∉ gone ++ [x])).length + if x ∈ l then 1 else 0 := by
    intro l
    induction l with
    | nil => intro _; rfl
    | cons y l ih =>
      intro hl
      rw [List.nodup_cons] at hl
      have ih := ih hl.2
      by_cases e : y = x
      · subst e
        rw [List.filter_cons, List.filter_cons, if_pos (by simpa using hx), if_neg (by simp), if_pos List.mem_cons_self, List.length_cons, ih, if_neg hl.1]
        all_goals omega
      · have e1 : (x ∈ y :: l) ↔ (x ∈ l) := by rw [List.mem_cons]; exact ⟨fun h => h.elim (fun h => (e h.symm).elim) id, Or.inr⟩
        have e2 : decide (y ∉ gone ++ [x]) = decide (y ∉ gone) := by
          have : (y ∈ gone ++ [x]) ↔ (y ∈ gone) := by simp [e]
          simp [this]
        rw [List.filter_cons, List.filter_cons, e2]
        simp only [e1]
        by_cases g : decide (y ∉ gone) = true
        · rw [if_pos g, if_pos g, List.length_cons, List.length_cons, ih]; omega
        · rw [if_neg g, if_neg g, ih]
  exact go _ (hn o)
theorem Peel.step (hs : some_.Nodup) (hn : ∀ o, (after o).Nodup) {gone free : List Int} {x : Int} (p : Peel some_ after gone (free ++ [x])) :
    Peel some_ after (gone ++ [x]) (free ++ (before some_ after x).filter fun o => decide (cnt after (gone ++ [x]) o = 0)) := by
  have pm : ∀ z, z ∈ gone ++ (free ++ [x]) ↔ z ∈ gone ++ [x] ++ free := fun z => by
    simp only [List.mem_append, List.mem_singleton]
    exact ⟨fun h => h.elim (fun h => .inl (.inl h)) fun h => h.elim .inr fun h => .inl (.inr h), fun h => h.elim (fun h => h.elim .inl fun h => .inr (.inr h)) fun h => .inr (.inl h)⟩
  have hx : x ∉ gone := fun h => by
    have := p.nd
    rw [List.nodup_append] at this
    exact this.2.2 x h x (by simp) rfl
  have nd1 : (gone ++ [x] ++ free).Nodup := by
    have h := p.nd
    have e : (gone ++ (free ++ [x])).Perm (gone ++ [x] ++ free) := by
      rw [List.append_assoc]
      exact (List.Perm.refl gone).append List.perm_append_comm
    exact e.nodup_iff.mp h
  have new : ∀ o, o ∈ (before some_ after x).filter (fun o => decide (cnt after (gone ++ [x]) o = 0)) ↔ o ∈ some_ ∧ x ∈ after o ∧ cnt after (gone ++ [x]) o = 0 := fun o => by
    rw [List.mem_filter, before, List.mem_filter]
    simp only [decide_eq_true_eq, and_assoc]
  have old : ∀ o, o ∈ some_ → x ∈ after o → o ∉ gone ++ (free ++ [x]) := fun o ho hm z => by
    have := (p.zero o ho).mp z
    rw [cnt_more hn hx, if_pos hm] at this
    omega
  refine ⟨?_, fun z hz => ?_, fun o ho => ?_, fun T hT z hz => ?_⟩
  · rw [← List.append_assoc, List.nodup_append]
    refine ⟨nd1, (hs.filter _).filter _, fun a ha b hb e => ?_⟩
    subst e
    obtain ⟨h1, h2, h3⟩ := (new a).mp hb
    exact old a h1 h2 ((pm a).mpr ha)
  · rw [← List.append_assoc] at hz
    rcases List.mem_append.mp hz with h | h
    · exact p.sub z ((pm z).mpr h)
    · exact ((new z).mp h).1
  · rw [← List.append_assoc, List.mem_append, ← pm o, p.zero o ho, new o, cnt_more hn hx o]
    by_cases hm : x ∈ after o
    · rw [if_pos hm]
      exact ⟨fun h => h.elim (fun h => by omega) fun h => h.2.2, fun h => .inr ⟨ho, hm, h⟩⟩
    · rw [if_neg hm, Nat.add_zero]
      exact ⟨fun h => h.elim id fun h => (hm h.2.1).elim, .inl⟩
  · rw [← List.append_assoc] at hz
    have d : ∀ y ∈ gone ++ [x] ++ free, ¬ T y := fun y hy => p.dis T hT y ((pm y).mpr hy)
    rcases List.mem_append.mp hz with h | h
    · exact d z h
    · exact cnt_zero_sup ((new z).mp h).2.2 hT fun y hy => d y (List.mem_append_left _ hy)
/-- at the end who is left is who is in a set that holds itself up -/
theorem Peel.done {gone : List Int} (p : Peel some_ after gone []) (ha : ∀ o b, b ∈ after o → b ∈ some_) {o : Int} (ho : o ∈ some_) : cnt after gone o ≠ 0 ↔ ∃ T : Int → Prop, Sup after T ∧ T o := by
  have z : ∀ q ∈ some_, (q ∈ gone ↔ cnt after gone q = 0) := fun q hq => by have := p.zero q hq; rwa [List.append_nil] at this
  constructor
  · intro h
    refine ⟨fun q => q ∈ some_ ∧ cnt after gone q ≠ 0, fun a ⟨h1, h2⟩ => ?_, ho, h⟩
    have : (after a).filter (fun b => decide (b ∉ gone)) ≠ [] := fun e => h2 (by unfold cnt; rw [e]; rfl)
    obtain ⟨b, hb⟩ := List.exists_mem_of_ne_nil _ this
    obtain ⟨h3, h4⟩ := List.mem_filter.mp hb
    exact ⟨b, ⟨ha a b h3, fun e => of_decide_eq_true h4 ((z b (ha a b h3)).mpr e)⟩, h3⟩
  · rintro ⟨T, hT, h⟩ e
    exact p.dis T hT o (by rw [List.append_nil]; exact (z o ho).mpr e) h
end peel

section last
variable {md : Md M} {U : List Int} {J : List I} {B : List M} {ts : TS I M}
/-- those of the askers for which o waits -/
noncomputable def afterOf (md : Md M) (U : List Int) (ts : TS I M) (some_ : List Int) (o : Int) : List Int := (waitsFor md U ts o).filter fun b => decide (b ∈ some_)
theorem after_stuck (w : WF U J B ts) (o : Int) : (∃ T : Int → Prop, Sup (afterOf md U ts (askers U ts)) T ∧ T o) ↔ Stuck md ts o := by
  have e : ∀ a b, b ∈ afterOf md U ts (askers U ts) a ↔ waits md ts a b ∧ ∃ p, ts.asks b = some p := fun a b => by
    unfold afterOf
    rw [List.mem_filter, mem_waitsFor w]
    simp only [decide_eq_true_eq, mem_askers w]
  constructor
  · rintro ⟨T, hT, ho⟩
    refine ⟨T, fun a ha => ?_, ho⟩
    obtain ⟨b, hb, hm⟩ := hT a ha
    exact ⟨b, hb, ((e a b).mp hm).1⟩
  · intro h
    refine ⟨Stuck md ts, fun a ha => ?_, h⟩
    obtain ⟨b, hb, hw⟩ := stuck_sup md ts a ha
    exact ⟨b, hb, (e a b).mpr ⟨hw, hb.asks⟩⟩
theorem after_nodup (hU : U.Nodup) (some_ : List Int) (o : Int) : (afterOf md U ts some_ o).Nodup := (hU.filter _).filter _
theorem after_sub (some_ : List Int) (o b : Int) (h : b ∈ afterOf md U ts some_ o) : b ∈ some_ := of_decide_eq_true (List.mem_filter.mp h).2
theorem peel_stuck (w : WF U J B ts) {gone : List Int} (p : Peel (askers U ts) (afterOf md U ts (askers U ts)) gone []) :
    ((askers U ts).filter fun o => decide (cnt (afterOf md U ts (askers U ts)) gone o ≠ 0)) = stuckL md U ts := by
  rw [stuckL_askers]
  refine List.filter_congr fun a ha => ?_
  have e := (p.done (fun o b h => after_sub _ o b h) ha).trans (after_stuck w a)
  by_cases h : Stuck md ts a
  · simp only [h, decide_true]; exact decide_eq_true (e.mpr h)
  · simp only [h, decide_false]; exact decide_eq_false fun z => h (e.mp z)

/-! ### what the law asks -/
/-- the word that goes with the further steps: T is stuck, and holds and asks for what it did -/
structure Firm (md : Md M) (T : List Int) (t0 ts : TS I M) : Prop where
  sup : SelfSup md ts (fun a => a ∈ T)
  fast : Fast (fun a => a ∈ T) t0 ts
theorem Firm.start (w : WF U J B ts) : Firm md (stuckL md U ts) ts ts := by
  refine ⟨fun a ha => ?_, Fast.refl⟩
  obtain ⟨b, hb, hw⟩ := stuck_sup md ts a ((mem_stuckL w).mp ha)
  exact ⟨b, (mem_stuckL w).mpr hb, hw⟩
theorem Firm.ask {T : List Int} {t0 : TS I M} {o : Int} {i : I} {m : M} (f : Firm md T t0 ts) (w : WF U J B ts) (ho : o ∉ T) : Firm md T t0 (LT.ask md U ts o i m).2 := by
  obtain ⟨h1, h2⟩ := ask_keeps (U := U) (i := i) (m := m) w f.sup ho
  exact ⟨h1, f.fast.trans h2⟩
theorem Firm.finish {T : List Int} {t0 : TS I M} {o : Int} (f : Firm md T t0 ts) (w : WF U J B ts) (ho : o ∉ T) : Firm md T t0 (LT.finish md U ts o).2 := by
  obtain ⟨h1, h2⟩ := finish_keeps (md := md) (o := o) w f.sup ho
  exact ⟨h1, f.fast.trans h2⟩
theorem Firm.now {T : List Int} {t0 : TS I M} (f : Firm md T t0 ts) (w : WF U J B ts) {a : Int} (ha : a ∈ T) : a ∈ stuckL md U ts := (mem_stuckL w).mpr (f.sup.stuck ha)
theorem Firm.one {T : List Int} {t0 : TS I M} (f : Firm md T t0 ts) (w : WF U J B ts) {a : Int} (ha : a ∈ T) : ∃ b ∈ waitsFor md U ts a, b ∈ T := by
  obtain ⟨b, hb, hw⟩ := f.sup a ha
  exact ⟨b, (mem_waitsFor w).mpr hw, hb⟩
theorem finish_stuck_sub (w : WF U J B ts) {o a : Int} (h : a ∈ stuckL md U (LT.finish md U ts o).2) : a ∈ stuckL md U ts :=
  (mem_stuckL w).mpr ((finish_none_new w (stuck_sup md _)).stuck ((mem_stuckL (finish_wf w)).mp h))
theorem stuckL_none (w : WF U J B ts) (h : ∀ q, ts.asks q = none) : stuckL md U ts = [] := by
  cases e : stuckL md U ts with
  | nil => rfl
  | cons a l =>
    obtain ⟨p, hp⟩ := ((mem_stuckL w).mp (show a ∈ stuckL md U ts by rw [e]; exact List.mem_cons_self)).asks
    rw [h a] at hp; cases hp
end last
end LT
end
section
set_option maxRecDepth 100000
set_option maxHeartbeats 1000000
/-! Dicts keyed by ints as lists of pairs; a table's places and what stands there. -/
namespace Lk
open PySem L2

section
variable {α : Type}
/-- a value put under a key, in place or at the end -/
def putA (l : List (Int × α)) (o : Int) (a : α) : List (Int × α) := if (l.any fun e => decide (e.1 = o)) = true then l.map (fun e => if e.1 = o then (e.1, a) else e) else l ++ [(o, a)]
def dropA (l : List (Int × α)) (o : Int) : List (Int × α) := l.filter fun e => decide (e.1 ≠ o)
abbrev ent (f : α → V) (e : Int × α) : L2.Key × V := (Sum.inl e.1, f e.2)
variable {f : α → V} {l : List (Int × α)} {o q : Int} {a : α}
theorem key_inl {a b : Int} : decide ((Sum.inl a : L2.Key) = Sum.inl b) = decide (a = b) := decide_eq_decide.mpr ⟨fun h => by injection h, fun h => by rw [h]⟩
theorem putA_k : putK (l.map (ent f)) (Sum.inl o) (f a) = (putA l o a).map (ent f) := by
  unfold putK putA
  have e : ((l.map (ent f)).any fun kv => decide (kv.1 = Sum.inl o)) = l.any fun e => decide (e.1 = o) := by
    rw [List.any_map]
    congr 1
    funext x
    exact key_inl
  rw [e]
  split
  · rw [List.map_map, List.map_map]
    refine List.map_congr_left fun x _ => ?_
    show (if (Sum.inl x.1 : L2.Key) = Sum.inl o then _ else _) = ent f (if x.1 = o then _ else _)
    by_cases h : x.1 = o
    · rw [if_pos h, if_pos (by rw [h])]
    · rw [if_neg h, if_neg fun z => h (by injection z)]
  · rw [List.map_append]; rfl
theorem dropA_k : dropK (l.map (ent f)) (Sum.inl o) = (dropA l o).map (ent f) := by
  unfold dropK dropA
  rw [List.filter_map]
  congr 1
  refine List.filter_congr fun x _ => ?_
  show decide (Sum.inl x.1 ≠ Sum.inl o) = decide (x.1 ≠ o)
  exact decide_eq_decide.mpr ⟨fun h z => h (by rw [z]), fun h z => h (by injection z)⟩
theorem valV_k : valV (l.map (ent f)) (Sum.inl o) = (l.lookup o).map f := by
  unfold valV
  induction l with
  | nil => rfl
  | cons e l ih =>
    rw [List.map_cons, List.find?_cons, List.lookup_cons]
    by_cases h : e.1 = o
    · have e1 : decide ((ent f e).1 = Sum.inl o) = true := decide_eq_true (by show Sum.inl e.1 = _; rw [h])
      rw [e1]
      subst h
      simp
    · have e1 : decide ((ent f e).1 = (Sum.inl o : L2.Key)) = false := decide_eq_false fun z => h (by injection z)
      rw [e1]
      have e2 : (o == e.1) = false := beq_eq_false_iff_ne.mpr fun z => h z.symm
      rw [e2]
      exact ih
theorem lookup_putA : (putA l o a).lookup q = if q = o then some a else l.lookup q := by
  unfold putA
  split
  · rename_i h
    induction l with
    | nil => cases h
    | cons e l ih =>
      rw [List.map_cons]
      by_cases h1 : e.1 = o
      · rw [if_pos h1, List.lookup_cons, List.lookup_cons]
        by_cases h2 : q = o
        · rw [if_pos h2, h2, h1]; simp
        · have : (q == e.1) = false := beq_eq_false_iff_ne.mpr fun z => h2 (z.trans h1)
          rw [this, if_neg h2]
          show List.lookup q _ = _
          by_cases h3 : (l.any fun e => decide (e.1 = o)) = true
          · have := ih h3; rw [if_neg h2] at this; exact this
          · have hm : l.map (fun e => if e.1 = o then (e.1, a) else e) = l := by
              have : ∀ x ∈ l, (fun e : Int × α => if e.1 = o then (e.1, a) else e) x = x := fun x hx => if_neg fun z => h3 (List.any_eq_true.mpr ⟨x, hx, decide_eq_true z⟩)
              rw [List.map_congr_left this, List.map_id']
            rw [hm]
      · rw [if_neg h1, List.lookup_cons, List.lookup_cons]
        have h3 : (l.any fun e => decide (e.1 = o)) = true := by
          rw [List.any_cons, decide_eq_false h1, Bool.false_or] at h
          exact h
        rw [ih h3]
        by_cases h2 : q = e.1
        · have : q ≠ o := fun z => h1 (h2.symm.trans z)
          simp only [if_neg this]
        · have : (q == e.1) = false := beq_eq_false_iff_ne.mpr h2
          rw [this]
  · rename_i h
    induction l with
    | nil =>
      rw [List.nil_append, List.lookup_cons]
      by_cases h2 : q = o
      · rw [if_pos h2, h2]; simp
      · have : (q == o) = false := beq_eq_false_iff_ne.mpr h2
        rw [this, if_neg h2]
    | cons e l ih =>
      rw [List.any_cons, Bool.or_eq_true, not_or] at h
      have h1 : e.1 ≠ o := fun z => h.1 (decide_eq_true z)
      rw [List.cons_append, List.lookup_cons, List.lookup_cons, ih h.2]
      by_cases h2 : q = e.1
      · have : q ≠ o := fun z => h1 (h2.symm.trans z)
        simp only [if_neg this]
      · have : (q == e.1) = false := beq_eq_false_iff_ne.mpr h2
        rw [this]
theorem lookup_dropA : (dropA l o).lookup q = if q = o then none else l.lookup q := by
  unfold dropA
  induction l with
  | nil => split <;> rfl
  | cons e l ih =>
    rw [List.filter_cons]
    by_cases h1 : e.1 = o
    · rw [decide_eq_false (fun z => z h1)]
      show List.lookup q _ = _
      rw [if_neg (by decide), ih, List.lookup_cons]
      by_cases h2 : q = o
      · rw [if_pos h2, if_pos h2]
      · have : (q == e.1) = false := beq_eq_false_iff_ne.mpr fun z => h2 (z.trans h1)
        rw [this]
    · rw [decide_eq_true h1, if_pos rfl, List.lookup_cons, List.lookup_cons, ih]
      by_cases h2 : q = e.1
      · have : q ≠ o := fun z => h1 (h2.symm.trans z)
        simp only [if_neg this]
      · have : (q == e.1) = false := beq_eq_false_iff_ne.mpr h2
        rw [this]
theorem keys_putA (h : (l.map (·.1)).Nodup) : ((putA l o a).map (·.1)).Nodup := by
  unfold putA
  split
  · rw [List.map_map]
    have : ((fun e : Int × α => e.1) ∘ fun e => if e.1 = o then (e.1, a) else e) = fun e => e.1 := by
      funext e
      show (if e.1 = o then (e.1, a) else e).1 = e.1
      split <;> rfl
    rw [this]
    exact h
  · rename_i hn
    rw [List.map_append, List.nodup_append]
    refine ⟨h, by simp, fun x hx y hy => ?_⟩
    have ey : y = o := by simpa using hy
    rintro rfl
    obtain ⟨e, he, ee⟩ := List.mem_map.mp hx
    exact hn (List.any_eq_true.mpr ⟨e, he, decide_eq_true (ee.trans ey)⟩)
theorem keys_dropA (h : (l.map (·.1)).Nodup) : ((dropA l o).map (·.1)).Nodup := h.sublist (List.Sublist.map _ (List.filter_sublist ..))
theorem len_putA : (putA l o a).length ≤ l.length + 1 := by
  unfold putA
  split
  · rw [List.length_map]; exact Nat.le_succ _
  · simp
theorem lookup_mem (h : (l.map (·.1)).Nodup) : l.lookup o = some a ↔ (o, a) ∈ l := by
  induction l with
  | nil => exact ⟨fun h => (by cases h), fun h => (by cases h)⟩
  | cons e l ih =>
    rw [List.map_cons, List.nodup_cons] at h
    rw [List.lookup_cons, List.mem_cons]
    by_cases h2 : o = e.1
    · subst h2
      rw [beq_self_eq_true]
      constructor
      · intro z
        have z : e.2 = a := Option.some.inj z
        exact .inl (by rw [← z])
      · intro z
        rcases z with z | z
        · rw [← z]
        · exact (h.1 (List.mem_map.mpr ⟨_, z, rfl⟩)).elim
    · have : (o == e.1) = false := beq_eq_false_iff_ne.mpr h2
      rw [this]
      constructor
      · exact fun z => .inr ((ih h.2).mp z)
      · exact fun z => z.elim (fun z => (h2 (congrArg Prod.fst z)).elim) fun z => (ih h.2).mpr z
theorem lookup_none {l : List (Int × α)} : l.lookup o = none ↔ o ∉ l.map (·.1) := by
  induction l with
  | nil => exact ⟨fun _ h => (by cases h), fun _ => rfl⟩
  | cons e l ih =>
    rw [List.lookup_cons, List.map_cons, List.mem_cons]
    by_cases h2 : o = e.1
    · subst h2; simp
    · have : (o == e.1) = false := beq_eq_false_iff_ne.mpr h2
      rw [this]
      simp only [h2, false_or]
      exact ih
end
end Lk
end
section
set_option maxRecDepth 100000
set_option maxHeartbeats 1000000
/-! A lock table where it stands. -/
namespace Lk
open PySem L2

/-- a table's parts -/
inductive Tag where
  | tab | spots | ibo | asks
  | sp (i : V) | md (i : V) | cv (i : V) | qu (i : V)
  | kept (o : Int)
/-- what a table is made of, in its own order -/
structure Dt where
  its : List V
  os : List Int
  md : V → List (Int × Str)
  cv : V → List Int
  qu : V → List Int
  got : Int → List V
  al : List (Int × Addr × V × Str)
def Dt.ts (D : Dt) : LT.TS V Str := ⟨fun i o => (D.md i).lookup o, D.cv, D.qu, fun o => (D.al.lookup o).map (·.2), D.got⟩
/-- what stands fast for a table: its classes, its modes, the items and owners there may be -/
structure Tc where
  CT : Addr
  CS : Addr
  kof : V → NestedKey
  J : List V
  U : List Int
  d : MDat
  mo : Addr
structure Tc.Ok (K : PySem.W.Frag) (H : Hp) (c : Tc) : Prop where
  it : Mx.Items H c.kof c.J
  iv : ∀ v ∈ c.J, ItemV H v
  few : c.J.length ≤ 20
  un : c.U.Nodup
  u0 : ∀ o ∈ c.U, 0 ≤ o
  ul : c.U.length ≤ 20
  srt : c.U.Pairwise (· < ·)
  ms : Modes K H c.mo c.d
  ck : c.d.chk
theorem Tc.Ok.mono {K : PySem.W.Frag} {H H' : Hp} {c : Tc} (t : Tups H H') (h : c.Ok K H) : c.Ok K H' := ⟨h.it.mono t, fun v hv => (h.iv v hv).mono t, h.few, h.un, h.u0, h.ul, h.srt, h.ms.mono t, h.ck⟩
abbrev Tc.M (c : Tc) : LT.Md Str := ⟨c.d.al, c.d.jn⟩
abbrev Tc.B (c : Tc) : List Str := c.d.names
/-- where the parts stand; the dicts of the instances -/
structure Ad where
  at_ : Tag → Addr
  dx : Tag → Addr
def Dt.dom (D : Dt) : Tag → Prop
  | .sp i | .md i | .cv i | .qu i => i ∈ D.its
  | .kept o => o ∈ D.os
  | _ => True
def cont (w : World) (c : Tc) (ad : Ad) (D : Dt) : Tag → HO
  | .tab => .ins c.CT (ad.dx .tab) [("modes", .ref c.mo), ("spots", .ref (ad.at_ .spots)), ("items_by_owner", .ref (ad.at_ .ibo)), ("asks", .ref (ad.at_ .asks))]
  | .spots => Mx.MixO w c.kof (ad.at_ .spots) (D.its.map fun i => (i, .ref (ad.at_ (.sp i))))
  | .ibo => .dK (D.os.map fun o => (Sum.inl o, .ref (ad.at_ (.kept o))))
  | .asks => .dK (D.al.map (ent fun e => .ref e.1))
  | .sp i => .ins c.CS (ad.dx (.sp i)) [("modes_by_owner", .ref (ad.at_ (.md i))), ("conversions", .ref (ad.at_ (.cv i))), ("queue", .ref (ad.at_ (.qu i)))]
  | .md i => .dK ((D.md i).map (ent V.str))
  | .cv i => .lst ((D.cv i).map V.int)
  | .qu i => .lst ((D.qu i).map V.int)
  | .kept o => .lst (D.got o)
theorem cont_tup {w : World} {c : Tc} {ad : Ad} {D : Dt} (t : Tag) : ∀ xs, cont w c ad D t ≠ .tup xs := fun xs h => by cases t <;> cases h
/-- the order of the parts is in order -/
structure Dt.Ok (c : Tc) (D : Dt) : Prop where
  its : D.its.Nodup
  isJ : ∀ i ∈ D.its, i ∈ c.J
  os : D.os.Nodup
  osU : ∀ o ∈ D.os, o ∈ c.U
  mdn : ∀ i, ((D.md i).map (·.1)).Nodup
  aln : (D.al.map (·.1)).Nodup
  md0 : ∀ i, i ∉ D.its → D.md i = [] ∧ D.cv i = [] ∧ D.qu i = []
  got0 : ∀ o, o ∉ D.os → D.got o = []
structure At (w : World) (c : Tc) (H : Hp) (ad : Ad) (D : Dt) : Prop where
  at_ : ∀ t, D.dom t → H (ad.at_ t) = some (cont w c ad D t)
  inj : ∀ s t, D.dom s → D.dom t → ad.at_ s = ad.at_ t → s = t
  ask : ∀ e ∈ D.al, H e.2.1 = some (.tup [e.2.2.1, .str e.2.2.2])
  ok : D.Ok c
/-- the addresses that are the table's own -/
def Own (ad : Ad) (D : Dt) (a : Addr) : Prop := ∃ t, D.dom t ∧ ad.at_ t = a
/-- what a table's doings leave of the rest -/
structure Aft (S : Addr → Prop) (H : Hp) (S' : Addr → Prop) (H' : Hp) : Prop where
  keep : ∀ a o, H a = some o → ¬ S a → H' a = some o
  new : ∀ a, S' a → S a ∨ H a = none
theorem Aft.refl {S : Addr → Prop} {H : Hp} : Aft S H S H := ⟨fun _ _ h _ => h, fun _ h => .inl h⟩
theorem Aft.same {S : Addr → Prop} {H H' : Hp} (s : Same H H') : Aft S H S H' := ⟨fun a o h _ => s a o h, fun _ h => .inl h⟩
theorem Aft.trans {S S1 S2 : Addr → Prop} {H H1 H2 : Hp} (a : Aft S H S1 H1) (b : Aft S1 H1 S2 H2) : Aft S H S2 H2 where
  keep x o h n := b.keep x o (a.keep x o h n) fun z => (a.new x z).elim n fun z => by rw [h] at z; cases z
  new x h := (b.new x h).elim (a.new x) fun z => by
    rcases Classical.em (S x) with g | g
    · exact .inl g
    · refine .inr ?_
      cases e : H x with
      | none => rfl
      | some o => rw [a.keep x o e g] at z; cases z
section
variable {w : World} {c : Tc} {H H' : Hp} {ad : Ad} {D D' : Dt}
theorem At.live (A : At w c H ad D) {a : Addr} (h : Own ad D a) : ∃ t, D.dom t ∧ H a = some (cont w c ad D t) := by
  obtain ⟨t, ht, rfl⟩ := h
  exact ⟨t, ht, A.at_ t ht⟩
theorem At.tups (A : At w c H ad D) {S' : Addr → Prop} (f : Aft (Own ad D) H S' H') : Tups H H' := fun b xs e => f.keep b _ e fun z => by
  obtain ⟨t, _, e2⟩ := A.live z
  rw [e] at e2
  exact cont_tup t xs (Option.some.inj e2).symm
theorem At.same (A : At w c H ad D) (s : Same H H') : At w c H' ad D := ⟨fun t ht => s _ _ (A.at_ t ht), A.inj, fun e he => s _ _ (A.ask e he), A.ok⟩
/-- the rest changes, the table stays -/
theorem At.apart (A : At w c H ad D) {S S' : Addr → Prop} (f : Aft S H S' H') (h : ∀ a, Own ad D a → ¬ S a) (t : Tups H H') : At w c H' ad D :=
  ⟨fun t ht => f.keep _ _ (A.at_ t ht) (h _ ⟨t, ht, rfl⟩), A.inj, fun e he => t _ _ (A.ask e he), A.ok⟩
/-- one part changes -/
theorem At.set (A : At w c H ad D) (t0 : Tag) (h0 : D.dom t0) (ed : D'.dom = D.dom) (ec : ∀ t, t ≠ t0 → D.dom t → cont w c ad D' t = cont w c ad D t) (ok : D'.Ok c) (al : ∀ e ∈ D'.al, H e.2.1 = some (.tup [e.2.2.1, .str e.2.2.2])) :
    At w c (upd H (ad.at_ t0) (cont w c ad D' t0)) ad D' where
  at_ t ht := by
    rw [ed] at ht
    by_cases e : t = t0
    · subst e; exact upd_same
    · rw [upd_ne fun z => e (A.inj t t0 ht h0 z), ec t e ht]
      exact A.at_ t ht
  inj s t hs ht := by
    rw [ed] at hs ht
    exact A.inj s t hs ht
  ask e he := by
    have z := al e he
    by_cases h : e.2.1 = ad.at_ t0
    · rw [h, A.at_ t0 h0] at z
      exact (cont_tup t0 _ (Option.some.inj z)).elim
    · rw [upd_ne h]; exact z
  ok := ok
theorem own_eq (ed : D'.dom = D.dom) : Own ad D' = Own ad D := by
  funext a
  unfold Own
  rw [ed]
theorem At.set_aft (A : At w c H ad D) (t0 : Tag) (h0 : D.dom t0) (o : HO) : Aft (Own ad D) H (Own ad D) (upd H (ad.at_ t0) o) :=
  ⟨fun a u h n => by rw [upd_ne fun z => n ⟨t0, h0, z.symm⟩]; exact h, fun _ h => .inl h⟩
end
end Lk
end
section
set_option maxRecDepth 100000
set_option maxHeartbeats 1000000
/-! Spot.__init__, spot_of. -/
namespace Lk
open PySem L2
open Mx (pe_msetd pe_mget pe_mget2 ps_mput pe_mnew)

/-- the classes as the top has left them -/
structure ClsOk (K : PySem.W.Frag) (c : Tc) : Prop where
  cT : Cls K c.CT
  cS : Cls K c.CS
  nT : ∀ f ∈ (["modes", "spots", "items_by_owner", "asks"] : List Str), NoAttr K c.CT f
  nS : ∀ f ∈ (["modes_by_owner", "conversions", "queue"] : List Str), NoAttr K c.CS f

theorem lt_ok {n : Nat} (h : n ≤ 999 := by simp) : n < 1000 := by omega
theorem putF_new {f : Str} {v : V} {fs : List (Str × V)} (h : f ∉ fs.map (·.1)) : putF f v fs = fs ++ [(f, v)] := by
  induction fs with
  | nil => rfl
  | cons e fs ih =>
    rw [List.map_cons, List.mem_cons, not_or] at h
    show (if e.1 = f then _ else _) = _
    rw [if_neg fun z => h.1 z.symm, ih h.2]
    rfl
theorem none_kept {H H' : Hp} {x r : Addr} (k : ∀ b o, H b = some o → b ≠ x → H' b = some o) (h : H' r = none) (n : r ≠ x) : H r = none := by
  cases e : H r with
  | none => rfl
  | some o => rw [k r o e n] at h; cases h
abbrev spSpotInit (c : Tc) : Sp := fun vs H Q _ => ∃ x dx : Addr, vs = [.ref x] ∧ H x = some (.ins c.CS dx []) ∧ ∀ (H' : Hp) (a p q : Addr), (∀ b o, H b = some o → b ≠ x → H' b = some o) → H a = none → H p = none → H q = none → a ≠ p → a ≠ q → p ≠ q →
  H' a = some (.dK []) → H' p = some (.lst []) → H' q = some (.lst []) → H' x = some (.ins c.CS dx [("modes_by_owner", .ref a), ("conversions", .ref p), ("queue", .ref q)]) → Q .non H'
abbrev s_Spot_init : Stmt := inClass (top 37) 0
abbrev N_Spot_init : List Str := ["self"]
abbrev P_Spot_init : List Str := ["self"]
theorem sc_Spot_init : FnScope N_Spot_init P_Spot_init (defScope s_Spot_init) := ⟨rfl, rfl, rfl, by decide +kernel, rfl, by decide +kernel, by decide +kernel⟩
theorem ok_spot_init {b : Bs} {c : Tc} (R : RawI b c.CS "Spot" "Spot.__init__" s_Spot_init P_Spot_init) (K : ClsOk b.K c) : Mkd b 1 c.CS "Spot" P_Spot_init (spSpotInit c) := by
  refine R.ok sc_Spot_init (fun vs H Q E h => ?_) fun f cdv A outer s H vs Q E hr h => ?_
  · obtain ⟨x, dx, rfl, _⟩ := h
    rfl
  · obtain ⟨x, dx, rfl, hx, k⟩ := h
    refine ⟨_, (pss_cons (ps_fld (pv 0) pe_dnewK rfl)
      (pss_cons (ps_fld (pv 0) (pe_lst pa_nil) rfl)
      (pss_one (ps_fld (pv 0) (pe_lst pa_nil) rfl)))), ?_⟩
    refine fun a ha => ⟨_, rfl, x, _, dx, _, rfl, (same_new' ha) _ _ hx, K.cS, K.nS _ (by simp), lt_ok, ?_⟩
    have xa := ne_of_none hx ha
    have k0 : ∀ b o, H b = some o → b ≠ x → (upd (upd H a (.dK [])) x (.ins c.CS dx [("modes_by_owner", .ref a)])) b = some o := fun b o e n => by rw [upd_ne n]; exact same_new' ha _ _ e
    have x1 : (upd (upd H a (.dK [])) x (.ins c.CS dx [("modes_by_owner", .ref a)])) x = some (.ins c.CS dx [("modes_by_owner", .ref a)]) := upd_same
    have a1 : (upd (upd H a (.dK [])) x (.ins c.CS dx [("modes_by_owner", .ref a)])) a = some (.dK []) := by rw [upd_ne xa.symm, upd_same]
    show (tSeq _ _) _ _ (upd (upd H a (.dK [])) x (.ins c.CS dx [("modes_by_owner", .ref a)]))
    generalize upd (upd H a (.dK [])) x (.ins c.CS dx [("modes_by_owner", .ref a)]) = H1 at k0 x1 a1 ⊢
    refine ⟨Nat.zero_le _, fun p hp => ⟨_, rfl, x, _, dx, _, rfl, (same_new' hp) _ _ x1, K.cS, K.nS _ (by simp), lt_ok, ?_⟩⟩
    have xp := ne_of_none x1 hp
    have ap := ne_of_none a1 hp
    have k1 : ∀ b o, H1 b = some o → b ≠ x → (upd (upd H1 p (.lst [])) x (.ins c.CS dx [("modes_by_owner", .ref a), ("conversions", .ref p)])) b = some o := fun b o e n => by rw [upd_ne n]; exact same_new' hp _ _ e
    have x2 : (upd (upd H1 p (.lst [])) x (.ins c.CS dx [("modes_by_owner", .ref a), ("conversions", .ref p)])) x = some (.ins c.CS dx [("modes_by_owner", .ref a), ("conversions", .ref p)]) := upd_same
    have p2 : (upd (upd H1 p (.lst [])) x (.ins c.CS dx [("modes_by_owner", .ref a), ("conversions", .ref p)])) p = some (.lst []) := by rw [upd_ne xp.symm, upd_same]
    rw [putF_new (by simp; decide), List.cons_append, List.nil_append]
    generalize upd (upd H1 p (.lst [])) x (.ins c.CS dx [("modes_by_owner", .ref a), ("conversions", .ref p)]) = H2 at k1 x2 p2 ⊢
    refine ⟨Nat.zero_le _, fun q hq => ⟨_, rfl, x, _, dx, _, rfl, (same_new' hq) _ _ x2, K.cS, K.nS _ (by simp), lt_ok, ?_⟩⟩
    rw [putF_new (by simp; decide), List.cons_append, List.cons_append, List.nil_append]
    have xq := ne_of_none x2 hq
    have pq := ne_of_none p2 hq
    have a2 := k1 _ _ a1 xa.symm
    have aq := ne_of_none a2 hq
    have back1 : ∀ r, H1 r = none → H r = none := fun r h => none_kept k0 h (x := x) (fun e => by rw [e, x1] at h; cases h)
    have back2 : ∀ r, H2 r = none → H r = none := fun r h => none_kept (fun b o e n => k1 b o (k0 b o e n) n) h (x := x) (fun e => by rw [e, x2] at h; cases h)
    refine k _ a p q (fun b o e n => ?_) ha (back1 p hp) (back2 q hq) ap aq pq ?_ ?_ ?_ upd_same
    · rw [upd_ne n]; exact same_new' hq _ _ (k1 _ _ (k0 _ _ e n) n)
    · rw [upd_ne xa.symm]; exact same_new' hq _ _ a2
    · rw [upd_ne xp.symm]; exact same_new' hq _ _ p2
    · rw [upd_ne xq.symm, upd_same]
end Lk
end
section
set_option maxRecDepth 100000
set_option maxHeartbeats 1000000
/-! spot_of. -/
namespace Lk
open PySem L2
open Mx (pe_msetd pe_mget pe_mget2 ps_mput pe_mnew)

theorem LT_len {α : Type} [DecidableEq α] {l m : List α} (h : l.Nodup) (s : ∀ x ∈ l, x ∈ m) : l.length ≤ m.length := by
  induction l generalizing m with
  | nil => exact Nat.zero_le _
  | cons x l ih =>
    obtain ⟨h1, h2⟩ := List.nodup_cons.mp h
    have hx := s x List.mem_cons_self
    have := ih (m := m.erase x) h2 fun y hy => (List.mem_erase_of_ne (fun e : y = x => h1 (e ▸ hy))).mpr (s y (List.mem_cons_of_mem _ hy))
    rw [List.length_erase_of_mem hx] at this
    have := List.length_pos_of_mem hx
    rw [List.length_cons]
    omega
def Dt.add (D : Dt) (i : V) : Dt := { D with its := if i ∈ D.its then D.its else D.its ++ [i] }
theorem add_old {D : Dt} {i : V} (h : i ∈ D.its) : D.add i = D := by unfold Dt.add; rw [if_pos h]
theorem add_ts (D : Dt) (i : V) : (D.add i).ts = D.ts := rfl
theorem add_mem (D : Dt) (i : V) : i ∈ (D.add i).its := by
  unfold Dt.add
  by_cases h : i ∈ D.its
  · rw [if_pos h]; exact h
  · rw [if_neg h]; exact List.mem_append_right _ (List.mem_singleton.mpr rfl)
theorem add_dom {D : Dt} {i : V} {t : Tag} (h : D.dom t) : (D.add i).dom t := by
  have key : ∀ j ∈ D.its, j ∈ (D.add i).its := fun j hj => by
    unfold Dt.add
    by_cases h : i ∈ D.its
    · rw [if_pos h]; exact hj
    · rw [if_neg h]; exact List.mem_append_left _ hj
  cases t <;> first | exact key _ h | exact h
/-- a new spot's places -/
def Ad.spot (ad : Ad) (i : V) (x dx a p q : Addr) : Ad where
  at_ t := match t with
    | .sp j => if j = i then x else ad.at_ (.sp j)
    | .md j => if j = i then a else ad.at_ (.md j)
    | .cv j => if j = i then p else ad.at_ (.cv j)
    | .qu j => if j = i then q else ad.at_ (.qu j)
    | t => ad.at_ t
  dx t := match t with
    | .sp j => if j = i then dx else ad.dx (.sp j)
    | t => ad.dx t
section
variable {w : World} {c : Tc} {H H3 : Hp} {ad : Ad} {D : Dt} {i : V} {x dx a p q : Addr}
theorem spot_old (ni : i ∉ D.its) {t : Tag} (h : D.dom t) : (ad.spot i x dx a p q).at_ t = ad.at_ t ∧ (ad.spot i x dx a p q).dx t = ad.dx t := by
  have ne : ∀ j ∈ D.its, j ≠ i := fun j hj e => ni (e ▸ hj)
  cases t with
  | sp j => exact ⟨if_neg (ne j h), if_neg (ne j h)⟩
  | md j => exact ⟨if_neg (ne j h), rfl⟩
  | cv j => exact ⟨if_neg (ne j h), rfl⟩
  | qu j => exact ⟨if_neg (ne j h), rfl⟩
  | _ => exact ⟨rfl, rfl⟩
theorem At.addSpot (A : At w c H ad D) (hi : i ∈ c.J) (ni : i ∉ D.its) (s : Same H H3) (nx : H x = none) (na : H a = none) (np : H p = none) (nq : H q = none) (ap : a ≠ p) (aq : a ≠ q) (pq : p ≠ q)
    (ha : H3 a = some (.dK [])) (hp : H3 p = some (.lst [])) (hq : H3 q = some (.lst [])) (hx : H3 x = some (.ins c.CS dx [("modes_by_owner", .ref a), ("conversions", .ref p), ("queue", .ref q)])) :
    At w c (upd H3 (ad.at_ .spots) (Mx.MixO w c.kof (ad.at_ .spots) (putK (D.its.map fun j => (j, .ref (ad.at_ (.sp j)))) i (.ref x)))) (ad.spot i x dx a p q) (D.add i) ∧
    Aft (Own ad D) H (Own (ad.spot i x dx a p q) (D.add i)) (upd H3 (ad.at_ .spots) (Mx.MixO w c.kof (ad.at_ .spots) (putK (D.its.map fun j => (j, .ref (ad.at_ (.sp j)))) i (.ref x)))) := by
  have ei : (D.add i).its = D.its ++ [i] := if_neg ni
  have hs := A.at_ .spots True.intro
  have ne_s : ∀ {b : Addr}, H b = none → b ≠ ad.at_ .spots := fun {b} h e => by rw [e, hs] at h; cases h
  have xa : x ≠ a := fun e => by rw [e, ha] at hx; cases hx
  have xp : x ≠ p := fun e => by rw [e, hp] at hx; cases hx
  have xq : x ≠ q := fun e => by rw [e, hq] at hx; cases hx
  obtain ⟨m0, c0, q0⟩ := A.ok.md0 i ni
  have put : putK (D.its.map fun j => (j, V.ref (ad.at_ (.sp j)))) i (.ref x) = (D.add i).its.map fun j => (j, V.ref ((ad.spot i x dx a p q).at_ (.sp j))) := by
    have hn : ¬ ((D.its.map fun j => (j, V.ref (ad.at_ (.sp j)))).any fun kv => decide (kv.1 = i)) = true := fun z => by
      obtain ⟨kv, hk, e⟩ := List.any_eq_true.mp z
      obtain ⟨j, hj, rfl⟩ := List.mem_map.mp hk
      exact ni (of_decide_eq_true e ▸ hj)
    unfold putK
    rw [if_neg hn, ei, List.map_append]
    congr 1
    · refine List.map_congr_left fun j hj => ?_
      rw [(spot_old (ad := ad) (x := x) (dx := dx) (a := a) (p := p) (q := q) ni (t := .sp j) hj).1]
    · show _ = [(i, V.ref (if i = i then x else _))]
      rw [if_pos rfl]
  -- what is new
  have fresh : ∀ t, (D.add i).dom t → ¬ D.dom t → H ((ad.spot i x dx a p q).at_ t) = none ∧ ((t = .sp i ∧ (ad.spot i x dx a p q).at_ t = x) ∨ (t = .md i ∧ (ad.spot i x dx a p q).at_ t = a) ∨ (t = .cv i ∧ (ad.spot i x dx a p q).at_ t = p) ∨ (t = .qu i ∧ (ad.spot i x dx a p q).at_ t = q)) := by
    intro t h1 h2
    have key : ∀ j, j ∈ (D.add i).its → j ∉ D.its → j = i := fun j g1 g2 => by
      rw [ei] at g1
      exact (List.mem_append.mp g1).elim (fun z => (g2 z).elim) fun z => List.mem_singleton.mp z
    cases t with
    | sp j =>
      obtain rfl := key j h1 h2
      have e : (ad.spot j x dx a p q).at_ (.sp j) = x := if_pos rfl
      exact ⟨by rw [e]; exact nx, .inl ⟨rfl, e⟩⟩
    | md j =>
      obtain rfl := key j h1 h2
      have e : (ad.spot j x dx a p q).at_ (.md j) = a := if_pos rfl
      exact ⟨by rw [e]; exact na, .inr (.inl ⟨rfl, e⟩)⟩
    | cv j =>
      obtain rfl := key j h1 h2
      have e : (ad.spot j x dx a p q).at_ (.cv j) = p := if_pos rfl
      exact ⟨by rw [e]; exact np, .inr (.inr (.inl ⟨rfl, e⟩))⟩
    | qu j =>
      obtain rfl := key j h1 h2
      have e : (ad.spot j x dx a p q).at_ (.qu j) = q := if_pos rfl
      exact ⟨by rw [e]; exact nq, .inr (.inr (.inr ⟨rfl, e⟩))⟩
    | _ => exact (h2 h1).elim
  have liveO : ∀ t, D.dom t → H ((ad.spot i x dx a p q).at_ t) ≠ none := fun t h e => by
    rw [(spot_old ni h).1, A.at_ t h] at e
    cases e
  refine ⟨⟨fun t ht => ?_, fun u v hu hv e => ?_, fun e he => ?_, ?_⟩, fun b o e n => ?_, fun b h => ?_⟩
  · by_cases ho : D.dom t
    · have z := s _ _ (A.at_ t ho)
      rw [(spot_old ni ho).1]
      by_cases et : t = .spots
      · subst et
        rw [upd_same, put]
        rfl
      · rw [upd_ne fun z => et (A.inj t .spots ho True.intro z), z]
        cases t with
        | sp j =>
          have ne : j ≠ i := fun e => ni (e ▸ ho)
          show some (HO.ins _ _ _) = some (HO.ins _ (if j = i then dx else _) [(_, V.ref (if j = i then a else _)), (_, V.ref (if j = i then p else _)), (_, V.ref (if j = i then q else _))])
          rw [if_neg ne, if_neg ne, if_neg ne, if_neg ne]
        | spots => exact (et rfl).elim
        | _ => rfl
    · obtain ⟨z, h⟩ := fresh t ht ho
      rw [upd_ne (ne_s z)]
      rcases h with ⟨rfl, e⟩ | ⟨rfl, e⟩ | ⟨rfl, e⟩ | ⟨rfl, e⟩
      · rw [e, hx]
        show _ = some (HO.ins _ (if i = i then dx else _) [(_, V.ref (if i = i then a else _)), (_, V.ref (if i = i then p else _)), (_, V.ref (if i = i then q else _))])
        rw [if_pos rfl, if_pos rfl, if_pos rfl, if_pos rfl]
      · rw [e, ha]
        show _ = some (HO.dK ((D.md i).map _))
        rw [m0]; rfl
      · rw [e, hp]
        show _ = some (HO.lst ((D.cv i).map _))
        rw [c0]; rfl
      · rw [e, hq]
        show _ = some (HO.lst ((D.qu i).map _))
        rw [q0]; rfl
  · by_cases hu' : D.dom u
    · by_cases hv' : D.dom v
      · rw [(spot_old ni hu').1, (spot_old ni hv').1] at e
        exact A.inj u v hu' hv' e
      · exact (liveO u hu' (e ▸ (fresh v hv hv').1)).elim
    · by_cases hv' : D.dom v
      · exact (liveO v hv' (e ▸ (fresh u hu hu').1)).elim
      · obtain ⟨_, h1⟩ := fresh u hu hu'
        obtain ⟨_, h2⟩ := fresh v hv hv'
        rcases h1 with ⟨rfl, e1⟩ | ⟨rfl, e1⟩ | ⟨rfl, e1⟩ | ⟨rfl, e1⟩ <;> rcases h2 with ⟨rfl, e2⟩ | ⟨rfl, e2⟩ | ⟨rfl, e2⟩ | ⟨rfl, e2⟩ <;> first | rfl | (rw [e1, e2] at e; exact absurd e (by first | assumption | exact Ne.symm (by assumption)))
  · have z := A.ask e he
    rw [upd_ne fun e2 => by rw [e2, hs] at z; cases z]
    exact s _ _ z
  · refine ⟨?_, fun j hj => ?_, A.ok.os, A.ok.osU, A.ok.mdn, A.ok.aln, fun j hj => A.ok.md0 j fun z => hj ?_, A.ok.got0⟩
    · rw [ei, List.nodup_append]
      refine ⟨A.ok.its, by simp, fun u hu v hv => ?_⟩
      rw [List.mem_singleton.mp hv]
      exact fun e => ni (e ▸ hu)
    · rw [ei] at hj
      exact (List.mem_append.mp hj).elim (A.ok.isJ j) fun z => by rw [List.mem_singleton.mp z]; exact hi
    · rw [ei]; exact List.mem_append_left _ z
  · rw [upd_ne fun z => n ⟨.spots, True.intro, z.symm⟩]
    exact s _ _ e
  · obtain ⟨t, ht, rfl⟩ := h
    by_cases ho : D.dom t
    · exact .inl ⟨t, ho, (spot_old ni ho).1.symm⟩
    · exact .inr (fresh t ht ho).1
end

theorem valV_its {its : List V} {g : V → V} {i : V} : valV (its.map fun j => (j, g j)) i = if i ∈ its then some (g i) else none := by
  unfold valV
  induction its with
  | nil => rfl
  | cons j its ih =>
    rw [List.map_cons, List.find?_cons]
    by_cases h : j = i
    · subst h
      rw [if_pos List.mem_cons_self]
      simp
    · rw [show decide ((j, g j).1 = i) = false from decide_eq_false h]
      rw [ih]
      have : (i ∈ j :: its) ↔ i ∈ its := ⟨fun z => (List.mem_cons.mp z).resolve_left fun e => h e.symm, List.mem_cons_of_mem _⟩
      by_cases h2 : i ∈ its
      · rw [if_pos h2, if_pos (this.mpr h2)]
      · rw [if_neg h2, if_neg fun z => h2 (this.mp z)]
abbrev spSpotOf (b : Bs) (c : Tc) : Sp := fun vs H Q _ => ∃ (ad : Ad) (D : Dt) (i : V), vs = [.ref (ad.at_ .tab), i] ∧ At b.w c H ad D ∧ c.Ok b.K H ∧ i ∈ c.J ∧
  ∀ H' ad', At b.w c H' ad' (D.add i) → Aft (Own ad D) H (Own ad' (D.add i)) H' → (∀ t, D.dom t → ad'.at_ t = ad.at_ t) → Q (.ref (ad'.at_ (.sp i))) H'
abbrev s_LockTable_spot_of : Stmt := inClass (top 38) 1
abbrev N_LockTable_spot_of : List Str := ["self", "item"]
abbrev P_LockTable_spot_of : List Str := ["self", "item"]
theorem sc_LockTable_spot_of : FnScope N_LockTable_spot_of P_LockTable_spot_of (defScope s_LockTable_spot_of) := ⟨rfl, rfl, rfl, by decide +kernel, rfl, by decide +kernel, by decide +kernel⟩
theorem ok_spot_of {b : Bs} {c : Tc} (R : RawM b c.CT "spot_of" "LockTable.spot_of" s_LockTable_spot_of P_LockTable_spot_of) (K : ClsOk b.K c) (D_Spot_init : Mkd b 1 c.CS "Spot" P_Spot_init (spSpotInit c)) : Mt b 3 c.CT "spot_of" P_LockTable_spot_of (spSpotOf b c) := by
  refine R.ok K.cT sc_LockTable_spot_of (fun vs H Q E h => ?_) fun f cdv A outer s H vs Q E hr h => ?_
  · obtain ⟨ad, D, i, rfl, _⟩ := h
    rfl
  · obtain ⟨ad, D, i, rfl, T, O, hi, k⟩ := h
    let kof := c.kof
    refine ⟨_, (pss_one (ps_ret (pe_msetd (kof := kof) (hu9 hr) (pe_fld (pv 0) rfl) (pv 1) (pe_mk0 D_Spot_init (hr.mono (by decide))) ⟨rfl, rfl, rfl, rfl⟩))), ?_⟩
    have hs := T.at_ .spots True.intro
    have len : D.its.length ≤ c.J.length := LT_len T.ok.its T.ok.isJ
    have fw := O.few
    have subJ : ∀ p ∈ D.its.map fun j => (j, V.ref (ad.at_ (.sp j))), p.1 ∈ c.J := fun p hp => by
      obtain ⟨j, hj, rfl⟩ := List.mem_map.mp hp
      exact T.ok.isJ j hj
    refine ⟨_, rfl, _, _, _, _, _, rfl, T.at_ .tab True.intro, K.cT, K.nT _ (by simp), rfl, ⟨_, _, c.J, rfl, .inl hs, O.it, subJ⟩, _, rfl, fun x dx hx hdx ne => ?_⟩
    refine ⟨x, dx, rfl, upd_same, fun H' a p q kp na np nq ap aq pq ha hp hq hx' => ⟨rfl, ?_⟩⟩
    have s1 : Same H H' := fun b o e => kp b o (by rw [upd_ne (ne_of_none e hx), upd_ne (ne_of_none e hdx)]; exact e) (ne_of_none e hx)
    have back : ∀ r, (upd (upd H dx (.own x)) x (.ins c.CS dx [])) r = none → H r = none := fun r h => by
      have n1 : r ≠ x := fun e => by rw [e, upd_same] at h; cases h
      rw [upd_ne n1] at h
      have n2 : r ≠ dx := fun e => by rw [e, upd_same] at h; cases h
      rwa [upd_ne n2] at h
    refine ⟨_, _, c.J, rfl, s1 _ _ hs, O.it.mono (Same.tups s1), subJ, hi, ?_, fun v hv => ?_, fun hn => ?_⟩
    · rw [List.length_map, sizeLine_eq]
      omega
    · rw [valV_its] at hv
      by_cases h : i ∈ D.its
      · rw [if_pos h] at hv
        cases hv
        have e := add_old h
        refine k H' ad ?_ ?_ fun _ _ => rfl
        · rw [e]; exact T.same s1
        · rw [e]; exact Aft.same s1
      · rw [if_neg h] at hv; cases hv
    · rw [valV_its] at hn
      have ni : i ∉ D.its := fun h => by rw [if_pos h] at hn; cases hn
      obtain ⟨w1, w2⟩ := T.addSpot hi ni s1 hx (back a na) (back p np) (back q nq) ap aq pq ha hp hq hx'
      have e : (ad.spot i x dx a p q).at_ (.sp i) = x := if_pos rfl
      have z := k _ _ w1 w2 fun t ht => (spot_old ni ht).1
      rw [e] at z
      exact z
end Lk
end
section
set_option maxRecDepth 100000
set_option maxHeartbeats 1000000
/-! One part of a table changes; what a doing leaves. -/
namespace Lk
open PySem L2

/-- a doing of the table: where it stands behind it, what else stands -/
structure Go (w : World) (c : Tc) (H : Hp) (ad : Ad) (D : Dt) (H' : Hp) (ad' : Ad) (D' : Dt) : Prop where
  at_ : At w c H' ad' D'
  aft : Aft (Own ad D) H (Own ad' D') H'
  pl : ∀ t, D.dom t → ad'.at_ t = ad.at_ t
  dm : ∀ t, D.dom t → D'.dom t
section
variable {w : World} {c : Tc} {H H' H1 H2 : Hp} {ad ad1 ad2 : Ad} {D D1 D2 : Dt}
theorem Go.refl (A : At w c H ad D) : Go w c H ad D H ad D := ⟨A, Aft.refl, fun _ _ => rfl, fun _ h => h⟩
theorem Go.trans (g : Go w c H ad D H1 ad1 D1) (k : Go w c H1 ad1 D1 H2 ad2 D2) : Go w c H ad D H2 ad2 D2 :=
  ⟨k.at_, g.aft.trans k.aft, fun t h => (k.pl t (g.dm t h)).trans (g.pl t h), fun t h => k.dm t (g.dm t h)⟩
theorem Go.same (A : At w c H ad D) (s : Same H H') : Go w c H ad D H' ad D := ⟨A.same s, Aft.same s, fun _ _ => rfl, fun _ h => h⟩
theorem Go.then_ (g : Go w c H ad D H1 ad1 D1) (s : Same H1 H2) : Go w c H ad D H2 ad1 D1 := g.trans (Go.same g.at_ s)
theorem Go.tups (A : At w c H ad D) (g : Go w c H ad D H1 ad1 D1) : Tups H H1 := A.tups g.aft
theorem Go.tab (g : Go w c H ad D H1 ad1 D1) : ad1.at_ .tab = ad.at_ .tab := g.pl .tab True.intro
/-- what is none of the table's stands -/
theorem Go.off (g : Go w c H ad D H1 ad1 D1) {a : Addr} {o : HO} (h : H a = some o) (n : ¬ Own ad D a) : H1 a = some o ∧ ¬ Own ad1 D1 a :=
  ⟨g.aft.keep a o h n, fun z => (g.aft.new a z).elim n fun z => by rw [h] at z; cases z⟩
/-- a place of one's own, changed -/
theorem At.off (A : At w c H ad D) {r : Addr} {o u : HO} (n : ¬ Own ad D r) (h : H r = some u) (hu : ∀ xs, u ≠ .tup xs) : At w c (upd H r o) ad D :=
  ⟨fun t ht => by rw [upd_ne fun e => n ⟨t, ht, e⟩]; exact A.at_ t ht, A.inj, fun e he => Tups.mut h hu _ _ (A.ask e he), A.ok⟩
theorem off_new {r : Addr} (A : At w c H ad D) (h : H r = none) : ¬ Own ad D r := fun z => by
  obtain ⟨t, _, e⟩ := A.live z
  rw [h] at e; cases e

end
def Dt.sMd (D : Dt) (i : V) (l : List (Int × Str)) : Dt := { D with md := LT.put D.md i l }
def Dt.sCv (D : Dt) (i : V) (l : List Int) : Dt := { D with cv := LT.put D.cv i l }
def Dt.sQu (D : Dt) (i : V) (l : List Int) : Dt := { D with qu := LT.put D.qu i l }
def Dt.sGot (D : Dt) (o : Int) (l : List V) : Dt := { D with got := LT.put D.got o l }
def Dt.sAl (D : Dt) (l : List (Int × Addr × V × Str)) : Dt := { D with al := l }
section
variable {w : World} {c : Tc} {H H' H1 H2 : Hp} {ad ad1 ad2 : Ad} {D D1 D2 : Dt}
theorem Go.none_ (A : At w c H ad D) (g : Go w c H ad D H1 ad1 D1) {r : Addr} (h : H1 r = none) : H r = none := by
  cases e : H r with
  | none => rfl
  | some o =>
    by_cases n : Own ad D r
    · obtain ⟨t, ht, et⟩ := n
      have z := g.at_.at_ t (g.dm t ht)
      rw [g.pl t ht, et, h] at z
      cases z
    · rw [g.aft.keep r o e n] at h; cases h
theorem dom_eq (h1 : D1.its = D.its) (h2 : D1.os = D.os) : D1.dom = D.dom := by
  funext t
  cases t <;> simp only [Dt.dom, h1, h2]
theorem At.go (A : At w c H ad D) (t0 : Tag) (h0 : D.dom t0) {o : HO} (ed : D1.dom = D.dom) (A1 : At w c (upd H (ad.at_ t0) o) ad D1) : Go w c H ad D (upd H (ad.at_ t0) o) ad D1 := by
  refine ⟨A1, ?_, fun _ _ => rfl, fun t h => by rw [ed]; exact h⟩
  rw [own_eq (ad := ad) ed]
  exact A.set_aft t0 h0 o
theorem At.goMd (A : At w c H ad D) {i : V} {l : List (Int × Str)} (hi : i ∈ D.its) (nd : (l.map (·.1)).Nodup) :
    Go w c H ad D (upd H (ad.at_ (.md i)) (.dK (l.map (ent V.str)))) ad (D.sMd i l) := by
  refine A.go (.md i) hi (dom_eq rfl rfl) ?_
  have z := A.set (D' := (D.sMd i l)) (.md i) hi (dom_eq rfl rfl) (fun t ht hd => ?_) ⟨A.ok.its, A.ok.isJ, A.ok.os, A.ok.osU, fun j => ?_, A.ok.aln, fun j hj => ?_, A.ok.got0⟩ A.ask
  · rw [show cont w c ad (D.sMd i l) (.md i) = .dK ((LT.put D.md i l i).map (ent V.str)) from rfl, LT.put_at] at z
    exact z
  · cases t with
    | md j =>
      show HO.dK ((LT.put D.md i l j).map _) = HO.dK _
      rw [LT.put_off _ _ fun e : j = i => ht (by rw [e])]
    | _ => rfl
  · show ((LT.put D.md i l j).map _).Nodup
    by_cases e : j = i
    · rw [e, LT.put_at]; exact nd
    · rw [LT.put_off _ _ e]; exact A.ok.mdn j
  · have e : j ≠ i := fun e => hj (e ▸ hi)
    show LT.put D.md i l j = [] ∧ _
    rw [LT.put_off _ _ e]
    exact A.ok.md0 j hj
theorem At.goCv (A : At w c H ad D) {i : V} {l : List Int} (hi : i ∈ D.its) :
    Go w c H ad D (upd H (ad.at_ (.cv i)) (.lst (l.map V.int))) ad (D.sCv i l) := by
  refine A.go (.cv i) hi (dom_eq rfl rfl) ?_
  have z := A.set (D' := (D.sCv i l)) (.cv i) hi (dom_eq rfl rfl) (fun t ht hd => ?_) ⟨A.ok.its, A.ok.isJ, A.ok.os, A.ok.osU, A.ok.mdn, A.ok.aln, fun j hj => ?_, A.ok.got0⟩ A.ask
  · rw [show cont w c ad (D.sCv i l) (.cv i) = .lst ((LT.put D.cv i l i).map V.int) from rfl, LT.put_at] at z
    exact z
  · cases t with
    | cv j =>
      show HO.lst ((LT.put D.cv i l j).map _) = HO.lst _
      rw [LT.put_off _ _ fun e : j = i => ht (by rw [e])]
    | _ => rfl
  · have e : j ≠ i := fun e => hj (e ▸ hi)
    show _ ∧ LT.put D.cv i l j = [] ∧ _
    rw [LT.put_off _ _ e]
    exact A.ok.md0 j hj
theorem At.goQu (A : At w c H ad D) {i : V} {l : List Int} (hi : i ∈ D.its) :
    Go w c H ad D (upd H (ad.at_ (.qu i)) (.lst (l.map V.int))) ad (D.sQu i l) := by
  refine A.go (.qu i) hi (dom_eq rfl rfl) ?_
  have z := A.set (D' := (D.sQu i l)) (.qu i) hi (dom_eq rfl rfl) (fun t ht hd => ?_) ⟨A.ok.its, A.ok.isJ, A.ok.os, A.ok.osU, A.ok.mdn, A.ok.aln, fun j hj => ?_, A.ok.got0⟩ A.ask
  · rw [show cont w c ad (D.sQu i l) (.qu i) = .lst ((LT.put D.qu i l i).map V.int) from rfl, LT.put_at] at z
    exact z
  · cases t with
    | qu j =>
      show HO.lst ((LT.put D.qu i l j).map _) = HO.lst _
      rw [LT.put_off _ _ fun e : j = i => ht (by rw [e])]
    | _ => rfl
  · have e : j ≠ i := fun e => hj (e ▸ hi)
    show _ ∧ _ ∧ LT.put D.qu i l j = []
    rw [LT.put_off _ _ e]
    exact A.ok.md0 j hj
theorem At.goGot (A : At w c H ad D) {o : Int} {l : List V} (ho : o ∈ D.os) :
    Go w c H ad D (upd H (ad.at_ (.kept o)) (.lst l)) ad (D.sGot o l) := by
  refine A.go (.kept o) ho (dom_eq rfl rfl) ?_
  have z := A.set (D' := (D.sGot o l)) (.kept o) ho (dom_eq rfl rfl) (fun t ht hd => ?_) ⟨A.ok.its, A.ok.isJ, A.ok.os, A.ok.osU, A.ok.mdn, A.ok.aln, A.ok.md0, fun j hj => ?_⟩ A.ask
  · rw [show cont w c ad (D.sGot o l) (.kept o) = .lst (LT.put D.got o l o) from rfl, LT.put_at] at z
    exact z
  · cases t with
    | kept j =>
      show HO.lst (LT.put D.got o l j) = HO.lst _
      rw [LT.put_off _ _ fun e : j = o => ht (by rw [e])]
    | _ => rfl
  · have e : j ≠ o := fun e => hj (e ▸ ho)
    show LT.put D.got o l j = []
    rw [LT.put_off _ _ e]
    exact A.ok.got0 j hj
theorem At.goAl (A : At w c H ad D) {l : List (Int × Addr × V × Str)} (nd : (l.map (·.1)).Nodup) (h : ∀ e ∈ l, H e.2.1 = some (.tup [e.2.2.1, .str e.2.2.2])) :
    Go w c H ad D (upd H (ad.at_ .asks) (.dK (l.map (ent fun e => .ref e.1)))) ad (D.sAl l) := by
  refine A.go .asks True.intro (dom_eq rfl rfl) ?_
  refine A.set (D' := (D.sAl l)) .asks True.intro (dom_eq rfl rfl) (fun t ht hd => ?_) ⟨A.ok.its, A.ok.isJ, A.ok.os, A.ok.osU, A.ok.mdn, nd, A.ok.md0, A.ok.got0⟩ h
  cases t with
  | asks => exact (ht rfl).elim
  | _ => rfl
/-- a new list of items -/
def Ad.keep (ad : Ad) (o : Int) (p : Addr) : Ad where
  at_ t := match t with
    | .kept j => if j = o then p else ad.at_ (.kept j)
    | t => ad.at_ t
  dx := ad.dx
def Dt.keep (D : Dt) (o : Int) : Dt := { D with os := if o ∈ D.os then D.os else D.os ++ [o] }
theorem keep_old {o : Int} (h : o ∈ D.os) : D.keep o = D := by unfold Dt.keep; rw [if_pos h]
theorem keep_ts (D : Dt) (o : Int) : (D.keep o).ts = D.ts := rfl
theorem keep_mem (D : Dt) (o : Int) : o ∈ (D.keep o).os := by
  unfold Dt.keep
  by_cases h : o ∈ D.os
  · rw [if_pos h]; exact h
  · rw [if_neg h]; exact List.mem_append_right _ (List.mem_singleton.mpr rfl)
theorem adKeep_old {o : Int} {p : Addr} (no : o ∉ D.os) {t : Tag} (h : D.dom t) : (ad.keep o p).at_ t = ad.at_ t := by
  cases t with
  | kept j => exact if_neg fun e : j = o => no (e ▸ h)
  | _ => rfl
theorem At.goKeep (A : At w c H ad D) {o : Int} {p : Addr} (ho : o ∈ c.U) (no : o ∉ D.os) (s : Same H H1) (np : H p = none) (hp : H1 p = some (.lst [])) :
    Go w c H ad D (upd H1 (ad.at_ .ibo) (.dK (putK (D.os.map fun q => (Sum.inl q, .ref (ad.at_ (.kept q)))) (Sum.inl o) (.ref p)))) (ad.keep o p) (D.keep o) := by
  have ei : (D.keep o).os = D.os ++ [o] := if_neg no
  have hs := A.at_ .ibo True.intro
  have np' : p ≠ ad.at_ .ibo := fun e => by rw [e, hs] at np; cases np
  have put : putK (D.os.map fun q => ((Sum.inl q : L2.Key), V.ref (ad.at_ (.kept q)))) (Sum.inl o) (.ref p) = (D.keep o).os.map fun q => (Sum.inl q, V.ref ((ad.keep o p).at_ (.kept q))) := by
    have hn : ¬ ((D.os.map fun q => ((Sum.inl q : L2.Key), V.ref (ad.at_ (.kept q)))).any fun kv => decide (kv.1 = Sum.inl o)) = true := fun z => by
      obtain ⟨kv, hk, e⟩ := List.any_eq_true.mp z
      obtain ⟨j, hj, rfl⟩ := List.mem_map.mp hk
      have e2 := of_decide_eq_true e
      injection e2 with e2
      exact no (e2 ▸ hj)
    unfold putK
    rw [if_neg hn, ei, List.map_append]
    congr 1
    · refine List.map_congr_left fun j hj => ?_
      rw [adKeep_old (ad := ad) (p := p) no (t := .kept j) hj]
    · show _ = [(Sum.inl o, V.ref (if o = o then p else _))]
      rw [if_pos rfl]
  have fresh : ∀ t, (D.keep o).dom t → ¬ D.dom t → t = .kept o ∧ (ad.keep o p).at_ t = p := by
    intro t h1 h2
    cases t with
    | kept j =>
      have h1 : j ∈ (D.keep o).os := h1
      rw [ei] at h1
      obtain rfl : j = o := (List.mem_append.mp h1).elim (fun z => (h2 z).elim) fun z => List.mem_singleton.mp z
      exact ⟨rfl, if_pos rfl⟩
    | _ => exact (h2 h1).elim
  have liveO : ∀ t, D.dom t → (ad.keep o p).at_ t ≠ p := fun t h e => by
    rw [adKeep_old no h] at e
    have z := A.at_ t h
    rw [e, np] at z
    cases z
  refine ⟨⟨fun t ht => ?_, fun u v hu hv e => ?_, fun e he => ?_, ?_⟩, ⟨fun b u e n => ?_, fun b h => ?_⟩, fun t ht => adKeep_old no ht, fun t ht => ?_⟩
  · by_cases hd : D.dom t
    · have z := s _ _ (A.at_ t hd)
      rw [adKeep_old no hd]
      by_cases et : t = .ibo
      · subst et
        rw [upd_same, put]
        rfl
      · rw [upd_ne fun z => et (A.inj t .ibo hd True.intro z), z]
        cases t with
        | ibo => exact (et rfl).elim
        | _ => rfl
    · obtain ⟨rfl, e⟩ := fresh t ht hd
      rw [e, upd_ne np', hp]
      show _ = some (HO.lst (D.got o))
      rw [A.ok.got0 o no]
  · by_cases hu' : D.dom u
    · by_cases hv' : D.dom v
      · rw [adKeep_old no hu', adKeep_old no hv'] at e
        exact A.inj u v hu' hv' e
      · exact (liveO u hu' (e.trans (fresh v hv hv').2)).elim
    · by_cases hv' : D.dom v
      · exact (liveO v hv' (e.symm.trans (fresh u hu hu').2)).elim
      · exact (fresh u hu hu').1.trans (fresh v hv hv').1.symm
  · have z := A.ask e he
    rw [upd_ne fun e2 => by rw [e2, hs] at z; cases z]
    exact s _ _ z
  · refine ⟨A.ok.its, A.ok.isJ, ?_, fun j hj => ?_, A.ok.mdn, A.ok.aln, A.ok.md0, fun j hj => A.ok.got0 j fun z => hj ?_⟩
    · rw [ei, List.nodup_append]
      refine ⟨A.ok.os, by simp, fun u hu v hv => ?_⟩
      rw [List.mem_singleton.mp hv]
      exact fun e => no (e ▸ hu)
    · rw [ei] at hj
      exact (List.mem_append.mp hj).elim (A.ok.osU j) fun z => by rw [List.mem_singleton.mp z]; exact ho
    · rw [ei]; exact List.mem_append_left _ z
  · rw [upd_ne fun z => n ⟨.ibo, True.intro, z.symm⟩]
    exact s _ _ e
  · obtain ⟨t, ht, rfl⟩ := h
    by_cases hd : D.dom t
    · exact .inl ⟨t, hd, (adKeep_old no hd).symm⟩
    · rw [(fresh t ht hd).2]
      exact .inr np
  · cases t with
    | kept j =>
      show j ∈ (D.keep o).os
      rw [ei]
      exact List.mem_append_left _ ht
    | _ => exact ht
end
theorem lets_md {c : Tc} {D : Dt} {i : V} {o : Int} {m : Str} (hU : ∀ e ∈ D.md i, e.1 ∈ c.U) (nd : ((D.md i).map (·.1)).Nodup) : ((D.md i).all fun e => decide (e.1 = o) || c.d.al e.2 m) = LT.lets c.M c.U D.ts o i m := by
  rw [Bool.eq_iff_iff]
  unfold LT.lets
  rw [List.all_eq_true, List.all_eq_true]
  constructor
  · intro h q hq
    have e2 : D.ts.held i q = (D.md i).lookup q := rfl
    rw [e2]
    cases e : (D.md i).lookup q with
    | none => simp
    | some k => exact h (q, k) ((lookup_mem nd).mp e)
  · intro h e he
    have z := h e.1 (hU e he)
    have e2 : D.ts.held i e.1 = (D.md i).lookup e.1 := rfl
    rw [e2, (lookup_mem nd).mpr (show (e.1, e.2) ∈ D.md i from he)] at z
    exact z
end Lk
end
section
set_option maxRecDepth 100000
set_option maxHeartbeats 1000000
/-! others_allow. -/
namespace Lk
open PySem L2
open Mx (pe_msetd pe_mget pe_mget2 ps_mput pe_mnew pe_mayLock ps_mayLock pi_itemsN pi_itemsM)

section
variable {J : It} {G : Hp → Prop} {Y : Nat → Hp → V → Hp → Prop} {α : Type} {xs : List α}
theorem lc_each (w : Walk J xs.length G Y) {g : TG} {te : TE} {vs : List Nat} {σ : St} {H1 : Hp} {D : Addr} {Qd : Hp → Prop} (f : α → V) (hD : H1 D = none) (hn : xs.length < sizeLine) (hG : ∀ H, Same H1 H → G H)
    (turn : ∀ i e x H H' (Q : VK), xs[i]? = some e → Same H1 H → Y i H x H' → (∀ H4, Same H H4 → Q (f e) H4) → g x (wipe σ vs) H' fun σ2 H2 => wipe σ2 vs = wipe σ vs ∧ te σ2 H2 Q)
    (done : ∀ H, Same H1 H → H D = some (.lst (xs.map f)) → Qd H) :
    ∃ W : Nat → Nat → Hp → Prop, (∃ m, W 0 m (upd H1 D (.lst []))) ∧ ∀ i m H, W i m H →
      (J.stop i H ∧ Qd H) ∨ (J.go i H ∧ ∃ Nx : Hp → Prop, (∀ H', Nx H' → ∃ m', m' < m ∧ W (i + 1) m' H') ∧ ∀ x H', J.yld i H x H' → g x (wipe σ vs) H' fun σ2 H2 => wipe σ2 vs = wipe σ vs ∧ tYes σ2 H2 fun b H3 =>
        if b = true then te σ2 H3 fun y H4 => ∃ acc, H4 D = some (.lst acc) ∧ acc.length < sizeLine ∧ Nx (upd H4 D (.lst (acc ++ [y]))) else Nx H3) := by
  refine lc_pure (tt := tYes) w (fun i => xs[i]?.bind fun e => some (f e)) hD hn hG (fun i x H H' Q N hi s y q => ?_) fun H s e => done H s (by rw [e, range_bind, filterMap_some'])
  have hx : xs[i]? = some xs[i] := List.getElem?_eq_getElem hi
  rw [hx] at q
  exact turn i _ x H H' Q hx s y q
end
theorem same_unlock {H H' : Hp} {d : Addr} {od : Obj} {u : HO} (h : H d = some u) (s : Same (upd H d (.frz od u)) H') : Same H (upd H' d u) := fun b o e => by
  by_cases hb : b = d
  · subst hb
    rw [h] at e
    cases e
    exact upd_same
  · rw [upd_ne hb]
    exact s b o (by rw [upd_ne hb]; exact e)
theorem all_bl {α : Type} (f : α → Bool) (l : List α) : (l.map fun e => V.bl (f e)) = (l.map f).map V.bl := by rw [List.map_map]; rfl
abbrev Hin (c : Tc) (D : Dt) (i : V) : Prop := ∀ e ∈ D.md i, e.1 ∈ c.U ∧ e.2 ∈ c.d.names
abbrev spOthers (b : Bs) (c : Tc) : Sp := fun vs H Q _ => ∃ (ad : Ad) (D : Dt) (o : Int) (i : V) (m : Str), vs = [.ref (ad.at_ .tab), .int o, i, .str m] ∧ At b.w c H ad D ∧ c.Ok b.K H ∧ i ∈ c.J ∧ m ∈ c.d.names ∧ Hin c D i ∧
  ∀ H' ad', Go b.w c H ad D H' ad' (D.add i) → Q (.bl (LT.lets c.M c.U D.ts o i m)) H'
abbrev s_LockTable_others_allow : Stmt := inClass (top 38) 2
abbrev N_LockTable_others_allow : List Str := ["self", "owner", "item", "mode", "some", "one", "held"]
abbrev P_LockTable_others_allow : List Str := ["self", "owner", "item", "mode"]
theorem sc_LockTable_others_allow : FnScope N_LockTable_others_allow P_LockTable_others_allow (defScope s_LockTable_others_allow) := ⟨rfl, rfl, rfl, by decide +kernel, rfl, by decide +kernel, by decide +kernel⟩
theorem ok_others_allow {b : Bs} {c : Tc} (R : RawM b c.CT "others_allow" "LockTable.others_allow" s_LockTable_others_allow P_LockTable_others_allow) (K : ClsOk b.K c) (T : Tops b) (D_spot_of : Mt b 3 c.CT "spot_of" P_LockTable_spot_of (spSpotOf b c))
    (D_allows : Df b 1 "allows" P_allows (spAllows b.K)) : Mt b 4 c.CT "others_allow" P_LockTable_others_allow (spOthers b c) := by
  refine R.ok K.cT sc_LockTable_others_allow (fun vs H Q E h => ?_) fun f cdv A outer s H vs Q E hr h => ?_
  · obtain ⟨ad, D, o, i, m, rfl, _⟩ := h
    rfl
  · obtain ⟨ad, D, o, i, m, rfl, A1, O, hi, hm, hin, k⟩ := h
    refine ⟨_, (pss_cons (ps_set (i := 4) sc_LockTable_others_allow.nd rfl (Or.inl rfl) (pe_fld (pe_mtd D_spot_of (pv 0) (hr.mono (by decide)) (pa_cons (pv 2) pa_nil)) rfl))
      (pss_one (ps_ret (pe_callB (cr_all rfl) (by rfl) T.b_all (by decide +kernel) (pa_cons (pe_mayLock (pe_lcB (own := [("one", 5), ("held", 6)]) rfl sc_LockTable_others_allow.nd (pi_itemsN (pv 4)) (blkOk_by (own := [("one", 5), ("held", 6)]) (N := N_LockTable_others_allow) (sc := defScope s_LockTable_others_allow) (by decide +kernel)) (fun _ _ _ _ _ => (pg_tup rfl (pgs_cons (pg_name (i := 5) sc_LockTable_others_allow.nd rfl (Or.inl rfl)) (pgs_cons (pg_name (i := 6) sc_LockTable_others_allow.nd rfl (Or.inl rfl)) pgs_nil)))) (fun _ _ _ _ _ => pts_nil) (fun _ _ _ _ _ => (pe_or (pe_cmpR op_eq (pv 5) (pv 1) (nomark _)) (pe_one (pe_df D_allows (hr.mono (by decide)) (pa_cons (pe_fld (pv 0) rfl) (pa_cons (pv 6) (pa_cons (pv 3) pa_nil))))))))) pa_nil))))), ?_⟩
    refine ⟨_, rfl, _, _, _, rfl, A1.at_ .tab True.intro, rfl, _, rfl, ad, D, i, rfl, A1, O, hi, fun H1 ad1 A2 f1 p1 => ?_⟩
    have g1 : Go b.w c H ad D H1 ad1 (D.add i) := ⟨A2, f1, p1, fun t => add_dom⟩
    have O1 := O.mono (A1.tups f1)
    refine ⟨_, _, _, _, _, rfl, A2.at_ (.sp i) (add_mem D i), K.cS, K.nS _ (by simp), rfl, ?_⟩
    refine .inl ⟨_, _, A2.at_ (.md i) (add_mem D i), True.intro, fun od => ⟨_, rfl, _, _, rfl, .inl ⟨od, upd_same, fun L hL => ?_⟩⟩⟩
    have nd := A1.ok.mdn i
    have lz : ((D.md i).map (ent V.str)).length ≤ 100 := by
      have := LT_len (l := (D.md i).map (·.1)) (m := c.U) nd fun x hx => by
        obtain ⟨e, he, rfl⟩ := List.mem_map.mp hx
        exact (hin e he).1
      have := O.ul
      rw [List.length_map] at *
      omega
    have w := walk_items (d := ad1.at_ (.md i)) (o := od) (kvs := (D.md i).map (ent V.str))
    rw [List.length_map] at w lz
    refine lc_each (xs := D.md i) w (fun e => V.bl (decide (e.1 = o) || c.d.al e.2 m)) hL (by rw [sizeLine_eq]; omega) (fun H2 s2 => s2 _ _ upd_same) (fun j e x H2 H3 Q' he s2 hy q => ?_) fun H2 s2 e2 => ?_
    · obtain ⟨Tt, x0, y0, rfl, hT, rfl, h0, h1⟩ := hy
      have h0 : ((D.md i).map (ent V.str))[j]?.map (fun kv => kV kv.1) = some x0 := h0
      have h1 : ((D.md i).map (ent V.str))[j]?.map Prod.snd = some y0 := h1
      rw [List.getElem?_map, he] at h0 h1
      cases h0
      cases h1
      refine ⟨Tt, _, rfl, .inl (.inl upd_same), rfl, _, _, rfl, _, _, rfl, rfl, rfl, ?_⟩
      refine ⟨_, rfl, _, rfl, rfl, _, rfl, ?_⟩
      have e0 : decide (V.int e.1 = V.int o) = decide (e.1 = o) := decide_eq_decide.mpr ⟨fun z => by injection z, fun z => by rw [z]⟩
      have s3 : Same H2 (upd H2 Tt (.tup [.int e.1, .str e.2])) := same_new' hT
      by_cases h : e.1 = o
      · rw [show decide (kV (ent V.str e).1 = V.int o) = true from e0.trans (decide_eq_true h)]
        rw [decide_eq_true h] at q
        exact iteT (q _ s3)
      · rw [show decide (kV (ent V.str e).1 = V.int o) = false from e0.trans (decide_eq_false h)]
        rw [decide_eq_false h, Bool.false_or] at q
        refine iteF ?_
        have s4 := Same.trans s2 s3
        have hta : (upd H1 (ad1.at_ (.md i)) (.frz od (cont b.w c ad1 (D.add i) (.md i)))) (ad.at_ .tab) = some (cont b.w c ad1 (D.add i) .tab) := by
          have ne : ad1.at_ .tab ≠ ad1.at_ (.md i) := fun z => by have := A2.inj .tab (.md i) True.intro (add_mem D i) z; cases this
          rw [← p1 .tab True.intro, upd_ne ne]
          exact A2.at_ .tab True.intro
        have t4 : Tups H1 (upd H2 Tt (.tup [.int e.1, .str e.2])) := Tups.trans (Tups.mut (A2.at_ (.md i) (add_mem D i)) (cont_tup _)) (Same.tups s4)
        have hm4 := O1.ms.mono t4
        refine ⟨_, rfl, _, _, _, _, _, rfl, s4 _ _ hta, K.cT, K.nT _ (by simp), rfl, _, rfl, _, rfl, c.mo, c.d, e.2, m, rfl, hm4, (hin e (List.mem_of_getElem? he)).2, hm, fun H5 s5 => ?_⟩
        exact q _ (Same.trans s3 s5)
    · refine ⟨s2 _ _ upd_same, ?_⟩
      have s3 := same_unlock (A2.at_ (.md i) (add_mem D i)) s2
      have nL : L ≠ ad1.at_ (.md i) := fun z => by rw [z, upd_same] at hL; cases hL
      refine ⟨L, _, rfl, .inl (.inl (by rw [upd_ne nL, e2, all_bl])), ?_⟩
      have z := k _ _ (g1.then_ s3)
      rw [← lets_md (fun e he => (hin e he).1) nd] at z
      rw [List.all_map]
      exact z
end Lk
end
section
set_option maxRecDepth 100000
set_option maxHeartbeats 1000000
/-! grant. -/
namespace Lk
open PySem L2
open Mx (pe_msetd pe_mget pe_mget2 ps_mput pe_mnew pe_mayLock ps_mayLock pi_itemsN pi_itemsM)

theorem Tc.Ok.key {K : PySem.W.Frag} {H : Hp} {c : Tc} (O : c.Ok K H) {v : V} (hv : v ∈ c.J) : KeyOk (c.kof v) := by
  have k := O.it.key v hv
  have i := O.iv v hv
  generalize c.kof v = kk at k ⊢
  cases k with
  | str x =>
    cases i with
    | name _ h => exact okS_name h
  | tup e =>
    cases i with
    | row h e2 =>
      rw [e] at e2
      cases e2
      exact okS_name h
theorem valV_os {os : List Int} {g : Int → V} {o : Int} : valV (os.map fun q => ((Sum.inl q : L2.Key), g q)) (Sum.inl o) = if o ∈ os then some (g o) else none := by
  unfold valV
  induction os with
  | nil => rfl
  | cons j os ih =>
    rw [List.map_cons, List.find?_cons]
    by_cases h : j = o
    · subst h
      rw [if_pos List.mem_cons_self]
      simp
    · rw [show decide (((Sum.inl j : L2.Key), g j).1 = Sum.inl o) = false from decide_eq_false fun e => h (by injection e)]
      rw [ih]
      have : (o ∈ j :: os) ↔ o ∈ os := ⟨fun z => (List.mem_cons.mp z).resolve_left fun e => h e.symm, List.mem_cons_of_mem _⟩
      by_cases h2 : o ∈ os
      · rw [if_pos h2, if_pos (this.mpr h2)]
      · rw [if_neg h2, if_neg fun z => h2 (this.mp z)]
theorem dropA_none {α : Type} {l : List (Int × α)} {o : Int} (h : l.lookup o = none) : dropA l o = l := by
  unfold dropA
  rw [List.filter_eq_self]
  intro e he
  exact decide_eq_true fun z => lookup_none.mp h (List.mem_map.mpr ⟨e, he, z⟩)
theorem put_self {α β : Type} [DecidableEq α] (f : α → β) (a : α) : LT.put f a (f a) = f := by
  funext x
  by_cases h : x = a
  · rw [h, LT.put_at]
  · rw [LT.put_off _ _ h]
def Dt.give (D : Dt) (o : Int) (i : V) (m : Str) : Dt := ((((D.add i).sMd i (putA (D.md i) o m)).sAl (dropA D.al o)).keep o).sGot o (if i ∈ D.got o then D.got o else D.got o ++ [i])
theorem lookup_map_snd {α β : Type} (f : α → β) (l : List (Int × α)) (q : Int) : (l.map fun e => (e.1, f e.2)).lookup q = (l.lookup q).map f := by
  induction l with
  | nil => rfl
  | cons e l ih =>
    rw [List.map_cons, List.lookup_cons, List.lookup_cons]
    cases q == e.1
    · exact ih
    · rfl
theorem give_ts (D : Dt) (o : Int) (i : V) (m : Str) : (D.give o i m).ts = LT.give D.ts o i m := by
  have h1 : (fun (j : V) (q : Int) => (LT.put D.md i (putA (D.md i) o m) j).lookup q) = LT.put D.ts.held i (LT.put (D.ts.held i) o (some m)) := by
    funext j q
    by_cases e : j = i
    · rw [e, LT.put_at, LT.put_at, lookup_putA]
      by_cases e2 : q = o
      · rw [e2, LT.put_at, if_pos rfl]
      · rw [LT.put_off _ _ e2, if_neg e2]; rfl
    · rw [LT.put_off _ _ e, LT.put_off _ _ e]; rfl
  have h2 : (fun q => ((dropA D.al o).lookup q).map (·.2)) = LT.put D.ts.asks o none := by
    funext q
    rw [lookup_dropA]
    by_cases e2 : q = o
    · rw [e2, LT.put_at, if_pos rfl]; rfl
    · rw [LT.put_off _ _ e2, if_neg e2]; rfl
  show LT.TS.mk _ _ _ _ _ = LT.TS.mk _ _ _ _ _
  congr 1
theorem pop_rest {N : Hp → Prop} {C : V → Prop} {C' : Prop} {Ha Hb : Hp} (G : Hp → Prop) (h1 : ∀ v, C v → G Ha) (h2 : C' → G Hb) (r : ∀ H, G H → N H) : (∀ v, C v → N Ha) ∧ (C' → N Hb) := ⟨fun v h => r _ (h1 v h), fun h => r _ (h2 h)⟩
theorem setd_rest {N : V → Hp → Prop} {C : V → Prop} {C' : Prop} {Ha Hb : Hp} {z : V} (G : V → Hp → Prop) (h1 : ∀ v, C v → G v Ha) (h2 : C' → G z Hb) (r : ∀ v H, G v H → N v H) : (∀ v, C v → N v Ha) ∧ (C' → N z Hb) := ⟨fun v h => r _ _ (h1 v h), fun h => r _ _ (h2 h)⟩
theorem if_rest {N : Hp → Prop} {c : Bool} {P Q : Prop} (h1 : c = true → P) (h2 : c = false → Q) : if c = true then P else Q := by cases c <;> simp [h1, h2]
theorem sGot_self (D : Dt) (o : Int) : D.sGot o (D.got o) = D := by
  show Dt.mk _ _ _ _ _ (LT.put D.got o (D.got o)) _ = _
  rw [put_self]
abbrev spGrant (b : Bs) (c : Tc) : Sp := fun vs H Q _ => ∃ (ad : Ad) (D : Dt) (o : Int) (i : V) (m : Str), vs = [.ref (ad.at_ .tab), .int o, i, .str m] ∧ At b.w c H ad D ∧ c.Ok b.K H ∧ i ∈ c.J ∧ o ∈ c.U ∧ (∀ e ∈ D.md i, e.1 ∈ c.U) ∧ (∀ x ∈ D.got o, x ∈ c.J) ∧ (D.got o).Nodup ∧ (∀ e ∈ D.al, e.1 ∈ c.U) ∧
  ∀ H' ad', Go b.w c H ad D H' ad' (D.give o i m) → Q .non H'
abbrev s_LockTable_grant : Stmt := inClass (top 38) 3
abbrev N_LockTable_grant : List Str := ["self", "owner", "item", "mode", "kept"]
abbrev P_LockTable_grant : List Str := ["self", "owner", "item", "mode"]
theorem sc_LockTable_grant : FnScope N_LockTable_grant P_LockTable_grant (defScope s_LockTable_grant) := ⟨rfl, rfl, rfl, by decide +kernel, rfl, by decide +kernel, by decide +kernel⟩
theorem md_len {c : Tc} {l : List (Int × Str)} (nd : (l.map (·.1)).Nodup) (h : ∀ e ∈ l, e.1 ∈ c.U) (ul : c.U.length ≤ 20) : l.length ≤ 20 := by
  have := LT_len (l := l.map (·.1)) (m := c.U) nd fun x hx => by
    obtain ⟨e, he, rfl⟩ := List.mem_map.mp hx
    exact h e he
  rw [List.length_map] at this
  omega
theorem ok_grant {b : Bs} {c : Tc} (R : RawM b c.CT "grant" "LockTable.grant" s_LockTable_grant P_LockTable_grant) (K : ClsOk b.K c) (T : Tops b) (D_spot_of : Mt b 3 c.CT "spot_of" P_LockTable_spot_of (spSpotOf b c)) : Mt b 4 c.CT "grant" P_LockTable_grant (spGrant b c) := by
  refine R.ok K.cT sc_LockTable_grant (fun vs H Q E h => ?_) fun f cdv A outer s H vs Q E hr h => ?_
  · obtain ⟨ad, D, o, i, m, rfl, _⟩ := h
    rfl
  · obtain ⟨ad, D, o, i, m, rfl, A1, O, hi, ho, hin, hg, hgn, hal, k⟩ := h
    refine ⟨_, (pss_cons (ps_dput (hu_of hr) (pe_fld (pe_mtd D_spot_of (pv 0) (hr.mono (by decide)) (pa_cons (pv 2) pa_nil)) rfl) (pv 1) (pv 3) rfl)
      (pss_cons (ps_expr (pe_dpop2 (pe_fld (pv 0) rfl) (pv 1) pe_non ⟨rfl, rfl, rfl, rfl⟩))
      (pss_cons (ps_set (i := 4) sc_LockTable_grant.nd rfl (Or.inl rfl) (pe_dsetd (pe_fld (pv 0) rfl) (pv 1) (pe_lst pa_nil) ⟨rfl, rfl, rfl, rfl⟩))
      (pss_one (ps_if (pt_cmpR (op_notInD (hu65 hr)) (pv 2) (pv 4) (by rfl)) (pss_one (ps_expr (pe_bm PySem.F.plainAttrs_list PySem.F.slot_list_append PySem.F.type_list_append mt_append (pv 4) (pa_cons (pv 2) pa_nil)))) pss_nil))))), ?_⟩
    refine ⟨_, rfl, _, rfl, _, _, _, rfl, A1.at_ .tab True.intro, rfl, _, rfl, ad, D, i, rfl, A1, O, hi, fun H1 ad1 A2 f1 p1 => ?_⟩
    have g1 : Go b.w c H ad D H1 ad1 (D.add i) := ⟨A2, f1, p1, fun t => add_dom⟩
    have O1 := O.mono (A1.tups f1)
    have ml := md_len (A1.ok.mdn i) hin O.ul
    refine ⟨_, _, _, _, _, rfl, A2.at_ (.sp i) (add_mem D i), K.cS, K.nS _ (by simp), rfl, ?_⟩
    refine ⟨_, rfl, _, _, rfl, DPut.k (k := Sum.inl o) (A2.at_ (.md i) (add_mem D i)) (by rw [List.length_map, sizeLine_eq]; show (D.md i).length < _; omega), ?_⟩
    rw [putA_k]
    have g2 := A2.goMd (i := i) (l := putA (D.md i) o m) (add_mem D i) (keys_putA (A1.ok.mdn i))
    show (tSeq _ _) _ _ (upd H1 (ad1.at_ (.md i)) (.dK ((putA (D.md i) o m).map (ent V.str))))
    generalize upd H1 (ad1.at_ (.md i)) (.dK ((putA (D.md i) o m).map (ent V.str))) = H2 at g2 ⊢
    have A3 := g2.at_
    have et : ad1.at_ .tab = ad.at_ .tab := p1 .tab True.intro
    have tb3 := A3.at_ .tab True.intro
    rw [et] at tb3
    refine ⟨_, rfl, _, _, _, _, _, rfl, tb3, K.cT, K.nT _ (by simp), rfl, _, rfl, .inl ⟨_, .inl (A3.at_ .asks True.intro)⟩, _, rfl, _, Sum.inl o, A3.at_ .asks True.intro, rfl, ?_⟩
    have g3 := A3.goAl (l := dropA D.al o) (keys_dropA A1.ok.aln) fun e he => A3.ask e ((List.mem_filter.mp he).1)
    have dk : dropK (((D.add i).sMd i (putA (D.md i) o m)).al.map (ent fun e => V.ref e.1)) (Sum.inl o) = (dropA D.al o).map (ent fun e => V.ref e.1) := dropA_k
    have al2 : (((((D.add i).sMd i (putA (D.md i) o m)) : Dt)).al) = D.al := rfl
    refine pop_rest (fun H3 => Go b.w c H2 ad1 ((D.add i).sMd i (putA (D.md i) o m)) H3 ad1 (((D.add i).sMd i (putA (D.md i) o m)).sAl (dropA D.al o))) (fun v hv => ?_) (fun hn => ?_) fun H3 g3 => ?_
    · rw [dk]
      exact g3
    · have hn2 : D.al.lookup o = none := by
        have z : valV (D.al.map (ent fun e => V.ref e.1)) (Sum.inl o) = none := hn
        rw [valV_k] at z
        cases e : D.al.lookup o with
        | none => rfl
        | some y => rw [e] at z; cases z
      rw [dropA_none hn2]
      exact Go.refl A3
    have A4 := g3.at_
    have tb4 := A4.at_ .tab True.intro
    rw [et] at tb4
    have os4 : ((((D.add i).sMd i (putA (D.md i) o m)).sAl (dropA D.al o))).os = D.os := rfl
    refine ⟨_, rfl, _, _, _, _, _, rfl, tb4, K.cT, K.nT _ (by simp), rfl, _, rfl, .inl ⟨_, .inl (A4.at_ .ibo True.intro)⟩, _, rfl, Nat.zero_le _, fun p hp => ⟨_, Sum.inl o, (same_new' hp) _ _ (A4.at_ .ibo True.intro), rfl, ?_, ?_⟩⟩
    · rw [List.length_map, sizeLine_eq]
      have := LT_len A1.ok.os A1.ok.osU
      have := O.ul
      show D.os.length < _
      omega
    refine setd_rest (fun v H4 => ∃ ad4, Go b.w c H3 ad1 (((D.add i).sMd i (putA (D.md i) o m)).sAl (dropA D.al o)) H4 ad4 ((((D.add i).sMd i (putA (D.md i) o m)).sAl (dropA D.al o)).keep o) ∧ v = .ref (ad4.at_ (.kept o)) ∧ ad4.at_ .tab = ad1.at_ .tab) (fun v hv => ?_) (fun hn => ?_) fun v H4 h4 => ?_
    · rw [os4, valV_os] at hv
      by_cases h : o ∈ D.os
      · rw [if_pos h] at hv
        cases hv
        refine ⟨ad1, ?_, rfl, rfl⟩
        rw [keep_old (by rw [os4]; exact h)]
        exact Go.same A4 (same_new' hp)
      · rw [if_neg h] at hv; cases hv
    · have h : o ∉ D.os := fun h => by
        have z : valV (D.os.map fun q => ((Sum.inl q : L2.Key), V.ref (ad1.at_ (.kept q)))) (Sum.inl o) = none := hn
        rw [valV_os, if_pos h] at z
        cases z
      exact ⟨ad1.keep o p, A4.goKeep ho h (same_new' hp) hp upd_same, by show _ = V.ref (if o = o then p else _); rw [if_pos rfl], rfl⟩
    · obtain ⟨ad4, g4, rfl, et4⟩ := h4
      have A5 := g4.at_
      have gk := A5.at_ (.kept o) (keep_mem _ o)
      have O5 := O.mono (Go.tups A1 (((g1.trans g2).trans g3).trans g4))
      have e5 : (((((D.add i).sMd i (putA (D.md i) o m)).sAl (dropA D.al o)).keep o)).got = D.got := rfl
      refine ⟨_, rfl, _, rfl, dI c.kof i, (D.got o).map (dI c.kof), dp_I O5.it hi, .lst (.inl (.inl gk)) (dp_Is O5.it hg), (sh_I O5.it (fun v hv => O5.key hv) hi).ok (by omega), (Sh.lst (sh_Is O5.it (fun v hv => O5.key hv) hg)).ok (by omega), _, rfl, ?_⟩
      rw [any_I O5.it hi hg]
      by_cases h : i ∈ D.got o
      · rw [decide_eq_true h]
        refine iteF (k _ ad4 ?_)
        have e6 : D.give o i m = ((((D.add i).sMd i (putA (D.md i) o m)).sAl (dropA D.al o)).keep o) := by
          show Dt.sGot _ _ _ = _
          rw [if_pos h]
          exact sGot_self _ o
        rw [e6]
        exact ((g1.trans g2).trans g3).trans g4
      · rw [decide_eq_false h]
        refine iteT ?_
        refine ⟨_, rfl, .inl ⟨rfl, _, .inl (.inl gk)⟩, _, rfl, _, _, _, rfl, rfl, gk, ?_, ?_⟩
        · have := LT_len hgn hg
          have := O.few
          rw [sizeLine_eq]
          show (D.got o).length < _
          omega
        · refine k _ ad4 ?_
          have g5 := A5.goGot (o := o) (l := D.got o ++ [i]) (keep_mem _ o)
          have e6 : D.give o i m = ((((D.add i).sMd i (putA (D.md i) o m)).sAl (dropA D.al o)).keep o).sGot o (D.got o ++ [i]) := by
            show Dt.sGot _ _ _ = _
            rw [if_neg h]
          rw [e6]
          exact (((g1.trans g2).trans g3).trans g4).trans g5
end Lk
end
section
set_option maxRecDepth 100000
set_option maxHeartbeats 1000000
/-! ask. -/
namespace Lk
open PySem L2
open Mx (pe_msetd pe_mget pe_mget2 ps_mput pe_mnew pe_mayLock ps_mayLock pi_itemsN pi_itemsM)

/-- an if by what its test comes to -/
theorem ifS_ {tt : TT} {P R : TS} {D : Ends} {σ : St} {H : Hp} (G : Bool → Hp → Prop) (key : ∀ N : Bool → Hp → Prop, (∀ c H', G c H' → N c H') → tt σ H N) (yes : ∀ H', G true H' → P D σ H') (no : ∀ H', G false H' → R D σ H') : tIfS tt P R D σ H :=
  key _ fun c H' g => by
    cases c with
    | true => exact yes H' g
    | false => exact no H' g
theorem seq_if {tt : TT} {P R u : TS} {D : Ends} {σ : St} {H : Hp} (G : Bool → Hp → Prop) (key : ∀ N : Bool → Hp → Prop, (∀ c H', G c H' → N c H') → tt σ H N) (yes : ∀ H', G true H' → P { D with nx := u D } σ H') (no : ∀ H', G false H' → R { D with nx := u D } σ H') : tSeq (tIfS tt P R) u D σ H := ifS_ G key yes no
abbrev Wf (c : Tc) (D : Dt) : Prop := LT.WF c.U c.J c.B D.ts
section
variable {c : Tc} {D : Dt} {w : World} {H : Hp} {ad : Ad}
theorem wf_hin (W : Wf c D) (ok : D.Ok c) (i : V) : Hin c D i := fun e he => by
  have z := W.heldIn i e.1 e.2 ((lookup_mem (ok.mdn i)).mpr he)
  exact ⟨z.1, z.2.2⟩
theorem wf_got (W : Wf c D) (o : Int) : ∀ x ∈ D.got o, x ∈ c.J := fun x hx => by
  have z := (W.gotIff o x).mp hx
  cases e : D.ts.held x o with
  | none => exact (z e).elim
  | some m => exact (W.heldIn x o m e).2.1
theorem asks_at (ok : D.Ok c) {e : Int × Addr × V × Str} (he : e ∈ D.al) : D.ts.asks e.1 = some e.2.2 := by
  show (D.al.lookup e.1).map (·.2) = _
  rw [(lookup_mem ok.aln).mpr (show (e.1, e.2) ∈ D.al from he)]
  rfl
theorem wf_al (W : Wf c D) (ok : D.Ok c) : ∀ e ∈ D.al, e.1 ∈ c.U := fun e he => (W.asksU e.1 e.2.2.1 e.2.2.2 (asks_at ok he)).1
theorem asks_none {o : Int} (h : D.ts.asks o = none) : D.al.lookup o = none := by
  have h : (D.al.lookup o).map (·.2) = none := h
  cases e : D.al.lookup o with
  | none => rfl
  | some y => rw [e] at h; cases h
theorem al_len (W : Wf c D) (ok : D.Ok c) (ul : c.U.length ≤ 20) : D.al.length ≤ 20 := by
  have := LT_len (l := D.al.map (·.1)) (m := c.U) ok.aln fun x hx => by
    obtain ⟨e, he, rfl⟩ := List.mem_map.mp hx
    exact wf_al W ok e he
  rw [List.length_map] at this
  omega
theorem wf_q {l : List Int} (nd : l.Nodup) (h : ∀ q ∈ l, q ∈ c.U) (ul : c.U.length ≤ 20) : l.length ≤ 20 := Nat.le_trans (LT_len nd h) ul
theorem wf_cv (W : Wf c D) (i : V) : ∀ q ∈ D.cv i, q ∈ c.U := fun q hq => by
  obtain ⟨⟨m, e⟩, _⟩ := W.convAsk q i hq
  exact (W.asksU q i m e).1
theorem wf_qu (W : Wf c D) (i : V) : ∀ q ∈ D.qu i, q ∈ c.U := fun q hq => by
  obtain ⟨⟨m, e⟩, _⟩ := W.queueAsk q i hq
  exact (W.asksU q i m e).1
theorem has_asks {o : Int} : (valV (D.al.map (ent fun e => V.ref e.1)) (Sum.inl o)).isSome = (D.ts.asks o).isSome := by
  rw [valV_k]
  show ((D.al.lookup o).map _).isSome = ((D.al.lookup o).map _).isSome
  cases D.al.lookup o <;> rfl
end
theorem jn_in {c : Tc} {K : PySem.W.Frag} {H : Hp} (O : c.Ok K H) {h : Option Str} {m : Str} (hh : ∀ x, h = some x → x ∈ c.d.names) (hm : m ∈ c.d.names) : c.d.jn h m ∈ c.d.names := by
  cases h with
  | none => exact hm
  | some x =>
    show (if x = m then m else (c.d.rows x m).headD m) ∈ _
    by_cases e : x = m
    · rw [if_pos e]; exact hm
    · rw [if_neg e]
      obtain ⟨r, l, h1, h2⟩ := O.ck.fit x (hh x rfl) m hm e
      rw [h1]; exact h2
theorem dp_ints {K : PySem.W.Frag} {H : Hp} : ∀ l : List Int, DpAll K H (l.map V.int) (l.map PyData.int)
  | [] => .nil
  | x :: l => .cons (.int x) (dp_ints l)
theorem sh_ints (l : List Int) : ∀ z ∈ l.map PyData.int, Sh 0 z := fun z hz => by
  obtain ⟨x, _, rfl⟩ := List.mem_map.mp hz
  exact Sh.int x
theorem eqv_nil (ds : List PyData) : PyData.eqv (.list ds) (.list []) = decide (ds = []) := by
  cases ds with
  | nil => simp [PyData.eqv, PyData.eqvAll]
  | cons d ds => simp [PyData.eqv, PyData.eqvAll]
theorem sh_nil : SeqAt.shaped (.list []) = true := (Sh.lst (n := 0) (ds := []) (fun z hz => by cases hz)).ok (by omega)
theorem two_same {H : Hp} {p q : Addr} {o u : HO} (hp : H p = none) (hq : (upd H p o) q = none) : Same H (upd (upd H p o) q u) := Same.trans (same_new' hp) (same_new' hq)
theorem grants_eq {c : Tc} {D : Dt} {o : Int} {i : V} {m : Str} : LT.grants c.M c.U D.ts o i m = (decide (some (c.d.jn (D.ts.held i o) m) = D.ts.held i o) || (LT.lets c.M c.U D.ts o i (c.d.jn (D.ts.held i o) m) && (decide (D.ts.held i o ≠ none) || decide (D.cv i ++ D.qu i = [])))) := rfl
theorem mem_putA {α : Type} {l : List (Int × α)} {o : Int} {a : α} {e : Int × α} (h : e ∈ putA l o a) : e = (o, a) ∨ e ∈ l := by
  unfold putA at h
  split at h
  · obtain ⟨x, hx, rfl⟩ := List.mem_map.mp h
    by_cases g : x.1 = o
    · rw [if_pos g, g]; exact .inl rfl
    · rw [if_neg g]; exact .inr hx
  · exact (List.mem_append.mp h).elim .inr fun z => .inl (List.mem_singleton.mp z)
theorem putA_asks (l : List (Int × Addr × V × Str)) (o : Int) (a : Addr × V × Str) : (fun q => ((putA l o a).lookup q).map (·.2)) = LT.put (fun q => (l.lookup q).map (·.2)) o (some a.2) := by
  funext q
  rw [lookup_putA]
  by_cases h : q = o
  · rw [h, LT.put_at, if_pos rfl]; rfl
  · rw [LT.put_off _ _ h, if_neg h]
theorem add_add (D : Dt) (i : V) : (D.add i).add i = D.add i := add_old (add_mem D i)
theorem add_give (D : Dt) (i : V) (o : Int) (m : Str) : (D.add i).give o i m = D.give o i m := by
  unfold Dt.give
  rw [add_add]
  rfl
abbrev spAsk (b : Bs) (c : Tc) : Sp := fun vs H Q _ => ∃ (ad : Ad) (D : Dt) (o : Int) (i : V) (m : Str), vs = [.ref (ad.at_ .tab), .int o, i, .str m] ∧ At b.w c H ad D ∧ c.Ok b.K H ∧ Wf c D ∧ i ∈ c.J ∧ o ∈ c.U ∧ m ∈ c.d.names ∧ D.ts.asks o = none ∧
  ∀ H' ad' D', Go b.w c H ad D H' ad' D' → D'.ts = (LT.ask c.M c.U D.ts o i m).2 → Q (.bl (LT.ask c.M c.U D.ts o i m).1) H'
abbrev s_LockTable_ask : Stmt := inClass (top 38) 4
abbrev N_LockTable_ask : List Str := ["self", "owner", "item", "mode", "spot", "held", "more", "may"]
abbrev P_LockTable_ask : List Str := ["self", "owner", "item", "mode"]
theorem sc_LockTable_ask : FnScope N_LockTable_ask P_LockTable_ask (defScope s_LockTable_ask) := ⟨rfl, rfl, rfl, by decide +kernel, rfl, by decide +kernel, by decide +kernel⟩
theorem ok_ask {b : Bs} {c : Tc} (R : RawM b c.CT "ask" "LockTable.ask" s_LockTable_ask P_LockTable_ask) (K : ClsOk b.K c) (T : Tops b) (D_spot_of : Mt b 3 c.CT "spot_of" P_LockTable_spot_of (spSpotOf b c))
    (D_others_allow : Mt b 4 c.CT "others_allow" P_LockTable_others_allow (spOthers b c)) (D_grant : Mt b 4 c.CT "grant" P_LockTable_grant (spGrant b c)) (D_join : Df b 1 "join" P_join (spJoin b.K))
    (D_require_owner : Df b 3 "require_owner" P_require_owner spReqOwner) (D_require_item : Df b 3 "require_item" P_require_item spReqItem) (D_require_mode : Df b 1 "require_mode" P_require_mode (spReqMode b.K)) : Mt b 5 c.CT "ask" P_LockTable_ask (spAsk b c) := by
  refine R.ok K.cT sc_LockTable_ask (fun vs H Q E h => ?_) fun f cdv A outer s H vs Q E hr h => ?_
  · obtain ⟨ad, D, o, i, m, rfl, _⟩ := h
    rfl
  · obtain ⟨ad, D, o, i, m, rfl, A0, O0, W, hi, ho, hm, ha, k⟩ := h
    refine ⟨_, (pss_cons (ps_expr (pe_df D_require_owner (hr.mono (by decide)) (pa_cons (pv 1) pa_nil)))
      (pss_cons (ps_expr (pe_df D_require_item (hr.mono (by decide)) (pa_cons (pv 2) pa_nil)))
      (pss_cons (ps_expr (pe_df D_require_mode (hr.mono (by decide)) (pa_cons (pe_fld (pv 0) rfl) (pa_cons (pv 3) pa_nil))))
      (pss_cons (ps_if (pt_cmp (pc_din (hu_of hr) (pv 1) (pe_fld (pv 0) rfl))) (pss_one ps_never) pss_nil)
      (pss_cons (ps_set (i := 4) sc_LockTable_ask.nd rfl (Or.inl rfl) (pe_mtd D_spot_of (pv 0) (hr.mono (by decide)) (pa_cons (pv 2) pa_nil)))
      (pss_cons (ps_set (i := 5) sc_LockTable_ask.nd rfl (Or.inl rfl) (pe_dget1 (hu_of hr) (pe_fld (pv 4) rfl) (pv 1) ⟨rfl, rfl, rfl, rfl⟩))
      (pss_cons (ps_set (i := 6) sc_LockTable_ask.nd rfl (Or.inl rfl) (pe_df D_join (hr.mono (by decide)) (pa_cons (pe_fld (pv 0) rfl) (pa_cons (pv 5) (pa_cons (pv 3) pa_nil)))))
      (pss_cons (ps_set (i := 7) sc_LockTable_ask.nd rfl (Or.inl rfl) (pe_mtd D_others_allow (pv 0) (hr.mono (by decide)) (pa_cons (pv 1) (pa_cons (pv 2) (pa_cons (pv 6) pa_nil)))))
      (pss_cons (ps_if (PW.pt (pw_or (pt_cmpR op_eq (pv 6) (pv 5) (nomark _)) (pw_or1 (PW.pt (pw_and (pt_val (pv 7)) (pw_and1 (PW.pt (pw_or (pt_cmpR op_notN (pv 5) pe_non (nomark _)) (pw_or1 (pt_cmpR (op_eqD hr.units) (pe_op op_cat (pe_fld (pv 4) rfl) (pe_fld (pv 4) rfl)) (pe_lst pa_nil) (nomark _))))))))))) (pss_cons (ps_expr (pe_mtd D_grant (pv 0) (hr.mono (by decide)) (pa_cons (pv 1) (pa_cons (pv 2) (pa_cons (pv 6) pa_nil)))))
      (pss_one (ps_ret pe_bl))) pss_nil)
      (pss_cons (ps_dput (hu_of hr) (pe_fld (pv 0) rfl) (pv 1) (pe_tup (pa_cons (pv 2) (pa_cons (pv 6) pa_nil))) rfl)
      (pss_cons (ps_expr (pe_bm PySem.F.plainAttrs_list PySem.F.slot_list_append PySem.F.type_list_append mt_append (pe_ifExp (pt_cmpR op_isN (pv 5) pe_non (nomark _)) (pe_fld (pv 4) rfl) (pe_fld (pv 4) rfl)) (pa_cons (pv 1) pa_nil)))
      (pss_one (ps_ret pe_bl))))))))))))), ?_⟩
    refine ⟨_, rfl, o, rfl, O0.u0 o ho, _, rfl, i, rfl, O0.iv i hi, fun Ha sa => ?_⟩
    have A1 := A0.same sa
    have O1 := O0.mono (Same.tups sa)
    refine ⟨_, rfl, _, _, _, _, _, rfl, A1.at_ .tab True.intro, K.cT, K.nT _ (by simp), rfl, _, rfl, c.mo, c.d, m, rfl, O1.ms, hm, ?_⟩
    have ta1 := A1.at_ .tab True.intro
    refine ⟨_, rfl, _, rfl, _, _, _, _, _, rfl, ta1, K.cT, K.nT _ (by simp), rfl, _, _, rfl, DGet.k (k := Sum.inl o) (A1.at_ .asks True.intro), _, rfl, ?_⟩
    rw [has_asks, ha]
    refine iteF ?_
    refine ⟨_, rfl, _, _, _, rfl, ta1, rfl, _, rfl, ad, D, i, rfl, A1, O1, hi, fun H1 ad1 A2 f1 p1 => ?_⟩
    have g1 : Go b.w c Ha ad D H1 ad1 (D.add i) := ⟨A2, f1, p1, fun t => add_dom⟩
    have O2 := O1.mono (A1.tups f1)
    have et : ad1.at_ .tab = ad.at_ .tab := p1 .tab True.intro
    have ta2 := A2.at_ .tab True.intro
    rw [et] at ta2
    have sp2 := A2.at_ (.sp i) (add_mem D i)
    have md2 := A2.at_ (.md i) (add_mem D i)
    have hin := wf_hin W A0.ok i
    refine ⟨_, rfl, _, _, _, _, _, rfl, sp2, K.cS, K.nS _ (by simp), rfl, _, rfl, .inl ⟨_, .inl md2⟩, _, rfl, _, DGet.k (k := Sum.inl o) md2, ?_⟩
    have eh : (valV ((D.md i).map (ent V.str)) (Sum.inl o)).getD .non = vO (D.ts.held i o) := by
      rw [valV_k]
      show (((D.md i).lookup o).map V.str).getD .non = vO ((D.md i).lookup o)
      cases (D.md i).lookup o <;> rfl
    rw [show (valV (((D.add i).md i).map (ent V.str)) (Sum.inl o)).getD .non = vO (D.ts.held i o) from eh]
    have hh : ∀ x, D.ts.held i o = some x → x ∈ c.d.names := fun x hx => (W.heldIn i o x hx).2.2
    refine ⟨_, rfl, _, _, _, _, _, rfl, ta2, K.cT, K.nT _ (by simp), rfl, _, rfl, _, rfl, c.mo, c.d, D.ts.held i o, m, rfl, O2.ms, O2.ck.fit, hh, hm, fun H2 s2 => ?_⟩
    have A3 := A2.same s2
    have O3 := O2.mono (Same.tups s2)
    have hj := jn_in O3 hh hm
    refine ⟨_, rfl, _, _, _, rfl, s2 _ _ ta2, rfl, _, rfl, _, rfl, _, rfl, ad1, D.add i, o, i, c.d.jn (D.ts.held i o) m, by rw [et]; rfl, A3, O3, hi, hj, hin, fun H3 ad3 g3 => ?_⟩
    rw [add_old (add_mem D i)] at g3
    have A4 := g3.at_
    have O4 := O3.mono (Go.tups A3 g3)
    have g4 : Go b.w c H ad D H3 ad3 (D.add i) := ((Go.same A0 sa).trans (g1.then_ s2)).trans g3
    have pl3 : ∀ t, (D.add i).dom t → ad3.at_ t = ad1.at_ t := g3.pl
    have et3 : ad3.at_ .tab = ad.at_ .tab := (pl3 .tab True.intro).trans et
    have sp4 := A4.at_ (.sp i) (add_mem D i)
    rw [pl3 (.sp i) (add_mem D i)] at sp4
    have ta4 := A4.at_ .tab True.intro
    rw [et3] at ta4
    have cl := wf_q (W.convNd i) (wf_cv W i) O0.ul
    have ql := wf_q (W.queueNd i) (wf_qu W i) O0.ul
    have cl : (D.cv i).length ≤ 20 := cl
    have ql : (D.qu i).length ≤ 20 := ql
    dsimp only [gName]
    refine seq_if (fun cc H4 => Go b.w c H ad D H4 ad3 (D.add i) ∧ cc = LT.grants c.M c.U D.ts o i m) (fun N hN => ?_) (fun H4 h4 => ?_) (fun H4 h4 => ?_)
    · rw [grants_eq] at hN
      have e0 : decide (V.str (c.d.jn (D.ts.held i o) m) = vO (D.ts.held i o)) = decide (some (c.d.jn (D.ts.held i o) m) = D.ts.held i o) := by
        cases D.ts.held i o with
        | none => rfl
        | some x => exact decide_eq_decide.mpr ⟨fun z => by injection z with z; rw [z], fun z => by injection z with z; rw [z]⟩
      have sc : scal (V.str (c.d.jn (D.ts.held i o) m)) (vO (D.ts.held i o)) = true := by
        cases D.ts.held i o <;> rfl
      refine ⟨_, rfl, _, rfl, sc, _, rfl, ?_⟩
      rw [e0]
      by_cases h1 : some (c.d.jn (D.ts.held i o) m) = D.ts.held i o
      · rw [decide_eq_true h1] at hN ⊢
        exact iteT (hN true H3 ⟨g4, rfl⟩)
      rw [decide_eq_false h1, Bool.false_or] at hN
      rw [decide_eq_false h1]
      refine iteF ⟨_, rfl, _, rfl, ?_⟩
      rw [add_ts]
      cases h2 : LT.lets c.M c.U D.ts o i (c.d.jn (D.ts.held i o) m) with
      | false =>
        rw [h2, Bool.false_and] at hN
        exact iteF (hN false H3 ⟨g4, rfl⟩)
      | true =>
      rw [h2, Bool.true_and] at hN
      refine iteT ⟨_, rfl, rfl, _, rfl, ?_⟩
      have e1 : (!decide (vO (D.ts.held i o) = V.non)) = decide (D.ts.held i o ≠ none) := by
        cases D.ts.held i o with
        | none => rfl
        | some x => rfl
      rw [e1]
      by_cases h3 : D.ts.held i o ≠ none
      · rw [decide_eq_true h3] at hN ⊢
        exact iteT (hN true H3 ⟨g4, rfl⟩)
      rw [decide_eq_false h3, Bool.false_or] at hN
      rw [decide_eq_false h3]
      refine iteF ⟨_, rfl, _, _, _, _, _, rfl, sp4, K.cS, K.nS _ (by simp), rfl, _, rfl, _, _, _, _, _, rfl, sp4, K.cS, K.nS _ (by simp), rfl, ?_⟩
      refine ⟨_, _, _, _, rfl, rfl, A4.at_ (.cv i) (add_mem D i), A4.at_ (.qu i) (add_mem D i), ?_, fun p hp => ⟨Nat.zero_le _, fun q hq => ?_⟩⟩
      · rw [List.length_map, List.length_map, sizeLine_eq]
        show (D.cv i).length + (D.qu i).length ≤ _
        omega
      · refine ⟨.list ((D.cv i ++ D.qu i).map PyData.int), .list [], .lst (.inl (.inl ?_)) (dp_ints _), .lst (.inl (.inl upd_same)) .nil, (Sh.lst (sh_ints _)).ok (by omega), sh_nil, _, rfl, ?_⟩
        · rw [upd_ne (ne_of_none upd_same hq), upd_same, List.map_append]
          rfl
        · rw [eqv_nil]
          have e2 : decide ((D.cv i ++ D.qu i).map PyData.int = []) = decide (D.cv i ++ D.qu i = []) := decide_eq_decide.mpr List.map_eq_nil_iff
          rw [e2]
          exact hN _ _ ⟨g4.then_ (two_same hp hq), rfl⟩
    · obtain ⟨g5, h5⟩ := h4
      have A5 := g5.at_
      have O5 := O0.mono (Go.tups A0 g5)
      have ta5 := A5.at_ .tab True.intro
      rw [et3] at ta5
      refine ⟨_, rfl, _, _, _, rfl, ta5, rfl, _, rfl, _, rfl, _, rfl, ad3, D.add i, o, i, c.d.jn (D.ts.held i o) m, by rw [et3]; rfl, A5, O5, hi, ho, fun e he => (hin e he).1, wf_got W o, W.gotNd o, wf_al (D := D.add i) W A5.ok, fun H6 ad6 g6 => ?_⟩
      rw [add_give] at g6
      have e : LT.ask c.M c.U D.ts o i m = (true, LT.give D.ts o i (c.d.jn (D.ts.held i o) m)) := if_pos h5.symm
      have z := k _ _ _ (g5.trans g6) (by rw [give_ts, e])
      rw [e] at z
      exact z
    · obtain ⟨g5, h5⟩ := h4
      have A5 := g5.at_
      have e : LT.ask c.M c.U D.ts o i m = (false, LT.await c.M D.ts o i m) := if_neg (by rw [← h5]; exact Bool.false_ne_true)
      refine ⟨_, rfl, _, rfl, two_le, fun t ht => ?_⟩
      have g6 := g5.then_ (same_new' (o := .tup [i, .str (c.d.jn (D.ts.held i o) m)]) ht)
      have t6 : (upd H4 t (.tup [i, .str (c.d.jn (D.ts.held i o) m)])) t = some (.tup [i, .str (c.d.jn (D.ts.held i o) m)]) := upd_same
      show ∃ x, _
      generalize upd H4 t (.tup [i, .str (c.d.jn (D.ts.held i o) m)]) = H6 at g6 t6 ⊢
      have A6 := g6.at_
      have ta6 := A6.at_ .tab True.intro
      rw [et3] at ta6
      have len := al_len W A0.ok O0.ul
      refine ⟨_, rfl, _, _, _, _, _, rfl, ta6, K.cT, K.nT _ (by simp), rfl, _, rfl, _, _, rfl, DPut.k (k := Sum.inl o) (A6.at_ .asks True.intro) (by rw [List.length_map, sizeLine_eq]; show D.al.length < _; omega), ?_⟩
      rw [show putK (((D.add i).al).map (ent fun e => V.ref e.1)) (Sum.inl o) (V.ref t) = (putA D.al o (t, i, c.d.jn (D.ts.held i o) m)).map (ent fun e => V.ref e.1) from putA_k (f := fun e : Addr × V × Str => V.ref e.1) (a := (t, i, c.d.jn (D.ts.held i o) m))]
      have g7 := A6.goAl (l := putA D.al o (t, i, c.d.jn (D.ts.held i o) m)) (keys_putA A0.ok.aln) fun e he => (mem_putA he).elim (fun z => by rw [z]; exact t6) (A6.ask e)
      generalize upd H6 (ad3.at_ .asks) (.dK ((putA D.al o (t, i, c.d.jn (D.ts.held i o) m)).map (ent fun e => V.ref e.1))) = H7 at g7 ⊢
      have A7 := g7.at_
      have sp7 := A7.at_ (.sp i) (add_mem D i)
      rw [pl3 (.sp i) (add_mem D i)] at sp7
      have e2 := putA_asks D.al o (t, i, c.d.jn (D.ts.held i o) m)
      refine ⟨_, rfl, rfl, _, rfl, ?_⟩
      cases hh2 : D.ts.held i o with
      | none =>
        have qu7 := A7.at_ (.qu i) (add_mem D i)
        refine iteT ⟨_, rfl, _, _, _, _, _, rfl, sp7, K.cS, K.nS _ (by simp), rfl, .inl ⟨rfl, _, .inl (.inl qu7)⟩, _, rfl, _, _, _, rfl, rfl, qu7, ?_, ?_⟩
        · rw [List.length_map, sizeLine_eq]
          show (D.qu i).length < _
          omega
        · have g8 := A7.goQu (i := i) (l := D.qu i ++ [o]) (add_mem D i)
          have z := k _ _ _ ((g6.trans g7).trans g8) ?_
          · rw [e] at z
            rw [List.map_append] at z
            exact z
          · rw [e]
            show LT.TS.mk _ _ _ (fun q => ((putA D.al o (t, i, c.d.jn (D.ts.held i o) m)).lookup q).map (·.2)) _ = LT.await c.M D.ts o i m
            rw [e2]
            unfold LT.await
            rw [if_pos hh2, if_pos hh2]
            rfl
      | some x =>
        have cv7 := A7.at_ (.cv i) (add_mem D i)
        refine iteF ⟨_, rfl, _, _, _, _, _, rfl, sp7, K.cS, K.nS _ (by simp), rfl, .inl ⟨rfl, _, .inl (.inl cv7)⟩, _, rfl, _, _, _, rfl, rfl, cv7, ?_, ?_⟩
        · rw [List.length_map, sizeLine_eq]
          show (D.cv i).length < _
          omega
        · have g8 := A7.goCv (i := i) (l := D.cv i ++ [o]) (add_mem D i)
          have z := k _ _ _ ((g6.trans g7).trans g8) ?_
          · rw [e] at z
            rw [List.map_append] at z
            exact z
          · rw [e]
            show LT.TS.mk _ _ _ (fun q => ((putA D.al o (t, i, c.d.jn (D.ts.held i o) m)).lookup q).map (·.2)) _ = LT.await c.M D.ts o i m
            rw [e2]
            unfold LT.await
            rw [if_neg (by rw [hh2]; simp), if_neg (by rw [hh2]; simp)]
            rfl
end Lk
end
section
set_option maxRecDepth 100000
set_option maxHeartbeats 1000000
/-! serve_at. -/
namespace Lk
open PySem L2
open Mx (pe_msetd pe_mget pe_mget2 ps_mput pe_mnew pe_mayLock ps_mayLock pi_itemsN pi_itemsM)

theorem place_of {α : Type} [DecidableEq α] {o : α} : ∀ {l : List α}, o ∈ l → ∃ j, l[j]? = some o ∧ (∀ m : Nat, m < j → l[m]? ≠ some o) ∧ l.eraseIdx j = l.erase o
  | [], h => by cases h
  | x :: l, h => by
    by_cases e : x = o
    · subst e
      exact ⟨0, rfl, fun m hm => by omega, by simp⟩
    · obtain ⟨j, h1, h2, h3⟩ := place_of ((List.mem_cons.mp h).resolve_left fun z => e z.symm)
      refine ⟨j + 1, h1, fun m hm => ?_, ?_⟩
      · cases m with
        | zero => intro z; exact e (Option.some.inj z)
        | succ m => exact h2 m (by omega)
      · rw [List.eraseIdx_cons_succ, h3, List.erase_cons_tail (by simpa using e)]
/-- an object that is none of the table's -/
structure Off (H : Hp) (ad : Ad) (D : Dt) (a : Addr) (o : HO) : Prop where
  at_ : H a = some o
  no : ¬ Own ad D a
abbrev FPr (H : Hp) (y : V) (e : Int × V) : Prop := ∃ p, y = .ref p ∧ H p = some (.tup [.int e.1, e.2])
theorem FPr.mono {H H' : Hp} {y : V} {e : Int × V} (t : Tups H H') : FPr H y e → FPr H' y e := fun ⟨p, e, h⟩ => ⟨p, e, t _ _ h⟩
theorem FPrs.mono {H H' : Hp} {ys : List V} {es : List (Int × V)} (t : Tups H H') (h : Paired (FPr H) ys es) : Paired (FPr H') ys es := L2.Paired.mapP h fun _ _ q => q.mono t
section
variable {w : World} {c : Tc} {H H' H1 H2 H0 : Hp} {ad ad' ad1 ad2 : Ad} {D D' D1 D2 : Dt} {a r : Addr} {o u : HO}
theorem Off.go (x : Off H ad D a o) (g : Go w c H ad D H' ad' D') : Off H' ad' D' a o := let ⟨h, n⟩ := g.off x.at_ x.no; ⟨h, n⟩
theorem Off.new (A : At w c H ad D) (h : H a = none) : Off (upd H a o) ad D a o := ⟨upd_same, off_new A h⟩
theorem Off.same (x : Off H ad D a o) (s : Same H H') : Off H' ad D a o := ⟨s _ _ x.at_, x.no⟩
theorem Off.upd (x : Off H ad D a o) (h : a ≠ r) : Off (upd H r u) ad D a o := ⟨by rw [upd_ne h]; exact x.at_, x.no⟩
theorem Off.ne (x : Off H ad D a o) {t : Tag} (h : D.dom t) : a ≠ ad.at_ t := fun e => x.no ⟨t, h, e.symm⟩
/-- a list of one's own is written -/
theorem Go.mine (g : Go w c H ad D H' ad' D') (n : H r = none) (x : Off H' ad' D' r u) (hu : ∀ xs, u ≠ .tup xs) : Go w c H ad D (L2.upd H' r o) ad' D' :=
  ⟨g.at_.off x.no x.at_ hu, ⟨fun b v e ns => by rw [upd_ne (ne_of_none e n)]; exact g.aft.keep b v e ns, g.aft.new⟩, g.pl, g.dm⟩
theorem dt_ext {D1 D2 : Dt} (h1 : D1.its = D2.its) (h2 : D1.os = D2.os) (h3 : D1.md = D2.md) (h4 : D1.cv = D2.cv) (h5 : D1.qu = D2.qu) (h6 : D1.got = D2.got) (h7 : D1.al = D2.al) : D1 = D2 := by
  cases D1; cases D2; simp_all
end
theorem lst_ne {xs : List V} : ∀ ys, HO.lst xs ≠ .tup ys := fun _ h => by cases h
/-- who waits, by the places -/
theorem asks_al {D : Dt} {o : Int} {i : V} {m : Str} (h : D.ts.asks o = some (i, m)) : ∃ p, D.al.lookup o = some (p, i, m) := by
  have h : (D.al.lookup o).map (·.2) = some (i, m) := h
  cases e : D.al.lookup o with
  | none => rw [e] at h; cases h
  | some y =>
    rw [e] at h
    obtain ⟨p, y2⟩ := y
    cases h
    exact ⟨p, rfl⟩
theorem lets_ts {c : Tc} {t1 t2 : LT.TS V Str} (h : t1 = t2) {o : Int} {i : V} {m : Str} : LT.lets c.M c.U t1 o i m = LT.lets c.M c.U t2 o i m := by rw [h]
section
variable {b : Bs} {c : Tc} {D : Dt} {H : Hp} {ad : Ad} {o : Int} {i : V} {m : Str} {p : Addr}
theorem dget_asks (A : At b.w c H ad D) (h : D.al.lookup o = some (p, i, m)) : DGet H (ad.at_ .asks) (.int o) (some (.ref p)) := by
  refine .inl ⟨_, Sum.inl o, .inl (A.at_ .asks True.intro), rfl, ?_⟩
  show _ = valV (D.al.map (ent fun e => V.ref e.1)) (Sum.inl o)
  rw [valV_k, h]
  rfl
theorem ask_tup (A : At b.w c H ad D) (h : D.al.lookup o = some (p, i, m)) : H p = some (.tup [i, .str m]) := A.ask (o, p, i, m) ((lookup_mem A.ok.aln).mp h)
theorem serveC_yes {l : List Int} {ts : LT.TS V Str} (h : ts.asks o = some (i, m)) (g : LT.lets c.M c.U ts o i m = true) :
    LT.serveC c.M c.U i (o :: l) ts = ((o, i) :: (LT.serveC c.M c.U i l (LT.give (LT.outC ts o i) o i m)).1, (LT.serveC c.M c.U i l (LT.give (LT.outC ts o i) o i m)).2) := by
  simp only [LT.serveC, h, g, if_true]
theorem serveC_no {l : List Int} {ts : LT.TS V Str} (h : ts.asks o = some (i, m)) (g : LT.lets c.M c.U ts o i m = false) : LT.serveC c.M c.U i (o :: l) ts = LT.serveC c.M c.U i l ts := by
  simp only [LT.serveC, h, g, Bool.false_eq_true, if_false]
theorem serveQ_yes {l : List Int} {ts : LT.TS V Str} (e : ts.conv i = []) (h : ts.asks o = some (i, m)) (g : LT.lets c.M c.U ts o i m = true) :
    LT.serveQ c.M c.U i (o :: l) ts = ((o, i) :: (LT.serveQ c.M c.U i l (LT.give (LT.outQ ts i l) o i m)).1, (LT.serveQ c.M c.U i l (LT.give (LT.outQ ts i l) o i m)).2) := by
  simp only [LT.serveQ, e, h, g, if_true]
theorem serveQ_no {l : List Int} {ts : LT.TS V Str} (e : ts.conv i = []) (h : ts.asks o = some (i, m)) (g : LT.lets c.M c.U ts o i m = false) : LT.serveQ c.M c.U i (o :: l) ts = ([], ts) := by
  simp only [LT.serveQ, e, h, g, Bool.false_eq_true, if_false, if_true]
theorem serveQ_conv {l : List Int} {ts : LT.TS V Str} (e : ts.conv i ≠ []) : LT.serveQ c.M c.U i l ts = ([], ts) := by
  cases l with
  | nil => rfl
  | cons o l => simp only [LT.serveQ, e, if_false]
end
abbrev spServe (b : Bs) (c : Tc) : Sp := fun vs H Q _ => ∃ (ad : Ad) (D : Dt) (i : V), vs = [.ref (ad.at_ .tab), i] ∧ At b.w c H ad D ∧ c.Ok b.K H ∧ Wf c D ∧ i ∈ c.J ∧
  ∀ H' ad' D' r ys, Go b.w c H ad D H' ad' D' → D'.ts = (LT.serve c.M c.U D.ts i).2 → H r = none → Off H' ad' D' r (.lst ys) → Paired (FPr H') ys (LT.serve c.M c.U D.ts i).1 → Q (.ref r) H'
abbrev s_LockTable_serve_at : Stmt := inClass (top 38) 5
abbrev N_LockTable_serve_at : List Str := ["self", "item", "owner", "spot", "found"]
abbrev P_LockTable_serve_at : List Str := ["self", "item"]
theorem sc_LockTable_serve_at : FnScope N_LockTable_serve_at P_LockTable_serve_at (defScope s_LockTable_serve_at) := ⟨rfl, rfl, rfl, by decide +kernel, rfl, by decide +kernel, by decide +kernel⟩
/-- within serve_at -/
structure SvI (b : Bs) (c : Tc) (H0 : Hp) (ad0 : Ad) (D0 : Dt) (i : V) (sp r : Addr) (H : Hp) (ad : Ad) (D : Dt) (ys : List V) (ps : List (Int × V)) : Prop where
  g : Go b.w c H0 ad0 D0 H ad D
  wf : Wf c D
  its : i ∈ D.its
  sp_ : ad.at_ (.sp i) = sp
  nr : H0 r = none
  fnd : Off H ad D r (.lst ys)
  prs : Paired (FPr H) ys ps
theorem ok_serve_at {b : Bs} {c : Tc} (R : RawM b c.CT "serve_at" "LockTable.serve_at" s_LockTable_serve_at P_LockTable_serve_at) (K : ClsOk b.K c) (T : Tops b) (D_spot_of : Mt b 3 c.CT "spot_of" P_LockTable_spot_of (spSpotOf b c))
    (D_others_allow : Mt b 4 c.CT "others_allow" P_LockTable_others_allow (spOthers b c)) (D_grant : Mt b 4 c.CT "grant" P_LockTable_grant (spGrant b c)) : Mt b 5 c.CT "serve_at" P_LockTable_serve_at (spServe b c) := by
  refine R.ok K.cT sc_LockTable_serve_at (fun vs H Q E h => ?_) fun f cdv A outer s H vs Q E hr h => ?_
  · obtain ⟨ad, D, i, rfl, _⟩ := h
    rfl
  · obtain ⟨ad, D, i, rfl, A0, O0, W, hi, k⟩ := h
    refine ⟨_, (pss_cons (ps_par (i := 3) (j := 4) rfl sc_LockTable_serve_at.nd rfl rfl (by decide) rfl rfl (pa_cons (pe_mtd D_spot_of (pv 0) (hr.mono (by decide)) (pa_cons (pv 1) pa_nil)) (pa_cons (pe_lst pa_nil) pa_nil)) (by rfl))
      (pss_cons (ps_for PassesOwn.never rfl (pi_list (pe_callTy call_list_of (by rfl) T.b_list (by decide +kernel) (pa_cons (pe_fld (pv 3) rfl) pa_nil))) (pg_name (i := 2) sc_LockTable_serve_at.nd rfl (Or.inl rfl))
      (pss_one (ps_if (pt_val (pe_mtd D_others_allow (pv 0) (hr.mono (by decide)) (pa_cons (pv 2) (pa_cons (pv 1) (pa_cons (pe_ix ix_tup (pe_dget (hu_of hr) (pe_fld (pv 0) rfl) (pv 2) (fun _ _ => rfl)) pe_int (fun _ _ => rfl)) pa_nil))))) (pss_cons (ps_expr (pe_bm PySem.F.plainAttrs_list PySem.F.slot_list_remove PySem.F.type_list_remove mt_remove (pe_fld (pv 3) rfl) (pa_cons (pv 2) pa_nil)))
      (pss_cons (ps_expr (pe_bm PySem.F.plainAttrs_list PySem.F.slot_list_append PySem.F.type_list_append mt_append (pv 4) (pa_cons (pe_tup (pa_cons (pv 2) (pa_cons (pv 1) pa_nil))) pa_nil)))
      (pss_one (ps_expr (pe_mtd D_grant (pv 0) (hr.mono (by decide)) (pa_cons (pv 2) (pa_cons (pv 1) (pa_cons (pe_ix ix_tup (pe_dget (hu_of hr) (pe_fld (pv 0) rfl) (pv 2) (fun _ _ => rfl)) pe_int (fun _ _ => rfl)) pa_nil)))))))) pss_nil)))
      (pss_cons (ps_while PassesOwn.never (PW.pt (pw_and (pt_cmpR (op_eqD hr.units) (pe_fld (pv 3) rfl) (pe_lst pa_nil) (nomark _)) (pw_and1 (pt_cmpR (op_neD hr.units) (pe_fld (pv 3) rfl) (pe_lst pa_nil) (nomark _)))))
      (pss_cons (ps_set (i := 2) sc_LockTable_serve_at.nd rfl (Or.inl rfl) (pe_ix ix_list (pe_fld (pv 3) rfl) pe_int (fun _ _ => rfl)))
      (pss_cons (ps_if (pt_not (pt_val (pe_mtd D_others_allow (pv 0) (hr.mono (by decide)) (pa_cons (pv 2) (pa_cons (pv 1) (pa_cons (pe_ix ix_tup (pe_dget (hu_of hr) (pe_fld (pv 0) rfl) (pv 2) (fun _ _ => rfl)) pe_int (fun _ _ => rfl)) pa_nil)))))) (pss_one ps_break) pss_nil)
      (pss_cons (ps_expr (pe_bm PySem.F.plainAttrs_list PySem.F.slot_list_pop PySem.F.type_list_pop mt_popAt (pe_fld (pv 3) rfl) (pa_cons pe_int pa_nil)))
      (pss_cons (ps_expr (pe_bm PySem.F.plainAttrs_list PySem.F.slot_list_append PySem.F.type_list_append mt_append (pv 4) (pa_cons (pe_tup (pa_cons (pv 2) (pa_cons (pv 1) pa_nil))) pa_nil)))
      (pss_one (ps_expr (pe_mtd D_grant (pv 0) (hr.mono (by decide)) (pa_cons (pv 2) (pa_cons (pv 1) (pa_cons (pe_ix ix_tup (pe_dget (hu_of hr) (pe_fld (pv 0) rfl) (pv 2) (fun _ _ => rfl)) pe_int (fun _ _ => rfl)) pa_nil)))))))))))
      (pss_one (ps_ret (pv 4)))))), ?_⟩
    refine ⟨_, rfl, _, _, _, rfl, A0.at_ .tab True.intro, rfl, _, rfl, ad, D, i, rfl, A0, O0, hi, fun H1 ad1 A1 f1 p1 => ⟨Nat.zero_le _, fun r hr0 => ?_⟩⟩
    have g1 : Go b.w c H ad D H1 ad1 (D.add i) := ⟨A1, f1, p1, fun t => add_dom⟩
    have s1 := same_new' (o := .lst []) hr0
    have nr : H r = none := g1.none_ A0 hr0
    have I1 : SvI b c H ad D i (ad1.at_ (.sp i)) r (upd H1 r (.lst [])) ad1 (D.add i) [] [] := ⟨g1.then_ s1, W, add_mem D i, rfl, nr, Off.new A1 hr0, .nil⟩
    refine ⟨_, _, rfl, ?_⟩
    show tSeq _ _ _ _ (upd H1 r (.lst []))
    generalize upd H1 r (.lst []) = H2 at I1 ⊢
    refine ⟨_, rfl, _, _, _, _, _, rfl, I1.g.at_.at_ (.sp i) (add_mem D i), K.cS, K.nS _ (by simp), rfl, ?_⟩
    have cv2 := I1.g.at_.at_ (.cv i) (add_mem D i)
    refine ⟨_, _, rfl, .inl (.inl (.inl cv2)), fun L hL => ⟨_, rfl, ⟨_, .inl (.inl upd_same)⟩, ?_⟩⟩
    have I2 : SvI b c H ad D i (ad1.at_ (.sp i)) r (upd H2 L (.lst ((D.cv i).map V.int))) ad1 (D.add i) [] [] := ⟨I1.g.then_ (same_new' hL), W, add_mem D i, rfl, nr, I1.fnd.same (same_new' hL), .nil⟩
    have oL : Off (upd H2 L (.lst ((D.cv i).map V.int))) ad1 (D.add i) L (.lst ((D.cv i).map V.int)) := Off.new I1.g.at_ hL
    have rL : r ≠ L := ne_of_none I1.fnd.at_ hL
    show ∃ W : Nat → Nat → St → Hp → Prop, (∃ m, W 0 m _ (upd H2 L (.lst ((D.cv i).map V.int)))) ∧ _
    generalize upd H2 L (.lst ((D.cv i).map V.int)) = H3 at I2 oL ⊢
    refine for_it (walk_list (xs := (D.cv i).map V.int)) (fun j σ Hj => ∃ x adj Dj ys ps, σ = [some (.ref (ad.at_ .tab)), some i, x, some (.ref (ad1.at_ (.sp i))), some (.ref r)] ∧ SvI b c H ad D i (ad1.at_ (.sp i)) r Hj adj Dj ys ps ∧ Off Hj adj Dj L (.lst ((D.cv i).map V.int)) ∧ (∀ o ∈ (D.cv i).drop j, o ∈ Dj.cv i) ∧ ps.length ≤ j ∧
      LT.serveC c.M c.U i (D.cv i) D.ts = (ps ++ (LT.serveC c.M c.U i ((D.cv i).drop j) Dj.ts).1, (LT.serveC c.M c.U i ((D.cv i).drop j) Dj.ts).2)) ?_ (fun j σ Hj hj p => ?_) (fun j y σ Hj Hj' hj p hy => ?_) fun σ Hj p => ?_
    · exact ⟨none, ad1, D.add i, [], [], rfl, I2, oL, fun o ho => ho, Nat.le_refl _, rfl⟩
    · obtain ⟨x, adj, Dj, ys, ps, rfl, _, q, _⟩ := p
      exact .inl (.inl q.at_)
    · obtain ⟨x, adj, Dj, ys, ps, rfl, Ij, oj, hin, pl, eq⟩ := p
      obtain ⟨rfl, hy⟩ := hy
      rw [List.getElem?_map] at hy
      cases hx : (D.cv i)[j]? with
      | none => rw [hx] at hy; cases hy
      | some o =>
      rw [hx] at hy
      cases hy
      have A3 := Ij.g.at_
      have O3 := O0.mono (Go.tups A0 Ij.g)
      have et3 : adj.at_ .tab = ad.at_ .tab := Ij.g.tab
      have ta3 := A3.at_ .tab True.intro
      rw [et3] at ta3
      have hd : (D.cv i).drop j = o :: (D.cv i).drop (j + 1) := by rw [List.drop_eq_getElem?_toList_append, hx]; rfl
      have ho : o ∈ Dj.cv i := hin o (by rw [hd]; exact .head _)
      obtain ⟨⟨m, hm⟩, _⟩ := Ij.wf.convAsk o i ho
      have hmB := (Ij.wf.asksIn o i m hm).1
      have hoU := (Ij.wf.asksU o i m hm).1
      have hal : ∀ e ∈ Dj.al, e.1 ∈ c.U := wf_al Ij.wf A3.ok
      obtain ⟨p, hp⟩ := asks_al hm
      have tp := ask_tup A3 hp
      refine ⟨_, rfl, _, _, _, rfl, ta3, rfl, _, rfl, _, rfl, _, rfl, _, _, _, _, _, rfl, ta3, K.cT, K.nT _ (by simp), rfl, _, rfl, _, _, rfl, dget_asks A3 hp, p, _, 1, _, rfl, rfl, .inl (.inl tp), rfl, adj, Dj, o, i, m, by rw [et3]; rfl, A3, O3, hi, hmB, wf_hin Ij.wf A3.ok i, fun H4 ad4 g4 => ?_⟩
      rw [add_old Ij.its] at g4
      have A4 := g4.at_
      have f4 := Ij.fnd.go g4
      have l4 := oj.go g4
      have pr4 := FPrs.mono (Go.tups A3 g4) Ij.prs
      have gg4 := Ij.g.trans g4
      have sp4 : ad4.at_ (.sp i) = ad1.at_ (.sp i) := (g4.pl (.sp i) Ij.its).trans Ij.sp_
      have et4 : ad4.at_ .tab = ad.at_ .tab := g4.tab.trans et3
      refine ⟨_, rfl, ?_⟩
      cases hl : LT.lets c.M c.U Dj.ts o i m with
      | false =>
        refine iteF ⟨_, ad4, Dj, ys, ps, rfl, ⟨gg4, Ij.wf, Ij.its, sp4, nr, f4, pr4⟩, l4, fun q hq => hin q (by rw [hd]; exact .tail _ hq), Nat.le_succ_of_le pl, ?_⟩
        rw [eq, hd, serveC_no hm hl]
      | true =>
        have spf := A4.at_ (.sp i) Ij.its
        rw [sp4] at spf
        have cvf := A4.at_ (.cv i) Ij.its
        obtain ⟨jj, j1, j2, j3⟩ := place_of ho
        refine iteT ⟨_, rfl, _, _, _, _, _, rfl, spf, K.cS, K.nS _ (by simp), rfl, .inl ⟨rfl, _, .inl (.inl cvf)⟩, _, rfl, _, _, o, jj, rfl, rfl, cvf, j1, j2, ?_⟩
        rw [j3]
        have g5 := A4.goCv (i := i) (l := (Dj.cv i).erase o) Ij.its
        have f5 := f4.go g5
        have l5 := l4.go g5
        have pr5 := FPrs.mono (Go.tups A4 g5) pr4
        have gg5 := gg4.trans g5
        show tSeq _ _ _ _ (upd H4 (ad4.at_ (.cv i)) (.lst (((Dj.cv i).erase o).map V.int)))
        generalize upd H4 (ad4.at_ (.cv i)) (.lst (((Dj.cv i).erase o).map V.int)) = H5 at g5 f5 l5 pr5 gg5 ⊢
        have A5 := g5.at_
        refine ⟨_, rfl, .inl ⟨rfl, _, .inl (.inl f5.at_)⟩, _, rfl, _, rfl, two_le, fun t ht => ⟨_, ys, _, rfl, rfl, (same_new' ht) _ _ f5.at_, ?_, ?_⟩⟩
        · have := Paired.length pr5
          have c1 : (D.cv i).length ≤ 20 := wf_q (W.convNd i) (wf_cv W i) O0.ul
          rw [List.length_map] at hj
          rw [sizeLine_eq]
          omega
        · have s6 := same_new' (o := .tup [.int o, i]) ht
          have gg6 := (gg5.then_ s6).mine (o := .lst (ys ++ [.ref t])) nr (f5.same s6) lst_ne
          have f6 : Off (upd (upd H5 t (.tup [.int o, i])) r (.lst (ys ++ [.ref t]))) ad4 (Dj.sCv i ((Dj.cv i).erase o)) r (.lst (ys ++ [.ref t])) := ⟨upd_same, f5.no⟩
          have l6 := (l5.same s6).upd (r := r) (u := .lst (ys ++ [.ref t])) rL.symm
          have t6 : Tups H5 (upd (upd H5 t (.tup [.int o, i])) r (.lst (ys ++ [.ref t]))) := Tups.trans (Same.tups s6) (Tups.mut (s6 _ _ f5.at_) lst_ne)
          have pr6 : Paired (FPr (upd (upd H5 t (.tup [.int o, i])) r (.lst (ys ++ [.ref t])))) (ys ++ [.ref t]) (ps ++ [(o, i)]) := paired_snoc ⟨t, rfl, by rw [upd_ne (ne_of_none f5.at_ ht).symm, upd_same]⟩ (FPrs.mono t6 pr5)
          dsimp only
          generalize upd (upd H5 t (.tup [.int o, i])) r (.lst (ys ++ [.ref t])) = H6 at gg6 f6 l6 pr6 ⊢
          have A6 := gg6.at_
          have O6 := O0.mono (Go.tups A0 gg6)
          have ta6 := A6.at_ .tab True.intro
          rw [et4] at ta6
          have hp6 : (Dj.sCv i ((Dj.cv i).erase o)).al.lookup o = some (p, i, m) := hp
          refine ⟨_, rfl, _, _, _, rfl, ta6, rfl, _, rfl, _, rfl, _, rfl, _, _, _, _, _, rfl, ta6, K.cT, K.nT _ (by simp), rfl, _, rfl, _, _, rfl, dget_asks A6 hp6, p, _, 1, _, rfl, rfl, .inl (.inl (ask_tup A6 hp6)), rfl, ad4, Dj.sCv i ((Dj.cv i).erase o), o, i, m, by rw [et4]; rfl, A6, O6, hi, hoU, fun e he => (wf_hin Ij.wf A3.ok i e he).1, wf_got Ij.wf o, Ij.wf.gotNd o, hal, fun H7 ad7 g7 => ?_⟩
          have ets : ((Dj.sCv i ((Dj.cv i).erase o)).give o i m).ts = LT.give (LT.outC Dj.ts o i) o i m := give_ts _ _ _ _
          refine ⟨_, ad7, (Dj.sCv i ((Dj.cv i).erase o)).give o i m, ys ++ [.ref t], ps ++ [(o, i)], rfl, ⟨gg6.trans g7, ?_, add_mem _ i, (g7.pl (.sp i) Ij.its).trans sp4, nr, f6.go g7, FPrs.mono (Go.tups A6 g7) pr6⟩, l6.go g7, fun q hq => ?_, ?_, ?_⟩
          · show LT.WF c.U c.J c.B _
            rw [ets, LT.give_outC Ij.wf hm ho]
            exact Ij.wf.grant hm
          · have nd : ((D.cv i).drop j).Nodup := (W.convNd i).sublist (List.drop_sublist j _)
            rw [hd, List.nodup_cons] at nd
            show q ∈ LT.put Dj.cv i ((Dj.cv i).erase o) i
            rw [LT.put_at, List.mem_erase_of_ne fun e : q = o => nd.1 (e ▸ hq)]
            exact hin q (by rw [hd]; exact .tail _ hq)
          · rw [List.length_append]
            show _ + 1 ≤ _
            omega
          · rw [eq, hd, serveC_yes hm hl, ets]
            simp only [List.append_assoc, List.cons_append, List.nil_append]
    · obtain ⟨x, adj, Dj, ys, ps, rfl, Ij, oj, hin, pl, eq⟩ := p
      have W1 := Ij.wf
      have q1 := wf_q (W1.queueNd i) (wf_qu W1 i) O0.ul
      have c1 := wf_q (W.convNd i) (wf_cv W i) O0.ul
      have c1 : (D.cv i).length ≤ 20 := c1
      have q1 : (Dj.qu i).length ≤ 20 := q1
      have dn : (D.cv i).drop ((D.cv i).map V.int).length = [] := by rw [List.length_map, List.drop_length]
      rw [dn] at eq
      have eq : LT.serveC c.M c.U i (D.cv i) D.ts = (ps, Dj.ts) := by rw [eq]; show (ps ++ [], Dj.ts) = _; rw [List.append_nil]
      have es : LT.serve c.M c.U D.ts i = (ps ++ (LT.serveQ c.M c.U i (Dj.qu i) Dj.ts).1, (LT.serveQ c.M c.U i (Dj.qu i) Dj.ts).2) := by
        unfold LT.serve
        rw [show D.ts.conv i = D.cv i from rfl, eq]
        rfl
      rw [List.length_map] at pl
      dsimp only
      refine ⟨fun n σ Hn => ∃ y adn Dn yn pn, σ = [some (.ref (ad.at_ .tab)), some i, y, some (.ref (ad1.at_ (.sp i))), some (.ref r)] ∧ SvI b c H ad D i (ad1.at_ (.sp i)) r Hn adn Dn yn pn ∧ n = (Dn.qu i).length ∧ pn.length + (Dn.qu i).length ≤ 40 ∧
        LT.serve c.M c.U D.ts i = (pn ++ (LT.serveQ c.M c.U i (Dn.qu i) Dn.ts).1, (LT.serveQ c.M c.U i (Dn.qu i) Dn.ts).2), ⟨_, x, adj, Dj, ys, ps, rfl, Ij, rfl, by omega, es⟩, ?_⟩
      rintro n σ Hn ⟨y, adn, Dn, yn, pn, rfl, In, rfl, lz, en⟩
      have A3 := In.g.at_
      have O3 := O0.mono (Go.tups A0 In.g)
      have et3 : adn.at_ .tab = ad.at_ .tab := In.g.tab
      have spf := A3.at_ (.sp i) In.its
      rw [In.sp_] at spf
      refine ⟨_, rfl, _, _, _, _, _, rfl, spf, K.cS, K.nS _ (by simp), rfl, Nat.zero_le _, fun p1 hp1 => ⟨.list ((Dn.cv i).map PyData.int), .list [], .lst (.inl (.inl ((same_new' hp1) _ _ (A3.at_ (.cv i) In.its)))) (dp_ints _), .lst (.inl (.inl upd_same)) .nil, (Sh.lst (sh_ints _)).ok (by omega), sh_nil, _, rfl, ?_⟩⟩
      have s1 := same_new' (o := .lst []) hp1
      have In1 : SvI b c H ad D i (ad1.at_ (.sp i)) r (upd Hn p1 (.lst [])) adn Dn yn pn := ⟨In.g.then_ s1, In.wf, In.its, In.sp_, nr, In.fnd.same s1, FPrs.mono (Same.tups s1) In.prs⟩
      have spf1 := s1 _ _ spf
      generalize upd Hn p1 (.lst []) = Hm at In1 spf1 ⊢
      have fin : ∀ (Hz : Hp) (adz : Ad), SvI b c H ad D i (ad1.at_ (.sp i)) r Hz adz Dn yn pn → LT.serveQ c.M c.U i (Dn.qu i) Dn.ts = ([], Dn.ts) → Q (.ref r) Hz := fun Hz adz Iz ez => by
        rw [ez, List.append_nil] at en
        exact k Hz adz Dn r yn Iz.g (by rw [en]) nr Iz.fnd (by rw [en]; exact Iz.prs)
      rw [eqv_nil, show decide ((Dn.cv i).map PyData.int = []) = decide (Dn.cv i = []) from decide_eq_decide.mpr List.map_eq_nil_iff]
      by_cases hc : Dn.cv i = []
      case neg =>
        rw [decide_eq_false hc]
        exact iteF (iteF ⟨_, rfl, fin _ _ In1 (serveQ_conv hc)⟩)
      rw [decide_eq_true hc]
      refine iteT ⟨_, rfl, _, _, _, _, _, rfl, spf1, K.cS, K.nS _ (by simp), rfl, Nat.zero_le _, fun p2 hp2 => ⟨.list ((Dn.qu i).map PyData.int), .list [], .lst (.inl (.inl ((same_new' hp2) _ _ (In1.g.at_.at_ (.qu i) In.its)))) (dp_ints _), .lst (.inl (.inl upd_same)) .nil, (Sh.lst (sh_ints _)).ok (by omega), sh_nil, _, rfl, ?_⟩⟩
      have s2 := same_new' (o := .lst []) hp2
      have In2 : SvI b c H ad D i (ad1.at_ (.sp i)) r (upd Hm p2 (.lst [])) adn Dn yn pn := ⟨In1.g.then_ s2, In.wf, In.its, In.sp_, nr, In1.fnd.same s2, FPrs.mono (Same.tups s2) In1.prs⟩
      have spf2 := s2 _ _ spf1
      generalize upd Hm p2 (.lst []) = Hl at In2 spf2 ⊢
      rw [eqv_nil, show decide ((Dn.qu i).map PyData.int = []) = decide (Dn.qu i = []) from decide_eq_decide.mpr List.map_eq_nil_iff]
      cases hq : Dn.qu i with
      | nil =>
        rw [decide_eq_true rfl]
        exact iteF ⟨_, rfl, fin _ _ In2 (by rw [hq]; rfl)⟩
      | cons o l =>
      rw [decide_eq_false (by simp)]
      refine iteT ?_
      have A4 := In2.g.at_
      have O4 := O0.mono (Go.tups A0 In2.g)
      have ta4 := A4.at_ .tab True.intro
      rw [et3] at ta4
      have quf := A4.at_ (.qu i) In.its
      rw [show cont b.w c adn Dn (.qu i) = .lst ((Dn.qu i).map V.int) from rfl, hq] at quf
      have ho : o ∈ Dn.qu i := by rw [hq]; exact .head _
      obtain ⟨⟨m, hm⟩, _⟩ := In.wf.queueAsk o i ho
      have hmB := (In.wf.asksIn o i m hm).1
      have hoU := (In.wf.asksU o i m hm).1
      have hal : ∀ e ∈ Dn.al, e.1 ∈ c.U := wf_al In.wf A4.ok
      obtain ⟨p, hp⟩ := asks_al hm
      refine ⟨_, fun _ _ h => h, ?_⟩
      refine ⟨_, rfl, _, _, _, _, _, rfl, spf2, K.cS, K.nS _ (by simp), rfl, _, _, 0, _, rfl, rfl, .inl (.inl quf), atI0, ?_⟩
      refine ⟨_, rfl, _, _, _, rfl, ta4, rfl, _, rfl, _, rfl, _, rfl, _, _, _, _, _, rfl, ta4, K.cT, K.nT _ (by simp), rfl, _, rfl, _, _, rfl, dget_asks A4 hp, p, _, 1, _, rfl, rfl, .inl (.inl (ask_tup A4 hp)), rfl, adn, Dn, o, i, m, by rw [et3]; rfl, A4, O4, hi, hmB, wf_hin In.wf A4.ok i, fun H5 ad5 g5 => ?_⟩
      rw [add_old In.its] at g5
      have A5 := g5.at_
      have f5 := In2.fnd.go g5
      have pr5 := FPrs.mono (Go.tups A4 g5) In2.prs
      have gg5 := In2.g.trans g5
      have sp5 : ad5.at_ (.sp i) = ad1.at_ (.sp i) := (g5.pl (.sp i) In.its).trans In2.sp_
      have et5 : ad5.at_ .tab = ad.at_ .tab := g5.tab.trans et3
      refine ⟨_, rfl, ?_⟩
      cases hl : LT.lets c.M c.U Dn.ts o i m with
      | false =>
        exact iteT ⟨_, rfl, fin _ _ ⟨gg5, In.wf, In.its, sp5, nr, f5, pr5⟩ (by rw [hq]; exact serveQ_no hc hm hl)⟩
      | true =>
        have spf5 := A5.at_ (.sp i) In.its
        rw [sp5] at spf5
        have quf5 := A5.at_ (.qu i) In.its
        rw [show cont b.w c ad5 Dn (.qu i) = .lst ((Dn.qu i).map V.int) from rfl, hq] at quf5
        have six : seqIndex? 0 ((o :: l).map V.int).length = some 0 := by
          rw [List.length_map, List.length_cons]
          simp [seqIndex?]
        refine iteF ⟨_, rfl, _, _, _, _, _, rfl, spf5, K.cS, K.nS _ (by simp), rfl, .inl ⟨rfl, _, .inl (.inl quf5)⟩, _, _, 0, 0, _, rfl, rfl, quf5, by decide, by decide, six, rfl, ?_⟩
        have g6 := A5.goQu (i := i) (l := l) In.its
        have f6 := f5.go g6
        have pr6 := FPrs.mono (Go.tups A5 g6) pr5
        have gg6 := gg5.trans g6
        rw [show ((o :: l).map V.int).eraseIdx 0 = l.map V.int from rfl]
        generalize upd H5 (ad5.at_ (.qu i)) (.lst (l.map V.int)) = H6 at g6 f6 pr6 gg6 ⊢
        have A6 := g6.at_
        refine ⟨_, rfl, .inl ⟨rfl, _, .inl (.inl f6.at_)⟩, _, rfl, _, rfl, two_le, fun t ht => ⟨_, yn, _, rfl, rfl, (same_new' ht) _ _ f6.at_, ?_, ?_⟩⟩
        · have := Paired.length pr6
          rw [sizeLine_eq]
          omega
        · have s7 := same_new' (o := .tup [.int o, i]) ht
          have gg7 := (gg6.then_ s7).mine (o := .lst (yn ++ [.ref t])) nr (f6.same s7) lst_ne
          have f7 : Off (upd (upd H6 t (.tup [.int o, i])) r (.lst (yn ++ [.ref t]))) ad5 (Dn.sQu i l) r (.lst (yn ++ [.ref t])) := ⟨upd_same, f6.no⟩
          have t7 : Tups H6 (upd (upd H6 t (.tup [.int o, i])) r (.lst (yn ++ [.ref t]))) := Tups.trans (Same.tups s7) (Tups.mut (s7 _ _ f6.at_) lst_ne)
          have pr7 : Paired (FPr (upd (upd H6 t (.tup [.int o, i])) r (.lst (yn ++ [.ref t])))) (yn ++ [.ref t]) (pn ++ [(o, i)]) := paired_snoc ⟨t, rfl, by rw [upd_ne (ne_of_none f6.at_ ht).symm, upd_same]⟩ (FPrs.mono t7 pr6)
          dsimp only
          generalize upd (upd H6 t (.tup [.int o, i])) r (.lst (yn ++ [.ref t])) = H7 at gg7 f7 pr7 ⊢
          have A7 := gg7.at_
          have O7 := O0.mono (Go.tups A0 gg7)
          have ta7 := A7.at_ .tab True.intro
          rw [et5] at ta7
          have hp7 : (Dn.sQu i l).al.lookup o = some (p, i, m) := hp
          refine ⟨_, rfl, _, _, _, rfl, ta7, rfl, _, rfl, _, rfl, _, rfl, _, _, _, _, _, rfl, ta7, K.cT, K.nT _ (by simp), rfl, _, rfl, _, _, rfl, dget_asks A7 hp7, p, _, 1, _, rfl, rfl, .inl (.inl (ask_tup A7 hp7)), rfl, ad5, Dn.sQu i l, o, i, m, by rw [et5]; rfl, A7, O7, hi, hoU, fun e he => (wf_hin In.wf A4.ok i e he).1, wf_got In.wf o, In.wf.gotNd o, hal, fun H8 ad8 g8 => ?_⟩
          have ets : ((Dn.sQu i l).give o i m).ts = LT.give (LT.outQ Dn.ts i l) o i m := give_ts _ _ _ _
          have eq8 : ((Dn.sQu i l).give o i m).qu i = l := LT.put_at _ _ _
          refine ⟨l.length, Nat.lt_succ_self _, _, ad8, (Dn.sQu i l).give o i m, yn ++ [.ref t], pn ++ [(o, i)], rfl, ⟨gg7.trans g8, ?_, add_mem _ i, (g8.pl (.sp i) In.its).trans sp5, nr, f7.go g8, FPrs.mono (Go.tups A7 g8) pr7⟩, by rw [eq8], ?_, ?_⟩
          · show LT.WF c.U c.J c.B _
            rw [ets, LT.give_outQ In.wf hm hq]
            exact In.wf.grant hm
          · rw [eq8, List.length_append]
            rw [hq, List.length_cons] at lz
            show _ + 1 + _ ≤ _
            omega
          · rw [en, eq8, hq, serveQ_yes hc hm hl, ets]
            simp only [List.append_assoc, List.cons_append, List.nil_append]
end Lk
end
section
set_option maxRecDepth 100000
set_option maxHeartbeats 1000000
/-! free_item, let_go. -/
namespace Lk
open PySem L2
open Mx (pe_msetd pe_mget pe_mget2 ps_mput pe_mnew pe_mayLock ps_mayLock pi_itemsN pi_itemsM)

def Dt.unhold (D : Dt) (o : Int) (i : V) : Dt := ((D.add i).sMd i (dropA (D.md i) o)).sGot o ((D.got o).erase i)
theorem unhold_ts (D : Dt) (o : Int) (i : V) : (D.unhold o i).ts = LT.unhold D.ts o i := by
  have h1 : (fun (j : V) (q : Int) => (LT.put D.md i (dropA (D.md i) o) j).lookup q) = LT.put D.ts.held i (LT.put (D.ts.held i) o none) := by
    funext j q
    by_cases e : j = i
    · rw [e, LT.put_at, LT.put_at, lookup_dropA]
      by_cases e2 : q = o
      · rw [e2, LT.put_at, if_pos rfl]
      · rw [LT.put_off _ _ e2, if_neg e2]; rfl
    · rw [LT.put_off _ _ e, LT.put_off _ _ e]; rfl
  show LT.TS.mk _ _ _ _ _ = LT.TS.mk _ _ _ _ _
  congr 1
theorem got_os {c : Tc} {D : Dt} {o : Int} {i : V} (ok : D.Ok c) (h : i ∈ D.got o) : o ∈ D.os := by
  rcases Classical.em (o ∈ D.os) with g | g
  · exact g
  · rw [ok.got0 o g] at h; cases h
theorem dget_os {b : Bs} {c : Tc} {D : Dt} {H : Hp} {ad : Ad} {o : Int} (A : At b.w c H ad D) (h : o ∈ D.os) : DGet H (ad.at_ .ibo) (.int o) (some (.ref (ad.at_ (.kept o)))) := by
  refine .inl ⟨_, Sum.inl o, .inl (A.at_ .ibo True.intro), rfl, ?_⟩
  rw [valV_os, if_pos h]
abbrev spFree (b : Bs) (c : Tc) : Sp := fun vs H Q _ => ∃ (ad : Ad) (D : Dt) (o : Int) (i : V), vs = [.ref (ad.at_ .tab), .int o, i] ∧ At b.w c H ad D ∧ c.Ok b.K H ∧ Wf c D ∧ i ∈ D.got o ∧ D.ts.asks o = none ∧
  ∀ H' ad' D' r ys, Go b.w c H ad D H' ad' D' → D'.ts = (LT.freed c.M c.U D.ts o i).2 → H r = none → Off H' ad' D' r (.lst ys) → Paired (FPr H') ys (LT.freed c.M c.U D.ts o i).1 → Q (.ref r) H'
abbrev s_LockTable_free_item : Stmt := inClass (top 38) 6
abbrev N_LockTable_free_item : List Str := ["self", "owner", "item"]
abbrev P_LockTable_free_item : List Str := ["self", "owner", "item"]
theorem sc_LockTable_free_item : FnScope N_LockTable_free_item P_LockTable_free_item (defScope s_LockTable_free_item) := ⟨rfl, rfl, rfl, by decide +kernel, rfl, by decide +kernel, by decide +kernel⟩
theorem ok_free_item {b : Bs} {c : Tc} (R : RawM b c.CT "free_item" "LockTable.free_item" s_LockTable_free_item P_LockTable_free_item) (K : ClsOk b.K c) (T : Tops b) (D_spot_of : Mt b 3 c.CT "spot_of" P_LockTable_spot_of (spSpotOf b c))
    (D_serve_at : Mt b 5 c.CT "serve_at" P_LockTable_serve_at (spServe b c)) : Mt b 6 c.CT "free_item" P_LockTable_free_item (spFree b c) := by
  refine R.ok K.cT sc_LockTable_free_item (fun vs H Q E h => ?_) fun f cdv A outer s H vs Q E hr h => ?_
  · obtain ⟨ad, D, o, i, rfl, _⟩ := h
    rfl
  · obtain ⟨ad, D, o, i, rfl, A0, O0, W, hi, ha, k⟩ := h
    refine ⟨_, (pss_cons (ps_expr (pe_dpop1 (pe_fld (pe_mtd D_spot_of (pv 0) (hr.mono (by decide)) (pa_cons (pv 2) pa_nil)) rfl) (pv 1) ⟨rfl, rfl, rfl, rfl⟩))
      (pss_cons (ps_expr (pe_bm PySem.F.plainAttrs_list PySem.F.slot_list_remove PySem.F.type_list_remove (Ru.mt_removeD (hu65 hr)) (pe_dget (hu_of hr) (pe_fld (pv 0) rfl) (pv 1) (fun _ _ => rfl)) (pa_cons (pv 2) pa_nil)))
      (pss_one (ps_ret (pe_mtd D_serve_at (pv 0) (hr.mono (by decide)) (pa_cons (pv 2) pa_nil)))))), ?_⟩
    have hJ := wf_got W o i hi
    have ho := got_os A0.ok hi
    refine ⟨_, rfl, _, _, _, rfl, A0.at_ .tab True.intro, rfl, _, rfl, ad, D, i, rfl, A0, O0, hJ, fun H1 ad1 A1 f1 p1 => ?_⟩
    have g1 : Go b.w c H ad D H1 ad1 (D.add i) := ⟨A1, f1, p1, fun t => add_dom⟩
    have md1 := A1.at_ (.md i) (add_mem D i)
    obtain ⟨m, hm⟩ : ∃ m, (D.md i).lookup o = some m := by
      have z := (W.gotIff o i).mp hi
      have z : (D.md i).lookup o ≠ none := z
      cases e : (D.md i).lookup o with
      | none => exact (z e).elim
      | some m => exact ⟨m, rfl⟩
    refine ⟨_, _, _, _, _, rfl, A1.at_ (.sp i) (add_mem D i), K.cS, K.nS _ (by simp), rfl, _, rfl, .inl ⟨_, .inl md1⟩, _, rfl, _, Sum.inl o, .str m, md1, rfl, ?_, ?_⟩
    · show valV ((D.md i).map (ent V.str)) (Sum.inl o) = _
      rw [valV_k, hm]
      rfl
    have dk : dropK (((D.add i).md i).map (ent V.str)) (Sum.inl o) = (dropA (D.md i) o).map (ent V.str) := dropA_k
    rw [dk]
    have g2 := A1.goMd (i := i) (l := dropA (D.md i) o) (add_mem D i) (keys_dropA (A0.ok.mdn i))
    dsimp only
    generalize upd H1 (ad1.at_ (.md i)) (.dK ((dropA (D.md i) o).map (ent V.str))) = H2 at g2 ⊢
    have A2 := g2.at_
    have O2 := O0.mono (Go.tups A0 (g1.trans g2))
    have et : ad1.at_ .tab = ad.at_ .tab := p1 .tab True.intro
    have ta2 := A2.at_ .tab True.intro
    rw [et] at ta2
    have kp2 := A2.at_ (.kept o) ho
    obtain ⟨j, j1, j2⟩ := place_I O2.it hJ (wf_got W o) hi
    have shd := sh_I O2.it (fun v hv => O2.key hv) hJ
    have shs := sh_all (sh_Is O2.it (fun v hv => O2.key hv) (wf_got W o))
    refine ⟨_, rfl, _, _, _, _, _, rfl, ta2, K.cT, K.nT _ (by simp), rfl, _, rfl, _, _, rfl, dget_os A2 ho, .inl ⟨rfl, _, .inl (.inl kp2)⟩, _, rfl, _, _, i, dI c.kof i, (D.got o).map (dI c.kof), j, rfl, rfl, kp2, dp_Is O2.it (wf_got W o), dp_I O2.it hJ, PyData.plainAll_of_canLay0 _ shs.1, PyData.plain_of_canLay0 _ shd.1, Nat.le_trans shd.2 (by omega), j1, ?_⟩
    rw [show (((D.add i).sMd i (dropA (D.md i) o)).got o).eraseIdx j = (D.got o).erase i from j2 _ rfl]
    have g3 := A2.goGot (o := o) (l := (D.got o).erase i) ho
    dsimp only
    generalize upd H2 (ad1.at_ (.kept o)) (.lst ((D.got o).erase i)) = H3 at g3 ⊢
    have A3 := g3.at_
    have gg := (g1.trans g2).trans g3
    have O3 := O0.mono (Go.tups A0 gg)
    have ta3 := A3.at_ .tab True.intro
    rw [et] at ta3
    have et3 : (((D.add i).sMd i (dropA (D.md i) o)).sGot o ((D.got o).erase i)).ts = LT.unhold D.ts o i := unhold_ts D o i
    refine ⟨_, rfl, _, _, _, rfl, ta3, rfl, _, rfl, ad1, _, i, by rw [et]; rfl, A3, O3, ?_, hJ, fun H4 ad4 D4 r ys g4 e4 nr fr pr => ?_⟩
    · show LT.WF c.U c.J c.B _
      rw [et3]
      exact W.unhold ha
    · rw [et3] at e4 pr
      exact k H4 ad4 D4 r ys (gg.trans g4) e4 (gg.none_ A0 nr) fr pr
end Lk
end
section
set_option maxRecDepth 100000
set_option maxHeartbeats 1000000
/-! let_go, finish. -/
namespace Lk
open PySem L2
open Mx (pe_msetd pe_mget pe_mget2 ps_mput pe_mnew pe_mayLock ps_mayLock pi_itemsN pi_itemsM)

abbrev spLetGo (b : Bs) (c : Tc) : Sp := fun vs H Q _ => ∃ (ad : Ad) (D : Dt) (o : Int) (i : V), vs = [.ref (ad.at_ .tab), .int o, i] ∧ At b.w c H ad D ∧ c.Ok b.K H ∧ Wf c D ∧ o ∈ c.U ∧ i ∈ D.got o ∧ D.ts.asks o = none ∧
  ∀ H' ad' D' r ys, Go b.w c H ad D H' ad' D' → D'.ts = (LT.freed c.M c.U D.ts o i).2 → H r = none → Off H' ad' D' r (.lst ys) → Paired (FPr H') ys (LT.freed c.M c.U D.ts o i).1 → Q (.ref r) H'
theorem none_same {H H1 : Hp} (s : Same H H1) {r : Addr} (h : H1 r = none) : H r = none := by
  cases e : H r with
  | none => rfl
  | some o => rw [s r o e] at h; cases h
abbrev s_LockTable_let_go : Stmt := inClass (top 38) 7
abbrev N_LockTable_let_go : List Str := ["self", "owner", "item"]
abbrev P_LockTable_let_go : List Str := ["self", "owner", "item"]
theorem sc_LockTable_let_go : FnScope N_LockTable_let_go P_LockTable_let_go (defScope s_LockTable_let_go) := ⟨rfl, rfl, rfl, by decide +kernel, rfl, by decide +kernel, by decide +kernel⟩
theorem ok_let_go {b : Bs} {c : Tc} (R : RawM b c.CT "let_go" "LockTable.let_go" s_LockTable_let_go P_LockTable_let_go) (K : ClsOk b.K c) (T : Tops b) (D_free_item : Mt b 6 c.CT "free_item" P_LockTable_free_item (spFree b c))
    (D_require_owner : Df b 3 "require_owner" P_require_owner spReqOwner) (D_require_item : Df b 3 "require_item" P_require_item spReqItem) : Mt b 7 c.CT "let_go" P_LockTable_let_go (spLetGo b c) := by
  refine R.ok K.cT sc_LockTable_let_go (fun vs H Q E h => ?_) fun f cdv A outer s H vs Q E hr h => ?_
  · obtain ⟨ad, D, o, i, rfl, _⟩ := h
    rfl
  · obtain ⟨ad, D, o, i, rfl, A0, O0, W, hoU, hi, ha, k⟩ := h
    refine ⟨_, (pss_cons (ps_expr (pe_df D_require_owner (hr.mono (by decide)) (pa_cons (pv 1) pa_nil)))
      (pss_cons (ps_expr (pe_df D_require_item (hr.mono (by decide)) (pa_cons (pv 2) pa_nil)))
      (pss_cons (ps_if (pt_cmp (pc_din (hu_of hr) (pv 1) (pe_fld (pv 0) rfl))) (pss_one ps_never) pss_nil)
      (pss_cons (ps_if (pt_cmpR (op_notInD (hu65 hr)) (pv 2) (pe_dget2 (hu_of hr) (pe_fld (pv 0) rfl) (pv 1) (pe_lst pa_nil) ⟨rfl, rfl, rfl, rfl⟩) (by rfl)) (pss_one ps_never) pss_nil)
      (pss_one (ps_ret (pe_mtd D_free_item (pv 0) (hr.mono (by decide)) (pa_cons (pv 1) (pa_cons (pv 2) pa_nil))))))))), ?_⟩
    have hJ := wf_got W o i hi
    have ho := got_os A0.ok hi
    refine ⟨_, rfl, o, rfl, O0.u0 o hoU, _, rfl, i, rfl, O0.iv i hJ, fun Ha sa => ?_⟩
    have A1 := A0.same sa
    have O1 := O0.mono (Same.tups sa)
    have ta1 := A1.at_ .tab True.intro
    refine ⟨_, rfl, _, rfl, _, _, _, _, _, rfl, ta1, K.cT, K.nT _ (by simp), rfl, _, _, rfl, DGet.k (k := Sum.inl o) (A1.at_ .asks True.intro), _, rfl, ?_⟩
    rw [has_asks, ha]
    refine iteF ?_
    refine ⟨_, rfl, _, rfl, _, _, _, _, _, rfl, ta1, K.cT, K.nT _ (by simp), rfl, _, rfl, .inl ⟨_, .inl (A1.at_ .ibo True.intro)⟩, _, rfl, Nat.zero_le _, fun p hp => ⟨_, dget_os (A1.same (same_new' hp)) ho, ?_⟩⟩
    have s2 := same_new' (o := .lst []) hp
    have A2 := A1.same s2
    have O2 := O1.mono (Same.tups s2)
    refine ⟨dI c.kof i, (D.got o).map (dI c.kof), dp_I O2.it hJ, .lst (.inl (.inl (A2.at_ (.kept o) ho))) (dp_Is O2.it (wf_got W o)), (sh_I O2.it (fun v hv => O2.key hv) hJ).ok (by omega), (Sh.lst (sh_Is O2.it (fun v hv => O2.key hv) (wf_got W o))).ok (by omega), _, rfl, ?_⟩
    rw [any_I O2.it hJ (wf_got W o), decide_eq_true hi]
    refine iteF ?_
    refine ⟨_, rfl, _, _, _, rfl, s2 _ _ ta1, rfl, _, rfl, _, rfl, ad, D, o, i, rfl, A2, O2, W, hi, ha, fun H' ad' D' r ys g e nr fr pr => ?_⟩
    exact k H' ad' D' r ys ((Go.same A0 (Same.trans sa s2)).trans g) e (none_same (Same.trans sa s2) nr) fr pr
section
variable {c : Tc} {i : V}
theorem serveC_len : ∀ (l : List Int) (ts : LT.TS V Str), (LT.serveC c.M c.U i l ts).1.length ≤ l.length
  | [], _ => Nat.le_refl _
  | o :: l, ts => by
    unfold LT.serveC
    cases ts.asks o with
    | none => exact Nat.le_succ_of_le (serveC_len l ts)
    | some p =>
      by_cases h : LT.lets c.M c.U ts o i p.2 = true
      · simp only [h, if_true]
        exact Nat.succ_le_succ (serveC_len l _)
      · simp only [h, if_false]
        exact Nat.le_succ_of_le (serveC_len l ts)
theorem serveQ_len : ∀ (l : List Int) (ts : LT.TS V Str), (LT.serveQ c.M c.U i l ts).1.length ≤ l.length
  | [], _ => Nat.le_refl _
  | o :: l, ts => by
    unfold LT.serveQ
    by_cases e : ts.conv i = []
    · simp only [e, if_true]
      cases ts.asks o with
      | none => exact Nat.zero_le _
      | some p =>
        by_cases h : LT.lets c.M c.U ts o i p.2 = true
        · simp only [h, if_true]
          exact Nat.succ_le_succ (serveQ_len l _)
        · simp only [h, if_false]
          exact Nat.zero_le _
    · simp only [e, if_false]
      exact Nat.zero_le _
theorem serve_len {ts : LT.TS V Str} (W : LT.WF c.U c.J c.B ts) (ul : c.U.length ≤ 20) : (LT.serve c.M c.U ts i).1.length ≤ 40 := by
  have h1 := serveC_len (c := c) (i := i) (ts.conv i) ts
  have cU : ∀ q ∈ ts.conv i, q ∈ c.U := fun q hq => by
    obtain ⟨⟨m, e⟩, _⟩ := W.convAsk q i hq
    exact (W.asksU q i m e).1
  have h2 := LT_len (W.convNd i) cU
  have W2 : LT.WF c.U c.J c.B (LT.serveC c.M c.U i (ts.conv i) ts).2 := (LT.serveC_steps (md := c.M) (y := 0) W (ts.conv i) (fun q hq => hq) (W.convNd i)).wf W
  have h3 := serveQ_len (c := c) (i := i) ((LT.serveC c.M c.U i (ts.conv i) ts).2.queue i) (LT.serveC c.M c.U i (ts.conv i) ts).2
  have qU : ∀ q ∈ (LT.serveC c.M c.U i (ts.conv i) ts).2.queue i, q ∈ c.U := fun q hq => by
    obtain ⟨⟨m, e⟩, _⟩ := W2.queueAsk q i hq
    exact (W2.asksU q i m e).1
  have h4 := LT_len (W2.queueNd i) qU
  unfold LT.serve
  rw [List.length_append]
  omega
end
theorem dropAsk_conv {c : Tc} {ts : LT.TS V Str} {o : Int} {i : V} {m : Str} (W : LT.WF c.U c.J c.B ts) (h : o ∈ ts.conv i) :
    ({ ts with asks := LT.put ts.asks o none, conv := LT.put ts.conv i ((ts.conv i).erase o) } : LT.TS V Str) = LT.dropAsk ts o i := by
  have hq : o ∉ ts.queue i := fun z => (W.convAsk o i h).2 (W.queueAsk o i z).2
  unfold LT.dropAsk
  rw [List.erase_of_not_mem hq, put_self]
theorem dropAsk_queue {c : Tc} {ts : LT.TS V Str} {o : Int} {i : V} {m : Str} (W : LT.WF c.U c.J c.B ts) (h : o ∉ ts.conv i) :
    ({ ts with asks := LT.put ts.asks o none, queue := LT.put ts.queue i ((ts.queue i).erase o) } : LT.TS V Str) = LT.dropAsk ts o i := by
  unfold LT.dropAsk
  rw [List.erase_of_not_mem h, put_self]
theorem dropA_asks (l : List (Int × Addr × V × Str)) (o : Int) : (fun q => ((dropA l o).lookup q).map (·.2)) = LT.put (fun q => (l.lookup q).map (·.2)) o none := by
  funext q
  rw [lookup_dropA]
  by_cases h : q = o
  · rw [h, LT.put_at, if_pos rfl]; rfl
  · rw [LT.put_off _ _ h, if_neg h]
theorem paired_append {α β : Type} {F : α → β → Prop} : ∀ {l : List α} {m : List β} {l' : List α} {m' : List β}, Paired F l m → Paired F l' m' → Paired F (l ++ l') (m ++ m')
  | _, _, _, _, .nil, q => q
  | _, _, _, _, .cons h t, q => .cons h (paired_append t q)
/-- within finish: a list of one's own beside the table -/
structure FdI (b : Bs) (c : Tc) (H0 : Hp) (ad0 : Ad) (D0 : Dt) (r : Addr) (H : Hp) (ad : Ad) (D : Dt) (ys : List V) (ps : List (Int × V)) : Prop where
  g : Go b.w c H0 ad0 D0 H ad D
  wf : Wf c D
  nr : H0 r = none
  fnd : Off H ad D r (.lst ys)
  prs : Paired (FPr H) ys ps
theorem FdI.same {b : Bs} {c : Tc} {H0 H H' : Hp} {ad0 ad : Ad} {D0 D : Dt} {r : Addr} {ys : List V} {ps : List (Int × V)} (x : FdI b c H0 ad0 D0 r H ad D ys ps) (s : Same H H') : FdI b c H0 ad0 D0 r H' ad D ys ps :=
  ⟨x.g.then_ s, x.wf, x.nr, x.fnd.same s, FPrs.mono (Same.tups s) x.prs⟩
theorem FdI.go {b : Bs} {c : Tc} {H0 H H' : Hp} {ad0 ad ad' : Ad} {D0 D D' : Dt} {r : Addr} {ys : List V} {ps : List (Int × V)} (x : FdI b c H0 ad0 D0 r H ad D ys ps) (g : Go b.w c H ad D H' ad' D') (W : Wf c D') : FdI b c H0 ad0 D0 r H' ad' D' ys ps :=
  ⟨x.g.trans g, W, x.nr, x.fnd.go g, FPrs.mono (Go.tups x.g.at_ g) x.prs⟩
/-- another list's pairs at the end of one's own -/
theorem FdI.more {b : Bs} {c : Tc} {H0 H : Hp} {ad0 ad : Ad} {D0 D : Dt} {r : Addr} {ys zs : List V} {ps qs : List (Int × V)} (x : FdI b c H0 ad0 D0 r H ad D ys ps) (q : Paired (FPr H) zs qs) : FdI b c H0 ad0 D0 r (upd H r (.lst (ys ++ zs))) ad D (ys ++ zs) (ps ++ qs) := by
  have t : Tups H (upd H r (.lst (ys ++ zs))) := Tups.mut x.fnd.at_ lst_ne
  exact ⟨x.g.mine x.nr x.fnd lst_ne, x.wf, x.nr, ⟨upd_same, x.fnd.no⟩, paired_append (FPrs.mono t x.prs) (FPrs.mono t q)⟩
theorem eqV_int (z w : Int) : eqV (.int z) (.int w) = decide (z = w) := by
  by_cases h : z = w
  · subst h; simp [eqV]
  · simp [eqV, h]
theorem in_int {x : Int} {l : List Int} : inV (.int x) (l.map V.int) = decide (x ∈ l) := by
  rw [inV, List.any_map]
  by_cases h : x ∈ l
  · rw [decide_eq_true h, List.any_eq_true]
    exact ⟨x, h, by show eqV (.int x) (.int x) = true; rw [eqV_int]; exact decide_eq_true rfl⟩
  · rw [decide_eq_false h, List.any_eq_false]
    intro y hy e
    have e : eqV (.int y) (.int x) = true := e
    rw [eqV_int] at e
    exact h (of_decide_eq_true e ▸ hy)
theorem all_int (l : List Int) : (l.map V.int).all flatV = true := by
  rw [List.all_map, List.all_eq_true]
  intro _ _
  rfl
/-- a statement by what stands behind it -/
theorem seq_mid {s u : TS} {D : Ends} {σ : L2.St} {H : Hp} (G : L2.St → Hp → Prop) (h : ∀ N : L2.St → Hp → Prop, (∀ σ' H', G σ' H' → N σ' H') → s { D with nx := N } σ H) (rest : ∀ σ' H', G σ' H' → u D σ' H') : tSeq s u D σ H := h _ rest
abbrev spFinish (b : Bs) (c : Tc) : Sp := fun vs H Q _ => ∃ (ad : Ad) (D : Dt) (o : Int), vs = [.ref (ad.at_ .tab), .int o] ∧ At b.w c H ad D ∧ c.Ok b.K H ∧ Wf c D ∧ o ∈ c.U ∧
  ∀ H' ad' D' r ys, Go b.w c H ad D H' ad' D' → D'.ts = (LT.finish c.M c.U D.ts o).2 → H r = none → Off H' ad' D' r (.lst ys) → Paired (FPr H') ys (LT.finish c.M c.U D.ts o).1 → Q (.ref r) H'
abbrev s_LockTable_finish : Stmt := inClass (top 38) 8
abbrev N_LockTable_finish : List Str := ["self", "owner", "found", "item", "spot"]
abbrev P_LockTable_finish : List Str := ["self", "owner"]
theorem sc_LockTable_finish : FnScope N_LockTable_finish P_LockTable_finish (defScope s_LockTable_finish) := ⟨rfl, rfl, rfl, by decide +kernel, rfl, by decide +kernel, by decide +kernel⟩
theorem ok_finish {b : Bs} {c : Tc} (R : RawM b c.CT "finish" "LockTable.finish" s_LockTable_finish P_LockTable_finish) (K : ClsOk b.K c) (T : Tops b) (D_free_item : Mt b 6 c.CT "free_item" P_LockTable_free_item (spFree b c)) (D_spot_of : Mt b 3 c.CT "spot_of" P_LockTable_spot_of (spSpotOf b c))
    (D_serve_at : Mt b 5 c.CT "serve_at" P_LockTable_serve_at (spServe b c)) (D_require_owner : Df b 3 "require_owner" P_require_owner spReqOwner) : Mt b 7 c.CT "finish" P_LockTable_finish (spFinish b c) := by
  refine R.ok K.cT sc_LockTable_finish (fun vs H Q E h => ?_) fun f cdv A outer s H vs Q E hr h => ?_
  · obtain ⟨ad, D, o, rfl, _⟩ := h
    rfl
  · obtain ⟨ad, D, o, rfl, A0, O0, W, hoU, k⟩ := h
    refine ⟨_, (pss_cons (ps_expr (pe_df D_require_owner (hr.mono (by decide)) (pa_cons (pv 1) pa_nil)))
      (pss_cons (ps_set (i := 2) sc_LockTable_finish.nd rfl (Or.inl rfl) (pe_lst pa_nil))
      (pss_cons (ps_if (pt_cmp (pc_din (hu_of hr) (pv 1) (pe_fld (pv 0) rfl))) (pss_cons (ps_set (i := 3) sc_LockTable_finish.nd rfl (Or.inl rfl) (pe_ix ix_tup (pe_dpop1 (pe_fld (pv 0) rfl) (pv 1) ⟨rfl, rfl, rfl, rfl⟩) pe_int (fun _ _ => rfl)))
      (pss_cons (ps_set (i := 4) sc_LockTable_finish.nd rfl (Or.inl rfl) (pe_mtd D_spot_of (pv 0) (hr.mono (by decide)) (pa_cons (pv 3) pa_nil)))
      (pss_cons (ps_expr (pe_bm PySem.F.plainAttrs_list PySem.F.slot_list_remove PySem.F.type_list_remove mt_remove (pe_ifExp (pt_cmpR op_in_seq (pv 1) (pe_fld (pv 4) rfl) (by rfl)) (pe_fld (pv 4) rfl) (pe_fld (pv 4) rfl)) (pa_cons (pv 1) pa_nil)))
      (pss_one (ps_expr (pe_bm PySem.F.plainAttrs_list PySem.F.slot_list_extend PySem.F.type_list_extend mt_extend (pv 2) (pa_cons (pe_mtd D_serve_at (pv 0) (hr.mono (by decide)) (pa_cons (pv 3) pa_nil)) pa_nil))))))) pss_nil)
      (pss_cons (ps_for PassesOwn.never rfl (pi_list (pe_callTy call_list_of (by rfl) T.b_list (by decide +kernel) (pa_cons (pe_dget2 (hu_of hr) (pe_fld (pv 0) rfl) (pv 1) (pe_lst pa_nil) ⟨rfl, rfl, rfl, rfl⟩) pa_nil))) (pg_name (i := 3) sc_LockTable_finish.nd rfl (Or.inl rfl))
      (pss_one (ps_expr (pe_bm PySem.F.plainAttrs_list PySem.F.slot_list_extend PySem.F.type_list_extend mt_extend (pv 2) (pa_cons (pe_mtd D_free_item (pv 0) (hr.mono (by decide)) (pa_cons (pv 1) (pa_cons (pv 3) pa_nil))) pa_nil)))))
      (pss_one (ps_ret (pv 2))))))), ?_⟩
    refine ⟨_, rfl, o, rfl, O0.u0 o hoU, Nat.zero_le _, fun r nr => ?_⟩
    have I1 : FdI b c H ad D r (upd H r (.lst [])) ad D [] [] := ⟨Go.same A0 (same_new' nr), W, nr, Off.new A0 nr, .nil⟩
    dsimp only [gName]
    generalize upd H r (.lst []) = H1 at I1 ⊢
    refine seq_mid (fun σ' H' => ∃ x y ad' D' ys, σ' = [some (.ref (ad.at_ .tab)), some (.int o), some (.ref r), x, y] ∧ FdI b c H ad D r H' ad' D' ys (LT.quit c.M c.U D.ts o).1 ∧ D'.ts = (LT.quit c.M c.U D.ts o).2) (fun N hN => ?_) (fun σ' H' h => ?_)
    · have A1 := I1.g.at_
      have O1 := O0.mono (Go.tups A0 I1.g)
      have ta1 := A1.at_ .tab True.intro
      refine ⟨_, rfl, _, rfl, _, _, _, _, _, rfl, ta1, K.cT, K.nT _ (by simp), rfl, _, _, rfl, DGet.k (k := Sum.inl o) (A1.at_ .asks True.intro), _, rfl, ?_⟩
      rw [has_asks]
      cases ha : D.ts.asks o with
      | none =>
        refine iteF (hN _ _ ⟨none, none, ad, D, [], rfl, ?_, ?_⟩)
        · unfold LT.quit
          rw [ha]
          exact I1
        · unfold LT.quit
          rw [ha]
      | some im =>
        obtain ⟨i, m⟩ := im
        have hJ := (W.asksU o i m ha).2
        have wo := (W.asksIn o i m ha).2
        obtain ⟨p, hp⟩ := asks_al ha
        have tp := ask_tup A1 hp
        have eq : LT.quit c.M c.U D.ts o = LT.serve c.M c.U (LT.dropAsk D.ts o i) i := by unfold LT.quit; rw [ha]
        rw [eq] at hN
        refine iteT ⟨_, rfl, _, _, _, _, _, rfl, ta1, K.cT, K.nT _ (by simp), rfl, _, rfl, .inl ⟨_, .inl (A1.at_ .asks True.intro)⟩, _, rfl, _, Sum.inl o, .ref p, A1.at_ .asks True.intro, rfl, ?_, ?_⟩
        · show valV (D.al.map (ent fun e => V.ref e.1)) (Sum.inl o) = _
          rw [valV_k, hp]
          rfl
        rw [show dropK (D.al.map (ent fun e => V.ref e.1)) (Sum.inl o) = (dropA D.al o).map (ent fun e => V.ref e.1) from dropA_k]
        have g2 := A1.goAl (l := dropA D.al o) (keys_dropA A1.ok.aln) fun e he => A1.ask e (List.mem_filter.mp he).1
        have f2 := I1.fnd.go g2
        generalize upd H1 (ad.at_ .asks) (.dK ((dropA D.al o).map (ent fun e => .ref e.1))) = H2 at g2 f2 ⊢
        have A2 := g2.at_
        have O2 := O1.mono (Go.tups A1 g2)
        have ta2 := A2.at_ .tab True.intro
        refine ⟨p, _, 0, _, rfl, rfl, .inl (.inl (Go.tups A1 g2 _ _ tp)), atI0, ?_⟩
        refine ⟨_, rfl, _, _, _, rfl, ta2, rfl, _, rfl, ad, _, i, rfl, A2, O2, hJ, fun H3 ad3 A3 fa3 p3 => ?_⟩
        have g3 : Go b.w c H2 ad (D.sAl (dropA D.al o)) H3 ad3 ((D.sAl (dropA D.al o)).add i) := ⟨A3, fa3, p3, fun t => add_dom⟩
        have f3 := f2.go g3
        have cv3 := A3.at_ (.cv i) (add_mem _ i)
        have qu3 := A3.at_ (.qu i) (add_mem _ i)
        have sp3 := A3.at_ (.sp i) (add_mem _ i)
        have O3 := O2.mono (Go.tups A2 g3)
        have gg3 := (I1.g.trans g2).trans g3
        dsimp only [gName]
        refine seq_mid (fun σ' H' => σ' = [some (.ref (ad.at_ .tab)), some (.int o), some (.ref r), some i, some (.ref (ad3.at_ (.sp i)))] ∧ ∃ D4, Go b.w c H ad D H' ad3 D4 ∧ Off H' ad3 D4 r (.lst []) ∧ D4.ts = LT.dropAsk D.ts o i) (fun M hM => ?_) (fun σ' H' h => ?_)
        · refine ⟨_, rfl, _, rfl, _, _, _, _, _, rfl, sp3, K.cS, K.nS _ (by simp), rfl, _, _, rfl, .inl (.inl (.inl cv3)), rfl, all_int _, _, rfl, ?_⟩
          rw [in_int]
          by_cases hc : o ∈ D.cv i
          · rw [decide_eq_true (show o ∈ ((D.sAl (dropA D.al o)).add i).cv i from hc)]
            obtain ⟨jj, j1, j2, j3⟩ := place_of hc
            refine iteT ⟨_, rfl, _, _, _, _, _, rfl, sp3, K.cS, K.nS _ (by simp), rfl, .inl ⟨rfl, _, .inl (.inl cv3)⟩, _, rfl, _, _, o, jj, rfl, rfl, cv3, j1, j2, ?_⟩
            rw [show (((D.sAl (dropA D.al o)).add i).cv i).eraseIdx jj = (D.cv i).erase o from j3]
            have g4 := A3.goCv (i := i) (l := (D.cv i).erase o) (add_mem _ i)
            refine hM _ _ ⟨rfl, _, gg3.trans g4, f3.go g4, ?_⟩
            rw [← dropAsk_conv (m := m) W hc]
            show LT.TS.mk _ _ _ (fun q => ((dropA D.al o).lookup q).map (·.2)) _ = _
            rw [dropA_asks]
            rfl
          · rw [decide_eq_false (show o ∉ ((D.sAl (dropA D.al o)).add i).cv i from hc)]
            have hq : o ∈ D.qu i := wo.resolve_left hc
            obtain ⟨jj, j1, j2, j3⟩ := place_of hq
            refine iteF ⟨_, rfl, _, _, _, _, _, rfl, sp3, K.cS, K.nS _ (by simp), rfl, .inl ⟨rfl, _, .inl (.inl qu3)⟩, _, rfl, _, _, o, jj, rfl, rfl, qu3, j1, j2, ?_⟩
            rw [show (((D.sAl (dropA D.al o)).add i).qu i).eraseIdx jj = (D.qu i).erase o from j3]
            have g4 := A3.goQu (i := i) (l := (D.qu i).erase o) (add_mem _ i)
            refine hM _ _ ⟨rfl, _, gg3.trans g4, f3.go g4, ?_⟩
            rw [← dropAsk_queue (m := m) W (show o ∉ D.ts.conv i from hc)]
            show LT.TS.mk _ _ _ (fun q => ((dropA D.al o).lookup q).map (·.2)) _ = _
            rw [dropA_asks]
            rfl
        · obtain ⟨rfl, D4, g4, f4, e4⟩ := h
          have A4 := g4.at_
          have O4 := O0.mono (Go.tups A0 g4)
          have et4 := g4.tab
          have ta4 := A4.at_ .tab True.intro
          rw [et4] at ta4
          have W4 : Wf c D4 := by show LT.WF c.U c.J c.B _; rw [e4]; exact (W.dropAsk ha).1
          refine ⟨_, rfl, .inl ⟨rfl, _, .inl (.inl f4.at_)⟩, _, rfl, _, _, _, rfl, ta4, rfl, _, rfl, ad3, D4, i, by rw [et4]; rfl, A4, O4, W4, hJ, fun H5 ad5 D5 r5 ys5 g5 e5 nr5 f5 pr5 => ?_⟩
          rw [e4] at e5 pr5
          have W5 : Wf c D5 := by show LT.WF c.U c.J c.B _; rw [e5]; exact LT.serve_wf (W.dropAsk ha).1
          have I5 : FdI b c H ad D r H5 ad5 D5 [] [] := ⟨g4.trans g5, W5, nr, f4.go g5, .nil⟩
          have z := I5.more pr5
          refine ⟨_, _, _, _, rfl, rfl, I5.fnd.at_, f5.at_, ?_, hN _ _ ⟨_, _, ad5, D5, _, rfl, z, e5⟩⟩
          have l1 := Paired.length pr5
          have l2 := serve_len (i := i) (W.dropAsk ha).1 O0.ul
          rw [sizeLine_eq]
          show 0 + ys5.length ≤ _
          omega
    · obtain ⟨x, y, ad', D', ys, rfl, I2, e2⟩ := h
      have A2 := I2.g.at_
      have et2 := I2.g.tab
      have ta2 := A2.at_ .tab True.intro
      rw [et2] at ta2
      have W2 := I2.wf
      refine ⟨_, rfl, _, _, _, _, _, rfl, ta2, K.cT, K.nT _ (by simp), rfl, _, rfl, .inl ⟨_, .inl (A2.at_ .ibo True.intro)⟩, _, rfl, Nat.zero_le _, fun p hp => ⟨_, DGet.k (k := Sum.inl o) ((same_new' hp) _ _ (A2.at_ .ibo True.intro)), ?_⟩⟩
      have s3 := same_new' (o := .lst []) hp
      have key : ∃ q, (valV (D'.os.map fun q => ((Sum.inl q : L2.Key), V.ref (ad'.at_ (.kept q)))) (Sum.inl o)).getD (.ref p) = .ref q ∧ (upd H' p (.lst [])) q = some (.lst (D'.got o)) := by
        rw [valV_os]
        by_cases h : o ∈ D'.os
        · exact ⟨_, by rw [if_pos h]; rfl, s3 _ _ (A2.at_ (.kept o) h)⟩
        · exact ⟨p, by rw [if_neg h]; rfl, by rw [upd_same, A2.ok.got0 o h]⟩
      obtain ⟨q, eq, hq⟩ := key
      rw [eq]
      have I3 := I2.same s3
      generalize upd H' p (.lst []) = H3 at hq I3 ⊢
      refine ⟨_, _, rfl, .inl (.inl (.inl hq)), fun L hL => ⟨_, rfl, ⟨_, .inl (.inl upd_same)⟩, ?_⟩⟩
      have I4 := I3.same (same_new' (o := .lst (D'.got o)) hL)
      have oL : Off (upd H3 L (.lst (D'.got o))) ad' D' L (.lst (D'.got o)) := Off.new I3.g.at_ hL
      have rL : r ≠ L := ne_of_none I3.fnd.at_ hL
      show ∃ W : Nat → Nat → St → Hp → Prop, (∃ m, W 0 m _ (upd H3 L (.lst (D'.got o)))) ∧ _
      generalize upd H3 L (.lst (D'.got o)) = H4 at I4 oL ⊢
      have gl : (D'.got o).length ≤ 20 := Nat.le_trans (LT_len (W2.gotNd o) (wf_got W2 o)) O0.few
      have gnd : (D'.got o).Nodup := W2.gotNd o
      refine for_it (walk_list (xs := D'.got o)) (fun j σ Hj => ∃ x y adj Dj ys ps, σ = [some (.ref (ad.at_ .tab)), some (.int o), some (.ref r), x, y] ∧ FdI b c H ad D r Hj adj Dj ys ps ∧ Off Hj adj Dj L (.lst (D'.got o)) ∧ Dj.got o = (D'.got o).drop j ∧ Dj.ts.asks o = none ∧ ps.length ≤ 40 * (j + 1) ∧
        LT.finish c.M c.U D.ts o = (ps ++ (LT.freeAll c.M c.U o ((D'.got o).drop j) Dj.ts).1, (LT.freeAll c.M c.U o ((D'.got o).drop j) Dj.ts).2)) ?_ (fun j σ Hj hj p => ?_) (fun j v σ Hj Hj' hj p hy => ?_) fun σ Hj p => ?_
      · refine ⟨x, y, ad', D', ys, _, rfl, I4, oL, rfl, ?_, ?_, ?_⟩
        · rw [e2]
          exact (LT.quit_steps W).2
        · unfold LT.quit
          cases ha : D.ts.asks o with
          | none => exact Nat.zero_le _
          | some im => exact serve_len (W.dropAsk ha).1 O0.ul
        · unfold LT.finish
          rw [e2]
          rw [← e2]
          rfl
      · obtain ⟨x, y, adj, Dj, ys, ps, rfl, _, q, _⟩ := p
        exact .inl (.inl q.at_)
      · obtain ⟨x, y, adj, Dj, ys, ps, rfl, Ij, oj, gj, aj, pl, eq⟩ := p
        obtain ⟨rfl, hy⟩ := hy
        have hd : (D'.got o).drop j = v :: (D'.got o).drop (j + 1) := by rw [List.drop_eq_getElem?_toList_append, hy]; rfl
        have hv : v ∈ Dj.got o := by rw [gj, hd]; exact .head _
        have A5 := Ij.g.at_
        have O5 := O0.mono (Go.tups A0 Ij.g)
        have et5 := Ij.g.tab
        have ta5 := A5.at_ .tab True.intro
        rw [et5] at ta5
        refine ⟨_, rfl, .inl ⟨rfl, _, .inl (.inl Ij.fnd.at_)⟩, _, rfl, _, _, _, rfl, ta5, rfl, _, rfl, _, rfl, adj, Dj, o, v, by rw [et5]; rfl, A5, O5, Ij.wf, hv, aj, fun H6 ad6 D6 r6 ys6 g6 e6 nr6 f6 pr6 => ?_⟩
        have W6 : Wf c D6 := by show LT.WF c.U c.J c.B _; rw [e6]; exact LT.freed_wf Ij.wf aj
        have I6 := Ij.go g6 W6
        have z := I6.more pr6
        have l6 : (LT.freed c.M c.U Dj.ts o v).1.length ≤ 40 := serve_len (Ij.wf.unhold aj) O0.ul
        have hj2 : j < 20 := Nat.lt_of_lt_of_le hj gl
        refine ⟨_, _, _, _, rfl, rfl, I6.fnd.at_, f6.at_, ?_, _, _, ad6, D6, _, _, rfl, z, (oj.go g6).upd rL.symm, ?_, ?_, ?_, ?_⟩
        · have l1 := Paired.length pr6
          have l2 := Paired.length I6.prs
          rw [sizeLine_eq]
          omega
        · show D6.ts.got o = _
          rw [e6, LT.freed_got Ij.wf aj]
          show (Dj.got o).erase v = _
          rw [gj, hd]
          simp
        · rw [e6]
          exact LT.freed_asks Ij.wf aj
        · rw [List.length_append]
          omega
        · rw [eq, hd, e6]
          show (ps ++ ((LT.freed c.M c.U Dj.ts o v).1 ++ _), _) = _
          rw [← List.append_assoc]
          rfl
      · obtain ⟨x, y, adj, Dj, ys, ps, rfl, Ij, oj, gj, aj, pl, eq⟩ := p
        rw [List.drop_length] at eq
        have eq : LT.finish c.M c.U D.ts o = (ps, Dj.ts) := by rw [eq]; show (ps ++ [], Dj.ts) = _; rw [List.append_nil]
        exact ⟨_, rfl, k Hj adj Dj r ys Ij.g (by rw [eq]) nr Ij.fnd (by rw [eq]; exact Ij.prs)⟩
end Lk
end
section
set_option maxRecDepth 100000
set_option maxHeartbeats 1000000
/-! What a table tells: holds_of, ask_of. -/
namespace Lk
open PySem L2
open Mx (pe_msetd pe_mget pe_mget2 ps_mput pe_mnew pe_mayLock ps_mayLock pi_itemsN pi_itemsM)

/-- v's data is d, whatever becomes of the things of S -/
def Has (K : PySem.W.Frag) (H : Hp) (S : Addr → Prop) (v : V) (d : PyData) : Prop := ∀ H', (∀ a o, H a = some o → ¬ S a → H' a = some o) → Dp K H' v d
def HasAll (K : PySem.W.Frag) (H : Hp) (S : Addr → Prop) (vs : List V) (ds : List PyData) : Prop := ∀ H', (∀ a o, H a = some o → ¬ S a → H' a = some o) → DpAll K H' vs ds
section
variable {K : PySem.W.Frag} {H H' : Hp} {S S' : Addr → Prop} {v : V} {d : PyData} {vs : List V} {ds : List PyData}
theorem Has.now (h : Has K H S v d) : Dp K H v d := h H fun _ _ e _ => e
theorem Has.aft (h : Has K H S v d) (f : Aft S H S' H') : Has K H' S' v d := fun H2 k => h H2 fun a o e n => k a o (f.keep a o e n) fun z => (f.new a z).elim n fun z => by rw [e] at z; cases z
theorem Has.mono (h : Has K H S v d) (m : ∀ a o, H a = some o → S' a → S a) : Has K H S' v d := fun H2 k => h H2 fun a o e n => k a o e fun z => n (m a o e z)
theorem Has.int (i : Int) : Has K H S (.int i) (.int i) := fun _ _ => .int i
theorem Has.str (x : Str) : Has K H S (.str x) (.str x) := fun _ _ => .str x
theorem Has.non : Has K H S .non .none := fun _ _ => .non
theorem HasAll.nil : HasAll K H S [] [] := fun _ _ => .nil
theorem HasAll.cons (h : Has K H S v d) (t : HasAll K H S vs ds) : HasAll K H S (v :: vs) (d :: ds) := fun H2 k => .cons (h H2 k) (t H2 k)
theorem HasAll.of {α : Type} {F : V → α → Prop} {D : α → PyData} (f : ∀ v x, F v x → Has K H S v (D x)) : ∀ {vs : List V} {xs : List α}, Paired F vs xs → HasAll K H S vs (xs.map D)
  | _, _, .nil => .nil
  | _, _, .cons h t => .cons (f _ _ h) (HasAll.of f t)
theorem HasAll.ints : ∀ l : List Int, HasAll K H S (l.map V.int) (l.map PyData.int)
  | [] => .nil
  | x :: l => .cons (.int x) (HasAll.ints l)
theorem Has.lst {r : Addr} (h : H r = some (.lst vs)) (n : ¬ S r) (a : HasAll K H S vs ds) : Has K H S (.ref r) (.list ds) := fun H2 k => .lst (.inl (.inl (k _ _ h n))) (a H2 k)
theorem Has.tup {r : Addr} (h : H r = some (.tup vs)) (n : ¬ S r) (a : HasAll K H S vs ds) : Has K H S (.ref r) (.tuple ds) := fun H2 k => .tup (.inl (.inl (k _ _ h n))) (a H2 k)
theorem Has.item {k : NestedKey} (h : Mx.KeyV H k v) (n : ∀ a xs, H a = some (.tup xs) → ¬ S a) : Has K H S v (dk k) := by
  cases h with
  | str x => exact .str x
  | tup h => exact .tup h (n _ _ h) (.cons (.str _) (.cons (.int _) .nil))
end
/-- what stood ahead of a doing of the table, or is the table's: all but tuples -/
def Old (H H' : Hp) (ad' : Ad) (D' : Dt) (a : Addr) : Prop := (Own ad' D' a ∨ (H a).isSome = true) ∧ ∀ xs, H' a ≠ some (.tup xs)
theorem Old.tup {H H' : Hp} {ad' : Ad} {D' : Dt} {a : Addr} {xs : List V} (h : H' a = some (.tup xs)) : ¬ Old H H' ad' D' a := fun z => z.2 xs h
theorem Old.new {H H' : Hp} {ad' : Ad} {D' : Dt} {a : Addr} (h : H a = none) (n : ¬ Own ad' D' a) : ¬ Old H H' ad' D' a := fun z => z.1.elim n fun z => by rw [h] at z; cases z

section
variable {J : It} {G : Hp → Prop} {Y : Nat → Hp → V → Hp → Prop} {α β : Type} {xs : List α}
theorem lc_relE (w : Walk J xs.length G Y) {g : TG} {te : TE} {vs : List Nat} {σ : L2.St} {H1 : Hp} {D : Addr} {Qd : Hp → Prop} (S : Hp → Prop) (F : Hp → V → β → Prop) (f : α → β) (hn : xs.length < sizeLine)
    (hF : ∀ H H' y d, Tups H H' → F H y d → F H' y d) (h0 : S (upd H1 D (.lst []))) (hD : ∀ H acc acc', S H → H D = some (.lst acc) → S (upd H D (.lst acc'))) (hG : ∀ H, S H → G H)
    (turn : ∀ i e x H H' (Q : VK), xs[i]? = some e → S H → (∃ acc, H D = some (.lst acc)) → Y i H x H' → (∀ y H4, S H4 → Tups H H4 → H4 D = H D → F H4 y (f e) → Q y H4) → g x (wipe σ vs) H' fun σ2 H2 => wipe σ2 vs = wipe σ vs ∧ te σ2 H2 Q)
    (done : ∀ H ys, S H → H D = some (.lst ys) → Paired (F H) ys (xs.map f) → Qd H) :
    ∃ W : Nat → Nat → Hp → Prop, (∃ m, W 0 m (upd H1 D (.lst []))) ∧ ∀ i m H, W i m H →
      (J.stop i H ∧ Qd H) ∨ (J.go i H ∧ ∃ Nx : Hp → Prop, (∀ H', Nx H' → ∃ m', m' < m ∧ W (i + 1) m' H') ∧ ∀ x H', J.yld i H x H' → g x (wipe σ vs) H' fun σ2 H2 => wipe σ2 vs = wipe σ vs ∧ tYes σ2 H2 fun b H3 =>
        if b = true then te σ2 H3 fun y H4 => ∃ acc, H4 D = some (.lst acc) ∧ acc.length < sizeLine ∧ Nx (upd H4 D (.lst (acc ++ [y]))) else Nx H3) := by
  refine lc_rel (tt := tYes) w S F (fun i => xs[i]?.map f) hn hF h0 hD hG (fun i x H H' Q N hi s hac y q => ?_) fun H ys s e p => done H ys s e (by rw [range_map] at p; exact p)
  have hx : xs[i]? = some xs[i] := List.getElem?_eq_getElem hi
  rw [hx] at q
  exact turn i _ x H H' Q hx s hac y q
/-- .. with a test -/
theorem lc_relF (w : Walk J xs.length G Y) {g : TG} {tt : TT} {te : TE} {vs : List Nat} {σ : L2.St} {H1 : Hp} {D : Addr} {Qd : Hp → Prop} (S : Hp → Prop) (F : Hp → V → β → Prop) (c : α → Bool) (f : α → β) (hn : xs.length < sizeLine)
    (hF : ∀ H H' y d, Tups H H' → F H y d → F H' y d) (h0 : S (upd H1 D (.lst []))) (hD : ∀ H acc acc', S H → H D = some (.lst acc) → S (upd H D (.lst acc'))) (hG : ∀ H, S H → G H)
    (turn : ∀ i e x H H' (Q : VK) (N : Hp → Prop), xs[i]? = some e → S H → (∃ acc, H D = some (.lst acc)) → Y i H x H' → (c e = true → ∀ y H4, S H4 → Tups H H4 → H4 D = H D → F H4 y (f e) → Q y H4) → (c e = false → ∀ H4, S H4 → Tups H H4 → H4 D = H D → N H4) →
      g x (wipe σ vs) H' fun σ2 H2 => wipe σ2 vs = wipe σ vs ∧ tt σ2 H2 fun b H3 => if b = true then te σ2 H3 Q else N H3)
    (done : ∀ H ys, S H → H D = some (.lst ys) → Paired (F H) ys ((xs.filter c).map f) → Qd H) :
    ∃ W : Nat → Nat → Hp → Prop, (∃ m, W 0 m (upd H1 D (.lst []))) ∧ ∀ i m H, W i m H →
      (J.stop i H ∧ Qd H) ∨ (J.go i H ∧ ∃ Nx : Hp → Prop, (∀ H', Nx H' → ∃ m', m' < m ∧ W (i + 1) m' H') ∧ ∀ x H', J.yld i H x H' → g x (wipe σ vs) H' fun σ2 H2 => wipe σ2 vs = wipe σ vs ∧ tt σ2 H2 fun b H3 =>
        if b = true then te σ2 H3 fun y H4 => ∃ acc, H4 D = some (.lst acc) ∧ acc.length < sizeLine ∧ Nx (upd H4 D (.lst (acc ++ [y]))) else Nx H3) := by
  refine lc_rel (tt := tt) w S F (fun i => xs[i]?.bind fun e => if c e = true then some (f e) else none) hn hF h0 hD hG (fun i x H H' Q N hi s hac y q => ?_) fun H ys s e p => done H ys s e (by rw [range_bind, filterMap_if] at p; exact p)
  have hx : xs[i]? = some xs[i] := List.getElem?_eq_getElem hi
  rw [hx] at q
  refine turn i _ x H H' Q N hx s hac y (fun h => ?_) (fun h => ?_)
  · have q : match (if c xs[i] = true then some (f xs[i]) else none) with
      | some d => ∀ y H4, S H4 → Tups H H4 → H4 D = H D → F H4 y d → Q y H4
      | none => ∀ H4, S H4 → Tups H H4 → H4 D = H D → N H4 := q
    rw [if_pos h] at q
    exact q
  · have q : match (if c xs[i] = true then some (f xs[i]) else none) with
      | some d => ∀ y H4, S H4 → Tups H H4 → H4 D = H D → F H4 y d → Q y H4
      | none => ∀ H4, S H4 → Tups H H4 → H4 D = H D → N H4 := q
    rw [if_neg (by rw [h]; simp)] at q
    exact q
end

/-! ### the data that is told -/
abbrev dHold (c : Tc) (ts : LT.TS V Str) (o : Int) (i : V) : PyData := .tuple [dI c.kof i, .str ((ts.held i o).getD "")]
def dHolds (c : Tc) (ts : LT.TS V Str) (o : Int) : PyData := .list ((ts.got o).map (dHold c ts o))
def dAsk (c : Tc) (ts : LT.TS V Str) (o : Int) : PyData := match ts.asks o with
  | none => .none
  | some p => .tuple [dI c.kof p.1, .str p.2]
abbrev spAskOf (b : Bs) (c : Tc) : Sp := fun vs H Q _ => ∃ (ad : Ad) (D : Dt) (o : Int), vs = [.ref (ad.at_ .tab), .int o] ∧ At b.w c H ad D ∧ c.Ok b.K H ∧ Wf c D ∧ o ∈ c.U ∧
  ∀ v, (D.ts.asks o = none → v = .non) → (∀ p, D.ts.asks o = some p → v ≠ .non) → (∀ S : Addr → Prop, (∀ a xs, H a = some (.tup xs) → ¬ S a) → Has b.K H S v (dAsk c D.ts o)) → Q v H
abbrev s_LockTable_ask_of : Stmt := inClass (top 38) 12
abbrev N_LockTable_ask_of : List Str := ["self", "owner"]
abbrev P_LockTable_ask_of : List Str := ["self", "owner"]
theorem sc_LockTable_ask_of : FnScope N_LockTable_ask_of P_LockTable_ask_of (defScope s_LockTable_ask_of) := ⟨rfl, rfl, rfl, by decide +kernel, rfl, by decide +kernel, by decide +kernel⟩
theorem ok_ask_of {b : Bs} {c : Tc} (R : RawM b c.CT "ask_of" "LockTable.ask_of" s_LockTable_ask_of P_LockTable_ask_of) (K : ClsOk b.K c) (T : Tops b) (D_require_owner : Df b 3 "require_owner" P_require_owner spReqOwner) : Mt b 4 c.CT "ask_of" P_LockTable_ask_of (spAskOf b c) := by
  refine R.ok K.cT sc_LockTable_ask_of (fun vs H Q E h => ?_) fun f cdv A outer s H vs Q E hr h => ?_
  · obtain ⟨ad, D, o, rfl, _⟩ := h
    rfl
  · obtain ⟨ad, D, o, rfl, A0, O0, W, hoU, k⟩ := h
    refine ⟨_, (pss_cons (ps_expr (pe_df D_require_owner (hr.mono (by decide)) (pa_cons (pv 1) pa_nil)))
      (pss_one (ps_ret (pe_dget1 (hu_of hr) (pe_fld (pv 0) rfl) (pv 1) ⟨rfl, rfl, rfl, rfl⟩)))), ?_⟩
    refine ⟨_, rfl, o, rfl, O0.u0 o hoU, _, rfl, _, _, _, _, _, rfl, A0.at_ .tab True.intro, K.cT, K.nT _ (by simp), rfl, _, rfl, .inl ⟨_, .inl (A0.at_ .asks True.intro)⟩, _, rfl, _, DGet.k (k := Sum.inl o) (A0.at_ .asks True.intro), ?_⟩
    rw [show valV (D.al.map (ent fun e => V.ref e.1)) (Sum.inl o) = _ from valV_k]
    cases ha : D.ts.asks o with
    | none =>
      rw [asks_none ha]
      refine k _ (fun _ => rfl) (fun p hp => by rw [ha] at hp; cases hp) fun S hS => ?_
      unfold dAsk
      rw [ha]
      exact .non
    | some im =>
      obtain ⟨i, m⟩ := im
      obtain ⟨p, hp⟩ := asks_al ha
      have tp := ask_tup A0 hp
      rw [hp]
      refine k _ (fun h => by rw [ha] at h; cases h) (fun p hp h => by cases h) fun S hS => ?_
      unfold dAsk
      rw [ha]
      exact .tup tp (hS _ _ tp) (.cons (.item (O0.it.key i (W.asksU o i m ha).2) hS) (.cons (.str m) .nil))
theorem its_got {c : Tc} {D : Dt} (W : Wf c D) (ok : D.Ok c) {o : Int} {i : V} (h : i ∈ D.got o) : i ∈ D.its := by
  rcases Classical.em (i ∈ D.its) with g | g
  · exact g
  · have z : (D.md i).lookup o ≠ none := (W.gotIff o i).mp h
    rw [(ok.md0 i g).1] at z
    exact (z rfl).elim
theorem its_asks {c : Tc} {D : Dt} (W : Wf c D) (ok : D.Ok c) {o : Int} {i : V} {m : Str} (h : D.ts.asks o = some (i, m)) : i ∈ D.its := by
  rcases Classical.em (i ∈ D.its) with g | g
  · exact g
  · have z := (W.asksIn o i m h).2
    have z : o ∈ D.cv i ∨ o ∈ D.qu i := z
    rw [(ok.md0 i g).2.1, (ok.md0 i g).2.2] at z
    exact z.elim (fun z => nomatch z) fun z => nomatch z
abbrev spHoldsOf (b : Bs) (c : Tc) : Sp := fun vs H Q _ => ∃ (ad : Ad) (D : Dt) (o : Int), vs = [.ref (ad.at_ .tab), .int o] ∧ At b.w c H ad D ∧ c.Ok b.K H ∧ Wf c D ∧ o ∈ c.U ∧
  ∀ H' ad' v, Go b.w c H ad D H' ad' D → Has b.K H' (Old H H' ad' D) v (dHolds c D.ts o) → Q v H'
/-- where the items of o are read: its own list, or a new one -/
def Src (o : Int) (q : Addr) (H : Hp) (ad : Ad) (D : Dt) : Prop := Off H ad D q (.lst (D.got o)) ∨ (q = ad.at_ (.kept o) ∧ o ∈ D.os)
theorem Src.at_ {w : World} {c : Tc} {o : Int} {q : Addr} {H : Hp} {ad : Ad} {D : Dt} (s : Src o q H ad D) (A : At w c H ad D) : H q = some (.lst (D.got o)) := s.elim (fun h => h.at_) fun ⟨h, e⟩ => by rw [h]; exact A.at_ (.kept o) e
theorem Src.go {w : World} {c : Tc} {o : Int} {q : Addr} {H H' : Hp} {ad ad' : Ad} {D : Dt} (s : Src o q H ad D) (g : Go w c H ad D H' ad' D) : Src o q H' ad' D := s.imp (fun h => h.go g) fun ⟨h, e⟩ => ⟨h.trans (g.pl (.kept o) e).symm, e⟩
abbrev FHold (H : Hp) (y : V) (e : V × Str) : Prop := ∃ p, y = .ref p ∧ H p = some (.tup [e.1, .str e.2])
abbrev s_LockTable_holds_of : Stmt := inClass (top 38) 9
abbrev N_LockTable_holds_of : List Str := ["self", "owner", "item"]
abbrev P_LockTable_holds_of : List Str := ["self", "owner"]
theorem sc_LockTable_holds_of : FnScope N_LockTable_holds_of P_LockTable_holds_of (defScope s_LockTable_holds_of) := ⟨rfl, rfl, rfl, by decide +kernel, rfl, by decide +kernel, by decide +kernel⟩
theorem ok_holds_of {b : Bs} {c : Tc} (R : RawM b c.CT "holds_of" "LockTable.holds_of" s_LockTable_holds_of P_LockTable_holds_of) (K : ClsOk b.K c) (T : Tops b) (D_require_owner : Df b 3 "require_owner" P_require_owner spReqOwner) (D_spot_of : Mt b 3 c.CT "spot_of" P_LockTable_spot_of (spSpotOf b c)) :
    Mt b 4 c.CT "holds_of" P_LockTable_holds_of (spHoldsOf b c) := by
  refine R.ok K.cT sc_LockTable_holds_of (fun vs H Q E h => ?_) fun f cdv A outer s H vs Q E hr h => ?_
  · obtain ⟨ad, D, o, rfl, _⟩ := h
    rfl
  · obtain ⟨ad, D, o, rfl, A0, O0, W, hoU, k⟩ := h
    refine ⟨_, (pss_cons (ps_expr (pe_df D_require_owner (hr.mono (by decide)) (pa_cons (pv 1) pa_nil)))
      (pss_one (ps_ret (pe_lcB (own := [("item", 2)]) rfl sc_LockTable_holds_of.nd (pi_list (pe_dget2 (hu_of hr) (pe_fld (pv 0) rfl) (pv 1) (pe_lst pa_nil) ⟨rfl, rfl, rfl, rfl⟩)) (blkOk_by (own := [("item", 2)]) (N := N_LockTable_holds_of) (sc := defScope s_LockTable_holds_of) (by decide +kernel)) (fun _ _ _ _ _ => (pg_name (i := 2) sc_LockTable_holds_of.nd rfl (Or.inl rfl))) (fun _ _ _ _ _ => pts_nil) (fun _ _ _ _ _ => (pe_tup (pa_cons (pv 2) (pa_cons (pe_dget (hu_of hr) (pe_fld (pe_mtd D_spot_of (pv 0) (hr.mono (by decide)) (pa_cons (pv 2) pa_nil)) rfl) (pv 1) (fun _ _ => rfl)) pa_nil)))))))), ?_⟩
    refine ⟨_, rfl, o, rfl, O0.u0 o hoU, _, rfl, _, _, _, _, _, rfl, A0.at_ .tab True.intro, K.cT, K.nT _ (by simp), rfl, _, rfl, .inl ⟨_, .inl (A0.at_ .ibo True.intro)⟩, _, rfl, Nat.zero_le _, fun p hp => ⟨_, DGet.k (k := Sum.inl o) ((same_new' hp) _ _ (A0.at_ .ibo True.intro)), ?_⟩⟩
    have s3 := same_new' (o := .lst []) hp
    have key : ∃ q, (valV (D.os.map fun q => ((Sum.inl q : L2.Key), V.ref (ad.at_ (.kept q)))) (Sum.inl o)).getD (.ref p) = .ref q ∧ Src o q (upd H p (.lst [])) ad D := by
      rw [valV_os]
      by_cases h : o ∈ D.os
      · exact ⟨_, by rw [if_pos h]; rfl, .inr ⟨rfl, h⟩⟩
      · exact ⟨p, by rw [if_neg h]; rfl, .inl ⟨by rw [upd_same, A0.ok.got0 o h], off_new A0 hp⟩⟩
    obtain ⟨q, eq, src⟩ := key
    have g3 : Go b.w c H ad D (upd H p (.lst [])) ad D := Go.same A0 s3
    have hq := src.at_ g3.at_
    rw [eq]
    have gl : (D.got o).length ≤ 20 := Nat.le_trans (LT_len (W.gotNd o) (wf_got W o)) O0.few
    refine ⟨_, rfl, ⟨_, .inl (.inl hq)⟩, fun L hL => ?_⟩
    have nL : H L = none := none_same s3 hL
    have qL : q ≠ L := ne_of_none hq hL
    refine lc_relE (walk_list (xs := D.got o)) (fun Hx => ∃ adx, Go b.w c H ad D Hx adx D ∧ ¬ Own adx D L ∧ Src o q Hx adx D) FHold (fun i => (i, (D.ts.held i o).getD "")) (by rw [sizeLine_eq]; omega) (fun Ha Hb y d t ⟨x, h1, h2⟩ => ⟨x, h1, t _ _ h2⟩) ?_ (fun Hx acc acc' h e => ?_) (fun Hx h => ?_) (fun j e x Hx Hx' Q' he h hac hy k' => ?_) (fun Hx ys h e pr => ?_)
    · refine ⟨ad, g3.then_ (same_new' hL), off_new g3.at_ hL, ?_⟩
      exact src.imp (fun h => h.same (same_new' hL)) id
    · obtain ⟨adx, gx, nx, sx⟩ := h
      refine ⟨adx, gx.mine nL ⟨e, nx⟩ lst_ne, nx, ?_⟩
      exact sx.imp (fun h => h.upd qL) id
    · obtain ⟨adx, gx, nx, sx⟩ := h
      exact .inl (.inl (sx.at_ gx.at_))
    · obtain ⟨adx, gx, nx, sx⟩ := h
      obtain ⟨rfl, hy⟩ := hy
      rw [he] at hy
      cases hy
      obtain ⟨acc, hac⟩ := hac
      have hg := List.mem_of_getElem? he
      have hJ := wf_got W o e hg
      have hits := its_got W A0.ok hg
      have Ax := gx.at_
      have Ox := O0.mono (Go.tups A0 gx)
      have etx := gx.tab
      have tax := Ax.at_ .tab True.intro
      rw [etx] at tax
      refine ⟨rfl, _, rfl, _, rfl, _, _, _, rfl, tax, rfl, _, rfl, adx, D, e, by rw [etx]; rfl, Ax, Ox, hJ, fun H4 ad4 A4 f4 p4 => ?_⟩
      have g4 : Go b.w c Hx' adx D H4 ad4 (D.add e) := ⟨A4, f4, p4, fun t => add_dom⟩
      rw [add_old hits] at g4 A4
      obtain ⟨m, hm⟩ : ∃ m, (D.md e).lookup o = some m := by
        have z : (D.md e).lookup o ≠ none := (W.gotIff o e).mp hg
        cases e2 : (D.md e).lookup o with
        | none => exact (z e2).elim
        | some m => exact ⟨m, rfl⟩
      have hts : D.ts.held e o = some m := hm
      have dg : DGet H4 (ad4.at_ (.md e)) (.int o) (some (.str m)) := by
        refine .inl ⟨_, Sum.inl o, .inl (A4.at_ (.md e) hits), rfl, ?_⟩
        show _ = valV ((D.md e).map (ent V.str)) (Sum.inl o)
        rw [valV_k, hm]
        rfl
      refine ⟨_, _, _, _, _, rfl, A4.at_ (.sp e) hits, K.cS, K.nS _ (by simp), rfl, _, rfl, _, _, rfl, dg, two_le, fun t ht => ?_⟩
      obtain ⟨l4, n4⟩ := g4.off hac nx
      refine k' _ _ ⟨ad4, (gx.trans g4).then_ (same_new' ht), n4, ?_⟩ (Tups.trans (Go.tups Ax g4) (Same.tups (same_new' ht))) ?_ ⟨t, rfl, by rw [upd_same, hts]; rfl⟩
      · exact (sx.go g4).imp (fun h => h.same (same_new' ht)) id
      · rw [upd_ne (ne_of_none l4 ht), l4, hac]
    · obtain ⟨adx, gx, nx, sx⟩ := h
      refine k Hx adx _ gx ?_
      have O2 := O0.mono (Go.tups A0 gx)
      have z : (D.ts.got o).map (dHold c D.ts o) = ((D.got o).map fun i => (i, (D.ts.held i o).getD "")).map fun e => .tuple [dI c.kof e.1, .str e.2] := by rw [List.map_map]; rfl
      unfold dHolds
      rw [z]
      refine .lst e (Old.new nL nx) ?_
      have key : ∀ (ys : List V) (xs : List (V × Str)), (∀ e ∈ xs, e.1 ∈ c.J) → Paired (FHold Hx) ys xs → HasAll b.K Hx (Old H Hx adx D) ys (xs.map fun e => .tuple [dI c.kof e.1, .str e.2]) := by
        intro ys xs hx pr
        induction pr with
        | nil => exact .nil
        | cons h t ih =>
          obtain ⟨p, rfl, hp⟩ := h
          exact .cons (.tup hp (Old.tup hp) (.cons (.item (O2.it.key _ (hx _ (.head _))) fun a xs h => Old.tup h) (.cons (.str _) .nil))) (ih fun e he => hx e (.tail _ he))
      exact key ys _ (fun e he => by obtain ⟨i, hi, rfl⟩ := List.mem_map.mp he; exact wf_got W o i hi) pr
end Lk
end
section
set_option maxRecDepth 100000
set_option maxHeartbeats 1000000
/-! holders_at, waiters_at. -/
namespace Lk
open PySem L2
open Mx (pe_msetd pe_mget pe_mget2 ps_mput pe_mnew pe_mayLock ps_mayLock pi_itemsN pi_itemsM)

/-- two rising lists of the same things are one -/
theorem sorted_eq {α : Type} (k : α → Int) : ∀ {l m : List α}, l.Pairwise (fun a b => k a < k b) → m.Pairwise (fun a b => k a < k b) → (∀ x, x ∈ l ↔ x ∈ m) → l = m
  | [], [], _, _, _ => rfl
  | [], b :: m, _, _, h => nomatch (h b).mpr (.head _)
  | a :: l, [], _, _, h => nomatch (h a).mp (.head _)
  | a :: l, b :: m, hl, hm, h => by
    obtain ⟨l1, l2⟩ := List.pairwise_cons.mp hl
    obtain ⟨m1, m2⟩ := List.pairwise_cons.mp hm
    have e : a = b := by
      rcases List.mem_cons.mp ((h a).mp (.head _)) with e | ha
      · exact e
      · rcases List.mem_cons.mp ((h b).mpr (.head _)) with e | hb
        · exact e.symm
        · have := l1 b hb
          have := m1 a ha
          omega
    subst e
    rw [sorted_eq k l2 m2 fun x => ⟨fun hx => ?_, fun hx => ?_⟩]
    · rcases List.mem_cons.mp ((h x).mp (.tail _ hx)) with e | g
      · subst e; have := l1 x hx; omega
      · exact g
    · rcases List.mem_cons.mp ((h x).mpr (.tail _ hx)) with e | g
      · subst e; have := m1 x hx; omega
      · exact g
/-- rising, and no key twice -/
theorem strict_of {α : Type} (k : α → Int) {l : List α} (h : l.Pairwise (fun a b => k a ≤ k b)) (n : (l.map k).Nodup) : l.Pairwise (fun a b => k a < k b) := by
  rw [List.Nodup, List.pairwise_map] at n
  exact (h.and n).imp fun ⟨a, b⟩ => by omega
abbrev dPr (e : Int × Str) : PyData := .tuple [.int e.1, .str e.2]
def holdersL (c : Tc) (ts : LT.TS V Str) (i : V) : List (Int × Str) := c.U.filterMap fun o => (ts.held i o).map fun m => (o, m)
def dHolders (c : Tc) (ts : LT.TS V Str) (i : V) : PyData := .list ((holdersL c ts i).map dPr)
def dWaiters (c : Tc) (ts : LT.TS V Str) (i : V) : PyData := .list (((ts.conv i ++ ts.queue i).map fun o => ((o, ((ts.asks o).map (·.2)).getD "") : Int × Str)).map dPr)
theorem holders_sorted {c : Tc} {K : PySem.W.Frag} {H : Hp} {D : Dt} {i : V} {es : List (Int × Str)} (O : c.Ok K H) (W : Wf c D) (ok : D.Ok c) (pm : es.Perm (D.md i)) (st : es.Pairwise fun e f => e.1 ≤ f.1) : es = holdersL c D.ts i := by
  refine sorted_eq (fun e => e.1) (strict_of (fun e : Int × Str => e.1) st ((pm.map (fun e => e.1)).nodup_iff.mpr (ok.mdn i))) ?_ fun x => ?_
  · unfold holdersL
    rw [List.pairwise_filterMap]
    refine O.srt.imp fun {a b} h x hx y hy => ?_
    cases e1 : D.ts.held i a with
    | none => rw [e1] at hx; cases hx
    | some m =>
      cases e2 : D.ts.held i b with
      | none => rw [e2] at hy; cases hy
      | some m' =>
        rw [e1] at hx
        rw [e2] at hy
        cases hx
        cases hy
        exact h
  · rw [pm.mem_iff]
    unfold holdersL
    rw [List.mem_filterMap]
    have e : D.ts.held i x.1 = (D.md i).lookup x.1 := rfl
    constructor
    · intro h
      have z := (lookup_mem (ok.mdn i)).mpr (show (x.1, x.2) ∈ D.md i from h)
      exact ⟨x.1, (wf_hin W ok i x h).1, by rw [e, z]; rfl⟩
    · rintro ⟨o, ho, h⟩
      cases e1 : D.ts.held i o with
      | none => rw [e1] at h; cases h
      | some m =>
        rw [e1] at h
        cases h
        exact (lookup_mem (ok.mdn i)).mp e1
/-- pairs of an int and a text, each a tuple -/
abbrev FIs (H : Hp) (y : V) (e : Int × Str) : Prop := ∃ p, y = .ref p ∧ H p = some (.tup [.int e.1, .str e.2])
theorem hasAll_FIs {K : PySem.W.Frag} {H H0 : Hp} {ad : Ad} {D : Dt} {ys : List V} {es : List (Int × Str)} (h : Paired (FIs H) ys es) : HasAll K H (Old H0 H ad D) ys (es.map dPr) :=
  HasAll.of (fun _ e ⟨p, h1, h2⟩ => by rw [h1]; exact .tup h2 (Old.tup h2) (.cons (.int _) (.cons (.str _) .nil))) h
abbrev spHoldersAt (b : Bs) (c : Tc) : Sp := fun vs H Q _ => ∃ (ad : Ad) (D : Dt) (i : V), vs = [.ref (ad.at_ .tab), i] ∧ At b.w c H ad D ∧ c.Ok b.K H ∧ Wf c D ∧ i ∈ c.J ∧
  ∀ H' ad' v, Go b.w c H ad D H' ad' (D.add i) → Has b.K H' (Old H H' ad' (D.add i)) v (dHolders c D.ts i) → Q v H'
abbrev s_LockTable_holders_at : Stmt := inClass (top 38) 10
abbrev N_LockTable_holders_at : List Str := ["self", "item"]
abbrev P_LockTable_holders_at : List Str := ["self", "item"]
theorem sc_LockTable_holders_at : FnScope N_LockTable_holders_at P_LockTable_holders_at (defScope s_LockTable_holders_at) := ⟨rfl, rfl, rfl, by decide +kernel, rfl, by decide +kernel, by decide +kernel⟩
theorem ok_holders_at {b : Bs} {c : Tc} (R : RawM b c.CT "holders_at" "LockTable.holders_at" s_LockTable_holders_at P_LockTable_holders_at) (K : ClsOk b.K c) (T : Tops b) (D_require_item : Df b 3 "require_item" P_require_item spReqItem) (D_spot_of : Mt b 3 c.CT "spot_of" P_LockTable_spot_of (spSpotOf b c)) :
    Mt b 4 c.CT "holders_at" P_LockTable_holders_at (spHoldersAt b c) := by
  refine R.ok K.cT sc_LockTable_holders_at (fun vs H Q E h => ?_) fun f cdv A outer s H vs Q E hr h => ?_
  · obtain ⟨ad, D, i, rfl, _⟩ := h
    rfl
  · obtain ⟨ad, D, i, rfl, A0, O0, W, hJ, k⟩ := h
    refine ⟨_, (pss_cons (ps_expr (pe_df D_require_item (hr.mono (by decide)) (pa_cons (pv 1) pa_nil)))
      (pss_one (ps_ret (pe_callB (Ru.cr_sortedI rfl hr.units) (by rfl) T.b_sorted (by decide +kernel) (pa_cons (pe_bm0 PySem.F.plainAttrs_dict PySem.F.slot_dict_items PySem.F.type_dict_items Ru.mt_itemsK (pe_fld (pe_mtd D_spot_of (pv 0) (hr.mono (by decide)) (pa_cons (pv 1) pa_nil)) rfl)) pa_nil))))), ?_⟩
    refine ⟨_, rfl, i, rfl, O0.iv i hJ, fun Ha sa => ?_⟩
    have A1 := A0.same sa
    have O1 := O0.mono (Same.tups sa)
    refine ⟨_, rfl, _, _, _, rfl, A1.at_ .tab True.intro, rfl, _, rfl, ad, D, i, rfl, A1, O1, hJ, fun H1 ad1 A2 f1 p1 => ?_⟩
    have g1 : Go b.w c Ha ad D H1 ad1 (D.add i) := ⟨A2, f1, p1, fun t => add_dom⟩
    have g2 := (Go.same A0 sa).trans g1
    have md := A2.at_ (.md i) (add_mem D i)
    refine ⟨_, _, _, _, _, rfl, A2.at_ (.sp i) (add_mem D i), K.cS, K.nS _ (by simp), rfl, .inr (.inr (.inl ⟨rfl, .inl ⟨_, md⟩⟩)), _, _, rfl, rfl, md, fun p hp => ?_⟩
    have s3 := same_new' (o := L2.DX.itemsO p (ad1.at_ (.md i))) hp
    refine ⟨p, _, D.md i, rfl, upd_same, s3 _ _ md, A0.ok.mdn i, fun H' l ps s4 nl pm st hl ht => ?_⟩
    have g3 := g2.then_ (Same.trans s3 s4)
    have nl1 : H1 l = none := none_same s3 nl
    have nl0 : H l = none := g2.none_ A0 nl1
    have fr : ¬ Own ad1 (D.add i) l := off_new A2 nl1
    refine k H' ad1 (.ref l) g3 ?_
    have e := holders_sorted O0 W A0.ok pm st
    unfold dHolders
    rw [← e]
    refine .lst hl (Old.new nl0 fr) (hasAll_FIs ?_)
    have key : ∀ (ps : List (Addr × Int × Str)), (∀ z ∈ ps, H' z.1 = some (.tup [.int z.2.1, .str z.2.2])) → Paired (FIs H') (ps.map fun z => V.ref z.1) (ps.map (·.2)) := by
      intro ps
      induction ps with
      | nil => exact fun _ => .nil
      | cons z ps ih => exact fun h => .cons ⟨z.1, rfl, h z (.head _)⟩ (ih fun y hy => h y (.tail _ hy))
    exact key ps ht
abbrev spWaitersAt (b : Bs) (c : Tc) : Sp := fun vs H Q _ => ∃ (ad : Ad) (D : Dt) (i : V), vs = [.ref (ad.at_ .tab), i] ∧ At b.w c H ad D ∧ c.Ok b.K H ∧ Wf c D ∧ i ∈ c.J ∧
  ∀ H' ad' v, Go b.w c H ad D H' ad' (D.add i) → Has b.K H' (Old H H' ad' (D.add i)) v (dWaiters c D.ts i) → Q v H'
abbrev s_LockTable_waiters_at : Stmt := inClass (top 38) 11
abbrev N_LockTable_waiters_at : List Str := ["self", "item", "spot", "owner"]
abbrev P_LockTable_waiters_at : List Str := ["self", "item"]
theorem sc_LockTable_waiters_at : FnScope N_LockTable_waiters_at P_LockTable_waiters_at (defScope s_LockTable_waiters_at) := ⟨rfl, rfl, rfl, by decide +kernel, rfl, by decide +kernel, by decide +kernel⟩
theorem ok_waiters_at {b : Bs} {c : Tc} (R : RawM b c.CT "waiters_at" "LockTable.waiters_at" s_LockTable_waiters_at P_LockTable_waiters_at) (K : ClsOk b.K c) (T : Tops b) (D_require_item : Df b 3 "require_item" P_require_item spReqItem) (D_spot_of : Mt b 3 c.CT "spot_of" P_LockTable_spot_of (spSpotOf b c)) :
    Mt b 4 c.CT "waiters_at" P_LockTable_waiters_at (spWaitersAt b c) := by
  refine R.ok K.cT sc_LockTable_waiters_at (fun vs H Q E h => ?_) fun f cdv A outer s H vs Q E hr h => ?_
  · obtain ⟨ad, D, i, rfl, _⟩ := h
    rfl
  · obtain ⟨ad, D, i, rfl, A0, O0, W, hJ, k⟩ := h
    refine ⟨_, (pss_cons (ps_expr (pe_df D_require_item (hr.mono (by decide)) (pa_cons (pv 1) pa_nil)))
      (pss_cons (ps_set (i := 2) sc_LockTable_waiters_at.nd rfl (Or.inl rfl) (pe_mtd D_spot_of (pv 0) (hr.mono (by decide)) (pa_cons (pv 1) pa_nil)))
      (pss_one (ps_ret (pe_lcB (own := [("owner", 3)]) rfl sc_LockTable_waiters_at.nd (pi_list (pe_op op_cat (pe_fld (pv 2) rfl) (pe_fld (pv 2) rfl))) (blkOk_by (own := [("owner", 3)]) (N := N_LockTable_waiters_at) (sc := defScope s_LockTable_waiters_at) (by decide +kernel)) (fun _ _ _ _ _ => (pg_name (i := 3) sc_LockTable_waiters_at.nd rfl (Or.inl rfl))) (fun _ _ _ _ _ => pts_nil) (fun _ _ _ _ _ => (pe_tup (pa_cons (pv 3) (pa_cons (pe_ix ix_tup (pe_dget (hu_of hr) (pe_fld (pv 0) rfl) (pv 3) (fun _ _ => rfl)) pe_int (fun _ _ => rfl)) pa_nil))))))))), ?_⟩
    refine ⟨_, rfl, i, rfl, O0.iv i hJ, fun Ha sa => ?_⟩
    have A1 := A0.same sa
    have O1 := O0.mono (Same.tups sa)
    refine ⟨_, rfl, _, _, _, rfl, A1.at_ .tab True.intro, rfl, _, rfl, ad, D, i, rfl, A1, O1, hJ, fun H1 ad1 A2 f1 p1 => ?_⟩
    have g1 : Go b.w c Ha ad D H1 ad1 (D.add i) := ⟨A2, f1, p1, fun t => add_dom⟩
    have g2 := (Go.same A0 sa).trans g1
    have et := g2.tab
    have sp2 := A2.at_ (.sp i) (add_mem D i)
    have cv2 := A2.at_ (.cv i) (add_mem D i)
    have qu2 := A2.at_ (.qu i) (add_mem D i)
    have cl : (D.cv i).length ≤ 20 := wf_q (W.convNd i) (wf_cv W i) O0.ul
    have ql : (D.qu i).length ≤ 20 := wf_q (W.queueNd i) (wf_qu W i) O0.ul
    refine ⟨_, rfl, _, _, _, _, _, rfl, sp2, K.cS, K.nS _ (by simp), rfl, _, rfl, _, _, _, _, _, rfl, sp2, K.cS, K.nS _ (by simp), rfl, _, _, _, _, rfl, rfl, cv2, qu2, ?_, fun p hp => ⟨_, rfl, ⟨_, .inl (.inl upd_same)⟩, fun L hL => ?_⟩⟩
    · rw [List.length_map, List.length_map, sizeLine_eq]
      show (D.cv i).length + (D.qu i).length ≤ _
      omega
    · have s3 := same_new' (o := .lst ((D.cv i).map V.int ++ (D.qu i).map V.int)) hp
      have hL : (upd H1 p (.lst ((D.cv i).map V.int ++ (D.qu i).map V.int))) L = none := hL
      have ap : (upd H1 p (.lst ((D.cv i).map V.int ++ (D.qu i).map V.int))) p = some (.lst ((D.cv i ++ D.qu i).map V.int)) := by rw [upd_same, List.map_append]
      have tb := s3 _ _ (A2.at_ .tab True.intro)
      rw [et] at tb
      have A3 := A2.same s3
      show ∃ W : Nat → Nat → Hp → Prop, (∃ m, W 0 m (upd (upd H1 p (.lst ((D.cv i).map V.int ++ (D.qu i).map V.int))) L _)) ∧ _
      generalize upd H1 p (.lst ((D.cv i).map V.int ++ (D.qu i).map V.int)) = H3 at s3 ap tb A3 hL ⊢
      have w := walk_list (K := b.K) (a := p) (xs := (D.cv i ++ D.qu i).map V.int)
      rw [List.length_map] at w
      refine lc_relE (xs := D.cv i ++ D.qu i) w (fun Hx => Same H3 Hx) FIs (fun o => (o, ((D.ts.asks o).map (·.2)).getD "")) (by rw [List.length_append, sizeLine_eq]; omega) (fun Ha Hb y d t ⟨x, h1, h2⟩ => ⟨x, h1, t _ _ h2⟩) (same_new' hL) (fun Hx acc acc' h e => same_at hL h) (fun Hx h => .inl (.inl (h _ _ ap))) (fun j o x Hx Hx' Q' he h hac hy k' => ?_) (fun Hx ys h e pr => ?_)
      · obtain ⟨rfl, hy⟩ := hy
        rw [List.getElem?_map, he] at hy
        cases hy
        obtain ⟨acc, hac⟩ := hac
        obtain ⟨m, hm⟩ : ∃ m, D.ts.asks o = some (i, m) := by
          rcases List.mem_append.mp (List.mem_of_getElem? he) with z | z
          · exact (W.convAsk o i z).1
          · exact (W.queueAsk o i z).1
        obtain ⟨q, hq⟩ := asks_al hm
        have Ax := A3.same h
        have hq' : (D.add i).al.lookup o = some (q, i, m) := hq
        refine ⟨rfl, _, rfl, _, rfl, _, _, _, _, _, rfl, h _ _ tb, K.cT, K.nT _ (by simp), rfl, _, rfl, _, _, rfl, dget_asks Ax hq', q, _, 1, _, rfl, rfl, .inl (.inl (ask_tup Ax hq')), rfl, two_le, fun t ht => ?_⟩
        refine k' _ _ (Same.trans h (same_new' ht)) (Same.tups (same_new' ht)) (by rw [upd_ne (ne_of_none hac ht)]) ⟨t, rfl, by rw [upd_same, hm]; rfl⟩
      · have nL1 : H1 L = none := none_same s3 hL
        refine k Hx ad1 _ (g2.then_ (Same.trans s3 h)) ?_
        exact .lst e (Old.new (g2.none_ A0 nL1) (off_new A2 nL1)) (hasAll_FIs pr)
end Lk
end
section
set_option maxRecDepth 100000
set_option maxHeartbeats 1000000
/-! waits_for. -/
namespace Lk
open PySem L2
open Mx (pe_msetd pe_mget pe_mget2 ps_mput pe_mnew pe_mayLock ps_mayLock pi_itemsN pi_itemsM fresh_dK)

/-- a dict of ints to True, as the list of its keys -/
abbrev tr (ks : List Int) : List (L2.Key × V) := ks.map fun k => (Sum.inl k, V.bl true)
def ins (ks : List Int) (k : Int) : List Int := if k ∈ ks then ks else ks ++ [k]
def insAll (ks l : List Int) : List Int := l.foldl ins ks
theorem put_tr (ks : List Int) (k : Int) : putK (tr ks) (Sum.inl k) (.bl true) = tr (ins ks k) := by
  unfold putK ins
  have e : ((tr ks).any fun kv => decide (kv.1 = Sum.inl k)) = decide (k ∈ ks) := by
    rw [List.any_map]
    by_cases h : k ∈ ks
    · rw [decide_eq_true h, List.any_eq_true]
      exact ⟨k, h, by simp⟩
    · rw [decide_eq_false h, List.any_eq_false]
      intro x hx z
      have z : decide ((Sum.inl x : L2.Key) = Sum.inl k) = true := z
      have z := of_decide_eq_true z
      injection z with z
      exact h (z ▸ hx)
  rw [e]
  by_cases h : k ∈ ks
  · rw [decide_eq_true h, if_pos rfl, if_pos h, List.map_map]
    refine List.map_congr_left fun x _ => ?_
    show (if (Sum.inl x : L2.Key) = Sum.inl k then _ else _) = _
    split <;> rfl
  · rw [decide_eq_false h, if_neg (by simp), if_neg h]
    show List.map _ ks ++ [_] = List.map _ (ks ++ [k])
    rw [List.map_append]
    rfl
theorem mem_ins {ks : List Int} {k x : Int} : x ∈ ins ks k ↔ x ∈ ks ∨ x = k := by
  unfold ins
  by_cases h : k ∈ ks
  · rw [if_pos h]
    exact ⟨.inl, fun z => z.elim id fun e => e ▸ h⟩
  · rw [if_neg h, List.mem_append, List.mem_singleton]
theorem nodup_ins {ks : List Int} {k : Int} (n : ks.Nodup) : (ins ks k).Nodup := by
  unfold ins
  by_cases h : k ∈ ks
  · rw [if_pos h]; exact n
  · rw [if_neg h, List.nodup_append]
    exact ⟨n, by simp, fun a ha b hb e => h (by rw [← List.mem_singleton.mp hb, ← e]; exact ha)⟩
theorem mem_insAll {x : Int} : ∀ {l ks : List Int}, x ∈ insAll ks l ↔ x ∈ ks ∨ x ∈ l
  | [], ks => ⟨.inl, fun z => z.elim id fun z => nomatch z⟩
  | y :: l, ks => by
    show x ∈ insAll (ins ks y) l ↔ _
    rw [mem_insAll, mem_ins, List.mem_cons, or_assoc]
theorem nodup_insAll : ∀ {l ks : List Int}, ks.Nodup → (insAll ks l).Nodup
  | [], _, n => n
  | y :: l, ks, n => nodup_insAll (l := l) (ks := ins ks y) (nodup_ins n)
theorem merge_tr : ∀ (l ks : List Int), mergeK (tr ks) (tr l) = tr (insAll ks l)
  | [], _ => rfl
  | y :: l, ks => by
    show mergeK (putK (tr ks) (Sum.inl y) (.bl true)) (tr l) = _
    rw [put_tr, merge_tr l]
    rfl
theorem len_insAll : ∀ (l ks : List Int), (insAll ks l).length ≤ ks.length + l.length
  | [], _ => Nat.le_refl _
  | y :: l, ks => by
    have h := len_insAll l (ins ks y)
    have h2 : (ins ks y).length ≤ ks.length + 1 := by
      unfold ins
      split
      · exact Nat.le_succ _
      · simp
    show (insAll (ins ks y) l).length ≤ _
    rw [List.length_cons]
    omega
theorem cut_to (xs : List V) {k : Nat} (h : k ≤ xs.length) : cutV xs none (some (k : Int)) = xs.take k := by
  unfold cutV
  rw [HT.sIx_none, HT.sIx_nat, List.drop_zero, Nat.min_eq_left h, Nat.sub_zero]
theorem takeWhile_place {o : Int} : ∀ {l : List Int} {j : Nat}, l[j]? = some o → (∀ m : Nat, m < j → l[m]? ≠ some o) → l.takeWhile (fun q => decide (q ≠ o)) = l.take j
  | [], _, h, _ => by simp at h
  | x :: l, 0, h, _ => by
    have e : x = o := by simpa using h
    rw [List.takeWhile_cons, e]
    simp
  | x :: l, j + 1, h, n => by
    have hx : x ≠ o := fun e => n 0 (Nat.succ_pos _) (by rw [e]; rfl)
    rw [List.takeWhile_cons, decide_eq_true hx, if_pos rfl, List.take_succ_cons, takeWhile_place (l := l) (j := j) h fun m hm => n (m + 1) (by omega)]
/-- all but one thing stands -/
def But (f : Addr) (H H' : Hp) : Prop := ∀ b o, H b = some o → b ≠ f → H' b = some o
theorem Go.but {w : World} {c : Tc} {H H1 H2 : Hp} {ad ad1 : Ad} {D D1 : Dt} {f : Addr} {u : HO} (g : Go w c H ad D H1 ad1 D1) (n : H f = none) (x : Off H1 ad1 D1 f u) (hu : ∀ xs, u ≠ .tup xs) (k : But f H1 H2) : Go w c H ad D H2 ad1 D1 :=
  ⟨⟨fun t ht => k _ _ (g.at_.at_ t ht) fun e => x.no ⟨t, ht, e⟩, g.at_.inj, fun e he => k _ _ (g.at_.ask e he) fun z => by
      have y := g.at_.ask e he
      rw [z, x.at_] at y
      exact hu _ (Option.some.inj y), g.at_.ok⟩, ⟨fun b o e ns => k b o (g.aft.keep b o e ns) (ne_of_none e n), g.aft.new⟩, g.pl, g.dm⟩
theorem But.trans {f : Addr} {H H1 H2 : Hp} (a : But f H H1) (b : But f H1 H2) : But f H H2 := fun x o e n => b x o (a x o e n) n
theorem But.same {f : Addr} {H H1 : Hp} (s : Same H H1) : But f H H1 := fun b o e _ => s b o e
theorem But.upd {f : Addr} {H : Hp} {o : HO} : But f H (upd H f o) := fun b u e n => by rw [upd_ne n]; exact e
theorem But.tups {f : Addr} {H H1 : Hp} {u : HO} (k : But f H H1) (h : H f = some u) (hu : ∀ xs, u ≠ .tup xs) : Tups H H1 := fun b xs e => k b _ e fun z => by rw [z, h] at e; exact hu _ (Option.some.inj e)
theorem but_unlock {H H' : Hp} {f d : Addr} {od : Obj} {u : HO} (h : H d = some u) (s : But f (L2.upd H d (.frz od u)) H') : But f H (L2.upd H' d u) := fun b o e n => by
  by_cases hb : b = d
  · subst hb
    rw [h] at e
    cases e
    exact upd_same
  · rw [upd_ne hb]
    exact s b o (by rw [upd_ne hb]; exact e) n
section
variable {c : Tc} {D : Dt} {K : PySem.W.Frag} {H : Hp}
theorem waits_none (W : Wf c D) {o : Int} (h : D.ts.asks o = none) : LT.waitsFor c.M c.U D.ts o = [] := by
  rw [List.eq_nil_iff_forall_not_mem]
  intro b z
  obtain ⟨i, m, e, _⟩ := (LT.mem_waitsFor W).mp z
  rw [h] at e
  cases e
theorem waits_list (O : c.Ok K H) (W : Wf c D) {o : Int} {ys : List Int} (n : ys.Nodup) (s : ys.Pairwise (· ≤ ·)) (h : ∀ x, x ∈ ys ↔ LT.waits c.M D.ts o x) : ys = LT.waitsFor c.M c.U D.ts o := by
  refine sorted_eq (fun x => x) (strict_of (fun x : Int => x) s (by simpa using n)) ?_ fun x => (h x).trans (LT.mem_waitsFor W).symm
  unfold LT.waitsFor
  exact O.srt.sublist (List.filter_sublist ..)
end
abbrev spWaitsFor (b : Bs) (c : Tc) : Sp := fun vs H Q _ => ∃ (ad : Ad) (D : Dt) (o : Int), vs = [.ref (ad.at_ .tab), .int o] ∧ At b.w c H ad D ∧ c.Ok b.K H ∧ Wf c D ∧ o ∈ c.U ∧
  ∀ H' ad' r, Go b.w c H ad D H' ad' D → H r = none → Off H' ad' D r (.lst ((LT.waitsFor c.M c.U D.ts o).map V.int)) → Q (.ref r) H'
abbrev s_LockTable_waits_for : Stmt := inClass (top 38) 13
abbrev N_LockTable_waits_for : List Str := ["self", "owner", "spot", "found", "item", "mode", "one", "held", "ahead"]
abbrev P_LockTable_waits_for : List Str := ["self", "owner"]
theorem sc_LockTable_waits_for : FnScope N_LockTable_waits_for P_LockTable_waits_for (defScope s_LockTable_waits_for) := ⟨rfl, rfl, rfl, by decide +kernel, rfl, by decide +kernel, by decide +kernel⟩
theorem ok_waits_for {b : Bs} {c : Tc} (R : RawM b c.CT "waits_for" "LockTable.waits_for" s_LockTable_waits_for P_LockTable_waits_for) (K : ClsOk b.K c) (T : Tops b) (D_require_owner : Df b 3 "require_owner" P_require_owner spReqOwner) (D_spot_of : Mt b 3 c.CT "spot_of" P_LockTable_spot_of (spSpotOf b c))
    (D_allows : Df b 1 "allows" P_allows (spAllows b.K)) : Mt b 4 c.CT "waits_for" P_LockTable_waits_for (spWaitsFor b c) := by
  refine R.ok K.cT sc_LockTable_waits_for (fun vs H Q E h => ?_) fun f cdv A outer s H vs Q E hr h => ?_
  · obtain ⟨ad, D, o, rfl, _⟩ := h
    rfl
  · obtain ⟨ad, D, o, rfl, A0, O0, W, hoU, k⟩ := h
    let kof := c.kof
    refine ⟨_, (pss_cons (ps_expr (pe_df D_require_owner (hr.mono (by decide)) (pa_cons (pv 1) pa_nil)))
      (pss_cons (ps_if (pt_cmp (pc_dnotin (hu_of hr) (pv 1) (pe_fld (pv 0) rfl))) (pss_one (ps_ret (pe_lst pa_nil))) pss_nil)
      (pss_cons (ps_asg (pe_dget (hu_of hr) (pe_fld (pv 0) rfl) (pv 1) (fun _ _ => rfl)) (pg_tup rfl (pgs_cons (pg_name (i := 4) sc_LockTable_waits_for.nd rfl (Or.inl rfl)) (pgs_cons (pg_name (i := 5) sc_LockTable_waits_for.nd rfl (Or.inl rfl)) pgs_nil))))
      (pss_cons (ps_set (i := 2) sc_LockTable_waits_for.nd rfl (Or.inl rfl) (pe_mtd D_spot_of (pv 0) (hr.mono (by decide)) (pa_cons (pv 4) pa_nil)))
      (pss_cons (ps_set (i := 3) sc_LockTable_waits_for.nd rfl (Or.inl rfl) pe_dnewK)
      (pss_cons (ps_mayLock (ps_for PassesOwn.never rfl (pi_itemsN (pe_fld (pv 2) rfl)) (pg_tup rfl (pgs_cons (pg_name (i := 6) sc_LockTable_waits_for.nd rfl (Or.inl rfl)) (pgs_cons (pg_name (i := 7) sc_LockTable_waits_for.nd rfl (Or.inl rfl)) pgs_nil)))
      (pss_one (ps_if (PW.pt (pw_and (pt_cmpR op_ne (pv 6) (pv 1) (nomark _)) (pw_and1 (pt_not (pt_val (pe_df D_allows (hr.mono (by decide)) (pa_cons (pe_fld (pv 0) rfl) (pa_cons (pv 7) (pa_cons (pv 5) pa_nil))))))))) (pss_one (ps_dput (hu_of hr) (pv 3) (pv 6) pe_bl rfl)) pss_nil))))
      (pss_cons (ps_if (pt_cmpR op_notIn_seq (pv 1) (pe_fld (pv 2) rfl) (by rfl)) (pss_cons (ps_set (i := 8) sc_LockTable_waits_for.nd rfl (Or.inl rfl) (pe_op op_cat (pe_fld (pv 2) rfl) (pe_slice sl_list (pe_fld (pv 2) rfl) po_none (po_some (pe_bm PySem.F.plainAttrs_list PySem.F.slot_list_index PySem.F.type_list_index mt_index (pe_fld (pv 2) rfl) (pa_cons (pv 1) pa_nil))))))
      (pss_one (ps_expr (pe_bm PySem.F.plainAttrs_dict PySem.F.slot_dict_update PySem.F.type_dict_update Ru.mt_dupd (pv 3) (pa_cons (pe_dcB (kof := kof) (own := [("one", 6)]) (hu8 hr) fresh_dK rfl sc_LockTable_waits_for.nd (pi_list (pv 8)) (blkOk_by (own := [("one", 6)]) (N := N_LockTable_waits_for) (sc := defScope s_LockTable_waits_for) (by decide +kernel)) (fun _ _ _ _ _ => (pg_name (i := 6) sc_LockTable_waits_for.nd rfl (Or.inl rfl))) (fun _ _ _ _ _ => pts_nil) (fun _ _ _ _ _ => (pv 6)) (fun _ _ _ _ _ => pe_bl)) pa_nil))))) pss_nil)
      (pss_one (ps_ret (pe_callB (call_sortedDI rfl) (by rfl) T.b_sorted (by decide +kernel) (pa_cons (pv 3) pa_nil))))))))))), ?_⟩
    have ta0 := A0.at_ .tab True.intro
    refine ⟨_, rfl, o, rfl, O0.u0 o hoU, _, rfl, _, rfl, _, _, _, _, _, rfl, ta0, K.cT, K.nT _ (by simp), rfl, _, _, rfl, DGet.k (k := Sum.inl o) (A0.at_ .asks True.intro), _, rfl, ?_⟩
    rw [has_asks]
    cases ha : D.ts.asks o with
    | none =>
      refine iteT ⟨Nat.zero_le _, fun r nr => ?_⟩
      have e := waits_none W ha
      refine k _ ad r (Go.same A0 (same_new' nr)) nr ?_
      rw [e]
      exact Off.new A0 nr
    | some im =>
    obtain ⟨i, m⟩ := im
    obtain ⟨p, hp⟩ := asks_al ha
    have tp := ask_tup A0 hp
    have hJ := (W.asksU o i m ha).2
    have hm := (W.asksIn o i m ha).1
    have hits := its_asks W A0.ok ha
    refine iteF ⟨_, rfl, _, _, _, _, _, rfl, ta0, K.cT, K.nT _ (by simp), rfl, _, rfl, _, _, rfl, dget_asks A0 hp, ?_⟩
    refine ⟨p, _, rfl, .inl (.inl tp), rfl, _, _, rfl, _, _, rfl, rfl, ?_⟩
    refine ⟨_, rfl, _, _, _, rfl, ta0, rfl, _, rfl, ad, D, i, rfl, A0, O0, hJ, fun H1 ad1 A1 f1 p1 => fun fd hfd => ?_⟩
    have g1 : Go b.w c H ad D H1 ad1 (D.add i) := ⟨A1, f1, p1, fun t => add_dom⟩
    rw [add_old hits] at g1 A1
    have O1 := O0.mono (Go.tups A0 g1)
    have g2 := g1.then_ (same_new' (o := .dK []) hfd)
    have x2 : Off (upd H1 fd (.dK [])) ad1 D fd (.dK (tr [])) := Off.new A1 hfd
    have nfd : H fd = none := g1.none_ A0 hfd
    dsimp only [gName]
    generalize upd H1 fd (.dK []) = H2 at g2 x2 ⊢
    have A2 := g2.at_
    have O2 := O0.mono (Go.tups A0 g2)
    have et := g2.tab
    have ta2 := A2.at_ .tab True.intro
    rw [et] at ta2
    have sp2 := A2.at_ (.sp i) hits
    have md2 := A2.at_ (.md i) hits
    have hin := wf_hin W A0.ok i
    have nd := A0.ok.mdn i
    have ml := md_len nd (fun e he => (hin e he).1) O0.ul
    have dnt : ∀ {ks : List Int} (xs : List V), HO.dK (tr ks) ≠ .tup xs := fun xs h => by cases h
    refine seq_mid (fun σ' H' => ∃ x y ks, σ' = [some (.ref (ad.at_ .tab)), some (.int o), some (.ref (ad1.at_ (.sp i))), some (.ref fd), some i, some (.str m), x, y, none] ∧ But fd H2 H' ∧ H' fd = some (.dK (tr ks)) ∧ ks.Nodup ∧ ks.length ≤ 20 ∧
      ∀ x, x ∈ ks ↔ x ≠ o ∧ ∃ h, D.ts.held i x = some h ∧ c.d.al h m = false) (fun N hN => ?_) (fun σ' H' h => ?_)
    · refine .inl ⟨_, _, md2, True.intro, fun od => ?_⟩
      have ne_t : ad1.at_ .tab ≠ ad1.at_ (.md i) := fun z => by have := A2.inj .tab (.md i) True.intro hits z; cases this
      have ne_s : ad1.at_ (.sp i) ≠ ad1.at_ (.md i) := fun z => by have := A2.inj (.sp i) (.md i) hits hits z; cases this
      have ne_f : fd ≠ ad1.at_ (.md i) := x2.ne hits
      have taL : (upd H2 (ad1.at_ (.md i)) (.frz od (cont b.w c ad1 D (.md i)))) (ad.at_ .tab) = some (cont b.w c ad1 D .tab) := by rw [← et] at ta2 ⊢; rw [upd_ne ne_t]; exact ta2
      have fdL : (upd H2 (ad1.at_ (.md i)) (.frz od (cont b.w c ad1 D (.md i)))) fd = some (.dK (tr [])) := by rw [upd_ne ne_f]; exact x2.at_
      have tL : Tups H2 (upd H2 (ad1.at_ (.md i)) (.frz od (cont b.w c ad1 D (.md i)))) := Tups.mut md2 (cont_tup _)
      refine ⟨_, rfl, _, _, _, _, _, rfl, (by rw [upd_ne ne_s]; exact sp2), K.cS, K.nS _ (by simp), rfl, _, _, rfl, .inl ⟨od, upd_same, ?_⟩⟩
      have w := walk_items (d := ad1.at_ (.md i)) (o := od) (kvs := (D.md i).map (ent V.str))
      rw [List.length_map] at w
      refine for_it w (fun j σ Hx => ∃ x y ks, σ = [some (.ref (ad.at_ .tab)), some (.int o), some (.ref (ad1.at_ (.sp i))), some (.ref fd), some i, some (.str m), x, y, none] ∧ But fd (upd H2 (ad1.at_ (.md i)) (.frz od (cont b.w c ad1 D (.md i)))) Hx ∧ Hx fd = some (.dK (tr ks)) ∧ ks.Nodup ∧ ks.length ≤ j ∧
        ∀ x, x ∈ ks ↔ x ≠ o ∧ ∃ e ∈ (D.md i).take j, e.1 = x ∧ c.d.al e.2 m = false) ?_ (fun j σ Hx _ p => ?_) (fun j v σ Hx Hx' hj p hy => ?_) fun σ Hx p => ?_
      · exact ⟨none, none, [], rfl, fun _ _ h _ => h, fdL, List.nodup_nil, Nat.zero_le _, fun x => ⟨(fun h => by cases h), (fun ⟨_, e, he, _⟩ => by cases he)⟩⟩
      · obtain ⟨x, y, ks, rfl, bx, _⟩ := p
        exact bx _ _ upd_same ne_f.symm
      · obtain ⟨x, y, ks, rfl, bx, fx, kn, kl, km⟩ := p
        obtain ⟨Tt, x0, y0, rfl, hT, rfl, h0, h1⟩ := hy
        have h0 : ((D.md i).map (ent V.str))[j]?.map (fun kv => kV kv.1) = some x0 := h0
        have h1 : ((D.md i).map (ent V.str))[j]?.map Prod.snd = some y0 := h1
        have he : (D.md i)[j]? = some (D.md i)[j] := List.getElem?_eq_getElem hj
        generalize (D.md i)[j] = e at he
        rw [List.getElem?_map, he] at h0 h1
        cases h0
        cases h1
        have hem := List.mem_of_getElem? he
        have tk : (D.md i).take (j + 1) = (D.md i).take j ++ [e] := by rw [List.take_succ, he]; rfl
        have s3 : Same Hx (upd Hx Tt (.tup [.int e.1, .str e.2])) := same_new' hT
        have bx3 := bx.trans (But.same s3)
        have fx3 := s3 _ _ fx
        have skip : ∀ Hz, But fd (upd H2 (ad1.at_ (.md i)) (.frz od (cont b.w c ad1 D (.md i)))) Hz → Hz fd = some (.dK (tr ks)) → (e.1 = o ∨ c.d.al e.2 m = true) → ∃ x y ks, [some (.ref (ad.at_ .tab)), some (.int o), some (.ref (ad1.at_ (.sp i))), some (.ref fd), some i, some (.str m), some (.int e.1), some (.str e.2), none] = [some (.ref (ad.at_ .tab)), some (.int o), some (.ref (ad1.at_ (.sp i))), some (.ref fd), some i, some (.str m), x, y, none] ∧
            But fd (upd H2 (ad1.at_ (.md i)) (.frz od (cont b.w c ad1 D (.md i)))) Hz ∧ Hz fd = some (.dK (tr ks)) ∧ ks.Nodup ∧ ks.length ≤ j + 1 ∧ ∀ x, x ∈ ks ↔ x ≠ o ∧ ∃ e ∈ (D.md i).take (j + 1), e.1 = x ∧ c.d.al e.2 m = false := fun Hz bz fz h => by
          refine ⟨_, _, ks, rfl, bz, fz, kn, Nat.le_succ_of_le kl, fun x => (km x).trans ?_⟩
          rw [tk]
          constructor
          · rintro ⟨q1, e', q2, q3⟩
            exact ⟨q1, e', List.mem_append_left _ q2, q3⟩
          · rintro ⟨q1, e', q2, q3, q4⟩
            rcases List.mem_append.mp q2 with q2 | q2
            · exact ⟨q1, e', q2, q3, q4⟩
            · have ee : e' = e := List.mem_singleton.mp q2
              subst ee
              rcases h with h | h
              · exact (q1 (q3.symm.trans h)).elim
              · rw [q4] at h; cases h
        refine ⟨Tt, _, rfl, .inl (.inl upd_same), rfl, _, _, rfl, _, _, rfl, rfl, ?_⟩
        have e0 : decide (V.int e.1 = V.int o) = decide (e.1 = o) := decide_eq_decide.mpr ⟨fun z => by injection z, fun z => by rw [z]⟩
        have hta := bx3 _ _ taL (by rw [← et]; exact (x2.ne (t := .tab) True.intro).symm)
        refine ⟨_, rfl, _, rfl, rfl, _, rfl, ?_⟩
        rw [show decide (kV (ent V.str e).1 = V.int o) = decide (e.1 = o) from e0]
        by_cases h : e.1 = o
        · rw [decide_eq_true h]
          exact iteF (iteF (skip _ bx3 fx3 (.inl h)))
        rw [decide_eq_false h]
        have tm : Tups H2 (upd Hx Tt (.tup [.int e.1, .str e.2])) := Tups.trans tL (bx3.tups fdL dnt)
        refine iteT ⟨_, rfl, _, _, _, _, _, rfl, hta, K.cT, K.nT _ (by simp), rfl, _, rfl, _, rfl, c.mo, c.d, e.2, m, rfl, O2.ms.mono tm, (hin e hem).2, hm, fun H5 s5 => ⟨_, rfl, ?_⟩⟩
        have bx5 := bx3.trans (But.same s5)
        have fx5 := s5 _ _ fx3
        cases hal : c.d.al e.2 m with
        | true => exact iteF (skip _ bx5 fx5 (.inr hal))
        | false =>
          refine iteT ⟨_, rfl, _, rfl, _, _, rfl, DPut.k (k := Sum.inl e.1) fx5 ?_, ?_⟩
          · rw [List.length_map, sizeLine_eq]
            omega
          rw [put_tr]
          refine ⟨_, _, ins ks e.1, rfl, bx5.trans But.upd, upd_same, nodup_ins kn, ?_, fun x => ?_⟩
          · unfold ins
            split
            · omega
            · rw [List.length_append]; show _ + 1 ≤ _; omega
          · rw [mem_ins, km x, tk]
            constructor
            · rintro (⟨q1, e', q2, q3⟩ | rfl)
              · exact ⟨q1, e', List.mem_append_left _ q2, q3⟩
              · exact ⟨h, e, List.mem_append_right _ (.head _), rfl, hal⟩
            · rintro ⟨q1, e', q2, q3, q4⟩
              rcases List.mem_append.mp q2 with q2 | q2
              · exact .inl ⟨q1, e', q2, q3, q4⟩
              · have ee : e' = e := List.mem_singleton.mp q2
                exact .inr (by rw [← q3, ee])
      · obtain ⟨x, y, ks, rfl, bx, fx, kn, kl, km⟩ := p
        refine ⟨bx _ _ upd_same ne_f.symm, hN _ _ ⟨x, y, ks, rfl, but_unlock md2 bx, ?_, kn, Nat.le_trans kl ml, fun x => ?_⟩⟩
        · rw [upd_ne ne_f]; exact fx
        · rw [km x, List.take_length]
          constructor
          · rintro ⟨q1, e, q2, q3, q4⟩
            exact ⟨q1, e.2, by rw [← q3]; exact (lookup_mem nd).mpr q2, q4⟩
          · rintro ⟨q1, h, q2, q3⟩
            exact ⟨q1, (x, h), (lookup_mem nd).mp q2, rfl, q3⟩
    · obtain ⟨x, y, ks, rfl, bz, fz, kn, kl, km⟩ := h
      have g3 : Go b.w c H ad D H' ad1 D := g2.but nfd x2 dnt bz
      have x3 : Off H' ad1 D fd (.dK (tr ks)) := ⟨fz, x2.no⟩
      have A3 := g3.at_
      have sp3 := A3.at_ (.sp i) hits
      have cv3 := A3.at_ (.cv i) hits
      have qu3 := A3.at_ (.qu i) hits
      have wo := (W.asksIn o i m ha).2
      have cl : (D.cv i).length ≤ 20 := wf_q (W.convNd i) (wf_cv W i) O0.ul
      have ql : (D.qu i).length ≤ 20 := wf_q (W.queueNd i) (wf_qu W i) O0.ul
      refine seq_mid (fun σ' Hz => ∃ x y z zs, σ' = [some (.ref (ad.at_ .tab)), some (.int o), some (.ref (ad1.at_ (.sp i))), some (.ref fd), some i, some (.str m), x, y, z] ∧ Go b.w c H ad D Hz ad1 D ∧ Hz fd = some (.dK (tr zs)) ∧ zs.Nodup ∧ zs.length ≤ 60 ∧
        ∀ x, x ∈ zs ↔ LT.waits c.M D.ts o x) (fun N hN => ?_) (fun σ' Hz h => ?_)
      · refine ⟨_, rfl, _, rfl, _, _, _, _, _, rfl, sp3, K.cS, K.nS _ (by simp), rfl, _, _, rfl, .inl (.inl (.inl cv3)), rfl, all_int _, _, rfl, ?_⟩
        simp only [if_true]
        rw [in_int]
        by_cases hc : o ∈ D.cv i
        · rw [decide_eq_true hc]
          refine iteF (hN _ _ ⟨x, y, none, ks, rfl, g3, fz, kn, by omega, fun x => (km x).trans ?_⟩)
          constructor
          · rintro ⟨q1, h, q2, q3⟩
            exact ⟨i, m, ha, .inl ⟨q1, h, q2, q3⟩⟩
          · rintro ⟨i', m', q1, q2⟩
            rw [ha] at q1
            cases q1
            rcases q2 with ⟨q3, h, q4, q5⟩ | ⟨q3, _⟩
            · exact ⟨q3, h, q4, q5⟩
            · exact (q3 hc).elim
        · rw [decide_eq_false hc]
          have hq : o ∈ D.qu i := wo.resolve_left hc
          obtain ⟨jj, j1, j2, _⟩ := place_of hq
          have jl : jj < (D.qu i).length := (List.getElem?_eq_some_iff.mp j1).1
          have tw := takeWhile_place j1 j2
          refine iteT ⟨_, rfl, _, _, _, _, _, rfl, sp3, K.cS, K.nS _ (by simp), rfl, _, rfl, _, _, _, _, _, rfl, sp3, K.cS, K.nS _ (by simp), rfl, _, rfl, _, _, _, _, _, rfl, sp3, K.cS, K.nS _ (by simp), rfl, .inl ⟨rfl, _, .inl (.inl qu3)⟩, _, rfl, ?_⟩
          refine ⟨_, (D.qu i).map V.int, .int o, jj, .int o, rfl, rfl, .inl (.inl qu3), rfl, all_int _, by rw [List.getElem?_map, j1]; rfl, by rw [eqV_int]; exact decide_eq_true rfl, fun m' z hm' hz => ?_, _, rfl, _, _, rfl, .inl (.inl qu3), fun p1 hp1 => ⟨_, _, _, _, rfl, rfl, (same_new' hp1) _ _ cv3, upd_same, ?_, fun p2 hp2 => ?_⟩⟩
          · rw [List.getElem?_map] at hz
            cases e : (D.qu i)[m']? with
            | none => rw [e] at hz; cases hz
            | some q =>
              rw [e] at hz
              cases hz
              rw [eqV_int]
              exact decide_eq_false fun z => j2 m' hm' (by rw [e, z])
          · have h1 := cutV_length ((D.qu i).map V.int) none (some (jj : Int))
            rw [List.length_map] at h1 ⊢
            rw [sizeLine_eq]
            show (D.cv i).length + _ ≤ _
            omega
          rw [cut_to _ (by rw [List.length_map]; omega), ← List.map_take]
          have s4 : Same H' (upd (upd H' p1 (.lst (((D.qu i).take jj).map V.int))) p2 (.lst ((D.cv i).map V.int ++ ((D.qu i).take jj).map V.int))) := by
            rw [cut_to _ (by rw [List.length_map]; omega), ← List.map_take] at hp2
            exact two_same hp1 hp2
          have ap : (upd (upd H' p1 (.lst (((D.qu i).take jj).map V.int))) p2 (.lst ((D.cv i).map V.int ++ ((D.qu i).take jj).map V.int))) p2 = some (.lst ((D.cv i ++ (D.qu i).take jj).map V.int)) := by rw [upd_same, List.map_append]
          dsimp only [gName]
          have al : (D.cv i ++ (D.qu i).take jj).length ≤ 40 := by
            rw [List.length_append, List.length_take]
            omega
          show tDrop _ _ _ (upd (upd H' p1 (.lst (((D.qu i).take jj).map V.int))) p2 (.lst ((D.cv i).map V.int ++ ((D.qu i).take jj).map V.int)))
          generalize upd (upd H' p1 (.lst (((D.qu i).take jj).map V.int))) p2 (.lst ((D.cv i).map V.int ++ ((D.qu i).take jj).map V.int)) = H5 at s4 ap ⊢
          generalize hah : D.cv i ++ (D.qu i).take jj = ah at ap al
          have fz5 := s4 _ _ fz
          refine ⟨_, rfl, .inr (.inr (.inl ⟨rfl, .inl ⟨_, fz5⟩⟩)), _, rfl, _, rfl, ⟨_, .inl (.inl ap)⟩, fun Dd hDd => ?_⟩
          have w := walk_list (K := b.K) (a := p2) (xs := ah.map V.int)
          rw [List.length_map] at w
          have sD := same_new' (o := .dK []) hDd
          refine Mx.dc_it (mk := fun _ => .dK []) (H1 := H5) (D := Dd) w (fun j Hx => Same H5 Hx ∧ Hx Dd = some (.dK (tr (insAll [] (ah.take j))))) (by exact ⟨sD, upd_same⟩) (fun j Hx _ p => .inl (.inl (p.1 _ _ ap))) (fun j v Hx Hx' hj p hy => ?_) fun Hx p => ?_
          · obtain ⟨q1, q2⟩ := p
            obtain ⟨rfl, hy⟩ := hy
            rw [List.getElem?_map] at hy
            cases hx : ah[j]? with
            | none => rw [hx] at hy; cases hy
            | some q =>
            rw [hx] at hy
            cases hy
            refine ⟨rfl, _, rfl, _, .inl (DPut.k (k := Sum.inl q) q2 ?_), same_at hDd q1, ?_⟩
            · have := len_insAll (ah.take j) []
              rw [List.length_take] at this
              rw [List.length_map, sizeLine_eq]
              simp at this
              omega
            · rw [upd_same, put_tr, List.take_succ, hx]
              unfold insAll
              rw [List.foldl_append]
              rfl
          · obtain ⟨q1, q2⟩ := p
            rw [List.take_length] at q2
            have zl := len_insAll ah []
            simp at zl
            refine ⟨fd, Dd, _, _, rfl, rfl, ne_of_none fz5 hDd, q1 _ _ fz5, q2, ?_, ?_⟩
            · rw [List.length_map, List.length_map, sizeLine_eq]
              omega
            · rw [merge_tr]
              have z2 := len_insAll (insAll [] ah) ks
              have g5 := g3.then_ (Same.trans s4 q1)
              have x5 : Off Hx ad1 D fd (.dK (tr ks)) := ⟨q1 _ _ fz5, x2.no⟩
              refine hN _ _ ⟨x, y, _, insAll ks (insAll [] ah), rfl, g5.mine nfd x5 dnt, upd_same, nodup_insAll kn, by omega, fun v => ?_⟩
              rw [mem_insAll, mem_insAll, km v, ← hah]
              constructor
              · rintro (⟨q1, h, q2, q3⟩ | (q | q))
                · exact ⟨i, m, ha, .inl ⟨q1, h, q2, q3⟩⟩
                · cases q
                · refine ⟨i, m, ha, .inr ⟨hc, ?_⟩⟩
                  show v ∈ D.cv i ++ (D.qu i).takeWhile _
                  rw [tw]
                  exact q
              · rintro ⟨i', m', q1, q2⟩
                rw [ha] at q1
                cases q1
                rcases q2 with ⟨q3, h, q4, q5⟩ | ⟨_, q3⟩
                · exact .inl ⟨q3, h, q4, q5⟩
                · have q3 : v ∈ D.cv i ++ (D.qu i).takeWhile fun q => decide (q ≠ o) := q3
                  rw [tw] at q3
                  exact .inr (.inr q3)
      · obtain ⟨x, y, z, zs, rfl, gz, fz2, zn, zl, zm⟩ := h
        refine ⟨_, rfl, fd, _, zs, rfl, .inl fz2, ?_, by omega, fun ys r pm st nr => ?_⟩
        · rw [List.map_map]; rfl
        · have e : ys = LT.waitsFor c.M c.U D.ts o := waits_list O0 W (pm.nodup_iff.mpr zn) st fun x => pm.mem_iff.trans (zm x)
          rw [e]
          exact k _ ad1 r (gz.then_ (same_new' nr)) (gz.none_ A0 nr) (Off.new gz.at_ nr)
end Lk
end
section
set_option maxRecDepth 100000
set_option maxHeartbeats 1000000
/-! waits_among. -/
namespace Lk
open PySem L2
open Mx (pe_msetd pe_mget pe_mget2 ps_mput pe_mnew pe_mayLock ps_mayLock pi_itemsN pi_itemsM fresh_dK)

theorem valV_tr (ks : List Int) (k : Int) : (valV (tr ks) (Sum.inl k)).isSome = decide (k ∈ ks) := by
  rw [valV_os (os := ks) (g := fun _ => V.bl true)]
  by_cases h : k ∈ ks
  · rw [if_pos h, decide_eq_true h]; rfl
  · rw [if_neg h, decide_eq_false h]; rfl
abbrev dRefs (ss : List Int) (al : Int → Addr) : List (L2.Key × V) := ss.map fun o => (Sum.inl o, V.ref (al o))
theorem put_refs {ss : List Int} {al : Int → Addr} {o : Int} {L : Addr} (h : o ∉ ss) : putK (dRefs ss al) (Sum.inl o) (.ref L) = dRefs (ss ++ [o]) (LT.put al o L) := by
  unfold putK
  have hn : ¬ ((dRefs ss al).any fun kv => decide (kv.1 = Sum.inl o)) = true := fun z => by
    obtain ⟨kv, hk, e⟩ := List.any_eq_true.mp z
    obtain ⟨j, hj, rfl⟩ := List.mem_map.mp hk
    have e2 := of_decide_eq_true e
    injection e2 with e2
    exact h (e2 ▸ hj)
  rw [if_neg hn]
  show _ = List.map _ (ss ++ [o])
  rw [List.map_append]
  congr 1
  · refine List.map_congr_left fun x hx => ?_
    rw [LT.put_off _ _ fun e : x = o => h (e ▸ hx)]
  · show [_] = [(Sum.inl o, V.ref (LT.put al o L o))]
    rw [LT.put_at]
section
variable {J : It} {G : Hp → Prop} {Y : Nat → Hp → V → Hp → Prop} {α : Type} {xs : List α}
/-- those of xs that pass a test, nothing that stood changed -/
theorem lc_sel (w : Walk J xs.length G Y) {g : TG} {tt : TT} {te : TE} {vs : List Nat} {σ : L2.St} {H1 : Hp} {D : Addr} {Qd : Hp → Prop} (c : α → Bool) (f : α → V) (hD : H1 D = none) (hn : xs.length < sizeLine) (hG : ∀ H, Same H1 H → G H)
    (turn : ∀ i e x H H' (Q : VK) (N : Hp → Prop), xs[i]? = some e → Same H1 H → Y i H x H' → (c e = true → ∀ H4, Same H H4 → Q (f e) H4) → (c e = false → ∀ H4, Same H H4 → N H4) →
      g x (wipe σ vs) H' fun σ2 H2 => wipe σ2 vs = wipe σ vs ∧ tt σ2 H2 fun b H3 => if b = true then te σ2 H3 Q else N H3)
    (done : ∀ H, Same H1 H → H D = some (.lst ((xs.filter c).map f)) → Qd H) :
    ∃ W : Nat → Nat → Hp → Prop, (∃ m, W 0 m (upd H1 D (.lst []))) ∧ ∀ i m H, W i m H →
      (J.stop i H ∧ Qd H) ∨ (J.go i H ∧ ∃ Nx : Hp → Prop, (∀ H', Nx H' → ∃ m', m' < m ∧ W (i + 1) m' H') ∧ ∀ x H', J.yld i H x H' → g x (wipe σ vs) H' fun σ2 H2 => wipe σ2 vs = wipe σ vs ∧ tt σ2 H2 fun b H3 =>
        if b = true then te σ2 H3 fun y H4 => ∃ acc, H4 D = some (.lst acc) ∧ acc.length < sizeLine ∧ Nx (upd H4 D (.lst (acc ++ [y]))) else Nx H3) := by
  refine lc_pure (tt := tt) w (fun i => xs[i]?.bind fun e => if c e = true then some (f e) else none) hD hn hG (fun i x H H' Q N hi s y q => ?_) fun H s e => done H s (by rw [e, range_bind, filterMap_if])
  have hx : xs[i]? = some xs[i] := List.getElem?_eq_getElem hi
  rw [hx] at q
  refine turn i _ x H H' Q N hx s y (fun h => ?_) (fun h => ?_)
  · have q : ∀ H4, Same H H4 → match (if c xs[i] = true then some (f xs[i]) else none) with
      | some y => Q y H4
      | none => N H4 := q
    rw [if_pos h] at q
    exact q
  · have q : ∀ H4, Same H H4 → match (if c xs[i] = true then some (f xs[i]) else none) with
      | some y => Q y H4
      | none => N H4 := q
    rw [if_neg (by rw [h]; simp)] at q
    exact q
end
noncomputable abbrev afL (c : Tc) (ts : LT.TS V Str) (ss : List Int) (o : Int) : List Int := LT.afterOf c.M c.U ts ss o
abbrev spAmong (b : Bs) (c : Tc) : Sp := fun vs H Q _ => ∃ (ad : Ad) (D : Dt) (s : Addr) (ss : List Int), vs = [.ref (ad.at_ .tab), .ref s] ∧ At b.w c H ad D ∧ c.Ok b.K H ∧ Wf c D ∧ Off H ad D s (.lst (ss.map V.int)) ∧ ss.Nodup ∧ (∀ o ∈ ss, o ∈ c.U) ∧
  ∀ H' ad' r al, Go b.w c H ad D H' ad' D → H r = none → Off H' ad' D r (.dK (dRefs ss al)) → (∀ o ∈ ss, H (al o) = none ∧ Off H' ad' D (al o) (.lst ((afL c D.ts ss o).map V.int))) → Q (.ref r) H'
abbrev s_LockTable_waits_among : Stmt := inClass (top 38) 14
abbrev N_LockTable_waits_among : List Str := ["self", "some", "known", "owner", "one"]
abbrev P_LockTable_waits_among : List Str := ["self", "some"]
theorem sc_LockTable_waits_among : FnScope N_LockTable_waits_among P_LockTable_waits_among (defScope s_LockTable_waits_among) := ⟨rfl, rfl, rfl, by decide +kernel, rfl, by decide +kernel, by decide +kernel⟩
theorem ok_waits_among {b : Bs} {c : Tc} (R : RawM b c.CT "waits_among" "LockTable.waits_among" s_LockTable_waits_among P_LockTable_waits_among) (K : ClsOk b.K c) (T : Tops b) (D_waits_for : Mt b 4 c.CT "waits_for" P_LockTable_waits_for (spWaitsFor b c)) :
    Mt b 5 c.CT "waits_among" P_LockTable_waits_among (spAmong b c) := by
  refine R.ok K.cT sc_LockTable_waits_among (fun vs H Q E h => ?_) fun f cdv A outer s0 H vs Q E hr h => ?_
  · obtain ⟨ad, D, s, ss, rfl, _⟩ := h
    rfl
  · obtain ⟨ad, D, s, ss, rfl, A0, O0, W, os, sn, sU, k⟩ := h
    let kof := c.kof
    refine ⟨_, (pss_cons (ps_set (i := 2) sc_LockTable_waits_among.nd rfl (Or.inr rfl) (pe_dcB (kof := kof) (own := [("owner", 3)]) (hu8 hr) fresh_dK rfl sc_LockTable_waits_among.nd (pi_list (pv 1)) (blkOk_by (own := [("owner", 3)]) (N := N_LockTable_waits_among) (sc := defScope s_LockTable_waits_among) (by decide +kernel)) (fun _ _ _ _ _ => (pg_name (i := 3) sc_LockTable_waits_among.nd rfl (Or.inl rfl))) (fun _ _ _ _ _ => pts_nil) (fun _ _ _ _ _ => (pv 3)) (fun _ _ _ _ _ => pe_bl)))
      (pss_one (ps_ret (pe_dcB (kof := kof) (own := [("owner", 3)]) (hu8 hr) fresh_dK rfl sc_LockTable_waits_among.nd (pi_list (pv 1)) (blkOk_by (own := [("owner", 3)]) (N := N_LockTable_waits_among) (sc := defScope s_LockTable_waits_among) (by decide +kernel)) (fun _ _ _ _ _ => (pg_name (i := 3) sc_LockTable_waits_among.nd rfl (Or.inl rfl))) (fun _ _ _ _ _ => pts_nil) (fun _ _ _ _ _ => (pv 3)) (fun _ _ _ _ _ => (pe_lcB (own := [("one", 4)]) rfl sc_LockTable_waits_among.nd (pi_list (pe_mtd D_waits_for (pv 0) (hr.mono (by decide)) (pa_cons (pv 3) pa_nil))) (blkOk_by (own := [("one", 4)]) (N := N_LockTable_waits_among) (by rfl)) (fun _ _ _ _ _ => (pg_name (i := 4) sc_LockTable_waits_among.nd rfl (Or.inl rfl))) (fun _ _ _ _ _ => (pts_one (pt_cmp (pc_din (hu_of hr) (pv 4) (pv 2))))) (fun _ _ _ _ _ => (pv 4)))))))), ?_⟩
    have sl : ss.length ≤ 20 := Nat.le_trans (LT_len sn sU) O0.ul
    refine ⟨_, rfl, _, rfl, ⟨_, .inl (.inl os.at_)⟩, fun Kd hKd => ?_⟩
    have w := walk_list (K := b.K) (a := s) (xs := ss.map V.int)
    rw [List.length_map] at w
    have sD := same_new' (o := .dK []) hKd
    refine Mx.dc_it (mk := fun _ => .dK []) (H1 := H) (D := Kd) w (fun j Hx => Same H Hx ∧ Hx Kd = some (.dK (tr (ss.take j)))) (by exact ⟨sD, upd_same⟩) (fun j Hx _ p => .inl (.inl (p.1 _ _ os.at_))) (fun j v Hx Hx' hj p hy => ?_) fun Hx p => ?_
    · obtain ⟨q1, q2⟩ := p
      obtain ⟨rfl, hy⟩ := hy
      rw [List.getElem?_map] at hy
      cases hx : ss[j]? with
      | none => rw [hx] at hy; cases hy
      | some q =>
      rw [hx] at hy
      cases hy
      have nq : q ∉ ss.take j := St.fresh_at sn hx
      refine ⟨rfl, _, rfl, _, .inl (DPut.k (k := Sum.inl q) q2 ?_), same_at hKd q1, ?_⟩
      · rw [List.length_map, List.length_take, sizeLine_eq]
        omega
      · rw [upd_same, put_tr, St.take_one hx]
        unfold ins
        rw [if_neg nq]
    · obtain ⟨s1, e1⟩ := p
      rw [List.take_length] at e1
      have g1 := Go.same A0 s1
      have ok1 : Off Hx ad D Kd (.dK (tr ss)) := ⟨e1, off_new A0 hKd⟩
      have os1 := os.same s1
      dsimp only [gName]
      refine ⟨_, rfl, _, rfl, ⟨_, .inl (.inl os1.at_)⟩, fun Dd hDd => ?_⟩
      have nDd : H Dd = none := none_same s1 hDd
      have kD : Kd ≠ Dd := ne_of_none e1 hDd
      have sD' : s ≠ Dd := ne_of_none os1.at_ hDd
      have s2 := same_new' (o := .dK []) hDd
      refine Mx.dc_it (mk := fun _ => .dK []) (H1 := Hx) (D := Dd) w (fun j Hy => ∃ ady al, Go b.w c H ad D Hy ady D ∧ Off Hy ady D Kd (.dK (tr ss)) ∧ Off Hy ady D s (.lst (ss.map V.int)) ∧ Off Hy ady D Dd (.dK (dRefs (ss.take j) al)) ∧
        ∀ o ∈ ss.take j, H (al o) = none ∧ Off Hy ady D (al o) (.lst ((afL c D.ts ss o).map V.int))) (by exact ⟨ad, fun _ => 0, g1.then_ s2, ok1.same s2, os1.same s2, ⟨upd_same, off_new g1.at_ hDd⟩, fun o ho => by cases ho⟩)
        (fun j Hy _ ⟨_, _, _, _, o2, _⟩ => .inl (.inl o2.at_)) (fun j v Hy Hy' hj p hy => ?_) fun Hy p => ?_
      · obtain ⟨ady, al, gy, oK, oS, oD, oA⟩ := p
        obtain ⟨rfl, hy⟩ := hy
        rw [List.getElem?_map] at hy
        cases hx : ss[j]? with
        | none => rw [hx] at hy; cases hy
        | some q =>
        rw [hx] at hy
        cases hy
        have nq : q ∉ ss.take j := St.fresh_at sn hx
        have Ay := gy.at_
        have Oy := O0.mono (Go.tups A0 gy)
        have ety := gy.tab
        have tay := Ay.at_ .tab True.intro
        rw [ety] at tay
        refine ⟨rfl, _, rfl, _, rfl, _, _, _, rfl, tay, rfl, _, rfl, ady, D, q, by rw [ety]; rfl, Ay, Oy, W, sU q (List.mem_of_getElem? hx), fun H3 ad3 r3 g3 n3 o3 => ?_⟩
        have g4 := gy.trans g3
        have wl : (LT.waitsFor c.M c.U D.ts q).length ≤ 20 := Nat.le_trans (List.length_filter_le ..) O0.ul
        refine ⟨_, rfl, ⟨_, .inl (.inl o3.at_)⟩, fun L hL => ?_⟩
        have w3 := walk_list (K := b.K) (a := r3) (xs := (LT.waitsFor c.M c.U D.ts q).map V.int)
        rw [List.length_map] at w3
        refine lc_sel (xs := LT.waitsFor c.M c.U D.ts q) w3 (fun x => decide (x ∈ ss)) V.int hL (by rw [sizeLine_eq]; omega) (fun Hz s => .inl (.inl (s _ _ o3.at_))) (fun i e x Hz Hz' Q' N' he sz hy' q1 q2 => ?_) fun Hz sz ez => ?_
        · obtain ⟨rfl, hy'⟩ := hy'
          rw [List.getElem?_map, he] at hy'
          cases hy'
          refine ⟨rfl, _, rfl, _, rfl, _, _, rfl, DGet.k (k := Sum.inl e) (sz _ _ (oK.go g3).at_), _, rfl, ?_⟩
          rw [valV_tr]
          by_cases h : e ∈ ss
          · rw [decide_eq_true h] at q1 ⊢
            exact iteT ⟨_, rfl, q1 rfl _ (Same.refl _)⟩
          · rw [decide_eq_false h] at q2 ⊢
            exact iteF (q2 rfl _ (Same.refl _))
        · have gz := g4.then_ sz
          have nL : H L = none := g4.none_ A0 hL
          have oD3 := (oD.go g3).same sz
          have oL : Off Hz ad3 D L (.lst ((afL c D.ts ss q).map V.int)) := ⟨ez, off_new g3.at_ hL⟩
          have x1 : ∀ {xs : List V}, HO.lst xs ≠ .dK (dRefs (ss.take j) al) := fun h => by cases h
          refine ⟨_, .inl (DPut.k (k := Sum.inl q) oD3.at_ ?_), ad3, LT.put al q L, gz.mine nDd oD3 (fun xs h => by cases h), ((oK.go g3).same sz).upd kD, ((oS.go g3).same sz).upd sD', ⟨?_, oD3.no⟩, fun o ho => ?_⟩
          · rw [List.length_map, List.length_take, sizeLine_eq]
            omega
          · rw [upd_same, put_refs nq, St.take_one hx]
          · rw [St.take_one hx] at ho
            rcases List.mem_append.mp ho with h | h
            · have e : o ≠ q := fun e => nq (e ▸ h)
              rw [LT.put_off _ _ e]
              obtain ⟨z1, z2⟩ := oA o h
              have z3 := (z2.go g3).same sz
              exact ⟨z1, z3.upd (ne_of z3.at_ oD3.at_ x1)⟩
            · rw [List.mem_singleton.mp h, LT.put_at]
              exact ⟨nL, oL.upd (ne_of oL.at_ oD3.at_ x1)⟩
      · obtain ⟨ady, al, gy, oK, oS, oD, oA⟩ := p
        rw [List.take_length] at oD oA
        exact k Hy ady Dd al gy nDd oD oA
end Lk
end
section
set_option maxRecDepth 100000
set_option maxHeartbeats 1000000
/-! waiters_by. -/
namespace Lk
open PySem L2
open Mx (pe_msetd pe_mget pe_mget2 ps_mput pe_mnew pe_mayLock ps_mayLock pi_itemsN pi_itemsM fresh_dK)

theorem refs_at {ss : List Int} {al : Int → Addr} {j q : Nat} : True := trivial
theorem dget_refs {H : Hp} {a : Addr} {ss : List Int} {al : Int → Addr} {o : Int} (h : Rd H a (.dK (dRefs ss al))) (ho : o ∈ ss) : DGet H a (.int o) (some (.ref (al o))) :=
  .inl ⟨_, Sum.inl o, h, rfl, by rw [valV_os, if_pos ho]⟩
abbrev spBy : Sp := fun vs H Q _ => ∃ (a : Addr) (ss : List Int) (al : Int → Addr) (af : Int → List Int), vs = [.ref a] ∧ H a = some (.dK (dRefs ss al)) ∧ ss.Nodup ∧ ss.length ≤ 20 ∧ (∀ o ∈ ss, H (al o) = some (.lst ((af o).map V.int)) ∧ (af o).Nodup ∧ ∀ x ∈ af o, x ∈ ss) ∧
  ∀ H' r bl, Same H H' → H r = none → H' r = some (.dK (dRefs ss bl)) → (∀ o ∈ ss, H (bl o) = none ∧ H' (bl o) = some (.lst ((LT.before ss af o).map V.int))) → Q (.ref r) H'
abbrev s_waiters_by : Stmt := top 36
abbrev N_waiters_by : List Str := ["after", "found", "owner", "others", "one"]
abbrev P_waiters_by : List Str := ["after"]
theorem sc_waiters_by : FnScope N_waiters_by P_waiters_by (defScope s_waiters_by) := ⟨rfl, rfl, rfl, by decide +kernel, rfl, by decide +kernel, by decide +kernel⟩
theorem ok_waiters_by {b : Bs} {c : Tc} (R : Raw b "waiters_by" "waiters_by" s_waiters_by P_waiters_by) (T : Tops b) : Df b 1 "waiters_by" P_waiters_by spBy := by
  refine R.ok sc_waiters_by (fun vs H Q E h => ?_) fun f cdv A outer s0 H vs Q E hr h => ?_
  · obtain ⟨a, ss, al, af, rfl, _⟩ := h
    rfl
  · obtain ⟨a, ss, al, af, rfl, ha, sn, sl, hal, k⟩ := h
    let kof := c.kof
    refine ⟨_, (pss_cons (ps_mayLock (ps_setDcB (i := 1) (kof := kof) (own := [("owner", 2)]) (hu8 hr) fresh_dK rfl sc_waiters_by.nd rfl rfl (Mx.sw_dict rfl rfl rfl (by decide +kernel)) (pi_keys (pv 0)) (blkOk_by (own := [("owner", 2)]) (N := N_waiters_by) (sc := defScope s_waiters_by) (by decide +kernel)) (fun _ _ _ _ _ => (pg_name (i := 2) sc_waiters_by.nd rfl (Or.inl rfl))) (fun _ _ _ _ _ => pts_nil) (fun _ _ _ _ _ => (pv 2)) (fun _ _ _ _ _ => (pe_lst pa_nil))))
      (pss_cons (ps_mayLock (ps_for PassesOwn.never rfl (pi_itemsN (pv 0)) (pg_tup rfl (pgs_cons (pg_name (i := 2) sc_waiters_by.nd rfl (Or.inl rfl)) (pgs_cons (pg_name (i := 3) sc_waiters_by.nd rfl (Or.inl rfl)) pgs_nil)))
      (pss_one (ps_for PassesOwn.never rfl (pi_list (pv 3)) (pg_name (i := 4) sc_waiters_by.nd rfl (Or.inl rfl))
      (pss_one (ps_expr (pe_bm PySem.F.plainAttrs_list PySem.F.slot_list_append PySem.F.type_list_append mt_append (pe_dget (hu_of hr) (pv 1) (pv 4) (fun _ _ => rfl)) (pa_cons (pv 2) pa_nil))))))))
      (pss_one (ps_ret (pv 1))))), ?_⟩
    refine seq_mid (fun σ' Hx => ∃ r bl x3 x4, σ' = [some (.ref a), some (.ref r), none, x3, x4] ∧ Same H Hx ∧ H r = none ∧ Hx r = some (.dK (dRefs ss bl)) ∧ (∀ o ∈ ss, H (bl o) = none ∧ Hx (bl o) = some (.lst [])) ∧ ∀ o ∈ ss, ∀ o' ∈ ss, bl o = bl o' → o = o') (fun N hN => ?_) (fun σ' Hx h => ?_)
    · refine .inl ⟨a, _, ha, True.intro, fun od => ⟨_, rfl, _, _, rfl, .inl ⟨_, upd_same, fun Dd hDd => ?_⟩⟩⟩
      have nDa : Dd ≠ a := fun e => by rw [e, upd_same] at hDd; cases hDd
      have nD : H Dd = none := by rw [upd_ne nDa] at hDd; exact hDd
      have back : ∀ {x : Addr} {Hx : Hp}, Same (upd H a (.frz od (.dK (dRefs ss al)))) Hx → Hx x = none → H x = none := fun {x Hx} s h => by
        cases e : H x with
        | none => rfl
        | some o =>
          by_cases hx : x = a
          · rw [hx, s _ _ upd_same] at h; cases h
          · rw [s x o (by rw [upd_ne hx]; exact e)] at h; cases h
      have w := walk_keys (d := a) (o := od) (kvs := dRefs ss al)
      rw [List.length_map] at w
      refine Mx.dc_it (mk := fun _ => .dK []) (H1 := upd H a (.frz od (.dK (dRefs ss al)))) (D := Dd) w (fun j Hx => ∃ bl, Same (upd H a (.frz od (.dK (dRefs ss al)))) Hx ∧ Hx Dd = some (.dK (dRefs (ss.take j) bl)) ∧ (∀ o ∈ ss.take j, H (bl o) = none ∧ Hx (bl o) = some (.lst [])) ∧ ∀ o ∈ ss.take j, ∀ o' ∈ ss.take j, bl o = bl o' → o = o')
        (by exact ⟨fun _ => 0, same_new' hDd, upd_same, (fun o h => by cases h), (fun o h => by cases h)⟩) (fun j Hx _ ⟨bl, p, _⟩ => p _ _ upd_same) (fun j v Hx Hx' hj p hy => ?_) fun Hx p => ?_
      · obtain ⟨bl, s1, d1, b1, i1⟩ := p
        obtain ⟨rfl, key, val, hy, rfl⟩ := hy
        rw [List.getElem?_map] at hy
        cases hx : ss[j]? with
        | none => rw [hx] at hy; cases hy
        | some q =>
        rw [hx] at hy
        cases hy
        have nq : q ∉ ss.take j := St.fresh_at sn hx
        refine ⟨rfl, _, rfl, Nat.zero_le _, fun L hL => ⟨_, .inl (DPut.k (k := Sum.inl q) ((same_new' hL) _ _ d1) ?_), LT.put bl q L, same_at hDd (Same.trans s1 (same_new' hL)), ?_, ?_, ?_⟩⟩
        · rw [List.length_map, List.length_take, sizeLine_eq]
          omega
        · rw [upd_same, put_refs nq, St.take_one hx]
        · intro o ho
          rw [St.take_one hx] at ho
          rcases List.mem_append.mp ho with h | h
          · rw [LT.put_off _ _ fun e : o = q => nq (e ▸ h)]
            obtain ⟨z1, z2⟩ := b1 o h
            refine ⟨z1, ?_⟩
            have z3 := (same_new' (o := .lst []) hL) _ _ z2
            rw [upd_ne (ne_of z3 ((same_new' hL) _ _ d1) fun e => by cases e)]
            exact z3
          · rw [List.mem_singleton.mp h, LT.put_at]
            refine ⟨back s1 hL, ?_⟩
            rw [upd_ne (ne_of_none d1 hL).symm, upd_same]
        · intro o ho o' ho'
          rw [St.take_one hx] at ho ho'
          rcases List.mem_append.mp ho with h | h
          · have n1 : o ≠ q := fun e => nq (e ▸ h)
            rw [LT.put_off _ _ n1]
            rcases List.mem_append.mp ho' with h' | h'
            · rw [LT.put_off _ _ fun e : o' = q => nq (e ▸ h')]
              exact i1 o h o' h'
            · rw [List.mem_singleton.mp h', LT.put_at]
              intro e
              have z := (b1 o h).2
              rw [e, hL] at z
              cases z
          · rw [List.mem_singleton.mp h, LT.put_at]
            rcases List.mem_append.mp ho' with h' | h'
            · rw [LT.put_off _ _ fun e : o' = q => nq (e ▸ h')]
              intro e
              have z := (b1 o' h').2
              rw [← e, hL] at z
              cases z
            · rw [List.mem_singleton.mp h']
              exact fun _ => rfl
      · obtain ⟨bl, s1, d1, b1, i1⟩ := p
        rw [List.take_length] at d1 b1 i1
        have sz := same_unlock ha s1
        refine ⟨s1 _ _ upd_same, hN _ _ ⟨Dd, bl, _, _, rfl, sz, nD, by rw [upd_ne nDa]; exact d1, fun o ho => ?_, i1⟩⟩
        obtain ⟨z1, z2⟩ := b1 o ho
        refine ⟨z1, ?_⟩
        rw [upd_ne fun e => by rw [e, ha] at z1; cases z1]
        exact z2
    · obtain ⟨r, bl, x3, x4, rfl, s1, nr, d1, b1, i1⟩ := h
      have ra : r ≠ a := fun e => by rw [e, ha] at nr; cases nr
      refine seq_mid (fun σ' Hz => ∃ x2 x3 x4, σ' = [some (.ref a), some (.ref r), x2, x3, x4] ∧ Same H Hz ∧ Hz r = some (.dK (dRefs ss bl)) ∧ ∀ x ∈ ss, Hz (bl x) = some (.lst ((LT.before ss af x).map V.int))) (fun N hN => ?_) (fun σ' Hz h => ?_)
      · refine .inl ⟨a, _, s1 _ _ ha, True.intro, fun od => ⟨_, rfl, _, _, rfl, .inl ⟨od, upd_same, ?_⟩⟩⟩
        have w := walk_items (d := a) (o := od) (kvs := dRefs ss al)
        rw [List.length_map] at w
        refine for_it w (fun j σ Hy => ∃ x2 x3 x4, σ = [some (.ref a), some (.ref r), x2, x3, x4] ∧ Same (upd H a (.frz od (.dK (dRefs ss al)))) Hy ∧ Hy r = some (.dK (dRefs ss bl)) ∧ ∀ x ∈ ss, Hy (bl x) = some (.lst (((ss.take j).filter fun o => decide (x ∈ af o)).map V.int))) ?_ (fun j σ Hy _ p => ?_) (fun j v σ Hy Hy' hj p hy => ?_) fun σ Hy p => ?_
        · refine ⟨none, x3, x4, rfl, fun b o e => ?_, ?_, fun x hx => ?_⟩
          · by_cases hb : b = a
            · rw [hb, upd_same] at e ⊢; exact e
            · rw [upd_ne hb] at e ⊢; exact s1 b o e
          · rw [upd_ne ra]; exact d1
          · rw [upd_ne fun e => by have := (b1 x hx).1; rw [e, ha] at this; cases this]
            exact (b1 x hx).2
        · obtain ⟨x2, x3, x4, rfl, sy, _⟩ := p
          exact sy _ _ upd_same
        · obtain ⟨x2, x3, x4, rfl, sy, dy, py⟩ := p
          obtain ⟨Tt, x0, y0, rfl, hT, rfl, h0, h1⟩ := hy
          have h0 : (dRefs ss al)[j]?.map (fun kv => kV kv.1) = some x0 := h0
          have h1 : (dRefs ss al)[j]?.map Prod.snd = some y0 := h1
          have hq : ss[j]? = some ss[j] := List.getElem?_eq_getElem hj
          generalize ss[j] = q at hq
          rw [List.getElem?_map, hq] at h0 h1
          cases h0
          cases h1
          have qs := List.mem_of_getElem? hq
          obtain ⟨aq, an, as_⟩ := hal q qs
          have nqa : al q ≠ a := fun e => by rw [e, ha] at aq; cases aq
          have aq' : ∀ {Hw : Hp}, Same (upd H a (.frz od (.dK (dRefs ss al)))) Hw → Hw (al q) = some (.lst ((af q).map V.int)) := fun {Hw} s => s _ _ (by rw [upd_ne nqa]; exact aq)
          have s3 : Same Hy (upd Hy Tt (.tup [.int q, .ref (al q)])) := same_new' hT
          have sy3 := Same.trans sy s3
          refine ⟨Tt, _, rfl, .inl (.inl upd_same), rfl, _, _, rfl, _, _, rfl, rfl, ?_⟩
          refine ⟨_, rfl, _, rfl, ⟨_, .inl (.inl (aq' sy3))⟩, ?_⟩
          have w2 := walk_list (K := b.K) (a := al q) (xs := (af q).map V.int)
          rw [List.length_map] at w2
          refine for_it w2 (fun i σ Hw => ∃ x4, σ = [some (.ref a), some (.ref r), some (.int q), some (.ref (al q)), x4] ∧ Same (upd H a (.frz od (.dK (dRefs ss al)))) Hw ∧ Hw r = some (.dK (dRefs ss bl)) ∧ ∀ x ∈ ss, Hw (bl x) = some (.lst ((((ss.take j).filter fun o => decide (x ∈ af o)) ++ if x ∈ (af q).take i then [q] else []).map V.int))) ?_ (fun i σ Hw _ p => ?_) (fun i u σ Hw Hw' hi p hy => ?_) fun σ Hw p => ?_
          · refine ⟨x4, rfl, sy3, s3 _ _ dy, fun x hx => ?_⟩
            rw [List.take_zero, if_neg (by simp), List.append_nil]
            exact s3 _ _ (py x hx)
          · obtain ⟨x4, rfl, sw, _⟩ := p
            exact .inl (.inl (aq' sw))
          · obtain ⟨x4, rfl, sw, dw, pw⟩ := p
            obtain ⟨rfl, hy⟩ := hy
            rw [List.getElem?_map] at hy
            cases he : (af q)[i]? with
            | none => rw [he] at hy; cases hy
            | some e =>
            rw [he] at hy
            cases hy
            have es := as_ e (List.mem_of_getElem? he)
            have ne : e ∉ (af q).take i := St.fresh_at an he
            have pe := pw e es
            rw [if_neg ne, List.append_nil] at pe
            refine ⟨_, rfl, _, rfl, _, _, rfl, dget_refs (.inl dw) es, .inl ⟨rfl, _, .inl (.inl pe)⟩, _, rfl, _, _, _, rfl, rfl, pe, ?_, some (.int e), ?_⟩
            · have := List.length_filter_le (fun o => decide (e ∈ af o)) (ss.take j)
              rw [List.length_take] at this
              rw [List.length_map, sizeLine_eq]
              omega
            · refine ⟨rfl, fun b o z => ?_, ?_, fun x hx => ?_⟩
              · rw [upd_ne fun y => by
                  have n0 := (b1 e es).1
                  rw [← y] at n0
                  by_cases hb : b = a
                  · rw [hb, ha] at n0; cases n0
                  · rw [upd_ne hb, n0] at z; cases z]
                exact sw b o z
              · rw [upd_ne (ne_of dw pe fun z => by cases z)]
                exact dw
              · rw [St.take_one he]
                by_cases hxe : x = e
                · subst hxe
                  rw [upd_same, if_pos (List.mem_append_right _ (.head _)), List.map_append]
                  rfl
                · rw [upd_ne fun z => hxe (i1 x hx e es z), pw x hx]
                  have e2 : (x ∈ (af q).take i ++ [e]) ↔ x ∈ (af q).take i := ⟨fun z => (List.mem_append.mp z).elim id fun z => (hxe (List.mem_singleton.mp z)).elim, List.mem_append_left _⟩
                  simp only [e2]
          · obtain ⟨x4, rfl, sw, dw, pw⟩ := p
            refine ⟨_, _, _, rfl, sw, dw, fun x hx => ?_⟩
            rw [pw x hx, List.take_length, St.take_one hq, List.filter_append]
            congr 3
            by_cases h : x ∈ af q
            · rw [if_pos h, List.filter_cons_of_pos (by simpa using h), List.filter_nil]
            · rw [if_neg h, List.filter_cons_of_neg (by simpa using h), List.filter_nil]
        · obtain ⟨x2, x3, x4, rfl, sy, dy, py⟩ := p
          refine ⟨sy _ _ upd_same, hN _ _ ⟨_, _, _, rfl, same_unlock ha sy, by rw [upd_ne ra]; exact dy, fun x hx => ?_⟩⟩
          have nbx : bl x ≠ a := fun e => by have := (b1 x hx).1; rw [e, ha] at this; cases this
          rw [upd_ne nbx, py x hx, List.take_length]
          rfl
      · obtain ⟨x2, x3, x4, rfl, sz, dz, pz⟩ := h
        exact ⟨_, rfl, k _ r bl sz nr dz fun o ho => ⟨(b1 o ho).1, pz o ho⟩⟩
end Lk
end
section
set_option maxRecDepth 100000
set_option maxHeartbeats 1000000
/-! stuck_among. -/
namespace Lk
open PySem L2
open Mx (pe_msetd pe_mget pe_mget2 ps_mput pe_mnew pe_mayLock ps_mayLock pi_itemsN pi_itemsM fresh_dK)

abbrev cnD (ss : List Int) (g : Int → Int) : List (L2.Key × V) := ss.map fun o => (Sum.inl o, V.int (g o))
theorem put_cn {ss : List Int} {g : Int → Int} {e v : Int} (h : e ∈ ss) : putK (cnD ss g) (Sum.inl e) (.int v) = cnD ss fun o => if o = e then v else g o := by
  unfold putK
  have hy : ((cnD ss g).any fun kv => decide (kv.1 = Sum.inl e)) = true := List.any_eq_true.mpr ⟨(Sum.inl e, V.int (g e)), List.mem_map.mpr ⟨e, h, rfl⟩, by simp⟩
  rw [if_pos hy, List.map_map]
  refine List.map_congr_left fun x _ => ?_
  show (if (Sum.inl x : L2.Key) = Sum.inl e then _ else _) = (Sum.inl x, V.int (if x = e then v else g x))
  by_cases hx : x = e
  · rw [if_pos (by rw [hx]), if_pos hx]
  · rw [if_neg fun z => hx (by injection z), if_neg hx]
theorem dget_cn {H : Hp} {a : Addr} {ss : List Int} {g : Int → Int} {o : Int} (h : Rd H a (.dK (cnD ss g))) (ho : o ∈ ss) : DGet H a (.int o) (some (.int (g o))) :=
  .inl ⟨_, Sum.inl o, h, rfl, by rw [valV_os, if_pos ho]⟩
/-- within the peeling -/
structure PkC (H : Hp) (ss : List Int) (s r : Addr) (bl : Int → Addr) (Cd Fl : Addr) : Prop where
  nC : H Cd = none
  nF : H Fl = none
  rC : r ≠ Cd
  sF : s ≠ Fl
  rF : r ≠ Fl
  cF : Cd ≠ Fl
  bF : ∀ o ∈ ss, bl o ≠ Fl
structure PkI (b : Bs) (c : Tc) (H : Hp) (ad : Ad) (D : Dt) (ad1 : Ad) (ss : List Int) (s r : Addr) (bl : Int → Addr) (Cd Fl : Addr) (af : Int → List Int) (Hx : Hp) (g : Int → Int) (free : List Int) : Prop where
  go : Go b.w c H ad D Hx ad1 D
  hs : Hx s = some (.lst (ss.map V.int))
  hr : Hx r = some (.dK (dRefs ss bl))
  hb : ∀ o ∈ ss, Hx (bl o) = some (.lst ((LT.before ss af o).map V.int))
  hc : Off Hx ad1 D Cd (.dK (cnD ss g))
  hf : Off Hx ad1 D Fl (.lst (free.map V.int))
section
variable {b : Bs} {c : Tc} {H : Hp} {ad : Ad} {D : Dt} {ad1 : Ad} {ss : List Int} {s r : Addr} {bl : Int → Addr} {Cd Fl : Addr} {af : Int → List Int} {Hx Hy : Hp} {g g' : Int → Int} {free free' : List Int}
theorem PkI.same (x : PkI b c H ad D ad1 ss s r bl Cd Fl af Hx g free) (k : Same Hx Hy) : PkI b c H ad D ad1 ss s r bl Cd Fl af Hy g free :=
  ⟨x.go.then_ k, k _ _ x.hs, k _ _ x.hr, fun o ho => k _ _ (x.hb o ho), x.hc.same k, x.hf.same k⟩
theorem PkI.cn (x : PkI b c H ad D ad1 ss s r bl Cd Fl af Hx g free) (p : PkC H ss s r bl Cd Fl) : PkI b c H ad D ad1 ss s r bl Cd Fl af (upd Hx Cd (.dK (cnD ss g'))) g' free where
  go := x.go.mine p.nC x.hc fun xs h => by cases h
  hs := by rw [upd_ne (ne_of x.hs x.hc.at_ fun z => by cases z)]; exact x.hs
  hr := by rw [upd_ne p.rC]; exact x.hr
  hb o ho := by rw [upd_ne (ne_of (x.hb o ho) x.hc.at_ fun z => by cases z)]; exact x.hb o ho
  hc := ⟨upd_same, x.hc.no⟩
  hf := x.hf.upd p.cF.symm
theorem PkI.fr (x : PkI b c H ad D ad1 ss s r bl Cd Fl af Hx g free) (p : PkC H ss s r bl Cd Fl) : PkI b c H ad D ad1 ss s r bl Cd Fl af (upd Hx Fl (.lst (free'.map V.int))) g free' where
  go := x.go.mine p.nF x.hf lst_ne
  hs := by rw [upd_ne p.sF]; exact x.hs
  hr := by rw [upd_ne p.rF]; exact x.hr
  hb o ho := by rw [upd_ne (p.bF o ho)]; exact x.hb o ho
  hc := x.hc.upd p.cF
  hf := ⟨upd_same, x.hf.no⟩
end
abbrev spStuckAm (b : Bs) (c : Tc) : Sp := fun vs H Q _ => ∃ (ad : Ad) (D : Dt) (s : Addr), vs = [.ref (ad.at_ .tab), .ref s] ∧ At b.w c H ad D ∧ c.Ok b.K H ∧ Wf c D ∧ Off H ad D s (.lst ((LT.askers c.U D.ts).map V.int)) ∧
  ∀ H' ad' r, Go b.w c H ad D H' ad' D → H r = none → Off H' ad' D r (.lst ((LT.stuckL c.M c.U D.ts).map V.int)) → Q (.ref r) H'
abbrev s_LockTable_stuck_among : Stmt := inClass (top 38) 15
abbrev N_LockTable_stuck_among : List Str := ["self", "some", "after", "free", "before", "counts", "one", "owner"]
abbrev P_LockTable_stuck_among : List Str := ["self", "some"]
theorem sc_LockTable_stuck_among : FnScope N_LockTable_stuck_among P_LockTable_stuck_among (defScope s_LockTable_stuck_among) := ⟨rfl, rfl, rfl, by decide +kernel, rfl, by decide +kernel, by decide +kernel⟩
theorem ok_stuck_among {b : Bs} {c : Tc} (R : RawM b c.CT "stuck_among" "LockTable.stuck_among" s_LockTable_stuck_among P_LockTable_stuck_among) (K : ClsOk b.K c) (T : Tops b) (D_waits_among : Mt b 5 c.CT "waits_among" P_LockTable_waits_among (spAmong b c)) (D_waiters_by : Df b 1 "waiters_by" P_waiters_by spBy) :
    Mt b 6 c.CT "stuck_among" P_LockTable_stuck_among (spStuckAm b c) := by
  refine R.ok K.cT sc_LockTable_stuck_among (fun vs H Q E h => ?_) fun f cdv A outer s0 H vs Q E hr h => ?_
  · obtain ⟨ad, D, s, rfl, _⟩ := h
    rfl
  · obtain ⟨ad, D, s, rfl, A0, O0, W, os, k⟩ := h
    let kof := c.kof
    refine ⟨_, (pss_cons (ps_set (i := 2) sc_LockTable_stuck_among.nd rfl (Or.inr rfl) (pe_mtd D_waits_among (pv 0) (hr.mono (by decide)) (pa_cons (pv 1) pa_nil)))
      (pss_cons (ps_asg (pe_tup (pa_cons (pe_df D_waiters_by (hr.mono (by decide)) (pa_cons (pv 2) pa_nil)) (pa_cons (pe_mayLock (pe_dcB (kof := kof) (own := [("owner", 7)]) (hu8 hr) fresh_dK rfl sc_LockTable_stuck_among.nd (pi_keys (pv 2)) (blkOk_by (own := [("owner", 7)]) (N := N_LockTable_stuck_among) (sc := defScope s_LockTable_stuck_among) (by decide +kernel)) (fun _ _ _ _ _ => (pg_name (i := 7) sc_LockTable_stuck_among.nd rfl (Or.inl rfl))) (fun _ _ _ _ _ => pts_nil) (fun _ _ _ _ _ => (pv 7)) (fun _ _ _ _ _ => (pe_callB call_len_seq (by rfl) T.b_len (by decide +kernel) (pa_cons (pe_dget (hu_of hr) (pv 2) (pv 7) (fun _ _ => rfl)) pa_nil))))) pa_nil))) (pg_tup rfl (pgs_cons (pg_name (i := 4) sc_LockTable_stuck_among.nd rfl (Or.inl rfl)) (pgs_cons (pg_name (i := 5) sc_LockTable_stuck_among.nd rfl (Or.inr rfl)) pgs_nil))))
      (pss_cons (ps_setLcB (i := 3) (own := [("owner", 7)]) rfl sc_LockTable_stuck_among.nd rfl rfl (sw_true rfl rfl rfl (by decide +kernel)) (pi_list (pv 1)) (blkOk_by (own := [("owner", 7)]) (N := N_LockTable_stuck_among) (sc := defScope s_LockTable_stuck_among) (by decide +kernel)) (fun _ _ _ _ _ => (pg_name (i := 7) sc_LockTable_stuck_among.nd rfl (Or.inl rfl))) (fun _ _ _ _ _ => (pts_one (pt_cmpR op_eq (pe_dget (hu_of hr) (pv 5) (pv 7) (fun _ _ => rfl)) pe_int (nomark _)))) (fun _ _ _ _ _ => (pv 7)))
      (pss_cons (ps_while PassesOwn.never (pt_cmpR (op_neD hr.units) (pv 3) (pe_lst pa_nil) (nomark _))
      (pss_one (ps_for PassesOwn.never rfl (pi_list (pe_dget (hu_of hr) (pv 4) (pe_bm0 PySem.F.plainAttrs_list PySem.F.slot_list_pop PySem.F.type_list_pop mt_pop (pv 3)) (fun _ _ => rfl))) (pg_name (i := 6) sc_LockTable_stuck_among.nd rfl (Or.inl rfl))
      (pss_cons (ps_daug (hu_of hr) (pv 5) (pv 6) pe_int in_sub (fun _ _ _ => rfl))
      (pss_one (ps_if (pt_cmpR op_eq (pe_dget (hu_of hr) (pv 5) (pv 6) (fun _ _ => rfl)) pe_int (nomark _)) (pss_one (ps_expr (pe_bm PySem.F.plainAttrs_list PySem.F.slot_list_append PySem.F.type_list_append mt_append (pv 3) (pa_cons (pv 6) pa_nil)))) pss_nil))))))
      (pss_one (ps_ret (pe_lcB (own := [("owner", 7)]) rfl sc_LockTable_stuck_among.nd (pi_list (pv 1)) (blkOk_by (own := [("owner", 7)]) (N := N_LockTable_stuck_among) (sc := defScope s_LockTable_stuck_among) (by decide +kernel)) (fun _ _ _ _ _ => (pg_name (i := 7) sc_LockTable_stuck_among.nd rfl (Or.inl rfl))) (fun _ _ _ _ _ => (pts_one (pt_cmpR op_gt (pe_dget (hu_of hr) (pv 5) (pv 7) (fun _ _ => rfl)) pe_int (nomark _)))) (fun _ _ _ _ _ => (pv 7))))))))), ?_⟩
    have sn : (LT.askers c.U D.ts).Nodup := O0.un.filter _
    have sU : ∀ o ∈ LT.askers c.U D.ts, o ∈ c.U := fun o ho => (List.mem_filter.mp ho).1
    have sl : (LT.askers c.U D.ts).length ≤ 20 := Nat.le_trans (List.length_filter_le ..) O0.ul
    have ws : ∀ gone, LT.Peel (LT.askers c.U D.ts) (afL c D.ts (LT.askers c.U D.ts)) gone [] → ((LT.askers c.U D.ts).filter fun o => decide (LT.cnt (afL c D.ts (LT.askers c.U D.ts)) gone o ≠ 0)) = LT.stuckL c.M c.U D.ts := fun gone p => LT.peel_stuck W p
    have afn : ∀ o, (afL c D.ts (LT.askers c.U D.ts) o).Nodup := fun o => LT.after_nodup O0.un _ o
    have afs : ∀ o x, x ∈ afL c D.ts (LT.askers c.U D.ts) o → x ∈ LT.askers c.U D.ts := fun o x h => LT.after_sub _ o x h
    refine ⟨_, rfl, _, _, _, rfl, A0.at_ .tab True.intro, rfl, _, rfl, ad, D, s, _, rfl, A0, O0, W, os, sn, sU, fun H1 ad1 a al g1 na oa ol => ?_⟩
    have os1 := os.go g1
    have A1 := g1.at_
    generalize LT.askers c.U D.ts = ss at *
    generalize haf : afL c D.ts ss = af at *
    dsimp only [gName]
    refine seq_mid (fun σ' H3 => ∃ r bl Cd, σ' = [some (.ref (ad.at_ .tab)), some (.ref s), some (.ref a), none, some (.ref r), some (.ref Cd), none, none] ∧ r ≠ Cd ∧ Same H1 H3 ∧ H3 r = some (.dK (dRefs ss bl)) ∧ (∀ o ∈ ss, H3 (bl o) = some (.lst ((LT.before ss af o).map V.int))) ∧ H1 Cd = none ∧ H3 Cd = some (.dK (cnD ss fun o => ((af o).length : Nat)))) (fun N hN => ?_) (fun σ' H3 h => ?_)
    · refine ⟨_, rfl, a, ss, al, af, rfl, oa.at_, sn, sl, fun o ho => ⟨(ol o ho).2.at_, afn o, afs o⟩, fun H2 r bl s2 nr dr hb => ?_⟩
      have ha2 := s2 _ _ oa.at_
      refine .inl ⟨a, _, ha2, True.intro, fun od => ⟨_, rfl, _, _, rfl, .inl ⟨_, upd_same, fun Cd hC => ?_⟩⟩⟩
      have nCa : Cd ≠ a := fun e => by rw [e, upd_same] at hC; cases hC
      have nC2 : H2 Cd = none := by rw [upd_ne nCa] at hC; exact hC
      have w := walk_keys (d := a) (o := od) (kvs := dRefs ss al)
      rw [List.length_map] at w
      refine Mx.dc_it (mk := fun _ => .dK []) (H1 := upd H2 a (.frz od (.dK (dRefs ss al)))) (D := Cd) w (fun j Hx => Same (upd H2 a (.frz od (.dK (dRefs ss al)))) Hx ∧ Hx Cd = some (.dK (cnD (ss.take j) fun o => ((af o).length : Nat))))
        (by exact ⟨same_new' hC, upd_same⟩) (fun j Hx _ p => p.1 _ _ upd_same) (fun j v Hx Hx' hj p hy => ?_) fun Hx p => ?_
      · obtain ⟨s3, d3⟩ := p
        obtain ⟨rfl, key, val, hy, rfl⟩ := hy
        rw [List.getElem?_map] at hy
        cases hx : ss[j]? with
        | none => rw [hx] at hy; cases hy
        | some q =>
        rw [hx] at hy
        cases hy
        have qs := List.mem_of_getElem? hx
        have nq : q ∉ ss.take j := St.fresh_at sn hx
        have aq := s2 _ _ (ol q qs).2.at_
        have naq : al q ≠ a := ne_of aq ha2 fun z => by cases z
        refine ⟨rfl, _, rfl, _, rfl, _, rfl, _, _, rfl, dget_refs (.inr ⟨od, s3 _ _ upd_same⟩) qs, _, _, rfl, .inl (.inl (.inl (s3 _ _ (by rw [upd_ne naq]; exact aq)))), _, .inl (DPut.k (k := Sum.inl q) d3 ?_), same_at hC s3, ?_⟩
        · rw [List.length_map, List.length_take, sizeLine_eq]
          omega
        · rw [upd_same, St.take_one hx, List.length_map]
          have hn : ¬ ((cnD (ss.take j) fun o => ((af o).length : Nat)).any fun kv => decide (kv.1 = Sum.inl q)) = true := fun z => by
            obtain ⟨kv, hk, e⟩ := List.any_eq_true.mp z
            obtain ⟨y, hy, rfl⟩ := List.mem_map.mp hk
            have e2 := of_decide_eq_true e
            injection e2 with e2
            exact nq (e2 ▸ hy)
          unfold putK
          rw [if_neg hn]
          show _ = some (HO.dK (List.map _ (ss.take j ++ [q])))
          rw [List.map_append]
          rfl
      · obtain ⟨s3, d3⟩ := p
        rw [List.take_length] at d3
        have sz := same_unlock ha2 s3
        have dz : (upd Hx a (.dK (dRefs ss al))) Cd = some (.dK (cnD ss fun o => ((af o).length : Nat))) := by rw [upd_ne nCa]; exact d3
        refine ⟨s3 _ _ upd_same, two_le, fun p hp => ?_⟩
        have s4 := same_new' (o := .tup [.ref r, .ref Cd]) hp
        refine ⟨p, _, rfl, .inl (.inl upd_same), rfl, _, _, rfl, _, _, rfl, rfl, ?_⟩
        exact hN _ _ ⟨r, bl, Cd, rfl, ne_of_none dr nC2, Same.trans s2 (Same.trans sz s4), s4 _ _ (sz _ _ dr), fun o ho => s4 _ _ (sz _ _ (hb o ho).2), none_same s2 nC2, s4 _ _ dz⟩
    · obtain ⟨r, bl, Cd, rfl, rC, s3, dr, hb, nC, dc⟩ := h
      have g3 := g1.then_ s3
      have os3 := os1.same s3
      have A3 := g3.at_
      have nC0 : H Cd = none := g1.none_ A0 nC
      have oC3 : Off H3 ad1 D Cd (.dK (cnD ss fun o => ((af o).length : Nat))) := ⟨dc, off_new A1 nC⟩
      refine seq_mid (fun σ' H4 => ∃ Fl, σ' = [some (.ref (ad.at_ .tab)), some (.ref s), some (.ref a), some (.ref Fl), some (.ref r), some (.ref Cd), none, none] ∧ PkC H ss s r bl Cd Fl ∧ PkI b c H ad D ad1 ss s r bl Cd Fl af H4 (fun o => ((af o).length : Nat)) (ss.filter fun o => decide ((af o).length = 0))) (fun N hN => ?_) (fun σ' H4 h => ?_)
      · refine ⟨_, rfl, _, rfl, ⟨_, .inl (.inl os3.at_)⟩, fun Fl hF => ?_⟩
        have w := walk_list (K := b.K) (a := s) (xs := ss.map V.int)
        rw [List.length_map] at w
        refine lc_sel (xs := ss) w (fun o => decide ((af o).length = 0)) V.int hF (by rw [sizeLine_eq]; omega) (fun Hx q => .inl (.inl (q _ _ os3.at_))) (fun i e x Hx Hx' Q' N' he sx hy q1 q2 => ?_) fun Hx sx ex => ?_
        · obtain ⟨rfl, hy⟩ := hy
          rw [List.getElem?_map, he] at hy
          cases hy
          refine ⟨rfl, _, rfl, _, rfl, _, _, rfl, dget_cn (.inl (sx _ _ dc)) (List.mem_of_getElem? he), rfl, _, rfl, ?_⟩
          have e0 : decide (V.int (((af e).length : Nat) : Int) = V.int 0) = decide ((af e).length = 0) := decide_eq_decide.mpr ⟨fun z => by injection z with z; omega, fun z => by rw [z]; rfl⟩
          rw [e0]
          by_cases h : (af e).length = 0
          · rw [decide_eq_true h] at q1 ⊢
            exact iteT ⟨_, rfl, q1 rfl _ (Same.refl _)⟩
          · rw [decide_eq_false h] at q2 ⊢
            exact iteF (q2 rfl _ (Same.refl _))
        · refine hN _ _ ⟨Fl, rfl, ⟨nC0, g3.none_ A0 hF, rC, ne_of_none os3.at_ hF, ne_of_none dr hF, ne_of_none dc hF, fun o ho => ne_of_none (hb o ho) hF⟩, g3.then_ sx, sx _ _ os3.at_, sx _ _ dr, fun o ho => sx _ _ (hb o ho), oC3.same sx, ex, off_new A3 hF⟩
      · obtain ⟨Fl, rfl, pc, pi⟩ := h
        refine seq_mid (fun σ' H5 => ∃ x6 gone, σ' = [some (.ref (ad.at_ .tab)), some (.ref s), some (.ref a), some (.ref Fl), some (.ref r), some (.ref Cd), x6, none] ∧ PkI b c H ad D ad1 ss s r bl Cd Fl af H5 (fun o => ((LT.cnt af gone o : Nat) : Int)) [] ∧ LT.Peel ss af gone []) (fun N hN => ?_) (fun σ' H5 h => ?_)
        · refine ⟨fun n σ Hx => ∃ x6 gone free, σ = [some (.ref (ad.at_ .tab)), some (.ref s), some (.ref a), some (.ref Fl), some (.ref r), some (.ref Cd), x6, none] ∧ n = ss.length - gone.length ∧ PkI b c H ad D ad1 ss s r bl Cd Fl af Hx (fun o => ((LT.cnt af gone o : Nat) : Int)) free ∧ LT.Peel ss af gone free, ⟨_, none, [], _, rfl, rfl, ?_, LT.Peel.start sn⟩, ?_⟩
          · have e : (fun o => ((LT.cnt af [] o : Nat) : Int)) = fun o => (((af o).length : Nat) : Int) := by funext o; rw [LT.cnt_nil]
            rw [e]
            exact pi
          · rintro n σ Hx ⟨x6, gone, free, rfl, rfl, px, pl⟩
            refine ⟨_, rfl, Nat.zero_le _, fun p hp => ⟨.list (free.map PyData.int), .list [], .lst (.inl (.inl ((same_new' hp) _ _ px.hf.at_))) (dp_ints _), .lst (.inl (.inl upd_same)) .nil, (Sh.lst (sh_ints _)).ok (by omega), sh_nil, _, rfl, ?_⟩⟩
            have px := px.same (same_new' (o := .lst []) hp)
            generalize upd Hx p (.lst []) = Hy at px ⊢
            rw [eqv_nil, show decide (free.map PyData.int = []) = decide (free = []) from decide_eq_decide.mpr List.map_eq_nil_iff]
            rcases List.eq_nil_or_concat free with rfl | ⟨fr, x, rfl⟩
            · exact iteF (hN _ _ ⟨x6, gone, rfl, px, pl⟩)
            · rw [List.concat_eq_append] at *
              rw [decide_eq_false (by simp)]
              refine iteT ⟨_, fun _ _ h => h, ?_⟩
              have hx : x ∈ ss := pl.sub x (by simp)
              have hgx : x ∉ gone := fun h => by
                have z := pl.nd
                rw [List.nodup_append] at z
                exact z.2.2 x h x (by simp) rfl
              have hbx := px.hb x hx
              have dl : ((fr ++ [x]).map V.int).dropLast = fr.map V.int := by rw [List.map_append]; simp
              have lst : ((fr ++ [x]).map V.int)[((fr ++ [x]).map V.int).length - 1]? = some (.int x) := by simp
              have pz := px.fr pc (free' := fr)
              have bn : (LT.before ss af x).Nodup := sn.filter _
              have bm : ∀ e, e ∈ LT.before ss af x ↔ e ∈ ss ∧ x ∈ af e := fun e => by unfold LT.before; rw [List.mem_filter, decide_eq_true_iff]
              refine ⟨_, rfl, _, rfl, .inl ⟨rfl, _, .inl (.inl px.hf.at_)⟩, _, _, _, rfl, rfl, px.hf.at_, lst, _, _, rfl, dget_refs (.inl (by rw [dl]; exact pz.hr)) hx, _, rfl, ⟨_, .inl (.inl (by rw [dl]; exact pz.hb x hx))⟩, ?_⟩
              rw [dl]
              generalize upd Hy Fl (.lst (fr.map V.int)) = Hz at pz ⊢
              have w := walk_list (K := b.K) (a := bl x) (xs := (LT.before ss af x).map V.int)
              rw [List.length_map] at w
              have bl_len : (LT.before ss af x).length ≤ 20 := Nat.le_trans (List.length_filter_le ..) sl
              refine for_it w (fun i σ Hw => ∃ x6, σ = [some (.ref (ad.at_ .tab)), some (.ref s), some (.ref a), some (.ref Fl), some (.ref r), some (.ref Cd), x6, none] ∧ PkI b c H ad D ad1 ss s r bl Cd Fl af Hw (fun o => if o ∈ (LT.before ss af x).take i then ((LT.cnt af (gone ++ [x]) o : Nat) : Int) else ((LT.cnt af gone o : Nat) : Int)) (fr ++ ((LT.before ss af x).take i).filter fun o => decide (LT.cnt af (gone ++ [x]) o = 0))) ?_ (fun i σ Hw _ p => ?_) (fun i v σ Hw Hw' hi p hy => ?_) fun σ Hw p => ?_
              · refine ⟨x6, rfl, ?_⟩
                rw [List.take_zero, List.filter_nil, List.append_nil]
                simp only [List.not_mem_nil, if_false]
                exact pz
              · obtain ⟨x6, rfl, pw⟩ := p
                exact .inl (.inl (pw.hb x hx))
              · obtain ⟨x6, rfl, pw⟩ := p
                obtain ⟨rfl, hy⟩ := hy
                rw [List.getElem?_map] at hy
                cases he : (LT.before ss af x)[i]? with
                | none => rw [he] at hy; cases hy
                | some e =>
                rw [he] at hy
                cases hy
                obtain ⟨es, ex⟩ := (bm e).mp (List.mem_of_getElem? he)
                have ne : e ∉ (LT.before ss af x).take i := St.fresh_at bn he
                have cm := LT.cnt_more (after := af) afn hgx e
                rw [if_pos ex] at cm
                refine ⟨_, rfl, _, rfl, _, _, rfl, dget_cn (.inl pw.hc.at_) es, _, _, rfl, rfl, _, DPut.k (k := Sum.inl e) pw.hc.at_ (by rw [List.length_map, sizeLine_eq]; omega), ?_⟩
                rw [put_cn es, if_neg ne]
                have eg : (fun o => if o = e then (((LT.cnt af gone e : Nat) : Int) - 1) else if o ∈ (LT.before ss af x).take i then ((LT.cnt af (gone ++ [x]) o : Nat) : Int) else ((LT.cnt af gone o : Nat) : Int)) = fun o => if o ∈ (LT.before ss af x).take (i + 1) then ((LT.cnt af (gone ++ [x]) o : Nat) : Int) else ((LT.cnt af gone o : Nat) : Int) := by
                  funext o
                  rw [St.take_one he]
                  by_cases h : o = e
                  · rw [if_pos h, if_pos (List.mem_append_right _ (by rw [h]; exact .head _)), h]
                    omega
                  · rw [if_neg h]
                    have e2 : (o ∈ (LT.before ss af x).take i ++ [e]) ↔ o ∈ (LT.before ss af x).take i := ⟨fun z => (List.mem_append.mp z).elim id fun z => (h (List.mem_singleton.mp z)).elim, List.mem_append_left _⟩
                    simp only [e2]
                rw [eg]
                have pv := pw.cn pc (g' := fun o => if o ∈ (LT.before ss af x).take (i + 1) then ((LT.cnt af (gone ++ [x]) o : Nat) : Int) else ((LT.cnt af gone o : Nat) : Int))
                generalize upd Hw' Cd (.dK (cnD ss fun o => if o ∈ (LT.before ss af x).take (i + 1) then ((LT.cnt af (gone ++ [x]) o : Nat) : Int) else ((LT.cnt af gone o : Nat) : Int))) = Hv at pv ⊢
                refine ⟨_, rfl, _, rfl, _, _, rfl, dget_cn (.inl pv.hc.at_) es, rfl, _, rfl, ?_⟩
                have e1 : e ∈ (LT.before ss af x).take (i + 1) := by rw [St.take_one he]; exact List.mem_append_right _ (.head _)
                rw [if_pos e1]
                have e0 : decide (V.int ((LT.cnt af (gone ++ [x]) e : Nat) : Int) = V.int 0) = decide (LT.cnt af (gone ++ [x]) e = 0) := decide_eq_decide.mpr ⟨fun z => by injection z with z; omega, fun z => by rw [z]; rfl⟩
                rw [e0]
                by_cases h : LT.cnt af (gone ++ [x]) e = 0
                · rw [decide_eq_true h]
                  have el : (fr ++ ((LT.before ss af x).take (i + 1)).filter fun o => decide (LT.cnt af (gone ++ [x]) o = 0)) = (fr ++ ((LT.before ss af x).take i).filter fun o => decide (LT.cnt af (gone ++ [x]) o = 0)) ++ [e] := by
                    rw [St.take_one he, List.filter_append, List.filter_cons_of_pos (by simpa using h), List.filter_nil, List.append_assoc]
                  refine iteT ⟨_, rfl, .inl ⟨rfl, _, .inl (.inl pv.hf.at_)⟩, _, rfl, _, _, _, rfl, rfl, pv.hf.at_, ?_, _, rfl, ?_⟩
                  · have l1 := (pl.nd).length_le_of_subset (l₂ := ss) fun y hy => pl.sub y hy
                    have l2 := List.length_filter_le (fun o => decide (LT.cnt af (gone ++ [x]) o = 0)) ((LT.before ss af x).take i)
                    rw [List.length_take] at l2
                    rw [List.length_append, List.length_append] at l1
                    rw [List.length_map, List.length_append, sizeLine_eq]
                    omega
                  · rw [show ∀ l : List Int, l.map V.int ++ [V.int e] = (l ++ [e]).map V.int from fun l => by rw [List.map_append]; rfl, ← el]
                    exact pv.fr pc
                · rw [decide_eq_false h]
                  refine iteF ⟨_, rfl, ?_⟩
                  rw [St.take_one he, List.filter_append, List.filter_cons_of_neg (by simpa using h), List.filter_nil, List.append_nil]
                  rw [← St.take_one he]
                  exact pv
              · obtain ⟨x6, rfl, pw⟩ := p
                rw [List.take_length] at pw
                have l1 := (pl.nd).length_le_of_subset (l₂ := ss) fun y hy => pl.sub y hy
                rw [List.length_append, List.length_append, List.length_singleton] at l1
                have e3 : cnD ss (fun o => if o ∈ LT.before ss af x then ((LT.cnt af (gone ++ [x]) o : Nat) : Int) else ((LT.cnt af gone o : Nat) : Int)) = cnD ss fun o => ((LT.cnt af (gone ++ [x]) o : Nat) : Int) := by
                  refine List.map_congr_left fun o ho => ?_
                  dsimp only
                  by_cases h : o ∈ LT.before ss af x
                  · rw [if_pos h]
                  · rw [if_neg h]
                    have cm := LT.cnt_more (after := af) afn hgx o
                    rw [if_neg fun z => h ((bm o).mpr ⟨ho, z⟩)] at cm
                    rw [cm]
                    rfl
                refine ⟨ss.length - (gone.length + 1), by omega, x6, gone ++ [x], _, rfl, by rw [List.length_append]; rfl, ⟨pw.go, pw.hs, pw.hr, pw.hb, ?_, pw.hf⟩, pl.step sn afn⟩
                have z := pw.hc
                rw [e3] at z
                exact z
        · obtain ⟨x6, gone, rfl, px, pl⟩ := h
          refine ⟨_, rfl, _, rfl, ⟨_, .inl (.inl px.hs)⟩, fun L hL => ?_⟩
          have w := walk_list (K := b.K) (a := s) (xs := ss.map V.int)
          rw [List.length_map] at w
          refine lc_sel (xs := ss) w (fun o => decide (LT.cnt af gone o ≠ 0)) V.int hL (by rw [sizeLine_eq]; omega) (fun Hx q => .inl (.inl (q _ _ px.hs))) (fun i e x Hx Hx' Q' N' he sx hy q1 q2 => ?_) fun Hx sx ex => ?_
          · obtain ⟨rfl, hy⟩ := hy
            rw [List.getElem?_map, he] at hy
            cases hy
            refine ⟨rfl, _, rfl, _, rfl, _, _, rfl, dget_cn (.inl (sx _ _ px.hc.at_)) (List.mem_of_getElem? he), _, _, rfl, rfl, _, rfl, ?_⟩
            have e0 : decide ((0 : Int) < ((LT.cnt af gone e : Nat) : Int)) = decide (LT.cnt af gone e ≠ 0) := decide_eq_decide.mpr ⟨fun z => by omega, fun z => by omega⟩
            rw [e0]
            by_cases h : LT.cnt af gone e ≠ 0
            · rw [decide_eq_true h] at q1 ⊢
              exact iteT ⟨_, rfl, q1 rfl _ (Same.refl _)⟩
            · rw [decide_eq_false h] at q2 ⊢
              exact iteF (q2 rfl _ (Same.refl _))
          · rw [ws gone pl] at ex
            exact k Hx ad1 L (px.go.then_ sx) (px.go.none_ A0 hL) ⟨ex, off_new px.go.at_ hL⟩
end Lk
end
section
set_option maxRecDepth 100000
set_option maxHeartbeats 1000000
/-! stuck_owners; LockTable.__init__. -/
namespace Lk
open PySem L2
open Mx (pe_msetd pe_mget pe_mget2 ps_mput pe_mnew pe_mayLock ps_mayLock pi_itemsN pi_itemsM fresh_dK)

abbrev spStuck (b : Bs) (c : Tc) : Sp := fun vs H Q _ => ∃ (ad : Ad) (D : Dt), vs = [.ref (ad.at_ .tab)] ∧ At b.w c H ad D ∧ c.Ok b.K H ∧ Wf c D ∧
  ∀ H' ad' r, Go b.w c H ad D H' ad' D → H r = none → Off H' ad' D r (.lst ((LT.stuckL c.M c.U D.ts).map V.int)) → Q (.ref r) H'
abbrev s_LockTable_stuck_owners : Stmt := inClass (top 38) 16
abbrev N_LockTable_stuck_owners : List Str := ["self"]
abbrev P_LockTable_stuck_owners : List Str := ["self"]
theorem sc_LockTable_stuck_owners : FnScope N_LockTable_stuck_owners P_LockTable_stuck_owners (defScope s_LockTable_stuck_owners) := ⟨rfl, rfl, rfl, by decide +kernel, rfl, by decide +kernel, by decide +kernel⟩
theorem askers_sorted {c : Tc} {K : PySem.W.Frag} {H : Hp} {D : Dt} (O : c.Ok K H) (W : Wf c D) (ok : D.Ok c) {ys : List Int} (pm : ys.Perm (D.al.map (·.1))) (st : ys.Pairwise (· ≤ ·)) : ys = LT.askers c.U D.ts := by
  refine sorted_eq (fun x => x) (strict_of (fun x : Int => x) st (by simpa using pm.nodup_iff.mpr ok.aln)) ?_ fun x => ?_
  · unfold LT.askers
    exact O.srt.sublist (List.filter_sublist ..)
  · rw [pm.mem_iff, LT.mem_askers W]
    constructor
    · intro h
      obtain ⟨e, he, rfl⟩ := List.mem_map.mp h
      exact ⟨_, asks_at ok he⟩
    · rintro ⟨⟨i, m⟩, h⟩
      obtain ⟨p, hp⟩ := asks_al h
      exact List.mem_map.mpr ⟨_, (lookup_mem ok.aln).mp hp, rfl⟩
theorem ok_stuck_owners {b : Bs} {c : Tc} (R : RawM b c.CT "stuck_owners" "LockTable.stuck_owners" s_LockTable_stuck_owners P_LockTable_stuck_owners) (K : ClsOk b.K c) (T : Tops b) (D_stuck_among : Mt b 6 c.CT "stuck_among" P_LockTable_stuck_among (spStuckAm b c)) :
    Mt b 7 c.CT "stuck_owners" P_LockTable_stuck_owners (spStuck b c) := by
  refine R.ok K.cT sc_LockTable_stuck_owners (fun vs H Q E h => ?_) fun f cdv A outer s0 H vs Q E hr h => ?_
  · obtain ⟨ad, D, rfl, _⟩ := h
    rfl
  · obtain ⟨ad, D, rfl, A0, O0, W, k⟩ := h
    refine ⟨_, (pss_one (ps_ret (pe_mtd D_stuck_among (pv 0) (hr.mono (by decide)) (pa_cons (pe_callB (call_sortedDI rfl) (by rfl) T.b_sorted (by decide +kernel) (pa_cons (pe_fld (pv 0) rfl) pa_nil)) pa_nil)))), ?_⟩
    have ta := A0.at_ .tab True.intro
    have al := al_len W A0.ok O0.ul
    refine ⟨_, rfl, _, _, _, rfl, ta, rfl, _, rfl, _, _, _, _, _, rfl, ta, K.cT, K.nT _ (by simp), rfl, _, _, D.al.map (·.1), rfl, .inl (A0.at_ .asks True.intro), by rw [List.map_map, List.map_map]; rfl, by rw [List.length_map]; omega, fun ys p pm st np => ?_⟩
    have e := askers_sorted O0 W A0.ok pm st
    subst e
    have s1 := same_new' (o := .lst ((LT.askers c.U D.ts).map V.int)) np
    exact ⟨ad, D, p, rfl, A0.same s1, O0.mono (Same.tups s1), W, Off.new A0 np, fun H' ad' r g nr o => k H' ad' r ((Go.same A0 s1).trans g) (none_same s1 nr) o⟩
end Lk
end
section
set_option maxRecDepth 100000
set_option maxHeartbeats 1000000
/-! LockTable.__init__, spot_twin. -/
namespace Lk
open PySem L2
open Mx (pe_msetd pe_mget pe_mget2 ps_mput pe_mnew pe_mayLock ps_mayLock pi_itemsN pi_itemsM fresh_dK fresh_mix)

theorem obj_step {H : Hp} {x p : Addr} {u O I : HO} (hx : H x = some u) (hp : H p = none) : (∀ b o, H b = some o → b ≠ x → (upd (upd H p O) x I) b = some o) ∧ (upd (upd H p O) x I) x = some I ∧ (upd (upd H p O) x I) p = some O :=
  ⟨fun b o e n => by rw [upd_ne n]; exact same_new' hp _ _ e, upd_same, by rw [upd_ne (ne_of_none hx hp).symm, upd_same]⟩
abbrev tabF (mo p q r : Addr) : List (Str × V) := [("modes", .ref mo), ("spots", .ref p), ("items_by_owner", .ref q), ("asks", .ref r)]
abbrev spTabInit (b : Bs) (c : Tc) : Sp := fun vs H Q _ => ∃ x dx : Addr, vs = [.ref x, .ref c.mo] ∧ H x = some (.ins c.CT dx []) ∧ c.Ok b.K H ∧ ∀ (H' : Hp) (p q r : Addr), (∀ y o, H y = some o → y ≠ x → H' y = some o) → H p = none → H q = none → H r = none → p ≠ q → p ≠ r → q ≠ r →
  H' p = some (Mx.MixO b.w c.kof p []) → H' q = some (.dK []) → H' r = some (.dK []) → H' x = some (.ins c.CT dx (tabF c.mo p q r)) → Q .non H'
abbrev s_LockTable_init : Stmt := inClass (top 38) 0
abbrev N_LockTable_init : List Str := ["self", "modes"]
abbrev P_LockTable_init : List Str := ["self", "modes"]
theorem sc_LockTable_init : FnScope N_LockTable_init P_LockTable_init (defScope s_LockTable_init) := ⟨rfl, rfl, rfl, by decide +kernel, rfl, by decide +kernel, by decide +kernel⟩
theorem ok_tab_init {b : Bs} {c : Tc} (R : RawI b c.CT "LockTable" "LockTable.__init__" s_LockTable_init P_LockTable_init) (K : ClsOk b.K c) (D_require_modes : Df b 4 "require_modes" P_require_modes (spReqModes b.K)) : Mkd b 5 c.CT "LockTable" P_LockTable_init (spTabInit b c) := by
  refine R.ok sc_LockTable_init (fun vs H Q E h => ?_) fun f cdv A outer s H vs Q E hr h => ?_
  · obtain ⟨x, dx, rfl, _⟩ := h
    rfl
  · obtain ⟨x, dx, rfl, hx, O, k⟩ := h
    let kof := c.kof
    refine ⟨_, (pss_cons (ps_expr (pe_df D_require_modes (hr.mono (by decide)) (pa_cons (pv 1) pa_nil)))
      (pss_cons (ps_fld (pv 0) (pv 1) rfl)
      (pss_cons (ps_fld (pv 0) (pe_mnew (kof := kof)) rfl)
      (pss_cons (ps_fld (pv 0) pe_dnewK rfl)
      (pss_one (ps_fld (pv 0) pe_dnewK rfl)))))), ?_⟩
    refine ⟨_, rfl, c.mo, c.d, rfl, O.ms, O.ck.good, fun H1 s1 => ?_⟩
    have x1 := s1 _ _ hx
    refine ⟨_, rfl, _, rfl, x, _, dx, _, rfl, x1, K.cT, K.nT _ (by simp), lt_ok, ?_⟩
    dsimp only
    have k1 : ∀ b o, H1 b = some o → b ≠ x → (upd H1 x (.ins c.CT dx (putF "modes" (.ref c.mo) []))) b = some o := fun b o e n => by rw [upd_ne n]; exact e
    have x2 : (upd H1 x (.ins c.CT dx (putF "modes" (.ref c.mo) []))) x = some (.ins c.CT dx [("modes", .ref c.mo)]) := upd_same
    generalize upd H1 x (.ins c.CT dx (putF "modes" (.ref c.mo) [])) = H2 at k1 x2 ⊢
    refine fun p hp => ⟨_, rfl, x, _, dx, _, rfl, (same_new' hp) _ _ x2, K.cT, K.nT _ (by simp), lt_ok, ?_⟩
    obtain ⟨k3, x3, p3⟩ := obj_step (O := Mx.MixO b.w kof p []) (I := .ins c.CT dx [("modes", .ref c.mo), ("spots", .ref p)]) x2 hp
    rw [putF_new (by simp; decide), List.cons_append, List.nil_append]
    show (_ : L2.St → Hp → Prop) _ (upd (upd H2 p (Mx.MixO b.w kof p [])) x (.ins c.CT dx [("modes", .ref c.mo), ("spots", .ref p)]))
    generalize upd (upd H2 p (Mx.MixO b.w kof p [])) x (.ins c.CT dx [("modes", .ref c.mo), ("spots", .ref p)]) = H3 at k3 x3 p3 ⊢
    refine fun q hq => ⟨_, rfl, x, _, dx, _, rfl, (same_new' hq) _ _ x3, K.cT, K.nT _ (by simp), lt_ok, ?_⟩
    obtain ⟨k4, x4, q4⟩ := obj_step (O := .dK []) (I := .ins c.CT dx [("modes", .ref c.mo), ("spots", .ref p), ("items_by_owner", .ref q)]) x3 hq
    rw [putF_new (by simp; decide), List.cons_append, List.cons_append, List.nil_append]
    dsimp only
    generalize upd (upd H3 q (.dK [])) x (.ins c.CT dx [("modes", .ref c.mo), ("spots", .ref p), ("items_by_owner", .ref q)]) = H4 at k4 x4 q4 ⊢
    refine fun r hr' => ⟨_, rfl, x, _, dx, _, rfl, (same_new' hr') _ _ x4, K.cT, K.nT _ (by simp), lt_ok, ?_⟩
    obtain ⟨k5, x5, r5⟩ := obj_step (O := .dK []) (I := .ins c.CT dx (tabF c.mo p q r)) x4 hr'
    rw [putF_new (by simp; decide), List.cons_append, List.cons_append, List.cons_append, List.nil_append]
    have nx : ∀ {y : Addr} {Hz : Hp}, Hz y = none → Hz x ≠ none → y ≠ x := fun h g e => g (e ▸ h)
    have px : p ≠ x := nx hp (by rw [x2]; simp)
    have qx : q ≠ x := nx hq (by rw [x3]; simp)
    have rx : r ≠ x := nx hr' (by rw [x4]; simp)
    have pq : p ≠ q := ne_of_none p3 hq
    have p4 := k4 _ _ p3 px
    have pr : p ≠ r := ne_of_none p4 hr'
    have qr : q ≠ r := ne_of_none q4 hr'
    have b1 : ∀ y, y ≠ x → H2 y = none → H y = none := fun y n h => by
      cases e : H y with
      | none => rfl
      | some o => rw [k1 y o (s1 _ _ e) n] at h; cases h
    have b3 : ∀ y, y ≠ x → H3 y = none → H y = none := fun y n h => b1 y n (by
      cases e : H2 y with
      | none => rfl
      | some o => rw [k3 y o e n] at h; cases h)
    have b4 : ∀ y, y ≠ x → H4 y = none → H y = none := fun y n h => b3 y n (by
      cases e : H3 y with
      | none => rfl
      | some o => rw [k4 y o e n] at h; cases h)
    exact k _ p q r (fun y o e n => k5 y o (k4 y o (k3 y o (k1 y o (s1 _ _ e) n) n) n) n) (b1 p px hp) (b3 q qx hq) (b4 r rx hr') pq pr qr (k5 _ _ p4 px) (k5 _ _ q4 qx) r5 x5
abbrev spotF (a p q : Addr) : List (Str × V) := [("modes_by_owner", .ref a), ("conversions", .ref p), ("queue", .ref q)]
abbrev spTwin (c : Tc) : Sp := fun vs H Q _ => ∃ (x dx a p q : Addr) (l : List (L2.Key × V)) (ps qs : List V), vs = [.ref x] ∧ H x = some (.ins c.CS dx (spotF a p q)) ∧ H a = some (.dK l) ∧ H p = some (.lst ps) ∧ H q = some (.lst qs) ∧
  ∀ (H' : Hp) (x' dx' a' p' q' : Addr), Same H H' → H x' = none → H a' = none → H p' = none → H q' = none → x' ≠ a' → x' ≠ p' → x' ≠ q' → a' ≠ p' → a' ≠ q' → p' ≠ q' → H' x' = some (.ins c.CS dx' (spotF a' p' q')) → H' a' = some (.dK l) → H' p' = some (.lst ps) → H' q' = some (.lst qs) → Q (.ref x') H'
abbrev s_Spot_spot_twin : Stmt := inClass (top 37) 1
abbrev N_Spot_spot_twin : List Str := ["self", "found"]
abbrev P_Spot_spot_twin : List Str := ["self"]
theorem sc_Spot_spot_twin : FnScope N_Spot_spot_twin P_Spot_spot_twin (defScope s_Spot_spot_twin) := ⟨rfl, rfl, rfl, by decide +kernel, rfl, by decide +kernel, by decide +kernel⟩
theorem ok_spot_twin {b : Bs} {c : Tc} (R : RawM b c.CS "spot_twin" "Spot.spot_twin" s_Spot_spot_twin P_Spot_spot_twin) (K : ClsOk b.K c) (T : Tops b) (D_Spot_init : Mkd b 1 c.CS "Spot" P_Spot_init (spSpotInit c)) : Mt b 3 c.CS "spot_twin" P_Spot_spot_twin (spTwin c) := by
  refine R.ok K.cS sc_Spot_spot_twin (fun vs H Q E h => ?_) fun f cdv A outer s0 H vs Q E hr h => ?_
  · obtain ⟨x, dx, a, p, q, l, ps, qs, rfl, _⟩ := h
    rfl
  · obtain ⟨x, dx, a, p, q, l, ps, qs, rfl, hx, ha, hp, hq, k⟩ := h
    refine ⟨_, (pss_cons (ps_set (i := 1) sc_Spot_spot_twin.nd rfl (Or.inl rfl) (pe_mk0 D_Spot_init (hr.mono (by decide))))
      (pss_cons (ps_fld (pv 1) (pe_callTy call_dictD (by rfl) T.b_dict (by decide +kernel) (pa_cons (pe_fld (pv 0) rfl) pa_nil)) rfl)
      (pss_cons (ps_fld (pv 1) (pe_callTy call_list_of (by rfl) T.b_list (by decide +kernel) (pa_cons (pe_fld (pv 0) rfl) pa_nil)) rfl)
      (pss_cons (ps_fld (pv 1) (pe_callTy call_list_of (by rfl) T.b_list (by decide +kernel) (pa_cons (pe_fld (pv 0) rfl) pa_nil)) rfl)
      (pss_one (ps_ret (pv 1))))))), ?_⟩
    refine fun x' dx' nx ndx ndd => ⟨x', dx', rfl, upd_same, fun H1 a1 p1 q1 k1 na np nq ap aq pq ha1 hp1 hq1 hx1 => ⟨rfl, ?_⟩⟩
    have back1 : ∀ {r : Addr}, (upd (upd H dx' (.own x')) x' (.ins c.CS dx' [])) r = none → H r = none ∧ r ≠ x' := fun {r} h => by
      have n1 : r ≠ x' := fun e => by rw [e, upd_same] at h; cases h
      rw [upd_ne n1] at h
      have n2 : r ≠ dx' := fun e => by rw [e, upd_same] at h; cases h
      rw [upd_ne n2] at h
      exact ⟨h, n1⟩
    have s1 : ∀ b o, H b = some o → H1 b = some o := fun b o e => k1 b o (by rw [upd_ne (ne_of_none e nx), upd_ne (ne_of_none e ndx)]; exact e) (ne_of_none e nx)
    have hx1' := s1 _ _ hx
    refine ⟨_, rfl, _, _, _, _, _, rfl, hx1', K.cS, K.nS _ (by simp), rfl, _, _, rfl, .inl (s1 _ _ ha), fun a2 na2 => ⟨_, rfl, x', _, dx', _, rfl, (same_new' na2) _ _ hx1, K.cS, K.nS _ (by simp), lt_ok, ?_⟩⟩
    obtain ⟨k2, x2, e2⟩ := obj_step (O := .dK l) (I := .ins c.CS dx' (spotF a2 p1 q1)) hx1 na2
    show (_ : L2.St → Hp → Prop) _ (upd (upd H1 a2 (.dK l)) x' (.ins c.CS dx' (spotF a2 p1 q1)))
    generalize upd (upd H1 a2 (.dK l)) x' (.ins c.CS dx' (spotF a2 p1 q1)) = H2 at k2 x2 e2 ⊢
    have xx : x ≠ x' := ne_of_none hx nx
    have s2 : ∀ b o, H b = some o → H2 b = some o := fun b o e => k2 b o (s1 b o e) (ne_of_none e nx)
    refine ⟨_, rfl, _, _, _, _, _, rfl, s2 _ _ hx, K.cS, K.nS _ (by simp), rfl, _, _, rfl, .inl (.inl (.inl (s2 _ _ hp))), fun p2 np2 => ⟨_, rfl, x', _, dx', _, rfl, (same_new' np2) _ _ x2, K.cS, K.nS _ (by simp), lt_ok, ?_⟩⟩
    obtain ⟨k3, x3, e3⟩ := obj_step (O := .lst ps) (I := .ins c.CS dx' (spotF a2 p2 q1)) x2 np2
    show (_ : L2.St → Hp → Prop) _ (upd (upd H2 p2 (.lst ps)) x' (.ins c.CS dx' (spotF a2 p2 q1)))
    generalize upd (upd H2 p2 (.lst ps)) x' (.ins c.CS dx' (spotF a2 p2 q1)) = H3 at k3 x3 e3 ⊢
    have s3 : ∀ b o, H b = some o → H3 b = some o := fun b o e => k3 b o (s2 b o e) (ne_of_none e nx)
    refine ⟨_, rfl, _, _, _, _, _, rfl, s3 _ _ hx, K.cS, K.nS _ (by simp), rfl, _, _, rfl, .inl (.inl (.inl (s3 _ _ hq))), fun q2 nq2 => ⟨_, rfl, x', _, dx', _, rfl, (same_new' nq2) _ _ x3, K.cS, K.nS _ (by simp), lt_ok, ?_⟩⟩
    obtain ⟨k4, x4, e4⟩ := obj_step (O := .lst qs) (I := .ins c.CS dx' (spotF a2 p2 q2)) x3 nq2
    show (_ : L2.St → Hp → Prop) _ (upd (upd H3 q2 (.lst qs)) x' (.ins c.CS dx' (spotF a2 p2 q2)))
    generalize upd (upd H3 q2 (.lst qs)) x' (.ins c.CS dx' (spotF a2 p2 q2)) = H4 at k4 x4 e4 ⊢
    have s4 : Same H H4 := fun b o e => k4 b o (s3 b o e) (ne_of_none e nx)
    have nxx : ∀ {y : Addr} {Hz : Hp}, Hz y = none → Hz x' ≠ none → y ≠ x' := fun h g e => g (e ▸ h)
    have ax : a2 ≠ x' := nxx na2 (by rw [hx1]; simp)
    have px : p2 ≠ x' := nxx np2 (by rw [x2]; simp)
    have qx : q2 ≠ x' := nxx nq2 (by rw [x3]; simp)
    have nn : ∀ {y : Addr} {Hz : Hp}, (∀ b o, H b = some o → Hz b = some o) → Hz y = none → H y = none := fun {y Hz} s h => by
      cases e : H y with
      | none => rfl
      | some o => rw [s y o e] at h; cases h
    have a3 := k3 _ _ e2 ax
    have ap2 : a2 ≠ p2 := ne_of_none e2 np2
    have aq2 : a2 ≠ q2 := ne_of_none a3 nq2
    have pq2 : p2 ≠ q2 := ne_of_none e3 nq2
    exact ⟨_, rfl, k H4 x' dx' a2 p2 q2 s4 nx (nn s1 na2) (nn s2 np2) (nn s3 nq2) ax.symm px.symm qx.symm ap2 aq2 pq2 x4 (k4 _ _ a3 ax) (k4 _ _ e3 px) e4⟩
end Lk
end
section
set_option maxRecDepth 100000
set_option maxHeartbeats 1000000
/-! copied. -/
namespace Lk
open PySem L2
open Mx (pe_msetd pe_mget pe_mget2 ps_mput pe_mnew pe_mayLock ps_mayLock pi_itemsN pi_itemsM fresh_dK fresh_mix)

/-- some parts of a table to be, already laid -/
structure Pt (w : World) (c : Tc) (H0 H : Hp) (ad : Ad) (D : Dt) (P : Tag → Prop) : Prop where
  at_ : ∀ t, P t → H (ad.at_ t) = some (cont w c ad D t)
  fr : ∀ t, P t → H0 (ad.at_ t) = none
  inj : ∀ s t, P s → P t → ad.at_ s = ad.at_ t → s = t
section
variable {w : World} {c : Tc} {H0 H H' : Hp} {ad ad' : Ad} {D : Dt} {P N : Tag → Prop}
theorem Pt.same (p : Pt w c H0 H ad D P) (s : Same H H') : Pt w c H0 H' ad D P := ⟨fun t h => s _ _ (p.at_ t h), p.fr, p.inj⟩
theorem Pt.upd (p : Pt w c H0 H ad D P) {r : Addr} {o : HO} (h : ∀ t, P t → ad.at_ t ≠ r) : Pt w c H0 (upd H r o) ad D P := ⟨fun t ht => by rw [upd_ne (h t ht)]; exact p.at_ t ht, p.fr, p.inj⟩
theorem Pt.ext (p : Pt w c H0 H ad D P) (ag : ∀ t, P t → ad'.at_ t = ad.at_ t ∧ cont w c ad' D t = cont w c ad D t) (hN : ∀ t, N t → H (ad'.at_ t) = some (cont w c ad' D t) ∧ H0 (ad'.at_ t) = none ∧ ∀ s, P s → ad.at_ s ≠ ad'.at_ t)
    (iN : ∀ s t, N s → N t → ad'.at_ s = ad'.at_ t → s = t) : Pt w c H0 H ad' D (fun t => P t ∨ N t) where
  at_ t h := h.elim (fun h => by rw [(ag t h).1, (ag t h).2]; exact p.at_ t h) fun h => (hN t h).1
  fr t h := h.elim (fun h => by rw [(ag t h).1]; exact p.fr t h) fun h => (hN t h).2.1
  inj s t hs ht e := by
    rcases hs with hs | hs
    · rcases ht with ht | ht
      · rw [(ag s hs).1, (ag t ht).1] at e
        exact p.inj s t hs ht e
      · rw [(ag s hs).1] at e
        exact ((hN t ht).2.2 s hs e).elim
    · rcases ht with ht | ht
      · rw [(ag t ht).1] at e
        exact ((hN s hs).2.2 t ht e.symm).elim
      · exact iN s t hs ht e
theorem Pt.iff (p : Pt w c H0 H ad D P) {P' : Tag → Prop} (h : ∀ t, P' t → P t) : Pt w c H0 H ad D P' := ⟨fun t g => p.at_ t (h t g), fun t g => p.fr t (h t g), fun s t a b => p.inj s t (h s a) (h t b)⟩
end
/-- the parts of the spots of some items -/
def SpT (l : List V) : Tag → Prop
  | .sp i | .md i | .cv i | .qu i => i ∈ l
  | _ => False
theorem spT_nil (t : Tag) : ¬ SpT [] t := fun h => by cases t <;> cases h
def KpT (l : List Int) : Tag → Prop
  | .kept o => o ∈ l
  | _ => False
theorem kpT_nil (t : Tag) : ¬ KpT [] t := fun h => by cases t <;> cases h
theorem put_its {l : List V} {g : V → V} {i y : V} (n : i ∉ l) : putK (l.map fun j => (j, g j)) i y = (l.map fun j => (j, g j)) ++ [(i, y)] := by
  have hn : ¬ ((l.map fun j => (j, g j)).any fun kv => decide (kv.1 = i)) = true := fun z => by
    obtain ⟨kv, hk, e⟩ := List.any_eq_true.mp z
    obtain ⟨j, hj, rfl⟩ := List.mem_map.mp hk
    exact n (of_decide_eq_true e ▸ hj)
  unfold putK
  rw [if_neg hn]
section
variable {w : World} {c : Tc} {H0 H : Hp} {ad : Ad} {D : Dt} {P : Tag → Prop}
/-- one more spot -/
theorem Pt.spot {l : List V} {i : V} {x dx a p q : Addr} (pt : Pt w c H0 H ad D (SpT l)) (ni : i ∉ l) (liv : ∀ t, SpT l t → ad.at_ t ≠ x ∧ ad.at_ t ≠ a ∧ ad.at_ t ≠ p ∧ ad.at_ t ≠ q) (nx : H0 x = none) (na : H0 a = none) (np : H0 p = none) (nq : H0 q = none)
    (xa : x ≠ a) (xp : x ≠ p) (xq : x ≠ q) (ap : a ≠ p) (aq : a ≠ q) (pq : p ≠ q) (hx : H x = some (.ins c.CS dx (spotF a p q))) (ha : H a = some (.dK ((D.md i).map (ent V.str)))) (hp : H p = some (.lst ((D.cv i).map V.int))) (hq : H q = some (.lst ((D.qu i).map V.int))) :
    Pt w c H0 H (ad.spot i x dx a p q) D (SpT (l ++ [i])) := by
  have e1 : (ad.spot i x dx a p q).at_ (.sp i) = x := if_pos rfl
  have e2 : (ad.spot i x dx a p q).at_ (.md i) = a := if_pos rfl
  have e3 : (ad.spot i x dx a p q).at_ (.cv i) = p := if_pos rfl
  have e4 : (ad.spot i x dx a p q).at_ (.qu i) = q := if_pos rfl
  have e5 : (ad.spot i x dx a p q).dx (.sp i) = dx := if_pos rfl
  have ne : ∀ j ∈ l, j ≠ i := fun j hj e => ni (e ▸ hj)
  refine Pt.iff (Pt.ext (N := fun t => t = .sp i ∨ t = .md i ∨ t = .cv i ∨ t = .qu i) pt (fun t ht => ?_) (fun t ht => ?_) (fun s t hs ht e => ?_)) (fun t ht => ?_)
  · cases t with
    | sp j =>
      have n := ne j ht
      refine ⟨if_neg n, ?_⟩
      show HO.ins _ (if j = i then dx else _) [(_, V.ref (if j = i then a else _)), (_, V.ref (if j = i then p else _)), (_, V.ref (if j = i then q else _))] = HO.ins _ _ _
      rw [if_neg n, if_neg n, if_neg n, if_neg n]
    | md j => exact ⟨if_neg (ne j ht), rfl⟩
    | cv j => exact ⟨if_neg (ne j ht), rfl⟩
    | qu j => exact ⟨if_neg (ne j ht), rfl⟩
    | _ => exact ht.elim
  · rcases ht with rfl | rfl | rfl | rfl
    · rw [e1]
      refine ⟨?_, nx, fun s hs => (liv s hs).1⟩
      show _ = some (HO.ins _ _ [(_, V.ref _), (_, V.ref _), (_, V.ref _)])
      rw [e2, e3, e4, e5]
      exact hx
    · rw [e2]; exact ⟨ha, na, fun s hs => (liv s hs).2.1⟩
    · rw [e3]; exact ⟨hp, np, fun s hs => (liv s hs).2.2.1⟩
    · rw [e4]; exact ⟨hq, nq, fun s hs => (liv s hs).2.2.2⟩
  · rcases hs with rfl | rfl | rfl | rfl <;> rcases ht with rfl | rfl | rfl | rfl <;> simp only [e1, e2, e3, e4] at e <;> first | rfl | exact absurd e (by first | assumption | exact Ne.symm (by assumption))
  · cases t with
    | sp j => exact (List.mem_append.mp ht).imp id fun h => .inl (by rw [List.mem_singleton.mp h])
    | md j => exact (List.mem_append.mp ht).imp id fun h => .inr (.inl (by rw [List.mem_singleton.mp h]))
    | cv j => exact (List.mem_append.mp ht).imp id fun h => .inr (.inr (.inl (by rw [List.mem_singleton.mp h])))
    | qu j => exact (List.mem_append.mp ht).imp id fun h => .inr (.inr (.inr (by rw [List.mem_singleton.mp h])))
    | _ => exact ht.elim
/-- one more list of items -/
theorem Pt.kept {P : Tag → Prop} {o : Int} {p : Addr} (pt : Pt w c H0 H ad D P) (no : ¬ P (.kept o)) (np : ∀ t, P t → t ≠ .tab ∧ t ≠ .ibo) (liv : ∀ t, P t → ad.at_ t ≠ p) (nx : H0 p = none) (hp : H p = some (.lst (D.got o))) :
    Pt w c H0 H (ad.keep o p) D (fun t => P t ∨ t = .kept o) := by
  have e1 : (ad.keep o p).at_ (.kept o) = p := if_pos rfl
  refine Pt.ext pt (fun t ht => ?_) (fun t ht => ?_) (fun s t hs ht _ => hs.trans ht.symm)
  · cases t with
    | kept j => exact ⟨if_neg fun e : j = o => no (e ▸ ht), rfl⟩
    | tab => exact ((np _ ht).1 rfl).elim
    | ibo => exact ((np _ ht).2 rfl).elim
    | _ => exact ⟨rfl, rfl⟩
  · rw [ht, e1]
    exact ⟨hp, nx, fun s hs => liv s hs⟩
end
theorem none_of {H H' : Hp} (s : ∀ b o, H b = some o → ∃ u, H' b = some u) {y : Addr} (h : H' y = none) : H y = none := by
  cases e : H y with
  | none => rfl
  | some o =>
    obtain ⟨u, hu⟩ := s y o e
    rw [h] at hu
    cases hu
theorem live_lock {H : Hp} {d : Addr} {u : HO} {od : Obj} : ∀ b o, H b = some o → ∃ v, (upd H d (.frz od u)) b = some v := fun b o e => by
  by_cases h : b = d
  · exact ⟨_, by rw [h, upd_same]⟩
  · exact ⟨o, by rw [upd_ne h]; exact e⟩
abbrev spCopied (b : Bs) (c : Tc) : Sp := fun vs H Q _ => ∃ (ad : Ad) (D : Dt), vs = [.ref (ad.at_ .tab)] ∧ At b.w c H ad D ∧ c.Ok b.K H ∧ Wf c D ∧
  ∀ H' ad2, Same H H' → At b.w c H' ad2 D → (∀ a, Own ad2 D a → H a = none) → Q (.ref (ad2.at_ .tab)) H'
abbrev s_LockTable_copied : Stmt := inClass (top 38) 21
abbrev N_LockTable_copied : List Str := ["self", "found", "item", "spot", "owner", "items"]
abbrev P_LockTable_copied : List Str := ["self"]
theorem sc_LockTable_copied : FnScope N_LockTable_copied P_LockTable_copied (defScope s_LockTable_copied) := ⟨rfl, rfl, rfl, by decide +kernel, rfl, by decide +kernel, by decide +kernel⟩
theorem ok_copied {b : Bs} {c : Tc} (R : RawM b c.CT "copied" "LockTable.copied" s_LockTable_copied P_LockTable_copied) (K : ClsOk b.K c) (T : Tops b) (D_LockTable_init : Mkd b 5 c.CT "LockTable" P_LockTable_init (spTabInit b c)) (D_spot_twin : Mt b 3 c.CS "spot_twin" P_Spot_spot_twin (spTwin c)) :
    Mt b 7 c.CT "copied" P_LockTable_copied (spCopied b c) := by
  refine R.ok K.cT sc_LockTable_copied (fun vs H Q E h => ?_) fun f cdv A outer s0 H vs Q E hr h => ?_
  · obtain ⟨ad, D, rfl, _⟩ := h
    rfl
  · obtain ⟨ad, D, rfl, A0, O0, W, k⟩ := h
    let kof := c.kof
    refine ⟨_, (pss_cons (ps_set (i := 1) sc_LockTable_copied.nd rfl (Or.inl rfl) (pe_mk_ D_LockTable_init (hr.mono (by decide)) (pa_cons (pe_fld (pv 0) rfl) pa_nil)))
      (pss_cons (ps_fld (pv 1) (pe_mayLock (pe_dcB (kof := kof) (own := [("item", 2), ("spot", 3)]) (hu8 hr) (fresh_mix (kof := kof)) rfl sc_LockTable_copied.nd (pi_itemsM (kof := kof) (pe_fld (pv 0) rfl)) (blkOk_by (own := [("item", 2), ("spot", 3)]) (N := N_LockTable_copied) (sc := defScope s_LockTable_copied) (by decide +kernel)) (fun _ _ _ _ _ => (pg_tup rfl (pgs_cons (pg_name (i := 2) sc_LockTable_copied.nd rfl (Or.inl rfl)) (pgs_cons (pg_name (i := 3) sc_LockTable_copied.nd rfl (Or.inl rfl)) pgs_nil)))) (fun _ _ _ _ _ => pts_nil) (fun _ _ _ _ _ => (pv 2)) (fun _ _ _ _ _ => (pe_mtd0 D_spot_twin (pv 3) (hr.mono (by decide)))))) rfl)
      (pss_cons (ps_fld (pv 1) (pe_mayLock (pe_dcB (kof := kof) (own := [("owner", 4), ("items", 5)]) (hu8 hr) fresh_dK rfl sc_LockTable_copied.nd (pi_itemsN (pe_fld (pv 0) rfl)) (blkOk_by (own := [("owner", 4), ("items", 5)]) (N := N_LockTable_copied) (sc := defScope s_LockTable_copied) (by decide +kernel)) (fun _ _ _ _ _ => (pg_tup rfl (pgs_cons (pg_name (i := 4) sc_LockTable_copied.nd rfl (Or.inl rfl)) (pgs_cons (pg_name (i := 5) sc_LockTable_copied.nd rfl (Or.inl rfl)) pgs_nil)))) (fun _ _ _ _ _ => pts_nil) (fun _ _ _ _ _ => (pv 4)) (fun _ _ _ _ _ => (pe_callTy call_list_of (by rfl) T.b_list (by decide +kernel) (pa_cons (pv 5) pa_nil))))) rfl)
      (pss_cons (ps_fld (pv 1) (pe_callTy call_dictD (by rfl) T.b_dict (by decide +kernel) (pa_cons (pe_fld (pv 0) rfl) pa_nil)) rfl)
      (pss_one (ps_ret (pv 1))))))), ?_⟩
    have ta := A0.at_ .tab True.intro
    refine ⟨_, rfl, _, _, _, _, _, rfl, ta, K.cT, K.nT _ (by simp), rfl, fun x dx nx ndx ndd => ⟨x, dx, rfl, upd_same, ?_, fun H1 p q r k1 np nq nr pq pr qr hp hq hr' hx => ⟨rfl, ?_⟩⟩⟩
    · exact O0.mono fun b xs e => by rw [upd_ne (ne_of_none e nx), upd_ne (ne_of_none e ndx)]; exact e
    have s1 : Same H H1 := fun y o e => k1 y o (by rw [upd_ne (ne_of_none e nx), upd_ne (ne_of_none e ndx)]; exact e) (ne_of_none e nx)
    have its20 : D.its.length ≤ 20 := Nat.le_trans (LT_len A0.ok.its A0.ok.isJ) O0.few
    have os20 : D.os.length ≤ 20 := Nat.le_trans (LT_len A0.ok.os A0.ok.osU) O0.ul
    dsimp only [gName]
    refine seq_mid (fun σ' Hz => ∃ Sd adt, σ' = [some (.ref (ad.at_ .tab)), some (.ref x), none, none, none, none] ∧ Same H Hz ∧ Hz x = some (.ins c.CT dx (tabF c.mo Sd q r)) ∧ H Sd = none ∧ Sd ≠ x ∧ Hz Sd = some (Mx.MixO b.w kof Sd (D.its.map fun i => (i, .ref (adt.at_ (.sp i))))) ∧
      Pt b.w c H Hz adt D (SpT D.its) ∧ ∀ t, SpT D.its t → adt.at_ t ≠ x ∧ adt.at_ t ≠ Sd) (fun N hN => ?_) (fun σ' Hz h => ?_)
    · have hs1 := s1 _ _ (A0.at_ .spots True.intro)
      have ta1 := s1 _ _ ta
      have nts : ad.at_ .tab ≠ ad.at_ .spots := fun z => by have := A0.inj .tab .spots True.intro True.intro z; cases this
      have xs : x ≠ ad.at_ .spots := fun e => by rw [e, A0.at_ .spots True.intro] at nx; cases nx
      refine .inl ⟨_, _, hs1, True.intro, fun od => ⟨_, rfl, _, _, _, _, _, rfl, (by rw [upd_ne nts]; exact ta1), K.cT, K.nT _ (by simp), rfl, _, od, _, rfl, upd_same, fun Dd hDd => ?_⟩⟩
      have xD : x ≠ Dd := ne_of_none (by rw [upd_ne xs]; exact hx) hDd
      have back : ∀ {y : Addr} {Hy : Hp}, Same (upd H1 (ad.at_ .spots) (.frz od (cont b.w c ad D .spots))) Hy → Hy y = none → H y = none ∧ y ≠ x := fun {y Hy} sy h => by
        refine ⟨none_of (fun y2 o e => ?_) h, fun e => ?_⟩
        · obtain ⟨v, hv⟩ := live_lock (od := od) (u := cont b.w c ad D .spots) (d := ad.at_ .spots) y2 o (s1 y2 o e)
          exact ⟨v, sy y2 v hv⟩
        · rw [e, sy x _ (by rw [upd_ne xs]; exact hx)] at h
          cases h
      have w := Mx.walk_itemsM (w := b.w) (kof := kof) (d := ad.at_ .spots) (o := od) (kvs := D.its.map fun i => (i, V.ref (ad.at_ (.sp i))))
      rw [List.length_map] at w
      refine Mx.dc_it (w := b.w) (kof := kof) (mk := fun D => Mx.MixO b.w kof D []) (H1 := upd H1 (ad.at_ .spots) (.frz od (cont b.w c ad D .spots))) (D := Dd) w (fun j Hy => ∃ adt, Same (upd H1 (ad.at_ .spots) (.frz od (cont b.w c ad D .spots))) Hy ∧ Hy Dd = some (Mx.MixO b.w kof Dd ((D.its.take j).map fun i => (i, .ref (adt.at_ (.sp i))))) ∧
        Pt b.w c H Hy adt D (SpT (D.its.take j)) ∧ ∀ t, SpT (D.its.take j) t → adt.at_ t ≠ x ∧ adt.at_ t ≠ Dd) ?_ (fun j Hy _ ⟨adt, p, _⟩ => p _ _ upd_same) (fun j v Hy Hy' hj p hy => ?_) fun Hy p => ?_
      · exact ⟨ad, same_new' hDd, upd_same, ⟨fun t h => (spT_nil t h).elim, fun t h => (spT_nil t h).elim, fun s t h => (spT_nil s h).elim⟩, fun t h => (spT_nil t h).elim⟩
      · obtain ⟨adt, sy, dy, pt, nl⟩ := p
        obtain ⟨Tt, x0, y0, rfl, hT, rfl, h0, h1⟩ := hy
        have h0 : (D.its.map fun i => (i, V.ref (ad.at_ (.sp i))))[j]?.map Prod.fst = some x0 := h0
        have h1 : (D.its.map fun i => (i, V.ref (ad.at_ (.sp i))))[j]?.map Prod.snd = some y0 := h1
        have hi : D.its[j]? = some D.its[j] := List.getElem?_eq_getElem hj
        generalize D.its[j] = i at hi
        rw [List.getElem?_map, hi] at h0 h1
        cases h0
        cases h1
        have iit := List.mem_of_getElem? hi
        have hJ := A0.ok.isJ i iit
        have ni : i ∉ D.its.take j := St.fresh_at A0.ok.its hi
        have s3 : Same Hy (upd Hy Tt (.tup [i, .ref (ad.at_ (.sp i))])) := same_new' hT
        have sy3 := Same.trans sy s3
        have old : ∀ t, D.dom t → t ≠ .spots → (upd Hy Tt (.tup [i, .ref (ad.at_ (.sp i))])) (ad.at_ t) = some (cont b.w c ad D t) := fun t ht n => sy3 _ _ (by rw [upd_ne fun e => n (A0.inj t .spots ht True.intro e)]; exact s1 _ _ (A0.at_ t ht))
        refine ⟨Tt, _, rfl, .inl (.inl upd_same), rfl, _, _, rfl, _, _, rfl, rfl, rfl, ?_⟩
        refine ⟨_, rfl, _, rfl, _, _, _, rfl, old (.sp i) iit (by simp), rfl, _, _, _, _, _, _, _, _, rfl, old (.sp i) iit (by simp), old (.md i) iit (by simp), old (.cv i) iit (by simp), old (.qu i) iit (by simp), fun H5 x' dx' a' p' q' s5 nx' na' np' nq' xa xp xq ap aq pq' hx' ha' hp' hq' => ?_⟩
        have dy5 : H5 Dd = some (Mx.MixO b.w kof Dd ((D.its.take j).map fun i => (i, .ref (adt.at_ (.sp i))))) := s5 _ _ (s3 _ _ dy)
        have bk : ∀ {y : Addr}, (upd Hy Tt (.tup [i, .ref (ad.at_ (.sp i))])) y = none → H y = none ∧ y ≠ x ∧ y ≠ Dd ∧ ∀ t, SpT (D.its.take j) t → adt.at_ t ≠ y := fun {y} h => by
          obtain ⟨z1, z2⟩ := back sy3 h
          refine ⟨z1, z2, fun e => ?_, fun t ht e => ?_⟩
          · have z := s3 _ _ dy
            rw [← e, h] at z
            cases z
          · have z := s3 _ _ (pt.at_ t ht)
            rw [e, h] at z
            cases z
        obtain ⟨nx1, nx2, nx3, nx4⟩ := bk nx'
        obtain ⟨na1, na2, na3, na4⟩ := bk na'
        obtain ⟨np1, np2, np3, np4⟩ := bk np'
        obtain ⟨nq1, nq2, nq3, nq4⟩ := bk nq'
        have pt5 := ((pt.same (Same.trans s3 s5)).spot (dx := dx') ni (fun t ht => ⟨nx4 t ht, na4 t ht, np4 t ht, nq4 t ht⟩) nx1 na1 np1 nq1 xa xp xq ap aq pq' hx' ha' hp' hq')
        have nl5 : ∀ t, SpT (D.its.take j ++ [i]) t → (adt.spot i x' dx' a' p' q').at_ t ≠ x ∧ (adt.spot i x' dx' a' p' q').at_ t ≠ Dd := fun t ht => by
          have e1 : (adt.spot i x' dx' a' p' q').at_ (.sp i) = x' := if_pos rfl
          have e2 : (adt.spot i x' dx' a' p' q').at_ (.md i) = a' := if_pos rfl
          have e3 : (adt.spot i x' dx' a' p' q').at_ (.cv i) = p' := if_pos rfl
          have e4 : (adt.spot i x' dx' a' p' q').at_ (.qu i) = q' := if_pos rfl
          have ne : ∀ y ∈ D.its.take j, y ≠ i := fun y hy e => ni (e ▸ hy)
          cases t with
          | sp y =>
            rcases List.mem_append.mp ht with h | h
            · rw [show (adt.spot i x' dx' a' p' q').at_ (.sp y) = adt.at_ (.sp y) from if_neg (ne y h)]
              exact nl (.sp y) h
            · rw [List.mem_singleton.mp h, e1]
              exact ⟨nx2, nx3⟩
          | md y =>
            rcases List.mem_append.mp ht with h | h
            · rw [show (adt.spot i x' dx' a' p' q').at_ (.md y) = adt.at_ (.md y) from if_neg (ne y h)]
              exact nl (.md y) h
            · rw [List.mem_singleton.mp h, e2]
              exact ⟨na2, na3⟩
          | cv y =>
            rcases List.mem_append.mp ht with h | h
            · rw [show (adt.spot i x' dx' a' p' q').at_ (.cv y) = adt.at_ (.cv y) from if_neg (ne y h)]
              exact nl (.cv y) h
            · rw [List.mem_singleton.mp h, e3]
              exact ⟨np2, np3⟩
          | qu y =>
            rcases List.mem_append.mp ht with h | h
            · rw [show (adt.spot i x' dx' a' p' q').at_ (.qu y) = adt.at_ (.qu y) from if_neg (ne y h)]
              exact nl (.qu y) h
            · rw [List.mem_singleton.mp h, e4]
              exact ⟨nq2, nq3⟩
          | _ => exact ht.elim
        have tH : Tups H H5 := fun y xs e => (Same.trans sy3 s5) y _ (by rw [upd_ne fun z => by rw [z, A0.at_ .spots True.intro] at e; cases e]; exact s1 _ _ e)
        have ei : (adt.spot i x' dx' a' p' q').at_ (.sp i) = x' := if_pos rfl
        refine ⟨_, .inr ⟨_, c.J, dy5, O0.it.mono tH, fun pr hpr => ?_, hJ, ?_, rfl⟩, adt.spot i x' dx' a' p' q', fun y o e => ?_, ?_, ?_, ?_⟩
        · obtain ⟨y, hy, rfl⟩ := List.mem_map.mp hpr
          exact A0.ok.isJ y (List.mem_of_mem_take hy)
        · rw [List.length_map, List.length_take, sizeLine_eq]
          omega
        · rw [upd_ne (ne_of_none e hDd)]
          exact (Same.trans sy3 s5) _ _ e
        · rw [upd_same, put_its ni, St.take_one hi, List.map_append]
          congr 2
          show _ = List.map (fun k => (k, V.ref ((adt.spot i x' dx' a' p' q').at_ (.sp k)))) _ ++ [(i, V.ref ((adt.spot i x' dx' a' p' q').at_ (.sp i)))]
          rw [ei]
          congr 1
          refine List.map_congr_left fun y hy => ?_
          rw [show (adt.spot i x' dx' a' p' q').at_ (.sp y) = adt.at_ (.sp y) from if_neg fun e : y = i => ni (e ▸ hy)]
        · rw [St.take_one hi]
          exact pt5.upd fun t ht => (nl5 t ht).2
        · rw [St.take_one hi]
          exact nl5
      · obtain ⟨adt, sy, dy, pt, nl⟩ := p
        rw [List.take_length] at dy pt nl
        have sz := same_unlock hs1 sy
        have sD : ad.at_ .spots ≠ Dd := fun e => by rw [← e, upd_same] at hDd; cases hDd
        refine ⟨sy _ _ upd_same, ?_⟩
        refine ⟨_, rfl, x, _, dx, _, rfl, sz _ _ hx, K.cT, K.nT _ (by simp), lt_ok, ?_⟩
        have sps : ∀ t, SpT D.its t → adt.at_ t ≠ ad.at_ .spots := fun t ht e => by
          have z := pt.fr t ht
          rw [e, A0.at_ .spots True.intro] at z
          cases z
        refine hN _ _ ⟨Dd, adt, rfl, fun y o e => ?_, upd_same, (back (fun _ _ h => h) hDd).1, xD.symm, ?_, (pt.upd sps).upd fun t ht => (nl t ht).1, nl⟩
        · rw [upd_ne (ne_of_none e nx)]
          exact sz y o (s1 y o e)
        · rw [upd_ne xD.symm, upd_ne sD.symm]
          exact dy
    · obtain ⟨Sd, adt, rfl, s2, hx2, nS, Sx, hS, pt, nl⟩ := h
      have ta2 := s2 _ _ ta
      refine seq_mid (fun σ' Hz => ∃ Id adt, σ' = [some (.ref (ad.at_ .tab)), some (.ref x), none, none, none, none] ∧ Same H Hz ∧ Hz x = some (.ins c.CT dx (tabF c.mo Sd Id r)) ∧ Hz Sd = some (Mx.MixO b.w kof Sd (D.its.map fun i => (i, .ref (adt.at_ (.sp i))))) ∧ H Id = none ∧ Id ≠ x ∧ Id ≠ Sd ∧ Hz Id = some (.dK (dRefs D.os fun o => adt.at_ (.kept o))) ∧
        Pt b.w c H Hz adt D (fun t => SpT D.its t ∨ KpT D.os t) ∧ ∀ t, (SpT D.its t ∨ KpT D.os t) → adt.at_ t ≠ x ∧ adt.at_ t ≠ Sd ∧ adt.at_ t ≠ Id) (fun N hN => ?_) (fun σ' Hz h => ?_)
      · have hi2 := s2 _ _ (A0.at_ .ibo True.intro)
        have nti : ad.at_ .tab ≠ ad.at_ .ibo := fun z => by have := A0.inj .tab .ibo True.intro True.intro z; cases this
        have xi : x ≠ ad.at_ .ibo := fun e => by rw [e, A0.at_ .ibo True.intro] at nx; cases nx
        have Si : Sd ≠ ad.at_ .ibo := fun e => by rw [e, A0.at_ .ibo True.intro] at nS; cases nS
        have pi : ∀ t, SpT D.its t → adt.at_ t ≠ ad.at_ .ibo := fun t ht e => by
          have z := pt.fr t ht
          rw [e, A0.at_ .ibo True.intro] at z
          cases z
        refine .inl ⟨_, _, hi2, True.intro, fun od => ⟨_, rfl, _, _, _, _, _, rfl, (by rw [upd_ne nti]; exact ta2), K.cT, K.nT _ (by simp), rfl, _, _, rfl, .inl ⟨od, upd_same, fun Dd hDd => ?_⟩⟩⟩
        have w := walk_items (d := ad.at_ .ibo) (o := od) (kvs := dRefs D.os fun o => ad.at_ (.kept o))
        rw [List.length_map] at w
        have xD : x ≠ Dd := ne_of_none (by rw [upd_ne xi]; exact hx2) hDd
        have SD : Sd ≠ Dd := ne_of_none (by rw [upd_ne Si]; exact hS) hDd
        have ptL := pt.upd (o := .frz od (cont b.w c ad D .ibo)) pi
        have back : ∀ {y : Addr} {Hy : Hp}, Same (upd Hz (ad.at_ .ibo) (.frz od (cont b.w c ad D .ibo))) Hy → Hy y = none → H y = none ∧ y ≠ x ∧ y ≠ Sd ∧ ∀ t, SpT D.its t → adt.at_ t ≠ y := fun {y Hy} sy h => by
          refine ⟨none_of (fun y2 o e => ?_) h, fun e => ?_, fun e => ?_, fun t ht e => ?_⟩
          · obtain ⟨v, hv⟩ := live_lock (od := od) (u := cont b.w c ad D .ibo) (d := ad.at_ .ibo) y2 o (s2 y2 o e)
            exact ⟨v, sy y2 v hv⟩
          · rw [e, sy x _ (by rw [upd_ne xi]; exact hx2)] at h
            cases h
          · rw [e, sy Sd _ (by rw [upd_ne Si]; exact hS)] at h
            cases h
          · rw [← e, sy _ _ (ptL.at_ t ht)] at h
            cases h
        refine Mx.dc_it (mk := fun _ => .dK []) (H1 := upd Hz (ad.at_ .ibo) (.frz od (cont b.w c ad D .ibo))) (D := Dd) w (fun j Hy => ∃ ady, Same (upd Hz (ad.at_ .ibo) (.frz od (cont b.w c ad D .ibo))) Hy ∧ Hy Dd = some (.dK (dRefs (D.os.take j) fun o => ady.at_ (.kept o))) ∧ (∀ i, ady.at_ (.sp i) = adt.at_ (.sp i)) ∧
          Pt b.w c H Hy ady D (fun t => SpT D.its t ∨ KpT (D.os.take j) t) ∧ ∀ t, (SpT D.its t ∨ KpT (D.os.take j) t) → ady.at_ t ≠ x ∧ ady.at_ t ≠ Sd ∧ ady.at_ t ≠ Dd) ?_ (fun j Hy _ ⟨ady, p, _⟩ => p _ _ upd_same) (fun j v Hy Hy' hj p hy => ?_) fun Hy p => ?_
        · refine ⟨adt, same_new' hDd, upd_same, fun _ => rfl, Pt.iff (ptL.same (same_new' hDd)) (fun t ht => ht.elim id fun h => (kpT_nil t h).elim), fun t ht => ?_⟩
          have ht : SpT D.its t := ht.elim id fun h => (kpT_nil t h).elim
          exact ⟨(nl t ht).1, (nl t ht).2, (back (fun _ _ h => h) hDd).2.2.2 t ht⟩
        · obtain ⟨ady, sy, dy, ea, py, ny⟩ := p
          obtain ⟨Tt, x0, y0, rfl, hT, rfl, h0, h1⟩ := hy
          have h0 : (dRefs D.os fun o => ad.at_ (.kept o))[j]?.map (fun kv => kV kv.1) = some x0 := h0
          have h1 : (dRefs D.os fun o => ad.at_ (.kept o))[j]?.map Prod.snd = some y0 := h1
          have hi : D.os[j]? = some D.os[j] := List.getElem?_eq_getElem hj
          generalize D.os[j] = o at hi
          rw [List.getElem?_map, hi] at h0 h1
          cases h0
          cases h1
          have oi := List.mem_of_getElem? hi
          have no : o ∉ D.os.take j := St.fresh_at A0.ok.os hi
          have s4 : Same Hy (upd Hy Tt (.tup [.int o, .ref (ad.at_ (.kept o))])) := same_new' hT
          have sy4 := Same.trans sy s4
          have kp : (upd Hy Tt (.tup [.int o, .ref (ad.at_ (.kept o))])) (ad.at_ (.kept o)) = some (.lst (D.got o)) := sy4 _ _ (by rw [upd_ne fun e => by have := A0.inj (.kept o) .ibo oi True.intro e; cases this]; exact s2 _ _ (A0.at_ (.kept o) oi))
          refine ⟨Tt, _, rfl, .inl (.inl upd_same), rfl, _, _, rfl, _, _, rfl, rfl, rfl, ?_⟩
          refine ⟨_, rfl, _, rfl, _, _, rfl, .inl (.inl (.inl kp)), fun L hL => ?_⟩
          have hL : (upd Hy Tt (.tup [.int o, .ref (ad.at_ (.kept o))])) L = none := hL
          have s5 := same_new' (o := .lst (D.got o)) hL
          obtain ⟨b1, b2, b3, b4⟩ := back sy4 hL
          have LD : L ≠ Dd := fun e => by rw [e, s4 _ _ dy] at hL; cases hL
          have liv : ∀ t, (SpT D.its t ∨ KpT (D.os.take j) t) → ady.at_ t ≠ L := fun t ht e => by
            have z := s4 _ _ (py.at_ t ht)
            rw [e, hL] at z
            cases z
          have nk : ¬ (SpT D.its (.kept o) ∨ KpT (D.os.take j) (.kept o)) := fun h => h.elim (fun h => h.elim) no
          have pk := ((py.same s4).same s5).kept (o := o) (p := L) nk (fun t ht => ⟨fun e => by rw [e] at ht; exact ht.elim (fun h => h.elim) fun h => h.elim, fun e => by rw [e] at ht; exact ht.elim (fun h => h.elim) fun h => h.elim⟩) liv b1 upd_same
          have e1 : (ady.keep o L).at_ (.kept o) = L := if_pos rfl
          have nlk : ∀ t, (SpT D.its t ∨ KpT (D.os.take j ++ [o]) t) → (ady.keep o L).at_ t ≠ x ∧ (ady.keep o L).at_ t ≠ Sd ∧ (ady.keep o L).at_ t ≠ Dd := fun t ht => by
            cases t with
            | kept q =>
              have hq : q ∈ D.os.take j ++ [o] := ht.elim (fun h => h.elim) id
              rcases List.mem_append.mp hq with h | h
              · rw [show (ady.keep o L).at_ (.kept q) = ady.at_ (.kept q) from if_neg fun e : q = o => no (e ▸ h)]
                exact ny (.kept q) (.inr h)
              · rw [List.mem_singleton.mp h, e1]
                exact ⟨b2, b3, LD⟩
            | sp i => exact ny (.sp i) (.inl (ht.elim id fun h => h.elim))
            | md i => exact ny (.md i) (.inl (ht.elim id fun h => h.elim))
            | cv i => exact ny (.cv i) (.inl (ht.elim id fun h => h.elim))
            | qu i => exact ny (.qu i) (.inl (ht.elim id fun h => h.elim))
            | _ => exact (ht.elim (fun h => h.elim) fun h => h.elim)
          refine ⟨_, .inl (DPut.k (k := Sum.inl o) (s5 _ _ (s4 _ _ dy)) ?_), ady.keep o L, fun y u e => ?_, ?_, ea, ?_, ?_⟩
          · rw [List.length_map, List.length_take, sizeLine_eq]
            omega
          · rw [upd_ne (ne_of_none e hDd)]
            exact s5 _ _ (sy4 _ _ e)
          · rw [upd_same, put_refs no, St.take_one hi]
            rfl
          · rw [St.take_one hi]
            refine Pt.iff (pk.upd fun t ht => ?_) fun t ht => ?_
            · refine (nlk t ?_).2.2
              rcases ht with ht | rfl
              · exact ht.imp id fun h => by cases t <;> first | exact List.mem_append_left _ h | exact h.elim
              · exact .inr (List.mem_append_right _ (.head _))
            · cases t with
              | kept q =>
                have hq : q ∈ D.os.take j ++ [o] := ht.elim (fun h => h.elim) id
                rcases List.mem_append.mp hq with h | h
                · exact .inl (.inr h)
                · exact .inr (by rw [List.mem_singleton.mp h])
              | _ => exact .inl (ht.imp id fun h => h)
          · rw [St.take_one hi]
            exact nlk
        · obtain ⟨ady, sy, dy, ea, py, ny⟩ := p
          rw [List.take_length] at dy py ny
          have sz := same_unlock hi2 sy
          have iD : ad.at_ .ibo ≠ Dd := fun e => by rw [← e, upd_same] at hDd; cases hDd
          have pi2 : ∀ t, (SpT D.its t ∨ KpT D.os t) → ady.at_ t ≠ ad.at_ .ibo := fun t ht e => by
            have z := py.fr t ht
            rw [e, A0.at_ .ibo True.intro] at z
            cases z
          refine ⟨sy _ _ upd_same, ?_⟩
          refine ⟨_, rfl, x, _, dx, _, rfl, sz _ _ hx2, K.cT, K.nT _ (by simp), lt_ok, ?_⟩
          refine hN _ _ ⟨Dd, ady, rfl, fun y o e => ?_, upd_same, ?_, (back (fun _ _ h => h) hDd).1, xD.symm, SD.symm, ?_, (py.upd pi2).upd fun t ht => (ny t ht).1, ny⟩
          · rw [upd_ne (ne_of_none e nx)]
            exact sz y o (s2 y o e)
          · rw [upd_ne Sx, show (D.its.map fun i => (i, V.ref (ady.at_ (.sp i)))) = D.its.map fun i => (i, V.ref (adt.at_ (.sp i))) from List.map_congr_left fun i _ => by rw [ea i]]
            exact sz _ _ hS
          · rw [upd_ne xD.symm, upd_ne iD.symm]
            exact dy
      · obtain ⟨Id, adt2, rfl, s3, hx3, hS3, nI, Ix, IS, hI, pt3, nl3⟩ := h
        have ta3 := s3 _ _ ta
        have ha3 := s3 _ _ (A0.at_ .asks True.intro)
        refine ⟨_, rfl, _, _, _, _, _, rfl, ta3, K.cT, K.nT _ (by simp), rfl, _, _, rfl, .inl ha3, fun Kd hK => ?_⟩
        have s4 := same_new' (o := .dK (D.al.map (ent fun e => .ref e.1))) hK
        refine ⟨_, rfl, x, _, dx, _, rfl, s4 _ _ hx3, K.cT, K.nT _ (by simp), lt_ok, ?_⟩
        have nK : H Kd = none := none_same s3 hK
        have xK : x ≠ Kd := ne_of_none hx3 hK
        have SK : Sd ≠ Kd := ne_of_none hS3 hK
        have IK : Id ≠ Kd := ne_of_none hI hK
        have pK : ∀ t, (SpT D.its t ∨ KpT D.os t) → adt2.at_ t ≠ Kd := fun t ht => ne_of_none (pt3.at_ t ht) hK
        have sF : Same H (upd (upd Hz Kd (.dK (D.al.map (ent fun e => .ref e.1)))) x (.ins c.CT dx (tabF c.mo Sd Id Kd))) := fun y o e => by
          rw [upd_ne (ne_of_none e nx)]
          exact s4 _ _ (s3 _ _ e)
        let ad2 : Ad := ⟨fun t => match t with
          | .tab => x
          | .spots => Sd
          | .ibo => Id
          | .asks => Kd
          | t => adt2.at_ t, fun t => match t with
          | .tab => dx
          | t => adt2.dx t⟩
        have pF := ((pt3.same s4).upd (r := x) (o := .ins c.CT dx (tabF c.mo Sd Id Kd)) fun t ht => (nl3 t ht).1)
        have pA := Pt.ext (ad' := ad2) (N := fun t => t = .tab ∨ t = .spots ∨ t = .ibo ∨ t = .asks) pF (fun t ht => by
            cases t with
            | tab => exact (ht.elim (fun h => h.elim) fun h => h.elim)
            | spots => exact (ht.elim (fun h => h.elim) fun h => h.elim)
            | ibo => exact (ht.elim (fun h => h.elim) fun h => h.elim)
            | asks => exact (ht.elim (fun h => h.elim) fun h => h.elim)
            | _ => exact ⟨rfl, rfl⟩)
          (fun t ht => by
            rcases ht with rfl | rfl | rfl | rfl
            · exact ⟨upd_same, nx, fun s hs => (nl3 s hs).1⟩
            · exact ⟨by show (upd _ x _) Sd = _; rw [upd_ne Sx]; exact s4 _ _ hS3, nS, fun s hs => (nl3 s hs).2.1⟩
            · exact ⟨by show (upd _ x _) Id = _; rw [upd_ne Ix]; exact s4 _ _ hI, nI, fun s hs => (nl3 s hs).2.2⟩
            · exact ⟨by show (upd _ x _) Kd = _; rw [upd_ne xK.symm, upd_same]; rfl, nK, fun s hs => pK s hs⟩)
          (fun s t hs ht e => by
            rcases hs with rfl | rfl | rfl | rfl <;> rcases ht with rfl | rfl | rfl | rfl <;> first | rfl | exact absurd e (by first | assumption | exact Ne.symm (by assumption)))
        have dm : ∀ t, D.dom t → (SpT D.its t ∨ KpT D.os t) ∨ (t = .tab ∨ t = .spots ∨ t = .ibo ∨ t = .asks) := fun t ht => by
          cases t with
          | tab => exact .inr (.inl rfl)
          | spots => exact .inr (.inr (.inl rfl))
          | ibo => exact .inr (.inr (.inr (.inl rfl)))
          | asks => exact .inr (.inr (.inr (.inr rfl)))
          | kept o => exact .inl (.inr ht)
          | _ => exact .inl (.inl ht)
        exact ⟨_, rfl, k _ ad2 sF ⟨fun t ht => pA.at_ t (dm t ht), fun s t hs ht => pA.inj s t (dm s hs) (dm t ht), fun e he => sF _ _ (A0.ask e he), A0.ok⟩ fun a ⟨t, ht, ea⟩ => by rw [← ea]; exact pA.fr t (dm t ht)⟩
end Lk
end
section
set_option maxRecDepth 100000
set_option maxHeartbeats 1000000
/-! The law's own lock table, where it stands. -/
namespace Lk
open PySem L2

inductive WTag where
  | wd | held | conv | queue | asks | got
  | hd (i : V) | cv (i : V) | qu (i : V) | gt (o : Int)
  deriving DecidableEq
structure Wt where
  hi : List V
  hm : V → List (Int × Str)
  ci : List V
  cm : V → List Int
  qi : List V
  qm : V → List Int
  al : List (Int × Addr × V × Str)
  go : List Int
  gm : Int → List V
def Wt.ts (W : Wt) : LT.TS V Str := ⟨fun i o => (W.hm i).lookup o, W.cm, W.qm, fun o => (W.al.lookup o).map (·.2), W.gm⟩
def Wt.empty : Wt := ⟨[], fun _ => [], [], fun _ => [], [], fun _ => [], [], [], fun _ => []⟩
abbrev WAd := WTag → Addr
def Wt.dom (W : Wt) : WTag → Prop
  | .hd i => i ∈ W.hi
  | .cv i => i ∈ W.ci
  | .qu i => i ∈ W.qi
  | .gt o => o ∈ W.go
  | _ => True
def wcont (w : World) (c : Tc) (ad : WAd) (W : Wt) : WTag → HO
  | .wd => .dK [(Sum.inr "held", .ref (ad .held)), (Sum.inr "conv", .ref (ad .conv)), (Sum.inr "queue", .ref (ad .queue)), (Sum.inr "asks", .ref (ad .asks)), (Sum.inr "got", .ref (ad .got))]
  | .held => Mx.MixO w c.kof (ad .held) (W.hi.map fun i => (i, .ref (ad (.hd i))))
  | .conv => Mx.MixO w c.kof (ad .conv) (W.ci.map fun i => (i, .ref (ad (.cv i))))
  | .queue => Mx.MixO w c.kof (ad .queue) (W.qi.map fun i => (i, .ref (ad (.qu i))))
  | .asks => .dK (W.al.map (ent fun e => .ref e.1))
  | .got => .dK (W.go.map fun o => (Sum.inl o, .ref (ad (.gt o))))
  | .hd i => .dK ((W.hm i).map (ent V.str))
  | .cv i => .lst ((W.cm i).map V.int)
  | .qu i => .lst ((W.qm i).map V.int)
  | .gt o => .lst (W.gm o)
theorem wcont_tup {w : World} {c : Tc} {ad : WAd} {W : Wt} (t : WTag) : ∀ xs, wcont w c ad W t ≠ .tup xs := fun xs h => by cases t <;> cases h
structure Wt.Ok (c : Tc) (W : Wt) : Prop where
  hn : W.hi.Nodup
  hJ : ∀ i ∈ W.hi, i ∈ c.J
  cn : W.ci.Nodup
  cJ : ∀ i ∈ W.ci, i ∈ c.J
  qn : W.qi.Nodup
  qJ : ∀ i ∈ W.qi, i ∈ c.J
  gn : W.go.Nodup
  gU : ∀ o ∈ W.go, o ∈ c.U
  mdn : ∀ i, ((W.hm i).map (·.1)).Nodup
  aln : (W.al.map (·.1)).Nodup
  h0 : ∀ i, i ∉ W.hi → W.hm i = []
  c0 : ∀ i, i ∉ W.ci → W.cm i = []
  q0 : ∀ i, i ∉ W.qi → W.qm i = []
  g0 : ∀ o, o ∉ W.go → W.gm o = []
structure WAt (w : World) (c : Tc) (H : Hp) (ad : WAd) (W : Wt) : Prop where
  at_ : ∀ t, W.dom t → H (ad t) = some (wcont w c ad W t)
  inj : ∀ s t, W.dom s → W.dom t → ad s = ad t → s = t
  ask : ∀ e ∈ W.al, H e.2.1 = some (.tup [e.2.2.1, .str e.2.2.2])
  ok : W.Ok c
def WOwn (ad : WAd) (W : Wt) (a : Addr) : Prop := ∃ t, W.dom t ∧ ad t = a
/-- a doing of the world -/
structure WGo (w : World) (c : Tc) (H0 : Hp) (ad0 : WAd) (W0 : Wt) (H : Hp) (ad : WAd) (W : Wt) : Prop where
  at_ : WAt w c H ad W
  aft : Aft (WOwn ad0 W0) H0 (WOwn ad W) H
  live : ∀ b o, H0 b = some o → ∃ u, H b = some u
  wd : ad .wd = ad0 .wd
structure WOff (H : Hp) (ad : WAd) (W : Wt) (a : Addr) (o : HO) : Prop where
  at_ : H a = some o
  no : ¬ WOwn ad W a
section
variable {w : World} {c : Tc} {H0 H H' H1 H2 : Hp} {ad0 ad ad' ad1 ad2 : WAd} {W0 W W' W1 W2 : Wt}
theorem WAt.live_ (A : WAt w c H ad W) {a : Addr} (h : WOwn ad W a) : ∃ t, W.dom t ∧ H a = some (wcont w c ad W t) := by
  obtain ⟨t, ht, rfl⟩ := h
  exact ⟨t, ht, A.at_ t ht⟩
theorem WAt.tups (A : WAt w c H ad W) {S' : Addr → Prop} (f : Aft (WOwn ad W) H S' H') : Tups H H' := fun b xs e => f.keep b _ e fun z => by
  obtain ⟨t, _, e2⟩ := A.live_ z
  rw [e] at e2
  exact wcont_tup t xs (Option.some.inj e2).symm
theorem WAt.same (A : WAt w c H ad W) (s : Same H H') : WAt w c H' ad W := ⟨fun t ht => s _ _ (A.at_ t ht), A.inj, fun e he => s _ _ (A.ask e he), A.ok⟩
theorem WAt.apart (A : WAt w c H ad W) {S S' : Addr → Prop} (f : Aft S H S' H') (h : ∀ a, WOwn ad W a → ¬ S a) (t : Tups H H') : WAt w c H' ad W :=
  ⟨fun t ht => f.keep _ _ (A.at_ t ht) (h _ ⟨t, ht, rfl⟩), A.inj, fun e he => t _ _ (A.ask e he), A.ok⟩
theorem WAt.off (A : WAt w c H ad W) {r : Addr} {o u : HO} (n : ¬ WOwn ad W r) (h : H r = some u) (hu : ∀ xs, u ≠ .tup xs) : WAt w c (upd H r o) ad W :=
  ⟨fun t ht => by rw [upd_ne fun e => n ⟨t, ht, e⟩]; exact A.at_ t ht, A.inj, fun e he => Tups.mut h hu _ _ (A.ask e he), A.ok⟩
theorem woff_new {r : Addr} (A : WAt w c H ad W) (h : H r = none) : ¬ WOwn ad W r := fun z => by
  obtain ⟨t, _, e⟩ := A.live_ z
  rw [h] at e; cases e
theorem WGo.refl (A : WAt w c H ad W) : WGo w c H ad W H ad W := ⟨A, Aft.refl, fun b o h => ⟨o, h⟩, rfl⟩
theorem WGo.trans (g : WGo w c H ad W H1 ad1 W1) (k : WGo w c H1 ad1 W1 H2 ad2 W2) : WGo w c H ad W H2 ad2 W2 :=
  ⟨k.at_, g.aft.trans k.aft, fun b o h => let ⟨u, hu⟩ := g.live b o h; k.live b u hu, k.wd.trans g.wd⟩
theorem WGo.same (A : WAt w c H ad W) (s : Same H H') : WGo w c H ad W H' ad W := ⟨A.same s, Aft.same s, fun b o h => ⟨o, s b o h⟩, rfl⟩
theorem WGo.then_ (g : WGo w c H ad W H1 ad1 W1) (s : Same H1 H2) : WGo w c H ad W H2 ad1 W1 := g.trans (WGo.same g.at_ s)
theorem WGo.tups (A : WAt w c H ad W) (g : WGo w c H ad W H1 ad1 W1) : Tups H H1 := A.tups g.aft
theorem WGo.off (g : WGo w c H ad W H1 ad1 W1) {a : Addr} {o : HO} (h : H a = some o) (n : ¬ WOwn ad W a) : H1 a = some o ∧ ¬ WOwn ad1 W1 a :=
  ⟨g.aft.keep a o h n, fun z => (g.aft.new a z).elim n fun z => by rw [h] at z; cases z⟩
theorem WGo.none_ (g : WGo w c H ad W H1 ad1 W1) {r : Addr} (h : H1 r = none) : H r = none := none_of (fun b o e => g.live b o e) h
theorem WOff.go {a : Addr} {o : HO} (x : WOff H ad W a o) (g : WGo w c H ad W H' ad' W') : WOff H' ad' W' a o := let ⟨h, n⟩ := g.off x.at_ x.no; ⟨h, n⟩
theorem WOff.new {a : Addr} {o : HO} (A : WAt w c H ad W) (h : H a = none) : WOff (upd H a o) ad W a o := ⟨upd_same, woff_new A h⟩
theorem WOff.same {a : Addr} {o : HO} (x : WOff H ad W a o) (s : Same H H') : WOff H' ad W a o := ⟨s _ _ x.at_, x.no⟩
theorem WOff.upd {a r : Addr} {o u : HO} (x : WOff H ad W a o) (h : a ≠ r) : WOff (upd H r u) ad W a o := ⟨by rw [upd_ne h]; exact x.at_, x.no⟩
theorem live_upd {H0 H : Hp} {r : Addr} {o : HO} (l : ∀ b u, H0 b = some u → ∃ v, H b = some v) : ∀ b u, H0 b = some u → ∃ v, (L2.upd H r o) b = some v := fun b u e => by
  by_cases h : b = r
  · exact ⟨o, by rw [h, upd_same]⟩
  · obtain ⟨v, hv⟩ := l b u e
    exact ⟨v, by rw [upd_ne h]; exact hv⟩
theorem WGo.mine {r : Addr} {o u : HO} (g : WGo w c H ad W H' ad' W') (n : H r = none) (x : WOff H' ad' W' r u) (hu : ∀ xs, u ≠ .tup xs) : WGo w c H ad W (L2.upd H' r o) ad' W' :=
  ⟨g.at_.off x.no x.at_ hu, ⟨fun b v e ns => by rw [upd_ne (ne_of_none e n)]; exact g.aft.keep b v e ns, g.aft.new⟩, live_upd g.live, g.wd⟩
/-- the content of one part changes, and one part is laid anew (or was not there) -/
theorem WGo.put (g : WGo w c H0 ad0 W0 H ad W) (t0 t1 : WTag) (h0 : W.dom t0) {L : Addr} (nL : H0 L = none) (hL : H L = some (wcont w c ad' W' t1)) (xL : ¬ WOwn ad W L) (e1 : ad' t1 = L) (en : ∀ t, t ≠ t1 → ad' t = ad t) (n01 : t0 ≠ t1) (nw : t1 ≠ .wd)
    (ed : ∀ t, W'.dom t → W.dom t ∨ t = t1) (ec : ∀ t, t ≠ t0 → t ≠ t1 → W.dom t → wcont w c ad' W' t = wcont w c ad W t) (ok : W'.Ok c) (al : ∀ e ∈ W'.al, H e.2.1 = some (.tup [e.2.2.1, .str e.2.2.2])) :
    WGo w c H0 ad0 W0 (L2.upd H (ad t0) (wcont w c ad' W' t0)) ad' W' := by
  have L0 : L ≠ ad t0 := fun e => xL ⟨t0, h0, e.symm⟩
  have dm : ∀ t, W'.dom t → t ≠ t1 → W.dom t := fun t ht n => (ed t ht).resolve_right n
  refine ⟨⟨fun t ht => ?_, fun s t hs ht e => ?_, fun e he => ?_, ok⟩, ⟨fun b u e n => ?_, fun b h => ?_⟩, live_upd g.live, (en .wd nw.symm).trans g.wd⟩
  · by_cases h1 : t = t1
    · rw [h1, e1, upd_ne L0]; exact hL
    · rw [en t h1]
      by_cases h2 : t = t0
      · rw [h2, upd_same]
      · rw [upd_ne fun z => h2 (g.at_.inj t t0 (dm t ht h1) h0 z), ec t h2 h1 (dm t ht h1)]
        exact g.at_.at_ t (dm t ht h1)
  · by_cases h1 : s = t1
    · by_cases h2 : t = t1
      · rw [h1, h2]
      · rw [h1, e1, en t h2] at e
        exact (xL ⟨t, dm t ht h2, e.symm⟩).elim
    · by_cases h2 : t = t1
      · rw [h2, e1, en s h1] at e
        exact (xL ⟨s, dm s hs h1, e⟩).elim
      · rw [en s h1, en t h2] at e
        exact g.at_.inj s t (dm s hs h1) (dm t ht h2) e
  · have z := al e he
    rw [upd_ne fun y => by
      rw [y, g.at_.at_ t0 h0] at z
      exact wcont_tup t0 _ (Option.some.inj z)]
    exact z
  · rw [upd_ne fun y => by
      by_cases q : WOwn ad W b
      · exact (g.aft.new b q).elim n fun z => by rw [e] at z; cases z
      · exact q ⟨t0, h0, y.symm⟩]
    exact g.aft.keep b u e n
  · obtain ⟨t, ht, rfl⟩ := h
    by_cases h1 : t = t1
    · rw [h1, e1]; exact .inr nL
    · rw [en t h1]; exact g.aft.new _ ⟨t, dm t ht h1, rfl⟩
/-- the content of one part changes -/
theorem WGo.set (g : WGo w c H0 ad0 W0 H ad W) (t0 : WTag) (h0 : W.dom t0) (ed : ∀ t, W'.dom t → W.dom t) (ec : ∀ t, t ≠ t0 → W.dom t → wcont w c ad W' t = wcont w c ad W t) (ok : W'.Ok c) (al : ∀ e ∈ W'.al, H e.2.1 = some (.tup [e.2.2.1, .str e.2.2.2])) :
    WGo w c H0 ad0 W0 (L2.upd H (ad t0) (wcont w c ad W' t0)) ad W' := by
  refine ⟨⟨fun t ht => ?_, fun s t hs ht e => g.at_.inj s t (ed s hs) (ed t ht) e, fun e he => ?_, ok⟩, ⟨fun b u e n => ?_, fun b h => ?_⟩, live_upd g.live, g.wd⟩
  · by_cases h2 : t = t0
    · rw [h2, upd_same]
    · rw [upd_ne fun z => h2 (g.at_.inj t t0 (ed t ht) h0 z), ec t h2 (ed t ht)]
      exact g.at_.at_ t (ed t ht)
  · have z := al e he
    rw [upd_ne fun y => by
      rw [y, g.at_.at_ t0 h0] at z
      exact wcont_tup t0 _ (Option.some.inj z)]
    exact z
  · rw [upd_ne fun y => by
      by_cases q : WOwn ad W b
      · exact (g.aft.new b q).elim n fun z => by rw [e] at z; cases z
      · exact q ⟨t0, h0, y.symm⟩]
    exact g.aft.keep b u e n
  · obtain ⟨t, ht, rfl⟩ := h
    exact g.aft.new _ ⟨t, ed t ht, rfl⟩
end
/-- x at the end, if it is not there -/
def addL {α : Type} [DecidableEq α] (l : List α) (x : α) : List α := if x ∈ l then l else l ++ [x]
theorem mem_addL {α : Type} [DecidableEq α] {l : List α} {x y : α} : y ∈ addL l x ↔ y ∈ l ∨ y = x := by
  unfold addL
  by_cases h : x ∈ l
  · rw [if_pos h]
    exact ⟨.inl, fun z => z.elim id fun e => e ▸ h⟩
  · rw [if_neg h, List.mem_append, List.mem_singleton]
theorem nodup_addL {α : Type} [DecidableEq α] {l : List α} {x : α} (n : l.Nodup) : (addL l x).Nodup := by
  unfold addL
  by_cases h : x ∈ l
  · rw [if_pos h]; exact n
  · rw [if_neg h, List.nodup_append]
    exact ⟨n, by simp, fun a ha b hb e => h (by rw [← List.mem_singleton.mp hb, ← e]; exact ha)⟩
theorem put_map {κ α : Type} [DecidableEq κ] [DecidableEq α] (k : α → κ) (ki : ∀ a b, k a = k b → a = b) {l : List α} {g g' : α → V} {x : α} {y : V} (e1 : g' x = y) (en : ∀ a, a ≠ x → g' a = g a) :
    putK (l.map fun a => (k a, g a)) (k x) y = (addL l x).map fun a => (k a, g' a) := by
  have ea : ((l.map fun a => (k a, g a)).any fun kv => decide (kv.1 = k x)) = decide (x ∈ l) := by
    rw [List.any_map]
    by_cases h : x ∈ l
    · rw [decide_eq_true h, List.any_eq_true]
      exact ⟨x, h, by simp⟩
    · rw [decide_eq_false h, List.any_eq_false]
      intro a ha z
      have z : decide (k a = k x) = true := z
      exact h (ki _ _ (of_decide_eq_true z) ▸ ha)
  unfold putK addL
  rw [ea]
  by_cases h : x ∈ l
  · rw [decide_eq_true h, if_pos rfl, if_pos h, List.map_map]
    refine List.map_congr_left fun a _ => ?_
    show (if k a = k x then (k a, y) else (k a, g a)) = (k a, g' a)
    by_cases hx : a = x
    · rw [if_pos (by rw [hx]), hx, e1]
    · rw [if_neg fun z => hx (ki _ _ z), en a hx]
  · rw [decide_eq_false h, if_neg (by simp), if_neg h, List.map_append]
    congr 1
    · exact List.map_congr_left fun a ha => by rw [en a fun e => h (e ▸ ha)]
    · rw [List.map_cons, e1]; rfl
end Lk
end
section
set_option maxRecDepth 100000
set_option maxHeartbeats 1000000
/-! The world's parts change. -/
namespace Lk
open PySem L2

def WAd.mv (ad : WAd) (t : WTag) (L : Addr) : WAd := fun s => if s = t then L else ad s
theorem mv_at (ad : WAd) (t : WTag) (L : Addr) : ad.mv t L t = L := if_pos rfl
theorem mv_off (ad : WAd) {s t : WTag} (L : Addr) (h : s ≠ t) : ad.mv t L s = ad s := if_neg h
def Wt.sCv (W : Wt) (i : V) (l : List Int) : Wt := { W with ci := addL W.ci i, cm := LT.put W.cm i l }
def Wt.sQu (W : Wt) (i : V) (l : List Int) : Wt := { W with qi := addL W.qi i, qm := LT.put W.qm i l }
def Wt.sHd (W : Wt) (i : V) (l : List (Int × Str)) : Wt := { W with hi := addL W.hi i, hm := LT.put W.hm i l }
def Wt.sGt (W : Wt) (o : Int) (l : List V) : Wt := { W with go := addL W.go o, gm := LT.put W.gm o l }
def Wt.sAl (W : Wt) (l : List (Int × Addr × V × Str)) : Wt := { W with al := l }
section
variable {w : World} {c : Tc} {H0 H : Hp} {ad0 ad : WAd} {W0 W : Wt}
theorem nd_addJ {l : List V} {i : V} (h : ∀ x ∈ l, x ∈ c.J) (hi : i ∈ c.J) : ∀ x ∈ addL l i, x ∈ c.J := fun x hx => (mem_addL.mp hx).elim (h x) fun e => e ▸ hi
theorem WGo.cv (g : WGo w c H0 ad0 W0 H ad W) {i : V} {l : List Int} {L : Addr} (hi : i ∈ c.J) (nL : H0 L = none) (x : WOff H ad W L (.lst (l.map V.int))) :
    WGo w c H0 ad0 W0 (upd H (ad .conv) (Mx.MixO w c.kof (ad .conv) (putK (W.ci.map fun k => (k, .ref (ad (.cv k)))) i (.ref L)))) (ad.mv (.cv i) L) (W.sCv i l) := by
  have z := g.put (ad' := ad.mv (.cv i) L) (W' := W.sCv i l) .conv (.cv i) True.intro nL ?_ x.no (mv_at _ _ _) (fun t ht => mv_off _ _ ht) (by simp) (by simp) (fun t ht => ?_) (fun t h1 h2 ht => ?_) ?_ g.at_.ask
  · have e : wcont w c (ad.mv (.cv i) L) (W.sCv i l) .conv = Mx.MixO w c.kof (ad .conv) (putK (W.ci.map fun k => (k, .ref (ad (.cv k)))) i (.ref L)) := by
      show Mx.MixO w c.kof _ ((addL W.ci i).map fun k => (k, V.ref ((ad.mv (.cv i) L) (.cv k)))) = _
      rw [mv_off ad L (show WTag.conv ≠ .cv i by simp)]
      congr 1
      exact (put_map (k := id) (fun _ _ h => h) (g := fun k => V.ref (ad (.cv k))) (g' := fun k => V.ref ((ad.mv (.cv i) L) (.cv k))) (by rw [mv_at]) fun a ha => by rw [mv_off ad L (fun e => ha (by injection e))]).symm
    rw [e] at z
    exact z
  · rw [x.at_]
    show _ = some (HO.lst ((LT.put W.cm i l i).map V.int))
    rw [LT.put_at]
  · cases t with
    | cv k => exact (mem_addL.mp ht).imp id fun e => by rw [e]
    | _ => exact .inl ht
  · cases t with
    | cv k =>
      show HO.lst ((LT.put W.cm i l k).map V.int) = _
      rw [LT.put_off _ _ fun e : k = i => h2 (by rw [e])]
      rfl
    | conv => exact (h1 rfl).elim
    | _ => rfl
  · have o := g.at_.ok
    refine ⟨o.hn, o.hJ, nodup_addL o.cn, nd_addJ o.cJ hi, o.qn, o.qJ, o.gn, o.gU, o.mdn, o.aln, o.h0, fun k hk => ?_, o.q0, o.g0⟩
    have n : k ≠ i := fun e => hk (mem_addL.mpr (.inr e))
    show LT.put W.cm i l k = []
    rw [LT.put_off _ _ n]
    exact o.c0 k fun h => hk (mem_addL.mpr (.inl h))
theorem WGo.qu (g : WGo w c H0 ad0 W0 H ad W) {i : V} {l : List Int} {L : Addr} (hi : i ∈ c.J) (nL : H0 L = none) (x : WOff H ad W L (.lst (l.map V.int))) :
    WGo w c H0 ad0 W0 (upd H (ad .queue) (Mx.MixO w c.kof (ad .queue) (putK (W.qi.map fun k => (k, .ref (ad (.qu k)))) i (.ref L)))) (ad.mv (.qu i) L) (W.sQu i l) := by
  have z := g.put (ad' := ad.mv (.qu i) L) (W' := W.sQu i l) .queue (.qu i) True.intro nL ?_ x.no (mv_at _ _ _) (fun t ht => mv_off _ _ ht) (by simp) (by simp) (fun t ht => ?_) (fun t h1 h2 ht => ?_) ?_ g.at_.ask
  · have e : wcont w c (ad.mv (.qu i) L) (W.sQu i l) .queue = Mx.MixO w c.kof (ad .queue) (putK (W.qi.map fun k => (k, .ref (ad (.qu k)))) i (.ref L)) := by
      show Mx.MixO w c.kof _ ((addL W.qi i).map fun k => (k, V.ref ((ad.mv (.qu i) L) (.qu k)))) = _
      rw [mv_off ad L (show WTag.queue ≠ .qu i by simp)]
      congr 1
      exact (put_map (k := id) (fun _ _ h => h) (g := fun k => V.ref (ad (.qu k))) (g' := fun k => V.ref ((ad.mv (.qu i) L) (.qu k))) (by rw [mv_at]) fun a ha => by rw [mv_off ad L (fun e => ha (by injection e))]).symm
    rw [e] at z
    exact z
  · rw [x.at_]
    show _ = some (HO.lst ((LT.put W.qm i l i).map V.int))
    rw [LT.put_at]
  · cases t with
    | qu k => exact (mem_addL.mp ht).imp id fun e => by rw [e]
    | _ => exact .inl ht
  · cases t with
    | qu k =>
      show HO.lst ((LT.put W.qm i l k).map V.int) = _
      rw [LT.put_off _ _ fun e : k = i => h2 (by rw [e])]
      rfl
    | queue => exact (h1 rfl).elim
    | _ => rfl
  · have o := g.at_.ok
    refine ⟨o.hn, o.hJ, o.cn, o.cJ, nodup_addL o.qn, nd_addJ o.qJ hi, o.gn, o.gU, o.mdn, o.aln, o.h0, o.c0, fun k hk => ?_, o.g0⟩
    have n : k ≠ i := fun e => hk (mem_addL.mpr (.inr e))
    show LT.put W.qm i l k = []
    rw [LT.put_off _ _ n]
    exact o.q0 k fun h => hk (mem_addL.mpr (.inl h))
theorem WGo.gt (g : WGo w c H0 ad0 W0 H ad W) {o : Int} {l : List V} {L : Addr} (ho : o ∈ c.U) (nL : H0 L = none) (x : WOff H ad W L (.lst l)) :
    WGo w c H0 ad0 W0 (upd H (ad .got) (.dK (putK (W.go.map fun k => (Sum.inl k, .ref (ad (.gt k)))) (Sum.inl o) (.ref L)))) (ad.mv (.gt o) L) (W.sGt o l) := by
  have z := g.put (ad' := ad.mv (.gt o) L) (W' := W.sGt o l) .got (.gt o) True.intro nL ?_ x.no (mv_at _ _ _) (fun t ht => mv_off _ _ ht) (by simp) (by simp) (fun t ht => ?_) (fun t h1 h2 ht => ?_) ?_ g.at_.ask
  · have e : wcont w c (ad.mv (.gt o) L) (W.sGt o l) .got = .dK (putK (W.go.map fun k => (Sum.inl k, .ref (ad (.gt k)))) (Sum.inl o) (.ref L)) := by
      show HO.dK ((addL W.go o).map fun k => ((Sum.inl k : L2.Key), V.ref ((ad.mv (.gt o) L) (.gt k)))) = _
      congr 1
      exact (put_map (k := fun k => (Sum.inl k : L2.Key)) (fun _ _ h => by injection h) (g := fun k => V.ref (ad (.gt k))) (g' := fun k => V.ref ((ad.mv (.gt o) L) (.gt k))) (by rw [mv_at]) fun a ha => by rw [mv_off ad L (fun e => ha (by injection e))]).symm
    rw [e] at z
    exact z
  · rw [x.at_]
    show _ = some (HO.lst (LT.put W.gm o l o))
    rw [LT.put_at]
  · cases t with
    | gt k => exact (mem_addL.mp ht).imp id fun e => by rw [e]
    | _ => exact .inl ht
  · cases t with
    | gt k =>
      show HO.lst (LT.put W.gm o l k) = _
      rw [LT.put_off _ _ fun e : k = o => h2 (by rw [e])]
      rfl
    | got => exact (h1 rfl).elim
    | _ => rfl
  · have k := g.at_.ok
    refine ⟨k.hn, k.hJ, k.cn, k.cJ, k.qn, k.qJ, nodup_addL k.gn, fun x hx => (mem_addL.mp hx).elim (k.gU x) fun e => e ▸ ho, k.mdn, k.aln, k.h0, k.c0, k.q0, fun q hq => ?_⟩
    have n : q ≠ o := fun e => hq (mem_addL.mpr (.inr e))
    show LT.put W.gm o l q = []
    rw [LT.put_off _ _ n]
    exact k.g0 q fun h => hq (mem_addL.mpr (.inl h))
/-- a new dict of holders -/
theorem WGo.hdN (g : WGo w c H0 ad0 W0 H ad W) {i : V} {l : List (Int × Str)} {L : Addr} (hi : i ∈ c.J) (nd : (l.map (·.1)).Nodup) (nL : H0 L = none) (x : WOff H ad W L (.dK (l.map (ent V.str)))) :
    WGo w c H0 ad0 W0 (upd H (ad .held) (Mx.MixO w c.kof (ad .held) (putK (W.hi.map fun k => (k, .ref (ad (.hd k)))) i (.ref L)))) (ad.mv (.hd i) L) (W.sHd i l) := by
  have z := g.put (ad' := ad.mv (.hd i) L) (W' := W.sHd i l) .held (.hd i) True.intro nL ?_ x.no (mv_at _ _ _) (fun t ht => mv_off _ _ ht) (by simp) (by simp) (fun t ht => ?_) (fun t h1 h2 ht => ?_) ?_ g.at_.ask
  · have e : wcont w c (ad.mv (.hd i) L) (W.sHd i l) .held = Mx.MixO w c.kof (ad .held) (putK (W.hi.map fun k => (k, .ref (ad (.hd k)))) i (.ref L)) := by
      show Mx.MixO w c.kof _ ((addL W.hi i).map fun k => (k, V.ref ((ad.mv (.hd i) L) (.hd k)))) = _
      rw [mv_off ad L (show WTag.held ≠ .hd i by simp)]
      congr 1
      exact (put_map (k := id) (fun _ _ h => h) (g := fun k => V.ref (ad (.hd k))) (g' := fun k => V.ref ((ad.mv (.hd i) L) (.hd k))) (by rw [mv_at]) fun a ha => by rw [mv_off ad L (fun e => ha (by injection e))]).symm
    rw [e] at z
    exact z
  · rw [x.at_]
    show _ = some (HO.dK ((LT.put W.hm i l i).map _))
    rw [LT.put_at]
  · cases t with
    | hd k => exact (mem_addL.mp ht).imp id fun e => by rw [e]
    | _ => exact .inl ht
  · cases t with
    | hd k =>
      show HO.dK ((LT.put W.hm i l k).map _) = _
      rw [LT.put_off _ _ fun e : k = i => h2 (by rw [e])]
      rfl
    | held => exact (h1 rfl).elim
    | _ => rfl
  · have o := g.at_.ok
    refine ⟨nodup_addL o.hn, nd_addJ o.hJ hi, o.cn, o.cJ, o.qn, o.qJ, o.gn, o.gU, fun k => ?_, o.aln, fun k hk => ?_, o.c0, o.q0, o.g0⟩
    · show ((LT.put W.hm i l k).map _).Nodup
      by_cases e : k = i
      · rw [e, LT.put_at]; exact nd
      · rw [LT.put_off _ _ e]; exact o.mdn k
    · have n : k ≠ i := fun e => hk (mem_addL.mpr (.inr e))
      show LT.put W.hm i l k = []
      rw [LT.put_off _ _ n]
      exact o.h0 k fun h => hk (mem_addL.mpr (.inl h))
/-- the holders change -/
theorem WGo.hm (g : WGo w c H0 ad0 W0 H ad W) {i : V} {l : List (Int × Str)} (hi : i ∈ W.hi) (nd : (l.map (·.1)).Nodup) :
    WGo w c H0 ad0 W0 (upd H (ad (.hd i)) (.dK (l.map (ent V.str)))) ad (W.sHd i l) := by
  have e0 : addL W.hi i = W.hi := if_pos hi
  have z := g.set (W' := W.sHd i l) (.hd i) hi (fun t ht => ?_) (fun t h1 ht => ?_) ?_ g.at_.ask
  · rw [show wcont w c ad (W.sHd i l) (.hd i) = .dK ((LT.put W.hm i l i).map (ent V.str)) from rfl, LT.put_at] at z
    exact z
  · cases t with
    | hd k =>
      have ht : k ∈ addL W.hi i := ht
      rw [e0] at ht
      exact ht
    | _ => exact ht
  · cases t with
    | hd k =>
      show HO.dK ((LT.put W.hm i l k).map _) = _
      rw [LT.put_off _ _ fun e : k = i => h1 (by rw [e])]
      rfl
    | held =>
      show Mx.MixO _ _ _ ((addL W.hi i).map _) = _
      rw [e0]
      rfl
    | _ => rfl
  · have o := g.at_.ok
    refine ⟨nodup_addL o.hn, (by show ∀ x ∈ addL W.hi i, _; rw [e0]; exact o.hJ), o.cn, o.cJ, o.qn, o.qJ, o.gn, o.gU, fun k => ?_, o.aln, fun k hk => ?_, o.c0, o.q0, o.g0⟩
    · show ((LT.put W.hm i l k).map _).Nodup
      by_cases e : k = i
      · rw [e, LT.put_at]; exact nd
      · rw [LT.put_off _ _ e]; exact o.mdn k
    · have n : k ≠ i := fun e => hk (mem_addL.mpr (.inr e))
      show LT.put W.hm i l k = []
      rw [LT.put_off _ _ n]
      exact o.h0 k fun h => hk (mem_addL.mpr (.inl h))
theorem WGo.al (g : WGo w c H0 ad0 W0 H ad W) {l : List (Int × Addr × V × Str)} (nd : (l.map (·.1)).Nodup) (h : ∀ e ∈ l, H e.2.1 = some (.tup [e.2.2.1, .str e.2.2.2])) :
    WGo w c H0 ad0 W0 (upd H (ad .asks) (.dK (l.map (ent fun e => .ref e.1)))) ad (W.sAl l) := by
  have o := g.at_.ok
  refine g.set (W' := W.sAl l) .asks True.intro (fun t ht => ?_) (fun t h1 ht => ?_) ⟨o.hn, o.hJ, o.cn, o.cJ, o.qn, o.qJ, o.gn, o.gU, o.mdn, nd, o.h0, o.c0, o.q0, o.g0⟩ h
  · cases t <;> exact ht
  · cases t with
    | asks => exact (h1 rfl).elim
    | _ => rfl
end
section
variable {W : Wt}
theorem sCv_ts (W : Wt) (i : V) (l : List Int) : (W.sCv i l).ts = { W.ts with conv := LT.put W.ts.conv i l } := rfl
theorem sQu_ts (W : Wt) (i : V) (l : List Int) : (W.sQu i l).ts = { W.ts with queue := LT.put W.ts.queue i l } := rfl
theorem sGt_ts (W : Wt) (o : Int) (l : List V) : (W.sGt o l).ts = { W.ts with got := LT.put W.ts.got o l } := rfl
end
abbrev WWf (c : Tc) (W : Wt) : Prop := LT.WF c.U c.J c.B W.ts
section
variable {w : World} {c : Tc} {H : Hp} {ad : WAd} {W : Wt} {o : Int} {i : V} {m : Str} {p : Addr}
abbrev WHin (c : Tc) (W : Wt) (i : V) : Prop := ∀ e ∈ W.hm i, e.1 ∈ c.U ∧ e.2 ∈ c.d.names
theorem wwf_hin (F : WWf c W) (ok : W.Ok c) (i : V) : WHin c W i := fun e he => by
  have z := F.heldIn i e.1 e.2 ((lookup_mem (ok.mdn i)).mpr he)
  exact ⟨z.1, z.2.2⟩
theorem wwf_got (F : WWf c W) (o : Int) : ∀ x ∈ W.gm o, x ∈ c.J := fun x hx => by
  have z := (F.gotIff o x).mp hx
  cases e : W.ts.held x o with
  | none => exact (z e).elim
  | some m => exact (F.heldIn x o m e).2.1
theorem wasks_at (ok : W.Ok c) {e : Int × Addr × V × Str} (he : e ∈ W.al) : W.ts.asks e.1 = some e.2.2 := by
  show (W.al.lookup e.1).map (·.2) = _
  rw [(lookup_mem ok.aln).mpr (show (e.1, e.2) ∈ W.al from he)]
  rfl
theorem wwf_al (F : WWf c W) (ok : W.Ok c) : ∀ e ∈ W.al, e.1 ∈ c.U := fun e he => (F.asksU e.1 e.2.2.1 e.2.2.2 (wasks_at ok he)).1
theorem wasks_none (h : W.ts.asks o = none) : W.al.lookup o = none := by
  have h : (W.al.lookup o).map (·.2) = none := h
  cases e : W.al.lookup o with
  | none => rfl
  | some y => rw [e] at h; cases h
theorem wasks_al (h : W.ts.asks o = some (i, m)) : ∃ p, W.al.lookup o = some (p, i, m) := by
  have h : (W.al.lookup o).map (·.2) = some (i, m) := h
  cases e : W.al.lookup o with
  | none => rw [e] at h; cases h
  | some y =>
    rw [e] at h
    obtain ⟨p, y2⟩ := y
    cases h
    exact ⟨p, rfl⟩
theorem wal_len (F : WWf c W) (ok : W.Ok c) (ul : c.U.length ≤ 20) : W.al.length ≤ 20 := by
  have := LT_len (l := W.al.map (·.1)) (m := c.U) ok.aln fun x hx => by
    obtain ⟨e, he, rfl⟩ := List.mem_map.mp hx
    exact wwf_al F ok e he
  rw [List.length_map] at this
  omega
theorem wwf_cv (F : WWf c W) (i : V) : ∀ q ∈ W.cm i, q ∈ c.U := fun q hq => by
  obtain ⟨⟨m, e⟩, _⟩ := F.convAsk q i hq
  exact (F.asksU q i m e).1
theorem wwf_qu (F : WWf c W) (i : V) : ∀ q ∈ W.qm i, q ∈ c.U := fun q hq => by
  obtain ⟨⟨m, e⟩, _⟩ := F.queueAsk q i hq
  exact (F.asksU q i m e).1
theorem whas_asks : (valV (W.al.map (ent fun e => V.ref e.1)) (Sum.inl o)).isSome = (W.ts.asks o).isSome := by
  rw [valV_k]
  show ((W.al.lookup o).map _).isSome = ((W.al.lookup o).map _).isSome
  cases W.al.lookup o <;> rfl
theorem wdget_asks (A : WAt w c H ad W) (h : W.al.lookup o = some (p, i, m)) : DGet H (ad .asks) (.int o) (some (.ref p)) := by
  refine .inl ⟨_, Sum.inl o, .inl (A.at_ .asks True.intro), rfl, ?_⟩
  show _ = valV (W.al.map (ent fun e => V.ref e.1)) (Sum.inl o)
  rw [valV_k, h]
  rfl
theorem wask_tup (A : WAt w c H ad W) (h : W.al.lookup o = some (p, i, m)) : H p = some (.tup [i, .str m]) := A.ask (o, p, i, m) ((lookup_mem A.ok.aln).mp h)
theorem wd_held (A : WAt w c H ad W) : DGet H (ad .wd) (.str "held") (some (.ref (ad .held))) := .inl ⟨_, Sum.inr "held", .inl (A.at_ .wd True.intro), rfl, by rfl⟩
theorem wd_conv (A : WAt w c H ad W) : DGet H (ad .wd) (.str "conv") (some (.ref (ad .conv))) := .inl ⟨_, Sum.inr "conv", .inl (A.at_ .wd True.intro), rfl, by rfl⟩
theorem wd_queue (A : WAt w c H ad W) : DGet H (ad .wd) (.str "queue") (some (.ref (ad .queue))) := .inl ⟨_, Sum.inr "queue", .inl (A.at_ .wd True.intro), rfl, by rfl⟩
theorem wd_asks (A : WAt w c H ad W) : DGet H (ad .wd) (.str "asks") (some (.ref (ad .asks))) := .inl ⟨_, Sum.inr "asks", .inl (A.at_ .wd True.intro), rfl, by rfl⟩
theorem wd_got (A : WAt w c H ad W) : DGet H (ad .wd) (.str "got") (some (.ref (ad .got))) := .inl ⟨_, Sum.inr "got", .inl (A.at_ .wd True.intro), rfl, by rfl⟩
end
theorem wlets_md {c : Tc} {W : Wt} {i : V} {o : Int} {m : Str} (hU : ∀ e ∈ W.hm i, e.1 ∈ c.U) (nd : ((W.hm i).map (·.1)).Nodup) : ((W.hm i).all fun e => decide (e.1 = o) || c.d.al e.2 m) = LT.lets c.M c.U W.ts o i m := by
  rw [Bool.eq_iff_iff]
  unfold LT.lets
  rw [List.all_eq_true, List.all_eq_true]
  constructor
  · intro h q hq
    have e2 : W.ts.held i q = (W.hm i).lookup q := rfl
    rw [e2]
    cases e : (W.hm i).lookup q with
    | none => simp
    | some k => exact h (q, k) ((lookup_mem nd).mp e)
  · intro h e he
    have z := h e.1 (hU e he)
    have e2 : W.ts.held i e.1 = (W.hm i).lookup e.1 := rfl
    rw [e2, (lookup_mem nd).mpr (show (e.1, e.2) ∈ W.hm i from he)] at z
    exact z
end Lk
end
section
set_option maxRecDepth 100000
set_option maxHeartbeats 1000000
/-! Draws. -/
namespace Lk
open PySem L2
open Mx (pe_msetd pe_mget pe_mget2 ps_mput pe_mnew pe_mayLock ps_mayLock pi_itemsN pi_itemsM fresh_dK fresh_mix)

abbrev well (a b k : Int) : List V := [.int a, .int b, .int k]
abbrev spWell : Sp := fun vs H Q _ => ∃ n : Int, vs = [.int n] ∧ ∀ p a b, H p = none → 0 ≤ a → Q (.ref p) (upd H p (.lst (well a b 0)))
abbrev s_law_well : Stmt := top 40
abbrev N_law_well : List Str := ["_law_cell"]
abbrev P_law_well : List Str := ["_law_cell"]
theorem sc_law_well : FnScope N_law_well P_law_well (defScope s_law_well) := ⟨rfl, rfl, rfl, by decide +kernel, rfl, by decide +kernel, by decide +kernel⟩
theorem ok_law_well {b : Bs} (R : Raw b "_law_well" "_law_well" s_law_well P_law_well) (T : Tops b) : Df b 1 "_law_well" P_law_well spWell := by
  refine R.ok sc_law_well (fun vs H Q E h => ?_) fun f cdv A outer s H vs Q E hr h => ?_
  · obtain ⟨n, rfl, _⟩ := h
    rfl
  · obtain ⟨n, rfl, k⟩ := h
    refine ⟨_, (pss_one (ps_ret (pe_lst (pa_cons (pe_op op_mul (pe_callTy call_int1 (by rfl) T.b_int (by decide +kernel) (pa_cons (pv 0) pa_nil)) (pe_callTy call_int1 (by rfl) T.b_int (by decide +kernel) (pa_cons (pe_cmpR op_ge (pv 0) (pe_op op_pow pe_int pe_int) (nomark _)) pa_nil))) (pa_cons (pe_op op_mod (pe_callTy call_int1 (by rfl) T.b_int (by decide +kernel) (pa_cons (pv 0) pa_nil)) pe_int) (pa_cons pe_int pa_nil)))))), ?_⟩
    refine ⟨_, rfl, .inl ⟨_, rfl, _, rfl, _, _, rfl, rfl, ⟨by decide, by decide, by decide⟩, _, _, rfl, rfl, .inr ⟨_, rfl, ?_⟩⟩⟩
    generalize hc : decide ((10 : Int) ^ Int.toNat 18 ≤ n) = cc
    refine ⟨n, (if cc = true then 1 else 0), rfl, rfl, .inr ?_, _, rfl, .inl ⟨_, rfl, _, _, rfl, rfl, by show (0 : Int) < 2147483629; decide, ?_, fun p hp => ?_⟩⟩
    · cases cc <;> decide
    · rw [sizeLine_eq]; show 3 ≤ _; omega
    · refine k p _ _ hp ?_
      cases cc with
      | false => show (0 : Int) ≤ n * 0; rw [Int.mul_zero]; decide
      | true =>
        have h := of_decide_eq_true hc
        show (0 : Int) ≤ n * 1
        rw [Int.mul_one]
        have : (0 : Int) ≤ 10 ^ Int.toNat 18 := by decide
        omega
abbrev spDraw : Sp := fun vs H Q _ => ∃ (w : Addr) (a b k n : Int), vs = [.ref w, .int n] ∧ H w = some (.lst (well a b k)) ∧ 0 ≤ a ∧ 0 < n ∧ n < 1000 ∧ ∀ a' b' k' r, 0 ≤ a' → 0 ≤ r → r < n → Q (.int r) (upd H w (.lst (well a' b' k')))
abbrev s_law_draw : Stmt := top 41
abbrev N_law_draw : List Str := ["_law_well_here", "_law_many", "_law_mixed", "_law_digit"]
abbrev P_law_draw : List Str := ["_law_well_here", "_law_many"]
theorem sc_law_draw : FnScope N_law_draw P_law_draw (defScope s_law_draw) := ⟨rfl, rfl, rfl, by decide +kernel, rfl, by decide +kernel, by decide +kernel⟩
theorem ok_law_draw {b : Bs} (R : Raw b "_law_draw" "_law_draw" s_law_draw P_law_draw) (T : Tops b) : Df b 1 "_law_draw" P_law_draw spDraw := by
  refine R.ok sc_law_draw (fun vs H Q E h => ?_) fun f cdv A outer s H vs Q E hr h => ?_
  · obtain ⟨w, a, b, k, n, rfl, _⟩ := h
    rfl
  · obtain ⟨w, a, b', k, n, rfl, hw, h0, hn, hm, kk⟩ := h
    refine ⟨_, (pss_cons (ps_if (pt_cmpR op_gt (pe_ix ix_list (pv 0) pe_int (fun _ _ => rfl)) pe_int (nomark _)) (pss_cons (ps_set (i := 3) sc_law_draw.nd rfl (Or.inl rfl) (pe_op op_mod (pe_callTy call_int1 (by rfl) T.b_int (by decide +kernel) (pa_cons (pe_ix ix_list (pv 0) pe_int (fun _ _ => rfl)) pa_nil)) (pv 1)))
      (pss_cons (ps_asg (pe_op op_fdiv (pe_ix ix_list (pv 0) pe_int (fun _ _ => rfl)) (pv 1)) (pg_sub (pv 0) pe_int set_list))
      (pss_one (ps_ret (pv 3))))) pss_nil)
      (pss_cons (ps_asg (pe_op op_add (pe_ix ix_list (pv 0) pe_int (fun _ _ => rfl)) pe_int) (pg_sub (pv 0) pe_int set_list))
      (pss_cons (ps_set (i := 2) sc_law_draw.nd rfl (Or.inl rfl) (pe_op op_mod (pe_callTy call_int1 (by rfl) T.b_int (by decide +kernel) (pa_cons (pe_op op_add (pe_op op_add (pe_ix ix_list (pv 0) pe_int (fun _ _ => rfl)) (pe_op op_mul pe_int (pe_ix ix_list (pv 0) pe_int (fun _ _ => rfl)))) pe_int) pa_nil)) pe_int))
      (pss_cons (ps_set (i := 2) sc_law_draw.nd rfl (Or.inl rfl) (pe_op op_mod (pe_callTy call_int1 (by rfl) T.b_int (by decide +kernel) (pa_cons (pe_op op_mul (pv 2) (pe_op op_add (pe_op op_fdiv (pv 2) pe_int) pe_int)) pa_nil)) pe_int))
      (pss_cons (ps_set (i := 2) sc_law_draw.nd rfl (Or.inl rfl) (pe_op op_mod (pe_callTy call_int1 (by rfl) T.b_int (by decide +kernel) (pa_cons (pe_op op_mul (pv 2) (pe_op op_add (pe_op op_fdiv (pv 2) pe_int) pe_int)) pa_nil)) pe_int))
      (pss_one (ps_ret (pe_op op_mod (pe_callTy call_int1 (by rfl) T.b_int (by decide +kernel) (pa_cons (pe_op op_fdiv (pv 2) pe_int) pa_nil)) (pv 1))))))))), ?_⟩
    have i0 : atI (well a b' k) 0 = some (.int a) := rfl
    refine ⟨_, rfl, _, _, 0, _, rfl, rfl, .inl (.inl hw), rfl, _, _, rfl, rfl, _, rfl, ?_⟩
    by_cases h : 0 < a
    · rw [decide_eq_true h]
      refine iteT ⟨_, rfl, _, _, 0, _, rfl, rfl, .inl (.inl hw), rfl, .inl ⟨_, rfl, _, rfl, _, _, rfl, rfl, hn, ?_⟩⟩
      refine ⟨_, rfl, _, _, 0, _, rfl, rfl, .inl (.inl hw), rfl, _, rfl, _, _, rfl, rfl, ⟨by omega, by omega⟩, ?_⟩
      refine ⟨_, rfl, w, _, 0, 0, rfl, rfl, hw, rfl, ?_⟩
      exact ⟨_, rfl, kk (a / n) b' k (a % n) (Int.ediv_nonneg h0 (by omega)) (Int.emod_nonneg _ (by omega)) (Int.emod_lt_of_pos _ hn)⟩
    · rw [decide_eq_false h]
      refine iteF ?_
      refine ⟨_, rfl, _, _, 2, _, rfl, rfl, .inl (.inl hw), rfl, _, _, rfl, rfl, _, rfl, w, _, 2, 2, rfl, rfl, hw, rfl, ?_⟩
      have hw2 : (upd H w (.lst (well a b' (k + 1)))) w = some (.lst (well a b' (k + 1))) := upd_same
      have kk2 : ∀ r, 0 ≤ r → r < n → Q (.int r) (upd H w (.lst (well a b' (k + 1)))) := fun r h1 h2 => kk a b' (k + 1) r h0 h1 h2
      show tSeq _ _ _ _ (upd H w (.lst (well a b' (k + 1))))
      generalize upd H w (.lst (well a b' (k + 1))) = H2 at hw2 kk2 ⊢
      refine ⟨_, rfl, _, _, 1, _, rfl, rfl, .inl (.inl hw2), rfl, _, rfl, _, _, 2, _, rfl, rfl, .inl (.inl hw2), rfl, _, _, rfl, rfl, .inl ⟨by decide, by decide⟩, _, _, rfl, rfl, _, _, rfl, rfl, .inl ⟨_, rfl, _, _, rfl, rfl, by show (0 : Int) < 2147483629; decide, ?_⟩⟩
      have m0 := Int.emod_nonneg (b' + 65537 * (k + 1) + 31) (show (2147483629 : Int) ≠ 0 by decide)
      have m1 := Int.emod_lt_of_pos (b' + 65537 * (k + 1) + 31) (show (0 : Int) < 2147483629 by decide)
      show tSeq _ _ _ (List.set _ 2 (some (V.int ((b' + 65537 * (k + 1) + 31) % 2147483629)))) H2
      generalize (b' + 65537 * (k + 1) + 31) % 2147483629 = x at m0 m1 ⊢
      refine ⟨_, rfl, _, rfl, _, _, rfl, rfl, ⟨by decide, by decide⟩, _, _, rfl, rfl, _, _, rfl, rfl, .inl ⟨by omega, by omega⟩, .inl ⟨_, rfl, _, _, rfl, rfl, by show (0 : Int) < 2147483587; decide, ?_⟩⟩
      have n0 := Int.emod_nonneg (x * (x / 997 + 48271)) (show (2147483587 : Int) ≠ 0 by decide)
      have n1 := Int.emod_lt_of_pos (x * (x / 997 + 48271)) (show (0 : Int) < 2147483587 by decide)
      show tSeq _ _ _ (List.set _ 2 (some (V.int ((x * (x / 997 + 48271)) % 2147483587)))) H2
      generalize (x * (x / 997 + 48271)) % 2147483587 = y at n0 n1 ⊢
      refine ⟨_, rfl, _, rfl, _, _, rfl, rfl, ⟨by decide, by decide⟩, _, _, rfl, rfl, _, _, rfl, rfl, .inl ⟨by omega, by omega⟩, .inl ⟨_, rfl, _, _, rfl, rfl, by show (0 : Int) < 2147483563; decide, ?_⟩⟩
      refine ⟨_, rfl, _, _, rfl, rfl, ⟨by decide, by decide⟩, .inl ⟨_, rfl, _, rfl, _, _, rfl, rfl, hn, ?_⟩⟩
      exact kk2 _ (Int.emod_nonneg _ (by omega)) (Int.emod_lt_of_pos _ hn)
abbrev spOne (K : PySem.W.Frag) : Sp := fun vs H Q _ => ∃ (w l : Addr) (a b k : Int) (xs : List V), vs = [.ref w, .ref l] ∧ H w = some (.lst (well a b k)) ∧ 0 ≤ a ∧ ((H l = some (.lst xs) ∧ l ≠ w) ∨ Tp K H l xs) ∧ xs ≠ [] ∧ xs.length < 1000 ∧
  ∀ a' b' k', 0 ≤ a' → ∀ x ∈ xs, Q x (upd H w (.lst (well a' b' k')))
abbrev s_law_one : Stmt := top 42
abbrev N_law_one : List Str := ["_law_well_here", "_law_some"]
abbrev P_law_one : List Str := ["_law_well_here", "_law_some"]
theorem sc_law_one : FnScope N_law_one P_law_one (defScope s_law_one) := ⟨rfl, rfl, rfl, by decide +kernel, rfl, by decide +kernel, by decide +kernel⟩
theorem ok_law_one {b : Bs} (R : Raw b "_law_one" "_law_one" s_law_one P_law_one) (T : Tops b) (D_law_draw : Df b 1 "_law_draw" P_law_draw spDraw) : Df b 2 "_law_one" P_law_one (spOne b.K) := by
  refine R.ok sc_law_one (fun vs H Q E h => ?_) fun f cdv A outer s H vs Q E hr h => ?_
  · obtain ⟨w, l, a, b, k, xs, rfl, _⟩ := h
    rfl
  · obtain ⟨w, l, a, b', k, xs, rfl, hw, h0, hl, hne, hlen, kk⟩ := h
    refine ⟨_, (pss_one (ps_ret (pe_ix ix_seq (pv 1) (pe_df D_law_draw (hr.mono (by decide)) (pa_cons (pv 0) (pa_cons (pe_callB call_len_seq (by rfl) T.b_len (by decide +kernel) (pa_cons (pv 1) pa_nil)) pa_nil))) (fun _ _ => rfl)))), ?_⟩
    have hpos : 0 < xs.length := List.length_pos_iff.mpr hne
    have sq : SqL b.K H l xs ∨ SqT b.K H l xs := hl.imp (fun h => .inl (.inl h.1)) fun h => h.sq
    refine ⟨_, rfl, _, rfl, _, rfl, _, xs, rfl, sq, w, a, b', k, xs.length, rfl, hw, h0, by omega, by omega, fun a' b2 k' r h1 h2 h3 => ?_⟩
    obtain ⟨rn, rfl⟩ := Int.eq_ofNat_of_zero_le h2
    have hr2 : rn < xs.length := by omega
    have hat : xs[rn]? = some xs[rn] := List.getElem?_eq_getElem hr2
    have hin : atI xs (rn : Int) = some xs[rn] := atI_nat hat
    have t2 : Tups H (upd H w (.lst (well a' b2 k'))) := Tups.mut hw lst_ne
    have q := kk a' b2 k' h1 xs[rn] (List.getElem_mem hr2)
    rcases hl with ⟨e, n⟩ | tp
    · exact .inl ⟨l, xs, _, _, rfl, rfl, .inl (.inl (by rw [upd_ne n]; exact e)), hin, q⟩
    · exact .inr (.inl ⟨l, xs, _, _, rfl, rfl, (tp.mono t2).sq, hin, q⟩)
end Lk
end
section
set_option maxRecDepth 100000
set_option maxHeartbeats 1000000
/-! The menu of modes. -/
namespace Lk
open PySem L2
open Mx (pe_msetd pe_mget pe_mget2 ps_mput pe_mnew pe_mayLock ps_mayLock pi_itemsN pi_itemsM fresh_dK fresh_mix)

theorem seq_asg {te : TE} {g : TG} {u : TS} {D : Ends} {σ : L2.St} {H : Hp} (h : te σ H fun x H1 => g x σ H1 (u D)) : tSeq (tAsg te g) u D σ H := h
def tStrs : List Str → TA
  | [] => tNil
  | x :: xs => tCons (tC (.str x)) (tStrs xs)
def tPairs : List (Str × Str) → TA
  | [] => tNil
  | e :: es => tCons (tTup (tStrs [e.1, e.2])) (tPairs es)
def tTrips : List (Str × Str × Str) → TA
  | [] => tNil
  | e :: es => tCons (tTup (tStrs [e.1, e.2.1, e.2.2])) (tTrips es)
theorem tStrs_ok {σ : L2.St} {H : Hp} : ∀ {xs : List Str} {Q : List V → Hp → Prop}, Q (xs.map V.str) H → tStrs xs σ H Q
  | [], _, h => h
  | x :: xs, _, h => tStrs_ok (xs := xs) h
theorem tPairs_ok {σ : L2.St} : ∀ {es : List (Str × Str)} {H : Hp} {Q : List V → Hp → Prop}, (∀ H' (ps : List Addr), Same H H' → Paired (fun p e => H' p = some (.tup (vP e))) ps es → Q (ps.map V.ref) H') → tPairs es σ H Q
  | [], H, Q, h => h H [] (Same.refl _) .nil
  | e :: es, H, Q, h => by
    show tTup (tStrs [e.1, e.2]) σ H fun x H1 => tPairs es σ H1 fun xs H2 => Q (x :: xs) H2
    refine tStrs_ok ⟨two_le, fun p hp => ?_⟩
    refine tPairs_ok (es := es) fun H' ps s pr => ?_
    exact h H' (p :: ps) (Same.trans (same_new' hp) s) (.cons (s _ _ upd_same) pr)
theorem tTrips_ok {σ : L2.St} : ∀ {es : List (Str × Str × Str)} {H : Hp} {Q : List V → Hp → Prop}, (∀ H' (ps : List Addr), Same H H' → Paired (fun p e => H' p = some (.tup (vJ e))) ps es → Q (ps.map V.ref) H') → tTrips es σ H Q
  | [], H, Q, h => h H [] (Same.refl _) .nil
  | e :: es, H, Q, h => by
    show tTup (tStrs [e.1, e.2.1, e.2.2]) σ H fun x H1 => tTrips es σ H1 fun xs H2 => Q (x :: xs) H2
    refine tStrs_ok ⟨three_le, fun p hp => ?_⟩
    refine tTrips_ok (es := es) fun H' ps s pr => ?_
    exact h H' (p :: ps) (Same.trans (same_new' hp) s) (.cons (s _ _ upd_same) pr)
theorem sz100 {n : Nat} (h : n ≤ 100) : n ≤ sizeLine := by rw [sizeLine_eq]; omega
theorem paired_tp {K : PySem.W.Frag} {H : Hp} {js : List Addr} {es : List (Str × Str × Str)} (h : Paired (fun p e => H p = some (.tup (vJ e))) js es) : Paired (fun p e => Tp K H p (vJ e)) js es := L2.Paired.mapP h fun _ _ e => .inl e
/-- the joins stand already -/
theorem tModesV_ok {K : PySem.W.Frag} {d : MDat} {σ : L2.St} {H : Hp} {Q : VK} {tj : TE} {j : Addr} {js : List Addr} (ck : d.chk) (hj : H j = some (.tup (js.map V.ref))) (pj : Paired (fun p e => H p = some (.tup (vJ e))) js d.joins) (tv : ∀ H' Q', Q' (.ref j) H' → tj σ H' Q')
    (h : ∀ H' mo, Same H H' → Modes K H' mo d → Q (.ref mo) H') : tTup (tCons (tTup (tStrs d.names)) (tCons (tTup (tPairs d.allowed)) (tCons tj tNil))) σ H Q := by
  refine tStrs_ok ⟨sz100 (by rw [List.length_map]; exact ck.few.1), fun n hn => ?_⟩
  refine tPairs_ok fun H2 ps s2 pr => ⟨sz100 (by rw [List.length_map, Paired.length pr]; exact ck.few.2.1), fun a ha => ?_⟩
  refine tv _ _ ⟨three_le, fun mo hmo => ?_⟩
  have s1 := same_new' (o := .tup (d.names.map V.str)) hn
  have s3 := same_new' (o := .tup (ps.map V.ref)) ha
  have s4 := same_new' (o := .tup [.ref n, .ref a, .ref j]) hmo
  have st := Same.trans s1 (Same.trans s2 (Same.trans s3 s4))
  refine h _ mo st ⟨n, a, j, ps, js, .inl upd_same, .inl (s4 _ _ (s3 _ _ (s2 _ _ upd_same))), .inl (s4 _ _ upd_same), L2.Paired.mapP pr fun _ _ e => s4 _ _ (s3 _ _ e), .inl (st _ _ hj), L2.Paired.mapP pj fun _ _ e => .inl (st _ _ e), ck.2.1, ck.few⟩
theorem tModes_ok {K : PySem.W.Frag} {d : MDat} {σ : L2.St} {H : Hp} {Q : VK} (ck : d.chk) (h : ∀ H' mo, Same H H' → Modes K H' mo d → Q (.ref mo) H') :
    tTup (tCons (tTup (tStrs d.names)) (tCons (tTup (tPairs d.allowed)) (tCons (tTup (tTrips d.joins)) tNil))) σ H Q := by
  refine tStrs_ok ⟨sz100 (by rw [List.length_map]; exact ck.few.1), fun n hn => ?_⟩
  refine tPairs_ok fun H2 ps s2 pr => ⟨sz100 (by rw [List.length_map, Paired.length pr]; exact ck.few.2.1), fun a ha => ?_⟩
  refine tTrips_ok fun H3 js s5 pj => ⟨sz100 (by rw [List.length_map, Paired.length pj]; exact ck.few.2.2), fun j hj => ⟨three_le, fun mo hmo => ?_⟩⟩
  have s1 := same_new' (o := .tup (d.names.map V.str)) hn
  have s3 := same_new' (o := .tup (ps.map V.ref)) ha
  have s6 := same_new' (o := .tup (js.map V.ref)) hj
  have s4 := same_new' (o := .tup [.ref n, .ref a, .ref j]) hmo
  have st := Same.trans s1 (Same.trans s2 (Same.trans s3 (Same.trans s5 (Same.trans s6 s4))))
  refine h _ mo st ⟨n, a, j, ps, js, .inl upd_same, .inl (s4 _ _ (s6 _ _ (s5 _ _ (s3 _ _ (s2 _ _ upd_same))))), .inl (s4 _ _ (s6 _ _ (s5 _ _ upd_same))), L2.Paired.mapP pr fun _ _ e => s4 _ _ (s6 _ _ (s5 _ _ (s3 _ _ e))), .inl (s4 _ _ upd_same), L2.Paired.mapP pj fun _ _ e => .inl (s4 _ _ (s6 _ _ e)), ck.2.1, ck.few⟩
theorem tLst2 {t1 t2 : TE} {σ : L2.St} {H : Hp} {Q : VK} (h : t1 σ H fun x H1 => t2 σ H1 fun y H2 => [x, y].length ≤ sizeLine ∧ ∀ p, H2 p = none → Q (.ref p) (upd H2 p (.lst [x, y]))) : tLst (tCons t1 (tCons t2 tNil)) σ H Q := h
abbrev tModesOf (d : MDat) : TE := tTup (tCons (tTup (tStrs d.names)) (tCons (tTup (tPairs d.allowed)) (tCons (tTup (tTrips d.joins)) tNil)))
abbrev spMenu (K : PySem.W.Frag) : Sp := fun vs H Q _ => vs = [] ∧ ∀ H' r xs, Same H H' → H r = none → H' r = some (.lst xs) → xs ≠ [] → xs.length < 1000 → (∀ x ∈ xs, ∃ mo d, x = .ref mo ∧ Modes K H' mo d ∧ d.chk) → Q (.ref r) H'
abbrev s_law_menu : Stmt := top 43
abbrev N_law_menu : List Str := ["_law_plain", "_law_back", "_law_joins", "_law_uneven", "_law_parted", "_law_few"]
abbrev P_law_menu : List Str := []
theorem sc_law_menu : FnScope N_law_menu P_law_menu (defScope s_law_menu) := ⟨rfl, rfl, rfl, by decide +kernel, rfl, by decide +kernel, by decide +kernel⟩
theorem ok_law_menu {b : Bs} (R : Raw b "_law_menu" "_law_menu" s_law_menu P_law_menu) (T : Tops b) (D_standard : Df b 2 "standard" [] (spStd b.K)) : Df b 3 "_law_menu" P_law_menu (spMenu b.K) := by
  refine R.ok sc_law_menu (fun vs H Q E h => ?_) fun f cdv A outer s H vs Q E hr h => ?_
  · obtain ⟨rfl, _⟩ := h
    rfl
  · obtain ⟨rfl, k⟩ := h
    refine ⟨_, (pss_cons (ps_set (i := 0) sc_law_menu.nd rfl (Or.inl rfl) (pe_tup (pa_cons (pe_tup (pa_cons pe_str (pa_cons pe_str pa_nil))) (pa_cons (pe_tup (pa_cons (pe_tup (pa_cons pe_str (pa_cons pe_str pa_nil))) pa_nil)) (pa_cons (pe_tup (pa_cons (pe_tup (pa_cons pe_str (pa_cons pe_str (pa_cons pe_str pa_nil)))) pa_nil)) pa_nil)))))
      (pss_cons (ps_set (i := 1) sc_law_menu.nd rfl (Or.inl rfl) (pe_tup (pa_cons (pe_tup (pa_cons pe_str (pa_cons pe_str pa_nil))) (pa_cons (pe_tup (pa_cons (pe_tup (pa_cons pe_str (pa_cons pe_str pa_nil))) pa_nil)) (pa_cons (pe_tup (pa_cons (pe_tup (pa_cons pe_str (pa_cons pe_str (pa_cons pe_str pa_nil)))) pa_nil)) pa_nil)))))
      (pss_cons (ps_set (i := 2) sc_law_menu.nd rfl (Or.inl rfl) (pe_tup (pa_cons (pe_tup (pa_cons pe_str (pa_cons pe_str (pa_cons pe_str pa_nil)))) (pa_cons (pe_tup (pa_cons pe_str (pa_cons pe_str (pa_cons pe_str pa_nil)))) (pa_cons (pe_tup (pa_cons pe_str (pa_cons pe_str (pa_cons pe_str pa_nil)))) pa_nil)))))
      (pss_cons (ps_set (i := 3) sc_law_menu.nd rfl (Or.inl rfl) (pe_tup (pa_cons (pe_tup (pa_cons pe_str (pa_cons pe_str (pa_cons pe_str pa_nil)))) (pa_cons (pe_tup (pa_cons (pe_tup (pa_cons pe_str (pa_cons pe_str pa_nil))) (pa_cons (pe_tup (pa_cons pe_str (pa_cons pe_str pa_nil))) pa_nil))) (pa_cons (pv 2) pa_nil)))))
      (pss_cons (ps_set (i := 2) sc_law_menu.nd rfl (Or.inl rfl) (pe_tup (pa_cons (pe_tup (pa_cons pe_str (pa_cons pe_str (pa_cons pe_str pa_nil)))) (pa_cons (pe_tup (pa_cons pe_str (pa_cons pe_str (pa_cons pe_str pa_nil)))) (pa_cons (pe_tup (pa_cons pe_str (pa_cons pe_str (pa_cons pe_str pa_nil)))) pa_nil)))))
      (pss_cons (ps_set (i := 4) sc_law_menu.nd rfl (Or.inl rfl) (pe_tup (pa_cons (pe_tup (pa_cons pe_str (pa_cons pe_str (pa_cons pe_str pa_nil)))) (pa_cons (pe_tup (pa_cons (pe_tup (pa_cons pe_str (pa_cons pe_str pa_nil))) (pa_cons (pe_tup (pa_cons pe_str (pa_cons pe_str pa_nil))) pa_nil))) (pa_cons (pv 2) pa_nil)))))
      (pss_cons (ps_set (i := 5) sc_law_menu.nd rfl (Or.inl rfl) (pe_lst (pa_cons (pe_tup (pa_cons (pe_tup (pa_cons pe_str pa_nil)) (pa_cons (pe_tup (pa_cons (pe_tup (pa_cons pe_str (pa_cons pe_str pa_nil))) pa_nil)) (pa_cons (pe_tup pa_nil) pa_nil)))) (pa_cons (pe_tup (pa_cons (pe_tup (pa_cons pe_str pa_nil)) (pa_cons (pe_tup pa_nil) (pa_cons (pe_tup pa_nil) pa_nil)))) pa_nil))))
      (pss_one (ps_ret (pe_op op_cat (pv 5) (pe_lst (pa_cons (pv 0) (pa_cons (pv 0) (pa_cons (pv 1) (pa_cons (pv 3) (pa_cons (pv 4) (pa_cons (pe_df0 D_standard (hr.mono (by decide))) (pa_cons (pe_df0 D_standard (hr.mono (by decide))) (pa_cons (pe_df0 D_standard (hr.mono (by decide))) pa_nil))))))))))))))))))), ?_⟩
    refine seq_asg (tModes_ok (K := b.K) (d := dPl) k_Pl fun H1 m1 s1 w1 => ?_)
    refine seq_asg (tModes_ok (K := b.K) (d := dBa) k_Ba fun H2 m2 s2 w2 => ?_)
    refine seq_asg (show tTup (tTrips dUn.joins) _ _ _ from tTrips_ok fun H3 j1 s3 w3 => ⟨sz100 (by rw [List.length_map, Paired.length w3]; decide), fun j hj => ?_⟩)
    have s3' := same_new' (o := .tup (j1.map V.ref)) hj
    refine seq_asg (tModesV_ok (K := b.K) (d := dUn) k_Un (j := j) (js := j1) upd_same (L2.Paired.mapP w3 fun _ _ e => s3' _ _ e) (fun H' Q' q => ⟨_, rfl, q⟩) fun H4 m4 s4 w4 => ?_)
    refine seq_asg (show tTup (tTrips dPa.joins) _ _ _ from tTrips_ok fun H5 j5 s5 w5 => ⟨sz100 (by rw [List.length_map, Paired.length w5]; decide), fun jj hjj => ?_⟩)
    have s5' := same_new' (o := .tup (j5.map V.ref)) hjj
    refine seq_asg (tModesV_ok (K := b.K) (d := dPa) k_Pa (j := jj) (js := j5) upd_same (L2.Paired.mapP w5 fun _ _ e => s5' _ _ e) (fun H' Q' q => ⟨_, rfl, q⟩) fun H6 m6 s6 w6 => ?_)
    refine seq_asg (tLst2 (tModes_ok (K := b.K) (d := dOn) k_On fun H7 m7 s7 w7 => tModes_ok (K := b.K) (d := dNo) k_No fun H8 m8 s8 w8 => ⟨two_le, fun fl hfl => ?_⟩))
    have s8' := same_new' (o := .lst [.ref m7, .ref m8]) hfl
    refine ⟨_, rfl, _, rfl, _, rfl, _, rfl, _, rfl, _, rfl, rfl, fun H9 m9 s9 w9 => ⟨rfl, fun Ha ma sa wa => ⟨rfl, fun Hb mb sb wb => ?_⟩⟩⟩
    refine ⟨sz100 (by simp), fun lp hlp => ?_⟩
    have sl := same_new' (o := .lst [.ref m1, .ref m1, .ref m2, .ref m4, .ref m6, .ref m9, .ref ma, .ref mb]) hlp
    have hfl9 := sl _ _ (sb _ _ (sa _ _ (s9 _ _ (upd_same (H := H8) (a := fl) (o := .lst [.ref m7, .ref m8])))))
    refine ⟨fl, lp, _, _, rfl, rfl, hfl9, upd_same, sz100 (by simp), fun r hr2 => ?_⟩
    have sr := same_new' (o := .lst ([.ref m7, .ref m8] ++ [.ref m1, .ref m1, .ref m2, .ref m4, .ref m6, .ref m9, .ref ma, .ref mb])) hr2
    have tb := Same.trans sl sr
    have ta := Same.trans sb tb
    have t9 := Same.trans sa ta
    have t8' := Same.trans s9 t9
    have t8 := Same.trans s8' t8'
    have t7 := Same.trans s8 t8
    have t6 := Same.trans s7 t7
    have t5' := Same.trans s6 t6
    have t5 := Same.trans s5' t5'
    have t4 := Same.trans s5 t5
    have t3' := Same.trans s4 t4
    have t3 := Same.trans s3' t3'
    have t2 := Same.trans s3 t3
    have t1 := Same.trans s2 t2
    have t0 := Same.trans s1 t1
    refine k _ r _ t0 (none_same (Same.trans s1 (Same.trans s2 (Same.trans s3 (Same.trans s3' (Same.trans s4 (Same.trans s5 (Same.trans s5' (Same.trans s6 (Same.trans s7 (Same.trans s8 (Same.trans s8' (Same.trans s9 (Same.trans sa (Same.trans sb sl)))))))))))))) hr2) upd_same (by simp) (by simp) fun x hx => ?_
    have hx : x = .ref m7 ∨ x = .ref m8 ∨ x = .ref m1 ∨ x = .ref m1 ∨ x = .ref m2 ∨ x = .ref m4 ∨ x = .ref m6 ∨ x = .ref m9 ∨ x = .ref ma ∨ x = .ref mb := by simpa using hx
    rcases hx with rfl | rfl | rfl | rfl | rfl | rfl | rfl | rfl | rfl | rfl
    · exact ⟨m7, dOn, rfl, w7.mono (Same.tups t7), k_On⟩
    · exact ⟨m8, dNo, rfl, w8.mono (Same.tups t8), k_No⟩
    · exact ⟨m1, dPl, rfl, w1.mono (Same.tups t1), k_Pl⟩
    · exact ⟨m1, dPl, rfl, w1.mono (Same.tups t1), k_Pl⟩
    · exact ⟨m2, dBa, rfl, w2.mono (Same.tups t2), k_Ba⟩
    · exact ⟨m4, dUn, rfl, w4.mono (Same.tups t4), k_Un⟩
    · exact ⟨m6, dPa, rfl, w6.mono (Same.tups t6), k_Pa⟩
    · exact ⟨m9, dStd, rfl, w9.mono (Same.tups t9), k_Std⟩
    · exact ⟨ma, dStd, rfl, wa.mono (Same.tups ta), k_Std⟩
    · exact ⟨mb, dStd, rfl, wb.mono (Same.tups tb), k_Std⟩
end Lk
end
section
set_option maxRecDepth 100000
set_option maxHeartbeats 1000000
/-! The law's join; its world. -/
namespace Lk
open PySem L2
open Mx (pe_msetd pe_mget pe_mget2 ps_mput pe_mnew pe_mayLock ps_mayLock pi_itemsN pi_itemsM fresh_dK fresh_mix)

abbrev spLJoin (K : PySem.W.Frag) : Sp := fun vs H Q _ => ∃ (mo : Addr) (d : MDat) (h : Option Str) (m : Str), vs = [.ref mo, vO h, .str m] ∧ Modes K H mo d ∧ d.chk ∧ (∀ x, h = some x → x ∈ d.names) ∧ m ∈ d.names ∧ ∀ H', Same H H' → Q (.str (d.jn h m)) H'
abbrev s_law_join : Stmt := top 44
abbrev N_law_join : List Str := ["_law_modes", "_law_one_here", "_law_other", "_law_row"]
abbrev P_law_join : List Str := ["_law_modes", "_law_one_here", "_law_other"]
theorem sc_law_join : FnScope N_law_join P_law_join (defScope s_law_join) := ⟨rfl, rfl, rfl, by decide +kernel, rfl, by decide +kernel, by decide +kernel⟩
theorem ok_law_join {b : Bs} (R : Raw b "_law_join" "_law_join" s_law_join P_law_join) (T : Tops b) : Df b 1 "_law_join" P_law_join (spLJoin b.K) := by
  refine R.ok sc_law_join (fun vs H Q E h => ?_) fun f cdv A outer s H vs Q E hr h => ?_
  · obtain ⟨mo, d, h, m, rfl, _⟩ := h
    rfl
  · obtain ⟨mo, d, h, m, rfl, ⟨n, a, j, ps, js, M⟩, ck, hh, hm, k⟩ := h
    refine ⟨_, (pss_cons (ps_if (PW.pt (pw_or (pt_cmpR op_isN (pv 1) pe_non (nomark _)) (pw_or1 (pt_cmpR op_eq (pv 1) (pv 2) (nomark _))))) (pss_one (ps_ret (pv 2))) pss_nil)
      (pss_one (ps_ret (pe_ix ix_list (pe_lcB (own := [("_law_row", 3)]) rfl sc_law_join.nd (pi_tup (pe_ix ix_tup (pv 0) pe_int (fun _ _ => rfl))) (blkOk_by (own := [("_law_row", 3)]) (N := N_law_join) (sc := defScope s_law_join) (by decide +kernel)) (fun _ _ _ _ _ => (pg_name (i := 3) sc_law_join.nd rfl (Or.inl rfl))) (fun _ _ _ _ _ => (pts_one (pt_cmpR (Ru.op_inT (hu65 hr)) (pe_slice sl_tup (pv 3) po_none (po_some pe_int)) (pe_tup (pa_cons (pe_tup (pa_cons (pv 1) (pa_cons (pv 2) pa_nil))) (pa_cons (pe_tup (pa_cons (pv 2) (pa_cons (pv 1) pa_nil))) pa_nil))) (by rfl)))) (fun _ _ _ _ _ => (pe_ix ix_tup (pv 3) pe_int (fun _ _ => rfl)))) pe_int (fun _ _ => rfl))))), ?_⟩
    cases h with
    | none => exact ⟨_, rfl, rfl, _, rfl, iteT ⟨_, rfl, k H (Same.refl H)⟩⟩
    | some h =>
      refine ⟨_, rfl, rfl, false, rfl, ?_⟩
      refine iteF ⟨_, rfl, _, rfl, rfl, _, rfl, ?_⟩
      have hh := hh h rfl
      by_cases e : h = m
      · subst e
        rw [show decide (V.str h = V.str h) = true from decide_eq_true rfl]
        have e3 : d.jn (some h) h = h := if_pos rfl
        rw [e3] at k
        exact iteT ⟨_, rfl, k H (Same.refl H)⟩
      rw [show decide (V.str h = V.str m) = false from decide_eq_false fun z => e (by injection z)]
      refine iteF ?_
      have okh := okS_name (M.ok.1 h hh)
      have okm := okS_name (M.ok.1 m hm)
      refine ⟨_, rfl, mo, _, 2, _, rfl, rfl, M.top.sq, rfl, j, rfl, ⟨_, M.jns.sq⟩, fun D hD => ?_⟩
      have w := walk_tup (K := b.K) (a := j) (xs := js.map V.ref)
      rw [List.length_map, Paired.length M.eachJ] at w
      refine lc_sel (xs := d.joins) w (fun r => decide ((r.1, r.2.1) = (h, m)) || decide ((r.1, r.2.1) = (m, h))) (fun r => .str r.2.2) hD ?_ (fun H1 s1 => (M.jns.mono (Same.tups s1)).sq) (fun i r y H1 H2 Q' N he s1 hy q1 q2 => ?_) fun H2 s2 e2 => ?_
      · have := M.few.2.2
        rw [sizeLine_eq]
        omega
      · obtain ⟨rfl, hy⟩ := hy
        rw [List.getElem?_map] at hy
        cases hp : js[i]? with
        | none => rw [hp] at hy; cases hy
        | some p =>
        rw [hp] at hy
        cases hy
        obtain ⟨r', hr2, tp⟩ := paired_at M.eachJ hp
        rw [he] at hr2
        cases hr2
        have tp1 := tp.mono (Same.tups s1)
        obtain ⟨r1, r2, r3⟩ := ck.2.2.1 r (List.mem_of_getElem? he)
        refine ⟨rfl, _, rfl, ?_⟩
        have cu : cutV (vJ r) none (some (2 : Int)) = vP (r.1, r.2.1) := rfl
        refine ⟨_, rfl, p, _, rfl, tp1.sq, (show ¬ (HT.sIx 3 0 none = 0 ∧ HT.sIx 3 3 (some 2) = 3) by decide), fun t1 ht1 => ⟨_, rfl, _, rfl, two_le, fun t2 ht2 => ⟨_, rfl, _, rfl, two_le, fun t3 ht3 => ⟨two_le, fun t4 ht4 => ?_⟩⟩⟩⟩
        rw [cu] at ht2 ht3 ht4 ⊢
        have sa := same_new' (o := .tup (vP (r.1, r.2.1))) ht1
        have sb := same_new' (o := .tup [vO (some h), V.str m]) ht2
        have sc := same_new' (o := .tup [V.str m, vO (some h)]) ht3
        have sd := same_new' (o := .tup [.ref t2, .ref t3]) ht4
        have g1 := sd _ _ (sc _ _ (sb _ _ (upd_same (H := H2) (a := t1) (o := .tup (vP (r.1, r.2.1))))))
        have g2 := sd _ _ (sc _ _ (upd_same (H := upd H2 t1 (.tup (vP (r.1, r.2.1)))) (a := t2) (o := .tup [vO (some h), V.str m])))
        have g3 := sd _ _ (upd_same (H := upd (upd H2 t1 (.tup (vP (r.1, r.2.1)))) t2 (.tup [vO (some h), V.str m])) (a := t3) (o := .tup [V.str m, vO (some h)]))
        refine ⟨dP (r.1, r.2.1), [(h, m), (m, h)].map dP, dp_P (.inl (.inl g1)), .tup (.inl (.inl upd_same)) (.cons (dp_P (e := (h, m)) (.inl (.inl g2))) (.cons (dp_P (e := (m, h)) (.inl (.inl g3))) .nil)), (sh_P ⟨okS_name (M.ok.1 _ r1), okS_name (M.ok.1 _ r2)⟩).ok (by omega), (sh_all (sh_Ps fun e he => ?_)).1, _, rfl, ?_⟩
        · have he : e = (h, m) ∨ e = (m, h) := by simpa using he
          rcases he with rfl | rfl
          · exact ⟨okh, okm⟩
          · exact ⟨okm, okh⟩
        · simp only [Bool.false_eq_true, if_false]
          rw [any_P]
          have eb : decide ((r.1, r.2.1) ∈ [(h, m), (m, h)]) = (decide ((r.1, r.2.1) = (h, m)) || decide ((r.1, r.2.1) = (m, h))) := by
            rw [Bool.eq_iff_iff]
            simp
          rw [eb]
          have st := Same.trans sa (Same.trans sb (Same.trans sc sd))
          cases hc : (decide ((r.1, r.2.1) = (h, m)) || decide ((r.1, r.2.1) = (m, h))) with
          | true => exact iteT ⟨_, rfl, p, _, 2, _, rfl, rfl, (tp1.mono (Same.tups st)).sq, rfl, q1 hc _ st⟩
          | false => exact iteF (q2 hc _ st)
      · obtain ⟨c1, c2, c3⟩ := ck.2.2.2.2.2.2.2.2 h hh m hm e
        have e5 : (d.joins.filter fun r => decide ((r.1, r.2.1) = (h, m)) || decide ((r.1, r.2.1) = (m, h))).map (fun r => V.str r.2.2) = (d.lrows h m).map V.str := by
          unfold MDat.lrows
          rw [List.map_map]
          rfl
        rw [e5, c3] at e2
        cases hr3 : d.rows h m with
        | nil => exact (c1 hr3).elim
        | cons r l =>
          rw [hr3] at e2
          have e4 : d.jn (some h) m = r := by show (if h = m then m else (d.rows h m).headD m) = r; rw [if_neg e, hr3]; rfl
          rw [e4] at k
          exact ⟨D, (r :: l).map V.str, 0, .str r, rfl, rfl, .inl (.inl e2), atI0, k _ s2⟩
abbrev spWorld (b : Bs) (c : Tc) : Sp := fun vs H Q _ => vs = [] ∧ ∀ H' ad, Same H H' → WAt b.w c H' ad Wt.empty → (∀ a, WOwn ad Wt.empty a → H a = none) → Q (.ref (ad .wd)) H'
abbrev s_law_world : Stmt := top 45
abbrev N_law_world : List Str := []
abbrev P_law_world : List Str := []
theorem sc_law_world : FnScope N_law_world P_law_world (defScope s_law_world) := ⟨rfl, rfl, rfl, by decide +kernel, rfl, by decide +kernel, by decide +kernel⟩
theorem ok_law_world {b : Bs} {c : Tc} (R : Raw b "_law_world" "_law_world" s_law_world P_law_world) : Df b 1 "_law_world" P_law_world (spWorld b c) := by
  refine R.ok sc_law_world (fun vs H Q E h => ?_) fun f cdv A outer s H vs Q E hr h => ?_
  · obtain ⟨rfl, _⟩ := h
    rfl
  · obtain ⟨rfl, k⟩ := h
    let kof := c.kof
    refine ⟨_, (pss_one (ps_ret (pe_disp (pps_cons pe_str (pe_mnew (kof := kof)) (pps_cons pe_str (pe_mnew (kof := kof)) (pps_cons pe_str (pe_mnew (kof := kof)) (pps_cons pe_str pe_dnewK (pps_cons pe_str pe_dnewK pps_nil))))) (by rfl) (by rfl) (fun z => by cases z) (by decide)))), ?_⟩
    refine fun p0 hp0 p1 hp1 p2 hp2 p3 hp3 p4 hp4 p5 hp5 => ?_
    have hp2 : (upd (upd H p0 (.dK [])) p1 (Mx.MixO b.w kof p1 [])) p2 = none := hp2
    have hp3 : (upd (upd (upd H p0 (.dK [])) p1 (Mx.MixO b.w kof p1 [])) p2 (Mx.MixO b.w kof p2 [])) p3 = none := hp3
    have hp4 : (upd (upd (upd (upd H p0 (.dK [])) p1 (Mx.MixO b.w kof p1 [])) p2 (Mx.MixO b.w kof p2 [])) p3 (Mx.MixO b.w kof p3 [])) p4 = none := hp4
    have hp5 : (upd (upd (upd (upd (upd H p0 (.dK [])) p1 (Mx.MixO b.w kof p1 [])) p2 (Mx.MixO b.w kof p2 [])) p3 (Mx.MixO b.w kof p3 [])) p4 (.dK [])) p5 = none := hp5
    have s0 := same_new' (o := .dK []) hp0
    have s1 := same_new' (o := Mx.MixO b.w kof p1 []) hp1
    have s2 := same_new' (o := Mx.MixO b.w kof p2 []) hp2
    have s3 := same_new' (o := Mx.MixO b.w kof p3 []) hp3
    have s4 := same_new' (o := .dK []) hp4
    have s5 := same_new' (o := .dK []) hp5
    have g0 := s5 _ _ (s4 _ _ (s3 _ _ (s2 _ _ (s1 _ _ (upd_same (H := H) (a := p0) (o := .dK []))))))
    have g1 := s5 _ _ (s4 _ _ (s3 _ _ (s2 _ _ (upd_same (H := upd H p0 (.dK [])) (a := p1) (o := Mx.MixO b.w kof p1 [])))))
    have g2 := s5 _ _ (s4 _ _ (s3 _ _ (upd_same (H := upd (upd H p0 (.dK [])) p1 (Mx.MixO b.w kof p1 [])) (a := p2) (o := Mx.MixO b.w kof p2 []))))
    have g3 := s5 _ _ (s4 _ _ (upd_same (H := upd (upd (upd H p0 (.dK [])) p1 (Mx.MixO b.w kof p1 [])) p2 (Mx.MixO b.w kof p2 [])) (a := p3) (o := Mx.MixO b.w kof p3 [])))
    have g4 := s5 _ _ (upd_same (H := upd (upd (upd (upd H p0 (.dK [])) p1 (Mx.MixO b.w kof p1 [])) p2 (Mx.MixO b.w kof p2 [])) p3 (Mx.MixO b.w kof p3 [])) (a := p4) (o := .dK []))
    have g5 := upd_same (H := upd (upd (upd (upd (upd H p0 (.dK [])) p1 (Mx.MixO b.w kof p1 [])) p2 (Mx.MixO b.w kof p2 [])) p3 (Mx.MixO b.w kof p3 [])) p4 (.dK [])) (a := p5) (o := .dK [])
    have st := Same.trans s0 (Same.trans s1 (Same.trans s2 (Same.trans s3 (Same.trans s4 s5))))
    have n0 : H p0 = none := hp0
    have n1 : H p1 = none := none_same s0 hp1
    have n2 : H p2 = none := none_same (Same.trans s0 s1) hp2
    have n3 : H p3 = none := none_same (Same.trans s0 (Same.trans s1 s2)) hp3
    have n4 : H p4 = none := none_same (Same.trans s0 (Same.trans s1 (Same.trans s2 s3))) hp4
    have n5 : H p5 = none := none_same (Same.trans s0 (Same.trans s1 (Same.trans s2 (Same.trans s3 s4)))) hp5
    have d01 : p0 ≠ p1 := ne_of_none (upd_same (H := H) (a := p0) (o := .dK [])) hp1
    have d02 : p0 ≠ p2 := ne_of_none (s1 _ _ (upd_same (H := H) (a := p0) (o := .dK []))) hp2
    have d03 : p0 ≠ p3 := ne_of_none (s2 _ _ (s1 _ _ (upd_same (H := H) (a := p0) (o := .dK [])))) hp3
    have d04 : p0 ≠ p4 := ne_of_none (s3 _ _ (s2 _ _ (s1 _ _ (upd_same (H := H) (a := p0) (o := .dK []))))) hp4
    have d05 : p0 ≠ p5 := ne_of_none (s4 _ _ (s3 _ _ (s2 _ _ (s1 _ _ (upd_same (H := H) (a := p0) (o := .dK [])))))) hp5
    have d12 : p1 ≠ p2 := ne_of_none (upd_same (H := upd H p0 (.dK [])) (a := p1) (o := Mx.MixO b.w kof p1 [])) hp2
    have d13 : p1 ≠ p3 := ne_of_none (s2 _ _ (upd_same (H := upd H p0 (.dK [])) (a := p1) (o := Mx.MixO b.w kof p1 []))) hp3
    have d14 : p1 ≠ p4 := ne_of_none (s3 _ _ (s2 _ _ (upd_same (H := upd H p0 (.dK [])) (a := p1) (o := Mx.MixO b.w kof p1 [])))) hp4
    have d15 : p1 ≠ p5 := ne_of_none (s4 _ _ (s3 _ _ (s2 _ _ (upd_same (H := upd H p0 (.dK [])) (a := p1) (o := Mx.MixO b.w kof p1 []))))) hp5
    have d23 : p2 ≠ p3 := ne_of_none (upd_same (H := upd (upd H p0 (.dK [])) p1 (Mx.MixO b.w kof p1 [])) (a := p2) (o := Mx.MixO b.w kof p2 [])) hp3
    have d24 : p2 ≠ p4 := ne_of_none (s3 _ _ (upd_same (H := upd (upd H p0 (.dK [])) p1 (Mx.MixO b.w kof p1 [])) (a := p2) (o := Mx.MixO b.w kof p2 []))) hp4
    have d25 : p2 ≠ p5 := ne_of_none (s4 _ _ (s3 _ _ (upd_same (H := upd (upd H p0 (.dK [])) p1 (Mx.MixO b.w kof p1 [])) (a := p2) (o := Mx.MixO b.w kof p2 [])))) hp5
    have d34 : p3 ≠ p4 := ne_of_none (upd_same (H := upd (upd (upd H p0 (.dK [])) p1 (Mx.MixO b.w kof p1 [])) p2 (Mx.MixO b.w kof p2 [])) (a := p3) (o := Mx.MixO b.w kof p3 [])) hp4
    have d35 : p3 ≠ p5 := ne_of_none (s4 _ _ (upd_same (H := upd (upd (upd H p0 (.dK [])) p1 (Mx.MixO b.w kof p1 [])) p2 (Mx.MixO b.w kof p2 [])) (a := p3) (o := Mx.MixO b.w kof p3 []))) hp5
    have d45 : p4 ≠ p5 := ne_of_none (upd_same (H := upd (upd (upd (upd H p0 (.dK [])) p1 (Mx.MixO b.w kof p1 [])) p2 (Mx.MixO b.w kof p2 [])) p3 (Mx.MixO b.w kof p3 [])) (a := p4) (o := .dK [])) hp5
    let ad : WAd := fun t => match t with
      | .wd => p0
      | .held => p1
      | .conv => p2
      | .queue => p3
      | .asks => p4
      | .got => p5
      | _ => p0
    refine ⟨g0, [(Sum.inr "held", .ref p1), (Sum.inr "conv", .ref p2), (Sum.inr "queue", .ref p3), (Sum.inr "asks", .ref p4), (Sum.inr "got", .ref p5)], rfl, by simp, ?_⟩
    have em : mergeK [] [((Sum.inr "held" : L2.Key), V.ref p1), (Sum.inr "conv", V.ref p2), (Sum.inr "queue", V.ref p3), (Sum.inr "asks", V.ref p4), (Sum.inr "got", V.ref p5)] = ([((Sum.inr "held" : L2.Key), V.ref p1), (Sum.inr "conv", V.ref p2), (Sum.inr "queue", V.ref p3), (Sum.inr "asks", V.ref p4), (Sum.inr "got", V.ref p5)] : List (L2.Key × V)) := by rfl
    rw [em]
    refine k _ ad (fun y o e => ?_) ⟨fun t ht => ?_, fun u v hu hv e => ?_, fun e he => (by cases he), ?_⟩ fun a ⟨t, ht, ea⟩ => ?_
    · rw [upd_ne (ne_of_none e n0)]
      exact st _ _ e
    · cases t with
      | wd => exact upd_same
      | held => exact (upd_ne d01.symm).trans g1
      | conv => exact (upd_ne d02.symm).trans g2
      | queue => exact (upd_ne d03.symm).trans g3
      | asks => exact (upd_ne d04.symm).trans g4
      | got => exact (upd_ne d05.symm).trans g5
      | hd i => cases ht
      | cv i => cases ht
      | qu i => cases ht
      | gt i => cases ht
    · cases u <;> first | (cases hu; done) | (cases v <;> first | (cases hv; done) | rfl | exact absurd e (by first | assumption | exact Ne.symm (by assumption)))
    · exact ⟨List.nodup_nil, (fun _ h => by cases h), List.nodup_nil, (fun _ h => by cases h), List.nodup_nil, (fun _ h => by cases h), List.nodup_nil, (fun _ h => by cases h), fun _ => List.nodup_nil, List.nodup_nil, fun _ _ => rfl, fun _ _ => rfl, fun _ _ => rfl, fun _ _ => rfl⟩
    · rw [← ea]
      cases t with
      | wd => exact n0
      | held => exact n1
      | conv => exact n2
      | queue => exact n3
      | asks => exact n4
      | got => exact n5
      | hd i => cases ht
      | cv i => cases ht
      | qu i => cases ht
      | gt i => cases ht
end Lk
end
section
set_option maxRecDepth 100000
set_option maxHeartbeats 1000000
/-! The law's lets. -/
namespace Lk
open PySem L2
open Mx (pe_msetd pe_mget pe_mget2 ps_mput pe_mnew pe_mayLock ps_mayLock pi_itemsN pi_itemsM fresh_dK fresh_mix)

section
variable {w : World} {c : Tc} {K : PySem.W.Frag} {H : Hp} {ad : WAd} {W : Wt}
theorem wm_held (A : WAt w c H ad W) (O : c.Ok K H) : Mx.MOk w H c.kof c.J (ad .held) (W.hi.map fun k => (k, V.ref (ad (.hd k)))) := ⟨.inl (A.at_ .held True.intro), O.it, fun p hp => by
  obtain ⟨j, hj, rfl⟩ := List.mem_map.mp hp
  exact A.ok.hJ j hj⟩
theorem wm_conv (A : WAt w c H ad W) (O : c.Ok K H) : Mx.MOk w H c.kof c.J (ad .conv) (W.ci.map fun k => (k, V.ref (ad (.cv k)))) := ⟨.inl (A.at_ .conv True.intro), O.it, fun p hp => by
  obtain ⟨j, hj, rfl⟩ := List.mem_map.mp hp
  exact A.ok.cJ j hj⟩
theorem wm_queue (A : WAt w c H ad W) (O : c.Ok K H) : Mx.MOk w H c.kof c.J (ad .queue) (W.qi.map fun k => (k, V.ref (ad (.qu k)))) := ⟨.inl (A.at_ .queue True.intro), O.it, fun p hp => by
  obtain ⟨j, hj, rfl⟩ := List.mem_map.mp hp
  exact A.ok.qJ j hj⟩
theorem wi_len {l : List V} (n : l.Nodup) (h : ∀ x ∈ l, x ∈ c.J) (O : c.Ok K H) {g : V → V} : (l.map fun k => (k, g k)).length < sizeLine := by
  have := LT_len n h
  have := O.few
  rw [List.length_map, sizeLine_eq]
  omega
end
theorem all_filter_nil {α : Type} (p q : α → Bool) (l : List α) : decide ((l.filter fun e => !p e).filter (fun e => !q e) = []) = l.all fun e => p e || q e := by
  rw [Bool.eq_iff_iff, decide_eq_true_iff, List.filter_eq_nil_iff, List.all_eq_true]
  constructor
  · intro h e he
    by_cases hp : p e = true
    · simp [hp]
    · have := h e (List.mem_filter.mpr ⟨he, by simp [hp]⟩)
      simpa [hp] using this
  · intro h e he
    obtain ⟨h1, h2⟩ := List.mem_filter.mp he
    have := h e h1
    simp at h2
    simpa [h2] using this
abbrev spWLets (b : Bs) (c : Tc) : Sp := fun vs H Q _ => ∃ (ad : WAd) (W : Wt) (o : Int) (i : V) (m : Str), vs = [.ref c.mo, .ref (ad .wd), .int o, i, .str m] ∧ WAt b.w c H ad W ∧ c.Ok b.K H ∧ WWf c W ∧ i ∈ c.J ∧ m ∈ c.d.names ∧
  ∀ H', Same H H' → Q (.bl (LT.lets c.M c.U W.ts o i m)) H'
abbrev s_law_lets : Stmt := top 46
abbrev N_law_lets : List Str := ["_law_modes", "_law_world_here", "_law_owner", "_law_item", "_law_mode", "_law_some", "_law_one_here", "_law_held"]
abbrev P_law_lets : List Str := ["_law_modes", "_law_world_here", "_law_owner", "_law_item", "_law_mode"]
theorem sc_law_lets : FnScope N_law_lets P_law_lets (defScope s_law_lets) := ⟨rfl, rfl, rfl, by decide +kernel, rfl, by decide +kernel, by decide +kernel⟩
theorem ok_law_lets {b : Bs} {c : Tc} (R : Raw b "_law_lets" "_law_lets" s_law_lets P_law_lets) (T : Tops b) : Df b 1 "_law_lets" P_law_lets (spWLets b c) := by
  refine R.ok sc_law_lets (fun vs H Q E h => ?_) fun f cdv A outer s H vs Q E hr h => ?_
  · obtain ⟨ad, W, o, i, m, rfl, _⟩ := h
    rfl
  · obtain ⟨ad, W, o, i, m, rfl, A0, O0, F, hi, hm, k⟩ := h
    let kof := c.kof
    refine ⟨_, (pss_cons (ps_mayLock (ps_setLcB (i := 5) (own := [("_law_one_here", 6), ("_law_held", 7)]) rfl sc_law_lets.nd rfl rfl (sw_true rfl rfl rfl (by decide +kernel)) (pi_itemsN (pe_mget2 (kof := kof) (hu9 hr) (pe_dget (hu_of hr) (pv 1) pe_str (fun _ _ => rfl)) (pv 3) pe_dnewK ⟨rfl, rfl, rfl, rfl⟩)) (blkOk_by (own := [("_law_one_here", 6), ("_law_held", 7)]) (N := N_law_lets) (sc := defScope s_law_lets) (by decide +kernel)) (fun _ _ _ _ _ => (pg_tup rfl (pgs_cons (pg_name (i := 6) sc_law_lets.nd rfl (Or.inl rfl)) (pgs_cons (pg_name (i := 7) sc_law_lets.nd rfl (Or.inl rfl)) pgs_nil)))) (fun _ _ _ _ _ => (pts_one (pt_cmpR op_ne (pv 6) (pv 2) (nomark _)))) (fun _ _ _ _ _ => (pv 7))))
      (pss_one (ps_ret (pe_cmpR (op_eqD hr.units) (pe_lcB (own := [("_law_held", 7)]) rfl sc_law_lets.nd (pi_list (pv 5)) (blkOk_by (own := [("_law_held", 7)]) (N := N_law_lets) (sc := defScope s_law_lets) (by decide +kernel)) (fun _ _ _ _ _ => (pg_name (i := 7) sc_law_lets.nd rfl (Or.inl rfl))) (fun _ _ _ _ _ => (pts_one (pt_cmpR (Ru.op_notInT (hu65 hr)) (pe_tup (pa_cons (pv 7) (pa_cons (pv 4) pa_nil))) (pe_ix ix_tup (pv 0) pe_int (fun _ _ => rfl)) (by rfl)))) (fun _ _ _ _ _ => (pv 7))) (pe_lst pa_nil) (nomark _))))), ?_⟩
    have hin := wwf_hin F A0.ok i
    have nd := A0.ok.mdn i
    have ml := md_len nd (fun e he => (hin e he).1) O0.ul
    dsimp only [gName]
    refine seq_mid (fun σ' H' => ∃ L, σ' = [some (.ref c.mo), some (.ref (ad .wd)), some (.int o), some i, some (.str m), some (.ref L), none, none] ∧ Same H H' ∧ H' L = some (.lst (((W.hm i).filter fun e => !decide (e.1 = o)).map fun e => V.str e.2))) (fun N hN => ?_) (fun σ' H1 h => ?_)
    · by_cases h : i ∈ W.hi
      · refine .inl ⟨ad (.hd i), _, A0.at_ (.hd i) h, True.intro, fun od => ?_⟩
        have off : ∀ t, t ≠ .hd i → W.dom t → (upd H (ad (.hd i)) (.frz od (wcont b.w c ad W (.hd i)))) (ad t) = some (wcont b.w c ad W t) := fun t nt ht => by
          rw [upd_ne fun e => nt (A0.inj t (.hd i) ht h e)]
          exact A0.at_ t ht
        have tF : Tups H (upd H (ad (.hd i)) (.frz od (wcont b.w c ad W (.hd i)))) := Tups.mut (A0.at_ (.hd i) h) (wcont_tup _)
        have OF := O0.mono tF
        have hwd := off .wd (by simp) True.intro
        have hhe := off .held (by simp) True.intro
        have hhd : (upd H (ad (.hd i)) (.frz od (wcont b.w c ad W (.hd i)))) (ad (.hd i)) = some (.frz od (wcont b.w c ad W (.hd i))) := upd_same
        have back : ∀ H' : Hp, Same (upd H (ad (.hd i)) (.frz od (wcont b.w c ad W (.hd i)))) H' → Same H (upd H' (ad (.hd i)) (wcont b.w c ad W (.hd i))) := fun H' s => same_unlock (A0.at_ (.hd i) h) s
        have hsub : ∀ p ∈ W.hi.map fun k => (k, V.ref (ad (.hd k))), p.1 ∈ c.J := (wm_held A0 O0).sub
        generalize upd H (ad (.hd i)) (.frz od (wcont b.w c ad W (.hd i))) = HF at hwd hhe hhd back OF ⊢
        refine ⟨_, rfl, _, _, rfl, .inl ⟨_, Sum.inr "held", .inl hwd, rfl, by rfl⟩, ⟨_, _, c.J, rfl, .inl hhe, OF.it, hsub⟩, _, rfl, fun p hp => ?_⟩
        have sp := same_new' (o := .dK []) hp
        refine ⟨_, _, c.J, rfl, ⟨.inl (sp _ _ hhe), (OF.mono (Same.tups sp)).it, hsub⟩, hi, ?_⟩
        rw [valV_its, if_pos h]
        refine ⟨ad (.hd i), _, rfl, .inl ⟨od, sp _ _ hhd, fun L hL => ?_⟩⟩
        have w := walk_items (d := ad (.hd i)) (o := od) (kvs := (W.hm i).map (ent V.str))
        rw [List.length_map] at w
        refine lc_sel (xs := W.hm i) w (fun e => !decide (e.1 = o)) (fun e => V.str e.2) hL (by rw [sizeLine_eq]; omega) (fun H2 s2 => s2 _ _ (sp _ _ hhd)) (fun j e x H2 H3 Q' N' he s2 hy q1 q2 => ?_) fun H2 s2 e2 => ?_
        · obtain ⟨Tt, x0, y0, rfl, hT, rfl, h0, h1⟩ := hy
          have h0 : ((W.hm i).map (ent V.str))[j]?.map (fun kv => kV kv.1) = some x0 := h0
          have h1 : ((W.hm i).map (ent V.str))[j]?.map Prod.snd = some y0 := h1
          rw [List.getElem?_map, he] at h0 h1
          cases h0
          cases h1
          refine ⟨Tt, _, rfl, .inl (.inl upd_same), rfl, _, _, rfl, _, _, rfl, rfl, rfl, ?_⟩
          have s3 : Same H2 (upd H2 Tt (.tup [.int e.1, .str e.2])) := same_new' hT
          refine ⟨_, rfl, _, rfl, rfl, _, rfl, ?_⟩
          have e0 : decide (kV (ent V.str e).1 = V.int o) = decide (e.1 = o) := decide_eq_decide.mpr ⟨fun z => by injection z, fun z => by rw [show (kV (ent V.str e).1) = V.int e.1 from rfl, z]⟩
          rw [e0]
          cases hc : decide (e.1 = o) with
          | true => 
            rw [hc] at q2
            exact iteF (q2 rfl _ s3)
          | false =>
            rw [hc] at q1
            exact iteT ⟨_, rfl, q1 rfl _ s3⟩
        · refine ⟨s2 _ _ (sp _ _ hhd), ?_⟩
          have nL : L ≠ ad (.hd i) := (ne_of_none (sp _ _ hhd) hL).symm
          exact hN _ _ ⟨L, rfl, back _ (Same.trans sp s2), by rw [upd_ne nL]; exact e2⟩
      · refine .inr ⟨_, rfl, _, _, rfl, wd_held A0, ⟨_, _, c.J, rfl, wm_held A0 O0⟩, _, rfl, fun p hp => ?_⟩
        have sp := same_new' (o := .dK []) hp
        refine ⟨_, _, c.J, rfl, wm_held (A0.same sp) (O0.mono (Same.tups sp)), hi, ?_⟩
        rw [valV_its, if_neg h]
        refine ⟨p, [], rfl, .inr ⟨upd_same, fun od L hL => ?_⟩⟩
        have w := walk_items (d := p) (o := od) (kvs := [])
        have sp2 : Same H (upd (upd H p (.dK [])) p (.frz od (.dK []))) := fun b o e => by
          have n := ne_of_none e hp
          rw [upd_ne n, upd_ne n]; exact e
        have hp2 : (upd (upd H p (.dK [])) p (.frz od (.dK []))) p = some (.frz od (.dK [])) := upd_same
        generalize upd (upd H p (.dK [])) p (.frz od (.dK [])) = HF at sp2 hp2 hL ⊢
        refine lc_sel (xs := ([] : List (Int × Str))) w (fun e => !decide (e.1 = o)) (fun e => V.str e.2) hL (by rw [sizeLine_eq]; first | done | (show 0 < _; omega)) (fun H2 s2 => s2 _ _ hp2) (fun j e x H2 H3 Q' N' he s2 hy q1 q2 => by cases he) fun H2 s2 e2 => ?_
        exact hN _ _ ⟨L, rfl, Same.trans sp2 s2, by rw [e2, A0.ok.h0 i h]⟩
    · obtain ⟨L, rfl, s1, hL⟩ := h
      have A1 := A0.same s1
      have O1 := O0.mono (Same.tups s1)
      refine ⟨_, rfl, _, rfl, ⟨_, .inl (.inl hL)⟩, fun D hD => ?_⟩
      have w := walk_list (K := b.K) (a := L) (xs := ((W.hm i).filter fun e => !decide (e.1 = o)).map fun e => V.str e.2)
      rw [List.length_map] at w
      have hms := O1.ms
      obtain ⟨n, a, j, ps, js, M⟩ := hms
      have fl := List.length_filter_le (fun e => !decide (e.1 = o)) (W.hm i)
      refine lc_sel (xs := (W.hm i).filter fun e => !decide (e.1 = o)) w (fun e => !c.d.al e.2 m) (fun e => V.str e.2) hD (by rw [sizeLine_eq]; omega) (fun H2 s2 => .inl (.inl (s2 _ _ hL))) (fun j e x H2 H3 Q' N' he s2 hy q1 q2 => ?_) fun H2 s2 e2 => ?_
      · obtain ⟨rfl, hy⟩ := hy
        rw [List.getElem?_map, he] at hy
        cases hy
        have hme : e ∈ W.hm i := (List.mem_filter.mp (List.mem_of_getElem? he)).1
        have hh : e.2 ∈ c.d.names := (hin e hme).2
        refine ⟨rfl, _, rfl, _, rfl, two_le, fun t ht => ?_⟩
        have s3 := same_new' (o := .tup (vP (e.2, m))) ht
        have st := Same.trans s2 s3
        have dm : Dp b.K (upd H3 t (.tup (vP (e.2, m)))) (.ref a) (.tuple (c.d.allowed.map dP)) := .tup (M.alw.mono (Same.tups st)).sq (dp_Ps (L2.Paired.mapP M.each fun _ _ h => .inl (.inl (st _ _ h))))
        refine ⟨_, rfl, c.mo, _, 1, _, rfl, rfl, (M.top.mono (Same.tups st)).sq, rfl, dP (e.2, m), _, dp_P (.inl (.inl upd_same)), dm, (sh_P (e := (e.2, m)) ⟨okS_name (M.ok.1 _ hh), okS_name (M.ok.1 m hm)⟩).ok (by decide), (sh_all (sh_Ps fun e he => ⟨okS_name (M.ok.1 _ (M.ok.2 e he).1), okS_name (M.ok.1 _ (M.ok.2 e he).2)⟩)).1, _, rfl, ?_⟩
        have ee : (c.d.allowed.map dP).any (fun z => PyData.eqv z (dP (e.2, m))) = c.d.al e.2 m := any_P _ _
        simp only [if_true]
        rw [ee]
        cases hc : c.d.al e.2 m with
        | true =>
          rw [hc] at q2
          exact iteF (q2 rfl _ s3)
        | false =>
          rw [hc] at q1
          exact iteT ⟨_, rfl, q1 rfl _ s3⟩
      · refine ⟨Nat.zero_le _, fun r hr2 => ?_⟩
        have s3 := same_new' (o := .lst []) hr2
        have el : ∀ l : List (Int × Str), DpAll b.K (upd H2 r (.lst [])) (l.map fun e => V.str e.2) (l.map fun e => PyData.str e.2) := fun l => by
          have z := dpAll_str (K := b.K) (H := upd H2 r (.lst [])) (l.map (·.2))
          rw [List.map_map, List.map_map] at z
          exact z
        refine ⟨.list ((((W.hm i).filter fun e : Int × Str => !decide (e.1 = o)).filter fun e : Int × Str => !c.d.al e.2 m).map fun e : Int × Str => PyData.str e.2), .list [], .lst (.inl (.inl (s3 _ _ e2))) (el _), .lst (.inl (.inl upd_same)) .nil, (Sh.lst (n := 0) fun z hz => ?_).ok (by omega), sh_nil, ?_⟩
        · obtain ⟨e, he, rfl⟩ := List.mem_map.mp hz
          exact Sh.str (okS_name (M.ok.1 _ (hin e (List.mem_filter.mp (List.mem_filter.mp he).1).1).2))
        · rw [eqv_nil]
          have e2 := all_filter_nil (fun e : Int × Str => decide (e.1 = o)) (fun e => c.d.al e.2 m) (W.hm i)
          rw [wlets_md (fun e he => (hin e he).1) nd] at e2
          rw [show decide (((((W.hm i).filter fun e => !decide (e.1 = o)).filter fun e => !c.d.al e.2 m).map fun e => PyData.str e.2) = []) = decide ((((W.hm i).filter fun e => !decide (e.1 = o)).filter fun e => !c.d.al e.2 m) = []) from decide_eq_decide.mpr List.map_eq_nil_iff, e2]
          exact k _ (Same.trans s1 (Same.trans s2 s3))
end Lk
end
section
set_option maxRecDepth 100000
set_option maxHeartbeats 1000000
/-! The law's given. -/
namespace Lk
open PySem L2
open Mx (pe_msetd pe_mget pe_mget2 ps_mput pe_mnew pe_mayLock ps_mayLock pi_itemsN pi_itemsM fresh_dK fresh_mix)

theorem upd_self {H : Hp} {a : Addr} {o : HO} (h : H a = some o) : upd H a o = H := by
  funext b
  by_cases e : b = a
  · rw [e, upd_same, h]
  · rw [upd_ne e]
section
variable {w : World} {c : Tc} {K : PySem.W.Frag} {H : Hp} {ad : WAd} {W : Wt} {p : Addr} {o : Int} {i : V}
theorem wgot_get (A : WAt w c H ad W) (hp : H p = none) : ∃ L, (valV (W.go.map fun k => ((Sum.inl k : L2.Key), V.ref (ad (.gt k)))) (Sum.inl o)).getD (.ref p) = .ref L ∧ (upd H p (.lst [])) L = some (.lst (W.gm o)) := by
  rw [valV_os]
  by_cases h : o ∈ W.go
  · rw [if_pos h]
    exact ⟨_, rfl, (same_new' hp) _ _ (A.at_ (.gt o) h)⟩
  · rw [if_neg h]
    exact ⟨p, rfl, by rw [A.ok.g0 o h]; exact upd_same⟩
theorem wconv_get (A : WAt w c H ad W) (hp : H p = none) : ∃ L, (valV (W.ci.map fun k => (k, V.ref (ad (.cv k)))) i).getD (.ref p) = .ref L ∧ (upd H p (.lst [])) L = some (.lst ((W.cm i).map V.int)) := by
  rw [valV_its]
  by_cases h : i ∈ W.ci
  · rw [if_pos h]
    exact ⟨_, rfl, (same_new' hp) _ _ (A.at_ (.cv i) h)⟩
  · rw [if_neg h]
    exact ⟨p, rfl, by rw [A.ok.c0 i h]; exact upd_same⟩
theorem wqueue_get (A : WAt w c H ad W) (hp : H p = none) : ∃ L, (valV (W.qi.map fun k => (k, V.ref (ad (.qu k)))) i).getD (.ref p) = .ref L ∧ (upd H p (.lst [])) L = some (.lst ((W.qm i).map V.int)) := by
  rw [valV_its]
  by_cases h : i ∈ W.qi
  · rw [if_pos h]
    exact ⟨_, rfl, (same_new' hp) _ _ (A.at_ (.qu i) h)⟩
  · rw [if_neg h]
    exact ⟨p, rfl, by rw [A.ok.q0 i h]; exact upd_same⟩
theorem wg_len (A : WAt w c H ad W) (O : c.Ok K H) {g : Int → V} : (W.go.map fun k => ((Sum.inl k : L2.Key), g k)).length < sizeLine := by
  have := LT_len A.ok.gn A.ok.gU
  have := O.ul
  rw [List.length_map, sizeLine_eq]
  omega
end
theorem wgive_ts (W : Wt) (o : Int) (i : V) (m : Str) {l : List V} (hl : l = if i ∈ W.gm o then W.gm o else W.gm o ++ [i]) : (((W.sHd i (putA (W.hm i) o m)).sAl (dropA W.al o)).sGt o l).ts = LT.give W.ts o i m := by
  have h1 : (fun (j : V) (q : Int) => (LT.put W.hm i (putA (W.hm i) o m) j).lookup q) = LT.put W.ts.held i (LT.put (W.ts.held i) o (some m)) := by
    funext j q
    by_cases e : j = i
    · rw [e, LT.put_at, LT.put_at, lookup_putA]
      by_cases e2 : q = o
      · rw [e2, LT.put_at, if_pos rfl]
      · rw [LT.put_off _ _ e2, if_neg e2]; rfl
    · rw [LT.put_off _ _ e, LT.put_off _ _ e]; rfl
  have h2 : (fun q => ((dropA W.al o).lookup q).map (·.2)) = LT.put W.ts.asks o none := by
    funext q
    rw [lookup_dropA]
    by_cases e2 : q = o
    · rw [e2, LT.put_at, if_pos rfl]; rfl
    · rw [LT.put_off _ _ e2, if_neg e2]; rfl
  subst hl
  show LT.TS.mk _ _ _ _ _ = LT.TS.mk _ _ _ _ _
  congr 1
theorem wgive_ts0 (W : Wt) (o : Int) (i : V) (m : Str) (h : i ∈ W.gm o) : (((W.sHd i (putA (W.hm i) o m)).sAl (dropA W.al o))).ts = LT.give W.ts o i m := by
  rw [← wgive_ts W o i m (l := W.gm o) (by rw [if_pos h])]
  show LT.TS.mk _ _ _ _ _ = LT.TS.mk _ _ _ _ (LT.put W.gm o (W.gm o))
  rw [put_self]
  rfl
abbrev spWGiven (b : Bs) (c : Tc) : Sp := fun vs H Q _ => ∃ (ad : WAd) (W : Wt) (o : Int) (i : V) (m : Str), vs = [.ref (ad .wd), .int o, i, .str m] ∧ WAt b.w c H ad W ∧ c.Ok b.K H ∧ i ∈ c.J ∧ o ∈ c.U ∧ (∀ e ∈ W.hm i, e.1 ∈ c.U) ∧ (∀ x ∈ W.gm o, x ∈ c.J) ∧ (W.gm o).Nodup ∧
  ∀ H' ad' W', WGo b.w c H ad W H' ad' W' → W'.ts = LT.give W.ts o i m → Q .non H'
abbrev s_law_given : Stmt := top 47
abbrev N_law_given : List Str := ["_law_world_here", "_law_owner", "_law_item", "_law_mode", "_law_held"]
abbrev P_law_given : List Str := ["_law_world_here", "_law_owner", "_law_item", "_law_mode"]
theorem sc_law_given : FnScope N_law_given P_law_given (defScope s_law_given) := ⟨rfl, rfl, rfl, by decide +kernel, rfl, by decide +kernel, by decide +kernel⟩
theorem ok_law_given {b : Bs} {c : Tc} (R : Raw b "_law_given" "_law_given" s_law_given P_law_given) (T : Tops b) : Df b 1 "_law_given" P_law_given (spWGiven b c) := by
  refine R.ok sc_law_given (fun vs H Q E h => ?_) fun f cdv A outer s H vs Q E hr h => ?_
  · obtain ⟨ad, W, o, i, m, rfl, _⟩ := h
    rfl
  · obtain ⟨ad, W, o, i, m, rfl, A0, O0, hi, ho, hin, hg, hgn, k⟩ := h
    let kof := c.kof
    refine ⟨_, (pss_cons (ps_set (i := 4) sc_law_given.nd rfl (Or.inl rfl) (pe_mget2 (kof := kof) (hu9 hr) (pe_dget (hu_of hr) (pv 0) pe_str (fun _ _ => rfl)) (pv 2) pe_dnewK ⟨rfl, rfl, rfl, rfl⟩))
      (pss_cons (ps_dput (hu_of hr) (pv 4) (pv 1) (pv 3) rfl)
      (pss_cons (ps_mput (kof := kof) (hu9 hr) (pe_dget (hu_of hr) (pv 0) pe_str (fun _ _ => rfl)) (pv 2) (pv 4) rfl)
      (pss_cons (ps_expr (pe_dpop2 (pe_dget (hu_of hr) (pv 0) pe_str (fun _ _ => rfl)) (pv 1) pe_non ⟨rfl, rfl, rfl, rfl⟩))
      (pss_one (ps_if (pt_cmpR (op_notInD (hu65 hr)) (pv 2) (pe_dget2 (hu_of hr) (pe_dget (hu_of hr) (pv 0) pe_str (fun _ _ => rfl)) (pv 1) (pe_lst pa_nil) ⟨rfl, rfl, rfl, rfl⟩) (by rfl)) (pss_one (ps_dput (hu_of hr) (pe_dget (hu_of hr) (pv 0) pe_str (fun _ _ => rfl)) (pv 1) (pe_op op_cat (pe_dget2 (hu_of hr) (pe_dget (hu_of hr) (pv 0) pe_str (fun _ _ => rfl)) (pv 1) (pe_lst pa_nil) ⟨rfl, rfl, rfl, rfl⟩) (pe_lst (pa_cons (pv 2) pa_nil))) rfl)) pss_nil)))))), ?_⟩
    have nd := A0.ok.mdn i
    have ml := md_len nd hin O0.ul
    dsimp only [gName]
    refine seq_mid (fun σ' H' => ∃ L, σ' = [some (.ref (ad .wd)), some (.int o), some i, some (.str m), some (.ref L)] ∧ Same H H' ∧ ((i ∈ W.hi ∧ L = ad (.hd i)) ∨ (i ∉ W.hi ∧ H L = none ∧ H' L = some (.dK [])))) (fun N hN => ?_) (fun σ' H1 h => ?_)
    · refine ⟨_, rfl, _, _, rfl, wd_held A0, ⟨_, _, c.J, rfl, wm_held A0 O0⟩, _, rfl, fun p hp => ?_⟩
      have sp := same_new' (o := .dK []) hp
      refine ⟨_, _, c.J, rfl, wm_held (A0.same sp) (O0.mono (Same.tups sp)), hi, ?_⟩
      rw [valV_its]
      by_cases h : i ∈ W.hi
      · rw [if_pos h]
        exact hN _ _ ⟨_, rfl, sp, .inl ⟨h, rfl⟩⟩
      · rw [if_neg h]
        exact hN _ _ ⟨_, rfl, sp, .inr ⟨h, hp, upd_same⟩⟩
    obtain ⟨L, rfl, s1, hL⟩ := h
    have A1 := A0.same s1
    have O1 := O0.mono (Same.tups s1)
    have key : ∃ H3 ad3 H2, WGo b.w c H ad W H3 ad3 (W.sHd i (putA (W.hm i) o m)) ∧ DPut H1 L (.int o) (.str m) H2 ∧ DGet H2 (ad .wd) (.str "held") (some (.ref (ad .held))) ∧ Mx.MPut b.w H2 c.kof (ad .held) i (.ref L) H3 := by
      rcases hL with ⟨h, rfl⟩ | ⟨h, n, e⟩
      · have g1 := (WGo.same A0 s1).hm h (keys_putA nd (o := o) (a := m))
        refine ⟨_, ad, _, g1, DPut.k (k := Sum.inl o) (A1.at_ (.hd i) h) (by rw [List.length_map, sizeLine_eq]; omega), ?_⟩
        rw [putA_k]
        have A2 := g1.at_
        have O2 := O0.mono (WGo.tups A0 g1)
        refine ⟨wd_held A2, _, c.J, A2.at_ .held True.intro, O2.it, (wm_held A2 O2).sub, hi, wi_len A2.ok.hn A2.ok.hJ O2, ?_⟩
        have e0 : addL W.hi i = W.hi := if_pos h
        have e1 : putK ((W.sHd i (putA (W.hm i) o m)).hi.map fun k => (k, V.ref (ad (.hd k)))) i (.ref (ad (.hd i))) = (W.sHd i (putA (W.hm i) o m)).hi.map fun k => (k, V.ref (ad (.hd k))) := by
          show putK ((addL W.hi i).map fun k => (k, V.ref (ad (.hd k)))) i (.ref (ad (.hd i))) = (addL W.hi i).map fun k => (k, V.ref (ad (.hd k)))
          have z := put_map (k := (id : V → V)) (fun _ _ h => h) (l := addL W.hi i) (g := fun k => V.ref (ad (.hd k))) (g' := fun k => V.ref (ad (.hd k))) (x := i) rfl fun _ _ => rfl
          rw [e0] at z ⊢
          rw [e0] at z
          exact z
        rw [e1]
        exact (upd_self (A2.at_ .held True.intro)).symm
      · have h0 := A0.ok.h0 i h
        have nL : ∀ b o', H b = some o' → b ≠ L := fun b o' e => ne_of_none e n
        have s2 : Same H (upd H1 L (.dK ((putA (W.hm i) o m).map (ent V.str)))) := fun b o' e => by
          rw [upd_ne (nL b o' e)]; exact s1 b o' e
        have A2 := A0.same s2
        have O2 := O0.mono (Same.tups s2)
        have g3 := (WGo.same A0 s2).hdN hi (keys_putA nd (o := o) (a := m)) n ⟨upd_same, woff_new A0 n⟩
        refine ⟨_, _, _, g3, .inl ⟨[], Sum.inl o, e, rfl, ?_, rfl⟩, ?_⟩
        · rw [sizeLine_eq]; first | done | (show 0 < _; omega)
        have ep : putK ([] : List (L2.Key × V)) (Sum.inl o) (.str m) = (putA (W.hm i) o m).map (ent V.str) := by
          rw [h0, ← putA_k]; rfl
        rw [ep]
        exact ⟨wd_held A2, _, c.J, A2.at_ .held True.intro, O2.it, (wm_held A2 O2).sub, hi, wi_len A2.ok.hn A2.ok.hJ O2, rfl⟩
    obtain ⟨H3, ad3, H2, g3, d1, d2, d3⟩ := key
    refine ⟨_, rfl, _, rfl, _, rfl, _, H2, rfl, d1, _, rfl, _, rfl, _, _, rfl, d2, _, rfl, _, H3, rfl, d3, ?_⟩
    have A3 := g3.at_
    have O3 := O0.mono (WGo.tups A0 g3)
    have w3 : ad3 .wd = ad .wd := g3.wd
    have a3 := wd_asks A3
    rw [w3] at a3
    refine ⟨_, rfl, _, _, rfl, a3, _, rfl, .inl ⟨_, .inl (A3.at_ .asks True.intro)⟩, _, rfl, _, Sum.inl o, A3.at_ .asks True.intro, rfl, ?_⟩
    have g4 := g3.al (l := dropA W.al o) (keys_dropA A0.ok.aln) fun e he => A3.ask e ((List.mem_filter.mp he).1)
    have dk : dropK (W.al.map (ent fun e => V.ref e.1)) (Sum.inl o) = (dropA W.al o).map (ent fun e => V.ref e.1) := dropA_k
    refine pop_rest (fun H4 => WGo b.w c H ad W H4 ad3 ((W.sHd i (putA (W.hm i) o m)).sAl (dropA W.al o))) (fun v hv => ?_) (fun hn => ?_) fun H4 g4 => ?_
    · show WGo b.w c H ad W (upd H3 (ad3 .asks) (.dK (dropK (W.al.map (ent fun e => V.ref e.1)) (Sum.inl o)))) ad3 _
      rw [dk]
      exact g4
    · have hn2 : W.al.lookup o = none := by
        have z : valV (W.al.map (ent fun e => V.ref e.1)) (Sum.inl o) = none := hn
        rw [valV_k] at z
        cases e : W.al.lookup o with
        | none => rfl
        | some y => rw [e] at z; cases z
      rw [dropA_none hn2]
      exact g3
    have A4 := g4.at_
    have O4 := O0.mono (WGo.tups A0 g4)
    have w4 : ad3 .wd = ad .wd := g4.wd
    have a4 := wd_got A4
    rw [w4] at a4
    have e4 : ((W.sHd i (putA (W.hm i) o m)).sAl (dropA W.al o)).gm = W.gm := rfl
    have f4 : ((W.sHd i (putA (W.hm i) o m)).sAl (dropA W.al o)).go = W.go := rfl
    refine ⟨_, rfl, _, rfl, _, _, rfl, a4, _, rfl, .inl ⟨_, .inl (A4.at_ .got True.intro)⟩, _, rfl, Nat.zero_le _, fun p hp => ?_⟩
    have sp := same_new' (o := .lst []) hp
    have g5 := g4.then_ sp
    have A5 := g5.at_
    have O5 := O0.mono (WGo.tups A0 g5)
    have a5 := wd_got A5
    rw [w4] at a5
    obtain ⟨LL, eL, hL⟩ := wgot_get (o := o) A4 hp
    have eL : (valV (W.go.map fun k => ((Sum.inl k : L2.Key), V.ref (ad3 (.gt k)))) (Sum.inl o)).getD (.ref p) = .ref LL := eL
    have hL : (upd H4 p (.lst [])) LL = some (.lst (W.gm o)) := hL
    refine ⟨valV (W.go.map fun k => ((Sum.inl k : L2.Key), V.ref (ad3 (.gt k)))) (Sum.inl o), .inl ⟨_, Sum.inl o, .inl (A5.at_ .got True.intro), rfl, rfl⟩, ?_⟩
    rw [eL]
    generalize upd H4 p (.lst []) = H5 at g5 A5 O5 a5 hL ⊢
    refine ⟨dI c.kof i, (W.gm o).map (dI c.kof), dp_I O5.it hi, .lst (.inl (.inl hL)) (dp_Is O5.it hg), (sh_I O5.it (fun v hv => O5.key hv) hi).ok (by omega), (Sh.lst (sh_Is O5.it (fun v hv => O5.key hv) hg)).ok (by omega), _, rfl, ?_⟩
    rw [any_I O5.it hi hg]
    by_cases h : i ∈ W.gm o
    · rw [decide_eq_true h]
      exact iteF (k _ _ _ g5 (wgive_ts0 W o i m h))
    · rw [decide_eq_false h]
      refine iteT ?_
      refine ⟨_, rfl, _, _, rfl, a5, _, rfl, .inl ⟨_, .inl (A5.at_ .got True.intro)⟩, _, rfl, Nat.zero_le _, fun p2 hp2 => ?_⟩
      have sp2 := same_new' (o := .lst []) hp2
      have g6 := g5.then_ sp2
      have A6 := g6.at_
      obtain ⟨LB, e2, h2⟩ := wgot_get (o := o) A5 hp2
      have e2 : (valV (W.go.map fun k => ((Sum.inl k : L2.Key), V.ref (ad3 (.gt k)))) (Sum.inl o)).getD (.ref p2) = .ref LB := e2
      have h2 : (upd H5 p2 (.lst [])) LB = some (.lst (W.gm o)) := h2
      refine ⟨valV (W.go.map fun k => ((Sum.inl k : L2.Key), V.ref (ad3 (.gt k)))) (Sum.inl o), .inl ⟨_, Sum.inl o, .inl (A6.at_ .got True.intro), rfl, rfl⟩, ?_⟩
      rw [e2]
      generalize upd H5 p2 (.lst []) = H6 at g6 A6 h2 ⊢
      have gl : (W.gm o).length ≤ 20 := Nat.le_trans (LT_len hgn hg) O0.few
      refine ⟨_, rfl, sz100 (by simp), fun q hq => ?_⟩
      have s7 := same_new' (o := .lst [i]) hq
      refine ⟨LB, q, _, _, rfl, rfl, s7 _ _ h2, upd_same, by rw [sizeLine_eq]; simp only [List.length_cons, List.length_nil]; omega, fun r hr2 => ?_⟩
      have s8 := same_new' (o := .lst (W.gm o ++ [i])) hr2
      have g8 := g6.then_ (Same.trans s7 s8)
      have A8 := g8.at_
      have a8 := wd_got A8
      rw [w4] at a8
      have nr : H r = none := g6.none_ (none_same s7 hr2)
      have x8 : WOff (upd (upd H6 q (.lst [i])) r (.lst (W.gm o ++ [i]))) ad3 ((W.sHd i (putA (W.hm i) o m)).sAl (dropA W.al o)) r (.lst (W.gm o ++ [i])) := ⟨upd_same, woff_new (g6.then_ s7).at_ hr2⟩
      refine ⟨_, rfl, _, _, rfl, a8, _, rfl, _, _, rfl, DPut.k (k := Sum.inl o) (A8.at_ .got True.intro) (wg_len A8 (O0.mono (WGo.tups A0 g8))), ?_⟩
      refine k _ _ _ (g8.gt ho nr x8) ?_
      exact wgive_ts W o i m (by rw [if_neg h])
end Lk
end
section
set_option maxRecDepth 100000
set_option maxHeartbeats 1000000
/-! The law's asked. -/
namespace Lk
open PySem L2
open Mx (pe_msetd pe_mget pe_mget2 ps_mput pe_mnew pe_mayLock ps_mayLock pi_itemsN pi_itemsM fresh_dK fresh_mix)

theorem whd_get {w : World} {c : Tc} {H : Hp} {ad : WAd} {W : Wt} {p : Addr} {i : V} (A : WAt w c H ad W) (hp : H p = none) : ∃ L, (valV (W.hi.map fun k => (k, V.ref (ad (.hd k)))) i).getD (.ref p) = .ref L ∧ (upd H p (.dK [])) L = some (.dK ((W.hm i).map (ent V.str))) := by
  rw [valV_its]
  by_cases h : i ∈ W.hi
  · rw [if_pos h]
    exact ⟨_, rfl, (same_new' hp) _ _ (A.at_ (.hd i) h)⟩
  · rw [if_neg h]
    exact ⟨p, rfl, by rw [A.ok.h0 i h]; exact upd_same⟩
theorem wgrants_eq {c : Tc} {W : Wt} {o : Int} {i : V} {m : Str} : LT.grants c.M c.U W.ts o i m = (decide (some (c.d.jn (W.ts.held i o) m) = W.ts.held i o) || (LT.lets c.M c.U W.ts o i (c.d.jn (W.ts.held i o) m) && (decide (W.ts.held i o ≠ none) || decide (W.cm i ++ W.qm i = [])))) := rfl
abbrev spWAsked (b : Bs) (c : Tc) : Sp := fun vs H Q _ => ∃ (ad : WAd) (W : Wt) (o : Int) (i : V) (m : Str), vs = [.ref c.mo, .ref (ad .wd), .int o, i, .str m] ∧ WAt b.w c H ad W ∧ c.Ok b.K H ∧ WWf c W ∧ i ∈ c.J ∧ o ∈ c.U ∧ m ∈ c.d.names ∧ W.ts.asks o = none ∧
  ∀ H' ad' W', WGo b.w c H ad W H' ad' W' → W'.ts = (LT.ask c.M c.U W.ts o i m).2 → Q (.bl (LT.ask c.M c.U W.ts o i m).1) H'
abbrev s_law_asked : Stmt := top 48
abbrev N_law_asked : List Str := ["_law_modes", "_law_world_here", "_law_owner", "_law_item", "_law_mode", "_law_held", "_law_kind", "_law_more", "_law_lines"]
abbrev P_law_asked : List Str := ["_law_modes", "_law_world_here", "_law_owner", "_law_item", "_law_mode"]
theorem sc_law_asked : FnScope N_law_asked P_law_asked (defScope s_law_asked) := ⟨rfl, rfl, rfl, by decide +kernel, rfl, by decide +kernel, by decide +kernel⟩
theorem ok_law_asked {b : Bs} {c : Tc} (R : Raw b "_law_asked" "_law_asked" s_law_asked P_law_asked) (T : Tops b) (D_law_join : Df b 1 "_law_join" P_law_join (spLJoin b.K)) (D_law_lets : Df b 1 "_law_lets" P_law_lets (spWLets b c)) (D_law_given : Df b 1 "_law_given" P_law_given (spWGiven b c)) :
    Df b 2 "_law_asked" P_law_asked (spWAsked b c) := by
  refine R.ok sc_law_asked (fun vs H Q E h => ?_) fun f cdv A outer s H vs Q E hr h => ?_
  · obtain ⟨ad, W, o, i, m, rfl, _⟩ := h
    rfl
  · obtain ⟨ad, W, o, i, m, rfl, A0, O0, F, hi, ho, hm, ha, k⟩ := h
    let kof := c.kof
    refine ⟨_, (pss_cons (ps_set (i := 5) sc_law_asked.nd rfl (Or.inl rfl) (pe_dget1 (hu_of hr) (pe_mget2 (kof := kof) (hu9 hr) (pe_dget (hu_of hr) (pv 1) pe_str (fun _ _ => rfl)) (pv 3) pe_dnewK ⟨rfl, rfl, rfl, rfl⟩) (pv 2) ⟨rfl, rfl, rfl, rfl⟩))
      (pss_cons (ps_par (i := 7) (j := 8) rfl sc_law_asked.nd rfl rfl (by decide) rfl rfl (pa_cons (pe_df D_law_join (hr.mono (by decide)) (pa_cons (pv 0) (pa_cons (pv 5) (pa_cons (pv 4) pa_nil)))) (pa_cons (pe_op op_cat (pe_mget2 (kof := kof) (hu9 hr) (pe_dget (hu_of hr) (pv 1) pe_str (fun _ _ => rfl)) (pv 3) (pe_lst pa_nil) ⟨rfl, rfl, rfl, rfl⟩) (pe_mget2 (kof := kof) (hu9 hr) (pe_dget (hu_of hr) (pv 1) pe_str (fun _ _ => rfl)) (pv 3) (pe_lst pa_nil) ⟨rfl, rfl, rfl, rfl⟩)) pa_nil)) (by rfl))
      (pss_cons (ps_if (PW.pt (pw_or (pt_cmpR op_eq (pv 7) (pv 5) (nomark _)) (pw_or1 (PW.pt (pw_and (pt_val (pe_df D_law_lets (hr.mono (by decide)) (pa_cons (pv 0) (pa_cons (pv 1) (pa_cons (pv 2) (pa_cons (pv 3) (pa_cons (pv 7) pa_nil))))))) (pw_and1 (PW.pt (pw_or (pt_cmpR op_notN (pv 5) pe_non (nomark _)) (pw_or1 (pt_cmpR (op_eqD hr.units) (pv 8) (pe_lst pa_nil) (nomark _))))))))))) (pss_cons (ps_expr (pe_df D_law_given (hr.mono (by decide)) (pa_cons (pv 1) (pa_cons (pv 2) (pa_cons (pv 3) (pa_cons (pv 7) pa_nil))))))
      (pss_one (ps_ret pe_bl))) pss_nil)
      (pss_cons (ps_dput (hu_of hr) (pe_dget (hu_of hr) (pv 1) pe_str (fun _ _ => rfl)) (pv 2) (pe_tup (pa_cons (pv 3) (pa_cons (pv 7) pa_nil))) rfl)
      (pss_cons (ps_set (i := 6) sc_law_asked.nd rfl (Or.inl rfl) (pe_ifExp (pt_cmpR op_isN (pv 5) pe_non (nomark _)) pe_str pe_str))
      (pss_cons (ps_mput (kof := kof) (hu9 hr) (pe_dget (hu_of hr) (pv 1) (pv 6) (fun _ _ => rfl)) (pv 3) (pe_op op_cat (pe_mget2 (kof := kof) (hu9 hr) (pe_dget (hu_of hr) (pv 1) (pv 6) (fun _ _ => rfl)) (pv 3) (pe_lst pa_nil) ⟨rfl, rfl, rfl, rfl⟩) (pe_lst (pa_cons (pv 2) pa_nil))) rfl)
      (pss_one (ps_ret pe_bl)))))))), ?_⟩
    have hin := wwf_hin F A0.ok i
    have hh : ∀ x, W.ts.held i o = some x → x ∈ c.d.names := fun x hx => (F.heldIn i o x hx).2.2
    refine ⟨_, rfl, _, _, rfl, wd_held A0, ⟨_, _, c.J, rfl, wm_held A0 O0⟩, _, rfl, fun p hp => ?_⟩
    have sp := same_new' (o := .dK []) hp
    refine ⟨_, _, c.J, rfl, wm_held (A0.same sp) (O0.mono (Same.tups sp)), hi, ?_⟩
    obtain ⟨L, eL, hL⟩ := whd_get (i := i) A0 hp
    rw [eL]
    have A1 := A0.same sp
    have O1 := O0.mono (Same.tups sp)
    generalize upd H p (.dK []) = H1 at sp hL A1 O1 ⊢
    refine ⟨L, rfl, .inl ⟨_, .inl hL⟩, _, rfl, _, .inl ⟨_, Sum.inl o, .inl hL, rfl, rfl⟩, ?_⟩
    have eh : (valV ((W.hm i).map (ent V.str)) (Sum.inl o)).getD .non = vO (W.ts.held i o) := by
      rw [valV_k]
      show (((W.hm i).lookup o).map V.str).getD .non = vO ((W.hm i).lookup o)
      cases (W.hm i).lookup o <;> rfl
    rw [eh]
    refine ⟨_, rfl, _, rfl, _, rfl, c.mo, c.d, W.ts.held i o, m, rfl, O1.ms, O1.ck, hh, hm, fun H2 s2 => ?_⟩
    have A2 := A1.same s2
    have O2 := O1.mono (Same.tups s2)
    have hj := jn_in O2 hh hm
    refine ⟨_, rfl, _, _, rfl, wd_conv A2, ⟨_, _, c.J, rfl, wm_conv A2 O2⟩, _, rfl, Nat.zero_le _, fun p1 hp1 => ?_⟩
    have sp1 := same_new' (o := .lst []) hp1
    obtain ⟨L1, e1, h1⟩ := wconv_get (i := i) A2 hp1
    have A3 := A2.same sp1
    have O3 := O2.mono (Same.tups sp1)
    refine ⟨_, _, c.J, rfl, wm_conv A3 O3, hi, ?_⟩
    rw [e1]
    have st3 := Same.trans sp (Same.trans s2 sp1)
    generalize upd H2 p1 (.lst []) = H3 at st3 h1 A3 O3 ⊢
    refine ⟨_, rfl, _, _, rfl, wd_queue A3, ⟨_, _, c.J, rfl, wm_queue A3 O3⟩, _, rfl, Nat.zero_le _, fun p2 hp2 => ?_⟩
    have sp2 := same_new' (o := .lst []) hp2
    obtain ⟨L2', e2, h2⟩ := wqueue_get (i := i) A3 hp2
    have A4 := A3.same sp2
    have O4 := O3.mono (Same.tups sp2)
    refine ⟨_, _, c.J, rfl, wm_queue A4 O4, hi, ?_⟩
    rw [e2]
    have st4 := Same.trans st3 sp2
    have h1 := sp2 _ _ h1
    generalize upd H3 p2 (.lst []) = H4 at st4 h1 h2 A4 O4 ⊢
    have cl := wf_q (F.convNd i) (wwf_cv F i) O0.ul
    have ql := wf_q (F.queueNd i) (wwf_qu F i) O0.ul
    have cl : (W.cm i).length ≤ 20 := cl
    have ql : (W.qm i).length ≤ 20 := ql
    refine ⟨L1, L2', _, _, rfl, rfl, h1, h2, by rw [List.length_map, List.length_map, sizeLine_eq]; omega, fun q hq => ?_⟩
    have s5 := same_new' (o := .lst ((W.cm i).map V.int ++ (W.qm i).map V.int)) hq
    have A5 := A4.same s5
    have O5 := O4.mono (Same.tups s5)
    have st5 := Same.trans st4 s5
    have hq5 : (upd H4 q (.lst ((W.cm i).map V.int ++ (W.qm i).map V.int))) q = some (.lst ((W.cm i ++ W.qm i).map V.int)) := by rw [upd_same, List.map_append]
    refine ⟨_, _, rfl, ?_⟩
    show (_ : L2.St → Hp → Prop) _ (upd H4 q (.lst ((W.cm i).map V.int ++ (W.qm i).map V.int)))
    generalize upd H4 q (.lst ((W.cm i).map V.int ++ (W.qm i).map V.int)) = H5 at A5 O5 st5 hq5 ⊢
    dsimp only [gName]
    refine seq_if (fun cc H6 => Same H H6 ∧ cc = LT.grants c.M c.U W.ts o i m) (fun N hN => ?_) (fun H6 h6 => ?_) (fun H6 h6 => ?_)
    · rw [wgrants_eq] at hN
      have e0 : decide (V.str (c.d.jn (W.ts.held i o) m) = vO (W.ts.held i o)) = decide (some (c.d.jn (W.ts.held i o) m) = W.ts.held i o) := by
        cases W.ts.held i o with
        | none => rfl
        | some x => exact decide_eq_decide.mpr ⟨fun z => by injection z with z; rw [z], fun z => by injection z with z; rw [z]⟩
      have sc : scal (V.str (c.d.jn (W.ts.held i o) m)) (vO (W.ts.held i o)) = true := by
        cases W.ts.held i o <;> rfl
      refine ⟨_, rfl, _, rfl, sc, _, rfl, ?_⟩
      rw [e0]
      by_cases h1 : some (c.d.jn (W.ts.held i o) m) = W.ts.held i o
      · rw [decide_eq_true h1] at hN ⊢
        exact iteT (hN true H5 ⟨st5, rfl⟩)
      rw [decide_eq_false h1, Bool.false_or] at hN
      rw [decide_eq_false h1]
      refine iteF ⟨_, rfl, _, rfl, _, rfl, _, rfl, _, rfl, ad, W, o, i, _, rfl, A5, O5, F, hi, hj, fun H6 s6 => ?_⟩
      refine ⟨_, rfl, ?_⟩
      cases h2 : LT.lets c.M c.U W.ts o i (c.d.jn (W.ts.held i o) m) with
      | false =>
        rw [h2, Bool.false_and] at hN
        exact iteF (hN false H6 ⟨Same.trans st5 s6, rfl⟩)
      | true =>
      rw [h2, Bool.true_and] at hN
      refine iteT ⟨_, rfl, rfl, _, rfl, ?_⟩
      have e1 : (!decide (vO (W.ts.held i o) = V.non)) = decide (W.ts.held i o ≠ none) := by
        cases W.ts.held i o with
        | none => rfl
        | some x => rfl
      rw [e1]
      by_cases h3 : W.ts.held i o ≠ none
      · rw [decide_eq_true h3] at hN ⊢
        exact iteT (hN true H6 ⟨Same.trans st5 s6, rfl⟩)
      rw [decide_eq_false h3, Bool.false_or] at hN
      rw [decide_eq_false h3]
      refine iteF ⟨_, rfl, Nat.zero_le _, fun r hr2 => ?_⟩
      have s7 := same_new' (o := .lst []) hr2
      refine ⟨.list ((W.cm i ++ W.qm i).map PyData.int), .list [], .lst (.inl (.inl (s7 _ _ (s6 _ _ hq5)))) (dp_ints _), .lst (.inl (.inl upd_same)) .nil, (Sh.lst (sh_ints _)).ok (by omega), sh_nil, _, rfl, ?_⟩
      rw [eqv_nil]
      have e2 : decide ((W.cm i ++ W.qm i).map PyData.int = []) = decide (W.cm i ++ W.qm i = []) := decide_eq_decide.mpr List.map_eq_nil_iff
      rw [e2]
      exact hN _ _ ⟨Same.trans st5 (Same.trans s6 s7), rfl⟩
    · obtain ⟨s6, e6⟩ := h6
      have A6 := A0.same s6
      have O6 := O0.mono (Same.tups s6)
      refine ⟨_, rfl, _, rfl, _, rfl, _, rfl, ad, W, o, i, _, rfl, A6, O6, hi, ho, fun e he => (hin e he).1, wwf_got F o, F.gotNd o, fun H7 ad7 W7 g7 h7 => ?_⟩
      have e : LT.ask c.M c.U W.ts o i m = (true, LT.give W.ts o i (c.d.jn (W.ts.held i o) m)) := if_pos e6.symm
      have z := k _ _ _ ((WGo.same A0 s6).trans g7) (by rw [h7, e])
      rw [e] at z
      exact z
    · obtain ⟨s6, e6⟩ := h6
      have e : LT.ask c.M c.U W.ts o i m = (false, LT.await c.M W.ts o i m) := if_neg (by rw [← e6]; exact Bool.false_ne_true)
      refine ⟨_, rfl, _, rfl, two_le, fun t ht => ?_⟩
      have s7 := same_new' (o := .tup [i, .str (c.d.jn (W.ts.held i o) m)]) ht
      have g7 := (WGo.same A0 s6).then_ s7
      have t7 : (upd H6 t (.tup [i, .str (c.d.jn (W.ts.held i o) m)])) t = some (.tup [i, .str (c.d.jn (W.ts.held i o) m)]) := upd_same
      show ∃ x, _
      generalize upd H6 t (.tup [i, .str (c.d.jn (W.ts.held i o) m)]) = H7 at g7 t7 ⊢
      have A7 := g7.at_
      have len := wal_len F A0.ok O0.ul
      refine ⟨_, rfl, _, _, rfl, wd_asks A7, _, rfl, _, _, rfl, DPut.k (k := Sum.inl o) (A7.at_ .asks True.intro) (by rw [List.length_map, sizeLine_eq]; omega), ?_⟩
      rw [show putK (W.al.map (ent fun e => V.ref e.1)) (Sum.inl o) (V.ref t) = (putA W.al o (t, i, c.d.jn (W.ts.held i o) m)).map (ent fun e => V.ref e.1) from putA_k (f := fun e : Addr × V × Str => V.ref e.1) (a := (t, i, c.d.jn (W.ts.held i o) m))]
      have g8 := g7.al (l := putA W.al o (t, i, c.d.jn (W.ts.held i o) m)) (keys_putA A0.ok.aln) fun e he => (mem_putA he).elim (fun z => by rw [z]; exact t7) (A7.ask e)
      generalize upd H7 (ad .asks) (.dK ((putA W.al o (t, i, c.d.jn (W.ts.held i o) m)).map (ent fun e => V.ref e.1))) = H8 at g8 ⊢
      have A8 := g8.at_
      have O8 := O0.mono (WGo.tups A0 g8)
      have e2 := putA_asks W.al o (t, i, c.d.jn (W.ts.held i o) m)
      generalize hW8 : W.sAl (putA W.al o (t, i, c.d.jn (W.ts.held i o) m)) = W8 at g8 A8
      refine ⟨_, rfl, rfl, _, rfl, ?_⟩
      cases hh2 : W.ts.held i o with
      | none =>
        refine iteT ?_
        subst hW8

        refine ⟨_, rfl, _, rfl, _, _, rfl, wd_queue A8, ⟨_, _, c.J, rfl, wm_queue A8 O8⟩, _, rfl, Nat.zero_le _, fun p3 hp3 => ?_⟩
        have sp3 := same_new' (o := .lst []) hp3
        obtain ⟨L3, e3, h3⟩ := wqueue_get (i := i) A8 hp3
        have A9 := A8.same sp3
        have O9 := O8.mono (Same.tups sp3)
        refine ⟨_, _, c.J, rfl, wm_queue A9 O9, hi, ?_⟩
        rw [e3]
        have g9 := g8.then_ sp3
        have h3 : (upd H8 p3 (.lst [])) L3 = some (.lst ((W.qm i).map V.int)) := h3
        generalize upd H8 p3 (.lst []) = H9 at g9 h3 A9 O9 ⊢
        refine ⟨_, rfl, sz100 (by simp), fun q2 hq2 => ?_⟩
        have sq2 := same_new' (o := .lst [.int o]) hq2
        refine ⟨L3, q2, _, _, rfl, rfl, sq2 _ _ h3, upd_same, by rw [sizeLine_eq, List.length_map]; simp only [List.length_cons, List.length_nil]; omega, fun r hr2 => ?_⟩
        have e9 : (W.qm i).map V.int ++ [.int o] = (W.qm i ++ [o]).map V.int := by rw [List.map_append]; rfl
        rw [e9]
        have sr := same_new' (o := .lst ((W.qm i ++ [o]).map V.int)) hr2
        have ga := g9.then_ (Same.trans sq2 sr)
        have Aa := ga.at_
        have Oa := O9.mono (Same.tups (Same.trans sq2 sr))
        have nr : H r = none := g9.none_ (none_same sq2 hr2)
        have xa : WOff (upd (upd H9 q2 (.lst [.int o])) r (.lst ((W.qm i ++ [o]).map V.int))) ad (W.sAl (putA W.al o (t, i, c.d.jn (W.ts.held i o) m))) r (.lst ((W.qm i ++ [o]).map V.int)) := ⟨upd_same, woff_new (g9.then_ sq2).at_ hr2⟩
        refine ⟨_, rfl, _, rfl, _, _, rfl, wd_queue Aa, _, rfl, _, _, rfl, ⟨_, c.J, Aa.at_ .queue True.intro, Oa.it, (wm_queue Aa Oa).sub, hi, wi_len Aa.ok.qn Aa.ok.qJ Oa, rfl⟩, ?_⟩
        have z := k _ _ _ (ga.qu hi nr xa) ?_
        · rw [e] at z
          exact z
        · rw [e]
          show LT.TS.mk _ _ _ (fun q => ((putA W.al o (t, i, c.d.jn (W.ts.held i o) m)).lookup q).map (·.2)) _ = LT.await c.M W.ts o i m
          rw [e2]
          unfold LT.await
          rw [if_pos hh2, if_pos hh2]
          rfl

      | some x =>
        refine iteF ?_
        subst hW8

        refine ⟨_, rfl, _, rfl, _, _, rfl, wd_conv A8, ⟨_, _, c.J, rfl, wm_conv A8 O8⟩, _, rfl, Nat.zero_le _, fun p3 hp3 => ?_⟩
        have sp3 := same_new' (o := .lst []) hp3
        obtain ⟨L3, e3, h3⟩ := wconv_get (i := i) A8 hp3
        have A9 := A8.same sp3
        have O9 := O8.mono (Same.tups sp3)
        refine ⟨_, _, c.J, rfl, wm_conv A9 O9, hi, ?_⟩
        rw [e3]
        have g9 := g8.then_ sp3
        have h3 : (upd H8 p3 (.lst [])) L3 = some (.lst ((W.cm i).map V.int)) := h3
        generalize upd H8 p3 (.lst []) = H9 at g9 h3 A9 O9 ⊢
        refine ⟨_, rfl, sz100 (by simp), fun q2 hq2 => ?_⟩
        have sq2 := same_new' (o := .lst [.int o]) hq2
        refine ⟨L3, q2, _, _, rfl, rfl, sq2 _ _ h3, upd_same, by rw [sizeLine_eq, List.length_map]; simp only [List.length_cons, List.length_nil]; omega, fun r hr2 => ?_⟩
        have e9 : (W.cm i).map V.int ++ [.int o] = (W.cm i ++ [o]).map V.int := by rw [List.map_append]; rfl
        rw [e9]
        have sr := same_new' (o := .lst ((W.cm i ++ [o]).map V.int)) hr2
        have ga := g9.then_ (Same.trans sq2 sr)
        have Aa := ga.at_
        have Oa := O9.mono (Same.tups (Same.trans sq2 sr))
        have nr : H r = none := g9.none_ (none_same sq2 hr2)
        have xa : WOff (upd (upd H9 q2 (.lst [.int o])) r (.lst ((W.cm i ++ [o]).map V.int))) ad (W.sAl (putA W.al o (t, i, c.d.jn (W.ts.held i o) m))) r (.lst ((W.cm i ++ [o]).map V.int)) := ⟨upd_same, woff_new (g9.then_ sq2).at_ hr2⟩
        refine ⟨_, rfl, _, rfl, _, _, rfl, wd_conv Aa, _, rfl, _, _, rfl, ⟨_, c.J, Aa.at_ .conv True.intro, Oa.it, (wm_conv Aa Oa).sub, hi, wi_len Aa.ok.cn Aa.ok.cJ Oa, rfl⟩, ?_⟩
        have z := k _ _ _ (ga.cv hi nr xa) ?_
        · rw [e] at z
          exact z
        · rw [e]
          show LT.TS.mk _ _ _ (fun q => ((putA W.al o (t, i, c.d.jn (W.ts.held i o) m)).lookup q).map (·.2)) _ = LT.await c.M W.ts o i m
          rw [e2]
          unfold LT.await
          rw [if_neg (by rw [hh2]; simp), if_neg (by rw [hh2]; simp)]
          rfl

end Lk
end
section
set_option maxRecDepth 100000
set_option maxHeartbeats 1000000
/-! The law's served. -/
namespace Lk
open PySem L2
open Mx (pe_msetd pe_mget pe_mget2 ps_mput pe_mnew pe_mayLock ps_mayLock pi_itemsN pi_itemsM fresh_dK fresh_mix)

theorem erase_filter {l : List Int} (h : l.Nodup) (o : Int) : l.filter (fun x => !decide (x = o)) = l.erase o := by
  induction l with
  | nil => rfl
  | cons x l ih =>
    obtain ⟨h1, h2⟩ := List.nodup_cons.mp h
    by_cases e : x = o
    · subst e
      rw [List.filter_cons_of_neg (by simp), List.erase_cons_head, List.filter_eq_self]
      intro y hy
      have : y ≠ x := fun e => h1 (e ▸ hy)
      simp [this]
    · rw [List.filter_cons_of_pos (by simp [e]), List.erase_cons_tail (by simpa using e), ih h2]
abbrev spWServed (b : Bs) (c : Tc) : Sp := fun vs H Q _ => ∃ (ad : WAd) (W : Wt) (i : V), vs = [.ref c.mo, .ref (ad .wd), i] ∧ WAt b.w c H ad W ∧ c.Ok b.K H ∧ WWf c W ∧ i ∈ c.J ∧
  ∀ H' ad' W' r ys, WGo b.w c H ad W H' ad' W' → W'.ts = (LT.serve c.M c.U W.ts i).2 → H r = none → WOff H' ad' W' r (.lst ys) → Paired (FPr H') ys (LT.serve c.M c.U W.ts i).1 → Q (.ref r) H'
abbrev s_law_served : Stmt := top 49
abbrev N_law_served : List Str := ["_law_modes", "_law_world_here", "_law_item", "_law_found", "_law_kind", "_law_owner", "_law_is_next", "_law_mode", "_law_one_here"]
abbrev P_law_served : List Str := ["_law_modes", "_law_world_here", "_law_item"]
theorem sc_law_served : FnScope N_law_served P_law_served (defScope s_law_served) := ⟨rfl, rfl, rfl, by decide +kernel, rfl, by decide +kernel, by decide +kernel⟩
/-- within served -/
structure SwI (b : Bs) (c : Tc) (H0 : Hp) (ad0 : WAd) (W0 : Wt) (r : Addr) (H : Hp) (ad : WAd) (W : Wt) (ys : List V) (ps : List (Int × V)) : Prop where
  g : WGo b.w c H0 ad0 W0 H ad W
  wf : WWf c W
  nr : H0 r = none
  fnd : WOff H ad W r (.lst ys)
  prs : Paired (FPr H) ys ps
theorem ok_law_served {b : Bs} {c : Tc} (R : Raw b "_law_served" "_law_served" s_law_served P_law_served) (T : Tops b) (D_law_lets : Df b 1 "_law_lets" P_law_lets (spWLets b c)) (D_law_given : Df b 1 "_law_given" P_law_given (spWGiven b c)) :
    Df b 2 "_law_served" P_law_served (spWServed b c) := by
  refine R.ok sc_law_served (fun vs H Q E h => ?_) fun f cdv A outer s H vs Q E hr h => ?_
  · obtain ⟨ad, W, i, rfl, _⟩ := h
    rfl
  · obtain ⟨ad, W, i, rfl, A0, O0, F, hi, k⟩ := h
    let kof := c.kof
    refine ⟨_, (pss_cons (ps_set (i := 3) sc_law_served.nd rfl (Or.inl rfl) (pe_lst pa_nil))
      (pss_cons (ps_for PassesOwn.never rfl (pi_tup (pe_tup (pa_cons pe_str (pa_cons pe_str pa_nil)))) (pg_name (i := 4) sc_law_served.nd rfl (Or.inl rfl))
      (pss_one (ps_for PassesOwn.never rfl (pi_list (pe_callTy call_list_of (by rfl) T.b_list (by decide +kernel) (pa_cons (pe_mget2 (kof := kof) (hu9 hr) (pe_dget (hu_of hr) (pv 1) (pv 4) (fun _ _ => rfl)) (pv 2) (pe_lst pa_nil) ⟨rfl, rfl, rfl, rfl⟩) pa_nil))) (pg_name (i := 5) sc_law_served.nd rfl (Or.inr rfl))
      (pss_cons (ps_set (i := 6) sc_law_served.nd rfl (Or.inl rfl) (pe_or (pe_cmpR op_eq (pv 4) pe_str (nomark _)) (pe_one (pe_and (pe_cmpR (op_eqD hr.units) (pe_mget2 (kof := kof) (hu9 hr) (pe_dget (hu_of hr) (pv 1) pe_str (fun _ _ => rfl)) (pv 2) (pe_lst pa_nil) ⟨rfl, rfl, rfl, rfl⟩) (pe_lst pa_nil) (nomark _)) (pe_one (pe_cmpR op_eq (pe_ix ix_list (pe_mget (kof := kof) (hu9 hr) (pe_dget (hu_of hr) (pv 1) pe_str (fun _ _ => rfl)) (pv 2) (fun _ _ => rfl)) pe_int (fun _ _ => rfl)) (pv 5) (nomark _)))))))
      (pss_cons (ps_set (i := 7) sc_law_served.nd rfl (Or.inl rfl) (pe_ix ix_tup (pe_dget (hu_of hr) (pe_dget (hu_of hr) (pv 1) pe_str (fun _ _ => rfl)) (pv 5) (fun _ _ => rfl)) pe_int (fun _ _ => rfl)))
      (pss_one (ps_if (PW.pt (pw_and (pt_val (pv 6)) (pw_and1 (pt_val (pe_df D_law_lets (hr.mono (by decide)) (pa_cons (pv 0) (pa_cons (pv 1) (pa_cons (pv 5) (pa_cons (pv 2) (pa_cons (pv 7) pa_nil)))))))))) (pss_cons (ps_mput (kof := kof) (hu9 hr) (pe_dget (hu_of hr) (pv 1) (pv 4) (fun _ _ => rfl)) (pv 2) (pe_lcB (own := [("_law_one_here", 8)]) rfl sc_law_served.nd (pi_list (pe_mget (kof := kof) (hu9 hr) (pe_dget (hu_of hr) (pv 1) (pv 4) (fun _ _ => rfl)) (pv 2) (fun _ _ => rfl))) (blkOk_by (own := [("_law_one_here", 8)]) (N := N_law_served) (sc := defScope s_law_served) (by decide +kernel)) (fun _ _ _ _ _ => (pg_name (i := 8) sc_law_served.nd rfl (Or.inl rfl))) (fun _ _ _ _ _ => (pts_one (pt_cmpR op_ne (pv 8) (pv 5) (nomark _)))) (fun _ _ _ _ _ => (pv 8))) rfl)
      (pss_cons (ps_expr (pe_df D_law_given (hr.mono (by decide)) (pa_cons (pv 1) (pa_cons (pv 5) (pa_cons (pv 2) (pa_cons (pv 7) pa_nil))))))
      (pss_one (ps_expr (pe_bm PySem.F.plainAttrs_list PySem.F.slot_list_append PySem.F.type_list_append mt_append (pv 3) (pa_cons (pe_tup (pa_cons (pv 5) (pa_cons (pv 2) pa_nil))) pa_nil)))))) pss_nil)))))))
      (pss_one (ps_ret (pv 3))))), ?_⟩
    refine ⟨Nat.zero_le _, fun r hr0 => ?_⟩
    have nr : H r = none := hr0
    have I0 : SwI b c H ad W r (upd H r (.lst [])) ad W [] [] := ⟨(WGo.refl A0).then_ (same_new' hr0), F, hr0, WOff.new A0 hr0, .nil⟩
    dsimp only [gName]
    show tSeq _ _ _ _ (upd H r (.lst []))
    generalize upd H r (.lst []) = H1 at I0 ⊢
    refine ⟨two_le, fun kt hkt => ?_⟩
    have sk := same_new' (o := .tup [.str "conv", .str "queue"]) hkt
    have I1 : SwI b c H ad W r (upd H1 kt (.tup [.str "conv", .str "queue"])) ad W [] [] := ⟨I0.g.then_ sk, F, nr, I0.fnd.same sk, .nil⟩
    have tk : (upd H1 kt (.tup [.str "conv", .str "queue"])) kt = some (.tup [.str "conv", .str "queue"]) := upd_same
    generalize upd H1 kt (.tup [.str "conv", .str "queue"]) = H2 at I1 tk ⊢
    refine ⟨_, rfl, ⟨_, .inl (.inl tk)⟩, ?_⟩
    refine for_it (walk_tup (xs := [V.str "conv", V.str "queue"])) (fun j σ Hj => ∃ x4 x5 x6 x7 adj Wj ys ps, σ = [some (.ref c.mo), some (.ref (ad .wd)), some i, some (.ref r), x4, x5, x6, x7, none] ∧ SwI b c H ad W r Hj adj Wj ys ps ∧ Hj kt = some (.tup [.str "conv", .str "queue"]) ∧ ps.length ≤ 20 * j ∧
      (j = 0 → Wj.ts = W.ts ∧ ps = []) ∧ (j = 1 → LT.serveC c.M c.U i (W.cm i) W.ts = (ps, Wj.ts)) ∧ (2 ≤ j → LT.serve c.M c.U W.ts i = (ps, Wj.ts))) ?_ (fun j σ Hj hj p => ?_) (fun j y σ Hx0 Hx hj p hy => ?_) fun σ Hj p => ?_
    · exact ⟨none, none, none, none, ad, W, [], [], rfl, I1, tk, Nat.le_refl _, fun _ => ⟨rfl, rfl⟩, fun h => by omega, fun h => by omega⟩
    · obtain ⟨_, _, _, _, _, _, _, _, _, _, tk, _⟩ := p
      exact .inl (.inl tk)
    rotate_left
    · obtain ⟨_, _, _, _, adj, Wj, ys, ps, rfl, Ij, _, _, _, _, e⟩ := p
      have e := e (Nat.le_refl _)
      exact ⟨_, rfl, k _ _ _ _ _ Ij.g (by rw [e]) nr Ij.fnd (by rw [e]; exact Ij.prs)⟩
    obtain ⟨x4, x5, x6, x7, adx, Wx, yx, px, rfl, Ix, tkx, lx, z0, z1, z2⟩ := p
    obtain ⟨rfl, hy⟩ := hy
    have Ax := Ix.g.at_
    have Ox := O0.mono (WGo.tups A0 Ix.g)
    have wx : adx .wd = ad .wd := Ix.g.wd
    dsimp only [gName]
    match j, hj with
    | 0, hj =>
      cases hy
      obtain ⟨ex, rfl⟩ := z0 rfl

      refine ⟨_, rfl, _, rfl, _, _, rfl, (wx ▸ wd_conv Ax), ⟨_, _, c.J, rfl, wm_conv Ax Ox⟩, _, rfl, Nat.zero_le _, fun p1 hp1 => ?_⟩
      have sp1 := same_new' (o := .lst []) hp1
      obtain ⟨L1, e1, h1⟩ := wconv_get (i := i) Ax hp1
      have e1 : (valV (Wx.ci.map fun k => (k, V.ref (adx (.cv k)))) i).getD (.ref p1) = .ref L1 := e1
      refine ⟨_, _, c.J, rfl, wm_conv (Ax.same sp1) (Ox.mono (Same.tups sp1)), hi, ?_⟩
      rw [e1]
      refine ⟨_, _, rfl, .inl (.inl (.inl h1)), fun L hL => ?_⟩
      have sL := same_new' (o := .lst ((Wx.cm i).map V.int)) hL
      have gL := Ix.g.then_ (Same.trans sp1 sL)
      have fL := Ix.fnd.same (Same.trans sp1 sL)
      have prL := FPrs.mono (Same.tups (Same.trans sp1 sL)) Ix.prs
      have tkL := sL _ _ (sp1 _ _ tkx)
      have oL : WOff (upd (upd Hx p1 (.lst [])) L (.lst ((Wx.cm i).map V.int))) adx Wx L (.lst ((Wx.cm i).map V.int)) := ⟨upd_same, woff_new (Ix.g.then_ sp1).at_ hL⟩
      have rL : r ≠ L := ne_of_none (Ix.fnd.same sp1).at_ hL
      refine ⟨_, rfl, ⟨_, .inl (.inl upd_same)⟩, ?_⟩
      show ∃ W : Nat → Nat → St → Hp → Prop, (∃ m, W 0 m _ (upd (upd Hx p1 (.lst [])) L (.lst ((Wx.cm i).map V.int)))) ∧ _
      generalize upd (upd Hx p1 (.lst [])) L (.lst ((Wx.cm i).map V.int)) = HL at gL fL prL tkL oL ⊢
      have ln : (Wx.cm i).length ≤ 20 := wf_q (Ix.wf.convNd i) (wwf_cv Ix.wf i) O0.ul
      have ecm : Wx.cm = W.cm := congrArg LT.TS.conv ex
      refine for_it (walk_list (xs := (Wx.cm i).map V.int)) (fun n σ Hn => ∃ x5 x6 x7 adj Wj ys ps, σ = [some (.ref c.mo), some (.ref (ad .wd)), some i, some (.ref r), some (.str "conv"), x5, x6, x7, none] ∧ SwI b c H ad W r Hn adj Wj ys ps ∧ WOff Hn adj Wj L (.lst ((Wx.cm i).map V.int)) ∧ Hn kt = some (.tup [.str "conv", .str "queue"]) ∧
        (∀ o ∈ (Wx.cm i).drop n, o ∈ Wj.cm i) ∧ ps.length ≤ n ∧
        LT.serveC c.M c.U i (Wx.cm i) W.ts = (ps ++ (LT.serveC c.M c.U i ((Wx.cm i).drop n) Wj.ts).1, (LT.serveC c.M c.U i ((Wx.cm i).drop n) Wj.ts).2)) ?_ (fun n σ Hn hn p => ?_) (fun n y σ Hn0 Hn hn p hy => ?_) fun σ Hn p => ?_
      · exact ⟨x5, x6, x7, adx, Wx, yx, [], rfl, ⟨gL, Ix.wf, nr, fL, prL⟩, oL, tkL, fun o ho => ho, Nat.zero_le _, by rw [ex]; rfl⟩
      · obtain ⟨_, _, _, _, _, _, _, _, _, q, _⟩ := p
        exact .inl (.inl q.at_)
      rotate_left
      · obtain ⟨x5, x6, x7, adj, Wj, ys, ps, rfl, Ij, oj, tkj, hin, pl, eq⟩ := p
        have dn : (Wx.cm i).drop ((Wx.cm i).map V.int).length = [] := by rw [List.length_map, List.drop_length]
        rw [dn] at eq
        have eq : LT.serveC c.M c.U i (Wx.cm i) W.ts = (ps, Wj.ts) := by rw [eq]; show (ps ++ [], Wj.ts) = _; rw [List.append_nil]
        rw [List.length_map] at pl
        exact ⟨_, x5, x6, x7, adj, Wj, ys, ps, rfl, Ij, tkj, by omega, fun h => by omega, fun _ => by rw [← ecm]; exact eq, fun h => by omega⟩
      obtain ⟨x5, x6, x7, adj, Wj, ys, ps, rfl, Ij, oj, tkj, hin, pl, eq⟩ := p
      obtain ⟨rfl, hy⟩ := hy
      rw [List.getElem?_map] at hy
      cases hx : (Wx.cm i)[n]? with
      | none => rw [hx] at hy; cases hy
      | some o =>
      rw [hx] at hy
      cases hy
      have Aj := Ij.g.at_
      have Oj := O0.mono (WGo.tups A0 Ij.g)
      have wj : adj .wd = ad .wd := Ij.g.wd
      have hd : (Wx.cm i).drop n = o :: (Wx.cm i).drop (n + 1) := by rw [List.drop_eq_getElem?_toList_append, hx]; rfl
      have ho : o ∈ Wj.cm i := hin o (by rw [hd]; exact .head _)
      obtain ⟨⟨m, hm⟩, _⟩ := Ij.wf.convAsk o i ho
      have hmB := (Ij.wf.asksIn o i m hm).1
      have hoU := (Ij.wf.asksU o i m hm).1
      obtain ⟨p, hp⟩ := wasks_al hm
      have tp := wask_tup Aj hp
      have pb : ps.length < 100 := by rw [List.length_map] at hn; omega
      refine ⟨_, rfl, rfl, true, rfl, iteT ?_⟩
      refine ⟨_, rfl, _, _, rfl, (wj ▸ wd_asks Aj), _, rfl, _, _, rfl, wdget_asks Aj hp, p, _, 1, _, rfl, rfl, .inl (.inl tp), rfl, ?_⟩
      refine ⟨_, rfl, _, rfl, iteT ?_⟩
      refine ⟨_, rfl, _, rfl, _, rfl, _, rfl, _, rfl, adj, Wj, o, i, m, by rw [wj]; rfl, Aj, Oj, Ij.wf, hi, hmB, fun Hi si => ?_⟩
      have gi := Ij.g.then_ si
      have fi := Ij.fnd.same si
      have li := oj.same si
      have pi := FPrs.mono (Same.tups si) Ij.prs
      have Ai := gi.at_
      have Oi := O0.mono (WGo.tups A0 gi)
      refine ⟨_, rfl, ?_⟩
      cases hl : LT.lets c.M c.U Wj.ts o i m with
      | false =>
        refine iteF ⟨_, _, _, adj, Wj, ys, ps, rfl, ⟨gi, Ij.wf, nr, fi, pi⟩, li, si _ _ tkj, fun q hq => hin q (by rw [hd]; exact .tail _ hq), Nat.le_succ_of_le pl, ?_⟩
        rw [eq, hd, serveC_no hm hl]
      | true =>

        have hii : i ∈ Wj.ci := Classical.byContradiction fun z => by rw [Ai.ok.c0 i z] at ho; cases ho
        have wi : adj .wd = ad .wd := gi.wd
        have ak0 := wd_conv Ai
        rw [wi] at ak0
        refine iteT ⟨_, rfl, _, rfl, _, _, rfl, ak0, _, rfl, _, _, c.J, _, rfl, wm_conv Ai Oi, hi, by rw [valV_its, if_pos hii], _, rfl, ⟨_, .inl (.inl (Ai.at_ (.cv i) hii))⟩, fun D hD => ?_⟩
        have ww := walk_list (K := b.K) (a := adj (.cv i)) (xs := (Wj.cm i).map V.int)
        rw [List.length_map] at ww
        have wl : (Wj.cm i).length ≤ 20 := wf_q (Ij.wf.convNd i) (wwf_cv Ij.wf i) O0.ul
        refine lc_sel (xs := Wj.cm i) ww (fun x => !decide (x = o)) V.int hD (by rw [sizeLine_eq]; omega) (fun Hz sz => .inl (.inl (sz _ _ (Ai.at_ (.cv i) hii)))) (fun k2 e x Hz Hz' Q' N' he sz hy' q1 q2 => ?_) fun Hz sz ez => ?_
        · obtain ⟨rfl, hy'⟩ := hy'
          rw [List.getElem?_map, he] at hy'
          cases hy'
          refine ⟨rfl, _, rfl, _, rfl, rfl, _, rfl, ?_⟩
          have e0 : decide (V.int e = V.int o) = decide (e = o) := decide_eq_decide.mpr ⟨fun z => by injection z, fun z => by rw [z]⟩
          rw [e0]
          cases hc : decide (e = o) with
          | true =>
            rw [hc] at q2
            exact iteF (q2 rfl _ (Same.refl _))
          | false =>
            rw [hc] at q1
            exact iteT ⟨_, rfl, q1 rfl _ (Same.refl _)⟩
        have ef : (Wj.cm i).filter (fun x => !decide (x = o)) = (Wj.cm i).erase o := erase_filter (Ij.wf.convNd i) o
        rw [ef] at ez
        have gz := gi.then_ sz
        have Az := gz.at_
        have Oz := O0.mono (WGo.tups A0 gz)
        have wz : adj .wd = ad .wd := gz.wd
        have ak := wd_conv Az
        rw [wz] at ak
        have nD : H D = none := gi.none_ hD
        refine ⟨_, rfl, _, rfl, _, _, rfl, ak, _, rfl, _, _, rfl, ⟨_, c.J, Az.at_ .conv True.intro, Oz.it, (wm_conv Az Oz).sub, hi, wi_len Az.ok.cn Az.ok.cJ Oz, rfl⟩, ?_⟩
        have g5 := (WGo.same Ai sz).cv hi hD ⟨ez, woff_new Ai hD⟩
        have f5 := fi.go g5
        have l5 := li.go g5
        have pr5 := FPrs.mono (WGo.tups Ai g5) pi
        have gg5 := gi.trans g5
        have w5 : (adj.mv (.cv i) D) .wd = ad .wd := gg5.wd
        show tSeq _ _ _ _ (upd Hz (adj .conv) (Mx.MixO b.w c.kof (adj .conv) (putK (Wj.ci.map fun k => (k, .ref (adj (.cv k)))) i (.ref D))))
        generalize upd Hz (adj .conv) (Mx.MixO b.w c.kof (adj .conv) (putK (Wj.ci.map fun k => (k, .ref (adj (.cv k)))) i (.ref D))) = H5 at g5 f5 l5 pr5 gg5 ⊢
        have A5 := gg5.at_
        have O5 := O0.mono (WGo.tups A0 gg5)
        refine ⟨_, rfl, _, rfl, _, rfl, _, rfl, adj.mv (.cv i) D, Wj.sCv i ((Wj.cm i).erase o), o, i, m, by rw [w5]; rfl, A5, O5, hi, hoU, fun e he => (wwf_hin Ij.wf Ai.ok i e he).1, wwf_got Ij.wf o, Ij.wf.gotNd o, fun H6 ad6 W6 g6 h6 => ?_⟩
        have f6 := f5.go g6
        have l6 := l5.go g6
        have pr6 := FPrs.mono (WGo.tups A5 g6) pr5
        have gg6 := gg5.trans g6
        refine ⟨_, rfl, .inl ⟨rfl, _, .inl (.inl f6.at_)⟩, _, rfl, _, rfl, two_le, fun t ht => ⟨_, ys, _, rfl, rfl, (same_new' ht) _ _ f6.at_, ?_, ?_⟩⟩
        · have := Paired.length pr6
          rw [sizeLine_eq]
          omega
        have s7 := same_new' (o := .tup [.int o, i]) ht
        have gg7 := (gg6.then_ s7).mine (o := .lst (ys ++ [.ref t])) nr (f6.same s7) lst_ne
        have f7 : WOff (upd (upd H6 t (.tup [.int o, i])) r (.lst (ys ++ [.ref t]))) ad6 W6 r (.lst (ys ++ [.ref t])) := ⟨upd_same, f6.no⟩
        have l7 := (l6.same s7).upd (r := r) (u := .lst (ys ++ [.ref t])) rL.symm
        have t7 : Tups H6 (upd (upd H6 t (.tup [.int o, i])) r (.lst (ys ++ [.ref t]))) := Tups.trans (Same.tups s7) (Tups.mut (s7 _ _ f6.at_) lst_ne)
        have pr7 : Paired (FPr (upd (upd H6 t (.tup [.int o, i])) r (.lst (ys ++ [.ref t])))) (ys ++ [.ref t]) (ps ++ [(o, i)]) := paired_snoc ⟨t, rfl, by rw [upd_ne (ne_of_none f6.at_ ht).symm, upd_same]⟩ (FPrs.mono t7 pr6)
        dsimp only
        generalize upd (upd H6 t (.tup [.int o, i])) r (.lst (ys ++ [.ref t])) = H7 at gg7 f7 l7 pr7 t7 ⊢
        have ets : (Wj.sCv i ((Wj.cm i).erase o)).ts = LT.outC Wj.ts o i := rfl
        rw [ets] at h6
        have ec : W6.cm i = (Wj.cm i).erase o := (congrArg (fun t => t.conv i) h6).trans (LT.put_at _ _ _)
        refine ⟨_, _, _, ad6, W6, ys ++ [.ref t], ps ++ [(o, i)], rfl, ⟨gg7, ?_, nr, f7, pr7⟩, l7, ?_, fun q hq => ?_, ?_, ?_⟩
        · show LT.WF c.U c.J c.B W6.ts
          rw [h6, LT.give_outC Ij.wf hm ho]
          exact Ij.wf.grant hm
        · exact t7 _ _ (WGo.tups A5 g6 _ _ (WGo.tups Ai g5 _ _ (si _ _ tkj)))
        · have nd : ((Wx.cm i).drop n).Nodup := (Ix.wf.convNd i).sublist (List.drop_sublist n _)
          rw [hd, List.nodup_cons] at nd
          rw [ec, List.mem_erase_of_ne fun e : q = o => nd.1 (e ▸ hq)]
          exact hin q (by rw [hd]; exact .tail _ hq)
        · rw [List.length_append]
          show _ + 1 ≤ _
          omega
        · rw [eq, hd, serveC_yes hm hl, h6]
          simp only [List.append_assoc, List.cons_append, List.nil_append]
    | 1, hj =>
      cases hy
      refine ⟨_, rfl, _, rfl, _, _, rfl, (wx ▸ wd_queue Ax), ⟨_, _, c.J, rfl, wm_queue Ax Ox⟩, _, rfl, Nat.zero_le _, fun p1 hp1 => ?_⟩
      have sp1 := same_new' (o := .lst []) hp1
      obtain ⟨L1, e1, h1⟩ := wqueue_get (i := i) Ax hp1
      have e1 : (valV (Wx.qi.map fun k => (k, V.ref (adx (.qu k)))) i).getD (.ref p1) = .ref L1 := e1
      refine ⟨_, _, c.J, rfl, wm_queue (Ax.same sp1) (Ox.mono (Same.tups sp1)), hi, ?_⟩
      rw [e1]
      refine ⟨_, _, rfl, .inl (.inl (.inl h1)), fun L hL => ?_⟩
      have sL := same_new' (o := .lst ((Wx.qm i).map V.int)) hL
      have gL := Ix.g.then_ (Same.trans sp1 sL)
      have fL := Ix.fnd.same (Same.trans sp1 sL)
      have prL := FPrs.mono (Same.tups (Same.trans sp1 sL)) Ix.prs
      have tkL := sL _ _ (sp1 _ _ tkx)
      have oL : WOff (upd (upd Hx p1 (.lst [])) L (.lst ((Wx.qm i).map V.int))) adx Wx L (.lst ((Wx.qm i).map V.int)) := ⟨upd_same, woff_new (Ix.g.then_ sp1).at_ hL⟩
      have rL : r ≠ L := ne_of_none (Ix.fnd.same sp1).at_ hL
      refine ⟨_, rfl, ⟨_, .inl (.inl upd_same)⟩, ?_⟩
      show ∃ W : Nat → Nat → St → Hp → Prop, (∃ m, W 0 m _ (upd (upd Hx p1 (.lst [])) L (.lst ((Wx.qm i).map V.int)))) ∧ _
      generalize upd (upd Hx p1 (.lst [])) L (.lst ((Wx.qm i).map V.int)) = HL at gL fL prL tkL oL ⊢
      have ln : (Wx.qm i).length ≤ 20 := wf_q (Ix.wf.queueNd i) (wwf_qu Ix.wf i) O0.ul
      have c1 := z1 rfl
      have lx : px.length ≤ 20 := lx
      have es : LT.serve c.M c.U W.ts i = (px ++ (LT.serveQ c.M c.U i (Wx.qm i) Wx.ts).1, (LT.serveQ c.M c.U i (Wx.qm i) Wx.ts).2) := by
        unfold LT.serve
        rw [show W.ts.conv i = W.cm i from rfl, c1]
        rfl
      refine for_it (walk_list (xs := (Wx.qm i).map V.int)) (fun n σ Hn => ∃ x5 x6 x7 adj Wj ys ps, σ = [some (.ref c.mo), some (.ref (ad .wd)), some i, some (.ref r), some (.str "queue"), x5, x6, x7, none] ∧ SwI b c H ad W r Hn adj Wj ys ps ∧ WOff Hn adj Wj L (.lst ((Wx.qm i).map V.int)) ∧ Hn kt = some (.tup [.str "conv", .str "queue"]) ∧
        (∀ o ∈ (Wx.qm i).drop n, o ∈ Wj.qm i) ∧ ps.length ≤ 20 + n ∧
        ((Wj.qm i = (Wx.qm i).drop n ∧ LT.serve c.M c.U W.ts i = (ps ++ (LT.serveQ c.M c.U i ((Wx.qm i).drop n) Wj.ts).1, (LT.serveQ c.M c.U i ((Wx.qm i).drop n) Wj.ts).2)) ∨
         ((Wj.cm i ≠ [] ∨ ∃ h l, Wj.qm i = h :: l ∧ h ∉ (Wx.qm i).drop n) ∧ LT.serve c.M c.U W.ts i = (ps, Wj.ts)))) ?_ (fun n σ Hn hn p => ?_) (fun n y σ Hn0 Hn hn p hy => ?_) fun σ Hn p => ?_
      · exact ⟨x5, x6, x7, adx, Wx, yx, px, rfl, ⟨gL, Ix.wf, nr, fL, prL⟩, oL, tkL, fun o ho => ho, lx, .inl ⟨rfl, es⟩⟩
      · obtain ⟨_, _, _, _, _, _, _, _, _, q, _⟩ := p
        exact .inl (.inl q.at_)
      rotate_left
      · obtain ⟨x5, x6, x7, adj, Wj, ys, ps, rfl, Ij, oj, tkj, hin, pl, eq⟩ := p
        have dn : (Wx.qm i).drop ((Wx.qm i).map V.int).length = [] := by rw [List.length_map, List.drop_length]
        rw [dn] at eq
        have eq : LT.serve c.M c.U W.ts i = (ps, Wj.ts) := by
          rcases eq with ⟨_, e⟩ | ⟨_, e⟩
          · rw [e]; show (ps ++ [], Wj.ts) = _; rw [List.append_nil]
          · exact e
        rw [List.length_map] at pl
        exact ⟨_, x5, x6, x7, adj, Wj, ys, ps, rfl, Ij, tkj, by omega, fun h => by omega, fun h => by omega, fun _ => eq⟩
      obtain ⟨x5, x6, x7, adj, Wj, ys, ps, rfl, Ij, oj, tkj, hin, pl, eq⟩ := p
      obtain ⟨rfl, hy⟩ := hy
      rw [List.getElem?_map] at hy
      cases hx : (Wx.qm i)[n]? with
      | none => rw [hx] at hy; cases hy
      | some o =>
      rw [hx] at hy
      cases hy
      have Aj := Ij.g.at_
      have Oj := O0.mono (WGo.tups A0 Ij.g)
      have wj : adj .wd = ad .wd := Ij.g.wd
      have hd : (Wx.qm i).drop n = o :: (Wx.qm i).drop (n + 1) := by rw [List.drop_eq_getElem?_toList_append, hx]; rfl
      have ho : o ∈ Wj.qm i := hin o (by rw [hd]; exact .head _)
      have hin1 : ∀ q ∈ (Wx.qm i).drop (n + 1), q ∈ Wj.qm i := fun q hq => hin q (by rw [hd]; exact .tail _ hq)
      have ndd : ((Wx.qm i).drop n).Nodup := (Ix.wf.queueNd i).sublist (List.drop_sublist n _)
      rw [hd, List.nodup_cons] at ndd
      obtain ⟨⟨m, hm⟩, _⟩ := Ij.wf.queueAsk o i ho
      have hmB := (Ij.wf.asksIn o i m hm).1
      have hoU := (Ij.wf.asksU o i m hm).1
      obtain ⟨p, hp⟩ := wasks_al hm
      have pb : ps.length < 100 := by rw [List.length_map] at hn; omega
      have hii : i ∈ Wj.qi := Classical.byContradiction fun z => by rw [Aj.ok.q0 i z] at ho; cases ho
      obtain ⟨hq, lq, eq2⟩ : ∃ h l, Wj.qm i = h :: l := by
        cases e : Wj.qm i with
        | nil => rw [e] at ho; cases ho
        | cons h l => exact ⟨h, l, rfl⟩
      dsimp only
      refine seq_mid (fun σ' H' => ∃ nx, σ' = [some (.ref c.mo), some (.ref (ad .wd)), some i, some (.ref r), some (.str "queue"), some (.int o), some (.bl nx), x7, none] ∧ Same Hn H' ∧ nx = (decide (Wj.cm i = []) && decide (hq = o))) (fun N hN => ?_) (fun σ' Hm h => ?_)
      · refine ⟨_, rfl, rfl, false, rfl, iteF ?_⟩
        have ak0 := wd_conv Aj
        rw [wj] at ak0
        refine ⟨_, rfl, _, _, rfl, ak0, ⟨_, _, c.J, rfl, wm_conv Aj Oj⟩, _, rfl, Nat.zero_le _, fun q1 hq1 => ?_⟩
        have sq1 := same_new' (o := .lst []) hq1
        obtain ⟨M1, f1, g1⟩ := wconv_get (i := i) Aj hq1
        have A1 := Aj.same sq1
        have O1 := Oj.mono (Same.tups sq1)
        refine ⟨_, _, c.J, rfl, wm_conv A1 O1, hi, ?_⟩
        rw [f1]
        generalize upd Hn q1 (.lst []) = Ha at sq1 g1 A1 O1 ⊢
        refine ⟨Nat.zero_le _, fun q2 hq2 => ?_⟩
        have sq2 := same_new' (o := .lst []) hq2
        refine ⟨.list ((Wj.cm i).map PyData.int), .list [], .lst (.inl (.inl (sq2 _ _ g1))) (dp_ints _), .lst (.inl (.inl upd_same)) .nil, (Sh.lst (sh_ints _)).ok (by omega), sh_nil, _, rfl, ?_⟩
        rw [eqv_nil, show decide ((Wj.cm i).map PyData.int = []) = decide (Wj.cm i = []) from decide_eq_decide.mpr List.map_eq_nil_iff]
        have A2 := A1.same sq2
        have O2 := O1.mono (Same.tups sq2)
        have st := Same.trans sq1 sq2
        generalize upd Ha q2 (.lst []) = Hb at st A2 O2 ⊢
        cases hc : decide (Wj.cm i = []) with
        | false => exact iteF (hN _ _ ⟨false, rfl, st, by rw [hc]; rfl⟩)
        | true =>
          have ak2 := wd_queue A2
          rw [wj] at ak2
          have quf := A2.at_ (.qu i) hii
          rw [show wcont b.w c adj Wj (.qu i) = .lst ((Wj.qm i).map V.int) from rfl, eq2] at quf
          refine iteT ⟨_, rfl, _, _, rfl, ak2, _, rfl, _, _, c.J, _, rfl, wm_queue A2 O2, hi, by rw [valV_its, if_pos hii], _, _, 0, _, rfl, rfl, .inl (.inl quf), atI0, ?_⟩
          refine ⟨_, rfl, rfl, hN _ _ ⟨decide (hq = o), ?_, st, by rw [hc]; rfl⟩⟩
          have e0 : decide (V.int hq = V.int o) = decide (hq = o) := decide_eq_decide.mpr ⟨fun z => by injection z, fun z => by rw [z]⟩
          rw [← e0]
          rfl
      obtain ⟨nx, rfl, sm, enx⟩ := h
      have Ij : SwI b c H ad W r Hm adj Wj ys ps := ⟨Ij.g.then_ sm, Ij.wf, nr, Ij.fnd.same sm, FPrs.mono (Same.tups sm) Ij.prs⟩
      have oj := oj.same sm
      have tkj := sm _ _ tkj
      have Aj := Ij.g.at_
      have Oj := O0.mono (WGo.tups A0 Ij.g)
      have tp := wask_tup Aj hp
      refine ⟨_, rfl, _, _, rfl, (wj ▸ wd_asks Aj), _, rfl, _, _, rfl, wdget_asks Aj hp, p, _, 1, _, rfl, rfl, .inl (.inl tp), rfl, ?_⟩

      have stop : ∀ Hz : Hp, Same Hm Hz → ((Wj.cm i ≠ [] ∨ ∃ h l, Wj.qm i = h :: l ∧ h ∉ (Wx.qm i).drop (n + 1)) ∧ LT.serve c.M c.U W.ts i = (ps, Wj.ts)) → ∀ x7, ∃ x5 x6 x7' adj Wj ys ps, [some (.ref c.mo), some (.ref (ad .wd)), some i, some (.ref r), some (V.str "queue"), some (.int o), some (.bl nx), x7, none] = [some (.ref c.mo), some (.ref (ad .wd)), some i, some (.ref r), some (V.str "queue"), x5, x6, x7', none] ∧ SwI b c H ad W r Hz adj Wj ys ps ∧ WOff Hz adj Wj L (.lst ((Wx.qm i).map V.int)) ∧ Hz kt = some (.tup [.str "conv", .str "queue"]) ∧
        (∀ o ∈ (Wx.qm i).drop (n + 1), o ∈ Wj.qm i) ∧ ps.length ≤ 20 + (n + 1) ∧
        ((Wj.qm i = (Wx.qm i).drop (n + 1) ∧ LT.serve c.M c.U W.ts i = (ps ++ (LT.serveQ c.M c.U i ((Wx.qm i).drop (n + 1)) Wj.ts).1, (LT.serveQ c.M c.U i ((Wx.qm i).drop (n + 1)) Wj.ts).2)) ∨
         ((Wj.cm i ≠ [] ∨ ∃ h l, Wj.qm i = h :: l ∧ h ∉ (Wx.qm i).drop (n + 1)) ∧ LT.serve c.M c.U W.ts i = (ps, Wj.ts))) := fun Hz sz hs x7 =>
        ⟨_, _, x7, adj, Wj, ys, ps, rfl, ⟨Ij.g.then_ sz, Ij.wf, nr, Ij.fnd.same sz, FPrs.mono (Same.tups sz) Ij.prs⟩, oj.same sz, sz _ _ tkj, hin1, by omega, .inr hs⟩
      rcases eq with ⟨eqq, eq⟩ | ⟨hst, eq⟩
      rotate_left
      · have enx : nx = false := by
          rw [enx]
          rcases hst with h | ⟨h, l, h1, h2⟩
          · rw [decide_eq_false h]; rfl
          · rw [eq2] at h1
            injection h1 with h1 h3
            have : hq ≠ o := fun e => h2 (by rw [← h1, e, hd]; exact .head _)
            rw [decide_eq_false this, Bool.and_false]
        subst enx
        refine ⟨_, rfl, _, rfl, iteF (stop _ (Same.refl _) ⟨?_, eq⟩ _)⟩
        rcases hst with h | ⟨h, l, h1, h2⟩
        · exact .inl h
        · exact .inr ⟨h, l, h1, fun z => h2 (by rw [hd]; exact .tail _ z)⟩
      rw [hd] at eqq
      have eho : hq = o := by rw [eq2] at eqq; injection eqq
      rw [decide_eq_true eho, Bool.and_true] at enx
      by_cases hcc : Wj.cm i = []
      case neg =>
        rw [decide_eq_false hcc] at enx
        subst enx
        refine ⟨_, rfl, _, rfl, iteF (stop _ (Same.refl _) ⟨.inl hcc, ?_⟩ _)⟩
        rw [eq, serveQ_conv hcc]
        show (ps ++ [], _) = _
        rw [List.append_nil]
      rw [decide_eq_true hcc] at enx
      subst enx
      refine ⟨_, rfl, _, rfl, iteT ?_⟩
      refine ⟨_, rfl, _, rfl, _, rfl, _, rfl, _, rfl, adj, Wj, o, i, m, by rw [wj]; rfl, Aj, Oj, Ij.wf, hi, hmB, fun Hi si => ?_⟩
      have gi := Ij.g.then_ si
      have fi := Ij.fnd.same si
      have li := oj.same si
      have pi := FPrs.mono (Same.tups si) Ij.prs
      have Ai := gi.at_
      have Oi := O0.mono (WGo.tups A0 gi)
      refine ⟨_, rfl, ?_⟩
      cases hl : LT.lets c.M c.U Wj.ts o i m with
      | false =>
        refine iteF (stop _ si ⟨.inr ⟨hq, lq, eq2, by rw [eho]; exact ndd.1⟩, ?_⟩ _)
        rw [eq, hd, serveQ_no hcc hm hl]
        show (ps ++ [], _) = _
        rw [List.append_nil]
      | true =>

        have hii : i ∈ Wj.qi := Classical.byContradiction fun z => by rw [Ai.ok.q0 i z] at ho; cases ho
        have wi : adj .wd = ad .wd := gi.wd
        have ak0 := wd_queue Ai
        rw [wi] at ak0
        refine iteT ⟨_, rfl, _, rfl, _, _, rfl, ak0, _, rfl, _, _, c.J, _, rfl, wm_queue Ai Oi, hi, by rw [valV_its, if_pos hii], _, rfl, ⟨_, .inl (.inl (Ai.at_ (.qu i) hii))⟩, fun D hD => ?_⟩
        have ww := walk_list (K := b.K) (a := adj (.qu i)) (xs := (Wj.qm i).map V.int)
        rw [List.length_map] at ww
        have wl : (Wj.qm i).length ≤ 20 := wf_q (Ij.wf.queueNd i) (wwf_qu Ij.wf i) O0.ul
        refine lc_sel (xs := Wj.qm i) ww (fun x => !decide (x = o)) V.int hD (by rw [sizeLine_eq]; omega) (fun Hz sz => .inl (.inl (sz _ _ (Ai.at_ (.qu i) hii)))) (fun k2 e x Hz Hz' Q' N' he sz hy' q1 q2 => ?_) fun Hz sz ez => ?_
        · obtain ⟨rfl, hy'⟩ := hy'
          rw [List.getElem?_map, he] at hy'
          cases hy'
          refine ⟨rfl, _, rfl, _, rfl, rfl, _, rfl, ?_⟩
          have e0 : decide (V.int e = V.int o) = decide (e = o) := decide_eq_decide.mpr ⟨fun z => by injection z, fun z => by rw [z]⟩
          rw [e0]
          cases hc : decide (e = o) with
          | true =>
            rw [hc] at q2
            exact iteF (q2 rfl _ (Same.refl _))
          | false =>
            rw [hc] at q1
            exact iteT ⟨_, rfl, q1 rfl _ (Same.refl _)⟩
        have ef : (Wj.qm i).filter (fun x => !decide (x = o)) = (Wj.qm i).erase o := erase_filter (Ij.wf.queueNd i) o
        rw [ef] at ez
        have gz := gi.then_ sz
        have Az := gz.at_
        have Oz := O0.mono (WGo.tups A0 gz)
        have wz : adj .wd = ad .wd := gz.wd
        have ak := wd_queue Az
        rw [wz] at ak
        have nD : H D = none := gi.none_ hD
        refine ⟨_, rfl, _, rfl, _, _, rfl, ak, _, rfl, _, _, rfl, ⟨_, c.J, Az.at_ .queue True.intro, Oz.it, (wm_queue Az Oz).sub, hi, wi_len Az.ok.qn Az.ok.qJ Oz, rfl⟩, ?_⟩
        have g5 := (WGo.same Ai sz).qu hi hD ⟨ez, woff_new Ai hD⟩
        have f5 := fi.go g5
        have l5 := li.go g5
        have pr5 := FPrs.mono (WGo.tups Ai g5) pi
        have gg5 := gi.trans g5
        have w5 : (adj.mv (.qu i) D) .wd = ad .wd := gg5.wd
        show tSeq _ _ _ _ (upd Hz (adj .queue) (Mx.MixO b.w c.kof (adj .queue) (putK (Wj.qi.map fun k => (k, .ref (adj (.qu k)))) i (.ref D))))
        generalize upd Hz (adj .queue) (Mx.MixO b.w c.kof (adj .queue) (putK (Wj.qi.map fun k => (k, .ref (adj (.qu k)))) i (.ref D))) = H5 at g5 f5 l5 pr5 gg5 ⊢
        have A5 := gg5.at_
        have O5 := O0.mono (WGo.tups A0 gg5)
        refine ⟨_, rfl, _, rfl, _, rfl, _, rfl, adj.mv (.qu i) D, Wj.sQu i ((Wj.qm i).erase o), o, i, m, by rw [w5]; rfl, A5, O5, hi, hoU, fun e he => (wwf_hin Ij.wf Ai.ok i e he).1, wwf_got Ij.wf o, Ij.wf.gotNd o, fun H6 ad6 W6 g6 h6 => ?_⟩
        have f6 := f5.go g6
        have l6 := l5.go g6
        have pr6 := FPrs.mono (WGo.tups A5 g6) pr5
        have gg6 := gg5.trans g6
        refine ⟨_, rfl, .inl ⟨rfl, _, .inl (.inl f6.at_)⟩, _, rfl, _, rfl, two_le, fun t ht => ⟨_, ys, _, rfl, rfl, (same_new' ht) _ _ f6.at_, ?_, ?_⟩⟩
        · have := Paired.length pr6
          rw [sizeLine_eq]
          omega
        have s7 := same_new' (o := .tup [.int o, i]) ht
        have gg7 := (gg6.then_ s7).mine (o := .lst (ys ++ [.ref t])) nr (f6.same s7) lst_ne
        have f7 : WOff (upd (upd H6 t (.tup [.int o, i])) r (.lst (ys ++ [.ref t]))) ad6 W6 r (.lst (ys ++ [.ref t])) := ⟨upd_same, f6.no⟩
        have l7 := (l6.same s7).upd (r := r) (u := .lst (ys ++ [.ref t])) rL.symm
        have t7 : Tups H6 (upd (upd H6 t (.tup [.int o, i])) r (.lst (ys ++ [.ref t]))) := Tups.trans (Same.tups s7) (Tups.mut (s7 _ _ f6.at_) lst_ne)
        have pr7 : Paired (FPr (upd (upd H6 t (.tup [.int o, i])) r (.lst (ys ++ [.ref t])))) (ys ++ [.ref t]) (ps ++ [(o, i)]) := paired_snoc ⟨t, rfl, by rw [upd_ne (ne_of_none f6.at_ ht).symm, upd_same]⟩ (FPrs.mono t7 pr6)
        dsimp only
        generalize upd (upd H6 t (.tup [.int o, i])) r (.lst (ys ++ [.ref t])) = H7 at gg7 f7 l7 pr7 t7 ⊢
        have er : (Wj.qm i).erase o = (Wx.qm i).drop (n + 1) := by rw [eqq]; simp
        rw [er] at h6
        have ets : (Wj.sQu i ((Wx.qm i).drop (n + 1))).ts = LT.outQ Wj.ts i ((Wx.qm i).drop (n + 1)) := rfl
        rw [ets] at h6
        have ec : W6.qm i = (Wx.qm i).drop (n + 1) := (congrArg (fun t => t.queue i) h6).trans (LT.put_at _ _ _)
        refine ⟨_, _, _, ad6, W6, ys ++ [.ref t], ps ++ [(o, i)], rfl, ⟨gg7, ?_, nr, f7, pr7⟩, l7, ?_, fun q hq => ?_, ?_, .inl ⟨ec, ?_⟩⟩
        · show LT.WF c.U c.J c.B W6.ts
          rw [h6, LT.give_outQ Ij.wf hm eqq]
          exact Ij.wf.grant hm
        · exact t7 _ _ (WGo.tups A5 g6 _ _ (WGo.tups Ai g5 _ _ (si _ _ tkj)))
        · rw [ec]; exact hq
        · rw [List.length_append]
          show _ + 1 ≤ _
          omega
        · rw [eq, hd, serveQ_yes hcc hm hl, h6]
          simp only [List.append_assoc, List.cons_append, List.nil_append]
end Lk
end
section
set_option maxRecDepth 100000
set_option maxHeartbeats 1000000
/-! The law's freed. -/
namespace Lk
open PySem L2
open Mx (pe_msetd pe_mget pe_mget2 ps_mput pe_mnew pe_mayLock ps_mayLock pi_itemsN pi_itemsM fresh_dK fresh_mix)

theorem erase_filterV {l : List V} (h : l.Nodup) (o : V) : l.filter (fun x => !decide (x = o)) = l.erase o := by
  induction l with
  | nil => rfl
  | cons x l ih =>
    obtain ⟨h1, h2⟩ := List.nodup_cons.mp h
    by_cases e : x = o
    · subst e
      rw [List.filter_cons_of_neg (by simp), List.erase_cons_head, List.filter_eq_self]
      intro y hy
      have : y ≠ x := fun e => h1 (e ▸ hy)
      simp [this]
    · rw [List.filter_cons_of_pos (by simp [e]), List.erase_cons_tail (by simpa using e), ih h2]
theorem wunhold_ts (W : Wt) (o : Int) (i : V) : ((W.sHd i (dropA (W.hm i) o)).sGt o ((W.gm o).erase i)).ts = LT.unhold W.ts o i := by
  have h1 : (fun (j : V) (q : Int) => (LT.put W.hm i (dropA (W.hm i) o) j).lookup q) = LT.put W.ts.held i (LT.put (W.ts.held i) o none) := by
    funext j q
    by_cases e : j = i
    · rw [e, LT.put_at, LT.put_at, lookup_dropA]
      by_cases e2 : q = o
      · rw [e2, LT.put_at, if_pos rfl]
      · rw [LT.put_off _ _ e2, if_neg e2]; rfl
    · rw [LT.put_off _ _ e, LT.put_off _ _ e]; rfl
  show LT.TS.mk _ _ _ _ _ = LT.TS.mk _ _ _ _ _
  congr 1
theorem wdget_got {w : World} {c : Tc} {H : Hp} {ad : WAd} {W : Wt} {o : Int} (A : WAt w c H ad W) (h : o ∈ W.go) : DGet H (ad .got) (.int o) (some (.ref (ad (.gt o)))) := by
  refine .inl ⟨_, Sum.inl o, .inl (A.at_ .got True.intro), rfl, ?_⟩
  show _ = valV (W.go.map fun k => ((Sum.inl k : L2.Key), V.ref (ad (.gt k)))) (Sum.inl o)
  rw [valV_os, if_pos h]
abbrev spWFreed (b : Bs) (c : Tc) : Sp := fun vs H Q _ => ∃ (ad : WAd) (W : Wt) (o : Int) (i : V), vs = [.ref c.mo, .ref (ad .wd), .int o, i] ∧ WAt b.w c H ad W ∧ c.Ok b.K H ∧ WWf c W ∧ i ∈ W.gm o ∧ W.ts.asks o = none ∧
  ∀ H' ad' W' r ys, WGo b.w c H ad W H' ad' W' → W'.ts = (LT.freed c.M c.U W.ts o i).2 → H r = none → WOff H' ad' W' r (.lst ys) → Paired (FPr H') ys (LT.freed c.M c.U W.ts o i).1 → Q (.ref r) H'
abbrev s_law_freed : Stmt := top 50
abbrev N_law_freed : List Str := ["_law_modes", "_law_world_here", "_law_owner", "_law_item", "_law_one_here"]
abbrev P_law_freed : List Str := ["_law_modes", "_law_world_here", "_law_owner", "_law_item"]
theorem sc_law_freed : FnScope N_law_freed P_law_freed (defScope s_law_freed) := ⟨rfl, rfl, rfl, by decide +kernel, rfl, by decide +kernel, by decide +kernel⟩
theorem ok_law_freed {b : Bs} {c : Tc} (R : Raw b "_law_freed" "_law_freed" s_law_freed P_law_freed) (T : Tops b) (D_law_served : Df b 2 "_law_served" P_law_served (spWServed b c)) : Df b 3 "_law_freed" P_law_freed (spWFreed b c) := by
  refine R.ok sc_law_freed (fun vs H Q E h => ?_) fun f cdv A outer s H vs Q E hr h => ?_
  · obtain ⟨ad, W, o, i, rfl, _⟩ := h
    rfl
  · obtain ⟨ad, W, o, i, rfl, A0, O0, F, hg, ha, k⟩ := h
    let kof := c.kof
    refine ⟨_, (pss_cons (ps_expr (pe_dpop1 (pe_mget (kof := kof) (hu9 hr) (pe_dget (hu_of hr) (pv 1) pe_str (fun _ _ => rfl)) (pv 3) (fun _ _ => rfl)) (pv 2) ⟨rfl, rfl, rfl, rfl⟩))
      (pss_cons (ps_dput (hu_of hr) (pe_dget (hu_of hr) (pv 1) pe_str (fun _ _ => rfl)) (pv 2) (pe_lcB (own := [("_law_one_here", 4)]) rfl sc_law_freed.nd (pi_list (pe_dget (hu_of hr) (pe_dget (hu_of hr) (pv 1) pe_str (fun _ _ => rfl)) (pv 2) (fun _ _ => rfl))) (blkOk_by (own := [("_law_one_here", 4)]) (N := N_law_freed) (sc := defScope s_law_freed) (by decide +kernel)) (fun _ _ _ _ _ => (pg_name (i := 4) sc_law_freed.nd rfl (Or.inl rfl))) (fun _ _ _ _ _ => (pts_one (pt_cmpR (op_neD hr.units) (pv 4) (pv 3) (nomark _)))) (fun _ _ _ _ _ => (pv 4))) rfl)
      (pss_one (ps_ret (pe_df D_law_served (hr.mono (by decide)) (pa_cons (pv 0) (pa_cons (pv 1) (pa_cons (pv 3) pa_nil)))))))), ?_⟩
    have hi : i ∈ c.J := wwf_got F o i hg
    have hne : W.ts.held i o ≠ none := (F.gotIff o i).mp hg
    obtain ⟨m, hm⟩ : ∃ m, W.ts.held i o = some m := by
      cases e : W.ts.held i o with
      | none => exact (hne e).elim
      | some m => exact ⟨m, rfl⟩
    have hoU := (F.heldIn i o m hm).1
    have hii : i ∈ W.hi := Classical.byContradiction fun z => hne (by show (W.hm i).lookup o = none; rw [A0.ok.h0 i z]; rfl)
    have hoo : o ∈ W.go := Classical.byContradiction fun z => by rw [A0.ok.g0 o z] at hg; cases hg
    have hv : valV ((W.hm i).map (ent V.str)) (Sum.inl o) = some (.str m) := by
      rw [valV_k, show (W.hm i).lookup o = some m from hm]; rfl
    refine ⟨_, rfl, _, _, rfl, wd_held A0, _, rfl, _, _, c.J, _, rfl, wm_held A0 O0, hi, by rw [valV_its, if_pos hii], _, rfl, .inl ⟨_, .inl (A0.at_ (.hd i) hii)⟩, _, rfl, _, Sum.inl o, _, A0.at_ (.hd i) hii, rfl, hv, ?_⟩
    rw [show dropK ((W.hm i).map (ent V.str)) (Sum.inl o) = (dropA (W.hm i) o).map (ent V.str) from dropA_k]
    have g1 := (WGo.refl A0).hm (l := dropA (W.hm i) o) hii (keys_dropA (A0.ok.mdn i))
    generalize upd H (ad (.hd i)) (.dK ((dropA (W.hm i) o).map (ent V.str))) = H1 at g1 ⊢
    have A1 := g1.at_
    have O1 := O0.mono (WGo.tups A0 g1)
    have gt1 : H1 (ad (.gt o)) = some (.lst (W.gm o)) := A1.at_ (.gt o) hoo
    have ak := wd_got A1
    have gl : (W.gm o).length ≤ 20 := Nat.le_trans (LT_len (F.gotNd o) (wwf_got F o)) O0.few
    refine ⟨_, rfl, _, _, rfl, ak, _, rfl, _, _, rfl, wdget_got A1 hoo, _, rfl, ⟨_, .inl (.inl gt1)⟩, fun D hD => ?_⟩
    refine lc_sel (xs := W.gm o) walk_list (fun x => !decide (x = i)) (fun x => x) hD (by rw [sizeLine_eq]; omega) (fun Hz sz => .inl (.inl (sz _ _ gt1))) (fun k2 e x Hz Hz' Q' N' he sz hy' q1 q2 => ?_) fun Hz sz ez => ?_
    · obtain ⟨rfl, hy'⟩ := hy'
      rw [he] at hy'
      cases hy'
      have Oz := O1.mono (Same.tups sz)
      have hJ : e ∈ c.J := wwf_got F o e (List.mem_of_getElem? he)
      refine ⟨rfl, _, rfl, _, rfl, dI c.kof e, dI c.kof i, dp_I Oz.it hJ, dp_I Oz.it hi, (sh_I Oz.it (fun v hv => Oz.key hv) hJ).ok (by omega), (sh_I Oz.it (fun v hv => Oz.key hv) hi).ok (by omega), _, rfl, ?_⟩
      rw [eqv_I Oz.it hJ hi]
      cases hc : decide (e = i) with
      | true =>
        rw [hc] at q2
        exact iteF (q2 rfl _ (Same.refl _))
      | false =>
        rw [hc] at q1
        exact iteT ⟨_, rfl, q1 rfl _ (Same.refl _)⟩
    have ef : ((W.gm o).filter (fun x => !decide (x = i))).map (fun x => x) = (W.gm o).erase i := by rw [List.map_id']; exact erase_filterV (F.gotNd o) i
    rw [ef] at ez
    have gz := g1.then_ sz
    have Az := gz.at_
    have Oz := O0.mono (WGo.tups A0 gz)
    have nD : H D = none := g1.none_ hD
    have g2 := gz.gt hoU nD ⟨ez, woff_new A1 hD⟩
    refine ⟨_, rfl, _, _, rfl, wd_got Az, _, rfl, _, _, rfl, DPut.k (k := Sum.inl o) (Az.at_ .got True.intro) (wg_len Az Oz), ?_⟩
    have g2 : WGo b.w c H ad W (upd Hz (ad .got) (.dK (putK (W.go.map fun k => (Sum.inl k, .ref (ad (.gt k)))) (Sum.inl o) (.ref D)))) (ad.mv (.gt o) D) ((W.sHd i (dropA (W.hm i) o)).sGt o ((W.gm o).erase i)) := g2
    show (_ : L2.St → Hp → Prop) _ (upd Hz (ad .got) (.dK (putK (W.go.map fun k => (Sum.inl k, .ref (ad (.gt k)))) (Sum.inl o) (.ref D))))
    generalize upd Hz (ad .got) (.dK (putK (W.go.map fun k => (Sum.inl k, .ref (ad (.gt k)))) (Sum.inl o) (.ref D))) = H3 at g2 ⊢
    have A3 := g2.at_
    have O3 := O0.mono (WGo.tups A0 g2)
    have w3 : (ad.mv (.gt o) D) .wd = ad .wd := g2.wd
    have ets := wunhold_ts W o i
    have F3 : WWf c ((W.sHd i (dropA (W.hm i) o)).sGt o ((W.gm o).erase i)) := by
      show LT.WF c.U c.J c.B _
      rw [ets]
      exact F.unhold ha
    refine ⟨_, rfl, _, rfl, _, rfl, ad.mv (.gt o) D, _, i, by rw [w3]; rfl, A3, O3, F3, hi, fun H4 ad4 W4 r ys g4 h4 nr x4 p4 => ?_⟩
    rw [ets] at h4 p4
    exact k _ _ _ _ _ (g2.trans g4) h4 (g2.none_ nr) x4 p4
end Lk
end
section
set_option maxRecDepth 100000
set_option maxHeartbeats 1000000
/-! The law's ended. -/
namespace Lk
open PySem L2
open Mx (pe_msetd pe_mget pe_mget2 ps_mput pe_mnew pe_mayLock ps_mayLock pi_itemsN pi_itemsM fresh_dK fresh_mix)

section
variable {b : Bs} {c : Tc} {H0 H H' : Hp} {ad0 ad ad' : WAd} {W0 W W' : Wt} {r : Addr} {ys : List V} {ps : List (Int × V)}
theorem SwI.same (x : SwI b c H0 ad0 W0 r H ad W ys ps) (s : Same H H') : SwI b c H0 ad0 W0 r H' ad W ys ps := ⟨x.g.then_ s, x.wf, x.nr, x.fnd.same s, FPrs.mono (Same.tups s) x.prs⟩
theorem SwI.go (x : SwI b c H0 ad0 W0 r H ad W ys ps) (g : WGo b.w c H ad W H' ad' W') (F : WWf c W') : SwI b c H0 ad0 W0 r H' ad' W' ys ps := ⟨x.g.trans g, F, x.nr, x.fnd.go g, FPrs.mono (WGo.tups x.g.at_ g) x.prs⟩
end
abbrev spWEnded (b : Bs) (c : Tc) : Sp := fun vs H Q _ => ∃ (ad : WAd) (W : Wt) (o : Int), vs = [.ref c.mo, .ref (ad .wd), .int o] ∧ WAt b.w c H ad W ∧ c.Ok b.K H ∧ WWf c W ∧ o ∈ c.U ∧
  ∀ H' ad' W' r ys, WGo b.w c H ad W H' ad' W' → W'.ts = (LT.finish c.M c.U W.ts o).2 → H r = none → WOff H' ad' W' r (.lst ys) → Paired (FPr H') ys (LT.finish c.M c.U W.ts o).1 → Q (.ref r) H'
abbrev s_law_ended : Stmt := top 51
abbrev N_law_ended : List Str := ["_law_modes", "_law_world_here", "_law_owner", "_law_found", "_law_item", "_law_kind", "_law_one_here"]
abbrev P_law_ended : List Str := ["_law_modes", "_law_world_here", "_law_owner"]
theorem sc_law_ended : FnScope N_law_ended P_law_ended (defScope s_law_ended) := ⟨rfl, rfl, rfl, by decide +kernel, rfl, by decide +kernel, by decide +kernel⟩
theorem ok_law_ended {b : Bs} {c : Tc} (R : Raw b "_law_ended" "_law_ended" s_law_ended P_law_ended) (T : Tops b) (D_law_served : Df b 2 "_law_served" P_law_served (spWServed b c)) (D_law_freed : Df b 3 "_law_freed" P_law_freed (spWFreed b c)) : Df b 4 "_law_ended" P_law_ended (spWEnded b c) := by
  refine R.ok sc_law_ended (fun vs H Q E h => ?_) fun f cdv A outer s H vs Q E hr h => ?_
  · obtain ⟨ad, W, o, rfl, _⟩ := h
    rfl
  · obtain ⟨ad, W, o, rfl, A0, O0, F, hoU, k⟩ := h
    let kof := c.kof
    refine ⟨_, (pss_cons (ps_set (i := 3) sc_law_ended.nd rfl (Or.inl rfl) (pe_lst pa_nil))
      (pss_cons (ps_if (pt_cmp (pc_din (hu_of hr) (pv 2) (pe_dget (hu_of hr) (pv 1) pe_str (fun _ _ => rfl)))) (pss_cons (ps_set (i := 4) sc_law_ended.nd rfl (Or.inl rfl) (pe_ix ix_tup (pe_dpop1 (pe_dget (hu_of hr) (pv 1) pe_str (fun _ _ => rfl)) (pv 2) ⟨rfl, rfl, rfl, rfl⟩) pe_int (fun _ _ => rfl)))
      (pss_cons (ps_for PassesOwn.never rfl (pi_tup (pe_tup (pa_cons pe_str (pa_cons pe_str pa_nil)))) (pg_name (i := 5) sc_law_ended.nd rfl (Or.inl rfl))
      (pss_one (ps_mput (kof := kof) (hu9 hr) (pe_dget (hu_of hr) (pv 1) (pv 5) (fun _ _ => rfl)) (pv 4) (pe_lcB (own := [("_law_one_here", 6)]) rfl sc_law_ended.nd (pi_list (pe_mget2 (kof := kof) (hu9 hr) (pe_dget (hu_of hr) (pv 1) (pv 5) (fun _ _ => rfl)) (pv 4) (pe_lst pa_nil) ⟨rfl, rfl, rfl, rfl⟩)) (blkOk_by (own := [("_law_one_here", 6)]) (N := N_law_ended) (sc := defScope s_law_ended) (by decide +kernel)) (fun _ _ _ _ _ => (pg_name (i := 6) sc_law_ended.nd rfl (Or.inl rfl))) (fun _ _ _ _ _ => (pts_one (pt_cmpR op_ne (pv 6) (pv 2) (nomark _)))) (fun _ _ _ _ _ => (pv 6))) rfl)))
      (pss_one (ps_set (i := 3) sc_law_ended.nd rfl (Or.inl rfl) (pe_df D_law_served (hr.mono (by decide)) (pa_cons (pv 0) (pa_cons (pv 1) (pa_cons (pv 4) pa_nil)))))))) pss_nil)
      (pss_cons (ps_for PassesOwn.never rfl (pi_list (pe_callTy call_list_of (by rfl) T.b_list (by decide +kernel) (pa_cons (pe_dget2 (hu_of hr) (pe_dget (hu_of hr) (pv 1) pe_str (fun _ _ => rfl)) (pv 2) (pe_lst pa_nil) ⟨rfl, rfl, rfl, rfl⟩) pa_nil))) (pg_name (i := 4) sc_law_ended.nd rfl (Or.inl rfl))
      (pss_one (ps_set (i := 3) sc_law_ended.nd rfl (Or.inl rfl) (pe_op op_cat (pv 3) (pe_df D_law_freed (hr.mono (by decide)) (pa_cons (pv 0) (pa_cons (pv 1) (pa_cons (pv 2) (pa_cons (pv 4) pa_nil)))))))))
      (pss_one (ps_ret (pv 3)))))), ?_⟩
    refine ⟨Nat.zero_le _, fun r hr0 => ?_⟩
    have nr : H r = none := hr0
    have I1 : SwI b c H ad W r (upd H r (.lst [])) ad W [] [] := ⟨(WGo.refl A0).then_ (same_new' hr0), F, hr0, WOff.new A0 hr0, .nil⟩
    dsimp only [gName]
    generalize upd H r (.lst []) = H1 at I1 ⊢
    refine seq_mid (fun σ' H' => ∃ x y r' ad' W' ys, σ' = [some (.ref c.mo), some (.ref (ad .wd)), some (.int o), some (.ref r'), x, y, none] ∧ SwI b c H ad W r' H' ad' W' ys (LT.quit c.M c.U W.ts o).1 ∧ W'.ts = (LT.quit c.M c.U W.ts o).2) (fun N hN => ?_) (fun σ' H' h => ?_)
    · have A1 := I1.g.at_
      have O1 := O0.mono (WGo.tups A0 I1.g)
      refine ⟨_, rfl, _, rfl, _, _, rfl, wd_asks A1, _, _, rfl, DGet.k (k := Sum.inl o) (A1.at_ .asks True.intro), _, rfl, ?_⟩
      rw [whas_asks]
      cases ha : W.ts.asks o with
      | none =>
        refine iteF (hN _ _ ⟨none, none, r, ad, W, [], rfl, ?_, ?_⟩)
        · unfold LT.quit
          rw [ha]
          exact I1
        · unfold LT.quit
          rw [ha]
      | some im =>
        obtain ⟨i, m⟩ := im
        have hJ := (F.asksU o i m ha).2
        obtain ⟨p, hp⟩ := wasks_al ha
        have tp := wask_tup A1 hp
        have eq : LT.quit c.M c.U W.ts o = LT.serve c.M c.U (LT.dropAsk W.ts o i) i := by unfold LT.quit; rw [ha]
        rw [eq] at hN
        refine iteT ⟨_, rfl, _, _, rfl, wd_asks A1, _, rfl, .inl ⟨_, .inl (A1.at_ .asks True.intro)⟩, _, rfl, _, Sum.inl o, .ref p, A1.at_ .asks True.intro, rfl, ?_, ?_⟩
        · show valV (W.al.map (ent fun e => V.ref e.1)) (Sum.inl o) = _
          rw [valV_k, hp]
          rfl
        rw [show dropK (W.al.map (ent fun e => V.ref e.1)) (Sum.inl o) = (dropA W.al o).map (ent fun e => V.ref e.1) from dropA_k]
        have g2 := (WGo.refl A1).al (l := dropA W.al o) (keys_dropA A1.ok.aln) fun e he => A1.ask e (List.mem_filter.mp he).1
        have f2 := I1.fnd.go g2
        generalize upd H1 (ad .asks) (.dK ((dropA W.al o).map (ent fun e => .ref e.1))) = H2 at g2 f2 ⊢
        have A2 := g2.at_
        have O2 := O1.mono (WGo.tups A1 g2)
        have gg2 := I1.g.trans g2
        have e2 : (W.sAl (dropA W.al o)).ts = { W.ts with asks := LT.put W.ts.asks o none } := by
          show LT.TS.mk _ _ _ (fun q => ((dropA W.al o).lookup q).map (·.2)) _ = _
          rw [dropA_asks]
          rfl
        refine ⟨p, _, 0, _, rfl, rfl, .inl (.inl (WGo.tups A1 g2 _ _ tp)), atI0, ?_⟩
        dsimp only [gName]
        refine ⟨two_le, fun kt hkt => ?_⟩
        have sk := same_new' (o := .tup [.str "conv", .str "queue"]) hkt
        have gk := gg2.then_ sk
        have fk := f2.same sk
        have tk : (upd H2 kt (.tup [.str "conv", .str "queue"])) kt = some (.tup [.str "conv", .str "queue"]) := upd_same
        generalize upd H2 kt (.tup [.str "conv", .str "queue"]) = H3 at gk fk tk ⊢
        refine ⟨_, rfl, ⟨_, .inl (.inl tk)⟩, ?_⟩
        have cl : (W.cm i).length ≤ 20 := wf_q (F.convNd i) (wwf_cv F i) O0.ul
        have ql : (W.qm i).length ≤ 20 := wf_q (F.queueNd i) (wwf_qu F i) O0.ul
        refine for_it (walk_tup (xs := [V.str "conv", V.str "queue"])) (fun j σ Hj => ∃ x5 adj Wj, σ = [some (.ref c.mo), some (.ref (ad .wd)), some (.int o), some (.ref r), some i, x5, none] ∧ WGo b.w c H ad W Hj adj Wj ∧ WOff Hj adj Wj r (.lst []) ∧ Hj kt = some (.tup [.str "conv", .str "queue"]) ∧
          (j = 0 → Wj.ts = { W.ts with asks := LT.put W.ts.asks o none }) ∧ (j = 1 → Wj.ts = { W.ts with asks := LT.put W.ts.asks o none, conv := LT.put W.ts.conv i ((W.ts.conv i).erase o) }) ∧ (2 ≤ j → Wj.ts = LT.dropAsk W.ts o i)) ?_ (fun j σ Hj hj p => ?_) (fun j y σ Hx0 Hx hj p hy => ?_) fun σ Hj p => ?_
        · exact ⟨none, ad, _, rfl, gk, fk, tk, fun _ => e2, fun h => by omega, fun h => by omega⟩
        · obtain ⟨_, _, _, _, _, _, tk, _⟩ := p
          exact .inl (.inl tk)
        rotate_left
        · obtain ⟨x5, adj, Wj, rfl, g4, f4, _, _, _, e4⟩ := p
          have e4 := e4 (Nat.le_refl _)
          have A4 := g4.at_
          have O4 := O0.mono (WGo.tups A0 g4)
          have w4 : adj .wd = ad .wd := g4.wd
          have F4 : WWf c Wj := by show LT.WF c.U c.J c.B _; rw [e4]; exact (F.dropAsk ha).1
          refine ⟨_, rfl, _, rfl, _, rfl, adj, Wj, i, by rw [w4]; rfl, A4, O4, F4, hJ, fun H5 ad5 W5 r5 ys5 g5 e5 nr5 f5 pr5 => ?_⟩
          rw [e4] at e5 pr5
          have F5 : WWf c W5 := by show LT.WF c.U c.J c.B _; rw [e5]; exact LT.serve_wf (F.dropAsk ha).1
          exact hN _ _ ⟨_, _, r5, ad5, W5, ys5, rfl, ⟨g4.trans g5, F5, g4.none_ nr5, f5, pr5⟩, e5⟩
        obtain ⟨x5, adx, Wx, rfl, gx, fx, tkx, z0, z1, z2⟩ := p
        obtain ⟨rfl, hy⟩ := hy
        have Ax := gx.at_
        have Ox := O0.mono (WGo.tups A0 gx)
        have wx : adx .wd = ad .wd := gx.wd
        match j, hj with
        | 0, hj =>
          cases hy
          have z0 := z0 rfl
          have em : Wx.cm i = W.cm i := congrArg (fun t : LT.TS V Str => t.conv i) z0
          have nd : (Wx.cm i).Nodup := by rw [em]; exact F.convNd i
          have ak := wd_conv Ax
          rw [wx] at ak
          refine ⟨_, rfl, _, rfl, _, _, rfl, ak, ⟨_, _, c.J, rfl, wm_conv Ax Ox⟩, _, rfl, Nat.zero_le _, fun p1 hp1 => ?_⟩
          have sp1 := same_new' (o := .lst []) hp1
          obtain ⟨L1, e1, h1⟩ := wconv_get (i := i) Ax hp1
          have A1x := Ax.same sp1
          have O1x := Ox.mono (Same.tups sp1)
          refine ⟨_, _, c.J, rfl, wm_conv A1x O1x, hJ, ?_⟩
          rw [e1]
          have g1 := gx.then_ sp1
          have f1 := fx.same sp1
          have t1 := sp1 _ _ tkx
          have h1 : (upd Hx p1 (.lst [])) L1 = some (.lst ((Wx.cm i).map V.int)) := h1
          generalize upd Hx p1 (.lst []) = H4 at g1 f1 t1 h1 A1x O1x ⊢
          refine ⟨_, rfl, ⟨_, .inl (.inl h1)⟩, fun D hD => ?_⟩
          have ww := walk_list (K := b.K) (a := L1) (xs := (Wx.cm i).map V.int)
          rw [List.length_map] at ww
          refine lc_sel (xs := Wx.cm i) ww (fun x => !decide (x = o)) V.int hD (by rw [em, sizeLine_eq]; omega) (fun Hz sz => .inl (.inl (sz _ _ h1))) (fun k2 e x Hz Hz' Q' N' he sz hy' q1 q2 => ?_) fun Hz sz ez => ?_
          · obtain ⟨rfl, hy'⟩ := hy'
            rw [List.getElem?_map, he] at hy'
            cases hy'
            refine ⟨rfl, _, rfl, _, rfl, rfl, _, rfl, ?_⟩
            have e0 : decide (V.int e = V.int o) = decide (e = o) := decide_eq_decide.mpr ⟨fun z => by injection z, fun z => by rw [z]⟩
            rw [e0]
            cases hc : decide (e = o) with
            | true =>
              rw [hc] at q2
              exact iteF (q2 rfl _ (Same.refl _))
            | false =>
              rw [hc] at q1
              exact iteT ⟨_, rfl, q1 rfl _ (Same.refl _)⟩
          rw [erase_filter nd o] at ez
          have gz := g1.then_ sz
          have Az := gz.at_
          have Oz := O0.mono (WGo.tups A0 gz)
          have ak2 := wd_conv Az
          rw [wx] at ak2
          have g4 := (WGo.same A1x sz).cv hJ hD ⟨ez, woff_new A1x hD⟩
          have g5 := g1.trans g4
          have f5 := f1.go g4
          have tk5 := WGo.tups A1x g4 _ _ t1
          refine ⟨_, rfl, _, rfl, _, _, rfl, ak2, _, rfl, _, _, rfl, ⟨_, c.J, Az.at_ .conv True.intro, Oz.it, (wm_conv Az Oz).sub, hJ, wi_len Az.ok.cn Az.ok.cJ Oz, rfl⟩, ?_⟩
          refine ⟨_, _, _, rfl, g5, f5, tk5, fun h => by omega, fun _ => ?_, fun h => by omega⟩
          show { Wx.ts with conv := LT.put Wx.ts.conv i ((Wx.ts.conv i).erase o) } = _
          rw [z0]
        | 1, hj =>
          cases hy
          have z0 := z1 rfl
          have em : Wx.qm i = W.qm i := congrArg (fun t : LT.TS V Str => t.queue i) z0
          have nd : (Wx.qm i).Nodup := by rw [em]; exact F.queueNd i
          have ak := wd_queue Ax
          rw [wx] at ak
          refine ⟨_, rfl, _, rfl, _, _, rfl, ak, ⟨_, _, c.J, rfl, wm_queue Ax Ox⟩, _, rfl, Nat.zero_le _, fun p1 hp1 => ?_⟩
          have sp1 := same_new' (o := .lst []) hp1
          obtain ⟨L1, e1, h1⟩ := wqueue_get (i := i) Ax hp1
          have A1x := Ax.same sp1
          have O1x := Ox.mono (Same.tups sp1)
          refine ⟨_, _, c.J, rfl, wm_queue A1x O1x, hJ, ?_⟩
          rw [e1]
          have g1 := gx.then_ sp1
          have f1 := fx.same sp1
          have t1 := sp1 _ _ tkx
          have h1 : (upd Hx p1 (.lst [])) L1 = some (.lst ((Wx.qm i).map V.int)) := h1
          generalize upd Hx p1 (.lst []) = H4 at g1 f1 t1 h1 A1x O1x ⊢
          refine ⟨_, rfl, ⟨_, .inl (.inl h1)⟩, fun D hD => ?_⟩
          have ww := walk_list (K := b.K) (a := L1) (xs := (Wx.qm i).map V.int)
          rw [List.length_map] at ww
          refine lc_sel (xs := Wx.qm i) ww (fun x => !decide (x = o)) V.int hD (by rw [em, sizeLine_eq]; omega) (fun Hz sz => .inl (.inl (sz _ _ h1))) (fun k2 e x Hz Hz' Q' N' he sz hy' q1 q2 => ?_) fun Hz sz ez => ?_
          · obtain ⟨rfl, hy'⟩ := hy'
            rw [List.getElem?_map, he] at hy'
            cases hy'
            refine ⟨rfl, _, rfl, _, rfl, rfl, _, rfl, ?_⟩
            have e0 : decide (V.int e = V.int o) = decide (e = o) := decide_eq_decide.mpr ⟨fun z => by injection z, fun z => by rw [z]⟩
            rw [e0]
            cases hc : decide (e = o) with
            | true =>
              rw [hc] at q2
              exact iteF (q2 rfl _ (Same.refl _))
            | false =>
              rw [hc] at q1
              exact iteT ⟨_, rfl, q1 rfl _ (Same.refl _)⟩
          rw [erase_filter nd o] at ez
          have gz := g1.then_ sz
          have Az := gz.at_
          have Oz := O0.mono (WGo.tups A0 gz)
          have ak2 := wd_queue Az
          rw [wx] at ak2
          have g4 := (WGo.same A1x sz).qu hJ hD ⟨ez, woff_new A1x hD⟩
          have g5 := g1.trans g4
          have f5 := f1.go g4
          have tk5 := WGo.tups A1x g4 _ _ t1
          refine ⟨_, rfl, _, rfl, _, _, rfl, ak2, _, rfl, _, _, rfl, ⟨_, c.J, Az.at_ .queue True.intro, Oz.it, (wm_queue Az Oz).sub, hJ, wi_len Az.ok.qn Az.ok.qJ Oz, rfl⟩, ?_⟩
          refine ⟨_, _, _, rfl, g5, f5, tk5, fun h => by omega, fun h => by omega, fun _ => ?_⟩
          show { Wx.ts with queue := LT.put Wx.ts.queue i ((Wx.ts.queue i).erase o) } = _
          rw [z0]
          rfl
    · obtain ⟨x, y, r1, ad', W', ys, rfl, I2, e2⟩ := h
      have A2 := I2.g.at_
      have O2 := O0.mono (WGo.tups A0 I2.g)
      have w2 : ad' .wd = ad .wd := I2.g.wd
      have F2 := I2.wf
      have ak := wd_got A2
      rw [w2] at ak
      refine ⟨_, rfl, _, _, rfl, ak, _, rfl, .inl ⟨_, .inl (A2.at_ .got True.intro)⟩, _, rfl, Nat.zero_le _, fun p hp => ?_⟩
      have s3 := same_new' (o := .lst []) hp
      have I3 := I2.same s3
      obtain ⟨q, eq, hq⟩ := wgot_get (o := o) A2 hp
      refine ⟨valV (W'.go.map fun k => ((Sum.inl k : L2.Key), V.ref (ad' (.gt k)))) (Sum.inl o), .inl ⟨_, Sum.inl o, .inl (I3.g.at_.at_ .got True.intro), rfl, rfl⟩, ?_⟩
      rw [eq]
      generalize upd H' p (.lst []) = H3 at hq I3 ⊢
      refine ⟨_, _, rfl, .inl (.inl (.inl hq)), fun L hL => ⟨_, rfl, ⟨_, .inl (.inl upd_same)⟩, ?_⟩⟩
      have I4 := I3.same (same_new' (o := .lst (W'.gm o)) hL)
      have oL : WOff (upd H3 L (.lst (W'.gm o))) ad' W' L (.lst (W'.gm o)) := WOff.new I3.g.at_ hL
      show ∃ W : Nat → Nat → St → Hp → Prop, (∃ m, W 0 m _ (upd H3 L (.lst (W'.gm o)))) ∧ _
      generalize upd H3 L (.lst (W'.gm o)) = H4 at I4 oL ⊢
      have gl : (W'.gm o).length ≤ 20 := Nat.le_trans (LT_len (F2.gotNd o) (wwf_got F2 o)) O0.few
      have gnd : (W'.gm o).Nodup := F2.gotNd o
      refine for_it (walk_list (xs := W'.gm o)) (fun j σ Hj => ∃ x y rj adj Wj ys ps, σ = [some (.ref c.mo), some (.ref (ad .wd)), some (.int o), some (.ref rj), x, y, none] ∧ SwI b c H ad W rj Hj adj Wj ys ps ∧ WOff Hj adj Wj L (.lst (W'.gm o)) ∧ Wj.gm o = (W'.gm o).drop j ∧ Wj.ts.asks o = none ∧ ps.length ≤ 40 * (j + 1) ∧
        LT.finish c.M c.U W.ts o = (ps ++ (LT.freeAll c.M c.U o ((W'.gm o).drop j) Wj.ts).1, (LT.freeAll c.M c.U o ((W'.gm o).drop j) Wj.ts).2)) ?_ (fun j σ Hj hj p => ?_) (fun j v σ Hj Hj' hj p hy => ?_) fun σ Hj p => ?_
      · refine ⟨x, y, r1, ad', W', ys, _, rfl, I4, oL, rfl, ?_, ?_, ?_⟩
        · rw [e2]
          exact (LT.quit_steps F).2
        · unfold LT.quit
          cases ha : W.ts.asks o with
          | none => exact Nat.zero_le _
          | some im => exact serve_len (F.dropAsk ha).1 O0.ul
        · unfold LT.finish
          rw [e2]
          rw [← e2]
          rfl
      · obtain ⟨_, _, _, _, _, _, _, _, _, q, _⟩ := p
        exact .inl (.inl q.at_)
      · obtain ⟨x, y, rj, adj, Wj, ys, ps, rfl, Ij, oj, gj, aj, pl, eq⟩ := p
        obtain ⟨rfl, hy⟩ := hy
        have hd : (W'.gm o).drop j = v :: (W'.gm o).drop (j + 1) := by rw [List.drop_eq_getElem?_toList_append, hy]; rfl
        have hv : v ∈ Wj.gm o := by rw [gj, hd]; exact .head _
        have A5 := Ij.g.at_
        have O5 := O0.mono (WGo.tups A0 Ij.g)
        have w5 : adj .wd = ad .wd := Ij.g.wd
        refine ⟨_, rfl, _, rfl, _, rfl, _, rfl, _, rfl, adj, Wj, o, v, by rw [w5]; rfl, A5, O5, Ij.wf, hv, aj, fun H6 ad6 W6 r6 ys6 g6 e6 nr6 f6 pr6 => ?_⟩
        have F6 : WWf c W6 := by show LT.WF c.U c.J c.B _; rw [e6]; exact LT.freed_wf Ij.wf aj
        have I6 := Ij.go g6 F6
        have l6 : (LT.freed c.M c.U Wj.ts o v).1.length ≤ 40 := serve_len (Ij.wf.unhold aj) O0.ul
        have hj2 : j < 20 := Nat.lt_of_lt_of_le hj gl
        refine ⟨rj, r6, _, _, rfl, rfl, I6.fnd.at_, f6.at_, ?_, fun rn hrn => ?_⟩
        · have l1 := Paired.length pr6
          have l2 := Paired.length I6.prs
          rw [sizeLine_eq]
          omega
        have sn := same_new' (o := .lst (ys ++ ys6)) hrn
        have t := Same.tups sn
        refine ⟨_, _, rn, ad6, W6, _, _, rfl, ⟨I6.g.then_ sn, F6, I6.g.none_ hrn, WOff.new I6.g.at_ hrn, paired_append (FPrs.mono t I6.prs) (FPrs.mono t pr6)⟩, (oj.go g6).same sn, ?_, ?_, ?_, ?_⟩
        · show W6.ts.got o = _
          rw [e6, LT.freed_got Ij.wf aj]
          show (Wj.gm o).erase v = _
          rw [gj, hd]
          simp
        · rw [e6]
          exact LT.freed_asks Ij.wf aj
        · rw [List.length_append]
          omega
        · rw [eq, hd, e6]
          show (ps ++ ((LT.freed c.M c.U Wj.ts o v).1 ++ _), _) = _
          rw [← List.append_assoc]
          rfl
      · obtain ⟨x, y, rj, adj, Wj, ys, ps, rfl, Ij, oj, gj, aj, pl, eq⟩ := p
        rw [List.drop_length] at eq
        have eq : LT.finish c.M c.U W.ts o = (ps, Wj.ts) := by rw [eq]; show (ps ++ [], Wj.ts) = _; rw [List.append_nil]
        exact ⟨_, rfl, k Hj adj Wj rj ys Ij.g (by rw [eq]) Ij.nr Ij.fnd (by rw [eq]; exact Ij.prs)⟩
end Lk
end
section
set_option maxRecDepth 100000
set_option maxHeartbeats 1000000
/-! The law's scene. -/
namespace Lk
open PySem L2
open Mx (pe_msetd pe_mget pe_mget2 ps_mput pe_mnew pe_mayLock ps_mayLock pi_itemsN pi_itemsM fresh_dK fresh_mix)

def scOwn : List Int := [0, 1, 2, 3, 10 ^ 40, 5, 11]
def scU : List Int := [0, 1, 2, 3, 5, 11, 20, 21, 10 ^ 40]
def scJ (t1 t2 t3 : Addr) : List V := [.str "a", .ref t1, .str "bb", .ref t2, .ref t3]
def scKof (t1 t2 t3 : Addr) : V → NestedKey
  | .str x => .text x
  | .ref a => if a = t1 then .tup [.text "a", .num 0] else if a = t2 then .tup [.text "t", .num (-3)] else .tup [.text "t", .num (10 ^ 50)]
  | _ => .none
def scC (CT CS : Addr) (d : MDat) (mo t1 t2 t3 : Addr) : Tc := ⟨CT, CS, scKof t1 t2 t3, scJ t1 t2 t3, scU, d, mo⟩
theorem scC_ok {K : PySem.W.Frag} {H : Hp} {CT CS : Addr} {d : MDat} {mo t1 t2 t3 : Addr} (h1 : H t1 = some (.tup [.str "a", .int 0])) (h2 : H t2 = some (.tup [.str "t", .int (-3)])) (h3 : H t3 = some (.tup [.str "t", .int (10 ^ 50)])) (n12 : t1 ≠ t2) (n13 : t1 ≠ t3) (n23 : t2 ≠ t3) (ms : Modes K H mo d) (ck : d.chk) :
    (scC CT CS d mo t1 t2 t3).Ok K H := by
  have na : IsName "a" := ⟨by decide, by decide, by decide⟩
  have nb : IsName "bb" := ⟨by decide, by decide, by decide⟩
  have nt : IsName "t" := ⟨by decide, by decide, by decide⟩
  have e1 : scKof t1 t2 t3 (.ref t1) = .tup [.text "a", .num 0] := if_pos rfl
  have e2 : scKof t1 t2 t3 (.ref t2) = .tup [.text "t", .num (-3)] := by
    show (if t2 = t1 then _ else if t2 = t2 then _ else _) = _
    rw [if_neg n12.symm, if_pos rfl]
  have e3 : scKof t1 t2 t3 (.ref t3) = .tup [.text "t", .num (10 ^ 50)] := by
    show (if t3 = t1 then _ else if t3 = t2 then _ else _) = _
    rw [if_neg n13.symm, if_neg n23.symm]
  have mem : ∀ v, v ∈ scJ t1 t2 t3 → v = .str "a" ∨ v = .ref t1 ∨ v = .str "bb" ∨ v = .ref t2 ∨ v = .ref t3 := fun v hv => by simpa [scJ] using hv
  refine ⟨⟨fun v hv => ?_, fun v hv y hy e => ?_⟩, fun v hv => ?_, show (scJ t1 t2 t3).length ≤ 20 from Nat.le_of_ble_eq_true rfl, show scU.Nodup by decide, show ∀ o ∈ scU, 0 ≤ o by decide, show scU.length ≤ 20 by decide, show scU.Pairwise (· < ·) by decide, ms, ck⟩
  · rcases mem v hv with rfl | rfl | rfl | rfl | rfl
    · exact .str _
    · show Mx.KeyV H (scKof t1 t2 t3 (.ref t1)) (.ref t1); rw [e1]; exact .tup h1
    · exact .str _
    · show Mx.KeyV H (scKof t1 t2 t3 (.ref t2)) (.ref t2); rw [e2]; exact .tup h2
    · show Mx.KeyV H (scKof t1 t2 t3 (.ref t3)) (.ref t3); rw [e3]; exact .tup h3
  · have e : scKof t1 t2 t3 v = scKof t1 t2 t3 y := e
    rcases mem v hv with rfl | rfl | rfl | rfl | rfl <;> rcases mem y hy with rfl | rfl | rfl | rfl | rfl <;> first | rfl | (simp only [e1, e2, e3] at e; first | (cases e; done) | (injection e with e; injection e with e; exact absurd e (by decide)) | (injection e with e; injection e with e5 e6; first | exact absurd e5 (by simp; decide) | (injection e6 with e6; exact absurd e6 (by simp)))) | (exact absurd e (by intro z; injection z with z; exact absurd z (by decide)))
  · rcases mem v hv with rfl | rfl | rfl | rfl | rfl
    · exact .name _ na
    · exact .row na h1
    · exact .name _ nb
    · exact .row nt h2
    · exact .row nt h3
/-- a scene that stands -/
structure Scn (K : PySem.W.Frag) (H : Hp) (c : Tc) (t os is : Addr) (ow : List Int) (it : List V) : Prop where
  ok : c.Ok K H
  at_ : H t = some (.tup [.ref c.mo, .ref os, .ref is])
  os_ : H os = some (.lst (ow.map V.int))
  is_ : H is = some (.lst it)
  one : ow ≠ []
  ine : it ≠ []
  ond : ow.Nodup
  oU : ∀ o ∈ ow, o ∈ c.U
  iJ : ∀ x ∈ it, x ∈ c.J
  ol : ow.length ≤ 7
  il : it.length ≤ 5
  n20 : (20 : Int) ∉ ow
  u20 : (20 : Int) ∈ c.U
  u21 : (21 : Int) ∈ c.U
abbrev spScene (K : PySem.W.Frag) (CT CS : Addr) : Sp := fun vs H Q _ => ∃ (w : Addr) (a b k : Int), vs = [.ref w] ∧ H w = some (.lst (well a b k)) ∧ 0 ≤ a ∧
  ∀ H' (c : Tc) (t os is : Addr) (ow : List Int) (it : List V) (a' b' k' : Int), c.CT = CT → c.CS = CS → Scn K H' c t os is ow it → (∀ b o, H b = some o → b ≠ w → H' b = some o) → H' w = some (.lst (well a' b' k')) → 0 ≤ a' → H os = none → H is = none → Q (.ref t) H'
abbrev s_law_scene : Stmt := top 52
abbrev N_law_scene : List Str := ["_law_well_here", "_law_modes", "_law_owners", "_law_items"]
abbrev P_law_scene : List Str := ["_law_well_here"]
theorem sc_law_scene : FnScope N_law_scene P_law_scene (defScope s_law_scene) := ⟨rfl, rfl, rfl, by decide +kernel, rfl, by decide +kernel, by decide +kernel⟩
theorem ok_law_scene {b : Bs} (CT CS : Addr) (R : Raw b "_law_scene" "_law_scene" s_law_scene P_law_scene) (D_law_one : Df b 2 "_law_one" P_law_one (spOne b.K)) (D_law_menu : Df b 3 "_law_menu" P_law_menu (spMenu b.K)) (D_law_draw : Df b 1 "_law_draw" P_law_draw spDraw) :
    Df b 4 "_law_scene" P_law_scene (spScene b.K CT CS) := by
  refine R.ok sc_law_scene (fun vs H Q E h => ?_) fun f cdv A outer s H vs Q E hr h => ?_
  · obtain ⟨w, a, b, k, rfl, _⟩ := h
    rfl
  · obtain ⟨w, a, b', k, rfl, hw, h0, kk⟩ := h
    refine ⟨_, (pss_cons (ps_set (i := 1) sc_law_scene.nd rfl (Or.inl rfl) (pe_df D_law_one (hr.mono (by decide)) (pa_cons (pv 0) (pa_cons (pe_df0 D_law_menu (hr.mono (by decide))) pa_nil))))
      (pss_cons (ps_set (i := 2) sc_law_scene.nd rfl (Or.inl rfl) (pe_slice sl_list (pe_lst (pa_cons pe_int (pa_cons pe_int (pa_cons pe_int (pa_cons pe_int (pa_cons (pe_op op_pow pe_int pe_int) (pa_cons pe_int (pa_cons pe_int pa_nil)))))))) po_none (po_some (pe_op op_add pe_int (pe_df D_law_draw (hr.mono (by decide)) (pa_cons (pv 0) (pa_cons pe_int pa_nil)))))))
      (pss_cons (ps_set (i := 3) sc_law_scene.nd rfl (Or.inl rfl) (pe_slice sl_list (pe_lst (pa_cons pe_str (pa_cons (pe_tup (pa_cons pe_str (pa_cons pe_int pa_nil))) (pa_cons pe_str (pa_cons (pe_tup (pa_cons pe_str (pa_cons (pe_un un_neg pe_int) pa_nil))) (pa_cons (pe_tup (pa_cons pe_str (pa_cons (pe_op op_pow pe_int pe_int) pa_nil))) pa_nil)))))) po_none (po_some (pe_op op_add pe_int (pe_df D_law_draw (hr.mono (by decide)) (pa_cons (pv 0) (pa_cons pe_int pa_nil)))))))
      (pss_one (ps_ret (pe_tup (pa_cons (pv 1) (pa_cons (pv 2) (pa_cons (pv 3) pa_nil))))))))), ?_⟩
    refine ⟨_, rfl, rfl, fun H1 r xs s1 nr hr1 ne len all => ?_⟩
    have hw1 := s1 _ _ hw
    refine ⟨w, r, a, b', k, xs, rfl, hw1, h0, .inl ⟨hr1, fun e => ?_⟩, ne, len, fun a1 b1 k1 h1 x hx => ?_⟩
    · rw [e, hw] at nr; cases nr
    obtain ⟨mo, d, rfl, ms, ck⟩ := all x hx
    have ms2 := ms.mono (Tups.mut (o := .lst (well a1 b1 k1)) hw1 lst_ne)
    have hw2 : (upd H1 w (.lst (well a1 b1 k1))) w = some (.lst (well a1 b1 k1)) := upd_same
    have k2 : ∀ b o, H b = some o → b ≠ w → (upd H1 w (.lst (well a1 b1 k1))) b = some o := fun b o e n => by rw [upd_ne n]; exact s1 _ _ e
    dsimp only [gName]
    show tSeq _ _ _ _ (upd H1 w (.lst (well a1 b1 k1)))
    generalize upd H1 w (.lst (well a1 b1 k1)) = H2 at ms2 hw2 k2 ⊢
    refine ⟨_, _, rfl, rfl, ⟨by decide, by decide, by decide⟩, sz100 (by simp), fun p hp => ?_⟩
    have sp := same_new' (o := .lst (scOwn.map V.int)) hp
    have hw3 := sp _ _ hw2
    have p3 : (upd H2 p (.lst (scOwn.map V.int))) p = some (.lst (scOwn.map V.int)) := upd_same
    have eL : ([.int 0, .int 1, .int 2, .int 3, .int (10 ^ Int.toNat 40), .int 5, .int 11] : List V) = scOwn.map V.int := by rfl
    rw [eL]
    generalize upd H2 p (.lst (scOwn.map V.int)) = H3 at sp hw3 p3 ⊢
    refine ⟨_, rfl, w, a1, b1, k1, 6, rfl, hw3, h1, by omega, by omega, fun a2 b2 k3 r1 h2 r1a r1b => ⟨_, _, rfl, rfl, _, rfl, ?_⟩⟩
    obtain ⟨n1, rfl⟩ := Int.eq_ofNat_of_zero_le r1a
    have n1b : n1 < 6 := by omega
    have pw : p ≠ w := fun e => by rw [e, hw2] at hp; cases hp
    have p4 : (upd H3 w (.lst (well a2 b2 k3))) p = some (.lst (scOwn.map V.int)) := by rw [upd_ne pw]; exact p3
    have k4 : ∀ b o, H b = some o → b ≠ w → (upd H3 w (.lst (well a2 b2 k3))) b = some o := fun b o e n => by rw [upd_ne n]; exact sp _ _ (k2 b o e n)
    have ms4 := (ms2.mono (Same.tups sp)).mono (Tups.mut (o := .lst (well a2 b2 k3)) hw3 lst_ne)
    have hw4 : (upd H3 w (.lst (well a2 b2 k3))) w = some (.lst (well a2 b2 k3)) := upd_same
    generalize upd H3 w (.lst (well a2 b2 k3)) = H4 at p4 k4 ms4 hw4 ⊢
    refine ⟨p, _, rfl, .inl (.inl p4), fun os hos => ?_⟩
    have ecut : cutV (scOwn.map V.int) none (some (2 + (n1 : Int))) = (scOwn.take (2 + n1)).map V.int := by
      have := cut_to (scOwn.map V.int) (k := 2 + n1) (by rw [List.length_map]; show 2 + n1 ≤ 7; omega)
      rw [show ((2 + n1 : Nat) : Int) = 2 + (n1 : Int) from by omega] at this
      rw [this, List.map_take]
    rw [ecut]
    have so := same_new' (o := .lst ((scOwn.take (2 + n1)).map V.int)) hos
    have os5 : (upd H4 os (.lst ((scOwn.take (2 + n1)).map V.int))) os = some (.lst ((scOwn.take (2 + n1)).map V.int)) := upd_same
    have nos : H os = none := by
      cases e : H os with
      | none => rfl
      | some o =>
        by_cases ew : os = w
        · rw [ew, hw4] at hos; cases hos
        · rw [k4 os o e ew] at hos; cases hos
    have ow : os ≠ w := fun e => by rw [e, hw4] at hos; cases hos
    have k5 : ∀ b o, H b = some o → b ≠ w → (upd H4 os (.lst ((scOwn.take (2 + n1)).map V.int))) b = some o := fun b o e n => so _ _ (k4 b o e n)
    have ms5 := ms4.mono (Same.tups so)
    have hw5 := so _ _ hw4
    dsimp only [gName]
    show tSeq _ _ _ _ (upd H4 os (.lst ((scOwn.take (2 + n1)).map V.int)))
    generalize upd H4 os (.lst ((scOwn.take (2 + n1)).map V.int)) = H5 at os5 k5 ms5 hw5 ⊢
    refine ⟨two_le, fun t1 ht1 => ⟨_, rfl, two_le, fun t2 ht2 => ⟨_, _, rfl, rfl, ⟨by decide, by decide, by decide⟩, two_le, fun t3 ht3 => ⟨sz100 (by simp), fun q hq => ?_⟩⟩⟩⟩
    have ht2 : (upd H5 t1 (.tup [.str "a", .int 0])) t2 = none := ht2
    have ht3 : (upd (upd H5 t1 (.tup [.str "a", .int 0])) t2 (.tup [.str "t", .int (-3)])) t3 = none := ht3
    have hq : (upd (upd (upd H5 t1 (.tup [.str "a", .int 0])) t2 (.tup [.str "t", .int (-3)])) t3 (.tup [.str "t", .int (10 ^ 50)])) q = none := hq
    have s1' := same_new' (o := .tup [.str "a", .int 0]) ht1
    have s2' := same_new' (o := .tup [.str "t", .int (-3)]) ht2
    have s3' := same_new' (o := .tup [.str "t", .int (10 ^ 50)]) ht3
    have s4' := same_new' (o := .lst (scJ t1 t2 t3)) hq
    have x1 := s4' _ _ (s3' _ _ (s2' _ _ (upd_same (H := H5) (a := t1) (o := .tup [.str "a", .int 0]))))
    have x2 := s4' _ _ (s3' _ _ (upd_same (H := upd H5 t1 (.tup [.str "a", .int 0])) (a := t2) (o := .tup [.str "t", .int (-3)])))
    have x3 := s4' _ _ (upd_same (H := upd (upd H5 t1 (.tup [.str "a", .int 0])) t2 (.tup [.str "t", .int (-3)])) (a := t3) (o := .tup [.str "t", .int (10 ^ 50)]))
    have x4 := upd_same (H := upd (upd (upd H5 t1 (.tup [.str "a", .int 0])) t2 (.tup [.str "t", .int (-3)])) t3 (.tup [.str "t", .int (10 ^ 50)])) (a := q) (o := .lst (scJ t1 t2 t3))
    have n12 : t1 ≠ t2 := ne_of_none (upd_same (H := H5) (a := t1) (o := .tup [.str "a", .int 0])) ht2
    have n13 : t1 ≠ t3 := ne_of_none (s2' _ _ (upd_same (H := H5) (a := t1) (o := .tup [.str "a", .int 0]))) ht3
    have n23 : t2 ≠ t3 := ne_of_none (upd_same (H := upd H5 t1 (.tup [.str "a", .int 0])) (a := t2) (o := .tup [.str "t", .int (-3)])) ht3
    have st := Same.trans s1' (Same.trans s2' (Same.trans s3' s4'))
    have os6 := st _ _ os5
    have hw6 := st _ _ hw5
    have ms6 := ms5.mono (Same.tups st)
    have k6 : ∀ b o, H b = some o → b ≠ w → (upd (upd (upd (upd H5 t1 (.tup [.str "a", .int 0])) t2 (.tup [.str "t", .int (-3)])) t3 (.tup [.str "t", .int (10 ^ 50)])) q (.lst (scJ t1 t2 t3))) b = some o := fun b o e n => st _ _ (k5 b o e n)
    have eJ : ([.str "a", .ref t1, .str "bb", .ref t2, .ref t3] : List V) = scJ t1 t2 t3 := rfl
    have e50 : (V.int ((10 : Int) ^ Int.toNat 50)) = V.int (10 ^ 50) := rfl
    dsimp only
    rw [eJ, e50]
    generalize upd (upd (upd (upd H5 t1 (.tup [.str "a", .int 0])) t2 (.tup [.str "t", .int (-3)])) t3 (.tup [.str "t", .int (10 ^ 50)])) q (.lst (scJ t1 t2 t3)) = H6 at x1 x2 x3 x4 os6 hw6 ms6 k6 ⊢
    refine ⟨_, rfl, w, a2, b2, k3, 5, rfl, hw6, h2, by omega, by omega, fun a3 b3 k7 r2 h3 r2a r2b => ⟨_, _, rfl, rfl, _, rfl, ?_⟩⟩
    obtain ⟨n2, rfl⟩ := Int.eq_ofNat_of_zero_le r2a
    have n2b : n2 < 5 := by omega
    have tm : Tups H6 (upd H6 w (.lst (well a3 b3 k7))) := Tups.mut hw6 lst_ne
    have qw : q ≠ w := fun e => by rw [e, hw6] at x4; injection x4 with x4; injection x4 with x4; exact absurd (congrArg List.length x4) (show (3 : Nat) ≠ 5 by decide)
    have y1 := tm _ _ x1
    have y2 := tm _ _ x2
    have y3 := tm _ _ x3
    have y4 : (upd H6 w (.lst (well a3 b3 k7))) q = some (.lst (scJ t1 t2 t3)) := by rw [upd_ne qw]; exact x4
    have os7 : (upd H6 w (.lst (well a3 b3 k7))) os = some (.lst ((scOwn.take (2 + n1)).map V.int)) := by rw [upd_ne ow]; exact os6
    have ms7 := ms6.mono tm
    have k7' : ∀ b o, H b = some o → b ≠ w → (upd H6 w (.lst (well a3 b3 k7))) b = some o := fun b o e n => by rw [upd_ne n]; exact k6 b o e n
    have hw7 : (upd H6 w (.lst (well a3 b3 k7))) w = some (.lst (well a3 b3 k7)) := upd_same
    generalize upd H6 w (.lst (well a3 b3 k7)) = H7 at y1 y2 y3 y4 os7 ms7 k7' hw7 ⊢
    refine ⟨q, _, rfl, .inl (.inl y4), fun is his => ?_⟩
    have ecut2 : cutV (scJ t1 t2 t3) none (some (1 + (n2 : Int))) = (scJ t1 t2 t3).take (1 + n2) := by
      have := cut_to (scJ t1 t2 t3) (k := 1 + n2) (by show 1 + n2 ≤ 5; omega)
      rw [show ((1 + n2 : Nat) : Int) = 1 + (n2 : Int) from by omega] at this
      exact this
    rw [ecut2]
    have nis : H is = none := by
      cases e : H is with
      | none => rfl
      | some o =>
        by_cases ew : is = w
        · rw [ew, hw7] at his; cases his
        · rw [k7' is o e ew] at his; cases his
    have s8 := same_new' (o := .lst ((scJ t1 t2 t3).take (1 + n2))) his
    refine ⟨_, rfl, _, rfl, _, rfl, three_le, fun t ht => ?_⟩
    have s9 := same_new' (o := .tup [.ref mo, .ref os, .ref is]) ht
    have sx := Same.trans s8 s9
    refine kk _ (scC CT CS d mo t1 t2 t3) t os is (scOwn.take (2 + n1)) ((scJ t1 t2 t3).take (1 + n2)) a3 b3 k7 rfl rfl ⟨scC_ok (sx _ _ y1) (sx _ _ y2) (sx _ _ y3) n12 n13 n23 (ms7.mono (Same.tups sx)) ck, upd_same, sx _ _ os7, s9 _ _ upd_same, ?_, ?_, ?_, ?_, ?_, ?_, ?_, ?_, ?_, ?_⟩ (fun b o e n => sx _ _ (k7' b o e n)) (sx _ _ hw7) h3 nos nis
    · intro e; have := congrArg List.length e; rw [List.length_take] at this; have h7 : scOwn.length = 7 := rfl; rw [h7] at this; simp at this
    · intro e; have := congrArg List.length e; rw [List.length_take] at this; have h7 : (scJ t1 t2 t3).length = 5 := rfl; rw [h7] at this; simp at this
    · exact List.Nodup.sublist (List.take_sublist _ _) (show scOwn.Nodup by decide)
    · intro o ho
      exact (show ∀ o ∈ scOwn, o ∈ scU by decide) o (List.mem_of_mem_take ho)
    · intro x hx
      exact List.mem_of_mem_take hx
    · rw [List.length_take]; have h7 : scOwn.length = 7 := rfl; omega
    · rw [List.length_take]; have h7 : (scJ t1 t2 t3).length = 5 := rfl; omega
    · exact fun h => (show (20 : Int) ∉ scOwn by decide) (List.mem_of_mem_take h)
    · show (20 : Int) ∈ scU; decide
    · show (21 : Int) ∈ scU; decide
end Lk
end
section
set_option maxRecDepth 100000
set_option maxHeartbeats 1000000
/-! Where the things of one turn of the law stand, side by side; pairs as data. -/
namespace Lk
open PySem L2

section
variable {H H' : Hp} {S S' R : Addr → Prop}
theorem Aft.orL (f : Aft S H S' H') : Aft (fun a => S a ∨ R a) H (fun a => S' a ∨ R a) H' := ⟨fun a o h n => f.keep a o h fun z => n (.inl z), fun a h => h.elim (fun z => (f.new a z).imp .inl id) fun z => .inl (.inr z)⟩
theorem Aft.orR (f : Aft S H S' H') : Aft (fun a => R a ∨ S a) H (fun a => R a ∨ S' a) H' := ⟨fun a o h n => f.keep a o h fun z => n (.inr z), fun a h => h.elim (fun z => .inl (.inl z)) fun z => (f.new a z).imp .inr id⟩
theorem dj_aft (lv : ∀ a, R a → ∃ o, H a = some o) (f : Aft S H S' H') (dj : ∀ a, S a → ¬ R a) : ∀ a, S' a → ¬ R a := fun a h r => (f.new a h).elim (fun z => dj a z r) fun z => by
  obtain ⟨o, e⟩ := lv a r
  rw [e] at z; cases z
theorem live_aft (lv : ∀ a, R a → ∃ o, H a = some o) (f : Aft S H S' H') (dj : ∀ a, S a → ¬ R a) : ∀ a, R a → ∃ o, H' a = some o := fun a r => by
  obtain ⟨o, e⟩ := lv a r
  exact ⟨o, f.keep a o e fun z => dj a z r⟩
theorem aft_one {wl : Addr} {o u : HO} (h : H wl = some u) : Aft (fun a => a = wl) H (fun a => a = wl) (upd H wl o) := ⟨fun a o e n => by rw [upd_ne n]; exact e, fun a h => .inl h⟩
end
theorem own_live {w : World} {c : Tc} {H : Hp} {ad : Ad} {D : Dt} (A : At w c H ad D) : ∀ a, Own ad D a → ∃ o, H a = some o := fun a h => by
  obtain ⟨t, _, e⟩ := A.live h
  exact ⟨_, e⟩
theorem wown_live {w : World} {c : Tc} {H : Hp} {ad : WAd} {W : Wt} (A : WAt w c H ad W) : ∀ a, WOwn ad W a → ∃ o, H a = some o := fun a h => by
  obtain ⟨t, _, e⟩ := A.live_ h
  exact ⟨_, e⟩
/-- the scene and the well of one turn -/
structure Pl (K : PySem.W.Frag) (c : Tc) (H0 H : Hp) (t os is wl : Addr) (ow : List Int) (it : List V) : Prop where
  sc : Scn K H c t os is ow it
  kp : Same H0 H
  well : ∃ a b k, H wl = some (.lst (well a b k)) ∧ 0 ≤ a
  nw : H0 wl = none
  nos : H0 os = none
  nis : H0 is = none
  wo : wl ≠ os
  wi : wl ≠ is
/-- a region beside them -/
structure Rg (H0 H : Hp) (os is wl : Addr) (S : Addr → Prop) : Prop where
  new : ∀ a, S a → H0 a = none
  live : ∀ a, S a → ∃ o, H a = some o
  wl : ¬ S wl
  os : ¬ S os
  is : ¬ S is
section
variable {K : PySem.W.Frag} {c : Tc} {H0 H H' : Hp} {t os is wl : Addr} {ow : List Int} {it : List V} {S S' R : Addr → Prop}
theorem Scn.keep (s : Scn K H c t os is ow it) (tp : Tups H H') (h1 : H' os = some (.lst (ow.map V.int))) (h2 : H' is = some (.lst it)) : Scn K H' c t os is ow it :=
  ⟨s.ok.mono tp, tp _ _ s.at_, h1, h2, s.one, s.ine, s.ond, s.oU, s.iJ, s.ol, s.il, s.n20, s.u20, s.u21⟩
theorem Pl.aft (p : Pl K c H0 H t os is wl ow it) (r : Rg H0 H os is wl S) (f : Aft S H S' H') (tp : Tups H H') : Pl K c H0 H' t os is wl ow it := by
  refine ⟨p.sc.keep tp (f.keep _ _ p.sc.os_ r.os) (f.keep _ _ p.sc.is_ r.is), fun a o e => f.keep a o (p.kp a o e) fun z => ?_, ?_, p.nw, p.nos, p.nis, p.wo, p.wi⟩
  · rw [r.new a z] at e; cases e
  · obtain ⟨a, b, k, e, h⟩ := p.well
    exact ⟨a, b, k, f.keep _ _ e r.wl, h⟩
theorem Pl.same (p : Pl K c H0 H t os is wl ow it) (s : Same H H') : Pl K c H0 H' t os is wl ow it := by
  refine ⟨p.sc.keep (Same.tups s) (s _ _ p.sc.os_) (s _ _ p.sc.is_), Same.trans p.kp s, ?_, p.nw, p.nos, p.nis, p.wo, p.wi⟩
  obtain ⟨a, b, k, e, h⟩ := p.well
  exact ⟨a, b, k, s _ _ e, h⟩
theorem Pl.none_ (p : Pl K c H0 H t os is wl ow it) {a : Addr} (h : H a = none) : H0 a = none := none_same p.kp h
theorem Rg.aft (r : Rg H0 H os is wl S) (p : Pl K c H0 H t os is wl ow it) (f : Aft S H S' H') (lv : ∀ a, S' a → ∃ o, H' a = some o) : Rg H0 H' os is wl S' := by
  refine ⟨fun a h => (f.new a h).elim (r.new a) p.none_, lv, fun h => ?_, fun h => ?_, fun h => ?_⟩
  · obtain ⟨a, b, k, e, _⟩ := p.well
    exact (f.new _ h).elim r.wl fun z => by rw [e] at z; cases z
  · exact (f.new _ h).elim r.os fun z => by rw [p.sc.os_] at z; cases z
  · exact (f.new _ h).elim r.is fun z => by rw [p.sc.is_] at z; cases z
theorem Rg.other (q : Rg H0 H os is wl R) (f : Aft S H S' H') (dj : ∀ a, S a → ¬ R a) : Rg H0 H' os is wl R := ⟨q.new, live_aft q.live f dj, q.wl, q.os, q.is⟩
theorem Rg.same (q : Rg H0 H os is wl R) (s : Same H H') : Rg H0 H' os is wl R := ⟨q.new, fun a h => let ⟨o, e⟩ := q.live a h; ⟨o, s _ _ e⟩, q.wl, q.os, q.is⟩
theorem Pl.wtup (p : Pl K c H0 H t os is wl ow it) {o : HO} : Tups H (upd H wl o) := by
  obtain ⟨a, b, k, e, _⟩ := p.well
  exact Tups.mut e lst_ne
theorem Pl.set (p : Pl K c H0 H t os is wl ow it) {a' b' k' : Int} (h : 0 ≤ a') : Pl K c H0 (upd H wl (.lst (Lk.well a' b' k'))) t os is wl ow it := by
  refine ⟨p.sc.keep p.wtup (by rw [upd_ne p.wo.symm]; exact p.sc.os_) (by rw [upd_ne p.wi.symm]; exact p.sc.is_), fun a o e => ?_, ⟨a', b', k', upd_same, h⟩, p.nw, p.nos, p.nis, p.wo, p.wi⟩
  rw [upd_ne (ne_of_none e p.nw)]
  exact p.kp a o e
theorem Rg.set (q : Rg H0 H os is wl R) {o : HO} : Rg H0 (upd H wl o) os is wl R := ⟨q.new, fun a h => by
  obtain ⟨u, e⟩ := q.live a h
  exact ⟨u, by rw [upd_ne fun z : a = wl => q.wl (by rw [← z]; exact h)]; exact e⟩, q.wl, q.os, q.is⟩
theorem Pl.aset (p : Pl K c H0 H t os is wl ow it) {o : HO} : Aft (fun a => a = wl) H (fun a => a = wl) (upd H wl o) := by
  obtain ⟨a, b, k, e, _⟩ := p.well
  exact aft_one e
end
/-- a table and the law's own, side by side -/
structure Both (b : Bs) (c : Tc) (H0 : Hp) (t os is wl : Addr) (ow : List Int) (it : List V) (H : Hp) (ad : Ad) (D : Dt) (wad : WAd) (W : Wt) : Prop where
  pl : Pl b.K c H0 H t os is wl ow it
  A : At b.w c H ad D
  B : WAt b.w c H wad W
  ra : Rg H0 H os is wl (Own ad D)
  rb : Rg H0 H os is wl (WOwn wad W)
  dj : ∀ a, Own ad D a → ¬ WOwn wad W a
section
variable {b : Bs} {c : Tc} {H0 H H' : Hp} {t os is wl : Addr} {ow : List Int} {it : List V} {ad ad' : Ad} {D D' : Dt} {wad wad' : WAd} {W W' : Wt}
theorem Both.ok (x : Both b c H0 t os is wl ow it H ad D wad W) : c.Ok b.K H := x.pl.sc.ok
theorem Both.same (x : Both b c H0 t os is wl ow it H ad D wad W) (s : Same H H') : Both b c H0 t os is wl ow it H' ad D wad W := ⟨x.pl.same s, x.A.same s, x.B.same s, x.ra.same s, x.rb.same s, x.dj⟩
theorem Both.set (x : Both b c H0 t os is wl ow it H ad D wad W) {a' b' k' : Int} (h : 0 ≤ a') : Both b c H0 t os is wl ow it (upd H wl (.lst (well a' b' k'))) ad D wad W := by
  obtain ⟨a, b2, k, e, _⟩ := x.pl.well
  exact ⟨x.pl.set h, x.A.off x.ra.wl e lst_ne, x.B.off x.rb.wl e lst_ne, x.ra.set, x.rb.set, x.dj⟩
theorem Both.tab (x : Both b c H0 t os is wl ow it H ad D wad W) (g : Go b.w c H ad D H' ad' D') : Both b c H0 t os is wl ow it H' ad' D' wad W := by
  have tp := Go.tups x.A g
  exact ⟨x.pl.aft x.ra g.aft tp, g.at_, x.B.apart g.aft (fun a h z => x.dj a z h) tp, x.ra.aft x.pl g.aft (own_live g.at_), x.rb.other g.aft x.dj, dj_aft x.rb.live g.aft x.dj⟩
theorem Both.wor (x : Both b c H0 t os is wl ow it H ad D wad W) (g : WGo b.w c H wad W H' wad' W') : Both b c H0 t os is wl ow it H' ad D wad' W' := by
  have tp := WGo.tups x.B g
  have dj : ∀ a, WOwn wad W a → ¬ Own ad D a := fun a h z => x.dj a z h
  exact ⟨x.pl.aft x.rb g.aft tp, x.A.apart g.aft x.dj tp, g.at_, x.ra.other g.aft dj, x.rb.aft x.pl g.aft (wown_live g.at_), fun a h z => dj_aft x.ra.live g.aft dj a z h⟩
end
/-! pairs as data -/
abbrev dWp (c : Tc) (e : Int × V) : PyData := .tuple [.int e.1, dI c.kof e.2]
section
variable {K : PySem.W.Frag} {c : Tc} {H : Hp}
theorem dp_FPr (O : c.Ok K H) {y : V} {e : Int × V} (h : FPr H y e) (hJ : e.2 ∈ c.J) : Dp K H y (dWp c e) := by
  obtain ⟨p, rfl, hp⟩ := h
  exact .tup (.inl (.inl hp)) (.cons (.int _) (.cons (dp_I O.it hJ) .nil))
theorem dp_FPrs (O : c.Ok K H) : ∀ {ys : List V} {ps : List (Int × V)}, Paired (FPr H) ys ps → (∀ e ∈ ps, e.2 ∈ c.J) → DpAll K H ys (ps.map (dWp c))
  | _, _, .nil, _ => .nil
  | _, _, .cons h t, g => .cons (dp_FPr O h (g _ (.head _))) (dp_FPrs O t fun e he => g e (.tail _ he))
theorem sh_FPrs (O : c.Ok K H) {ps : List (Int × V)} (g : ∀ e ∈ ps, e.2 ∈ c.J) : ∀ z ∈ ps.map (dWp c), Sh 2 z := fun z hz => by
  obtain ⟨e, he, rfl⟩ := List.mem_map.mp hz
  refine Sh.tup (n := 1) fun y hy => ?_
  rcases List.mem_cons.mp hy with rfl | hy
  · exact Sh.int _
  · rw [List.mem_singleton.mp hy]
    exact sh_I O.it (fun v hv => O.key hv) (g e he)
theorem eq_prs {r1 r2 : Addr} {ys1 ys2 : List V} {ps : List (Int × V)} {Q : VK} (O : c.Ok K H) (h1 : H r1 = some (.lst ys1)) (p1 : Paired (FPr H) ys1 ps) (h2 : H r2 = some (.lst ys2)) (p2 : Paired (FPr H) ys2 ps) (g : ∀ e ∈ ps, e.2 ∈ c.J) (q : Q (.bl true) H) : rEqD K (.ref r1) (.ref r2) H Q := by
  have s := Sh.lst (sh_FPrs O g)
  refine ⟨.list (ps.map (dWp c)), .list (ps.map (dWp c)), .lst (.inl (.inl h1)) (dp_FPrs O p1 g), .lst (.inl (.inl h2)) (dp_FPrs O p2 g), s.ok (by omega), s.ok (by omega), ?_⟩
  rw [PySem.SeqAt.eqv_refl _ s.1]
  exact q
end
section
variable {c : Tc}
theorem serveC_it {i : V} : ∀ (l : List Int) (ts : LT.TS V Str), ∀ e ∈ (LT.serveC c.M c.U i l ts).1, e.2 = i
  | [], _, e, h => by cases h
  | o :: l, ts, e, h => by
    unfold LT.serveC at h
    cases ha : ts.asks o with
    | none => rw [ha] at h; exact serveC_it l ts e h
    | some p =>
      rw [ha] at h
      dsimp only at h
      by_cases hl : LT.lets c.M c.U ts o i p.2 = true
      · rw [if_pos hl] at h
        rcases List.mem_cons.mp h with rfl | h
        · rfl
        · exact serveC_it l _ e h
      · rw [if_neg hl] at h
        exact serveC_it l ts e h
theorem serveQ_it {i : V} : ∀ (l : List Int) (ts : LT.TS V Str), ∀ e ∈ (LT.serveQ c.M c.U i l ts).1, e.2 = i
  | [], _, e, h => by cases h
  | o :: l, ts, e, h => by
    unfold LT.serveQ at h
    by_cases hc : ts.conv i = []
    · rw [if_pos hc] at h
      cases ha : ts.asks o with
      | none => rw [ha] at h; cases h
      | some p =>
        rw [ha] at h
        dsimp only at h
        by_cases hl : LT.lets c.M c.U ts o i p.2 = true
        · rw [if_pos hl] at h
          rcases List.mem_cons.mp h with rfl | h
          · rfl
          · exact serveQ_it l _ e h
        · rw [if_neg hl] at h; cases h
    · rw [if_neg hc] at h; cases h
theorem serve_it {i : V} (ts : LT.TS V Str) : ∀ e ∈ (LT.serve c.M c.U ts i).1, e.2 = i := fun e h => (List.mem_append.mp h).elim (serveC_it _ _ e) (serveQ_it _ _ e)
theorem freeAll_it {o : Int} : ∀ (l : List V) (ts : LT.TS V Str), ∀ e ∈ (LT.freeAll c.M c.U o l ts).1, e.2 ∈ l
  | [], _, e, h => by cases h
  | i :: l, ts, e, h => (List.mem_append.mp h).elim (fun z => by rw [serve_it _ e z]; exact .head _) fun z => .tail _ (freeAll_it l _ e z)
theorem finish_it {ts : LT.TS V Str} {o : Int} (F : LT.WF c.U c.J c.B ts) : ∀ e ∈ (LT.finish c.M c.U ts o).1, e.2 ∈ c.J := fun e h => by
  have gJ : ∀ (t2 : LT.TS V Str), LT.WF c.U c.J c.B t2 → ∀ x ∈ t2.got o, x ∈ c.J := fun t2 F2 x hx => by
    have z := (F2.gotIff o x).mp hx
    cases e : t2.held x o with
    | none => exact (z e).elim
    | some m => exact (F2.heldIn x o m e).2.1
  rcases List.mem_append.mp h with h | h
  · unfold LT.quit at h
    cases ha : ts.asks o with
    | none => rw [ha] at h; cases h
    | some p =>
      rw [ha] at h
      rw [serve_it _ e h]
      exact (F.asksU o p.1 p.2 ha).2
  · exact gJ _ ((LT.quit_steps F).1.wf F) _ (freeAll_it _ _ e h)
end
end Lk
end
section
set_option maxRecDepth 100000
set_option maxHeartbeats 1000000
/-! The law's step. -/
namespace Lk
open PySem L2
open Mx (pe_msetd pe_mget pe_mget2 ps_mput pe_mnew pe_mayLock ps_mayLock pi_itemsN pi_itemsM fresh_dK fresh_mix)

/-- what the two tables' contents have in common -/
structure Lg (c : Tc) (ow : List Int) (D : Dt) (W : Wt) : Prop where
  wf : Wf c D
  eq : W.ts = D.ts
  ask : ∀ o p, D.ts.asks o = some p → o ∈ ow
theorem Lg.wwf {c : Tc} {ow : List Int} {D : Dt} {W : Wt} (l : Lg c ow D W) : WWf c W := by
  show LT.WF c.U c.J c.B W.ts
  rw [l.eq]; exact l.wf
abbrev spStep (b : Bs) (c : Tc) : Sp := fun vs H Q _ => ∃ (H0 : Hp) (t os is wl : Addr) (ow : List Int) (it : List V) (ad : Ad) (D : Dt) (wad : WAd) (W : Wt), vs = [.ref wl, .ref t, .ref (wad .wd), .ref (ad.at_ .tab)] ∧ Both b c H0 t os is wl ow it H ad D wad W ∧ Lg c ow D W ∧
  ∀ H' ad' D' wad' W', Both b c H0 t os is wl ow it H' ad' D' wad' W' → Lg c ow D' W' → ad'.at_ .tab = ad.at_ .tab → wad' .wd = wad .wd → Q (.bl true) H'
abbrev s_law_step : Stmt := top 53
abbrev N_law_step : List Str := ["_law_well_here", "_law_scene_here", "_law_world_here", "_law_table", "_law_modes", "_law_owners", "_law_items", "_law_owner", "_law_item", "_law_mode", "_law_way", "_law_got"]
abbrev P_law_step : List Str := ["_law_well_here", "_law_scene_here", "_law_world_here", "_law_table"]
theorem sc_law_step : FnScope N_law_step P_law_step (defScope s_law_step) := ⟨rfl, rfl, rfl, by decide +kernel, rfl, by decide +kernel, by decide +kernel⟩
theorem ok_law_step {b : Bs} {c : Tc} (R : Raw b "_law_step" "_law_step" s_law_step P_law_step) (K : ClsOk b.K c) (T : Tops b) (D_law_one : Df b 2 "_law_one" P_law_one (spOne b.K)) (D_law_draw : Df b 1 "_law_draw" P_law_draw spDraw)
    (D_finish : Mt b 7 c.CT "finish" P_LockTable_finish (spFinish b c)) (D_let_go : Mt b 7 c.CT "let_go" P_LockTable_let_go (spLetGo b c)) (D_ask : Mt b 5 c.CT "ask" P_LockTable_ask (spAsk b c))
    (D_law_ended : Df b 4 "_law_ended" P_law_ended (spWEnded b c)) (D_law_freed : Df b 3 "_law_freed" P_law_freed (spWFreed b c)) (D_law_asked : Df b 2 "_law_asked" P_law_asked (spWAsked b c)) : Df b 8 "_law_step" P_law_step (spStep b c) := by
  refine R.ok sc_law_step (fun vs H Q E h => ?_) fun f cdv A outer s H vs Q E hr h => ?_
  · obtain ⟨_, _, _, _, _, _, _, _, _, _, _, rfl, _⟩ := h
    rfl
  · obtain ⟨H0, t, os, is, wl, ow, it, ad, D, wad, W, rfl, X0, L0, k⟩ := h
    refine ⟨_, (pss_cons (ps_asg (pv 1) (pg_tup rfl (pgs_cons (pg_name (i := 4) sc_law_step.nd rfl (Or.inl rfl)) (pgs_cons (pg_name (i := 5) sc_law_step.nd rfl (Or.inl rfl)) (pgs_cons (pg_name (i := 6) sc_law_step.nd rfl (Or.inl rfl)) pgs_nil)))))
      (pss_cons (ps_par (i := 7) (j := 8) rfl sc_law_step.nd rfl rfl (by decide) rfl rfl (pa_cons (pe_df D_law_one (hr.mono (by decide)) (pa_cons (pv 0) (pa_cons (pv 5) pa_nil))) (pa_cons (pe_df D_law_one (hr.mono (by decide)) (pa_cons (pv 0) (pa_cons (pv 6) pa_nil))) pa_nil)) (by rfl))
      (pss_cons (ps_par3 (i := 9) (j := 10) (l := 11) rfl sc_law_step.nd rfl rfl rfl (by decide) (by decide) (by decide) rfl rfl rfl (pa_cons (pe_df D_law_one (hr.mono (by decide)) (pa_cons (pv 0) (pa_cons (pe_ix ix_tup (pv 4) pe_int (fun _ _ => rfl)) pa_nil))) (pa_cons (pe_df D_law_draw (hr.mono (by decide)) (pa_cons (pv 0) (pa_cons pe_int pa_nil))) (pa_cons (pe_dget2 (hu_of hr) (pe_dget (hu_of hr) (pv 2) pe_str (fun _ _ => rfl)) (pv 7) (pe_lst pa_nil) ⟨rfl, rfl, rfl, rfl⟩) pa_nil))) (by rfl))
      (pss_cons (ps_if (PW.pt (pw_and (pt_cmp (pc_din (hu_of hr) (pv 7) (pe_dget (hu_of hr) (pv 2) pe_str (fun _ _ => rfl)))) (pw_and1 (pt_cmpR op_gt (pv 10) pe_int (nomark _))))) (pss_one (ps_ret pe_bl)) pss_nil)
      (pss_cons (ps_if (pt_cmpR op_eq (pv 10) pe_int (nomark _)) (pss_one (ps_ret (pe_cmpR (op_eqD hr.units) (pe_mtd D_finish (pv 3) (hr.mono (by decide)) (pa_cons (pv 7) pa_nil)) (pe_df D_law_ended (hr.mono (by decide)) (pa_cons (pv 4) (pa_cons (pv 2) (pa_cons (pv 7) pa_nil)))) (nomark _)))) pss_nil)
      (pss_cons (ps_if (PW.pt (pw_and (pt_cmpR op_eq (pv 10) pe_int (nomark _)) (pw_and1 (pt_cmpR (op_neD hr.units) (pv 11) (pe_lst pa_nil) (nomark _))))) (pss_cons (ps_set (i := 8) sc_law_step.nd rfl (Or.inl rfl) (pe_df D_law_one (hr.mono (by decide)) (pa_cons (pv 0) (pa_cons (pv 11) pa_nil))))
      (pss_one (ps_ret (pe_cmpR (op_eqD hr.units) (pe_mtd D_let_go (pv 3) (hr.mono (by decide)) (pa_cons (pv 7) (pa_cons (pv 8) pa_nil))) (pe_df D_law_freed (hr.mono (by decide)) (pa_cons (pv 4) (pa_cons (pv 2) (pa_cons (pv 7) (pa_cons (pv 8) pa_nil))))) (nomark _))))) pss_nil)
      (pss_one (ps_ret (pe_cmpR op_eq (pe_mtd D_ask (pv 3) (hr.mono (by decide)) (pa_cons (pv 7) (pa_cons (pv 8) (pa_cons (pv 9) pa_nil)))) (pe_df D_law_asked (hr.mono (by decide)) (pa_cons (pv 4) (pa_cons (pv 2) (pa_cons (pv 7) (pa_cons (pv 8) (pa_cons (pv 9) pa_nil)))))) (nomark _)))))))))), ?_⟩
    obtain ⟨a0, b0, k0, hw0, p0⟩ := X0.pl.well
    refine ⟨_, rfl, t, _, rfl, .inl (.inl X0.pl.sc.at_), rfl, _, _, rfl, _, _, rfl, _, _, rfl, rfl, ?_⟩
    refine ⟨_, rfl, _, rfl, wl, os, a0, b0, k0, _, rfl, hw0, p0, .inl ⟨X0.pl.sc.os_, X0.pl.wo.symm⟩, by simpa using X0.pl.sc.one, by rw [List.length_map]; have := X0.pl.sc.ol; omega, fun a1 b1 k1 p1 x hx => ?_⟩
    obtain ⟨o, ho, rfl⟩ := List.mem_map.mp hx
    have X1 := X0.set (b' := b1) (k' := k1) p1
    have hw1 : (upd H wl (.lst (well a1 b1 k1))) wl = some (.lst (well a1 b1 k1)) := upd_same
    generalize upd H wl (.lst (well a1 b1 k1)) = H1 at X1 hw1 ⊢
    refine ⟨_, rfl, _, rfl, wl, is, a1, b1, k1, _, rfl, hw1, p1, .inl ⟨X1.pl.sc.is_, X1.pl.wi.symm⟩, X1.pl.sc.ine, by have := X0.pl.sc.il; omega, fun a2 b2 k2 p2 i hi => ?_⟩
    have X2 := X1.set (b' := b2) (k' := k2) p2
    have hw2 : (upd H1 wl (.lst (well a2 b2 k2))) wl = some (.lst (well a2 b2 k2)) := upd_same
    generalize upd H1 wl (.lst (well a2 b2 k2)) = H2 at X2 hw2 ⊢
    refine ⟨_, _, rfl, ?_⟩
    have hoU := X0.pl.sc.oU o ho
    have hJ := X0.pl.sc.iJ i hi
    obtain ⟨n, a, j, ps, js, M⟩ := X2.ok.ms
    have hms : ∀ x ∈ c.d.names.map V.str, ∃ m ∈ c.d.names, x = .str m := fun x hx => by
      obtain ⟨m, hm, rfl⟩ := List.mem_map.mp hx
      exact ⟨m, hm, rfl⟩
    have dne : c.d.names ≠ [] := X2.ok.ck.1.2.1
    have dle : c.d.names.length < 1000 := by have := M.few.1; omega
    refine ⟨_, rfl, _, rfl, c.mo, _, 0, _, rfl, rfl, M.top.sq, rfl, wl, n, a2, b2, k2, _, rfl, hw2, p2, .inr M.nam, by simpa using dne, by rw [List.length_map]; exact dle, fun a3 b3 k3 p3 y hy => ?_⟩
    obtain ⟨m, hm, rfl⟩ := hms y hy
    have X3 := X2.set (b' := b3) (k' := k3) p3
    have hw3 : (upd H2 wl (.lst (well a3 b3 k3))) wl = some (.lst (well a3 b3 k3)) := upd_same
    generalize upd H2 wl (.lst (well a3 b3 k3)) = H3 at X3 hw3 ⊢
    refine ⟨_, rfl, wl, a3, b3, k3, 9, rfl, hw3, p3, by omega, by omega, fun a4 b4 k4 way p4 w0 w9 => ?_⟩
    have X4 := X3.set (b' := b4) (k' := k4) p4
    have hw4 : (upd H3 wl (.lst (well a4 b4 k4))) wl = some (.lst (well a4 b4 k4)) := upd_same
    generalize upd H3 wl (.lst (well a4 b4 k4)) = H4 at X4 hw4 ⊢
    refine ⟨_, rfl, _, _, rfl, wd_got X4.B, _, rfl, .inl ⟨_, .inl (X4.B.at_ .got True.intro)⟩, _, rfl, Nat.zero_le _, fun p hp => ?_⟩
    have sp := same_new' (o := .lst []) hp
    obtain ⟨G, eG, hG⟩ := wgot_get (o := o) X4.B hp
    have nG : G ≠ wl := fun e => by
      rw [valV_os] at eG
      by_cases h : o ∈ W.go
      · rw [if_pos h] at eG
        have e2 : wad (.gt o) = G := by injection eG
        exact X4.rb.wl ⟨.gt o, h, e2.trans e⟩
      · rw [if_neg h] at eG
        have e2 : p = G := by injection eG
        rw [e2, e, hw4] at hp; cases hp
    have X5 := X4.same sp
    have hw5 := sp _ _ hw4
    refine ⟨valV (W.go.map fun k => ((Sum.inl k : L2.Key), V.ref (wad (.gt k)))) (Sum.inl o), .inl ⟨_, Sum.inl o, .inl (X5.B.at_ .got True.intro), rfl, rfl⟩, ?_⟩
    rw [eG]
    refine ⟨_, _, _, rfl, ?_⟩
    dsimp only
    generalize upd H4 p (.lst []) = H5 at X5 hw5 hG ⊢
    have F := L0.wwf
    have eqt := L0.eq
    refine seq_if (fun cc H6 => cc = ((D.ts.asks o).isSome && decide (0 < way)) ∧ H6 = H5) (fun N hN => ?_) (fun H6 h6 => ?_) (fun H6 h6 => ?_)
    · refine ⟨_, rfl, _, rfl, _, _, rfl, wd_asks X5.B, _, _, rfl, DGet.k (k := Sum.inl o) (X5.B.at_ .asks True.intro), _, rfl, ?_⟩
      rw [whas_asks, eqt]
      cases ha : (D.ts.asks o).isSome with
      | false => exact iteF (hN _ _ ⟨by rw [ha]; rfl, rfl⟩)
      | true => exact iteT ⟨_, rfl, _, _, rfl, rfl, _, rfl, hN _ _ ⟨by rw [ha]; rfl, rfl⟩⟩
    · obtain ⟨_, rfl⟩ := h6
      exact k _ _ _ _ _ X5 L0 rfl rfl
    obtain ⟨e6, eH⟩ := h6
    subst H6
    have egot : W.gm o = D.got o := congrArg (fun t : LT.TS V Str => t.got o) eqt
    refine ⟨_, rfl, rfl, _, rfl, ?_⟩
    by_cases hz : way = 0
    · subst hz
      refine iteT ⟨_, rfl, _, _, _, rfl, X5.A.at_ .tab True.intro, rfl, _, rfl, ad, D, o, rfl, X5.A, X5.ok, L0.wf, hoU, fun H6 ad6 D6 r6 ys6 g6 e6 nr6 f6 p6 => ?_⟩
      have X6 := X5.tab g6
      refine ⟨_, rfl, _, rfl, _, rfl, wad, W, o, rfl, X6.B, X6.ok, F, hoU, fun H7 wad7 W7 r7 ys7 g7 e7 nr7 f7 p7 => ?_⟩
      have X7 := X6.wor g7
      rw [eqt] at e7 p7
      have n6 : ¬ WOwn wad W r6 := fun z => by
        obtain ⟨u, hu⟩ := X5.rb.live _ z
        rw [nr6] at hu; cases hu
      refine eq_prs X7.ok (g7.off f6.at_ n6).1 (FPrs.mono (WGo.tups X6.B g7) p6) f7.at_ p7 (finish_it L0.wf) ?_
      refine k _ _ _ _ _ X7 ⟨?_, e7.trans e6.symm, fun q p h => ?_⟩ g6.tab g7.wd
      · show LT.WF c.U c.J c.B _; rw [e6]; exact LT.finish_wf L0.wf
      · rw [e6] at h
        exact L0.ask q p ((LT.finish_steps L0.wf).1.asks_sub h)
    have hz2 : decide (V.int way = V.int 0) = false := decide_eq_false fun z => hz (by injection z)
    rw [hz2]
    have wp : 0 < way := by omega
    rw [decide_eq_true wp, Bool.and_true] at e6
    have ha : D.ts.asks o = none := by
      cases h : D.ts.asks o with
      | none => rfl
      | some p => rw [h] at e6; cases e6
    have haw : W.ts.asks o = none := by rw [eqt]; exact ha
    refine iteF ?_
    unfold tNext
    dsimp only
    refine seq_if (fun cc H6 => cc = (decide (way = 1) && decide (W.gm o ≠ [])) ∧ Same H5 H6) (fun N hN => ?_) (fun H6 h6 => ?_) (fun H6 h6 => ?_)
    · refine ⟨_, rfl, rfl, _, rfl, ?_⟩
      by_cases h1 : way = 1
      · subst h1
        refine iteT ⟨_, rfl, Nat.zero_le _, fun q hq => ?_⟩
        have sq := same_new' (o := .lst []) hq
        have gJ := wwf_got F o
        refine ⟨.list ((W.gm o).map (dI c.kof)), .list [], .lst (.inl (.inl (sq _ _ hG))) (dp_Is (X5.same sq).ok.it gJ), .lst (.inl (.inl upd_same)) .nil, (Sh.lst (sh_Is X5.ok.it (fun v hv => X5.ok.key hv) gJ)).ok (by omega), sh_nil, _, rfl, ?_⟩
        rw [eqv_nil, show decide ((W.gm o).map (dI c.kof) = []) = decide (W.gm o = []) from decide_eq_decide.mpr List.map_eq_nil_iff]
        refine hN _ _ ⟨?_, sq⟩
        by_cases hg : W.gm o = []
        · rw [decide_eq_true hg, decide_eq_false (show ¬ (W.gm o ≠ []) from fun z => z hg)]; rfl
        · rw [decide_eq_false hg, decide_eq_true hg]; rfl
      · have h2 : decide (V.int way = V.int 1) = false := decide_eq_false fun z => h1 (by injection z)
        rw [h2]
        exact iteF (hN _ _ ⟨by rw [decide_eq_false h1]; rfl, Same.refl _⟩)
    · obtain ⟨c6, s6⟩ := h6
      have X6 := X5.same s6
      have hG6 := s6 _ _ hG
      have hw6 := s6 _ _ hw5
      have hg : W.gm o ≠ [] := by
        by_cases hg : W.gm o = []
        · rw [decide_eq_false (show ¬ (W.gm o ≠ []) from fun z => z hg), Bool.and_false] at c6; cases c6
        · exact hg
      have gl : (W.gm o).length ≤ 20 := Nat.le_trans (LT_len (F.gotNd o) (wwf_got F o)) X6.ok.few
      refine ⟨_, rfl, _, rfl, wl, G, a4, b4, k4, _, rfl, hw6, p4, .inl ⟨hG6, nG⟩, hg, by omega, fun a7 b7 k7 p7 i2 hi2 => ?_⟩
      have X7 := X6.set (b' := b7) (k' := k7) p7
      generalize upd H6 wl (.lst (well a7 b7 k7)) = H7 at X7 ⊢
      refine ⟨_, rfl, _, _, _, rfl, X7.A.at_ .tab True.intro, rfl, _, rfl, _, rfl, ad, D, o, i2, rfl, X7.A, X7.ok, L0.wf, hoU, by rw [← egot]; exact hi2, ha, fun H8 ad8 D8 r8 ys8 g8 e8 nr8 f8 p8 => ?_⟩
      have X8 := X7.tab g8
      refine ⟨_, rfl, _, rfl, _, rfl, _, rfl, wad, W, o, i2, rfl, X8.B, X8.ok, F, hi2, haw, fun H9 wad9 W9 r9 ys9 g9 e9 nr9 f9 p9 => ?_⟩
      have X9 := X8.wor g9
      rw [eqt] at e9 p9
      have n8 : ¬ WOwn wad W r8 := fun z => by
        obtain ⟨u, hu⟩ := X7.rb.live _ z
        rw [nr8] at hu; cases hu
      refine eq_prs X9.ok (g9.off f8.at_ n8).1 (FPrs.mono (WGo.tups X8.B g9) p8) f9.at_ p9 (fun e he => by rw [serve_it _ e he]; exact wwf_got F o i2 hi2) ?_
      refine k _ _ _ _ _ X9 ⟨?_, e9.trans e8.symm, fun q p h => ?_⟩ g8.tab g9.wd
      · show LT.WF c.U c.J c.B _; rw [e8]; exact LT.freed_wf L0.wf ha
      · rw [e8] at h
        exact L0.ask q p ((LT.freed_steps L0.wf ha).asks_sub h)
    · obtain ⟨c6, s6⟩ := h6
      have X6 := X5.same s6
      refine ⟨_, rfl, _, _, _, rfl, X6.A.at_ .tab True.intro, rfl, _, rfl, _, rfl, _, rfl, ad, D, o, i, m, rfl, X6.A, X6.ok, L0.wf, hJ, hoU, hm, ha, fun H7 ad7 D7 g7 e7 => ?_⟩
      have X7 := X6.tab g7
      refine ⟨_, rfl, _, rfl, _, rfl, _, rfl, _, rfl, wad, W, o, i, m, rfl, X7.B, X7.ok, F, hJ, hoU, hm, haw, fun H8 wad8 W8 g8 e8 => ?_⟩
      have X8 := X7.wor g8
      rw [eqt] at e8 ⊢
      refine ⟨rfl, ?_⟩
      rw [decide_eq_true rfl]
      refine k _ _ _ _ _ X8 ⟨?_, e8.trans e7.symm, fun q p h => ?_⟩ g7.tab g8.wd
      · show LT.WF c.U c.J c.B _
        rw [e7]
        exact LT.ask_wf L0.wf ha hoU hJ (jn_in X6.ok (fun x hx => (L0.wf.heldIn i o x hx).2.2) hm)
      · rw [e7] at h
        by_cases hq : q = o
        · rw [hq]; exact ho
        · refine L0.ask q p ?_
          unfold LT.ask at h
          by_cases hg : LT.grants c.M c.U D.ts o i m = true
          · rw [if_pos hg] at h
            exact (LT.put_off _ _ hq).symm.trans h
          · rw [if_neg hg] at h
            exact (LT.put_off _ _ hq).symm.trans h
end Lk
end
section
set_option maxRecDepth 100000
set_option maxHeartbeats 1000000
/-! What a table tells, as one value. -/
namespace Lk
open PySem L2
open Mx (pe_msetd pe_mget pe_mget2 ps_mput pe_mnew pe_mayLock ps_mayLock pi_itemsN pi_itemsM fresh_dK fresh_mix)

section
variable {J : It} {G : Hp → Prop} {Y : Nat → Hp → V → Hp → Prop} {n : Nat}
/-- a list made while the heap changes, by what stands at each turn -/
theorem lc_acc (w : Walk J n G Y) {g : TG} {tt : TT} {te : TE} {vs : List Nat} {σ : L2.St} {H1 : Hp} {D : Addr} {Qd : Hp → Prop} (Pv : Nat → Hp → List V → Prop) (hn : n < sizeLine) (h0 : Pv 0 (upd H1 D (.lst [])) []) (hG : ∀ i H acc, Pv i H acc → G H)
    (turn : ∀ i x H H' acc (Q : VK) (N : Hp → Prop), i < n → Pv i H acc → H D = some (.lst acc) → Y i H x H' → (∀ y H4, H4 D = some (.lst acc) → Pv (i + 1) (upd H4 D (.lst (acc ++ [y]))) (acc ++ [y]) → Q y H4) → (∀ H3, H3 D = some (.lst acc) → Pv (i + 1) H3 acc → N H3) →
      g x (wipe σ vs) H' fun σ2 H2 => wipe σ2 vs = wipe σ vs ∧ tt σ2 H2 fun b H3 => if b = true then te σ2 H3 Q else N H3)
    (done : ∀ H acc, Pv n H acc → H D = some (.lst acc) → Qd H) :
    ∃ W : Nat → Nat → Hp → Prop, (∃ m, W 0 m (upd H1 D (.lst []))) ∧ ∀ i m H, W i m H →
      (J.stop i H ∧ Qd H) ∨ (J.go i H ∧ ∃ Nx : Hp → Prop, (∀ H', Nx H' → ∃ m', m' < m ∧ W (i + 1) m' H') ∧ ∀ x H', J.yld i H x H' → g x (wipe σ vs) H' fun σ2 H2 => wipe σ2 vs = wipe σ vs ∧ tt σ2 H2 fun b H3 =>
        if b = true then te σ2 H3 fun y H4 => ∃ acc, H4 D = some (.lst acc) ∧ acc.length < sizeLine ∧ Nx (upd H4 D (.lst (acc ++ [y]))) else Nx H3) := by
  refine ⟨fun i m H => m = n - i ∧ i ≤ n ∧ ∃ acc, H D = some (.lst acc) ∧ acc.length ≤ i ∧ Pv i H acc, ⟨n, rfl, Nat.zero_le _, [], upd_same, Nat.le_refl _, h0⟩, ?_⟩
  rintro i m H ⟨rfl, hi, acc, hac, hl, p⟩
  have q := hG i H acc p
  by_cases hlt : i < n
  · refine .inr ⟨w.goes i H hlt q, fun H' => ∃ acc', H' D = some (.lst acc') ∧ acc'.length ≤ i + 1 ∧ Pv (i + 1) H' acc', fun H' ⟨acc', h1, h2, h3⟩ => ⟨n - (i + 1), by omega, rfl, hlt, acc', h1, h2, h3⟩, fun x H' y => ?_⟩
    exact turn i x H H' acc _ _ hlt p hac (w.yields i H x H' hlt q y) (fun y H4 h1 h2 => ⟨acc, h1, by omega, acc ++ [y], upd_same, by rw [List.length_append]; show _ + 1 ≤ _; omega, h2⟩) fun H3 h1 h2 => ⟨acc, h1, by omega, h2⟩
  · have e : i = n := by omega
    subst e
    exact .inl ⟨w.stops H q, done H acc p hac⟩
end
theorem dpAll_append {K : PySem.W.Frag} {H : Hp} : ∀ {vs : List V} {ds : List PyData} {vs2 : List V} {ds2 : List PyData}, DpAll K H vs ds → DpAll K H vs2 ds2 → DpAll K H (vs ++ vs2) (ds ++ ds2)
  | _, _, _, _, .nil, q => q
  | _, _, _, _, .cons h t, q => .cons h (dpAll_append t q)
/-- P, or the table's: all but tuples -/
def Ol (P : Addr → Prop) (H' : Hp) (ad' : Ad) (D' : Dt) (a : Addr) : Prop := (Own ad' D' a ∨ P a) ∧ ∀ xs, H' a ≠ some (.tup xs)
section
variable {w : World} {c : Tc} {K : PySem.W.Frag} {P P' : Addr → Prop} {H H1 H2 : Hp} {ad ad1 ad2 : Ad} {D D1 D2 : Dt} {S S' : Addr → Prop} {v : V} {d : PyData} {vs : List V} {ds : List PyData} {L : Addr}
theorem HasAll.aft (h : HasAll K H S vs ds) (f : Aft S H S' H1) : HasAll K H1 S' vs ds := fun H2 k => h H2 fun a o e n => k a o (f.keep a o e n) fun z => (f.new a z).elim n fun z => by rw [e] at z; cases z
theorem HasAll.mono (h : HasAll K H S vs ds) (m : ∀ a o, H a = some o → S' a → S a) : HasAll K H S' vs ds := fun H2 k => h H2 fun a o e n => k a o e fun z => n (m a o e z)
theorem HasAll.append {vs2 : List V} {ds2 : List PyData} (h : HasAll K H S vs ds) (h2 : HasAll K H S vs2 ds2) : HasAll K H S (vs ++ vs2) (ds ++ ds2) := fun H2 k => dpAll_append (h H2 k) (h2 H2 k)
theorem ol_go (A : At w c H1 ad1 D1) (g : Go w c H1 ad1 D1 H2 ad2 D2) : Aft (Ol P H1 ad1 D1) H1 (Ol P H2 ad2 D2) H2 := by
  have tp := Go.tups A g
  refine ⟨fun a o e n => g.aft.keep a o e fun z => n ⟨.inl z, fun xs h => ?_⟩, fun a ⟨h1, h2⟩ => ?_⟩
  · obtain ⟨t, _, e2⟩ := A.live z
    rw [h] at e2
    exact cont_tup t xs (Option.some.inj e2).symm
  · have nt : ∀ xs, H1 a ≠ some (.tup xs) := fun xs h => h2 xs (tp _ _ h)
    rcases h1 with h1 | h1
    · exact (g.aft.new a h1).imp (fun z => ⟨.inl z, nt⟩) id
    · exact .inl ⟨.inr h1, nt⟩
theorem ol_same (A : At w c H1 ad1 D1) (s : Same H1 H2) : Aft (Ol P H1 ad1 D1) H1 (Ol P H2 ad1 D1) H2 := ol_go A (Go.same A s)
theorem ol_upd {xs ys : List V} (hP : P L) (h : H1 L = some (.lst xs)) : Aft (Ol P H1 ad1 D1) H1 (Ol P (upd H1 L (.lst ys)) ad1 D1) (upd H1 L (.lst ys)) := by
  have oL : Ol P H1 ad1 D1 L := ⟨.inr hP, fun zs z => by rw [h] at z; cases z⟩
  refine ⟨fun a o e n => by rw [upd_ne fun z : a = L => n (by rw [z]; exact oL)]; exact e, fun a ⟨h1, h2⟩ => .inl ?_⟩
  by_cases e : a = L
  · rw [e]; exact oL
  · refine ⟨h1, fun zs z => h2 zs ?_⟩
    rw [upd_ne e]; exact z
/-- told by a call from H on -/
theorem ol_of (h : Has K H2 (Old H H2 ad2 D2) v d) (hP : ∀ a, P a → (H a).isSome = true) : Has K H2 (Ol P H2 ad2 D2) v d := h.mono fun a o e ⟨h1, h2⟩ => ⟨h1.imp id (hP a), h2⟩
theorem ol_old (h : Has K H2 (Ol (fun a => (H a).isSome = true) H2 ad2 D2) v d) : Has K H2 (Old H H2 ad2 D2) v d := h
theorem ol_live {o : HO} (h : H L = some o) : (H L).isSome = true := by rw [h]; rfl
theorem isSome_go (A : At w c H1 ad1 D1) (g : Go w c H1 ad1 D1 H2 ad2 D2) {a : Addr} (h : (H1 a).isSome = true) : (H2 a).isSome = true := by
  cases e : H2 a with
  | some o => rfl
  | none => rw [g.none_ A e] at h; cases h
/-- more things stand apart, that did not stand yet -/
theorem ol_more (h : HasAll K H (Ol P H ad D) vs ds) (m : ∀ a, P' a → P a ∨ H a = none) : HasAll K H (Ol P' H ad D) vs ds := h.mono fun a o e ⟨h1, h2⟩ => ⟨h1.imp id fun z => (m a z).elim id fun z => (by rw [e] at z; cases z), h2⟩
end
/-- what is told of an owner; of an item; of all -/
noncomputable abbrev dOne (c : Tc) (ts : LT.TS V Str) (o : Int) : PyData := .tuple [dHolds c ts o, dAsk c ts o, .list ((LT.waitsFor c.M c.U ts o).map PyData.int)]
noncomputable abbrev dIt (c : Tc) (ts : LT.TS V Str) (i : V) : PyData := .tuple [dHolders c ts i, dWaiters c ts i]
noncomputable abbrev dStuck (c : Tc) (ts : LT.TS V Str) : PyData := .list ((LT.stuckL c.M c.U ts).map PyData.int)
noncomputable def dSeen (c : Tc) (ts : LT.TS V Str) (ow : List Int) (it : List V) : PyData := .tuple [.list (ow.map (dOne c ts)), .list (it.map (dIt c ts)), dStuck c ts]
abbrev spSeen (b : Bs) (c : Tc) : Sp := fun vs H Q _ => ∃ (t os is : Addr) (ow : List Int) (it : List V) (ad : Ad) (D : Dt), vs = [.ref t, .ref (ad.at_ .tab)] ∧ At b.w c H ad D ∧ Scn b.K H c t os is ow it ∧ Wf c D ∧ ¬ Own ad D os ∧ ¬ Own ad D is ∧
  ∀ H' ad' D' v, Go b.w c H ad D H' ad' D' → D'.ts = D.ts → Has b.K H' (Old H H' ad' D') v (dSeen c D.ts ow it) → Q v H'
abbrev s_law_seen : Stmt := top 54
abbrev N_law_seen : List Str := ["_law_scene_here", "_law_table", "_law_found", "_law_modes", "_law_owners", "_law_items", "_law_owner", "_law_item"]
abbrev P_law_seen : List Str := ["_law_scene_here", "_law_table"]
theorem sc_law_seen : FnScope N_law_seen P_law_seen (defScope s_law_seen) := ⟨rfl, rfl, rfl, by decide +kernel, rfl, by decide +kernel, by decide +kernel⟩
theorem ok_law_seen {b : Bs} {c : Tc} (R : Raw b "_law_seen" "_law_seen" s_law_seen P_law_seen) (D_holds_of : Mt b 4 c.CT "holds_of" P_LockTable_holds_of (spHoldsOf b c)) (D_ask_of : Mt b 4 c.CT "ask_of" P_LockTable_ask_of (spAskOf b c)) (D_waits_for : Mt b 4 c.CT "waits_for" P_LockTable_waits_for (spWaitsFor b c))
    (D_holders_at : Mt b 4 c.CT "holders_at" P_LockTable_holders_at (spHoldersAt b c)) (D_waiters_at : Mt b 4 c.CT "waiters_at" P_LockTable_waiters_at (spWaitersAt b c)) (D_stuck_owners : Mt b 7 c.CT "stuck_owners" P_LockTable_stuck_owners (spStuck b c)) : Df b 8 "_law_seen" P_law_seen (spSeen b c) := by
  refine R.ok sc_law_seen (fun vs H Q E h => ?_) fun f cdv A outer s H vs Q E hr h => ?_
  · obtain ⟨_, _, _, _, _, _, _, rfl, _⟩ := h
    rfl
  · obtain ⟨t, os, is, ow, it, ad, D, rfl, A0, S0, F, no, ni, k⟩ := h
    refine ⟨_, (pss_cons (ps_asg (pv 0) (pg_tup rfl (pgs_cons (pg_name (i := 3) sc_law_seen.nd rfl (Or.inl rfl)) (pgs_cons (pg_name (i := 4) sc_law_seen.nd rfl (Or.inl rfl)) (pgs_cons (pg_name (i := 5) sc_law_seen.nd rfl (Or.inl rfl)) pgs_nil)))))
      (pss_cons (ps_setLcB (i := 2) (own := [("_law_owner", 6)]) rfl sc_law_seen.nd rfl rfl (sw_true rfl rfl rfl (by decide +kernel)) (pi_list (pv 4)) (blkOk_by (own := [("_law_owner", 6)]) (N := N_law_seen) (sc := defScope s_law_seen) (by decide +kernel)) (fun _ _ _ _ _ => (pg_name (i := 6) sc_law_seen.nd rfl (Or.inl rfl))) (fun _ _ _ _ _ => pts_nil) (fun _ _ _ _ _ => (pe_tup (pa_cons (pe_mtd D_holds_of (pv 1) (hr.mono (by decide)) (pa_cons (pv 6) pa_nil)) (pa_cons (pe_mtd D_ask_of (pv 1) (hr.mono (by decide)) (pa_cons (pv 6) pa_nil)) (pa_cons (pe_mtd D_waits_for (pv 1) (hr.mono (by decide)) (pa_cons (pv 6) pa_nil)) pa_nil))))))
      (pss_one (ps_ret (pe_tup (pa_cons (pv 2) (pa_cons (pe_lcB (own := [("_law_item", 7)]) rfl sc_law_seen.nd (pi_list (pv 5)) (blkOk_by (own := [("_law_item", 7)]) (N := N_law_seen) (sc := defScope s_law_seen) (by decide +kernel)) (fun _ _ _ _ _ => (pg_name (i := 7) sc_law_seen.nd rfl (Or.inl rfl))) (fun _ _ _ _ _ => pts_nil) (fun _ _ _ _ _ => (pe_tup (pa_cons (pe_mtd D_holders_at (pv 1) (hr.mono (by decide)) (pa_cons (pv 7) pa_nil)) (pa_cons (pe_mtd D_waiters_at (pv 1) (hr.mono (by decide)) (pa_cons (pv 7) pa_nil)) pa_nil))))) (pa_cons (pe_mtd0 D_stuck_owners (pv 1) (hr.mono (by decide))) pa_nil)))))))), ?_⟩
    refine ⟨_, rfl, t, _, rfl, .inl (.inl S0.at_), rfl, _, _, rfl, _, _, rfl, _, _, rfl, rfl, ?_⟩
    dsimp only
    refine ⟨_, rfl, _, rfl, ⟨_, .inl (.inl S0.os_)⟩, fun L hL => ?_⟩
    have ww := walk_list (K := b.K) (a := os) (xs := ow.map V.int)
    rw [List.length_map] at ww
    have hol := S0.ol
    have nL : ¬ Own ad D L := off_new A0 hL
    have oL : os ≠ L := ne_of_none S0.os_ hL
    have iL : is ≠ L := ne_of_none S0.is_ hL
    refine lc_acc ww (fun j Hx acc => ∃ adx Dx, Go b.w c H ad D Hx adx Dx ∧ Dx.ts = D.ts ∧ ¬ Own adx Dx L ∧ Hx L = some (.lst acc) ∧ HasAll b.K Hx (Ol (fun a => (H a).isSome = true ∨ a = L) Hx adx Dx) acc ((ow.take j).map (dOne c D.ts))) (by rw [sizeLine_eq]; omega) ?_ (fun j Hx acc p => ?_) (fun j x Hx0 Hx acc Q' N' hj p hac hy k1 k2 => ?_) fun Hx acc p hac => ?_
    · exact ⟨ad, D, (Go.refl A0).then_ (same_new' hL), rfl, nL, upd_same, .nil⟩
    · obtain ⟨adx, Dx, gx, _⟩ := p
      exact .inl (.inl (gx.off S0.os_ no).1)
    · obtain ⟨adx, Dx, gx, ex, nx, hLx, hs⟩ := p
      obtain ⟨rfl, hy⟩ := hy
      rw [List.getElem?_map] at hy
      cases hx : ow[j]? with
      | none => rw [hx] at hy; cases hy
      | some o =>
      rw [hx] at hy
      cases hy
      have hoU := S0.oU o (List.mem_of_getElem? hx)
      have Ax := gx.at_
      have Ox := S0.ok.mono (Go.tups A0 gx)
      have Fx : Wf c Dx := by show LT.WF c.U c.J c.B _; rw [ex]; exact F
      have tx := Ax.at_ .tab True.intro
      rw [gx.tab] at tx
      refine ⟨rfl, _, rfl, _, _, _, rfl, tx, rfl, _, rfl, adx, Dx, o, by rw [gx.tab]; rfl, Ax, Ox, Fx, hoU, fun Ha ada v1 ga h1 => ?_⟩
      have gxa := gx.trans ga
      have Aa := ga.at_
      have Oa := S0.ok.mono (Go.tups A0 gxa)
      have ta := Aa.at_ .tab True.intro
      rw [gxa.tab] at ta
      refine ⟨_, rfl, _, _, _, rfl, ta, rfl, _, rfl, ada, Dx, o, by rw [gxa.tab]; rfl, Aa, Oa, Fx, hoU, fun v2 _ _ h2 => ?_⟩
      refine ⟨_, rfl, _, _, _, rfl, ta, rfl, _, rfl, ada, Dx, o, by rw [gxa.tab]; rfl, Aa, Oa, Fx, hoU, fun Hb adb r gb nr ofr => ?_⟩
      have Ab := gb.at_
      refine ⟨three_le, fun tp htp => ?_⟩
      have st := same_new' (o := .tup [v1, v2, .ref r]) htp
      obtain ⟨la, na⟩ := ga.off hLx nx
      obtain ⟨lb, nb⟩ := gb.off la na
      have fa := ol_go (P := fun a => (H a).isSome = true ∨ a = L) Ax ga
      have fb := ol_go (P := fun a => (H a).isSome = true ∨ a = L) Aa gb
      have fs := ol_same (P := fun a => (H a).isSome = true ∨ a = L) Ab st
      have fu := ol_upd (P := fun a => (H a).isSome = true ∨ a = L) (ad1 := adb) (D1 := Dx) (ys := acc ++ [.ref tp]) (.inr rfl) (st _ _ lb)
      have hP : ∀ a, ((H a).isSome = true ∨ a = L) → (Hx a).isSome = true := fun a z => z.elim (isSome_go A0 gx) fun e => by rw [e, hLx]; rfl
      have hP2 : ∀ a, ((H a).isSome = true ∨ a = L) → (Ha a).isSome = true := fun a z => isSome_go Ax ga (hP a z)
      have d1 : Has b.K (upd Hb tp (.tup [v1, v2, .ref r])) (Ol (fun a => (H a).isSome = true ∨ a = L) (upd Hb tp (.tup [v1, v2, .ref r])) adb Dx) v1 (dHolds c Dx.ts o) := ((ol_of h1 hP).aft fb).aft fs
      have d2 : Has b.K (upd Hb tp (.tup [v1, v2, .ref r])) (Ol (fun a => (H a).isSome = true ∨ a = L) (upd Hb tp (.tup [v1, v2, .ref r])) adb Dx) v2 (dAsk c Dx.ts o) := ((h2 (Ol (fun a => (H a).isSome = true ∨ a = L) Ha ada Dx) fun a xs e z => z.2 xs e).aft fb).aft fs
      have d3 : Has b.K (upd Hb tp (.tup [v1, v2, .ref r])) (Ol (fun a => (H a).isSome = true ∨ a = L) (upd Hb tp (.tup [v1, v2, .ref r])) adb Dx) (.ref r) (.list ((LT.waitsFor c.M c.U Dx.ts o).map PyData.int)) :=
        Has.aft (.lst ofr.at_ (fun z => z.1.elim ofr.no fun z => by have := hP2 r z; rw [nr] at this; cases this) (.ints _)) fs
      have d4 : Has b.K (upd Hb tp (.tup [v1, v2, .ref r])) (Ol (fun a => (H a).isSome = true ∨ a = L) (upd Hb tp (.tup [v1, v2, .ref r])) adb Dx) (.ref tp) (dOne c D.ts o) := by
        rw [← ex]
        exact .tup upd_same (fun z => z.2 _ upd_same) (.cons d1 (.cons d2 (.cons d3 .nil)))
      refine k1 _ _ (st _ _ lb) ⟨adb, Dx, ((gxa.trans gb).then_ st).mine hL ⟨st _ _ lb, nb⟩ lst_ne, ex, nb, upd_same, ?_⟩
      have e1 : (ow.take (j + 1)).map (dOne c D.ts) = (ow.take j).map (dOne c D.ts) ++ [dOne c D.ts o] := by rw [St.take_one hx, List.map_append]; rfl
      rw [e1]
      exact (((hs.aft fa).aft fb).aft fs |>.append (.cons d4 .nil)).aft fu
    obtain ⟨adx, Dx, gx, ex, nx, hLx, hs⟩ := p
    rw [List.take_length] at hs
    have hF : Has b.K Hx (Ol (fun a => (H a).isSome = true) Hx adx Dx) (.ref L) (.list (ow.map (dOne c D.ts))) := .lst hLx (fun z => z.1.elim nx fun z => by
      have z : (H L).isSome = true := z
      rw [hL] at z; cases z) (hs.mono fun a o e ⟨h1, h2⟩ => ⟨h1.imp id .inl, h2⟩)
    have Ax := gx.at_
    have Ox := S0.ok.mono (Go.tups A0 gx)
    obtain ⟨hisx, nisx⟩ := gx.off S0.is_ ni
    dsimp only [gName]
    refine ⟨_, rfl, _, rfl, _, rfl, ⟨_, .inl (.inl hisx)⟩, fun L2 hL2 => ?_⟩
    have nL2 : H L2 = none := gx.none_ A0 hL2
    have n2 : ¬ Own adx Dx L2 := off_new Ax hL2
    have hil := S0.il
    have LL : L ≠ L2 := ne_of_none hLx hL2
    have hF2 : HasAll b.K Hx (Ol (fun a => (H a).isSome = true ∨ a = L2) Hx adx Dx) [.ref L] [.list (ow.map (dOne c D.ts))] := ol_more (.cons hF .nil) fun a z => z.imp id fun z => by rw [z]; exact hL2
    refine lc_acc (walk_list (K := b.K) (a := is) (xs := it)) (fun j Hy acc => ∃ ady Dy, Go b.w c H ad D Hy ady Dy ∧ Dy.ts = D.ts ∧ ¬ Own ady Dy L2 ∧ Hy L2 = some (.lst acc) ∧ HasAll b.K Hy (Ol (fun a => (H a).isSome = true ∨ a = L2) Hy ady Dy) acc ((it.take j).map (dIt c D.ts)) ∧ HasAll b.K Hy (Ol (fun a => (H a).isSome = true ∨ a = L2) Hy ady Dy) [.ref L] [.list (ow.map (dOne c D.ts))]) (by rw [sizeLine_eq]; omega) ?_ (fun j Hy acc p => ?_) (fun j x Hy0 Hy acc Q' N' hj p hac hy k1 k2 => ?_) fun Hy acc p hac => ?_
    · exact ⟨adx, Dx, gx.then_ (same_new' hL2), ex, n2, upd_same, .nil, hF2.aft (ol_same Ax (same_new' hL2))⟩
    · obtain ⟨ady, Dy, gy, _⟩ := p
      exact .inl (.inl (gy.off S0.is_ ni).1)
    · obtain ⟨ady, Dy, gy, ey, ny, hLy, hs, hf⟩ := p
      obtain ⟨rfl, hy⟩ := hy
      have hJ := S0.iJ x (List.mem_of_getElem? hy)
      have Ay := gy.at_
      have Oy := S0.ok.mono (Go.tups A0 gy)
      have Fy : Wf c Dy := by show LT.WF c.U c.J c.B _; rw [ey]; exact F
      have ty := Ay.at_ .tab True.intro
      rw [gy.tab] at ty
      refine ⟨rfl, _, rfl, _, _, _, rfl, ty, rfl, _, rfl, ady, Dy, x, by rw [gy.tab]; rfl, Ay, Oy, Fy, hJ, fun Ha ada v1 ga h1 => ?_⟩
      have gya := gy.trans ga
      have Aa := ga.at_
      have Oa := S0.ok.mono (Go.tups A0 gya)
      have ta := Aa.at_ .tab True.intro
      rw [gya.tab] at ta
      refine ⟨_, rfl, _, _, _, rfl, ta, rfl, _, rfl, ada, Dy.add x, x, by rw [gya.tab]; rfl, Aa, Oa, Fy, hJ, fun Hb adb v2 gb h2 => ?_⟩
      rw [add_add] at gb h2
      have Ab := gb.at_
      refine ⟨two_le, fun tp htp => ?_⟩
      have st := same_new' (o := .tup [v1, v2]) htp
      obtain ⟨la, na⟩ := ga.off hLy ny
      obtain ⟨lb, nb⟩ := gb.off la na
      have fa := ol_go (P := fun a => (H a).isSome = true ∨ a = L2) Ay ga
      have fb := ol_go (P := fun a => (H a).isSome = true ∨ a = L2) Aa gb
      have fs := ol_same (P := fun a => (H a).isSome = true ∨ a = L2) Ab st
      have fu := ol_upd (P := fun a => (H a).isSome = true ∨ a = L2) (ad1 := adb) (D1 := Dy.add x) (ys := acc ++ [.ref tp]) (.inr rfl) (st _ _ lb)
      have hP : ∀ a, ((H a).isSome = true ∨ a = L2) → (Hy a).isSome = true := fun a z => z.elim (isSome_go A0 gy) fun e => by rw [e, hLy]; rfl
      have hP2 : ∀ a, ((H a).isSome = true ∨ a = L2) → (Ha a).isSome = true := fun a z => isSome_go Ay ga (hP a z)
      have d1 : Has b.K (upd Hb tp (.tup [v1, v2])) (Ol (fun a => (H a).isSome = true ∨ a = L2) (upd Hb tp (.tup [v1, v2])) adb (Dy.add x)) v1 (dHolders c Dy.ts x) := ((ol_of h1 hP).aft fb).aft fs
      have d2 : Has b.K (upd Hb tp (.tup [v1, v2])) (Ol (fun a => (H a).isSome = true ∨ a = L2) (upd Hb tp (.tup [v1, v2])) adb (Dy.add x)) v2 (dWaiters c Dy.ts x) := (ol_of h2 hP2).aft fs
      have d4 : Has b.K (upd Hb tp (.tup [v1, v2])) (Ol (fun a => (H a).isSome = true ∨ a = L2) (upd Hb tp (.tup [v1, v2])) adb (Dy.add x)) (.ref tp) (dIt c D.ts x) := by
        rw [← ey]
        exact .tup upd_same (fun z => z.2 _ upd_same) (.cons d1 (.cons d2 .nil))
      refine k1 _ _ (st _ _ lb) ⟨adb, Dy.add x, ((gya.trans gb).then_ st).mine nL2 ⟨st _ _ lb, nb⟩ lst_ne, ey, nb, upd_same, ?_, (((hf.aft fa).aft fb).aft fs).aft fu⟩
      have e1 : (it.take (j + 1)).map (dIt c D.ts) = (it.take j).map (dIt c D.ts) ++ [dIt c D.ts x] := by rw [St.take_one hy, List.map_append]; rfl
      rw [e1]
      exact (((hs.aft fa).aft fb).aft fs |>.append (.cons d4 .nil)).aft fu
    obtain ⟨ady, Dy, gy, ey, ny, hLy, hs, hf⟩ := p
    rw [List.take_length] at hs
    have up : ∀ {vs : List V} {ds : List PyData}, HasAll b.K Hy (Ol (fun a => (H a).isSome = true ∨ a = L2) Hy ady Dy) vs ds → HasAll b.K Hy (Old H Hy ady Dy) vs ds := fun h => h.mono fun a o e ⟨h1, h2⟩ => ⟨h1.imp id .inl, h2⟩
    have hI : Has b.K Hy (Old H Hy ady Dy) (.ref L2) (.list (it.map (dIt c D.ts))) := .lst hLy (Old.new nL2 ny) (up hs)
    have hO := up hf
    have Ay := gy.at_
    have Oy := S0.ok.mono (Go.tups A0 gy)
    have Fy : Wf c Dy := by show LT.WF c.U c.J c.B _; rw [ey]; exact F
    have ty := Ay.at_ .tab True.intro
    rw [gy.tab] at ty
    refine ⟨_, rfl, _, _, _, rfl, ty, rfl, ady, Dy, by rw [gy.tab]; rfl, Ay, Oy, Fy, fun Hz adz r gz nr ofr => ?_⟩
    refine ⟨three_le, fun tp htp => ?_⟩
    have st := same_new' (o := .tup [.ref L, .ref L2, .ref r]) htp
    have gyz := gy.trans gz
    have nrH : H r = none := gy.none_ A0 nr
    have f1 : Aft (Old H Hy ady Dy) Hy (Old H Hz adz Dy) Hz := ol_go (P := fun a => (H a).isSome = true) Ay gz
    have f2 : Aft (Old H Hz adz Dy) Hz (Old H (upd Hz tp (.tup [.ref L, .ref L2, .ref r])) adz Dy) (upd Hz tp (.tup [.ref L, .ref L2, .ref r])) := ol_same (P := fun a => (H a).isSome = true) gz.at_ st
    refine k _ adz Dy _ (gyz.then_ st) ey ?_
    have hR : Has b.K (upd Hz tp (.tup [.ref L, .ref L2, .ref r])) (Old H (upd Hz tp (.tup [.ref L, .ref L2, .ref r])) adz Dy) (.ref r) (dStuck c D.ts) := by
      rw [← ey]
      exact Has.aft (.lst ofr.at_ (Old.new nrH ofr.no) (.ints _)) f2
    exact .tup upd_same (Old.tup upd_same) (((hO.aft f1).aft f2).append (.cons ((hI.aft f1).aft f2) (.cons hR .nil)))
end Lk
end
section
set_option maxRecDepth 100000
set_option maxHeartbeats 1000000
/-! Who is stuck stays so: the law's look. -/
namespace Lk
open PySem L2
open Mx (pe_msetd pe_mget pe_mget2 ps_mput pe_mnew pe_mayLock ps_mayLock pi_itemsN pi_itemsM fresh_dK fresh_mix)

section
variable {K : PySem.W.Frag} {c : Tc} {H : Hp} {ts : LT.TS V Str}
theorem okS_mode (O : c.Ok K H) {m : Str} (h : m ∈ c.d.names) : OkS m := okS_name (O.ck.2.1.1 m h)
theorem sh_dHolds (O : c.Ok K H) (F : LT.WF c.U c.J c.B ts) (o : Int) : Sh 3 (dHolds c ts o) := by
  refine Sh.lst (n := 2) fun z hz => ?_
  obtain ⟨i, hi, rfl⟩ := List.mem_map.mp hz
  have hne := (F.gotIff o i).mp hi
  cases e : ts.held i o with
  | none => exact (hne e).elim
  | some m =>
    obtain ⟨_, hJ, hm⟩ := F.heldIn i o m e
    refine Sh.tup (n := 1) fun y hy => ?_
    rcases List.mem_cons.mp hy with rfl | hy
    · exact sh_I O.it (fun v hv => O.key hv) hJ
    · rw [List.mem_singleton.mp hy, e]
      exact Sh.str (okS_mode O hm)
theorem sh_dAsk (O : c.Ok K H) (F : LT.WF c.U c.J c.B ts) (o : Int) : Sh 2 (dAsk c ts o) := by
  unfold dAsk
  cases e : ts.asks o with
  | none => exact Sh.none
  | some p =>
    have hJ := (F.asksU o p.1 p.2 e).2
    have hm := (F.asksIn o p.1 p.2 e).1
    refine Sh.tup (n := 1) fun y hy => ?_
    rcases List.mem_cons.mp hy with rfl | hy
    · exact sh_I O.it (fun v hv => O.key hv) hJ
    · rw [List.mem_singleton.mp hy]
      exact Sh.str (okS_mode O hm)
theorem sh_dPr {e : Int × Str} (h : OkS e.2) : Sh 1 (dPr e) := by
  refine Sh.tup (n := 0) fun y hy => ?_
  rcases List.mem_cons.mp hy with rfl | hy
  · exact Sh.int _
  · rw [List.mem_singleton.mp hy]
    exact Sh.str h
theorem sh_dHolders (O : c.Ok K H) (F : LT.WF c.U c.J c.B ts) (i : V) : Sh 2 (dHolders c ts i) := by
  refine Sh.lst (n := 1) fun z hz => ?_
  obtain ⟨e, he, rfl⟩ := List.mem_map.mp hz
  obtain ⟨o, _, ho⟩ := List.mem_filterMap.mp he
  cases e2 : ts.held i o with
  | none => rw [e2] at ho; cases ho
  | some m =>
    rw [e2] at ho
    cases ho
    exact sh_dPr (okS_mode O (F.heldIn i o m e2).2.2)
theorem sh_dWaiters (O : c.Ok K H) (F : LT.WF c.U c.J c.B ts) (i : V) : Sh 2 (dWaiters c ts i) := by
  refine Sh.lst (n := 1) fun z hz => ?_
  obtain ⟨e, he, rfl⟩ := List.mem_map.mp hz
  obtain ⟨o, ho, rfl⟩ := List.mem_map.mp he
  refine sh_dPr ?_
  have ha : ∃ m, ts.asks o = some (i, m) := (List.mem_append.mp ho).elim (fun z => (F.convAsk o i z).1) fun z => (F.queueAsk o i z).1
  obtain ⟨m, e⟩ := ha
  show OkS (((ts.asks o).map (·.2)).getD "")
  rw [e]
  exact okS_mode O (F.asksIn o i m e).1
theorem sh_dSeen (O : c.Ok K H) (F : LT.WF c.U c.J c.B ts) (ow : List Int) (it : List V) : Sh 7 (dSeen c ts ow it) := by
  refine Sh.tup (n := 6) fun y hy => ?_
  have hy : y = .list (ow.map (dOne c ts)) ∨ y = .list (it.map (dIt c ts)) ∨ y = dStuck c ts := by simpa using hy
  rcases hy with rfl | rfl | rfl
  · refine Sh.lst (n := 5) fun z hz => ?_
    obtain ⟨o, _, rfl⟩ := List.mem_map.mp hz
    refine Sh.tup (n := 4) fun x hx => ?_
    have hx : x = dHolds c ts o ∨ x = dAsk c ts o ∨ x = .list ((LT.waitsFor c.M c.U ts o).map PyData.int) := by simpa using hx
    rcases hx with rfl | rfl | rfl
    · exact (sh_dHolds O F o).le (by omega)
    · exact (sh_dAsk O F o).le (by omega)
    · exact (Sh.lst (n := 0) (sh_ints _)).le (by omega)
  · refine Sh.lst (n := 5) fun z hz => ?_
    obtain ⟨i, _, rfl⟩ := List.mem_map.mp hz
    refine Sh.tup (n := 4) fun x hx => ?_
    have hx : x = dHolders c ts i ∨ x = dWaiters c ts i := by simpa using hx
    rcases hx with rfl | rfl
    · exact (sh_dHolders O F i).le (by omega)
    · exact (sh_dWaiters O F i).le (by omega)
  · exact (Sh.lst (n := 0) (sh_ints _)).le (by omega)
end
abbrev dTwo (c : Tc) (ts : LT.TS V Str) (o : Int) : PyData := .tuple [dHolds c ts o, dAsk c ts o]
def dBefore (c : Tc) (ts : LT.TS V Str) (T : List Int) : PyData := .list (T.map (dTwo c ts))
theorem sh_dBefore {K : PySem.W.Frag} {c : Tc} {H : Hp} {ts : LT.TS V Str} (O : c.Ok K H) (F : LT.WF c.U c.J c.B ts) (T : List Int) : Sh 5 (dBefore c ts T) := by
  refine Sh.lst (n := 4) fun z hz => ?_
  obtain ⟨o, _, rfl⟩ := List.mem_map.mp hz
  refine Sh.tup (n := 3) fun x hx => ?_
  have hx : x = dHolds c ts o ∨ x = dAsk c ts o := by simpa using hx
  rcases hx with rfl | rfl
  · exact sh_dHolds O F o
  · exact (sh_dAsk O F o).le (by omega)
theorem dBefore_fast {c : Tc} {t0 ts : LT.TS V Str} {T : List Int} (f : LT.Firm c.M T t0 ts) : dBefore c ts T = dBefore c t0 T := by
  unfold dBefore
  congr 1
  refine List.map_congr_left fun o ho => ?_
  obtain ⟨h1, h2, h3⟩ := f.fast o ho
  have e1 : dHolds c ts o = dHolds c t0 o := by
    unfold dHolds
    rw [h2]
    congr 1
    exact List.map_congr_left fun i _ => by show PyData.tuple [_, .str ((ts.held i o).getD "")] = _; rw [h3 i]
  have e2 : dAsk c ts o = dAsk c t0 o := by
    unfold dAsk
    rw [h1]
  show PyData.tuple [dHolds c ts o, dAsk c ts o] = _
  rw [e1, e2]
abbrev spFast (b : Bs) (c : Tc) : Sp := fun vs H Q _ => ∃ (ad : Ad) (D : Dt) (sl : Addr) (bv : V) (T : List Int) (t0 : LT.TS V Str), vs = [.ref (ad.at_ .tab), .ref sl, bv] ∧ At b.w c H ad D ∧ c.Ok b.K H ∧ Wf c D ∧ Off H ad D sl (.lst (T.map V.int)) ∧ Has b.K H (Own ad D) bv (dBefore c t0 T) ∧ LT.Firm c.M T t0 D.ts ∧ (∀ a ∈ T, a ∈ c.U) ∧ T.length ≤ 20 ∧
  ∀ H' ad', Go b.w c H ad D H' ad' D → Q (.bl true) H'
abbrev s_law_held_fast : Stmt := top 55
abbrev N_law_held_fast : List Str := ["_law_table", "_law_stuck", "_law_before", "_law_now", "_law_owner", "_law_one_here"]
abbrev P_law_held_fast : List Str := ["_law_table", "_law_stuck", "_law_before"]
theorem sc_law_held_fast : FnScope N_law_held_fast P_law_held_fast (defScope s_law_held_fast) := ⟨rfl, rfl, rfl, by decide +kernel, rfl, by decide +kernel, by decide +kernel⟩
theorem ok_law_held_fast {b : Bs} {c : Tc} (R : Raw b "_law_held_fast" "_law_held_fast" s_law_held_fast P_law_held_fast) (D_holds_of : Mt b 4 c.CT "holds_of" P_LockTable_holds_of (spHoldsOf b c)) (D_ask_of : Mt b 4 c.CT "ask_of" P_LockTable_ask_of (spAskOf b c)) (D_waits_for : Mt b 4 c.CT "waits_for" P_LockTable_waits_for (spWaitsFor b c))
    (D_stuck_owners : Mt b 7 c.CT "stuck_owners" P_LockTable_stuck_owners (spStuck b c)) : Df b 8 "_law_held_fast" P_law_held_fast (spFast b c) := by
  refine R.ok sc_law_held_fast (fun vs H Q E h => ?_) fun f cdv A outer s H vs Q E hr h => ?_
  · obtain ⟨_, _, _, _, _, _, rfl, _⟩ := h
    rfl
  · obtain ⟨ad, D, sl, bv, TT, t0, rfl, A0, O0, F, hsl, hbv, fm, hU, hlen, k⟩ := h
    refine ⟨_, (pss_cons (ps_set (i := 3) sc_law_held_fast.nd rfl (Or.inr rfl) (pe_mtd0 D_stuck_owners (pv 0) (hr.mono (by decide))))
      (pss_cons (ps_if (pt_cmpR (op_neD hr.units) (pe_lcB (own := [("_law_owner", 4)]) rfl sc_law_held_fast.nd (pi_list (pv 1)) (blkOk_by (own := [("_law_owner", 4)]) (N := N_law_held_fast) (sc := defScope s_law_held_fast) (by decide +kernel)) (fun _ _ _ _ _ => (pg_name (i := 4) sc_law_held_fast.nd rfl (Or.inl rfl))) (fun _ _ _ _ _ => (pts_one (pt_cmpR op_notIn_seq (pv 4) (pv 3) (by rfl)))) (fun _ _ _ _ _ => (pv 4))) (pe_lst pa_nil) (nomark _)) (pss_one (ps_ret pe_bl)) pss_nil)
      (pss_cons (ps_if (pt_cmpR (op_neD hr.units) (pe_lcB (own := [("_law_owner", 4)]) rfl sc_law_held_fast.nd (pi_list (pv 1)) (blkOk_by (own := [("_law_owner", 4)]) (N := N_law_held_fast) (sc := defScope s_law_held_fast) (by decide +kernel)) (fun _ _ _ _ _ => (pg_name (i := 4) sc_law_held_fast.nd rfl (Or.inl rfl))) (fun _ _ _ _ _ => pts_nil) (fun _ _ _ _ _ => (pe_tup (pa_cons (pe_mtd D_holds_of (pv 0) (hr.mono (by decide)) (pa_cons (pv 4) pa_nil)) (pa_cons (pe_mtd D_ask_of (pv 0) (hr.mono (by decide)) (pa_cons (pv 4) pa_nil)) pa_nil))))) (pv 2) (nomark _)) (pss_one (ps_ret pe_bl)) pss_nil)
      (pss_one (ps_ret (pe_cmpR (op_eqD hr.units) (pe_lcB (own := [("_law_owner", 4)]) rfl sc_law_held_fast.nd (pi_list (pv 1)) (blkOk_by (own := [("_law_owner", 4)]) (N := N_law_held_fast) (sc := defScope s_law_held_fast) (by decide +kernel)) (fun _ _ _ _ _ => (pg_name (i := 4) sc_law_held_fast.nd rfl (Or.inl rfl))) (fun _ _ _ _ _ => (pts_one (pt_cmpR (op_eqD hr.units) (pe_lcB (own := [("_law_one_here", 5)]) rfl sc_law_held_fast.nd (pi_list (pe_mtd D_waits_for (pv 0) (hr.mono (by decide)) (pa_cons (pv 4) pa_nil))) (blkOk_by (own := [("_law_one_here", 5)]) (N := N_law_held_fast) (by rfl)) (fun _ _ _ _ _ => (pg_name (i := 5) sc_law_held_fast.nd rfl (Or.inl rfl))) (fun _ _ _ _ _ => (pts_one (pt_cmpR op_in_seq (pv 5) (pv 1) (by rfl)))) (fun _ _ _ _ _ => (pv 5))) (pe_lst pa_nil) (nomark _)))) (fun _ _ _ _ _ => (pv 4))) (pe_lst pa_nil) (nomark _))))))), ?_⟩
    refine ⟨_, rfl, _, _, _, rfl, A0.at_ .tab True.intro, rfl, ad, D, rfl, A0, O0, F, fun H1 ad1 r1 g1 n1 o1 => ?_⟩
    have A1 := g1.at_
    have sl1 := hsl.go g1
    dsimp only [gName]
    refine ⟨_, rfl, _, rfl, ⟨_, .inl (.inl sl1.at_)⟩, fun L hL => ?_⟩
    have ww := walk_list (K := b.K) (a := sl) (xs := TT.map V.int)
    rw [List.length_map] at ww
    refine lc_sel (xs := TT) ww (fun x => !decide (x ∈ LT.stuckL c.M c.U D.ts)) V.int hL (by rw [sizeLine_eq]; omega) (fun Hz sz => .inl (.inl (sz _ _ sl1.at_))) (fun k2 e x Hz Hz' Q' N' he sz hy' q1 q2 => ?_) fun Hz sz ez => ?_
    · obtain ⟨rfl, hy'⟩ := hy'
      rw [List.getElem?_map, he] at hy'
      cases hy'
      refine ⟨rfl, _, rfl, _, rfl, _, _, rfl, .inl (.inl (.inl (sz _ _ o1.at_))), rfl, all_int _, _, rfl, ?_⟩
      rw [in_int]
      simp only [if_true]
      cases hc : decide (e ∈ LT.stuckL c.M c.U D.ts) with
      | true =>
        rw [hc] at q2
        exact iteF (q2 rfl _ (Same.refl _))
      | false =>
        rw [hc] at q1
        exact iteT ⟨_, rfl, q1 rfl _ (Same.refl _)⟩
    have ef : TT.filter (fun x => !decide (x ∈ LT.stuckL c.M c.U D.ts)) = [] := List.filter_eq_nil_iff.mpr fun a ha => by
      rw [decide_eq_true (fm.now F ha)]; simp
    rw [ef] at ez
    refine ⟨Nat.zero_le _, fun q1 hq1 => ⟨.list [], .list [], .lst (.inl (.inl ((same_new' hq1) _ _ ez))) .nil, .lst (.inl (.inl upd_same)) .nil, sh_nil, sh_nil, _, rfl, ?_⟩⟩
    have s1 := Same.trans sz (same_new' (o := .lst []) hq1)
    have g2 := g1.then_ s1
    have sl2 := sl1.same s1
    rw [eqv_nil]
    refine iteF ?_
    unfold tNext
    dsimp only
    generalize upd Hz q1 (.lst []) = H2 at g2 sl2 ⊢
    have A2 := g2.at_
    have O2 := O0.mono (Go.tups A0 g2)
    refine ⟨_, rfl, _, rfl, ⟨_, .inl (.inl sl2.at_)⟩, fun L2 hL2 => ?_⟩
    have nL2 : ¬ Own ad1 D L2 := off_new A2 hL2
    refine lc_acc ww (fun j Hx acc => ∃ adx, Go b.w c H2 ad1 D Hx adx D ∧ ¬ Own adx D L2 ∧ Hx L2 = some (.lst acc) ∧ HasAll b.K Hx (Ol (fun a => (H2 a).isSome = true ∨ a = L2) Hx adx D) acc ((TT.take j).map (dTwo c D.ts))) (by rw [sizeLine_eq]; omega) ?_ (fun j Hx acc p => ?_) (fun j x Hx0 Hx acc Q' N' hj p hac hy k1 k2 => ?_) fun Hx acc p hac => ?_
    · exact ⟨ad1, (Go.refl A2).then_ (same_new' hL2), nL2, upd_same, .nil⟩
    · obtain ⟨adx, gx, _⟩ := p
      exact .inl (.inl (sl2.go gx).at_)
    · obtain ⟨adx, gx, nx, hLx, hs⟩ := p
      obtain ⟨rfl, hy⟩ := hy
      rw [List.getElem?_map] at hy
      cases hx : TT[j]? with
      | none => rw [hx] at hy; cases hy
      | some o =>
      rw [hx] at hy
      cases hy
      have hoU := hU o (List.mem_of_getElem? hx)
      have Ax := gx.at_
      have g2x := g2.trans gx
      have Ox := O0.mono (Go.tups A0 g2x)
      have tx := Ax.at_ .tab True.intro
      rw [g2x.tab] at tx
      refine ⟨rfl, _, rfl, _, _, _, rfl, tx, rfl, _, rfl, adx, D, o, by rw [g2x.tab]; rfl, Ax, Ox, F, hoU, fun Ha ada v1 ga h1 => ?_⟩
      have gxa := g2x.trans ga
      have Aa := ga.at_
      have Oa := O0.mono (Go.tups A0 gxa)
      have ta := Aa.at_ .tab True.intro
      rw [gxa.tab] at ta
      refine ⟨_, rfl, _, _, _, rfl, ta, rfl, _, rfl, ada, D, o, by rw [gxa.tab]; rfl, Aa, Oa, F, hoU, fun v2 _ _ h2 => ?_⟩
      refine ⟨two_le, fun tp htp => ?_⟩
      have st := same_new' (o := .tup [v1, v2]) htp
      obtain ⟨la, na⟩ := ga.off hLx nx
      have fa := ol_go (P := fun a => (H2 a).isSome = true ∨ a = L2) Ax ga
      have fs := ol_same (P := fun a => (H2 a).isSome = true ∨ a = L2) Aa st
      have fu := ol_upd (P := fun a => (H2 a).isSome = true ∨ a = L2) (ad1 := ada) (D1 := D) (ys := acc ++ [.ref tp]) (.inr rfl) (st _ _ la)
      have hP : ∀ a, ((H2 a).isSome = true ∨ a = L2) → (Hx a).isSome = true := fun a z => z.elim (isSome_go A2 gx) fun e => by rw [e, hLx]; rfl
      have d1 : Has b.K (upd Ha tp (.tup [v1, v2])) (Ol (fun a => (H2 a).isSome = true ∨ a = L2) (upd Ha tp (.tup [v1, v2])) ada D) v1 (dHolds c D.ts o) := (ol_of h1 hP).aft fs
      have d2 : Has b.K (upd Ha tp (.tup [v1, v2])) (Ol (fun a => (H2 a).isSome = true ∨ a = L2) (upd Ha tp (.tup [v1, v2])) ada D) v2 (dAsk c D.ts o) := (h2 (Ol (fun a => (H2 a).isSome = true ∨ a = L2) Ha ada D) fun a xs e z => z.2 xs e).aft fs
      have d4 : Has b.K (upd Ha tp (.tup [v1, v2])) (Ol (fun a => (H2 a).isSome = true ∨ a = L2) (upd Ha tp (.tup [v1, v2])) ada D) (.ref tp) (dTwo c D.ts o) := .tup upd_same (fun z => z.2 _ upd_same) (.cons d1 (.cons d2 .nil))
      refine k1 _ _ (st _ _ la) ⟨ada, ((gx.trans ga).then_ st).mine hL2 ⟨st _ _ la, na⟩ lst_ne, na, upd_same, ?_⟩
      have e1 : (TT.take (j + 1)).map (dTwo c D.ts) = (TT.take j).map (dTwo c D.ts) ++ [dTwo c D.ts o] := by rw [St.take_one hx, List.map_append]; rfl
      rw [e1]
      exact ((hs.aft fa).aft fs |>.append (.cons d4 .nil)).aft fu
    obtain ⟨adx, gx, nx, hLx, hs⟩ := p
    rw [List.take_length] at hs
    have g3 := g2.trans gx
    have O3 := O0.mono (Go.tups A0 g3)
    have eB := dBefore_fast fm
    have hF : Dp b.K Hx (.ref L2) (dBefore c D.ts TT) := .lst (.inl (.inl hLx)) (hs Hx fun a o e _ => e)
    have hB : Dp b.K Hx bv (dBefore c t0 TT) := (hbv.aft g3.aft).now
    have sB := sh_dBefore O3 F TT
    rw [← eB] at hB
    refine ⟨_, rfl, dBefore c D.ts TT, dBefore c D.ts TT, hF, hB, sB.ok (by omega), sB.ok (by omega), _, rfl, ?_⟩
    rw [PySem.SeqAt.eqv_refl _ sB.1]
    refine iteF ?_
    dsimp only
    have sl3 := sl2.go gx
    have A3 := gx.at_
    refine ⟨_, rfl, _, rfl, ⟨_, .inl (.inl sl3.at_)⟩, fun L3 hL3 => ?_⟩
    have nL3 : ¬ Own adx D L3 := off_new A3 hL3
    refine lc_acc ww (fun j Hy acc => acc = [] ∧ ∃ ady, Go b.w c Hx adx D Hy ady D ∧ ¬ Own ady D L3) (by rw [sizeLine_eq]; omega) ?_ (fun j Hy acc p => ?_) (fun j x Hy0 Hy acc Q' N' hj p hac hy k1 k2 => ?_) fun Hy acc p hac => ?_
    · exact ⟨rfl, adx, (Go.refl A3).then_ (same_new' hL3), nL3⟩
    · obtain ⟨_, ady, gy, _⟩ := p
      exact .inl (.inl (sl3.go gy).at_)
    · obtain ⟨rfl, ady, gy, ny⟩ := p
      obtain ⟨rfl, hy⟩ := hy
      rw [List.getElem?_map] at hy
      cases hx : TT[j]? with
      | none => rw [hx] at hy; cases hy
      | some o =>
      rw [hx] at hy
      cases hy
      have hoT := List.mem_of_getElem? hx
      have hoU := hU o hoT
      have Ay := gy.at_
      have g3y := g3.trans gy
      have Oy := O0.mono (Go.tups A0 g3y)
      have ty := Ay.at_ .tab True.intro
      rw [g3y.tab] at ty
      refine ⟨rfl, _, rfl, _, _, _, rfl, ty, rfl, _, rfl, ady, D, o, by rw [g3y.tab]; rfl, Ay, Oy, F, hoU, fun Ha ada r ga nr ofr => ?_⟩
      obtain ⟨la, na⟩ := ga.off hac ny
      have sla := (sl3.go gy).go ga
      refine ⟨_, rfl, ⟨_, .inl (.inl ofr.at_)⟩, fun L4 hL4 => ?_⟩
      have w4 := walk_list (K := b.K) (a := r) (xs := (LT.waitsFor c.M c.U D.ts o).map V.int)
      rw [List.length_map] at w4
      have wl : (LT.waitsFor c.M c.U D.ts o).length ≤ 20 := Nat.le_trans (List.length_filter_le ..) O0.ul
      refine lc_sel (xs := LT.waitsFor c.M c.U D.ts o) w4 (fun x => decide (x ∈ TT)) V.int hL4 (by rw [sizeLine_eq]; omega) (fun Hz s => .inl (.inl (s _ _ ofr.at_))) (fun i e x Hz Hz' Q' N' he sz hy' q1 q2 => ?_) fun Hz sz ez => ?_
      · obtain ⟨rfl, hy'⟩ := hy'
        rw [List.getElem?_map, he] at hy'
        cases hy'
        refine ⟨rfl, _, rfl, _, rfl, _, _, rfl, .inl (.inl (.inl (sz _ _ sla.at_))), rfl, all_int _, _, rfl, ?_⟩
        rw [in_int]
        cases hc : decide (e ∈ TT) with
        | false =>
          rw [hc] at q2
          exact iteF (q2 rfl _ (Same.refl _))
        | true =>
          rw [hc] at q1
          exact iteT ⟨_, rfl, q1 rfl _ (Same.refl _)⟩
      refine ⟨Nat.zero_le _, fun q hq => ⟨.list (((LT.waitsFor c.M c.U D.ts o).filter fun x => decide (x ∈ TT)).map PyData.int), .list [], .lst (.inl (.inl ((same_new' hq) _ _ ez))) (dp_ints _), .lst (.inl (.inl upd_same)) .nil, (Sh.lst (sh_ints _)).ok (by omega), sh_nil, _, rfl, ?_⟩⟩
      have sq := Same.trans sz (same_new' (o := .lst []) hq)
      obtain ⟨b1, hb1, hb2⟩ := fm.one F hoT
      have hne : ((LT.waitsFor c.M c.U D.ts o).filter fun x => decide (x ∈ TT)).map PyData.int ≠ [] := fun z => by
        have z := List.map_eq_nil_iff.mp z
        exact absurd (List.mem_filter.mpr ⟨hb1, decide_eq_true hb2⟩) (by rw [z]; simp)
      rw [eqv_nil, decide_eq_false hne]
      exact iteF (k2 _ (sq _ _ la) ⟨rfl, ada, (gy.trans ga).then_ sq, na⟩)
    obtain ⟨rfl, ady, gy, ny⟩ := p
    refine ⟨Nat.zero_le _, fun q hq => ⟨.list [], .list [], .lst (.inl (.inl ((same_new' hq) _ _ hac))) .nil, .lst (.inl (.inl upd_same)) .nil, sh_nil, sh_nil, ?_⟩⟩
    rw [eqv_nil]
    exact k _ _ ((g3.trans gy).then_ (same_new' hq))
end Lk
end
section
set_option maxRecDepth 100000
set_option maxHeartbeats 1000000
/-! The law's further step. -/
namespace Lk
open PySem L2
open Mx (pe_msetd pe_mget pe_mget2 ps_mput pe_mnew pe_mayLock ps_mayLock pi_itemsN pi_itemsM fresh_dK fresh_mix)

/-- a table, the scene and the well -/
structure One (b : Bs) (c : Tc) (H0 : Hp) (t os is wl : Addr) (ow : List Int) (it : List V) (H : Hp) (ad : Ad) (D : Dt) : Prop where
  pl : Pl b.K c H0 H t os is wl ow it
  A : At b.w c H ad D
  ra : Rg H0 H os is wl (Own ad D)
/-- what the table and the well may have changed -/
abbrev Ow (ad : Ad) (D : Dt) (wl : Addr) (a : Addr) : Prop := Own ad D a ∨ a = wl
section
variable {b : Bs} {c : Tc} {H0 H H' H2 : Hp} {t os is wl : Addr} {ow : List Int} {it : List V} {ad ad' ad2 : Ad} {D D' D2 : Dt}
theorem One.ok (x : One b c H0 t os is wl ow it H ad D) : c.Ok b.K H := x.pl.sc.ok
theorem One.same (x : One b c H0 t os is wl ow it H ad D) (s : Same H H') : One b c H0 t os is wl ow it H' ad D := ⟨x.pl.same s, x.A.same s, x.ra.same s⟩
theorem One.set (x : One b c H0 t os is wl ow it H ad D) {a' b' k' : Int} (h : 0 ≤ a') : One b c H0 t os is wl ow it (upd H wl (.lst (well a' b' k'))) ad D := by
  obtain ⟨a, b2, k, e, _⟩ := x.pl.well
  exact ⟨x.pl.set h, x.A.off x.ra.wl e lst_ne, x.ra.set⟩
theorem One.tab (x : One b c H0 t os is wl ow it H ad D) (g : Go b.w c H ad D H' ad' D') : One b c H0 t os is wl ow it H' ad' D' :=
  ⟨x.pl.aft x.ra g.aft (Go.tups x.A g), g.at_, x.ra.aft x.pl g.aft (own_live g.at_)⟩
theorem ow_set (x : One b c H0 t os is wl ow it H ad D) {o : HO} : Aft (Ow ad D wl) H (Ow ad D wl) (upd H wl o) := (x.pl.aset).orR
theorem ow_go (g : Go b.w c H ad D H' ad' D') : Aft (Ow ad D wl) H (Ow ad' D' wl) H' := g.aft.orL
theorem ow_same (s : Same H H') : Aft (Ow ad D wl) H (Ow ad D wl) H' := Aft.same s
end
abbrev spFurther (b : Bs) (c : Tc) : Sp := fun vs H Q _ => ∃ (H0 : Hp) (t os is wl : Addr) (ow : List Int) (it : List V) (ad : Ad) (D : Dt) (sl : Addr) (TT : List Int) (t0 : LT.TS V Str), vs = [.ref wl, .ref t, .ref (ad.at_ .tab), .ref sl] ∧ One b c H0 t os is wl ow it H ad D ∧ H sl = some (.lst (TT.map V.int)) ∧ ¬ Ow ad D wl sl ∧ Wf c D ∧
  LT.Firm c.M TT t0 D.ts ∧ (20 : Int) ∉ TT ∧ TT.length ≤ 20 ∧ ∀ H' ad' D', One b c H0 t os is wl ow it H' ad' D' → Aft (Ow ad D wl) H (Ow ad' D' wl) H' → Wf c D' → LT.Firm c.M TT t0 D'.ts → ad'.at_ .tab = ad.at_ .tab → Q (.bl true) H'
abbrev s_law_further : Stmt := top 56
abbrev N_law_further : List Str := ["_law_well_here", "_law_scene_here", "_law_table", "_law_stuck", "_law_others", "_law_modes", "_law_owners", "_law_items", "_law_owner", "_law_before", "_law_one_here"]
abbrev P_law_further : List Str := ["_law_well_here", "_law_scene_here", "_law_table", "_law_stuck"]
theorem sc_law_further : FnScope N_law_further P_law_further (defScope s_law_further) := ⟨rfl, rfl, rfl, by decide +kernel, rfl, by decide +kernel, by decide +kernel⟩
theorem ok_law_further {b : Bs} {c : Tc} (R : Raw b "_law_further" "_law_further" s_law_further P_law_further) (D_law_one : Df b 2 "_law_one" P_law_one (spOne b.K)) (D_law_draw : Df b 1 "_law_draw" P_law_draw spDraw)
    (D_finish : Mt b 7 c.CT "finish" P_LockTable_finish (spFinish b c)) (D_ask : Mt b 5 c.CT "ask" P_LockTable_ask (spAsk b c)) (D_ask_of : Mt b 4 c.CT "ask_of" P_LockTable_ask_of (spAskOf b c)) (D_stuck_owners : Mt b 7 c.CT "stuck_owners" P_LockTable_stuck_owners (spStuck b c)) : Df b 8 "_law_further" P_law_further (spFurther b c) := by
  refine R.ok sc_law_further (fun vs H Q E h => ?_) fun f cdv A outer s H vs Q E hr h => ?_
  · obtain ⟨_, _, _, _, _, _, _, _, _, _, _, _, rfl, _⟩ := h
    rfl
  · obtain ⟨H0, t, os, is, wl, ow, it, ad, D, sl, TT, t0, rfl, X0, hsl, nsl, F, fm, n20, tl, k⟩ := h
    refine ⟨_, (pss_cons (ps_asg (pv 1) (pg_tup rfl (pgs_cons (pg_name (i := 5) sc_law_further.nd rfl (Or.inl rfl)) (pgs_cons (pg_name (i := 6) sc_law_further.nd rfl (Or.inl rfl)) (pgs_cons (pg_name (i := 7) sc_law_further.nd rfl (Or.inl rfl)) pgs_nil)))))
      (pss_cons (ps_setLcB (i := 4) (own := [("_law_owner", 8)]) rfl sc_law_further.nd rfl rfl (sw_true rfl rfl rfl (by decide +kernel)) (pi_list (pe_op op_cat (pv 6) (pe_lst (pa_cons pe_int (pa_cons pe_int pa_nil))))) (blkOk_by (own := [("_law_owner", 8)]) (N := N_law_further) (sc := defScope s_law_further) (by decide +kernel)) (fun _ _ _ _ _ => (pg_name (i := 8) sc_law_further.nd rfl (Or.inl rfl))) (fun _ _ _ _ _ => (pts_one (pt_cmpR op_notIn_seq (pv 8) (pv 3) (by rfl)))) (fun _ _ _ _ _ => (pv 8)))
      (pss_cons (ps_asg (pe_tup (pa_cons (pe_df D_law_one (hr.mono (by decide)) (pa_cons (pv 0) (pa_cons (pv 4) pa_nil))) (pa_cons (pe_mtd0 D_stuck_owners (pv 2) (hr.mono (by decide))) pa_nil))) (pg_tup rfl (pgs_cons (pg_name (i := 8) sc_law_further.nd rfl (Or.inl rfl)) (pgs_cons (pg_name (i := 9) sc_law_further.nd rfl (Or.inr rfl)) pgs_nil))))
      (pss_cons (ps_if (PW.pt (pw_and (pt_cmpR op_eq (pe_df D_law_draw (hr.mono (by decide)) (pa_cons (pv 0) (pa_cons pe_int pa_nil))) pe_int (nomark _)) (pw_and1 (pt_cmpR op_notIn_seq (pv 8) (pv 9) (by rfl))))) (pss_cons (ps_expr (pe_mtd D_finish (pv 2) (hr.mono (by decide)) (pa_cons (pv 8) pa_nil)))
      (pss_one (ps_ret (pe_cmpR (op_eqD hr.units) (pe_lcB (own := [("_law_one_here", 10)]) rfl sc_law_further.nd (pi_list (pe_mtd0 D_stuck_owners (pv 2) (hr.mono (by decide)))) (blkOk_by (own := [("_law_one_here", 10)]) (N := N_law_further) (sc := defScope s_law_further) (by decide +kernel)) (fun _ _ _ _ _ => (pg_name (i := 10) sc_law_further.nd rfl (Or.inl rfl))) (fun _ _ _ _ _ => (pts_one (pt_cmpR op_notIn_seq (pv 10) (pv 9) (by rfl)))) (fun _ _ _ _ _ => (pv 10))) (pe_lst pa_nil) (nomark _))))) pss_nil)
      (pss_cons (ps_if (pt_cmpR op_isN (pe_mtd D_ask_of (pv 2) (hr.mono (by decide)) (pa_cons (pv 8) pa_nil)) pe_non (nomark _)) (pss_one (ps_expr (pe_mtd D_ask (pv 2) (hr.mono (by decide)) (pa_cons (pv 8) (pa_cons (pe_df D_law_one (hr.mono (by decide)) (pa_cons (pv 0) (pa_cons (pv 7) pa_nil))) (pa_cons (pe_df D_law_one (hr.mono (by decide)) (pa_cons (pv 0) (pa_cons (pe_ix ix_tup (pv 5) pe_int (fun _ _ => rfl)) pa_nil))) pa_nil)))))) pss_nil)
      (pss_one (ps_ret pe_bl))))))), ?_⟩
    refine ⟨_, rfl, t, _, rfl, .inl (.inl X0.pl.sc.at_), rfl, _, _, rfl, _, _, rfl, _, _, rfl, rfl, ?_⟩
    dsimp only
    have hol := X0.pl.sc.ol
    refine ⟨_, rfl, sz100 (by simp), fun p hp => ⟨os, p, _, _, rfl, rfl, (same_new' hp) _ _ X0.pl.sc.os_, upd_same, by rw [List.length_map, sizeLine_eq]; simp only [List.length_cons, List.length_nil]; omega, fun r hr0 => ?_⟩⟩
    have s1 := same_new' (o := .lst [.int 20, .int 21]) hp
    have eo : ow.map V.int ++ [.int 20, .int 21] = (ow ++ [20, 21]).map V.int := by rw [List.map_append]; rfl
    rw [eo]
    have s2 := same_new' (o := .lst ((ow ++ [20, 21]).map V.int)) hr0
    have s12 := Same.trans s1 s2
    have X1 := X0.same s12
    have hr1 : (upd (upd H p (.lst [.int 20, .int 21])) r (.lst ((ow ++ [20, 21]).map V.int))) r = some (.lst ((ow ++ [20, 21]).map V.int)) := upd_same
    have hsl1 := s12 _ _ hsl
    have f1 : Aft (Ow ad D wl) H (Ow ad D wl) _ := Aft.same s12
    generalize upd (upd H p (.lst [.int 20, .int 21])) r (.lst ((ow ++ [20, 21]).map V.int)) = H1 at X1 hr1 hsl1 f1 ⊢
    refine ⟨_, rfl, ⟨_, .inl (.inl hr1)⟩, fun L hL => ?_⟩
    have ww := walk_list (K := b.K) (a := r) (xs := (ow ++ [20, 21]).map V.int)
    rw [List.length_map] at ww
    refine lc_sel (xs := ow ++ [20, 21]) ww (fun x => !decide (x ∈ TT)) V.int hL (by rw [sizeLine_eq, List.length_append]; simp only [List.length_cons, List.length_nil]; omega) (fun Hz s => .inl (.inl (s _ _ hr1))) (fun i e x Hz Hz' Q' N' he sz hy' q1 q2 => ?_) fun Hz sz ez => ?_
    · obtain ⟨rfl, hy'⟩ := hy'
      rw [List.getElem?_map, he] at hy'
      cases hy'
      refine ⟨rfl, _, rfl, _, rfl, _, _, rfl, .inl (.inl (.inl (sz _ _ hsl1))), rfl, all_int _, _, rfl, ?_⟩
      rw [in_int]
      simp only [if_true]
      cases hc : decide (e ∈ TT) with
      | true =>
        rw [hc] at q2
        exact iteF (q2 rfl _ (Same.refl _))
      | false =>
        rw [hc] at q1
        exact iteT ⟨_, rfl, q1 rfl _ (Same.refl _)⟩
    have X2 := X1.same sz
    have f2 := f1.trans (ow_same (ad := ad) (D := D) (wl := wl) sz)
    have nL : H1 L = none := hL
    obtain ⟨a0, b0, k0, hw0, p0⟩ := X2.pl.well
    have Lwl : L ≠ wl := fun e => by
      obtain ⟨a, b2, k2, e2, _⟩ := X1.pl.well
      rw [e, e2] at hL; cases hL
    have ne : ((ow ++ [20, 21]).filter fun x => !decide (x ∈ TT)) ≠ [] := fun z => by
      have : (20 : Int) ∈ (ow ++ [20, 21]).filter fun x => !decide (x ∈ TT) := List.mem_filter.mpr ⟨by simp, by rw [decide_eq_false n20]; rfl⟩
      rw [z] at this; cases this
    have fl := List.length_filter_le (fun x => !decide (x ∈ TT)) (ow ++ [20, 21])
    rw [List.length_append] at fl
    simp only [List.length_cons, List.length_nil] at fl
    dsimp only [gName]
    refine ⟨_, rfl, _, rfl, wl, L, a0, b0, k0, _, rfl, hw0, p0, .inl ⟨ez, Lwl⟩, fun z => ne (List.map_eq_nil_iff.mp z), by rw [List.length_map]; omega, fun a1 b1 k1 p1 x hx => ?_⟩
    obtain ⟨o, ho, rfl⟩ := List.mem_map.mp hx
    obtain ⟨ho1, ho2⟩ := List.mem_filter.mp ho
    have hoT : o ∉ TT := fun z => by rw [decide_eq_true z] at ho2; cases ho2
    have hoU : o ∈ c.U := by
      rcases List.mem_append.mp ho1 with h | h
      · exact X0.pl.sc.oU o h
      · have h : o = 20 ∨ o = 21 := by simpa using h
        rcases h with rfl | rfl
        · exact X0.pl.sc.u20
        · exact X0.pl.sc.u21
    have X3 := X2.set (b' := b1) (k' := k1) p1
    have f3 := f2.trans (ow_set X2 (o := .lst (well a1 b1 k1)))
    have hw3 : (upd Hz wl (.lst (well a1 b1 k1))) wl = some (.lst (well a1 b1 k1)) := upd_same
    generalize upd Hz wl (.lst (well a1 b1 k1)) = H3 at X3 f3 hw3 ⊢
    refine ⟨_, rfl, _, _, _, rfl, X3.A.at_ .tab True.intro, rfl, ad, D, rfl, X3.A, X3.ok, F, fun H4 ad4 r4 g4 n4 o4 => ?_⟩
    have X4 := X3.tab g4
    have f4 := f3.trans (ow_go g4)
    refine ⟨two_le, fun tp htp => ⟨tp, _, rfl, .inl (.inl upd_same), rfl, _, _, rfl, _, _, rfl, rfl, ?_⟩⟩
    have s5 := same_new' (o := .tup [.int o, .ref r4]) htp
    have X5 := X4.same s5
    have f5 := f4.trans (ow_same s5)
    have o5 := o4.same s5
    have hw5 := s5 _ _ (g4.off hw3 X3.ra.wl).1
    have r4wl : r4 ≠ wl := fun e => by rw [e, hw3] at n4; cases n4
    dsimp only
    generalize upd H4 tp (.tup [.int o, .ref r4]) = H5 at X5 f5 o5 hw5 ⊢
    have et4 : ad4.at_ .tab = ad.at_ .tab := g4.tab
    refine seq_if (fun _ H6 => One b c H0 t os is wl ow it H6 ad4 D ∧ Aft (Ow ad D wl) H (Ow ad4 D wl) H6 ∧ H6 r4 = some (.lst ((LT.stuckL c.M c.U D.ts).map V.int)) ∧ ¬ Own ad4 D r4) (fun N hN => ?_) (fun H6 h6 => ?_) (fun H6 h6 => ?_)
    · refine ⟨_, rfl, wl, a1, b1, k1, 4, rfl, hw5, p1, by omega, by omega, fun a2 b2 k2 way p2 w0 w4 => ?_⟩
      have X6 := X5.set (b' := b2) (k' := k2) p2
      have f6 := f5.trans (ow_set X5 (o := .lst (well a2 b2 k2)))
      have o6 : (upd H5 wl (.lst (well a2 b2 k2))) r4 = some (.lst ((LT.stuckL c.M c.U D.ts).map V.int)) := by rw [upd_ne r4wl]; exact o5.at_
      generalize upd H5 wl (.lst (well a2 b2 k2)) = H6 at X6 f6 o6 ⊢
      refine ⟨rfl, _, rfl, ?_⟩
      cases hc : decide (V.int way = V.int 0) with
      | false => exact iteF (hN _ _ ⟨X6, f6, o6, o5.no⟩)
      | true => exact iteT ⟨_, rfl, _, rfl, _, _, rfl, .inl (.inl (.inl o6)), rfl, all_int _, _, rfl, hN _ _ ⟨X6, f6, o6, o5.no⟩⟩
    · obtain ⟨X6, f6, o6, no6⟩ := h6
      have t6 := X6.A.at_ .tab True.intro
      rw [et4] at t6
      refine ⟨_, rfl, _, _, _, rfl, t6, rfl, _, rfl, ad4, D, o, by rw [et4]; rfl, X6.A, X6.ok, F, hoU, fun H7 ad7 D7 r7 ys7 g7 e7 nr7 of7 pr7 => ?_⟩
      have X7 := X6.tab g7
      have f7 := f6.trans (ow_go g7)
      have F7 : Wf c D7 := by show LT.WF c.U c.J c.B _; rw [e7]; exact LT.finish_wf F
      have et7 : ad7.at_ .tab = ad.at_ .tab := g7.tab.trans et4
      obtain ⟨o7, no7⟩ := g7.off o6 no6
      have t7 := X7.A.at_ .tab True.intro
      rw [et7] at t7
      refine ⟨_, rfl, _, _, _, rfl, t7, rfl, ad7, D7, by rw [et7]; rfl, X7.A, X7.ok, F7, fun H8 ad8 r8 g8 n8 o8 => ?_⟩
      have X8 := X7.tab g8
      have f8 := f7.trans (ow_go g8)
      obtain ⟨o8', _⟩ := g8.off o7 no7
      refine ⟨_, rfl, ⟨_, .inl (.inl o8.at_)⟩, fun L8 hL8 => ?_⟩
      have w8 := walk_list (K := b.K) (a := r8) (xs := (LT.stuckL c.M c.U D7.ts).map V.int)
      rw [List.length_map] at w8
      have wl8 : (LT.stuckL c.M c.U D7.ts).length ≤ 20 := Nat.le_trans (List.length_filter_le ..) X0.ok.ul
      refine lc_sel (xs := LT.stuckL c.M c.U D7.ts) w8 (fun x => !decide (x ∈ LT.stuckL c.M c.U D.ts)) V.int hL8 (by rw [sizeLine_eq]; omega) (fun Hz s => .inl (.inl (s _ _ o8.at_))) (fun i e x Hz Hz' Q' N' he sz hy' q1 q2 => ?_) fun Hz sz ez => ?_
      · obtain ⟨rfl, hy'⟩ := hy'
        rw [List.getElem?_map, he] at hy'
        cases hy'
        refine ⟨rfl, _, rfl, _, rfl, _, _, rfl, .inl (.inl (.inl (sz _ _ o8'))), rfl, all_int _, _, rfl, ?_⟩
        rw [in_int]
        simp only [if_true]
        cases hc : decide (e ∈ LT.stuckL c.M c.U D.ts) with
        | true =>
          rw [hc] at q2
          exact iteF (q2 rfl _ (Same.refl _))
        | false =>
          rw [hc] at q1
          exact iteT ⟨_, rfl, q1 rfl _ (Same.refl _)⟩
      have ef : (LT.stuckL c.M c.U D7.ts).filter (fun x => !decide (x ∈ LT.stuckL c.M c.U D.ts)) = [] := List.filter_eq_nil_iff.mpr fun a ha => by
        rw [e7] at ha
        rw [decide_eq_true (LT.finish_stuck_sub F ha)]; simp
      rw [ef] at ez
      refine ⟨Nat.zero_le _, fun q hq => ⟨.list [], .list [], .lst (.inl (.inl ((same_new' hq) _ _ ez))) .nil, .lst (.inl (.inl upd_same)) .nil, sh_nil, sh_nil, ?_⟩⟩
      rw [eqv_nil]
      have sq := Same.trans sz (same_new' (o := .lst []) hq)
      exact k _ _ _ (X8.same sq) (f8.trans (ow_same sq)) F7 (by rw [e7]; exact fm.finish F hoT) (g8.tab.trans et7)
    · obtain ⟨X6, f6, o6, no6⟩ := h6
      have t6 := X6.A.at_ .tab True.intro
      rw [et4] at t6
      unfold tNext
      dsimp only
      refine ⟨_, rfl, _, _, _, rfl, t6, rfl, _, rfl, ad4, D, o, by rw [et4]; rfl, X6.A, X6.ok, F, hoU, fun v h1 h2 _ => ⟨rfl, _, rfl, ?_⟩⟩
      cases ha : D.ts.asks o with
      | some p =>
        rw [decide_eq_false (h2 p ha)]
        exact iteF (k _ _ _ X6 f6 F fm et4)
      | none =>
        rw [decide_eq_true (h1 ha)]
        refine iteT ?_
        obtain ⟨a6, b6, k6, hw6, p6⟩ := X6.pl.well
        refine ⟨_, rfl, _, _, _, rfl, t6, rfl, _, rfl, _, rfl, _, rfl, wl, is, a6, b6, k6, _, rfl, hw6, p6, .inl ⟨X6.pl.sc.is_, X6.pl.wi.symm⟩, X6.pl.sc.ine, by have := X6.pl.sc.il; omega, fun a7 b7 k7 p7 i hi => ?_⟩
        have X7 := X6.set (b' := b7) (k' := k7) p7
        have f7 := f6.trans (ow_set X6 (o := .lst (well a7 b7 k7)))
        have hw7 : (upd H6 wl (.lst (well a7 b7 k7))) wl = some (.lst (well a7 b7 k7)) := upd_same
        generalize upd H6 wl (.lst (well a7 b7 k7)) = H7 at X7 f7 hw7 ⊢
        obtain ⟨n, a, j, ps, js, M⟩ := X7.ok.ms
        refine ⟨_, rfl, _, rfl, c.mo, _, 0, _, rfl, rfl, M.top.sq, rfl, wl, n, a7, b7, k7, _, rfl, hw7, p7, .inr M.nam, by simpa using X7.ok.ck.1.2.1, by rw [List.length_map]; have := M.few.1; omega, fun a8 b8 k8 p8 y hy => ?_⟩
        obtain ⟨m, hm, rfl⟩ := List.mem_map.mp hy
        have X8 := X7.set (b' := b8) (k' := k8) p8
        have f8 := f7.trans (ow_set X7 (o := .lst (well a8 b8 k8)))
        generalize upd H7 wl (.lst (well a8 b8 k8)) = H8 at X8 f8 ⊢
        have hJ := X0.pl.sc.iJ i hi
        refine ⟨ad4, D, o, i, m, by rw [et4]; rfl, X8.A, X8.ok, F, hJ, hoU, hm, ha, fun H9 ad9 D9 g9 e9 => ?_⟩
        have F9 : Wf c D9 := by show LT.WF c.U c.J c.B _; rw [e9]; exact LT.ask_wf F ha hoU hJ (jn_in X8.ok (fun x hx => (F.heldIn i o x hx).2.2) hm)
        exact k _ _ _ (X8.tab g9) (f8.trans (ow_go g9)) F9 (by rw [e9]; exact fm.ask F hoT) (g9.tab.trans et4)
end Lk
end
section
set_option maxRecDepth 100000
set_option maxHeartbeats 1000000
/-! The law. -/
namespace Lk
open PySem L2
open Mx (pe_msetd pe_mget pe_mget2 ps_mput pe_mnew pe_mayLock ps_mayLock pi_itemsN pi_itemsM fresh_dK fresh_mix)

def Dt.empty : Dt := ⟨[], [], fun _ => [], fun _ => [], fun _ => [], fun _ => [], []⟩
def adN (x dx p q r : Addr) : Ad := ⟨fun t => match t with
  | .tab => x
  | .spots => p
  | .ibo => q
  | .asks => r
  | _ => x, fun _ => dx⟩
theorem tab_new {w : World} {c : Tc} {H H' : Hp} {x dx p q r : Addr} (nx : H x = none) (ndx : H dx = none) (ne : dx ≠ x)
    (kp : ∀ y o, (upd (upd H dx (.own x)) x (.ins c.CT dx [])) y = some o → y ≠ x → H' y = some o) (np : (upd (upd H dx (.own x)) x (.ins c.CT dx [])) p = none) (nq : (upd (upd H dx (.own x)) x (.ins c.CT dx [])) q = none) (nr : (upd (upd H dx (.own x)) x (.ins c.CT dx [])) r = none)
    (pq : p ≠ q) (pr : p ≠ r) (qr : q ≠ r) (hp : H' p = some (Mx.MixO w c.kof p [])) (hq : H' q = some (.dK [])) (hr : H' r = some (.dK [])) (hx : H' x = some (.ins c.CT dx (tabF c.mo p q r))) :
    At w c H' (adN x dx p q r) Dt.empty ∧ Same H H' ∧ ∀ a, Own (adN x dx p q r) Dt.empty a → H a = none := by
  have bk : ∀ {y : Addr}, (upd (upd H dx (.own x)) x (.ins c.CT dx [])) y = none → H y = none ∧ y ≠ x := fun {y} h => by
    have n1 : y ≠ x := fun e => by rw [e, upd_same] at h; cases h
    rw [upd_ne n1] at h
    have n2 : y ≠ dx := fun e => by rw [e, upd_same] at h; cases h
    rw [upd_ne n2] at h
    exact ⟨h, n1⟩
  obtain ⟨p0, px⟩ := bk np
  obtain ⟨q0, qx⟩ := bk nq
  obtain ⟨r0, rx⟩ := bk nr
  refine ⟨⟨fun t ht => ?_, fun u v hu hv e => ?_, fun e he => (by cases he), ?_⟩, fun y o e => ?_, fun a ⟨t, ht, ea⟩ => ?_⟩
  · cases t with
    | tab => exact hx
    | spots => exact hp
    | ibo => exact hq
    | asks => exact hr
    | sp i => cases ht
    | md i => cases ht
    | cv i => cases ht
    | qu i => cases ht
    | kept o => cases ht
  · cases u <;> first | (cases hu; done) | (cases v <;> first | (cases hv; done) | rfl | exact absurd e (by first | assumption | exact Ne.symm (by assumption)))
  · exact ⟨List.nodup_nil, (fun _ h => by cases h), List.nodup_nil, (fun _ h => by cases h), fun _ => List.nodup_nil, List.nodup_nil, fun _ _ => ⟨rfl, rfl, rfl⟩, fun _ _ => rfl⟩
  · exact kp y o (by rw [upd_ne (ne_of_none e nx), upd_ne (ne_of_none e ndx)]; exact e) (ne_of_none e nx)
  · rw [← ea]
    cases t with
    | tab => exact nx
    | spots => exact p0
    | ibo => exact q0
    | asks => exact r0
    | sp i => cases ht
    | md i => cases ht
    | cv i => cases ht
    | qu i => cases ht
    | kept o => cases ht
theorem rg_new {K : PySem.W.Frag} {c : Tc} {H0 Ha Hb : Hp} {t os is wl : Addr} {ow : List Int} {it : List V} {S : Addr → Prop} (p : Pl K c H0 Ha t os is wl ow it) (n : ∀ a, S a → Ha a = none) (lv : ∀ a, S a → ∃ o, Hb a = some o) : Rg H0 Hb os is wl S := by
  refine ⟨fun a h => p.none_ (n a h), lv, fun h => ?_, fun h => ?_, fun h => ?_⟩
  · obtain ⟨a, b, k, e, _⟩ := p.well
    rw [n _ h] at e; cases e
  · have e := p.sc.os_
    rw [n _ h] at e; cases e
  · have e := p.sc.is_
    rw [n _ h] at e; cases e
/-- a table and its twin -/
structure Two (b : Bs) (c : Tc) (H0 : Hp) (t os is wl : Addr) (ow : List Int) (it : List V) (H : Hp) (ad : Ad) (D : Dt) (ae : Ad) (E : Dt) : Prop where
  pl : Pl b.K c H0 H t os is wl ow it
  A : At b.w c H ad D
  B : At b.w c H ae E
  ra : Rg H0 H os is wl (Own ad D)
  rb : Rg H0 H os is wl (Own ae E)
  dj : ∀ a, Own ad D a → ¬ Own ae E a
/-- all that may change of them -/
abbrev Sw (ad : Ad) (D : Dt) (ae : Ad) (E : Dt) (wl : Addr) (a : Addr) : Prop := Own ad D a ∨ Ow ae E wl a
section
variable {b : Bs} {c : Tc} {H0 H H' : Hp} {t os is wl : Addr} {ow : List Int} {it : List V} {ad ad' ae ae' : Ad} {D D' E E' : Dt}
theorem own_ntup {w : World} (A : At w c H ad D) {a : Addr} (h : Own ad D a) : ∀ xs, H a ≠ some (.tup xs) := fun xs e => by
  obtain ⟨t, _, e2⟩ := A.live h
  rw [e] at e2
  exact cont_tup t xs (Option.some.inj e2).symm
theorem Two.ok (x : Two b c H0 t os is wl ow it H ad D ae E) : c.Ok b.K H := x.pl.sc.ok
theorem Two.same (x : Two b c H0 t os is wl ow it H ad D ae E) (s : Same H H') : Two b c H0 t os is wl ow it H' ad D ae E := ⟨x.pl.same s, x.A.same s, x.B.same s, x.ra.same s, x.rb.same s, x.dj⟩
theorem Two.one (x : Two b c H0 t os is wl ow it H ad D ae E) : One b c H0 t os is wl ow it H ae E := ⟨x.pl, x.B, x.rb⟩
theorem Two.oneL (x : Two b c H0 t os is wl ow it H ad D ae E) : One b c H0 t os is wl ow it H ad D := ⟨x.pl, x.A, x.ra⟩
theorem Two.far (x : Two b c H0 t os is wl ow it H ad D ae E) (o : One b c H0 t os is wl ow it H' ae' E') (f : Aft (Ow ae E wl) H (Ow ae' E' wl) H') : Two b c H0 t os is wl ow it H' ad D ae' E' := by
  have tp : Tups H H' := fun a xs e => f.keep a _ e fun z => z.elim (fun z => own_ntup x.B z xs e) fun z => by
    obtain ⟨a0, b0, k0, e0, _⟩ := x.pl.well
    rw [z, e0] at e; cases e
  have dj : ∀ a, Own ad D a → ¬ Ow ae E wl a := fun a h z => z.elim (x.dj a h) fun z => x.ra.wl (by rw [← z]; exact h)
  refine ⟨o.pl, x.A.apart f dj tp, o.A, ?_, o.ra, fun a h z => ?_⟩
  · exact x.ra.other f fun a h z => dj a z h
  · exact dj_aft (own_live x.A) f (fun a h z => dj a z h) a (.inl z) h
theorem Two.tabR (x : Two b c H0 t os is wl ow it H ad D ae E) (g : Go b.w c H ae E H' ae' E') : Two b c H0 t os is wl ow it H' ad D ae' E' := x.far (x.one.tab g) (ow_go g)
theorem Two.tabL (x : Two b c H0 t os is wl ow it H ad D ae E) (g : Go b.w c H ad D H' ad' D') : Two b c H0 t os is wl ow it H' ad' D' ae E := by
  have tp := Go.tups x.A g
  exact ⟨x.pl.aft x.ra g.aft tp, g.at_, x.B.apart g.aft (fun a h z => x.dj a z h) tp, x.ra.aft x.pl g.aft (own_live g.at_), x.rb.other g.aft x.dj, dj_aft x.rb.live g.aft x.dj⟩
theorem sw_far (f : Aft (Ow ae E wl) H (Ow ae' E' wl) H') : Aft (Sw ad D ae E wl) H (Sw ad D ae' E' wl) H' := f.orR
theorem sw_R (g : Go b.w c H ae E H' ae' E') : Aft (Sw ad D ae E wl) H (Sw ad D ae' E' wl) H' := sw_far (ow_go g)
theorem sw_L (g : Go b.w c H ad D H' ad' D') : Aft (Sw ad D ae E wl) H (Sw ad' D' ae E wl) H' := g.aft.orL
theorem sw_same (s : Same H H') : Aft (Sw ad D ae E wl) H (Sw ad D ae E wl) H' := Aft.same s
/-- all that may change is no tuple -/
theorem Two.ntup (x : Two b c H0 t os is wl ow it H ad D ae E) {a : Addr} (h : Sw ad D ae E wl a) : ∀ xs, H a ≠ some (.tup xs) := fun xs e => by
  rcases h with h | h | h
  · exact own_ntup x.A h xs e
  · exact own_ntup x.B h xs e
  · obtain ⟨a0, b0, k0, e0, _⟩ := x.pl.well
    rw [h, e0] at e; cases e
theorem Two.live (x : Two b c H0 t os is wl ow it H ad D ae E) {a : Addr} (h : Sw ad D ae E wl a) : ∃ o, H a = some o := by
  rcases h with h | h | h
  · exact own_live x.A a h
  · exact own_live x.B a h
  · obtain ⟨a0, b0, k0, e0, _⟩ := x.pl.well
    exact ⟨_, by rw [h]; exact e0⟩
theorem seen_L (x : Two b c H0 t os is wl ow it H ad D ae E) (g : Go b.w c H ad D H' ad' D') {K : PySem.W.Frag} {v : V} {d : PyData} (h : Has K H' (Old H H' ad' D') v d) : Has K H' (Sw ad' D' ae E wl) v d := by
  have y := x.tabL g
  exact h.mono fun a o e z => ⟨z.imp id fun z => by
    obtain ⟨u, hu⟩ := x.live (a := a) (.inr z)
    rw [hu]; rfl, y.ntup z⟩
theorem seen_R (x : Two b c H0 t os is wl ow it H ad D ae E) (g : Go b.w c H ae E H' ae' E') {K : PySem.W.Frag} {v : V} {d : PyData} (h : Has K H' (Old H H' ae' E') v d) : Has K H' (Sw ad D ae' E' wl) v d := by
  have y := x.tabR g
  refine h.mono fun a o e z => ⟨?_, y.ntup z⟩
  rcases z with z | z | z
  · obtain ⟨u, hu⟩ := x.live (a := a) (.inl z)
    exact .inr (by rw [hu]; rfl)
  · exact .inl z
  · obtain ⟨u, hu⟩ := x.live (a := a) (.inr (.inr z))
    exact .inr (by rw [hu]; rfl)
end
/-- a promise for each table of these classes -/
abbrev Al (CT CS : Addr) (sp : Tc → Sp) : Sp := fun vs H Q E => ∃ c, (c.CT = CT ∧ c.CS = CS) ∧ sp c vs H Q E
abbrev spLaw (K : PySem.W.Frag) : Sp := fun vs H Q _ => ∃ (a : Addr) (ns : List Int), vs = [.ref a] ∧ SqL K H a (ns.map V.int) ∧ ns.length ≤ 63 ∧ ∀ H', Q (.bl true) H'
end Lk
end
section
set_option maxRecDepth 100000
set_option maxHeartbeats 1000000
/-! The law itself. -/
namespace Lk
open PySem L2
open Mx (pe_msetd pe_mget pe_mget2 ps_mput pe_mnew pe_mayLock ps_mayLock pi_itemsN pi_itemsM fresh_dK fresh_mix)

/-- what is kept through the twin's turns -/
structure Kp (K : PySem.W.Frag) (H : Hp) (S : Addr → Prop) (sl : Addr) (TT : List Int) (bv : V) (dB : PyData) (v : V) (dS : PyData) : Prop where
  sl_ : H sl = some (.lst (TT.map V.int))
  nsl : ¬ S sl
  hb : Has K H S bv dB
  hv : Has K H S v dS
theorem Kp.aft {K : PySem.W.Frag} {H H' : Hp} {S S' : Addr → Prop} {sl : Addr} {TT : List Int} {bv v : V} {dB dS : PyData} (k : Kp K H S sl TT bv dB v dS) (f : Aft S H S' H') : Kp K H' S' sl TT bv dB v dS :=
  ⟨f.keep _ _ k.sl_ k.nsl, fun z => (f.new _ z).elim k.nsl fun z => (by rw [k.sl_] at z; cases z), k.hb.aft f, k.hv.aft f⟩
abbrev s_law : Stmt := top 57
abbrev N_law : List Str := ["_law_script", "_law_cell", "_law_well_here", "_law_scene_here", "_law_turn", "_law_stuck", "_law_before", "_law_later", "_law_owner", "_law_world_here", "_law_table", "_law_twin", "_law_kept"]
abbrev P_law : List Str := ["_law_script"]
theorem sc_law : FnScope N_law P_law (defScope s_law) := ⟨rfl, rfl, rfl, by decide +kernel, rfl, by decide +kernel, by decide +kernel⟩
theorem ok_law {b : Bs} {CT CS : Addr} (R : Raw b "law" "law" s_law P_law) (T : Tops b) (D_law_well : Df b 1 "_law_well" P_law_well spWell) (D_law_scene : Df b 4 "_law_scene" P_law_scene (spScene b.K CT CS)) (D_law_world : Df b 1 "_law_world" P_law_world (Al CT CS (spWorld b)))
    (D_LockTable_init : Mkd b 5 CT "LockTable" P_LockTable_init (Al CT CS (spTabInit b))) (D_stuck_owners : Mt b 7 CT "stuck_owners" P_LockTable_stuck_owners (Al CT CS (spStuck b))) (D_law_step : Df b 8 "_law_step" P_law_step (Al CT CS (spStep b)))
    (D_holds_of : Mt b 4 CT "holds_of" P_LockTable_holds_of (Al CT CS (spHoldsOf b))) (D_ask_of : Mt b 4 CT "ask_of" P_LockTable_ask_of (Al CT CS (spAskOf b))) (D_copied : Mt b 7 CT "copied" P_LockTable_copied (Al CT CS (spCopied b))) (D_law_seen : Df b 8 "_law_seen" P_law_seen (Al CT CS (spSeen b)))
    (D_law_further : Df b 8 "_law_further" P_law_further (Al CT CS (spFurther b))) (D_law_held_fast : Df b 8 "_law_held_fast" P_law_held_fast (Al CT CS (spFast b))) (D_finish : Mt b 7 CT "finish" P_LockTable_finish (Al CT CS (spFinish b))) : Df b 9 "law" P_law (spLaw b.K) := by
  refine R.ok sc_law (fun vs H Q E h => ?_) fun f cdv A outer s H vs Q E hr h => ?_
  · obtain ⟨_, _, rfl, _⟩ := h
    rfl
  · obtain ⟨sc, ns, rfl, hsc, nl, k⟩ := h
    refine ⟨_, (pss_cons (ps_for PassesOwn.never rfl (pi_list (pe_op op_cat (pe_slice sl_list (pv 0) po_none (po_some pe_int)) (pe_lst (pa_cons pe_int pa_nil)))) (pg_name (i := 1) sc_law.nd rfl (Or.inl rfl))
      (pss_cons (ps_set (i := 2) sc_law.nd rfl (Or.inl rfl) (pe_df D_law_well (hr.mono (by decide)) (pa_cons (pv 1) pa_nil)))
      (pss_cons (ps_set (i := 3) sc_law.nd rfl (Or.inl rfl) (pe_df D_law_scene (hr.mono (by decide)) (pa_cons (pv 2) pa_nil)))
      (pss_cons (ps_asg (pe_tup (pa_cons (pe_df0 D_law_world (hr.mono (by decide))) (pa_cons (pe_mk_ D_LockTable_init (hr.mono (by decide)) (pa_cons (pe_ix ix_tup (pv 3) pe_int (fun _ _ => rfl)) pa_nil)) pa_nil))) (pg_tup rfl (pgs_cons (pg_name (i := 9) sc_law.nd rfl (Or.inl rfl)) (pgs_cons (pg_name (i := 10) sc_law.nd rfl (Or.inr rfl)) pgs_nil))))
      (pss_cons (ps_for PassesOwn.never rfl (pi_range1 rfl T.b_range (pa_cons pe_int pa_nil)) (pg_name (i := 4) sc_law.nd rfl (Or.inl rfl))
      (pss_one (ps_if (PW.pt (pw_and (pt_cmpR (op_eqD hr.units) (pe_mtd0 D_stuck_owners (pv 10) (hr.mono (by decide))) (pe_lst pa_nil) (nomark _)) (pw_and1 (pt_not (pt_val (pe_df D_law_step (hr.mono (by decide)) (pa_cons (pv 2) (pa_cons (pv 3) (pa_cons (pv 9) (pa_cons (pv 10) pa_nil)))))))))) (pss_one (ps_ret pe_bl)) pss_nil)))
      (pss_cons (ps_set (i := 5) sc_law.nd rfl (Or.inl rfl) (pe_mtd0 D_stuck_owners (pv 10) (hr.mono (by decide))))
      (pss_cons (ps_setLcB (i := 6) (own := [("_law_owner", 8)]) rfl sc_law.nd rfl rfl (sw_true rfl rfl rfl (by decide +kernel)) (pi_list (pv 5)) (blkOk_by (own := [("_law_owner", 8)]) (N := N_law) (sc := defScope s_law) (by decide +kernel)) (fun _ _ _ _ _ => (pg_name (i := 8) sc_law.nd rfl (Or.inl rfl))) (fun _ _ _ _ _ => pts_nil) (fun _ _ _ _ _ => (pe_tup (pa_cons (pe_mtd D_holds_of (pv 10) (hr.mono (by decide)) (pa_cons (pv 8) pa_nil)) (pa_cons (pe_mtd D_ask_of (pv 10) (hr.mono (by decide)) (pa_cons (pv 8) pa_nil)) pa_nil)))))
      (pss_cons (ps_par (i := 11) (j := 12) rfl sc_law.nd rfl rfl (by decide) rfl rfl (pa_cons (pe_mtd0 D_copied (pv 10) (hr.mono (by decide))) (pa_cons (pe_df D_law_seen (hr.mono (by decide)) (pa_cons (pv 3) (pa_cons (pv 10) pa_nil))) pa_nil)) (by rfl))
      (pss_cons (ps_if (pt_cmpR (op_neD hr.units) (pe_df D_law_seen (hr.mono (by decide)) (pa_cons (pv 3) (pa_cons (pv 11) pa_nil))) (pv 12) (nomark _)) (pss_one (ps_ret pe_bl)) pss_nil)
      (pss_cons (ps_for PassesOwn.never rfl (pi_range1 rfl T.b_range (pa_cons pe_int pa_nil)) (pg_name (i := 4) sc_law.nd rfl (Or.inl rfl))
      (pss_one (ps_if (PW.pt (pw_or (pt_not (pt_val (pe_df D_law_further (hr.mono (by decide)) (pa_cons (pv 2) (pa_cons (pv 3) (pa_cons (pv 11) (pa_cons (pv 5) pa_nil))))))) (pw_or1 (pt_not (pt_val (pe_df D_law_held_fast (hr.mono (by decide)) (pa_cons (pv 11) (pa_cons (pv 5) (pa_cons (pv 6) pa_nil))))))))) (pss_one (ps_ret pe_bl)) pss_nil)))
      (pss_cons (ps_set (i := 7) sc_law.nd rfl (Or.inl rfl) (pe_df D_law_seen (hr.mono (by decide)) (pa_cons (pv 3) (pa_cons (pv 11) pa_nil))))
      (pss_cons (ps_if (pt_cmpR (op_neD hr.units) (pe_df D_law_seen (hr.mono (by decide)) (pa_cons (pv 3) (pa_cons (pv 10) pa_nil))) (pv 12) (nomark _)) (pss_one (ps_ret pe_bl)) pss_nil)
      (pss_cons (ps_for PassesOwn.never rfl (pi_list (pe_ix ix_tup (pv 3) pe_int (fun _ _ => rfl))) (pg_name (i := 8) sc_law.nd rfl (Or.inl rfl))
      (pss_one (ps_expr (pe_mtd D_finish (pv 10) (hr.mono (by decide)) (pa_cons (pv 8) pa_nil)))))
      (pss_one (ps_if (PW.pt (pw_or (pt_cmpR (op_neD hr.units) (pe_mtd0 D_stuck_owners (pv 10) (hr.mono (by decide))) (pe_lst pa_nil) (nomark _)) (pw_or1 (pt_cmpR (op_neD hr.units) (pe_df D_law_seen (hr.mono (by decide)) (pa_cons (pv 3) (pa_cons (pv 11) pa_nil))) (pv 7) (nomark _))))) (pss_one (ps_ret pe_bl)) pss_nil)))))))))))))))
      (pss_one (ps_ret pe_bl))), ?_⟩
    refine ⟨_, rfl, _, rfl, sc, _, rfl, hsc, fun p hp => ?_⟩
    obtain ⟨z0, ez, lz⟩ : ∃ z0 : List Int, cutV (ns.map V.int) none (some 4) = z0.map V.int ∧ z0.length ≤ 63 := by
      refine ⟨(ns.drop (HT.sIx (ns.map V.int).length 0 none)).take (HT.sIx (ns.map V.int).length (ns.map V.int).length (some 4) - HT.sIx (ns.map V.int).length 0 none), by unfold cutV; rw [← List.map_drop, ← List.map_take], ?_⟩
      rw [List.length_take, List.length_drop]
      omega
    rw [ez]
    refine ⟨sz100 (by simp), fun q hq => ⟨p, q, _, _, rfl, rfl, (same_new' hq) _ _ upd_same, upd_same, by rw [sizeLine_eq, List.length_map]; simp only [List.length_cons, List.length_nil]; omega, fun r hr0 => ?_⟩⟩
    have e1 : z0.map V.int ++ [.int 0] = (z0 ++ [0]).map V.int := by rw [List.map_append]; rfl
    rw [e1]
    refine ⟨_, rfl, ⟨_, .inl (.inl upd_same)⟩, ?_⟩
    have hr1 : (upd (upd (upd H p (.lst (z0.map V.int))) q (.lst [.int 0])) r (.lst ((z0 ++ [0]).map V.int))) r = some (.lst ((z0 ++ [0]).map V.int)) := upd_same
    generalize upd (upd (upd H p (.lst (z0.map V.int))) q (.lst [.int 0])) r (.lst ((z0 ++ [0]).map V.int)) = H1 at hr1 ⊢
    generalize z0 ++ [0] = zs at hr1 ⊢
    refine for_it (walk_list (xs := zs.map V.int)) (fun j σ Hj => H1 r = H1 r ∧ Hj r = some (.lst (zs.map V.int)) ∧ ∃ x1 x2 x3 x4 x5 x6 x7 x8 x9 x10 x11 x12, σ = [some (.ref sc), x1, x2, x3, x4, x5, x6, x7, x8, x9, x10, x11, x12]) ?_ (fun j σ Hj hj p => ?_) (fun j y σ Hj0 Hj hj p hy => ?_) fun σ Hj p => ?_
    · exact ⟨rfl, hr1, none, none, none, none, none, none, none, none, none, none, none, none, rfl⟩
    · exact .inl (.inl p.2.1)
    rotate_left
    · exact k _
    obtain ⟨_, hrj, x1, x2, x3, x4, x5, x6, x7, x8, x9, x10, x11, x12, rfl⟩ := p
    obtain ⟨rfl, hy⟩ := hy
    rw [List.getElem?_map] at hy
    cases hx : zs[j]? with
    | none => rw [hx] at hy; cases hy
    | some n =>
    rw [hx] at hy
    cases hy
    refine ⟨_, rfl, n, rfl, fun wl a0 b0 nw p0 => ?_⟩
    have sW := same_new' (o := .lst (well a0 b0 0)) nw
    dsimp only [gName]
    refine ⟨_, rfl, wl, a0, b0, 0, rfl, upd_same, p0, fun H3 c t os is ow it a1 b1 k1 hCT hCS S3 kp hw3 p1 nos nis => ?_⟩
    subst hCT hCS
    have wo : wl ≠ os := fun e => by rw [← e, upd_same] at nos; cases nos
    have wi : wl ≠ is := fun e => by rw [← e, upd_same] at nis; cases nis
    have P3 : Pl b.K c Hj H3 t os is wl ow it := ⟨S3, fun y o e => kp y o (sW _ _ e) (ne_of_none e nw), ⟨a1, b1, k1, hw3, p1⟩, nw, none_same sW nos, none_same sW nis, wo, wi⟩
    dsimp only [gName]
    refine ⟨c, ⟨rfl, rfl⟩, rfl, fun H4 wad s4 B4 nB => ?_⟩
    refine ⟨_, rfl, t, _, 0, _, rfl, rfl, .inl (.inl (s4 _ _ S3.at_)), rfl, fun x dx nx ndx ndd => ⟨c, ⟨rfl, rfl⟩, x, dx, rfl, upd_same, ?_, fun H5 pp qq rr k5 np nq nr pq pr qr hp5 hq5 hr5 hx5 => ⟨rfl, ?_⟩⟩⟩
    · exact (S3.ok.mono (Same.tups s4)).mono fun y xs e => by rw [upd_ne (ne_of_none e nx), upd_ne (ne_of_none e ndx)]; exact e
    obtain ⟨A5, s5, nA⟩ := tab_new nx ndx ndd k5 np nq nr pq pr qr hp5 hq5 hr5 hx5
    refine ⟨two_le, fun tp htp => ⟨tp, _, rfl, .inl (.inl upd_same), rfl, _, _, rfl, _, _, rfl, rfl, ?_⟩⟩
    have s6 := same_new' (o := .tup [.ref (wad .wd), .ref x]) htp
    have P4 := P3.same s4
    have X6 : Both b c Hj t os is wl ow it (upd H5 tp (.tup [.ref (wad .wd), .ref x])) (adN x dx pp qq rr) Dt.empty wad Wt.empty := by
      have s56 := Same.trans s5 s6
      refine ⟨P4.same s56, A5.same s6, B4.same s56, rg_new P4 nA (own_live (A5.same s6)), rg_new P3 nB (wown_live (B4.same s56)), fun a h1 h2 => ?_⟩
      obtain ⟨o, e⟩ := wown_live B4 a h2
      rw [nA a h1] at e; cases e
    have L6 : Lg c ow Dt.empty Wt.empty := ⟨(LT.WF.empty : LT.WF c.U c.J c.B LT.TS.empty), rfl, fun o p h => by cases h⟩
    dsimp only
    generalize upd H5 tp (.tup [.ref (wad .wd), .ref x]) = H6 at X6 ⊢
    have hx0 : x = (adN x dx pp qq rr).at_ .tab := rfl
    generalize adN x dx pp qq rr = ad0 at X6 hx0
    generalize hwd : wad .wd = wd at *
    refine seq_mid (fun σ' H' => ∃ y4 ad D, σ' = [some (.ref sc), some (.int n), some (.ref wl), some (.ref t), y4, x5, x6, x7, x8, some (.ref wd), some (.ref x), x11, x12] ∧ One b c Hj t os is wl ow it H' ad D ∧ ad.at_ .tab = x ∧ Wf c D ∧ ∀ o p, D.ts.asks o = some p → o ∈ ow) (fun N hN => ?_) (fun σ' H' h => ?_)
    · refine ⟨60, rfl, by decide, by decide, ?_⟩
      refine for_it walk_range (fun j σ Hx => ∃ y4 ad D wad W, σ = [some (.ref sc), some (.int n), some (.ref wl), some (.ref t), y4, x5, x6, x7, x8, some (.ref wd), some (.ref x), x11, x12] ∧ Both b c Hj t os is wl ow it Hx ad D wad W ∧ Lg c ow D W ∧ ad.at_ .tab = x ∧ wad .wd = wd) ?_ (fun j σ Hx hj p => True.intro) (fun j y σ Hx0 Hx hj p hy => ?_) fun σ Hx p => ?_
      · exact ⟨x4, ad0, Dt.empty, wad, Wt.empty, rfl, X6, L6, hx0.symm, hwd⟩
      rotate_left
      · obtain ⟨y4, ad, D, wad2, W, rfl, X, L, e1, e2⟩ := p
        exact hN _ _ ⟨y4, ad, D, rfl, ⟨X.pl, X.A, X.ra⟩, e1, L.wf, L.ask⟩
      obtain ⟨y4, ad, D, wad2, W, rfl, X, L, rfl, e2⟩ := p
      obtain ⟨rfl, rfl⟩ := hy
      refine ⟨_, rfl, _, _, _, rfl, X.A.at_ .tab True.intro, rfl, c, ⟨rfl, rfl⟩, ad, D, rfl, X.A, X.ok, L.wf, fun Ha ada r1 ga n1 o1 => ?_⟩
      have Xa := X.tab ga
      refine ⟨Nat.zero_le _, fun q1 hq1 => ⟨.list ((LT.stuckL c.M c.U D.ts).map PyData.int), .list [], .lst (.inl (.inl ((same_new' hq1) _ _ o1.at_))) (dp_ints _), .lst (.inl (.inl upd_same)) .nil, (Sh.lst (sh_ints _)).ok (by omega), sh_nil, _, rfl, ?_⟩⟩
      have Xb := Xa.same (same_new' (o := .lst []) hq1)
      generalize upd Ha q1 (.lst []) = Hb at Xb ⊢
      cases (PyData.eqv (.list ((LT.stuckL c.M c.U D.ts).map PyData.int)) (.list [])) with
      | false => exact iteF ⟨_, ada, D, wad2, W, rfl, Xb, L, ga.tab, e2⟩
      | true =>
        have ea : ada.at_ .tab = ad.at_ .tab := ga.tab
        refine iteT ⟨_, rfl, _, rfl, _, rfl, _, rfl, c, ⟨rfl, rfl⟩, Hj, t, os, is, wl, ow, it, ada, D, wad2, W, by rw [ea, e2]; rfl, Xb, L, fun Hc adc Dc wadc Wc Xc Lc h1 h2 => ⟨_, rfl, iteF ?_⟩⟩
        exact ⟨_, adc, Dc, wadc, Wc, rfl, Xc, Lc, h1.trans ea, h2.trans e2⟩
    obtain ⟨y4, ad, D, rfl, X, ex, F, hask⟩ := h
    have tX := X.A.at_ .tab True.intro
    rw [ex] at tX
    refine ⟨_, rfl, _, _, _, rfl, tX, rfl, c, ⟨rfl, rfl⟩, ad, D, by rw [ex]; rfl, X.A, X.ok, F, fun Ha ada sl ga nsl osl => ?_⟩
    have Xa := X.tab ga
    have ea : ada.at_ .tab = x := ga.tab.trans ex
    generalize hTT : LT.stuckL c.M c.U D.ts = TT at osl
    have fm : LT.Firm c.M TT D.ts D.ts := by rw [← hTT]; exact LT.Firm.start F
    have hTU : ∀ a ∈ TT, a ∈ c.U := fun a ha => by rw [← hTT] at ha; exact (List.mem_filter.mp ha).1
    have hTl : TT.length ≤ 20 := by rw [← hTT]; exact Nat.le_trans (List.length_filter_le ..) X.ok.ul
    have n20 : (20 : Int) ∉ TT := fun h => by
      rw [← hTT] at h
      obtain ⟨p, hp⟩ := ((LT.mem_stuckL F).mp h).asks
      exact X.pl.sc.n20 (hask 20 p hp)
    have nsj : Hj sl = none := X.pl.none_ nsl
    have slwl : sl ≠ wl := fun e => by
      obtain ⟨_, _, _, e2, _⟩ := X.pl.well
      rw [← e, nsl] at e2; cases e2
    dsimp only [gName]
    refine seq_mid (fun σ' H2 => ∃ bl ad2, σ' = [some (.ref sc), some (.int n), some (.ref wl), some (.ref t), y4, some (.ref sl), some (.ref bl), x7, x8, some (.ref wd), some (.ref x), x11, x12] ∧ One b c Hj t os is wl ow it H2 ad2 D ∧ ad2.at_ .tab = x ∧ H2 sl = some (.lst (TT.map V.int)) ∧ ¬ Ow ad2 D wl sl ∧ Has b.K H2 (Ow ad2 D wl) (.ref bl) (dBefore c D.ts TT)) (fun N hN => ?_) (fun σ' H2 h => ?_)
    · refine ⟨_, rfl, _, rfl, ⟨_, .inl (.inl osl.at_)⟩, fun L2 hL2 => ?_⟩
      have nL2 : ¬ Own ada D L2 := off_new Xa.A hL2
      have ww := walk_list (K := b.K) (a := sl) (xs := TT.map V.int)
      rw [List.length_map] at ww
      refine lc_acc ww (fun j Hx acc => ∃ adx, Go b.w c Ha ada D Hx adx D ∧ ¬ Own adx D L2 ∧ Hx L2 = some (.lst acc) ∧ HasAll b.K Hx (Ol (fun a => (Ha a).isSome = true ∨ a = L2) Hx adx D) acc ((TT.take j).map (dTwo c D.ts))) (by rw [sizeLine_eq]; omega) ?_ (fun j Hx acc p => ?_) (fun j x' Hx0 Hx acc Q' N' hj p hac hy k1 k2 => ?_) fun Hx acc p hac => ?_
      · exact ⟨ada, (Go.refl Xa.A).then_ (same_new' hL2), nL2, upd_same, .nil⟩
      · obtain ⟨adx, gx, _⟩ := p
        exact .inl (.inl (osl.go gx).at_)
      · obtain ⟨adx, gx, nx, hLx, hs⟩ := p
        obtain ⟨rfl, hy⟩ := hy
        rw [List.getElem?_map] at hy
        cases hx : TT[j]? with
        | none => rw [hx] at hy; cases hy
        | some o =>
        rw [hx] at hy
        cases hy
        have hoU := hTU o (List.mem_of_getElem? hx)
        have Xx := Xa.tab gx
        have exx : adx.at_ .tab = x := gx.tab.trans ea
        have tx := Xx.A.at_ .tab True.intro
        rw [exx] at tx
        refine ⟨rfl, _, rfl, _, _, _, rfl, tx, rfl, _, rfl, c, ⟨rfl, rfl⟩, adx, D, o, by rw [exx]; rfl, Xx.A, Xx.ok, F, hoU, fun Hb adb v1 gb h1 => ?_⟩
        have Xb := Xx.tab gb
        have eb : adb.at_ .tab = x := gb.tab.trans exx
        have tb := Xb.A.at_ .tab True.intro
        rw [eb] at tb
        refine ⟨_, rfl, _, _, _, rfl, tb, rfl, _, rfl, c, ⟨rfl, rfl⟩, adb, D, o, by rw [eb]; rfl, Xb.A, Xb.ok, F, hoU, fun v2 _ _ h2 => ?_⟩
        refine ⟨two_le, fun tp htp => ?_⟩
        have st := same_new' (o := .tup [v1, v2]) htp
        obtain ⟨la, na⟩ := gb.off hLx nx
        have fa := ol_go (P := fun a => (Ha a).isSome = true ∨ a = L2) Xx.A gb
        have fs := ol_same (P := fun a => (Ha a).isSome = true ∨ a = L2) Xb.A st
        have fu := ol_upd (P := fun a => (Ha a).isSome = true ∨ a = L2) (ad1 := adb) (D1 := D) (ys := acc ++ [.ref tp]) (.inr rfl) (st _ _ la)
        have hP : ∀ a, ((Ha a).isSome = true ∨ a = L2) → (Hx a).isSome = true := fun a z => z.elim (isSome_go Xa.A gx) fun e => by rw [e, hLx]; rfl
        have d1 : Has b.K (upd Hb tp (.tup [v1, v2])) (Ol (fun a => (Ha a).isSome = true ∨ a = L2) (upd Hb tp (.tup [v1, v2])) adb D) v1 (dHolds c D.ts o) := (ol_of h1 hP).aft fs
        have d2 : Has b.K (upd Hb tp (.tup [v1, v2])) (Ol (fun a => (Ha a).isSome = true ∨ a = L2) (upd Hb tp (.tup [v1, v2])) adb D) v2 (dAsk c D.ts o) := (h2 (Ol (fun a => (Ha a).isSome = true ∨ a = L2) Hb adb D) fun a xs e z => z.2 xs e).aft fs
        have d4 : Has b.K (upd Hb tp (.tup [v1, v2])) (Ol (fun a => (Ha a).isSome = true ∨ a = L2) (upd Hb tp (.tup [v1, v2])) adb D) (.ref tp) (dTwo c D.ts o) := .tup upd_same (fun z => z.2 _ upd_same) (.cons d1 (.cons d2 .nil))
        refine k1 _ _ (st _ _ la) ⟨adb, ((gx.trans gb).then_ st).mine hL2 ⟨st _ _ la, na⟩ lst_ne, na, upd_same, ?_⟩
        have e1 : (TT.take (j + 1)).map (dTwo c D.ts) = (TT.take j).map (dTwo c D.ts) ++ [dTwo c D.ts o] := by rw [St.take_one hx, List.map_append]; rfl
        rw [e1]
        exact ((hs.aft fa).aft fs |>.append (.cons d4 .nil)).aft fu
      obtain ⟨adx, gx, nx, hLx, hs⟩ := p
      rw [List.take_length] at hs
      have Xx := Xa.tab gx
      have L2wl : L2 ≠ wl := fun e => by
        obtain ⟨_, _, _, e2, _⟩ := Xa.pl.well
        rw [← e, hL2] at e2; cases e2
      have sx := osl.go gx
      refine hN _ _ ⟨L2, adx, rfl, Xx, gx.tab.trans ea, sx.at_, fun z => z.elim sx.no slwl, .lst hLx (fun z => z.elim nx L2wl) (hs.mono fun a o e z => ?_)⟩
      rcases z with z | z
      · exact ⟨.inl z, own_ntup Xx.A z⟩
      · obtain ⟨_, _, _, e2, _⟩ := Xa.pl.well
        obtain ⟨_, _, _, e3, _⟩ := Xx.pl.well
        exact ⟨.inr (.inl (by rw [z, e2]; rfl)), fun xs e4 => by rw [z, e3] at e4; cases e4⟩
    obtain ⟨bl, ad2, rfl, X2, e2, hsl2, nsl2, hbl⟩ := h
    have t2 := X2.A.at_ .tab True.intro
    rw [e2] at t2
    refine ⟨_, rfl, _, _, _, rfl, t2, rfl, c, ⟨rfl, rfl⟩, ad2, D, by rw [e2]; rfl, X2.A, X2.ok, F, fun H3 adw s3 A3 nw3 => ?_⟩
    have Y3 : Two b c Hj t os is wl ow it H3 ad2 D adw D := ⟨X2.pl.same s3, X2.A.same s3, A3, X2.ra.same s3, rg_new X2.pl nw3 (own_live A3), fun a h1 h2 => by
      obtain ⟨o, e⟩ := own_live X2.A a h1
      rw [nw3 a h2] at e; cases e⟩
    have nsl3 : ¬ Sw ad2 D adw D wl sl := fun z => by
      rcases z with z | z | z
      · exact nsl2 (.inl z)
      · rw [nw3 sl z] at hsl2; cases hsl2
      · exact slwl z
    have hbl3 : Has b.K H3 (Sw ad2 D adw D wl) (.ref bl) (dBefore c D.ts TT) := (hbl.mono fun a o e z => by
      rcases z with z | z | z
      · exact .inl z
      · rw [nw3 a z] at e; cases e
      · exact .inr z).aft (sw_same s3)
    have hsl3 := s3 _ _ hsl2
    refine ⟨_, rfl, _, rfl, c, ⟨rfl, rfl⟩, t, os, is, ow, it, ad2, D, by rw [e2]; rfl, Y3.A, Y3.pl.sc, F, Y3.ra.os, Y3.ra.is, fun H4 ad4 D4 v4 g4 e4 h4 => ⟨_, _, rfl, ?_⟩⟩
    have Y4 := Y3.tabL g4
    have f4 := sw_L (ae := adw) (E := D) (wl := wl) g4
    have K4 : Kp b.K H4 (Sw ad4 D4 adw D wl) sl TT (.ref bl) (dBefore c D.ts TT) v4 (dSeen c D.ts ow it) := by
      refine ⟨f4.keep _ _ hsl3 nsl3, fun z => (f4.new _ z).elim nsl3 fun z => ?_, hbl3.aft f4, seen_L Y3 g4 h4⟩
      rw [hsl3] at z; cases z
    have ex4 : ad4.at_ .tab = x := g4.tab.trans e2
    have sS := sh_dSeen Y4.ok F ow it
    dsimp only
    refine ⟨_, rfl, _, rfl, c, ⟨rfl, rfl⟩, t, os, is, ow, it, adw, D, rfl, Y4.B, Y4.pl.sc, F, Y4.rb.os, Y4.rb.is, fun H5 ad5 D5 v5 g5 e5 h5 => ?_⟩
    have Y5 := Y4.tabR g5
    have K5 := K4.aft (sw_R (ad := ad4) (D := D4) (wl := wl) g5)
    refine ⟨_, rfl, _, _, h5.now, K5.hv.now, sS.ok (by omega), sS.ok (by omega), _, rfl, ?_⟩
    rw [PySem.SeqAt.eqv_refl _ sS.1]
    refine iteF ?_
    have et5 : ad5.at_ .tab = adw.at_ .tab := g5.tab
    generalize adw.at_ .tab = tw at et5
    have F5 : Wf c D5 := by show LT.WF c.U c.J c.B _; rw [e5]; exact F
    have fm5 : LT.Firm c.M TT D.ts D5.ts := by rw [e5]; exact fm
    unfold tNext
    dsimp only
    refine seq_mid (fun σ' Hx => ∃ y4 ad6 D6, σ' = [some (.ref sc), some (.int n), some (.ref wl), some (.ref t), y4, some (.ref sl), some (.ref bl), x7, x8, some (.ref wd), some (.ref x), some (.ref tw), some v4] ∧ Two b c Hj t os is wl ow it Hx ad4 D4 ad6 D6 ∧ ad6.at_ .tab = tw ∧ Wf c D6 ∧ Has b.K Hx (Sw ad4 D4 ad6 D6 wl) v4 (dSeen c D.ts ow it)) (fun N hN => ?_) (fun σ' H6 h => ?_)
    · refine ⟨30, rfl, by decide, by decide, ?_⟩
      refine for_it walk_range (fun j σ Hx => ∃ y4 ad6 D6, σ = [some (.ref sc), some (.int n), some (.ref wl), some (.ref t), y4, some (.ref sl), some (.ref bl), x7, x8, some (.ref wd), some (.ref x), some (.ref tw), some v4] ∧ Two b c Hj t os is wl ow it Hx ad4 D4 ad6 D6 ∧ ad6.at_ .tab = tw ∧ Wf c D6 ∧ LT.Firm c.M TT D.ts D6.ts ∧ Kp b.K Hx (Sw ad4 D4 ad6 D6 wl) sl TT (.ref bl) (dBefore c D.ts TT) v4 (dSeen c D.ts ow it)) ?_ (fun j σ Hx hj p => True.intro) (fun j y σ Hx0 Hx hj p hy => ?_) fun σ Hx p => ?_
      · exact ⟨y4, ad5, D5, rfl, Y5, et5, F5, fm5, K5⟩
      rotate_left
      · obtain ⟨y4, ad6, D6, rfl, Y, et, F6, _, Kk⟩ := p
        exact hN _ _ ⟨y4, ad6, D6, rfl, Y, et, F6, Kk.hv⟩
      obtain ⟨y4, ad6, D6, rfl, Y, et, F6, fm6, Kk⟩ := p
      obtain ⟨rfl, rfl⟩ := hy
      refine ⟨_, rfl, _, rfl, _, rfl, _, rfl, c, ⟨rfl, rfl⟩, Hj, t, os, is, wl, ow, it, ad6, D6, sl, TT, D.ts, by rw [et]; rfl, Y.one, Kk.sl_, fun z => Kk.nsl (.inr z), F6, fm6, n20, hTl, fun H7 ad7 D7 o7 f7 F7 fm7 e7 => ⟨_, rfl, iteF ?_⟩⟩
      have Y7 := Y.far o7 f7
      have K7 := Kk.aft (sw_far (ad := ad4) (D := D4) f7)
      have et7 := e7.trans et
      refine ⟨_, rfl, _, rfl, _, rfl, c, ⟨rfl, rfl⟩, ad7, D7, sl, .ref bl, TT, D.ts, by rw [et7]; rfl, Y7.B, Y7.ok, F7, ⟨K7.sl_, fun z => K7.nsl (.inr (.inl z))⟩, K7.hb.mono fun a o e z => .inr (.inl z), fm7, hTU, hTl, fun H8 ad8 g8 => ⟨_, rfl, iteF ?_⟩⟩
      exact ⟨_, ad8, D7, rfl, Y7.tabR g8, g8.tab.trans et7, F7, fm7, K7.aft (sw_R (ad := ad4) (D := D4) (wl := wl) g8)⟩
    obtain ⟨y4', ad6, D6, rfl, Y6, et6, F6, hv6⟩ := h
    refine ⟨_, rfl, _, rfl, c, ⟨rfl, rfl⟩, t, os, is, ow, it, ad6, D6, by rw [et6]; rfl, Y6.B, Y6.pl.sc, F6, Y6.rb.os, Y6.rb.is, fun H7 ad7 D7 v7 g7 e7 h7 => ?_⟩
    have Y7 := Y6.tabR g7
    have f7 := sw_R (ad := ad4) (D := D4) (wl := wl) g7
    have hv7 := hv6.aft f7
    have hl7 := seen_R Y6 g7 h7
    have et7 := g7.tab.trans et6
    have F4 : Wf c D4 := by show LT.WF c.U c.J c.B _; rw [e4]; exact F
    have F7 : Wf c D7 := by show LT.WF c.U c.J c.B _; rw [e7]; exact F6
    dsimp only [gName]
    refine ⟨_, rfl, _, rfl, c, ⟨rfl, rfl⟩, t, os, is, ow, it, ad4, D4, by rw [ex4]; rfl, Y7.A, Y7.pl.sc, F4, Y7.ra.os, Y7.ra.is, fun H8 ad8 D8 v8 g8 e8 h8 => ?_⟩
    have Y8 := Y7.tabL g8
    have f8 := sw_L (ae := ad7) (E := D7) (wl := wl) g8
    have hv8 := hv7.aft f8
    have hl8 := hl7.aft f8
    have ex8 := g8.tab.trans ex4
    have h8 := h8.now
    rw [e4] at h8 e8
    refine ⟨_, rfl, _, _, h8, hv8.now, sS.ok (by omega), sS.ok (by omega), _, rfl, ?_⟩
    rw [PySem.SeqAt.eqv_refl _ sS.1]
    refine iteF ?_
    try unfold tNext
    dsimp only
    have F8 : Wf c D8 := by show LT.WF c.U c.J c.B _; rw [e8]; exact F
    have hask8 : ∀ o p, D8.ts.asks o = some p → o ∈ ow := fun o p h => by rw [e8] at h; exact hask o p h
    have sL := sh_dSeen Y8.ok F6 ow it
    refine seq_mid (fun σ' Hx => ∃ y8 ad9 D9, σ' = [some (.ref sc), some (.int n), some (.ref wl), some (.ref t), y4', some (.ref sl), some (.ref bl), some v7, y8, some (.ref wd), some (.ref x), some (.ref tw), some v4] ∧ Two b c Hj t os is wl ow it Hx ad9 D9 ad7 D7 ∧ ad9.at_ .tab = x ∧ Wf c D9 ∧ (∀ o p, D9.ts.asks o = some p → o ∈ ow.drop ow.length) ∧ Has b.K Hx (Sw ad9 D9 ad7 D7 wl) v7 (dSeen c D6.ts ow it)) (fun N hN => ?_) (fun σ' H9 h => ?_)
    · refine ⟨_, rfl, t, _, 1, _, rfl, rfl, .inl (.inl Y8.pl.sc.at_), rfl, _, rfl, ⟨_, .inl (.inl Y8.pl.sc.os_)⟩, ?_⟩
      have ww := walk_list (K := b.K) (a := os) (xs := ow.map V.int)
      rw [List.length_map] at ww
      refine for_it ww (fun j σ Hx => ∃ y8 ad9 D9, σ = [some (.ref sc), some (.int n), some (.ref wl), some (.ref t), y4', some (.ref sl), some (.ref bl), some v7, y8, some (.ref wd), some (.ref x), some (.ref tw), some v4] ∧ Two b c Hj t os is wl ow it Hx ad9 D9 ad7 D7 ∧ ad9.at_ .tab = x ∧ Wf c D9 ∧ (∀ o p, D9.ts.asks o = some p → o ∈ ow.drop j) ∧ Has b.K Hx (Sw ad9 D9 ad7 D7 wl) v7 (dSeen c D6.ts ow it)) ?_ (fun j σ Hx hj p => ?_) (fun j y σ Hx0 Hx hj p hy => ?_) fun σ Hx p => ?_
      · exact ⟨x8, ad8, D8, rfl, Y8, ex8, F8, hask8, hl8⟩
      · obtain ⟨_, _, _, _, Y, _⟩ := p
        exact .inl (.inl Y.pl.sc.os_)
      rotate_left
      · exact hN _ _ p
      obtain ⟨y8, ad9, D9, rfl, Y9, ex9, F9, ha9, hl9⟩ := p
      obtain ⟨rfl, hy⟩ := hy
      rw [List.getElem?_map] at hy
      cases hx : ow[j]? with
      | none => rw [hx] at hy; cases hy
      | some o =>
      rw [hx] at hy
      cases hy
      have hoU := Y9.pl.sc.oU o (List.mem_of_getElem? hx)
      have hd : ow.drop j = o :: ow.drop (j + 1) := by rw [List.drop_eq_getElem?_toList_append, hx]; rfl
      have t9 := Y9.A.at_ .tab True.intro
      rw [ex9] at t9
      refine ⟨_, rfl, _, _, _, rfl, t9, rfl, _, rfl, c, ⟨rfl, rfl⟩, ad9, D9, o, by rw [ex9]; rfl, Y9.A, Y9.ok, F9, hoU, fun Ha ada Da ra ysa ga ea nra ofa pra => ?_⟩
      have Fa : Wf c Da := by show LT.WF c.U c.J c.B _; rw [ea]; exact LT.finish_wf F9
      refine ⟨_, ada, Da, rfl, Y9.tabL ga, ga.tab.trans ex9, Fa, fun q p h => ?_, hl9.aft (sw_L (ae := ad7) (E := D7) (wl := wl) ga)⟩
      rw [ea] at h
      have h1 := ha9 q p ((LT.finish_steps F9).1.asks_sub h)
      rw [hd] at h1
      refine (List.mem_cons.mp h1).resolve_left fun e => ?_
      rw [e, LT.finish_gone F9] at h
      cases h
    obtain ⟨y8, ad9, D9, rfl, Y9, ex9, F9, ha9, hl9⟩ := h
    have none9 : LT.stuckL c.M c.U D9.ts = [] := LT.stuckL_none F9 fun q => by
      cases e : D9.ts.asks q with
      | none => rfl
      | some p =>
        have := ha9 q p e
        rw [List.drop_length] at this
        cases this
    have t9 := Y9.A.at_ .tab True.intro
    rw [ex9] at t9
    refine ⟨_, rfl, _, _, _, rfl, t9, rfl, c, ⟨rfl, rfl⟩, ad9, D9, by rw [ex9]; rfl, Y9.A, Y9.ok, F9, fun Ha ada ra ga nra ora => ?_⟩
    rw [none9] at ora
    have Ya := Y9.tabL ga
    have hla := hl9.aft (sw_L (ae := ad7) (E := D7) (wl := wl) ga)
    refine ⟨Nat.zero_le _, fun q1 hq1 => ⟨.list [], .list [], .lst (.inl (.inl ((same_new' hq1) _ _ ora.at_))) .nil, .lst (.inl (.inl upd_same)) .nil, sh_nil, sh_nil, _, rfl, ?_⟩⟩
    have sq := same_new' (o := .lst []) hq1
    have Yb := Ya.same sq
    have hlb := hla.aft (sw_same (ad := ada) (D := D9) (ae := ad7) (E := D7) (wl := wl) sq)
    rw [eqv_nil]
    refine iteF ?_
    refine ⟨_, rfl, _, rfl, c, ⟨rfl, rfl⟩, t, os, is, ow, it, ad7, D7, by rw [et7]; rfl, Yb.B, Yb.pl.sc, F7, Yb.rb.os, Yb.rb.is, fun Hc adc Dc vc gc ec hc => ?_⟩
    have Yc := Yb.tabR gc
    have hlc := hlb.aft (sw_R (ad := ada) (D := D9) (wl := wl) gc)
    have hc := hc.now
    rw [e7] at hc
    refine ⟨_, rfl, _, _, hc, hlc.now, sL.ok (by omega), sL.ok (by omega), _, rfl, ?_⟩
    rw [PySem.SeqAt.eqv_refl _ sL.1]
    refine iteF ?_
    exact ⟨rfl, Yc.pl.kp _ _ hrj, _, _, _, _, _, _, _, _, _, _, _, _, rfl⟩
end Lk
end
section
set_option maxRecDepth 100000
set_option maxHeartbeats 1000000
/-! All promises joined; what the closing theorem hands over. -/
namespace Lk
open PySem L2

theorem bd_fault_of_modes : ∀ (kV doc pm : Value) (an : Option Addr) (cdv ct : Value) (us : List Value), us.length = P_fault_of_modes.length → bindArgs (PySem.W.fnOf "fault_of_modes" "fault_of_modes" (defArgs s_fault_of_modes) (defBody s_fault_of_modes) (defScope s_fault_of_modes) .none kV doc pm an cdv ct) ⟨us, []⟩ = pure (P_fault_of_modes.zip us) := fun _ _ _ _ _ _ us hl => match us, hl with | [_], _ => rfl
theorem bd_require_modes : ∀ (kV doc pm : Value) (an : Option Addr) (cdv ct : Value) (us : List Value), us.length = P_require_modes.length → bindArgs (PySem.W.fnOf "require_modes" "require_modes" (defArgs s_require_modes) (defBody s_require_modes) (defScope s_require_modes) .none kV doc pm an cdv ct) ⟨us, []⟩ = pure (P_require_modes.zip us) := fun _ _ _ _ _ _ us hl => match us, hl with | [_], _ => rfl
theorem bd_law_ended : ∀ (kV doc pm : Value) (an : Option Addr) (cdv ct : Value) (us : List Value), us.length = P_law_ended.length → bindArgs (PySem.W.fnOf "_law_ended" "_law_ended" (defArgs s_law_ended) (defBody s_law_ended) (defScope s_law_ended) .none kV doc pm an cdv ct) ⟨us, []⟩ = pure (P_law_ended.zip us) := fun _ _ _ _ _ _ us hl => match us, hl with | [_, _, _], _ => rfl
theorem bd_is_exact : ∀ (kV doc pm : Value) (an : Option Addr) (cdv ct : Value) (us : List Value), us.length = P_is_exact.length → bindArgs (PySem.W.fnOf "is_exact" "is_exact" (defArgs s_is_exact) (defBody s_is_exact) (defScope s_is_exact) .none kV doc pm an cdv ct) ⟨us, []⟩ = pure (P_is_exact.zip us) := fun _ _ _ _ _ _ us hl => match us, hl with | [_], _ => rfl
theorem bd_join : ∀ (kV doc pm : Value) (an : Option Addr) (cdv ct : Value) (us : List Value), us.length = P_join.length → bindArgs (PySem.W.fnOf "join" "join" (defArgs s_join) (defBody s_join) (defScope s_join) .none kV doc pm an cdv ct) ⟨us, []⟩ = pure (P_join.zip us) := fun _ _ _ _ _ _ us hl => match us, hl with | [_, _, _], _ => rfl
theorem bd_allows : ∀ (kV doc pm : Value) (an : Option Addr) (cdv ct : Value) (us : List Value), us.length = P_allows.length → bindArgs (PySem.W.fnOf "allows" "allows" (defArgs s_allows) (defBody s_allows) (defScope s_allows) .none kV doc pm an cdv ct) ⟨us, []⟩ = pure (P_allows.zip us) := fun _ _ _ _ _ _ us hl => match us, hl with | [_, _, _], _ => rfl
theorem bd_require_mode : ∀ (kV doc pm : Value) (an : Option Addr) (cdv ct : Value) (us : List Value), us.length = P_require_mode.length → bindArgs (PySem.W.fnOf "require_mode" "require_mode" (defArgs s_require_mode) (defBody s_require_mode) (defScope s_require_mode) .none kV doc pm an cdv ct) ⟨us, []⟩ = pure (P_require_mode.zip us) := fun _ _ _ _ _ _ us hl => match us, hl with | [_, _], _ => rfl
theorem bd_all_joins : ∀ (kV doc pm : Value) (an : Option Addr) (cdv ct : Value) (us : List Value), us.length = P_all_joins.length → bindArgs (PySem.W.fnOf "all_joins" "all_joins" (defArgs s_all_joins) (defBody s_all_joins) (defScope s_all_joins) .none kV doc pm an cdv ct) ⟨us, []⟩ = pure (P_all_joins.zip us) := fun _ _ _ _ _ _ us hl => match us, hl with | [_], _ => rfl
theorem bd_law_scene : ∀ (kV doc pm : Value) (an : Option Addr) (cdv ct : Value) (us : List Value), us.length = P_law_scene.length → bindArgs (PySem.W.fnOf "_law_scene" "_law_scene" (defArgs s_law_scene) (defBody s_law_scene) (defScope s_law_scene) .none kV doc pm an cdv ct) ⟨us, []⟩ = pure (P_law_scene.zip us) := fun _ _ _ _ _ _ us hl => match us, hl with | [_], _ => rfl
theorem bd_is_integer : ∀ (kV doc pm : Value) (an : Option Addr) (cdv ct : Value) (us : List Value), us.length = P_is_integer.length → bindArgs (PySem.W.fnOf "is_integer" "is_integer" (defArgs s_is_integer) (defBody s_is_integer) (defScope s_is_integer) .none kV doc pm an cdv ct) ⟨us, []⟩ = pure (P_is_integer.zip us) := fun _ _ _ _ _ _ us hl => match us, hl with | [_], _ => rfl
theorem bd_is_name : ∀ (kV doc pm : Value) (an : Option Addr) (cdv ct : Value) (us : List Value), us.length = P_is_name.length → bindArgs (PySem.W.fnOf "is_name" "is_name" (defArgs s_is_name) (defBody s_is_name) (defScope s_is_name) .none kV doc pm an cdv ct) ⟨us, []⟩ = pure (P_is_name.zip us) := fun _ _ _ _ _ _ us hl => match us, hl with | [_], _ => rfl
theorem bd_is_owner : ∀ (kV doc pm : Value) (an : Option Addr) (cdv ct : Value) (us : List Value), us.length = P_is_owner.length → bindArgs (PySem.W.fnOf "is_owner" "is_owner" (defArgs s_is_owner) (defBody s_is_owner) (defScope s_is_owner) .none kV doc pm an cdv ct) ⟨us, []⟩ = pure (P_is_owner.zip us) := fun _ _ _ _ _ _ us hl => match us, hl with | [_], _ => rfl
theorem bd_require_owner : ∀ (kV doc pm : Value) (an : Option Addr) (cdv ct : Value) (us : List Value), us.length = P_require_owner.length → bindArgs (PySem.W.fnOf "require_owner" "require_owner" (defArgs s_require_owner) (defBody s_require_owner) (defScope s_require_owner) .none kV doc pm an cdv ct) ⟨us, []⟩ = pure (P_require_owner.zip us) := fun _ _ _ _ _ _ us hl => match us, hl with | [_], _ => rfl
theorem bd_is_item : ∀ (kV doc pm : Value) (an : Option Addr) (cdv ct : Value) (us : List Value), us.length = P_is_item.length → bindArgs (PySem.W.fnOf "is_item" "is_item" (defArgs s_is_item) (defBody s_is_item) (defScope s_is_item) .none kV doc pm an cdv ct) ⟨us, []⟩ = pure (P_is_item.zip us) := fun _ _ _ _ _ _ us hl => match us, hl with | [_], _ => rfl
theorem bd_require_item : ∀ (kV doc pm : Value) (an : Option Addr) (cdv ct : Value) (us : List Value), us.length = P_require_item.length → bindArgs (PySem.W.fnOf "require_item" "require_item" (defArgs s_require_item) (defBody s_require_item) (defScope s_require_item) .none kV doc pm an cdv ct) ⟨us, []⟩ = pure (P_require_item.zip us) := fun _ _ _ _ _ _ us hl => match us, hl with | [_], _ => rfl
theorem bd_are_joins : ∀ (kV doc pm : Value) (an : Option Addr) (cdv ct : Value) (us : List Value), us.length = P_are_joins.length → bindArgs (PySem.W.fnOf "are_joins" "are_joins" (defArgs s_are_joins) (defBody s_are_joins) (defScope s_are_joins) .none kV doc pm an cdv ct) ⟨us, []⟩ = pure (P_are_joins.zip us) := fun _ _ _ _ _ _ us hl => match us, hl with | [_, _], _ => rfl
theorem bd_law_well : ∀ (kV doc pm : Value) (an : Option Addr) (cdv ct : Value) (us : List Value), us.length = P_law_well.length → bindArgs (PySem.W.fnOf "_law_well" "_law_well" (defArgs s_law_well) (defBody s_law_well) (defScope s_law_well) .none kV doc pm an cdv ct) ⟨us, []⟩ = pure (P_law_well.zip us) := fun _ _ _ _ _ _ us hl => match us, hl with | [_], _ => rfl
theorem bd_law_draw : ∀ (kV doc pm : Value) (an : Option Addr) (cdv ct : Value) (us : List Value), us.length = P_law_draw.length → bindArgs (PySem.W.fnOf "_law_draw" "_law_draw" (defArgs s_law_draw) (defBody s_law_draw) (defScope s_law_draw) .none kV doc pm an cdv ct) ⟨us, []⟩ = pure (P_law_draw.zip us) := fun _ _ _ _ _ _ us hl => match us, hl with | [_, _], _ => rfl
theorem bd_law_one : ∀ (kV doc pm : Value) (an : Option Addr) (cdv ct : Value) (us : List Value), us.length = P_law_one.length → bindArgs (PySem.W.fnOf "_law_one" "_law_one" (defArgs s_law_one) (defBody s_law_one) (defScope s_law_one) .none kV doc pm an cdv ct) ⟨us, []⟩ = pure (P_law_one.zip us) := fun _ _ _ _ _ _ us hl => match us, hl with | [_, _], _ => rfl
theorem bd_law_menu : ∀ (kV doc pm : Value) (an : Option Addr) (cdv ct : Value) (us : List Value), us.length = P_law_menu.length → bindArgs (PySem.W.fnOf "_law_menu" "_law_menu" (defArgs s_law_menu) (defBody s_law_menu) (defScope s_law_menu) .none kV doc pm an cdv ct) ⟨us, []⟩ = pure (P_law_menu.zip us) := fun _ _ _ _ _ _ us hl => match us, hl with | [], _ => rfl
theorem bd_law_freed : ∀ (kV doc pm : Value) (an : Option Addr) (cdv ct : Value) (us : List Value), us.length = P_law_freed.length → bindArgs (PySem.W.fnOf "_law_freed" "_law_freed" (defArgs s_law_freed) (defBody s_law_freed) (defScope s_law_freed) .none kV doc pm an cdv ct) ⟨us, []⟩ = pure (P_law_freed.zip us) := fun _ _ _ _ _ _ us hl => match us, hl with | [_, _, _, _], _ => rfl
theorem bd_is_row_of : ∀ (kV doc pm : Value) (an : Option Addr) (cdv ct : Value) (us : List Value), us.length = P_is_row_of.length → bindArgs (PySem.W.fnOf "is_row_of" "is_row_of" (defArgs s_is_row_of) (defBody s_is_row_of) (defScope s_is_row_of) .none kV doc pm an cdv ct) ⟨us, []⟩ = pure (P_is_row_of.zip us) := fun _ _ _ _ _ _ us hl => match us, hl with | [_, _, _], _ => rfl
theorem bd_are_names : ∀ (kV doc pm : Value) (an : Option Addr) (cdv ct : Value) (us : List Value), us.length = P_are_names.length → bindArgs (PySem.W.fnOf "are_names" "are_names" (defArgs s_are_names) (defBody s_are_names) (defScope s_are_names) .none kV doc pm an cdv ct) ⟨us, []⟩ = pure (P_are_names.zip us) := fun _ _ _ _ _ _ us hl => match us, hl with | [_, _], _ => rfl
theorem bd_are_allowed : ∀ (kV doc pm : Value) (an : Option Addr) (cdv ct : Value) (us : List Value), us.length = P_are_allowed.length → bindArgs (PySem.W.fnOf "are_allowed" "are_allowed" (defArgs s_are_allowed) (defBody s_are_allowed) (defScope s_are_allowed) .none kV doc pm an cdv ct) ⟨us, []⟩ = pure (P_are_allowed.zip us) := fun _ _ _ _ _ _ us hl => match us, hl with | [_, _], _ => rfl
theorem bd_standard_join : ∀ (kV doc pm : Value) (an : Option Addr) (cdv ct : Value) (us : List Value), us.length = P_standard_join.length → bindArgs (PySem.W.fnOf "standard_join" "standard_join" (defArgs s_standard_join) (defBody s_standard_join) (defScope s_standard_join) .none kV doc pm an cdv ct) ⟨us, []⟩ = pure (P_standard_join.zip us) := fun _ _ _ _ _ _ us hl => match us, hl with | [_, _], _ => rfl
theorem bd_standard : ∀ (kV doc pm : Value) (an : Option Addr) (cdv ct : Value) (us : List Value), us.length = P_standard.length → bindArgs (PySem.W.fnOf "standard" "standard" (defArgs s_standard) (defBody s_standard) (defScope s_standard) .none kV doc pm an cdv ct) ⟨us, []⟩ = pure (P_standard.zip us) := fun _ _ _ _ _ _ us hl => match us, hl with | [], _ => rfl
theorem bd_law_further : ∀ (kV doc pm : Value) (an : Option Addr) (cdv ct : Value) (us : List Value), us.length = P_law_further.length → bindArgs (PySem.W.fnOf "_law_further" "_law_further" (defArgs s_law_further) (defBody s_law_further) (defScope s_law_further) .none kV doc pm an cdv ct) ⟨us, []⟩ = pure (P_law_further.zip us) := fun _ _ _ _ _ _ us hl => match us, hl with | [_, _, _, _], _ => rfl
theorem bd_law : ∀ (kV doc pm : Value) (an : Option Addr) (cdv ct : Value) (us : List Value), us.length = P_law.length → bindArgs (PySem.W.fnOf "law" "law" (defArgs s_law) (defBody s_law) (defScope s_law) .none kV doc pm an cdv ct) ⟨us, []⟩ = pure (P_law.zip us) := fun _ _ _ _ _ _ us hl => match us, hl with | [_], _ => rfl
theorem bd_law_asked : ∀ (kV doc pm : Value) (an : Option Addr) (cdv ct : Value) (us : List Value), us.length = P_law_asked.length → bindArgs (PySem.W.fnOf "_law_asked" "_law_asked" (defArgs s_law_asked) (defBody s_law_asked) (defScope s_law_asked) .none kV doc pm an cdv ct) ⟨us, []⟩ = pure (P_law_asked.zip us) := fun _ _ _ _ _ _ us hl => match us, hl with | [_, _, _, _, _], _ => rfl
theorem bd_waiters_by : ∀ (kV doc pm : Value) (an : Option Addr) (cdv ct : Value) (us : List Value), us.length = P_waiters_by.length → bindArgs (PySem.W.fnOf "waiters_by" "waiters_by" (defArgs s_waiters_by) (defBody s_waiters_by) (defScope s_waiters_by) .none kV doc pm an cdv ct) ⟨us, []⟩ = pure (P_waiters_by.zip us) := fun _ _ _ _ _ _ us hl => match us, hl with | [_], _ => rfl
theorem bd_law_step : ∀ (kV doc pm : Value) (an : Option Addr) (cdv ct : Value) (us : List Value), us.length = P_law_step.length → bindArgs (PySem.W.fnOf "_law_step" "_law_step" (defArgs s_law_step) (defBody s_law_step) (defScope s_law_step) .none kV doc pm an cdv ct) ⟨us, []⟩ = pure (P_law_step.zip us) := fun _ _ _ _ _ _ us hl => match us, hl with | [_, _, _, _], _ => rfl
theorem bd_law_join : ∀ (kV doc pm : Value) (an : Option Addr) (cdv ct : Value) (us : List Value), us.length = P_law_join.length → bindArgs (PySem.W.fnOf "_law_join" "_law_join" (defArgs s_law_join) (defBody s_law_join) (defScope s_law_join) .none kV doc pm an cdv ct) ⟨us, []⟩ = pure (P_law_join.zip us) := fun _ _ _ _ _ _ us hl => match us, hl with | [_, _, _], _ => rfl
theorem bd_law_world : ∀ (kV doc pm : Value) (an : Option Addr) (cdv ct : Value) (us : List Value), us.length = P_law_world.length → bindArgs (PySem.W.fnOf "_law_world" "_law_world" (defArgs s_law_world) (defBody s_law_world) (defScope s_law_world) .none kV doc pm an cdv ct) ⟨us, []⟩ = pure (P_law_world.zip us) := fun _ _ _ _ _ _ us hl => match us, hl with | [], _ => rfl
theorem bd_law_lets : ∀ (kV doc pm : Value) (an : Option Addr) (cdv ct : Value) (us : List Value), us.length = P_law_lets.length → bindArgs (PySem.W.fnOf "_law_lets" "_law_lets" (defArgs s_law_lets) (defBody s_law_lets) (defScope s_law_lets) .none kV doc pm an cdv ct) ⟨us, []⟩ = pure (P_law_lets.zip us) := fun _ _ _ _ _ _ us hl => match us, hl with | [_, _, _, _, _], _ => rfl
theorem bd_law_held_fast : ∀ (kV doc pm : Value) (an : Option Addr) (cdv ct : Value) (us : List Value), us.length = P_law_held_fast.length → bindArgs (PySem.W.fnOf "_law_held_fast" "_law_held_fast" (defArgs s_law_held_fast) (defBody s_law_held_fast) (defScope s_law_held_fast) .none kV doc pm an cdv ct) ⟨us, []⟩ = pure (P_law_held_fast.zip us) := fun _ _ _ _ _ _ us hl => match us, hl with | [_, _, _], _ => rfl
theorem bd_law_served : ∀ (kV doc pm : Value) (an : Option Addr) (cdv ct : Value) (us : List Value), us.length = P_law_served.length → bindArgs (PySem.W.fnOf "_law_served" "_law_served" (defArgs s_law_served) (defBody s_law_served) (defScope s_law_served) .none kV doc pm an cdv ct) ⟨us, []⟩ = pure (P_law_served.zip us) := fun _ _ _ _ _ _ us hl => match us, hl with | [_, _, _], _ => rfl
theorem bd_law_given : ∀ (kV doc pm : Value) (an : Option Addr) (cdv ct : Value) (us : List Value), us.length = P_law_given.length → bindArgs (PySem.W.fnOf "_law_given" "_law_given" (defArgs s_law_given) (defBody s_law_given) (defScope s_law_given) .none kV doc pm an cdv ct) ⟨us, []⟩ = pure (P_law_given.zip us) := fun _ _ _ _ _ _ us hl => match us, hl with | [_, _, _, _], _ => rfl
theorem bd_law_seen : ∀ (kV doc pm : Value) (an : Option Addr) (cdv ct : Value) (us : List Value), us.length = P_law_seen.length → bindArgs (PySem.W.fnOf "_law_seen" "_law_seen" (defArgs s_law_seen) (defBody s_law_seen) (defScope s_law_seen) .none kV doc pm an cdv ct) ⟨us, []⟩ = pure (P_law_seen.zip us) := fun _ _ _ _ _ _ us hl => match us, hl with | [_, _], _ => rfl
theorem bd_LockTable_others_allow : ∀ (kV doc pm : Value) (an : Option Addr) (cdv ct : Value) (us : List Value), us.length = P_LockTable_others_allow.length → bindArgs (PySem.W.fnOf "others_allow" "LockTable.others_allow" (defArgs s_LockTable_others_allow) (defBody s_LockTable_others_allow) (defScope s_LockTable_others_allow) .none kV doc pm an cdv ct) ⟨us, []⟩ = pure (P_LockTable_others_allow.zip us) := fun _ _ _ _ _ _ us hl => match us, hl with | [_, _, _, _], _ => rfl
theorem bd_LockTable_holders_at : ∀ (kV doc pm : Value) (an : Option Addr) (cdv ct : Value) (us : List Value), us.length = P_LockTable_holders_at.length → bindArgs (PySem.W.fnOf "holders_at" "LockTable.holders_at" (defArgs s_LockTable_holders_at) (defBody s_LockTable_holders_at) (defScope s_LockTable_holders_at) .none kV doc pm an cdv ct) ⟨us, []⟩ = pure (P_LockTable_holders_at.zip us) := fun _ _ _ _ _ _ us hl => match us, hl with | [_, _], _ => rfl
theorem bd_LockTable_waiters_at : ∀ (kV doc pm : Value) (an : Option Addr) (cdv ct : Value) (us : List Value), us.length = P_LockTable_waiters_at.length → bindArgs (PySem.W.fnOf "waiters_at" "LockTable.waiters_at" (defArgs s_LockTable_waiters_at) (defBody s_LockTable_waiters_at) (defScope s_LockTable_waiters_at) .none kV doc pm an cdv ct) ⟨us, []⟩ = pure (P_LockTable_waiters_at.zip us) := fun _ _ _ _ _ _ us hl => match us, hl with | [_, _], _ => rfl
theorem bd_LockTable_spot_of : ∀ (kV doc pm : Value) (an : Option Addr) (cdv ct : Value) (us : List Value), us.length = P_LockTable_spot_of.length → bindArgs (PySem.W.fnOf "spot_of" "LockTable.spot_of" (defArgs s_LockTable_spot_of) (defBody s_LockTable_spot_of) (defScope s_LockTable_spot_of) .none kV doc pm an cdv ct) ⟨us, []⟩ = pure (P_LockTable_spot_of.zip us) := fun _ _ _ _ _ _ us hl => match us, hl with | [_, _], _ => rfl
theorem bd_LockTable_waits_for : ∀ (kV doc pm : Value) (an : Option Addr) (cdv ct : Value) (us : List Value), us.length = P_LockTable_waits_for.length → bindArgs (PySem.W.fnOf "waits_for" "LockTable.waits_for" (defArgs s_LockTable_waits_for) (defBody s_LockTable_waits_for) (defScope s_LockTable_waits_for) .none kV doc pm an cdv ct) ⟨us, []⟩ = pure (P_LockTable_waits_for.zip us) := fun _ _ _ _ _ _ us hl => match us, hl with | [_, _], _ => rfl
theorem bd_Spot_spot_twin : ∀ (kV doc pm : Value) (an : Option Addr) (cdv ct : Value) (us : List Value), us.length = P_Spot_spot_twin.length → bindArgs (PySem.W.fnOf "spot_twin" "Spot.spot_twin" (defArgs s_Spot_spot_twin) (defBody s_Spot_spot_twin) (defScope s_Spot_spot_twin) .none kV doc pm an cdv ct) ⟨us, []⟩ = pure (P_Spot_spot_twin.zip us) := fun _ _ _ _ _ _ us hl => match us, hl with | [_], _ => rfl
theorem bd_LockTable_stuck_among : ∀ (kV doc pm : Value) (an : Option Addr) (cdv ct : Value) (us : List Value), us.length = P_LockTable_stuck_among.length → bindArgs (PySem.W.fnOf "stuck_among" "LockTable.stuck_among" (defArgs s_LockTable_stuck_among) (defBody s_LockTable_stuck_among) (defScope s_LockTable_stuck_among) .none kV doc pm an cdv ct) ⟨us, []⟩ = pure (P_LockTable_stuck_among.zip us) := fun _ _ _ _ _ _ us hl => match us, hl with | [_, _], _ => rfl
theorem bd_LockTable_waits_among : ∀ (kV doc pm : Value) (an : Option Addr) (cdv ct : Value) (us : List Value), us.length = P_LockTable_waits_among.length → bindArgs (PySem.W.fnOf "waits_among" "LockTable.waits_among" (defArgs s_LockTable_waits_among) (defBody s_LockTable_waits_among) (defScope s_LockTable_waits_among) .none kV doc pm an cdv ct) ⟨us, []⟩ = pure (P_LockTable_waits_among.zip us) := fun _ _ _ _ _ _ us hl => match us, hl with | [_, _], _ => rfl
theorem bd_LockTable_grant : ∀ (kV doc pm : Value) (an : Option Addr) (cdv ct : Value) (us : List Value), us.length = P_LockTable_grant.length → bindArgs (PySem.W.fnOf "grant" "LockTable.grant" (defArgs s_LockTable_grant) (defBody s_LockTable_grant) (defScope s_LockTable_grant) .none kV doc pm an cdv ct) ⟨us, []⟩ = pure (P_LockTable_grant.zip us) := fun _ _ _ _ _ _ us hl => match us, hl with | [_, _, _, _], _ => rfl
theorem bd_LockTable_serve_at : ∀ (kV doc pm : Value) (an : Option Addr) (cdv ct : Value) (us : List Value), us.length = P_LockTable_serve_at.length → bindArgs (PySem.W.fnOf "serve_at" "LockTable.serve_at" (defArgs s_LockTable_serve_at) (defBody s_LockTable_serve_at) (defScope s_LockTable_serve_at) .none kV doc pm an cdv ct) ⟨us, []⟩ = pure (P_LockTable_serve_at.zip us) := fun _ _ _ _ _ _ us hl => match us, hl with | [_, _], _ => rfl
theorem bd_LockTable_copied : ∀ (kV doc pm : Value) (an : Option Addr) (cdv ct : Value) (us : List Value), us.length = P_LockTable_copied.length → bindArgs (PySem.W.fnOf "copied" "LockTable.copied" (defArgs s_LockTable_copied) (defBody s_LockTable_copied) (defScope s_LockTable_copied) .none kV doc pm an cdv ct) ⟨us, []⟩ = pure (P_LockTable_copied.zip us) := fun _ _ _ _ _ _ us hl => match us, hl with | [_], _ => rfl
theorem bd_LockTable_let_go : ∀ (kV doc pm : Value) (an : Option Addr) (cdv ct : Value) (us : List Value), us.length = P_LockTable_let_go.length → bindArgs (PySem.W.fnOf "let_go" "LockTable.let_go" (defArgs s_LockTable_let_go) (defBody s_LockTable_let_go) (defScope s_LockTable_let_go) .none kV doc pm an cdv ct) ⟨us, []⟩ = pure (P_LockTable_let_go.zip us) := fun _ _ _ _ _ _ us hl => match us, hl with | [_, _, _], _ => rfl
theorem bd_LockTable_finish : ∀ (kV doc pm : Value) (an : Option Addr) (cdv ct : Value) (us : List Value), us.length = P_LockTable_finish.length → bindArgs (PySem.W.fnOf "finish" "LockTable.finish" (defArgs s_LockTable_finish) (defBody s_LockTable_finish) (defScope s_LockTable_finish) .none kV doc pm an cdv ct) ⟨us, []⟩ = pure (P_LockTable_finish.zip us) := fun _ _ _ _ _ _ us hl => match us, hl with | [_, _], _ => rfl
theorem bd_LockTable_stuck_owners : ∀ (kV doc pm : Value) (an : Option Addr) (cdv ct : Value) (us : List Value), us.length = P_LockTable_stuck_owners.length → bindArgs (PySem.W.fnOf "stuck_owners" "LockTable.stuck_owners" (defArgs s_LockTable_stuck_owners) (defBody s_LockTable_stuck_owners) (defScope s_LockTable_stuck_owners) .none kV doc pm an cdv ct) ⟨us, []⟩ = pure (P_LockTable_stuck_owners.zip us) := fun _ _ _ _ _ _ us hl => match us, hl with | [_], _ => rfl
theorem bd_LockTable_free_item : ∀ (kV doc pm : Value) (an : Option Addr) (cdv ct : Value) (us : List Value), us.length = P_LockTable_free_item.length → bindArgs (PySem.W.fnOf "free_item" "LockTable.free_item" (defArgs s_LockTable_free_item) (defBody s_LockTable_free_item) (defScope s_LockTable_free_item) .none kV doc pm an cdv ct) ⟨us, []⟩ = pure (P_LockTable_free_item.zip us) := fun _ _ _ _ _ _ us hl => match us, hl with | [_, _, _], _ => rfl
theorem bd_LockTable_ask : ∀ (kV doc pm : Value) (an : Option Addr) (cdv ct : Value) (us : List Value), us.length = P_LockTable_ask.length → bindArgs (PySem.W.fnOf "ask" "LockTable.ask" (defArgs s_LockTable_ask) (defBody s_LockTable_ask) (defScope s_LockTable_ask) .none kV doc pm an cdv ct) ⟨us, []⟩ = pure (P_LockTable_ask.zip us) := fun _ _ _ _ _ _ us hl => match us, hl with | [_, _, _, _], _ => rfl
theorem bd_LockTable_ask_of : ∀ (kV doc pm : Value) (an : Option Addr) (cdv ct : Value) (us : List Value), us.length = P_LockTable_ask_of.length → bindArgs (PySem.W.fnOf "ask_of" "LockTable.ask_of" (defArgs s_LockTable_ask_of) (defBody s_LockTable_ask_of) (defScope s_LockTable_ask_of) .none kV doc pm an cdv ct) ⟨us, []⟩ = pure (P_LockTable_ask_of.zip us) := fun _ _ _ _ _ _ us hl => match us, hl with | [_, _], _ => rfl
theorem bd_LockTable_holds_of : ∀ (kV doc pm : Value) (an : Option Addr) (cdv ct : Value) (us : List Value), us.length = P_LockTable_holds_of.length → bindArgs (PySem.W.fnOf "holds_of" "LockTable.holds_of" (defArgs s_LockTable_holds_of) (defBody s_LockTable_holds_of) (defScope s_LockTable_holds_of) .none kV doc pm an cdv ct) ⟨us, []⟩ = pure (P_LockTable_holds_of.zip us) := fun _ _ _ _ _ _ us hl => match us, hl with | [_, _], _ => rfl
theorem bd_LockTable_init : ∀ (kV doc pm : Value) (an : Option Addr) (cdv ct : Value) (us : List Value), us.length = P_LockTable_init.length → bindArgs (PySem.W.fnOf "__init__" "LockTable.__init__" (defArgs s_LockTable_init) (defBody s_LockTable_init) (defScope s_LockTable_init) .none kV doc pm an cdv ct) ⟨us, []⟩ = pure (P_LockTable_init.zip us) := fun _ _ _ _ _ _ us hl => match us, hl with | [_, _], _ => rfl
theorem bd_Spot_init : ∀ (kV doc pm : Value) (an : Option Addr) (cdv ct : Value) (us : List Value), us.length = P_Spot_init.length → bindArgs (PySem.W.fnOf "__init__" "Spot.__init__" (defArgs s_Spot_init) (defBody s_Spot_init) (defScope s_Spot_init) .none kV doc pm an cdv ct) ⟨us, []⟩ = pure (P_Spot_init.zip us) := fun _ _ _ _ _ _ us hl => match us, hl with | [_], _ => rfl
theorem all_nil {α : Type} {P : α → Prop} : ∀ e ∈ ([] : List α), P e := fun _ h => by cases h
theorem all_cons {α : Type} {P : α → Prop} {a : α} {l : List α} (h : P a) (t : ∀ e ∈ l, P e) : ∀ e ∈ a :: l, P e := fun e he => (List.mem_cons.mp he).elim (fun z => by rw [z]; exact h) (t e)
/-- the facts of one def, of one method, of one __init__, by the written part alone -/
def RawK (K : PySem.W.Frag) (mg : Str → Option Value) (x qual : Str) (st : Stmt) (ps : List Str) : Prop := ∃ f fd, Fun K x qual st f fd ∧ mg x = some (.ref f) ∧ Binds K fd ps []
def RawMK (K : PySem.W.Frag) (C : Addr) (x qual : Str) (st : Stmt) (ps : List Str) : Prop := ∃ f fd, Fun K x qual st f fd ∧ Meth K C x f ∧ Binds K fd ps []
def RawIK (K : PySem.W.Frag) (mg : Str → Option Value) (C : Addr) (x qual : Str) (st : Stmt) (ps : List Str) : Prop := ∃ f fd, Fun K "__init__" qual st f fd ∧ Mk K C f ∧ mg x = some (.ref C) ∧ Binds K fd ps []
section
variable {K : PySem.W.Frag} {h : Heap} {mg : Str → Option Value} {goal : Prop} {x qual : Str} {st : Stmt} {ps : List Str} {f C p q : Addr} {oc kV dc pm cd ct : Value} {od an : Option Addr} {sl : Array (Option Value)}
theorem w_raw (X : K.In h) (G : h.Ns mainGlobals mg) (hb : ∀ (kV doc pm : Value) (an : Option Addr) (cdv ct : Value) (us : List Value), us.length = ps.length → bindArgs (PySem.W.fnOf x qual (defArgs st) (defBody st) (defScope st) .none kV doc pm an cdv ct) ⟨us, []⟩ = pure (ps.zip us))
    (a : PySem.W.nsIn K mainGlobals x = some (some (.ref f))) (l : K.lookup f = some ⟨oc, od, .func (PySem.W.fnOf x qual (defArgs st) (defBody st) (defScope st) .none kV dc pm an cd ct), sl⟩) (c : PySem.W.codeIn K cd qual = true) (k : PySem.W.keepIn K (.ref f) = true) (go : RawK K mg x qual st ps → goal) : goal := by
  have F := fun_mk (st := st) l c k
  exact go ⟨f, _, F, PySem.W.mg_of X G a, F.binds hb⟩
theorem w_meth (X : K.In h) (G : h.Ns mainGlobals mg) (cl : Cls K C) (hb : ∀ (kV doc pm : Value) (an : Option Addr) (cdv ct : Value) (us : List Value), us.length = ps.length → bindArgs (PySem.W.fnOf x qual (defArgs st) (defBody st) (defScope st) .none kV doc pm an cdv ct) ⟨us, []⟩ = pure (ps.zip us))
    (a : PySem.W.findIn K (.ref C) x = some (some (.ref f))) (i : PySem.W.isFn K (.ref f) = true) (l : K.lookup f = some ⟨oc, od, .func (PySem.W.fnOf x qual (defArgs st) (defBody st) (defScope st) .none kV dc pm an cd ct), sl⟩) (c : PySem.W.codeIn K cd qual = true) (k : PySem.W.keepIn K (.ref f) = true) (go : RawMK K C x qual st ps → goal) : goal := by
  have F := fun_mk (st := st) l c k
  exact go ⟨f, _, F, ⟨a, i, k⟩, F.binds hb⟩
theorem w_init (X : K.In h) (G : h.Ns mainGlobals mg) (hb : ∀ (kV doc pm : Value) (an : Option Addr) (cdv ct : Value) (us : List Value), us.length = ps.length → bindArgs (PySem.W.fnOf "__init__" qual (defArgs st) (defBody st) (defScope st) .none kV doc pm an cdv ct) ⟨us, []⟩ = pure (ps.zip us))
    (aC : PySem.W.nsIn K mainGlobals x = some (some (.ref C))) (a : PySem.W.findIn K (.ref C) "__init__" = some (some (.ref f))) (i : PySem.W.isFn K (.ref f) = true) (l : K.lookup f = some ⟨oc, od, .func (PySem.W.fnOf "__init__" qual (defArgs st) (defBody st) (defScope st) .none kV dc pm an cd ct), sl⟩) (c : PySem.W.codeIn K cd qual = true) (k : PySem.W.keepIn K (.ref f) = true)
    (mk : PySem.W.makesIn K C = true) (kc : PySem.W.keepIn K (.ref C) = true) (pg : PySem.W.plainGet K C Str.empty = true) (hd : PySem.W.hasDictIn K C = true) (po : PySem.W.plainOver K C = true) (sa : PySem.W.findIn K (.ref C) "__setattr__" = some (some (.builtin "object.__setattr__"))) (go : RawIK K mg C x qual st ps → Cls K C → goal) : goal := by
  have F := fun_mk (st := st) l c k
  exact go ⟨f, _, F, ⟨mk, a, i, kc⟩, PySem.W.mg_of X G aC, F.binds hb⟩ ⟨pg, hd, po, sa⟩
theorem w_noattr (X : K.In h) (cl : Cls K C) (a : PySem.W.findIn K (.ref C) x = some none) (go : NoAttr K C x → goal) : goal := go a
theorem w_none (X : K.In h) (G : h.Ns mainGlobals mg) (a : PySem.W.nsIn K mainGlobals x = some none) (go : mg x = none → goal) : goal := go (PySem.W.mg_none_of X G a)
theorem w_val {v : Value} (X : K.In h) (G : h.Ns mainGlobals mg) (a : PySem.W.nsIn K mainGlobals x = some (some v)) (go : mg x = some v → goal) : goal := go (PySem.W.mg_of X G a)
theorem w_tupE {w : World} {o : Obj} {its : Array Value} {n : Nat} {xs : List V} (e : KDct K w p x (.ref q)) (l : K.lookup q = some o) (hc : o.cls = .type "tuple") (hd : o.data = .seq its n) (hz : its.size ≤ sizeLine) (hv : Vals xs its.toList) (go : (∀ H, SqT K H q xs) → goal) : goal := go fun _ => .inr ⟨o, its, n, l, hc, hd, hz, hv⟩
theorem w_tup {o : Obj} {its : Array Value} {n : Nat} {xs : List V} (X : K.In h) (vq : mg x = some (.ref q)) (l : K.lookup q = some o) (hc : o.cls = .type "tuple") (hd : o.data = .seq its n) (hz : its.size ≤ sizeLine) (hv : Vals xs its.toList) (go : (∀ H, SqT K H q xs) → goal) : goal := go fun _ => .inr ⟨o, its, n, l, hc, hd, hz, hv⟩
theorem w_dict {w : World} {es : Array DictEntry} {n : Nat} (X : K.In h) (vq : mg x = some (.ref p)) (l : K.lookup p = some ⟨.type "dict", none, .dict es n, #[]⟩) (hk : PySem.W.KeysLit w.params es.toList) (go : (∀ (x : Str) (q : Addr), PySem.W.nsIn K p x = some (some (.ref q)) → KDct K w p x (.ref q)) → goal) : goal := go fun x q a => ⟨es, n, .ref q, l, hk, a, rfl⟩
theorem w_ent {w : World} (X : K.In h) (a : PySem.W.nsIn K p x = some (some (.ref q))) (d : ∀ (x : Str) (q : Addr), PySem.W.nsIn K p x = some (some (.ref q)) → KDct K w p x (.ref q)) (go : KDct K w p x (.ref q) → goal) : goal := go (d x q a)
end
/-- all that the text's defs stand on -/
structure Tx (b : Bs) (CT CS : Addr) : Prop where
  r_fault_of_modes : RawK b.K b.mg "fault_of_modes" "fault_of_modes" s_fault_of_modes P_fault_of_modes
  r_require_modes : RawK b.K b.mg "require_modes" "require_modes" s_require_modes P_require_modes
  r_law_ended : RawK b.K b.mg "_law_ended" "_law_ended" s_law_ended P_law_ended
  r_is_exact : RawK b.K b.mg "is_exact" "is_exact" s_is_exact P_is_exact
  r_join : RawK b.K b.mg "join" "join" s_join P_join
  r_allows : RawK b.K b.mg "allows" "allows" s_allows P_allows
  r_require_mode : RawK b.K b.mg "require_mode" "require_mode" s_require_mode P_require_mode
  r_all_joins : RawK b.K b.mg "all_joins" "all_joins" s_all_joins P_all_joins
  r_law_scene : RawK b.K b.mg "_law_scene" "_law_scene" s_law_scene P_law_scene
  r_is_integer : RawK b.K b.mg "is_integer" "is_integer" s_is_integer P_is_integer
  r_is_name : RawK b.K b.mg "is_name" "is_name" s_is_name P_is_name
  r_is_owner : RawK b.K b.mg "is_owner" "is_owner" s_is_owner P_is_owner
  r_require_owner : RawK b.K b.mg "require_owner" "require_owner" s_require_owner P_require_owner
  r_is_item : RawK b.K b.mg "is_item" "is_item" s_is_item P_is_item
  r_require_item : RawK b.K b.mg "require_item" "require_item" s_require_item P_require_item
  r_are_joins : RawK b.K b.mg "are_joins" "are_joins" s_are_joins P_are_joins
  r_law_well : RawK b.K b.mg "_law_well" "_law_well" s_law_well P_law_well
  r_law_draw : RawK b.K b.mg "_law_draw" "_law_draw" s_law_draw P_law_draw
  r_law_one : RawK b.K b.mg "_law_one" "_law_one" s_law_one P_law_one
  r_law_menu : RawK b.K b.mg "_law_menu" "_law_menu" s_law_menu P_law_menu
  r_law_freed : RawK b.K b.mg "_law_freed" "_law_freed" s_law_freed P_law_freed
  r_is_row_of : RawK b.K b.mg "is_row_of" "is_row_of" s_is_row_of P_is_row_of
  r_are_names : RawK b.K b.mg "are_names" "are_names" s_are_names P_are_names
  r_are_allowed : RawK b.K b.mg "are_allowed" "are_allowed" s_are_allowed P_are_allowed
  r_standard_join : RawK b.K b.mg "standard_join" "standard_join" s_standard_join P_standard_join
  r_standard : RawK b.K b.mg "standard" "standard" s_standard P_standard
  r_law_further : RawK b.K b.mg "_law_further" "_law_further" s_law_further P_law_further
  r_law : RawK b.K b.mg "law" "law" s_law P_law
  r_law_asked : RawK b.K b.mg "_law_asked" "_law_asked" s_law_asked P_law_asked
  r_waiters_by : RawK b.K b.mg "waiters_by" "waiters_by" s_waiters_by P_waiters_by
  r_law_step : RawK b.K b.mg "_law_step" "_law_step" s_law_step P_law_step
  r_law_join : RawK b.K b.mg "_law_join" "_law_join" s_law_join P_law_join
  r_law_world : RawK b.K b.mg "_law_world" "_law_world" s_law_world P_law_world
  r_law_lets : RawK b.K b.mg "_law_lets" "_law_lets" s_law_lets P_law_lets
  r_law_held_fast : RawK b.K b.mg "_law_held_fast" "_law_held_fast" s_law_held_fast P_law_held_fast
  r_law_served : RawK b.K b.mg "_law_served" "_law_served" s_law_served P_law_served
  r_law_given : RawK b.K b.mg "_law_given" "_law_given" s_law_given P_law_given
  r_law_seen : RawK b.K b.mg "_law_seen" "_law_seen" s_law_seen P_law_seen
  r_LockTable_others_allow : RawMK b.K CT "others_allow" "LockTable.others_allow" s_LockTable_others_allow P_LockTable_others_allow
  r_LockTable_holders_at : RawMK b.K CT "holders_at" "LockTable.holders_at" s_LockTable_holders_at P_LockTable_holders_at
  r_LockTable_waiters_at : RawMK b.K CT "waiters_at" "LockTable.waiters_at" s_LockTable_waiters_at P_LockTable_waiters_at
  r_LockTable_spot_of : RawMK b.K CT "spot_of" "LockTable.spot_of" s_LockTable_spot_of P_LockTable_spot_of
  r_LockTable_waits_for : RawMK b.K CT "waits_for" "LockTable.waits_for" s_LockTable_waits_for P_LockTable_waits_for
  r_Spot_spot_twin : RawMK b.K CS "spot_twin" "Spot.spot_twin" s_Spot_spot_twin P_Spot_spot_twin
  r_LockTable_stuck_among : RawMK b.K CT "stuck_among" "LockTable.stuck_among" s_LockTable_stuck_among P_LockTable_stuck_among
  r_LockTable_waits_among : RawMK b.K CT "waits_among" "LockTable.waits_among" s_LockTable_waits_among P_LockTable_waits_among
  r_LockTable_grant : RawMK b.K CT "grant" "LockTable.grant" s_LockTable_grant P_LockTable_grant
  r_LockTable_serve_at : RawMK b.K CT "serve_at" "LockTable.serve_at" s_LockTable_serve_at P_LockTable_serve_at
  r_LockTable_copied : RawMK b.K CT "copied" "LockTable.copied" s_LockTable_copied P_LockTable_copied
  r_LockTable_let_go : RawMK b.K CT "let_go" "LockTable.let_go" s_LockTable_let_go P_LockTable_let_go
  r_LockTable_finish : RawMK b.K CT "finish" "LockTable.finish" s_LockTable_finish P_LockTable_finish
  r_LockTable_stuck_owners : RawMK b.K CT "stuck_owners" "LockTable.stuck_owners" s_LockTable_stuck_owners P_LockTable_stuck_owners
  r_LockTable_free_item : RawMK b.K CT "free_item" "LockTable.free_item" s_LockTable_free_item P_LockTable_free_item
  r_LockTable_ask : RawMK b.K CT "ask" "LockTable.ask" s_LockTable_ask P_LockTable_ask
  r_LockTable_ask_of : RawMK b.K CT "ask_of" "LockTable.ask_of" s_LockTable_ask_of P_LockTable_ask_of
  r_LockTable_holds_of : RawMK b.K CT "holds_of" "LockTable.holds_of" s_LockTable_holds_of P_LockTable_holds_of
  r_LockTable_init : RawIK b.K b.mg CT "LockTable" "LockTable.__init__" s_LockTable_init P_LockTable_init
  r_Spot_init : RawIK b.K b.mg CS "Spot" "Spot.__init__" s_Spot_init P_Spot_init
  cT : Cls b.K CT
  cS : Cls b.K CS
  nT : ∀ f ∈ (["modes", "spots", "items_by_owner", "asks"] : List Str), NoAttr b.K CT f
  nS : ∀ f ∈ (["modes_by_owner", "conversions", "queue"] : List Str), NoAttr b.K CS f
  tops : Tops b
section
variable {b : Bs} {c : Tc}
theorem Tx.cls (X : Tx b c.CT c.CS) : ClsOk b.K c := ⟨X.cT, X.cS, X.nT, X.nS⟩
theorem p_law_well (X : Tx b c.CT c.CS) : Df b 1 "_law_well" P_law_well spWell := ok_law_well X.r_law_well X.tops
theorem p_law_draw (X : Tx b c.CT c.CS) : Df b 1 "_law_draw" P_law_draw spDraw := ok_law_draw X.r_law_draw X.tops
theorem p_law_one (X : Tx b c.CT c.CS) : Df b 2 "_law_one" P_law_one (spOne b.K) := ok_law_one X.r_law_one X.tops (p_law_draw X)
theorem p_standard_join (X : Tx b c.CT c.CS) : Df b 1 "standard_join" P_standard_join spSj := ok_standard_join X.r_standard_join X.tops
theorem p_standard (X : Tx b c.CT c.CS) : Df b 2 "standard" P_standard (spStd b.K) := ok_standard X.r_standard X.tops (p_standard_join X)
theorem p_law_menu (X : Tx b c.CT c.CS) : Df b 3 "_law_menu" P_law_menu (spMenu b.K) := ok_law_menu X.r_law_menu X.tops (p_standard X)
theorem p_law_scene (X : Tx b c.CT c.CS) : Df b 4 "_law_scene" P_law_scene (spScene b.K c.CT c.CS) := ok_law_scene c.CT c.CS X.r_law_scene (p_law_one X) (p_law_menu X) (p_law_draw X)
theorem p_law_world (X : Tx b c.CT c.CS) : Df b 1 "_law_world" P_law_world (spWorld b c) := ok_law_world X.r_law_world
theorem p_is_name (X : Tx b c.CT c.CS) : Df b 1 "is_name" P_is_name spIsName := ok_is_name X.r_is_name X.tops
theorem p_are_names (X : Tx b c.CT c.CS) : Df b 2 "are_names" P_are_names (spAreNames b.K) := ok_are_names X.r_are_names X.tops (p_is_name X)
theorem p_is_row_of (X : Tx b c.CT c.CS) : Df b 1 "is_row_of" P_is_row_of (spIsRow b.K) := ok_is_row_of X.r_is_row_of X.tops
theorem p_are_allowed (X : Tx b c.CT c.CS) : Df b 2 "are_allowed" P_are_allowed (spAreAllowed b.K) := ok_are_allowed X.r_are_allowed X.tops (p_is_row_of X)
theorem p_are_joins (X : Tx b c.CT c.CS) : Df b 2 "are_joins" P_are_joins (spAreJoins b.K) := ok_are_joins X.r_are_joins X.tops (p_is_row_of X)
theorem p_all_joins (X : Tx b c.CT c.CS) : Df b 1 "all_joins" P_all_joins (spAllJoins b.K) := ok_all_joins X.r_all_joins X.tops
theorem p_is_exact (X : Tx b c.CT c.CS) : Df b 2 "is_exact" P_is_exact (spIsExact b.K) := ok_is_exact X.r_is_exact X.tops (p_all_joins X)
theorem p_fault (X : Tx b c.CT c.CS) : Df b 3 "fault_of_modes" P_fault_of_modes (spFault b.K) := ok_fault X.r_fault_of_modes X.tops (p_are_names X) (p_are_allowed X) (p_are_joins X) (p_is_exact X)
theorem p_require_modes (X : Tx b c.CT c.CS) : Df b 4 "require_modes" P_require_modes (spReqModes b.K) := ok_require_modes X.r_require_modes X.tops (p_fault X)
theorem p_tab_init (X : Tx b c.CT c.CS) : Mkd b 5 c.CT "LockTable" P_LockTable_init (spTabInit b c) := ok_tab_init X.r_LockTable_init X.cls (p_require_modes X)
theorem p_is_integer (X : Tx b c.CT c.CS) : Df b 1 "is_integer" P_is_integer spIsInt := ok_is_integer X.r_is_integer X.tops
theorem p_is_owner (X : Tx b c.CT c.CS) : Df b 2 "is_owner" P_is_owner spIsOwner := ok_is_owner X.r_is_owner X.tops (p_is_integer X)
theorem p_require_owner (X : Tx b c.CT c.CS) : Df b 3 "require_owner" P_require_owner spReqOwner := ok_require_owner X.r_require_owner X.tops (p_is_owner X)
theorem p_spot_init (X : Tx b c.CT c.CS) : Mkd b 1 c.CS "Spot" P_Spot_init (spSpotInit c) := ok_spot_init X.r_Spot_init X.cls
theorem p_spot_of (X : Tx b c.CT c.CS) : Mt b 3 c.CT "spot_of" P_LockTable_spot_of (spSpotOf b c) := ok_spot_of X.r_LockTable_spot_of X.cls (p_spot_init X)
theorem p_allows (X : Tx b c.CT c.CS) : Df b 1 "allows" P_allows (spAllows b.K) := ok_allows X.r_allows X.tops
theorem p_waits_for (X : Tx b c.CT c.CS) : Mt b 4 c.CT "waits_for" P_LockTable_waits_for (spWaitsFor b c) := ok_waits_for X.r_LockTable_waits_for X.cls X.tops (p_require_owner X) (p_spot_of X) (p_allows X)
theorem p_waits_among (X : Tx b c.CT c.CS) : Mt b 5 c.CT "waits_among" P_LockTable_waits_among (spAmong b c) := ok_waits_among X.r_LockTable_waits_among X.cls X.tops (p_waits_for X)
theorem p_waiters_by (X : Tx b c.CT c.CS) : Df b 1 "waiters_by" P_waiters_by spBy := ok_waiters_by (c := c) X.r_waiters_by X.tops
theorem p_stuck_among (X : Tx b c.CT c.CS) : Mt b 6 c.CT "stuck_among" P_LockTable_stuck_among (spStuckAm b c) := ok_stuck_among X.r_LockTable_stuck_among X.cls X.tops (p_waits_among X) (p_waiters_by X)
theorem p_stuck_owners (X : Tx b c.CT c.CS) : Mt b 7 c.CT "stuck_owners" P_LockTable_stuck_owners (spStuck b c) := ok_stuck_owners X.r_LockTable_stuck_owners X.cls X.tops (p_stuck_among X)
theorem p_others_allow (X : Tx b c.CT c.CS) : Mt b 4 c.CT "others_allow" P_LockTable_others_allow (spOthers b c) := ok_others_allow X.r_LockTable_others_allow X.cls X.tops (p_spot_of X) (p_allows X)
theorem p_grant (X : Tx b c.CT c.CS) : Mt b 4 c.CT "grant" P_LockTable_grant (spGrant b c) := ok_grant X.r_LockTable_grant X.cls X.tops (p_spot_of X)
theorem p_serve_at (X : Tx b c.CT c.CS) : Mt b 5 c.CT "serve_at" P_LockTable_serve_at (spServe b c) := ok_serve_at X.r_LockTable_serve_at X.cls X.tops (p_spot_of X) (p_others_allow X) (p_grant X)
theorem p_free_item (X : Tx b c.CT c.CS) : Mt b 6 c.CT "free_item" P_LockTable_free_item (spFree b c) := ok_free_item X.r_LockTable_free_item X.cls X.tops (p_spot_of X) (p_serve_at X)
theorem p_finish (X : Tx b c.CT c.CS) : Mt b 7 c.CT "finish" P_LockTable_finish (spFinish b c) := ok_finish X.r_LockTable_finish X.cls X.tops (p_free_item X) (p_spot_of X) (p_serve_at X) (p_require_owner X)
theorem p_is_item (X : Tx b c.CT c.CS) : Df b 2 "is_item" P_is_item spIsItem := ok_is_item X.r_is_item X.tops (p_is_integer X) (p_is_name X)
theorem p_require_item (X : Tx b c.CT c.CS) : Df b 3 "require_item" P_require_item spReqItem := ok_require_item X.r_require_item X.tops (p_is_item X)
theorem p_let_go (X : Tx b c.CT c.CS) : Mt b 7 c.CT "let_go" P_LockTable_let_go (spLetGo b c) := ok_let_go X.r_LockTable_let_go X.cls X.tops (p_free_item X) (p_require_owner X) (p_require_item X)
theorem p_join (X : Tx b c.CT c.CS) : Df b 1 "join" P_join (spJoin b.K) := ok_join X.r_join X.tops
theorem p_require_mode (X : Tx b c.CT c.CS) : Df b 1 "require_mode" P_require_mode (spReqMode b.K) := ok_require_mode X.r_require_mode X.tops
theorem p_ask (X : Tx b c.CT c.CS) : Mt b 5 c.CT "ask" P_LockTable_ask (spAsk b c) := ok_ask X.r_LockTable_ask X.cls X.tops (p_spot_of X) (p_others_allow X) (p_grant X) (p_join X) (p_require_owner X) (p_require_item X) (p_require_mode X)
theorem p_law_lets (X : Tx b c.CT c.CS) : Df b 1 "_law_lets" P_law_lets (spWLets b c) := ok_law_lets X.r_law_lets X.tops
theorem p_law_given (X : Tx b c.CT c.CS) : Df b 1 "_law_given" P_law_given (spWGiven b c) := ok_law_given X.r_law_given X.tops
theorem p_law_served (X : Tx b c.CT c.CS) : Df b 2 "_law_served" P_law_served (spWServed b c) := ok_law_served X.r_law_served X.tops (p_law_lets X) (p_law_given X)
theorem p_law_freed (X : Tx b c.CT c.CS) : Df b 3 "_law_freed" P_law_freed (spWFreed b c) := ok_law_freed X.r_law_freed X.tops (p_law_served X)
theorem p_law_ended (X : Tx b c.CT c.CS) : Df b 4 "_law_ended" P_law_ended (spWEnded b c) := ok_law_ended X.r_law_ended X.tops (p_law_served X) (p_law_freed X)
theorem p_law_join (X : Tx b c.CT c.CS) : Df b 1 "_law_join" P_law_join (spLJoin b.K) := ok_law_join X.r_law_join X.tops
theorem p_law_asked (X : Tx b c.CT c.CS) : Df b 2 "_law_asked" P_law_asked (spWAsked b c) := ok_law_asked X.r_law_asked X.tops (p_law_join X) (p_law_lets X) (p_law_given X)
theorem p_law_step (X : Tx b c.CT c.CS) : Df b 8 "_law_step" P_law_step (spStep b c) := ok_law_step X.r_law_step X.cls X.tops (p_law_one X) (p_law_draw X) (p_finish X) (p_let_go X) (p_ask X) (p_law_ended X) (p_law_freed X) (p_law_asked X)
theorem p_holds_of (X : Tx b c.CT c.CS) : Mt b 4 c.CT "holds_of" P_LockTable_holds_of (spHoldsOf b c) := ok_holds_of X.r_LockTable_holds_of X.cls X.tops (p_require_owner X) (p_spot_of X)
theorem p_ask_of (X : Tx b c.CT c.CS) : Mt b 4 c.CT "ask_of" P_LockTable_ask_of (spAskOf b c) := ok_ask_of X.r_LockTable_ask_of X.cls X.tops (p_require_owner X)
theorem p_spot_twin (X : Tx b c.CT c.CS) : Mt b 3 c.CS "spot_twin" P_Spot_spot_twin (spTwin c) := ok_spot_twin X.r_Spot_spot_twin X.cls X.tops (p_spot_init X)
theorem p_copied (X : Tx b c.CT c.CS) : Mt b 7 c.CT "copied" P_LockTable_copied (spCopied b c) := ok_copied X.r_LockTable_copied X.cls X.tops (p_tab_init X) (p_spot_twin X)
theorem p_holders_at (X : Tx b c.CT c.CS) : Mt b 4 c.CT "holders_at" P_LockTable_holders_at (spHoldersAt b c) := ok_holders_at X.r_LockTable_holders_at X.cls X.tops (p_require_item X) (p_spot_of X)
theorem p_waiters_at (X : Tx b c.CT c.CS) : Mt b 4 c.CT "waiters_at" P_LockTable_waiters_at (spWaitersAt b c) := ok_waiters_at X.r_LockTable_waiters_at X.cls X.tops (p_require_item X) (p_spot_of X)
theorem p_law_seen (X : Tx b c.CT c.CS) : Df b 8 "_law_seen" P_law_seen (spSeen b c) := ok_law_seen X.r_law_seen (p_holds_of X) (p_ask_of X) (p_waits_for X) (p_holders_at X) (p_waiters_at X) (p_stuck_owners X)
theorem p_law_further (X : Tx b c.CT c.CS) : Df b 8 "_law_further" P_law_further (spFurther b c) := ok_law_further X.r_law_further (p_law_one X) (p_law_draw X) (p_finish X) (p_ask X) (p_ask_of X) (p_stuck_owners X)
theorem p_law_held_fast (X : Tx b c.CT c.CS) : Df b 8 "_law_held_fast" P_law_held_fast (spFast b c) := ok_law_held_fast X.r_law_held_fast (p_holds_of X) (p_ask_of X) (p_waits_for X) (p_stuck_owners X)
end
theorem df_all {b : Bs} {CT CS : Addr} {k : Nat} {x : Str} {ps : List Str} {sp : Tc → Sp} (c0 : Tc) (h0 : c0.CT = CT ∧ c0.CS = CS) (h : ∀ c : Tc, c.CT = CT ∧ c.CS = CS → Df b k x ps (sp c)) : Df b k x ps (Al CT CS sp) := Df.all (good := fun c : Tc => c.CT = CT ∧ c.CS = CS) c0 h0 h
theorem mt_all {b : Bs} {CT CS C : Addr} {k : Nat} {x : Str} {ps : List Str} {sp : Tc → Sp} (c0 : Tc) (h0 : c0.CT = CT ∧ c0.CS = CS) (h : ∀ c : Tc, c.CT = CT ∧ c.CS = CS → Mt b k C x ps (sp c)) : Mt b k C x ps (Al CT CS sp) := Mt.all (good := fun c : Tc => c.CT = CT ∧ c.CS = CS) c0 h0 h
theorem mkd_all {b : Bs} {CT CS C : Addr} {k : Nat} {x : Str} {ps : List Str} {sp : Tc → Sp} (c0 : Tc) (h0 : c0.CT = CT ∧ c0.CS = CS) (h : ∀ c : Tc, c.CT = CT ∧ c.CS = CS → Mkd b k C x ps (sp c)) : Mkd b k C x ps (Al CT CS sp) := Mkd.all (good := fun c : Tc => c.CT = CT ∧ c.CS = CS) c0 h0 h
def c00 (CT CS : Addr) : Tc := ⟨CT, CS, fun _ => .none, [], [], dPl, CT⟩
theorem law_df {b : Bs} {CT CS : Addr} (X : Tx b CT CS) : Df b 9 "law" P_law (spLaw b.K) := by
  refine ok_law (CT := CT) (CS := CS) X.r_law X.tops ?_ ?_ ?_ ?_ ?_ ?_ ?_ ?_ ?_ ?_ ?_ ?_ ?_
  · exact p_law_well (c := c00 CT CS) X
  · exact p_law_scene (c := c00 CT CS) X
  · exact df_all (c00 CT CS) ⟨rfl, rfl⟩ fun c hc => by obtain ⟨h1, h2⟩ := hc; subst h1 h2; exact p_law_world X
  · exact mkd_all (c00 CT CS) ⟨rfl, rfl⟩ fun c hc => by obtain ⟨h1, h2⟩ := hc; subst h1 h2; exact p_tab_init X
  · exact mt_all (c00 CT CS) ⟨rfl, rfl⟩ fun c hc => by obtain ⟨h1, h2⟩ := hc; subst h1 h2; exact p_stuck_owners X
  · exact df_all (c00 CT CS) ⟨rfl, rfl⟩ fun c hc => by obtain ⟨h1, h2⟩ := hc; subst h1 h2; exact p_law_step X
  · exact mt_all (c00 CT CS) ⟨rfl, rfl⟩ fun c hc => by obtain ⟨h1, h2⟩ := hc; subst h1 h2; exact p_holds_of X
  · exact mt_all (c00 CT CS) ⟨rfl, rfl⟩ fun c hc => by obtain ⟨h1, h2⟩ := hc; subst h1 h2; exact p_ask_of X
  · exact mt_all (c00 CT CS) ⟨rfl, rfl⟩ fun c hc => by obtain ⟨h1, h2⟩ := hc; subst h1 h2; exact p_copied X
  · exact df_all (c00 CT CS) ⟨rfl, rfl⟩ fun c hc => by obtain ⟨h1, h2⟩ := hc; subst h1 h2; exact p_law_seen X
  · exact df_all (c00 CT CS) ⟨rfl, rfl⟩ fun c hc => by obtain ⟨h1, h2⟩ := hc; subst h1 h2; exact p_law_further X
  · exact df_all (c00 CT CS) ⟨rfl, rfl⟩ fun c hc => by obtain ⟨h1, h2⟩ := hc; subst h1 h2; exact p_law_held_fast X
  · exact mt_all (c00 CT CS) ⟨rfl, rfl⟩ fun c hc => by obtain ⟨h1, h2⟩ := hc; subst h1 h2; exact p_finish X
theorem law_end {P : Program} {w : World} {K : PySem.W.Frag} {mg : Str → Option Value} {fa CT CS : Addr} (hfa : mg "law" = some (.ref fa)) (X : ∀ base, Tx ⟨P, w, K, mg, base⟩ CT CS) :
    ∃ fd : FuncData, (∀ (s : Shared) (u : Value), BindsTo s fd ⟨[u], []⟩ [("_law_script", u)]) ∧ ∀ base : Heap, K.In base → base.Ns mainGlobals mg → FnOk P w K mg base CX0 9 fa fd ["_law_script"] (spLaw K) := by
  obtain ⟨f, fd, F, hm, hb⟩ := (X default).r_law
  have hm : mg "law" = some (.ref f) := hm
  rw [hfa] at hm
  injection hm with hm
  injection hm with hm
  subst hm
  have lk : ∀ base, Lkp ⟨P, w, K, mg, base⟩ fa fd := fun base => fun_lkp (b := ⟨P, w, K, mg, base⟩) F
  refine ⟨fd, ?_, fun base _ _ => ?_⟩
  · obtain ⟨oc, od, kV, doc, pm, an, cdv, ct, osl, rfl, _, _⟩ := F.ex
    exact fun s v => .of_eq rfl
  · obtain ⟨f', fd', F', hm', hk', hb', l'⟩ := law_df (X base)
    have hm' : mg "law" = some (.ref f') := hm'
    rw [hfa] at hm'
    injection hm' with hm'
    injection hm' with hm'
    subst hm'
    rw [(lk base).inj l']
    exact F'
theorem law_walk {l : PySem.W.OpenLaw} {q : Program} {loose : List Str} {XP : (Str → Option Value) → Heap → Prop} {YP : World → Heap → Prop} {d : DefRec} {K : Params → PySem.W.Frag} (hn : l.most = some 63) (hdf : d.params.defaults = [])
    (hY : ∀ (w : World) (h : Heap), YP w h → (K w.params).In h)
    (F : ∀ (w : World) (mg : Str → Option Value) (fa : Addr) (h : Heap), (K w.params).In h → h.Ns mainGlobals mg → mg d.name = some (.ref fa) →
      ∃ fd : FuncData, (∀ (s : Shared) (u : Value), BindsTo s fd ⟨[u], []⟩ [("_law_script", u)]) ∧ ∀ base : Heap, (K w.params).In base → base.Ns mainGlobals mg → FnOk l.prog w (K w.params) mg base CX0 9 fa fd ["_law_script"] (spLaw (K w.params))) :
    PySem.W.WalkO q loose XP YP l.row.toRowW d [] (fun f vs => PySem.call f vs) :=
  L2.walk_of (n := 63) (k := 9) (x := "_law_script") (CX := fun _ => CX0) (sp := fun w => spLaw (K w.params)) hn (by decide) hdf ⟨by decide, by decide, by decide⟩ hY F (fun _ _ a ns hl _ hS => ⟨a, ns, rfl, hS, hl, fun _ => rfl⟩) fun _ _ _ _ _ z => z
end Lk
end

open PySem PySem.W PyProof.Rows
set_option maxRecDepth 100000 in
set_option maxHeartbeats 0 in
theorem PySem.Challenge.cw_stuckrows_k12_whole_who_is_stuck_stays_s_holds : PySem.Challenge.rw_stuckrows_k12_whole_who_is_stuck_stays_s.Holds := by
  w_on; o_law; k_head; (case hw => w_witness2)
  k_fill
  refine Lk.law_walk (l := PySem.Challenge.rw_stuckrows_k12_whole_who_is_stuck_stays_s) rfl rfl (fun w h Y => PySem.W.kIn_of Y) ?F
  case F =>
    intro w mg fa h KX G hmg
    refine' Lk.w_raw (x := "fault_of_modes") (qual := "fault_of_modes") (st := Lk.s_fault_of_modes) (ps := Lk.P_fault_of_modes) KX G Lk.bd_fault_of_modes ?qa ?ql ?qc ?qk ?_; (case qa => k_is); (case ql => k_is); (case qc => k_is); (case qk => k_is)
    intro r_fault_of_modes
    refine' Lk.w_raw (x := "require_modes") (qual := "require_modes") (st := Lk.s_require_modes) (ps := Lk.P_require_modes) KX G Lk.bd_require_modes ?qa ?ql ?qc ?qk ?_; (case qa => k_is); (case ql => k_is); (case qc => k_is); (case qk => k_is)
    intro r_require_modes
    refine' Lk.w_raw (x := "_law_ended") (qual := "_law_ended") (st := Lk.s_law_ended) (ps := Lk.P_law_ended) KX G Lk.bd_law_ended ?qa ?ql ?qc ?qk ?_; (case qa => k_is); (case ql => k_is); (case qc => k_is); (case qk => k_is)
    intro r_law_ended
    refine' Lk.w_raw (x := "is_exact") (qual := "is_exact") (st := Lk.s_is_exact) (ps := Lk.P_is_exact) KX G Lk.bd_is_exact ?qa ?ql ?qc ?qk ?_; (case qa => k_is); (case ql => k_is); (case qc => k_is); (case qk => k_is)
    intro r_is_exact
    refine' Lk.w_raw (x := "join") (qual := "join") (st := Lk.s_join) (ps := Lk.P_join) KX G Lk.bd_join ?qa ?ql ?qc ?qk ?_; (case qa => k_is); (case ql => k_is); (case qc => k_is); (case qk => k_is)
    intro r_join
    refine' Lk.w_raw (x := "allows") (qual := "allows") (st := Lk.s_allows) (ps := Lk.P_allows) KX G Lk.bd_allows ?qa ?ql ?qc ?qk ?_; (case qa => k_is); (case ql => k_is); (case qc => k_is); (case qk => k_is)
    intro r_allows
    refine' Lk.w_raw (x := "require_mode") (qual := "require_mode") (st := Lk.s_require_mode) (ps := Lk.P_require_mode) KX G Lk.bd_require_mode ?qa ?ql ?qc ?qk ?_; (case qa => k_is); (case ql => k_is); (case qc => k_is); (case qk => k_is)
    intro r_require_mode
    refine' Lk.w_raw (x := "all_joins") (qual := "all_joins") (st := Lk.s_all_joins) (ps := Lk.P_all_joins) KX G Lk.bd_all_joins ?qa ?ql ?qc ?qk ?_; (case qa => k_is); (case ql => k_is); (case qc => k_is); (case qk => k_is)
    intro r_all_joins
    refine' Lk.w_raw (x := "_law_scene") (qual := "_law_scene") (st := Lk.s_law_scene) (ps := Lk.P_law_scene) KX G Lk.bd_law_scene ?qa ?ql ?qc ?qk ?_; (case qa => k_is); (case ql => k_is); (case qc => k_is); (case qk => k_is)
    intro r_law_scene
    refine' Lk.w_raw (x := "is_integer") (qual := "is_integer") (st := Lk.s_is_integer) (ps := Lk.P_is_integer) KX G Lk.bd_is_integer ?qa ?ql ?qc ?qk ?_; (case qa => k_is); (case ql => k_is); (case qc => k_is); (case qk => k_is)
    intro r_is_integer
    refine' Lk.w_raw (x := "is_name") (qual := "is_name") (st := Lk.s_is_name) (ps := Lk.P_is_name) KX G Lk.bd_is_name ?qa ?ql ?qc ?qk ?_; (case qa => k_is); (case ql => k_is); (case qc => k_is); (case qk => k_is)
    intro r_is_name
    refine' Lk.w_raw (x := "is_owner") (qual := "is_owner") (st := Lk.s_is_owner) (ps := Lk.P_is_owner) KX G Lk.bd_is_owner ?qa ?ql ?qc ?qk ?_; (case qa => k_is); (case ql => k_is); (case qc => k_is); (case qk => k_is)
    intro r_is_owner
    refine' Lk.w_raw (x := "require_owner") (qual := "require_owner") (st := Lk.s_require_owner) (ps := Lk.P_require_owner) KX G Lk.bd_require_owner ?qa ?ql ?qc ?qk ?_; (case qa => k_is); (case ql => k_is); (case qc => k_is); (case qk => k_is)
    intro r_require_owner
    refine' Lk.w_raw (x := "is_item") (qual := "is_item") (st := Lk.s_is_item) (ps := Lk.P_is_item) KX G Lk.bd_is_item ?qa ?ql ?qc ?qk ?_; (case qa => k_is); (case ql => k_is); (case qc => k_is); (case qk => k_is)
    intro r_is_item
    refine' Lk.w_raw (x := "require_item") (qual := "require_item") (st := Lk.s_require_item) (ps := Lk.P_require_item) KX G Lk.bd_require_item ?qa ?ql ?qc ?qk ?_; (case qa => k_is); (case ql => k_is); (case qc => k_is); (case qk => k_is)
    intro r_require_item
    refine' Lk.w_raw (x := "are_joins") (qual := "are_joins") (st := Lk.s_are_joins) (ps := Lk.P_are_joins) KX G Lk.bd_are_joins ?qa ?ql ?qc ?qk ?_; (case qa => k_is); (case ql => k_is); (case qc => k_is); (case qk => k_is)
    intro r_are_joins
    refine' Lk.w_raw (x := "_law_well") (qual := "_law_well") (st := Lk.s_law_well) (ps := Lk.P_law_well) KX G Lk.bd_law_well ?qa ?ql ?qc ?qk ?_; (case qa => k_is); (case ql => k_is); (case qc => k_is); (case qk => k_is)
    intro r_law_well
    refine' Lk.w_raw (x := "_law_draw") (qual := "_law_draw") (st := Lk.s_law_draw) (ps := Lk.P_law_draw) KX G Lk.bd_law_draw ?qa ?ql ?qc ?qk ?_; (case qa => k_is); (case ql => k_is); (case qc => k_is); (case qk => k_is)
    intro r_law_draw
    refine' Lk.w_raw (x := "_law_one") (qual := "_law_one") (st := Lk.s_law_one) (ps := Lk.P_law_one) KX G Lk.bd_law_one ?qa ?ql ?qc ?qk ?_; (case qa => k_is); (case ql => k_is); (case qc => k_is); (case qk => k_is)
    intro r_law_one
    refine' Lk.w_raw (x := "_law_menu") (qual := "_law_menu") (st := Lk.s_law_menu) (ps := Lk.P_law_menu) KX G Lk.bd_law_menu ?qa ?ql ?qc ?qk ?_; (case qa => k_is); (case ql => k_is); (case qc => k_is); (case qk => k_is)
    intro r_law_menu
    refine' Lk.w_raw (x := "_law_freed") (qual := "_law_freed") (st := Lk.s_law_freed) (ps := Lk.P_law_freed) KX G Lk.bd_law_freed ?qa ?ql ?qc ?qk ?_; (case qa => k_is); (case ql => k_is); (case qc => k_is); (case qk => k_is)
    intro r_law_freed
    refine' Lk.w_raw (x := "is_row_of") (qual := "is_row_of") (st := Lk.s_is_row_of) (ps := Lk.P_is_row_of) KX G Lk.bd_is_row_of ?qa ?ql ?qc ?qk ?_; (case qa => k_is); (case ql => k_is); (case qc => k_is); (case qk => k_is)
    intro r_is_row_of
    refine' Lk.w_raw (x := "are_names") (qual := "are_names") (st := Lk.s_are_names) (ps := Lk.P_are_names) KX G Lk.bd_are_names ?qa ?ql ?qc ?qk ?_; (case qa => k_is); (case ql => k_is); (case qc => k_is); (case qk => k_is)
    intro r_are_names
    refine' Lk.w_raw (x := "are_allowed") (qual := "are_allowed") (st := Lk.s_are_allowed) (ps := Lk.P_are_allowed) KX G Lk.bd_are_allowed ?qa ?ql ?qc ?qk ?_; (case qa => k_is); (case ql => k_is); (case qc => k_is); (case qk => k_is)
    intro r_are_allowed
    refine' Lk.w_raw (x := "standard_join") (qual := "standard_join") (st := Lk.s_standard_join) (ps := Lk.P_standard_join) KX G Lk.bd_standard_join ?qa ?ql ?qc ?qk ?_; (case qa => k_is); (case ql => k_is); (case qc => k_is); (case qk => k_is)
    intro r_standard_join
    refine' Lk.w_raw (x := "standard") (qual := "standard") (st := Lk.s_standard) (ps := Lk.P_standard) KX G Lk.bd_standard ?qa ?ql ?qc ?qk ?_; (case qa => k_is); (case ql => k_is); (case qc => k_is); (case qk => k_is)
    intro r_standard
    refine' Lk.w_raw (x := "_law_further") (qual := "_law_further") (st := Lk.s_law_further) (ps := Lk.P_law_further) KX G Lk.bd_law_further ?qa ?ql ?qc ?qk ?_; (case qa => k_is); (case ql => k_is); (case qc => k_is); (case qk => k_is)
    intro r_law_further
    refine' Lk.w_raw (x := "law") (qual := "law") (st := Lk.s_law) (ps := Lk.P_law) KX G Lk.bd_law ?qa ?ql ?qc ?qk ?_; (case qa => k_is); (case ql => k_is); (case qc => k_is); (case qk => k_is)
    intro r_law
    refine' Lk.w_raw (x := "_law_asked") (qual := "_law_asked") (st := Lk.s_law_asked) (ps := Lk.P_law_asked) KX G Lk.bd_law_asked ?qa ?ql ?qc ?qk ?_; (case qa => k_is); (case ql => k_is); (case qc => k_is); (case qk => k_is)
    intro r_law_asked
    refine' Lk.w_raw (x := "waiters_by") (qual := "waiters_by") (st := Lk.s_waiters_by) (ps := Lk.P_waiters_by) KX G Lk.bd_waiters_by ?qa ?ql ?qc ?qk ?_; (case qa => k_is); (case ql => k_is); (case qc => k_is); (case qk => k_is)
    intro r_waiters_by
    refine' Lk.w_raw (x := "_law_step") (qual := "_law_step") (st := Lk.s_law_step) (ps := Lk.P_law_step) KX G Lk.bd_law_step ?qa ?ql ?qc ?qk ?_; (case qa => k_is); (case ql => k_is); (case qc => k_is); (case qk => k_is)
    intro r_law_step
    refine' Lk.w_raw (x := "_law_join") (qual := "_law_join") (st := Lk.s_law_join) (ps := Lk.P_law_join) KX G Lk.bd_law_join ?qa ?ql ?qc ?qk ?_; (case qa => k_is); (case ql => k_is); (case qc => k_is); (case qk => k_is)
    intro r_law_join
    refine' Lk.w_raw (x := "_law_world") (qual := "_law_world") (st := Lk.s_law_world) (ps := Lk.P_law_world) KX G Lk.bd_law_world ?qa ?ql ?qc ?qk ?_; (case qa => k_is); (case ql => k_is); (case qc => k_is); (case qk => k_is)
    intro r_law_world
    refine' Lk.w_raw (x := "_law_lets") (qual := "_law_lets") (st := Lk.s_law_lets) (ps := Lk.P_law_lets) KX G Lk.bd_law_lets ?qa ?ql ?qc ?qk ?_; (case qa => k_is); (case ql => k_is); (case qc => k_is); (case qk => k_is)
    intro r_law_lets
    refine' Lk.w_raw (x := "_law_held_fast") (qual := "_law_held_fast") (st := Lk.s_law_held_fast) (ps := Lk.P_law_held_fast) KX G Lk.bd_law_held_fast ?qa ?ql ?qc ?qk ?_; (case qa => k_is); (case ql => k_is); (case qc => k_is); (case qk => k_is)
    intro r_law_held_fast
    refine' Lk.w_raw (x := "_law_served") (qual := "_law_served") (st := Lk.s_law_served) (ps := Lk.P_law_served) KX G Lk.bd_law_served ?qa ?ql ?qc ?qk ?_; (case qa => k_is); (case ql => k_is); (case qc => k_is); (case qk => k_is)
    intro r_law_served
    refine' Lk.w_raw (x := "_law_given") (qual := "_law_given") (st := Lk.s_law_given) (ps := Lk.P_law_given) KX G Lk.bd_law_given ?qa ?ql ?qc ?qk ?_; (case qa => k_is); (case ql => k_is); (case qc => k_is); (case qk => k_is)
    intro r_law_given
    refine' Lk.w_raw (x := "_law_seen") (qual := "_law_seen") (st := Lk.s_law_seen) (ps := Lk.P_law_seen) KX G Lk.bd_law_seen ?qa ?ql ?qc ?qk ?_; (case qa => k_is); (case ql => k_is); (case qc => k_is); (case qk => k_is)
    intro r_law_seen
    refine' Lk.w_init (x := "LockTable") (qual := "LockTable.__init__") (st := Lk.s_LockTable_init) (ps := Lk.P_LockTable_init) KX G Lk.bd_LockTable_init ?qaC ?qa ?qi ?ql ?qc ?qk ?qmk ?qkc ?qpg ?qhd ?qpo ?qsa ?_; (case qaC => k_is); (case qa => k_is); (case qi => k_is); (case ql => k_is); (case qc => k_is); (case qk => k_is); (case qmk => k_is); (case qkc => k_is); (case qpg => k_is); (case qhd => k_is); (case qpo => k_is); (case qsa => k_is)
    intro r_LockTable_init cls_LockTable
    refine' Lk.w_init (x := "Spot") (qual := "Spot.__init__") (st := Lk.s_Spot_init) (ps := Lk.P_Spot_init) KX G Lk.bd_Spot_init ?qaC ?qa ?qi ?ql ?qc ?qk ?qmk ?qkc ?qpg ?qhd ?qpo ?qsa ?_; (case qaC => k_is); (case qa => k_is); (case qi => k_is); (case ql => k_is); (case qc => k_is); (case qk => k_is); (case qmk => k_is); (case qkc => k_is); (case qpg => k_is); (case qhd => k_is); (case qpo => k_is); (case qsa => k_is)
    intro r_Spot_init cls_Spot
    refine' Lk.w_meth (x := "others_allow") (qual := "LockTable.others_allow") (st := Lk.s_LockTable_others_allow) (ps := Lk.P_LockTable_others_allow) KX G cls_LockTable Lk.bd_LockTable_others_allow ?qa ?qi ?ql ?qc ?qk ?_; (case qa => k_is); (case qi => k_is); (case ql => k_is); (case qc => k_is); (case qk => k_is)
    intro r_LockTable_others_allow
    refine' Lk.w_meth (x := "holders_at") (qual := "LockTable.holders_at") (st := Lk.s_LockTable_holders_at) (ps := Lk.P_LockTable_holders_at) KX G cls_LockTable Lk.bd_LockTable_holders_at ?qa ?qi ?ql ?qc ?qk ?_; (case qa => k_is); (case qi => k_is); (case ql => k_is); (case qc => k_is); (case qk => k_is)
    intro r_LockTable_holders_at
    refine' Lk.w_meth (x := "waiters_at") (qual := "LockTable.waiters_at") (st := Lk.s_LockTable_waiters_at) (ps := Lk.P_LockTable_waiters_at) KX G cls_LockTable Lk.bd_LockTable_waiters_at ?qa ?qi ?ql ?qc ?qk ?_; (case qa => k_is); (case qi => k_is); (case ql => k_is); (case qc => k_is); (case qk => k_is)
    intro r_LockTable_waiters_at
    refine' Lk.w_meth (x := "spot_of") (qual := "LockTable.spot_of") (st := Lk.s_LockTable_spot_of) (ps := Lk.P_LockTable_spot_of) KX G cls_LockTable Lk.bd_LockTable_spot_of ?qa ?qi ?ql ?qc ?qk ?_; (case qa => k_is); (case qi => k_is); (case ql => k_is); (case qc => k_is); (case qk => k_is)
    intro r_LockTable_spot_of
    refine' Lk.w_meth (x := "waits_for") (qual := "LockTable.waits_for") (st := Lk.s_LockTable_waits_for) (ps := Lk.P_LockTable_waits_for) KX G cls_LockTable Lk.bd_LockTable_waits_for ?qa ?qi ?ql ?qc ?qk ?_; (case qa => k_is); (case qi => k_is); (case ql => k_is); (case qc => k_is); (case qk => k_is)
    intro r_LockTable_waits_for
    refine' Lk.w_meth (x := "spot_twin") (qual := "Spot.spot_twin") (st := Lk.s_Spot_spot_twin) (ps := Lk.P_Spot_spot_twin) KX G cls_Spot Lk.bd_Spot_spot_twin ?qa ?qi ?ql ?qc ?qk ?_; (case qa => k_is); (case qi => k_is); (case ql => k_is); (case qc => k_is); (case qk => k_is)
    intro r_Spot_spot_twin
    refine' Lk.w_meth (x := "stuck_among") (qual := "LockTable.stuck_among") (st := Lk.s_LockTable_stuck_among) (ps := Lk.P_LockTable_stuck_among) KX G cls_LockTable Lk.bd_LockTable_stuck_among ?qa ?qi ?ql ?qc ?qk ?_; (case qa => k_is); (case qi => k_is); (case ql => k_is); (case qc => k_is); (case qk => k_is)
    intro r_LockTable_stuck_among
    refine' Lk.w_meth (x := "waits_among") (qual := "LockTable.waits_among") (st := Lk.s_LockTable_waits_among) (ps := Lk.P_LockTable_waits_among) KX G cls_LockTable Lk.bd_LockTable_waits_among ?qa ?qi ?ql ?qc ?qk ?_; (case qa => k_is); (case qi => k_is); (case ql => k_is); (case qc => k_is); (case qk => k_is)
    intro r_LockTable_waits_among
    refine' Lk.w_meth (x := "grant") (qual := "LockTable.grant") (st := Lk.s_LockTable_grant) (ps := Lk.P_LockTable_grant) KX G cls_LockTable Lk.bd_LockTable_grant ?qa ?qi ?ql ?qc ?qk ?_; (case qa => k_is); (case qi => k_is); (case ql => k_is); (case qc => k_is); (case qk => k_is)
    intro r_LockTable_grant
    refine' Lk.w_meth (x := "serve_at") (qual := "LockTable.serve_at") (st := Lk.s_LockTable_serve_at) (ps := Lk.P_LockTable_serve_at) KX G cls_LockTable Lk.bd_LockTable_serve_at ?qa ?qi ?ql ?qc ?qk ?_; (case qa => k_is); (case qi => k_is); (case ql => k_is); (case qc => k_is); (case qk => k_is)
    intro r_LockTable_serve_at
    refine' Lk.w_meth (x := "copied") (qual := "LockTable.copied") (st := Lk.s_LockTable_copied) (ps := Lk.P_LockTable_copied) KX G cls_LockTable Lk.bd_LockTable_copied ?qa ?qi ?ql ?qc ?qk ?_; (case qa => k_is); (case qi => k_is); (case ql => k_is); (case qc => k_is); (case qk => k_is)
    intro r_LockTable_copied
    refine' Lk.w_meth (x := "let_go") (qual := "LockTable.let_go") (st := Lk.s_LockTable_let_go) (ps := Lk.P_LockTable_let_go) KX G cls_LockTable Lk.bd_LockTable_let_go ?qa ?qi ?ql ?qc ?qk ?_; (case qa => k_is); (case qi => k_is); (case ql => k_is); (case qc => k_is); (case qk => k_is)
    intro r_LockTable_let_go
    refine' Lk.w_meth (x := "finish") (qual := "LockTable.finish") (st := Lk.s_LockTable_finish) (ps := Lk.P_LockTable_finish) KX G cls_LockTable Lk.bd_LockTable_finish ?qa ?qi ?ql ?qc ?qk ?_; (case qa => k_is); (case qi => k_is); (case ql => k_is); (case qc => k_is); (case qk => k_is)
    intro r_LockTable_finish
    refine' Lk.w_meth (x := "stuck_owners") (qual := "LockTable.stuck_owners") (st := Lk.s_LockTable_stuck_owners) (ps := Lk.P_LockTable_stuck_owners) KX G cls_LockTable Lk.bd_LockTable_stuck_owners ?qa ?qi ?ql ?qc ?qk ?_; (case qa => k_is); (case qi => k_is); (case ql => k_is); (case qc => k_is); (case qk => k_is)
    intro r_LockTable_stuck_owners
    refine' Lk.w_meth (x := "free_item") (qual := "LockTable.free_item") (st := Lk.s_LockTable_free_item) (ps := Lk.P_LockTable_free_item) KX G cls_LockTable Lk.bd_LockTable_free_item ?qa ?qi ?ql ?qc ?qk ?_; (case qa => k_is); (case qi => k_is); (case ql => k_is); (case qc => k_is); (case qk => k_is)
    intro r_LockTable_free_item
    refine' Lk.w_meth (x := "ask") (qual := "LockTable.ask") (st := Lk.s_LockTable_ask) (ps := Lk.P_LockTable_ask) KX G cls_LockTable Lk.bd_LockTable_ask ?qa ?qi ?ql ?qc ?qk ?_; (case qa => k_is); (case qi => k_is); (case ql => k_is); (case qc => k_is); (case qk => k_is)
    intro r_LockTable_ask
    refine' Lk.w_meth (x := "ask_of") (qual := "LockTable.ask_of") (st := Lk.s_LockTable_ask_of) (ps := Lk.P_LockTable_ask_of) KX G cls_LockTable Lk.bd_LockTable_ask_of ?qa ?qi ?ql ?qc ?qk ?_; (case qa => k_is); (case qi => k_is); (case ql => k_is); (case qc => k_is); (case qk => k_is)
    intro r_LockTable_ask_of
    refine' Lk.w_meth (x := "holds_of") (qual := "LockTable.holds_of") (st := Lk.s_LockTable_holds_of) (ps := Lk.P_LockTable_holds_of) KX G cls_LockTable Lk.bd_LockTable_holds_of ?qa ?qi ?ql ?qc ?qk ?_; (case qa => k_is); (case qi => k_is); (case ql => k_is); (case qc => k_is); (case qk => k_is)
    intro r_LockTable_holds_of
    refine' Lk.w_noattr (x := "modes") KX cls_LockTable ?qa ?_; (case qa => k_is)
    intro na_LockTable_modes
    refine' Lk.w_noattr (x := "spots") KX cls_LockTable ?qa ?_; (case qa => k_is)
    intro na_LockTable_spots
    refine' Lk.w_noattr (x := "items_by_owner") KX cls_LockTable ?qa ?_; (case qa => k_is)
    intro na_LockTable_items_by_owner
    refine' Lk.w_noattr (x := "asks") KX cls_LockTable ?qa ?_; (case qa => k_is)
    intro na_LockTable_asks
    refine' Lk.w_noattr (x := "modes_by_owner") KX cls_Spot ?qa ?_; (case qa => k_is)
    intro na_Spot_modes_by_owner
    refine' Lk.w_noattr (x := "conversions") KX cls_Spot ?qa ?_; (case qa => k_is)
    intro na_Spot_conversions
    refine' Lk.w_noattr (x := "queue") KX cls_Spot ?qa ?_; (case qa => k_is)
    intro na_Spot_queue
    refine' Lk.w_none (x := "len") KX G ?qa ?_; (case qa => k_is)
    intro z_len
    refine' Lk.w_none (x := "int") KX G ?qa ?_; (case qa => k_is)
    intro z_int
    refine' Lk.w_none (x := "all") KX G ?qa ?_; (case qa => k_is)
    intro z_all
    refine' Lk.w_none (x := "isinstance") KX G ?qa ?_; (case qa => k_is)
    intro z_isinstance
    refine' Lk.w_none (x := "list") KX G ?qa ?_; (case qa => k_is)
    intro z_list
    refine' Lk.w_none (x := "tuple") KX G ?qa ?_; (case qa => k_is)
    intro z_tuple
    refine' Lk.w_none (x := "dict") KX G ?qa ?_; (case qa => k_is)
    intro z_dict
    refine' Lk.w_none (x := "sorted") KX G ?qa ?_; (case qa => k_is)
    intro z_sorted
    refine' Lk.w_none (x := "set") KX G ?qa ?_; (case qa => k_is)
    intro z_set
    refine' Lk.w_none (x := "enumerate") KX G ?qa ?_; (case qa => k_is)
    intro z_enumerate
    refine' Lk.w_none (x := "range") KX G ?qa ?_; (case qa => k_is)
    intro z_range
    refine' Lk.w_none (x := "str") KX G ?qa ?_; (case qa => k_is)
    intro z_str
    refine' Lk.w_none (x := "bool") KX G ?qa ?_; (case qa => k_is)
    intro z_bool
    refine' Lk.w_val (x := "MAX_LETTERS") KX G ?qa ?_; (case qa => k_is)
    intro v_MAX_LETTERS
    refine' Lk.w_val (x := "MAX_MODES") KX G ?qa ?_; (case qa => k_is)
    intro v_MAX_MODES
    refine' Lk.w_val (x := "LETTERS") KX G ?qa ?_; (case qa => k_is)
    intro v_LETTERS
    refine' Lk.w_val (x := "STANDARD_NAMES") KX G ?qa ?_; (case qa => k_is)
    intro v_STANDARD_NAMES
    refine' Lk.w_val (x := "STANDARD_TOGETHER") KX G ?qa ?_; (case qa => k_is)
    intro v_STANDARD_TOGETHER
    refine' Lk.w_val (x := "STANDARD_ABOVE") KX G ?qa ?_; (case qa => k_is)
    intro v_STANDARD_ABOVE
    refine' Lk.w_tup (xs := (["is", "ix", "s", "u", "six", "x"] : List Str).map L2.V.str) KX v_STANDARD_NAMES ?ql ?qhc ?qhd ?qhz ?qhv ?_; (case ql => k_is); (case qhc => exact rfl); (case qhd => exact rfl); (case qhz => exact Nat.le_of_ble_eq_true rfl); (case qhv => exact .cons ⟨_, rfl⟩ (.cons ⟨_, rfl⟩ (.cons ⟨_, rfl⟩ (.cons ⟨_, rfl⟩ (.cons ⟨_, rfl⟩ (.cons ⟨_, rfl⟩ .nil))))))
    intro sq_names
    refine' Lk.w_dict (w := w) KX v_STANDARD_TOGETHER ?ql ?qhk ?_; (case ql => k_is); (case qhk => exact ⟨⟨_, _, rfl, rfl⟩, ⟨⟨_, _, rfl, rfl⟩, ⟨⟨_, _, rfl, rfl⟩, ⟨⟨_, _, rfl, rfl⟩, ⟨⟨_, _, rfl, rfl⟩, ⟨⟨_, _, rfl, rfl⟩, True.intro⟩⟩⟩⟩⟩⟩)
    intro d_STANDARD_TOGETHER
    refine' Lk.w_ent (x := "is") KX ?qa d_STANDARD_TOGETHER ?_; (case qa => k_is)
    intro e_t_is
    refine' Lk.w_tupE (xs := (["is", "ix", "s", "u", "six"] : List Str).map L2.V.str) e_t_is ?ql ?qhc ?qhd ?qhz ?qhv ?_; (case ql => k_is); (case qhc => exact rfl); (case qhd => exact rfl); (case qhz => exact Nat.le_of_ble_eq_true rfl); (case qhv => exact .cons ⟨_, rfl⟩ (.cons ⟨_, rfl⟩ (.cons ⟨_, rfl⟩ (.cons ⟨_, rfl⟩ (.cons ⟨_, rfl⟩ .nil)))))
    intro s_t_is
    refine' Lk.w_ent (x := "ix") KX ?qa d_STANDARD_TOGETHER ?_; (case qa => k_is)
    intro e_t_ix
    refine' Lk.w_tupE (xs := (["is", "ix"] : List Str).map L2.V.str) e_t_ix ?ql ?qhc ?qhd ?qhz ?qhv ?_; (case ql => k_is); (case qhc => exact rfl); (case qhd => exact rfl); (case qhz => exact Nat.le_of_ble_eq_true rfl); (case qhv => exact .cons ⟨_, rfl⟩ (.cons ⟨_, rfl⟩ .nil))
    intro s_t_ix
    refine' Lk.w_ent (x := "s") KX ?qa d_STANDARD_TOGETHER ?_; (case qa => k_is)
    intro e_t_s
    refine' Lk.w_tupE (xs := (["is", "s", "u"] : List Str).map L2.V.str) e_t_s ?ql ?qhc ?qhd ?qhz ?qhv ?_; (case ql => k_is); (case qhc => exact rfl); (case qhd => exact rfl); (case qhz => exact Nat.le_of_ble_eq_true rfl); (case qhv => exact .cons ⟨_, rfl⟩ (.cons ⟨_, rfl⟩ (.cons ⟨_, rfl⟩ .nil)))
    intro s_t_s
    refine' Lk.w_ent (x := "u") KX ?qa d_STANDARD_TOGETHER ?_; (case qa => k_is)
    intro e_t_u
    refine' Lk.w_tupE (xs := (["is", "s"] : List Str).map L2.V.str) e_t_u ?ql ?qhc ?qhd ?qhz ?qhv ?_; (case ql => k_is); (case qhc => exact rfl); (case qhd => exact rfl); (case qhz => exact Nat.le_of_ble_eq_true rfl); (case qhv => exact .cons ⟨_, rfl⟩ (.cons ⟨_, rfl⟩ .nil))
    intro s_t_u
    refine' Lk.w_ent (x := "six") KX ?qa d_STANDARD_TOGETHER ?_; (case qa => k_is)
    intro e_t_six
    refine' Lk.w_tupE (xs := (["is"] : List Str).map L2.V.str) e_t_six ?ql ?qhc ?qhd ?qhz ?qhv ?_; (case ql => k_is); (case qhc => exact rfl); (case qhd => exact rfl); (case qhz => exact Nat.le_of_ble_eq_true rfl); (case qhv => exact .cons ⟨_, rfl⟩ .nil)
    intro s_t_six
    refine' Lk.w_ent (x := "x") KX ?qa d_STANDARD_TOGETHER ?_; (case qa => k_is)
    intro e_t_x
    refine' Lk.w_tupE (xs := ([] : List Str).map L2.V.str) e_t_x ?ql ?qhc ?qhd ?qhz ?qhv ?_; (case ql => k_is); (case qhc => exact rfl); (case qhd => exact rfl); (case qhz => exact Nat.le_of_ble_eq_true rfl); (case qhv => exact .nil)
    intro s_t_x
    refine' Lk.w_dict (w := w) KX v_STANDARD_ABOVE ?ql ?qhk ?_; (case ql => k_is); (case qhk => exact ⟨⟨_, _, rfl, rfl⟩, ⟨⟨_, _, rfl, rfl⟩, ⟨⟨_, _, rfl, rfl⟩, ⟨⟨_, _, rfl, rfl⟩, ⟨⟨_, _, rfl, rfl⟩, True.intro⟩⟩⟩⟩⟩)
    intro d_STANDARD_ABOVE
    refine' Lk.w_ent (x := "is") KX ?qa d_STANDARD_ABOVE ?_; (case qa => k_is)
    intro e_b_is
    refine' Lk.w_tupE (xs := ([] : List Str).map L2.V.str) e_b_is ?ql ?qhc ?qhd ?qhz ?qhv ?_; (case ql => k_is); (case qhc => exact rfl); (case qhd => exact rfl); (case qhz => exact Nat.le_of_ble_eq_true rfl); (case qhv => exact .nil)
    intro s_b_is
    refine' Lk.w_ent (x := "ix") KX ?qa d_STANDARD_ABOVE ?_; (case qa => k_is)
    intro e_b_ix
    refine' Lk.w_tupE (xs := (["is"] : List Str).map L2.V.str) e_b_ix ?ql ?qhc ?qhd ?qhz ?qhv ?_; (case ql => k_is); (case qhc => exact rfl); (case qhd => exact rfl); (case qhz => exact Nat.le_of_ble_eq_true rfl); (case qhv => exact .cons ⟨_, rfl⟩ .nil)
    intro s_b_ix
    refine' Lk.w_ent (x := "s") KX ?qa d_STANDARD_ABOVE ?_; (case qa => k_is)
    intro e_b_s
    refine' Lk.w_tupE (xs := (["is"] : List Str).map L2.V.str) e_b_s ?ql ?qhc ?qhd ?qhz ?qhv ?_; (case ql => k_is); (case qhc => exact rfl); (case qhd => exact rfl); (case qhz => exact Nat.le_of_ble_eq_true rfl); (case qhv => exact .cons ⟨_, rfl⟩ .nil)
    intro s_b_s
    refine' Lk.w_ent (x := "u") KX ?qa d_STANDARD_ABOVE ?_; (case qa => k_is)
    intro e_b_u
    refine' Lk.w_tupE (xs := (["is", "s"] : List Str).map L2.V.str) e_b_u ?ql ?qhc ?qhd ?qhz ?qhv ?_; (case ql => k_is); (case qhc => exact rfl); (case qhd => exact rfl); (case qhz => exact Nat.le_of_ble_eq_true rfl); (case qhv => exact .cons ⟨_, rfl⟩ (.cons ⟨_, rfl⟩ .nil))
    intro s_b_u
    refine' Lk.w_ent (x := "six") KX ?qa d_STANDARD_ABOVE ?_; (case qa => k_is)
    intro e_b_six
    refine' Lk.w_tupE (xs := (["is", "ix", "s", "u"] : List Str).map L2.V.str) e_b_six ?ql ?qhc ?qhd ?qhz ?qhv ?_; (case ql => k_is); (case qhc => exact rfl); (case qhd => exact rfl); (case qhz => exact Nat.le_of_ble_eq_true rfl); (case qhv => exact .cons ⟨_, rfl⟩ (.cons ⟨_, rfl⟩ (.cons ⟨_, rfl⟩ (.cons ⟨_, rfl⟩ .nil))))
    intro s_b_six
    exact Lk.law_end hmg fun base => ⟨r_fault_of_modes, r_require_modes, r_law_ended, r_is_exact, r_join, r_allows, r_require_mode, r_all_joins, r_law_scene, r_is_integer, r_is_name, r_is_owner, r_require_owner, r_is_item, r_require_item, r_are_joins, r_law_well, r_law_draw, r_law_one, r_law_menu, r_law_freed, r_is_row_of, r_are_names, r_are_allowed, r_standard_join, r_standard, r_law_further, r_law, r_law_asked, r_waiters_by, r_law_step, r_law_join, r_law_world, r_law_lets, r_law_held_fast, r_law_served, r_law_given, r_law_seen, r_LockTable_others_allow, r_LockTable_holders_at, r_LockTable_waiters_at, r_LockTable_spot_of, r_LockTable_waits_for, r_Spot_spot_twin, r_LockTable_stuck_among, r_LockTable_waits_among, r_LockTable_grant, r_LockTable_serve_at, r_LockTable_copied, r_LockTable_let_go, r_LockTable_finish, r_LockTable_stuck_owners, r_LockTable_free_item, r_LockTable_ask, r_LockTable_ask_of, r_LockTable_holds_of, r_LockTable_init, r_Spot_init, cls_LockTable, cls_Spot, (Lk.all_cons na_LockTable_modes (Lk.all_cons na_LockTable_spots (Lk.all_cons na_LockTable_items_by_owner (Lk.all_cons na_LockTable_asks Lk.all_nil)))), (Lk.all_cons na_Spot_modes_by_owner (Lk.all_cons na_Spot_conversions (Lk.all_cons na_Spot_queue Lk.all_nil))), ⟨z_len, z_int, z_all, z_isinstance, z_list, z_tuple, z_dict, z_sorted, z_set, z_enumerate, z_range, z_str, z_bool, ⟨_, v_MAX_LETTERS⟩, ⟨_, v_MAX_MODES⟩, ⟨_, v_STANDARD_NAMES, sq_names⟩, ⟨_, v_STANDARD_TOGETHER, (Lk.all_cons ⟨_, e_t_is, s_t_is⟩ (Lk.all_cons ⟨_, e_t_ix, s_t_ix⟩ (Lk.all_cons ⟨_, e_t_s, s_t_s⟩ (Lk.all_cons ⟨_, e_t_u, s_t_u⟩ (Lk.all_cons ⟨_, e_t_six, s_t_six⟩ (Lk.all_cons ⟨_, e_t_x, s_t_x⟩ Lk.all_nil))))))⟩, ⟨_, v_STANDARD_ABOVE, (Lk.all_cons ⟨_, e_b_is, s_b_is⟩ (Lk.all_cons ⟨_, e_b_ix, s_b_ix⟩ (Lk.all_cons ⟨_, e_b_s, s_b_s⟩ (Lk.all_cons ⟨_, e_b_u, s_b_u⟩ (Lk.all_cons ⟨_, e_b_six, s_b_six⟩ Lk.all_nil)))))⟩, ⟨_, v_LETTERS⟩⟩⟩
#print axioms PySem.Challenge.cw_stuckrows_k12_whole_who_is_stuck_stays_s_holds

