import PyProof.Rows.All
import Wide.All
import OpenK.AllK
import Wide.FinOn
import KE.KeyNested
import KE.KDictKeyed
import PyProof.DictMoreH
import KE.KStateDown
import HandS.ForMost
import HandS.Exc
import HandS.IsInst
import HandS.Wide
import HandS.Defaults
import HandS.HeadHook1
import HandS.TupAny
import HandS.TupMul
import HandS.Deep
import HandS.Flow
import HandS.ReCall
import HandS.Style
import HandS.NoneIn
import HandS.Zip
import HandS.Codes
import HandS.RaiseMore
import HandS.Words
import HandS.SortInts
import HandS.More
import HandS.Text
import KE.KDictCopyH
import HandS.DictComp
import HandS.SetBool
import HandS.SetKeys
import HandS.Head0
import HandS.Head1
import HandS.Head2
import HandS.HeadEnd
import HandS.HeadHook2
import PyProof.Rows.TupDisplay
import HandS.TupLe
import PySem.Challenge.RW_wellpanes_k93_whole_edges_as_pictures
set_option Elab.async false
set_option linter.all false
set_option maxRecDepth 100000
set_option maxHeartbeats 2000000
/-! ZD: dicts whose keys are numbers, texts, None, tuples of them, nested, in any mix. -/
namespace ZD
open PySem

abbrev Ent := NestedKey × Value × Value
def IsN (h : Heap) (k : NestedKey) (v : Value) : Prop := NestedIs h k v ∧ k.depth ≤ 8
def entN (w : World) (x : Ent) : DictEntry := ⟨x.1.hash w, x.2.1, x.2.2⟩
def DictN (w : World) (h : Heap) (d : Addr) (xs : List Ent) : Prop :=
  ∃ o es ep, h.get? d = some o ∧ o.ExactDict ∧ o.data = .dict es ep ∧ es.toList = xs.map (entN w) ∧ (∀ x ∈ xs, IsN h x.1 x.2.1) ∧ (xs.map (·.1)).Nodup
/-- the value under a key -/
def getN (xs : List Ent) (k : NestedKey) : Option Value := (xs.find? fun x => decide (x.1 = k)).map (·.2.2)
/-- a value stored under a key: in its place, the key that stands there stays; or behind all -/
def putN (xs : List Ent) (k : NestedKey) (a v : Value) : List Ent :=
  if (getN xs k).isSome then xs.map (fun x => if x.1 = k then (x.1, x.2.1, v) else x) else xs ++ [(k, a, v)]

section
variable {prog : Program} {w : World} {A : Around} {E : Value → Shared → Prop} {s : Shared} {d : Addr} {xs : List Ent} {k : NestedKey} {key : Value}

theorem IsN.keep {h h' : Heap} {k : NestedKey} {v : Value} (x : IsN h k v) (hk : ∀ b o vs n, h.get? b = some o → o.data = .seq vs n → h'.get? b = some o) : IsN h' k v :=
  ⟨NestedIs.at hk k v x.1, x.2⟩
theorem DictN.typeIs (hm : DictN w s.heap d xs) : s.TypeIs (.ref d) "dict" := let ⟨o, _, _, ho, hc, _⟩ := hm; ⟨o, ho, hc.1⟩

/-- none stands under k, or the one at j -/
theorem getN_none (hn : ∀ (j : Nat) (p : Value × Value), xs[j]? ≠ some (k, p)) : getN xs k = none := by
  have e : xs.find? (fun x => decide (x.1 = k)) = none := List.find?_eq_none.mpr fun x hx q => by
    obtain ⟨j, hj⟩ := List.mem_iff_getElem?.mp hx
    exact hn j x.2 (by rw [hj, ← of_decide_eq_true q])
  unfold getN
  rw [e]
  rfl
theorem getN_at (hd : (xs.map (·.1)).Nodup) {j : Nat} {p : Value × Value} (hj : xs[j]? = some (k, p)) : getN xs k = some p.2 := by
  induction xs generalizing j with
  | nil => cases hj
  | cons x r ih =>
    rw [List.map_cons, List.nodup_cons] at hd
    cases j with
    | zero =>
      have e : x = (k, p) := Option.some.inj hj
      subst e
      simp [getN]
    | succ j =>
      have hj' : r[j]? = some (k, p) := hj
      have ne : ¬ x.1 = k := fun e => hd.1 (List.mem_map.mpr ⟨_, List.mem_of_getElem? hj', e.symm⟩)
      have e := ih hd.2 hj'
      unfold getN at e ⊢
      rw [List.find?_cons, decide_eq_false ne]
      exact e
theorem mem_of_getN {v : Value} (h : getN xs k = some v) : ∃ a, (k, a, v) ∈ xs := by
  unfold getN at h
  obtain ⟨x, hx, hv⟩ := Option.map_eq_some_iff.mp h
  have h1 := List.mem_of_find?_eq_some hx
  have h2 : x.1 = k := by simpa using List.find?_some hx
  refine ⟨x.2.1, ?_⟩
  have e : x = (k, x.2.1, v) := by rw [← h2, ← hv]
  rw [← e]
  exact h1
theorem not_mem_of_getN (h : getN xs k = none) : k ∉ xs.map (·.1) := fun hm => by
  obtain ⟨x, hx, e⟩ := List.mem_map.mp hm
  unfold getN at h
  have q := List.find?_eq_none.mp (Option.map_eq_none_iff.mp h) x hx
  exact q (decide_eq_true e)
theorem putN_keys (a v : Value) : (putN xs k a v).map (·.1) = if (getN xs k).isSome then xs.map (·.1) else xs.map (·.1) ++ [k] := by
  unfold putN
  split
  · rw [List.map_map]
    refine List.map_congr_left fun x _ => ?_
    show (if x.1 = k then (x.1, x.2.1, v) else x).1 = x.1
    split <;> rfl
  · rw [List.map_append]; rfl
theorem putN_nodup (hd : (xs.map (·.1)).Nodup) (a v : Value) : ((putN xs k a v).map (·.1)).Nodup := by
  rw [putN_keys]
  cases e : getN xs k with
  | some _ => simpa using hd
  | none =>
    have n := not_mem_of_getN e
    show (xs.map (·.1) ++ [k]).Nodup
    rw [List.nodup_append]
    refine ⟨hd, by simp, fun x hx y hy q => n ?_⟩
    have e2 : y = k := by simpa using hy
    rw [← e2, ← q]
    exact hx
theorem putN_len (a v : Value) : (putN xs k a v).length ≤ xs.length + 1 := by
  unfold putN
  split <;> simp

/-- what the loop over the places knows: none met that has the key, all that have it are ahead; or the one met -/
def Seen (xs : List Ent) (k : NestedKey) (rest : List Nat) (hit : Option Nat) : Prop :=
  (hit = none ∧ ∀ (j : Nat) (p : Value × Value), xs[j]? = some (k, p) → j ∈ rest) ∨ ∃ (j : Nat) (p : Value × Value), hit = some j ∧ xs[j]? = some (k, p) ∧ j ∉ rest
theorem nodup_ix (hd : (xs.map (·.1)).Nodup) {i j : Nat} {p q : Value × Value} (h1 : xs[i]? = some (k, p)) (h2 : xs[j]? = some (k, q)) : i = j := by
  have e1 : (xs.map (·.1))[i]? = some k := by rw [List.getElem?_map, h1]; rfl
  have e2 : (xs.map (·.1))[j]? = some k := by rw [List.getElem?_map, h2]; rfl
  exact (List.getElem?_inj (List.getElem?_eq_some_iff.mp e1).1 hd).mp (e1.trans e2.symm)

theorem find_ok {o : Obj} {es : Array DictEntry} {ep : Nat} {Q : Option Nat → Shared → Prop} (hu : A.units + 8 < cLine) (hk : IsN s.heap k key)
    (ho : s.heap.get? d = some o) (hd : o.data = .dict es ep) (he : es.toList = xs.map (entN w)) (his : ∀ x ∈ xs, IsN s.heap x.1 x.2.1) (hn : (xs.map (·.1)).Nodup)
    (h0 : (∀ (j : Nat) (p : Value × Value), xs[j]? ≠ some (k, p)) → Q none s) (h1 : ∀ (j : Nat) (p : Value × Value), xs[j]? = some (k, p) → Q (some j) s) :
    wpAny (model prog w) A (dictFind d key (k.hash w)) Q E s := by
  have hat : ∀ j : Nat, es[j]? = (xs[j]?).map (entN w) := fun j => by rw [← Array.getElem?_toList, he, List.getElem?_map]
  have hsz : es.size = xs.length := by rw [← Array.length_toList, he, List.length_map]
  have heq : ∀ (x : Ent), x ∈ xs → SeqAt.EqAt A s x.2.1 key (decide (x.1 = k)) := fun x hx => by
    have q := eqAt_key x.1 k A s x.2.1 key (his x hx).1 hk.1 (by have := hk.2; omega)
    rw [NestedKey.decide_eq]
    exact q
  -- the places that have the key's hash
  have hpl : ∀ (j : Nat) (p : Value × Value), xs[j]? = some (k, p) → j ∈ placesWithHash es.size (fun i => es[i]?.map (·.hash)) (k.hash w) := fun j p hj => by
    have hl := (List.getElem?_eq_some_iff.mp hj).1
    unfold placesWithHash
    rw [List.mem_filter, List.mem_range]
    refine ⟨by rw [hsz]; exact hl, ?_⟩
    show ((es[j]?.map (·.hash)) == some (k.hash w)) = true
    rw [hat j, hj]
    simp [entN]
  have hplt : ∀ j, j ∈ placesWithHash es.size (fun i => es[i]?.map (·.hash)) (k.hash w) → j < xs.length := fun j hj => by
    unfold placesWithHash at hj
    rw [List.mem_filter, List.mem_range] at hj
    rw [← hsz]; exact hj.1
  have hplh : ∀ j, j ∈ placesWithHash es.size (fun i => es[i]?.map (·.hash)) (k.hash w) → ((es[j]?.map (·.hash)) == some (k.hash w)) = true := fun j hj => by
    unfold placesWithHash at hj
    rw [List.mem_filter] at hj
    exact hj.2
  have hpn : (placesWithHash es.size (fun i => es[i]?.map (·.hash)) (k.hash w)).Nodup := by
    unfold placesWithHash
    exact List.Nodup.sublist List.filter_sublist List.nodup_range
  generalize hpe : placesWithHash es.size (fun i => es[i]?.map (·.hash)) (k.hash w) = pl at hpl hplt hplh hpn
  -- a plain walk
  have walk : wpAny (model prog w) A (dictWalkPlain d key (k.hash w) es pl) Q E s := by
    unfold dictWalkPlain
    refine wpAny_bind ?_
    refine wpAny_forIn_list _ (fun rest b s' => s' = s ∧ b = (none, ()) ∧ (∀ j ∈ rest, j ∈ pl) ∧ rest.Nodup ∧ ∀ (j : Nat) (p : Value × Value), xs[j]? = some (k, p) → j ∈ rest) _ ?_ ?_ _ _ ⟨rfl, rfl, fun _ h => h, hpn, hpl⟩
    · rintro x rest b s' ⟨e1, e2, hsub, hnd, hall⟩
      subst e1 e2
      have hx := hplt x (hsub x List.mem_cons_self)
      have hxx : xs[x]? = some xs[x] := List.getElem?_eq_getElem hx
      have hm : xs[x] ∈ xs := List.getElem_mem hx
      have hr : ∀ j ∈ rest, j ∈ pl := fun j hj => hsub j (List.mem_cons_of_mem _ hj)
      rw [List.nodup_cons] at hnd
      have hee : es[x]? = some (entN w xs[x]) := by rw [hat x, hxx]; rfl
      have hh := hplh x (hsub x List.mem_cons_self)
      rw [hee] at hh
      rw [hee]
      have hh2 : ((entN w xs[x]).hash == k.hash w) = true := by simpa using hh
      dsimp only
      rw [if_pos hh2]
      refine wpAny_bind (wpAny_dictEpoch ho hd (wpAny_bind (heq _ hm prog w E _ (wpAny_bind (wpAny_dictEpoch ho hd ?_)))))
      show wpAny _ _ (if (ep != ep) = true then _ else _) _ E _
      rw [if_neg (by simp)]
      by_cases hkk : xs[x].1 = k
      · rw [decide_eq_true hkk]
        exact wpAny_bind (wpAny_rule (wpAny_pure (wpAny_pure (h1 x xs[x].2 (by rw [hxx, ← hkk])))))
      · rw [decide_eq_false hkk]
        refine wpAny_bind (wpAny_rule (wpAny_pure ⟨rfl, rfl, hr, hnd.2, fun j p hj => ?_⟩))
        rcases List.mem_cons.mp (hall j p hj) with e | e
        · subst e
          rw [hxx] at hj
          exact absurd (congrArg (·.1) (Option.some.inj hj)) hkk
        · exact e
    · rintro b s' ⟨e1, e2, _, _, hall⟩
      subst e1 e2
      exact wpAny_pure (h0 fun j p hj => by cases hall j p hj)
  have hmem : ∀ e ∈ es, ∃ x ∈ xs, e = entN w x := fun e hin => by
    have q : e ∈ xs.map (entN w) := by rw [← he]; exact Array.mem_toList_iff.mpr hin
    obtain ⟨x, hx, rfl⟩ := List.mem_map.mp q
    exact ⟨x, hx, rfl⟩
  have quiet : ∀ (v : Value) (k' : NestedKey), IsN s.heap k' v → QuietAt prog w 8 s v := fun v k' q => quiet_key k' v 8 s q.1 q.2
  have many : wpAny (model prog w) A (do
      if (key :: pl.filterMap fun i => es[i]?.map (·.key)).all carriedByValue then return ← dictWalkPlain d key (k.hash w) es pl
      if let .ref _ := key then
        if es.any fun e => e.key == key && e.hash != k.hash w then unsupported "dict.find:a-stored-key-whose-hash-has-changed"
      let tells ← if (pl.filterMap fun i => es[i]?.map (·.key)) == [key] then pure false else tableMayTell key (pl.filterMap fun i => es[i]?.map (·.key))
      if tells && (pl.filterMap fun i => es[i]?.map (·.key)).length ≥ 2 then unsupported "dict.find:order-among-keys-of-one-hash"
      let mut hit : Option Nat := none
      for i in pl do
        if let some e := es[i]? then
          if e.hash == k.hash w then
            let before ← dictEpoch d (keyPart key)
            let same ← eqBool e.key key
            if (← dictEpoch d (keyPart key)) != before then unsupported "dict.changed-during-lookup"
            if same then
              if hit.isSome then unsupported "dict.find:order-among-keys-of-one-hash"
              rule "dict.find.hit"
              if (pl.filterMap fun i => es[i]?.map (·.key)).length < 2 then return some i
              hit := some i
            else
              rule "dict.find.same-hash-other-key"
              if tells && !(0 ≤ k.hash w && k.hash w < 32) then unsupported "dict.find:asked-again-or-not-hangs-on-the-table"
      return hit) Q E s := by
    have hst : ∀ v ∈ pl.filterMap (fun i => es[i]?.map (·.key)), QuietAt prog w 8 s v := fun v hv => by
      obtain ⟨i, _, hi⟩ := List.mem_filterMap.mp hv
      obtain ⟨e, hei, rfl⟩ := Option.map_eq_some_iff.mp hi
      obtain ⟨x, hx, rfl⟩ := hmem e (Array.mem_of_getElem? hei)
      exact quiet _ x.1 (his x hx)
    generalize hss : pl.filterMap (fun i => es[i]?.map (·.key)) = ss at hst
    by_cases hall : (key :: ss).all carriedByValue = true
    · rw [if_pos hall]
      exact walk
    · rw [if_neg hall]
      have hch : ¬ (es.any fun e => e.key == key && e.hash != k.hash w) = true := fun hc => by
        obtain ⟨i, hi, hc⟩ := Array.any_eq_true.mp hc
        obtain ⟨x, hx, ex⟩ := hmem es[i] (Array.getElem_mem hi)
        rw [ex] at hc
        simp only [entN, Bool.and_eq_true, beq_iff_eq, bne_iff_ne, ne_eq] at hc
        have q := (his x hx).1
        rw [hc.1] at q
        exact hc.2 (by rw [NestedIs.inj _ _ _ q hk.1])
      -- the rest, told by what the table may tell: false
      have loop : wpAny (model prog w) A (do
          if false && ss.length ≥ 2 then unsupported "dict.find:order-among-keys-of-one-hash"
          let mut hit : Option Nat := none
          for i in pl do
            if let some e := es[i]? then
              if e.hash == k.hash w then
                let before ← dictEpoch d (keyPart key)
                let same ← eqBool e.key key
                if (← dictEpoch d (keyPart key)) != before then unsupported "dict.changed-during-lookup"
                if same then
                  if hit.isSome then unsupported "dict.find:order-among-keys-of-one-hash"
                  rule "dict.find.hit"
                  if ss.length < 2 then return some i
                  hit := some i
                else
                  rule "dict.find.same-hash-other-key"
                  if false && !(0 ≤ k.hash w && k.hash w < 32) then unsupported "dict.find:asked-again-or-not-hangs-on-the-table"
          return hit) Q E s := by
        rw [if_neg (by simp)]
        refine wpAny_bind ?_
        refine wpAny_forIn_list _ (fun rest b s' => s' = s ∧ b.1 = none ∧ (∀ j ∈ rest, j ∈ pl) ∧ rest.Nodup ∧ Seen xs k rest b.2) _ ?_ ?_ _ _ ⟨rfl, rfl, fun _ h => h, hpn, .inl ⟨rfl, hpl⟩⟩
        · rintro x rest ⟨b1, hit⟩ s' ⟨e1, e2, hsub, hnd, hS⟩
          subst e1
          have e2' : b1 = none := e2
          subst e2'
          have hx := hplt x (hsub x List.mem_cons_self)
          have hxx : xs[x]? = some xs[x] := List.getElem?_eq_getElem hx
          have hm : xs[x] ∈ xs := List.getElem_mem hx
          have hr : ∀ j ∈ rest, j ∈ pl := fun j hj => hsub j (List.mem_cons_of_mem _ hj)
          rw [List.nodup_cons] at hnd
          have hee : es[x]? = some (entN w xs[x]) := by rw [hat x, hxx]; rfl
          have hh := hplh x (hsub x List.mem_cons_self)
          rw [hee] at hh
          rw [hee]
          have hh2 : ((entN w xs[x]).hash == k.hash w) = true := by simpa using hh
          dsimp only
          rw [if_pos hh2]
          refine wpAny_bind (wpAny_dictEpoch ho hd (wpAny_bind (heq _ hm prog w E _ (wpAny_bind (wpAny_dictEpoch ho hd ?_)))))
          show wpAny _ _ (if (ep != ep) = true then _ else _) _ E _
          rw [if_neg (by simp)]
          by_cases hkk : xs[x].1 = k
          · rw [decide_eq_true hkk]
            have hxk : xs[x]? = some (k, xs[x].2) := by rw [hxx, ← hkk]
            rcases hS with ⟨rfl, hall⟩ | ⟨j, p, rfl, hj, hno⟩
            · simp only [Option.isSome_none, Bool.false_eq_true, if_false, if_true]
              refine wpAny_bind (wpAny_rule ?_)
              split
              · exact wpAny_pure (wpAny_pure (h1 x _ hxk))
              · exact wpAny_pure ⟨rfl, rfl, hr, hnd.2, .inr ⟨x, _, rfl, hxk, hnd.1⟩⟩
            · have e := nodup_ix hn hj hxk
              exact absurd (by rw [e]; exact List.mem_cons_self) hno
          · rw [decide_eq_false hkk]
            simp only [Bool.false_eq_true, if_false]
            refine wpAny_bind (wpAny_rule ?_)
            have hS' : Seen xs k rest hit := by
              rcases hS with ⟨q, hall⟩ | ⟨j, p, q, hj, hno⟩
              · refine .inl ⟨q, fun j p hj => ?_⟩
                rcases List.mem_cons.mp (hall j p hj) with e | e
                · subst e
                  rw [hxx] at hj
                  exact absurd (congrArg (·.1) (Option.some.inj hj)) hkk
                · exact e
              · exact .inr ⟨j, p, q, hj, fun z => hno (List.mem_cons_of_mem _ z)⟩
            first
              | exact wpAny_pure ⟨rfl, rfl, hr, hnd.2, hS'⟩
              | (rw [if_neg (by simp)]; exact wpAny_pure ⟨rfl, rfl, hr, hnd.2, hS'⟩)
              | (rw [if_neg (by simp)]; exact wpAny_bind (wpAny_pure (wpAny_pure ⟨rfl, rfl, hr, hnd.2, hS'⟩)))
        · rintro ⟨b1, hit⟩ s' ⟨e1, e2, _, _, hS⟩
          subst e1
          have e2' : b1 = none := e2
          subst e2'
          rcases hS with ⟨rfl, hall⟩ | ⟨j, p, rfl, hj, _⟩
          · exact wpAny_pure (h0 fun j p hj => by cases hall j p hj)
          · exact wpAny_pure (h1 j p hj)
      have tail : wpAny (model prog w) A (do
          let tells ← if ss == [key] then pure false else tableMayTell key ss
          if tells && ss.length ≥ 2 then unsupported "dict.find:order-among-keys-of-one-hash"
          let mut hit : Option Nat := none
          for i in pl do
            if let some e := es[i]? then
              if e.hash == k.hash w then
                let before ← dictEpoch d (keyPart key)
                let same ← eqBool e.key key
                if (← dictEpoch d (keyPart key)) != before then unsupported "dict.changed-during-lookup"
                if same then
                  if hit.isSome then unsupported "dict.find:order-among-keys-of-one-hash"
                  rule "dict.find.hit"
                  if ss.length < 2 then return some i
                  hit := some i
                else
                  rule "dict.find.same-hash-other-key"
                  if tells && !(0 ≤ k.hash w && k.hash w < 32) then unsupported "dict.find:asked-again-or-not-hangs-on-the-table"
          return hit) Q E s := by
        have tells : wpAny (model prog w) A (tableMayTell key ss) (fun b s' => b = false ∧ s' = s) E s := by
          unfold tableMayTell
          split
          · exact wpAny_pure ⟨rfl, rfl⟩
          · refine wpAny_bind (quiet key k hk A E _ ?_)
            simp only [Bool.not_true, Bool.false_eq_true, if_false]
            refine wpAny_bind ?_
            refine wpAny_forIn_list _ (fun rest b s' => s' = s ∧ b = (none, ()) ∧ ∀ v ∈ rest, QuietAt prog w 8 s v) _ ?_ ?_ _ _ ⟨rfl, rfl, hst⟩
            · rintro x rest b s' ⟨rfl, rfl, hr⟩
              refine wpAny_bind (hr x List.mem_cons_self A E _ ?_)
              simp only [Bool.not_true, Bool.false_eq_true, if_false]
              exact wpAny_pure ⟨rfl, rfl, fun v hv => hr v (List.mem_cons_of_mem _ hv)⟩
            · rintro b s' ⟨rfl, rfl, _⟩
              exact wpAny_pure ⟨rfl, rfl⟩
        by_cases hone : (ss == [key]) = true
        · rw [if_pos hone]
          exact wpAny_bind (wpAny_pure loop)
        · rw [if_neg hone]
          refine wpAny_bind (wpAny_mono tells (fun b s' hb => ?_) fun _ _ z => z)
          obtain ⟨rfl, rfl⟩ := hb
          exact loop
      cases key with
      | ref a =>
        dsimp only
        rw [if_neg hch]
        exact tail
      | _ => exact tail
  unfold dictFind
  try with_reducible refine wpAny_holding ?_
  refine wpAny_bind (wpAny_dictEntries ho hd ?_)
  dsimp only
  rw [hpe]
  cases key with
  | str x t =>
    dsimp only
    by_cases hs : (es.all fun e => isExactStrKey e.key) = true
    · rw [if_pos hs]
      have ek : k = .text x := by
        have q := hk.1
        cases q
        rfl
      have hstr : ∀ (j : Nat) (z : Ent), xs[j]? = some z → ∃ y u, z.2.1 = .str y u ∧ z.1 = .text y := fun j z hj => by
        have hm := List.mem_of_getElem? hj
        have q := (his z hm).1
        have e1 : es[j]? = some (entN w z) := by rw [hat j, hj]; rfl
        obtain ⟨hl, e2⟩ := Array.getElem?_eq_some_iff.mp e1
        have q2 := Array.all_eq_true.mp hs j hl
        rw [e2] at q2
        have q3 : isExactStrKey z.2.1 = true := q2
        obtain ⟨z1, z2, z3⟩ := z
        cases z2 with
        | str y u =>
          cases q
          exact ⟨y, u, rfl, rfl⟩
        | _ => cases q3
      unfold foundByValue
      cases hf : es.findIdx? (fun e => e.key.isStr x) with
      | none =>
        refine wpAny_pure (h0 fun j p hj => ?_)
        obtain ⟨y, u, e1, e2⟩ := hstr j _ hj
        have e3 : es[j]? = some (entN w (k, p)) := by rw [hat j, hj]; rfl
        have q := Array.findIdx?_eq_none_iff.mp hf _ (Array.mem_of_getElem? e3)
        have e4 : y = x := by
          have e5 : k = .text y := e2
          rw [ek] at e5
          injection e5 with e6
          exact e6.symm
        have e7 : (entN w (k, p)).key = .str x u := by rw [← e4]; exact e1
        rw [e7] at q
        simp [Value.isStr] at q
      | some i =>
        obtain ⟨hl, hi, _⟩ := Array.findIdx?_eq_some_iff_getElem.mp hf
        have hx : i < xs.length := by rw [← hsz]; exact hl
        have hxx : xs[i]? = some xs[i] := List.getElem?_eq_getElem hx
        have hee : es[i]? = some (entN w xs[i]) := by rw [hat i, hxx]; rfl
        have e3 : es[i] = entN w xs[i] := by
          rw [Array.getElem?_eq_getElem hl] at hee
          exact Option.some.inj hee
        obtain ⟨y, u, e1, e2⟩ := hstr i _ hxx
        have e4 : y = x := by
          rw [e3] at hi
          have e5 : (entN w xs[i]).key = .str y u := e1
          rw [e5] at hi
          simpa [Value.isStr] using hi
        have hkk : xs[i].1 = k := by rw [e2, e4, ek]
        dsimp only
        rw [hee]
        dsimp only
        refine wpAny_bind (wpAny_dictEpoch ho hd (wpAny_bind (heq _ (List.getElem_mem hx) prog w E _ (wpAny_bind (wpAny_dictEpoch ho hd ?_)))))
        show wpAny _ _ (if (ep != ep) = true then _ else _) _ E _
        rw [if_neg (by simp), decide_eq_true hkk]
        exact wpAny_bind (wpAny_rule (wpAny_pure (h1 i xs[i].2 (by rw [hxx, ← hkk]))))
    · rw [if_neg hs]
      exact many
  | _ => exact many

theorem IsN.but {h h' : Heap} {k : NestedKey} {v : Value} {o : Obj} {es : Array DictEntry} {ep : Nat} (x : IsN h k v) (ho : h.get? d = some o) (hd : o.data = .dict es ep) (hs : Heap.SameBut d h h') : IsN h' k v :=
  x.keep fun b ob vs n hb hc => (hs.2 b fun e => by
    subst e
    rw [ho] at hb
    cases hb
    rw [hd] at hc
    cases hc).trans hb
def outN (xs : List Ent) (k : NestedKey) : List Ent := xs.filter fun x => decide (x.1 ≠ k)
theorem outN_same (h : k ∉ xs.map (·.1)) : outN xs k = xs := by
  unfold outN
  rw [List.filter_eq_self]
  intro x hx
  exact decide_eq_true fun e => h (List.mem_map.mpr ⟨x, hx, e⟩)
theorem outN_erase : ∀ {xs : List Ent} {j : Nat} {p : Value × Value}, (xs.map (·.1)).Nodup → xs[j]? = some (k, p) → xs.eraseIdx j = outN xs k
  | [], j, p, _, h => by cases h
  | x :: r, 0, p, hd, h => by
    have e : x = (k, p) := Option.some.inj h
    subst e
    rw [List.map_cons, List.nodup_cons] at hd
    have e2 : outN ((k, p) :: r) k = outN r k := by
      unfold outN
      rw [List.filter_cons]
      simp
    rw [e2, outN_same hd.1]
    rfl
  | x :: r, j + 1, p, hd, h => by
    rw [List.map_cons, List.nodup_cons] at hd
    have h' : r[j]? = some (k, p) := h
    have ne : x.1 ≠ k := fun e => hd.1 (List.mem_map.mpr ⟨_, List.mem_of_getElem? h', e.symm⟩)
    have e2 : outN (x :: r) k = x :: outN r k := by
      unfold outN
      rw [List.filter_cons, if_pos (decide_eq_true ne)]
    rw [e2, List.eraseIdx_cons_succ, outN_erase hd.2 h']
theorem put_new {o : Obj} {es : Array DictEntry} {ep : Nat} {h' : Heap} {o' : Obj} (a v : Value) (hk : IsN s.heap k a) (ho : s.heap.get? d = some o) (hd : o.data = .dict es ep) (he : es.toList = xs.map (entN w))
    (his : ∀ x ∈ xs, IsN s.heap x.1 x.2.1) (hn : (xs.map (·.1)).Nodup) (h0 : getN xs k = none) (hs : Heap.SameBut d s.heap h') {ep' : Nat} (ho' : h'.get? d = some o') (hx : o'.ExactDict)
    (hd' : o'.data = .dict (es.push ⟨k.hash w, a, v⟩) ep') : DictN w h' d (putN xs k a v) := by
  have e : putN xs k a v = xs ++ [(k, a, v)] := by unfold putN; rw [h0]; rfl
  refine ⟨o', _, _, ho', hx, hd', ?_, fun x hx => ?_, putN_nodup hn a v⟩
  · rw [e, Array.toList_push, he, List.map_append]; rfl
  · rw [e] at hx
    rcases List.mem_append.mp hx with hx | hx
    · exact (his x hx).but ho hd hs
    · have e2 : x = (k, a, v) := by simpa using hx
      rw [e2]
      exact hk.but ho hd hs
theorem modify_map {α β : Type} (f : α → β) (g : β → β) (g' : α → α) (hg : ∀ x, g (f x) = f (g' x)) : ∀ (l : List α) (j : Nat), (l.map f).modify j g = (l.modify j g').map f
  | [], j => by cases j <;> rfl
  | x :: r, 0 => by simp [List.modify, hg]
  | x :: r, j + 1 => by
    have := modify_map f g g' hg r j
    simpa [List.modify] using this
theorem putN_modify : ∀ {xs : List Ent} {j : Nat} {p : Value × Value} {v : Value}, (xs.map (·.1)).Nodup → xs[j]? = some (k, p) → xs.modify j (fun x => (x.1, x.2.1, v)) = xs.map (fun x => if x.1 = k then (x.1, x.2.1, v) else x)
  | [], j, p, v, _, h => by cases h
  | x :: r, 0, p, v, hd, h => by
    have e : x = (k, p) := Option.some.inj h
    subst e
    rw [List.map_cons, List.nodup_cons] at hd
    rw [List.map_cons, if_pos rfl]
    show (k, p.1, v) :: r = (k, p.1, v) :: _
    congr 1
    symm
    rw [List.map_congr_left (g := id), List.map_id]
    intro y hy
    exact if_neg fun e => hd.1 (List.mem_map.mpr ⟨y, hy, e⟩)
  | x :: r, j + 1, p, v, hd, h => by
    rw [List.map_cons, List.nodup_cons] at hd
    have h' : r[j]? = some (k, p) := h
    have ne : x.1 ≠ k := fun e => hd.1 (List.mem_map.mpr ⟨_, List.mem_of_getElem? h', e.symm⟩)
    rw [List.map_cons, if_neg ne, ← putN_modify hd.2 h']
    rfl
theorem put_old {o : Obj} {es : Array DictEntry} {ep : Nat} {h' : Heap} {o' : Obj} (a v : Value) (ho : s.heap.get? d = some o) (hd : o.data = .dict es ep) (he : es.toList = xs.map (entN w))
    (his : ∀ x ∈ xs, IsN s.heap x.1 x.2.1) (hn : (xs.map (·.1)).Nodup) {j : Nat} {p : Value × Value} (hj : xs[j]? = some (k, p)) (hs : Heap.SameBut d s.heap h') {ep' : Nat} (ho' : h'.get? d = some o') (hx : o'.ExactDict)
    (hd' : o'.data = .dict (es.modify j fun e => { e with val := v }) ep') : DictN w h' d (putN xs k a v) := by
  have e : putN xs k a v = xs.map (fun x => if x.1 = k then (x.1, x.2.1, v) else x) := by unfold putN; rw [getN_at hn hj]; rfl
  refine ⟨o', _, _, ho', hx, hd', ?_, fun x hx => ?_, putN_nodup hn a v⟩
  · rw [e, ← putN_modify hn hj, Array.toList_modify, he]
    exact modify_map (entN w) _ _ (fun _ => rfl) xs j
  · rw [e] at hx
    obtain ⟨y, hy, rfl⟩ := List.mem_map.mp hx
    have q := (his y hy).but ho hd hs
    split
    · exact q
    · exact q

theorem get_ok {Q : Option Value → Shared → Prop} (hu : A.units + 8 < cLine) (hk : IsN s.heap k key) (hm : DictN w s.heap d xs) (h : ∀ tk, Q (getN xs k) { s with toks := tk }) :
    wpAny (model prog w) A (dictGet d key) Q E s := by
  obtain ⟨o, es, ep, ho, _, hd, he, his, hn⟩ := hm
  unfold dictGet
  try with_reducible refine wpAny_holding ?_
  refine wpAny_bind (pyHash_key k key A s _ hk.1 (by have := hk.2; omega) ?_)
  refine wpAny_bind (find_ok (s := { s with toks := s.toks + k.draws }) hu hk ho hd he his hn ?_ ?_)
  · intro h0
    have q := h (s.toks + k.draws)
    rw [getN_none h0] at q
    exact wpAny_pure q
  · intro j p hj
    have q := h (s.toks + k.draws)
    rw [getN_at hn hj] at q
    refine wpAny_bind (wpAny_dictEntries (s := { s with toks := s.toks + k.draws }) ho hd ?_)
    have e : es[j]? = some (entN w (k, p)) := by rw [← Array.getElem?_toList, he, List.getElem?_map, hj]; rfl
    rw [e]
    exact wpAny_pure q
theorem DictN.size {o : Obj} {es : Array DictEntry} (he : es.toList = xs.map (entN w)) : es.size = xs.length := by rw [← Array.length_toList, he, List.length_map]
theorem set_ok {v : Value} {Q : Unit → Shared → Prop} (hu : A.units + 8 < cLine) (hk : IsN s.heap k key) (hm : DictN w s.heap d xs) (hz : xs.length ≤ sizeLine)
    (h : ∀ h' tk, DictN w h' d (putN xs k key v) → Heap.SameBut d s.heap h' → Q () { s with heap := h', toks := tk }) : wpAny (model prog w) A (dictSet d key v) Q E s := by
  obtain ⟨o, es, ep, ho, hx, hd, he, his, hn⟩ := hm
  have hsz : es.size ≤ sizeLine := by rw [← Array.length_toList, he, List.length_map]; exact hz
  unfold dictSet
  try with_reducible refine wpAny_holding ?_
  refine wpAny_bind (pyHash_key k key A s _ hk.1 (by have := hk.2; omega) ?_)
  unfold dictSetHashed
  try with_reducible refine wpAny_holding ?_
  refine wpAny_bind (find_ok (s := { s with toks := s.toks + k.draws }) hu hk ho hd he his hn ?_ ?_)
  · intro h0
    exact wpAny_bind (wpAny_rule (wpAny_updateDictKeys (hz := hsz) (s := { s with toks := s.toks + k.draws }) ho hd (h _ _ (put_new key v hk ho hd he his hn (getN_none h0) (Heap.SameBut.update ..)
      (Heap.get?_update_self _ ho (Obj.isFreed_of_dict (Obj.data_mapDictKeys hd _))) (hx.mapDictKeys _) (Obj.data_mapDictKeys hd _)) (Heap.SameBut.update ..))))
  · intro j p hj
    exact wpAny_bind (wpAny_rule (wpAny_bind (wpAny_updateDict (s := { s with toks := s.toks + k.draws }) ho hd (wpAny_point (h _ _ (put_old key v ho hd he his hn hj (Heap.SameBut.update ..)
      (Heap.get?_update_self _ ho (Obj.isFreed_of_dict (Obj.data_mapDict hd _))) (hx.mapDict _) (Obj.data_mapDict hd _)) (Heap.SameBut.update ..))))))
theorem has_ok {Q : Bool → Shared → Prop} (hu : A.units + 9 < cLine) (hk : IsN s.heap k key) (hs : (d == sysModules) = false) (hm : DictN w s.heap d xs) (h : ∀ tk, Q (getN xs k).isSome { s with toks := tk }) :
    wpAny (model prog w) A (contains (.ref d) key) Q E s := by
  refine wpAny_contains_slot hm.typeIs F.slot_dict_contains ?_
  refine call_meetsIn F.slot_dict_contains hm.typeIs F.entry_dict_contains (F.args_dict_contains_2 _ _) (S := fun A' R s' => A' = A ∧ s' = s ∧ ∀ tk, R (.ok (.ret (.bool (getN xs k).isSome))) { s with toks := tk }) (fun A' R s' hS => ?_) ⟨rfl, rfl, fun tk => wpAny_truthy_bool (h tk)⟩
  obtain ⟨rfl, rfl, hq⟩ := hS
  show wpAny _ _ (dictGet d key >>= _) _ _ _
  refine wpAny_bind (get_ok (by show A'.units + 1 + 8 < cLine; omega) hk hm fun tk => ?_)
  have q := hq tk
  cases e : getN xs k with
  | some v =>
    rw [e] at q
    show wpAny _ _ (ret (.bool true)) _ _ _
    exact wpAny_pure q
  | none =>
    rw [e] at q
    show wpAny _ _ (Builtin.Dict.pendingKey? d key >>= _) _ _ _
    exact wpAny_bind (wpAny_pendingKey_other hs (wpAny_pure q))
theorem in_ok {Q : Value → Shared → Prop} (hu : A.units + 9 < cLine) (hk : IsN s.heap k key) (hs : (d == sysModules) = false) (hm : DictN w s.heap d xs) (h : ∀ tk, Q (.bool (getN xs k).isSome) { s with toks := tk }) :
    wpAny (model prog w) A (compareOp .In key (.ref d)) Q E s := by
  show wpAny _ _ (do return .bool (← contains (.ref d) key)) Q E s
  exact wpAny_bind (has_ok hu hk hs hm fun tk => wpAny_pure (h tk))
theorem notIn_ok {Q : Value → Shared → Prop} (hu : A.units + 9 < cLine) (hk : IsN s.heap k key) (hs : (d == sysModules) = false) (hm : DictN w s.heap d xs) (h : ∀ tk, Q (.bool (!(getN xs k).isSome)) { s with toks := tk }) :
    wpAny (model prog w) A (compareOp .NotIn key (.ref d)) Q E s := by
  show wpAny _ _ (do return .bool (!(← contains (.ref d) key))) Q E s
  exact wpAny_bind (has_ok hu hk hs hm fun tk => wpAny_pure (h tk))
theorem item_ok {v : Value} {Q : Value → Shared → Prop} (hu : A.units + 9 < cLine) (hk : IsN s.heap k key) (hm : DictN w s.heap d xs) (hv : getN xs k = some v) (h : ∀ tk, Q v { s with toks := tk }) :
    wpAny (model prog w) A (getItem (.ref d) key) Q E s := by
  unfold getItem
  try with_reducible refine wpAny_holding ?_
  refine wpAny_bind (wpAny_sequenceKey hm.typeIs (by decide) ?_)
  refine wpAny_bind (wpAny_callSpecial?_slot (name := Str.ofString "__getitem__") hm.typeIs slot_dict_getitem
    (wpAny_call_entry slot_dict_getitem hm.typeIs entry_dict_getitem ?_ (args_dict_getitem _ _)))
  show wpAny _ _ (dictGet d key >>= _) _ _ s
  refine wpAny_bind (get_ok (by show A.units + 1 + 8 < cLine; omega) hk hm fun tk => ?_)
  rw [hv]
  exact wpAny_pure ⟨v, rfl, wpAny_pure (h tk)⟩
theorem put_ok {v : Value} {Q : Unit → Shared → Prop} (hu : A.units + 9 < cLine) (hk : IsN s.heap k key) (hm : DictN w s.heap d xs) (hz : xs.length ≤ sizeLine)
    (h : ∀ h' tk, DictN w h' d (putN xs k key v) → Heap.SameBut d s.heap h' → Q () { s with heap := h', toks := tk }) : wpAny (model prog w) A (setItem (.ref d) key v) Q E s := by
  unfold setItem
  try with_reducible refine wpAny_holding ?_
  refine wpAny_bind (wpAny_sequenceKey hm.typeIs (by decide) ?_)
  refine wpAny_bind (wpAny_callSpecial?_slot (name := Str.ofString "__setitem__") hm.typeIs slot_dict_setitem
    (wpAny_call_entry slot_dict_setitem hm.typeIs entry_dict_setitem ?_ (args_dict_setitem _ _ _)))
  show wpAny _ _ (Builtin.Dict.notOrdered "__setitem__" ⟨[.ref d, key, v], []⟩ >>= _) _ _ s
  refine wpAny_bind (wpAny_notOrdered_dict hm.typeIs ?_)
  show wpAny _ _ (dictSet d key v >>= _) _ _ s
  exact wpAny_bind (set_ok (by show A.units + 1 + 8 < cLine; omega) hk hm hz fun h' tk hm' hs' => wpAny_pure ⟨.none, rfl, wpAny_pure (h h' tk hm' hs')⟩)
theorem get1_ok {Q : Value → Shared → Prop} (hu : A.units + 9 < cLine) (hk : IsN s.heap k key) (hs : (d == sysModules) = false) (hm : DictN w s.heap d xs) (h : ∀ tk, Q ((getN xs k).getD .none) { s with toks := tk }) :
    wpAny (model prog w) A (call (.builtin "dict.get") [.ref d, key]) Q E s := by
  refine call_meetsIn F.slot_dict_get hm.typeIs F.entry_dict_get (F.args_dict_get_2 _ _) (S := fun A' R s' => A' = A ∧ s' = s ∧ ∀ tk, R (.ok (.ret ((getN xs k).getD .none))) { s with toks := tk }) (MeetsIn.of_wp fun A' R s' hS => ?_) ⟨rfl, rfl, h⟩
  obtain ⟨rfl, rfl, hq⟩ := hS
  show wpAny _ _ (dictGet d key >>= _) _ _ _
  refine wpAny_bind (get_ok (by show A'.units + 1 + 8 < cLine; omega) hk hm fun tk => ?_)
  have q := hq tk
  cases e : getN xs k with
  | some v =>
    rw [e] at q
    exact wpAny_pure ⟨v, rfl, q⟩
  | none =>
    rw [e] at q
    show wpAny _ _ (Builtin.Dict.missed d key >>= _) _ _ _
    exact wpAny_bind (wpAny_missed_other hs (wpAny_pure ⟨.none, rfl, q⟩))
theorem get2_ok {x : Value} {Q : Value → Shared → Prop} (hu : A.units + 9 < cLine) (hk : IsN s.heap k key) (hs : (d == sysModules) = false) (hm : DictN w s.heap d xs) (h : ∀ tk, Q ((getN xs k).getD x) { s with toks := tk }) :
    wpAny (model prog w) A (call (.builtin "dict.get") [.ref d, key, x]) Q E s := by
  refine call_meetsIn F.slot_dict_get hm.typeIs F.entry_dict_get (F.args_dict_get_3 _ _ _) (S := fun A' R s' => A' = A ∧ s' = s ∧ ∀ tk, R (.ok (.ret ((getN xs k).getD x))) { s with toks := tk }) (MeetsIn.of_wp fun A' R s' hS => ?_) ⟨rfl, rfl, h⟩
  obtain ⟨rfl, rfl, hq⟩ := hS
  show wpAny _ _ (dictGet d key >>= _) _ _ _
  refine wpAny_bind (get_ok (by show A'.units + 1 + 8 < cLine; omega) hk hm fun tk => ?_)
  have q := hq tk
  cases e : getN xs k with
  | some v =>
    rw [e] at q
    exact wpAny_pure ⟨v, rfl, q⟩
  | none =>
    rw [e] at q
    show wpAny _ _ (Builtin.Dict.missed d key >>= _) _ _ _
    exact wpAny_bind (wpAny_missed_other hs (wpAny_pure ⟨x, rfl, q⟩))
theorem setd_ok {v : Value} {Q : Value → Shared → Prop} (hu : A.units + 9 < cLine) (hk : IsN s.heap k key) (hs : (d == sysModules) = false) (hm : DictN w s.heap d xs) (hz : xs.length ≤ sizeLine)
    (h1 : ∀ x tk, getN xs k = some x → Q x { s with toks := tk })
    (h2 : getN xs k = none → ∀ h' tk, DictN w h' d (putN xs k key v) → Heap.SameBut d s.heap h' → Q v { s with heap := h', toks := tk }) :
    wpAny (model prog w) A (call (.builtin "dict.setdefault") [.ref d, key, v]) Q E s := by
  refine call_meetsIn F.slot_dict_setdefault hm.typeIs F.entry_dict_setdefault (F.args_dict_setdefault_3 _ _ _) (S := fun A' R s' => A' = A ∧ s' = s ∧ (∀ x tk, getN xs k = some x → R (.ok (.ret x)) { s with toks := tk }) ∧
    (getN xs k = none → ∀ h' tk, DictN w h' d (putN xs k key v) → Heap.SameBut d s.heap h' → R (.ok (.ret v)) { s with heap := h', toks := tk })) (MeetsIn.of_wp fun A' R s' hS => ?_) ⟨rfl, rfl, h1, h2⟩
  obtain ⟨rfl, rfl, g1, g2⟩ := hS
  have hmm := hm
  obtain ⟨o, es, ep, ho, hx, hd, he, his, hn⟩ := hmm
  have hsz : es.size ≤ sizeLine := by rw [← Array.length_toList, he, List.length_map]; exact hz
  unfold Builtin.«dict.setdefault»
  refine wpAny_bind ?_
  unfold Builtin.Dict.keyAndDefault
  refine wpAny_bind (wpAny_notOrdered_dict hm.typeIs ?_)
  show wpAny _ _ (pure (d, key, some v)) _ _ _
  refine wpAny_pure ?_
  show wpAny _ _ (if (d == sysModules) = true then _ else (dictSetDefault d key v >>= _)) _ _ _
  rw [if_neg (by rw [hs]; exact Bool.false_ne_true)]
  refine wpAny_bind ?_
  unfold dictSetDefault
  try with_reducible refine wpAny_holding ?_
  refine wpAny_bind (pyHash_key k key _ _ _ hk.1 (by have := hk.2; show A'.units + 1 + _ < cLine; omega) ?_)
  refine wpAny_bind (find_ok (s := { s' with toks := s'.toks + k.draws }) (by show A'.units + 1 + 8 < cLine; omega) hk ho hd he his hn ?_ ?_)
  · intro h0
    exact wpAny_bind (wpAny_rule (wpAny_bind (wpAny_updateDictKeys (hz := hsz) (s := { s' with toks := s'.toks + k.draws }) ho hd (wpAny_pure (wpAny_pure ⟨v, rfl, g2 (getN_none h0) _ _ (put_new key v hk ho hd he his hn (getN_none h0) (Heap.SameBut.update ..)
      (Heap.get?_update_self _ ho (Obj.isFreed_of_dict (Obj.data_mapDictKeys hd _))) (hx.mapDictKeys _) (Obj.data_mapDictKeys hd _)) (Heap.SameBut.update ..)⟩)))))
  · intro j p hj
    refine wpAny_bind (wpAny_dictEntries (s := { s' with toks := s'.toks + k.draws }) ho hd ?_)
    have e : es[j]? = some (entN w (k, p)) := by rw [← Array.getElem?_toList, he, List.getElem?_map, hj]; rfl
    rw [e]
    exact wpAny_bind (wpAny_rule (wpAny_pure (wpAny_pure ⟨p.2, rfl, g1 p.2 _ (getN_at hn hj)⟩)))
end
end ZD
set_option Elab.async false
set_option linter.all false
set_option maxRecDepth 100000
set_option maxHeartbeats 1000000
/-! Z1: python values as data, a store of cells, readings by shallow functions. -/
namespace Z
open PySem L2

/-- data: tuples, lists and dicts that never change are values (wl: a list from outside); ref n is the n-th cell -/
inductive D where
  | non | bl (b : Bool) | int (i : Int) | str (x : Str) | tup (ds : List D) | lst (ds : List D) | wl (ds : List D) | dic (ks vs : List D) | ref (n : Nat)
  deriving Inhabited
/-- a cell: what may change -/
inductive Cel where
  | lst (ds : List D) | dic (lk : Bool) (ks vs : List D) | ins (c : Str) (fs : List (Str × D))
  deriving Inhabited
abbrev Sto := List Cel
inductive Out (β : Type) where
  | val (b : β) (S : Sto) | exc (c : Str) (p : D) (S : Sto) | stuck
abbrev M (β : Type) := Sto → Out β
@[simp] def Out.bind {β δ : Type} (o : Out β) (k : β → Sto → Out δ) : Out δ := match o with
  | .val b S => k b S
  | .exc c p S => .exc c p S
  | .stuck => .stuck
abbrev Rho := List (Option D)

/-- a key, as the dict's own kind of keys has it -/
def nkey : D → NestedKey
  | .non => .none
  | .bl b => .num (if b then 1 else 0)
  | .int i => .num i
  | .str x => .text x
  | .tup ds => .tup (ds.map nkey)
  | .lst _ => .none
  | .wl _ => .none
  | .dic _ _ => .none
  | .ref _ => .none
/-- the object at a is a dict of these entries -/
def dφ (w : World) (a : Addr) (xs : List ZD.Ent) (h : Heap) : Prop :=
  xs.length ≤ sizeLine ∧ (a == sysModules) = false ∧ ∃ o es ep, h.get? a = some o ∧ o.ExactDict ∧ o.data = .dict es ep ∧ es.toList = xs.map (ZD.entN w) ∧ (xs.map (·.1)).Nodup
def dHO (w : World) (a : Addr) (xs : List ZD.Ent) : HO := .ext (dφ w a xs)
/-- what may be a key: numbers, texts, None, tuples of such, so deep -/
def isKey : Nat → D → Bool
  | _, .non => true
  | _, .int _ => true
  | _, .str _ => true
  | n + 1, .tup ds => ds.all (isKey n)
  | _, _ => false
/-- keys and values at the dict's entries -/
def Ents (ks : List D) (kv vs : List V) (xs : List ZD.Ent) : Prop := ks.all (isKey 8) = true ∧ ks.map nkey = xs.map (·.1) ∧ Vals kv (xs.map (·.2.1)) ∧ Vals vs (xs.map (·.2.2))
section
variable (K : PySem.W.Frag) (w : World)
def WrL (a : Addr) (xs : List V) : Prop := ∃ (o : Obj) (its : Array Value) (n : Nat), K.lookup a = some o ∧ o.cls = .type "list" ∧ o.dict = none ∧ o.data = .seq its n ∧ its.size ≤ sizeLine ∧ Vals xs its.toList
/-- where the cells stand; objects that are being made, seen by none -/
structure Al where
  al : List Addr
  hid : List Addr
def Al.Has (α : Al) (a : Addr) : Prop := a ∈ α.al ∨ a ∈ α.hid
mutual
def RepD (α : Al) (H : Hp) : D → V → Prop
  | .non, v => v = .non
  | .bl b, v => v = .bl b
  | .int i, v => v = .int i
  | .str x, v => v = .str x
  | .tup ds, v => ∃ a vs, v = .ref a ∧ SqT K H a vs ∧ RepL α H ds vs
  | .lst ds, v => ∃ a vs, v = .ref a ∧ ¬ α.Has a ∧ H a = some (.lst vs) ∧ RepL α H ds vs
  | .wl ds, v => ∃ a vs, v = .ref a ∧ ((¬ α.Has a ∧ Rd H a (.lst vs)) ∨ WrL K a vs) ∧ RepL α H ds vs
  | .dic ks ds, v => ∃ a kv vs xs, v = .ref a ∧ ¬ α.Has a ∧ Rd H a (dHO w a xs) ∧ Ents ks kv vs xs ∧ RepL α H ks kv ∧ RepL α H ds vs
  | .ref n, v => ∃ a, v = .ref a ∧ α.al[n]? = some a
def RepL (α : Al) (H : Hp) : List D → List V → Prop
  | [], vs => vs = []
  | d :: ds, vs => ∃ v r, vs = v :: r ∧ RepD α H d v ∧ RepL α H ds r
end
def RepF (α : Al) (H : Hp) : List (Str × D) → List (Str × V) → Prop
  | [], vs => vs = []
  | d :: ds, vs => ∃ v r, vs = (d.1, v) :: r ∧ RepD K w α H d.2 v ∧ RepF α H ds r
/-- an instance stands at a, its own dict beside it -/
def RepC (α : Al) (H : Hp) : Cel → Addr → Prop
  | .lst ds, a => ∃ vs, H a = some (.lst vs) ∧ RepL K w α H ds vs
  | .dic lk ks ds, a => ∃ kv vs xs, (if lk = true then ∃ o, H a = some (.frz o (dHO w a xs)) else H a = some (dHO w a xs)) ∧ Ents ks kv vs xs ∧ RepL K w α H ks kv ∧ RepL K w α H ds vs
  | .ins c fs, a => ∃ dx vs, H a = some (.ins (He.ga K c) dx vs) ∧ RepF K w α H fs vs
structure Rep (α : Al) (S : Sto) (H : Hp) : Prop where
  nd : α.al.Nodup
  len : α.al.length = S.length
  hd : ∀ b ∈ α.hid, H b ≠ none
  dj : ∀ b ∈ α.hid, b ∉ α.al
  cell : ∀ (n : Nat) (c : Cel) (a : Addr), S[n]? = some c → α.al[n]? = some a → RepC K w α H c a
structure RepE (α : Al) (H : Hp) (ρ : Rho) (σ : St) : Prop where
  len : ρ.length = σ.length
  at_ : ∀ (i : Nat) (d : D), ρ[i]? = some (some d) → ∃ v, σ[i]? = some (some v) ∧ RepD K w α H d v
end
def Dat : HO → Bool
  | .lst _ => true
  | .tup _ => true
  | .ext _ => true
  | _ => false
theorem nofrz {H : Hp} {a : Addr} {u : HO} (h : H a = some u) (hu : (match u with | .frz _ _ => false | _ => true) = true := by rfl) : ∀ o v, H a ≠ some (.frz o v) := fun o v e => by
  rw [h] at e
  cases e
  cases hu
/-- from one state to a later one -/
structure Stp (α : Al) (H : Hp) (α' : Al) (H' : Hp) : Prop where
  pre : ∃ β, α'.al = α.al ++ β ∧ ∀ b ∈ β, H b = none
  hid : ∀ b ∈ α'.hid, b ∈ α.hid ∨ H b = none
  stay : ∀ b ∈ α.hid, b ∈ α'.hid
  keep : ∀ b ∈ α.hid, H' b = H b
  dom : ∀ a, H a ≠ none → H' a ≠ none
  tup : ∀ a vs, Rd H a (.tup vs) → Rd H' a (.tup vs)
  dat : ∀ a u, Dat u = true → ¬ α.Has a → Rd H a u → Rd H' a u
  lst : ∀ a vs, ¬ α.Has a → H a = some (.lst vs) → H' a = some (.lst vs)
  frz : ∀ a o u, H a = some (.frz o u) → H' a = some (.frz o u)
/-- the same, but hidden objects may be written -/
structure Stq (α : Al) (H : Hp) (α' : Al) (H' : Hp) : Prop where
  pre : ∃ β, α'.al = α.al ++ β ∧ ∀ b ∈ β, H b = none
  hid : ∀ b ∈ α'.hid, b ∈ α.hid ∨ H b = none
  dom : ∀ a, H a ≠ none → H' a ≠ none
  tup : ∀ a vs, Rd H a (.tup vs) → Rd H' a (.tup vs)
  dat : ∀ a u, Dat u = true → ¬ α.Has a → Rd H a u → Rd H' a u
  lst : ∀ a vs, ¬ α.Has a → H a = some (.lst vs) → H' a = some (.lst vs)
  frz : ∀ a o u, H a = some (.frz o u) → H' a = some (.frz o u)
section
variable {K : PySem.W.Frag} {w : World} {α α' α'' : Al} {H H' H'' : Hp} {S S' : Sto}
theorem Stp.refl : Stp α H α H := ⟨⟨[], by simp, by simp⟩, fun _ h => .inl h, fun _ h => h, fun _ _ => rfl, fun _ h => h, fun _ _ h => h, fun _ _ _ _ h => h, fun _ _ _ h => h, fun _ _ _ h => h⟩
theorem rd_some {a : Addr} {u : HO} (h : Rd H a u) : H a ≠ none := by
  rcases h with h | ⟨o, h⟩ <;> (rw [h]; exact fun e => nomatch e)
theorem Stp.notin (s : Stp α H α' H') {a : Addr} (h : ¬ α.Has a) (hs : H a ≠ none) : ¬ α'.Has a := by
  obtain ⟨β, e, hb⟩ := s.pre
  rintro (q | q)
  · rw [e, List.mem_append] at q
    rcases q with q | q
    · exact h (.inl q)
    · exact hs (hb a q)
  · rcases s.hid a q with q | q
    · exact h (.inr q)
    · exact hs q
theorem Stp.trans (s : Stp α H α' H') (t : Stp α' H' α'' H'') : Stp α H α'' H'' := by
  have back : ∀ b, H' b = none → H b = none := fun b q => by
    cases e : H b with
    | none => rfl
    | some u => exact absurd q (s.dom b (by rw [e]; exact fun e => nomatch e))
  refine ⟨?_, fun b h => ?_, fun b h => t.stay b (s.stay b h), fun b h => (t.keep b (s.stay b h)).trans (s.keep b h), fun a h => t.dom a (s.dom a h), fun a vs h => t.tup a vs (s.tup a vs h), fun a u d n h => t.dat a u d (s.notin n (rd_some h)) (s.dat a u d n h), fun a vs n h => t.lst a vs (s.notin n (rd_some (.inl h))) (s.lst a vs n h), fun a o u h => t.frz a o u (s.frz a o u h)⟩
  · obtain ⟨β, e, hb⟩ := s.pre
    obtain ⟨γ, e2, hg⟩ := t.pre
    refine ⟨β ++ γ, by rw [e2, e, List.append_assoc], fun b h => ?_⟩
    rcases List.mem_append.mp h with h | h
    · exact hb b h
    · exact back b (hg b h)
  · rcases t.hid b h with q | q
    · exact s.hid b q
    · exact .inr (back b q)
theorem Stp.at_ (s : Stp α H α' H') {n : Nat} {a : Addr} (h : α.al[n]? = some a) : α'.al[n]? = some a := by
  obtain ⟨β, e, _⟩ := s.pre
  have hn := (List.getElem?_eq_some_iff.mp h).1
  rw [e, List.getElem?_append_left hn]
  exact h
theorem Stq.notin (s : Stq α H α' H') {a : Addr} (h : ¬ α.Has a) (hs : H a ≠ none) : ¬ α'.Has a := by
  obtain ⟨β, e, hb⟩ := s.pre
  rintro (q | q)
  · rw [e, List.mem_append] at q
    rcases q with q | q
    · exact h (.inl q)
    · exact hs (hb a q)
  · rcases s.hid a q with q | q
    · exact h (.inr q)
    · exact hs q
theorem Stq.at_ (s : Stq α H α' H') {n : Nat} {a : Addr} (h : α.al[n]? = some a) : α'.al[n]? = some a := by
  obtain ⟨β, e, _⟩ := s.pre
  have hn := (List.getElem?_eq_some_iff.mp h).1
  rw [e, List.getElem?_append_left hn]
  exact h
theorem Stp.q (s : Stp α H α' H') : Stq α H α' H' := ⟨s.pre, s.hid, s.dom, s.tup, s.dat, s.lst, s.frz⟩
theorem Stq.trans (s : Stq α H α' H') (t : Stq α' H' α'' H'') : Stq α H α'' H'' := by
  have back : ∀ b, H' b = none → H b = none := fun b q => by
    cases e : H b with
    | none => rfl
    | some u => exact absurd q (s.dom b (by rw [e]; exact fun e => nomatch e))
  refine ⟨?_, fun b h => ?_, fun a h => t.dom a (s.dom a h), fun a vs h => t.tup a vs (s.tup a vs h), fun a u d n h => t.dat a u d (s.notin n (rd_some h)) (s.dat a u d n h), fun a vs n h => t.lst a vs (s.notin n (rd_some (.inl h))) (s.lst a vs n h), fun a o u h => t.frz a o u (s.frz a o u h)⟩
  · obtain ⟨β, e, hb⟩ := s.pre
    obtain ⟨γ, e2, hg⟩ := t.pre
    refine ⟨β ++ γ, by rw [e2, e, List.append_assoc], fun b h => ?_⟩
    rcases List.mem_append.mp h with h | h
    · exact hb b h
    · exact back b (hg b h)
  · rcases t.hid b h with q | q
    · exact s.hid b q
    · exact .inr (back b q)
mutual
theorem repD_monoQ (s : Stq α H α' H') : ∀ (d : D) (v : V), RepD K w α H d v → RepD K w α' H' d v
  | .non, v, h => by unfold RepD at h ⊢; exact h
  | .bl b, v, h => by unfold RepD at h ⊢; exact h
  | .int i, v, h => by unfold RepD at h ⊢; exact h
  | .str x, v, h => by unfold RepD at h ⊢; exact h
  | .tup ds, v, h => by
    unfold RepD at h ⊢
    obtain ⟨a, vs, e, q, r⟩ := h
    refine ⟨a, vs, e, ?_, repL_monoQ s ds vs r⟩
    rcases q with q | q
    · exact .inl (s.tup a vs q)
    · exact .inr q
  | .lst ds, v, h => by
    unfold RepD at h ⊢
    obtain ⟨a, vs, e, n, q, r⟩ := h
    exact ⟨a, vs, e, s.notin n (rd_some (.inl q)), s.lst a vs n q, repL_monoQ s ds vs r⟩
  | .wl ds, v, h => by
    unfold RepD at h ⊢
    obtain ⟨a, vs, e, q, r⟩ := h
    refine ⟨a, vs, e, ?_, repL_monoQ s ds vs r⟩
    rcases q with ⟨n, q⟩ | q
    · exact .inl ⟨s.notin n (rd_some q), s.dat a _ rfl n q⟩
    · exact .inr q
  | .dic ks ds, v, h => by
    unfold RepD at h ⊢
    obtain ⟨a, kv, vs, xs, e, n, q, k, r1, r2⟩ := h
    exact ⟨a, kv, vs, xs, e, s.notin n (rd_some q), s.dat a _ rfl n q, k, repL_monoQ s ks kv r1, repL_monoQ s ds vs r2⟩
  | .ref n, v, h => by
    unfold RepD at h ⊢
    obtain ⟨a, e, q⟩ := h
    exact ⟨a, e, s.at_ q⟩
theorem repL_monoQ (s : Stq α H α' H') : ∀ (ds : List D) (vs : List V), RepL K w α H ds vs → RepL K w α' H' ds vs
  | [], vs, h => by unfold RepL at h ⊢; exact h
  | d :: ds, vs, h => by
    unfold RepL at h ⊢
    obtain ⟨v, r, e, h1, h2⟩ := h
    exact ⟨v, r, e, repD_monoQ s d v h1, repL_monoQ s ds r h2⟩
end
theorem repD_mono (s : Stp α H α' H') (d : D) (v : V) (h : RepD K w α H d v) : RepD K w α' H' d v := repD_monoQ s.q d v h
theorem repL_mono (s : Stp α H α' H') (ds : List D) (vs : List V) (h : RepL K w α H ds vs) : RepL K w α' H' ds vs := repL_monoQ s.q ds vs h
theorem RepE.mono {ρ : Rho} {σ : St} (s : Stp α H α' H') (h : RepE K w α H ρ σ) : RepE K w α' H' ρ σ :=
  ⟨h.len, fun i d e => let ⟨v, h1, h2⟩ := h.at_ i d e; ⟨v, h1, repD_mono s d v h2⟩⟩
end
/-- what is wanted behind a run: of its value (R), of an exception -/
def Post {β γ : Type} (K : PySem.W.Frag) (w : World) (R : Al → Hp → β → γ → Prop) (E : XK) (α : Al) (H : Hp) (o : Out β) (Q : γ → Hp → Prop) : Prop := match o with
  | .val d S' => ∀ α' H' v, Stp α H α' H' → Rep K w α' S' H' → R α' H' d v → Q v H'
  | .exc c p S' => ∀ α' H' (dd : Addr) (v : V), Stp α H α' H' → Rep K w α' S' H' → H dd = none → H' dd = some (.xd [("what", v)]) → RepD K w α' H' p v → E (.ref (He.ga K c)) (some dd) H'
  | .stuck => False
section
variable {K : PySem.W.Frag} {w : World} {α α1 : Al} {H H1 : Hp} {S : Sto} {E : XK} {β γ δ ε : Type} {R : Al → Hp → β → γ → Prop} {R1 : Al → Hp → δ → ε → Prop} {Q : γ → Hp → Prop} {Q1 : ε → Hp → Prop}
theorem Post.mono {o : Out β} (s : Stp α H α1 H1) (h : Post K w R E α H o Q) : Post K w R E α1 H1 o Q := by
  cases o with
  | val d S' => exact fun α' H' v st => h α' H' v (s.trans st)
  | exc c p S' => 
    refine fun α' H' dd v st rp hn => h α' H' dd v (s.trans st) rp ?_
    cases q : H dd with
    | none => rfl
    | some u => exact absurd hn (s.dom dd (by rw [q]; exact fun e => nomatch e))
  | stuck => exact h
theorem Post.imp {o : Out β} {Q' : γ → Hp → Prop} (h : Post K w R E α H o Q) (k : ∀ v H', Q v H' → Q' v H') : Post K w R E α H o Q' := by
  cases o with
  | val d S' => exact fun α' H' v st rp r => k _ _ (h α' H' v st rp r)
  | exc c p S' => exact h
  | stuck => exact h
theorem Post.step {m : Out δ} {k : δ → Sto → Out β} (h : Post K w R E α H (m.bind k) Q)
    (hk : ∀ d S1 α1 H1 x, m = .val d S1 → Stp α H α1 H1 → Rep K w α1 S1 H1 → R1 α1 H1 d x → Post K w R E α1 H1 (k d S1) Q → Q1 x H1) : Post K w R1 E α H m Q1 := by
  cases m with
  | val d S1 => exact fun α1 H1 x st rp r => hk d S1 α1 H1 x rfl st rp r (Post.mono st h)
  | exc c p S' => exact h
  | stuck => exact h
/-- the value is had at once -/
theorem Post.now {d : β} (h : Post K w R E α H (.val d S) Q) (rp : Rep K w α S H) {v : γ} (r : R α H d v) : Q v H := h α H v Stp.refl rp r
end
/-- readings by shallow functions -/
def lift (K : PySem.W.Frag) (w : World) (E : XK) (f : Rho → M D) : TE := fun σ H Q => ∃ α S ρ, Rep K w α S H ∧ RepE K w α H ρ σ ∧ Post K w (RepD K w) E α H (f ρ S) Q
def liftL (K : PySem.W.Frag) (w : World) (E : XK) (f : Rho → M (List D)) : TA := fun σ H Q => ∃ α S ρ, Rep K w α S H ∧ RepE K w α H ρ σ ∧ Post K w (RepL K w) E α H (f ρ S) Q
def liftB (K : PySem.W.Frag) (w : World) (E : XK) (f : Rho → M Bool) : TT := fun σ H Q => ∃ α S ρ, Rep K w α S H ∧ RepE K w α H ρ σ ∧ Post K w (fun _ _ b c => b = c) E α H (f ρ S) Q
theorem PE.weak {X : Cx} {e : Expr} {t t' : TE} (h : PE X e t) (k : ∀ σ H Q, t' σ H Q → t σ H Q) : PE X e t' := ⟨fun pins s σ H Q I q => h.run pins s σ H Q I (k σ H Q q)⟩
theorem PT.weak {X : Cx} {e : Expr} {t t' : TT} (h : PT X e t) (k : ∀ σ H Q, t' σ H Q → t σ H Q) : PT X e t' := ⟨fun pins s σ H Q I q => h.run pins s σ H Q I (k σ H Q q)⟩
theorem PA.weak {X : Cx} {e : List Expr} {t t' : TA} (h : PA X e t) (k : ∀ σ H Q, t' σ H Q → t σ H Q) : PA X e t' := ⟨fun pos pins s σ H Q I q => h.run pos pins s σ H Q I (k σ H Q q)⟩
/-- an expression, an argument list, a test, by shallow functions -/
abbrev ZE (X : Cx) (E : XK) (e : Expr) (f : Rho → M D) : Prop := PE X e (lift X.K X.w E f)
abbrev ZA (X : Cx) (E : XK) (es : List Expr) (f : Rho → M (List D)) : Prop := PA X es (liftL X.K X.w E f)
abbrev ZT (X : Cx) (E : XK) (e : Expr) (f : Rho → M Bool) : Prop := PT X e (liftB X.K X.w E f)
end Z
set_option Elab.async false
set_option linter.all false
set_option maxRecDepth 100000
set_option maxHeartbeats 1000000
/-! Z2: states that grow and change; operators. -/
namespace Z
open PySem L2
section
variable {K : PySem.W.Frag} {w : World} {α α' : Al} {H H' : Hp} {S : Sto} {p : Addr} {o : HO}
theorem rd_upd {a : Addr} {u : HO} (hp : H p = none) (h : Rd H a u) : Rd (upd H p o) a u := by
  have e : (upd H p o) a = H a := upd_ne fun e => rd_some h (by rw [e]; exact hp)
  rcases h with h | ⟨z, h⟩
  · exact .inl (e.trans h)
  · exact .inr ⟨z, e.trans h⟩
theorem rd_upd_ne {a : Addr} {u : HO} (n : a ≠ p) (h : Rd H a u) : Rd (upd H p o) a u := by
  have e : (upd H p o) a = H a := upd_ne n
  rcases h with h | ⟨z, h⟩
  · exact .inl (e.trans h)
  · exact .inr ⟨z, e.trans h⟩
theorem upd_dom {a : Addr} (h : H a ≠ none) : upd H p o a ≠ none := by
  by_cases e : a = p
  · rw [e, upd_same]; exact fun z => nomatch z
  · rw [upd_ne e]; exact h
theorem stp_new (hh : ∀ b ∈ α.hid, H b ≠ none) (hp : H p = none) : Stp α H α (upd H p o) :=
  ⟨⟨[], by simp, by simp⟩, fun _ h => .inl h, fun _ h => h, fun b h => upd_ne fun e => hh b h (by rw [e]; exact hp), fun a h => upd_dom h, fun a vs h => rd_upd hp h, fun a u _ _ h => rd_upd hp h, fun a vs _ h => by
    rw [upd_ne (ne_of_none h hp)]; exact h, fun a o u h => by rw [upd_ne (ne_of_none h hp)]; exact h⟩
def Al.add (α : Al) (p : Addr) : Al := ⟨α.al ++ [p], α.hid⟩
theorem stp_cell (hh : ∀ b ∈ α.hid, H b ≠ none) (hp : H p = none) : Stp α H (α.add p) (upd H p o) :=
  ⟨⟨[p], rfl, by simpa using hp⟩, fun _ h => .inl h, fun _ h => h, fun b h => upd_ne fun e => hh b h (by rw [e]; exact hp), fun a h => upd_dom h, fun a vs h => rd_upd hp h, fun a u _ _ h => rd_upd hp h, fun a vs _ h => by
    rw [upd_ne (ne_of_none h hp)]; exact h, fun a o u h => by rw [upd_ne (ne_of_none h hp)]; exact h⟩
theorem repF_mono (s : Stp α H α' H') : ∀ {fs : List (Str × D)} {vs : List (Str × V)}, RepF K w α H fs vs → RepF K w α' H' fs vs
  | [], vs, h => h
  | d :: ds, vs, h => by
    obtain ⟨v, r, e, h1, h2⟩ := h
    exact ⟨v, r, e, repD_mono s _ _ h1, repF_mono s h2⟩
theorem repC_mono (s : Stp α H α' H') {c : Cel} {a : Addr} (e : H' a = H a) (h : RepC K w α H c a) : RepC K w α' H' c a := by
  cases c with
  | lst ds => obtain ⟨vs, h1, h2⟩ := h; exact ⟨vs, e.trans h1, repL_mono s _ _ h2⟩
  | dic lk ks ds =>
    obtain ⟨kv, vs, xs, h1, h2, h3, h4⟩ := h
    refine ⟨kv, vs, xs, ?_, h2, repL_mono s _ _ h3, repL_mono s _ _ h4⟩
    rw [e]; exact h1
  | ins c fs => obtain ⟨dx, vs, h1, h2⟩ := h; exact ⟨dx, vs, e.trans h1, repF_mono s h2⟩
theorem repC_some {c : Cel} {a : Addr} (h : RepC K w α H c a) : H a ≠ none := by
  cases c with
  | lst ds => obtain ⟨vs, h1, h2⟩ := h; rw [h1]; exact fun z => nomatch z
  | dic lk ks ds =>
    obtain ⟨kv, vs, xs, h1, h2, h3, h4⟩ := h
    split at h1
    · obtain ⟨o, h1⟩ := h1; rw [h1]; exact fun z => nomatch z
    · rw [h1]; exact fun z => nomatch z
  | ins c fs => obtain ⟨dx, vs, h1, h2⟩ := h; rw [h1]; exact fun z => nomatch z
theorem repC_notup {c : Cel} {a : Addr} (h : RepC K w α H c a) (xs : List V) : ¬ Rd H a (.tup xs) := by
  rintro (q | ⟨o, q⟩)
  · cases c with
    | lst ds => obtain ⟨vs, h1, h2⟩ := h; rw [h1] at q; cases q
    | dic lk ks ds =>
      obtain ⟨kv, vs, ys, h1, h2, h3, h4⟩ := h
      split at h1
      · obtain ⟨o, h1⟩ := h1; rw [h1] at q; cases q
      · rw [h1] at q; cases q
    | ins c fs => obtain ⟨dx, vs, h1, h2⟩ := h; rw [h1] at q; cases q
  · cases c with
    | lst ds => obtain ⟨vs, h1, h2⟩ := h; rw [h1] at q; cases q
    | dic lk ks ds =>
      obtain ⟨kv, vs, ys, h1, h2, h3, h4⟩ := h
      split at h1
      · obtain ⟨o, h1⟩ := h1
        rw [h1] at q
        injection Option.some.inj q with _ e
        cases e
      · rw [h1] at q; cases q
    | ins c fs => obtain ⟨dx, vs, h1, h2⟩ := h; rw [h1] at q; cases q
theorem Rep.some_of (rp : Rep K w α S H) {n : Nat} {a : Addr} (h : α.al[n]? = some a) : ∃ c, S[n]? = some c ∧ RepC K w α H c a := by
  have hn := (List.getElem?_eq_some_iff.mp h).1
  rw [rp.len] at hn
  exact ⟨S[n], List.getElem?_eq_getElem hn, rp.cell n _ a (List.getElem?_eq_getElem hn) h⟩
theorem Rep.mem_some (rp : Rep K w α S H) {a : Addr} (h : α.Has a) : H a ≠ none := by
  rcases h with h | h
  case inr => exact rp.hd a h
  obtain ⟨n, hn⟩ := List.mem_iff_getElem?.mp h
  obtain ⟨c, _, hc⟩ := rp.some_of hn
  exact repC_some hc
theorem Rep.fresh (rp : Rep K w α S H) (hp : H p = none) : ¬ α.Has p := fun h => rp.mem_some h hp
theorem Rep.new (rp : Rep K w α S H) (hp : H p = none) : Rep K w α S (upd H p o) :=
  ⟨rp.nd, rp.len, fun b h => upd_dom (rp.hd b h), rp.dj, fun n c a h1 h2 => by
    have hc := rp.cell n c a h1 h2
    exact repC_mono (stp_new rp.hd hp) (upd_ne fun e => repC_some hc (by rw [e]; exact hp)) hc⟩
theorem Rep.newCell {c : Cel} (rp : Rep K w α S H) (hp : H p = none) (hc : RepC K w (α.add p) (upd H p o) c p) : Rep K w (α.add p) (S ++ [c]) (upd H p o) := by
  refine ⟨List.nodup_append.mpr ⟨rp.nd, by simp, fun a ha b hb e => ?_⟩, by simp [Al.add, rp.len], fun b h => upd_dom (rp.hd b h), fun b h z => ?_, fun n c' a h1 h2 => ?_⟩
  · have e2 : b = p := by simpa using hb
    exact rp.fresh hp (.inl (by rw [← e2, ← e]; exact ha))
  · rcases List.mem_append.mp z with z | z
    · exact rp.dj b h z
    · have e2 : b = p := by simpa using z
      exact rp.hd b h (by rw [e2]; exact hp)
  · by_cases hn : n < S.length
    · rw [List.getElem?_append_left hn] at h1
      have h2 : (α.al ++ [p])[n]? = some a := h2
      rw [List.getElem?_append_left (by rw [rp.len]; exact hn)] at h2
      have h3 := rp.cell n c' a h1 h2
      exact repC_mono (stp_cell rp.hd hp) (upd_ne fun e => repC_some h3 (by rw [e]; exact hp)) h3
    · have hl : n < (S ++ [c]).length := (List.getElem?_eq_some_iff.mp h1).1
      have e : n = S.length := by
        rw [List.length_append] at hl
        simp only [List.length_cons, List.length_nil] at hl
        omega
      have h1' : (S ++ [c])[S.length]? = some c' := by rw [← e]; exact h1
      have h2' : (α.al ++ [p])[α.al.length]? = some a := by rw [rp.len, ← e]; exact h2
      simp at h1' h2'
      subst h1' h2'
      exact hc
/-- a cell's object is another one now -/
theorem stp_set (rp : Rep K w α S H) {n : Nat} {a : Addr} (ha : α.al[n]? = some a) (hf : ∀ o u, H a ≠ some (.frz o u)) : Stp α H α (upd H a o) := by
  obtain ⟨c, _, hc⟩ := rp.some_of ha
  refine ⟨⟨[], by simp, by simp⟩, fun _ h => .inl h, fun _ h => h, fun b h => upd_ne fun e => rp.dj b h (by rw [e]; exact List.mem_of_getElem? ha), fun b h => upd_dom h, fun b vs h => ?_, fun b u _ hb h => ?_, fun b vs hb h => ?_, fun b o u h => by rw [upd_ne fun e => hf o u (by rw [← e]; exact h)]; exact h⟩
  · exact rd_upd_ne (fun e => repC_notup hc vs (by rw [← e]; exact h)) h
  · exact rd_upd_ne (fun e => hb (.inl (by rw [e]; exact List.mem_of_getElem? ha))) h
  · rw [upd_ne fun e => hb (.inl (by rw [e]; exact List.mem_of_getElem? ha))]; exact h
theorem nodup_at {α : List Addr} (h : α.Nodup) {n m : Nat} {a : Addr} (h1 : α[n]? = some a) (h2 : α[m]? = some a) : n = m :=
  (List.getElem?_inj (List.getElem?_eq_some_iff.mp h1).1 h).mp (h1.trans h2.symm)
theorem Rep.setCell (rp : Rep K w α S H) {n : Nat} {a : Addr} {c : Cel} (ha : α.al[n]? = some a) (hf : ∀ o u, H a ≠ some (.frz o u)) (hc : RepC K w α (upd H a o) c a) : Rep K w α (S.set n c) (upd H a o) := by
  refine ⟨rp.nd, by rw [List.length_set]; exact rp.len, fun b h => upd_dom (rp.hd b h), rp.dj, fun m c' b h1 h2 => ?_⟩
  by_cases e : n = m
  · subst e
    have hn := (List.getElem?_eq_some_iff.mp ha).1
    rw [rp.len] at hn
    rw [List.getElem?_set_self hn] at h1
    cases h1
    rw [h2] at ha
    cases ha
    exact hc
  · rw [List.getElem?_set_ne e] at h1
    have h3 := rp.cell m c' b h1 h2
    exact repC_mono (stp_set rp ha hf) (upd_ne fun q => e (nodup_at rp.nd ha (by rw [← q]; exact h2))) h3
/-! ### lists of data -/
theorem RepL.length : ∀ {ds : List D} {vs : List V}, RepL K w α H ds vs → vs.length = ds.length
  | [], vs, h => by unfold RepL at h; rw [h]; rfl
  | d :: ds, vs, h => by
    unfold RepL at h
    obtain ⟨v, r, e, _, h2⟩ := h
    rw [e, List.length_cons, List.length_cons, RepL.length h2]
theorem RepL.get : ∀ {ds : List D} {vs : List V} {i : Nat} {d : D}, RepL K w α H ds vs → ds[i]? = some d → ∃ v, vs[i]? = some v ∧ RepD K w α H d v
  | [], vs, i, d, h, e => by simp at e
  | d :: ds, vs, 0, d', h, e => by
    unfold RepL at h
    obtain ⟨v, r, e1, h1, h2⟩ := h
    simp at e
    subst e e1
    exact ⟨v, rfl, h1⟩
  | d :: ds, vs, i + 1, d', h, e => by
    unfold RepL at h
    obtain ⟨v, r, e1, h1, h2⟩ := h
    subst e1
    exact RepL.get (i := i) h2 (by simpa using e)
theorem RepL.getV : ∀ {ds : List D} {vs : List V} {i : Nat} {v : V}, RepL K w α H ds vs → vs[i]? = some v → ∃ d, ds[i]? = some d ∧ RepD K w α H d v
  | [], vs, i, d, h, e => by unfold RepL at h; rw [h] at e; simp at e
  | d :: ds, vs, 0, d', h, e => by
    unfold RepL at h
    obtain ⟨v, r, e1, h1, h2⟩ := h
    subst e1
    simp at e
    subst e
    exact ⟨d, rfl, h1⟩
  | d :: ds, vs, i + 1, d', h, e => by
    unfold RepL at h
    obtain ⟨v, r, e1, h1, h2⟩ := h
    subst e1
    exact RepL.getV (i := i) h2 (by simpa using e)
theorem RepL.append : ∀ {ds es : List D} {vs ws : List V}, RepL K w α H ds vs → RepL K w α H es ws → RepL K w α H (ds ++ es) (vs ++ ws)
  | [], es, vs, ws, h, q => by unfold RepL at h; rw [h]; exact q
  | d :: ds, es, vs, ws, h, q => by
    unfold RepL at h
    obtain ⟨v, r, e1, h1, h2⟩ := h
    subst e1
    show RepL K w α H (d :: (ds ++ es)) (v :: (r ++ ws))
    unfold RepL
    exact ⟨v, r ++ ws, rfl, h1, RepL.append h2 q⟩
theorem RepL.nil : RepL K w α H [] [] := by unfold RepL; rfl
theorem RepL.cons {d : D} {ds : List D} {v : V} {vs : List V} (h : RepD K w α H d v) (q : RepL K w α H ds vs) : RepL K w α H (d :: ds) (v :: vs) := by unfold RepL; exact ⟨v, vs, rfl, h, q⟩
theorem RepL.one {d : D} {v : V} (h : RepD K w α H d v) : RepL K w α H [d] [v] := .cons h .nil
theorem RepL.take : ∀ {ds : List D} {vs : List V} (n : Nat), RepL K w α H ds vs → RepL K w α H (ds.take n) (vs.take n)
  | ds, vs, 0, h => by rw [List.take_zero, List.take_zero]; exact .nil
  | [], vs, n + 1, h => by unfold RepL at h; rw [h, List.take_nil]; exact .nil
  | d :: ds, vs, n + 1, h => by
    unfold RepL at h
    obtain ⟨v, r, e1, h1, h2⟩ := h
    subst e1
    exact .cons h1 (RepL.take n h2)
theorem RepL.drop : ∀ {ds : List D} {vs : List V} (n : Nat), RepL K w α H ds vs → RepL K w α H (ds.drop n) (vs.drop n)
  | ds, vs, 0, h => h
  | [], vs, n + 1, h => by unfold RepL at h; rw [h, List.drop_nil]; exact .nil
  | d :: ds, vs, n + 1, h => by
    unfold RepL at h
    obtain ⟨v, r, e1, h1, h2⟩ := h
    subst e1
    exact RepL.drop n h2
theorem RepL.set : ∀ {ds : List D} {vs : List V} {d : D} {v : V} (n : Nat), RepL K w α H ds vs → RepD K w α H d v → RepL K w α H (ds.set n d) (vs.set n v)
  | [], vs, d, v, n, h, q => by unfold RepL at h; rw [h]; exact .nil
  | e :: ds, vs, d, v, 0, h, q => by
    unfold RepL at h
    obtain ⟨w, r, e1, h1, h2⟩ := h
    subst e1
    exact .cons q h2
  | e :: ds, vs, d, v, n + 1, h, q => by
    unfold RepL at h
    obtain ⟨w, r, e1, h1, h2⟩ := h
    subst e1
    exact .cons h1 (RepL.set n h2 q)
theorem RepL.replicate {ds : List D} {vs : List V} (h : RepL K w α H ds vs) : ∀ n : Nat, RepL K w α H (List.replicate n ds).flatten (List.replicate n vs).flatten
  | 0 => .nil
  | n + 1 => by
    rw [List.replicate_succ, List.replicate_succ, List.flatten_cons, List.flatten_cons]
    exact h.append (RepL.replicate h n)
theorem RepL.ints : ∀ {ns : List Int} {vs : List V}, RepL K w α H (ns.map D.int) vs → vs = ns.map V.int
  | [], vs, h => by unfold RepL at h; exact h
  | n :: ns, vs, h => by
    rw [List.map_cons] at h
    unfold RepL at h
    obtain ⟨w, r, e1, h1, h2⟩ := h
    unfold RepD at h1
    rw [e1, h1, RepL.ints h2, List.map_cons]
theorem RepL.bls : ∀ {ns : List Bool} {vs : List V}, RepL K w α H (ns.map D.bl) vs → vs = ns.map V.bl
  | [], vs, h => by unfold RepL at h; exact h
  | n :: ns, vs, h => by
    rw [List.map_cons] at h
    unfold RepL at h
    obtain ⟨w, r, e1, h1, h2⟩ := h
    unfold RepD at h1
    rw [e1, h1, RepL.bls h2, List.map_cons]
theorem RepL.strs : ∀ {ns : List Str} {vs : List V}, RepL K w α H (ns.map D.str) vs → vs = ns.map V.str
  | [], vs, h => by unfold RepL at h; exact h
  | n :: ns, vs, h => by
    rw [List.map_cons] at h
    unfold RepL at h
    obtain ⟨w, r, e1, h1, h2⟩ := h
    unfold RepD at h1
    rw [e1, h1, RepL.strs h2, List.map_cons]
theorem RepL.ofInts : ∀ {ns : List Int}, RepL K w α H (ns.map D.int) (ns.map V.int)
  | [] => .nil
  | n :: ns => .cons (by unfold RepD; rfl) RepL.ofInts
theorem RepL.ofStrs : ∀ {ns : List Str}, RepL K w α H (ns.map D.str) (ns.map V.str)
  | [] => .nil
  | n :: ns => .cons (by unfold RepD; rfl) RepL.ofStrs
end
section
variable {X : Cx} {E : XK} {α : Al} {H : Hp} {S : Sto} {p : Addr}
/-- a new tuple, a new list, a new cell -/
theorem post_tup {ds : List D} {vs : List V} {Q : VK} {K : PySem.W.Frag} {w : World} (rp : Rep K w α S H) (r : RepL K w α H ds vs) (h : Post K w (RepD K w) E α H (.val (.tup ds) S) Q) (hp : H p = none) : Q (.ref p) (upd H p (.tup vs)) :=
  h α _ _ (stp_new rp.hd hp) (rp.new hp) (by unfold RepD; exact ⟨p, vs, rfl, SqT.of upd_same, repL_mono (stp_new rp.hd hp) _ _ r⟩)
theorem post_lst {ds : List D} {vs : List V} {Q : VK} {K : PySem.W.Frag} {w : World} (rp : Rep K w α S H) (r : RepL K w α H ds vs) (h : Post K w (RepD K w) E α H (.val (.lst ds) S) Q) (hp : H p = none) : Q (.ref p) (upd H p (.lst vs)) :=
  h α _ _ (stp_new rp.hd hp) (rp.new hp) (by unfold RepD; exact ⟨p, vs, rfl, rp.fresh hp, upd_same, repL_mono (stp_new rp.hd hp) _ _ r⟩)
theorem post_cell {ds : List D} {vs : List V} {Q : VK} {K : PySem.W.Frag} {w : World} (rp : Rep K w α S H) (r : RepL K w α H ds vs) (h : Post K w (RepD K w) E α H (.val (.ref S.length) (S ++ [.lst ds])) Q) (hp : H p = none) : Q (.ref p) (upd H p (.lst vs)) :=
  h (α.add p) _ _ (stp_cell rp.hd hp) (rp.newCell hp ⟨vs, upd_same, repL_mono (stp_cell rp.hd hp) _ _ r⟩) (by unfold RepD; exact ⟨p, rfl, by rw [← rp.len]; simp [Al.add]⟩)
end
end Z
set_option Elab.async false
set_option linter.all false
set_option maxRecDepth 100000
set_option maxHeartbeats 1000000
/-! Z3: expressions. -/
namespace Z
open PySem L2
/-! ### shallow functions -/
@[simp] def eVar (i : Nat) : Rho → M D := fun ρ S => match ρ[i]? with
  | some (some d) => .val d S
  | _ => .stuck
@[simp] def eC (d : D) : Rho → M D := fun _ S => .val d S
@[simp] def eOp (f : D → D → M D) (a b : Rho → M D) : Rho → M D := fun ρ S => (a ρ S).bind fun x S1 => (b ρ S1).bind fun y S2 => f x y S2
@[simp] def eUn (f : D → M D) (a : Rho → M D) : Rho → M D := fun ρ S => (a ρ S).bind fun x S1 => f x S1
@[simp] def eIf (c : Rho → M Bool) (a b : Rho → M D) : Rho → M D := fun ρ S => (c ρ S).bind fun q S1 => if q = true then a ρ S1 else b ρ S1
@[simp] def bAnd (a b : Rho → M Bool) : Rho → M Bool := fun ρ S => (a ρ S).bind fun q S1 => if q = true then b ρ S1 else .val false S1
@[simp] def bOr (a b : Rho → M Bool) : Rho → M Bool := fun ρ S => (a ρ S).bind fun q S1 => if q = true then .val true S1 else b ρ S1
@[simp] def bNot (a : Rho → M Bool) : Rho → M Bool := fun ρ S => (a ρ S).bind fun q S1 => .val (!q) S1
/-- a value that is a bool -/
@[simp] def isBl : D → M Bool := fun d S => match d with
  | .bl b => .val b S
  | _ => .stuck
@[simp] def bVal (a : Rho → M D) : Rho → M Bool := fun ρ S => (a ρ S).bind isBl
@[simp] def eAnd (a b : Rho → M D) : Rho → M D := fun ρ S => (a ρ S).bind fun x S1 => (isBl x S1).bind fun q S2 => if q = true then b ρ S2 else .val (.bl false) S2
@[simp] def eOr (a b : Rho → M D) : Rho → M D := fun ρ S => (a ρ S).bind fun x S1 => (isBl x S1).bind fun q S2 => if q = true then .val (.bl true) S2 else b ρ S2
@[simp] def eNot (a : Rho → M D) : Rho → M D := fun ρ S => (a ρ S).bind fun x S1 => (isBl x S1).bind fun q S2 => .val (.bl (!q)) S2
@[simp] def aNil : Rho → M (List D) := fun _ S => .val [] S
@[simp] def aCons (a : Rho → M D) (r : Rho → M (List D)) : Rho → M (List D) := fun ρ S => (a ρ S).bind fun x S1 => (r ρ S1).bind fun xs S2 => .val (x :: xs) S2
@[simp] def eTup (a : Rho → M (List D)) : Rho → M D := fun ρ S => (a ρ S).bind fun xs S1 => .val (.tup xs) S1
/-- a new list: as a value, as a cell -/
@[simp] def eLst (a : Rho → M (List D)) : Rho → M D := fun ρ S => (a ρ S).bind fun xs S1 => .val (.lst xs) S1
@[simp] def eCel (a : Rho → M (List D)) : Rho → M D := fun ρ S => (a ρ S).bind fun xs S1 => .val (.ref S1.length) (S1 ++ [.lst xs])

section
variable {X : Cx} {E : XK} {pos : Pos} {e e1 e2 c : Expr} {es : List Expr} {f f1 f2 : Rho → M D} {g : Rho → M (List D)} {t t1 t2 : Rho → M Bool}

theorem ze_var {i : Nat} {x : Str} (h : PE X (.Name x pos) (tVar i)) : ZE X E (.Name x pos) (eVar i) := PE.weak h fun σ H Q ⟨α, S, ρ, rp, re, q⟩ => by
  unfold eVar at q
  split at q
  · rename_i d hd
    obtain ⟨v, h1, h2⟩ := re.at_ i d hd
    exact ⟨v, h1, q.now rp h2⟩
  · exact q.elim
theorem ze_c {d : D} {v : V} (h : PE X e (tC v)) (r : ∀ α H, RepD X.K X.w α H d v) : ZE X E e (eC d) := PE.weak h fun σ H Q ⟨α, S, ρ, rp, re, q⟩ => Post.now q rp (r α H)
theorem ze_int {i : Int} {j} : ZE X E (.Constant (.int i) j pos) (eC (.int i)) := ze_c pe_int fun _ _ => by unfold RepD; rfl
theorem ze_bl {b : Bool} {j} : ZE X E (.Constant (.bool b) j pos) (eC (.bl b)) := ze_c pe_bl fun _ _ => by unfold RepD; rfl
theorem ze_non {j} : ZE X E (.Constant .none j pos) (eC .non) := ze_c pe_non fun _ _ => by unfold RepD; rfl
theorem ze_str {x : Str} {j} : ZE X E (.Constant (.str x) j pos) (eC (.str x)) := ze_c pe_str fun _ _ => by unfold RepD; rfl

/-- an operation by data -/
def OpS (X : Cx) (E : XK) (r : R2) (op : D → D → M D) : Prop :=
  ∀ (α : Al) (S : Sto) (H : Hp) (d e : D) (v u : V) (Q : VK), Rep X.K X.w α S H → RepD X.K X.w α H d v → RepD X.K X.w α H e u → Post X.K X.w (RepD X.K X.w) E α H (op d e S) Q → r v u H Q
theorem two {r : R2} {op : D → D → M D} (hs : OpS X E r op) {σ : St} {H : Hp} {Q : VK} (h : lift X.K X.w E (eOp op f1 f2) σ H Q) : tOp r (lift X.K X.w E f1) (lift X.K X.w E f2) σ H Q := by
  obtain ⟨α, S, ρ, rp, re, q⟩ := h
  refine ⟨α, S, ρ, rp, re, Post.step q fun d S1 α1 H1 v _ st rp1 r1 q1 => ?_⟩
  refine ⟨α1, S1, ρ, rp1, re.mono st, Post.step q1 fun e S2 α2 H2 u _ st2 rp2 r2 q2 => ?_⟩
  exact hs α2 S2 H2 d e v u Q rp2 (repD_mono st2 d v r1) r2 q2
theorem ze_op {o : Operator} {r : R2} {op : D → D → M D} (ho : OpR X (binaryOp o) r) (hs : OpS X E r op) (h1 : ZE X E e1 f1) (h2 : ZE X E e2 f2) : ZE X E (.BinOp e1 o e2 pos) (eOp op f1 f2) :=
  PE.weak (pe_op ho h1 h2) fun σ H Q => two hs
theorem ze_cmp {o : CmpOp} {r : R2} {op : D → D → M D} (ho : OpR X (compareOp o) r) (hs : OpS X E r op) (h1 : ZE X E e1 f1) (h2 : ZE X E e2 f2) (hm : behindInMarks o e2 = false) : ZE X E (.Compare e1 [o] [e2] pos) (eOp op f1 f2) :=
  PE.weak (pe_cmpR ho h1 h2 hm) fun σ H Q => two hs
/-- a test by a value -/
theorem val_test {σ : St} {H : Hp} {Q : Bool → Hp → Prop} (h : liftB X.K X.w E (bVal f) σ H Q) : lift X.K X.w E f σ H fun x H1 => ∃ k, x = .bl k ∧ Q k H1 := by
  obtain ⟨α, S, ρ, rp, re, q⟩ := h
  refine ⟨α, S, ρ, rp, re, Post.step q fun d S1 α1 H1 v _ st rp1 r1 q1 => ?_⟩
  unfold isBl at q1
  split at q1
  · unfold RepD at r1
    exact ⟨_, r1, q1.now rp1 rfl⟩
  · exact q1.elim
theorem zt_cmp {o : CmpOp} {r : R2} {op : D → D → M D} (ho : OpR X (compareOp o) r) (hs : OpS X E r op) (h1 : ZE X E e1 f1) (h2 : ZE X E e2 f2) (hm : behindInMarks o e2 = false) : ZT X E (.Compare e1 [o] [e2] pos) (bVal (eOp op f1 f2)) :=
  PT.weak (pt_cmpR ho h1 h2 hm) fun σ H Q h => two hs (val_test h)
theorem zt_val (h : ZE X E e f) (he : ∀ whole, isTrue e X.env whole = (do let v ← whole; standAt e.pos; holding [v] (truthy v)) := by intro _; rfl) : ZT X E e (bVal f) :=
  PT.weak (pt_val h he) fun σ H Q h => val_test h
/-! and, or, not -/
abbrev ZW (X : Cx) (E : XK) (e : Expr) (f : Rho → M Bool) : Prop := PW X e (liftB X.K X.w E f)
theorem PW.weak {t t' : TT} (h : PW X e t) (k : ∀ σ H Q, t' σ H Q → t σ H Q) : PW X e t' := ⟨fun wh pins s σ H Q I q => h.run wh pins s σ H Q I (k σ H Q q)⟩
theorem zw_and1 (h : ZT X E e t) : ZW X E (.BoolOp .And [e] pos) t := pw_and1 h
theorem zw_or1 (h : ZT X E e t) : ZW X E (.BoolOp .Or [e] pos) t := pw_or1 h
theorem zw_and (h1 : ZT X E e1 t1) (h2 : ZW X E (.BoolOp .And (e2 :: es) pos) t2) : ZW X E (.BoolOp .And (e1 :: e2 :: es) pos) (bAnd t1 t2) := PW.weak (pw_and h1 h2) fun σ H Q ⟨α, S, ρ, rp, re, q⟩ => by
  refine ⟨α, S, ρ, rp, re, Post.step q fun b S1 α1 H1 v _ st rp1 r1 q1 => ?_⟩
  subst r1
  cases b with
  | true => exact ⟨α1, S1, ρ, rp1, re.mono st, q1⟩
  | false => exact Post.now q1 rp1 rfl
theorem zw_or (h1 : ZT X E e1 t1) (h2 : ZW X E (.BoolOp .Or (e2 :: es) pos) t2) : ZW X E (.BoolOp .Or (e1 :: e2 :: es) pos) (bOr t1 t2) := PW.weak (pw_or h1 h2) fun σ H Q ⟨α, S, ρ, rp, re, q⟩ => by
  refine ⟨α, S, ρ, rp, re, Post.step q fun b S1 α1 H1 v _ st rp1 r1 q1 => ?_⟩
  subst r1
  cases b with
  | false => exact ⟨α1, S1, ρ, rp1, re.mono st, q1⟩
  | true => exact Post.now q1 rp1 rfl
theorem zt_w (h : ZW X E e t) : ZT X E e t := h.pt
theorem zt_not (h : ZT X E e t) : ZT X E (.UnaryOp .Not e pos) (bNot t) := PT.weak (pt_not h) fun σ H Q ⟨α, S, ρ, rp, re, q⟩ => by
  refine ⟨α, S, ρ, rp, re, Post.step q fun b S1 α1 H1 v _ st rp1 r1 q1 => ?_⟩
  subst r1
  exact Post.now q1 rp1 rfl
theorem ze_one {o} (h : ZE X E e f) : ZE X E (.BoolOp o [e] pos) f := pe_one h
theorem ze_and (h1 : ZE X E e1 f1) (h2 : ZE X E (.BoolOp .And (e2 :: es) pos) f2) : ZE X E (.BoolOp .And (e1 :: e2 :: es) pos) (eAnd f1 f2) := PE.weak (pe_and h1 h2) fun σ H Q ⟨α, S, ρ, rp, re, q⟩ => by
  refine ⟨α, S, ρ, rp, re, Post.step q fun x S1 α1 H1 v _ st rp1 r1 q1 => ?_⟩
  cases x with
  | bl b =>
    unfold RepD at r1
    refine ⟨b, r1, ?_⟩
    cases b with
    | true => exact ⟨α1, S1, ρ, rp1, re.mono st, q1⟩
    | false => exact Post.now q1 rp1 (by unfold RepD; rfl)
  | _ => exact q1.elim
theorem ze_or (h1 : ZE X E e1 f1) (h2 : ZE X E (.BoolOp .Or (e2 :: es) pos) f2) : ZE X E (.BoolOp .Or (e1 :: e2 :: es) pos) (eOr f1 f2) := PE.weak (pe_or h1 h2) fun σ H Q ⟨α, S, ρ, rp, re, q⟩ => by
  refine ⟨α, S, ρ, rp, re, Post.step q fun x S1 α1 H1 v _ st rp1 r1 q1 => ?_⟩
  cases x with
  | bl b =>
    unfold RepD at r1
    refine ⟨b, r1, ?_⟩
    cases b with
    | false => exact ⟨α1, S1, ρ, rp1, re.mono st, q1⟩
    | true => exact Post.now q1 rp1 (by unfold RepD; rfl)
  | _ => exact q1.elim
theorem ze_not (h : ZE X E e f) : ZE X E (.UnaryOp .Not e pos) (eNot f) := PE.weak (pe_not h) fun σ H Q ⟨α, S, ρ, rp, re, q⟩ => by
  refine ⟨α, S, ρ, rp, re, Post.step q fun x S1 α1 H1 v _ st rp1 r1 q1 => ?_⟩
  cases x with
  | bl b =>
    unfold RepD at r1
    exact ⟨b, r1, Post.now q1 rp1 (by unfold RepD; rfl)⟩
  | _ => exact q1.elim
theorem ze_if (h0 : ZT X E c t) (h1 : ZE X E e1 f1) (h2 : ZE X E e2 f2) : ZE X E (.IfExp c e1 e2 pos) (eIf t f1 f2) := PE.weak (pe_ifExp h0 h1 h2) fun σ H Q ⟨α, S, ρ, rp, re, q⟩ => by
  refine ⟨α, S, ρ, rp, re, Post.step q fun b S1 α1 H1 v _ st rp1 r1 q1 => ?_⟩
  subst r1
  cases b with
  | true => exact ⟨α1, S1, ρ, rp1, re.mono st, q1⟩
  | false => exact ⟨α1, S1, ρ, rp1, re.mono st, q1⟩
/-! lists of arguments, displays -/
theorem za_nil : ZA X E [] aNil := PA.weak pa_nil fun σ H Q ⟨α, S, ρ, rp, re, q⟩ => Post.now q rp RepL.nil
theorem za_cons (h1 : ZE X E e f) (h2 : ZA X E es g) (hs : starEach (e :: es) X.env = (false, eval e X.env) :: starEach es X.env := by rfl) : ZA X E (e :: es) (aCons f g) :=
  PA.weak (pa_cons h1 h2 hs) fun σ H Q ⟨α, S, ρ, rp, re, q⟩ => by
    refine ⟨α, S, ρ, rp, re, Post.step q fun x S1 α1 H1 v _ st rp1 r1 q1 => ?_⟩
    refine ⟨α1, S1, ρ, rp1, re.mono st, Post.step q1 fun xs S2 α2 H2 vs _ st2 rp2 r2 q2 => ?_⟩
    exact Post.now q2 rp2 (RepL.cons (repD_mono st2 x v r1) r2)
theorem small_sz {n : Nat} (h : n ≤ 100000) : n ≤ sizeLine := Nat.le_trans h (by decide)
/-- how long an argument list comes to be -/
def LenIs (g : Rho → M (List D)) (n : Nat) : Prop := ∀ ρ S xs S1, g ρ S = .val xs S1 → xs.length = n
theorem len_nil : LenIs aNil 0 := fun ρ S xs S1 h => by cases h; rfl
theorem len_cons {n : Nat} (h : LenIs g n) : LenIs (aCons f g) (n + 1) := fun ρ S xs S1 q => by
  unfold aCons Out.bind at q
  split at q
  · dsimp only at q
    split at q
    · rename_i h2
      cases q
      rw [List.length_cons, h _ _ _ _ h2]
    · cases q
    · cases q
  · cases q
  · cases q
theorem ze_tup {n k : Nat} (h : ZA X E es g) (hl : LenIs g n) (hn : n ≤ 100000 := by decide) : ZE X E (.Tuple es k pos) (eTup g) := PE.weak (pe_tup h) fun σ H Q ⟨α, S, ρ, rp, re, q⟩ => by
  refine ⟨α, S, ρ, rp, re, Post.step q fun xs S1 α1 H1 vs e st rp1 r1 q1 => ?_⟩
  exact ⟨small_sz (by rw [r1.length, hl _ _ _ _ e]; exact hn), fun p hp => post_tup rp1 r1 q1 hp⟩
theorem ze_lst {n : Nat} (h : ZA X E es g) (hl : LenIs g n) (hn : n ≤ 100000 := by decide) : ZE X E (.List es pos) (eLst g) := PE.weak (pe_lst h) fun σ H Q ⟨α, S, ρ, rp, re, q⟩ => by
  refine ⟨α, S, ρ, rp, re, Post.step q fun xs S1 α1 H1 vs e st rp1 r1 q1 => ?_⟩
  exact ⟨small_sz (by rw [r1.length, hl _ _ _ _ e]; exact hn), fun p hp => post_lst rp1 r1 q1 hp⟩
theorem ze_cel {n : Nat} (h : ZA X E es g) (hl : LenIs g n) (hn : n ≤ 100000 := by decide) : ZE X E (.List es pos) (eCel g) := PE.weak (pe_lst h) fun σ H Q ⟨α, S, ρ, rp, re, q⟩ => by
  refine ⟨α, S, ρ, rp, re, Post.step q fun xs S1 α1 H1 vs e st rp1 r1 q1 => ?_⟩
  exact ⟨small_sz (by rw [r1.length, hl _ _ _ _ e]; exact hn), fun p hp => post_cell rp1 r1 q1 hp⟩
end
end Z
set_option Elab.async false
set_option linter.all false
set_option maxRecDepth 100000
set_option maxHeartbeats 1000000
/-! Z4: operators. -/
namespace Z
open PySem L2
def mulOk (i j : Int) : Bool := (decide (-(2 ^ 64) < i) && decide (i < 2 ^ 64)) || (decide (-(2 ^ 64) < j) && decide (j < 2 ^ 64)) || decide (i.natAbs.log2 + j.natAbs.log2 < 1000000)
/-- the items of a list, of a list's cell -/
def seqL (S : Sto) : D → Option (List D)
  | .lst ds => some ds
  | .wl ds => some ds
  | .ref n => match S[n]? with
    | some (.lst ds) => some ds
    | _ => none
  | _ => none
/-- the items of a list that may be joined -/
def seqM (S : Sto) : D → Option (List D)
  | .lst ds => some ds
  | .ref n => match S[n]? with
    | some (.lst ds) => some ds
    | _ => none
  | _ => none
def opAdd : D → D → M D := fun x y S => match x, y with
  | .int i, .int j => .val (.int (i + j)) S
  | .str a, .str b => if a.length + b.length ≤ sizeLine then .val (.str (a ++ b)) S else .stuck
  | .tup a, .tup b => if a.length + b.length ≤ sizeLine then .val (.tup (a ++ b)) S else .stuck
  | x, y => match seqM S x, seqM S y with
    | some a, some b => if a.length + b.length ≤ sizeLine then .val (.lst (a ++ b)) S else .stuck
    | _, _ => .stuck
def opSub : D → D → M D := fun x y S => match x, y with
  | .int i, .int j => .val (.int (i - j)) S
  | _, _ => .stuck
def opMul : D → D → M D := fun x y S => match x, y with
  | .int i, .int j => if mulOk i j = true then .val (.int (i * j)) S else .stuck
  | .tup a, .int j => if a ≠ [] ∧ 2 ≤ j ∧ j ≤ 1000 ∧ a.length ≤ 1000 then .val (.tup (List.replicate j.toNat a).flatten) S else .stuck
  | x, .int j => match seqM S x with
    | some a => if -(2 ^ 63) ≤ j ∧ j < 2 ^ 63 ∧ a.length * j.toNat ≤ sizeLine then .val (.lst (List.replicate j.toNat a).flatten) S else .stuck
    | none => .stuck
  | _, _ => .stuck
def opDiv : D → D → M D := fun x y S => match x, y with
  | .int i, .int j => if 0 < j ∧ j.natAbs.log2 < 9000 then .val (.int (i / j)) S else .stuck
  | _, _ => .stuck
def opMod : D → D → M D := fun x y S => match x, y with
  | .int i, .int j => if 0 < j then .val (.int (i % j)) S else .stuck
  | _, _ => .stuck
def opPow : D → D → M D := fun x y S => match x, y with
  | .int i, .int j => if 0 ≤ j ∧ j ≤ 1000000 ∧ i.natAbs < 2 ^ 64 then .val (.int (i ^ j.toNat)) S else .stuck
  | _, _ => .stuck
def opLt : D → D → M D := fun x y S => match x, y with
  | .int i, .int j => .val (.bl (decide (i < j))) S
  | .str a, .str b => .val (.bl (decide (a.cps.toList < b.cps.toList))) S
  | _, _ => .stuck
def opLe : D → D → M D := fun x y S => match x, y with
  | .int i, .int j => .val (.bl (decide (i ≤ j))) S
  | _, _ => .stuck
def opGt : D → D → M D := fun x y S => match x, y with
  | .int i, .int j => .val (.bl (decide (j < i))) S
  | _, _ => .stuck
def opGe : D → D → M D := fun x y S => match x, y with
  | .int i, .int j => .val (.bl (decide (j ≤ i))) S
  | _, _ => .stuck
def isNon : D → Bool
  | .non => true
  | _ => false
def opIs : D → D → M D := fun x y S => if isNon y = true then .val (.bl (isNon x)) S else .stuck
def opIsNot : D → D → M D := fun x y S => if isNon y = true then .val (.bl (!isNon x)) S else .stuck
@[simp] theorem opAdd_int (i j : Int) (S : Sto) : opAdd (.int i) (.int j) S = .val (.int (i + j)) S := rfl
@[simp] theorem opSub_int (i j : Int) (S : Sto) : opSub (.int i) (.int j) S = .val (.int (i - j)) S := rfl
@[simp] theorem opLt_int (i j : Int) (S : Sto) : opLt (.int i) (.int j) S = .val (.bl (decide (i < j))) S := rfl
@[simp] theorem opLe_int (i j : Int) (S : Sto) : opLe (.int i) (.int j) S = .val (.bl (decide (i ≤ j))) S := rfl
@[simp] theorem opGt_int (i j : Int) (S : Sto) : opGt (.int i) (.int j) S = .val (.bl (decide (j < i))) S := rfl
@[simp] theorem opGe_int (i j : Int) (S : Sto) : opGe (.int i) (.int j) S = .val (.bl (decide (j ≤ i))) S := rfl
@[simp] theorem opMul_int (i j : Int) (S : Sto) : opMul (.int i) (.int j) S = if mulOk i j = true then .val (.int (i * j)) S else .stuck := rfl
@[simp] theorem opDiv_int (i j : Int) (S : Sto) : opDiv (.int i) (.int j) S = if 0 < j ∧ j.natAbs.log2 < 9000 then .val (.int (i / j)) S else .stuck := rfl
@[simp] theorem opMod_int (i j : Int) (S : Sto) : opMod (.int i) (.int j) S = if 0 < j then .val (.int (i % j)) S else .stuck := rfl
@[simp] theorem opPow_int (i j : Int) (S : Sto) : opPow (.int i) (.int j) S = if 0 ≤ j ∧ j ≤ 1000000 ∧ i.natAbs < 2 ^ 64 then .val (.int (i ^ j.toNat)) S else .stuck := rfl
@[simp] theorem opAdd_tup (a b : List D) (S : Sto) : opAdd (.tup a) (.tup b) S = if a.length + b.length ≤ sizeLine then .val (.tup (a ++ b)) S else .stuck := rfl
@[simp] theorem opAdd_str (a b : Str) (S : Sto) : opAdd (.str a) (.str b) S = if a.length + b.length ≤ sizeLine then .val (.str (a ++ b)) S else .stuck := rfl
@[simp] theorem opAdd_lst (a b : List D) (S : Sto) : opAdd (.lst a) (.lst b) S = if a.length + b.length ≤ sizeLine then .val (.lst (a ++ b)) S else .stuck := rfl
@[simp] theorem opIs_non (x : D) (S : Sto) : opIs x .non S = .val (.bl (isNon x)) S := rfl
@[simp] theorem opIsNot_non (x : D) (S : Sto) : opIsNot x .non S = .val (.bl (!isNon x)) S := rfl

section
variable {K : PySem.W.Frag} {w : World} {α : Al} {H : Hp} {S : Sto} {d : D} {v : V}
theorem rep_int {i : Int} (h : RepD K w α H (.int i) v) : v = .int i := by unfold RepD at h; exact h
theorem rep_str {i : Str} (h : RepD K w α H (.str i) v) : v = .str i := by unfold RepD at h; exact h
theorem rep_bl {i : Bool} (h : RepD K w α H (.bl i) v) : v = .bl i := by unfold RepD at h; exact h
theorem rep_non (h : RepD K w α H .non v) : v = .non := by unfold RepD at h; exact h
theorem rep_tup {ds : List D} (h : RepD K w α H (.tup ds) v) : ∃ a vs, v = .ref a ∧ SqT K H a vs ∧ RepL K w α H ds vs := by unfold RepD at h; exact h
theorem repI (i : Int) : RepD K w α H (.int i) (.int i) := by unfold RepD; rfl
theorem repS (i : Str) : RepD K w α H (.str i) (.str i) := by unfold RepD; rfl
theorem repB (i : Bool) : RepD K w α H (.bl i) (.bl i) := by unfold RepD; rfl
theorem repN : RepD K w α H .non .non := by unfold RepD; rfl
theorem repT {ds : List D} {a : Addr} {vs : List V} (h : SqT K H a vs) (r : RepL K w α H ds vs) : RepD K w α H (.tup ds) (.ref a) := by unfold RepD; exact ⟨a, vs, rfl, h, r⟩
theorem seqM_rep {ds : List D} (rp : Rep K w α S H) (h : seqM S d = some ds) (r : RepD K w α H d v) : ∃ a vs, v = .ref a ∧ H a = some (.lst vs) ∧ RepL K w α H ds vs := by
  unfold seqM at h
  split at h
  · cases h
    unfold RepD at r
    obtain ⟨a, vs, e, _, q, l⟩ := r
    exact ⟨a, vs, e, q, l⟩
  · rename_i n
    split at h
    · rename_i ds' hn
      cases h
      unfold RepD at r
      obtain ⟨a, e, q⟩ := r
      obtain ⟨vs, h1, h2⟩ := rp.cell n _ a hn q
      exact ⟨a, vs, e, h1, h2⟩
    · cases h
  · cases h
theorem seqL_rep {ds : List D} (rp : Rep K w α S H) (h : seqL S d = some ds) (r : RepD K w α H d v) : ∃ a vs, v = .ref a ∧ SqL K H a vs ∧ RepL K w α H ds vs := by
  unfold seqL at h
  split at h
  · cases h
    unfold RepD at r
    obtain ⟨a, vs, e, _, q, l⟩ := r
    exact ⟨a, vs, e, SqL.of q, l⟩
  · cases h
    unfold RepD at r
    obtain ⟨a, vs, e, q, l⟩ := r
    refine ⟨a, vs, e, ?_, l⟩
    rcases q with ⟨_, q⟩ | q
    · exact .inl q
    · exact .inr q
  · rename_i n
    split at h
    · rename_i ds' hn
      cases h
      unfold RepD at r
      obtain ⟨a, e, q⟩ := r
      obtain ⟨vs, h1, h2⟩ := rp.cell n _ a hn q
      exact ⟨a, vs, e, SqL.of h1, h2⟩
    · cases h
  · cases h
theorem isNon_rep (h : RepD K w α H d v) : decide (v = .non) = isNon d := by
  cases d with
  | non => rw [rep_non h]; rfl
  | int i => rw [rep_int h]; rfl
  | str i => rw [rep_str h]; rfl
  | bl i => rw [rep_bl h]; rfl
  | _ =>
    unfold RepD at h
    obtain ⟨a, h⟩ := h
    first
      | (obtain ⟨_, _, _, e, _⟩ := h; rw [e]; rfl)
      | (obtain ⟨_, e, _⟩ := h; rw [e]; rfl)
      | (obtain ⟨e, _⟩ := h; rw [e]; rfl)
end
section
variable {X : Cx} {E : XK}
theorem OpS.ints {g : Int → Int → V} {op : D → D → M D} {C : Int → Int → Prop} (z : Int → Int → D) (hz : ∀ α H i j, RepD X.K X.w α H (z i j) (g i j)) (h : ∀ i j S (o : Out D), op (.int i) (.int j) S = o → (o = .stuck ∨ (C i j ∧ o = .val (z i j) S)))
    (h2 : ∀ x y S, op x y S = .stuck ∨ ∃ i j, x = .int i ∧ y = .int j) : OpS X E (rI C g) op := fun α S H d e v u Q rp r1 r2 q => by
  rcases h2 d e S with b | ⟨i, j, rfl, rfl⟩
  · rw [b] at q; exact q.elim
  · rcases h i j S _ rfl with b | ⟨c, b⟩
    · rw [b] at q; exact q.elim
    · rw [b] at q
      exact ⟨i, j, rep_int r1, rep_int r2, c, q.now rp (hz α H i j)⟩
theorem os_sub : OpS X E (rI0 fun i j => .int (i - j)) opSub := fun α S H d e v u Q rp r1 r2 q => by
  unfold opSub at q
  split at q
  · exact ⟨_, _, rep_int r1, rep_int r2, q.now rp (repI _)⟩
  · exact q.elim
theorem os_le : OpS X E (rI0 fun i j => .bl (decide (i ≤ j))) opLe := fun α S H d e v u Q rp r1 r2 q => by
  unfold opLe at q
  split at q
  · exact ⟨_, _, rep_int r1, rep_int r2, q.now rp (repB _)⟩
  · exact q.elim
theorem os_gt : OpS X E (rI0 fun i j => .bl (decide (j < i))) opGt := fun α S H d e v u Q rp r1 r2 q => by
  unfold opGt at q
  split at q
  · exact ⟨_, _, rep_int r1, rep_int r2, q.now rp (repB _)⟩
  · exact q.elim
theorem os_ge : OpS X E (rI0 fun i j => .bl (decide (j ≤ i))) opGe := fun α S H d e v u Q rp r1 r2 q => by
  unfold opGe at q
  split at q
  · exact ⟨_, _, rep_int r1, rep_int r2, q.now rp (repB _)⟩
  · exact q.elim
def rLt : R2 := fun x y H Q => (∃ i j, x = .int i ∧ y = .int j ∧ Q (.bl (decide (i < j))) H) ∨ ∃ i j, x = .str i ∧ y = .str j ∧ Q (.bl (decide (i.cps.toList < j.cps.toList))) H
theorem op_ltZ : OpR X (compareOp .Lt) rLt := op_lt.or op_lt_str
theorem os_lt : OpS X E rLt opLt := fun α S H d e v u Q rp r1 r2 q => by
  unfold opLt at q
  split at q
  · exact .inl ⟨_, _, rep_int r1, rep_int r2, q.now rp (repB _)⟩
  · exact .inr ⟨_, _, rep_str r1, rep_str r2, q.now rp (repB _)⟩
  · exact q.elim
theorem os_div : OpS X E (rI CDivW fun i j => .int (i / j)) opDiv := fun α S H d e v u Q rp r1 r2 q => by
  unfold opDiv at q
  split at q
  · split at q
    · rename_i c
      exact ⟨_, _, rep_int r1, rep_int r2, c, q.now rp (repI _)⟩
    · exact q.elim
  · exact q.elim
theorem os_mod : OpS X E (rI (fun _ j => 0 < j) fun i j => .int (i % j)) opMod := fun α S H d e v u Q rp r1 r2 q => by
  unfold opMod at q
  split at q
  · split at q
    · rename_i c
      exact ⟨_, _, rep_int r1, rep_int r2, c, q.now rp (repI _)⟩
    · exact q.elim
  · exact q.elim
theorem os_pow : OpS X E (rI CPow fun i j => .int (i ^ j.toNat)) opPow := fun α S H d e v u Q rp r1 r2 q => by
  unfold opPow at q
  split at q
  · split at q
    · rename_i c
      exact ⟨_, _, rep_int r1, rep_int r2, c, q.now rp (repI _)⟩
    · exact q.elim
  · exact q.elim
def rIs : R2 := fun x y H Q => y = .non ∧ Q (.bl (decide (x = .non))) H
def rIsNot : R2 := fun x y H Q => y = .non ∧ Q (.bl (!decide (x = .non))) H
theorem op_isZ : OpR X (compareOp .Is) rIs := op_isN
theorem op_isNotZ : OpR X (compareOp .IsNot) rIsNot := op_notN
theorem os_is : OpS X E rIs opIs := fun α S H d e v u Q rp r1 r2 q => by
  unfold opIs at q
  split at q
  · rename_i h
    cases e with
    | non =>
      refine ⟨rep_non r2, ?_⟩
      rw [isNon_rep r1]
      exact q.now rp (repB _)
    | _ => cases h
  · exact q.elim
theorem os_isNot : OpS X E rIsNot opIsNot := fun α S H d e v u Q rp r1 r2 q => by
  unfold opIsNot at q
  split at q
  · rename_i h
    cases e with
    | non =>
      refine ⟨rep_non r2, ?_⟩
      rw [isNon_rep r1]
      exact q.now rp (repB _)
    | _ => cases h
  · exact q.elim
/-! + -/
def rAddZ (K : PySem.W.Frag) : R2 := fun x y H Q => rI0 (fun i j => .int (i + j)) x y H Q ∨ (∃ i j, x = .str i ∧ y = .str j ∧ i.length + j.length ≤ sizeLine ∧ Q (.str (i ++ j)) H) ∨ rCatA K x y H Q ∨ rCat x y H Q
theorem op_addZ : OpR X (binaryOp .Add) (rAddZ X.K) := op_add.or (op_add_str.or (op_catA.or op_cat))
theorem os_add : OpS X E (rAddZ X.K) opAdd := fun α S H d e v u Q rp r1 r2 q => by
  unfold opAdd at q
  split at q
  · exact .inl ⟨_, _, rep_int r1, rep_int r2, q.now rp (repI _)⟩
  · split at q
    · rename_i c
      exact .inr (.inl ⟨_, _, rep_str r1, rep_str r2, c, q.now rp (repS _)⟩)
    · exact q.elim
  · split at q
    · rename_i as bs c
      obtain ⟨a, vs, ea, ha, la⟩ := rep_tup r1
      obtain ⟨b, us, eb, hb, lb⟩ := rep_tup r2
      refine .inr (.inr (.inl ⟨a, b, vs, us, ea, eb, ha, hb, by rw [la.length, lb.length]; exact c, fun z => ?_, fun _ z => ?_, fun _ _ p hp => ?_⟩))
      · subst z
        have e : as = [] := List.length_eq_zero_iff.mp la.length.symm
        subst e
        exact q.now rp (repT hb lb)
      · subst z
        have e : bs = [] := List.length_eq_zero_iff.mp lb.length.symm
        subst e
        rw [List.append_nil] at q
        exact q.now rp (repT ha la)
      · exact post_tup rp (la.append lb) q hp
    · exact q.elim
  · split at q
    · rename_i as bs h1 h2
      split at q
      · rename_i c
        obtain ⟨a, vs, ea, ha, la⟩ := seqM_rep rp h1 r1
        obtain ⟨b, us, eb, hb, lb⟩ := seqM_rep rp h2 r2
        exact .inr (.inr (.inr ⟨a, b, vs, us, ea, eb, ha, hb, by rw [la.length, lb.length]; exact c, fun p hp => post_lst rp (la.append lb) q hp⟩))
      · exact q.elim
    · exact q.elim
/-! * -/
def rMulZ (K : PySem.W.Frag) : R2 := fun x y H Q => rI CMul (fun i j => .int (i * j)) x y H Q ∨ rI CMulW (fun i j => .int (i * j)) x y H Q ∨ rRepT K x y H Q ∨ rRep x y H Q
theorem op_mulZ : OpR X (binaryOp .Mult) (rMulZ X.K) := op_mul.or (op_mulW.or (op_repT.or op_rep))
theorem os_mul : OpS X E (rMulZ X.K) opMul := fun α S H d e v u Q rp r1 r2 q => by
  unfold opMul at q
  split at q
  · split at q
    · rename_i i j c
      unfold mulOk at c
      simp only [Bool.or_eq_true, Bool.and_eq_true, decide_eq_true_eq] at c
      rcases c with (c | c) | c
      · exact .inl ⟨_, _, rep_int r1, rep_int r2, .inl c, q.now rp (repI _)⟩
      · exact .inl ⟨_, _, rep_int r1, rep_int r2, .inr c, q.now rp (repI _)⟩
      · exact .inr (.inl ⟨_, _, rep_int r1, rep_int r2, c, q.now rp (repI _)⟩)
    · exact q.elim
  · split at q
    · rename_i as j c
      obtain ⟨a, vs, ea, ha, la⟩ := rep_tup r1
      obtain ⟨c1, c2, c3, c4⟩ := c
      refine .inr (.inr (.inl ⟨a, j, vs, ea, rep_int r2, ha, fun z => ?_, c2, c3, by rw [la.length]; exact c4, fun p hp => post_tup rp (la.replicate _) q hp⟩))
      subst z
      exact c1 (List.length_eq_zero_iff.mp la.length.symm)
    · exact q.elim
  · split at q
    · rename_i as h1
      split at q
      · rename_i c
        obtain ⟨a, vs, ea, ha, la⟩ := seqM_rep rp h1 r1
        exact .inr (.inr (.inr ⟨a, _, vs, ea, rep_int r2, ha, c.1, c.2.1, by rw [la.length]; exact c.2.2, fun p hp => post_lst rp (la.replicate _) q hp⟩))
      · exact q.elim
    · exact q.elim
  · exact q.elim
end
end Z
set_option Elab.async false
set_option linter.all false
set_option maxRecDepth 100000
set_option maxHeartbeats 1000000
/-! Z5: ==, in, subscripts, slices, dicts as values. -/
namespace Z
open PySem L2
/-! ### == -/
def toP : D → PyData
  | .non => .none
  | .bl b => .bool b
  | .int i => .int i
  | .str x => .str x
  | .tup ds => .tuple (ds.map toP)
  | .lst ds => .list (ds.map toP)
  | .wl ds => .list (ds.map toP)
  | .dic _ _ => .dict []
  | .ref _ => .dict []
/-- a list's cell, read -/
def deref (S : Sto) : D → D
  | .ref n => match S[n]? with
    | some (.lst ds) => .lst ds
    | _ => .ref n
  | d => d
def eqD (x y : D) : Bool := PyData.eqv (toP x) (toP y)
def okD (x : D) : Bool := SeqAt.shaped (toP x)
/-- == of flat things that needs no look at a text's signs -/
def eqF : D → D → Option Bool
  | .non, .non => some true
  | .int i, .int j => some (decide (i = j))
  | .str a, .str b => some (decide (a = b))
  | .bl a, .bl b => some (decide (a = b))
  | .non, .int _ => some false
  | .int _, .non => some false
  | .non, .bl _ => some false
  | .bl _, .non => some false
  | .non, .str _ => some false
  | .str _, .non => some false
  | .int _, .str _ => some false
  | .str _, .int _ => some false
  | .bl _, .str _ => some false
  | .str _, .bl _ => some false
  | _, _ => none
def opEqB (x y : D) (S : Sto) : Option Bool := match eqF x y with
  | some b => some b
  | none => if okD (deref S x) = true ∧ okD (deref S y) = true then some (eqD (deref S x) (deref S y)) else none
def opEq : D → D → M D := fun x y S => match opEqB x y S with
  | some b => .val (.bl b) S
  | none => .stuck
def opNe : D → D → M D := fun x y S => match opEqB x y S with
  | some b => .val (.bl (!b)) S
  | none => .stuck
section
variable {K : PySem.W.Frag} {w : World} {α : Al} {H : Hp} {S : Sto} {d e : D} {v u : V}
theorem eqF_rep {b : Bool} (h : eqF d e = some b) (r1 : RepD K w α H d v) (r2 : RepD K w α H e u) : scal v u = true ∧ decide (v = u) = b := by
  unfold eqF at h
  split at h
  all_goals first
    | (cases h
       first
         | (rw [rep_non r1, rep_non r2]; exact ⟨rfl, rfl⟩)
         | (rw [rep_int r1, rep_int r2]; exact ⟨rfl, by simp⟩)
         | (rw [rep_str r1, rep_str r2]; exact ⟨rfl, by simp⟩)
         | (rw [rep_bl r1, rep_bl r2]; exact ⟨rfl, by simp⟩)
         | (rw [rep_non r1, rep_int r2]; exact ⟨rfl, rfl⟩)
         | (rw [rep_int r1, rep_non r2]; exact ⟨rfl, rfl⟩)
         | (rw [rep_non r1, rep_bl r2]; exact ⟨rfl, rfl⟩)
         | (rw [rep_bl r1, rep_non r2]; exact ⟨rfl, rfl⟩)
         | (rw [rep_non r1, rep_str r2]; exact ⟨rfl, rfl⟩)
         | (rw [rep_str r1, rep_non r2]; exact ⟨rfl, rfl⟩)
         | (rw [rep_int r1, rep_str r2]; exact ⟨rfl, rfl⟩)
         | (rw [rep_str r1, rep_int r2]; exact ⟨rfl, rfl⟩)
         | (rw [rep_bl r1, rep_str r2]; exact ⟨rfl, rfl⟩)
         | (rw [rep_str r1, rep_bl r2]; exact ⟨rfl, rfl⟩))
    | cases h
theorem toP_dict {kvs : List (PyData × PyData)} (d : D) (h : toP d = .dict kvs) (hc : PyData.canLay0 (toP d) = true) : False := by
  rw [h] at hc
  cases hc
theorem lay_all : ∀ {ds : List D}, PyData.canLayAll0 (ds.map toP) = true → ∀ d ∈ ds, PyData.canLay0 (toP d) = true
  | [], _, _, h => by cases h
  | x :: r, hc, d, h => by
    rw [List.map_cons] at hc
    unfold PyData.canLayAll0 at hc
    rw [Bool.and_eq_true] at hc
    rcases List.mem_cons.mp h with e | e
    · rw [e]; exact hc.1
    · exact lay_all hc.2 d e
mutual
theorem dp_of : ∀ (d : D) (v : V), PyData.canLay0 (toP d) = true → RepD K w α H d v → Dp K H v (toP d)
  | .non, v, _, r => by rw [rep_non r]; unfold toP; exact .non
  | .bl b, v, _, r => by rw [rep_bl r]; unfold toP; exact .bl b
  | .int i, v, _, r => by rw [rep_int r]; unfold toP; exact .int i
  | .str x, v, _, r => by rw [rep_str r]; unfold toP; exact .str x
  | .tup ds, v, hc, r => by
    obtain ⟨a, vs, e, h, l⟩ := rep_tup r
    unfold toP at hc ⊢
    unfold PyData.canLay0 at hc
    rw [e]
    exact .tup h (dps_of ds vs hc l)
  | .lst ds, v, hc, r => by
    unfold RepD at r
    obtain ⟨a, vs, e, _, h, l⟩ := r
    unfold toP at hc ⊢
    unfold PyData.canLay0 at hc
    rw [e]
    exact .lst (SqL.of h) (dps_of ds vs hc l)
  | .wl ds, v, hc, r => by
    unfold RepD at r
    obtain ⟨a, vs, e, h, l⟩ := r
    unfold toP at hc ⊢
    unfold PyData.canLay0 at hc
    rw [e]
    refine .lst ?_ (dps_of ds vs hc l)
    rcases h with ⟨_, h⟩ | h
    · exact .inl h
    · exact .inr h
  | .dic ks ds, v, hc, r => by unfold toP at hc; cases hc
  | .ref n, v, hc, r => by unfold toP at hc; cases hc
theorem dps_of : ∀ (ds : List D) (vs : List V), PyData.canLayAll0 (ds.map toP) = true → RepL K w α H ds vs → DpAll K H vs (ds.map toP)
  | [], vs, _, r => by unfold RepL at r; rw [r]; exact .nil
  | d :: ds, vs, hc, r => by
    unfold RepL at r
    obtain ⟨v, r', e, h1, h2⟩ := r
    rw [List.map_cons] at hc ⊢
    unfold PyData.canLayAll0 at hc
    rw [Bool.and_eq_true] at hc
    rw [e]
    exact .cons (dp_of d v hc.1 h1) (dps_of ds r' hc.2 h2)
end
theorem dp_deref (rp : Rep K w α S H) (hc : okD (deref S d) = true) (r : RepD K w α H d v) : Dp K H v (toP (deref S d)) := by
  have hl : PyData.canLay0 (toP (deref S d)) = true := by
    unfold okD SeqAt.shaped at hc
    rw [Bool.and_eq_true] at hc
    exact hc.1
  cases d with
  | ref n =>
    have e : deref S (.ref n) = match S[n]? with
      | some (.lst ds) => .lst ds
      | _ => .ref n := rfl
    cases hn : S[n]? with
    | none =>
      rw [e, hn] at hl
      unfold toP at hl
      cases hl
    | some c =>
      cases c with
      | lst ds =>
        rw [e, hn] at hl ⊢
        unfold RepD at r
        obtain ⟨a, e2, q⟩ := r
        obtain ⟨vs, h1, h2⟩ := rp.cell n _ a hn q
        rw [e2]
        unfold toP at hl ⊢
        exact .lst (SqL.of h1) (dps_of ds vs hl h2)
      | dic lk ks ds =>
        rw [e, hn] at hl
        unfold toP at hl
        cases hl
      | ins c fs =>
        rw [e, hn] at hl
        unfold toP at hl
        cases hl
  | _ => exact dp_of _ v hl r
end
section
variable {X : Cx} {E : XK}
def rEqZ (K : PySem.W.Frag) : R2 := fun x y H Q => rEq x y H Q ∨ rEqD K x y H Q
def rNeZ (K : PySem.W.Frag) : R2 := fun x y H Q => rNe x y H Q ∨ rNeD K x y H Q
theorem op_eqZ (hu : X.A.units + 64 < cLine) : OpR X (compareOp .Eq) (rEqZ X.K) := op_eq.or (op_eqD hu)
theorem op_neZ (hu : X.A.units + 64 < cLine) : OpR X (compareOp .NotEq) (rNeZ X.K) := op_ne.or (op_neD hu)
theorem os_eq : OpS X E (rEqZ X.K) opEq := fun α S H d e v u Q rp r1 r2 q => by
  unfold opEq at q
  split at q
  · rename_i b h
    unfold opEqB at h
    split at h
    · rename_i b' h'
      cases h
      obtain ⟨h1, h2⟩ := eqF_rep h' r1 r2
      refine .inl ⟨h1, ?_⟩
      rw [h2]
      exact q.now rp (repB _)
    · split at h
      · rename_i c
        cases h
        exact .inr ⟨_, _, dp_deref rp c.1 r1, dp_deref rp c.2 r2, c.1, c.2, q.now rp (repB _)⟩
      · cases h
  · exact q.elim
theorem os_ne : OpS X E (rNeZ X.K) opNe := fun α S H d e v u Q rp r1 r2 q => by
  unfold opNe at q
  split at q
  · rename_i b h
    unfold opEqB at h
    split at h
    · rename_i b' h'
      cases h
      obtain ⟨h1, h2⟩ := eqF_rep h' r1 r2
      refine .inl ⟨h1, ?_⟩
      rw [h2]
      exact q.now rp (repB _)
    · split at h
      · rename_i c
        cases h
        exact .inr ⟨_, _, dp_deref rp c.1 r1, dp_deref rp c.2 r2, c.1, c.2, q.now rp (repB _)⟩
      · cases h
  · exact q.elim
end
/-! ### dicts -/
def keyEq (a b : D) : Bool := decide (nkey a = nkey b)
/-- the value under a key -/
def dGet : List D → List D → D → Option D
  | k :: ks, d :: ds, x => if keyEq k x = true then some d else dGet ks ds x
  | _, _, _ => none
/-- keys, values behind a store -/
def dPut : List D → List D → D → D → List D × List D
  | k :: ks, d :: ds, x, z => if keyEq k x = true then (k :: ks, z :: ds) else (k :: (dPut ks ds x z).1, d :: (dPut ks ds x z).2)
  | _, _, x, z => ([x], [z])
/-- a dict as it stands: locked or not -/
def dictOf (S : Sto) : D → Option (List D × List D)
  | .dic ks ds => some (ks, ds)
  | .ref n => match S[n]? with
    | some (.dic _ ks ds) => some (ks, ds)
    | _ => none
  | _ => none
section
variable {X : Cx} {pins : List (Addr × Obj)} {σ : St} {α : Al} {S : Sto} {H : Hp} {s : Shared} {a : Addr}
theorem rd_dict {xs : List ZD.Ent} (I : Inv X pins σ H s) (h : Rd H a (dHO X.w a xs)) : dφ X.w a xs s.heap := by
  have q : ObjOk X.prog X.w H s.heap a (dHO X.w a xs) := h.ok I.hok
  exact q.1
mutual
theorem key_is (I : Inv X pins σ H s) : ∀ (n : Nat) (d : D) (v : V) (u : Value), isKey n d = true → RepD X.K X.w α H d v → RelV v u → NestedIs s.heap (nkey d) u ∧ (nkey d).depth ≤ n
  | n, .non, v, u, _, r, q => by
    rw [rep_non r] at q
    unfold nkey
    cases (show u = Value.none from q)
    exact ⟨.none, Nat.zero_le _⟩
  | n, .int i, v, u, _, r, q => by
    rw [rep_int r] at q
    unfold nkey
    obtain ⟨t, rfl⟩ := q
    exact ⟨.int i t, Nat.zero_le _⟩
  | n, .str i, v, u, _, r, q => by
    rw [rep_str r] at q
    unfold nkey
    obtain ⟨t, rfl⟩ := q
    exact ⟨.text i t, Nat.zero_le _⟩
  | 0, .tup ds, v, u, hk, r, q => by unfold isKey at hk; cases hk
  | n + 1, .tup ds, v, u, hk, r, q => by
    obtain ⟨a, vs, e, h, l⟩ := rep_tup r
    rw [e] at q
    cases (show u = Value.ref a from q)
    unfold isKey at hk
    obtain ⟨its, rv, ⟨o, ho, hc, m, hd⟩, _⟩ := I.tuple h
    obtain ⟨h1, h2⟩ := keys_are I n ds vs its hk l rv
    unfold nkey
    exact ⟨.tup ho hc hd (by simpa using h1), by unfold NestedKey.depth; omega⟩
  | n, .bl _, v, u, hk, r, q => by unfold isKey at hk; cases hk
  | n, .lst _, v, u, hk, r, q => by unfold isKey at hk; cases hk
  | n, .wl _, v, u, hk, r, q => by unfold isKey at hk; cases hk
  | n, .dic _ _, v, u, hk, r, q => by unfold isKey at hk; cases hk
  | n, .ref _, v, u, hk, r, q => by unfold isKey at hk; cases hk
theorem keys_are (I : Inv X pins σ H s) : ∀ (n : Nat) (ds : List D) (vs : List V) (us : List Value), ds.all (isKey n) = true → RepL X.K X.w α H ds vs → Vals vs us → NestedAll s.heap (ds.map nkey) us ∧ NestedKey.depthAll (ds.map nkey) ≤ n
  | n, [], vs, us, _, r, q => by
    unfold RepL at r
    rw [r] at q
    cases q
    exact ⟨.nil, Nat.zero_le _⟩
  | n, d :: ds, vs, us, hk, r, q => by
    unfold RepL at r
    obtain ⟨v, r', e, h1, h2⟩ := r
    rw [e] at q
    rw [List.all_cons, Bool.and_eq_true] at hk
    cases q with
    | cons q1 q2 =>
      obtain ⟨g1, g2⟩ := key_is I n d v _ hk.1 h1 q1
      obtain ⟨g3, g4⟩ := keys_are I n ds r' _ hk.2 h2 q2
      rw [List.map_cons]
      refine ⟨.cons g1 g3, ?_⟩
      unfold NestedKey.depthAll
      exact Nat.max_le.mpr ⟨g2, g4⟩
end
theorem key_isN (I : Inv X pins σ H s) {d : D} {v : V} {u : Value} (hk : isKey 8 d = true) (r : RepD X.K X.w α H d v) (q : RelV v u) : ZD.IsN s.heap (nkey d) u := key_is I 8 d v u hk r q
theorem keys_isN (I : Inv X pins σ H s) : ∀ {ks : List D} {kv : List V} {xs : List ZD.Ent}, ks.all (isKey 8) = true → ks.map nkey = xs.map (·.1) → RepL X.K X.w α H ks kv → Vals kv (xs.map (·.2.1)) → ∀ x ∈ xs, ZD.IsN s.heap x.1 x.2.1
  | [], kv, [], _, _, _, _, x, hx => by cases hx
  | [], kv, _ :: _, _, e, _, _, x, hx => by cases e
  | _ :: _, kv, [], _, e, _, _, x, hx => by cases e
  | k :: ks, kv, y :: ys, hk, e, r, q, x, hx => by
    unfold RepL at r
    obtain ⟨v, r', e1, h1, h2⟩ := r
    rw [e1, List.map_cons] at q
    rw [List.map_cons, List.map_cons] at e
    injection e with e2 e3
    rw [List.all_cons, Bool.and_eq_true] at hk
    cases q with
    | cons q1 q2 =>
      rcases List.mem_cons.mp hx with e4 | e4
      · rw [e4, ← e2]
        exact key_isN I hk.1 h1 q1
      · exact keys_isN I hk.2 e3 h2 q2 x e4
/-- the dict that data tell, in the heap -/
structure DictAt (X : Cx) (α : Al) (H : Hp) (a : Addr) (ks ds : List D) (kv vs : List V) (xs : List ZD.Ent) : Prop where
  rd : Rd H a (dHO X.w a xs)
  ent : Ents ks kv vs xs
  rk : RepL X.K X.w α H ks kv
  rv : RepL X.K X.w α H ds vs
theorem DictAt.dictN {ks ds : List D} {kv vs : List V} {xs : List ZD.Ent} (g : DictAt X α H a ks ds kv vs xs) (I : Inv X pins σ H s) : ZD.DictN X.w s.heap a xs ∧ (a == sysModules) = false ∧ xs.length ≤ sizeLine := by
  obtain ⟨h1, h2, o, es, ep, ho, hx, hd, he, hn⟩ := rd_dict I g.rd
  exact ⟨⟨o, es, ep, ho, hx, hd, he, keys_isN I g.ent.1 g.ent.2.1 g.rk g.ent.2.2.1, hn⟩, h2, h1⟩
theorem dictOf_at {d : D} {v : V} {ks ds : List D} (rp : Rep X.K X.w α S H) (h : dictOf S d = some (ks, ds)) (r : RepD X.K X.w α H d v) : ∃ a kv vs xs, v = .ref a ∧ DictAt X α H a ks ds kv vs xs := by
  unfold dictOf at h
  split at h
  · cases h
    unfold RepD at r
    obtain ⟨a, kv, vs, xs, e, _, h1, h2, h3, h4⟩ := r
    exact ⟨a, kv, vs, xs, e, h1, h2, h3, h4⟩
  · rename_i n
    split at h
    · rename_i lk ks' ds' hn
      cases h
      unfold RepD at r
      obtain ⟨a, e, q⟩ := r
      obtain ⟨kv, vs, xs, h1, h2, h3, h4⟩ := rp.cell n _ a hn q
      refine ⟨a, kv, vs, xs, e, ?_, h2, h3, h4⟩
      split at h1
      · obtain ⟨o, h1⟩ := h1
        exact .inr ⟨o, h1⟩
      · exact .inl h1
    · cases h
  · cases h
/-- what stands under a key -/
theorem dGet_at : ∀ {ks ds : List D} {kv vs : List V} {xs : List ZD.Ent} (x : D), ks.map nkey = xs.map (·.1) → Vals vs (xs.map (·.2.2)) → RepL X.K X.w α H ds vs →
    (∀ d, dGet ks ds x = some d → ∃ v u, ZD.getN xs (nkey x) = some u ∧ RelV v u ∧ RepD X.K X.w α H d v) ∧ (dGet ks ds x = none → ZD.getN xs (nkey x) = none)
  | [], ds, kv, vs, [], x, e, q, r => by
    refine ⟨fun d h => ?_, fun _ => rfl⟩
    unfold dGet at h
    cases h
  | [], ds, kv, vs, _ :: _, x, e, q, r => by cases e
  | _ :: _, ds, kv, vs, [], x, e, q, r => by cases e
  | k :: ks, [], kv, vs, y :: ys, x, e, q, r => by
    unfold RepL at r
    rw [r] at q
    cases q
  | k :: ks, d :: ds, kv, vs, y :: ys, x, e, q, r => by
    unfold RepL at r
    obtain ⟨v, r', e1, h1, h2⟩ := r
    rw [e1, List.map_cons] at q
    rw [List.map_cons, List.map_cons] at e
    injection e with e2 e3
    cases q with
    | cons q1 q2 =>
      obtain ⟨g1, g2⟩ := dGet_at (kv := kv) x e3 q2 h2
      unfold dGet keyEq
      have eg : ZD.getN (y :: ys) (nkey x) = if y.1 = nkey x then some y.2.2 else ZD.getN ys (nkey x) := by
        unfold ZD.getN
        rw [List.find?_cons]
        by_cases c : y.1 = nkey x
        · rw [decide_eq_true c, if_pos c]; rfl
        · rw [decide_eq_false c, if_neg c]
      rw [eg, ← e2]
      by_cases c : nkey k = nkey x
      · rw [if_pos c, if_pos (decide_eq_true c)]
        refine ⟨fun d' h => ?_, fun h => by cases h⟩
        cases h
        exact ⟨v, _, rfl, q1, h1⟩
      · rw [if_neg c, if_neg (by rw [decide_eq_false c]; exact Bool.false_ne_true)]
        exact ⟨g1, g2⟩
end
end Z
set_option Elab.async false
set_option linter.all false
set_option maxRecDepth 100000
set_option maxHeartbeats 1000000
/-! Z6: dicts by rules; subscripts; slices; in. -/
namespace Z
open PySem L2 PyProof.Rows
section
variable {w : World} {xs : List ZD.Ent} {k : NestedKey} {a v : Value}
theorem putN_cons {y : ZD.Ent} (hd : ((y :: xs).map (·.1)).Nodup) : ZD.putN (y :: xs) k a v = if y.1 = k then (y.1, y.2.1, v) :: xs else y :: ZD.putN xs k a v := by
  rw [List.map_cons, List.nodup_cons] at hd
  have eg : ZD.getN (y :: xs) k = if y.1 = k then some y.2.2 else ZD.getN xs k := by
    unfold ZD.getN
    rw [List.find?_cons]
    by_cases c : y.1 = k
    · rw [decide_eq_true c, if_pos c]; rfl
    · rw [decide_eq_false c, if_neg c]
  by_cases c : y.1 = k
  · rw [if_pos c] at eg ⊢
    unfold ZD.putN
    rw [eg, if_pos (show (some y.2.2).isSome = true from rfl), List.map_cons, if_pos c]
    congr 1
    rw [List.map_congr_left (g := id), List.map_id]
    intro z hz
    exact if_neg fun e => hd.1 (by rw [c, ← e]; exact List.mem_map.mpr ⟨z, hz, rfl⟩)
  · rw [if_neg c] at eg ⊢
    unfold ZD.putN
    rw [eg]
    split
    · rw [List.map_cons, if_neg c]
    · rfl
end
section
variable {X : Cx} {α : Al} {H : Hp}
theorem dPut_at : ∀ {ks ds : List D} {kv vs : List V} {xs : List ZD.Ent} {x z : D} {xv zv : V} {xu zu : Value}, (xs.map (·.1)).Nodup → Ents ks kv vs xs → RepL X.K X.w α H ks kv → RepL X.K X.w α H ds vs →
    isKey 8 x = true → RepD X.K X.w α H x xv → RelV xv xu → RepD X.K X.w α H z zv → RelV zv zu →
    ∃ kv' vs', Ents (dPut ks ds x z).1 kv' vs' (ZD.putN xs (nkey x) xu zu) ∧ RepL X.K X.w α H (dPut ks ds x z).1 kv' ∧ RepL X.K X.w α H (dPut ks ds x z).2 vs'
  | [], ds, kv, vs, [], x, z, xv, zv, xu, zu, hn, e, rk, rv, hk, h1, q1, h2, q2 => by
    have e1 : dPut [] ds x z = ([x], [z]) := by cases ds <;> rfl
    rw [e1]
    refine ⟨[xv], [zv], ⟨by rw [List.all_cons, hk]; rfl, rfl, .cons q1 .nil, .cons q2 .nil⟩, RepL.one h1, RepL.one h2⟩
  | [], ds, kv, vs, _ :: _, x, z, xv, zv, xu, zu, hn, e, rk, rv, hk, h1, q1, h2, q2 => by
    have := e.2.1
    cases this
  | _ :: _, ds, kv, vs, [], x, z, xv, zv, xu, zu, hn, e, rk, rv, hk, h1, q1, h2, q2 => by
    have := e.2.1
    cases this
  | k :: ks, [], kv, vs, y :: ys, x, z, xv, zv, xu, zu, hn, e, rk, rv, hk, h1, q1, h2, q2 => by
    unfold RepL at rv
    have := e.2.2.2
    rw [rv] at this
    cases this
  | k :: ks, d :: ds, kv, vs, y :: ys, x, z, xv, zv, xu, zu, hn, e, rk, rv, hk, h1, q1, h2, q2 => by
    obtain ⟨e1, e2, e3, e4⟩ := e
    unfold RepL at rk rv
    obtain ⟨a1, r1, f1, g1, l1⟩ := rk
    obtain ⟨b1, r2, f2, g2, l2⟩ := rv
    rw [f1, List.map_cons] at e3
    rw [f2, List.map_cons] at e4
    rw [List.map_cons, List.map_cons] at e2
    injection e2 with e5 e6
    rw [List.all_cons, Bool.and_eq_true] at e1
    rw [putN_cons hn]
    unfold dPut keyEq
    cases e3 with
    | cons p1 p2 =>
      cases e4 with
      | cons p3 p4 =>
        rw [← e5]
        by_cases c : nkey k = nkey x
        · rw [if_pos (decide_eq_true c), if_pos c]
          exact ⟨a1 :: r1, zv :: r2, ⟨by rw [List.all_cons, e1.1, e1.2]; rfl, by rw [List.map_cons, List.map_cons, e6, e5], .cons p1 p2, .cons q2 p4⟩, .cons g1 l1, .cons h2 l2⟩
        · rw [if_neg (by rw [decide_eq_false c]; exact Bool.false_ne_true), if_neg c]
          rw [List.map_cons, List.nodup_cons] at hn
          obtain ⟨kv', vs', ⟨t1, t2, t3, t4⟩, t5, t6⟩ := dPut_at (ds := ds) (z := z) hn.2 ⟨e1.2, e6, p2, p4⟩ l1 l2 hk h1 q1 h2 q2
          exact ⟨a1 :: kv', b1 :: vs', ⟨by rw [List.all_cons, e1.1, t1]; rfl, by rw [List.map_cons, List.map_cons, t2, e5], .cons p1 t3, .cons p3 t4⟩, .cons g1 t5, .cons g2 t6⟩
theorem dPut_len (ks : List D) : ∀ (ds : List D) (x z : D), (dPut ks ds x z).1.length ≤ ks.length + 1 := by
  induction ks with
  | nil => intro ds x z; cases ds <;> simp [dPut]
  | cons k ks ih =>
    intro ds x z
    cases ds with
    | nil => simp [dPut]
    | cons d ds =>
      unfold dPut
      split
      · simp
      · have := ih ds x z
        simp only [List.length_cons]
        omega
theorem Ents.len {ks : List D} {kv vs : List V} {xs : List ZD.Ent} (e : Ents ks kv vs xs) : xs.length = ks.length := by
  have := congrArg List.length e.2.1
  rw [List.length_map, List.length_map] at this
  exact this.symm
end
section
variable {X : Cx} {E : XK}
/-! y in d, y not in d -/
def rInN (X : Cx) (neg : Bool) : R2 := fun y x H Q => ∃ α a ks ds kv vs xs k, x = .ref a ∧ DictAt X α H a ks ds kv vs xs ∧ isKey 8 k = true ∧ RepD X.K X.w α H k y ∧ Q (.bl (if neg = true then !(dGet ks ds k).isSome else (dGet ks ds k).isSome)) H
theorem get_some {α : Al} {H : Hp} {a : Addr} {ks ds : List D} {kv vs : List V} {xs : List ZD.Ent} (g : DictAt X α H a ks ds kv vs xs) (k : D) : (ZD.getN xs (nkey k)).isSome = (dGet ks ds k).isSome := by
  obtain ⟨h1, h2⟩ := dGet_at (kv := kv) k g.ent.2.1 g.ent.2.2.2 g.rv
  cases e : dGet ks ds k with
  | some d => obtain ⟨v, u, q, _, _⟩ := h1 d e; rw [q]; rfl
  | none => rw [h2 e]; rfl
theorem op_inN (hu : X.A.units + 64 < cLine) : OpR X (compareOp .In) (rInN X false) := by
  intro pins s σ H y x u v Q I ry rx h
  obtain ⟨α, a, ks, ds, kv, vs, xs, k, rfl, g, hk, r, q⟩ := h
  cases rx
  obtain ⟨dn, hs, hz⟩ := g.dictN I
  refine ZD.in_ok (by omega) (key_isN I hk r ry) hs dn fun tk => ?_
  rw [get_some g]
  exact ⟨.bl _, H, I.tok _, rfl, q⟩
theorem op_notInN (hu : X.A.units + 64 < cLine) : OpR X (compareOp .NotIn) (rInN X true) := by
  intro pins s σ H y x u v Q I ry rx h
  obtain ⟨α, a, ks, ds, kv, vs, xs, k, rfl, g, hk, r, q⟩ := h
  cases rx
  obtain ⟨dn, hs, hz⟩ := g.dictN I
  refine ZD.notIn_ok (by omega) (key_isN I hk r ry) hs dn fun tk => ?_
  rw [get_some g]
  exact ⟨.bl _, H, I.tok _, rfl, q⟩
/-! d[k] -/
def rItemN (X : Cx) : R2 := fun x y H Q => ∃ α a ks ds kv vs xs k d, x = .ref a ∧ DictAt X α H a ks ds kv vs xs ∧ isKey 8 k = true ∧ RepD X.K X.w α H k y ∧ dGet ks ds k = some d ∧ ∀ z, RepD X.K X.w α H d z → Q z H
theorem ix_dict (hu : X.A.units + 64 < cLine) : IxR X (rItemN X) := by
  intro value slice pins s σ H x y v u Q I rx ry h hs
  obtain ⟨α, a, ks, ds, kv, vs, xs, k, d, rfl, g, hk, r, hg, q⟩ := h
  cases rx
  obtain ⟨dn, hsy, hz⟩ := g.dictN I
  obtain ⟨z, zu, h1, h2, h3⟩ := (dGet_at (kv := kv) k g.ent.2.1 g.ent.2.2.2 g.rv).1 d hg
  exact subscriptTail_builtinR (x := zu) dn.typeIs slot_dict_getitem.lookup (ZD.item_ok (Q := fun r s' => r = zu ∧ EP X pins σ Q r s') (by omega) (key_isN I hk r ry) dn h1 fun tk => ⟨rfl, z, H, I.tok _, h2, q z h3⟩) hs
/-! d[k] = v -/
def rSetN (X : Cx) : TSet := fun o i v H Q => ∃ α a ks ds kv vs xs k d, o = .ref a ∧ H a = some (dHO X.w a xs) ∧ Ents ks kv vs xs ∧ RepL X.K X.w α H ks kv ∧ RepL X.K X.w α H ds vs ∧ isKey 8 k = true ∧ RepD X.K X.w α H k i ∧ RepD X.K X.w α H d v ∧ ks.length < sizeLine ∧
  ∀ kv' vs' xs', Ents (dPut ks ds k d).1 kv' vs' xs' → RepL X.K X.w α H (dPut ks ds k d).1 kv' → RepL X.K X.w α H (dPut ks ds k d).2 vs' → Q (upd H a (dHO X.w a xs'))
theorem dict_put {pins : List (Addr × Obj)} {σ : L2.St} {H : Hp} {s : Shared} {a : Addr} {ys : List ZD.Ent} {h' : Heap} {tk : Nat} (I : Inv X pins σ H s) {xs : List ZD.Ent} (ha : H a = some (dHO X.w a xs)) (hs : (a == sysModules) = false) (hz : ys.length ≤ sizeLine)
    (hm : ZD.DictN X.w h' a ys) (hb : Heap.SameBut a s.heap h') : Inv X pins σ (upd H a (dHO X.w a ys)) { s with heap := h', toks := tk } := by
  obtain ⟨o, es, ep, ho, hx, hd, he, _, hn⟩ := hm
  refine d_write I (by rw [ha]; exact True.intro) hb ⟨o, ho⟩ ?_
  refine ⟨⟨hz, hs, o, es, ep, ho, hx, hd, he, hn⟩, ⟨o, ho⟩, fun h1 h2 p st => ?_⟩
  obtain ⟨p1, p2, o', es', ep', q1, q2⟩ := p
  exact ⟨p1, p2, o', es', ep', st _ q1, q2⟩
theorem putN_len2 {xs : List ZD.Ent} {k : NestedKey} {a v : Value} (h : xs.length < sizeLine) : (ZD.putN xs k a v).length ≤ sizeLine := Nat.le_trans (ZD.putN_len a v) h
theorem set_dict (hu : X.A.units + 64 < cLine) : PSet X (rSetN X) := by
  intro pins s σ H o i v ov iv u Q I ro ri rv h
  obtain ⟨α, a, ks, ds, kv, vs, xs, k, d, rfl, ha, en, rk, rd, hk, rki, rdv, hl, q⟩ := h
  cases ro
  have g : DictAt X α H a ks ds kv vs xs := ⟨.inl ha, en, rk, rd⟩
  obtain ⟨dn, hs, hz⟩ := g.dictN I
  have hn : (xs.map (·.1)).Nodup := by obtain ⟨_, _, _, _, _, _, _, _, hn⟩ := dn; exact hn
  obtain ⟨kv', vs', t1, t2, t3⟩ := dPut_at hn en rk rd hk rki ri rdv rv
  refine ZD.put_ok (by omega) (key_isN I hk rki ri) dn hz fun h' tk hm hb => ?_
  exact ⟨_, dict_put I ha hs (putN_len2 (by rw [en.len]; exact hl)) hm hb, q kv' vs' _ t1 t2 t3⟩
/-! d.get(k), d.get(k, x), d.setdefault(k, x) -/
def tyDict (X : Cx) : V → Hp → Prop := fun x H => ∃ a xs, x = .ref a ∧ Rd H a (dHO X.w a xs)
theorem ty_dict : TyOk X "dict" (tyDict X) := by
  intro pins σ H s x v I r ty
  obtain ⟨a, xs, rfl, h⟩ := ty
  cases r
  obtain ⟨_, _, o, es, ep, ho, hx, hd, _⟩ := rd_dict I h
  refine ⟨⟨o, ho, hx.1⟩, fun b e => ?_⟩
  cases e
  exact ⟨o, ho, hx.2.1⟩
def rGet1N (X : Cx) : V → List V → Hp → VK → Prop := fun x ys H Q => ∃ α a ks ds kv vs xs k y, x = .ref a ∧ ys = [y] ∧ DictAt X α H a ks ds kv vs xs ∧ isKey 8 k = true ∧ RepD X.K X.w α H k y ∧
  (∀ d z, dGet ks ds k = some d → RepD X.K X.w α H d z → Q z H) ∧ (dGet ks ds k = none → Q .non H)
theorem mt_get1 (hu : X.A.units + 64 < cLine) : MtR X "dict.get" (rGet1N X) := by
  intro pins s σ H x ys v us Q I rx rys h
  obtain ⟨α, a, ks, ds, kv, vs, xs, k, y, rfl, rfl, g, hk, r, q1, q2⟩ := h
  cases rx
  obtain ⟨yu, rfl, ry⟩ := vals1 rys
  obtain ⟨dn, hs, hz⟩ := g.dictN I
  obtain ⟨g1, g2⟩ := dGet_at (kv := kv) k g.ent.2.1 g.ent.2.2.2 g.rv
  refine ZD.get1_ok (by omega) (key_isN I hk r ry) hs dn fun tk => ?_
  cases e : dGet ks ds k with
  | some d =>
    obtain ⟨z, zu, h1, h2, h3⟩ := g1 d e
    rw [h1]
    exact ⟨z, H, I.tok _, h2, q1 d z e h3⟩
  | none =>
    rw [g2 e]
    exact ⟨.non, H, I.tok _, rfl, q2 e⟩
def rGet2N (X : Cx) : V → List V → Hp → VK → Prop := fun x ys H Q => ∃ α a ks ds kv vs xs k y z, x = .ref a ∧ ys = [y, z] ∧ DictAt X α H a ks ds kv vs xs ∧ isKey 8 k = true ∧ RepD X.K X.w α H k y ∧
  (∀ d z, dGet ks ds k = some d → RepD X.K X.w α H d z → Q z H) ∧ (dGet ks ds k = none → Q z H)
theorem mt_get2 (hu : X.A.units + 64 < cLine) : MtR X "dict.get" (rGet2N X) := by
  intro pins s σ H x ys v us Q I rx rys h
  obtain ⟨α, a, ks, ds, kv, vs, xs, k, y, z, rfl, rfl, g, hk, r, q1, q2⟩ := h
  cases rx
  obtain ⟨yu, zu, rfl, ry, rz⟩ := vals2 rys
  obtain ⟨dn, hs, hz⟩ := g.dictN I
  obtain ⟨g1, g2⟩ := dGet_at (kv := kv) k g.ent.2.1 g.ent.2.2.2 g.rv
  refine ZD.get2_ok (by omega) (key_isN I hk r ry) hs dn fun tk => ?_
  cases e : dGet ks ds k with
  | some d =>
    obtain ⟨z, zu, h1, h2, h3⟩ := g1 d e
    rw [h1]
    exact ⟨z, H, I.tok _, h2, q1 d z e h3⟩
  | none =>
    rw [g2 e]
    exact ⟨z, H, I.tok _, rz, q2 e⟩
def rSetdN (X : Cx) : V → List V → Hp → VK → Prop := fun x ys H Q => ∃ α a ks ds kv vs xs k d y z, x = .ref a ∧ ys = [y, z] ∧ H a = some (dHO X.w a xs) ∧ Ents ks kv vs xs ∧ RepL X.K X.w α H ks kv ∧ RepL X.K X.w α H ds vs ∧ isKey 8 k = true ∧ RepD X.K X.w α H k y ∧ RepD X.K X.w α H d z ∧
  ks.length < sizeLine ∧ (∀ d z, dGet ks ds k = some d → RepD X.K X.w α H d z → Q z H) ∧
  (dGet ks ds k = none → ∀ kv' vs' xs', Ents (dPut ks ds k d).1 kv' vs' xs' → RepL X.K X.w α H (dPut ks ds k d).1 kv' → RepL X.K X.w α H (dPut ks ds k d).2 vs' → Q z (upd H a (dHO X.w a xs')))
theorem mt_setd (hu : X.A.units + 64 < cLine) : MtR X "dict.setdefault" (rSetdN X) := by
  intro pins s σ H x ys v us Q I rx rys h
  obtain ⟨α, a, ks, ds, kv, vs, xs, k, d, y, z, rfl, rfl, ha, en, rk, rd, hk, r, rdz, hl, q1, q2⟩ := h
  cases rx
  obtain ⟨yu, zu, rfl, ry, rz⟩ := vals2 rys
  have g : DictAt X α H a ks ds kv vs xs := ⟨.inl ha, en, rk, rd⟩
  obtain ⟨dn, hs, hz⟩ := g.dictN I
  have hn : (xs.map (·.1)).Nodup := by obtain ⟨_, _, _, _, _, _, _, _, hn⟩ := dn; exact hn
  obtain ⟨g1, g2⟩ := dGet_at (kv := kv) k g.ent.2.1 g.ent.2.2.2 g.rv
  refine ZD.setd_ok (by omega) (key_isN I hk r ry) hs dn hz (fun u tk hu => ?_) fun hno h' tk hm hb => ?_
  · cases e : dGet ks ds k with
    | some d' =>
      obtain ⟨z', zu', h1, h2, h3⟩ := g1 d' e
      rw [h1] at hu
      cases hu
      exact ⟨z', H, I.tok _, h2, q1 d' z' e h3⟩
    | none =>
      rw [g2 e] at hu
      cases hu
  · have e : dGet ks ds k = none := by
      cases e : dGet ks ds k with
      | none => rfl
      | some d' =>
        obtain ⟨z', zu', h1, h2, h3⟩ := g1 d' e
        rw [h1] at hno
        cases hno
    obtain ⟨kv', vs', t1, t2, t3⟩ := dPut_at hn en rk rd hk r ry rdz rz
    exact ⟨z, _, dict_put I ha hs (putN_len2 (by rw [en.len]; exact hl)) hm hb, rz, q2 e kv' vs' _ t1 t2 t3⟩
/-! {} -/
def tDNewN (X : Cx) : TE := fun _ H Q => ∀ p, H p = none → Q (.ref p) (upd H p (dHO X.w p []))
theorem pe_dnewN {pos : Pos} : PE X (.Dict [] [] pos) (tDNewN X) := ⟨fun pins s σ H Q I h =>
  wpAny_Dict_empty ⟨.ref s.heap.objs.size, _, I.laid (a := s.heap.objs.size) (o := dHO X.w s.heap.objs.size []) (t' := s.toks) (fun _ _ q => Heap.get?_push_of_some _ q) (Nat.le_refl _) (by
    have hb : (s.heap.objs.size == sysModules) = false := by
      have := I.big
      exact beq_eq_false_iff_ne.mpr (Nat.ne_of_gt this)
    have ho : (s.heap.push { cls := .type "dict", data := .dict #[] }).get? s.heap.objs.size = some { cls := .type "dict", data := .dict #[] } := Heap.get?_push_size _ rfl
    refine ⟨⟨Nat.zero_le _, hb, _, #[], 0, ho, ⟨rfl, rfl, rfl⟩, rfl, rfl, List.nodup_nil⟩, ⟨_, ho⟩, fun h1 h2 p st => ?_⟩
    obtain ⟨p1, p2, o', es', ep', q1, q2⟩ := p
    exact ⟨p1, p2, o', es', ep', st _ q1, q2⟩), rfl, h _ (I.hok.fresh (Nat.le_refl _))⟩⟩
end
end Z
set_option Elab.async false
set_option linter.all false
set_option maxRecDepth 100000
set_option maxHeartbeats 1000000
/-! Z7: subscripts, slices, in, as expressions. -/
namespace Z
open PySem L2
def opIx : D → D → M D := fun x y S => match x, y with
  | .tup ds, .int i => match atI ds i with
    | some d => .val d S
    | none => .stuck
  | .str z, .int i => if z.length ≤ sizeLine then (match atI z.cps.toList i with
    | some c => .val (.str ⟨#[c]⟩) S
    | none => .stuck) else .stuck
  | x, y => match seqL S x with
    | some ds => (match y with
      | .int i => (match atI ds i with
        | some d => .val d S
        | none => .stuck)
      | _ => .stuck)
    | none => match dictOf S x with
      | some (ks, ds) => if isKey 8 y = true then (match dGet ks ds y with
        | some d => .val d S
        | none => .stuck) else .stuck
      | none => .stuck
/-- a flat thing's value -/
def flV : D → Option V
  | .non => some .non
  | .bl b => some (.bl b)
  | .int i => some (.int i)
  | .str x => some (.str x)
  | _ => none
def flVs : List D → Option (List V)
  | [] => some []
  | d :: ds => match flV d, flVs ds with
    | some v, some vs => some (v :: vs)
    | _, _ => none
/-- whether x is among some -/
def inB (x : D) (ds : List D) (isList : Bool) : Option Bool := match flV x, flVs ds with
  | some v, some vs => some (inV v vs)
  | _, _ => if isList = true ∧ okD x = true ∧ okD (.lst ds) = true then some (ds.any fun z => eqD z x) else none
def opInB (x c : D) (S : Sto) : Option Bool := match c with
  | .tup ds => inB x ds false
  | .str z => (match x with
    | .str a => (match a.cps.toList with
      | [k] => some (decide (k ∈ z.cps.toList))
      | _ => none)
    | _ => none)
  | c => match seqL S c with
    | some ds => inB x ds true
    | none => match dictOf S c with
      | some (ks, ds) => if isKey 8 x = true then some (dGet ks ds x).isSome else none
      | none => none
def opIn : D → D → M D := fun x c S => match opInB x c S with
  | some b => .val (.bl b) S
  | none => .stuck
def opNotIn : D → D → M D := fun x c S => match opInB x c S with
  | some b => .val (.bl (!b)) S
  | none => .stuck
def cutL {β : Type} (xs : List β) (lo hi : Option Int) : List β := (xs.drop (HT.sIx xs.length 0 lo)).take (HT.sIx xs.length xs.length hi - HT.sIx xs.length 0 lo)
def opSl : D → Option Int → Option Int → M D := fun x lo hi S => match x with
  | .tup ds => .val (.tup (cutL ds lo hi)) S
  | .str z => if z.length ≤ sizeLine then .val (.str (cutS z lo hi)) S else .stuck
  | x => match seqL S x with
    | some ds => .val (.lst (cutL ds lo hi)) S
    | none => .stuck
@[simp] def oNone : Rho → M (Option Int) := fun _ S => .val none S
@[simp] def oInt : D → M (Option Int) := fun d S => match d with
  | .int i => .val (some i) S
  | _ => .stuck
@[simp] def oSome (f : Rho → M D) : Rho → M (Option Int) := fun ρ S => (f ρ S).bind oInt
@[simp] def eSl (f : Rho → M D) (lo hi : Rho → M (Option Int)) : Rho → M D := fun ρ S => (f ρ S).bind fun x S1 => (lo ρ S1).bind fun l S2 => (hi ρ S2).bind fun h S3 => opSl x l h S3
@[simp] def eRev (f : Rho → M D) : Rho → M D := fun ρ S => (f ρ S).bind fun x S1 => match seqL S1 x with
  | some ds => .val (.lst ds.reverse) S1
  | none => .stuck
section
variable {K : PySem.W.Frag} {w : World} {α : Al} {H : Hp} {S : Sto}
theorem atI_rep {ds : List D} {vs : List V} {i : Int} {d : D} (r : RepL K w α H ds vs) (h : atI ds i = some d) : ∃ v, atI vs i = some v ∧ RepD K w α H d v := by
  unfold atI at h ⊢
  rw [r.length]
  cases e : ixN ds.length i with
  | none => rw [e] at h; cases h
  | some j =>
    rw [e] at h
    exact r.get h
theorem flV_rep {d : D} {v u : V} (h : flV d = some u) (r : RepD K w α H d v) : v = u ∧ flatV v = true := by
  cases d with
  | non => cases h; rw [rep_non r]; exact ⟨rfl, rfl⟩
  | bl b => cases h; rw [rep_bl r]; exact ⟨rfl, rfl⟩
  | int i => cases h; rw [rep_int r]; exact ⟨rfl, rfl⟩
  | str x => cases h; rw [rep_str r]; exact ⟨rfl, rfl⟩
  | _ => cases h
theorem flVs_rep : ∀ {ds : List D} {vs us : List V}, flVs ds = some us → RepL K w α H ds vs → vs = us ∧ vs.all flatV = true
  | [], vs, us, h, r => by
    cases h
    unfold RepL at r
    rw [r]
    exact ⟨rfl, rfl⟩
  | d :: ds, vs, us, h, r => by
    unfold RepL at r
    obtain ⟨v, r', e, h1, h2⟩ := r
    unfold flVs at h
    split at h
    · rename_i x xs g1 g2
      cases h
      obtain ⟨q1, q2⟩ := flV_rep g1 h1
      obtain ⟨q3, q4⟩ := flVs_rep g2 h2
      rw [e, List.all_cons, q2, q4, ← q1, ← q3]
      exact ⟨rfl, rfl⟩
    · cases h
theorem cutL_rep {ds : List D} {vs : List V} (r : RepL K w α H ds vs) (lo hi : Option Int) : RepL K w α H (cutL ds lo hi) (cutV vs lo hi) := by
  unfold cutL cutV
  rw [r.length]
  exact (r.drop _).take _
theorem single {a : Str} {c : Nat} (h : a.cps.toList = [c]) : a = ⟨#[c]⟩ := by
  obtain ⟨⟨l⟩⟩ := a
  have e : l = [c] := h
  rw [e]
end
section
variable {X : Cx} {E : XK} {pos p2 p3 : Pos} {e e1 e2 : Expr} {lo hi : Option Expr} {f f1 f2 : Rho → M D} {fl fh : Rho → M (Option Int)}
def rIxZ (X : Cx) : R2 := fun x y H Q => rIx X.K x y H Q ∨ rItemN X x y H Q
theorem ix_z (hu : X.A.units + 64 < cLine) : IxR X (rIxZ X) := ix_seq.or (ix_dict hu)
theorem os_ix : OpS X E (rIxZ X) opIx := fun α S H d e v u Q rp r1 r2 q => by
  unfold opIx at q
  split at q
  · split at q
    · rename_i h
      obtain ⟨a, vs, ea, ha, la⟩ := rep_tup r1
      obtain ⟨z, hz, rz⟩ := atI_rep la h
      exact .inl (.inr (.inl ⟨a, vs, _, z, ea, rep_int r2, ha, hz, q.now rp rz⟩))
    · exact q.elim
  · split at q
    · rename_i hl
      split at q
      · rename_i h
        exact .inl (.inr (.inr ⟨_, _, _, rep_str r1, rep_int r2, hl, h, q.now rp (repS _)⟩))
      · exact q.elim
    · exact q.elim
  · split at q
    · rename_i ds hs
      split at q
      · split at q
        · rename_i h
          obtain ⟨a, vs, ea, ha, la⟩ := seqL_rep rp hs r1
          obtain ⟨z, hz, rz⟩ := atI_rep la h
          exact .inl (.inl ⟨a, vs, _, z, ea, rep_int r2, ha, hz, q.now rp rz⟩)
        · exact q.elim
      · exact q.elim
    · split at q
      · rename_i ks ds hd
        split at q
        · rename_i hk
          split at q
          · rename_i z hg
            obtain ⟨a, kv, vs, xs, ea, g⟩ := dictOf_at rp hd r1
            exact .inr ⟨α, a, ks, ds, kv, vs, xs, _, z, ea, g, hk, r2, hg, fun z' rz => q.now rp rz⟩
          · exact q.elim
        · exact q.elim
      · exact q.elim
theorem ze_ix (hu : X.A.units + 64 < cLine) (h1 : ZE X E e1 f1) (h2 : ZE X E e2 f2) (hs : PlainIx e2 := by intro _ _; rfl) : ZE X E (.Subscript e1 e2 pos) (eOp opIx f1 f2) :=
  PE.weak (pe_ix (ix_z hu) h1 h2 hs) fun σ H Q => two os_ix
/-! in -/
def rInZ (X : Cx) (neg : Bool) : R2 := fun x y H Q => rIn X.K neg x y H Q ∨ (if neg = true then rNotInD X.K x y H Q else rInD X.K x y H Q) ∨
  (∃ (c : Nat) (z : Str), x = .str ⟨#[c]⟩ ∧ y = .str z ∧ Q (.bl (if neg = true then !decide (c ∈ z.cps.toList) else decide (c ∈ z.cps.toList))) H) ∨ rInN X neg x y H Q
theorem op_inZ (hu : X.A.units + 65 < cLine) : OpR X (compareOp .In) (rInZ X false) := op_in_seq.or ((op_inD hu).or (op_in_sign.or (op_inN (by omega))))
theorem op_notInZ (hu : X.A.units + 65 < cLine) : OpR X (compareOp .NotIn) (rInZ X true) := op_notIn_seq.or ((op_notInD hu).or (op_notIn_sign.or (op_notInN (by omega))))
theorem inB_rep {α : Al} {H : Hp} {S : Sto} {x : D} {ds : List D} {il b neg : Bool} {v : V} {a : Addr} {vs : List V} {Q : VK} (h : inB x ds il = some b) (r1 : RepD X.K X.w α H x v) (l : RepL X.K X.w α H ds vs)
    (hl : if il = true then SqL X.K H a vs else SqT X.K H a vs) (q : Q (.bl (if neg = true then !b else b)) H) : rInZ X neg v (.ref a) H Q := by
  unfold inB at h
  split at h
  · rename_i v' vs' g1 g2
    cases h
    obtain ⟨e1, e2⟩ := flV_rep g1 r1
    obtain ⟨e3, e4⟩ := flVs_rep g2 l
    refine .inl ⟨a, vs, rfl, ?_, e2, e4, by rw [e1, e3]; exact q⟩
    cases il with
    | true => exact .inl hl
    | false => exact .inr hl
  · split at h
    · rename_i c
      cases h
      obtain ⟨c1, c2, c3⟩ := c
      rw [c1] at hl
      have l1 : PyData.canLay0 (toP x) = true := by
        unfold okD SeqAt.shaped at c2
        rw [Bool.and_eq_true] at c2
        exact c2.1
      have l2 : PyData.canLayAll0 (ds.map toP) = true := by
        have c3' := c3
        unfold okD SeqAt.shaped toP at c3'
        rw [Bool.and_eq_true] at c3'
        have c4 := c3'.1
        unfold PyData.canLay0 at c4
        exact c4
      have d1 : Dp X.K H v (toP x) := dp_of x v l1 r1
      have d2 : Dp X.K H (.ref a) (.list (ds.map toP)) := .lst hl (dps_of ds vs l2 l)
      have c3' : SeqAt.shaped (.list (ds.map toP)) = true := by
        unfold okD toP at c3
        exact c3
      have ea : (ds.map toP).any (fun z => PyData.eqv z (toP x)) = ds.any fun z => eqD z x := by
        rw [List.any_map]; rfl
      refine .inr (.inl ?_)
      cases neg with
      | true => exact ⟨_, _, d1, d2, c2, c3', by rw [ea]; exact q⟩
      | false => exact ⟨_, _, d1, d2, c2, c3', by rw [ea]; exact q⟩
    · cases h
theorem opInB_rep {α : Al} {H : Hp} {S : Sto} {x c : D} {b neg : Bool} {v u : V} {Q : VK} (rp : Rep X.K X.w α S H) (h : opInB x c S = some b) (r1 : RepD X.K X.w α H x v) (r2 : RepD X.K X.w α H c u) (q : Q (.bl (if neg = true then !b else b)) H) : rInZ X neg v u H Q := by
  unfold opInB at h
  split at h
  · obtain ⟨a, vs, ea, ha, la⟩ := rep_tup r2
    rw [ea]
    exact inB_rep (S := S) h r1 la ha q
  · split at h
    · split at h
      · rename_i k hk
        cases h
        refine .inr (.inr (.inl ⟨k, _, ?_, rep_str r2, q⟩))
        rw [rep_str r1, single hk]
      · cases h
    · cases h
  · split at h
    · rename_i ds hs
      obtain ⟨a, vs, ea, ha, la⟩ := seqL_rep rp hs r2
      rw [ea]
      exact inB_rep (S := S) h r1 la ha q
    · split at h
      · rename_i ks ds hd
        split at h
        · rename_i hk
          cases h
          obtain ⟨a, kv, vs, xs, ea, g⟩ := dictOf_at rp hd r2
          exact .inr (.inr (.inr ⟨α, a, ks, ds, kv, vs, xs, _, ea, g, hk, r1, q⟩))
        · cases h
      · cases h
theorem os_in : OpS X E (rInZ X false) opIn := fun α S H d e v u Q rp r1 r2 q => by
  unfold opIn at q
  split at q
  · rename_i h
    exact opInB_rep (neg := false) rp h r1 r2 (q.now rp (repB _))
  · exact q.elim
theorem os_notIn : OpS X E (rInZ X true) opNotIn := fun α S H d e v u Q rp r1 r2 q => by
  unfold opNotIn at q
  split at q
  · rename_i h
    exact opInB_rep (neg := true) rp h r1 r2 (q.now rp (repB _))
  · exact q.elim
/-! slices -/
def liftO (K : PySem.W.Frag) (w : World) (E : XK) (f : Rho → M (Option Int)) : TO := fun σ H Q => ∃ α S ρ, Rep K w α S H ∧ RepE K w α H ρ σ ∧ Post K w (fun _ _ b c => b = c) E α H (f ρ S) Q
abbrev ZO (X : Cx) (E : XK) (e : Option Expr) (f : Rho → M (Option Int)) : Prop := PO X e (liftO X.K X.w E f)
theorem PO.weak {e : Option Expr} {t t' : TO} (h : PO X e t) (k : ∀ σ H Q, t' σ H Q → t σ H Q) : PO X e t' := ⟨fun pins s σ H Q I q => h.run pins s σ H Q I (k σ H Q q)⟩
theorem zo_none : ZO X E none oNone := PO.weak po_none fun σ H Q ⟨α, S, ρ, rp, re, q⟩ => Post.now q rp rfl
theorem zo_some (h : ZE X E e f) : ZO X E (some e) (oSome f) := PO.weak (po_some h) fun σ H Q ⟨α, S, ρ, rp, re, q⟩ => by
  refine ⟨α, S, ρ, rp, re, Post.step q fun d S1 α1 H1 v _ st rp1 r1 q1 => ?_⟩
  unfold oInt at q1
  split at q1
  · exact ⟨_, rep_int r1, q1.now rp1 rfl⟩
  · exact q1.elim
def rSlZ (K : PySem.W.Frag) : V → Option Int → Option Int → Hp → VK → Prop := fun x lo hi H Q => rSlA K x lo hi H Q ∨ rSlS x lo hi H Q ∨ rSlL K x lo hi H Q
theorem sl_z : SlR X (rSlZ X.K) := sl_tupA.or (SlR.or sl_str sl_list)
theorem sIx_full {n : Nat} {lo hi : Option Int} {β : Type} {xs : List β} (hn : xs.length = n) (h : HT.sIx n 0 lo = 0 ∧ HT.sIx n n hi = n) : cutL xs lo hi = xs := by
  subst hn
  unfold cutL
  rw [h.1, h.2, List.drop_zero, Nat.sub_zero, List.take_length]
theorem ze_sl (h1 : ZE X E e f) (h2 : ZO X E lo fl) (h3 : ZO X E hi fh) : ZE X E (.Subscript e (.Slice lo hi none p2) pos) (eSl f fl fh) := PE.weak (pe_slice sl_z h1 h2 h3) fun σ H Q ⟨α, S, ρ, rp, re, q⟩ => by
  refine ⟨α, S, ρ, rp, re, Post.step q fun d S1 α1 H1 v _ st rp1 r1 q1 => ?_⟩
  refine ⟨α1, S1, ρ, rp1, re.mono st, Post.step q1 fun l S2 α2 H2 l' _ st2 rp2 r2 q2 => ?_⟩
  refine ⟨α2, S2, ρ, rp2, (re.mono st).mono st2, Post.step q2 fun h S3 α3 H3 h' _ st3 rp3 r3 q3 => ?_⟩
  subst r2 r3
  have r1' := repD_mono (st2.trans st3) d v r1
  unfold opSl at q3
  split at q3
  · rename_i ds
    obtain ⟨a, vs, ea, ha, la⟩ := rep_tup r1'
    refine .inl ⟨a, vs, ea, ha, fun hw => ?_, fun hw p hp => ?_⟩
    · rw [la.length] at hw
      rw [sIx_full rfl hw] at q3
      rw [ea] at r1'
      exact q3.now rp3 r1'
    · exact post_tup rp3 (cutL_rep la _ _) q3 hp
  · split at q3
    · rename_i hl
      exact .inr (.inl ⟨_, rep_str r1', hl, q3.now rp3 (repS _)⟩)
    · exact q3.elim
  · split at q3
    · rename_i ds hs
      obtain ⟨a, vs, ea, ha, la⟩ := seqL_rep rp3 hs r1'
      exact .inr (.inr ⟨a, vs, ea, ha, fun p hp => post_lst rp3 (cutL_rep la _ _) q3 hp⟩)
    · exact q3.elim
theorem RepL.reverse {K : PySem.W.Frag} {w : World} {α : Al} {H : Hp} : ∀ {ds : List D} {vs : List V}, RepL K w α H ds vs → RepL K w α H ds.reverse vs.reverse
  | [], vs, h => by unfold RepL at h; rw [h]; exact .nil
  | d :: ds, vs, h => by
    unfold RepL at h
    obtain ⟨v, r, e, h1, h2⟩ := h
    rw [e, List.reverse_cons, List.reverse_cons]
    exact (RepL.reverse h2).append (.one h1)
theorem ze_rev {k : Nat} {q1 q2 q3 : Pos} (h1 : ZE X E e f) : ZE X E (.Subscript e (.Slice none none (some (.UnaryOp .USub (.Constant (.int 1) k q1) q2)) q3) pos) (eRev f) := PE.weak (pe_revL h1) fun σ H Q ⟨α, S, ρ, rp, re, q⟩ => by
  refine ⟨α, S, ρ, rp, re, Post.step q fun d S1 α1 H1 v _ st rp1 r1 q1 => ?_⟩
  split at q1
  · rename_i ds hs
    obtain ⟨a, vs, ea, ha, la⟩ := seqL_rep rp1 hs r1
    exact ⟨a, vs, ea, ha, fun p hp => post_lst rp1 la.reverse q1 hp⟩
  · exact q1.elim
end
end Z
set_option Elab.async false
set_option linter.all false
set_option maxRecDepth 100000
set_option maxHeartbeats 1000000
/-! Z8: statements. -/
namespace Z
open PySem L2
inductive Fl where
  | nx (ρ : Rho) | ret (d : D) | brk (ρ : Rho) | cont (ρ : Rho)
def FlP (K : PySem.W.Frag) (w : World) (D' : Ends) (α : Al) (H : Hp) (f : Fl) (σ : Unit) : Prop := True
/-- what is wanted behind a statement -/
def PostS (K : PySem.W.Frag) (w : World) (E : XK) (α : Al) (H : Hp) (o : Out Fl) (Q : Ends) : Prop := match o with
  | .val (.nx ρ) S => ∀ α' H' σ', Stp α H α' H' → Rep K w α' S H' → RepE K w α' H' ρ σ' → Q.nx σ' H'
  | .val (.ret d) S => ∀ α' H' v, Stp α H α' H' → Rep K w α' S H' → RepD K w α' H' d v → Q.rt v H'
  | .val (.brk ρ) S => ∀ α' H' σ', Stp α H α' H' → Rep K w α' S H' → RepE K w α' H' ρ σ' → Q.bk σ' H'
  | .val (.cont ρ) S => ∀ α' H' σ', Stp α H α' H' → Rep K w α' S H' → RepE K w α' H' ρ σ' → Q.ct σ' H'
  | .exc c p S' => ∀ α' H' (dd : Addr) (v : V), Stp α H α' H' → Rep K w α' S' H' → H dd = none → H' dd = some (.xd [("what", v)]) → RepD K w α' H' p v → E (.ref (He.ga K c)) (some dd) H'
  | .stuck => False
def liftS (K : PySem.W.Frag) (w : World) (E : XK) (f : Rho → M Fl) : TS := fun Q σ H => ∃ α S ρ, Rep K w α S H ∧ RepE K w α H ρ σ ∧ PostS K w E α H (f ρ S) Q
section
variable {K : PySem.W.Frag} {w : World} {α α1 : Al} {H H1 : Hp} {S : Sto} {E : XK} {Q : Ends}
theorem PostS.mono {o : Out Fl} (s : Stp α H α1 H1) (h : PostS K w E α H o Q) : PostS K w E α1 H1 o Q := by
  cases o with
  | val f S' => cases f <;> exact fun α' H' v st => h α' H' v (s.trans st)
  | exc c p S' =>
    refine fun α' H' dd v st rp hn => h α' H' dd v (s.trans st) rp ?_
    cases q : H dd with
    | none => rfl
    | some u => exact absurd hn (s.dom dd (by rw [q]; exact fun e => nomatch e))
  | stuck => exact h
/-- a part runs ahead -/
theorem PostS.step {δ ε : Type} {R1 : Al → Hp → δ → ε → Prop} {Q1 : ε → Hp → Prop} {m : Out δ} {k : δ → Sto → Out Fl} (h : PostS K w E α H (m.bind k) Q)
    (hk : ∀ d S1 α1 H1 x, m = .val d S1 → Stp α H α1 H1 → Rep K w α1 S1 H1 → R1 α1 H1 d x → PostS K w E α1 H1 (k d S1) Q → Q1 x H1) : Post K w R1 E α H m Q1 := by
  cases m with
  | val d S1 => exact fun α1 H1 x st rp r => hk d S1 α1 H1 x rfl st rp r (PostS.mono st h)
  | exc c p S' => exact h
  | stuck => exact h
/-- a statement runs ahead -/
theorem PostS.seq {m : Out Fl} {k : Fl → Sto → Out Fl} {Q1 : Ends} (h : PostS K w E α H (m.bind k) Q)
    (h1 : ∀ ρ S1 α1 H1 σ, Stp α H α1 H1 → Rep K w α1 S1 H1 → RepE K w α1 H1 ρ σ → PostS K w E α1 H1 (k (.nx ρ) S1) Q → Q1.nx σ H1)
    (h2 : ∀ d S1 α1 H1 v, Stp α H α1 H1 → Rep K w α1 S1 H1 → RepD K w α1 H1 d v → PostS K w E α1 H1 (k (.ret d) S1) Q → Q1.rt v H1)
    (h3 : ∀ ρ S1 α1 H1 σ, Stp α H α1 H1 → Rep K w α1 S1 H1 → RepE K w α1 H1 ρ σ → PostS K w E α1 H1 (k (.brk ρ) S1) Q → Q1.bk σ H1)
    (h4 : ∀ ρ S1 α1 H1 σ, Stp α H α1 H1 → Rep K w α1 S1 H1 → RepE K w α1 H1 ρ σ → PostS K w E α1 H1 (k (.cont ρ) S1) Q → Q1.ct σ H1) : PostS K w E α H m Q1 := by
  cases m with
  | val f S1 =>
    cases f with
    | nx ρ => exact fun α1 H1 x st rp r => h1 ρ S1 α1 H1 x st rp r (PostS.mono st h)
    | ret d => exact fun α1 H1 x st rp r => h2 d S1 α1 H1 x st rp r (PostS.mono st h)
    | brk ρ => exact fun α1 H1 x st rp r => h3 ρ S1 α1 H1 x st rp r (PostS.mono st h)
    | cont ρ => exact fun α1 H1 x st rp r => h4 ρ S1 α1 H1 x st rp r (PostS.mono st h)
  | exc c p S' => exact h
  | stuck => exact h
theorem PostS.nx {ρ : Rho} {σ : St} (h : PostS K w E α H (.val (.nx ρ) S) Q) (rp : Rep K w α S H) (re : RepE K w α H ρ σ) : Q.nx σ H := h α H σ Stp.refl rp re
theorem PostS.bk {ρ : Rho} {σ : St} (h : PostS K w E α H (.val (.brk ρ) S) Q) (rp : Rep K w α S H) (re : RepE K w α H ρ σ) : Q.bk σ H := h α H σ Stp.refl rp re
theorem PostS.ct {ρ : Rho} {σ : St} (h : PostS K w E α H (.val (.cont ρ) S) Q) (rp : Rep K w α S H) (re : RepE K w α H ρ σ) : Q.ct σ H := h α H σ Stp.refl rp re
theorem PostS.rt {d : D} {v : V} (h : PostS K w E α H (.val (.ret d) S) Q) (rp : Rep K w α S H) (r : RepD K w α H d v) : Q.rt v H := h α H v Stp.refl rp r
end
theorem PS.weak {X : Cx} {e : Stmt} {t t' : TS} (h : PS X e t) (k : ∀ Q σ H, t' Q σ H → t Q σ H) : PS X e t' := ⟨fun pins s σ H Q I q => h.run pins s σ H Q I (k Q σ H q)⟩
theorem PSs.weak {X : Cx} {e : List Stmt} {t t' : TS} (h : PSs X e t) (k : ∀ Q σ H, t' Q σ H → t Q σ H) : PSs X e t' := ⟨fun pins s σ H Q I q => h.run pins s σ H Q I (k Q σ H q)⟩
abbrev ZS (X : Cx) (E : XK) (e : Stmt) (f : Rho → M Fl) : Prop := PS X e (liftS X.K X.w E f)
abbrev ZSs (X : Cx) (E : XK) (e : List Stmt) (f : Rho → M Fl) : Prop := PSs X e (liftS X.K X.w E f)
/-! targets -/
def liftG (K : PySem.W.Frag) (w : World) (E : XK) (g : D → Rho → M Rho) : TG := fun v σ H Q => ∃ α S ρ d, Rep K w α S H ∧ RepE K w α H ρ σ ∧ RepD K w α H d v ∧ Post K w (RepE K w) E α H (g d ρ S) Q
def liftGs (K : PySem.W.Frag) (w : World) (E : XK) (g : List D → Rho → M Rho) : TGs := fun vs σ H Q => ∃ α S ρ ds, Rep K w α S H ∧ RepE K w α H ρ σ ∧ RepL K w α H ds vs ∧ Post K w (RepE K w) E α H (g ds ρ S) Q
theorem PG.weak {X : Cx} {e : Expr} {t t' : TG} (h : PG X e t) (k : ∀ v σ H Q, t' v σ H Q → t v σ H Q) : PG X e t' := ⟨fun pins s σ H v u Q I r q => h.run pins s σ H v u Q I r (k v σ H Q q)⟩
theorem PGs.weak {X : Cx} {e : List Expr} {t t' : TGs} (h : PGs X e t) (k : ∀ v σ H Q, t' v σ H Q → t v σ H Q) : PGs X e t' := ⟨fun pins s σ H v u Q I r q => h.run pins s σ H v u Q I r (k v σ H Q q)⟩
abbrev ZG (X : Cx) (E : XK) (e : Expr) (g : D → Rho → M Rho) : Prop := PG X e (liftG X.K X.w E g)
abbrev ZGs (X : Cx) (E : XK) (e : List Expr) (g : List D → Rho → M Rho) : Prop := PGs X e (liftGs X.K X.w E g)
@[simp] def tName (i : Nat) : D → Rho → M Rho := fun d ρ S => .val (ρ.set i (some d)) S
@[simp] def tsNil : List D → Rho → M Rho := fun ds ρ S => match ds with
  | [] => .val ρ S
  | _ => .stuck
@[simp] def tsCons (g : D → Rho → M Rho) (gs : List D → Rho → M Rho) : List D → Rho → M Rho := fun ds ρ S => match ds with
  | d :: r => (g d ρ S).bind fun ρ1 S1 => gs r ρ1 S1
  | [] => .stuck
/-- (a, b, ..) = a tuple, a list of so many -/
@[simp] def tTupZ (n : Nat) (gs : List D → Rho → M Rho) : D → Rho → M Rho := fun d ρ S => match d with
  | .tup ds => if ds.length = n then gs ds ρ S else .stuck
  | d => match seqL S d with
    | some ds => if ds.length = n then gs ds ρ S else .stuck
    | none => .stuck
section
variable {K : PySem.W.Frag} {w : World} {α : Al} {H : Hp}
theorem RepE.set {ρ : Rho} {σ : St} {d : D} {v : V} (i : Nat) (re : RepE K w α H ρ σ) (r : RepD K w α H d v) : RepE K w α H (ρ.set i (some d)) (σ.set i (some v)) := by
  refine ⟨by rw [List.length_set, List.length_set]; exact re.len, fun j e h => ?_⟩
  by_cases c : i = j
  · subst c
    by_cases hl : i < ρ.length
    · rw [List.getElem?_set_self hl] at h
      cases h
      exact ⟨v, List.getElem?_set_self (by rw [← re.len]; exact hl), r⟩
    · rw [List.getElem?_eq_none (by rw [List.length_set]; omega)] at h
      cases h
  · rw [List.getElem?_set_ne c] at h ⊢
    exact re.at_ j e h
theorem RepE.unset {ρ : Rho} {σ : St} (i : Nat) (re : RepE K w α H ρ σ) : RepE K w α H (ρ.set i none) (σ.set i none) := by
  refine ⟨by rw [List.length_set, List.length_set]; exact re.len, fun j e h => ?_⟩
  by_cases c : i = j
  · subst c
    by_cases hl : i < ρ.length
    · rw [List.getElem?_set_self hl] at h
      cases h
    · rw [List.getElem?_eq_none (by rw [List.length_set]; omega)] at h
      cases h
  · rw [List.getElem?_set_ne c] at h ⊢
    exact re.at_ j e h
end
section
variable {X : Cx} {E : XK} {pos p1 : Pos} {e e1 e2 tg : Expr} {es : List Expr} {f f1 f2 : Rho → M D} {g : D → Rho → M Rho} {gs : List D → Rho → M Rho} {st : Stmt} {sts a b : List Stmt} {s1 s2 : Rho → M Fl} {t : Rho → M Bool}
theorem zg_name {i : Nat} {x : Str} (h : PG X (.Name x pos) (L2.gName i)) : ZG X E (.Name x pos) (tName i) := PG.weak h fun v σ H Q ⟨α, S, ρ, d, rp, re, r, q⟩ => Post.now q rp (re.set i r)
theorem zgs_nil : ZGs X E [] tsNil := PGs.weak pgs_nil fun vs σ H Q ⟨α, S, ρ, ds, rp, re, r, q⟩ => by
  cases ds with
  | nil =>
    unfold RepL at r
    exact ⟨r, Post.now q rp re⟩
  | cons d r' => exact q.elim
theorem zgs_cons (h1 : ZG X E e g) (h2 : ZGs X E es gs) (hs : (assignEach (e :: es) X.env).map (·.2) = assign e X.env :: (assignEach es X.env).map (·.2) := by rfl) : ZGs X E (e :: es) (tsCons g gs) :=
  PGs.weak (pgs_cons h1 h2 hs) fun vs σ H Q ⟨α, S, ρ, ds, rp, re, r, q⟩ => by
    cases ds with
    | nil => exact q.elim
    | cons d ds =>
      unfold RepL at r
      obtain ⟨v, r', e, r1, r2⟩ := r
      refine ⟨v, r', e, α, S, ρ, d, rp, re, r1, Post.step q fun ρ1 S1 α1 H1 σ1 _ st rp1 re1 q1 => ?_⟩
      exact ⟨α1, S1, ρ1, ds, rp1, re1, repL_mono st _ _ r2, q1⟩
theorem PG.or {t t' : TG} (h : PG X e t) (h' : PG X e t') : PG X e (fun v σ H Q => t v σ H Q ∨ t' v σ H Q) := ⟨fun pins s σ H v u Q I r q => by
  rcases q with q | q
  · exact h.run pins s σ H v u Q I r q
  · exact h'.run pins s σ H v u Q I r q⟩
theorem zg_tup {k n : Nat} (hc : X.calm = true) (h : ZGs X E es gs) (hn : (assignEach es X.env).length = n := by rfl) (hst : (assignEach es X.env).findIdx? (·.1) = none := by rfl) : ZG X E (.Tuple es k pos) (tTupZ n gs) :=
  PG.weak (PG.or (pg_tup hc h hn hst) (pg_unl hc h hn hst)) fun v σ H Q ⟨α, S, ρ, d, rp, re, r, q⟩ => by
    unfold tTupZ at q
    split at q
    · rename_i ds
      split at q
      · rename_i hl
        obtain ⟨a, vs, ea, ha, la⟩ := rep_tup r
        exact .inl ⟨a, vs, ea, ha, by rw [la.length]; exact hl, α, S, ρ, ds, rp, re, la, q⟩
      · exact q.elim
    · split at q
      · rename_i ds hs
        split at q
        · rename_i hl
          obtain ⟨a, vs, ea, ha, la⟩ := seqL_rep rp hs r
          exact .inr ⟨a, vs, ea, ha, by rw [la.length]; exact hl, α, S, ρ, ds, rp, re, la, q⟩
        · exact q.elim
      · exact q.elim
/-! o[i] = v: cells alone -/
def opSet : D → D → D → M Unit := fun o i v S => match o with
  | .ref n => (match S[n]? with
    | some (.lst ds) => (match i with
      | .int k => (match ixN ds.length k with
        | some j => .val () (S.set n (.lst (ds.set j v)))
        | none => .stuck)
      | _ => .stuck)
    | some (.dic false ks ds) => if isKey 8 i = true ∧ ks.length < sizeLine then .val () (S.set n (.dic false (dPut ks ds i v).1 (dPut ks ds i v).2)) else .stuck
    | _ => .stuck)
  | _ => .stuck
@[simp] def tSub (fo fi : Rho → M D) : D → Rho → M Rho := fun d ρ S => (fo ρ S).bind fun o S1 => (fi ρ S1).bind fun i S2 => (opSet o i d S2).bind fun _ S3 => .val ρ S3
def rSetZ (X : Cx) : TSet := fun o i v H Q => rSetL o i v H Q ∨ rSetN X o i v H Q
theorem set_z (hu : X.A.units + 64 < cLine) : PSet X (rSetZ X) := by
  intro pins s σ H o i v ov iv u Q I ro ri rv q
  rcases q with q | q
  · exact set_list pins s σ H o i v ov iv u Q I ro ri rv q
  · exact set_dict hu pins s σ H o i v ov iv u Q I ro ri rv q
theorem opSet_rep {α : Al} {S : Sto} {H : Hp} {o i d : D} {x y v : V} {Q : Hp → Prop} {k : Unit → Sto → Out Rho} {ρ : Rho} (rp : Rep X.K X.w α S H) (ro : RepD X.K X.w α H o x) (ri : RepD X.K X.w α H i y) (r : RepD X.K X.w α H d v)
    (q : ∃ S', opSet o i d S = .val () S' ∧ ∀ H', Stp α H α H' → Rep X.K X.w α S' H' → Q H') : rSetZ X x y v H Q := by
  obtain ⟨S', e, q⟩ := q
  unfold opSet at e
  split at e
  · rename_i n
    unfold RepD at ro
    obtain ⟨a, ea, ha⟩ := ro
    split at e
    · rename_i ds hn
      split at e
      · rename_i k
        split at e
        · rename_i j hj
          cases e
          obtain ⟨vs, h1, h2⟩ := rp.cell n _ a hn ha
          refine .inl ⟨a, vs, k, j, ea, rep_int ri, h1, by rw [h2.length]; exact hj, q _ (stp_set rp ha (nofrz h1)) (rp.setCell ha (nofrz h1) ?_)⟩
          exact ⟨_, upd_same, (repL_mono (stp_set rp ha (nofrz h1)) _ _ h2).set j (repD_mono (stp_set rp ha (nofrz h1)) d v r)⟩
        · cases e
      · cases e
    · rename_i ks ds hn
      split at e
      · rename_i c
        cases e
        obtain ⟨kv, vs, xs, h1, h2, h3, h4⟩ := rp.cell n _ a hn ha
        have h1 : H a = some (dHO X.w a xs) := by simpa using h1
        refine .inr ⟨α, a, ks, ds, kv, vs, xs, i, d, ea, h1, h2, h3, h4, c.1, ri, r, c.2, fun kv' vs' xs' en rk rv => q _ (stp_set rp ha (nofrz h1)) (rp.setCell ha (nofrz h1) ?_)⟩
        refine ⟨kv', vs', xs', ?_, en, repL_mono (stp_set rp ha (nofrz h1)) _ _ rk, repL_mono (stp_set rp ha (nofrz h1)) _ _ rv⟩
        simp only [Bool.false_eq_true, if_false]
        exact upd_same
      · cases e
    · cases e
  · cases e
theorem zg_sub (hu : X.A.units + 64 < cLine) (h1 : ZE X E e1 f1) (h2 : ZE X E e2 f2) (ha : ∀ v, assign (.Subscript e1 e2 pos) X.env v = (do
      let ov ← holding [v] (eval e1 X.env)
      let iv ← holding [v, ov] (eval e2 X.env)
      standAt pos
      holding [v, ov, iv] (setItem ov iv v)
      release [v, ov, iv] []) := by intro _; rfl) : ZG X E (.Subscript e1 e2 pos) (tSub f1 f2) := PG.weak (pg_sub h1 h2 (set_z hu) ha) fun v σ H Q ⟨α, S, ρ, d, rp, re, r, q⟩ => by
  refine ⟨α, S, ρ, rp, re, Post.step q fun o S1 α1 H1 x _ st rp1 r1 q1 => ?_⟩
  refine ⟨α1, S1, ρ, rp1, re.mono st, Post.step q1 fun i S2 α2 H2 y _ st2 rp2 r2 q2 => ?_⟩
  refine opSet_rep (k := fun _ S => .val ρ S) (ρ := ρ) rp2 (repD_mono st2 _ _ r1) r2 (repD_mono (st.trans st2) _ _ r) ?_
  cases e : opSet o i d S2 with
  | val u S' =>
    rw [e] at q2
    refine ⟨S', rfl, fun H' st3 rp3 => ?_⟩
    exact q2 α2 H' σ st3 rp3 (((re.mono st).mono st2).mono st3)
  | exc c p S' =>
    unfold opSet at e
    split at e
    · split at e
      · split at e
        · split at e <;> cases e
        · cases e
      · split at e <;> cases e
      · cases e
    · cases e
  | stuck => rw [e] at q2; exact q2.elim
/-! statements -/
@[simp] def sSkip : Rho → M Fl := fun ρ S => .val (.nx ρ) S
@[simp] def sSeq (a b : Rho → M Fl) : Rho → M Fl := fun ρ S => (a ρ S).bind fun fl S1 => match fl with
  | .nx ρ1 => b ρ1 S1
  | fl => .val fl S1
@[simp] def sAsg (f : Rho → M D) (g : D → Rho → M Rho) : Rho → M Fl := fun ρ S => (f ρ S).bind fun d S1 => (g d ρ S1).bind fun ρ1 S2 => .val (.nx ρ1) S2
@[simp] def sDrop (f : Rho → M D) : Rho → M Fl := fun ρ S => (f ρ S).bind fun _ S1 => .val (.nx ρ) S1
@[simp] def sRet (f : Rho → M D) : Rho → M Fl := fun ρ S => (f ρ S).bind fun d S1 => .val (.ret d) S1
@[simp] def sRetN : Rho → M Fl := fun ρ S => .val (.ret .non) S
@[simp] def sIf (c : Rho → M Bool) (a b : Rho → M Fl) : Rho → M Fl := fun ρ S => (c ρ S).bind fun q S1 => if q = true then a ρ S1 else b ρ S1
@[simp] def sBrk : Rho → M Fl := fun ρ S => .val (.brk ρ) S
@[simp] def sCont : Rho → M Fl := fun ρ S => .val (.cont ρ) S
@[simp] def sPar2 (i j : Nat) (fs : Rho → M (List D)) : Rho → M Fl := fun ρ S => (fs ρ S).bind fun ds S1 => match ds with
  | [x, y] => .val (.nx ((ρ.set i (some x)).set j (some y))) S1
  | _ => .stuck
@[simp] def sPar3 (i j l : Nat) (fs : Rho → M (List D)) : Rho → M Fl := fun ρ S => (fs ρ S).bind fun ds S1 => match ds with
  | [x, y, z] => .val (.nx (((ρ.set i (some x)).set j (some y)).set l (some z))) S1
  | _ => .stuck
/-- name op= e -/
@[simp] def sAug (i : Nat) (op : D → D → M D) (f : Rho → M D) : Rho → M Fl := fun ρ S => match ρ[i]? with
  | some (some x) => (f ρ S).bind fun y S1 => (op x y S1).bind fun z S2 => .val (.nx (ρ.set i (some z))) S2
  | _ => .stuck
theorem zss_nil : ZSs X E [] sSkip := PSs.weak pss_nil fun Q σ H ⟨α, S, ρ, rp, re, q⟩ => q.nx rp re
theorem zss_cons (h1 : ZS X E st s1) (h2 : ZSs X E sts s2) : ZSs X E (st :: sts) (sSeq s1 s2) := PSs.weak (pss_cons h1 h2) fun Q σ H ⟨α, S, ρ, rp, re, q⟩ => by
  refine ⟨α, S, ρ, rp, re, PostS.seq q (fun ρ1 S1 α1 H1 σ1 st rp1 re1 q1 => ?_) (fun d S1 α1 H1 v st rp1 r1 q1 => q1.rt rp1 r1) (fun ρ1 S1 α1 H1 σ1 st rp1 re1 q1 => q1.bk rp1 re1) (fun ρ1 S1 α1 H1 σ1 st rp1 re1 q1 => q1.ct rp1 re1)⟩
  exact ⟨α1, S1, ρ1, rp1, re1, q1⟩
theorem zss_one (h1 : ZS X E st s1) : ZSs X E [st] s1 := pss_one h1
theorem zs_pass : ZS X E (.Pass pos) sSkip := PS.weak ps_pass fun Q σ H ⟨α, S, ρ, rp, re, q⟩ => q.nx rp re
theorem zs_doc {x : Str} {j : Nat} : ZS X E (.Expr (.Constant (.str x) j p1) pos) sSkip := PS.weak ps_doc fun Q σ H ⟨α, S, ρ, rp, re, q⟩ => q.nx rp re
theorem zs_brk : ZS X E (.Break pos) sBrk := PS.weak ps_break fun Q σ H ⟨α, S, ρ, rp, re, q⟩ => q.bk rp re
theorem zs_cont : ZS X E (.Continue pos) sCont := PS.weak ps_continue fun Q σ H ⟨α, S, ρ, rp, re, q⟩ => q.ct rp re
theorem zs_drop (h : ZE X E e f) (hs : swapsWith e none pos.line X.env = pure false := by rfl) : ZS X E (.Expr e pos) (sDrop f) := PS.weak (ps_expr h hs) fun Q σ H ⟨α, S, ρ, rp, re, q⟩ => by
  refine ⟨α, S, ρ, rp, re, PostS.step q fun d S1 α1 H1 v _ st rp1 r1 q1 => ?_⟩
  exact q1.nx rp1 (re.mono st)
theorem zs_ret (h : ZE X E e f) : ZS X E (.Return (some e) pos) (sRet f) := PS.weak (ps_ret h) fun Q σ H ⟨α, S, ρ, rp, re, q⟩ => by
  refine ⟨α, S, ρ, rp, re, PostS.step q fun d S1 α1 H1 v _ st rp1 r1 q1 => ?_⟩
  exact q1.rt rp1 r1
theorem zs_retN : ZS X E (.Return none pos) sRetN := PS.weak ps_retN fun Q σ H ⟨α, S, ρ, rp, re, q⟩ => q.rt rp repN
theorem zs_if {c : Expr} (h0 : ZT X E c t) (h1 : ZSs X E a s1) (h2 : ZSs X E b s2) : ZS X E (.If c a b pos) (sIf t s1 s2) := PS.weak (ps_if h0 h1 h2) fun Q σ H ⟨α, S, ρ, rp, re, q⟩ => by
  refine ⟨α, S, ρ, rp, re, PostS.step q fun d S1 α1 H1 v _ st rp1 r1 q1 => ?_⟩
  subst r1
  cases d with
  | true => exact ⟨α1, S1, ρ, rp1, re.mono st, q1⟩
  | false => exact ⟨α1, S1, ρ, rp1, re.mono st, q1⟩
theorem zs_asg (h1 : ZE X E e f) (h2 : ZG X E tg g) (hs : swapsWithSole [tg] e pos.line X.env = pure false := by rfl) (hw : swappedStores [tg] e X.env = pure none := by rfl)
    (h3 : (assignEach [tg] X.env).map (·.2) = [assign tg X.env] := by rfl) : ZS X E (.Assign [tg] e pos) (sAsg f g) := PS.weak (ps_asg h1 h2 hs hw h3) fun Q σ H ⟨α, S, ρ, rp, re, q⟩ => by
  refine ⟨α, S, ρ, rp, re, PostS.step q fun d S1 α1 H1 v _ st rp1 r1 q1 => ?_⟩
  refine ⟨α1, S1, ρ, d, rp1, re.mono st, r1, PostS.step q1 fun ρ1 S2 α2 H2 σ2 _ st2 rp2 re2 q2 => ?_⟩
  exact q2.nx rp2 re2
theorem zs_set {i : Nat} {x : Str} {p : Pos} (hN : X.N.Nodup) (hi : X.N[i]? = some x) (hx : Loc X.env.scope x) (h1 : ZE X E e f) (hs : swapsWith e (some (.Name x p)) pos.line X.env = pure false := by rfl) (hf : X.fn x = true ∨ X.env.scope.names.lookup x = some .local := by first | exact .inl rfl | exact .inr rfl) :
    ZS X E (.Assign [.Name x p] e pos) (sAsg f (tName i)) := PS.weak (ps_set hN hi hx h1 hs hf) fun Q σ H ⟨α, S, ρ, rp, re, q⟩ => by
  refine ⟨α, S, ρ, rp, re, PostS.step q fun d S1 α1 H1 v _ st rp1 r1 q1 => ?_⟩
  exact q1.nx rp1 ((re.mono st).set i r1)
theorem zs_par2 {i j : Nat} {fs : Rho → M (List D)} (h : PA X [e1, e2] (liftL X.K X.w E fs) → PS X st (tPar i j (liftL X.K X.w E fs))) (ha : ZA X E [e1, e2] fs) : ZS X E st (sPar2 i j fs) := PS.weak (h ha) fun Q σ H ⟨α, S, ρ, rp, re, q⟩ => by
  refine ⟨α, S, ρ, rp, re, PostS.step q fun ds S1 α1 H1 vs _ st rp1 r1 q1 => ?_⟩
  split at q1
  · rename_i x y
    unfold RepL at r1
    obtain ⟨v, r, e1, g1, r1⟩ := r1
    unfold RepL at r1
    obtain ⟨u, r', e2, g2, r1⟩ := r1
    unfold RepL at r1
    rw [r1] at e2
    rw [e2] at e1
    exact ⟨v, u, e1, q1.nx rp1 (((re.mono st).set i g1).set j g2)⟩
  · exact q1.elim
theorem zs_par3 {i j l : Nat} {e3 : Expr} {fs : Rho → M (List D)} (h : PA X [e1, e2, e3] (liftL X.K X.w E fs) → PS X st (tPar3 i j l (liftL X.K X.w E fs))) (ha : ZA X E [e1, e2, e3] fs) : ZS X E st (sPar3 i j l fs) := PS.weak (h ha) fun Q σ H ⟨α, S, ρ, rp, re, q⟩ => by
  refine ⟨α, S, ρ, rp, re, PostS.step q fun ds S1 α1 H1 vs _ st rp1 r1 q1 => ?_⟩
  split at q1
  · rename_i x y z
    unfold RepL at r1
    obtain ⟨v, r, e1, g1, r1⟩ := r1
    unfold RepL at r1
    obtain ⟨u, r', e2, g2, r1⟩ := r1
    unfold RepL at r1
    obtain ⟨u3, r3, e3, g3, r1⟩ := r1
    unfold RepL at r1
    rw [r1] at e3
    rw [e3] at e2
    rw [e2] at e1
    exact ⟨v, u, u3, e1, q1.nx rp1 ((((re.mono st).set i g1).set j g2).set l g3)⟩
  · exact q1.elim
theorem zs_aug {i : Nat} {x : Str} {o : Operator} {r : TIp} {op : D → D → M D} {p : Pos} (hN : X.N.Nodup) (hi : X.N[i]? = some x) (hx : Loc X.env.scope x) (h1 : ZE X E e f) (ho : PIp X o r) (hs : OpS X E r op) (hf : X.fn x = true ∨ X.env.scope.names.lookup x = some .local := by first | exact .inl rfl | exact .inr rfl) :
    ZS X E (.AugAssign (.Name x p) o e pos) (sAug i op f) := PS.weak (ps_aug hN hi hx h1 ho hf) fun Q σ H ⟨α, S, ρ, rp, re, q⟩ => by
  unfold sAug at q
  split at q
  · rename_i d hd
    obtain ⟨v, hv, rv⟩ := re.at_ i d hd
    refine ⟨v, hv, α, S, ρ, rp, re, PostS.step q fun y S1 α1 H1 u _ st rp1 r1 q1 => ?_⟩
    refine hs α1 S1 H1 d y v u _ rp1 (repD_mono st d v rv) r1 (PostS.step q1 fun z S2 α2 H2 u2 _ st2 rp2 r2 q2 => ?_)
    exact q2.nx rp2 (((re.mono st).mono st2).set i r2)
  · exact q.elim
end
end Z
set_option Elab.async false
set_option linter.all false
set_option maxRecDepth 100000
set_option maxHeartbeats 1000000
/-! Z9: while, for, comprehensions. -/
namespace Z
open PySem L2
/-! ### while -/
/-- behind a turn's body -/
@[simp] def onTurn (k : Rho → M Fl) (fl : Fl) : M Fl := match fl with
  | .nx ρ1 => k ρ1
  | .cont ρ1 => k ρ1
  | .brk ρ1 => fun S => .val (.nx ρ1) S
  | .ret d => fun S => .val (.ret d) S
def wIter (c : Rho → M Bool) (b : Rho → M Fl) : Nat → Rho → M Fl
  | 0 => fun _ _ => .stuck
  | n + 1 => fun ρ S => (c ρ S).bind fun q S1 => if q = true then (b ρ S1).bind (onTurn (wIter c b n)) else .val (.nx ρ) S1
theorem wIter_succ {c : Rho → M Bool} {b : Rho → M Fl} : ∀ {n : Nat} {ρ : Rho} {S : Sto}, wIter c b n ρ S ≠ .stuck → wIter c b (n + 1) ρ S = wIter c b n ρ S
  | 0, ρ, S, h => absurd rfl h
  | n + 1, ρ, S, h => by
    unfold wIter at h ⊢
    cases hc : c ρ S with
    | val q S1 =>
      rw [hc] at h
      unfold Out.bind at h ⊢
      dsimp only at h ⊢
      cases q with
      | false => rfl
      | true =>
        rw [if_pos rfl] at h ⊢
        rw [if_pos rfl]
        cases hb : b ρ S1 with
        | val fl S2 =>
          rw [hb] at h
          cases fl with
          | nx ρ1 => exact wIter_succ h
          | cont ρ1 => exact wIter_succ h
          | brk ρ1 => rfl
          | ret d => rfl
        | exc cc p S2 => rfl
        | stuck => rfl
    | exc cc p S1 => rfl
    | stuck => rfl
theorem wIter_le {c : Rho → M Bool} {b : Rho → M Fl} {n m : Nat} {ρ : Rho} {S : Sto} (h : wIter c b n ρ S ≠ .stuck) (hm : n ≤ m) : wIter c b m ρ S = wIter c b n ρ S := by
  induction m with
  | zero =>
    have : n = 0 := by omega
    subst this
    rfl
  | succ m ih =>
    by_cases e : n = m + 1
    · rw [e]
    · have q := ih (by omega)
      rw [wIter_succ (by rw [q]; exact h), q]
open Classical in
noncomputable def sWhile (c : Rho → M Bool) (b : Rho → M Fl) : Rho → M Fl := fun ρ S => if h : ∃ n, wIter c b n ρ S ≠ .stuck then wIter c b h.choose ρ S else .stuck
theorem sWhile_of {c : Rho → M Bool} {b : Rho → M Fl} {n : Nat} {ρ : Rho} {S : Sto} (h : wIter c b n ρ S ≠ .stuck) : sWhile c b ρ S = wIter c b n ρ S := by
  unfold sWhile
  have hx : ∃ n, wIter c b n ρ S ≠ .stuck := ⟨n, h⟩
  rw [dif_pos hx]
  have h2 := hx.choose_spec
  rcases Nat.le_total n hx.choose with q | q
  · exact wIter_le h q
  · exact (wIter_le h2 q).symm
/-- one turn more -/
theorem sWhile_eq (c : Rho → M Bool) (b : Rho → M Fl) (ρ : Rho) (S : Sto) : sWhile c b ρ S = (c ρ S).bind fun q S1 => if q = true then (b ρ S1).bind (onTurn (sWhile c b)) else .val (.nx ρ) S1 := by
  have key : ∀ ρ1 S2, (∃ n, wIter c b n ρ1 S2 ≠ .stuck) ∨ sWhile c b ρ1 S2 = .stuck := fun ρ1 S2 => by
    by_cases h : ∃ n, wIter c b n ρ1 S2 ≠ .stuck
    · exact .inl h
    · right
      unfold sWhile
      rw [dif_neg h]
  have one : ∀ n, wIter c b (n + 1) ρ S = (c ρ S).bind fun q S1 => if q = true then (b ρ S1).bind (onTurn (wIter c b n)) else .val (.nx ρ) S1 := fun n => rfl
  have stuck0 : ∀ ρ1 S2, sWhile c b ρ1 S2 = .stuck → ∀ n, wIter c b n ρ1 S2 = .stuck := fun ρ1 S2 h n => by
    cases e : wIter c b n ρ1 S2 with
    | stuck => rfl
    | val f S3 =>
      have ne : wIter c b n ρ1 S2 ≠ .stuck := by rw [e]; exact fun z => nomatch z
      rw [← sWhile_of ne, h] at e
      cases e
    | exc cc p S3 =>
      have ne : wIter c b n ρ1 S2 ≠ .stuck := by rw [e]; exact fun z => nomatch z
      rw [← sWhile_of ne, h] at e
      cases e
  have mine : ∀ m, wIter c b (m + 1) ρ S ≠ .stuck → sWhile c b ρ S = wIter c b (m + 1) ρ S := fun m h => sWhile_of h
  cases hc : c ρ S with
  | stuck =>
    rcases key ρ S with ⟨n, hn⟩ | h
    · cases n with
      | zero => exact absurd rfl hn
      | succ n => rw [one, hc] at hn; exact absurd rfl hn
    · exact h
  | exc cc p S1 =>
    have e : wIter c b 1 ρ S = .exc cc p S1 := by rw [one, hc]; rfl
    rw [mine 0 (by rw [e]; exact fun z => nomatch z), e]
    rfl
  | val q S1 =>
    cases q with
    | false =>
      have e : wIter c b 1 ρ S = .val (.nx ρ) S1 := by rw [one, hc]; rfl
      rw [mine 0 (by rw [e]; exact fun z => nomatch z), e]
      rfl
    | true =>
      unfold Out.bind
      dsimp only
      rw [if_pos rfl]
      cases hb : b ρ S1 with
      | stuck =>
        rcases key ρ S with ⟨n, hn⟩ | h
        · cases n with
          | zero => exact absurd rfl hn
          | succ n => rw [one, hc] at hn; unfold Out.bind at hn; dsimp only at hn; rw [if_pos rfl, hb] at hn; exact absurd rfl hn
        · exact h
      | exc cc p S2 =>
        have e : wIter c b 1 ρ S = .exc cc p S2 := by rw [one, hc]; unfold Out.bind; dsimp only; rw [if_pos rfl, hb]
        rw [mine 0 (by rw [e]; exact fun z => nomatch z), e]
      | val fl S2 =>
        have step : ∀ n, wIter c b (n + 1) ρ S = onTurn (wIter c b n) fl S2 := fun n => by rw [one, hc]; unfold Out.bind; dsimp only; rw [if_pos rfl, hb]
        have go : ∀ ρ1, (∀ n, wIter c b (n + 1) ρ S = wIter c b n ρ1 S2) → sWhile c b ρ S = sWhile c b ρ1 S2 := fun ρ1 st => by
          rcases key ρ1 S2 with ⟨n, hn⟩ | h
          · rw [mine n (by rw [st]; exact hn), st, sWhile_of hn]
          · rw [h]
            rcases key ρ S with ⟨n, hn⟩ | h2
            · cases n with
              | zero => exact absurd rfl hn
              | succ n => rw [st, stuck0 ρ1 S2 h n] at hn; exact absurd rfl hn
            · exact h2
        cases fl with
        | nx ρ1 => exact go ρ1 step
        | cont ρ1 => exact go ρ1 step
        | brk ρ1 => rw [mine 0 (by rw [step]; exact fun z => nomatch z), step]; rfl
        | ret d => rw [mine 0 (by rw [step]; exact fun z => nomatch z), step]; rfl
section
variable {X : Cx} {E : XK} {pos : Pos} {c : Expr} {body : List Stmt} {t : Rho → M Bool} {b : Rho → M Fl}
theorem zs_while (hp : PassesOwn (model X.prog X.w) X.A X.env X.xe) (h1 : ZT X E c t) (h2 : ZSs X E body b) : ZS X E (.While c body [] pos) (sWhile t b) := PS.weak (ps_while hp h1 h2) fun Q σ H ⟨α, S, ρ, rp, re, q⟩ => by
  have hx : ∃ n, wIter t b n ρ S ≠ .stuck := by
    refine Classical.byContradiction fun h => ?_
    unfold sWhile at q
    rw [dif_neg h] at q
    exact q
  obtain ⟨n, hn⟩ := hx
  rw [sWhile_of hn] at q
  refine ⟨fun m σ H => ∃ α S ρ, Rep X.K X.w α S H ∧ RepE X.K X.w α H ρ σ ∧ PostS X.K X.w E α H (wIter t b m ρ S) Q, ⟨n, α, S, ρ, rp, re, q⟩, fun m σ H ⟨α, S, ρ, rp, re, q⟩ => ?_⟩
  cases m with
  | zero => exact q.elim
  | succ m =>
    refine ⟨α, S, ρ, rp, re, PostS.step q fun d S1 α1 H1 v _ st rp1 r1 q1 => ?_⟩
    subst r1
    cases d with
    | false =>
      rw [if_neg Bool.false_ne_true] at q1
      exact q1.nx rp1 (re.mono st)
    | true =>
      rw [if_pos rfl] at q1
      refine ⟨fun σ H => ∃ α S ρ, Rep X.K X.w α S H ∧ RepE X.K X.w α H ρ σ ∧ PostS X.K X.w E α H (wIter t b m ρ S) Q, fun σ' H' h => ⟨m, Nat.lt_succ_self m, h⟩, ?_⟩
      exact ⟨α1, S1, ρ, rp1, re.mono st, PostS.seq q1 (fun ρ1 S2 α2 H2 σ2 st2 rp2 re2 q2 => ⟨α2, S2, ρ1, rp2, re2, q2⟩) (fun d S2 α2 H2 v st2 rp2 r2 q2 => q2.rt rp2 r2)
        (fun ρ1 S2 α2 H2 σ2 st2 rp2 re2 q2 => q2.nx rp2 re2) (fun ρ1 S2 α2 H2 σ2 st2 rp2 re2 q2 => ⟨α2, S2, ρ1, rp2, re2, q2⟩)⟩
end
/-! ### what is walked -/
/-- items, and what must stand meanwhile -/
structure Src where
  items : List D
  ok : Sto → Prop
/-- J gives these items while they stand -/
def Gives (K : PySem.W.Frag) (w : World) (J : It) (α0 : Al) (H0 : Hp) (s : Src) : Prop := ∀ (α : Al) (S : Sto) (H : Hp), Stq α0 H0 α H → Rep K w α S H → s.ok S →
  ∀ i, (s.items.length ≤ i → J.stop i H) ∧ ∀ d, s.items[i]? = some d → J.go i H ∧ ∀ x H', J.yld i H x H' → Stp α H α H' ∧ Rep K w α S H' ∧ RepD K w α H' d x
def PostI (K : PySem.W.Frag) (w : World) (E : XK) (α : Al) (H : Hp) (o : Out Src) (R : It → Hp → Prop) : Prop := match o with
  | .val s S' => s.ok S' ∧ ∀ α' H' J, Stp α H α' H' → Rep K w α' S' H' → Gives K w J α' H' s → R J H'
  | .exc c p S' => Post K w (fun _ _ (_ : Unit) (_ : Unit) => True) E α H (.exc c p S') fun _ _ => True
  | .stuck => False
def liftI (K : PySem.W.Frag) (w : World) (E : XK) (f : Rho → M Src) : TI := fun σ H R => ∃ α S ρ, Rep K w α S H ∧ RepE K w α H ρ σ ∧ PostI K w E α H (f ρ S) R
abbrev ZI (X : Cx) (E : XK) (tg iter : Expr) (f : Rho → M Src) : Prop := PI X tg iter (liftI X.K X.w E f)
theorem PI.weak {X : Cx} {tg e : Expr} {t t' : TI} (h : PI X tg e t) (k : ∀ σ H R, t' σ H R → t σ H R) : PI X tg e t' := ⟨fun pins s σ H R I q => h.run pins s σ H R I (k σ H R q)⟩
theorem PI.or {X : Cx} {tg e : Expr} {t t' : TI} (h : PI X tg e t) (h' : PI X tg e t') : PI X tg e (fun σ H R => t σ H R ∨ t' σ H R) := ⟨fun pins s σ H R I q => by
  rcases q with q | q
  · exact h.run pins s σ H R I q
  · exact h'.run pins s σ H R I q⟩
open Classical in
noncomputable def guard {β : Type} (ok : Sto → Prop) (k : M β) : M β := fun S => if ok S then k S else .stuck
/-- a for's turns -/
noncomputable def forL (ok : Sto → Prop) (g : D → Rho → M Rho) (b : Rho → M Fl) : List D → Rho → M Fl
  | [] => fun ρ => guard ok fun S => .val (.nx ρ) S
  | d :: ds => fun ρ => guard ok fun S => (g d ρ S).bind fun ρ1 S1 => (b ρ1 S1).bind (onTurn (forL ok g b ds))
@[simp] noncomputable def sFor (f : Rho → M Src) (g : D → Rho → M Rho) (b : Rho → M Fl) : Rho → M Fl := fun ρ S => (f ρ S).bind fun s S1 => forL s.ok g b s.items ρ S1
theorem guard_of {β : Type} {ok : Sto → Prop} {k : M β} {S : Sto} (h : ok S) : guard ok k S = k S := by unfold guard; rw [if_pos h]
theorem guard_no {β : Type} {ok : Sto → Prop} {k : M β} {S : Sto} (h : ¬ ok S) : guard ok k S = .stuck := by unfold guard; rw [if_neg h]
@[simp] theorem guard_true {β : Type} {k : M β} {S : Sto} : guard (fun _ => True) k S = k S := guard_of True.intro
theorem forL_ok {ok : Sto → Prop} {g : D → Rho → M Rho} {b : Rho → M Fl} {ds : List D} {ρ : Rho} {S : Sto} (h : forL ok g b ds ρ S ≠ .stuck) : ok S := by
  refine Classical.byContradiction fun n => h ?_
  cases ds with
  | nil => unfold forL; exact guard_no n
  | cons d ds => unfold forL; exact guard_no n
section
variable {X : Cx} {E : XK} {pos : Pos} {tg iter : Expr} {body : List Stmt} {f : Rho → M Src} {g : D → Rho → M Rho} {b : Rho → M Fl}
theorem zs_for (hp : PassesOwn (model X.prog X.w) X.A X.env X.xe) (hc : X.calm = true) (hi : ZI X E tg iter f) (hg : ZG X E tg g) (hb : ZSs X E body b) (hs : ∀ x, foldedSetIterable iter X.env x = pure x := by intro _; rfl) :
    ZS X E (.For tg iter body [] pos) (sFor f g b) := PS.weak (ps_for hp hc hi hg hb hs) fun Q σ H ⟨α, S, ρ, rp, re, q⟩ => by
  refine ⟨α, S, ρ, rp, re, ?_⟩
  unfold sFor at q
  cases hf : f ρ S with
  | stuck => rw [hf] at q; exact q.elim
  | exc c p S' => rw [hf] at q; exact q
  | val s S1 =>
    rw [hf] at q
    have q : PostS X.K X.w E α H (forL s.ok g b s.items ρ S1) Q := q
    have hok : s.ok S1 := forL_ok fun e => by rw [e] at q; exact q
    refine ⟨hok, fun α1 H1 J st rp1 gv => ?_⟩
    refine ⟨fun i m σ H => ∃ α S ρ ds, s.items.drop i = ds ∧ m = ds.length ∧ Stp α1 H1 α H ∧ Rep X.K X.w α S H ∧ RepE X.K X.w α H ρ σ ∧ PostS X.K X.w E α H (forL s.ok g b ds ρ S) Q,
      ⟨_, α1, S1, ρ, s.items, rfl, rfl, Stp.refl, rp1, re.mono st, PostS.mono st q⟩, ?_⟩
    rintro i m σ H ⟨α, S, ρ, ds, hd, hm, st, rp, re, q⟩
    have hok : s.ok S := forL_ok fun e => by rw [e] at q; exact q
    obtain ⟨g1, g2⟩ := gv α S H st.q rp hok i
    cases ds with
    | nil =>
      refine .inl ⟨g1 (List.drop_eq_nil_iff.mp hd), ?_⟩
      unfold forL at q
      rw [guard_of hok] at q
      exact PostS.nx q rp re
    | cons d ds =>
      have hi : s.items[i]? = some d := by
        have : (s.items.drop i)[0]? = some d := by rw [hd]; rfl
        rw [List.getElem?_drop] at this
        exact this
      have hd' : s.items.drop (i + 1) = ds := by
        rw [← List.drop_drop, hd]
        rfl
      obtain ⟨g3, g4⟩ := g2 d hi
      refine .inr ⟨g3, fun σ H => ∃ α S ρ, Stp α1 H1 α H ∧ Rep X.K X.w α S H ∧ RepE X.K X.w α H ρ σ ∧ PostS X.K X.w E α H (forL s.ok g b ds ρ S) Q,
        fun σ' H' ⟨α', S', ρ', st', rp', re', q'⟩ => ⟨ds.length, by rw [hm]; exact Nat.lt_succ_self _, α', S', ρ', ds, hd', rfl, st', rp', re', q'⟩, fun x H' hy => ?_⟩
      obtain ⟨st2, rp2, rx⟩ := g4 x H' hy
      have q2 : PostS X.K X.w E α H' (forL s.ok g b (d :: ds) ρ S) Q := PostS.mono st2 q
      unfold forL at q2
      rw [guard_of hok] at q2
      refine ⟨α, S, ρ, d, rp2, re.mono st2, rx, PostS.step q2 fun ρ1 S3 α3 H3 σ3 _ st3 rp3 re3 q3 => ?_⟩
      exact ⟨α3, S3, ρ1, rp3, re3, PostS.seq q3 (fun ρ2 S4 α4 H4 σ4 st4 rp4 re4 q4 => ⟨α4, S4, ρ2, ((st.trans st2).trans st3).trans st4, rp4, re4, q4⟩) (fun d S4 α4 H4 v st4 rp4 r4 q4 => q4.rt rp4 r4) (fun ρ2 S4 α4 H4 σ4 st4 rp4 re4 q4 => q4.nx rp4 re4)
        (fun ρ2 S4 α4 H4 σ4 st4 rp4 re4 q4 => ⟨α4, S4, ρ2, ((st.trans st2).trans st3).trans st4, rp4, re4, q4⟩)⟩
end
end Z
set_option Elab.async false
set_option linter.all false
set_option maxRecDepth 100000
set_option maxHeartbeats 1000000
/-! Z10: what is walked. -/
namespace Z
open PySem L2
def always (ds : List D) : Src := ⟨ds, fun _ => True⟩
@[simp] theorem always_items (ds : List D) : (always ds).items = ds := rfl
@[simp] theorem always_ok (ds : List D) : (always ds).ok = fun _ => True := rfl
def signs (x : Str) : List D := x.cps.toList.map fun c => D.str ⟨#[c]⟩
def srcOf : D → M Src := fun d S => match d with
  | .tup ds => .val (always ds) S
  | .lst ds => .val (always ds) S
  | .wl ds => .val (always ds) S
  | .str x => .val (always (signs x)) S
  | .ref n => (match S[n]? with
    | some (.lst ds) => .val ⟨ds, fun S' => S'[n]? = some (.lst ds)⟩ S
    | _ => .stuck)
  | _ => .stuck
@[simp] theorem srcOf_tup (ds : List D) (S : Sto) : srcOf (.tup ds) S = .val (always ds) S := rfl
@[simp] theorem srcOf_lst (ds : List D) (S : Sto) : srcOf (.lst ds) S = .val (always ds) S := rfl
@[simp] theorem srcOf_wl (ds : List D) (S : Sto) : srcOf (.wl ds) S = .val (always ds) S := rfl
@[simp] def iVal (f : Rho → M D) : Rho → M Src := fun ρ S => (f ρ S).bind srcOf
def rng (lo : Int) (n : Nat) : List D := (List.range n).map fun (i : Nat) => D.int (lo + i)
def srcRng1 : List D → M Src := fun ds S => match ds with
  | [.int j] => if -(2 ^ 62) ≤ j ∧ j < 2 ^ 62 then .val (always (rng 0 j.toNat)) S else .stuck
  | _ => .stuck
def srcRng2 : List D → M Src := fun ds S => match ds with
  | [.int i, .int j] => if -(2 ^ 62) ≤ i ∧ i < 2 ^ 62 ∧ -(2 ^ 62) ≤ j ∧ j < 2 ^ 62 then .val (always (rng i (j - i).toNat)) S else .stuck
  | _ => .stuck
@[simp] def iRng1 (f : Rho → M (List D)) : Rho → M Src := fun ρ S => (f ρ S).bind srcRng1
@[simp] def iRng2 (f : Rho → M (List D)) : Rho → M Src := fun ρ S => (f ρ S).bind srcRng2
def enums (ds : List D) : List D := ds.zipIdx.map fun p => D.tup [.int (p.2 : Nat), p.1]
/-- a list's items, and when they stand -/
def lstSrc (S : Sto) : D → Option Src
  | .lst ds => some (always ds)
  | .wl ds => some (always ds)
  | .ref n => (match S[n]? with
    | some (.lst ds) => some ⟨ds, fun S' => S'[n]? = some (.lst ds)⟩
    | _ => none)
  | _ => none
@[simp] theorem lstSrc_lst (S : Sto) (ds : List D) : lstSrc S (.lst ds) = some (always ds) := rfl
@[simp] theorem lstSrc_wl (S : Sto) (ds : List D) : lstSrc S (.wl ds) = some (always ds) := rfl
def srcEnum : List D → M Src := fun ds S => match ds with
  | [d] => (match lstSrc S d with
    | some s => .val ⟨enums s.items, s.ok⟩ S
    | none => .stuck)
  | _ => .stuck
@[simp] def iEnum (f : Rho → M (List D)) : Rho → M Src := fun ρ S => (f ρ S).bind srcEnum
def zips (as bs : List D) : List D := (as.zip bs).map fun p => D.tup [p.1, p.2]
def srcZip : List D → M Src := fun ds S => match ds with
  | [.tup a, .tup b] => .val (always (zips a b)) S
  | [a, b] => (match lstSrc S a, lstSrc S b with
    | some s, some t => .val ⟨zips s.items t.items, fun S' => s.ok S' ∧ t.ok S'⟩ S
    | _, _ => .stuck)
  | _ => .stuck
@[simp] def iZip (f : Rho → M (List D)) : Rho → M Src := fun ρ S => (f ρ S).bind srcZip
section
variable {K : PySem.W.Frag} {w : World} {α : Al} {H : Hp} {S : Sto} {E : XK}
/-- a list stands with its items while ok holds -/
def Stands (K : PySem.W.Frag) (w : World) (α0 : Al) (H0 : Hp) (a : Addr) (s : Src) : Prop := ∀ (α : Al) (S : Sto) (H : Hp), Stq α0 H0 α H → Rep K w α S H → s.ok S → ∃ vs, SqL K H a vs ∧ RepL K w α H s.items vs
theorem PostI.mono {α1 : Al} {H1 : Hp} {o : Out Src} {R : It → Hp → Prop} (st : Stp α H α1 H1) (q : PostI K w E α H o R) : PostI K w E α1 H1 o R := by
  cases o with
  | val s S2 => exact ⟨q.1, fun α' H' J st2 => q.2 α' H' J (st.trans st2)⟩
  | exc c p S2 => exact Post.mono (β := Unit) (γ := Unit) (R := fun _ _ _ _ => True) (o := Out.exc c p S2) (Q := fun _ _ => True) st q
  | stuck => exact q
theorem PI.step {R : It → Hp → Prop} {δ ε : Type} {R1 : Al → Hp → δ → ε → Prop} {Q1 : ε → Hp → Prop} {m : Out δ} {k : δ → Sto → Out Src} (q : PostI K w E α H (m.bind k) R)
    (hk : ∀ d S1 α1 H1 x, m = .val d S1 → Stp α H α1 H1 → Rep K w α1 S1 H1 → R1 α1 H1 d x → PostI K w E α1 H1 (k d S1) R → Q1 x H1) : Post K w R1 E α H m Q1 := by
  cases m with
  | val d S1 => exact fun α1 H1 x st rp r => hk d S1 α1 H1 x rfl st rp r (PostI.mono st q)
  | exc c p S1 => exact q
  | stuck => exact q.elim
theorem stp_id {α : Al} {H : Hp} {S : Sto} {d : D} {x : V} (rp : Rep K w α S H) (r : RepD K w α H d x) : Stp α H α H ∧ Rep K w α S H ∧ RepD K w α H d x := ⟨Stp.refl, rp, r⟩
theorem gives_tup {ds : List D} {a : Addr} {vs : List V} (h : SqT K H a vs) (l : RepL K w α H ds vs) : Gives K w (Itt K a) α H (always ds) := by
  intro α1 S1 H1 st rp _ i
  have h1 : SqT K H1 a vs := by
    rcases h with h | h
    · exact .inl (st.tup a vs h)
    · exact .inr h
  have l1 := repL_monoQ st _ _ l
  refine ⟨fun hi => ⟨vs, h1, by rw [l1.length]; exact hi⟩, fun d hd => ?_⟩
  obtain ⟨z, hz, rz⟩ := l1.get hd
  refine ⟨⟨vs, z, h1, hz⟩, fun x H' hy => ?_⟩
  obtain ⟨rfl, hx⟩ := hy
  have e := hx vs h1
  rw [hz] at e
  cases e
  exact stp_id rp rz
theorem lstSrc_rep {d : D} {s : Src} {v : V} (rp : Rep K w α S H) (h : lstSrc S d = some s) (r : RepD K w α H d v) : s.ok S ∧ ∃ a vs, v = .ref a ∧ SqL K H a vs ∧ Stands K w α H a s := by
  unfold lstSrc at h
  split at h
  · cases h
    refine ⟨True.intro, ?_⟩
    have r0 := r
    unfold RepD at r
    obtain ⟨a, vs, e, _, q, l⟩ := r
    refine ⟨a, vs, e, SqL.of q, fun α1 S1 H1 st rp1 _ => ?_⟩
    have r1 := repD_monoQ st _ _ r0
    rw [e] at r1
    obtain ⟨a1, vs1, e1, h1, l1⟩ := seqL_rep rp1 (d := .lst _) rfl r1
    cases e1
    exact ⟨vs1, h1, l1⟩
  · cases h
    refine ⟨True.intro, ?_⟩
    obtain ⟨a, vs, e, h1, l1⟩ := seqL_rep rp (d := .wl _) rfl r
    refine ⟨a, vs, e, h1, fun α1 S1 H1 st rp1 _ => ?_⟩
    have r1 := repD_monoQ st _ _ r
    rw [e] at r1
    obtain ⟨a1, vs1, e1, h1, l1⟩ := seqL_rep rp1 (d := .wl _) rfl r1
    cases e1
    exact ⟨vs1, h1, l1⟩
  · rename_i n
    split at h
    · rename_i ds hn
      cases h
      refine ⟨hn, ?_⟩
      obtain ⟨a, vs, e, h1, l1⟩ := seqL_rep rp (d := .ref n) (ds := ds) (by simp only [seqL, hn]) r
      refine ⟨a, vs, e, h1, fun α1 S1 H1 st rp1 ok => ?_⟩
      have r1 := repD_monoQ st _ _ r
      rw [e] at r1
      have ok : S1[n]? = some (.lst ds) := ok
      obtain ⟨a1, vs1, e1, h1, l1⟩ := seqL_rep rp1 (d := .ref n) (ds := ds) (by simp only [seqL, ok]) r1
      cases e1
      exact ⟨vs1, h1, l1⟩
    · cases h
  · cases h
theorem gives_lst {a : Addr} {s : Src} (h : Stands K w α H a s) : Gives K w (Itl K a) α H s := by
  intro α1 S1 H1 st rp ok i
  obtain ⟨vs, h1, l1⟩ := h α1 S1 H1 st rp ok
  refine ⟨fun hi => ⟨vs, h1, by rw [l1.length]; exact hi⟩, fun d hd => ?_⟩
  obtain ⟨z, hz, rz⟩ := l1.get hd
  refine ⟨⟨vs, z, h1, hz⟩, fun x H' hy => ?_⟩
  obtain ⟨rfl, hx⟩ := hy
  have e := hx vs h1
  rw [hz] at e
  cases e
  exact stp_id rp rz
theorem gives_str {x : Str} : Gives K w (Its x) α H (always (signs x)) := by
  intro α1 S1 H1 st rp ok i
  have hl : (signs x).length = x.cps.size := by unfold signs; rw [List.length_map, Array.length_toList]
  refine ⟨fun hi => by rw [always_items, hl] at hi; exact hi, fun d hd => ?_⟩
  rw [always_items] at hd
  have hi := (List.getElem?_eq_some_iff.mp hd).1
  rw [hl] at hi
  refine ⟨hi, fun v H' hy => ?_⟩
  obtain ⟨rfl, c, hc, rfl⟩ := hy
  unfold signs at hd
  rw [List.getElem?_map, Array.getElem?_toList, hc] at hd
  cases hd
  exact stp_id rp (repS _)
theorem gives_rng {lo : Int} {n : Nat} : Gives K w (Itr lo n) α H (always (rng lo n)) := by
  intro α1 S1 H1 st rp ok i
  have hl : (rng lo n).length = n := by unfold rng; rw [List.length_map, List.length_range]
  refine ⟨fun hi => by rw [always_items, hl] at hi; exact hi, fun d hd => ?_⟩
  rw [always_items] at hd
  have hi := (List.getElem?_eq_some_iff.mp hd).1
  rw [hl] at hi
  refine ⟨hi, fun v H' hy => ?_⟩
  obtain ⟨rfl, rfl⟩ := hy
  unfold rng at hd
  rw [List.getElem?_map, List.getElem?_range hi] at hd
  cases hd
  exact stp_id rp (repI _)
theorem pair_new {α : Al} {H : Hp} {S : Sto} {d e : D} {x y : V} {T : Addr} (rp : Rep K w α S H) (h1 : RepD K w α H d x) (h2 : RepD K w α H e y) (hT : H T = none) : Stp α H α (upd H T (.tup [x, y])) ∧ Rep K w α S (upd H T (.tup [x, y])) ∧ RepD K w α (upd H T (.tup [x, y])) (.tup [d, e]) (.ref T) :=
  ⟨stp_new rp.hd hT, rp.new hT, repT (SqT.of upd_same) (repL_mono (stp_new rp.hd hT) _ _ (.cons h1 (.one h2)))⟩
theorem gives_enum {a : Addr} {s : Src} (h : Stands K w α H a s) : Gives K w (Ite K a) α H ⟨enums s.items, s.ok⟩ := by
  intro α1 S1 H1 st rp ok i
  obtain ⟨vs, h1, l1⟩ := h α1 S1 H1 st rp ok
  have hl : (enums s.items).length = s.items.length := by unfold enums; rw [List.length_map, List.length_zipIdx]
  refine ⟨fun hi => ⟨vs, h1, by rw [l1.length, ← hl]; exact hi⟩, fun d hd => ?_⟩
  have hd : (enums s.items)[i]? = some d := hd
  unfold enums at hd
  rw [List.getElem?_map, List.getElem?_zipIdx] at hd
  cases hi : s.items[i]? with
  | none => rw [hi] at hd; cases hd
  | some d0 =>
    rw [hi] at hd
    cases hd
    obtain ⟨z, hz, rz⟩ := l1.get hi
    refine ⟨⟨vs, z, h1, hz⟩, fun x H' hy => ?_⟩
    obtain ⟨T, x0, rfl, hT, rfl, hx⟩ := hy
    have e := hx vs h1
    rw [hz] at e
    cases e
    have := pair_new rp (repI ((i : Nat) : Int)) rz hT
    simpa using this
theorem zips_get {as bs : List D} {i : Nat} {d : D} (h : (zips as bs)[i]? = some d) : ∃ x y, as[i]? = some x ∧ bs[i]? = some y ∧ d = .tup [x, y] := by
  unfold zips at h
  rw [List.getElem?_map] at h
  obtain ⟨⟨x, y⟩, h1, h2⟩ := Option.map_eq_some_iff.mp h
  rw [List.getElem?_zip_eq_some] at h1
  exact ⟨x, y, h1.1, h1.2, h2.symm⟩
theorem zips_len {as bs : List D} : (zips as bs).length = min as.length bs.length := by unfold zips; rw [List.length_map, List.length_zip]
theorem gives_zip {a b : Addr} {s t : Src} (ha : Stands K w α H a s) (hb : Stands K w α H b t) : Gives K w (Itz K a b) α H ⟨zips s.items t.items, fun S => s.ok S ∧ t.ok S⟩ := by
  intro α1 S1 H1 st rp ok i
  obtain ⟨vs, h1, l1⟩ := ha α1 S1 H1 st rp ok.1
  obtain ⟨us, h2, l2⟩ := hb α1 S1 H1 st rp ok.2
  refine ⟨fun hi => ⟨vs, us, h1, h2, ?_⟩, fun d hd => ?_⟩
  · have hi : (zips s.items t.items).length ≤ i := hi
    rw [zips_len, ← l1.length, ← l2.length] at hi
    omega
  · obtain ⟨x, y, hx, hy, rfl⟩ := zips_get hd
    obtain ⟨z, hz, rz⟩ := l1.get hx
    obtain ⟨u, hu, ru⟩ := l2.get hy
    refine ⟨⟨vs, us, z, u, h1, h2, hz, hu⟩, fun q H' hq => ?_⟩
    obtain ⟨T, x0, y0, rfl, hT, rfl, hx0, hy0⟩ := hq
    have e1 := hx0 vs h1
    have e2 := hy0 us h2
    rw [hz] at e1
    rw [hu] at e2
    cases e1
    cases e2
    exact pair_new rp rz ru hT
theorem gives_zipT {a b : Addr} {as bs : List D} {vs us : List V} (ha : SqT K H a vs) (hb : SqT K H b us) (l1 : RepL K w α H as vs) (l2 : RepL K w α H bs us) : Gives K w (RZ.ItzT K a b) α H (always (zips as bs)) := by
  intro α1 S1 H1 st rp ok i
  have h1 : SqT K H1 a vs := by
    rcases ha with h | h
    · exact .inl (st.tup a vs h)
    · exact .inr h
  have h2 : SqT K H1 b us := by
    rcases hb with h | h
    · exact .inl (st.tup b us h)
    · exact .inr h
  have l1 := repL_monoQ st _ _ l1
  have l2 := repL_monoQ st _ _ l2
  refine ⟨fun hi => ⟨vs, us, h1, h2, ?_⟩, fun d hd => ?_⟩
  · have hi : (zips as bs).length ≤ i := hi
    rw [zips_len, ← l1.length, ← l2.length] at hi
    omega
  · obtain ⟨x, y, hx, hy, rfl⟩ := zips_get hd
    obtain ⟨z, hz, rz⟩ := l1.get hx
    obtain ⟨u, hu, ru⟩ := l2.get hy
    refine ⟨⟨vs, us, z, u, h1, h2, hz, hu⟩, fun q H' hq => ?_⟩
    obtain ⟨T, x0, y0, rfl, hT, rfl, hx0, hy0⟩ := hq
    have e1 := hx0 vs h1
    have e2 := hy0 us h2
    rw [hz] at e1
    rw [hu] at e2
    cases e1
    cases e2
    exact pair_new rp rz ru hT
end
section
variable {X : Cx} {E : XK} {pos p tpos : Pos} {tg iter e e2 : Expr} {es elts : List Expr} {kk : Nat} {f : Rho → M D} {g : Rho → M (List D)}
theorem zi_val (h : ZE X E e f) : ZI X E tg e (iVal f) := PI.weak (PI.or (pi_list h) (PI.or (pi_tup h) (pi_str h))) fun σ H R ⟨α, S, ρ, rp, re, q⟩ => by
  have q0 := q
  cases hf : f ρ S with
  | stuck => unfold iVal at q; rw [hf] at q; exact q.elim
  | exc c p S' => unfold iVal at q; rw [hf] at q; exact .inl ⟨α, S, ρ, rp, re, by rw [hf]; exact q⟩
  | val d S1 =>
    have q1 : PostI X.K X.w E α H (srcOf d S1) R := by unfold iVal at q; rw [hf] at q; exact q
    cases d with
    | tup ds =>
      refine .inr (.inl ⟨α, S, ρ, rp, re, ?_⟩)
      rw [hf]
      intro α1 H1 v st rp1 r1
      obtain ⟨a, vs, ea, ha, la⟩ := rep_tup r1
      exact ⟨a, ea, ⟨vs, ha⟩, q1.2 α1 H1 _ st rp1 (gives_tup ha la)⟩
    | str x =>
      refine .inr (.inr ⟨α, S, ρ, rp, re, ?_⟩)
      rw [hf]
      intro α1 H1 v st rp1 r1
      exact ⟨x, rep_str r1, q1.2 α1 H1 _ st rp1 gives_str⟩
    | lst ds =>
      refine .inl ⟨α, S, ρ, rp, re, ?_⟩
      rw [hf]
      intro α1 H1 v st rp1 r1
      obtain ⟨_, a, vs, ea, ha, hs⟩ := lstSrc_rep rp1 (s := always ds) rfl r1
      exact ⟨a, ea, ⟨vs, ha⟩, q1.2 α1 H1 _ st rp1 (gives_lst hs)⟩
    | wl ds =>
      refine .inl ⟨α, S, ρ, rp, re, ?_⟩
      rw [hf]
      intro α1 H1 v st rp1 r1
      obtain ⟨_, a, vs, ea, ha, hs⟩ := lstSrc_rep rp1 (s := always ds) rfl r1
      exact ⟨a, ea, ⟨vs, ha⟩, q1.2 α1 H1 _ st rp1 (gives_lst hs)⟩
    | ref n =>
      cases hn : S1[n]? with
      | none =>
        simp only [srcOf, hn] at q1
        exact q1.elim
      | some c =>
        cases c with
        | lst ds =>
          simp only [srcOf, hn] at q1
          refine .inl ⟨α, S, ρ, rp, re, ?_⟩
          rw [hf]
          intro α1 H1 v st rp1 r1
          obtain ⟨_, a, vs, ea, ha, hs⟩ := lstSrc_rep rp1 (d := .ref n) (s := ⟨ds, fun S' => S'[n]? = some (.lst ds)⟩) (by simp only [lstSrc, hn]) r1
          exact ⟨a, ea, ⟨vs, ha⟩, q1.2 α1 H1 _ st rp1 (gives_lst hs)⟩
        | dic lk ks ds =>
          simp only [srcOf, hn] at q1
          exact q1.elim
        | ins c fs =>
          simp only [srcOf, hn] at q1
          exact q1.elim
    | _ => exact q1.elim
theorem zi_rng1 (hg : Gl X "range") (hm : X.mg "range" = none) (ha : ZA X E [e] g) (hs : starEach [e] X.env = [(false, eval e X.env)] := by rfl) : ZI X E tg (.Call (.Name "range" p) [e] [] pos) (iRng1 g) := PI.weak (pi_range1 hg hm ha hs) fun σ H R ⟨α, S, ρ, rp, re, q⟩ => by
  refine ⟨α, S, ρ, rp, re, PI.step q fun ds S1 α1 H1 vs _ st rp1 r1 q1 => ?_⟩
  unfold srcRng1 at q1
  split at q1
  · split at q1
    · rename_i j _ c
      exact ⟨j, RepL.ints (ns := [j]) r1, c.1, c.2, q1.2 α1 H1 _ Stp.refl rp1 gives_rng⟩
    · exact q1.elim
  · exact q1.elim
theorem zi_rng2 (hg : Gl X "range") (hm : X.mg "range" = none) (ha : ZA X E [e, e2] g) (hs : starEach [e, e2] X.env = [(false, eval e X.env), (false, eval e2 X.env)] := by rfl) (hs2 : starEach [e2] X.env = [(false, eval e2 X.env)] := by rfl) :
    ZI X E tg (.Call (.Name "range" p) [e, e2] [] pos) (iRng2 g) := PI.weak (pi_range2 hg hm ha hs hs2) fun σ H R ⟨α, S, ρ, rp, re, q⟩ => by
  refine ⟨α, S, ρ, rp, re, PI.step q fun ds S1 α1 H1 vs _ st rp1 r1 q1 => ?_⟩
  unfold srcRng2 at q1
  split at q1
  · split at q1
    · rename_i i j _ c
      exact ⟨i, j, RepL.ints (ns := [i, j]) r1, c, q1.2 α1 H1 _ Stp.refl rp1 gives_rng⟩
    · exact q1.elim
  · exact q1.elim
theorem zi_enum (hg : Gl X "enumerate") (hm : X.mg "enumerate" = none) (ha : ZA X E [e] g) (hs : starEach [e] X.env = [(false, eval e X.env)] := by rfl) : ZI X E (.Tuple elts kk tpos) (.Call (.Name "enumerate" p) [e] [] pos) (iEnum g) := PI.weak (pi_enum hg hm ha hs) fun σ H R ⟨α, S, ρ, rp, re, q⟩ => by
  refine ⟨α, S, ρ, rp, re, PI.step q fun ds S1 α1 H1 vs _ st rp1 r1 q1 => ?_⟩
  unfold srcEnum at q1
  split at q1
  · split at q1
    · rename_i d s hs0
      unfold RepL at r1
      obtain ⟨v, r, e1, h1, h2⟩ := r1
      unfold RepL at h2
      obtain ⟨_, a, us, ea, ha, hst⟩ := lstSrc_rep rp1 hs0 h1
      exact ⟨a, us, by rw [e1, h2, ea], ha, q1.2 α1 H1 _ Stp.refl rp1 (gives_enum hst)⟩
    · exact q1.elim
  · exact q1.elim
theorem zi_zip (hg : Gl X "zip") (hm : X.mg "zip" = none) (ha : ZA X E [e, e2] g) (hs : starEach [e, e2] X.env = (false, eval e X.env) :: starEach [e2] X.env := by rfl) (hpl : (backTo pos (starEach [e2] X.env)).any (·.1) = false := by rfl) :
    ZI X E (.Tuple elts kk tpos) (.Call (.Name "zip" p) [e, e2] [] pos) (iZip g) := PI.weak (RZ.pi_zipA hg hm ha hs hpl) fun σ H R ⟨α, S, ρ, rp, re, q⟩ => by
  refine ⟨α, S, ρ, rp, re, PI.step q fun ds S1 α1 H1 vs _ st rp1 r1 q1 => ?_⟩
  unfold srcZip at q1
  split at q1
  · unfold RepL at r1
    obtain ⟨v, r, e1, h1, h2⟩ := r1
    unfold RepL at h2
    obtain ⟨u, r', e2, h3, h4⟩ := h2
    unfold RepL at h4
    obtain ⟨a, vs', ea, ha, la⟩ := rep_tup h1
    obtain ⟨b, us', eb, hb, lb⟩ := rep_tup h3
    refine ⟨a, b, vs', us', by rw [e1, e2, h4, ea, eb], .inr ⟨ha, hb, q1.2 α1 H1 _ Stp.refl rp1 (gives_zipT ha hb la lb)⟩⟩
  · split at q1
    · rename_i x y _ s t hs1 hs2
      unfold RepL at r1
      obtain ⟨v, r, e1, h1, h2⟩ := r1
      unfold RepL at h2
      obtain ⟨u, r', e2, h3, h4⟩ := h2
      unfold RepL at h4
      obtain ⟨_, a, vs', ea, ha, sa⟩ := lstSrc_rep rp1 hs1 h1
      obtain ⟨_, b, us', eb, hb, sb⟩ := lstSrc_rep rp1 hs2 h3
      refine ⟨a, b, vs', us', by rw [e1, e2, h4, ea, eb], .inl ⟨ha, hb, q1.2 α1 H1 _ Stp.refl rp1 (gives_zip sa sb)⟩⟩
    · exact q1.elim
  · exact q1.elim
end
end Z
set_option Elab.async false
set_option linter.all false
set_option maxRecDepth 100000
set_option maxHeartbeats 1000000
/-! Z11: list comprehensions. -/
namespace Z
open PySem L2
/-- no exception leaves -/
@[simp] def noX {β : Type} (m : M β) : M β := fun S => match m S with
  | .val b S' => .val b S'
  | _ => .stuck
noncomputable def compL (ok : Sto → Prop) (g : D → Rho → M Rho) (t : Rho → M Bool) (e : Rho → M D) (ρ : Rho) : List D → M (List D)
  | [] => guard ok fun S => .val [] S
  | d :: ds => guard ok fun S => (noX (g d ρ) S).bind fun ρ1 S1 => (noX (t ρ1) S1).bind fun q S2 =>
    if q = true then (noX (e ρ1) S2).bind fun y S3 => (compL ok g t e ρ ds S3).bind fun ys S4 => .val (y :: ys) S4 else compL ok g t e ρ ds S2
def wipeR (ρ : Rho) : List Nat → Rho
  | [] => ρ
  | v :: vs => (wipeR ρ vs).set v none
@[simp] noncomputable def eComp (f : Rho → M Src) (own : List Nat) (g : D → Rho → M Rho) (t : Rho → M Bool) (e : Rho → M D) : Rho → M (List D) := fun ρ S => (f ρ S).bind fun s S1 =>
  if s.items.length ≤ sizeLine then compL s.ok g t e (wipeR ρ own) s.items S1 else .stuck
@[simp] def bYes : Rho → M Bool := fun _ S => .val true S
section
variable {K : PySem.W.Frag} {w : World} {α α1 : Al} {H H1 : Hp} {S : Sto} {E : XK}
theorem RepE.wipe {ρ : Rho} {σ : St} (re : RepE K w α H ρ σ) : ∀ vs : List Nat, RepE K w α H (wipeR ρ vs) (L2.wipe σ vs)
  | [] => re
  | v :: vs => (RepE.wipe re vs).unset v
theorem Post.stepX {β γ δ ε : Type} {R : Al → Hp → β → γ → Prop} {R1 : Al → Hp → δ → ε → Prop} {Q : γ → Hp → Prop} {Q1 : ε → Hp → Prop} {α0 : Al} {H0 : Hp} {m : M δ} {k : δ → Sto → Out β} (st0 : Stp α0 H0 α H) (h : Post K w R E α0 H0 ((noX m S).bind k) Q)
    (hk : ∀ d S1 α1 H1 x, m S = .val d S1 → Stp α H α1 H1 → Rep K w α1 S1 H1 → R1 α1 H1 d x → Post K w R E α0 H0 (k d S1) Q → Q1 x H1) : Post K w R1 E0 α H (m S) Q1 := by
  unfold noX at h
  cases e : m S with
  | val d S1 =>
    rw [e] at h
    exact fun α1 H1 x st rp r => hk d S1 α1 H1 x e st rp r h
  | exc c p S1 =>
    rw [e] at h
    exact h.elim
  | stuck =>
    rw [e] at h
    exact h.elim
theorem mem_wipe {i : Nat} {x : Option V} : ∀ {vs : List Nat} {σ : St}, i ∈ vs → L2.wipe (σ.set i x) vs = L2.wipe σ vs
  | [], σ, h => by cases h
  | v :: vs, σ, h => by
    unfold L2.wipe
    by_cases e : i ∈ vs
    · rw [mem_wipe e]
    · have hv : i = v := by
        rcases List.mem_cons.mp h with q | q
        · exact q
        · exact absurd q e
      subst hv
      have out : ∀ (vs : List Nat), i ∉ vs → (L2.wipe (σ.set i x) vs).set i none = (L2.wipe σ vs).set i none := by
        intro vs
        induction vs with
        | nil => intro _; unfold L2.wipe; rw [List.set_set]
        | cons u us ih =>
          intro hn
          unfold L2.wipe
          have hu : i ≠ u := fun q => hn (by rw [q]; exact List.mem_cons_self)
          rw [List.set_comm _ _ (Ne.symm hu), List.set_comm _ _ (Ne.symm hu), ih fun q => hn (List.mem_cons_of_mem _ q)]
      exact out vs e
theorem wipe_set {v : Nat} {x : Option V} : ∀ (vs : List Nat) (σ : St), (L2.wipe (σ.set v x) vs).set v none = (L2.wipe σ vs).set v none
  | [], σ => by unfold L2.wipe; rw [List.set_set]
  | u :: us, σ => by
    unfold L2.wipe
    by_cases hu : v = u
    · subst hu
      rw [List.set_set, List.set_set]
      exact wipe_set us σ
    · rw [List.set_comm _ _ (Ne.symm hu), List.set_comm _ _ (Ne.symm hu), wipe_set us σ]
theorem wipe_wipe : ∀ (vs : List Nat) (σ : St), L2.wipe (L2.wipe σ vs) vs = L2.wipe σ vs
  | [], σ => rfl
  | v :: vs, σ => by
    show (L2.wipe ((L2.wipe σ vs).set v none) vs).set v none = (L2.wipe σ vs).set v none
    rw [wipe_set, wipe_wipe vs σ]
end
/-- a target that stores into its own names alone -/
def liftGw (K : PySem.W.Frag) (w : World) (E : XK) (vs : List Nat) (g : D → Rho → M Rho) : TG := fun v σ H Q => ∃ α S ρ d, Rep K w α S H ∧ RepE K w α H ρ σ ∧ RepD K w α H d v ∧ Post K w (fun α H ρ' σ' => RepE K w α H ρ' σ' ∧ L2.wipe σ' vs = L2.wipe σ vs) E α H (g d ρ S) Q
def liftGsw (K : PySem.W.Frag) (w : World) (E : XK) (vs : List Nat) (g : List D → Rho → M Rho) : TGs := fun us σ H Q => ∃ α S ρ ds, Rep K w α S H ∧ RepE K w α H ρ σ ∧ RepL K w α H ds us ∧ Post K w (fun α H ρ' σ' => RepE K w α H ρ' σ' ∧ L2.wipe σ' vs = L2.wipe σ vs) E α H (g ds ρ S) Q
abbrev ZGw (X : Cx) (E : XK) (vs : List Nat) (e : Expr) (g : D → Rho → M Rho) : Prop := PG X e (liftGw X.K X.w E vs g)
abbrev ZGsw (X : Cx) (E : XK) (vs : List Nat) (e : List Expr) (g : List D → Rho → M Rho) : Prop := PGs X e (liftGsw X.K X.w E vs g)
section
variable {X : Cx} {E : XK} {pos p1 : Pos} {e tg : Expr} {es : List Expr} {g : D → Rho → M Rho} {gs : List D → Rho → M Rho} {vs : List Nat}
theorem zgw_name {i : Nat} {x : Str} (h : PG X (.Name x pos) (L2.gName i)) (hi : i ∈ vs := by decide) : ZGw X E vs (.Name x pos) (tName i) := PG.weak h fun v σ H Q ⟨α, S, ρ, d, rp, re, r, q⟩ => Post.now q rp ⟨re.set i r, mem_wipe hi⟩
theorem zgsw_nil : ZGsw X E vs [] tsNil := PGs.weak pgs_nil fun us σ H Q ⟨α, S, ρ, ds, rp, re, r, q⟩ => by
  cases ds with
  | nil =>
    unfold RepL at r
    exact ⟨r, Post.now q rp ⟨re, rfl⟩⟩
  | cons d r' => exact q.elim
theorem zgsw_cons (h1 : ZGw X E vs e g) (h2 : ZGsw X E vs es gs) (hs : (assignEach (e :: es) X.env).map (·.2) = assign e X.env :: (assignEach es X.env).map (·.2) := by rfl) : ZGsw X E vs (e :: es) (tsCons g gs) :=
  PGs.weak (pgs_cons h1 h2 hs) fun us σ H Q ⟨α, S, ρ, ds, rp, re, r, q⟩ => by
    cases ds with
    | nil => exact q.elim
    | cons d ds =>
      unfold RepL at r
      obtain ⟨v, r', e, r1, r2⟩ := r
      refine ⟨v, r', e, α, S, ρ, d, rp, re, r1, Post.step q fun ρ1 S1 α1 H1 σ1 _ st rp1 re1 q1 => ?_⟩
      refine ⟨α1, S1, ρ1, ds, rp1, re1.1, repL_mono st _ _ r2, ?_⟩
      cases e2 : gs ds ρ1 S1 with
      | val ρ2 S2 =>
        rw [e2] at q1
        exact fun α' H' v st rp r => q1 α' H' v st rp ⟨r.1, r.2.trans re1.2⟩
      | exc c p S2 => rw [e2] at q1; exact q1
      | stuck => rw [e2] at q1; exact q1
theorem zgw_tup {k n : Nat} (hc : X.calm = true) (h : ZGsw X E vs es gs) (hn : (assignEach es X.env).length = n := by rfl) (hst : (assignEach es X.env).findIdx? (·.1) = none := by rfl) : ZGw X E vs (.Tuple es k pos) (tTupZ n gs) :=
  PG.weak (PG.or (pg_tup hc h hn hst) (pg_unl hc h hn hst)) fun v σ H Q ⟨α, S, ρ, d, rp, re, r, q⟩ => by
    unfold tTupZ at q
    split at q
    · rename_i ds
      split at q
      · rename_i hl
        obtain ⟨a, us, ea, ha, la⟩ := rep_tup r
        exact .inl ⟨a, us, ea, ha, by rw [la.length]; exact hl, α, S, ρ, ds, rp, re, la, q⟩
      · exact q.elim
    · split at q
      · rename_i ds hs
        split at q
        · rename_i hl
          obtain ⟨a, us, ea, ha, la⟩ := seqL_rep rp hs r
          exact .inr ⟨a, us, ea, ha, by rw [la.length]; exact hl, α, S, ρ, ds, rp, re, la, q⟩
        · exact q.elim
      · exact q.elim
end
section
variable {K : PySem.W.Frag} {w : World} {α α1 : Al} {H H1 : Hp} {S : Sto} {a : Addr}
def Al.hide (α : Al) (a : Addr) : Al := ⟨α.al, a :: α.hid⟩
def Al.show (α : Al) (a : Addr) : Al := ⟨α.al, α.hid.filter fun b => decide (b ≠ a)⟩
theorem stp_hide {o : HO} (hh : ∀ b ∈ α.hid, H b ≠ none) (ha : H a = none) : Stp α H (α.hide a) (upd H a o) :=
  ⟨⟨[], by simp [Al.hide], by simp⟩, fun b h => by
    rcases List.mem_cons.mp h with e | e
    · exact .inr (by rw [e]; exact ha)
    · exact .inl e, fun b h => List.mem_cons_of_mem _ h, fun b h => upd_ne fun e => hh b h (by rw [e]; exact ha), fun b h => upd_dom h, fun b vs h => rd_upd ha h, fun b u _ _ h => rd_upd ha h, fun b vs _ h => by rw [upd_ne (ne_of_none h ha)]; exact h, fun b o u h => by rw [upd_ne (ne_of_none h ha)]; exact h⟩
theorem rep_hide {o : HO} (rp : Rep K w α S H) (ha : H a = none) : Rep K w (α.hide a) S (upd H a o) :=
  ⟨rp.nd, rp.len, fun b h => by
    rcases List.mem_cons.mp h with e | e
    · rw [e, upd_same]; exact fun z => nomatch z
    · exact upd_dom (rp.hd b e), fun b h z => by
    rcases List.mem_cons.mp h with e | e
    · exact rp.mem_some (.inl (by rw [← e]; exact z)) ha
    · exact rp.dj b e z, fun n c b h1 h2 => by
    have hc := rp.cell n c b h1 h2
    exact repC_mono (stp_hide rp.hd ha) (upd_ne fun e => repC_some hc (by rw [e]; exact ha)) hc⟩
theorem has_show {b : Addr} (h : (α.show a).Has b) : α.Has b := by
  rcases h with h | h
  · exact .inl h
  · exact .inr (List.mem_filter.mp h).1
/-- fewer that are set apart, the same cells -/
structure Al.Less (α α' : Al) : Prop where
  has : ∀ b, α'.Has b → α.Has b
  at_ : ∀ (n : Nat) (b : Addr), α.al[n]? = some b → α'.al[n]? = some b
section
variable {α' : Al}
mutual
theorem repD_less (l : α.Less α') : ∀ (d : D) (v : V), RepD K w α H d v → RepD K w α' H d v
  | .non, v, h => by unfold RepD at h ⊢; exact h
  | .bl b, v, h => by unfold RepD at h ⊢; exact h
  | .int i, v, h => by unfold RepD at h ⊢; exact h
  | .str x, v, h => by unfold RepD at h ⊢; exact h
  | .tup ds, v, h => by
    unfold RepD at h ⊢
    obtain ⟨a, vs, e, q, r⟩ := h
    exact ⟨a, vs, e, q, repL_less l ds vs r⟩
  | .lst ds, v, h => by
    unfold RepD at h ⊢
    obtain ⟨a, vs, e, n, q, r⟩ := h
    exact ⟨a, vs, e, fun z => n (l.has _ z), q, repL_less l ds vs r⟩
  | .wl ds, v, h => by
    unfold RepD at h ⊢
    obtain ⟨a, vs, e, q, r⟩ := h
    refine ⟨a, vs, e, ?_, repL_less l ds vs r⟩
    rcases q with ⟨n, q⟩ | q
    · exact .inl ⟨fun z => n (l.has _ z), q⟩
    · exact .inr q
  | .dic ks ds, v, h => by
    unfold RepD at h ⊢
    obtain ⟨a, kv, vs, xs, e, n, q, k, r1, r2⟩ := h
    exact ⟨a, kv, vs, xs, e, fun z => n (l.has _ z), q, k, repL_less l ks kv r1, repL_less l ds vs r2⟩
  | .ref n, v, h => by
    unfold RepD at h ⊢
    obtain ⟨a, e, q⟩ := h
    exact ⟨a, e, l.at_ n a q⟩
theorem repL_less (l : α.Less α') : ∀ (ds : List D) (vs : List V), RepL K w α H ds vs → RepL K w α' H ds vs
  | [], vs, h => by unfold RepL at h ⊢; exact h
  | d :: ds, vs, h => by
    unfold RepL at h ⊢
    obtain ⟨v, r, e, h1, h2⟩ := h
    exact ⟨v, r, e, repD_less l d v h1, repL_less l ds r h2⟩
end
theorem repF_less (l : α.Less α') : ∀ {fs : List (Str × D)} {vs : List (Str × V)}, RepF K w α H fs vs → RepF K w α' H fs vs
  | [], vs, h => h
  | d :: ds, vs, h => by
    obtain ⟨v, r, e, h1, h2⟩ := h
    exact ⟨v, r, e, repD_less l _ _ h1, repF_less l h2⟩
theorem repC_less (l : α.Less α') {c : Cel} {b : Addr} (hc : RepC K w α H c b) : RepC K w α' H c b := by
  cases c with
  | lst ds => obtain ⟨vs, g1, g2⟩ := hc; exact ⟨vs, g1, repL_less l _ _ g2⟩
  | dic lk ks ds => obtain ⟨kv, vs, xs, g1, g2, g3, g4⟩ := hc; exact ⟨kv, vs, xs, g1, g2, repL_less l _ _ g3, repL_less l _ _ g4⟩
  | ins c fs => obtain ⟨dx, vs, g1, g2⟩ := hc; exact ⟨dx, vs, g1, repF_less l g2⟩
end
theorem less_show : α.Less (α.show a) := ⟨fun _ h => has_show h, fun _ _ h => h⟩
theorem rep_show (rp : Rep K w α S H) : Rep K w (α.show a) S H :=
  ⟨rp.nd, rp.len, fun b h => rp.hd b (List.mem_filter.mp h).1, fun b h => rp.dj b (List.mem_filter.mp h).1, fun n c b h1 h2 => repC_less less_show (rp.cell n c b h1 h2)⟩
/-- the hidden object becomes a cell -/
def Al.cell (α : Al) (a : Addr) : Al := ⟨α.al ++ [a], α.hid.filter fun b => decide (b ≠ a)⟩
theorem less_cell (ha : a ∈ α.hid) : α.Less (α.cell a) := ⟨fun b h => by
  rcases h with h | h
  · rcases List.mem_append.mp h with h | h
    · exact .inl h
    · have e : b = a := by simpa using h
      rw [e]; exact .inr ha
  · exact .inr (List.mem_filter.mp h).1, fun n b h => by
  have hn := (List.getElem?_eq_some_iff.mp h).1
  show (α.al ++ [a])[n]? = some b
  rw [List.getElem?_append_left hn]; exact h⟩
theorem rep_cell {c : Cel} (rp : Rep K w α S H) (ha : a ∈ α.hid) (hn : a ∉ α.al) (hc : RepC K w (α.cell a) H c a) : Rep K w (α.cell a) (S ++ [c]) H := by
  refine ⟨List.nodup_append.mpr ⟨rp.nd, by simp, fun x hx y hy e => ?_⟩, by simp [Al.cell, rp.len], fun b h => rp.hd b (List.mem_filter.mp h).1, fun b h z => ?_, fun n c' b h1 h2 => ?_⟩
  · have e2 : y = a := by simpa using hy
    exact hn (by rw [← e2, ← e]; exact hx)
  · rcases List.mem_append.mp z with z | z
    · exact rp.dj b (List.mem_filter.mp h).1 z
    · have e2 : b = a := by simpa using z
      have := (List.mem_filter.mp h).2
      rw [e2] at this
      simp at this
  · by_cases hl : n < S.length
    · rw [List.getElem?_append_left hl] at h1
      have h2 : (α.al ++ [a])[n]? = some b := h2
      rw [List.getElem?_append_left (by rw [rp.len]; exact hl)] at h2
      exact repC_less (less_cell ha) (rp.cell n c' b h1 h2)
    · have hl2 : n < (S ++ [c]).length := (List.getElem?_eq_some_iff.mp h1).1
      have e : n = S.length := by
        rw [List.length_append] at hl2
        simp only [List.length_cons, List.length_nil] at hl2
        omega
      have h1' : (S ++ [c])[S.length]? = some c' := by rw [← e]; exact h1
      have h2' : (α.al ++ [a])[α.al.length]? = some b := by rw [rp.len, ← e]; exact h2
      simp at h1' h2'
      subst h1' h2'
      exact hc
theorem stp_cell2 (st : Stp α H α1 H1) (ha : H a = none) (hd : ∀ b ∈ α.hid, H b ≠ none) : Stp α H (α1.cell a) H1 := by
  obtain ⟨β, e, hb⟩ := st.pre
  refine ⟨⟨β ++ [a], by show α1.al ++ [a] = _; rw [e, List.append_assoc], fun b h => ?_⟩, fun b h => st.hid b (List.mem_filter.mp h).1, fun b h => List.mem_filter.mpr ⟨st.stay b h, decide_eq_true fun e => hd b h (by rw [e]; exact ha)⟩, st.keep, st.dom, st.tup, st.dat, st.lst, st.frz⟩
  rcases List.mem_append.mp h with h | h
  · exact hb b h
  · have e2 : b = a := by simpa using h
    rw [e2]; exact ha
theorem stp_show (st : Stp α H α1 H1) (ha : H a = none) (hd : ∀ b ∈ α.hid, H b ≠ none) : Stp α H (α1.show a) H1 :=
  ⟨st.pre, fun b h => st.hid b (List.mem_filter.mp h).1, fun b h => List.mem_filter.mpr ⟨st.stay b h, decide_eq_true fun e => hd b h (by rw [e]; exact ha)⟩, st.keep, st.dom, st.tup, st.dat, st.lst, st.frz⟩
theorem not_show : ¬ (a ∈ (α.show a).hid) := fun h => by
  have := (List.mem_filter.mp h).2
  simp at this
/-- an object that came later, hidden, changes -/
theorem stp_later {o : HO} (st : Stp α H α1 H1) (ha : H a = none) (hh : ∀ b ∈ α.hid, H b ≠ none) : Stp α H α1 (upd H1 a o) :=
  ⟨st.pre, st.hid, st.stay, fun b h => (upd_ne fun e => hh b h (by rw [e]; exact ha)).trans (st.keep b h), fun b h => upd_dom (st.dom b h), fun b vs h => rd_upd_ne (fun e => rd_some h (by rw [e]; exact ha)) (st.tup b vs h),
    fun b u hd hb h => rd_upd_ne (fun e => rd_some h (by rw [e]; exact ha)) (st.dat b u hd hb h), fun b vs hb h => by
    rw [upd_ne fun e => rd_some (.inl h) (by rw [e]; exact ha)]; exact st.lst b vs hb h, fun b o u h => by
    rw [upd_ne fun e => rd_some (.inl h) (by rw [e]; exact ha)]; exact st.frz b o u h⟩
mutual
theorem repD_hid {o : HO} (ha : a ∈ α.hid) (hl : ∀ vs, ¬ Rd H a (.tup vs)) : ∀ (d : D) (v : V), RepD K w α H d v → RepD K w α (upd H a o) d v
  | .non, v, h => by unfold RepD at h ⊢; exact h
  | .bl b, v, h => by unfold RepD at h ⊢; exact h
  | .int i, v, h => by unfold RepD at h ⊢; exact h
  | .str x, v, h => by unfold RepD at h ⊢; exact h
  | .tup ds, v, h => by
    unfold RepD at h ⊢
    obtain ⟨b, vs, e, q, r⟩ := h
    refine ⟨b, vs, e, ?_, repL_hid ha hl ds vs r⟩
    rcases q with q | q
    · exact .inl (rd_upd_ne (fun e => hl vs (by rw [← e]; exact q)) q)
    · exact .inr q
  | .lst ds, v, h => by
    unfold RepD at h ⊢
    obtain ⟨b, vs, e, n, q, r⟩ := h
    exact ⟨b, vs, e, n, by rw [upd_ne fun e => n (.inr (by rw [e]; exact ha))]; exact q, repL_hid ha hl ds vs r⟩
  | .wl ds, v, h => by
    unfold RepD at h ⊢
    obtain ⟨b, vs, e, q, r⟩ := h
    refine ⟨b, vs, e, ?_, repL_hid ha hl ds vs r⟩
    rcases q with ⟨n, q⟩ | q
    · exact .inl ⟨n, rd_upd_ne (fun e => n (.inr (by rw [e]; exact ha))) q⟩
    · exact .inr q
  | .dic ks ds, v, h => by
    unfold RepD at h ⊢
    obtain ⟨b, kv, vs, xs, e, n, q, k, r1, r2⟩ := h
    exact ⟨b, kv, vs, xs, e, n, rd_upd_ne (fun e => n (.inr (by rw [e]; exact ha))) q, k, repL_hid ha hl ks kv r1, repL_hid ha hl ds vs r2⟩
  | .ref n, v, h => by
    unfold RepD at h ⊢
    exact h
theorem repL_hid {o : HO} (ha : a ∈ α.hid) (hl : ∀ vs, ¬ Rd H a (.tup vs)) : ∀ (ds : List D) (vs : List V), RepL K w α H ds vs → RepL K w α (upd H a o) ds vs
  | [], vs, h => by unfold RepL at h ⊢; exact h
  | d :: ds, vs, h => by
    unfold RepL at h ⊢
    obtain ⟨v, r, e, h1, h2⟩ := h
    exact ⟨v, r, e, repD_hid ha hl d v h1, repL_hid ha hl ds r h2⟩
end
theorem repF_hid {o : HO} (ha : a ∈ α.hid) (hl : ∀ vs, ¬ Rd H a (.tup vs)) : ∀ {fs : List (Str × D)} {vs : List (Str × V)}, RepF K w α H fs vs → RepF K w α (upd H a o) fs vs
  | [], vs, h => h
  | d :: ds, vs, h => by
    obtain ⟨v, r, e, h1, h2⟩ := h
    exact ⟨v, r, e, repD_hid ha hl _ _ h1, repF_hid ha hl h2⟩
theorem rep_hid {o : HO} (rp : Rep K w α S H) (ha : a ∈ α.hid) (hl : ∀ vs, ¬ Rd H a (.tup vs)) : Rep K w α S (upd H a o) :=
  ⟨rp.nd, rp.len, fun b h => upd_dom (rp.hd b h), rp.dj, fun n c b h1 h2 => by
    have hc := rp.cell n c b h1 h2
    have e : (upd H a o) b = H b := upd_ne fun e => rp.dj a ha (by rw [← e]; exact List.mem_of_getElem? h2)
    cases c with
    | lst ds => obtain ⟨vs, g1, g2⟩ := hc; exact ⟨vs, e.trans g1, repL_hid ha hl _ _ g2⟩
    | dic lk ks ds => obtain ⟨kv, vs, xs, g1, g2, g3, g4⟩ := hc; exact ⟨kv, vs, xs, by rw [e]; exact g1, g2, repL_hid ha hl _ _ g3, repL_hid ha hl _ _ g4⟩
    | ins c fs => obtain ⟨dx, vs, g1, g2⟩ := hc; exact ⟨dx, vs, e.trans g1, repF_hid ha hl g2⟩⟩
theorem lst_notup {vs : List V} (h : H a = some (.lst vs)) (us : List V) : ¬ Rd H a (.tup us) := by
  rintro (q | ⟨o, q⟩) <;> (rw [h] at q; cases q)
end
/-- what becomes of the new list: a value, a cell -/
@[simp] def finL (ds : List D) : M D := fun S => .val (.lst ds) S
@[simp] def finC (ds : List D) : M D := fun S => .val (.ref S.length) (S ++ [.lst ds])
def Fin (K : PySem.W.Frag) (w : World) (fin : List D → M D) : Prop := ∀ (E : XK) (α0 α : Al) (H0 H : Hp) (S : Sto) (a : Addr) (ds : List D) (vs : List V) (Q : VK), Stp α0 H0 α H → H0 a = none → (∀ b ∈ α0.hid, H0 b ≠ none) → a ∈ α.hid → a ∉ α.al → Rep K w α S H → H a = some (.lst vs) → RepL K w α H ds vs →
  Post K w (RepD K w) E α0 H0 (fin ds S) Q → Q (.ref a) H
theorem fin_l {K : PySem.W.Frag} {w : World} : Fin K w finL := fun E α0 α H0 H S a ds vs Q st ha hh hi hn rp hl l q =>
  q (α.show a) H _ (stp_show st ha hh) (rep_show rp) (by unfold RepD; exact ⟨a, vs, rfl, fun z => z.elim hn not_show, hl, repL_less less_show _ _ l⟩)
theorem fin_c {K : PySem.W.Frag} {w : World} : Fin K w finC := fun E α0 α H0 H S a ds vs Q st ha hh hi hn rp hl l q =>
  q (α.cell a) H _ (stp_cell2 st ha hh) (rep_cell rp hi hn ⟨vs, hl, repL_less (less_cell hi) _ _ l⟩) (by unfold RepD; exact ⟨a, rfl, by rw [← rp.len]; simp [Al.cell]⟩)
@[simp] noncomputable def eFin (fin : List D → M D) (f : Rho → M (List D)) : Rho → M D := fun ρ S => (f ρ S).bind fin
/-- tests of a comprehension -/
abbrev ZTs (X : Cx) (E : XK) (ifs : List Expr) (t : Rho → M Bool) : Prop := PTs X ifs (liftB X.K X.w E t)
theorem PTs.weak {X : Cx} {e : List Expr} {t t' : TT} (h : PTs X e t) (k : ∀ σ H Q, t' σ H Q → t σ H Q) : PTs X e t' := ⟨fun pins s σ H Q I q => h.run pins s σ H Q I (k σ H Q q)⟩
theorem zts_nil {X : Cx} {E : XK} : ZTs X E [] bYes := PTs.weak pts_nil fun σ H Q ⟨α, S, ρ, rp, re, q⟩ => Post.now q rp rfl
theorem zts_one {X : Cx} {E : XK} {c : Expr} {t : Rho → M Bool} (h : ZT X E c t) : ZTs X E [c] t := pts_one h
theorem compL_ok {ok : Sto → Prop} {g : D → Rho → M Rho} {t : Rho → M Bool} {e : Rho → M D} {ρ : Rho} {ds : List D} {S : Sto} (h : compL ok g t e ρ ds S ≠ .stuck) : ok S := by
  refine Classical.byContradiction fun n => h ?_
  cases ds with
  | nil => unfold compL; exact guard_no n
  | cons d ds => unfold compL; exact guard_no n
theorem Stp.hidAl {α0 α : Al} {H0 H : Hp} {a : Addr} {S : Sto} {K : PySem.W.Frag} {w : World} (st : Stp α0 H0 α H) (rp0 : Rep K w α0 S H0) (hn : a ∉ α0.al) (hs : H0 a ≠ none) : a ∉ α.al := fun h => by
  obtain ⟨β, e, hb⟩ := st.pre
  rw [e, List.mem_append] at h
  rcases h with h | h
  · exact hn h
  · exact hs (hb a h)
theorem lc_read {X : Cx} {E : XK} {vs : List Nat} {f : Rho → M Src} {g : D → Rho → M Rho} {t : Rho → M Bool} {e : Rho → M D} {fin : List D → M D} (hf : Fin X.K X.w fin) {σ : St} {H : Hp} {Q : VK}
    (h : lift X.K X.w E (eFin fin (eComp f vs g t e)) σ H Q) : tLc (liftI X.K X.w E f) (liftGw X.K X.w E0 vs g) (liftB X.K X.w E0 t) (lift X.K X.w E0 e) vs σ H Q := by
  obtain ⟨α, S, ρ, rp, re, q⟩ := h
  refine ⟨α, S, ρ, rp, re, ?_⟩
  unfold eFin eComp at q
  cases hfs : f ρ S with
  | stuck => rw [hfs] at q; exact q.elim
  | exc c p S' => rw [hfs] at q; exact q
  | val s S1 =>
    rw [hfs] at q
    have q : Post X.K X.w (RepD X.K X.w) E α H ((if s.items.length ≤ sizeLine then compL s.ok g t e (wipeR ρ vs) s.items S1 else .stuck).bind fin) Q := q
    by_cases hlen : s.items.length ≤ sizeLine
    case neg => rw [if_neg hlen] at q; exact q.elim
    rw [if_pos hlen] at q
    have hok : s.ok S1 := compL_ok fun e => by rw [e] at q; exact q
    refine ⟨hok, fun α1 H1 J st1 rp1 gv a ha => ?_⟩
    have q := Post.mono st1 q
    have re1 := (re.mono st1).wipe vs
    -- the list is hidden while it grows
    have st2 : Stp α1 H1 (α1.hide a) (upd H1 a (.lst [])) := stp_hide rp1.hd ha
    have nal : a ∉ α1.al := fun z => rp1.mem_some (.inl z) ha
    refine ⟨fun i m H => ∃ (α : Al) (S : Sto) (ds acc : List D) (av : List V), s.items.drop i = ds ∧ m = ds.length ∧ acc.length ≤ i ∧ Stp α1 H1 α H ∧ a ∈ α.hid ∧ a ∉ α.al ∧ Rep X.K X.w α S H ∧ H a = some (.lst av) ∧ RepL X.K X.w α H acc av ∧
      Post X.K X.w (RepD X.K X.w) E α1 H1 ((compL s.ok g t e (wipeR ρ vs) ds S).bind fun ys S' => fin (acc ++ ys) S') Q,
      ⟨_, α1.hide a, S1, s.items, [], [], rfl, rfl, Nat.le_refl _, st2, List.mem_cons_self, nal, rep_hide rp1 ha, upd_same, RepL.nil, q⟩, ?_⟩
    rintro i m H ⟨α, S, ds, acc, av, hd, hm, hal, st, hah, han, rp, hav, lav, q⟩
    have hok : s.ok S := compL_ok fun e => by rw [e] at q; exact q
    obtain ⟨g1, g2⟩ := gv α S H st.q rp hok i
    cases ds with
    | nil =>
      refine .inl ⟨g1 (List.drop_eq_nil_iff.mp hd), ?_⟩
      unfold compL at q
      rw [guard_of hok] at q
      have q : Post X.K X.w (RepD X.K X.w) E α1 H1 (fin (acc ++ []) S) Q := q
      rw [List.append_nil] at q
      exact hf E α1 α H1 H S a acc av Q st ha rp1.hd hah han rp hav lav q
    | cons d ds =>
      have hi : s.items[i]? = some d := by
        have : (s.items.drop i)[0]? = some d := by rw [hd]; rfl
        rw [List.getElem?_drop] at this
        exact this
      have hil := (List.getElem?_eq_some_iff.mp hi).1
      have hd' : s.items.drop (i + 1) = ds := by
        rw [← List.drop_drop, hd]
        rfl
      obtain ⟨g3, g4⟩ := g2 d hi
      refine .inr ⟨g3, fun H => ∃ (α : Al) (S : Sto) (acc : List D) (av : List V), acc.length ≤ i + 1 ∧ Stp α1 H1 α H ∧ a ∈ α.hid ∧ a ∉ α.al ∧ Rep X.K X.w α S H ∧ H a = some (.lst av) ∧ RepL X.K X.w α H acc av ∧
        Post X.K X.w (RepD X.K X.w) E α1 H1 ((compL s.ok g t e (wipeR ρ vs) ds S).bind fun ys S' => fin (acc ++ ys) S') Q,
        fun H' ⟨α', S', acc', av', h1, h2, h3, h4, h5, h6, h7, h8⟩ => ⟨ds.length, by rw [hm]; exact Nat.lt_succ_self _, α', S', ds, acc', av', hd', rfl, h1, h2, h3, h4, h5, h6, h7, h8⟩, fun x H' hy => ?_⟩
      obtain ⟨stx, rpx, rx⟩ := g4 x H' hy
      unfold compL at q
      rw [guard_of hok] at q
      -- the target
      have q1 : Post X.K X.w (RepD X.K X.w) E α1 H1 ((noX (g d (wipeR ρ vs)) S).bind fun ρ1 S1 => ((noX (t ρ1) S1).bind fun b S2 => if b = true then (noX (e ρ1) S2).bind fun y S3 => (compL s.ok g t e (wipeR ρ vs) ds S3).bind fun ys S4 => .val (y :: ys) S4 else compL s.ok g t e (wipeR ρ vs) ds S2).bind fun ys S' => fin (acc ++ ys) S') Q := by
        have e1 : ∀ {δ ε ζ : Type} (m : Out δ) (k : δ → Sto → Out ε) (l : ε → Sto → Out ζ), (m.bind k).bind l = m.bind fun x S => (k x S).bind l := fun m k l => by cases m <;> rfl
        rw [e1] at q
        exact q
      have reW : RepE X.K X.w α H' (wipeR ρ vs) (L2.wipe σ vs) := re1.mono (st.trans stx)
      refine ⟨α, S, wipeR ρ vs, d, rpx, reW, rx, Post.stepX (st.trans stx) q1 fun ρ1 S3 α3 H3 σ3 _ st3 rp3 re3 q3 => ⟨re3.2.trans (by rw [wipe_wipe]), ?_⟩⟩
      have e1 : ∀ {δ ε ζ : Type} (m : Out δ) (k : δ → Sto → Out ε) (l : ε → Sto → Out ζ), (m.bind k).bind l = m.bind fun x S => (k x S).bind l := fun m k l => by cases m <;> rfl
      rw [e1] at q3
      refine ⟨α3, S3, ρ1, rp3, re3.1, Post.stepX ((st.trans stx).trans st3) q3 fun b S4 α4 H4 c _ st4 rp4 r4 q4 => ?_⟩
      subst r4
      have st04 := ((st.trans stx).trans st3).trans st4
      have st14 := (stx.trans st3).trans st4
      have hav4 : H4 a = some (.lst av) := (st14.keep a hah).trans hav
      have hah4 : a ∈ α4.hid := st14.stay a hah
      have lav4 := repL_mono st14 _ _ lav
      cases b with
      | false =>
        rw [if_neg Bool.false_ne_true] at q4 ⊢
        exact ⟨α4, S4, acc, av, by omega, st04, hah4, rp4.dj a hah4, rp4, hav4, lav4, q4⟩
      | true =>
        rw [if_pos rfl] at q4 ⊢
        rw [e1] at q4
        refine ⟨α4, S4, ρ1, rp4, re3.1.mono st4, Post.stepX st04 q4 fun y S5 α5 H5 yv _ st5 rp5 r5 q5 => ?_⟩
        rw [e1] at q5
        have hav5 : H5 a = some (.lst av) := (st5.keep a hah4).trans hav4
        have hah5 : a ∈ α5.hid := st5.stay a hah4
        have hnt : ∀ us, ¬ Rd H5 a (.tup us) := lst_notup hav5
        refine ⟨av, hav5, ?_, α5, S5, acc ++ [y], av ++ [yv], by rw [List.length_append]; simp only [List.length_cons, List.length_nil]; omega, stp_later (st04.trans st5) ha rp1.hd, hah5, rp5.dj a hah5, rep_hid rp5 hah5 hnt, upd_same, ?_, ?_⟩
        · rw [lav.length]
          omega
        · exact (repL_hid hah5 hnt _ _ (repL_mono st5 _ _ lav4)).append (.one (repD_hid hah5 hnt _ _ r5))
        · have e2 : ((compL s.ok g t e (wipeR ρ vs) ds S5).bind fun ys S' => fin ((acc ++ [y]) ++ ys) S') = (compL s.ok g t e (wipeR ρ vs) ds S5).bind fun ys S4 => (Out.val (y :: ys) S4).bind fun ys S' => fin (acc ++ ys) S' := by
            cases compL s.ok g t e (wipeR ρ vs) ds S5 with
            | val ys S6 => simp
            | exc c p S6 => rfl
            | stuck => rfl
          rw [e2]
          exact q5
section
variable {X : Cx} {E : XK} {pos : Pos} {elt tg iter : Expr} {ifs : List Expr} {scope : Scope} {own : List (Str × Nat)} {f : Rho → M Src} {g : D → Rho → M Rho} {t : Rho → M Bool} {e : Rho → M D} {fin : List D → M D}
/-- [elt for tg in iter if ..] -/
theorem ze_lc (hf : Fin X.K X.w fin) (hc : X.calm = true) (hN : X.N.Nodup) (hi : ZI X E tg iter f) (ok : BlkOk X.N X.env.scope scope own)
    (hg : ∀ (s : Shared) (H : Hp) (C : Addr) (cl : List (Str × Addr)) (fp : List Addr), ZGw (X.blk s H scope (compEnvC scope cl C X.env) fp) E0 (own.map (·.2)) tg g)
    (ht : ∀ (s : Shared) (H : Hp) (C : Addr) (cl : List (Str × Addr)) (fp : List Addr), ZTs (X.blk s H scope (compEnvC scope cl C X.env) fp) E0 ifs t)
    (he : ∀ (s : Shared) (H : Hp) (C : Addr) (cl : List (Str × Addr)) (fp : List Addr), ZE (X.blk s H scope (compEnvC scope cl C X.env) fp) E0 elt e) (hs : ∀ x, foldedSetIterable iter X.env x = pure x := by intro _; rfl) :
    ZE X E (.ListComp elt [⟨tg, iter, ifs, 0⟩] scope pos) (eFin fin (eComp f (own.map (·.2)) g t e)) := PE.weak (pe_lc hc hN hi ok hg ht he hs) fun σ H Q h => lc_read hf h
/-- y = [elt for ..] on one line, y a local -/
theorem zs_lc {i : Nat} {y : Str} {py spos : Pos} (hf : Fin X.K X.w fin) (hc : X.calm = true) (hN : X.N.Nodup) (hy : X.N[i]? = some y) (hyl : X.env.scope.names.lookup y = some .local)
    (hsw : swapsWith (.ListComp elt [⟨tg, iter, ifs, 0⟩] scope pos) (some (.Name y py)) spos.line X.env = pure true) (hi : ZI X E tg iter f) (ok : BlkOk X.N X.env.scope scope own)
    (hg : ∀ (s : Shared) (H : Hp) (C : Addr) (cl : List (Str × Addr)) (fp : List Addr), ZGw (X.blk s H scope (compEnvC scope cl C X.env) fp) E0 (own.map (·.2)) tg g)
    (ht : ∀ (s : Shared) (H : Hp) (C : Addr) (cl : List (Str × Addr)) (fp : List Addr), ZTs (X.blk s H scope (compEnvC scope cl C X.env) fp) E0 ifs t)
    (he : ∀ (s : Shared) (H : Hp) (C : Addr) (cl : List (Str × Addr)) (fp : List Addr), ZE (X.blk s H scope (compEnvC scope cl C X.env) fp) E0 elt e) (hs : ∀ x, foldedSetIterable iter X.env x = pure x := by intro _; rfl) :
    ZS X E (.Assign [.Name y py] (.ListComp elt [⟨tg, iter, ifs, 0⟩] scope pos) spos) (sAsg (eFin fin (eComp f (own.map (·.2)) g t e)) (tName i)) := PS.weak (ps_setLc hc hN hy hyl hsw hi ok hg ht he hs) fun Q σ H ⟨α, S, ρ, rp, re, q⟩ => by
  refine lc_read hf ⟨α, S, ρ, rp, re, PostS.step q fun d S1 α1 H1 v _ st rp1 r1 q1 => ?_⟩
  exact q1.nx rp1 ((re.mono st).set i r1)
end
end Z
set_option Elab.async false
set_option linter.all false
set_option maxRecDepth 100000
set_option maxHeartbeats 1000000
/-! Z12: defs, calls, instances. -/
namespace Z
open PySem L2 PySem.Spec PyProof.Rows
/-- a def's promise -/
def spZ (K : PySem.W.Frag) (w : World) (n : Nat) (F : List D → M D) : Sp := fun vs H Q E => ∃ α S ds, Rep K w α S H ∧ RepL K w α H ds vs ∧ ds.length = n ∧ Post K w (RepD K w) E α H (F ds S) Q
/-- the def of this body, m names behind its parameters -/
@[simp] def fn0 (m : Nat) (g : Rho → M Fl) : List D → M D := fun ds S => (g (ds.map some ++ List.replicate m none) S).bind fun fl S1 => match fl with
  | .ret d => .val d S1
  | .nx _ => .val .non S1
  | _ => .stuck
section
variable {K : PySem.W.Frag} {w : World} {α : Al} {H : Hp} {S : Sto} {E : XK} {Q : VK}
theorem repL_at : ∀ {ds : List D} {vs : List V} {i : Nat} {d : D}, RepL K w α H ds vs → (ds.map some)[i]? = some (some d) → ∃ v, (vs.map some)[i]? = some (some v) ∧ RepD K w α H d v := by
  intro ds vs i d r h
  rw [List.getElem?_map] at h
  cases e : ds[i]? with
  | none => rw [e] at h; cases h
  | some x =>
    rw [e] at h
    cases h
    obtain ⟨v, h1, h2⟩ := r.get e
    exact ⟨v, by rw [List.getElem?_map, h1]; rfl, h2⟩
theorem repE_start {N : List Str} {ds : List D} {vs : List V} (r : RepL K w α H ds vs) : RepE K w α H (ds.map some ++ List.replicate (N.length - ds.length) none) (L2.start N vs) := by
  have hl := r.length
  unfold L2.start
  rw [hl]
  refine ⟨by simp [hl], fun i d h => ?_⟩
  by_cases c : i < ds.length
  · rw [List.getElem?_append_left (by simpa using c)] at h
    rw [List.getElem?_append_left (by simpa [hl] using c)]
    exact repL_at r h
  · rw [List.getElem?_append_right (by simpa using c), List.getElem?_replicate] at h
    split at h <;> cases h
theorem post_fn {o : Out Fl} (q : Post K w (RepD K w) E α H (o.bind fun fl S1 => match fl with
  | .ret d => .val d S1
  | .nx _ => .val .non S1
  | _ => .stuck) Q) : PostS K w E α H o { nx := fun _ H' => Q .non H', rt := Q } := by
  cases o with
  | val fl S' =>
    cases fl with
    | nx ρ => exact fun α' H' σ' st rp re => q α' H' .non st rp repN
    | ret d => exact q
    | brk ρ => exact q.elim
    | cont ρ => exact q.elim
  | exc c p S' => exact q
  | stuck => exact q
end
/-- a def that may be called by its name -/
structure CalZ (P : Program) (w : World) (K : PySem.W.Frag) (mg : Str → Option Value) (base : Heap) (k : Nat) (x : Str) (n : Nat) (F : List D → M D) : Prop where
  ex : ∃ (f : Addr) (fd : FuncData) (ps : List Str), FnOk P w K mg base CX0 k f fd ps (spZ K w n F) ∧ mg x = some (.ref f) ∧ PySem.W.keepIn K (.ref f) = true ∧ Binds K fd ps []
/-- a method m of the class named c -/
structure MetZ (P : Program) (w : World) (K : PySem.W.Frag) (mg : Str → Option Value) (base : Heap) (k : Nat) (c m : Str) (n : Nat) (F : List D → M D) : Prop where
  ex : ∃ (f : Addr) (fd : FuncData) (ps : List Str), Cls K (He.ga K c) ∧ Meth K (He.ga K c) m f ∧ FnOk P w K mg base CX0 k f fd ps (spZ K w n F) ∧ Binds K fd ps []
/-- a class that may be made by its name -/
structure MakZ (P : Program) (w : World) (K : PySem.W.Frag) (mg : Str → Option Value) (base : Heap) (k : Nat) (c : Str) (n : Nat) (F : List D → M D) : Prop where
  ex : ∃ (f : Addr) (fd : FuncData) (ps : List Str), Mk K (He.ga K c) f ∧ FnOk P w K mg base CX0 k f fd ps (spZ K w n F) ∧ mg c = some (.ref (He.ga K c)) ∧ Binds K fd ps []
section
variable {P : Program} {w : World} {K : PySem.W.Frag} {mg : Str → Option Value} {base : Heap} {k n : Nat} {x c m qual : Str} {F : List D → M D} {f : Addr} {fd : FuncData} {params : Arguments} {body : List Stmt} {scope : Scope} {N ps : List Str} {g : Rho → M Fl}
/-- THE RULE of a def -/
theorem okF (Fu : FunD K x qual params body scope [] [] f fd) (Sc : FnScope N ps scope) (hn : ps.length = n) (hF : F = fn0 (N.length - n) g)
    (hb : ∀ (cdv : Value) (A : Around) (outer : List Env) (s : Shared) (H : Hp) (E E' : XK), Room k (A.deeper (envOfC qual scope s.heap.objs.size f cdv)) → ZSs (cxOf CX0 P w K mg base N qual scope f cdv A outer s H E).nox E' body g) :
    FnOk P w K mg base CX0 (k + 1) f fd ps (spZ K w n F) := by
  subst hF
  refine Fu.ok Sc (fun vs H Q E ⟨α, S, ds, rp, r, hl, q⟩ => by rw [r.length, hl, hn]) fun cdv A outer s H vs Q E hr ⟨α, S, ds, rp, r, hl, q⟩ => ?_
  refine ⟨liftS K w E g, PSs.nox (hb cdv A outer s H E E hr), α, S, _, rp, repE_start r, ?_⟩
  rw [hl]
  exact post_fn q
/-- never run -/
theorem ok_none (h : ps.length = n) : FnOk P w K mg base CX0 k f fd ps (spZ K w n fun _ _ => .stuck) :=
  ⟨fun vs H Q E ⟨α, S, ds, rp, r, hl, q⟩ => by rw [r.length, hl, h], fun A outer s H args us vs Q E hr e hb hv ⟨α, S, ds, rp, r, hl, q⟩ => q.elim⟩
theorem CalZ.mono {j : Nat} (h : CalZ P w K mg base j x n F) (hk : j ≤ k) : CalZ P w K mg base k x n F := let ⟨f, fd, ps, F, a⟩ := h.ex; ⟨f, fd, ps, F.mono hk, a⟩
theorem MetZ.mono {j : Nat} (h : MetZ P w K mg base j c m n F) (hk : j ≤ k) : MetZ P w K mg base k c m n F := let ⟨f, fd, ps, a, b, F, d⟩ := h.ex; ⟨f, fd, ps, a, b, F.mono hk, d⟩
theorem MakZ.mono {j : Nat} (h : MakZ P w K mg base j c n F) (hk : j ≤ k) : MakZ P w K mg base k c n F := let ⟨f, fd, ps, a, F, d⟩ := h.ex; ⟨f, fd, ps, a, F.mono hk, d⟩
theorem calZ (Fu : FunD K x qual params body scope [] [] f fd) (hg : mg x = some (.ref f)) (hb : Binds K fd ps []) (ok : FnOk P w K mg base CX0 k f fd ps (spZ K w n F)) : CalZ P w K mg base k x n F := ⟨f, fd, ps, ok, hg, Fu.kp, hb⟩
end
/-! ### calls -/
@[simp] def eCall (F : List D → M D) (g : Rho → M (List D)) : Rho → M D := fun ρ S => (g ρ S).bind fun ds S1 => F ds S1
section
variable {X : Cx} {E : XK} {k j n : Nat} {x c m f : Str} {F : List D → M D} {p pos apos : Pos} {e o : Expr} {es : List Expr} {g : Rho → M (List D)} {fo fv : Rho → M D}
theorem ze_call (h : CalZ X.prog X.w X.K X.mg X.base k x n F) (hr : Room j X.A) (hk : k ≤ j) (ha : ZA X E (e :: es) g) (hl : LenIs g n) (hg : Gl X x := by rfl)
    (hdb : (x == ("__debug__" : Str)) = false := by decide) (he : starEach (e :: es) X.env = (false, eval e X.env) :: starEach es X.env := by rfl) (hpl : (backTo pos (starEach es X.env)).any (·.1) = false := by rfl) :
    ZE X E (.Call (.Name x p) (e :: es) [] pos) (eCall F g) := by
  obtain ⟨f, fd, ps, ok, hm, kp, b⟩ := h.ex
  refine PE.weak (pe_call (E := E) ok (hr.mono hk) hg hm kp b .nil pass0 ha hdb he hpl) fun σ H Q ⟨α, S, ρ, rp, re, q⟩ => ?_
  refine ⟨α, S, ρ, rp, re, Post.step q fun ds S1 α1 H1 vs ev st rp1 r1 q1 => ?_⟩
  rw [List.append_nil]
  exact ⟨α1, S1, ds, rp1, r1, hl _ _ _ _ ev, q1⟩
theorem ze_call0 (h : CalZ X.prog X.w X.K X.mg X.base k x 0 F) (hr : Room j X.A) (hk : k ≤ j) (hg : Gl X x := by rfl)
    (hdb : (x == ("__debug__" : Str)) = false := by decide) : ZE X E (.Call (.Name x p) [] [] pos) (eCall F aNil) := by
  obtain ⟨f, fd, ps, ok, hm, kp, b⟩ := h.ex
  exact PE.weak (pe_call0 (E := E) ok (hr.mono hk) hg hm kp b .nil pass0 hdb) fun σ H Q ⟨α, S, ρ, rp, re, q⟩ => ⟨α, S, [], rp, RepL.nil, rfl, q⟩
/-! ### instances -/
def fGet (f : Str) (fs : List (Str × D)) : Option D := fs.lookup f
def fPut (f : Str) (d : D) : List (Str × D) → List (Str × D)
  | [] => [(f, d)]
  | (g, x) :: r => if g = f then (g, d) :: r else (g, x) :: fPut f d r
section
variable {K : PySem.W.Frag} {w : World} {α : Al} {H : Hp}
theorem repF_none : ∀ {fs : List (Str × D)} {vs : List (Str × V)}, RepF K w α H fs vs → fs.lookup f = none → vs.lookup f = none
  | [], vs, h, _ => by cases h; rfl
  | (g, d) :: fs, vs, h, q => by
    obtain ⟨v, r, rfl, h1, h2⟩ := h
    cases e : (f == g) with
    | true => simp [List.lookup, e] at q
    | false =>
      simp only [List.lookup, e] at q ⊢
      exact repF_none h2 q
theorem repF_some {d : D} : ∀ {fs : List (Str × D)} {vs : List (Str × V)}, RepF K w α H fs vs → fs.lookup f = some d → ∃ v, vs.lookup f = some v ∧ RepD K w α H d v
  | [], vs, h, q => by cases q
  | (g, d') :: fs, vs, h, q => by
    obtain ⟨v, r, rfl, h1, h2⟩ := h
    cases e : (f == g) with
    | true =>
      simp only [List.lookup, e] at q ⊢
      cases q
      exact ⟨v, rfl, h1⟩
    | false =>
      simp only [List.lookup, e] at q ⊢
      exact repF_some h2 q
theorem repF_put {d : D} {v : V} (r : RepD K w α H d v) : ∀ {fs : List (Str × D)} {vs : List (Str × V)}, RepF K w α H fs vs → RepF K w α H (fPut f d fs) (putF f v vs)
  | [], vs, h => by cases h; exact ⟨v, [], rfl, r, rfl⟩
  | (g, d') :: fs, vs, h => by
    obtain ⟨v', r', rfl, h1, h2⟩ := h
    show RepF K w α H (if g = f then (g, d) :: fs else (g, d') :: fPut f d fs) (if g = f then (g, v) :: r' else (g, v') :: putF f v r')
    by_cases e : g = f
    · rw [if_pos e, if_pos e]; exact ⟨v, r', rfl, r, h2⟩
    · rw [if_neg e, if_neg e]; exact ⟨v', _, rfl, h1, repF_put r h2⟩
theorem repF_len : ∀ {fs : List (Str × D)} {vs : List (Str × V)}, RepF K w α H fs vs → vs.length = fs.length
  | [], vs, h => by cases h; rfl
  | (g, d') :: fs, vs, h => by
    obtain ⟨v', r', rfl, h1, h2⟩ := h
    rw [List.length_cons, List.length_cons, repF_len h2]
end
/-- the instance of the class c -/
def insOf (c : Str) (S : Sto) : D → Option (List (Str × D))
  | .ref n => (match S[n]? with
    | some (.ins c' fs) => if c' = c then some fs else none
    | _ => none)
  | _ => none
theorem insOf_rep {K : PySem.W.Frag} {w : World} {α : Al} {H : Hp} {S : Sto} {d : D} {v : V} {fs : List (Str × D)} (rp : Rep K w α S H) (h : insOf c S d = some fs) (r : RepD K w α H d v) :
    ∃ n a dx vs, d = .ref n ∧ S[n]? = some (.ins c fs) ∧ v = .ref a ∧ α.al[n]? = some a ∧ H a = some (.ins (He.ga K c) dx vs) ∧ RepF K w α H fs vs := by
  cases d with
  | ref n =>
    cases hs : S[n]? with
    | none => simp [insOf, hs] at h
    | some ce =>
      cases ce with
      | ins c' fs' =>
        simp only [insOf, hs] at h
        by_cases ec : c' = c
        · rw [if_pos ec] at h
          cases h
          subst ec
          unfold RepD at r
          obtain ⟨a, rfl, ha⟩ := r
          obtain ⟨dx, vs, h1, h2⟩ := rp.cell n _ a hs ha
          exact ⟨n, a, dx, vs, rfl, hs, rfl, ha, h1, h2⟩
        · rw [if_neg ec] at h; cases h
      | lst ds => simp [insOf, hs] at h
      | dic lk ks ds => simp [insOf, hs] at h
  | _ => simp [insOf] at h
def opFld (c f : Str) : D → M D := fun o S => match insOf c S o with
  | some fs => (match fs.lookup f with
    | some d => .val d S
    | none => .stuck)
  | none => .stuck
@[simp] def eFld (c f : Str) (fo : Rho → M D) : Rho → M D := fun ρ S => (fo ρ S).bind fun o S1 => opFld c f o S1
theorem ze_fld (c : Str) (cl : Cls X.K (He.ga X.K c)) (na : NoAttr X.K (He.ga X.K c) f) (h : ZE X E o fo) (hb : attributeBase o f X.env (eval o X.env) = eval o X.env := by rfl) : ZE X E (.Attribute o f pos) (eFld c f fo) :=
  PE.weak (pe_fld h hb) fun σ H Q ⟨α, S, ρ, rp, re, q⟩ => by
    refine ⟨α, S, ρ, rp, re, Post.step q fun o S1 α1 H1 x _ st rp1 r1 q1 => ?_⟩
    unfold opFld at q1
    split at q1
    · rename_i fs hi
      split at q1
      · rename_i d hd
        obtain ⟨n, a, dx, vs, e1, e2, e3, e4, e5, e6⟩ := insOf_rep rp1 hi r1
        obtain ⟨v, h1, h2⟩ := repF_some e6 hd
        exact ⟨a, _, dx, vs, v, e3, e5, cl, na, h1, q1.now rp1 h2⟩
      · exact q1.elim
    · exact q1.elim
def opFldSet (c f : Str) : D → D → M Unit := fun o d S => match o with
  | .ref n => (match S[n]? with
    | some (.ins c' fs) => if c' = c ∧ fs.length < 1000 then .val () (S.set n (.ins c (fPut f d fs))) else .stuck
    | _ => .stuck)
  | _ => .stuck
/-- o.f = v -/
@[simp] def sFldZ (c f : Str) (fo fv : Rho → M D) : Rho → M Fl := fun ρ S => (fv ρ S).bind fun d S1 => (fo ρ S1).bind fun o S2 => (opFldSet c f o d S2).bind fun _ S3 => .val (.nx ρ) S3
theorem zs_fld (c : Str) {value : Expr} {pos' : Pos} (cl : Cls X.K (He.ga X.K c)) (na : NoAttr X.K (He.ga X.K c) f) (h1 : ZE X E o fo) (h2 : ZE X E value fv) (hs : swapsWith value (some (.Attribute o f pos')) pos.line X.env = pure false := by rfl) :
    ZS X E (.Assign [.Attribute o f pos'] value pos) (sFldZ c f fo fv) := PS.weak (ps_fld h1 h2 hs) fun Q σ H ⟨α, S, ρ, rp, re, q⟩ => by
  refine ⟨α, S, ρ, rp, re, PostS.step q fun d S1 α1 H1 y _ st rp1 r1 q1 => ?_⟩
  refine ⟨α1, S1, ρ, rp1, re.mono st, PostS.step q1 fun o S2 α2 H2 x _ st2 rp2 r2 q2 => ?_⟩
  cases o with
  | ref n =>
    cases hs : S2[n]? with
    | none => simp only [opFldSet, hs, Out.bind] at q2; exact q2.elim
    | some ce =>
      cases ce with
      | ins c' fs =>
        simp only [opFldSet, hs] at q2
        by_cases hc : c' = c ∧ fs.length < 1000
        · rw [if_pos hc] at q2
          obtain ⟨ec, hl⟩ := hc
          subst ec
          unfold RepD at r2
          obtain ⟨a, rfl, ha⟩ := r2
          obtain ⟨dx, vs, e1, e2⟩ := rp2.cell n _ a hs ha
          refine ⟨a, _, dx, vs, rfl, e1, cl, na, by rw [repF_len e2]; exact hl, ?_⟩
          have st3 := stp_set (o := .ins (He.ga X.K c') dx (putF f y vs)) rp2 ha (nofrz e1)
          exact q2 α2 _ σ st3 (rp2.setCell ha (nofrz e1) ⟨dx, _, upd_same, repF_put (repD_mono (st2.trans st3) _ _ r1) (repF_mono st3 e2)⟩) (((re.mono st).mono st2).mono st3)
        · rw [if_neg hc] at q2; exact q2.elim
      | lst ds => simp only [opFldSet, hs, Out.bind] at q2; exact q2.elim
      | dic lk ks ds => simp only [opFldSet, hs, Out.bind] at q2; exact q2.elim
  | _ => simp only [opFldSet, Out.bind] at q2; exact q2.elim
/-! ### methods -/
def opMeth (c m : Str) (F : List D → M D) (o : D) : List D → M D := fun ds S => F (o :: ds) S
@[simp] def eMeth (c m : Str) (F : List D → M D) (fo : Rho → M D) (g : Rho → M (List D)) : Rho → M D := fun ρ S => (fo ρ S).bind fun o S1 => match insOf c S1 o with
  | some fs => if fs.lookup m = none then (g ρ S1).bind fun ds S2 => F (o :: ds) S2 else .stuck
  | none => .stuck
theorem ze_meth {pl : Sem Bool} (h : MetZ X.prog X.w X.K X.mg X.base k c m (n + 1) F) (hr : Room j X.A) (hk : k ≤ j) (ho : ZE X E o fo) (ha : ZA X E (e :: es) g) (hl : LenIs g n)
    (hst : starEach (e :: es) X.env = (false, eval e X.env) :: starEach es X.env := by rfl) (hpl : (backTo pos (starEach es X.env)).any (·.1) = false := by rfl)
    (ht : eval (.Call (.Attribute o m apos) (e :: es) [] pos) X.env = (do
      let ov ← eval o X.env
      standAt apos.atName
      let (f, first) ← holding [ov] (getMethod ov m pl)
      callWith pos f first (backTo pos (starEach (e :: es) X.env)) (backToKw pos (keywordEach [] X.env))) := by rfl) :
    ZE X E (.Call (.Attribute o m apos) (e :: es) [] pos) (eMeth c m F fo g) := by
  obtain ⟨f, fd, ps, cl, me, ok, b⟩ := h.ex
  refine PE.weak (pe_meth (E := E) ho cl me ok (hr.mono hk) b .nil pass0 ha hst hpl ht) fun σ H Q ⟨α, S, ρ, rp, re, q⟩ => ?_
  refine ⟨α, S, ρ, rp, re, Post.step q fun o S1 α1 H1 x _ st rp1 r1 q1 => ?_⟩
  split at q1
  · rename_i fs hi
    split at q1
    · rename_i hm
      obtain ⟨n, a, dx, vs, e1, e2, e3, e4, e5, e6⟩ := insOf_rep rp1 hi r1
      refine ⟨a, dx, vs, e3, e5, repF_none e6 hm, α1, S1, ρ, rp1, re.mono st, Post.step q1 fun ds S2 α2 H2 us ev st2 rp2 r2 q2 => ?_⟩
      rw [List.append_nil]
      exact ⟨α2, S2, o :: ds, rp2, .cons (repD_mono st2 _ _ r1) r2, by rw [List.length_cons, hl _ _ _ _ ev], q2⟩
    · exact q1.elim
  · exact q1.elim
theorem ze_meth0 {pl : Sem Bool} (h : MetZ X.prog X.w X.K X.mg X.base k c m 1 F) (hr : Room j X.A) (hk : k ≤ j) (ho : ZE X E o fo)
    (ht : eval (.Call (.Attribute o m apos) [] [] pos) X.env = (do
      let ov ← eval o X.env
      standAt apos.atName
      let (f, first) ← holding [ov] (getMethod ov m pl)
      callWith pos f first (backTo pos (starEach [] X.env)) (backToKw pos (keywordEach [] X.env))) := by rfl) :
    ZE X E (.Call (.Attribute o m apos) [] [] pos) (eMeth c m F fo aNil) := by
  obtain ⟨f, fd, ps, cl, me, ok, b⟩ := h.ex
  refine PE.weak (pe_meth0 (E := E) ho cl me ok (hr.mono hk) b .nil pass0 ht) fun σ H Q ⟨α, S, ρ, rp, re, q⟩ => ?_
  refine ⟨α, S, ρ, rp, re, Post.step q fun o S1 α1 H1 x _ st rp1 r1 q1 => ?_⟩
  split at q1
  · rename_i fs hi
    split at q1
    · rename_i hm
      obtain ⟨n, a, dx, vs, e1, e2, e3, e4, e5, e6⟩ := insOf_rep rp1 hi r1
      exact ⟨a, dx, vs, e3, e5, repF_none e6 hm, α1, S1, [o], rp1, .one r1, rfl, q1⟩
    · exact q1.elim
  · exact q1.elim
/-! ### C(..) -/
@[simp] def eMake (c : Str) (F : List D → M D) (g : Rho → M (List D)) : Rho → M D := fun ρ S => (g ρ S).bind fun ds S1 => (F (.ref S1.length :: ds) (S1 ++ [.ins c []])).bind fun v S2 => if isNon v = true then .val (.ref S1.length) S2 else .stuck
theorem make_post {K : PySem.W.Frag} {w : World} {α : Al} {H : Hp} {S : Sto} {ds : List D} {vs : List V} {Q : VK} {x dx : Addr} (rp : Rep K w α S H) (r : RepL K w α H ds vs) (h1 : H x = none) (h2 : H dx = none) (h3 : dx ≠ x) (hl : ds.length = n)
    (q : Post K w (RepD K w) E α H ((F (.ref S.length :: ds) (S ++ [.ins c []])).bind fun v S2 => if isNon v = true then .val (.ref S.length) S2 else .stuck) Q) :
    spZ K w (n + 1) F (.ref x :: vs) (upd (upd H dx (.own x)) x (.ins (He.ga K c) dx [])) (fun v H2 => v = .non ∧ Q (.ref x) H2) E := by
  have st1 : Stp α H α (upd H dx (.own x)) := stp_new rp.hd h2
  have rp1 : Rep K w α S (upd H dx (.own x)) := rp.new h2
  have hx : upd H dx (.own x) x = none := by rw [upd_ne (Ne.symm h3)]; exact h1
  have st2 := stp_cell (o := .ins (He.ga K c) dx []) rp1.hd hx
  have rp2 : Rep K w (α.add x) (S ++ [.ins c []]) (upd (upd H dx (.own x)) x (.ins (He.ga K c) dx [])) := rp1.newCell hx ⟨dx, [], upd_same, rfl⟩
  have hat : (α.add x).al[S.length]? = some x := by
    show (α.al ++ [x])[S.length]? = some x
    rw [← rp.len, List.getElem?_append_right (Nat.le_refl _), Nat.sub_self]; rfl
  refine ⟨α.add x, S ++ [.ins c []], .ref S.length :: ds, rp2, .cons (by unfold RepD; exact ⟨x, rfl, hat⟩) (repL_mono (st1.trans st2) _ _ r), by rw [List.length_cons, hl], ?_⟩
  refine Post.step (Post.mono (st1.trans st2) q) fun d S1 α1 H1 v _ st rp' r1 q1 => ?_
  split at q1
  · rename_i hn
    refine ⟨?_, q1.now rp' (by unfold RepD; exact ⟨x, rfl, st.at_ hat⟩)⟩
    have := isNon_rep r1
    rw [hn] at this
    exact of_decide_eq_true this
  · exact q1.elim
theorem ze_make (h : MakZ X.prog X.w X.K X.mg X.base k c (n + 1) F) (hr : Room j X.A) (hk : k + 1 ≤ j) (ha : ZA X E (e :: es) g) (hl : LenIs g n) (hg : Gl X c := by rfl)
    (hdb : (c == ("__debug__" : Str)) = false := by decide) (he : starEach (e :: es) X.env = (false, eval e X.env) :: starEach es X.env := by rfl) (hpl : (backTo pos (starEach es X.env)).any (·.1) = false := by rfl) :
    ZE X E (.Call (.Name c p) (e :: es) [] pos) (eMake c F g) := by
  obtain ⟨f, fd, ps, M, ok, hm, b⟩ := h.ex
  refine PE.weak (pe_make (E := E) M ok (hr.mono hk) hg hm b .nil pass0 ha hdb he hpl) fun σ H Q ⟨α, S, ρ, rp, re, q⟩ => ?_
  refine ⟨α, S, ρ, rp, re, Post.step q fun ds S1 α1 H1 vs ev st rp1 r1 q1 => ?_⟩
  rw [List.append_nil]
  exact fun x dx h1 h2 h3 => make_post rp1 r1 h1 h2 h3 (hl _ _ _ _ ev) q1
theorem ze_make0 (h : MakZ X.prog X.w X.K X.mg X.base k c 1 F) (hr : Room j X.A) (hk : k + 1 ≤ j) (hg : Gl X c := by rfl)
    (hdb : (c == ("__debug__" : Str)) = false := by decide) : ZE X E (.Call (.Name c p) [] [] pos) (eMake c F aNil) := by
  obtain ⟨f, fd, ps, M, ok, hm, b⟩ := h.ex
  refine PE.weak (pe_make0 (E := E) M ok (hr.mono hk) hg hm b .nil pass0 hdb) fun σ H Q ⟨α, S, ρ, rp, re, q⟩ => ?_
  exact fun x dx h1 h2 h3 => make_post (n := 0) rp RepL.nil h1 h2 h3 rfl q
end
end Z
set_option Elab.async false
set_option linter.all false
set_option maxRecDepth 100000
set_option maxHeartbeats 1000000
/-! Z13: built-in functions, types and methods. -/
namespace Z
open PySem L2 PySem.Spec PyProof.Rows
def BuS (X : Cx) (E : XK) (r : List V → Hp → VK → Prop) (op : List D → M D) : Prop :=
  ∀ (α : Al) (S : Sto) (H : Hp) (ds : List D) (vs : List V) (Q : VK), Rep X.K X.w α S H → RepL X.K X.w α H ds vs → Post X.K X.w (RepD X.K X.w) E α H (op ds S) Q → r vs H Q
section
variable {X : Cx} {E : XK} {x : Str} {p pos apos : Pos} {e o : Expr} {es : List Expr} {g : Rho → M (List D)} {f fo : Rho → M D} {id T : String} {r : List V → Hp → VK → Prop} {op : List D → M D}
theorem ze_blt (hc : CallR X (.builtin id) r) (hs : BuS X E r op) (hm : X.mg x = none) (hv : bootBuiltins x = some (.builtin id)) (ha : ZA X E (e :: es) g) (hg : Gl X x := by rfl) (hn : x ≠ "__name__" := by decide) (hdb : (x == ("__debug__" : Str)) = false := by decide)
    (he : starEach (e :: es) X.env = (false, eval e X.env) :: starEach es X.env := by rfl) (hpl : (backTo pos (starEach es X.env)).any (·.1) = false := by rfl) : ZE X E (.Call (.Name x p) (e :: es) [] pos) (eCall op g) :=
  PE.weak (pe_callB hc hg hm hv ha hn hdb he hpl) fun σ H Q ⟨α, S, ρ, rp, re, q⟩ => ⟨α, S, ρ, rp, re, Post.step q fun ds S1 α1 H1 vs _ st rp1 r1 q1 => hs α1 S1 H1 ds vs Q rp1 r1 q1⟩
theorem ze_bty (hc : CallR X (.type T) r) (hs : BuS X E r op) (hm : X.mg x = none) (hv : bootBuiltins x = some (.type T)) (ha : ZA X E (e :: es) g) (hg : Gl X x := by rfl) (hn : x ≠ "__name__" := by decide) (hdb : (x == ("__debug__" : Str)) = false := by decide)
    (he : starEach (e :: es) X.env = (false, eval e X.env) :: starEach es X.env := by rfl) (hpl : (backTo pos (starEach es X.env)).any (·.1) = false := by rfl) : ZE X E (.Call (.Name x p) (e :: es) [] pos) (eCall op g) :=
  PE.weak (pe_callTy hc hg hm hv ha hn hdb he hpl) fun σ H Q ⟨α, S, ρ, rp, re, q⟩ => ⟨α, S, ρ, rp, re, Post.step q fun ds S1 α1 H1 vs _ st rp1 r1 q1 => hs α1 S1 H1 ds vs Q rp1 r1 q1⟩
/-! ### len -/
/-- lists of any kind, tuples: what is in them -/
def seqA (S : Sto) (d : D) : Option (List D) := match d with
  | .tup ds => some ds
  | d => seqL S d
theorem seqA_rep {K : PySem.W.Frag} {w : World} {α : Al} {S : Sto} {H : Hp} {d : D} {v : V} {ds : List D} (rp : Rep K w α S H) (h : seqA S d = some ds) (r : RepD K w α H d v) : ∃ a vs, v = .ref a ∧ (SqL K H a vs ∨ SqT K H a vs) ∧ RepL K w α H ds vs := by
  cases d with
  | tup es =>
    cases h
    obtain ⟨a, vs, e, q, l⟩ := rep_tup r
    exact ⟨a, vs, e, .inr q, l⟩
  | _ =>
    unfold seqA at h
    obtain ⟨a, vs, e, q, l⟩ := seqL_rep rp h r
    exact ⟨a, vs, e, .inl q, l⟩
def lenD (S : Sto) (d : D) : Option Nat := match d with
  | .str x => if x.length ≤ sizeLine then some x.length else none
  | d => match seqA S d with
    | some ds => some ds.length
    | none => match dictOf S d with
      | some (ks, _) => some ks.length
      | none => none
def bLen : List D → M D := fun ds S => match ds with
  | [d] => (match lenD S d with
    | some n => .val (.int n) S
    | none => .stuck)
  | _ => .stuck
def rLenN (X : Cx) : List V → Hp → VK → Prop := fun vs H Q => ∃ a xs, vs = [.ref a] ∧ Rd H a (dHO X.w a xs) ∧ Q (.int ((xs.length : Nat) : Int)) H
theorem call_lenN : CallR X (.builtin "len") (rLenN X) := by
  intro pins s σ H xs us Q I r h
  obtain ⟨d, es, rfl, hp, q⟩ := h
  obtain ⟨u, rfl, rx⟩ := vals1 r
  obtain rfl : u = .ref d := rx
  obtain ⟨hz, hs, o, es', ep, ho, hx, hd, he, _⟩ := rd_dict I hp
  have hl : es'.size = es.length := by rw [← Array.length_toList, he, List.length_map]
  have hn := line63
  have hraw : s.heap.DictRaw d es' ep := ⟨o, ho, hx, hd⟩
  refine Calls.call_function_entry kind_len plain_len entry_len (args_len1 _) ?_
  unfold Builtin.«len»
  refine wpAny_bind (m := oneArg "len" _) (wpAny_pure ?_)
  refine wpAny_bind (m := callSpecial? (.ref d) (Str.ofString "__len__")) (wpAny_callSpecial?_slot (name := Str.ofString "__len__") hraw.typeIs F.slot_dict_len (call_len_raw hs hraw ?_))
  rw [hl]
  show wpAny _ _ _ _ _ { s with toks := s.toks + 1 }
  refine wpAny_bind (wpAny_holding (wpAny_pure ?_))
  refine wpAny_bind (wpAny_letGo ?_)
  show wpAny _ _ (if ((es.length : Nat) : Int) < 0 then _ else _) _ _ _
  rw [if_neg (by omega)]
  show wpAny _ _ (if ((es.length : Nat) : Int) ≥ 2 ^ 63 then _ else _) _ _ _
  rw [if_neg (by omega)]
  exact wpAny_bind (wpAny_mkInt (wpAny_pure ⟨_, rfl, ⟨.int ((es.length : Nat) : Int), H, I.tok _, ⟨_, rfl⟩, q⟩⟩))
def rLenZ (X : Cx) : List V → Hp → VK → Prop := fun xs H Q => (∃ p ys, xs = [.ref p] ∧ (SqL X.K H p ys ∨ SqT X.K H p ys) ∧ Q (.int ys.length) H) ∨ (∃ z, xs = [.str z] ∧ z.length ≤ sizeLine ∧ Q (.int z.length) H) ∨ rLenN X xs H Q
theorem cr_len : CallR X (.builtin "len") (rLenZ X) := call_len_seq.or (call_len_str.or call_lenN)
theorem repL1 {K : PySem.W.Frag} {w : World} {α : Al} {H : Hp} {d : D} {vs : List V} (r : RepL K w α H [d] vs) : ∃ v, vs = [v] ∧ RepD K w α H d v := by
  unfold RepL at r
  obtain ⟨v, r', e, h1, h2⟩ := r
  unfold RepL at h2
  subst h2
  exact ⟨v, e, h1⟩
theorem repL2 {K : PySem.W.Frag} {w : World} {α : Al} {H : Hp} {d d' : D} {vs : List V} (r : RepL K w α H [d, d'] vs) : ∃ v u, vs = [v, u] ∧ RepD K w α H d v ∧ RepD K w α H d' u := by
  unfold RepL at r
  obtain ⟨v, r', e, h1, h2⟩ := r
  obtain ⟨u, e2, h3⟩ := repL1 h2
  subst e2
  exact ⟨v, u, e, h1, h3⟩
theorem bs_len : BuS X E (rLenZ X) bLen := fun α S H ds vs Q rp r q => by
  unfold bLen at q
  split at q
  · rename_i d
    obtain ⟨v, rfl, r1⟩ := repL1 r
    split at q
    · rename_i n hn
      have q1 := q.now rp (repI (n : Int))
      unfold lenD at hn
      split at hn
      · split at hn
        · rename_i hz
          cases hn
          cases rep_str r1
          exact .inr (.inl ⟨_, rfl, hz, q1⟩)
        · cases hn
      · split at hn
        · rename_i ds hs
          cases hn
          obtain ⟨a, ws, rfl, h1, h2⟩ := seqA_rep rp hs r1
          exact .inl ⟨a, ws, rfl, h1, by rw [h2.length]; exact q1⟩
        · split at hn
          · rename_i ks ds hd
            cases hn
            obtain ⟨a, kv, ws, xs, rfl, g⟩ := dictOf_at rp hd r1
            exact .inr (.inr ⟨a, xs, rfl, g.rd, by rw [g.ent.len]; exact q1⟩)
          · cases hn
    · exact q.elim
  · exact q.elim
/-! ### tuple(x), list(x) -/
def bTuple : List D → M D := fun ds S => match ds with
  | [d] => (match d with
    | .tup es => .val (.tup es) S
    | d => match seqL S d with
      | some es => .val (.tup es) S
      | none => .stuck)
  | _ => .stuck
/-- list(x): as a value, as a cell -/
def bList : List D → M D := fun ds S => match ds with
  | [d] => (match seqA S d with
    | some es => .val (.lst es) S
    | none => .stuck)
  | _ => .stuck
def bListC : List D → M D := fun ds S => match ds with
  | [d] => (match seqA S d with
    | some es => .val (.ref S.length) (S ++ [.lst es])
    | none => .stuck)
  | _ => .stuck
def rTupleZ (K : PySem.W.Frag) : List V → Hp → VK → Prop := fun xs H Q => ∃ p ys, xs = [.ref p] ∧ ((SqL K H p ys ∧ ∀ l, H l = none → Q (.ref l) (upd H l (.tup ys))) ∨ (SqT K H p ys ∧ Q (.ref p) H))
def rListZ (K : PySem.W.Frag) : List V → Hp → VK → Prop := fun xs H Q => ∃ p ys, xs = [.ref p] ∧ (SqL K H p ys ∨ SqT K H p ys) ∧ ∀ l, H l = none → Q (.ref l) (upd H l (.lst ys))
theorem cr_tuple : CallR X (.type "tuple") (rTupleZ X.K) := call_tuple_of
theorem cr_list : CallR X (.type "list") (rListZ X.K) := call_list_of
theorem bs_tuple : BuS X E (rTupleZ X.K) bTuple := fun α S H ds vs Q rp r q => by
  unfold bTuple at q
  split at q
  · rename_i d
    obtain ⟨v, rfl, r1⟩ := repL1 r
    split at q
    · rename_i es
      obtain ⟨a, ws, rfl, h1, h2⟩ := rep_tup r1
      exact ⟨a, ws, rfl, .inr ⟨h1, q.now rp r1⟩⟩
    · split at q
      · rename_i es hs
        obtain ⟨a, ws, rfl, h1, h2⟩ := seqL_rep rp hs r1
        exact ⟨a, ws, rfl, .inl ⟨h1, fun l hl => post_tup rp h2 q hl⟩⟩
      · exact q.elim
  · exact q.elim
theorem bs_list : BuS X E (rListZ X.K) bList := fun α S H ds vs Q rp r q => by
  unfold bList at q
  split at q
  · obtain ⟨v, rfl, r1⟩ := repL1 r
    split at q
    · rename_i es hs
      obtain ⟨a, ws, rfl, h1, h2⟩ := seqA_rep rp hs r1
      exact ⟨a, ws, rfl, h1, fun l hl => post_lst rp h2 q hl⟩
    · exact q.elim
  · exact q.elim
theorem bs_listC : BuS X E (rListZ X.K) bListC := fun α S H ds vs Q rp r q => by
  unfold bListC at q
  split at q
  · obtain ⟨v, rfl, r1⟩ := repL1 r
    split at q
    · rename_i es hs
      obtain ⟨a, ws, rfl, h1, h2⟩ := seqA_rep rp hs r1
      exact ⟨a, ws, rfl, h1, fun l hl => post_cell rp h2 q hl⟩
    · exact q.elim
  · exact q.elim
/-! ### all, any -/
def bls : List D → Option (List Bool)
  | [] => some []
  | .bl b :: r => (bls r).map (b :: ·)
  | _ => none
theorem bls_map : ∀ {ds : List D} {bs : List Bool}, bls ds = some bs → ds = bs.map D.bl
  | [], bs, h => by cases h; rfl
  | d :: r, bs, h => by
    cases d with
    | bl b =>
      unfold bls at h
      cases e : bls r with
      | none => rw [e] at h; cases h
      | some cs => rw [e] at h; cases h; rw [bls_map e]; rfl
    | _ => cases h
theorem bls_of (bs : List Bool) : bls (bs.map D.bl) = some bs := by
  induction bs with
  | nil => rfl
  | cons b r ih => show (bls (r.map D.bl)).map (b :: ·) = _; rw [ih]; rfl
def bAll : List D → M D := fun ds S => match ds with
  | [d] => (match seqL S d with
    | some es => (match bls es with
      | some bs => .val (.bl (bs.all _root_.id)) S
      | none => .stuck)
    | none => .stuck)
  | _ => .stuck
def bAny : List D → M D := fun ds S => match ds with
  | [d] => (match seqL S d with
    | some es => (match bls es with
      | some bs => .val (.bl (bs.any _root_.id)) S
      | none => .stuck)
    | none => .stuck)
  | _ => .stuck
theorem bs_all : BuS X E (rAll X.K) bAll := fun α S H ds vs Q rp r q => by
  unfold bAll at q
  split at q
  · obtain ⟨v, rfl, r1⟩ := repL1 r
    split at q
    · rename_i es hs
      split at q
      · rename_i bs hb
        obtain ⟨a, ws, rfl, h1, h2⟩ := seqL_rep rp hs r1
        rw [bls_map hb] at h2
        exact ⟨a, bs, rfl, by rw [← h2.bls]; exact h1, q.now rp (repB _)⟩
      · exact q.elim
    · exact q.elim
  · exact q.elim
theorem bs_any : BuS X E (rAny X.K) bAny := fun α S H ds vs Q rp r q => by
  unfold bAny at q
  split at q
  · obtain ⟨v, rfl, r1⟩ := repL1 r
    split at q
    · rename_i es hs
      split at q
      · rename_i bs hb
        obtain ⟨a, ws, rfl, h1, h2⟩ := seqL_rep rp hs r1
        rw [bls_map hb] at h2
        exact ⟨a, bs, rfl, by rw [← h2.bls]; exact h1, q.now rp (repB _)⟩
      · exact q.elim
    · exact q.elim
  · exact q.elim
/-! ### int, abs, repr -/
def bInt : List D → M D := fun ds S => match ds with
  | [.int i] => .val (.int i) S
  | [.bl k] => .val (.int (if k then 1 else 0)) S
  | _ => .stuck
def rInt1 : List V → Hp → VK → Prop := fun xs H Q => (∃ i, xs = [.int i] ∧ Q (.int i) H) ∨ ∃ k, xs = [.bl k] ∧ Q (.int (if k then 1 else 0)) H
theorem cr_int : CallR X (.type "int") rInt1 := call_int1
theorem bs_int : BuS X E rInt1 bInt := fun α S H ds vs Q rp r q => by
  unfold bInt at q
  split at q
  · obtain ⟨v, rfl, r1⟩ := repL1 r
    cases rep_int r1
    exact .inl ⟨_, rfl, q.now rp (repI _)⟩
  · obtain ⟨v, rfl, r1⟩ := repL1 r
    cases rep_bl r1
    exact .inr ⟨_, rfl, q.now rp (repI _)⟩
  · exact q.elim
def bAbs : List D → M D := fun ds S => match ds with
  | [.int i] => .val (.int (if i < 0 then -i else i)) S
  | _ => .stuck
def rAbs1 : List V → Hp → VK → Prop := fun xs H Q => ∃ i, xs = [.int i] ∧ Q (.int (if i < 0 then -i else i)) H
theorem cr_abs : CallR X (.builtin "abs") rAbs1 := call_abs
theorem bs_abs : BuS X E rAbs1 bAbs := fun α S H ds vs Q rp r q => by
  unfold bAbs at q
  split at q
  · obtain ⟨v, rfl, r1⟩ := repL1 r
    cases rep_int r1
    exact ⟨_, rfl, q.now rp (repI _)⟩
  · exact q.elim
def bRepr : List D → M D := fun ds S => match ds with
  | [.non] => .val (.str "None") S
  | [.str x] => if (reprText x).length ≤ sizeLine then .val (.str (reprText x)) S else .stuck
  | [.bl b] => .val (.str (if b then "True" else "False")) S
  | _ => .stuck
def rReprZ : List V → Hp → VK → Prop := fun xs H Q => (xs = [.non] ∧ Q (.str "None") H) ∨ (∃ x, xs = [.str x] ∧ (reprText x).length ≤ sizeLine ∧ Q (.str (reprText x)) H) ∨ ∃ b : Bool, xs = [.bl b] ∧ Q (.str (if b then "True" else "False")) H
theorem cr_repr : CallR X (.builtin "repr") rReprZ := by
  intro pins s σ H xs us Q I r h
  rcases h with ⟨rfl, q⟩ | ⟨x, rfl, hz, q⟩ | ⟨b, rfl, q⟩
  · obtain ⟨u, rfl, rx⟩ := vals1 r
    cases rx
    exact PySem.P.repr_of_none ⟨.str _, H, I.tok _, ⟨_, rfl⟩, q⟩
  · obtain ⟨u, rfl, t, rfl⟩ := vals1 r
    exact PySem.P.repr_of_str ⟨.str _, H, I.tok _, ⟨_, rfl⟩, q⟩ hz
  · obtain ⟨u, rfl, rx⟩ := vals1 r
    cases rx
    exact PySem.P.repr_of_bool ⟨.str _, H, I.tok _, ⟨_, rfl⟩, q⟩
theorem bs_repr : BuS X E rReprZ bRepr := fun α S H ds vs Q rp r q => by
  unfold bRepr at q
  split at q
  · obtain ⟨v, rfl, r1⟩ := repL1 r
    cases rep_non r1
    exact .inl ⟨rfl, q.now rp (repS _)⟩
  · split at q
    · rename_i hz
      obtain ⟨v, rfl, r1⟩ := repL1 r
      cases rep_str r1
      exact .inr (.inl ⟨_, rfl, hz, q.now rp (repS _)⟩)
    · exact q.elim
  · obtain ⟨v, rfl, r1⟩ := repL1 r
    cases rep_bl r1
    exact .inr (.inr ⟨_, rfl, q.now rp (repS _)⟩)
  · exact q.elim
/-! ### isinstance -/
def tyNm (S : Sto) : D → Option String
  | .non => some "NoneType"
  | .bl _ => some "bool"
  | .int _ => some "int"
  | .str _ => some "str"
  | .tup _ => some "tuple"
  | .lst _ => some "list"
  | .wl _ => some "list"
  | .dic _ _ => none
  | .ref n => (match S[n]? with
    | some (.lst _) => some "list"
    | _ => none)
def tys0 : List String := ["NoneType", "bool", "int", "str", "tuple", "list", "dict"]
/-- of that type -/
def subTy (a b : String) : Bool := decide (a = b) || (decide (a = "bool") && decide (b = "int"))
theorem subTy_ok : ∀ a ∈ tys0, ∀ b ∈ tys0, kitB a b = some (subTy a b) := by decide +kernel
def isTy (S : Sto) (ts : List String) (d : D) : Option Bool := match tyNm S d with
  | some a => some (ts.any (subTy a))
  | none => none
theorem tyNm_mem {S : Sto} {d : D} {a : String} (h : tyNm S d = some a) : a ∈ tys0 := by
  cases d with
  | ref n =>
    cases hs : S[n]? with
    | none => simp [tyNm, hs] at h
    | some c =>
      cases c with
      | lst ds => simp only [tyNm, hs] at h; cases h; decide
      | dic lk ks ds => simp [tyNm, hs] at h
      | ins c fs => simp [tyNm, hs] at h
  | dic _ _ => cases h
  | _ => cases h; decide
theorem tyNm_rep {K : PySem.W.Frag} {w : World} {α : Al} {S : Sto} {H : Hp} {d : D} {v : V} {a : String} (rp : Rep K w α S H) (h : tyNm S d = some a) (r : RepD K w α H d v) : TyX K H v (.type a) := by
  cases d with
  | non => cases h; cases rep_non r; exact .base .non
  | bl b => cases h; cases rep_bl r; exact .base (.bl _)
  | int i => cases h; cases rep_int r; exact .base (.int _)
  | str x => cases h; cases rep_str r; exact .base (.str _)
  | tup ds =>
    cases h
    obtain ⟨b, vs, rfl, q, _⟩ := rep_tup r
    rcases q with (q | ⟨o, q⟩) | ⟨o, its, n, h1, h2, _⟩
    · exact .base (.tup q)
    · exact .fTuple q
    · exact .kTuple h1 h2
  | lst ds =>
    cases h
    unfold RepD at r
    obtain ⟨b, vs, rfl, _, q, _⟩ := r
    exact .base (.lst q)
  | wl ds =>
    cases h
    unfold RepD at r
    obtain ⟨b, vs, rfl, q, _⟩ := r
    rcases q with ⟨_, q | ⟨o, q⟩⟩ | ⟨o, its, n, h1, h2, _⟩
    · exact .base (.lst q)
    · exact .base (.frz q)
    · exact .kList h1 h2
  | dic _ _ => cases h
  | ref n =>
    cases hs : S[n]? with
    | none => simp [tyNm, hs] at h
    | some c =>
      cases c with
      | lst ds =>
        simp only [tyNm, hs] at h
        cases h
        unfold RepD at r
        obtain ⟨b, rfl, hb⟩ := r
        obtain ⟨vs, q, _⟩ := rp.cell n _ b hs hb
        exact .base (.lst q)
      | dic lk ks ds => simp [tyNm, hs] at h
      | ins c fs => simp [tyNm, hs] at h
@[simp] def eIsi (ts : List String) (f : Rho → M D) : Rho → M D := fun ρ S => (f ρ S).bind fun d S1 => match isTy S1 ts d with
  | some b => .val (.bl b) S1
  | none => .stuck
theorem pe_tyn {x : Str} (hm : X.mg x = none) (hv : bootBuiltins x = some (.type T)) (hg : Gl X x := by rfl) (hn : x ≠ "__name__" := by decide) (hdb : (x == ("__debug__" : Str)) = false := by decide) : PE X (.Name x pos) (tC (.ty T)) :=
  ⟨fun pins s σ H Q I h => ld_blt I hg hm hv ⟨.ty T, H, I, rfl, h⟩ hn hdb⟩
def tTys (ts : List String) : TA := fun _ H Q => Q (ts.map V.ty) H
theorem pa_tynil : PA X [] (tTys []) := PA.weak pa_nil fun σ H Q q => q
theorem pa_tycons {ts : List String} (h1 : PE X e (tC (.ty T))) (h2 : PA X es (tTys ts)) (hs : starEach (e :: es) X.env = (false, eval e X.env) :: starEach es X.env := by rfl) : PA X (e :: es) (tTys (T :: ts)) :=
  PA.weak (pa_cons h1 h2 hs) fun σ H Q q => q
theorem kit_tys {K : PySem.W.Frag} {a : String} (ha : a ∈ tys0) : ∀ {ts : List String}, (∀ t ∈ ts, t ∈ tys0) → PySem.W.kitAny K (.type a) (ts.map Value.type) = some (ts.any (subTy a))
  | [], _ => kitAny_nil
  | t :: ts, h => by
    have e := kit_ty (K := K) (subTy_ok a ha t (h t List.mem_cons_self))
    refine kitAny_cons e (fun z => ?_) fun z => ?_
    · rw [List.any_cons, z, Bool.false_or]
      exact kit_tys ha fun u hu => h u (List.mem_cons_of_mem _ hu)
    · rw [List.any_cons, z, Bool.true_or]
theorem paired_tys : ∀ ts : List String, Paired ClsV (ts.map V.ty) (ts.map Value.type)
  | [] => .nil
  | t :: ts => .cons (.ty t) (paired_tys ts)
theorem ze_isi1 {e2 : Expr} (hm : X.mg "isinstance" = none) (h1 : ZE X E e f) (h2 : PE X e2 (tC (.ty T))) (hT : T ∈ tys0 := by decide) (hg : Gl X "isinstance" := by rfl)
    (he : starEach [e, e2] X.env = (false, eval e X.env) :: starEach [e2] X.env := by rfl) (he2 : starEach [e2] X.env = [(false, eval e2 X.env)] := by rfl) (hpl : (backTo pos (starEach [e2] X.env)).any (·.1) = false := by rfl) :
    ZE X E (.Call (.Name "isinstance" p) [e, e2] [] pos) (eIsi [T] f) :=
  PE.weak (pe_callB call_isi hg hm PyProof.Rows.boot_isinstance (pa_cons h1 (pa_cons h2 pa_nil he2) he) (by decide) (by decide) he hpl) fun σ H Q ⟨α, S, ρ, rp, re, q⟩ => by
    refine ⟨α, S, ρ, rp, re, Post.step q fun d S1 α1 H1 v _ st rp1 r1 q1 => ?_⟩
    unfold isTy at q1
    split at q1
    · rename_i b hb
      split at hb
      · rename_i a ha
        cases hb
        have k := kit_ty (K := X.K) (subTy_ok a (tyNm_mem ha) T hT)
        refine ⟨v, .ty T, .type a, .type T, _, rfl, .ty T, tyNm_rep rp1 ha r1, k, ?_⟩
        have q2 := q1.now rp1 (repB _)
        simpa using q2
      · cases hb
    · exact q1.elim
theorem ze_isiT {ts : List String} {kk : Nat} {p2 : Pos} (hm : X.mg "isinstance" = none) (h1 : ZE X E e f) (h2 : PA X es (tTys ts)) (hT : ∀ t ∈ ts, t ∈ tys0 := by decide) (hn : ts.length ≤ 100000 := by decide) (hg : Gl X "isinstance" := by rfl)
    (he : starEach [e, .Tuple es kk p2] X.env = (false, eval e X.env) :: starEach [.Tuple es kk p2] X.env := by rfl) (he2 : starEach [.Tuple es kk p2] X.env = [(false, eval (.Tuple es kk p2) X.env)] := by rfl) (hpl : (backTo pos (starEach [.Tuple es kk p2] X.env)).any (·.1) = false := by rfl) :
    ZE X E (.Call (.Name "isinstance" p) [e, .Tuple es kk p2] [] pos) (eIsi ts f) :=
  PE.weak (pe_callB call_isiT hg hm PyProof.Rows.boot_isinstance (pa_cons h1 (pa_cons (pe_tup h2) pa_nil he2) he) (by decide) (by decide) he hpl) fun σ H Q ⟨α, S, ρ, rp, re, q⟩ => by
    refine ⟨α, S, ρ, rp, re, Post.step q fun d S1 α1 H1 v _ st rp1 r1 q1 => ?_⟩
    unfold isTy at q1
    split at q1
    · rename_i b hb
      split at hb
      · rename_i a ha
        cases hb
        refine ⟨small_sz (by rw [List.length_map]; exact hn), fun tp htp => ?_⟩
        have st2 : Stp α1 H1 α1 (upd H1 tp (.tup (ts.map V.ty))) := stp_new rp1.hd htp
        have rp2 : Rep X.K X.w α1 S1 (upd H1 tp (.tup (ts.map V.ty))) := rp1.new htp
        refine ⟨v, tp, _, .type a, _, _, rfl, upd_same, paired_tys ts, tyNm_rep rp2 ha (repD_mono st2 _ _ r1), kit_tys (tyNm_mem ha) hT, ?_⟩
        exact (Post.mono st2 q1).now rp2 (repB _)
      · cases hb
    · exact q1.elim
/-! ### methods -/
def MeS (X : Cx) (E : XK) (ok : Sto → D → Bool) (ty : V → Hp → Prop) (r : V → List V → Hp → VK → Prop) (op : D → List D → M D) : Prop :=
  (∀ (α : Al) (S : Sto) (H : Hp) (d : D) (x : V), Rep X.K X.w α S H → ok S d = true → RepD X.K X.w α H d x → ty x H) ∧
  ∀ (α : Al) (S : Sto) (H : Hp) (d : D) (ds : List D) (x : V) (vs : List V) (Q : VK), Rep X.K X.w α S H → RepD X.K X.w α H d x → RepL X.K X.w α H ds vs → Post X.K X.w (RepD X.K X.w) E α H (op d ds S) Q → r x vs H Q
@[simp] def eMth (ok : Sto → D → Bool) (op : D → List D → M D) (fo : Rho → M D) (g : Rho → M (List D)) : Rho → M D := fun ρ S => (fo ρ S).bind fun o S1 => if ok S1 o = true then (g ρ S1).bind fun ds S2 => op o ds S2 else .stuck
section
variable {ok : Sto → D → Bool} {mr : V → List V → Hp → VK → Prop} {mop : D → List D → M D} {name : Str} {ty : V → Hp → Prop} {cpos : Pos}
theorem ze_mb (hs : MeS X E ok (tyV X.K T) mr mop) (pa : PlainAttrs T) (slot : Slot T name id) (hty : typeOf (.builtin id) = pure (.type "method_descriptor")) (hm : MtR X id mr) (ho : ZE X E o fo) (ha : ZA X E (e :: es) g)
    (hbase : attributeBase o name X.env (eval o X.env) = eval o X.env := by rfl)
    (hfew : ((backTo cpos (starEach (e :: es) X.env)).all (fun x => !x.1) && (backToKw cpos (keywordEach [] X.env)).all (fun x => x.1.isSome)
      && decide ((e :: es).length + ([] : List Keyword).length + (if ([] : List Keyword).isEmpty then 0 else 1) < 30)) = true := by rfl)
    (hline : (apos.endLine == cpos.line) = true := by rfl) (hst : starEach (e :: es) X.env = (false, eval e X.env) :: starEach es X.env := by rfl) (hplain : (backTo cpos (starEach es X.env)).any (·.1) = false := by rfl) :
    ZE X E (.Call (.Attribute o name apos) (e :: es) [] cpos) (eMth ok mop fo g) := PE.weak (pe_bm pa slot hty hm ho ha hbase hfew hline hst hplain) fun σ H Q ⟨α, S, ρ, rp, re, q⟩ => by
  refine ⟨α, S, ρ, rp, re, Post.step q fun d S1 α1 H1 v _ st rp1 r1 q1 => ?_⟩
  split at q1
  · rename_i hok
    refine ⟨hs.1 α1 S1 H1 d v rp1 hok r1, α1, S1, ρ, rp1, re.mono st, Post.step q1 fun ds S2 α2 H2 vs _ st2 rp2 r2 q2 => ?_⟩
    exact hs.2 α2 S2 H2 d ds v vs Q rp2 (repD_mono st2 _ _ r1) r2 q2
  · exact q1.elim
theorem ze_mb0 (hs : MeS X E ok (tyV X.K T) mr mop) (pa : PlainAttrs T) (slot : Slot T name id) (hty : typeOf (.builtin id) = pure (.type "method_descriptor")) (hm : MtR X id mr) (ho : ZE X E o fo)
    (hbase : attributeBase o name X.env (eval o X.env) = eval o X.env := by rfl) (hline : (apos.endLine == cpos.line) = true := by rfl) : ZE X E (.Call (.Attribute o name apos) [] [] cpos) (eMth ok mop fo aNil) :=
  PE.weak (pe_bm0 pa slot hty hm ho hbase hline) fun σ H Q ⟨α, S, ρ, rp, re, q⟩ => by
    refine ⟨α, S, ρ, rp, re, Post.step q fun d S1 α1 H1 v _ st rp1 r1 q1 => ?_⟩
    split at q1
    · rename_i hok
      exact ⟨hs.1 α1 S1 H1 d v rp1 hok r1, hs.2 α1 S1 H1 d [] v [] Q rp1 r1 .nil q1⟩
    · exact q1.elim
theorem ze_mg (ht : TyOk X T ty) (hs : MeS X E ok ty mr mop) (pa : PlainAttrs T) (slot : Slot T name id) (hty : typeOf (.builtin id) = pure (.type "method_descriptor")) (hm : MtR X id mr) (ho : ZE X E o fo) (ha : ZA X E (e :: es) g)
    (hbase : attributeBase o name X.env (eval o X.env) = eval o X.env := by rfl)
    (hfew : ((backTo cpos (starEach (e :: es) X.env)).all (fun x => !x.1) && (backToKw cpos (keywordEach [] X.env)).all (fun x => x.1.isSome)
      && decide ((e :: es).length + ([] : List Keyword).length + (if ([] : List Keyword).isEmpty then 0 else 1) < 30)) = true := by rfl)
    (hline : (apos.endLine == cpos.line) = true := by rfl) (hst : starEach (e :: es) X.env = (false, eval e X.env) :: starEach es X.env := by rfl) (hplain : (backTo cpos (starEach es X.env)).any (·.1) = false := by rfl) :
    ZE X E (.Call (.Attribute o name apos) (e :: es) [] cpos) (eMth ok mop fo g) := PE.weak (pe_mG ht pa slot hty hm ho ha hbase hfew hline hst hplain) fun σ H Q ⟨α, S, ρ, rp, re, q⟩ => by
  refine ⟨α, S, ρ, rp, re, Post.step q fun d S1 α1 H1 v _ st rp1 r1 q1 => ?_⟩
  split at q1
  · rename_i hok
    refine ⟨hs.1 α1 S1 H1 d v rp1 hok r1, α1, S1, ρ, rp1, re.mono st, Post.step q1 fun ds S2 α2 H2 vs _ st2 rp2 r2 q2 => ?_⟩
    exact hs.2 α2 S2 H2 d ds v vs Q rp2 (repD_mono st2 _ _ r1) r2 q2
  · exact q1.elim
end
end
end Z
set_option Elab.async false
set_option linter.all false
set_option maxRecDepth 100000
set_option maxHeartbeats 1000000
/-! Z14: comprehensions that gather into a dict (keys of any kind) or a set. -/
namespace Z
open PySem L2 PySem.Spec PyProof.Rows
noncomputable def compG {γ : Type} (ok : Sto → Prop) (g : D → Rho → M Rho) (t : Rho → M Bool) (b : Rho → γ → M γ) (ρ : Rho) : List D → γ → M γ
  | [], acc => guard ok fun S => .val acc S
  | d :: ds, acc => guard ok fun S => (noX (g d ρ) S).bind fun ρ1 S1 => (noX (t ρ1) S1).bind fun q S2 =>
    if q = true then (noX (b ρ1 acc) S2).bind fun acc' S3 => compG ok g t b ρ ds acc' S3 else compG ok g t b ρ ds acc S2
@[simp] noncomputable def eGath {γ β : Type} (f : Rho → M Src) (own : List Nat) (g : D → Rho → M Rho) (t : Rho → M Bool) (b : Rho → γ → M γ) (acc0 : γ) (fin : γ → M β) : Rho → M β := fun ρ S => (f ρ S).bind fun s S1 =>
  if s.items.length ≤ sizeLine then (compG s.ok g t b (wipeR ρ own) s.items acc0 S1).bind fin else .stuck
theorem compG_ok {γ : Type} {ok : Sto → Prop} {g : D → Rho → M Rho} {t : Rho → M Bool} {b : Rho → γ → M γ} {ρ : Rho} {ds : List D} {acc : γ} {S : Sto} (h : compG ok g t b ρ ds acc S ≠ .stuck) : ok S := by
  refine Classical.byContradiction fun n => h ?_
  cases ds with
  | nil => unfold compG; exact guard_no n
  | cons d ds => unfold compG; exact guard_no n
theorem compG_nil {γ : Type} {ok : Sto → Prop} {g : D → Rho → M Rho} {t : Rho → M Bool} {b : Rho → γ → M γ} {ρ : Rho} {acc : γ} : compG ok g t b ρ [] acc = guard ok fun S => .val acc S := by
  conv => lhs; unfold compG
theorem compG_cons {γ : Type} {ok : Sto → Prop} {g : D → Rho → M Rho} {t : Rho → M Bool} {b : Rho → γ → M γ} {ρ : Rho} {d : D} {ds : List D} {acc : γ} : compG ok g t b ρ (d :: ds) acc = guard ok fun S => (noX (g d ρ) S).bind fun ρ1 S1 => (noX (t ρ1) S1).bind fun q S2 =>
    if q = true then (noX (b ρ1 acc) S2).bind fun acc' S3 => compG ok g t b ρ ds acc' S3 else compG ok g t b ρ ds acc S2 := by
  conv => lhs; unfold compG
/-- what stands at the gatherer -/
abbrev RAx (γ : Type) := Al → Hp → Addr → γ → Prop
/-- a turn's last part B, by b -/
def BS {γ : Type} (X : Cx) (RA : RAx γ) (b : Rho → γ → M γ) (B : Env → Addr → (Shared → Prop) → (Value → Shared → Prop) → Shared → Prop) : Prop :=
  ∀ (pins : List (Addr × Obj)) (s : Shared) (σ : L2.St) (H : Hp) (α : Al) (S S' : Sto) (ρ : Rho) (Dd : Addr) (acc acc' : γ) (Nx : Hp → Prop) (E : Value → Shared → Prop), Inv X pins σ H s → Rep X.K X.w α S H → RepE X.K X.w α H ρ σ → Dd ∈ α.hid → RA α H Dd acc → b ρ acc S = .val acc' S' →
    (∀ α' H1 o, Stp α H α' H1 → Rep X.K X.w α' S' (upd H1 Dd o) → RA α' (upd H1 Dd o) Dd acc' → Nx (upd H1 Dd o)) → B X.env Dd (fun s' => ∃ H', Inv X pins σ H' s' ∧ Nx H') E s
/-- a reading by any relation -/
def liftR {β : Type} (K : PySem.W.Frag) (w : World) (RO : Al → Hp → β → V → Prop) (E : XK) (f : Rho → M β) : TE := fun σ H Q => ∃ α S ρ, Rep K w α S H ∧ RepE K w α H ρ σ ∧ Post K w RO E α H (f ρ S) Q
def FinG {γ β : Type} (K : PySem.W.Frag) (w : World) (RA : RAx γ) (RO : Al → Hp → β → V → Prop) (fin : γ → M β) : Prop := ∀ (E : XK) (α0 α : Al) (H0 H : Hp) (S : Sto) (a : Addr) (acc : γ) (Q : VK), Stp α0 H0 α H → H0 a = none → (∀ b ∈ α0.hid, H0 b ≠ none) → a ∈ α.hid → a ∉ α.al → Rep K w α S H → RA α H a acc →
  Post K w RO E α0 H0 (fin acc S) Q → Q (.ref a) H
section
variable {X : Cx} {E : XK} {γ β : Type} {RO : Al → Hp → β → V → Prop} {pos' : Pos} {ex tg iter : Expr} {ifs : List Expr} {scope : Scope} {own : List (Str × Nat)} {f : Rho → M Src} {g : D → Rho → M Rho} {t : Rho → M Bool} {b : Rho → γ → M γ} {RA : RAx γ} {fin : γ → M β} {acc0 : γ} {ho : Addr → HO} {fresh : Sem Value}
  {B : Env → Addr → (Shared → Prop) → (Value → Shared → Prop) → Shared → Prop}
theorem gath (hev : eval ex X.env = comprehension ex scope X.env pos' fresh false (eval iter X.env) none) (hcl : clausesOf ex = [⟨tg, iter, ifs, 0⟩])
    (hnew : ∀ (pins : List (Addr × Obj)) (σ : L2.St) (H : Hp) (s : Shared) (Q E' : Value → Shared → Prop), Inv X pins σ H s → (∀ ob, Inv X pins σ (upd H s.heap.objs.size (ho s.heap.objs.size)) { s with heap := s.heap.push ob } → Q (.ref s.heap.objs.size) { s with heap := s.heap.push ob }) → wpAny (model X.prog X.w) X.A fresh Q E' s)
    (hloop : ∀ (R : Result → Shared → Prop) (s : Shared) (it : Value) (Dd : Addr) (env : Env) (J : Nat → Shared → Prop),
      (∀ n s, J n s → wpAny (model X.prog X.w) X.A (pyNext it) (fun r s1 => match r with
        | none => R (.ok .next) s1
        | some v => wpAny (model X.prog X.w) X.A (letOwnedTupleGo tg it v) (fun _ s2 => wpAny (model X.prog X.w) X.A (assign tg env v) (fun _ s3 =>
            wpAny (model X.prog X.w) X.A (forIn ifs true fun c r => if r = true then do let ok ← isTrue c env (eval c env); pure (ForInStep.yield ok) else pure (ForInStep.yield r)) (fun ok s4 =>
              if ok = true then B env Dd (fun s' => ∃ m, m < n ∧ J m s') (notedBy (model X.prog X.w) X.A env fun e s' => R (.error e) s') s4
              else ∃ m, m < n ∧ J m s4) (notedBy (model X.prog X.w) X.A env fun e s' => R (.error e) s') s3) (notedBy (model X.prog X.w) X.A env fun e s' => R (.error e) s') s2) (notedBy (model X.prog X.w) X.A env fun e s' => R (.error e) s') s1) (notedBy (model X.prog X.w) X.A env fun e s' => R (.error e) s') s) →
      ∀ n, J n s → codeAny (model X.prog X.w) X.A (.compLoop ex 0 it (.ref Dd) env) R s)
    (hstart : ∀ (R : Result → Shared → Prop) (s : Shared) (it : Value) (Dd : Addr) (env : Env), codeAny (model X.prog X.w) X.A (.compLoop ex 0 it (.ref Dd) env) R s →
      wpAny (model X.prog X.w) X.A (pyIter it) (fun it' s' => codeAny (model X.prog X.w) X.A (.compLoop ex 0 it' (.ref Dd) env) R s') (notedBy (model X.prog X.w) X.A env fun x s' => R (.error x) s') s →
      codeAny (model X.prog X.w) X.A (.compStart ex 0 it (.ref Dd) env) R s)
    (hBm : ∀ env Dd (P P' : Shared → Prop) E' s, B env Dd P E' s → (∀ s', P s' → P' s') → B env Dd P' E' s)
    (h0 : ∀ (α : Al) (H : Hp) (Dd : Addr), H Dd = none → RA (α.hide Dd) (upd H Dd (ho Dd)) Dd acc0)
    (hkeep : ∀ (α : Al) (H : Hp) (α' : Al) (H' : Hp) (Dd : Addr) (acc : γ), Stp α H α' H' → H' Dd = H Dd → RA α H Dd acc → RA α' H' Dd acc)
    (hf : FinG X.K X.w RA RO fin)
    (hc : X.calm = true) (hN : X.N.Nodup) (hi : ZI X E tg iter f) (ok : BlkOk X.N X.env.scope scope own)
    (hg : ∀ (s : Shared) (H : Hp) (C : Addr) (cl : List (Str × Addr)) (fp : List Addr), ZGw (X.blk s H scope (compEnvC scope cl C X.env) fp) E0 (own.map (·.2)) tg g)
    (ht : ∀ (s : Shared) (H : Hp) (C : Addr) (cl : List (Str × Addr)) (fp : List Addr), ZTs (X.blk s H scope (compEnvC scope cl C X.env) fp) E0 ifs t)
    (hb : ∀ (s : Shared) (H : Hp) (C : Addr) (cl : List (Str × Addr)) (fp : List Addr), BS (X.blk s H scope (compEnvC scope cl C X.env) fp) RA b B) (hs : ∀ x, foldedSetIterable iter X.env x = pure x) :
    PE X ex (liftR X.K X.w RO E (eGath f (own.map (·.2)) g t b acc0 fin)) := by
  refine ⟨fun pins s σ H Q I h => ?_⟩
  obtain ⟨α, S, ρ, rp, re, q⟩ := h
  rw [hev]
  have hclo : ∀ y ∈ scope.names, y.2 = .free → ∃ c, X.env.cells.lookup y.1 = some c := fun y hy e => I.ok.has _ (ok.free y hy e)
  -- what is walked
  cases hfs : f ρ S with
  | stuck =>
    unfold eGath at q
    rw [hfs] at q
    exact q.elim
  | exc c p S' =>
    unfold eGath at q
    rw [hfs] at q
    refine wpAny_comprehension_free hcl hs (closure_ok hclo) ok.kind (fun y hy e => by rw [ok.uniq y hy, e]) (thn (hi.run pins s σ H (fun _ _ => False) I ⟨α, S, ρ, rp, re, by rw [hfs]; exact q⟩) fun xv s1 hx => thn hx fun itv s2 h2 => ?_)
    obtain ⟨_, _, _, _, _, _, _, _, _, _, z⟩ := h2
    exact z.elim
  | val src S1 =>
  unfold eGath at q
  rw [hfs] at q
  have q : Post X.K X.w RO E α H (if src.items.length ≤ sizeLine then (compG src.ok g t b (wipeR ρ (own.map (·.2))) src.items acc0 S1).bind fin else .stuck) Q := q
  by_cases hlen : src.items.length ≤ sizeLine
  case neg => rw [if_neg hlen] at q; exact q.elim
  rw [if_pos hlen] at q
  have hok : src.ok S1 := compG_ok fun e => by rw [e] at q; exact q
  refine wpAny_comprehension_free hcl hs (closure_ok hclo) ok.kind (fun y hy e => by rw [ok.uniq y hy, e])
    (thn (hi.run pins s σ H (fun J H1 => ∃ α1, Stp α H α1 H1 ∧ Rep X.K X.w α1 S1 H1 ∧ Gives X.K X.w J α1 H1 src) I ⟨α, S, ρ, rp, re, by rw [hfs]; exact ⟨hok, fun α' H' J a1 a2 a3 => ⟨α', a1, a2, a3⟩⟩⟩) fun xv s1 hx => thn hx fun itv s2 h2 => ?_)
  obtain ⟨it, fp, tn, J, H1, e, I2, T, st2, f2, α1, stA, rp1, gv⟩ := h2
  subst e
  have q := Post.mono stA q
  have reW : RepE X.K X.w α1 H1 (wipeR ρ (own.map (·.2))) (wipe σ (own.map (·.2))) := (re.mono stA).wipe _
  refine hnew _ _ _ _ _ _ I2 fun ob I3 => newEnv_comp ?_
  generalize hD : s2.heap.objs.size = Dd at I3 ⊢
  have dn : H1 Dd = none := I2.hok.fresh (Nat.le_of_eq hD)
  have nal : Dd ∉ α1.al := fun z => rp1.mem_some (.inl z) dn
  have stB : Stp α1 H1 (α1.hide Dd) (upd H1 Dd (ho Dd)) := stp_hide rp1.hd dn
  have rpB : Rep X.K X.w (α1.hide Dd) S1 (upd H1 Dd (ho Dd)) := rep_hide rp1 dn
  generalize hs3 : ({ s2 with heap := s2.heap.push ob } : Shared) = s3 at I3 ⊢
  have k23 : ∀ a o, s2.heap.get? a = some o → s3.heap.get? a = some o := fun a o e => by rw [← hs3]; exact Heap.get?_push_of_some _ e
  have szD : s3.heap.objs.size = Dd + 1 := by rw [← hs3, ← hD]; exact Heap.size_push _ _
  have old : ∀ a ∈ fp, a < Dd := fun a ha => by
    obtain ⟨o, e, _⟩ := T.obj _ _ st2 a ha
    rw [← hD]; exact Heap.lt_size e
  have fpB : ∀ a ∈ fp, FpOk X pins (upd H1 Dd (ho Dd)) a ∧ a < s3.heap.objs.size := fun a ha => by
    refine ⟨⟨?_, (f2 a ha).2⟩, by rw [szD]; exact Nat.lt_succ_of_lt (old a ha)⟩
    rw [upd_ne (Nat.ne_of_lt (old a ha))]
    exact (f2 a ha).1
  have I4 := block_start I3 ok hN fpB
  have gl := cellsFrom (s3.heap.objs.size + 1) scope.names (cloFrom X.env.cells scope.names [])
  have pg := hg s3 (upd H1 Dd (ho Dd)) s3.heap.objs.size (cellsFrom (s3.heap.objs.size + 1) scope.names (cloFrom X.env.cells scope.names [])) fp
  have pt := ht s3 (upd H1 Dd (ho Dd)) s3.heap.objs.size (cellsFrom (s3.heap.objs.size + 1) scope.names (cloFrom X.env.cells scope.names [])) fp
  have pb := hb s3 (upd H1 Dd (ho Dd)) s3.heap.objs.size (cellsFrom (s3.heap.objs.size + 1) scope.names (cloFrom X.env.cells scope.names [])) fp
  have r0 : RA (α1.hide Dd) (upd H1 Dd (ho Dd)) Dd acc0 := h0 α1 H1 Dd dn
  have nfp : ∀ a ∈ fp, (upd H1 Dd (ho Dd)) a = none := fun a ha => (fpB a ha).1.1
  show codeAny _ _ (.compStart ex 0 (.ref it) (.ref Dd) (compEnvC scope (cellsFrom (s3.heap.objs.size + 1) scope.names (cloFrom X.env.cells scope.names [])) s3.heap.objs.size X.env)) (compPost (model X.prog X.w) X.A X.xe none (EP X pins σ Q) (.ref Dd) s3.heap.objs.size)
    { s3 with heap := pushCells (s3.heap.push { cls := .type "dict", data := .dict #[] }) scope.names }
  generalize hce : compEnvC scope (cellsFrom (s3.heap.objs.size + 1) scope.names (cloFrom X.env.cells scope.names [])) s3.heap.objs.size X.env = ce at I4 pg pt pb ⊢
  have cL : ce.locals = s3.heap.objs.size := by subst hce; rfl
  generalize hHb : upd H1 Dd (ho Dd) = Hb at I3 I4 pg pt pb nfp fpB r0 rpB stB
  generalize hs4 : ({ s3 with heap := pushCells (s3.heap.push { cls := .type "dict", data := .dict #[] }) scope.names } : Shared) = s4 at I4 ⊢
  have st4 : tn 0 s4.heap := T.keep _ _ _ st2 fun a _ o e => by rw [← hs4]; exact pushCells_keeps _ _ _ _ (Heap.get?_push_of_some _ (k23 a o e))
  generalize hXb : X.blk s3 Hb scope ce fp = Xb at I4 pg pt pb
  have free : ∀ {σ' : L2.St} {H' : Hp} {s' : Shared}, Inv Xb [] σ' H' s' → (∀ a ∈ fp, H' a = none) → ∀ a ∈ fp, FpOk Xb [] H' a := fun {σ' H' s'} I' hn a ha => by
    subst hXb
    exact ⟨hn a ha, (I'.ok.exf a ha).1, I'.ok.exfs a ha, .inl ha, fun x c e => (I'.ok.exf a ha).2 x c e, fun p hp => absurd (show p ∈ ([] : List (Addr × Obj)) ++ [] from hp) (by simp)⟩
  have fin' : ∀ {s' : Shared} {H' : Hp}, Inv Xb [] (wipe σ (own.map (·.2))) H' s' → Q (.ref Dd) H' → compPost (model X.prog X.w) X.A X.xe none (EP X pins σ Q) (.ref Dd) s3.heap.objs.size (.ok .next) s' := fun {s' H'} I' qq => by
    subst hXb
    have I7 : Inv X pins σ H' s' := I3.call' (ch := fp) I'.os I'.base I'.hok I'.bare fun a ha => ⟨(fpB a ha).1.2.2.2.1, (fpB a ha).1.2.1, (fpB a ha).1.2.2.2.2.1, (fpB a ha).1.2.2.2.2.2⟩
    have nC : H' s3.heap.objs.size = none := by
      have z : H' ce.locals = none := I'.free
      rw [cL] at z
      exact z
    obtain ⟨m, hn, _⟩ := I'.loc
    have hn : s'.heap.Ns ce.locals m := hn
    rw [cL] at hn
    refine ⟨m, hn, fun h'' sb => ?_⟩
    obtain ⟨f0, f1, f2, f3, f4, f5⟩ := I3.fpOk (Nat.le_refl _) nC
    exact ⟨.ref Dd, H', I7.turned (t' := s'.toks) (fun a o ha e => (sb.2 a ha).trans e) f0 f1 f3 f4 f5, rfl, qq⟩
  have loop : codeAny (model X.prog X.w) X.A (.compLoop ex 0 (.ref it) (.ref Dd) ce) (compPost (model X.prog X.w) X.A X.xe none (EP X pins σ Q) (.ref Dd) s3.heap.objs.size) s4 := by
    refine hloop _ _ _ _ _ (fun n s' => ∃ i H' α' S' ds acc, Inv Xb [] (wipe σ (own.map (·.2))) H' s' ∧ tn i s'.heap ∧ (∀ a ∈ fp, H' a = none) ∧ src.items.drop i = ds ∧ n = ds.length ∧ Stp α1 H1 α' H' ∧ Dd ∈ α'.hid ∧ Dd ∉ α'.al ∧ Rep X.K X.w α' S' H' ∧ RA α' H' Dd acc ∧
      Post X.K X.w RO E α1 H1 ((compG src.ok g t b (wipeR ρ (own.map (·.2))) ds acc S').bind fin) Q) ?_ _ ⟨0, Hb, α1.hide Dd, S1, src.items, acc0, I4, st4, nfp, rfl, rfl, stB, List.mem_cons_self, nal, rpB, r0, q⟩
    rintro n s5 ⟨i, H5, α5, S5, ds, acc, I5, st5, n5, hd, hn, stC, hin, hnot, rp5, ra5, q5⟩
    have hok5 : src.ok S5 := compG_ok fun e => by rw [e] at q5; exact q5
    obtain ⟨g1, g2⟩ := gv α5 S5 H5 stC.q rp5 hok5 i
    have pX : Xb.prog = X.prog := by subst hXb; rfl
    have wX : Xb.w = X.w := by subst hXb; rfl
    have kX : Xb.K = X.K := by subst hXb; rfl
    have cX : Xb.calm = true := by subst hXb; exact hc
    have aX : Xb.A = X.A := by subst hXb; rfl
    have eX : Xb.env = ce := by subst hXb; rfl
    cases ds with
    | nil =>
      have td := T.done Xb pX wX kX cX i [] s5 _ H5 (fun _ _ => False) I5 (free I5 n5) st5 (g1 (List.drop_eq_nil_iff.mp hd))
      rw [aX] at td
      refine thnF td fun r s6 ⟨hr, I6⟩ => ?_
      subst hr
      refine fin' I6 ?_
      unfold compG at q5
      rw [guard_of hok5] at q5
      exact hf E α1 α5 H1 H5 S5 Dd acc Q stC dn rp1.hd hin hnot rp5 ra5 q5
    | cons d ds =>
      have hat : src.items[i]? = some d := by
        have : (src.items.drop i)[0]? = some d := by rw [hd]; rfl
        rw [List.getElem?_drop] at this
        exact this
      have hd' : src.items.drop (i + 1) = ds := by rw [← List.drop_drop, hd]; rfl
      obtain ⟨g3, g4⟩ := g2 d hat
      have ti := T.item Xb pX wX kX cX i [] s5 _ H5 (fun _ _ => False) I5 (free I5 n5) st5 g3
      rw [aX] at ti
      refine thnF ti fun r s6 ⟨u, hr, h6⟩ => ?_
      subst hr
      refine thnF h6 fun _ s7 ⟨x, H7, I7, r7, y7, st7, n7⟩ => ?_
      obtain ⟨st57, rp7, rd7⟩ := g4 x H7 y7
      have I7' := I7.pinned (free I7 n7) (T.obj _ _ st7)
      unfold compG at q5
      rw [guard_of hok5] at q5
      have as : ∀ {δ ε ζ : Type} (m : Out δ) (k : δ → Sto → Out ε) (l : ε → Sto → Out ζ), (m.bind k).bind l = m.bind fun x S => (k x S).bind l := fun m k l => by cases m <;> rfl
      rw [as] at q5
      have re7 : RepE X.K X.w α5 H7 (wipeR ρ (own.map (·.2))) (wipe σ (own.map (·.2))) := reW.mono (stC.trans st57)
      have pgr := pg.run ([] ++ pinsAt fp s7.heap) s7 (wipe σ (own.map (·.2))) H7 x u
        (fun σ8 H8 => wipe σ8 (own.map (·.2)) = wipe σ (own.map (·.2)) ∧ ∃ α8 S8 ρ8, Stp α5 H7 α8 H8 ∧ Rep X.K X.w α8 S8 H8 ∧ RepE X.K X.w α8 H8 ρ8 σ8 ∧
          Post X.K X.w RO E α1 H1 (((noX (t ρ8) S8).bind fun c S2 => if c = true then (noX (b ρ8 acc) S2).bind fun acc' S3 => compG src.ok g t b (wipeR ρ (own.map (·.2))) ds acc' S3 else compG src.ok g t b (wipeR ρ (own.map (·.2))) ds acc S2).bind fin) Q)
        I7' r7 ⟨α5, S5, wipeR ρ (own.map (·.2)), d, by rw [kX, wX]; exact rp7, by rw [kX, wX]; exact re7, by rw [kX, wX]; exact rd7, by
          rw [kX, wX]
          exact Post.stepX (stC.trans st57) q5 fun ρ1 S3 α3 H3 σ3 _ st3 rp3 re3 q3 => ⟨re3.2.trans (wipe_wipe _ _), α3, S3, ρ1, st3, rp3, re3.1, q3⟩⟩
      rw [aX, pX, wX, eX] at pgr
      have xeF : Xb.xe = fun _ _ => False := by subst hXb; rfl
      rw [xeF] at pgr
      refine thnF pgr fun _ s8 ⟨σ8, H8, I8, hw8, α8, S8, ρ8, st78, rp8, re8, q8⟩ => ?_
      rw [as] at q8
      have stD := (stC.trans st57).trans st78
      have ptr := pt.run ([] ++ pinsAt fp s7.heap) s8 σ8 H8
        (fun c H9 => ∃ α9 S9, Stp α8 H8 α9 H9 ∧ Rep X.K X.w α9 S9 H9 ∧ Post X.K X.w RO E α1 H1 ((if c = true then (noX (b ρ8 acc) S9).bind fun acc' S3 => compG src.ok g t b (wipeR ρ (own.map (·.2))) ds acc' S3 else compG src.ok g t b (wipeR ρ (own.map (·.2))) ds acc S9).bind fin) Q)
        I8 ⟨α8, S8, ρ8, by rw [kX, wX]; exact rp8, by rw [kX, wX]; exact re8, by
          rw [kX, wX]
          exact Post.stepX stD q8 fun c S9 α9 H9 c' _ st9 rp9 r9 q9 => by subst r9; exact ⟨α9, S9, st9, rp9, q9⟩⟩
      rw [aX, pX, wX, eX, xeF] at ptr
      refine thnF ptr fun c s9 ⟨H9, I9, α9, S9, st89, rp9, q9⟩ => ?_
      have stE := stD.trans st89
      have st59 := (st57.trans st78).trans st89
      have hin9 : Dd ∈ α9.hid := st59.stay Dd hin
      have eqD9 : H9 Dd = H5 Dd := st59.keep Dd hin
      have ra9 : RA α9 H9 Dd acc := hkeep _ _ _ _ _ _ st59 eqD9 ra5
      -- the turn's end
      have turn : ∀ {s' : Shared} {H' : Hp} {α' : Al} {S' : Sto} {acc' : γ}, Inv Xb ([] ++ pinsAt fp s7.heap) σ8 H' s' → Stp α1 H1 α' H' → Dd ∈ α'.hid → Rep X.K X.w α' S' H' → RA α' H' Dd acc' → Post X.K X.w RO E α1 H1 ((compG src.ok g t b (wipeR ρ (own.map (·.2))) ds acc' S').bind fin) Q →
          ∃ m, m < n ∧ ∃ i H' α' S' ds acc, Inv Xb [] (wipe σ (own.map (·.2))) H' s' ∧ tn i s'.heap ∧ (∀ a ∈ fp, H' a = none) ∧ src.items.drop i = ds ∧ m = ds.length ∧ Stp α1 H1 α' H' ∧ Dd ∈ α'.hid ∧ Dd ∉ α'.al ∧ Rep X.K X.w α' S' H' ∧ RA α' H' Dd acc ∧
            Post X.K X.w RO E α1 H1 ((compG src.ok g t b (wipeR ρ (own.map (·.2))) ds acc S').bind fin) Q := fun {s' H' α' S' acc'} I' a1 a2 a3 a4 a5 => by
        have pin : ∀ a ∈ fp, ∀ o, s7.heap.get? a = some o → s'.heap.get? a = some o ∧ H' a = none := fun a ha o e =>
          let z := I'.pin (a, o) (List.mem_append_right _ (List.mem_append_right _ (mem_pinsAt ha e)))
          ⟨z.1, z.2.1⟩
        refine ⟨ds.length, by rw [hn]; exact Nat.lt_succ_self _, i + 1, H', α', S', ds, acc', (I'.unpinned (pins := [])).weak (by rw [← hw8, wipe_length]) (fun j v e => ?_), T.keep _ _ _ st7 fun a ha o e => (pin a ha o e).1, fun a ha => ?_, hd', rfl, a1, a2, a3.dj Dd a2, a3, a4, a5⟩
        · rw [← hw8] at e
          exact (wipe_some e).1
        · obtain ⟨o, e, _⟩ := T.obj _ _ st7 a ha
          exact (pin a ha o e).2
      cases c with
      | false =>
        rw [if_neg Bool.false_ne_true] at q9 ⊢
        exact turn I9 stE hin9 rp9 ra9 q9
      | true =>
        rw [if_pos rfl] at q9 ⊢
        rw [as] at q9
        cases hbv : b ρ8 acc S9 with
        | stuck => simp only [noX, hbv, Out.bind] at q9; exact q9.elim
        | exc c p S' => simp only [noX, hbv, Out.bind] at q9; exact q9.elim
        | val acc' S10 =>
          simp only [noX, hbv, Out.bind] at q9
          have z := pb ([] ++ pinsAt fp s7.heap) s9 σ8 H9 α9 S9 S10 ρ8 Dd acc acc' (fun H' => ∃ α' H2 o, H' = upd H2 Dd o ∧ Stp α9 H9 α' H2 ∧ Rep X.K X.w α' S10 (upd H2 Dd o) ∧ RA α' (upd H2 Dd o) Dd acc')
            (notedBy (model X.prog X.w) X.A ce fun e s' => compPost (model X.prog X.w) X.A X.xe none (EP X pins σ Q) (.ref Dd) s3.heap.objs.size (.error e) s') I9 (by rw [kX, wX]; exact rp9) (by rw [kX, wX]; exact re8.mono st89) hin9 ra9 hbv
            (fun α' H2 o a1 a2 a3 => ⟨α', H2, o, rfl, a1, by rw [kX, wX] at a2; exact a2, a3⟩)
          rw [eX] at z
          refine hBm _ _ _ _ _ _ z ?_
          rintro s' ⟨H', I', α', H2, o, rfl, a1, a2, a3⟩
          exact turn I' (stp_later (stE.trans a1) dn rp1.hd) (a1.stay Dd hin9) a2 a3 q9
  exact hstart _ _ _ _ _ loop (T.self X.A 0 _ _ _ st4 loop)
end
end Z
set_option Elab.async false
set_option linter.all false
set_option maxRecDepth 100000
set_option maxHeartbeats 1000000
/-! Z15: {k: v for ..}, len({x for ..}). -/
namespace Z
open PySem L2 PySem.Spec PyProof.Rows
/-! ### dicts -/
abbrev KD := List D × List D
def RAd (K : PySem.W.Frag) (w : World) : RAx KD := fun α H a p => ∃ kv vs xs, H a = some (dHO w a xs) ∧ Ents p.1 kv vs xs ∧ RepL K w α H p.1 kv ∧ RepL K w α H p.2 vs
@[simp] def bDic (fk fv : Rho → M D) : Rho → KD → M KD := fun ρ p S => (fk ρ S).bind fun k S1 => (fv ρ S1).bind fun v S2 => if isKey 8 k = true ∧ p.1.length < sizeLine then .val (dPut p.1 p.2 k v) S2 else .stuck
/-- the new dict: a value, a cell -/
@[simp] def finD (p : KD) : M D := fun S => .val (.dic p.1 p.2) S
@[simp] def finDC (p : KD) : M D := fun S => .val (.ref S.length) (S ++ [.dic false p.1 p.2])
theorem finG_d {K : PySem.W.Frag} {w : World} : FinG K w (RAd K w) (RepD K w) finD := fun E α0 α H0 H S a p Q st ha hh hi hn rp ⟨kv, vs, xs, h1, h2, h3, h4⟩ q =>
  q (α.show a) H _ (stp_show st ha hh) (rep_show rp) (by unfold RepD; exact ⟨a, kv, vs, xs, rfl, fun z => z.elim hn not_show, .inl h1, h2, repL_less less_show _ _ h3, repL_less less_show _ _ h4⟩)
theorem finG_dc {K : PySem.W.Frag} {w : World} : FinG K w (RAd K w) (RepD K w) finDC := fun E α0 α H0 H S a p Q st ha hh hi hn rp ⟨kv, vs, xs, h1, h2, h3, h4⟩ q =>
  q (α.cell a) H _ (stp_cell2 st ha hh) (rep_cell rp hi hn ⟨kv, vs, xs, by simpa using h1, h2, repL_less (less_cell hi) _ _ h3, repL_less (less_cell hi) _ _ h4⟩) (by unfold RepD; exact ⟨a, rfl, by rw [← rp.len]; simp [Al.cell]⟩)
def Bdic (P : Program) (w : World) (A : Around) (kx vx : Expr) : Env → Addr → (Shared → Prop) → (Value → Shared → Prop) → Shared → Prop := fun env Dd P' E s =>
  wpAny (model P w) A (eval kx env) (fun kv s4 => wpAny (model P w) A (eval vx env) (fun vv s5 => wpAny (model P w) A (dictSet Dd kv vv) (fun _ s6 => P' s6) E s5) E s4) E s
section
variable {X : Cx}
theorem dict_at {α : Al} {H : Hp} {a : Addr} {p : KD} (h : RAd X.K X.w α H a p) : ∃ kv vs xs, DictAt X α H a p.1 p.2 kv vs xs := let ⟨kv, vs, xs, h1, h2, h3, h4⟩ := h; ⟨kv, vs, xs, .inl h1, h2, h3, h4⟩
theorem dHO_notup {w : World} {H : Hp} {a : Addr} {xs : List ZD.Ent} (h : H a = some (dHO w a xs)) (us : List V) : ¬ Rd H a (.tup us) := by
  rintro (q | ⟨o, q⟩)
  · rw [h] at q; cases q
  · rw [h] at q; cases q
theorem bs_dic {kx vx : Expr} {fk fv : Rho → M D} (hu : X.A.units + 64 < cLine) (hx : X.xe = fun _ _ => False) (hk : ZE X E0 kx fk) (hv : ZE X E0 vx fv) : BS X (RAd X.K X.w) (bDic fk fv) (Bdic X.prog X.w X.A kx vx) := by
  intro pins s σ H α S S' ρ Dd acc acc' Nx E I rp re hin ra hb h
  unfold bDic at hb
  cases hfk : fk ρ S with
  | stuck => rw [hfk] at hb; cases hb
  | exc c p S1 => rw [hfk] at hb; cases hb
  | val k S1 =>
    rw [hfk] at hb
    have hb : (fv ρ S1).bind (fun v S2 => if isKey 8 k = true ∧ acc.1.length < sizeLine then Out.val (dPut acc.1 acc.2 k v) S2 else .stuck) = .val acc' S' := hb
    cases hfv : fv ρ S1 with
    | stuck => rw [hfv] at hb; cases hb
    | exc c p S2 => rw [hfv] at hb; cases hb
    | val v S2 =>
      rw [hfv] at hb
      have hb : (if isKey 8 k = true ∧ acc.1.length < sizeLine then Out.val (dPut acc.1 acc.2 k v) S2 else .stuck) = .val acc' S' := hb
      split at hb
      case isFalse => cases hb
      rename_i hc
      cases hb
      have r1 := hk.run pins s σ H (fun kv H1 => ∃ α1, Stp α H α1 H1 ∧ Rep X.K X.w α1 S1 H1 ∧ RepD X.K X.w α1 H1 k kv) I ⟨α, S, ρ, rp, re, by rw [hfk]; exact fun α' H' y a1 a2 a3 => ⟨α', a1, a2, a3⟩⟩
      rw [hx] at r1
      refine thnF r1 fun kv s1 ⟨kV', H1, I1, rk, α1, st1, rp1, rdk⟩ => ?_
      have r2 := hv.run pins s1 σ H1 (fun vv H2 => ∃ α2, Stp α1 H1 α2 H2 ∧ Rep X.K X.w α2 S' H2 ∧ RepD X.K X.w α2 H2 v vv) I1 ⟨α1, S1, ρ, rp1, re.mono st1, by rw [hfv]; exact fun α' H' y a1 a2 a3 => ⟨α', a1, a2, a3⟩⟩
      rw [hx] at r2
      refine thnF r2 fun vv s2 ⟨vV, H2, I2, rv, α2, st2, rp2, rdv⟩ => ?_
      have st := st1.trans st2
      have hin2 : Dd ∈ α2.hid := st.stay Dd hin
      obtain ⟨kvs, vs, xs, h1, h2, h3, h4⟩ := ra
      have hD2 : H2 Dd = some (dHO X.w Dd xs) := (st.keep Dd hin).trans h1
      have g : DictAt X α2 H2 Dd acc.1 acc.2 kvs vs xs := ⟨.inl hD2, h2, repL_mono st _ _ h3, repL_mono st _ _ h4⟩
      obtain ⟨dn, hs, hz⟩ := g.dictN I2
      have hn : (xs.map (·.1)).Nodup := by obtain ⟨_, _, _, _, _, _, _, _, hn⟩ := dn; exact hn
      have rdk2 := repD_mono st2 _ _ rdk
      obtain ⟨kv', vs', t1, t2, t3⟩ := dPut_at hn h2 g.rk g.rv hc.1 rdk2 rk rdv rv
      refine ZD.set_ok (by omega) (key_isN I2 hc.1 rdk2 rk) dn hz fun h' tk hm hb => ?_
      have I3 := dict_put (tk := tk) I2 hD2 hs (putN_len2 (by rw [h2.len]; exact hc.2)) hm hb
      refine ⟨_, I3, h α2 H2 _ st (rep_hid rp2 hin2 (dHO_notup hD2)) ⟨kv', vs', _, upd_same, t1, repL_hid hin2 (dHO_notup hD2) _ _ t2, repL_hid hin2 (dHO_notup hD2) _ _ t3⟩⟩
variable {E : XK} {pos : Pos} {kx vx tg iter : Expr} {ifs : List Expr} {scope : Scope} {own : List (Str × Nat)} {f : Rho → M Src} {g : D → Rho → M Rho} {t : Rho → M Bool} {fk fv : Rho → M D} {fin : KD → M D}
/-- {kx: vx for tg in iter if ..} -/
theorem ze_dc (hu : X.A.units + 64 < cLine) (hf : FinG X.K X.w (RAd X.K X.w) (RepD X.K X.w) fin) (hc : X.calm = true) (hN : X.N.Nodup) (hi : ZI X E tg iter f) (ok : BlkOk X.N X.env.scope scope own)
    (hg : ∀ (s : Shared) (H : Hp) (C : Addr) (cl : List (Str × Addr)) (fp : List Addr), ZGw (X.blk s H scope (compEnvC scope cl C X.env) fp) E0 (own.map (·.2)) tg g)
    (ht : ∀ (s : Shared) (H : Hp) (C : Addr) (cl : List (Str × Addr)) (fp : List Addr), ZTs (X.blk s H scope (compEnvC scope cl C X.env) fp) E0 ifs t)
    (hk : ∀ (s : Shared) (H : Hp) (C : Addr) (cl : List (Str × Addr)) (fp : List Addr), ZE (X.blk s H scope (compEnvC scope cl C X.env) fp) E0 kx fk)
    (hv : ∀ (s : Shared) (H : Hp) (C : Addr) (cl : List (Str × Addr)) (fp : List Addr), ZE (X.blk s H scope (compEnvC scope cl C X.env) fp) E0 vx fv) (hs : ∀ x, foldedSetIterable iter X.env x = pure x := by intro _; rfl) :
    ZE X E (.DictComp kx vx [⟨tg, iter, ifs, 0⟩] scope pos) (eGath f (own.map (·.2)) g t (bDic fk fv) ([], []) fin) := by
  refine gath (B := Bdic X.prog X.w X.A kx vx) (ho := fun a => dHO X.w a []) (RA := RAd X.K X.w) (fresh := newDict) (pos' := firstIterPos [⟨tg, iter, ifs, 0⟩] pos) (by rw [arm_eval_DictComp]; rfl) rfl ?_ ?_ ?_ ?_ ?_ ?_ hf hc hN hi ok hg ht (fun s H C cl fp => bs_dic (X := X.blk s H scope (compEnvC scope cl C X.env) fp) hu rfl (hk s H C cl fp) (hv s H C cl fp)) hs
  · intro pins σ H s Q E' I h
    refine wpAny_newObj_type (h _ ?_)
    refine I.laid (a := s.heap.objs.size) (o := dHO X.w s.heap.objs.size []) (t' := s.toks) (fun _ _ q => Heap.get?_push_of_some _ q) (Nat.le_refl _) ?_
    have hb : (s.heap.objs.size == sysModules) = false := by
      have := I.big
      exact beq_eq_false_iff_ne.mpr (Nat.ne_of_gt this)
    have ho : (s.heap.push { cls := .type "dict", data := .dict #[] }).get? s.heap.objs.size = some { cls := .type "dict", data := .dict #[] } := Heap.get?_push_size _ rfl
    refine ⟨⟨Nat.zero_le _, hb, _, #[], 0, ho, ⟨rfl, rfl, rfl⟩, rfl, rfl, List.nodup_nil⟩, ⟨_, ho⟩, fun h1 h2 p st => ?_⟩
    obtain ⟨p1, p2, o', es', ep', q1, q2⟩ := p
    exact ⟨p1, p2, o', es', ep', st _ q1, q2⟩
  · intro R s it Dd env J turn n h
    exact compLoop_anyD J turn n h
  · intro R s it Dd env h0 h
    exact codeAny_compStart_dict h0 h
  · intro env Dd P P' E' s h k
    exact wpAny_mono h (fun _ _ h => wpAny_mono h (fun _ _ h => wpAny_mono h (fun _ s h => k s h) fun _ _ z => z) fun _ _ z => z) fun _ _ z => z
  · intro α H Dd h
    exact ⟨[], [], [], upd_same, ⟨rfl, rfl, .nil, .nil⟩, RepL.nil, RepL.nil⟩
  · intro α H α' H' Dd acc st e ⟨kv, vs, xs, h1, h2, h3, h4⟩
    exact ⟨kv, vs, xs, e.trans h1, h2, repL_mono st _ _ h3, repL_mono st _ _ h4⟩
end
/-! ### sets, of numbers and texts, of which the size alone is asked -/
def keyOf : D → Option Key
  | .int i => some (.inl i)
  | .str x => some (.inr x)
  | _ => none
def RAs (P : Program) (w : World) : RAx (List Key) := fun α H a ks => ∃ Sf, H a = some (SetK P w a Sf ks.length) ∧ ∀ k, Sf k = true ↔ k ∈ ks
@[simp] def bSet (fe : Rho → M D) : Rho → List Key → M (List Key) := fun ρ ks S => (fe ρ S).bind fun d S1 => match keyOf d with
  | some k => if ks.length + 1 < scanBound then .val (if ks.any (fun j => decide (j = k)) = true then ks else ks ++ [k]) S1 else .stuck
  | none => .stuck
def BsetE (P : Program) (w : World) (A : Around) (elt : Expr) : Env → Addr → (Shared → Prop) → (Value → Shared → Prop) → Shared → Prop := fun env Dd P' E s =>
  wpAny (model P w) A (eval elt env) (fun x s4 => wpAny (model P w) A (call (.builtin "set.add") [.ref Dd, x]) (fun _ s5 => P' s5) E s4) E s
theorem keyOf_rep {K : PySem.W.Frag} {w : World} {α : Al} {H : Hp} {d : D} {v : V} {k : Key} (h : keyOf d = some k) (r : RepD K w α H d v) : v = kV k := by
  cases d with
  | int i => cases h; exact rep_int r
  | str x => cases h; exact rep_str r
  | _ => cases h
theorem setK_notup {P : Program} {w : World} {H : Hp} {a : Addr} {Sf : Key → Bool} {n : Nat} (h : H a = some (SetK P w a Sf n)) (us : List V) : ¬ Rd H a (.tup us) := by
  rintro (q | ⟨o, q⟩)
  · rw [h] at q; cases q
  · rw [h] at q; cases q
section
variable {X : Cx}
theorem any_mem (ks : List Key) (k : Key) : (ks.any fun j => decide (j = k)) = true ↔ k ∈ ks := by
  rw [List.any_eq_true]
  exact ⟨fun ⟨j, h1, h2⟩ => of_decide_eq_true h2 ▸ h1, fun h => ⟨k, h, decide_eq_true rfl⟩⟩
theorem bs_set {elt : Expr} {fe : Rho → M D} (hx : X.xe = fun _ _ => False) (he : ZE X E0 elt fe) : BS X (RAs X.prog X.w) (bSet fe) (BsetE X.prog X.w X.A elt) := by
  intro pins s σ H α S S' ρ Dd acc acc' Nx E I rp re hin ra hb h
  unfold bSet at hb
  cases hfe : fe ρ S with
  | stuck => rw [hfe] at hb; cases hb
  | exc c p S1 => rw [hfe] at hb; cases hb
  | val d S1 =>
    rw [hfe] at hb
    simp only [Out.bind] at hb
    cases hk : keyOf d with
    | none => rw [hk] at hb; cases hb
    | some k =>
      rw [hk] at hb
      simp only at hb
      split at hb
      case isFalse => cases hb
      rename_i hroom
      cases hb
      have r1 := he.run pins s σ H (fun kv H1 => ∃ α1, Stp α H α1 H1 ∧ Rep X.K X.w α1 S' H1 ∧ RepD X.K X.w α1 H1 d kv) I ⟨α, S, ρ, rp, re, by rw [hfe]; exact fun α' H' y a1 a2 a3 => ⟨α', a1, a2, a3⟩⟩
      rw [hx] at r1
      refine thnF r1 fun u s1 ⟨v, H1, I1, ru, α1, st1, rp1, rdk⟩ => ?_
      have ev := keyOf_rep hk rdk
      subst ev
      have hin1 : Dd ∈ α1.hid := st1.stay Dd hin
      obtain ⟨Sf, h1, h2⟩ := ra
      have hD : H1 Dd = some (SetK X.prog X.w Dd Sf acc.length) := (st1.keep Dd hin).trans h1
      refine call_set_add (kV_is ru) (key_scan ru) (setK_get I1 hD) hroom fun h' sb new => ?_
      have hex : ∃ o, h'.get? Dd = some o := let ⟨o, _, _, _, ho, _⟩ := new; ⟨o, ho⟩
      refine ⟨_, I1.write (e := Dd) (t' := s1.toks + 1) (by rw [hD]; trivial) (.inl rfl) (fun b u hb hu => (sb.2 b hb).trans hu) hex (setK_new new), ?_⟩
      refine h α1 H1 _ st1 (rep_hid rp1 hin1 (setK_notup hD)) ⟨fun k' => Sf k' || decide (k' = k), ?_, fun j => ?_⟩
      · rw [upd_same]
        by_cases c : k ∈ acc
        · rw [if_pos ((any_mem acc k).mpr c), if_pos ((h2 k).mpr c)]
        · rw [if_neg (fun z => c ((any_mem acc k).mp z)), if_neg (fun z => c ((h2 k).mp z)), List.length_append]; rfl
      · by_cases c : k ∈ acc
        · rw [if_pos ((any_mem acc k).mpr c)]
          by_cases e : j = k
          · subst e; simp [c]
          · simp [e, h2]
        · rw [if_neg (fun z => c ((any_mem acc k).mp z))]
          by_cases e : j = k
          · subst e; simp
          · simp [e, h2]
@[simp] def finK (ks : List Key) : M (List Key) := fun S => .val ks S
def ROs (P : Program) (w : World) : Al → Hp → List Key → V → Prop := fun α H ks v => ∃ a Sf, v = .ref a ∧ H a = some (SetK P w a Sf ks.length)
theorem finG_s {K : PySem.W.Frag} {P : Program} {w : World} : FinG K w (RAs P w) (ROs P w) finK := fun E α0 α H0 H S a ks Q st ha hh hi hn rp ⟨Sf, h1, h2⟩ q =>
  q (α.show a) H _ (stp_show st ha hh) (rep_show rp) ⟨a, Sf, rfl, h1⟩
variable {E : XK} {pos p lpos : Pos} {elt tg iter : Expr} {ifs : List Expr} {scope : Scope} {own : List (Str × Nat)} {f : Rho → M Src} {g : D → Rho → M Rho} {t : Rho → M Bool} {fe : Rho → M D}
theorem pe_scK (hc : X.calm = true) (hN : X.N.Nodup) (hi : ZI X E tg iter f) (ok : BlkOk X.N X.env.scope scope own)
    (hg : ∀ (s : Shared) (H : Hp) (C : Addr) (cl : List (Str × Addr)) (fp : List Addr), ZGw (X.blk s H scope (compEnvC scope cl C X.env) fp) E0 (own.map (·.2)) tg g)
    (ht : ∀ (s : Shared) (H : Hp) (C : Addr) (cl : List (Str × Addr)) (fp : List Addr), ZTs (X.blk s H scope (compEnvC scope cl C X.env) fp) E0 ifs t)
    (he : ∀ (s : Shared) (H : Hp) (C : Addr) (cl : List (Str × Addr)) (fp : List Addr), ZE (X.blk s H scope (compEnvC scope cl C X.env) fp) E0 elt fe) (hs : ∀ x, foldedSetIterable iter X.env x = pure x := by intro _; rfl) :
    PE X (.SetComp elt [⟨tg, iter, ifs, 0⟩] scope pos) (liftR X.K X.w (ROs X.prog X.w) E (eGath f (own.map (·.2)) g t (bSet fe) [] finK)) := by
  refine gath (B := BsetE X.prog X.w X.A elt) (ho := fun a => SetK X.prog X.w a (fun _ => false) 0) (RA := RAs X.prog X.w) (fresh := newSet (.type "set")) (pos' := firstIterPos [⟨tg, iter, ifs, 0⟩] pos) (by rw [PpSet.eval_SetComp]; rfl) rfl ?_ ?_ ?_ ?_ ?_ ?_ finG_s hc hN hi ok hg ht (fun s H C cl fp => bs_set (X := X.blk s H scope (compEnvC scope cl C X.env) fp) rfl (he s H C cl fp)) hs
  · intro pins σ H s Q E' I h
    refine PpSet.newSet_ok (h _ ?_)
    refine I.laid (a := s.heap.objs.size) (t' := s.toks) (fun _ _ q => Heap.get?_push_of_some _ q) (Nat.le_refl _) ?_
    exact setK_new ⟨_, #[], 0, _, Heap.get?_push_size _ rfl, ⟨rfl, rfl, rfl⟩, rfl, (fun e he => by simp at he), (fun k => by simp), (by decide), (by rfl), rfl⟩
  · intro R s it Dd env J turn n h
    exact PpSet.compLoopS_any J turn n h
  · intro R s it Dd env h0 h
    exact PpSet.codeAny_compStart_set h0 h
  · intro env Dd P P' E' s h k
    exact wpAny_mono h (fun _ _ h => wpAny_mono h (fun _ s h => k s h) fun _ _ z => z) fun _ _ z => z
  · intro α H Dd h
    exact ⟨fun _ => false, upd_same, fun k => by simp⟩
  · intro α H α' H' Dd acc st e ⟨Sf, h1, h2⟩
    exact ⟨Sf, e.trans h1, h2⟩
def rLenK (X : Cx) : List V → Hp → VK → Prop := fun xs H Q => ∃ a Sf n, xs = [.ref a] ∧ H a = some (SetK X.prog X.w a Sf n) ∧ Q (.int ((n : Nat) : Int)) H
theorem call_lenK : CallR X (.builtin "len") (rLenK X) := by
  intro pins s σ H xs us Q I r h
  obtain ⟨a, Sf, n, rfl, hp, q⟩ := h
  obtain ⟨u, rfl, rx⟩ := vals1 r
  obtain rfl : u = .ref a := rx
  obtain ⟨o, es, ep, t, ho, hx, hd, _, _, hb, hf, hn⟩ := setK_get I hp
  subst hn
  have hz : es.size < 4096 := hb
  exact call_len_set ho hx hd hf (by omega) ⟨.int ((es.size : Nat) : Int), H, I.tok _, ⟨_, rfl⟩, q⟩
/-- len(a set that is gathered) -/
@[simp] noncomputable def eLenK (m : Rho → M (List Key)) : Rho → M D := fun ρ S => (m ρ S).bind fun ks S1 => .val (.int ks.length) S1
theorem ze_lenK {e : Expr} {m : Rho → M (List Key)} (hm : X.mg "len" = none) (h : PE X e (liftR X.K X.w (ROs X.prog X.w) E m)) (hg : Gl X "len" := by rfl)
    (he : starEach [e] X.env = (false, eval e X.env) :: starEach [] X.env := by rfl) (hpl : (backTo pos (starEach [] X.env)).any (·.1) = false := by rfl) : ZE X E (.Call (.Name "len" p) [e] [] pos) (eLenK m) :=
  PE.weak (pe_callB call_lenK hg hm boot_len (pa_cons h pa_nil he) (by decide) (by decide) he hpl) fun σ H Q ⟨α, S, ρ, rp, re, q⟩ => by
    refine ⟨α, S, ρ, rp, re, Post.step q fun ks S1 α1 H1 v _ st rp1 r1 q1 => ?_⟩
    obtain ⟨a, Sf, rfl, ha⟩ := r1
    exact ⟨a, Sf, _, rfl, ha, q1.now rp1 (repI _)⟩
end
end Z
set_option Elab.async false
set_option linter.all false
set_option maxRecDepth 100000
set_option maxHeartbeats 1000000
/-! Z16: [x for .. in .. if .. for .. in .. if ..]. -/
namespace Z
open PySem L2 PySem.Spec PyProof.Rows
@[simp] def bLst (e : Rho → M D) : Rho → List D → M (List D) := fun ρ acc S => (e ρ S).bind fun y S1 => if acc.length < sizeLine then .val (acc ++ [y]) S1 else .stuck
@[simp] noncomputable def bIn (f1 : Rho → M Src) (vs1 : List Nat) (g1 : D → Rho → M Rho) (t1 : Rho → M Bool) (e : Rho → M D) : Rho → List D → M (List D) := fun ρ acc S => (f1 ρ S).bind fun s1 S1 => compG s1.ok g1 t1 (bLst e) (wipeR ρ vs1) s1.items acc S1
theorem RepE.monoQ {K : PySem.W.Frag} {w : World} {α α' : Al} {H H' : Hp} {ρ : Rho} {σ : L2.St} (h : RepE K w α H ρ σ) (s : Stq α H α' H') : RepE K w α' H' ρ σ :=
  ⟨h.len, fun i d e => let ⟨v, h1, h2⟩ := h.at_ i d e; ⟨v, h1, repD_monoQ s d v h2⟩⟩
theorem stq_hid {α : Al} {H : Hp} {a : Addr} {o : HO} (ha : a ∈ α.hid) (hl : ∀ vs, ¬ Rd H a (.tup vs)) (hf : ∀ o u, H a ≠ some (.frz o u)) : Stq α H α (upd H a o) :=
  ⟨⟨[], by simp, by simp⟩, fun _ h => .inl h, fun b h => upd_dom h, fun b vs h => rd_upd_ne (fun e => hl vs (by rw [← e]; exact h)) h, fun b u _ n h => rd_upd_ne (fun e => n (.inr (by rw [e]; exact ha))) h, fun b vs n h => by
    rw [upd_ne (fun e => n (.inr (by rw [e]; exact ha)))]; exact h, fun b o u h => by rw [upd_ne fun e => hf o u (by rw [← e]; exact h)]; exact h⟩
/-- noX takes out of a part what it takes out of the whole -/
theorem noX_val {β : Type} {m : M β} {S S' : Sto} {x : β} (h : m S = .val x S') : noX m S = .val x S' := by simp [h]
section
variable {X : Cx} {E : XK} {vs vs1 : List Nat} {f f1 : Rho → M Src} {g g1 : D → Rho → M Rho} {t t1 : Rho → M Bool} {e : Rho → M D} {fin : List D → M D}
theorem lc2_read (hf : Fin X.K X.w fin) {σ : L2.St} {H : Hp} {Q : VK}
    (h : lift X.K X.w E (eGath f vs g t (bIn f1 vs1 g1 t1 e) [] fin) σ H Q) : tLc2 (liftI X.K X.w E f) (liftGw X.K X.w E0 vs g) (liftB X.K X.w E0 t) (liftI X.K X.w E0 f1) (liftGw X.K X.w E0 vs1 g1) (liftB X.K X.w E0 t1) (lift X.K X.w E0 e) vs vs1 σ H Q := by
  obtain ⟨α, S, ρ, rp, re, q⟩ := h
  refine ⟨α, S, ρ, rp, re, ?_⟩
  unfold eGath at q
  cases hfs : f ρ S with
  | stuck => rw [hfs] at q; exact q.elim
  | exc c p S' => rw [hfs] at q; exact q
  | val s S1 =>
    rw [hfs] at q
    have q : Post X.K X.w (RepD X.K X.w) E α H (if s.items.length ≤ sizeLine then (compG s.ok g t (bIn f1 vs1 g1 t1 e) (wipeR ρ vs) s.items [] S1).bind fin else .stuck) Q := q
    by_cases hlen : s.items.length ≤ sizeLine
    case neg => rw [if_neg hlen] at q; exact q.elim
    rw [if_pos hlen] at q
    have hok : s.ok S1 := compG_ok fun e => by rw [e] at q; exact q
    refine ⟨hok, fun α1 H1 J st1 rp1 gv a ha => ?_⟩
    have q := Post.mono st1 q
    have re1 := (re.mono st1).wipe vs
    have st2 : Stp α1 H1 (α1.hide a) (upd H1 a (.lst [])) := stp_hide rp1.hd ha
    have nal : a ∉ α1.al := fun z => rp1.mem_some (.inl z) ha
    have as : ∀ {δ ε ζ : Type} (m : Out δ) (k : δ → Sto → Out ε) (l : ε → Sto → Out ζ), (m.bind k).bind l = m.bind fun x S => (k x S).bind l := fun m k l => by cases m <;> rfl
    refine ⟨fun i m H => ∃ (α : Al) (S : Sto) (ds acc : List D) (av : List V), s.items.drop i = ds ∧ m = ds.length ∧ Stp α1 H1 α H ∧ a ∈ α.hid ∧ a ∉ α.al ∧ Rep X.K X.w α S H ∧ H a = some (.lst av) ∧ RepL X.K X.w α H acc av ∧
      Post X.K X.w (RepD X.K X.w) E α1 H1 ((compG s.ok g t (bIn f1 vs1 g1 t1 e) (wipeR ρ vs) ds acc S).bind fin) Q,
      ⟨_, α1.hide a, S1, s.items, [], [], rfl, rfl, st2, List.mem_cons_self, nal, rep_hide rp1 ha, upd_same, RepL.nil, q⟩, ?_⟩
    rintro i m H ⟨α, S, ds, acc, av, hd, hm, st, hah, han, rp, hav, lav, q⟩
    have hok : s.ok S := compG_ok fun e => by rw [e] at q; exact q
    obtain ⟨g1', g2⟩ := gv α S H st.q rp hok i
    cases ds with
    | nil =>
      refine .inl ⟨g1' (List.drop_eq_nil_iff.mp hd), ?_⟩
      unfold compG at q
      rw [guard_of hok] at q
      exact hf E α1 α H1 H S a acc av Q st ha rp1.hd hah han rp hav lav q
    | cons d ds =>
      have hi : s.items[i]? = some d := by
        have : (s.items.drop i)[0]? = some d := by rw [hd]; rfl
        rw [List.getElem?_drop] at this
        exact this
      have hd' : s.items.drop (i + 1) = ds := by rw [← List.drop_drop, hd]; rfl
      obtain ⟨g3, g4⟩ := g2 d hi
      refine .inr ⟨g3, fun H => ∃ (α : Al) (S : Sto) (acc : List D) (av : List V), Stp α1 H1 α H ∧ a ∈ α.hid ∧ a ∉ α.al ∧ Rep X.K X.w α S H ∧ H a = some (.lst av) ∧ RepL X.K X.w α H acc av ∧
        Post X.K X.w (RepD X.K X.w) E α1 H1 ((compG s.ok g t (bIn f1 vs1 g1 t1 e) (wipeR ρ vs) ds acc S).bind fin) Q,
        fun H' ⟨α', S', acc', av', h2, h3, h4, h5, h6, h7, h8⟩ => ⟨ds.length, by rw [hm]; exact Nat.lt_succ_self _, α', S', ds, acc', av', hd', rfl, h2, h3, h4, h5, h6, h7, h8⟩, fun x H' hy => ?_⟩
      obtain ⟨stx, rpx, rx⟩ := g4 x H' hy
      unfold compG at q
      rw [guard_of hok, as] at q
      have reW : RepE X.K X.w α H' (wipeR ρ vs) (L2.wipe σ vs) := re1.mono (st.trans stx)
      refine ⟨α, S, wipeR ρ vs, d, rpx, reW, rx, Post.stepX (st.trans stx) q fun ρ1 S3 α3 H3 σ3 _ st3 rp3 re3 q3 => ⟨re3.2.trans (by rw [wipe_wipe]), ?_⟩⟩
      rw [as] at q3
      refine ⟨α3, S3, ρ1, rp3, re3.1, Post.stepX ((st.trans stx).trans st3) q3 fun b S4 α4 H4 c _ st4 rp4 r4 q4 => ?_⟩
      subst r4
      have st04 := ((st.trans stx).trans st3).trans st4
      have st14 := (stx.trans st3).trans st4
      have hav4 : H4 a = some (.lst av) := (st14.keep a hah).trans hav
      have hah4 : a ∈ α4.hid := st14.stay a hah
      have lav4 := repL_mono st14 _ _ lav
      cases b with
      | false =>
        rw [if_neg Bool.false_ne_true] at q4 ⊢
        exact ⟨α4, S4, acc, av, st04, hah4, rp4.dj a hah4, rp4, hav4, lav4, q4⟩
      | true =>
        rw [if_pos rfl] at q4 ⊢
        rw [as] at q4
        have re4 := re3.1.mono st4
        -- the inner clause
        cases hf1 : f1 ρ1 S4 with
        | stuck => simp only [bIn, noX, hf1, Out.bind] at q4; exact q4.elim
        | exc c p S5 => simp only [bIn, noX, hf1, Out.bind] at q4; exact q4.elim
        | val s1 S5 =>
          have q5 : Post X.K X.w (RepD X.K X.w) E α1 H1 ((noX (fun S => compG s1.ok g1 t1 (bLst e) (wipeR ρ1 vs1) s1.items acc S) S5).bind fun acc' S6 => (compG s.ok g t (bIn f1 vs1 g1 t1 e) (wipeR ρ vs) ds acc' S6).bind fin) Q := by
            simp only [bIn, noX, hf1, Out.bind] at q4
            exact q4
          have q5 : Post X.K X.w (RepD X.K X.w) E α1 H1 (((compG s1.ok g1 t1 (bLst e) (wipeR ρ1 vs1) s1.items acc S5)).bind fun acc' S6 => (compG s.ok g t (bIn f1 vs1 g1 t1 e) (wipeR ρ vs) ds acc' S6).bind fin) Q := by
            cases hz : compG s1.ok g1 t1 (bLst e) (wipeR ρ1 vs1) s1.items acc S5 with
            | val x S6 => simp only [noX, hz] at q5; exact q5
            | exc c p S6 => simp only [noX, hz] at q5; exact q5.elim
            | stuck => simp only [noX, hz] at q5; exact q5.elim
          have hok1 : s1.ok S5 := compG_ok fun e => by rw [e] at q5; exact q5
          refine ⟨α4, S4, ρ1, rp4, re4, by
            rw [hf1]
            refine ⟨hok1, fun α5 H5 J1 st5 rp5 gv1 => ?_⟩
            have st05 := st04.trans st5
            have hah5 : a ∈ α5.hid := st5.stay a hah4
            have hav5 : H5 a = some (.lst av) := (st5.keep a hah4).trans hav4
            have reW1 : RepE X.K X.w α5 H5 (wipeR ρ1 vs1) (L2.wipe σ3 vs1) := (re4.mono st5).wipe _
            refine ⟨fun j k H => ∃ (α : Al) (S : Sto) (ds1 acc : List D) (av : List V), s1.items.drop j = ds1 ∧ k = ds1.length ∧ Stp α1 H1 α H ∧ Stq α5 H5 α H ∧ a ∈ α.hid ∧ Rep X.K X.w α S H ∧ H a = some (.lst av) ∧ RepL X.K X.w α H acc av ∧
              Post X.K X.w (RepD X.K X.w) E α1 H1 ((compG s1.ok g1 t1 (bLst e) (wipeR ρ1 vs1) ds1 acc S).bind fun acc' S6 => (compG s.ok g t (bIn f1 vs1 g1 t1 e) (wipeR ρ vs) ds acc' S6).bind fin) Q,
              ⟨_, α5, S5, s1.items, acc, av, rfl, rfl, st05, Stp.refl.q, hah5, rp5, hav5, repL_mono st5 _ _ lav4, q5⟩, ?_⟩
            rintro j k H ⟨α, S, ds1, acc, av, hd1, hk1, st6, sq6, hah6, rp6, hav6, lav6, q6⟩
            have hok6 : s1.ok S := compG_ok fun e => by rw [e] at q6; exact q6
            obtain ⟨p1, p2⟩ := gv1 α S H sq6 rp6 hok6 j
            cases ds1 with
            | nil =>
              refine .inl ⟨p1 (List.drop_eq_nil_iff.mp hd1), ?_⟩
              rw [compG_nil, guard_of hok6] at q6
              exact ⟨α, S, acc, av, st6, hah6, rp6.dj a hah6, rp6, hav6, lav6, q6⟩
            | cons d1 ds1 =>
              have hi1 : s1.items[j]? = some d1 := by
                have : (s1.items.drop j)[0]? = some d1 := by rw [hd1]; rfl
                rw [List.getElem?_drop] at this
                exact this
              have hd1' : s1.items.drop (j + 1) = ds1 := by rw [← List.drop_drop, hd1]; rfl
              obtain ⟨p3, p4⟩ := p2 d1 hi1
              refine .inr ⟨p3, fun H => ∃ (α : Al) (S : Sto) (acc : List D) (av : List V), Stp α1 H1 α H ∧ Stq α5 H5 α H ∧ a ∈ α.hid ∧ Rep X.K X.w α S H ∧ H a = some (.lst av) ∧ RepL X.K X.w α H acc av ∧
                Post X.K X.w (RepD X.K X.w) E α1 H1 ((compG s1.ok g1 t1 (bLst e) (wipeR ρ1 vs1) ds1 acc S).bind fun acc' S6 => (compG s.ok g t (bIn f1 vs1 g1 t1 e) (wipeR ρ vs) ds acc' S6).bind fin) Q,
                fun H' ⟨α', S', acc', av', a1, a2, a3, a4, a5, a6, a7⟩ => ⟨ds1.length, by rw [hk1]; exact Nat.lt_succ_self _, α', S', ds1, acc', av', hd1', rfl, a1, a2, a3, a4, a5, a6, a7⟩, fun x1 H' hy1 => ?_⟩
              obtain ⟨sty, rpy, ry⟩ := p4 x1 H' hy1
              rw [compG_cons, guard_of hok6, as] at q6
              have reY : RepE X.K X.w α H' (wipeR ρ1 vs1) (L2.wipe σ3 vs1) := (reW1.monoQ sq6).mono sty
              refine ⟨α, S, wipeR ρ1 vs1, d1, rpy, reY, ry, Post.stepX (st6.trans sty) q6 fun ρ7 S7 α7 H7 σ7 _ st7 rp7 re7 q7 => ⟨re7.2.trans (by rw [wipe_wipe]), ?_⟩⟩
              rw [as] at q7
              refine ⟨α7, S7, ρ7, rp7, re7.1, Post.stepX ((st6.trans sty).trans st7) q7 fun b1 S8 α8 H8 c1 _ st8 rp8 r8 q8 => ?_⟩
              subst r8
              have st18 := ((st6.trans sty).trans st7).trans st8
              have st68 := (sty.trans st7).trans st8
              have hav8 : H8 a = some (.lst av) := (st68.keep a hah6).trans hav6
              have hah8 : a ∈ α8.hid := st68.stay a hah6
              have lav8 := repL_mono st68 _ _ lav6
              cases b1 with
              | false =>
                rw [if_neg Bool.false_ne_true] at q8 ⊢
                exact ⟨α8, S8, acc, av, st18, sq6.trans st68.q, hah8, rp8, hav8, lav8, q8⟩
              | true =>
                rw [if_pos rfl] at q8 ⊢
                rw [as] at q8
                cases he : e ρ7 S8 with
                | stuck => simp only [bLst, noX, he, Out.bind] at q8; exact q8.elim
                | exc c p S9 => simp only [bLst, noX, he, Out.bind] at q8; exact q8.elim
                | val y S9 =>
                  by_cases hl : acc.length < sizeLine
                  case neg => simp only [bLst, noX, he, Out.bind, if_neg hl] at q8; exact q8.elim
                  have eb : noX (bLst e ρ7 acc) S8 = .val (acc ++ [y]) S9 := by simp [he, hl]
                  rw [eb] at q8
                  refine ⟨α8, S8, ρ7, rp8, re7.1.mono st8, by
                    rw [he]
                    intro α9 H9 yv st9 rp9 r9
                    have hav9 : H9 a = some (.lst av) := (st9.keep a hah8).trans hav8
                    have hah9 : a ∈ α9.hid := st9.stay a hah8
                    have hnt : ∀ us, ¬ Rd H9 a (.tup us) := lst_notup hav9
                    refine ⟨av, hav9, by rw [lav8.length]; exact hl, α9, S9, acc ++ [y], av ++ [yv], stp_later (st18.trans st9) ha rp1.hd, (sq6.trans (st68.trans st9).q).trans (stq_hid hah9 hnt (nofrz hav9)), hah9, rep_hid rp9 hah9 hnt, upd_same, ?_, q8⟩
                    exact (repL_hid hah9 hnt _ _ (repL_mono st9 _ _ lav8)).append (.one (repD_hid hah9 hnt _ _ r9))⟩⟩
variable {pos : Pos} {elt tg iter tg1 iter1 : Expr} {ifs ifs1 : List Expr} {scope : Scope} {own : List (Str × Nat)}
/-- [elt for tg in iter if .. for tg1 in iter1 if ..] -/
theorem ze_lc2 (hf : Fin X.K X.w fin) (hc : X.calm = true) (hN : X.N.Nodup) (hi : ZI X E tg iter f) (ok : BlkOk X.N X.env.scope scope own) (hv : ∀ i ∈ vs1, i ∈ own.map (·.2))
    (hg : ∀ (s : Shared) (H : Hp) (C : Addr) (cl : List (Str × Addr)) (fp : List Addr), ZGw (X.blk s H scope (compEnvC scope cl C X.env) fp) E0 (own.map (·.2)) tg g)
    (ht : ∀ (s : Shared) (H : Hp) (C : Addr) (cl : List (Str × Addr)) (fp : List Addr), ZTs (X.blk s H scope (compEnvC scope cl C X.env) fp) E0 ifs t)
    (hi1 : ∀ (s : Shared) (H : Hp) (C : Addr) (cl : List (Str × Addr)) (fp : List Addr), ZI (X.blk s H scope (compEnvC scope cl C X.env) fp) E0 tg1 iter1 f1)
    (hg1 : ∀ (s : Shared) (H : Hp) (C : Addr) (cl : List (Str × Addr)) (fp : List Addr), ZGw (X.blk s H scope (compEnvC scope cl C X.env) fp) E0 vs1 tg1 g1)
    (ht1 : ∀ (s : Shared) (H : Hp) (C : Addr) (cl : List (Str × Addr)) (fp : List Addr), ZTs (X.blk s H scope (compEnvC scope cl C X.env) fp) E0 ifs1 t1)
    (he : ∀ (s : Shared) (H : Hp) (C : Addr) (cl : List (Str × Addr)) (fp : List Addr), ZE (X.blk s H scope (compEnvC scope cl C X.env) fp) E0 elt e) (hs : ∀ x, foldedSetIterable iter X.env x = pure x := by intro _; rfl) (hs1 : ∀ env x, foldedSetIterable iter1 env x = pure x := by intro _ _; rfl) :
    ZE X E (.ListComp elt [⟨tg, iter, ifs, 0⟩, ⟨tg1, iter1, ifs1, 0⟩] scope pos) (eGath f (own.map (·.2)) g t (bIn f1 vs1 g1 t1 e) [] fin) := PE.weak (pe_lc2 hc hN hi ok hv hg ht hi1 hg1 ht1 he hs hs1) fun σ H Q h => lc2_read hf h
end
end Z
set_option Elab.async false
set_option linter.all false
set_option maxRecDepth 100000
set_option maxHeartbeats 1000000
/-! Z17: {}, methods of lists, dicts, texts, -x, x or y, truth. -/
namespace Z
open PySem L2 PySem.Spec PyProof.Rows
section
variable {X : Cx} {E : XK} {pos : Pos} {e e1 e2 : Expr} {es : List Expr} {f f1 f2 : Rho → M D}
/-! {} -/
@[simp] def eDcV : Rho → M D := fun _ S => .val (.dic [] []) S
@[simp] def eDcC : Rho → M D := fun _ S => .val (.ref S.length) (S ++ [.dic false [] []])
theorem ze_dcV : ZE X E (.Dict [] [] pos) eDcV := PE.weak pe_dnewN fun σ H Q ⟨α, S, ρ, rp, re, q⟩ => fun p hp => by
  have st : Stp α H α (upd H p (dHO X.w p [])) := stp_new rp.hd hp
  refine q α _ _ st (rp.new hp) ?_
  unfold RepD
  exact ⟨p, [], [], [], rfl, fun h => rp.fresh hp h, .inl upd_same, ⟨rfl, rfl, .nil, .nil⟩, RepL.nil, RepL.nil⟩
theorem ze_dcC : ZE X E (.Dict [] [] pos) eDcC := PE.weak pe_dnewN fun σ H Q ⟨α, S, ρ, rp, re, q⟩ => fun p hp => by
  have st : Stp α H (α.add p) (upd H p (dHO X.w p [])) := stp_cell rp.hd hp
  refine q (α.add p) _ _ st (rp.newCell hp ⟨[], [], [], by simp [upd_same], ⟨rfl, rfl, .nil, .nil⟩, RepL.nil, RepL.nil⟩) ?_
  unfold RepD
  exact ⟨p, rfl, by show (α.al ++ [p])[S.length]? = some p; rw [← rp.len, List.getElem?_append_right (Nat.le_refl _), Nat.sub_self]; rfl⟩
/-! -x -/
def opNeg : D → M D := fun d S => match d with
  | .int i => .val (.int (-i)) S
  | _ => .stuck
theorem ze_neg (h : ZE X E e f) : ZE X E (.UnaryOp .USub e pos) (eUn opNeg f) := PE.weak (pe_un un_neg h) fun σ H Q ⟨α, S, ρ, rp, re, q⟩ => by
  refine ⟨α, S, ρ, rp, re, Post.step q fun d S1 α1 H1 v _ st rp1 r1 q1 => ?_⟩
  unfold opNeg at q1
  split at q1
  · cases rep_int r1
    exact ⟨_, rfl, q1.now rp1 (repI _)⟩
  · exact q1.elim
/-! truth -/
def truD (S : Sto) : D → Option Bool
  | .non => some false
  | .bl b => some b
  | .int i => some (i != 0)
  | .str x => if x.length ≤ sizeLine then some ((x.length : Int) != 0) else none
  | d => match seqA S d with
    | some ds => some (!ds.isEmpty)
    | none => none
theorem empty_rep {K : PySem.W.Frag} {w : World} {α : Al} {H : Hp} {ds : List D} {vs : List V} (r : RepL K w α H ds vs) : (!vs.isEmpty) = (!ds.isEmpty) := by
  have := r.length
  cases ds <;> cases vs <;> simp_all
theorem truD_rep {K : PySem.W.Frag} {w : World} {α : Al} {H : Hp} {S : Sto} {d : D} {v : V} {b : Bool} (rp : Rep K w α S H) (h : truD S d = some b) (r : RepD K w α H d v) : TruV K v H b := by
  have sq : ∀ {d : D} {v : V} {ds : List D}, seqA S d = some ds → b = (!ds.isEmpty) → RepD K w α H d v → TruV K v H b := fun {d v ds} hs hb r => by
    obtain ⟨a, vs, rfl, h1, h2⟩ := seqA_rep rp hs r
    rcases h1 with h1 | h1
    · exact .inl ⟨vs, h1, by rw [hb, empty_rep h2]⟩
    · exact .inr (.inl ⟨vs, h1, by rw [hb, empty_rep h2]⟩)
  unfold truD at h
  split at h
  · cases h; cases rep_non r; rfl
  · cases h; cases rep_bl r; rfl
  · cases h; cases rep_int r; rfl
  · split at h
    · rename_i hz
      cases h; cases rep_str r; exact ⟨hz, rfl⟩
    · cases h
  · split at h
    · rename_i ds hs
      cases h
      exact sq hs rfl r
    · cases h
def opTru : D → M Bool := fun d S => match truD S d with
  | some b => .val b S
  | none => .stuck
/-- x or y, the value -/
@[simp] def eOrT (a b : Rho → M D) : Rho → M D := fun ρ S => (a ρ S).bind fun x S1 => (opTru x S1).bind fun q S2 => if q = true then .val x S2 else b ρ S2
theorem ze_orT (h1 : ZE X E e1 f1) (h2 : ZE X E (.BoolOp .Or (e2 :: es) pos) f2) : ZE X E (.BoolOp .Or (e1 :: e2 :: es) pos) (eOrT f1 f2) := PE.weak (pe_orT h1 h2) fun σ H Q ⟨α, S, ρ, rp, re, q⟩ => by
  refine ⟨α, S, ρ, rp, re, Post.step q fun x S1 α1 H1 v _ st rp1 r1 q1 => ?_⟩
  unfold opTru at q1
  cases hb : truD S1 x with
  | none => simp only [hb, Out.bind] at q1; exact q1.elim
  | some b =>
    simp only [hb, Out.bind] at q1
    refine ⟨b, truD_rep rp1 hb r1, ?_⟩
    cases b with
    | true => exact q1.now rp1 r1
    | false => exact ⟨α1, S1, ρ, rp1, re.mono st, q1⟩
end
/-! ### lists -/
def isLs (S : Sto) (d : D) : Bool := (seqL S d).isSome
theorem isLs_ty {X : Cx} {α : Al} {S : Sto} {H : Hp} {d : D} {x : V} (rp : Rep X.K X.w α S H) (h : isLs S d = true) (r : RepD X.K X.w α H d x) : tyV X.K "list" x H := by
  obtain ⟨ds, hs⟩ := Option.isSome_iff_exists.mp h
  obtain ⟨a, vs, rfl, h1, _⟩ := seqL_rep rp hs r
  exact .inl ⟨rfl, vs, h1⟩
def mAppend : D → List D → M D := fun o ds S => match o, ds with
  | .ref n, [y] => (match S[n]? with
    | some (.lst xs) => if xs.length < sizeLine then .val .non (S.set n (.lst (xs ++ [y]))) else .stuck
    | _ => .stuck)
  | _, _ => .stuck
theorem me_append {X : Cx} {E : XK} : MeS X E isLs (tyV X.K "list") rAppend mAppend := ⟨fun α S H d x rp h r => isLs_ty rp h r, fun α S H d ds x vs Q rp r rl q => by
  unfold mAppend at q
  split at q
  · rename_i n y
    cases hs : S[n]? with
    | none => simp only [hs] at q; exact q.elim
    | some c =>
      cases c with
      | lst xs =>
        simp only [hs] at q
        by_cases hz : xs.length < sizeLine
        · rw [if_pos hz] at q
          unfold RepD at r
          obtain ⟨a, rfl, ha⟩ := r
          obtain ⟨v, rfl, rv⟩ := repL1 rl
          obtain ⟨ws, h1, h2⟩ := rp.cell n _ a hs ha
          have st := stp_set (o := .lst (ws ++ [v])) rp ha (nofrz h1)
          exact ⟨a, ws, v, rfl, rfl, h1, by rw [h2.length]; exact hz, q α _ _ st (rp.setCell ha (nofrz h1) ⟨_, upd_same, (repL_mono st _ _ h2).append (.one (repD_mono st _ _ rv))⟩) repN⟩
        · rw [if_neg hz] at q; exact q.elim
      | dic lk ks vs => simp only [hs] at q; exact q.elim
      | ins c fs => simp only [hs] at q; exact q.elim
  · exact q.elim⟩
/-! ### dicts -/
def isDc (S : Sto) (d : D) : Bool := (dictOf S d).isSome
theorem isDc_ty {X : Cx} {α : Al} {S : Sto} {H : Hp} {d : D} {x : V} (rp : Rep X.K X.w α S H) (h : isDc S d = true) (r : RepD X.K X.w α H d x) : tyDict X x H := by
  obtain ⟨⟨ks, ds⟩, hs⟩ := Option.isSome_iff_exists.mp h
  obtain ⟨a, kv, vs, xs, rfl, g⟩ := dictOf_at rp hs r
  exact ⟨a, xs, rfl, g.rd⟩
def mGet1 : D → List D → M D := fun o ds S => match dictOf S o, ds with
  | some (ks, vs), [k] => if isKey 8 k = true then .val ((dGet ks vs k).getD .non) S else .stuck
  | _, _ => .stuck
def mGet2 : D → List D → M D := fun o ds S => match dictOf S o, ds with
  | some (ks, vs), [k, z] => if isKey 8 k = true then .val ((dGet ks vs k).getD z) S else .stuck
  | _, _ => .stuck
def mSetd : D → List D → M D := fun o ds S => match o, ds with
  | .ref n, [k, z] => (match S[n]? with
    | some (.dic false ks vs) => if isKey 8 k = true ∧ ks.length < sizeLine then (match dGet ks vs k with
      | some d => .val d S
      | none => .val z (S.set n (.dic false (dPut ks vs k z).1 (dPut ks vs k z).2))) else .stuck
    | _ => .stuck)
  | _, _ => .stuck
theorem me_get1 {X : Cx} {E : XK} : MeS X E isDc (tyDict X) (rGet1N X) mGet1 := ⟨fun α S H d x rp h r => isDc_ty rp h r, fun α S H d ds x vs Q rp r rl q => by
  unfold mGet1 at q
  split at q
  · rename_i ks us k hd
    split at q
    · rename_i hk
      obtain ⟨y, rfl, ry⟩ := repL1 rl
      obtain ⟨a, kv, ws, xs, rfl, g⟩ := dictOf_at rp hd r
      refine ⟨α, a, ks, us, kv, ws, xs, k, y, rfl, rfl, g, hk, ry, fun d z hg rz => ?_, fun hg => ?_⟩
      · rw [hg] at q; exact q.now rp rz
      · rw [hg] at q; exact q.now rp repN
    · exact q.elim
  · exact q.elim⟩
theorem me_get2 {X : Cx} {E : XK} : MeS X E isDc (tyDict X) (rGet2N X) mGet2 := ⟨fun α S H d x rp h r => isDc_ty rp h r, fun α S H d ds x vs Q rp r rl q => by
  unfold mGet2 at q
  split at q
  · rename_i ks us k z hd
    split at q
    · rename_i hk
      obtain ⟨y, u, rfl, ry, ru⟩ := repL2 rl
      obtain ⟨a, kv, ws, xs, rfl, g⟩ := dictOf_at rp hd r
      refine ⟨α, a, ks, us, kv, ws, xs, k, y, u, rfl, rfl, g, hk, ry, fun d z hg rz => ?_, fun hg => ?_⟩
      · rw [hg] at q; exact q.now rp rz
      · rw [hg] at q; exact q.now rp ru
    · exact q.elim
  · exact q.elim⟩
theorem me_setd {X : Cx} {E : XK} : MeS X E isDc (tyDict X) (rSetdN X) mSetd := ⟨fun α S H d x rp h r => isDc_ty rp h r, fun α S H d ds x vs Q rp r rl q => by
  unfold mSetd at q
  split at q
  · rename_i n k z
    cases hs : S[n]? with
    | none => simp only [hs] at q; exact q.elim
    | some c =>
      cases c with
      | lst xs => simp only [hs] at q; exact q.elim
      | ins c fs => simp only [hs] at q; exact q.elim
      | dic lk ks us =>
        cases lk with
        | true => simp only [hs] at q; exact q.elim
        | false =>
          simp only [hs] at q
          by_cases hc : isKey 8 k = true ∧ ks.length < sizeLine
          · rw [if_pos hc] at q
            unfold RepD at r
            obtain ⟨a, rfl, ha⟩ := r
            obtain ⟨y, u, rfl, ry, ru⟩ := repL2 rl
            obtain ⟨kv, ws, xs, h1, h2, h3, h4⟩ := rp.cell n _ a hs ha
            have h1 : H a = some (dHO X.w a xs) := by simpa using h1
            refine ⟨α, a, ks, us, kv, ws, xs, k, z, y, u, rfl, rfl, h1, h2, h3, h4, hc.1, ry, ru, hc.2, fun d z' hg rz => ?_, fun hg kv' vs' xs' t1 t2 t3 => ?_⟩
            · rw [hg] at q; exact q.now rp rz
            · rw [hg] at q
              have st := stp_set (o := dHO X.w a xs') rp ha (nofrz h1)
              exact q α _ _ st (rp.setCell ha (nofrz h1) ⟨kv', vs', xs', by simp [upd_same], t1, repL_mono st _ _ t2, repL_mono st _ _ t3⟩) (repD_mono st _ _ ru)
          · rw [if_neg hc] at q; exact q.elim
  · exact q.elim⟩
/-! ### texts -/
def isSt (S : Sto) (d : D) : Bool := match d with
  | .str _ => true
  | _ => false
def strsD : List D → Option (List Str)
  | [] => some []
  | .str b :: r => (strsD r).map (b :: ·)
  | _ => none
theorem strsD_map : ∀ {ds : List D} {bs : List Str}, strsD ds = some bs → ds = bs.map D.str
  | [], bs, h => by cases h; rfl
  | d :: r, bs, h => by
    cases d with
    | str b =>
      unfold strsD at h
      cases e : strsD r with
      | none => rw [e] at h; cases h
      | some cs => rw [e] at h; cases h; rw [strsD_map e]; rfl
    | _ => cases h
theorem strsD_of (bs : List Str) : strsD (bs.map D.str) = some bs := by
  induction bs with
  | nil => rfl
  | cons b r ih => show (strsD (r.map D.str)).map (b :: ·) = _; rw [ih]; rfl
def mJoin : D → List D → M D := fun o ds S => match o, ds with
  | .str a, [l] => (match seqA S l with
    | some es => (match strsD es with
      | some ys => if (ys.map (·.length)).sum + ys.length * a.length ≤ 16777216 then .val (.str (Txt.join a ys)) S else .stuck
      | none => .stuck)
    | none => .stuck)
  | _, _ => .stuck
def rJoinZ (K : PySem.W.Frag) : V → List V → Hp → VK → Prop := fun x xs H Q => ∃ a p, ∃ ys : List Str, x = .str a ∧ xs = [.ref p] ∧ (SqL K H p (ys.map V.str) ∨ SqT K H p (ys.map V.str)) ∧ (ys.map (·.length)).sum + ys.length * a.length ≤ 16777216 ∧ Q (.str (Txt.join a ys)) H
theorem mt_joinZ {X : Cx} : MtR X "str.join" (rJoinZ X.K) := mt_join
theorem isSt_ty {X : Cx} {α : Al} {S : Sto} {H : Hp} {d : D} {x : V} (h : isSt S d = true) (r : RepD X.K X.w α H d x) : tyV X.K "str" x H := by
  cases d with
  | str a =>
    cases rep_str r
    exact rfl
  | _ => cases h
theorem me_join {X : Cx} {E : XK} : MeS X E isSt (tyV X.K "str") (rJoinZ X.K) mJoin := ⟨fun α S H d x rp h r => isSt_ty h r, fun α S H d ds x vs Q rp r rl q => by
  unfold mJoin at q
  split at q
  · rename_i a l
    cases rep_str r
    obtain ⟨v, rfl, rv⟩ := repL1 rl
    split at q
    · rename_i es hs
      split at q
      · rename_i ys hy
        split at q
        · rename_i hz
          obtain ⟨p, ws, rfl, h1, h2⟩ := seqA_rep rp hs rv
          rw [strsD_map hy] at h2
          rw [h2.strs] at h1
          exact ⟨a, p, ys, rfl, rfl, h1, hz, q.now rp (repS _)⟩
        · exact q.elim
      · exact q.elim
    · exact q.elim
  · exact q.elim⟩
/-! ### the rules by name -/
section
variable {X : Cx} {E : XK} {pos apos cpos : Pos} {o e : Expr} {es : List Expr} {fo : Rho → M D} {g : Rho → M (List D)}
theorem ze_append (ho : ZE X E o fo) (ha : ZA X E [e] g) (hbase : attributeBase o "append" X.env (eval o X.env) = eval o X.env := by rfl)
    (hfew : ((backTo cpos (starEach [e] X.env)).all (fun x => !x.1) && (backToKw cpos (keywordEach [] X.env)).all (fun x => x.1.isSome)
      && decide (([e] : List Expr).length + ([] : List Keyword).length + (if ([] : List Keyword).isEmpty then 0 else 1) < 30)) = true := by rfl)
    (hline : (apos.endLine == cpos.line) = true := by rfl) (hst : starEach [e] X.env = (false, eval e X.env) :: starEach [] X.env := by rfl) (hplain : (backTo cpos (starEach [] X.env)).any (·.1) = false := by rfl) :
    ZE X E (.Call (.Attribute o "append" apos) [e] [] cpos) (eMth isLs mAppend fo g) := ze_mb me_append PySem.F.plainAttrs_list PySem.F.slot_list_append PySem.F.type_list_append mt_append ho ha hbase hfew hline hst hplain
theorem ze_join (ho : ZE X E o fo) (ha : ZA X E [e] g) (hbase : attributeBase o "join" X.env (eval o X.env) = eval o X.env := by rfl)
    (hfew : ((backTo cpos (starEach [e] X.env)).all (fun x => !x.1) && (backToKw cpos (keywordEach [] X.env)).all (fun x => x.1.isSome)
      && decide (([e] : List Expr).length + ([] : List Keyword).length + (if ([] : List Keyword).isEmpty then 0 else 1) < 30)) = true := by rfl)
    (hline : (apos.endLine == cpos.line) = true := by rfl) (hst : starEach [e] X.env = (false, eval e X.env) :: starEach [] X.env := by rfl) (hplain : (backTo cpos (starEach [] X.env)).any (·.1) = false := by rfl) :
    ZE X E (.Call (.Attribute o "join" apos) [e] [] cpos) (eMth isSt mJoin fo g) := ze_mb me_join PySem.F.plainAttrs_str PySem.F.slot_str_join PySem.F.type_str_join mt_joinZ ho ha hbase hfew hline hst hplain
theorem ze_get1 (hu : X.A.units + 64 < cLine) (ho : ZE X E o fo) (ha : ZA X E [e] g) (hbase : attributeBase o "get" X.env (eval o X.env) = eval o X.env := by rfl)
    (hfew : ((backTo cpos (starEach [e] X.env)).all (fun x => !x.1) && (backToKw cpos (keywordEach [] X.env)).all (fun x => x.1.isSome)
      && decide (([e] : List Expr).length + ([] : List Keyword).length + (if ([] : List Keyword).isEmpty then 0 else 1) < 30)) = true := by rfl)
    (hline : (apos.endLine == cpos.line) = true := by rfl) (hst : starEach [e] X.env = (false, eval e X.env) :: starEach [] X.env := by rfl) (hplain : (backTo cpos (starEach [] X.env)).any (·.1) = false := by rfl) :
    ZE X E (.Call (.Attribute o "get" apos) [e] [] cpos) (eMth isDc mGet1 fo g) := ze_mg ty_dict me_get1 PySem.F.plainAttrs_dict PySem.F.slot_dict_get PySem.F.type_dict_get (mt_get1 hu) ho ha hbase hfew hline hst hplain
variable {e2 : Expr}
theorem ze_get2 (hu : X.A.units + 64 < cLine) (ho : ZE X E o fo) (ha : ZA X E [e, e2] g) (hbase : attributeBase o "get" X.env (eval o X.env) = eval o X.env := by rfl)
    (hfew : ((backTo cpos (starEach [e, e2] X.env)).all (fun x => !x.1) && (backToKw cpos (keywordEach [] X.env)).all (fun x => x.1.isSome)
      && decide (([e, e2] : List Expr).length + ([] : List Keyword).length + (if ([] : List Keyword).isEmpty then 0 else 1) < 30)) = true := by rfl)
    (hline : (apos.endLine == cpos.line) = true := by rfl) (hst : starEach [e, e2] X.env = (false, eval e X.env) :: starEach [e2] X.env := by rfl) (hplain : (backTo cpos (starEach [e2] X.env)).any (·.1) = false := by rfl) :
    ZE X E (.Call (.Attribute o "get" apos) [e, e2] [] cpos) (eMth isDc mGet2 fo g) := ze_mg ty_dict me_get2 PySem.F.plainAttrs_dict PySem.F.slot_dict_get PySem.F.type_dict_get (mt_get2 hu) ho ha hbase hfew hline hst hplain
theorem ze_setd (hu : X.A.units + 64 < cLine) (ho : ZE X E o fo) (ha : ZA X E [e, e2] g) (hbase : attributeBase o "setdefault" X.env (eval o X.env) = eval o X.env := by rfl)
    (hfew : ((backTo cpos (starEach [e, e2] X.env)).all (fun x => !x.1) && (backToKw cpos (keywordEach [] X.env)).all (fun x => x.1.isSome)
      && decide (([e, e2] : List Expr).length + ([] : List Keyword).length + (if ([] : List Keyword).isEmpty then 0 else 1) < 30)) = true := by rfl)
    (hline : (apos.endLine == cpos.line) = true := by rfl) (hst : starEach [e, e2] X.env = (false, eval e X.env) :: starEach [e2] X.env := by rfl) (hplain : (backTo cpos (starEach [e2] X.env)).any (·.1) = false := by rfl) :
    ZE X E (.Call (.Attribute o "setdefault" apos) [e, e2] [] cpos) (eMth isDc mSetd fo g) := ze_mg ty_dict me_setd PySem.F.plainAttrs_dict PySem.F.slot_dict_setdefault PySem.F.type_dict_setdefault (mt_setd hu) ho ha hbase hfew hline hst hplain
end
end Z
set_option Elab.async false
set_option linter.all false
set_option maxRecDepth 100000
set_option maxHeartbeats 1000000
/-! Z18: constants of the module, the head, the end. -/
namespace Z
open PySem L2 PySem.Spec PyProof.Rows
/-! ### constants -/
mutual
def conV (K : PySem.W.Frag) : D → Value → Bool
  | .non, .none => true
  | .bl b, .bool c => b == c
  | .int i, .int j _ => decide (i = j)
  | .str x, .str y _ => decide (x = y)
  | .tup ds, .ref a => (match K.lookup a with
    | some ⟨.type c, _, .seq its _, _⟩ => decide (c = "tuple") && (decide (its.size ≤ sizeLine) && conVs K ds its.toList)
    | _ => false)
  | _, _ => false
def conVs (K : PySem.W.Frag) : List D → List Value → Bool
  | [], [] => true
  | d :: ds, u :: us => conV K d u && conVs K ds us
  | _, _ => false
end
mutual
theorem conV_ok {K : PySem.W.Frag} {w : World} : ∀ (d : D) (u : Value), conV K d u = true → ∃ v, RelV v u ∧ ∀ α H, RepD K w α H d v
  | .non, u, h => by
    cases u with
    | none => exact ⟨.non, rfl, fun _ _ => repN⟩
    | _ => simp [conV] at h
  | .bl b, u, h => by
    cases u with
    | bool c =>
      have e : b = c := by simpa [conV] using h
      subst e
      exact ⟨.bl b, rfl, fun _ _ => repB _⟩
    | _ => simp [conV] at h
  | .int i, u, h => by
    cases u with
    | int j t =>
      have e : i = j := by simpa [conV] using h
      subst e
      exact ⟨.int i, ⟨t, rfl⟩, fun _ _ => repI _⟩
    | _ => simp [conV] at h
  | .str i, u, h => by
    cases u with
    | str j t =>
      have e : i = j := by simpa [conV] using h
      subst e
      exact ⟨.str i, ⟨t, rfl⟩, fun _ _ => repS _⟩
    | _ => simp [conV] at h
  | .tup ds, u, h => by
    cases u with
    | ref a =>
      simp only [conV] at h
      split at h
      · rename_i c od its n sl hk
        simp only [Bool.and_eq_true, decide_eq_true_eq] at h
        obtain ⟨h1, h2, h3⟩ := h
        obtain ⟨vs, r1, r2⟩ := conVs_ok (w := w) ds _ h3
        exact ⟨.ref a, rfl, fun α H => repT (.inr ⟨_, its, n, hk, congrArg Value.type h1, rfl, h2, r1⟩) (r2 α H)⟩
      · cases h
    | _ => simp [conV] at h
  | .lst _, u, h => by cases u <;> simp [conV] at h
  | .wl _, u, h => by cases u <;> simp [conV] at h
  | .dic _ _, u, h => by cases u <;> simp [conV] at h
  | .ref _, u, h => by cases u <;> simp [conV] at h
theorem conVs_ok {K : PySem.W.Frag} {w : World} : ∀ (ds : List D) (us : List Value), conVs K ds us = true → ∃ vs, Vals vs us ∧ ∀ α H, RepL K w α H ds vs
  | [], us, h => by
    cases us with
    | nil => exact ⟨[], .nil, fun _ _ => RepL.nil⟩
    | cons u us => simp [conVs] at h
  | d :: ds, us, h => by
    cases us with
    | nil => simp [conVs] at h
    | cons u us =>
      simp only [conVs, Bool.and_eq_true] at h
      obtain ⟨v, r1, r2⟩ := conV_ok (w := w) d u h.1
      obtain ⟨vs, r3, r4⟩ := conVs_ok (w := w) ds us h.2
      exact ⟨v :: vs, .cons r1 r3, fun α H => .cons (r2 α H) (r4 α H)⟩
end
structure ConZ (mg : Str → Option Value) (K : PySem.W.Frag) (w : World) (x : Str) (d : D) : Prop where
  ex : ∃ u v, mg x = some u ∧ RelV v u ∧ ∀ α H, RepD K w α H d v
theorem ze_con {X : Cx} {E : XK} {x : Str} {d : D} {pos : Pos} (h : ConZ X.mg X.K X.w x d) (hg : Gl X x := by rfl) (hd : (x == ("__debug__" : Str)) = false := by decide) : ZE X E (.Name x pos) (eC d) := by
  obtain ⟨u, v, h1, h2, h3⟩ := h.ex
  exact ze_c (pe_glob hg h1 h2 hd) h3
def conOk (K : PySem.W.Frag) (p : Str × D) : Bool := match PySem.W.nsIn K mainGlobals p.1 with
  | some (some u) => conV K p.2 u
  | _ => false
theorem conZ_ok {K : PySem.W.Frag} {w : World} {h : Heap} {mg : Str → Option Value} {x : Str} {d : D} (X : K.In h) (G : h.Ns mainGlobals mg) (c : conOk K (x, d) = true) : ConZ mg K w x d := by
  unfold conOk at c
  split at c
  · rename_i u hu
    obtain ⟨v, r1, r2⟩ := conV_ok (w := w) d u c
    exact ⟨u, v, PySem.W.mg_of X G hu, r1, r2⟩
  · cases c
/-! ### the head -/
abbrev AlZ : Type := He.AlD × Bool
def obsZ (fa : List He.Fa) (fn : List He.DefD) (cs : List (Str × D)) (K : PySem.W.Frag) : AlZ := (He.obsD fa fn K, cs.all (conOk K))
def SaysZ (fa : List He.Fa) (fn : List He.DefD) (cs : List (Str × D)) (K : PySem.W.Frag) : Prop := He.SaysD fa fn K ∧ cs.all (conOk K) = true
def obsZG (n : Nat) (fa : List He.Fa) (fn : List He.DefD) (cs : List (Str × D)) (g : Addr → Option Obj) : AlZ := obsZ fa fn cs (He.frG g (He.asD g n))
def hookZ (n : Nat) (fa : List He.Fa) (fn : List He.DefD) (cs : List (Str × D)) : PySem.W.Hook where
  α := AlZ
  obs := fun s => obsZG n fa fn cs s.heap.get?
  val := fun _ => (He.valD fn, true)
  says := fun _ h => ∃ K : PySem.W.Frag, K.In h ∧ SaysZ fa fn cs K
  of := fun _ _ e => ⟨_, He.frG_in, congrArg (fun z : AlZ => z.1) e, congrArg (fun z : AlZ => z.2) e⟩
  keeps := fun _ _ _ ⟨K, hK, c⟩ k => ⟨K, PySem.W.Frag.In.keeps hK k, c⟩
theorem obsZG_eq {n : Nat} {fa : List He.Fa} {fn : List He.DefD} {cs : List (Str × D)} {g : Addr → Option Obj} {s : Shared} (h : ∀ a, g a = s.heap.get? a) : obsZG n fa fn cs g = (hookZ n fa fn cs).obs s := by
  have e : g = s.heap.get? := funext h
  rw [e] <;> rfl
theorem SaysZ.con {fa : List He.Fa} {fn : List He.DefD} {cs : List (Str × D)} {K : PySem.W.Frag} (c : SaysZ fa fn cs K) (i : Nat) {p : Str × D} (h : cs[i]? = some p := by rfl) : conOk K p = true :=
  List.all_eq_true.mp c.2 p (List.mem_of_getElem? h)
/-! ### the end: a law of a script of numbers -/
theorem sp_end {K : PySem.W.Frag} {w : World} {F : List D → M D} {H : Hp} {a : Addr} {ns : List Int} (h : ∃ S', F [.wl (ns.map D.int)] [] = .val (.bl true) S') (hs : SqL K H a (ns.map V.int)) : spZ K w 1 F [.ref a] H (fun v _ => v = .bl true) fun _ _ _ => False := by
  obtain ⟨S', h⟩ := h
  refine ⟨⟨[], []⟩, [], [.wl (ns.map D.int)], ⟨List.nodup_nil, rfl, fun b hb => (nomatch hb), fun b hb => (nomatch hb), fun n c a h => by simp at h⟩, RepL.one ?_, rfl, ?_⟩
  · unfold RepD
    refine ⟨a, _, rfl, ?_, RepL.ofInts⟩
    rcases hs with hs | hs
    · refine .inl ⟨fun z => ?_, hs⟩
      rcases z with z | z <;> exact (nomatch z)
    · exact .inr hs
  · rw [h]
    exact fun α' H' v st rp r => rep_bl r
/-! ### n op= m, ints -/
def opAddI : D → D → M D := fun x y S => match x, y with
  | .int i, .int j => .val (.int (i + j)) S
  | _, _ => .stuck
def mulS (i j : Int) : Bool := (decide (-(2 ^ 64) < i) && decide (i < 2 ^ 64)) || (decide (-(2 ^ 64) < j) && decide (j < 2 ^ 64))
def opMulI : D → D → M D := fun x y S => match x, y with
  | .int i, .int j => if mulS i j = true then .val (.int (i * j)) S else .stuck
  | _, _ => .stuck
theorem ip_addI {X : Cx} : PIp X .Add (rI0 fun i j => .int (i + j)) := iop_add
theorem ip_mulI {X : Cx} : PIp X .Mult (rI CMul fun i j => .int (i * j)) := iop_mul
theorem os_addI {X : Cx} {E : XK} : OpS X E (rI0 fun i j => .int (i + j)) opAddI := fun α S H d e v u Q rp r1 r2 q => by
  unfold opAddI at q
  split at q
  · cases rep_int r1; cases rep_int r2
    exact ⟨_, _, rfl, rfl, q.now rp (repI _)⟩
  · exact q.elim
theorem os_mulI {X : Cx} {E : XK} : OpS X E (rI CMul fun i j => .int (i * j)) opMulI := fun α S H d e v u Q rp r1 r2 q => by
  unfold opMulI at q
  split at q
  · split at q
    · rename_i i j hm
      cases rep_int r1; cases rep_int r2
      refine ⟨_, _, rfl, rfl, ?_, q.now rp (repI _)⟩
      unfold mulS at hm
      simpa [CMul] using hm
    · exact q.elim
  · exact q.elim
end Z
set_option Elab.async false
set_option linter.all false
set_option maxRecDepth 100000
set_option maxHeartbeats 2000000
/-! ZS: zip(.., strict=True) of two lists. -/
namespace PySem
open Sem (wp)
namespace ZS
abbrev IsZipS (h : Heap) (z TI TO : Addr) (f0 : Value) : Prop :=
  h.get? z = some { cls := .type "zip", dict := none, data := .fields #[f0, .bool false, .bool true, .ref TI, .ref TO], slots := #[] }
section
variable {prog : Program} {w : World} {A : Around} {E : Value → Shared → Prop} {s : Shared}
theorem orEnd_item {it l : Addr} {i : Nat} {items : Array Value} {x : Value} {Q : Option Value → Shared → Prop} (hit : s.heap.IsListIter it l i) (hl : s.heap.IsList l items) (hx : items[i]? = some x)
    (hQ : ∀ h', h'.IsListIter it l (i + 1) → Heap.SameBut it s.heap h' → Q (some x) { s with heap := h' }) : wpAny (model prog w) A (Builtin.SmallTypes.nextOrEnd (.ref it)) Q E s := by
  unfold Builtin.SmallTypes.nextOrEnd
  exact wpAny_bind (wpAny_attempt (wpAny_nextOf_list_item hit hl hx fun h' a b => wpAny_pure (hQ h' a b)))
theorem orEnd_end {it l : Addr} {i : Nat} {items : Array Value} {Q : Option Value → Shared → Prop} (hh : A.handled = none) (hit : s.heap.IsListIter it l i) (hl : s.heap.IsList l items) (hx : items[i]? = none)
    (hQ : ∀ h', Heap.ExtBut it s.heap h' → Q none { s with heap := h' }) : wpAny (model prog w) A (Builtin.SmallTypes.nextOrEnd (.ref it)) Q E s := by
  unfold Builtin.SmallTypes.nextOrEnd
  refine wpAny_bind (wpAny_attempt (wpAny_nextOf_list_end hh hit hl hx fun h' e a he => ?_))
  obtain ⟨o, ho, hc⟩ := he
  refine wpAny_bind (wpAny_isInstance (T := "StopIteration") (b := true) ⟨o, ho, hc⟩ isSubtype_stop ?_)
  exact wpAny_pure (hQ h' a)
theorem nextS_item {z TI TO i1 i2 l1 l2 : Addr} {k1 k2 : Nat} {xs ys : Array Value} {x y a b : Value} {Q : Value → Shared → Prop} (D : ZipApart z TI TO i1 i2 l1 l2)
    (hz : IsZipS s.heap z TI TO .none) (hTI : IsPair s.heap TI (.ref i1) (.ref i2)) (hTO : IsPair s.heap TO a b)
    (h1 : s.heap.IsListIter i1 l1 k1) (h2 : s.heap.IsListIter i2 l2 k2) (hl1 : s.heap.IsList l1 xs) (hl2 : s.heap.IsList l2 ys) (hx : xs[k1]? = some x) (hy : ys[k2]? = some y)
    (hQ : ∀ h', IsZipS h' z TI TO (rawInt s.heap.objs.size) → IsPair h' TO x y → h'.IsListIter i1 l1 (k1 + 1) → h'.IsListIter i2 l2 (k2 + 1) → IsPair h' s.heap.objs.size x y → h'.objs.size = s.heap.objs.size + 1 →
      (∀ c o, c ≠ z → c ≠ TO → c ≠ i1 → c ≠ i2 → s.heap.get? c = some o → h'.get? c = some o) → Q (.ref s.heap.objs.size) { s with heap := h' }) :
    wpAny (model prog w) A (Builtin.«zip.__next__» ⟨[.ref z], []⟩) (fun fin s' => ∃ v, fin = .done (.ret v) ∧ Q v s') E s := by
  show wpAny _ _ (field (.ref z) 2 >>= _) _ _ _
  refine wpAny_bind (wpAny_field hz rfl (x := .bool true) rfl ?_)
  show wpAny _ _ (field (.ref z) 3 >>= _) _ _ _
  refine wpAny_bind (wpAny_field hz rfl (x := .ref TI) rfl ?_)
  refine wpAny_bind (wpAny_seqItems hTI rfl ?_)
  show wpAny _ _ (Builtin.SmallTypes.ownedTupleIsFree (.ref z) >>= _) _ _ _
  refine wpAny_bind ?_
  unfold Builtin.SmallTypes.ownedTupleIsFree
  refine wpAny_bind (wpAny_field hz rfl (x := .none) rfl (wpAny_pure ?_))
  simp only [if_true]
  refine wpAny_bind (wpAny_rule ?_)
  refine wpAny_bind (wpAny_field hz rfl (x := .ref TO) rfl ?_)
  refine wpAny_bind (wpAny_setField_rec hz (by simp) fun h₁ hz₁ hs₁ => ?_)
  replace hz₁ : IsZipS h₁ z TI TO .ellipsis := hz₁
  refine wpAny_bind ?_
  simp only [List.zipIdx_cons, List.zipIdx_nil, List.forIn_cons, List.forIn_nil]
  refine wpAny_bind (wpAny_bind (wpAny_onRaise ?_))
  show wpAny _ _ (Builtin.SmallTypes.nextOrEnd (.ref i1)) _ _ _
  refine orEnd_item (h1.extBut hs₁.extBut D.i1z) (hl1.extBut hs₁.extBut D.l1z) hx fun h₂ h1₂ hs₂ => ?_
  have hTO₂ : IsPair h₂ TO a b := hs₂.extBut _ _ D.TOi1 (hs₁.extBut _ _ D.TOz hTO)
  refine wpAny_bind (wpAny_seqItems hTO₂ rfl ?_)
  refine wpAny_bind (wpAny_updateSeq_pair hTO₂ fun h₃ hTO₃ hs₃ => ?_)
  replace hTO₃ : IsPair h₃ TO x b := hTO₃
  refine wpAny_bind (wpAny_letGo (wpAny_pure ?_))
  refine wpAny_bind (wpAny_bind (wpAny_onRaise ?_))
  show wpAny _ _ (Builtin.SmallTypes.nextOrEnd (.ref i2)) _ _ _
  refine orEnd_item (((h2.extBut hs₁.extBut D.i2z).extBut hs₂.extBut D.i12.symm).extBut hs₃.extBut D.TOi2.symm)
    (((hl2.extBut hs₁.extBut D.l2z).extBut hs₂.extBut D.l2i1).extBut hs₃.extBut D.l2TO) hy fun h₄ h2₄ hs₄ => ?_
  have hTO₄ : IsPair h₄ TO x b := hs₄.extBut _ _ D.TOi2 hTO₃
  refine wpAny_bind (wpAny_seqItems hTO₄ rfl ?_)
  refine wpAny_bind (wpAny_updateSeq_pair hTO₄ fun h₅ hTO₅ hs₅ => ?_)
  replace hTO₅ : IsPair h₅ TO x y := hTO₅
  refine wpAny_bind (wpAny_letGo (wpAny_pure (wpAny_pure ?_)))
  refine wpAny_bind (wpAny_seqItems hTO₅ rfl ?_)
  refine wpAny_bind (wpAny_newTuple ?_)
  have hsz : h₅.objs.size = s.heap.objs.size := by rw [hs₅.1, hs₄.1, hs₃.1, hs₂.1, hs₁.1]
  have hz₅ : IsZipS h₅ z TI TO .ellipsis := hs₅.extBut _ _ D.TOz.symm (hs₄.extBut _ _ D.i2z.symm (hs₃.extBut _ _ D.TOz.symm (hs₂.extBut _ _ D.i1z.symm hz₁)))
  have hk₅ : ∀ c o, c ≠ z → c ≠ TO → c ≠ i1 → c ≠ i2 → s.heap.get? c = some o → h₅.get? c = some o := fun c o c1 c2 c3 c4 e =>
    hs₅.extBut _ _ c2 (hs₄.extBut _ _ c4 (hs₃.extBut _ _ c2 (hs₂.extBut _ _ c3 (hs₁.extBut _ _ c1 e))))
  have h1₅ : h₅.IsListIter i1 l1 (k1 + 1) := ((h1₂.extBut hs₃.extBut D.TOi1.symm).extBut hs₄.extBut D.i12).extBut hs₅.extBut D.TOi1.symm
  have h2₅ : h₅.IsListIter i2 l2 (k2 + 1) := h2₄.extBut hs₅.extBut D.TOi2.symm
  have hzlt : z < h₅.objs.size := Heap.lt_size hz₅
  show wpAny _ _ (Builtin.SmallTypes.ownedTupleHandOut (.ref z) (.ref h₅.objs.size) >>= _) _ _ _
  refine wpAny_bind ?_
  unfold Builtin.SmallTypes.ownedTupleHandOut
  have hz₆ : IsZipS (h₅.push { cls := .type "tuple", data := .seq #[x, y] }) z TI TO .ellipsis := Heap.get?_push_of_some _ hz₅
  refine wpAny_bind (wpAny_setField_rec hz₆ (by simp) fun h₇ hz₇ hs₇ => ?_)
  replace hz₇ : IsZipS h₇ z TI TO (rawInt h₅.objs.size) := hz₇
  refine wpAny_setField_rec hz₇ (by simp) fun h₈ hz₈ hs₈ => ?_
  replace hz₈ : IsZipS h₈ z TI TO (rawInt h₅.objs.size) := hz₈
  have up : ∀ c o, c ≠ z → h₅.get? c = some o → h₈.get? c = some o := fun c o c1 e => hs₈.extBut _ _ c1 (hs₇.extBut _ _ c1 (Heap.get?_push_of_some _ e))
  have hT₈ : IsPair h₈ h₅.objs.size x y := hs₈.extBut _ _ (Nat.ne_of_gt hzlt) (hs₇.extBut _ _ (Nat.ne_of_gt hzlt) (Heap.get?_push_size _ rfl))
  have hz8 : h₈.objs.size = h₅.objs.size + 1 := by rw [hs₈.1, hs₇.1, Heap.size_push]
  rw [hsz] at hz₈ hT₈ hz8
  refine wpAny_pure ⟨_, rfl, ?_⟩
  show Q (.ref h₅.objs.size) _
  rw [hsz]
  exact hQ h₈ hz₈ (up _ _ D.TOz hTO₅) (h1₅.at fun o e => up _ o D.i1z e) (h2₅.at fun o e => up _ o D.i2z e) hT₈ hz8 fun c o c1 c2 c3 c4 e => up c o c1 (hk₅ c o c1 c2 c3 c4 e)
theorem nextS_end {z TI TO i1 i2 l1 l2 : Addr} {k1 k2 : Nat} {xs ys : Array Value} {a b : Value} {Q : Fin → Shared → Prop} (hh : A.handled = none) (D : ZipApart z TI TO i1 i2 l1 l2)
    (hz : IsZipS s.heap z TI TO .none) (hTI : IsPair s.heap TI (.ref i1) (.ref i2)) (hTO : IsPair s.heap TO a b)
    (h1 : s.heap.IsListIter i1 l1 k1) (h2 : s.heap.IsListIter i2 l2 k2) (hl1 : s.heap.IsList l1 xs) (hl2 : s.heap.IsList l2 ys) (hx : xs[k1]? = none) (hy : ys[k2]? = none)
    (hE : ∀ h' e, (∀ c o, c ≠ z → c ≠ TO → c ≠ i1 → c ≠ i2 → s.heap.get? c = some o → h'.get? c = some o) → (∃ o, h'.get? e = some o ∧ o.cls = .type "StopIteration") → E (.ref e) { s with heap := h' }) :
    wpAny (model prog w) A (Builtin.«zip.__next__» ⟨[.ref z], []⟩) Q E s := by
  show wpAny _ _ (field (.ref z) 2 >>= _) _ _ _
  refine wpAny_bind (wpAny_field hz rfl (x := .bool true) rfl ?_)
  show wpAny _ _ (field (.ref z) 3 >>= _) _ _ _
  refine wpAny_bind (wpAny_field hz rfl (x := .ref TI) rfl ?_)
  refine wpAny_bind (wpAny_seqItems hTI rfl ?_)
  show wpAny _ _ (Builtin.SmallTypes.ownedTupleIsFree (.ref z) >>= _) _ _ _
  refine wpAny_bind ?_
  unfold Builtin.SmallTypes.ownedTupleIsFree
  refine wpAny_bind (wpAny_field hz rfl (x := .none) rfl (wpAny_pure ?_))
  simp only [if_true]
  refine wpAny_bind (wpAny_rule ?_)
  refine wpAny_bind (wpAny_field hz rfl (x := .ref TO) rfl ?_)
  refine wpAny_bind (wpAny_setField_rec hz (by simp) fun h₁ hz₁ hs₁ => ?_)
  replace hz₁ : IsZipS h₁ z TI TO .ellipsis := hz₁
  refine wpAny_bind ?_
  simp only [List.zipIdx_cons, List.zipIdx_nil, List.forIn_cons, List.forIn_nil]
  refine wpAny_bind (wpAny_bind (wpAny_onRaise ?_))
  show wpAny _ _ (Builtin.SmallTypes.nextOrEnd (.ref i1)) _ _ _
  refine orEnd_end hh (h1.extBut hs₁.extBut D.i1z) (hl1.extBut hs₁.extBut D.l1z) hx fun h₂ hs₂ => ?_
  have hz₂ : IsZipS h₂ z TI TO .ellipsis := hs₂ _ _ D.i1z.symm hz₁
  refine wpAny_bind (wpAny_setField_rec hz₂ (by simp) fun h₃ hz₃ hs₃ => ?_)
  have h2₃ : h₃.IsListIter i2 l2 k2 := ((h2.extBut hs₁.extBut D.i2z).at fun o e => hs₂ _ o D.i12.symm e).extBut hs₃.extBut D.i2z
  have hl2₃ : h₃.IsList l2 ys := ((hl2.extBut hs₁.extBut D.l2z).at fun o e => hs₂ _ o D.l2i1 e).extBut hs₃.extBut D.l2z
  refine wpAny_bind ?_
  refine wpAny_bind ?_
  simp only [List.drop_succ_cons, List.drop_zero, List.zipIdx_cons, List.zipIdx_nil, List.forIn_cons, List.forIn_nil]
  refine wpAny_bind (wpAny_bind ?_)
  refine orEnd_end hh h2₃ hl2₃ hy fun h₄ hs₄ => ?_
  simp only [Option.isSome_none, Bool.false_eq_true, if_false]
  refine wpAny_pure (wpAny_pure ?_)
  refine wpAny_bind (wpAny_rule ?_)
  unfold Builtin.SmallTypes.stopIteration
  refine wpAny_bind ?_
  simp only [newExc, newTuple]
  refine wpAny_bind (wpAny_newObj_type ?_ (by size_fits))
  refine wpAny_bind (m := firstArgMember _ _) (wpAny_of_eq (a := Value.none) (by first | rfl | (simp only [firstArgMember]; rfl)) ?_)
  refine wpAny_newObj_type ?_ (by size_fits)
  simp only [raiseNew]
  refine wpAny_bind (wpAny_handled ?_)
  first | rw [show A.in1.handled = none from hh] | rw [hh]
  refine wpAny_bind (wpAny_pure (wpAny_throw ?_))
  refine hE _ _ (fun c o c1 c2 c3 c4 e => ?_) ⟨_, Heap.get?_push_size _ rfl, rfl⟩
  exact Heap.get?_push_of_some _ (Heap.get?_push_of_some _ (hs₄ _ _ c4 (hs₃.extBut _ _ c1 (hs₂ _ _ c3 (hs₁.extBut _ _ c1 e)))))
theorem pyNextS_item {z TI TO i1 i2 l1 l2 : Addr} {k1 k2 : Nat} {xs ys : Array Value} {x y a b : Value} {Q : Option Value → Shared → Prop} (D : ZipApart z TI TO i1 i2 l1 l2)
    (hz : IsZipS s.heap z TI TO .none) (hTI : IsPair s.heap TI (.ref i1) (.ref i2)) (hTO : IsPair s.heap TO a b)
    (h1 : s.heap.IsListIter i1 l1 k1) (h2 : s.heap.IsListIter i2 l2 k2) (hl1 : s.heap.IsList l1 xs) (hl2 : s.heap.IsList l2 ys) (hx : xs[k1]? = some x) (hy : ys[k2]? = some y)
    (hQ : ∀ h', IsZipS h' z TI TO (rawInt s.heap.objs.size) → IsPair h' TO x y → h'.IsListIter i1 l1 (k1 + 1) → h'.IsListIter i2 l2 (k2 + 1) → IsPair h' s.heap.objs.size x y → h'.objs.size = s.heap.objs.size + 1 →
      (∀ c o, c ≠ z → c ≠ TO → c ≠ i1 → c ≠ i2 → s.heap.get? c = some o → h'.get? c = some o) → Q (some (.ref s.heap.objs.size)) { s with heap := h' }) :
    wpAny (model prog w) A (pyNext (.ref z)) Q E s := by
  have hT : s.TypeIs (.ref z) "zip" := ⟨_, hz, rfl⟩
  unfold pyNext
  exact wpAny_bind (wpAny_attempt (wpAny_callSpecial?_slot (name := Str.ofString "__next__") hT F.slot_zip_next
    (wpAny_call_entry F.slot_zip_next hT F.entry_zip_next
      (nextS_item D hz hTI hTO h1 h2 hl1 hl2 hx hy fun h' a1 a2 a3 a4 a5 a6 a7 => wpAny_pure (hQ h' a1 a2 a3 a4 a5 a6 a7)) (F.args_zip_next_1 _))))
theorem pyNextS_end {z TI TO i1 i2 l1 l2 : Addr} {k1 k2 : Nat} {xs ys : Array Value} {a b : Value} {Q : Option Value → Shared → Prop} (hh : A.handled = none) (D : ZipApart z TI TO i1 i2 l1 l2)
    (hz : IsZipS s.heap z TI TO .none) (hTI : IsPair s.heap TI (.ref i1) (.ref i2)) (hTO : IsPair s.heap TO a b)
    (h1 : s.heap.IsListIter i1 l1 k1) (h2 : s.heap.IsListIter i2 l2 k2) (hl1 : s.heap.IsList l1 xs) (hl2 : s.heap.IsList l2 ys) (hx : xs[k1]? = none) (hy : ys[k2]? = none)
    (hQ : ∀ h', (∀ c o, c ≠ z → c ≠ TO → c ≠ i1 → c ≠ i2 → s.heap.get? c = some o → h'.get? c = some o) → Q none { s with heap := h' }) : wpAny (model prog w) A (pyNext (.ref z)) Q E s := by
  have hT : s.TypeIs (.ref z) "zip" := ⟨_, hz, rfl⟩
  unfold pyNext
  refine wpAny_bind (wpAny_attempt (wpAny_callSpecial?_slot (name := Str.ofString "__next__") hT F.slot_zip_next
    (wpAny_call_entry F.slot_zip_next hT F.entry_zip_next (nextS_end hh D hz hTI hTO h1 h2 hl1 hl2 hx hy fun h' e hk he => ?_) (F.args_zip_next_1 _))))
  obtain ⟨o, ho, hc⟩ := he
  refine wpAny_bind (wpAny_isInstance (T := "StopIteration") (b := true) ⟨o, ho, hc⟩ isSubtype_stop ?_)
  exact wpAny_pure (hQ _ hk)
theorem letGoS {elts : List Expr} {x1} {pos : Pos} {z TI TO T : Addr} {Q : Unit → Shared → Prop} (hz : IsZipS s.heap z TI TO (rawInt T))
    (hQ : ∀ h', IsZipS h' z TI TO .none → Heap.SameBut z s.heap h' → Q () { s with heap := h' }) :
    wpAny (model prog w) A (letOwnedTupleGo (.Tuple elts x1 pos) (.ref z) (.ref T)) Q E s := by
  unfold letOwnedTupleGo
  refine wpAny_bind (wpAny_load hz ?_)
  show wpAny _ _ (if (["enumerate", "zip", "dict_itemiterator", "dict_reverseitemiterator", "odict_iterator", "itertools.zip_longest", "itertools.pairwise"].contains "zip" &&
      (#[rawInt T, .bool false, .bool true, .ref TI, .ref TO] : Array Value)[0]? == some (rawInt T)) = true then _ else _) Q E s
  rw [if_pos (by simp)]
  refine wpAny_bind (wpAny_rule ?_)
  show wpAny _ _ (setField (.ref z) 0 .none) Q E s
  exact wpAny_setField_rec hz (by simp) fun h' hz' hs' => hQ h' hz' hs'
theorem iterS {z TI TO : Addr} {f0 : Value} {Q : Value → Shared → Prop} (hz : IsZipS s.heap z TI TO f0) (h : Q (.ref z) s) : wpAny (model prog w) A (pyIter (.ref z)) Q E s := by
  have hT : s.TypeIs (.ref z) "zip" := ⟨_, hz, rfl⟩
  refine wpAny_pyIter_slot hT F.slot_zip_iter (wpAny_call_entry F.slot_zip_iter hT F.entry_zip_iter ?_ (F.args_zip_iter_1 _))
  show wpAny _ _ (ret (.ref z)) _ _ s
  exact wpAny_pure ⟨_, rfl, "zip", _, hT, F.slot_zip_next.lookup, h⟩
/-! zip(a, b, strict=True) made -/
abbrev zipK5 (h : Heap) (l1 l2 : Addr) : Heap := (zipH4 h l1 l2).push { cls := .type "zip", data := .fields #[.none, .bool false, .bool true, .ref (zipH2 h l1 l2).objs.size, .ref (zipH3 h l1 l2).objs.size] }
abbrev kwS : List (Str × Value) := [("strict", .bool true)]
theorem meets_newS (l1 l2 : Addr) (xs ys : Array Value) :
    Meets (Builtin.«zip.__new__» ⟨[.type "zip", .ref l1, .ref l2], kwS⟩) (fun _ R s => s.heap.IsList l1 xs ∧ s.heap.IsList l2 ys ∧
      R (.ok (.ret (.ref (zipH4 s.heap l1 l2).objs.size))) { s with heap := zipK5 s.heap l1 l2 }) :=
  .of_wp fun prog w A R s h => by
    obtain ⟨hp, g, d, tk, os⟩ := s; obtain ⟨hl1, hl2, h⟩ := h
    have hsub := sub_zip
    have hL1 : Heap.IsList (Shared.heap ⟨hp, g, d, tk, os⟩) l1 xs := hl1
    have hL2 : Heap.IsList (Shared.heap ⟨hp.push { cls := .type "list_iterator", data := .fields #[.ref l1, .int 0 0] }, g, d, tk, os⟩) l2 ys := Heap.IsList.push hl2 _
    wp_walk using wpAny_pyIter_list hL1, wpAny_pyIter_list hL2
    exact ⟨_, rfl, h⟩
end
end ZS
end PySem
set_option Elab.async false
set_option linter.all false
set_option maxRecDepth 100000
set_option maxHeartbeats 2000000
/-! ZS2: zip(.., strict=True), called. -/
namespace PySem
open Sem (wp)
namespace ZS
section
variable {prog : Program} {w : World} {A : Around} {E : Value → Shared → Prop} {s : Shared}
theorem weightK (T : String) (args : List Value) (kw : List (Str × Value)) : (Code.builtin "type.__call__" ⟨.type T :: args, kw⟩).weight = 0 := rfl
theorem unitsK (T : String) (args : List Value) (kw : List (Str × Value)) : (Code.builtin "type.__call__" ⟨.type T :: args, kw⟩).cUnits = 1 := rfl
theorem callTypeK {T newId initId : String} {Bn Bi : Builtin} {args : List Value} {kw : List (Str × Value)} {Sp : Spec} {Q Q₁ : Value → Shared → Prop} (ft : TypeCalled T newId initId)
    (hct : checkTypeCall T ⟨args, kw⟩ = pure ()) (hcn : checkBuiltinCall newId ⟨.type T :: args, kw⟩ = pure ())
    (entryN : entryFor table newId = some Bn) (entryI : entryFor table initId = some Bi) (g : Meets (Bn ⟨.type T :: args, kw⟩) Sp)
    (h : Sp A.in1 (wants Q₁ E) s)
    (hnext : ∀ obj s₁, Q₁ obj s₁ → s₁.TypeIs obj T ∧ argsOk initId ⟨obj :: args, kw⟩ ∧ ∃ Si, Meets (Bi ⟨obj :: args, kw⟩) Si ∧ Si A.in1 (wants (fun r s₂ => r = .none ∧ Q obj s₂) E) s₁) :
    wpAny (model prog w) A (call (.type T) args kw) Q E s := by
  obtain ⟨c, tl, hmro⟩ := ft.mro
  have hmade := ft.made
  have hsub := ft.sub
  refine wpAny_call (codeAny_of_tree ?_)
  show wpAny _ _ (callAny (.type T) _) _ _ _
  refine wpAny_pure ⟨Code.quiet_builtin _ (by decide +kernel), codeAny_builtin F.entry_type_call ?_⟩
  rw [Around.under_plain (weightK T args kw) (unitsK T args kw)]
  have h1 := ft.notType
  have h2 := ft.canCreate
  repeat (any_goals (first | assumption | wp_step))
  refine codeAny_mono (codeAny_call_builtin ft.plain entryN (wpAny_of_eq hcn (g prog w A.in1 _ s h))) fun r s₁ hr => ?_
  cases r with
  | error e => exact hr
  | ok fl =>
    cases fl with
    | ret obj =>
      obtain ⟨hT, hok, Si, gi, hsi⟩ := hnext _ _ hr
      have hli := ft.init.lookup
      have hbi := ft.init.bind obj
      repeat (any_goals (first | assumption | wp_step))
      refine codeAny_mono (codeAny_call_builtin ft.init.plain entryI (ft.init.check _ _ _ _ _ _ _ _ hT hok (gi prog w A.in1 _ s₁ hsi))) fun r₂ s₂ hr₂ => ?_
      cases r₂ with
      | error e => exact hr₂
      | ok fl₂ =>
        cases fl₂ with
        | ret r =>
          obtain ⟨rfl, hq⟩ := hr₂
          repeat (any_goals (first | assumption | wp_step))
        | _ => exact hr₂.elim
    | _ => exact hr.elim
theorem initK {T newId : String} {self : Value} {rest : List Value} {kw : List (Str × Value)} (hl : typeLookup (.type T) "__init__" = pure (some (.builtin "object.__init__")))
    (hm : Bind.madeBy (.type T) = pure (some newId)) (hne : (some newId != some "object.__new__") = true) :
    Meets (Builtin.«object.__init__» ⟨self :: rest, kw⟩) (fun _ R s => s.TypeIs self T ∧ R (.ok (.ret .none)) s) := by
  refine Meets.of_wp fun prog w A R s hs => ?_
  obtain ⟨hT, hq⟩ := hs
  cases rest with
  | nil =>
    cases kw with
    | nil => exact wpAny_pure ⟨_, rfl, hq⟩
    | cons k kw =>
      repeat (any_goals (first | assumption | wp_step))
      exact ⟨_, rfl, hq⟩
  | cons a rest =>
    repeat (any_goals (first | assumption | wp_step))
    exact ⟨_, rfl, hq⟩
theorem typeCallS (a b : Value) : checkTypeCall "zip" ⟨[a, b], kwS⟩ = pure () := by kernel_rfl
theorem newCallS (a b : Value) : checkBuiltinCall "zip.__new__" ⟨[.type "zip", a, b], kwS⟩ = pure () := by kernel_rfl
theorem initArgsS (a b c : Value) : argsOk "object.__init__" ⟨[a, b, c], kwS⟩ := by
  unfold argsOk; rw [signature?_of (id := "object.__init__") (n := ['_', '_', 't', 'i', 'n', 'i', '_', '_']) (o := ['t', 'c', 'e', 'j', 'b', 'o']) (by kernel_rfl) F.owner_object]; kernel_rfl
theorem callS {l1 l2 : Addr} {xs ys : Array Value} {Q : Value → Shared → Prop} (hl1 : s.heap.IsList l1 xs) (hl2 : s.heap.IsList l2 ys)
    (h : ∀ h', IsZipS h' (s.heap.objs.size + 4) (s.heap.objs.size + 2) (s.heap.objs.size + 3) .none → IsPair h' (s.heap.objs.size + 2) (.ref s.heap.objs.size) (.ref (s.heap.objs.size + 1)) →
      IsPair h' (s.heap.objs.size + 3) .none .none → h'.IsListIter s.heap.objs.size l1 0 → h'.IsListIter (s.heap.objs.size + 1) l2 0 → h'.objs.size = s.heap.objs.size + 5 →
      (∀ c o, s.heap.get? c = some o → h'.get? c = some o) → Q (.ref (s.heap.objs.size + 4)) { s with heap := h' }) :
    wpAny (model prog w) A (call (.type "zip") [.ref l1, .ref l2] kwS) Q E s := by
  refine callTypeK F.called_zip (typeCallS _ _) (newCallS _ _) F.entry_zip_new F.entry_object_init (meets_newS l1 l2 xs ys) (Q₁ := fun obj s₁ => s₁.TypeIs obj "zip" ∧ Q obj s₁) ⟨hl1, hl2, ?_⟩ fun obj _ hq =>
    ⟨hq.1, initArgsS obj _ _, _, initK F.called_zip.init.lookup F.called_zip.made (by decide), hq.1, rfl, hq.2⟩
  have z1 : (zipH1 s.heap l1).objs.size = s.heap.objs.size + 1 := Heap.size_push ..
  have z2 : (zipH2 s.heap l1 l2).objs.size = s.heap.objs.size + 2 := by rw [Heap.size_push, z1]
  have z3 : (zipH3 s.heap l1 l2).objs.size = s.heap.objs.size + 3 := by rw [Heap.size_push, z2]
  have z4 : (zipH4 s.heap l1 l2).objs.size = s.heap.objs.size + 4 := by rw [Heap.size_push, z3]
  have z5 : (zipK5 s.heap l1 l2).objs.size = s.heap.objs.size + 5 := by rw [Heap.size_push, z4]
  have g5 : (zipK5 s.heap l1 l2).get? (zipH4 s.heap l1 l2).objs.size = some _ := Heap.get?_push_size _ rfl
  have g4 : (zipK5 s.heap l1 l2).get? (zipH3 s.heap l1 l2).objs.size = some _ := Heap.get?_push_of_some _ (Heap.get?_push_size _ rfl)
  have g3 : (zipK5 s.heap l1 l2).get? (zipH2 s.heap l1 l2).objs.size = some _ := Heap.get?_push_of_some _ (Heap.get?_push_of_some _ (Heap.get?_push_size _ rfl))
  have g2 : (zipK5 s.heap l1 l2).get? (zipH1 s.heap l1).objs.size = some _ := Heap.get?_push_of_some _ (Heap.get?_push_of_some _ (Heap.get?_push_of_some _ (Heap.get?_push_size _ rfl)))
  have g1 : (zipK5 s.heap l1 l2).get? s.heap.objs.size = some _ := Heap.get?_push_of_some _ (Heap.get?_push_of_some _ (Heap.get?_push_of_some _ (Heap.get?_push_of_some _ (Heap.get?_push_size _ rfl))))
  show _ ∧ _
  rw [z2, z3, z4] at g5
  rw [z1, z2] at g3
  rw [z3] at g4
  rw [z1] at g2
  rw [z4]
  exact ⟨⟨_, g5, rfl⟩, h _ g5 g3 g4 ⟨_, g1, rfl, rfl⟩ ⟨_, g2, rfl, rfl⟩ z5 fun c o x =>
    Heap.get?_push_of_some _ (Heap.get?_push_of_some _ (Heap.get?_push_of_some _ (Heap.get?_push_of_some _ (Heap.get?_push_of_some _ x))))⟩
end
end ZS
end PySem
set_option Elab.async false
set_option linter.all false
set_option maxRecDepth 100000
set_option maxHeartbeats 2000000
/-! ZS3: a walk through zip(.., strict=True). -/
namespace Z
open PySem L2 PySem.Spec PyProof.Rows ZS
/-- the lists at a and b, as long as each other -/
def Itzs (K : PySem.W.Frag) (a b : Addr) : It :=
  ⟨(Itz K a b).go, (Itz K a b).yld, fun i H => ∃ xs ys : List V, SqL K H a xs ∧ SqL K H b ys ∧ xs.length ≤ i ∧ ys.length ≤ i⟩
theorem turnS {P : Program} {w : World} {K : PySem.W.Frag} {elts : List Expr} {kk : Nat} {tpos : Pos} {a b z TI TO i1 i2 : Addr} (D : ZipApart z TI TO i1 i2 a b) :
    Turn P w K (.Tuple elts kk tpos) (Itzs K a b) [z, TI, TO, i1, i2] z (fun i h => IsZipS h z TI TO .none ∧ IsPair h TI (.ref i1) (.ref i2) ∧ (∃ x y, IsPair h TO x y) ∧ h.IsListIter i1 a i ∧ h.IsListIter i2 b i) where
  mem := by simp
  obj := fun i h st c hc => by
    obtain ⟨hz, hTI, ⟨x, y, hTO⟩, ⟨o1, e1, _, d1⟩, ⟨o2, e2, _, d2⟩⟩ := st
    have e' : c = z ∨ c = TI ∨ c = TO ∨ c = i1 ∨ c = i2 := by simpa using hc
    rcases e' with q | q | q | q | q
    · rw [q]; exact ⟨_, hz, fun v q => nomatch q⟩
    · rw [q]; exact ⟨_, hTI, fun v q => nomatch q⟩
    · rw [q]; exact ⟨_, hTO, fun v q => nomatch q⟩
    · rw [q]; exact ⟨o1, e1, fun v q => by rw [d1] at q; cases q⟩
    · rw [q]; exact ⟨o2, e2, fun v q => by rw [d2] at q; cases q⟩
  keep := fun i h h' st k => by
    obtain ⟨hz, hTI, ⟨x, y, hTO⟩, h1, h2⟩ := st
    exact ⟨k z (by simp) _ hz, k TI (by simp) _ hTI, ⟨x, y, k TO (by simp) _ hTO⟩, h1.at fun o q => k i1 (by simp) o q, h2.at fun o q => k i2 (by simp) o q⟩
  item := by
    intro X hP hw hK hc i pins s σ H E I hf st hg
    subst hP hw hK
    obtain ⟨hz, hTI, ⟨x0, y0, hTO⟩, h1, h2⟩ := st
    obtain ⟨xs, ys, x, y, hqx, hqy, hx, hy⟩ := hg
    obtain ⟨its, rv, p, _⟩ := I.list hqx
    obtain ⟨its2, rv2, p2, _⟩ := I.list hqy
    obtain ⟨u, hu, ru⟩ := rv.get hx
    obtain ⟨u2, hu2, ru2⟩ := rv2.get hy
    have hzl : z < s.heap.objs.size := Heap.lt_size hz
    refine pyNextS_item D hz hTI hTO h1 h2 p.isList p2.isList (x := u) (y := u2) (by simpa using hu) (by simpa using hu2) fun h' z' TO' h1' h2' hT hsz hk => ?_
    refine ⟨_, rfl, letGoS (s := { s with heap := h' }) z' fun h'' z'' sb => ?_⟩
    have hT2 : h''.get? s.heap.objs.size = some { cls := .type "tuple", data := .seq #[u, u2] } := (sb.2 _ (Nat.ne_of_gt hzl)).trans hT
    have new : ObjOk X.prog X.w (upd H s.heap.objs.size (.tup [x, y])) h'' s.heap.objs.size (.tup [x, y]) :=
      ⟨by show 2 ≤ sizeLine; decide, [u, u2], .cons ru (.cons ru2 .nil), ⟨_, hT2, rfl, _, rfl⟩⟩
    have I1 : Inv X pins σ (upd H s.heap.objs.size (.tup [x, y])) { s with heap := h'' } :=
      I.turnedNew (t' := s.toks) (ch := [z, TI, TO, i1, i2]) (fun c o hb q => (sb.2 c (fun q' => hb (by simp [q']))).trans (hk c o (fun q' => hb (by simp [q'])) (fun q' => hb (by simp [q'])) (fun q' => hb (by simp [q'])) (fun q' => hb (by simp [q'])) q)) hf (Nat.le_refl _) new
    refine ⟨.ref s.heap.objs.size, _, I1, rfl, ⟨_, x, y, rfl, I.hok.fresh (Nat.le_refl _), rfl, fun l hl => by rw [I.list_inj hl hqx]; exact hx, fun l hl => by rw [I.list_inj hl hqy]; exact hy⟩, ⟨z'', ?_, ⟨u, u2, ?_⟩, ?_, ?_⟩, fun c hcm => ?_⟩
    · exact (sb.2 _ D.TIz).trans (hk _ _ D.TIz D.TITO D.TIi1 D.TIi2 hTI)
    · exact (sb.2 _ D.TOz).trans TO'
    · exact h1'.at fun o q => (sb.2 _ D.i1z).trans q
    · exact h2'.at fun o q => (sb.2 _ D.i2z).trans q
    · have hlt : c < s.heap.objs.size := by
        have e' : c = z ∨ c = TI ∨ c = TO ∨ c = i1 ∨ c = i2 := by simpa using hcm
        rcases e' with q | q | q | q | q
        · rw [q]; exact hzl
        · rw [q]; exact Heap.lt_size hTI
        · rw [q]; exact Heap.lt_size hTO
        · rw [q]; obtain ⟨_, e1, _⟩ := h1; exact Heap.lt_size e1
        · rw [q]; obtain ⟨_, e2, _⟩ := h2; exact Heap.lt_size e2
      rw [upd_ne (Nat.ne_of_lt hlt)]
      exact (hf c hcm).1
  done := by
    intro X hP hw hK hc i pins s σ H E I hf st hg
    subst hP hw hK
    obtain ⟨hz, hTI, ⟨x0, y0, hTO⟩, h1, h2⟩ := st
    obtain ⟨xs, ys, hqx, hqy, hend1, hend2⟩ := hg
    obtain ⟨its, rv, p, _⟩ := I.list hqx
    obtain ⟨its2, rv2, p2, _⟩ := I.list hqy
    have l1 := rv.length
    have l2 := rv2.length
    exact pyNextS_end (I.ok.hd hc) D hz hTI hTO h1 h2 p.isList p2.isList (by simp; omega) (by simp; omega) fun h' hk => ⟨rfl, I.turnedL (t' := s.toks) (ch := [z, TI, TO, i1, i2]) (fun c o hb q =>
      hk c o (fun q' => hb (by simp [q'])) (fun q' => hb (by simp [q'])) (fun q' => hb (by simp [q'])) (fun q' => hb (by simp [q'])) q) hf⟩
  self := fun A i s Q E st h => iterS st.1 h
def iZipSt (K : PySem.W.Frag) (ta : TA) : TI := fun σ H R => ta σ H fun vs H1 => ∃ a b xs ys, vs = [.ref a, .ref b] ∧ SqL K H1 a xs ∧ SqL K H1 b ys ∧ R (Itzs K a b) H1
section
variable {M : Model} {A : Around} {E : Value → Shared → Prop} {s : Shared} {env : Env}
theorem callWith_typeK {pos : Pos} {T : String} {e : Expr} {rest : List Expr} {kws : List Keyword} {Q : Value → Shared → Prop}
    (h : wpAny M A (spliced (backTo pos (starEach (e :: rest) env))) (fun vs s₁ => wpAny M A (evalAll ((backToKw pos (keywordEach kws env)).map (·.2)))
      (fun kvs s₂ => wpAny M A (call (.type T) vs (((backToKw pos (keywordEach kws env)).filterMap (·.1)).zip kvs)) Q E s₂) E s₁) E s)
    (he : backTo pos (starEach (e :: rest) env) = (false, eval e env) :: backTo pos (starEach rest env) := by rfl)
    (hplain : (backTo pos (starEach (e :: rest) env)).any (·.1) = false := by rfl)
    (hall : (backToKw pos (keywordEach kws env)).all (·.1.isSome) = true := by rfl)
    (hkw : (backToKw pos (keywordEach kws env)).any (·.1.isNone) = false := by rfl) :
    wpAny M A (callWith pos (.type T) [] (backTo pos (starEach (e :: rest) env)) (backToKw pos (keywordEach kws env))) Q E s := by
  unfold callWith
  rw [he] at h hplain ⊢
  refine wpAny_bind (wpAny_holding (wpAny_mono (evalArgs_kwB (Q := fun a s₂ => wpAny M A (call (.type T) a.pos a.kw) Q E s₂) hall h) (fun a s₁ h₁ => wpAny_bind (wpAny_standAt ?_)) fun _ _ x => x))
  simp only [hplain, hkw, Bool.or_false]
  refine wpAny_bind (wpAny_pure ?_)
  exact wpAny_bind (wpAny_mono h₁ (fun r s₂ hr => wpAny_bind (wpAny_holding (wpAny_point (wpAny_pure hr)))) fun _ _ x => x)
end
theorem pi_zipS {X : Cx} {e e2 : Expr} {ta : TA} {p pos tpos kpos q : Pos} {elts : List Expr} {kk j : Nat} (hg : Gl X "zip") (hm : X.mg "zip" = none) (ha : PA X [e, e2] ta)
    (hs : backTo pos (starEach [e, e2] X.env) = (false, eval e X.env) :: backTo pos (starEach [e2] X.env) := by rfl) (hpl : (backTo pos (starEach [e, e2] X.env)).any (·.1) = false := by rfl) :
    PI X (.Tuple elts kk tpos) (.Call (.Name "zip" p) [e, e2] [⟨some "strict", .Constant (.bool true) j q, kpos⟩] pos) (iZipSt X.K ta) := by
  refine ⟨fun pins s σ H R I h => ?_⟩
  refine wpAny_Call_Name_kw (ld_blt I hg hm PyProof.Rows.boot_zip ?_)
  refine callWith_typeK (thn (ha.run pos pins s σ H _ I h) fun us s1 ⟨vs, H1, I1, r1, q1⟩ => ?_) hs hpl
  refine kws_cons (thn ((pe_bl (b := true)).run pins s1 σ H1 (fun v H' => v = .bl true ∧ H' = H1) I1 ⟨rfl, rfl⟩) fun v s2 ⟨x, H2, I2, r2, e1, e2⟩ => ?_)
  subst e1 e2
  cases r2
  refine kws_nil ?_
  obtain ⟨a, b, xs, ys, ex, hqx, hqy, q⟩ := q1
  subst ex
  cases r1 with
  | cons r rr =>
    cases rr with
    | cons r' rr =>
      cases rr
      cases r
      cases r'
      obtain ⟨its, rv, p1, _⟩ := I2.list hqx
      obtain ⟨its2, rv2, p2, _⟩ := I2.list hqy
      have la : a < s2.heap.objs.size := p1.lt
      have lb : b < s2.heap.objs.size := p2.lt
      refine callS p1.isList p2.isList fun h' hz hTI hTO h1 h2 hsz hk => iterS hz ?_
      have I3 : Inv X pins σ H2 { s2 with heap := h' } := I2.kept (t' := s2.toks) hk
      refine ⟨s2.heap.objs.size + 4, [s2.heap.objs.size + 4, s2.heap.objs.size + 2, s2.heap.objs.size + 3, s2.heap.objs.size, s2.heap.objs.size + 1], _, _, H2, rfl, I3, turnS (PySem.W.ktu_apart s2.heap.objs.size a b la lb), ⟨hz, hTI, ⟨_, _, hTO⟩, h1, h2⟩, fun c hcm => ?_, q⟩
      have e' : c = s2.heap.objs.size + 4 ∨ c = s2.heap.objs.size + 2 ∨ c = s2.heap.objs.size + 3 ∨ c = s2.heap.objs.size ∨ c = s2.heap.objs.size + 1 := by simpa using hcm
      have hle : s2.heap.objs.size ≤ c := by
        rcases e' with z | z | z | z | z
        · rw [z]; exact Nat.le_add_right _ _
        · rw [z]; exact Nat.le_add_right _ _
        · rw [z]; exact Nat.le_add_right _ _
        · rw [z]; exact Nat.le_refl _
        · rw [z]; exact Nat.le_add_right _ _
      exact I2.fpOk hle (I2.hok.fresh hle)
end Z
set_option Elab.async false
set_option linter.all false
set_option maxRecDepth 100000
set_option maxHeartbeats 1000000
namespace Z
open PySem L2 PySem.Spec PyProof.Rows
theorem u65 {A : Around} {k : Nat} (r : Room k A) : A.units + 65 < cLine := by have := r.un; omega
/-- zip(xs, ys, strict=True) of lists as long as each other -/
def srcZipS : List D → M Src := fun ds S => match ds with
  | [x, y] => (match lstSrc S x, lstSrc S y with
    | some s, some t => if s.items.length = t.items.length then .val ⟨zips s.items t.items, fun S => s.ok S ∧ t.ok S⟩ S else .stuck
    | _, _ => .stuck)
  | _ => .stuck
@[simp] def iZipS (f : Rho → M (List D)) : Rho → M Src := fun ρ S => (f ρ S).bind srcZipS
section
variable {X : Cx} {E : XK} {pos p tpos kpos : Pos} {e e2 ek : Expr} {elts : List Expr} {kk : Nat} {g : Rho → M (List D)}
theorem gives_zipS {K : PySem.W.Frag} {w : World} {α : Al} {H : Hp} {a b : Addr} {s t : Src} (hl : s.items.length = t.items.length) (ha : Stands K w α H a s) (hb : Stands K w α H b t) : Gives K w (Itzs K a b) α H ⟨zips s.items t.items, fun S => s.ok S ∧ t.ok S⟩ := by
  intro α1 S1 H1 st rp ok i
  have g := gives_zip ha hb α1 S1 H1 st rp ok i
  refine ⟨fun hi => ?_, g.2⟩
  obtain ⟨vs, h1, l1⟩ := ha α1 S1 H1 st rp ok.1
  obtain ⟨us, h2, l2⟩ := hb α1 S1 H1 st rp ok.2
  have hi : (zips s.items t.items).length ≤ i := hi
  rw [zips_len] at hi
  exact ⟨vs, us, h1, h2, by rw [l1.length]; omega, by rw [l2.length]; omega⟩
theorem zi_zipS (hg : Gl X "zip") (hm : X.mg "zip" = none) (ha : ZA X E [e, e2] g) {j : Nat} {q : Pos} (hs : backTo pos (starEach [e, e2] X.env) = (false, eval e X.env) :: backTo pos (starEach [e2] X.env) := by rfl) (hpl : (backTo pos (starEach [e, e2] X.env)).any (·.1) = false := by rfl) :
    ZI X E (.Tuple elts kk tpos) (.Call (.Name "zip" p) [e, e2] [⟨some "strict", .Constant (.bool true) j q, kpos⟩] pos) (iZipS g) := PI.weak (pi_zipS hg hm ha hs hpl) fun σ H R ⟨α, S, ρ, rp, re, q⟩ => by
  refine ⟨α, S, ρ, rp, re, PI.step q fun ds S1 α1 H1 vs _ st rp1 r1 q1 => ?_⟩
  unfold srcZipS at q1
  split at q1
  · split at q1
    · rename_i x y _ _ s t hs1 hs2
      split at q1
      · rename_i hl
        unfold RepL at r1
        obtain ⟨v, r, e1, h1, h2⟩ := r1
        unfold RepL at h2
        obtain ⟨u, r', e2, h3, h4⟩ := h2
        unfold RepL at h4
        obtain ⟨_, a, vs', ea, ha, sa⟩ := lstSrc_rep rp1 hs1 h1
        obtain ⟨_, b, us', eb, hb, sb⟩ := lstSrc_rep rp1 hs2 h3
        exact ⟨a, b, vs', us', by rw [e1, e2, h4, ea, eb], ha, hb, q1.2 α1 H1 _ Stp.refl rp1 (gives_zipS hl sa sb)⟩
      · exact q1.elim
    · exact q1.elim
  · exact q1.elim
end
end Z
set_option Elab.async false
set_option linter.all false
set_option maxRecDepth 100000
set_option maxHeartbeats 1000000
/-! Z20: a walk through a dict's keys; what is walked is locked from then on. -/
namespace Z
open PySem L2 PySem.Spec PyProof.Rows
/-- the keys of the locked dict at d -/
def ItkN (w : World) (d : Addr) (o : Obj) (kv : List V) (xs : List ZD.Ent) : It :=
  ⟨fun i H => H d = some (.frz o (dHO w d xs)) ∧ i < kv.length, fun i H x H' => H' = H ∧ kv[i]? = some x, fun i H => H d = some (.frz o (dHO w d xs)) ∧ kv.length ≤ i⟩
theorem frzN {X : Cx} {pins : List (Addr × Obj)} {σ : L2.St} {H : Hp} {s : Shared} {d : Addr} {o : Obj} {xs : List ZD.Ent} (I : Inv X pins σ H s) (h : H d = some (.frz o (dHO X.w d xs))) :
    (d == sysModules) = false ∧ s.heap.get? d = some o ∧ o.ExactDict ∧ ∃ (es : Array DictEntry) (ep : Nat), o.data = .dict es ep ∧ es.toList = xs.map (ZD.entN X.w) := by
  obtain ⟨hd, x⟩ := I.hok d _ h
  obtain ⟨_, hs, o', es, ep, ho, hx, hdt, he, _⟩ := x.1
  rw [hd] at ho
  cases ho
  exact ⟨hs, hd, hx, es, ep, hdt, he⟩
theorem ents_at {w : World} {xs : List ZD.Ent} {es : Array DictEntry} (he : es.toList = xs.map (ZD.entN w)) {i : Nat} {e : ZD.Ent} (h : xs[i]? = some e) : es[i]? = some (ZD.entN w e) := by
  rw [← Array.getElem?_toList, he, List.getElem?_map, h]
  rfl
theorem ents_size {w : World} {xs : List ZD.Ent} {es : Array DictEntry} (he : es.toList = xs.map (ZD.entN w)) : es.size = xs.length := by
  rw [← Array.length_toList, he, List.length_map]
theorem vals_at {kv : List V} {us : List Value} (h : Vals kv us) {i : Nat} {x : V} (hx : kv[i]? = some x) : ∃ u, us[i]? = some u ∧ RelV x u := by
  obtain ⟨u, h1, h2⟩ := h.get hx
  exact ⟨u, h1, h2⟩
theorem turn_keysN {P : Program} {w : World} {K : PySem.W.Frag} {tg : Expr} {d : Addr} {o : Obj} {es : Array DictEntry} {ep : Nat} {kv : List V} {xs : List ZD.Ent} (it : Addr) (hod : o.data = .dict es ep) (hv : Vals kv (xs.map (·.2.1))) :
    Turn P w K tg (ItkN w d o kv xs) [it] it (fun i h => h.IsKeyIter it d i kv.length ep) where
  mem := by simp
  obj := fun i h st b hb => by
    have e : b = it := by simpa using hb
    subst e
    obtain ⟨oi, e, c, dd⟩ := st
    exact ⟨oi, e, fun v z => by rw [dd] at z; cases z⟩
  keep := fun i h h' st k => st.at fun oi e => k it (by simp) oi e
  item := by
    intro X hP hw hK hc i pins s σ H E I hf st hg
    subst hP hw hK
    obtain ⟨hd, hi⟩ := hg
    obtain ⟨f0, f1, f2, f3, f4, f5⟩ := hf it (by simp)
    obtain ⟨hs, hgd, hx, es', ep', hdt, hes⟩ := frzN I hd
    obtain ⟨rfl, rfl⟩ := dict_ep hod hdt
    have hl : kv.length = xs.length := by rw [hv.length, List.length_map]
    have hsz : es'.size = kv.length := by rw [ents_size hes, hl]
    obtain ⟨u, hu, ru⟩ := vals_at hv (List.getElem?_eq_getElem hi)
    rw [List.getElem?_map] at hu
    obtain ⟨en, h1, h2⟩ := Option.map_eq_some_iff.mp hu
    refine next_key_item st hgd hdt hsz (ents_at hes h1) fun h' st' sb => ?_
    have I1 : Inv X pins σ H { s with heap := h' } := I.turned (t' := s.toks) (fun b ob hb e => (sb.2 b hb).trans e) f0 f1 f3 f4 f5
    obtain ⟨oi, e, c, dd⟩ := id st'
    refine ⟨_, rfl, go_of (s := { s with heap := h' }) e c dd (by decide) ⟨kv[i], H, I1, ?_, ⟨rfl, List.getElem?_eq_getElem hi⟩, st', fun b hb => (hf b hb).1⟩⟩
    show RelV kv[i] en.2.1
    rw [h2]
    exact ru
  done := by
    intro X hP hw hK hc i pins s σ H E I hf st hg
    subst hP hw hK
    obtain ⟨hd, hi⟩ := hg
    obtain ⟨f0, f1, f2, f3, f4, f5⟩ := hf it (by simp)
    obtain ⟨hs, hgd, hx, es', ep', hdt, hes⟩ := frzN I hd
    obtain ⟨rfl, rfl⟩ := dict_ep hod hdt
    have hl : kv.length = xs.length := by rw [hv.length, List.length_map]
    have hsz : es'.size = kv.length := by rw [ents_size hes, hl]
    exact next_key_end (I.ok.hd hc) st hgd hdt hsz hi fun h' eb => ⟨rfl, I.turned (t' := s.toks) (fun b ob hb e => eb b ob hb e) f0 f1 f3 f4 f5⟩
  self := fun A i s Q E st h => by
    refine wpAny_pyIter_slot st.typeIs F.slot_dict_keyiterator_iter (wpAny_call_entry F.slot_dict_keyiterator_iter st.typeIs F.entry_dict_keyiterator_iter ?_ (F.args_dict_keyiterator_iter_1 _))
    show wpAny _ _ (ret (.ref it)) _ _ s
    exact wpAny_pure ⟨_, rfl, "dict_keyiterator", _, st.typeIs, F.slot_dict_keyiterator_next.lookup, h⟩
/-- the dict, locked from here on -/
def Locked (w : World) (a : Addr) (xs : List ZD.Ent) (o : Obj) (H1 H2 : Hp) : Prop := (H1 a = some (.frz o (dHO w a xs)) ∧ H2 = H1) ∨ (H1 a = some (dHO w a xs) ∧ H2 = upd H1 a (.frz o (dHO w a xs)))
theorem Locked.at_ {w : World} {a : Addr} {xs : List ZD.Ent} {o : Obj} {H1 H2 : Hp} (l : Locked w a xs o H1 H2) : H2 a = some (.frz o (dHO w a xs)) := by
  rcases l with ⟨h, rfl⟩ | ⟨h, rfl⟩
  · exact h
  · exact upd_same
theorem lock_it {X : Cx} {pins : List (Addr × Obj)} {σ : L2.St} {H : Hp} {s : Shared} {a : Addr} {xs : List ZD.Ent} (I : Inv X pins σ H s) (h : Rd H a (dHO X.w a xs)) : ∃ o H2, Locked X.w a xs o H H2 ∧ Inv X pins σ H2 s := by
  rcases h with h | ⟨o, h⟩
  · obtain ⟨od, I2⟩ := I.lock h True.intro
    exact ⟨od, _, .inr ⟨h, rfl⟩, I2⟩
  · exact ⟨o, H, .inl ⟨h, rfl⟩, I⟩
def iKeysN (X : Cx) (td : TE) : TI := fun σ H R => td σ H fun x H1 => ∃ a xs kv, x = .ref a ∧ Rd H1 a (dHO X.w a xs) ∧ Vals kv (xs.map (·.2.1)) ∧ ∀ o H2, Locked X.w a xs o H1 H2 → R (ItkN X.w a o kv xs) H2
theorem pi_keysN {X : Cx} {tg e : Expr} {td : TE} (he : PE X e td) : PI X tg e (iKeysN X td) := by
  refine ⟨fun pins s σ H R I h => ?_⟩
  refine thn (he.run pins s σ H _ I h) fun u s1 ⟨x, H1, I1, rx, a, xs, kv, ex, hr, hv, q⟩ => ?_
  subst ex
  obtain rfl : u = Value.ref a := rx
  obtain ⟨o, H2, l, I2⟩ := lock_it I1 hr
  obtain ⟨hs, hgd, hx, es, ep, hdt, hes⟩ := frzN I2 l.at_
  have hl : kv.length = xs.length := by rw [hv.length, List.length_map]
  refine iter_keys hs hgd hx hdt (pi_one (tk := s1.toks) I2 _ (turn_keysN _ hdt hv) ⟨_, Heap.get?_push_size _ rfl, rfl, ?_⟩ (q o H2 l))
  rw [ents_size hes, ← hl] <;> rfl
section
variable {K : PySem.W.Frag} {w : World} {α : Al} {H H2 : Hp} {S : Sto} {a : Addr} {xs : List ZD.Ent} {o : Obj}
theorem dic_notup (h : H a = some (dHO w a xs)) (vs : List V) : ¬ Rd H a (.tup vs) := by
  rintro (q | ⟨o, q⟩) <;> (rw [h] at q; cases q)
theorem Locked.stp (l : Locked w a xs o H H2) (hh : a ∉ α.hid) : Stp α H α H2 := by
  rcases l with ⟨h, rfl⟩ | ⟨h, rfl⟩
  · exact Stp.refl
  · refine ⟨⟨[], by simp, by simp⟩, fun _ h => .inl h, fun _ h => h, fun b hb => upd_ne fun e => hh (by rw [← e]; exact hb), fun b hb => upd_dom hb, fun b vs hb => ?_, fun b u hu hn hb => ?_, fun b vs hn hb => ?_, fun b o' u hb => ?_⟩
    · exact rd_upd_ne (fun e => dic_notup h vs (by rw [← e]; exact hb)) hb
    · by_cases e : b = a
      · subst e
        rcases hb with hb | ⟨o', hb⟩
        · rw [h] at hb
          cases hb
          exact .inr ⟨o, upd_same⟩
        · rw [h] at hb; cases hb
      · exact rd_upd_ne e hb
    · rw [upd_ne fun e => by rw [e, h] at hb; cases hb]; exact hb
    · rw [upd_ne fun e => by rw [e, h] at hb; cases hb]; exact hb
/-- a dict that is no cell, locked -/
theorem Locked.rep (l : Locked w a xs o H H2) (hn : ¬ α.Has a) (rp : Rep K w α S H) : Rep K w α S H2 := by
  have st := l.stp (α := α) fun h => hn (.inr h)
  rcases l with ⟨h, rfl⟩ | ⟨h, rfl⟩
  · exact rp
  · refine ⟨rp.nd, rp.len, fun b hb => upd_dom (rp.hd b hb), rp.dj, fun n c b h1 h2 => ?_⟩
    exact repC_mono st (upd_ne fun e => hn (.inl (by rw [← e]; exact List.mem_of_getElem? h2))) (rp.cell n c b h1 h2)
/-- a cell's dict, locked -/
theorem Locked.cell {n : Nat} {lk : Bool} {ks ds : List D} {kv vs : List V} (hs : S[n]? = some (.dic lk ks ds)) (ha : α.al[n]? = some a) (l : Locked w a xs o H H2) (rp : Rep K w α S H) (en : Ents ks kv vs xs) (rk : RepL K w α H ks kv) (rv : RepL K w α H ds vs) : Rep K w α (S.set n (.dic true ks ds)) H2 := by
  have hh : a ∉ α.hid := fun h => rp.dj a h (List.mem_of_getElem? ha)
  have st := l.stp (α := α) hh
  have new : RepC K w α H2 (.dic true ks ds) a := ⟨kv, vs, xs, by simp only [if_true]; exact ⟨o, l.at_⟩, en, repL_mono st _ _ rk, repL_mono st _ _ rv⟩
  rcases l with ⟨h, rfl⟩ | ⟨h, rfl⟩
  · refine ⟨rp.nd, by rw [List.length_set]; exact rp.len, rp.hd, rp.dj, fun m c b h1 h2 => ?_⟩
    by_cases e : n = m
    · subst e
      rw [ha] at h2
      cases h2
      rw [List.getElem?_set_self (List.getElem?_eq_some_iff.mp hs).1] at h1
      cases h1
      exact new
    · rw [List.getElem?_set_ne e] at h1
      exact rp.cell m c b h1 h2
  · exact rp.setCell ha (nofrz h) new
end
/-- the keys of a dict, a value or a cell -/
def srcKeys : D → M Src := fun d S => match d with
  | .dic ks _ => .val (always ks) S
  | .ref n => (match S[n]? with
    | some (.dic _ ks ds) => .val ⟨ks, fun S' => S'[n]? = some (.dic true ks ds)⟩ (S.set n (.dic true ks ds))
    | _ => .stuck)
  | _ => .stuck
@[simp] def iKeys (f : Rho → M D) : Rho → M Src := fun ρ S => (f ρ S).bind srcKeys
section
variable {X : Cx} {E : XK} {tg e : Expr} {f : Rho → M D}
theorem gives_keys {K : PySem.W.Frag} {w : World} {α : Al} {H : Hp} {a : Addr} {o : Obj} {ks : List D} {kv : List V} {xs : List ZD.Ent} {ok : Sto → Prop} (hl : H a = some (.frz o (dHO w a xs))) (r : RepL K w α H ks kv) : Gives K w (ItkN w a o kv xs) α H ⟨ks, ok⟩ := by
  intro α1 S1 H1 st rp _ i
  have h1 := st.frz a _ _ hl
  have r1 := repL_monoQ st ks kv r
  refine ⟨fun hi => ⟨h1, by rw [r1.length]; exact hi⟩, fun d hd => ?_⟩
  obtain ⟨z, hz, rz⟩ := r1.get hd
  refine ⟨⟨h1, (List.getElem?_eq_some_iff.mp hz).1⟩, fun x H' hy => ?_⟩
  obtain ⟨rfl, hx⟩ := hy
  rw [hz] at hx
  cases hx
  exact stp_id rp rz
theorem zi_keys (h : ZE X E e f) : ZI X E tg e (iKeys f) := PI.weak (pi_keysN h) fun σ H R ⟨α, S, ρ, rp, re, q⟩ => by
  refine ⟨α, S, ρ, rp, re, PI.step q fun d S1 α1 H1 v _ st rp1 r1 q1 => ?_⟩
  unfold srcKeys at q1
  split at q1
  · unfold RepD at r1
    obtain ⟨a, kv, vs, xs, rfl, hn, hr, en, rk, rv⟩ := r1
    refine ⟨a, xs, kv, rfl, hr, en.2.2.1, fun o H2 l => ?_⟩
    have st2 := l.stp (α := α1) fun h => hn (.inr h)
    exact q1.2 α1 H2 _ st2 (l.rep hn rp1) (gives_keys l.at_ (repL_mono st2 _ _ rk))
  · rename_i _ n _
    split at q1
    · rename_i lk ks ds hs
      unfold RepD at r1
      obtain ⟨a, rfl, ha⟩ := r1
      obtain ⟨kv, vs, xs, hr, en, rk, rv⟩ := rp1.cell n _ a hs ha
      have hr' : Rd H1 a (dHO X.w a xs) := by
        cases lk with
        | true => exact .inr (by simpa using hr)
        | false => exact .inl (by simpa using hr)
      refine ⟨a, xs, kv, rfl, hr', en.2.2.1, fun o H2 l => ?_⟩
      have st2 := l.stp (α := α1) fun h => rp1.dj a h (List.mem_of_getElem? ha)
      exact q1.2 α1 H2 _ st2 (l.cell hs ha rp1 en rk rv) (gives_keys l.at_ (repL_mono st2 _ _ rk))
    · exact q1.elim
  · exact q1.elim
end
end Z
set_option Elab.async false
set_option linter.all false
set_option maxRecDepth 100000
set_option maxHeartbeats 1000000
/-! Z21: a < b < c; {k: v, ..}. -/
namespace Z
open PySem L2 PySem.Spec PyProof.Rows
section
variable {X : Cx} {E : XK} {pos : Pos} {a b c : Expr} {f1 f2 f3 : Rho → M D}
/-! a op b op' c -/
@[simp] def eChn (op op' : D → D → M D) (f1 f2 f3 : Rho → M D) : Rho → M D := fun ρ S => (f1 ρ S).bind fun x S1 => (f2 ρ S1).bind fun y S2 => (op x y S2).bind fun z S3 => match z with
  | .bl k => if k = true then (f3 ρ S3).bind fun u S4 => op' y u S4 else .val (.bl false) S3
  | _ => .stuck
theorem chn_read {r r' : R2} {op op' : D → D → M D} (hs : OpS X E r op) (hs' : OpS X E r' op') {σ : L2.St} {H : Hp} {Q : VK} (h : lift X.K X.w E (eChn op op' f1 f2 f3) σ H Q) : tChain r r' (lift X.K X.w E f1) (lift X.K X.w E f2) (lift X.K X.w E f3) σ H Q := by
  obtain ⟨α, S, ρ, rp, re, q⟩ := h
  refine ⟨α, S, ρ, rp, re, Post.step q fun x S1 α1 H1 v _ st rp1 r1 q1 => ?_⟩
  refine ⟨α1, S1, ρ, rp1, re.mono st, Post.step q1 fun y S2 α2 H2 u _ st2 rp2 r2 q2 => ?_⟩
  have rx := repD_mono st2 x v r1
  refine hs α2 S2 H2 x y v u _ rp2 rx r2 (Post.step q2 fun z S3 α3 H3 zv _ st3 rp3 r3 q3 => ?_)
  cases z with
  | bl k =>
    refine ⟨k, rep_bl r3, ?_⟩
    cases k with
    | true =>
      rw [if_pos rfl]
      have q3 : Post X.K X.w (RepD X.K X.w) E α3 H3 ((f3 ρ S3).bind fun u S4 => op' y u S4) Q := q3
      refine ⟨α3, S3, ρ, rp3, ((re.mono st).mono st2).mono st3, Post.step q3 fun w S4 α4 H4 wv _ st4 rp4 r4 q4 => ?_⟩
      exact hs' α4 S4 H4 y w u wv Q rp4 (repD_mono st4 y u (repD_mono st3 y u r2)) r4 q4
    | false =>
      rw [if_neg (by simp)]
      have q3 : Post X.K X.w (RepD X.K X.w) E α3 H3 (.val (.bl false) S3) Q := q3
      exact q3.now rp3 (repB _)
  | _ => exact q3.elim
theorem ze_chn {o o' : CmpOp} {r r' : R2} {op op' : D → D → M D} (ho : OpR X (compareOp o) r) (hs : OpS X E r op) (ho' : OpR X (compareOp o') r') (hs' : OpS X E r' op') (h1 : ZE X E a f1) (h2 : ZE X E b f2) (h3 : ZE X E c f3)
    (hm : lastMarks [o, o'] [b, c] = false := by with_unfolding_all rfl) : ZE X E (.Compare a [o, o'] [b, c] pos) (eChn op op' f1 f2 f3) := PE.weak (pe_chain ho ho' h1 h2 h3 hm) fun σ H Q => chn_read hs hs'
theorem zt_chn {o o' : CmpOp} {r r' : R2} {op op' : D → D → M D} (ho : OpR X (compareOp o) r) (hs : OpS X E r op) (ho' : OpR X (compareOp o') r') (hs' : OpS X E r' op') (h1 : ZE X E a f1) (h2 : ZE X E b f2) (h3 : ZE X E c f3)
    (hm : lastMarks [o, o'] [b, c] = false := by with_unfolding_all rfl) : ZT X E (.Compare a [o, o'] [b, c] pos) (bVal (eChn op op' f1 f2 f3)) := PT.weak (pt_chain ho ho' h1 h2 h3 hm) fun σ H Q h => chn_read hs hs' (val_test h)
end
/-! {k: v, ..} -/
@[simp] def pNil : Rho → M (List (D × D)) := fun _ S => .val [] S
@[simp] def pCons (fk fv : Rho → M D) (r : Rho → M (List (D × D))) : Rho → M (List (D × D)) := fun ρ S => (fk ρ S).bind fun k S1 => (fv ρ S1).bind fun v S2 => (r ρ S2).bind fun xs S3 => .val ((k, v) :: xs) S3
def RepP (K : PySem.W.Frag) (w : World) (α : Al) (H : Hp) (xs : List (D × D)) (ps : List (V × V)) : Prop := RepL K w α H (xs.map (·.1)) (ps.map (·.1)) ∧ RepL K w α H (xs.map (·.2)) (ps.map (·.2))
def RelP (ps : List (V × V)) (ws : List (Value × Value)) : Prop := Vals (ps.map (·.1)) (ws.map (·.1)) ∧ Vals (ps.map (·.2)) (ws.map (·.2))
def ZPs (X : Cx) (E : XK) (keys : List (Option Expr)) (vals : List Expr) (g : Rho → M (List (D × D))) : Prop :=
  ∀ (pos : Pos) (pins : List (Addr × Obj)) (s : Shared) (σ : L2.St) (H : Hp) (Qp : List (V × V) → Hp → Prop), Inv X pins σ H s → (∃ α S ρ, Rep X.K X.w α S H ∧ RepE X.K X.w α H ρ σ ∧ Post X.K X.w (RepP X.K X.w) E α H (g ρ S) Qp) →
    wpAny (model X.prog X.w) X.A (evalPairs (pairTrees keys vals X.env pos)) (fun ws s' => ∃ ps H', Inv X pins σ H' s' ∧ RelP ps ws ∧ Qp ps H') X.xe s
section
variable {X : Cx} {E : XK} {keys : List (Option Expr)} {vals : List Expr} {k v : Expr} {fk fv : Rho → M D} {g : Rho → M (List (D × D))}
theorem zp_nil : ZPs X E [] [] pNil := fun pos pins s σ H Qp I ⟨α, S, ρ, rp, re, q⟩ => pairTrees_nil_walk ⟨[], H, I, ⟨.nil, .nil⟩, q.now rp ⟨RepL.nil, RepL.nil⟩⟩
theorem zp_cons (hk : ZE X E k fk) (hv : ZE X E v fv) (hr : ZPs X E keys vals g) : ZPs X E (some k :: keys) (v :: vals) (pCons fk fv g) := fun pos pins s σ H Qp I ⟨α, S, ρ, rp, re, q⟩ => by
  show wpAny _ _ (evalPairs ((eval k X.env, do let x ← eval v X.env; standAt pos; pure x) :: pairTrees keys vals X.env pos)) _ _ s
  refine evalPairs_cons (thn (hk.run pins s σ H (fun kv H1 => ∃ d S1 α1, Stp α H α1 H1 ∧ Rep X.K X.w α1 S1 H1 ∧ RepD X.K X.w α1 H1 d kv ∧ Post X.K X.w (RepP X.K X.w) E α1 H1 ((fv ρ S1).bind fun v S2 => (g ρ S2).bind fun xs S3 => .val ((d, v) :: xs) S3) Qp) I
    ⟨α, S, ρ, rp, re, Post.step q fun d S1 α1 H1 x _ st rp1 r1 q1 => ⟨d, S1, α1, st, rp1, r1, q1⟩⟩) fun ku s1 ⟨kx, H1, I1, rk, d, S1, α1, st, rp1, r1, q1⟩ => ?_)
  refine wpAny_bind (thn (hv.run pins s1 σ H1 (fun vv H2 => ∃ e S2 α2, Stp α1 H1 α2 H2 ∧ Rep X.K X.w α2 S2 H2 ∧ RepD X.K X.w α2 H2 e vv ∧ Post X.K X.w (RepP X.K X.w) E α2 H2 ((g ρ S2).bind fun xs S3 => .val ((d, e) :: xs) S3) Qp) I1
    ⟨α1, S1, ρ, rp1, re.mono st, Post.step q1 fun e S2 α2 H2 y _ st2 rp2 r2 q2 => ⟨e, S2, α2, st2, rp2, r2, q2⟩⟩) fun vu s2 ⟨vx, H2, I2, rv, e, S2, α2, st2, rp2, r2, q2⟩ => ?_)
  refine wpAny_bind (wpAny_standAt (wpAny_pure ?_))
  refine wpAny_mono (hr pos pins s2 σ H2 (fun ps H3 => Qp ((kx, vx) :: ps) H3) I2 ⟨α2, S2, ρ, rp2, (re.mono st).mono st2, Post.step q2 fun xs S3 α3 H3 ps _ st3 rp3 r3 q3 => ?_⟩) (fun ws s3 ⟨ps, H3, I3, rel, q3⟩ => ?_) fun _ _ z => z
  · exact q3.now rp3 ⟨.cons (repD_mono st3 _ _ (repD_mono st2 _ _ r1)) r3.1, .cons (repD_mono st3 _ _ r2) r3.2⟩
  · exact ⟨(kx, vx) :: ps, H3, I3, ⟨.cons rk rel.1, .cons rv rel.2⟩, q3⟩
def putAll (xs : List (D × D)) (p : KD) : KD := xs.foldl (fun p x => dPut p.1 p.2 x.1 x.2) p
@[simp] def eDct (g : Rho → M (List (D × D))) (fin : KD → M D) : Rho → M D := fun ρ S => (g ρ S).bind fun xs S1 => if xs.all (fun x => isKey 8 x.1) = true ∧ xs.length ≤ 15 then fin (putAll xs ([], [])) S1 else .stuck
theorem store_ok (hu : X.A.units + 64 < cLine) {a : Addr} {S : Sto} {α0 α : Al} {H0 : Hp} {pins : List (Addr × Obj)} {σ : L2.St} (ha : H0 a = none) (hh : ∀ b ∈ α0.hid, H0 b ≠ none) (hin : a ∈ α.hid) {Q : Hp → Prop} : ∀ (xs : List (D × D)) (ps : List (V × V)) (ws : List (Value × Value)) (acc : KD) (H : Hp) (s : Shared),
    Inv X pins σ H s → Stp α0 H0 α H → Rep X.K X.w α S H → RAd X.K X.w α H a acc → RepP X.K X.w α H xs ps → RelP ps ws → xs.all (fun x => isKey 8 x.1) = true → acc.1.length + xs.length ≤ 1000 →
    (∀ H', Stp α0 H0 α H' → Rep X.K X.w α S H' → RAd X.K X.w α H' a (putAll xs acc) → Q H') → wpAny (model X.prog X.w) X.A (storeAll a ws) (fun _ s' => ∃ H', Inv X pins σ H' s' ∧ Q H') X.xe s
  | [], ps, ws, acc, H, s, I, st, rp, ra, rP, rel, hk, hl, q => by
    obtain ⟨r1, _⟩ := rP
    have hp : ps = [] := by
      have := r1.length
      simpa using this
    subst hp
    have hw : ws = [] := by
      have := rel.1.length
      simpa using this.symm
    subst hw
    exact wpAny_pure ⟨H, I, q H st rp ra⟩
  | x :: xs, ps, ws, acc, H, s, I, st, rp, ra, rP, rel, hk, hl, q => by
    obtain ⟨r1, r2⟩ := rP
    cases ps with
    | nil => have := r1.length; simp at this
    | cons p ps =>
      cases ws with
      | nil => have := rel.1.length; simp at this
      | cons z ws =>
        obtain ⟨e1, e2⟩ := rel
        simp only [List.map_cons] at r1 r2 e1 e2
        cases e1 with
        | cons k1 k2 =>
          cases e2 with
          | cons v1 v2 =>
            unfold RepL at r1 r2
            obtain ⟨_, _, z1, rk, rks⟩ := r1
            cases z1
            obtain ⟨_, _, z2, rv, rvs⟩ := r2
            cases z2
            rw [List.all_cons, Bool.and_eq_true] at hk
            obtain ⟨kvs, vs, ys, h1, h2, h3, h4⟩ := ra
            have g : DictAt X α H a acc.1 acc.2 kvs vs ys := ⟨.inl h1, h2, h3, h4⟩
            obtain ⟨dn, hs, hz⟩ := g.dictN I
            have hn : (ys.map (·.1)).Nodup := by obtain ⟨_, _, _, _, _, _, _, _, hn⟩ := dn; exact hn
            obtain ⟨kv', vs', t1, t2, t3⟩ := dPut_at hn h2 g.rk g.rv hk.1 rk k1 rv v1
            unfold storeAll
            rw [List.forIn_cons]
            refine wpAny_bind (wpAny_bind ?_)
            refine ZD.set_ok (by omega) (key_isN I hk.1 rk k1) dn hz fun h' tk hm hb => ?_
            have hlen : acc.1.length < sizeLine := Nat.lt_of_lt_of_le (show acc.1.length < 1001 by simp only [List.length_cons] at hl; omega) (by have := PySem.sizeLine_eq; omega)
            have I3 := dict_put (tk := tk) I h1 hs (putN_len2 (by rw [h2.len]; exact hlen)) hm hb
            refine wpAny_pure ?_
            show wpAny _ _ (storeAll a ws) _ _ _
            refine store_ok hu ha hh hin xs ps ws (dPut acc.1 acc.2 x.1 x.2) _ _ I3 (stp_later st ha hh) (rep_hid rp hin (dHO_notup h1)) ⟨kv', vs', _, upd_same, t1, repL_hid hin (dHO_notup h1) _ _ t2, repL_hid hin (dHO_notup h1) _ _ t3⟩ ⟨repL_hid hin (dHO_notup h1) _ _ rks, repL_hid hin (dHO_notup h1) _ _ rvs⟩ ⟨k2, v2⟩ hk.2 ?_ q
            have := dPut_len acc.1 acc.2 x.1 x.2
            simp only [List.length_cons] at hl
            omega
variable {pos : Pos} {fin : KD → M D}
theorem ze_dct (hu : X.A.units + 64 < cLine) (hf : FinG X.K X.w (RAd X.K X.w) (RepD X.K X.w) fin) (h : ZPs X E keys vals g) (hall : keys.all (·.isSome) = true := by rfl) (hl : keys.length = vals.length := by rfl) (h0 : keys ≠ [] := by simp) (h15 : keys.length ≤ 15 := by decide) :
    ZE X E (.Dict keys vals pos) (eDct g fin) := ⟨fun pins s σ H Q I ⟨α, S, ρ, rp, re, q⟩ => by
  have hn := I.hok.fresh (Nat.le_refl s.heap.objs.size)
  have hb : (s.heap.objs.size == sysModules) = false := by
    have := I.big
    exact beq_eq_false_iff_ne.mpr (Nat.ne_of_gt this)
  have ho : (s.heap.push { cls := .type "dict", data := .dict #[] }).get? s.heap.objs.size = some { cls := .type "dict", data := .dict #[] } := Heap.get?_push_size _ rfl
  have I1 : Inv X pins σ (upd H s.heap.objs.size (dHO X.w s.heap.objs.size [])) { s with heap := s.heap.push { cls := .type "dict", data := .dict #[] } } := by
    refine I.laid (a := s.heap.objs.size) (o := dHO X.w s.heap.objs.size []) (t' := s.toks) (fun _ _ q => Heap.get?_push_of_some _ q) (Nat.le_refl _) ?_
    refine ⟨⟨Nat.zero_le _, hb, _, #[], 0, ho, ⟨rfl, rfl, rfl⟩, rfl, rfl, List.nodup_nil⟩, ⟨_, ho⟩, fun h1 h2 p st => ?_⟩
    obtain ⟨p1, p2, o', es', ep', q1, q2⟩ := p
    exact ⟨p1, p2, o', es', ep', st _ q1, q2⟩
  have stB : Stp α H (α.hide s.heap.objs.size) (upd H s.heap.objs.size (dHO X.w s.heap.objs.size [])) := stp_hide rp.hd hn
  have rpB : Rep X.K X.w (α.hide s.heap.objs.size) S (upd H s.heap.objs.size (dHO X.w s.heap.objs.size [])) := rep_hide rp hn
  refine wpAny_Dict_any hall hl h0 h15 ?_
  cases hg : g ρ S with
  | stuck => simp only [eDct, hg, Out.bind] at q; exact q.elim
  | exc c p S1 =>
    simp only [eDct, hg, Out.bind] at q
    refine wpAny_mono (h pos pins _ σ _ (fun _ _ => False) I1 ⟨α.hide s.heap.objs.size, S, ρ, rpB, re.mono stB, ?_⟩) (fun ws s1 ⟨ps, H1, I2, rel, z⟩ => z.elim) fun _ _ z => z
    rw [hg]
    exact Post.mono (β := D) (γ := V) (R := RepD X.K X.w) (o := Out.exc c p S1) (Q := Q) stB q
  | val xs S1 =>
    simp only [eDct, hg, Out.bind] at q
    refine wpAny_mono (h pos pins _ σ _ (fun ps H1 => ∃ α1, Stp (α.hide s.heap.objs.size) (upd H s.heap.objs.size (dHO X.w s.heap.objs.size [])) α1 H1 ∧ Rep X.K X.w α1 S1 H1 ∧ RepP X.K X.w α1 H1 xs ps) I1 ⟨α.hide s.heap.objs.size, S, ρ, rpB, re.mono stB, ?_⟩) (fun ws s1 ⟨ps, H1, I2, rel, α1, st, rp1, rP⟩ => ?_) fun _ _ z => z
    · rw [hg]
      exact fun α' H' ps a1 a2 a3 => ⟨α', a1, a2, a3⟩
    · split at q
      case isFalse => exact q.elim
      rename_i hc
      have hin : s.heap.objs.size ∈ α1.hid := st.stay _ List.mem_cons_self
      have hD : H1 s.heap.objs.size = some (dHO X.w s.heap.objs.size []) := (st.keep _ List.mem_cons_self).trans upd_same
      refine wpAny_mono (store_ok hu (α0 := α) (H0 := H) (S := S1) (Q := fun H' => Q (.ref s.heap.objs.size) H') hn rp.hd hin xs ps ws ([], []) H1 s1 I2 (stB.trans st) rp1 ⟨[], [], [], hD, ⟨rfl, rfl, .nil, .nil⟩, RepL.nil, RepL.nil⟩ rP rel hc.1 (by simp only [List.length_nil]; omega) fun H' st' rp' ra' => ?_) (fun _ s2 ⟨H2, I3, q2⟩ => ?_) fun _ _ z => z
      · exact hf E α α1 H H' S1 _ _ Q st' hn rp.hd hin (fun z => rp'.dj _ hin z) rp' ra' q
      · exact ⟨.ref s.heap.objs.size, H2, I3, rfl, q2⟩⟩
end
end Z
set_option Elab.async false
set_option linter.all false
set_option maxRecDepth 100000
set_option maxHeartbeats 1000000
/-! Z22: lists by their methods, max, sum, sorted. -/
namespace Z
open PySem L2 PySem.Spec PyProof.Rows
/-! ### whole numbers -/
def intsD : List D → Option (List Int)
  | [] => some []
  | .int i :: r => (intsD r).map (i :: ·)
  | _ => none
theorem intsD_map : ∀ {ds : List D} {ns : List Int}, intsD ds = some ns → ds = ns.map D.int
  | [], ns, h => by cases h; rfl
  | d :: r, ns, h => by
    cases d with
    | int i =>
      simp only [intsD] at h
      obtain ⟨ms, h1, rfl⟩ := Option.map_eq_some_iff.mp h
      rw [intsD_map h1]
      rfl
    | _ => cases h
theorem intsD_of (ns : List Int) : intsD (ns.map D.int) = some ns := by
  induction ns with
  | nil => rfl
  | cons n r ih => simp only [List.map_cons, intsD, ih, Option.map_some]
theorem repL_ints {K : PySem.W.Frag} {w : World} {α : Al} {H : Hp} : ∀ {ns : List Int} {vs : List V}, RepL K w α H (ns.map D.int) vs → vs = ns.map V.int
  | [], vs, h => by unfold RepL at h; exact h
  | n :: ns, vs, h => by
    rw [List.map_cons] at h
    unfold RepL at h
    obtain ⟨v, r, e, h1, h2⟩ := h
    rw [e, rep_int h1, repL_ints h2]
    rfl
theorem ints_repL {K : PySem.W.Frag} {w : World} {α : Al} {H : Hp} : ∀ (ns : List Int), RepL K w α H (ns.map D.int) (ns.map V.int)
  | [] => RepL.nil
  | n :: ns => .cons (repI n) (ints_repL ns)
def maxI : List Int → Option Int
  | [] => none
  | n :: r => match maxI r with
    | none => some n
    | some m => some (if n ≤ m then m else n)
theorem maxI_ok : ∀ {ns : List Int} {m : Int}, maxI ns = some m → m ∈ ns ∧ ∀ y ∈ ns, y ≤ m
  | [], m, h => by cases h
  | n :: r, m, h => by
    unfold maxI at h
    cases e : maxI r with
    | none =>
      rw [e] at h
      cases h
      have hr : r = [] := by
        cases r with
        | nil => rfl
        | cons a r =>
          unfold maxI at e
          split at e <;> cases e
      subst hr
      exact ⟨List.mem_cons_self, fun y hy => by simp at hy; omega⟩
    | some k =>
      rw [e] at h
      cases h
      obtain ⟨h1, h2⟩ := maxI_ok e
      by_cases c : n ≤ k
      · rw [if_pos c]
        refine ⟨List.mem_cons_of_mem _ h1, fun y hy => ?_⟩
        rcases List.mem_cons.mp hy with q | q
        · subst q; exact c
        · exact h2 y q
      · rw [if_neg c]
        refine ⟨List.mem_cons_self, fun y hy => ?_⟩
        rcases List.mem_cons.mp hy with q | q
        · subst q; omega
        · have := h2 y q; omega
def bMax : List D → M D := fun ds S => match ds with
  | [d] => (match seqL S d with
    | some es => (match (intsD es).bind maxI with
      | some m => .val (.int m) S
      | none => .stuck)
    | none => .stuck)
  | _ => .stuck
def bSum : List D → M D := fun ds S => match ds with
  | [d] => (match seqL S d with
    | some es => (match intsD es with
      | some ns => .val (.int ns.sum) S
      | none => .stuck)
    | none => .stuck)
  | _ => .stuck
/-- sorted(xs) of whole numbers: a value, a cell -/
def bSortI : List D → M D := fun ds S => match ds with
  | [d] => (match seqL S d with
    | some es => (match intsD es with
      | some ns => .val (.lst ((ns.mergeSort (fun a b => decide (a ≤ b))).map D.int)) S
      | none => .stuck)
    | none => .stuck)
  | _ => .stuck
section
variable {X : Cx} {E : XK}
theorem bs_max : BuS X E (rMax X.K) bMax := fun α S H ds vs Q rp r q => by
  unfold bMax at q
  split at q
  · obtain ⟨v, rfl, r1⟩ := repL1 r
    split at q
    · rename_i es hs
      split at q
      · rename_i m hm
        obtain ⟨ns, h1, h2⟩ := Option.bind_eq_some_iff.mp hm
        obtain ⟨a, ws, rfl, h3, h4⟩ := seqL_rep rp hs r1
        have e := intsD_map h1
        rw [e] at h4
        have e2 := repL_ints h4
        subst e2
        obtain ⟨k1, k2⟩ := maxI_ok h2
        refine ⟨a, ns, rfl, h3, List.length_pos_of_mem k1, fun m' g1 g2 => ?_⟩
        have : m' = m := Int.le_antisymm (k2 m' g1) (g2 m k1)
        subst this
        exact q.now rp (repI _)
      · exact q.elim
    · exact q.elim
  · exact q.elim
theorem bs_sum : BuS X E (rSum X.K) bSum := fun α S H ds vs Q rp r q => by
  unfold bSum at q
  split at q
  · obtain ⟨v, rfl, r1⟩ := repL1 r
    split at q
    · rename_i es hs
      split at q
      · rename_i ns hm
        obtain ⟨a, ws, rfl, h3, h4⟩ := seqL_rep rp hs r1
        rw [intsD_map hm] at h4
        have e2 := repL_ints h4
        subst e2
        exact ⟨a, ns, rfl, h3, q.now rp (repI _)⟩
      · exact q.elim
    · exact q.elim
  · exact q.elim
theorem bs_sortI : BuS X E (rSortedI X.K) bSortI := fun α S H ds vs Q rp r q => by
  unfold bSortI at q
  split at q
  · obtain ⟨v, rfl, r1⟩ := repL1 r
    split at q
    · rename_i es hs
      split at q
      · rename_i ns hm
        obtain ⟨a, ws, rfl, h3, h4⟩ := seqL_rep rp hs r1
        rw [intsD_map hm] at h4
        have e2 := repL_ints h4
        subst e2
        refine ⟨a, ns, rfl, h3, fun ns' p hp hsr hn => ?_⟩
        have hsort : (ns.mergeSort (fun a b => decide (a ≤ b))).Pairwise (· ≤ ·) := by
          have := List.pairwise_mergeSort (le := fun a b : Int => decide (a ≤ b)) (fun a b c h1 h2 => by simp at *; omega) (fun a b => by simp; omega) ns
          exact this.imp fun h => by simpa using h
        have e : ns' = ns.mergeSort (fun a b => decide (a ≤ b)) := List.Perm.eq_of_pairwise (fun _ _ _ _ a b => Int.le_antisymm a b) hsr hsort (hp.trans (List.mergeSort_perm ns _).symm)
        rw [e]
        exact post_lst rp (ints_repL _) q hn
      · exact q.elim
    · exact q.elim
  · exact q.elim
/-! ### methods -/
def mIndex : D → List D → M D := fun o ds S => match seqL S o, ds with
  | some xs, [y] => if okD (.lst xs) = true ∧ okD y = true then (match xs.findIdx? fun z => eqD z y with
    | some j => .val (.int j) S
    | none => .stuck) else .stuck
  | _, _ => .stuck
theorem okD_lay {d : D} (h : okD d = true) : PyData.canLay0 (toP d) = true := by
  unfold okD SeqAt.shaped at h
  rw [Bool.and_eq_true] at h
  exact h.1
theorem me_index : MeS X E isLs (tyV X.K "list") (rIndexD X.K) mIndex := ⟨fun α S H d x rp h r => isLs_ty rp h r, fun α S H d ds x vs Q rp r rl q => by
  unfold mIndex at q
  split at q
  · rename_i xs y hs
    split at q
    · rename_i hok
      split at q
      · rename_i j hj
        obtain ⟨a, ws, rfl, h3, h4⟩ := seqL_rep rp hs r
        obtain ⟨v, rfl, r1⟩ := repL1 rl
        have hc := okD_lay hok.1
        unfold toP at hc
        unfold PyData.canLay0 at hc
        have sh : SeqAt.shaped (.list (xs.map toP)) = true := by
          have := hok.1
          unfold okD toP at this
          exact this
        obtain ⟨hjl, h5, h6⟩ := List.findIdx?_eq_some_iff_getElem.mp hj
        refine ⟨a, v, toP y, xs.map toP, j, toP xs[j], rfl, rfl, .lst h3 (dps_of xs ws hc h4), dp_of y v (okD_lay hok.2) r1, sh, hok.2, ?_, h5, fun m z' hm hz => ?_, q.now rp (repI _)⟩
        · rw [List.getElem?_map, List.getElem?_eq_getElem hjl]
          rfl
        · have hml : m < xs.length := by omega
          rw [List.getElem?_map, List.getElem?_eq_getElem hml] at hz
          cases hz
          exact Bool.not_eq_true _ ▸ h6 m hm
      · exact q.elim
    · exact q.elim
  · exact q.elim⟩
def mPop0 : D → List D → M D := fun o ds S => match o, ds with
  | .ref n, [] => (match S[n]? with
    | some (.lst xs) => (match xs[xs.length - 1]? with
      | some y => .val y (S.set n (.lst xs.dropLast))
      | none => .stuck)
    | _ => .stuck)
  | _, _ => .stuck
theorem RepL.dropLast {K : PySem.W.Frag} {w : World} {α : Al} {H : Hp} : ∀ {ds : List D} {vs : List V}, RepL K w α H ds vs → RepL K w α H ds.dropLast vs.dropLast
  | [], vs, h => by unfold RepL at h; rw [h]; exact RepL.nil
  | [d], vs, h => by
    unfold RepL at h
    obtain ⟨v, r, e, h1, h2⟩ := h
    unfold RepL at h2
    rw [e, h2]
    exact RepL.nil
  | d :: e :: ds, vs, h => by
    unfold RepL at h
    obtain ⟨v, r, eq, h1, h2⟩ := h
    have h2' := h2
    unfold RepL at h2'
    obtain ⟨v2, r2, eq2, h3, h4⟩ := h2'
    have ih := RepL.dropLast h2
    rw [eq]
    rw [eq2] at ih ⊢
    exact .cons h1 ih
theorem me_pop0 : MeS X E isLs (tyV X.K "list") rPop mPop0 := ⟨fun α S H d x rp h r => isLs_ty rp h r, fun α S H d ds x vs Q rp r rl q => by
  unfold mPop0 at q
  split at q
  · rename_i n
    split at q
    · rename_i xs hs
      split at q
      · rename_i y hy
        unfold RepD at r
        obtain ⟨a, rfl, ha⟩ := r
        obtain ⟨ws, h1, h2⟩ := rp.cell n _ a hs ha
        unfold RepL at rl
        subst rl
        obtain ⟨z, hz, rz⟩ := h2.get hy
        have st := stp_set (o := .lst ws.dropLast) rp ha (nofrz h1)
        exact ⟨a, ws, z, rfl, rfl, h1, by rw [h2.length]; exact hz, q α _ _ st (rp.setCell ha (nofrz h1) ⟨_, upd_same, (repL_mono st _ _ h2).dropLast⟩) (repD_mono st _ _ rz)⟩
      · exact q.elim
    · exact q.elim
  · exact q.elim⟩
def mPop1 : D → List D → M D := fun o ds S => match o, ds with
  | .ref n, [.int i] => (match S[n]? with
    | some (.lst xs) => if i = 0 then (match xs with
      | y :: r => .val y (S.set n (.lst r))
      | [] => .stuck) else .stuck
    | _ => .stuck)
  | _, _ => .stuck
theorem me_pop1 : MeS X E isLs (tyV X.K "list") rPopAt mPop1 := ⟨fun α S H d x rp h r => isLs_ty rp h r, fun α S H d ds x vs Q rp r rl q => by
  unfold mPop1 at q
  split at q
  · rename_i n i
    split at q
    · rename_i xs hs
      split at q
      · rename_i hi
        subst hi
        split at q
        · rename_i y xs
          unfold RepD at r
          obtain ⟨a, rfl, ha⟩ := r
          obtain ⟨ws, h1, h2⟩ := rp.cell n _ a hs ha
          obtain ⟨v, rfl, rv⟩ := repL1 rl
          cases rep_int rv
          unfold RepL at h2
          obtain ⟨z, wr, rfl, rz, rr⟩ := h2
          have st := stp_set (o := .lst wr) rp ha (nofrz h1)
          exact ⟨a, _, 0, 0, z, rfl, rfl, h1, by decide, by decide, by simp [seqIndex?], rfl, q α _ _ st (rp.setCell ha (nofrz h1) ⟨_, upd_same, repL_mono st _ _ rr⟩) (repD_mono st _ _ rz)⟩
        · exact q.elim
      · exact q.elim
    · exact q.elim
  · exact q.elim⟩
/-! ### the rules by name -/
variable {pos apos cpos : Pos} {o e : Expr} {fo : Rho → M D} {g : Rho → M (List D)} {T : String} {id : String} {name : Str} {ok : Sto → D → Bool} {mr : V → List V → Hp → VK → Prop} {mop : D → List D → M D}
theorem ze_pop0 (ho : ZE X E o fo) (hbase : attributeBase o "pop" X.env (eval o X.env) = eval o X.env := by rfl) (hline : (apos.endLine == cpos.line) = true := by rfl) :
    ZE X E (.Call (.Attribute o "pop" apos) [] [] cpos) (eMth isLs mPop0 fo aNil) := ze_mb0 me_pop0 PySem.F.plainAttrs_list PySem.F.slot_list_pop PySem.F.type_list_pop mt_pop ho hbase hline
theorem ze_pop1 (ho : ZE X E o fo) (ha : ZA X E [e] g) (hbase : attributeBase o "pop" X.env (eval o X.env) = eval o X.env := by rfl)
    (hfew : ((backTo cpos (starEach [e] X.env)).all (fun x => !x.1) && (backToKw cpos (keywordEach [] X.env)).all (fun x => x.1.isSome)
      && decide (([e] : List Expr).length + ([] : List Keyword).length + (if ([] : List Keyword).isEmpty then 0 else 1) < 30)) = true := by rfl)
    (hline : (apos.endLine == cpos.line) = true := by rfl) (hst : starEach [e] X.env = (false, eval e X.env) :: starEach [] X.env := by rfl) (hplain : (backTo cpos (starEach [] X.env)).any (·.1) = false := by rfl) :
    ZE X E (.Call (.Attribute o "pop" apos) [e] [] cpos) (eMth isLs mPop1 fo g) := ze_mb me_pop1 PySem.F.plainAttrs_list PySem.F.slot_list_pop PySem.F.type_list_pop mt_popAt ho ha hbase hfew hline hst hplain
theorem ze_index (hu : X.A.units + 65 < cLine) (ho : ZE X E o fo) (ha : ZA X E [e] g) (hbase : attributeBase o "index" X.env (eval o X.env) = eval o X.env := by rfl)
    (hfew : ((backTo cpos (starEach [e] X.env)).all (fun x => !x.1) && (backToKw cpos (keywordEach [] X.env)).all (fun x => x.1.isSome)
      && decide (([e] : List Expr).length + ([] : List Keyword).length + (if ([] : List Keyword).isEmpty then 0 else 1) < 30)) = true := by rfl)
    (hline : (apos.endLine == cpos.line) = true := by rfl) (hst : starEach [e] X.env = (false, eval e X.env) :: starEach [] X.env := by rfl) (hplain : (backTo cpos (starEach [] X.env)).any (·.1) = false := by rfl) :
    ZE X E (.Call (.Attribute o "index" apos) [e] [] cpos) (eMth isLs mIndex fo g) := ze_mb me_index PySem.F.plainAttrs_list PySem.F.slot_list_index PySem.F.type_list_index (mt_indexD hu) ho ha hbase hfew hline hst hplain
/-! x is True -/
def opIsB : D → D → M D := fun x y S => match x, y with
  | .bl a, .bl b => .val (.bl (decide (a = b))) S
  | _, _ => .stuck
def rIsBl : R2 := fun x y H Q => ∃ a b, x = .bl a ∧ y = .bl b ∧ Q (.bl (decide (a = b))) H
theorem op_isBlZ : OpR X (compareOp .Is) rIsBl := op_is_bl
theorem os_isB : OpS X E rIsBl opIsB := fun α S H d e v u Q rp r1 r2 q => by
  unfold opIsB at q
  split at q
  · exact ⟨_, _, rep_bl r1, rep_bl r2, q.now rp (repB _)⟩
  · exact q.elim
end
end Z
set_option Elab.async false
set_option linter.all false
set_option maxRecDepth 100000
set_option maxHeartbeats 1000000
/-! M0: what the operations answer, for rewriting. -/
namespace Z
open PySem (Str sizeLine)
open L2 (atI ixN)
@[simp] theorem log2_lit {n : Nat} (h : n < 2 ^ 64) : n.log2 < 9000 := by
  by_cases h0 : n = 0
  · subst h0; decide
  · have := (Nat.log2_lt h0).mpr h
    omega
@[simp] theorem mulOk_l {i j : Int} (h1 : -(2 ^ 64) < i) (h2 : i < 2 ^ 64) : mulOk i j = true := by simp only [mulOk, h1, h2, decide_true, Bool.and_self, Bool.true_or]
@[simp] theorem mulOk_r {i j : Int} (h1 : -(2 ^ 64) < j) (h2 : j < 2 ^ 64) : mulOk i j = true := by simp only [mulOk, h1, h2, decide_true, Bool.and_self, Bool.or_true, Bool.true_or]
section
variable {i j : Int} {a b x y : Str} {p q : Bool} {S : Sto} {d e : D} {ds es : List D}
@[simp] theorem opNeg_int : opNeg (.int i) S = .val (.int (-i)) S := rfl
theorem opEq_of {r : Bool} (h : eqF d e = some r) : opEq d e S = .val (.bl r) S := by simp only [opEq, opEqB, h]
theorem opNe_of {r : Bool} (h : eqF d e = some r) : opNe d e S = .val (.bl (!r)) S := by simp only [opNe, opEqB, h]
@[simp] theorem opEq_int : opEq (.int i) (.int j) S = .val (.bl (decide (i = j))) S := opEq_of rfl
@[simp] theorem opEq_str : opEq (.str a) (.str b) S = .val (.bl (decide (a = b))) S := opEq_of rfl
@[simp] theorem opEq_nn : opEq .non .non S = .val (.bl true) S := opEq_of rfl
@[simp] theorem opEq_ns : opEq .non (.str a) S = .val (.bl false) S := opEq_of rfl
@[simp] theorem opEq_sn : opEq (.str a) .non S = .val (.bl false) S := opEq_of rfl
@[simp] theorem opEq_is : opEq (.int i) (.str a) S = .val (.bl false) S := opEq_of rfl
@[simp] theorem opEq_si : opEq (.str a) (.int i) S = .val (.bl false) S := opEq_of rfl
@[simp] theorem opEq_ni : opEq .non (.int i) S = .val (.bl false) S := opEq_of rfl
@[simp] theorem opEq_in : opEq (.int i) .non S = .val (.bl false) S := opEq_of rfl
@[simp] theorem opEq_bb : opEq (.bl p) (.bl q) S = .val (.bl (decide (p = q))) S := opEq_of rfl
@[simp] theorem opNe_int : opNe (.int i) (.int j) S = .val (.bl (!decide (i = j))) S := opNe_of rfl
@[simp] theorem opNe_str : opNe (.str a) (.str b) S = .val (.bl (!decide (a = b))) S := opNe_of rfl
@[simp] theorem opNe_bb : opNe (.bl p) (.bl q) S = .val (.bl (!decide (p = q))) S := opNe_of rfl
@[simp] theorem isNon_non : isNon .non = true := rfl
@[simp] theorem isNon_int : isNon (.int i) = false := rfl
@[simp] theorem isNon_str : isNon (.str a) = false := rfl
@[simp] theorem isNon_bl : isNon (.bl p) = false := rfl
@[simp] theorem isNon_tup : isNon (.tup ds) = false := rfl
@[simp] theorem isNon_lst : isNon (.lst ds) = false := rfl
theorem atI_nat {β : Type} (l : List β) (n : Nat) : atI l (n : Int) = l[n]? := by
  unfold atI ixN
  rw [if_pos (by omega)]
  by_cases h : n < l.length
  · rw [if_pos (by omega)]; simp
  · rw [if_neg (by omega)]
    rw [List.getElem?_eq_none (by omega)]; rfl
@[simp] theorem atI_0 {β : Type} (l : List β) : atI l 0 = l[0]? := atI_nat l 0
@[simp] theorem atI_1 {β : Type} (l : List β) : atI l 1 = l[1]? := atI_nat l 1
@[simp] theorem atI_2 {β : Type} (l : List β) : atI l 2 = l[2]? := atI_nat l 2
@[simp] theorem atI_cast {β : Type} (l : List β) (n : Nat) : atI l (n : Int) = l[n]? := atI_nat l n
theorem opIx_tupE : opIx (.tup ds) (.int i) S = match atI ds i with
  | some d => .val d S
  | none => .stuck := rfl
theorem opIx_lstE : opIx (.lst ds) (.int i) S = match atI ds i with
  | some d => .val d S
  | none => .stuck := rfl
@[simp] theorem opIx_tup (h : atI ds i = some d) : opIx (.tup ds) (.int i) S = .val d S := by rw [opIx_tupE, h]
@[simp] theorem opIx_lst (h : atI ds i = some d) : opIx (.lst ds) (.int i) S = .val d S := by rw [opIx_lstE, h]
@[simp] theorem bInt_bl : bInt [.bl p] S = .val (.int (if p then 1 else 0)) S := rfl
@[simp] theorem bInt_int : bInt [.int i] S = .val (.int i) S := rfl
@[simp] theorem isTy_str : isTy S ["str"] (.str a) = some true := rfl
@[simp] theorem isTy_str_t : isTy S ["str"] (.tup ds) = some false := rfl
@[simp] theorem isTy_str_i : isTy S ["str"] (.int i) = some false := rfl
@[simp] theorem isTy_str_n : isTy S ["str"] .non = some false := rfl
@[simp] theorem bLen_tup : bLen [.tup ds] S = .val (.int ds.length) S := rfl
@[simp] theorem bLen_lst : bLen [.lst ds] S = .val (.int ds.length) S := rfl
@[simp] theorem bTuple_tup : bTuple [.tup ds] S = .val (.tup ds) S := rfl
@[simp] theorem bTuple_lst : bTuple [.lst ds] S = .val (.tup ds) S := rfl
@[simp] theorem bAll_lst {bs : List Bool} : bAll [.lst (bs.map D.bl)] S = .val (.bl (bs.all id)) S := by simp only [bAll, seqL, bls_of]
end
/-! ### walks -/
def rangeD (n : Nat) : List D := (List.range n).map fun (i : Nat) => D.int (i : Int)
theorem rng_D (n : Nat) : rng 0 n = rangeD n := by simp [rng, rangeD]
theorem srcRng1_nat {n : Nat} (h : n ≤ 1000000) (S : Sto) : srcRng1 [.int (n : Int)] S = .val (always (rangeD n)) S := by
  rw [← rng_D]
  unfold srcRng1
  simp only
  rw [if_pos ⟨by omega, by omega⟩]
  simp
/-- a list comprehension whose parts write nothing -/
theorem compL_pure {ok : Sto → Prop} {g : D → Rho → M Rho} {t : Rho → M Bool} {e : Rho → M D} {ρ : Rho} {S : Sto} (F : D → D) (p : D → Bool) (ρ' : D → Rho) (hok : ok S) : ∀ {ds : List D}, (∀ d ∈ ds, g d ρ S = .val (ρ' d) S) → (∀ d ∈ ds, t (ρ' d) S = .val (p d) S) →
    (∀ d ∈ ds, p d = true → e (ρ' d) S = .val (F d) S) → compL ok g t e ρ ds S = .val ((ds.filter p).map F) S
  | [], _, _, _ => by unfold compL; rw [guard_of hok]; rfl
  | d :: ds, h1, h2, h3 => by
    unfold compL
    rw [guard_of hok]
    have ih := compL_pure F p ρ' hok (ds := ds) (fun d h => h1 d (List.mem_cons_of_mem _ h)) (fun d h => h2 d (List.mem_cons_of_mem _ h)) (fun d h => h3 d (List.mem_cons_of_mem _ h))
    have a1 := h1 d List.mem_cons_self
    have a2 := h2 d List.mem_cons_self
    cases hp : p d with
    | false => simp [a1, a2, hp, ih]
    | true =>
      have a3 := h3 d List.mem_cons_self hp
      simp [a1, a2, a3, hp, ih]
theorem compL_map {ok : Sto → Prop} {g : D → Rho → M Rho} {e : Rho → M D} {ρ : Rho} {S : Sto} (F : D → D) (ρ' : D → Rho) (hok : ok S) {ds : List D} (h1 : ∀ d ∈ ds, g d ρ S = .val (ρ' d) S) (h3 : ∀ d ∈ ds, e (ρ' d) S = .val (F d) S) :
    compL ok g bYes e ρ ds S = .val (ds.map F) S := by
  have := compL_pure (t := bYes) F (fun _ => true) ρ' hok h1 (fun d _ => rfl) (fun d h _ => h3 d h)
  rw [this, List.filter_eq_self.mpr fun _ _ => rfl]
/-- a list comprehension by what stays true -/
theorem compL_inv {ok : Sto → Prop} {g : D → Rho → M Rho} {e : Rho → M D} {ρ : Rho} (J : Sto → Prop) (R : D → D → Prop) (hok : ∀ S, J S → ok S) : ∀ {ds : List D} {S : Sto}, J S → (∀ d ∈ ds, ∀ S, J S → ∃ ρ1 S1 y S2, g d ρ S = .val ρ1 S1 ∧ e ρ1 S1 = .val y S2 ∧ J S2 ∧ R d y) →
    ∃ ys S', compL ok g bYes e ρ ds S = .val ys S' ∧ J S' ∧ ys.length = ds.length ∧ ∀ y ∈ ys, ∃ d ∈ ds, R d y
  | [], S, hJ, _ => ⟨[], S, by unfold compL; rw [guard_of (hok S hJ)], hJ, rfl, fun y hy => (nomatch hy)⟩
  | d :: ds, S, hJ, h => by
    obtain ⟨ρ1, S1, y, S2, e1, e2, j2, r⟩ := h d List.mem_cons_self S hJ
    obtain ⟨ys, S', e3, j3, l3, m3⟩ := compL_inv J R hok j2 fun d hd => h d (List.mem_cons_of_mem _ hd)
    refine ⟨y :: ys, S', ?_, j3, by rw [List.length_cons, List.length_cons, l3], fun z hz => ?_⟩
    · unfold compL; rw [guard_of (hok S hJ)]; simp [e1, e2, e3]
    · rcases List.mem_cons.mp hz with q | q
      · subst q; exact ⟨d, List.mem_cons_self, r⟩
      · obtain ⟨d', h1, h2⟩ := m3 z q; exact ⟨d', List.mem_cons_of_mem _ h1, h2⟩
/-- a for that runs through -/
theorem forL_inv {ok : Sto → Prop} {g : D → Rho → M Rho} {b : Rho → M Fl} (ds0 : List D) (J : Nat → Rho → Sto → Prop) (hok : ∀ k ρ S, J k ρ S → ok S)
    (step : ∀ k d ρ S, ds0[k]? = some d → J k ρ S → ∃ ρ1 S1 ρ2 S2, g d ρ S = .val ρ1 S1 ∧ (b ρ1 S1 = .val (.nx ρ2) S2 ∨ b ρ1 S1 = .val (.cont ρ2) S2) ∧ J (k + 1) ρ2 S2) :
    ∀ {ds : List D} {k : Nat} {ρ : Rho} {S : Sto}, ds0.drop k = ds → J k ρ S → ∃ ρ' S', forL ok g b ds ρ S = .val (.nx ρ') S' ∧ J (k + ds.length) ρ' S'
  | [], k, ρ, S, hd, hJ => ⟨ρ, S, by unfold forL; rw [guard_of (hok k ρ S hJ)], hJ⟩
  | d :: ds, k, ρ, S, hd, hJ => by
    have hk : ds0[k]? = some d := by
      have : (ds0.drop k)[0]? = some d := by rw [hd]; rfl
      rw [List.getElem?_drop] at this
      exact this
    have hd' : ds0.drop (k + 1) = ds := by rw [← List.drop_drop, hd]; rfl
    obtain ⟨ρ1, S1, ρ2, S2, e1, e2, j2⟩ := step k d ρ S hk hJ
    obtain ⟨ρ', S', e3, j3⟩ := forL_inv ds0 J hok step hd' j2
    refine ⟨ρ', S', ?_, by rw [List.length_cons, Nat.add_comm ds.length 1, ← Nat.add_assoc]; exact j3⟩
    unfold forL; rw [guard_of (hok k ρ S hJ)]
    rcases e2 with e2 | e2 <;> simp [e1, e2, e3]
theorem forL_all {ok : Sto → Prop} {g : D → Rho → M Rho} {b : Rho → M Fl} {ds : List D} {ρ : Rho} {S : Sto} (J : Nat → Rho → Sto → Prop) (hok : ∀ k ρ S, J k ρ S → ok S) (h0 : J 0 ρ S)
    (step : ∀ k d ρ S, ds[k]? = some d → J k ρ S → ∃ ρ1 S1 ρ2 S2, g d ρ S = .val ρ1 S1 ∧ (b ρ1 S1 = .val (.nx ρ2) S2 ∨ b ρ1 S1 = .val (.cont ρ2) S2) ∧ J (k + 1) ρ2 S2) :
    ∃ ρ' S', forL ok g b ds ρ S = .val (.nx ρ') S' ∧ J ds.length ρ' S' := by
  have := forL_inv ds J hok step (ds := ds) (k := 0) rfl h0
  simpa using this
theorem szL {n : Nat} (h : n ≤ 1000000) : n ≤ sizeLine := by have := PySem.sizeLine_eq; omega
@[simp] theorem rangeD_len (n : Nat) : (rangeD n).length = n := by simp [rangeD]
theorem rangeD_mem {n : Nat} {d : D} (h : d ∈ rangeD n) : ∃ i, i < n ∧ d = .int (i : Nat) := by
  obtain ⟨i, hi, rfl⟩ := List.mem_map.mp h
  exact ⟨i, List.mem_range.mp hi, rfl⟩
theorem bind_val {β δ : Type} (b : β) (S : Sto) (k : β → Sto → Out δ) : (Out.val b S).bind k = k b S := rfl
theorem rng1_n {g : Rho → M (List D)} {ρ : Rho} {S S' : Sto} {n : Nat} (hg : g ρ S = .val [.int (n : Int)] S') (h : n ≤ 1000000) : iRng1 g ρ S = .val (always (rangeD n)) S' := by
  rw [iRng1, hg, Out.bind]
  exact srcRng1_nat h S'
theorem iVal_n {f : Rho → M D} {ρ : Rho} {S S' S'' : Sto} {d : D} {src : Src} (hf : f ρ S = .val d S') (hs : srcOf d S' = .val src S'') : iVal f ρ S = .val src S'' := by
  unfold iVal; rw [hf]; exact hs
theorem fn0_ret {m : Nat} {e : Rho → M D} {ds : List D} {S S' : Sto} {d : D} (h : e (ds.map some ++ List.replicate m none) S = .val d S') : fn0 m (sRet e) ds S = .val d S' := by simp only [fn0, sRet, h, Out.bind]
theorem lc_pure {f : Rho → M Src} {own : List Nat} {g : D → Rho → M Rho} {t : Rho → M Bool} {e : Rho → M D} {ρ : Rho} {S S1 : Sto} {src : Src} (F : D → D) (p : D → Bool) (ρ' : D → Rho) (hf : f ρ S = .val src S1) (hl : src.items.length ≤ 1000000) (hok : src.ok S1)
    (h1 : ∀ d ∈ src.items, g d (wipeR ρ own) S1 = .val (ρ' d) S1) (h2 : ∀ d ∈ src.items, t (ρ' d) S1 = .val (p d) S1) (h3 : ∀ d ∈ src.items, p d = true → e (ρ' d) S1 = .val (F d) S1) : eFin finL (eComp f own g t e) ρ S = .val (.lst ((src.items.filter p).map F)) S1 := by
  simp only [eFin, eComp, hf, Out.bind, if_pos (szL hl), compL_pure F p ρ' hok h1 h2 h3, finL]
theorem lc_map {f : Rho → M Src} {own : List Nat} {g : D → Rho → M Rho} {e : Rho → M D} {ρ : Rho} {S S1 : Sto} {src : Src} (F : D → D) (ρ' : D → Rho) (hf : f ρ S = .val src S1) (hl : src.items.length ≤ 1000000) (hok : src.ok S1)
    (h1 : ∀ d ∈ src.items, g d (wipeR ρ own) S1 = .val (ρ' d) S1) (h3 : ∀ d ∈ src.items, e (ρ' d) S1 = .val (F d) S1) : eFin finL (eComp f own g bYes e) ρ S = .val (.lst (src.items.map F)) S1 := by
  simp only [eFin, eComp, hf, Out.bind, if_pos (szL hl), compL_map F ρ' hok h1 h3, finL]
end Z
set_option Elab.async false
set_option linter.all false
set_option maxRecDepth 100000
set_option maxHeartbeats 1000000
/-! E1: an engine: what is wanted behind a run, rule by rule. -/
namespace Z
open PySem (Str sizeLine)
open L2 (atI ixN)
section
variable {β δ : Type}
/-- m gives a value, and Q of it -/
def W (o : Out β) (Q : β → Sto → Prop) : Prop := match o with
  | .val b S => Q b S
  | _ => False
variable {o : Out β} {Q Q' : β → Sto → Prop} {b : β} {S S' : Sto} {ρ ρ' : Rho}
theorem w_of (h : o = .val b S) (q : Q b S) : W o Q := by subst h; exact q
theorem w_val (q : Q b S) : W (.val b S) Q := q
theorem w_to (h : W o Q) : ∃ b S, o = .val b S ∧ Q b S := by
  cases o with
  | val b S => exact ⟨b, S, rfl, h⟩
  | exc => exact h.elim
  | stuck => exact h.elim
theorem w_imp (h : W o Q) (k : ∀ b S, Q b S → Q' b S) : W o Q' := by
  cases o with
  | val b S => exact k b S h
  | exc => exact h.elim
  | stuck => exact h.elim
theorem w_eq (h : W o fun b' S' => b' = b ∧ S' = S) : o = .val b S := by
  obtain ⟨b', S', e, rfl, rfl⟩ := w_to h
  exact e
theorem w_bind {m : Out δ} {k : δ → Sto → Out β} (h : W m fun d S => W (k d S) Q) : W (m.bind k) Q := by
  cases m with
  | val b S => exact h
  | exc => exact h.elim
  | stuck => exact h.elim
theorem w_ite {c : Prop} [Decidable c] {x y : Out β} (hc : c) (h : W x Q) : W (if c then x else y) Q := by rw [if_pos hc]; exact h
/-- a parting of ways -/
def cnd (q : Bool) (A B : Prop) : Prop := (q = true → A) ∧ (q = false → B)
theorem cnd_true {A B : Prop} (a : A) : cnd true A B := ⟨fun _ => a, fun h => nomatch h⟩
theorem cnd_false {A B : Prop} (b : B) : cnd false A B := ⟨fun h => (nomatch h), fun _ => b⟩
theorem cnd_by {A B : Prop} {q : Bool} (a : q = true → A) (b : q = false → B) : cnd q A B := ⟨a, b⟩
theorem cnd_dec {A B p : Prop} [Decidable p] (a : p → A) (b : ¬ p → B) : cnd (decide p) A B := ⟨fun h => a (of_decide_eq_true h), fun h => b (of_decide_eq_false h)⟩
theorem cnd_t {A B p : Prop} [Decidable p] (hp : p) (a : A) : cnd (decide p) A B := ⟨fun _ => a, fun h => absurd hp (of_decide_eq_false h)⟩
theorem cnd_f {A B p : Prop} [Decidable p] (hp : ¬ p) (b : B) : cnd (decide p) A B := ⟨fun h => absurd (of_decide_eq_true h) hp, fun _ => b⟩
theorem cnd_not {A B : Prop} {q : Bool} (h : cnd q B A) : cnd (!q) A B := by
  cases q with
  | true => exact ⟨fun e => (nomatch e), fun _ => h.1 rfl⟩
  | false => exact ⟨fun _ => h.2 rfl, fun e => (nomatch e)⟩
theorem cnd_eq {A B : Prop} {q r : Bool} (e : q = r) (h : cnd r A B) : cnd q A B := by subst e; exact h
theorem cnd_out {β : Type} {q : Bool} {x y : Out β} {Q : β → Sto → Prop} (h : cnd q (W x Q) (W y Q)) : W (if q = true then x else y) Q := by
  cases q
  · exact h.2 rfl
  · exact h.1 rfl
theorem cnd_bif {A B : Prop} {q : Bool} (h : if q = true then A else B) : cnd q A B := by cases q <;> simp at h <;> simp [cnd, h]
end
section
variable {ρ ρ' : Rho} {S S' : Sto} {d e r : D} {ds : List D} {f g f1 f2 : Rho → M D} {a : Rho → M (List D)} {c c1 c2 : Rho → M Bool} {op : D → D → M D} {i j l n : Nat} {Q : D → Sto → Prop} {R : Bool → Sto → Prop} {T : List D → Sto → Prop}
/-! ### expressions -/
theorem w_eVar (h : ρ[i]? = some (some d)) (q : Q d S) : W (eVar i ρ S) Q := w_of (by simp only [eVar, h]) q
theorem w_eC (q : Q d S) : W (eC d ρ S) Q := q
theorem w_eOp (h : W (f ρ S) fun x S1 => W (g ρ S1) fun y S2 => W (op x y S2) Q) : W (eOp op f g ρ S) Q := w_bind (w_imp h fun _ _ h => w_bind h)
theorem w_eUn {o : D → M D} (h : W (f ρ S) fun x S1 => W (o x S1) Q) : W (eUn o f ρ S) Q := w_bind h
theorem w_eIf (h : W (c ρ S) fun q S1 => cnd q (W (f1 ρ S1) Q) (W (f2 ρ S1) Q)) : W (eIf c f1 f2 ρ S) Q := w_bind (w_imp h fun q S h => by exact cnd_out h)
theorem w_bAnd (h : W (c1 ρ S) fun q S1 => cnd q (W (c2 ρ S1) R) (R false S1)) : W (bAnd c1 c2 ρ S) R := w_bind (w_imp h fun q S h => by exact cnd_out h)
theorem w_bOr (h : W (c1 ρ S) fun q S1 => cnd q (R true S1) (W (c2 ρ S1) R)) : W (bOr c1 c2 ρ S) R := w_bind (w_imp h fun q S h => by exact cnd_out h)
theorem w_bNot (h : W (c ρ S) fun q S1 => R (!q) S1) : W (bNot c ρ S) R := w_bind h
theorem w_isBl {b : Bool} (h : R b S) : W (isBl (.bl b) S) R := h
theorem w_bVal (h : W (f ρ S) fun x S1 => W (isBl x S1) R) : W (bVal f ρ S) R := w_bind h
theorem w_eAnd (h : W (f ρ S) fun x S1 => W (isBl x S1) fun q S2 => cnd q (W (g ρ S2) Q) (Q (.bl false) S2)) : W (eAnd f g ρ S) Q := w_bind (w_imp h fun x S1 h => w_bind (w_imp h fun q S h => by exact cnd_out h))
theorem w_eOr (h : W (f ρ S) fun x S1 => W (isBl x S1) fun q S2 => cnd q (Q (.bl true) S2) (W (g ρ S2) Q)) : W (eOr f g ρ S) Q := w_bind (w_imp h fun x S1 h => w_bind (w_imp h fun q S h => by exact cnd_out h))
theorem w_eOrT (h : W (f ρ S) fun x S1 => W (opTru x S1) fun q S2 => cnd q (Q x S2) (W (g ρ S2) Q)) : W (eOrT f g ρ S) Q := w_bind (w_imp h fun x S1 h => w_bind (w_imp h fun q S h => by exact cnd_out h))
theorem w_eNot (h : W (f ρ S) fun x S1 => W (isBl x S1) fun q S2 => Q (.bl (!q)) S2) : W (eNot f ρ S) Q := w_bind (w_imp h fun x S1 h => w_bind h)
theorem w_aNil (h : T [] S) : W (aNil ρ S) T := h
theorem w_aCons (h : W (f ρ S) fun x S1 => W (a ρ S1) fun xs S2 => T (x :: xs) S2) : W (aCons f a ρ S) T := w_bind (w_imp h fun _ _ h => w_bind h)
theorem w_eTup (h : W (a ρ S) fun xs S1 => Q (.tup xs) S1) : W (eTup a ρ S) Q := w_bind h
theorem w_eLst (h : W (a ρ S) fun xs S1 => Q (.lst xs) S1) : W (eLst a ρ S) Q := w_bind h
theorem w_eCel (h : W (a ρ S) fun xs S1 => Q (.ref S1.length) (S1 ++ [.lst xs])) : W (eCel a ρ S) Q := w_bind h
theorem w_eDcV (h : Q (.dic [] []) S) : W (eDcV ρ S) Q := h
theorem w_eDcC (h : Q (.ref S.length) (S ++ [.dic false [] []])) : W (eDcC ρ S) Q := h
theorem w_oNone {P : Option Int → Sto → Prop} (h : P none S) : W (oNone ρ S) P := h
theorem w_oInt {P : Option Int → Sto → Prop} {i : Int} (h : P (some i) S) : W (oInt (.int i) S) P := h
theorem w_oSome {P : Option Int → Sto → Prop} (h : W (f ρ S) fun x S1 => W (oInt x S1) P) : W (oSome f ρ S) P := w_bind h
theorem w_eSl {lo hi : Rho → M (Option Int)} (h : W (f ρ S) fun x S1 => W (lo ρ S1) fun l S2 => W (hi ρ S2) fun u S3 => W (opSl x l u S3) Q) : W (eSl f lo hi ρ S) Q := w_bind (w_imp h fun _ _ h => w_bind (w_imp h fun _ _ h => w_bind h))
theorem w_eCall {F : List D → M D} (h : W (a ρ S) fun ds S1 => W (F ds S1) Q) : W (eCall F a ρ S) Q := w_bind h
/-- is it of one of these kinds -/
def tyQ (ts : List String) (d : D) (Q : D → Sto → Prop) (S : Sto) : Prop := ∃ b, isTy S ts d = some b ∧ Q (.bl b) S
theorem w_eIsi {ts : List String} (h : W (f ρ S) fun d S1 => tyQ ts d Q S1) : W (eIsi ts f ρ S) Q := w_bind (w_imp h fun d S1 ⟨b, e, q⟩ => by rw [e]; exact q)
theorem w_tyQ {ts : List String} {b : Bool} (e : isTy S ts d = some b) (q : Q (.bl b) S) : tyQ ts d Q S := ⟨b, e, q⟩
theorem w_eMth {ok : Sto → D → Bool} {op : D → List D → M D} (h : W (f ρ S) fun o S1 => ok S1 o = true ∧ W (a ρ S1) fun ds S2 => W (op o ds S2) Q) : W (eMth ok op f a ρ S) Q := w_bind (w_imp h fun o S1 ⟨h1, h2⟩ => by rw [if_pos h1]; exact w_bind h2)
theorem w_eFld {x y : Str} (h : W (f ρ S) fun o S1 => W (opFld x y o S1) Q) : W (eFld x y f ρ S) Q := w_bind h
theorem w_opFld {x y : Str} {fs : List (Str × D)} (h1 : insOf x S e = some fs) (h2 : fs.lookup y = some d) (q : Q d S) : W (opFld x y e S) Q := w_of (by simp only [opFld, h1, h2]) q
/-- a method asked of an instance -/
def metQ (c m : Str) (o : D) (S : Sto) (P : Prop) : Prop := ∃ fs, insOf c S o = some fs ∧ fs.lookup m = none ∧ P
theorem w_eMeth {x y : Str} {F : List D → M D} (h : W (f ρ S) fun o S1 => metQ x y o S1 (W (a ρ S1) fun ds S2 => W (F (o :: ds) S2) Q)) : W (eMeth x y F f a ρ S) Q := w_bind (w_imp h fun o S1 ⟨fs, h1, h2, h3⟩ => by rw [h1]; simp only; rw [if_pos h2]; exact w_bind h3)
theorem w_eMake {x : Str} {F : List D → M D} (h : W (a ρ S) fun ds S1 => W (F (.ref S1.length :: ds) (S1 ++ [.ins x []])) fun v S2 => v = .non ∧ Q (.ref S1.length) S2) : W (eMake x F a ρ S) Q := w_bind (w_imp h fun ds S1 h => w_bind (w_imp h fun v S2 ⟨h1, h2⟩ => by subst h1; exact h2))
theorem w_bYes (h : R true S) : W (bYes ρ S) R := h
/-! ### operators -/
variable {x y : Int} {s t : Str} {p q : Bool}
theorem w_add_i (h : Q (.int (x + y)) S) : W (opAdd (.int x) (.int y) S) Q := h
theorem w_add_s (hl : s.length + t.length ≤ sizeLine) (h : Q (.str (s ++ t)) S) : W (opAdd (.str s) (.str t) S) Q := w_of (by simp only [opAdd]; rw [if_pos hl]) h
theorem w_add_t {a b : List D} (hl : a.length + b.length ≤ 1000000) (h : Q (.tup (a ++ b)) S) : W (opAdd (.tup a) (.tup b) S) Q := w_of (by simp only [opAdd]; rw [if_pos (szL hl)]) h
theorem w_add_l {a b : List D} (hl : a.length + b.length ≤ 1000000) (h : Q (.lst (a ++ b)) S) : W (opAdd (.lst a) (.lst b) S) Q := w_of (by simp only [opAdd, seqM]; rw [if_pos (szL hl)]) h
theorem w_sub_i (h : Q (.int (x - y)) S) : W (opSub (.int x) (.int y) S) Q := h
theorem w_mul_i (hm : mulOk x y = true) (h : Q (.int (x * y)) S) : W (opMul (.int x) (.int y) S) Q := w_of (by simp only [opMul]; rw [if_pos hm]) h
theorem w_div_i (h0 : 0 < y) (h1 : y < 2 ^ 64) (h : Q (.int (x / y)) S) : W (opDiv (.int x) (.int y) S) Q := w_of (by simp only [opDiv]; rw [if_pos ⟨h0, log2_lit (by omega)⟩]) h
theorem w_mod_i (h0 : 0 < y) (h : Q (.int (x % y)) S) : W (opMod (.int x) (.int y) S) Q := w_of (by simp only [opMod]; rw [if_pos h0]) h
theorem w_neg_i (h : Q (.int (-x)) S) : W (opNeg (.int x) S) Q := h
theorem w_lt_i (h : Q (.bl (decide (x < y))) S) : W (opLt (.int x) (.int y) S) Q := h
theorem w_le_i (h : Q (.bl (decide (x ≤ y))) S) : W (opLe (.int x) (.int y) S) Q := h
theorem w_gt_i (h : Q (.bl (decide (y < x))) S) : W (opGt (.int x) (.int y) S) Q := h
theorem w_ge_i (h : Q (.bl (decide (y ≤ x))) S) : W (opGe (.int x) (.int y) S) Q := h
theorem w_eq_i (h : Q (.bl (decide (x = y))) S) : W (opEq (.int x) (.int y) S) Q := h
theorem w_eq_s (h : Q (.bl (decide (s = t))) S) : W (opEq (.str s) (.str t) S) Q := h
theorem w_eq_b (h : Q (.bl (decide (p = q))) S) : W (opEq (.bl p) (.bl q) S) Q := h
theorem w_eq_nn (h : Q (.bl true) S) : W (opEq .non .non S) Q := h
theorem w_eq_ns (h : Q (.bl false) S) : W (opEq .non (.str s) S) Q := h
theorem w_eq_sn (h : Q (.bl false) S) : W (opEq (.str s) .non S) Q := h
theorem w_eq_is (h : Q (.bl false) S) : W (opEq (.int x) (.str s) S) Q := h
theorem w_eq_si (h : Q (.bl false) S) : W (opEq (.str s) (.int x) S) Q := h
theorem w_eq_ni (h : Q (.bl false) S) : W (opEq .non (.int x) S) Q := h
theorem w_eq_in (h : Q (.bl false) S) : W (opEq (.int x) .non S) Q := h
theorem w_ne_i (h : Q (.bl (!decide (x = y))) S) : W (opNe (.int x) (.int y) S) Q := h
theorem w_ne_s (h : Q (.bl (!decide (s = t))) S) : W (opNe (.str s) (.str t) S) Q := h
theorem w_ne_b (h : Q (.bl (!decide (p = q))) S) : W (opNe (.bl p) (.bl q) S) Q := h
theorem w_is_n (h : Q (.bl (isNon d)) S) : W (opIs d .non S) Q := h
theorem w_isNot_n (h : Q (.bl (!isNon d)) S) : W (opIsNot d .non S) Q := h
theorem w_ix_t {ds : List D} (hd : atI ds x = some d) (h : Q d S) : W (opIx (.tup ds) (.int x) S) Q := w_of (opIx_tup hd) h
theorem w_ix_l {ds : List D} (hd : atI ds x = some d) (h : Q d S) : W (opIx (.lst ds) (.int x) S) Q := w_of (opIx_lst hd) h
theorem w_ix_w {ds : List D} (hd : atI ds x = some d) (h : Q d S) : W (opIx (.wl ds) (.int x) S) Q := w_of (by simp only [opIx, seqL, hd]) h
theorem w_ix_r {n : Nat} {ds : List D} (hn : S[n]? = some (.lst ds)) (hd : atI ds x = some d) (h : Q d S) : W (opIx (.ref n) (.int x) S) Q := w_of (by simp only [opIx, seqL, hn, hd]) h
theorem w_sl_t {ds : List D} {lo hi : Option Int} (h : Q (.tup (cutL ds lo hi)) S) : W (opSl (.tup ds) lo hi S) Q := h
theorem w_sl_l {ds : List D} {lo hi : Option Int} (h : Q (.lst (cutL ds lo hi)) S) : W (opSl (.lst ds) lo hi S) Q := h
theorem w_sl_w {ds : List D} {lo hi : Option Int} (h : Q (.lst (cutL ds lo hi)) S) : W (opSl (.wl ds) lo hi S) Q := h
theorem w_len_t {ds : List D} (h : Q (.int (ds.length : Nat)) S) : W (bLen [.tup ds] S) Q := h
theorem w_len_l {ds : List D} (h : Q (.int (ds.length : Nat)) S) : W (bLen [.lst ds] S) Q := h
theorem w_len_w {ds : List D} (h : Q (.int (ds.length : Nat)) S) : W (bLen [.wl ds] S) Q := h
theorem w_len_d {ks vs : List D} (h : Q (.int (ks.length : Nat)) S) : W (bLen [.dic ks vs] S) Q := h
theorem w_len_r {n : Nat} {ds : List D} (hn : S[n]? = some (.lst ds)) (h : Q (.int (ds.length : Nat)) S) : W (bLen [.ref n] S) Q := w_of (by simp only [bLen, lenD, seqA, seqL, hn]) h
theorem w_len_lm {β : Type} {l : List β} {F : β → D} (h : Q (.int (l.length : Nat)) S) : W (bLen [.lst (l.map F)] S) Q := w_len_l (by rw [List.length_map]; exact h)
theorem w_len_tm {β : Type} {l : List β} {F : β → D} (h : Q (.int (l.length : Nat)) S) : W (bLen [.tup (l.map F)] S) Q := w_len_t (by rw [List.length_map]; exact h)
theorem w_len_rm {β : Type} {l : List β} {F : β → D} {n : Nat} (hn : S[n]? = some (.lst (l.map F))) (h : Q (.int (l.length : Nat)) S) : W (bLen [.ref n] S) Q := w_len_r hn (by rw [List.length_map]; exact h)
theorem w_tuple_l {ds : List D} (h : Q (.tup ds) S) : W (bTuple [.lst ds] S) Q := h
theorem w_tuple_t {ds : List D} (h : Q (.tup ds) S) : W (bTuple [.tup ds] S) Q := h
theorem w_tuple_r {n : Nat} {ds : List D} (hn : S[n]? = some (.lst ds)) (h : Q (.tup ds) S) : W (bTuple [.ref n] S) Q := w_of (by simp only [bTuple, seqL, hn]) h
theorem w_int_b (h : Q (.int (if p = true then 1 else 0)) S) : W (bInt [.bl p] S) Q := h
theorem w_int_i (h : Q (.int x) S) : W (bInt [.int x] S) Q := h
theorem w_abs_i (h : Q (.int (if x < 0 then -x else x)) S) : W (bAbs [.int x] S) Q := by
  refine w_of ?_ h
  rfl
theorem w_all {bs : List Bool} (h : Q (.bl (bs.all id)) S) : W (bAll [.lst (bs.map D.bl)] S) Q := w_of bAll_lst h
theorem w_append {n : Nat} {xs : List D} (hn : S[n]? = some (.lst xs)) (hl : xs.length < 1000000) (h : Q .non (S.set n (.lst (xs ++ [d])))) : W (mAppend (.ref n) [d] S) Q := w_of (by simp only [mAppend, hn]; rw [if_pos (Nat.lt_of_lt_of_le hl (szL (Nat.le_refl _)))]) h
/-! ### statements -/
/-- what goes on behind a statement -/
def fK (k : Rho → Sto → Prop) (Q : Fl → Sto → Prop) : Fl → Sto → Prop
  | .nx ρ, S => k ρ S
  | fl, S => Q fl S
/-- what a def answers -/
def fR (Q : D → Sto → Prop) : Fl → Sto → Prop
  | .ret d, S => Q d S
  | .nx _, S => Q .non S
  | _, _ => False
/-- behind a loop's body: on, or out -/
def fT (on : Rho → Sto → Prop) (Q : Fl → Sto → Prop) : Fl → Sto → Prop
  | .nx ρ, S => on ρ S
  | .cont ρ, S => on ρ S
  | .brk ρ, S => Q (.nx ρ) S
  | .ret d, S => Q (.ret d) S
variable {k : Rho → Sto → Prop} {U : Fl → Sto → Prop} {u v : Rho → M Fl}
theorem w_sSeq (h : W (u ρ S) (fK (fun ρ1 S1 => W (v ρ1 S1) U) U)) : W (sSeq u v ρ S) U := w_bind (w_imp h fun fl S1 h => by cases fl <;> exact h)
theorem w_sSkip (h : U (.nx ρ) S) : W (sSkip ρ S) U := h
theorem w_sBrk (h : U (.brk ρ) S) : W (sBrk ρ S) U := h
theorem w_sCont (h : U (.cont ρ) S) : W (sCont ρ S) U := h
theorem w_sRet (h : W (f ρ S) fun d S1 => U (.ret d) S1) : W (sRet f ρ S) U := w_bind h
theorem w_sRetN (h : U (.ret .non) S) : W (sRetN ρ S) U := h
theorem w_sDrop (h : W (f ρ S) fun d S1 => U (.nx ρ) S1) : W (sDrop f ρ S) U := w_bind h
theorem w_sAsg {g : D → Rho → M Rho} (h : W (f ρ S) fun d S1 => W (g d ρ S1) fun ρ1 S2 => U (.nx ρ1) S2) : W (sAsg f g ρ S) U := w_bind (w_imp h fun _ _ h => w_bind h)
theorem w_sIf (h : W (c ρ S) fun q S1 => cnd q (W (u ρ S1) U) (W (v ρ S1) U)) : W (sIf c u v ρ S) U := w_bind (w_imp h fun q S h => by exact cnd_out h)
def par2 (i j : Nat) (ρ : Rho) (U : Rho → Sto → Prop) : List D → Sto → Prop
  | [x, y], S => U ((ρ.set i (some x)).set j (some y)) S
  | _, _ => False
def par3 (i j l : Nat) (ρ : Rho) (U : Rho → Sto → Prop) : List D → Sto → Prop
  | [x, y, z], S => U (((ρ.set i (some x)).set j (some y)).set l (some z)) S
  | _, _ => False
theorem w_sPar2 (h : W (a ρ S) (par2 i j ρ fun ρ1 S1 => U (.nx ρ1) S1)) : W (sPar2 i j a ρ S) U := w_bind (w_imp h fun ds S1 h => by
  match ds, h with
  | [x, y], h => exact h)
theorem w_sPar3 (h : W (a ρ S) (par3 i j l ρ fun ρ1 S1 => U (.nx ρ1) S1)) : W (sPar3 i j l a ρ S) U := w_bind (w_imp h fun ds S1 h => by
  match ds, h with
  | [x, y, z], h => exact h)
theorem w_par2 {U : Rho → Sto → Prop} (h : U ((ρ.set i (some d)).set j (some e)) S) : par2 i j ρ U [d, e] S := h
theorem w_par3 {U : Rho → Sto → Prop} (h : U (((ρ.set i (some d)).set j (some e)).set l (some r)) S) : par3 i j l ρ U [d, e, r] S := h
theorem w_sAug (hv : ρ[i]? = some (some d)) (h : W (f ρ S) fun y S1 => W (op d y S1) fun z S2 => U (.nx (ρ.set i (some z))) S2) : W (sAug i op f ρ S) U := by
  unfold sAug; rw [hv]; exact w_bind (w_imp h fun _ _ h => w_bind h)
theorem w_sFldZ {x y : Str} (h : W (g ρ S) fun d S1 => W (f ρ S1) fun o S2 => W (opFldSet x y o d S2) fun _ S3 => U (.nx ρ) S3) : W (sFldZ x y f g ρ S) U := w_bind (w_imp h fun _ _ h => w_bind (w_imp h fun _ _ h => w_bind h))
theorem w_opFldSet {x y : Str} {fs : List (Str × D)} {P : Unit → Sto → Prop} (hn : S[n]? = some (.ins x fs)) (hl : fs.length < 1000) (h : P () (S.set n (.ins x (fPut y d fs)))) : W (opFldSet x y (.ref n) d S) P := w_of (by simp only [opFldSet, hn]; rw [if_pos (by simpa using hl)]) h
/-! ### targets -/
variable {P : Rho → Sto → Prop} {G : D → Rho → M Rho} {Gs : List D → Rho → M Rho}
theorem w_tName (h : P (ρ.set i (some d)) S) : W (tName i d ρ S) P := h
theorem w_tsNil (h : P ρ S) : W (tsNil [] ρ S) P := h
theorem w_tsCons {ds : List D} (h : W (G d ρ S) fun ρ1 S1 => W (Gs ds ρ1 S1) P) : W (tsCons G Gs (d :: ds) ρ S) P := w_bind h
theorem w_tTupZ {ds : List D} (hl : ds.length = n) (h : W (Gs ds ρ S) P) : W (tTupZ n Gs (.tup ds) ρ S) P := by unfold tTupZ; simp only; rw [if_pos hl]; exact h
theorem w_tTupZl {ds : List D} (hl : ds.length = n) (h : W (Gs ds ρ S) P) : W (tTupZ n Gs (.lst ds) ρ S) P := by unfold tTupZ; simp only [seqL]; rw [if_pos hl]; exact h
theorem w_tSub {fo fi : Rho → M D} (h : W (fo ρ S) fun o S1 => W (fi ρ S1) fun i S2 => W (opSet o i d S2) fun _ S3 => P ρ S3) : W (tSub fo fi d ρ S) P := w_bind (w_imp h fun _ _ h => w_bind (w_imp h fun _ _ h => w_bind h))
theorem w_set_l {ds : List D} {n m : Nat} {P : Unit → Sto → Prop} (hn : S[n]? = some (.lst ds)) (hm : m < ds.length) (h : P () (S.set n (.lst (ds.set m d)))) : W (opSet (.ref n) (.int (m : Nat)) d S) P := by
  have e : ixN ds.length (m : Int) = some m := by
    unfold ixN
    rw [if_pos (by omega), if_pos (by omega)]
    simp
  exact w_of (by simp only [opSet, hn, e]) h
theorem w_set_d {ks vs : List D} {n : Nat} {P : Unit → Sto → Prop} (hn : S[n]? = some (.dic false ks vs)) (hk : isKey 8 e = true) (hl : ks.length < 1000000) (h : P () (S.set n (.dic false (dPut ks vs e d).1 (dPut ks vs e d).2))) : W (opSet (.ref n) e d S) P := by
  refine w_of ?_ h
  simp only [opSet, hn]
  rw [if_pos ⟨hk, Nat.lt_of_lt_of_le hl (szL (Nat.le_refl _))⟩]
/-! ### defs -/
theorem w_fn0 {m : Nat} (h : W (u (ds.map some ++ List.replicate m none) S) (fR Q)) : W (fn0 m u ds S) Q := w_bind (w_imp h fun fl S1 h => by
  cases fl with
  | ret d => exact h
  | nx _ => exact h
  | brk _ => exact h.elim
  | cont _ => exact h.elim)
/-! ### walks -/
variable {Z : Src → Sto → Prop}
theorem w_iVal (h : W (f ρ S) fun d S1 => W (srcOf d S1) Z) : W (iVal f ρ S) Z := w_bind h
theorem w_iRng1 (h : W (a ρ S) fun d S1 => W (srcRng1 d S1) Z) : W (iRng1 a ρ S) Z := w_bind h
theorem w_iRng2 (h : W (a ρ S) fun d S1 => W (srcRng2 d S1) Z) : W (iRng2 a ρ S) Z := w_bind h
theorem w_iEnum (h : W (a ρ S) fun d S1 => W (srcEnum d S1) Z) : W (iEnum a ρ S) Z := w_bind h
theorem w_iZip (h : W (a ρ S) fun d S1 => W (srcZip d S1) Z) : W (iZip a ρ S) Z := w_bind h
theorem w_iZipS (h : W (a ρ S) fun d S1 => W (srcZipS d S1) Z) : W (iZipS a ρ S) Z := w_bind h
theorem w_src_t {ds : List D} (h : Z (always ds) S) : W (srcOf (.tup ds) S) Z := h
theorem w_src_l {ds : List D} (h : Z (always ds) S) : W (srcOf (.lst ds) S) Z := h
theorem w_src_w {ds : List D} (h : Z (always ds) S) : W (srcOf (.wl ds) S) Z := h
theorem w_src_s (h : Z (always (signs s)) S) : W (srcOf (.str s) S) Z := h
theorem rng_ok {S : Sto} {n : Nat} (h : n ≤ 1000000) : ∀ j : Int, j = (n : Int) → srcRng1 [.int j] S = .val (always (rangeD n)) S := by
  rintro j rfl
  exact srcRng1_nat h S
theorem w_rng1 (h0 : 0 ≤ x) (h1 : x ≤ 1000000) (h : Z (always (rangeD x.toNat)) S) : W (srcRng1 [.int x] S) Z := by
  exact w_of (rng_ok (n := x.toNat) (by omega) x (by omega)) h
theorem w_rng1n {n : Nat} (h1 : n ≤ 1000000) (h : Z (always (rangeD n)) S) : W (srcRng1 [.int (n : Nat)] S) Z := by
  have e := srcRng1_nat h1 S
  rw [e]
  exact h
theorem w_enum_l {ds : List D} (h : Z ⟨enums ds, fun _ => True⟩ S) : W (srcEnum [.lst ds] S) Z := h
theorem w_enum_w {ds : List D} (h : Z ⟨enums ds, fun _ => True⟩ S) : W (srcEnum [.wl ds] S) Z := h
theorem w_zip_l {a b : List D} (h : Z ⟨zips a b, fun _ => True ∧ True⟩ S) : W (srcZip [.lst a, .lst b] S) Z := h
theorem w_zip_t {a b : List D} (h : Z (always (zips a b)) S) : W (srcZip [.tup a, .tup b] S) Z := h
theorem w_zipS_l {a b : List D} (hl : a.length = b.length) (h : Z ⟨zips a b, fun _ => True ∧ True⟩ S) : W (srcZipS [.lst a, .lst b] S) Z := w_of (by simp only [srcZipS, lstSrc_lst]; rw [if_pos (show (always a).items.length = (always b).items.length from hl)]; rfl) h
theorem w_sFor {b : Rho → M Fl} {I : Rho → M Src} (h : W (I ρ S) fun s S1 => W (forL s.ok G b s.items ρ S1) U) : W (sFor I G b ρ S) U := w_bind h
/-- a for by what stays true, turn by turn -/
theorem w_forL {ok : Sto → Prop} {b : Rho → M Fl} (J : Nat → Rho → Sto → Prop) {ds0 : List D} (h0 : J 0 ρ S) (hok : ∀ k ρ S, J k ρ S → ok S)
    (step : ∀ k d ρ S, ds0[k]? = some d → J k ρ S → W (G d ρ S) fun ρ1 S1 => W (b ρ1 S1) (fT (J (k + 1)) U))
    (fin : ∀ ρ S, J ds0.length ρ S → U (.nx ρ) S) : W (forL ok G b ds0 ρ S) U := by
  have main : ∀ (ds : List D) (k : Nat) (ρ : Rho) (S : Sto), ds0.drop k = ds → k ≤ ds0.length → J k ρ S → W (forL ok G b ds ρ S) U := by
    intro ds
    induction ds with
    | nil =>
      intro k ρ S hd hk hJ
      unfold forL
      rw [guard_of (hok k ρ S hJ)]
      have : k = ds0.length := by
        have := congrArg List.length hd
        rw [List.length_drop, List.length_nil] at this
        omega
      subst this
      exact fin ρ S hJ
    | cons d ds ih =>
      intro k ρ S hd hk hJ
      have hk2 : ds0[k]? = some d := by
        have : (ds0.drop k)[0]? = some d := by rw [hd]; rfl
        rw [List.getElem?_drop] at this
        exact this
      have hd' : ds0.drop (k + 1) = ds := by rw [← List.drop_drop, hd]; rfl
      have hl := (List.getElem?_eq_some_iff.mp hk2).1
      unfold forL
      rw [guard_of (hok k ρ S hJ)]
      refine w_bind (w_imp (step k d ρ S hk2 hJ) fun ρ1 S1 h => w_bind (w_imp h fun fl S2 h => ?_))
      cases fl with
      | nx ρ2 => exact ih (k + 1) ρ2 S2 hd' hl h
      | cont ρ2 => exact ih (k + 1) ρ2 S2 hd' hl h
      | brk ρ2 => exact h
      | ret d => exact h
  exact main ds0 0 ρ S rfl (Nat.zero_le _) h0
/-- a while by what stays true, with a bound that falls -/
theorem w_sWhile {b : Rho → M Fl} (J : Nat → Rho → Sto → Prop) {n : Nat} (h0 : J n ρ S)
    (step : ∀ k ρ S, J k ρ S → W (c ρ S) fun q S1 => cnd q (W (b ρ S1) (fT (fun ρ2 S2 => ∃ m, m < k ∧ J m ρ2 S2) U)) (U (.nx ρ) S1)) : W (sWhile c b ρ S) U := by
  induction n using Nat.strongRecOn generalizing ρ S with
  | ind n ih =>
    rw [sWhile_eq]
    refine w_bind (w_imp (step n ρ S h0) fun q S1 h => ?_)
    cases q with
    | false => rw [if_neg (by simp)]; exact h.2 rfl
    | true =>
      rw [if_pos rfl]
      refine w_bind (w_imp (h.1 rfl) fun fl S2 h => ?_)
      cases fl with
      | nx ρ2 => obtain ⟨m, hm, hJ⟩ := h; exact ih m hm hJ
      | cont ρ2 => obtain ⟨m, hm, hJ⟩ := h; exact ih m hm hJ
      | brk ρ2 => exact h
      | ret d => exact h
/-! ### comprehensions -/
theorem w_noX {β : Type} {m : M β} {Q : β → Sto → Prop} (h : W (m S) Q) : W (noX m S) Q := by
  obtain ⟨b, S', e, q⟩ := w_to h
  unfold noX
  rw [e]
  exact q
theorem w_eFin {F : List D → M D} {m : Rho → M (List D)} (h : W (m ρ S) fun ds S1 => W (F ds S1) Q) : W (eFin F m ρ S) Q := w_bind h
theorem w_finL {ds : List D} (h : Q (.lst ds) S) : W (finL ds S) Q := h
theorem w_finC {ds : List D} (h : Q (.ref S.length) (S ++ [.lst ds])) : W (finC ds S) Q := h
theorem w_finD {p : KD} (h : Q (.dic p.1 p.2) S) : W (finD p S) Q := h
theorem w_finDC {p : KD} (h : Q (.ref S.length) (S ++ [.dic false p.1 p.2])) : W (finDC p S) Q := h
theorem w_eComp {I : Rho → M Src} {own : List Nat} (h : W (I ρ S) fun s S1 => s.items.length ≤ 1000000 ∧ W (compL s.ok G c f (wipeR ρ own) s.items S1) T) : W (eComp I own G c f ρ S) T := w_bind (w_imp h fun s S1 ⟨h1, h2⟩ => by rw [if_pos (szL h1)]; exact h2)
/-- a comprehension by what stays true, turn by turn -/
theorem w_compL {ok : Sto → Prop} {ds0 : List D} (J : Nat → List D → Sto → Prop) (h0 : J 0 [] S) (hok : ∀ k acc S, J k acc S → ok S)
    (step : ∀ k d acc S, ds0[k]? = some d → J k acc S → W (G d ρ S) fun ρ1 S1 => W (c ρ1 S1) fun q S2 => cnd q (W (f ρ1 S2) fun y S3 => J (k + 1) (acc ++ [y]) S3) (J (k + 1) acc S2))
    (fin : ∀ acc S, J ds0.length acc S → T acc S) : W (compL ok G c f ρ ds0 S) T := by
  have main : ∀ (ds : List D) (k : Nat) (acc : List D) (S : Sto), ds0.drop k = ds → k ≤ ds0.length → J k acc S → W (compL ok G c f ρ ds S) fun ys S' => T (acc ++ ys) S' := by
    intro ds
    induction ds with
    | nil =>
      intro k acc S hd hk hJ
      unfold compL
      rw [guard_of (hok k acc S hJ)]
      have : k = ds0.length := by
        have := congrArg List.length hd
        rw [List.length_drop, List.length_nil] at this
        omega
      subst this
      show T (acc ++ []) S
      rw [List.append_nil]
      exact fin acc S hJ
    | cons d ds ih =>
      intro k acc S hd hk hJ
      have hk2 : ds0[k]? = some d := by
        have : (ds0.drop k)[0]? = some d := by rw [hd]; rfl
        rw [List.getElem?_drop] at this
        exact this
      have hd' : ds0.drop (k + 1) = ds := by rw [← List.drop_drop, hd]; rfl
      have hl := (List.getElem?_eq_some_iff.mp hk2).1
      unfold compL
      rw [guard_of (hok k acc S hJ)]
      refine w_bind (w_noX (w_imp (step k d acc S hk2 hJ) fun ρ1 S1 h => w_bind (w_noX (w_imp h fun q S2 h => ?_))))
      cases q with
      | true =>
        rw [if_pos rfl]
        refine w_bind (w_noX (w_imp (h.1 rfl) fun y S3 h => w_bind (w_imp (ih (k + 1) (acc ++ [y]) S3 hd' hl h) fun ys S4 h => ?_)))
        rw [List.append_assoc] at h
        exact h
      | false =>
        rw [if_neg (by simp)]
        exact ih (k + 1) acc S2 hd' hl (h.2 rfl)
  have := main ds0 0 [] S rfl (Nat.zero_le _) h0
  simpa using this
/-- one that writes nothing -/
theorem w_comp0 {ok : Sto → Prop} {ds0 : List D} (F : D → D) (p : D → Bool) (hok : ok S)
    (step : ∀ d ∈ ds0, W (G d ρ S) fun ρ1 S1 => W (c ρ1 S1) fun q S2 => q = p d ∧ cnd q (W (f ρ1 S2) fun y S3 => y = F d ∧ S3 = S) (S2 = S))
    (fin : T ((ds0.filter p).map F) S) : W (compL ok G c f ρ ds0 S) T := by
  refine w_compL (fun k acc S' => S' = S ∧ acc = ((ds0.take k).filter p).map F) ⟨rfl, rfl⟩ (fun k acc S' h => by rw [h.1]; exact hok) ?_ ?_
  · rintro k d acc S' hk ⟨rfl, rfl⟩
    refine w_imp (step d (List.mem_of_getElem? hk)) fun ρ1 S1 h => w_imp h fun q S2 ⟨e, h⟩ => ?_
    have ht : ds0.take (k + 1) = ds0.take k ++ [d] := by rw [List.take_succ, hk]; rfl
    subst e
    refine ⟨fun e => w_imp (h.1 e) fun y S3 ⟨e1, e2⟩ => ⟨e2, ?_⟩, fun e => ⟨h.2 e, ?_⟩⟩
    · rw [ht, List.filter_append, List.map_append, e1]
      simp [e]
    · rw [ht, List.filter_append, List.map_append]
      simp [e]
  · rintro acc S' ⟨rfl, rfl⟩
    rw [List.take_length]
    exact fin
/-- one that writes nothing, of all -/
theorem w_comp1 {ok : Sto → Prop} {ds0 : List D} (F : D → D) (hok : ok S)
    (step : ∀ d ∈ ds0, W (G d ρ S) fun ρ1 S1 => W (f ρ1 S1) fun y S3 => y = F d ∧ S3 = S)
    (fin : T (ds0.map F) S) : W (compL ok G bYes f ρ ds0 S) T := by
  refine w_comp0 F (fun _ => true) hok (fun d hd => w_imp (step d hd) fun ρ1 S1 h => w_bYes ⟨rfl, cnd_true h⟩) ?_
  rw [List.filter_eq_self.mpr fun _ _ => rfl]
  exact fin
/-- one of parts that each are so; what stays true of the store -/
theorem w_compP {β : Type} {ok : Sto → Prop} {ds0 : List D} (F : β → D) (Pr : D → β → Prop) (J : Sto → Prop) (hok : ∀ S, J S → ok S) (hJ : J S)
    (step : ∀ d ∈ ds0, ∀ S, J S → W (G d ρ S) fun ρ1 S1 => W (f ρ1 S1) fun y S2 => J S2 ∧ ∃ x, y = F x ∧ Pr d x)
    (fin : ∀ (l : List β) S, J S → l.length = ds0.length → (∀ x ∈ l, ∃ d ∈ ds0, Pr d x) → T (l.map F) S) : W (compL ok G bYes f ρ ds0 S) T := by
  refine w_compL (fun k acc S' => J S' ∧ k ≤ ds0.length ∧ ∃ l : List β, acc = l.map F ∧ l.length = k ∧ ∀ x ∈ l, ∃ d ∈ ds0, Pr d x) ⟨hJ, Nat.zero_le _, [], rfl, rfl, fun x hx => nomatch hx⟩ (fun k acc S h => hok S h.1) ?_ ?_
  · rintro k d acc S' hk ⟨hj, hkl, l, rfl, hl, hm⟩
    refine w_imp (step d (List.mem_of_getElem? hk) S' hj) fun ρ1 S1 h => w_bYes (cnd_true (w_imp h ?_))
    rintro y S2 ⟨hj2, x, rfl, hx⟩
    refine ⟨hj2, (List.getElem?_eq_some_iff.mp hk).1, l ++ [x], by simp, by simp [hl], fun z hz => ?_⟩
    rcases List.mem_append.mp hz with hz | hz
    · exact hm z hz
    · simp at hz; subst hz; exact ⟨d, List.mem_of_getElem? hk, hx⟩
  · rintro acc S' ⟨hj, _, l, rfl, hl, hm⟩
    exact fin l S' hj hl hm
theorem cutL_mem {β : Type} {xs : List β} {lo hi : Option Int} {x : β} (h : x ∈ cutL xs lo hi) : x ∈ xs := List.mem_of_mem_drop (List.mem_of_mem_take h)
theorem cutL_len {β : Type} {xs : List β} {lo hi : Option Int} : (cutL xs lo hi).length ≤ xs.length := by
  unfold cutL
  rw [List.length_take, List.length_drop]
  omega
theorem cutL_map {β δ : Type} {xs : List β} {lo hi : Option Int} {F : β → δ} : cutL (xs.map F) lo hi = (cutL xs lo hi).map F := by
  unfold cutL
  rw [List.length_map, ← List.map_drop, ← List.map_take]
theorem cutL_drop {β : Type} {xs : List β} {n : Nat} : cutL xs (some (n : Int)) none = xs.drop n := by
  unfold cutL HT.sIx
  simp only
  rw [if_neg (by omega)]
  by_cases h : n ≤ xs.length
  · rw [show min ((n : Int).toNat) xs.length = n by omega, List.take_of_length_le (by rw [List.length_drop]; omega)]
  · rw [show min ((n : Int).toNat) xs.length = xs.length by omega, List.drop_of_length_le (Nat.le_refl _), List.drop_of_length_le (by omega), List.take_nil]
theorem cutL_take {β : Type} {xs : List β} {n : Nat} : cutL xs none (some (n : Int)) = xs.take n := by
  unfold cutL HT.sIx
  simp only
  rw [if_neg (by omega), List.drop_zero, Nat.sub_zero]
  by_cases h : n ≤ xs.length
  · rw [show min ((n : Int).toNat) xs.length = n by omega]
  · rw [show min ((n : Int).toNat) xs.length = xs.length by omega, List.take_of_length_le (Nat.le_refl _), List.take_of_length_le (by omega)]
/-- all of some, each of which is so -/
theorem w_allT {ok : Sto → Prop} {ds0 : List D} (J : Sto → Prop) (hok : ∀ S, J S → ok S) (hJ : J S)
    (step : ∀ d ∈ ds0, ∀ S, J S → W (G d ρ S) fun ρ1 S1 => W (f ρ1 S1) fun y S2 => J S2 ∧ y = .bl true)
    (fin : ∀ S, J S → T (List.replicate ds0.length (.bl true)) S) : W (compL ok G bYes f ρ ds0 S) T := by
  refine w_compP (β := Unit) (fun _ => .bl true) (fun _ _ => True) J hok hJ (fun d hd S hS => w_imp (step d hd S hS) fun ρ1 S1 h => w_imp h fun y S2 ⟨h1, h2⟩ => ⟨h1, (), h2, True.intro⟩) fun l S hS hl _ => ?_
  have := fin S hS
  rw [← hl] at this
  have e : l.map (fun _ => D.bl true) = List.replicate l.length (D.bl true) := by
    clear this hl ‹∀ x ∈ l, ∃ d ∈ ds0, True›
    induction l with
    | nil => rfl
    | cons x r ih => rw [List.map_cons, ih]; rfl
  rw [e]
  exact this
theorem w_allR {n : Nat} (h : Q (.bl true) S) : W (bAll [.lst (List.replicate n (.bl true))] S) Q := by
  have : List.replicate n (D.bl true) = (List.replicate n true).map D.bl := by rw [List.map_replicate]
  rw [this]
  refine w_all ?_
  have e : (List.replicate n true).all id = true := by
    rw [List.all_eq_true]
    intro x hx
    have := List.eq_of_mem_replicate hx
    subst this
    rfl
  rw [e]
  exact h
theorem w_eGath {γ β : Type} {I : Rho → M Src} {own : List Nat} {b : Rho → γ → M γ} {acc0 : γ} {F : γ → M β} {V : β → Sto → Prop} (h : W (I ρ S) fun s S1 => s.items.length ≤ 1000000 ∧ W (compG s.ok G c b (wipeR ρ own) s.items acc0 S1) fun a S2 => W (F a S2) V) : W (eGath I own G c b acc0 F ρ S) V :=
  w_bind (w_imp h fun s S1 ⟨h1, h2⟩ => by rw [if_pos (szL h1)]; exact w_bind h2)
theorem w_compG {γ : Type} {ok : Sto → Prop} {ds0 : List D} {b : Rho → γ → M γ} {acc0 : γ} {V : γ → Sto → Prop} (J : Nat → γ → Sto → Prop) (h0 : J 0 acc0 S) (hok : ∀ k acc S, J k acc S → ok S)
    (step : ∀ k d acc S, ds0[k]? = some d → J k acc S → W (G d ρ S) fun ρ1 S1 => W (c ρ1 S1) fun q S2 => cnd q (W (b ρ1 acc S2) (J (k + 1))) (J (k + 1) acc S2))
    (fin : ∀ acc S, J ds0.length acc S → V acc S) : W (compG ok G c b ρ ds0 acc0 S) V := by
  have main : ∀ (ds : List D) (k : Nat) (acc : γ) (S : Sto), ds0.drop k = ds → k ≤ ds0.length → J k acc S → W (compG ok G c b ρ ds acc S) V := by
    intro ds
    induction ds with
    | nil =>
      intro k acc S hd hk hJ
      unfold compG
      rw [guard_of (hok k acc S hJ)]
      have : k = ds0.length := by
        have := congrArg List.length hd
        rw [List.length_drop, List.length_nil] at this
        omega
      subst this
      exact fin acc S hJ
    | cons d ds ih =>
      intro k acc S hd hk hJ
      have hk2 : ds0[k]? = some d := by
        have : (ds0.drop k)[0]? = some d := by rw [hd]; rfl
        rw [List.getElem?_drop] at this
        exact this
      have hd' : ds0.drop (k + 1) = ds := by rw [← List.drop_drop, hd]; rfl
      have hl := (List.getElem?_eq_some_iff.mp hk2).1
      unfold compG
      rw [guard_of (hok k acc S hJ)]
      refine w_bind (w_noX (w_imp (step k d acc S hk2 hJ) fun ρ1 S1 h => w_bind (w_noX (w_imp h fun q S2 h => ?_))))
      cases q with
      | true =>
        rw [if_pos rfl]
        exact w_bind (w_noX (w_imp (h.1 rfl) fun y S3 h => ih (k + 1) y S3 hd' hl h))
      | false =>
        rw [if_neg (by simp)]
        exact ih (k + 1) acc S2 hd' hl (h.2 rfl)
  exact main ds0 0 acc0 S rfl (Nat.zero_le _) h0
theorem w_bDic {fk fv : Rho → M D} {p : KD} {V : KD → Sto → Prop} (h : W (fk ρ S) fun k S1 => W (fv ρ S1) fun v S2 => isKey 8 k = true ∧ p.1.length < 1000000 ∧ V (dPut p.1 p.2 k v) S2) : W (bDic fk fv ρ p S) V :=
  w_bind (w_imp h fun k S1 h => w_bind (w_imp h fun v S2 ⟨h1, h2, h3⟩ => by rw [if_pos ⟨h1, Nat.lt_of_lt_of_le h2 (szL (Nat.le_refl _))⟩]; exact h3))
theorem w_bLst {e : Rho → M D} {acc : List D} {V : List D → Sto → Prop} (h : W (e ρ S) fun y S1 => acc.length < 1000000 ∧ V (acc ++ [y]) S1) : W (bLst e ρ acc S) V :=
  w_bind (w_imp h fun y S1 ⟨h1, h2⟩ => by rw [if_pos (Nat.lt_of_lt_of_le h1 (szL (Nat.le_refl _)))]; exact h2)
theorem w_bIn {I : Rho → M Src} {vs : List Nat} {acc : List D} {V : List D → Sto → Prop} (h : W (I ρ S) fun s S1 => W (compG s.ok G c (bLst f) (wipeR ρ vs) s.items acc S1) V) : W (bIn I vs G c f ρ acc S) V := w_bind h
end
def augQ (i : Nat) (z : D) (ρ : Rho) (U : Fl → Sto → Prop) (S : Sto) : Prop := U (.nx (ρ.set i (some z))) S
def compQ (own : List Nat) (G : D → Rho → M Rho) (c : Rho → M Bool) (f : Rho → M D) (ρ : Rho) (T : List D → Sto → Prop) (s : Src) (S : Sto) : Prop := s.items.length ≤ 1000000 ∧ W (compL s.ok G c f (wipeR ρ own) s.items S) T
theorem w_eCompQ {ρ : Rho} {S : Sto} {G : D → Rho → M Rho} {c : Rho → M Bool} {f : Rho → M D} {T : List D → Sto → Prop} {I : Rho → M Src} {own : List Nat} (h : W (I ρ S) (compQ own G c f ρ T)) : W (eComp I own G c f ρ S) T := w_eComp (w_imp h fun _ _ h => h)
def gathQ {γ β : Type} (own : List Nat) (G : D → Rho → M Rho) (c : Rho → M Bool) (b : Rho → γ → M γ) (acc0 : γ) (F : γ → M β) (ρ : Rho) (V : β → Sto → Prop) (s : Src) (S : Sto) : Prop := s.items.length ≤ 1000000 ∧ W (compG s.ok G c b (wipeR ρ own) s.items acc0 S) fun a S2 => W (F a S2) V
theorem w_eGathQ {γ β : Type} {ρ : Rho} {S : Sto} {G : D → Rho → M Rho} {c : Rho → M Bool} {I : Rho → M Src} {own : List Nat} {b : Rho → γ → M γ} {acc0 : γ} {F : γ → M β} {V : β → Sto → Prop} (h : W (I ρ S) (gathQ own G c b acc0 F ρ V)) : W (eGath I own G c b acc0 F ρ S) V := w_eGath (w_imp h fun _ _ h => h)
def inQ (vs : List Nat) (G : D → Rho → M Rho) (c : Rho → M Bool) (f : Rho → M D) (ρ : Rho) (ds : List D) (T : List D → Sto → Prop) (s : Src) (S : Sto) : Prop := W (compG s.ok G c (bLst f) (wipeR ρ vs) s.items ds S) T
theorem w_bInQ {ρ : Rho} {S : Sto} {G : D → Rho → M Rho} {c : Rho → M Bool} {f : Rho → M D} {T : List D → Sto → Prop} {I : Rho → M Src} {vs : List Nat} {ds : List D} (h : W (I ρ S) (inQ vs G c f ρ ds T)) : W (bIn I vs G c f ρ ds S) T := w_bIn (w_imp h fun _ _ h => h)
def forQ (G : D → Rho → M Rho) (b : Rho → M Fl) (ρ : Rho) (U : Fl → Sto → Prop) (s : Src) (S : Sto) : Prop := W (forL s.ok G b s.items ρ S) U
theorem w_forQ {G : D → Rho → M Rho} {b : Rho → M Fl} {ρ : Rho} {U : Fl → Sto → Prop} {ds : List D} {ok : Sto → Prop} {S : Sto} (h : W (forL ok G b ds ρ S) U) : forQ G b ρ U ⟨ds, ok⟩ S := h
/-! ### the rules, found by what is to be run -/
/-- P is enough for G -/
class Ru (G : Prop) (P : outParam Prop) : Prop where
  use : P → G
class GetAt (ρ : Rho) (i : Nat) (d : outParam D) : Prop where
  at_ : ρ[i]? = some (some d)
class SetAt (ρ : Rho) (i : Nat) (v : Option D) (ρ' : outParam Rho) : Prop where
  eq : ρ.set i v = ρ'
class WipeAt (ρ : Rho) (vs : List Nat) (ρ' : outParam Rho) : Prop where
  eq : wipeR ρ vs = ρ'
class EnvOf (ds : List D) (m : Nat) (ρ : outParam Rho) : Prop where
  eq : ds.map some ++ List.replicate m none = ρ
/-- the walk stops here -/
structure Stop (P : Prop) : Prop where val : P
/-- a side, and what goes on -/
def side (a b : Prop) : Prop := a ∧ b
theorem side_i {a b : Prop} (x : a) (y : b) : side a b := ⟨x, y⟩
section
variable {x : Option D} {r r' ρ ρ1 ρ' : Rho} {i m : Nat} {d : D} {ds : List D} {v : Option D} {vs : List Nat}
instance : GetAt (some d :: r) 0 d := ⟨rfl⟩
instance [h : GetAt r i d] : GetAt (x :: r) (i + 1) d := ⟨h.at_⟩
instance : SetAt (x :: r) 0 v (v :: r) := ⟨rfl⟩
instance [h : SetAt r i v r'] : SetAt (x :: r) (i + 1) v (x :: r') := ⟨by rw [List.set_cons_succ, h.eq]⟩
instance : WipeAt ρ [] ρ := ⟨rfl⟩
instance {j : Nat} [h : WipeAt ρ vs ρ1] [g : SetAt ρ1 j none ρ'] : WipeAt ρ (j :: vs) ρ' := ⟨by rw [wipeR, h.eq, g.eq]⟩
class AtL (ds : List D) (x : Int) (d : outParam D) : Prop where
  at_ : atI ds x = some d
section
variable {a b c d : D} {l : List D}
instance : AtL (a :: l) 0 a := ⟨by simp⟩
instance : AtL (a :: b :: l) 1 b := ⟨by simp⟩
instance : AtL (a :: b :: c :: l) 2 c := ⟨by simp⟩
instance : AtL (a :: b :: c :: d :: l) 3 d := ⟨atI_nat _ 3⟩
end
instance : EnvOf [] 0 [] := ⟨rfl⟩
instance [h : EnvOf [] m r] : EnvOf [] (m + 1) (none :: r) := ⟨by have := h.eq; simp only [List.map_nil, List.nil_append] at this ⊢; rw [List.replicate_succ, this]⟩
instance [h : EnvOf ds m r] : EnvOf (d :: ds) m (some d :: r) := ⟨by rw [List.map_cons, List.cons_append, h.eq]⟩
end
section
variable {ρ ρ' ρ2 ρ3 : Rho} {S S' : Sto} {d e r : D} {ds : List D} {f g f1 f2 : Rho → M D} {a : Rho → M (List D)} {c c1 c2 : Rho → M Bool} {op : D → D → M D} {i j l n m : Nat} {Q : D → Sto → Prop} {R : Bool → Sto → Prop} {T : List D → Sto → Prop} {G : D → Rho → M Rho} {Gs : List D → Rho → M Rho}
variable {k : Rho → Sto → Prop} {U : Fl → Sto → Prop} {u v : Rho → M Fl} {P : Rho → Sto → Prop} {x y : Int} {s t : Str} {p q : Bool} {Z : Src → Sto → Prop} {A B : Prop} {O : Option Int → Sto → Prop}
instance ru1  [h : GetAt ρ i d] : Ru (W (eVar i ρ S) Q) (Q d S) := ⟨w_eVar h.at_⟩
instance ru2   : Ru (W (eC d ρ S) Q) (Q d S) := ⟨w_eC⟩
instance ru3   : Ru (W (eOp op f g ρ S) Q) (W (f ρ S) fun x S1 => W (g ρ S1) fun y S2 => W (op x y S2) Q) := ⟨w_eOp⟩
instance ru4 {o : D → M D}  : Ru (W (eUn o f ρ S) Q) (W (f ρ S) fun x S1 => W (o x S1) Q) := ⟨w_eUn⟩
instance ru5   : Ru (W (eIf c f1 f2 ρ S) Q) (W (c ρ S) fun q S1 => cnd q (W (f1 ρ S1) Q) (W (f2 ρ S1) Q)) := ⟨w_eIf⟩
instance ru6   : Ru (W (bAnd c1 c2 ρ S) R) (W (c1 ρ S) fun q S1 => cnd q (W (c2 ρ S1) R) (R false S1)) := ⟨w_bAnd⟩
instance ru7   : Ru (W (bOr c1 c2 ρ S) R) (W (c1 ρ S) fun q S1 => cnd q (R true S1) (W (c2 ρ S1) R)) := ⟨w_bOr⟩
instance ru8   : Ru (W (bNot c ρ S) R) (W (c ρ S) fun q S1 => R (!q) S1) := ⟨w_bNot⟩
instance ru9   : Ru (W (isBl (.bl p) S) R) (R p S) := ⟨w_isBl⟩
instance ru10   : Ru (W (bVal f ρ S) R) (W (f ρ S) fun x S1 => W (isBl x S1) R) := ⟨w_bVal⟩
instance ru11   : Ru (W (eAnd f g ρ S) Q) (W (f ρ S) fun x S1 => W (isBl x S1) fun q S2 => cnd q (W (g ρ S2) Q) (Q (.bl false) S2)) := ⟨w_eAnd⟩
instance ru12   : Ru (W (eOr f g ρ S) Q) (W (f ρ S) fun x S1 => W (isBl x S1) fun q S2 => cnd q (Q (.bl true) S2) (W (g ρ S2) Q)) := ⟨w_eOr⟩
instance ru13   : Ru (W (eOrT f g ρ S) Q) (W (f ρ S) fun x S1 => W (opTru x S1) fun q S2 => cnd q (Q x S2) (W (g ρ S2) Q)) := ⟨w_eOrT⟩
instance ru14   : Ru (W (eNot f ρ S) Q) (W (f ρ S) fun x S1 => W (isBl x S1) fun q S2 => Q (.bl (!q)) S2) := ⟨w_eNot⟩
instance ru15   : Ru (W (aNil ρ S) T) (T [] S) := ⟨w_aNil⟩
instance ru16   : Ru (W (aCons f a ρ S) T) (W (f ρ S) fun x S1 => W (a ρ S1) fun xs S2 => T (x :: xs) S2) := ⟨w_aCons⟩
instance ru17   : Ru (W (eTup a ρ S) Q) (W (a ρ S) fun xs S1 => Q (.tup xs) S1) := ⟨w_eTup⟩
instance ru18   : Ru (W (eLst a ρ S) Q) (W (a ρ S) fun xs S1 => Q (.lst xs) S1) := ⟨w_eLst⟩
instance ru19   : Ru (W (eCel a ρ S) Q) (W (a ρ S) fun xs S1 => Q (.ref S1.length) (S1 ++ [.lst xs])) := ⟨w_eCel⟩
instance ru20   : Ru (W (eDcV ρ S) Q) (Q (.dic [] []) S) := ⟨w_eDcV⟩
instance ru21   : Ru (W (eDcC ρ S) Q) (Q (.ref S.length) (S ++ [.dic false [] []])) := ⟨w_eDcC⟩
instance ru22   : Ru (W (oNone ρ S) O) (O none S) := ⟨w_oNone⟩
instance ru23   : Ru (W (oInt (.int x) S) O) (O (some x) S) := ⟨w_oInt⟩
instance ru24   : Ru (W (oSome f ρ S) O) (W (f ρ S) fun x S1 => W (oInt x S1) O) := ⟨w_oSome⟩
instance ru25 {lo hi : Rho → M (Option Int)}  : Ru (W (eSl f lo hi ρ S) Q) (W (f ρ S) fun x S1 => W (lo ρ S1) fun l S2 => W (hi ρ S2) fun u S3 => W (opSl x l u S3) Q) := ⟨w_eSl⟩
instance ru26 {F : List D → M D}  : Ru (W (eCall F a ρ S) Q) (W (a ρ S) fun ds S1 => W (F ds S1) Q) := ⟨w_eCall⟩
instance ru27 {ts : List String}  : Ru (W (eIsi ts f ρ S) Q) (W (f ρ S) fun d S1 => tyQ ts d Q S1) := ⟨w_eIsi⟩
instance ru28 {ok : Sto → D → Bool} {mt : D → List D → M D}  : Ru (W (eMth ok mt f a ρ S) Q) (W (f ρ S) fun o S1 => side (ok S1 o = true) (W (a ρ S1) fun ds S2 => W (mt o ds S2) Q)) := ⟨fun h => w_eMth h⟩
instance ru29 {c0 f0 : Str}  : Ru (W (eFld c0 f0 f ρ S) Q) (W (f ρ S) fun o S1 => W (opFld c0 f0 o S1) Q) := ⟨w_eFld⟩
instance ru30 {c0 f0 : Str} {F : List D → M D}  : Ru (W (eMeth c0 f0 F f a ρ S) Q) (W (f ρ S) fun o S1 => metQ c0 f0 o S1 (W (a ρ S1) fun ds S2 => W (F (o :: ds) S2) Q)) := ⟨w_eMeth⟩
instance ru31 {c0 : Str} {F : List D → M D}  : Ru (W (eMake c0 F a ρ S) Q) (W (a ρ S) fun ds S1 => W (F (.ref S1.length :: ds) (S1 ++ [.ins c0 []])) fun v S2 => v = .non ∧ Q (.ref S1.length) S2) := ⟨w_eMake⟩
instance ru32   : Ru (W (bYes ρ S) R) (R true S) := ⟨w_bYes⟩
instance ru33   : Ru (W (opAdd (.int x) (.int y) S) Q) (Q (.int (x + y)) S) := ⟨w_add_i⟩
instance ru34 {a1 a2 : List D}  : Ru (W (opAdd (.tup a1) (.tup a2) S) Q) (side (a1.length + a2.length ≤ 1000000) (Q (.tup (a1 ++ a2)) S)) := ⟨fun h => w_add_t h.1 h.2⟩
instance ru35 {a1 a2 : List D}  : Ru (W (opAdd (.lst a1) (.lst a2) S) Q) (side (a1.length + a2.length ≤ 1000000) (Q (.lst (a1 ++ a2)) S)) := ⟨fun h => w_add_l h.1 h.2⟩
instance ru36   : Ru (W (opSub (.int x) (.int y) S) Q) (Q (.int (x - y)) S) := ⟨w_sub_i⟩
instance ru37   : Ru (W (opMul (.int x) (.int y) S) Q) (side (mulOk x y = true) (Q (.int (x * y)) S)) := ⟨fun h => w_mul_i h.1 h.2⟩
instance ru38   : Ru (W (opDiv (.int x) (.int y) S) Q) (side (0 < y ∧ y < 2 ^ 64) (Q (.int (x / y)) S)) := ⟨fun h => w_div_i h.1.1 h.1.2 h.2⟩
instance ru39   : Ru (W (opMod (.int x) (.int y) S) Q) (side (0 < y) (Q (.int (x % y)) S)) := ⟨fun h => w_mod_i h.1 h.2⟩
instance ru40   : Ru (W (opNeg (.int x) S) Q) (Q (.int (-x)) S) := ⟨w_neg_i⟩
instance ru41   : Ru (W (opLt (.int x) (.int y) S) Q) (Q (.bl (decide (x < y))) S) := ⟨w_lt_i⟩
instance ru42   : Ru (W (opLe (.int x) (.int y) S) Q) (Q (.bl (decide (x ≤ y))) S) := ⟨w_le_i⟩
instance ru43   : Ru (W (opGt (.int x) (.int y) S) Q) (Q (.bl (decide (y < x))) S) := ⟨w_gt_i⟩
instance ru44   : Ru (W (opGe (.int x) (.int y) S) Q) (Q (.bl (decide (y ≤ x))) S) := ⟨w_ge_i⟩
instance ru45   : Ru (W (opEq (.int x) (.int y) S) Q) (Q (.bl (decide (x = y))) S) := ⟨w_eq_i⟩
instance ru46   : Ru (W (opEq (.str s) (.str t) S) Q) (Q (.bl (decide (s = t))) S) := ⟨w_eq_s⟩
instance ru47   : Ru (W (opEq (.bl p) (.bl q) S) Q) (Q (.bl (decide (p = q))) S) := ⟨w_eq_b⟩
instance ru48   : Ru (W (opEq .non .non S) Q) (Q (.bl true) S) := ⟨w_eq_nn⟩
instance ru49   : Ru (W (opEq .non (.str s) S) Q) (Q (.bl false) S) := ⟨w_eq_ns⟩
instance ru50   : Ru (W (opEq (.str s) .non S) Q) (Q (.bl false) S) := ⟨w_eq_sn⟩
instance ru51   : Ru (W (opEq (.int x) (.str s) S) Q) (Q (.bl false) S) := ⟨w_eq_is⟩
instance ru52   : Ru (W (opEq (.str s) (.int x) S) Q) (Q (.bl false) S) := ⟨w_eq_si⟩
instance ru53   : Ru (W (opEq .non (.int x) S) Q) (Q (.bl false) S) := ⟨w_eq_ni⟩
instance ru54   : Ru (W (opEq (.int x) .non S) Q) (Q (.bl false) S) := ⟨w_eq_in⟩
instance ru55   : Ru (W (opNe (.int x) (.int y) S) Q) (Q (.bl (!decide (x = y))) S) := ⟨w_ne_i⟩
instance ru56   : Ru (W (opNe (.str s) (.str t) S) Q) (Q (.bl (!decide (s = t))) S) := ⟨w_ne_s⟩
instance ru57   : Ru (W (opNe (.bl p) (.bl q) S) Q) (Q (.bl (!decide (p = q))) S) := ⟨w_ne_b⟩
instance ru58   : Ru (W (opIs d .non S) Q) (Q (.bl (isNon d)) S) := ⟨w_is_n⟩
instance ru59   : Ru (W (opIsNot d .non S) Q) (Q (.bl (!isNon d)) S) := ⟨w_isNot_n⟩
instance ru60 {lo hi : Option Int}  : Ru (W (opSl (.tup ds) lo hi S) Q) (Q (.tup (cutL ds lo hi)) S) := ⟨w_sl_t⟩
instance ru61 {lo hi : Option Int}  : Ru (W (opSl (.lst ds) lo hi S) Q) (Q (.lst (cutL ds lo hi)) S) := ⟨w_sl_l⟩
instance ru62 {lo hi : Option Int}  : Ru (W (opSl (.wl ds) lo hi S) Q) (Q (.lst (cutL ds lo hi)) S) := ⟨w_sl_w⟩
instance ru63   : Ru (W (bTuple [.lst ds] S) Q) (Q (.tup ds) S) := ⟨w_tuple_l⟩
instance ru64   : Ru (W (bTuple [.tup ds] S) Q) (Q (.tup ds) S) := ⟨w_tuple_t⟩
instance ru65   : Ru (W (bInt [.bl p] S) Q) (Q (.int (if p = true then 1 else 0)) S) := ⟨w_int_b⟩
instance ru66   : Ru (W (bInt [.int x] S) Q) (Q (.int x) S) := ⟨w_int_i⟩
instance ru67   : Ru (W (bAbs [.int x] S) Q) (Q (.int (if x < 0 then -x else x)) S) := ⟨w_abs_i⟩
instance ru68 {vs : List D}  : Ru (W (bLen [.dic ds vs] S) Q) (Q (.int (ds.length : Nat)) S) := ⟨w_len_d⟩
instance ru69   : Ru (W (sSeq u v ρ S) U) (W (u ρ S) (fK (fun ρ1 S1 => W (v ρ1 S1) U) U)) := ⟨w_sSeq⟩
instance ru70   : Ru (W (sSkip ρ S) U) (U (.nx ρ) S) := ⟨w_sSkip⟩
instance ru71   : Ru (W (sBrk ρ S) U) (U (.brk ρ) S) := ⟨w_sBrk⟩
instance ru72   : Ru (W (sCont ρ S) U) (U (.cont ρ) S) := ⟨w_sCont⟩
instance ru73   : Ru (W (sRet f ρ S) U) (W (f ρ S) fun d S1 => U (.ret d) S1) := ⟨w_sRet⟩
instance ru74   : Ru (W (sRetN ρ S) U) (U (.ret .non) S) := ⟨w_sRetN⟩
instance ru75   : Ru (W (sDrop f ρ S) U) (W (f ρ S) fun d S1 => U (.nx ρ) S1) := ⟨w_sDrop⟩
instance ru76   : Ru (W (sAsg f G ρ S) U) (W (f ρ S) fun d S1 => W (G d ρ S1) fun ρ1 S2 => U (.nx ρ1) S2) := ⟨w_sAsg⟩
instance ru77   : Ru (W (sIf c u v ρ S) U) (W (c ρ S) fun q S1 => cnd q (W (u ρ S1) U) (W (v ρ S1) U)) := ⟨w_sIf⟩
instance ru78   : Ru (W (sPar2 i j a ρ S) U) (W (a ρ S) (par2 i j ρ fun ρ1 S1 => U (.nx ρ1) S1)) := ⟨w_sPar2⟩
instance ru79   : Ru (W (sPar3 i j l a ρ S) U) (W (a ρ S) (par3 i j l ρ fun ρ1 S1 => U (.nx ρ1) S1)) := ⟨w_sPar3⟩
instance ru80  [h1 : SetAt ρ i (some d) ρ2] [h2 : SetAt ρ2 j (some e) ρ3] : Ru (par2 i j ρ P [d, e] S) (P ρ3 S) := ⟨fun h => w_par2 (by rw [h1.eq, h2.eq]; exact h)⟩
instance ru81  [h1 : SetAt ρ i (some d) ρ'] [h2 : SetAt ρ' j (some e) ρ2] [h3 : SetAt ρ2 l (some r) ρ3] : Ru (par3 i j l ρ P [d, e, r] S) (P ρ3 S) := ⟨fun h => w_par3 (by rw [h1.eq, h2.eq, h3.eq]; exact h)⟩
instance ru82  [h1 : GetAt ρ i d] : Ru (W (sAug i op f ρ S) U) (W (f ρ S) fun y S1 => W (op d y S1) fun z S2 => augQ i z ρ U S2) := ⟨fun h => w_sAug h1.at_ h⟩
instance ru83  [h1 : SetAt ρ i (some d) ρ'] : Ru (augQ i d ρ U S) (U (.nx ρ') S) := ⟨fun h => by unfold augQ; rw [h1.eq]; exact h⟩
instance ru84 {c0 f0 : Str}  : Ru (W (sFldZ c0 f0 f g ρ S) U) (W (g ρ S) fun d S1 => W (f ρ S1) fun o S2 => W (opFldSet c0 f0 o d S2) fun _ S3 => U (.nx ρ) S3) := ⟨w_sFldZ⟩
instance ru85  [h1 : SetAt ρ i (some d) ρ'] : Ru (W (tName i d ρ S) P) (P ρ' S) := ⟨fun h => w_tName (by rw [h1.eq]; exact h)⟩
instance ru86   : Ru (W (tsNil [] ρ S) P) (P ρ S) := ⟨w_tsNil⟩
instance ru87   : Ru (W (tsCons G Gs (d :: ds) ρ S) P) (W (G d ρ S) fun ρ1 S1 => W (Gs ds ρ1 S1) P) := ⟨w_tsCons⟩
instance ru88   : Ru (W (tTupZ n Gs (.tup ds) ρ S) P) (side (ds.length = n) (W (Gs ds ρ S) P)) := ⟨fun h => w_tTupZ h.1 h.2⟩
instance ru89   : Ru (W (tTupZ n Gs (.lst ds) ρ S) P) (side (ds.length = n) (W (Gs ds ρ S) P)) := ⟨fun h => w_tTupZl h.1 h.2⟩
instance ru90   : Ru (W (tSub f g d ρ S) P) (W (f ρ S) fun o S1 => W (g ρ S1) fun i S2 => W (opSet o i d S2) fun _ S3 => P ρ S3) := ⟨w_tSub⟩
instance ru91  [h1 : EnvOf ds m ρ] : Ru (W (fn0 m u ds S) Q) (W (u ρ S) (fR Q)) := ⟨fun h => w_fn0 (by rw [h1.eq]; exact h)⟩
instance ru92   : Ru (W (iVal f ρ S) Z) (W (f ρ S) fun d S1 => W (srcOf d S1) Z) := ⟨w_iVal⟩
instance ru93   : Ru (W (iRng1 a ρ S) Z) (W (a ρ S) fun d S1 => W (srcRng1 d S1) Z) := ⟨w_iRng1⟩
instance ru94   : Ru (W (iRng2 a ρ S) Z) (W (a ρ S) fun d S1 => W (srcRng2 d S1) Z) := ⟨w_iRng2⟩
instance ru95   : Ru (W (iEnum a ρ S) Z) (W (a ρ S) fun d S1 => W (srcEnum d S1) Z) := ⟨w_iEnum⟩
instance ru96   : Ru (W (iZip a ρ S) Z) (W (a ρ S) fun d S1 => W (srcZip d S1) Z) := ⟨w_iZip⟩
instance ru97   : Ru (W (iZipS a ρ S) Z) (W (a ρ S) fun d S1 => W (srcZipS d S1) Z) := ⟨w_iZipS⟩
instance ru98   : Ru (W (srcOf (.tup ds) S) Z) (Z ⟨ds, fun _ => True⟩ S) := ⟨w_src_t⟩
instance ru99   : Ru (W (srcOf (.lst ds) S) Z) (Z ⟨ds, fun _ => True⟩ S) := ⟨w_src_l⟩
instance ru100   : Ru (W (srcOf (.wl ds) S) Z) (Z ⟨ds, fun _ => True⟩ S) := ⟨w_src_w⟩
instance ru101   : Ru (W (srcOf (.str s) S) Z) (Z ⟨signs s, fun _ => True⟩ S) := ⟨w_src_s⟩
instance ru102   : Ru (W (srcRng1 [.int x] S) Z) (side (0 ≤ x ∧ x ≤ 1000000) (Z ⟨rangeD x.toNat, fun _ => True⟩ S)) := ⟨fun h => w_rng1 h.1.1 h.1.2 h.2⟩
instance ru103   : Ru (W (srcEnum [.lst ds] S) Z) (Z ⟨enums ds, fun _ => True⟩ S) := ⟨w_enum_l⟩
instance ru104   : Ru (W (srcEnum [.wl ds] S) Z) (Z ⟨enums ds, fun _ => True⟩ S) := ⟨w_enum_w⟩
instance ru105 {a1 a2 : List D}  : Ru (W (srcZip [.lst a1, .lst a2] S) Z) (Z ⟨zips a1 a2, fun _ => True ∧ True⟩ S) := ⟨w_zip_l⟩
instance ru106 {a1 a2 : List D}  : Ru (W (srcZip [.tup a1, .tup a2] S) Z) (Z ⟨zips a1 a2, fun _ => True⟩ S) := ⟨w_zip_t⟩
instance ru107 {a1 a2 : List D}  : Ru (W (srcZipS [.lst a1, .lst a2] S) Z) (side (a1.length = a2.length) (Z ⟨zips a1 a2, fun _ => True ∧ True⟩ S)) := ⟨fun h => w_zipS_l h.1 h.2⟩
instance ru108 {fn : List D → M D} {mm : Rho → M (List D)}  : Ru (W (eFin fn mm ρ S) Q) (W (mm ρ S) fun ds S1 => W (fn ds S1) Q) := ⟨w_eFin⟩
instance ru109   : Ru (W (finL ds S) Q) (Q (.lst ds) S) := ⟨w_finL⟩
instance ru110   : Ru (W (finC ds S) Q) (Q (.ref S.length) (S ++ [.lst ds])) := ⟨w_finC⟩
instance ru111 {kd : KD}  : Ru (W (finD kd S) Q) (Q (.dic kd.1 kd.2) S) := ⟨w_finD⟩
instance ru112 {kd : KD}  : Ru (W (finDC kd S) Q) (Q (.ref S.length) (S ++ [.dic false kd.1 kd.2])) := ⟨w_finDC⟩
instance ru113 {I : Rho → M Src} {own : List Nat}  : Ru (W (eComp I own G c f ρ S) T) (W (I ρ S) (compQ own G c f ρ T)) := ⟨w_eCompQ⟩
instance ru114 {own : List Nat} {ok : Sto → Prop} [h : WipeAt ρ own ρ'] : Ru (compQ own G c f ρ T ⟨ds, ok⟩ S) (side (ds.length ≤ 1000000) (Stop (W (compL ok G c f ρ' ds S) T))) := ⟨fun q => ⟨q.1, by rw [h.eq]; exact q.2.val⟩⟩
instance ru115 {γ β : Type} {I : Rho → M Src} {own : List Nat} {b : Rho → γ → M γ} {acc0 : γ} {F : γ → M β} {V : β → Sto → Prop}  : Ru (W (eGath I own G c b acc0 F ρ S) V) (W (I ρ S) (gathQ own G c b acc0 F ρ V)) := ⟨w_eGathQ⟩
instance ru116 {γ β : Type} {own : List Nat} {b : Rho → γ → M γ} {acc0 : γ} {F : γ → M β} {V : β → Sto → Prop} {ok : Sto → Prop} [h : WipeAt ρ own ρ'] : Ru (gathQ own G c b acc0 F ρ V ⟨ds, ok⟩ S) (side (ds.length ≤ 1000000) (W (compG ok G c b ρ' ds acc0 S) fun a S2 => W (F a S2) V)) := ⟨fun q => ⟨q.1, by rw [h.eq]; exact q.2⟩⟩
instance ru117 {fk fv : Rho → M D} {kd : KD} {V : KD → Sto → Prop}  : Ru (W (bDic fk fv ρ kd S) V) (W (fk ρ S) fun k S1 => W (fv ρ S1) fun v S2 => side (isKey 8 k = true ∧ kd.1.length < 1000000) (V (dPut kd.1 kd.2 k v) S2)) := ⟨fun h => w_bDic (w_imp h fun _ _ h => w_imp h fun _ _ h => ⟨h.1.1, h.1.2, h.2⟩)⟩
instance ru118   : Ru (W (bLst f ρ ds S) T) (W (f ρ S) fun y S1 => side (ds.length < 1000000) (T (ds ++ [y]) S1)) := ⟨fun h => w_bLst (w_imp h fun _ _ h => ⟨h.1, h.2⟩)⟩
instance ru119 {I : Rho → M Src} {vs : List Nat}  : Ru (W (bIn I vs G c f ρ ds S) T) (W (I ρ S) (inQ vs G c f ρ ds T)) := ⟨w_bInQ⟩
instance ru120 {vs : List Nat} {es : List D} {ok : Sto → Prop} [h : WipeAt ρ vs ρ'] : Ru (inQ vs G c f ρ ds T ⟨es, ok⟩ S) (W (compG ok G c (bLst f) ρ' es ds S) T) := ⟨fun q => by unfold inQ; rw [h.eq]; exact q⟩
instance ru121   : Ru (fK k U (.nx ρ) S) (k ρ S) := ⟨id⟩
instance ru122   : Ru (fK k U (.ret d) S) (U (.ret d) S) := ⟨id⟩
instance ru123   : Ru (fK k U (.brk ρ) S) (U (.brk ρ) S) := ⟨id⟩
instance ru124   : Ru (fK k U (.cont ρ) S) (U (.cont ρ) S) := ⟨id⟩
instance ru125   : Ru (fR Q (.ret d) S) (Q d S) := ⟨id⟩
instance ru126   : Ru (fR Q (.nx ρ) S) (Q .non S) := ⟨id⟩
instance ru127   : Ru (fT k U (.nx ρ) S) (k ρ S) := ⟨id⟩
instance ru128   : Ru (fT k U (.cont ρ) S) (k ρ S) := ⟨id⟩
instance ru129   : Ru (fT k U (.brk ρ) S) (U (.nx ρ) S) := ⟨id⟩
instance ru130   : Ru (fT k U (.ret d) S) (U (.ret d) S) := ⟨id⟩
instance ru131   : Ru (cnd true A B) (A) := ⟨cnd_true⟩
instance ru132   : Ru (cnd false A B) (B) := ⟨cnd_false⟩
instance ru133   : Ru (cnd (!p) A B) (cnd p B A) := ⟨cnd_not⟩
instance ru134   : Ru (W (.val d S) Q) (Q d S) := ⟨w_val⟩
end
section
variable {Q : D → Sto → Prop} {S : Sto} {d : D} {ds : List D} {x : Int} {β : Type} {l : List β} {F : β → D}
instance [h : AtL ds x d] : Ru (W (opIx (.tup ds) (.int x) S) Q) (Q d S) := ⟨w_ix_t h.at_⟩
instance [h : AtL ds x d] : Ru (W (opIx (.lst ds) (.int x) S) Q) (Q d S) := ⟨w_ix_l h.at_⟩
instance (priority := low) : Ru (W (bLen [.tup ds] S) Q) (Q (.int (ds.length : Nat)) S) := ⟨w_len_t⟩
instance (priority := low) : Ru (W (bLen [.lst ds] S) Q) (Q (.int (ds.length : Nat)) S) := ⟨w_len_l⟩
instance (priority := low) : Ru (W (bLen [.wl ds] S) Q) (Q (.int (ds.length : Nat)) S) := ⟨w_len_w⟩
instance : Ru (W (bLen [.tup (l.map F)] S) Q) (Q (.int (l.length : Nat)) S) := ⟨w_len_tm⟩
instance : Ru (W (bLen [.lst (l.map F)] S) Q) (Q (.int (l.length : Nat)) S) := ⟨w_len_lm⟩
end
/-- the for, apart from the rest -/
theorem w_sForQ {ρ : Rho} {S : Sto} {G : D → Rho → M Rho} {b : Rho → M Fl} {I : Rho → M Src} {U : Fl → Sto → Prop} (h : W (I ρ S) (forQ G b ρ U)) : W (sFor I G b ρ S) U := w_sFor (w_imp h fun _ _ h => h)
section
variable {ρ : Rho} {S : Sto} {G : D → Rho → M Rho} {b : Rho → M Fl} {I : Rho → M Src} {U : Fl → Sto → Prop} {ds : List D} {ok : Sto → Prop}
theorem stop_for (h : W (I ρ S) (forQ G b ρ U)) : Stop (W (sFor I G b ρ S) U) := ⟨w_sForQ h⟩
instance : Ru (W (sFor I G b ρ S) U) (Stop (W (sFor I G b ρ S) U)) := ⟨fun h => h.val⟩
instance : Ru (forQ G b ρ U ⟨ds, ok⟩ S) (Stop (W (forL ok G b ds ρ S) U)) := ⟨fun h => w_forQ h.val⟩
instance {c : Rho → M Bool} : Ru (W (sWhile c b ρ S) U) (Stop (W (sWhile c b ρ S) U)) := ⟨fun h => h.val⟩
end
end Z
/-! the defs as plain functions: printed by a program -/
namespace Pg
open Z
def c_SHOWN : D := (.tup [(.tup [(.int 0), (.int 1), (.int 2), (.int 3)]), (.tup [(.int 2), (.int 0), (.int 3), (.int 1)]), (.tup [(.int 3), (.int 2), (.int 1), (.int 0)]), (.tup [(.int 1), (.int 3), (.int 0), (.int 2)]), (.tup [(.int 1), (.int 0), (.int 3), (.int 2)]), (.tup [(.int 3), (.int 1), (.int 2), (.int 0)]), (.tup [(.int 2), (.int 3), (.int 0), (.int 1)]), (.tup [(.int 0), (.int 2), (.int 1), (.int 3)])])
def c_QUARTERS : D := (.int 4)
def c_LETTERS : D := (.str "abcdefghijklmnopqrstuvwxyz")
def c_MOST_LETTERS : D := (.int 8)
def c_HALVES : D := (.int 2)
noncomputable def b__law_box : Rho → M Fl :=
  (sSeq (sAsg (eOp opIx (eVar 0) (eVar 1)) (tName 2))
  (sRet (eCel (aCons (eOp opMul (eCall bAbs (aCons (eVar 2) aNil)) (eCall bInt (aCons (eOp opGe (eCall bAbs (aCons (eVar 2) aNil)) (eOp opPow (eC (.int 10)) (eC (.int 18)))) aNil))) (aCons (eOp opAdd (eOp opAdd (eOp opMod (eVar 2) (eC (.int 2305843009213693951))) (eOp opMul (eC (.int 15485863)) (eVar 1))) (eC (.int 11))) (aCons (eC (.int 0)) aNil))))))
noncomputable def f__law_box : List D → M D := fn0 1 b__law_box
noncomputable def b__law_cells : Rho → M Fl :=
  (sSeq (sAsg (eOrT (eCall bListC (aCons (eSl (eVar 0) oNone (oSome (eVar 1))) aNil)) (eCel (aCons (eC (.int 0)) aNil))) (tName 2))
  (sSeq (sFor (iEnum (aCons (eSl (eVar 0) (oSome (eVar 1)) (oSome (eC (.int 63)))) aNil)) (tTupZ 2 (tsCons (tName 3) (tsCons (tName 4) tsNil))) (sAsg (eOp opAdd (eOp opIx (eVar 2) (eOp opMod (eVar 3) (eVar 1))) (eOp opMul (eVar 4) (eOp opAdd (eVar 3) (eC (.int 2))))) (tSub (eVar 2) (eOp opMod (eVar 3) (eVar 1)))))
  (sRet (eVar 2))))
noncomputable def f__law_cells : List D → M D := fn0 3 b__law_cells
noncomputable def b__law_take : Rho → M Fl :=
  (sSeq (sIf (bVal (eOp opGt (eOp opIx (eVar 0) (eC (.int 0))) (eC (.int 0)))) (sSeq (sAsg (eOp opMod (eOp opIx (eVar 0) (eC (.int 0))) (eVar 1)) (tName 3))
  (sSeq (sAsg (eOp opDiv (eOp opIx (eVar 0) (eC (.int 0))) (eVar 1)) (tSub (eVar 0) (eC (.int 0))))
  (sRet (eVar 3)))) sSkip)
  (sSeq (sAsg (eOp opAdd (eOp opIx (eVar 0) (eC (.int 2))) (eC (.int 1))) (tSub (eVar 0) (eC (.int 2))))
  (sSeq (sAsg (eOp opMod (eOp opAdd (eOp opIx (eVar 0) (eC (.int 1))) (eOp opMul (eC (.int 1442695040888963407)) (eOp opIx (eVar 0) (eC (.int 2))))) (eC (.int 2305843009213693951))) (tName 2))
  (sSeq (sAsg (eOp opMod (eOp opAdd (eOp opAdd (eOp opMul (eVar 2) (eVar 2)) (eOp opMul (eC (.int 39373)) (eOp opIx (eVar 0) (eC (.int 2))))) (eC (.int 7))) (eC (.int 2305843009213693921))) (tName 2))
  (sSeq (sAsg (eOp opMod (eOp opAdd (eOp opMul (eVar 2) (eOp opAdd (eOp opDiv (eVar 2) (eC (.int 65536))) (eC (.int 3)))) (eOp opIx (eVar 0) (eC (.int 2)))) (eC (.int 2305843009213693907))) (tName 2))
  (sRet (eOp opMod (eOp opDiv (eVar 2) (eC (.int 1048576))) (eVar 1))))))))
noncomputable def f__law_take : List D → M D := fn0 2 b__law_take
noncomputable def b__law_sight : Rho → M Fl :=
  (sSeq (sIf (bOr (bVal (eOp opEq (eVar 2) (eC (.int 0)))) (bVal (eOp opEq (eCall f__law_take (aCons (eVar 0) (aCons (eC (.int 2)) aNil))) (eC (.int 0))))) (sRet (eOp opIx (eVar 1) (eCall f__law_take (aCons (eVar 0) (aCons (eCall bLen (aCons (eVar 1) aNil)) aNil))))) sSkip)
  (sRet (eTup (aCons (eCall f__law_take (aCons (eVar 0) (aCons (eVar 2) aNil))) (aCons (eCall f__law_take (aCons (eVar 0) (aCons (eC (.int 8)) aNil))) aNil)))))
noncomputable def f__law_sight : List D → M D := fn0 0 b__law_sight
noncomputable def b__law_names : Rho → M Fl :=
  (sSeq (sAsg (eTup (aCons (eC (.str "abcdefghijklmnopqrstuvwxyz")) (aCons (eCall f__law_take (aCons (eVar 0) (aCons (eC (.int 26)) aNil))) aNil))) (tTupZ 2 (tsCons (tName 3) (tsCons (tName 4) tsNil))))
  (sSeq (sAsg (eMth isSt mJoin (eC (.str "")) (aCons (eFin finL (eComp (iRng1 (aCons (eCall f__law_take (aCons (eVar 0) (aCons (eC (.int 8)) aNil))) aNil)) [6] (tName 6) bYes (eOp opIx (eVar 3) (eCall f__law_take (aCons (eVar 0) (aCons (eC (.int 26)) aNil)))))) aNil)) (tName 2))
  (sRet (eFin finL (eComp (iRng1 (aCons (eVar 1) aNil)) [5] (tName 5) bYes (eOp opAdd (eVar 2) (eOp opIx (eVar 3) (eOp opMod (eOp opAdd (eVar 4) (eOp opMul (eC (.int 7)) (eVar 5))) (eC (.int 26))))))))))
noncomputable def f__law_names : List D → M D := fn0 5 b__law_names
noncomputable def b_behind : Rho → M Fl :=
  (sSeq (sAsg (eOp opAdd (eVar 1) (eIf (bVal (eOp opLt (eVar 1) (eC c_QUARTERS))) (eVar 0) (eUn opNeg (eVar 0)))) (tName 2))
  (sRet (eOp opAdd (eOp opMod (eVar 2) (eC c_QUARTERS)) (eOp opMul (eC c_QUARTERS) (eCall bInt (aCons (eOp opNe (eOp opDiv (eVar 0) (eC c_QUARTERS)) (eOp opDiv (eVar 1) (eC c_QUARTERS))) aNil))))))
noncomputable def f_behind : List D → M D := fn0 1 b_behind
noncomputable def b_back : Rho → M Fl :=
  (sRet (eOp opIx (eFin finL (eComp (iRng1 (aCons (eCall bLen (aCons (eC c_SHOWN) aNil)) aNil)) [1] (tName 1) (bVal (eOp opEq (eCall f_behind (aCons (eVar 0) (aCons (eVar 1) aNil))) (eC (.int 0)))) (eVar 1))) (eC (.int 0))))
noncomputable def f_back : List D → M D := fn0 1 b_back
noncomputable def b_Marks_many : Rho → M Fl :=
  (sRet (eLenK (eGath (iVal (eFld "Marks" "own_looks" (eVar 0))) [1] (tName 1) bYes (bSet (eOp opIx (eFld "Marks" "own_marks" (eVar 0)) (eVar 1))) [] finK)))
noncomputable def f_Marks_many : List D → M D := fn0 1 b_Marks_many
noncomputable def b_Marks_mark : Rho → M Fl :=
  (sSeq (sIf (bVal (eIsi ["str"] (eVar 1))) (sRet (eVar 1)) sSkip)
  (sSeq (sAsg (eOp opIx (eFld "Marks" "own_wholes" (eVar 0)) (eOp opIx (eVar 1) (eC (.int 0)))) (tName 2))
  (sRet (eIf (bVal (eOp opIs (eVar 2) (eC .non))) (eOp opIx (eFld "Marks" "own_marks" (eVar 0)) (eVar 1)) (eVar 2)))))
noncomputable def f_Marks_mark : List D → M D := fn0 1 b_Marks_mark
noncomputable def b_Marks_parted_once : Rho → M Fl :=
  (sSeq (sPar2 2 3 (aCons eDcC (aCons eDcC aNil)))
  (sSeq (sFor (iVal (eFld "Marks" "own_looks" (eVar 0))) (tName 1) (sSeq (sAsg (eCall bTuple (aCons (eFin finL (eComp (iVal (eOp opIx (eFld "Marks" "own_fours" (eVar 0)) (eVar 1))) [5] (tName 5) bYes (eMeth "Marks" "mark" f_Marks_mark (eVar 0) (aCons (eVar 5) aNil)))) aNil)) (tName 4))
  (sAsg (eMth isDc mSetd (eVar 2) (aCons (eVar 4) (aCons (eCall bLen (aCons (eVar 2) aNil)) aNil))) (tSub (eVar 3) (eVar 1)))))
  (sRet (eVar 3))))
noncomputable def f_Marks_parted_once : List D → M D := fn0 5 b_Marks_parted_once
noncomputable def b_Marks_part_on : Rho → M Fl :=
  (sSeq (sAsg (eC (.int 0)) (tName 1))
  (sWhile (bVal (eOp opLt (eVar 1) (eMeth "Marks" "many" f_Marks_many (eVar 0) aNil))) (sSeq (sAsg (eMeth "Marks" "many" f_Marks_many (eVar 0) aNil) (tName 1))
  (sFldZ "Marks" "own_marks" (eVar 0) (eMeth "Marks" "parted_once" f_Marks_parted_once (eVar 0) aNil)))))
noncomputable def f_Marks_part_on : List D → M D := fn0 1 b_Marks_part_on
noncomputable def b_shown : Rho → M Fl :=
  (sRet (eOp opIx (eOp opIx (eC c_SHOWN) (eVar 0)) (eVar 1)))
noncomputable def f_shown : List D → M D := fn0 0 b_shown
noncomputable def b_turned : Rho → M Fl :=
  (sSeq (sIf (bVal (eIsi ["str"] (eVar 0))) (sRet (eVar 0)) sSkip)
  (sSeq (sAsg (eVar 0) (tTupZ 2 (tsCons (tName 2) (tsCons (tName 3) tsNil))))
  (sRet (eTup (aCons (eVar 2) (aCons (eCall f_behind (aCons (eVar 3) (aCons (eVar 1) aNil))) aNil))))))
noncomputable def f_turned : List D → M D := fn0 2 b_turned
noncomputable def b_quarter_of : Rho → M Fl :=
  (sSeq (sIf (bVal (eIsi ["str"] (eVar 1))) (sRet (eVar 1)) sSkip)
  (sSeq (sAsg (eVar 1) (tTupZ 2 (tsCons (tName 3) (tsCons (tName 4) tsNil))))
  (sRet (eCall f_turned (aCons (eOp opIx (eOp opIx (eVar 0) (eVar 3)) (eCall f_shown (aCons (eVar 4) (aCons (eVar 2) aNil)))) (aCons (eVar 4) aNil))))))
noncomputable def f_quarter_of : List D → M D := fn0 2 b_quarter_of
noncomputable def b_quarters_of : Rho → M Fl :=
  (sRet (eFin finL (eComp (iRng1 (aCons (eC c_QUARTERS) aNil)) [2] (tName 2) bYes (eCall f_quarter_of (aCons (eVar 0) (aCons (eVar 1) (aCons (eVar 2) aNil)))))))
noncomputable def f_quarters_of : List D → M D := fn0 1 b_quarters_of
noncomputable def b_one_of : Rho → M Fl :=
  (sRet (eIf (bVal (eCall bAll (aCons (eFin finL (eComp (iVal (eVar 0)) [1] (tName 1) bYes (eOp opEq (eVar 1) (eOp opIx (eVar 0) (eC (.int 0)))))) aNil))) (eOp opIx (eVar 0) (eC (.int 0))) (eC .non)))
noncomputable def f_one_of : List D → M D := fn0 1 b_one_of
noncomputable def b_wholes_of : Rho → M Fl :=
  (sSeq (sAsg (eFin finL (eComp (iVal (eVar 0)) [3] (tName 3) bYes (eC .non))) (tName 1))
  (sSeq (sFor (iVal (eVar 0)) (tName 2) (sAsg (eFin finL (eComp (iVal (eVar 0)) [3] (tName 3) bYes (eCall f_one_of (aCons (eFin finL (eComp (iVal (eVar 3)) [4] (tName 4) bYes (eIf (bVal (eIsi ["str"] (eVar 4))) (eVar 4) (eOp opIx (eVar 1) (eOp opIx (eVar 4) (eC (.int 0))))))) aNil)))) (tName 1)))
  (sRet (eVar 1))))
noncomputable def f_wholes_of : List D → M D := fn0 4 b_wholes_of
noncomputable def b_Marks_init : Rho → M Fl :=
  (sSeq (sFldZ "Marks" "own_house" (eVar 0) (eVar 1))
  (sSeq (sFldZ "Marks" "own_wholes" (eVar 0) (eCall f_wholes_of (aCons (eVar 1) aNil)))
  (sSeq (sFldZ "Marks" "own_looks" (eVar 0) (eGath (iEnum (aCons (eFld "Marks" "own_wholes" (eVar 0)) aNil)) [4, 5, 2] (tTupZ 2 (tsCons (tName 4) (tsCons (tName 5) tsNil))) (bVal (eOp opIs (eVar 5) (eC .non))) (bIn (iRng1 (aCons (eCall bLen (aCons (eC c_SHOWN) aNil)) aNil)) [2] (tName 2) bYes (eTup (aCons (eVar 4) (aCons (eVar 2) aNil)))) [] finL))
  (sSeq (sFldZ "Marks" "own_fours" (eVar 0) (eGath (iVal (eFld "Marks" "own_looks" (eVar 0))) [3] (tName 3) bYes (bDic (eVar 3) (eCall f_quarters_of (aCons (eVar 1) (aCons (eVar 3) aNil)))) ([], []) finD))
  (sSeq (sFldZ "Marks" "own_marks" (eVar 0) (eGath (iVal (eFld "Marks" "own_looks" (eVar 0))) [3] (tName 3) bYes (bDic (eVar 3) (eC (.int 0))) ([], []) finD))
  (sDrop (eMeth "Marks" "part_on" f_Marks_part_on (eVar 0) aNil)))))))
noncomputable def f_Marks_init : List D → M D := fn0 4 b_Marks_init
noncomputable def b_alike : Rho → M Fl :=
  (sSeq (sAsg (eMake "Marks" f_Marks_init (aCons (eVar 0) aNil)) (tName 3))
  (sRet (eOp opEq (eMeth "Marks" "mark" f_Marks_mark (eVar 3) (aCons (eVar 1) aNil)) (eMeth "Marks" "mark" f_Marks_mark (eVar 3) (aCons (eVar 2) aNil)))))
noncomputable def f_alike : List D → M D := fn0 1 b_alike
noncomputable def b_sight_at : Rho → M Fl :=
  (sSeq (sFor (iVal (eVar 2)) (tName 3) (sAsg (eCall f_quarter_of (aCons (eVar 0) (aCons (eVar 1) (aCons (eVar 3) aNil)))) (tName 1)))
  (sRet (eVar 1)))
noncomputable def f_sight_at : List D → M D := fn0 1 b_sight_at
noncomputable def b_colour_at : Rho → M Fl :=
  (sSeq (sAsg (eVar 2) (tTupZ 2 (tsCons (tName 3) (tsCons (tName 4) tsNil))))
  (sSeq (sPar2 5 6 (aCons (eCall f_sight_at (aCons (eVar 0) (aCons (eVar 1) (aCons (eVar 3) aNil)))) (aCons eDcC aNil)))
  (sSeq (sWhile (bNot (bVal (eIsi ["str"] (eVar 5)))) (sSeq (sIf (bVal (eOp opIn (eVar 5) (eVar 6))) (sRet (eC .non)) sSkip)
  (sSeq (sAsg (eC (.bl true)) (tSub (eVar 6) (eVar 5)))
  (sAsg (eCall f_sight_at (aCons (eVar 0) (aCons (eVar 5) (aCons (eVar 4) aNil)))) (tName 5)))))
  (sRet (eVar 5)))))
noncomputable def f_colour_at : List D → M D := fn0 4 b_colour_at
noncomputable def b_power : Rho → M Fl :=
  (sSeq (sAsg (eC (.int 1)) (tName 2))
  (sSeq (sFor (iRng1 (aCons (eVar 1) aNil)) (tName 3) (sAug 2 opMulI (eVar 0)))
  (sRet (eVar 2))))
noncomputable def f_power : List D → M D := fn0 2 b_power
noncomputable def b_whole_by : Rho → M Fl :=
  (sRet (eIf (bVal (eIsi ["str"] (eVar 1))) (eVar 1) (eOp opIx (eVar 0) (eOp opIx (eVar 1) (eC (.int 0))))))
noncomputable def f_whole_by : List D → M D := fn0 0 b_whole_by
noncomputable def b_rows_of (fu : List D → M D) : Rho → M Fl :=
  (sSeq (sIf (bOr (bVal (eOp opEq (eVar 3) (eC (.int 0)))) (bVal (eIsi ["str"] (eVar 2)))) (sSeq (sAsg (eCall f_power (aCons (eC (.int 2)) (aCons (eVar 3) aNil))) (tName 4))
  (sRet (eFin finL (eComp (iRng1 (aCons (eVar 4) aNil)) [10] (tName 10) bYes (eOp opMul (eLst (aCons (eCall f_whole_by (aCons (eVar 1) (aCons (eVar 2) aNil))) aNil)) (eVar 4)))))) sSkip)
  (sSeq (sAsg (eFin finL (eComp (iVal (eCall f_quarters_of (aCons (eVar 0) (aCons (eVar 2) aNil)))) [9] (tName 9) bYes (eCall fu (aCons (eVar 0) (aCons (eVar 1) (aCons (eVar 9) (aCons (eOp opSub (eVar 3) (eC (.int 1))) aNil))))))) (tTupZ 4 (tsCons (tName 5) (tsCons (tName 6) (tsCons (tName 7) (tsCons (tName 8) tsNil))))))
  (sRet (eFin finL (eComp (iZipS (aCons (eOp opAdd (eVar 5) (eVar 7)) (aCons (eOp opAdd (eVar 6) (eVar 8)) aNil))) [11, 12] (tTupZ 2 (tsCons (tName 11) (tsCons (tName 12) tsNil))) bYes (eOp opAdd (eVar 11) (eVar 12)))))))
noncomputable def f_rows_of : Nat → List D → M D
  | 0 => fun _ _ => .stuck
  | n + 1 => fn0 9 (b_rows_of (f_rows_of n))
noncomputable def b_drawn : Rho → M Fl :=
  (sRet (eCall (f_rows_of 4) (aCons (eVar 0) (aCons (eCall f_wholes_of (aCons (eVar 0) aNil)) (aCons (eVar 1) (aCons (eVar 2) aNil))))))
noncomputable def f_drawn : List D → M D := fn0 0 b_drawn
noncomputable def b_row_seen : Rho → M Fl :=
  (sRet (eCall bTuple (aCons (eFin finL (eComp (iVal (eVar 1)) [2] (tName 2) bYes (eCall f_shown (aCons (eVar 0) (aCons (eVar 2) aNil))))) aNil)))
noncomputable def f_row_seen : List D → M D := fn0 1 b_row_seen
noncomputable def b_whole_of : Rho → M Fl :=
  (sSeq (sAsg (eMeth "Marks" "mark" f_Marks_mark (eMake "Marks" f_Marks_init (aCons (eVar 0) aNil)) (aCons (eVar 1) aNil)) (tName 2))
  (sRet (eIf (bVal (eIsi ["str"] (eVar 2))) (eVar 2) (eC .non))))
noncomputable def f_whole_of : List D → M D := fn0 1 b_whole_of
noncomputable def b_turns_by : Rho → M Fl :=
  (sRet (eFin finL (eComp (iRng1 (aCons (eCall bLen (aCons (eC c_SHOWN) aNil)) aNil)) [3] (tName 3) (bVal (eOp opEq (eMeth "Marks" "mark" f_Marks_mark (eVar 0) (aCons (eCall f_turned (aCons (eVar 1) (aCons (eVar 3) aNil))) aNil)) (eMeth "Marks" "mark" f_Marks_mark (eVar 0) (aCons (eVar 2) aNil)))) (eVar 3))))
noncomputable def f_turns_by : List D → M D := fn0 1 b_turns_by
noncomputable def b_turns_between : Rho → M Fl :=
  (sRet (eCall f_turns_by (aCons (eMake "Marks" f_Marks_init (aCons (eVar 0) aNil)) (aCons (eVar 1) (aCons (eVar 2) aNil)))))
noncomputable def f_turns_between : List D → M D := fn0 0 b_turns_between
noncomputable def b__law_seen_93 : Rho → M Fl :=
  (sSeq (sAsg (eTup (aCons (eTup (aCons (eC (.int 0)) (aCons (eC (.int 1)) (aCons (eC (.int 2)) (aCons (eC (.int 3)) aNil))))) (aCons (eTup (aCons (eC (.int 2)) (aCons (eC (.int 0)) (aCons (eC (.int 3)) (aCons (eC (.int 1)) aNil))))) (aCons (eTup (aCons (eC (.int 3)) (aCons (eC (.int 2)) (aCons (eC (.int 1)) (aCons (eC (.int 0)) aNil))))) (aCons (eTup (aCons (eC (.int 1)) (aCons (eC (.int 3)) (aCons (eC (.int 0)) (aCons (eC (.int 2)) aNil))))) aNil))))) (tName 2))
  (sSeq (sAsg (eTup (aCons (eTup (aCons (eC (.int 1)) (aCons (eC (.int 0)) (aCons (eC (.int 3)) (aCons (eC (.int 2)) aNil))))) (aCons (eTup (aCons (eC (.int 3)) (aCons (eC (.int 1)) (aCons (eC (.int 2)) (aCons (eC (.int 0)) aNil))))) (aCons (eTup (aCons (eC (.int 2)) (aCons (eC (.int 3)) (aCons (eC (.int 0)) (aCons (eC (.int 1)) aNil))))) (aCons (eTup (aCons (eC (.int 0)) (aCons (eC (.int 2)) (aCons (eC (.int 1)) (aCons (eC (.int 3)) aNil))))) aNil))))) (tName 3))
  (sRet (eOp opIx (eOp opIx (eOp opAdd (eVar 2) (eVar 3)) (eVar 0)) (eVar 1)))))
noncomputable def f__law_seen_93 : List D → M D := fn0 2 b__law_seen_93
noncomputable def b__law_then_93 : Rho → M Fl :=
  (sSeq (sAsg (eIf (bVal (eOp opGt (eVar 1) (eC (.int 3)))) (eOp opSub (eOp opMod (eVar 1) (eC (.int 4))) (eOp opMod (eVar 0) (eC (.int 4)))) (eOp opAdd (eOp opMod (eVar 1) (eC (.int 4))) (eOp opMod (eVar 0) (eC (.int 4))))) (tName 2))
  (sRet (eOp opAdd (eOp opMul (eOp opMod (eOp opAdd (eOp opDiv (eVar 0) (eC (.int 4))) (eOp opDiv (eVar 1) (eC (.int 4)))) (eC (.int 2))) (eC (.int 4))) (eOp opMod (eVar 2) (eC (.int 4))))))
noncomputable def f__law_then_93 : List D → M D := fn0 1 b__law_then_93
noncomputable def b__law_turned_93 : Rho → M Fl :=
  (sRet (eIf (bVal (eIsi ["str"] (eVar 0))) (eVar 0) (eTup (aCons (eOp opIx (eVar 0) (eC (.int 0))) (aCons (eCall f__law_then_93 (aCons (eOp opIx (eVar 0) (eC (.int 1))) (aCons (eVar 1) aNil))) aNil)))))
noncomputable def f__law_turned_93 : List D → M D := fn0 0 b__law_turned_93
noncomputable def b__law_house_93 : Rho → M Fl :=
  (sSeq (sAsg (eTup (aCons (eOp opAdd (eC (.int 1)) (eCall f__law_take (aCons (eVar 0) (aCons (eVar 2) aNil)))) (aCons (eCel aNil) aNil))) (tTupZ 2 (tsCons (tName 4) (tsCons (tName 5) tsNil))))
  (sSeq (sFor (iRng1 (aCons (eVar 4) aNil)) (tName 3) (sSeq (sAsg (eTup (aCons (eCall f__law_take (aCons (eVar 0) (aCons (eC (.int 8)) aNil))) (aCons (eCall f__law_sight (aCons (eVar 0) (aCons (eVar 1) (aCons (eVar 4) aNil)))) aNil))) (tTupZ 2 (tsCons (tName 6) (tsCons (tName 7) tsNil))))
  (sIf (bVal (eOp opEq (eVar 6) (eC (.int 0)))) (sDrop (eMth isLs mAppend (eVar 5) (aCons (eCall bTuple (aCons (eFin finL (eComp (iVal (eTup (aCons (eC (.int 0)) (aCons (eC (.int 1)) (aCons (eC (.int 3)) (aCons (eC (.int 2)) aNil)))))) [8] (tName 8) bYes (eCall f__law_turned_93 (aCons (eVar 7) (aCons (eVar 8) aNil))))) aNil)) aNil))) (sIf (bVal (eOp opEq (eVar 6) (eC (.int 1)))) (sDrop (eMth isLs mAppend (eVar 5) (aCons (eCall bTuple (aCons (eFin finL (eComp (iRng1 (aCons (eC (.int 4)) aNil)) [10] (tName 10) bYes (eTup (aCons (eVar 3) (aCons (eCall f__law_take (aCons (eVar 0) (aCons (eC (.int 8)) aNil))) aNil))))) aNil)) aNil))) (sIf (bVal (eOp opEq (eVar 6) (eC (.int 2)))) (sDrop (eMth isLs mAppend (eVar 5) (aCons (eOp opMul (eTup (aCons (eOp opIx (eVar 1) (eC (.int 0))) aNil)) (eC (.int 4))) aNil))) (sIf (bAnd (bVal (eOp opEq (eVar 6) (eC (.int 3)))) (bVal (eOp opNe (eVar 5) (eLst aNil)))) (sSeq (sAsg (eTup (aCons (eCall f__law_take (aCons (eVar 0) (aCons (eCall bLen (aCons (eVar 5) aNil)) aNil))) (aCons (eCall f__law_take (aCons (eVar 0) (aCons (eC (.int 8)) aNil))) aNil))) (tTupZ 2 (tsCons (tName 9) (tsCons (tName 8) tsNil))))
  (sDrop (eMth isLs mAppend (eVar 5) (aCons (eCall bTuple (aCons (eFin finL (eComp (iRng1 (aCons (eC (.int 4)) aNil)) [10] (tName 10) bYes (eCall f__law_turned_93 (aCons (eOp opIx (eOp opIx (eVar 5) (eVar 9)) (eCall f__law_seen_93 (aCons (eVar 8) (aCons (eVar 10) aNil)))) (aCons (eVar 8) aNil))))) aNil)) aNil)))) (sDrop (eMth isLs mAppend (eVar 5) (aCons (eCall bTuple (aCons (eFin finL (eComp (iRng1 (aCons (eC (.int 4)) aNil)) [10] (tName 10) bYes (eCall f__law_sight (aCons (eVar 0) (aCons (eVar 1) (aCons (eVar 4) aNil)))))) aNil)) aNil)))))))))
  (sRet (eCall bTuple (aCons (eVar 5) aNil)))))
noncomputable def f__law_house_93 : List D → M D := fn0 8 b__law_house_93
noncomputable def b__law_quarter_93 : Rho → M Fl :=
  (sSeq (sIf (bVal (eIsi ["str"] (eVar 1))) (sRet (eVar 1)) sSkip)
  (sRet (eCall f__law_turned_93 (aCons (eOp opIx (eOp opIx (eVar 0) (eOp opIx (eVar 1) (eC (.int 0)))) (eCall f__law_seen_93 (aCons (eOp opIx (eVar 1) (eC (.int 1))) (aCons (eVar 2) aNil)))) (aCons (eOp opIx (eVar 1) (eC (.int 1))) aNil)))))
noncomputable def f__law_quarter_93 : List D → M D := fn0 0 b__law_quarter_93
noncomputable def b__law_edge_house : Rho → M Fl :=
  (sSeq (sAsg (eTup (aCons (eLst (aCons (eTup (aCons (eOp opIx (eVar 1) (eC (.int 0))) (aCons (eC (.int 1)) aNil))) (aCons (eTup (aCons (eOp opIx (eVar 1) (eC (.int 1))) (aCons (eC (.int 0)) aNil))) aNil))) (aCons (eC (.int 0)) (aCons (eCel aNil) aNil)))) (tTupZ 3 (tsCons (tName 5) (tsCons (tName 6) (tsCons (tName 7) tsNil)))))
  (sSeq (sWhile (bVal (eOp opLt (eVar 6) (eCall bLen (aCons (eVar 5) aNil)))) (sSeq (sAsg (eOp opIx (eVar 5) (eVar 6)) (tTupZ 2 (tsCons (tName 9) (tsCons (tName 10) tsNil))))
  (sSeq (sAsg (eFin finL (eComp (iVal (eTup (aCons (eC (.int 0)) (aCons (eC (.int 2)) aNil)))) [13] (tName 13) bYes (eTup (aCons (eCall f__law_quarter_93 (aCons (eVar 0) (aCons (eVar 9) (aCons (eOp opAdd (eVar 13) (eVar 10)) aNil)))) (aCons (eVar 10) aNil))))) (tName 3))
  (sSeq (sFor (iVal (eVar 3)) (tName 8) (sAsg (eOp opAdd (eVar 5) (eOp opMul (eLst (aCons (eVar 8) aNil)) (eCall bInt (aCons (eOp opNotIn (eVar 8) (eVar 5)) aNil)))) (tName 5)))
  (sSeq (sDrop (eMth isLs mAppend (eVar 7) (aCons (eVar 3) aNil)))
  (sAsg (eOp opAdd (eVar 6) (eC (.int 1))) (tName 6)))))))
  (sSeq (sAsg (eCel aNil) (tName 2))
  (sSeq (sFor (iVal (eVar 7)) (tName 3) (sSeq (sAsg (eFin finL (eComp (iVal (eVar 3)) [8] (tName 8) bYes (eIf (bVal (eIsi ["str"] (eOp opIx (eVar 8) (eC (.int 0))))) (eOp opIx (eVar 8) (eC (.int 0))) (eTup (aCons (eMth isLs mIndex (eVar 5) (aCons (eVar 8) aNil)) (aCons (eC (.int 0)) aNil)))))) (tTupZ 2 (tsCons (tName 11) (tsCons (tName 12) tsNil))))
  (sDrop (eMth isLs mAppend (eVar 2) (aCons (eTup (aCons (eVar 11) (aCons (eVar 11) (aCons (eVar 12) (aCons (eVar 12) aNil))))) aNil)))))
  (sSeq (sAsg (eFin finL (eComp (iEnum (aCons (eSl (eVar 5) oNone (oSome (eC (.int 2)))) aNil)) [14, 8] (tTupZ 2 (tsCons (tName 14) (tsCons (tName 8) tsNil))) bYes (eIf (bVal (eIsi ["str"] (eOp opIx (eVar 8) (eC (.int 0))))) (eOp opIx (eVar 8) (eC (.int 0))) (eTup (aCons (eVar 14) (aCons (eC (.int 0)) aNil)))))) (tName 4))
  (sRet (eTup (aCons (eCall bTuple (aCons (eVar 2) aNil)) (aCons (eVar 4) aNil)))))))))
noncomputable def f__law_edge_house : List D → M D := fn0 13 b__law_edge_house
noncomputable def b_half_pair : Rho → M Fl :=
  (sSeq (sAsg (eVar 1) (tTupZ 2 (tsCons (tName 3) (tsCons (tName 4) tsNil))))
  (sRet (eTup (aCons (eCall f_quarter_of (aCons (eVar 0) (aCons (eVar 3) (aCons (eOp opAdd (eC (.int 1)) (eOp opMul (eC (.int 2)) (eVar 2))) aNil)))) (aCons (eCall f_quarter_of (aCons (eVar 0) (aCons (eVar 4) (aCons (eOp opMul (eC (.int 2)) (eVar 2)) aNil)))) aNil)))))
noncomputable def f_half_pair : List D → M D := fn0 2 b_half_pair
noncomputable def b_halves_of : Rho → M Fl :=
  (sRet (eFin finL (eComp (iRng1 (aCons (eC c_HALVES) aNil)) [2] (tName 2) bYes (eCall f_half_pair (aCons (eVar 0) (aCons (eVar 1) (aCons (eVar 2) aNil)))))))
noncomputable def f_halves_of : List D → M D := fn0 1 b_halves_of
noncomputable def b_is_lone : Rho → M Fl :=
  (sRet (eOp opNe (eIsi ["str"] (eOp opIx (eVar 0) (eC (.int 0)))) (eIsi ["str"] (eOp opIx (eVar 0) (eC (.int 1))))))
noncomputable def f_is_lone : List D → M D := fn0 0 b_is_lone
noncomputable def b_Edge_count : Rho → M Fl :=
  (sSeq (sAsg (eFin finL (eComp (iVal (eFld "Edge" "pairs" (eVar 0))) [3] (tName 3) (bVal (eCall f_is_lone (aCons (eVar 3) aNil))) (eVar 3))) (tName 1))
  (sSeq (sFldZ "Edge" "numbers" (eVar 0) (eGath (iVal (eFld "Edge" "pairs" (eVar 0))) [3] (tName 3) (bNot (bVal (eCall f_is_lone (aCons (eVar 3) aNil)))) (bDic (eVar 3) (eC (.int 0))) ([], []) finDC))
  (sSeq (sAsg (eOp opAdd (eCall bLen (aCons (eVar 1) aNil)) (eC (.int 1))) (tName 2))
  (sWhile (bVal (eOp opLt (eCall bLen (aCons (eVar 1) aNil)) (eVar 2))) (sSeq (sAsg (eCall bLen (aCons (eVar 1) aNil)) (tName 2))
  (sSeq (sFor (iVal (eVar 1)) (tName 3) (sSeq (sAsg (eFin finL (eComp (iVal (eCall f_halves_of (aCons (eFld "Edge" "own_house" (eVar 0)) (aCons (eVar 3) aNil)))) [5] (tName 5) bYes (eMth isDc mGet1 (eFld "Edge" "numbers" (eVar 0)) (aCons (eVar 5) aNil)))) (tName 4))
  (sIf (bVal (eOp opNotIn (eC .non) (eVar 4))) (sAsg (eOp opAdd (eC (.int 1)) (eCall bMax (aCons (eVar 4) aNil))) (tSub (eFld "Edge" "numbers" (eVar 0)) (eVar 3))) sSkip)))
  (sAsg (eFin finL (eComp (iVal (eVar 1)) [3] (tName 3) (bVal (eOp opNotIn (eVar 3) (eFld "Edge" "numbers" (eVar 0)))) (eVar 3))) (tName 1))))))))
noncomputable def f_Edge_count : List D → M D := fn0 5 b_Edge_count
noncomputable def b_Edge_walk : Rho → M Fl :=
  (sSeq (sAsg (eC (.int 0)) (tName 1))
  (sWhile (bVal (eOp opLt (eVar 1) (eCall bLen (aCons (eFld "Edge" "pairs" (eVar 0)) aNil)))) (sSeq (sAsg (eOp opIx (eFld "Edge" "pairs" (eVar 0)) (eVar 1)) (tName 2))
  (sSeq (sFor (iEnum (aCons (eCall f_halves_of (aCons (eFld "Edge" "own_house" (eVar 0)) (aCons (eVar 2) aNil))) aNil)) (tTupZ 2 (tsCons (tName 3) (tsCons (tName 4) tsNil))) (sIf (bVal (eOp opNotIn (eVar 4) (eFld "Edge" "rows" (eVar 0)))) (sSeq (sAsg (eOp opAdd (eOp opIx (eFld "Edge" "rows" (eVar 0)) (eVar 2)) (eTup (aCons (eVar 3) aNil))) (tSub (eFld "Edge" "rows" (eVar 0)) (eVar 4)))
  (sDrop (eMth isLs mAppend (eFld "Edge" "pairs" (eVar 0)) (aCons (eVar 4) aNil)))) sSkip))
  (sAug 1 opAddI (eC (.int 1)))))))
noncomputable def f_Edge_walk : List D → M D := fn0 4 b_Edge_walk
noncomputable def b_Edge_init : Rho → M Fl :=
  (sSeq (sFldZ "Edge" "own_house" (eVar 0) (eVar 1))
  (sSeq (sFldZ "Edge" "rows" (eVar 0) (eDct (pCons (eTup (aCons (eVar 2) (aCons (eVar 3) aNil))) (eTup aNil) pNil) finDC))
  (sSeq (sFldZ "Edge" "pairs" (eVar 0) (eCel (aCons (eTup (aCons (eVar 2) (aCons (eVar 3) aNil))) aNil)))
  (sSeq (sFldZ "Edge" "numbers" (eVar 0) eDcC)
  (sSeq (sDrop (eMeth "Edge" "walk" f_Edge_walk (eVar 0) aNil))
  (sDrop (eMeth "Edge" "count" f_Edge_count (eVar 0) aNil)))))))
noncomputable def f_Edge_init : List D → M D := fn0 0 b_Edge_init
noncomputable def b_is_ended : Rho → M Fl :=
  (sRet (eAnd (eIsi ["str"] (eOp opIx (eVar 0) (eC (.int 0)))) (eIsi ["str"] (eOp opIx (eVar 0) (eC (.int 1))))))
noncomputable def f_is_ended : List D → M D := fn0 0 b_is_ended
noncomputable def b_Edge_unlike : Rho → M Fl :=
  (sSeq (sAsg (eFin finL (eComp (iVal (eFld "Edge" "pairs" (eVar 0))) [2] (tName 2) (bAnd (bVal (eCall f_is_ended (aCons (eVar 2) aNil))) (bVal (eOp opNe (eOp opIx (eVar 2) (eC (.int 0))) (eOp opIx (eVar 2) (eC (.int 1)))))) (eVar 2))) (tName 1))
  (sRet (eIf (bVal (eOp opGt (eCall bLen (aCons (eVar 1) aNil)) (eC (.int 0)))) (eOp opIx (eVar 1) (eC (.int 0))) (eC .non))))
noncomputable def f_Edge_unlike : List D → M D := fn0 2 b_Edge_unlike
noncomputable def b_fit_paper : Rho → M Fl :=
  (sSeq (sAsg (eMake "Edge" f_Edge_init (aCons (eVar 0) (aCons (eVar 1) (aCons (eVar 2) aNil)))) (tName 3))
  (sSeq (sIf (bOr (bVal (eOp opIsNot (eMeth "Edge" "unlike" f_Edge_unlike (eVar 3) aNil) (eC .non))) (bVal (eOp opLt (eCall bLen (aCons (eFld "Edge" "numbers" (eVar 3)) aNil)) (eCall bLen (aCons (eFld "Edge" "pairs" (eVar 3)) aNil))))) (sRet (eC .non)) sSkip)
  (sRet (eFin finL (eComp (iVal (eFld "Edge" "pairs" (eVar 3))) [4, 5] (tTupZ 2 (tsCons (tName 4) (tsCons (tName 5) tsNil))) bYes (eTup (aCons (eVar 4) (aCons (eVar 5) (aCons (eOp opIx (eFld "Edge" "numbers" (eVar 3)) (eTup (aCons (eVar 4) (aCons (eVar 5) aNil)))) aNil)))))))))
noncomputable def f_fit_paper : List D → M D := fn0 3 b_fit_paper
noncomputable def b_Edge_endless : Rho → M Fl :=
  (sSeq (sAsg (eFin finL (eComp (iVal (eFld "Edge" "pairs" (eVar 0))) [3] (tName 3) (bVal (eOp opNotIn (eVar 3) (eFld "Edge" "numbers" (eVar 0)))) (eVar 3))) (tName 1))
  (sSeq (sIf (bVal (eOp opEq (eCall bLen (aCons (eVar 1) aNil)) (eC (.int 0)))) (sRet (eC .non)) sSkip)
  (sSeq (sPar3 3 4 5 (aCons (eOp opIx (eVar 1) (eC (.int 0))) (aCons (eCel aNil) (aCons (eCel aNil) aNil))))
  (sSeq (sWhile (bVal (eOp opNotIn (eVar 3) (eVar 4))) (sSeq (sDrop (eMth isLs mAppend (eVar 4) (aCons (eVar 3) aNil)))
  (sSeq (sAsg (eCall f_halves_of (aCons (eFld "Edge" "own_house" (eVar 0)) (aCons (eVar 3) aNil))) (tName 6))
  (sSeq (sAsg (eFin finL (eComp (iEnum (aCons (eVar 6) aNil)) [8, 9] (tTupZ 2 (tsCons (tName 8) (tsCons (tName 9) tsNil))) (bVal (eOp opNotIn (eVar 9) (eFld "Edge" "numbers" (eVar 0)))) (eTup (aCons (eVar 8) (aCons (eVar 9) aNil))))) (tName 7))
  (sSeq (sDrop (eMth isLs mAppend (eVar 5) (aCons (eOp opIx (eOp opIx (eVar 7) (eC (.int 0))) (eC (.int 0))) aNil)))
  (sAsg (eOp opIx (eOp opIx (eVar 7) (eC (.int 0))) (eC (.int 1))) (tName 3)))))))
  (sSeq (sAsg (eMth isLs mIndex (eVar 4) (aCons (eVar 3) aNil)) (tName 2))
  (sRet (eTup (aCons (eOp opAdd (eOp opIx (eFld "Edge" "rows" (eVar 0)) (eOp opIx (eVar 4) (eC (.int 0)))) (eCall bTuple (aCons (eSl (eVar 5) oNone (oSome (eVar 2))) aNil))) (aCons (eCall bTuple (aCons (eSl (eVar 5) (oSome (eVar 2)) oNone) aNil)) aNil)))))))))
noncomputable def f_Edge_endless : List D → M D := fn0 9 b_Edge_endless
noncomputable def b_misfit : Rho → M Fl :=
  (sSeq (sAsg (eMake "Edge" f_Edge_init (aCons (eVar 0) (aCons (eVar 1) (aCons (eVar 2) aNil)))) (tName 3))
  (sSeq (sAsg (eMeth "Edge" "unlike" f_Edge_unlike (eVar 3) aNil) (tName 4))
  (sRet (eIf (bVal (eOp opIs (eVar 4) (eC .non))) (eMeth "Edge" "endless" f_Edge_endless (eVar 3) aNil) (eTup (aCons (eOp opIx (eFld "Edge" "rows" (eVar 3)) (eVar 4)) (aCons (eTup (aCons (eC (.int 0)) aNil)) aNil)))))))
noncomputable def f_misfit : List D → M D := fn0 2 b_misfit
noncomputable def b_fits : Rho → M Fl :=
  (sRet (eOp opIs (eCall f_misfit (aCons (eVar 0) (aCons (eVar 1) (aCons (eVar 2) aNil)))) (eC .non)))
noncomputable def f_fits : List D → M D := fn0 0 b_fits
noncomputable def b_is_kept : Rho → M Fl :=
  (sSeq (sIf (bVal (eCall f_is_ended (aCons (eVar 1) aNil))) (sRet (eOp opEq (eOp opIx (eVar 1) (eC (.int 0))) (eOp opIx (eVar 1) (eC (.int 1))))) sSkip)
  (sSeq (sAsg (eFin finL (eComp (iVal (eCall f_halves_of (aCons (eVar 0) (aCons (eVar 1) aNil)))) [4] (tName 4) bYes (eMth isDc mGet1 (eVar 2) (aCons (eVar 4) aNil)))) (tName 3))
  (sSeq (sIf (bVal (eOp opIn (eC .non) (eVar 3))) (sRet (eC (.bl false))) sSkip)
  (sRet (eOr (eNot (eCall f_is_lone (aCons (eVar 1) aNil))) (eCall bAll (aCons (eFin finL (eComp (iVal (eVar 3)) [5] (tName 5) bYes (eOp opLt (eVar 5) (eOp opIx (eVar 2) (eVar 1))))) aNil)))))))
noncomputable def f_is_kept : List D → M D := fn0 3 b_is_kept
noncomputable def b_is_number : Rho → M Fl :=
  (sRet (eAnd (eIsi ["int"] (eVar 0)) (eNot (eIsi ["bool"] (eVar 0)))))
noncomputable def f_is_number : List D → M D := fn0 0 b_is_number
noncomputable def b_is_colour : Rho → M Fl :=
  (sRet (eAnd (eIsi ["str"] (eVar 0)) (eAnd (eChn opLt opLe (eC (.int 0)) (eCall bLen (aCons (eVar 0) aNil)) (eC c_MOST_LETTERS)) (eCall bAll (aCons (eFin finL (eComp (iVal (eVar 0)) [1] (tName 1) bYes (eOp opIn (eVar 1) (eC c_LETTERS)))) aNil)))))
noncomputable def f_is_colour : List D → M D := fn0 1 b_is_colour
noncomputable def b_is_below : Rho → M Fl :=
  (sRet (eAnd (eCall f_is_number (aCons (eVar 0) aNil)) (eChn opLe opLt (eC (.int 0)) (eVar 0) (eVar 1))))
noncomputable def f_is_below : List D → M D := fn0 0 b_is_below
noncomputable def b_is_turn : Rho → M Fl :=
  (sRet (eCall f_is_below (aCons (eVar 0) (aCons (eCall bLen (aCons (eC c_SHOWN) aNil)) aNil))))
noncomputable def f_is_turn : List D → M D := fn0 0 b_is_turn
noncomputable def b_is_look : Rho → M Fl :=
  (sRet (eAnd (eIsi ["tuple"] (eVar 0)) (eAnd (eOp opEq (eCall bLen (aCons (eVar 0) aNil)) (eC (.int 2))) (eAnd (eCall f_is_number (aCons (eOp opIx (eVar 0) (eC (.int 0))) aNil)) (eAnd (eOp opGe (eOp opIx (eVar 0) (eC (.int 0))) (eC (.int 0))) (eCall f_is_turn (aCons (eOp opIx (eVar 0) (eC (.int 1))) aNil)))))))
noncomputable def f_is_look : List D → M D := fn0 0 b_is_look
noncomputable def b_is_sight_of : Rho → M Fl :=
  (sRet (eOr (eCall f_is_colour (aCons (eVar 1) aNil)) (eAnd (eCall f_is_look (aCons (eVar 1) aNil)) (eOp opLt (eOp opIx (eVar 1) (eC (.int 0))) (eVar 0)))))
noncomputable def f_is_sight_of : List D → M D := fn0 0 b_is_sight_of
noncomputable def b_is_sight : Rho → M Fl :=
  (sRet (eCall f_is_sight_of (aCons (eCall bLen (aCons (eVar 0) aNil)) (aCons (eVar 1) aNil))))
noncomputable def f_is_sight : List D → M D := fn0 0 b_is_sight
noncomputable def b_is_triple : Rho → M Fl :=
  (sSeq (sIf (bOr (bNot (bVal (eIsi ["tuple"] (eVar 1)))) (bOr (bVal (eOp opNe (eCall bLen (aCons (eVar 1) aNil)) (eC (.int 3)))) (bOr (bNot (bVal (eCall f_is_number (aCons (eOp opIx (eVar 1) (eC (.int 2))) aNil)))) (bVal (eOp opLt (eOp opIx (eVar 1) (eC (.int 2))) (eC (.int 0))))))) (sRet (eC (.bl false))) sSkip)
  (sRet (eAnd (eCall f_is_sight (aCons (eVar 0) (aCons (eOp opIx (eVar 1) (eC (.int 0))) aNil))) (eCall f_is_sight (aCons (eVar 0) (aCons (eOp opIx (eVar 1) (eC (.int 1))) aNil))))))
noncomputable def f_is_triple : List D → M D := fn0 0 b_is_triple
noncomputable def b_shows_fit : Rho → M Fl :=
  (sSeq (sIf (bOr (bNot (bVal (eIsi ["list"] (eVar 3)))) (bNot (bVal (eCall bAll (aCons (eFin finL (eComp (iVal (eVar 3)) [5] (tName 5) bYes (eCall f_is_triple (aCons (eVar 0) (aCons (eVar 5) aNil))))) aNil))))) (sRet (eC (.bl false))) sSkip)
  (sSeq (sAsg (eGath (iVal (eVar 3)) [5] (tName 5) bYes (bDic (eTup (aCons (eOp opIx (eVar 5) (eC (.int 0))) (aCons (eOp opIx (eVar 5) (eC (.int 1))) aNil))) (eOp opIx (eVar 5) (eC (.int 2)))) ([], []) finD) (tName 4))
  (sSeq (sIf (bOr (bVal (eOp opNe (eCall bLen (aCons (eVar 4) aNil)) (eCall bLen (aCons (eVar 3) aNil)))) (bVal (eOp opNotIn (eTup (aCons (eVar 1) (aCons (eVar 2) aNil))) (eVar 4)))) (sRet (eC (.bl false))) sSkip)
  (sRet (eCall bAll (aCons (eFin finL (eComp (iKeys (eVar 4)) [6] (tName 6) bYes (eCall f_is_kept (aCons (eVar 0) (aCons (eVar 6) (aCons (eVar 4) aNil)))))) aNil))))))
noncomputable def f_shows_fit : List D → M D := fn0 3 b_shows_fit
noncomputable def b_is_halves : Rho → M Fl :=
  (sRet (eAnd (eIsi ["tuple"] (eVar 0)) (eAnd (eOp opGe (eCall bLen (aCons (eVar 0) aNil)) (eVar 1)) (eCall bAll (aCons (eFin finL (eComp (iVal (eVar 0)) [2] (tName 2) bYes (eCall f_is_below (aCons (eVar 2) (aCons (eC (.int 2)) aNil))))) aNil)))))
noncomputable def f_is_halves : List D → M D := fn0 1 b_is_halves
noncomputable def b_shows_misfit : Rho → M Fl :=
  (sSeq (sIf (bOr (bNot (bVal (eIsi ["tuple"] (eVar 3)))) (bOr (bVal (eOp opNe (eCall bLen (aCons (eVar 3) aNil)) (eC (.int 2)))) (bOr (bNot (bVal (eCall f_is_halves (aCons (eOp opIx (eVar 3) (eC (.int 0))) (aCons (eC (.int 0)) aNil))))) (bNot (bVal (eCall f_is_halves (aCons (eOp opIx (eVar 3) (eC (.int 1))) (aCons (eC (.int 1)) aNil)))))))) (sRet (eC (.bl false))) sSkip)
  (sSeq (sAsg (eCall bTuple (aCons (eFin finL (eComp (iVal (eVar 3)) [6] (tName 6) bYes (eCall bTuple (aCons (eFin finL (eComp (iVal (eVar 6)) [7] (tName 7) bYes (eOp opAdd (eC (.int 1)) (eOp opMul (eC (.int 2)) (eVar 7))))) aNil)))) aNil)) (tName 4))
  (sSeq (sAsg (eCall bTuple (aCons (eFin finL (eComp (iVal (eVar 3)) [6] (tName 6) bYes (eCall bTuple (aCons (eFin finL (eComp (iVal (eVar 6)) [7] (tName 7) bYes (eOp opMul (eC (.int 2)) (eVar 7)))) aNil)))) aNil)) (tName 5))
  (sRet (eOp opNe (eCall f_colour_at (aCons (eVar 0) (aCons (eVar 1) (aCons (eVar 4) aNil)))) (eCall f_colour_at (aCons (eVar 0) (aCons (eVar 2) (aCons (eVar 5) aNil)))))))))
noncomputable def f_shows_misfit : List D → M D := fn0 4 b_shows_misfit
noncomputable def b__law_pair_right : Rho → M Fl :=
  (sSeq (sAsg (eCall f__law_edge_house (aCons (eVar 0) (aCons (eTup (aCons (eVar 1) (aCons (eVar 2) aNil))) aNil))) (tTupZ 2 (tsCons (tName 3) (tsCons (tName 4) tsNil))))
  (sSeq (sPar3 5 6 7 (aCons (eCall f_fits (aCons (eVar 0) (aCons (eVar 1) (aCons (eVar 2) aNil)))) (aCons (eCall f_fit_paper (aCons (eVar 0) (aCons (eVar 1) (aCons (eVar 2) aNil)))) (aCons (eCall f_misfit (aCons (eVar 0) (aCons (eVar 1) (aCons (eVar 2) aNil)))) aNil))))
  (sSeq (sIf (bAnd (bVal (eOp opLt (eCall bLen (aCons (eVar 3) aNil)) (eC (.int 25)))) (bVal (eOp opNe (eCall bRepr (aCons (eCall f_alike (aCons (eVar 3) (aCons (eOp opIx (eVar 4) (eC (.int 0))) (aCons (eOp opIx (eVar 4) (eC (.int 1))) aNil)))) aNil)) (eCall bRepr (aCons (eVar 5) aNil))))) (sRet (eC (.bl false))) sSkip)
  (sSeq (sIf (bVal (eVar 5)) (sRet (eAnd (eOp opIs (eVar 7) (eC .non)) (eOp opIsB (eCall f_shows_fit (aCons (eVar 0) (aCons (eVar 1) (aCons (eVar 2) (aCons (eVar 6) aNil))))) (eC (.bl true))))) sSkip)
  (sRet (eAnd (eOp opIs (eVar 6) (eC .non)) (eOp opIsB (eCall f_shows_misfit (aCons (eVar 0) (aCons (eVar 1) (aCons (eVar 2) (aCons (eVar 7) aNil))))) (eC (.bl true)))))))))
noncomputable def f__law_pair_right : List D → M D := fn0 5 b__law_pair_right
noncomputable def b__law_right_93 : Rho → M Fl :=
  (sSeq (sAsg (eCall f__law_names (aCons (eVar 0) (aCons (eC (.int 2)) aNil))) (tName 1))
  (sSeq (sAsg (eCall f__law_house_93 (aCons (eVar 0) (aCons (eVar 1) (aCons (eC (.int 2)) aNil)))) (tName 2))
  (sSeq (sFor (iRng1 (aCons (eC (.int 2)) aNil)) (tName 3) (sSeq (sPar2 4 5 (aCons (eCall f__law_sight (aCons (eVar 0) (aCons (eVar 1) (aCons (eCall bLen (aCons (eVar 2) aNil)) aNil)))) (aCons (eCall f__law_sight (aCons (eVar 0) (aCons (eVar 1) (aCons (eCall bLen (aCons (eVar 2) aNil)) aNil)))) aNil)))
  (sSeq (sFor (iVal (eTup (aCons (eTup (aCons (eVar 4) (aCons (eVar 5) aNil))) (aCons (eTup (aCons (eVar 4) (aCons (eCall f__law_turned_93 (aCons (eVar 4) (aCons (eC (.int 4)) aNil))) aNil))) (aCons (eTup (aCons (eCall f__law_turned_93 (aCons (eVar 5) (aCons (eC (.int 4)) aNil))) (aCons (eVar 5) aNil))) aNil))))) (tTupZ 2 (tsCons (tName 6) (tsCons (tName 7) tsNil))) (sIf (bNot (bVal (eCall f__law_pair_right (aCons (eVar 2) (aCons (eVar 6) (aCons (eVar 7) aNil)))))) (sRet (eC (.bl false))) sSkip))
  (sIf (bAnd (bVal (eCall f_alike (aCons (eVar 2) (aCons (eVar 4) (aCons (eVar 5) aNil))))) (bNot (bVal (eCall f_fits (aCons (eVar 2) (aCons (eVar 4) (aCons (eCall f__law_turned_93 (aCons (eVar 5) (aCons (eC (.int 4)) aNil))) aNil))))))) (sRet (eC (.bl false))) sSkip))))
  (sRet (eC (.bl true))))))
noncomputable def f__law_right_93 : List D → M D := fn0 7 b__law_right_93
noncomputable def b_law_93 : Rho → M Fl :=
  (sSeq (sAsg (eCall f__law_cells (aCons (eVar 0) (aCons (eC (.int 2)) aNil))) (tName 1))
  (sSeq (sFor (iRng1 (aCons (eCall bLen (aCons (eVar 1) aNil)) aNil)) (tName 2) (sSeq (sAsg (eCall f__law_box (aCons (eVar 1) (aCons (eVar 2) aNil))) (tName 3))
  (sIf (bNot (bVal (eCall f__law_right_93 (aCons (eVar 3) aNil)))) (sRet (eC (.bl false))) sSkip)))
  (sRet (eC (.bl true)))))
noncomputable def f_law_93 : List D → M D := fn0 3 b_law_93
end Pg
set_option Elab.async false
set_option linter.all false
set_option maxRecDepth 100000
set_option maxHeartbeats 1000000
/-! M1: turns, panes. -/
namespace Pg
open Z
open PySem (Str sizeLine)
open L2 (atI)
def behI (a b : Int) : Int := (b + (if b < 4 then a else -a)) % 4 + 4 * (if a / 4 = b / 4 then 0 else 1)
theorem f_behind_eq (a b : Int) (S : Sto) : f_behind [.int a, .int b] S = .val (.int (behI a b)) S := by
  by_cases h1 : b < 4 <;> by_cases h2 : a / 4 = b / 4 <;>
    simp [f_behind, b_behind, c_QUARTERS, h1, h2, behI]
/-- turns as numbers -/
def beh (a b : Nat) : Nat := (behI a b).toNat
theorem beh_ok : ∀ a : Nat, a < 8 → ∀ b : Nat, b < 8 → behI (a : Int) (b : Int) = ((beh a b : Nat) : Int) ∧ beh a b < 8 := by decide
theorem f_behind_n {a b : Nat} (ha : a < 8) (hb : b < 8) (S : Sto) : f_behind [.int a, .int b] S = .val (.int (beh a b : Nat)) S := by rw [f_behind_eq, (beh_ok a ha b hb).1]
theorem beh_lt {a b : Nat} (ha : a < 8) (hb : b < 8) : beh a b < 8 := (beh_ok a ha b hb).2
def shT : List (List Nat) := [[0, 1, 2, 3], [2, 0, 3, 1], [3, 2, 1, 0], [1, 3, 0, 2], [1, 0, 3, 2], [3, 1, 2, 0], [2, 3, 0, 1], [0, 2, 1, 3]]
def shw (t q : Nat) : Nat := (shT.getD t []).getD q 0
theorem shw_lt : ∀ t < 8, ∀ q < 4, shw t q < 4 := by decide
theorem f_shown_n {t q : Nat} (ht : t < 8) (hq : q < 4) (S : Sto) : f_shown [.int t, .int q] S = .val (.int (shw t q : Nat)) S := by
  have e1 : ∀ t < 8, ∃ r, shT[t]? = some r ∧ r.length = 4 := by decide
  obtain ⟨r, hr, hl⟩ := e1 t ht
  have e2 : c_SHOWN = .tup (shT.map fun r => .tup (r.map fun (n : Nat) => D.int (n : Int))) := by simp [c_SHOWN, shT]
  have hq' : q < r.length := by omega
  have e3 : shw t q = r[q] := by unfold shw; simp [List.getD, hr, hq']
  have a1 : atI (shT.map fun r => D.tup (r.map fun (n : Nat) => D.int (n : Int))) (t : Int) = some (.tup (r.map fun (n : Nat) => D.int (n : Int))) := by rw [atI_nat, List.getElem?_map, hr]; rfl
  have a2 : atI (r.map fun (n : Nat) => D.int (n : Int)) (q : Int) = some (.int (r[q] : Nat)) := by rw [atI_nat, List.getElem?_map, List.getElem?_eq_getElem hq']; rfl
  rw [e3]
  simp [f_shown, b_shown, e2, opIx_tup a1, opIx_tup a2]
def bck (t : Nat) : Nat := ((List.range 8).filter fun o => beh t o == 0).getD 0 0
theorem bck_lt : ∀ t < 8, bck t < 8 := by decide
theorem f_back_n {t : Nat} (ht : t < 8) (S : Sto) : f_back [.int t] S = .val (.int (bck t : Nat)) S := by
  have hc := lc_pure (f := iRng1 (aCons (eCall bLen (aCons (eC c_SHOWN) aNil)) aNil)) (own := [1]) (g := tName 1) (t := bVal (eOp opEq (eCall f_behind (aCons (eVar 0) (aCons (eVar 1) aNil))) (eC (.int 0)))) (e := eVar 1) (ρ := [some (.int t), none]) (S := S) (fun d => d)
    (fun d => match d with | .int i => decide (behI t i = 0) | _ => false) (fun d => [some (.int t), some d]) (rng1_n (n := 8) rfl (by omega)) (by simp) True.intro (fun d _ => by simp [wipeR]) (fun d hd => by
      obtain ⟨i, _, rfl⟩ := rangeD_mem hd
      simp [f_behind_eq]) (fun d _ _ => by simp)
  have hl : ∀ t < 8, ((List.range 8).filter fun o => beh t o == 0)[0]? = some (bck t) := by decide
  have hf : ((rangeD 8).filter fun d => match d with | .int i => decide (behI t i = 0) | _ => false) = ((List.range 8).filter fun o => beh t o == 0).map fun (i : Nat) => D.int (i : Int) := by
    unfold rangeD
    rw [List.filter_map]
    congr 1
    apply List.filter_congr
    intro o ho
    have ho8 : o < 8 := List.mem_range.mp ho
    have e := (beh_ok t ht o ho8).1
    simp only [Function.comp]
    rw [e]
    by_cases h : beh t o = 0
    · simp [h]
    · simp [h]
  rw [always_items, hf, show ∀ l : List D, l.map (fun d => d) = l from List.map_id'] at hc
  refine fn0_ret ?_
  show (eFin finL _ _ S).bind _ = _
  refine Eq.trans (congrArg (fun o => Out.bind o _) hc) ?_
  have h0 : atI (List.map (fun (i : Nat) => D.int (i : Int)) ((List.range 8).filter fun o => beh t o == 0)) 0 = some (.int (bck t : Nat)) := by
    rw [atI_0, List.getElem?_map, hl t ht]; rfl
  exact opIx_lst h0
/-! ### sights -/
inductive Sg where
  | col (x : Str) | pan (p t : Nat)
  deriving Inhabited, DecidableEq
def sgD : Sg → D
  | .col x => .str x
  | .pan p t => .tup [.int p, .int t]
abbrev House := List (List Sg)
def roD (r : List Sg) : D := .tup (r.map sgD)
def hsD (h : House) : D := .tup (h.map roD)
def Sg.ok (n : Nat) : Sg → Prop
  | .col _ => True
  | .pan p t => p < n ∧ t < 8
def WF (h : House) : Prop := ∀ r ∈ h, r.length = 4 ∧ ∀ s ∈ r, s.ok h.length
def Sg.turn : Sg → Nat → Sg
  | .col x, _ => .col x
  | .pan p t, d => .pan p (beh t d)
def quar (h : House) : Sg → Nat → Sg
  | .col x, _ => .col x
  | .pan p t, q => ((h.getD p []).getD (shw t q) default).turn t
def sightAt (h : House) (s : Sg) (row : List Nat) : Sg := row.foldl (quar h) s
theorem sgD_col (x : Str) : sgD (.col x) = .str x := rfl
theorem sgD_pan (p t : Nat) : sgD (.pan p t) = .tup [.int p, .int t] := rfl
theorem sgD_inj : ∀ {a b : Sg}, sgD a = sgD b → a = b
  | .col x, .col y, h => by simp [sgD] at h; rw [h]
  | .col x, .pan p t, h => by simp [sgD] at h
  | .pan p t, .col x, h => by simp [sgD] at h
  | .pan p t, .pan p' t', h => by simp [sgD] at h; rw [Int.ofNat_inj.mp h.1, Int.ofNat_inj.mp h.2]
theorem turn_ok {n d : Nat} (hd : d < 8) : ∀ {s : Sg}, s.ok n → (s.turn d).ok n
  | .col _, _ => True.intro
  | .pan p t, h => ⟨h.1, beh_lt h.2 hd⟩
theorem cell_at {h : House} (wf : WF h) {p : Nat} (hp : p < h.length) {k : Nat} (hk : k < 4) : ∃ r s, h[p]? = some r ∧ r[k]? = some s ∧ (h.getD p []).getD k default = s ∧ s.ok h.length := by
  have hr : h[p]? = some h[p] := List.getElem?_eq_getElem hp
  obtain ⟨hl, ho⟩ := wf h[p] (List.getElem_mem hp)
  have hk' : k < h[p].length := by omega
  have hs : h[p][k]? = some h[p][k] := List.getElem?_eq_getElem hk'
  exact ⟨h[p], h[p][k], hr, hs, by simp [List.getD, hr, hs], ho _ (List.getElem_mem hk')⟩
theorem quar_ok {h : House} (wf : WF h) {q : Nat} (hq : q < 4) : ∀ {s : Sg}, s.ok h.length → (quar h s q).ok h.length
  | .col _, _ => True.intro
  | .pan p t, ho => by
    obtain ⟨r, s, _, _, e, o⟩ := cell_at wf ho.1 (shw_lt t ho.2 q hq)
    show (((h.getD p []).getD (shw t q) default).turn t).ok h.length
    rw [e]
    exact turn_ok ho.2 o
theorem sightAt_ok {h : House} (wf : WF h) : ∀ {row : List Nat} {s : Sg}, (∀ q ∈ row, q < 4) → s.ok h.length → (sightAt h s row).ok h.length
  | [], s, _, ho => ho
  | q :: row, s, hr, ho => sightAt_ok wf (row := row) (fun x hx => hr x (List.mem_cons_of_mem _ hx)) (quar_ok wf (hr q List.mem_cons_self) ho)
theorem f_turned_n {n d : Nat} (hd : d < 8) (S : Sto) : ∀ {s : Sg}, s.ok n → f_turned [sgD s, .int d] S = .val (sgD (s.turn d)) S
  | .col x, _ => by simp [f_turned, b_turned, sgD, Sg.turn]
  | .pan p t, ho => by simp [f_turned, b_turned, sgD, Sg.turn, f_behind_n ho.2 hd]
theorem ix_house {h : House} {p : Nat} {r : List Sg} (hr : h[p]? = some r) (S : Sto) : opIx (hsD h) (.int p) S = .val (roD r) S := opIx_tup (by rw [atI_nat, List.getElem?_map, hr]; rfl)
theorem ix_row {r : List Sg} {k : Nat} {s : Sg} (hs : r[k]? = some s) (S : Sto) : opIx (roD r) (.int k) S = .val (sgD s) S := opIx_tup (by rw [atI_nat, List.getElem?_map, hs]; rfl)
theorem f_quarter_of_n {h : House} (wf : WF h) {q : Nat} (hq : q < 4) (S : Sto) : ∀ {s : Sg}, s.ok h.length → f_quarter_of [hsD h, sgD s, .int q] S = .val (sgD (quar h s q)) S
  | .col x, _ => by simp [f_quarter_of, b_quarter_of, sgD, quar]
  | .pan p t, ho => by
    obtain ⟨r, s, e1, e2, e3, o⟩ := cell_at wf ho.1 (shw_lt t ho.2 q hq)
    have eq : quar h (.pan p t) q = s.turn t := by show ((h.getD p []).getD (shw t q) default).turn t = _; rw [e3]
    rw [eq]
    simp [f_quarter_of, b_quarter_of, sgD_pan, f_shown_n ho.2 hq, ix_house e1, ix_row e2, f_turned_n ho.2 S o]
def rowD (row : List Nat) : D := .tup (row.map fun (q : Nat) => D.int (q : Int))
theorem f_sight_at_n {h : House} (wf : WF h) {row : List Nat} (hr : ∀ q ∈ row, q < 4) {s : Sg} (ho : s.ok h.length) (S : Sto) : f_sight_at [hsD h, sgD s, rowD row] S = .val (sgD (sightAt h s row)) S := by
  obtain ⟨ρ', S', e, j⟩ := forL_all (ok := fun _ => True) (g := tName 3) (b := sAsg (eCall f_quarter_of (aCons (eVar 0) (aCons (eVar 1) (aCons (eVar 3) aNil)))) (tName 1)) (ds := row.map fun (q : Nat) => D.int (q : Int)) (ρ := [some (hsD h), some (sgD s), some (rowD row), none]) (S := S)
    (fun k ρ S' => S' = S ∧ ∃ x, ρ = [some (hsD h), some (sgD (sightAt h s (row.take k))), some (rowD row), x]) (fun _ _ _ _ => True.intro) ⟨rfl, none, rfl⟩ (by
      rintro k d ρ S' hd ⟨rfl, x, rfl⟩
      rw [List.getElem?_map] at hd
      obtain ⟨q, hq, rfl⟩ := Option.map_eq_some_iff.mp hd
      have hq4 := hr q (List.mem_of_getElem? hq)
      have ok1 : (sightAt h s (row.take k)).ok h.length := sightAt_ok wf (fun x hx => hr x (List.mem_of_mem_take hx)) ho
      refine ⟨_, S', [some (hsD h), some (sgD (sightAt h s (row.take (k + 1)))), some (rowD row), some (.int q)], S', rfl, .inl ?_, rfl, _, rfl⟩
      have e1 : row.take (k + 1) = row.take k ++ [q] := by rw [List.take_succ, hq]; rfl
      have e2 : sightAt h s (row.take k ++ [q]) = quar h (sightAt h s (row.take k)) q := by simp [sightAt]
      simp [f_quarter_of_n wf hq4 S' ok1, e1, e2])
  obtain ⟨rfl, x, rfl⟩ := j
  rw [List.length_map, List.take_length] at e
  simp [f_sight_at, b_sight_at]
  rw [show srcOf (rowD row) S' = .val (always (row.map fun (q : Nat) => D.int (q : Int))) S' from rfl]
  simp only [always_ok, always_items]
  rw [e]
  rfl
theorem f_quarters_of_n {h : House} (wf : WF h) {s : Sg} (ho : s.ok h.length) (S : Sto) : f_quarters_of [hsD h, sgD s] S = .val (.lst ((List.range 4).map fun q => sgD (quar h s q))) S := by
  have hc := lc_map (f := iRng1 (aCons (eC c_QUARTERS) aNil)) (own := [2]) (g := tName 2) (e := eCall f_quarter_of (aCons (eVar 0) (aCons (eVar 1) (aCons (eVar 2) aNil)))) (ρ := [some (hsD h), some (sgD s), none]) (S := S) (fun d => match d with | .int i => sgD (quar h s i.toNat) | d => d) (fun d => [some (hsD h), some (sgD s), some d])
    (rng1_n (n := 4) rfl (by omega)) (by simp) True.intro (fun d _ => by simp [wipeR]) (fun d hd => by
      obtain ⟨i, hi, rfl⟩ := rangeD_mem hd
      simp [f_quarter_of_n wf hi S ho])
  refine fn0_ret (hc.trans ?_)
  simp [rangeD]
end Pg
set_option Elab.async false
set_option linter.all false
set_option maxRecDepth 100000
set_option maxHeartbeats 1000000
/-! M2: plain mathematics: turning, wholes, marks. -/
namespace Pg
open Z
open PySem (Str sizeLine)
/-! ### turns -/
theorem beh_assoc : ∀ a : Nat, a < 8 → ∀ b : Nat, b < 8 → ∀ c : Nat, c < 8 → beh (beh a b) c = beh a (beh b c) := by decide
theorem beh_zero : ∀ a : Nat, a < 8 → beh a 0 = a := by decide
theorem zero_beh : ∀ a : Nat, a < 8 → beh 0 a = a := by decide
theorem beh_bck : ∀ a : Nat, a < 8 → beh a (bck a) = 0 := by decide
theorem bck_beh : ∀ a : Nat, a < 8 → beh (bck a) a = 0 := by decide
theorem shw_beh : ∀ t : Nat, t < 8 → ∀ d : Nat, d < 8 → ∀ q : Nat, q < 4 → shw (beh t d) q = shw t (shw d q) := by decide
theorem shw_zero : ∀ q : Nat, q < 4 → shw 0 q = q := by decide
theorem turn_turn {n a b : Nat} (ha : a < 8) (hb : b < 8) : ∀ {s : Sg}, s.ok n → (s.turn a).turn b = s.turn (beh a b)
  | .col x, _ => rfl
  | .pan p t, h => by show Sg.pan p (beh (beh t a) b) = Sg.pan p (beh t (beh a b)); rw [beh_assoc t h.2 a ha b hb]
theorem turn_zero {n : Nat} : ∀ {s : Sg}, s.ok n → s.turn 0 = s
  | .col x, _ => rfl
  | .pan p t, h => by show Sg.pan p (beh t 0) = _; rw [beh_zero t h.2]
theorem quar_turn {h : House} (wf : WF h) {d q : Nat} (hd : d < 8) (hq : q < 4) : ∀ {s : Sg}, s.ok h.length → quar h (s.turn d) q = (quar h s (shw d q)).turn d
  | .col x, _ => rfl
  | .pan p t, ho => by
    have hs : shw (beh t d) q = shw t (shw d q) := shw_beh t ho.2 d hd q hq
    obtain ⟨r, s, e1, e2, e3, o⟩ := cell_at wf ho.1 (shw_lt t ho.2 (shw d q) (shw_lt d hd q hq))
    show ((h.getD p []).getD (shw (beh t d) q) default).turn (beh t d) = (((h.getD p []).getD (shw t (shw d q)) default).turn t).turn d
    rw [hs, e3, turn_turn ho.2 hd o]
theorem sightAt_turn {h : House} (wf : WF h) {d : Nat} (hd : d < 8) : ∀ {row : List Nat} {s : Sg}, (∀ q ∈ row, q < 4) → s.ok h.length → sightAt h (s.turn d) row = (sightAt h s (row.map (shw d))).turn d
  | [], s, _, _ => rfl
  | q :: row, s, hr, ho => by
    have hq := hr q List.mem_cons_self
    show sightAt h (quar h (s.turn d) q) row = _
    rw [quar_turn wf hd hq ho]
    exact sightAt_turn wf hd (row := row) (fun x hx => hr x (List.mem_cons_of_mem _ hx)) (quar_ok wf (shw_lt d hd q hq) ho)
theorem sightAt_append (h : House) (s : Sg) (a b : List Nat) : sightAt h s (a ++ b) = sightAt h (sightAt h s a) b := by simp [sightAt]
theorem sightAt_col (h : House) (x : Str) : ∀ row : List Nat, sightAt h (.col x) row = .col x
  | [] => rfl
  | q :: row => sightAt_col h x row
/-- the row seen from behind the turn d -/
theorem sightAt_seen {h : House} (wf : WF h) {d : Nat} (hd : d < 8) {row : List Nat} {s : Sg} (hr : ∀ q ∈ row, q < 4) (ho : s.ok h.length) : sightAt h (s.turn d) (row.map (shw (bck d))) = (sightAt h s row).turn d := by
  have hb := bck_lt d hd
  rw [sightAt_turn wf hd (fun q hq => by obtain ⟨q', h1, rfl⟩ := List.mem_map.mp hq; exact shw_lt _ hb q' (hr q' h1)) ho, List.map_map]
  have e : row.map (shw d ∘ shw (bck d)) = row := by
    rw [List.map_congr_left (g := id) fun q hq => by
      show shw d (shw (bck d) q) = q
      rw [← shw_beh d hd (bck d) hb q (hr q hq), beh_bck d hd, shw_zero q (hr q hq)], List.map_id]
  rw [e]
/-! ### wholes -/
def whBy (f : Nat → Option Str) : Sg → Option Str
  | .col x => some x
  | .pan p _ => f p
def oneOf : List (Option Str) → Option Str
  | [] => none
  | x :: r => if r.all (fun y => decide (y = x)) = true then x else none
def wh (h : House) : Nat → Nat → Option Str
  | 0, _ => none
  | k + 1, p => oneOf ((h.getD p []).map (whBy (wh h k)))
theorem oneOf_some {c : Str} {l : List (Option Str)} (h : oneOf l = some c) : l ≠ [] ∧ ∀ x ∈ l, x = some c := by
  cases l with
  | nil => cases h
  | cons x r =>
    simp only [oneOf] at h
    by_cases ha : r.all (fun y => decide (y = x)) = true
    · rw [if_pos ha] at h
      refine ⟨by simp, fun y hy => ?_⟩
      rcases List.mem_cons.mp hy with e | e
      · rw [e]; exact h
      · rw [of_decide_eq_true (List.all_eq_true.mp ha y e)]; exact h
    · rw [if_neg ha] at h; cases h
theorem oneOf_of {c : Str} {l : List (Option Str)} (hn : l ≠ []) (h : ∀ x ∈ l, x = some c) : oneOf l = some c := by
  cases l with
  | nil => exact absurd rfl hn
  | cons x r =>
    simp only [oneOf]
    rw [if_pos (List.all_eq_true.mpr fun y hy => decide_eq_true ((h y (List.mem_cons_of_mem _ hy)).trans (h x List.mem_cons_self).symm))]
    exact h x List.mem_cons_self
theorem wh_mono (h : House) : ∀ {k p : Nat} {c : Str}, wh h k p = some c → wh h (k + 1) p = some c
  | 0, p, c, e => by cases e
  | k + 1, p, c, e => by
    obtain ⟨hn, ha⟩ := oneOf_some (l := (h.getD p []).map (whBy (wh h k))) e
    refine oneOf_of (by simpa using hn) fun x hx => ?_
    obtain ⟨s, hs, rfl⟩ := List.mem_map.mp hx
    have q := ha _ (List.mem_map.mpr ⟨s, hs, rfl⟩)
    cases s with
    | col y => exact q
    | pan p' t => exact wh_mono h (k := k) q
theorem whBy_mono {h : House} {k : Nat} {c : Str} : ∀ {s : Sg}, whBy (wh h k) s = some c → whBy (wh h (k + 1)) s = some c
  | .col _, e => e
  | .pan _ _, e => wh_mono h e
theorem whBy_turn (f : Nat → Option Str) (d : Nat) : ∀ s : Sg, whBy f (s.turn d) = whBy f s
  | .col _ => rfl
  | .pan _ _ => rfl
theorem whBy_quar {h : House} (wf : WF h) {k q : Nat} {c : Str} (hq : q < 4) : ∀ {s : Sg}, s.ok h.length → whBy (wh h (k + 1)) s = some c → whBy (wh h k) (quar h s q) = some c
  | .col _, _, e => e
  | .pan p t, ho, e => by
    obtain ⟨r, s, e1, e2, e3, o⟩ := cell_at wf ho.1 (shw_lt t ho.2 q hq)
    obtain ⟨_, ha⟩ := oneOf_some (l := (h.getD p []).map (whBy (wh h k))) e
    show whBy (wh h k) (((h.getD p []).getD (shw t q) default).turn t) = some c
    rw [e3, whBy_turn]
    refine ha _ (List.mem_map.mpr ⟨s, ?_, rfl⟩)
    rw [show h.getD p [] = r from by simp [List.getD, e1]]
    exact List.mem_of_getElem? e2
theorem whBy_quar' {h : House} (wf : WF h) {k q : Nat} {c : Str} (hq : q < 4) {s : Sg} (ho : s.ok h.length) (e : whBy (wh h k) s = some c) : whBy (wh h k) (quar h s q) = some c := by
  cases k with
  | zero =>
    cases s with
    | col x => exact e
    | pan p t => cases e
  | succ k => exact whBy_mono (whBy_quar wf hq ho e)
theorem whBy_row {h : House} (wf : WF h) {k : Nat} {c : Str} : ∀ {row : List Nat} {s : Sg}, (∀ q ∈ row, q < 4) → s.ok h.length → whBy (wh h k) s = some c → whBy (wh h k) (sightAt h s row) = some c
  | [], s, _, _, e => e
  | q :: row, s, hr, ho, e => whBy_row wf (row := row) (fun x hx => hr x (List.mem_cons_of_mem _ hx)) (quar_ok wf (hr q List.mem_cons_self) ho) (whBy_quar' wf (hr q List.mem_cons_self) ho e)
theorem whBy_row1 {h : House} (wf : WF h) {k : Nat} {c : Str} {row : List Nat} {s : Sg} (hn : row ≠ []) (hr : ∀ q ∈ row, q < 4) (ho : s.ok h.length) (e : whBy (wh h (k + 1)) s = some c) : whBy (wh h k) (sightAt h s row) = some c := by
  cases row with
  | nil => exact absurd rfl hn
  | cons q row => exact whBy_row wf (row := row) (fun x hx => hr x (List.mem_cons_of_mem _ hx)) (quar_ok wf (hr q List.mem_cons_self) ho) (whBy_quar wf (hr q List.mem_cons_self) ho e)
/-! ### again and again -/
def again (h : House) (row : List Nat) : Nat → Sg → Sg
  | 0, s => s
  | m + 1, s => again h row m (sightAt h s row)
theorem again_ok {h : House} (wf : WF h) {row : List Nat} (hr : ∀ q ∈ row, q < 4) : ∀ {m : Nat} {s : Sg}, s.ok h.length → (again h row m s).ok h.length
  | 0, s, ho => ho
  | m + 1, s, ho => again_ok wf hr (m := m) (sightAt_ok wf hr ho)
theorem again_succ (h : House) (row : List Nat) : ∀ (m : Nat) (s : Sg), again h row (m + 1) s = sightAt h (again h row m s) row
  | 0, s => rfl
  | m + 1, s => again_succ h row m (sightAt h s row)
theorem again_add (h : House) (row : List Nat) (a : Nat) : ∀ (b : Nat) (s : Sg), again h row (a + b) s = again h row a (again h row b s)
  | 0, s => rfl
  | b + 1, s => again_add h row a b (sightAt h s row)
theorem again_col (h : House) (row : List Nat) (x : Str) : ∀ m : Nat, again h row m (.col x) = .col x
  | 0 => rfl
  | m + 1 => by show again h row m (sightAt h (.col x) row) = _; rw [sightAt_col, again_col h row x m]
theorem again_whole {h : House} (wf : WF h) {row : List Nat} (hn : row ≠ []) (hr : ∀ q ∈ row, q < 4) {c : Str} : ∀ {k : Nat} {s : Sg}, s.ok h.length → whBy (wh h k) s = some c → again h row k s = .col c
  | 0, s, ho, e => by
    cases s with
    | col x => cases e; rfl
    | pan p t => cases e
  | k + 1, s, ho, e => again_whole wf hn hr (k := k) (sightAt_ok wf hr ho) (whBy_row1 wf hn hr ho e)
/-- the colour that is reached -/
def Reach (h : House) (row : List Nat) (s : Sg) (c : Str) : Prop := ∃ m, again h row m s = .col c
theorem Reach.unique {h : House} {row : List Nat} {s : Sg} {c d : Str} (a : Reach h row s c) (b : Reach h row s d) : c = d := by
  obtain ⟨m, e1⟩ := a
  obtain ⟨n, e2⟩ := b
  have f1 : again h row (n + m) s = .col c := by rw [again_add, e1, again_col]
  have f2 : again h row (m + n) s = .col d := by rw [again_add, e2, again_col]
  rw [Nat.add_comm, f2] at f1
  cases f1
  rfl
/-! ### marks -/
inductive MV where
  | inl (x : Str) | inr (n : Nat)
  deriving DecidableEq
def mv (wl : Nat → Option Str) (mk : Nat → Nat → Nat) : Sg → MV
  | .col x => .inl x
  | .pan p t => match wl p with
    | some c => .inl c
    | none => .inr (mk p t)
def sig (h : House) (wl : Nat → Option Str) (mk : Nat → Nat → Nat) (s : Sg) : List MV := (List.range 4).map fun q => mv wl mk (quar h s q)
/-- a pane that is no whole, seen under a turn -/
def Look (h : House) (wl : Nat → Option Str) (p t : Nat) : Prop := p < h.length ∧ t < 8 ∧ wl p = none
structure Good (h : House) (wl : Nat → Option Str) (mk : Nat → Nat → Nat) : Prop where
  fine : ∀ p t p' t', Look h wl p t → Look h wl p' t' → sig h wl mk (.pan p t) = sig h wl mk (.pan p' t') → mk p t = mk p' t'
  turn : ∀ p t p' t', Look h wl p t → Look h wl p' t' → mk p t = mk p' t' → ∀ d < 8, mk p (beh t d) = mk p' (beh t' d)
  coarse : ∀ mk2 : Nat → Nat → Nat, (∀ p t p' t', Look h wl p t → Look h wl p' t' → mk2 p t = mk2 p' t' → sig h wl mk2 (.pan p t) = sig h wl mk2 (.pan p' t')) → ∀ p t p' t', Look h wl p t → Look h wl p' t' → mk2 p t = mk2 p' t' → mk p t = mk p' t'
structure Next (h : House) (wl : Nat → Option Str) (mk mk' : Nat → Nat → Nat) : Prop where
  iff : ∀ p t p' t', Look h wl p t → Look h wl p' t' → (mk' p t = mk' p' t' ↔ sig h wl mk (.pan p t) = sig h wl mk (.pan p' t'))
section
variable {h : House} {wl : Nat → Option Str} {mk mk' : Nat → Nat → Nat}
theorem good0 : Good h wl fun _ _ => 0 := ⟨fun _ _ _ _ _ _ _ => rfl, fun _ _ _ _ _ _ _ _ _ => rfl, fun _ _ _ _ _ _ _ _ _ => rfl⟩
theorem mv_col (x : Str) : mv wl mk (.col x) = .inl x := rfl
theorem mv_whole {p t : Nat} {c : Str} (hw : wl p = some c) : mv wl mk (.pan p t) = .inl c := by simp only [mv, hw]
theorem mv_look {p t : Nat} (hw : wl p = none) : mv wl mk (.pan p t) = .inr (mk p t) := by simp only [mv, hw]
def Sg.mapT (f : Nat → Nat) : Sg → Sg
  | .col x => .col x
  | .pan p t => .pan p (f t)
theorem mv_map {f : Nat → Nat} (hf : ∀ p t p' t', Look h wl p t → Look h wl p' t' → mk p t = mk p' t' → mk' p (f t) = mk' p' (f t')) : ∀ {s s' : Sg}, s.ok h.length → s'.ok h.length → mv wl mk s = mv wl mk s' → mv wl mk' (s.mapT f) = mv wl mk' (s'.mapT f)
  | .col x, .col y, _, _, e => e
  | .col x, .pan p t, _, ho, e => by
    simp only [Sg.mapT]
    cases hw : wl p with
    | some c => rw [mv_whole hw] at e ⊢; exact e
    | none => rw [mv_look hw] at e; cases e
  | .pan p t, .col x, ho, _, e => by
    simp only [Sg.mapT]
    cases hw : wl p with
    | some c => rw [mv_whole hw] at e ⊢; exact e
    | none => rw [mv_look hw] at e; cases e
  | .pan p t, .pan p' t', ho, ho', e => by
    simp only [Sg.mapT]
    cases hw : wl p with
    | some c =>
      cases hw' : wl p' with
      | some c' => rw [mv_whole hw, mv_whole hw'] at e ⊢; exact e
      | none => rw [mv_whole hw, mv_look hw'] at e; cases e
    | none =>
      cases hw' : wl p' with
      | some c' => rw [mv_look hw, mv_whole hw'] at e; cases e
      | none =>
        rw [mv_look hw, mv_look hw'] at e ⊢
        exact congrArg MV.inr (hf p t p' t' ⟨ho.1, ho.2, hw⟩ ⟨ho'.1, ho'.2, hw'⟩ (MV.inr.inj e))
theorem mapT_turn (d : Nat) : ∀ s : Sg, s.mapT (fun t => beh t d) = s.turn d
  | .col _ => rfl
  | .pan _ _ => rfl
theorem mapT_id : ∀ s : Sg, s.mapT (fun t => t) = s
  | .col _ => rfl
  | .pan _ _ => rfl
theorem Good.mv_turn (g : Good h wl mk) {d : Nat} (hd : d < 8) {s s' : Sg} (ho : s.ok h.length) (ho' : s'.ok h.length) (e : mv wl mk s = mv wl mk s') : mv wl mk (s.turn d) = mv wl mk (s'.turn d) := by
  have := mv_map (f := fun t => beh t d) (mk' := mk) (fun p t p' t' l l' e => g.turn p t p' t' l l' e d hd) ho ho' e
  rwa [mapT_turn, mapT_turn] at this
theorem sig_at {s s' : Sg} (e : sig h wl mk s = sig h wl mk s') {q : Nat} (hq : q < 4) : mv wl mk (quar h s q) = mv wl mk (quar h s' q) :=
  List.map_inj_left.mp e q (List.mem_range.mpr hq)
theorem sig_of {s s' : Sg} (e : ∀ q < 4, mv wl mk (quar h s q) = mv wl mk (quar h s' q)) : sig h wl mk s = sig h wl mk s' :=
  List.map_inj_left.mpr fun q hq => e q (List.mem_range.mp hq)
theorem sig_turn (wf : WF h) (g : Good h wl mk) {d : Nat} (hd : d < 8) {s s' : Sg} (ho : s.ok h.length) (ho' : s'.ok h.length) (e : sig h wl mk s = sig h wl mk s') : sig h wl mk (s.turn d) = sig h wl mk (s'.turn d) :=
  sig_of fun q hq => by
    rw [quar_turn wf hd hq ho, quar_turn wf hd hq ho']
    exact g.mv_turn hd (quar_ok wf (shw_lt d hd q hq) ho) (quar_ok wf (shw_lt d hd q hq) ho') (sig_at e (shw_lt d hd q hq))
/-- finer marks tell at least as much -/
theorem mv_finer (fi : ∀ p t p' t', Look h wl p t → Look h wl p' t' → mk' p t = mk' p' t' → mk p t = mk p' t') {s s' : Sg} (ho : s.ok h.length) (ho' : s'.ok h.length) (e : mv wl mk' s = mv wl mk' s') : mv wl mk s = mv wl mk s' := by
  have := mv_map (f := fun t => t) (mk := mk') (mk' := mk) fi ho ho' e
  rwa [mapT_id, mapT_id] at this
theorem Next.finer (g : Good h wl mk) (n : Next h wl mk mk') : ∀ p t p' t', Look h wl p t → Look h wl p' t' → mk' p t = mk' p' t' → mk p t = mk p' t' :=
  fun p t p' t' l l' e => g.fine p t p' t' l l' ((n.iff p t p' t' l l').mp e)
theorem Next.good (wf : WF h) (g : Good h wl mk) (n : Next h wl mk mk') : Good h wl mk' := by
  refine ⟨fun p t p' t' l l' e => (n.iff p t p' t' l l').mpr (sig_of fun q hq => ?_), fun p t p' t' l l' e d hd => ?_, fun mk2 hc p t p' t' l l' e => (n.iff p t p' t' l l').mpr (sig_of fun q hq => ?_)⟩
  · exact mv_finer (n.finer g) (quar_ok wf hq ⟨l.1, l.2.1⟩) (quar_ok wf hq ⟨l'.1, l'.2.1⟩) (sig_at e hq)
  · refine (n.iff p (beh t d) p' (beh t' d) ⟨l.1, beh_lt l.2.1 hd, l.2.2⟩ ⟨l'.1, beh_lt l'.2.1 hd, l'.2.2⟩).mpr ?_
    exact sig_turn wf g hd (s := .pan p t) (s' := .pan p' t') ⟨l.1, l.2.1⟩ ⟨l'.1, l'.2.1⟩ ((n.iff p t p' t' l l').mp e)
  · exact mv_finer (g.coarse mk2 hc) (quar_ok wf hq ⟨l.1, l.2.1⟩) (quar_ok wf hq ⟨l'.1, l'.2.1⟩) (sig_at (hc p t p' t' l l' e) hq)
/-- marks that part no more -/
structure Fin (h : House) (wl : Nat → Option Str) (mk : Nat → Nat → Nat) : Prop where
  good : Good h wl mk
  cong : ∀ p t p' t', Look h wl p t → Look h wl p' t' → mk p t = mk p' t' → sig h wl mk (.pan p t) = sig h wl mk (.pan p' t')
theorem Next.fin (wf : WF h) (g : Good h wl mk) (n : Next h wl mk mk') (same : ∀ p t p' t', Look h wl p t → Look h wl p' t' → mk p t = mk p' t' → mk' p t = mk' p' t') : Fin h wl mk' :=
  ⟨n.good wf g, fun p t p' t' l l' e => sig_of fun q hq => mv_finer same (quar_ok wf hq ⟨l.1, l.2.1⟩) (quar_ok wf hq ⟨l'.1, l'.2.1⟩) (sig_at ((n.iff p t p' t' l l').mp e) hq)⟩
theorem fin_none (hn : ∀ p t, ¬ Look h wl p t) : Fin h wl mk := ⟨⟨fun p t _ _ l => absurd l (hn p t), fun p t _ _ l => absurd l (hn p t), fun _ _ p t _ _ l => absurd l (hn p t)⟩, fun p t _ _ l => absurd l (hn p t)⟩
end
/-- all marks that part no more say the same -/
theorem Fin.same {h : House} {wl : Nat → Option Str} {mk mk2 : Nat → Nat → Nat} (F : Fin h wl mk) (F2 : Fin h wl mk2) {s s' : Sg} (ho : s.ok h.length) (ho' : s'.ok h.length) (e : mv wl mk s = mv wl mk s') : mv wl mk2 s = mv wl mk2 s' :=
  mv_finer (F2.good.coarse mk F.cong) ho ho' e
/-- the wholes of the house -/
def wls (h : House) (p : Nat) : Option Str := wh h h.length p
section
variable {h : House} {mk : Nat → Nat → Nat}
theorem mv_inl {s : Sg} {c : Str} (e : mv (wls h) mk s = .inl c) : whBy (wls h) s = some c := by
  cases s with
  | col x => cases e; rfl
  | pan p t =>
    cases hw : wls h p with
    | some c' => rw [mv_whole hw] at e; cases e; exact hw
    | none => rw [mv_look hw] at e; cases e
theorem mv_of {s : Sg} {c : Str} (e : whBy (wls h) s = some c) : mv (wls h) mk s = .inl c := by
  cases s with
  | col x => cases e; rfl
  | pan p t => exact mv_whole e
/-- alike sights have alike quarters -/
theorem Fin.quar (wf : WF h) (F : Fin h (wls h) mk) {q : Nat} (hq : q < 4) {s s' : Sg} (ho : s.ok h.length) (ho' : s'.ok h.length) (e : mv (wls h) mk s = mv (wls h) mk s') : mv (wls h) mk (quar h s q) = mv (wls h) mk (quar h s' q) := by
  cases hm : mv (wls h) mk s with
  | inl c =>
    rw [mv_of (whBy_quar' wf hq ho (mv_inl hm)), mv_of (whBy_quar' wf hq ho' (mv_inl (e.symm.trans hm)))]
  | inr n =>
    have hm' := e.symm.trans hm
    cases s with
    | col x => cases hm
    | pan p t =>
      cases s' with
      | col x => cases hm'
      | pan p' t' =>
        cases hw : wls h p with
        | some c => rw [mv_whole hw] at hm; cases hm
        | none =>
          cases hw' : wls h p' with
          | some c => rw [mv_whole hw'] at hm'; cases hm'
          | none =>
            rw [mv_look hw] at hm
            rw [mv_look hw'] at hm'
            exact sig_at (F.cong p t p' t' ⟨ho.1, ho.2, hw⟩ ⟨ho'.1, ho'.2, hw'⟩ ((MV.inr.inj hm).trans (MV.inr.inj hm').symm)) hq
theorem Fin.row (wf : WF h) (F : Fin h (wls h) mk) : ∀ {row : List Nat} {s s' : Sg}, (∀ q ∈ row, q < 4) → s.ok h.length → s'.ok h.length → mv (wls h) mk s = mv (wls h) mk s' → mv (wls h) mk (sightAt h s row) = mv (wls h) mk (sightAt h s' row)
  | [], s, s', _, _, _, e => e
  | q :: row, s, s', hr, ho, ho', e => F.row wf (row := row) (fun x hx => hr x (List.mem_cons_of_mem _ hx)) (quar_ok wf (hr q List.mem_cons_self) ho) (quar_ok wf (hr q List.mem_cons_self) ho') (F.quar wf (hr q List.mem_cons_self) ho ho' e)
theorem Fin.again (wf : WF h) (F : Fin h (wls h) mk) {row : List Nat} (hr : ∀ q ∈ row, q < 4) : ∀ {m : Nat} {s s' : Sg}, s.ok h.length → s'.ok h.length → mv (wls h) mk s = mv (wls h) mk s' → mv (wls h) mk (again h row m s) = mv (wls h) mk (again h row m s')
  | 0, s, s', _, _, e => e
  | m + 1, s, s', ho, ho', e => F.again wf hr (m := m) (sightAt_ok wf hr ho) (sightAt_ok wf hr ho') (F.row wf hr ho ho' e)
theorem Fin.reach1 (wf : WF h) (F : Fin h (wls h) mk) {row : List Nat} (hn : row ≠ []) (hr : ∀ q ∈ row, q < 4) {s s' : Sg} {c : Str} (ho : s.ok h.length) (ho' : s'.ok h.length) (e : mv (wls h) mk s = mv (wls h) mk s') (r : Reach h row s c) : Reach h row s' c := by
  obtain ⟨m, hm⟩ := r
  have e1 := F.again wf hr (m := m) ho ho' e
  rw [hm] at e1
  have w : whBy (wls h) (Pg.again h row m s') = some c := mv_inl (e1.symm.trans rfl)
  have := again_whole wf hn hr (again_ok wf hr (m := m) ho') w
  rw [← again_add] at this
  exact ⟨_, this⟩
theorem Fin.reach (wf : WF h) (F : Fin h (wls h) mk) {row : List Nat} (hn : row ≠ []) (hr : ∀ q ∈ row, q < 4) {s s' : Sg} {c : Str} (ho : s.ok h.length) (ho' : s'.ok h.length) (e : mv (wls h) mk s = mv (wls h) mk s') : Reach h row s c ↔ Reach h row s' c :=
  ⟨F.reach1 wf hn hr ho ho' e, F.reach1 wf hn hr ho' ho e.symm⟩
end
end Pg
set_option Elab.async false
set_option linter.all false
set_option maxRecDepth 100000
set_option maxHeartbeats 1000000
/-! M3: wholes_of. -/
namespace Pg
open Z
open PySem (Str sizeLine)
open L2 (atI)
def optD : Option Str → D
  | none => .non
  | some c => .str c
def dec : D → Sg
  | .str x => .col x
  | .tup [.int p, .int t] => .pan p.toNat t.toNat
  | _ => default
@[simp] theorem dec_sgD : ∀ s : Sg, dec (sgD s) = s
  | .col _ => rfl
  | .pan _ _ => rfl
def rowOf : D → List Sg
  | .tup ds => ds.map dec
  | _ => []
@[simp] theorem rowOf_roD (r : List Sg) : rowOf (roD r) = r := by
  show (r.map sgD).map dec = r
  rw [List.map_map]
  exact (List.map_congr_left fun s _ => dec_sgD s).trans (List.map_id _)
@[simp] theorem opEq_opt (a b : Option Str) (S : Sto) : opEq (optD a) (optD b) S = .val (.bl (decide (a = b))) S := by
  cases a <;> cases b <;> simp [optD]
theorem f_one_of_n {l : List (Option Str)} (hn : l ≠ []) (hl : l.length ≤ 1000) (S : Sto) : f_one_of [.lst (l.map optD)] S = .val (optD (oneOf l)) S := by
  obtain ⟨x, r, rfl⟩ := List.exists_cons_of_ne_nil hn
  have h0 : opIx (.lst ((x :: r).map optD)) (.int 0) S = .val (optD x) S := opIx_lst (by rw [atI_0]; rfl)
  have hc := lc_map (f := iVal (eVar 0)) (own := [1]) (g := tName 1) (e := eOp opEq (eVar 1) (eOp opIx (eVar 0) (eC (.int 0)))) (ρ := [some (.lst ((x :: r).map optD)), none]) (S := S)
    (fun d => match d with | .str y => .bl (decide (some y = x)) | _ => .bl (decide (none = x))) (fun d => [some (.lst ((x :: r).map optD)), some d]) (iVal_n rfl rfl) (by rw [always_items, List.length_map]; omega) True.intro
    (fun d _ => by simp [wipeR]) (fun d hd => by
      obtain ⟨y, _, rfl⟩ := List.mem_map.mp hd
      have e : opEq (optD y) (optD x) S = .val (.bl (decide (y = x))) S := opEq_opt y x S
      simp only [eOp, eVar, eC, Out.bind, List.getElem?_cons_zero, List.getElem?_cons_succ, h0, e]
      cases y <;> rfl)
  rw [always_items] at hc
  have hm : ((x :: r).map optD).map (fun d => match d with | .str y => D.bl (decide (some y = x)) | _ => D.bl (decide (none = x))) = ((x :: r).map fun y => decide (y = x)).map D.bl := by
    rw [List.map_map, List.map_map]
    apply List.map_congr_left
    intro y _
    cases y <;> rfl
  rw [hm] at hc
  refine fn0_ret ?_
  have ht : bVal (eCall bAll (aCons (eFin finL (eComp (iVal (eVar 0)) [1] (tName 1) bYes (eOp opEq (eVar 1) (eOp opIx (eVar 0) (eC (.int 0)))))) aNil)) [some (.lst ((x :: r).map optD)), none] S = .val (((x :: r).map fun y => decide (y = x)).all id) S := by
    simp only [bVal, eCall, aCons, aNil, hc, Out.bind, bAll_lst, isBl]
  show eIf _ _ _ [some (.lst ((x :: r).map optD)), none] S = _
  rw [eIf, ht, bind_val]
  have ha : ((x :: r).map fun y => decide (y = x)).all id = r.all fun y => decide (y = x) := by simp
  rw [ha]
  by_cases c : (r.all fun y => decide (y = x)) = true
  · rw [if_pos c]
    have : oneOf (x :: r) = x := by simp only [oneOf]; rw [if_pos c]
    rw [this]
    simp only [eOp, eVar, eC, Out.bind, List.getElem?_cons_zero, h0]
  · rw [if_neg c]
    have : oneOf (x :: r) = none := by simp only [oneOf]; rw [if_neg c]
    rw [this]
    rfl
/-- wholes found in k steps -/
def whL (h : House) (k : Nat) : List D := (List.range h.length).map fun p => optD (wh h k p)
theorem whL_at {h : House} {k p : Nat} (hp : p < h.length) : atI (whL h k) (p : Int) = some (optD (wh h k p)) := by
  rw [atI_nat]
  unfold whL
  rw [List.getElem?_map, List.getElem?_range hp]
  rfl
theorem f_wholes_of_n {h : House} (wf : WF h) (hl : h.length ≤ 1000) (S : Sto) : f_wholes_of [hsD h] S = .val (.lst (whL h h.length)) S := by
  have c0 := lc_map (f := iVal (eVar 0)) (own := [3]) (g := tName 3) (e := eC .non) (ρ := [some (hsD h), none, none, none, none]) (S := S) (fun _ => .non) (fun d => [some (hsD h), none, none, some d, none]) (iVal_n rfl rfl) (by rw [always_items, List.length_map]; omega) True.intro
    (fun d _ => by simp [wipeR]) (fun d _ => rfl)
  have e0 : (List.map (fun _ => D.non) (h.map roD)) = whL h 0 := by
    unfold whL
    apply List.ext_getElem
    · simp
    · intro i h1 h2
      simp [wh, optD]
  rw [always_items, e0] at c0
  -- one more step
  have step : ∀ (k : Nat) (x y z : Option D) (S : Sto), eFin finL (eComp (iVal (eVar 0)) [3] (tName 3) bYes (eCall f_one_of (aCons (eFin finL (eComp (iVal (eVar 3)) [4] (tName 4) bYes (eIf (bVal (eIsi ["str"] (eVar 4))) (eVar 4) (eOp opIx (eVar 1) (eOp opIx (eVar 4) (eC (.int 0))))))) aNil))) [some (hsD h), some (.lst (whL h k)), x, y, z] S = .val (.lst (whL h (k + 1))) S := by
    intro k x y z S
    have inner : ∀ r ∈ h, eFin finL (eComp (iVal (eVar 3)) [4] (tName 4) bYes (eIf (bVal (eIsi ["str"] (eVar 4))) (eVar 4) (eOp opIx (eVar 1) (eOp opIx (eVar 4) (eC (.int 0)))))) [some (hsD h), some (.lst (whL h k)), x, some (roD r), z] S = .val (.lst ((r.map (whBy (wh h k))).map optD)) S := by
      intro r hr
      obtain ⟨hl4, hok⟩ := wf r hr
      have := lc_map (f := iVal (eVar 3)) (own := [4]) (g := tName 4) (e := eIf (bVal (eIsi ["str"] (eVar 4))) (eVar 4) (eOp opIx (eVar 1) (eOp opIx (eVar 4) (eC (.int 0))))) (ρ := [some (hsD h), some (.lst (whL h k)), x, some (roD r), z]) (S := S)
        (fun d => optD (whBy (wh h k) (dec d))) (fun d => [some (hsD h), some (.lst (whL h k)), x, some (roD r), some d]) (iVal_n rfl rfl) (by rw [always_items, List.length_map]; omega) True.intro (fun d _ => by simp [wipeR]) (fun d hd => by
          obtain ⟨s, hs, rfl⟩ := List.mem_map.mp hd
          rw [dec_sgD]
          cases s with
          | col c => simp [sgD_col, whBy, optD]
          | pan p t =>
            have hp := (hok _ hs).1
            simp [sgD_pan, whBy, opIx_lst (whL_at (k := k) hp)])
      rw [this, always_items, List.map_map, List.map_map]
      congr 2
      apply List.map_congr_left
      intro s _
      simp
    have := lc_map (f := iVal (eVar 0)) (own := [3]) (g := tName 3) (e := eCall f_one_of (aCons (eFin finL (eComp (iVal (eVar 3)) [4] (tName 4) bYes (eIf (bVal (eIsi ["str"] (eVar 4))) (eVar 4) (eOp opIx (eVar 1) (eOp opIx (eVar 4) (eC (.int 0))))))) aNil)) (ρ := [some (hsD h), some (.lst (whL h k)), x, y, z]) (S := S)
      (fun d => optD (oneOf ((rowOf d).map (whBy (wh h k))))) (fun d => [some (hsD h), some (.lst (whL h k)), x, some d, z]) (iVal_n rfl rfl) (by rw [always_items, List.length_map]; omega) True.intro (fun d _ => by simp [wipeR]) (fun d hd => by
        obtain ⟨r, hr, rfl⟩ := List.mem_map.mp hd
        have hl4 := (wf r hr).1
        have h1 := inner r hr
        have h2 := f_one_of_n (l := r.map (whBy (wh h k))) (by intro e; have := congrArg List.length e; simp at this; rw [this] at hl4; simp at hl4) (by rw [List.length_map]; omega) S
        simp only [eCall, aCons, aNil, h1, Out.bind, h2, rowOf_roD])
    rw [this, always_items]
    congr 2
    unfold whL
    apply List.ext_getElem
    · simp
    · intro i h1 h2
      simp at h1
      simp [wh, h1]
  obtain ⟨ρ', S', e, j⟩ := forL_all (ok := fun _ => True) (g := tName 2) (b := sAsg (eFin finL (eComp (iVal (eVar 0)) [3] (tName 3) bYes (eCall f_one_of (aCons (eFin finL (eComp (iVal (eVar 3)) [4] (tName 4) bYes (eIf (bVal (eIsi ["str"] (eVar 4))) (eVar 4) (eOp opIx (eVar 1) (eOp opIx (eVar 4) (eC (.int 0))))))) aNil)))) (tName 1)) (ds := h.map roD) (ρ := [some (hsD h), some (.lst (whL h 0)), none, none, none]) (S := S)
    (fun k ρ S' => S' = S ∧ ∃ x, ρ = [some (hsD h), some (.lst (whL h k)), x, none, none]) (fun _ _ _ _ => True.intro) ⟨rfl, none, rfl⟩ (by
      rintro k d ρ S' hd ⟨rfl, x, rfl⟩
      refine ⟨_, S', [some (hsD h), some (.lst (whL h (k + 1))), some d, none, none], S', rfl, .inl ?_, rfl, _, rfl⟩
      have := step k (some d) none none S'
      simp only [sAsg]
      rw [show (([some (hsD h), some (.lst (whL h k)), x, none, none] : Rho).set 2 (some d)) = [some (hsD h), some (.lst (whL h k)), some d, none, none] from rfl, this]
      rfl)
  obtain ⟨rfl, x, rfl⟩ := j
  rw [List.length_map] at e
  show fn0 4 b_wholes_of [hsD h] S' = _
  have e1 : (sAsg (eFin finL (eComp (iVal (eVar 0)) [3] (tName 3) bYes (eC .non))) (tName 1)) [some (hsD h), none, none, none, none] S' = .val (.nx [some (hsD h), some (.lst (whL h 0)), none, none, none]) S' := by
    simp only [sAsg]; rw [c0]; rfl
  have e2 : (sFor (iVal (eVar 0)) (tName 2) (sAsg (eFin finL (eComp (iVal (eVar 0)) [3] (tName 3) bYes (eCall f_one_of (aCons (eFin finL (eComp (iVal (eVar 3)) [4] (tName 4) bYes (eIf (bVal (eIsi ["str"] (eVar 4))) (eVar 4) (eOp opIx (eVar 1) (eOp opIx (eVar 4) (eC (.int 0))))))) aNil)))) (tName 1))) [some (hsD h), some (.lst (whL h 0)), none, none, none] S' = .val (.nx [some (hsD h), some (.lst (whL h h.length)), x, none, none]) S' := by
    simp only [sFor]
    rw [show iVal (eVar 0) [some (hsD h), some (.lst (whL h 0)), none, none, none] S' = .val (always (h.map roD)) S' from rfl, bind_val, always_ok, always_items, e]
  simp only [fn0, b_wholes_of, List.map_cons, List.map_nil, List.cons_append, List.nil_append, List.replicate]
  rw [sSeq, e1, bind_val]
  simp only
  rw [sSeq, e2, bind_val]
  rfl
end Pg
set_option Elab.async false
set_option linter.all false
set_option maxRecDepth 100000
set_option maxHeartbeats 1000000
/-! M4: dicts and gatherings, for plain use. -/
namespace Z
open PySem (Str sizeLine)
/-- a gathering whose parts write nothing, by what stays true -/
theorem compG_all {γ : Type} {ok : Sto → Prop} {g : D → Rho → M Rho} {t : Rho → M Bool} {b : Rho → γ → M γ} {ρ : Rho} {S : Sto} (hok : ok S) (ds0 : List D) (J : Nat → γ → Prop)
    (step : ∀ k d acc, ds0[k]? = some d → J k acc → ∃ ρ1, g d ρ S = .val ρ1 S ∧ ((t ρ1 S = .val false S ∧ J (k + 1) acc) ∨ (t ρ1 S = .val true S ∧ ∃ acc', b ρ1 acc S = .val acc' S ∧ J (k + 1) acc'))) :
    ∀ {ds : List D} {k : Nat} {acc : γ}, ds0.drop k = ds → J k acc → ∃ acc', compG ok g t b ρ ds acc S = .val acc' S ∧ J (k + ds.length) acc'
  | [], k, acc, hd, hJ => ⟨acc, by rw [compG_nil, guard_of hok], hJ⟩
  | d :: ds, k, acc, hd, hJ => by
    have hk : ds0[k]? = some d := by
      have : (ds0.drop k)[0]? = some d := by rw [hd]; rfl
      rw [List.getElem?_drop] at this
      exact this
    have hd' : ds0.drop (k + 1) = ds := by rw [← List.drop_drop, hd]; rfl
    obtain ⟨ρ1, e1, e2⟩ := step k d acc hk hJ
    rcases e2 with ⟨e2, j2⟩ | ⟨e2, acc1, e3, j2⟩
    · obtain ⟨acc', e4, j4⟩ := compG_all hok ds0 J step hd' j2
      refine ⟨acc', ?_, by rw [List.length_cons, Nat.add_comm ds.length 1, ← Nat.add_assoc]; exact j4⟩
      rw [compG_cons, guard_of hok]; simp [e1, e2, e4]
    · obtain ⟨acc', e4, j4⟩ := compG_all hok ds0 J step hd' j2
      refine ⟨acc', ?_, by rw [List.length_cons, Nat.add_comm ds.length 1, ← Nat.add_assoc]; exact j4⟩
      rw [compG_cons, guard_of hok]; simp [e1, e2, e3, e4]
theorem gath_all {γ β : Type} {f : Rho → M Src} {own : List Nat} {g : D → Rho → M Rho} {t : Rho → M Bool} {b : Rho → γ → M γ} {acc0 : γ} {fin : γ → M β} {ρ : Rho} {S S1 : Sto} {src : Src} (J : Nat → γ → Prop) (hf : f ρ S = .val src S1) (hl : src.items.length ≤ 1000000) (hok : src.ok S1) (h0 : J 0 acc0)
    (step : ∀ k d acc, src.items[k]? = some d → J k acc → ∃ ρ1, g d (wipeR ρ own) S1 = .val ρ1 S1 ∧ ((t ρ1 S1 = .val false S1 ∧ J (k + 1) acc) ∨ (t ρ1 S1 = .val true S1 ∧ ∃ acc', b ρ1 acc S1 = .val acc' S1 ∧ J (k + 1) acc'))) :
    ∃ acc', J src.items.length acc' ∧ eGath f own g t b acc0 fin ρ S = fin acc' S1 := by
  obtain ⟨acc', e, j⟩ := compG_all hok src.items J step (ds := src.items) (k := 0) rfl h0
  refine ⟨acc', by simpa using j, ?_⟩
  simp only [eGath, hf, Out.bind, if_pos (szL hl), e]
/-! ### keys -/
structure KeyF {β : Type} (f : β → D) : Prop where
  inj : ∀ a b, nkey (f a) = nkey (f b) → a = b
  key : ∀ a, isKey 8 (f a) = true
section
variable {β : Type} [DecidableEq β] {f : β → D} (kf : KeyF f)
include kf
theorem keyEq_f (a b : β) : keyEq (f a) (f b) = decide (a = b) := by
  unfold keyEq
  by_cases h : a = b
  · subst h; simp
  · rw [decide_eq_false (fun e => h (kf.inj a b e)), decide_eq_false h]
theorem dGet_f (v : β → D) (x : β) : ∀ l : List β, dGet (l.map f) (l.map v) (f x) = if x ∈ l then some (v x) else none
  | [] => by simp [dGet]
  | y :: l => by
    rw [List.map_cons, List.map_cons, dGet, keyEq_f kf]
    by_cases h : y = x
    · subst h; simp
    · have h' : ¬ x = y := fun e => h e.symm
      simp [h, h', dGet_f v x l]
theorem dGet_mem (v : β → D) {x : β} {l : List β} (h : x ∈ l) : dGet (l.map f) (l.map v) (f x) = some (v x) := by rw [dGet_f kf, if_pos h]
theorem dGet_not (v : β → D) {x : β} {l : List β} (h : x ∉ l) : dGet (l.map f) (l.map v) (f x) = none := by rw [dGet_f kf, if_neg h]
theorem dPut_new {x : β} {z : D} : ∀ {l : List β} {vs : List D}, x ∉ l → vs.length = l.length → dPut (l.map f) vs (f x) z = ((l ++ [x]).map f, vs ++ [z])
  | [], vs, _, hl => by
    cases vs with
    | nil => simp [dPut]
    | cons v vs => simp at hl
  | y :: l, vs, h, hl => by
    cases vs with
    | nil => simp at hl
    | cons v vs =>
      have hy : ¬ y = x := fun e => h (by rw [e]; exact List.mem_cons_self)
      rw [List.map_cons, dPut, keyEq_f kf, decide_eq_false hy]
      have ih := dPut_new (x := x) (z := z) (l := l) (vs := vs) (fun m => h (List.mem_cons_of_mem _ m)) (by simpa using hl)
      simp [ih]
end
end Z
set_option Elab.async false
set_option linter.all false
set_option maxRecDepth 100000
set_option maxHeartbeats 1000000
/-! M5: a Marks object, its looks, mark, many. -/
namespace Pg
open Z
open PySem (Str sizeLine)
open L2 (atI)
def looksK (h : House) : Nat → List (Nat × Nat)
  | 0 => []
  | k + 1 => looksK h k ++ if (wls h k).isNone = true then (List.range 8).map (fun t => (k, t)) else []
def looks (h : House) : List (Nat × Nat) := looksK h h.length
theorem mem_looksK {h : House} {p t : Nat} : ∀ {k : Nat}, (p, t) ∈ looksK h k ↔ p < k ∧ t < 8 ∧ wls h p = none
  | 0 => by simp [looksK]
  | k + 1 => by
    rw [looksK, List.mem_append, mem_looksK (k := k)]
    by_cases c : (wls h k).isNone = true
    · rw [if_pos c]
      simp only [List.mem_map, List.mem_range, Prod.mk.injEq]
      constructor
      · rintro (⟨h1, h2, h3⟩ | ⟨u, hu, rfl, rfl⟩)
        · exact ⟨by omega, h2, h3⟩
        · exact ⟨by omega, hu, Option.isNone_iff_eq_none.mp c⟩
      · rintro ⟨h1, h2, h3⟩
        by_cases e : p = k
        · exact .inr ⟨t, h2, e.symm, rfl⟩
        · exact .inl ⟨by omega, h2, h3⟩
    · rw [if_neg c]
      simp only [List.not_mem_nil, or_false]
      constructor
      · rintro ⟨h1, h2, h3⟩
        exact ⟨by omega, h2, h3⟩
      · rintro ⟨h1, h2, h3⟩
        refine ⟨?_, h2, h3⟩
        by_cases e : p = k
        · subst e; exact absurd (Option.isNone_iff_eq_none.mpr h3) c
        · omega
theorem mem_looks {h : House} {p t : Nat} : (p, t) ∈ looks h ↔ Look h (wls h) p t := mem_looksK
theorem nodup_looksK {h : House} : ∀ {k : Nat}, (looksK h k).Nodup
  | 0 => List.nodup_nil
  | k + 1 => by
    rw [looksK]
    by_cases c : (wls h k).isNone = true
    · rw [if_pos c, List.nodup_append]
      refine ⟨nodup_looksK, ?_, ?_⟩
      · refine List.Pairwise.map _ (fun a b hab e => hab (Prod.mk.inj e).2) List.nodup_range
      · rintro ⟨p, t⟩ hp b hb e
        obtain ⟨u, _, rfl⟩ := List.mem_map.mp hb
        have := (mem_looksK.mp hp).1
        cases e
        omega
    · rw [if_neg c, List.append_nil]
      exact nodup_looksK
theorem len_looksK (h : House) : ∀ k : Nat, (looksK h k).length ≤ 8 * k
  | 0 => Nat.le_refl _
  | k + 1 => by
    have := len_looksK h k
    rw [looksK, List.length_append]
    split
    · simp; omega
    · simp; omega
theorem len_looks (h : House) : (looks h).length ≤ 8 * h.length := len_looksK h _
def lkD (l : Nat × Nat) : D := sgD (.pan l.1 l.2)
def mvD : MV → D
  | .inl c => .str c
  | .inr n => .int (n : Int)
def sgnD (l : List MV) : D := .tup (l.map mvD)
theorem key_sg : KeyF sgD where
  inj := by
    intro a b e
    cases a with
    | col x => cases b with
      | col y => simp only [sgD, nkey, PySem.NestedKey.text.injEq] at e; rw [e]
      | pan p t => simp [sgD, nkey] at e
    | pan p t => cases b with
      | col y => simp [sgD, nkey] at e
      | pan p' t' =>
        simp only [sgD, nkey, List.map_cons, List.map_nil, PySem.NestedKey.tup.injEq, List.cons.injEq, PySem.NestedKey.num.injEq, and_true] at e
        rw [Int.ofNat_inj.mp e.1, Int.ofNat_inj.mp e.2]
  key := fun a => by cases a <;> simp [sgD, isKey]
theorem key_lk : KeyF lkD where
  inj := fun a b e => by
    have := key_sg.inj _ _ e
    cases a; cases b
    simp only [Sg.pan.injEq] at this
    exact Prod.ext this.1 this.2
  key := fun a => key_sg.key _
theorem mvk_inj : ∀ {a b : MV}, nkey (mvD a) = nkey (mvD b) → a = b
  | .inl x, .inl y, e => by simp only [mvD, nkey, PySem.NestedKey.text.injEq] at e; rw [e]
  | .inl x, .inr n, e => by simp [mvD, nkey] at e
  | .inr n, .inl x, e => by simp [mvD, nkey] at e
  | .inr n, .inr m, e => by simp only [mvD, nkey, PySem.NestedKey.num.injEq] at e; rw [Int.ofNat_inj.mp e]
theorem mvks_inj : ∀ {a b : List MV}, (a.map mvD).map nkey = (b.map mvD).map nkey → a = b
  | [], [], _ => rfl
  | [], _ :: _, e => by simp at e
  | _ :: _, [], e => by simp at e
  | x :: a, y :: b, e => by
    simp only [List.map_cons, List.cons.injEq] at e
    rw [mvk_inj e.1, mvks_inj e.2]
theorem key_sgn : KeyF sgnD where
  inj := fun a b e => by
    simp only [sgnD, nkey, PySem.NestedKey.tup.injEq] at e
    exact mvks_inj e
  key := fun a => by
    simp only [sgnD, isKey, List.all_eq_true]
    intro x hx
    obtain ⟨y, _, rfl⟩ := List.mem_map.mp hx
    cases y <;> simp [mvD, isKey]
/-! ### the object -/
def foD (h : House) (l : Nat × Nat) : D := .lst ((List.range 4).map fun q => sgD (quar h (.pan l.1 l.2) q))
def mkD (mk : Nat → Nat → Nat) (l : Nat × Nat) : D := .int (mk l.1 l.2 : Nat)
def mfs (h : House) (m : D) : List (Str × D) := [("own_house", hsD h), ("own_wholes", .lst (whL h h.length)), ("own_looks", .lst ((looks h).map lkD)), ("own_fours", .dic ((looks h).map lkD) ((looks h).map (foD h))), ("own_marks", m)]
structure MO (h : House) (mk : Nat → Nat → Nat) (S : Sto) (n : Nat) : Prop where
  ex : ∃ m, S[n]? = some (.ins "Marks" (mfs h m)) ∧ dictOf S m = some ((looks h).map lkD, (looks h).map (mkD mk))
theorem opFld_at {S : Sto} {n : Nat} {c f : Str} {fs : List (Str × D)} {d : D} (hs : S[n]? = some (.ins c fs)) (hf : fs.lookup f = some d) : opFld c f (.ref n) S = .val d S := by
  have : insOf c S (.ref n) = some fs := by simp [insOf, hs]
  simp only [opFld, this, hf]
theorem opIx_dict {S : Sto} {m k d : D} {ks vs : List D} (hm : dictOf S m = some (ks, vs)) (hk : isKey 8 k = true) (hd : dGet ks vs k = some d) : opIx m k S = .val d S := by
  cases m with
  | dic a b => cases hm; simp [opIx, seqL, dictOf, hk, hd]
  | ref n =>
    cases hs : S[n]? with
    | none => simp [dictOf, hs] at hm
    | some c =>
      cases c with
      | dic lk a b => simp [dictOf, hs] at hm; obtain ⟨rfl, rfl⟩ := hm; simp [opIx, seqL, dictOf, hs, hk, hd]
      | lst _ => simp [dictOf, hs] at hm
      | ins _ _ => simp [dictOf, hs] at hm
  | _ => cases hm
section
variable {h : House} {mk : Nat → Nat → Nat} {S : Sto} {n : Nat}
theorem fld_marks {m : D} {r : Rho} (hs : S[n]? = some (.ins "Marks" (mfs h m))) : eFld "Marks" "own_marks" (eVar 0) (some (.ref n) :: r) S = .val m S := by
  simp only [eFld, eVar, List.getElem?_cons_zero, Out.bind]
  exact opFld_at hs (by simp [mfs, List.lookup]; rfl)
theorem fld_wholes {m : D} {r : Rho} (hs : S[n]? = some (.ins "Marks" (mfs h m))) : eFld "Marks" "own_wholes" (eVar 0) (some (.ref n) :: r) S = .val (.lst (whL h h.length)) S := by
  simp only [eFld, eVar, List.getElem?_cons_zero, Out.bind]
  exact opFld_at hs rfl
theorem fld_looks {m : D} {r : Rho} (hs : S[n]? = some (.ins "Marks" (mfs h m))) : eFld "Marks" "own_looks" (eVar 0) (some (.ref n) :: r) S = .val (.lst ((looks h).map lkD)) S := by
  simp only [eFld, eVar, List.getElem?_cons_zero, Out.bind]
  exact opFld_at hs rfl
theorem fld_fours {m : D} {r : Rho} (hs : S[n]? = some (.ins "Marks" (mfs h m))) : eFld "Marks" "own_fours" (eVar 0) (some (.ref n) :: r) S = .val (.dic ((looks h).map lkD) ((looks h).map (foD h))) S := by
  simp only [eFld, eVar, List.getElem?_cons_zero, Out.bind]
  exact opFld_at hs rfl
theorem f_mark_n (mo : MO h mk S n) {s : Sg} (ho : s.ok h.length) : f_Marks_mark [.ref n, sgD s] S = .val (mvD (mv (wls h) mk s)) S := by
  obtain ⟨m, hs, hd⟩ := mo.ex
  cases s with
  | col x => simp [f_Marks_mark, b_Marks_mark, sgD_col, mv_col, mvD]
  | pan p t =>
    have e1 := fld_wholes (r := [some (sgD (.pan p t)), none]) hs
    have e2 : opIx (sgD (.pan p t)) (.int 0) S = .val (.int p) S := by rw [sgD_pan]; exact opIx_tup rfl
    have e3 : opIx (.lst (whL h h.length)) (.int p) S = .val (optD (wls h p)) S := opIx_lst (whL_at ho.1)
    have t1 : (sIf (bVal (eIsi ["str"] (eVar 1))) (sRet (eVar 1)) sSkip) [some (.ref n), some (sgD (.pan p t)), none] S = .val (.nx [some (.ref n), some (sgD (.pan p t)), none]) S := by simp [sgD_pan]
    have t2 : (sAsg (eOp opIx (eFld "Marks" "own_wholes" (eVar 0)) (eOp opIx (eVar 1) (eC (.int 0)))) (tName 2)) [some (.ref n), some (sgD (.pan p t)), none] S = .val (.nx [some (.ref n), some (sgD (.pan p t)), some (optD (wls h p))]) S := by
      simp only [sAsg, eOp, e1, Out.bind, eVar, eC, List.getElem?_cons_succ, List.getElem?_cons_zero, e2, e3, tName]
      rfl
    have t3 : (sRet (eIf (bVal (eOp opIs (eVar 2) (eC .non))) (eOp opIx (eFld "Marks" "own_marks" (eVar 0)) (eVar 1)) (eVar 2))) [some (.ref n), some (sgD (.pan p t)), some (optD (wls h p))] S = .val (.ret (mvD (mv (wls h) mk (.pan p t)))) S := by
      cases hw : wls h p with
      | some c =>
        rw [mv_whole hw]
        simp [optD, mvD]
      | none =>
        rw [mv_look hw]
        have e4 : eFld "Marks" "own_marks" (eVar 0) [some (.ref n), some (sgD (.pan p t)), some D.non] S = .val m S := fld_marks hs
        have hl : (p, t) ∈ looks h := mem_looks.mpr ⟨ho.1, ho.2, hw⟩
        have e5 : opIx m (sgD (.pan p t)) S = .val (.int (mk p t : Nat)) S := opIx_dict hd (key_sg.key _) (dGet_mem key_lk (mkD mk) (x := (p, t)) hl)
        simp only [sRet, eIf, bVal, eOp, eVar, eC, List.getElem?_cons_succ, List.getElem?_cons_zero, Out.bind, optD, opIs_non, isNon_non, isBl, if_pos]
        rw [e4]
        simp only [Out.bind, e5, mvD]
    show fn0 1 b_Marks_mark [.ref n, sgD (.pan p t)] S = _
    simp only [fn0, b_Marks_mark, List.map_cons, List.map_nil, List.cons_append, List.nil_append, List.replicate]
    rw [sSeq, t1, bind_val]
    simp only
    rw [sSeq, t2, bind_val]
    simp only
    rw [t3, bind_val]
end
end Pg
set_option Elab.async false
set_option linter.all false
set_option maxRecDepth 100000
set_option maxHeartbeats 1000000
/-! M6: many, parted_once, part_on, Marks(house). -/
namespace Pg
open Z
open PySem (Str sizeLine)
open L2 (atI)
/-! ### numbers, each once -/
def dst (l : List Nat) : List Nat := l.foldl (fun a x => if a.any (fun y => decide (y = x)) = true then a else a ++ [x]) []
theorem dst_snoc (l : List Nat) (x : Nat) : dst (l ++ [x]) = if (dst l).any (fun y => decide (y = x)) = true then dst l else dst l ++ [x] := by
  unfold dst
  rw [List.foldl_append]
  rfl
theorem any_eq {l : List Nat} {x : Nat} : l.any (fun y => decide (y = x)) = true ↔ x ∈ l := by
  rw [List.any_eq_true]
  exact ⟨fun ⟨y, h1, h2⟩ => of_decide_eq_true h2 ▸ h1, fun h => ⟨x, h, decide_eq_true rfl⟩⟩
theorem snoc_ind {β : Type} {P : List β → Prop} (h0 : P []) (h1 : ∀ l x, P l → P (l ++ [x])) (l : List β) : P l := by
  have : ∀ l : List β, P l.reverse := fun l => by
    induction l with
    | nil => exact h0
    | cons x l ih => rw [List.reverse_cons]; exact h1 _ _ ih
  have := this l.reverse
  rwa [List.reverse_reverse] at this
theorem mem_dst (l : List Nat) : ∀ x, x ∈ dst l ↔ x ∈ l := by
  refine snoc_ind (P := fun l => ∀ x, x ∈ dst l ↔ x ∈ l) (fun x => by simp [dst]) (fun l y ih x => ?_) l
  rw [dst_snoc]
  by_cases c : (dst l).any (fun z => decide (z = y)) = true
  · rw [if_pos c, ih, List.mem_append, List.mem_singleton]
    constructor
    · exact .inl
    · rintro (h | h)
      · exact h
      · subst h; exact (ih _).mp (any_eq.mp c)
  · rw [if_neg c, List.mem_append, List.mem_append, ih]
theorem nodup_dst (l : List Nat) : (dst l).Nodup := by
  refine snoc_ind (P := fun l => (dst l).Nodup) List.nodup_nil (fun l y ih => ?_) l
  rw [dst_snoc]
  by_cases c : (dst l).any (fun z => decide (z = y)) = true
  · rw [if_pos c]; exact ih
  · rw [if_neg c, List.nodup_append]
    refine ⟨ih, by simp, fun a ha b hb e => ?_⟩
    rw [List.mem_singleton] at hb
    subst hb; subst e
    exact c (any_eq.mpr ha)
theorem len_dst (l : List Nat) : (dst l).length ≤ l.length := by
  refine snoc_ind (P := fun l => (dst l).length ≤ l.length) (Nat.le_refl _) (fun l y ih => ?_) l
  rw [dst_snoc, List.length_append]
  split
  · simp; omega
  · rw [List.length_append]; simp; omega
/-- no more than its hull -/
theorem nodup_len {β : Type} [DecidableEq β] : ∀ {a b : List β}, a.Nodup → (∀ x ∈ a, x ∈ b) → a.length ≤ b.length
  | [], b, _, _ => Nat.zero_le _
  | x :: a, b, hn, hs => by
    rw [List.nodup_cons] at hn
    have hx := hs x List.mem_cons_self
    have := nodup_len (a := a) (b := b.erase x) hn.2 fun y hy => (List.mem_erase_of_ne (fun e => hn.1 (by rw [← e]; exact hy))).mpr (hs y (List.mem_cons_of_mem _ hy))
    rw [List.length_erase_of_mem hx] at this
    have := List.length_pos_of_mem hx
    rw [List.length_cons]
    omega
/-- where a finer numbering has no more numbers, it is the same -/
theorem same_of_cnt {β : Type} {l : List β} {f g : β → Nat} (fine : ∀ x ∈ l, ∀ y ∈ l, g x = g y → f x = f y) (hc : (dst (l.map g)).length ≤ (dst (l.map f)).length) : ∀ x ∈ l, ∀ y ∈ l, f x = f y → g x = g y := by
  intro x hx y hy e
  refine Classical.byContradiction fun ne => ?_
  -- take away the number of y
  have h1 : ∀ z ∈ dst (l.map f), z ∈ ((dst (l.map g)).erase (g y)).map fun n => match l.find? (fun u => decide (g u = n)) with | some u => f u | none => 0 := by
    intro z hz
    obtain ⟨u, hu, rfl⟩ := List.mem_map.mp ((mem_dst _ _).mp hz)
    have key : ∀ v ∈ l, g v ≠ g y → f v ∈ ((dst (l.map g)).erase (g y)).map fun n => match l.find? (fun u => decide (g u = n)) with | some u => f u | none => 0 := by
      intro v hv hvy
      refine List.mem_map.mpr ⟨g v, (List.mem_erase_of_ne hvy).mpr ((mem_dst _ _).mpr (List.mem_map.mpr ⟨v, hv, rfl⟩)), ?_⟩
      cases hf : l.find? (fun u => decide (g u = g v)) with
      | none => exact absurd (decide_eq_true rfl) (List.find?_eq_none.mp hf v hv)
      | some w =>
        have hw := List.find?_some hf
        have hwl := List.mem_of_find?_eq_some hf
        simp only
        exact fine w hwl v hv (of_decide_eq_true hw)
    by_cases c : g u = g y
    · have e2 : f u = f x := (fine u hu y hy c).trans e.symm
      rw [e2]
      exact key x hx ne
    · exact key u hu c
  have h2 := nodup_len (nodup_dst (l.map f)) h1
  rw [List.length_map, List.length_erase_of_mem ((mem_dst _ _).mpr (List.mem_map.mpr ⟨y, hy, rfl⟩))] at h2
  have h3 : 0 < (dst (l.map g)).length := List.length_pos_of_mem ((mem_dst _ _).mpr (List.mem_map.mpr ⟨y, hy, rfl⟩))
  omega
/-! ### many -/
def cnt (h : House) (mk : Nat → Nat → Nat) : Nat := (dst ((looks h).map fun l => mk l.1 l.2)).length
section
variable {h : House} {mk : Nat → Nat → Nat} {S : Sto} {n : Nat}
theorem f_many_n (hl : h.length ≤ 400) (mo : MO h mk S n) : f_Marks_many [.ref n] S = .val (.int (cnt h mk : Nat)) S := by
  obtain ⟨m, hs, hd⟩ := mo.ex
  have hL := len_looks h
  obtain ⟨acc, j, e⟩ := gath_all (f := iVal (eFld "Marks" "own_looks" (eVar 0))) (own := [1]) (g := tName 1) (t := bYes) (b := bSet (eOp opIx (eFld "Marks" "own_marks" (eVar 0)) (eVar 1))) (acc0 := []) (fin := finK) (ρ := [some (.ref n), none]) (S := S)
    (fun k acc => acc = (dst (((looks h).take k).map fun l => mk l.1 l.2)).map fun (x : Nat) => (Sum.inl (x : Int) : L2.Key)) (iVal_n (fld_looks hs) rfl) (by rw [always_items, List.length_map]; omega) True.intro rfl (by
      rintro k d acc hk rfl
      rw [always_items, List.getElem?_map] at hk
      obtain ⟨l, hl', rfl⟩ := Option.map_eq_some_iff.mp hk
      have hmem := List.mem_of_getElem? hl'
      refine ⟨[some (.ref n), some (lkD l)], rfl, .inr ⟨rfl, _, ?_, rfl⟩⟩
      have e1 := fld_marks (r := [some (lkD l)]) hs
      have e2 : opIx m (lkD l) S = .val (.int (mk l.1 l.2 : Nat)) S := opIx_dict hd (key_lk.key _) (dGet_mem key_lk (mkD mk) hmem)
      have e3 : (looks h).take (k + 1) = (looks h).take k ++ [l] := by rw [List.take_succ, hl']; rfl
      have hb : ((dst (((looks h).take k).map fun l => mk l.1 l.2)).map fun (x : Nat) => (Sum.inl (x : Int) : L2.Key)).length + 1 < PySem.scanBound := by
        rw [List.length_map]
        have h1 := len_dst (((looks h).take k).map fun l => mk l.1 l.2)
        rw [List.length_map, List.length_take] at h1
        show _ < 4096
        omega
      simp only [bSet, eOp, e1, Out.bind, eVar, List.getElem?_cons_succ, List.getElem?_cons_zero, e2, keyOf]
      rw [if_pos hb, e3, List.map_append, List.map_cons, List.map_nil, dst_snoc]
      have ha : ((dst (((looks h).take k).map fun l => mk l.1 l.2)).map fun (x : Nat) => (Sum.inl (x : Int) : L2.Key)).any (fun j => decide (j = Sum.inl ((mk l.1 l.2 : Nat) : Int))) = (dst (((looks h).take k).map fun l => mk l.1 l.2)).any fun y => decide (y = mk l.1 l.2) := by
        rw [List.any_map]
        congr 1
        funext y
        simp
        omega
      rw [ha]
      split
      · rfl
      · rw [List.map_append]; rfl)
  rw [always_items, List.length_map, List.take_length] at j
  show fn0 1 b_Marks_many [.ref n] S = _
  refine fn0_ret ?_
  show eLenK _ [some (.ref n), none] S = _
  rw [eLenK, e]
  simp only [finK, Out.bind]
  rw [j, List.length_map]
  rfl
/-! ### parted_once -/
def Ext (m : Nat) (S S' : Sto) : Prop := S.length ≤ S'.length ∧ ∀ i < m, S'[i]? = S[i]?
theorem Ext.refl {m : Nat} {S : Sto} : Ext m S S := ⟨Nat.le_refl _, fun _ _ => rfl⟩
theorem Ext.trans {m : Nat} {S S' S'' : Sto} (a : Ext m S S') (b : Ext m S' S'') : Ext m S S'' := ⟨Nat.le_trans a.1 b.1, fun i hi => (b.2 i hi).trans (a.2 i hi)⟩
theorem Ext.less {m k : Nat} {S S' : Sto} (a : Ext m S S') (hk : k ≤ m) : Ext k S S' := ⟨a.1, fun i hi => a.2 i (Nat.lt_of_lt_of_le hi hk)⟩
theorem ext_app {S T : Sto} : Ext S.length S (S ++ T) := ⟨by simp, fun i hi => by rw [List.getElem?_append_left hi]⟩
theorem dictOf_ext {S S' : Sto} {m : D} {p : List D × List D} (e : Ext S.length S S') (hd : dictOf S m = some p) : dictOf S' m = some p := by
  cases m with
  | ref n =>
    cases hs : S[n]? with
    | none => simp [dictOf, hs] at hd
    | some c =>
      have hn := (List.getElem?_eq_some_iff.mp hs).1
      simp only [dictOf, hs] at hd
      simp only [dictOf, e.2 n hn, hs]
      exact hd
  | _ => exact hd
theorem MO.ext {S' : Sto} (mo : MO h mk S n) (e : Ext S.length S S') : MO h mk S' n := by
  obtain ⟨m, hs, hd⟩ := mo.ex
  exact ⟨m, (e.2 n (List.getElem?_eq_some_iff.mp hs).1).trans hs, dictOf_ext e hd⟩
theorem two0 (S : Sto) (a b : Cel) : (S ++ [a, b])[S.length]? = some a := by simp
theorem two1 (S : Sto) (a b : Cel) : (S ++ [a, b])[S.length + 1]? = some b := by simp
theorem set0 (S : Sto) (a b a' : Cel) : (S ++ [a, b]).set S.length a' = S ++ [a', b] := by simp [List.set_append]
theorem set1 (S : Sto) (a b b' : Cel) : (S ++ [a, b]).set (S.length + 1) b' = S ++ [a, b'] := by simp [List.set_append]
theorem ins_at (mo : MO h mk S n) : ∃ m, insOf "Marks" S (.ref n) = some (mfs h m) := by
  obtain ⟨m, hs, _⟩ := mo.ex
  exact ⟨m, by simp [insOf, hs]⟩
def sg (h : House) (mk : Nat → Nat → Nat) (l : Nat × Nat) : List MV := sig h (wls h) mk (.pan l.1 l.2)
/-- the signs of a look -/
theorem signs_n (wf : WF h) (mo : MO h mk S n) {l : Nat × Nat} (hl : l ∈ looks h) {a b c : Option D} : eFin finL (eComp (iVal (eOp opIx (eFld "Marks" "own_fours" (eVar 0)) (eVar 1))) [5] (tName 5) bYes (eMeth "Marks" "mark" f_Marks_mark (eVar 0) (aCons (eVar 5) aNil))) [some (.ref n), some (lkD l), a, b, c, none] S = .val (.lst ((sg h mk l).map mvD)) S := by
  obtain ⟨m, hs, hd⟩ := mo.ex
  have hok : (Sg.pan l.1 l.2).ok h.length := by
    have := mem_looks.mp (show (l.1, l.2) ∈ looks h from hl)
    exact ⟨this.1, this.2.1⟩
  have e1 := fld_fours (r := [some (lkD l), a, b, c, none]) hs
  have e2 : opIx (.dic ((looks h).map lkD) ((looks h).map (foD h))) (lkD l) S = .val (foD h l) S := opIx_dict rfl (key_lk.key _) (dGet_mem key_lk (foD h) hl)
  have ef : iVal (eOp opIx (eFld "Marks" "own_fours" (eVar 0)) (eVar 1)) [some (.ref n), some (lkD l), a, b, c, none] S = .val (always ((List.range 4).map fun q => sgD (quar h (.pan l.1 l.2) q))) S := by
    refine iVal_n (d := foD h l) (S' := S) ?_ rfl
    simp only [eOp, e1, Out.bind, eVar, List.getElem?_cons_succ, List.getElem?_cons_zero, e2]
  have := lc_map (own := [5]) (g := tName 5) (e := eMeth "Marks" "mark" f_Marks_mark (eVar 0) (aCons (eVar 5) aNil)) (fun d => mvD (mv (wls h) mk (dec d))) (fun d => [some (.ref n), some (lkD l), a, b, c, some d]) ef (by simp) True.intro (fun d _ => by simp [wipeR]) (fun d hd => by
    rw [always_items] at hd
    obtain ⟨q, hq, rfl⟩ := List.mem_map.mp hd
    have e3 := f_mark_n mo (quar_ok wf (List.mem_range.mp hq) hok)
    have e4 : insOf "Marks" S (.ref n) = some (mfs h m) := by simp [insOf, hs]
    have e5 : (mfs h m).lookup ("mark" : Str) = none := rfl
    rw [dec_sgD]
    simp only [eMeth, eVar, List.getElem?_cons_zero, List.getElem?_cons_succ, Out.bind, e4, e5, if_true, aCons, aNil, e3])
  rw [this, always_items, List.map_map]
  congr 2
  unfold sg sig
  rw [List.map_map]
  apply List.map_congr_left
  intro q _
  simp
theorem f_parted_n (wf : WF h) (hl : h.length ≤ 400) (mo : MO h mk S n) : ∃ mk' S', f_Marks_parted_once [.ref n] S = .val (.ref (S.length + 1)) S' ∧ Ext S.length S S' ∧ dictOf S' (.ref (S.length + 1)) = some ((looks h).map lkD, (looks h).map (mkD mk')) ∧ Next h (wls h) mk mk' := by
  have hL := len_looks h
  obtain ⟨m0, hs0, hd0⟩ := mo.ex
  obtain ⟨ρ', S', e, j⟩ := forL_all (ok := fun _ => True) (g := tName 1) (b := sSeq (sAsg (eCall bTuple (aCons (eFin finL (eComp (iVal (eOp opIx (eFld "Marks" "own_fours" (eVar 0)) (eVar 1))) [5] (tName 5) bYes (eMeth "Marks" "mark" f_Marks_mark (eVar 0) (aCons (eVar 5) aNil)))) aNil)) (tName 4))
      (sAsg (eMth isDc mSetd (eVar 2) (aCons (eVar 4) (aCons (eCall bLen (aCons (eVar 2) aNil)) aNil))) (tSub (eVar 3) (eVar 1)))) (ds := (looks h).map lkD) (ρ := [some (.ref n), none, some (.ref S.length), some (.ref (S.length + 1)), none, none]) (S := S ++ [.dic false [] [], .dic false [] []])
    (fun k ρ S' => ∃ (ns : List (List MV)) (a b : Option D), ns.Nodup ∧ (∀ l ∈ (looks h).take k, sg h mk l ∈ ns) ∧ ns.length ≤ k ∧ ρ = [some (.ref n), a, some (.ref S.length), some (.ref (S.length + 1)), b, none] ∧
      S' = S ++ [.dic false (ns.map sgnD) (ns.map fun x => D.int (ns.idxOf x : Nat)), .dic false (((looks h).take k).map lkD) (((looks h).take k).map fun l => D.int (ns.idxOf (sg h mk l) : Nat))]) (fun _ _ _ _ => True.intro)
    ⟨[], none, none, List.nodup_nil, fun l hl => by simp at hl, Nat.le_refl _, rfl, by simp⟩ (by
      rintro k d ρ S' hk ⟨ns, a, b, hnd, hin, hle, rfl, rfl⟩
      rw [List.getElem?_map] at hk
      obtain ⟨l, hl', rfl⟩ := Option.map_eq_some_iff.mp hk
      have hmem := List.mem_of_getElem? hl'
      have hkl := (List.getElem?_eq_some_iff.mp hl').1
      have e3 : (looks h).take (k + 1) = (looks h).take k ++ [l] := by rw [List.take_succ, hl']; rfl
      generalize hS1 : S ++ [Cel.dic false (ns.map sgnD) (ns.map fun x => D.int (ns.idxOf x : Nat)), Cel.dic false (((looks h).take k).map lkD) (((looks h).take k).map fun l => D.int (ns.idxOf (sg h mk l) : Nat))] = S1
      have ex1 : Ext S.length S S1 := by rw [← hS1]; exact ext_app
      have mo1 := mo.ext ex1
      have a1 := signs_n wf mo1 hmem (a := some (.ref S.length)) (b := some (.ref (S.length + 1))) (c := b)
      have t1 : (sAsg (eCall bTuple (aCons (eFin finL (eComp (iVal (eOp opIx (eFld "Marks" "own_fours" (eVar 0)) (eVar 1))) [5] (tName 5) bYes (eMeth "Marks" "mark" f_Marks_mark (eVar 0) (aCons (eVar 5) aNil)))) aNil)) (tName 4)) [some (.ref n), some (lkD l), some (.ref S.length), some (.ref (S.length + 1)), b, none] S1 = .val (.nx [some (.ref n), some (lkD l), some (.ref S.length), some (.ref (S.length + 1)), some (sgnD (sg h mk l)), none]) S1 := by
        simp only [sAsg, eCall, aCons, aNil, a1, Out.bind, bTuple_lst, tName]
        rfl
      have g0 : S1[S.length]? = some (.dic false (ns.map sgnD) (ns.map fun x => D.int (ns.idxOf x : Nat))) := by rw [← hS1]; exact two0 _ _ _
      have g1 : S1[S.length + 1]? = some (.dic false (((looks h).take k).map lkD) (((looks h).take k).map fun l => D.int (ns.idxOf (sg h mk l) : Nat))) := by rw [← hS1]; exact two1 _ _ _
      have isd : isDc S1 (.ref S.length) = true := by simp [isDc, dictOf, g0]
      have ln : bLen [.ref S.length] S1 = .val (.int (ns.length : Nat)) S1 := by simp [bLen, lenD, seqA, seqL, dictOf, g0]
      have hz : ns.length < sizeLine := by have := PySem.sizeLine_eq; omega
      -- the number
      have num : ∃ ns' : List (List MV), ns'.Nodup ∧ (∀ x ∈ ns, x ∈ ns') ∧ sg h mk l ∈ ns' ∧ ns'.length ≤ k + 1 ∧ (∀ x ∈ ns, ns'.idxOf x = ns.idxOf x) ∧
          mSetd (.ref S.length) [sgnD (sg h mk l), .int (ns.length : Nat)] S1 = .val (.int (ns'.idxOf (sg h mk l) : Nat)) (S ++ [.dic false (ns'.map sgnD) (ns'.map fun x => D.int (ns'.idxOf x : Nat)), .dic false (((looks h).take k).map lkD) (((looks h).take k).map fun l => D.int (ns.idxOf (sg h mk l) : Nat))]) := by
        by_cases c : sg h mk l ∈ ns
        · refine ⟨ns, hnd, fun x hx => hx, c, Nat.le_succ_of_le hle, fun _ _ => rfl, ?_⟩
          simp only [mSetd, g0]
          rw [if_pos ⟨key_sgn.key _, by rw [List.length_map]; exact hz⟩, dGet_mem key_sgn (fun x => D.int (ns.idxOf x : Nat)) c, hS1]
        · refine ⟨ns ++ [sg h mk l], ?_, fun x hx => List.mem_append_left _ hx, List.mem_append_right _ (List.mem_singleton.mpr rfl), by rw [List.length_append]; simp; omega, fun x hx => by rw [List.idxOf_append, if_pos hx], ?_⟩
          · rw [List.nodup_append]
            refine ⟨hnd, by simp, fun x hx y hy e => ?_⟩
            rw [List.mem_singleton] at hy
            subst hy; subst e
            exact c hx
          · simp only [mSetd, g0]
            rw [if_pos ⟨key_sgn.key _, by rw [List.length_map]; exact hz⟩, dGet_not key_sgn (fun x => D.int (ns.idxOf x : Nat)) c, dPut_new key_sgn c (by simp)]
            have e5 : (ns ++ [sg h mk l]).idxOf (sg h mk l) = ns.length := by rw [List.idxOf_append, if_neg c]; simp
            rw [e5]
            simp only
            have em : (ns.map fun x => D.int (ns.idxOf x : Nat)) = ns.map fun x => D.int ((ns ++ [sg h mk l]).idxOf x : Nat) := List.map_congr_left fun x hx => by rw [List.idxOf_append, if_pos hx]
            rw [← hS1, set0, em, List.map_append, List.map_append, List.map_cons, List.map_nil, List.map_cons, List.map_nil, e5]
      obtain ⟨ns', n1, n2, n3, n4, n5, n6⟩ := num
      refine ⟨_, S1, [some (.ref n), some (lkD l), some (.ref S.length), some (.ref (S.length + 1)), some (sgnD (sg h mk l)), none], _, rfl, .inl ?_, ns', some (lkD l), some (sgnD (sg h mk l)), n1, ?_, n4, rfl, rfl⟩
      · show sSeq _ _ [some (.ref n), some (lkD l), some (.ref S.length), some (.ref (S.length + 1)), b, none] S1 = _
        rw [sSeq, t1, bind_val]
        simp only
        have hnotin : l ∉ (looks h).take k := by
          intro hm
          obtain ⟨i, hi, hil⟩ := List.mem_iff_getElem.mp hm
          rw [List.length_take] at hi
          rw [List.getElem_take] at hil
          have h1 : (looks h)[i]? = some l := by rw [List.getElem?_eq_getElem (by omega), hil]
          have h2 : (looks h)[i]? = (looks h)[k]? := h1.trans hl'.symm
          have := (List.getElem?_inj (show i < (looks h).length by omega) (show (looks h).Nodup from nodup_looksK)).mp h2
          omega
        have hst : opSet (.ref (S.length + 1)) (lkD l) (.int (ns'.idxOf (sg h mk l) : Nat)) (S ++ [.dic false (ns'.map sgnD) (ns'.map fun x => D.int (ns'.idxOf x : Nat)), .dic false (((looks h).take k).map lkD) (((looks h).take k).map fun l => D.int (ns.idxOf (sg h mk l) : Nat))]) =
            .val () (S ++ [.dic false (ns'.map sgnD) (ns'.map fun x => D.int (ns'.idxOf x : Nat)), .dic false (((looks h).take (k + 1)).map lkD) (((looks h).take (k + 1)).map fun l => D.int (ns'.idxOf (sg h mk l) : Nat))]) := by
          simp only [opSet, two1]
          have hz2 : (((looks h).take k).map lkD).length < sizeLine := by rw [List.length_map, List.length_take]; have := PySem.sizeLine_eq; omega
          rw [if_pos ⟨key_lk.key _, hz2⟩, dPut_new key_lk hnotin (by simp), set1]
          simp only
          have em : (((looks h).take k).map fun l => D.int (ns.idxOf (sg h mk l) : Nat)) = ((looks h).take k).map fun l => D.int (ns'.idxOf (sg h mk l) : Nat) := List.map_congr_left fun l' hl2 => by rw [n5 _ (hin l' hl2)]
          rw [e3, List.map_append, List.map_append, List.map_cons, List.map_nil, List.map_cons, List.map_nil, em]
        simp only [sAsg, eMth, eVar, List.getElem?_cons_succ, List.getElem?_cons_zero, Out.bind, isd, if_true, aCons, aNil, eCall, ln, n6, tSub, hst]
      · intro l' hl2
        rw [e3, List.mem_append, List.mem_singleton] at hl2
        rcases hl2 with q | q
        · exact n2 _ (hin l' q)
        · subst q; exact n3)
  obtain ⟨ns, a, b, hnd, hin, hle, rfl, rfl⟩ := j
  rw [List.length_map, List.take_length] at e hin
  refine ⟨fun p t => ns.idxOf (sg h mk (p, t)), S ++ [.dic false (ns.map sgnD) (ns.map fun x => D.int (ns.idxOf x : Nat)), .dic false ((looks h).map lkD) ((looks h).map fun l => D.int (ns.idxOf (sg h mk l) : Nat))], ?_, ext_app, ?_, ⟨fun p t p' t' l l' => ?_⟩⟩
  · have b1 : (sPar2 2 3 (aCons eDcC (aCons eDcC aNil))) [some (.ref n), none, none, none, none, none] S = .val (.nx [some (.ref n), none, some (.ref S.length), some (.ref (S.length + 1)), none, none]) (S ++ [.dic false [] [], .dic false [] []]) := by simp
    have ex1 : Ext S.length S (S ++ [.dic false [] [], .dic false [] []]) := ext_app
    have b2 : iVal (eFld "Marks" "own_looks" (eVar 0)) [some (.ref n), none, some (.ref S.length), some (.ref (S.length + 1)), none, none] (S ++ [.dic false [] [], .dic false [] []]) = .val (always ((looks h).map lkD)) (S ++ [.dic false [] [], .dic false [] []]) :=
      iVal_n (fld_looks ((ex1.2 n (List.getElem?_eq_some_iff.mp hs0).1).trans hs0)) rfl
    show fn0 5 b_Marks_parted_once [.ref n] S = _
    simp only [fn0, b_Marks_parted_once, List.map_cons, List.map_nil, List.cons_append, List.nil_append, List.replicate]
    rw [sSeq, b1, bind_val]
    simp only
    rw [sSeq, sFor, b2, bind_val, always_ok, always_items, e, bind_val]
    rfl
  · simp only [dictOf, two1, List.take_length]
    rfl
  · have h1 := hin (p, t) (mem_looks.mpr l)
    have h2 := hin (p', t') (mem_looks.mpr l')
    constructor
    · intro e2
      have := congrArg (fun i => ns[i]?) e2
      simp only [List.getElem?_eq_getElem (List.idxOf_lt_length_of_mem h1), List.getElem?_eq_getElem (List.idxOf_lt_length_of_mem h2), List.getElem_idxOf, Option.some.injEq] at this
      exact this
    · intro e2
      show ns.idxOf (sg h mk (p, t)) = ns.idxOf (sg h mk (p', t'))
      rw [show sg h mk (p, t) = sg h mk (p', t') from e2]
/-! ### part_on -/
theorem mfs_put (m m' : D) : fPut "own_marks" m' (mfs h m) = mfs h m' := by
  have n1 : ¬ ("own_house" : Str) = "own_marks" := by decide
  have n2 : ¬ ("own_wholes" : Str) = "own_marks" := by decide
  have n3 : ¬ ("own_looks" : Str) = "own_marks" := by decide
  have n4 : ¬ ("own_fours" : Str) = "own_marks" := by decide
  simp only [mfs, fPut, if_neg n1, if_neg n2, if_neg n3, if_neg n4, if_true]
theorem cnt_le : cnt h mk ≤ (looks h).length := by
  unfold cnt
  have := len_dst ((looks h).map fun l => mk l.1 l.2)
  rwa [List.length_map] at this
theorem fin_of {mk' : Nat → Nat → Nat} (wf : WF h) (g : Good h (wls h) mk) (nx : Next h (wls h) mk mk') (hc : cnt h mk' ≤ cnt h mk) : Fin h (wls h) mk' := by
  refine nx.fin wf g fun p t p' t' l l' e => ?_
  have := same_of_cnt (l := looks h) (f := fun l => mk l.1 l.2) (g := fun l => mk' l.1 l.2) (fun x hx y hy e => nx.finer g x.1 x.2 y.1 y.2 (mem_looks.mp hx) (mem_looks.mp hy) e) hc (p, t) (mem_looks.mpr l) (p', t') (mem_looks.mpr l') e
  exact this
noncomputable def tOn : Rho → M Bool := bVal (eOp opLt (eVar 1) (eMeth "Marks" "many" f_Marks_many (eVar 0) aNil))
noncomputable def bOn : Rho → M Fl := sSeq (sAsg (eMeth "Marks" "many" f_Marks_many (eVar 0) aNil) (tName 1)) (sFldZ "Marks" "own_marks" (eVar 0) (eMeth "Marks" "parted_once" f_Marks_parted_once (eVar 0) aNil))
theorem on_loop (wf : WF h) (hl : h.length ≤ 400) : ∀ (f A : Nat) (mk : Nat → Nat → Nat) (S : Sto), (looks h).length - A < f → MO h mk S n → Good h (wls h) mk → (A = 0 ∨ ∃ mk0, Good h (wls h) mk0 ∧ Next h (wls h) mk0 mk ∧ A = cnt h mk0) →
    ∃ ρ' S' mk', sWhile tOn bOn [some (.ref n), some (.int (A : Nat))] S = .val (.nx ρ') S' ∧ MO h mk' S' n ∧ Fin h (wls h) mk' ∧ Ext n S S'
  | 0, A, mk, S, hf, _, _, _ => absurd hf (Nat.not_lt_zero _)
  | f + 1, A, mk, S, hf, mo, g, hA => by
    obtain ⟨m, hs⟩ := ins_at mo
    have em : ∀ r : Rho, eMeth "Marks" "many" f_Marks_many (eVar 0) aNil (some (.ref n) :: r) S = .val (.int (cnt h mk : Nat)) S := fun r => by
      simp only [eMeth, eVar, List.getElem?_cons_zero, Out.bind, hs, aNil, f_many_n hl mo]
      rw [if_pos (show (mfs h m).lookup ("many" : Str) = none from rfl)]
    have et : tOn [some (.ref n), some (.int (A : Nat))] S = .val (decide (A < cnt h mk)) S := by
      simp only [tOn, bVal, eOp, eVar, List.getElem?_cons_succ, List.getElem?_cons_zero, Out.bind, em, opLt_int, isBl]
      congr 1
      simp
    rw [sWhile_eq, et, bind_val]
    by_cases c : A < cnt h mk
    · rw [if_pos (decide_eq_true c)]
      obtain ⟨mk', S1, e1, x1, d1, nx⟩ := f_parted_n wf hl mo
      obtain ⟨m0, hs0, _⟩ := mo.ex
      have hn := (List.getElem?_eq_some_iff.mp hs0).1
      have hs1 : S1[n]? = some (.ins "Marks" (mfs h m0)) := (x1.2 n hn).trans hs0
      have hn1 : n < S1.length := (List.getElem?_eq_some_iff.mp hs1).1
      have ep : eMeth "Marks" "parted_once" f_Marks_parted_once (eVar 0) aNil [some (.ref n), some (.int (cnt h mk : Nat))] S = .val (.ref (S.length + 1)) S1 := by
        simp only [eMeth, eVar, List.getElem?_cons_zero, Out.bind, hs, aNil, e1]
        rw [if_pos (show (mfs h m).lookup ("parted_once" : Str) = none from rfl)]
      have e2 : opFldSet "Marks" "own_marks" (.ref n) (.ref (S.length + 1)) S1 = .val () (S1.set n (.ins "Marks" (mfs h (.ref (S.length + 1))))) := by
        simp only [opFldSet, hs1]
        rw [if_pos ⟨trivial, by simp [mfs]⟩, mfs_put]
      have eb : bOn [some (.ref n), some (.int (A : Nat))] S = .val (.nx [some (.ref n), some (.int (cnt h mk : Nat))]) (S1.set n (.ins "Marks" (mfs h (.ref (S.length + 1))))) := by
        have a1 : (sAsg (eMeth "Marks" "many" f_Marks_many (eVar 0) aNil) (tName 1)) [some (.ref n), some (.int (A : Nat))] S = .val (.nx [some (.ref n), some (.int (cnt h mk : Nat))]) S := by
          simp only [sAsg, em, Out.bind, tName]
          rfl
        rw [bOn, sSeq, a1, bind_val]
        simp only
        rw [sFldZ, ep, bind_val]
        simp only [eVar, List.getElem?_cons_zero, Out.bind, e2]
      rw [eb, bind_val, onTurn]
      have ne : n ≠ S.length + 1 := by omega
      have mo' : MO h mk' (S1.set n (.ins "Marks" (mfs h (.ref (S.length + 1))))) n := by
        refine ⟨.ref (S.length + 1), by rw [List.getElem?_set_self hn1], ?_⟩
        rw [← d1]
        simp only [dictOf, List.getElem?_set_ne ne]
      obtain ⟨ρ', S', mk'', h1, h2, h3, h4⟩ := on_loop wf hl f (cnt h mk) mk' _ (by have := cnt_le (h := h) (mk := mk); omega) mo' (nx.good wf g) (.inr ⟨mk, g, nx, rfl⟩)
      refine ⟨ρ', S', mk'', h1, h2, h3, Ext.trans (S' := S1) (x1.less (Nat.le_of_lt hn)) (Ext.trans (S' := S1.set n (.ins "Marks" (mfs h (.ref (S.length + 1))))) ⟨by rw [List.length_set]; exact Nat.le_refl _, fun i hi => by rw [List.getElem?_set_ne (by omega)]⟩ h4)⟩
    · rw [if_neg (by simp [c])]
      refine ⟨_, S, mk, rfl, mo, ?_, Ext.refl⟩
      rcases hA with h0 | ⟨mk0, g0, nx, hA⟩
      · refine fin_none fun p t l => ?_
        have hm := mem_looks.mpr l
        have : 0 < cnt h mk := List.length_pos_of_mem ((mem_dst _ _).mpr (List.mem_map.mpr ⟨(p, t), hm, rfl⟩))
        omega
      · exact fin_of wf g0 nx (by omega)
theorem f_part_on_n (wf : WF h) (hl : h.length ≤ 400) (mo : MO h (fun _ _ => 0) S n) : ∃ S' mk', f_Marks_part_on [.ref n] S = .val .non S' ∧ MO h mk' S' n ∧ Fin h (wls h) mk' ∧ Ext n S S' := by
  obtain ⟨ρ', S', mk', h1, h2, h3, h4⟩ := on_loop wf hl ((looks h).length + 1) 0 _ S (by omega) mo good0 (.inl rfl)
  refine ⟨S', mk', ?_, h2, h3, h4⟩
  show fn0 1 b_Marks_part_on [.ref n] S = _
  have a1 : (sAsg (eC (.int 0)) (tName 1)) [some (.ref n), none] S = .val (.nx [some (.ref n), some (.int ((0 : Nat) : Int))]) S := rfl
  simp only [fn0, b_Marks_part_on, List.map_cons, List.map_nil, List.cons_append, List.nil_append, List.replicate]
  rw [sSeq, a1, bind_val]
  simp only
  rw [show (sWhile (bVal (eOp opLt (eVar 1) (eMeth "Marks" "many" f_Marks_many (eVar 0) aNil))) (sSeq (sAsg (eMeth "Marks" "many" f_Marks_many (eVar 0) aNil) (tName 1)) (sFldZ "Marks" "own_marks" (eVar 0) (eMeth "Marks" "parted_once" f_Marks_parted_once (eVar 0) aNil)))) = sWhile tOn bOn from rfl, h1, bind_val]
end
end Pg
set_option Elab.async false
set_option linter.all false
set_option maxRecDepth 100000
set_option maxHeartbeats 1000000
/-! M7: Marks(house), alike, whole_of, turns. -/
namespace Pg
open Z
open PySem (Str sizeLine)
open L2 (atI)
section
variable {h : House} {S : Sto} {n : Nat}
theorem fset {fs : List (Str × D)} {f : Str} {d : D} (hs : S[n]? = some (.ins "Marks" fs)) (hl : fs.length < 1000) : opFldSet "Marks" f (.ref n) d S = .val () (S.set n (.ins "Marks" (fPut f d fs))) := by
  simp only [opFldSet, hs]
  rw [if_pos ⟨trivial, hl⟩]
/-- the looks are told -/
theorem looks_n (hl : h.length ≤ 400) {ρ : Rho} {a0 a1 a2 a3 a4 a5 : Option D} (hρ : ρ = [a0, a1, a2, a3, a4, a5]) (hw : eFld "Marks" "own_wholes" (eVar 0) ρ S = .val (.lst (whL h h.length)) S) :
    eGath (iEnum (aCons (eFld "Marks" "own_wholes" (eVar 0)) aNil)) [4, 5, 2] (tTupZ 2 (tsCons (tName 4) (tsCons (tName 5) tsNil))) (bVal (eOp opIs (eVar 5) (eC .non))) (bIn (iRng1 (aCons (eCall bLen (aCons (eC c_SHOWN) aNil)) aNil)) [2] (tName 2) bYes (eTup (aCons (eVar 4) (aCons (eVar 2) aNil)))) [] finL ρ S = .val (.lst ((looks h).map lkD)) S := by
  have hf : iEnum (aCons (eFld "Marks" "own_wholes" (eVar 0)) aNil) ρ S = .val ⟨enums (whL h h.length), fun _ => True⟩ S := by
    simp only [iEnum, aCons, aNil, hw, Out.bind, srcEnum, lstSrc_lst]
    rfl
  have hlen : (enums (whL h h.length)).length = h.length := by simp [enums, whL]
  obtain ⟨acc, j, e⟩ := gath_all (own := [4, 5, 2]) (g := tTupZ 2 (tsCons (tName 4) (tsCons (tName 5) tsNil))) (t := bVal (eOp opIs (eVar 5) (eC .non))) (b := bIn (iRng1 (aCons (eCall bLen (aCons (eC c_SHOWN) aNil)) aNil)) [2] (tName 2) bYes (eTup (aCons (eVar 4) (aCons (eVar 2) aNil)))) (acc0 := []) (fin := finL)
    (fun k acc => acc = (looksK h k).map lkD) hf (by rw [hlen]; omega) True.intro rfl (by
      rintro k d acc hk rfl
      have hkn : k < h.length := by rw [← hlen]; exact (List.getElem?_eq_some_iff.mp hk).1
      have hd : d = .tup [.int (k : Nat), optD (wls h k)] := by
        have hk : (enums (whL h h.length))[k]? = some d := hk
        unfold enums whL at hk
        rw [List.getElem?_map, List.getElem?_zipIdx, List.getElem?_map, List.getElem?_range hkn] at hk
        simp at hk
        rw [← hk]
        rfl
      subst hd
      subst hρ
      refine ⟨[a0, a1, none, a3, some (.int (k : Nat)), some (optD (wls h k))], by simp [wipeR], ?_⟩
      cases hwk : wls h k with
      | some c =>
        left
        refine ⟨by simp [optD], ?_⟩
        rw [looksK, hwk]
        simp
      | none =>
        right
        refine ⟨by simp [optD], ?_⟩
        have h8 : iRng1 (aCons (eCall bLen (aCons (eC c_SHOWN) aNil)) aNil) [a0, a1, none, a3, some (.int (k : Nat)), some (optD none)] S = .val (always (rangeD 8)) S := rng1_n (n := 8) rfl (by omega)
        have hL := len_looksK h k
        obtain ⟨acc', e1, j1⟩ := compG_all (ok := fun _ => True) (g := tName 2) (t := bYes) (b := bLst (eTup (aCons (eVar 4) (aCons (eVar 2) aNil)))) (ρ := wipeR [a0, a1, none, a3, some (.int (k : Nat)), some (optD none)] [2]) (S := S) True.intro (rangeD 8)
          (fun j acc' => acc' = (looksK h k).map lkD ++ (List.range j).map fun t => lkD (k, t)) (by
            rintro j d acc' hj rfl
            have hj8 : j < 8 := by have := (List.getElem?_eq_some_iff.mp hj).1; simpa using this
            have hd : d = .int (j : Nat) := by
              unfold rangeD at hj
              rw [List.getElem?_map, List.getElem?_range hj8] at hj
              simpa using hj.symm
            subst hd
            refine ⟨[a0, a1, some (.int (j : Nat)), a3, some (.int (k : Nat)), some (optD none)], by simp [wipeR], .inr ⟨rfl, _, ?_, rfl⟩⟩
            have hz : ((looksK h k).map lkD ++ (List.range j).map fun t => lkD (k, t)).length < sizeLine := by
              rw [List.length_append, List.length_map, List.length_map, List.length_range]
              have := PySem.sizeLine_eq
              omega
            simp only [bLst, eTup, aCons, aNil, eVar, List.getElem?_cons_succ, List.getElem?_cons_zero, Out.bind]
            rw [if_pos hz, List.range_succ, List.map_append, List.append_assoc]
            rfl) (ds := rangeD 8) (k := 0) (acc := (looksK h k).map lkD) rfl (by simp)
        refine ⟨acc', ?_, ?_⟩
        · rw [bIn, h8, bind_val, always_ok, always_items]
          exact e1
        · rw [j1, looksK, hwk, List.map_append]
          simp)
  rw [e]
  have j : acc = (looksK h (enums (whL h h.length)).length).map lkD := j
  rw [hlen] at j
  rw [j]
  rfl
/-- a dict over the looks -/
theorem lookdict_n (hl : h.length ≤ 400) {ρ : Rho} {r : Rho} {fv : Rho → M D} {v : Nat × Nat → D} (hf : iVal (eFld "Marks" "own_looks" (eVar 0)) ρ S = .val (always ((looks h).map lkD)) S) (hρ : ∀ d : D, tName 3 d (wipeR ρ [3]) S = .val ((wipeR ρ [3]).set 3 (some d)) S) (h3 : 3 < ρ.length) (hv : ∀ l ∈ looks h, fv ((wipeR ρ [3]).set 3 (some (lkD l))) S = .val (v l) S) :
    eGath (iVal (eFld "Marks" "own_looks" (eVar 0))) [3] (tName 3) bYes (bDic (eVar 3) fv) ([], []) finD ρ S = .val (.dic ((looks h).map lkD) ((looks h).map v)) S := by
  have hL := len_looks h
  obtain ⟨acc, j, e⟩ := gath_all (own := [3]) (g := tName 3) (t := bYes) (b := bDic (eVar 3) fv) (acc0 := ([], [])) (fin := finD)
    (fun k acc => acc = (((looks h).take k).map lkD, ((looks h).take k).map v)) hf (by rw [always_items, List.length_map]; omega) True.intro (by simp) (by
      rintro k d acc hk rfl
      rw [always_items, List.getElem?_map] at hk
      obtain ⟨l, hl', rfl⟩ := Option.map_eq_some_iff.mp hk
      have hmem := List.mem_of_getElem? hl'
      have hkl := (List.getElem?_eq_some_iff.mp hl').1
      have e3 : (looks h).take (k + 1) = (looks h).take k ++ [l] := by rw [List.take_succ, hl']; rfl
      refine ⟨_, hρ _, .inr ⟨rfl, _, ?_, rfl⟩⟩
      have hnotin : l ∉ (looks h).take k := by
        intro hm
        obtain ⟨i, hi, hil⟩ := List.mem_iff_getElem.mp hm
        rw [List.length_take] at hi
        rw [List.getElem_take] at hil
        have h1 : (looks h)[i]? = some l := by rw [List.getElem?_eq_getElem (by omega), hil]
        have h2 : (looks h)[i]? = (looks h)[k]? := h1.trans hl'.symm
        have := (List.getElem?_inj (show i < (looks h).length by omega) (show (looks h).Nodup from nodup_looksK)).mp h2
        omega
      have ek : eVar 3 ((wipeR ρ [3]).set 3 (some (lkD l))) S = .val (lkD l) S := by
        simp only [eVar, wipeR]
        rw [List.getElem?_set_self (by simpa using h3)]
      have hz : (((looks h).take k).map lkD).length < sizeLine := by rw [List.length_map, List.length_take]; have := PySem.sizeLine_eq; omega
      simp only [bDic, ek, Out.bind, hv l hmem]
      rw [if_pos ⟨key_lk.key _, hz⟩, dPut_new key_lk hnotin (by simp), e3, List.map_append, List.map_append]
      rfl)
  rw [e]
  have j : acc = (((looks h).take ((looks h).map lkD).length).map lkD, ((looks h).take ((looks h).map lkD).length).map v) := j
  rw [List.length_map, List.take_length] at j
  rw [j]
  rfl
theorem f_init_n (wf : WF h) (hl : h.length ≤ 400) (hs : S[n]? = some (.ins "Marks" [])) : ∃ S' mk', f_Marks_init [.ref n, hsD h] S = .val .non S' ∧ MO h mk' S' n ∧ Fin h (wls h) mk' ∧ Ext n S S' := by
  have hn := (List.getElem?_eq_some_iff.mp hs).1
  let fs1 : List (Str × D) := [("own_house", hsD h)]
  let fs2 : List (Str × D) := [("own_house", hsD h), ("own_wholes", .lst (whL h h.length))]
  let fs3 : List (Str × D) := [("own_house", hsD h), ("own_wholes", .lst (whL h h.length)), ("own_looks", .lst ((looks h).map lkD))]
  let fs4 : List (Str × D) := [("own_house", hsD h), ("own_wholes", .lst (whL h h.length)), ("own_looks", .lst ((looks h).map lkD)), ("own_fours", .dic ((looks h).map lkD) ((looks h).map (foD h)))]
  let dm : D := .dic ((looks h).map lkD) ((looks h).map (mkD fun _ _ => 0))
  have at_ : ∀ c : Cel, (S.set n c)[n]? = some c := fun c => List.getElem?_set_self hn
  have ss : ∀ a b : Cel, (S.set n a).set n b = S.set n b := fun a b => List.set_set ..
  let ρ0 : Rho := [some (.ref n), some (hsD h), none, none, none, none]
  have f1 : (sFldZ "Marks" "own_house" (eVar 0) (eVar 1)) ρ0 S = .val (.nx ρ0) (S.set n (.ins "Marks" fs1)) := by
    have := fset (f := "own_house") (d := hsD h) hs (by simp)
    simp only [sFldZ, ρ0, eVar, List.getElem?_cons_succ, List.getElem?_cons_zero, Out.bind, this]
    rfl
  have f2 : (sFldZ "Marks" "own_wholes" (eVar 0) (eCall f_wholes_of (aCons (eVar 1) aNil))) ρ0 (S.set n (.ins "Marks" fs1)) = .val (.nx ρ0) (S.set n (.ins "Marks" fs2)) := by
    have := fset (f := "own_wholes") (d := .lst (whL h h.length)) (at_ (.ins "Marks" fs1)) (by simp [fs1])
    rw [ss] at this
    simp only [sFldZ, ρ0, eCall, aCons, aNil, eVar, List.getElem?_cons_succ, List.getElem?_cons_zero, Out.bind, f_wholes_of_n wf (by omega : h.length ≤ 1000), this]
    rfl
  have f3 : (sFldZ "Marks" "own_looks" (eVar 0) (eGath (iEnum (aCons (eFld "Marks" "own_wholes" (eVar 0)) aNil)) [4, 5, 2] (tTupZ 2 (tsCons (tName 4) (tsCons (tName 5) tsNil))) (bVal (eOp opIs (eVar 5) (eC .non))) (bIn (iRng1 (aCons (eCall bLen (aCons (eC c_SHOWN) aNil)) aNil)) [2] (tName 2) bYes (eTup (aCons (eVar 4) (aCons (eVar 2) aNil)))) [] finL)) ρ0 (S.set n (.ins "Marks" fs2)) = .val (.nx ρ0) (S.set n (.ins "Marks" fs3)) := by
    have := fset (f := "own_looks") (d := .lst ((looks h).map lkD)) (at_ (.ins "Marks" fs2)) (by simp [fs2])
    rw [ss] at this
    have hw : eFld "Marks" "own_wholes" (eVar 0) ρ0 (S.set n (.ins "Marks" fs2)) = .val (.lst (whL h h.length)) (S.set n (.ins "Marks" fs2)) := by
      simp only [eFld, ρ0, eVar, List.getElem?_cons_zero, Out.bind]
      exact opFld_at (at_ _) rfl
    rw [sFldZ, looks_n hl rfl hw, bind_val]
    simp only [ρ0, eVar, List.getElem?_cons_zero, Out.bind, this]
    rfl
  have lk : ∀ fs : List (Str × D), fs.lookup ("own_looks" : Str) = some (.lst ((looks h).map lkD)) → iVal (eFld "Marks" "own_looks" (eVar 0)) ρ0 (S.set n (.ins "Marks" fs)) = .val (always ((looks h).map lkD)) (S.set n (.ins "Marks" fs)) := fun fs hfs => by
    refine iVal_n (d := .lst ((looks h).map lkD)) ?_ rfl
    simp only [eFld, ρ0, eVar, List.getElem?_cons_zero, Out.bind]
    exact opFld_at (at_ _) hfs
  have f4 : (sFldZ "Marks" "own_fours" (eVar 0) (eGath (iVal (eFld "Marks" "own_looks" (eVar 0))) [3] (tName 3) bYes (bDic (eVar 3) (eCall f_quarters_of (aCons (eVar 1) (aCons (eVar 3) aNil)))) ([], []) finD)) ρ0 (S.set n (.ins "Marks" fs3)) = .val (.nx ρ0) (S.set n (.ins "Marks" fs4)) := by
    have := fset (f := "own_fours") (d := .dic ((looks h).map lkD) ((looks h).map (foD h))) (at_ (.ins "Marks" fs3)) (by simp [fs3])
    rw [ss] at this
    have := lookdict_n (r := []) (S := S.set n (.ins "Marks" fs3)) (ρ := ρ0) (fv := eCall f_quarters_of (aCons (eVar 1) (aCons (eVar 3) aNil))) (v := foD h) hl (lk fs3 rfl) (fun d => rfl) (by simp [ρ0]) (fun l hml => by
      have hm := mem_looks.mp (show (l.1, l.2) ∈ looks h from hml)
      have hok : (Sg.pan l.1 l.2).ok h.length := ⟨hm.1, hm.2.1⟩
      have e := f_quarters_of_n wf hok (S.set n (.ins "Marks" fs3))
      simp only [ρ0, wipeR, List.set, eCall, aCons, aNil, eVar, List.getElem?_cons_succ, List.getElem?_cons_zero, Out.bind]
      exact e)
    rw [sFldZ, this, bind_val]
    simp only [ρ0, eVar, List.getElem?_cons_zero, Out.bind, *]
    rfl
  have f5 : (sFldZ "Marks" "own_marks" (eVar 0) (eGath (iVal (eFld "Marks" "own_looks" (eVar 0))) [3] (tName 3) bYes (bDic (eVar 3) (eC (.int 0))) ([], []) finD)) ρ0 (S.set n (.ins "Marks" fs4)) = .val (.nx ρ0) (S.set n (.ins "Marks" (mfs h dm))) := by
    have t := fset (f := "own_marks") (d := dm) (at_ (.ins "Marks" fs4)) (by simp [fs4])
    rw [ss] at t
    have := lookdict_n (r := []) (S := S.set n (.ins "Marks" fs4)) (ρ := ρ0) (fv := eC (.int 0)) (v := mkD fun _ _ => 0) hl (lk fs4 rfl) (fun d => rfl) (by simp [ρ0]) (fun l hml => rfl)
    rw [sFldZ, this, bind_val]
    simp only [ρ0, eVar, List.getElem?_cons_zero, Out.bind]
    rw [t]
    rfl
  have mo : MO h (fun _ _ => 0) (S.set n (.ins "Marks" (mfs h dm))) n := ⟨dm, at_ _, rfl⟩
  obtain ⟨S', mk', e6, m6, F6, x6⟩ := f_part_on_n wf hl mo
  refine ⟨S', mk', ?_, m6, F6, Ext.trans (S' := S.set n (.ins "Marks" (mfs h dm))) ⟨by rw [List.length_set]; exact Nat.le_refl _, fun i hi => by rw [List.getElem?_set_ne (by omega)]⟩ x6⟩
  have f6 : (sDrop (eMeth "Marks" "part_on" f_Marks_part_on (eVar 0) aNil)) ρ0 (S.set n (.ins "Marks" (mfs h dm))) = .val (.nx ρ0) S' := by
    have hi : insOf "Marks" (S.set n (.ins "Marks" (mfs h dm))) (.ref n) = some (mfs h dm) := by simp [insOf, at_]
    simp only [sDrop, eMeth, ρ0, eVar, List.getElem?_cons_zero, Out.bind, hi, aNil, e6]
    rw [if_pos (show (mfs h dm).lookup ("part_on" : Str) = none from rfl)]
  show fn0 4 b_Marks_init [.ref n, hsD h] S = _
  simp only [fn0, b_Marks_init, List.map_cons, List.map_nil, List.cons_append, List.nil_append, List.replicate]
  have q := f1
  simp only [ρ0] at f1 f2 f3 f4 f5 f6
  rw [sSeq, f1, bind_val]
  simp only
  rw [sSeq, f2, bind_val]
  simp only
  rw [sSeq, f3, bind_val]
  simp only
  rw [sSeq, f4, bind_val]
  simp only
  rw [sSeq, f5, bind_val]
  simp only
  rw [f6, bind_val]
/-- Marks(house) -/
theorem make_n (wf : WF h) (hl : h.length ≤ 400) {ρ : Rho} {g : Rho → M (List D)} (hg : g ρ S = .val [hsD h] S) : ∃ S' mk', eMake "Marks" f_Marks_init g ρ S = .val (.ref S.length) S' ∧ MO h mk' S' S.length ∧ Fin h (wls h) mk' ∧ Ext S.length S S' := by
  have hs : (S ++ [Cel.ins "Marks" []])[S.length]? = some (.ins "Marks" []) := by simp
  obtain ⟨S', mk', e, mo, F, x⟩ := f_init_n wf hl hs
  refine ⟨S', mk', ?_, mo, F, Ext.trans (S' := S ++ [Cel.ins "Marks" []]) ext_app x⟩
  simp only [eMake, hg, Out.bind, e, isNon_non, if_true]
end
end Pg
set_option Elab.async false
set_option linter.all false
set_option maxRecDepth 100000
set_option maxHeartbeats 1000000
/-! M8: alike, whole_of, turns_between, row_seen, colour_at. -/
namespace Pg
open Z
open PySem (Str sizeLine)
open L2 (atI)
section
variable {h : House} {S : Sto} {n : Nat} {mk : Nat → Nat → Nat}
theorem opEq_mv (a b : MV) : opEq (mvD a) (mvD b) S = .val (.bl (decide (a = b))) S := by
  cases a <;> cases b <;> simp [mvD]
  omega
theorem meth_mark (mo : MO h mk S n) {s : Sg} (ho : s.ok h.length) {fo : Rho → M D} {g : Rho → M (List D)} {ρ : Rho} (hf : fo ρ S = .val (.ref n) S) (hg : g ρ S = .val [sgD s] S) : eMeth "Marks" "mark" f_Marks_mark fo g ρ S = .val (mvD (mv (wls h) mk s)) S := by
  obtain ⟨m, hi⟩ := ins_at mo
  simp only [eMeth, hf, Out.bind, hi, hg, f_mark_n mo ho]
  rw [if_pos (show (mfs h m).lookup ("mark" : Str) = none from rfl)]
theorem f_alike_n (wf : WF h) (hl : h.length ≤ 400) {a b : Sg} (ha : a.ok h.length) (hb : b.ok h.length) : ∃ S' mk, f_alike [hsD h, sgD a, sgD b] S = .val (.bl (decide (mv (wls h) mk a = mv (wls h) mk b))) S' ∧ Fin h (wls h) mk ∧ Ext S.length S S' := by
  obtain ⟨S', mk, e, mo, F, x⟩ := make_n (S := S) (ρ := [some (hsD h), some (sgD a), some (sgD b), none]) (g := aCons (eVar 0) aNil) wf hl rfl
  refine ⟨S', mk, ?_, F, x⟩
  show fn0 1 b_alike [hsD h, sgD a, sgD b] S = _
  have a1 : (sAsg (eMake "Marks" f_Marks_init (aCons (eVar 0) aNil)) (tName 3)) [some (hsD h), some (sgD a), some (sgD b), none] S = .val (.nx [some (hsD h), some (sgD a), some (sgD b), some (.ref S.length)]) S' := by
    rw [sAsg, e, bind_val]; rfl
  have m1 := meth_mark mo ha (fo := eVar 3) (g := aCons (eVar 1) aNil) (ρ := [some (hsD h), some (sgD a), some (sgD b), some (.ref S.length)]) rfl rfl
  have m2 := meth_mark mo hb (fo := eVar 3) (g := aCons (eVar 2) aNil) (ρ := [some (hsD h), some (sgD a), some (sgD b), some (.ref S.length)]) rfl rfl
  simp only [fn0, b_alike, List.map_cons, List.map_nil, List.cons_append, List.nil_append, List.replicate]
  rw [sSeq, a1, bind_val]
  simp only
  rw [sRet, eOp, m1, bind_val, m2, bind_val, opEq_mv]
  rfl
theorem f_whole_of_n (wf : WF h) (hl : h.length ≤ 400) {s : Sg} (ho : s.ok h.length) : ∃ S', f_whole_of [hsD h, sgD s] S = .val (optD (whBy (wls h) s)) S' ∧ Ext S.length S S' := by
  obtain ⟨S', mk, e, mo, F, x⟩ := make_n (S := S) (ρ := [some (hsD h), some (sgD s), none]) (g := aCons (eVar 0) aNil) wf hl rfl
  refine ⟨S', ?_, x⟩
  show fn0 1 b_whole_of [hsD h, sgD s] S = _
  obtain ⟨m, hi⟩ := ins_at mo
  have a1 : (sAsg (eMeth "Marks" "mark" f_Marks_mark (eMake "Marks" f_Marks_init (aCons (eVar 0) aNil)) (aCons (eVar 1) aNil)) (tName 2)) [some (hsD h), some (sgD s), none] S = .val (.nx [some (hsD h), some (sgD s), some (mvD (mv (wls h) mk s))]) S' := by
    rw [sAsg, eMeth, e, bind_val, hi]
    simp only
    rw [if_pos (show (mfs h m).lookup ("mark" : Str) = none from rfl)]
    simp only [aCons, aNil, eVar, List.getElem?_cons_succ, List.getElem?_cons_zero, Out.bind, f_mark_n mo ho, tName]
    rfl
  simp only [fn0, b_whole_of, List.map_cons, List.map_nil, List.cons_append, List.nil_append, List.replicate]
  rw [sSeq, a1, bind_val]
  simp only
  cases hm : mv (wls h) mk s with
  | inl c => rw [mv_inl hm]; simp [mvD, optD]
  | inr k =>
    have : whBy (wls h) s = none := by
      cases hw : whBy (wls h) s with
      | none => rfl
      | some c => rw [mv_of hw] at hm; cases hm
    rw [this]
    simp [mvD, optD]
theorem f_turns_between_n (wf : WF h) (hl : h.length ≤ 400) {a b : Sg} (ha : a.ok h.length) (hb : b.ok h.length) : ∃ S' mk, f_turns_between [hsD h, sgD a, sgD b] S = .val (.lst (((List.range 8).filter fun t => decide (mv (wls h) mk (a.turn t) = mv (wls h) mk b)).map fun (t : Nat) => D.int (t : Int))) S' ∧ Fin h (wls h) mk ∧ Ext S.length S S' := by
  obtain ⟨S', mk, e, mo, F, x⟩ := make_n (S := S) (ρ := [some (hsD h), some (sgD a), some (sgD b)]) (g := aCons (eVar 0) aNil) wf hl rfl
  refine ⟨S', mk, ?_, F, x⟩
  have key : f_turns_by [.ref S.length, sgD a, sgD b] S' = .val (.lst (((List.range 8).filter fun t => decide (mv (wls h) mk (a.turn t) = mv (wls h) mk b)).map fun (t : Nat) => D.int (t : Int))) S' := by
    have hc := lc_pure (f := iRng1 (aCons (eCall bLen (aCons (eC c_SHOWN) aNil)) aNil)) (own := [3]) (g := tName 3) (t := bVal (eOp opEq (eMeth "Marks" "mark" f_Marks_mark (eVar 0) (aCons (eCall f_turned (aCons (eVar 1) (aCons (eVar 3) aNil))) aNil)) (eMeth "Marks" "mark" f_Marks_mark (eVar 0) (aCons (eVar 2) aNil)))) (e := eVar 3) (ρ := [some (.ref S.length), some (sgD a), some (sgD b), none]) (S := S') (fun d => d)
      (fun d => match d with | .int i => decide (mv (wls h) mk (a.turn i.toNat) = mv (wls h) mk b) | _ => false) (fun d => [some (.ref S.length), some (sgD a), some (sgD b), some d]) (rng1_n (n := 8) rfl (by omega)) (by simp) True.intro (fun d _ => by simp [wipeR]) (fun d hd => by
        obtain ⟨i, hi, rfl⟩ := rangeD_mem hd
        have m1 := meth_mark mo (turn_ok hi ha) (fo := eVar 0) (g := aCons (eCall f_turned (aCons (eVar 1) (aCons (eVar 3) aNil))) aNil) (ρ := [some (.ref S.length), some (sgD a), some (sgD b), some (.int (i : Nat))]) rfl (by
          simp only [aCons, aNil, eCall, eVar, List.getElem?_cons_succ, List.getElem?_cons_zero, Out.bind, f_turned_n hi S' ha])
        have m2 := meth_mark mo hb (fo := eVar 0) (g := aCons (eVar 2) aNil) (ρ := [some (.ref S.length), some (sgD a), some (sgD b), some (.int (i : Nat))]) rfl rfl
        rw [bVal, eOp, m1, bind_val, m2, bind_val, opEq_mv, bind_val]
        simp) (fun d _ _ => by simp)
    refine fn0_ret (hc.trans ?_)
    rw [always_items, show ∀ l : List D, l.map (fun d => d) = l from List.map_id']
    unfold rangeD
    rw [List.filter_map]
    rfl
  show fn0 0 b_turns_between [hsD h, sgD a, sgD b] S = _
  refine fn0_ret ?_
  show eCall f_turns_by (aCons (eMake "Marks" f_Marks_init (aCons (eVar 0) aNil)) (aCons (eVar 1) (aCons (eVar 2) aNil))) [some (hsD h), some (sgD a), some (sgD b)] S = _
  rw [eCall, aCons, e, bind_val]
  simp only [aCons, aNil, eVar, List.getElem?_cons_succ, List.getElem?_cons_zero, Out.bind, key]
theorem f_row_seen_n {d : Nat} (hd : d < 8) {row : List Nat} (hr : ∀ q ∈ row, q < 4) (hlen : row.length ≤ 1000000) : f_row_seen [.int d, rowD row] S = .val (rowD (row.map (shw d))) S := by
  have hc := lc_map (f := iVal (eVar 1)) (own := [2]) (g := tName 2) (e := eCall f_shown (aCons (eVar 0) (aCons (eVar 2) aNil))) (ρ := [some (.int d), some (rowD row), none]) (S := S) (fun x => match x with | .int i => .int (shw d i.toNat : Nat) | x => x) (fun x => [some (.int d), some (rowD row), some x])
    (iVal_n rfl rfl) (by rw [always_items, List.length_map]; exact hlen) True.intro (fun d _ => by simp [wipeR]) (fun x hx => by
      rw [always_items] at hx
      obtain ⟨q, hq, rfl⟩ := List.mem_map.mp hx
      simp [f_shown_n hd (hr q hq) S])
  show fn0 1 b_row_seen [.int d, rowD row] S = _
  refine fn0_ret ?_
  show eCall bTuple (aCons _ aNil) [some (.int d), some (rowD row), none] S = _
  rw [eCall, aCons, hc, bind_val]
  simp only [aNil, Out.bind, bTuple_lst, always_items]
  unfold rowD
  rw [List.map_map, List.map_map]
  rfl
/-! ### colour_at -/
def allP (k : Nat) : List Sg := (List.range k).flatMap fun p => (List.range 8).map fun t => Sg.pan p t
theorem len_allP : ∀ k : Nat, (allP k).length = 8 * k
  | 0 => rfl
  | k + 1 => by
    unfold allP
    rw [show List.range (k + 1) = List.range k ++ [k] from List.range_succ, List.flatMap_append, List.length_append]
    have := len_allP k
    unfold allP at this
    rw [this]
    simp
    omega
theorem mem_allP {k p t : Nat} (hp : p < k) (ht : t < 8) : Sg.pan p t ∈ allP k :=
  List.mem_flatMap.mpr ⟨p, List.mem_range.mpr hp, List.mem_map.mpr ⟨t, List.mem_range.mpr ht, rfl⟩⟩
theorem no_reach {row : List Nat} {s : Sg} {i m : Nat} (him : i < m) (e : again h row i s = again h row m s) (hp : ∀ j ≤ m, ∀ c, again h row j s ≠ .col c) : ∀ k c, again h row k s ≠ .col c := by
  intro k
  induction k using Nat.strongRecOn with
  | ind k ih =>
    intro c hk
    by_cases hkm : k ≤ m
    · exact hp k hkm c hk
    · have h1 : again h row k s = again h row (k - m) (again h row m s) := by rw [← again_add]; congr 1; omega
      rw [h1, ← e, ← again_add] at hk
      exact ih (k - m + i) (by omega) c hk
noncomputable def tCol : Rho → M Bool := bNot (bVal (eIsi ["str"] (eVar 5)))
noncomputable def bCol : Rho → M Fl := sSeq (sIf (bVal (eOp opIn (eVar 5) (eVar 6))) (sRet (eC .non)) sSkip) (sSeq (sAsg (eC (.bl true)) (tSub (eVar 6) (eVar 5))) (sAsg (eCall f_sight_at (aCons (eVar 0) (aCons (eVar 5) (aCons (eVar 4) aNil)))) (tName 5)))
def metD (h : House) (ag : List Nat) (s : Sg) (m : Nat) : Cel := .dic false (((List.range m).map fun i => again h ag i s).map sgD) (((List.range m).map fun i => again h ag i s).map fun _ => .bl true)
theorem col_loop (wf : WF h) (hl : h.length ≤ 400) {ag : List Nat} (hr : ∀ q ∈ ag, q < 4) {s : Sg} (ho : s.ok h.length) {d1 d2 d3 : D} : ∀ (f m : Nat), 8 * h.length + 1 ≤ f + m → ((List.range m).map fun i => again h ag i s).Nodup → (∀ j < m, ∀ c, again h ag j s ≠ .col c) →
    ∃ fl S' r, sWhile tCol bCol [some (hsD h), some d1, some d2, some d3, some (rowD ag), some (sgD (again h ag m s)), some (.ref S.length)] (S ++ [metD h ag s m]) = .val fl S' ∧ Ext S.length S S' ∧ (∀ c, r = some c ↔ Reach h ag s c) ∧
      (fl = .ret (optD r) ∨ ∃ x, r = some x ∧ fl = .nx [some (hsD h), some d1, some d2, some d3, some (rowD ag), some (.str x), some (.ref S.length)])
  | 0, m, hf, hnd, hp => by
    have h1 := nodup_len hnd (b := allP h.length) fun x hx => by
      obtain ⟨i, hi, rfl⟩ := List.mem_map.mp hx
      have hi := List.mem_range.mp hi
      have ok := again_ok wf hr (m := i) ho
      cases hc : again h ag i s with
      | col c => exact absurd hc (hp i hi c)
      | pan p t => rw [hc] at ok; exact mem_allP ok.1 ok.2
    rw [List.length_map, List.length_range, len_allP] at h1
    omega
  | f + 1, m, hf, hnd, hp => by
    have okm := again_ok wf hr (m := m) ho
    rw [sWhile_eq]
    cases hc : again h ag m s with
    | col c =>
      have et : tCol [some (hsD h), some d1, some d2, some d3, some (rowD ag), some (sgD (.col c)), some (.ref S.length)] (S ++ [metD h ag s m]) = .val false (S ++ [metD h ag s m]) := by simp [tCol, sgD_col]
      rw [et, bind_val, if_neg (by simp)]
      exact ⟨_, _, some c, rfl, ext_app, fun d => ⟨fun e => by cases e; exact ⟨m, hc⟩, fun r => by rw [Reach.unique ⟨m, hc⟩ r]⟩, .inr ⟨c, rfl, rfl⟩⟩
    | pan p t =>
      rw [hc] at okm
      have et : tCol [some (hsD h), some d1, some d2, some d3, some (rowD ag), some (sgD (.pan p t)), some (.ref S.length)] (S ++ [metD h ag s m]) = .val true (S ++ [metD h ag s m]) := by simp [tCol, sgD_pan]
      rw [et, bind_val, if_pos rfl]
      have g0 : (S ++ [metD h ag s m])[S.length]? = some (.dic false (((List.range m).map fun i => again h ag i s).map sgD) (((List.range m).map fun i => again h ag i s).map fun _ => .bl true)) := by simp [metD]
      have hin : opIn (sgD (.pan p t)) (.ref S.length) (S ++ [metD h ag s m]) = .val (.bl (decide (Sg.pan p t ∈ (List.range m).map fun i => again h ag i s))) (S ++ [metD h ag s m]) := by
        have e1 : dGet (((List.range m).map fun i => again h ag i s).map sgD) (((List.range m).map fun i => again h ag i s).map fun _ => D.bl true) (sgD (.pan p t)) = if Sg.pan p t ∈ (List.range m).map fun i => again h ag i s then some (.bl true) else none := dGet_f key_sg (fun _ => D.bl true) (Sg.pan p t) _
        have e2 : seqL (S ++ [metD h ag s m]) (.ref S.length) = none := by simp only [seqL, g0]
        have e3 : dictOf (S ++ [metD h ag s m]) (.ref S.length) = some (((List.range m).map fun i => again h ag i s).map sgD, ((List.range m).map fun i => again h ag i s).map fun _ => D.bl true) := by simp only [dictOf, g0]
        simp only [opIn, opInB, e2, e3]
        rw [if_pos (key_sg.key _), e1]
        by_cases c : Sg.pan p t ∈ (List.range m).map fun i => again h ag i s
        · rw [if_pos c, decide_eq_true c]; rfl
        · rw [if_neg c, decide_eq_false c]; rfl
      by_cases c : Sg.pan p t ∈ (List.range m).map fun i => again h ag i s
      · rw [decide_eq_true c] at hin
        obtain ⟨i, hi, ei⟩ := List.mem_map.mp c
        have hi := List.mem_range.mp hi
        have hb : bCol [some (hsD h), some d1, some d2, some d3, some (rowD ag), some (sgD (.pan p t)), some (.ref S.length)] (S ++ [metD h ag s m]) = .val (.ret .non) (S ++ [metD h ag s m]) := by
          have : (sIf (bVal (eOp opIn (eVar 5) (eVar 6))) (sRet (eC .non)) sSkip) [some (hsD h), some d1, some d2, some d3, some (rowD ag), some (sgD (.pan p t)), some (.ref S.length)] (S ++ [metD h ag s m]) = .val (.ret .non) (S ++ [metD h ag s m]) := by
            simp only [sIf, bVal, eOp, eVar, List.getElem?_cons_succ, List.getElem?_cons_zero, Out.bind, hin, isBl, if_true, sRet, eC]
          rw [bCol, sSeq, this]
          rfl
        rw [hb, bind_val]
        refine ⟨_, _, none, rfl, ext_app, fun d => ⟨fun e => (nomatch e), fun ⟨k, hk⟩ => ?_⟩, .inl rfl⟩
        refine absurd hk (no_reach hi (ei.trans hc.symm) (fun j hj c' hjc => ?_) k d)
        by_cases e : j = m
        · subst e; rw [hc] at hjc; cases hjc
        · exact hp j (by omega) c' hjc
      · rw [decide_eq_false c] at hin
        have hz : m < sizeLine := by
          have h1 := nodup_len hnd (b := allP h.length) fun x hx => by
            obtain ⟨i, hi, rfl⟩ := List.mem_map.mp hx
            have hi := List.mem_range.mp hi
            have ok := again_ok wf hr (m := i) ho
            cases hc : again h ag i s with
            | col c => exact absurd hc (hp i hi c)
            | pan p t => rw [hc] at ok; exact mem_allP ok.1 ok.2
          rw [List.length_map, List.length_range, len_allP] at h1
          have := PySem.sizeLine_eq
          omega
        have hset : opSet (.ref S.length) (sgD (.pan p t)) (.bl true) (S ++ [metD h ag s m]) = .val () (S ++ [metD h ag s (m + 1)]) := by
          simp only [opSet, g0]
          rw [if_pos ⟨key_sg.key _, by simpa using hz⟩, dPut_new key_sg c (by simp)]
          unfold metD
          have em : ((List.range (m + 1)).map fun i => again h ag i s) = ((List.range m).map fun i => again h ag i s) ++ [.pan p t] := by rw [show List.range (m + 1) = List.range m ++ [m] from List.range_succ, List.map_append, List.map_cons, List.map_nil, hc]
          rw [em]
          simp [List.set_append]
        have hb : bCol [some (hsD h), some d1, some d2, some d3, some (rowD ag), some (sgD (.pan p t)), some (.ref S.length)] (S ++ [metD h ag s m]) = .val (.nx [some (hsD h), some d1, some d2, some d3, some (rowD ag), some (sgD (again h ag (m + 1) s)), some (.ref S.length)]) (S ++ [metD h ag s (m + 1)]) := by
          have b1 : (sIf (bVal (eOp opIn (eVar 5) (eVar 6))) (sRet (eC .non)) sSkip) [some (hsD h), some d1, some d2, some d3, some (rowD ag), some (sgD (.pan p t)), some (.ref S.length)] (S ++ [metD h ag s m]) = .val (.nx [some (hsD h), some d1, some d2, some d3, some (rowD ag), some (sgD (.pan p t)), some (.ref S.length)]) (S ++ [metD h ag s m]) := by
            simp only [sIf, bVal, eOp, eVar, List.getElem?_cons_succ, List.getElem?_cons_zero, Out.bind, hin, isBl, sSkip]
            rfl
          have b2 : (sAsg (eC (.bl true)) (tSub (eVar 6) (eVar 5))) [some (hsD h), some d1, some d2, some d3, some (rowD ag), some (sgD (.pan p t)), some (.ref S.length)] (S ++ [metD h ag s m]) = .val (.nx [some (hsD h), some d1, some d2, some d3, some (rowD ag), some (sgD (.pan p t)), some (.ref S.length)]) (S ++ [metD h ag s (m + 1)]) := by
            simp only [sAsg, eC, tSub, eVar, List.getElem?_cons_succ, List.getElem?_cons_zero, Out.bind, hset]
          have b3 := f_sight_at_n wf hr (s := .pan p t) okm (S ++ [metD h ag s (m + 1)])
          rw [bCol, sSeq, b1, bind_val]
          simp only
          rw [sSeq, b2, bind_val]
          simp only [sAsg, eCall, aCons, aNil, eVar, List.getElem?_cons_succ, List.getElem?_cons_zero, Out.bind, b3, tName]
          rw [again_succ, hc]
          rfl
        rw [hb, bind_val, onTurn]
        refine col_loop wf hl hr ho f (m + 1) (by omega) ?_ fun j hj c' hjc => ?_
        · rw [List.range_succ, List.map_append, List.map_cons, List.map_nil, hc, List.nodup_append]
          refine ⟨hnd, by simp, fun x hx y hy e => ?_⟩
          rw [List.mem_singleton] at hy
          subst hy; subst e
          exact c hx
        · by_cases e : j = m
          · subst e; rw [hc] at hjc; cases hjc
          · exact hp j (by omega) c' hjc
theorem f_colour_at_n (wf : WF h) (hl : h.length ≤ 400) {row ag : List Nat} (hr : ∀ q ∈ row, q < 4) (ha : ∀ q ∈ ag, q < 4) {s : Sg} (ho : s.ok h.length) :
    ∃ S' r, f_colour_at [hsD h, sgD s, .tup [rowD row, rowD ag]] S = .val (optD r) S' ∧ Ext S.length S S' ∧ ∀ c, r = some c ↔ Reach h ag (sightAt h s row) c := by
  obtain ⟨fl, S', r, e, x, hc, hfl⟩ := col_loop (S := S) (d1 := sgD s) (d2 := .tup [rowD row, rowD ag]) (d3 := rowD row) wf hl ha (sightAt_ok wf hr ho) (8 * h.length + 1) 0 (by omega) List.nodup_nil (fun j hj => absurd hj (Nat.not_lt_zero _))
  refine ⟨S', r, ?_, x, hc⟩
  have b1 : (sAsg (eVar 2) (tTupZ 2 (tsCons (tName 3) (tsCons (tName 4) tsNil)))) [some (hsD h), some (sgD s), some (.tup [rowD row, rowD ag]), none, none, none, none] S = .val (.nx [some (hsD h), some (sgD s), some (.tup [rowD row, rowD ag]), some (rowD row), some (rowD ag), none, none]) S := by simp
  have b2 : (sPar2 5 6 (aCons (eCall f_sight_at (aCons (eVar 0) (aCons (eVar 1) (aCons (eVar 3) aNil)))) (aCons eDcC aNil))) [some (hsD h), some (sgD s), some (.tup [rowD row, rowD ag]), some (rowD row), some (rowD ag), none, none] S = .val (.nx [some (hsD h), some (sgD s), some (.tup [rowD row, rowD ag]), some (rowD row), some (rowD ag), some (sgD (sightAt h s row)), some (.ref S.length)]) (S ++ [.dic false [] []]) := by
    have := f_sight_at_n wf hr ho S
    simp [this]
  show fn0 4 b_colour_at [hsD h, sgD s, .tup [rowD row, rowD ag]] S = _
  simp only [fn0, b_colour_at, List.map_cons, List.map_nil, List.cons_append, List.nil_append, List.replicate]
  rw [sSeq, b1, bind_val]
  simp only
  rw [sSeq, b2, bind_val]
  simp only
  have e : sWhile (bNot (bVal (eIsi ["str"] (eVar 5)))) (sSeq (sIf (bVal (eOp opIn (eVar 5) (eVar 6))) (sRet (eC .non)) sSkip) (sSeq (sAsg (eC (.bl true)) (tSub (eVar 6) (eVar 5))) (sAsg (eCall f_sight_at (aCons (eVar 0) (aCons (eVar 5) (aCons (eVar 4) aNil)))) (tName 5))))
      [some (hsD h), some (sgD s), some (.tup [rowD row, rowD ag]), some (rowD row), some (rowD ag), some (sgD (sightAt h s row)), some (.ref S.length)] (S ++ [.dic false [] []]) = .val fl S' := e
  rw [sSeq, e, bind_val]
  rcases hfl with rfl | ⟨y, rfl, rfl⟩
  · rfl
  · simp [optD]
end
end Pg
set_option Elab.async false
set_option linter.all false
set_option maxRecDepth 100000
set_option maxHeartbeats 1000000
/-! M9: drawn. -/
namespace Pg
open Z
open PySem (Str sizeLine)
open L2 (atI)
abbrev Gr := List (List (Option Str))
def rwD (r : List (Option Str)) : D := .lst (r.map optD)
def gridD (g : Gr) : D := .lst (g.map rwD)
def uni (k : Nat) (w : Option Str) : Gr := List.replicate k (List.replicate k w)
def joinG (a b : Gr) : Gr := List.zipWith (· ++ ·) a b
def grid (h : House) : Nat → Sg → Gr
  | 0, s => uni 1 (whBy (wls h) s)
  | d + 1, .col x => uni (2 ^ (d + 1)) (some x)
  | d + 1, .pan p t => joinG (grid h d (quar h (.pan p t) 0) ++ grid h d (quar h (.pan p t) 2)) (grid h d (quar h (.pan p t) 1) ++ grid h d (quar h (.pan p t) 3))
theorem grid_col (h : House) (x : Str) : ∀ d : Nat, grid h d (.col x) = uni (2 ^ d) (some x)
  | 0 => rfl
  | _ + 1 => rfl
def Shape (k m : Nat) (g : Gr) : Prop := g.length = k ∧ ∀ r ∈ g, r.length = m
theorem shape_uni (k : Nat) (w : Option Str) : Shape k k (uni k w) := ⟨by simp [uni], fun r hr => by rw [List.eq_of_mem_replicate hr]; simp⟩
theorem shape_join : ∀ {k m n : Nat} {a b : Gr}, Shape k m a → Shape k n b → Shape k (m + n) (joinG a b)
  | k, m, n, a, b, ha, hb => by
    refine ⟨by simp [joinG, ha.1, hb.1], fun r hr => ?_⟩
    unfold joinG at hr
    obtain ⟨i, hi, rfl⟩ := List.mem_iff_getElem.mp hr
    rw [List.getElem_zipWith, List.length_append, ha.2 _ (List.getElem_mem _), hb.2 _ (List.getElem_mem _)]
theorem shape_app {k m n : Nat} {a b : Gr} (ha : Shape k m a) (hb : Shape n m b) : Shape (k + n) m (a ++ b) := ⟨by rw [List.length_append, ha.1, hb.1], fun r hr => by
  rcases List.mem_append.mp hr with q | q
  · exact ha.2 r q
  · exact hb.2 r q⟩
theorem shape_grid (h : House) : ∀ (d : Nat) (s : Sg), Shape (2 ^ d) (2 ^ d) (grid h d s)
  | 0, s => shape_uni 1 _
  | d + 1, .col x => shape_uni _ _
  | d + 1, .pan p t => by
    have e : 2 ^ (d + 1) = 2 ^ d + 2 ^ d := by rw [Nat.pow_succ]; omega
    rw [e]
    exact shape_join (shape_app (shape_grid h d _) (shape_grid h d _)) (shape_app (shape_grid h d _) (shape_grid h d _))
theorem join_uni (k : Nat) (w : Option Str) : joinG (uni k w ++ uni k w) (uni k w ++ uni k w) = uni (k + k) w := by
  unfold uni joinG
  rw [List.replicate_append_replicate, List.zipWith_replicate, List.replicate_append_replicate, Nat.min_self]
section
variable {h : House} {S : Sto} {mk : Nat → Nat → Nat}
theorem grid_uni (wf : WF h) {c : Str} : ∀ (d : Nat) {s : Sg}, s.ok h.length → whBy (wls h) s = some c → grid h d s = uni (2 ^ d) (some c)
  | 0, s, _, e => by show uni 1 _ = _; rw [e]
  | d + 1, .col x, _, e => by cases e; rfl
  | d + 1, .pan p t, ho, e => by
    have q : ∀ k < 4, grid h d (quar h (.pan p t) k) = uni (2 ^ d) (some c) := fun k hk => grid_uni wf d (quar_ok wf hk ho) (whBy_quar' wf hk ho e)
    show joinG (grid h d _ ++ grid h d _) (grid h d _ ++ grid h d _) = _
    rw [q 0 (by omega), q 1 (by omega), q 2 (by omega), q 3 (by omega), join_uni]
    congr 1
    rw [Nat.pow_succ]
    omega
theorem grid_cong (wf : WF h) (F : Fin h (wls h) mk) : ∀ (d : Nat) {s s' : Sg}, s.ok h.length → s'.ok h.length → mv (wls h) mk s = mv (wls h) mk s' → grid h d s = grid h d s' := by
  intro d
  induction d with
  | zero =>
    intro s s' ho ho' e
    show uni 1 _ = uni 1 _
    congr 1
    cases hm : mv (wls h) mk s with
    | inl c => rw [mv_inl hm, mv_inl (e.symm.trans hm)]
    | inr n =>
      have a : ∀ {s : Sg} {n : Nat}, mv (wls h) mk s = .inr n → whBy (wls h) s = none := fun {s n} hm => by
        cases hw : whBy (wls h) s with
        | none => rfl
        | some c => rw [mv_of hw] at hm; cases hm
      rw [a hm, a (e.symm.trans hm)]
  | succ d ih =>
    intro s s' ho ho' e
    cases hm : mv (wls h) mk s with
    | inl c => rw [grid_uni wf (d + 1) ho (mv_inl hm), grid_uni wf (d + 1) ho' (mv_inl (e.symm.trans hm))]
    | inr n =>
      have hm' := e.symm.trans hm
      cases s with
      | col x => cases hm
      | pan p t =>
        cases s' with
        | col x => cases hm'
        | pan p' t' =>
          have q : ∀ k < 4, grid h d (quar h (.pan p t) k) = grid h d (quar h (.pan p' t') k) := fun k hk => ih (quar_ok wf hk ho) (quar_ok wf hk ho') (F.quar wf hk ho ho' e)
          show joinG (grid h d _ ++ grid h d _) (grid h d _ ++ grid h d _) = joinG (grid h d _ ++ grid h d _) (grid h d _ ++ grid h d _)
          rw [q 0 (by omega), q 1 (by omega), q 2 (by omega), q 3 (by omega)]
/-! the defs -/
theorem mulS_2 (i : Int) : mulS i 2 = true := by
  have h1 : -(2 ^ 64) < (2 : Int) := by decide
  have h2 : (2 : Int) < 2 ^ 64 := by decide
  simp only [mulS, h1, h2, decide_true, Bool.and_self, Bool.or_true]
theorem opMulI_n {i j : Int} (hm : mulS i j = true) : opMulI (.int i) (.int j) S = .val (.int (i * j)) S := by
  simp only [opMulI]
  rw [if_pos hm]
theorem twice_n {i j : Int} {a d : D} (e3 : opMulI (.int i) (.int 2) S = .val (.int j) S) : sAug 2 opMulI (eVar 0) [some (.int 2), some a, some (.int i), some d] S = .val (.nx [some (.int 2), some a, some (.int j), some d]) S := by
  simp only [sAug, eVar, List.getElem?_cons_succ, List.getElem?_cons_zero, Out.bind, e3, List.set]
theorem pow_step (k : Nat) : opMulI (.int ((2 ^ k : Nat) : Int)) (.int 2) S = .val (.int ((2 ^ (k + 1) : Nat) : Int)) S := by
  have e2 : ((2 ^ (k + 1) : Nat) : Int) = ((2 ^ k : Nat) : Int) * 2 := by rw [Nat.pow_succ, Int.natCast_mul]; rfl
  rw [e2]
  exact opMulI_n (mulS_2 _)
def PowJ (d : Nat) (S : Sto) (k : Nat) (ρ : Rho) (S' : Sto) : Prop := S' = S ∧ k ≤ d ∧ ∃ x m, m = 2 ^ k ∧ ρ = [some (.int 2), some (.int d), some (.int ((m : Nat) : Int)), x]
theorem f_power_n {d : Nat} (hd : d ≤ 10) : f_power [.int 2, .int d] S = .val (.int ((2 ^ d : Nat) : Int)) S := by
  obtain ⟨ρ', S', e, j⟩ := forL_all (ok := fun _ => True) (g := tName 3) (b := sAug 2 opMulI (eVar 0)) (ds := rangeD d) (ρ := [some (.int 2), some (.int d), some (.int ((1 : Nat) : Int)), none]) (S := S)
    (PowJ d S) (fun _ _ _ _ => True.intro) ⟨rfl, Nat.zero_le _, none, 1, rfl, rfl⟩ (by
      rintro k y ρ S' hk ⟨rfl, hkd, x, m, hm, rfl⟩
      have hkl : k < d := by have := (List.getElem?_eq_some_iff.mp hk).1; simpa using this
      have := pow_step (S := S') k
      rw [← hm] at this
      exact ⟨[some (.int 2), some (.int d), some (.int (m : Int)), some y], S', [some (.int 2), some (.int d), some (.int ((2 ^ (k + 1) : Nat) : Int)), some y], S', rfl, .inl (twice_n this), rfl, hkl, _, _, rfl, rfl⟩)
  obtain ⟨rfl, _, x, m, hm, rfl⟩ := j
  rw [rangeD_len] at hm
  show fn0 2 b_power [.int 2, .int d] S' = _
  simp only [fn0, b_power, List.map_cons, List.map_nil, List.cons_append, List.nil_append, List.replicate]
  have b1 : (sAsg (eC (.int 1)) (tName 2)) [some (.int 2), some (.int d), none, none] S' = .val (.nx [some (.int 2), some (.int d), some (.int ((1 : Nat) : Int)), none]) S' := rfl
  rw [sSeq, b1, bind_val]
  simp only
  rw [sSeq, sFor, rng1_n (n := d) rfl (by omega), bind_val, always_ok, always_items, e, bind_val]
  rw [← hm]
  rfl
end
end Pg
set_option Elab.async false
set_option linter.all false
set_option maxRecDepth 100000
set_option maxHeartbeats 1000000
namespace Pg
open Z
open PySem (Str sizeLine)
open L2 (atI)
section
variable {h : House} {S : Sto} {mk : Nat → Nat → Nat}
theorem f_whole_by_n {s : Sg} (ho : s.ok h.length) : f_whole_by [.lst (whL h h.length), sgD s] S = .val (optD (whBy (wls h) s)) S := by
  cases s with
  | col x => simp [f_whole_by, b_whole_by, sgD_col, whBy, optD]
  | pan p t => simp [f_whole_by, b_whole_by, sgD_pan, whBy, opIx_lst (whL_at (k := h.length) ho.1), wls]
theorem opMul_rep (x : D) {k : Nat} (hk : k ≤ 1000) : opMul (.lst [x]) (.int (k : Nat)) S = .val (.lst (List.replicate k x)) S := by
  have hz := PySem.sizeLine_eq
  simp only [opMul, seqM]
  rw [if_pos ⟨by omega, by omega, by simp; omega⟩]
  simp
theorem zip_map {A B : Gr} : (zips (A.map rwD) (B.map rwD)).map (fun d => match d with | .tup [.lst a, .lst b] => D.lst (a ++ b) | d => d) = (joinG A B).map rwD := by
  unfold zips joinG
  rw [List.map_map]
  induction A generalizing B with
  | nil => rfl
  | cons a A ih =>
    cases B with
    | nil => rfl
    | cons b B =>
      simp only [List.map_cons, List.zip_cons_cons, List.zipWith_cons_cons, ih]
      congr 1
      simp [rwD]
end
end Pg
set_option Elab.async false
set_option linter.all false
set_option maxRecDepth 100000
set_option maxHeartbeats 1000000
namespace Pg
open Z
open PySem (Str sizeLine)
open L2 (atI)
section
variable {h : House} {S : Sto} {mk : Nat → Nat → Nat}
noncomputable def sPow : Rho → M Fl := sSeq (sAsg (eCall f_power (aCons (eC (.int 2)) (aCons (eVar 3) aNil))) (tName 4)) (sRet (eFin finL (eComp (iRng1 (aCons (eVar 4) aNil)) [10] (tName 10) bYes (eOp opMul (eLst (aCons (eCall f_whole_by (aCons (eVar 1) (aCons (eVar 2) aNil))) aNil)) (eVar 4)))))
def rr (h : House) (s : Sg) (d : Nat) : Rho := [some (hsD h), some (.lst (whL h h.length)), some (sgD s), some (.int d), none, none, none, none, none, none, none, none, none]
theorem pow64 {d : Nat} (hd : d ≤ 6) : 2 ^ d ≤ 64 := Nat.le_trans (Nat.pow_le_pow_right (by omega) hd) (by decide)
theorem flat_gen {F W : List D → M D} {FR : Rho → M Src} {O : D → D → M D} {s : Sg} {d k : Nat} {w : Option Str} (hk : k ≤ 64) (hF : F [.int 2, .int d] S = .val (.int (k : Nat)) S) (hW : W [.lst (whL h h.length), sgD s] S = .val (optD w) S) (hO : ∀ x, O (.lst [x]) (.int (k : Nat)) S = .val (.lst (List.replicate k x)) S)
    (hR : FR [some (hsD h), some (.lst (whL h h.length)), some (sgD s), some (.int d), some (.int ((k : Nat) : Int)), none, none, none, none, none, none, none, none] S = .val (always (rangeD k)) S) :
    (sSeq (sAsg (eCall F (aCons (eC (.int 2)) (aCons (eVar 3) aNil))) (tName 4)) (sRet (eFin finL (eComp FR [10] (tName 10) bYes (eOp O (eLst (aCons (eCall W (aCons (eVar 1) (aCons (eVar 2) aNil))) aNil)) (eVar 4)))))) (rr h s d) S = .val (.ret (gridD (uni k w))) S := by
  have h1 : (sAsg (eCall F (aCons (eC (.int 2)) (aCons (eVar 3) aNil))) (tName 4)) (rr h s d) S = .val (.nx [some (hsD h), some (.lst (whL h h.length)), some (sgD s), some (.int d), some (.int ((k : Nat) : Int)), none, none, none, none, none, none, none, none]) S := by
    simp only [sAsg, eCall, aCons, aNil, eC, rr, eVar, List.getElem?_cons_succ, List.getElem?_cons_zero, Out.bind, hF, tName]
    rfl
  have hlc := lc_map (f := FR) (own := [10]) (g := tName 10) (e := eOp O (eLst (aCons (eCall W (aCons (eVar 1) (aCons (eVar 2) aNil))) aNil)) (eVar 4)) (ρ := [some (hsD h), some (.lst (whL h h.length)), some (sgD s), some (.int d), some (.int ((k : Nat) : Int)), none, none, none, none, none, none, none, none]) (S := S) (fun _ => rwD (List.replicate k w))
    (fun y => [some (hsD h), some (.lst (whL h h.length)), some (sgD s), some (.int d), some (.int ((k : Nat) : Int)), none, none, none, none, none, some y, none, none]) hR (by rw [always_items, rangeD_len]; omega) True.intro (fun y _ => by simp [wipeR]) (fun y _ => by
      simp only [eOp, eLst, eCall, aCons, aNil, eVar, List.getElem?_cons_succ, List.getElem?_cons_zero, Out.bind, hW, hO]
      rw [rwD, List.map_replicate])
  rw [always_items, List.map_const', rangeD_len] at hlc
  rw [sSeq, h1, bind_val]
  simp only
  rw [sRet, hlc, bind_val]
  unfold gridD uni
  rw [List.map_replicate]
theorem flat_n (wf : WF h) {s : Sg} (ho : s.ok h.length) {d : Nat} (hd : d ≤ 6) : sPow (rr h s d) S = .val (.ret (gridD (uni (2 ^ d) (whBy (wls h) s)))) S := by
  have hp := pow64 hd
  have hr := rng1_n (g := aCons (eVar 4) aNil) (ρ := [some (hsD h), some (.lst (whL h h.length)), some (sgD s), some (.int d), some (.int (((2 ^ d : Nat) : Nat) : Int)), none, none, none, none, none, none, none, none]) (S := S) (S' := S) (n := 2 ^ d) rfl (by omega)
  exact flat_gen hp (f_power_n (by omega)) (f_whole_by_n ho) (fun x => opMul_rep x (by omega)) hr
theorem test_n {s : Sg} {d : Nat} : bOr (bVal (eOp opEq (eVar 3) (eC (.int 0)))) (bVal (eIsi ["str"] (eVar 2))) (rr h s d) S = .val (decide (d = 0) || match s with | .col _ => true | .pan _ _ => false) S := by
  have e : opEq (.int (d : Int)) (.int 0) S = .val (.bl (decide (d = 0))) S := by
    rw [opEq_int]
    congr 2
    by_cases c : d = 0
    · subst c; rfl
    · rw [decide_eq_false c, decide_eq_false (by omega)]
  by_cases c : d = 0
  · rw [decide_eq_true c] at e
    simp only [bOr, bVal, eOp, eC, rr, eVar, List.getElem?_cons_succ, List.getElem?_cons_zero, Out.bind, e, isBl]
    simp [c]
  · rw [decide_eq_false c] at e
    simp only [bOr, bVal, eOp, eC, rr, eVar, List.getElem?_cons_succ, List.getElem?_cons_zero, Out.bind, e, isBl]
    cases s <;> simp [c, sgD_col, sgD_pan]
noncomputable def lcParts (f : Nat) : Rho → M D := eFin finL (eComp (iVal (eCall f_quarters_of (aCons (eVar 0) (aCons (eVar 2) aNil)))) [9] (tName 9) bYes (eCall (f_rows_of f) (aCons (eVar 0) (aCons (eVar 1) (aCons (eVar 9) (aCons (eOp opSub (eVar 3) (eC (.int 1))) aNil))))))
theorem parts_n (wf : WF h) {s : Sg} (ho : s.ok h.length) {d f : Nat} (ih : ∀ s : Sg, s.ok h.length → f_rows_of f [hsD h, .lst (whL h h.length), sgD s, .int d] S = .val (gridD (grid h d s)) S) :
    lcParts f (rr h s (d + 1)) S = .val (.lst [gridD (grid h d (quar h s 0)), gridD (grid h d (quar h s 1)), gridD (grid h d (quar h s 2)), gridD (grid h d (quar h s 3))]) S := by
  have hq := f_quarters_of_n wf ho S
  have hlc := lc_map (f := iVal (eCall f_quarters_of (aCons (eVar 0) (aCons (eVar 2) aNil)))) (own := [9]) (g := tName 9) (e := eCall (f_rows_of f) (aCons (eVar 0) (aCons (eVar 1) (aCons (eVar 9) (aCons (eOp opSub (eVar 3) (eC (.int 1))) aNil))))) (ρ := rr h s (d + 1)) (S := S) (fun y => gridD (grid h d (dec y)))
    (fun y => [some (hsD h), some (.lst (whL h h.length)), some (sgD s), some (.int ((d + 1 : Nat) : Int)), none, none, none, none, none, some y, none, none, none])
    (iVal_n (d := .lst ((List.range 4).map fun k => sgD (quar h s k))) (S' := S) (by simp only [eCall, aCons, aNil, rr, eVar, List.getElem?_cons_succ, List.getElem?_cons_zero, Out.bind, hq]) rfl) (by simp) True.intro (fun y _ => by simp [wipeR, rr]) (fun y hy => by
      rw [always_items] at hy
      obtain ⟨k, hk, rfl⟩ := List.mem_map.mp hy
      have := ih (quar h s k) (quar_ok wf (List.mem_range.mp hk) ho)
      have es : ((d + 1 : Nat) : Int) - 1 = (d : Nat) := by omega
      simp only [eCall, aCons, aNil, eOp, eC, eVar, List.getElem?_cons_succ, List.getElem?_cons_zero, Out.bind, opSub_int, es, this, dec_sgD])
  rw [lcParts, hlc, always_items, show List.range 4 = [0, 1, 2, 3] from rfl]
  simp
noncomputable def lcJoin : Rho → M D := eFin finL (eComp (iZipS (aCons (eOp opAdd (eVar 5) (eVar 7)) (aCons (eOp opAdd (eVar 6) (eVar 8)) aNil))) [11, 12] (tTupZ 2 (tsCons (tName 11) (tsCons (tName 12) tsNil))) bYes (eOp opAdd (eVar 11) (eVar 12)))
theorem add_grid {k : Nat} (hk : k ≤ 64) {a b : Gr} (ha : Shape k k a) (hb : Shape k k b) : opAdd (gridD a) (gridD b) S = .val (gridD (a ++ b)) S := by
  have hz := PySem.sizeLine_eq
  unfold gridD
  rw [opAdd_lst, if_pos (by rw [List.length_map, List.length_map, ha.1, hb.1]; omega), List.map_append]
theorem join_n {k : Nat} (hk : k ≤ 64) {a b c e : Gr} (ha : Shape k k a) (hb : Shape k k b) (hc : Shape k k c) (he : Shape k k e) {x0 x1 x2 x3 : Option D} :
    lcJoin [x0, x1, x2, x3, none, some (gridD a), some (gridD b), some (gridD c), some (gridD e), none, none, none, none] S = .val (gridD (joinG (a ++ c) (b ++ e))) S := by
  have hz := PySem.sizeLine_eq
  have sA := shape_app ha hc
  have sB := shape_app hb he
  have z1 := add_grid (S := S) hk ha hc
  have z2 := add_grid (S := S) hk hb he
  have hzs : iZipS (aCons (eOp opAdd (eVar 5) (eVar 7)) (aCons (eOp opAdd (eVar 6) (eVar 8)) aNil)) [x0, x1, x2, x3, none, some (gridD a), some (gridD b), some (gridD c), some (gridD e), none, none, none, none] S = .val ⟨zips ((a ++ c).map rwD) ((b ++ e).map rwD), fun _ => True ∧ True⟩ S := by
    simp only [iZipS, aCons, aNil, eOp, eVar, List.getElem?_cons_succ, List.getElem?_cons_zero, Out.bind, z1, z2]
    unfold gridD
    simp only [srcZipS, lstSrc_lst]
    rw [if_pos (show (always ((a ++ c).map rwD)).items.length = (always ((b ++ e).map rwD)).items.length by rw [always_items, always_items, List.length_map, List.length_map, sA.1, sB.1])]
    rfl
  have hlen : (zips ((a ++ c).map rwD) ((b ++ e).map rwD)).length ≤ 1000000 := by
    rw [zips_len, List.length_map, List.length_map, sA.1, sB.1]; omega
  have hl2 := lc_map (f := iZipS (aCons (eOp opAdd (eVar 5) (eVar 7)) (aCons (eOp opAdd (eVar 6) (eVar 8)) aNil))) (own := [11, 12]) (g := tTupZ 2 (tsCons (tName 11) (tsCons (tName 12) tsNil))) (e := eOp opAdd (eVar 11) (eVar 12)) (ρ := [x0, x1, x2, x3, none, some (gridD a), some (gridD b), some (gridD c), some (gridD e), none, none, none, none]) (S := S)
    (fun y => match y with | .tup [.lst a, .lst b] => D.lst (a ++ b) | y => y) (fun y => match y with | .tup [u, v] => [x0, x1, x2, x3, none, some (gridD a), some (gridD b), some (gridD c), some (gridD e), none, none, some u, some v] | _ => [])
    hzs hlen ⟨trivial, trivial⟩ (fun y hy => by
      obtain ⟨⟨a, b⟩, hab, rfl⟩ := List.mem_map.mp hy
      simp [wipeR]) (fun y hy => by
      obtain ⟨⟨a', b'⟩, hab, rfl⟩ := List.mem_map.mp hy
      obtain ⟨h1, h2⟩ := List.of_mem_zip hab
      obtain ⟨ra, hra, rfl⟩ := List.mem_map.mp h1
      obtain ⟨rb, hrb, rfl⟩ := List.mem_map.mp h2
      simp only [rwD, eOp, eVar, List.getElem?_cons_succ, List.getElem?_cons_zero, Out.bind]
      rw [opAdd_lst, if_pos (by rw [List.length_map, List.length_map, sA.2 _ hra, sB.2 _ hrb]; omega)])
  exact hl2.trans (congrArg (fun l => Out.val (D.lst l) S) zip_map)
theorem f_rows_n (wf : WF h) : ∀ (d f : Nat) {s : Sg} (S : Sto), d ≤ 6 → d < f → s.ok h.length → f_rows_of f [hsD h, .lst (whL h h.length), sgD s, .int d] S = .val (gridD (grid h d s)) S
  | d, 0, s, S, _, hf, _ => absurd hf (Nat.not_lt_zero _)
  | d, f + 1, s, S, hd, hf, ho => by
    show fn0 9 (b_rows_of (f_rows_of f)) [hsD h, .lst (whL h h.length), sgD s, .int d] S = _
    have e0 : (([hsD h, .lst (whL h h.length), sgD s, .int d] : List D).map some ++ List.replicate 9 none) = rr h s d := rfl
    have eb : b_rows_of (f_rows_of f) = sSeq (sIf (bOr (bVal (eOp opEq (eVar 3) (eC (.int 0)))) (bVal (eIsi ["str"] (eVar 2)))) sPow sSkip) (sSeq (sAsg (lcParts f) (tTupZ 4 (tsCons (tName 5) (tsCons (tName 6) (tsCons (tName 7) (tsCons (tName 8) tsNil)))))) (sRet lcJoin)) := rfl
    rw [fn0, e0, eb]
    have hflat := flat_n (S := S) wf ho hd
    cases s with
    | col x =>
      have ht := test_n (h := h) (S := S) (s := .col x) (d := d)
      rw [Bool.or_true] at ht
      rw [sSeq, sIf, ht, bind_val, if_pos rfl, hflat, bind_val]
      simp only
      rw [bind_val, grid_col]
      rfl
    | pan p t =>
      have ht := test_n (h := h) (S := S) (s := .pan p t) (d := d)
      rw [Bool.or_false] at ht
      cases d with
      | zero =>
        rw [sSeq, sIf, ht, bind_val, if_pos (by simp), hflat, bind_val]
        rfl
      | succ d =>
        have hp := pow64 (d := d) (by omega)
        have hpr := parts_n wf ho (f := f) (d := d) (S := S) fun s' ho' => f_rows_n wf d f S (by omega) (by omega) ho'
        have hj := join_n (S := S) hp (shape_grid h d (quar h (.pan p t) 0)) (shape_grid h d (quar h (.pan p t) 1)) (shape_grid h d (quar h (.pan p t) 2)) (shape_grid h d (quar h (.pan p t) 3)) (x0 := some (hsD h)) (x1 := some (.lst (whL h h.length))) (x2 := some (sgD (.pan p t))) (x3 := some (.int ((d + 1 : Nat) : Int)))
        have h1 : sAsg (lcParts f) (tTupZ 4 (tsCons (tName 5) (tsCons (tName 6) (tsCons (tName 7) (tsCons (tName 8) tsNil))))) (rr h (.pan p t) (d + 1)) S = .val (.nx [some (hsD h), some (.lst (whL h h.length)), some (sgD (.pan p t)), some (.int ((d + 1 : Nat) : Int)), none, some (gridD (grid h d (quar h (.pan p t) 0))), some (gridD (grid h d (quar h (.pan p t) 1))), some (gridD (grid h d (quar h (.pan p t) 2))), some (gridD (grid h d (quar h (.pan p t) 3))), none, none, none, none]) S := by
          rw [sAsg, hpr, bind_val]
          rfl
        have hs : sIf (bOr (bVal (eOp opEq (eVar 3) (eC (.int 0)))) (bVal (eIsi ["str"] (eVar 2)))) sPow sSkip (rr h (.pan p t) (d + 1)) S = .val (.nx (rr h (.pan p t) (d + 1))) S := by
          rw [sIf, ht, bind_val, if_neg (by simp)]
          rfl
        rw [sSeq, hs, bind_val]
        simp only
        rw [sSeq, h1, bind_val]
        simp only
        rw [sRet, hj, bind_val, bind_val]
        rfl
theorem f_drawn_n (wf : WF h) (hl : h.length ≤ 400) {s : Sg} (ho : s.ok h.length) {d : Nat} (hd : d < 4) : f_drawn [hsD h, sgD s, .int d] S = .val (gridD (grid h d s)) S := by
  have h1 := f_wholes_of_n wf (by omega : h.length ≤ 1000) S
  have h2 := f_rows_n wf d 4 S (by omega) hd ho
  show fn0 0 b_drawn [hsD h, sgD s, .int d] S = _
  refine fn0_ret ?_
  simp only [eCall, aCons, aNil, eVar, List.map_cons, List.map_nil, List.cons_append, List.nil_append, List.getElem?_cons_succ, List.getElem?_cons_zero, Out.bind, h1]
  exact h2
end
end Pg
set_option Elab.async false
set_option linter.all false
set_option maxRecDepth 100000
set_option maxHeartbeats 1000000
/-! SM1: pictures by what is seen along endless rows. -/
namespace Pg
open Z
open PySem (Str sizeLine)
/-! ### wholes stay as they are -/
theorem count_lt {β : Type} {P Q : β → Bool} : ∀ {l : List β}, (∀ x ∈ l, P x = true → Q x = true) → (∃ x ∈ l, P x = false ∧ Q x = true) → l.countP P < l.countP Q
  | [], _, h => by obtain ⟨x, hx, _⟩ := h; cases hx
  | a :: l, h, g => by
    have hle : ∀ {l : List β}, (∀ x ∈ l, P x = true → Q x = true) → l.countP P ≤ l.countP Q := fun h => List.countP_mono_left h
    rw [List.countP_cons, List.countP_cons]
    obtain ⟨x, hx, h1, h2⟩ := g
    rcases List.mem_cons.mp hx with e | e
    · subst e
      rw [h1, h2]
      have := hle fun y hy => h y (List.mem_cons_of_mem _ hy)
      simp
      omega
    · have ih := count_lt (l := l) (fun y hy => h y (List.mem_cons_of_mem _ hy)) ⟨x, e, h1, h2⟩
      have ha := h a List.mem_cons_self
      cases hp : P a with
      | false =>
        cases hq : Q a with
        | false => simpa using ih
        | true => simp; omega
      | true =>
        rw [ha hp]
        simpa using ih
section
variable {h : House}
theorem wh_out {k p : Nat} (hp : h.length ≤ p) : wh h k p = none := by
  cases k with
  | zero => rfl
  | succ k =>
    show oneOf ((h.getD p []).map (whBy (wh h k))) = none
    rw [show h.getD p [] = [] by simp [List.getD, List.getElem?_eq_none hp]]
    rfl
theorem wh_fix {k : Nat} (e : ∀ p, wh h (k + 1) p = wh h k p) : ∀ j p, wh h (k + j) p = wh h k p := by
  have e' : wh h (k + 1) = wh h k := funext e
  intro j
  induction j with
  | zero => intro p; rfl
  | succ j ih =>
    intro p
    show oneOf ((h.getD p []).map (whBy (wh h (k + j)))) = _
    rw [show wh h (k + j) = wh h k from funext ih]
    exact e p
theorem wh_stable (j p : Nat) : wh h (h.length + j) p = wh h h.length p := by
  have key : ∃ k, k ≤ h.length ∧ ∀ p, wh h (k + 1) p = wh h k p := by
    refine Classical.byContradiction fun hn => ?_
    have step : ∀ k, k ≤ h.length → ∃ p, wh h (k + 1) p ≠ wh h k p := fun k hk => Classical.byContradiction fun hm => hn ⟨k, hk, fun p => Classical.byContradiction fun hp => hm ⟨p, hp⟩⟩
    have cnt : ∀ k, k ≤ h.length + 1 → k ≤ (List.range h.length).countP fun p => (wh h k p).isSome := by
      intro k
      induction k with
      | zero => intro _; exact Nat.zero_le _
      | succ k ih =>
        intro hk
        obtain ⟨p, hp⟩ := step k (by omega)
        have h1 := ih (by omega)
        have hn : wh h k p = none := by
          cases e : wh h k p with
          | none => rfl
          | some c => rw [e, wh_mono h e] at hp; exact absurd rfl hp
        have hs : (wh h (k + 1) p).isSome = true := by
          cases e : wh h (k + 1) p with
          | none => rw [e, hn] at hp; exact absurd rfl hp
          | some c => rfl
        have hpl : p < h.length := by
          refine Classical.byContradiction fun hge => ?_
          rw [wh_out (by omega)] at hs
          cases hs
        have := count_lt (l := List.range h.length) (P := fun p => (wh h k p).isSome) (Q := fun p => (wh h (k + 1) p).isSome) (fun x _ hx => by
          obtain ⟨c, e⟩ := Option.isSome_iff_exists.mp hx
          rw [wh_mono h e]; rfl) ⟨p, List.mem_range.mpr hpl, by simp only [hn]; rfl, hs⟩
        omega
    have h1 := cnt (h.length + 1) (Nat.le_refl _)
    have h2 : (List.range h.length).countP (fun p => (wh h (h.length + 1) p).isSome) ≤ h.length := by
      have := List.countP_le_length (p := fun p => (wh h (h.length + 1) p).isSome) (l := List.range h.length)
      rwa [List.length_range] at this
    omega
  obtain ⟨k, hk, e⟩ := key
  have a1 := wh_fix e (h.length - k + j) p
  have a2 := wh_fix e (h.length - k) p
  rw [show k + (h.length - k + j) = h.length + j by omega] at a1
  rw [show k + (h.length - k) = h.length by omega] at a2
  rw [a1, a2]
theorem wls_succ (p : Nat) : oneOf ((h.getD p []).map (whBy (wls h))) = wls h p := wh_stable 1 p
/-- where all quarters are of one colour, so is all of it -/
theorem wls_of (wf : WF h) {p t : Nat} (ho : (Sg.pan p t).ok h.length) {c : Str} (e : ∀ q < 4, whBy (wls h) (quar h (.pan p t) q) = some c) : wls h p = some c := by
  rw [← wls_succ]
  have hr := wf (h[p]'ho.1) (List.getElem_mem ho.1)
  have eg : h.getD p [] = h[p]'ho.1 := by simp [List.getD, List.getElem?_eq_getElem ho.1]
  rw [eg]
  refine oneOf_of (fun z => ?_) fun x hx => ?_
  · have := congrArg List.length z
    rw [List.length_map, hr.1] at this
    cases this
  · obtain ⟨s, hs, rfl⟩ := List.mem_map.mp hx
    obtain ⟨i, hi, rfl⟩ := List.getElem_of_mem hs
    rw [hr.1] at hi
    have hb := bck_lt t ho.2
    have := e (shw (bck t) i) (shw_lt _ hb i hi)
    have es : shw t (shw (bck t) i) = i := by rw [← shw_beh t ho.2 (bck t) hb i hi, beh_bck t ho.2, shw_zero i hi]
    have eq : quar h (.pan p t) (shw (bck t) i) = (h[p]'ho.1)[i].turn t := by
      show ((h.getD p []).getD (shw t (shw (bck t) i)) default).turn t = _
      rw [es, eg]
      simp [List.getD, List.getElem?_eq_getElem (show i < (h[p]'ho.1).length by rw [hr.1]; exact hi)]
    rw [eq, whBy_turn] at this
    exact this
end
/-! ### endless rows -/
def Strm (σ : Nat → Nat) : Prop := ∀ m, σ m < 4
def walk (h : House) (s : Sg) (σ : Nat → Nat) : Nat → Sg
  | 0 => s
  | m + 1 => quar h (walk h s σ m) (σ m)
def ColS (h : House) (s : Sg) (σ : Nat → Nat) (c : Str) : Prop := ∃ m, walk h s σ m = .col c
/-- two pictures that look the same -/
def Sem (h : House) (s : Sg) (h' : House) (s' : Sg) : Prop := ∀ σ, Strm σ → ∀ c, ColS h s σ c ↔ ColS h' s' σ c
section
variable {h h' h'' : House} {s s' s'' : Sg} {σ : Nat → Nat}
theorem walk_ok (wf : WF h) (hσ : Strm σ) (ho : s.ok h.length) : ∀ m, (walk h s σ m).ok h.length
  | 0 => ho
  | m + 1 => quar_ok wf (hσ m) (walk_ok wf hσ ho m)
theorem walk_add (k : Nat) : ∀ m, walk h s σ (k + m) = walk h (walk h s σ k) (fun i => σ (k + i)) m
  | 0 => rfl
  | m + 1 => by show quar h (walk h s σ (k + m)) (σ (k + m)) = _; rw [walk_add k m]; rfl
theorem walk_succ (m : Nat) : walk h s σ (m + 1) = walk h (quar h s (σ 0)) (fun i => σ (i + 1)) m := by
  have := walk_add (h := h) (s := s) (σ := σ) 1 m
  rw [Nat.add_comm 1 m] at this
  rw [this]
  have e : (fun i => σ (1 + i)) = fun i => σ (i + 1) := funext fun i => by rw [Nat.add_comm]
  rw [e]
  rfl
theorem walk_col {c : Str} : ∀ m, walk h (.col c) σ m = .col c
  | 0 => rfl
  | m + 1 => by show quar h (walk h (.col c) σ m) (σ m) = _; rw [walk_col m]; rfl
theorem walk_stay {c : Str} {k m : Nat} (hk : k ≤ m) (e : walk h s σ k = .col c) : walk h s σ m = .col c := by
  obtain ⟨d, rfl⟩ : ∃ d, m = k + d := ⟨m - k, by omega⟩
  rw [walk_add, e, walk_col]
theorem ColS.unique {c d : Str} (a : ColS h s σ c) (b : ColS h s σ d) : c = d := by
  obtain ⟨m, e1⟩ := a
  obtain ⟨n, e2⟩ := b
  have f1 := walk_stay (m := m + n) (by omega) e1
  have f2 := walk_stay (m := m + n) (by omega) e2
  rw [f1] at f2
  cases f2
  rfl
theorem colS_step {c : Str} : ColS h s σ c ↔ ColS h (quar h s (σ 0)) (fun i => σ (i + 1)) c := by
  constructor
  · rintro ⟨m, e⟩
    exact ⟨m, by rw [← walk_succ]; exact walk_stay (by omega) e⟩
  · rintro ⟨m, e⟩
    exact ⟨m + 1, by rw [walk_succ]; exact e⟩
theorem colS_add (k : Nat) {c : Str} : ColS h s σ c ↔ ColS h (walk h s σ k) (fun i => σ (k + i)) c := by
  constructor
  · rintro ⟨m, e⟩
    exact ⟨m, by rw [← walk_add]; exact walk_stay (by omega) e⟩
  · rintro ⟨m, e⟩
    exact ⟨k + m, by rw [walk_add]; exact e⟩
def cons (q : Nat) (σ : Nat → Nat) : Nat → Nat
  | 0 => q
  | m + 1 => σ m
theorem strm_cons {q : Nat} (hq : q < 4) (hσ : Strm σ) : Strm (cons q σ)
  | 0 => hq
  | m + 1 => hσ m
theorem colS_cons {q : Nat} {c : Str} : ColS h s (cons q σ) c ↔ ColS h (quar h s q) σ c := colS_step
theorem colS_col {c d : Str} : ColS h (.col c) σ d ↔ c = d := ⟨fun ⟨m, e⟩ => by rw [walk_col] at e; cases e; rfl, fun e => ⟨0, by rw [e]; rfl⟩⟩
theorem Sem.refl : Sem h s h s := fun _ _ _ => Iff.rfl
theorem Sem.symm (e : Sem h s h' s') : Sem h' s' h s := fun σ hσ c => (e σ hσ c).symm
theorem Sem.trans (e : Sem h s h' s') (f : Sem h' s' h'' s'') : Sem h s h'' s'' := fun σ hσ c => (e σ hσ c).trans (f σ hσ c)
theorem Sem.quar (e : Sem h s h' s') {q : Nat} (hq : q < 4) : Sem h (Pg.quar h s q) h' (Pg.quar h' s' q) := fun σ hσ c => by
  rw [← colS_cons, ← colS_cons]
  exact e _ (strm_cons hq hσ) c
/-- by quarters -/
theorem Sem.of (e : ∀ q < 4, Sem h (Pg.quar h s q) h' (Pg.quar h' s' q)) : Sem h s h' s' := fun σ hσ c => by
  rw [colS_step, colS_step (s := s')]
  exact e (σ 0) (hσ 0) _ (fun m => hσ (m + 1)) c
theorem Sem.row (e : Sem h s h' s') : ∀ {row : List Nat}, (∀ q ∈ row, q < 4) → Sem h (sightAt h s row) h' (sightAt h' s' row) := by
  intro row
  induction row generalizing s s' with
  | nil => intro _; exact e
  | cons q row ih => intro hr; exact ih (e.quar (hr q List.mem_cons_self)) fun x hx => hr x (List.mem_cons_of_mem _ hx)
theorem walk_turn (wf : WF h) (hσ : Strm σ) (ho : s.ok h.length) {d : Nat} (hd : d < 8) : ∀ m, walk h (s.turn d) σ m = (walk h s (fun i => shw d (σ i)) m).turn d
  | 0 => rfl
  | m + 1 => by
    show quar h (walk h (s.turn d) σ m) (σ m) = _
    rw [walk_turn wf hσ ho hd m, quar_turn wf hd (hσ m) (walk_ok wf (fun i => shw_lt d hd _ (hσ i)) ho m)]
    rfl
theorem turn_col {s : Sg} {d : Nat} {c : Str} : s.turn d = .col c ↔ s = .col c := by
  cases s with
  | col x => exact Iff.rfl
  | pan p t => exact ⟨fun e => (nomatch e), fun e => (nomatch e)⟩
theorem colS_turn (wf : WF h) (hσ : Strm σ) (ho : s.ok h.length) {d : Nat} (hd : d < 8) {c : Str} : ColS h (s.turn d) σ c ↔ ColS h s (fun i => shw d (σ i)) c := by
  unfold ColS
  refine exists_congr fun m => ?_
  rw [walk_turn wf hσ ho hd, turn_col]
theorem Sem.turn (wf : WF h) (wf' : WF h') (ho : s.ok h.length) (ho' : s'.ok h'.length) (e : Sem h s h' s') {d : Nat} (hd : d < 8) : Sem h (s.turn d) h' (s'.turn d) := fun σ hσ c => by
  rw [colS_turn wf hσ ho hd, colS_turn wf' hσ ho' hd]
  exact e _ (fun i => shw_lt d hd _ (hσ i)) c
theorem Sem.col {c : Str} : Sem h (.col c) h' (.col c) := fun σ hσ d => by rw [colS_col, colS_col]
/-- all of one colour, by all rows -/
theorem whole_iff (wf : WF h) (ho : s.ok h.length) {c : Str} : whBy (wls h) s = some c ↔ ∀ σ, Strm σ → ColS h s σ c := by
  constructor
  · intro e σ hσ
    have key : ∀ (k : Nat) (s : Sg) (σ : Nat → Nat), Strm σ → s.ok h.length → whBy (wh h k) s = some c → ColS h s σ c := by
      intro k
      induction k with
      | zero =>
        intro s σ hσ ho e
        cases s with
        | col x => cases e; exact ⟨0, rfl⟩
        | pan p t => cases e
      | succ k ih =>
        intro s σ hσ ho e
        exact colS_step.mpr (ih _ _ (fun m => hσ (m + 1)) (quar_ok wf (hσ 0) ho) (whBy_quar wf (hσ 0) ho e))
    exact key _ s σ hσ ho e
  · intro e
    refine Classical.byContradiction fun hn => ?_
    -- a way along which it never comes to be whole
    have step : ∀ s : Sg, s.ok h.length → whBy (wls h) s ≠ some c → s ≠ .col c → ∃ q, q < 4 ∧ whBy (wls h) (quar h s q) ≠ some c := by
      intro s ho hn _
      refine Classical.byContradiction fun hm => ?_
      have all : ∀ q < 4, whBy (wls h) (quar h s q) = some c := fun q hq => Classical.byContradiction fun hx => hm ⟨q, hq, hx⟩
      cases s with
      | col x => exact hn (all 0 (by omega))
      | pan p t => exact hn (wls_of wf ho all)
    have nc : ∀ s : Sg, whBy (wls h) s ≠ some c → s ≠ .col c := fun s hn e => hn (by rw [e]; rfl)
    let nxt : {s : Sg // s.ok h.length ∧ whBy (wls h) s ≠ some c} → {s : Sg // s.ok h.length ∧ whBy (wls h) s ≠ some c} := fun s =>
      ⟨quar h s.1 (step s.1 s.2.1 s.2.2 (nc _ s.2.2)).choose, quar_ok wf (step s.1 s.2.1 s.2.2 (nc _ s.2.2)).choose_spec.1 s.2.1, (step s.1 s.2.1 s.2.2 (nc _ s.2.2)).choose_spec.2⟩
    let st : Nat → {s : Sg // s.ok h.length ∧ whBy (wls h) s ≠ some c} := fun m => Nat.rec ⟨s, ho, hn⟩ (fun _ x => nxt x) m
    let σ : Nat → Nat := fun m => (step (st m).1 (st m).2.1 (st m).2.2 (nc _ (st m).2.2)).choose
    have hσ : Strm σ := fun m => (step (st m).1 (st m).2.1 (st m).2.2 (nc _ (st m).2.2)).choose_spec.1
    have hw : ∀ m, walk h s σ m = (st m).1 := by
      intro m
      induction m with
      | zero => rfl
      | succ m ih =>
        show quar h (walk h s σ m) (σ m) = _
        rw [ih]
    obtain ⟨m, em⟩ := e σ hσ
    rw [hw m] at em
    exact nc _ (st m).2.2 em
theorem Sem.whole (wf : WF h) (wf' : WF h') (ho : s.ok h.length) (ho' : s'.ok h'.length) (e : Sem h s h' s') : whBy (wls h) s = whBy (wls h') s' := by
  have one : ∀ {h h' : House} {s s' : Sg}, WF h → WF h' → s.ok h.length → s'.ok h'.length → Sem h s h' s' → ∀ c, whBy (wls h) s = some c → whBy (wls h') s' = some c := fun wf wf' ho ho' e c hc =>
    (whole_iff wf' ho').mpr fun σ hσ => (e σ hσ c).mp ((whole_iff wf ho).mp hc σ hσ)
  cases e1 : whBy (wls h) s with
  | some c => exact (one wf wf' ho ho' e c e1).symm
  | none =>
    cases e2 : whBy (wls h') s' with
    | none => rfl
    | some c => rw [one wf' wf ho' ho e.symm c e2] at e1; cases e1
end
/-! ### marks and what is seen -/
section
variable {h : House} {mk : Nat → Nat → Nat} {s s' : Sg}
theorem Fin.walk (wf : WF h) (F : Fin h (wls h) mk) {σ : Nat → Nat} (hσ : Strm σ) (ho : s.ok h.length) (ho' : s'.ok h.length) (e : mv (wls h) mk s = mv (wls h) mk s') : ∀ m, mv (wls h) mk (walk h s σ m) = mv (wls h) mk (walk h s' σ m)
  | 0 => e
  | m + 1 => F.quar wf (hσ m) (walk_ok wf hσ ho m) (walk_ok wf hσ ho' m) (F.walk wf hσ ho ho' e m)
theorem Fin.sem (wf : WF h) (F : Fin h (wls h) mk) (ho : s.ok h.length) (ho' : s'.ok h.length) (e : mv (wls h) mk s = mv (wls h) mk s') : Sem h s h s' := by
  have one : ∀ {s s' : Sg}, s.ok h.length → s'.ok h.length → mv (wls h) mk s = mv (wls h) mk s' → ∀ σ, Strm σ → ∀ c, ColS h s σ c → ColS h s' σ c := by
    rintro s s' ho ho' e σ hσ c ⟨m, hm⟩
    have := F.walk wf hσ ho ho' e m
    rw [hm] at this
    have hw : whBy (wls h) (Pg.walk h s' σ m) = some c := mv_inl (this.symm.trans rfl)
    exact (colS_add m).mpr ((whole_iff wf (walk_ok wf hσ ho' m)).mp hw _ fun i => hσ _)
  exact fun σ hσ c => ⟨one ho ho' e σ hσ c, one ho' ho e.symm σ hσ c⟩
def allLooks (h : House) : List (Nat × Nat) := (List.range h.length).flatMap fun p => (List.range 8).map fun t => (p, t)
theorem mem_allLooks {p t : Nat} : (p, t) ∈ allLooks h ↔ p < h.length ∧ t < 8 := by
  unfold allLooks
  simp [List.mem_flatMap, List.mem_map, List.mem_range]
open Classical in
/-- a number for each look, the same where they look the same -/
noncomputable def smk (h : House) (p t : Nat) : Nat := (allLooks h).findIdx fun x => decide (Sem h (.pan p t) h (.pan x.1 x.2))
theorem smk_of {p t p' t' : Nat} (e : Sem h (.pan p t) h (.pan p' t')) : smk h p t = smk h p' t' := by
  unfold smk
  congr 1
  funext x
  exact decide_eq_decide.mpr ⟨fun g => e.symm.trans g, fun g => e.trans g⟩
theorem smk_sem {p t p' t' : Nat} (hp : p < h.length) (ht : t < 8) (hp' : p' < h.length) (ht' : t' < 8) (e : smk h p t = smk h p' t') : Sem h (.pan p t) h (.pan p' t') := by
  classical
  have one : ∀ {p t : Nat}, p < h.length → t < 8 → ∃ x, (allLooks h)[smk h p t]? = some x ∧ Sem h (.pan p t) h (.pan x.1 x.2) := by
    intro p t hp ht
    have hx : smk h p t < (allLooks h).length := List.findIdx_lt_length_of_exists ⟨(p, t), mem_allLooks.mpr ⟨hp, ht⟩, by simpa using Sem.refl⟩
    refine ⟨_, List.getElem?_eq_getElem hx, ?_⟩
    unfold smk at hx ⊢
    exact of_decide_eq_true (List.findIdx_getElem (w := hx))
  obtain ⟨x, h1, h2⟩ := one hp ht
  obtain ⟨y, h3, h4⟩ := one hp' ht'
  rw [e, h3] at h1
  cases h1
  exact h2.trans h4.symm
theorem sem_mv (wf : WF h) (ho : s.ok h.length) (ho' : s'.ok h.length) (e : Sem h s h s') : mv (wls h) (smk h) s = mv (wls h) (smk h) s' := by
  have hw := e.whole wf wf ho ho'
  cases hs : whBy (wls h) s with
  | some c => rw [mv_of hs, mv_of (hw.symm.trans hs)]
  | none =>
    rw [hs] at hw
    cases s with
    | col x => cases hs
    | pan p t =>
      cases s' with
      | col x => cases hw
      | pan p' t' => rw [mv_look (wl := wls h) hs, mv_look (wl := wls h) hw.symm, smk_of e]
/-- THE MEANING of marks -/
theorem Fin.iff (wf : WF h) (F : Fin h (wls h) mk) (ho : s.ok h.length) (ho' : s'.ok h.length) : mv (wls h) mk s = mv (wls h) mk s' ↔ Sem h s h s' := by
  refine ⟨F.sem wf ho ho', fun e => ?_⟩
  refine mv_finer (F.good.coarse (smk h) ?_) ho ho' (sem_mv wf ho ho' e)
  intro p t p' t' l l' e
  have := smk_sem l.1 l.2.1 l'.1 l'.2.1 e
  exact sig_of fun q hq => sem_mv wf (quar_ok wf hq ⟨l.1, l.2.1⟩) (quar_ok wf hq ⟨l'.1, l'.2.1⟩) (this.quar hq)
end
/-! ### a house in a greater one -/
section
variable {h : House} {s : Sg} {σ : Nat → Nat}
/-- what is seen in a house is seen in it with more panes behind -/
theorem quar_more (wf : WF h) (k : House) {q : Nat} (hq : q < 4) : ∀ {s : Sg}, s.ok h.length → quar (h ++ k) s q = quar h s q
  | .col x, _ => rfl
  | .pan p t, ho => by
    show (((h ++ k).getD p []).getD (shw t q) default).turn t = ((h.getD p []).getD (shw t q) default).turn t
    have : (h ++ k).getD p [] = h.getD p [] := by
      simp only [List.getD]
      rw [List.getElem?_append_left ho.1]
    rw [this]
theorem walk_more (wf : WF h) (k : House) (hσ : Strm σ) (ho : s.ok h.length) : ∀ m, walk (h ++ k) s σ m = walk h s σ m
  | 0 => rfl
  | m + 1 => by
    show quar (h ++ k) (walk (h ++ k) s σ m) (σ m) = _
    rw [walk_more wf k hσ ho m, quar_more wf k (hσ m) (walk_ok wf hσ ho m)]
    rfl
theorem sem_more (wf : WF h) (k : House) (ho : s.ok h.length) : Sem (h ++ k) s h s := fun σ hσ c => by
  unfold ColS
  exact exists_congr fun m => by rw [walk_more wf k hσ ho m]
end
end Pg
set_option Elab.async false
set_option linter.all false
set_option maxRecDepth 100000
set_option maxHeartbeats 1000000
/-! E2: rules of dicts by encoded keys; frames. -/
namespace Z
open PySem (Str sizeLine)
open L2 (atI ixN)
section
variable {S S' S'' : Sto} {d e k m : D} {ks vs : List D} {Q : D → Sto → Prop}
theorem opIn_dict (hm : dictOf S m = some (ks, vs)) (hk : isKey 8 k = true) : opIn k m S = .val (.bl (dGet ks vs k).isSome) S := by
  cases m with
  | dic a b => cases hm; simp [opIn, opInB, seqL, dictOf, hk]
  | ref n =>
    cases hs : S[n]? with
    | none => simp [dictOf, hs] at hm
    | some c =>
      cases c with
      | lst xs => simp [dictOf, hs] at hm
      | ins c fs => simp [dictOf, hs] at hm
      | dic lk a b =>
        simp only [dictOf, hs] at hm
        cases hm
        simp [opIn, opInB, seqL, dictOf, hs, hk]
  | _ => cases hm
theorem opNotIn_dict (hm : dictOf S m = some (ks, vs)) (hk : isKey 8 k = true) : opNotIn k m S = .val (.bl (!(dGet ks vs k).isSome)) S := by
  have := opIn_dict hm hk
  unfold opIn at this
  unfold opNotIn
  split at this
  · cases this; rfl
  · cases this
theorem w_in_d (hm : dictOf S m = some (ks, vs)) (hk : isKey 8 k = true) (q : Q (.bl (dGet ks vs k).isSome) S) : W (opIn k m S) Q := w_of (opIn_dict hm hk) q
theorem w_notIn_d (hm : dictOf S m = some (ks, vs)) (hk : isKey 8 k = true) (q : Q (.bl (!(dGet ks vs k).isSome)) S) : W (opNotIn k m S) Q := w_of (opNotIn_dict hm hk) q
theorem w_ix_d (hm : dictOf S m = some (ks, vs)) (hk : isKey 8 k = true) (hd : dGet ks vs k = some d) (q : Q d S) : W (opIx m k S) Q := w_of (Pg.opIx_dict hm hk hd) q
theorem w_get1 (hm : dictOf S m = some (ks, vs)) (hk : isKey 8 k = true) (q : Q ((dGet ks vs k).getD .non) S) : W (mGet1 m [k] S) Q := w_of (by simp only [mGet1, hm]; rw [if_pos hk]) q
theorem w_src_r {n : Nat} {ds : List D} {Z : Src → Sto → Prop} (hn : S[n]? = some (.lst ds)) (h : Z ⟨ds, fun S' => S'[n]? = some (.lst ds)⟩ S) : W (srcOf (.ref n) S) Z := w_of (by simp only [srcOf, hn]) h
theorem dictOf_r {n : Nat} {lk : Bool} (hn : S[n]? = some (.dic lk ks vs)) : dictOf S (.ref n) = some (ks, vs) := by simp only [dictOf, hn]
theorem insOf_r {n : Nat} {c : Str} {fs : List (Str × D)} (hn : S[n]? = some (.ins c fs)) : insOf c S (.ref n) = some fs := by simp only [insOf, hn, if_pos]
/-- other cells stay as they are -/
def Fr (X : List Nat) (S S' : Sto) : Prop := S.length ≤ S'.length ∧ ∀ i < S.length, i ∉ X → S'[i]? = S[i]?
theorem Fr.refl {X : List Nat} : Fr X S S := ⟨Nat.le_refl _, fun _ _ _ => rfl⟩
theorem Fr.trans {X : List Nat} (a : Fr X S S') (b : Fr X S' S'') : Fr X S S'' := ⟨Nat.le_trans a.1 b.1, fun i hi hx => (b.2 i (Nat.lt_of_lt_of_le hi a.1) hx).trans (a.2 i hi hx)⟩
theorem Fr.set {X : List Nat} {n : Nat} {c : Cel} (h : n ∈ X) : Fr X S (S.set n c) := ⟨by simp, fun i hi hx => List.getElem?_set_ne fun e => hx (by rw [← e]; exact h)⟩
theorem Fr.app {X : List Nat} {cs : List Cel} : Fr X S (S ++ cs) := ⟨by simp, fun i hi _ => List.getElem?_append_left hi⟩
theorem Fr.mono {X Y : List Nat} (a : Fr X S S') (h : ∀ i ∈ X, i ∈ Y ∨ S.length ≤ i) : Fr Y S S' := ⟨a.1, fun i hi hy => a.2 i hi fun hx => (h i hx).elim hy (fun h => by omega)⟩
theorem Fr.at_ {X : List Nat} (a : Fr X S S') {i : Nat} {c : Cel} (h : S[i]? = some c) (hx : i ∉ X) : S'[i]? = some c := by rw [a.2 i (List.getElem?_eq_some_iff.mp h).1 hx]; exact h
theorem Fr.ext (a : Fr [] S S') : Pg.Ext S.length S S' := ⟨a.1, fun i hi => a.2 i hi (by simp)⟩
theorem set_at {n : Nat} {c c' : Cel} (h : S[n]? = some c') : (S.set n c)[n]? = some c := List.getElem?_set_self (List.getElem?_eq_some_iff.mp h).1
theorem set_ne {n i : Nat} {c c' : Cel} (h : S[i]? = some c') (hne : n ≠ i) : (S.set n c)[i]? = some c' := by rw [List.getElem?_set_ne hne]; exact h
theorem app_old {cs : List Cel} {i : Nat} {c : Cel} (h : S[i]? = some c) : (S ++ cs)[i]? = some c := by rw [List.getElem?_append_left (List.getElem?_eq_some_iff.mp h).1]; exact h
theorem app_new {c : Cel} : (S ++ [c])[S.length]? = some c := by simp
theorem enums_at2 {ds : List D} {k : Nat} {d : D} (h : (enums ds)[k]? = some d) : ∃ e, ds[k]? = some e ∧ d = .tup [.int (k : Nat), e] := by
  unfold enums at h
  rw [List.getElem?_map, List.getElem?_zipIdx] at h
  cases e : ds[k]? with
  | none => rw [e] at h; cases h
  | some x =>
    rw [e] at h
    simp at h
    exact ⟨x, rfl, h.symm⟩
theorem isLs_r {n : Nat} {ds : List D} (h : S[n]? = some (.lst ds)) : isLs S (.ref n) = true := by simp only [isLs, seqL, h]; rfl
theorem isDc_d (h : dictOf S m = some (ks, vs)) : isDc S m = true := by unfold isDc; rw [h]; rfl
section
variable {β : Type} {ok : Sto → Prop} {G : D → Rho → M Rho} {c : Rho → M Bool} {ex : Rho → M D} {ρ : Rho} {T : List D → Sto → Prop}
/-- a list comprehension that writes nothing, over encoded items -/
theorem w_compM {l : List β} {f F : β → D} {p : β → Bool} (hok : ok S)
    (step : ∀ x ∈ l, W (G (f x) ρ S) fun ρ1 S1 => W (c ρ1 S1) fun q S2 => q = p x ∧ cnd q (W (ex ρ1 S2) fun y S3 => y = F x ∧ S3 = S) (S2 = S))
    (fin : T ((l.filter p).map F) S) : W (compL ok G c ex ρ (l.map f) S) T := by
  refine w_compL (fun k acc S' => S' = S ∧ acc = ((l.take k).filter p).map F) ⟨rfl, rfl⟩ (fun k acc S' h => by rw [h.1]; exact hok) ?_ ?_
  · rintro k d acc S' hk ⟨rfl, rfl⟩
    rw [List.getElem?_map] at hk
    obtain ⟨x, hx, rfl⟩ := Option.map_eq_some_iff.mp hk
    refine w_imp (step x (List.mem_of_getElem? hx)) fun ρ1 S1 h => w_imp h fun q S2 ⟨e, h⟩ => ?_
    have ht : l.take (k + 1) = l.take k ++ [x] := by rw [List.take_succ, hx]; rfl
    subst e
    refine ⟨fun e => w_imp (h.1 e) fun y S3 ⟨e1, e2⟩ => ⟨e2, ?_⟩, fun e => ⟨h.2 e, ?_⟩⟩
    · rw [ht, List.filter_append, List.map_append, e1]
      simp [e]
    · rw [ht, List.filter_append, List.map_append]
      simp [e]
  · rintro acc S' ⟨rfl, rfl⟩
    rw [List.length_map, List.take_length]
    exact fin
/-- of all -/
theorem w_compA {l : List β} {f F : β → D} (hok : ok S) (step : ∀ x ∈ l, W (G (f x) ρ S) fun ρ1 S1 => W (ex ρ1 S1) fun y S3 => y = F x ∧ S3 = S) (fin : T (l.map F) S) : W (compL ok G bYes ex ρ (l.map f) S) T := by
  refine w_compM (p := fun _ => true) hok (fun x hx => w_imp (step x hx) fun ρ1 S1 h => w_bYes ⟨rfl, cnd_true h⟩) ?_
  rw [List.filter_eq_self.mpr fun _ _ => rfl]
  exact fin
/-- a dict comprehension that writes nothing, over encoded items, with unlike keys -/
theorem w_gathM [DecidableEq β] {l : List β} {f : β → D} {g : β → D} {v : β → D} {p : β → Bool} {fk fv : Rho → M D} {V : KD → Sto → Prop} (kg : KeyF g) (hn : l.Nodup) (hl : l.length < 1000000) (hok : ok S)
    (step : ∀ x ∈ l, W (G (f x) ρ S) fun ρ1 S1 => W (c ρ1 S1) fun q S2 => q = p x ∧ cnd q (W (fk ρ1 S2) fun y S3 => y = g x ∧ S3 = S ∧ W (fv ρ1 S3) fun z S4 => z = v x ∧ S4 = S) (S2 = S))
    (fin : V ((l.filter p).map g, (l.filter p).map v) S) : W (compG ok G c (bDic fk fv) ρ (l.map f) ([], []) S) V := by
  refine w_compG (fun k acc S' => S' = S ∧ acc = (((l.take k).filter p).map g, ((l.take k).filter p).map v)) ⟨rfl, rfl⟩ (fun k acc S' h => by rw [h.1]; exact hok) ?_ ?_
  · rintro k d acc S' hk ⟨rfl, rfl⟩
    rw [List.getElem?_map] at hk
    obtain ⟨x, hx, rfl⟩ := Option.map_eq_some_iff.mp hk
    have hkl := (List.getElem?_eq_some_iff.mp hx).1
    refine w_imp (step x (List.mem_of_getElem? hx)) fun ρ1 S1 h => w_imp h fun q S2 ⟨e, h⟩ => ?_
    have ht : l.take (k + 1) = l.take k ++ [x] := by rw [List.take_succ, hx]; rfl
    subst e
    refine ⟨fun e => ?_, fun e => ⟨h.2 e, ?_⟩⟩
    · refine w_bDic (w_imp (h.1 e) fun y S3 ⟨e1, e2, h3⟩ => w_imp h3 fun z S4 ⟨e3, e4⟩ => ?_)
      subst e1 e3
      have hnx : x ∉ (l.take k).filter p := fun hm => by
        obtain ⟨j, hj, ej⟩ := List.mem_iff_getElem.mp (List.mem_filter.mp hm).1
        rw [List.length_take] at hj
        rw [List.getElem_take] at ej
        have := (List.getElem?_inj (i := j) (j := k) (by omega) hn).mp (by rw [hx, List.getElem?_eq_getElem (by omega), ej])
        omega
      refine ⟨kg.key x, ?_, e4, ?_⟩
      · rw [List.length_map]
        have := List.length_filter_le p (l.take k)
        rw [List.length_take] at this
        omega
      · rw [dPut_new kg hnx (by simp), ht, List.filter_append, List.map_append, List.map_append]
        simp [e]
    · rw [ht, List.filter_append, List.map_append]
      simp [e]
  · rintro acc S' ⟨rfl, rfl⟩
    rw [List.length_map, List.take_length]
    exact fin
end
end
end Z
set_option Elab.async false
set_option linter.all false
set_option maxRecDepth 100000
set_option maxHeartbeats 1000000
/-! ED1: going through all that is come to; edges, plainly. -/
namespace Pg
open Z
open PySem (Str sizeLine)
/-! ### all that is come to -/
section
variable {σ : Type}
structure Expl (k : Nat) (step : σ → Nat → σ) (s0 : σ) (L : List σ) (row : σ → List Nat) : Prop where
  head : s0 ∈ L
  nodup : L.Nodup
  closed : ∀ p ∈ L, ∀ i < k, step p i ∈ L
  way : ∀ p ∈ L, (row p).foldl step s0 = p ∧ ∀ q ∈ row p, q < k
theorem nodup_le [DecidableEq σ] : ∀ {L U : List σ}, L.Nodup → (∀ x ∈ L, x ∈ U) → L.length ≤ U.length
  | [], U, _, _ => Nat.zero_le _
  | x :: L, U, hn, hs => by
    rw [List.nodup_cons] at hn
    have hx := hs x List.mem_cons_self
    have ih := nodup_le (L := L) (U := U.erase x) hn.2 fun y hy => by
      have : y ≠ x := fun e => hn.1 (by rw [← e]; exact hy)
      exact (List.mem_erase_of_ne this).mpr (hs y (List.mem_cons_of_mem _ hy))
    rw [List.length_erase_of_mem hx] at ih
    have := List.length_pos_of_mem hx
    rw [List.length_cons]
    omega
end
/-! ### the sights that may be come to -/
def looksS (h : House) : List Sg := (allLooks h).map fun x => .pan x.1 x.2
def univ (h : House) (xs : List Sg) : List Sg := looksS h ++ (h.flatten ++ xs)
theorem mem_looksS {h : House} {p t : Nat} : Sg.pan p t ∈ looksS h ↔ p < h.length ∧ t < 8 := by
  unfold looksS
  rw [List.mem_map]
  constructor
  · rintro ⟨x, hx, e⟩
    cases e
    exact mem_allLooks.mp hx
  · intro hx
    exact ⟨(p, t), mem_allLooks.mpr hx, rfl⟩
theorem univ_quar {h : House} (wf : WF h) {xs : List Sg} {s : Sg} {q : Nat} (hq : q < 4) (ho : s.ok h.length) (hs : s ∈ univ h xs) : quar h s q ∈ univ h xs := by
  cases s with
  | col c => exact hs
  | pan p t =>
    have o := quar_ok wf hq ho
    obtain ⟨r, s, e1, e2, e3, os⟩ := cell_at wf ho.1 (shw_lt t ho.2 q hq)
    have eq : quar h (.pan p t) q = s.turn t := by
      show ((h.getD p []).getD (shw t q) default).turn t = _
      rw [e3]
    rw [eq] at o ⊢
    cases s with
    | col c => exact List.mem_append.mpr (.inr (List.mem_append.mpr (.inl (List.mem_flatten.mpr ⟨r, List.mem_of_getElem? e1, List.mem_of_getElem? e2⟩))))
    | pan p' t' => exact List.mem_append.mpr (.inl (mem_looksS.mpr ⟨o.1, o.2⟩))
theorem univ_len {h : House} (wf : WF h) (xs : List Sg) : (univ h xs).length = 12 * h.length + xs.length := by
  have h1 : (looksS h).length = 8 * h.length := by
    unfold looksS allLooks
    rw [List.length_map, List.length_flatMap]
    simp only [List.length_map, List.length_range]
    have : ∀ n : Nat, ((List.range n).map fun _ => 8).sum = 8 * n := by
      intro n
      induction n with
      | zero => rfl
      | succ n ih => rw [List.range_succ, List.map_append, List.sum_append, ih]; simp; omega
    exact this _
  have h2 : h.flatten.length = 4 * h.length := by
    have : ∀ l : House, (∀ r ∈ l, r.length = 4) → l.flatten.length = 4 * l.length := by
      intro l
      induction l with
      | nil => intro _; rfl
      | cons r l ih => intro hl; rw [List.flatten_cons, List.length_append, hl r List.mem_cons_self, ih fun x hx => hl x (List.mem_cons_of_mem _ hx), List.length_cons]; omega
    exact this h fun r hr => (wf r hr).1
  unfold univ
  rw [List.length_append, List.length_append, h1, h2]
  omega
/-! ### edges -/
abbrev Pr := Sg × Sg
def hp (h : House) (p : Pr) (i : Nat) : Pr := (quar h p.1 (1 + 2 * i), quar h p.2 (2 * i))
def endd : Pr → Bool
  | (.col _, .col _) => true
  | _ => false
def lone : Pr → Bool
  | (.col _, .pan _ _) => true
  | (.pan _ _, .col _) => true
  | _ => false
def okPr (h : House) (p : Pr) : Prop := p.1.ok h.length ∧ p.2.ok h.length
theorem hp_ok {h : House} (wf : WF h) {p : Pr} (ho : okPr h p) {i : Nat} (hi : i < 2) : okPr h (hp h p i) := ⟨quar_ok wf (by omega) ho.1, quar_ok wf (by omega) ho.2⟩
theorem rows_ok {h : House} (wf : WF h) : ∀ {r : List Nat} {p : Pr}, (∀ q ∈ r, q < 2) → okPr h p → okPr h (r.foldl (hp h) p)
  | [], p, _, ho => ho
  | q :: r, p, hr, ho => rows_ok wf (r := r) (fun x hx => hr x (List.mem_cons_of_mem _ hx)) (hp_ok wf ho (hr q List.mem_cons_self))
def Bin (β : Nat → Nat) : Prop := ∀ m, β m < 2
def rgt (β : Nat → Nat) : Nat → Nat := fun m => 1 + 2 * β m
def lft (β : Nat → Nat) : Nat → Nat := fun m => 2 * β m
theorem rgt_strm {β : Nat → Nat} (hb : Bin β) : Strm (rgt β) := fun m => by have := hb m; unfold rgt; omega
theorem lft_strm {β : Nat → Nat} (hb : Bin β) : Strm (lft β) := fun m => by have := hb m; unfold lft; omega
/-- two edges that fit: nothing tells them apart -/
def FitS (h : House) (a : Sg) (k : House) (b : Sg) : Prop := ∀ β, Bin β → ∀ c, ColS h a (rgt β) c ↔ ColS k b (lft β) c
def pat (h : House) (p : Pr) (β : Nat → Nat) : Nat → Pr
  | 0 => p
  | m + 1 => hp h (pat h p β m) (β m)
theorem pat_walk (h : House) (p : Pr) (β : Nat → Nat) : ∀ m, pat h p β m = (walk h p.1 (rgt β) m, walk h p.2 (lft β) m)
  | 0 => rfl
  | m + 1 => by show hp h (pat h p β m) (β m) = _; rw [pat_walk h p β m]; rfl
theorem pat_row (h : House) (p : Pr) (r : List Nat) (β : Nat → Nat) (hb : ∀ i (hi : i < r.length), β i = r[i]) : pat h p β r.length = r.foldl (hp h) p := by
  have key : ∀ k, k ≤ r.length → pat h p β k = (r.take k).foldl (hp h) p := by
    intro k
    induction k with
    | zero => intro _; rfl
    | succ k ih =>
      intro hk
      have hk' : k < r.length := hk
      rw [List.take_succ, List.getElem?_eq_getElem hk', List.foldl_append, ← ih (by omega)]
      show hp h (pat h p β k) (β k) = _
      rw [hb k hk']
      rfl
  have := key r.length (Nat.le_refl _)
  rwa [List.take_length] at this
structure EdgeR (h : House) (p0 : Pr) (L : List Pr) (row : Pr → List Nat) (N : Pr → Option Nat) : Prop where
  ex : Expl 2 (hp h) p0 L row
  num0 : ∀ p ∈ L, lone p = false → N p = some 0
  numl : ∀ p ∈ L, lone p = true → ∀ n, N p = some n → ∀ i < 2, ∃ m, N (hp h p i) = some m ∧ m < n
  numx : ∀ p ∈ L, lone p = true → N p = none → ∃ i, i < 2 ∧ N (hp h p i) = none
section
variable {h : House} {p0 : Pr} {L : List Pr} {row : Pr → List Nat} {N : Pr → Option Nat}
theorem EdgeR.pat_mem (E : EdgeR h p0 L row N) {p : Pr} (hp : p ∈ L) {β : Nat → Nat} (hb : Bin β) : ∀ m, pat h p β m ∈ L
  | 0 => hp
  | m + 1 => E.ex.closed _ (E.pat_mem hp hb m) _ (hb m)
/-- a colour on the one side comes to be met -/
theorem EdgeR.meets (E : EdgeR h p0 L row N) (g1 : ∀ p ∈ L, endd p = true → p.1 = p.2) (g2 : ∀ p ∈ L, N p ≠ none) {c : Str} : ∀ (n : Nat) (p : Pr), p ∈ L → N p = some n → ∀ β, Bin β →
    (p.1 = .col c → ColS h p.2 (lft β) c) ∧ (p.2 = .col c → ColS h p.1 (rgt β) c) := by
  intro n
  induction n using Nat.strongRecOn with
  | ind n ih =>
    intro p hp hn β hb
    obtain ⟨a, b⟩ := p
    have next := E.ex.closed _ hp _ (hb 0)
    have hβ : Bin fun i => β (i + 1) := fun m => hb (m + 1)
    constructor
    · intro ea
      cases ea
      cases b with
      | col d => have := g1 _ hp rfl; cases this; exact ⟨0, rfl⟩
      | pan p t =>
        obtain ⟨m, hm, hmn⟩ := E.numl _ hp rfl n hn (β 0) (hb 0)
        have := (ih m hmn _ next hm _ hβ).1 rfl
        exact colS_step.mpr this
    · intro eb
      cases eb
      cases a with
      | col d => have := g1 _ hp rfl; cases this; exact ⟨0, rfl⟩
      | pan p t =>
        obtain ⟨m, hm, hmn⟩ := E.numl _ hp rfl n hn (β 0) (hb 0)
        have := (ih m hmn _ next hm _ hβ).2 rfl
        exact colS_step.mpr this
/-- a way of halves through pairs without a number -/
theorem EdgeR.away (E : EdgeR h p0 L row N) {p : Pr} (hpL : p ∈ L) (hn : N p = none) : ∃ β, Bin β ∧ ∀ m, pat h p β m ∈ L ∧ N (pat h p β m) = none := by
  have lo : ∀ p ∈ L, N p = none → lone p = true := fun p hp hn => by
    cases e : lone p with
    | true => rfl
    | false => rw [E.num0 p hp e] at hn; cases hn
  let T := {p : Pr // p ∈ L ∧ N p = none}
  have stp : ∀ p : T, ∃ i, i < 2 ∧ N (hp h p.1 i) = none := fun p => E.numx p.1 p.2.1 (lo _ p.2.1 p.2.2) p.2.2
  let nxt : T → T := fun p => ⟨hp h p.1 (stp p).choose, E.ex.closed _ p.2.1 _ (stp p).choose_spec.1, (stp p).choose_spec.2⟩
  let st : Nat → T := fun m => Nat.rec ⟨p, hpL, hn⟩ (fun _ x => nxt x) m
  refine ⟨fun m => (stp (st m)).choose, fun m => (stp (st m)).choose_spec.1, ?_⟩
  have hw : ∀ m, pat h p (fun m => (stp (st m)).choose) m = (st m).1 := by
    intro m
    induction m with
    | zero => rfl
    | succ m ih =>
      show hp h (pat h p _ m) _ = _
      rw [ih]
  intro m
  rw [hw m]
  exact (st m).2
/-- THE MEANING of the pairs -/
theorem EdgeR.iff (E : EdgeR h p0 L row N) : ((∀ p ∈ L, endd p = true → p.1 = p.2) ∧ ∀ p ∈ L, N p ≠ none) ↔ FitS h p0.1 h p0.2 := by
  constructor
  · rintro ⟨g1, g2⟩ β hb c
    have at_ : ∀ m, pat h p0 β m ∈ L := E.pat_mem E.ex.head hb
    constructor
    · rintro ⟨m, em⟩
      obtain ⟨n, hn⟩ := Option.ne_none_iff_exists'.mp (g2 _ (at_ m))
      have := (E.meets (c := c) g1 g2 n _ (at_ m) hn (fun i => β (m + i)) fun i => hb _).1 (by rw [pat_walk]; exact em)
      rw [pat_walk] at this
      exact (colS_add m).mpr this
    · rintro ⟨m, em⟩
      obtain ⟨n, hn⟩ := Option.ne_none_iff_exists'.mp (g2 _ (at_ m))
      have := (E.meets (c := c) g1 g2 n _ (at_ m) hn (fun i => β (m + i)) fun i => hb _).2 (by rw [pat_walk]; exact em)
      rw [pat_walk] at this
      exact (colS_add m).mpr this
  · intro F
    -- a row, and then any halves
    let cat : List Nat → (Nat → Nat) → Nat → Nat := fun r β i => if hi : i < r.length then r[i] else β (i - r.length)
    have catB : ∀ {r : List Nat} {β : Nat → Nat}, (∀ q ∈ r, q < 2) → Bin β → Bin (cat r β) := fun {r β} hr hb m => by
      show (if hi : m < r.length then r[m] else β (m - r.length)) < 2
      by_cases hi : m < r.length
      · rw [dif_pos hi]; exact hr _ (List.getElem_mem hi)
      · rw [dif_neg hi]; exact hb _
    have catP : ∀ (r : List Nat) (β : Nat → Nat), pat h p0 (cat r β) r.length = r.foldl (hp h) p0 := fun r β => pat_row h p0 r _ fun i hi => by
      show (if hi : i < r.length then r[i] else β (i - r.length)) = _
      rw [dif_pos hi]
    have catS : ∀ (r : List Nat) (β : Nat → Nat), (fun i => cat r β (r.length + i)) = β := fun r β => funext fun i => by
      show (if hi : r.length + i < r.length then r[r.length + i] else β (r.length + i - r.length)) = _
      rw [dif_neg (by omega)]
      congr 1
      omega
    constructor
    · intro p hp he
      obtain ⟨hw, hr⟩ := E.ex.way p hp
      have hz : Bin fun _ => 0 := fun _ => by show 0 < 2; omega
      have pp := catP (row p) fun _ => 0
      rw [hw, pat_walk] at pp
      obtain ⟨a, b⟩ := p
      cases a with
      | pan _ _ => cases he
      | col c =>
        cases b with
        | pan _ _ => cases he
        | col d =>
          have e1 := congrArg Prod.fst pp
          have e2 := congrArg Prod.snd pp
          have h1 := (F _ (catB hr hz) c).mp ⟨_, e1⟩
          have := ColS.unique h1 ⟨_, e2⟩
          subst this
          rfl
    · intro p hp hn
      obtain ⟨hw, hr⟩ := E.ex.way p hp
      obtain ⟨β, hb, ha⟩ := E.away hp hn
      have pp := catP (row p) β
      rw [hw, pat_walk] at pp
      have e1 := congrArg Prod.fst pp
      have e2 := congrArg Prod.snd pp
      simp only at e1 e2
      have lo : ∀ m, lone (pat h p β m) = true := fun m => by
        cases e : lone (pat h p β m) with
        | true => rfl
        | false => have := E.num0 _ (ha m).1 e; rw [(ha m).2] at this; cases this
      have lo0 := lo 0
      have Fc := F _ (catB hr hb)
      obtain ⟨a, b⟩ := p
      cases a with
      | col c =>
        have h1 := (Fc c).mp ⟨_, e1⟩
        have h2 := (colS_add (row (.col c, b)).length).mp h1
        rw [e2] at h2
        have e3 : (fun i => lft (cat (row (.col c, b)) β) ((row (.col c, b)).length + i)) = lft β := by
          funext i
          show 2 * cat _ β _ = 2 * β i
          rw [congrFun (catS (row (.col c, b)) β) i]
        rw [e3] at h2
        obtain ⟨m, hm⟩ := h2
        have := lo m
        rw [pat_walk] at this
        simp only at this
        rw [hm, walk_col] at this
        cases this
      | pan p t =>
        cases b with
        | pan _ _ => cases lo0
        | col c =>
          have h1 := (Fc c).mpr ⟨_, e2⟩
          have h2 := (colS_add (row (.pan p t, .col c)).length).mp h1
          rw [e1] at h2
          have e3 : (fun i => rgt (cat (row (.pan p t, .col c)) β) ((row (.pan p t, .col c)).length + i)) = rgt β := by
            funext i
            show 1 + 2 * cat _ β _ = 1 + 2 * β i
            rw [congrFun (catS (row (.pan p t, .col c)) β) i]
          rw [e3] at h2
          obtain ⟨m, hm⟩ := h2
          have := lo m
          rw [pat_walk] at this
          simp only at this
          rw [hm, walk_col] at this
          cases this
end
end Pg
set_option Elab.async false
set_option linter.all false
set_option maxRecDepth 100000
set_option maxHeartbeats 1000000
local macro_rules | `(tactic| mem_news) => `(tactic| first | with_reducible refine Z.Ru.use ?_ | ((with_reducible refine Z.side_i ?_ ?_); focus (first | omega | with_reducible assumption | exact Z.mulOk_l (by omega) (by omega) | exact Z.mulOk_r (by omega) (by omega) | (simp only [Z.rangeD_len, List.length_map, List.length_cons, List.length_nil, Z.enums, List.length_zipIdx, List.length_append, List.length_replicate, Z.zips, List.length_zip]; first | done | omega) | (refine Nat.le_trans Z.cutL_len ?_; simp only [List.length_map]; first | (refine Nat.le_trans (List.length_filter_le _ _) ?_; simp; done) | omega) | (simp only [Z.isLs, Z.isDc, Z.isSt, Z.seqL, Z.dictOf, *, Option.isSome]; done))) | ((with_reducible refine Z.w_tyQ (b := true) ?_ ?_); focus rfl) | ((with_reducible refine Z.w_tyQ (b := false) ?_ ?_); focus rfl))
/-! ED2: edges: going through pairs. -/
namespace Pg
open Z
open PySem (Str sizeLine)
def prD (p : Pr) : D := .tup [sgD p.1, sgD p.2]
theorem prD_inj {a b : Pr} (h : nkey (prD a) = nkey (prD b)) : a = b := by
  obtain ⟨a1, a2⟩ := a
  obtain ⟨b1, b2⟩ := b
  unfold prD at h
  simp only [nkey, List.map_cons, List.map_nil, PySem.NestedKey.tup.injEq, List.cons.injEq, and_true] at h
  rw [key_sg.inj _ _ h.1, key_sg.inj _ _ h.2]
theorem key_pr : KeyF prD := ⟨fun a b h => prD_inj h, fun a => by
  obtain ⟨a, b⟩ := a
  cases a <;> cases b <;> rfl⟩
section
variable {h : House} {p : Pr} {S : Sto} {Q : D → Sto → Prop}
theorem f_half_pair_n (wf : WF h) (ho : okPr h p) {i : Nat} (hi : i < 2) : f_half_pair [hsD h, prD p, .int (i : Nat)] S = .val (prD (hp h p i)) S := by
  refine w_eq ?_
  unfold f_half_pair b_half_pair prD
  ((repeat (first | mem_news | with_reducible refine Z.stop_for ?_)); try with_reducible refine Z.Stop.mk ?_)
  have e1 : (1 : Int) + 2 * (i : Int) = ((1 + 2 * i : Nat) : Int) := by omega
  rw [e1]
  refine w_of (f_quarter_of_n wf (by omega) _ ho.1) ?_
  ((repeat (first | mem_news | with_reducible refine Z.stop_for ?_)); try with_reducible refine Z.Stop.mk ?_)
  have e2 : (2 : Int) * (i : Int) = ((2 * i : Nat) : Int) := by omega
  rw [e2]
  refine w_of (f_quarter_of_n wf (by omega) _ ho.2) ?_
  ((repeat (first | mem_news | with_reducible refine Z.stop_for ?_)); try with_reducible refine Z.Stop.mk ?_)
  exact ⟨rfl, rfl⟩
theorem f_halves_of_n (wf : WF h) (ho : okPr h p) : f_halves_of [hsD h, prD p] S = .val (.lst [prD (hp h p 0), prD (hp h p 1)]) S := by
  refine w_eq ?_
  unfold f_halves_of b_halves_of c_HALVES
  ((repeat (first | mem_news | with_reducible refine Z.stop_for ?_)); try with_reducible refine Z.Stop.mk ?_)
  refine w_comp1 (fun d => match d with | .int i => prD (hp h p i.toNat) | _ => .non) True.intro (fun d hd => ?_) ?_
  · obtain ⟨i, hi, rfl⟩ := rangeD_mem hd
    ((repeat (first | mem_news | with_reducible refine Z.stop_for ?_)); try with_reducible refine Z.Stop.mk ?_)
    refine w_of (f_half_pair_n wf ho (show i < 2 from hi)) ⟨?_, rfl⟩
    simp
  · ((repeat (first | mem_news | with_reducible refine Z.stop_for ?_)); try with_reducible refine Z.Stop.mk ?_)
    exact ⟨rfl, rfl⟩
theorem f_is_lone_n : f_is_lone [prD p] S = .val (.bl (lone p)) S := by
  obtain ⟨a, b⟩ := p
  cases a <;> cases b <;> rfl
theorem f_is_ended_n : f_is_ended [prD p] S = .val (.bl (endd p)) S := by
  obtain ⟨a, b⟩ := p
  cases a <;> cases b <;> rfl
/-- an Edge, as it stands -/
structure EO (h : House) (n r q u : Nat) (S : Sto) : Prop where
  ins : S[n]? = some (.ins "Edge" [("own_house", hsD h), ("rows", .ref r), ("pairs", .ref q), ("numbers", .ref u)])
  rq : r ≠ q
  nr : n ≠ r
  nq : n ≠ q
/-- pairs and rows, as they stand -/
structure RP (r q : Nat) (S : Sto) (L : List Pr) (row : Pr → List Nat) : Prop where
  rows : S[r]? = some (.dic false (L.map prD) (L.map fun p => rowD (row p)))
  pairs : S[q]? = some (.lst (L.map prD))
/-- what is true of the pairs gone through so far; of the first i all halves are there -/
structure Gone (h : House) (p0 : Pr) (U : List Pr) (L : List Pr) (row : Pr → List Nat) : Prop where
  head : p0 ∈ L
  nodup : L.Nodup
  way : ∀ p ∈ L, (row p).foldl (hp h) p0 = p ∧ (∀ q ∈ row p, q < 2) ∧ (row p).length ≤ L.length
  ok : ∀ p ∈ L, okPr h p
  sub : ∀ p ∈ L, p ∈ U
theorem Gone.add {p0 : Pr} {U L : List Pr} {row : Pr → List Nat} (wf : WF h) (hU : ∀ p ∈ U, okPr h p → ∀ i < 2, hp h p i ∈ U) (G : Gone h p0 U L row) {p : Pr} (hpL : p ∈ L) {i : Nat} (hi : i < 2) (hn : hp h p i ∉ L) :
    Gone h p0 U (L ++ [hp h p i]) (fun x => if x = hp h p i then row p ++ [i] else row x) := by
  obtain ⟨w1, w2, w3⟩ := G.way p hpL
  refine ⟨List.mem_append.mpr (.inl G.head), ?_, fun x hx => ?_, fun x hx => ?_, fun x hx => ?_⟩
  · rw [List.nodup_append]
    refine ⟨G.nodup, by simp, fun a ha b hb e => ?_⟩
    rw [List.mem_singleton] at hb
    subst hb
    exact hn (by rw [← e]; exact ha)
  · rw [List.length_append, List.length_singleton]
    by_cases e : x = hp h p i
    · simp only [if_pos e]
      refine ⟨by rw [List.foldl_append, w1, e]; rfl, fun q hq => ?_, by rw [List.length_append, List.length_singleton]; omega⟩
      rcases List.mem_append.mp hq with hq | hq
      · exact w2 q hq
      · rw [List.mem_singleton] at hq; omega
    · simp only [if_neg e]
      have hxL : x ∈ L := by
        rcases List.mem_append.mp hx with hx | hx
        · exact hx
        · rw [List.mem_singleton] at hx; exact absurd hx e
      obtain ⟨a, b, c⟩ := G.way x hxL
      exact ⟨a, b, by omega⟩
  · rcases List.mem_append.mp hx with hx | hx
    · exact G.ok x hx
    · rw [List.mem_singleton] at hx; subst hx; exact hp_ok wf (G.ok p hpL) hi
  · rcases List.mem_append.mp hx with hx | hx
    · exact G.sub x hx
    · rw [List.mem_singleton] at hx; subst hx; exact hU p (G.sub p hpL) (G.ok p hpL) i hi
theorem RP.add {r q : Nat} {L : List Pr} {row : Pr → List Nat} {x : Pr} {w : List Nat} (rp : RP r q S L row) (hne : r ≠ q) (hx : x ∉ L) :
    RP r q ((S.set r (.dic false (dPut (L.map prD) (L.map fun p => rowD (row p)) (prD x) (rowD w)).1 (dPut (L.map prD) (L.map fun p => rowD (row p)) (prD x) (rowD w)).2)).set q (.lst (L.map prD ++ [prD x]))) (L ++ [x]) (fun y => if y = x then w else row y) := by
  rw [dPut_new key_pr hx (by simp)]
  have e : (L.map fun p => rowD (row p)) ++ [rowD w] = (L ++ [x]).map fun p => rowD (if p = x then w else row p) := by
    rw [List.map_append]
    congr 1
    · exact List.map_congr_left fun p hp => by rw [if_neg fun e => hx (by rw [← e]; exact hp)]
    · simp
  refine ⟨?_, ?_⟩
  · refine set_ne (c' := _) ?_ (Ne.symm hne)
    rw [set_at rp.rows, e]
  · rw [set_at (c' := .lst (L.map prD)) (set_ne rp.pairs hne), List.map_append]
    rfl
theorem f_walk_n {n r q u : Nat} {p0 : Pr} {U : List Pr} (wf : WF h) (eo : EO h n r q u S) (rp : RP r q S [p0] fun _ => []) (ho : okPr h p0) (h0 : p0 ∈ U) (hU : ∀ p ∈ U, okPr h p → ∀ i < 2, hp h p i ∈ U) (hl : U.length ≤ 900000) :
    W (f_Edge_walk [.ref n] S) fun d S' => d = .non ∧ Fr [r, q] S S' ∧ ∃ L row, RP r q S' L row ∧ Gone h p0 U L row ∧ Expl 2 (hp h) p0 L row := by
  unfold f_Edge_walk b_Edge_walk
  ((repeat (first | mem_news | with_reducible refine Z.stop_for ?_)); try with_reducible refine Z.Stop.mk ?_)
  have lenU : ∀ {L : List Pr} {row : Pr → List Nat}, Gone h p0 U L row → L.length ≤ U.length := fun G => nodup_le G.nodup G.sub
  refine w_sWhile (fun k ρ S' => ∃ (i : Nat) (x2 x3 x4 : Option D) (L : List Pr) (row : Pr → List Nat), ρ = [some (.ref n), some (.int (i : Nat)), x2, x3, x4] ∧ Fr [r, q] S S' ∧ RP r q S' L row ∧ Gone h p0 U L row ∧ (∀ p ∈ L.take i, ∀ j < 2, hp h p j ∈ L) ∧ i ≤ L.length ∧ k = U.length - i) (n := U.length) ?_ ?_
  · refine ⟨0, none, none, none, [p0], fun _ => [], rfl, Fr.refl, rp, ⟨List.mem_singleton.mpr rfl, by simp, fun p hp => ?_, fun p hp => ?_, fun p hp => ?_⟩, fun p hp => (nomatch hp), Nat.zero_le _, rfl⟩
    · rw [List.mem_singleton] at hp; subst hp; exact ⟨rfl, fun q hq => (nomatch hq), Nat.zero_le _⟩
    · rw [List.mem_singleton] at hp; subst hp; exact ho
    · rw [List.mem_singleton] at hp; subst hp; exact h0
  · rintro k ρ S1 ⟨i, x2, x3, x4, L, row, rfl, fr, rp, G, hc, hi, rfl⟩
    have ins1 := fr.at_ eo.ins (by simp [eo.nr, eo.nq])
    have hL := lenU G
    ((repeat (first | mem_news | with_reducible refine Z.stop_for ?_)); try with_reducible refine Z.Stop.mk ?_)
    refine w_opFld (insOf_r ins1) rfl ?_
    ((repeat (first | mem_news | with_reducible refine Z.stop_for ?_)); try with_reducible refine Z.Stop.mk ?_)
    refine w_len_rm rp.pairs ?_
    ((repeat (first | mem_news | with_reducible refine Z.stop_for ?_)); try with_reducible refine Z.Stop.mk ?_)
    refine cnd_dec (fun hlt => ?_) (fun hge => ?_)
    · have hlt : i < L.length := by omega
      have hpL : L[i] ∈ L := List.getElem_mem hlt
      ((repeat (first | mem_news | with_reducible refine Z.stop_for ?_)); try with_reducible refine Z.Stop.mk ?_)
      refine w_opFld (insOf_r ins1) rfl ?_
      ((repeat (first | mem_news | with_reducible refine Z.stop_for ?_)); try with_reducible refine Z.Stop.mk ?_)
      refine w_ix_r (d := prD L[i]) rp.pairs (by rw [atI_nat, List.getElem?_map, List.getElem?_eq_getElem hlt]; rfl) ?_
      ((repeat (first | mem_news | with_reducible refine Z.stop_for ?_)); try with_reducible refine Z.Stop.mk ?_)
      refine w_opFld (insOf_r ins1) rfl ?_
      ((repeat (first | mem_news | with_reducible refine Z.stop_for ?_)); try with_reducible refine Z.Stop.mk ?_)
      refine w_of (f_halves_of_n wf (G.ok _ hpL)) ?_
      ((repeat (first | mem_news | with_reducible refine Z.stop_for ?_)); try with_reducible refine Z.Stop.mk ?_)
      refine w_forL (fun k ρ S' => ∃ (x3 x4 : Option D) (L' : List Pr) (row' : Pr → List Nat), ρ = [some (.ref n), some (.int (i : Nat)), some (prD L[i]), x3, x4] ∧ Fr [r, q] S S' ∧ RP r q S' L' row' ∧ Gone h p0 U L' row' ∧ (∃ M, L' = L ++ M) ∧ ∀ j < k, hp h L[i] j ∈ L') ⟨_, _, L, row, rfl, fr, rp, G, ⟨[], by simp⟩, fun j hj => absurd hj (Nat.not_lt_zero _)⟩ (fun _ _ _ _ => True.intro) ?_ ?_
      · rintro k d ρ S2 hk ⟨x3, x4, L', row', rfl, fr2, rp2, G2, ⟨M, hM⟩, hd⟩
        obtain ⟨e, he, rfl⟩ := enums_at2 hk
        have hk2 : k < 2 := (List.getElem?_eq_some_iff.mp he).1
        have ee : e = prD (hp h L[i] k) := by
          match k, hk2, he with
          | 0, _, he => cases he; rfl
          | 1, _, he => cases he; rfl
        subst ee
        have ins2 := fr2.at_ eo.ins (by simp [eo.nr, eo.nq])
        have hL2 := lenU G2
        have hpL2 : L[i] ∈ L' := by rw [hM]; exact List.mem_append.mpr (.inl hpL)
        ((repeat (first | mem_news | with_reducible refine Z.stop_for ?_)); try with_reducible refine Z.Stop.mk ?_)
        refine w_opFld (insOf_r ins2) rfl ?_
        ((repeat (first | mem_news | with_reducible refine Z.stop_for ?_)); try with_reducible refine Z.Stop.mk ?_)
        refine w_notIn_d (dictOf_r rp2.rows) (key_pr.key _) ?_
        rw [dGet_f key_pr fun p => rowD (row' p)]
        by_cases c : hp h L[i] k ∈ L'
        · rw [if_pos c, Option.isSome_some]
          ((repeat (first | mem_news | with_reducible refine Z.stop_for ?_)); try with_reducible refine Z.Stop.mk ?_)
          refine ⟨_, _, L', row', rfl, fr2, rp2, G2, ⟨M, hM⟩, fun j hj => ?_⟩
          rcases Nat.lt_succ_iff_lt_or_eq.mp hj with hj | hj
          · exact hd j hj
          · subst hj; exact c
        · rw [if_neg c, Option.isSome_none]
          ((repeat (first | mem_news | with_reducible refine Z.stop_for ?_)); try with_reducible refine Z.Stop.mk ?_)
          refine w_opFld (insOf_r ins2) rfl ?_
          ((repeat (first | mem_news | with_reducible refine Z.stop_for ?_)); try with_reducible refine Z.Stop.mk ?_)
          refine w_ix_d (dictOf_r rp2.rows) (key_pr.key _) (dGet_mem key_pr (fun p => rowD (row' p)) hpL2) ?_
          unfold rowD
          ((repeat (first | mem_news | with_reducible refine Z.stop_for ?_)); try with_reducible refine Z.Stop.mk ?_)
          refine side_i (by have := (G2.way _ hpL2).2.2; simp; omega) ?_
          ((repeat (first | mem_news | with_reducible refine Z.stop_for ?_)); try with_reducible refine Z.Stop.mk ?_)
          refine w_opFld (insOf_r ins2) rfl ?_
          ((repeat (first | mem_news | with_reducible refine Z.stop_for ?_)); try with_reducible refine Z.Stop.mk ?_)
          refine w_set_d rp2.rows (key_pr.key _) (by simp; omega) ?_
          ((repeat (first | mem_news | with_reducible refine Z.stop_for ?_)); try with_reducible refine Z.Stop.mk ?_)
          have ew : ((row' L[i]).map fun (q : Nat) => D.int (q : Int)) ++ [D.int (k : Int)] = (row' L[i] ++ [k]).map fun (q : Nat) => D.int (q : Int) := by simp
          rw [ew]
          have ins3 : (S2.set r (.dic false (dPut (L'.map prD) (L'.map fun p => rowD (row' p)) (prD (hp h L[i] k)) (rowD (row' L[i] ++ [k]))).1 (dPut (L'.map prD) (L'.map fun p => rowD (row' p)) (prD (hp h L[i] k)) (rowD (row' L[i] ++ [k]))).2))[n]? = some (.ins "Edge" [("own_house", hsD h), ("rows", .ref r), ("pairs", .ref q), ("numbers", .ref u)]) := set_ne ins2 (Ne.symm eo.nr)
          refine w_opFld (insOf_r ins3) rfl ?_
          have prs3 : (S2.set r (.dic false (dPut (L'.map prD) (L'.map fun p => rowD (row' p)) (prD (hp h L[i] k)) (rowD (row' L[i] ++ [k]))).1 (dPut (L'.map prD) (L'.map fun p => rowD (row' p)) (prD (hp h L[i] k)) (rowD (row' L[i] ++ [k]))).2))[q]? = some (.lst (L'.map prD)) := set_ne rp2.pairs eo.rq
          refine side_i (isLs_r prs3) ?_
          ((repeat (first | mem_news | with_reducible refine Z.stop_for ?_)); try with_reducible refine Z.Stop.mk ?_)
          refine w_append prs3 (by simp; omega) ?_
          ((repeat (first | mem_news | with_reducible refine Z.stop_for ?_)); try with_reducible refine Z.Stop.mk ?_)
          refine ⟨_, _, L' ++ [hp h L[i] k], fun y => if y = hp h L[i] k then row' L[i] ++ [k] else row' y, rfl, ?_, rp2.add eo.rq c, G2.add wf hU hpL2 hk2 c, ⟨M ++ [hp h L[i] k], by rw [hM, List.append_assoc]⟩, fun j hj => ?_⟩
          · exact fr2.trans ((Fr.set (by simp)).trans (Fr.set (by simp)))
          · rcases Nat.lt_succ_iff_lt_or_eq.mp hj with hj | hj
            · exact List.mem_append.mpr (.inl (hd j hj))
            · subst hj; exact List.mem_append.mpr (.inr (List.mem_singleton.mpr rfl))
      · rintro ρ S2 ⟨x3, x4, L', row', rfl, fr2, rp2, G2, ⟨M, hM⟩, hd⟩
        ((repeat (first | mem_news | with_reducible refine Z.stop_for ?_)); try with_reducible refine Z.Stop.mk ?_)
        have e1 : (i : Int) + 1 = ((i + 1 : Nat) : Int) := by omega
        refine w_of (b := .int ((i + 1 : Nat) : Int)) (S := S2) (by rw [← e1]; rfl) ?_
        ((repeat (first | mem_news | with_reducible refine Z.stop_for ?_)); try with_reducible refine Z.Stop.mk ?_)
        refine ⟨_, ?_, i + 1, _, _, _, L', row', rfl, fr2, rp2, G2, fun p hp j hj => ?_, ?_, rfl⟩
        · have := lenU G2
          omega
        · rw [hM, List.take_append_of_le_length (by omega), List.take_succ, List.getElem?_eq_getElem hlt] at hp
          rcases List.mem_append.mp hp with hp | hp
          · rw [hM]; exact List.mem_append.mpr (.inl (hc p hp j hj))
          · simp at hp
            subst hp
            exact hd j hj
        · rw [hM, List.length_append]; omega
    · ((repeat (first | mem_news | with_reducible refine Z.stop_for ?_)); try with_reducible refine Z.Stop.mk ?_)
      have hge : L.length ≤ i := by omega
      rw [List.take_of_length_le hge] at hc
      exact ⟨rfl, fr, L, row, rp, G, G.head, G.nodup, hc, fun p hp => ⟨(G.way p hp).1, (G.way p hp).2.1⟩⟩
end
end Pg
set_option Elab.async false
set_option linter.all false
set_option maxRecDepth 100000
set_option maxHeartbeats 1000000

/-! ED3: edges: numbers of pairs. -/
namespace Pg
open Z
open PySem (Str sizeLine)
section
variable {h : House} {S : Sto} {Q : D → Sto → Prop}
/-- numbers of pairs, as far as they are told -/
structure Nm (h : House) (L K : List Pr) (num : Pr → Nat) : Prop where
  nodup : K.Nodup
  sub : ∀ p ∈ K, p ∈ L
  base : ∀ p ∈ L, lone p = false → p ∈ K ∧ num p = 0
  lon : ∀ p ∈ K, lone p = true → ∀ i < 2, hp h p i ∈ K ∧ num (hp h p i) < num p
def numV (o : Option Nat) : D := match o with
  | some n => .int (n : Nat)
  | none => .non
theorem opNotIn_two (a b : Option Nat) : opNotIn .non (.lst [numV a, numV b]) S = .val (.bl (a.isSome && b.isSome)) S := by
  cases a <;> cases b <;> rfl
theorem bMax_two (a b : Nat) : bMax [.lst [.int (a : Nat), .int (b : Nat)]] S = .val (.int ((max a b : Nat) : Int)) S := by
  have : bMax [.lst [.int (a : Nat), .int (b : Nat)]] S = .val (.int (if (a : Int) ≤ (b : Int) then (b : Int) else (a : Int))) S := rfl
  rw [this]
  congr 2
  by_cases c : a ≤ b
  · rw [if_pos (by omega)]; omega
  · rw [if_neg (by omega)]; omega
theorem Nm.add {L K : List Pr} {num : Pr → Nat} (N : Nm h L K num) {p : Pr} (hpL : p ∈ L) (hl : lone p = true) (hn : p ∉ K) (h0 : hp h p 0 ∈ K) (h1 : hp h p 1 ∈ K) :
    Nm h L (K ++ [p]) fun x => if x = p then 1 + max (num (hp h p 0)) (num (hp h p 1)) else num x := by
  have keep : ∀ x ∈ K, x ≠ p := fun x hx e => hn (e ▸ hx)
  refine ⟨?_, fun x hx => ?_, fun x hx hx0 => ?_, fun x hx hx1 i hi => ?_⟩
  · rw [List.nodup_append]
    refine ⟨N.nodup, by simp, fun a ha b hb e => ?_⟩
    rw [List.mem_singleton] at hb
    subst hb
    exact hn (e ▸ ha)
  · rcases List.mem_append.mp hx with hx | hx
    · exact N.sub x hx
    · rw [List.mem_singleton] at hx; subst hx; exact hpL
  · have := N.base x hx hx0
    exact ⟨List.mem_append.mpr (.inl this.1), by simp only [if_neg (keep x this.1)]; exact this.2⟩
  · by_cases e : x = p
    · subst e
      have hi' : hp h x i ∈ K ∧ num (hp h x i) ≤ max (num (hp h x 0)) (num (hp h x 1)) := by
        match i, hi with
        | 0, _ => exact ⟨h0, by omega⟩
        | 1, _ => exact ⟨h1, by omega⟩
      refine ⟨List.mem_append.mpr (.inl hi'.1), ?_⟩
      simp only [if_pos, if_neg (keep _ hi'.1)]
      omega
    · have hxK : x ∈ K := by
        rcases List.mem_append.mp hx with hx | hx
        · exact hx
        · rw [List.mem_singleton] at hx; exact absurd hx e
      have := N.lon x hxK hx1 i hi
      refine ⟨List.mem_append.mpr (.inl this.1), ?_⟩
      simp only [if_neg e, if_neg (keep _ this.1)]
      exact this.2
/-- the cell of numbers -/
def NC (u : Nat) (S : Sto) (K : List Pr) (num : Pr → Nat) : Prop := S[u]? = some (.dic false (K.map prD) (K.map fun p => .int (num p : Nat)))
theorem NC.add {u : Nat} {K : List Pr} {num : Pr → Nat} (nc : NC u S K num) {p : Pr} (hn : p ∉ K) (v : Nat) :
    NC u (S.set u (.dic false (dPut (K.map prD) (K.map fun p => .int (num p : Nat)) (prD p) (.int (v : Nat))).1 (dPut (K.map prD) (K.map fun p => .int (num p : Nat)) (prD p) (.int (v : Nat))).2)) (K ++ [p]) (fun x => if x = p then v else num x) := by
  rw [dPut_new key_pr hn (by simp)]
  have e : (K.map fun p => D.int (num p : Nat)) ++ [D.int (v : Nat)] = (K ++ [p]).map fun x => D.int ((if x = p then v else num x : Nat) : Int) := by
    rw [List.map_append]
    congr 1
    · exact List.map_congr_left fun x hx => by rw [if_neg fun e => hn (by rw [← e]; exact hx)]
    · simp
  unfold NC
  rw [set_at nc, e]
theorem NC.get {K : List Pr} {num : Pr → Nat} (p : Pr) : (dGet (K.map prD) (K.map fun p => D.int (num p : Nat)) (prD p)).getD .non = numV (if p ∈ K then some (num p) else none) := by
  rw [dGet_f key_pr fun p => D.int (num p : Nat)]
  by_cases c : p ∈ K
  · rw [if_pos c, if_pos c]; rfl
  · rw [if_neg c, if_neg c]; rfl
theorem _root_.Z.Fr.setNew {X : List Nat} {S S' : Sto} (a : Fr X S S') {m : Nat} {c : Cel} (hm : S.length ≤ m) : Fr X S (S'.set m c) := ⟨by rw [List.length_set]; exact a.1, fun i hi hx => by rw [List.getElem?_set_ne (by omega)]; exact a.2 i hi hx⟩
theorem f_count_n {n r q u : Nat} {L : List Pr} {row : Pr → List Nat} (wf : WF h) (eo : EO h n r q u S) (rp : RP r q S L row) (hn : L.Nodup) (hok : ∀ p ∈ L, okPr h p) (hl : L.length ≤ 900000) :
    W (f_Edge_count [.ref n] S) fun d S' => d = .non ∧ Fr [n] S S' ∧ EO h n r q S.length S' ∧ ∃ K num, NC S.length S' K num ∧ Nm h L K num ∧ ∀ p ∈ L, lone p = true → p ∉ K → ∃ i, i < 2 ∧ hp h p i ∉ K := by
  have rlt := (List.getElem?_eq_some_iff.mp rp.rows).1
  have qlt := (List.getElem?_eq_some_iff.mp rp.pairs).1
  have nlt := (List.getElem?_eq_some_iff.mp eo.ins).1
  unfold f_Edge_count b_Edge_count
  ((repeat (first | mem_news | with_reducible refine Z.stop_for ?_)); try with_reducible refine Z.Stop.mk ?_)
  refine w_opFld (insOf_r eo.ins) rfl ?_
  refine w_src_r rp.pairs ?_
  ((repeat (first | mem_news | with_reducible refine Z.stop_for ?_)); try with_reducible refine Z.Stop.mk ?_)
  refine w_compM (p := lone) (F := prD) rp.pairs (fun p hp => ?_) ?_
  · ((repeat (first | mem_news | with_reducible refine Z.stop_for ?_)); try with_reducible refine Z.Stop.mk ?_)
    refine w_of f_is_lone_n ?_
    ((repeat (first | mem_news | with_reducible refine Z.stop_for ?_)); try with_reducible refine Z.Stop.mk ?_)
    refine ⟨rfl, fun _ => ?_, fun _ => rfl⟩
    ((repeat (first | mem_news | with_reducible refine Z.stop_for ?_)); try with_reducible refine Z.Stop.mk ?_)
    exact ⟨rfl, rfl⟩
  ((repeat (first | mem_news | with_reducible refine Z.stop_for ?_)); try with_reducible refine Z.Stop.mk ?_)
  refine w_opFld (insOf_r eo.ins) rfl ?_
  refine w_src_r rp.pairs ?_
  ((repeat (first | mem_news | with_reducible refine Z.stop_for ?_)); try with_reducible refine Z.Stop.mk ?_)
  ((repeat (first | mem_news | with_reducible refine Z.stop_for ?_)); try with_reducible refine Z.Stop.mk ?_)
  refine w_gathM (p := fun p => !lone p) (g := prD) (v := fun _ => .int 0) key_pr hn (by omega) rp.pairs (fun p hp => ?_) ?_
  · ((repeat (first | mem_news | with_reducible refine Z.stop_for ?_)); try with_reducible refine Z.Stop.mk ?_)
    refine w_of f_is_lone_n ?_
    ((repeat (first | mem_news | with_reducible refine Z.stop_for ?_)); try with_reducible refine Z.Stop.mk ?_)
    refine ⟨rfl, fun _ => ?_, fun _ => rfl⟩
    ((repeat (first | mem_news | with_reducible refine Z.stop_for ?_)); try with_reducible refine Z.Stop.mk ?_)
    refine ⟨rfl, rfl, ?_⟩
    ((repeat (first | mem_news | with_reducible refine Z.stop_for ?_)); try with_reducible refine Z.Stop.mk ?_)
    exact ⟨rfl, rfl⟩
  ((repeat (first | mem_news | with_reducible refine Z.stop_for ?_)); try with_reducible refine Z.Stop.mk ?_)
  refine w_opFldSet (app_old eo.ins) (by simp) ?_
  ((repeat (first | mem_news | with_reducible refine Z.stop_for ?_)); try with_reducible refine Z.Stop.mk ?_)
  have ins1 : ∀ c, ((S ++ [c]).set n (.ins "Edge" [("own_house", hsD h), ("rows", .ref r), ("pairs", .ref q), ("numbers", .ref S.length)]))[n]? = some (.ins "Edge" [("own_house", hsD h), ("rows", .ref r), ("pairs", .ref q), ("numbers", .ref S.length)]) := fun c => set_at (app_old eo.ins)
  have many : ∀ Lf : List Pr, ((Lf.map prD).length : Int) = (Lf.length : Nat) := fun Lf => by rw [List.length_map]
  refine w_sWhile (fun k ρ S' => ∃ (Lf : List Pr) (x3 x4 : Option D) (K : List Pr) (num : Pr → Nat), ρ = [some (.ref n), some (.lst (Lf.map prD)), some (.int (k : Nat)), x3, x4, none] ∧ Fr [n] S S' ∧ EO h n r q S.length S' ∧ NC S.length S' K num ∧ Nm h L K num ∧ (∀ p ∈ Lf, p ∈ L ∧ lone p = true ∧ p ∉ K) ∧ (∀ p ∈ L, lone p = true → p ∉ K → p ∈ Lf) ∧ Lf.Nodup ∧ Lf.length ≤ k ∧ (Lf.length < k ∨ ∀ p ∈ L, lone p = true → p ∉ K → ∃ i, i < 2 ∧ hp h p i ∉ K)) (n := (L.filter lone).length + 1) ?_ ?_
  · refine ⟨L.filter lone, none, none, L.filter fun p => !lone p, fun _ => 0, rfl, (Fr.app).trans (Fr.set (by simp)), ⟨ins1 _, eo.rq, eo.nr, eo.nq⟩, set_ne app_new (by omega), ⟨hn.filter _, fun p hp => (List.mem_filter.mp hp).1, fun p hp h0 => ⟨List.mem_filter.mpr ⟨hp, by rw [h0]; rfl⟩, rfl⟩, fun p hp h1 => ?_⟩, fun p hp => ?_, fun p hp h1 _ => List.mem_filter.mpr ⟨hp, h1⟩, hn.filter _, by omega, .inl (by omega)⟩
    · have := (List.mem_filter.mp hp).2
      rw [h1] at this
      cases this
    · obtain ⟨h1, h2⟩ := List.mem_filter.mp hp
      refine ⟨h1, h2, fun h3 => ?_⟩
      have := (List.mem_filter.mp h3).2
      rw [h2] at this
      cases this
  · rintro k ρ S1 ⟨Lf, x3, x4, K, num, rfl, fr, eo1, nc, N, a1, a2, a3, a4, a5⟩
    have lLf : Lf.length ≤ L.length := nodup_le a3 fun p hp => (a1 p hp).1
    ((repeat (first | mem_news | with_reducible refine Z.stop_for ?_)); try with_reducible refine Z.Stop.mk ?_)
    refine cnd_dec (fun hlt => ?_) (fun hge => ?_)
    · have hlt : Lf.length < k := by omega
      ((repeat (first | mem_news | with_reducible refine Z.stop_for ?_)); try with_reducible refine Z.Stop.mk ?_)
      refine w_forL (fun k' ρ S' => ∃ (x3 x4 : Option D) (K' : List Pr) (num' : Pr → Nat), ρ = [some (.ref n), some (.lst (Lf.map prD)), some (.int (Lf.length : Nat)), x3, x4, none] ∧ Fr [n] S S' ∧ EO h n r q S.length S' ∧ NC S.length S' K' num' ∧ Nm h L K' num' ∧ (∃ M, K' = K ++ M ∧ ∀ p ∈ M, p ∈ Lf.take k') ∧ (∀ p ∈ Lf.take k', p ∈ K' ∨ ∃ i, i < 2 ∧ hp h p i ∉ K)) ⟨_, _, K, num, rfl, fr, eo1, nc, N, ⟨[], by simp, fun p hp => (nomatch hp)⟩, fun p hp => (nomatch hp)⟩ (fun _ _ _ _ => True.intro) ?_ ?_
      · rintro k' d ρ S2 hk ⟨x3, x4, K', num', rfl, fr2, eo2, nc2, N2, ⟨M, rfl, b1⟩, b2⟩
        rw [List.getElem?_map] at hk
        obtain ⟨p, hpk, rfl⟩ := Option.map_eq_some_iff.mp hk
        have hkl := (List.getElem?_eq_some_iff.mp hpk).1
        have hpLf : p ∈ Lf := List.mem_of_getElem? hpk
        obtain ⟨p1, p2, p3⟩ := a1 p hpLf
        have ht : Lf.take (k' + 1) = Lf.take k' ++ [p] := by rw [List.take_succ, hpk]; rfl
        have hpM : p ∉ K ++ M := fun hm => by
          rcases List.mem_append.mp hm with hm | hm
          · exact p3 hm
          · obtain ⟨j, hj, ej⟩ := List.mem_iff_getElem.mp (b1 p hm)
            rw [List.length_take] at hj
            rw [List.getElem_take] at ej
            have := (List.getElem?_inj (i := j) (j := k') (by omega) a3).mp (by rw [hpk, List.getElem?_eq_getElem (by omega), ej])
            omega
        have mem1 : ∀ {x : Pr}, x ∈ K → x ∈ K ++ M := fun hx => List.mem_append.mpr (.inl hx)
        ((repeat (first | mem_news | with_reducible refine Z.stop_for ?_)); try with_reducible refine Z.Stop.mk ?_)
        refine w_opFld (insOf_r eo2.ins) rfl ?_
        ((repeat (first | mem_news | with_reducible refine Z.stop_for ?_)); try with_reducible refine Z.Stop.mk ?_)
        refine w_of (f_halves_of_n wf (hok p p1)) ?_
        ((repeat (first | mem_news | with_reducible refine Z.stop_for ?_)); try with_reducible refine Z.Stop.mk ?_)
        refine w_compA (l := [hp h p 0, hp h p 1]) (f := prD) (F := fun x => numV (if x ∈ K ++ M then some (num' x) else none)) True.intro (fun x hx => ?_) ?_
        · ((repeat (first | mem_news | with_reducible refine Z.stop_for ?_)); try with_reducible refine Z.Stop.mk ?_)
          refine w_opFld (insOf_r eo2.ins) rfl ?_
          refine side_i (isDc_d (dictOf_r nc2)) ?_
          ((repeat (first | mem_news | with_reducible refine Z.stop_for ?_)); try with_reducible refine Z.Stop.mk ?_)
          exact w_get1 (dictOf_r nc2) (key_pr.key _) ⟨NC.get x, rfl⟩
        ((repeat (first | mem_news | with_reducible refine Z.stop_for ?_)); try with_reducible refine Z.Stop.mk ?_)
        refine w_of (opNotIn_two _ _) ?_
        ((repeat (first | mem_news | with_reducible refine Z.stop_for ?_)); try with_reducible refine Z.Stop.mk ?_)
        have skip : ∀ i, i < 2 → hp h p i ∉ K ++ M → (∃ M', K ++ M = K ++ M' ∧ ∀ p ∈ M', p ∈ Lf.take (k' + 1)) ∧ (∀ p ∈ Lf.take (k' + 1), p ∈ K ++ M ∨ ∃ i, i < 2 ∧ hp h p i ∉ K) := fun i hi hni => by
          refine ⟨⟨M, rfl, fun x hx => ?_⟩, fun x hx => ?_⟩
          · rw [ht]; exact List.mem_append.mpr (.inl (b1 x hx))
          · rw [ht] at hx
            rcases List.mem_append.mp hx with hx | hx
            · exact b2 x hx
            · rw [List.mem_singleton] at hx
              subst hx
              exact .inr ⟨i, hi, fun hk => hni (mem1 hk)⟩
        by_cases c0 : hp h p 0 ∈ K ++ M
        · by_cases c1 : hp h p 1 ∈ K ++ M
          · rw [if_pos c0, if_pos c1, Option.isSome_some, Option.isSome_some, Bool.and_true]
            ((repeat (first | mem_news | with_reducible refine Z.stop_for ?_)); try with_reducible refine Z.Stop.mk ?_)
            refine w_of (b := .int ((max (num' (hp h p 0)) (num' (hp h p 1)) : Nat) : Int)) (S := S2) (by rw [← bMax_two]; simp only [List.map_cons, List.map_nil, if_pos c0, if_pos c1]; rfl) ?_
            ((repeat (first | mem_news | with_reducible refine Z.stop_for ?_)); try with_reducible refine Z.Stop.mk ?_)
            refine w_opFld (insOf_r eo2.ins) rfl ?_
            ((repeat (first | mem_news | with_reducible refine Z.stop_for ?_)); try with_reducible refine Z.Stop.mk ?_)
            have e1 : (1 : Int) + ((max (num' (hp h p 0)) (num' (hp h p 1)) : Nat) : Int) = ((1 + max (num' (hp h p 0)) (num' (hp h p 1)) : Nat) : Int) := by omega
            rw [e1]
            have hlen : (K ++ M).length ≤ L.length := nodup_le N2.nodup N2.sub
            refine w_set_d nc2 (key_pr.key _) (by rw [List.length_map]; omega) ?_
            ((repeat (first | mem_news | with_reducible refine Z.stop_for ?_)); try with_reducible refine Z.Stop.mk ?_)
            refine ⟨_, _, (K ++ M) ++ [p], _, rfl, ?_, ?_, nc2.add hpM _, N2.add p1 p2 hpM c0 c1, ⟨M ++ [p], by rw [List.append_assoc], fun x hx => ?_⟩, fun x hx => ?_⟩
            · exact fr2.setNew (Nat.le_refl _)
            · exact ⟨set_ne eo2.ins (by omega), eo2.rq, eo2.nr, eo2.nq⟩
            · rw [ht]
              rcases List.mem_append.mp hx with hx | hx
              · exact List.mem_append.mpr (.inl (b1 x hx))
              · exact List.mem_append.mpr (.inr hx)
            · rw [ht] at hx
              rcases List.mem_append.mp hx with hx | hx
              · rcases b2 x hx with hx | hx
                · exact .inl (List.mem_append.mpr (.inl hx))
                · exact .inr hx
              · exact .inl (List.mem_append.mpr (.inr hx))
          · rw [if_pos c0, if_neg c1, Option.isSome_none, Bool.and_false]
            ((repeat (first | mem_news | with_reducible refine Z.stop_for ?_)); try with_reducible refine Z.Stop.mk ?_)
            exact ⟨_, _, K ++ M, num', rfl, fr2, eo2, nc2, N2, skip 1 (by omega) c1⟩
        · rw [if_neg c0, Option.isSome_none, Bool.false_and]
          ((repeat (first | mem_news | with_reducible refine Z.stop_for ?_)); try with_reducible refine Z.Stop.mk ?_)
          exact ⟨_, _, K ++ M, num', rfl, fr2, eo2, nc2, N2, skip 0 (by omega) c0⟩
      · rintro ρ S2 ⟨x3, x4, K', num', rfl, fr2, eo2, nc2, N2, ⟨M, rfl, b1⟩, b2⟩
        rw [List.length_map, List.take_of_length_le (Nat.le_refl _)] at b1 b2
        ((repeat (first | mem_news | with_reducible refine Z.stop_for ?_)); try with_reducible refine Z.Stop.mk ?_)
        refine w_compM (p := fun p => !decide (p ∈ K ++ M)) (F := prD) True.intro (fun p hp => ?_) ?_
        · ((repeat (first | mem_news | with_reducible refine Z.stop_for ?_)); try with_reducible refine Z.Stop.mk ?_)
          refine w_opFld (insOf_r eo2.ins) rfl ?_
          refine w_notIn_d (dictOf_r nc2) (key_pr.key _) ?_
          rw [dGet_f key_pr fun p => D.int (num' p : Nat)]
          ((repeat (first | mem_news | with_reducible refine Z.stop_for ?_)); try with_reducible refine Z.Stop.mk ?_)
          refine ⟨?_, fun _ => ?_, fun _ => rfl⟩
          · by_cases c : p ∈ K ++ M
            · rw [if_pos c, decide_eq_true c]; rfl
            · rw [if_neg c, decide_eq_false c]; rfl
          · ((repeat (first | mem_news | with_reducible refine Z.stop_for ?_)); try with_reducible refine Z.Stop.mk ?_)
            exact ⟨rfl, rfl⟩
        ((repeat (first | mem_news | with_reducible refine Z.stop_for ?_)); try with_reducible refine Z.Stop.mk ?_)
        have hf : ∀ p, p ∈ Lf.filter (fun p => !decide (p ∈ K ++ M)) ↔ p ∈ Lf ∧ p ∉ K ++ M := fun p => by rw [List.mem_filter]; simp
        refine ⟨Lf.length, hlt, Lf.filter fun p => !decide (p ∈ K ++ M), _, _, K ++ M, num', rfl, fr2, eo2, nc2, N2, fun p hp => ?_, fun p hp1 hp2 hp3 => ?_, a3.filter _, List.length_filter_le _ _, ?_⟩
        · have := (hf p).mp hp
          exact ⟨(a1 p this.1).1, (a1 p this.1).2.1, this.2⟩
        · exact (hf p).mpr ⟨a2 p hp1 hp2 fun hk => hp3 (List.mem_append.mpr (.inl hk)), hp3⟩
        · by_cases c : M = []
          · subst c
            rw [List.append_nil] at b2 ⊢
            exact .inr fun p hp1 hp2 hp3 => (b2 p (a2 p hp1 hp2 hp3)).resolve_left hp3
          · refine .inl ?_
            obtain ⟨x, M', rfl⟩ := List.exists_cons_of_ne_nil c
            have hx := b1 x List.mem_cons_self
            refine List.length_filter_lt_length_iff_exists.mpr ⟨x, hx, ?_⟩
            simp
    · ((repeat (first | mem_news | with_reducible refine Z.stop_for ?_)); try with_reducible refine Z.Stop.mk ?_)
      refine ⟨rfl, fr, eo1, K, num, nc, N, ?_⟩
      rcases a5 with a5 | a5
      · exact absurd a5 (by omega)
      · exact a5
end
end Pg
set_option Elab.async false
set_option linter.all false
set_option maxRecDepth 100000
set_option maxHeartbeats 1000000

/-! CL1: colours of a to z; data compared, looked for. -/
namespace Pg
open Z
open PySem (Str sizeLine PyData)
/-- a colour, as the program takes it -/
def Clr (c : Str) : Prop := 0 < c.length ∧ c.length ≤ 8 ∧ ∀ k ∈ c.cps.toList, 97 ≤ k ∧ k ≤ 122
def Sg.cl : Sg → Prop
  | .col c => Clr c
  | .pan _ _ => True
def HC (h : House) : Prop := ∀ r ∈ h, ∀ s ∈ r, Sg.cl s
theorem turn_cl {s : Sg} {t : Nat} (h : s.cl) : (s.turn t).cl := by cases s <;> exact h
theorem quar_cl {h : House} (wf : WF h) (hc : HC h) {s : Sg} {q : Nat} (hq : q < 4) (ho : s.ok h.length) (hs : s.cl) : (quar h s q).cl := by
  cases s with
  | col c => exact hs
  | pan p t =>
    obtain ⟨r, s, e1, e2, e3, os⟩ := cell_at wf ho.1 (shw_lt t ho.2 q hq)
    show (((h.getD p []).getD (shw t q) default).turn t).cl
    rw [e3]
    exact turn_cl (hc r (List.mem_of_getElem? e1) s (List.mem_of_getElem? e2))
theorem w_sl_r {S : Sto} {n : Nat} {ds : List D} {lo hi : Option Int} {Q : D → Sto → Prop} (hn : S[n]? = some (.lst ds)) (h : Q (.lst (cutL ds lo hi)) S) : W (opSl (.ref n) lo hi S) Q := w_of (by simp only [opSl, seqL, hn]) h
theorem w_len_rd {S : Sto} {n : Nat} {lk : Bool} {ks vs : List D} {Q : D → Sto → Prop} (hn : S[n]? = some (.dic lk ks vs)) (h : Q (.int (ks.length : Nat)) S) : W (bLen [.ref n] S) Q := w_of (by simp only [bLen, lenD, seqA, seqL, dictOf, hn]) h
theorem w_pNil {S : Sto} {ρ : Rho} {P : List (D × D) → Sto → Prop} (h : P [] S) : W (pNil ρ S) P := h
theorem w_pCons {S : Sto} {ρ : Rho} {fk fv : Rho → M D} {r : Rho → M (List (D × D))} {P : List (D × D) → Sto → Prop} (h : W (fk ρ S) fun k S1 => W (fv ρ S1) fun v S2 => W (r ρ S2) fun xs S3 => P ((k, v) :: xs) S3) : W (pCons fk fv r ρ S) P := w_bind (w_imp h fun _ _ h => w_bind (w_imp h fun _ _ h => w_bind h))
theorem w_eDct {S : Sto} {ρ : Rho} {g : Rho → M (List (D × D))} {fin : KD → M D} {Q : D → Sto → Prop} (h : W (g ρ S) fun xs S1 => (xs.all (fun x => isKey 8 x.1) = true ∧ xs.length ≤ 15) ∧ W (fin (putAll xs ([], [])) S1) Q) : W (eDct g fin ρ S) Q := w_bind (w_imp h fun xs S1 h => by rw [if_pos h.1]; exact h.2)
theorem set_end {S : Sto} {c c' : Cel} {l : List Cel} : (S ++ c :: l).set S.length c' = S ++ c' :: l := by simp [List.set_append]
theorem app_two {S : Sto} {c : Cel} {l : List Cel} {d : Cel} : (S ++ c :: l) ++ [d] = S ++ c :: (l ++ [d]) := by simp
theorem at_end {S : Sto} {l : List Cel} (k : Nat) : (S ++ l)[S.length + k]? = l[k]? := by rw [List.getElem?_append_right (by omega)]; congr 1; omega
theorem w_eChn {S : Sto} {ρ : Rho} {op op' : D → D → M D} {f1 f2 f3 : Rho → M D} {Q : D → Sto → Prop} (h : W (f1 ρ S) fun x S1 => W (f2 ρ S1) fun y S2 => W (op x y S2) fun z S3 => W (isBl z S3) fun k S4 => cnd k (W (f3 ρ S4) fun u S5 => W (op' y u S5) Q) (Q (.bl false) S4)) : W (eChn op op' f1 f2 f3 ρ S) Q :=
  w_bind (w_imp h fun x S1 h => w_bind (w_imp h fun y S2 h => w_bind (w_imp h fun z S3 h => by
    cases z with
    | bl k =>
      have h : cnd k (W (f3 ρ S3) fun u S5 => W (op' y u S5) Q) (Q (.bl false) S3) := h
      cases k with
      | true => exact w_bind (h.1 rfl)
      | false => exact h.2 rfl
    | _ => exact h.elim)))
instance {S : Sto} {ρ : Rho} {op op' : D → D → M D} {f1 f2 f3 : Rho → M D} {Q : D → Sto → Prop} : Ru (W (eChn op op' f1 f2 f3 ρ S) Q) (W (f1 ρ S) fun x S1 => W (f2 ρ S1) fun y S2 => W (op x y S2) fun z S3 => W (isBl z S3) fun k S4 => cnd k (W (f3 ρ S4) fun u S5 => W (op' y u S5) Q) (Q (.bl false) S4)) := ⟨w_eChn⟩
instance {S : Sto} {ρ : Rho} {f : Rho → M D} {Z : Src → Sto → Prop} : Ru (W (iKeys f ρ S) Z) (W (f ρ S) fun d S1 => W (srcKeys d S1) Z) := ⟨fun h => w_bind h⟩
instance {S : Sto} {ks vs : List D} {Z : Src → Sto → Prop} : Ru (W (srcKeys (.dic ks vs) S) Z) (Z ⟨ks, fun _ => True⟩ S) := ⟨fun h => h⟩
theorem frE {S S' : Sto} (a : Ext S.length S S') : Fr [] S S' := ⟨a.1, fun i hi _ => a.2 i hi⟩
/-! ### shapes -/
def okP (k : Nat) (d : PyData) : Prop := d.canLay0 = true ∧ d.depth ≤ k
theorem okP_all {k : Nat} : ∀ {xs : List PyData}, (∀ x ∈ xs, okP k x) → PyData.canLayAll0 xs = true ∧ PyData.depthAll xs ≤ k
  | [], _ => ⟨rfl, Nat.zero_le _⟩
  | x :: xs, h => by
    have h1 := h x List.mem_cons_self
    have h2 := okP_all fun y hy => h y (List.mem_cons_of_mem _ hy)
    simp only [PyData.canLayAll0, PyData.depthAll]
    exact ⟨by rw [h1.1, h2.1]; rfl, Nat.max_le.mpr ⟨h1.2, h2.2⟩⟩
theorem okP_list {k : Nat} {xs : List PyData} (h : ∀ x ∈ xs, okP k x) : okP (k + 1) (.list xs) := by
  have := okP_all h
  exact ⟨by simp only [PyData.canLay0]; exact this.1, by simp only [PyData.depth]; omega⟩
theorem okP_tup {k : Nat} {xs : List PyData} (h : ∀ x ∈ xs, okP k x) : okP (k + 1) (.tuple xs) := by
  have := okP_all h
  exact ⟨by simp only [PyData.canLay0]; exact this.1, by simp only [PyData.depth]; omega⟩
theorem okP_int {k : Nat} (i : Int) : okP k (.int i) := ⟨by simp only [PyData.canLay0], by simp only [PyData.depth]; omega⟩
theorem okP_str {k : Nat} {x : Str} (h : ∀ c ∈ x.cps.toList, c < 0x110000) : okP k (.str x) := by
  refine ⟨?_, by simp only [PyData.depth]; omega⟩
  simp only [PyData.canLay0]
  show (x.cps.all fun c => decide (c < 0x110000)) = true
  rw [← Array.all_toList]
  exact List.all_eq_true.mpr fun c hc => decide_eq_true (h c hc)
theorem okP_up {j k : Nat} {d : PyData} (h : okP j d) (hk : j ≤ k) : okP k d := ⟨h.1, Nat.le_trans h.2 hk⟩
theorem okD_of {k : Nat} {d : D} (h : okP k (toP d)) (hk : k ≤ 64) : okD d = true := by
  unfold okD PySem.SeqAt.shaped
  rw [h.1, decide_eq_true (Nat.le_trans h.2 hk)]
  rfl
theorem okP_lstD {k : Nat} {ds : List D} (h : ∀ x ∈ ds, okP k (toP x)) : okP (k + 1) (toP (.lst ds)) := by
  unfold toP
  exact okP_list fun x hx => by obtain ⟨y, hy, rfl⟩ := List.mem_map.mp hx; exact h y hy
theorem okP_tupD {k : Nat} {ds : List D} (h : ∀ x ∈ ds, okP k (toP x)) : okP (k + 1) (toP (.tup ds)) := by
  unfold toP
  exact okP_tup fun x hx => by obtain ⟨y, hy, rfl⟩ := List.mem_map.mp hx; exact h y hy
theorem okP_intD {k : Nat} (i : Int) : okP k (toP (.int i)) := by unfold toP; exact okP_int i
theorem opNe_nil {d : D} {ds : List D} {S : Sto} {k : Nat} (hd : deref S d = .lst ds) (hf : eqF d (.lst []) = none) (ho : ∀ x ∈ ds, okP k (toP x)) (hk : k < 64) : opNe d (.lst []) S = .val (.bl (!ds.isEmpty)) S := by
  have o1 : okD (.lst ds) = true := okD_of (k := k + 1) (okP_lstD ho) hk
  have o2 : okD (.lst []) = true := okD_of (k := 1) (okP_lstD fun x hx => (nomatch hx)) (by omega)
  have e : opEqB d (.lst []) S = some ds.isEmpty := by
    simp only [opEqB, hf, hd]
    rw [show deref S (.lst []) = .lst [] from rfl, if_pos ⟨o1, o2⟩]
    congr 1
    unfold eqD
    cases ds with
    | nil => simp [toP, PyData.eqv, PyData.eqvAll]
    | cons x r => simp [toP, PyData.eqv, PyData.eqvAll]
  simp only [opNe, e]
theorem okP_sg {s : Sg} (h : s.cl) : okP 1 (toP (sgD s)) := by
  cases s with
  | col x => unfold sgD toP; exact okP_str fun c hc => by have := h.2.2 c hc; omega
  | pan p t =>
    unfold sgD
    refine okP_tupD (k := 0) fun x hx => ?_
    simp at hx
    rcases hx with rfl | rfl
    · exact okP_intD _
    · exact okP_intD _
theorem okP_ro {r : List Sg} (h : ∀ s ∈ r, s.cl) : okP 2 (toP (roD r)) := by
  unfold roD
  refine okP_tupD fun x hx => ?_
  obtain ⟨s, hs, rfl⟩ := List.mem_map.mp hx
  exact okP_sg (h s hs)
/-! ### == -/
theorem eqD_int (i j : Int) : eqD (.int i) (.int j) = decide (i = j) := by
  simp only [eqD, toP, PyData.eqv]
  by_cases c : i = j
  · rw [decide_eq_true c]; simp [c]
  · rw [decide_eq_false c]; simp [c]
theorem eqD_str (i j : Str) : eqD (.str i) (.str j) = decide (i = j) := by
  simp only [eqD, toP, PyData.eqv]
  by_cases c : i = j
  · rw [decide_eq_true c]; simp [c]
  · rw [decide_eq_false c]; simp [c]
theorem eqD_tup2 (a b c d : D) : eqD (.tup [a, b]) (.tup [c, d]) = (eqD a c && eqD b d) := by
  simp only [eqD, toP, List.map_cons, List.map_nil, PyData.eqv, PyData.eqvAll, Bool.and_true]
theorem eqD_sg (a b : Sg) : eqD (sgD a) (sgD b) = decide (a = b) := by
  cases a with
  | col c =>
    cases b with
    | col d => rw [sgD_col, sgD_col, eqD_str]; simp
    | pan p t => simp [sgD, eqD, toP, PyData.eqv]
  | pan p t =>
    cases b with
    | col d => simp [sgD, eqD, toP, PyData.eqv]
    | pan p' t' =>
      unfold sgD
      rw [eqD_tup2, eqD_int, eqD_int, ← Bool.decide_and]
      congr 1
      simp only [Sg.pan.injEq, eq_iff_iff]
      omega
theorem in_map {β : Type} [DecidableEq β] {f : β → D} (he : ∀ a b, eqD (f a) (f b) = decide (a = b)) (x : β) (l : List β) : ((l.map f).any fun z => eqD z (f x)) = decide (x ∈ l) := by
  induction l with
  | nil => rfl
  | cons y l ih =>
    rw [List.map_cons, List.any_cons, ih, he]
    by_cases c : y = x
    · subst c; simp
    · by_cases c2 : x ∈ l
      · simp [c2]
      · simp [c, c2, Ne.symm c]
theorem opInB_map {β : Type} [DecidableEq β] {f : β → D} (he : ∀ a b, eqD (f a) (f b) = decide (a = b)) {x : β} {l : List β} {d : D} {S : Sto} (hd : seqL S d = some (l.map f)) (h1 : ∀ y ∈ x :: l, okP 32 (toP (f y))) (hf : flV (f x) = none) (h2 : ∀ ds, d ≠ .tup ds) (h3 : ∀ s, d ≠ .str s) : opInB (f x) d S = some (decide (x ∈ l)) := by
  have o1 : okD (f x) = true := okD_of (h1 x List.mem_cons_self) (by omega)
  have o2 : okD (.lst (l.map f)) = true := okD_of (okP_lstD (k := 32) fun y hy => by obtain ⟨z, hz, rfl⟩ := List.mem_map.mp hy; exact h1 z (List.mem_cons_of_mem _ hz)) (by omega)
  have e : inB (f x) (l.map f) true = some (decide (x ∈ l)) := by
    unfold inB
    rw [hf]
    simp only
    rw [if_pos ⟨trivial, o1, o2⟩, in_map he]
  cases d with
  | tup ds => exact absurd rfl (h2 ds)
  | str s => exact absurd rfl (h3 s)
  | _ => simp only [opInB, hd, e]
theorem w_notIn_map {β : Type} [DecidableEq β] {f : β → D} {Q : D → Sto → Prop} (he : ∀ a b, eqD (f a) (f b) = decide (a = b)) {x : β} {l : List β} {d : D} {S : Sto} (hd : seqL S d = some (l.map f)) (h1 : ∀ y ∈ x :: l, okP 32 (toP (f y))) (hf : flV (f x) = none) (h2 : ∀ ds, d ≠ .tup ds) (h3 : ∀ s, d ≠ .str s) (a : x ∈ l → Q (.bl false) S) (b : x ∉ l → Q (.bl true) S) : W (opNotIn (f x) d S) Q := by
  have := opInB_map he hd h1 hf h2 h3
  refine w_of (b := .bl (!decide (x ∈ l))) (S := S) (by simp only [opNotIn, this]) ?_
  by_cases c : x ∈ l
  · rw [decide_eq_true c]; exact a c
  · rw [decide_eq_false c]; exact b c
theorem w_in_map {β : Type} [DecidableEq β] {f : β → D} {Q : D → Sto → Prop} (he : ∀ a b, eqD (f a) (f b) = decide (a = b)) {x : β} {l : List β} {d : D} {S : Sto} (hd : seqL S d = some (l.map f)) (h1 : ∀ y ∈ x :: l, okP 32 (toP (f y))) (hf : flV (f x) = none) (h2 : ∀ ds, d ≠ .tup ds) (h3 : ∀ s, d ≠ .str s) (a : x ∈ l → Q (.bl true) S) (b : x ∉ l → Q (.bl false) S) : W (opIn (f x) d S) Q := by
  have := opInB_map he hd h1 hf h2 h3
  refine w_of (b := .bl (decide (x ∈ l))) (S := S) (by simp only [opIn, this]) ?_
  by_cases c : x ∈ l
  · rw [decide_eq_true c]; exact a c
  · rw [decide_eq_false c]; exact b c
theorem find_map {β : Type} [DecidableEq β] {f : β → D} (he : ∀ a b, eqD (f a) (f b) = decide (a = b)) (x : β) (l : List β) : ((l.map f).findIdx? fun z => eqD z (f x)) = l.findIdx? fun z => decide (z = x) := by
  rw [List.findIdx?_map]
  congr 1
  funext z
  exact he z x
theorem find_at {β : Type} [DecidableEq β] {x : β} : ∀ {l : List β}, x ∈ l → ∃ j, (l.findIdx? fun z => decide (z = x)) = some j ∧ l[j]? = some x
  | [], h => nomatch h
  | y :: l, h => by
    rw [List.findIdx?_cons]
    by_cases c : y = x
    · exact ⟨0, by rw [if_pos (decide_eq_true c)], by rw [c]; rfl⟩
    · obtain ⟨j, h1, h2⟩ := find_at ((List.mem_cons.mp h).resolve_left (Ne.symm c))
      exact ⟨j + 1, by rw [if_neg (by simp [c]), h1]; rfl, h2⟩
theorem mIndex_map {β : Type} [DecidableEq β] {f : β → D} (he : ∀ a b, eqD (f a) (f b) = decide (a = b)) {x : β} {l : List β} {d : D} {S : Sto} (hd : seqL S d = some (l.map f)) (h1 : ∀ y ∈ l, okP 32 (toP (f y))) (hx : x ∈ l) : ∃ j, l[j]? = some x ∧ mIndex d [f x] S = .val (.int (j : Nat)) S := by
  obtain ⟨j, h2, h3⟩ := find_at hx
  refine ⟨j, h3, ?_⟩
  have o1 : okD (f x) = true := okD_of (h1 x hx) (by omega)
  have o2 : okD (.lst (l.map f)) = true := okD_of (okP_lstD (k := 32) fun y hy => by obtain ⟨z, hz, rfl⟩ := List.mem_map.mp hy; exact h1 z hz) (by omega)
  simp only [mIndex, hd]
  rw [if_pos ⟨o2, o1⟩, find_map he, h2]
end Pg
set_option Elab.async false
set_option linter.all false
set_option maxRecDepth 100000
set_option maxHeartbeats 1000000

/-! ED4: edges: unlike, endless, misfit, fits, paper. -/
namespace Pg
open Z
open PySem (Str sizeLine)
def unl (p : Pr) : Bool := endd p && !decide (p.1 = p.2)
theorem okP_pr {p : Pr} (h1 : p.1.cl) (h2 : p.2.cl) : okP 2 (toP (prD p)) := by
  unfold prD
  refine okP_tupD fun x hx => ?_
  simp at hx
  rcases hx with rfl | rfl
  · exact okP_sg h1
  · exact okP_sg h2
theorem eqD_pr (a b : Pr) : eqD (prD a) (prD b) = decide (a = b) := by
  unfold prD
  rw [eqD_tup2, eqD_sg, eqD_sg, ← Bool.decide_and]
  congr 1
  rw [eq_iff_iff]
  exact Prod.ext_iff.symm
theorem at0 (d : D) (ds : List D) : L2.atI (d :: ds) 0 = some d := atI_nat (d :: ds) 0
section
variable {h : House} {S : Sto} {Q : D → Sto → Prop} {n r q u : Nat} {L K : List Pr} {row : Pr → List Nat} {num : Pr → Nat}
theorem f_unlike_n (eo : EO h n r q u S) (rp : RP r q S L row) (hl : L.length ≤ 900000) : f_Edge_unlike [.ref n] S = .val (match L.filter unl with | [] => .non | p :: _ => prD p) S := by
  refine w_eq ?_
  unfold f_Edge_unlike b_Edge_unlike
  ((repeat (first | mem_news | with_reducible refine Z.stop_for ?_)); try with_reducible refine Z.Stop.mk ?_)
  refine w_opFld (insOf_r eo.ins) rfl ?_
  refine w_src_r rp.pairs ?_
  ((repeat (first | mem_news | with_reducible refine Z.stop_for ?_)); try with_reducible refine Z.Stop.mk ?_)
  refine w_compM (p := unl) (F := prD) rp.pairs (fun p hp => ?_) ?_
  · ((repeat (first | mem_news | with_reducible refine Z.stop_for ?_)); try with_reducible refine Z.Stop.mk ?_)
    refine w_of f_is_ended_n ?_
    ((repeat (first | mem_news | with_reducible refine Z.stop_for ?_)); try with_reducible refine Z.Stop.mk ?_)
    obtain ⟨a, b⟩ := p
    cases a with
    | pan _ _ =>
      refine cnd_false ⟨rfl, cnd_false rfl⟩
    | col c =>
      cases b with
      | pan _ _ => refine cnd_false ⟨rfl, cnd_false rfl⟩
      | col d =>
        refine cnd_true ?_
        unfold prD
        ((repeat (first | mem_news | with_reducible refine Z.stop_for ?_)); try with_reducible refine Z.Stop.mk ?_)
        refine ⟨?_, fun _ => ?_, fun _ => rfl⟩
        · simp [unl, endd]
        · ((repeat (first | mem_news | with_reducible refine Z.stop_for ?_)); try with_reducible refine Z.Stop.mk ?_)
          exact ⟨rfl, rfl⟩
  ((repeat (first | mem_news | with_reducible refine Z.stop_for ?_)); try with_reducible refine Z.Stop.mk ?_)
  cases e : L.filter unl with
  | nil =>
    refine cnd_f (by simp) ?_
    ((repeat (first | mem_news | with_reducible refine Z.stop_for ?_)); try with_reducible refine Z.Stop.mk ?_)
    exact ⟨rfl, rfl⟩
  | cons p l =>
    refine cnd_t (by simp) ?_
    ((repeat (first | mem_news | with_reducible refine Z.stop_for ?_)); try with_reducible refine Z.Stop.mk ?_)
    exact w_ix_l (d := prD p) (at0 _ _) ⟨rfl, rfl⟩
/-- a row and a round of halves along which one is a colour, and the other one none -/
structure Away (h : House) (p0 : Pr) (r a : List Nat) : Prop where
  r2 : ∀ q ∈ r, q < 2
  a2 : ∀ q ∈ a, q < 2
  an : a ≠ []
  len : r.length ≤ 800000 ∧ a.length ≤ 800000
  loop : a.foldl (hp h) (r.foldl (hp h) p0) = r.foldl (hp h) p0
  lone : ∀ k, k ≤ a.length → lone ((a.take k).foldl (hp h) (r.foldl (hp h) p0)) = true
theorem f_endless_n {p0 : Pr} (wf : WF h) (eo : EO h n r q u S) (rp : RP r q S L row) (nc : NC u S K num) (N : Nm h L K num) (hx : ∀ p ∈ L, lone p = true → p ∉ K → ∃ i, i < 2 ∧ hp h p i ∉ K) (hn : L.Nodup) (hok : ∀ p ∈ L, okPr h p) (hcl : ∀ p ∈ L, p.1.cl ∧ p.2.cl)
    (way : ∀ p ∈ L, (row p).foldl (hp h) p0 = p ∧ (∀ q ∈ row p, q < 2) ∧ (row p).length ≤ L.length) (hc : ∀ p ∈ L, ∀ i < 2, hp h p i ∈ L) (hl : L.length ≤ 400000) :
    W (f_Edge_endless [.ref n] S) fun d S' => Fr [] S S' ∧ ((d = .non ∧ ∀ p ∈ L, p ∈ K) ∨ (∃ p ∈ L, p ∉ K) ∧ ∃ r a, d = .tup [rowD r, rowD a] ∧ Away h p0 r a) := by
  have lo : ∀ p ∈ L, p ∉ K → lone p = true := fun p hp hk => by
    cases e : lone p with
    | true => rfl
    | false => exact absurd (N.base p hp e).1 hk
  unfold f_Edge_endless b_Edge_endless
  ((repeat (first | mem_news | with_reducible refine Z.stop_for ?_)); try with_reducible refine Z.Stop.mk ?_)
  refine w_opFld (insOf_r eo.ins) rfl ?_
  refine w_src_r rp.pairs ?_
  ((repeat (first | mem_news | with_reducible refine Z.stop_for ?_)); try with_reducible refine Z.Stop.mk ?_)
  refine w_compM (p := fun p => !decide (p ∈ K)) (F := prD) rp.pairs (fun p hp => ?_) ?_
  · ((repeat (first | mem_news | with_reducible refine Z.stop_for ?_)); try with_reducible refine Z.Stop.mk ?_)
    refine w_opFld (insOf_r eo.ins) rfl ?_
    refine w_notIn_d (dictOf_r nc) (key_pr.key _) ?_
    rw [dGet_f key_pr fun p => D.int (num p : Nat)]
    ((repeat (first | mem_news | with_reducible refine Z.stop_for ?_)); try with_reducible refine Z.Stop.mk ?_)
    refine ⟨?_, fun _ => ?_, fun _ => rfl⟩
    · by_cases c : p ∈ K
      · rw [if_pos c, decide_eq_true c]; rfl
      · rw [if_neg c, decide_eq_false c]; rfl
    · ((repeat (first | mem_news | with_reducible refine Z.stop_for ?_)); try with_reducible refine Z.Stop.mk ?_)
      exact ⟨rfl, rfl⟩
  have hf : ∀ p, p ∈ L.filter (fun p => !decide (p ∈ K)) ↔ p ∈ L ∧ p ∉ K := fun p => by rw [List.mem_filter]; simp
  ((repeat (first | mem_news | with_reducible refine Z.stop_for ?_)); try with_reducible refine Z.Stop.mk ?_)
  cases e : L.filter (fun p => !decide (p ∈ K)) with
  | nil =>
    refine cnd_t (by simp) ?_
    ((repeat (first | mem_news | with_reducible refine Z.stop_for ?_)); try with_reducible refine Z.Stop.mk ?_)
    refine ⟨Fr.refl, .inl ⟨rfl, fun p hp => ?_⟩⟩
    by_cases c : p ∈ K
    · exact c
    · have := (hf p).mpr ⟨hp, c⟩
      rw [e] at this
      cases this
  | cons p l =>
    obtain ⟨pL, pK⟩ := (hf p).mp (by rw [e]; exact List.mem_cons_self)
    refine cnd_f (by simp; omega) ?_
    ((repeat (first | mem_news | with_reducible refine Z.stop_for ?_)); try with_reducible refine Z.Stop.mk ?_)
    refine w_ix_l (d := prD p) (at0 _ _) ?_
    ((repeat (first | mem_news | with_reducible refine Z.stop_for ?_)); try with_reducible refine Z.Stop.mk ?_)
    have lenU : ∀ {M : List Pr}, M.Nodup → (∀ x ∈ M, x ∈ L) → M.length ≤ L.length := fun a b => nodup_le a b
    have walkL : ∀ {hv : List Nat}, (∀ q ∈ hv, q < 2) → okPr h (hv.foldl (hp h) p) := fun hq => rows_ok wf hq (hok p pL)
    refine w_sWhile (fun k ρ S' => ∃ (hv : List Nat) (x6 x7 : Option D), ρ = [some (.ref n), some (.lst ((p :: l).map prD)), none, some (prD (hv.foldl (hp h) p)), some (.ref S.length), some (.ref (S.length + 1)), x6, x7, none, none] ∧ Fr [] S S' ∧ S'[S.length]? = some (.lst (((List.range hv.length).map fun i => (hv.take i).foldl (hp h) p).map prD)) ∧ S'[S.length + 1]? = some (.lst (hv.map fun (q : Nat) => D.int (q : Int))) ∧ (∀ q ∈ hv, q < 2) ∧ (∀ i, i ≤ hv.length → (hv.take i).foldl (hp h) p ∈ L ∧ (hv.take i).foldl (hp h) p ∉ K) ∧ ((List.range hv.length).map fun i => (hv.take i).foldl (hp h) p).Nodup ∧ k = L.length - hv.length) (n := L.length) ?_ ?_
    · refine ⟨[], none, none, by rw [List.length_append]; rfl, Fr.app.trans Fr.app, app_old app_new, ?_, fun q hq => (nomatch hq), fun i hi => ?_, List.nodup_nil, rfl⟩
      · have := app_new (S := S ++ [Cel.lst []]) (c := Cel.lst [])
        rw [List.length_append] at this
        exact this
      · rw [List.take_nil]; exact ⟨pL, pK⟩
    · rintro k ρ S1 ⟨hv, x6, x7, rfl, fr, c1, c2, h2, hw, nd, rfl⟩
      have eo1 := fr.at_ eo.ins (by simp)
      have nc1 := fr.at_ nc (by simp)
      have rw1 := fr.at_ rp.rows (by simp)
      have full := hw hv.length (Nat.le_refl _)
      rw [List.take_length] at full
      have lhv : hv.length ≤ L.length := by
        have := lenU nd fun x hx => by
          obtain ⟨i, hi, rfl⟩ := List.mem_map.mp hx
          exact (hw i (by have := List.mem_range.mp hi; omega)).1
        rw [List.length_map, List.length_range] at this
        exact this
      ((repeat (first | mem_news | with_reducible refine Z.stop_for ?_)); try with_reducible refine Z.Stop.mk ?_)
      refine w_notIn_map (f := prD) eqD_pr (x := hv.foldl (hp h) p) (l := (List.range hv.length).map fun i => (hv.take i).foldl (hp h) p) (by simp only [seqL, c1]) (fun y hy => ?_) rfl (fun _ => by simp) (fun _ => by simp) (fun c => ?_) (fun c => ?_)
      · have : y ∈ L := by
          rcases List.mem_cons.mp hy with q | q
          · rw [q]; exact full.1
          · obtain ⟨i, hi, rfl⟩ := List.mem_map.mp q
            exact (hw i (by have := List.mem_range.mp hi; omega)).1
        exact okP_up (okP_pr (hcl y this).1 (hcl y this).2) (by omega)
      · ((repeat (first | mem_news | with_reducible refine Z.stop_for ?_)); try with_reducible refine Z.Stop.mk ?_)
        have shp : ∀ y ∈ (List.range hv.length).map (fun i => (hv.take i).foldl (hp h) p), okP 32 (toP (prD y)) := fun y hy => by
          obtain ⟨i, hi, rfl⟩ := List.mem_map.mp hy
          have := (hw i (by have := List.mem_range.mp hi; omega)).1
          exact okP_up (okP_pr (hcl _ this).1 (hcl _ this).2) (by omega)
        obtain ⟨j, hj, ej⟩ := mIndex_map (f := prD) eqD_pr (x := hv.foldl (hp h) p) (l := (List.range hv.length).map fun i => (hv.take i).foldl (hp h) p) (d := .ref S.length) (S := S1) (by simp only [seqL, c1]) shp c
        · rw [List.getElem?_map] at hj
          obtain ⟨j', hj', e1⟩ := Option.map_eq_some_iff.mp hj
          have hjl : j < hv.length := by
            have := (List.getElem?_eq_some_iff.mp hj').1
            rwa [List.length_range] at this
          rw [List.getElem?_range hjl] at hj'
          cases hj'
          refine w_of ej ?_
          ((repeat (first | mem_news | with_reducible refine Z.stop_for ?_)); try with_reducible refine Z.Stop.mk ?_)
          refine w_opFld (insOf_r eo1) rfl ?_
          ((repeat (first | mem_news | with_reducible refine Z.stop_for ?_)); try with_reducible refine Z.Stop.mk ?_)
          refine w_ix_r (d := prD p) c1 ?_ ?_
          · obtain ⟨m, hm⟩ : ∃ m, hv.length = m + 1 := ⟨hv.length - 1, by omega⟩
            rw [hm, List.range_succ_eq_map]
            exact at0 _ _
          refine w_ix_d (dictOf_r rw1) (key_pr.key _) (dGet_mem key_pr (fun p => rowD (row p)) pL) ?_
          ((repeat (first | mem_news | with_reducible refine Z.stop_for ?_)); try with_reducible refine Z.Stop.mk ?_)
          refine w_sl_r c2 ?_
          rw [cutL_map, cutL_take]
          have hrl := (way p pL).2.2
          unfold rowD
          ((repeat (first | mem_news | with_reducible refine Z.stop_for ?_)); try with_reducible refine Z.Stop.mk ?_)
          refine side_i (by rw [List.length_map, List.length_map, List.length_take]; omega) ?_
          ((repeat (first | mem_news | with_reducible refine Z.stop_for ?_)); try with_reducible refine Z.Stop.mk ?_)
          refine w_sl_r c2 ?_
          rw [cutL_map, cutL_drop]
          ((repeat (first | mem_news | with_reducible refine Z.stop_for ?_)); try with_reducible refine Z.Stop.mk ?_)
          refine ⟨fr, .inr ⟨⟨p, pL, pK⟩, row p ++ hv.take j, hv.drop j, ?_, ?_⟩⟩
          · simp only [rowD, List.map_append]
          have e0 : (row p ++ hv.take j).foldl (hp h) p0 = (hv.take j).foldl (hp h) p := by rw [List.foldl_append, (way p pL).1]
          refine ⟨fun q hq => ?_, fun q hq => h2 q (List.mem_of_mem_drop hq), fun e => ?_, ?_, ?_, fun k hk => ?_⟩
          · rcases List.mem_append.mp hq with hq | hq
            · exact (way p pL).2.1 q hq
            · exact h2 q (List.mem_of_mem_take hq)
          · have := congrArg List.length e
            rw [List.length_drop, List.length_nil] at this
            omega
          · rw [List.length_append, List.length_take, List.length_drop]
            omega
          · rw [e0, ← List.foldl_append, List.take_append_drop]
            exact e1.symm
          · rw [e0, ← List.foldl_append]
            have : hv.take j ++ (hv.drop j).take k = hv.take (j + k) := (List.take_add).symm
            rw [this]
            rw [List.length_drop] at hk
            have := hw (j + k) (by omega)
            exact lo _ this.1 this.2
      · ((repeat (first | mem_news | with_reducible refine Z.stop_for ?_)); try with_reducible refine Z.Stop.mk ?_)
        refine w_append c1 (by rw [List.length_map, List.length_map, List.length_range]; omega) ?_
        ((repeat (first | mem_news | with_reducible refine Z.stop_for ?_)); try with_reducible refine Z.Stop.mk ?_)
        have eo2 := set_ne (n := S.length) (c := Cel.lst (((List.range hv.length).map fun i => (hv.take i).foldl (hp h) p).map prD ++ [prD (hv.foldl (hp h) p)])) eo1 (by have := (List.getElem?_eq_some_iff.mp eo.ins).1; omega)
        have nc2 := set_ne (n := S.length) (c := Cel.lst (((List.range hv.length).map fun i => (hv.take i).foldl (hp h) p).map prD ++ [prD (hv.foldl (hp h) p)])) nc1 (by have := (List.getElem?_eq_some_iff.mp nc).1; omega)
        have c22 := set_ne (n := S.length) (c := Cel.lst (((List.range hv.length).map fun i => (hv.take i).foldl (hp h) p).map prD ++ [prD (hv.foldl (hp h) p)])) c2 (by omega)
        refine w_opFld (insOf_r eo2) rfl ?_
        ((repeat (first | mem_news | with_reducible refine Z.stop_for ?_)); try with_reducible refine Z.Stop.mk ?_)
        refine w_of (f_halves_of_n wf (hok _ full.1)) ?_
        ((repeat (first | mem_news | with_reducible refine Z.stop_for ?_)); try with_reducible refine Z.Stop.mk ?_)
        refine w_compM (l := [0, 1]) (f := fun i => .tup [.int (i : Nat), prD (hp h (hv.foldl (hp h) p) i)]) (p := fun i => !decide (hp h (hv.foldl (hp h) p) i ∈ K)) (F := fun i => .tup [.int (i : Nat), prD (hp h (hv.foldl (hp h) p) i)]) True.intro (fun i hi => ?_) ?_
        · ((repeat (first | mem_news | with_reducible refine Z.stop_for ?_)); try with_reducible refine Z.Stop.mk ?_)
          refine w_opFld (insOf_r eo2) rfl ?_
          refine w_notIn_d (dictOf_r nc2) (key_pr.key _) ?_
          rw [dGet_f key_pr fun p => D.int (num p : Nat)]
          ((repeat (first | mem_news | with_reducible refine Z.stop_for ?_)); try with_reducible refine Z.Stop.mk ?_)
          refine ⟨?_, fun _ => ?_, fun _ => rfl⟩
          · by_cases c : hp h (hv.foldl (hp h) p) i ∈ K
            · rw [if_pos c, decide_eq_true c]; rfl
            · rw [if_neg c, decide_eq_false c]; rfl
          · ((repeat (first | mem_news | with_reducible refine Z.stop_for ?_)); try with_reducible refine Z.Stop.mk ?_)
            exact ⟨rfl, rfl⟩
        have hf2 : ∀ i, i ∈ [0, 1].filter (fun i => !decide (hp h (hv.foldl (hp h) p) i ∈ K)) ↔ i < 2 ∧ hp h (hv.foldl (hp h) p) i ∉ K := fun i => by rw [List.mem_filter]; simp; omega
        cases e2 : [0, 1].filter (fun i => !decide (hp h (hv.foldl (hp h) p) i ∈ K)) with
        | nil =>
          obtain ⟨i, hi⟩ := hx _ full.1 (lo _ full.1 full.2) full.2
          have := (hf2 i).mpr hi
          rw [e2] at this
          cases this
        | cons i0 l2 =>
          obtain ⟨hi1, hi2⟩ := (hf2 i0).mp (by rw [e2]; exact List.mem_cons_self)
          have hi3 := hc _ full.1 _ hi1
          ((repeat (first | mem_news | with_reducible refine Z.stop_for ?_)); try with_reducible refine Z.Stop.mk ?_)
          refine w_ix_l (d := .tup [.int (i0 : Nat), prD (hp h (hv.foldl (hp h) p) i0)]) (at0 _ _) ?_
          ((repeat (first | mem_news | with_reducible refine Z.stop_for ?_)); try with_reducible refine Z.Stop.mk ?_)
          have c23 : (S1.set S.length (Cel.lst (((List.range hv.length).map fun i => (hv.take i).foldl (hp h) p).map prD ++ [prD (hv.foldl (hp h) p)])))[S.length]? = _ := set_at c1
          refine w_append c22 (by rw [List.length_map]; omega) ?_
          ((repeat (first | mem_news | with_reducible refine Z.stop_for ?_)); try with_reducible refine Z.Stop.mk ?_)
          refine w_ix_l (d := .tup [.int (i0 : Nat), prD (hp h (hv.foldl (hp h) p) i0)]) (at0 _ _) ?_
          ((repeat (first | mem_news | with_reducible refine Z.stop_for ?_)); try with_reducible refine Z.Stop.mk ?_)
          have eqm : (List.range (hv ++ [i0]).length).map (fun i => ((hv ++ [i0]).take i).foldl (hp h) p) = ((List.range hv.length).map fun i => (hv.take i).foldl (hp h) p) ++ [hv.foldl (hp h) p] := by
            rw [List.length_append, List.length_singleton, List.range_succ, List.map_append]
            congr 1
            · refine List.map_congr_left fun i hi => ?_
              rw [List.take_append_of_le_length (by have := List.mem_range.mp hi; omega)]
            · simp
          have nd2 : (((List.range hv.length).map fun i => (hv.take i).foldl (hp h) p) ++ [hv.foldl (hp h) p]).Nodup := by
            rw [List.nodup_append]
            refine ⟨nd, by simp, fun a ha b hb e => ?_⟩
            rw [List.mem_singleton] at hb
            subst hb
            exact c (e ▸ ha)
          have lt2 := lenU nd2 fun x hx => by
            rcases List.mem_append.mp hx with hx | hx
            · obtain ⟨i, hi, rfl⟩ := List.mem_map.mp hx
              exact (hw i (by have := List.mem_range.mp hi; omega)).1
            · rw [List.mem_singleton] at hx; subst hx; exact full.1
          rw [List.length_append, List.length_map, List.length_range, List.length_singleton] at lt2
          have ef : hp h (hv.foldl (hp h) p) i0 = (hv ++ [i0]).foldl (hp h) p := by rw [List.foldl_append]; rfl
          rw [ef]
          refine ⟨L.length - (hv ++ [i0]).length, ?_, hv ++ [i0], _, _, rfl, (fr.setNew (Nat.le_refl _)).setNew (by omega), ?_, ?_, fun q hq => ?_, fun i hi => ?_, ?_, rfl⟩
          · rw [List.length_append, List.length_singleton]; omega
          · rw [eqm, List.map_append]
            exact set_ne (set_at c1) (by omega)
          · rw [List.map_append]
            exact set_at c22
          · rcases List.mem_append.mp hq with hq | hq
            · exact h2 q hq
            · rw [List.mem_singleton] at hq; subst hq; exact hi1
          · rw [List.length_append, List.length_singleton] at hi
            by_cases ci : i ≤ hv.length
            · rw [List.take_append_of_le_length ci]
              exact hw i ci
            · rw [List.take_of_length_le (by rw [List.length_append, List.length_singleton]; omega), List.foldl_append]
              exact ⟨hi3, hi2⟩
          · rw [eqm]; exact nd2
end
end Pg
set_option Elab.async false
set_option linter.all false
set_option maxRecDepth 100000
set_option maxHeartbeats 1000000

/-! ED5: edges: made, misfit, fits, paper. -/
namespace Pg
open Z
open PySem (Str sizeLine)
section
variable {h : House} {S : Sto} {Q : D → Sto → Prop}
/-- all pairs that may be come to -/
def univ2 (h : House) (p : Pr) : List Pr := (univ h [p.1, p.2]).flatMap fun x => (univ h [p.1, p.2]).map fun y => (x, y)
theorem mem_univ2 {p x : Pr} : x ∈ univ2 h p ↔ x.1 ∈ univ h [p.1, p.2] ∧ x.2 ∈ univ h [p.1, p.2] := by
  unfold univ2
  rw [List.mem_flatMap]
  constructor
  · rintro ⟨a, ha, hx⟩
    obtain ⟨b, hb, rfl⟩ := List.mem_map.mp hx
    exact ⟨ha, hb⟩
  · rintro ⟨ha, hb⟩
    exact ⟨x.1, ha, List.mem_map.mpr ⟨x.2, hb, rfl⟩⟩
theorem univ2_len (wf : WF h) (p : Pr) : (univ2 h p).length = (12 * h.length + 2) * (12 * h.length + 2) := by
  unfold univ2
  rw [List.length_flatMap]
  simp only [List.length_map]
  have : ∀ (l : List Sg) (n : Nat), (l.map fun _ => n).sum = l.length * n := by
    intro l n
    induction l with
    | nil => simp
    | cons x l ih => rw [List.map_cons, List.sum_cons, ih, List.length_cons, Nat.succ_mul]; omega
  rw [this, univ_len wf]
  rfl
theorem univ2_hp (wf : WF h) {p x : Pr} (hx : x ∈ univ2 h p) (ho : okPr h x) {i : Nat} (hi : i < 2) : hp h x i ∈ univ2 h p := by
  have := mem_univ2.mp hx
  exact mem_univ2.mpr ⟨univ_quar wf (by omega) ho.1 this.1, univ_quar wf (by omega) ho.2 this.2⟩
/-- an Edge, made and counted -/
structure Edg (h : House) (p0 : Pr) (n : Nat) (S : Sto) (r q u : Nat) (L K : List Pr) (row : Pr → List Nat) (num : Pr → Nat) : Prop where
  eo : EO h n r q u S
  rp : RP r q S L row
  nc : NC u S K num
  gone : ∃ U, Gone h p0 U L row
  ex : Expl 2 (hp h) p0 L row
  nm : Nm h L K num
  nx : ∀ p ∈ L, lone p = true → p ∉ K → ∃ i, i < 2 ∧ hp h p i ∉ K
  cl : ∀ p ∈ L, p.1.cl ∧ p.2.cl
  len : L.length ≤ 400000
theorem pr_cl (wf : WF h) (hc : HC h) : ∀ {r : List Nat} {p : Pr}, (∀ q ∈ r, q < 2) → okPr h p → p.1.cl ∧ p.2.cl → (r.foldl (hp h) p).1.cl ∧ (r.foldl (hp h) p).2.cl
  | [], p, _, _, hp => hp
  | q :: r, p, hr, ho, hp => by
    have hq := hr q List.mem_cons_self
    exact pr_cl wf hc (r := r) (fun x hx => hr x (List.mem_cons_of_mem _ hx)) (hp_ok wf ho hq) ⟨quar_cl wf hc (by omega) ho.1 hp.1, quar_cl wf hc (by omega) ho.2 hp.2⟩
theorem Edg.R {p0 : Pr} {n r q u : Nat} {L K : List Pr} {row : Pr → List Nat} {num : Pr → Nat} (E : Edg h p0 n S r q u L K row num) : EdgeR h p0 L row fun p => if p ∈ K then some (num p) else none := by
  refine ⟨E.ex, fun p hp h0 => ?_, fun p pL h1 m hm i hi => ?_, fun p hp h1 hm => ?_⟩
  · have := E.nm.base p hp h0
    rw [if_pos this.1, this.2]
  · by_cases c : p ∈ K
    · rw [if_pos c] at hm
      cases hm
      have := E.nm.lon p c h1 i hi
      exact ⟨num (hp h p i), by rw [if_pos this.1], this.2⟩
    · rw [if_neg c] at hm; cases hm
  · by_cases c : p ∈ K
    · rw [if_pos c] at hm; cases hm
    · obtain ⟨i, hi, hn⟩ := E.nx p hp h1 c
      exact ⟨i, hi, by rw [if_neg hn]⟩
theorem fp1 {a : D} : fPut "own_house" a [] = [(("own_house" : Str), a)] := rfl
theorem fp2 {a b : D} : fPut "rows" b [(("own_house" : Str), a)] = [(("own_house" : Str), a), (("rows" : Str), b)] := rfl
theorem fp3 {a b c : D} : fPut "pairs" c [(("own_house" : Str), a), (("rows" : Str), b)] = [(("own_house" : Str), a), (("rows" : Str), b), (("pairs" : Str), c)] := rfl
theorem fp4 {a b c d : D} : fPut "numbers" d [(("own_house" : Str), a), (("rows" : Str), b), (("pairs" : Str), c)] = [(("own_house" : Str), a), (("rows" : Str), b), (("pairs" : Str), c), (("numbers" : Str), d)] := rfl
theorem make_edge_n {p0 : Pr} (wf : WF h) (hc : HC h) (hl : h.length ≤ 50) (ho : okPr h p0) (h1 : p0.1.cl) (h2 : p0.2.cl) :
    W (f_Edge_init [.ref S.length, hsD h, sgD p0.1, sgD p0.2] (S ++ [.ins "Edge" []])) fun v S' => v = .non ∧ Fr [] S S' ∧ ∃ r q u L K row num, Edg h p0 S.length S' r q u L K row num := by
  unfold f_Edge_init b_Edge_init
  ((repeat (first | mem_news | with_reducible refine Z.stop_for ?_)); try with_reducible refine Z.Stop.mk ?_)
  refine w_opFldSet (app_new (c := .ins "Edge" [])) (by simp) ?_
  rw [set_end, fp1]
  ((repeat (first | mem_news | with_reducible refine Z.stop_for ?_)); try with_reducible refine Z.Stop.mk ?_)
  refine w_eDct ?_
  refine w_pCons ?_
  ((repeat (first | mem_news | with_reducible refine Z.stop_for ?_)); try with_reducible refine Z.Stop.mk ?_)
  refine w_pNil ⟨⟨?_, by simp⟩, ?_⟩
  · have : isKey 8 (prD p0) = true := key_pr.key p0
    unfold prD at this
    simp only [List.all_cons, List.all_nil, this]
    rfl
  have e1 : putAll [(D.tup [sgD p0.1, sgD p0.2], D.tup [])] ([], []) = ([prD p0], [rowD []]) := rfl
  rw [e1]
  ((repeat (first | mem_news | with_reducible refine Z.stop_for ?_)); try with_reducible refine Z.Stop.mk ?_)
  simp only [List.length_append, List.length_cons, List.length_nil, Nat.zero_add, List.append_assoc, List.cons_append, List.nil_append]
  refine w_opFldSet (at_end 0) (by simp) ?_
  rw [set_end, fp2]
  ((repeat (first | mem_news | with_reducible refine Z.stop_for ?_)); try with_reducible refine Z.Stop.mk ?_)
  simp only [List.length_append, List.length_cons, List.length_nil, Nat.zero_add, List.append_assoc, List.cons_append, List.nil_append]
  refine w_opFldSet (at_end 0) (by simp) ?_
  rw [set_end, fp3]
  ((repeat (first | mem_news | with_reducible refine Z.stop_for ?_)); try with_reducible refine Z.Stop.mk ?_)
  simp only [List.length_append, List.length_cons, List.length_nil, Nat.zero_add, List.append_assoc, List.cons_append, List.nil_append]
  refine w_opFldSet (at_end 0) (by simp) ?_
  rw [set_end, fp4]
  ((repeat (first | mem_news | with_reducible refine Z.stop_for ?_)); try with_reducible refine Z.Stop.mk ?_)
  generalize hS1 : S ++ _ = S1
  have hS : S1 = S ++ [.ins "Edge" [("own_house", hsD h), ("rows", .ref (S.length + 1)), ("pairs", .ref (S.length + 2)), ("numbers", .ref (S.length + 3))], .dic false [prD p0] [rowD []], .lst [prD p0], .dic false [] []] := by
    rw [← hS1]
    rfl
  have eo : EO h S.length (S.length + 1) (S.length + 2) (S.length + 3) S1 := ⟨by rw [hS]; exact at_end 0, by omega, by omega, by omega⟩
  have rp : RP (S.length + 1) (S.length + 2) S1 [p0] fun _ => [] := ⟨by rw [hS]; exact at_end 1, by rw [hS]; exact at_end 2⟩
  have fr : Fr [] S S1 := by rw [hS]; exact Fr.app
  have hlU : (univ2 h p0).length ≤ 400000 := by
    rw [univ2_len wf]
    exact Nat.le_trans (Nat.mul_le_mul (show _ ≤ 602 by omega) (show _ ≤ 602 by omega)) (by decide)
  have h0U : p0 ∈ univ2 h p0 := mem_univ2.mpr ⟨List.mem_append.mpr (.inr (List.mem_append.mpr (.inr (by simp)))), List.mem_append.mpr (.inr (List.mem_append.mpr (.inr (by simp))))⟩
  refine ⟨_, insOf_r eo.ins, rfl, ?_⟩
  ((repeat (first | mem_news | with_reducible refine Z.stop_for ?_)); try with_reducible refine Z.Stop.mk ?_)
  refine w_imp (f_walk_n wf eo rp ho h0U (fun p hp ho i hi => univ2_hp wf hp ho hi) (by omega)) ?_
  rintro d S2 ⟨rfl, fr2, L, row, rp2, G, ex⟩
  have eo2 : EO h S.length (S.length + 1) (S.length + 2) (S.length + 3) S2 := ⟨fr2.at_ eo.ins (by simp), by omega, by omega, by omega⟩
  have hlL : L.length ≤ 400000 := Nat.le_trans (nodup_le G.nodup G.sub) hlU
  ((repeat (first | mem_news | with_reducible refine Z.stop_for ?_)); try with_reducible refine Z.Stop.mk ?_)
  refine ⟨_, insOf_r eo2.ins, rfl, ?_⟩
  ((repeat (first | mem_news | with_reducible refine Z.stop_for ?_)); try with_reducible refine Z.Stop.mk ?_)
  refine w_imp (f_count_n wf eo2 rp2 G.nodup G.ok (by omega)) ?_
  rintro d S3 ⟨rfl, fr3, eo3, K, num, nc, N, hx⟩
  ((repeat (first | mem_news | with_reducible refine Z.stop_for ?_)); try with_reducible refine Z.Stop.mk ?_)
  have frA : Fr [S.length, S.length + 1, S.length + 2] S S3 := (fr.mono fun i hi => (nomatch hi)).trans ((fr2.mono fun i hi => .inl (by simp at hi ⊢; omega)).trans (fr3.mono fun i hi => .inl (by simp at hi ⊢; omega)))
  refine ⟨rfl, frA.mono fun i hi => .inr (by simp at hi; omega), _, _, _, L, K, row, num, eo3, ⟨fr3.at_ rp2.rows (by simp), fr3.at_ rp2.pairs (by simp)⟩, nc, ⟨_, G⟩, ex, N, hx, fun p hp => ?_, hlL⟩
  obtain ⟨w1, w2, _⟩ := G.way p hp
  have := pr_cl wf hc w2 ho ⟨h1, h2⟩
  rw [w1] at this
  exact this
end
end Pg
set_option Elab.async false
set_option linter.all false
set_option maxRecDepth 100000
set_option maxHeartbeats 1000000

/-! ED6: misfit, fits, fit_paper. -/
namespace Pg
open Z
open PySem (Str sizeLine)
section
variable {h : House} {S : Sto} {Q : D → Sto → Prop} {a b : Sg}
/-- a row and a round of halves that tell two edges apart -/
structure Mis (h : House) (p0 : Pr) (r ag : List Nat) : Prop where
  r2 : ∀ q ∈ r, q < 2
  a2 : ∀ q ∈ ag, q < 2
  an : ag ≠ []
  len : r.length ≤ 800000 ∧ ag.length ≤ 800000
  mis : unl (r.foldl (hp h) p0) = true ∨ Away h p0 r ag
theorem unl_iff {p : Pr} : unl p = true ↔ endd p = true ∧ p.1 ≠ p.2 := by
  unfold unl
  rw [Bool.and_eq_true]
  simp
theorem f_misfit_n (wf : WF h) (hc : HC h) (hl : h.length ≤ 50) (ho1 : a.ok h.length) (ho2 : b.ok h.length) (h1 : a.cl) (h2 : b.cl) :
    W (f_misfit [hsD h, sgD a, sgD b] S) fun d S' => Fr [] S S' ∧ ((d = .non ∧ FitS h a h b) ∨ (¬ FitS h a h b ∧ ∃ r ag, d = .tup [rowD r, rowD ag] ∧ Mis h (a, b) r ag)) := by
  unfold f_misfit b_misfit
  ((repeat (first | mem_news | with_reducible refine Z.stop_for ?_)); try with_reducible refine Z.Stop.mk ?_)
  refine w_imp (make_edge_n (p0 := (a, b)) wf hc hl ⟨ho1, ho2⟩ h1 h2) ?_
  rintro v S1 ⟨rfl, fr, r, q, u, L, K, row, num, E⟩
  refine ⟨rfl, ?_⟩
  ((repeat (first | mem_news | with_reducible refine Z.stop_for ?_)); try with_reducible refine Z.Stop.mk ?_)
  refine ⟨_, insOf_r E.eo.ins, rfl, ?_⟩
  ((repeat (first | mem_news | with_reducible refine Z.stop_for ?_)); try with_reducible refine Z.Stop.mk ?_)
  refine w_of (f_unlike_n E.eo E.rp (Nat.le_trans E.len (by omega))) ?_
  obtain ⟨U, G⟩ := E.gone
  have iff := E.R.iff
  cases e : L.filter unl with
  | nil =>
    simp only
    ((repeat (first | mem_news | with_reducible refine Z.stop_for ?_)); try with_reducible refine Z.Stop.mk ?_)
    refine cnd_eq (r := true) rfl (cnd_true ?_)
    ((repeat (first | mem_news | with_reducible refine Z.stop_for ?_)); try with_reducible refine Z.Stop.mk ?_)
    refine ⟨_, insOf_r E.eo.ins, rfl, ?_⟩
    ((repeat (first | mem_news | with_reducible refine Z.stop_for ?_)); try with_reducible refine Z.Stop.mk ?_)
    refine w_imp (f_endless_n (p0 := (a, b)) wf E.eo E.rp E.nc E.nm E.nx E.ex.nodup G.ok E.cl G.way E.ex.closed E.len) ?_
    rintro d S2 ⟨fr2, hd⟩
    refine ⟨fr.trans fr2, ?_⟩
    rcases hd with ⟨rfl, hk⟩ | ⟨⟨p, pL, pK⟩, r', ag, rfl, A⟩
    · refine .inl ⟨rfl, iff.mp ⟨fun p hp he => ?_, fun p hp hn => ?_⟩⟩
      · by_cases c : p.1 = p.2
        · exact c
        · have : p ∈ L.filter unl := List.mem_filter.mpr ⟨hp, unl_iff.mpr ⟨he, c⟩⟩
          rw [e] at this
          cases this
      · simp only [if_pos (hk p hp)] at hn
        cases hn
    · refine .inr ⟨fun F => (iff.mpr F).2 p pL (by simp only [if_neg pK]), r', ag, rfl, A.r2, A.a2, A.an, A.len, .inr A⟩
  | cons p l =>
    have hp : p ∈ L.filter unl := by rw [e]; exact List.mem_cons_self
    obtain ⟨hpL, hu⟩ := List.mem_filter.mp hp
    have hu2 := unl_iff.mp hu
    simp only
    ((repeat (first | mem_news | with_reducible refine Z.stop_for ?_)); try with_reducible refine Z.Stop.mk ?_)
    refine cnd_eq (r := false) rfl (cnd_false ?_)
    ((repeat (first | mem_news | with_reducible refine Z.stop_for ?_)); try with_reducible refine Z.Stop.mk ?_)
    refine w_opFld (insOf_r E.eo.ins) rfl ?_
    ((repeat (first | mem_news | with_reducible refine Z.stop_for ?_)); try with_reducible refine Z.Stop.mk ?_)
    refine w_ix_d (dictOf_r E.rp.rows) (key_pr.key _) (dGet_mem key_pr (fun p => rowD (row p)) hpL) ?_
    ((repeat (first | mem_news | with_reducible refine Z.stop_for ?_)); try with_reducible refine Z.Stop.mk ?_)
    obtain ⟨w1, w2, w3⟩ := G.way p hpL
    refine ⟨fr, .inr ⟨fun F => hu2.2 ((iff.mpr F).1 p hpL hu2.1), row p, [0], rfl, w2, fun q hq => ?_, by simp, ⟨by have := E.len; omega, by simp⟩, .inl ?_⟩⟩
    · rw [List.mem_singleton] at hq; omega
    · rw [w1]; exact hu
theorem f_fits_n (wf : WF h) (hc : HC h) (hl : h.length ≤ 50) (ho1 : a.ok h.length) (ho2 : b.ok h.length) (h1 : a.cl) (h2 : b.cl) :
    W (f_fits [hsD h, sgD a, sgD b] S) fun d S' => Fr [] S S' ∧ ∃ q : Bool, d = .bl q ∧ (q = true ↔ FitS h a h b) := by
  unfold f_fits b_fits
  ((repeat (first | mem_news | with_reducible refine Z.stop_for ?_)); try with_reducible refine Z.Stop.mk ?_)
  refine w_imp (f_misfit_n wf hc hl ho1 ho2 h1 h2) ?_
  rintro d S1 ⟨fr, ⟨rfl, F⟩ | ⟨F, r, ag, rfl, _⟩⟩
  · ((repeat (first | mem_news | with_reducible refine Z.stop_for ?_)); try with_reducible refine Z.Stop.mk ?_)
    exact ⟨fr, true, rfl, fun _ => F, fun _ => rfl⟩
  · ((repeat (first | mem_news | with_reducible refine Z.stop_for ?_)); try with_reducible refine Z.Stop.mk ?_)
    exact ⟨fr, false, rfl, fun h => (nomatch h), fun h => absurd h F⟩
/-- a paper -/
structure Ppr (h : House) (p0 : Pr) (L : List Pr) (num : Pr → Nat) : Prop where
  head : p0 ∈ L
  nodup : L.Nodup
  ok : ∀ p ∈ L, okPr h p ∧ p.1.cl ∧ p.2.cl
  same : ∀ p ∈ L, endd p = true → p.1 = p.2
  half : ∀ p ∈ L, ∀ i < 2, hp h p i ∈ L
  less : ∀ p ∈ L, lone p = true → ∀ i < 2, num (hp h p i) < num p
  len : L.length ≤ 400000
def tripD (num : Pr → Nat) (p : Pr) : D := .tup [sgD p.1, sgD p.2, .int (num p : Nat)]
theorem f_fit_paper_n (wf : WF h) (hc : HC h) (hl : h.length ≤ 50) (ho1 : a.ok h.length) (ho2 : b.ok h.length) (h1 : a.cl) (h2 : b.cl) :
    W (f_fit_paper [hsD h, sgD a, sgD b] S) fun d S' => Fr [] S S' ∧ ((¬ FitS h a h b ∧ d = .non) ∨ (FitS h a h b ∧ ∃ L num, d = .lst (L.map (tripD num)) ∧ Ppr h (a, b) L num)) := by
  unfold f_fit_paper b_fit_paper
  ((repeat (first | mem_news | with_reducible refine Z.stop_for ?_)); try with_reducible refine Z.Stop.mk ?_)
  refine w_imp (make_edge_n (p0 := (a, b)) wf hc hl ⟨ho1, ho2⟩ h1 h2) ?_
  rintro v S1 ⟨rfl, fr, r, q, u, L, K, row, num, E⟩
  refine ⟨rfl, ?_⟩
  ((repeat (first | mem_news | with_reducible refine Z.stop_for ?_)); try with_reducible refine Z.Stop.mk ?_)
  refine ⟨_, insOf_r E.eo.ins, rfl, ?_⟩
  ((repeat (first | mem_news | with_reducible refine Z.stop_for ?_)); try with_reducible refine Z.Stop.mk ?_)
  refine w_of (f_unlike_n E.eo E.rp (Nat.le_trans E.len (by omega))) ?_
  obtain ⟨U, G⟩ := E.gone
  have iff := E.R.iff
  have hEl := E.len
  cases e : L.filter unl with
  | cons p l =>
    have hp : p ∈ L.filter unl := by rw [e]; exact List.mem_cons_self
    obtain ⟨hpL, hu⟩ := List.mem_filter.mp hp
    have hu2 := unl_iff.mp hu
    simp only
    ((repeat (first | mem_news | with_reducible refine Z.stop_for ?_)); try with_reducible refine Z.Stop.mk ?_)
    refine cnd_eq (r := false) rfl (cnd_false ?_)
    ((repeat (first | mem_news | with_reducible refine Z.stop_for ?_)); try with_reducible refine Z.Stop.mk ?_)
    exact ⟨fr, .inl ⟨fun F => hu2.2 ((iff.mpr F).1 p hpL hu2.1), rfl⟩⟩
  | nil =>
    have same : ∀ p ∈ L, endd p = true → p.1 = p.2 := fun p hp he => by
      by_cases c : p.1 = p.2
      · exact c
      · have : p ∈ L.filter unl := List.mem_filter.mpr ⟨hp, unl_iff.mpr ⟨he, c⟩⟩
        rw [e] at this
        cases this
    simp only
    ((repeat (first | mem_news | with_reducible refine Z.stop_for ?_)); try with_reducible refine Z.Stop.mk ?_)
    refine cnd_eq (r := true) rfl (cnd_true ?_)
    ((repeat (first | mem_news | with_reducible refine Z.stop_for ?_)); try with_reducible refine Z.Stop.mk ?_)
    refine w_opFld (insOf_r E.eo.ins) rfl ?_
    ((repeat (first | mem_news | with_reducible refine Z.stop_for ?_)); try with_reducible refine Z.Stop.mk ?_)
    refine w_len_rd E.nc ?_
    rw [List.length_map]
    ((repeat (first | mem_news | with_reducible refine Z.stop_for ?_)); try with_reducible refine Z.Stop.mk ?_)
    refine w_opFld (insOf_r E.eo.ins) rfl ?_
    ((repeat (first | mem_news | with_reducible refine Z.stop_for ?_)); try with_reducible refine Z.Stop.mk ?_)
    refine w_len_rm E.rp.pairs ?_
    ((repeat (first | mem_news | with_reducible refine Z.stop_for ?_)); try with_reducible refine Z.Stop.mk ?_)
    refine cnd_dec (fun lt => ?_) (fun ge => ?_)
    · ((repeat (first | mem_news | with_reducible refine Z.stop_for ?_)); try with_reducible refine Z.Stop.mk ?_)
      refine ⟨fr, .inl ⟨fun F => ?_, rfl⟩⟩
      have := nodup_le (U := K) E.ex.nodup fun p hp => by
        have := (iff.mpr F).2 p hp
        by_cases c : p ∈ K
        · exact c
        · simp only [if_neg c] at this
          exact absurd rfl this
      omega
    · have hk : ∀ p ∈ L, p ∈ K := fun p hp => by
        by_cases c : p ∈ K
        · exact c
        · have := nodup_le (L := p :: K) (U := L) (List.nodup_cons.mpr ⟨c, E.nm.nodup⟩) fun x hx => by
            rcases List.mem_cons.mp hx with q | q
            · subst q; exact hp
            · exact E.nm.sub x q
          rw [List.length_cons] at this
          omega
      ((repeat (first | mem_news | with_reducible refine Z.stop_for ?_)); try with_reducible refine Z.Stop.mk ?_)
      refine w_opFld (insOf_r E.eo.ins) rfl ?_
      refine w_src_r E.rp.pairs ?_
      ((repeat (first | mem_news | with_reducible refine Z.stop_for ?_)); try with_reducible refine Z.Stop.mk ?_)
      refine w_compA (l := L) (f := prD) (F := tripD num) E.rp.pairs (fun p hp => ?_) ?_
      · unfold prD
        ((repeat (first | mem_news | with_reducible refine Z.stop_for ?_)); try with_reducible refine Z.Stop.mk ?_)
        refine w_opFld (insOf_r E.eo.ins) rfl ?_
        ((repeat (first | mem_news | with_reducible refine Z.stop_for ?_)); try with_reducible refine Z.Stop.mk ?_)
        refine w_ix_d (dictOf_r E.nc) (key_pr.key p) (dGet_mem key_pr (fun p => D.int (num p : Nat)) (hk p hp)) ?_
        exact ⟨rfl, rfl⟩
      ((repeat (first | mem_news | with_reducible refine Z.stop_for ?_)); try with_reducible refine Z.Stop.mk ?_)
      refine ⟨fr, .inr ⟨iff.mp ⟨same, fun p hp => by simp only [if_pos (hk p hp)]; simp⟩, L, num, rfl, E.ex.head, E.ex.nodup, fun p hp => ⟨G.ok p hp, E.cl p hp⟩, same, E.ex.closed, fun p hp h1 i hi => (E.nm.lon p (hk p hp) h1 i hi).2, E.len⟩⟩
end
end Pg
set_option Elab.async false
set_option linter.all false
set_option maxRecDepth 100000
set_option maxHeartbeats 1000000

/-! ED7: is_number .. is_sight. -/
namespace Pg
open Z
open PySem (Str sizeLine)
section
variable {h : House} {S : Sto} {Q : D → Sto → Prop}
theorem f_is_number_i {i : Int} : f_is_number [.int i] S = .val (.bl true) S := by
  refine w_eq ?_
  unfold f_is_number b_is_number
  ((repeat (first | mem_news | with_reducible refine Z.stop_for ?_)); try with_reducible refine Z.Stop.mk ?_)
  exact ⟨rfl, rfl⟩
theorem f_is_below_n {i n : Int} : f_is_below [.int i, .int n] S = .val (.bl (decide (0 ≤ i ∧ i < n))) S := by
  refine w_eq ?_
  unfold f_is_below b_is_below
  ((repeat (first | mem_news | with_reducible refine Z.stop_for ?_)); try with_reducible refine Z.Stop.mk ?_)
  refine w_of f_is_number_i ?_
  ((repeat (first | mem_news | with_reducible refine Z.stop_for ?_)); try with_reducible refine Z.Stop.mk ?_)
  refine cnd_dec (fun h1 => ?_) (fun h1 => ?_)
  · ((repeat (first | mem_news | with_reducible refine Z.stop_for ?_)); try with_reducible refine Z.Stop.mk ?_)
    exact ⟨by simp [h1], rfl⟩
  · ((repeat (first | mem_news | with_reducible refine Z.stop_for ?_)); try with_reducible refine Z.Stop.mk ?_)
    refine ⟨?_, rfl⟩
    rw [decide_eq_false (fun h => h1 h.1)]
theorem f_is_turn_n {i : Int} : f_is_turn [.int i] S = .val (.bl (decide (0 ≤ i ∧ i < 8))) S := by
  refine w_eq ?_
  unfold f_is_turn b_is_turn
  ((repeat (first | mem_news | with_reducible refine Z.stop_for ?_)); try with_reducible refine Z.Stop.mk ?_)
  unfold c_SHOWN
  ((repeat (first | mem_news | with_reducible refine Z.stop_for ?_)); try with_reducible refine Z.Stop.mk ?_)
  exact w_of f_is_below_n ⟨rfl, rfl⟩
theorem letters_in {k : Nat} (h1 : 97 ≤ k) (h2 : k ≤ 122) : opIn (.str ⟨#[k]⟩) c_LETTERS S = .val (.bl true) S := by
  have : k ∈ (("abcdefghijklmnopqrstuvwxyz" : Str)).cps.toList := by
    have e : (("abcdefghijklmnopqrstuvwxyz" : Str)).cps.toList = (List.range 26).map (· + 97) := by decide
    rw [e]
    exact List.mem_map.mpr ⟨k - 97, List.mem_range.mpr (by omega), by omega⟩
  unfold c_LETTERS
  simp only [opIn, opInB, decide_eq_true this]
theorem f_is_colour_n {c : Str} (hc : Clr c) : f_is_colour [.str c] S = .val (.bl true) S := by
  refine w_eq ?_
  unfold f_is_colour b_is_colour c_MOST_LETTERS
  ((repeat (first | mem_news | with_reducible refine Z.stop_for ?_)); try with_reducible refine Z.Stop.mk ?_)
  refine w_of (b := .int (c.length : Nat)) (S := S) (by simp only [bLen, lenD]; rw [if_pos (Nat.le_trans hc.2.1 (by decide))]) ?_
  ((repeat (first | mem_news | with_reducible refine Z.stop_for ?_)); try with_reducible refine Z.Stop.mk ?_)
  refine cnd_t (by have := hc.1; omega) ?_
  ((repeat (first | mem_news | with_reducible refine Z.stop_for ?_)); try with_reducible refine Z.Stop.mk ?_)
  refine cnd_t (by have := hc.2.1; omega) ?_
  ((repeat (first | mem_news | with_reducible refine Z.stop_for ?_)); try with_reducible refine Z.Stop.mk ?_)
  have hlen : (signs c).length ≤ 1000000 := by
    unfold signs
    rw [List.length_map]
    exact Nat.le_trans (show c.cps.toList.length ≤ 8 from hc.2.1) (by omega)
  refine side_i hlen ?_
  ((repeat (first | mem_news | with_reducible refine Z.stop_for ?_)); try with_reducible refine Z.Stop.mk ?_)
  refine w_allT (fun S' => S' = S) (fun _ _ => True.intro) rfl (fun d hd S' e => ?_) fun S' e => ?_
  · subst e
    obtain ⟨k, hk, rfl⟩ := List.mem_map.mp hd
    ((repeat (first | mem_news | with_reducible refine Z.stop_for ?_)); try with_reducible refine Z.Stop.mk ?_)
    have := hc.2.2 k hk
    exact w_of (letters_in this.1 this.2) ⟨rfl, rfl⟩
  · subst e
    ((repeat (first | mem_news | with_reducible refine Z.stop_for ?_)); try with_reducible refine Z.Stop.mk ?_)
    exact w_allR ⟨rfl, rfl⟩
theorem f_is_colour_t {ds : List D} : f_is_colour [.tup ds] S = .val (.bl false) S := by
  refine w_eq ?_
  unfold f_is_colour b_is_colour
  ((repeat (first | mem_news | with_reducible refine Z.stop_for ?_)); try with_reducible refine Z.Stop.mk ?_)
  exact ⟨rfl, rfl⟩
theorem f_is_look_n {p t : Nat} (ht : t < 8) : f_is_look [.tup [.int p, .int t]] S = .val (.bl true) S := by
  refine w_eq ?_
  unfold f_is_look b_is_look
  ((repeat (first | mem_news | with_reducible refine Z.stop_for ?_)); try with_reducible refine Z.Stop.mk ?_)
  refine cnd_t (by simp) ?_
  ((repeat (first | mem_news | with_reducible refine Z.stop_for ?_)); try with_reducible refine Z.Stop.mk ?_)
  refine w_of f_is_number_i ?_
  ((repeat (first | mem_news | with_reducible refine Z.stop_for ?_)); try with_reducible refine Z.Stop.mk ?_)
  refine cnd_t (by omega) ?_
  ((repeat (first | mem_news | with_reducible refine Z.stop_for ?_)); try with_reducible refine Z.Stop.mk ?_)
  refine w_of f_is_turn_n ⟨?_, rfl⟩
  rw [decide_eq_true (by omega)]
theorem f_is_sight_of_n {n : Nat} {s : Sg} (ho : s.ok n) (hc : s.cl) : f_is_sight_of [.int (n : Nat), sgD s] S = .val (.bl true) S := by
  refine w_eq ?_
  unfold f_is_sight_of b_is_sight_of
  cases s with
  | col c =>
    rw [sgD_col]
    ((repeat (first | mem_news | with_reducible refine Z.stop_for ?_)); try with_reducible refine Z.Stop.mk ?_)
    refine w_of (f_is_colour_n hc) ?_
    ((repeat (first | mem_news | with_reducible refine Z.stop_for ?_)); try with_reducible refine Z.Stop.mk ?_)
    exact ⟨rfl, rfl⟩
  | pan p t =>
    rw [sgD_pan]
    ((repeat (first | mem_news | with_reducible refine Z.stop_for ?_)); try with_reducible refine Z.Stop.mk ?_)
    refine w_of f_is_colour_t ?_
    ((repeat (first | mem_news | with_reducible refine Z.stop_for ?_)); try with_reducible refine Z.Stop.mk ?_)
    refine w_of (f_is_look_n ho.2) ?_
    ((repeat (first | mem_news | with_reducible refine Z.stop_for ?_)); try with_reducible refine Z.Stop.mk ?_)
    have := ho.1
    refine ⟨?_, rfl⟩
    rw [decide_eq_true (by omega)]
theorem f_is_sight_n {s : Sg} (ho : s.ok h.length) (hc : s.cl) : f_is_sight [hsD h, sgD s] S = .val (.bl true) S := by
  refine w_eq ?_
  unfold f_is_sight b_is_sight
  ((repeat (first | mem_news | with_reducible refine Z.stop_for ?_)); try with_reducible refine Z.Stop.mk ?_)
  unfold hsD
  ((repeat (first | mem_news | with_reducible refine Z.stop_for ?_)); try with_reducible refine Z.Stop.mk ?_)
  exact w_of (f_is_sight_of_n ho hc) ⟨rfl, rfl⟩
theorem f_is_triple_n {p : Pr} {num : Pr → Nat} (ho : okPr h p) (h1 : p.1.cl) (h2 : p.2.cl) : f_is_triple [hsD h, tripD num p] S = .val (.bl true) S := by
  refine w_eq ?_
  unfold f_is_triple b_is_triple tripD
  ((repeat (first | mem_news | with_reducible refine Z.stop_for ?_)); try with_reducible refine Z.Stop.mk ?_)
  refine cnd_t (by simp) ?_
  ((repeat (first | mem_news | with_reducible refine Z.stop_for ?_)); try with_reducible refine Z.Stop.mk ?_)
  refine w_of f_is_number_i ?_
  ((repeat (first | mem_news | with_reducible refine Z.stop_for ?_)); try with_reducible refine Z.Stop.mk ?_)
  refine cnd_f (by omega) ?_
  ((repeat (first | mem_news | with_reducible refine Z.stop_for ?_)); try with_reducible refine Z.Stop.mk ?_)
  refine w_of (f_is_sight_n ho.1 h1) ?_
  ((repeat (first | mem_news | with_reducible refine Z.stop_for ?_)); try with_reducible refine Z.Stop.mk ?_)
  exact w_of (f_is_sight_n ho.2 h2) ⟨rfl, rfl⟩
theorem opIn_two (a b : Option Nat) : opIn .non (.lst [numV a, numV b]) S = .val (.bl (!(a.isSome && b.isSome))) S := by
  cases a <;> cases b <;> rfl
theorem f_is_kept_n {p0 p : Pr} {L : List Pr} {num : Pr → Nat} (wf : WF h) (P : Ppr h p0 L num) (hp0 : p ∈ L) : f_is_kept [hsD h, prD p, .dic (L.map prD) (L.map fun p => D.int (num p : Nat))] S = .val (.bl true) S := by
  refine w_eq ?_
  unfold f_is_kept b_is_kept
  ((repeat (first | mem_news | with_reducible refine Z.stop_for ?_)); try with_reducible refine Z.Stop.mk ?_)
  refine w_of f_is_ended_n ?_
  ((repeat (first | mem_news | with_reducible refine Z.stop_for ?_)); try with_reducible refine Z.Stop.mk ?_)
  have ok := P.ok p hp0
  refine ⟨fun e => ?_, fun e => ?_⟩
  · have es := P.same p hp0 e
    obtain ⟨a, b⟩ := p
    cases es
    cases a with
    | pan _ _ => cases e
    | col c =>
      unfold prD
      ((repeat (first | mem_news | with_reducible refine Z.stop_for ?_)); try with_reducible refine Z.Stop.mk ?_)
      exact ⟨by rw [decide_eq_true rfl], rfl⟩
  · ((repeat (first | mem_news | with_reducible refine Z.stop_for ?_)); try with_reducible refine Z.Stop.mk ?_)
    refine w_of (f_halves_of_n wf ok.1) ?_
    ((repeat (first | mem_news | with_reducible refine Z.stop_for ?_)); try with_reducible refine Z.Stop.mk ?_)
    refine w_compA (l := [hp h p 0, hp h p 1]) (f := prD) (F := fun x => numV (some (num x))) True.intro (fun x hx => ?_) ?_
    · ((repeat (first | mem_news | with_reducible refine Z.stop_for ?_)); try with_reducible refine Z.Stop.mk ?_)
      refine w_get1 (m := .dic _ _) rfl (key_pr.key _) ⟨?_, rfl⟩
      rw [NC.get, if_pos]
      simp at hx
      rcases hx with rfl | rfl
      · exact P.half p hp0 0 (by omega)
      · exact P.half p hp0 1 (by omega)
    ((repeat (first | mem_news | with_reducible refine Z.stop_for ?_)); try with_reducible refine Z.Stop.mk ?_)
    refine w_of (opIn_two _ _) ?_
    rw [Option.isSome_some, Option.isSome_some, Bool.true_and]
    ((repeat (first | mem_news | with_reducible refine Z.stop_for ?_)); try with_reducible refine Z.Stop.mk ?_)
    refine w_of f_is_lone_n ?_
    ((repeat (first | mem_news | with_reducible refine Z.stop_for ?_)); try with_reducible refine Z.Stop.mk ?_)
    refine ⟨fun e => ?_, fun e => ?_⟩
    · ((repeat (first | mem_news | with_reducible refine Z.stop_for ?_)); try with_reducible refine Z.Stop.mk ?_)
      refine w_allT (fun S' => S' = S) (fun _ _ => True.intro) rfl (fun d hd S' e => ?_) fun S' e => ?_
      · subst e
        have hlt : ∃ i, i < 2 ∧ d = .int (num (hp h p i) : Nat) := by
          simp [numV] at hd
          rcases hd with rfl | rfl
          · exact ⟨0, by omega, rfl⟩
          · exact ⟨1, by omega, rfl⟩
        obtain ⟨i, hi, rfl⟩ := hlt
        ((repeat (first | mem_news | with_reducible refine Z.stop_for ?_)); try with_reducible refine Z.Stop.mk ?_)
        refine w_ix_d (m := .dic _ _) rfl (key_pr.key p) (dGet_mem key_pr (fun p => D.int (num p : Nat)) hp0) ?_
        ((repeat (first | mem_news | with_reducible refine Z.stop_for ?_)); try with_reducible refine Z.Stop.mk ?_)
        have := P.less p hp0 e i hi
        refine ⟨rfl, ?_⟩
        rw [decide_eq_true (by omega)]
      · subst e
        ((repeat (first | mem_news | with_reducible refine Z.stop_for ?_)); try with_reducible refine Z.Stop.mk ?_)
        exact w_allR ⟨rfl, rfl⟩
    · ((repeat (first | mem_news | with_reducible refine Z.stop_for ?_)); try with_reducible refine Z.Stop.mk ?_)
      exact ⟨rfl, rfl⟩
theorem f_shows_fit_n {p0 : Pr} {L : List Pr} {num : Pr → Nat} (wf : WF h) (P : Ppr h p0 L num) : f_shows_fit [hsD h, sgD p0.1, sgD p0.2, .lst (L.map (tripD num))] S = .val (.bl true) S := by
  have hlen := P.len
  refine w_eq ?_
  unfold f_shows_fit b_shows_fit
  ((repeat (first | mem_news | with_reducible refine Z.stop_for ?_)); try with_reducible refine Z.Stop.mk ?_)
  refine w_allT (fun S' => S' = S) (fun _ _ => True.intro) rfl (fun d hd S' e => ?_) fun S' e => ?_
  · subst e
    obtain ⟨p, hp, rfl⟩ := List.mem_map.mp hd
    ((repeat (first | mem_news | with_reducible refine Z.stop_for ?_)); try with_reducible refine Z.Stop.mk ?_)
    have := P.ok p hp
    exact w_of (f_is_triple_n this.1 this.2.1 this.2.2) ⟨rfl, rfl⟩
  subst e
  ((repeat (first | mem_news | with_reducible refine Z.stop_for ?_)); try with_reducible refine Z.Stop.mk ?_)
  refine w_allR ?_
  ((repeat (first | mem_news | with_reducible refine Z.stop_for ?_)); try with_reducible refine Z.Stop.mk ?_)
  refine w_gathM (f := tripD num) (p := fun _ => true) (g := prD) (v := fun p => .int (num p : Nat)) key_pr P.nodup (by omega) True.intro (fun p hp => ?_) ?_
  · unfold tripD
    ((repeat (first | mem_news | with_reducible refine Z.stop_for ?_)); try with_reducible refine Z.Stop.mk ?_)
    refine ⟨rfl, cnd_true ?_⟩
    ((repeat (first | mem_news | with_reducible refine Z.stop_for ?_)); try with_reducible refine Z.Stop.mk ?_)
    refine ⟨rfl, rfl, ?_⟩
    ((repeat (first | mem_news | with_reducible refine Z.stop_for ?_)); try with_reducible refine Z.Stop.mk ?_)
    exact ⟨rfl, rfl⟩
  rw [List.filter_eq_self.mpr fun _ _ => rfl]
  ((repeat (first | mem_news | with_reducible refine Z.stop_for ?_)); try with_reducible refine Z.Stop.mk ?_)
  dsimp only
  refine cnd_t (by simp) ?_
  ((repeat (first | mem_news | with_reducible refine Z.stop_for ?_)); try with_reducible refine Z.Stop.mk ?_)
  have hn : opNotIn (prD p0) (.dic (L.map prD) (L.map fun p => D.int (num p : Nat))) S' = .val (.bl false) S' := by
    rw [opNotIn_dict rfl (key_pr.key _), dGet_mem key_pr (fun p => D.int (num p : Nat)) P.head]
    rfl
  refine w_of hn ?_
  ((repeat (first | mem_news | with_reducible refine Z.stop_for ?_)); try with_reducible refine Z.Stop.mk ?_)
  refine w_allT (fun S2 => S2 = S') (fun _ _ => True.intro) rfl (fun d hd S2 e => ?_) fun S2 e => ?_
  · subst e
    obtain ⟨p, hp, rfl⟩ := List.mem_map.mp hd
    ((repeat (first | mem_news | with_reducible refine Z.stop_for ?_)); try with_reducible refine Z.Stop.mk ?_)
    exact w_of (f_is_kept_n wf P hp) ⟨rfl, rfl⟩
  · subst e
    ((repeat (first | mem_news | with_reducible refine Z.stop_for ?_)); try with_reducible refine Z.Stop.mk ?_)
    exact w_allR ⟨rfl, rfl⟩
end
end Pg
set_option Elab.async false
set_option linter.all false
set_option maxRecDepth 100000
set_option maxHeartbeats 1000000

/-! ED8: shows_misfit. -/
namespace Pg
open Z
open PySem (Str sizeLine)
section
variable {h : House} {S : Sto} {Q : D → Sto → Prop}
theorem f_is_halves_n {r : List Nat} (hr : ∀ q ∈ r, q < 2) (hl : r.length ≤ 900000) {n : Nat} (hn : n ≤ r.length) : f_is_halves [rowD r, .int (n : Nat)] S = .val (.bl true) S := by
  refine w_eq ?_
  unfold f_is_halves b_is_halves rowD
  ((repeat (first | mem_news | with_reducible refine Z.stop_for ?_)); try with_reducible refine Z.Stop.mk ?_)
  refine cnd_t (by omega) ?_
  ((repeat (first | mem_news | with_reducible refine Z.stop_for ?_)); try with_reducible refine Z.Stop.mk ?_)
  refine w_allT (fun S' => S' = S) (fun _ _ => True.intro) rfl (fun d hd S' e => ?_) fun S' e => ?_
  · subst e
    obtain ⟨k, hk, rfl⟩ := List.mem_map.mp hd
    ((repeat (first | mem_news | with_reducible refine Z.stop_for ?_)); try with_reducible refine Z.Stop.mk ?_)
    have := hr k hk
    refine w_of f_is_below_n ⟨rfl, ?_⟩
    rw [decide_eq_true (by omega)]
  · subst e
    ((repeat (first | mem_news | with_reducible refine Z.stop_for ?_)); try with_reducible refine Z.Stop.mk ?_)
    exact w_allR ⟨rfl, rfl⟩
theorem fold_sight (r : List Nat) : ∀ p : Pr, r.foldl (hp h) p = (sightAt h p.1 (r.map fun q => 1 + 2 * q), sightAt h p.2 (r.map fun q => 2 * q)) := by
  induction r with
  | nil => intro p; rfl
  | cons q r ih => intro p; rw [List.foldl_cons, ih]; rfl
theorem opNe_opt {x y : Option Str} (hne : x ≠ y) : opNe (optD x) (optD y) S = .val (.bl true) S := by
  cases x with
  | none =>
    cases y with
    | none => exact absurd rfl hne
    | some d => rfl
  | some c =>
    cases y with
    | none => rfl
    | some d =>
      have : c ≠ d := fun e => hne (by rw [e])
      simp only [optD, opNe, opEqB, eqF, decide_eq_false this]
      rfl
theorem Mis.ne {a b : Sg} {r ag : List Nat} (M : Mis h (a, b) r ag) {x y : Option Str} (hx : ∀ c, x = some c ↔ Reach h (ag.map fun q => 1 + 2 * q) (sightAt h a (r.map fun q => 1 + 2 * q)) c) (hy : ∀ c, y = some c ↔ Reach h (ag.map fun q => 2 * q) (sightAt h b (r.map fun q => 2 * q)) c) : x ≠ y := by
  intro e
  subst e
  have e1 := fold_sight (h := h) r (a, b)
  rcases M.mis with u | A
  · obtain ⟨u1, u2⟩ := unl_iff.mp u
    rw [e1] at u1 u2
    simp only at u1 u2
    generalize sightAt h a (r.map fun q => 1 + 2 * q) = s at *
    generalize sightAt h b (r.map fun q => 2 * q) = t at *
    cases s with
    | pan _ _ => cases u1
    | col c =>
      cases t with
      | pan _ _ => cases u1
      | col d =>
        have h1 := (hx c).mpr ⟨0, rfl⟩
        have h2 := (hy d).mpr ⟨0, rfl⟩
        rw [h1] at h2
        cases h2
        exact u2 rfl
  · have lo := A.lone 0 (Nat.zero_le _)
    have lp := A.loop
    rw [List.take_zero, List.foldl_nil, e1] at lo
    rw [e1, fold_sight] at lp
    simp only at lo lp
    obtain ⟨l1, l2⟩ := Prod.mk.inj lp
    generalize sightAt h a (r.map fun q => 1 + 2 * q) = s at *
    generalize sightAt h b (r.map fun q => 2 * q) = t at *
    have ag1 : ∀ m, again h (ag.map fun q => 1 + 2 * q) m s = s := fun m => by
      induction m with
      | zero => rfl
      | succ m ih =>
        show again h _ m (sightAt h s _) = s
        rw [l1]
        exact ih
    have ag2 : ∀ m, again h (ag.map fun q => 2 * q) m t = t := fun m => by
      induction m with
      | zero => rfl
      | succ m ih =>
        show again h _ m (sightAt h t _) = t
        rw [l2]
        exact ih
    cases s with
    | col c =>
      cases t with
      | col d => cases lo
      | pan p t =>
        have h1 := (hx c).mpr ⟨0, rfl⟩
        obtain ⟨m, hm⟩ := (hy c).mp h1
        rw [ag2] at hm
        cases hm
    | pan p u =>
      cases t with
      | pan _ _ => cases lo
      | col c =>
        have h1 := (hy c).mpr ⟨0, rfl⟩
        obtain ⟨m, hm⟩ := (hx c).mp h1
        rw [ag1] at hm
        cases hm
theorem f_shows_misfit_n {a b : Sg} {r ag : List Nat} (wf : WF h) (hl : h.length ≤ 50) (ho1 : a.ok h.length) (ho2 : b.ok h.length) (M : Mis h (a, b) r ag) :
    W (f_shows_misfit [hsD h, sgD a, sgD b, .tup [rowD r, rowD ag]] S) fun d S' => Fr [] S S' ∧ d = .bl true := by
  have la : 1 ≤ ag.length := List.length_pos_iff.mpr M.an
  have ln := M.len
  unfold f_shows_misfit b_shows_misfit
  ((repeat (first | mem_news | with_reducible refine Z.stop_for ?_)); try with_reducible refine Z.Stop.mk ?_)
  refine cnd_t (by simp) ?_
  ((repeat (first | mem_news | with_reducible refine Z.stop_for ?_)); try with_reducible refine Z.Stop.mk ?_)
  refine w_of (f_is_halves_n (n := 0) M.r2 (by omega) (by omega)) ?_
  ((repeat (first | mem_news | with_reducible refine Z.stop_for ?_)); try with_reducible refine Z.Stop.mk ?_)
  refine w_of (f_is_halves_n (n := 1) M.a2 (by omega) la) ?_
  ((repeat (first | mem_news | with_reducible refine Z.stop_for ?_)); try with_reducible refine Z.Stop.mk ?_)
  have inner : ∀ x ∈ [r, ag], x.length ≤ 800000 := fun x hx => by
    simp at hx
    rcases hx with rfl | rfl
    · exact ln.1
    · exact ln.2
  refine w_compA (l := [r, ag]) (f := rowD) (F := fun x => rowD (x.map fun q => 1 + 2 * q)) True.intro (fun x hx => ?_) ?_
  · have := inner x hx
    unfold rowD
    ((repeat (first | mem_news | with_reducible refine Z.stop_for ?_)); try with_reducible refine Z.Stop.mk ?_)
    refine w_compA (l := x) (f := fun (q : Nat) => .int (q : Int)) (F := fun q => .int ((1 + 2 * q : Nat) : Int)) True.intro (fun q hq => ?_) ?_
    · ((repeat (first | mem_news | with_reducible refine Z.stop_for ?_)); try with_reducible refine Z.Stop.mk ?_)
      exact ⟨by congr 1, rfl⟩
    · ((repeat (first | mem_news | with_reducible refine Z.stop_for ?_)); try with_reducible refine Z.Stop.mk ?_)
      exact ⟨by rw [List.map_map]; rfl, rfl⟩
  ((repeat (first | mem_news | with_reducible refine Z.stop_for ?_)); try with_reducible refine Z.Stop.mk ?_)
  refine w_compA (l := [r, ag]) (f := rowD) (F := fun x => rowD (x.map fun q => 2 * q)) True.intro (fun x hx => ?_) ?_
  · have := inner x hx
    unfold rowD
    ((repeat (first | mem_news | with_reducible refine Z.stop_for ?_)); try with_reducible refine Z.Stop.mk ?_)
    refine w_compA (l := x) (f := fun (q : Nat) => .int (q : Int)) (F := fun q => .int ((2 * q : Nat) : Int)) True.intro (fun q hq => ?_) ?_
    · ((repeat (first | mem_news | with_reducible refine Z.stop_for ?_)); try with_reducible refine Z.Stop.mk ?_)
      exact ⟨by congr 1, rfl⟩
    · ((repeat (first | mem_news | with_reducible refine Z.stop_for ?_)); try with_reducible refine Z.Stop.mk ?_)
      exact ⟨by rw [List.map_map]; rfl, rfl⟩
  ((repeat (first | mem_news | with_reducible refine Z.stop_for ?_)); try with_reducible refine Z.Stop.mk ?_)
  have r4 : ∀ {x : List Nat}, (∀ q ∈ x, q < 2) → ∀ q ∈ x.map (fun q => 1 + 2 * q), q < 4 := fun hx q hq => by
    obtain ⟨y, hy, rfl⟩ := List.mem_map.mp hq
    have := hx y hy
    omega
  have l4 : ∀ {x : List Nat}, (∀ q ∈ x, q < 2) → ∀ q ∈ x.map (fun q => 2 * q), q < 4 := fun hx q hq => by
    obtain ⟨y, hy, rfl⟩ := List.mem_map.mp hq
    have := hx y hy
    omega
  obtain ⟨S1, x, e1, x1, h1⟩ := f_colour_at_n (S := S) wf (by omega) (r4 M.r2) (r4 M.a2) ho1
  refine w_of e1 ?_
  ((repeat (first | mem_news | with_reducible refine Z.stop_for ?_)); try with_reducible refine Z.Stop.mk ?_)
  obtain ⟨S2, y, e2, x2, h2⟩ := f_colour_at_n (S := S1) wf (by omega) (l4 M.r2) (l4 M.a2) ho2
  refine w_of e2 ?_
  ((repeat (first | mem_news | with_reducible refine Z.stop_for ?_)); try with_reducible refine Z.Stop.mk ?_)
  exact w_of (opNe_opt (M.ne h1 h2)) ⟨(frE x1).trans (frE x2), rfl⟩
end
end Pg
set_option Elab.async false
set_option linter.all false
set_option maxRecDepth 100000
set_option maxHeartbeats 1000000

/-! LB0: a law's box: draws, cells. -/
namespace LB
open Z Pg
open PySem (Str sizeLine reprText Txt.join PyData)
open L2 (atI ixN)
def Bx (b : Nat) (S : Sto) : Prop := ∃ a c e : Int, 0 ≤ a ∧ S[b]? = some (.lst [.int a, .int c, .int e])
def Bk (b : Nat) (S S' : Sto) : Prop := Bx b S' ∧ S.length ≤ S'.length ∧ ∀ i < S.length, i ≠ b → S'[i]? = S[i]?
section
variable {b : Nat} {S S' S'' : Sto}
theorem Bx.lt (h : Bx b S) : b < S.length := by
  obtain ⟨a, c, e, _, h⟩ := h
  exact (List.getElem?_eq_some_iff.mp h).1
theorem Bk.refl (h : Bx b S) : Bk b S S := ⟨h, Nat.le_refl _, fun _ _ _ => rfl⟩
theorem Bk.trans (h : Bk b S S') (g : Bk b S' S'') : Bk b S S'' := ⟨g.1, Nat.le_trans h.2.1 g.2.1, fun i hi hb => (g.2.2 i (Nat.lt_of_lt_of_le hi h.2.1) hb).trans (h.2.2 i hi hb)⟩
theorem Bk.ext (h : Bx b S) (x : Ext S.length S S') : Bk b S S' := by
  have hl := h.lt
  obtain ⟨a, c, e, h0, h1⟩ := h
  exact ⟨⟨a, c, e, h0, by rw [x.2 b hl]; exact h1⟩, x.1, fun i hi _ => x.2 i hi⟩
theorem Bk.set {a c e : Int} (h : Bx b S) (h0 : 0 ≤ a) : Bk b S (S.set b (.lst [.int a, .int c, .int e])) := by
  have hl := h.lt
  refine ⟨⟨a, c, e, h0, ?_⟩, by simp, fun i hi hb => ?_⟩
  · rw [List.getElem?_set_self hl]
  · rw [List.getElem?_set_ne (Ne.symm hb)]
theorem ix_ref {ds : List D} {i : Int} {d : D} (h : S[b]? = some (.lst ds)) (hd : atI ds i = some d) : opIx (.ref b) (.int i) S = .val d S := by
  simp only [opIx, seqL, h, hd]
theorem set_ref {ds : List D} {n : Nat} {v : D} (h : S[b]? = some (.lst ds)) (hn : n < ds.length) : opSet (.ref b) (.int (n : Nat)) v S = .val () (S.set b (.lst (ds.set n v))) := by
  have : ixN ds.length (n : Int) = some n := by
    unfold ixN
    rw [if_pos (by omega), if_pos (by omega)]
    simp
  simp only [opSet, h, this]
theorem take_n (h : Bx b S) {n : Nat} (hn : 0 < n) (hz : n < 1000) : ∃ (r : Nat) (S' : Sto), f__law_take [.ref b, .int n] S = .val (.int (r : Nat)) S' ∧ r < n ∧ Bk b S S' := by
  have hl := h.lt
  have hb := h
  obtain ⟨a, c, e, h0, h1⟩ := h
  have i0 : opIx (.ref b) (.int 0) S = .val (.int a) S := ix_ref h1 (by simp)
  have hnz : (0 : Int) < n := by omega
  have lg : ((n : Int)).natAbs.log2 < 9000 := log2_lit (by simp; omega)
  have fin : ∀ x : Int, ∃ r : Nat, x % (n : Int) = (r : Int) ∧ r < n := fun x => ⟨(x % (n : Int)).toNat, by
    have := Int.emod_nonneg x (show (n : Int) ≠ 0 by omega)
    omega, by
    have := Int.emod_lt_of_pos x hnz
    have := Int.emod_nonneg x (show (n : Int) ≠ 0 by omega)
    omega⟩
  by_cases ha : 0 < a
  · obtain ⟨r, hr, hr2⟩ := fin a
    refine ⟨r, S.set b (.lst [.int (a / n), .int c, .int e]), ?_, hr2, Bk.set hb (Int.ediv_nonneg h0 (by omega))⟩
    have st : opSet (.ref b) (.int 0) (.int (a / n)) S = .val () (S.set b (.lst [.int (a / n), .int c, .int e])) := set_ref (n := 0) h1 (by simp)
    have dv : opDiv (.int a) (.int n) S = .val (.int (a / n)) S := by simp only [opDiv]; rw [if_pos ⟨hnz, lg⟩]
    have md : opMod (.int a) (.int n) S = .val (.int (a % n)) S := by simp only [opMod]; rw [if_pos hnz]
    simp [f__law_take, b__law_take, i0, ha, md, dv, st, hr]
  · have ha' : ¬ (0 : Int) < a := ha
    have st : opSet (.ref b) (.int 2) (.int (e + 1)) S = .val () (S.set b (.lst [.int a, .int c, .int (e + 1)])) := set_ref (n := 2) h1 (by simp)
    have i2 : opIx (.ref b) (.int 2) S = .val (.int e) S := ix_ref h1 (by simp)
    have bk : Bk b S (S.set b (.lst [.int a, .int c, .int (e + 1)])) := Bk.set hb h0
    have h2 : (S.set b (.lst [.int a, .int c, .int (e + 1)]))[b]? = some (.lst [.int a, .int c, .int (e + 1)]) := List.getElem?_set_self hl
    generalize S.set b (.lst [.int a, .int c, .int (e + 1)]) = S1 at st bk h2
    have j1 : opIx (.ref b) (.int 1) S1 = .val (.int c) S1 := ix_ref h2 (by simp)
    have j2 : opIx (.ref b) (.int 2) S1 = .val (.int (e + 1)) S1 := ix_ref h2 (by simp)
    have md : ∀ x y : Int, 0 < y → opMod (.int x) (.int y) S1 = .val (.int (x % y)) S1 := fun x y hy => by simp only [opMod]; rw [if_pos hy]
    have dv : ∀ x y : Int, 0 < y → y < 2 ^ 64 → opDiv (.int x) (.int y) S1 = .val (.int (x / y)) S1 := fun x y hy h64 => by simp only [opDiv]; rw [if_pos ⟨hy, log2_lit (by omega)⟩]
    have ml : ∀ x y : Int, (0 ≤ x ∧ x < 2 ^ 62 ∨ 0 ≤ y ∧ y < 2 ^ 62) → opMul (.int x) (.int y) S1 = .val (.int (x * y)) S1 := fun x y hy => by
      rw [opMul_int]
      rcases hy with ⟨q1, q2⟩ | ⟨q1, q2⟩
      · rw [if_pos (mulOk_l (by omega) (by omega))]
      · rw [if_pos (mulOk_r (by omega) (by omega))]
    have key : ∃ x : Int, f__law_take [.ref b, .int n] S = .val (.int (x % n)) S1 := by
      have m1 := ml 1442695040888963407 (e + 1) (by omega)
      have d1 := md (c + 1442695040888963407 * (e + 1)) 2305843009213693951 (by omega)
      have b1 : 0 ≤ (c + 1442695040888963407 * (e + 1)) % 2305843009213693951 ∧ (c + 1442695040888963407 * (e + 1)) % 2305843009213693951 < 2305843009213693951 := ⟨Int.emod_nonneg _ (by omega), Int.emod_lt_of_pos _ (by omega)⟩
      generalize (c + 1442695040888963407 * (e + 1)) % 2305843009213693951 = x1 at d1 b1
      have m2 := ml x1 x1 (by omega)
      have m3 := ml 39373 (e + 1) (by omega)
      have d2 := md (x1 * x1 + 39373 * (e + 1) + 7) 2305843009213693921 (by omega)
      have b2 : 0 ≤ (x1 * x1 + 39373 * (e + 1) + 7) % 2305843009213693921 ∧ (x1 * x1 + 39373 * (e + 1) + 7) % 2305843009213693921 < 2305843009213693921 := ⟨Int.emod_nonneg _ (by omega), Int.emod_lt_of_pos _ (by omega)⟩
      generalize (x1 * x1 + 39373 * (e + 1) + 7) % 2305843009213693921 = x2 at d2 b2
      have v1 := dv x2 65536 (by omega) (by omega)
      have m4 := ml x2 (x2 / 65536 + 3) (by omega)
      have d3 := md (x2 * (x2 / 65536 + 3) + (e + 1)) 2305843009213693907 (by omega)
      have v2 := dv ((x2 * (x2 / 65536 + 3) + (e + 1)) % 2305843009213693907) 1048576 (by omega) (by omega)
      have d4 := md (((x2 * (x2 / 65536 + 3) + (e + 1)) % 2305843009213693907) / 1048576) n hnz
      refine ⟨(x2 * (x2 / 65536 + 3) + (e + 1)) % 2305843009213693907 / 1048576, ?_⟩
      simp [f__law_take, b__law_take, i0, ha', st, i2, j1, j2, -opMul_int, m1, d1, m2, m3, d2, v1, m4, d3, v2, d4]
    obtain ⟨x, hx⟩ := key
    obtain ⟨r, hr, hr2⟩ := fin x
    exact ⟨r, S1, by rw [hx, hr], hr2, bk⟩
end
section
variable {b : Nat} {S S' S'' : Sto}
theorem w_take {Q : D → Sto → Prop} (h : Bx b S) {n : Nat} (hn : 0 < n) (hz : n < 1000) (q : ∀ (r : Nat) S', r < n → Bk b S S' → Q (.int (r : Nat)) S') : W (f__law_take [.ref b, .int (n : Nat)] S) Q := by
  obtain ⟨r, S', e, hr, bk⟩ := take_n h hn hz
  exact w_of e (q r S' hr bk)
/-- a row of draws -/
theorem w_takes {i : Nat} {ρ : Rho} {n m : Nat} {T : List D → Sto → Prop} (hb : Bx b S) (hm : 0 < m) (hz : m < 1000) (h0 : ∀ d : D, (ρ.set i (some d))[0]? = some (some (.ref b))) {e : Rho → M D} (he : e = eCall f__law_take (aCons (eVar 0) (aCons (eC (.int (m : Nat))) aNil)))
    (q : ∀ (r : List Nat) S', r.length = n → (∀ x ∈ r, x < m) → Bk b S S' → T (r.map fun (x : Nat) => D.int (x : Int)) S') : W (compL (fun _ => True) (tName i) bYes e ρ (rangeD n) S) T := by
  refine w_compL (fun k acc S' => Bk b S S' ∧ ∃ r : List Nat, acc = r.map (fun (x : Nat) => D.int (x : Int)) ∧ r.length = k ∧ ∀ x ∈ r, x < m) ⟨Bk.refl hb, [], rfl, rfl, fun x hx => nomatch hx⟩ (fun _ _ _ _ => True.intro) ?_ ?_
  · rintro k d acc S1 hk ⟨bk, r, rfl, hl, hr⟩
    subst he
    ((repeat (first | mem_news | with_reducible refine Z.stop_for ?_)); try with_reducible refine Z.Stop.mk ?_)
    refine w_tName ?_
    ((repeat (first | mem_news | with_reducible refine Z.stop_for ?_)); try with_reducible refine Z.Stop.mk ?_)
    refine w_eVar (h0 d) ?_
    ((repeat (first | mem_news | with_reducible refine Z.stop_for ?_)); try with_reducible refine Z.Stop.mk ?_)
    refine w_take bk.1 hm hz fun x S2 hx bk2 => ?_
    refine ⟨bk.trans bk2, r ++ [x], by simp, by simp [hl], fun y hy => ?_⟩
    rcases List.mem_append.mp hy with hy | hy
    · exact hr y hy
    · simp at hy; omega
  · rintro acc S1 ⟨bk, r, rfl, hl, hr⟩
    exact q r S1 (by rw [hl, rangeD_len]) hr bk
theorem f_box_n {k i : Nat} {ds : List Int} {x : Int} (hS : S[k]? = some (.lst (ds.map D.int))) (hi : ds[i]? = some x) (hi2 : i < 1000) : W (f__law_box [.ref k, .int (i : Nat)] S) fun d S' => ∃ e, d = .ref S.length ∧ S' = S ++ [e] ∧ Bx S.length S' := by
  unfold f__law_box b__law_box
  ((repeat (first | mem_news | with_reducible refine Z.stop_for ?_)); try with_reducible refine Z.Stop.mk ?_)
  refine w_ix_r (d := .int x) hS (by rw [atI_nat, List.getElem?_map, hi]; rfl) ?_
  ((repeat (first | mem_news | with_reducible refine Z.stop_for ?_)); try with_reducible refine Z.Stop.mk ?_)
  have e10 : opPow (.int 10) (.int 18) S = .val (.int 1000000000000000000) S := by
    simp only [opPow]
    rw [if_pos ⟨by decide, by decide, by decide⟩]
    rfl
  refine w_of e10 ?_
  ((repeat (first | mem_news | with_reducible refine Z.stop_for ?_)); try with_reducible refine Z.Stop.mk ?_)
  generalize hz : (if decide (1000000000000000000 ≤ if x < 0 then -x else x) = true then (1 : Int) else 0) = z
  have hz2 : z = 0 ∨ z = 1 := by
    subst hz
    by_cases c : decide (1000000000000000000 ≤ if x < 0 then -x else x) = true
    · rw [if_pos c]; exact .inr rfl
    · rw [if_neg c]; exact .inl rfl
  generalize hy : (if x < 0 then -x else x) = y
  have hy2 : 0 ≤ y := by subst hy; split <;> omega
  ((repeat (first | mem_news | with_reducible refine Z.stop_for ?_)); try with_reducible refine Z.Stop.mk ?_)
  refine ⟨_, rfl, rfl, y * z, x % 2305843009213693951 + 15485863 * (i : Int) + 11, 0, ?_, ?_⟩
  · rcases hz2 with rfl | rfl <;> simp [hy2]
  · simp
theorem tru_ref {n : Nat} {ds : List D} (h : S[n]? = some (.lst ds)) : opTru (.ref n) S = .val (!ds.isEmpty) S := by
  simp only [opTru, truD, seqA, seqL, h]
theorem enums_at {ds : List D} {k : Nat} {d : D} (h : (enums ds)[k]? = some d) : ∃ e, ds[k]? = some e ∧ d = .tup [.int (k : Nat), e] := by
  unfold enums at h
  rw [List.getElem?_map, List.getElem?_zipIdx] at h
  cases e : ds[k]? with
  | none => rw [e] at h; cases h
  | some x =>
    rw [e] at h
    simp at h
    exact ⟨x, rfl, h.symm⟩
theorem f_cells_n {ns : List Int} (hl : ns.length ≤ 63) {m : Nat} (hm : 0 < m) (hm2 : m ≤ 10) : W (f__law_cells [.wl (ns.map D.int), .int (m : Nat)] S) fun d S' => ∃ (k : Nat) (ds : List Int), d = .ref k ∧ S'[k]? = some (.lst (ds.map D.int)) ∧ 1 ≤ ds.length ∧ ds.length ≤ m := by
  unfold f__law_cells b__law_cells
  ((repeat (first | mem_news | with_reducible refine Z.stop_for ?_)); try with_reducible refine Z.Stop.mk ?_)
  rw [cutL_take, ← List.map_take]
  have e1 : bListC [.lst ((ns.take m).map D.int)] S = .val (.ref S.length) (S ++ [.lst ((ns.take m).map D.int)]) := rfl
  refine w_of e1 ?_
  have h1 : (S ++ [Cel.lst ((ns.take m).map D.int)])[S.length]? = some (.lst ((ns.take m).map D.int)) := by simp
  refine w_of (tru_ref h1) ?_
  have main : ∀ (S1 : Sto) (c : Nat) (ds : List Int), S1[c]? = some (.lst (ds.map D.int)) → 1 ≤ ds.length → ds.length ≤ m → (m < ns.length → ds.length = m) → ∀ U : Fl → Sto → Prop, (∀ (x3 x4 : Option D) (ds : List Int) (S' : Sto), S'[c]? = some (.lst (ds.map D.int)) → 1 ≤ ds.length → ds.length ≤ m → U (.nx [some (.wl (ns.map D.int)), some (.int (m : Nat)), some (.ref c), x3, x4]) S') → W (sFor (iEnum (aCons (eSl (eVar 0) (oSome (eVar 1)) (oSome (eC (.int 63)))) aNil)) (tTupZ 2 (tsCons (tName 3) (tsCons (tName 4) tsNil))) (sAsg (eOp opAdd (eOp opIx (eVar 2) (eOp opMod (eVar 3) (eVar 1))) (eOp opMul (eVar 4) (eOp opAdd (eVar 3) (eC (.int 2))))) (tSub (eVar 2) (eOp opMod (eVar 3) (eVar 1)))) [some (.wl (ns.map D.int)), some (.int (m : Nat)), some (.ref c), none, none] S1) U := by
    intro S1 c ds hc hd1 hd2 hdm U hU
    ((repeat (first | mem_news | with_reducible refine Z.stop_for ?_)); try with_reducible refine Z.Stop.mk ?_)
    have hx : ∀ x ∈ cutL (ns.map D.int) (some (m : Int)) (some 63), x ∈ ns.map D.int ∧ m < ns.length := fun x hx => by
      refine ⟨cutL_mem hx, ?_⟩
      refine Classical.byContradiction fun hn => ?_
      have : cutL (ns.map D.int) (some (m : Int)) (some 63) = [] := by
        unfold cutL HT.sIx
        simp only
        rw [if_neg (show ¬ ((m : Int) < 0) by omega), show min ((m : Int).toNat) (ns.map D.int).length = (ns.map D.int).length by rw [List.length_map]; omega, List.drop_of_length_le (Nat.le_refl _), List.take_nil]
      rw [this] at hx
      cases hx
    refine w_forL (fun k ρ S' => ∃ (x3 x4 : Option D) (ds : List Int), ρ = [some (.wl (ns.map D.int)), some (.int (m : Nat)), some (.ref c), x3, x4] ∧ S'[c]? = some (.lst (ds.map D.int)) ∧ 1 ≤ ds.length ∧ ds.length ≤ m ∧ (m < ns.length → ds.length = m)) ⟨none, none, ds, rfl, hc, hd1, hd2, hdm⟩ (fun _ _ _ _ => True.intro) ?_ ?_
    · rintro k d ρ S2 hk ⟨x3, x4, ds, rfl, hc, hd1, hd2, hdm⟩
      obtain ⟨e, he, rfl⟩ := enums_at hk
      obtain ⟨h1, h2⟩ := hx e (List.mem_of_getElem? he)
      obtain ⟨x, _, rfl⟩ := List.mem_map.mp h1
      have hkl := (List.getElem?_eq_some_iff.mp he).1
      have hk63 : k ≤ 63 := by
        have := cutL_len (xs := ns.map D.int) (lo := some (m : Int)) (hi := some 63)
        rw [List.length_map] at this
        omega
      ((repeat (first | mem_news | with_reducible refine Z.stop_for ?_)); try with_reducible refine Z.Stop.mk ?_)
      have hi : k % m < ds.length := by rw [hdm h2]; exact Nat.mod_lt _ hm
      have em : ((k : Int) % (m : Int)) = ((k % m : Nat) : Int) := by simp
      rw [em]
      refine w_ix_r (d := .int ds[k % m]) hc (by rw [atI_nat, List.getElem?_map, List.getElem?_eq_getElem hi]; rfl) ?_
      ((repeat (first | mem_news | with_reducible refine Z.stop_for ?_)); try with_reducible refine Z.Stop.mk ?_)
      rw [em]
      refine w_set_l hc (by rw [List.length_map]; exact hi) ?_
      ((repeat (first | mem_news | with_reducible refine Z.stop_for ?_)); try with_reducible refine Z.Stop.mk ?_)
      have hcl := (List.getElem?_eq_some_iff.mp hc).1
      refine ⟨_, _, ds.set (k % m) (ds[k % m] + x * ((k : Int) + 2)), rfl, ?_, by simpa using hd1, by simpa using hd2, by simpa using hdm⟩
      rw [List.getElem?_set_self hcl, List.map_set]
    · rintro ρ S2 ⟨x3, x4, ds, rfl, hc, hd1, hd2, hdm⟩
      exact hU x3 x4 ds S2 hc hd1 hd2
  have hne : ns = [] ∨ ns ≠ [] := Classical.em _
  rcases hne with rfl | hne
  · rw [show (!((([] : List Int).take m).map D.int).isEmpty) = false by simp]
    ((repeat mem_news); try with_reducible refine Z.Stop.mk ?_)
    refine main _ _ [0] ?_ (by simp) (by simp; omega) (by simp) _ ?_
    · simp
    · intro x3 x4 ds S' h1 h2 h3
      ((repeat (first | mem_news | with_reducible refine Z.stop_for ?_)); try with_reducible refine Z.Stop.mk ?_)
      exact ⟨_, ds, rfl, h1, h2, h3⟩
  · have : (!((ns.take m).map D.int).isEmpty) = true := by
      cases ns with
      | nil => exact absurd rfl hne
      | cons x r => cases m with
        | zero => omega
        | succ m => simp
    rw [this]
    ((repeat mem_news); try with_reducible refine Z.Stop.mk ?_)
    refine main _ _ _ h1 ?_ (by simp; omega) (by simp; omega) _ ?_
    · cases ns with
      | nil => exact absurd rfl hne
      | cons x r => cases m with
        | zero => omega
        | succ m => simp
    · intro x3 x4 ds S' h1 h2 h3
      ((repeat (first | mem_news | with_reducible refine Z.stop_for ?_)); try with_reducible refine Z.Stop.mk ?_)
      exact ⟨_, ds, rfl, h1, h2, h3⟩
end
end LB
set_option Elab.async false
set_option linter.all false
set_option maxRecDepth 100000
set_option maxHeartbeats 1000000

/-! LB1: a law's names and sights. -/
namespace LB
open Z Pg
open PySem (Str sizeLine Txt.join)
open L2 (atI ixN)
/-- letters alone, so many at most -/
def low (n : Nat) (x : Str) : Prop := x.length ≤ n ∧ ∀ c ∈ x.cps.toList, 97 ≤ c ∧ c ≤ 122
theorem low_app {m n : Nat} {x y : Str} (h : low m x) (g : low n y) : low (m + n) (x ++ y) := by
  have e : (x ++ y).cps = x.cps ++ y.cps := rfl
  refine ⟨?_, fun c hc => ?_⟩
  · show (x ++ y).cps.size ≤ _
    rw [e, Array.size_append]
    exact Nat.add_le_add h.1 g.1
  · rw [e, Array.toList_append] at hc
    rcases List.mem_append.mp hc with q | q
    · exact h.2 c q
    · exact g.2 c q
theorem low_join {n : Nat} {ys : List Str} (h : ∀ y ∈ ys, low 1 y) (hn : ys.length ≤ n) : low n (Txt.join (PySem.Str.ofString "") ys) := by
  rw [show Txt.join (PySem.Str.ofString "") ys = PySem.Str.join (PySem.Str.ofString "") ys from PySem.StrLaws.glued_eq_join _ ys]
  induction ys generalizing n with
  | nil => exact ⟨Nat.zero_le _, fun c hc => by simp [PySem.Str.join, PySem.Str.empty] at hc⟩
  | cons y r ih =>
    cases r with
    | nil => exact ⟨Nat.le_trans (h y List.mem_cons_self).1 (by simpa using hn), (h y List.mem_cons_self).2⟩
    | cons z r =>
      have e0 : low 0 (PySem.Str.ofString "") := ⟨by decide, fun c hc => by rw [show (PySem.Str.ofString "").cps.toList = [] by decide] at hc; exact absurd hc (by simp)⟩
      have a1 := low_app (low_app (h y List.mem_cons_self) e0) (ih (n := (z :: r).length) (fun y hy => h y (List.mem_cons_of_mem _ hy)) (Nat.le_refl _))
      simp only [PySem.Str.join]
      exact ⟨Nat.le_trans a1.1 (by simp only [List.length_cons] at hn ⊢; omega), a1.2⟩
def abc : Str := "abcdefghijklmnopqrstuvwxyz"
def letter (k : Nat) : Str := ⟨#[97 + k]⟩
theorem letter_low {k : Nat} (hk : k < 26) : low 1 (letter k) := ⟨Nat.le_refl 1, fun c hc => by simp [letter] at hc; omega⟩
theorem abc_at {k : Nat} (hk : k < 26) (S : Sto) : opIx (.str abc) (.int (k : Nat)) S = .val (.str (letter k)) S := by
  have hl : abc.length = 26 := by decide
  have e : abc.cps.toList = (List.range 26).map (97 + ·) := by decide
  simp only [opIx]
  rw [if_pos (by rw [hl]; exact szL (by omega)), atI_nat, e, List.getElem?_map, List.getElem?_range hk]
  rfl
theorem abc_eq : (PySem.Str.ofString "abcdefghijklmnopqrstuvwxyz") = abc := rfl
def nmD (ns : List Str) : D := .lst (ns.map D.str)
structure NM (n : Nat) (ns : List Str) : Prop where
  len : ns.length = n
  clr : ∀ x ∈ ns, Clr x
  nodup : ns.Nodup
theorem join_n {S : Sto} {ys : List Str} (h : ∀ y ∈ ys, low 1 y) (hn : ys.length ≤ 8) : mJoin (.str (PySem.Str.ofString "")) [.lst (ys.map D.str)] S = .val (.str (Txt.join (PySem.Str.ofString "") ys)) S := by
  have e0 : (PySem.Str.ofString "").length = 0 := by decide
  have hs : ∀ l : List Str, (∀ y ∈ l, low 1 y) → (l.map (·.length)).sum ≤ l.length := by
    intro l
    induction l with
    | nil => intro _; exact Nat.le_refl _
    | cons y r ih =>
      intro h
      have h1 := (h y List.mem_cons_self).1
      have h2 := ih fun z hz => h z (List.mem_cons_of_mem _ hz)
      simp only [List.map_cons, List.sum_cons, List.length_cons]
      omega
  have := hs ys h
  have e1 : seqL S (.lst (ys.map D.str)) = some (ys.map D.str) := rfl
  simp only [mJoin, seqA, e1, strsD_of]
  rw [if_pos (by rw [e0]; omega)]
section
variable {b : Nat} {S : Sto} {ns : List Str}
theorem f_names_n (bx : Bx b S) {many : Nat} (hm : many ≤ 26) : W (f__law_names [.ref b, .int (many : Nat)] S) fun d S' => Bk b S S' ∧ ∃ ns, d = nmD ns ∧ NM many ns := by
  unfold f__law_names b__law_names
  ((repeat (first | mem_news | with_reducible refine Z.stop_for ?_)); try with_reducible refine Z.Stop.mk ?_)
  rw [abc_eq]
  refine w_take (n := 26) bx (by omega) (by omega) fun st S1 hst bk1 => ?_
  ((repeat (first | mem_news | with_reducible refine Z.stop_for ?_)); try with_reducible refine Z.Stop.mk ?_)
  refine w_take (n := 8) bk1.1 (by omega) (by omega) fun m S2 hm bk2 => ?_
  ((repeat (first | mem_news | with_reducible refine Z.stop_for ?_)); try with_reducible refine Z.Stop.mk ?_)
  refine w_compP D.str (fun _ x => low 1 x) (fun S' => Bk b S S') (fun _ _ => True.intro) (bk1.trans bk2) (fun d hd S3 hS => ?_) fun ys S3 bk3 hyl hy => ?_
  · ((repeat (first | mem_news | with_reducible refine Z.stop_for ?_)); try with_reducible refine Z.Stop.mk ?_)
    refine w_take (n := 26) hS.1 (by omega) (by omega) fun k S4 hk bk4 => ?_
    ((repeat (first | mem_news | with_reducible refine Z.stop_for ?_)); try with_reducible refine Z.Stop.mk ?_)
    exact w_of (abc_at hk S4) ⟨hS.trans bk4, _, rfl, letter_low hk⟩
  have hy : ∀ y ∈ ys, low 1 y := fun y q => (hy y q).elim fun _ q => q.2
  simp only [rangeD_len] at hyl
  ((repeat (first | mem_news | with_reducible refine Z.stop_for ?_)); try with_reducible refine Z.Stop.mk ?_)
  refine w_of (join_n hy (by omega)) ?_
  have sj := low_join hy (n := 7) (by omega)
  generalize Txt.join (PySem.Str.ofString "") ys = stem at sj
  ((repeat (first | mem_news | with_reducible refine Z.stop_for ?_)); try with_reducible refine Z.Stop.mk ?_)
  rw [Int.toNat_natCast]
  refine w_compA (l := List.range many) (f := fun (i : Nat) => .int (i : Int)) (F := fun i => .str (stem ++ letter ((st + 7 * i) % 26))) True.intro (fun i hi => ?_) ?_
  · have hi := List.mem_range.mp hi
    ((repeat (first | mem_news | with_reducible refine Z.stop_for ?_)); try with_reducible refine Z.Stop.mk ?_)
    have em : ((st : Int) + 7 * (i : Int)) % 26 = (((st + 7 * i) % 26 : Nat) : Int) := by omega
    rw [em]
    refine w_of (abc_at (Nat.mod_lt _ (by omega)) S3) ?_
    have := sj.1
    have hlt : (letter ((st + 7 * i) % 26)).length = 1 := rfl
    refine w_of (b := .str (stem ++ letter ((st + 7 * i) % 26))) (S := S3) ?_ ⟨rfl, rfl⟩
    simp only [opAdd]
    rw [if_pos (szL (by omega))]
  ((repeat (first | mem_news | with_reducible refine Z.stop_for ?_)); try with_reducible refine Z.Stop.mk ?_)
  refine ⟨bk3, (List.range many).map fun i => stem ++ letter ((st + 7 * i) % 26), ?_, ?_, fun x hx => ?_, ?_⟩
  · unfold nmD
    rw [List.map_map]
    rfl
  · simp
  · obtain ⟨i, hi, rfl⟩ := List.mem_map.mp hx
    have h1 := low_app sj (letter_low (k := (st + 7 * i) % 26) (Nat.mod_lt _ (by omega)))
    refine ⟨?_, h1.1, h1.2⟩
    show 0 < (stem.cps ++ #[97 + (st + 7 * i) % 26]).size
    rw [Array.size_append]
    simp
  · rw [List.nodup_iff_pairwise_ne, List.pairwise_map]
    refine List.Pairwise.imp_of_mem (R := fun a b => a < b) (fun {a b} ha hb hab e => ?_) List.pairwise_lt_range
    have ha := List.mem_range.mp ha
    have hb := List.mem_range.mp hb
    have e1 : stem.cps ++ #[97 + (st + 7 * a) % 26] = stem.cps ++ #[97 + (st + 7 * b) % 26] := congrArg PySem.Str.cps e
    have e2 := congrArg Array.toList e1
    rw [Array.toList_append, Array.toList_append] at e2
    have e3 := List.append_cancel_left e2
    simp at e3
    omega
theorem name_at {n : Nat} (hn : NM n ns) {k : Nat} (hk : k < n) (S : Sto) : ∃ x, opIx (nmD ns) (.int (k : Nat)) S = .val (.str x) S ∧ x ∈ ns ∧ ns[k]? = some x := by
  have hk' : k < ns.length := by rw [hn.len]; exact hk
  refine ⟨ns[k], opIx_lst ?_, List.getElem_mem _, List.getElem?_eq_getElem hk'⟩
  rw [atI_nat, List.getElem?_map, List.getElem?_eq_getElem hk']
  rfl
/-- a sight of a house of n, drawn -/
def SgN (ns : List Str) (n : Nat) (s : Sg) : Prop := s.ok n ∧ ∀ c, s = .col c → c ∈ ns
theorem SgN.cl {m n : Nat} {s : Sg} (h : SgN ns n s) (hn : NM m ns) : s.cl := by
  cases s with
  | col c => exact hn.clr c (h.2 c rfl)
  | pan _ _ => exact True.intro
theorem w_sight {Q : D → Sto → Prop} {m : Nat} (bx : Bx b S) (hn : NM m ns) (hm : 0 < m) (hm2 : m < 1000) {n : Nat} (hz : n < 1000) (q : ∀ s S', SgN ns n s → Bk b S S' → Q (sgD s) S') : W (f__law_sight [.ref b, nmD ns, .int (n : Nat)] S) Q := by
  have tk : ∀ (U : Fl → Sto → Prop) S1, Bk b S S1 → (∀ s S', SgN ns n s → Bk b S S' → U (.ret (sgD s)) S') → W (sRet (eOp opIx (eVar 1) (eCall f__law_take (aCons (eVar 0) (aCons (eCall bLen (aCons (eVar 1) aNil)) aNil)))) [some (.ref b), some (nmD ns), some (.int (n : Nat))] S1) U := fun U S1 bk q => by
    ((repeat (first | mem_news | with_reducible refine Z.stop_for ?_)); try with_reducible refine Z.Stop.mk ?_)
    unfold nmD
    refine w_len_lm ?_
    rw [hn.len]
    ((repeat (first | mem_news | with_reducible refine Z.stop_for ?_)); try with_reducible refine Z.Stop.mk ?_)
    refine w_take bk.1 hm hm2 fun k S2 hk bk2 => ?_
    obtain ⟨x, ex, hx, _⟩ := name_at hn hk S2
    refine w_of ex (q (.col x) S2 ⟨True.intro, fun c e => ?_⟩ (bk.trans bk2))
    cases e
    exact hx
  unfold f__law_sight b__law_sight
  ((repeat (first | mem_news | with_reducible refine Z.stop_for ?_)); try with_reducible refine Z.Stop.mk ?_)
  refine cnd_dec (fun h0 => ?_) (fun h0 => ?_)
  · refine cnd_true ?_
    exact tk _ S (Bk.refl bx) q
  · ((repeat (first | mem_news | with_reducible refine Z.stop_for ?_)); try with_reducible refine Z.Stop.mk ?_)
    refine w_take (n := 2) bx (by omega) (by omega) fun r S1 hr bk1 => ?_
    ((repeat (first | mem_news | with_reducible refine Z.stop_for ?_)); try with_reducible refine Z.Stop.mk ?_)
    refine cnd_dec (fun h1 => ?_) (fun h1 => ?_)
    · exact tk _ S1 bk1 q
    · ((repeat (first | mem_news | with_reducible refine Z.stop_for ?_)); try with_reducible refine Z.Stop.mk ?_)
      refine w_take (n := n) bk1.1 (by omega) hz fun p S2 hp bk2 => ?_
      ((repeat (first | mem_news | with_reducible refine Z.stop_for ?_)); try with_reducible refine Z.Stop.mk ?_)
      refine w_take (n := 8) bk2.1 (by omega) (by omega) fun t S3 ht bk3 => ?_
      ((repeat (first | mem_news | with_reducible refine Z.stop_for ?_)); try with_reducible refine Z.Stop.mk ?_)
      exact q (.pan p t) S3 ⟨⟨hp, ht⟩, fun c e => (nomatch e)⟩ (bk1.trans (bk2.trans bk3))
end
/-- rows of a house of n, drawn -/
def RwN (ns : List Str) (n : Nat) (r : List Sg) : Prop := r.length = 4 ∧ ∀ s ∈ r, SgN ns n s
/-- a house, drawn -/
def HsN (ns : List Str) (h : House) : Prop := ∀ r ∈ h, RwN ns h.length r
section
variable {b : Nat} {S S' : Sto} {ns : List Str} {m : Nat}
theorem HsN.wf {h : House} (hh : HsN ns h) : WF h := fun r hr => ⟨(hh r hr).1, fun s hs => ((hh r hr).2 s hs).1⟩
theorem HsN.hc {h : House} (hh : HsN ns h) (hn : NM m ns) : HC h := fun r hr s hs => ((hh r hr).2 s hs).cl hn
theorem SgN.turn {n t : Nat} {s : Sg} (h : SgN ns n s) (ht : t < 8) : SgN ns n (s.turn t) := by
  cases s with
  | col c => exact h
  | pan p u => exact ⟨turn_ok ht h.1, fun c e => (nomatch e)⟩
theorem Bk.setNew {c : Nat} {x : Cel} (bx : Bx b S) (bk : Bk b S S') (hc : S.length ≤ c) : Bk b S (S'.set c x) := by
  have hb := bx.lt
  obtain ⟨a, e, f, h0, h1⟩ := bk.1
  exact ⟨⟨a, e, f, h0, by rw [List.getElem?_set_ne (by omega)]; exact h1⟩, by rw [List.length_set]; exact bk.2.1, fun i hi hb => by rw [List.getElem?_set_ne (by omega)]; exact bk.2.2 i hi hb⟩
theorem Bk.app {xs : List Cel} (bx : Bx b S) : Bk b S (S ++ xs) := Bk.ext bx ext_app
theorem Bk.at_ {i : Nat} {c : Cel} (bk : Bk b S S') (h : S[i]? = some c) (hb : i ≠ b) : S'[i]? = some c := by rw [bk.2.2 i (List.getElem?_eq_some_iff.mp h).1 hb]; exact h
end
end LB
set_option Elab.async false
set_option linter.all false
set_option maxRecDepth 100000
set_option maxHeartbeats 1000000

/-! LC2: a law's own turns (k75, k92 to k95). -/
namespace LC
open Z Pg LB
open PySem (Str sizeLine)
open L2 (atI ixN)
section
variable {S : Sto} {h : House}
def theI (a b : Int) : Int := (a / 4 + b / 4) % 2 * 4 + (if 3 < b then b % 4 - a % 4 else b % 4 + a % 4) % 4
theorem the_ok : ∀ a : Nat, a < 8 → ∀ b : Nat, b < 8 → theI (a : Int) (b : Int) = ((beh a b : Nat) : Int) := by decide
theorem f_then_n {a b : Nat} (ha : a < 8) (hb : b < 8) : f__law_then_93 [.int a, .int b] S = .val (.int (beh a b : Nat)) S := by
  rw [← the_ok a ha b hb]
  refine w_eq ?_
  unfold f__law_then_93 b__law_then_93 theI
  ((repeat (first | mem_news | with_reducible refine Z.stop_for ?_)); try with_reducible refine Z.Stop.mk ?_)
  refine cnd_dec (fun h1 => ?_) (fun h1 => ?_)
  · rw [if_pos h1]
    ((repeat (first | mem_news | with_reducible refine Z.stop_for ?_)); try with_reducible refine Z.Stop.mk ?_)
    exact ⟨rfl, rfl⟩
  · rw [if_neg h1]
    ((repeat (first | mem_news | with_reducible refine Z.stop_for ?_)); try with_reducible refine Z.Stop.mk ?_)
    exact ⟨rfl, rfl⟩
theorem f_turned_n {n d : Nat} (hd : d < 8) : ∀ {s : Sg}, s.ok n → f__law_turned_93 [sgD s, .int d] S = .val (sgD (s.turn d)) S
  | .col x, _ => rfl
  | .pan p t, ho => by
    refine w_eq ?_
    unfold f__law_turned_93 b__law_turned_93
    rw [sgD_pan]
    ((repeat (first | mem_news | with_reducible refine Z.stop_for ?_)); try with_reducible refine Z.Stop.mk ?_)
    exact w_of (f_then_n ho.2 hd) ⟨rfl, rfl⟩
theorem f_seen_n {t q : Nat} (ht : t < 8) (hq : q < 4) : f__law_seen_93 [.int t, .int q] S = .val (.int (shw t q : Nat)) S := by
  have : t = 0 ∨ t = 1 ∨ t = 2 ∨ t = 3 ∨ t = 4 ∨ t = 5 ∨ t = 6 ∨ t = 7 := by omega
  have : q = 0 ∨ q = 1 ∨ q = 2 ∨ q = 3 := by omega
  refine w_eq ?_
  unfold f__law_seen_93 b__law_seen_93
  ((repeat (first | mem_news | with_reducible refine Z.stop_for ?_)); try with_reducible refine Z.Stop.mk ?_)
  rcases ‹t = 0 ∨ _› with rfl | rfl | rfl | rfl | rfl | rfl | rfl | rfl <;> rcases ‹q = 0 ∨ _› with rfl | rfl | rfl | rfl <;> exact w_of rfl (w_of rfl ⟨rfl, rfl⟩)
theorem f_lquarter_n (wf : WF h) {q : Nat} (hq : q < 4) {s : Sg} (ho : s.ok h.length) : f__law_quarter_93 [hsD h, sgD s, .int q] S = .val (sgD (quar h s q)) S := by
  refine w_eq ?_
  unfold f__law_quarter_93 b__law_quarter_93
  cases s with
  | col c =>
    rw [sgD_col]
    ((repeat (first | mem_news | with_reducible refine Z.stop_for ?_)); try with_reducible refine Z.Stop.mk ?_)
    exact ⟨rfl, rfl⟩
  | pan p t =>
    obtain ⟨r, s, e1, e2, e3, os⟩ := cell_at wf ho.1 (shw_lt t ho.2 q hq)
    rw [sgD_pan]
    ((repeat (first | mem_news | with_reducible refine Z.stop_for ?_)); try with_reducible refine Z.Stop.mk ?_)
    unfold hsD
    refine w_ix_t (d := roD r) (by rw [atI_nat, List.getElem?_map, e1]; rfl) ?_
    ((repeat (first | mem_news | with_reducible refine Z.stop_for ?_)); try with_reducible refine Z.Stop.mk ?_)
    refine w_of (f_seen_n ho.2 hq) ?_
    ((repeat (first | mem_news | with_reducible refine Z.stop_for ?_)); try with_reducible refine Z.Stop.mk ?_)
    unfold roD
    refine w_ix_t (d := sgD s) (by rw [atI_nat, List.getElem?_map, e2]; rfl) ?_
    ((repeat (first | mem_news | with_reducible refine Z.stop_for ?_)); try with_reducible refine Z.Stop.mk ?_)
    refine w_of (f_turned_n ho.2 os) ⟨?_, rfl⟩
    show sgD (s.turn t) = sgD (((h.getD p []).getD (shw t q) default).turn t)
    rw [e3]
end
end LC
set_option Elab.async false
set_option linter.all false
set_option maxRecDepth 100000
set_option maxHeartbeats 2000000

/-! LC3: a law's house, drawn. -/
namespace LC
open Z Pg LB
open PySem (Str sizeLine)
open L2 (atI ixN)
section
variable {b : Nat} {S S' : Sto} {ns : List Str} {m : Nat}
theorem f_house_n (bx : Bx b S) (hn : NM m ns) (hm : 0 < m) (hm2 : m < 1000) {most : Nat} (h1 : 0 < most) (h2 : most ≤ 50) :
    W (f__law_house_93 [.ref b, nmD ns, .int (most : Nat)] S) fun d S' => Bk b S S' ∧ ∃ h, d = hsD h ∧ HsN ns h ∧ 1 ≤ h.length ∧ h.length ≤ most := by
  unfold f__law_house_93 b__law_house_93
  ((repeat (first | mem_news | with_reducible refine Z.stop_for ?_)); try with_reducible refine Z.Stop.mk ?_)
  have hz : most < 1000 := by omega
  refine w_take bx h1 hz ?_
  intro k0 S1 hk0 bk1
  ((repeat (first | mem_news | with_reducible refine Z.stop_for ?_)); try with_reducible refine Z.Stop.mk ?_)
  have hb := bx.lt
  have hS1 := bk1.2.1
  have e0 : (1 : Int) + (k0 : Int) = ((1 + k0 : Nat) : Int) := by omega
  rw [e0, Int.toNat_natCast]
  generalize hN : 1 + k0 = N
  have hN2 : N ≤ 50 := by omega
  refine w_forL (fun k ρ S' => ∃ (x3 x6 x7 x8 x9 x10 : Option D) (rows : List (List Sg)), ρ = [some (.ref b), some (nmD ns), some (.int (most : Nat)), x3, some (.int (N : Nat)), some (.ref S1.length), x6, x7, x8, x9, x10] ∧ Bk b S S' ∧ S'[S1.length]? = some (.lst (rows.map roD)) ∧ rows.length = k ∧ ∀ r ∈ rows, RwN ns N r) ⟨_, _, _, _, _, _, [], rfl, bk1.trans (Bk.app bk1.1), app_new, rfl, fun r hr => (nomatch hr)⟩ (fun _ _ _ _ => True.intro) ?_ ?_
  · rintro k d ρ S2 hk ⟨x3, x6, x7, x8, x9, x10, rows, rfl, bk2, hc, hlen, hrows⟩
    have hkN : k < N := by
      have := (List.getElem?_eq_some_iff.mp hk).1
      rwa [rangeD_len] at this
    have ek : d = .int (k : Nat) := by
      unfold rangeD at hk
      rw [List.getElem?_map, List.getElem?_range hkN] at hk
      cases hk
      rfl
    subst ek
    ((repeat (first | mem_news | with_reducible refine Z.stop_for ?_)); try with_reducible refine Z.Stop.mk ?_)
    refine w_take (n := 8) bk2.1 (by omega) (by omega) fun way S3 hway bk3 => ?_
    ((repeat (first | mem_news | with_reducible refine Z.stop_for ?_)); try with_reducible refine Z.Stop.mk ?_)
    refine w_sight bk3.1 hn hm hm2 (by omega) fun s S4 hs bk4 => ?_
    ((repeat (first | mem_news | with_reducible refine Z.stop_for ?_)); try with_reducible refine Z.Stop.mk ?_)
    have bkA := bk2.trans (bk3.trans bk4)
    have hne : S1.length ≠ b := by omega
    have hcA : S4[S1.length]? = some (.lst (rows.map roD)) := bk4.at_ (bk3.at_ hc hne) hne
    have add : ∀ {S5 : Sto} {r : List Sg} {x3 x6 x7 x8 x9 x10 : Option D}, Bk b S S5 → S5[S1.length]? = some (.lst (rows.map roD)) → RwN ns N r → ∃ (x3' x6' x7' x8' x9' x10' : Option D) (rows' : List (List Sg)), [some (.ref b), some (nmD ns), some (.int (most : Nat)), x3, some (.int (N : Nat)), some (.ref S1.length), x6, x7, x8, x9, x10] = [some (.ref b), some (nmD ns), some (.int (most : Nat)), x3', some (.int (N : Nat)), some (.ref S1.length), x6', x7', x8', x9', x10'] ∧ Bk b S (S5.set S1.length (.lst (rows.map roD ++ [roD r]))) ∧ (S5.set S1.length (.lst (rows.map roD ++ [roD r])))[S1.length]? = some (.lst (rows'.map roD)) ∧ rows'.length = k + 1 ∧ ∀ r ∈ rows', RwN ns N r := fun bk5 hc5 hr => by
      refine ⟨_, _, _, _, _, _, rows ++ [_], rfl, Bk.setNew bx bk5 hS1, by rw [set_at hc5, List.map_append]; rfl, by rw [List.length_append, hlen]; rfl, fun r' hr' => ?_⟩
      rcases List.mem_append.mp hr' with q | q
      · exact hrows r' q
      · rw [List.mem_singleton] at q
        subst q
        exact hr
    refine cnd_dec (fun w0 => ?_) (fun w0 => ?_)
    · -- by turns
      ((repeat (first | mem_news | with_reducible refine Z.stop_for ?_)); try with_reducible refine Z.Stop.mk ?_)
      refine w_compA (l := [0, 1, 3, 2]) (f := fun (t : Nat) => .int (t : Int)) (F := fun t => sgD (s.turn t)) True.intro (fun t ht => ?_) ?_
      · have ht : t < 8 := by simp at ht; omega
        ((repeat (first | mem_news | with_reducible refine Z.stop_for ?_)); try with_reducible refine Z.Stop.mk ?_)
        exact w_of (f_turned_n ht hs.1) ⟨rfl, rfl⟩
      ((repeat (first | mem_news | with_reducible refine Z.stop_for ?_)); try with_reducible refine Z.Stop.mk ?_)
      refine w_append hcA (by rw [List.length_map]; omega) ?_
      ((repeat (first | mem_news | with_reducible refine Z.stop_for ?_)); try with_reducible refine Z.Stop.mk ?_)
      exact add (r := [0, 1, 3, 2].map fun t => s.turn t) bkA hcA ⟨rfl, fun x hx => by
        obtain ⟨t, ht, rfl⟩ := List.mem_map.mp hx
        have ht : t < 8 := by simp at ht; omega
        exact hs.turn ht⟩
    ((repeat (first | mem_news | with_reducible refine Z.stop_for ?_)); try with_reducible refine Z.Stop.mk ?_)
    refine cnd_dec (fun w1 => ?_) (fun w1 => ?_)
    · ((repeat (first | mem_news | with_reducible refine Z.stop_for ?_)); try with_reducible refine Z.Stop.mk ?_)
      refine w_compP sgD (fun _ s => SgN ns N s) (fun S' => Bk b S4 S') (fun _ _ => True.intro) (Bk.refl bk4.1) (fun d hd S5 hS => ?_) fun r S5 bk5 hrl hr => ?_
      · ((repeat (first | mem_news | with_reducible refine Z.stop_for ?_)); try with_reducible refine Z.Stop.mk ?_)
        refine w_take (n := 8) hS.1 (by omega) (by omega) fun t S6 ht bk6 => ?_
        ((repeat (first | mem_news | with_reducible refine Z.stop_for ?_)); try with_reducible refine Z.Stop.mk ?_)
        exact ⟨hS.trans bk6, .pan k t, rfl, ⟨hkN, ht⟩, fun c e => (nomatch e)⟩
      have hc5 := bk5.at_ hcA hne
      ((repeat (first | mem_news | with_reducible refine Z.stop_for ?_)); try with_reducible refine Z.Stop.mk ?_)
      refine w_append hc5 (by rw [List.length_map]; omega) ?_
      ((repeat (first | mem_news | with_reducible refine Z.stop_for ?_)); try with_reducible refine Z.Stop.mk ?_)
      exact add (r := r) (bkA.trans bk5) hc5 ⟨by rw [hrl]; rfl, fun x hx => (hr x hx).elim fun _ h => h.2⟩
    ((repeat (first | mem_news | with_reducible refine Z.stop_for ?_)); try with_reducible refine Z.Stop.mk ?_)
    refine cnd_dec (fun w2 => ?_) (fun w2 => ?_)
    · ((repeat (first | mem_news | with_reducible refine Z.stop_for ?_)); try with_reducible refine Z.Stop.mk ?_)
      obtain ⟨x, ex, hx, _⟩ := name_at hn hm S4
      refine w_of ex ?_
      ((repeat (first | mem_news | with_reducible refine Z.stop_for ?_)); try with_reducible refine Z.Stop.mk ?_)
      have em : opMul (.tup [.str x]) (.int 4) S4 = .val (roD [.col x, .col x, .col x, .col x]) S4 := by
        simp only [opMul]
        rw [if_pos ⟨by simp, by omega, by omega, by simp⟩]
        rfl
      refine w_of em ?_
      ((repeat (first | mem_news | with_reducible refine Z.stop_for ?_)); try with_reducible refine Z.Stop.mk ?_)
      refine w_append hcA (by rw [List.length_map]; omega) ?_
      ((repeat (first | mem_news | with_reducible refine Z.stop_for ?_)); try with_reducible refine Z.Stop.mk ?_)
      exact add (r := [.col x, .col x, .col x, .col x]) bkA hcA ⟨rfl, fun s hs => by
        simp at hs
        subst hs
        exact ⟨True.intro, fun c e => by cases e; exact hx⟩⟩
    ((repeat (first | mem_news | with_reducible refine Z.stop_for ?_)); try with_reducible refine Z.Stop.mk ?_)
    have els : ∀ {U : Fl → Sto → Prop}, (∀ S5 r x10, Bk b S S5 → S5[S1.length]? = some (.lst (rows.map roD)) → RwN ns N r → U (.nx [some (.ref b), some (nmD ns), some (.int (most : Nat)), some (.int (k : Nat)), some (.int (N : Nat)), some (.ref S1.length), some (.int (way : Nat)), some (sgD s), x8, x9, x10]) (S5.set S1.length (.lst (rows.map roD ++ [roD r])))) →
        W ((sDrop (eMth isLs mAppend (eVar 5) (aCons (eCall bTuple (aCons (eFin finL (eComp (iRng1 (aCons (eC (.int 4)) aNil)) [10] (tName 10) bYes (eCall f__law_sight (aCons (eVar 0) (aCons (eVar 1) (aCons (eVar 4) aNil)))))) aNil)) aNil))) [some (.ref b), some (nmD ns), some (.int (most : Nat)), some (.int (k : Nat)), some (.int (N : Nat)), some (.ref S1.length), some (.int (way : Nat)), some (sgD s), x8, x9, x10] S4) U := fun {U} hU => by
      ((repeat (first | mem_news | with_reducible refine Z.stop_for ?_)); try with_reducible refine Z.Stop.mk ?_)
      refine w_compP sgD (fun _ s => SgN ns N s) (fun S' => Bk b S4 S') (fun _ _ => True.intro) (Bk.refl bk4.1) (fun d hd S5 hS => ?_) fun r S5 bk5 hrl hr => ?_
      · ((repeat (first | mem_news | with_reducible refine Z.stop_for ?_)); try with_reducible refine Z.Stop.mk ?_)
        refine w_sight hS.1 hn hm hm2 (by omega) fun s S6 hs bk6 => ?_
        exact ⟨hS.trans bk6, s, rfl, hs⟩
      have hc5 := bk5.at_ hcA hne
      ((repeat (first | mem_news | with_reducible refine Z.stop_for ?_)); try with_reducible refine Z.Stop.mk ?_)
      refine w_append hc5 (by rw [List.length_map]; omega) ?_
      ((repeat (first | mem_news | with_reducible refine Z.stop_for ?_)); try with_reducible refine Z.Stop.mk ?_)
      exact hU _ r _ (bkA.trans bk5) hc5 ⟨by rw [hrl]; rfl, fun x hx => (hr x hx).elim fun _ h => h.2⟩
    refine cnd_dec (fun w3 => ?_) (fun w3 => ?_)
    · ((repeat (first | mem_news | with_reducible refine Z.stop_for ?_)); try with_reducible refine Z.Stop.mk ?_)
      refine w_of (opNe_nil (k := 2) (d := .ref S1.length) (ds := rows.map roD) (by simp only [deref, hcA]) rfl (fun x hx => ?_) (by omega)) ?_
      · obtain ⟨r, hr, rfl⟩ := List.mem_map.mp hx
        exact okP_ro fun s hs => ((hrows r hr).2 s hs).cl hn
      cases rows with
      | nil =>
        refine cnd_eq (r := false) rfl (cnd_false ?_)
        refine els ?_
        intro S5 r x10 h1 h2 h3
        exact add h1 h2 h3
      | cons r0 rs =>
        refine cnd_eq (r := true) rfl (cnd_true ?_)
        ((repeat (first | mem_news | with_reducible refine Z.stop_for ?_)); try with_reducible refine Z.Stop.mk ?_)
        refine w_len_rm hcA ?_
        ((repeat (first | mem_news | with_reducible refine Z.stop_for ?_)); try with_reducible refine Z.Stop.mk ?_)
        have hl0 : 0 < (r0 :: rs).length := by simp
        refine w_take (n := (r0 :: rs).length) bk4.1 hl0 (by omega) fun num S5 hnum bk5 => ?_
        ((repeat (first | mem_news | with_reducible refine Z.stop_for ?_)); try with_reducible refine Z.Stop.mk ?_)
        refine w_take (n := 8) bk5.1 (by omega) (by omega) fun t S6 ht bk6 => ?_
        have hc6 := bk6.at_ (bk5.at_ hcA hne) hne
        ((repeat (first | mem_news | with_reducible refine Z.stop_for ?_)); try with_reducible refine Z.Stop.mk ?_)
        have hr := hrows _ (List.getElem_mem hnum)
        refine w_compA (l := List.range 4) (f := fun (q : Nat) => .int (q : Int)) (F := fun q => sgD (((r0 :: rs)[num].getD (shw t q) default).turn t)) True.intro (fun q hq => ?_) ?_
        · have hq := List.mem_range.mp hq
          have hsl : shw t q < (r0 :: rs)[num].length := by rw [hr.1]; exact shw_lt t ht q hq
          have eg : (r0 :: rs)[num].getD (shw t q) default = (r0 :: rs)[num][shw t q] := by rw [List.getD_eq_getElem?_getD, List.getElem?_eq_getElem hsl]; rfl
          rw [eg]
          ((repeat (first | mem_news | with_reducible refine Z.stop_for ?_)); try with_reducible refine Z.Stop.mk ?_)
          refine w_ix_r (d := roD (r0 :: rs)[num]) hc6 (by rw [atI_nat, List.getElem?_map, List.getElem?_eq_getElem hnum]; rfl) ?_
          ((repeat (first | mem_news | with_reducible refine Z.stop_for ?_)); try with_reducible refine Z.Stop.mk ?_)
          refine w_of (f_seen_n ht hq) ?_
          ((repeat (first | mem_news | with_reducible refine Z.stop_for ?_)); try with_reducible refine Z.Stop.mk ?_)
          unfold roD
          refine w_ix_t (d := sgD (r0 :: rs)[num][shw t q]) (by rw [atI_nat, List.getElem?_map, List.getElem?_eq_getElem hsl]; rfl) ?_
          ((repeat (first | mem_news | with_reducible refine Z.stop_for ?_)); try with_reducible refine Z.Stop.mk ?_)
          exact w_of (f_turned_n ht (hr.2 _ (List.getElem_mem hsl)).1) ⟨rfl, rfl⟩
        ((repeat (first | mem_news | with_reducible refine Z.stop_for ?_)); try with_reducible refine Z.Stop.mk ?_)
        refine w_append hc6 (by rw [List.length_map]; omega) ?_
        ((repeat (first | mem_news | with_reducible refine Z.stop_for ?_)); try with_reducible refine Z.Stop.mk ?_)
        exact add (r := (List.range 4).map fun q => ((r0 :: rs)[num].getD (shw t q) default).turn t) (bkA.trans (bk5.trans bk6)) hc6 ⟨rfl, fun x hx => by
          obtain ⟨q, hq, rfl⟩ := List.mem_map.mp hx
          have hq := List.mem_range.mp hq
          have hsl : shw t q < (r0 :: rs)[num].length := by rw [hr.1]; exact shw_lt t ht q hq
          have eg : (r0 :: rs)[num].getD (shw t q) default = (r0 :: rs)[num][shw t q] := by rw [List.getD_eq_getElem?_getD, List.getElem?_eq_getElem hsl]; rfl
          rw [eg]
          exact (hr.2 _ (List.getElem_mem hsl)).turn ht⟩
    · refine cnd_false ?_
      refine els ?_
      intro S5 r x10 h1 h2 h3
      exact add h1 h2 h3
  · rintro ρ S2 ⟨x3, x6, x7, x8, x9, x10, rows, rfl, bk2, hc, hlen, hrows⟩
    rw [rangeD_len] at hlen
    ((repeat (first | mem_news | with_reducible refine Z.stop_for ?_)); try with_reducible refine Z.Stop.mk ?_)
    refine w_tuple_r hc ?_
    exact ⟨bk2, rows, rfl, fun r hr => by rw [hlen]; exact hrows r hr, by omega, by omega⟩
end
end LC
set_option Elab.async false
set_option linter.all false
set_option maxRecDepth 100000
set_option maxHeartbeats 1000000

/-! LE1: a house of edges, plainly. -/
namespace LE
open Z Pg
open PySem (Str sizeLine)
/-- a sight's right side (1) or left side (0) -/
abbrev St := Sg × Nat
def stp (h : House) (x : St) (i : Nat) : St := (quar h x.1 (2 * i + x.2), x.2)
def stD (x : St) : D := .tup [sgD x.1, .int (x.2 : Nat)]
theorem eqD_st (a b : St) : eqD (stD a) (stD b) = decide (a = b) := by
  unfold stD
  rw [eqD_tup2, eqD_sg, eqD_int, ← Bool.decide_and]
  congr 1
  rw [eq_iff_iff, Prod.ext_iff]
  constructor
  · rintro ⟨h1, h2⟩; exact ⟨h1, by omega⟩
  · rintro ⟨h1, h2⟩; exact ⟨h1, by rw [h2]⟩
theorem okP_st {x : St} (h : x.1.cl) : okP 2 (toP (stD x)) := by
  unfold stD
  refine okP_tupD fun y hy => ?_
  simp at hy
  rcases hy with rfl | rfl
  · exact okP_sg h
  · exact okP_intD _
def idx (L : List St) (x : St) : Nat := (L.findIdx? fun z => decide (z = x)).getD 0
theorem idx_at {L : List St} {x : St} (hx : x ∈ L) : L[idx L x]? = some x := by
  obtain ⟨j, h1, h2⟩ := find_at hx
  unfold idx
  rw [h1]
  exact h2
def enc (L : List St) (x : St) : Sg := match x.1 with
  | .col c => .col c
  | .pan _ _ => .pan (idx L x) 0
def encR (h : House) (L : List St) (x : St) : List Sg := [enc L (stp h x 0), enc L (stp h x 0), enc L (stp h x 1), enc L (stp h x 1)]
def encH (h : House) (L : List St) : House := L.map (encR h L)
section
variable {h : House} {L : List St}
theorem enc_ok (hc : ∀ x ∈ L, ∀ i < 2, stp h x i ∈ L) {x : St} (hx : x ∈ L) : (enc L x).ok (encH h L).length := by
  unfold enc encH
  obtain ⟨s, n⟩ := x
  cases s with
  | col c => exact True.intro
  | pan p t =>
    refine ⟨?_, by omega⟩
    rw [List.length_map]
    exact (List.getElem?_eq_some_iff.mp (idx_at hx)).1
theorem encH_wf (hc : ∀ x ∈ L, ∀ i < 2, stp h x i ∈ L) : WF (encH h L) := by
  intro r hr
  unfold encH at hr
  obtain ⟨x, hx, rfl⟩ := List.mem_map.mp hr
  refine ⟨rfl, fun s hs => ?_⟩
  unfold encR at hs
  simp only [List.mem_cons, List.not_mem_nil, or_false] at hs
  have a := enc_ok hc (hc x hx 0 (by omega))
  have b := enc_ok hc (hc x hx 1 (by omega))
  rcases hs with rfl | rfl | rfl | rfl
  · exact a
  · exact a
  · exact b
  · exact b
theorem quar_enc {x : St} (hx : x ∈ L) {q : Nat} (hq : q < 4) : quar (encH h L) (enc L x) q = enc L (stp h x (q / 2)) := by
  obtain ⟨s, n⟩ := x
  cases s with
  | col c => rfl
  | pan p t =>
    have e1 := idx_at hx
    have e2 : (encH h L)[idx L (.pan p t, n)]? = some (encR h L (.pan p t, n)) := by
      unfold encH
      rw [List.getElem?_map, e1]
      rfl
    show (((encH h L).getD (idx L (.pan p t, n)) []).getD (shw 0 q) default).turn 0 = _
    have e3 : (encH h L).getD (idx L (.pan p t, n)) [] = encR h L (.pan p t, n) := by rw [List.getD_eq_getElem?_getD, e2]; rfl
    rw [e3]
    have t0 : ∀ y : St, (enc L y).turn 0 = enc L y := fun y => by
      unfold enc
      obtain ⟨s, n⟩ := y
      cases s with
      | col c => rfl
      | pan p t => rfl
    match q, hq with
    | 0, _ => exact t0 _
    | 1, _ => exact t0 _
    | 2, _ => exact t0 _
    | 3, _ => exact t0 _
theorem walk_enc (hc : ∀ x ∈ L, ∀ i < 2, stp h x i ∈ L) {τ : Nat → Nat} (hτ : Strm τ) {x : St} (hx : x ∈ L) : ∀ m, (walk h x.1 (fun i => 2 * (τ i / 2) + x.2) m, x.2) ∈ L ∧ walk (encH h L) (enc L x) τ m = enc L (walk h x.1 (fun i => 2 * (τ i / 2) + x.2) m, x.2)
  | 0 => ⟨hx, rfl⟩
  | m + 1 => by
    obtain ⟨h1, h2⟩ := walk_enc hc hτ hx m
    have hm := hτ m
    have h3 := hc _ h1 (τ m / 2) (by omega)
    refine ⟨h3, ?_⟩
    show quar (encH h L) (walk (encH h L) (enc L x) τ m) (τ m) = _
    rw [h2, quar_enc h1 hm]
    rfl
theorem enc_col {x : St} {c : Str} : enc L x = .col c ↔ x.1 = .col c := by
  unfold enc
  obtain ⟨s, n⟩ := x
  cases s with
  | col d => rfl
  | pan p t => exact ⟨fun e => (nomatch e), fun e => (nomatch e)⟩
theorem colS_enc (hc : ∀ x ∈ L, ∀ i < 2, stp h x i ∈ L) {τ : Nat → Nat} (hτ : Strm τ) {x : St} (hx : x ∈ L) {c : Str} : ColS (encH h L) (enc L x) τ c ↔ ColS h x.1 (fun i => 2 * (τ i / 2) + x.2) c := by
  constructor
  · rintro ⟨m, e⟩
    refine ⟨m, ?_⟩
    rw [(walk_enc hc hτ hx m).2, enc_col] at e
    exact e
  · rintro ⟨m, e⟩
    refine ⟨m, ?_⟩
    rw [(walk_enc hc hτ hx m).2, enc_col]
    exact e
theorem sem_enc (hc : ∀ x ∈ L, ∀ i < 2, stp h x i ∈ L) {a b : Sg} (ha : (a, 1) ∈ L) (hb : (b, 0) ∈ L) : Sem (encH h L) (enc L (a, 1)) (encH h L) (enc L (b, 0)) ↔ FitS h a h b := by
  constructor
  · intro E β hb' c
    have hτ : Strm fun m => 2 * β m := fun m => by have := hb' m; show 2 * β m < 4; omega
    have := E _ hτ c
    rw [colS_enc hc hτ ha, colS_enc hc hτ hb] at this
    have e1 : (fun i => 2 * (2 * β i / 2) + 1) = rgt β := funext fun i => by unfold rgt; omega
    have e2 : (fun i => 2 * (2 * β i / 2) + 0) = lft β := funext fun i => by unfold lft; omega
    simp only at this
    rw [e1, e2] at this
    exact this
  · intro F τ hτ c
    have hβ : Bin fun m => τ m / 2 := fun m => by have := hτ m; show τ m / 2 < 2; omega
    have := F _ hβ c
    rw [colS_enc hc hτ ha, colS_enc hc hτ hb]
    have e1 : (fun i => 2 * (τ i / 2) + 1) = rgt fun m => τ m / 2 := funext fun i => by show _ = 1 + 2 * (τ i / 2); omega
    have e2 : (fun i => 2 * (τ i / 2) + 0) = lft fun m => τ m / 2 := funext fun i => rfl
    simp only
    rw [e1, e2]
    exact this
end
end LE
set_option Elab.async false
set_option linter.all false
set_option maxRecDepth 100000
set_option maxHeartbeats 2000000

/-! LE2: a house of edges, walked (k93). -/
namespace LE
open Z Pg
open PySem (Str sizeLine)
section
variable {h : House} {S : Sto} {a b : Sg}
/-- all sides that may be come to -/
def univE (h : House) (a b : Sg) : List St := (univ h [a, b]).flatMap fun x => [(x, 0), (x, 1)]
theorem mem_univE {x : St} : x ∈ univE h a b ↔ x.1 ∈ univ h [a, b] ∧ x.2 < 2 := by
  unfold univE
  rw [List.mem_flatMap]
  constructor
  · rintro ⟨y, hy, hx⟩
    simp at hx
    rcases hx with rfl | rfl
    · exact ⟨hy, by simp⟩
    · exact ⟨hy, by simp⟩
  · rintro ⟨h1, h2⟩
    refine ⟨x.1, h1, ?_⟩
    obtain ⟨s, n⟩ := x
    have h2 : n < 2 := h2
    match n, h2 with
    | 0, _ => simp
    | 1, _ => simp
theorem univE_len (wf : WF h) : (univE h a b).length = 2 * (12 * h.length + 2) := by
  unfold univE
  rw [List.length_flatMap]
  have : ∀ l : List Sg, (l.map fun x => ([(x, 0), (x, 1)] : List St).length).sum = 2 * l.length := by
    intro l
    induction l with
    | nil => rfl
    | cons x l ih => rw [List.map_cons, List.sum_cons, ih]; show 2 + 2 * l.length = 2 * (l.length + 1); omega
  rw [this, univ_len wf]
  rfl
structure Ln (h : House) (a b : Sg) (L : List St) : Prop where
  nodup : L.Nodup
  two : ∃ M, L = (a, 1) :: (b, 0) :: M
  ok : ∀ x ∈ L, x.1.ok h.length ∧ x.1.cl ∧ x ∈ univE h a b
theorem Ln.add (wf : WF h) (hc : HC h) {L : List St} (l : Ln h a b L) {x : St} (hx : x ∈ L) {i : Nat} (hi : i < 2) (hn : stp h x i ∉ L) : Ln h a b (L ++ [stp h x i]) := by
  obtain ⟨o1, o2, o3⟩ := l.ok x hx
  have m := mem_univE.mp o3
  have h4 : 2 * i + x.2 < 4 := by have := m.2; omega
  refine ⟨?_, ?_, fun y hy => ?_⟩
  · rw [List.nodup_append]
    refine ⟨l.nodup, by simp, fun p hp q hq e => ?_⟩
    rw [List.mem_singleton] at hq
    subst hq
    exact hn (e ▸ hp)
  · obtain ⟨M, e⟩ := l.two
    exact ⟨M ++ [stp h x i], by rw [e]; rfl⟩
  · rcases List.mem_append.mp hy with q | q
    · exact l.ok y q
    · rw [List.mem_singleton] at q
      subst q
      exact ⟨quar_ok wf h4 o1, quar_cl wf hc h4 o1 o2, mem_univE.mpr ⟨univ_quar wf h4 o1 m.1, m.2⟩⟩
/-- what is told of a side -/
def bothD (h : House) (x : St) : D := .lst [stD (stp h x 0), stD (stp h x 1)]
theorem mul_l0 {d : D} : opMul (.lst [d]) (.int (if false = true then 1 else 0)) S = .val (.lst []) S := by
  simp only [opMul, seqM]
  rw [if_pos ⟨by simp, by simp, by simp⟩]
  rfl
theorem mul_l1 {d : D} : opMul (.lst [d]) (.int (if true = true then 1 else 0)) S = .val (.lst [d]) S := by
  simp only [opMul, seqM]
  rw [if_pos ⟨by simp, by simp, szL (by simp)⟩]
  rfl
theorem mIndex_idx {L : List St} {x : St} (hx : x ∈ L) (h1 : ∀ y ∈ L, y.1.cl) : mIndex (.lst (L.map stD)) [stD x] S = .val (.int (idx L x : Nat)) S := by
  obtain ⟨j, h2, h3⟩ := find_at hx
  have o1 : okD (stD x) = true := okD_of (okP_st (h1 x hx)) (by omega)
  have o2 : okD (.lst (L.map stD)) = true := okD_of (okP_lstD (k := 2) fun y hy => by obtain ⟨z, hz, rfl⟩ := List.mem_map.mp hy; exact okP_st (h1 z hz)) (by omega)
  simp only [mIndex, seqL]
  rw [if_pos ⟨o2, o1⟩, find_map eqD_st, h2]
  unfold idx
  rw [h2]
  rfl
theorem f_edge_house_n (wf : WF h) (hc : HC h) (hl : h.length ≤ 20) (ho1 : a.ok h.length) (ho2 : b.ok h.length) (h1 : a.cl) (h2 : b.cl) :
    W (f__law_edge_house [hsD h, .tup [sgD a, sgD b]] S) fun d S' => Fr [] S S' ∧ ∃ (E : House) (e0 e1 : Sg), d = .tup [hsD E, .lst [sgD e0, sgD e1]] ∧ WF E ∧ e0.ok E.length ∧ e1.ok E.length ∧ (Sem E e0 E e1 ↔ FitS h a h b) := by
  unfold f__law_edge_house b__law_edge_house
  ((repeat (first | mem_news | with_reducible refine Z.stop_for ?_)); try with_reducible refine Z.Stop.mk ?_)
  have hU : (univE h a b).length ≤ 500 := by rw [univE_len wf]; omega
  refine w_sWhile (fun k ρ S' => ∃ (i : Nat) (L : List St) (x3 x8 x9 x10 : Option D), ρ = [some (hsD h), some (.tup [sgD a, sgD b]), none, x3, none, some (.lst (L.map stD)), some (.int (i : Nat)), some (.ref S.length), x8, x9, x10, none, none, none, none] ∧ Fr [] S S' ∧ S'[S.length]? = some (.lst ((L.take i).map (bothD h))) ∧ Ln h a b L ∧ (∀ x ∈ L.take i, ∀ j < 2, stp h x j ∈ L) ∧ i ≤ L.length ∧ k = 501 - i) (n := 501) ?_ ?_
  · refine ⟨0, [(a, 1), (b, 0)], _, _, _, _, rfl, Fr.app, app_new, ⟨by simp, ⟨[], rfl⟩, fun x hx => ?_⟩, fun x hx => (nomatch hx), Nat.zero_le _, rfl⟩
    simp at hx
    rcases hx with rfl | rfl
    · exact ⟨ho1, h1, mem_univE.mpr ⟨by simp [univ], by simp⟩⟩
    · exact ⟨ho2, h2, mem_univE.mpr ⟨by simp [univ], by simp⟩⟩
  · rintro k ρ S1 ⟨i, L, x3, x8, x9, x10, rfl, fr, hc7, l, hcl, hi, rfl⟩
    have hL : L.length ≤ 500 := Nat.le_trans (nodup_le l.nodup fun x hx => (l.ok x hx).2.2) hU
    ((repeat (first | mem_news | with_reducible refine Z.stop_for ?_)); try with_reducible refine Z.Stop.mk ?_)
    refine cnd_dec (fun hlt => ?_) (fun hge => ?_)
    · have hlt : i < L.length := by omega
      have hx := List.getElem_mem hlt
      obtain ⟨o1, o2, o3⟩ := l.ok _ hx
      have m := mem_univE.mp o3
      ((repeat (first | mem_news | with_reducible refine Z.stop_for ?_)); try with_reducible refine Z.Stop.mk ?_)
      refine w_ix_l (d := .tup [sgD L[i].1, .int (L[i].2 : Nat)]) (by rw [atI_nat, List.getElem?_map, List.getElem?_eq_getElem hlt]; rfl) ?_
      ((repeat (first | mem_news | with_reducible refine Z.stop_for ?_)); try with_reducible refine Z.Stop.mk ?_)
      refine w_compA (l := [0, 1]) (f := fun (j : Nat) => .int ((2 * j : Nat) : Int)) (F := fun j => stD (stp h L[i] j)) True.intro (fun j hj => ?_) ?_
      · have hj : j < 2 := by simp at hj; omega
        ((repeat (first | mem_news | with_reducible refine Z.stop_for ?_)); try with_reducible refine Z.Stop.mk ?_)
        have e1 : ((2 * j : Nat) : Int) + (L[i].2 : Nat) = ((2 * j + L[i].2 : Nat) : Int) := by omega
        rw [e1]
        refine w_of (LC.f_lquarter_n wf (by have := m.2; omega) o1) ?_
        ((repeat (first | mem_news | with_reducible refine Z.stop_for ?_)); try with_reducible refine Z.Stop.mk ?_)
        exact ⟨rfl, rfl⟩
      ((repeat (first | mem_news | with_reducible refine Z.stop_for ?_)); try with_reducible refine Z.Stop.mk ?_)
      refine w_forL (fun k' ρ S' => ∃ (x8 : Option D) (L' : List St), ρ = [some (hsD h), some (.tup [sgD a, sgD b]), none, some (bothD h L[i]), none, some (.lst (L'.map stD)), some (.int (i : Nat)), some (.ref S.length), x8, some (sgD L[i].1), some (.int (L[i].2 : Nat)), none, none, none, none] ∧ S' = S1 ∧ Ln h a b L' ∧ (∃ M, L' = L ++ M) ∧ ∀ j < k', stp h L[i] j ∈ L') ⟨x8, L, rfl, rfl, l, ⟨[], by simp⟩, fun j hj => absurd hj (Nat.not_lt_zero _)⟩ (fun _ _ _ _ => True.intro) ?_ ?_
      · rintro k' d ρ S2 hk ⟨x8', L', rfl, rfl, l', ⟨M, hM⟩, hd⟩
        have hk2 : k' < 2 := (List.getElem?_eq_some_iff.mp hk).1
        have ed : d = stD (stp h L[i] k') := by
          match k', hk2, hk with
          | 0, _, he => cases he; rfl
          | 1, _, he => cases he; rfl
        subst ed
        have hx' : L[i] ∈ L' := by rw [hM]; exact List.mem_append.mpr (.inl hx)
        have hL' : L'.length ≤ 500 := Nat.le_trans (nodup_le l'.nodup fun x hx => (l'.ok x hx).2.2) hU
        ((repeat (first | mem_news | with_reducible refine Z.stop_for ?_)); try with_reducible refine Z.Stop.mk ?_)
        refine w_notIn_map (f := stD) eqD_st (x := stp h L[i] k') (l := L') rfl (fun y hy => ?_) rfl (fun _ => by simp) (fun _ => by simp) (fun c => ?_) (fun c => ?_)
        · rcases List.mem_cons.mp hy with q | q
          · subst q
            exact okP_up (okP_st (quar_cl wf hc (by have := m.2; omega) o1 o2)) (by omega)
          · exact okP_up (okP_st (l'.ok y q).2.1) (by omega)
        · ((repeat (first | mem_news | with_reducible refine Z.stop_for ?_)); try with_reducible refine Z.Stop.mk ?_)
          refine w_of mul_l0 ?_
          ((repeat (first | mem_news | with_reducible refine Z.stop_for ?_)); try with_reducible refine Z.Stop.mk ?_)
          rw [List.append_nil]
          refine ⟨_, L', rfl, rfl, l', ⟨M, hM⟩, fun j hj => ?_⟩
          rcases Nat.lt_succ_iff_lt_or_eq.mp hj with hj | hj
          · exact hd j hj
          · subst hj; exact c
        · ((repeat (first | mem_news | with_reducible refine Z.stop_for ?_)); try with_reducible refine Z.Stop.mk ?_)
          refine w_of mul_l1 ?_
          ((repeat (first | mem_news | with_reducible refine Z.stop_for ?_)); try with_reducible refine Z.Stop.mk ?_)
          refine ⟨_, L' ++ [stp h L[i] k'], by rw [List.map_append]; rfl, rfl, l'.add wf hc hx' hk2 c, ⟨M ++ [stp h L[i] k'], by rw [hM, List.append_assoc]⟩, fun j hj => ?_⟩
          rcases Nat.lt_succ_iff_lt_or_eq.mp hj with hj | hj
          · exact List.mem_append.mpr (.inl (hd j hj))
          · subst hj; exact List.mem_append.mpr (.inr (List.mem_singleton.mpr rfl))
      · rintro ρ S2 ⟨x8', L', rfl, rfl, l', ⟨M, hM⟩, hd⟩
        have hd : ∀ j < 2, stp h L[i] j ∈ L' := hd
        ((repeat (first | mem_news | with_reducible refine Z.stop_for ?_)); try with_reducible refine Z.Stop.mk ?_)
        refine w_append hc7 (by rw [List.length_map, List.length_take]; omega) ?_
        ((repeat (first | mem_news | with_reducible refine Z.stop_for ?_)); try with_reducible refine Z.Stop.mk ?_)
        have e1 : (i : Int) + 1 = ((i + 1 : Nat) : Int) := by omega
        rw [e1]
        have et : L'.take (i + 1) = L.take i ++ [L[i]] := by rw [hM, List.take_append_of_le_length (by omega), List.take_succ, List.getElem?_eq_getElem hlt]; rfl
        refine ⟨501 - (i + 1), by omega, i + 1, L', _, _, _, _, rfl, fr.setNew (Nat.le_refl _), ?_, l', fun x hx j hj => ?_, ?_, rfl⟩
        · rw [et, List.map_append]
          exact set_at hc7
        · rw [et] at hx
          rcases List.mem_append.mp hx with hx | hx
          · rw [hM]; exact List.mem_append.mpr (.inl (hcl x hx j hj))
          · rw [List.mem_singleton] at hx
            subst hx
            exact hd j hj
        · rw [hM, List.length_append]; omega
    · ((repeat (first | mem_news | with_reducible refine Z.stop_for ?_)); try with_reducible refine Z.Stop.mk ?_)
      have hge : L.length ≤ i := by omega
      rw [List.take_of_length_le hge] at hcl hc7
      refine w_src_r (app_old hc7) ?_
      ((repeat (first | mem_news | with_reducible refine Z.stop_for ?_)); try with_reducible refine Z.Stop.mk ?_)
      have hS0 := fr.1
      have hcl1 := (List.getElem?_eq_some_iff.mp hc7).1
      refine w_forL (fun k ρ S' => ∃ (x3 x8 x11 x12 : Option D), ρ = [some (hsD h), some (.tup [sgD a, sgD b]), some (.ref S1.length), x3, none, some (.lst (L.map stD)), some (.int (i : Nat)), some (.ref S.length), x8, x9, x10, x11, x12, none, none] ∧ Fr [] S S' ∧ S'[S.length]? = some (.lst (L.map (bothD h))) ∧ S'[S1.length]? = some (.lst ((L.take k).map fun x => roD (encR h L x)))) ⟨_, _, _, _, rfl, fr.trans Fr.app, app_old hc7, app_new⟩ (fun k ρ S' ⟨_, _, _, _, _, _, h, _⟩ => h) ?_ ?_
      · rintro k d ρ S2 hk ⟨x3', x8', x11, x12, rfl, fr2, hc7', hc2⟩
        rw [List.getElem?_map] at hk
        obtain ⟨x, hx, rfl⟩ := Option.map_eq_some_iff.mp hk
        have hkl := (List.getElem?_eq_some_iff.mp hx).1
        have hxL := List.mem_of_getElem? hx
        unfold bothD
        ((repeat (first | mem_news | with_reducible refine Z.stop_for ?_)); try with_reducible refine Z.Stop.mk ?_)
        refine w_compA (l := [stp h x 0, stp h x 1]) (f := stD) (F := fun y => sgD (enc L y)) True.intro (fun y hy => ?_) ?_
        · have hyL : y ∈ L := by
            simp at hy
            rcases hy with rfl | rfl
            · exact hcl x hxL 0 (by omega)
            · exact hcl x hxL 1 (by omega)
          have mi := mIndex_idx (S := S2) hyL fun z hz => (l.ok z hz).2.1
          obtain ⟨s, n⟩ := y
          cases s with
          | col c =>
            unfold stD
            rw [sgD_col]
            ((repeat (first | mem_news | with_reducible refine Z.stop_for ?_)); try with_reducible refine Z.Stop.mk ?_)
            exact ⟨rfl, rfl⟩
          | pan p t =>
            unfold stD at mi ⊢
            rw [sgD_pan] at mi ⊢
            ((repeat (first | mem_news | with_reducible refine Z.stop_for ?_)); try with_reducible refine Z.Stop.mk ?_)
            refine w_of mi ?_
            ((repeat (first | mem_news | with_reducible refine Z.stop_for ?_)); try with_reducible refine Z.Stop.mk ?_)
            exact ⟨rfl, rfl⟩
        simp only [List.map_cons, List.map_nil]
        ((repeat (first | mem_news | with_reducible refine Z.stop_for ?_)); try with_reducible refine Z.Stop.mk ?_)
        refine w_append hc2 (by rw [List.length_map, List.length_take]; omega) ?_
        ((repeat (first | mem_news | with_reducible refine Z.stop_for ?_)); try with_reducible refine Z.Stop.mk ?_)
        have et : L.take (k + 1) = L.take k ++ [x] := by rw [List.take_succ, hx]; rfl
        refine ⟨_, _, _, _, rfl, fr2.setNew (by omega), set_ne hc7' (by omega), ?_⟩
        rw [et, List.map_append]
        exact set_at hc2
      · rintro ρ S2 ⟨x3', x8', x11, x12, rfl, fr2, hc7', hc2⟩
        rw [List.length_map, List.take_of_length_le (Nat.le_refl _)] at hc2
        ((repeat (first | mem_news | with_reducible refine Z.stop_for ?_)); try with_reducible refine Z.Stop.mk ?_)
        obtain ⟨M, hM⟩ := l.two
        have e2 : cutL (L.map stD) none (some 2) = [stD (a, 1), stD (b, 0)] := by
          rw [hM]
          exact (cutL_take (n := 2)).trans rfl
        rw [e2]
        refine side_i (by simp [enums]) ?_
        ((repeat (first | mem_news | with_reducible refine Z.stop_for ?_)); try with_reducible refine Z.Stop.mk ?_)
        have mL : (a, 1) ∈ L ∧ (b, 0) ∈ L := by rw [hM]; simp
        have i0 : idx L (a, 1) = 0 := by rw [hM]; unfold idx; rw [List.findIdx?_cons, if_pos (by simp)]; rfl
        have i1 : idx L (b, 0) = 1 := by rw [hM]; unfold idx; rw [List.findIdx?_cons, if_neg (by simp), List.findIdx?_cons, if_pos (by simp)]; rfl
        refine w_compA (l := ([(0, (a, 1)), (1, (b, 0))] : List (Nat × St))) (f := fun y => .tup [.int (y.1 : Nat), stD y.2]) (F := fun y => sgD (enc L y.2)) True.intro (fun y hy => ?_) ?_
        · have hy : idx L y.2 = y.1 := by
            simp at hy
            rcases hy with rfl | rfl
            · exact i0
            · exact i1
          obtain ⟨k, s, n⟩ := y
          simp only at hy
          unfold stD
          cases s with
          | col c =>
            rw [sgD_col]
            ((repeat (first | mem_news | with_reducible refine Z.stop_for ?_)); try with_reducible refine Z.Stop.mk ?_)
            exact ⟨rfl, rfl⟩
          | pan p t =>
            rw [sgD_pan]
            ((repeat (first | mem_news | with_reducible refine Z.stop_for ?_)); try with_reducible refine Z.Stop.mk ?_)
            refine ⟨?_, rfl⟩
            show _ = sgD (.pan (idx L (.pan p t, n)) 0)
            rw [hy]
            rfl
        simp only [List.map_cons, List.map_nil]
        ((repeat (first | mem_news | with_reducible refine Z.stop_for ?_)); try with_reducible refine Z.Stop.mk ?_)
        refine w_tuple_r hc2 ?_
        ((repeat (first | mem_news | with_reducible refine Z.stop_for ?_)); try with_reducible refine Z.Stop.mk ?_)
        refine ⟨fr2, encH h L, enc L (a, 1), enc L (b, 0), ?_, encH_wf hcl, enc_ok hcl mL.1, enc_ok hcl mL.2, sem_enc hcl mL.1 mL.2⟩
        unfold hsD encH
        rw [List.map_map]
        rfl
end
end LE
set_option Elab.async false
set_option linter.all false
set_option maxRecDepth 100000
set_option maxHeartbeats 2000000

/-! LE3: the law of edges as pictures (k93). -/
namespace L93
open Z Pg LB LE LC
open PySem (Str sizeLine)
section
variable {h : House} {S : Sto} {a b : Sg}
/-- what alike tells -/
theorem w_alike (wf : WF h) (hl : h.length ≤ 400) (ha : a.ok h.length) (hb : b.ok h.length) : W (f_alike [hsD h, sgD a, sgD b] S) fun d S' => Fr [] S S' ∧ ∃ q : Bool, d = .bl q ∧ (q = true ↔ Sem h a h b) := by
  obtain ⟨S', mk, e, F, x⟩ := f_alike_n (S := S) wf hl ha hb
  refine w_of e ⟨frE x, _, rfl, ?_⟩
  rw [decide_eq_true_iff]
  exact F.iff wf ha hb
theorem opNe_repr (p q : Bool) : opNe (.str (if p then "True" else "False")) (.str (if q then "True" else "False")) S = .val (.bl (!decide (p = q))) S := by
  cases p <;> cases q <;> rfl
theorem is_true (S : Sto) : opIsB (.bl true) (.bl true) S = .val (.bl true) S := rfl
theorem repr_b (q : Bool) (S : Sto) : bRepr [.bl q] S = .val (.str (if q then "True" else "False")) S := rfl
theorem f_pair_right_n (wf : WF h) (hc : HC h) (hl : h.length ≤ 20) (ho1 : a.ok h.length) (ho2 : b.ok h.length) (h1 : a.cl) (h2 : b.cl) :
    W (f__law_pair_right [hsD h, sgD a, sgD b] S) fun d S' => Fr [] S S' ∧ d = .bl true := by
  unfold f__law_pair_right b__law_pair_right
  ((repeat (first | mem_news | with_reducible refine Z.stop_for ?_)); try with_reducible refine Z.Stop.mk ?_)
  refine w_imp (f_edge_house_n wf hc hl ho1 ho2 h1 h2) ?_
  rintro d S1 ⟨fr1, E, e0, e1, rfl, wfE, o0, o1, hE⟩
  ((repeat (first | mem_news | with_reducible refine Z.stop_for ?_)); try with_reducible refine Z.Stop.mk ?_)
  refine w_imp (f_fits_n wf hc (by omega) ho1 ho2 h1 h2) ?_
  rintro d S2 ⟨fr2, due, rfl, hdue⟩
  ((repeat (first | mem_news | with_reducible refine Z.stop_for ?_)); try with_reducible refine Z.Stop.mk ?_)
  refine w_imp (f_fit_paper_n wf hc (by omega) ho1 ho2 h1 h2) ?_
  rintro p S3 ⟨fr3, hp⟩
  ((repeat (first | mem_news | with_reducible refine Z.stop_for ?_)); try with_reducible refine Z.Stop.mk ?_)
  refine w_imp (f_misfit_n wf hc (by omega) ho1 ho2 h1 h2) ?_
  rintro r S4 ⟨fr4, hm⟩
  have frA := fr1.trans (fr2.trans (fr3.trans fr4))
  have el : ∀ S, bLen [hsD E] S = .val (.int (E.length : Nat)) S := fun S => by unfold hsD; rw [bLen_tup, List.length_map]
  have rest : ∀ S5, Fr [] S S5 → W (sSeq (sIf (bVal (eVar 5)) (sRet (eAnd (eOp opIs (eVar 7) (eC .non)) (eOp opIsB (eCall f_shows_fit (aCons (eVar 0) (aCons (eVar 1) (aCons (eVar 2) (aCons (eVar 6) aNil))))) (eC (.bl true))))) sSkip)
      (sRet (eAnd (eOp opIs (eVar 6) (eC .non)) (eOp opIsB (eCall f_shows_misfit (aCons (eVar 0) (aCons (eVar 1) (aCons (eVar 2) (aCons (eVar 7) aNil))))) (eC (.bl true))))) [some (hsD h), some (sgD a), some (sgD b), some (hsD E), some (.lst [sgD e0, sgD e1]), some (.bl due), some p, some r] S5) (fR fun d S' => Fr [] S S' ∧ d = .bl true) := fun S5 fr5 => by
    cases due with
    | true =>
      have F := hdue.mp rfl
      rcases hp with ⟨nF, _⟩ | ⟨_, L, num, rfl, P⟩
      · exact absurd F nF
      rcases hm with ⟨rfl, _⟩ | ⟨nF, _⟩
      · ((repeat (first | mem_news | with_reducible refine Z.stop_for ?_)); try with_reducible refine Z.Stop.mk ?_)
        refine cnd_eq (r := true) rfl (cnd_true ?_)
        ((repeat (first | mem_news | with_reducible refine Z.stop_for ?_)); try with_reducible refine Z.Stop.mk ?_)
        have sf : f_shows_fit [hsD h, sgD a, sgD b, .lst (L.map (tripD num))] S5 = .val (.bl true) S5 := f_shows_fit_n (p0 := (a, b)) wf P
        refine w_of sf ?_
        ((repeat (first | mem_news | with_reducible refine Z.stop_for ?_)); try with_reducible refine Z.Stop.mk ?_)
        exact w_of (is_true S5) ⟨fr5, rfl⟩
      · exact absurd F nF
    | false =>
      have nF : ¬ FitS h a h b := fun F => by have := hdue.mpr F; cases this
      rcases hp with ⟨_, rfl⟩ | ⟨F, _⟩
      · rcases hm with ⟨_, F⟩ | ⟨_, rr, ag, rfl, M⟩
        · exact absurd F nF
        · ((repeat (first | mem_news | with_reducible refine Z.stop_for ?_)); try with_reducible refine Z.Stop.mk ?_)
          refine cnd_eq (r := true) rfl (cnd_true ?_)
          ((repeat (first | mem_news | with_reducible refine Z.stop_for ?_)); try with_reducible refine Z.Stop.mk ?_)
          refine w_imp (f_shows_misfit_n wf (by omega) ho1 ho2 M) ?_
          rintro d S6 ⟨fr6, rfl⟩
          ((repeat (first | mem_news | with_reducible refine Z.stop_for ?_)); try with_reducible refine Z.Stop.mk ?_)
          exact w_of (is_true S6) ⟨fr5.trans fr6, rfl⟩
      · exact absurd F nF
  ((repeat (first | mem_news | with_reducible refine Z.stop_for ?_)); try with_reducible refine Z.Stop.mk ?_)
  refine w_of (el S4) ?_
  ((repeat (first | mem_news | with_reducible refine Z.stop_for ?_)); try with_reducible refine Z.Stop.mk ?_)
  refine cnd_dec (fun lt => ?_) (fun ge => ?_)
  · ((repeat (first | mem_news | with_reducible refine Z.stop_for ?_)); try with_reducible refine Z.Stop.mk ?_)
    refine w_imp (w_alike wfE (by omega) o0 o1) ?_
    rintro d S5 ⟨fr5, q, rfl, hq⟩
    have eq : q = due := by
      rw [Bool.eq_iff_iff, hq, hdue]
      exact hE
    subst eq
    ((repeat (first | mem_news | with_reducible refine Z.stop_for ?_)); try with_reducible refine Z.Stop.mk ?_)
    refine w_of (repr_b q S5) ?_
    ((repeat (first | mem_news | with_reducible refine Z.stop_for ?_)); try with_reducible refine Z.Stop.mk ?_)
    refine w_of (repr_b q S5) ?_
    ((repeat (first | mem_news | with_reducible refine Z.stop_for ?_)); try with_reducible refine Z.Stop.mk ?_)
    exact cnd_t rfl (rest S5 (frA.trans fr5))
  · exact cnd_false (rest S4 frA)
/-- what is alike fits when flipped -/
theorem fit_flip (wf : WF h) (hb : b.ok h.length) (e : Sem h a h b) : FitS h a h (b.turn 4) := fun β hβ c => by
  rw [colS_turn wf (lft_strm hβ) hb (by omega)]
  have : (fun i => shw 4 (lft β i)) = rgt β := funext fun i => by
    have := hβ i
    show shw 4 (2 * β i) = 1 + 2 * β i
    match β i, this with
    | 0, _ => rfl
    | 1, _ => rfl
  rw [this]
  exact e _ (rgt_strm hβ) c
theorem Bk.fr {n : Nat} {S S' : Sto} (bx : Bx n S) (x : Fr [] S S') : Bk n S S' := Bk.ext bx x.ext
theorem f_right_n {n : Nat} (bx : Bx n S) : W (f__law_right_93 [.ref n] S) fun d S' => d = .bl true ∧ Bk n S S' := by
  unfold f__law_right_93 b__law_right_93
  ((repeat (first | mem_news | with_reducible refine Z.stop_for ?_)); try with_reducible refine Z.Stop.mk ?_)
  refine w_imp (f_names_n (many := 2) bx (by omega)) ?_
  rintro d S1 ⟨bk1, ns, rfl, hn⟩
  ((repeat (first | mem_news | with_reducible refine Z.stop_for ?_)); try with_reducible refine Z.Stop.mk ?_)
  refine w_imp (LC.f_house_n (most := 2) bk1.1 hn (by omega) (by omega) (by omega) (by omega)) ?_
  rintro d S2 ⟨bk2, h, rfl, hh, hl1, hl2⟩
  have wf := hh.wf
  have hc := hh.hc hn
  have el : ∀ S, bLen [hsD h] S = .val (.int (h.length : Nat)) S := fun S => by unfold hsD; rw [bLen_tup, List.length_map]
  ((repeat (first | mem_news | with_reducible refine Z.stop_for ?_)); try with_reducible refine Z.Stop.mk ?_)
  refine w_forL (fun k ρ S' => ∃ (x3 x4 x5 x6 x7 : Option D), ρ = [some (.ref n), some (nmD ns), some (hsD h), x3, x4, x5, x6, x7] ∧ Bk n S S') ⟨_, _, _, _, _, rfl, bk1.trans bk2⟩ (fun _ _ _ _ => True.intro) ?_ ?_
  · rintro k d ρ S3 hk ⟨x3, x4, x5, x6, x7, rfl, bk3⟩
    ((repeat (first | mem_news | with_reducible refine Z.stop_for ?_)); try with_reducible refine Z.Stop.mk ?_)
    refine w_of (el S3) ?_
    ((repeat (first | mem_news | with_reducible refine Z.stop_for ?_)); try with_reducible refine Z.Stop.mk ?_)
    refine w_sight bk3.1 hn (by omega) (by omega) (by omega) fun a S4 ha bk4 => ?_
    ((repeat (first | mem_news | with_reducible refine Z.stop_for ?_)); try with_reducible refine Z.Stop.mk ?_)
    refine w_of (el S4) ?_
    ((repeat (first | mem_news | with_reducible refine Z.stop_for ?_)); try with_reducible refine Z.Stop.mk ?_)
    refine w_sight bk4.1 hn (by omega) (by omega) (by omega) fun b S5 hb bk5 => ?_
    ((repeat (first | mem_news | with_reducible refine Z.stop_for ?_)); try with_reducible refine Z.Stop.mk ?_)
    refine w_of (LC.f_turned_n (d := 4) (by omega) ha.1) ?_
    ((repeat (first | mem_news | with_reducible refine Z.stop_for ?_)); try with_reducible refine Z.Stop.mk ?_)
    refine w_of (LC.f_turned_n (d := 4) (by omega) hb.1) ?_
    ((repeat (first | mem_news | with_reducible refine Z.stop_for ?_)); try with_reducible refine Z.Stop.mk ?_)
    have bkA := bk3.trans (bk4.trans bk5)
    have ha4 := ha.turn (t := 4) (by omega)
    have hb4 := hb.turn (t := 4) (by omega)
    refine w_forL (fun k ρ S' => ∃ (x6 x7 : Option D), ρ = [some (.ref n), some (nmD ns), some (hsD h), some d, some (sgD a), some (sgD b), x6, x7] ∧ Bk n S S') ⟨_, _, rfl, bkA⟩ (fun _ _ _ _ => True.intro) ?_ ?_
    · rintro k' e ρ S6 hk' ⟨x6', x7', rfl, bk6⟩
      have hk' : (([(a, b), (a, a.turn 4), (b.turn 4, b)] : List Pr).map prD)[k']? = some e := hk'
      rw [List.getElem?_map] at hk'
      obtain ⟨p, hp, rfl⟩ := Option.map_eq_some_iff.mp hk'
      have hp := List.mem_of_getElem? hp
      have hpp : SgN ns h.length p.1 ∧ SgN ns h.length p.2 := by
        simp only [List.mem_cons, List.not_mem_nil, or_false] at hp
        rcases hp with rfl | rfl | rfl
        · exact ⟨ha, hb⟩
        · exact ⟨ha, ha4⟩
        · exact ⟨hb4, hb⟩
      unfold prD
      ((repeat (first | mem_news | with_reducible refine Z.stop_for ?_)); try with_reducible refine Z.Stop.mk ?_)
      refine w_imp (f_pair_right_n wf hc (by omega) hpp.1.1 hpp.2.1 (hpp.1.cl hn) (hpp.2.cl hn)) ?_
      rintro d S7 ⟨fr, rfl⟩
      ((repeat (first | mem_news | with_reducible refine Z.stop_for ?_)); try with_reducible refine Z.Stop.mk ?_)
      exact ⟨_, _, rfl, bk6.trans (Bk.fr bk6.1 fr)⟩
    · rintro ρ S6 ⟨x6', x7', rfl, bk6⟩
      ((repeat (first | mem_news | with_reducible refine Z.stop_for ?_)); try with_reducible refine Z.Stop.mk ?_)
      refine w_imp (w_alike wf (by omega) ha.1 hb.1) ?_
      rintro d S7 ⟨fr7, q, rfl, hq⟩
      have bk7 := bk6.trans (Bk.fr bk6.1 fr7)
      ((repeat (first | mem_news | with_reducible refine Z.stop_for ?_)); try with_reducible refine Z.Stop.mk ?_)
      refine ⟨fun e => ?_, fun e => ?_⟩
      · have F := fit_flip wf hb.1 (hq.mp e)
        ((repeat (first | mem_news | with_reducible refine Z.stop_for ?_)); try with_reducible refine Z.Stop.mk ?_)
        refine w_of (LC.f_turned_n (d := 4) (by omega) hb.1) ?_
        ((repeat (first | mem_news | with_reducible refine Z.stop_for ?_)); try with_reducible refine Z.Stop.mk ?_)
        refine w_imp (f_fits_n wf hc (by omega) ha.1 hb4.1 (ha.cl hn) (hb4.cl hn)) ?_
        rintro d S8 ⟨fr8, q2, rfl, hq2⟩
        have := hq2.mpr F
        subst this
        ((repeat (first | mem_news | with_reducible refine Z.stop_for ?_)); try with_reducible refine Z.Stop.mk ?_)
        exact ⟨_, _, _, _, _, rfl, bk7.trans (Bk.fr bk7.1 fr8)⟩
      · ((repeat (first | mem_news | with_reducible refine Z.stop_for ?_)); try with_reducible refine Z.Stop.mk ?_)
        exact ⟨_, _, _, _, _, rfl, bk7⟩
  · rintro ρ S3 ⟨x3, x4, x5, x6, x7, rfl, bk3⟩
    ((repeat (first | mem_news | with_reducible refine Z.stop_for ?_)); try with_reducible refine Z.Stop.mk ?_)
    exact ⟨rfl, bk3⟩
end
end L93
set_option Elab.async false
set_option linter.all false
set_option maxRecDepth 100000
set_option maxHeartbeats 2000000

/-! LE4: the law k93. -/
namespace L93
open Z Pg LB
open PySem (Str sizeLine)
theorem f_law_n {ns : List Int} (hl : ns.length ≤ 63) : ∃ S', f_law_93 [.wl (ns.map D.int)] [] = .val (.bl true) S' := by
  have main : W (f_law_93 [.wl (ns.map D.int)] []) fun d S' => d = .bl true := by
    unfold f_law_93 b_law_93
    ((repeat (first | mem_news | with_reducible refine Z.stop_for ?_)); try with_reducible refine Z.Stop.mk ?_)
    refine w_imp (f_cells_n (m := 2) hl (by omega) (by omega)) ?_
    rintro d S1 ⟨k, ds, rfl, hk, h1, h2⟩
    ((repeat (first | mem_news | with_reducible refine Z.stop_for ?_)); try with_reducible refine Z.Stop.mk ?_)
    refine w_len_rm hk ?_
    ((repeat (first | mem_news | with_reducible refine Z.stop_for ?_)); try with_reducible refine Z.Stop.mk ?_)
    refine w_forL (fun i ρ S' => ∃ (x2 x3 : Option D), ρ = [some (.wl (ns.map D.int)), some (.ref k), x2, x3] ∧ S'[k]? = some (.lst (ds.map D.int))) ⟨_, _, rfl, hk⟩ (fun _ _ _ _ => True.intro) ?_ ?_
    · rintro i d ρ S2 hi ⟨x2, x3, rfl, hS⟩
      obtain ⟨j, hj, rfl⟩ := rangeD_mem (List.mem_of_getElem? hi)
      have hj : j < ds.length := by rw [Int.toNat_natCast] at hj; exact hj
      ((repeat (first | mem_news | with_reducible refine Z.stop_for ?_)); try with_reducible refine Z.Stop.mk ?_)
      refine w_imp (f_box_n (x := ds[j]) hS (List.getElem?_eq_getElem hj) (by omega)) ?_
      rintro d S3 ⟨e, rfl, rfl, hb⟩
      ((repeat (first | mem_news | with_reducible refine Z.stop_for ?_)); try with_reducible refine Z.Stop.mk ?_)
      refine w_imp (f_right_n hb) ?_
      rintro d S4 ⟨rfl, bk⟩
      ((repeat (first | mem_news | with_reducible refine Z.stop_for ?_)); try with_reducible refine Z.Stop.mk ?_)
      refine ⟨_, _, rfl, ?_⟩
      have hk := (List.getElem?_eq_some_iff.mp hS).1
      rw [bk.2.2 k (by simp; omega) (by omega), List.getElem?_append_left hk]
      exact hS
    · rintro ρ S2 ⟨x2, x3, rfl, hS⟩
      ((repeat (first | mem_news | with_reducible refine Z.stop_for ?_)); try with_reducible refine Z.Stop.mk ?_)
      rfl
  obtain ⟨d, S', e, rfl⟩ := w_to main
  exact ⟨S', e⟩
end L93
set_option Elab.async false
set_option linter.all false
set_option maxRecDepth 100000
set_option maxHeartbeats 4000000

/-! the walk of k93: printed by a program -/
namespace L93
open PySem PySem.Spec PyProof.Rows L2 Z Pg
def top (i : Nat) : Stmt := PySem.Challenge.pw_wellpanes_k93_whole_edges_as_pictures.main.body.getD i (.Pass ⟨0, 0, 0, 0⟩)
def d__law_box : He.DefD := ⟨("_law_box", none), "_law_box", "_law_box", defArgs (top 44), defBody (top 44), defScope (top 44), [], []⟩
theorem sc__law_box : FnScope ["cells", "k", "cell"] ["cells", "k"] (defScope (top 44)) := C8.fnScope_by (by decide +kernel)
def d__law_cells : He.DefD := ⟨("_law_cells", none), "_law_cells", "_law_cells", defArgs (top 46), defBody (top 46), defScope (top 46), [], []⟩
theorem sc__law_cells : FnScope ["script", "utmost", "cells", "k", "cell"] ["script", "utmost"] (defScope (top 46)) := C8.fnScope_by (by decide +kernel)
def d__law_seen : He.DefD := ⟨("_law_seen", none), "_law_seen", "_law_seen", defArgs (top 48), defBody (top 48), defScope (top 48), [], []⟩
theorem sc__law_seen : FnScope ["turn", "q", "some", "flips"] ["turn", "q"] (defScope (top 48)) := C8.fnScope_by (by decide +kernel)
def d__law_take : He.DefD := ⟨("_law_take", none), "_law_take", "_law_take", defArgs (top 45), defBody (top 45), defScope (top 45), [], []⟩
theorem sc__law_take : FnScope ["box", "many", "stirred", "found"] ["box", "many"] (defScope (top 45)) := C8.fnScope_by (by decide +kernel)
def d__law_sight : He.DefD := ⟨("_law_sight", none), "_law_sight", "_law_sight", defArgs (top 52), defBody (top 52), defScope (top 52), [], []⟩
theorem sc__law_sight : FnScope ["box", "names", "many"] ["box", "names", "many"] (defScope (top 52)) := C8.fnScope_by (by decide +kernel)
def d__law_then : He.DefD := ⟨("_law_then", none), "_law_then", "_law_then", defArgs (top 49), defBody (top 49), defScope (top 49), [], []⟩
theorem sc__law_then : FnScope ["one", "other", "swing"] ["one", "other"] (defScope (top 49)) := C8.fnScope_by (by decide +kernel)
def d__law_turned : He.DefD := ⟨("_law_turned", none), "_law_turned", "_law_turned", defArgs (top 50), defBody (top 50), defScope (top 50), [], []⟩
theorem sc__law_turned : FnScope ["sight", "turn"] ["sight", "turn"] (defScope (top 50)) := C8.fnScope_by (by decide +kernel)
def d__law_house : He.DefD := ⟨("_law_house", none), "_law_house", "_law_house", defArgs (top 53), defBody (top 53), defScope (top 53), [], []⟩
theorem sc__law_house : FnScope ["box", "names", "most", "pane", "many", "found", "way", "sight", "turn", "number", "q"] ["box", "names", "most"] (defScope (top 53)) := C8.fnScope_by (by decide +kernel)
def d__law_names : He.DefD := ⟨("_law_names", none), "_law_names", "_law_names", defArgs (top 47), defBody (top 47), defScope (top 47), [], []⟩
theorem sc__law_names : FnScope ["box", "many", "stem", "letters", "start", "k", "turn"] ["box", "many"] (defScope (top 47)) := C8.fnScope_by (by decide +kernel)
def d__law_quarter : He.DefD := ⟨("_law_quarter", none), "_law_quarter", "_law_quarter", defArgs (top 51), defBody (top 51), defScope (top 51), [], []⟩
theorem sc__law_quarter : FnScope ["rooms", "sight", "q"] ["rooms", "sight", "q"] (defScope (top 51)) := C8.fnScope_by (by decide +kernel)
def d__law_edge_house : He.DefD := ⟨("_law_edge_house", none), "_law_edge_house", "_law_edge_house", defArgs (top 54), defBody (top 54), defScope (top 54), [], []⟩
theorem sc__law_edge_house : FnScope ["rooms", "sights", "made", "both", "ends", "line", "at", "news", "one", "sight", "side", "upper", "lower", "q", "k"] ["rooms", "sights"] (defScope (top 54)) := C8.fnScope_by (by decide +kernel)
def d_Marks_many : He.DefD := ⟨("Marks", some "many"), "many", "Marks.many", defArgs (inClass (top 32) 2), defBody (inClass (top 32) 2), defScope (inClass (top 32) 2), [], []⟩
theorem sc_Marks_many : FnScope ["self", "look"] ["self"] (defScope (inClass (top 32) 2)) := C8.fnScope_by (by decide +kernel)
def d_Marks_mark : He.DefD := ⟨("Marks", some "mark"), "mark", "Marks.mark", defArgs (inClass (top 32) 1), defBody (inClass (top 32) 1), defScope (inClass (top 32) 1), [], []⟩
theorem sc_Marks_mark : FnScope ["self", "sight", "whole"] ["self", "sight"] (defScope (inClass (top 32) 1)) := C8.fnScope_by (by decide +kernel)
def d_Marks_parted_once : He.DefD := ⟨("Marks", some "parted_once"), "parted_once", "Marks.parted_once", defArgs (inClass (top 32) 3), defBody (inClass (top 32) 3), defScope (inClass (top 32) 3), [], []⟩
theorem sc_Marks_parted_once : FnScope ["self", "look", "numbers", "found", "signs", "sight"] ["self"] (defScope (inClass (top 32) 3)) := C8.fnScope_by (by decide +kernel)
def d_Marks_part_on : He.DefD := ⟨("Marks", some "part_on"), "part_on", "Marks.part_on", defArgs (inClass (top 32) 4), defBody (inClass (top 32) 4), defScope (inClass (top 32) 4), [], []⟩
theorem sc_Marks_part_on : FnScope ["self", "ahead"] ["self"] (defScope (inClass (top 32) 4)) := C8.fnScope_by (by decide +kernel)
def d_shown : He.DefD := ⟨("shown", none), "shown", "shown", defArgs (top 8), defBody (top 8), defScope (top 8), [], []⟩
theorem sc_shown : FnScope ["turn", "quarter"] ["turn", "quarter"] (defScope (top 8)) := C8.fnScope_by (by decide +kernel)
def d_behind : He.DefD := ⟨("behind", none), "behind", "behind", defArgs (top 9), defBody (top 9), defScope (top 9), [], []⟩
theorem sc_behind : FnScope ["one", "other", "steps"] ["one", "other"] (defScope (top 9)) := C8.fnScope_by (by decide +kernel)
def d_turned : He.DefD := ⟨("turned", none), "turned", "turned", defArgs (top 15), defBody (top 15), defScope (top 15), [], []⟩
theorem sc_turned : FnScope ["sight", "turn", "pane", "own"] ["sight", "turn"] (defScope (top 15)) := C8.fnScope_by (by decide +kernel)
def d_quarter_of : He.DefD := ⟨("quarter_of", none), "quarter_of", "quarter_of", defArgs (top 16), defBody (top 16), defScope (top 16), [], []⟩
theorem sc_quarter_of : FnScope ["house", "sight", "quarter", "pane", "turn"] ["house", "sight", "quarter"] (defScope (top 16)) := C8.fnScope_by (by decide +kernel)
def d_quarters_of : He.DefD := ⟨("quarters_of", none), "quarters_of", "quarters_of", defArgs (top 17), defBody (top 17), defScope (top 17), [], []⟩
theorem sc_quarters_of : FnScope ["house", "sight", "quarter"] ["house", "sight"] (defScope (top 17)) := C8.fnScope_by (by decide +kernel)
def d_one_of : He.DefD := ⟨("one_of", none), "one_of", "one_of", defArgs (top 30), defBody (top 30), defScope (top 30), [], []⟩
theorem sc_one_of : FnScope ["values", "value"] ["values"] (defScope (top 30)) := C8.fnScope_by (by decide +kernel)
def d_wholes_of : He.DefD := ⟨("wholes_of", none), "wholes_of", "wholes_of", defArgs (top 31), defBody (top 31), defScope (top 31), [], []⟩
theorem sc_wholes_of : FnScope ["house", "found", "turn", "pane", "one"] ["house"] (defScope (top 31)) := C8.fnScope_by (by decide +kernel)
def d_Marks_init : He.DefD := ⟨("Marks", some "__init__"), "__init__", "Marks.__init__", defArgs (inClass (top 32) 0), defBody (inClass (top 32) 0), defScope (inClass (top 32) 0), [], []⟩
theorem sc_Marks_init : FnScope ["self", "house", "turn", "look", "pane", "whole"] ["self", "house"] (defScope (inClass (top 32) 0)) := C8.fnScope_by (by decide +kernel)
def d_alike : He.DefD := ⟨("alike", none), "alike", "alike", defArgs (top 34), defBody (top 34), defScope (top 34), [], []⟩
theorem sc_alike : FnScope ["house", "one", "other", "marks"] ["house", "one", "other"] (defScope (top 34)) := C8.fnScope_by (by decide +kernel)
def d_half_pair : He.DefD := ⟨("half_pair", none), "half_pair", "half_pair", defArgs (top 21), defBody (top 21), defScope (top 21), [], []⟩
theorem sc_half_pair : FnScope ["house", "pair", "half", "one", "other"] ["house", "pair", "half"] (defScope (top 21)) := C8.fnScope_by (by decide +kernel)
def d_halves_of : He.DefD := ⟨("halves_of", none), "halves_of", "halves_of", defArgs (top 22), defBody (top 22), defScope (top 22), [], []⟩
theorem sc_halves_of : FnScope ["house", "pair", "half"] ["house", "pair"] (defScope (top 22)) := C8.fnScope_by (by decide +kernel)
def d_is_lone : He.DefD := ⟨("is_lone", none), "is_lone", "is_lone", defArgs (top 24), defBody (top 24), defScope (top 24), [], []⟩
theorem sc_is_lone : FnScope ["pair"] ["pair"] (defScope (top 24)) := C8.fnScope_by (by decide +kernel)
def d_Edge_count : He.DefD := ⟨("Edge", some "count"), "count", "Edge.count", defArgs (inClass (top 25) 2), defBody (inClass (top 25) 2), defScope (inClass (top 25) 2), [], []⟩
theorem sc_Edge_count : FnScope ["self", "left", "many", "pair", "some", "later"] ["self"] (defScope (inClass (top 25) 2)) := C8.fnScope_by (by decide +kernel)
def d_Edge_walk : He.DefD := ⟨("Edge", some "walk"), "walk", "Edge.walk", defArgs (inClass (top 25) 1), defBody (inClass (top 25) 1), defScope (inClass (top 25) 1), [], []⟩
theorem sc_Edge_walk : FnScope ["self", "at", "pair", "half", "later"] ["self"] (defScope (inClass (top 25) 1)) := C8.fnScope_by (by decide +kernel)
def d_Edge_init : He.DefD := ⟨("Edge", some "__init__"), "__init__", "Edge.__init__", defArgs (inClass (top 25) 0), defBody (inClass (top 25) 0), defScope (inClass (top 25) 0), [], []⟩
theorem sc_Edge_init : FnScope ["self", "house", "one", "other"] ["self", "house", "one", "other"] (defScope (inClass (top 25) 0)) := C8.fnScope_by (by decide +kernel)
def d_is_ended : He.DefD := ⟨("is_ended", none), "is_ended", "is_ended", defArgs (top 23), defBody (top 23), defScope (top 23), [], []⟩
theorem sc_is_ended : FnScope ["pair"] ["pair"] (defScope (top 23)) := C8.fnScope_by (by decide +kernel)
def d_Edge_unlike : He.DefD := ⟨("Edge", some "unlike"), "unlike", "Edge.unlike", defArgs (inClass (top 25) 3), defBody (inClass (top 25) 3), defScope (inClass (top 25) 3), [], []⟩
theorem sc_Edge_unlike : FnScope ["self", "some", "pair"] ["self"] (defScope (inClass (top 25) 3)) := C8.fnScope_by (by decide +kernel)
def d_fit_paper : He.DefD := ⟨("fit_paper", none), "fit_paper", "fit_paper", defArgs (top 28), defBody (top 28), defScope (top 28), [], []⟩
theorem sc_fit_paper : FnScope ["house", "one", "other", "edge", "first", "second"] ["house", "one", "other"] (defScope (top 28)) := C8.fnScope_by (by decide +kernel)
def d_Edge_endless : He.DefD := ⟨("Edge", some "endless"), "endless", "Edge.endless", defArgs (inClass (top 25) 4), defBody (inClass (top 25) 4), defScope (inClass (top 25) 4), [], []⟩
theorem sc_Edge_endless : FnScope ["self", "some", "at", "pair", "seen", "halves", "both", "ways", "half", "later"] ["self"] (defScope (inClass (top 25) 4)) := C8.fnScope_by (by decide +kernel)
def d_misfit : He.DefD := ⟨("misfit", none), "misfit", "misfit", defArgs (top 26), defBody (top 26), defScope (top 26), [], []⟩
theorem sc_misfit : FnScope ["house", "one", "other", "edge", "pair"] ["house", "one", "other"] (defScope (top 26)) := C8.fnScope_by (by decide +kernel)
def d_fits : He.DefD := ⟨("fits", none), "fits", "fits", defArgs (top 27), defBody (top 27), defScope (top 27), [], []⟩
theorem sc_fits : FnScope ["house", "one", "other"] ["house", "one", "other"] (defScope (top 27)) := C8.fnScope_by (by decide +kernel)
def d_is_kept : He.DefD := ⟨("is_kept", none), "is_kept", "is_kept", defArgs (top 39), defBody (top 39), defScope (top 39), [], []⟩
theorem sc_is_kept : FnScope ["house", "pair", "numbers", "later", "half", "number"] ["house", "pair", "numbers"] (defScope (top 39)) := C8.fnScope_by (by decide +kernel)
def d_is_number : He.DefD := ⟨("is_number", none), "is_number", "is_number", defArgs (top 5), defBody (top 5), defScope (top 5), [], []⟩
theorem sc_is_number : FnScope ["thing"] ["thing"] (defScope (top 5)) := C8.fnScope_by (by decide +kernel)
def d_is_colour : He.DefD := ⟨("is_colour", none), "is_colour", "is_colour", defArgs (top 11), defBody (top 11), defScope (top 11), [], []⟩
theorem sc_is_colour : FnScope ["thing", "letter"] ["thing"] (defScope (top 11)) := C8.fnScope_by (by decide +kernel)
def d_is_below : He.DefD := ⟨("is_below", none), "is_below", "is_below", defArgs (top 6), defBody (top 6), defScope (top 6), [], []⟩
theorem sc_is_below : FnScope ["thing", "many"] ["thing", "many"] (defScope (top 6)) := C8.fnScope_by (by decide +kernel)
def d_is_turn : He.DefD := ⟨("is_turn", none), "is_turn", "is_turn", defArgs (top 7), defBody (top 7), defScope (top 7), [], []⟩
theorem sc_is_turn : FnScope ["thing"] ["thing"] (defScope (top 7)) := C8.fnScope_by (by decide +kernel)
def d_is_look : He.DefD := ⟨("is_look", none), "is_look", "is_look", defArgs (top 12), defBody (top 12), defScope (top 12), [], []⟩
theorem sc_is_look : FnScope ["thing"] ["thing"] (defScope (top 12)) := C8.fnScope_by (by decide +kernel)
def d_is_sight_of : He.DefD := ⟨("is_sight_of", none), "is_sight_of", "is_sight_of", defArgs (top 13), defBody (top 13), defScope (top 13), [], []⟩
theorem sc_is_sight_of : FnScope ["many", "thing"] ["many", "thing"] (defScope (top 13)) := C8.fnScope_by (by decide +kernel)
def d_is_sight : He.DefD := ⟨("is_sight", none), "is_sight", "is_sight", defArgs (top 14), defBody (top 14), defScope (top 14), [], []⟩
theorem sc_is_sight : FnScope ["house", "thing"] ["house", "thing"] (defScope (top 14)) := C8.fnScope_by (by decide +kernel)
def d_is_triple : He.DefD := ⟨("is_triple", none), "is_triple", "is_triple", defArgs (top 38), defBody (top 38), defScope (top 38), [], []⟩
theorem sc_is_triple : FnScope ["house", "thing"] ["house", "thing"] (defScope (top 38)) := C8.fnScope_by (by decide +kernel)
def d_shows_fit : He.DefD := ⟨("shows_fit", none), "shows_fit", "shows_fit", defArgs (top 40), defBody (top 40), defScope (top 40), [], []⟩
theorem sc_shows_fit : FnScope ["house", "one", "other", "thing", "numbers", "row", "pair"] ["house", "one", "other", "thing"] (defScope (top 40)) := C8.fnScope_by (by decide +kernel)
def d_sight_at : He.DefD := ⟨("sight_at", none), "sight_at", "sight_at", defArgs (top 18), defBody (top 18), defScope (top 18), [], []⟩
theorem sc_sight_at : FnScope ["house", "sight", "row", "quarter"] ["house", "sight", "row"] (defScope (top 18)) := C8.fnScope_by (by decide +kernel)
def d_colour_at : He.DefD := ⟨("colour_at", none), "colour_at", "colour_at", defArgs (top 36), defBody (top 36), defScope (top 36), [], []⟩
theorem sc_colour_at : FnScope ["house", "sight", "spot", "row", "again", "here", "met"] ["house", "sight", "spot"] (defScope (top 36)) := C8.fnScope_by (by decide +kernel)
def d_is_halves : He.DefD := ⟨("is_halves", none), "is_halves", "is_halves", defArgs (top 41), defBody (top 41), defScope (top 41), [], []⟩
theorem sc_is_halves : FnScope ["thing", "least", "half"] ["thing", "least"] (defScope (top 41)) := C8.fnScope_by (by decide +kernel)
def d_shows_misfit : He.DefD := ⟨("shows_misfit", none), "shows_misfit", "shows_misfit", defArgs (top 42), defBody (top 42), defScope (top 42), [], []⟩
theorem sc_shows_misfit : FnScope ["house", "one", "other", "thing", "right", "left", "halves", "half"] ["house", "one", "other", "thing"] (defScope (top 42)) := C8.fnScope_by (by decide +kernel)
def d__law_pair_right : He.DefD := ⟨("_law_pair_right", none), "_law_pair_right", "_law_pair_right", defArgs (top 55), defBody (top 55), defScope (top 55), [], []⟩
theorem sc__law_pair_right : FnScope ["rooms", "one", "other", "edges", "ends", "due", "told", "row"] ["rooms", "one", "other"] (defScope (top 55)) := C8.fnScope_by (by decide +kernel)
def d__law_right : He.DefD := ⟨("_law_right", none), "_law_right", "_law_right", defArgs (top 56), defBody (top 56), defScope (top 56), [], []⟩
theorem sc__law_right : FnScope ["box", "names", "rooms", "turn", "one", "other", "first", "second"] ["box"] (defScope (top 56)) := C8.fnScope_by (by decide +kernel)
def d_law : He.DefD := ⟨("law", none), "law", "law", defArgs (top 57), defBody (top 57), defScope (top 57), [], []⟩
theorem sc_law : FnScope ["script", "cells", "k", "box"] ["script"] (defScope (top 57)) := C8.fnScope_by (by decide +kernel)
section
variable {P : Program} {w : World} {K : PySem.W.Frag} {mg : Str → Option Value} {base : Heap} {f : Addr} {fd : FuncData}
theorem bi__law_box (Fu : FunD K d__law_box.name d__law_box.qual d__law_box.params d__law_box.body d__law_box.scope [] [] f fd) : Binds K fd ["cells", "k"] [] := Fu.bindsN fun _ _ _ _ _ _ us hl => match us, hl with | [_, _], _ => rfl
theorem ok__law_box (Fu : FunD K d__law_box.name d__law_box.qual d__law_box.params d__law_box.body d__law_box.scope [] [] f fd) (m_abs : mg "abs" = none) (m_int : mg "int" = none) : FnOk P w K mg base CX0 1 f fd ["cells", "k"] (spZ K w 2 f__law_box) :=
  okF (k := 0) (g := b__law_box) Fu sc__law_box rfl rfl (fun cdv A outer s H E E' hr =>
    have hu := hr.units
    have hu2 := u65 hr
    have hN := sc__law_box.nd
    (zss_cons (zs_set (i := 2) hN rfl (by first | exact Or.inl rfl | exact Or.inr rfl) (ze_ix hu (ze_var (pv 0)) (ze_var (pv 1))))
    (zss_one (zs_ret (ze_cel (za_cons (ze_op op_mulZ os_mul (ze_blt cr_abs bs_abs m_abs boot_abs (za_cons (ze_var (pv 2)) za_nil)) (ze_bty cr_int bs_int m_int boot_int (za_cons (ze_cmp op_ge os_ge (ze_blt cr_abs bs_abs m_abs boot_abs (za_cons (ze_var (pv 2)) za_nil)) (ze_op op_pow os_pow ze_int ze_int) (nomark _)) za_nil))) (za_cons (ze_op op_addZ os_add (ze_op op_addZ os_add (ze_op op_mod os_mod (ze_var (pv 2)) ze_int) (ze_op op_mulZ os_mul ze_int (ze_var (pv 1)))) ze_int) (za_cons ze_int za_nil))) (len_cons (len_cons (len_cons len_nil))))))))
theorem bi__law_cells (Fu : FunD K d__law_cells.name d__law_cells.qual d__law_cells.params d__law_cells.body d__law_cells.scope [] [] f fd) : Binds K fd ["script", "utmost"] [] := Fu.bindsN fun _ _ _ _ _ _ us hl => match us, hl with | [_, _], _ => rfl
theorem ok__law_cells (Fu : FunD K d__law_cells.name d__law_cells.qual d__law_cells.params d__law_cells.body d__law_cells.scope [] [] f fd) (m_enumerate : mg "enumerate" = none) (m_list : mg "list" = none) : FnOk P w K mg base CX0 1 f fd ["script", "utmost"] (spZ K w 2 f__law_cells) :=
  okF (k := 0) (g := b__law_cells) Fu sc__law_cells rfl rfl (fun cdv A outer s H E E' hr =>
    have hu := hr.units
    have hu2 := u65 hr
    have hN := sc__law_cells.nd
    (zss_cons (zs_set (i := 2) hN rfl (by first | exact Or.inl rfl | exact Or.inr rfl) (ze_orT (ze_bty cr_list bs_listC m_list boot_list (za_cons (ze_sl (ze_var (pv 0)) zo_none (zo_some (ze_var (pv 1)))) za_nil)) (ze_one (ze_cel (za_cons ze_int za_nil) (len_cons len_nil)))))
    (zss_cons (zs_for PassesOwn.never rfl (zi_enum (by rfl) m_enumerate (za_cons (ze_sl (ze_var (pv 0)) (zo_some (ze_var (pv 1))) (zo_some ze_int)) za_nil)) (zg_tup rfl (zgs_cons (zg_name (i := 3) (pg_name hN rfl (by first | exact Or.inl rfl | exact Or.inr rfl))) (zgs_cons (zg_name (i := 4) (pg_name hN rfl (by first | exact Or.inl rfl | exact Or.inr rfl))) zgs_nil))) (zss_one (zs_asg (ze_op op_addZ os_add (ze_ix hu (ze_var (pv 2)) (ze_op op_mod os_mod (ze_var (pv 3)) (ze_var (pv 1)))) (ze_op op_mulZ os_mul (ze_var (pv 4)) (ze_op op_addZ os_add (ze_var (pv 3)) ze_int))) (zg_sub hu (ze_var (pv 2)) (ze_op op_mod os_mod (ze_var (pv 3)) (ze_var (pv 1)))))))
    (zss_one (zs_ret (ze_var (pv 2)))))))
theorem bi__law_seen (Fu : FunD K d__law_seen.name d__law_seen.qual d__law_seen.params d__law_seen.body d__law_seen.scope [] [] f fd) : Binds K fd ["turn", "q"] [] := Fu.bindsN fun _ _ _ _ _ _ us hl => match us, hl with | [_, _], _ => rfl
theorem ok__law_seen (Fu : FunD K d__law_seen.name d__law_seen.qual d__law_seen.params d__law_seen.body d__law_seen.scope [] [] f fd)  : FnOk P w K mg base CX0 1 f fd ["turn", "q"] (spZ K w 2 f__law_seen_93) :=
  okF (k := 0) (g := b__law_seen_93) Fu sc__law_seen rfl rfl (fun cdv A outer s H E E' hr =>
    have hu := hr.units
    have hu2 := u65 hr
    have hN := sc__law_seen.nd
    (zss_cons (zs_set (i := 2) hN rfl (by first | exact Or.inl rfl | exact Or.inr rfl) (ze_tup (za_cons (ze_tup (za_cons ze_int (za_cons ze_int (za_cons ze_int (za_cons ze_int za_nil)))) (len_cons (len_cons (len_cons (len_cons len_nil))))) (za_cons (ze_tup (za_cons ze_int (za_cons ze_int (za_cons ze_int (za_cons ze_int za_nil)))) (len_cons (len_cons (len_cons (len_cons len_nil))))) (za_cons (ze_tup (za_cons ze_int (za_cons ze_int (za_cons ze_int (za_cons ze_int za_nil)))) (len_cons (len_cons (len_cons (len_cons len_nil))))) (za_cons (ze_tup (za_cons ze_int (za_cons ze_int (za_cons ze_int (za_cons ze_int za_nil)))) (len_cons (len_cons (len_cons (len_cons len_nil))))) za_nil)))) (len_cons (len_cons (len_cons (len_cons len_nil))))))
    (zss_cons (zs_set (i := 3) hN rfl (by first | exact Or.inl rfl | exact Or.inr rfl) (ze_tup (za_cons (ze_tup (za_cons ze_int (za_cons ze_int (za_cons ze_int (za_cons ze_int za_nil)))) (len_cons (len_cons (len_cons (len_cons len_nil))))) (za_cons (ze_tup (za_cons ze_int (za_cons ze_int (za_cons ze_int (za_cons ze_int za_nil)))) (len_cons (len_cons (len_cons (len_cons len_nil))))) (za_cons (ze_tup (za_cons ze_int (za_cons ze_int (za_cons ze_int (za_cons ze_int za_nil)))) (len_cons (len_cons (len_cons (len_cons len_nil))))) (za_cons (ze_tup (za_cons ze_int (za_cons ze_int (za_cons ze_int (za_cons ze_int za_nil)))) (len_cons (len_cons (len_cons (len_cons len_nil))))) za_nil)))) (len_cons (len_cons (len_cons (len_cons len_nil))))))
    (zss_one (zs_ret (ze_ix hu (ze_ix hu (ze_op op_addZ os_add (ze_var (pv 2)) (ze_var (pv 3))) (ze_var (pv 0))) (ze_var (pv 1))))))))
theorem bi__law_take (Fu : FunD K d__law_take.name d__law_take.qual d__law_take.params d__law_take.body d__law_take.scope [] [] f fd) : Binds K fd ["box", "many"] [] := Fu.bindsN fun _ _ _ _ _ _ us hl => match us, hl with | [_, _], _ => rfl
theorem ok__law_take (Fu : FunD K d__law_take.name d__law_take.qual d__law_take.params d__law_take.body d__law_take.scope [] [] f fd)  : FnOk P w K mg base CX0 1 f fd ["box", "many"] (spZ K w 2 f__law_take) :=
  okF (k := 0) (g := b__law_take) Fu sc__law_take rfl rfl (fun cdv A outer s H E E' hr =>
    have hu := hr.units
    have hu2 := u65 hr
    have hN := sc__law_take.nd
    (zss_cons (zs_if (zt_cmp op_gt os_gt (ze_ix hu (ze_var (pv 0)) ze_int) ze_int (nomark _)) (zss_cons (zs_set (i := 3) hN rfl (by first | exact Or.inl rfl | exact Or.inr rfl) (ze_op op_mod os_mod (ze_ix hu (ze_var (pv 0)) ze_int) (ze_var (pv 1))))
    (zss_cons (zs_asg (ze_op op_fdivW os_div (ze_ix hu (ze_var (pv 0)) ze_int) (ze_var (pv 1))) (zg_sub hu (ze_var (pv 0)) ze_int))
    (zss_one (zs_ret (ze_var (pv 3)))))) zss_nil)
    (zss_cons (zs_asg (ze_op op_addZ os_add (ze_ix hu (ze_var (pv 0)) ze_int) ze_int) (zg_sub hu (ze_var (pv 0)) ze_int))
    (zss_cons (zs_set (i := 2) hN rfl (by first | exact Or.inl rfl | exact Or.inr rfl) (ze_op op_mod os_mod (ze_op op_addZ os_add (ze_ix hu (ze_var (pv 0)) ze_int) (ze_op op_mulZ os_mul ze_int (ze_ix hu (ze_var (pv 0)) ze_int))) ze_int))
    (zss_cons (zs_set (i := 2) hN rfl (by first | exact Or.inl rfl | exact Or.inr rfl) (ze_op op_mod os_mod (ze_op op_addZ os_add (ze_op op_addZ os_add (ze_op op_mulZ os_mul (ze_var (pv 2)) (ze_var (pv 2))) (ze_op op_mulZ os_mul ze_int (ze_ix hu (ze_var (pv 0)) ze_int))) ze_int) ze_int))
    (zss_cons (zs_set (i := 2) hN rfl (by first | exact Or.inl rfl | exact Or.inr rfl) (ze_op op_mod os_mod (ze_op op_addZ os_add (ze_op op_mulZ os_mul (ze_var (pv 2)) (ze_op op_addZ os_add (ze_op op_fdivW os_div (ze_var (pv 2)) ze_int) ze_int)) (ze_ix hu (ze_var (pv 0)) ze_int)) ze_int))
    (zss_one (zs_ret (ze_op op_mod os_mod (ze_op op_fdivW os_div (ze_var (pv 2)) ze_int) (ze_var (pv 1)))))))))))
theorem bi__law_sight (Fu : FunD K d__law_sight.name d__law_sight.qual d__law_sight.params d__law_sight.body d__law_sight.scope [] [] f fd) : Binds K fd ["box", "names", "many"] [] := Fu.bindsN fun _ _ _ _ _ _ us hl => match us, hl with | [_, _, _], _ => rfl
theorem ok__law_sight (Fu : FunD K d__law_sight.name d__law_sight.qual d__law_sight.params d__law_sight.body d__law_sight.scope [] [] f fd) (k__law_take : CalZ P w K mg base 1 "_law_take" 2 f__law_take) (m_len : mg "len" = none) : FnOk P w K mg base CX0 2 f fd ["box", "names", "many"] (spZ K w 3 f__law_sight) :=
  okF (k := 1) (g := b__law_sight) Fu sc__law_sight rfl rfl (fun cdv A outer s H E E' hr =>
    have hu := hr.units
    have hu2 := u65 hr
    have hN := sc__law_sight.nd
    (zss_cons (zs_if (zt_w (zw_or (zt_cmp (op_eqZ hu) os_eq (ze_var (pv 2)) ze_int (nomark _)) (zw_or1 (zt_cmp (op_eqZ hu) os_eq (ze_call k__law_take hr (by omega) (za_cons (ze_var (pv 0)) (za_cons ze_int za_nil)) (len_cons (len_cons len_nil))) ze_int (nomark _))))) (zss_one (zs_ret (ze_ix hu (ze_var (pv 1)) (ze_call k__law_take hr (by omega) (za_cons (ze_var (pv 0)) (za_cons (ze_blt cr_len bs_len m_len boot_len (za_cons (ze_var (pv 1)) za_nil)) za_nil)) (len_cons (len_cons len_nil)))))) zss_nil)
    (zss_one (zs_ret (ze_tup (za_cons (ze_call k__law_take hr (by omega) (za_cons (ze_var (pv 0)) (za_cons (ze_var (pv 2)) za_nil)) (len_cons (len_cons len_nil))) (za_cons (ze_call k__law_take hr (by omega) (za_cons (ze_var (pv 0)) (za_cons ze_int za_nil)) (len_cons (len_cons len_nil))) za_nil)) (len_cons (len_cons len_nil)))))))
theorem bi__law_then (Fu : FunD K d__law_then.name d__law_then.qual d__law_then.params d__law_then.body d__law_then.scope [] [] f fd) : Binds K fd ["one", "other"] [] := Fu.bindsN fun _ _ _ _ _ _ us hl => match us, hl with | [_, _], _ => rfl
theorem ok__law_then (Fu : FunD K d__law_then.name d__law_then.qual d__law_then.params d__law_then.body d__law_then.scope [] [] f fd)  : FnOk P w K mg base CX0 1 f fd ["one", "other"] (spZ K w 2 f__law_then_93) :=
  okF (k := 0) (g := b__law_then_93) Fu sc__law_then rfl rfl (fun cdv A outer s H E E' hr =>
    have hu := hr.units
    have hu2 := u65 hr
    have hN := sc__law_then.nd
    (zss_cons (zs_set (i := 2) hN rfl (by first | exact Or.inl rfl | exact Or.inr rfl) (ze_if (zt_cmp op_gt os_gt (ze_var (pv 1)) ze_int (nomark _)) (ze_op op_sub os_sub (ze_op op_mod os_mod (ze_var (pv 1)) ze_int) (ze_op op_mod os_mod (ze_var (pv 0)) ze_int)) (ze_op op_addZ os_add (ze_op op_mod os_mod (ze_var (pv 1)) ze_int) (ze_op op_mod os_mod (ze_var (pv 0)) ze_int))))
    (zss_one (zs_ret (ze_op op_addZ os_add (ze_op op_mulZ os_mul (ze_op op_mod os_mod (ze_op op_addZ os_add (ze_op op_fdivW os_div (ze_var (pv 0)) ze_int) (ze_op op_fdivW os_div (ze_var (pv 1)) ze_int)) ze_int) ze_int) (ze_op op_mod os_mod (ze_var (pv 2)) ze_int))))))
theorem bi__law_turned (Fu : FunD K d__law_turned.name d__law_turned.qual d__law_turned.params d__law_turned.body d__law_turned.scope [] [] f fd) : Binds K fd ["sight", "turn"] [] := Fu.bindsN fun _ _ _ _ _ _ us hl => match us, hl with | [_, _], _ => rfl
theorem ok__law_turned (Fu : FunD K d__law_turned.name d__law_turned.qual d__law_turned.params d__law_turned.body d__law_turned.scope [] [] f fd) (k__law_then : CalZ P w K mg base 1 "_law_then" 2 f__law_then_93) (m_isinstance : mg "isinstance" = none) (m_str : mg "str" = none) : FnOk P w K mg base CX0 2 f fd ["sight", "turn"] (spZ K w 2 f__law_turned_93) :=
  okF (k := 1) (g := b__law_turned_93) Fu sc__law_turned rfl rfl (fun cdv A outer s H E E' hr =>
    have hu := hr.units
    have hu2 := u65 hr
    have hN := sc__law_turned.nd
    (zss_one (zs_ret (ze_if (zt_val (ze_isi1 m_isinstance (ze_var (pv 0)) (pe_tyn m_str boot_str))) (ze_var (pv 0)) (ze_tup (za_cons (ze_ix hu (ze_var (pv 0)) ze_int) (za_cons (ze_call k__law_then hr (by omega) (za_cons (ze_ix hu (ze_var (pv 0)) ze_int) (za_cons (ze_var (pv 1)) za_nil)) (len_cons (len_cons len_nil))) za_nil)) (len_cons (len_cons len_nil)))))))
theorem bi__law_house (Fu : FunD K d__law_house.name d__law_house.qual d__law_house.params d__law_house.body d__law_house.scope [] [] f fd) : Binds K fd ["box", "names", "most"] [] := Fu.bindsN fun _ _ _ _ _ _ us hl => match us, hl with | [_, _, _], _ => rfl
theorem ok__law_house (Fu : FunD K d__law_house.name d__law_house.qual d__law_house.params d__law_house.body d__law_house.scope [] [] f fd) (k__law_seen : CalZ P w K mg base 1 "_law_seen" 2 f__law_seen_93) (k__law_sight : CalZ P w K mg base 2 "_law_sight" 3 f__law_sight) (k__law_take : CalZ P w K mg base 1 "_law_take" 2 f__law_take) (k__law_turned : CalZ P w K mg base 2 "_law_turned" 2 f__law_turned_93) (m_len : mg "len" = none) (m_range : mg "range" = none) (m_tuple : mg "tuple" = none) : FnOk P w K mg base CX0 3 f fd ["box", "names", "most"] (spZ K w 3 f__law_house_93) :=
  okF (k := 2) (g := b__law_house_93) Fu sc__law_house rfl rfl (fun cdv A outer s H E E' hr =>
    have hu := hr.units
    have hu2 := u65 hr
    have hN := sc__law_house.nd
    (zss_cons (zs_asg (ze_tup (za_cons (ze_op op_addZ os_add ze_int (ze_call k__law_take hr (by omega) (za_cons (ze_var (pv 0)) (za_cons (ze_var (pv 2)) za_nil)) (len_cons (len_cons len_nil)))) (za_cons (ze_cel za_nil len_nil) za_nil)) (len_cons (len_cons len_nil))) (zg_tup rfl (zgs_cons (zg_name (i := 4) (pg_name hN rfl (by first | exact Or.inl rfl | exact Or.inr rfl))) (zgs_cons (zg_name (i := 5) (pg_name hN rfl (by first | exact Or.inl rfl | exact Or.inr rfl))) zgs_nil))))
    (zss_cons (zs_for PassesOwn.never rfl (zi_rng1 (by rfl) m_range (za_cons (ze_var (pv 4)) za_nil)) (zg_name (i := 3) (pg_name hN rfl (by first | exact Or.inl rfl | exact Or.inr rfl))) (zss_cons (zs_asg (ze_tup (za_cons (ze_call k__law_take hr (by omega) (za_cons (ze_var (pv 0)) (za_cons ze_int za_nil)) (len_cons (len_cons len_nil))) (za_cons (ze_call k__law_sight hr (by omega) (za_cons (ze_var (pv 0)) (za_cons (ze_var (pv 1)) (za_cons (ze_var (pv 4)) za_nil))) (len_cons (len_cons (len_cons len_nil)))) za_nil)) (len_cons (len_cons len_nil))) (zg_tup rfl (zgs_cons (zg_name (i := 6) (pg_name hN rfl (by first | exact Or.inl rfl | exact Or.inr rfl))) (zgs_cons (zg_name (i := 7) (pg_name hN rfl (by first | exact Or.inl rfl | exact Or.inr rfl))) zgs_nil))))
    (zss_one (zs_if (zt_cmp (op_eqZ hu) os_eq (ze_var (pv 6)) ze_int (nomark _)) (zss_one (zs_drop (ze_append (ze_var (pv 5)) (za_cons (ze_bty cr_tuple bs_tuple m_tuple boot_tuple (za_cons (ze_lc fin_l rfl hN (zi_val (ze_tup (za_cons ze_int (za_cons ze_int (za_cons ze_int (za_cons ze_int za_nil)))) (len_cons (len_cons (len_cons (len_cons len_nil)))))) (blkOk_by (own := [("turn", 8)]) (by kernel_rfl)) (fun s H C cl fp => (zgw_name (i := 8) (pg_name hN rfl (by first | exact Or.inl rfl | exact Or.inr rfl)))) (fun s H C cl fp => zts_nil) (fun s H C cl fp => (ze_call k__law_turned hr (by omega) (za_cons (ze_var (pv 7)) (za_cons (ze_var (pv 8)) za_nil)) (len_cons (len_cons len_nil))))) za_nil)) za_nil)))) (zss_one (zs_if (zt_cmp (op_eqZ hu) os_eq (ze_var (pv 6)) ze_int (nomark _)) (zss_one (zs_drop (ze_append (ze_var (pv 5)) (za_cons (ze_bty cr_tuple bs_tuple m_tuple boot_tuple (za_cons (ze_lc fin_l rfl hN (zi_rng1 (by rfl) m_range (za_cons ze_int za_nil)) (blkOk_by (own := [("q", 10)]) (by kernel_rfl)) (fun s H C cl fp => (zgw_name (i := 10) (pg_name hN rfl (by first | exact Or.inl rfl | exact Or.inr rfl)))) (fun s H C cl fp => zts_nil) (fun s H C cl fp => (ze_tup (za_cons (ze_var (pv 3)) (za_cons (ze_call k__law_take hr (by omega) (za_cons (ze_var (pv 0)) (za_cons ze_int za_nil)) (len_cons (len_cons len_nil))) za_nil)) (len_cons (len_cons len_nil))))) za_nil)) za_nil)))) (zss_one (zs_if (zt_cmp (op_eqZ hu) os_eq (ze_var (pv 6)) ze_int (nomark _)) (zss_one (zs_drop (ze_append (ze_var (pv 5)) (za_cons (ze_op op_mulZ os_mul (ze_tup (za_cons (ze_ix hu (ze_var (pv 1)) ze_int) za_nil) (len_cons len_nil)) ze_int) za_nil)))) (zss_one (zs_if (zt_w (zw_and (zt_cmp (op_eqZ hu) os_eq (ze_var (pv 6)) ze_int (nomark _)) (zw_and1 (zt_cmp (op_neZ hu) os_ne (ze_var (pv 5)) (ze_lst za_nil len_nil) (nomark _))))) (zss_cons (zs_asg (ze_tup (za_cons (ze_call k__law_take hr (by omega) (za_cons (ze_var (pv 0)) (za_cons (ze_blt cr_len bs_len m_len boot_len (za_cons (ze_var (pv 5)) za_nil)) za_nil)) (len_cons (len_cons len_nil))) (za_cons (ze_call k__law_take hr (by omega) (za_cons (ze_var (pv 0)) (za_cons ze_int za_nil)) (len_cons (len_cons len_nil))) za_nil)) (len_cons (len_cons len_nil))) (zg_tup rfl (zgs_cons (zg_name (i := 9) (pg_name hN rfl (by first | exact Or.inl rfl | exact Or.inr rfl))) (zgs_cons (zg_name (i := 8) (pg_name hN rfl (by first | exact Or.inl rfl | exact Or.inr rfl))) zgs_nil))))
    (zss_one (zs_drop (ze_append (ze_var (pv 5)) (za_cons (ze_bty cr_tuple bs_tuple m_tuple boot_tuple (za_cons (ze_lc fin_l rfl hN (zi_rng1 (by rfl) m_range (za_cons ze_int za_nil)) (blkOk_by (own := [("q", 10)]) (by kernel_rfl)) (fun s H C cl fp => (zgw_name (i := 10) (pg_name hN rfl (by first | exact Or.inl rfl | exact Or.inr rfl)))) (fun s H C cl fp => zts_nil) (fun s H C cl fp => (ze_call k__law_turned hr (by omega) (za_cons (ze_ix hu (ze_ix hu (ze_var (pv 5)) (ze_var (pv 9))) (ze_call k__law_seen hr (by omega) (za_cons (ze_var (pv 8)) (za_cons (ze_var (pv 10)) za_nil)) (len_cons (len_cons len_nil)))) (za_cons (ze_var (pv 8)) za_nil)) (len_cons (len_cons len_nil))))) za_nil)) za_nil))))) (zss_one (zs_drop (ze_append (ze_var (pv 5)) (za_cons (ze_bty cr_tuple bs_tuple m_tuple boot_tuple (za_cons (ze_lc fin_l rfl hN (zi_rng1 (by rfl) m_range (za_cons ze_int za_nil)) (blkOk_by (own := [("q", 10)]) (by kernel_rfl)) (fun s H C cl fp => (zgw_name (i := 10) (pg_name hN rfl (by first | exact Or.inl rfl | exact Or.inr rfl)))) (fun s H C cl fp => zts_nil) (fun s H C cl fp => (ze_call k__law_sight hr (by omega) (za_cons (ze_var (pv 0)) (za_cons (ze_var (pv 1)) (za_cons (ze_var (pv 4)) za_nil))) (len_cons (len_cons (len_cons len_nil)))))) za_nil)) za_nil))))))))))))))
    (zss_one (zs_ret (ze_bty cr_tuple bs_tuple m_tuple boot_tuple (za_cons (ze_var (pv 5)) za_nil)))))))
theorem bi__law_names (Fu : FunD K d__law_names.name d__law_names.qual d__law_names.params d__law_names.body d__law_names.scope [] [] f fd) : Binds K fd ["box", "many"] [] := Fu.bindsN fun _ _ _ _ _ _ us hl => match us, hl with | [_, _], _ => rfl
theorem ok__law_names (Fu : FunD K d__law_names.name d__law_names.qual d__law_names.params d__law_names.body d__law_names.scope [] [] f fd) (k__law_take : CalZ P w K mg base 1 "_law_take" 2 f__law_take) (m_range : mg "range" = none) : FnOk P w K mg base CX0 2 f fd ["box", "many"] (spZ K w 2 f__law_names) :=
  okF (k := 1) (g := b__law_names) Fu sc__law_names rfl rfl (fun cdv A outer s H E E' hr =>
    have hu := hr.units
    have hu2 := u65 hr
    have hN := sc__law_names.nd
    (zss_cons (zs_asg (ze_tup (za_cons ze_str (za_cons (ze_call k__law_take hr (by omega) (za_cons (ze_var (pv 0)) (za_cons ze_int za_nil)) (len_cons (len_cons len_nil))) za_nil)) (len_cons (len_cons len_nil))) (zg_tup rfl (zgs_cons (zg_name (i := 3) (pg_name hN rfl (by first | exact Or.inl rfl | exact Or.inr rfl))) (zgs_cons (zg_name (i := 4) (pg_name hN rfl (by first | exact Or.inl rfl | exact Or.inr rfl))) zgs_nil))))
    (zss_cons (zs_set (i := 2) hN rfl (by first | exact Or.inl rfl | exact Or.inr rfl) (ze_join ze_str (za_cons (ze_lc fin_l rfl hN (zi_rng1 (by rfl) m_range (za_cons (ze_call k__law_take hr (by omega) (za_cons (ze_var (pv 0)) (za_cons ze_int za_nil)) (len_cons (len_cons len_nil))) za_nil)) (blkOk_by (own := [("turn", 6)]) (by kernel_rfl)) (fun s H C cl fp => (zgw_name (i := 6) (pg_name hN rfl (by first | exact Or.inl rfl | exact Or.inr rfl)))) (fun s H C cl fp => zts_nil) (fun s H C cl fp => (ze_ix hu (ze_var (pv 3)) (ze_call k__law_take hr (by omega) (za_cons (ze_var (pv 0)) (za_cons ze_int za_nil)) (len_cons (len_cons len_nil)))))) za_nil)))
    (zss_one (zs_ret (ze_lc fin_l rfl hN (zi_rng1 (by rfl) m_range (za_cons (ze_var (pv 1)) za_nil)) (blkOk_by (own := [("k", 5)]) (by kernel_rfl)) (fun s H C cl fp => (zgw_name (i := 5) (pg_name hN rfl (by first | exact Or.inl rfl | exact Or.inr rfl)))) (fun s H C cl fp => zts_nil) (fun s H C cl fp => (ze_op op_addZ os_add (ze_var (pv 2)) (ze_ix hu (ze_var (pv 3)) (ze_op op_mod os_mod (ze_op op_addZ os_add (ze_var (pv 4)) (ze_op op_mulZ os_mul ze_int (ze_var (pv 5)))) ze_int))))))))))
theorem bi__law_quarter (Fu : FunD K d__law_quarter.name d__law_quarter.qual d__law_quarter.params d__law_quarter.body d__law_quarter.scope [] [] f fd) : Binds K fd ["rooms", "sight", "q"] [] := Fu.bindsN fun _ _ _ _ _ _ us hl => match us, hl with | [_, _, _], _ => rfl
theorem ok__law_quarter (Fu : FunD K d__law_quarter.name d__law_quarter.qual d__law_quarter.params d__law_quarter.body d__law_quarter.scope [] [] f fd) (k__law_seen : CalZ P w K mg base 1 "_law_seen" 2 f__law_seen_93) (k__law_turned : CalZ P w K mg base 2 "_law_turned" 2 f__law_turned_93) (m_isinstance : mg "isinstance" = none) (m_str : mg "str" = none) : FnOk P w K mg base CX0 3 f fd ["rooms", "sight", "q"] (spZ K w 3 f__law_quarter_93) :=
  okF (k := 2) (g := b__law_quarter_93) Fu sc__law_quarter rfl rfl (fun cdv A outer s H E E' hr =>
    have hu := hr.units
    have hu2 := u65 hr
    have hN := sc__law_quarter.nd
    (zss_cons (zs_if (zt_val (ze_isi1 m_isinstance (ze_var (pv 1)) (pe_tyn m_str boot_str))) (zss_one (zs_ret (ze_var (pv 1)))) zss_nil)
    (zss_one (zs_ret (ze_call k__law_turned hr (by omega) (za_cons (ze_ix hu (ze_ix hu (ze_var (pv 0)) (ze_ix hu (ze_var (pv 1)) ze_int)) (ze_call k__law_seen hr (by omega) (za_cons (ze_ix hu (ze_var (pv 1)) ze_int) (za_cons (ze_var (pv 2)) za_nil)) (len_cons (len_cons len_nil)))) (za_cons (ze_ix hu (ze_var (pv 1)) ze_int) za_nil)) (len_cons (len_cons len_nil)))))))
theorem bi__law_edge_house (Fu : FunD K d__law_edge_house.name d__law_edge_house.qual d__law_edge_house.params d__law_edge_house.body d__law_edge_house.scope [] [] f fd) : Binds K fd ["rooms", "sights"] [] := Fu.bindsN fun _ _ _ _ _ _ us hl => match us, hl with | [_, _], _ => rfl
theorem ok__law_edge_house (Fu : FunD K d__law_edge_house.name d__law_edge_house.qual d__law_edge_house.params d__law_edge_house.body d__law_edge_house.scope [] [] f fd) (k__law_quarter : CalZ P w K mg base 3 "_law_quarter" 3 f__law_quarter_93) (m_enumerate : mg "enumerate" = none) (m_int : mg "int" = none) (m_isinstance : mg "isinstance" = none) (m_len : mg "len" = none) (m_str : mg "str" = none) (m_tuple : mg "tuple" = none) : FnOk P w K mg base CX0 4 f fd ["rooms", "sights"] (spZ K w 2 f__law_edge_house) :=
  okF (k := 3) (g := b__law_edge_house) Fu sc__law_edge_house rfl rfl (fun cdv A outer s H E E' hr =>
    have hu := hr.units
    have hu2 := u65 hr
    have hN := sc__law_edge_house.nd
    (zss_cons (zs_asg (ze_tup (za_cons (ze_lst (za_cons (ze_tup (za_cons (ze_ix hu (ze_var (pv 1)) ze_int) (za_cons ze_int za_nil)) (len_cons (len_cons len_nil))) (za_cons (ze_tup (za_cons (ze_ix hu (ze_var (pv 1)) ze_int) (za_cons ze_int za_nil)) (len_cons (len_cons len_nil))) za_nil)) (len_cons (len_cons len_nil))) (za_cons ze_int (za_cons (ze_cel za_nil len_nil) za_nil))) (len_cons (len_cons (len_cons len_nil)))) (zg_tup rfl (zgs_cons (zg_name (i := 5) (pg_name hN rfl (by first | exact Or.inl rfl | exact Or.inr rfl))) (zgs_cons (zg_name (i := 6) (pg_name hN rfl (by first | exact Or.inl rfl | exact Or.inr rfl))) (zgs_cons (zg_name (i := 7) (pg_name hN rfl (by first | exact Or.inl rfl | exact Or.inr rfl))) zgs_nil)))))
    (zss_cons (zs_while PassesOwn.never (zt_cmp op_ltZ os_lt (ze_var (pv 6)) (ze_blt cr_len bs_len m_len boot_len (za_cons (ze_var (pv 5)) za_nil)) (nomark _)) (zss_cons (zs_asg (ze_ix hu (ze_var (pv 5)) (ze_var (pv 6))) (zg_tup rfl (zgs_cons (zg_name (i := 9) (pg_name hN rfl (by first | exact Or.inl rfl | exact Or.inr rfl))) (zgs_cons (zg_name (i := 10) (pg_name hN rfl (by first | exact Or.inl rfl | exact Or.inr rfl))) zgs_nil))))
    (zss_cons (zs_lc (i := 3) fin_l rfl hN rfl rfl rfl (zi_val (ze_tup (za_cons ze_int (za_cons ze_int za_nil)) (len_cons (len_cons len_nil)))) (blkOk_by (own := [("q", 13)]) (by kernel_rfl)) (fun s H C cl fp => (zgw_name (i := 13) (pg_name hN rfl (by first | exact Or.inl rfl | exact Or.inr rfl)))) (fun s H C cl fp => zts_nil) (fun s H C cl fp => (ze_tup (za_cons (ze_call k__law_quarter hr (by omega) (za_cons (ze_var (pv 0)) (za_cons (ze_var (pv 9)) (za_cons (ze_op op_addZ os_add (ze_var (pv 13)) (ze_var (pv 10))) za_nil))) (len_cons (len_cons (len_cons len_nil)))) (za_cons (ze_var (pv 10)) za_nil)) (len_cons (len_cons len_nil)))))
    (zss_cons (zs_for PassesOwn.never rfl (zi_val (ze_var (pv 3))) (zg_name (i := 8) (pg_name hN rfl (by first | exact Or.inl rfl | exact Or.inr rfl))) (zss_one (zs_set (i := 5) hN rfl (by first | exact Or.inl rfl | exact Or.inr rfl) (ze_op op_addZ os_add (ze_var (pv 5)) (ze_op op_mulZ os_mul (ze_lst (za_cons (ze_var (pv 8)) za_nil) (len_cons len_nil)) (ze_bty cr_int bs_int m_int boot_int (za_cons (ze_cmp (op_notInZ hu2) os_notIn (ze_var (pv 8)) (ze_var (pv 5)) (by with_unfolding_all rfl)) za_nil)))))))
    (zss_cons (zs_drop (ze_append (ze_var (pv 7)) (za_cons (ze_var (pv 3)) za_nil)))
    (zss_one (zs_set (i := 6) hN rfl (by first | exact Or.inl rfl | exact Or.inr rfl) (ze_op op_addZ os_add (ze_var (pv 6)) ze_int))))))))
    (zss_cons (zs_set (i := 2) hN rfl (by first | exact Or.inl rfl | exact Or.inr rfl) (ze_cel za_nil len_nil))
    (zss_cons (zs_for PassesOwn.never rfl (zi_val (ze_var (pv 7))) (zg_name (i := 3) (pg_name hN rfl (by first | exact Or.inl rfl | exact Or.inr rfl))) (zss_cons (zs_asg (ze_lc fin_l rfl hN (zi_val (ze_var (pv 3))) (blkOk_by (own := [("one", 8)]) (by kernel_rfl)) (fun s H C cl fp => (zgw_name (i := 8) (pg_name hN rfl (by first | exact Or.inl rfl | exact Or.inr rfl)))) (fun s H C cl fp => zts_nil) (fun s H C cl fp => (ze_if (zt_val (ze_isi1 m_isinstance (ze_ix hu (ze_var (pv 8)) ze_int) (pe_tyn m_str boot_str))) (ze_ix hu (ze_var (pv 8)) ze_int) (ze_tup (za_cons (ze_index hu2 (ze_var (pv 5)) (za_cons (ze_var (pv 8)) za_nil)) (za_cons ze_int za_nil)) (len_cons (len_cons len_nil)))))) (zg_tup rfl (zgs_cons (zg_name (i := 11) (pg_name hN rfl (by first | exact Or.inl rfl | exact Or.inr rfl))) (zgs_cons (zg_name (i := 12) (pg_name hN rfl (by first | exact Or.inl rfl | exact Or.inr rfl))) zgs_nil))))
    (zss_one (zs_drop (ze_append (ze_var (pv 2)) (za_cons (ze_tup (za_cons (ze_var (pv 11)) (za_cons (ze_var (pv 11)) (za_cons (ze_var (pv 12)) (za_cons (ze_var (pv 12)) za_nil)))) (len_cons (len_cons (len_cons (len_cons len_nil))))) za_nil))))))
    (zss_cons (zs_lc (i := 4) fin_l rfl hN rfl rfl rfl (zi_enum (by rfl) m_enumerate (za_cons (ze_sl (ze_var (pv 5)) zo_none (zo_some ze_int)) za_nil)) (blkOk_by (own := [("k", 14), ("one", 8)]) (by kernel_rfl)) (fun s H C cl fp => (zgw_tup rfl (zgsw_cons (zgw_name (i := 14) (pg_name hN rfl (by first | exact Or.inl rfl | exact Or.inr rfl))) (zgsw_cons (zgw_name (i := 8) (pg_name hN rfl (by first | exact Or.inl rfl | exact Or.inr rfl))) zgsw_nil)))) (fun s H C cl fp => zts_nil) (fun s H C cl fp => (ze_if (zt_val (ze_isi1 m_isinstance (ze_ix hu (ze_var (pv 8)) ze_int) (pe_tyn m_str boot_str))) (ze_ix hu (ze_var (pv 8)) ze_int) (ze_tup (za_cons (ze_var (pv 14)) (za_cons ze_int za_nil)) (len_cons (len_cons len_nil))))))
    (zss_one (zs_ret (ze_tup (za_cons (ze_bty cr_tuple bs_tuple m_tuple boot_tuple (za_cons (ze_var (pv 2)) za_nil)) (za_cons (ze_var (pv 4)) za_nil)) (len_cons (len_cons len_nil)))))))))))
theorem bi_Marks_many (Fu : FunD K d_Marks_many.name d_Marks_many.qual d_Marks_many.params d_Marks_many.body d_Marks_many.scope [] [] f fd) : Binds K fd ["self"] [] := Fu.bindsN fun _ _ _ _ _ _ us hl => match us, hl with | [_], _ => rfl
theorem ok_Marks_many (Fu : FunD K d_Marks_many.name d_Marks_many.qual d_Marks_many.params d_Marks_many.body d_Marks_many.scope [] [] f fd) (k_cls_Marks : Cls K (He.ga K "Marks")) (k_na_Marks_own_looks : NoAttr K (He.ga K "Marks") "own_looks") (k_na_Marks_own_marks : NoAttr K (He.ga K "Marks") "own_marks") (m_len : mg "len" = none) : FnOk P w K mg base CX0 1 f fd ["self"] (spZ K w 1 f_Marks_many) :=
  okF (k := 0) (g := b_Marks_many) Fu sc_Marks_many rfl rfl (fun cdv A outer s H E E' hr =>
    have hu := hr.units
    have hu2 := u65 hr
    have hN := sc_Marks_many.nd
    (zss_one (zs_ret (ze_lenK m_len (pe_scK rfl hN (zi_val (ze_fld "Marks" k_cls_Marks k_na_Marks_own_looks (ze_var (pv 0)))) (blkOk_by (own := [("look", 1)]) (by kernel_rfl)) (fun s H C cl fp => (zgw_name (i := 1) (pg_name hN rfl (by first | exact Or.inl rfl | exact Or.inr rfl)))) (fun s H C cl fp => zts_nil) (fun s H C cl fp => (ze_ix hu (ze_fld "Marks" k_cls_Marks k_na_Marks_own_marks (ze_var (pv 0))) (ze_var (pv 1)))))))))
theorem bi_Marks_mark (Fu : FunD K d_Marks_mark.name d_Marks_mark.qual d_Marks_mark.params d_Marks_mark.body d_Marks_mark.scope [] [] f fd) : Binds K fd ["self", "sight"] [] := Fu.bindsN fun _ _ _ _ _ _ us hl => match us, hl with | [_, _], _ => rfl
theorem ok_Marks_mark (Fu : FunD K d_Marks_mark.name d_Marks_mark.qual d_Marks_mark.params d_Marks_mark.body d_Marks_mark.scope [] [] f fd) (k_cls_Marks : Cls K (He.ga K "Marks")) (k_na_Marks_own_marks : NoAttr K (He.ga K "Marks") "own_marks") (k_na_Marks_own_wholes : NoAttr K (He.ga K "Marks") "own_wholes") (m_isinstance : mg "isinstance" = none) (m_str : mg "str" = none) : FnOk P w K mg base CX0 1 f fd ["self", "sight"] (spZ K w 2 f_Marks_mark) :=
  okF (k := 0) (g := b_Marks_mark) Fu sc_Marks_mark rfl rfl (fun cdv A outer s H E E' hr =>
    have hu := hr.units
    have hu2 := u65 hr
    have hN := sc_Marks_mark.nd
    (zss_cons (zs_if (zt_val (ze_isi1 m_isinstance (ze_var (pv 1)) (pe_tyn m_str boot_str))) (zss_one (zs_ret (ze_var (pv 1)))) zss_nil)
    (zss_cons (zs_set (i := 2) hN rfl (by first | exact Or.inl rfl | exact Or.inr rfl) (ze_ix hu (ze_fld "Marks" k_cls_Marks k_na_Marks_own_wholes (ze_var (pv 0))) (ze_ix hu (ze_var (pv 1)) ze_int)))
    (zss_one (zs_ret (ze_if (zt_cmp op_isZ os_is (ze_var (pv 2)) ze_non (nomark _)) (ze_ix hu (ze_fld "Marks" k_cls_Marks k_na_Marks_own_marks (ze_var (pv 0))) (ze_var (pv 1))) (ze_var (pv 2))))))))
theorem bi_Marks_parted_once (Fu : FunD K d_Marks_parted_once.name d_Marks_parted_once.qual d_Marks_parted_once.params d_Marks_parted_once.body d_Marks_parted_once.scope [] [] f fd) : Binds K fd ["self"] [] := Fu.bindsN fun _ _ _ _ _ _ us hl => match us, hl with | [_], _ => rfl
theorem ok_Marks_parted_once (Fu : FunD K d_Marks_parted_once.name d_Marks_parted_once.qual d_Marks_parted_once.params d_Marks_parted_once.body d_Marks_parted_once.scope [] [] f fd) (k_cls_Marks : Cls K (He.ga K "Marks")) (k_na_Marks_own_fours : NoAttr K (He.ga K "Marks") "own_fours") (k_na_Marks_own_looks : NoAttr K (He.ga K "Marks") "own_looks") (k_Marks_mark : MetZ P w K mg base 1 "Marks" "mark" 2 f_Marks_mark) (m_len : mg "len" = none) (m_tuple : mg "tuple" = none) : FnOk P w K mg base CX0 2 f fd ["self"] (spZ K w 1 f_Marks_parted_once) :=
  okF (k := 1) (g := b_Marks_parted_once) Fu sc_Marks_parted_once rfl rfl (fun cdv A outer s H E E' hr =>
    have hu := hr.units
    have hu2 := u65 hr
    have hN := sc_Marks_parted_once.nd
    (zss_cons (zs_par2 (fun h => ps_par (i := 2) (j := 3) rfl hN rfl rfl (by decide) rfl rfl h rfl) (za_cons ze_dcC (za_cons ze_dcC za_nil)))
    (zss_cons (zs_for PassesOwn.never rfl (zi_val (ze_fld "Marks" k_cls_Marks k_na_Marks_own_looks (ze_var (pv 0)))) (zg_name (i := 1) (pg_name hN rfl (by first | exact Or.inl rfl | exact Or.inr rfl))) (zss_cons (zs_set (i := 4) hN rfl (by first | exact Or.inl rfl | exact Or.inr rfl) (ze_bty cr_tuple bs_tuple m_tuple boot_tuple (za_cons (ze_lc fin_l rfl hN (zi_val (ze_ix hu (ze_fld "Marks" k_cls_Marks k_na_Marks_own_fours (ze_var (pv 0))) (ze_var (pv 1)))) (blkOk_by (own := [("sight", 5)]) (by kernel_rfl)) (fun s H C cl fp => (zgw_name (i := 5) (pg_name hN rfl (by first | exact Or.inl rfl | exact Or.inr rfl)))) (fun s H C cl fp => zts_nil) (fun s H C cl fp => (ze_meth k_Marks_mark hr (by omega) (ze_var (pv 0)) (za_cons (ze_var (pv 5)) za_nil) (len_cons len_nil)))) za_nil)))
    (zss_one (zs_asg (ze_setd hu (ze_var (pv 2)) (za_cons (ze_var (pv 4)) (za_cons (ze_blt cr_len bs_len m_len boot_len (za_cons (ze_var (pv 2)) za_nil)) za_nil))) (zg_sub hu (ze_var (pv 3)) (ze_var (pv 1)))))))
    (zss_one (zs_ret (ze_var (pv 3)))))))
theorem bi_Marks_part_on (Fu : FunD K d_Marks_part_on.name d_Marks_part_on.qual d_Marks_part_on.params d_Marks_part_on.body d_Marks_part_on.scope [] [] f fd) : Binds K fd ["self"] [] := Fu.bindsN fun _ _ _ _ _ _ us hl => match us, hl with | [_], _ => rfl
theorem ok_Marks_part_on (Fu : FunD K d_Marks_part_on.name d_Marks_part_on.qual d_Marks_part_on.params d_Marks_part_on.body d_Marks_part_on.scope [] [] f fd) (k_cls_Marks : Cls K (He.ga K "Marks")) (k_na_Marks_own_marks : NoAttr K (He.ga K "Marks") "own_marks") (k_Marks_many : MetZ P w K mg base 1 "Marks" "many" 1 f_Marks_many) (k_Marks_parted_once : MetZ P w K mg base 2 "Marks" "parted_once" 1 f_Marks_parted_once) : FnOk P w K mg base CX0 3 f fd ["self"] (spZ K w 1 f_Marks_part_on) :=
  okF (k := 2) (g := b_Marks_part_on) Fu sc_Marks_part_on rfl rfl (fun cdv A outer s H E E' hr =>
    have hu := hr.units
    have hu2 := u65 hr
    have hN := sc_Marks_part_on.nd
    (zss_cons (zs_set (i := 1) hN rfl (by first | exact Or.inl rfl | exact Or.inr rfl) ze_int)
    (zss_one (zs_while PassesOwn.never (zt_cmp op_ltZ os_lt (ze_var (pv 1)) (ze_meth0 k_Marks_many hr (by omega) (ze_var (pv 0))) (nomark _)) (zss_cons (zs_set (i := 1) hN rfl (by first | exact Or.inl rfl | exact Or.inr rfl) (ze_meth0 k_Marks_many hr (by omega) (ze_var (pv 0))))
    (zss_one (zs_fld "Marks" k_cls_Marks k_na_Marks_own_marks (ze_var (pv 0)) (ze_meth0 k_Marks_parted_once hr (by omega) (ze_var (pv 0))))))))))
theorem bi_shown (Fu : FunD K d_shown.name d_shown.qual d_shown.params d_shown.body d_shown.scope [] [] f fd) : Binds K fd ["turn", "quarter"] [] := Fu.bindsN fun _ _ _ _ _ _ us hl => match us, hl with | [_, _], _ => rfl
theorem ok_shown (Fu : FunD K d_shown.name d_shown.qual d_shown.params d_shown.body d_shown.scope [] [] f fd) (k_SHOWN : ConZ mg K w "SHOWN" c_SHOWN) : FnOk P w K mg base CX0 1 f fd ["turn", "quarter"] (spZ K w 2 f_shown) :=
  okF (k := 0) (g := b_shown) Fu sc_shown rfl rfl (fun cdv A outer s H E E' hr =>
    have hu := hr.units
    have hu2 := u65 hr
    have hN := sc_shown.nd
    (zss_one (zs_ret (ze_ix hu (ze_ix hu (ze_con k_SHOWN) (ze_var (pv 0))) (ze_var (pv 1))))))
theorem bi_behind (Fu : FunD K d_behind.name d_behind.qual d_behind.params d_behind.body d_behind.scope [] [] f fd) : Binds K fd ["one", "other"] [] := Fu.bindsN fun _ _ _ _ _ _ us hl => match us, hl with | [_, _], _ => rfl
theorem ok_behind (Fu : FunD K d_behind.name d_behind.qual d_behind.params d_behind.body d_behind.scope [] [] f fd) (k_QUARTERS : ConZ mg K w "QUARTERS" c_QUARTERS) (m_int : mg "int" = none) : FnOk P w K mg base CX0 1 f fd ["one", "other"] (spZ K w 2 f_behind) :=
  okF (k := 0) (g := b_behind) Fu sc_behind rfl rfl (fun cdv A outer s H E E' hr =>
    have hu := hr.units
    have hu2 := u65 hr
    have hN := sc_behind.nd
    (zss_cons (zs_set (i := 2) hN rfl (by first | exact Or.inl rfl | exact Or.inr rfl) (ze_op op_addZ os_add (ze_var (pv 1)) (ze_if (zt_cmp op_ltZ os_lt (ze_var (pv 1)) (ze_con k_QUARTERS) (nomark _)) (ze_var (pv 0)) (ze_neg (ze_var (pv 0))))))
    (zss_one (zs_ret (ze_op op_addZ os_add (ze_op op_mod os_mod (ze_var (pv 2)) (ze_con k_QUARTERS)) (ze_op op_mulZ os_mul (ze_con k_QUARTERS) (ze_bty cr_int bs_int m_int boot_int (za_cons (ze_cmp (op_neZ hu) os_ne (ze_op op_fdivW os_div (ze_var (pv 0)) (ze_con k_QUARTERS)) (ze_op op_fdivW os_div (ze_var (pv 1)) (ze_con k_QUARTERS)) (nomark _)) za_nil))))))))
theorem bi_turned (Fu : FunD K d_turned.name d_turned.qual d_turned.params d_turned.body d_turned.scope [] [] f fd) : Binds K fd ["sight", "turn"] [] := Fu.bindsN fun _ _ _ _ _ _ us hl => match us, hl with | [_, _], _ => rfl
theorem ok_turned (Fu : FunD K d_turned.name d_turned.qual d_turned.params d_turned.body d_turned.scope [] [] f fd) (k_behind : CalZ P w K mg base 1 "behind" 2 f_behind) (m_isinstance : mg "isinstance" = none) (m_str : mg "str" = none) : FnOk P w K mg base CX0 2 f fd ["sight", "turn"] (spZ K w 2 f_turned) :=
  okF (k := 1) (g := b_turned) Fu sc_turned rfl rfl (fun cdv A outer s H E E' hr =>
    have hu := hr.units
    have hu2 := u65 hr
    have hN := sc_turned.nd
    (zss_cons (zs_if (zt_val (ze_isi1 m_isinstance (ze_var (pv 0)) (pe_tyn m_str boot_str))) (zss_one (zs_ret (ze_var (pv 0)))) zss_nil)
    (zss_cons (zs_asg (ze_var (pv 0)) (zg_tup rfl (zgs_cons (zg_name (i := 2) (pg_name hN rfl (by first | exact Or.inl rfl | exact Or.inr rfl))) (zgs_cons (zg_name (i := 3) (pg_name hN rfl (by first | exact Or.inl rfl | exact Or.inr rfl))) zgs_nil))))
    (zss_one (zs_ret (ze_tup (za_cons (ze_var (pv 2)) (za_cons (ze_call k_behind hr (by omega) (za_cons (ze_var (pv 3)) (za_cons (ze_var (pv 1)) za_nil)) (len_cons (len_cons len_nil))) za_nil)) (len_cons (len_cons len_nil))))))))
theorem bi_quarter_of (Fu : FunD K d_quarter_of.name d_quarter_of.qual d_quarter_of.params d_quarter_of.body d_quarter_of.scope [] [] f fd) : Binds K fd ["house", "sight", "quarter"] [] := Fu.bindsN fun _ _ _ _ _ _ us hl => match us, hl with | [_, _, _], _ => rfl
theorem ok_quarter_of (Fu : FunD K d_quarter_of.name d_quarter_of.qual d_quarter_of.params d_quarter_of.body d_quarter_of.scope [] [] f fd) (k_shown : CalZ P w K mg base 1 "shown" 2 f_shown) (k_turned : CalZ P w K mg base 2 "turned" 2 f_turned) (m_isinstance : mg "isinstance" = none) (m_str : mg "str" = none) : FnOk P w K mg base CX0 3 f fd ["house", "sight", "quarter"] (spZ K w 3 f_quarter_of) :=
  okF (k := 2) (g := b_quarter_of) Fu sc_quarter_of rfl rfl (fun cdv A outer s H E E' hr =>
    have hu := hr.units
    have hu2 := u65 hr
    have hN := sc_quarter_of.nd
    (zss_cons (zs_if (zt_val (ze_isi1 m_isinstance (ze_var (pv 1)) (pe_tyn m_str boot_str))) (zss_one (zs_ret (ze_var (pv 1)))) zss_nil)
    (zss_cons (zs_asg (ze_var (pv 1)) (zg_tup rfl (zgs_cons (zg_name (i := 3) (pg_name hN rfl (by first | exact Or.inl rfl | exact Or.inr rfl))) (zgs_cons (zg_name (i := 4) (pg_name hN rfl (by first | exact Or.inl rfl | exact Or.inr rfl))) zgs_nil))))
    (zss_one (zs_ret (ze_call k_turned hr (by omega) (za_cons (ze_ix hu (ze_ix hu (ze_var (pv 0)) (ze_var (pv 3))) (ze_call k_shown hr (by omega) (za_cons (ze_var (pv 4)) (za_cons (ze_var (pv 2)) za_nil)) (len_cons (len_cons len_nil)))) (za_cons (ze_var (pv 4)) za_nil)) (len_cons (len_cons len_nil))))))))
theorem bi_quarters_of (Fu : FunD K d_quarters_of.name d_quarters_of.qual d_quarters_of.params d_quarters_of.body d_quarters_of.scope [] [] f fd) : Binds K fd ["house", "sight"] [] := Fu.bindsN fun _ _ _ _ _ _ us hl => match us, hl with | [_, _], _ => rfl
theorem ok_quarters_of (Fu : FunD K d_quarters_of.name d_quarters_of.qual d_quarters_of.params d_quarters_of.body d_quarters_of.scope [] [] f fd) (k_QUARTERS : ConZ mg K w "QUARTERS" c_QUARTERS) (k_quarter_of : CalZ P w K mg base 3 "quarter_of" 3 f_quarter_of) (m_range : mg "range" = none) : FnOk P w K mg base CX0 4 f fd ["house", "sight"] (spZ K w 2 f_quarters_of) :=
  okF (k := 3) (g := b_quarters_of) Fu sc_quarters_of rfl rfl (fun cdv A outer s H E E' hr =>
    have hu := hr.units
    have hu2 := u65 hr
    have hN := sc_quarters_of.nd
    (zss_one (zs_ret (ze_lc fin_l rfl hN (zi_rng1 (by rfl) m_range (za_cons (ze_con k_QUARTERS) za_nil)) (blkOk_by (own := [("quarter", 2)]) (by kernel_rfl)) (fun s H C cl fp => (zgw_name (i := 2) (pg_name hN rfl (by first | exact Or.inl rfl | exact Or.inr rfl)))) (fun s H C cl fp => zts_nil) (fun s H C cl fp => (ze_call k_quarter_of hr (by omega) (za_cons (ze_var (pv 0)) (za_cons (ze_var (pv 1)) (za_cons (ze_var (pv 2)) za_nil))) (len_cons (len_cons (len_cons len_nil)))))))))
theorem bi_one_of (Fu : FunD K d_one_of.name d_one_of.qual d_one_of.params d_one_of.body d_one_of.scope [] [] f fd) : Binds K fd ["values"] [] := Fu.bindsN fun _ _ _ _ _ _ us hl => match us, hl with | [_], _ => rfl
theorem ok_one_of (Fu : FunD K d_one_of.name d_one_of.qual d_one_of.params d_one_of.body d_one_of.scope [] [] f fd) (m_all : mg "all" = none) : FnOk P w K mg base CX0 1 f fd ["values"] (spZ K w 1 f_one_of) :=
  okF (k := 0) (g := b_one_of) Fu sc_one_of rfl rfl (fun cdv A outer s H E E' hr =>
    have hu := hr.units
    have hu2 := u65 hr
    have hN := sc_one_of.nd
    (zss_one (zs_ret (ze_if (zt_val (ze_blt (cr_all rfl) bs_all m_all boot_all (za_cons (ze_lc fin_l rfl hN (zi_val (ze_var (pv 0))) (blkOk_by (own := [("value", 1)]) (by kernel_rfl)) (fun s H C cl fp => (zgw_name (i := 1) (pg_name hN rfl (by first | exact Or.inl rfl | exact Or.inr rfl)))) (fun s H C cl fp => zts_nil) (fun s H C cl fp => (ze_cmp (op_eqZ hu) os_eq (ze_var (pv 1)) (ze_ix hu (ze_var (pv 0)) ze_int) (nomark _)))) za_nil))) (ze_ix hu (ze_var (pv 0)) ze_int) ze_non))))
theorem bi_wholes_of (Fu : FunD K d_wholes_of.name d_wholes_of.qual d_wholes_of.params d_wholes_of.body d_wholes_of.scope [] [] f fd) : Binds K fd ["house"] [] := Fu.bindsN fun _ _ _ _ _ _ us hl => match us, hl with | [_], _ => rfl
theorem ok_wholes_of (Fu : FunD K d_wholes_of.name d_wholes_of.qual d_wholes_of.params d_wholes_of.body d_wholes_of.scope [] [] f fd) (k_one_of : CalZ P w K mg base 1 "one_of" 1 f_one_of) (m_isinstance : mg "isinstance" = none) (m_str : mg "str" = none) : FnOk P w K mg base CX0 2 f fd ["house"] (spZ K w 1 f_wholes_of) :=
  okF (k := 1) (g := b_wholes_of) Fu sc_wholes_of rfl rfl (fun cdv A outer s H E E' hr =>
    have hu := hr.units
    have hu2 := u65 hr
    have hN := sc_wholes_of.nd
    (zss_cons (zs_set (i := 1) hN rfl (by first | exact Or.inl rfl | exact Or.inr rfl) (ze_lc fin_l rfl hN (zi_val (ze_var (pv 0))) (blkOk_by (own := [("pane", 3)]) (by kernel_rfl)) (fun s H C cl fp => (zgw_name (i := 3) (pg_name hN rfl (by first | exact Or.inl rfl | exact Or.inr rfl)))) (fun s H C cl fp => zts_nil) (fun s H C cl fp => ze_non)))
    (zss_cons (zs_for PassesOwn.never rfl (zi_val (ze_var (pv 0))) (zg_name (i := 2) (pg_name hN rfl (by first | exact Or.inl rfl | exact Or.inr rfl))) (zss_one (zs_set (i := 1) hN rfl (by first | exact Or.inl rfl | exact Or.inr rfl) (ze_lc fin_l rfl hN (zi_val (ze_var (pv 0))) (blkOk_by (own := [("pane", 3)]) (by kernel_rfl)) (fun s H C cl fp => (zgw_name (i := 3) (pg_name hN rfl (by first | exact Or.inl rfl | exact Or.inr rfl)))) (fun s H C cl fp => zts_nil) (fun s H C cl fp => (ze_call k_one_of hr (by omega) (za_cons (ze_lc fin_l rfl hN (zi_val (ze_var (pv 3))) (blkOk_by (own := [("one", 4)]) (by kernel_rfl)) (fun s H C cl fp => (zgw_name (i := 4) (pg_name hN rfl (by first | exact Or.inl rfl | exact Or.inr rfl)))) (fun s H C cl fp => zts_nil) (fun s H C cl fp => (ze_if (zt_val (ze_isi1 m_isinstance (ze_var (pv 4)) (pe_tyn m_str boot_str))) (ze_var (pv 4)) (ze_ix hu (ze_var (pv 1)) (ze_ix hu (ze_var (pv 4)) ze_int))))) za_nil) (len_cons len_nil)))))))
    (zss_one (zs_ret (ze_var (pv 1)))))))
theorem bi_Marks_init (Fu : FunD K d_Marks_init.name d_Marks_init.qual d_Marks_init.params d_Marks_init.body d_Marks_init.scope [] [] f fd) : Binds K fd ["self", "house"] [] := Fu.bindsN fun _ _ _ _ _ _ us hl => match us, hl with | [_, _], _ => rfl
theorem ok_Marks_init (Fu : FunD K d_Marks_init.name d_Marks_init.qual d_Marks_init.params d_Marks_init.body d_Marks_init.scope [] [] f fd) (k_SHOWN : ConZ mg K w "SHOWN" c_SHOWN) (k_quarters_of : CalZ P w K mg base 4 "quarters_of" 2 f_quarters_of) (k_wholes_of : CalZ P w K mg base 2 "wholes_of" 1 f_wholes_of) (k_cls_Marks : Cls K (He.ga K "Marks")) (k_na_Marks_own_fours : NoAttr K (He.ga K "Marks") "own_fours") (k_na_Marks_own_house : NoAttr K (He.ga K "Marks") "own_house") (k_na_Marks_own_looks : NoAttr K (He.ga K "Marks") "own_looks") (k_na_Marks_own_marks : NoAttr K (He.ga K "Marks") "own_marks") (k_na_Marks_own_wholes : NoAttr K (He.ga K "Marks") "own_wholes") (k_Marks_part_on : MetZ P w K mg base 3 "Marks" "part_on" 1 f_Marks_part_on) (m_enumerate : mg "enumerate" = none) (m_len : mg "len" = none) (m_range : mg "range" = none) : FnOk P w K mg base CX0 5 f fd ["self", "house"] (spZ K w 2 f_Marks_init) :=
  okF (k := 4) (g := b_Marks_init) Fu sc_Marks_init rfl rfl (fun cdv A outer s H E E' hr =>
    have hu := hr.units
    have hu2 := u65 hr
    have hN := sc_Marks_init.nd
    (zss_cons (zs_fld "Marks" k_cls_Marks k_na_Marks_own_house (ze_var (pv 0)) (ze_var (pv 1)))
    (zss_cons (zs_fld "Marks" k_cls_Marks k_na_Marks_own_wholes (ze_var (pv 0)) (ze_call k_wholes_of hr (by omega) (za_cons (ze_var (pv 1)) za_nil) (len_cons len_nil)))
    (zss_cons (zs_fld "Marks" k_cls_Marks k_na_Marks_own_looks (ze_var (pv 0)) (ze_lc2 (vs1 := [2]) fin_l rfl hN (zi_enum (by rfl) m_enumerate (za_cons (ze_fld "Marks" k_cls_Marks k_na_Marks_own_wholes (ze_var (pv 0))) za_nil)) (blkOk_by (own := [("pane", 4), ("whole", 5), ("turn", 2)]) (by kernel_rfl)) (by decide) (fun s H C cl fp => (zgw_tup rfl (zgsw_cons (zgw_name (i := 4) (pg_name hN rfl (by first | exact Or.inl rfl | exact Or.inr rfl))) (zgsw_cons (zgw_name (i := 5) (pg_name hN rfl (by first | exact Or.inl rfl | exact Or.inr rfl))) zgsw_nil)))) (fun s H C cl fp => (zts_one (zt_cmp op_isZ os_is (ze_var (pv 5)) ze_non (nomark _)))) (fun s H C cl fp => (zi_rng1 (by rfl) m_range (za_cons (ze_blt cr_len bs_len m_len boot_len (za_cons (ze_con k_SHOWN) za_nil)) za_nil))) (fun s H C cl fp => (zgw_name (i := 2) (pg_name hN rfl (by first | exact Or.inl rfl | exact Or.inr rfl)))) (fun s H C cl fp => zts_nil) (fun s H C cl fp => (ze_tup (za_cons (ze_var (pv 4)) (za_cons (ze_var (pv 2)) za_nil)) (len_cons (len_cons len_nil))))))
    (zss_cons (zs_fld "Marks" k_cls_Marks k_na_Marks_own_fours (ze_var (pv 0)) (ze_dc hu finG_d rfl hN (zi_val (ze_fld "Marks" k_cls_Marks k_na_Marks_own_looks (ze_var (pv 0)))) (blkOk_by (own := [("look", 3)]) (by kernel_rfl)) (fun s H C cl fp => (zgw_name (i := 3) (pg_name hN rfl (by first | exact Or.inl rfl | exact Or.inr rfl)))) (fun s H C cl fp => zts_nil) (fun s H C cl fp => (ze_var (pv 3))) (fun s H C cl fp => (ze_call k_quarters_of hr (by omega) (za_cons (ze_var (pv 1)) (za_cons (ze_var (pv 3)) za_nil)) (len_cons (len_cons len_nil))))))
    (zss_cons (zs_fld "Marks" k_cls_Marks k_na_Marks_own_marks (ze_var (pv 0)) (ze_dc hu finG_d rfl hN (zi_val (ze_fld "Marks" k_cls_Marks k_na_Marks_own_looks (ze_var (pv 0)))) (blkOk_by (own := [("look", 3)]) (by kernel_rfl)) (fun s H C cl fp => (zgw_name (i := 3) (pg_name hN rfl (by first | exact Or.inl rfl | exact Or.inr rfl)))) (fun s H C cl fp => zts_nil) (fun s H C cl fp => (ze_var (pv 3))) (fun s H C cl fp => ze_int)))
    (zss_one (zs_drop (ze_meth0 k_Marks_part_on hr (by omega) (ze_var (pv 0)))))))))))
theorem bi_alike (Fu : FunD K d_alike.name d_alike.qual d_alike.params d_alike.body d_alike.scope [] [] f fd) : Binds K fd ["house", "one", "other"] [] := Fu.bindsN fun _ _ _ _ _ _ us hl => match us, hl with | [_, _, _], _ => rfl
theorem ok_alike (Fu : FunD K d_alike.name d_alike.qual d_alike.params d_alike.body d_alike.scope [] [] f fd) (k_mk_Marks : MakZ P w K mg base 5 "Marks" 2 f_Marks_init) (k_Marks_mark : MetZ P w K mg base 1 "Marks" "mark" 2 f_Marks_mark) : FnOk P w K mg base CX0 7 f fd ["house", "one", "other"] (spZ K w 3 f_alike) :=
  okF (k := 6) (g := b_alike) Fu sc_alike rfl rfl (fun cdv A outer s H E E' hr =>
    have hu := hr.units
    have hu2 := u65 hr
    have hN := sc_alike.nd
    (zss_cons (zs_set (i := 3) hN rfl (by first | exact Or.inl rfl | exact Or.inr rfl) (ze_make k_mk_Marks hr (by omega) (za_cons (ze_var (pv 0)) za_nil) (len_cons len_nil)))
    (zss_one (zs_ret (ze_cmp (op_eqZ hu) os_eq (ze_meth k_Marks_mark hr (by omega) (ze_var (pv 3)) (za_cons (ze_var (pv 1)) za_nil) (len_cons len_nil)) (ze_meth k_Marks_mark hr (by omega) (ze_var (pv 3)) (za_cons (ze_var (pv 2)) za_nil) (len_cons len_nil)) (nomark _))))))
theorem bi_half_pair (Fu : FunD K d_half_pair.name d_half_pair.qual d_half_pair.params d_half_pair.body d_half_pair.scope [] [] f fd) : Binds K fd ["house", "pair", "half"] [] := Fu.bindsN fun _ _ _ _ _ _ us hl => match us, hl with | [_, _, _], _ => rfl
theorem ok_half_pair (Fu : FunD K d_half_pair.name d_half_pair.qual d_half_pair.params d_half_pair.body d_half_pair.scope [] [] f fd) (k_quarter_of : CalZ P w K mg base 3 "quarter_of" 3 f_quarter_of) : FnOk P w K mg base CX0 4 f fd ["house", "pair", "half"] (spZ K w 3 f_half_pair) :=
  okF (k := 3) (g := b_half_pair) Fu sc_half_pair rfl rfl (fun cdv A outer s H E E' hr =>
    have hu := hr.units
    have hu2 := u65 hr
    have hN := sc_half_pair.nd
    (zss_cons (zs_asg (ze_var (pv 1)) (zg_tup rfl (zgs_cons (zg_name (i := 3) (pg_name hN rfl (by first | exact Or.inl rfl | exact Or.inr rfl))) (zgs_cons (zg_name (i := 4) (pg_name hN rfl (by first | exact Or.inl rfl | exact Or.inr rfl))) zgs_nil))))
    (zss_one (zs_ret (ze_tup (za_cons (ze_call k_quarter_of hr (by omega) (za_cons (ze_var (pv 0)) (za_cons (ze_var (pv 3)) (za_cons (ze_op op_addZ os_add ze_int (ze_op op_mulZ os_mul ze_int (ze_var (pv 2)))) za_nil))) (len_cons (len_cons (len_cons len_nil)))) (za_cons (ze_call k_quarter_of hr (by omega) (za_cons (ze_var (pv 0)) (za_cons (ze_var (pv 4)) (za_cons (ze_op op_mulZ os_mul ze_int (ze_var (pv 2))) za_nil))) (len_cons (len_cons (len_cons len_nil)))) za_nil)) (len_cons (len_cons len_nil)))))))
theorem bi_halves_of (Fu : FunD K d_halves_of.name d_halves_of.qual d_halves_of.params d_halves_of.body d_halves_of.scope [] [] f fd) : Binds K fd ["house", "pair"] [] := Fu.bindsN fun _ _ _ _ _ _ us hl => match us, hl with | [_, _], _ => rfl
theorem ok_halves_of (Fu : FunD K d_halves_of.name d_halves_of.qual d_halves_of.params d_halves_of.body d_halves_of.scope [] [] f fd) (k_HALVES : ConZ mg K w "HALVES" c_HALVES) (k_half_pair : CalZ P w K mg base 4 "half_pair" 3 f_half_pair) (m_range : mg "range" = none) : FnOk P w K mg base CX0 5 f fd ["house", "pair"] (spZ K w 2 f_halves_of) :=
  okF (k := 4) (g := b_halves_of) Fu sc_halves_of rfl rfl (fun cdv A outer s H E E' hr =>
    have hu := hr.units
    have hu2 := u65 hr
    have hN := sc_halves_of.nd
    (zss_one (zs_ret (ze_lc fin_l rfl hN (zi_rng1 (by rfl) m_range (za_cons (ze_con k_HALVES) za_nil)) (blkOk_by (own := [("half", 2)]) (by kernel_rfl)) (fun s H C cl fp => (zgw_name (i := 2) (pg_name hN rfl (by first | exact Or.inl rfl | exact Or.inr rfl)))) (fun s H C cl fp => zts_nil) (fun s H C cl fp => (ze_call k_half_pair hr (by omega) (za_cons (ze_var (pv 0)) (za_cons (ze_var (pv 1)) (za_cons (ze_var (pv 2)) za_nil))) (len_cons (len_cons (len_cons len_nil)))))))))
theorem bi_is_lone (Fu : FunD K d_is_lone.name d_is_lone.qual d_is_lone.params d_is_lone.body d_is_lone.scope [] [] f fd) : Binds K fd ["pair"] [] := Fu.bindsN fun _ _ _ _ _ _ us hl => match us, hl with | [_], _ => rfl
theorem ok_is_lone (Fu : FunD K d_is_lone.name d_is_lone.qual d_is_lone.params d_is_lone.body d_is_lone.scope [] [] f fd) (m_isinstance : mg "isinstance" = none) (m_str : mg "str" = none) : FnOk P w K mg base CX0 1 f fd ["pair"] (spZ K w 1 f_is_lone) :=
  okF (k := 0) (g := b_is_lone) Fu sc_is_lone rfl rfl (fun cdv A outer s H E E' hr =>
    have hu := hr.units
    have hu2 := u65 hr
    have hN := sc_is_lone.nd
    (zss_one (zs_ret (ze_cmp (op_neZ hu) os_ne (ze_isi1 m_isinstance (ze_ix hu (ze_var (pv 0)) ze_int) (pe_tyn m_str boot_str)) (ze_isi1 m_isinstance (ze_ix hu (ze_var (pv 0)) ze_int) (pe_tyn m_str boot_str)) (nomark _)))))
theorem bi_Edge_count (Fu : FunD K d_Edge_count.name d_Edge_count.qual d_Edge_count.params d_Edge_count.body d_Edge_count.scope [] [] f fd) : Binds K fd ["self"] [] := Fu.bindsN fun _ _ _ _ _ _ us hl => match us, hl with | [_], _ => rfl
theorem ok_Edge_count (Fu : FunD K d_Edge_count.name d_Edge_count.qual d_Edge_count.params d_Edge_count.body d_Edge_count.scope [] [] f fd) (k_halves_of : CalZ P w K mg base 5 "halves_of" 2 f_halves_of) (k_is_lone : CalZ P w K mg base 1 "is_lone" 1 f_is_lone) (k_cls_Edge : Cls K (He.ga K "Edge")) (k_na_Edge_numbers : NoAttr K (He.ga K "Edge") "numbers") (k_na_Edge_own_house : NoAttr K (He.ga K "Edge") "own_house") (k_na_Edge_pairs : NoAttr K (He.ga K "Edge") "pairs") (m_len : mg "len" = none) (m_max : mg "max" = none) : FnOk P w K mg base CX0 6 f fd ["self"] (spZ K w 1 f_Edge_count) :=
  okF (k := 5) (g := b_Edge_count) Fu sc_Edge_count rfl rfl (fun cdv A outer s H E E' hr =>
    have hu := hr.units
    have hu2 := u65 hr
    have hN := sc_Edge_count.nd
    (zss_cons (zs_lc (i := 1) fin_l rfl hN rfl rfl rfl (zi_val (ze_fld "Edge" k_cls_Edge k_na_Edge_pairs (ze_var (pv 0)))) (blkOk_by (own := [("pair", 3)]) (by kernel_rfl)) (fun s H C cl fp => (zgw_name (i := 3) (pg_name hN rfl (by first | exact Or.inl rfl | exact Or.inr rfl)))) (fun s H C cl fp => (zts_one (zt_val (ze_call k_is_lone hr (by omega) (za_cons (ze_var (pv 3)) za_nil) (len_cons len_nil))))) (fun s H C cl fp => (ze_var (pv 3))))
    (zss_cons (zs_fld "Edge" k_cls_Edge k_na_Edge_numbers (ze_var (pv 0)) (ze_dc hu finG_dc rfl hN (zi_val (ze_fld "Edge" k_cls_Edge k_na_Edge_pairs (ze_var (pv 0)))) (blkOk_by (own := [("pair", 3)]) (by kernel_rfl)) (fun s H C cl fp => (zgw_name (i := 3) (pg_name hN rfl (by first | exact Or.inl rfl | exact Or.inr rfl)))) (fun s H C cl fp => (zts_one (zt_not (zt_val (ze_call k_is_lone hr (by omega) (za_cons (ze_var (pv 3)) za_nil) (len_cons len_nil)))))) (fun s H C cl fp => (ze_var (pv 3))) (fun s H C cl fp => ze_int)))
    (zss_cons (zs_set (i := 2) hN rfl (by first | exact Or.inl rfl | exact Or.inr rfl) (ze_op op_addZ os_add (ze_blt cr_len bs_len m_len boot_len (za_cons (ze_var (pv 1)) za_nil)) ze_int))
    (zss_one (zs_while PassesOwn.never (zt_cmp op_ltZ os_lt (ze_blt cr_len bs_len m_len boot_len (za_cons (ze_var (pv 1)) za_nil)) (ze_var (pv 2)) (nomark _)) (zss_cons (zs_set (i := 2) hN rfl (by first | exact Or.inl rfl | exact Or.inr rfl) (ze_blt cr_len bs_len m_len boot_len (za_cons (ze_var (pv 1)) za_nil)))
    (zss_cons (zs_for PassesOwn.never rfl (zi_val (ze_var (pv 1))) (zg_name (i := 3) (pg_name hN rfl (by first | exact Or.inl rfl | exact Or.inr rfl))) (zss_cons (zs_lc (i := 4) fin_l rfl hN rfl rfl rfl (zi_val (ze_call k_halves_of hr (by omega) (za_cons (ze_fld "Edge" k_cls_Edge k_na_Edge_own_house (ze_var (pv 0))) (za_cons (ze_var (pv 3)) za_nil)) (len_cons (len_cons len_nil)))) (blkOk_by (own := [("later", 5)]) (by kernel_rfl)) (fun s H C cl fp => (zgw_name (i := 5) (pg_name hN rfl (by first | exact Or.inl rfl | exact Or.inr rfl)))) (fun s H C cl fp => zts_nil) (fun s H C cl fp => (ze_get1 hu (ze_fld "Edge" k_cls_Edge k_na_Edge_numbers (ze_var (pv 0))) (za_cons (ze_var (pv 5)) za_nil))))
    (zss_one (zs_if (zt_cmp (op_notInZ hu2) os_notIn ze_non (ze_var (pv 4)) (by with_unfolding_all rfl)) (zss_one (zs_asg (ze_op op_addZ os_add ze_int (ze_blt (cr_max rfl) bs_max m_max boot_max (za_cons (ze_var (pv 4)) za_nil))) (zg_sub hu (ze_fld "Edge" k_cls_Edge k_na_Edge_numbers (ze_var (pv 0))) (ze_var (pv 3))))) zss_nil))))
    (zss_one (zs_lc (i := 1) fin_l rfl hN rfl rfl rfl (zi_val (ze_var (pv 1))) (blkOk_by (own := [("pair", 3)]) (by kernel_rfl)) (fun s H C cl fp => (zgw_name (i := 3) (pg_name hN rfl (by first | exact Or.inl rfl | exact Or.inr rfl)))) (fun s H C cl fp => (zts_one (zt_cmp (op_notInZ hu2) os_notIn (ze_var (pv 3)) (ze_fld "Edge" k_cls_Edge k_na_Edge_numbers (ze_var (pv 0))) (by with_unfolding_all rfl)))) (fun s H C cl fp => (ze_var (pv 3)))))))))))))
theorem bi_Edge_walk (Fu : FunD K d_Edge_walk.name d_Edge_walk.qual d_Edge_walk.params d_Edge_walk.body d_Edge_walk.scope [] [] f fd) : Binds K fd ["self"] [] := Fu.bindsN fun _ _ _ _ _ _ us hl => match us, hl with | [_], _ => rfl
theorem ok_Edge_walk (Fu : FunD K d_Edge_walk.name d_Edge_walk.qual d_Edge_walk.params d_Edge_walk.body d_Edge_walk.scope [] [] f fd) (k_halves_of : CalZ P w K mg base 5 "halves_of" 2 f_halves_of) (k_cls_Edge : Cls K (He.ga K "Edge")) (k_na_Edge_own_house : NoAttr K (He.ga K "Edge") "own_house") (k_na_Edge_pairs : NoAttr K (He.ga K "Edge") "pairs") (k_na_Edge_rows : NoAttr K (He.ga K "Edge") "rows") (m_enumerate : mg "enumerate" = none) (m_len : mg "len" = none) : FnOk P w K mg base CX0 6 f fd ["self"] (spZ K w 1 f_Edge_walk) :=
  okF (k := 5) (g := b_Edge_walk) Fu sc_Edge_walk rfl rfl (fun cdv A outer s H E E' hr =>
    have hu := hr.units
    have hu2 := u65 hr
    have hN := sc_Edge_walk.nd
    (zss_cons (zs_set (i := 1) hN rfl (by first | exact Or.inl rfl | exact Or.inr rfl) ze_int)
    (zss_one (zs_while PassesOwn.never (zt_cmp op_ltZ os_lt (ze_var (pv 1)) (ze_blt cr_len bs_len m_len boot_len (za_cons (ze_fld "Edge" k_cls_Edge k_na_Edge_pairs (ze_var (pv 0))) za_nil)) (nomark _)) (zss_cons (zs_set (i := 2) hN rfl (by first | exact Or.inl rfl | exact Or.inr rfl) (ze_ix hu (ze_fld "Edge" k_cls_Edge k_na_Edge_pairs (ze_var (pv 0))) (ze_var (pv 1))))
    (zss_cons (zs_for PassesOwn.never rfl (zi_enum (by rfl) m_enumerate (za_cons (ze_call k_halves_of hr (by omega) (za_cons (ze_fld "Edge" k_cls_Edge k_na_Edge_own_house (ze_var (pv 0))) (za_cons (ze_var (pv 2)) za_nil)) (len_cons (len_cons len_nil))) za_nil)) (zg_tup rfl (zgs_cons (zg_name (i := 3) (pg_name hN rfl (by first | exact Or.inl rfl | exact Or.inr rfl))) (zgs_cons (zg_name (i := 4) (pg_name hN rfl (by first | exact Or.inl rfl | exact Or.inr rfl))) zgs_nil))) (zss_one (zs_if (zt_cmp (op_notInZ hu2) os_notIn (ze_var (pv 4)) (ze_fld "Edge" k_cls_Edge k_na_Edge_rows (ze_var (pv 0))) (by with_unfolding_all rfl)) (zss_cons (zs_asg (ze_op op_addZ os_add (ze_ix hu (ze_fld "Edge" k_cls_Edge k_na_Edge_rows (ze_var (pv 0))) (ze_var (pv 2))) (ze_tup (za_cons (ze_var (pv 3)) za_nil) (len_cons len_nil))) (zg_sub hu (ze_fld "Edge" k_cls_Edge k_na_Edge_rows (ze_var (pv 0))) (ze_var (pv 4))))
    (zss_one (zs_drop (ze_append (ze_fld "Edge" k_cls_Edge k_na_Edge_pairs (ze_var (pv 0))) (za_cons (ze_var (pv 4)) za_nil))))) zss_nil)))
    (zss_one (zs_aug (i := 1) hN rfl (by first | exact Or.inl rfl | exact Or.inr rfl) ze_int ip_addI os_addI))))))))
theorem bi_Edge_init (Fu : FunD K d_Edge_init.name d_Edge_init.qual d_Edge_init.params d_Edge_init.body d_Edge_init.scope [] [] f fd) : Binds K fd ["self", "house", "one", "other"] [] := Fu.bindsN fun _ _ _ _ _ _ us hl => match us, hl with | [_, _, _, _], _ => rfl
theorem ok_Edge_init (Fu : FunD K d_Edge_init.name d_Edge_init.qual d_Edge_init.params d_Edge_init.body d_Edge_init.scope [] [] f fd) (k_cls_Edge : Cls K (He.ga K "Edge")) (k_na_Edge_numbers : NoAttr K (He.ga K "Edge") "numbers") (k_na_Edge_own_house : NoAttr K (He.ga K "Edge") "own_house") (k_na_Edge_pairs : NoAttr K (He.ga K "Edge") "pairs") (k_na_Edge_rows : NoAttr K (He.ga K "Edge") "rows") (k_Edge_count : MetZ P w K mg base 6 "Edge" "count" 1 f_Edge_count) (k_Edge_walk : MetZ P w K mg base 6 "Edge" "walk" 1 f_Edge_walk) : FnOk P w K mg base CX0 7 f fd ["self", "house", "one", "other"] (spZ K w 4 f_Edge_init) :=
  okF (k := 6) (g := b_Edge_init) Fu sc_Edge_init rfl rfl (fun cdv A outer s H E E' hr =>
    have hu := hr.units
    have hu2 := u65 hr
    have hN := sc_Edge_init.nd
    (zss_cons (zs_fld "Edge" k_cls_Edge k_na_Edge_own_house (ze_var (pv 0)) (ze_var (pv 1)))
    (zss_cons (zs_fld "Edge" k_cls_Edge k_na_Edge_rows (ze_var (pv 0)) (ze_dct hu finG_dc (zp_cons (ze_tup (za_cons (ze_var (pv 2)) (za_cons (ze_var (pv 3)) za_nil)) (len_cons (len_cons len_nil))) (ze_tup za_nil len_nil) zp_nil)))
    (zss_cons (zs_fld "Edge" k_cls_Edge k_na_Edge_pairs (ze_var (pv 0)) (ze_cel (za_cons (ze_tup (za_cons (ze_var (pv 2)) (za_cons (ze_var (pv 3)) za_nil)) (len_cons (len_cons len_nil))) za_nil) (len_cons len_nil)))
    (zss_cons (zs_fld "Edge" k_cls_Edge k_na_Edge_numbers (ze_var (pv 0)) ze_dcC)
    (zss_cons (zs_drop (ze_meth0 k_Edge_walk hr (by omega) (ze_var (pv 0))))
    (zss_one (zs_drop (ze_meth0 k_Edge_count hr (by omega) (ze_var (pv 0)))))))))))
theorem bi_is_ended (Fu : FunD K d_is_ended.name d_is_ended.qual d_is_ended.params d_is_ended.body d_is_ended.scope [] [] f fd) : Binds K fd ["pair"] [] := Fu.bindsN fun _ _ _ _ _ _ us hl => match us, hl with | [_], _ => rfl
theorem ok_is_ended (Fu : FunD K d_is_ended.name d_is_ended.qual d_is_ended.params d_is_ended.body d_is_ended.scope [] [] f fd) (m_isinstance : mg "isinstance" = none) (m_str : mg "str" = none) : FnOk P w K mg base CX0 1 f fd ["pair"] (spZ K w 1 f_is_ended) :=
  okF (k := 0) (g := b_is_ended) Fu sc_is_ended rfl rfl (fun cdv A outer s H E E' hr =>
    have hu := hr.units
    have hu2 := u65 hr
    have hN := sc_is_ended.nd
    (zss_one (zs_ret (ze_and (ze_isi1 m_isinstance (ze_ix hu (ze_var (pv 0)) ze_int) (pe_tyn m_str boot_str)) (ze_one (ze_isi1 m_isinstance (ze_ix hu (ze_var (pv 0)) ze_int) (pe_tyn m_str boot_str)))))))
theorem bi_Edge_unlike (Fu : FunD K d_Edge_unlike.name d_Edge_unlike.qual d_Edge_unlike.params d_Edge_unlike.body d_Edge_unlike.scope [] [] f fd) : Binds K fd ["self"] [] := Fu.bindsN fun _ _ _ _ _ _ us hl => match us, hl with | [_], _ => rfl
theorem ok_Edge_unlike (Fu : FunD K d_Edge_unlike.name d_Edge_unlike.qual d_Edge_unlike.params d_Edge_unlike.body d_Edge_unlike.scope [] [] f fd) (k_is_ended : CalZ P w K mg base 1 "is_ended" 1 f_is_ended) (k_cls_Edge : Cls K (He.ga K "Edge")) (k_na_Edge_pairs : NoAttr K (He.ga K "Edge") "pairs") (m_len : mg "len" = none) : FnOk P w K mg base CX0 2 f fd ["self"] (spZ K w 1 f_Edge_unlike) :=
  okF (k := 1) (g := b_Edge_unlike) Fu sc_Edge_unlike rfl rfl (fun cdv A outer s H E E' hr =>
    have hu := hr.units
    have hu2 := u65 hr
    have hN := sc_Edge_unlike.nd
    (zss_cons (zs_lc (i := 1) fin_l rfl hN rfl rfl rfl (zi_val (ze_fld "Edge" k_cls_Edge k_na_Edge_pairs (ze_var (pv 0)))) (blkOk_by (own := [("pair", 2)]) (by kernel_rfl)) (fun s H C cl fp => (zgw_name (i := 2) (pg_name hN rfl (by first | exact Or.inl rfl | exact Or.inr rfl)))) (fun s H C cl fp => (zts_one (zt_w (zw_and (zt_val (ze_call k_is_ended hr (by omega) (za_cons (ze_var (pv 2)) za_nil) (len_cons len_nil))) (zw_and1 (zt_cmp (op_neZ hu) os_ne (ze_ix hu (ze_var (pv 2)) ze_int) (ze_ix hu (ze_var (pv 2)) ze_int) (nomark _))))))) (fun s H C cl fp => (ze_var (pv 2))))
    (zss_one (zs_ret (ze_if (zt_cmp op_gt os_gt (ze_blt cr_len bs_len m_len boot_len (za_cons (ze_var (pv 1)) za_nil)) ze_int (nomark _)) (ze_ix hu (ze_var (pv 1)) ze_int) ze_non)))))
theorem bi_fit_paper (Fu : FunD K d_fit_paper.name d_fit_paper.qual d_fit_paper.params d_fit_paper.body d_fit_paper.scope [] [] f fd) : Binds K fd ["house", "one", "other"] [] := Fu.bindsN fun _ _ _ _ _ _ us hl => match us, hl with | [_, _, _], _ => rfl
theorem ok_fit_paper (Fu : FunD K d_fit_paper.name d_fit_paper.qual d_fit_paper.params d_fit_paper.body d_fit_paper.scope [] [] f fd) (k_cls_Edge : Cls K (He.ga K "Edge")) (k_na_Edge_numbers : NoAttr K (He.ga K "Edge") "numbers") (k_na_Edge_pairs : NoAttr K (He.ga K "Edge") "pairs") (k_mk_Edge : MakZ P w K mg base 7 "Edge" 4 f_Edge_init) (k_Edge_unlike : MetZ P w K mg base 2 "Edge" "unlike" 1 f_Edge_unlike) (m_len : mg "len" = none) : FnOk P w K mg base CX0 9 f fd ["house", "one", "other"] (spZ K w 3 f_fit_paper) :=
  okF (k := 8) (g := b_fit_paper) Fu sc_fit_paper rfl rfl (fun cdv A outer s H E E' hr =>
    have hu := hr.units
    have hu2 := u65 hr
    have hN := sc_fit_paper.nd
    (zss_cons (zs_set (i := 3) hN rfl (by first | exact Or.inl rfl | exact Or.inr rfl) (ze_make k_mk_Edge hr (by omega) (za_cons (ze_var (pv 0)) (za_cons (ze_var (pv 1)) (za_cons (ze_var (pv 2)) za_nil))) (len_cons (len_cons (len_cons len_nil)))))
    (zss_cons (zs_if (zt_w (zw_or (zt_cmp op_isNotZ os_isNot (ze_meth0 k_Edge_unlike hr (by omega) (ze_var (pv 3))) ze_non (nomark _)) (zw_or1 (zt_cmp op_ltZ os_lt (ze_blt cr_len bs_len m_len boot_len (za_cons (ze_fld "Edge" k_cls_Edge k_na_Edge_numbers (ze_var (pv 3))) za_nil)) (ze_blt cr_len bs_len m_len boot_len (za_cons (ze_fld "Edge" k_cls_Edge k_na_Edge_pairs (ze_var (pv 3))) za_nil)) (nomark _))))) (zss_one (zs_ret ze_non)) zss_nil)
    (zss_one (zs_ret (ze_lc fin_l rfl hN (zi_val (ze_fld "Edge" k_cls_Edge k_na_Edge_pairs (ze_var (pv 3)))) (blkOk_by (own := [("first", 4), ("second", 5)]) (by kernel_rfl)) (fun s H C cl fp => (zgw_tup rfl (zgsw_cons (zgw_name (i := 4) (pg_name hN rfl (by first | exact Or.inl rfl | exact Or.inr rfl))) (zgsw_cons (zgw_name (i := 5) (pg_name hN rfl (by first | exact Or.inl rfl | exact Or.inr rfl))) zgsw_nil)))) (fun s H C cl fp => zts_nil) (fun s H C cl fp => (ze_tup (za_cons (ze_var (pv 4)) (za_cons (ze_var (pv 5)) (za_cons (ze_ix hu (ze_fld "Edge" k_cls_Edge k_na_Edge_numbers (ze_var (pv 3))) (ze_tup (za_cons (ze_var (pv 4)) (za_cons (ze_var (pv 5)) za_nil)) (len_cons (len_cons len_nil)))) za_nil))) (len_cons (len_cons (len_cons len_nil)))))))))))
theorem bi_Edge_endless (Fu : FunD K d_Edge_endless.name d_Edge_endless.qual d_Edge_endless.params d_Edge_endless.body d_Edge_endless.scope [] [] f fd) : Binds K fd ["self"] [] := Fu.bindsN fun _ _ _ _ _ _ us hl => match us, hl with | [_], _ => rfl
theorem ok_Edge_endless (Fu : FunD K d_Edge_endless.name d_Edge_endless.qual d_Edge_endless.params d_Edge_endless.body d_Edge_endless.scope [] [] f fd) (k_halves_of : CalZ P w K mg base 5 "halves_of" 2 f_halves_of) (k_cls_Edge : Cls K (He.ga K "Edge")) (k_na_Edge_numbers : NoAttr K (He.ga K "Edge") "numbers") (k_na_Edge_own_house : NoAttr K (He.ga K "Edge") "own_house") (k_na_Edge_pairs : NoAttr K (He.ga K "Edge") "pairs") (k_na_Edge_rows : NoAttr K (He.ga K "Edge") "rows") (m_enumerate : mg "enumerate" = none) (m_len : mg "len" = none) (m_tuple : mg "tuple" = none) : FnOk P w K mg base CX0 6 f fd ["self"] (spZ K w 1 f_Edge_endless) :=
  okF (k := 5) (g := b_Edge_endless) Fu sc_Edge_endless rfl rfl (fun cdv A outer s H E E' hr =>
    have hu := hr.units
    have hu2 := u65 hr
    have hN := sc_Edge_endless.nd
    (zss_cons (zs_lc (i := 1) fin_l rfl hN rfl rfl rfl (zi_val (ze_fld "Edge" k_cls_Edge k_na_Edge_pairs (ze_var (pv 0)))) (blkOk_by (own := [("pair", 3)]) (by kernel_rfl)) (fun s H C cl fp => (zgw_name (i := 3) (pg_name hN rfl (by first | exact Or.inl rfl | exact Or.inr rfl)))) (fun s H C cl fp => (zts_one (zt_cmp (op_notInZ hu2) os_notIn (ze_var (pv 3)) (ze_fld "Edge" k_cls_Edge k_na_Edge_numbers (ze_var (pv 0))) (by with_unfolding_all rfl)))) (fun s H C cl fp => (ze_var (pv 3))))
    (zss_cons (zs_if (zt_cmp (op_eqZ hu) os_eq (ze_blt cr_len bs_len m_len boot_len (za_cons (ze_var (pv 1)) za_nil)) ze_int (nomark _)) (zss_one (zs_ret ze_non)) zss_nil)
    (zss_cons (zs_par3 (fun h => ps_par3 (i := 3) (j := 4) (l := 5) rfl hN rfl rfl rfl (by decide) (by decide) (by decide) rfl rfl rfl h rfl) (za_cons (ze_ix hu (ze_var (pv 1)) ze_int) (za_cons (ze_cel za_nil len_nil) (za_cons (ze_cel za_nil len_nil) za_nil))))
    (zss_cons (zs_while PassesOwn.never (zt_cmp (op_notInZ hu2) os_notIn (ze_var (pv 3)) (ze_var (pv 4)) (by with_unfolding_all rfl)) (zss_cons (zs_drop (ze_append (ze_var (pv 4)) (za_cons (ze_var (pv 3)) za_nil)))
    (zss_cons (zs_set (i := 6) hN rfl (by first | exact Or.inl rfl | exact Or.inr rfl) (ze_call k_halves_of hr (by omega) (za_cons (ze_fld "Edge" k_cls_Edge k_na_Edge_own_house (ze_var (pv 0))) (za_cons (ze_var (pv 3)) za_nil)) (len_cons (len_cons len_nil))))
    (zss_cons (zs_lc (i := 7) fin_l rfl hN rfl rfl rfl (zi_enum (by rfl) m_enumerate (za_cons (ze_var (pv 6)) za_nil)) (blkOk_by (own := [("half", 8), ("later", 9)]) (by kernel_rfl)) (fun s H C cl fp => (zgw_tup rfl (zgsw_cons (zgw_name (i := 8) (pg_name hN rfl (by first | exact Or.inl rfl | exact Or.inr rfl))) (zgsw_cons (zgw_name (i := 9) (pg_name hN rfl (by first | exact Or.inl rfl | exact Or.inr rfl))) zgsw_nil)))) (fun s H C cl fp => (zts_one (zt_cmp (op_notInZ hu2) os_notIn (ze_var (pv 9)) (ze_fld "Edge" k_cls_Edge k_na_Edge_numbers (ze_var (pv 0))) (by with_unfolding_all rfl)))) (fun s H C cl fp => (ze_tup (za_cons (ze_var (pv 8)) (za_cons (ze_var (pv 9)) za_nil)) (len_cons (len_cons len_nil)))))
    (zss_cons (zs_drop (ze_append (ze_var (pv 5)) (za_cons (ze_ix hu (ze_ix hu (ze_var (pv 7)) ze_int) ze_int) za_nil)))
    (zss_one (zs_set (i := 3) hN rfl (by first | exact Or.inl rfl | exact Or.inr rfl) (ze_ix hu (ze_ix hu (ze_var (pv 7)) ze_int) ze_int))))))))
    (zss_cons (zs_set (i := 2) hN rfl (by first | exact Or.inl rfl | exact Or.inr rfl) (ze_index hu2 (ze_var (pv 4)) (za_cons (ze_var (pv 3)) za_nil)))
    (zss_one (zs_ret (ze_tup (za_cons (ze_op op_addZ os_add (ze_ix hu (ze_fld "Edge" k_cls_Edge k_na_Edge_rows (ze_var (pv 0))) (ze_ix hu (ze_var (pv 4)) ze_int)) (ze_bty cr_tuple bs_tuple m_tuple boot_tuple (za_cons (ze_sl (ze_var (pv 5)) zo_none (zo_some (ze_var (pv 2)))) za_nil))) (za_cons (ze_bty cr_tuple bs_tuple m_tuple boot_tuple (za_cons (ze_sl (ze_var (pv 5)) (zo_some (ze_var (pv 2))) zo_none) za_nil)) za_nil)) (len_cons (len_cons len_nil)))))))))))
theorem bi_misfit (Fu : FunD K d_misfit.name d_misfit.qual d_misfit.params d_misfit.body d_misfit.scope [] [] f fd) : Binds K fd ["house", "one", "other"] [] := Fu.bindsN fun _ _ _ _ _ _ us hl => match us, hl with | [_, _, _], _ => rfl
theorem ok_misfit (Fu : FunD K d_misfit.name d_misfit.qual d_misfit.params d_misfit.body d_misfit.scope [] [] f fd) (k_cls_Edge : Cls K (He.ga K "Edge")) (k_na_Edge_rows : NoAttr K (He.ga K "Edge") "rows") (k_mk_Edge : MakZ P w K mg base 7 "Edge" 4 f_Edge_init) (k_Edge_endless : MetZ P w K mg base 6 "Edge" "endless" 1 f_Edge_endless) (k_Edge_unlike : MetZ P w K mg base 2 "Edge" "unlike" 1 f_Edge_unlike) : FnOk P w K mg base CX0 9 f fd ["house", "one", "other"] (spZ K w 3 f_misfit) :=
  okF (k := 8) (g := b_misfit) Fu sc_misfit rfl rfl (fun cdv A outer s H E E' hr =>
    have hu := hr.units
    have hu2 := u65 hr
    have hN := sc_misfit.nd
    (zss_cons (zs_set (i := 3) hN rfl (by first | exact Or.inl rfl | exact Or.inr rfl) (ze_make k_mk_Edge hr (by omega) (za_cons (ze_var (pv 0)) (za_cons (ze_var (pv 1)) (za_cons (ze_var (pv 2)) za_nil))) (len_cons (len_cons (len_cons len_nil)))))
    (zss_cons (zs_set (i := 4) hN rfl (by first | exact Or.inl rfl | exact Or.inr rfl) (ze_meth0 k_Edge_unlike hr (by omega) (ze_var (pv 3))))
    (zss_one (zs_ret (ze_if (zt_cmp op_isZ os_is (ze_var (pv 4)) ze_non (nomark _)) (ze_meth0 k_Edge_endless hr (by omega) (ze_var (pv 3))) (ze_tup (za_cons (ze_ix hu (ze_fld "Edge" k_cls_Edge k_na_Edge_rows (ze_var (pv 3))) (ze_var (pv 4))) (za_cons (ze_tup (za_cons ze_int za_nil) (len_cons len_nil)) za_nil)) (len_cons (len_cons len_nil)))))))))
theorem bi_fits (Fu : FunD K d_fits.name d_fits.qual d_fits.params d_fits.body d_fits.scope [] [] f fd) : Binds K fd ["house", "one", "other"] [] := Fu.bindsN fun _ _ _ _ _ _ us hl => match us, hl with | [_, _, _], _ => rfl
theorem ok_fits (Fu : FunD K d_fits.name d_fits.qual d_fits.params d_fits.body d_fits.scope [] [] f fd) (k_misfit : CalZ P w K mg base 9 "misfit" 3 f_misfit) : FnOk P w K mg base CX0 10 f fd ["house", "one", "other"] (spZ K w 3 f_fits) :=
  okF (k := 9) (g := b_fits) Fu sc_fits rfl rfl (fun cdv A outer s H E E' hr =>
    have hu := hr.units
    have hu2 := u65 hr
    have hN := sc_fits.nd
    (zss_one (zs_ret (ze_cmp op_isZ os_is (ze_call k_misfit hr (by omega) (za_cons (ze_var (pv 0)) (za_cons (ze_var (pv 1)) (za_cons (ze_var (pv 2)) za_nil))) (len_cons (len_cons (len_cons len_nil)))) ze_non (nomark _)))))
theorem bi_is_kept (Fu : FunD K d_is_kept.name d_is_kept.qual d_is_kept.params d_is_kept.body d_is_kept.scope [] [] f fd) : Binds K fd ["house", "pair", "numbers"] [] := Fu.bindsN fun _ _ _ _ _ _ us hl => match us, hl with | [_, _, _], _ => rfl
theorem ok_is_kept (Fu : FunD K d_is_kept.name d_is_kept.qual d_is_kept.params d_is_kept.body d_is_kept.scope [] [] f fd) (k_halves_of : CalZ P w K mg base 5 "halves_of" 2 f_halves_of) (k_is_ended : CalZ P w K mg base 1 "is_ended" 1 f_is_ended) (k_is_lone : CalZ P w K mg base 1 "is_lone" 1 f_is_lone) (m_all : mg "all" = none) : FnOk P w K mg base CX0 6 f fd ["house", "pair", "numbers"] (spZ K w 3 f_is_kept) :=
  okF (k := 5) (g := b_is_kept) Fu sc_is_kept rfl rfl (fun cdv A outer s H E E' hr =>
    have hu := hr.units
    have hu2 := u65 hr
    have hN := sc_is_kept.nd
    (zss_cons (zs_if (zt_val (ze_call k_is_ended hr (by omega) (za_cons (ze_var (pv 1)) za_nil) (len_cons len_nil))) (zss_one (zs_ret (ze_cmp (op_eqZ hu) os_eq (ze_ix hu (ze_var (pv 1)) ze_int) (ze_ix hu (ze_var (pv 1)) ze_int) (nomark _)))) zss_nil)
    (zss_cons (zs_lc (i := 3) fin_l rfl hN rfl rfl rfl (zi_val (ze_call k_halves_of hr (by omega) (za_cons (ze_var (pv 0)) (za_cons (ze_var (pv 1)) za_nil)) (len_cons (len_cons len_nil)))) (blkOk_by (own := [("half", 4)]) (by kernel_rfl)) (fun s H C cl fp => (zgw_name (i := 4) (pg_name hN rfl (by first | exact Or.inl rfl | exact Or.inr rfl)))) (fun s H C cl fp => zts_nil) (fun s H C cl fp => (ze_get1 hu (ze_var (pv 2)) (za_cons (ze_var (pv 4)) za_nil))))
    (zss_cons (zs_if (zt_cmp (op_inZ hu2) os_in ze_non (ze_var (pv 3)) (by with_unfolding_all rfl)) (zss_one (zs_ret ze_bl)) zss_nil)
    (zss_one (zs_ret (ze_or (ze_not (ze_call k_is_lone hr (by omega) (za_cons (ze_var (pv 1)) za_nil) (len_cons len_nil))) (ze_one (ze_blt (cr_all rfl) bs_all m_all boot_all (za_cons (ze_lc fin_l rfl hN (zi_val (ze_var (pv 3))) (blkOk_by (own := [("number", 5)]) (by kernel_rfl)) (fun s H C cl fp => (zgw_name (i := 5) (pg_name hN rfl (by first | exact Or.inl rfl | exact Or.inr rfl)))) (fun s H C cl fp => zts_nil) (fun s H C cl fp => (ze_cmp op_ltZ os_lt (ze_var (pv 5)) (ze_ix hu (ze_var (pv 2)) (ze_var (pv 1))) (nomark _)))) za_nil))))))))))
theorem bi_is_number (Fu : FunD K d_is_number.name d_is_number.qual d_is_number.params d_is_number.body d_is_number.scope [] [] f fd) : Binds K fd ["thing"] [] := Fu.bindsN fun _ _ _ _ _ _ us hl => match us, hl with | [_], _ => rfl
theorem ok_is_number (Fu : FunD K d_is_number.name d_is_number.qual d_is_number.params d_is_number.body d_is_number.scope [] [] f fd) (m_bool : mg "bool" = none) (m_int : mg "int" = none) (m_isinstance : mg "isinstance" = none) : FnOk P w K mg base CX0 1 f fd ["thing"] (spZ K w 1 f_is_number) :=
  okF (k := 0) (g := b_is_number) Fu sc_is_number rfl rfl (fun cdv A outer s H E E' hr =>
    have hu := hr.units
    have hu2 := u65 hr
    have hN := sc_is_number.nd
    (zss_one (zs_ret (ze_and (ze_isi1 m_isinstance (ze_var (pv 0)) (pe_tyn m_int boot_int)) (ze_one (ze_not (ze_isi1 m_isinstance (ze_var (pv 0)) (pe_tyn m_bool boot_bool))))))))
theorem bi_is_colour (Fu : FunD K d_is_colour.name d_is_colour.qual d_is_colour.params d_is_colour.body d_is_colour.scope [] [] f fd) : Binds K fd ["thing"] [] := Fu.bindsN fun _ _ _ _ _ _ us hl => match us, hl with | [_], _ => rfl
theorem ok_is_colour (Fu : FunD K d_is_colour.name d_is_colour.qual d_is_colour.params d_is_colour.body d_is_colour.scope [] [] f fd) (k_LETTERS : ConZ mg K w "LETTERS" c_LETTERS) (k_MOST_LETTERS : ConZ mg K w "MOST_LETTERS" c_MOST_LETTERS) (m_all : mg "all" = none) (m_isinstance : mg "isinstance" = none) (m_len : mg "len" = none) (m_str : mg "str" = none) : FnOk P w K mg base CX0 1 f fd ["thing"] (spZ K w 1 f_is_colour) :=
  okF (k := 0) (g := b_is_colour) Fu sc_is_colour rfl rfl (fun cdv A outer s H E E' hr =>
    have hu := hr.units
    have hu2 := u65 hr
    have hN := sc_is_colour.nd
    (zss_one (zs_ret (ze_and (ze_isi1 m_isinstance (ze_var (pv 0)) (pe_tyn m_str boot_str)) (ze_and (ze_chn op_ltZ os_lt op_le os_le ze_int (ze_blt cr_len bs_len m_len boot_len (za_cons (ze_var (pv 0)) za_nil)) (ze_con k_MOST_LETTERS)) (ze_one (ze_blt (cr_all rfl) bs_all m_all boot_all (za_cons (ze_lc fin_l rfl hN (zi_val (ze_var (pv 0))) (blkOk_by (own := [("letter", 1)]) (by kernel_rfl)) (fun s H C cl fp => (zgw_name (i := 1) (pg_name hN rfl (by first | exact Or.inl rfl | exact Or.inr rfl)))) (fun s H C cl fp => zts_nil) (fun s H C cl fp => (ze_cmp (op_inZ hu2) os_in (ze_var (pv 1)) (ze_con k_LETTERS) (by with_unfolding_all rfl)))) za_nil))))))))
theorem bi_is_below (Fu : FunD K d_is_below.name d_is_below.qual d_is_below.params d_is_below.body d_is_below.scope [] [] f fd) : Binds K fd ["thing", "many"] [] := Fu.bindsN fun _ _ _ _ _ _ us hl => match us, hl with | [_, _], _ => rfl
theorem ok_is_below (Fu : FunD K d_is_below.name d_is_below.qual d_is_below.params d_is_below.body d_is_below.scope [] [] f fd) (k_is_number : CalZ P w K mg base 1 "is_number" 1 f_is_number) : FnOk P w K mg base CX0 2 f fd ["thing", "many"] (spZ K w 2 f_is_below) :=
  okF (k := 1) (g := b_is_below) Fu sc_is_below rfl rfl (fun cdv A outer s H E E' hr =>
    have hu := hr.units
    have hu2 := u65 hr
    have hN := sc_is_below.nd
    (zss_one (zs_ret (ze_and (ze_call k_is_number hr (by omega) (za_cons (ze_var (pv 0)) za_nil) (len_cons len_nil)) (ze_one (ze_chn op_le os_le op_ltZ os_lt ze_int (ze_var (pv 0)) (ze_var (pv 1))))))))
theorem bi_is_turn (Fu : FunD K d_is_turn.name d_is_turn.qual d_is_turn.params d_is_turn.body d_is_turn.scope [] [] f fd) : Binds K fd ["thing"] [] := Fu.bindsN fun _ _ _ _ _ _ us hl => match us, hl with | [_], _ => rfl
theorem ok_is_turn (Fu : FunD K d_is_turn.name d_is_turn.qual d_is_turn.params d_is_turn.body d_is_turn.scope [] [] f fd) (k_SHOWN : ConZ mg K w "SHOWN" c_SHOWN) (k_is_below : CalZ P w K mg base 2 "is_below" 2 f_is_below) (m_len : mg "len" = none) : FnOk P w K mg base CX0 3 f fd ["thing"] (spZ K w 1 f_is_turn) :=
  okF (k := 2) (g := b_is_turn) Fu sc_is_turn rfl rfl (fun cdv A outer s H E E' hr =>
    have hu := hr.units
    have hu2 := u65 hr
    have hN := sc_is_turn.nd
    (zss_one (zs_ret (ze_call k_is_below hr (by omega) (za_cons (ze_var (pv 0)) (za_cons (ze_blt cr_len bs_len m_len boot_len (za_cons (ze_con k_SHOWN) za_nil)) za_nil)) (len_cons (len_cons len_nil))))))
theorem bi_is_look (Fu : FunD K d_is_look.name d_is_look.qual d_is_look.params d_is_look.body d_is_look.scope [] [] f fd) : Binds K fd ["thing"] [] := Fu.bindsN fun _ _ _ _ _ _ us hl => match us, hl with | [_], _ => rfl
theorem ok_is_look (Fu : FunD K d_is_look.name d_is_look.qual d_is_look.params d_is_look.body d_is_look.scope [] [] f fd) (k_is_number : CalZ P w K mg base 1 "is_number" 1 f_is_number) (k_is_turn : CalZ P w K mg base 3 "is_turn" 1 f_is_turn) (m_isinstance : mg "isinstance" = none) (m_len : mg "len" = none) (m_tuple : mg "tuple" = none) : FnOk P w K mg base CX0 4 f fd ["thing"] (spZ K w 1 f_is_look) :=
  okF (k := 3) (g := b_is_look) Fu sc_is_look rfl rfl (fun cdv A outer s H E E' hr =>
    have hu := hr.units
    have hu2 := u65 hr
    have hN := sc_is_look.nd
    (zss_one (zs_ret (ze_and (ze_isi1 m_isinstance (ze_var (pv 0)) (pe_tyn m_tuple boot_tuple)) (ze_and (ze_cmp (op_eqZ hu) os_eq (ze_blt cr_len bs_len m_len boot_len (za_cons (ze_var (pv 0)) za_nil)) ze_int (nomark _)) (ze_and (ze_call k_is_number hr (by omega) (za_cons (ze_ix hu (ze_var (pv 0)) ze_int) za_nil) (len_cons len_nil)) (ze_and (ze_cmp op_ge os_ge (ze_ix hu (ze_var (pv 0)) ze_int) ze_int (nomark _)) (ze_one (ze_call k_is_turn hr (by omega) (za_cons (ze_ix hu (ze_var (pv 0)) ze_int) za_nil) (len_cons len_nil))))))))))
theorem bi_is_sight_of (Fu : FunD K d_is_sight_of.name d_is_sight_of.qual d_is_sight_of.params d_is_sight_of.body d_is_sight_of.scope [] [] f fd) : Binds K fd ["many", "thing"] [] := Fu.bindsN fun _ _ _ _ _ _ us hl => match us, hl with | [_, _], _ => rfl
theorem ok_is_sight_of (Fu : FunD K d_is_sight_of.name d_is_sight_of.qual d_is_sight_of.params d_is_sight_of.body d_is_sight_of.scope [] [] f fd) (k_is_colour : CalZ P w K mg base 1 "is_colour" 1 f_is_colour) (k_is_look : CalZ P w K mg base 4 "is_look" 1 f_is_look) : FnOk P w K mg base CX0 5 f fd ["many", "thing"] (spZ K w 2 f_is_sight_of) :=
  okF (k := 4) (g := b_is_sight_of) Fu sc_is_sight_of rfl rfl (fun cdv A outer s H E E' hr =>
    have hu := hr.units
    have hu2 := u65 hr
    have hN := sc_is_sight_of.nd
    (zss_one (zs_ret (ze_or (ze_call k_is_colour hr (by omega) (za_cons (ze_var (pv 1)) za_nil) (len_cons len_nil)) (ze_one (ze_and (ze_call k_is_look hr (by omega) (za_cons (ze_var (pv 1)) za_nil) (len_cons len_nil)) (ze_one (ze_cmp op_ltZ os_lt (ze_ix hu (ze_var (pv 1)) ze_int) (ze_var (pv 0)) (nomark _)))))))))
theorem bi_is_sight (Fu : FunD K d_is_sight.name d_is_sight.qual d_is_sight.params d_is_sight.body d_is_sight.scope [] [] f fd) : Binds K fd ["house", "thing"] [] := Fu.bindsN fun _ _ _ _ _ _ us hl => match us, hl with | [_, _], _ => rfl
theorem ok_is_sight (Fu : FunD K d_is_sight.name d_is_sight.qual d_is_sight.params d_is_sight.body d_is_sight.scope [] [] f fd) (k_is_sight_of : CalZ P w K mg base 5 "is_sight_of" 2 f_is_sight_of) (m_len : mg "len" = none) : FnOk P w K mg base CX0 6 f fd ["house", "thing"] (spZ K w 2 f_is_sight) :=
  okF (k := 5) (g := b_is_sight) Fu sc_is_sight rfl rfl (fun cdv A outer s H E E' hr =>
    have hu := hr.units
    have hu2 := u65 hr
    have hN := sc_is_sight.nd
    (zss_one (zs_ret (ze_call k_is_sight_of hr (by omega) (za_cons (ze_blt cr_len bs_len m_len boot_len (za_cons (ze_var (pv 0)) za_nil)) (za_cons (ze_var (pv 1)) za_nil)) (len_cons (len_cons len_nil))))))
theorem bi_is_triple (Fu : FunD K d_is_triple.name d_is_triple.qual d_is_triple.params d_is_triple.body d_is_triple.scope [] [] f fd) : Binds K fd ["house", "thing"] [] := Fu.bindsN fun _ _ _ _ _ _ us hl => match us, hl with | [_, _], _ => rfl
theorem ok_is_triple (Fu : FunD K d_is_triple.name d_is_triple.qual d_is_triple.params d_is_triple.body d_is_triple.scope [] [] f fd) (k_is_number : CalZ P w K mg base 1 "is_number" 1 f_is_number) (k_is_sight : CalZ P w K mg base 6 "is_sight" 2 f_is_sight) (m_isinstance : mg "isinstance" = none) (m_len : mg "len" = none) (m_tuple : mg "tuple" = none) : FnOk P w K mg base CX0 7 f fd ["house", "thing"] (spZ K w 2 f_is_triple) :=
  okF (k := 6) (g := b_is_triple) Fu sc_is_triple rfl rfl (fun cdv A outer s H E E' hr =>
    have hu := hr.units
    have hu2 := u65 hr
    have hN := sc_is_triple.nd
    (zss_cons (zs_if (zt_w (zw_or (zt_not (zt_val (ze_isi1 m_isinstance (ze_var (pv 1)) (pe_tyn m_tuple boot_tuple)))) (zw_or (zt_cmp (op_neZ hu) os_ne (ze_blt cr_len bs_len m_len boot_len (za_cons (ze_var (pv 1)) za_nil)) ze_int (nomark _)) (zw_or (zt_not (zt_val (ze_call k_is_number hr (by omega) (za_cons (ze_ix hu (ze_var (pv 1)) ze_int) za_nil) (len_cons len_nil)))) (zw_or1 (zt_cmp op_ltZ os_lt (ze_ix hu (ze_var (pv 1)) ze_int) ze_int (nomark _))))))) (zss_one (zs_ret ze_bl)) zss_nil)
    (zss_one (zs_ret (ze_and (ze_call k_is_sight hr (by omega) (za_cons (ze_var (pv 0)) (za_cons (ze_ix hu (ze_var (pv 1)) ze_int) za_nil)) (len_cons (len_cons len_nil))) (ze_one (ze_call k_is_sight hr (by omega) (za_cons (ze_var (pv 0)) (za_cons (ze_ix hu (ze_var (pv 1)) ze_int) za_nil)) (len_cons (len_cons len_nil)))))))))
theorem bi_shows_fit (Fu : FunD K d_shows_fit.name d_shows_fit.qual d_shows_fit.params d_shows_fit.body d_shows_fit.scope [] [] f fd) : Binds K fd ["house", "one", "other", "thing"] [] := Fu.bindsN fun _ _ _ _ _ _ us hl => match us, hl with | [_, _, _, _], _ => rfl
theorem ok_shows_fit (Fu : FunD K d_shows_fit.name d_shows_fit.qual d_shows_fit.params d_shows_fit.body d_shows_fit.scope [] [] f fd) (k_is_kept : CalZ P w K mg base 6 "is_kept" 3 f_is_kept) (k_is_triple : CalZ P w K mg base 7 "is_triple" 2 f_is_triple) (m_all : mg "all" = none) (m_isinstance : mg "isinstance" = none) (m_len : mg "len" = none) (m_list : mg "list" = none) : FnOk P w K mg base CX0 8 f fd ["house", "one", "other", "thing"] (spZ K w 4 f_shows_fit) :=
  okF (k := 7) (g := b_shows_fit) Fu sc_shows_fit rfl rfl (fun cdv A outer s H E E' hr =>
    have hu := hr.units
    have hu2 := u65 hr
    have hN := sc_shows_fit.nd
    (zss_cons (zs_if (zt_w (zw_or (zt_not (zt_val (ze_isi1 m_isinstance (ze_var (pv 3)) (pe_tyn m_list boot_list)))) (zw_or1 (zt_not (zt_val (ze_blt (cr_all rfl) bs_all m_all boot_all (za_cons (ze_lc fin_l rfl hN (zi_val (ze_var (pv 3))) (blkOk_by (own := [("row", 5)]) (by kernel_rfl)) (fun s H C cl fp => (zgw_name (i := 5) (pg_name hN rfl (by first | exact Or.inl rfl | exact Or.inr rfl)))) (fun s H C cl fp => zts_nil) (fun s H C cl fp => (ze_call k_is_triple hr (by omega) (za_cons (ze_var (pv 0)) (za_cons (ze_var (pv 5)) za_nil)) (len_cons (len_cons len_nil))))) za_nil))))))) (zss_one (zs_ret ze_bl)) zss_nil)
    (zss_cons (zs_set (i := 4) hN rfl (by first | exact Or.inl rfl | exact Or.inr rfl) (ze_dc hu finG_d rfl hN (zi_val (ze_var (pv 3))) (blkOk_by (own := [("row", 5)]) (by kernel_rfl)) (fun s H C cl fp => (zgw_name (i := 5) (pg_name hN rfl (by first | exact Or.inl rfl | exact Or.inr rfl)))) (fun s H C cl fp => zts_nil) (fun s H C cl fp => (ze_tup (za_cons (ze_ix hu (ze_var (pv 5)) ze_int) (za_cons (ze_ix hu (ze_var (pv 5)) ze_int) za_nil)) (len_cons (len_cons len_nil)))) (fun s H C cl fp => (ze_ix hu (ze_var (pv 5)) ze_int))))
    (zss_cons (zs_if (zt_w (zw_or (zt_cmp (op_neZ hu) os_ne (ze_blt cr_len bs_len m_len boot_len (za_cons (ze_var (pv 4)) za_nil)) (ze_blt cr_len bs_len m_len boot_len (za_cons (ze_var (pv 3)) za_nil)) (nomark _)) (zw_or1 (zt_cmp (op_notInZ hu2) os_notIn (ze_tup (za_cons (ze_var (pv 1)) (za_cons (ze_var (pv 2)) za_nil)) (len_cons (len_cons len_nil))) (ze_var (pv 4)) (by with_unfolding_all rfl))))) (zss_one (zs_ret ze_bl)) zss_nil)
    (zss_one (zs_ret (ze_blt (cr_all rfl) bs_all m_all boot_all (za_cons (ze_lc fin_l rfl hN (zi_keys (ze_var (pv 4))) (blkOk_by (own := [("pair", 6)]) (by kernel_rfl)) (fun s H C cl fp => (zgw_name (i := 6) (pg_name hN rfl (by first | exact Or.inl rfl | exact Or.inr rfl)))) (fun s H C cl fp => zts_nil) (fun s H C cl fp => (ze_call k_is_kept hr (by omega) (za_cons (ze_var (pv 0)) (za_cons (ze_var (pv 6)) (za_cons (ze_var (pv 4)) za_nil))) (len_cons (len_cons (len_cons len_nil)))))) za_nil))))))))
theorem bi_sight_at (Fu : FunD K d_sight_at.name d_sight_at.qual d_sight_at.params d_sight_at.body d_sight_at.scope [] [] f fd) : Binds K fd ["house", "sight", "row"] [] := Fu.bindsN fun _ _ _ _ _ _ us hl => match us, hl with | [_, _, _], _ => rfl
theorem ok_sight_at (Fu : FunD K d_sight_at.name d_sight_at.qual d_sight_at.params d_sight_at.body d_sight_at.scope [] [] f fd) (k_quarter_of : CalZ P w K mg base 3 "quarter_of" 3 f_quarter_of) : FnOk P w K mg base CX0 4 f fd ["house", "sight", "row"] (spZ K w 3 f_sight_at) :=
  okF (k := 3) (g := b_sight_at) Fu sc_sight_at rfl rfl (fun cdv A outer s H E E' hr =>
    have hu := hr.units
    have hu2 := u65 hr
    have hN := sc_sight_at.nd
    (zss_cons (zs_for PassesOwn.never rfl (zi_val (ze_var (pv 2))) (zg_name (i := 3) (pg_name hN rfl (by first | exact Or.inl rfl | exact Or.inr rfl))) (zss_one (zs_set (i := 1) hN rfl (by first | exact Or.inl rfl | exact Or.inr rfl) (ze_call k_quarter_of hr (by omega) (za_cons (ze_var (pv 0)) (za_cons (ze_var (pv 1)) (za_cons (ze_var (pv 3)) za_nil))) (len_cons (len_cons (len_cons len_nil)))))))
    (zss_one (zs_ret (ze_var (pv 1))))))
theorem bi_colour_at (Fu : FunD K d_colour_at.name d_colour_at.qual d_colour_at.params d_colour_at.body d_colour_at.scope [] [] f fd) : Binds K fd ["house", "sight", "spot"] [] := Fu.bindsN fun _ _ _ _ _ _ us hl => match us, hl with | [_, _, _], _ => rfl
theorem ok_colour_at (Fu : FunD K d_colour_at.name d_colour_at.qual d_colour_at.params d_colour_at.body d_colour_at.scope [] [] f fd) (k_sight_at : CalZ P w K mg base 4 "sight_at" 3 f_sight_at) (m_isinstance : mg "isinstance" = none) (m_str : mg "str" = none) : FnOk P w K mg base CX0 5 f fd ["house", "sight", "spot"] (spZ K w 3 f_colour_at) :=
  okF (k := 4) (g := b_colour_at) Fu sc_colour_at rfl rfl (fun cdv A outer s H E E' hr =>
    have hu := hr.units
    have hu2 := u65 hr
    have hN := sc_colour_at.nd
    (zss_cons (zs_asg (ze_var (pv 2)) (zg_tup rfl (zgs_cons (zg_name (i := 3) (pg_name hN rfl (by first | exact Or.inl rfl | exact Or.inr rfl))) (zgs_cons (zg_name (i := 4) (pg_name hN rfl (by first | exact Or.inl rfl | exact Or.inr rfl))) zgs_nil))))
    (zss_cons (zs_par2 (fun h => ps_par (i := 5) (j := 6) rfl hN rfl rfl (by decide) rfl rfl h rfl) (za_cons (ze_call k_sight_at hr (by omega) (za_cons (ze_var (pv 0)) (za_cons (ze_var (pv 1)) (za_cons (ze_var (pv 3)) za_nil))) (len_cons (len_cons (len_cons len_nil)))) (za_cons ze_dcC za_nil)))
    (zss_cons (zs_while PassesOwn.never (zt_not (zt_val (ze_isi1 m_isinstance (ze_var (pv 5)) (pe_tyn m_str boot_str)))) (zss_cons (zs_if (zt_cmp (op_inZ hu2) os_in (ze_var (pv 5)) (ze_var (pv 6)) (by with_unfolding_all rfl)) (zss_one (zs_ret ze_non)) zss_nil)
    (zss_cons (zs_asg ze_bl (zg_sub hu (ze_var (pv 6)) (ze_var (pv 5))))
    (zss_one (zs_set (i := 5) hN rfl (by first | exact Or.inl rfl | exact Or.inr rfl) (ze_call k_sight_at hr (by omega) (za_cons (ze_var (pv 0)) (za_cons (ze_var (pv 5)) (za_cons (ze_var (pv 4)) za_nil))) (len_cons (len_cons (len_cons len_nil)))))))))
    (zss_one (zs_ret (ze_var (pv 5))))))))
theorem bi_is_halves (Fu : FunD K d_is_halves.name d_is_halves.qual d_is_halves.params d_is_halves.body d_is_halves.scope [] [] f fd) : Binds K fd ["thing", "least"] [] := Fu.bindsN fun _ _ _ _ _ _ us hl => match us, hl with | [_, _], _ => rfl
theorem ok_is_halves (Fu : FunD K d_is_halves.name d_is_halves.qual d_is_halves.params d_is_halves.body d_is_halves.scope [] [] f fd) (k_is_below : CalZ P w K mg base 2 "is_below" 2 f_is_below) (m_all : mg "all" = none) (m_isinstance : mg "isinstance" = none) (m_len : mg "len" = none) (m_tuple : mg "tuple" = none) : FnOk P w K mg base CX0 3 f fd ["thing", "least"] (spZ K w 2 f_is_halves) :=
  okF (k := 2) (g := b_is_halves) Fu sc_is_halves rfl rfl (fun cdv A outer s H E E' hr =>
    have hu := hr.units
    have hu2 := u65 hr
    have hN := sc_is_halves.nd
    (zss_one (zs_ret (ze_and (ze_isi1 m_isinstance (ze_var (pv 0)) (pe_tyn m_tuple boot_tuple)) (ze_and (ze_cmp op_ge os_ge (ze_blt cr_len bs_len m_len boot_len (za_cons (ze_var (pv 0)) za_nil)) (ze_var (pv 1)) (nomark _)) (ze_one (ze_blt (cr_all rfl) bs_all m_all boot_all (za_cons (ze_lc fin_l rfl hN (zi_val (ze_var (pv 0))) (blkOk_by (own := [("half", 2)]) (by kernel_rfl)) (fun s H C cl fp => (zgw_name (i := 2) (pg_name hN rfl (by first | exact Or.inl rfl | exact Or.inr rfl)))) (fun s H C cl fp => zts_nil) (fun s H C cl fp => (ze_call k_is_below hr (by omega) (za_cons (ze_var (pv 2)) (za_cons ze_int za_nil)) (len_cons (len_cons len_nil))))) za_nil))))))))
theorem bi_shows_misfit (Fu : FunD K d_shows_misfit.name d_shows_misfit.qual d_shows_misfit.params d_shows_misfit.body d_shows_misfit.scope [] [] f fd) : Binds K fd ["house", "one", "other", "thing"] [] := Fu.bindsN fun _ _ _ _ _ _ us hl => match us, hl with | [_, _, _, _], _ => rfl
theorem ok_shows_misfit (Fu : FunD K d_shows_misfit.name d_shows_misfit.qual d_shows_misfit.params d_shows_misfit.body d_shows_misfit.scope [] [] f fd) (k_colour_at : CalZ P w K mg base 5 "colour_at" 3 f_colour_at) (k_is_halves : CalZ P w K mg base 3 "is_halves" 2 f_is_halves) (m_isinstance : mg "isinstance" = none) (m_len : mg "len" = none) (m_tuple : mg "tuple" = none) : FnOk P w K mg base CX0 6 f fd ["house", "one", "other", "thing"] (spZ K w 4 f_shows_misfit) :=
  okF (k := 5) (g := b_shows_misfit) Fu sc_shows_misfit rfl rfl (fun cdv A outer s H E E' hr =>
    have hu := hr.units
    have hu2 := u65 hr
    have hN := sc_shows_misfit.nd
    (zss_cons (zs_if (zt_w (zw_or (zt_not (zt_val (ze_isi1 m_isinstance (ze_var (pv 3)) (pe_tyn m_tuple boot_tuple)))) (zw_or (zt_cmp (op_neZ hu) os_ne (ze_blt cr_len bs_len m_len boot_len (za_cons (ze_var (pv 3)) za_nil)) ze_int (nomark _)) (zw_or (zt_not (zt_val (ze_call k_is_halves hr (by omega) (za_cons (ze_ix hu (ze_var (pv 3)) ze_int) (za_cons ze_int za_nil)) (len_cons (len_cons len_nil))))) (zw_or1 (zt_not (zt_val (ze_call k_is_halves hr (by omega) (za_cons (ze_ix hu (ze_var (pv 3)) ze_int) (za_cons ze_int za_nil)) (len_cons (len_cons len_nil)))))))))) (zss_one (zs_ret ze_bl)) zss_nil)
    (zss_cons (zs_set (i := 4) hN rfl (by first | exact Or.inl rfl | exact Or.inr rfl) (ze_bty cr_tuple bs_tuple m_tuple boot_tuple (za_cons (ze_lc fin_l rfl hN (zi_val (ze_var (pv 3))) (blkOk_by (own := [("halves", 6)]) (by kernel_rfl)) (fun s H C cl fp => (zgw_name (i := 6) (pg_name hN rfl (by first | exact Or.inl rfl | exact Or.inr rfl)))) (fun s H C cl fp => zts_nil) (fun s H C cl fp => (ze_bty cr_tuple bs_tuple m_tuple boot_tuple (za_cons (ze_lc fin_l rfl hN (zi_val (ze_var (pv 6))) (blkOk_by (own := [("half", 7)]) (by kernel_rfl)) (fun s H C cl fp => (zgw_name (i := 7) (pg_name hN rfl (by first | exact Or.inl rfl | exact Or.inr rfl)))) (fun s H C cl fp => zts_nil) (fun s H C cl fp => (ze_op op_addZ os_add ze_int (ze_op op_mulZ os_mul ze_int (ze_var (pv 7)))))) za_nil)))) za_nil)))
    (zss_cons (zs_set (i := 5) hN rfl (by first | exact Or.inl rfl | exact Or.inr rfl) (ze_bty cr_tuple bs_tuple m_tuple boot_tuple (za_cons (ze_lc fin_l rfl hN (zi_val (ze_var (pv 3))) (blkOk_by (own := [("halves", 6)]) (by kernel_rfl)) (fun s H C cl fp => (zgw_name (i := 6) (pg_name hN rfl (by first | exact Or.inl rfl | exact Or.inr rfl)))) (fun s H C cl fp => zts_nil) (fun s H C cl fp => (ze_bty cr_tuple bs_tuple m_tuple boot_tuple (za_cons (ze_lc fin_l rfl hN (zi_val (ze_var (pv 6))) (blkOk_by (own := [("half", 7)]) (by kernel_rfl)) (fun s H C cl fp => (zgw_name (i := 7) (pg_name hN rfl (by first | exact Or.inl rfl | exact Or.inr rfl)))) (fun s H C cl fp => zts_nil) (fun s H C cl fp => (ze_op op_mulZ os_mul ze_int (ze_var (pv 7))))) za_nil)))) za_nil)))
    (zss_one (zs_ret (ze_cmp (op_neZ hu) os_ne (ze_call k_colour_at hr (by omega) (za_cons (ze_var (pv 0)) (za_cons (ze_var (pv 1)) (za_cons (ze_var (pv 4)) za_nil))) (len_cons (len_cons (len_cons len_nil)))) (ze_call k_colour_at hr (by omega) (za_cons (ze_var (pv 0)) (za_cons (ze_var (pv 2)) (za_cons (ze_var (pv 5)) za_nil))) (len_cons (len_cons (len_cons len_nil)))) (nomark _))))))))
theorem bi__law_pair_right (Fu : FunD K d__law_pair_right.name d__law_pair_right.qual d__law_pair_right.params d__law_pair_right.body d__law_pair_right.scope [] [] f fd) : Binds K fd ["rooms", "one", "other"] [] := Fu.bindsN fun _ _ _ _ _ _ us hl => match us, hl with | [_, _, _], _ => rfl
theorem ok__law_pair_right (Fu : FunD K d__law_pair_right.name d__law_pair_right.qual d__law_pair_right.params d__law_pair_right.body d__law_pair_right.scope [] [] f fd) (k__law_edge_house : CalZ P w K mg base 4 "_law_edge_house" 2 f__law_edge_house) (k_alike : CalZ P w K mg base 7 "alike" 3 f_alike) (k_fit_paper : CalZ P w K mg base 9 "fit_paper" 3 f_fit_paper) (k_fits : CalZ P w K mg base 10 "fits" 3 f_fits) (k_misfit : CalZ P w K mg base 9 "misfit" 3 f_misfit) (k_shows_fit : CalZ P w K mg base 8 "shows_fit" 4 f_shows_fit) (k_shows_misfit : CalZ P w K mg base 6 "shows_misfit" 4 f_shows_misfit) (m_len : mg "len" = none) (m_repr : mg "repr" = none) : FnOk P w K mg base CX0 11 f fd ["rooms", "one", "other"] (spZ K w 3 f__law_pair_right) :=
  okF (k := 10) (g := b__law_pair_right) Fu sc__law_pair_right rfl rfl (fun cdv A outer s H E E' hr =>
    have hu := hr.units
    have hu2 := u65 hr
    have hN := sc__law_pair_right.nd
    (zss_cons (zs_asg (ze_call k__law_edge_house hr (by omega) (za_cons (ze_var (pv 0)) (za_cons (ze_tup (za_cons (ze_var (pv 1)) (za_cons (ze_var (pv 2)) za_nil)) (len_cons (len_cons len_nil))) za_nil)) (len_cons (len_cons len_nil))) (zg_tup rfl (zgs_cons (zg_name (i := 3) (pg_name hN rfl (by first | exact Or.inl rfl | exact Or.inr rfl))) (zgs_cons (zg_name (i := 4) (pg_name hN rfl (by first | exact Or.inl rfl | exact Or.inr rfl))) zgs_nil))))
    (zss_cons (zs_par3 (fun h => ps_par3 (i := 5) (j := 6) (l := 7) rfl hN rfl rfl rfl (by decide) (by decide) (by decide) rfl rfl rfl h rfl) (za_cons (ze_call k_fits hr (by omega) (za_cons (ze_var (pv 0)) (za_cons (ze_var (pv 1)) (za_cons (ze_var (pv 2)) za_nil))) (len_cons (len_cons (len_cons len_nil)))) (za_cons (ze_call k_fit_paper hr (by omega) (za_cons (ze_var (pv 0)) (za_cons (ze_var (pv 1)) (za_cons (ze_var (pv 2)) za_nil))) (len_cons (len_cons (len_cons len_nil)))) (za_cons (ze_call k_misfit hr (by omega) (za_cons (ze_var (pv 0)) (za_cons (ze_var (pv 1)) (za_cons (ze_var (pv 2)) za_nil))) (len_cons (len_cons (len_cons len_nil)))) za_nil))))
    (zss_cons (zs_if (zt_w (zw_and (zt_cmp op_ltZ os_lt (ze_blt cr_len bs_len m_len boot_len (za_cons (ze_var (pv 3)) za_nil)) ze_int (nomark _)) (zw_and1 (zt_cmp (op_neZ hu) os_ne (ze_blt cr_repr bs_repr m_repr boot_repr (za_cons (ze_call k_alike hr (by omega) (za_cons (ze_var (pv 3)) (za_cons (ze_ix hu (ze_var (pv 4)) ze_int) (za_cons (ze_ix hu (ze_var (pv 4)) ze_int) za_nil))) (len_cons (len_cons (len_cons len_nil)))) za_nil)) (ze_blt cr_repr bs_repr m_repr boot_repr (za_cons (ze_var (pv 5)) za_nil)) (nomark _))))) (zss_one (zs_ret ze_bl)) zss_nil)
    (zss_cons (zs_if (zt_val (ze_var (pv 5))) (zss_one (zs_ret (ze_and (ze_cmp op_isZ os_is (ze_var (pv 7)) ze_non (nomark _)) (ze_one (ze_cmp op_isBlZ os_isB (ze_call k_shows_fit hr (by omega) (za_cons (ze_var (pv 0)) (za_cons (ze_var (pv 1)) (za_cons (ze_var (pv 2)) (za_cons (ze_var (pv 6)) za_nil)))) (len_cons (len_cons (len_cons (len_cons len_nil))))) ze_bl (nomark _)))))) zss_nil)
    (zss_one (zs_ret (ze_and (ze_cmp op_isZ os_is (ze_var (pv 6)) ze_non (nomark _)) (ze_one (ze_cmp op_isBlZ os_isB (ze_call k_shows_misfit hr (by omega) (za_cons (ze_var (pv 0)) (za_cons (ze_var (pv 1)) (za_cons (ze_var (pv 2)) (za_cons (ze_var (pv 7)) za_nil)))) (len_cons (len_cons (len_cons (len_cons len_nil))))) ze_bl (nomark _)))))))))))
theorem bi__law_right (Fu : FunD K d__law_right.name d__law_right.qual d__law_right.params d__law_right.body d__law_right.scope [] [] f fd) : Binds K fd ["box"] [] := Fu.bindsN fun _ _ _ _ _ _ us hl => match us, hl with | [_], _ => rfl
theorem ok__law_right (Fu : FunD K d__law_right.name d__law_right.qual d__law_right.params d__law_right.body d__law_right.scope [] [] f fd) (k__law_house : CalZ P w K mg base 3 "_law_house" 3 f__law_house_93) (k__law_names : CalZ P w K mg base 2 "_law_names" 2 f__law_names) (k__law_pair_right : CalZ P w K mg base 11 "_law_pair_right" 3 f__law_pair_right) (k__law_sight : CalZ P w K mg base 2 "_law_sight" 3 f__law_sight) (k__law_turned : CalZ P w K mg base 2 "_law_turned" 2 f__law_turned_93) (k_alike : CalZ P w K mg base 7 "alike" 3 f_alike) (k_fits : CalZ P w K mg base 10 "fits" 3 f_fits) (m_len : mg "len" = none) (m_range : mg "range" = none) : FnOk P w K mg base CX0 12 f fd ["box"] (spZ K w 1 f__law_right_93) :=
  okF (k := 11) (g := b__law_right_93) Fu sc__law_right rfl rfl (fun cdv A outer s H E E' hr =>
    have hu := hr.units
    have hu2 := u65 hr
    have hN := sc__law_right.nd
    (zss_cons (zs_set (i := 1) hN rfl (by first | exact Or.inl rfl | exact Or.inr rfl) (ze_call k__law_names hr (by omega) (za_cons (ze_var (pv 0)) (za_cons ze_int za_nil)) (len_cons (len_cons len_nil))))
    (zss_cons (zs_set (i := 2) hN rfl (by first | exact Or.inl rfl | exact Or.inr rfl) (ze_call k__law_house hr (by omega) (za_cons (ze_var (pv 0)) (za_cons (ze_var (pv 1)) (za_cons ze_int za_nil))) (len_cons (len_cons (len_cons len_nil)))))
    (zss_cons (zs_for PassesOwn.never rfl (zi_rng1 (by rfl) m_range (za_cons ze_int za_nil)) (zg_name (i := 3) (pg_name hN rfl (by first | exact Or.inl rfl | exact Or.inr rfl))) (zss_cons (zs_par2 (fun h => ps_par (i := 4) (j := 5) rfl hN rfl rfl (by decide) rfl rfl h rfl) (za_cons (ze_call k__law_sight hr (by omega) (za_cons (ze_var (pv 0)) (za_cons (ze_var (pv 1)) (za_cons (ze_blt cr_len bs_len m_len boot_len (za_cons (ze_var (pv 2)) za_nil)) za_nil))) (len_cons (len_cons (len_cons len_nil)))) (za_cons (ze_call k__law_sight hr (by omega) (za_cons (ze_var (pv 0)) (za_cons (ze_var (pv 1)) (za_cons (ze_blt cr_len bs_len m_len boot_len (za_cons (ze_var (pv 2)) za_nil)) za_nil))) (len_cons (len_cons (len_cons len_nil)))) za_nil)))
    (zss_cons (zs_for PassesOwn.never rfl (zi_val (ze_tup (za_cons (ze_tup (za_cons (ze_var (pv 4)) (za_cons (ze_var (pv 5)) za_nil)) (len_cons (len_cons len_nil))) (za_cons (ze_tup (za_cons (ze_var (pv 4)) (za_cons (ze_call k__law_turned hr (by omega) (za_cons (ze_var (pv 4)) (za_cons ze_int za_nil)) (len_cons (len_cons len_nil))) za_nil)) (len_cons (len_cons len_nil))) (za_cons (ze_tup (za_cons (ze_call k__law_turned hr (by omega) (za_cons (ze_var (pv 5)) (za_cons ze_int za_nil)) (len_cons (len_cons len_nil))) (za_cons (ze_var (pv 5)) za_nil)) (len_cons (len_cons len_nil))) za_nil))) (len_cons (len_cons (len_cons len_nil))))) (zg_tup rfl (zgs_cons (zg_name (i := 6) (pg_name hN rfl (by first | exact Or.inl rfl | exact Or.inr rfl))) (zgs_cons (zg_name (i := 7) (pg_name hN rfl (by first | exact Or.inl rfl | exact Or.inr rfl))) zgs_nil))) (zss_one (zs_if (zt_not (zt_val (ze_call k__law_pair_right hr (by omega) (za_cons (ze_var (pv 2)) (za_cons (ze_var (pv 6)) (za_cons (ze_var (pv 7)) za_nil))) (len_cons (len_cons (len_cons len_nil)))))) (zss_one (zs_ret ze_bl)) zss_nil)))
    (zss_one (zs_if (zt_w (zw_and (zt_val (ze_call k_alike hr (by omega) (za_cons (ze_var (pv 2)) (za_cons (ze_var (pv 4)) (za_cons (ze_var (pv 5)) za_nil))) (len_cons (len_cons (len_cons len_nil))))) (zw_and1 (zt_not (zt_val (ze_call k_fits hr (by omega) (za_cons (ze_var (pv 2)) (za_cons (ze_var (pv 4)) (za_cons (ze_call k__law_turned hr (by omega) (za_cons (ze_var (pv 5)) (za_cons ze_int za_nil)) (len_cons (len_cons len_nil))) za_nil))) (len_cons (len_cons (len_cons len_nil))))))))) (zss_one (zs_ret ze_bl)) zss_nil)))))
    (zss_one (zs_ret ze_bl))))))
theorem bi_law (Fu : FunD K d_law.name d_law.qual d_law.params d_law.body d_law.scope [] [] f fd) : Binds K fd ["script"] [] := Fu.bindsN fun _ _ _ _ _ _ us hl => match us, hl with | [_], _ => rfl
theorem ok_law (Fu : FunD K d_law.name d_law.qual d_law.params d_law.body d_law.scope [] [] f fd) (k__law_box : CalZ P w K mg base 1 "_law_box" 2 f__law_box) (k__law_cells : CalZ P w K mg base 1 "_law_cells" 2 f__law_cells) (k__law_right : CalZ P w K mg base 12 "_law_right" 1 f__law_right_93) (m_len : mg "len" = none) (m_range : mg "range" = none) : FnOk P w K mg base CX0 13 f fd ["script"] (spZ K w 1 f_law_93) :=
  okF (k := 12) (g := b_law_93) Fu sc_law rfl rfl (fun cdv A outer s H E E' hr =>
    have hu := hr.units
    have hu2 := u65 hr
    have hN := sc_law.nd
    (zss_cons (zs_set (i := 1) hN rfl (by first | exact Or.inl rfl | exact Or.inr rfl) (ze_call k__law_cells hr (by omega) (za_cons (ze_var (pv 0)) (za_cons ze_int za_nil)) (len_cons (len_cons len_nil))))
    (zss_cons (zs_for PassesOwn.never rfl (zi_rng1 (by rfl) m_range (za_cons (ze_blt cr_len bs_len m_len boot_len (za_cons (ze_var (pv 1)) za_nil)) za_nil)) (zg_name (i := 2) (pg_name hN rfl (by first | exact Or.inl rfl | exact Or.inr rfl))) (zss_cons (zs_set (i := 3) hN rfl (by first | exact Or.inl rfl | exact Or.inr rfl) (ze_call k__law_box hr (by omega) (za_cons (ze_var (pv 1)) (za_cons (ze_var (pv 2)) za_nil)) (len_cons (len_cons len_nil))))
    (zss_one (zs_if (zt_not (zt_val (ze_call k__law_right hr (by omega) (za_cons (ze_var (pv 3)) za_nil) (len_cons len_nil)))) (zss_one (zs_ret ze_bl)) zss_nil))))
    (zss_one (zs_ret ze_bl)))))
end
def fn : List He.DefD := [d__law_box, d__law_cells, d__law_seen, d__law_take, d__law_sight, d__law_then, d__law_turned, d__law_house, d__law_names, d__law_quarter, d__law_edge_house, d_Marks_many, d_Marks_mark, d_Marks_parted_once, d_Marks_part_on, d_shown, d_behind, d_turned, d_quarter_of, d_quarters_of, d_one_of, d_wholes_of, d_Marks_init, d_alike, d_half_pair, d_halves_of, d_is_lone, d_Edge_count, d_Edge_walk, d_Edge_init, d_is_ended, d_Edge_unlike, d_fit_paper, d_Edge_endless, d_misfit, d_fits, d_is_kept, d_is_number, d_is_colour, d_is_below, d_is_turn, d_is_look, d_is_sight_of, d_is_sight, d_is_triple, d_shows_fit, d_sight_at, d_colour_at, d_is_halves, d_shows_misfit, d__law_pair_right, d__law_right, d_law]
def cs : List (Str × D) := [("SHOWN", c_SHOWN), ("LETTERS", c_LETTERS), ("MOST_LETTERS", c_MOST_LETTERS), ("QUARTERS", c_QUARTERS), ("HALVES", c_HALVES)]
def fa : List He.Fa := [.free "abs", .free "int", .glo "_law_box", .free "enumerate", .free "list", .glo "_law_cells", .glo "_law_seen", .glo "_law_take", .free "len", .glo "_law_sight", .glo "_law_then", .free "isinstance", .free "str", .glo "_law_turned", .free "range", .free "tuple", .glo "_law_house", .glo "_law_names", .glo "_law_quarter", .glo "_law_edge_house", .cls "Marks", .noat "Marks" "own_looks", .noat "Marks" "own_marks", .meth "Marks" "many", .noat "Marks" "own_wholes", .meth "Marks" "mark", .noat "Marks" "own_fours", .meth "Marks" "parted_once", .meth "Marks" "part_on", .glo "shown", .glo "behind", .glo "turned", .glo "quarter_of", .glo "quarters_of", .free "all", .glo "one_of", .glo "wholes_of", .noat "Marks" "own_house", .mkr "Marks", .glo "Marks", .glo "alike", .glo "half_pair", .glo "halves_of", .glo "is_lone", .free "max", .cls "Edge", .noat "Edge" "numbers", .noat "Edge" "own_house", .noat "Edge" "pairs", .meth "Edge" "count", .noat "Edge" "rows", .meth "Edge" "walk", .mkr "Edge", .glo "Edge", .glo "is_ended", .meth "Edge" "unlike", .glo "fit_paper", .meth "Edge" "endless", .glo "misfit", .glo "fits", .glo "is_kept", .free "bool", .glo "is_number", .glo "is_colour", .glo "is_below", .glo "is_turn", .glo "is_look", .glo "is_sight_of", .glo "is_sight", .glo "is_triple", .glo "shows_fit", .glo "sight_at", .glo "colour_at", .glo "is_halves", .glo "shows_misfit", .free "repr", .glo "_law_pair_right", .glo "_law_right", .glo "law"]
def ls0 : List Str := ["SHOWN", "LETTERS", "MOST_LETTERS", "QUARTERS", "__name__", "is_number", "is_below", "is_turn", "shown", "behind", "is_colour", "is_look", "is_sight_of", "is_sight", "turned", "quarter_of", "quarters_of", "sight_at", "HALVES", "half_pair", "halves_of", "is_ended", "is_lone", "Edge", "misfit", "fits", "fit_paper", "one_of", "wholes_of", "Marks"]
def ls1 : List Str := ["alike", "colour_at", "is_triple", "is_kept", "shows_fit", "is_halves", "shows_misfit", "_law_box", "_law_take", "_law_cells", "_law_names", "_law_seen", "_law_then", "_law_turned", "_law_quarter", "_law_sight", "_law_house", "_law_edge_house", "_law_pair_right", "_law_right"]
def loose : List Str := ls0 ++ ls1
abbrev R : PySem.W.OpenRow := PySem.W.OpenLaw.row PySem.Challenge.rw_wellpanes_k93_whole_edges_as_pictures
abbrev hk : PySem.W.Hook := hookZ 6 fa fn cs
def ob (s : PySem.W.SharedT) : AlZ := obsZG 6 fa fn cs (HandSHeadRun.getT s)
theorem ob_eq (s : PySem.W.SharedT) : ob s = hk.obs s.abs := obsZG_eq (HandSHeadRun.getT_eq s)
theorem facts {P : Program} {w : World} {K : PySem.W.Frag} {h : Heap} {mg : Str → Option Value} {f : Addr} (X : K.In h) (G : h.Ns mainGlobals mg) (hfa : mg ("law" : Str) = some (.ref f)) (c : SaysZ fa fn cs K) :
    ∃ fd : FuncData, (∀ (s : Shared) (v : Value), BindsTo s fd ⟨[v], []⟩ [("script", v)]) ∧ ∀ base : Heap, K.In base → base.Ns mainGlobals mg → FnOk P w K mg base CX0 13 f fd ["script"] (spZ K w 1 f_law_93) := by
  obtain ⟨fd__law_box, F__law_box⟩ := c.1.def_ 0 (d := d__law_box) rfl
  obtain ⟨fd__law_cells, F__law_cells⟩ := c.1.def_ 1 (d := d__law_cells) rfl
  obtain ⟨fd__law_seen, F__law_seen⟩ := c.1.def_ 2 (d := d__law_seen) rfl
  obtain ⟨fd__law_take, F__law_take⟩ := c.1.def_ 3 (d := d__law_take) rfl
  obtain ⟨fd__law_sight, F__law_sight⟩ := c.1.def_ 4 (d := d__law_sight) rfl
  obtain ⟨fd__law_then, F__law_then⟩ := c.1.def_ 5 (d := d__law_then) rfl
  obtain ⟨fd__law_turned, F__law_turned⟩ := c.1.def_ 6 (d := d__law_turned) rfl
  obtain ⟨fd__law_house, F__law_house⟩ := c.1.def_ 7 (d := d__law_house) rfl
  obtain ⟨fd__law_names, F__law_names⟩ := c.1.def_ 8 (d := d__law_names) rfl
  obtain ⟨fd__law_quarter, F__law_quarter⟩ := c.1.def_ 9 (d := d__law_quarter) rfl
  obtain ⟨fd__law_edge_house, F__law_edge_house⟩ := c.1.def_ 10 (d := d__law_edge_house) rfl
  obtain ⟨fd_Marks_many, F_Marks_many⟩ := c.1.def_ 11 (d := d_Marks_many) rfl
  obtain ⟨fd_Marks_mark, F_Marks_mark⟩ := c.1.def_ 12 (d := d_Marks_mark) rfl
  obtain ⟨fd_Marks_parted_once, F_Marks_parted_once⟩ := c.1.def_ 13 (d := d_Marks_parted_once) rfl
  obtain ⟨fd_Marks_part_on, F_Marks_part_on⟩ := c.1.def_ 14 (d := d_Marks_part_on) rfl
  obtain ⟨fd_shown, F_shown⟩ := c.1.def_ 15 (d := d_shown) rfl
  obtain ⟨fd_behind, F_behind⟩ := c.1.def_ 16 (d := d_behind) rfl
  obtain ⟨fd_turned, F_turned⟩ := c.1.def_ 17 (d := d_turned) rfl
  obtain ⟨fd_quarter_of, F_quarter_of⟩ := c.1.def_ 18 (d := d_quarter_of) rfl
  obtain ⟨fd_quarters_of, F_quarters_of⟩ := c.1.def_ 19 (d := d_quarters_of) rfl
  obtain ⟨fd_one_of, F_one_of⟩ := c.1.def_ 20 (d := d_one_of) rfl
  obtain ⟨fd_wholes_of, F_wholes_of⟩ := c.1.def_ 21 (d := d_wholes_of) rfl
  obtain ⟨fd_Marks_init, F_Marks_init⟩ := c.1.def_ 22 (d := d_Marks_init) rfl
  obtain ⟨fd_alike, F_alike⟩ := c.1.def_ 23 (d := d_alike) rfl
  obtain ⟨fd_half_pair, F_half_pair⟩ := c.1.def_ 24 (d := d_half_pair) rfl
  obtain ⟨fd_halves_of, F_halves_of⟩ := c.1.def_ 25 (d := d_halves_of) rfl
  obtain ⟨fd_is_lone, F_is_lone⟩ := c.1.def_ 26 (d := d_is_lone) rfl
  obtain ⟨fd_Edge_count, F_Edge_count⟩ := c.1.def_ 27 (d := d_Edge_count) rfl
  obtain ⟨fd_Edge_walk, F_Edge_walk⟩ := c.1.def_ 28 (d := d_Edge_walk) rfl
  obtain ⟨fd_Edge_init, F_Edge_init⟩ := c.1.def_ 29 (d := d_Edge_init) rfl
  obtain ⟨fd_is_ended, F_is_ended⟩ := c.1.def_ 30 (d := d_is_ended) rfl
  obtain ⟨fd_Edge_unlike, F_Edge_unlike⟩ := c.1.def_ 31 (d := d_Edge_unlike) rfl
  obtain ⟨fd_fit_paper, F_fit_paper⟩ := c.1.def_ 32 (d := d_fit_paper) rfl
  obtain ⟨fd_Edge_endless, F_Edge_endless⟩ := c.1.def_ 33 (d := d_Edge_endless) rfl
  obtain ⟨fd_misfit, F_misfit⟩ := c.1.def_ 34 (d := d_misfit) rfl
  obtain ⟨fd_fits, F_fits⟩ := c.1.def_ 35 (d := d_fits) rfl
  obtain ⟨fd_is_kept, F_is_kept⟩ := c.1.def_ 36 (d := d_is_kept) rfl
  obtain ⟨fd_is_number, F_is_number⟩ := c.1.def_ 37 (d := d_is_number) rfl
  obtain ⟨fd_is_colour, F_is_colour⟩ := c.1.def_ 38 (d := d_is_colour) rfl
  obtain ⟨fd_is_below, F_is_below⟩ := c.1.def_ 39 (d := d_is_below) rfl
  obtain ⟨fd_is_turn, F_is_turn⟩ := c.1.def_ 40 (d := d_is_turn) rfl
  obtain ⟨fd_is_look, F_is_look⟩ := c.1.def_ 41 (d := d_is_look) rfl
  obtain ⟨fd_is_sight_of, F_is_sight_of⟩ := c.1.def_ 42 (d := d_is_sight_of) rfl
  obtain ⟨fd_is_sight, F_is_sight⟩ := c.1.def_ 43 (d := d_is_sight) rfl
  obtain ⟨fd_is_triple, F_is_triple⟩ := c.1.def_ 44 (d := d_is_triple) rfl
  obtain ⟨fd_shows_fit, F_shows_fit⟩ := c.1.def_ 45 (d := d_shows_fit) rfl
  obtain ⟨fd_sight_at, F_sight_at⟩ := c.1.def_ 46 (d := d_sight_at) rfl
  obtain ⟨fd_colour_at, F_colour_at⟩ := c.1.def_ 47 (d := d_colour_at) rfl
  obtain ⟨fd_is_halves, F_is_halves⟩ := c.1.def_ 48 (d := d_is_halves) rfl
  obtain ⟨fd_shows_misfit, F_shows_misfit⟩ := c.1.def_ 49 (d := d_shows_misfit) rfl
  obtain ⟨fd__law_pair_right, F__law_pair_right⟩ := c.1.def_ 50 (d := d__law_pair_right) rfl
  obtain ⟨fd__law_right, F__law_right⟩ := c.1.def_ 51 (d := d__law_right) rfl
  obtain ⟨fd_law, F_law⟩ := c.1.def_ 52 (d := d_law) rfl
  have e := hfa.symm.trans (He.glo_ok X G (c.1.fact 78 (f := .glo "law") rfl))
  cases e
  have b := FunD.bindsA (ps := ["script"]) F_law fun _ _ _ _ _ _ us hl => match us, hl with | [_], _ => rfl
  refine ⟨fd_law, fun s v => b s [v] rfl, fun base _ _ => ?_⟩
  have m_abs : mg "abs" = none := He.free_ok X G (c.1.fact 0 (f := .free "abs") rfl)
  have m_int : mg "int" = none := He.free_ok X G (c.1.fact 1 (f := .free "int") rfl)
  have k__law_box : CalZ P w K mg base 1 "_law_box" 2 f__law_box := calZ F__law_box (He.glo_ok X G (c.1.fact 2 (f := .glo "_law_box") rfl)) (bi__law_box F__law_box) (ok__law_box F__law_box m_abs m_int)
  have m_enumerate : mg "enumerate" = none := He.free_ok X G (c.1.fact 3 (f := .free "enumerate") rfl)
  have m_list : mg "list" = none := He.free_ok X G (c.1.fact 4 (f := .free "list") rfl)
  have k__law_cells : CalZ P w K mg base 1 "_law_cells" 2 f__law_cells := calZ F__law_cells (He.glo_ok X G (c.1.fact 5 (f := .glo "_law_cells") rfl)) (bi__law_cells F__law_cells) (ok__law_cells F__law_cells m_enumerate m_list)
  have k__law_seen : CalZ P w K mg base 1 "_law_seen" 2 f__law_seen_93 := calZ F__law_seen (He.glo_ok X G (c.1.fact 6 (f := .glo "_law_seen") rfl)) (bi__law_seen F__law_seen) (ok__law_seen F__law_seen )
  have k__law_take : CalZ P w K mg base 1 "_law_take" 2 f__law_take := calZ F__law_take (He.glo_ok X G (c.1.fact 7 (f := .glo "_law_take") rfl)) (bi__law_take F__law_take) (ok__law_take F__law_take )
  have m_len : mg "len" = none := He.free_ok X G (c.1.fact 8 (f := .free "len") rfl)
  have k__law_sight : CalZ P w K mg base 2 "_law_sight" 3 f__law_sight := calZ F__law_sight (He.glo_ok X G (c.1.fact 9 (f := .glo "_law_sight") rfl)) (bi__law_sight F__law_sight) (ok__law_sight F__law_sight k__law_take m_len)
  have k__law_then : CalZ P w K mg base 1 "_law_then" 2 f__law_then_93 := calZ F__law_then (He.glo_ok X G (c.1.fact 10 (f := .glo "_law_then") rfl)) (bi__law_then F__law_then) (ok__law_then F__law_then )
  have m_isinstance : mg "isinstance" = none := He.free_ok X G (c.1.fact 11 (f := .free "isinstance") rfl)
  have m_str : mg "str" = none := He.free_ok X G (c.1.fact 12 (f := .free "str") rfl)
  have k__law_turned : CalZ P w K mg base 2 "_law_turned" 2 f__law_turned_93 := calZ F__law_turned (He.glo_ok X G (c.1.fact 13 (f := .glo "_law_turned") rfl)) (bi__law_turned F__law_turned) (ok__law_turned F__law_turned k__law_then m_isinstance m_str)
  have m_range : mg "range" = none := He.free_ok X G (c.1.fact 14 (f := .free "range") rfl)
  have m_tuple : mg "tuple" = none := He.free_ok X G (c.1.fact 15 (f := .free "tuple") rfl)
  have k__law_house : CalZ P w K mg base 3 "_law_house" 3 f__law_house_93 := calZ F__law_house (He.glo_ok X G (c.1.fact 16 (f := .glo "_law_house") rfl)) (bi__law_house F__law_house) (ok__law_house F__law_house k__law_seen k__law_sight k__law_take k__law_turned m_len m_range m_tuple)
  have k__law_names : CalZ P w K mg base 2 "_law_names" 2 f__law_names := calZ F__law_names (He.glo_ok X G (c.1.fact 17 (f := .glo "_law_names") rfl)) (bi__law_names F__law_names) (ok__law_names F__law_names k__law_take m_range)
  have k__law_quarter : CalZ P w K mg base 3 "_law_quarter" 3 f__law_quarter_93 := calZ F__law_quarter (He.glo_ok X G (c.1.fact 18 (f := .glo "_law_quarter") rfl)) (bi__law_quarter F__law_quarter) (ok__law_quarter F__law_quarter k__law_seen k__law_turned m_isinstance m_str)
  have k__law_edge_house : CalZ P w K mg base 4 "_law_edge_house" 2 f__law_edge_house := calZ F__law_edge_house (He.glo_ok X G (c.1.fact 19 (f := .glo "_law_edge_house") rfl)) (bi__law_edge_house F__law_edge_house) (ok__law_edge_house F__law_edge_house k__law_quarter m_enumerate m_int m_isinstance m_len m_str m_tuple)
  have k_cls_Marks := He.cls_ok (c.1.fact 20 (f := .cls "Marks") rfl)
  have k_na_Marks_own_looks := He.noat_ok (c.1.fact 21 (f := .noat "Marks" "own_looks") rfl)
  have k_na_Marks_own_marks := He.noat_ok (c.1.fact 22 (f := .noat "Marks" "own_marks") rfl)
  have k_Marks_many : MetZ P w K mg base 1 "Marks" "many" 1 f_Marks_many := ⟨_, fd_Marks_many, _, k_cls_Marks, He.meth_ok (c.1.fact 23 (f := .meth "Marks" "many") rfl), ok_Marks_many F_Marks_many k_cls_Marks k_na_Marks_own_looks k_na_Marks_own_marks m_len, bi_Marks_many F_Marks_many⟩
  have k_na_Marks_own_wholes := He.noat_ok (c.1.fact 24 (f := .noat "Marks" "own_wholes") rfl)
  have k_Marks_mark : MetZ P w K mg base 1 "Marks" "mark" 2 f_Marks_mark := ⟨_, fd_Marks_mark, _, k_cls_Marks, He.meth_ok (c.1.fact 25 (f := .meth "Marks" "mark") rfl), ok_Marks_mark F_Marks_mark k_cls_Marks k_na_Marks_own_marks k_na_Marks_own_wholes m_isinstance m_str, bi_Marks_mark F_Marks_mark⟩
  have k_na_Marks_own_fours := He.noat_ok (c.1.fact 26 (f := .noat "Marks" "own_fours") rfl)
  have k_Marks_parted_once : MetZ P w K mg base 2 "Marks" "parted_once" 1 f_Marks_parted_once := ⟨_, fd_Marks_parted_once, _, k_cls_Marks, He.meth_ok (c.1.fact 27 (f := .meth "Marks" "parted_once") rfl), ok_Marks_parted_once F_Marks_parted_once k_cls_Marks k_na_Marks_own_fours k_na_Marks_own_looks k_Marks_mark m_len m_tuple, bi_Marks_parted_once F_Marks_parted_once⟩
  have k_Marks_part_on : MetZ P w K mg base 3 "Marks" "part_on" 1 f_Marks_part_on := ⟨_, fd_Marks_part_on, _, k_cls_Marks, He.meth_ok (c.1.fact 28 (f := .meth "Marks" "part_on") rfl), ok_Marks_part_on F_Marks_part_on k_cls_Marks k_na_Marks_own_marks k_Marks_many k_Marks_parted_once, bi_Marks_part_on F_Marks_part_on⟩
  have k_SHOWN : ConZ mg K w "SHOWN" c_SHOWN := conZ_ok X G (c.con 0 rfl)
  have k_shown : CalZ P w K mg base 1 "shown" 2 f_shown := calZ F_shown (He.glo_ok X G (c.1.fact 29 (f := .glo "shown") rfl)) (bi_shown F_shown) (ok_shown F_shown k_SHOWN)
  have k_QUARTERS : ConZ mg K w "QUARTERS" c_QUARTERS := conZ_ok X G (c.con 3 rfl)
  have k_behind : CalZ P w K mg base 1 "behind" 2 f_behind := calZ F_behind (He.glo_ok X G (c.1.fact 30 (f := .glo "behind") rfl)) (bi_behind F_behind) (ok_behind F_behind k_QUARTERS m_int)
  have k_turned : CalZ P w K mg base 2 "turned" 2 f_turned := calZ F_turned (He.glo_ok X G (c.1.fact 31 (f := .glo "turned") rfl)) (bi_turned F_turned) (ok_turned F_turned k_behind m_isinstance m_str)
  have k_quarter_of : CalZ P w K mg base 3 "quarter_of" 3 f_quarter_of := calZ F_quarter_of (He.glo_ok X G (c.1.fact 32 (f := .glo "quarter_of") rfl)) (bi_quarter_of F_quarter_of) (ok_quarter_of F_quarter_of k_shown k_turned m_isinstance m_str)
  have k_quarters_of : CalZ P w K mg base 4 "quarters_of" 2 f_quarters_of := calZ F_quarters_of (He.glo_ok X G (c.1.fact 33 (f := .glo "quarters_of") rfl)) (bi_quarters_of F_quarters_of) (ok_quarters_of F_quarters_of k_QUARTERS k_quarter_of m_range)
  have m_all : mg "all" = none := He.free_ok X G (c.1.fact 34 (f := .free "all") rfl)
  have k_one_of : CalZ P w K mg base 1 "one_of" 1 f_one_of := calZ F_one_of (He.glo_ok X G (c.1.fact 35 (f := .glo "one_of") rfl)) (bi_one_of F_one_of) (ok_one_of F_one_of m_all)
  have k_wholes_of : CalZ P w K mg base 2 "wholes_of" 1 f_wholes_of := calZ F_wholes_of (He.glo_ok X G (c.1.fact 36 (f := .glo "wholes_of") rfl)) (bi_wholes_of F_wholes_of) (ok_wholes_of F_wholes_of k_one_of m_isinstance m_str)
  have k_na_Marks_own_house := He.noat_ok (c.1.fact 37 (f := .noat "Marks" "own_house") rfl)
  have k_mk_Marks : MakZ P w K mg base 5 "Marks" 2 f_Marks_init := ⟨_, fd_Marks_init, _, He.mkr_ok (c.1.fact 38 (f := .mkr "Marks") rfl), ok_Marks_init F_Marks_init k_SHOWN k_quarters_of k_wholes_of k_cls_Marks k_na_Marks_own_fours k_na_Marks_own_house k_na_Marks_own_looks k_na_Marks_own_marks k_na_Marks_own_wholes k_Marks_part_on m_enumerate m_len m_range, He.glo_ok X G (c.1.fact 39 (f := .glo "Marks") rfl), bi_Marks_init F_Marks_init⟩
  have k_alike : CalZ P w K mg base 7 "alike" 3 f_alike := calZ F_alike (He.glo_ok X G (c.1.fact 40 (f := .glo "alike") rfl)) (bi_alike F_alike) (ok_alike F_alike k_mk_Marks k_Marks_mark)
  have k_half_pair : CalZ P w K mg base 4 "half_pair" 3 f_half_pair := calZ F_half_pair (He.glo_ok X G (c.1.fact 41 (f := .glo "half_pair") rfl)) (bi_half_pair F_half_pair) (ok_half_pair F_half_pair k_quarter_of)
  have k_HALVES : ConZ mg K w "HALVES" c_HALVES := conZ_ok X G (c.con 4 rfl)
  have k_halves_of : CalZ P w K mg base 5 "halves_of" 2 f_halves_of := calZ F_halves_of (He.glo_ok X G (c.1.fact 42 (f := .glo "halves_of") rfl)) (bi_halves_of F_halves_of) (ok_halves_of F_halves_of k_HALVES k_half_pair m_range)
  have k_is_lone : CalZ P w K mg base 1 "is_lone" 1 f_is_lone := calZ F_is_lone (He.glo_ok X G (c.1.fact 43 (f := .glo "is_lone") rfl)) (bi_is_lone F_is_lone) (ok_is_lone F_is_lone m_isinstance m_str)
  have m_max : mg "max" = none := He.free_ok X G (c.1.fact 44 (f := .free "max") rfl)
  have k_cls_Edge := He.cls_ok (c.1.fact 45 (f := .cls "Edge") rfl)
  have k_na_Edge_numbers := He.noat_ok (c.1.fact 46 (f := .noat "Edge" "numbers") rfl)
  have k_na_Edge_own_house := He.noat_ok (c.1.fact 47 (f := .noat "Edge" "own_house") rfl)
  have k_na_Edge_pairs := He.noat_ok (c.1.fact 48 (f := .noat "Edge" "pairs") rfl)
  have k_Edge_count : MetZ P w K mg base 6 "Edge" "count" 1 f_Edge_count := ⟨_, fd_Edge_count, _, k_cls_Edge, He.meth_ok (c.1.fact 49 (f := .meth "Edge" "count") rfl), ok_Edge_count F_Edge_count k_halves_of k_is_lone k_cls_Edge k_na_Edge_numbers k_na_Edge_own_house k_na_Edge_pairs m_len m_max, bi_Edge_count F_Edge_count⟩
  have k_na_Edge_rows := He.noat_ok (c.1.fact 50 (f := .noat "Edge" "rows") rfl)
  have k_Edge_walk : MetZ P w K mg base 6 "Edge" "walk" 1 f_Edge_walk := ⟨_, fd_Edge_walk, _, k_cls_Edge, He.meth_ok (c.1.fact 51 (f := .meth "Edge" "walk") rfl), ok_Edge_walk F_Edge_walk k_halves_of k_cls_Edge k_na_Edge_own_house k_na_Edge_pairs k_na_Edge_rows m_enumerate m_len, bi_Edge_walk F_Edge_walk⟩
  have k_mk_Edge : MakZ P w K mg base 7 "Edge" 4 f_Edge_init := ⟨_, fd_Edge_init, _, He.mkr_ok (c.1.fact 52 (f := .mkr "Edge") rfl), ok_Edge_init F_Edge_init k_cls_Edge k_na_Edge_numbers k_na_Edge_own_house k_na_Edge_pairs k_na_Edge_rows k_Edge_count k_Edge_walk, He.glo_ok X G (c.1.fact 53 (f := .glo "Edge") rfl), bi_Edge_init F_Edge_init⟩
  have k_is_ended : CalZ P w K mg base 1 "is_ended" 1 f_is_ended := calZ F_is_ended (He.glo_ok X G (c.1.fact 54 (f := .glo "is_ended") rfl)) (bi_is_ended F_is_ended) (ok_is_ended F_is_ended m_isinstance m_str)
  have k_Edge_unlike : MetZ P w K mg base 2 "Edge" "unlike" 1 f_Edge_unlike := ⟨_, fd_Edge_unlike, _, k_cls_Edge, He.meth_ok (c.1.fact 55 (f := .meth "Edge" "unlike") rfl), ok_Edge_unlike F_Edge_unlike k_is_ended k_cls_Edge k_na_Edge_pairs m_len, bi_Edge_unlike F_Edge_unlike⟩
  have k_fit_paper : CalZ P w K mg base 9 "fit_paper" 3 f_fit_paper := calZ F_fit_paper (He.glo_ok X G (c.1.fact 56 (f := .glo "fit_paper") rfl)) (bi_fit_paper F_fit_paper) (ok_fit_paper F_fit_paper k_cls_Edge k_na_Edge_numbers k_na_Edge_pairs k_mk_Edge k_Edge_unlike m_len)
  have k_Edge_endless : MetZ P w K mg base 6 "Edge" "endless" 1 f_Edge_endless := ⟨_, fd_Edge_endless, _, k_cls_Edge, He.meth_ok (c.1.fact 57 (f := .meth "Edge" "endless") rfl), ok_Edge_endless F_Edge_endless k_halves_of k_cls_Edge k_na_Edge_numbers k_na_Edge_own_house k_na_Edge_pairs k_na_Edge_rows m_enumerate m_len m_tuple, bi_Edge_endless F_Edge_endless⟩
  have k_misfit : CalZ P w K mg base 9 "misfit" 3 f_misfit := calZ F_misfit (He.glo_ok X G (c.1.fact 58 (f := .glo "misfit") rfl)) (bi_misfit F_misfit) (ok_misfit F_misfit k_cls_Edge k_na_Edge_rows k_mk_Edge k_Edge_endless k_Edge_unlike)
  have k_fits : CalZ P w K mg base 10 "fits" 3 f_fits := calZ F_fits (He.glo_ok X G (c.1.fact 59 (f := .glo "fits") rfl)) (bi_fits F_fits) (ok_fits F_fits k_misfit)
  have k_is_kept : CalZ P w K mg base 6 "is_kept" 3 f_is_kept := calZ F_is_kept (He.glo_ok X G (c.1.fact 60 (f := .glo "is_kept") rfl)) (bi_is_kept F_is_kept) (ok_is_kept F_is_kept k_halves_of k_is_ended k_is_lone m_all)
  have m_bool : mg "bool" = none := He.free_ok X G (c.1.fact 61 (f := .free "bool") rfl)
  have k_is_number : CalZ P w K mg base 1 "is_number" 1 f_is_number := calZ F_is_number (He.glo_ok X G (c.1.fact 62 (f := .glo "is_number") rfl)) (bi_is_number F_is_number) (ok_is_number F_is_number m_bool m_int m_isinstance)
  have k_LETTERS : ConZ mg K w "LETTERS" c_LETTERS := conZ_ok X G (c.con 1 rfl)
  have k_MOST_LETTERS : ConZ mg K w "MOST_LETTERS" c_MOST_LETTERS := conZ_ok X G (c.con 2 rfl)
  have k_is_colour : CalZ P w K mg base 1 "is_colour" 1 f_is_colour := calZ F_is_colour (He.glo_ok X G (c.1.fact 63 (f := .glo "is_colour") rfl)) (bi_is_colour F_is_colour) (ok_is_colour F_is_colour k_LETTERS k_MOST_LETTERS m_all m_isinstance m_len m_str)
  have k_is_below : CalZ P w K mg base 2 "is_below" 2 f_is_below := calZ F_is_below (He.glo_ok X G (c.1.fact 64 (f := .glo "is_below") rfl)) (bi_is_below F_is_below) (ok_is_below F_is_below k_is_number)
  have k_is_turn : CalZ P w K mg base 3 "is_turn" 1 f_is_turn := calZ F_is_turn (He.glo_ok X G (c.1.fact 65 (f := .glo "is_turn") rfl)) (bi_is_turn F_is_turn) (ok_is_turn F_is_turn k_SHOWN k_is_below m_len)
  have k_is_look : CalZ P w K mg base 4 "is_look" 1 f_is_look := calZ F_is_look (He.glo_ok X G (c.1.fact 66 (f := .glo "is_look") rfl)) (bi_is_look F_is_look) (ok_is_look F_is_look k_is_number k_is_turn m_isinstance m_len m_tuple)
  have k_is_sight_of : CalZ P w K mg base 5 "is_sight_of" 2 f_is_sight_of := calZ F_is_sight_of (He.glo_ok X G (c.1.fact 67 (f := .glo "is_sight_of") rfl)) (bi_is_sight_of F_is_sight_of) (ok_is_sight_of F_is_sight_of k_is_colour k_is_look)
  have k_is_sight : CalZ P w K mg base 6 "is_sight" 2 f_is_sight := calZ F_is_sight (He.glo_ok X G (c.1.fact 68 (f := .glo "is_sight") rfl)) (bi_is_sight F_is_sight) (ok_is_sight F_is_sight k_is_sight_of m_len)
  have k_is_triple : CalZ P w K mg base 7 "is_triple" 2 f_is_triple := calZ F_is_triple (He.glo_ok X G (c.1.fact 69 (f := .glo "is_triple") rfl)) (bi_is_triple F_is_triple) (ok_is_triple F_is_triple k_is_number k_is_sight m_isinstance m_len m_tuple)
  have k_shows_fit : CalZ P w K mg base 8 "shows_fit" 4 f_shows_fit := calZ F_shows_fit (He.glo_ok X G (c.1.fact 70 (f := .glo "shows_fit") rfl)) (bi_shows_fit F_shows_fit) (ok_shows_fit F_shows_fit k_is_kept k_is_triple m_all m_isinstance m_len m_list)
  have k_sight_at : CalZ P w K mg base 4 "sight_at" 3 f_sight_at := calZ F_sight_at (He.glo_ok X G (c.1.fact 71 (f := .glo "sight_at") rfl)) (bi_sight_at F_sight_at) (ok_sight_at F_sight_at k_quarter_of)
  have k_colour_at : CalZ P w K mg base 5 "colour_at" 3 f_colour_at := calZ F_colour_at (He.glo_ok X G (c.1.fact 72 (f := .glo "colour_at") rfl)) (bi_colour_at F_colour_at) (ok_colour_at F_colour_at k_sight_at m_isinstance m_str)
  have k_is_halves : CalZ P w K mg base 3 "is_halves" 2 f_is_halves := calZ F_is_halves (He.glo_ok X G (c.1.fact 73 (f := .glo "is_halves") rfl)) (bi_is_halves F_is_halves) (ok_is_halves F_is_halves k_is_below m_all m_isinstance m_len m_tuple)
  have k_shows_misfit : CalZ P w K mg base 6 "shows_misfit" 4 f_shows_misfit := calZ F_shows_misfit (He.glo_ok X G (c.1.fact 74 (f := .glo "shows_misfit") rfl)) (bi_shows_misfit F_shows_misfit) (ok_shows_misfit F_shows_misfit k_colour_at k_is_halves m_isinstance m_len m_tuple)
  have m_repr : mg "repr" = none := He.free_ok X G (c.1.fact 75 (f := .free "repr") rfl)
  have k__law_pair_right : CalZ P w K mg base 11 "_law_pair_right" 3 f__law_pair_right := calZ F__law_pair_right (He.glo_ok X G (c.1.fact 76 (f := .glo "_law_pair_right") rfl)) (bi__law_pair_right F__law_pair_right) (ok__law_pair_right F__law_pair_right k__law_edge_house k_alike k_fit_paper k_fits k_misfit k_shows_fit k_shows_misfit m_len m_repr)
  have k__law_right : CalZ P w K mg base 12 "_law_right" 1 f__law_right_93 := calZ F__law_right (He.glo_ok X G (c.1.fact 77 (f := .glo "_law_right") rfl)) (bi__law_right F__law_right) (ok__law_right F__law_right k__law_house k__law_names k__law_pair_right k__law_sight k__law_turned k_alike k_fits m_len m_range)
  exact ok_law F_law k__law_box k__law_cells k__law_right m_len m_range
end L93
set_option Elab.async false
set_option linter.all false
set_option maxRecDepth 100000
set_option maxHeartbeats 4000000

/-! the head of k93 -/
namespace L93
open PySem PySem.Spec PyProof.Rows L2 Z Pg
theorem run (w : World) : HandSHeadRun.RunEq R (PySem.W.view R.prog [57]) hk ob 4000 loose w := by
  intro os
  kernel_rfl
end L93
open PySem PySem.W PySem.Calls PyProof.Rows
/-- the law, by what its function of plain data answers -/
theorem L93.holds (good : ∀ ns : List Int, ns.length ≤ 63 → ∃ S', Pg.f_law_93 [.wl (ns.map Z.D.int)] [] = .val (.bl true) S') : PySem.Challenge.rw_wellpanes_k93_whole_edges_as_pictures.Holds := by
  w_on; o_law
  refine HandSHeadRun.head_any (r := OpenLaw.row PySem.Challenge.rw_wellpanes_k93_whole_edges_as_pictures) (q := view (OpenLaw.row PySem.Challenge.rw_wellpanes_k93_whole_edges_as_pictures).prog [57]) (H := L93.hk) (ob := L93.ob) (M := 4000) (loose := L93.loose) (d := HandSHeadRun.topDef (OpenLaw.row PySem.Challenge.rw_wellpanes_k93_whole_edges_as_pictures).prog 57) (kwd := []) L93.ob_eq
    (by kernel_rfl) (fun s => by kernel_rfl) L93.run (by kernel_rfl) (by kernel_rfl) (by kernel_rfl) (by rfl) (by first | assumption | decide +kernel) (by decide +kernel) ⟨rfl, rfl, rfl, rfl, rfl, by decide +kernel⟩ ?hw ?hc
  case hw => w_witness2
  case hc =>
    refine L2.walk_ofE (l := PySem.Challenge.rw_wellpanes_k93_whole_edges_as_pictures) (n := 63) (k := 13) (x := "script") (CX := L2.CX0) rfl (by decide) (by kernel_rfl) ⟨rfl, by decide, by decide⟩ ?F (fun _ _ _ _ z => z)
    intro w mg fa h Y G hmg0
    obtain ⟨K, KX, c⟩ := Y
    have hmg : mg ("law" : PySem.Str) = some (.ref fa) := by
      have e : (HandSHeadRun.topDef (OpenLaw.row PySem.Challenge.rw_wellpanes_k93_whole_edges_as_pictures).prog 57).name = ("law" : PySem.Str) := by kernel_rfl
      rw [← e]
      exact hmg0
    obtain ⟨fd, hb, hF⟩ := L93.facts (P := (PySem.Challenge.rw_wellpanes_k93_whole_edges_as_pictures).prog) (w := w) KX G hmg c
    exact ⟨K, fd, Z.spZ K w 1 Pg.f_law_93, KX, hb, fun H a ns hl _ hS => Z.sp_end (good ns hl) hS, hF⟩
theorem PySem.Challenge.cw_wellpanes_k93_whole_edges_as_pictures_holds : PySem.Challenge.rw_wellpanes_k93_whole_edges_as_pictures.Holds :=
  L93.holds fun ns hl => L93.f_law_n hl
