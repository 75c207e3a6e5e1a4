import PyProof.Rows.All
import Wide.All
import OpenK.AllK
import Wide.FinOn
import KE.KeyNested
import KE.KDictKeyed
import PyProof.DictMoreH
import KE.KStateDown
import HandS.ForMost
import HandS.Exc
import HandS.IsInst
import HandS.Wide
import HandS.Defaults
import HandS.HeadHook1
import HandS.TupAny
import HandS.TupMul
import HandS.Deep
import HandS.Flow
import HandS.ReCall
import HandS.Style
import HandS.NoneIn
import HandS.Zip
import HandS.Codes
import HandS.RaiseMore
import HandS.Words
import HandS.SortInts
import HandS.More
import HandS.Text
import KE.KDictCopyH
import HandS.DictComp
import HandS.SetBool
import HandS.SetKeys
import HandS.Head0
import HandS.Head1
import HandS.Head2
import HandS.HeadEnd
import HandS.HeadHook2
import PyProof.StrLawsRepr
import PySem.Challenge.RW_wellpanes_k80_whole_spirals
set_option Elab.async false
set_option linter.all false
set_option maxRecDepth 100000
set_option maxHeartbeats 2000000
/-! ZD: dicts whose keys are numbers, texts, None, tuples of them, nested, in any mix. -/
namespace ZD
open PySem

abbrev Ent := NestedKey × Value × Value
def IsN (h : Heap) (k : NestedKey) (v : Value) : Prop := NestedIs h k v ∧ k.depth ≤ 8
def entN (w : World) (x : Ent) : DictEntry := ⟨x.1.hash w, x.2.1, x.2.2⟩
def DictN (w : World) (h : Heap) (d : Addr) (xs : List Ent) : Prop :=
  ∃ o es ep, h.get? d = some o ∧ o.ExactDict ∧ o.data = .dict es ep ∧ es.toList = xs.map (entN w) ∧ (∀ x ∈ xs, IsN h x.1 x.2.1) ∧ (xs.map (·.1)).Nodup
/-- the value under a key -/
def getN (xs : List Ent) (k : NestedKey) : Option Value := (xs.find? fun x => decide (x.1 = k)).map (·.2.2)
/-- a value stored under a key: in its place, the key that stands there stays; or behind all -/
def putN (xs : List Ent) (k : NestedKey) (a v : Value) : List Ent :=
  if (getN xs k).isSome then xs.map (fun x => if x.1 = k then (x.1, x.2.1, v) else x) else xs ++ [(k, a, v)]

section
variable {prog : Program} {w : World} {A : Around} {E : Value → Shared → Prop} {s : Shared} {d : Addr} {xs : List Ent} {k : NestedKey} {key : Value}

theorem IsN.keep {h h' : Heap} {k : NestedKey} {v : Value} (x : IsN h k v) (hk : ∀ b o vs n, h.get? b = some o → o.data = .seq vs n → h'.get? b = some o) : IsN h' k v :=
  ⟨NestedIs.at hk k v x.1, x.2⟩
theorem DictN.typeIs (hm : DictN w s.heap d xs) : s.TypeIs (.ref d) "dict" := let ⟨o, _, _, ho, hc, _⟩ := hm; ⟨o, ho, hc.1⟩

/-- none stands under k, or the one at j -/
theorem getN_none (hn : ∀ (j : Nat) (p : Value × Value), xs[j]? ≠ some (k, p)) : getN xs k = none := by
  have e : xs.find? (fun x => decide (x.1 = k)) = none := List.find?_eq_none.mpr fun x hx q => by
    obtain ⟨j, hj⟩ := List.mem_iff_getElem?.mp hx
    exact hn j x.2 (by rw [hj, ← of_decide_eq_true q])
  unfold getN
  rw [e]
  rfl
theorem getN_at (hd : (xs.map (·.1)).Nodup) {j : Nat} {p : Value × Value} (hj : xs[j]? = some (k, p)) : getN xs k = some p.2 := by
  induction xs generalizing j with
  | nil => cases hj
  | cons x r ih =>
    rw [List.map_cons, List.nodup_cons] at hd
    cases j with
    | zero =>
      have e : x = (k, p) := Option.some.inj hj
      subst e
      simp [getN]
    | succ j =>
      have hj' : r[j]? = some (k, p) := hj
      have ne : ¬ x.1 = k := fun e => hd.1 (List.mem_map.mpr ⟨_, List.mem_of_getElem? hj', e.symm⟩)
      have e := ih hd.2 hj'
      unfold getN at e ⊢
      rw [List.find?_cons, decide_eq_false ne]
      exact e
theorem mem_of_getN {v : Value} (h : getN xs k = some v) : ∃ a, (k, a, v) ∈ xs := by
  unfold getN at h
  obtain ⟨x, hx, hv⟩ := Option.map_eq_some_iff.mp h
  have h1 := List.mem_of_find?_eq_some hx
  have h2 : x.1 = k := by simpa using List.find?_some hx
  refine ⟨x.2.1, ?_⟩
  have e : x = (k, x.2.1, v) := by rw [← h2, ← hv]
  rw [← e]
  exact h1
theorem not_mem_of_getN (h : getN xs k = none) : k ∉ xs.map (·.1) := fun hm => by
  obtain ⟨x, hx, e⟩ := List.mem_map.mp hm
  unfold getN at h
  have q := List.find?_eq_none.mp (Option.map_eq_none_iff.mp h) x hx
  exact q (decide_eq_true e)
theorem putN_keys (a v : Value) : (putN xs k a v).map (·.1) = if (getN xs k).isSome then xs.map (·.1) else xs.map (·.1) ++ [k] := by
  unfold putN
  split
  · rw [List.map_map]
    refine List.map_congr_left fun x _ => ?_
    show (if x.1 = k then (x.1, x.2.1, v) else x).1 = x.1
    split <;> rfl
  · rw [List.map_append]; rfl
theorem putN_nodup (hd : (xs.map (·.1)).Nodup) (a v : Value) : ((putN xs k a v).map (·.1)).Nodup := by
  rw [putN_keys]
  cases e : getN xs k with
  | some _ => simpa using hd
  | none =>
    have n := not_mem_of_getN e
    show (xs.map (·.1) ++ [k]).Nodup
    rw [List.nodup_append]
    refine ⟨hd, by simp, fun x hx y hy q => n ?_⟩
    have e2 : y = k := by simpa using hy
    rw [← e2, ← q]
    exact hx
theorem putN_len (a v : Value) : (putN xs k a v).length ≤ xs.length + 1 := by
  unfold putN
  split <;> simp

/-- what the loop over the places knows: none met that has the key, all that have it are ahead; or the one met -/
def Seen (xs : List Ent) (k : NestedKey) (rest : List Nat) (hit : Option Nat) : Prop :=
  (hit = none ∧ ∀ (j : Nat) (p : Value × Value), xs[j]? = some (k, p) → j ∈ rest) ∨ ∃ (j : Nat) (p : Value × Value), hit = some j ∧ xs[j]? = some (k, p) ∧ j ∉ rest
theorem nodup_ix (hd : (xs.map (·.1)).Nodup) {i j : Nat} {p q : Value × Value} (h1 : xs[i]? = some (k, p)) (h2 : xs[j]? = some (k, q)) : i = j := by
  have e1 : (xs.map (·.1))[i]? = some k := by rw [List.getElem?_map, h1]; rfl
  have e2 : (xs.map (·.1))[j]? = some k := by rw [List.getElem?_map, h2]; rfl
  exact (List.getElem?_inj (List.getElem?_eq_some_iff.mp e1).1 hd).mp (e1.trans e2.symm)

theorem find_ok {o : Obj} {es : Array DictEntry} {ep : Nat} {Q : Option Nat → Shared → Prop} (hu : A.units + 8 < cLine) (hk : IsN s.heap k key)
    (ho : s.heap.get? d = some o) (hd : o.data = .dict es ep) (he : es.toList = xs.map (entN w)) (his : ∀ x ∈ xs, IsN s.heap x.1 x.2.1) (hn : (xs.map (·.1)).Nodup)
    (h0 : (∀ (j : Nat) (p : Value × Value), xs[j]? ≠ some (k, p)) → Q none s) (h1 : ∀ (j : Nat) (p : Value × Value), xs[j]? = some (k, p) → Q (some j) s) :
    wpAny (model prog w) A (dictFind d key (k.hash w)) Q E s := by
  have hat : ∀ j : Nat, es[j]? = (xs[j]?).map (entN w) := fun j => by rw [← Array.getElem?_toList, he, List.getElem?_map]
  have hsz : es.size = xs.length := by rw [← Array.length_toList, he, List.length_map]
  have heq : ∀ (x : Ent), x ∈ xs → SeqAt.EqAt A s x.2.1 key (decide (x.1 = k)) := fun x hx => by
    have q := eqAt_key x.1 k A s x.2.1 key (his x hx).1 hk.1 (by have := hk.2; omega)
    rw [NestedKey.decide_eq]
    exact q
  -- the places that have the key's hash
  have hpl : ∀ (j : Nat) (p : Value × Value), xs[j]? = some (k, p) → j ∈ placesWithHash es.size (fun i => es[i]?.map (·.hash)) (k.hash w) := fun j p hj => by
    have hl := (List.getElem?_eq_some_iff.mp hj).1
    unfold placesWithHash
    rw [List.mem_filter, List.mem_range]
    refine ⟨by rw [hsz]; exact hl, ?_⟩
    show ((es[j]?.map (·.hash)) == some (k.hash w)) = true
    rw [hat j, hj]
    simp [entN]
  have hplt : ∀ j, j ∈ placesWithHash es.size (fun i => es[i]?.map (·.hash)) (k.hash w) → j < xs.length := fun j hj => by
    unfold placesWithHash at hj
    rw [List.mem_filter, List.mem_range] at hj
    rw [← hsz]; exact hj.1
  have hplh : ∀ j, j ∈ placesWithHash es.size (fun i => es[i]?.map (·.hash)) (k.hash w) → ((es[j]?.map (·.hash)) == some (k.hash w)) = true := fun j hj => by
    unfold placesWithHash at hj
    rw [List.mem_filter] at hj
    exact hj.2
  have hpn : (placesWithHash es.size (fun i => es[i]?.map (·.hash)) (k.hash w)).Nodup := by
    unfold placesWithHash
    exact List.Nodup.sublist List.filter_sublist List.nodup_range
  generalize hpe : placesWithHash es.size (fun i => es[i]?.map (·.hash)) (k.hash w) = pl at hpl hplt hplh hpn
  -- a plain walk
  have walk : wpAny (model prog w) A (dictWalkPlain d key (k.hash w) es pl) Q E s := by
    unfold dictWalkPlain
    refine wpAny_bind ?_
    refine wpAny_forIn_list _ (fun rest b s' => s' = s ∧ b = (none, ()) ∧ (∀ j ∈ rest, j ∈ pl) ∧ rest.Nodup ∧ ∀ (j : Nat) (p : Value × Value), xs[j]? = some (k, p) → j ∈ rest) _ ?_ ?_ _ _ ⟨rfl, rfl, fun _ h => h, hpn, hpl⟩
    · rintro x rest b s' ⟨e1, e2, hsub, hnd, hall⟩
      subst e1 e2
      have hx := hplt x (hsub x List.mem_cons_self)
      have hxx : xs[x]? = some xs[x] := List.getElem?_eq_getElem hx
      have hm : xs[x] ∈ xs := List.getElem_mem hx
      have hr : ∀ j ∈ rest, j ∈ pl := fun j hj => hsub j (List.mem_cons_of_mem _ hj)
      rw [List.nodup_cons] at hnd
      have hee : es[x]? = some (entN w xs[x]) := by rw [hat x, hxx]; rfl
      have hh := hplh x (hsub x List.mem_cons_self)
      rw [hee] at hh
      rw [hee]
      have hh2 : ((entN w xs[x]).hash == k.hash w) = true := by simpa using hh
      dsimp only
      rw [if_pos hh2]
      refine wpAny_bind (wpAny_dictEpoch ho hd (wpAny_bind (heq _ hm prog w E _ (wpAny_bind (wpAny_dictEpoch ho hd ?_)))))
      show wpAny _ _ (if (ep != ep) = true then _ else _) _ E _
      rw [if_neg (by simp)]
      by_cases hkk : xs[x].1 = k
      · rw [decide_eq_true hkk]
        exact wpAny_bind (wpAny_rule (wpAny_pure (wpAny_pure (h1 x xs[x].2 (by rw [hxx, ← hkk])))))
      · rw [decide_eq_false hkk]
        refine wpAny_bind (wpAny_rule (wpAny_pure ⟨rfl, rfl, hr, hnd.2, fun j p hj => ?_⟩))
        rcases List.mem_cons.mp (hall j p hj) with e | e
        · subst e
          rw [hxx] at hj
          exact absurd (congrArg (·.1) (Option.some.inj hj)) hkk
        · exact e
    · rintro b s' ⟨e1, e2, _, _, hall⟩
      subst e1 e2
      exact wpAny_pure (h0 fun j p hj => by cases hall j p hj)
  have hmem : ∀ e ∈ es, ∃ x ∈ xs, e = entN w x := fun e hin => by
    have q : e ∈ xs.map (entN w) := by rw [← he]; exact Array.mem_toList_iff.mpr hin
    obtain ⟨x, hx, rfl⟩ := List.mem_map.mp q
    exact ⟨x, hx, rfl⟩
  have quiet : ∀ (v : Value) (k' : NestedKey), IsN s.heap k' v → QuietAt prog w 8 s v := fun v k' q => quiet_key k' v 8 s q.1 q.2
  have many : wpAny (model prog w) A (do
      if (key :: pl.filterMap fun i => es[i]?.map (·.key)).all carriedByValue then return ← dictWalkPlain d key (k.hash w) es pl
      if let .ref _ := key then
        if es.any fun e => e.key == key && e.hash != k.hash w then unsupported "dict.find:a-stored-key-whose-hash-has-changed"
      let tells ← if (pl.filterMap fun i => es[i]?.map (·.key)) == [key] then pure false else tableMayTell key (pl.filterMap fun i => es[i]?.map (·.key))
      if tells && (pl.filterMap fun i => es[i]?.map (·.key)).length ≥ 2 then unsupported "dict.find:order-among-keys-of-one-hash"
      let mut hit : Option Nat := none
      for i in pl do
        if let some e := es[i]? then
          if e.hash == k.hash w then
            let before ← dictEpoch d (keyPart key)
            let same ← eqBool e.key key
            if (← dictEpoch d (keyPart key)) != before then unsupported "dict.changed-during-lookup"
            if same then
              if hit.isSome then unsupported "dict.find:order-among-keys-of-one-hash"
              rule "dict.find.hit"
              if (pl.filterMap fun i => es[i]?.map (·.key)).length < 2 then return some i
              hit := some i
            else
              rule "dict.find.same-hash-other-key"
              if tells && !(0 ≤ k.hash w && k.hash w < 32) then unsupported "dict.find:asked-again-or-not-hangs-on-the-table"
      return hit) Q E s := by
    have hst : ∀ v ∈ pl.filterMap (fun i => es[i]?.map (·.key)), QuietAt prog w 8 s v := fun v hv => by
      obtain ⟨i, _, hi⟩ := List.mem_filterMap.mp hv
      obtain ⟨e, hei, rfl⟩ := Option.map_eq_some_iff.mp hi
      obtain ⟨x, hx, rfl⟩ := hmem e (Array.mem_of_getElem? hei)
      exact quiet _ x.1 (his x hx)
    generalize hss : pl.filterMap (fun i => es[i]?.map (·.key)) = ss at hst
    by_cases hall : (key :: ss).all carriedByValue = true
    · rw [if_pos hall]
      exact walk
    · rw [if_neg hall]
      have hch : ¬ (es.any fun e => e.key == key && e.hash != k.hash w) = true := fun hc => by
        obtain ⟨i, hi, hc⟩ := Array.any_eq_true.mp hc
        obtain ⟨x, hx, ex⟩ := hmem es[i] (Array.getElem_mem hi)
        rw [ex] at hc
        simp only [entN, Bool.and_eq_true, beq_iff_eq, bne_iff_ne, ne_eq] at hc
        have q := (his x hx).1
        rw [hc.1] at q
        exact hc.2 (by rw [NestedIs.inj _ _ _ q hk.1])
      -- the rest, told by what the table may tell: false
      have loop : wpAny (model prog w) A (do
          if false && ss.length ≥ 2 then unsupported "dict.find:order-among-keys-of-one-hash"
          let mut hit : Option Nat := none
          for i in pl do
            if let some e := es[i]? then
              if e.hash == k.hash w then
                let before ← dictEpoch d (keyPart key)
                let same ← eqBool e.key key
                if (← dictEpoch d (keyPart key)) != before then unsupported "dict.changed-during-lookup"
                if same then
                  if hit.isSome then unsupported "dict.find:order-among-keys-of-one-hash"
                  rule "dict.find.hit"
                  if ss.length < 2 then return some i
                  hit := some i
                else
                  rule "dict.find.same-hash-other-key"
                  if false && !(0 ≤ k.hash w && k.hash w < 32) then unsupported "dict.find:asked-again-or-not-hangs-on-the-table"
          return hit) Q E s := by
        rw [if_neg (by simp)]
        refine wpAny_bind ?_
        refine wpAny_forIn_list _ (fun rest b s' => s' = s ∧ b.1 = none ∧ (∀ j ∈ rest, j ∈ pl) ∧ rest.Nodup ∧ Seen xs k rest b.2) _ ?_ ?_ _ _ ⟨rfl, rfl, fun _ h => h, hpn, .inl ⟨rfl, hpl⟩⟩
        · rintro x rest ⟨b1, hit⟩ s' ⟨e1, e2, hsub, hnd, hS⟩
          subst e1
          have e2' : b1 = none := e2
          subst e2'
          have hx := hplt x (hsub x List.mem_cons_self)
          have hxx : xs[x]? = some xs[x] := List.getElem?_eq_getElem hx
          have hm : xs[x] ∈ xs := List.getElem_mem hx
          have hr : ∀ j ∈ rest, j ∈ pl := fun j hj => hsub j (List.mem_cons_of_mem _ hj)
          rw [List.nodup_cons] at hnd
          have hee : es[x]? = some (entN w xs[x]) := by rw [hat x, hxx]; rfl
          have hh := hplh x (hsub x List.mem_cons_self)
          rw [hee] at hh
          rw [hee]
          have hh2 : ((entN w xs[x]).hash == k.hash w) = true := by simpa using hh
          dsimp only
          rw [if_pos hh2]
          refine wpAny_bind (wpAny_dictEpoch ho hd (wpAny_bind (heq _ hm prog w E _ (wpAny_bind (wpAny_dictEpoch ho hd ?_)))))
          show wpAny _ _ (if (ep != ep) = true then _ else _) _ E _
          rw [if_neg (by simp)]
          by_cases hkk : xs[x].1 = k
          · rw [decide_eq_true hkk]
            have hxk : xs[x]? = some (k, xs[x].2) := by rw [hxx, ← hkk]
            rcases hS with ⟨rfl, hall⟩ | ⟨j, p, rfl, hj, hno⟩
            · simp only [Option.isSome_none, Bool.false_eq_true, if_false, if_true]
              refine wpAny_bind (wpAny_rule ?_)
              split
              · exact wpAny_pure (wpAny_pure (h1 x _ hxk))
              · exact wpAny_pure ⟨rfl, rfl, hr, hnd.2, .inr ⟨x, _, rfl, hxk, hnd.1⟩⟩
            · have e := nodup_ix hn hj hxk
              exact absurd (by rw [e]; exact List.mem_cons_self) hno
          · rw [decide_eq_false hkk]
            simp only [Bool.false_eq_true, if_false]
            refine wpAny_bind (wpAny_rule ?_)
            have hS' : Seen xs k rest hit := by
              rcases hS with ⟨q, hall⟩ | ⟨j, p, q, hj, hno⟩
              · refine .inl ⟨q, fun j p hj => ?_⟩
                rcases List.mem_cons.mp (hall j p hj) with e | e
                · subst e
                  rw [hxx] at hj
                  exact absurd (congrArg (·.1) (Option.some.inj hj)) hkk
                · exact e
              · exact .inr ⟨j, p, q, hj, fun z => hno (List.mem_cons_of_mem _ z)⟩
            first
              | exact wpAny_pure ⟨rfl, rfl, hr, hnd.2, hS'⟩
              | (rw [if_neg (by simp)]; exact wpAny_pure ⟨rfl, rfl, hr, hnd.2, hS'⟩)
              | (rw [if_neg (by simp)]; exact wpAny_bind (wpAny_pure (wpAny_pure ⟨rfl, rfl, hr, hnd.2, hS'⟩)))
        · rintro ⟨b1, hit⟩ s' ⟨e1, e2, _, _, hS⟩
          subst e1
          have e2' : b1 = none := e2
          subst e2'
          rcases hS with ⟨rfl, hall⟩ | ⟨j, p, rfl, hj, _⟩
          · exact wpAny_pure (h0 fun j p hj => by cases hall j p hj)
          · exact wpAny_pure (h1 j p hj)
      have tail : wpAny (model prog w) A (do
          let tells ← if ss == [key] then pure false else tableMayTell key ss
          if tells && ss.length ≥ 2 then unsupported "dict.find:order-among-keys-of-one-hash"
          let mut hit : Option Nat := none
          for i in pl do
            if let some e := es[i]? then
              if e.hash == k.hash w then
                let before ← dictEpoch d (keyPart key)
                let same ← eqBool e.key key
                if (← dictEpoch d (keyPart key)) != before then unsupported "dict.changed-during-lookup"
                if same then
                  if hit.isSome then unsupported "dict.find:order-among-keys-of-one-hash"
                  rule "dict.find.hit"
                  if ss.length < 2 then return some i
                  hit := some i
                else
                  rule "dict.find.same-hash-other-key"
                  if tells && !(0 ≤ k.hash w && k.hash w < 32) then unsupported "dict.find:asked-again-or-not-hangs-on-the-table"
          return hit) Q E s := by
        have tells : wpAny (model prog w) A (tableMayTell key ss) (fun b s' => b = false ∧ s' = s) E s := by
          unfold tableMayTell
          split
          · exact wpAny_pure ⟨rfl, rfl⟩
          · refine wpAny_bind (quiet key k hk A E _ ?_)
            simp only [Bool.not_true, Bool.false_eq_true, if_false]
            refine wpAny_bind ?_
            refine wpAny_forIn_list _ (fun rest b s' => s' = s ∧ b = (none, ()) ∧ ∀ v ∈ rest, QuietAt prog w 8 s v) _ ?_ ?_ _ _ ⟨rfl, rfl, hst⟩
            · rintro x rest b s' ⟨rfl, rfl, hr⟩
              refine wpAny_bind (hr x List.mem_cons_self A E _ ?_)
              simp only [Bool.not_true, Bool.false_eq_true, if_false]
              exact wpAny_pure ⟨rfl, rfl, fun v hv => hr v (List.mem_cons_of_mem _ hv)⟩
            · rintro b s' ⟨rfl, rfl, _⟩
              exact wpAny_pure ⟨rfl, rfl⟩
        by_cases hone : (ss == [key]) = true
        · rw [if_pos hone]
          exact wpAny_bind (wpAny_pure loop)
        · rw [if_neg hone]
          refine wpAny_bind (wpAny_mono tells (fun b s' hb => ?_) fun _ _ z => z)
          obtain ⟨rfl, rfl⟩ := hb
          exact loop
      cases key with
      | ref a =>
        dsimp only
        rw [if_neg hch]
        exact tail
      | _ => exact tail
  unfold dictFind
  try with_reducible refine wpAny_holding ?_
  refine wpAny_bind (wpAny_dictEntries ho hd ?_)
  dsimp only
  rw [hpe]
  cases key with
  | str x t =>
    dsimp only
    by_cases hs : (es.all fun e => isExactStrKey e.key) = true
    · rw [if_pos hs]
      have ek : k = .text x := by
        have q := hk.1
        cases q
        rfl
      have hstr : ∀ (j : Nat) (z : Ent), xs[j]? = some z → ∃ y u, z.2.1 = .str y u ∧ z.1 = .text y := fun j z hj => by
        have hm := List.mem_of_getElem? hj
        have q := (his z hm).1
        have e1 : es[j]? = some (entN w z) := by rw [hat j, hj]; rfl
        obtain ⟨hl, e2⟩ := Array.getElem?_eq_some_iff.mp e1
        have q2 := Array.all_eq_true.mp hs j hl
        rw [e2] at q2
        have q3 : isExactStrKey z.2.1 = true := q2
        obtain ⟨z1, z2, z3⟩ := z
        cases z2 with
        | str y u =>
          cases q
          exact ⟨y, u, rfl, rfl⟩
        | _ => cases q3
      unfold foundByValue
      cases hf : es.findIdx? (fun e => e.key.isStr x) with
      | none =>
        refine wpAny_pure (h0 fun j p hj => ?_)
        obtain ⟨y, u, e1, e2⟩ := hstr j _ hj
        have e3 : es[j]? = some (entN w (k, p)) := by rw [hat j, hj]; rfl
        have q := Array.findIdx?_eq_none_iff.mp hf _ (Array.mem_of_getElem? e3)
        have e4 : y = x := by
          have e5 : k = .text y := e2
          rw [ek] at e5
          injection e5 with e6
          exact e6.symm
        have e7 : (entN w (k, p)).key = .str x u := by rw [← e4]; exact e1
        rw [e7] at q
        simp [Value.isStr] at q
      | some i =>
        obtain ⟨hl, hi, _⟩ := Array.findIdx?_eq_some_iff_getElem.mp hf
        have hx : i < xs.length := by rw [← hsz]; exact hl
        have hxx : xs[i]? = some xs[i] := List.getElem?_eq_getElem hx
        have hee : es[i]? = some (entN w xs[i]) := by rw [hat i, hxx]; rfl
        have e3 : es[i] = entN w xs[i] := by
          rw [Array.getElem?_eq_getElem hl] at hee
          exact Option.some.inj hee
        obtain ⟨y, u, e1, e2⟩ := hstr i _ hxx
        have e4 : y = x := by
          rw [e3] at hi
          have e5 : (entN w xs[i]).key = .str y u := e1
          rw [e5] at hi
          simpa [Value.isStr] using hi
        have hkk : xs[i].1 = k := by rw [e2, e4, ek]
        dsimp only
        rw [hee]
        dsimp only
        refine wpAny_bind (wpAny_dictEpoch ho hd (wpAny_bind (heq _ (List.getElem_mem hx) prog w E _ (wpAny_bind (wpAny_dictEpoch ho hd ?_)))))
        show wpAny _ _ (if (ep != ep) = true then _ else _) _ E _
        rw [if_neg (by simp), decide_eq_true hkk]
        exact wpAny_bind (wpAny_rule (wpAny_pure (h1 i xs[i].2 (by rw [hxx, ← hkk]))))
    · rw [if_neg hs]
      exact many
  | _ => exact many

theorem IsN.but {h h' : Heap} {k : NestedKey} {v : Value} {o : Obj} {es : Array DictEntry} {ep : Nat} (x : IsN h k v) (ho : h.get? d = some o) (hd : o.data = .dict es ep) (hs : Heap.SameBut d h h') : IsN h' k v :=
  x.keep fun b ob vs n hb hc => (hs.2 b fun e => by
    subst e
    rw [ho] at hb
    cases hb
    rw [hd] at hc
    cases hc).trans hb
def outN (xs : List Ent) (k : NestedKey) : List Ent := xs.filter fun x => decide (x.1 ≠ k)
theorem outN_same (h : k ∉ xs.map (·.1)) : outN xs k = xs := by
  unfold outN
  rw [List.filter_eq_self]
  intro x hx
  exact decide_eq_true fun e => h (List.mem_map.mpr ⟨x, hx, e⟩)
theorem outN_erase : ∀ {xs : List Ent} {j : Nat} {p : Value × Value}, (xs.map (·.1)).Nodup → xs[j]? = some (k, p) → xs.eraseIdx j = outN xs k
  | [], j, p, _, h => by cases h
  | x :: r, 0, p, hd, h => by
    have e : x = (k, p) := Option.some.inj h
    subst e
    rw [List.map_cons, List.nodup_cons] at hd
    have e2 : outN ((k, p) :: r) k = outN r k := by
      unfold outN
      rw [List.filter_cons]
      simp
    rw [e2, outN_same hd.1]
    rfl
  | x :: r, j + 1, p, hd, h => by
    rw [List.map_cons, List.nodup_cons] at hd
    have h' : r[j]? = some (k, p) := h
    have ne : x.1 ≠ k := fun e => hd.1 (List.mem_map.mpr ⟨_, List.mem_of_getElem? h', e.symm⟩)
    have e2 : outN (x :: r) k = x :: outN r k := by
      unfold outN
      rw [List.filter_cons, if_pos (decide_eq_true ne)]
    rw [e2, List.eraseIdx_cons_succ, outN_erase hd.2 h']
theorem put_new {o : Obj} {es : Array DictEntry} {ep : Nat} {h' : Heap} {o' : Obj} (a v : Value) (hk : IsN s.heap k a) (ho : s.heap.get? d = some o) (hd : o.data = .dict es ep) (he : es.toList = xs.map (entN w))
    (his : ∀ x ∈ xs, IsN s.heap x.1 x.2.1) (hn : (xs.map (·.1)).Nodup) (h0 : getN xs k = none) (hs : Heap.SameBut d s.heap h') {ep' : Nat} (ho' : h'.get? d = some o') (hx : o'.ExactDict)
    (hd' : o'.data = .dict (es.push ⟨k.hash w, a, v⟩) ep') : DictN w h' d (putN xs k a v) := by
  have e : putN xs k a v = xs ++ [(k, a, v)] := by unfold putN; rw [h0]; rfl
  refine ⟨o', _, _, ho', hx, hd', ?_, fun x hx => ?_, putN_nodup hn a v⟩
  · rw [e, Array.toList_push, he, List.map_append]; rfl
  · rw [e] at hx
    rcases List.mem_append.mp hx with hx | hx
    · exact (his x hx).but ho hd hs
    · have e2 : x = (k, a, v) := by simpa using hx
      rw [e2]
      exact hk.but ho hd hs
theorem modify_map {α β : Type} (f : α → β) (g : β → β) (g' : α → α) (hg : ∀ x, g (f x) = f (g' x)) : ∀ (l : List α) (j : Nat), (l.map f).modify j g = (l.modify j g').map f
  | [], j => by cases j <;> rfl
  | x :: r, 0 => by simp [List.modify, hg]
  | x :: r, j + 1 => by
    have := modify_map f g g' hg r j
    simpa [List.modify] using this
theorem putN_modify : ∀ {xs : List Ent} {j : Nat} {p : Value × Value} {v : Value}, (xs.map (·.1)).Nodup → xs[j]? = some (k, p) → xs.modify j (fun x => (x.1, x.2.1, v)) = xs.map (fun x => if x.1 = k then (x.1, x.2.1, v) else x)
  | [], j, p, v, _, h => by cases h
  | x :: r, 0, p, v, hd, h => by
    have e : x = (k, p) := Option.some.inj h
    subst e
    rw [List.map_cons, List.nodup_cons] at hd
    rw [List.map_cons, if_pos rfl]
    show (k, p.1, v) :: r = (k, p.1, v) :: _
    congr 1
    symm
    rw [List.map_congr_left (g := id), List.map_id]
    intro y hy
    exact if_neg fun e => hd.1 (List.mem_map.mpr ⟨y, hy, e⟩)
  | x :: r, j + 1, p, v, hd, h => by
    rw [List.map_cons, List.nodup_cons] at hd
    have h' : r[j]? = some (k, p) := h
    have ne : x.1 ≠ k := fun e => hd.1 (List.mem_map.mpr ⟨_, List.mem_of_getElem? h', e.symm⟩)
    rw [List.map_cons, if_neg ne, ← putN_modify hd.2 h']
    rfl
theorem put_old {o : Obj} {es : Array DictEntry} {ep : Nat} {h' : Heap} {o' : Obj} (a v : Value) (ho : s.heap.get? d = some o) (hd : o.data = .dict es ep) (he : es.toList = xs.map (entN w))
    (his : ∀ x ∈ xs, IsN s.heap x.1 x.2.1) (hn : (xs.map (·.1)).Nodup) {j : Nat} {p : Value × Value} (hj : xs[j]? = some (k, p)) (hs : Heap.SameBut d s.heap h') {ep' : Nat} (ho' : h'.get? d = some o') (hx : o'.ExactDict)
    (hd' : o'.data = .dict (es.modify j fun e => { e with val := v }) ep') : DictN w h' d (putN xs k a v) := by
  have e : putN xs k a v = xs.map (fun x => if x.1 = k then (x.1, x.2.1, v) else x) := by unfold putN; rw [getN_at hn hj]; rfl
  refine ⟨o', _, _, ho', hx, hd', ?_, fun x hx => ?_, putN_nodup hn a v⟩
  · rw [e, ← putN_modify hn hj, Array.toList_modify, he]
    exact modify_map (entN w) _ _ (fun _ => rfl) xs j
  · rw [e] at hx
    obtain ⟨y, hy, rfl⟩ := List.mem_map.mp hx
    have q := (his y hy).but ho hd hs
    split
    · exact q
    · exact q

theorem get_ok {Q : Option Value → Shared → Prop} (hu : A.units + 8 < cLine) (hk : IsN s.heap k key) (hm : DictN w s.heap d xs) (h : ∀ tk, Q (getN xs k) { s with toks := tk }) :
    wpAny (model prog w) A (dictGet d key) Q E s := by
  obtain ⟨o, es, ep, ho, _, hd, he, his, hn⟩ := hm
  unfold dictGet
  try with_reducible refine wpAny_holding ?_
  refine wpAny_bind (pyHash_key k key A s _ hk.1 (by have := hk.2; omega) ?_)
  refine wpAny_bind (find_ok (s := { s with toks := s.toks + k.draws }) hu hk ho hd he his hn ?_ ?_)
  · intro h0
    have q := h (s.toks + k.draws)
    rw [getN_none h0] at q
    exact wpAny_pure q
  · intro j p hj
    have q := h (s.toks + k.draws)
    rw [getN_at hn hj] at q
    refine wpAny_bind (wpAny_dictEntries (s := { s with toks := s.toks + k.draws }) ho hd ?_)
    have e : es[j]? = some (entN w (k, p)) := by rw [← Array.getElem?_toList, he, List.getElem?_map, hj]; rfl
    rw [e]
    exact wpAny_pure q
theorem DictN.size {o : Obj} {es : Array DictEntry} (he : es.toList = xs.map (entN w)) : es.size = xs.length := by rw [← Array.length_toList, he, List.length_map]
theorem set_ok {v : Value} {Q : Unit → Shared → Prop} (hu : A.units + 8 < cLine) (hk : IsN s.heap k key) (hm : DictN w s.heap d xs) (hz : xs.length ≤ sizeLine)
    (h : ∀ h' tk, DictN w h' d (putN xs k key v) → Heap.SameBut d s.heap h' → Q () { s with heap := h', toks := tk }) : wpAny (model prog w) A (dictSet d key v) Q E s := by
  obtain ⟨o, es, ep, ho, hx, hd, he, his, hn⟩ := hm
  have hsz : es.size ≤ sizeLine := by rw [← Array.length_toList, he, List.length_map]; exact hz
  unfold dictSet
  try with_reducible refine wpAny_holding ?_
  refine wpAny_bind (pyHash_key k key A s _ hk.1 (by have := hk.2; omega) ?_)
  unfold dictSetHashed
  try with_reducible refine wpAny_holding ?_
  refine wpAny_bind (find_ok (s := { s with toks := s.toks + k.draws }) hu hk ho hd he his hn ?_ ?_)
  · intro h0
    exact wpAny_bind (wpAny_rule (wpAny_updateDictKeys (hz := hsz) (s := { s with toks := s.toks + k.draws }) ho hd (h _ _ (put_new key v hk ho hd he his hn (getN_none h0) (Heap.SameBut.update ..)
      (Heap.get?_update_self _ ho (Obj.isFreed_of_dict (Obj.data_mapDictKeys hd _))) (hx.mapDictKeys _) (Obj.data_mapDictKeys hd _)) (Heap.SameBut.update ..))))
  · intro j p hj
    exact wpAny_bind (wpAny_rule (wpAny_bind (wpAny_updateDict (s := { s with toks := s.toks + k.draws }) ho hd (wpAny_point (h _ _ (put_old key v ho hd he his hn hj (Heap.SameBut.update ..)
      (Heap.get?_update_self _ ho (Obj.isFreed_of_dict (Obj.data_mapDict hd _))) (hx.mapDict _) (Obj.data_mapDict hd _)) (Heap.SameBut.update ..))))))
theorem has_ok {Q : Bool → Shared → Prop} (hu : A.units + 9 < cLine) (hk : IsN s.heap k key) (hs : (d == sysModules) = false) (hm : DictN w s.heap d xs) (h : ∀ tk, Q (getN xs k).isSome { s with toks := tk }) :
    wpAny (model prog w) A (contains (.ref d) key) Q E s := by
  refine wpAny_contains_slot hm.typeIs F.slot_dict_contains ?_
  refine call_meetsIn F.slot_dict_contains hm.typeIs F.entry_dict_contains (F.args_dict_contains_2 _ _) (S := fun A' R s' => A' = A ∧ s' = s ∧ ∀ tk, R (.ok (.ret (.bool (getN xs k).isSome))) { s with toks := tk }) (fun A' R s' hS => ?_) ⟨rfl, rfl, fun tk => wpAny_truthy_bool (h tk)⟩
  obtain ⟨rfl, rfl, hq⟩ := hS
  show wpAny _ _ (dictGet d key >>= _) _ _ _
  refine wpAny_bind (get_ok (by show A'.units + 1 + 8 < cLine; omega) hk hm fun tk => ?_)
  have q := hq tk
  cases e : getN xs k with
  | some v =>
    rw [e] at q
    show wpAny _ _ (ret (.bool true)) _ _ _
    exact wpAny_pure q
  | none =>
    rw [e] at q
    show wpAny _ _ (Builtin.Dict.pendingKey? d key >>= _) _ _ _
    exact wpAny_bind (wpAny_pendingKey_other hs (wpAny_pure q))
theorem in_ok {Q : Value → Shared → Prop} (hu : A.units + 9 < cLine) (hk : IsN s.heap k key) (hs : (d == sysModules) = false) (hm : DictN w s.heap d xs) (h : ∀ tk, Q (.bool (getN xs k).isSome) { s with toks := tk }) :
    wpAny (model prog w) A (compareOp .In key (.ref d)) Q E s := by
  show wpAny _ _ (do return .bool (← contains (.ref d) key)) Q E s
  exact wpAny_bind (has_ok hu hk hs hm fun tk => wpAny_pure (h tk))
theorem notIn_ok {Q : Value → Shared → Prop} (hu : A.units + 9 < cLine) (hk : IsN s.heap k key) (hs : (d == sysModules) = false) (hm : DictN w s.heap d xs) (h : ∀ tk, Q (.bool (!(getN xs k).isSome)) { s with toks := tk }) :
    wpAny (model prog w) A (compareOp .NotIn key (.ref d)) Q E s := by
  show wpAny _ _ (do return .bool (!(← contains (.ref d) key))) Q E s
  exact wpAny_bind (has_ok hu hk hs hm fun tk => wpAny_pure (h tk))
theorem item_ok {v : Value} {Q : Value → Shared → Prop} (hu : A.units + 9 < cLine) (hk : IsN s.heap k key) (hm : DictN w s.heap d xs) (hv : getN xs k = some v) (h : ∀ tk, Q v { s with toks := tk }) :
    wpAny (model prog w) A (getItem (.ref d) key) Q E s := by
  unfold getItem
  try with_reducible refine wpAny_holding ?_
  refine wpAny_bind (wpAny_sequenceKey hm.typeIs (by decide) ?_)
  refine wpAny_bind (wpAny_callSpecial?_slot (name := Str.ofString "__getitem__") hm.typeIs slot_dict_getitem
    (wpAny_call_entry slot_dict_getitem hm.typeIs entry_dict_getitem ?_ (args_dict_getitem _ _)))
  show wpAny _ _ (dictGet d key >>= _) _ _ s
  refine wpAny_bind (get_ok (by show A.units + 1 + 8 < cLine; omega) hk hm fun tk => ?_)
  rw [hv]
  exact wpAny_pure ⟨v, rfl, wpAny_pure (h tk)⟩
theorem put_ok {v : Value} {Q : Unit → Shared → Prop} (hu : A.units + 9 < cLine) (hk : IsN s.heap k key) (hm : DictN w s.heap d xs) (hz : xs.length ≤ sizeLine)
    (h : ∀ h' tk, DictN w h' d (putN xs k key v) → Heap.SameBut d s.heap h' → Q () { s with heap := h', toks := tk }) : wpAny (model prog w) A (setItem (.ref d) key v) Q E s := by
  unfold setItem
  try with_reducible refine wpAny_holding ?_
  refine wpAny_bind (wpAny_sequenceKey hm.typeIs (by decide) ?_)
  refine wpAny_bind (wpAny_callSpecial?_slot (name := Str.ofString "__setitem__") hm.typeIs slot_dict_setitem
    (wpAny_call_entry slot_dict_setitem hm.typeIs entry_dict_setitem ?_ (args_dict_setitem _ _ _)))
  show wpAny _ _ (Builtin.Dict.notOrdered "__setitem__" ⟨[.ref d, key, v], []⟩ >>= _) _ _ s
  refine wpAny_bind (wpAny_notOrdered_dict hm.typeIs ?_)
  show wpAny _ _ (dictSet d key v >>= _) _ _ s
  exact wpAny_bind (set_ok (by show A.units + 1 + 8 < cLine; omega) hk hm hz fun h' tk hm' hs' => wpAny_pure ⟨.none, rfl, wpAny_pure (h h' tk hm' hs')⟩)
theorem get1_ok {Q : Value → Shared → Prop} (hu : A.units + 9 < cLine) (hk : IsN s.heap k key) (hs : (d == sysModules) = false) (hm : DictN w s.heap d xs) (h : ∀ tk, Q ((getN xs k).getD .none) { s with toks := tk }) :
    wpAny (model prog w) A (call (.builtin "dict.get") [.ref d, key]) Q E s := by
  refine call_meetsIn F.slot_dict_get hm.typeIs F.entry_dict_get (F.args_dict_get_2 _ _) (S := fun A' R s' => A' = A ∧ s' = s ∧ ∀ tk, R (.ok (.ret ((getN xs k).getD .none))) { s with toks := tk }) (MeetsIn.of_wp fun A' R s' hS => ?_) ⟨rfl, rfl, h⟩
  obtain ⟨rfl, rfl, hq⟩ := hS
  show wpAny _ _ (dictGet d key >>= _) _ _ _
  refine wpAny_bind (get_ok (by show A'.units + 1 + 8 < cLine; omega) hk hm fun tk => ?_)
  have q := hq tk
  cases e : getN xs k with
  | some v =>
    rw [e] at q
    exact wpAny_pure ⟨v, rfl, q⟩
  | none =>
    rw [e] at q
    show wpAny _ _ (Builtin.Dict.missed d key >>= _) _ _ _
    exact wpAny_bind (wpAny_missed_other hs (wpAny_pure ⟨.none, rfl, q⟩))
theorem get2_ok {x : Value} {Q : Value → Shared → Prop} (hu : A.units + 9 < cLine) (hk : IsN s.heap k key) (hs : (d == sysModules) = false) (hm : DictN w s.heap d xs) (h : ∀ tk, Q ((getN xs k).getD x) { s with toks := tk }) :
    wpAny (model prog w) A (call (.builtin "dict.get") [.ref d, key, x]) Q E s := by
  refine call_meetsIn F.slot_dict_get hm.typeIs F.entry_dict_get (F.args_dict_get_3 _ _ _) (S := fun A' R s' => A' = A ∧ s' = s ∧ ∀ tk, R (.ok (.ret ((getN xs k).getD x))) { s with toks := tk }) (MeetsIn.of_wp fun A' R s' hS => ?_) ⟨rfl, rfl, h⟩
  obtain ⟨rfl, rfl, hq⟩ := hS
  show wpAny _ _ (dictGet d key >>= _) _ _ _
  refine wpAny_bind (get_ok (by show A'.units + 1 + 8 < cLine; omega) hk hm fun tk => ?_)
  have q := hq tk
  cases e : getN xs k with
  | some v =>
    rw [e] at q
    exact wpAny_pure ⟨v, rfl, q⟩
  | none =>
    rw [e] at q
    show wpAny _ _ (Builtin.Dict.missed d key >>= _) _ _ _
    exact wpAny_bind (wpAny_missed_other hs (wpAny_pure ⟨x, rfl, q⟩))
theorem setd_ok {v : Value} {Q : Value → Shared → Prop} (hu : A.units + 9 < cLine) (hk : IsN s.heap k key) (hs : (d == sysModules) = false) (hm : DictN w s.heap d xs) (hz : xs.length ≤ sizeLine)
    (h1 : ∀ x tk, getN xs k = some x → Q x { s with toks := tk })
    (h2 : getN xs k = none → ∀ h' tk, DictN w h' d (putN xs k key v) → Heap.SameBut d s.heap h' → Q v { s with heap := h', toks := tk }) :
    wpAny (model prog w) A (call (.builtin "dict.setdefault") [.ref d, key, v]) Q E s := by
  refine call_meetsIn F.slot_dict_setdefault hm.typeIs F.entry_dict_setdefault (F.args_dict_setdefault_3 _ _ _) (S := fun A' R s' => A' = A ∧ s' = s ∧ (∀ x tk, getN xs k = some x → R (.ok (.ret x)) { s with toks := tk }) ∧
    (getN xs k = none → ∀ h' tk, DictN w h' d (putN xs k key v) → Heap.SameBut d s.heap h' → R (.ok (.ret v)) { s with heap := h', toks := tk })) (MeetsIn.of_wp fun A' R s' hS => ?_) ⟨rfl, rfl, h1, h2⟩
  obtain ⟨rfl, rfl, g1, g2⟩ := hS
  have hmm := hm
  obtain ⟨o, es, ep, ho, hx, hd, he, his, hn⟩ := hmm
  have hsz : es.size ≤ sizeLine := by rw [← Array.length_toList, he, List.length_map]; exact hz
  unfold Builtin.«dict.setdefault»
  refine wpAny_bind ?_
  unfold Builtin.Dict.keyAndDefault
  refine wpAny_bind (wpAny_notOrdered_dict hm.typeIs ?_)
  show wpAny _ _ (pure (d, key, some v)) _ _ _
  refine wpAny_pure ?_
  show wpAny _ _ (if (d == sysModules) = true then _ else (dictSetDefault d key v >>= _)) _ _ _
  rw [if_neg (by rw [hs]; exact Bool.false_ne_true)]
  refine wpAny_bind ?_
  unfold dictSetDefault
  try with_reducible refine wpAny_holding ?_
  refine wpAny_bind (pyHash_key k key _ _ _ hk.1 (by have := hk.2; show A'.units + 1 + _ < cLine; omega) ?_)
  refine wpAny_bind (find_ok (s := { s' with toks := s'.toks + k.draws }) (by show A'.units + 1 + 8 < cLine; omega) hk ho hd he his hn ?_ ?_)
  · intro h0
    exact wpAny_bind (wpAny_rule (wpAny_bind (wpAny_updateDictKeys (hz := hsz) (s := { s' with toks := s'.toks + k.draws }) ho hd (wpAny_pure (wpAny_pure ⟨v, rfl, g2 (getN_none h0) _ _ (put_new key v hk ho hd he his hn (getN_none h0) (Heap.SameBut.update ..)
      (Heap.get?_update_self _ ho (Obj.isFreed_of_dict (Obj.data_mapDictKeys hd _))) (hx.mapDictKeys _) (Obj.data_mapDictKeys hd _)) (Heap.SameBut.update ..)⟩)))))
  · intro j p hj
    refine wpAny_bind (wpAny_dictEntries (s := { s' with toks := s'.toks + k.draws }) ho hd ?_)
    have e : es[j]? = some (entN w (k, p)) := by rw [← Array.getElem?_toList, he, List.getElem?_map, hj]; rfl
    rw [e]
    exact wpAny_bind (wpAny_rule (wpAny_pure (wpAny_pure ⟨p.2, rfl, g1 p.2 _ (getN_at hn hj)⟩)))
end
end ZD
set_option Elab.async false
set_option linter.all false
set_option maxRecDepth 100000
set_option maxHeartbeats 1000000
/-! Z1: python values as data, a store of cells, readings by shallow functions. -/
namespace Z
open PySem L2

/-- data: tuples, lists and dicts that never change are values (wl: a list from outside); ref n is the n-th cell -/
inductive D where
  | non | bl (b : Bool) | int (i : Int) | str (x : Str) | tup (ds : List D) | lst (ds : List D) | wl (ds : List D) | dic (ks vs : List D) | ref (n : Nat)
  deriving Inhabited
/-- a cell: what may change -/
inductive Cel where
  | lst (ds : List D) | dic (lk : Bool) (ks vs : List D) | ins (c : Str) (fs : List (Str × D))
  deriving Inhabited
abbrev Sto := List Cel
inductive Out (β : Type) where
  | val (b : β) (S : Sto) | exc (c : Str) (p : D) (S : Sto) | stuck
abbrev M (β : Type) := Sto → Out β
@[simp] def Out.bind {β δ : Type} (o : Out β) (k : β → Sto → Out δ) : Out δ := match o with
  | .val b S => k b S
  | .exc c p S => .exc c p S
  | .stuck => .stuck
abbrev Rho := List (Option D)

/-- a key, as the dict's own kind of keys has it -/
def nkey : D → NestedKey
  | .non => .none
  | .bl b => .num (if b then 1 else 0)
  | .int i => .num i
  | .str x => .text x
  | .tup ds => .tup (ds.map nkey)
  | .lst _ => .none
  | .wl _ => .none
  | .dic _ _ => .none
  | .ref _ => .none
/-- the object at a is a dict of these entries -/
def dφ (w : World) (a : Addr) (xs : List ZD.Ent) (h : Heap) : Prop :=
  xs.length ≤ sizeLine ∧ (a == sysModules) = false ∧ ∃ o es ep, h.get? a = some o ∧ o.ExactDict ∧ o.data = .dict es ep ∧ es.toList = xs.map (ZD.entN w) ∧ (xs.map (·.1)).Nodup
def dHO (w : World) (a : Addr) (xs : List ZD.Ent) : HO := .ext (dφ w a xs)
/-- what may be a key: numbers, texts, None, tuples of such, so deep -/
def isKey : Nat → D → Bool
  | _, .non => true
  | _, .int _ => true
  | _, .str _ => true
  | n + 1, .tup ds => ds.all (isKey n)
  | _, _ => false
/-- keys and values at the dict's entries -/
def Ents (ks : List D) (kv vs : List V) (xs : List ZD.Ent) : Prop := ks.all (isKey 8) = true ∧ ks.map nkey = xs.map (·.1) ∧ Vals kv (xs.map (·.2.1)) ∧ Vals vs (xs.map (·.2.2))
section
variable (K : PySem.W.Frag) (w : World)
def WrL (a : Addr) (xs : List V) : Prop := ∃ (o : Obj) (its : Array Value) (n : Nat), K.lookup a = some o ∧ o.cls = .type "list" ∧ o.dict = none ∧ o.data = .seq its n ∧ its.size ≤ sizeLine ∧ Vals xs its.toList
/-- where the cells stand; objects that are being made, seen by none -/
structure Al where
  al : List Addr
  hid : List Addr
def Al.Has (α : Al) (a : Addr) : Prop := a ∈ α.al ∨ a ∈ α.hid
mutual
def RepD (α : Al) (H : Hp) : D → V → Prop
  | .non, v => v = .non
  | .bl b, v => v = .bl b
  | .int i, v => v = .int i
  | .str x, v => v = .str x
  | .tup ds, v => ∃ a vs, v = .ref a ∧ SqT K H a vs ∧ RepL α H ds vs
  | .lst ds, v => ∃ a vs, v = .ref a ∧ ¬ α.Has a ∧ H a = some (.lst vs) ∧ RepL α H ds vs
  | .wl ds, v => ∃ a vs, v = .ref a ∧ ((¬ α.Has a ∧ Rd H a (.lst vs)) ∨ WrL K a vs) ∧ RepL α H ds vs
  | .dic ks ds, v => ∃ a kv vs xs, v = .ref a ∧ ¬ α.Has a ∧ Rd H a (dHO w a xs) ∧ Ents ks kv vs xs ∧ RepL α H ks kv ∧ RepL α H ds vs
  | .ref n, v => ∃ a, v = .ref a ∧ α.al[n]? = some a
def RepL (α : Al) (H : Hp) : List D → List V → Prop
  | [], vs => vs = []
  | d :: ds, vs => ∃ v r, vs = v :: r ∧ RepD α H d v ∧ RepL α H ds r
end
def RepF (α : Al) (H : Hp) : List (Str × D) → List (Str × V) → Prop
  | [], vs => vs = []
  | d :: ds, vs => ∃ v r, vs = (d.1, v) :: r ∧ RepD K w α H d.2 v ∧ RepF α H ds r
/-- an instance stands at a, its own dict beside it -/
def RepC (α : Al) (H : Hp) : Cel → Addr → Prop
  | .lst ds, a => ∃ vs, H a = some (.lst vs) ∧ RepL K w α H ds vs
  | .dic lk ks ds, a => ∃ kv vs xs, (if lk = true then ∃ o, H a = some (.frz o (dHO w a xs)) else H a = some (dHO w a xs)) ∧ Ents ks kv vs xs ∧ RepL K w α H ks kv ∧ RepL K w α H ds vs
  | .ins c fs, a => ∃ dx vs, H a = some (.ins (He.ga K c) dx vs) ∧ RepF K w α H fs vs
structure Rep (α : Al) (S : Sto) (H : Hp) : Prop where
  nd : α.al.Nodup
  len : α.al.length = S.length
  hd : ∀ b ∈ α.hid, H b ≠ none
  dj : ∀ b ∈ α.hid, b ∉ α.al
  cell : ∀ (n : Nat) (c : Cel) (a : Addr), S[n]? = some c → α.al[n]? = some a → RepC K w α H c a
structure RepE (α : Al) (H : Hp) (ρ : Rho) (σ : St) : Prop where
  len : ρ.length = σ.length
  at_ : ∀ (i : Nat) (d : D), ρ[i]? = some (some d) → ∃ v, σ[i]? = some (some v) ∧ RepD K w α H d v
end
def Dat : HO → Bool
  | .lst _ => true
  | .tup _ => true
  | .ext _ => true
  | _ => false
/-- from one state to a later one -/
structure Stp (α : Al) (H : Hp) (α' : Al) (H' : Hp) : Prop where
  pre : ∃ β, α'.al = α.al ++ β ∧ ∀ b ∈ β, H b = none
  hid : ∀ b ∈ α'.hid, b ∈ α.hid ∨ H b = none
  stay : ∀ b ∈ α.hid, b ∈ α'.hid
  keep : ∀ b ∈ α.hid, H' b = H b
  dom : ∀ a, H a ≠ none → H' a ≠ none
  tup : ∀ a vs, Rd H a (.tup vs) → Rd H' a (.tup vs)
  dat : ∀ a u, Dat u = true → ¬ α.Has a → Rd H a u → Rd H' a u
  lst : ∀ a vs, ¬ α.Has a → H a = some (.lst vs) → H' a = some (.lst vs)
/-- the same, but hidden objects may be written -/
structure Stq (α : Al) (H : Hp) (α' : Al) (H' : Hp) : Prop where
  pre : ∃ β, α'.al = α.al ++ β ∧ ∀ b ∈ β, H b = none
  hid : ∀ b ∈ α'.hid, b ∈ α.hid ∨ H b = none
  dom : ∀ a, H a ≠ none → H' a ≠ none
  tup : ∀ a vs, Rd H a (.tup vs) → Rd H' a (.tup vs)
  dat : ∀ a u, Dat u = true → ¬ α.Has a → Rd H a u → Rd H' a u
  lst : ∀ a vs, ¬ α.Has a → H a = some (.lst vs) → H' a = some (.lst vs)
section
variable {K : PySem.W.Frag} {w : World} {α α' α'' : Al} {H H' H'' : Hp} {S S' : Sto}
theorem Stp.refl : Stp α H α H := ⟨⟨[], by simp, by simp⟩, fun _ h => .inl h, fun _ h => h, fun _ _ => rfl, fun _ h => h, fun _ _ h => h, fun _ _ _ _ h => h, fun _ _ _ h => h⟩
theorem rd_some {a : Addr} {u : HO} (h : Rd H a u) : H a ≠ none := by
  rcases h with h | ⟨o, h⟩ <;> (rw [h]; exact fun e => nomatch e)
theorem Stp.notin (s : Stp α H α' H') {a : Addr} (h : ¬ α.Has a) (hs : H a ≠ none) : ¬ α'.Has a := by
  obtain ⟨β, e, hb⟩ := s.pre
  rintro (q | q)
  · rw [e, List.mem_append] at q
    rcases q with q | q
    · exact h (.inl q)
    · exact hs (hb a q)
  · rcases s.hid a q with q | q
    · exact h (.inr q)
    · exact hs q
theorem Stp.trans (s : Stp α H α' H') (t : Stp α' H' α'' H'') : Stp α H α'' H'' := by
  have back : ∀ b, H' b = none → H b = none := fun b q => by
    cases e : H b with
    | none => rfl
    | some u => exact absurd q (s.dom b (by rw [e]; exact fun e => nomatch e))
  refine ⟨?_, fun b h => ?_, fun b h => t.stay b (s.stay b h), fun b h => (t.keep b (s.stay b h)).trans (s.keep b h), fun a h => t.dom a (s.dom a h), fun a vs h => t.tup a vs (s.tup a vs h), fun a u d n h => t.dat a u d (s.notin n (rd_some h)) (s.dat a u d n h), fun a vs n h => t.lst a vs (s.notin n (rd_some (.inl h))) (s.lst a vs n h)⟩
  · obtain ⟨β, e, hb⟩ := s.pre
    obtain ⟨γ, e2, hg⟩ := t.pre
    refine ⟨β ++ γ, by rw [e2, e, List.append_assoc], fun b h => ?_⟩
    rcases List.mem_append.mp h with h | h
    · exact hb b h
    · exact back b (hg b h)
  · rcases t.hid b h with q | q
    · exact s.hid b q
    · exact .inr (back b q)
theorem Stp.at_ (s : Stp α H α' H') {n : Nat} {a : Addr} (h : α.al[n]? = some a) : α'.al[n]? = some a := by
  obtain ⟨β, e, _⟩ := s.pre
  have hn := (List.getElem?_eq_some_iff.mp h).1
  rw [e, List.getElem?_append_left hn]
  exact h
theorem Stq.notin (s : Stq α H α' H') {a : Addr} (h : ¬ α.Has a) (hs : H a ≠ none) : ¬ α'.Has a := by
  obtain ⟨β, e, hb⟩ := s.pre
  rintro (q | q)
  · rw [e, List.mem_append] at q
    rcases q with q | q
    · exact h (.inl q)
    · exact hs (hb a q)
  · rcases s.hid a q with q | q
    · exact h (.inr q)
    · exact hs q
theorem Stq.at_ (s : Stq α H α' H') {n : Nat} {a : Addr} (h : α.al[n]? = some a) : α'.al[n]? = some a := by
  obtain ⟨β, e, _⟩ := s.pre
  have hn := (List.getElem?_eq_some_iff.mp h).1
  rw [e, List.getElem?_append_left hn]
  exact h
theorem Stp.q (s : Stp α H α' H') : Stq α H α' H' := ⟨s.pre, s.hid, s.dom, s.tup, s.dat, s.lst⟩
theorem Stq.trans (s : Stq α H α' H') (t : Stq α' H' α'' H'') : Stq α H α'' H'' := by
  have back : ∀ b, H' b = none → H b = none := fun b q => by
    cases e : H b with
    | none => rfl
    | some u => exact absurd q (s.dom b (by rw [e]; exact fun e => nomatch e))
  refine ⟨?_, fun b h => ?_, fun a h => t.dom a (s.dom a h), fun a vs h => t.tup a vs (s.tup a vs h), fun a u d n h => t.dat a u d (s.notin n (rd_some h)) (s.dat a u d n h), fun a vs n h => t.lst a vs (s.notin n (rd_some (.inl h))) (s.lst a vs n h)⟩
  · obtain ⟨β, e, hb⟩ := s.pre
    obtain ⟨γ, e2, hg⟩ := t.pre
    refine ⟨β ++ γ, by rw [e2, e, List.append_assoc], fun b h => ?_⟩
    rcases List.mem_append.mp h with h | h
    · exact hb b h
    · exact back b (hg b h)
  · rcases t.hid b h with q | q
    · exact s.hid b q
    · exact .inr (back b q)
mutual
theorem repD_monoQ (s : Stq α H α' H') : ∀ (d : D) (v : V), RepD K w α H d v → RepD K w α' H' d v
  | .non, v, h => by unfold RepD at h ⊢; exact h
  | .bl b, v, h => by unfold RepD at h ⊢; exact h
  | .int i, v, h => by unfold RepD at h ⊢; exact h
  | .str x, v, h => by unfold RepD at h ⊢; exact h
  | .tup ds, v, h => by
    unfold RepD at h ⊢
    obtain ⟨a, vs, e, q, r⟩ := h
    refine ⟨a, vs, e, ?_, repL_monoQ s ds vs r⟩
    rcases q with q | q
    · exact .inl (s.tup a vs q)
    · exact .inr q
  | .lst ds, v, h => by
    unfold RepD at h ⊢
    obtain ⟨a, vs, e, n, q, r⟩ := h
    exact ⟨a, vs, e, s.notin n (rd_some (.inl q)), s.lst a vs n q, repL_monoQ s ds vs r⟩
  | .wl ds, v, h => by
    unfold RepD at h ⊢
    obtain ⟨a, vs, e, q, r⟩ := h
    refine ⟨a, vs, e, ?_, repL_monoQ s ds vs r⟩
    rcases q with ⟨n, q⟩ | q
    · exact .inl ⟨s.notin n (rd_some q), s.dat a _ rfl n q⟩
    · exact .inr q
  | .dic ks ds, v, h => by
    unfold RepD at h ⊢
    obtain ⟨a, kv, vs, xs, e, n, q, k, r1, r2⟩ := h
    exact ⟨a, kv, vs, xs, e, s.notin n (rd_some q), s.dat a _ rfl n q, k, repL_monoQ s ks kv r1, repL_monoQ s ds vs r2⟩
  | .ref n, v, h => by
    unfold RepD at h ⊢
    obtain ⟨a, e, q⟩ := h
    exact ⟨a, e, s.at_ q⟩
theorem repL_monoQ (s : Stq α H α' H') : ∀ (ds : List D) (vs : List V), RepL K w α H ds vs → RepL K w α' H' ds vs
  | [], vs, h => by unfold RepL at h ⊢; exact h
  | d :: ds, vs, h => by
    unfold RepL at h ⊢
    obtain ⟨v, r, e, h1, h2⟩ := h
    exact ⟨v, r, e, repD_monoQ s d v h1, repL_monoQ s ds r h2⟩
end
theorem repD_mono (s : Stp α H α' H') (d : D) (v : V) (h : RepD K w α H d v) : RepD K w α' H' d v := repD_monoQ s.q d v h
theorem repL_mono (s : Stp α H α' H') (ds : List D) (vs : List V) (h : RepL K w α H ds vs) : RepL K w α' H' ds vs := repL_monoQ s.q ds vs h
theorem RepE.mono {ρ : Rho} {σ : St} (s : Stp α H α' H') (h : RepE K w α H ρ σ) : RepE K w α' H' ρ σ :=
  ⟨h.len, fun i d e => let ⟨v, h1, h2⟩ := h.at_ i d e; ⟨v, h1, repD_mono s d v h2⟩⟩
end
/-- what is wanted behind a run: of its value (R), of an exception -/
def Post {β γ : Type} (K : PySem.W.Frag) (w : World) (R : Al → Hp → β → γ → Prop) (E : XK) (α : Al) (H : Hp) (o : Out β) (Q : γ → Hp → Prop) : Prop := match o with
  | .val d S' => ∀ α' H' v, Stp α H α' H' → Rep K w α' S' H' → R α' H' d v → Q v H'
  | .exc c p S' => ∀ α' H' (dd : Addr) (v : V), Stp α H α' H' → Rep K w α' S' H' → H dd = none → H' dd = some (.xd [("what", v)]) → RepD K w α' H' p v → E (.ref (He.ga K c)) (some dd) H'
  | .stuck => False
section
variable {K : PySem.W.Frag} {w : World} {α α1 : Al} {H H1 : Hp} {S : Sto} {E : XK} {β γ δ ε : Type} {R : Al → Hp → β → γ → Prop} {R1 : Al → Hp → δ → ε → Prop} {Q : γ → Hp → Prop} {Q1 : ε → Hp → Prop}
theorem Post.mono {o : Out β} (s : Stp α H α1 H1) (h : Post K w R E α H o Q) : Post K w R E α1 H1 o Q := by
  cases o with
  | val d S' => exact fun α' H' v st => h α' H' v (s.trans st)
  | exc c p S' => 
    refine fun α' H' dd v st rp hn => h α' H' dd v (s.trans st) rp ?_
    cases q : H dd with
    | none => rfl
    | some u => exact absurd hn (s.dom dd (by rw [q]; exact fun e => nomatch e))
  | stuck => exact h
theorem Post.imp {o : Out β} {Q' : γ → Hp → Prop} (h : Post K w R E α H o Q) (k : ∀ v H', Q v H' → Q' v H') : Post K w R E α H o Q' := by
  cases o with
  | val d S' => exact fun α' H' v st rp r => k _ _ (h α' H' v st rp r)
  | exc c p S' => exact h
  | stuck => exact h
theorem Post.step {m : Out δ} {k : δ → Sto → Out β} (h : Post K w R E α H (m.bind k) Q)
    (hk : ∀ d S1 α1 H1 x, m = .val d S1 → Stp α H α1 H1 → Rep K w α1 S1 H1 → R1 α1 H1 d x → Post K w R E α1 H1 (k d S1) Q → Q1 x H1) : Post K w R1 E α H m Q1 := by
  cases m with
  | val d S1 => exact fun α1 H1 x st rp r => hk d S1 α1 H1 x rfl st rp r (Post.mono st h)
  | exc c p S' => exact h
  | stuck => exact h
/-- the value is had at once -/
theorem Post.now {d : β} (h : Post K w R E α H (.val d S) Q) (rp : Rep K w α S H) {v : γ} (r : R α H d v) : Q v H := h α H v Stp.refl rp r
end
/-- readings by shallow functions -/
def lift (K : PySem.W.Frag) (w : World) (E : XK) (f : Rho → M D) : TE := fun σ H Q => ∃ α S ρ, Rep K w α S H ∧ RepE K w α H ρ σ ∧ Post K w (RepD K w) E α H (f ρ S) Q
def liftL (K : PySem.W.Frag) (w : World) (E : XK) (f : Rho → M (List D)) : TA := fun σ H Q => ∃ α S ρ, Rep K w α S H ∧ RepE K w α H ρ σ ∧ Post K w (RepL K w) E α H (f ρ S) Q
def liftB (K : PySem.W.Frag) (w : World) (E : XK) (f : Rho → M Bool) : TT := fun σ H Q => ∃ α S ρ, Rep K w α S H ∧ RepE K w α H ρ σ ∧ Post K w (fun _ _ b c => b = c) E α H (f ρ S) Q
theorem PE.weak {X : Cx} {e : Expr} {t t' : TE} (h : PE X e t) (k : ∀ σ H Q, t' σ H Q → t σ H Q) : PE X e t' := ⟨fun pins s σ H Q I q => h.run pins s σ H Q I (k σ H Q q)⟩
theorem PT.weak {X : Cx} {e : Expr} {t t' : TT} (h : PT X e t) (k : ∀ σ H Q, t' σ H Q → t σ H Q) : PT X e t' := ⟨fun pins s σ H Q I q => h.run pins s σ H Q I (k σ H Q q)⟩
theorem PA.weak {X : Cx} {e : List Expr} {t t' : TA} (h : PA X e t) (k : ∀ σ H Q, t' σ H Q → t σ H Q) : PA X e t' := ⟨fun pos pins s σ H Q I q => h.run pos pins s σ H Q I (k σ H Q q)⟩
/-- an expression, an argument list, a test, by shallow functions -/
abbrev ZE (X : Cx) (E : XK) (e : Expr) (f : Rho → M D) : Prop := PE X e (lift X.K X.w E f)
abbrev ZA (X : Cx) (E : XK) (es : List Expr) (f : Rho → M (List D)) : Prop := PA X es (liftL X.K X.w E f)
abbrev ZT (X : Cx) (E : XK) (e : Expr) (f : Rho → M Bool) : Prop := PT X e (liftB X.K X.w E f)
end Z
set_option Elab.async false
set_option linter.all false
set_option maxRecDepth 100000
set_option maxHeartbeats 1000000
/-! Z2: states that grow and change; operators. -/
namespace Z
open PySem L2
section
variable {K : PySem.W.Frag} {w : World} {α α' : Al} {H H' : Hp} {S : Sto} {p : Addr} {o : HO}
theorem rd_upd {a : Addr} {u : HO} (hp : H p = none) (h : Rd H a u) : Rd (upd H p o) a u := by
  have e : (upd H p o) a = H a := upd_ne fun e => rd_some h (by rw [e]; exact hp)
  rcases h with h | ⟨z, h⟩
  · exact .inl (e.trans h)
  · exact .inr ⟨z, e.trans h⟩
theorem rd_upd_ne {a : Addr} {u : HO} (n : a ≠ p) (h : Rd H a u) : Rd (upd H p o) a u := by
  have e : (upd H p o) a = H a := upd_ne n
  rcases h with h | ⟨z, h⟩
  · exact .inl (e.trans h)
  · exact .inr ⟨z, e.trans h⟩
theorem upd_dom {a : Addr} (h : H a ≠ none) : upd H p o a ≠ none := by
  by_cases e : a = p
  · rw [e, upd_same]; exact fun z => nomatch z
  · rw [upd_ne e]; exact h
theorem stp_new (hh : ∀ b ∈ α.hid, H b ≠ none) (hp : H p = none) : Stp α H α (upd H p o) :=
  ⟨⟨[], by simp, by simp⟩, fun _ h => .inl h, fun _ h => h, fun b h => upd_ne fun e => hh b h (by rw [e]; exact hp), fun a h => upd_dom h, fun a vs h => rd_upd hp h, fun a u _ _ h => rd_upd hp h, fun a vs _ h => by
    rw [upd_ne (ne_of_none h hp)]; exact h⟩
def Al.add (α : Al) (p : Addr) : Al := ⟨α.al ++ [p], α.hid⟩
theorem stp_cell (hh : ∀ b ∈ α.hid, H b ≠ none) (hp : H p = none) : Stp α H (α.add p) (upd H p o) :=
  ⟨⟨[p], rfl, by simpa using hp⟩, fun _ h => .inl h, fun _ h => h, fun b h => upd_ne fun e => hh b h (by rw [e]; exact hp), fun a h => upd_dom h, fun a vs h => rd_upd hp h, fun a u _ _ h => rd_upd hp h, fun a vs _ h => by
    rw [upd_ne (ne_of_none h hp)]; exact h⟩
theorem repF_mono (s : Stp α H α' H') : ∀ {fs : List (Str × D)} {vs : List (Str × V)}, RepF K w α H fs vs → RepF K w α' H' fs vs
  | [], vs, h => h
  | d :: ds, vs, h => by
    obtain ⟨v, r, e, h1, h2⟩ := h
    exact ⟨v, r, e, repD_mono s _ _ h1, repF_mono s h2⟩
theorem repC_mono (s : Stp α H α' H') {c : Cel} {a : Addr} (e : H' a = H a) (h : RepC K w α H c a) : RepC K w α' H' c a := by
  cases c with
  | lst ds => obtain ⟨vs, h1, h2⟩ := h; exact ⟨vs, e.trans h1, repL_mono s _ _ h2⟩
  | dic lk ks ds =>
    obtain ⟨kv, vs, xs, h1, h2, h3, h4⟩ := h
    refine ⟨kv, vs, xs, ?_, h2, repL_mono s _ _ h3, repL_mono s _ _ h4⟩
    rw [e]; exact h1
  | ins c fs => obtain ⟨dx, vs, h1, h2⟩ := h; exact ⟨dx, vs, e.trans h1, repF_mono s h2⟩
theorem repC_some {c : Cel} {a : Addr} (h : RepC K w α H c a) : H a ≠ none := by
  cases c with
  | lst ds => obtain ⟨vs, h1, h2⟩ := h; rw [h1]; exact fun z => nomatch z
  | dic lk ks ds =>
    obtain ⟨kv, vs, xs, h1, h2, h3, h4⟩ := h
    split at h1
    · obtain ⟨o, h1⟩ := h1; rw [h1]; exact fun z => nomatch z
    · rw [h1]; exact fun z => nomatch z
  | ins c fs => obtain ⟨dx, vs, h1, h2⟩ := h; rw [h1]; exact fun z => nomatch z
theorem repC_notup {c : Cel} {a : Addr} (h : RepC K w α H c a) (xs : List V) : ¬ Rd H a (.tup xs) := by
  rintro (q | ⟨o, q⟩)
  · cases c with
    | lst ds => obtain ⟨vs, h1, h2⟩ := h; rw [h1] at q; cases q
    | dic lk ks ds =>
      obtain ⟨kv, vs, ys, h1, h2, h3, h4⟩ := h
      split at h1
      · obtain ⟨o, h1⟩ := h1; rw [h1] at q; cases q
      · rw [h1] at q; cases q
    | ins c fs => obtain ⟨dx, vs, h1, h2⟩ := h; rw [h1] at q; cases q
  · cases c with
    | lst ds => obtain ⟨vs, h1, h2⟩ := h; rw [h1] at q; cases q
    | dic lk ks ds =>
      obtain ⟨kv, vs, ys, h1, h2, h3, h4⟩ := h
      split at h1
      · obtain ⟨o, h1⟩ := h1
        rw [h1] at q
        injection Option.some.inj q with _ e
        cases e
      · rw [h1] at q; cases q
    | ins c fs => obtain ⟨dx, vs, h1, h2⟩ := h; rw [h1] at q; cases q
theorem Rep.some_of (rp : Rep K w α S H) {n : Nat} {a : Addr} (h : α.al[n]? = some a) : ∃ c, S[n]? = some c ∧ RepC K w α H c a := by
  have hn := (List.getElem?_eq_some_iff.mp h).1
  rw [rp.len] at hn
  exact ⟨S[n], List.getElem?_eq_getElem hn, rp.cell n _ a (List.getElem?_eq_getElem hn) h⟩
theorem Rep.mem_some (rp : Rep K w α S H) {a : Addr} (h : α.Has a) : H a ≠ none := by
  rcases h with h | h
  case inr => exact rp.hd a h
  obtain ⟨n, hn⟩ := List.mem_iff_getElem?.mp h
  obtain ⟨c, _, hc⟩ := rp.some_of hn
  exact repC_some hc
theorem Rep.fresh (rp : Rep K w α S H) (hp : H p = none) : ¬ α.Has p := fun h => rp.mem_some h hp
theorem Rep.new (rp : Rep K w α S H) (hp : H p = none) : Rep K w α S (upd H p o) :=
  ⟨rp.nd, rp.len, fun b h => upd_dom (rp.hd b h), rp.dj, fun n c a h1 h2 => by
    have hc := rp.cell n c a h1 h2
    exact repC_mono (stp_new rp.hd hp) (upd_ne fun e => repC_some hc (by rw [e]; exact hp)) hc⟩
theorem Rep.newCell {c : Cel} (rp : Rep K w α S H) (hp : H p = none) (hc : RepC K w (α.add p) (upd H p o) c p) : Rep K w (α.add p) (S ++ [c]) (upd H p o) := by
  refine ⟨List.nodup_append.mpr ⟨rp.nd, by simp, fun a ha b hb e => ?_⟩, by simp [Al.add, rp.len], fun b h => upd_dom (rp.hd b h), fun b h z => ?_, fun n c' a h1 h2 => ?_⟩
  · have e2 : b = p := by simpa using hb
    exact rp.fresh hp (.inl (by rw [← e2, ← e]; exact ha))
  · rcases List.mem_append.mp z with z | z
    · exact rp.dj b h z
    · have e2 : b = p := by simpa using z
      exact rp.hd b h (by rw [e2]; exact hp)
  · by_cases hn : n < S.length
    · rw [List.getElem?_append_left hn] at h1
      have h2 : (α.al ++ [p])[n]? = some a := h2
      rw [List.getElem?_append_left (by rw [rp.len]; exact hn)] at h2
      have h3 := rp.cell n c' a h1 h2
      exact repC_mono (stp_cell rp.hd hp) (upd_ne fun e => repC_some h3 (by rw [e]; exact hp)) h3
    · have hl : n < (S ++ [c]).length := (List.getElem?_eq_some_iff.mp h1).1
      have e : n = S.length := by
        rw [List.length_append] at hl
        simp only [List.length_cons, List.length_nil] at hl
        omega
      have h1' : (S ++ [c])[S.length]? = some c' := by rw [← e]; exact h1
      have h2' : (α.al ++ [p])[α.al.length]? = some a := by rw [rp.len, ← e]; exact h2
      simp at h1' h2'
      subst h1' h2'
      exact hc
/-- a cell's object is another one now -/
theorem stp_set (rp : Rep K w α S H) {n : Nat} {a : Addr} (ha : α.al[n]? = some a) : Stp α H α (upd H a o) := by
  obtain ⟨c, _, hc⟩ := rp.some_of ha
  refine ⟨⟨[], by simp, by simp⟩, fun _ h => .inl h, fun _ h => h, fun b h => upd_ne fun e => rp.dj b h (by rw [e]; exact List.mem_of_getElem? ha), fun b h => upd_dom h, fun b vs h => ?_, fun b u _ hb h => ?_, fun b vs hb h => ?_⟩
  · exact rd_upd_ne (fun e => repC_notup hc vs (by rw [← e]; exact h)) h
  · exact rd_upd_ne (fun e => hb (.inl (by rw [e]; exact List.mem_of_getElem? ha))) h
  · rw [upd_ne fun e => hb (.inl (by rw [e]; exact List.mem_of_getElem? ha))]; exact h
theorem nodup_at {α : List Addr} (h : α.Nodup) {n m : Nat} {a : Addr} (h1 : α[n]? = some a) (h2 : α[m]? = some a) : n = m :=
  (List.getElem?_inj (List.getElem?_eq_some_iff.mp h1).1 h).mp (h1.trans h2.symm)
theorem Rep.setCell (rp : Rep K w α S H) {n : Nat} {a : Addr} {c : Cel} (ha : α.al[n]? = some a) (hc : RepC K w α (upd H a o) c a) : Rep K w α (S.set n c) (upd H a o) := by
  refine ⟨rp.nd, by rw [List.length_set]; exact rp.len, fun b h => upd_dom (rp.hd b h), rp.dj, fun m c' b h1 h2 => ?_⟩
  by_cases e : n = m
  · subst e
    have hn := (List.getElem?_eq_some_iff.mp ha).1
    rw [rp.len] at hn
    rw [List.getElem?_set_self hn] at h1
    cases h1
    rw [h2] at ha
    cases ha
    exact hc
  · rw [List.getElem?_set_ne e] at h1
    have h3 := rp.cell m c' b h1 h2
    exact repC_mono (stp_set rp ha) (upd_ne fun q => e (nodup_at rp.nd ha (by rw [← q]; exact h2))) h3
/-! ### lists of data -/
theorem RepL.length : ∀ {ds : List D} {vs : List V}, RepL K w α H ds vs → vs.length = ds.length
  | [], vs, h => by unfold RepL at h; rw [h]; rfl
  | d :: ds, vs, h => by
    unfold RepL at h
    obtain ⟨v, r, e, _, h2⟩ := h
    rw [e, List.length_cons, List.length_cons, RepL.length h2]
theorem RepL.get : ∀ {ds : List D} {vs : List V} {i : Nat} {d : D}, RepL K w α H ds vs → ds[i]? = some d → ∃ v, vs[i]? = some v ∧ RepD K w α H d v
  | [], vs, i, d, h, e => by simp at e
  | d :: ds, vs, 0, d', h, e => by
    unfold RepL at h
    obtain ⟨v, r, e1, h1, h2⟩ := h
    simp at e
    subst e e1
    exact ⟨v, rfl, h1⟩
  | d :: ds, vs, i + 1, d', h, e => by
    unfold RepL at h
    obtain ⟨v, r, e1, h1, h2⟩ := h
    subst e1
    exact RepL.get (i := i) h2 (by simpa using e)
theorem RepL.getV : ∀ {ds : List D} {vs : List V} {i : Nat} {v : V}, RepL K w α H ds vs → vs[i]? = some v → ∃ d, ds[i]? = some d ∧ RepD K w α H d v
  | [], vs, i, d, h, e => by unfold RepL at h; rw [h] at e; simp at e
  | d :: ds, vs, 0, d', h, e => by
    unfold RepL at h
    obtain ⟨v, r, e1, h1, h2⟩ := h
    subst e1
    simp at e
    subst e
    exact ⟨d, rfl, h1⟩
  | d :: ds, vs, i + 1, d', h, e => by
    unfold RepL at h
    obtain ⟨v, r, e1, h1, h2⟩ := h
    subst e1
    exact RepL.getV (i := i) h2 (by simpa using e)
theorem RepL.append : ∀ {ds es : List D} {vs ws : List V}, RepL K w α H ds vs → RepL K w α H es ws → RepL K w α H (ds ++ es) (vs ++ ws)
  | [], es, vs, ws, h, q => by unfold RepL at h; rw [h]; exact q
  | d :: ds, es, vs, ws, h, q => by
    unfold RepL at h
    obtain ⟨v, r, e1, h1, h2⟩ := h
    subst e1
    show RepL K w α H (d :: (ds ++ es)) (v :: (r ++ ws))
    unfold RepL
    exact ⟨v, r ++ ws, rfl, h1, RepL.append h2 q⟩
theorem RepL.nil : RepL K w α H [] [] := by unfold RepL; rfl
theorem RepL.cons {d : D} {ds : List D} {v : V} {vs : List V} (h : RepD K w α H d v) (q : RepL K w α H ds vs) : RepL K w α H (d :: ds) (v :: vs) := by unfold RepL; exact ⟨v, vs, rfl, h, q⟩
theorem RepL.one {d : D} {v : V} (h : RepD K w α H d v) : RepL K w α H [d] [v] := .cons h .nil
theorem RepL.take : ∀ {ds : List D} {vs : List V} (n : Nat), RepL K w α H ds vs → RepL K w α H (ds.take n) (vs.take n)
  | ds, vs, 0, h => by rw [List.take_zero, List.take_zero]; exact .nil
  | [], vs, n + 1, h => by unfold RepL at h; rw [h, List.take_nil]; exact .nil
  | d :: ds, vs, n + 1, h => by
    unfold RepL at h
    obtain ⟨v, r, e1, h1, h2⟩ := h
    subst e1
    exact .cons h1 (RepL.take n h2)
theorem RepL.drop : ∀ {ds : List D} {vs : List V} (n : Nat), RepL K w α H ds vs → RepL K w α H (ds.drop n) (vs.drop n)
  | ds, vs, 0, h => h
  | [], vs, n + 1, h => by unfold RepL at h; rw [h, List.drop_nil]; exact .nil
  | d :: ds, vs, n + 1, h => by
    unfold RepL at h
    obtain ⟨v, r, e1, h1, h2⟩ := h
    subst e1
    exact RepL.drop n h2
theorem RepL.set : ∀ {ds : List D} {vs : List V} {d : D} {v : V} (n : Nat), RepL K w α H ds vs → RepD K w α H d v → RepL K w α H (ds.set n d) (vs.set n v)
  | [], vs, d, v, n, h, q => by unfold RepL at h; rw [h]; exact .nil
  | e :: ds, vs, d, v, 0, h, q => by
    unfold RepL at h
    obtain ⟨w, r, e1, h1, h2⟩ := h
    subst e1
    exact .cons q h2
  | e :: ds, vs, d, v, n + 1, h, q => by
    unfold RepL at h
    obtain ⟨w, r, e1, h1, h2⟩ := h
    subst e1
    exact .cons h1 (RepL.set n h2 q)
theorem RepL.replicate {ds : List D} {vs : List V} (h : RepL K w α H ds vs) : ∀ n : Nat, RepL K w α H (List.replicate n ds).flatten (List.replicate n vs).flatten
  | 0 => .nil
  | n + 1 => by
    rw [List.replicate_succ, List.replicate_succ, List.flatten_cons, List.flatten_cons]
    exact h.append (RepL.replicate h n)
theorem RepL.ints : ∀ {ns : List Int} {vs : List V}, RepL K w α H (ns.map D.int) vs → vs = ns.map V.int
  | [], vs, h => by unfold RepL at h; exact h
  | n :: ns, vs, h => by
    rw [List.map_cons] at h
    unfold RepL at h
    obtain ⟨w, r, e1, h1, h2⟩ := h
    unfold RepD at h1
    rw [e1, h1, RepL.ints h2, List.map_cons]
theorem RepL.bls : ∀ {ns : List Bool} {vs : List V}, RepL K w α H (ns.map D.bl) vs → vs = ns.map V.bl
  | [], vs, h => by unfold RepL at h; exact h
  | n :: ns, vs, h => by
    rw [List.map_cons] at h
    unfold RepL at h
    obtain ⟨w, r, e1, h1, h2⟩ := h
    unfold RepD at h1
    rw [e1, h1, RepL.bls h2, List.map_cons]
theorem RepL.strs : ∀ {ns : List Str} {vs : List V}, RepL K w α H (ns.map D.str) vs → vs = ns.map V.str
  | [], vs, h => by unfold RepL at h; exact h
  | n :: ns, vs, h => by
    rw [List.map_cons] at h
    unfold RepL at h
    obtain ⟨w, r, e1, h1, h2⟩ := h
    unfold RepD at h1
    rw [e1, h1, RepL.strs h2, List.map_cons]
theorem RepL.ofInts : ∀ {ns : List Int}, RepL K w α H (ns.map D.int) (ns.map V.int)
  | [] => .nil
  | n :: ns => .cons (by unfold RepD; rfl) RepL.ofInts
theorem RepL.ofStrs : ∀ {ns : List Str}, RepL K w α H (ns.map D.str) (ns.map V.str)
  | [] => .nil
  | n :: ns => .cons (by unfold RepD; rfl) RepL.ofStrs
end
section
variable {X : Cx} {E : XK} {α : Al} {H : Hp} {S : Sto} {p : Addr}
/-- a new tuple, a new list, a new cell -/
theorem post_tup {ds : List D} {vs : List V} {Q : VK} {K : PySem.W.Frag} {w : World} (rp : Rep K w α S H) (r : RepL K w α H ds vs) (h : Post K w (RepD K w) E α H (.val (.tup ds) S) Q) (hp : H p = none) : Q (.ref p) (upd H p (.tup vs)) :=
  h α _ _ (stp_new rp.hd hp) (rp.new hp) (by unfold RepD; exact ⟨p, vs, rfl, SqT.of upd_same, repL_mono (stp_new rp.hd hp) _ _ r⟩)
theorem post_lst {ds : List D} {vs : List V} {Q : VK} {K : PySem.W.Frag} {w : World} (rp : Rep K w α S H) (r : RepL K w α H ds vs) (h : Post K w (RepD K w) E α H (.val (.lst ds) S) Q) (hp : H p = none) : Q (.ref p) (upd H p (.lst vs)) :=
  h α _ _ (stp_new rp.hd hp) (rp.new hp) (by unfold RepD; exact ⟨p, vs, rfl, rp.fresh hp, upd_same, repL_mono (stp_new rp.hd hp) _ _ r⟩)
theorem post_cell {ds : List D} {vs : List V} {Q : VK} {K : PySem.W.Frag} {w : World} (rp : Rep K w α S H) (r : RepL K w α H ds vs) (h : Post K w (RepD K w) E α H (.val (.ref S.length) (S ++ [.lst ds])) Q) (hp : H p = none) : Q (.ref p) (upd H p (.lst vs)) :=
  h (α.add p) _ _ (stp_cell rp.hd hp) (rp.newCell hp ⟨vs, upd_same, repL_mono (stp_cell rp.hd hp) _ _ r⟩) (by unfold RepD; exact ⟨p, rfl, by rw [← rp.len]; simp [Al.add]⟩)
end
end Z
set_option Elab.async false
set_option linter.all false
set_option maxRecDepth 100000
set_option maxHeartbeats 1000000
/-! Z3: expressions. -/
namespace Z
open PySem L2
/-! ### shallow functions -/
@[simp] def eVar (i : Nat) : Rho → M D := fun ρ S => match ρ[i]? with
  | some (some d) => .val d S
  | _ => .stuck
@[simp] def eC (d : D) : Rho → M D := fun _ S => .val d S
@[simp] def eOp (f : D → D → M D) (a b : Rho → M D) : Rho → M D := fun ρ S => (a ρ S).bind fun x S1 => (b ρ S1).bind fun y S2 => f x y S2
@[simp] def eUn (f : D → M D) (a : Rho → M D) : Rho → M D := fun ρ S => (a ρ S).bind fun x S1 => f x S1
@[simp] def eIf (c : Rho → M Bool) (a b : Rho → M D) : Rho → M D := fun ρ S => (c ρ S).bind fun q S1 => if q = true then a ρ S1 else b ρ S1
@[simp] def bAnd (a b : Rho → M Bool) : Rho → M Bool := fun ρ S => (a ρ S).bind fun q S1 => if q = true then b ρ S1 else .val false S1
@[simp] def bOr (a b : Rho → M Bool) : Rho → M Bool := fun ρ S => (a ρ S).bind fun q S1 => if q = true then .val true S1 else b ρ S1
@[simp] def bNot (a : Rho → M Bool) : Rho → M Bool := fun ρ S => (a ρ S).bind fun q S1 => .val (!q) S1
/-- a value that is a bool -/
@[simp] def isBl : D → M Bool := fun d S => match d with
  | .bl b => .val b S
  | _ => .stuck
@[simp] def bVal (a : Rho → M D) : Rho → M Bool := fun ρ S => (a ρ S).bind isBl
@[simp] def eAnd (a b : Rho → M D) : Rho → M D := fun ρ S => (a ρ S).bind fun x S1 => (isBl x S1).bind fun q S2 => if q = true then b ρ S2 else .val (.bl false) S2
@[simp] def eOr (a b : Rho → M D) : Rho → M D := fun ρ S => (a ρ S).bind fun x S1 => (isBl x S1).bind fun q S2 => if q = true then .val (.bl true) S2 else b ρ S2
@[simp] def eNot (a : Rho → M D) : Rho → M D := fun ρ S => (a ρ S).bind fun x S1 => (isBl x S1).bind fun q S2 => .val (.bl (!q)) S2
@[simp] def aNil : Rho → M (List D) := fun _ S => .val [] S
@[simp] def aCons (a : Rho → M D) (r : Rho → M (List D)) : Rho → M (List D) := fun ρ S => (a ρ S).bind fun x S1 => (r ρ S1).bind fun xs S2 => .val (x :: xs) S2
@[simp] def eTup (a : Rho → M (List D)) : Rho → M D := fun ρ S => (a ρ S).bind fun xs S1 => .val (.tup xs) S1
/-- a new list: as a value, as a cell -/
@[simp] def eLst (a : Rho → M (List D)) : Rho → M D := fun ρ S => (a ρ S).bind fun xs S1 => .val (.lst xs) S1
@[simp] def eCel (a : Rho → M (List D)) : Rho → M D := fun ρ S => (a ρ S).bind fun xs S1 => .val (.ref S1.length) (S1 ++ [.lst xs])

section
variable {X : Cx} {E : XK} {pos : Pos} {e e1 e2 c : Expr} {es : List Expr} {f f1 f2 : Rho → M D} {g : Rho → M (List D)} {t t1 t2 : Rho → M Bool}

theorem ze_var {i : Nat} {x : Str} (h : PE X (.Name x pos) (tVar i)) : ZE X E (.Name x pos) (eVar i) := PE.weak h fun σ H Q ⟨α, S, ρ, rp, re, q⟩ => by
  unfold eVar at q
  split at q
  · rename_i d hd
    obtain ⟨v, h1, h2⟩ := re.at_ i d hd
    exact ⟨v, h1, q.now rp h2⟩
  · exact q.elim
theorem ze_c {d : D} {v : V} (h : PE X e (tC v)) (r : ∀ α H, RepD X.K X.w α H d v) : ZE X E e (eC d) := PE.weak h fun σ H Q ⟨α, S, ρ, rp, re, q⟩ => Post.now q rp (r α H)
theorem ze_int {i : Int} {j} : ZE X E (.Constant (.int i) j pos) (eC (.int i)) := ze_c pe_int fun _ _ => by unfold RepD; rfl
theorem ze_bl {b : Bool} {j} : ZE X E (.Constant (.bool b) j pos) (eC (.bl b)) := ze_c pe_bl fun _ _ => by unfold RepD; rfl
theorem ze_non {j} : ZE X E (.Constant .none j pos) (eC .non) := ze_c pe_non fun _ _ => by unfold RepD; rfl
theorem ze_str {x : Str} {j} : ZE X E (.Constant (.str x) j pos) (eC (.str x)) := ze_c pe_str fun _ _ => by unfold RepD; rfl

/-- an operation by data -/
def OpS (X : Cx) (E : XK) (r : R2) (op : D → D → M D) : Prop :=
  ∀ (α : Al) (S : Sto) (H : Hp) (d e : D) (v u : V) (Q : VK), Rep X.K X.w α S H → RepD X.K X.w α H d v → RepD X.K X.w α H e u → Post X.K X.w (RepD X.K X.w) E α H (op d e S) Q → r v u H Q
theorem two {r : R2} {op : D → D → M D} (hs : OpS X E r op) {σ : St} {H : Hp} {Q : VK} (h : lift X.K X.w E (eOp op f1 f2) σ H Q) : tOp r (lift X.K X.w E f1) (lift X.K X.w E f2) σ H Q := by
  obtain ⟨α, S, ρ, rp, re, q⟩ := h
  refine ⟨α, S, ρ, rp, re, Post.step q fun d S1 α1 H1 v _ st rp1 r1 q1 => ?_⟩
  refine ⟨α1, S1, ρ, rp1, re.mono st, Post.step q1 fun e S2 α2 H2 u _ st2 rp2 r2 q2 => ?_⟩
  exact hs α2 S2 H2 d e v u Q rp2 (repD_mono st2 d v r1) r2 q2
theorem ze_op {o : Operator} {r : R2} {op : D → D → M D} (ho : OpR X (binaryOp o) r) (hs : OpS X E r op) (h1 : ZE X E e1 f1) (h2 : ZE X E e2 f2) : ZE X E (.BinOp e1 o e2 pos) (eOp op f1 f2) :=
  PE.weak (pe_op ho h1 h2) fun σ H Q => two hs
theorem ze_cmp {o : CmpOp} {r : R2} {op : D → D → M D} (ho : OpR X (compareOp o) r) (hs : OpS X E r op) (h1 : ZE X E e1 f1) (h2 : ZE X E e2 f2) (hm : behindInMarks o e2 = false) : ZE X E (.Compare e1 [o] [e2] pos) (eOp op f1 f2) :=
  PE.weak (pe_cmpR ho h1 h2 hm) fun σ H Q => two hs
/-- a test by a value -/
theorem val_test {σ : St} {H : Hp} {Q : Bool → Hp → Prop} (h : liftB X.K X.w E (bVal f) σ H Q) : lift X.K X.w E f σ H fun x H1 => ∃ k, x = .bl k ∧ Q k H1 := by
  obtain ⟨α, S, ρ, rp, re, q⟩ := h
  refine ⟨α, S, ρ, rp, re, Post.step q fun d S1 α1 H1 v _ st rp1 r1 q1 => ?_⟩
  unfold isBl at q1
  split at q1
  · unfold RepD at r1
    exact ⟨_, r1, q1.now rp1 rfl⟩
  · exact q1.elim
theorem zt_cmp {o : CmpOp} {r : R2} {op : D → D → M D} (ho : OpR X (compareOp o) r) (hs : OpS X E r op) (h1 : ZE X E e1 f1) (h2 : ZE X E e2 f2) (hm : behindInMarks o e2 = false) : ZT X E (.Compare e1 [o] [e2] pos) (bVal (eOp op f1 f2)) :=
  PT.weak (pt_cmpR ho h1 h2 hm) fun σ H Q h => two hs (val_test h)
theorem zt_val (h : ZE X E e f) (he : ∀ whole, isTrue e X.env whole = (do let v ← whole; standAt e.pos; holding [v] (truthy v)) := by intro _; rfl) : ZT X E e (bVal f) :=
  PT.weak (pt_val h he) fun σ H Q h => val_test h
/-! and, or, not -/
abbrev ZW (X : Cx) (E : XK) (e : Expr) (f : Rho → M Bool) : Prop := PW X e (liftB X.K X.w E f)
theorem PW.weak {t t' : TT} (h : PW X e t) (k : ∀ σ H Q, t' σ H Q → t σ H Q) : PW X e t' := ⟨fun wh pins s σ H Q I q => h.run wh pins s σ H Q I (k σ H Q q)⟩
theorem zw_and1 (h : ZT X E e t) : ZW X E (.BoolOp .And [e] pos) t := pw_and1 h
theorem zw_or1 (h : ZT X E e t) : ZW X E (.BoolOp .Or [e] pos) t := pw_or1 h
theorem zw_and (h1 : ZT X E e1 t1) (h2 : ZW X E (.BoolOp .And (e2 :: es) pos) t2) : ZW X E (.BoolOp .And (e1 :: e2 :: es) pos) (bAnd t1 t2) := PW.weak (pw_and h1 h2) fun σ H Q ⟨α, S, ρ, rp, re, q⟩ => by
  refine ⟨α, S, ρ, rp, re, Post.step q fun b S1 α1 H1 v _ st rp1 r1 q1 => ?_⟩
  subst r1
  cases b with
  | true => exact ⟨α1, S1, ρ, rp1, re.mono st, q1⟩
  | false => exact Post.now q1 rp1 rfl
theorem zw_or (h1 : ZT X E e1 t1) (h2 : ZW X E (.BoolOp .Or (e2 :: es) pos) t2) : ZW X E (.BoolOp .Or (e1 :: e2 :: es) pos) (bOr t1 t2) := PW.weak (pw_or h1 h2) fun σ H Q ⟨α, S, ρ, rp, re, q⟩ => by
  refine ⟨α, S, ρ, rp, re, Post.step q fun b S1 α1 H1 v _ st rp1 r1 q1 => ?_⟩
  subst r1
  cases b with
  | false => exact ⟨α1, S1, ρ, rp1, re.mono st, q1⟩
  | true => exact Post.now q1 rp1 rfl
theorem zt_w (h : ZW X E e t) : ZT X E e t := h.pt
theorem zt_not (h : ZT X E e t) : ZT X E (.UnaryOp .Not e pos) (bNot t) := PT.weak (pt_not h) fun σ H Q ⟨α, S, ρ, rp, re, q⟩ => by
  refine ⟨α, S, ρ, rp, re, Post.step q fun b S1 α1 H1 v _ st rp1 r1 q1 => ?_⟩
  subst r1
  exact Post.now q1 rp1 rfl
theorem ze_one {o} (h : ZE X E e f) : ZE X E (.BoolOp o [e] pos) f := pe_one h
theorem ze_and (h1 : ZE X E e1 f1) (h2 : ZE X E (.BoolOp .And (e2 :: es) pos) f2) : ZE X E (.BoolOp .And (e1 :: e2 :: es) pos) (eAnd f1 f2) := PE.weak (pe_and h1 h2) fun σ H Q ⟨α, S, ρ, rp, re, q⟩ => by
  refine ⟨α, S, ρ, rp, re, Post.step q fun x S1 α1 H1 v _ st rp1 r1 q1 => ?_⟩
  cases x with
  | bl b =>
    unfold RepD at r1
    refine ⟨b, r1, ?_⟩
    cases b with
    | true => exact ⟨α1, S1, ρ, rp1, re.mono st, q1⟩
    | false => exact Post.now q1 rp1 (by unfold RepD; rfl)
  | _ => exact q1.elim
theorem ze_or (h1 : ZE X E e1 f1) (h2 : ZE X E (.BoolOp .Or (e2 :: es) pos) f2) : ZE X E (.BoolOp .Or (e1 :: e2 :: es) pos) (eOr f1 f2) := PE.weak (pe_or h1 h2) fun σ H Q ⟨α, S, ρ, rp, re, q⟩ => by
  refine ⟨α, S, ρ, rp, re, Post.step q fun x S1 α1 H1 v _ st rp1 r1 q1 => ?_⟩
  cases x with
  | bl b =>
    unfold RepD at r1
    refine ⟨b, r1, ?_⟩
    cases b with
    | false => exact ⟨α1, S1, ρ, rp1, re.mono st, q1⟩
    | true => exact Post.now q1 rp1 (by unfold RepD; rfl)
  | _ => exact q1.elim
theorem ze_not (h : ZE X E e f) : ZE X E (.UnaryOp .Not e pos) (eNot f) := PE.weak (pe_not h) fun σ H Q ⟨α, S, ρ, rp, re, q⟩ => by
  refine ⟨α, S, ρ, rp, re, Post.step q fun x S1 α1 H1 v _ st rp1 r1 q1 => ?_⟩
  cases x with
  | bl b =>
    unfold RepD at r1
    exact ⟨b, r1, Post.now q1 rp1 (by unfold RepD; rfl)⟩
  | _ => exact q1.elim
theorem ze_if (h0 : ZT X E c t) (h1 : ZE X E e1 f1) (h2 : ZE X E e2 f2) : ZE X E (.IfExp c e1 e2 pos) (eIf t f1 f2) := PE.weak (pe_ifExp h0 h1 h2) fun σ H Q ⟨α, S, ρ, rp, re, q⟩ => by
  refine ⟨α, S, ρ, rp, re, Post.step q fun b S1 α1 H1 v _ st rp1 r1 q1 => ?_⟩
  subst r1
  cases b with
  | true => exact ⟨α1, S1, ρ, rp1, re.mono st, q1⟩
  | false => exact ⟨α1, S1, ρ, rp1, re.mono st, q1⟩
/-! lists of arguments, displays -/
theorem za_nil : ZA X E [] aNil := PA.weak pa_nil fun σ H Q ⟨α, S, ρ, rp, re, q⟩ => Post.now q rp RepL.nil
theorem za_cons (h1 : ZE X E e f) (h2 : ZA X E es g) (hs : starEach (e :: es) X.env = (false, eval e X.env) :: starEach es X.env := by rfl) : ZA X E (e :: es) (aCons f g) :=
  PA.weak (pa_cons h1 h2 hs) fun σ H Q ⟨α, S, ρ, rp, re, q⟩ => by
    refine ⟨α, S, ρ, rp, re, Post.step q fun x S1 α1 H1 v _ st rp1 r1 q1 => ?_⟩
    refine ⟨α1, S1, ρ, rp1, re.mono st, Post.step q1 fun xs S2 α2 H2 vs _ st2 rp2 r2 q2 => ?_⟩
    exact Post.now q2 rp2 (RepL.cons (repD_mono st2 x v r1) r2)
theorem small_sz {n : Nat} (h : n ≤ 100000) : n ≤ sizeLine := Nat.le_trans h (by decide)
/-- how long an argument list comes to be -/
def LenIs (g : Rho → M (List D)) (n : Nat) : Prop := ∀ ρ S xs S1, g ρ S = .val xs S1 → xs.length = n
theorem len_nil : LenIs aNil 0 := fun ρ S xs S1 h => by cases h; rfl
theorem len_cons {n : Nat} (h : LenIs g n) : LenIs (aCons f g) (n + 1) := fun ρ S xs S1 q => by
  unfold aCons Out.bind at q
  split at q
  · dsimp only at q
    split at q
    · rename_i h2
      cases q
      rw [List.length_cons, h _ _ _ _ h2]
    · cases q
    · cases q
  · cases q
  · cases q
theorem ze_tup {n k : Nat} (h : ZA X E es g) (hl : LenIs g n) (hn : n ≤ 100000 := by decide) : ZE X E (.Tuple es k pos) (eTup g) := PE.weak (pe_tup h) fun σ H Q ⟨α, S, ρ, rp, re, q⟩ => by
  refine ⟨α, S, ρ, rp, re, Post.step q fun xs S1 α1 H1 vs e st rp1 r1 q1 => ?_⟩
  exact ⟨small_sz (by rw [r1.length, hl _ _ _ _ e]; exact hn), fun p hp => post_tup rp1 r1 q1 hp⟩
theorem ze_lst {n : Nat} (h : ZA X E es g) (hl : LenIs g n) (hn : n ≤ 100000 := by decide) : ZE X E (.List es pos) (eLst g) := PE.weak (pe_lst h) fun σ H Q ⟨α, S, ρ, rp, re, q⟩ => by
  refine ⟨α, S, ρ, rp, re, Post.step q fun xs S1 α1 H1 vs e st rp1 r1 q1 => ?_⟩
  exact ⟨small_sz (by rw [r1.length, hl _ _ _ _ e]; exact hn), fun p hp => post_lst rp1 r1 q1 hp⟩
theorem ze_cel {n : Nat} (h : ZA X E es g) (hl : LenIs g n) (hn : n ≤ 100000 := by decide) : ZE X E (.List es pos) (eCel g) := PE.weak (pe_lst h) fun σ H Q ⟨α, S, ρ, rp, re, q⟩ => by
  refine ⟨α, S, ρ, rp, re, Post.step q fun xs S1 α1 H1 vs e st rp1 r1 q1 => ?_⟩
  exact ⟨small_sz (by rw [r1.length, hl _ _ _ _ e]; exact hn), fun p hp => post_cell rp1 r1 q1 hp⟩
end
end Z
set_option Elab.async false
set_option linter.all false
set_option maxRecDepth 100000
set_option maxHeartbeats 1000000
/-! Z4: operators. -/
namespace Z
open PySem L2
def mulOk (i j : Int) : Bool := (decide (-(2 ^ 64) < i) && decide (i < 2 ^ 64)) || (decide (-(2 ^ 64) < j) && decide (j < 2 ^ 64)) || decide (i.natAbs.log2 + j.natAbs.log2 < 1000000)
/-- the items of a list, of a list's cell -/
def seqL (S : Sto) : D → Option (List D)
  | .lst ds => some ds
  | .wl ds => some ds
  | .ref n => match S[n]? with
    | some (.lst ds) => some ds
    | _ => none
  | _ => none
/-- the items of a list that may be joined -/
def seqM (S : Sto) : D → Option (List D)
  | .lst ds => some ds
  | .ref n => match S[n]? with
    | some (.lst ds) => some ds
    | _ => none
  | _ => none
def opAdd : D → D → M D := fun x y S => match x, y with
  | .int i, .int j => .val (.int (i + j)) S
  | .str a, .str b => if a.length + b.length ≤ sizeLine then .val (.str (a ++ b)) S else .stuck
  | .tup a, .tup b => if a.length + b.length ≤ sizeLine then .val (.tup (a ++ b)) S else .stuck
  | x, y => match seqM S x, seqM S y with
    | some a, some b => if a.length + b.length ≤ sizeLine then .val (.lst (a ++ b)) S else .stuck
    | _, _ => .stuck
def opSub : D → D → M D := fun x y S => match x, y with
  | .int i, .int j => .val (.int (i - j)) S
  | _, _ => .stuck
def opMul : D → D → M D := fun x y S => match x, y with
  | .int i, .int j => if mulOk i j = true then .val (.int (i * j)) S else .stuck
  | .tup a, .int j => if a ≠ [] ∧ 2 ≤ j ∧ j ≤ 1000 ∧ a.length ≤ 1000 then .val (.tup (List.replicate j.toNat a).flatten) S else .stuck
  | x, .int j => match seqM S x with
    | some a => if -(2 ^ 63) ≤ j ∧ j < 2 ^ 63 ∧ a.length * j.toNat ≤ sizeLine then .val (.lst (List.replicate j.toNat a).flatten) S else .stuck
    | none => .stuck
  | _, _ => .stuck
def opDiv : D → D → M D := fun x y S => match x, y with
  | .int i, .int j => if 0 < j ∧ j.natAbs.log2 < 9000 then .val (.int (i / j)) S else .stuck
  | _, _ => .stuck
def opMod : D → D → M D := fun x y S => match x, y with
  | .int i, .int j => if 0 < j then .val (.int (i % j)) S else .stuck
  | _, _ => .stuck
def opPow : D → D → M D := fun x y S => match x, y with
  | .int i, .int j => if 0 ≤ j ∧ j ≤ 1000000 ∧ i.natAbs < 2 ^ 64 then .val (.int (i ^ j.toNat)) S else .stuck
  | _, _ => .stuck
def opLt : D → D → M D := fun x y S => match x, y with
  | .int i, .int j => .val (.bl (decide (i < j))) S
  | .str a, .str b => .val (.bl (decide (a.cps.toList < b.cps.toList))) S
  | _, _ => .stuck
def opLe : D → D → M D := fun x y S => match x, y with
  | .int i, .int j => .val (.bl (decide (i ≤ j))) S
  | _, _ => .stuck
def opGt : D → D → M D := fun x y S => match x, y with
  | .int i, .int j => .val (.bl (decide (j < i))) S
  | _, _ => .stuck
def opGe : D → D → M D := fun x y S => match x, y with
  | .int i, .int j => .val (.bl (decide (j ≤ i))) S
  | _, _ => .stuck
def isNon : D → Bool
  | .non => true
  | _ => false
def opIs : D → D → M D := fun x y S => if isNon y = true then .val (.bl (isNon x)) S else .stuck
def opIsNot : D → D → M D := fun x y S => if isNon y = true then .val (.bl (!isNon x)) S else .stuck
@[simp] theorem opAdd_int (i j : Int) (S : Sto) : opAdd (.int i) (.int j) S = .val (.int (i + j)) S := rfl
@[simp] theorem opSub_int (i j : Int) (S : Sto) : opSub (.int i) (.int j) S = .val (.int (i - j)) S := rfl
@[simp] theorem opLt_int (i j : Int) (S : Sto) : opLt (.int i) (.int j) S = .val (.bl (decide (i < j))) S := rfl
@[simp] theorem opLe_int (i j : Int) (S : Sto) : opLe (.int i) (.int j) S = .val (.bl (decide (i ≤ j))) S := rfl
@[simp] theorem opGt_int (i j : Int) (S : Sto) : opGt (.int i) (.int j) S = .val (.bl (decide (j < i))) S := rfl
@[simp] theorem opGe_int (i j : Int) (S : Sto) : opGe (.int i) (.int j) S = .val (.bl (decide (j ≤ i))) S := rfl
@[simp] theorem opMul_int (i j : Int) (S : Sto) : opMul (.int i) (.int j) S = if mulOk i j = true then .val (.int (i * j)) S else .stuck := rfl
@[simp] theorem opDiv_int (i j : Int) (S : Sto) : opDiv (.int i) (.int j) S = if 0 < j ∧ j.natAbs.log2 < 9000 then .val (.int (i / j)) S else .stuck := rfl
@[simp] theorem opMod_int (i j : Int) (S : Sto) : opMod (.int i) (.int j) S = if 0 < j then .val (.int (i % j)) S else .stuck := rfl
@[simp] theorem opPow_int (i j : Int) (S : Sto) : opPow (.int i) (.int j) S = if 0 ≤ j ∧ j ≤ 1000000 ∧ i.natAbs < 2 ^ 64 then .val (.int (i ^ j.toNat)) S else .stuck := rfl
@[simp] theorem opAdd_tup (a b : List D) (S : Sto) : opAdd (.tup a) (.tup b) S = if a.length + b.length ≤ sizeLine then .val (.tup (a ++ b)) S else .stuck := rfl
@[simp] theorem opAdd_str (a b : Str) (S : Sto) : opAdd (.str a) (.str b) S = if a.length + b.length ≤ sizeLine then .val (.str (a ++ b)) S else .stuck := rfl
@[simp] theorem opAdd_lst (a b : List D) (S : Sto) : opAdd (.lst a) (.lst b) S = if a.length + b.length ≤ sizeLine then .val (.lst (a ++ b)) S else .stuck := rfl
@[simp] theorem opIs_non (x : D) (S : Sto) : opIs x .non S = .val (.bl (isNon x)) S := rfl
@[simp] theorem opIsNot_non (x : D) (S : Sto) : opIsNot x .non S = .val (.bl (!isNon x)) S := rfl

section
variable {K : PySem.W.Frag} {w : World} {α : Al} {H : Hp} {S : Sto} {d : D} {v : V}
theorem rep_int {i : Int} (h : RepD K w α H (.int i) v) : v = .int i := by unfold RepD at h; exact h
theorem rep_str {i : Str} (h : RepD K w α H (.str i) v) : v = .str i := by unfold RepD at h; exact h
theorem rep_bl {i : Bool} (h : RepD K w α H (.bl i) v) : v = .bl i := by unfold RepD at h; exact h
theorem rep_non (h : RepD K w α H .non v) : v = .non := by unfold RepD at h; exact h
theorem rep_tup {ds : List D} (h : RepD K w α H (.tup ds) v) : ∃ a vs, v = .ref a ∧ SqT K H a vs ∧ RepL K w α H ds vs := by unfold RepD at h; exact h
theorem repI (i : Int) : RepD K w α H (.int i) (.int i) := by unfold RepD; rfl
theorem repS (i : Str) : RepD K w α H (.str i) (.str i) := by unfold RepD; rfl
theorem repB (i : Bool) : RepD K w α H (.bl i) (.bl i) := by unfold RepD; rfl
theorem repN : RepD K w α H .non .non := by unfold RepD; rfl
theorem repT {ds : List D} {a : Addr} {vs : List V} (h : SqT K H a vs) (r : RepL K w α H ds vs) : RepD K w α H (.tup ds) (.ref a) := by unfold RepD; exact ⟨a, vs, rfl, h, r⟩
theorem seqM_rep {ds : List D} (rp : Rep K w α S H) (h : seqM S d = some ds) (r : RepD K w α H d v) : ∃ a vs, v = .ref a ∧ H a = some (.lst vs) ∧ RepL K w α H ds vs := by
  unfold seqM at h
  split at h
  · cases h
    unfold RepD at r
    obtain ⟨a, vs, e, _, q, l⟩ := r
    exact ⟨a, vs, e, q, l⟩
  · rename_i n
    split at h
    · rename_i ds' hn
      cases h
      unfold RepD at r
      obtain ⟨a, e, q⟩ := r
      obtain ⟨vs, h1, h2⟩ := rp.cell n _ a hn q
      exact ⟨a, vs, e, h1, h2⟩
    · cases h
  · cases h
theorem seqL_rep {ds : List D} (rp : Rep K w α S H) (h : seqL S d = some ds) (r : RepD K w α H d v) : ∃ a vs, v = .ref a ∧ SqL K H a vs ∧ RepL K w α H ds vs := by
  unfold seqL at h
  split at h
  · cases h
    unfold RepD at r
    obtain ⟨a, vs, e, _, q, l⟩ := r
    exact ⟨a, vs, e, SqL.of q, l⟩
  · cases h
    unfold RepD at r
    obtain ⟨a, vs, e, q, l⟩ := r
    refine ⟨a, vs, e, ?_, l⟩
    rcases q with ⟨_, q⟩ | q
    · exact .inl q
    · exact .inr q
  · rename_i n
    split at h
    · rename_i ds' hn
      cases h
      unfold RepD at r
      obtain ⟨a, e, q⟩ := r
      obtain ⟨vs, h1, h2⟩ := rp.cell n _ a hn q
      exact ⟨a, vs, e, SqL.of h1, h2⟩
    · cases h
  · cases h
theorem isNon_rep (h : RepD K w α H d v) : decide (v = .non) = isNon d := by
  cases d with
  | non => rw [rep_non h]; rfl
  | int i => rw [rep_int h]; rfl
  | str i => rw [rep_str h]; rfl
  | bl i => rw [rep_bl h]; rfl
  | _ =>
    unfold RepD at h
    obtain ⟨a, h⟩ := h
    first
      | (obtain ⟨_, _, _, e, _⟩ := h; rw [e]; rfl)
      | (obtain ⟨_, e, _⟩ := h; rw [e]; rfl)
      | (obtain ⟨e, _⟩ := h; rw [e]; rfl)
end
section
variable {X : Cx} {E : XK}
theorem OpS.ints {g : Int → Int → V} {op : D → D → M D} {C : Int → Int → Prop} (z : Int → Int → D) (hz : ∀ α H i j, RepD X.K X.w α H (z i j) (g i j)) (h : ∀ i j S (o : Out D), op (.int i) (.int j) S = o → (o = .stuck ∨ (C i j ∧ o = .val (z i j) S)))
    (h2 : ∀ x y S, op x y S = .stuck ∨ ∃ i j, x = .int i ∧ y = .int j) : OpS X E (rI C g) op := fun α S H d e v u Q rp r1 r2 q => by
  rcases h2 d e S with b | ⟨i, j, rfl, rfl⟩
  · rw [b] at q; exact q.elim
  · rcases h i j S _ rfl with b | ⟨c, b⟩
    · rw [b] at q; exact q.elim
    · rw [b] at q
      exact ⟨i, j, rep_int r1, rep_int r2, c, q.now rp (hz α H i j)⟩
theorem os_sub : OpS X E (rI0 fun i j => .int (i - j)) opSub := fun α S H d e v u Q rp r1 r2 q => by
  unfold opSub at q
  split at q
  · exact ⟨_, _, rep_int r1, rep_int r2, q.now rp (repI _)⟩
  · exact q.elim
theorem os_le : OpS X E (rI0 fun i j => .bl (decide (i ≤ j))) opLe := fun α S H d e v u Q rp r1 r2 q => by
  unfold opLe at q
  split at q
  · exact ⟨_, _, rep_int r1, rep_int r2, q.now rp (repB _)⟩
  · exact q.elim
theorem os_gt : OpS X E (rI0 fun i j => .bl (decide (j < i))) opGt := fun α S H d e v u Q rp r1 r2 q => by
  unfold opGt at q
  split at q
  · exact ⟨_, _, rep_int r1, rep_int r2, q.now rp (repB _)⟩
  · exact q.elim
theorem os_ge : OpS X E (rI0 fun i j => .bl (decide (j ≤ i))) opGe := fun α S H d e v u Q rp r1 r2 q => by
  unfold opGe at q
  split at q
  · exact ⟨_, _, rep_int r1, rep_int r2, q.now rp (repB _)⟩
  · exact q.elim
def rLt : R2 := fun x y H Q => (∃ i j, x = .int i ∧ y = .int j ∧ Q (.bl (decide (i < j))) H) ∨ ∃ i j, x = .str i ∧ y = .str j ∧ Q (.bl (decide (i.cps.toList < j.cps.toList))) H
theorem op_ltZ : OpR X (compareOp .Lt) rLt := op_lt.or op_lt_str
theorem os_lt : OpS X E rLt opLt := fun α S H d e v u Q rp r1 r2 q => by
  unfold opLt at q
  split at q
  · exact .inl ⟨_, _, rep_int r1, rep_int r2, q.now rp (repB _)⟩
  · exact .inr ⟨_, _, rep_str r1, rep_str r2, q.now rp (repB _)⟩
  · exact q.elim
theorem os_div : OpS X E (rI CDivW fun i j => .int (i / j)) opDiv := fun α S H d e v u Q rp r1 r2 q => by
  unfold opDiv at q
  split at q
  · split at q
    · rename_i c
      exact ⟨_, _, rep_int r1, rep_int r2, c, q.now rp (repI _)⟩
    · exact q.elim
  · exact q.elim
theorem os_mod : OpS X E (rI (fun _ j => 0 < j) fun i j => .int (i % j)) opMod := fun α S H d e v u Q rp r1 r2 q => by
  unfold opMod at q
  split at q
  · split at q
    · rename_i c
      exact ⟨_, _, rep_int r1, rep_int r2, c, q.now rp (repI _)⟩
    · exact q.elim
  · exact q.elim
theorem os_pow : OpS X E (rI CPow fun i j => .int (i ^ j.toNat)) opPow := fun α S H d e v u Q rp r1 r2 q => by
  unfold opPow at q
  split at q
  · split at q
    · rename_i c
      exact ⟨_, _, rep_int r1, rep_int r2, c, q.now rp (repI _)⟩
    · exact q.elim
  · exact q.elim
def rIs : R2 := fun x y H Q => y = .non ∧ Q (.bl (decide (x = .non))) H
def rIsNot : R2 := fun x y H Q => y = .non ∧ Q (.bl (!decide (x = .non))) H
theorem op_isZ : OpR X (compareOp .Is) rIs := op_isN
theorem op_isNotZ : OpR X (compareOp .IsNot) rIsNot := op_notN
theorem os_is : OpS X E rIs opIs := fun α S H d e v u Q rp r1 r2 q => by
  unfold opIs at q
  split at q
  · rename_i h
    cases e with
    | non =>
      refine ⟨rep_non r2, ?_⟩
      rw [isNon_rep r1]
      exact q.now rp (repB _)
    | _ => cases h
  · exact q.elim
theorem os_isNot : OpS X E rIsNot opIsNot := fun α S H d e v u Q rp r1 r2 q => by
  unfold opIsNot at q
  split at q
  · rename_i h
    cases e with
    | non =>
      refine ⟨rep_non r2, ?_⟩
      rw [isNon_rep r1]
      exact q.now rp (repB _)
    | _ => cases h
  · exact q.elim
/-! + -/
def rAddZ (K : PySem.W.Frag) : R2 := fun x y H Q => rI0 (fun i j => .int (i + j)) x y H Q ∨ (∃ i j, x = .str i ∧ y = .str j ∧ i.length + j.length ≤ sizeLine ∧ Q (.str (i ++ j)) H) ∨ rCatA K x y H Q ∨ rCat x y H Q
theorem op_addZ : OpR X (binaryOp .Add) (rAddZ X.K) := op_add.or (op_add_str.or (op_catA.or op_cat))
theorem os_add : OpS X E (rAddZ X.K) opAdd := fun α S H d e v u Q rp r1 r2 q => by
  unfold opAdd at q
  split at q
  · exact .inl ⟨_, _, rep_int r1, rep_int r2, q.now rp (repI _)⟩
  · split at q
    · rename_i c
      exact .inr (.inl ⟨_, _, rep_str r1, rep_str r2, c, q.now rp (repS _)⟩)
    · exact q.elim
  · split at q
    · rename_i as bs c
      obtain ⟨a, vs, ea, ha, la⟩ := rep_tup r1
      obtain ⟨b, us, eb, hb, lb⟩ := rep_tup r2
      refine .inr (.inr (.inl ⟨a, b, vs, us, ea, eb, ha, hb, by rw [la.length, lb.length]; exact c, fun z => ?_, fun _ z => ?_, fun _ _ p hp => ?_⟩))
      · subst z
        have e : as = [] := List.length_eq_zero_iff.mp la.length.symm
        subst e
        exact q.now rp (repT hb lb)
      · subst z
        have e : bs = [] := List.length_eq_zero_iff.mp lb.length.symm
        subst e
        rw [List.append_nil] at q
        exact q.now rp (repT ha la)
      · exact post_tup rp (la.append lb) q hp
    · exact q.elim
  · split at q
    · rename_i as bs h1 h2
      split at q
      · rename_i c
        obtain ⟨a, vs, ea, ha, la⟩ := seqM_rep rp h1 r1
        obtain ⟨b, us, eb, hb, lb⟩ := seqM_rep rp h2 r2
        exact .inr (.inr (.inr ⟨a, b, vs, us, ea, eb, ha, hb, by rw [la.length, lb.length]; exact c, fun p hp => post_lst rp (la.append lb) q hp⟩))
      · exact q.elim
    · exact q.elim
/-! * -/
def rMulZ (K : PySem.W.Frag) : R2 := fun x y H Q => rI CMul (fun i j => .int (i * j)) x y H Q ∨ rI CMulW (fun i j => .int (i * j)) x y H Q ∨ rRepT K x y H Q ∨ rRep x y H Q
theorem op_mulZ : OpR X (binaryOp .Mult) (rMulZ X.K) := op_mul.or (op_mulW.or (op_repT.or op_rep))
theorem os_mul : OpS X E (rMulZ X.K) opMul := fun α S H d e v u Q rp r1 r2 q => by
  unfold opMul at q
  split at q
  · split at q
    · rename_i i j c
      unfold mulOk at c
      simp only [Bool.or_eq_true, Bool.and_eq_true, decide_eq_true_eq] at c
      rcases c with (c | c) | c
      · exact .inl ⟨_, _, rep_int r1, rep_int r2, .inl c, q.now rp (repI _)⟩
      · exact .inl ⟨_, _, rep_int r1, rep_int r2, .inr c, q.now rp (repI _)⟩
      · exact .inr (.inl ⟨_, _, rep_int r1, rep_int r2, c, q.now rp (repI _)⟩)
    · exact q.elim
  · split at q
    · rename_i as j c
      obtain ⟨a, vs, ea, ha, la⟩ := rep_tup r1
      obtain ⟨c1, c2, c3, c4⟩ := c
      refine .inr (.inr (.inl ⟨a, j, vs, ea, rep_int r2, ha, fun z => ?_, c2, c3, by rw [la.length]; exact c4, fun p hp => post_tup rp (la.replicate _) q hp⟩))
      subst z
      exact c1 (List.length_eq_zero_iff.mp la.length.symm)
    · exact q.elim
  · split at q
    · rename_i as h1
      split at q
      · rename_i c
        obtain ⟨a, vs, ea, ha, la⟩ := seqM_rep rp h1 r1
        exact .inr (.inr (.inr ⟨a, _, vs, ea, rep_int r2, ha, c.1, c.2.1, by rw [la.length]; exact c.2.2, fun p hp => post_lst rp (la.replicate _) q hp⟩))
      · exact q.elim
    · exact q.elim
  · exact q.elim
end
end Z
set_option Elab.async false
set_option linter.all false
set_option maxRecDepth 100000
set_option maxHeartbeats 1000000
/-! Z5: ==, in, subscripts, slices, dicts as values. -/
namespace Z
open PySem L2
/-! ### == -/
def toP : D → PyData
  | .non => .none
  | .bl b => .bool b
  | .int i => .int i
  | .str x => .str x
  | .tup ds => .tuple (ds.map toP)
  | .lst ds => .list (ds.map toP)
  | .wl ds => .list (ds.map toP)
  | .dic _ _ => .dict []
  | .ref _ => .dict []
/-- a list's cell, read -/
def deref (S : Sto) : D → D
  | .ref n => match S[n]? with
    | some (.lst ds) => .lst ds
    | _ => .ref n
  | d => d
def eqD (x y : D) : Bool := PyData.eqv (toP x) (toP y)
def okD (x : D) : Bool := SeqAt.shaped (toP x)
/-- == of flat things that needs no look at a text's signs -/
def eqF : D → D → Option Bool
  | .non, .non => some true
  | .int i, .int j => some (decide (i = j))
  | .str a, .str b => some (decide (a = b))
  | .bl a, .bl b => some (decide (a = b))
  | .non, .int _ => some false
  | .int _, .non => some false
  | .non, .bl _ => some false
  | .bl _, .non => some false
  | .non, .str _ => some false
  | .str _, .non => some false
  | .int _, .str _ => some false
  | .str _, .int _ => some false
  | .bl _, .str _ => some false
  | .str _, .bl _ => some false
  | _, _ => none
def opEqB (x y : D) (S : Sto) : Option Bool := match eqF x y with
  | some b => some b
  | none => if okD (deref S x) = true ∧ okD (deref S y) = true then some (eqD (deref S x) (deref S y)) else none
def opEq : D → D → M D := fun x y S => match opEqB x y S with
  | some b => .val (.bl b) S
  | none => .stuck
def opNe : D → D → M D := fun x y S => match opEqB x y S with
  | some b => .val (.bl (!b)) S
  | none => .stuck
section
variable {K : PySem.W.Frag} {w : World} {α : Al} {H : Hp} {S : Sto} {d e : D} {v u : V}
theorem eqF_rep {b : Bool} (h : eqF d e = some b) (r1 : RepD K w α H d v) (r2 : RepD K w α H e u) : scal v u = true ∧ decide (v = u) = b := by
  unfold eqF at h
  split at h
  all_goals first
    | (cases h
       first
         | (rw [rep_non r1, rep_non r2]; exact ⟨rfl, rfl⟩)
         | (rw [rep_int r1, rep_int r2]; exact ⟨rfl, by simp⟩)
         | (rw [rep_str r1, rep_str r2]; exact ⟨rfl, by simp⟩)
         | (rw [rep_bl r1, rep_bl r2]; exact ⟨rfl, by simp⟩)
         | (rw [rep_non r1, rep_int r2]; exact ⟨rfl, rfl⟩)
         | (rw [rep_int r1, rep_non r2]; exact ⟨rfl, rfl⟩)
         | (rw [rep_non r1, rep_bl r2]; exact ⟨rfl, rfl⟩)
         | (rw [rep_bl r1, rep_non r2]; exact ⟨rfl, rfl⟩)
         | (rw [rep_non r1, rep_str r2]; exact ⟨rfl, rfl⟩)
         | (rw [rep_str r1, rep_non r2]; exact ⟨rfl, rfl⟩)
         | (rw [rep_int r1, rep_str r2]; exact ⟨rfl, rfl⟩)
         | (rw [rep_str r1, rep_int r2]; exact ⟨rfl, rfl⟩)
         | (rw [rep_bl r1, rep_str r2]; exact ⟨rfl, rfl⟩)
         | (rw [rep_str r1, rep_bl r2]; exact ⟨rfl, rfl⟩))
    | cases h
theorem toP_dict {kvs : List (PyData × PyData)} (d : D) (h : toP d = .dict kvs) (hc : PyData.canLay0 (toP d) = true) : False := by
  rw [h] at hc
  cases hc
theorem lay_all : ∀ {ds : List D}, PyData.canLayAll0 (ds.map toP) = true → ∀ d ∈ ds, PyData.canLay0 (toP d) = true
  | [], _, _, h => by cases h
  | x :: r, hc, d, h => by
    rw [List.map_cons] at hc
    unfold PyData.canLayAll0 at hc
    rw [Bool.and_eq_true] at hc
    rcases List.mem_cons.mp h with e | e
    · rw [e]; exact hc.1
    · exact lay_all hc.2 d e
mutual
theorem dp_of : ∀ (d : D) (v : V), PyData.canLay0 (toP d) = true → RepD K w α H d v → Dp K H v (toP d)
  | .non, v, _, r => by rw [rep_non r]; unfold toP; exact .non
  | .bl b, v, _, r => by rw [rep_bl r]; unfold toP; exact .bl b
  | .int i, v, _, r => by rw [rep_int r]; unfold toP; exact .int i
  | .str x, v, _, r => by rw [rep_str r]; unfold toP; exact .str x
  | .tup ds, v, hc, r => by
    obtain ⟨a, vs, e, h, l⟩ := rep_tup r
    unfold toP at hc ⊢
    unfold PyData.canLay0 at hc
    rw [e]
    exact .tup h (dps_of ds vs hc l)
  | .lst ds, v, hc, r => by
    unfold RepD at r
    obtain ⟨a, vs, e, _, h, l⟩ := r
    unfold toP at hc ⊢
    unfold PyData.canLay0 at hc
    rw [e]
    exact .lst (SqL.of h) (dps_of ds vs hc l)
  | .wl ds, v, hc, r => by
    unfold RepD at r
    obtain ⟨a, vs, e, h, l⟩ := r
    unfold toP at hc ⊢
    unfold PyData.canLay0 at hc
    rw [e]
    refine .lst ?_ (dps_of ds vs hc l)
    rcases h with ⟨_, h⟩ | h
    · exact .inl h
    · exact .inr h
  | .dic ks ds, v, hc, r => by unfold toP at hc; cases hc
  | .ref n, v, hc, r => by unfold toP at hc; cases hc
theorem dps_of : ∀ (ds : List D) (vs : List V), PyData.canLayAll0 (ds.map toP) = true → RepL K w α H ds vs → DpAll K H vs (ds.map toP)
  | [], vs, _, r => by unfold RepL at r; rw [r]; exact .nil
  | d :: ds, vs, hc, r => by
    unfold RepL at r
    obtain ⟨v, r', e, h1, h2⟩ := r
    rw [List.map_cons] at hc ⊢
    unfold PyData.canLayAll0 at hc
    rw [Bool.and_eq_true] at hc
    rw [e]
    exact .cons (dp_of d v hc.1 h1) (dps_of ds r' hc.2 h2)
end
theorem dp_deref (rp : Rep K w α S H) (hc : okD (deref S d) = true) (r : RepD K w α H d v) : Dp K H v (toP (deref S d)) := by
  have hl : PyData.canLay0 (toP (deref S d)) = true := by
    unfold okD SeqAt.shaped at hc
    rw [Bool.and_eq_true] at hc
    exact hc.1
  cases d with
  | ref n =>
    have e : deref S (.ref n) = match S[n]? with
      | some (.lst ds) => .lst ds
      | _ => .ref n := rfl
    cases hn : S[n]? with
    | none =>
      rw [e, hn] at hl
      unfold toP at hl
      cases hl
    | some c =>
      cases c with
      | lst ds =>
        rw [e, hn] at hl ⊢
        unfold RepD at r
        obtain ⟨a, e2, q⟩ := r
        obtain ⟨vs, h1, h2⟩ := rp.cell n _ a hn q
        rw [e2]
        unfold toP at hl ⊢
        exact .lst (SqL.of h1) (dps_of ds vs hl h2)
      | dic lk ks ds =>
        rw [e, hn] at hl
        unfold toP at hl
        cases hl
      | ins c fs =>
        rw [e, hn] at hl
        unfold toP at hl
        cases hl
  | _ => exact dp_of _ v hl r
end
section
variable {X : Cx} {E : XK}
def rEqZ (K : PySem.W.Frag) : R2 := fun x y H Q => rEq x y H Q ∨ rEqD K x y H Q
def rNeZ (K : PySem.W.Frag) : R2 := fun x y H Q => rNe x y H Q ∨ rNeD K x y H Q
theorem op_eqZ (hu : X.A.units + 64 < cLine) : OpR X (compareOp .Eq) (rEqZ X.K) := op_eq.or (op_eqD hu)
theorem op_neZ (hu : X.A.units + 64 < cLine) : OpR X (compareOp .NotEq) (rNeZ X.K) := op_ne.or (op_neD hu)
theorem os_eq : OpS X E (rEqZ X.K) opEq := fun α S H d e v u Q rp r1 r2 q => by
  unfold opEq at q
  split at q
  · rename_i b h
    unfold opEqB at h
    split at h
    · rename_i b' h'
      cases h
      obtain ⟨h1, h2⟩ := eqF_rep h' r1 r2
      refine .inl ⟨h1, ?_⟩
      rw [h2]
      exact q.now rp (repB _)
    · split at h
      · rename_i c
        cases h
        exact .inr ⟨_, _, dp_deref rp c.1 r1, dp_deref rp c.2 r2, c.1, c.2, q.now rp (repB _)⟩
      · cases h
  · exact q.elim
theorem os_ne : OpS X E (rNeZ X.K) opNe := fun α S H d e v u Q rp r1 r2 q => by
  unfold opNe at q
  split at q
  · rename_i b h
    unfold opEqB at h
    split at h
    · rename_i b' h'
      cases h
      obtain ⟨h1, h2⟩ := eqF_rep h' r1 r2
      refine .inl ⟨h1, ?_⟩
      rw [h2]
      exact q.now rp (repB _)
    · split at h
      · rename_i c
        cases h
        exact .inr ⟨_, _, dp_deref rp c.1 r1, dp_deref rp c.2 r2, c.1, c.2, q.now rp (repB _)⟩
      · cases h
  · exact q.elim
end
/-! ### dicts -/
def keyEq (a b : D) : Bool := decide (nkey a = nkey b)
/-- the value under a key -/
def dGet : List D → List D → D → Option D
  | k :: ks, d :: ds, x => if keyEq k x = true then some d else dGet ks ds x
  | _, _, _ => none
/-- keys, values behind a store -/
def dPut : List D → List D → D → D → List D × List D
  | k :: ks, d :: ds, x, z => if keyEq k x = true then (k :: ks, z :: ds) else (k :: (dPut ks ds x z).1, d :: (dPut ks ds x z).2)
  | _, _, x, z => ([x], [z])
/-- a dict as it stands: locked or not -/
def dictOf (S : Sto) : D → Option (List D × List D)
  | .dic ks ds => some (ks, ds)
  | .ref n => match S[n]? with
    | some (.dic _ ks ds) => some (ks, ds)
    | _ => none
  | _ => none
section
variable {X : Cx} {pins : List (Addr × Obj)} {σ : St} {α : Al} {S : Sto} {H : Hp} {s : Shared} {a : Addr}
theorem rd_dict {xs : List ZD.Ent} (I : Inv X pins σ H s) (h : Rd H a (dHO X.w a xs)) : dφ X.w a xs s.heap := by
  have q : ObjOk X.prog X.w H s.heap a (dHO X.w a xs) := h.ok I.hok
  exact q.1
mutual
theorem key_is (I : Inv X pins σ H s) : ∀ (n : Nat) (d : D) (v : V) (u : Value), isKey n d = true → RepD X.K X.w α H d v → RelV v u → NestedIs s.heap (nkey d) u ∧ (nkey d).depth ≤ n
  | n, .non, v, u, _, r, q => by
    rw [rep_non r] at q
    unfold nkey
    cases (show u = Value.none from q)
    exact ⟨.none, Nat.zero_le _⟩
  | n, .int i, v, u, _, r, q => by
    rw [rep_int r] at q
    unfold nkey
    obtain ⟨t, rfl⟩ := q
    exact ⟨.int i t, Nat.zero_le _⟩
  | n, .str i, v, u, _, r, q => by
    rw [rep_str r] at q
    unfold nkey
    obtain ⟨t, rfl⟩ := q
    exact ⟨.text i t, Nat.zero_le _⟩
  | 0, .tup ds, v, u, hk, r, q => by unfold isKey at hk; cases hk
  | n + 1, .tup ds, v, u, hk, r, q => by
    obtain ⟨a, vs, e, h, l⟩ := rep_tup r
    rw [e] at q
    cases (show u = Value.ref a from q)
    unfold isKey at hk
    obtain ⟨its, rv, ⟨o, ho, hc, m, hd⟩, _⟩ := I.tuple h
    obtain ⟨h1, h2⟩ := keys_are I n ds vs its hk l rv
    unfold nkey
    exact ⟨.tup ho hc hd (by simpa using h1), by unfold NestedKey.depth; omega⟩
  | n, .bl _, v, u, hk, r, q => by unfold isKey at hk; cases hk
  | n, .lst _, v, u, hk, r, q => by unfold isKey at hk; cases hk
  | n, .wl _, v, u, hk, r, q => by unfold isKey at hk; cases hk
  | n, .dic _ _, v, u, hk, r, q => by unfold isKey at hk; cases hk
  | n, .ref _, v, u, hk, r, q => by unfold isKey at hk; cases hk
theorem keys_are (I : Inv X pins σ H s) : ∀ (n : Nat) (ds : List D) (vs : List V) (us : List Value), ds.all (isKey n) = true → RepL X.K X.w α H ds vs → Vals vs us → NestedAll s.heap (ds.map nkey) us ∧ NestedKey.depthAll (ds.map nkey) ≤ n
  | n, [], vs, us, _, r, q => by
    unfold RepL at r
    rw [r] at q
    cases q
    exact ⟨.nil, Nat.zero_le _⟩
  | n, d :: ds, vs, us, hk, r, q => by
    unfold RepL at r
    obtain ⟨v, r', e, h1, h2⟩ := r
    rw [e] at q
    rw [List.all_cons, Bool.and_eq_true] at hk
    cases q with
    | cons q1 q2 =>
      obtain ⟨g1, g2⟩ := key_is I n d v _ hk.1 h1 q1
      obtain ⟨g3, g4⟩ := keys_are I n ds r' _ hk.2 h2 q2
      rw [List.map_cons]
      refine ⟨.cons g1 g3, ?_⟩
      unfold NestedKey.depthAll
      exact Nat.max_le.mpr ⟨g2, g4⟩
end
theorem key_isN (I : Inv X pins σ H s) {d : D} {v : V} {u : Value} (hk : isKey 8 d = true) (r : RepD X.K X.w α H d v) (q : RelV v u) : ZD.IsN s.heap (nkey d) u := key_is I 8 d v u hk r q
theorem keys_isN (I : Inv X pins σ H s) : ∀ {ks : List D} {kv : List V} {xs : List ZD.Ent}, ks.all (isKey 8) = true → ks.map nkey = xs.map (·.1) → RepL X.K X.w α H ks kv → Vals kv (xs.map (·.2.1)) → ∀ x ∈ xs, ZD.IsN s.heap x.1 x.2.1
  | [], kv, [], _, _, _, _, x, hx => by cases hx
  | [], kv, _ :: _, _, e, _, _, x, hx => by cases e
  | _ :: _, kv, [], _, e, _, _, x, hx => by cases e
  | k :: ks, kv, y :: ys, hk, e, r, q, x, hx => by
    unfold RepL at r
    obtain ⟨v, r', e1, h1, h2⟩ := r
    rw [e1, List.map_cons] at q
    rw [List.map_cons, List.map_cons] at e
    injection e with e2 e3
    rw [List.all_cons, Bool.and_eq_true] at hk
    cases q with
    | cons q1 q2 =>
      rcases List.mem_cons.mp hx with e4 | e4
      · rw [e4, ← e2]
        exact key_isN I hk.1 h1 q1
      · exact keys_isN I hk.2 e3 h2 q2 x e4
/-- the dict that data tell, in the heap -/
structure DictAt (X : Cx) (α : Al) (H : Hp) (a : Addr) (ks ds : List D) (kv vs : List V) (xs : List ZD.Ent) : Prop where
  rd : Rd H a (dHO X.w a xs)
  ent : Ents ks kv vs xs
  rk : RepL X.K X.w α H ks kv
  rv : RepL X.K X.w α H ds vs
theorem DictAt.dictN {ks ds : List D} {kv vs : List V} {xs : List ZD.Ent} (g : DictAt X α H a ks ds kv vs xs) (I : Inv X pins σ H s) : ZD.DictN X.w s.heap a xs ∧ (a == sysModules) = false ∧ xs.length ≤ sizeLine := by
  obtain ⟨h1, h2, o, es, ep, ho, hx, hd, he, hn⟩ := rd_dict I g.rd
  exact ⟨⟨o, es, ep, ho, hx, hd, he, keys_isN I g.ent.1 g.ent.2.1 g.rk g.ent.2.2.1, hn⟩, h2, h1⟩
theorem dictOf_at {d : D} {v : V} {ks ds : List D} (rp : Rep X.K X.w α S H) (h : dictOf S d = some (ks, ds)) (r : RepD X.K X.w α H d v) : ∃ a kv vs xs, v = .ref a ∧ DictAt X α H a ks ds kv vs xs := by
  unfold dictOf at h
  split at h
  · cases h
    unfold RepD at r
    obtain ⟨a, kv, vs, xs, e, _, h1, h2, h3, h4⟩ := r
    exact ⟨a, kv, vs, xs, e, h1, h2, h3, h4⟩
  · rename_i n
    split at h
    · rename_i lk ks' ds' hn
      cases h
      unfold RepD at r
      obtain ⟨a, e, q⟩ := r
      obtain ⟨kv, vs, xs, h1, h2, h3, h4⟩ := rp.cell n _ a hn q
      refine ⟨a, kv, vs, xs, e, ?_, h2, h3, h4⟩
      split at h1
      · obtain ⟨o, h1⟩ := h1
        exact .inr ⟨o, h1⟩
      · exact .inl h1
    · cases h
  · cases h
/-- what stands under a key -/
theorem dGet_at : ∀ {ks ds : List D} {kv vs : List V} {xs : List ZD.Ent} (x : D), ks.map nkey = xs.map (·.1) → Vals vs (xs.map (·.2.2)) → RepL X.K X.w α H ds vs →
    (∀ d, dGet ks ds x = some d → ∃ v u, ZD.getN xs (nkey x) = some u ∧ RelV v u ∧ RepD X.K X.w α H d v) ∧ (dGet ks ds x = none → ZD.getN xs (nkey x) = none)
  | [], ds, kv, vs, [], x, e, q, r => by
    refine ⟨fun d h => ?_, fun _ => rfl⟩
    unfold dGet at h
    cases h
  | [], ds, kv, vs, _ :: _, x, e, q, r => by cases e
  | _ :: _, ds, kv, vs, [], x, e, q, r => by cases e
  | k :: ks, [], kv, vs, y :: ys, x, e, q, r => by
    unfold RepL at r
    rw [r] at q
    cases q
  | k :: ks, d :: ds, kv, vs, y :: ys, x, e, q, r => by
    unfold RepL at r
    obtain ⟨v, r', e1, h1, h2⟩ := r
    rw [e1, List.map_cons] at q
    rw [List.map_cons, List.map_cons] at e
    injection e with e2 e3
    cases q with
    | cons q1 q2 =>
      obtain ⟨g1, g2⟩ := dGet_at (kv := kv) x e3 q2 h2
      unfold dGet keyEq
      have eg : ZD.getN (y :: ys) (nkey x) = if y.1 = nkey x then some y.2.2 else ZD.getN ys (nkey x) := by
        unfold ZD.getN
        rw [List.find?_cons]
        by_cases c : y.1 = nkey x
        · rw [decide_eq_true c, if_pos c]; rfl
        · rw [decide_eq_false c, if_neg c]
      rw [eg, ← e2]
      by_cases c : nkey k = nkey x
      · rw [if_pos c, if_pos (decide_eq_true c)]
        refine ⟨fun d' h => ?_, fun h => by cases h⟩
        cases h
        exact ⟨v, _, rfl, q1, h1⟩
      · rw [if_neg c, if_neg (by rw [decide_eq_false c]; exact Bool.false_ne_true)]
        exact ⟨g1, g2⟩
end
end Z
set_option Elab.async false
set_option linter.all false
set_option maxRecDepth 100000
set_option maxHeartbeats 1000000
/-! Z6: dicts by rules; subscripts; slices; in. -/
namespace Z
open PySem L2 PyProof.Rows
section
variable {w : World} {xs : List ZD.Ent} {k : NestedKey} {a v : Value}
theorem putN_cons {y : ZD.Ent} (hd : ((y :: xs).map (·.1)).Nodup) : ZD.putN (y :: xs) k a v = if y.1 = k then (y.1, y.2.1, v) :: xs else y :: ZD.putN xs k a v := by
  rw [List.map_cons, List.nodup_cons] at hd
  have eg : ZD.getN (y :: xs) k = if y.1 = k then some y.2.2 else ZD.getN xs k := by
    unfold ZD.getN
    rw [List.find?_cons]
    by_cases c : y.1 = k
    · rw [decide_eq_true c, if_pos c]; rfl
    · rw [decide_eq_false c, if_neg c]
  by_cases c : y.1 = k
  · rw [if_pos c] at eg ⊢
    unfold ZD.putN
    rw [eg, if_pos (show (some y.2.2).isSome = true from rfl), List.map_cons, if_pos c]
    congr 1
    rw [List.map_congr_left (g := id), List.map_id]
    intro z hz
    exact if_neg fun e => hd.1 (by rw [c, ← e]; exact List.mem_map.mpr ⟨z, hz, rfl⟩)
  · rw [if_neg c] at eg ⊢
    unfold ZD.putN
    rw [eg]
    split
    · rw [List.map_cons, if_neg c]
    · rfl
end
section
variable {X : Cx} {α : Al} {H : Hp}
theorem dPut_at : ∀ {ks ds : List D} {kv vs : List V} {xs : List ZD.Ent} {x z : D} {xv zv : V} {xu zu : Value}, (xs.map (·.1)).Nodup → Ents ks kv vs xs → RepL X.K X.w α H ks kv → RepL X.K X.w α H ds vs →
    isKey 8 x = true → RepD X.K X.w α H x xv → RelV xv xu → RepD X.K X.w α H z zv → RelV zv zu →
    ∃ kv' vs', Ents (dPut ks ds x z).1 kv' vs' (ZD.putN xs (nkey x) xu zu) ∧ RepL X.K X.w α H (dPut ks ds x z).1 kv' ∧ RepL X.K X.w α H (dPut ks ds x z).2 vs'
  | [], ds, kv, vs, [], x, z, xv, zv, xu, zu, hn, e, rk, rv, hk, h1, q1, h2, q2 => by
    have e1 : dPut [] ds x z = ([x], [z]) := by cases ds <;> rfl
    rw [e1]
    refine ⟨[xv], [zv], ⟨by rw [List.all_cons, hk]; rfl, rfl, .cons q1 .nil, .cons q2 .nil⟩, RepL.one h1, RepL.one h2⟩
  | [], ds, kv, vs, _ :: _, x, z, xv, zv, xu, zu, hn, e, rk, rv, hk, h1, q1, h2, q2 => by
    have := e.2.1
    cases this
  | _ :: _, ds, kv, vs, [], x, z, xv, zv, xu, zu, hn, e, rk, rv, hk, h1, q1, h2, q2 => by
    have := e.2.1
    cases this
  | k :: ks, [], kv, vs, y :: ys, x, z, xv, zv, xu, zu, hn, e, rk, rv, hk, h1, q1, h2, q2 => by
    unfold RepL at rv
    have := e.2.2.2
    rw [rv] at this
    cases this
  | k :: ks, d :: ds, kv, vs, y :: ys, x, z, xv, zv, xu, zu, hn, e, rk, rv, hk, h1, q1, h2, q2 => by
    obtain ⟨e1, e2, e3, e4⟩ := e
    unfold RepL at rk rv
    obtain ⟨a1, r1, f1, g1, l1⟩ := rk
    obtain ⟨b1, r2, f2, g2, l2⟩ := rv
    rw [f1, List.map_cons] at e3
    rw [f2, List.map_cons] at e4
    rw [List.map_cons, List.map_cons] at e2
    injection e2 with e5 e6
    rw [List.all_cons, Bool.and_eq_true] at e1
    rw [putN_cons hn]
    unfold dPut keyEq
    cases e3 with
    | cons p1 p2 =>
      cases e4 with
      | cons p3 p4 =>
        rw [← e5]
        by_cases c : nkey k = nkey x
        · rw [if_pos (decide_eq_true c), if_pos c]
          exact ⟨a1 :: r1, zv :: r2, ⟨by rw [List.all_cons, e1.1, e1.2]; rfl, by rw [List.map_cons, List.map_cons, e6, e5], .cons p1 p2, .cons q2 p4⟩, .cons g1 l1, .cons h2 l2⟩
        · rw [if_neg (by rw [decide_eq_false c]; exact Bool.false_ne_true), if_neg c]
          rw [List.map_cons, List.nodup_cons] at hn
          obtain ⟨kv', vs', ⟨t1, t2, t3, t4⟩, t5, t6⟩ := dPut_at (ds := ds) (z := z) hn.2 ⟨e1.2, e6, p2, p4⟩ l1 l2 hk h1 q1 h2 q2
          exact ⟨a1 :: kv', b1 :: vs', ⟨by rw [List.all_cons, e1.1, t1]; rfl, by rw [List.map_cons, List.map_cons, t2, e5], .cons p1 t3, .cons p3 t4⟩, .cons g1 t5, .cons g2 t6⟩
theorem dPut_len (ks : List D) : ∀ (ds : List D) (x z : D), (dPut ks ds x z).1.length ≤ ks.length + 1 := by
  induction ks with
  | nil => intro ds x z; cases ds <;> simp [dPut]
  | cons k ks ih =>
    intro ds x z
    cases ds with
    | nil => simp [dPut]
    | cons d ds =>
      unfold dPut
      split
      · simp
      · have := ih ds x z
        simp only [List.length_cons]
        omega
theorem Ents.len {ks : List D} {kv vs : List V} {xs : List ZD.Ent} (e : Ents ks kv vs xs) : xs.length = ks.length := by
  have := congrArg List.length e.2.1
  rw [List.length_map, List.length_map] at this
  exact this.symm
end
section
variable {X : Cx} {E : XK}
/-! y in d, y not in d -/
def rInN (X : Cx) (neg : Bool) : R2 := fun y x H Q => ∃ α a ks ds kv vs xs k, x = .ref a ∧ DictAt X α H a ks ds kv vs xs ∧ isKey 8 k = true ∧ RepD X.K X.w α H k y ∧ Q (.bl (if neg = true then !(dGet ks ds k).isSome else (dGet ks ds k).isSome)) H
theorem get_some {α : Al} {H : Hp} {a : Addr} {ks ds : List D} {kv vs : List V} {xs : List ZD.Ent} (g : DictAt X α H a ks ds kv vs xs) (k : D) : (ZD.getN xs (nkey k)).isSome = (dGet ks ds k).isSome := by
  obtain ⟨h1, h2⟩ := dGet_at (kv := kv) k g.ent.2.1 g.ent.2.2.2 g.rv
  cases e : dGet ks ds k with
  | some d => obtain ⟨v, u, q, _, _⟩ := h1 d e; rw [q]; rfl
  | none => rw [h2 e]; rfl
theorem op_inN (hu : X.A.units + 64 < cLine) : OpR X (compareOp .In) (rInN X false) := by
  intro pins s σ H y x u v Q I ry rx h
  obtain ⟨α, a, ks, ds, kv, vs, xs, k, rfl, g, hk, r, q⟩ := h
  cases rx
  obtain ⟨dn, hs, hz⟩ := g.dictN I
  refine ZD.in_ok (by omega) (key_isN I hk r ry) hs dn fun tk => ?_
  rw [get_some g]
  exact ⟨.bl _, H, I.tok _, rfl, q⟩
theorem op_notInN (hu : X.A.units + 64 < cLine) : OpR X (compareOp .NotIn) (rInN X true) := by
  intro pins s σ H y x u v Q I ry rx h
  obtain ⟨α, a, ks, ds, kv, vs, xs, k, rfl, g, hk, r, q⟩ := h
  cases rx
  obtain ⟨dn, hs, hz⟩ := g.dictN I
  refine ZD.notIn_ok (by omega) (key_isN I hk r ry) hs dn fun tk => ?_
  rw [get_some g]
  exact ⟨.bl _, H, I.tok _, rfl, q⟩
/-! d[k] -/
def rItemN (X : Cx) : R2 := fun x y H Q => ∃ α a ks ds kv vs xs k d, x = .ref a ∧ DictAt X α H a ks ds kv vs xs ∧ isKey 8 k = true ∧ RepD X.K X.w α H k y ∧ dGet ks ds k = some d ∧ ∀ z, RepD X.K X.w α H d z → Q z H
theorem ix_dict (hu : X.A.units + 64 < cLine) : IxR X (rItemN X) := by
  intro value slice pins s σ H x y v u Q I rx ry h hs
  obtain ⟨α, a, ks, ds, kv, vs, xs, k, d, rfl, g, hk, r, hg, q⟩ := h
  cases rx
  obtain ⟨dn, hsy, hz⟩ := g.dictN I
  obtain ⟨z, zu, h1, h2, h3⟩ := (dGet_at (kv := kv) k g.ent.2.1 g.ent.2.2.2 g.rv).1 d hg
  exact subscriptTail_builtinR (x := zu) dn.typeIs slot_dict_getitem.lookup (ZD.item_ok (Q := fun r s' => r = zu ∧ EP X pins σ Q r s') (by omega) (key_isN I hk r ry) dn h1 fun tk => ⟨rfl, z, H, I.tok _, h2, q z h3⟩) hs
/-! d[k] = v -/
def rSetN (X : Cx) : TSet := fun o i v H Q => ∃ α a ks ds kv vs xs k d, o = .ref a ∧ H a = some (dHO X.w a xs) ∧ Ents ks kv vs xs ∧ RepL X.K X.w α H ks kv ∧ RepL X.K X.w α H ds vs ∧ isKey 8 k = true ∧ RepD X.K X.w α H k i ∧ RepD X.K X.w α H d v ∧ ks.length < sizeLine ∧
  ∀ kv' vs' xs', Ents (dPut ks ds k d).1 kv' vs' xs' → RepL X.K X.w α H (dPut ks ds k d).1 kv' → RepL X.K X.w α H (dPut ks ds k d).2 vs' → Q (upd H a (dHO X.w a xs'))
theorem dict_put {pins : List (Addr × Obj)} {σ : L2.St} {H : Hp} {s : Shared} {a : Addr} {ys : List ZD.Ent} {h' : Heap} {tk : Nat} (I : Inv X pins σ H s) {xs : List ZD.Ent} (ha : H a = some (dHO X.w a xs)) (hs : (a == sysModules) = false) (hz : ys.length ≤ sizeLine)
    (hm : ZD.DictN X.w h' a ys) (hb : Heap.SameBut a s.heap h') : Inv X pins σ (upd H a (dHO X.w a ys)) { s with heap := h', toks := tk } := by
  obtain ⟨o, es, ep, ho, hx, hd, he, _, hn⟩ := hm
  refine d_write I (by rw [ha]; exact True.intro) hb ⟨o, ho⟩ ?_
  refine ⟨⟨hz, hs, o, es, ep, ho, hx, hd, he, hn⟩, ⟨o, ho⟩, fun h1 h2 p st => ?_⟩
  obtain ⟨p1, p2, o', es', ep', q1, q2⟩ := p
  exact ⟨p1, p2, o', es', ep', st _ q1, q2⟩
theorem putN_len2 {xs : List ZD.Ent} {k : NestedKey} {a v : Value} (h : xs.length < sizeLine) : (ZD.putN xs k a v).length ≤ sizeLine := Nat.le_trans (ZD.putN_len a v) h
theorem set_dict (hu : X.A.units + 64 < cLine) : PSet X (rSetN X) := by
  intro pins s σ H o i v ov iv u Q I ro ri rv h
  obtain ⟨α, a, ks, ds, kv, vs, xs, k, d, rfl, ha, en, rk, rd, hk, rki, rdv, hl, q⟩ := h
  cases ro
  have g : DictAt X α H a ks ds kv vs xs := ⟨.inl ha, en, rk, rd⟩
  obtain ⟨dn, hs, hz⟩ := g.dictN I
  have hn : (xs.map (·.1)).Nodup := by obtain ⟨_, _, _, _, _, _, _, _, hn⟩ := dn; exact hn
  obtain ⟨kv', vs', t1, t2, t3⟩ := dPut_at hn en rk rd hk rki ri rdv rv
  refine ZD.put_ok (by omega) (key_isN I hk rki ri) dn hz fun h' tk hm hb => ?_
  exact ⟨_, dict_put I ha hs (putN_len2 (by rw [en.len]; exact hl)) hm hb, q kv' vs' _ t1 t2 t3⟩
/-! d.get(k), d.get(k, x), d.setdefault(k, x) -/
def tyDict (X : Cx) : V → Hp → Prop := fun x H => ∃ a xs, x = .ref a ∧ Rd H a (dHO X.w a xs)
theorem ty_dict : TyOk X "dict" (tyDict X) := by
  intro pins σ H s x v I r ty
  obtain ⟨a, xs, rfl, h⟩ := ty
  cases r
  obtain ⟨_, _, o, es, ep, ho, hx, hd, _⟩ := rd_dict I h
  refine ⟨⟨o, ho, hx.1⟩, fun b e => ?_⟩
  cases e
  exact ⟨o, ho, hx.2.1⟩
def rGet1N (X : Cx) : V → List V → Hp → VK → Prop := fun x ys H Q => ∃ α a ks ds kv vs xs k y, x = .ref a ∧ ys = [y] ∧ DictAt X α H a ks ds kv vs xs ∧ isKey 8 k = true ∧ RepD X.K X.w α H k y ∧
  (∀ d z, dGet ks ds k = some d → RepD X.K X.w α H d z → Q z H) ∧ (dGet ks ds k = none → Q .non H)
theorem mt_get1 (hu : X.A.units + 64 < cLine) : MtR X "dict.get" (rGet1N X) := by
  intro pins s σ H x ys v us Q I rx rys h
  obtain ⟨α, a, ks, ds, kv, vs, xs, k, y, rfl, rfl, g, hk, r, q1, q2⟩ := h
  cases rx
  obtain ⟨yu, rfl, ry⟩ := vals1 rys
  obtain ⟨dn, hs, hz⟩ := g.dictN I
  obtain ⟨g1, g2⟩ := dGet_at (kv := kv) k g.ent.2.1 g.ent.2.2.2 g.rv
  refine ZD.get1_ok (by omega) (key_isN I hk r ry) hs dn fun tk => ?_
  cases e : dGet ks ds k with
  | some d =>
    obtain ⟨z, zu, h1, h2, h3⟩ := g1 d e
    rw [h1]
    exact ⟨z, H, I.tok _, h2, q1 d z e h3⟩
  | none =>
    rw [g2 e]
    exact ⟨.non, H, I.tok _, rfl, q2 e⟩
def rGet2N (X : Cx) : V → List V → Hp → VK → Prop := fun x ys H Q => ∃ α a ks ds kv vs xs k y z, x = .ref a ∧ ys = [y, z] ∧ DictAt X α H a ks ds kv vs xs ∧ isKey 8 k = true ∧ RepD X.K X.w α H k y ∧
  (∀ d z, dGet ks ds k = some d → RepD X.K X.w α H d z → Q z H) ∧ (dGet ks ds k = none → Q z H)
theorem mt_get2 (hu : X.A.units + 64 < cLine) : MtR X "dict.get" (rGet2N X) := by
  intro pins s σ H x ys v us Q I rx rys h
  obtain ⟨α, a, ks, ds, kv, vs, xs, k, y, z, rfl, rfl, g, hk, r, q1, q2⟩ := h
  cases rx
  obtain ⟨yu, zu, rfl, ry, rz⟩ := vals2 rys
  obtain ⟨dn, hs, hz⟩ := g.dictN I
  obtain ⟨g1, g2⟩ := dGet_at (kv := kv) k g.ent.2.1 g.ent.2.2.2 g.rv
  refine ZD.get2_ok (by omega) (key_isN I hk r ry) hs dn fun tk => ?_
  cases e : dGet ks ds k with
  | some d =>
    obtain ⟨z, zu, h1, h2, h3⟩ := g1 d e
    rw [h1]
    exact ⟨z, H, I.tok _, h2, q1 d z e h3⟩
  | none =>
    rw [g2 e]
    exact ⟨z, H, I.tok _, rz, q2 e⟩
def rSetdN (X : Cx) : V → List V → Hp → VK → Prop := fun x ys H Q => ∃ α a ks ds kv vs xs k d y z, x = .ref a ∧ ys = [y, z] ∧ H a = some (dHO X.w a xs) ∧ Ents ks kv vs xs ∧ RepL X.K X.w α H ks kv ∧ RepL X.K X.w α H ds vs ∧ isKey 8 k = true ∧ RepD X.K X.w α H k y ∧ RepD X.K X.w α H d z ∧
  ks.length < sizeLine ∧ (∀ d z, dGet ks ds k = some d → RepD X.K X.w α H d z → Q z H) ∧
  (dGet ks ds k = none → ∀ kv' vs' xs', Ents (dPut ks ds k d).1 kv' vs' xs' → RepL X.K X.w α H (dPut ks ds k d).1 kv' → RepL X.K X.w α H (dPut ks ds k d).2 vs' → Q z (upd H a (dHO X.w a xs')))
theorem mt_setd (hu : X.A.units + 64 < cLine) : MtR X "dict.setdefault" (rSetdN X) := by
  intro pins s σ H x ys v us Q I rx rys h
  obtain ⟨α, a, ks, ds, kv, vs, xs, k, d, y, z, rfl, rfl, ha, en, rk, rd, hk, r, rdz, hl, q1, q2⟩ := h
  cases rx
  obtain ⟨yu, zu, rfl, ry, rz⟩ := vals2 rys
  have g : DictAt X α H a ks ds kv vs xs := ⟨.inl ha, en, rk, rd⟩
  obtain ⟨dn, hs, hz⟩ := g.dictN I
  have hn : (xs.map (·.1)).Nodup := by obtain ⟨_, _, _, _, _, _, _, _, hn⟩ := dn; exact hn
  obtain ⟨g1, g2⟩ := dGet_at (kv := kv) k g.ent.2.1 g.ent.2.2.2 g.rv
  refine ZD.setd_ok (by omega) (key_isN I hk r ry) hs dn hz (fun u tk hu => ?_) fun hno h' tk hm hb => ?_
  · cases e : dGet ks ds k with
    | some d' =>
      obtain ⟨z', zu', h1, h2, h3⟩ := g1 d' e
      rw [h1] at hu
      cases hu
      exact ⟨z', H, I.tok _, h2, q1 d' z' e h3⟩
    | none =>
      rw [g2 e] at hu
      cases hu
  · have e : dGet ks ds k = none := by
      cases e : dGet ks ds k with
      | none => rfl
      | some d' =>
        obtain ⟨z', zu', h1, h2, h3⟩ := g1 d' e
        rw [h1] at hno
        cases hno
    obtain ⟨kv', vs', t1, t2, t3⟩ := dPut_at hn en rk rd hk r ry rdz rz
    exact ⟨z, _, dict_put I ha hs (putN_len2 (by rw [en.len]; exact hl)) hm hb, rz, q2 e kv' vs' _ t1 t2 t3⟩
/-! {} -/
def tDNewN (X : Cx) : TE := fun _ H Q => ∀ p, H p = none → Q (.ref p) (upd H p (dHO X.w p []))
theorem pe_dnewN {pos : Pos} : PE X (.Dict [] [] pos) (tDNewN X) := ⟨fun pins s σ H Q I h =>
  wpAny_Dict_empty ⟨.ref s.heap.objs.size, _, I.laid (a := s.heap.objs.size) (o := dHO X.w s.heap.objs.size []) (t' := s.toks) (fun _ _ q => Heap.get?_push_of_some _ q) (Nat.le_refl _) (by
    have hb : (s.heap.objs.size == sysModules) = false := by
      have := I.big
      exact beq_eq_false_iff_ne.mpr (Nat.ne_of_gt this)
    have ho : (s.heap.push { cls := .type "dict", data := .dict #[] }).get? s.heap.objs.size = some { cls := .type "dict", data := .dict #[] } := Heap.get?_push_size _ rfl
    refine ⟨⟨Nat.zero_le _, hb, _, #[], 0, ho, ⟨rfl, rfl, rfl⟩, rfl, rfl, List.nodup_nil⟩, ⟨_, ho⟩, fun h1 h2 p st => ?_⟩
    obtain ⟨p1, p2, o', es', ep', q1, q2⟩ := p
    exact ⟨p1, p2, o', es', ep', st _ q1, q2⟩), rfl, h _ (I.hok.fresh (Nat.le_refl _))⟩⟩
end
end Z
set_option Elab.async false
set_option linter.all false
set_option maxRecDepth 100000
set_option maxHeartbeats 1000000
/-! Z7: subscripts, slices, in, as expressions. -/
namespace Z
open PySem L2
def opIx : D → D → M D := fun x y S => match x, y with
  | .tup ds, .int i => match atI ds i with
    | some d => .val d S
    | none => .stuck
  | .str z, .int i => if z.length ≤ sizeLine then (match atI z.cps.toList i with
    | some c => .val (.str ⟨#[c]⟩) S
    | none => .stuck) else .stuck
  | x, y => match seqL S x with
    | some ds => (match y with
      | .int i => (match atI ds i with
        | some d => .val d S
        | none => .stuck)
      | _ => .stuck)
    | none => match dictOf S x with
      | some (ks, ds) => if isKey 8 y = true then (match dGet ks ds y with
        | some d => .val d S
        | none => .stuck) else .stuck
      | none => .stuck
/-- a flat thing's value -/
def flV : D → Option V
  | .non => some .non
  | .bl b => some (.bl b)
  | .int i => some (.int i)
  | .str x => some (.str x)
  | _ => none
def flVs : List D → Option (List V)
  | [] => some []
  | d :: ds => match flV d, flVs ds with
    | some v, some vs => some (v :: vs)
    | _, _ => none
/-- whether x is among some -/
def inB (x : D) (ds : List D) (isList : Bool) : Option Bool := match flV x, flVs ds with
  | some v, some vs => some (inV v vs)
  | _, _ => if isList = true ∧ okD x = true ∧ okD (.lst ds) = true then some (ds.any fun z => eqD z x) else none
def opInB (x c : D) (S : Sto) : Option Bool := match c with
  | .tup ds => inB x ds false
  | .str z => (match x with
    | .str a => (match a.cps.toList with
      | [k] => some (decide (k ∈ z.cps.toList))
      | _ => none)
    | _ => none)
  | c => match seqL S c with
    | some ds => inB x ds true
    | none => match dictOf S c with
      | some (ks, ds) => if isKey 8 x = true then some (dGet ks ds x).isSome else none
      | none => none
def opIn : D → D → M D := fun x c S => match opInB x c S with
  | some b => .val (.bl b) S
  | none => .stuck
def opNotIn : D → D → M D := fun x c S => match opInB x c S with
  | some b => .val (.bl (!b)) S
  | none => .stuck
def cutL {β : Type} (xs : List β) (lo hi : Option Int) : List β := (xs.drop (HT.sIx xs.length 0 lo)).take (HT.sIx xs.length xs.length hi - HT.sIx xs.length 0 lo)
def opSl : D → Option Int → Option Int → M D := fun x lo hi S => match x with
  | .tup ds => .val (.tup (cutL ds lo hi)) S
  | .str z => if z.length ≤ sizeLine then .val (.str (cutS z lo hi)) S else .stuck
  | x => match seqL S x with
    | some ds => .val (.lst (cutL ds lo hi)) S
    | none => .stuck
@[simp] def oNone : Rho → M (Option Int) := fun _ S => .val none S
@[simp] def oInt : D → M (Option Int) := fun d S => match d with
  | .int i => .val (some i) S
  | _ => .stuck
@[simp] def oSome (f : Rho → M D) : Rho → M (Option Int) := fun ρ S => (f ρ S).bind oInt
@[simp] def eSl (f : Rho → M D) (lo hi : Rho → M (Option Int)) : Rho → M D := fun ρ S => (f ρ S).bind fun x S1 => (lo ρ S1).bind fun l S2 => (hi ρ S2).bind fun h S3 => opSl x l h S3
@[simp] def eRev (f : Rho → M D) : Rho → M D := fun ρ S => (f ρ S).bind fun x S1 => match seqL S1 x with
  | some ds => .val (.lst ds.reverse) S1
  | none => .stuck
section
variable {K : PySem.W.Frag} {w : World} {α : Al} {H : Hp} {S : Sto}
theorem atI_rep {ds : List D} {vs : List V} {i : Int} {d : D} (r : RepL K w α H ds vs) (h : atI ds i = some d) : ∃ v, atI vs i = some v ∧ RepD K w α H d v := by
  unfold atI at h ⊢
  rw [r.length]
  cases e : ixN ds.length i with
  | none => rw [e] at h; cases h
  | some j =>
    rw [e] at h
    exact r.get h
theorem flV_rep {d : D} {v u : V} (h : flV d = some u) (r : RepD K w α H d v) : v = u ∧ flatV v = true := by
  cases d with
  | non => cases h; rw [rep_non r]; exact ⟨rfl, rfl⟩
  | bl b => cases h; rw [rep_bl r]; exact ⟨rfl, rfl⟩
  | int i => cases h; rw [rep_int r]; exact ⟨rfl, rfl⟩
  | str x => cases h; rw [rep_str r]; exact ⟨rfl, rfl⟩
  | _ => cases h
theorem flVs_rep : ∀ {ds : List D} {vs us : List V}, flVs ds = some us → RepL K w α H ds vs → vs = us ∧ vs.all flatV = true
  | [], vs, us, h, r => by
    cases h
    unfold RepL at r
    rw [r]
    exact ⟨rfl, rfl⟩
  | d :: ds, vs, us, h, r => by
    unfold RepL at r
    obtain ⟨v, r', e, h1, h2⟩ := r
    unfold flVs at h
    split at h
    · rename_i x xs g1 g2
      cases h
      obtain ⟨q1, q2⟩ := flV_rep g1 h1
      obtain ⟨q3, q4⟩ := flVs_rep g2 h2
      rw [e, List.all_cons, q2, q4, ← q1, ← q3]
      exact ⟨rfl, rfl⟩
    · cases h
theorem cutL_rep {ds : List D} {vs : List V} (r : RepL K w α H ds vs) (lo hi : Option Int) : RepL K w α H (cutL ds lo hi) (cutV vs lo hi) := by
  unfold cutL cutV
  rw [r.length]
  exact (r.drop _).take _
theorem single {a : Str} {c : Nat} (h : a.cps.toList = [c]) : a = ⟨#[c]⟩ := by
  obtain ⟨⟨l⟩⟩ := a
  have e : l = [c] := h
  rw [e]
end
section
variable {X : Cx} {E : XK} {pos p2 p3 : Pos} {e e1 e2 : Expr} {lo hi : Option Expr} {f f1 f2 : Rho → M D} {fl fh : Rho → M (Option Int)}
def rIxZ (X : Cx) : R2 := fun x y H Q => rIx X.K x y H Q ∨ rItemN X x y H Q
theorem ix_z (hu : X.A.units + 64 < cLine) : IxR X (rIxZ X) := ix_seq.or (ix_dict hu)
theorem os_ix : OpS X E (rIxZ X) opIx := fun α S H d e v u Q rp r1 r2 q => by
  unfold opIx at q
  split at q
  · split at q
    · rename_i h
      obtain ⟨a, vs, ea, ha, la⟩ := rep_tup r1
      obtain ⟨z, hz, rz⟩ := atI_rep la h
      exact .inl (.inr (.inl ⟨a, vs, _, z, ea, rep_int r2, ha, hz, q.now rp rz⟩))
    · exact q.elim
  · split at q
    · rename_i hl
      split at q
      · rename_i h
        exact .inl (.inr (.inr ⟨_, _, _, rep_str r1, rep_int r2, hl, h, q.now rp (repS _)⟩))
      · exact q.elim
    · exact q.elim
  · split at q
    · rename_i ds hs
      split at q
      · split at q
        · rename_i h
          obtain ⟨a, vs, ea, ha, la⟩ := seqL_rep rp hs r1
          obtain ⟨z, hz, rz⟩ := atI_rep la h
          exact .inl (.inl ⟨a, vs, _, z, ea, rep_int r2, ha, hz, q.now rp rz⟩)
        · exact q.elim
      · exact q.elim
    · split at q
      · rename_i ks ds hd
        split at q
        · rename_i hk
          split at q
          · rename_i z hg
            obtain ⟨a, kv, vs, xs, ea, g⟩ := dictOf_at rp hd r1
            exact .inr ⟨α, a, ks, ds, kv, vs, xs, _, z, ea, g, hk, r2, hg, fun z' rz => q.now rp rz⟩
          · exact q.elim
        · exact q.elim
      · exact q.elim
theorem ze_ix (hu : X.A.units + 64 < cLine) (h1 : ZE X E e1 f1) (h2 : ZE X E e2 f2) (hs : PlainIx e2 := by intro _ _; rfl) : ZE X E (.Subscript e1 e2 pos) (eOp opIx f1 f2) :=
  PE.weak (pe_ix (ix_z hu) h1 h2 hs) fun σ H Q => two os_ix
/-! in -/
def rInZ (X : Cx) (neg : Bool) : R2 := fun x y H Q => rIn X.K neg x y H Q ∨ (if neg = true then rNotInD X.K x y H Q else rInD X.K x y H Q) ∨
  (∃ (c : Nat) (z : Str), x = .str ⟨#[c]⟩ ∧ y = .str z ∧ Q (.bl (if neg = true then !decide (c ∈ z.cps.toList) else decide (c ∈ z.cps.toList))) H) ∨ rInN X neg x y H Q
theorem op_inZ (hu : X.A.units + 65 < cLine) : OpR X (compareOp .In) (rInZ X false) := op_in_seq.or ((op_inD hu).or (op_in_sign.or (op_inN (by omega))))
theorem op_notInZ (hu : X.A.units + 65 < cLine) : OpR X (compareOp .NotIn) (rInZ X true) := op_notIn_seq.or ((op_notInD hu).or (op_notIn_sign.or (op_notInN (by omega))))
theorem inB_rep {α : Al} {H : Hp} {S : Sto} {x : D} {ds : List D} {il b neg : Bool} {v : V} {a : Addr} {vs : List V} {Q : VK} (h : inB x ds il = some b) (r1 : RepD X.K X.w α H x v) (l : RepL X.K X.w α H ds vs)
    (hl : if il = true then SqL X.K H a vs else SqT X.K H a vs) (q : Q (.bl (if neg = true then !b else b)) H) : rInZ X neg v (.ref a) H Q := by
  unfold inB at h
  split at h
  · rename_i v' vs' g1 g2
    cases h
    obtain ⟨e1, e2⟩ := flV_rep g1 r1
    obtain ⟨e3, e4⟩ := flVs_rep g2 l
    refine .inl ⟨a, vs, rfl, ?_, e2, e4, by rw [e1, e3]; exact q⟩
    cases il with
    | true => exact .inl hl
    | false => exact .inr hl
  · split at h
    · rename_i c
      cases h
      obtain ⟨c1, c2, c3⟩ := c
      rw [c1] at hl
      have l1 : PyData.canLay0 (toP x) = true := by
        unfold okD SeqAt.shaped at c2
        rw [Bool.and_eq_true] at c2
        exact c2.1
      have l2 : PyData.canLayAll0 (ds.map toP) = true := by
        have c3' := c3
        unfold okD SeqAt.shaped toP at c3'
        rw [Bool.and_eq_true] at c3'
        have c4 := c3'.1
        unfold PyData.canLay0 at c4
        exact c4
      have d1 : Dp X.K H v (toP x) := dp_of x v l1 r1
      have d2 : Dp X.K H (.ref a) (.list (ds.map toP)) := .lst hl (dps_of ds vs l2 l)
      have c3' : SeqAt.shaped (.list (ds.map toP)) = true := by
        unfold okD toP at c3
        exact c3
      have ea : (ds.map toP).any (fun z => PyData.eqv z (toP x)) = ds.any fun z => eqD z x := by
        rw [List.any_map]; rfl
      refine .inr (.inl ?_)
      cases neg with
      | true => exact ⟨_, _, d1, d2, c2, c3', by rw [ea]; exact q⟩
      | false => exact ⟨_, _, d1, d2, c2, c3', by rw [ea]; exact q⟩
    · cases h
theorem opInB_rep {α : Al} {H : Hp} {S : Sto} {x c : D} {b neg : Bool} {v u : V} {Q : VK} (rp : Rep X.K X.w α S H) (h : opInB x c S = some b) (r1 : RepD X.K X.w α H x v) (r2 : RepD X.K X.w α H c u) (q : Q (.bl (if neg = true then !b else b)) H) : rInZ X neg v u H Q := by
  unfold opInB at h
  split at h
  · obtain ⟨a, vs, ea, ha, la⟩ := rep_tup r2
    rw [ea]
    exact inB_rep (S := S) h r1 la ha q
  · split at h
    · split at h
      · rename_i k hk
        cases h
        refine .inr (.inr (.inl ⟨k, _, ?_, rep_str r2, q⟩))
        rw [rep_str r1, single hk]
      · cases h
    · cases h
  · split at h
    · rename_i ds hs
      obtain ⟨a, vs, ea, ha, la⟩ := seqL_rep rp hs r2
      rw [ea]
      exact inB_rep (S := S) h r1 la ha q
    · split at h
      · rename_i ks ds hd
        split at h
        · rename_i hk
          cases h
          obtain ⟨a, kv, vs, xs, ea, g⟩ := dictOf_at rp hd r2
          exact .inr (.inr (.inr ⟨α, a, ks, ds, kv, vs, xs, _, ea, g, hk, r1, q⟩))
        · cases h
      · cases h
theorem os_in : OpS X E (rInZ X false) opIn := fun α S H d e v u Q rp r1 r2 q => by
  unfold opIn at q
  split at q
  · rename_i h
    exact opInB_rep (neg := false) rp h r1 r2 (q.now rp (repB _))
  · exact q.elim
theorem os_notIn : OpS X E (rInZ X true) opNotIn := fun α S H d e v u Q rp r1 r2 q => by
  unfold opNotIn at q
  split at q
  · rename_i h
    exact opInB_rep (neg := true) rp h r1 r2 (q.now rp (repB _))
  · exact q.elim
/-! slices -/
def liftO (K : PySem.W.Frag) (w : World) (E : XK) (f : Rho → M (Option Int)) : TO := fun σ H Q => ∃ α S ρ, Rep K w α S H ∧ RepE K w α H ρ σ ∧ Post K w (fun _ _ b c => b = c) E α H (f ρ S) Q
abbrev ZO (X : Cx) (E : XK) (e : Option Expr) (f : Rho → M (Option Int)) : Prop := PO X e (liftO X.K X.w E f)
theorem PO.weak {e : Option Expr} {t t' : TO} (h : PO X e t) (k : ∀ σ H Q, t' σ H Q → t σ H Q) : PO X e t' := ⟨fun pins s σ H Q I q => h.run pins s σ H Q I (k σ H Q q)⟩
theorem zo_none : ZO X E none oNone := PO.weak po_none fun σ H Q ⟨α, S, ρ, rp, re, q⟩ => Post.now q rp rfl
theorem zo_some (h : ZE X E e f) : ZO X E (some e) (oSome f) := PO.weak (po_some h) fun σ H Q ⟨α, S, ρ, rp, re, q⟩ => by
  refine ⟨α, S, ρ, rp, re, Post.step q fun d S1 α1 H1 v _ st rp1 r1 q1 => ?_⟩
  unfold oInt at q1
  split at q1
  · exact ⟨_, rep_int r1, q1.now rp1 rfl⟩
  · exact q1.elim
def rSlZ (K : PySem.W.Frag) : V → Option Int → Option Int → Hp → VK → Prop := fun x lo hi H Q => rSlA K x lo hi H Q ∨ rSlS x lo hi H Q ∨ rSlL K x lo hi H Q
theorem sl_z : SlR X (rSlZ X.K) := sl_tupA.or (SlR.or sl_str sl_list)
theorem sIx_full {n : Nat} {lo hi : Option Int} {β : Type} {xs : List β} (hn : xs.length = n) (h : HT.sIx n 0 lo = 0 ∧ HT.sIx n n hi = n) : cutL xs lo hi = xs := by
  subst hn
  unfold cutL
  rw [h.1, h.2, List.drop_zero, Nat.sub_zero, List.take_length]
theorem ze_sl (h1 : ZE X E e f) (h2 : ZO X E lo fl) (h3 : ZO X E hi fh) : ZE X E (.Subscript e (.Slice lo hi none p2) pos) (eSl f fl fh) := PE.weak (pe_slice sl_z h1 h2 h3) fun σ H Q ⟨α, S, ρ, rp, re, q⟩ => by
  refine ⟨α, S, ρ, rp, re, Post.step q fun d S1 α1 H1 v _ st rp1 r1 q1 => ?_⟩
  refine ⟨α1, S1, ρ, rp1, re.mono st, Post.step q1 fun l S2 α2 H2 l' _ st2 rp2 r2 q2 => ?_⟩
  refine ⟨α2, S2, ρ, rp2, (re.mono st).mono st2, Post.step q2 fun h S3 α3 H3 h' _ st3 rp3 r3 q3 => ?_⟩
  subst r2 r3
  have r1' := repD_mono (st2.trans st3) d v r1
  unfold opSl at q3
  split at q3
  · rename_i ds
    obtain ⟨a, vs, ea, ha, la⟩ := rep_tup r1'
    refine .inl ⟨a, vs, ea, ha, fun hw => ?_, fun hw p hp => ?_⟩
    · rw [la.length] at hw
      rw [sIx_full rfl hw] at q3
      rw [ea] at r1'
      exact q3.now rp3 r1'
    · exact post_tup rp3 (cutL_rep la _ _) q3 hp
  · split at q3
    · rename_i hl
      exact .inr (.inl ⟨_, rep_str r1', hl, q3.now rp3 (repS _)⟩)
    · exact q3.elim
  · split at q3
    · rename_i ds hs
      obtain ⟨a, vs, ea, ha, la⟩ := seqL_rep rp3 hs r1'
      exact .inr (.inr ⟨a, vs, ea, ha, fun p hp => post_lst rp3 (cutL_rep la _ _) q3 hp⟩)
    · exact q3.elim
theorem RepL.reverse {K : PySem.W.Frag} {w : World} {α : Al} {H : Hp} : ∀ {ds : List D} {vs : List V}, RepL K w α H ds vs → RepL K w α H ds.reverse vs.reverse
  | [], vs, h => by unfold RepL at h; rw [h]; exact .nil
  | d :: ds, vs, h => by
    unfold RepL at h
    obtain ⟨v, r, e, h1, h2⟩ := h
    rw [e, List.reverse_cons, List.reverse_cons]
    exact (RepL.reverse h2).append (.one h1)
theorem ze_rev {k : Nat} {q1 q2 q3 : Pos} (h1 : ZE X E e f) : ZE X E (.Subscript e (.Slice none none (some (.UnaryOp .USub (.Constant (.int 1) k q1) q2)) q3) pos) (eRev f) := PE.weak (pe_revL h1) fun σ H Q ⟨α, S, ρ, rp, re, q⟩ => by
  refine ⟨α, S, ρ, rp, re, Post.step q fun d S1 α1 H1 v _ st rp1 r1 q1 => ?_⟩
  split at q1
  · rename_i ds hs
    obtain ⟨a, vs, ea, ha, la⟩ := seqL_rep rp1 hs r1
    exact ⟨a, vs, ea, ha, fun p hp => post_lst rp1 la.reverse q1 hp⟩
  · exact q1.elim
end
end Z
set_option Elab.async false
set_option linter.all false
set_option maxRecDepth 100000
set_option maxHeartbeats 1000000
/-! Z8: statements. -/
namespace Z
open PySem L2
inductive Fl where
  | nx (ρ : Rho) | ret (d : D) | brk (ρ : Rho) | cont (ρ : Rho)
def FlP (K : PySem.W.Frag) (w : World) (D' : Ends) (α : Al) (H : Hp) (f : Fl) (σ : Unit) : Prop := True
/-- what is wanted behind a statement -/
def PostS (K : PySem.W.Frag) (w : World) (E : XK) (α : Al) (H : Hp) (o : Out Fl) (Q : Ends) : Prop := match o with
  | .val (.nx ρ) S => ∀ α' H' σ', Stp α H α' H' → Rep K w α' S H' → RepE K w α' H' ρ σ' → Q.nx σ' H'
  | .val (.ret d) S => ∀ α' H' v, Stp α H α' H' → Rep K w α' S H' → RepD K w α' H' d v → Q.rt v H'
  | .val (.brk ρ) S => ∀ α' H' σ', Stp α H α' H' → Rep K w α' S H' → RepE K w α' H' ρ σ' → Q.bk σ' H'
  | .val (.cont ρ) S => ∀ α' H' σ', Stp α H α' H' → Rep K w α' S H' → RepE K w α' H' ρ σ' → Q.ct σ' H'
  | .exc c p S' => ∀ α' H' (dd : Addr) (v : V), Stp α H α' H' → Rep K w α' S' H' → H dd = none → H' dd = some (.xd [("what", v)]) → RepD K w α' H' p v → E (.ref (He.ga K c)) (some dd) H'
  | .stuck => False
def liftS (K : PySem.W.Frag) (w : World) (E : XK) (f : Rho → M Fl) : TS := fun Q σ H => ∃ α S ρ, Rep K w α S H ∧ RepE K w α H ρ σ ∧ PostS K w E α H (f ρ S) Q
section
variable {K : PySem.W.Frag} {w : World} {α α1 : Al} {H H1 : Hp} {S : Sto} {E : XK} {Q : Ends}
theorem PostS.mono {o : Out Fl} (s : Stp α H α1 H1) (h : PostS K w E α H o Q) : PostS K w E α1 H1 o Q := by
  cases o with
  | val f S' => cases f <;> exact fun α' H' v st => h α' H' v (s.trans st)
  | exc c p S' =>
    refine fun α' H' dd v st rp hn => h α' H' dd v (s.trans st) rp ?_
    cases q : H dd with
    | none => rfl
    | some u => exact absurd hn (s.dom dd (by rw [q]; exact fun e => nomatch e))
  | stuck => exact h
/-- a part runs ahead -/
theorem PostS.step {δ ε : Type} {R1 : Al → Hp → δ → ε → Prop} {Q1 : ε → Hp → Prop} {m : Out δ} {k : δ → Sto → Out Fl} (h : PostS K w E α H (m.bind k) Q)
    (hk : ∀ d S1 α1 H1 x, m = .val d S1 → Stp α H α1 H1 → Rep K w α1 S1 H1 → R1 α1 H1 d x → PostS K w E α1 H1 (k d S1) Q → Q1 x H1) : Post K w R1 E α H m Q1 := by
  cases m with
  | val d S1 => exact fun α1 H1 x st rp r => hk d S1 α1 H1 x rfl st rp r (PostS.mono st h)
  | exc c p S' => exact h
  | stuck => exact h
/-- a statement runs ahead -/
theorem PostS.seq {m : Out Fl} {k : Fl → Sto → Out Fl} {Q1 : Ends} (h : PostS K w E α H (m.bind k) Q)
    (h1 : ∀ ρ S1 α1 H1 σ, Stp α H α1 H1 → Rep K w α1 S1 H1 → RepE K w α1 H1 ρ σ → PostS K w E α1 H1 (k (.nx ρ) S1) Q → Q1.nx σ H1)
    (h2 : ∀ d S1 α1 H1 v, Stp α H α1 H1 → Rep K w α1 S1 H1 → RepD K w α1 H1 d v → PostS K w E α1 H1 (k (.ret d) S1) Q → Q1.rt v H1)
    (h3 : ∀ ρ S1 α1 H1 σ, Stp α H α1 H1 → Rep K w α1 S1 H1 → RepE K w α1 H1 ρ σ → PostS K w E α1 H1 (k (.brk ρ) S1) Q → Q1.bk σ H1)
    (h4 : ∀ ρ S1 α1 H1 σ, Stp α H α1 H1 → Rep K w α1 S1 H1 → RepE K w α1 H1 ρ σ → PostS K w E α1 H1 (k (.cont ρ) S1) Q → Q1.ct σ H1) : PostS K w E α H m Q1 := by
  cases m with
  | val f S1 =>
    cases f with
    | nx ρ => exact fun α1 H1 x st rp r => h1 ρ S1 α1 H1 x st rp r (PostS.mono st h)
    | ret d => exact fun α1 H1 x st rp r => h2 d S1 α1 H1 x st rp r (PostS.mono st h)
    | brk ρ => exact fun α1 H1 x st rp r => h3 ρ S1 α1 H1 x st rp r (PostS.mono st h)
    | cont ρ => exact fun α1 H1 x st rp r => h4 ρ S1 α1 H1 x st rp r (PostS.mono st h)
  | exc c p S' => exact h
  | stuck => exact h
theorem PostS.nx {ρ : Rho} {σ : St} (h : PostS K w E α H (.val (.nx ρ) S) Q) (rp : Rep K w α S H) (re : RepE K w α H ρ σ) : Q.nx σ H := h α H σ Stp.refl rp re
theorem PostS.bk {ρ : Rho} {σ : St} (h : PostS K w E α H (.val (.brk ρ) S) Q) (rp : Rep K w α S H) (re : RepE K w α H ρ σ) : Q.bk σ H := h α H σ Stp.refl rp re
theorem PostS.ct {ρ : Rho} {σ : St} (h : PostS K w E α H (.val (.cont ρ) S) Q) (rp : Rep K w α S H) (re : RepE K w α H ρ σ) : Q.ct σ H := h α H σ Stp.refl rp re
theorem PostS.rt {d : D} {v : V} (h : PostS K w E α H (.val (.ret d) S) Q) (rp : Rep K w α S H) (r : RepD K w α H d v) : Q.rt v H := h α H v Stp.refl rp r
end
theorem PS.weak {X : Cx} {e : Stmt} {t t' : TS} (h : PS X e t) (k : ∀ Q σ H, t' Q σ H → t Q σ H) : PS X e t' := ⟨fun pins s σ H Q I q => h.run pins s σ H Q I (k Q σ H q)⟩
theorem PSs.weak {X : Cx} {e : List Stmt} {t t' : TS} (h : PSs X e t) (k : ∀ Q σ H, t' Q σ H → t Q σ H) : PSs X e t' := ⟨fun pins s σ H Q I q => h.run pins s σ H Q I (k Q σ H q)⟩
abbrev ZS (X : Cx) (E : XK) (e : Stmt) (f : Rho → M Fl) : Prop := PS X e (liftS X.K X.w E f)
abbrev ZSs (X : Cx) (E : XK) (e : List Stmt) (f : Rho → M Fl) : Prop := PSs X e (liftS X.K X.w E f)
/-! targets -/
def liftG (K : PySem.W.Frag) (w : World) (E : XK) (g : D → Rho → M Rho) : TG := fun v σ H Q => ∃ α S ρ d, Rep K w α S H ∧ RepE K w α H ρ σ ∧ RepD K w α H d v ∧ Post K w (RepE K w) E α H (g d ρ S) Q
def liftGs (K : PySem.W.Frag) (w : World) (E : XK) (g : List D → Rho → M Rho) : TGs := fun vs σ H Q => ∃ α S ρ ds, Rep K w α S H ∧ RepE K w α H ρ σ ∧ RepL K w α H ds vs ∧ Post K w (RepE K w) E α H (g ds ρ S) Q
theorem PG.weak {X : Cx} {e : Expr} {t t' : TG} (h : PG X e t) (k : ∀ v σ H Q, t' v σ H Q → t v σ H Q) : PG X e t' := ⟨fun pins s σ H v u Q I r q => h.run pins s σ H v u Q I r (k v σ H Q q)⟩
theorem PGs.weak {X : Cx} {e : List Expr} {t t' : TGs} (h : PGs X e t) (k : ∀ v σ H Q, t' v σ H Q → t v σ H Q) : PGs X e t' := ⟨fun pins s σ H v u Q I r q => h.run pins s σ H v u Q I r (k v σ H Q q)⟩
abbrev ZG (X : Cx) (E : XK) (e : Expr) (g : D → Rho → M Rho) : Prop := PG X e (liftG X.K X.w E g)
abbrev ZGs (X : Cx) (E : XK) (e : List Expr) (g : List D → Rho → M Rho) : Prop := PGs X e (liftGs X.K X.w E g)
@[simp] def tName (i : Nat) : D → Rho → M Rho := fun d ρ S => .val (ρ.set i (some d)) S
@[simp] def tsNil : List D → Rho → M Rho := fun ds ρ S => match ds with
  | [] => .val ρ S
  | _ => .stuck
@[simp] def tsCons (g : D → Rho → M Rho) (gs : List D → Rho → M Rho) : List D → Rho → M Rho := fun ds ρ S => match ds with
  | d :: r => (g d ρ S).bind fun ρ1 S1 => gs r ρ1 S1
  | [] => .stuck
/-- (a, b, ..) = a tuple, a list of so many -/
@[simp] def tTupZ (n : Nat) (gs : List D → Rho → M Rho) : D → Rho → M Rho := fun d ρ S => match d with
  | .tup ds => if ds.length = n then gs ds ρ S else .stuck
  | d => match seqL S d with
    | some ds => if ds.length = n then gs ds ρ S else .stuck
    | none => .stuck
section
variable {K : PySem.W.Frag} {w : World} {α : Al} {H : Hp}
theorem RepE.set {ρ : Rho} {σ : St} {d : D} {v : V} (i : Nat) (re : RepE K w α H ρ σ) (r : RepD K w α H d v) : RepE K w α H (ρ.set i (some d)) (σ.set i (some v)) := by
  refine ⟨by rw [List.length_set, List.length_set]; exact re.len, fun j e h => ?_⟩
  by_cases c : i = j
  · subst c
    by_cases hl : i < ρ.length
    · rw [List.getElem?_set_self hl] at h
      cases h
      exact ⟨v, List.getElem?_set_self (by rw [← re.len]; exact hl), r⟩
    · rw [List.getElem?_eq_none (by rw [List.length_set]; omega)] at h
      cases h
  · rw [List.getElem?_set_ne c] at h ⊢
    exact re.at_ j e h
theorem RepE.unset {ρ : Rho} {σ : St} (i : Nat) (re : RepE K w α H ρ σ) : RepE K w α H (ρ.set i none) (σ.set i none) := by
  refine ⟨by rw [List.length_set, List.length_set]; exact re.len, fun j e h => ?_⟩
  by_cases c : i = j
  · subst c
    by_cases hl : i < ρ.length
    · rw [List.getElem?_set_self hl] at h
      cases h
    · rw [List.getElem?_eq_none (by rw [List.length_set]; omega)] at h
      cases h
  · rw [List.getElem?_set_ne c] at h ⊢
    exact re.at_ j e h
end
section
variable {X : Cx} {E : XK} {pos p1 : Pos} {e e1 e2 tg : Expr} {es : List Expr} {f f1 f2 : Rho → M D} {g : D → Rho → M Rho} {gs : List D → Rho → M Rho} {st : Stmt} {sts a b : List Stmt} {s1 s2 : Rho → M Fl} {t : Rho → M Bool}
theorem zg_name {i : Nat} {x : Str} (h : PG X (.Name x pos) (L2.gName i)) : ZG X E (.Name x pos) (tName i) := PG.weak h fun v σ H Q ⟨α, S, ρ, d, rp, re, r, q⟩ => Post.now q rp (re.set i r)
theorem zgs_nil : ZGs X E [] tsNil := PGs.weak pgs_nil fun vs σ H Q ⟨α, S, ρ, ds, rp, re, r, q⟩ => by
  cases ds with
  | nil =>
    unfold RepL at r
    exact ⟨r, Post.now q rp re⟩
  | cons d r' => exact q.elim
theorem zgs_cons (h1 : ZG X E e g) (h2 : ZGs X E es gs) (hs : (assignEach (e :: es) X.env).map (·.2) = assign e X.env :: (assignEach es X.env).map (·.2) := by rfl) : ZGs X E (e :: es) (tsCons g gs) :=
  PGs.weak (pgs_cons h1 h2 hs) fun vs σ H Q ⟨α, S, ρ, ds, rp, re, r, q⟩ => by
    cases ds with
    | nil => exact q.elim
    | cons d ds =>
      unfold RepL at r
      obtain ⟨v, r', e, r1, r2⟩ := r
      refine ⟨v, r', e, α, S, ρ, d, rp, re, r1, Post.step q fun ρ1 S1 α1 H1 σ1 _ st rp1 re1 q1 => ?_⟩
      exact ⟨α1, S1, ρ1, ds, rp1, re1, repL_mono st _ _ r2, q1⟩
theorem PG.or {t t' : TG} (h : PG X e t) (h' : PG X e t') : PG X e (fun v σ H Q => t v σ H Q ∨ t' v σ H Q) := ⟨fun pins s σ H v u Q I r q => by
  rcases q with q | q
  · exact h.run pins s σ H v u Q I r q
  · exact h'.run pins s σ H v u Q I r q⟩
theorem zg_tup {k n : Nat} (hc : X.calm = true) (h : ZGs X E es gs) (hn : (assignEach es X.env).length = n := by rfl) (hst : (assignEach es X.env).findIdx? (·.1) = none := by rfl) : ZG X E (.Tuple es k pos) (tTupZ n gs) :=
  PG.weak (PG.or (pg_tup hc h hn hst) (pg_unl hc h hn hst)) fun v σ H Q ⟨α, S, ρ, d, rp, re, r, q⟩ => by
    unfold tTupZ at q
    split at q
    · rename_i ds
      split at q
      · rename_i hl
        obtain ⟨a, vs, ea, ha, la⟩ := rep_tup r
        exact .inl ⟨a, vs, ea, ha, by rw [la.length]; exact hl, α, S, ρ, ds, rp, re, la, q⟩
      · exact q.elim
    · split at q
      · rename_i ds hs
        split at q
        · rename_i hl
          obtain ⟨a, vs, ea, ha, la⟩ := seqL_rep rp hs r
          exact .inr ⟨a, vs, ea, ha, by rw [la.length]; exact hl, α, S, ρ, ds, rp, re, la, q⟩
        · exact q.elim
      · exact q.elim
/-! o[i] = v: cells alone -/
def opSet : D → D → D → M Unit := fun o i v S => match o with
  | .ref n => (match S[n]? with
    | some (.lst ds) => (match i with
      | .int k => (match ixN ds.length k with
        | some j => .val () (S.set n (.lst (ds.set j v)))
        | none => .stuck)
      | _ => .stuck)
    | some (.dic false ks ds) => if isKey 8 i = true ∧ ks.length < sizeLine then .val () (S.set n (.dic false (dPut ks ds i v).1 (dPut ks ds i v).2)) else .stuck
    | _ => .stuck)
  | _ => .stuck
@[simp] def tSub (fo fi : Rho → M D) : D → Rho → M Rho := fun d ρ S => (fo ρ S).bind fun o S1 => (fi ρ S1).bind fun i S2 => (opSet o i d S2).bind fun _ S3 => .val ρ S3
def rSetZ (X : Cx) : TSet := fun o i v H Q => rSetL o i v H Q ∨ rSetN X o i v H Q
theorem set_z (hu : X.A.units + 64 < cLine) : PSet X (rSetZ X) := by
  intro pins s σ H o i v ov iv u Q I ro ri rv q
  rcases q with q | q
  · exact set_list pins s σ H o i v ov iv u Q I ro ri rv q
  · exact set_dict hu pins s σ H o i v ov iv u Q I ro ri rv q
theorem opSet_rep {α : Al} {S : Sto} {H : Hp} {o i d : D} {x y v : V} {Q : Hp → Prop} {k : Unit → Sto → Out Rho} {ρ : Rho} (rp : Rep X.K X.w α S H) (ro : RepD X.K X.w α H o x) (ri : RepD X.K X.w α H i y) (r : RepD X.K X.w α H d v)
    (q : ∃ S', opSet o i d S = .val () S' ∧ ∀ H', Stp α H α H' → Rep X.K X.w α S' H' → Q H') : rSetZ X x y v H Q := by
  obtain ⟨S', e, q⟩ := q
  unfold opSet at e
  split at e
  · rename_i n
    unfold RepD at ro
    obtain ⟨a, ea, ha⟩ := ro
    split at e
    · rename_i ds hn
      split at e
      · rename_i k
        split at e
        · rename_i j hj
          cases e
          obtain ⟨vs, h1, h2⟩ := rp.cell n _ a hn ha
          refine .inl ⟨a, vs, k, j, ea, rep_int ri, h1, by rw [h2.length]; exact hj, q _ (stp_set rp ha) (rp.setCell ha ?_)⟩
          exact ⟨_, upd_same, (repL_mono (stp_set rp ha) _ _ h2).set j (repD_mono (stp_set rp ha) d v r)⟩
        · cases e
      · cases e
    · rename_i ks ds hn
      split at e
      · rename_i c
        cases e
        obtain ⟨kv, vs, xs, h1, h2, h3, h4⟩ := rp.cell n _ a hn ha
        have h1 : H a = some (dHO X.w a xs) := by simpa using h1
        refine .inr ⟨α, a, ks, ds, kv, vs, xs, i, d, ea, h1, h2, h3, h4, c.1, ri, r, c.2, fun kv' vs' xs' en rk rv => q _ (stp_set rp ha) (rp.setCell ha ?_)⟩
        refine ⟨kv', vs', xs', ?_, en, repL_mono (stp_set rp ha) _ _ rk, repL_mono (stp_set rp ha) _ _ rv⟩
        simp only [Bool.false_eq_true, if_false]
        exact upd_same
      · cases e
    · cases e
  · cases e
theorem zg_sub (hu : X.A.units + 64 < cLine) (h1 : ZE X E e1 f1) (h2 : ZE X E e2 f2) (ha : ∀ v, assign (.Subscript e1 e2 pos) X.env v = (do
      let ov ← holding [v] (eval e1 X.env)
      let iv ← holding [v, ov] (eval e2 X.env)
      standAt pos
      holding [v, ov, iv] (setItem ov iv v)
      release [v, ov, iv] []) := by intro _; rfl) : ZG X E (.Subscript e1 e2 pos) (tSub f1 f2) := PG.weak (pg_sub h1 h2 (set_z hu) ha) fun v σ H Q ⟨α, S, ρ, d, rp, re, r, q⟩ => by
  refine ⟨α, S, ρ, rp, re, Post.step q fun o S1 α1 H1 x _ st rp1 r1 q1 => ?_⟩
  refine ⟨α1, S1, ρ, rp1, re.mono st, Post.step q1 fun i S2 α2 H2 y _ st2 rp2 r2 q2 => ?_⟩
  refine opSet_rep (k := fun _ S => .val ρ S) (ρ := ρ) rp2 (repD_mono st2 _ _ r1) r2 (repD_mono (st.trans st2) _ _ r) ?_
  cases e : opSet o i d S2 with
  | val u S' =>
    rw [e] at q2
    refine ⟨S', rfl, fun H' st3 rp3 => ?_⟩
    exact q2 α2 H' σ st3 rp3 (((re.mono st).mono st2).mono st3)
  | exc c p S' =>
    unfold opSet at e
    split at e
    · split at e
      · split at e
        · split at e <;> cases e
        · cases e
      · split at e <;> cases e
      · cases e
    · cases e
  | stuck => rw [e] at q2; exact q2.elim
/-! statements -/
@[simp] def sSkip : Rho → M Fl := fun ρ S => .val (.nx ρ) S
@[simp] def sSeq (a b : Rho → M Fl) : Rho → M Fl := fun ρ S => (a ρ S).bind fun fl S1 => match fl with
  | .nx ρ1 => b ρ1 S1
  | fl => .val fl S1
@[simp] def sAsg (f : Rho → M D) (g : D → Rho → M Rho) : Rho → M Fl := fun ρ S => (f ρ S).bind fun d S1 => (g d ρ S1).bind fun ρ1 S2 => .val (.nx ρ1) S2
@[simp] def sDrop (f : Rho → M D) : Rho → M Fl := fun ρ S => (f ρ S).bind fun _ S1 => .val (.nx ρ) S1
@[simp] def sRet (f : Rho → M D) : Rho → M Fl := fun ρ S => (f ρ S).bind fun d S1 => .val (.ret d) S1
@[simp] def sRetN : Rho → M Fl := fun ρ S => .val (.ret .non) S
@[simp] def sIf (c : Rho → M Bool) (a b : Rho → M Fl) : Rho → M Fl := fun ρ S => (c ρ S).bind fun q S1 => if q = true then a ρ S1 else b ρ S1
@[simp] def sBrk : Rho → M Fl := fun ρ S => .val (.brk ρ) S
@[simp] def sCont : Rho → M Fl := fun ρ S => .val (.cont ρ) S
@[simp] def sPar2 (i j : Nat) (fs : Rho → M (List D)) : Rho → M Fl := fun ρ S => (fs ρ S).bind fun ds S1 => match ds with
  | [x, y] => .val (.nx ((ρ.set i (some x)).set j (some y))) S1
  | _ => .stuck
@[simp] def sPar3 (i j l : Nat) (fs : Rho → M (List D)) : Rho → M Fl := fun ρ S => (fs ρ S).bind fun ds S1 => match ds with
  | [x, y, z] => .val (.nx (((ρ.set i (some x)).set j (some y)).set l (some z))) S1
  | _ => .stuck
/-- name op= e -/
@[simp] def sAug (i : Nat) (op : D → D → M D) (f : Rho → M D) : Rho → M Fl := fun ρ S => match ρ[i]? with
  | some (some x) => (f ρ S).bind fun y S1 => (op x y S1).bind fun z S2 => .val (.nx (ρ.set i (some z))) S2
  | _ => .stuck
theorem zss_nil : ZSs X E [] sSkip := PSs.weak pss_nil fun Q σ H ⟨α, S, ρ, rp, re, q⟩ => q.nx rp re
theorem zss_cons (h1 : ZS X E st s1) (h2 : ZSs X E sts s2) : ZSs X E (st :: sts) (sSeq s1 s2) := PSs.weak (pss_cons h1 h2) fun Q σ H ⟨α, S, ρ, rp, re, q⟩ => by
  refine ⟨α, S, ρ, rp, re, PostS.seq q (fun ρ1 S1 α1 H1 σ1 st rp1 re1 q1 => ?_) (fun d S1 α1 H1 v st rp1 r1 q1 => q1.rt rp1 r1) (fun ρ1 S1 α1 H1 σ1 st rp1 re1 q1 => q1.bk rp1 re1) (fun ρ1 S1 α1 H1 σ1 st rp1 re1 q1 => q1.ct rp1 re1)⟩
  exact ⟨α1, S1, ρ1, rp1, re1, q1⟩
theorem zss_one (h1 : ZS X E st s1) : ZSs X E [st] s1 := pss_one h1
theorem zs_pass : ZS X E (.Pass pos) sSkip := PS.weak ps_pass fun Q σ H ⟨α, S, ρ, rp, re, q⟩ => q.nx rp re
theorem zs_doc {x : Str} {j : Nat} : ZS X E (.Expr (.Constant (.str x) j p1) pos) sSkip := PS.weak ps_doc fun Q σ H ⟨α, S, ρ, rp, re, q⟩ => q.nx rp re
theorem zs_brk : ZS X E (.Break pos) sBrk := PS.weak ps_break fun Q σ H ⟨α, S, ρ, rp, re, q⟩ => q.bk rp re
theorem zs_cont : ZS X E (.Continue pos) sCont := PS.weak ps_continue fun Q σ H ⟨α, S, ρ, rp, re, q⟩ => q.ct rp re
theorem zs_drop (h : ZE X E e f) (hs : swapsWith e none pos.line X.env = pure false := by rfl) : ZS X E (.Expr e pos) (sDrop f) := PS.weak (ps_expr h hs) fun Q σ H ⟨α, S, ρ, rp, re, q⟩ => by
  refine ⟨α, S, ρ, rp, re, PostS.step q fun d S1 α1 H1 v _ st rp1 r1 q1 => ?_⟩
  exact q1.nx rp1 (re.mono st)
theorem zs_ret (h : ZE X E e f) : ZS X E (.Return (some e) pos) (sRet f) := PS.weak (ps_ret h) fun Q σ H ⟨α, S, ρ, rp, re, q⟩ => by
  refine ⟨α, S, ρ, rp, re, PostS.step q fun d S1 α1 H1 v _ st rp1 r1 q1 => ?_⟩
  exact q1.rt rp1 r1
theorem zs_retN : ZS X E (.Return none pos) sRetN := PS.weak ps_retN fun Q σ H ⟨α, S, ρ, rp, re, q⟩ => q.rt rp repN
theorem zs_if {c : Expr} (h0 : ZT X E c t) (h1 : ZSs X E a s1) (h2 : ZSs X E b s2) : ZS X E (.If c a b pos) (sIf t s1 s2) := PS.weak (ps_if h0 h1 h2) fun Q σ H ⟨α, S, ρ, rp, re, q⟩ => by
  refine ⟨α, S, ρ, rp, re, PostS.step q fun d S1 α1 H1 v _ st rp1 r1 q1 => ?_⟩
  subst r1
  cases d with
  | true => exact ⟨α1, S1, ρ, rp1, re.mono st, q1⟩
  | false => exact ⟨α1, S1, ρ, rp1, re.mono st, q1⟩
theorem zs_asg (h1 : ZE X E e f) (h2 : ZG X E tg g) (hs : swapsWithSole [tg] e pos.line X.env = pure false := by rfl) (hw : swappedStores [tg] e X.env = pure none := by rfl)
    (h3 : (assignEach [tg] X.env).map (·.2) = [assign tg X.env] := by rfl) : ZS X E (.Assign [tg] e pos) (sAsg f g) := PS.weak (ps_asg h1 h2 hs hw h3) fun Q σ H ⟨α, S, ρ, rp, re, q⟩ => by
  refine ⟨α, S, ρ, rp, re, PostS.step q fun d S1 α1 H1 v _ st rp1 r1 q1 => ?_⟩
  refine ⟨α1, S1, ρ, d, rp1, re.mono st, r1, PostS.step q1 fun ρ1 S2 α2 H2 σ2 _ st2 rp2 re2 q2 => ?_⟩
  exact q2.nx rp2 re2
theorem zs_set {i : Nat} {x : Str} {p : Pos} (hN : X.N.Nodup) (hi : X.N[i]? = some x) (hx : Loc X.env.scope x) (h1 : ZE X E e f) (hs : swapsWith e (some (.Name x p)) pos.line X.env = pure false := by rfl) (hf : X.fn x = true ∨ X.env.scope.names.lookup x = some .local := by first | exact .inl rfl | exact .inr rfl) :
    ZS X E (.Assign [.Name x p] e pos) (sAsg f (tName i)) := PS.weak (ps_set hN hi hx h1 hs hf) fun Q σ H ⟨α, S, ρ, rp, re, q⟩ => by
  refine ⟨α, S, ρ, rp, re, PostS.step q fun d S1 α1 H1 v _ st rp1 r1 q1 => ?_⟩
  exact q1.nx rp1 ((re.mono st).set i r1)
theorem zs_par2 {i j : Nat} {fs : Rho → M (List D)} (h : PA X [e1, e2] (liftL X.K X.w E fs) → PS X st (tPar i j (liftL X.K X.w E fs))) (ha : ZA X E [e1, e2] fs) : ZS X E st (sPar2 i j fs) := PS.weak (h ha) fun Q σ H ⟨α, S, ρ, rp, re, q⟩ => by
  refine ⟨α, S, ρ, rp, re, PostS.step q fun ds S1 α1 H1 vs _ st rp1 r1 q1 => ?_⟩
  split at q1
  · rename_i x y
    unfold RepL at r1
    obtain ⟨v, r, e1, g1, r1⟩ := r1
    unfold RepL at r1
    obtain ⟨u, r', e2, g2, r1⟩ := r1
    unfold RepL at r1
    rw [r1] at e2
    rw [e2] at e1
    exact ⟨v, u, e1, q1.nx rp1 (((re.mono st).set i g1).set j g2)⟩
  · exact q1.elim
theorem zs_par3 {i j l : Nat} {e3 : Expr} {fs : Rho → M (List D)} (h : PA X [e1, e2, e3] (liftL X.K X.w E fs) → PS X st (tPar3 i j l (liftL X.K X.w E fs))) (ha : ZA X E [e1, e2, e3] fs) : ZS X E st (sPar3 i j l fs) := PS.weak (h ha) fun Q σ H ⟨α, S, ρ, rp, re, q⟩ => by
  refine ⟨α, S, ρ, rp, re, PostS.step q fun ds S1 α1 H1 vs _ st rp1 r1 q1 => ?_⟩
  split at q1
  · rename_i x y z
    unfold RepL at r1
    obtain ⟨v, r, e1, g1, r1⟩ := r1
    unfold RepL at r1
    obtain ⟨u, r', e2, g2, r1⟩ := r1
    unfold RepL at r1
    obtain ⟨u3, r3, e3, g3, r1⟩ := r1
    unfold RepL at r1
    rw [r1] at e3
    rw [e3] at e2
    rw [e2] at e1
    exact ⟨v, u, u3, e1, q1.nx rp1 ((((re.mono st).set i g1).set j g2).set l g3)⟩
  · exact q1.elim
theorem zs_aug {i : Nat} {x : Str} {o : Operator} {r : TIp} {op : D → D → M D} {p : Pos} (hN : X.N.Nodup) (hi : X.N[i]? = some x) (hx : Loc X.env.scope x) (h1 : ZE X E e f) (ho : PIp X o r) (hs : OpS X E r op) (hf : X.fn x = true ∨ X.env.scope.names.lookup x = some .local := by first | exact .inl rfl | exact .inr rfl) :
    ZS X E (.AugAssign (.Name x p) o e pos) (sAug i op f) := PS.weak (ps_aug hN hi hx h1 ho hf) fun Q σ H ⟨α, S, ρ, rp, re, q⟩ => by
  unfold sAug at q
  split at q
  · rename_i d hd
    obtain ⟨v, hv, rv⟩ := re.at_ i d hd
    refine ⟨v, hv, α, S, ρ, rp, re, PostS.step q fun y S1 α1 H1 u _ st rp1 r1 q1 => ?_⟩
    refine hs α1 S1 H1 d y v u _ rp1 (repD_mono st d v rv) r1 (PostS.step q1 fun z S2 α2 H2 u2 _ st2 rp2 r2 q2 => ?_)
    exact q2.nx rp2 (((re.mono st).mono st2).set i r2)
  · exact q.elim
end
end Z
set_option Elab.async false
set_option linter.all false
set_option maxRecDepth 100000
set_option maxHeartbeats 1000000
/-! Z9: while, for, comprehensions. -/
namespace Z
open PySem L2
/-! ### while -/
/-- behind a turn's body -/
@[simp] def onTurn (k : Rho → M Fl) (fl : Fl) : M Fl := match fl with
  | .nx ρ1 => k ρ1
  | .cont ρ1 => k ρ1
  | .brk ρ1 => fun S => .val (.nx ρ1) S
  | .ret d => fun S => .val (.ret d) S
def wIter (c : Rho → M Bool) (b : Rho → M Fl) : Nat → Rho → M Fl
  | 0 => fun _ _ => .stuck
  | n + 1 => fun ρ S => (c ρ S).bind fun q S1 => if q = true then (b ρ S1).bind (onTurn (wIter c b n)) else .val (.nx ρ) S1
theorem wIter_succ {c : Rho → M Bool} {b : Rho → M Fl} : ∀ {n : Nat} {ρ : Rho} {S : Sto}, wIter c b n ρ S ≠ .stuck → wIter c b (n + 1) ρ S = wIter c b n ρ S
  | 0, ρ, S, h => absurd rfl h
  | n + 1, ρ, S, h => by
    unfold wIter at h ⊢
    cases hc : c ρ S with
    | val q S1 =>
      rw [hc] at h
      unfold Out.bind at h ⊢
      dsimp only at h ⊢
      cases q with
      | false => rfl
      | true =>
        rw [if_pos rfl] at h ⊢
        rw [if_pos rfl]
        cases hb : b ρ S1 with
        | val fl S2 =>
          rw [hb] at h
          cases fl with
          | nx ρ1 => exact wIter_succ h
          | cont ρ1 => exact wIter_succ h
          | brk ρ1 => rfl
          | ret d => rfl
        | exc cc p S2 => rfl
        | stuck => rfl
    | exc cc p S1 => rfl
    | stuck => rfl
theorem wIter_le {c : Rho → M Bool} {b : Rho → M Fl} {n m : Nat} {ρ : Rho} {S : Sto} (h : wIter c b n ρ S ≠ .stuck) (hm : n ≤ m) : wIter c b m ρ S = wIter c b n ρ S := by
  induction m with
  | zero =>
    have : n = 0 := by omega
    subst this
    rfl
  | succ m ih =>
    by_cases e : n = m + 1
    · rw [e]
    · have q := ih (by omega)
      rw [wIter_succ (by rw [q]; exact h), q]
open Classical in
noncomputable def sWhile (c : Rho → M Bool) (b : Rho → M Fl) : Rho → M Fl := fun ρ S => if h : ∃ n, wIter c b n ρ S ≠ .stuck then wIter c b h.choose ρ S else .stuck
theorem sWhile_of {c : Rho → M Bool} {b : Rho → M Fl} {n : Nat} {ρ : Rho} {S : Sto} (h : wIter c b n ρ S ≠ .stuck) : sWhile c b ρ S = wIter c b n ρ S := by
  unfold sWhile
  have hx : ∃ n, wIter c b n ρ S ≠ .stuck := ⟨n, h⟩
  rw [dif_pos hx]
  have h2 := hx.choose_spec
  rcases Nat.le_total n hx.choose with q | q
  · exact wIter_le h q
  · exact (wIter_le h2 q).symm
/-- one turn more -/
theorem sWhile_eq (c : Rho → M Bool) (b : Rho → M Fl) (ρ : Rho) (S : Sto) : sWhile c b ρ S = (c ρ S).bind fun q S1 => if q = true then (b ρ S1).bind (onTurn (sWhile c b)) else .val (.nx ρ) S1 := by
  have key : ∀ ρ1 S2, (∃ n, wIter c b n ρ1 S2 ≠ .stuck) ∨ sWhile c b ρ1 S2 = .stuck := fun ρ1 S2 => by
    by_cases h : ∃ n, wIter c b n ρ1 S2 ≠ .stuck
    · exact .inl h
    · right
      unfold sWhile
      rw [dif_neg h]
  have one : ∀ n, wIter c b (n + 1) ρ S = (c ρ S).bind fun q S1 => if q = true then (b ρ S1).bind (onTurn (wIter c b n)) else .val (.nx ρ) S1 := fun n => rfl
  have stuck0 : ∀ ρ1 S2, sWhile c b ρ1 S2 = .stuck → ∀ n, wIter c b n ρ1 S2 = .stuck := fun ρ1 S2 h n => by
    cases e : wIter c b n ρ1 S2 with
    | stuck => rfl
    | val f S3 =>
      have ne : wIter c b n ρ1 S2 ≠ .stuck := by rw [e]; exact fun z => nomatch z
      rw [← sWhile_of ne, h] at e
      cases e
    | exc cc p S3 =>
      have ne : wIter c b n ρ1 S2 ≠ .stuck := by rw [e]; exact fun z => nomatch z
      rw [← sWhile_of ne, h] at e
      cases e
  have mine : ∀ m, wIter c b (m + 1) ρ S ≠ .stuck → sWhile c b ρ S = wIter c b (m + 1) ρ S := fun m h => sWhile_of h
  cases hc : c ρ S with
  | stuck =>
    rcases key ρ S with ⟨n, hn⟩ | h
    · cases n with
      | zero => exact absurd rfl hn
      | succ n => rw [one, hc] at hn; exact absurd rfl hn
    · exact h
  | exc cc p S1 =>
    have e : wIter c b 1 ρ S = .exc cc p S1 := by rw [one, hc]; rfl
    rw [mine 0 (by rw [e]; exact fun z => nomatch z), e]
    rfl
  | val q S1 =>
    cases q with
    | false =>
      have e : wIter c b 1 ρ S = .val (.nx ρ) S1 := by rw [one, hc]; rfl
      rw [mine 0 (by rw [e]; exact fun z => nomatch z), e]
      rfl
    | true =>
      unfold Out.bind
      dsimp only
      rw [if_pos rfl]
      cases hb : b ρ S1 with
      | stuck =>
        rcases key ρ S with ⟨n, hn⟩ | h
        · cases n with
          | zero => exact absurd rfl hn
          | succ n => rw [one, hc] at hn; unfold Out.bind at hn; dsimp only at hn; rw [if_pos rfl, hb] at hn; exact absurd rfl hn
        · exact h
      | exc cc p S2 =>
        have e : wIter c b 1 ρ S = .exc cc p S2 := by rw [one, hc]; unfold Out.bind; dsimp only; rw [if_pos rfl, hb]
        rw [mine 0 (by rw [e]; exact fun z => nomatch z), e]
      | val fl S2 =>
        have step : ∀ n, wIter c b (n + 1) ρ S = onTurn (wIter c b n) fl S2 := fun n => by rw [one, hc]; unfold Out.bind; dsimp only; rw [if_pos rfl, hb]
        have go : ∀ ρ1, (∀ n, wIter c b (n + 1) ρ S = wIter c b n ρ1 S2) → sWhile c b ρ S = sWhile c b ρ1 S2 := fun ρ1 st => by
          rcases key ρ1 S2 with ⟨n, hn⟩ | h
          · rw [mine n (by rw [st]; exact hn), st, sWhile_of hn]
          · rw [h]
            rcases key ρ S with ⟨n, hn⟩ | h2
            · cases n with
              | zero => exact absurd rfl hn
              | succ n => rw [st, stuck0 ρ1 S2 h n] at hn; exact absurd rfl hn
            · exact h2
        cases fl with
        | nx ρ1 => exact go ρ1 step
        | cont ρ1 => exact go ρ1 step
        | brk ρ1 => rw [mine 0 (by rw [step]; exact fun z => nomatch z), step]; rfl
        | ret d => rw [mine 0 (by rw [step]; exact fun z => nomatch z), step]; rfl
section
variable {X : Cx} {E : XK} {pos : Pos} {c : Expr} {body : List Stmt} {t : Rho → M Bool} {b : Rho → M Fl}
theorem zs_while (hp : PassesOwn (model X.prog X.w) X.A X.env X.xe) (h1 : ZT X E c t) (h2 : ZSs X E body b) : ZS X E (.While c body [] pos) (sWhile t b) := PS.weak (ps_while hp h1 h2) fun Q σ H ⟨α, S, ρ, rp, re, q⟩ => by
  have hx : ∃ n, wIter t b n ρ S ≠ .stuck := by
    refine Classical.byContradiction fun h => ?_
    unfold sWhile at q
    rw [dif_neg h] at q
    exact q
  obtain ⟨n, hn⟩ := hx
  rw [sWhile_of hn] at q
  refine ⟨fun m σ H => ∃ α S ρ, Rep X.K X.w α S H ∧ RepE X.K X.w α H ρ σ ∧ PostS X.K X.w E α H (wIter t b m ρ S) Q, ⟨n, α, S, ρ, rp, re, q⟩, fun m σ H ⟨α, S, ρ, rp, re, q⟩ => ?_⟩
  cases m with
  | zero => exact q.elim
  | succ m =>
    refine ⟨α, S, ρ, rp, re, PostS.step q fun d S1 α1 H1 v _ st rp1 r1 q1 => ?_⟩
    subst r1
    cases d with
    | false =>
      rw [if_neg Bool.false_ne_true] at q1
      exact q1.nx rp1 (re.mono st)
    | true =>
      rw [if_pos rfl] at q1
      refine ⟨fun σ H => ∃ α S ρ, Rep X.K X.w α S H ∧ RepE X.K X.w α H ρ σ ∧ PostS X.K X.w E α H (wIter t b m ρ S) Q, fun σ' H' h => ⟨m, Nat.lt_succ_self m, h⟩, ?_⟩
      exact ⟨α1, S1, ρ, rp1, re.mono st, PostS.seq q1 (fun ρ1 S2 α2 H2 σ2 st2 rp2 re2 q2 => ⟨α2, S2, ρ1, rp2, re2, q2⟩) (fun d S2 α2 H2 v st2 rp2 r2 q2 => q2.rt rp2 r2)
        (fun ρ1 S2 α2 H2 σ2 st2 rp2 re2 q2 => q2.nx rp2 re2) (fun ρ1 S2 α2 H2 σ2 st2 rp2 re2 q2 => ⟨α2, S2, ρ1, rp2, re2, q2⟩)⟩
end
/-! ### what is walked -/
/-- items, and what must stand meanwhile -/
structure Src where
  items : List D
  ok : Sto → Prop
/-- J gives these items while they stand -/
def Gives (K : PySem.W.Frag) (w : World) (J : It) (α0 : Al) (H0 : Hp) (s : Src) : Prop := ∀ (α : Al) (S : Sto) (H : Hp), Stq α0 H0 α H → Rep K w α S H → s.ok S →
  ∀ i, (s.items.length ≤ i → J.stop i H) ∧ ∀ d, s.items[i]? = some d → J.go i H ∧ ∀ x H', J.yld i H x H' → Stp α H α H' ∧ Rep K w α S H' ∧ RepD K w α H' d x
def PostI (K : PySem.W.Frag) (w : World) (E : XK) (α : Al) (H : Hp) (o : Out Src) (R : It → Hp → Prop) : Prop := match o with
  | .val s S' => s.ok S' ∧ ∀ α' H' J, Stp α H α' H' → Rep K w α' S' H' → Gives K w J α' H' s → R J H'
  | .exc c p S' => Post K w (fun _ _ (_ : Unit) (_ : Unit) => True) E α H (.exc c p S') fun _ _ => True
  | .stuck => False
def liftI (K : PySem.W.Frag) (w : World) (E : XK) (f : Rho → M Src) : TI := fun σ H R => ∃ α S ρ, Rep K w α S H ∧ RepE K w α H ρ σ ∧ PostI K w E α H (f ρ S) R
abbrev ZI (X : Cx) (E : XK) (tg iter : Expr) (f : Rho → M Src) : Prop := PI X tg iter (liftI X.K X.w E f)
theorem PI.weak {X : Cx} {tg e : Expr} {t t' : TI} (h : PI X tg e t) (k : ∀ σ H R, t' σ H R → t σ H R) : PI X tg e t' := ⟨fun pins s σ H R I q => h.run pins s σ H R I (k σ H R q)⟩
theorem PI.or {X : Cx} {tg e : Expr} {t t' : TI} (h : PI X tg e t) (h' : PI X tg e t') : PI X tg e (fun σ H R => t σ H R ∨ t' σ H R) := ⟨fun pins s σ H R I q => by
  rcases q with q | q
  · exact h.run pins s σ H R I q
  · exact h'.run pins s σ H R I q⟩
open Classical in
noncomputable def guard {β : Type} (ok : Sto → Prop) (k : M β) : M β := fun S => if ok S then k S else .stuck
/-- a for's turns -/
noncomputable def forL (ok : Sto → Prop) (g : D → Rho → M Rho) (b : Rho → M Fl) : List D → Rho → M Fl
  | [] => fun ρ => guard ok fun S => .val (.nx ρ) S
  | d :: ds => fun ρ => guard ok fun S => (g d ρ S).bind fun ρ1 S1 => (b ρ1 S1).bind (onTurn (forL ok g b ds))
@[simp] noncomputable def sFor (f : Rho → M Src) (g : D → Rho → M Rho) (b : Rho → M Fl) : Rho → M Fl := fun ρ S => (f ρ S).bind fun s S1 => forL s.ok g b s.items ρ S1
theorem guard_of {β : Type} {ok : Sto → Prop} {k : M β} {S : Sto} (h : ok S) : guard ok k S = k S := by unfold guard; rw [if_pos h]
theorem guard_no {β : Type} {ok : Sto → Prop} {k : M β} {S : Sto} (h : ¬ ok S) : guard ok k S = .stuck := by unfold guard; rw [if_neg h]
@[simp] theorem guard_true {β : Type} {k : M β} {S : Sto} : guard (fun _ => True) k S = k S := guard_of True.intro
theorem forL_ok {ok : Sto → Prop} {g : D → Rho → M Rho} {b : Rho → M Fl} {ds : List D} {ρ : Rho} {S : Sto} (h : forL ok g b ds ρ S ≠ .stuck) : ok S := by
  refine Classical.byContradiction fun n => h ?_
  cases ds with
  | nil => unfold forL; exact guard_no n
  | cons d ds => unfold forL; exact guard_no n
section
variable {X : Cx} {E : XK} {pos : Pos} {tg iter : Expr} {body : List Stmt} {f : Rho → M Src} {g : D → Rho → M Rho} {b : Rho → M Fl}
theorem zs_for (hp : PassesOwn (model X.prog X.w) X.A X.env X.xe) (hc : X.calm = true) (hi : ZI X E tg iter f) (hg : ZG X E tg g) (hb : ZSs X E body b) (hs : ∀ x, foldedSetIterable iter X.env x = pure x := by intro _; rfl) :
    ZS X E (.For tg iter body [] pos) (sFor f g b) := PS.weak (ps_for hp hc hi hg hb hs) fun Q σ H ⟨α, S, ρ, rp, re, q⟩ => by
  refine ⟨α, S, ρ, rp, re, ?_⟩
  unfold sFor at q
  cases hf : f ρ S with
  | stuck => rw [hf] at q; exact q.elim
  | exc c p S' => rw [hf] at q; exact q
  | val s S1 =>
    rw [hf] at q
    have q : PostS X.K X.w E α H (forL s.ok g b s.items ρ S1) Q := q
    have hok : s.ok S1 := forL_ok fun e => by rw [e] at q; exact q
    refine ⟨hok, fun α1 H1 J st rp1 gv => ?_⟩
    refine ⟨fun i m σ H => ∃ α S ρ ds, s.items.drop i = ds ∧ m = ds.length ∧ Stp α1 H1 α H ∧ Rep X.K X.w α S H ∧ RepE X.K X.w α H ρ σ ∧ PostS X.K X.w E α H (forL s.ok g b ds ρ S) Q,
      ⟨_, α1, S1, ρ, s.items, rfl, rfl, Stp.refl, rp1, re.mono st, PostS.mono st q⟩, ?_⟩
    rintro i m σ H ⟨α, S, ρ, ds, hd, hm, st, rp, re, q⟩
    have hok : s.ok S := forL_ok fun e => by rw [e] at q; exact q
    obtain ⟨g1, g2⟩ := gv α S H st.q rp hok i
    cases ds with
    | nil =>
      refine .inl ⟨g1 (List.drop_eq_nil_iff.mp hd), ?_⟩
      unfold forL at q
      rw [guard_of hok] at q
      exact PostS.nx q rp re
    | cons d ds =>
      have hi : s.items[i]? = some d := by
        have : (s.items.drop i)[0]? = some d := by rw [hd]; rfl
        rw [List.getElem?_drop] at this
        exact this
      have hd' : s.items.drop (i + 1) = ds := by
        rw [← List.drop_drop, hd]
        rfl
      obtain ⟨g3, g4⟩ := g2 d hi
      refine .inr ⟨g3, fun σ H => ∃ α S ρ, Stp α1 H1 α H ∧ Rep X.K X.w α S H ∧ RepE X.K X.w α H ρ σ ∧ PostS X.K X.w E α H (forL s.ok g b ds ρ S) Q,
        fun σ' H' ⟨α', S', ρ', st', rp', re', q'⟩ => ⟨ds.length, by rw [hm]; exact Nat.lt_succ_self _, α', S', ρ', ds, hd', rfl, st', rp', re', q'⟩, fun x H' hy => ?_⟩
      obtain ⟨st2, rp2, rx⟩ := g4 x H' hy
      have q2 : PostS X.K X.w E α H' (forL s.ok g b (d :: ds) ρ S) Q := PostS.mono st2 q
      unfold forL at q2
      rw [guard_of hok] at q2
      refine ⟨α, S, ρ, d, rp2, re.mono st2, rx, PostS.step q2 fun ρ1 S3 α3 H3 σ3 _ st3 rp3 re3 q3 => ?_⟩
      exact ⟨α3, S3, ρ1, rp3, re3, PostS.seq q3 (fun ρ2 S4 α4 H4 σ4 st4 rp4 re4 q4 => ⟨α4, S4, ρ2, ((st.trans st2).trans st3).trans st4, rp4, re4, q4⟩) (fun d S4 α4 H4 v st4 rp4 r4 q4 => q4.rt rp4 r4) (fun ρ2 S4 α4 H4 σ4 st4 rp4 re4 q4 => q4.nx rp4 re4)
        (fun ρ2 S4 α4 H4 σ4 st4 rp4 re4 q4 => ⟨α4, S4, ρ2, ((st.trans st2).trans st3).trans st4, rp4, re4, q4⟩)⟩
end
end Z
set_option Elab.async false
set_option linter.all false
set_option maxRecDepth 100000
set_option maxHeartbeats 1000000
/-! Z10: what is walked. -/
namespace Z
open PySem L2
def always (ds : List D) : Src := ⟨ds, fun _ => True⟩
@[simp] theorem always_items (ds : List D) : (always ds).items = ds := rfl
@[simp] theorem always_ok (ds : List D) : (always ds).ok = fun _ => True := rfl
def signs (x : Str) : List D := x.cps.toList.map fun c => D.str ⟨#[c]⟩
def srcOf : D → M Src := fun d S => match d with
  | .tup ds => .val (always ds) S
  | .lst ds => .val (always ds) S
  | .wl ds => .val (always ds) S
  | .str x => .val (always (signs x)) S
  | .ref n => (match S[n]? with
    | some (.lst ds) => .val ⟨ds, fun S' => S'[n]? = some (.lst ds)⟩ S
    | _ => .stuck)
  | _ => .stuck
@[simp] theorem srcOf_tup (ds : List D) (S : Sto) : srcOf (.tup ds) S = .val (always ds) S := rfl
@[simp] theorem srcOf_lst (ds : List D) (S : Sto) : srcOf (.lst ds) S = .val (always ds) S := rfl
@[simp] theorem srcOf_wl (ds : List D) (S : Sto) : srcOf (.wl ds) S = .val (always ds) S := rfl
@[simp] def iVal (f : Rho → M D) : Rho → M Src := fun ρ S => (f ρ S).bind srcOf
def rng (lo : Int) (n : Nat) : List D := (List.range n).map fun (i : Nat) => D.int (lo + i)
def srcRng1 : List D → M Src := fun ds S => match ds with
  | [.int j] => if -(2 ^ 62) ≤ j ∧ j < 2 ^ 62 then .val (always (rng 0 j.toNat)) S else .stuck
  | _ => .stuck
def srcRng2 : List D → M Src := fun ds S => match ds with
  | [.int i, .int j] => if -(2 ^ 62) ≤ i ∧ i < 2 ^ 62 ∧ -(2 ^ 62) ≤ j ∧ j < 2 ^ 62 then .val (always (rng i (j - i).toNat)) S else .stuck
  | _ => .stuck
@[simp] def iRng1 (f : Rho → M (List D)) : Rho → M Src := fun ρ S => (f ρ S).bind srcRng1
@[simp] def iRng2 (f : Rho → M (List D)) : Rho → M Src := fun ρ S => (f ρ S).bind srcRng2
def enums (ds : List D) : List D := ds.zipIdx.map fun p => D.tup [.int (p.2 : Nat), p.1]
/-- a list's items, and when they stand -/
def lstSrc (S : Sto) : D → Option Src
  | .lst ds => some (always ds)
  | .wl ds => some (always ds)
  | .ref n => (match S[n]? with
    | some (.lst ds) => some ⟨ds, fun S' => S'[n]? = some (.lst ds)⟩
    | _ => none)
  | _ => none
@[simp] theorem lstSrc_lst (S : Sto) (ds : List D) : lstSrc S (.lst ds) = some (always ds) := rfl
@[simp] theorem lstSrc_wl (S : Sto) (ds : List D) : lstSrc S (.wl ds) = some (always ds) := rfl
def srcEnum : List D → M Src := fun ds S => match ds with
  | [d] => (match lstSrc S d with
    | some s => .val ⟨enums s.items, s.ok⟩ S
    | none => .stuck)
  | _ => .stuck
@[simp] def iEnum (f : Rho → M (List D)) : Rho → M Src := fun ρ S => (f ρ S).bind srcEnum
def zips (as bs : List D) : List D := (as.zip bs).map fun p => D.tup [p.1, p.2]
def srcZip : List D → M Src := fun ds S => match ds with
  | [.tup a, .tup b] => .val (always (zips a b)) S
  | [a, b] => (match lstSrc S a, lstSrc S b with
    | some s, some t => .val ⟨zips s.items t.items, fun S' => s.ok S' ∧ t.ok S'⟩ S
    | _, _ => .stuck)
  | _ => .stuck
@[simp] def iZip (f : Rho → M (List D)) : Rho → M Src := fun ρ S => (f ρ S).bind srcZip
section
variable {K : PySem.W.Frag} {w : World} {α : Al} {H : Hp} {S : Sto} {E : XK}
/-- a list stands with its items while ok holds -/
def Stands (K : PySem.W.Frag) (w : World) (α0 : Al) (H0 : Hp) (a : Addr) (s : Src) : Prop := ∀ (α : Al) (S : Sto) (H : Hp), Stq α0 H0 α H → Rep K w α S H → s.ok S → ∃ vs, SqL K H a vs ∧ RepL K w α H s.items vs
theorem PostI.mono {α1 : Al} {H1 : Hp} {o : Out Src} {R : It → Hp → Prop} (st : Stp α H α1 H1) (q : PostI K w E α H o R) : PostI K w E α1 H1 o R := by
  cases o with
  | val s S2 => exact ⟨q.1, fun α' H' J st2 => q.2 α' H' J (st.trans st2)⟩
  | exc c p S2 => exact Post.mono (β := Unit) (γ := Unit) (R := fun _ _ _ _ => True) (o := Out.exc c p S2) (Q := fun _ _ => True) st q
  | stuck => exact q
theorem PI.step {R : It → Hp → Prop} {δ ε : Type} {R1 : Al → Hp → δ → ε → Prop} {Q1 : ε → Hp → Prop} {m : Out δ} {k : δ → Sto → Out Src} (q : PostI K w E α H (m.bind k) R)
    (hk : ∀ d S1 α1 H1 x, m = .val d S1 → Stp α H α1 H1 → Rep K w α1 S1 H1 → R1 α1 H1 d x → PostI K w E α1 H1 (k d S1) R → Q1 x H1) : Post K w R1 E α H m Q1 := by
  cases m with
  | val d S1 => exact fun α1 H1 x st rp r => hk d S1 α1 H1 x rfl st rp r (PostI.mono st q)
  | exc c p S1 => exact q
  | stuck => exact q.elim
theorem stp_id {α : Al} {H : Hp} {S : Sto} {d : D} {x : V} (rp : Rep K w α S H) (r : RepD K w α H d x) : Stp α H α H ∧ Rep K w α S H ∧ RepD K w α H d x := ⟨Stp.refl, rp, r⟩
theorem gives_tup {ds : List D} {a : Addr} {vs : List V} (h : SqT K H a vs) (l : RepL K w α H ds vs) : Gives K w (Itt K a) α H (always ds) := by
  intro α1 S1 H1 st rp _ i
  have h1 : SqT K H1 a vs := by
    rcases h with h | h
    · exact .inl (st.tup a vs h)
    · exact .inr h
  have l1 := repL_monoQ st _ _ l
  refine ⟨fun hi => ⟨vs, h1, by rw [l1.length]; exact hi⟩, fun d hd => ?_⟩
  obtain ⟨z, hz, rz⟩ := l1.get hd
  refine ⟨⟨vs, z, h1, hz⟩, fun x H' hy => ?_⟩
  obtain ⟨rfl, hx⟩ := hy
  have e := hx vs h1
  rw [hz] at e
  cases e
  exact stp_id rp rz
theorem lstSrc_rep {d : D} {s : Src} {v : V} (rp : Rep K w α S H) (h : lstSrc S d = some s) (r : RepD K w α H d v) : s.ok S ∧ ∃ a vs, v = .ref a ∧ SqL K H a vs ∧ Stands K w α H a s := by
  unfold lstSrc at h
  split at h
  · cases h
    refine ⟨True.intro, ?_⟩
    have r0 := r
    unfold RepD at r
    obtain ⟨a, vs, e, _, q, l⟩ := r
    refine ⟨a, vs, e, SqL.of q, fun α1 S1 H1 st rp1 _ => ?_⟩
    have r1 := repD_monoQ st _ _ r0
    rw [e] at r1
    obtain ⟨a1, vs1, e1, h1, l1⟩ := seqL_rep rp1 (d := .lst _) rfl r1
    cases e1
    exact ⟨vs1, h1, l1⟩
  · cases h
    refine ⟨True.intro, ?_⟩
    obtain ⟨a, vs, e, h1, l1⟩ := seqL_rep rp (d := .wl _) rfl r
    refine ⟨a, vs, e, h1, fun α1 S1 H1 st rp1 _ => ?_⟩
    have r1 := repD_monoQ st _ _ r
    rw [e] at r1
    obtain ⟨a1, vs1, e1, h1, l1⟩ := seqL_rep rp1 (d := .wl _) rfl r1
    cases e1
    exact ⟨vs1, h1, l1⟩
  · rename_i n
    split at h
    · rename_i ds hn
      cases h
      refine ⟨hn, ?_⟩
      obtain ⟨a, vs, e, h1, l1⟩ := seqL_rep rp (d := .ref n) (ds := ds) (by simp only [seqL, hn]) r
      refine ⟨a, vs, e, h1, fun α1 S1 H1 st rp1 ok => ?_⟩
      have r1 := repD_monoQ st _ _ r
      rw [e] at r1
      have ok : S1[n]? = some (.lst ds) := ok
      obtain ⟨a1, vs1, e1, h1, l1⟩ := seqL_rep rp1 (d := .ref n) (ds := ds) (by simp only [seqL, ok]) r1
      cases e1
      exact ⟨vs1, h1, l1⟩
    · cases h
  · cases h
theorem gives_lst {a : Addr} {s : Src} (h : Stands K w α H a s) : Gives K w (Itl K a) α H s := by
  intro α1 S1 H1 st rp ok i
  obtain ⟨vs, h1, l1⟩ := h α1 S1 H1 st rp ok
  refine ⟨fun hi => ⟨vs, h1, by rw [l1.length]; exact hi⟩, fun d hd => ?_⟩
  obtain ⟨z, hz, rz⟩ := l1.get hd
  refine ⟨⟨vs, z, h1, hz⟩, fun x H' hy => ?_⟩
  obtain ⟨rfl, hx⟩ := hy
  have e := hx vs h1
  rw [hz] at e
  cases e
  exact stp_id rp rz
theorem gives_str {x : Str} : Gives K w (Its x) α H (always (signs x)) := by
  intro α1 S1 H1 st rp ok i
  have hl : (signs x).length = x.cps.size := by unfold signs; rw [List.length_map, Array.length_toList]
  refine ⟨fun hi => by rw [always_items, hl] at hi; exact hi, fun d hd => ?_⟩
  rw [always_items] at hd
  have hi := (List.getElem?_eq_some_iff.mp hd).1
  rw [hl] at hi
  refine ⟨hi, fun v H' hy => ?_⟩
  obtain ⟨rfl, c, hc, rfl⟩ := hy
  unfold signs at hd
  rw [List.getElem?_map, Array.getElem?_toList, hc] at hd
  cases hd
  exact stp_id rp (repS _)
theorem gives_rng {lo : Int} {n : Nat} : Gives K w (Itr lo n) α H (always (rng lo n)) := by
  intro α1 S1 H1 st rp ok i
  have hl : (rng lo n).length = n := by unfold rng; rw [List.length_map, List.length_range]
  refine ⟨fun hi => by rw [always_items, hl] at hi; exact hi, fun d hd => ?_⟩
  rw [always_items] at hd
  have hi := (List.getElem?_eq_some_iff.mp hd).1
  rw [hl] at hi
  refine ⟨hi, fun v H' hy => ?_⟩
  obtain ⟨rfl, rfl⟩ := hy
  unfold rng at hd
  rw [List.getElem?_map, List.getElem?_range hi] at hd
  cases hd
  exact stp_id rp (repI _)
theorem pair_new {α : Al} {H : Hp} {S : Sto} {d e : D} {x y : V} {T : Addr} (rp : Rep K w α S H) (h1 : RepD K w α H d x) (h2 : RepD K w α H e y) (hT : H T = none) : Stp α H α (upd H T (.tup [x, y])) ∧ Rep K w α S (upd H T (.tup [x, y])) ∧ RepD K w α (upd H T (.tup [x, y])) (.tup [d, e]) (.ref T) :=
  ⟨stp_new rp.hd hT, rp.new hT, repT (SqT.of upd_same) (repL_mono (stp_new rp.hd hT) _ _ (.cons h1 (.one h2)))⟩
theorem gives_enum {a : Addr} {s : Src} (h : Stands K w α H a s) : Gives K w (Ite K a) α H ⟨enums s.items, s.ok⟩ := by
  intro α1 S1 H1 st rp ok i
  obtain ⟨vs, h1, l1⟩ := h α1 S1 H1 st rp ok
  have hl : (enums s.items).length = s.items.length := by unfold enums; rw [List.length_map, List.length_zipIdx]
  refine ⟨fun hi => ⟨vs, h1, by rw [l1.length, ← hl]; exact hi⟩, fun d hd => ?_⟩
  have hd : (enums s.items)[i]? = some d := hd
  unfold enums at hd
  rw [List.getElem?_map, List.getElem?_zipIdx] at hd
  cases hi : s.items[i]? with
  | none => rw [hi] at hd; cases hd
  | some d0 =>
    rw [hi] at hd
    cases hd
    obtain ⟨z, hz, rz⟩ := l1.get hi
    refine ⟨⟨vs, z, h1, hz⟩, fun x H' hy => ?_⟩
    obtain ⟨T, x0, rfl, hT, rfl, hx⟩ := hy
    have e := hx vs h1
    rw [hz] at e
    cases e
    have := pair_new rp (repI ((i : Nat) : Int)) rz hT
    simpa using this
theorem zips_get {as bs : List D} {i : Nat} {d : D} (h : (zips as bs)[i]? = some d) : ∃ x y, as[i]? = some x ∧ bs[i]? = some y ∧ d = .tup [x, y] := by
  unfold zips at h
  rw [List.getElem?_map] at h
  obtain ⟨⟨x, y⟩, h1, h2⟩ := Option.map_eq_some_iff.mp h
  rw [List.getElem?_zip_eq_some] at h1
  exact ⟨x, y, h1.1, h1.2, h2.symm⟩
theorem zips_len {as bs : List D} : (zips as bs).length = min as.length bs.length := by unfold zips; rw [List.length_map, List.length_zip]
theorem gives_zip {a b : Addr} {s t : Src} (ha : Stands K w α H a s) (hb : Stands K w α H b t) : Gives K w (Itz K a b) α H ⟨zips s.items t.items, fun S => s.ok S ∧ t.ok S⟩ := by
  intro α1 S1 H1 st rp ok i
  obtain ⟨vs, h1, l1⟩ := ha α1 S1 H1 st rp ok.1
  obtain ⟨us, h2, l2⟩ := hb α1 S1 H1 st rp ok.2
  refine ⟨fun hi => ⟨vs, us, h1, h2, ?_⟩, fun d hd => ?_⟩
  · have hi : (zips s.items t.items).length ≤ i := hi
    rw [zips_len, ← l1.length, ← l2.length] at hi
    omega
  · obtain ⟨x, y, hx, hy, rfl⟩ := zips_get hd
    obtain ⟨z, hz, rz⟩ := l1.get hx
    obtain ⟨u, hu, ru⟩ := l2.get hy
    refine ⟨⟨vs, us, z, u, h1, h2, hz, hu⟩, fun q H' hq => ?_⟩
    obtain ⟨T, x0, y0, rfl, hT, rfl, hx0, hy0⟩ := hq
    have e1 := hx0 vs h1
    have e2 := hy0 us h2
    rw [hz] at e1
    rw [hu] at e2
    cases e1
    cases e2
    exact pair_new rp rz ru hT
theorem gives_zipT {a b : Addr} {as bs : List D} {vs us : List V} (ha : SqT K H a vs) (hb : SqT K H b us) (l1 : RepL K w α H as vs) (l2 : RepL K w α H bs us) : Gives K w (RZ.ItzT K a b) α H (always (zips as bs)) := by
  intro α1 S1 H1 st rp ok i
  have h1 : SqT K H1 a vs := by
    rcases ha with h | h
    · exact .inl (st.tup a vs h)
    · exact .inr h
  have h2 : SqT K H1 b us := by
    rcases hb with h | h
    · exact .inl (st.tup b us h)
    · exact .inr h
  have l1 := repL_monoQ st _ _ l1
  have l2 := repL_monoQ st _ _ l2
  refine ⟨fun hi => ⟨vs, us, h1, h2, ?_⟩, fun d hd => ?_⟩
  · have hi : (zips as bs).length ≤ i := hi
    rw [zips_len, ← l1.length, ← l2.length] at hi
    omega
  · obtain ⟨x, y, hx, hy, rfl⟩ := zips_get hd
    obtain ⟨z, hz, rz⟩ := l1.get hx
    obtain ⟨u, hu, ru⟩ := l2.get hy
    refine ⟨⟨vs, us, z, u, h1, h2, hz, hu⟩, fun q H' hq => ?_⟩
    obtain ⟨T, x0, y0, rfl, hT, rfl, hx0, hy0⟩ := hq
    have e1 := hx0 vs h1
    have e2 := hy0 us h2
    rw [hz] at e1
    rw [hu] at e2
    cases e1
    cases e2
    exact pair_new rp rz ru hT
end
section
variable {X : Cx} {E : XK} {pos p tpos : Pos} {tg iter e e2 : Expr} {es elts : List Expr} {kk : Nat} {f : Rho → M D} {g : Rho → M (List D)}
theorem zi_val (h : ZE X E e f) : ZI X E tg e (iVal f) := PI.weak (PI.or (pi_list h) (PI.or (pi_tup h) (pi_str h))) fun σ H R ⟨α, S, ρ, rp, re, q⟩ => by
  have q0 := q
  cases hf : f ρ S with
  | stuck => unfold iVal at q; rw [hf] at q; exact q.elim
  | exc c p S' => unfold iVal at q; rw [hf] at q; exact .inl ⟨α, S, ρ, rp, re, by rw [hf]; exact q⟩
  | val d S1 =>
    have q1 : PostI X.K X.w E α H (srcOf d S1) R := by unfold iVal at q; rw [hf] at q; exact q
    cases d with
    | tup ds =>
      refine .inr (.inl ⟨α, S, ρ, rp, re, ?_⟩)
      rw [hf]
      intro α1 H1 v st rp1 r1
      obtain ⟨a, vs, ea, ha, la⟩ := rep_tup r1
      exact ⟨a, ea, ⟨vs, ha⟩, q1.2 α1 H1 _ st rp1 (gives_tup ha la)⟩
    | str x =>
      refine .inr (.inr ⟨α, S, ρ, rp, re, ?_⟩)
      rw [hf]
      intro α1 H1 v st rp1 r1
      exact ⟨x, rep_str r1, q1.2 α1 H1 _ st rp1 gives_str⟩
    | lst ds =>
      refine .inl ⟨α, S, ρ, rp, re, ?_⟩
      rw [hf]
      intro α1 H1 v st rp1 r1
      obtain ⟨_, a, vs, ea, ha, hs⟩ := lstSrc_rep rp1 (s := always ds) rfl r1
      exact ⟨a, ea, ⟨vs, ha⟩, q1.2 α1 H1 _ st rp1 (gives_lst hs)⟩
    | wl ds =>
      refine .inl ⟨α, S, ρ, rp, re, ?_⟩
      rw [hf]
      intro α1 H1 v st rp1 r1
      obtain ⟨_, a, vs, ea, ha, hs⟩ := lstSrc_rep rp1 (s := always ds) rfl r1
      exact ⟨a, ea, ⟨vs, ha⟩, q1.2 α1 H1 _ st rp1 (gives_lst hs)⟩
    | ref n =>
      cases hn : S1[n]? with
      | none =>
        simp only [srcOf, hn] at q1
        exact q1.elim
      | some c =>
        cases c with
        | lst ds =>
          simp only [srcOf, hn] at q1
          refine .inl ⟨α, S, ρ, rp, re, ?_⟩
          rw [hf]
          intro α1 H1 v st rp1 r1
          obtain ⟨_, a, vs, ea, ha, hs⟩ := lstSrc_rep rp1 (d := .ref n) (s := ⟨ds, fun S' => S'[n]? = some (.lst ds)⟩) (by simp only [lstSrc, hn]) r1
          exact ⟨a, ea, ⟨vs, ha⟩, q1.2 α1 H1 _ st rp1 (gives_lst hs)⟩
        | dic lk ks ds =>
          simp only [srcOf, hn] at q1
          exact q1.elim
        | ins c fs =>
          simp only [srcOf, hn] at q1
          exact q1.elim
    | _ => exact q1.elim
theorem zi_rng1 (hg : Gl X "range") (hm : X.mg "range" = none) (ha : ZA X E [e] g) (hs : starEach [e] X.env = [(false, eval e X.env)] := by rfl) : ZI X E tg (.Call (.Name "range" p) [e] [] pos) (iRng1 g) := PI.weak (pi_range1 hg hm ha hs) fun σ H R ⟨α, S, ρ, rp, re, q⟩ => by
  refine ⟨α, S, ρ, rp, re, PI.step q fun ds S1 α1 H1 vs _ st rp1 r1 q1 => ?_⟩
  unfold srcRng1 at q1
  split at q1
  · split at q1
    · rename_i j _ c
      exact ⟨j, RepL.ints (ns := [j]) r1, c.1, c.2, q1.2 α1 H1 _ Stp.refl rp1 gives_rng⟩
    · exact q1.elim
  · exact q1.elim
theorem zi_rng2 (hg : Gl X "range") (hm : X.mg "range" = none) (ha : ZA X E [e, e2] g) (hs : starEach [e, e2] X.env = [(false, eval e X.env), (false, eval e2 X.env)] := by rfl) (hs2 : starEach [e2] X.env = [(false, eval e2 X.env)] := by rfl) :
    ZI X E tg (.Call (.Name "range" p) [e, e2] [] pos) (iRng2 g) := PI.weak (pi_range2 hg hm ha hs hs2) fun σ H R ⟨α, S, ρ, rp, re, q⟩ => by
  refine ⟨α, S, ρ, rp, re, PI.step q fun ds S1 α1 H1 vs _ st rp1 r1 q1 => ?_⟩
  unfold srcRng2 at q1
  split at q1
  · split at q1
    · rename_i i j _ c
      exact ⟨i, j, RepL.ints (ns := [i, j]) r1, c, q1.2 α1 H1 _ Stp.refl rp1 gives_rng⟩
    · exact q1.elim
  · exact q1.elim
theorem zi_enum (hg : Gl X "enumerate") (hm : X.mg "enumerate" = none) (ha : ZA X E [e] g) (hs : starEach [e] X.env = [(false, eval e X.env)] := by rfl) : ZI X E (.Tuple elts kk tpos) (.Call (.Name "enumerate" p) [e] [] pos) (iEnum g) := PI.weak (pi_enum hg hm ha hs) fun σ H R ⟨α, S, ρ, rp, re, q⟩ => by
  refine ⟨α, S, ρ, rp, re, PI.step q fun ds S1 α1 H1 vs _ st rp1 r1 q1 => ?_⟩
  unfold srcEnum at q1
  split at q1
  · split at q1
    · rename_i d s hs0
      unfold RepL at r1
      obtain ⟨v, r, e1, h1, h2⟩ := r1
      unfold RepL at h2
      obtain ⟨_, a, us, ea, ha, hst⟩ := lstSrc_rep rp1 hs0 h1
      exact ⟨a, us, by rw [e1, h2, ea], ha, q1.2 α1 H1 _ Stp.refl rp1 (gives_enum hst)⟩
    · exact q1.elim
  · exact q1.elim
theorem zi_zip (hg : Gl X "zip") (hm : X.mg "zip" = none) (ha : ZA X E [e, e2] g) (hs : starEach [e, e2] X.env = (false, eval e X.env) :: starEach [e2] X.env := by rfl) (hpl : (backTo pos (starEach [e2] X.env)).any (·.1) = false := by rfl) :
    ZI X E (.Tuple elts kk tpos) (.Call (.Name "zip" p) [e, e2] [] pos) (iZip g) := PI.weak (RZ.pi_zipA hg hm ha hs hpl) fun σ H R ⟨α, S, ρ, rp, re, q⟩ => by
  refine ⟨α, S, ρ, rp, re, PI.step q fun ds S1 α1 H1 vs _ st rp1 r1 q1 => ?_⟩
  unfold srcZip at q1
  split at q1
  · unfold RepL at r1
    obtain ⟨v, r, e1, h1, h2⟩ := r1
    unfold RepL at h2
    obtain ⟨u, r', e2, h3, h4⟩ := h2
    unfold RepL at h4
    obtain ⟨a, vs', ea, ha, la⟩ := rep_tup h1
    obtain ⟨b, us', eb, hb, lb⟩ := rep_tup h3
    refine ⟨a, b, vs', us', by rw [e1, e2, h4, ea, eb], .inr ⟨ha, hb, q1.2 α1 H1 _ Stp.refl rp1 (gives_zipT ha hb la lb)⟩⟩
  · split at q1
    · rename_i x y _ s t hs1 hs2
      unfold RepL at r1
      obtain ⟨v, r, e1, h1, h2⟩ := r1
      unfold RepL at h2
      obtain ⟨u, r', e2, h3, h4⟩ := h2
      unfold RepL at h4
      obtain ⟨_, a, vs', ea, ha, sa⟩ := lstSrc_rep rp1 hs1 h1
      obtain ⟨_, b, us', eb, hb, sb⟩ := lstSrc_rep rp1 hs2 h3
      refine ⟨a, b, vs', us', by rw [e1, e2, h4, ea, eb], .inl ⟨ha, hb, q1.2 α1 H1 _ Stp.refl rp1 (gives_zip sa sb)⟩⟩
    · exact q1.elim
  · exact q1.elim
end
end Z
set_option Elab.async false
set_option linter.all false
set_option maxRecDepth 100000
set_option maxHeartbeats 1000000
/-! Z11: list comprehensions. -/
namespace Z
open PySem L2
/-- no exception leaves -/
@[simp] def noX {β : Type} (m : M β) : M β := fun S => match m S with
  | .val b S' => .val b S'
  | _ => .stuck
noncomputable def compL (ok : Sto → Prop) (g : D → Rho → M Rho) (t : Rho → M Bool) (e : Rho → M D) (ρ : Rho) : List D → M (List D)
  | [] => guard ok fun S => .val [] S
  | d :: ds => guard ok fun S => (noX (g d ρ) S).bind fun ρ1 S1 => (noX (t ρ1) S1).bind fun q S2 =>
    if q = true then (noX (e ρ1) S2).bind fun y S3 => (compL ok g t e ρ ds S3).bind fun ys S4 => .val (y :: ys) S4 else compL ok g t e ρ ds S2
def wipeR (ρ : Rho) : List Nat → Rho
  | [] => ρ
  | v :: vs => (wipeR ρ vs).set v none
@[simp] noncomputable def eComp (f : Rho → M Src) (own : List Nat) (g : D → Rho → M Rho) (t : Rho → M Bool) (e : Rho → M D) : Rho → M (List D) := fun ρ S => (f ρ S).bind fun s S1 =>
  if s.items.length ≤ sizeLine then compL s.ok g t e (wipeR ρ own) s.items S1 else .stuck
@[simp] def bYes : Rho → M Bool := fun _ S => .val true S
section
variable {K : PySem.W.Frag} {w : World} {α α1 : Al} {H H1 : Hp} {S : Sto} {E : XK}
theorem RepE.wipe {ρ : Rho} {σ : St} (re : RepE K w α H ρ σ) : ∀ vs : List Nat, RepE K w α H (wipeR ρ vs) (L2.wipe σ vs)
  | [] => re
  | v :: vs => (RepE.wipe re vs).unset v
theorem Post.stepX {β γ δ ε : Type} {R : Al → Hp → β → γ → Prop} {R1 : Al → Hp → δ → ε → Prop} {Q : γ → Hp → Prop} {Q1 : ε → Hp → Prop} {α0 : Al} {H0 : Hp} {m : M δ} {k : δ → Sto → Out β} (st0 : Stp α0 H0 α H) (h : Post K w R E α0 H0 ((noX m S).bind k) Q)
    (hk : ∀ d S1 α1 H1 x, m S = .val d S1 → Stp α H α1 H1 → Rep K w α1 S1 H1 → R1 α1 H1 d x → Post K w R E α0 H0 (k d S1) Q → Q1 x H1) : Post K w R1 E0 α H (m S) Q1 := by
  unfold noX at h
  cases e : m S with
  | val d S1 =>
    rw [e] at h
    exact fun α1 H1 x st rp r => hk d S1 α1 H1 x e st rp r h
  | exc c p S1 =>
    rw [e] at h
    exact h.elim
  | stuck =>
    rw [e] at h
    exact h.elim
theorem mem_wipe {i : Nat} {x : Option V} : ∀ {vs : List Nat} {σ : St}, i ∈ vs → L2.wipe (σ.set i x) vs = L2.wipe σ vs
  | [], σ, h => by cases h
  | v :: vs, σ, h => by
    unfold L2.wipe
    by_cases e : i ∈ vs
    · rw [mem_wipe e]
    · have hv : i = v := by
        rcases List.mem_cons.mp h with q | q
        · exact q
        · exact absurd q e
      subst hv
      have out : ∀ (vs : List Nat), i ∉ vs → (L2.wipe (σ.set i x) vs).set i none = (L2.wipe σ vs).set i none := by
        intro vs
        induction vs with
        | nil => intro _; unfold L2.wipe; rw [List.set_set]
        | cons u us ih =>
          intro hn
          unfold L2.wipe
          have hu : i ≠ u := fun q => hn (by rw [q]; exact List.mem_cons_self)
          rw [List.set_comm _ _ (Ne.symm hu), List.set_comm _ _ (Ne.symm hu), ih fun q => hn (List.mem_cons_of_mem _ q)]
      exact out vs e
theorem wipe_set {v : Nat} {x : Option V} : ∀ (vs : List Nat) (σ : St), (L2.wipe (σ.set v x) vs).set v none = (L2.wipe σ vs).set v none
  | [], σ => by unfold L2.wipe; rw [List.set_set]
  | u :: us, σ => by
    unfold L2.wipe
    by_cases hu : v = u
    · subst hu
      rw [List.set_set, List.set_set]
      exact wipe_set us σ
    · rw [List.set_comm _ _ (Ne.symm hu), List.set_comm _ _ (Ne.symm hu), wipe_set us σ]
theorem wipe_wipe : ∀ (vs : List Nat) (σ : St), L2.wipe (L2.wipe σ vs) vs = L2.wipe σ vs
  | [], σ => rfl
  | v :: vs, σ => by
    show (L2.wipe ((L2.wipe σ vs).set v none) vs).set v none = (L2.wipe σ vs).set v none
    rw [wipe_set, wipe_wipe vs σ]
end
/-- a target that stores into its own names alone -/
def liftGw (K : PySem.W.Frag) (w : World) (E : XK) (vs : List Nat) (g : D → Rho → M Rho) : TG := fun v σ H Q => ∃ α S ρ d, Rep K w α S H ∧ RepE K w α H ρ σ ∧ RepD K w α H d v ∧ Post K w (fun α H ρ' σ' => RepE K w α H ρ' σ' ∧ L2.wipe σ' vs = L2.wipe σ vs) E α H (g d ρ S) Q
def liftGsw (K : PySem.W.Frag) (w : World) (E : XK) (vs : List Nat) (g : List D → Rho → M Rho) : TGs := fun us σ H Q => ∃ α S ρ ds, Rep K w α S H ∧ RepE K w α H ρ σ ∧ RepL K w α H ds us ∧ Post K w (fun α H ρ' σ' => RepE K w α H ρ' σ' ∧ L2.wipe σ' vs = L2.wipe σ vs) E α H (g ds ρ S) Q
abbrev ZGw (X : Cx) (E : XK) (vs : List Nat) (e : Expr) (g : D → Rho → M Rho) : Prop := PG X e (liftGw X.K X.w E vs g)
abbrev ZGsw (X : Cx) (E : XK) (vs : List Nat) (e : List Expr) (g : List D → Rho → M Rho) : Prop := PGs X e (liftGsw X.K X.w E vs g)
section
variable {X : Cx} {E : XK} {pos p1 : Pos} {e tg : Expr} {es : List Expr} {g : D → Rho → M Rho} {gs : List D → Rho → M Rho} {vs : List Nat}
theorem zgw_name {i : Nat} {x : Str} (h : PG X (.Name x pos) (L2.gName i)) (hi : i ∈ vs := by decide) : ZGw X E vs (.Name x pos) (tName i) := PG.weak h fun v σ H Q ⟨α, S, ρ, d, rp, re, r, q⟩ => Post.now q rp ⟨re.set i r, mem_wipe hi⟩
theorem zgsw_nil : ZGsw X E vs [] tsNil := PGs.weak pgs_nil fun us σ H Q ⟨α, S, ρ, ds, rp, re, r, q⟩ => by
  cases ds with
  | nil =>
    unfold RepL at r
    exact ⟨r, Post.now q rp ⟨re, rfl⟩⟩
  | cons d r' => exact q.elim
theorem zgsw_cons (h1 : ZGw X E vs e g) (h2 : ZGsw X E vs es gs) (hs : (assignEach (e :: es) X.env).map (·.2) = assign e X.env :: (assignEach es X.env).map (·.2) := by rfl) : ZGsw X E vs (e :: es) (tsCons g gs) :=
  PGs.weak (pgs_cons h1 h2 hs) fun us σ H Q ⟨α, S, ρ, ds, rp, re, r, q⟩ => by
    cases ds with
    | nil => exact q.elim
    | cons d ds =>
      unfold RepL at r
      obtain ⟨v, r', e, r1, r2⟩ := r
      refine ⟨v, r', e, α, S, ρ, d, rp, re, r1, Post.step q fun ρ1 S1 α1 H1 σ1 _ st rp1 re1 q1 => ?_⟩
      refine ⟨α1, S1, ρ1, ds, rp1, re1.1, repL_mono st _ _ r2, ?_⟩
      cases e2 : gs ds ρ1 S1 with
      | val ρ2 S2 =>
        rw [e2] at q1
        exact fun α' H' v st rp r => q1 α' H' v st rp ⟨r.1, r.2.trans re1.2⟩
      | exc c p S2 => rw [e2] at q1; exact q1
      | stuck => rw [e2] at q1; exact q1
theorem zgw_tup {k n : Nat} (hc : X.calm = true) (h : ZGsw X E vs es gs) (hn : (assignEach es X.env).length = n := by rfl) (hst : (assignEach es X.env).findIdx? (·.1) = none := by rfl) : ZGw X E vs (.Tuple es k pos) (tTupZ n gs) :=
  PG.weak (PG.or (pg_tup hc h hn hst) (pg_unl hc h hn hst)) fun v σ H Q ⟨α, S, ρ, d, rp, re, r, q⟩ => by
    unfold tTupZ at q
    split at q
    · rename_i ds
      split at q
      · rename_i hl
        obtain ⟨a, us, ea, ha, la⟩ := rep_tup r
        exact .inl ⟨a, us, ea, ha, by rw [la.length]; exact hl, α, S, ρ, ds, rp, re, la, q⟩
      · exact q.elim
    · split at q
      · rename_i ds hs
        split at q
        · rename_i hl
          obtain ⟨a, us, ea, ha, la⟩ := seqL_rep rp hs r
          exact .inr ⟨a, us, ea, ha, by rw [la.length]; exact hl, α, S, ρ, ds, rp, re, la, q⟩
        · exact q.elim
      · exact q.elim
end
section
variable {K : PySem.W.Frag} {w : World} {α α1 : Al} {H H1 : Hp} {S : Sto} {a : Addr}
def Al.hide (α : Al) (a : Addr) : Al := ⟨α.al, a :: α.hid⟩
def Al.show (α : Al) (a : Addr) : Al := ⟨α.al, α.hid.filter fun b => decide (b ≠ a)⟩
theorem stp_hide {o : HO} (hh : ∀ b ∈ α.hid, H b ≠ none) (ha : H a = none) : Stp α H (α.hide a) (upd H a o) :=
  ⟨⟨[], by simp [Al.hide], by simp⟩, fun b h => by
    rcases List.mem_cons.mp h with e | e
    · exact .inr (by rw [e]; exact ha)
    · exact .inl e, fun b h => List.mem_cons_of_mem _ h, fun b h => upd_ne fun e => hh b h (by rw [e]; exact ha), fun b h => upd_dom h, fun b vs h => rd_upd ha h, fun b u _ _ h => rd_upd ha h, fun b vs _ h => by rw [upd_ne (ne_of_none h ha)]; exact h⟩
theorem rep_hide {o : HO} (rp : Rep K w α S H) (ha : H a = none) : Rep K w (α.hide a) S (upd H a o) :=
  ⟨rp.nd, rp.len, fun b h => by
    rcases List.mem_cons.mp h with e | e
    · rw [e, upd_same]; exact fun z => nomatch z
    · exact upd_dom (rp.hd b e), fun b h z => by
    rcases List.mem_cons.mp h with e | e
    · exact rp.mem_some (.inl (by rw [← e]; exact z)) ha
    · exact rp.dj b e z, fun n c b h1 h2 => by
    have hc := rp.cell n c b h1 h2
    exact repC_mono (stp_hide rp.hd ha) (upd_ne fun e => repC_some hc (by rw [e]; exact ha)) hc⟩
theorem has_show {b : Addr} (h : (α.show a).Has b) : α.Has b := by
  rcases h with h | h
  · exact .inl h
  · exact .inr (List.mem_filter.mp h).1
/-- fewer that are set apart, the same cells -/
structure Al.Less (α α' : Al) : Prop where
  has : ∀ b, α'.Has b → α.Has b
  at_ : ∀ (n : Nat) (b : Addr), α.al[n]? = some b → α'.al[n]? = some b
section
variable {α' : Al}
mutual
theorem repD_less (l : α.Less α') : ∀ (d : D) (v : V), RepD K w α H d v → RepD K w α' H d v
  | .non, v, h => by unfold RepD at h ⊢; exact h
  | .bl b, v, h => by unfold RepD at h ⊢; exact h
  | .int i, v, h => by unfold RepD at h ⊢; exact h
  | .str x, v, h => by unfold RepD at h ⊢; exact h
  | .tup ds, v, h => by
    unfold RepD at h ⊢
    obtain ⟨a, vs, e, q, r⟩ := h
    exact ⟨a, vs, e, q, repL_less l ds vs r⟩
  | .lst ds, v, h => by
    unfold RepD at h ⊢
    obtain ⟨a, vs, e, n, q, r⟩ := h
    exact ⟨a, vs, e, fun z => n (l.has _ z), q, repL_less l ds vs r⟩
  | .wl ds, v, h => by
    unfold RepD at h ⊢
    obtain ⟨a, vs, e, q, r⟩ := h
    refine ⟨a, vs, e, ?_, repL_less l ds vs r⟩
    rcases q with ⟨n, q⟩ | q
    · exact .inl ⟨fun z => n (l.has _ z), q⟩
    · exact .inr q
  | .dic ks ds, v, h => by
    unfold RepD at h ⊢
    obtain ⟨a, kv, vs, xs, e, n, q, k, r1, r2⟩ := h
    exact ⟨a, kv, vs, xs, e, fun z => n (l.has _ z), q, k, repL_less l ks kv r1, repL_less l ds vs r2⟩
  | .ref n, v, h => by
    unfold RepD at h ⊢
    obtain ⟨a, e, q⟩ := h
    exact ⟨a, e, l.at_ n a q⟩
theorem repL_less (l : α.Less α') : ∀ (ds : List D) (vs : List V), RepL K w α H ds vs → RepL K w α' H ds vs
  | [], vs, h => by unfold RepL at h ⊢; exact h
  | d :: ds, vs, h => by
    unfold RepL at h ⊢
    obtain ⟨v, r, e, h1, h2⟩ := h
    exact ⟨v, r, e, repD_less l d v h1, repL_less l ds r h2⟩
end
theorem repF_less (l : α.Less α') : ∀ {fs : List (Str × D)} {vs : List (Str × V)}, RepF K w α H fs vs → RepF K w α' H fs vs
  | [], vs, h => h
  | d :: ds, vs, h => by
    obtain ⟨v, r, e, h1, h2⟩ := h
    exact ⟨v, r, e, repD_less l _ _ h1, repF_less l h2⟩
theorem repC_less (l : α.Less α') {c : Cel} {b : Addr} (hc : RepC K w α H c b) : RepC K w α' H c b := by
  cases c with
  | lst ds => obtain ⟨vs, g1, g2⟩ := hc; exact ⟨vs, g1, repL_less l _ _ g2⟩
  | dic lk ks ds => obtain ⟨kv, vs, xs, g1, g2, g3, g4⟩ := hc; exact ⟨kv, vs, xs, g1, g2, repL_less l _ _ g3, repL_less l _ _ g4⟩
  | ins c fs => obtain ⟨dx, vs, g1, g2⟩ := hc; exact ⟨dx, vs, g1, repF_less l g2⟩
end
theorem less_show : α.Less (α.show a) := ⟨fun _ h => has_show h, fun _ _ h => h⟩
theorem rep_show (rp : Rep K w α S H) : Rep K w (α.show a) S H :=
  ⟨rp.nd, rp.len, fun b h => rp.hd b (List.mem_filter.mp h).1, fun b h => rp.dj b (List.mem_filter.mp h).1, fun n c b h1 h2 => repC_less less_show (rp.cell n c b h1 h2)⟩
/-- the hidden object becomes a cell -/
def Al.cell (α : Al) (a : Addr) : Al := ⟨α.al ++ [a], α.hid.filter fun b => decide (b ≠ a)⟩
theorem less_cell (ha : a ∈ α.hid) : α.Less (α.cell a) := ⟨fun b h => by
  rcases h with h | h
  · rcases List.mem_append.mp h with h | h
    · exact .inl h
    · have e : b = a := by simpa using h
      rw [e]; exact .inr ha
  · exact .inr (List.mem_filter.mp h).1, fun n b h => by
  have hn := (List.getElem?_eq_some_iff.mp h).1
  show (α.al ++ [a])[n]? = some b
  rw [List.getElem?_append_left hn]; exact h⟩
theorem rep_cell {c : Cel} (rp : Rep K w α S H) (ha : a ∈ α.hid) (hn : a ∉ α.al) (hc : RepC K w (α.cell a) H c a) : Rep K w (α.cell a) (S ++ [c]) H := by
  refine ⟨List.nodup_append.mpr ⟨rp.nd, by simp, fun x hx y hy e => ?_⟩, by simp [Al.cell, rp.len], fun b h => rp.hd b (List.mem_filter.mp h).1, fun b h z => ?_, fun n c' b h1 h2 => ?_⟩
  · have e2 : y = a := by simpa using hy
    exact hn (by rw [← e2, ← e]; exact hx)
  · rcases List.mem_append.mp z with z | z
    · exact rp.dj b (List.mem_filter.mp h).1 z
    · have e2 : b = a := by simpa using z
      have := (List.mem_filter.mp h).2
      rw [e2] at this
      simp at this
  · by_cases hl : n < S.length
    · rw [List.getElem?_append_left hl] at h1
      have h2 : (α.al ++ [a])[n]? = some b := h2
      rw [List.getElem?_append_left (by rw [rp.len]; exact hl)] at h2
      exact repC_less (less_cell ha) (rp.cell n c' b h1 h2)
    · have hl2 : n < (S ++ [c]).length := (List.getElem?_eq_some_iff.mp h1).1
      have e : n = S.length := by
        rw [List.length_append] at hl2
        simp only [List.length_cons, List.length_nil] at hl2
        omega
      have h1' : (S ++ [c])[S.length]? = some c' := by rw [← e]; exact h1
      have h2' : (α.al ++ [a])[α.al.length]? = some b := by rw [rp.len, ← e]; exact h2
      simp at h1' h2'
      subst h1' h2'
      exact hc
theorem stp_cell2 (st : Stp α H α1 H1) (ha : H a = none) (hd : ∀ b ∈ α.hid, H b ≠ none) : Stp α H (α1.cell a) H1 := by
  obtain ⟨β, e, hb⟩ := st.pre
  refine ⟨⟨β ++ [a], by show α1.al ++ [a] = _; rw [e, List.append_assoc], fun b h => ?_⟩, fun b h => st.hid b (List.mem_filter.mp h).1, fun b h => List.mem_filter.mpr ⟨st.stay b h, decide_eq_true fun e => hd b h (by rw [e]; exact ha)⟩, st.keep, st.dom, st.tup, st.dat, st.lst⟩
  rcases List.mem_append.mp h with h | h
  · exact hb b h
  · have e2 : b = a := by simpa using h
    rw [e2]; exact ha
theorem stp_show (st : Stp α H α1 H1) (ha : H a = none) (hd : ∀ b ∈ α.hid, H b ≠ none) : Stp α H (α1.show a) H1 :=
  ⟨st.pre, fun b h => st.hid b (List.mem_filter.mp h).1, fun b h => List.mem_filter.mpr ⟨st.stay b h, decide_eq_true fun e => hd b h (by rw [e]; exact ha)⟩, st.keep, st.dom, st.tup, st.dat, st.lst⟩
theorem not_show : ¬ (a ∈ (α.show a).hid) := fun h => by
  have := (List.mem_filter.mp h).2
  simp at this
/-- an object that came later, hidden, changes -/
theorem stp_later {o : HO} (st : Stp α H α1 H1) (ha : H a = none) (hh : ∀ b ∈ α.hid, H b ≠ none) : Stp α H α1 (upd H1 a o) :=
  ⟨st.pre, st.hid, st.stay, fun b h => (upd_ne fun e => hh b h (by rw [e]; exact ha)).trans (st.keep b h), fun b h => upd_dom (st.dom b h), fun b vs h => rd_upd_ne (fun e => rd_some h (by rw [e]; exact ha)) (st.tup b vs h),
    fun b u hd hb h => rd_upd_ne (fun e => rd_some h (by rw [e]; exact ha)) (st.dat b u hd hb h), fun b vs hb h => by
    rw [upd_ne fun e => rd_some (.inl h) (by rw [e]; exact ha)]; exact st.lst b vs hb h⟩
mutual
theorem repD_hid {o : HO} (ha : a ∈ α.hid) (hl : ∀ vs, ¬ Rd H a (.tup vs)) : ∀ (d : D) (v : V), RepD K w α H d v → RepD K w α (upd H a o) d v
  | .non, v, h => by unfold RepD at h ⊢; exact h
  | .bl b, v, h => by unfold RepD at h ⊢; exact h
  | .int i, v, h => by unfold RepD at h ⊢; exact h
  | .str x, v, h => by unfold RepD at h ⊢; exact h
  | .tup ds, v, h => by
    unfold RepD at h ⊢
    obtain ⟨b, vs, e, q, r⟩ := h
    refine ⟨b, vs, e, ?_, repL_hid ha hl ds vs r⟩
    rcases q with q | q
    · exact .inl (rd_upd_ne (fun e => hl vs (by rw [← e]; exact q)) q)
    · exact .inr q
  | .lst ds, v, h => by
    unfold RepD at h ⊢
    obtain ⟨b, vs, e, n, q, r⟩ := h
    exact ⟨b, vs, e, n, by rw [upd_ne fun e => n (.inr (by rw [e]; exact ha))]; exact q, repL_hid ha hl ds vs r⟩
  | .wl ds, v, h => by
    unfold RepD at h ⊢
    obtain ⟨b, vs, e, q, r⟩ := h
    refine ⟨b, vs, e, ?_, repL_hid ha hl ds vs r⟩
    rcases q with ⟨n, q⟩ | q
    · exact .inl ⟨n, rd_upd_ne (fun e => n (.inr (by rw [e]; exact ha))) q⟩
    · exact .inr q
  | .dic ks ds, v, h => by
    unfold RepD at h ⊢
    obtain ⟨b, kv, vs, xs, e, n, q, k, r1, r2⟩ := h
    exact ⟨b, kv, vs, xs, e, n, rd_upd_ne (fun e => n (.inr (by rw [e]; exact ha))) q, k, repL_hid ha hl ks kv r1, repL_hid ha hl ds vs r2⟩
  | .ref n, v, h => by
    unfold RepD at h ⊢
    exact h
theorem repL_hid {o : HO} (ha : a ∈ α.hid) (hl : ∀ vs, ¬ Rd H a (.tup vs)) : ∀ (ds : List D) (vs : List V), RepL K w α H ds vs → RepL K w α (upd H a o) ds vs
  | [], vs, h => by unfold RepL at h ⊢; exact h
  | d :: ds, vs, h => by
    unfold RepL at h ⊢
    obtain ⟨v, r, e, h1, h2⟩ := h
    exact ⟨v, r, e, repD_hid ha hl d v h1, repL_hid ha hl ds r h2⟩
end
theorem repF_hid {o : HO} (ha : a ∈ α.hid) (hl : ∀ vs, ¬ Rd H a (.tup vs)) : ∀ {fs : List (Str × D)} {vs : List (Str × V)}, RepF K w α H fs vs → RepF K w α (upd H a o) fs vs
  | [], vs, h => h
  | d :: ds, vs, h => by
    obtain ⟨v, r, e, h1, h2⟩ := h
    exact ⟨v, r, e, repD_hid ha hl _ _ h1, repF_hid ha hl h2⟩
theorem rep_hid {o : HO} (rp : Rep K w α S H) (ha : a ∈ α.hid) (hl : ∀ vs, ¬ Rd H a (.tup vs)) : Rep K w α S (upd H a o) :=
  ⟨rp.nd, rp.len, fun b h => upd_dom (rp.hd b h), rp.dj, fun n c b h1 h2 => by
    have hc := rp.cell n c b h1 h2
    have e : (upd H a o) b = H b := upd_ne fun e => rp.dj a ha (by rw [← e]; exact List.mem_of_getElem? h2)
    cases c with
    | lst ds => obtain ⟨vs, g1, g2⟩ := hc; exact ⟨vs, e.trans g1, repL_hid ha hl _ _ g2⟩
    | dic lk ks ds => obtain ⟨kv, vs, xs, g1, g2, g3, g4⟩ := hc; exact ⟨kv, vs, xs, by rw [e]; exact g1, g2, repL_hid ha hl _ _ g3, repL_hid ha hl _ _ g4⟩
    | ins c fs => obtain ⟨dx, vs, g1, g2⟩ := hc; exact ⟨dx, vs, e.trans g1, repF_hid ha hl g2⟩⟩
theorem lst_notup {vs : List V} (h : H a = some (.lst vs)) (us : List V) : ¬ Rd H a (.tup us) := by
  rintro (q | ⟨o, q⟩) <;> (rw [h] at q; cases q)
end
/-- what becomes of the new list: a value, a cell -/
@[simp] def finL (ds : List D) : M D := fun S => .val (.lst ds) S
@[simp] def finC (ds : List D) : M D := fun S => .val (.ref S.length) (S ++ [.lst ds])
def Fin (K : PySem.W.Frag) (w : World) (fin : List D → M D) : Prop := ∀ (E : XK) (α0 α : Al) (H0 H : Hp) (S : Sto) (a : Addr) (ds : List D) (vs : List V) (Q : VK), Stp α0 H0 α H → H0 a = none → (∀ b ∈ α0.hid, H0 b ≠ none) → a ∈ α.hid → a ∉ α.al → Rep K w α S H → H a = some (.lst vs) → RepL K w α H ds vs →
  Post K w (RepD K w) E α0 H0 (fin ds S) Q → Q (.ref a) H
theorem fin_l {K : PySem.W.Frag} {w : World} : Fin K w finL := fun E α0 α H0 H S a ds vs Q st ha hh hi hn rp hl l q =>
  q (α.show a) H _ (stp_show st ha hh) (rep_show rp) (by unfold RepD; exact ⟨a, vs, rfl, fun z => z.elim hn not_show, hl, repL_less less_show _ _ l⟩)
theorem fin_c {K : PySem.W.Frag} {w : World} : Fin K w finC := fun E α0 α H0 H S a ds vs Q st ha hh hi hn rp hl l q =>
  q (α.cell a) H _ (stp_cell2 st ha hh) (rep_cell rp hi hn ⟨vs, hl, repL_less (less_cell hi) _ _ l⟩) (by unfold RepD; exact ⟨a, rfl, by rw [← rp.len]; simp [Al.cell]⟩)
@[simp] noncomputable def eFin (fin : List D → M D) (f : Rho → M (List D)) : Rho → M D := fun ρ S => (f ρ S).bind fin
/-- tests of a comprehension -/
abbrev ZTs (X : Cx) (E : XK) (ifs : List Expr) (t : Rho → M Bool) : Prop := PTs X ifs (liftB X.K X.w E t)
theorem PTs.weak {X : Cx} {e : List Expr} {t t' : TT} (h : PTs X e t) (k : ∀ σ H Q, t' σ H Q → t σ H Q) : PTs X e t' := ⟨fun pins s σ H Q I q => h.run pins s σ H Q I (k σ H Q q)⟩
theorem zts_nil {X : Cx} {E : XK} : ZTs X E [] bYes := PTs.weak pts_nil fun σ H Q ⟨α, S, ρ, rp, re, q⟩ => Post.now q rp rfl
theorem zts_one {X : Cx} {E : XK} {c : Expr} {t : Rho → M Bool} (h : ZT X E c t) : ZTs X E [c] t := pts_one h
theorem compL_ok {ok : Sto → Prop} {g : D → Rho → M Rho} {t : Rho → M Bool} {e : Rho → M D} {ρ : Rho} {ds : List D} {S : Sto} (h : compL ok g t e ρ ds S ≠ .stuck) : ok S := by
  refine Classical.byContradiction fun n => h ?_
  cases ds with
  | nil => unfold compL; exact guard_no n
  | cons d ds => unfold compL; exact guard_no n
theorem Stp.hidAl {α0 α : Al} {H0 H : Hp} {a : Addr} {S : Sto} {K : PySem.W.Frag} {w : World} (st : Stp α0 H0 α H) (rp0 : Rep K w α0 S H0) (hn : a ∉ α0.al) (hs : H0 a ≠ none) : a ∉ α.al := fun h => by
  obtain ⟨β, e, hb⟩ := st.pre
  rw [e, List.mem_append] at h
  rcases h with h | h
  · exact hn h
  · exact hs (hb a h)
theorem lc_read {X : Cx} {E : XK} {vs : List Nat} {f : Rho → M Src} {g : D → Rho → M Rho} {t : Rho → M Bool} {e : Rho → M D} {fin : List D → M D} (hf : Fin X.K X.w fin) {σ : St} {H : Hp} {Q : VK}
    (h : lift X.K X.w E (eFin fin (eComp f vs g t e)) σ H Q) : tLc (liftI X.K X.w E f) (liftGw X.K X.w E0 vs g) (liftB X.K X.w E0 t) (lift X.K X.w E0 e) vs σ H Q := by
  obtain ⟨α, S, ρ, rp, re, q⟩ := h
  refine ⟨α, S, ρ, rp, re, ?_⟩
  unfold eFin eComp at q
  cases hfs : f ρ S with
  | stuck => rw [hfs] at q; exact q.elim
  | exc c p S' => rw [hfs] at q; exact q
  | val s S1 =>
    rw [hfs] at q
    have q : Post X.K X.w (RepD X.K X.w) E α H ((if s.items.length ≤ sizeLine then compL s.ok g t e (wipeR ρ vs) s.items S1 else .stuck).bind fin) Q := q
    by_cases hlen : s.items.length ≤ sizeLine
    case neg => rw [if_neg hlen] at q; exact q.elim
    rw [if_pos hlen] at q
    have hok : s.ok S1 := compL_ok fun e => by rw [e] at q; exact q
    refine ⟨hok, fun α1 H1 J st1 rp1 gv a ha => ?_⟩
    have q := Post.mono st1 q
    have re1 := (re.mono st1).wipe vs
    -- the list is hidden while it grows
    have st2 : Stp α1 H1 (α1.hide a) (upd H1 a (.lst [])) := stp_hide rp1.hd ha
    have nal : a ∉ α1.al := fun z => rp1.mem_some (.inl z) ha
    refine ⟨fun i m H => ∃ (α : Al) (S : Sto) (ds acc : List D) (av : List V), s.items.drop i = ds ∧ m = ds.length ∧ acc.length ≤ i ∧ Stp α1 H1 α H ∧ a ∈ α.hid ∧ a ∉ α.al ∧ Rep X.K X.w α S H ∧ H a = some (.lst av) ∧ RepL X.K X.w α H acc av ∧
      Post X.K X.w (RepD X.K X.w) E α1 H1 ((compL s.ok g t e (wipeR ρ vs) ds S).bind fun ys S' => fin (acc ++ ys) S') Q,
      ⟨_, α1.hide a, S1, s.items, [], [], rfl, rfl, Nat.le_refl _, st2, List.mem_cons_self, nal, rep_hide rp1 ha, upd_same, RepL.nil, q⟩, ?_⟩
    rintro i m H ⟨α, S, ds, acc, av, hd, hm, hal, st, hah, han, rp, hav, lav, q⟩
    have hok : s.ok S := compL_ok fun e => by rw [e] at q; exact q
    obtain ⟨g1, g2⟩ := gv α S H st.q rp hok i
    cases ds with
    | nil =>
      refine .inl ⟨g1 (List.drop_eq_nil_iff.mp hd), ?_⟩
      unfold compL at q
      rw [guard_of hok] at q
      have q : Post X.K X.w (RepD X.K X.w) E α1 H1 (fin (acc ++ []) S) Q := q
      rw [List.append_nil] at q
      exact hf E α1 α H1 H S a acc av Q st ha rp1.hd hah han rp hav lav q
    | cons d ds =>
      have hi : s.items[i]? = some d := by
        have : (s.items.drop i)[0]? = some d := by rw [hd]; rfl
        rw [List.getElem?_drop] at this
        exact this
      have hil := (List.getElem?_eq_some_iff.mp hi).1
      have hd' : s.items.drop (i + 1) = ds := by
        rw [← List.drop_drop, hd]
        rfl
      obtain ⟨g3, g4⟩ := g2 d hi
      refine .inr ⟨g3, fun H => ∃ (α : Al) (S : Sto) (acc : List D) (av : List V), acc.length ≤ i + 1 ∧ Stp α1 H1 α H ∧ a ∈ α.hid ∧ a ∉ α.al ∧ Rep X.K X.w α S H ∧ H a = some (.lst av) ∧ RepL X.K X.w α H acc av ∧
        Post X.K X.w (RepD X.K X.w) E α1 H1 ((compL s.ok g t e (wipeR ρ vs) ds S).bind fun ys S' => fin (acc ++ ys) S') Q,
        fun H' ⟨α', S', acc', av', h1, h2, h3, h4, h5, h6, h7, h8⟩ => ⟨ds.length, by rw [hm]; exact Nat.lt_succ_self _, α', S', ds, acc', av', hd', rfl, h1, h2, h3, h4, h5, h6, h7, h8⟩, fun x H' hy => ?_⟩
      obtain ⟨stx, rpx, rx⟩ := g4 x H' hy
      unfold compL at q
      rw [guard_of hok] at q
      -- the target
      have q1 : Post X.K X.w (RepD X.K X.w) E α1 H1 ((noX (g d (wipeR ρ vs)) S).bind fun ρ1 S1 => ((noX (t ρ1) S1).bind fun b S2 => if b = true then (noX (e ρ1) S2).bind fun y S3 => (compL s.ok g t e (wipeR ρ vs) ds S3).bind fun ys S4 => .val (y :: ys) S4 else compL s.ok g t e (wipeR ρ vs) ds S2).bind fun ys S' => fin (acc ++ ys) S') Q := by
        have e1 : ∀ {δ ε ζ : Type} (m : Out δ) (k : δ → Sto → Out ε) (l : ε → Sto → Out ζ), (m.bind k).bind l = m.bind fun x S => (k x S).bind l := fun m k l => by cases m <;> rfl
        rw [e1] at q
        exact q
      have reW : RepE X.K X.w α H' (wipeR ρ vs) (L2.wipe σ vs) := re1.mono (st.trans stx)
      refine ⟨α, S, wipeR ρ vs, d, rpx, reW, rx, Post.stepX (st.trans stx) q1 fun ρ1 S3 α3 H3 σ3 _ st3 rp3 re3 q3 => ⟨re3.2.trans (by rw [wipe_wipe]), ?_⟩⟩
      have e1 : ∀ {δ ε ζ : Type} (m : Out δ) (k : δ → Sto → Out ε) (l : ε → Sto → Out ζ), (m.bind k).bind l = m.bind fun x S => (k x S).bind l := fun m k l => by cases m <;> rfl
      rw [e1] at q3
      refine ⟨α3, S3, ρ1, rp3, re3.1, Post.stepX ((st.trans stx).trans st3) q3 fun b S4 α4 H4 c _ st4 rp4 r4 q4 => ?_⟩
      subst r4
      have st04 := ((st.trans stx).trans st3).trans st4
      have st14 := (stx.trans st3).trans st4
      have hav4 : H4 a = some (.lst av) := (st14.keep a hah).trans hav
      have hah4 : a ∈ α4.hid := st14.stay a hah
      have lav4 := repL_mono st14 _ _ lav
      cases b with
      | false =>
        rw [if_neg Bool.false_ne_true] at q4 ⊢
        exact ⟨α4, S4, acc, av, by omega, st04, hah4, rp4.dj a hah4, rp4, hav4, lav4, q4⟩
      | true =>
        rw [if_pos rfl] at q4 ⊢
        rw [e1] at q4
        refine ⟨α4, S4, ρ1, rp4, re3.1.mono st4, Post.stepX st04 q4 fun y S5 α5 H5 yv _ st5 rp5 r5 q5 => ?_⟩
        rw [e1] at q5
        have hav5 : H5 a = some (.lst av) := (st5.keep a hah4).trans hav4
        have hah5 : a ∈ α5.hid := st5.stay a hah4
        have hnt : ∀ us, ¬ Rd H5 a (.tup us) := lst_notup hav5
        refine ⟨av, hav5, ?_, α5, S5, acc ++ [y], av ++ [yv], by rw [List.length_append]; simp only [List.length_cons, List.length_nil]; omega, stp_later (st04.trans st5) ha rp1.hd, hah5, rp5.dj a hah5, rep_hid rp5 hah5 hnt, upd_same, ?_, ?_⟩
        · rw [lav.length]
          omega
        · exact (repL_hid hah5 hnt _ _ (repL_mono st5 _ _ lav4)).append (.one (repD_hid hah5 hnt _ _ r5))
        · have e2 : ((compL s.ok g t e (wipeR ρ vs) ds S5).bind fun ys S' => fin ((acc ++ [y]) ++ ys) S') = (compL s.ok g t e (wipeR ρ vs) ds S5).bind fun ys S4 => (Out.val (y :: ys) S4).bind fun ys S' => fin (acc ++ ys) S' := by
            cases compL s.ok g t e (wipeR ρ vs) ds S5 with
            | val ys S6 => simp
            | exc c p S6 => rfl
            | stuck => rfl
          rw [e2]
          exact q5
section
variable {X : Cx} {E : XK} {pos : Pos} {elt tg iter : Expr} {ifs : List Expr} {scope : Scope} {own : List (Str × Nat)} {f : Rho → M Src} {g : D → Rho → M Rho} {t : Rho → M Bool} {e : Rho → M D} {fin : List D → M D}
/-- [elt for tg in iter if ..] -/
theorem ze_lc (hf : Fin X.K X.w fin) (hc : X.calm = true) (hN : X.N.Nodup) (hi : ZI X E tg iter f) (ok : BlkOk X.N X.env.scope scope own)
    (hg : ∀ (s : Shared) (H : Hp) (C : Addr) (cl : List (Str × Addr)) (fp : List Addr), ZGw (X.blk s H scope (compEnvC scope cl C X.env) fp) E0 (own.map (·.2)) tg g)
    (ht : ∀ (s : Shared) (H : Hp) (C : Addr) (cl : List (Str × Addr)) (fp : List Addr), ZTs (X.blk s H scope (compEnvC scope cl C X.env) fp) E0 ifs t)
    (he : ∀ (s : Shared) (H : Hp) (C : Addr) (cl : List (Str × Addr)) (fp : List Addr), ZE (X.blk s H scope (compEnvC scope cl C X.env) fp) E0 elt e) (hs : ∀ x, foldedSetIterable iter X.env x = pure x := by intro _; rfl) :
    ZE X E (.ListComp elt [⟨tg, iter, ifs, 0⟩] scope pos) (eFin fin (eComp f (own.map (·.2)) g t e)) := PE.weak (pe_lc hc hN hi ok hg ht he hs) fun σ H Q h => lc_read hf h
/-- y = [elt for ..] on one line, y a local -/
theorem zs_lc {i : Nat} {y : Str} {py spos : Pos} (hf : Fin X.K X.w fin) (hc : X.calm = true) (hN : X.N.Nodup) (hy : X.N[i]? = some y) (hyl : X.env.scope.names.lookup y = some .local)
    (hsw : swapsWith (.ListComp elt [⟨tg, iter, ifs, 0⟩] scope pos) (some (.Name y py)) spos.line X.env = pure true) (hi : ZI X E tg iter f) (ok : BlkOk X.N X.env.scope scope own)
    (hg : ∀ (s : Shared) (H : Hp) (C : Addr) (cl : List (Str × Addr)) (fp : List Addr), ZGw (X.blk s H scope (compEnvC scope cl C X.env) fp) E0 (own.map (·.2)) tg g)
    (ht : ∀ (s : Shared) (H : Hp) (C : Addr) (cl : List (Str × Addr)) (fp : List Addr), ZTs (X.blk s H scope (compEnvC scope cl C X.env) fp) E0 ifs t)
    (he : ∀ (s : Shared) (H : Hp) (C : Addr) (cl : List (Str × Addr)) (fp : List Addr), ZE (X.blk s H scope (compEnvC scope cl C X.env) fp) E0 elt e) (hs : ∀ x, foldedSetIterable iter X.env x = pure x := by intro _; rfl) :
    ZS X E (.Assign [.Name y py] (.ListComp elt [⟨tg, iter, ifs, 0⟩] scope pos) spos) (sAsg (eFin fin (eComp f (own.map (·.2)) g t e)) (tName i)) := PS.weak (ps_setLc hc hN hy hyl hsw hi ok hg ht he hs) fun Q σ H ⟨α, S, ρ, rp, re, q⟩ => by
  refine lc_read hf ⟨α, S, ρ, rp, re, PostS.step q fun d S1 α1 H1 v _ st rp1 r1 q1 => ?_⟩
  exact q1.nx rp1 ((re.mono st).set i r1)
end
end Z
set_option Elab.async false
set_option linter.all false
set_option maxRecDepth 100000
set_option maxHeartbeats 1000000
/-! Z12: defs, calls, instances. -/
namespace Z
open PySem L2 PySem.Spec PyProof.Rows
/-- a def's promise -/
def spZ (K : PySem.W.Frag) (w : World) (n : Nat) (F : List D → M D) : Sp := fun vs H Q E => ∃ α S ds, Rep K w α S H ∧ RepL K w α H ds vs ∧ ds.length = n ∧ Post K w (RepD K w) E α H (F ds S) Q
/-- the def of this body, m names behind its parameters -/
@[simp] def fn0 (m : Nat) (g : Rho → M Fl) : List D → M D := fun ds S => (g (ds.map some ++ List.replicate m none) S).bind fun fl S1 => match fl with
  | .ret d => .val d S1
  | .nx _ => .val .non S1
  | _ => .stuck
section
variable {K : PySem.W.Frag} {w : World} {α : Al} {H : Hp} {S : Sto} {E : XK} {Q : VK}
theorem repL_at : ∀ {ds : List D} {vs : List V} {i : Nat} {d : D}, RepL K w α H ds vs → (ds.map some)[i]? = some (some d) → ∃ v, (vs.map some)[i]? = some (some v) ∧ RepD K w α H d v := by
  intro ds vs i d r h
  rw [List.getElem?_map] at h
  cases e : ds[i]? with
  | none => rw [e] at h; cases h
  | some x =>
    rw [e] at h
    cases h
    obtain ⟨v, h1, h2⟩ := r.get e
    exact ⟨v, by rw [List.getElem?_map, h1]; rfl, h2⟩
theorem repE_start {N : List Str} {ds : List D} {vs : List V} (r : RepL K w α H ds vs) : RepE K w α H (ds.map some ++ List.replicate (N.length - ds.length) none) (L2.start N vs) := by
  have hl := r.length
  unfold L2.start
  rw [hl]
  refine ⟨by simp [hl], fun i d h => ?_⟩
  by_cases c : i < ds.length
  · rw [List.getElem?_append_left (by simpa using c)] at h
    rw [List.getElem?_append_left (by simpa [hl] using c)]
    exact repL_at r h
  · rw [List.getElem?_append_right (by simpa using c), List.getElem?_replicate] at h
    split at h <;> cases h
theorem post_fn {o : Out Fl} (q : Post K w (RepD K w) E α H (o.bind fun fl S1 => match fl with
  | .ret d => .val d S1
  | .nx _ => .val .non S1
  | _ => .stuck) Q) : PostS K w E α H o { nx := fun _ H' => Q .non H', rt := Q } := by
  cases o with
  | val fl S' =>
    cases fl with
    | nx ρ => exact fun α' H' σ' st rp re => q α' H' .non st rp repN
    | ret d => exact q
    | brk ρ => exact q.elim
    | cont ρ => exact q.elim
  | exc c p S' => exact q
  | stuck => exact q
end
/-- a def that may be called by its name -/
structure CalZ (P : Program) (w : World) (K : PySem.W.Frag) (mg : Str → Option Value) (base : Heap) (k : Nat) (x : Str) (n : Nat) (F : List D → M D) : Prop where
  ex : ∃ (f : Addr) (fd : FuncData) (ps : List Str), FnOk P w K mg base CX0 k f fd ps (spZ K w n F) ∧ mg x = some (.ref f) ∧ PySem.W.keepIn K (.ref f) = true ∧ Binds K fd ps []
/-- a method m of the class named c -/
structure MetZ (P : Program) (w : World) (K : PySem.W.Frag) (mg : Str → Option Value) (base : Heap) (k : Nat) (c m : Str) (n : Nat) (F : List D → M D) : Prop where
  ex : ∃ (f : Addr) (fd : FuncData) (ps : List Str), Cls K (He.ga K c) ∧ Meth K (He.ga K c) m f ∧ FnOk P w K mg base CX0 k f fd ps (spZ K w n F) ∧ Binds K fd ps []
/-- a class that may be made by its name -/
structure MakZ (P : Program) (w : World) (K : PySem.W.Frag) (mg : Str → Option Value) (base : Heap) (k : Nat) (c : Str) (n : Nat) (F : List D → M D) : Prop where
  ex : ∃ (f : Addr) (fd : FuncData) (ps : List Str), Mk K (He.ga K c) f ∧ FnOk P w K mg base CX0 k f fd ps (spZ K w n F) ∧ mg c = some (.ref (He.ga K c)) ∧ Binds K fd ps []
section
variable {P : Program} {w : World} {K : PySem.W.Frag} {mg : Str → Option Value} {base : Heap} {k n : Nat} {x c m qual : Str} {F : List D → M D} {f : Addr} {fd : FuncData} {params : Arguments} {body : List Stmt} {scope : Scope} {N ps : List Str} {g : Rho → M Fl}
/-- THE RULE of a def -/
theorem okF (Fu : FunD K x qual params body scope [] [] f fd) (Sc : FnScope N ps scope) (hn : ps.length = n) (hF : F = fn0 (N.length - n) g)
    (hb : ∀ (cdv : Value) (A : Around) (outer : List Env) (s : Shared) (H : Hp) (E E' : XK), Room k (A.deeper (envOfC qual scope s.heap.objs.size f cdv)) → ZSs (cxOf CX0 P w K mg base N qual scope f cdv A outer s H E).nox E' body g) :
    FnOk P w K mg base CX0 (k + 1) f fd ps (spZ K w n F) := by
  subst hF
  refine Fu.ok Sc (fun vs H Q E ⟨α, S, ds, rp, r, hl, q⟩ => by rw [r.length, hl, hn]) fun cdv A outer s H vs Q E hr ⟨α, S, ds, rp, r, hl, q⟩ => ?_
  refine ⟨liftS K w E g, PSs.nox (hb cdv A outer s H E E hr), α, S, _, rp, repE_start r, ?_⟩
  rw [hl]
  exact post_fn q
/-- never run -/
theorem ok_none (h : ps.length = n) : FnOk P w K mg base CX0 k f fd ps (spZ K w n fun _ _ => .stuck) :=
  ⟨fun vs H Q E ⟨α, S, ds, rp, r, hl, q⟩ => by rw [r.length, hl, h], fun A outer s H args us vs Q E hr e hb hv ⟨α, S, ds, rp, r, hl, q⟩ => q.elim⟩
theorem CalZ.mono {j : Nat} (h : CalZ P w K mg base j x n F) (hk : j ≤ k) : CalZ P w K mg base k x n F := let ⟨f, fd, ps, F, a⟩ := h.ex; ⟨f, fd, ps, F.mono hk, a⟩
theorem MetZ.mono {j : Nat} (h : MetZ P w K mg base j c m n F) (hk : j ≤ k) : MetZ P w K mg base k c m n F := let ⟨f, fd, ps, a, b, F, d⟩ := h.ex; ⟨f, fd, ps, a, b, F.mono hk, d⟩
theorem MakZ.mono {j : Nat} (h : MakZ P w K mg base j c n F) (hk : j ≤ k) : MakZ P w K mg base k c n F := let ⟨f, fd, ps, a, F, d⟩ := h.ex; ⟨f, fd, ps, a, F.mono hk, d⟩
theorem calZ (Fu : FunD K x qual params body scope [] [] f fd) (hg : mg x = some (.ref f)) (hb : Binds K fd ps []) (ok : FnOk P w K mg base CX0 k f fd ps (spZ K w n F)) : CalZ P w K mg base k x n F := ⟨f, fd, ps, ok, hg, Fu.kp, hb⟩
end
/-! ### calls -/
@[simp] def eCall (F : List D → M D) (g : Rho → M (List D)) : Rho → M D := fun ρ S => (g ρ S).bind fun ds S1 => F ds S1
section
variable {X : Cx} {E : XK} {k j n : Nat} {x c m f : Str} {F : List D → M D} {p pos apos : Pos} {e o : Expr} {es : List Expr} {g : Rho → M (List D)} {fo fv : Rho → M D}
theorem ze_call (h : CalZ X.prog X.w X.K X.mg X.base k x n F) (hr : Room j X.A) (hk : k ≤ j) (ha : ZA X E (e :: es) g) (hl : LenIs g n) (hg : Gl X x := by rfl)
    (hdb : (x == ("__debug__" : Str)) = false := by decide) (he : starEach (e :: es) X.env = (false, eval e X.env) :: starEach es X.env := by rfl) (hpl : (backTo pos (starEach es X.env)).any (·.1) = false := by rfl) :
    ZE X E (.Call (.Name x p) (e :: es) [] pos) (eCall F g) := by
  obtain ⟨f, fd, ps, ok, hm, kp, b⟩ := h.ex
  refine PE.weak (pe_call (E := E) ok (hr.mono hk) hg hm kp b .nil pass0 ha hdb he hpl) fun σ H Q ⟨α, S, ρ, rp, re, q⟩ => ?_
  refine ⟨α, S, ρ, rp, re, Post.step q fun ds S1 α1 H1 vs ev st rp1 r1 q1 => ?_⟩
  rw [List.append_nil]
  exact ⟨α1, S1, ds, rp1, r1, hl _ _ _ _ ev, q1⟩
theorem ze_call0 (h : CalZ X.prog X.w X.K X.mg X.base k x 0 F) (hr : Room j X.A) (hk : k ≤ j) (hg : Gl X x := by rfl)
    (hdb : (x == ("__debug__" : Str)) = false := by decide) : ZE X E (.Call (.Name x p) [] [] pos) (eCall F aNil) := by
  obtain ⟨f, fd, ps, ok, hm, kp, b⟩ := h.ex
  exact PE.weak (pe_call0 (E := E) ok (hr.mono hk) hg hm kp b .nil pass0 hdb) fun σ H Q ⟨α, S, ρ, rp, re, q⟩ => ⟨α, S, [], rp, RepL.nil, rfl, q⟩
/-! ### instances -/
def fGet (f : Str) (fs : List (Str × D)) : Option D := fs.lookup f
def fPut (f : Str) (d : D) : List (Str × D) → List (Str × D)
  | [] => [(f, d)]
  | (g, x) :: r => if g = f then (g, d) :: r else (g, x) :: fPut f d r
section
variable {K : PySem.W.Frag} {w : World} {α : Al} {H : Hp}
theorem repF_none : ∀ {fs : List (Str × D)} {vs : List (Str × V)}, RepF K w α H fs vs → fs.lookup f = none → vs.lookup f = none
  | [], vs, h, _ => by cases h; rfl
  | (g, d) :: fs, vs, h, q => by
    obtain ⟨v, r, rfl, h1, h2⟩ := h
    cases e : (f == g) with
    | true => simp [List.lookup, e] at q
    | false =>
      simp only [List.lookup, e] at q ⊢
      exact repF_none h2 q
theorem repF_some {d : D} : ∀ {fs : List (Str × D)} {vs : List (Str × V)}, RepF K w α H fs vs → fs.lookup f = some d → ∃ v, vs.lookup f = some v ∧ RepD K w α H d v
  | [], vs, h, q => by cases q
  | (g, d') :: fs, vs, h, q => by
    obtain ⟨v, r, rfl, h1, h2⟩ := h
    cases e : (f == g) with
    | true =>
      simp only [List.lookup, e] at q ⊢
      cases q
      exact ⟨v, rfl, h1⟩
    | false =>
      simp only [List.lookup, e] at q ⊢
      exact repF_some h2 q
theorem repF_put {d : D} {v : V} (r : RepD K w α H d v) : ∀ {fs : List (Str × D)} {vs : List (Str × V)}, RepF K w α H fs vs → RepF K w α H (fPut f d fs) (putF f v vs)
  | [], vs, h => by cases h; exact ⟨v, [], rfl, r, rfl⟩
  | (g, d') :: fs, vs, h => by
    obtain ⟨v', r', rfl, h1, h2⟩ := h
    show RepF K w α H (if g = f then (g, d) :: fs else (g, d') :: fPut f d fs) (if g = f then (g, v) :: r' else (g, v') :: putF f v r')
    by_cases e : g = f
    · rw [if_pos e, if_pos e]; exact ⟨v, r', rfl, r, h2⟩
    · rw [if_neg e, if_neg e]; exact ⟨v', _, rfl, h1, repF_put r h2⟩
theorem repF_len : ∀ {fs : List (Str × D)} {vs : List (Str × V)}, RepF K w α H fs vs → vs.length = fs.length
  | [], vs, h => by cases h; rfl
  | (g, d') :: fs, vs, h => by
    obtain ⟨v', r', rfl, h1, h2⟩ := h
    rw [List.length_cons, List.length_cons, repF_len h2]
end
/-- the instance of the class c -/
def insOf (c : Str) (S : Sto) : D → Option (List (Str × D))
  | .ref n => (match S[n]? with
    | some (.ins c' fs) => if c' = c then some fs else none
    | _ => none)
  | _ => none
theorem insOf_rep {K : PySem.W.Frag} {w : World} {α : Al} {H : Hp} {S : Sto} {d : D} {v : V} {fs : List (Str × D)} (rp : Rep K w α S H) (h : insOf c S d = some fs) (r : RepD K w α H d v) :
    ∃ n a dx vs, d = .ref n ∧ S[n]? = some (.ins c fs) ∧ v = .ref a ∧ α.al[n]? = some a ∧ H a = some (.ins (He.ga K c) dx vs) ∧ RepF K w α H fs vs := by
  cases d with
  | ref n =>
    cases hs : S[n]? with
    | none => simp [insOf, hs] at h
    | some ce =>
      cases ce with
      | ins c' fs' =>
        simp only [insOf, hs] at h
        by_cases ec : c' = c
        · rw [if_pos ec] at h
          cases h
          subst ec
          unfold RepD at r
          obtain ⟨a, rfl, ha⟩ := r
          obtain ⟨dx, vs, h1, h2⟩ := rp.cell n _ a hs ha
          exact ⟨n, a, dx, vs, rfl, hs, rfl, ha, h1, h2⟩
        · rw [if_neg ec] at h; cases h
      | lst ds => simp [insOf, hs] at h
      | dic lk ks ds => simp [insOf, hs] at h
  | _ => simp [insOf] at h
def opFld (c f : Str) : D → M D := fun o S => match insOf c S o with
  | some fs => (match fs.lookup f with
    | some d => .val d S
    | none => .stuck)
  | none => .stuck
@[simp] def eFld (c f : Str) (fo : Rho → M D) : Rho → M D := fun ρ S => (fo ρ S).bind fun o S1 => opFld c f o S1
theorem ze_fld (c : Str) (cl : Cls X.K (He.ga X.K c)) (na : NoAttr X.K (He.ga X.K c) f) (h : ZE X E o fo) (hb : attributeBase o f X.env (eval o X.env) = eval o X.env := by rfl) : ZE X E (.Attribute o f pos) (eFld c f fo) :=
  PE.weak (pe_fld h hb) fun σ H Q ⟨α, S, ρ, rp, re, q⟩ => by
    refine ⟨α, S, ρ, rp, re, Post.step q fun o S1 α1 H1 x _ st rp1 r1 q1 => ?_⟩
    unfold opFld at q1
    split at q1
    · rename_i fs hi
      split at q1
      · rename_i d hd
        obtain ⟨n, a, dx, vs, e1, e2, e3, e4, e5, e6⟩ := insOf_rep rp1 hi r1
        obtain ⟨v, h1, h2⟩ := repF_some e6 hd
        exact ⟨a, _, dx, vs, v, e3, e5, cl, na, h1, q1.now rp1 h2⟩
      · exact q1.elim
    · exact q1.elim
def opFldSet (c f : Str) : D → D → M Unit := fun o d S => match o with
  | .ref n => (match S[n]? with
    | some (.ins c' fs) => if c' = c ∧ fs.length < 1000 then .val () (S.set n (.ins c (fPut f d fs))) else .stuck
    | _ => .stuck)
  | _ => .stuck
/-- o.f = v -/
@[simp] def sFldZ (c f : Str) (fo fv : Rho → M D) : Rho → M Fl := fun ρ S => (fv ρ S).bind fun d S1 => (fo ρ S1).bind fun o S2 => (opFldSet c f o d S2).bind fun _ S3 => .val (.nx ρ) S3
theorem zs_fld (c : Str) {value : Expr} {pos' : Pos} (cl : Cls X.K (He.ga X.K c)) (na : NoAttr X.K (He.ga X.K c) f) (h1 : ZE X E o fo) (h2 : ZE X E value fv) (hs : swapsWith value (some (.Attribute o f pos')) pos.line X.env = pure false := by rfl) :
    ZS X E (.Assign [.Attribute o f pos'] value pos) (sFldZ c f fo fv) := PS.weak (ps_fld h1 h2 hs) fun Q σ H ⟨α, S, ρ, rp, re, q⟩ => by
  refine ⟨α, S, ρ, rp, re, PostS.step q fun d S1 α1 H1 y _ st rp1 r1 q1 => ?_⟩
  refine ⟨α1, S1, ρ, rp1, re.mono st, PostS.step q1 fun o S2 α2 H2 x _ st2 rp2 r2 q2 => ?_⟩
  cases o with
  | ref n =>
    cases hs : S2[n]? with
    | none => simp only [opFldSet, hs, Out.bind] at q2; exact q2.elim
    | some ce =>
      cases ce with
      | ins c' fs =>
        simp only [opFldSet, hs] at q2
        by_cases hc : c' = c ∧ fs.length < 1000
        · rw [if_pos hc] at q2
          obtain ⟨ec, hl⟩ := hc
          subst ec
          unfold RepD at r2
          obtain ⟨a, rfl, ha⟩ := r2
          obtain ⟨dx, vs, e1, e2⟩ := rp2.cell n _ a hs ha
          refine ⟨a, _, dx, vs, rfl, e1, cl, na, by rw [repF_len e2]; exact hl, ?_⟩
          have st3 := stp_set (o := .ins (He.ga X.K c') dx (putF f y vs)) rp2 ha
          exact q2 α2 _ σ st3 (rp2.setCell ha ⟨dx, _, upd_same, repF_put (repD_mono (st2.trans st3) _ _ r1) (repF_mono st3 e2)⟩) (((re.mono st).mono st2).mono st3)
        · rw [if_neg hc] at q2; exact q2.elim
      | lst ds => simp only [opFldSet, hs, Out.bind] at q2; exact q2.elim
      | dic lk ks ds => simp only [opFldSet, hs, Out.bind] at q2; exact q2.elim
  | _ => simp only [opFldSet, Out.bind] at q2; exact q2.elim
/-! ### methods -/
def opMeth (c m : Str) (F : List D → M D) (o : D) : List D → M D := fun ds S => F (o :: ds) S
@[simp] def eMeth (c m : Str) (F : List D → M D) (fo : Rho → M D) (g : Rho → M (List D)) : Rho → M D := fun ρ S => (fo ρ S).bind fun o S1 => match insOf c S1 o with
  | some fs => if fs.lookup m = none then (g ρ S1).bind fun ds S2 => F (o :: ds) S2 else .stuck
  | none => .stuck
theorem ze_meth {pl : Sem Bool} (h : MetZ X.prog X.w X.K X.mg X.base k c m (n + 1) F) (hr : Room j X.A) (hk : k ≤ j) (ho : ZE X E o fo) (ha : ZA X E (e :: es) g) (hl : LenIs g n)
    (hst : starEach (e :: es) X.env = (false, eval e X.env) :: starEach es X.env := by rfl) (hpl : (backTo pos (starEach es X.env)).any (·.1) = false := by rfl)
    (ht : eval (.Call (.Attribute o m apos) (e :: es) [] pos) X.env = (do
      let ov ← eval o X.env
      standAt apos.atName
      let (f, first) ← holding [ov] (getMethod ov m pl)
      callWith pos f first (backTo pos (starEach (e :: es) X.env)) (backToKw pos (keywordEach [] X.env))) := by rfl) :
    ZE X E (.Call (.Attribute o m apos) (e :: es) [] pos) (eMeth c m F fo g) := by
  obtain ⟨f, fd, ps, cl, me, ok, b⟩ := h.ex
  refine PE.weak (pe_meth (E := E) ho cl me ok (hr.mono hk) b .nil pass0 ha hst hpl ht) fun σ H Q ⟨α, S, ρ, rp, re, q⟩ => ?_
  refine ⟨α, S, ρ, rp, re, Post.step q fun o S1 α1 H1 x _ st rp1 r1 q1 => ?_⟩
  split at q1
  · rename_i fs hi
    split at q1
    · rename_i hm
      obtain ⟨n, a, dx, vs, e1, e2, e3, e4, e5, e6⟩ := insOf_rep rp1 hi r1
      refine ⟨a, dx, vs, e3, e5, repF_none e6 hm, α1, S1, ρ, rp1, re.mono st, Post.step q1 fun ds S2 α2 H2 us ev st2 rp2 r2 q2 => ?_⟩
      rw [List.append_nil]
      exact ⟨α2, S2, o :: ds, rp2, .cons (repD_mono st2 _ _ r1) r2, by rw [List.length_cons, hl _ _ _ _ ev], q2⟩
    · exact q1.elim
  · exact q1.elim
theorem ze_meth0 {pl : Sem Bool} (h : MetZ X.prog X.w X.K X.mg X.base k c m 1 F) (hr : Room j X.A) (hk : k ≤ j) (ho : ZE X E o fo)
    (ht : eval (.Call (.Attribute o m apos) [] [] pos) X.env = (do
      let ov ← eval o X.env
      standAt apos.atName
      let (f, first) ← holding [ov] (getMethod ov m pl)
      callWith pos f first (backTo pos (starEach [] X.env)) (backToKw pos (keywordEach [] X.env))) := by rfl) :
    ZE X E (.Call (.Attribute o m apos) [] [] pos) (eMeth c m F fo aNil) := by
  obtain ⟨f, fd, ps, cl, me, ok, b⟩ := h.ex
  refine PE.weak (pe_meth0 (E := E) ho cl me ok (hr.mono hk) b .nil pass0 ht) fun σ H Q ⟨α, S, ρ, rp, re, q⟩ => ?_
  refine ⟨α, S, ρ, rp, re, Post.step q fun o S1 α1 H1 x _ st rp1 r1 q1 => ?_⟩
  split at q1
  · rename_i fs hi
    split at q1
    · rename_i hm
      obtain ⟨n, a, dx, vs, e1, e2, e3, e4, e5, e6⟩ := insOf_rep rp1 hi r1
      exact ⟨a, dx, vs, e3, e5, repF_none e6 hm, α1, S1, [o], rp1, .one r1, rfl, q1⟩
    · exact q1.elim
  · exact q1.elim
/-! ### C(..) -/
@[simp] def eMake (c : Str) (F : List D → M D) (g : Rho → M (List D)) : Rho → M D := fun ρ S => (g ρ S).bind fun ds S1 => (F (.ref S1.length :: ds) (S1 ++ [.ins c []])).bind fun v S2 => if isNon v = true then .val (.ref S1.length) S2 else .stuck
theorem make_post {K : PySem.W.Frag} {w : World} {α : Al} {H : Hp} {S : Sto} {ds : List D} {vs : List V} {Q : VK} {x dx : Addr} (rp : Rep K w α S H) (r : RepL K w α H ds vs) (h1 : H x = none) (h2 : H dx = none) (h3 : dx ≠ x) (hl : ds.length = n)
    (q : Post K w (RepD K w) E α H ((F (.ref S.length :: ds) (S ++ [.ins c []])).bind fun v S2 => if isNon v = true then .val (.ref S.length) S2 else .stuck) Q) :
    spZ K w (n + 1) F (.ref x :: vs) (upd (upd H dx (.own x)) x (.ins (He.ga K c) dx [])) (fun v H2 => v = .non ∧ Q (.ref x) H2) E := by
  have st1 : Stp α H α (upd H dx (.own x)) := stp_new rp.hd h2
  have rp1 : Rep K w α S (upd H dx (.own x)) := rp.new h2
  have hx : upd H dx (.own x) x = none := by rw [upd_ne (Ne.symm h3)]; exact h1
  have st2 := stp_cell (o := .ins (He.ga K c) dx []) rp1.hd hx
  have rp2 : Rep K w (α.add x) (S ++ [.ins c []]) (upd (upd H dx (.own x)) x (.ins (He.ga K c) dx [])) := rp1.newCell hx ⟨dx, [], upd_same, rfl⟩
  have hat : (α.add x).al[S.length]? = some x := by
    show (α.al ++ [x])[S.length]? = some x
    rw [← rp.len, List.getElem?_append_right (Nat.le_refl _), Nat.sub_self]; rfl
  refine ⟨α.add x, S ++ [.ins c []], .ref S.length :: ds, rp2, .cons (by unfold RepD; exact ⟨x, rfl, hat⟩) (repL_mono (st1.trans st2) _ _ r), by rw [List.length_cons, hl], ?_⟩
  refine Post.step (Post.mono (st1.trans st2) q) fun d S1 α1 H1 v _ st rp' r1 q1 => ?_
  split at q1
  · rename_i hn
    refine ⟨?_, q1.now rp' (by unfold RepD; exact ⟨x, rfl, st.at_ hat⟩)⟩
    have := isNon_rep r1
    rw [hn] at this
    exact of_decide_eq_true this
  · exact q1.elim
theorem ze_make (h : MakZ X.prog X.w X.K X.mg X.base k c (n + 1) F) (hr : Room j X.A) (hk : k + 1 ≤ j) (ha : ZA X E (e :: es) g) (hl : LenIs g n) (hg : Gl X c := by rfl)
    (hdb : (c == ("__debug__" : Str)) = false := by decide) (he : starEach (e :: es) X.env = (false, eval e X.env) :: starEach es X.env := by rfl) (hpl : (backTo pos (starEach es X.env)).any (·.1) = false := by rfl) :
    ZE X E (.Call (.Name c p) (e :: es) [] pos) (eMake c F g) := by
  obtain ⟨f, fd, ps, M, ok, hm, b⟩ := h.ex
  refine PE.weak (pe_make (E := E) M ok (hr.mono hk) hg hm b .nil pass0 ha hdb he hpl) fun σ H Q ⟨α, S, ρ, rp, re, q⟩ => ?_
  refine ⟨α, S, ρ, rp, re, Post.step q fun ds S1 α1 H1 vs ev st rp1 r1 q1 => ?_⟩
  rw [List.append_nil]
  exact fun x dx h1 h2 h3 => make_post rp1 r1 h1 h2 h3 (hl _ _ _ _ ev) q1
theorem ze_make0 (h : MakZ X.prog X.w X.K X.mg X.base k c 1 F) (hr : Room j X.A) (hk : k + 1 ≤ j) (hg : Gl X c := by rfl)
    (hdb : (c == ("__debug__" : Str)) = false := by decide) : ZE X E (.Call (.Name c p) [] [] pos) (eMake c F aNil) := by
  obtain ⟨f, fd, ps, M, ok, hm, b⟩ := h.ex
  refine PE.weak (pe_make0 (E := E) M ok (hr.mono hk) hg hm b .nil pass0 hdb) fun σ H Q ⟨α, S, ρ, rp, re, q⟩ => ?_
  exact fun x dx h1 h2 h3 => make_post (n := 0) rp RepL.nil h1 h2 h3 rfl q
end
end Z
set_option Elab.async false
set_option linter.all false
set_option maxRecDepth 100000
set_option maxHeartbeats 1000000
/-! Z13: built-in functions, types and methods. -/
namespace Z
open PySem L2 PySem.Spec PyProof.Rows
def BuS (X : Cx) (E : XK) (r : List V → Hp → VK → Prop) (op : List D → M D) : Prop :=
  ∀ (α : Al) (S : Sto) (H : Hp) (ds : List D) (vs : List V) (Q : VK), Rep X.K X.w α S H → RepL X.K X.w α H ds vs → Post X.K X.w (RepD X.K X.w) E α H (op ds S) Q → r vs H Q
section
variable {X : Cx} {E : XK} {x : Str} {p pos apos : Pos} {e o : Expr} {es : List Expr} {g : Rho → M (List D)} {f fo : Rho → M D} {id T : String} {r : List V → Hp → VK → Prop} {op : List D → M D}
theorem ze_blt (hc : CallR X (.builtin id) r) (hs : BuS X E r op) (hm : X.mg x = none) (hv : bootBuiltins x = some (.builtin id)) (ha : ZA X E (e :: es) g) (hg : Gl X x := by rfl) (hn : x ≠ "__name__" := by decide) (hdb : (x == ("__debug__" : Str)) = false := by decide)
    (he : starEach (e :: es) X.env = (false, eval e X.env) :: starEach es X.env := by rfl) (hpl : (backTo pos (starEach es X.env)).any (·.1) = false := by rfl) : ZE X E (.Call (.Name x p) (e :: es) [] pos) (eCall op g) :=
  PE.weak (pe_callB hc hg hm hv ha hn hdb he hpl) fun σ H Q ⟨α, S, ρ, rp, re, q⟩ => ⟨α, S, ρ, rp, re, Post.step q fun ds S1 α1 H1 vs _ st rp1 r1 q1 => hs α1 S1 H1 ds vs Q rp1 r1 q1⟩
theorem ze_bty (hc : CallR X (.type T) r) (hs : BuS X E r op) (hm : X.mg x = none) (hv : bootBuiltins x = some (.type T)) (ha : ZA X E (e :: es) g) (hg : Gl X x := by rfl) (hn : x ≠ "__name__" := by decide) (hdb : (x == ("__debug__" : Str)) = false := by decide)
    (he : starEach (e :: es) X.env = (false, eval e X.env) :: starEach es X.env := by rfl) (hpl : (backTo pos (starEach es X.env)).any (·.1) = false := by rfl) : ZE X E (.Call (.Name x p) (e :: es) [] pos) (eCall op g) :=
  PE.weak (pe_callTy hc hg hm hv ha hn hdb he hpl) fun σ H Q ⟨α, S, ρ, rp, re, q⟩ => ⟨α, S, ρ, rp, re, Post.step q fun ds S1 α1 H1 vs _ st rp1 r1 q1 => hs α1 S1 H1 ds vs Q rp1 r1 q1⟩
/-! ### len -/
/-- lists of any kind, tuples: what is in them -/
def seqA (S : Sto) (d : D) : Option (List D) := match d with
  | .tup ds => some ds
  | d => seqL S d
theorem seqA_rep {K : PySem.W.Frag} {w : World} {α : Al} {S : Sto} {H : Hp} {d : D} {v : V} {ds : List D} (rp : Rep K w α S H) (h : seqA S d = some ds) (r : RepD K w α H d v) : ∃ a vs, v = .ref a ∧ (SqL K H a vs ∨ SqT K H a vs) ∧ RepL K w α H ds vs := by
  cases d with
  | tup es =>
    cases h
    obtain ⟨a, vs, e, q, l⟩ := rep_tup r
    exact ⟨a, vs, e, .inr q, l⟩
  | _ =>
    unfold seqA at h
    obtain ⟨a, vs, e, q, l⟩ := seqL_rep rp h r
    exact ⟨a, vs, e, .inl q, l⟩
def lenD (S : Sto) (d : D) : Option Nat := match d with
  | .str x => if x.length ≤ sizeLine then some x.length else none
  | d => match seqA S d with
    | some ds => some ds.length
    | none => match dictOf S d with
      | some (ks, _) => some ks.length
      | none => none
def bLen : List D → M D := fun ds S => match ds with
  | [d] => (match lenD S d with
    | some n => .val (.int n) S
    | none => .stuck)
  | _ => .stuck
def rLenN (X : Cx) : List V → Hp → VK → Prop := fun vs H Q => ∃ a xs, vs = [.ref a] ∧ Rd H a (dHO X.w a xs) ∧ Q (.int ((xs.length : Nat) : Int)) H
theorem call_lenN : CallR X (.builtin "len") (rLenN X) := by
  intro pins s σ H xs us Q I r h
  obtain ⟨d, es, rfl, hp, q⟩ := h
  obtain ⟨u, rfl, rx⟩ := vals1 r
  obtain rfl : u = .ref d := rx
  obtain ⟨hz, hs, o, es', ep, ho, hx, hd, he, _⟩ := rd_dict I hp
  have hl : es'.size = es.length := by rw [← Array.length_toList, he, List.length_map]
  have hn := line63
  have hraw : s.heap.DictRaw d es' ep := ⟨o, ho, hx, hd⟩
  refine Calls.call_function_entry kind_len plain_len entry_len (args_len1 _) ?_
  unfold Builtin.«len»
  refine wpAny_bind (m := oneArg "len" _) (wpAny_pure ?_)
  refine wpAny_bind (m := callSpecial? (.ref d) (Str.ofString "__len__")) (wpAny_callSpecial?_slot (name := Str.ofString "__len__") hraw.typeIs F.slot_dict_len (call_len_raw hs hraw ?_))
  rw [hl]
  show wpAny _ _ _ _ _ { s with toks := s.toks + 1 }
  refine wpAny_bind (wpAny_holding (wpAny_pure ?_))
  refine wpAny_bind (wpAny_letGo ?_)
  show wpAny _ _ (if ((es.length : Nat) : Int) < 0 then _ else _) _ _ _
  rw [if_neg (by omega)]
  show wpAny _ _ (if ((es.length : Nat) : Int) ≥ 2 ^ 63 then _ else _) _ _ _
  rw [if_neg (by omega)]
  exact wpAny_bind (wpAny_mkInt (wpAny_pure ⟨_, rfl, ⟨.int ((es.length : Nat) : Int), H, I.tok _, ⟨_, rfl⟩, q⟩⟩))
def rLenZ (X : Cx) : List V → Hp → VK → Prop := fun xs H Q => (∃ p ys, xs = [.ref p] ∧ (SqL X.K H p ys ∨ SqT X.K H p ys) ∧ Q (.int ys.length) H) ∨ (∃ z, xs = [.str z] ∧ z.length ≤ sizeLine ∧ Q (.int z.length) H) ∨ rLenN X xs H Q
theorem cr_len : CallR X (.builtin "len") (rLenZ X) := call_len_seq.or (call_len_str.or call_lenN)
theorem repL1 {K : PySem.W.Frag} {w : World} {α : Al} {H : Hp} {d : D} {vs : List V} (r : RepL K w α H [d] vs) : ∃ v, vs = [v] ∧ RepD K w α H d v := by
  unfold RepL at r
  obtain ⟨v, r', e, h1, h2⟩ := r
  unfold RepL at h2
  subst h2
  exact ⟨v, e, h1⟩
theorem repL2 {K : PySem.W.Frag} {w : World} {α : Al} {H : Hp} {d d' : D} {vs : List V} (r : RepL K w α H [d, d'] vs) : ∃ v u, vs = [v, u] ∧ RepD K w α H d v ∧ RepD K w α H d' u := by
  unfold RepL at r
  obtain ⟨v, r', e, h1, h2⟩ := r
  obtain ⟨u, e2, h3⟩ := repL1 h2
  subst e2
  exact ⟨v, u, e, h1, h3⟩
theorem bs_len : BuS X E (rLenZ X) bLen := fun α S H ds vs Q rp r q => by
  unfold bLen at q
  split at q
  · rename_i d
    obtain ⟨v, rfl, r1⟩ := repL1 r
    split at q
    · rename_i n hn
      have q1 := q.now rp (repI (n : Int))
      unfold lenD at hn
      split at hn
      · split at hn
        · rename_i hz
          cases hn
          cases rep_str r1
          exact .inr (.inl ⟨_, rfl, hz, q1⟩)
        · cases hn
      · split at hn
        · rename_i ds hs
          cases hn
          obtain ⟨a, ws, rfl, h1, h2⟩ := seqA_rep rp hs r1
          exact .inl ⟨a, ws, rfl, h1, by rw [h2.length]; exact q1⟩
        · split at hn
          · rename_i ks ds hd
            cases hn
            obtain ⟨a, kv, ws, xs, rfl, g⟩ := dictOf_at rp hd r1
            exact .inr (.inr ⟨a, xs, rfl, g.rd, by rw [g.ent.len]; exact q1⟩)
          · cases hn
    · exact q.elim
  · exact q.elim
/-! ### tuple(x), list(x) -/
def bTuple : List D → M D := fun ds S => match ds with
  | [d] => (match d with
    | .tup es => .val (.tup es) S
    | d => match seqL S d with
      | some es => .val (.tup es) S
      | none => .stuck)
  | _ => .stuck
/-- list(x): as a value, as a cell -/
def bList : List D → M D := fun ds S => match ds with
  | [d] => (match seqA S d with
    | some es => .val (.lst es) S
    | none => .stuck)
  | _ => .stuck
def bListC : List D → M D := fun ds S => match ds with
  | [d] => (match seqA S d with
    | some es => .val (.ref S.length) (S ++ [.lst es])
    | none => .stuck)
  | _ => .stuck
def rTupleZ (K : PySem.W.Frag) : List V → Hp → VK → Prop := fun xs H Q => ∃ p ys, xs = [.ref p] ∧ ((SqL K H p ys ∧ ∀ l, H l = none → Q (.ref l) (upd H l (.tup ys))) ∨ (SqT K H p ys ∧ Q (.ref p) H))
def rListZ (K : PySem.W.Frag) : List V → Hp → VK → Prop := fun xs H Q => ∃ p ys, xs = [.ref p] ∧ (SqL K H p ys ∨ SqT K H p ys) ∧ ∀ l, H l = none → Q (.ref l) (upd H l (.lst ys))
theorem cr_tuple : CallR X (.type "tuple") (rTupleZ X.K) := call_tuple_of
theorem cr_list : CallR X (.type "list") (rListZ X.K) := call_list_of
theorem bs_tuple : BuS X E (rTupleZ X.K) bTuple := fun α S H ds vs Q rp r q => by
  unfold bTuple at q
  split at q
  · rename_i d
    obtain ⟨v, rfl, r1⟩ := repL1 r
    split at q
    · rename_i es
      obtain ⟨a, ws, rfl, h1, h2⟩ := rep_tup r1
      exact ⟨a, ws, rfl, .inr ⟨h1, q.now rp r1⟩⟩
    · split at q
      · rename_i es hs
        obtain ⟨a, ws, rfl, h1, h2⟩ := seqL_rep rp hs r1
        exact ⟨a, ws, rfl, .inl ⟨h1, fun l hl => post_tup rp h2 q hl⟩⟩
      · exact q.elim
  · exact q.elim
theorem bs_list : BuS X E (rListZ X.K) bList := fun α S H ds vs Q rp r q => by
  unfold bList at q
  split at q
  · obtain ⟨v, rfl, r1⟩ := repL1 r
    split at q
    · rename_i es hs
      obtain ⟨a, ws, rfl, h1, h2⟩ := seqA_rep rp hs r1
      exact ⟨a, ws, rfl, h1, fun l hl => post_lst rp h2 q hl⟩
    · exact q.elim
  · exact q.elim
theorem bs_listC : BuS X E (rListZ X.K) bListC := fun α S H ds vs Q rp r q => by
  unfold bListC at q
  split at q
  · obtain ⟨v, rfl, r1⟩ := repL1 r
    split at q
    · rename_i es hs
      obtain ⟨a, ws, rfl, h1, h2⟩ := seqA_rep rp hs r1
      exact ⟨a, ws, rfl, h1, fun l hl => post_cell rp h2 q hl⟩
    · exact q.elim
  · exact q.elim
/-! ### all, any -/
def bls : List D → Option (List Bool)
  | [] => some []
  | .bl b :: r => (bls r).map (b :: ·)
  | _ => none
theorem bls_map : ∀ {ds : List D} {bs : List Bool}, bls ds = some bs → ds = bs.map D.bl
  | [], bs, h => by cases h; rfl
  | d :: r, bs, h => by
    cases d with
    | bl b =>
      unfold bls at h
      cases e : bls r with
      | none => rw [e] at h; cases h
      | some cs => rw [e] at h; cases h; rw [bls_map e]; rfl
    | _ => cases h
theorem bls_of (bs : List Bool) : bls (bs.map D.bl) = some bs := by
  induction bs with
  | nil => rfl
  | cons b r ih => show (bls (r.map D.bl)).map (b :: ·) = _; rw [ih]; rfl
def bAll : List D → M D := fun ds S => match ds with
  | [d] => (match seqL S d with
    | some es => (match bls es with
      | some bs => .val (.bl (bs.all _root_.id)) S
      | none => .stuck)
    | none => .stuck)
  | _ => .stuck
def bAny : List D → M D := fun ds S => match ds with
  | [d] => (match seqL S d with
    | some es => (match bls es with
      | some bs => .val (.bl (bs.any _root_.id)) S
      | none => .stuck)
    | none => .stuck)
  | _ => .stuck
theorem bs_all : BuS X E (rAll X.K) bAll := fun α S H ds vs Q rp r q => by
  unfold bAll at q
  split at q
  · obtain ⟨v, rfl, r1⟩ := repL1 r
    split at q
    · rename_i es hs
      split at q
      · rename_i bs hb
        obtain ⟨a, ws, rfl, h1, h2⟩ := seqL_rep rp hs r1
        rw [bls_map hb] at h2
        exact ⟨a, bs, rfl, by rw [← h2.bls]; exact h1, q.now rp (repB _)⟩
      · exact q.elim
    · exact q.elim
  · exact q.elim
theorem bs_any : BuS X E (rAny X.K) bAny := fun α S H ds vs Q rp r q => by
  unfold bAny at q
  split at q
  · obtain ⟨v, rfl, r1⟩ := repL1 r
    split at q
    · rename_i es hs
      split at q
      · rename_i bs hb
        obtain ⟨a, ws, rfl, h1, h2⟩ := seqL_rep rp hs r1
        rw [bls_map hb] at h2
        exact ⟨a, bs, rfl, by rw [← h2.bls]; exact h1, q.now rp (repB _)⟩
      · exact q.elim
    · exact q.elim
  · exact q.elim
/-! ### int, abs, repr -/
def bInt : List D → M D := fun ds S => match ds with
  | [.int i] => .val (.int i) S
  | [.bl k] => .val (.int (if k then 1 else 0)) S
  | _ => .stuck
def rInt1 : List V → Hp → VK → Prop := fun xs H Q => (∃ i, xs = [.int i] ∧ Q (.int i) H) ∨ ∃ k, xs = [.bl k] ∧ Q (.int (if k then 1 else 0)) H
theorem cr_int : CallR X (.type "int") rInt1 := call_int1
theorem bs_int : BuS X E rInt1 bInt := fun α S H ds vs Q rp r q => by
  unfold bInt at q
  split at q
  · obtain ⟨v, rfl, r1⟩ := repL1 r
    cases rep_int r1
    exact .inl ⟨_, rfl, q.now rp (repI _)⟩
  · obtain ⟨v, rfl, r1⟩ := repL1 r
    cases rep_bl r1
    exact .inr ⟨_, rfl, q.now rp (repI _)⟩
  · exact q.elim
def bAbs : List D → M D := fun ds S => match ds with
  | [.int i] => .val (.int (if i < 0 then -i else i)) S
  | _ => .stuck
def rAbs1 : List V → Hp → VK → Prop := fun xs H Q => ∃ i, xs = [.int i] ∧ Q (.int (if i < 0 then -i else i)) H
theorem cr_abs : CallR X (.builtin "abs") rAbs1 := call_abs
theorem bs_abs : BuS X E rAbs1 bAbs := fun α S H ds vs Q rp r q => by
  unfold bAbs at q
  split at q
  · obtain ⟨v, rfl, r1⟩ := repL1 r
    cases rep_int r1
    exact ⟨_, rfl, q.now rp (repI _)⟩
  · exact q.elim
def bRepr : List D → M D := fun ds S => match ds with
  | [.non] => .val (.str "None") S
  | [.str x] => if (reprText x).length ≤ sizeLine then .val (.str (reprText x)) S else .stuck
  | _ => .stuck
def rReprZ : List V → Hp → VK → Prop := fun xs H Q => (xs = [.non] ∧ Q (.str "None") H) ∨ ∃ x, xs = [.str x] ∧ (reprText x).length ≤ sizeLine ∧ Q (.str (reprText x)) H
theorem cr_repr : CallR X (.builtin "repr") rReprZ := by
  intro pins s σ H xs us Q I r h
  rcases h with ⟨rfl, q⟩ | ⟨x, rfl, hz, q⟩
  · obtain ⟨u, rfl, rx⟩ := vals1 r
    cases rx
    exact PySem.P.repr_of_none ⟨.str _, H, I.tok _, ⟨_, rfl⟩, q⟩
  · obtain ⟨u, rfl, t, rfl⟩ := vals1 r
    exact PySem.P.repr_of_str ⟨.str _, H, I.tok _, ⟨_, rfl⟩, q⟩ hz
theorem bs_repr : BuS X E rReprZ bRepr := fun α S H ds vs Q rp r q => by
  unfold bRepr at q
  split at q
  · obtain ⟨v, rfl, r1⟩ := repL1 r
    cases rep_non r1
    exact .inl ⟨rfl, q.now rp (repS _)⟩
  · split at q
    · rename_i hz
      obtain ⟨v, rfl, r1⟩ := repL1 r
      cases rep_str r1
      exact .inr ⟨_, rfl, hz, q.now rp (repS _)⟩
    · exact q.elim
  · exact q.elim
/-! ### isinstance -/
def tyNm (S : Sto) : D → Option String
  | .non => some "NoneType"
  | .bl _ => some "bool"
  | .int _ => some "int"
  | .str _ => some "str"
  | .tup _ => some "tuple"
  | .lst _ => some "list"
  | .wl _ => some "list"
  | .dic _ _ => none
  | .ref n => (match S[n]? with
    | some (.lst _) => some "list"
    | _ => none)
def tys0 : List String := ["NoneType", "bool", "int", "str", "tuple", "list", "dict"]
/-- of that type -/
def subTy (a b : String) : Bool := decide (a = b) || (decide (a = "bool") && decide (b = "int"))
theorem subTy_ok : ∀ a ∈ tys0, ∀ b ∈ tys0, kitB a b = some (subTy a b) := by decide +kernel
def isTy (S : Sto) (ts : List String) (d : D) : Option Bool := match tyNm S d with
  | some a => some (ts.any (subTy a))
  | none => none
theorem tyNm_mem {S : Sto} {d : D} {a : String} (h : tyNm S d = some a) : a ∈ tys0 := by
  cases d with
  | ref n =>
    cases hs : S[n]? with
    | none => simp [tyNm, hs] at h
    | some c =>
      cases c with
      | lst ds => simp only [tyNm, hs] at h; cases h; decide
      | dic lk ks ds => simp [tyNm, hs] at h
      | ins c fs => simp [tyNm, hs] at h
  | dic _ _ => cases h
  | _ => cases h; decide
theorem tyNm_rep {K : PySem.W.Frag} {w : World} {α : Al} {S : Sto} {H : Hp} {d : D} {v : V} {a : String} (rp : Rep K w α S H) (h : tyNm S d = some a) (r : RepD K w α H d v) : TyX K H v (.type a) := by
  cases d with
  | non => cases h; cases rep_non r; exact .base .non
  | bl b => cases h; cases rep_bl r; exact .base (.bl _)
  | int i => cases h; cases rep_int r; exact .base (.int _)
  | str x => cases h; cases rep_str r; exact .base (.str _)
  | tup ds =>
    cases h
    obtain ⟨b, vs, rfl, q, _⟩ := rep_tup r
    rcases q with (q | ⟨o, q⟩) | ⟨o, its, n, h1, h2, _⟩
    · exact .base (.tup q)
    · exact .fTuple q
    · exact .kTuple h1 h2
  | lst ds =>
    cases h
    unfold RepD at r
    obtain ⟨b, vs, rfl, _, q, _⟩ := r
    exact .base (.lst q)
  | wl ds =>
    cases h
    unfold RepD at r
    obtain ⟨b, vs, rfl, q, _⟩ := r
    rcases q with ⟨_, q | ⟨o, q⟩⟩ | ⟨o, its, n, h1, h2, _⟩
    · exact .base (.lst q)
    · exact .base (.frz q)
    · exact .kList h1 h2
  | dic _ _ => cases h
  | ref n =>
    cases hs : S[n]? with
    | none => simp [tyNm, hs] at h
    | some c =>
      cases c with
      | lst ds =>
        simp only [tyNm, hs] at h
        cases h
        unfold RepD at r
        obtain ⟨b, rfl, hb⟩ := r
        obtain ⟨vs, q, _⟩ := rp.cell n _ b hs hb
        exact .base (.lst q)
      | dic lk ks ds => simp [tyNm, hs] at h
      | ins c fs => simp [tyNm, hs] at h
@[simp] def eIsi (ts : List String) (f : Rho → M D) : Rho → M D := fun ρ S => (f ρ S).bind fun d S1 => match isTy S1 ts d with
  | some b => .val (.bl b) S1
  | none => .stuck
theorem pe_tyn {x : Str} (hm : X.mg x = none) (hv : bootBuiltins x = some (.type T)) (hg : Gl X x := by rfl) (hn : x ≠ "__name__" := by decide) (hdb : (x == ("__debug__" : Str)) = false := by decide) : PE X (.Name x pos) (tC (.ty T)) :=
  ⟨fun pins s σ H Q I h => ld_blt I hg hm hv ⟨.ty T, H, I, rfl, h⟩ hn hdb⟩
def tTys (ts : List String) : TA := fun _ H Q => Q (ts.map V.ty) H
theorem pa_tynil : PA X [] (tTys []) := PA.weak pa_nil fun σ H Q q => q
theorem pa_tycons {ts : List String} (h1 : PE X e (tC (.ty T))) (h2 : PA X es (tTys ts)) (hs : starEach (e :: es) X.env = (false, eval e X.env) :: starEach es X.env := by rfl) : PA X (e :: es) (tTys (T :: ts)) :=
  PA.weak (pa_cons h1 h2 hs) fun σ H Q q => q
theorem kit_tys {K : PySem.W.Frag} {a : String} (ha : a ∈ tys0) : ∀ {ts : List String}, (∀ t ∈ ts, t ∈ tys0) → PySem.W.kitAny K (.type a) (ts.map Value.type) = some (ts.any (subTy a))
  | [], _ => kitAny_nil
  | t :: ts, h => by
    have e := kit_ty (K := K) (subTy_ok a ha t (h t List.mem_cons_self))
    refine kitAny_cons e (fun z => ?_) fun z => ?_
    · rw [List.any_cons, z, Bool.false_or]
      exact kit_tys ha fun u hu => h u (List.mem_cons_of_mem _ hu)
    · rw [List.any_cons, z, Bool.true_or]
theorem paired_tys : ∀ ts : List String, Paired ClsV (ts.map V.ty) (ts.map Value.type)
  | [] => .nil
  | t :: ts => .cons (.ty t) (paired_tys ts)
theorem ze_isi1 {e2 : Expr} (hm : X.mg "isinstance" = none) (h1 : ZE X E e f) (h2 : PE X e2 (tC (.ty T))) (hT : T ∈ tys0 := by decide) (hg : Gl X "isinstance" := by rfl)
    (he : starEach [e, e2] X.env = (false, eval e X.env) :: starEach [e2] X.env := by rfl) (he2 : starEach [e2] X.env = [(false, eval e2 X.env)] := by rfl) (hpl : (backTo pos (starEach [e2] X.env)).any (·.1) = false := by rfl) :
    ZE X E (.Call (.Name "isinstance" p) [e, e2] [] pos) (eIsi [T] f) :=
  PE.weak (pe_callB call_isi hg hm PyProof.Rows.boot_isinstance (pa_cons h1 (pa_cons h2 pa_nil he2) he) (by decide) (by decide) he hpl) fun σ H Q ⟨α, S, ρ, rp, re, q⟩ => by
    refine ⟨α, S, ρ, rp, re, Post.step q fun d S1 α1 H1 v _ st rp1 r1 q1 => ?_⟩
    unfold isTy at q1
    split at q1
    · rename_i b hb
      split at hb
      · rename_i a ha
        cases hb
        have k := kit_ty (K := X.K) (subTy_ok a (tyNm_mem ha) T hT)
        refine ⟨v, .ty T, .type a, .type T, _, rfl, .ty T, tyNm_rep rp1 ha r1, k, ?_⟩
        have q2 := q1.now rp1 (repB _)
        simpa using q2
      · cases hb
    · exact q1.elim
theorem ze_isiT {ts : List String} {kk : Nat} {p2 : Pos} (hm : X.mg "isinstance" = none) (h1 : ZE X E e f) (h2 : PA X es (tTys ts)) (hT : ∀ t ∈ ts, t ∈ tys0 := by decide) (hn : ts.length ≤ 100000 := by decide) (hg : Gl X "isinstance" := by rfl)
    (he : starEach [e, .Tuple es kk p2] X.env = (false, eval e X.env) :: starEach [.Tuple es kk p2] X.env := by rfl) (he2 : starEach [.Tuple es kk p2] X.env = [(false, eval (.Tuple es kk p2) X.env)] := by rfl) (hpl : (backTo pos (starEach [.Tuple es kk p2] X.env)).any (·.1) = false := by rfl) :
    ZE X E (.Call (.Name "isinstance" p) [e, .Tuple es kk p2] [] pos) (eIsi ts f) :=
  PE.weak (pe_callB call_isiT hg hm PyProof.Rows.boot_isinstance (pa_cons h1 (pa_cons (pe_tup h2) pa_nil he2) he) (by decide) (by decide) he hpl) fun σ H Q ⟨α, S, ρ, rp, re, q⟩ => by
    refine ⟨α, S, ρ, rp, re, Post.step q fun d S1 α1 H1 v _ st rp1 r1 q1 => ?_⟩
    unfold isTy at q1
    split at q1
    · rename_i b hb
      split at hb
      · rename_i a ha
        cases hb
        refine ⟨small_sz (by rw [List.length_map]; exact hn), fun tp htp => ?_⟩
        have st2 : Stp α1 H1 α1 (upd H1 tp (.tup (ts.map V.ty))) := stp_new rp1.hd htp
        have rp2 : Rep X.K X.w α1 S1 (upd H1 tp (.tup (ts.map V.ty))) := rp1.new htp
        refine ⟨v, tp, _, .type a, _, _, rfl, upd_same, paired_tys ts, tyNm_rep rp2 ha (repD_mono st2 _ _ r1), kit_tys (tyNm_mem ha) hT, ?_⟩
        exact (Post.mono st2 q1).now rp2 (repB _)
      · cases hb
    · exact q1.elim
/-! ### methods -/
def MeS (X : Cx) (E : XK) (ok : Sto → D → Bool) (ty : V → Hp → Prop) (r : V → List V → Hp → VK → Prop) (op : D → List D → M D) : Prop :=
  (∀ (α : Al) (S : Sto) (H : Hp) (d : D) (x : V), Rep X.K X.w α S H → ok S d = true → RepD X.K X.w α H d x → ty x H) ∧
  ∀ (α : Al) (S : Sto) (H : Hp) (d : D) (ds : List D) (x : V) (vs : List V) (Q : VK), Rep X.K X.w α S H → RepD X.K X.w α H d x → RepL X.K X.w α H ds vs → Post X.K X.w (RepD X.K X.w) E α H (op d ds S) Q → r x vs H Q
@[simp] def eMth (ok : Sto → D → Bool) (op : D → List D → M D) (fo : Rho → M D) (g : Rho → M (List D)) : Rho → M D := fun ρ S => (fo ρ S).bind fun o S1 => if ok S1 o = true then (g ρ S1).bind fun ds S2 => op o ds S2 else .stuck
section
variable {ok : Sto → D → Bool} {mr : V → List V → Hp → VK → Prop} {mop : D → List D → M D} {name : Str} {ty : V → Hp → Prop} {cpos : Pos}
theorem ze_mb (hs : MeS X E ok (tyV X.K T) mr mop) (pa : PlainAttrs T) (slot : Slot T name id) (hty : typeOf (.builtin id) = pure (.type "method_descriptor")) (hm : MtR X id mr) (ho : ZE X E o fo) (ha : ZA X E (e :: es) g)
    (hbase : attributeBase o name X.env (eval o X.env) = eval o X.env := by rfl)
    (hfew : ((backTo cpos (starEach (e :: es) X.env)).all (fun x => !x.1) && (backToKw cpos (keywordEach [] X.env)).all (fun x => x.1.isSome)
      && decide ((e :: es).length + ([] : List Keyword).length + (if ([] : List Keyword).isEmpty then 0 else 1) < 30)) = true := by rfl)
    (hline : (apos.endLine == cpos.line) = true := by rfl) (hst : starEach (e :: es) X.env = (false, eval e X.env) :: starEach es X.env := by rfl) (hplain : (backTo cpos (starEach es X.env)).any (·.1) = false := by rfl) :
    ZE X E (.Call (.Attribute o name apos) (e :: es) [] cpos) (eMth ok mop fo g) := PE.weak (pe_bm pa slot hty hm ho ha hbase hfew hline hst hplain) fun σ H Q ⟨α, S, ρ, rp, re, q⟩ => by
  refine ⟨α, S, ρ, rp, re, Post.step q fun d S1 α1 H1 v _ st rp1 r1 q1 => ?_⟩
  split at q1
  · rename_i hok
    refine ⟨hs.1 α1 S1 H1 d v rp1 hok r1, α1, S1, ρ, rp1, re.mono st, Post.step q1 fun ds S2 α2 H2 vs _ st2 rp2 r2 q2 => ?_⟩
    exact hs.2 α2 S2 H2 d ds v vs Q rp2 (repD_mono st2 _ _ r1) r2 q2
  · exact q1.elim
theorem ze_mb0 (hs : MeS X E ok (tyV X.K T) mr mop) (pa : PlainAttrs T) (slot : Slot T name id) (hty : typeOf (.builtin id) = pure (.type "method_descriptor")) (hm : MtR X id mr) (ho : ZE X E o fo)
    (hbase : attributeBase o name X.env (eval o X.env) = eval o X.env := by rfl) (hline : (apos.endLine == cpos.line) = true := by rfl) : ZE X E (.Call (.Attribute o name apos) [] [] cpos) (eMth ok mop fo aNil) :=
  PE.weak (pe_bm0 pa slot hty hm ho hbase hline) fun σ H Q ⟨α, S, ρ, rp, re, q⟩ => by
    refine ⟨α, S, ρ, rp, re, Post.step q fun d S1 α1 H1 v _ st rp1 r1 q1 => ?_⟩
    split at q1
    · rename_i hok
      exact ⟨hs.1 α1 S1 H1 d v rp1 hok r1, hs.2 α1 S1 H1 d [] v [] Q rp1 r1 .nil q1⟩
    · exact q1.elim
theorem ze_mg (ht : TyOk X T ty) (hs : MeS X E ok ty mr mop) (pa : PlainAttrs T) (slot : Slot T name id) (hty : typeOf (.builtin id) = pure (.type "method_descriptor")) (hm : MtR X id mr) (ho : ZE X E o fo) (ha : ZA X E (e :: es) g)
    (hbase : attributeBase o name X.env (eval o X.env) = eval o X.env := by rfl)
    (hfew : ((backTo cpos (starEach (e :: es) X.env)).all (fun x => !x.1) && (backToKw cpos (keywordEach [] X.env)).all (fun x => x.1.isSome)
      && decide ((e :: es).length + ([] : List Keyword).length + (if ([] : List Keyword).isEmpty then 0 else 1) < 30)) = true := by rfl)
    (hline : (apos.endLine == cpos.line) = true := by rfl) (hst : starEach (e :: es) X.env = (false, eval e X.env) :: starEach es X.env := by rfl) (hplain : (backTo cpos (starEach es X.env)).any (·.1) = false := by rfl) :
    ZE X E (.Call (.Attribute o name apos) (e :: es) [] cpos) (eMth ok mop fo g) := PE.weak (pe_mG ht pa slot hty hm ho ha hbase hfew hline hst hplain) fun σ H Q ⟨α, S, ρ, rp, re, q⟩ => by
  refine ⟨α, S, ρ, rp, re, Post.step q fun d S1 α1 H1 v _ st rp1 r1 q1 => ?_⟩
  split at q1
  · rename_i hok
    refine ⟨hs.1 α1 S1 H1 d v rp1 hok r1, α1, S1, ρ, rp1, re.mono st, Post.step q1 fun ds S2 α2 H2 vs _ st2 rp2 r2 q2 => ?_⟩
    exact hs.2 α2 S2 H2 d ds v vs Q rp2 (repD_mono st2 _ _ r1) r2 q2
  · exact q1.elim
end
end
end Z
set_option Elab.async false
set_option linter.all false
set_option maxRecDepth 100000
set_option maxHeartbeats 1000000
/-! Z14: comprehensions that gather into a dict (keys of any kind) or a set. -/
namespace Z
open PySem L2 PySem.Spec PyProof.Rows
noncomputable def compG {γ : Type} (ok : Sto → Prop) (g : D → Rho → M Rho) (t : Rho → M Bool) (b : Rho → γ → M γ) (ρ : Rho) : List D → γ → M γ
  | [], acc => guard ok fun S => .val acc S
  | d :: ds, acc => guard ok fun S => (noX (g d ρ) S).bind fun ρ1 S1 => (noX (t ρ1) S1).bind fun q S2 =>
    if q = true then (noX (b ρ1 acc) S2).bind fun acc' S3 => compG ok g t b ρ ds acc' S3 else compG ok g t b ρ ds acc S2
@[simp] noncomputable def eGath {γ β : Type} (f : Rho → M Src) (own : List Nat) (g : D → Rho → M Rho) (t : Rho → M Bool) (b : Rho → γ → M γ) (acc0 : γ) (fin : γ → M β) : Rho → M β := fun ρ S => (f ρ S).bind fun s S1 =>
  if s.items.length ≤ sizeLine then (compG s.ok g t b (wipeR ρ own) s.items acc0 S1).bind fin else .stuck
theorem compG_ok {γ : Type} {ok : Sto → Prop} {g : D → Rho → M Rho} {t : Rho → M Bool} {b : Rho → γ → M γ} {ρ : Rho} {ds : List D} {acc : γ} {S : Sto} (h : compG ok g t b ρ ds acc S ≠ .stuck) : ok S := by
  refine Classical.byContradiction fun n => h ?_
  cases ds with
  | nil => unfold compG; exact guard_no n
  | cons d ds => unfold compG; exact guard_no n
theorem compG_nil {γ : Type} {ok : Sto → Prop} {g : D → Rho → M Rho} {t : Rho → M Bool} {b : Rho → γ → M γ} {ρ : Rho} {acc : γ} : compG ok g t b ρ [] acc = guard ok fun S => .val acc S := by
  conv => lhs; unfold compG
theorem compG_cons {γ : Type} {ok : Sto → Prop} {g : D → Rho → M Rho} {t : Rho → M Bool} {b : Rho → γ → M γ} {ρ : Rho} {d : D} {ds : List D} {acc : γ} : compG ok g t b ρ (d :: ds) acc = guard ok fun S => (noX (g d ρ) S).bind fun ρ1 S1 => (noX (t ρ1) S1).bind fun q S2 =>
    if q = true then (noX (b ρ1 acc) S2).bind fun acc' S3 => compG ok g t b ρ ds acc' S3 else compG ok g t b ρ ds acc S2 := by
  conv => lhs; unfold compG
/-- what stands at the gatherer -/
abbrev RAx (γ : Type) := Al → Hp → Addr → γ → Prop
/-- a turn's last part B, by b -/
def BS {γ : Type} (X : Cx) (RA : RAx γ) (b : Rho → γ → M γ) (B : Env → Addr → (Shared → Prop) → (Value → Shared → Prop) → Shared → Prop) : Prop :=
  ∀ (pins : List (Addr × Obj)) (s : Shared) (σ : L2.St) (H : Hp) (α : Al) (S S' : Sto) (ρ : Rho) (Dd : Addr) (acc acc' : γ) (Nx : Hp → Prop) (E : Value → Shared → Prop), Inv X pins σ H s → Rep X.K X.w α S H → RepE X.K X.w α H ρ σ → Dd ∈ α.hid → RA α H Dd acc → b ρ acc S = .val acc' S' →
    (∀ α' H1 o, Stp α H α' H1 → Rep X.K X.w α' S' (upd H1 Dd o) → RA α' (upd H1 Dd o) Dd acc' → Nx (upd H1 Dd o)) → B X.env Dd (fun s' => ∃ H', Inv X pins σ H' s' ∧ Nx H') E s
/-- a reading by any relation -/
def liftR {β : Type} (K : PySem.W.Frag) (w : World) (RO : Al → Hp → β → V → Prop) (E : XK) (f : Rho → M β) : TE := fun σ H Q => ∃ α S ρ, Rep K w α S H ∧ RepE K w α H ρ σ ∧ Post K w RO E α H (f ρ S) Q
def FinG {γ β : Type} (K : PySem.W.Frag) (w : World) (RA : RAx γ) (RO : Al → Hp → β → V → Prop) (fin : γ → M β) : Prop := ∀ (E : XK) (α0 α : Al) (H0 H : Hp) (S : Sto) (a : Addr) (acc : γ) (Q : VK), Stp α0 H0 α H → H0 a = none → (∀ b ∈ α0.hid, H0 b ≠ none) → a ∈ α.hid → a ∉ α.al → Rep K w α S H → RA α H a acc →
  Post K w RO E α0 H0 (fin acc S) Q → Q (.ref a) H
section
variable {X : Cx} {E : XK} {γ β : Type} {RO : Al → Hp → β → V → Prop} {pos' : Pos} {ex tg iter : Expr} {ifs : List Expr} {scope : Scope} {own : List (Str × Nat)} {f : Rho → M Src} {g : D → Rho → M Rho} {t : Rho → M Bool} {b : Rho → γ → M γ} {RA : RAx γ} {fin : γ → M β} {acc0 : γ} {ho : Addr → HO} {fresh : Sem Value}
  {B : Env → Addr → (Shared → Prop) → (Value → Shared → Prop) → Shared → Prop}
theorem gath (hev : eval ex X.env = comprehension ex scope X.env pos' fresh false (eval iter X.env) none) (hcl : clausesOf ex = [⟨tg, iter, ifs, 0⟩])
    (hnew : ∀ (pins : List (Addr × Obj)) (σ : L2.St) (H : Hp) (s : Shared) (Q E' : Value → Shared → Prop), Inv X pins σ H s → (∀ ob, Inv X pins σ (upd H s.heap.objs.size (ho s.heap.objs.size)) { s with heap := s.heap.push ob } → Q (.ref s.heap.objs.size) { s with heap := s.heap.push ob }) → wpAny (model X.prog X.w) X.A fresh Q E' s)
    (hloop : ∀ (R : Result → Shared → Prop) (s : Shared) (it : Value) (Dd : Addr) (env : Env) (J : Nat → Shared → Prop),
      (∀ n s, J n s → wpAny (model X.prog X.w) X.A (pyNext it) (fun r s1 => match r with
        | none => R (.ok .next) s1
        | some v => wpAny (model X.prog X.w) X.A (letOwnedTupleGo tg it v) (fun _ s2 => wpAny (model X.prog X.w) X.A (assign tg env v) (fun _ s3 =>
            wpAny (model X.prog X.w) X.A (forIn ifs true fun c r => if r = true then do let ok ← isTrue c env (eval c env); pure (ForInStep.yield ok) else pure (ForInStep.yield r)) (fun ok s4 =>
              if ok = true then B env Dd (fun s' => ∃ m, m < n ∧ J m s') (notedBy (model X.prog X.w) X.A env fun e s' => R (.error e) s') s4
              else ∃ m, m < n ∧ J m s4) (notedBy (model X.prog X.w) X.A env fun e s' => R (.error e) s') s3) (notedBy (model X.prog X.w) X.A env fun e s' => R (.error e) s') s2) (notedBy (model X.prog X.w) X.A env fun e s' => R (.error e) s') s1) (notedBy (model X.prog X.w) X.A env fun e s' => R (.error e) s') s) →
      ∀ n, J n s → codeAny (model X.prog X.w) X.A (.compLoop ex 0 it (.ref Dd) env) R s)
    (hstart : ∀ (R : Result → Shared → Prop) (s : Shared) (it : Value) (Dd : Addr) (env : Env), codeAny (model X.prog X.w) X.A (.compLoop ex 0 it (.ref Dd) env) R s →
      wpAny (model X.prog X.w) X.A (pyIter it) (fun it' s' => codeAny (model X.prog X.w) X.A (.compLoop ex 0 it' (.ref Dd) env) R s') (notedBy (model X.prog X.w) X.A env fun x s' => R (.error x) s') s →
      codeAny (model X.prog X.w) X.A (.compStart ex 0 it (.ref Dd) env) R s)
    (hBm : ∀ env Dd (P P' : Shared → Prop) E' s, B env Dd P E' s → (∀ s', P s' → P' s') → B env Dd P' E' s)
    (h0 : ∀ (α : Al) (H : Hp) (Dd : Addr), H Dd = none → RA (α.hide Dd) (upd H Dd (ho Dd)) Dd acc0)
    (hkeep : ∀ (α : Al) (H : Hp) (α' : Al) (H' : Hp) (Dd : Addr) (acc : γ), Stp α H α' H' → H' Dd = H Dd → RA α H Dd acc → RA α' H' Dd acc)
    (hf : FinG X.K X.w RA RO fin)
    (hc : X.calm = true) (hN : X.N.Nodup) (hi : ZI X E tg iter f) (ok : BlkOk X.N X.env.scope scope own)
    (hg : ∀ (s : Shared) (H : Hp) (C : Addr) (cl : List (Str × Addr)) (fp : List Addr), ZGw (X.blk s H scope (compEnvC scope cl C X.env) fp) E0 (own.map (·.2)) tg g)
    (ht : ∀ (s : Shared) (H : Hp) (C : Addr) (cl : List (Str × Addr)) (fp : List Addr), ZTs (X.blk s H scope (compEnvC scope cl C X.env) fp) E0 ifs t)
    (hb : ∀ (s : Shared) (H : Hp) (C : Addr) (cl : List (Str × Addr)) (fp : List Addr), BS (X.blk s H scope (compEnvC scope cl C X.env) fp) RA b B) (hs : ∀ x, foldedSetIterable iter X.env x = pure x) :
    PE X ex (liftR X.K X.w RO E (eGath f (own.map (·.2)) g t b acc0 fin)) := by
  refine ⟨fun pins s σ H Q I h => ?_⟩
  obtain ⟨α, S, ρ, rp, re, q⟩ := h
  rw [hev]
  have hclo : ∀ y ∈ scope.names, y.2 = .free → ∃ c, X.env.cells.lookup y.1 = some c := fun y hy e => I.ok.has _ (ok.free y hy e)
  -- what is walked
  cases hfs : f ρ S with
  | stuck =>
    unfold eGath at q
    rw [hfs] at q
    exact q.elim
  | exc c p S' =>
    unfold eGath at q
    rw [hfs] at q
    refine wpAny_comprehension_free hcl hs (closure_ok hclo) ok.kind (fun y hy e => by rw [ok.uniq y hy, e]) (thn (hi.run pins s σ H (fun _ _ => False) I ⟨α, S, ρ, rp, re, by rw [hfs]; exact q⟩) fun xv s1 hx => thn hx fun itv s2 h2 => ?_)
    obtain ⟨_, _, _, _, _, _, _, _, _, _, z⟩ := h2
    exact z.elim
  | val src S1 =>
  unfold eGath at q
  rw [hfs] at q
  have q : Post X.K X.w RO E α H (if src.items.length ≤ sizeLine then (compG src.ok g t b (wipeR ρ (own.map (·.2))) src.items acc0 S1).bind fin else .stuck) Q := q
  by_cases hlen : src.items.length ≤ sizeLine
  case neg => rw [if_neg hlen] at q; exact q.elim
  rw [if_pos hlen] at q
  have hok : src.ok S1 := compG_ok fun e => by rw [e] at q; exact q
  refine wpAny_comprehension_free hcl hs (closure_ok hclo) ok.kind (fun y hy e => by rw [ok.uniq y hy, e])
    (thn (hi.run pins s σ H (fun J H1 => ∃ α1, Stp α H α1 H1 ∧ Rep X.K X.w α1 S1 H1 ∧ Gives X.K X.w J α1 H1 src) I ⟨α, S, ρ, rp, re, by rw [hfs]; exact ⟨hok, fun α' H' J a1 a2 a3 => ⟨α', a1, a2, a3⟩⟩⟩) fun xv s1 hx => thn hx fun itv s2 h2 => ?_)
  obtain ⟨it, fp, tn, J, H1, e, I2, T, st2, f2, α1, stA, rp1, gv⟩ := h2
  subst e
  have q := Post.mono stA q
  have reW : RepE X.K X.w α1 H1 (wipeR ρ (own.map (·.2))) (wipe σ (own.map (·.2))) := (re.mono stA).wipe _
  refine hnew _ _ _ _ _ _ I2 fun ob I3 => newEnv_comp ?_
  generalize hD : s2.heap.objs.size = Dd at I3 ⊢
  have dn : H1 Dd = none := I2.hok.fresh (Nat.le_of_eq hD)
  have nal : Dd ∉ α1.al := fun z => rp1.mem_some (.inl z) dn
  have stB : Stp α1 H1 (α1.hide Dd) (upd H1 Dd (ho Dd)) := stp_hide rp1.hd dn
  have rpB : Rep X.K X.w (α1.hide Dd) S1 (upd H1 Dd (ho Dd)) := rep_hide rp1 dn
  generalize hs3 : ({ s2 with heap := s2.heap.push ob } : Shared) = s3 at I3 ⊢
  have k23 : ∀ a o, s2.heap.get? a = some o → s3.heap.get? a = some o := fun a o e => by rw [← hs3]; exact Heap.get?_push_of_some _ e
  have szD : s3.heap.objs.size = Dd + 1 := by rw [← hs3, ← hD]; exact Heap.size_push _ _
  have old : ∀ a ∈ fp, a < Dd := fun a ha => by
    obtain ⟨o, e, _⟩ := T.obj _ _ st2 a ha
    rw [← hD]; exact Heap.lt_size e
  have fpB : ∀ a ∈ fp, FpOk X pins (upd H1 Dd (ho Dd)) a ∧ a < s3.heap.objs.size := fun a ha => by
    refine ⟨⟨?_, (f2 a ha).2⟩, by rw [szD]; exact Nat.lt_succ_of_lt (old a ha)⟩
    rw [upd_ne (Nat.ne_of_lt (old a ha))]
    exact (f2 a ha).1
  have I4 := block_start I3 ok hN fpB
  have gl := cellsFrom (s3.heap.objs.size + 1) scope.names (cloFrom X.env.cells scope.names [])
  have pg := hg s3 (upd H1 Dd (ho Dd)) s3.heap.objs.size (cellsFrom (s3.heap.objs.size + 1) scope.names (cloFrom X.env.cells scope.names [])) fp
  have pt := ht s3 (upd H1 Dd (ho Dd)) s3.heap.objs.size (cellsFrom (s3.heap.objs.size + 1) scope.names (cloFrom X.env.cells scope.names [])) fp
  have pb := hb s3 (upd H1 Dd (ho Dd)) s3.heap.objs.size (cellsFrom (s3.heap.objs.size + 1) scope.names (cloFrom X.env.cells scope.names [])) fp
  have r0 : RA (α1.hide Dd) (upd H1 Dd (ho Dd)) Dd acc0 := h0 α1 H1 Dd dn
  have nfp : ∀ a ∈ fp, (upd H1 Dd (ho Dd)) a = none := fun a ha => (fpB a ha).1.1
  show codeAny _ _ (.compStart ex 0 (.ref it) (.ref Dd) (compEnvC scope (cellsFrom (s3.heap.objs.size + 1) scope.names (cloFrom X.env.cells scope.names [])) s3.heap.objs.size X.env)) (compPost (model X.prog X.w) X.A X.xe none (EP X pins σ Q) (.ref Dd) s3.heap.objs.size)
    { s3 with heap := pushCells (s3.heap.push { cls := .type "dict", data := .dict #[] }) scope.names }
  generalize hce : compEnvC scope (cellsFrom (s3.heap.objs.size + 1) scope.names (cloFrom X.env.cells scope.names [])) s3.heap.objs.size X.env = ce at I4 pg pt pb ⊢
  have cL : ce.locals = s3.heap.objs.size := by subst hce; rfl
  generalize hHb : upd H1 Dd (ho Dd) = Hb at I3 I4 pg pt pb nfp fpB r0 rpB stB
  generalize hs4 : ({ s3 with heap := pushCells (s3.heap.push { cls := .type "dict", data := .dict #[] }) scope.names } : Shared) = s4 at I4 ⊢
  have st4 : tn 0 s4.heap := T.keep _ _ _ st2 fun a _ o e => by rw [← hs4]; exact pushCells_keeps _ _ _ _ (Heap.get?_push_of_some _ (k23 a o e))
  generalize hXb : X.blk s3 Hb scope ce fp = Xb at I4 pg pt pb
  have free : ∀ {σ' : L2.St} {H' : Hp} {s' : Shared}, Inv Xb [] σ' H' s' → (∀ a ∈ fp, H' a = none) → ∀ a ∈ fp, FpOk Xb [] H' a := fun {σ' H' s'} I' hn a ha => by
    subst hXb
    exact ⟨hn a ha, (I'.ok.exf a ha).1, I'.ok.exfs a ha, .inl ha, fun x c e => (I'.ok.exf a ha).2 x c e, fun p hp => absurd (show p ∈ ([] : List (Addr × Obj)) ++ [] from hp) (by simp)⟩
  have fin' : ∀ {s' : Shared} {H' : Hp}, Inv Xb [] (wipe σ (own.map (·.2))) H' s' → Q (.ref Dd) H' → compPost (model X.prog X.w) X.A X.xe none (EP X pins σ Q) (.ref Dd) s3.heap.objs.size (.ok .next) s' := fun {s' H'} I' qq => by
    subst hXb
    have I7 : Inv X pins σ H' s' := I3.call' (ch := fp) I'.os I'.base I'.hok I'.bare fun a ha => ⟨(fpB a ha).1.2.2.2.1, (fpB a ha).1.2.1, (fpB a ha).1.2.2.2.2.1, (fpB a ha).1.2.2.2.2.2⟩
    have nC : H' s3.heap.objs.size = none := by
      have z : H' ce.locals = none := I'.free
      rw [cL] at z
      exact z
    obtain ⟨m, hn, _⟩ := I'.loc
    have hn : s'.heap.Ns ce.locals m := hn
    rw [cL] at hn
    refine ⟨m, hn, fun h'' sb => ?_⟩
    obtain ⟨f0, f1, f2, f3, f4, f5⟩ := I3.fpOk (Nat.le_refl _) nC
    exact ⟨.ref Dd, H', I7.turned (t' := s'.toks) (fun a o ha e => (sb.2 a ha).trans e) f0 f1 f3 f4 f5, rfl, qq⟩
  have loop : codeAny (model X.prog X.w) X.A (.compLoop ex 0 (.ref it) (.ref Dd) ce) (compPost (model X.prog X.w) X.A X.xe none (EP X pins σ Q) (.ref Dd) s3.heap.objs.size) s4 := by
    refine hloop _ _ _ _ _ (fun n s' => ∃ i H' α' S' ds acc, Inv Xb [] (wipe σ (own.map (·.2))) H' s' ∧ tn i s'.heap ∧ (∀ a ∈ fp, H' a = none) ∧ src.items.drop i = ds ∧ n = ds.length ∧ Stp α1 H1 α' H' ∧ Dd ∈ α'.hid ∧ Dd ∉ α'.al ∧ Rep X.K X.w α' S' H' ∧ RA α' H' Dd acc ∧
      Post X.K X.w RO E α1 H1 ((compG src.ok g t b (wipeR ρ (own.map (·.2))) ds acc S').bind fin) Q) ?_ _ ⟨0, Hb, α1.hide Dd, S1, src.items, acc0, I4, st4, nfp, rfl, rfl, stB, List.mem_cons_self, nal, rpB, r0, q⟩
    rintro n s5 ⟨i, H5, α5, S5, ds, acc, I5, st5, n5, hd, hn, stC, hin, hnot, rp5, ra5, q5⟩
    have hok5 : src.ok S5 := compG_ok fun e => by rw [e] at q5; exact q5
    obtain ⟨g1, g2⟩ := gv α5 S5 H5 stC.q rp5 hok5 i
    have pX : Xb.prog = X.prog := by subst hXb; rfl
    have wX : Xb.w = X.w := by subst hXb; rfl
    have kX : Xb.K = X.K := by subst hXb; rfl
    have cX : Xb.calm = true := by subst hXb; exact hc
    have aX : Xb.A = X.A := by subst hXb; rfl
    have eX : Xb.env = ce := by subst hXb; rfl
    cases ds with
    | nil =>
      have td := T.done Xb pX wX kX cX i [] s5 _ H5 (fun _ _ => False) I5 (free I5 n5) st5 (g1 (List.drop_eq_nil_iff.mp hd))
      rw [aX] at td
      refine thnF td fun r s6 ⟨hr, I6⟩ => ?_
      subst hr
      refine fin' I6 ?_
      unfold compG at q5
      rw [guard_of hok5] at q5
      exact hf E α1 α5 H1 H5 S5 Dd acc Q stC dn rp1.hd hin hnot rp5 ra5 q5
    | cons d ds =>
      have hat : src.items[i]? = some d := by
        have : (src.items.drop i)[0]? = some d := by rw [hd]; rfl
        rw [List.getElem?_drop] at this
        exact this
      have hd' : src.items.drop (i + 1) = ds := by rw [← List.drop_drop, hd]; rfl
      obtain ⟨g3, g4⟩ := g2 d hat
      have ti := T.item Xb pX wX kX cX i [] s5 _ H5 (fun _ _ => False) I5 (free I5 n5) st5 g3
      rw [aX] at ti
      refine thnF ti fun r s6 ⟨u, hr, h6⟩ => ?_
      subst hr
      refine thnF h6 fun _ s7 ⟨x, H7, I7, r7, y7, st7, n7⟩ => ?_
      obtain ⟨st57, rp7, rd7⟩ := g4 x H7 y7
      have I7' := I7.pinned (free I7 n7) (T.obj _ _ st7)
      unfold compG at q5
      rw [guard_of hok5] at q5
      have as : ∀ {δ ε ζ : Type} (m : Out δ) (k : δ → Sto → Out ε) (l : ε → Sto → Out ζ), (m.bind k).bind l = m.bind fun x S => (k x S).bind l := fun m k l => by cases m <;> rfl
      rw [as] at q5
      have re7 : RepE X.K X.w α5 H7 (wipeR ρ (own.map (·.2))) (wipe σ (own.map (·.2))) := reW.mono (stC.trans st57)
      have pgr := pg.run ([] ++ pinsAt fp s7.heap) s7 (wipe σ (own.map (·.2))) H7 x u
        (fun σ8 H8 => wipe σ8 (own.map (·.2)) = wipe σ (own.map (·.2)) ∧ ∃ α8 S8 ρ8, Stp α5 H7 α8 H8 ∧ Rep X.K X.w α8 S8 H8 ∧ RepE X.K X.w α8 H8 ρ8 σ8 ∧
          Post X.K X.w RO E α1 H1 (((noX (t ρ8) S8).bind fun c S2 => if c = true then (noX (b ρ8 acc) S2).bind fun acc' S3 => compG src.ok g t b (wipeR ρ (own.map (·.2))) ds acc' S3 else compG src.ok g t b (wipeR ρ (own.map (·.2))) ds acc S2).bind fin) Q)
        I7' r7 ⟨α5, S5, wipeR ρ (own.map (·.2)), d, by rw [kX, wX]; exact rp7, by rw [kX, wX]; exact re7, by rw [kX, wX]; exact rd7, by
          rw [kX, wX]
          exact Post.stepX (stC.trans st57) q5 fun ρ1 S3 α3 H3 σ3 _ st3 rp3 re3 q3 => ⟨re3.2.trans (wipe_wipe _ _), α3, S3, ρ1, st3, rp3, re3.1, q3⟩⟩
      rw [aX, pX, wX, eX] at pgr
      have xeF : Xb.xe = fun _ _ => False := by subst hXb; rfl
      rw [xeF] at pgr
      refine thnF pgr fun _ s8 ⟨σ8, H8, I8, hw8, α8, S8, ρ8, st78, rp8, re8, q8⟩ => ?_
      rw [as] at q8
      have stD := (stC.trans st57).trans st78
      have ptr := pt.run ([] ++ pinsAt fp s7.heap) s8 σ8 H8
        (fun c H9 => ∃ α9 S9, Stp α8 H8 α9 H9 ∧ Rep X.K X.w α9 S9 H9 ∧ Post X.K X.w RO E α1 H1 ((if c = true then (noX (b ρ8 acc) S9).bind fun acc' S3 => compG src.ok g t b (wipeR ρ (own.map (·.2))) ds acc' S3 else compG src.ok g t b (wipeR ρ (own.map (·.2))) ds acc S9).bind fin) Q)
        I8 ⟨α8, S8, ρ8, by rw [kX, wX]; exact rp8, by rw [kX, wX]; exact re8, by
          rw [kX, wX]
          exact Post.stepX stD q8 fun c S9 α9 H9 c' _ st9 rp9 r9 q9 => by subst r9; exact ⟨α9, S9, st9, rp9, q9⟩⟩
      rw [aX, pX, wX, eX, xeF] at ptr
      refine thnF ptr fun c s9 ⟨H9, I9, α9, S9, st89, rp9, q9⟩ => ?_
      have stE := stD.trans st89
      have st59 := (st57.trans st78).trans st89
      have hin9 : Dd ∈ α9.hid := st59.stay Dd hin
      have eqD9 : H9 Dd = H5 Dd := st59.keep Dd hin
      have ra9 : RA α9 H9 Dd acc := hkeep _ _ _ _ _ _ st59 eqD9 ra5
      -- the turn's end
      have turn : ∀ {s' : Shared} {H' : Hp} {α' : Al} {S' : Sto} {acc' : γ}, Inv Xb ([] ++ pinsAt fp s7.heap) σ8 H' s' → Stp α1 H1 α' H' → Dd ∈ α'.hid → Rep X.K X.w α' S' H' → RA α' H' Dd acc' → Post X.K X.w RO E α1 H1 ((compG src.ok g t b (wipeR ρ (own.map (·.2))) ds acc' S').bind fin) Q →
          ∃ m, m < n ∧ ∃ i H' α' S' ds acc, Inv Xb [] (wipe σ (own.map (·.2))) H' s' ∧ tn i s'.heap ∧ (∀ a ∈ fp, H' a = none) ∧ src.items.drop i = ds ∧ m = ds.length ∧ Stp α1 H1 α' H' ∧ Dd ∈ α'.hid ∧ Dd ∉ α'.al ∧ Rep X.K X.w α' S' H' ∧ RA α' H' Dd acc ∧
            Post X.K X.w RO E α1 H1 ((compG src.ok g t b (wipeR ρ (own.map (·.2))) ds acc S').bind fin) Q := fun {s' H' α' S' acc'} I' a1 a2 a3 a4 a5 => by
        have pin : ∀ a ∈ fp, ∀ o, s7.heap.get? a = some o → s'.heap.get? a = some o ∧ H' a = none := fun a ha o e =>
          let z := I'.pin (a, o) (List.mem_append_right _ (List.mem_append_right _ (mem_pinsAt ha e)))
          ⟨z.1, z.2.1⟩
        refine ⟨ds.length, by rw [hn]; exact Nat.lt_succ_self _, i + 1, H', α', S', ds, acc', (I'.unpinned (pins := [])).weak (by rw [← hw8, wipe_length]) (fun j v e => ?_), T.keep _ _ _ st7 fun a ha o e => (pin a ha o e).1, fun a ha => ?_, hd', rfl, a1, a2, a3.dj Dd a2, a3, a4, a5⟩
        · rw [← hw8] at e
          exact (wipe_some e).1
        · obtain ⟨o, e, _⟩ := T.obj _ _ st7 a ha
          exact (pin a ha o e).2
      cases c with
      | false =>
        rw [if_neg Bool.false_ne_true] at q9 ⊢
        exact turn I9 stE hin9 rp9 ra9 q9
      | true =>
        rw [if_pos rfl] at q9 ⊢
        rw [as] at q9
        cases hbv : b ρ8 acc S9 with
        | stuck => simp only [noX, hbv, Out.bind] at q9; exact q9.elim
        | exc c p S' => simp only [noX, hbv, Out.bind] at q9; exact q9.elim
        | val acc' S10 =>
          simp only [noX, hbv, Out.bind] at q9
          have z := pb ([] ++ pinsAt fp s7.heap) s9 σ8 H9 α9 S9 S10 ρ8 Dd acc acc' (fun H' => ∃ α' H2 o, H' = upd H2 Dd o ∧ Stp α9 H9 α' H2 ∧ Rep X.K X.w α' S10 (upd H2 Dd o) ∧ RA α' (upd H2 Dd o) Dd acc')
            (notedBy (model X.prog X.w) X.A ce fun e s' => compPost (model X.prog X.w) X.A X.xe none (EP X pins σ Q) (.ref Dd) s3.heap.objs.size (.error e) s') I9 (by rw [kX, wX]; exact rp9) (by rw [kX, wX]; exact re8.mono st89) hin9 ra9 hbv
            (fun α' H2 o a1 a2 a3 => ⟨α', H2, o, rfl, a1, by rw [kX, wX] at a2; exact a2, a3⟩)
          rw [eX] at z
          refine hBm _ _ _ _ _ _ z ?_
          rintro s' ⟨H', I', α', H2, o, rfl, a1, a2, a3⟩
          exact turn I' (stp_later (stE.trans a1) dn rp1.hd) (a1.stay Dd hin9) a2 a3 q9
  exact hstart _ _ _ _ _ loop (T.self X.A 0 _ _ _ st4 loop)
end
end Z
set_option Elab.async false
set_option linter.all false
set_option maxRecDepth 100000
set_option maxHeartbeats 1000000
/-! Z15: {k: v for ..}, len({x for ..}). -/
namespace Z
open PySem L2 PySem.Spec PyProof.Rows
/-! ### dicts -/
abbrev KD := List D × List D
def RAd (K : PySem.W.Frag) (w : World) : RAx KD := fun α H a p => ∃ kv vs xs, H a = some (dHO w a xs) ∧ Ents p.1 kv vs xs ∧ RepL K w α H p.1 kv ∧ RepL K w α H p.2 vs
@[simp] def bDic (fk fv : Rho → M D) : Rho → KD → M KD := fun ρ p S => (fk ρ S).bind fun k S1 => (fv ρ S1).bind fun v S2 => if isKey 8 k = true ∧ p.1.length < sizeLine then .val (dPut p.1 p.2 k v) S2 else .stuck
/-- the new dict: a value, a cell -/
@[simp] def finD (p : KD) : M D := fun S => .val (.dic p.1 p.2) S
@[simp] def finDC (p : KD) : M D := fun S => .val (.ref S.length) (S ++ [.dic false p.1 p.2])
theorem finG_d {K : PySem.W.Frag} {w : World} : FinG K w (RAd K w) (RepD K w) finD := fun E α0 α H0 H S a p Q st ha hh hi hn rp ⟨kv, vs, xs, h1, h2, h3, h4⟩ q =>
  q (α.show a) H _ (stp_show st ha hh) (rep_show rp) (by unfold RepD; exact ⟨a, kv, vs, xs, rfl, fun z => z.elim hn not_show, .inl h1, h2, repL_less less_show _ _ h3, repL_less less_show _ _ h4⟩)
theorem finG_dc {K : PySem.W.Frag} {w : World} : FinG K w (RAd K w) (RepD K w) finDC := fun E α0 α H0 H S a p Q st ha hh hi hn rp ⟨kv, vs, xs, h1, h2, h3, h4⟩ q =>
  q (α.cell a) H _ (stp_cell2 st ha hh) (rep_cell rp hi hn ⟨kv, vs, xs, by simpa using h1, h2, repL_less (less_cell hi) _ _ h3, repL_less (less_cell hi) _ _ h4⟩) (by unfold RepD; exact ⟨a, rfl, by rw [← rp.len]; simp [Al.cell]⟩)
def Bdic (P : Program) (w : World) (A : Around) (kx vx : Expr) : Env → Addr → (Shared → Prop) → (Value → Shared → Prop) → Shared → Prop := fun env Dd P' E s =>
  wpAny (model P w) A (eval kx env) (fun kv s4 => wpAny (model P w) A (eval vx env) (fun vv s5 => wpAny (model P w) A (dictSet Dd kv vv) (fun _ s6 => P' s6) E s5) E s4) E s
section
variable {X : Cx}
theorem dict_at {α : Al} {H : Hp} {a : Addr} {p : KD} (h : RAd X.K X.w α H a p) : ∃ kv vs xs, DictAt X α H a p.1 p.2 kv vs xs := let ⟨kv, vs, xs, h1, h2, h3, h4⟩ := h; ⟨kv, vs, xs, .inl h1, h2, h3, h4⟩
theorem dHO_notup {w : World} {H : Hp} {a : Addr} {xs : List ZD.Ent} (h : H a = some (dHO w a xs)) (us : List V) : ¬ Rd H a (.tup us) := by
  rintro (q | ⟨o, q⟩)
  · rw [h] at q; cases q
  · rw [h] at q; cases q
theorem bs_dic {kx vx : Expr} {fk fv : Rho → M D} (hu : X.A.units + 64 < cLine) (hx : X.xe = fun _ _ => False) (hk : ZE X E0 kx fk) (hv : ZE X E0 vx fv) : BS X (RAd X.K X.w) (bDic fk fv) (Bdic X.prog X.w X.A kx vx) := by
  intro pins s σ H α S S' ρ Dd acc acc' Nx E I rp re hin ra hb h
  unfold bDic at hb
  cases hfk : fk ρ S with
  | stuck => rw [hfk] at hb; cases hb
  | exc c p S1 => rw [hfk] at hb; cases hb
  | val k S1 =>
    rw [hfk] at hb
    have hb : (fv ρ S1).bind (fun v S2 => if isKey 8 k = true ∧ acc.1.length < sizeLine then Out.val (dPut acc.1 acc.2 k v) S2 else .stuck) = .val acc' S' := hb
    cases hfv : fv ρ S1 with
    | stuck => rw [hfv] at hb; cases hb
    | exc c p S2 => rw [hfv] at hb; cases hb
    | val v S2 =>
      rw [hfv] at hb
      have hb : (if isKey 8 k = true ∧ acc.1.length < sizeLine then Out.val (dPut acc.1 acc.2 k v) S2 else .stuck) = .val acc' S' := hb
      split at hb
      case isFalse => cases hb
      rename_i hc
      cases hb
      have r1 := hk.run pins s σ H (fun kv H1 => ∃ α1, Stp α H α1 H1 ∧ Rep X.K X.w α1 S1 H1 ∧ RepD X.K X.w α1 H1 k kv) I ⟨α, S, ρ, rp, re, by rw [hfk]; exact fun α' H' y a1 a2 a3 => ⟨α', a1, a2, a3⟩⟩
      rw [hx] at r1
      refine thnF r1 fun kv s1 ⟨kV', H1, I1, rk, α1, st1, rp1, rdk⟩ => ?_
      have r2 := hv.run pins s1 σ H1 (fun vv H2 => ∃ α2, Stp α1 H1 α2 H2 ∧ Rep X.K X.w α2 S' H2 ∧ RepD X.K X.w α2 H2 v vv) I1 ⟨α1, S1, ρ, rp1, re.mono st1, by rw [hfv]; exact fun α' H' y a1 a2 a3 => ⟨α', a1, a2, a3⟩⟩
      rw [hx] at r2
      refine thnF r2 fun vv s2 ⟨vV, H2, I2, rv, α2, st2, rp2, rdv⟩ => ?_
      have st := st1.trans st2
      have hin2 : Dd ∈ α2.hid := st.stay Dd hin
      obtain ⟨kvs, vs, xs, h1, h2, h3, h4⟩ := ra
      have hD2 : H2 Dd = some (dHO X.w Dd xs) := (st.keep Dd hin).trans h1
      have g : DictAt X α2 H2 Dd acc.1 acc.2 kvs vs xs := ⟨.inl hD2, h2, repL_mono st _ _ h3, repL_mono st _ _ h4⟩
      obtain ⟨dn, hs, hz⟩ := g.dictN I2
      have hn : (xs.map (·.1)).Nodup := by obtain ⟨_, _, _, _, _, _, _, _, hn⟩ := dn; exact hn
      have rdk2 := repD_mono st2 _ _ rdk
      obtain ⟨kv', vs', t1, t2, t3⟩ := dPut_at hn h2 g.rk g.rv hc.1 rdk2 rk rdv rv
      refine ZD.set_ok (by omega) (key_isN I2 hc.1 rdk2 rk) dn hz fun h' tk hm hb => ?_
      have I3 := dict_put (tk := tk) I2 hD2 hs (putN_len2 (by rw [h2.len]; exact hc.2)) hm hb
      refine ⟨_, I3, h α2 H2 _ st (rep_hid rp2 hin2 (dHO_notup hD2)) ⟨kv', vs', _, upd_same, t1, repL_hid hin2 (dHO_notup hD2) _ _ t2, repL_hid hin2 (dHO_notup hD2) _ _ t3⟩⟩
variable {E : XK} {pos : Pos} {kx vx tg iter : Expr} {ifs : List Expr} {scope : Scope} {own : List (Str × Nat)} {f : Rho → M Src} {g : D → Rho → M Rho} {t : Rho → M Bool} {fk fv : Rho → M D} {fin : KD → M D}
/-- {kx: vx for tg in iter if ..} -/
theorem ze_dc (hu : X.A.units + 64 < cLine) (hf : FinG X.K X.w (RAd X.K X.w) (RepD X.K X.w) fin) (hc : X.calm = true) (hN : X.N.Nodup) (hi : ZI X E tg iter f) (ok : BlkOk X.N X.env.scope scope own)
    (hg : ∀ (s : Shared) (H : Hp) (C : Addr) (cl : List (Str × Addr)) (fp : List Addr), ZGw (X.blk s H scope (compEnvC scope cl C X.env) fp) E0 (own.map (·.2)) tg g)
    (ht : ∀ (s : Shared) (H : Hp) (C : Addr) (cl : List (Str × Addr)) (fp : List Addr), ZTs (X.blk s H scope (compEnvC scope cl C X.env) fp) E0 ifs t)
    (hk : ∀ (s : Shared) (H : Hp) (C : Addr) (cl : List (Str × Addr)) (fp : List Addr), ZE (X.blk s H scope (compEnvC scope cl C X.env) fp) E0 kx fk)
    (hv : ∀ (s : Shared) (H : Hp) (C : Addr) (cl : List (Str × Addr)) (fp : List Addr), ZE (X.blk s H scope (compEnvC scope cl C X.env) fp) E0 vx fv) (hs : ∀ x, foldedSetIterable iter X.env x = pure x := by intro _; rfl) :
    ZE X E (.DictComp kx vx [⟨tg, iter, ifs, 0⟩] scope pos) (eGath f (own.map (·.2)) g t (bDic fk fv) ([], []) fin) := by
  refine gath (B := Bdic X.prog X.w X.A kx vx) (ho := fun a => dHO X.w a []) (RA := RAd X.K X.w) (fresh := newDict) (pos' := firstIterPos [⟨tg, iter, ifs, 0⟩] pos) (by rw [arm_eval_DictComp]; rfl) rfl ?_ ?_ ?_ ?_ ?_ ?_ hf hc hN hi ok hg ht (fun s H C cl fp => bs_dic (X := X.blk s H scope (compEnvC scope cl C X.env) fp) hu rfl (hk s H C cl fp) (hv s H C cl fp)) hs
  · intro pins σ H s Q E' I h
    refine wpAny_newObj_type (h _ ?_)
    refine I.laid (a := s.heap.objs.size) (o := dHO X.w s.heap.objs.size []) (t' := s.toks) (fun _ _ q => Heap.get?_push_of_some _ q) (Nat.le_refl _) ?_
    have hb : (s.heap.objs.size == sysModules) = false := by
      have := I.big
      exact beq_eq_false_iff_ne.mpr (Nat.ne_of_gt this)
    have ho : (s.heap.push { cls := .type "dict", data := .dict #[] }).get? s.heap.objs.size = some { cls := .type "dict", data := .dict #[] } := Heap.get?_push_size _ rfl
    refine ⟨⟨Nat.zero_le _, hb, _, #[], 0, ho, ⟨rfl, rfl, rfl⟩, rfl, rfl, List.nodup_nil⟩, ⟨_, ho⟩, fun h1 h2 p st => ?_⟩
    obtain ⟨p1, p2, o', es', ep', q1, q2⟩ := p
    exact ⟨p1, p2, o', es', ep', st _ q1, q2⟩
  · intro R s it Dd env J turn n h
    exact compLoop_anyD J turn n h
  · intro R s it Dd env h0 h
    exact codeAny_compStart_dict h0 h
  · intro env Dd P P' E' s h k
    exact wpAny_mono h (fun _ _ h => wpAny_mono h (fun _ _ h => wpAny_mono h (fun _ s h => k s h) fun _ _ z => z) fun _ _ z => z) fun _ _ z => z
  · intro α H Dd h
    exact ⟨[], [], [], upd_same, ⟨rfl, rfl, .nil, .nil⟩, RepL.nil, RepL.nil⟩
  · intro α H α' H' Dd acc st e ⟨kv, vs, xs, h1, h2, h3, h4⟩
    exact ⟨kv, vs, xs, e.trans h1, h2, repL_mono st _ _ h3, repL_mono st _ _ h4⟩
end
/-! ### sets, of numbers and texts, of which the size alone is asked -/
def keyOf : D → Option Key
  | .int i => some (.inl i)
  | .str x => some (.inr x)
  | _ => none
def RAs (P : Program) (w : World) : RAx (List Key) := fun α H a ks => ∃ Sf, H a = some (SetK P w a Sf ks.length) ∧ ∀ k, Sf k = true ↔ k ∈ ks
@[simp] def bSet (fe : Rho → M D) : Rho → List Key → M (List Key) := fun ρ ks S => (fe ρ S).bind fun d S1 => match keyOf d with
  | some k => if ks.length + 1 < scanBound then .val (if ks.any (fun j => decide (j = k)) = true then ks else ks ++ [k]) S1 else .stuck
  | none => .stuck
def BsetE (P : Program) (w : World) (A : Around) (elt : Expr) : Env → Addr → (Shared → Prop) → (Value → Shared → Prop) → Shared → Prop := fun env Dd P' E s =>
  wpAny (model P w) A (eval elt env) (fun x s4 => wpAny (model P w) A (call (.builtin "set.add") [.ref Dd, x]) (fun _ s5 => P' s5) E s4) E s
theorem keyOf_rep {K : PySem.W.Frag} {w : World} {α : Al} {H : Hp} {d : D} {v : V} {k : Key} (h : keyOf d = some k) (r : RepD K w α H d v) : v = kV k := by
  cases d with
  | int i => cases h; exact rep_int r
  | str x => cases h; exact rep_str r
  | _ => cases h
theorem setK_notup {P : Program} {w : World} {H : Hp} {a : Addr} {Sf : Key → Bool} {n : Nat} (h : H a = some (SetK P w a Sf n)) (us : List V) : ¬ Rd H a (.tup us) := by
  rintro (q | ⟨o, q⟩)
  · rw [h] at q; cases q
  · rw [h] at q; cases q
section
variable {X : Cx}
theorem any_mem (ks : List Key) (k : Key) : (ks.any fun j => decide (j = k)) = true ↔ k ∈ ks := by
  rw [List.any_eq_true]
  exact ⟨fun ⟨j, h1, h2⟩ => of_decide_eq_true h2 ▸ h1, fun h => ⟨k, h, decide_eq_true rfl⟩⟩
theorem bs_set {elt : Expr} {fe : Rho → M D} (hx : X.xe = fun _ _ => False) (he : ZE X E0 elt fe) : BS X (RAs X.prog X.w) (bSet fe) (BsetE X.prog X.w X.A elt) := by
  intro pins s σ H α S S' ρ Dd acc acc' Nx E I rp re hin ra hb h
  unfold bSet at hb
  cases hfe : fe ρ S with
  | stuck => rw [hfe] at hb; cases hb
  | exc c p S1 => rw [hfe] at hb; cases hb
  | val d S1 =>
    rw [hfe] at hb
    simp only [Out.bind] at hb
    cases hk : keyOf d with
    | none => rw [hk] at hb; cases hb
    | some k =>
      rw [hk] at hb
      simp only at hb
      split at hb
      case isFalse => cases hb
      rename_i hroom
      cases hb
      have r1 := he.run pins s σ H (fun kv H1 => ∃ α1, Stp α H α1 H1 ∧ Rep X.K X.w α1 S' H1 ∧ RepD X.K X.w α1 H1 d kv) I ⟨α, S, ρ, rp, re, by rw [hfe]; exact fun α' H' y a1 a2 a3 => ⟨α', a1, a2, a3⟩⟩
      rw [hx] at r1
      refine thnF r1 fun u s1 ⟨v, H1, I1, ru, α1, st1, rp1, rdk⟩ => ?_
      have ev := keyOf_rep hk rdk
      subst ev
      have hin1 : Dd ∈ α1.hid := st1.stay Dd hin
      obtain ⟨Sf, h1, h2⟩ := ra
      have hD : H1 Dd = some (SetK X.prog X.w Dd Sf acc.length) := (st1.keep Dd hin).trans h1
      refine call_set_add (kV_is ru) (key_scan ru) (setK_get I1 hD) hroom fun h' sb new => ?_
      have hex : ∃ o, h'.get? Dd = some o := let ⟨o, _, _, _, ho, _⟩ := new; ⟨o, ho⟩
      refine ⟨_, I1.write (e := Dd) (t' := s1.toks + 1) (by rw [hD]; trivial) (.inl rfl) (fun b u hb hu => (sb.2 b hb).trans hu) hex (setK_new new), ?_⟩
      refine h α1 H1 _ st1 (rep_hid rp1 hin1 (setK_notup hD)) ⟨fun k' => Sf k' || decide (k' = k), ?_, fun j => ?_⟩
      · rw [upd_same]
        by_cases c : k ∈ acc
        · rw [if_pos ((any_mem acc k).mpr c), if_pos ((h2 k).mpr c)]
        · rw [if_neg (fun z => c ((any_mem acc k).mp z)), if_neg (fun z => c ((h2 k).mp z)), List.length_append]; rfl
      · by_cases c : k ∈ acc
        · rw [if_pos ((any_mem acc k).mpr c)]
          by_cases e : j = k
          · subst e; simp [c]
          · simp [e, h2]
        · rw [if_neg (fun z => c ((any_mem acc k).mp z))]
          by_cases e : j = k
          · subst e; simp
          · simp [e, h2]
@[simp] def finK (ks : List Key) : M (List Key) := fun S => .val ks S
def ROs (P : Program) (w : World) : Al → Hp → List Key → V → Prop := fun α H ks v => ∃ a Sf, v = .ref a ∧ H a = some (SetK P w a Sf ks.length)
theorem finG_s {K : PySem.W.Frag} {P : Program} {w : World} : FinG K w (RAs P w) (ROs P w) finK := fun E α0 α H0 H S a ks Q st ha hh hi hn rp ⟨Sf, h1, h2⟩ q =>
  q (α.show a) H _ (stp_show st ha hh) (rep_show rp) ⟨a, Sf, rfl, h1⟩
variable {E : XK} {pos p lpos : Pos} {elt tg iter : Expr} {ifs : List Expr} {scope : Scope} {own : List (Str × Nat)} {f : Rho → M Src} {g : D → Rho → M Rho} {t : Rho → M Bool} {fe : Rho → M D}
theorem pe_scK (hc : X.calm = true) (hN : X.N.Nodup) (hi : ZI X E tg iter f) (ok : BlkOk X.N X.env.scope scope own)
    (hg : ∀ (s : Shared) (H : Hp) (C : Addr) (cl : List (Str × Addr)) (fp : List Addr), ZGw (X.blk s H scope (compEnvC scope cl C X.env) fp) E0 (own.map (·.2)) tg g)
    (ht : ∀ (s : Shared) (H : Hp) (C : Addr) (cl : List (Str × Addr)) (fp : List Addr), ZTs (X.blk s H scope (compEnvC scope cl C X.env) fp) E0 ifs t)
    (he : ∀ (s : Shared) (H : Hp) (C : Addr) (cl : List (Str × Addr)) (fp : List Addr), ZE (X.blk s H scope (compEnvC scope cl C X.env) fp) E0 elt fe) (hs : ∀ x, foldedSetIterable iter X.env x = pure x := by intro _; rfl) :
    PE X (.SetComp elt [⟨tg, iter, ifs, 0⟩] scope pos) (liftR X.K X.w (ROs X.prog X.w) E (eGath f (own.map (·.2)) g t (bSet fe) [] finK)) := by
  refine gath (B := BsetE X.prog X.w X.A elt) (ho := fun a => SetK X.prog X.w a (fun _ => false) 0) (RA := RAs X.prog X.w) (fresh := newSet (.type "set")) (pos' := firstIterPos [⟨tg, iter, ifs, 0⟩] pos) (by rw [PpSet.eval_SetComp]; rfl) rfl ?_ ?_ ?_ ?_ ?_ ?_ finG_s hc hN hi ok hg ht (fun s H C cl fp => bs_set (X := X.blk s H scope (compEnvC scope cl C X.env) fp) rfl (he s H C cl fp)) hs
  · intro pins σ H s Q E' I h
    refine PpSet.newSet_ok (h _ ?_)
    refine I.laid (a := s.heap.objs.size) (t' := s.toks) (fun _ _ q => Heap.get?_push_of_some _ q) (Nat.le_refl _) ?_
    exact setK_new ⟨_, #[], 0, _, Heap.get?_push_size _ rfl, ⟨rfl, rfl, rfl⟩, rfl, (fun e he => by simp at he), (fun k => by simp), (by decide), (by rfl), rfl⟩
  · intro R s it Dd env J turn n h
    exact PpSet.compLoopS_any J turn n h
  · intro R s it Dd env h0 h
    exact PpSet.codeAny_compStart_set h0 h
  · intro env Dd P P' E' s h k
    exact wpAny_mono h (fun _ _ h => wpAny_mono h (fun _ s h => k s h) fun _ _ z => z) fun _ _ z => z
  · intro α H Dd h
    exact ⟨fun _ => false, upd_same, fun k => by simp⟩
  · intro α H α' H' Dd acc st e ⟨Sf, h1, h2⟩
    exact ⟨Sf, e.trans h1, h2⟩
def rLenK (X : Cx) : List V → Hp → VK → Prop := fun xs H Q => ∃ a Sf n, xs = [.ref a] ∧ H a = some (SetK X.prog X.w a Sf n) ∧ Q (.int ((n : Nat) : Int)) H
theorem call_lenK : CallR X (.builtin "len") (rLenK X) := by
  intro pins s σ H xs us Q I r h
  obtain ⟨a, Sf, n, rfl, hp, q⟩ := h
  obtain ⟨u, rfl, rx⟩ := vals1 r
  obtain rfl : u = .ref a := rx
  obtain ⟨o, es, ep, t, ho, hx, hd, _, _, hb, hf, hn⟩ := setK_get I hp
  subst hn
  have hz : es.size < 4096 := hb
  exact call_len_set ho hx hd hf (by omega) ⟨.int ((es.size : Nat) : Int), H, I.tok _, ⟨_, rfl⟩, q⟩
/-- len(a set that is gathered) -/
@[simp] noncomputable def eLenK (m : Rho → M (List Key)) : Rho → M D := fun ρ S => (m ρ S).bind fun ks S1 => .val (.int ks.length) S1
theorem ze_lenK {e : Expr} {m : Rho → M (List Key)} (hm : X.mg "len" = none) (h : PE X e (liftR X.K X.w (ROs X.prog X.w) E m)) (hg : Gl X "len" := by rfl)
    (he : starEach [e] X.env = (false, eval e X.env) :: starEach [] X.env := by rfl) (hpl : (backTo pos (starEach [] X.env)).any (·.1) = false := by rfl) : ZE X E (.Call (.Name "len" p) [e] [] pos) (eLenK m) :=
  PE.weak (pe_callB call_lenK hg hm boot_len (pa_cons h pa_nil he) (by decide) (by decide) he hpl) fun σ H Q ⟨α, S, ρ, rp, re, q⟩ => by
    refine ⟨α, S, ρ, rp, re, Post.step q fun ks S1 α1 H1 v _ st rp1 r1 q1 => ?_⟩
    obtain ⟨a, Sf, rfl, ha⟩ := r1
    exact ⟨a, Sf, _, rfl, ha, q1.now rp1 (repI _)⟩
end
end Z
set_option Elab.async false
set_option linter.all false
set_option maxRecDepth 100000
set_option maxHeartbeats 1000000
/-! Z16: [x for .. in .. if .. for .. in .. if ..]. -/
namespace Z
open PySem L2 PySem.Spec PyProof.Rows
@[simp] def bLst (e : Rho → M D) : Rho → List D → M (List D) := fun ρ acc S => (e ρ S).bind fun y S1 => if acc.length < sizeLine then .val (acc ++ [y]) S1 else .stuck
@[simp] noncomputable def bIn (f1 : Rho → M Src) (vs1 : List Nat) (g1 : D → Rho → M Rho) (t1 : Rho → M Bool) (e : Rho → M D) : Rho → List D → M (List D) := fun ρ acc S => (f1 ρ S).bind fun s1 S1 => compG s1.ok g1 t1 (bLst e) (wipeR ρ vs1) s1.items acc S1
theorem RepE.monoQ {K : PySem.W.Frag} {w : World} {α α' : Al} {H H' : Hp} {ρ : Rho} {σ : L2.St} (h : RepE K w α H ρ σ) (s : Stq α H α' H') : RepE K w α' H' ρ σ :=
  ⟨h.len, fun i d e => let ⟨v, h1, h2⟩ := h.at_ i d e; ⟨v, h1, repD_monoQ s d v h2⟩⟩
theorem stq_hid {α : Al} {H : Hp} {a : Addr} {o : HO} (ha : a ∈ α.hid) (hl : ∀ vs, ¬ Rd H a (.tup vs)) : Stq α H α (upd H a o) :=
  ⟨⟨[], by simp, by simp⟩, fun _ h => .inl h, fun b h => upd_dom h, fun b vs h => rd_upd_ne (fun e => hl vs (by rw [← e]; exact h)) h, fun b u _ n h => rd_upd_ne (fun e => n (.inr (by rw [e]; exact ha))) h, fun b vs n h => by
    rw [upd_ne (fun e => n (.inr (by rw [e]; exact ha)))]; exact h⟩
/-- noX takes out of a part what it takes out of the whole -/
theorem noX_val {β : Type} {m : M β} {S S' : Sto} {x : β} (h : m S = .val x S') : noX m S = .val x S' := by simp [h]
section
variable {X : Cx} {E : XK} {vs vs1 : List Nat} {f f1 : Rho → M Src} {g g1 : D → Rho → M Rho} {t t1 : Rho → M Bool} {e : Rho → M D} {fin : List D → M D}
theorem lc2_read (hf : Fin X.K X.w fin) {σ : L2.St} {H : Hp} {Q : VK}
    (h : lift X.K X.w E (eGath f vs g t (bIn f1 vs1 g1 t1 e) [] fin) σ H Q) : tLc2 (liftI X.K X.w E f) (liftGw X.K X.w E0 vs g) (liftB X.K X.w E0 t) (liftI X.K X.w E0 f1) (liftGw X.K X.w E0 vs1 g1) (liftB X.K X.w E0 t1) (lift X.K X.w E0 e) vs vs1 σ H Q := by
  obtain ⟨α, S, ρ, rp, re, q⟩ := h
  refine ⟨α, S, ρ, rp, re, ?_⟩
  unfold eGath at q
  cases hfs : f ρ S with
  | stuck => rw [hfs] at q; exact q.elim
  | exc c p S' => rw [hfs] at q; exact q
  | val s S1 =>
    rw [hfs] at q
    have q : Post X.K X.w (RepD X.K X.w) E α H (if s.items.length ≤ sizeLine then (compG s.ok g t (bIn f1 vs1 g1 t1 e) (wipeR ρ vs) s.items [] S1).bind fin else .stuck) Q := q
    by_cases hlen : s.items.length ≤ sizeLine
    case neg => rw [if_neg hlen] at q; exact q.elim
    rw [if_pos hlen] at q
    have hok : s.ok S1 := compG_ok fun e => by rw [e] at q; exact q
    refine ⟨hok, fun α1 H1 J st1 rp1 gv a ha => ?_⟩
    have q := Post.mono st1 q
    have re1 := (re.mono st1).wipe vs
    have st2 : Stp α1 H1 (α1.hide a) (upd H1 a (.lst [])) := stp_hide rp1.hd ha
    have nal : a ∉ α1.al := fun z => rp1.mem_some (.inl z) ha
    have as : ∀ {δ ε ζ : Type} (m : Out δ) (k : δ → Sto → Out ε) (l : ε → Sto → Out ζ), (m.bind k).bind l = m.bind fun x S => (k x S).bind l := fun m k l => by cases m <;> rfl
    refine ⟨fun i m H => ∃ (α : Al) (S : Sto) (ds acc : List D) (av : List V), s.items.drop i = ds ∧ m = ds.length ∧ Stp α1 H1 α H ∧ a ∈ α.hid ∧ a ∉ α.al ∧ Rep X.K X.w α S H ∧ H a = some (.lst av) ∧ RepL X.K X.w α H acc av ∧
      Post X.K X.w (RepD X.K X.w) E α1 H1 ((compG s.ok g t (bIn f1 vs1 g1 t1 e) (wipeR ρ vs) ds acc S).bind fin) Q,
      ⟨_, α1.hide a, S1, s.items, [], [], rfl, rfl, st2, List.mem_cons_self, nal, rep_hide rp1 ha, upd_same, RepL.nil, q⟩, ?_⟩
    rintro i m H ⟨α, S, ds, acc, av, hd, hm, st, hah, han, rp, hav, lav, q⟩
    have hok : s.ok S := compG_ok fun e => by rw [e] at q; exact q
    obtain ⟨g1', g2⟩ := gv α S H st.q rp hok i
    cases ds with
    | nil =>
      refine .inl ⟨g1' (List.drop_eq_nil_iff.mp hd), ?_⟩
      unfold compG at q
      rw [guard_of hok] at q
      exact hf E α1 α H1 H S a acc av Q st ha rp1.hd hah han rp hav lav q
    | cons d ds =>
      have hi : s.items[i]? = some d := by
        have : (s.items.drop i)[0]? = some d := by rw [hd]; rfl
        rw [List.getElem?_drop] at this
        exact this
      have hd' : s.items.drop (i + 1) = ds := by rw [← List.drop_drop, hd]; rfl
      obtain ⟨g3, g4⟩ := g2 d hi
      refine .inr ⟨g3, fun H => ∃ (α : Al) (S : Sto) (acc : List D) (av : List V), Stp α1 H1 α H ∧ a ∈ α.hid ∧ a ∉ α.al ∧ Rep X.K X.w α S H ∧ H a = some (.lst av) ∧ RepL X.K X.w α H acc av ∧
        Post X.K X.w (RepD X.K X.w) E α1 H1 ((compG s.ok g t (bIn f1 vs1 g1 t1 e) (wipeR ρ vs) ds acc S).bind fin) Q,
        fun H' ⟨α', S', acc', av', h2, h3, h4, h5, h6, h7, h8⟩ => ⟨ds.length, by rw [hm]; exact Nat.lt_succ_self _, α', S', ds, acc', av', hd', rfl, h2, h3, h4, h5, h6, h7, h8⟩, fun x H' hy => ?_⟩
      obtain ⟨stx, rpx, rx⟩ := g4 x H' hy
      unfold compG at q
      rw [guard_of hok, as] at q
      have reW : RepE X.K X.w α H' (wipeR ρ vs) (L2.wipe σ vs) := re1.mono (st.trans stx)
      refine ⟨α, S, wipeR ρ vs, d, rpx, reW, rx, Post.stepX (st.trans stx) q fun ρ1 S3 α3 H3 σ3 _ st3 rp3 re3 q3 => ⟨re3.2.trans (by rw [wipe_wipe]), ?_⟩⟩
      rw [as] at q3
      refine ⟨α3, S3, ρ1, rp3, re3.1, Post.stepX ((st.trans stx).trans st3) q3 fun b S4 α4 H4 c _ st4 rp4 r4 q4 => ?_⟩
      subst r4
      have st04 := ((st.trans stx).trans st3).trans st4
      have st14 := (stx.trans st3).trans st4
      have hav4 : H4 a = some (.lst av) := (st14.keep a hah).trans hav
      have hah4 : a ∈ α4.hid := st14.stay a hah
      have lav4 := repL_mono st14 _ _ lav
      cases b with
      | false =>
        rw [if_neg Bool.false_ne_true] at q4 ⊢
        exact ⟨α4, S4, acc, av, st04, hah4, rp4.dj a hah4, rp4, hav4, lav4, q4⟩
      | true =>
        rw [if_pos rfl] at q4 ⊢
        rw [as] at q4
        have re4 := re3.1.mono st4
        -- the inner clause
        cases hf1 : f1 ρ1 S4 with
        | stuck => simp only [bIn, noX, hf1, Out.bind] at q4; exact q4.elim
        | exc c p S5 => simp only [bIn, noX, hf1, Out.bind] at q4; exact q4.elim
        | val s1 S5 =>
          have q5 : Post X.K X.w (RepD X.K X.w) E α1 H1 ((noX (fun S => compG s1.ok g1 t1 (bLst e) (wipeR ρ1 vs1) s1.items acc S) S5).bind fun acc' S6 => (compG s.ok g t (bIn f1 vs1 g1 t1 e) (wipeR ρ vs) ds acc' S6).bind fin) Q := by
            simp only [bIn, noX, hf1, Out.bind] at q4
            exact q4
          have q5 : Post X.K X.w (RepD X.K X.w) E α1 H1 (((compG s1.ok g1 t1 (bLst e) (wipeR ρ1 vs1) s1.items acc S5)).bind fun acc' S6 => (compG s.ok g t (bIn f1 vs1 g1 t1 e) (wipeR ρ vs) ds acc' S6).bind fin) Q := by
            cases hz : compG s1.ok g1 t1 (bLst e) (wipeR ρ1 vs1) s1.items acc S5 with
            | val x S6 => simp only [noX, hz] at q5; exact q5
            | exc c p S6 => simp only [noX, hz] at q5; exact q5.elim
            | stuck => simp only [noX, hz] at q5; exact q5.elim
          have hok1 : s1.ok S5 := compG_ok fun e => by rw [e] at q5; exact q5
          refine ⟨α4, S4, ρ1, rp4, re4, by
            rw [hf1]
            refine ⟨hok1, fun α5 H5 J1 st5 rp5 gv1 => ?_⟩
            have st05 := st04.trans st5
            have hah5 : a ∈ α5.hid := st5.stay a hah4
            have hav5 : H5 a = some (.lst av) := (st5.keep a hah4).trans hav4
            have reW1 : RepE X.K X.w α5 H5 (wipeR ρ1 vs1) (L2.wipe σ3 vs1) := (re4.mono st5).wipe _
            refine ⟨fun j k H => ∃ (α : Al) (S : Sto) (ds1 acc : List D) (av : List V), s1.items.drop j = ds1 ∧ k = ds1.length ∧ Stp α1 H1 α H ∧ Stq α5 H5 α H ∧ a ∈ α.hid ∧ Rep X.K X.w α S H ∧ H a = some (.lst av) ∧ RepL X.K X.w α H acc av ∧
              Post X.K X.w (RepD X.K X.w) E α1 H1 ((compG s1.ok g1 t1 (bLst e) (wipeR ρ1 vs1) ds1 acc S).bind fun acc' S6 => (compG s.ok g t (bIn f1 vs1 g1 t1 e) (wipeR ρ vs) ds acc' S6).bind fin) Q,
              ⟨_, α5, S5, s1.items, acc, av, rfl, rfl, st05, Stp.refl.q, hah5, rp5, hav5, repL_mono st5 _ _ lav4, q5⟩, ?_⟩
            rintro j k H ⟨α, S, ds1, acc, av, hd1, hk1, st6, sq6, hah6, rp6, hav6, lav6, q6⟩
            have hok6 : s1.ok S := compG_ok fun e => by rw [e] at q6; exact q6
            obtain ⟨p1, p2⟩ := gv1 α S H sq6 rp6 hok6 j
            cases ds1 with
            | nil =>
              refine .inl ⟨p1 (List.drop_eq_nil_iff.mp hd1), ?_⟩
              rw [compG_nil, guard_of hok6] at q6
              exact ⟨α, S, acc, av, st6, hah6, rp6.dj a hah6, rp6, hav6, lav6, q6⟩
            | cons d1 ds1 =>
              have hi1 : s1.items[j]? = some d1 := by
                have : (s1.items.drop j)[0]? = some d1 := by rw [hd1]; rfl
                rw [List.getElem?_drop] at this
                exact this
              have hd1' : s1.items.drop (j + 1) = ds1 := by rw [← List.drop_drop, hd1]; rfl
              obtain ⟨p3, p4⟩ := p2 d1 hi1
              refine .inr ⟨p3, fun H => ∃ (α : Al) (S : Sto) (acc : List D) (av : List V), Stp α1 H1 α H ∧ Stq α5 H5 α H ∧ a ∈ α.hid ∧ Rep X.K X.w α S H ∧ H a = some (.lst av) ∧ RepL X.K X.w α H acc av ∧
                Post X.K X.w (RepD X.K X.w) E α1 H1 ((compG s1.ok g1 t1 (bLst e) (wipeR ρ1 vs1) ds1 acc S).bind fun acc' S6 => (compG s.ok g t (bIn f1 vs1 g1 t1 e) (wipeR ρ vs) ds acc' S6).bind fin) Q,
                fun H' ⟨α', S', acc', av', a1, a2, a3, a4, a5, a6, a7⟩ => ⟨ds1.length, by rw [hk1]; exact Nat.lt_succ_self _, α', S', ds1, acc', av', hd1', rfl, a1, a2, a3, a4, a5, a6, a7⟩, fun x1 H' hy1 => ?_⟩
              obtain ⟨sty, rpy, ry⟩ := p4 x1 H' hy1
              rw [compG_cons, guard_of hok6, as] at q6
              have reY : RepE X.K X.w α H' (wipeR ρ1 vs1) (L2.wipe σ3 vs1) := (reW1.monoQ sq6).mono sty
              refine ⟨α, S, wipeR ρ1 vs1, d1, rpy, reY, ry, Post.stepX (st6.trans sty) q6 fun ρ7 S7 α7 H7 σ7 _ st7 rp7 re7 q7 => ⟨re7.2.trans (by rw [wipe_wipe]), ?_⟩⟩
              rw [as] at q7
              refine ⟨α7, S7, ρ7, rp7, re7.1, Post.stepX ((st6.trans sty).trans st7) q7 fun b1 S8 α8 H8 c1 _ st8 rp8 r8 q8 => ?_⟩
              subst r8
              have st18 := ((st6.trans sty).trans st7).trans st8
              have st68 := (sty.trans st7).trans st8
              have hav8 : H8 a = some (.lst av) := (st68.keep a hah6).trans hav6
              have hah8 : a ∈ α8.hid := st68.stay a hah6
              have lav8 := repL_mono st68 _ _ lav6
              cases b1 with
              | false =>
                rw [if_neg Bool.false_ne_true] at q8 ⊢
                exact ⟨α8, S8, acc, av, st18, sq6.trans st68.q, hah8, rp8, hav8, lav8, q8⟩
              | true =>
                rw [if_pos rfl] at q8 ⊢
                rw [as] at q8
                cases he : e ρ7 S8 with
                | stuck => simp only [bLst, noX, he, Out.bind] at q8; exact q8.elim
                | exc c p S9 => simp only [bLst, noX, he, Out.bind] at q8; exact q8.elim
                | val y S9 =>
                  by_cases hl : acc.length < sizeLine
                  case neg => simp only [bLst, noX, he, Out.bind, if_neg hl] at q8; exact q8.elim
                  have eb : noX (bLst e ρ7 acc) S8 = .val (acc ++ [y]) S9 := by simp [he, hl]
                  rw [eb] at q8
                  refine ⟨α8, S8, ρ7, rp8, re7.1.mono st8, by
                    rw [he]
                    intro α9 H9 yv st9 rp9 r9
                    have hav9 : H9 a = some (.lst av) := (st9.keep a hah8).trans hav8
                    have hah9 : a ∈ α9.hid := st9.stay a hah8
                    have hnt : ∀ us, ¬ Rd H9 a (.tup us) := lst_notup hav9
                    refine ⟨av, hav9, by rw [lav8.length]; exact hl, α9, S9, acc ++ [y], av ++ [yv], stp_later (st18.trans st9) ha rp1.hd, (sq6.trans (st68.trans st9).q).trans (stq_hid hah9 hnt), hah9, rep_hid rp9 hah9 hnt, upd_same, ?_, q8⟩
                    exact (repL_hid hah9 hnt _ _ (repL_mono st9 _ _ lav8)).append (.one (repD_hid hah9 hnt _ _ r9))⟩⟩
variable {pos : Pos} {elt tg iter tg1 iter1 : Expr} {ifs ifs1 : List Expr} {scope : Scope} {own : List (Str × Nat)}
/-- [elt for tg in iter if .. for tg1 in iter1 if ..] -/
theorem ze_lc2 (hf : Fin X.K X.w fin) (hc : X.calm = true) (hN : X.N.Nodup) (hi : ZI X E tg iter f) (ok : BlkOk X.N X.env.scope scope own) (hv : ∀ i ∈ vs1, i ∈ own.map (·.2))
    (hg : ∀ (s : Shared) (H : Hp) (C : Addr) (cl : List (Str × Addr)) (fp : List Addr), ZGw (X.blk s H scope (compEnvC scope cl C X.env) fp) E0 (own.map (·.2)) tg g)
    (ht : ∀ (s : Shared) (H : Hp) (C : Addr) (cl : List (Str × Addr)) (fp : List Addr), ZTs (X.blk s H scope (compEnvC scope cl C X.env) fp) E0 ifs t)
    (hi1 : ∀ (s : Shared) (H : Hp) (C : Addr) (cl : List (Str × Addr)) (fp : List Addr), ZI (X.blk s H scope (compEnvC scope cl C X.env) fp) E0 tg1 iter1 f1)
    (hg1 : ∀ (s : Shared) (H : Hp) (C : Addr) (cl : List (Str × Addr)) (fp : List Addr), ZGw (X.blk s H scope (compEnvC scope cl C X.env) fp) E0 vs1 tg1 g1)
    (ht1 : ∀ (s : Shared) (H : Hp) (C : Addr) (cl : List (Str × Addr)) (fp : List Addr), ZTs (X.blk s H scope (compEnvC scope cl C X.env) fp) E0 ifs1 t1)
    (he : ∀ (s : Shared) (H : Hp) (C : Addr) (cl : List (Str × Addr)) (fp : List Addr), ZE (X.blk s H scope (compEnvC scope cl C X.env) fp) E0 elt e) (hs : ∀ x, foldedSetIterable iter X.env x = pure x := by intro _; rfl) (hs1 : ∀ env x, foldedSetIterable iter1 env x = pure x := by intro _ _; rfl) :
    ZE X E (.ListComp elt [⟨tg, iter, ifs, 0⟩, ⟨tg1, iter1, ifs1, 0⟩] scope pos) (eGath f (own.map (·.2)) g t (bIn f1 vs1 g1 t1 e) [] fin) := PE.weak (pe_lc2 hc hN hi ok hv hg ht hi1 hg1 ht1 he hs hs1) fun σ H Q h => lc2_read hf h
end
end Z
set_option Elab.async false
set_option linter.all false
set_option maxRecDepth 100000
set_option maxHeartbeats 1000000
/-! Z17: {}, methods of lists, dicts, texts, -x, x or y, truth. -/
namespace Z
open PySem L2 PySem.Spec PyProof.Rows
section
variable {X : Cx} {E : XK} {pos : Pos} {e e1 e2 : Expr} {es : List Expr} {f f1 f2 : Rho → M D}
/-! {} -/
@[simp] def eDcV : Rho → M D := fun _ S => .val (.dic [] []) S
@[simp] def eDcC : Rho → M D := fun _ S => .val (.ref S.length) (S ++ [.dic false [] []])
theorem ze_dcV : ZE X E (.Dict [] [] pos) eDcV := PE.weak pe_dnewN fun σ H Q ⟨α, S, ρ, rp, re, q⟩ => fun p hp => by
  have st : Stp α H α (upd H p (dHO X.w p [])) := stp_new rp.hd hp
  refine q α _ _ st (rp.new hp) ?_
  unfold RepD
  exact ⟨p, [], [], [], rfl, fun h => rp.fresh hp h, .inl upd_same, ⟨rfl, rfl, .nil, .nil⟩, RepL.nil, RepL.nil⟩
theorem ze_dcC : ZE X E (.Dict [] [] pos) eDcC := PE.weak pe_dnewN fun σ H Q ⟨α, S, ρ, rp, re, q⟩ => fun p hp => by
  have st : Stp α H (α.add p) (upd H p (dHO X.w p [])) := stp_cell rp.hd hp
  refine q (α.add p) _ _ st (rp.newCell hp ⟨[], [], [], by simp [upd_same], ⟨rfl, rfl, .nil, .nil⟩, RepL.nil, RepL.nil⟩) ?_
  unfold RepD
  exact ⟨p, rfl, by show (α.al ++ [p])[S.length]? = some p; rw [← rp.len, List.getElem?_append_right (Nat.le_refl _), Nat.sub_self]; rfl⟩
/-! -x -/
def opNeg : D → M D := fun d S => match d with
  | .int i => .val (.int (-i)) S
  | _ => .stuck
theorem ze_neg (h : ZE X E e f) : ZE X E (.UnaryOp .USub e pos) (eUn opNeg f) := PE.weak (pe_un un_neg h) fun σ H Q ⟨α, S, ρ, rp, re, q⟩ => by
  refine ⟨α, S, ρ, rp, re, Post.step q fun d S1 α1 H1 v _ st rp1 r1 q1 => ?_⟩
  unfold opNeg at q1
  split at q1
  · cases rep_int r1
    exact ⟨_, rfl, q1.now rp1 (repI _)⟩
  · exact q1.elim
/-! truth -/
def truD (S : Sto) : D → Option Bool
  | .non => some false
  | .bl b => some b
  | .int i => some (i != 0)
  | .str x => if x.length ≤ sizeLine then some ((x.length : Int) != 0) else none
  | d => match seqA S d with
    | some ds => some (!ds.isEmpty)
    | none => none
theorem empty_rep {K : PySem.W.Frag} {w : World} {α : Al} {H : Hp} {ds : List D} {vs : List V} (r : RepL K w α H ds vs) : (!vs.isEmpty) = (!ds.isEmpty) := by
  have := r.length
  cases ds <;> cases vs <;> simp_all
theorem truD_rep {K : PySem.W.Frag} {w : World} {α : Al} {H : Hp} {S : Sto} {d : D} {v : V} {b : Bool} (rp : Rep K w α S H) (h : truD S d = some b) (r : RepD K w α H d v) : TruV K v H b := by
  have sq : ∀ {d : D} {v : V} {ds : List D}, seqA S d = some ds → b = (!ds.isEmpty) → RepD K w α H d v → TruV K v H b := fun {d v ds} hs hb r => by
    obtain ⟨a, vs, rfl, h1, h2⟩ := seqA_rep rp hs r
    rcases h1 with h1 | h1
    · exact .inl ⟨vs, h1, by rw [hb, empty_rep h2]⟩
    · exact .inr (.inl ⟨vs, h1, by rw [hb, empty_rep h2]⟩)
  unfold truD at h
  split at h
  · cases h; cases rep_non r; rfl
  · cases h; cases rep_bl r; rfl
  · cases h; cases rep_int r; rfl
  · split at h
    · rename_i hz
      cases h; cases rep_str r; exact ⟨hz, rfl⟩
    · cases h
  · split at h
    · rename_i ds hs
      cases h
      exact sq hs rfl r
    · cases h
def opTru : D → M Bool := fun d S => match truD S d with
  | some b => .val b S
  | none => .stuck
/-- x or y, the value -/
@[simp] def eOrT (a b : Rho → M D) : Rho → M D := fun ρ S => (a ρ S).bind fun x S1 => (opTru x S1).bind fun q S2 => if q = true then .val x S2 else b ρ S2
theorem ze_orT (h1 : ZE X E e1 f1) (h2 : ZE X E (.BoolOp .Or (e2 :: es) pos) f2) : ZE X E (.BoolOp .Or (e1 :: e2 :: es) pos) (eOrT f1 f2) := PE.weak (pe_orT h1 h2) fun σ H Q ⟨α, S, ρ, rp, re, q⟩ => by
  refine ⟨α, S, ρ, rp, re, Post.step q fun x S1 α1 H1 v _ st rp1 r1 q1 => ?_⟩
  unfold opTru at q1
  cases hb : truD S1 x with
  | none => simp only [hb, Out.bind] at q1; exact q1.elim
  | some b =>
    simp only [hb, Out.bind] at q1
    refine ⟨b, truD_rep rp1 hb r1, ?_⟩
    cases b with
    | true => exact q1.now rp1 r1
    | false => exact ⟨α1, S1, ρ, rp1, re.mono st, q1⟩
end
/-! ### lists -/
def isLs (S : Sto) (d : D) : Bool := (seqL S d).isSome
theorem isLs_ty {X : Cx} {α : Al} {S : Sto} {H : Hp} {d : D} {x : V} (rp : Rep X.K X.w α S H) (h : isLs S d = true) (r : RepD X.K X.w α H d x) : tyV X.K "list" x H := by
  obtain ⟨ds, hs⟩ := Option.isSome_iff_exists.mp h
  obtain ⟨a, vs, rfl, h1, _⟩ := seqL_rep rp hs r
  exact .inl ⟨rfl, vs, h1⟩
def mAppend : D → List D → M D := fun o ds S => match o, ds with
  | .ref n, [y] => (match S[n]? with
    | some (.lst xs) => if xs.length < sizeLine then .val .non (S.set n (.lst (xs ++ [y]))) else .stuck
    | _ => .stuck)
  | _, _ => .stuck
theorem me_append {X : Cx} {E : XK} : MeS X E isLs (tyV X.K "list") rAppend mAppend := ⟨fun α S H d x rp h r => isLs_ty rp h r, fun α S H d ds x vs Q rp r rl q => by
  unfold mAppend at q
  split at q
  · rename_i n y
    cases hs : S[n]? with
    | none => simp only [hs] at q; exact q.elim
    | some c =>
      cases c with
      | lst xs =>
        simp only [hs] at q
        by_cases hz : xs.length < sizeLine
        · rw [if_pos hz] at q
          unfold RepD at r
          obtain ⟨a, rfl, ha⟩ := r
          obtain ⟨v, rfl, rv⟩ := repL1 rl
          obtain ⟨ws, h1, h2⟩ := rp.cell n _ a hs ha
          have st := stp_set (o := .lst (ws ++ [v])) rp ha
          exact ⟨a, ws, v, rfl, rfl, h1, by rw [h2.length]; exact hz, q α _ _ st (rp.setCell ha ⟨_, upd_same, (repL_mono st _ _ h2).append (.one (repD_mono st _ _ rv))⟩) repN⟩
        · rw [if_neg hz] at q; exact q.elim
      | dic lk ks vs => simp only [hs] at q; exact q.elim
      | ins c fs => simp only [hs] at q; exact q.elim
  · exact q.elim⟩
/-! ### dicts -/
def isDc (S : Sto) (d : D) : Bool := (dictOf S d).isSome
theorem isDc_ty {X : Cx} {α : Al} {S : Sto} {H : Hp} {d : D} {x : V} (rp : Rep X.K X.w α S H) (h : isDc S d = true) (r : RepD X.K X.w α H d x) : tyDict X x H := by
  obtain ⟨⟨ks, ds⟩, hs⟩ := Option.isSome_iff_exists.mp h
  obtain ⟨a, kv, vs, xs, rfl, g⟩ := dictOf_at rp hs r
  exact ⟨a, xs, rfl, g.rd⟩
def mGet1 : D → List D → M D := fun o ds S => match dictOf S o, ds with
  | some (ks, vs), [k] => if isKey 8 k = true then .val ((dGet ks vs k).getD .non) S else .stuck
  | _, _ => .stuck
def mGet2 : D → List D → M D := fun o ds S => match dictOf S o, ds with
  | some (ks, vs), [k, z] => if isKey 8 k = true then .val ((dGet ks vs k).getD z) S else .stuck
  | _, _ => .stuck
def mSetd : D → List D → M D := fun o ds S => match o, ds with
  | .ref n, [k, z] => (match S[n]? with
    | some (.dic false ks vs) => if isKey 8 k = true ∧ ks.length < sizeLine then (match dGet ks vs k with
      | some d => .val d S
      | none => .val z (S.set n (.dic false (dPut ks vs k z).1 (dPut ks vs k z).2))) else .stuck
    | _ => .stuck)
  | _, _ => .stuck
theorem me_get1 {X : Cx} {E : XK} : MeS X E isDc (tyDict X) (rGet1N X) mGet1 := ⟨fun α S H d x rp h r => isDc_ty rp h r, fun α S H d ds x vs Q rp r rl q => by
  unfold mGet1 at q
  split at q
  · rename_i ks us k hd
    split at q
    · rename_i hk
      obtain ⟨y, rfl, ry⟩ := repL1 rl
      obtain ⟨a, kv, ws, xs, rfl, g⟩ := dictOf_at rp hd r
      refine ⟨α, a, ks, us, kv, ws, xs, k, y, rfl, rfl, g, hk, ry, fun d z hg rz => ?_, fun hg => ?_⟩
      · rw [hg] at q; exact q.now rp rz
      · rw [hg] at q; exact q.now rp repN
    · exact q.elim
  · exact q.elim⟩
theorem me_get2 {X : Cx} {E : XK} : MeS X E isDc (tyDict X) (rGet2N X) mGet2 := ⟨fun α S H d x rp h r => isDc_ty rp h r, fun α S H d ds x vs Q rp r rl q => by
  unfold mGet2 at q
  split at q
  · rename_i ks us k z hd
    split at q
    · rename_i hk
      obtain ⟨y, u, rfl, ry, ru⟩ := repL2 rl
      obtain ⟨a, kv, ws, xs, rfl, g⟩ := dictOf_at rp hd r
      refine ⟨α, a, ks, us, kv, ws, xs, k, y, u, rfl, rfl, g, hk, ry, fun d z hg rz => ?_, fun hg => ?_⟩
      · rw [hg] at q; exact q.now rp rz
      · rw [hg] at q; exact q.now rp ru
    · exact q.elim
  · exact q.elim⟩
theorem me_setd {X : Cx} {E : XK} : MeS X E isDc (tyDict X) (rSetdN X) mSetd := ⟨fun α S H d x rp h r => isDc_ty rp h r, fun α S H d ds x vs Q rp r rl q => by
  unfold mSetd at q
  split at q
  · rename_i n k z
    cases hs : S[n]? with
    | none => simp only [hs] at q; exact q.elim
    | some c =>
      cases c with
      | lst xs => simp only [hs] at q; exact q.elim
      | ins c fs => simp only [hs] at q; exact q.elim
      | dic lk ks us =>
        cases lk with
        | true => simp only [hs] at q; exact q.elim
        | false =>
          simp only [hs] at q
          by_cases hc : isKey 8 k = true ∧ ks.length < sizeLine
          · rw [if_pos hc] at q
            unfold RepD at r
            obtain ⟨a, rfl, ha⟩ := r
            obtain ⟨y, u, rfl, ry, ru⟩ := repL2 rl
            obtain ⟨kv, ws, xs, h1, h2, h3, h4⟩ := rp.cell n _ a hs ha
            have h1 : H a = some (dHO X.w a xs) := by simpa using h1
            refine ⟨α, a, ks, us, kv, ws, xs, k, z, y, u, rfl, rfl, h1, h2, h3, h4, hc.1, ry, ru, hc.2, fun d z' hg rz => ?_, fun hg kv' vs' xs' t1 t2 t3 => ?_⟩
            · rw [hg] at q; exact q.now rp rz
            · rw [hg] at q
              have st := stp_set (o := dHO X.w a xs') rp ha
              exact q α _ _ st (rp.setCell ha ⟨kv', vs', xs', by simp [upd_same], t1, repL_mono st _ _ t2, repL_mono st _ _ t3⟩) (repD_mono st _ _ ru)
          · rw [if_neg hc] at q; exact q.elim
  · exact q.elim⟩
/-! ### texts -/
def isSt (S : Sto) (d : D) : Bool := match d with
  | .str _ => true
  | _ => false
def strsD : List D → Option (List Str)
  | [] => some []
  | .str b :: r => (strsD r).map (b :: ·)
  | _ => none
theorem strsD_map : ∀ {ds : List D} {bs : List Str}, strsD ds = some bs → ds = bs.map D.str
  | [], bs, h => by cases h; rfl
  | d :: r, bs, h => by
    cases d with
    | str b =>
      unfold strsD at h
      cases e : strsD r with
      | none => rw [e] at h; cases h
      | some cs => rw [e] at h; cases h; rw [strsD_map e]; rfl
    | _ => cases h
theorem strsD_of (bs : List Str) : strsD (bs.map D.str) = some bs := by
  induction bs with
  | nil => rfl
  | cons b r ih => show (strsD (r.map D.str)).map (b :: ·) = _; rw [ih]; rfl
def mJoin : D → List D → M D := fun o ds S => match o, ds with
  | .str a, [l] => (match seqA S l with
    | some es => (match strsD es with
      | some ys => if (ys.map (·.length)).sum + ys.length * a.length ≤ 16777216 then .val (.str (Txt.join a ys)) S else .stuck
      | none => .stuck)
    | none => .stuck)
  | _, _ => .stuck
def rJoinZ (K : PySem.W.Frag) : V → List V → Hp → VK → Prop := fun x xs H Q => ∃ a p, ∃ ys : List Str, x = .str a ∧ xs = [.ref p] ∧ (SqL K H p (ys.map V.str) ∨ SqT K H p (ys.map V.str)) ∧ (ys.map (·.length)).sum + ys.length * a.length ≤ 16777216 ∧ Q (.str (Txt.join a ys)) H
theorem mt_joinZ {X : Cx} : MtR X "str.join" (rJoinZ X.K) := mt_join
theorem isSt_ty {X : Cx} {α : Al} {S : Sto} {H : Hp} {d : D} {x : V} (h : isSt S d = true) (r : RepD X.K X.w α H d x) : tyV X.K "str" x H := by
  cases d with
  | str a =>
    cases rep_str r
    exact rfl
  | _ => cases h
theorem me_join {X : Cx} {E : XK} : MeS X E isSt (tyV X.K "str") (rJoinZ X.K) mJoin := ⟨fun α S H d x rp h r => isSt_ty h r, fun α S H d ds x vs Q rp r rl q => by
  unfold mJoin at q
  split at q
  · rename_i a l
    cases rep_str r
    obtain ⟨v, rfl, rv⟩ := repL1 rl
    split at q
    · rename_i es hs
      split at q
      · rename_i ys hy
        split at q
        · rename_i hz
          obtain ⟨p, ws, rfl, h1, h2⟩ := seqA_rep rp hs rv
          rw [strsD_map hy] at h2
          rw [h2.strs] at h1
          exact ⟨a, p, ys, rfl, rfl, h1, hz, q.now rp (repS _)⟩
        · exact q.elim
      · exact q.elim
    · exact q.elim
  · exact q.elim⟩
/-! ### the rules by name -/
section
variable {X : Cx} {E : XK} {pos apos cpos : Pos} {o e : Expr} {es : List Expr} {fo : Rho → M D} {g : Rho → M (List D)}
theorem ze_append (ho : ZE X E o fo) (ha : ZA X E [e] g) (hbase : attributeBase o "append" X.env (eval o X.env) = eval o X.env := by rfl)
    (hfew : ((backTo cpos (starEach [e] X.env)).all (fun x => !x.1) && (backToKw cpos (keywordEach [] X.env)).all (fun x => x.1.isSome)
      && decide (([e] : List Expr).length + ([] : List Keyword).length + (if ([] : List Keyword).isEmpty then 0 else 1) < 30)) = true := by rfl)
    (hline : (apos.endLine == cpos.line) = true := by rfl) (hst : starEach [e] X.env = (false, eval e X.env) :: starEach [] X.env := by rfl) (hplain : (backTo cpos (starEach [] X.env)).any (·.1) = false := by rfl) :
    ZE X E (.Call (.Attribute o "append" apos) [e] [] cpos) (eMth isLs mAppend fo g) := ze_mb me_append PySem.F.plainAttrs_list PySem.F.slot_list_append PySem.F.type_list_append mt_append ho ha hbase hfew hline hst hplain
theorem ze_join (ho : ZE X E o fo) (ha : ZA X E [e] g) (hbase : attributeBase o "join" X.env (eval o X.env) = eval o X.env := by rfl)
    (hfew : ((backTo cpos (starEach [e] X.env)).all (fun x => !x.1) && (backToKw cpos (keywordEach [] X.env)).all (fun x => x.1.isSome)
      && decide (([e] : List Expr).length + ([] : List Keyword).length + (if ([] : List Keyword).isEmpty then 0 else 1) < 30)) = true := by rfl)
    (hline : (apos.endLine == cpos.line) = true := by rfl) (hst : starEach [e] X.env = (false, eval e X.env) :: starEach [] X.env := by rfl) (hplain : (backTo cpos (starEach [] X.env)).any (·.1) = false := by rfl) :
    ZE X E (.Call (.Attribute o "join" apos) [e] [] cpos) (eMth isSt mJoin fo g) := ze_mb me_join PySem.F.plainAttrs_str PySem.F.slot_str_join PySem.F.type_str_join mt_joinZ ho ha hbase hfew hline hst hplain
theorem ze_get1 (hu : X.A.units + 64 < cLine) (ho : ZE X E o fo) (ha : ZA X E [e] g) (hbase : attributeBase o "get" X.env (eval o X.env) = eval o X.env := by rfl)
    (hfew : ((backTo cpos (starEach [e] X.env)).all (fun x => !x.1) && (backToKw cpos (keywordEach [] X.env)).all (fun x => x.1.isSome)
      && decide (([e] : List Expr).length + ([] : List Keyword).length + (if ([] : List Keyword).isEmpty then 0 else 1) < 30)) = true := by rfl)
    (hline : (apos.endLine == cpos.line) = true := by rfl) (hst : starEach [e] X.env = (false, eval e X.env) :: starEach [] X.env := by rfl) (hplain : (backTo cpos (starEach [] X.env)).any (·.1) = false := by rfl) :
    ZE X E (.Call (.Attribute o "get" apos) [e] [] cpos) (eMth isDc mGet1 fo g) := ze_mg ty_dict me_get1 PySem.F.plainAttrs_dict PySem.F.slot_dict_get PySem.F.type_dict_get (mt_get1 hu) ho ha hbase hfew hline hst hplain
variable {e2 : Expr}
theorem ze_get2 (hu : X.A.units + 64 < cLine) (ho : ZE X E o fo) (ha : ZA X E [e, e2] g) (hbase : attributeBase o "get" X.env (eval o X.env) = eval o X.env := by rfl)
    (hfew : ((backTo cpos (starEach [e, e2] X.env)).all (fun x => !x.1) && (backToKw cpos (keywordEach [] X.env)).all (fun x => x.1.isSome)
      && decide (([e, e2] : List Expr).length + ([] : List Keyword).length + (if ([] : List Keyword).isEmpty then 0 else 1) < 30)) = true := by rfl)
    (hline : (apos.endLine == cpos.line) = true := by rfl) (hst : starEach [e, e2] X.env = (false, eval e X.env) :: starEach [e2] X.env := by rfl) (hplain : (backTo cpos (starEach [e2] X.env)).any (·.1) = false := by rfl) :
    ZE X E (.Call (.Attribute o "get" apos) [e, e2] [] cpos) (eMth isDc mGet2 fo g) := ze_mg ty_dict me_get2 PySem.F.plainAttrs_dict PySem.F.slot_dict_get PySem.F.type_dict_get (mt_get2 hu) ho ha hbase hfew hline hst hplain
theorem ze_setd (hu : X.A.units + 64 < cLine) (ho : ZE X E o fo) (ha : ZA X E [e, e2] g) (hbase : attributeBase o "setdefault" X.env (eval o X.env) = eval o X.env := by rfl)
    (hfew : ((backTo cpos (starEach [e, e2] X.env)).all (fun x => !x.1) && (backToKw cpos (keywordEach [] X.env)).all (fun x => x.1.isSome)
      && decide (([e, e2] : List Expr).length + ([] : List Keyword).length + (if ([] : List Keyword).isEmpty then 0 else 1) < 30)) = true := by rfl)
    (hline : (apos.endLine == cpos.line) = true := by rfl) (hst : starEach [e, e2] X.env = (false, eval e X.env) :: starEach [e2] X.env := by rfl) (hplain : (backTo cpos (starEach [e2] X.env)).any (·.1) = false := by rfl) :
    ZE X E (.Call (.Attribute o "setdefault" apos) [e, e2] [] cpos) (eMth isDc mSetd fo g) := ze_mg ty_dict me_setd PySem.F.plainAttrs_dict PySem.F.slot_dict_setdefault PySem.F.type_dict_setdefault (mt_setd hu) ho ha hbase hfew hline hst hplain
end
end Z
set_option Elab.async false
set_option linter.all false
set_option maxRecDepth 100000
set_option maxHeartbeats 1000000
/-! Z18: constants of the module, the head, the end. -/
namespace Z
open PySem L2 PySem.Spec PyProof.Rows
/-! ### constants -/
mutual
def conV (K : PySem.W.Frag) : D → Value → Bool
  | .non, .none => true
  | .bl b, .bool c => b == c
  | .int i, .int j _ => decide (i = j)
  | .str x, .str y _ => decide (x = y)
  | .tup ds, .ref a => (match K.lookup a with
    | some ⟨.type c, _, .seq its _, _⟩ => decide (c = "tuple") && (decide (its.size ≤ sizeLine) && conVs K ds its.toList)
    | _ => false)
  | _, _ => false
def conVs (K : PySem.W.Frag) : List D → List Value → Bool
  | [], [] => true
  | d :: ds, u :: us => conV K d u && conVs K ds us
  | _, _ => false
end
mutual
theorem conV_ok {K : PySem.W.Frag} {w : World} : ∀ (d : D) (u : Value), conV K d u = true → ∃ v, RelV v u ∧ ∀ α H, RepD K w α H d v
  | .non, u, h => by
    cases u with
    | none => exact ⟨.non, rfl, fun _ _ => repN⟩
    | _ => simp [conV] at h
  | .bl b, u, h => by
    cases u with
    | bool c =>
      have e : b = c := by simpa [conV] using h
      subst e
      exact ⟨.bl b, rfl, fun _ _ => repB _⟩
    | _ => simp [conV] at h
  | .int i, u, h => by
    cases u with
    | int j t =>
      have e : i = j := by simpa [conV] using h
      subst e
      exact ⟨.int i, ⟨t, rfl⟩, fun _ _ => repI _⟩
    | _ => simp [conV] at h
  | .str i, u, h => by
    cases u with
    | str j t =>
      have e : i = j := by simpa [conV] using h
      subst e
      exact ⟨.str i, ⟨t, rfl⟩, fun _ _ => repS _⟩
    | _ => simp [conV] at h
  | .tup ds, u, h => by
    cases u with
    | ref a =>
      simp only [conV] at h
      split at h
      · rename_i c od its n sl hk
        simp only [Bool.and_eq_true, decide_eq_true_eq] at h
        obtain ⟨h1, h2, h3⟩ := h
        obtain ⟨vs, r1, r2⟩ := conVs_ok (w := w) ds _ h3
        exact ⟨.ref a, rfl, fun α H => repT (.inr ⟨_, its, n, hk, congrArg Value.type h1, rfl, h2, r1⟩) (r2 α H)⟩
      · cases h
    | _ => simp [conV] at h
  | .lst _, u, h => by cases u <;> simp [conV] at h
  | .wl _, u, h => by cases u <;> simp [conV] at h
  | .dic _ _, u, h => by cases u <;> simp [conV] at h
  | .ref _, u, h => by cases u <;> simp [conV] at h
theorem conVs_ok {K : PySem.W.Frag} {w : World} : ∀ (ds : List D) (us : List Value), conVs K ds us = true → ∃ vs, Vals vs us ∧ ∀ α H, RepL K w α H ds vs
  | [], us, h => by
    cases us with
    | nil => exact ⟨[], .nil, fun _ _ => RepL.nil⟩
    | cons u us => simp [conVs] at h
  | d :: ds, us, h => by
    cases us with
    | nil => simp [conVs] at h
    | cons u us =>
      simp only [conVs, Bool.and_eq_true] at h
      obtain ⟨v, r1, r2⟩ := conV_ok (w := w) d u h.1
      obtain ⟨vs, r3, r4⟩ := conVs_ok (w := w) ds us h.2
      exact ⟨v :: vs, .cons r1 r3, fun α H => .cons (r2 α H) (r4 α H)⟩
end
structure ConZ (mg : Str → Option Value) (K : PySem.W.Frag) (w : World) (x : Str) (d : D) : Prop where
  ex : ∃ u v, mg x = some u ∧ RelV v u ∧ ∀ α H, RepD K w α H d v
theorem ze_con {X : Cx} {E : XK} {x : Str} {d : D} {pos : Pos} (h : ConZ X.mg X.K X.w x d) (hg : Gl X x := by rfl) (hd : (x == ("__debug__" : Str)) = false := by decide) : ZE X E (.Name x pos) (eC d) := by
  obtain ⟨u, v, h1, h2, h3⟩ := h.ex
  exact ze_c (pe_glob hg h1 h2 hd) h3
def conOk (K : PySem.W.Frag) (p : Str × D) : Bool := match PySem.W.nsIn K mainGlobals p.1 with
  | some (some u) => conV K p.2 u
  | _ => false
theorem conZ_ok {K : PySem.W.Frag} {w : World} {h : Heap} {mg : Str → Option Value} {x : Str} {d : D} (X : K.In h) (G : h.Ns mainGlobals mg) (c : conOk K (x, d) = true) : ConZ mg K w x d := by
  unfold conOk at c
  split at c
  · rename_i u hu
    obtain ⟨v, r1, r2⟩ := conV_ok (w := w) d u c
    exact ⟨u, v, PySem.W.mg_of X G hu, r1, r2⟩
  · cases c
/-! ### the head -/
abbrev AlZ : Type := He.AlD × Bool
def obsZ (fa : List He.Fa) (fn : List He.DefD) (cs : List (Str × D)) (K : PySem.W.Frag) : AlZ := (He.obsD fa fn K, cs.all (conOk K))
def SaysZ (fa : List He.Fa) (fn : List He.DefD) (cs : List (Str × D)) (K : PySem.W.Frag) : Prop := He.SaysD fa fn K ∧ cs.all (conOk K) = true
def obsZG (n : Nat) (fa : List He.Fa) (fn : List He.DefD) (cs : List (Str × D)) (g : Addr → Option Obj) : AlZ := obsZ fa fn cs (He.frG g (He.asD g n))
def hookZ (n : Nat) (fa : List He.Fa) (fn : List He.DefD) (cs : List (Str × D)) : PySem.W.Hook where
  α := AlZ
  obs := fun s => obsZG n fa fn cs s.heap.get?
  val := fun _ => (He.valD fn, true)
  says := fun _ h => ∃ K : PySem.W.Frag, K.In h ∧ SaysZ fa fn cs K
  of := fun _ _ e => ⟨_, He.frG_in, congrArg (fun z : AlZ => z.1) e, congrArg (fun z : AlZ => z.2) e⟩
  keeps := fun _ _ _ ⟨K, hK, c⟩ k => ⟨K, PySem.W.Frag.In.keeps hK k, c⟩
theorem obsZG_eq {n : Nat} {fa : List He.Fa} {fn : List He.DefD} {cs : List (Str × D)} {g : Addr → Option Obj} {s : Shared} (h : ∀ a, g a = s.heap.get? a) : obsZG n fa fn cs g = (hookZ n fa fn cs).obs s := by
  have e : g = s.heap.get? := funext h
  rw [e] <;> rfl
theorem SaysZ.con {fa : List He.Fa} {fn : List He.DefD} {cs : List (Str × D)} {K : PySem.W.Frag} (c : SaysZ fa fn cs K) (i : Nat) {p : Str × D} (h : cs[i]? = some p := by rfl) : conOk K p = true :=
  List.all_eq_true.mp c.2 p (List.mem_of_getElem? h)
/-! ### the end: a law of a script of numbers -/
theorem sp_end {K : PySem.W.Frag} {w : World} {F : List D → M D} {H : Hp} {a : Addr} {ns : List Int} (h : ∃ S', F [.wl (ns.map D.int)] [] = .val (.bl true) S') (hs : SqL K H a (ns.map V.int)) : spZ K w 1 F [.ref a] H (fun v _ => v = .bl true) fun _ _ _ => False := by
  obtain ⟨S', h⟩ := h
  refine ⟨⟨[], []⟩, [], [.wl (ns.map D.int)], ⟨List.nodup_nil, rfl, fun b hb => (nomatch hb), fun b hb => (nomatch hb), fun n c a h => by simp at h⟩, RepL.one ?_, rfl, ?_⟩
  · unfold RepD
    refine ⟨a, _, rfl, ?_, RepL.ofInts⟩
    rcases hs with hs | hs
    · refine .inl ⟨fun z => ?_, hs⟩
      rcases z with z | z <;> exact (nomatch z)
    · exact .inr hs
  · rw [h]
    exact fun α' H' v st rp r => rep_bl r
/-! ### n op= m, ints -/
def opAddI : D → D → M D := fun x y S => match x, y with
  | .int i, .int j => .val (.int (i + j)) S
  | _, _ => .stuck
def mulS (i j : Int) : Bool := (decide (-(2 ^ 64) < i) && decide (i < 2 ^ 64)) || (decide (-(2 ^ 64) < j) && decide (j < 2 ^ 64))
def opMulI : D → D → M D := fun x y S => match x, y with
  | .int i, .int j => if mulS i j = true then .val (.int (i * j)) S else .stuck
  | _, _ => .stuck
theorem ip_addI {X : Cx} : PIp X .Add (rI0 fun i j => .int (i + j)) := iop_add
theorem ip_mulI {X : Cx} : PIp X .Mult (rI CMul fun i j => .int (i * j)) := iop_mul
theorem os_addI {X : Cx} {E : XK} : OpS X E (rI0 fun i j => .int (i + j)) opAddI := fun α S H d e v u Q rp r1 r2 q => by
  unfold opAddI at q
  split at q
  · cases rep_int r1; cases rep_int r2
    exact ⟨_, _, rfl, rfl, q.now rp (repI _)⟩
  · exact q.elim
theorem os_mulI {X : Cx} {E : XK} : OpS X E (rI CMul fun i j => .int (i * j)) opMulI := fun α S H d e v u Q rp r1 r2 q => by
  unfold opMulI at q
  split at q
  · split at q
    · rename_i i j hm
      cases rep_int r1; cases rep_int r2
      refine ⟨_, _, rfl, rfl, ?_, q.now rp (repI _)⟩
      unfold mulS at hm
      simpa [CMul] using hm
    · exact q.elim
  · exact q.elim
end Z
set_option Elab.async false
set_option linter.all false
set_option maxRecDepth 100000
set_option maxHeartbeats 2000000
/-! ZS: zip(.., strict=True) of two lists. -/
namespace PySem
open Sem (wp)
namespace ZS
abbrev IsZipS (h : Heap) (z TI TO : Addr) (f0 : Value) : Prop :=
  h.get? z = some { cls := .type "zip", dict := none, data := .fields #[f0, .bool false, .bool true, .ref TI, .ref TO], slots := #[] }
section
variable {prog : Program} {w : World} {A : Around} {E : Value → Shared → Prop} {s : Shared}
theorem orEnd_item {it l : Addr} {i : Nat} {items : Array Value} {x : Value} {Q : Option Value → Shared → Prop} (hit : s.heap.IsListIter it l i) (hl : s.heap.IsList l items) (hx : items[i]? = some x)
    (hQ : ∀ h', h'.IsListIter it l (i + 1) → Heap.SameBut it s.heap h' → Q (some x) { s with heap := h' }) : wpAny (model prog w) A (Builtin.SmallTypes.nextOrEnd (.ref it)) Q E s := by
  unfold Builtin.SmallTypes.nextOrEnd
  exact wpAny_bind (wpAny_attempt (wpAny_nextOf_list_item hit hl hx fun h' a b => wpAny_pure (hQ h' a b)))
theorem orEnd_end {it l : Addr} {i : Nat} {items : Array Value} {Q : Option Value → Shared → Prop} (hh : A.handled = none) (hit : s.heap.IsListIter it l i) (hl : s.heap.IsList l items) (hx : items[i]? = none)
    (hQ : ∀ h', Heap.ExtBut it s.heap h' → Q none { s with heap := h' }) : wpAny (model prog w) A (Builtin.SmallTypes.nextOrEnd (.ref it)) Q E s := by
  unfold Builtin.SmallTypes.nextOrEnd
  refine wpAny_bind (wpAny_attempt (wpAny_nextOf_list_end hh hit hl hx fun h' e a he => ?_))
  obtain ⟨o, ho, hc⟩ := he
  refine wpAny_bind (wpAny_isInstance (T := "StopIteration") (b := true) ⟨o, ho, hc⟩ isSubtype_stop ?_)
  exact wpAny_pure (hQ h' a)
theorem nextS_item {z TI TO i1 i2 l1 l2 : Addr} {k1 k2 : Nat} {xs ys : Array Value} {x y a b : Value} {Q : Value → Shared → Prop} (D : ZipApart z TI TO i1 i2 l1 l2)
    (hz : IsZipS s.heap z TI TO .none) (hTI : IsPair s.heap TI (.ref i1) (.ref i2)) (hTO : IsPair s.heap TO a b)
    (h1 : s.heap.IsListIter i1 l1 k1) (h2 : s.heap.IsListIter i2 l2 k2) (hl1 : s.heap.IsList l1 xs) (hl2 : s.heap.IsList l2 ys) (hx : xs[k1]? = some x) (hy : ys[k2]? = some y)
    (hQ : ∀ h', IsZipS h' z TI TO (rawInt s.heap.objs.size) → IsPair h' TO x y → h'.IsListIter i1 l1 (k1 + 1) → h'.IsListIter i2 l2 (k2 + 1) → IsPair h' s.heap.objs.size x y → h'.objs.size = s.heap.objs.size + 1 →
      (∀ c o, c ≠ z → c ≠ TO → c ≠ i1 → c ≠ i2 → s.heap.get? c = some o → h'.get? c = some o) → Q (.ref s.heap.objs.size) { s with heap := h' }) :
    wpAny (model prog w) A (Builtin.«zip.__next__» ⟨[.ref z], []⟩) (fun fin s' => ∃ v, fin = .done (.ret v) ∧ Q v s') E s := by
  show wpAny _ _ (field (.ref z) 2 >>= _) _ _ _
  refine wpAny_bind (wpAny_field hz rfl (x := .bool true) rfl ?_)
  show wpAny _ _ (field (.ref z) 3 >>= _) _ _ _
  refine wpAny_bind (wpAny_field hz rfl (x := .ref TI) rfl ?_)
  refine wpAny_bind (wpAny_seqItems hTI rfl ?_)
  show wpAny _ _ (Builtin.SmallTypes.ownedTupleIsFree (.ref z) >>= _) _ _ _
  refine wpAny_bind ?_
  unfold Builtin.SmallTypes.ownedTupleIsFree
  refine wpAny_bind (wpAny_field hz rfl (x := .none) rfl (wpAny_pure ?_))
  simp only [if_true]
  refine wpAny_bind (wpAny_rule ?_)
  refine wpAny_bind (wpAny_field hz rfl (x := .ref TO) rfl ?_)
  refine wpAny_bind (wpAny_setField_rec hz (by simp) fun h₁ hz₁ hs₁ => ?_)
  replace hz₁ : IsZipS h₁ z TI TO .ellipsis := hz₁
  refine wpAny_bind ?_
  simp only [List.zipIdx_cons, List.zipIdx_nil, List.forIn_cons, List.forIn_nil]
  refine wpAny_bind (wpAny_bind (wpAny_onRaise ?_))
  show wpAny _ _ (Builtin.SmallTypes.nextOrEnd (.ref i1)) _ _ _
  refine orEnd_item (h1.extBut hs₁.extBut D.i1z) (hl1.extBut hs₁.extBut D.l1z) hx fun h₂ h1₂ hs₂ => ?_
  have hTO₂ : IsPair h₂ TO a b := hs₂.extBut _ _ D.TOi1 (hs₁.extBut _ _ D.TOz hTO)
  refine wpAny_bind (wpAny_seqItems hTO₂ rfl ?_)
  refine wpAny_bind (wpAny_updateSeq_pair hTO₂ fun h₃ hTO₃ hs₃ => ?_)
  replace hTO₃ : IsPair h₃ TO x b := hTO₃
  refine wpAny_bind (wpAny_letGo (wpAny_pure ?_))
  refine wpAny_bind (wpAny_bind (wpAny_onRaise ?_))
  show wpAny _ _ (Builtin.SmallTypes.nextOrEnd (.ref i2)) _ _ _
  refine orEnd_item (((h2.extBut hs₁.extBut D.i2z).extBut hs₂.extBut D.i12.symm).extBut hs₃.extBut D.TOi2.symm)
    (((hl2.extBut hs₁.extBut D.l2z).extBut hs₂.extBut D.l2i1).extBut hs₃.extBut D.l2TO) hy fun h₄ h2₄ hs₄ => ?_
  have hTO₄ : IsPair h₄ TO x b := hs₄.extBut _ _ D.TOi2 hTO₃
  refine wpAny_bind (wpAny_seqItems hTO₄ rfl ?_)
  refine wpAny_bind (wpAny_updateSeq_pair hTO₄ fun h₅ hTO₅ hs₅ => ?_)
  replace hTO₅ : IsPair h₅ TO x y := hTO₅
  refine wpAny_bind (wpAny_letGo (wpAny_pure (wpAny_pure ?_)))
  refine wpAny_bind (wpAny_seqItems hTO₅ rfl ?_)
  refine wpAny_bind (wpAny_newTuple ?_)
  have hsz : h₅.objs.size = s.heap.objs.size := by rw [hs₅.1, hs₄.1, hs₃.1, hs₂.1, hs₁.1]
  have hz₅ : IsZipS h₅ z TI TO .ellipsis := hs₅.extBut _ _ D.TOz.symm (hs₄.extBut _ _ D.i2z.symm (hs₃.extBut _ _ D.TOz.symm (hs₂.extBut _ _ D.i1z.symm hz₁)))
  have hk₅ : ∀ c o, c ≠ z → c ≠ TO → c ≠ i1 → c ≠ i2 → s.heap.get? c = some o → h₅.get? c = some o := fun c o c1 c2 c3 c4 e =>
    hs₅.extBut _ _ c2 (hs₄.extBut _ _ c4 (hs₃.extBut _ _ c2 (hs₂.extBut _ _ c3 (hs₁.extBut _ _ c1 e))))
  have h1₅ : h₅.IsListIter i1 l1 (k1 + 1) := ((h1₂.extBut hs₃.extBut D.TOi1.symm).extBut hs₄.extBut D.i12).extBut hs₅.extBut D.TOi1.symm
  have h2₅ : h₅.IsListIter i2 l2 (k2 + 1) := h2₄.extBut hs₅.extBut D.TOi2.symm
  have hzlt : z < h₅.objs.size := Heap.lt_size hz₅
  show wpAny _ _ (Builtin.SmallTypes.ownedTupleHandOut (.ref z) (.ref h₅.objs.size) >>= _) _ _ _
  refine wpAny_bind ?_
  unfold Builtin.SmallTypes.ownedTupleHandOut
  have hz₆ : IsZipS (h₅.push { cls := .type "tuple", data := .seq #[x, y] }) z TI TO .ellipsis := Heap.get?_push_of_some _ hz₅
  refine wpAny_bind (wpAny_setField_rec hz₆ (by simp) fun h₇ hz₇ hs₇ => ?_)
  replace hz₇ : IsZipS h₇ z TI TO (rawInt h₅.objs.size) := hz₇
  refine wpAny_setField_rec hz₇ (by simp) fun h₈ hz₈ hs₈ => ?_
  replace hz₈ : IsZipS h₈ z TI TO (rawInt h₅.objs.size) := hz₈
  have up : ∀ c o, c ≠ z → h₅.get? c = some o → h₈.get? c = some o := fun c o c1 e => hs₈.extBut _ _ c1 (hs₇.extBut _ _ c1 (Heap.get?_push_of_some _ e))
  have hT₈ : IsPair h₈ h₅.objs.size x y := hs₈.extBut _ _ (Nat.ne_of_gt hzlt) (hs₇.extBut _ _ (Nat.ne_of_gt hzlt) (Heap.get?_push_size _ rfl))
  have hz8 : h₈.objs.size = h₅.objs.size + 1 := by rw [hs₈.1, hs₇.1, Heap.size_push]
  rw [hsz] at hz₈ hT₈ hz8
  refine wpAny_pure ⟨_, rfl, ?_⟩
  show Q (.ref h₅.objs.size) _
  rw [hsz]
  exact hQ h₈ hz₈ (up _ _ D.TOz hTO₅) (h1₅.at fun o e => up _ o D.i1z e) (h2₅.at fun o e => up _ o D.i2z e) hT₈ hz8 fun c o c1 c2 c3 c4 e => up c o c1 (hk₅ c o c1 c2 c3 c4 e)
theorem nextS_end {z TI TO i1 i2 l1 l2 : Addr} {k1 k2 : Nat} {xs ys : Array Value} {a b : Value} {Q : Fin → Shared → Prop} (hh : A.handled = none) (D : ZipApart z TI TO i1 i2 l1 l2)
    (hz : IsZipS s.heap z TI TO .none) (hTI : IsPair s.heap TI (.ref i1) (.ref i2)) (hTO : IsPair s.heap TO a b)
    (h1 : s.heap.IsListIter i1 l1 k1) (h2 : s.heap.IsListIter i2 l2 k2) (hl1 : s.heap.IsList l1 xs) (hl2 : s.heap.IsList l2 ys) (hx : xs[k1]? = none) (hy : ys[k2]? = none)
    (hE : ∀ h' e, (∀ c o, c ≠ z → c ≠ TO → c ≠ i1 → c ≠ i2 → s.heap.get? c = some o → h'.get? c = some o) → (∃ o, h'.get? e = some o ∧ o.cls = .type "StopIteration") → E (.ref e) { s with heap := h' }) :
    wpAny (model prog w) A (Builtin.«zip.__next__» ⟨[.ref z], []⟩) Q E s := by
  show wpAny _ _ (field (.ref z) 2 >>= _) _ _ _
  refine wpAny_bind (wpAny_field hz rfl (x := .bool true) rfl ?_)
  show wpAny _ _ (field (.ref z) 3 >>= _) _ _ _
  refine wpAny_bind (wpAny_field hz rfl (x := .ref TI) rfl ?_)
  refine wpAny_bind (wpAny_seqItems hTI rfl ?_)
  show wpAny _ _ (Builtin.SmallTypes.ownedTupleIsFree (.ref z) >>= _) _ _ _
  refine wpAny_bind ?_
  unfold Builtin.SmallTypes.ownedTupleIsFree
  refine wpAny_bind (wpAny_field hz rfl (x := .none) rfl (wpAny_pure ?_))
  simp only [if_true]
  refine wpAny_bind (wpAny_rule ?_)
  refine wpAny_bind (wpAny_field hz rfl (x := .ref TO) rfl ?_)
  refine wpAny_bind (wpAny_setField_rec hz (by simp) fun h₁ hz₁ hs₁ => ?_)
  replace hz₁ : IsZipS h₁ z TI TO .ellipsis := hz₁
  refine wpAny_bind ?_
  simp only [List.zipIdx_cons, List.zipIdx_nil, List.forIn_cons, List.forIn_nil]
  refine wpAny_bind (wpAny_bind (wpAny_onRaise ?_))
  show wpAny _ _ (Builtin.SmallTypes.nextOrEnd (.ref i1)) _ _ _
  refine orEnd_end hh (h1.extBut hs₁.extBut D.i1z) (hl1.extBut hs₁.extBut D.l1z) hx fun h₂ hs₂ => ?_
  have hz₂ : IsZipS h₂ z TI TO .ellipsis := hs₂ _ _ D.i1z.symm hz₁
  refine wpAny_bind (wpAny_setField_rec hz₂ (by simp) fun h₃ hz₃ hs₃ => ?_)
  have h2₃ : h₃.IsListIter i2 l2 k2 := ((h2.extBut hs₁.extBut D.i2z).at fun o e => hs₂ _ o D.i12.symm e).extBut hs₃.extBut D.i2z
  have hl2₃ : h₃.IsList l2 ys := ((hl2.extBut hs₁.extBut D.l2z).at fun o e => hs₂ _ o D.l2i1 e).extBut hs₃.extBut D.l2z
  refine wpAny_bind ?_
  refine wpAny_bind ?_
  simp only [List.drop_succ_cons, List.drop_zero, List.zipIdx_cons, List.zipIdx_nil, List.forIn_cons, List.forIn_nil]
  refine wpAny_bind (wpAny_bind ?_)
  refine orEnd_end hh h2₃ hl2₃ hy fun h₄ hs₄ => ?_
  simp only [Option.isSome_none, Bool.false_eq_true, if_false]
  refine wpAny_pure (wpAny_pure ?_)
  refine wpAny_bind (wpAny_rule ?_)
  unfold Builtin.SmallTypes.stopIteration
  refine wpAny_bind ?_
  simp only [newExc, newTuple]
  refine wpAny_bind (wpAny_newObj_type ?_ (by size_fits))
  refine wpAny_bind (m := firstArgMember _ _) (wpAny_of_eq (a := Value.none) (by first | rfl | (simp only [firstArgMember]; rfl)) ?_)
  refine wpAny_newObj_type ?_ (by size_fits)
  simp only [raiseNew]
  refine wpAny_bind (wpAny_handled ?_)
  first | rw [show A.in1.handled = none from hh] | rw [hh]
  refine wpAny_bind (wpAny_pure (wpAny_throw ?_))
  refine hE _ _ (fun c o c1 c2 c3 c4 e => ?_) ⟨_, Heap.get?_push_size _ rfl, rfl⟩
  exact Heap.get?_push_of_some _ (Heap.get?_push_of_some _ (hs₄ _ _ c4 (hs₃.extBut _ _ c1 (hs₂ _ _ c3 (hs₁.extBut _ _ c1 e)))))
theorem pyNextS_item {z TI TO i1 i2 l1 l2 : Addr} {k1 k2 : Nat} {xs ys : Array Value} {x y a b : Value} {Q : Option Value → Shared → Prop} (D : ZipApart z TI TO i1 i2 l1 l2)
    (hz : IsZipS s.heap z TI TO .none) (hTI : IsPair s.heap TI (.ref i1) (.ref i2)) (hTO : IsPair s.heap TO a b)
    (h1 : s.heap.IsListIter i1 l1 k1) (h2 : s.heap.IsListIter i2 l2 k2) (hl1 : s.heap.IsList l1 xs) (hl2 : s.heap.IsList l2 ys) (hx : xs[k1]? = some x) (hy : ys[k2]? = some y)
    (hQ : ∀ h', IsZipS h' z TI TO (rawInt s.heap.objs.size) → IsPair h' TO x y → h'.IsListIter i1 l1 (k1 + 1) → h'.IsListIter i2 l2 (k2 + 1) → IsPair h' s.heap.objs.size x y → h'.objs.size = s.heap.objs.size + 1 →
      (∀ c o, c ≠ z → c ≠ TO → c ≠ i1 → c ≠ i2 → s.heap.get? c = some o → h'.get? c = some o) → Q (some (.ref s.heap.objs.size)) { s with heap := h' }) :
    wpAny (model prog w) A (pyNext (.ref z)) Q E s := by
  have hT : s.TypeIs (.ref z) "zip" := ⟨_, hz, rfl⟩
  unfold pyNext
  exact wpAny_bind (wpAny_attempt (wpAny_callSpecial?_slot (name := Str.ofString "__next__") hT F.slot_zip_next
    (wpAny_call_entry F.slot_zip_next hT F.entry_zip_next
      (nextS_item D hz hTI hTO h1 h2 hl1 hl2 hx hy fun h' a1 a2 a3 a4 a5 a6 a7 => wpAny_pure (hQ h' a1 a2 a3 a4 a5 a6 a7)) (F.args_zip_next_1 _))))
theorem pyNextS_end {z TI TO i1 i2 l1 l2 : Addr} {k1 k2 : Nat} {xs ys : Array Value} {a b : Value} {Q : Option Value → Shared → Prop} (hh : A.handled = none) (D : ZipApart z TI TO i1 i2 l1 l2)
    (hz : IsZipS s.heap z TI TO .none) (hTI : IsPair s.heap TI (.ref i1) (.ref i2)) (hTO : IsPair s.heap TO a b)
    (h1 : s.heap.IsListIter i1 l1 k1) (h2 : s.heap.IsListIter i2 l2 k2) (hl1 : s.heap.IsList l1 xs) (hl2 : s.heap.IsList l2 ys) (hx : xs[k1]? = none) (hy : ys[k2]? = none)
    (hQ : ∀ h', (∀ c o, c ≠ z → c ≠ TO → c ≠ i1 → c ≠ i2 → s.heap.get? c = some o → h'.get? c = some o) → Q none { s with heap := h' }) : wpAny (model prog w) A (pyNext (.ref z)) Q E s := by
  have hT : s.TypeIs (.ref z) "zip" := ⟨_, hz, rfl⟩
  unfold pyNext
  refine wpAny_bind (wpAny_attempt (wpAny_callSpecial?_slot (name := Str.ofString "__next__") hT F.slot_zip_next
    (wpAny_call_entry F.slot_zip_next hT F.entry_zip_next (nextS_end hh D hz hTI hTO h1 h2 hl1 hl2 hx hy fun h' e hk he => ?_) (F.args_zip_next_1 _))))
  obtain ⟨o, ho, hc⟩ := he
  refine wpAny_bind (wpAny_isInstance (T := "StopIteration") (b := true) ⟨o, ho, hc⟩ isSubtype_stop ?_)
  exact wpAny_pure (hQ _ hk)
theorem letGoS {elts : List Expr} {x1} {pos : Pos} {z TI TO T : Addr} {Q : Unit → Shared → Prop} (hz : IsZipS s.heap z TI TO (rawInt T))
    (hQ : ∀ h', IsZipS h' z TI TO .none → Heap.SameBut z s.heap h' → Q () { s with heap := h' }) :
    wpAny (model prog w) A (letOwnedTupleGo (.Tuple elts x1 pos) (.ref z) (.ref T)) Q E s := by
  unfold letOwnedTupleGo
  refine wpAny_bind (wpAny_load hz ?_)
  show wpAny _ _ (if (["enumerate", "zip", "dict_itemiterator", "dict_reverseitemiterator", "odict_iterator", "itertools.zip_longest", "itertools.pairwise"].contains "zip" &&
      (#[rawInt T, .bool false, .bool true, .ref TI, .ref TO] : Array Value)[0]? == some (rawInt T)) = true then _ else _) Q E s
  rw [if_pos (by simp)]
  refine wpAny_bind (wpAny_rule ?_)
  show wpAny _ _ (setField (.ref z) 0 .none) Q E s
  exact wpAny_setField_rec hz (by simp) fun h' hz' hs' => hQ h' hz' hs'
theorem iterS {z TI TO : Addr} {f0 : Value} {Q : Value → Shared → Prop} (hz : IsZipS s.heap z TI TO f0) (h : Q (.ref z) s) : wpAny (model prog w) A (pyIter (.ref z)) Q E s := by
  have hT : s.TypeIs (.ref z) "zip" := ⟨_, hz, rfl⟩
  refine wpAny_pyIter_slot hT F.slot_zip_iter (wpAny_call_entry F.slot_zip_iter hT F.entry_zip_iter ?_ (F.args_zip_iter_1 _))
  show wpAny _ _ (ret (.ref z)) _ _ s
  exact wpAny_pure ⟨_, rfl, "zip", _, hT, F.slot_zip_next.lookup, h⟩
/-! zip(a, b, strict=True) made -/
abbrev zipK5 (h : Heap) (l1 l2 : Addr) : Heap := (zipH4 h l1 l2).push { cls := .type "zip", data := .fields #[.none, .bool false, .bool true, .ref (zipH2 h l1 l2).objs.size, .ref (zipH3 h l1 l2).objs.size] }
abbrev kwS : List (Str × Value) := [("strict", .bool true)]
theorem meets_newS (l1 l2 : Addr) (xs ys : Array Value) :
    Meets (Builtin.«zip.__new__» ⟨[.type "zip", .ref l1, .ref l2], kwS⟩) (fun _ R s => s.heap.IsList l1 xs ∧ s.heap.IsList l2 ys ∧
      R (.ok (.ret (.ref (zipH4 s.heap l1 l2).objs.size))) { s with heap := zipK5 s.heap l1 l2 }) :=
  .of_wp fun prog w A R s h => by
    obtain ⟨hp, g, d, tk, os⟩ := s; obtain ⟨hl1, hl2, h⟩ := h
    have hsub := sub_zip
    have hL1 : Heap.IsList (Shared.heap ⟨hp, g, d, tk, os⟩) l1 xs := hl1
    have hL2 : Heap.IsList (Shared.heap ⟨hp.push { cls := .type "list_iterator", data := .fields #[.ref l1, .int 0 0] }, g, d, tk, os⟩) l2 ys := Heap.IsList.push hl2 _
    wp_walk using wpAny_pyIter_list hL1, wpAny_pyIter_list hL2
    exact ⟨_, rfl, h⟩
end
end ZS
end PySem
set_option Elab.async false
set_option linter.all false
set_option maxRecDepth 100000
set_option maxHeartbeats 2000000
/-! ZS2: zip(.., strict=True), called. -/
namespace PySem
open Sem (wp)
namespace ZS
section
variable {prog : Program} {w : World} {A : Around} {E : Value → Shared → Prop} {s : Shared}
theorem weightK (T : String) (args : List Value) (kw : List (Str × Value)) : (Code.builtin "type.__call__" ⟨.type T :: args, kw⟩).weight = 0 := rfl
theorem unitsK (T : String) (args : List Value) (kw : List (Str × Value)) : (Code.builtin "type.__call__" ⟨.type T :: args, kw⟩).cUnits = 1 := rfl
theorem callTypeK {T newId initId : String} {Bn Bi : Builtin} {args : List Value} {kw : List (Str × Value)} {Sp : Spec} {Q Q₁ : Value → Shared → Prop} (ft : TypeCalled T newId initId)
    (hct : checkTypeCall T ⟨args, kw⟩ = pure ()) (hcn : checkBuiltinCall newId ⟨.type T :: args, kw⟩ = pure ())
    (entryN : entryFor table newId = some Bn) (entryI : entryFor table initId = some Bi) (g : Meets (Bn ⟨.type T :: args, kw⟩) Sp)
    (h : Sp A.in1 (wants Q₁ E) s)
    (hnext : ∀ obj s₁, Q₁ obj s₁ → s₁.TypeIs obj T ∧ argsOk initId ⟨obj :: args, kw⟩ ∧ ∃ Si, Meets (Bi ⟨obj :: args, kw⟩) Si ∧ Si A.in1 (wants (fun r s₂ => r = .none ∧ Q obj s₂) E) s₁) :
    wpAny (model prog w) A (call (.type T) args kw) Q E s := by
  obtain ⟨c, tl, hmro⟩ := ft.mro
  have hmade := ft.made
  have hsub := ft.sub
  refine wpAny_call (codeAny_of_tree ?_)
  show wpAny _ _ (callAny (.type T) _) _ _ _
  refine wpAny_pure ⟨Code.quiet_builtin _ (by decide +kernel), codeAny_builtin F.entry_type_call ?_⟩
  rw [Around.under_plain (weightK T args kw) (unitsK T args kw)]
  have h1 := ft.notType
  have h2 := ft.canCreate
  repeat (any_goals (first | assumption | wp_step))
  refine codeAny_mono (codeAny_call_builtin ft.plain entryN (wpAny_of_eq hcn (g prog w A.in1 _ s h))) fun r s₁ hr => ?_
  cases r with
  | error e => exact hr
  | ok fl =>
    cases fl with
    | ret obj =>
      obtain ⟨hT, hok, Si, gi, hsi⟩ := hnext _ _ hr
      have hli := ft.init.lookup
      have hbi := ft.init.bind obj
      repeat (any_goals (first | assumption | wp_step))
      refine codeAny_mono (codeAny_call_builtin ft.init.plain entryI (ft.init.check _ _ _ _ _ _ _ _ hT hok (gi prog w A.in1 _ s₁ hsi))) fun r₂ s₂ hr₂ => ?_
      cases r₂ with
      | error e => exact hr₂
      | ok fl₂ =>
        cases fl₂ with
        | ret r =>
          obtain ⟨rfl, hq⟩ := hr₂
          repeat (any_goals (first | assumption | wp_step))
        | _ => exact hr₂.elim
    | _ => exact hr.elim
theorem initK {T newId : String} {self : Value} {rest : List Value} {kw : List (Str × Value)} (hl : typeLookup (.type T) "__init__" = pure (some (.builtin "object.__init__")))
    (hm : Bind.madeBy (.type T) = pure (some newId)) (hne : (some newId != some "object.__new__") = true) :
    Meets (Builtin.«object.__init__» ⟨self :: rest, kw⟩) (fun _ R s => s.TypeIs self T ∧ R (.ok (.ret .none)) s) := by
  refine Meets.of_wp fun prog w A R s hs => ?_
  obtain ⟨hT, hq⟩ := hs
  cases rest with
  | nil =>
    cases kw with
    | nil => exact wpAny_pure ⟨_, rfl, hq⟩
    | cons k kw =>
      repeat (any_goals (first | assumption | wp_step))
      exact ⟨_, rfl, hq⟩
  | cons a rest =>
    repeat (any_goals (first | assumption | wp_step))
    exact ⟨_, rfl, hq⟩
theorem typeCallS (a b : Value) : checkTypeCall "zip" ⟨[a, b], kwS⟩ = pure () := by kernel_rfl
theorem newCallS (a b : Value) : checkBuiltinCall "zip.__new__" ⟨[.type "zip", a, b], kwS⟩ = pure () := by kernel_rfl
theorem initArgsS (a b c : Value) : argsOk "object.__init__" ⟨[a, b, c], kwS⟩ := by
  unfold argsOk; rw [signature?_of (id := "object.__init__") (n := ['_', '_', 't', 'i', 'n', 'i', '_', '_']) (o := ['t', 'c', 'e', 'j', 'b', 'o']) (by kernel_rfl) F.owner_object]; kernel_rfl
theorem callS {l1 l2 : Addr} {xs ys : Array Value} {Q : Value → Shared → Prop} (hl1 : s.heap.IsList l1 xs) (hl2 : s.heap.IsList l2 ys)
    (h : ∀ h', IsZipS h' (s.heap.objs.size + 4) (s.heap.objs.size + 2) (s.heap.objs.size + 3) .none → IsPair h' (s.heap.objs.size + 2) (.ref s.heap.objs.size) (.ref (s.heap.objs.size + 1)) →
      IsPair h' (s.heap.objs.size + 3) .none .none → h'.IsListIter s.heap.objs.size l1 0 → h'.IsListIter (s.heap.objs.size + 1) l2 0 → h'.objs.size = s.heap.objs.size + 5 →
      (∀ c o, s.heap.get? c = some o → h'.get? c = some o) → Q (.ref (s.heap.objs.size + 4)) { s with heap := h' }) :
    wpAny (model prog w) A (call (.type "zip") [.ref l1, .ref l2] kwS) Q E s := by
  refine callTypeK F.called_zip (typeCallS _ _) (newCallS _ _) F.entry_zip_new F.entry_object_init (meets_newS l1 l2 xs ys) (Q₁ := fun obj s₁ => s₁.TypeIs obj "zip" ∧ Q obj s₁) ⟨hl1, hl2, ?_⟩ fun obj _ hq =>
    ⟨hq.1, initArgsS obj _ _, _, initK F.called_zip.init.lookup F.called_zip.made (by decide), hq.1, rfl, hq.2⟩
  have z1 : (zipH1 s.heap l1).objs.size = s.heap.objs.size + 1 := Heap.size_push ..
  have z2 : (zipH2 s.heap l1 l2).objs.size = s.heap.objs.size + 2 := by rw [Heap.size_push, z1]
  have z3 : (zipH3 s.heap l1 l2).objs.size = s.heap.objs.size + 3 := by rw [Heap.size_push, z2]
  have z4 : (zipH4 s.heap l1 l2).objs.size = s.heap.objs.size + 4 := by rw [Heap.size_push, z3]
  have z5 : (zipK5 s.heap l1 l2).objs.size = s.heap.objs.size + 5 := by rw [Heap.size_push, z4]
  have g5 : (zipK5 s.heap l1 l2).get? (zipH4 s.heap l1 l2).objs.size = some _ := Heap.get?_push_size _ rfl
  have g4 : (zipK5 s.heap l1 l2).get? (zipH3 s.heap l1 l2).objs.size = some _ := Heap.get?_push_of_some _ (Heap.get?_push_size _ rfl)
  have g3 : (zipK5 s.heap l1 l2).get? (zipH2 s.heap l1 l2).objs.size = some _ := Heap.get?_push_of_some _ (Heap.get?_push_of_some _ (Heap.get?_push_size _ rfl))
  have g2 : (zipK5 s.heap l1 l2).get? (zipH1 s.heap l1).objs.size = some _ := Heap.get?_push_of_some _ (Heap.get?_push_of_some _ (Heap.get?_push_of_some _ (Heap.get?_push_size _ rfl)))
  have g1 : (zipK5 s.heap l1 l2).get? s.heap.objs.size = some _ := Heap.get?_push_of_some _ (Heap.get?_push_of_some _ (Heap.get?_push_of_some _ (Heap.get?_push_of_some _ (Heap.get?_push_size _ rfl))))
  show _ ∧ _
  rw [z2, z3, z4] at g5
  rw [z1, z2] at g3
  rw [z3] at g4
  rw [z1] at g2
  rw [z4]
  exact ⟨⟨_, g5, rfl⟩, h _ g5 g3 g4 ⟨_, g1, rfl, rfl⟩ ⟨_, g2, rfl, rfl⟩ z5 fun c o x =>
    Heap.get?_push_of_some _ (Heap.get?_push_of_some _ (Heap.get?_push_of_some _ (Heap.get?_push_of_some _ (Heap.get?_push_of_some _ x))))⟩
end
end ZS
end PySem
set_option Elab.async false
set_option linter.all false
set_option maxRecDepth 100000
set_option maxHeartbeats 2000000
/-! ZS3: a walk through zip(.., strict=True). -/
namespace Z
open PySem L2 PySem.Spec PyProof.Rows ZS
/-- the lists at a and b, as long as each other -/
def Itzs (K : PySem.W.Frag) (a b : Addr) : It :=
  ⟨(Itz K a b).go, (Itz K a b).yld, fun i H => ∃ xs ys : List V, SqL K H a xs ∧ SqL K H b ys ∧ xs.length ≤ i ∧ ys.length ≤ i⟩
theorem turnS {P : Program} {w : World} {K : PySem.W.Frag} {elts : List Expr} {kk : Nat} {tpos : Pos} {a b z TI TO i1 i2 : Addr} (D : ZipApart z TI TO i1 i2 a b) :
    Turn P w K (.Tuple elts kk tpos) (Itzs K a b) [z, TI, TO, i1, i2] z (fun i h => IsZipS h z TI TO .none ∧ IsPair h TI (.ref i1) (.ref i2) ∧ (∃ x y, IsPair h TO x y) ∧ h.IsListIter i1 a i ∧ h.IsListIter i2 b i) where
  mem := by simp
  obj := fun i h st c hc => by
    obtain ⟨hz, hTI, ⟨x, y, hTO⟩, ⟨o1, e1, _, d1⟩, ⟨o2, e2, _, d2⟩⟩ := st
    have e' : c = z ∨ c = TI ∨ c = TO ∨ c = i1 ∨ c = i2 := by simpa using hc
    rcases e' with q | q | q | q | q
    · rw [q]; exact ⟨_, hz, fun v q => nomatch q⟩
    · rw [q]; exact ⟨_, hTI, fun v q => nomatch q⟩
    · rw [q]; exact ⟨_, hTO, fun v q => nomatch q⟩
    · rw [q]; exact ⟨o1, e1, fun v q => by rw [d1] at q; cases q⟩
    · rw [q]; exact ⟨o2, e2, fun v q => by rw [d2] at q; cases q⟩
  keep := fun i h h' st k => by
    obtain ⟨hz, hTI, ⟨x, y, hTO⟩, h1, h2⟩ := st
    exact ⟨k z (by simp) _ hz, k TI (by simp) _ hTI, ⟨x, y, k TO (by simp) _ hTO⟩, h1.at fun o q => k i1 (by simp) o q, h2.at fun o q => k i2 (by simp) o q⟩
  item := by
    intro X hP hw hK hc i pins s σ H E I hf st hg
    subst hP hw hK
    obtain ⟨hz, hTI, ⟨x0, y0, hTO⟩, h1, h2⟩ := st
    obtain ⟨xs, ys, x, y, hqx, hqy, hx, hy⟩ := hg
    obtain ⟨its, rv, p, _⟩ := I.list hqx
    obtain ⟨its2, rv2, p2, _⟩ := I.list hqy
    obtain ⟨u, hu, ru⟩ := rv.get hx
    obtain ⟨u2, hu2, ru2⟩ := rv2.get hy
    have hzl : z < s.heap.objs.size := Heap.lt_size hz
    refine pyNextS_item D hz hTI hTO h1 h2 p.isList p2.isList (x := u) (y := u2) (by simpa using hu) (by simpa using hu2) fun h' z' TO' h1' h2' hT hsz hk => ?_
    refine ⟨_, rfl, letGoS (s := { s with heap := h' }) z' fun h'' z'' sb => ?_⟩
    have hT2 : h''.get? s.heap.objs.size = some { cls := .type "tuple", data := .seq #[u, u2] } := (sb.2 _ (Nat.ne_of_gt hzl)).trans hT
    have new : ObjOk X.prog X.w (upd H s.heap.objs.size (.tup [x, y])) h'' s.heap.objs.size (.tup [x, y]) :=
      ⟨by show 2 ≤ sizeLine; decide, [u, u2], .cons ru (.cons ru2 .nil), ⟨_, hT2, rfl, _, rfl⟩⟩
    have I1 : Inv X pins σ (upd H s.heap.objs.size (.tup [x, y])) { s with heap := h'' } :=
      I.turnedNew (t' := s.toks) (ch := [z, TI, TO, i1, i2]) (fun c o hb q => (sb.2 c (fun q' => hb (by simp [q']))).trans (hk c o (fun q' => hb (by simp [q'])) (fun q' => hb (by simp [q'])) (fun q' => hb (by simp [q'])) (fun q' => hb (by simp [q'])) q)) hf (Nat.le_refl _) new
    refine ⟨.ref s.heap.objs.size, _, I1, rfl, ⟨_, x, y, rfl, I.hok.fresh (Nat.le_refl _), rfl, fun l hl => by rw [I.list_inj hl hqx]; exact hx, fun l hl => by rw [I.list_inj hl hqy]; exact hy⟩, ⟨z'', ?_, ⟨u, u2, ?_⟩, ?_, ?_⟩, fun c hcm => ?_⟩
    · exact (sb.2 _ D.TIz).trans (hk _ _ D.TIz D.TITO D.TIi1 D.TIi2 hTI)
    · exact (sb.2 _ D.TOz).trans TO'
    · exact h1'.at fun o q => (sb.2 _ D.i1z).trans q
    · exact h2'.at fun o q => (sb.2 _ D.i2z).trans q
    · have hlt : c < s.heap.objs.size := by
        have e' : c = z ∨ c = TI ∨ c = TO ∨ c = i1 ∨ c = i2 := by simpa using hcm
        rcases e' with q | q | q | q | q
        · rw [q]; exact hzl
        · rw [q]; exact Heap.lt_size hTI
        · rw [q]; exact Heap.lt_size hTO
        · rw [q]; obtain ⟨_, e1, _⟩ := h1; exact Heap.lt_size e1
        · rw [q]; obtain ⟨_, e2, _⟩ := h2; exact Heap.lt_size e2
      rw [upd_ne (Nat.ne_of_lt hlt)]
      exact (hf c hcm).1
  done := by
    intro X hP hw hK hc i pins s σ H E I hf st hg
    subst hP hw hK
    obtain ⟨hz, hTI, ⟨x0, y0, hTO⟩, h1, h2⟩ := st
    obtain ⟨xs, ys, hqx, hqy, hend1, hend2⟩ := hg
    obtain ⟨its, rv, p, _⟩ := I.list hqx
    obtain ⟨its2, rv2, p2, _⟩ := I.list hqy
    have l1 := rv.length
    have l2 := rv2.length
    exact pyNextS_end (I.ok.hd hc) D hz hTI hTO h1 h2 p.isList p2.isList (by simp; omega) (by simp; omega) fun h' hk => ⟨rfl, I.turnedL (t' := s.toks) (ch := [z, TI, TO, i1, i2]) (fun c o hb q =>
      hk c o (fun q' => hb (by simp [q'])) (fun q' => hb (by simp [q'])) (fun q' => hb (by simp [q'])) (fun q' => hb (by simp [q'])) q) hf⟩
  self := fun A i s Q E st h => iterS st.1 h
def iZipSt (K : PySem.W.Frag) (ta : TA) : TI := fun σ H R => ta σ H fun vs H1 => ∃ a b xs ys, vs = [.ref a, .ref b] ∧ SqL K H1 a xs ∧ SqL K H1 b ys ∧ R (Itzs K a b) H1
section
variable {M : Model} {A : Around} {E : Value → Shared → Prop} {s : Shared} {env : Env}
theorem callWith_typeK {pos : Pos} {T : String} {e : Expr} {rest : List Expr} {kws : List Keyword} {Q : Value → Shared → Prop}
    (h : wpAny M A (spliced (backTo pos (starEach (e :: rest) env))) (fun vs s₁ => wpAny M A (evalAll ((backToKw pos (keywordEach kws env)).map (·.2)))
      (fun kvs s₂ => wpAny M A (call (.type T) vs (((backToKw pos (keywordEach kws env)).filterMap (·.1)).zip kvs)) Q E s₂) E s₁) E s)
    (he : backTo pos (starEach (e :: rest) env) = (false, eval e env) :: backTo pos (starEach rest env) := by rfl)
    (hplain : (backTo pos (starEach (e :: rest) env)).any (·.1) = false := by rfl)
    (hall : (backToKw pos (keywordEach kws env)).all (·.1.isSome) = true := by rfl)
    (hkw : (backToKw pos (keywordEach kws env)).any (·.1.isNone) = false := by rfl) :
    wpAny M A (callWith pos (.type T) [] (backTo pos (starEach (e :: rest) env)) (backToKw pos (keywordEach kws env))) Q E s := by
  unfold callWith
  rw [he] at h hplain ⊢
  refine wpAny_bind (wpAny_holding (wpAny_mono (evalArgs_kwB (Q := fun a s₂ => wpAny M A (call (.type T) a.pos a.kw) Q E s₂) hall h) (fun a s₁ h₁ => wpAny_bind (wpAny_standAt ?_)) fun _ _ x => x))
  simp only [hplain, hkw, Bool.or_false]
  refine wpAny_bind (wpAny_pure ?_)
  exact wpAny_bind (wpAny_mono h₁ (fun r s₂ hr => wpAny_bind (wpAny_holding (wpAny_point (wpAny_pure hr)))) fun _ _ x => x)
end
theorem pi_zipS {X : Cx} {e e2 : Expr} {ta : TA} {p pos tpos kpos q : Pos} {elts : List Expr} {kk j : Nat} (hg : Gl X "zip") (hm : X.mg "zip" = none) (ha : PA X [e, e2] ta)
    (hs : backTo pos (starEach [e, e2] X.env) = (false, eval e X.env) :: backTo pos (starEach [e2] X.env) := by rfl) (hpl : (backTo pos (starEach [e, e2] X.env)).any (·.1) = false := by rfl) :
    PI X (.Tuple elts kk tpos) (.Call (.Name "zip" p) [e, e2] [⟨some "strict", .Constant (.bool true) j q, kpos⟩] pos) (iZipSt X.K ta) := by
  refine ⟨fun pins s σ H R I h => ?_⟩
  refine wpAny_Call_Name_kw (ld_blt I hg hm PyProof.Rows.boot_zip ?_)
  refine callWith_typeK (thn (ha.run pos pins s σ H _ I h) fun us s1 ⟨vs, H1, I1, r1, q1⟩ => ?_) hs hpl
  refine kws_cons (thn ((pe_bl (b := true)).run pins s1 σ H1 (fun v H' => v = .bl true ∧ H' = H1) I1 ⟨rfl, rfl⟩) fun v s2 ⟨x, H2, I2, r2, e1, e2⟩ => ?_)
  subst e1 e2
  cases r2
  refine kws_nil ?_
  obtain ⟨a, b, xs, ys, ex, hqx, hqy, q⟩ := q1
  subst ex
  cases r1 with
  | cons r rr =>
    cases rr with
    | cons r' rr =>
      cases rr
      cases r
      cases r'
      obtain ⟨its, rv, p1, _⟩ := I2.list hqx
      obtain ⟨its2, rv2, p2, _⟩ := I2.list hqy
      have la : a < s2.heap.objs.size := p1.lt
      have lb : b < s2.heap.objs.size := p2.lt
      refine callS p1.isList p2.isList fun h' hz hTI hTO h1 h2 hsz hk => iterS hz ?_
      have I3 : Inv X pins σ H2 { s2 with heap := h' } := I2.kept (t' := s2.toks) hk
      refine ⟨s2.heap.objs.size + 4, [s2.heap.objs.size + 4, s2.heap.objs.size + 2, s2.heap.objs.size + 3, s2.heap.objs.size, s2.heap.objs.size + 1], _, _, H2, rfl, I3, turnS (PySem.W.ktu_apart s2.heap.objs.size a b la lb), ⟨hz, hTI, ⟨_, _, hTO⟩, h1, h2⟩, fun c hcm => ?_, q⟩
      have e' : c = s2.heap.objs.size + 4 ∨ c = s2.heap.objs.size + 2 ∨ c = s2.heap.objs.size + 3 ∨ c = s2.heap.objs.size ∨ c = s2.heap.objs.size + 1 := by simpa using hcm
      have hle : s2.heap.objs.size ≤ c := by
        rcases e' with z | z | z | z | z
        · rw [z]; exact Nat.le_add_right _ _
        · rw [z]; exact Nat.le_add_right _ _
        · rw [z]; exact Nat.le_add_right _ _
        · rw [z]; exact Nat.le_refl _
        · rw [z]; exact Nat.le_add_right _ _
      exact I2.fpOk hle (I2.hok.fresh hle)
end Z
set_option Elab.async false
set_option linter.all false
set_option maxRecDepth 100000
set_option maxHeartbeats 1000000
namespace Z
open PySem L2 PySem.Spec PyProof.Rows
theorem u65 {A : Around} {k : Nat} (r : Room k A) : A.units + 65 < cLine := by have := r.un; omega
/-- zip(xs, ys, strict=True) of lists as long as each other -/
def srcZipS : List D → M Src := fun ds S => match ds with
  | [x, y] => (match lstSrc S x, lstSrc S y with
    | some s, some t => if s.items.length = t.items.length then .val ⟨zips s.items t.items, fun S => s.ok S ∧ t.ok S⟩ S else .stuck
    | _, _ => .stuck)
  | _ => .stuck
@[simp] def iZipS (f : Rho → M (List D)) : Rho → M Src := fun ρ S => (f ρ S).bind srcZipS
section
variable {X : Cx} {E : XK} {pos p tpos kpos : Pos} {e e2 ek : Expr} {elts : List Expr} {kk : Nat} {g : Rho → M (List D)}
theorem gives_zipS {K : PySem.W.Frag} {w : World} {α : Al} {H : Hp} {a b : Addr} {s t : Src} (hl : s.items.length = t.items.length) (ha : Stands K w α H a s) (hb : Stands K w α H b t) : Gives K w (Itzs K a b) α H ⟨zips s.items t.items, fun S => s.ok S ∧ t.ok S⟩ := by
  intro α1 S1 H1 st rp ok i
  have g := gives_zip ha hb α1 S1 H1 st rp ok i
  refine ⟨fun hi => ?_, g.2⟩
  obtain ⟨vs, h1, l1⟩ := ha α1 S1 H1 st rp ok.1
  obtain ⟨us, h2, l2⟩ := hb α1 S1 H1 st rp ok.2
  have hi : (zips s.items t.items).length ≤ i := hi
  rw [zips_len] at hi
  exact ⟨vs, us, h1, h2, by rw [l1.length]; omega, by rw [l2.length]; omega⟩
theorem zi_zipS (hg : Gl X "zip") (hm : X.mg "zip" = none) (ha : ZA X E [e, e2] g) {j : Nat} {q : Pos} (hs : backTo pos (starEach [e, e2] X.env) = (false, eval e X.env) :: backTo pos (starEach [e2] X.env) := by rfl) (hpl : (backTo pos (starEach [e, e2] X.env)).any (·.1) = false := by rfl) :
    ZI X E (.Tuple elts kk tpos) (.Call (.Name "zip" p) [e, e2] [⟨some "strict", .Constant (.bool true) j q, kpos⟩] pos) (iZipS g) := PI.weak (pi_zipS hg hm ha hs hpl) fun σ H R ⟨α, S, ρ, rp, re, q⟩ => by
  refine ⟨α, S, ρ, rp, re, PI.step q fun ds S1 α1 H1 vs _ st rp1 r1 q1 => ?_⟩
  unfold srcZipS at q1
  split at q1
  · split at q1
    · rename_i x y _ _ s t hs1 hs2
      split at q1
      · rename_i hl
        unfold RepL at r1
        obtain ⟨v, r, e1, h1, h2⟩ := r1
        unfold RepL at h2
        obtain ⟨u, r', e2, h3, h4⟩ := h2
        unfold RepL at h4
        obtain ⟨_, a, vs', ea, ha, sa⟩ := lstSrc_rep rp1 hs1 h1
        obtain ⟨_, b, us', eb, hb, sb⟩ := lstSrc_rep rp1 hs2 h3
        exact ⟨a, b, vs', us', by rw [e1, e2, h4, ea, eb], ha, hb, q1.2 α1 H1 _ Stp.refl rp1 (gives_zipS hl sa sb)⟩
      · exact q1.elim
    · exact q1.elim
  · exact q1.elim
end
end Z
set_option Elab.async false
set_option linter.all false
set_option maxRecDepth 100000
set_option maxHeartbeats 1000000
/-! M0: what the operations answer, for rewriting. -/
namespace Z
open PySem (Str sizeLine)
open L2 (atI ixN)
@[simp] theorem log2_lit {n : Nat} (h : n < 2 ^ 64) : n.log2 < 9000 := by
  by_cases h0 : n = 0
  · subst h0; decide
  · have := (Nat.log2_lt h0).mpr h
    omega
@[simp] theorem mulOk_l {i j : Int} (h1 : -(2 ^ 64) < i) (h2 : i < 2 ^ 64) : mulOk i j = true := by simp only [mulOk, h1, h2, decide_true, Bool.and_self, Bool.true_or]
@[simp] theorem mulOk_r {i j : Int} (h1 : -(2 ^ 64) < j) (h2 : j < 2 ^ 64) : mulOk i j = true := by simp only [mulOk, h1, h2, decide_true, Bool.and_self, Bool.or_true, Bool.true_or]
section
variable {i j : Int} {a b x y : Str} {p q : Bool} {S : Sto} {d e : D} {ds es : List D}
@[simp] theorem opNeg_int : opNeg (.int i) S = .val (.int (-i)) S := rfl
theorem opEq_of {r : Bool} (h : eqF d e = some r) : opEq d e S = .val (.bl r) S := by simp only [opEq, opEqB, h]
theorem opNe_of {r : Bool} (h : eqF d e = some r) : opNe d e S = .val (.bl (!r)) S := by simp only [opNe, opEqB, h]
@[simp] theorem opEq_int : opEq (.int i) (.int j) S = .val (.bl (decide (i = j))) S := opEq_of rfl
@[simp] theorem opEq_str : opEq (.str a) (.str b) S = .val (.bl (decide (a = b))) S := opEq_of rfl
@[simp] theorem opEq_nn : opEq .non .non S = .val (.bl true) S := opEq_of rfl
@[simp] theorem opEq_ns : opEq .non (.str a) S = .val (.bl false) S := opEq_of rfl
@[simp] theorem opEq_sn : opEq (.str a) .non S = .val (.bl false) S := opEq_of rfl
@[simp] theorem opEq_is : opEq (.int i) (.str a) S = .val (.bl false) S := opEq_of rfl
@[simp] theorem opEq_si : opEq (.str a) (.int i) S = .val (.bl false) S := opEq_of rfl
@[simp] theorem opEq_ni : opEq .non (.int i) S = .val (.bl false) S := opEq_of rfl
@[simp] theorem opEq_in : opEq (.int i) .non S = .val (.bl false) S := opEq_of rfl
@[simp] theorem opEq_bb : opEq (.bl p) (.bl q) S = .val (.bl (decide (p = q))) S := opEq_of rfl
@[simp] theorem opNe_int : opNe (.int i) (.int j) S = .val (.bl (!decide (i = j))) S := opNe_of rfl
@[simp] theorem opNe_str : opNe (.str a) (.str b) S = .val (.bl (!decide (a = b))) S := opNe_of rfl
@[simp] theorem opNe_bb : opNe (.bl p) (.bl q) S = .val (.bl (!decide (p = q))) S := opNe_of rfl
@[simp] theorem isNon_non : isNon .non = true := rfl
@[simp] theorem isNon_int : isNon (.int i) = false := rfl
@[simp] theorem isNon_str : isNon (.str a) = false := rfl
@[simp] theorem isNon_bl : isNon (.bl p) = false := rfl
@[simp] theorem isNon_tup : isNon (.tup ds) = false := rfl
@[simp] theorem isNon_lst : isNon (.lst ds) = false := rfl
theorem atI_nat {β : Type} (l : List β) (n : Nat) : atI l (n : Int) = l[n]? := by
  unfold atI ixN
  rw [if_pos (by omega)]
  by_cases h : n < l.length
  · rw [if_pos (by omega)]; simp
  · rw [if_neg (by omega)]
    rw [List.getElem?_eq_none (by omega)]; rfl
@[simp] theorem atI_0 {β : Type} (l : List β) : atI l 0 = l[0]? := atI_nat l 0
@[simp] theorem atI_1 {β : Type} (l : List β) : atI l 1 = l[1]? := atI_nat l 1
@[simp] theorem atI_2 {β : Type} (l : List β) : atI l 2 = l[2]? := atI_nat l 2
@[simp] theorem atI_cast {β : Type} (l : List β) (n : Nat) : atI l (n : Int) = l[n]? := atI_nat l n
theorem opIx_tupE : opIx (.tup ds) (.int i) S = match atI ds i with
  | some d => .val d S
  | none => .stuck := rfl
theorem opIx_lstE : opIx (.lst ds) (.int i) S = match atI ds i with
  | some d => .val d S
  | none => .stuck := rfl
@[simp] theorem opIx_tup (h : atI ds i = some d) : opIx (.tup ds) (.int i) S = .val d S := by rw [opIx_tupE, h]
@[simp] theorem opIx_lst (h : atI ds i = some d) : opIx (.lst ds) (.int i) S = .val d S := by rw [opIx_lstE, h]
@[simp] theorem bInt_bl : bInt [.bl p] S = .val (.int (if p then 1 else 0)) S := rfl
@[simp] theorem bInt_int : bInt [.int i] S = .val (.int i) S := rfl
@[simp] theorem isTy_str : isTy S ["str"] (.str a) = some true := rfl
@[simp] theorem isTy_str_t : isTy S ["str"] (.tup ds) = some false := rfl
@[simp] theorem isTy_str_i : isTy S ["str"] (.int i) = some false := rfl
@[simp] theorem isTy_str_n : isTy S ["str"] .non = some false := rfl
@[simp] theorem bLen_tup : bLen [.tup ds] S = .val (.int ds.length) S := rfl
@[simp] theorem bLen_lst : bLen [.lst ds] S = .val (.int ds.length) S := rfl
@[simp] theorem bTuple_tup : bTuple [.tup ds] S = .val (.tup ds) S := rfl
@[simp] theorem bTuple_lst : bTuple [.lst ds] S = .val (.tup ds) S := rfl
@[simp] theorem bAll_lst {bs : List Bool} : bAll [.lst (bs.map D.bl)] S = .val (.bl (bs.all id)) S := by simp only [bAll, seqL, bls_of]
end
/-! ### walks -/
def rangeD (n : Nat) : List D := (List.range n).map fun (i : Nat) => D.int (i : Int)
theorem rng_D (n : Nat) : rng 0 n = rangeD n := by simp [rng, rangeD]
theorem srcRng1_nat {n : Nat} (h : n ≤ 1000000) (S : Sto) : srcRng1 [.int (n : Int)] S = .val (always (rangeD n)) S := by
  rw [← rng_D]
  unfold srcRng1
  simp only
  rw [if_pos ⟨by omega, by omega⟩]
  simp
/-- a list comprehension whose parts write nothing -/
theorem compL_pure {ok : Sto → Prop} {g : D → Rho → M Rho} {t : Rho → M Bool} {e : Rho → M D} {ρ : Rho} {S : Sto} (F : D → D) (p : D → Bool) (ρ' : D → Rho) (hok : ok S) : ∀ {ds : List D}, (∀ d ∈ ds, g d ρ S = .val (ρ' d) S) → (∀ d ∈ ds, t (ρ' d) S = .val (p d) S) →
    (∀ d ∈ ds, p d = true → e (ρ' d) S = .val (F d) S) → compL ok g t e ρ ds S = .val ((ds.filter p).map F) S
  | [], _, _, _ => by unfold compL; rw [guard_of hok]; rfl
  | d :: ds, h1, h2, h3 => by
    unfold compL
    rw [guard_of hok]
    have ih := compL_pure F p ρ' hok (ds := ds) (fun d h => h1 d (List.mem_cons_of_mem _ h)) (fun d h => h2 d (List.mem_cons_of_mem _ h)) (fun d h => h3 d (List.mem_cons_of_mem _ h))
    have a1 := h1 d List.mem_cons_self
    have a2 := h2 d List.mem_cons_self
    cases hp : p d with
    | false => simp [a1, a2, hp, ih]
    | true =>
      have a3 := h3 d List.mem_cons_self hp
      simp [a1, a2, a3, hp, ih]
theorem compL_map {ok : Sto → Prop} {g : D → Rho → M Rho} {e : Rho → M D} {ρ : Rho} {S : Sto} (F : D → D) (ρ' : D → Rho) (hok : ok S) {ds : List D} (h1 : ∀ d ∈ ds, g d ρ S = .val (ρ' d) S) (h3 : ∀ d ∈ ds, e (ρ' d) S = .val (F d) S) :
    compL ok g bYes e ρ ds S = .val (ds.map F) S := by
  have := compL_pure (t := bYes) F (fun _ => true) ρ' hok h1 (fun d _ => rfl) (fun d h _ => h3 d h)
  rw [this, List.filter_eq_self.mpr fun _ _ => rfl]
/-- a list comprehension by what stays true -/
theorem compL_inv {ok : Sto → Prop} {g : D → Rho → M Rho} {e : Rho → M D} {ρ : Rho} (J : Sto → Prop) (R : D → D → Prop) (hok : ∀ S, J S → ok S) : ∀ {ds : List D} {S : Sto}, J S → (∀ d ∈ ds, ∀ S, J S → ∃ ρ1 S1 y S2, g d ρ S = .val ρ1 S1 ∧ e ρ1 S1 = .val y S2 ∧ J S2 ∧ R d y) →
    ∃ ys S', compL ok g bYes e ρ ds S = .val ys S' ∧ J S' ∧ ys.length = ds.length ∧ ∀ y ∈ ys, ∃ d ∈ ds, R d y
  | [], S, hJ, _ => ⟨[], S, by unfold compL; rw [guard_of (hok S hJ)], hJ, rfl, fun y hy => (nomatch hy)⟩
  | d :: ds, S, hJ, h => by
    obtain ⟨ρ1, S1, y, S2, e1, e2, j2, r⟩ := h d List.mem_cons_self S hJ
    obtain ⟨ys, S', e3, j3, l3, m3⟩ := compL_inv J R hok j2 fun d hd => h d (List.mem_cons_of_mem _ hd)
    refine ⟨y :: ys, S', ?_, j3, by rw [List.length_cons, List.length_cons, l3], fun z hz => ?_⟩
    · unfold compL; rw [guard_of (hok S hJ)]; simp [e1, e2, e3]
    · rcases List.mem_cons.mp hz with q | q
      · subst q; exact ⟨d, List.mem_cons_self, r⟩
      · obtain ⟨d', h1, h2⟩ := m3 z q; exact ⟨d', List.mem_cons_of_mem _ h1, h2⟩
/-- a for that runs through -/
theorem forL_inv {ok : Sto → Prop} {g : D → Rho → M Rho} {b : Rho → M Fl} (ds0 : List D) (J : Nat → Rho → Sto → Prop) (hok : ∀ k ρ S, J k ρ S → ok S)
    (step : ∀ k d ρ S, ds0[k]? = some d → J k ρ S → ∃ ρ1 S1 ρ2 S2, g d ρ S = .val ρ1 S1 ∧ (b ρ1 S1 = .val (.nx ρ2) S2 ∨ b ρ1 S1 = .val (.cont ρ2) S2) ∧ J (k + 1) ρ2 S2) :
    ∀ {ds : List D} {k : Nat} {ρ : Rho} {S : Sto}, ds0.drop k = ds → J k ρ S → ∃ ρ' S', forL ok g b ds ρ S = .val (.nx ρ') S' ∧ J (k + ds.length) ρ' S'
  | [], k, ρ, S, hd, hJ => ⟨ρ, S, by unfold forL; rw [guard_of (hok k ρ S hJ)], hJ⟩
  | d :: ds, k, ρ, S, hd, hJ => by
    have hk : ds0[k]? = some d := by
      have : (ds0.drop k)[0]? = some d := by rw [hd]; rfl
      rw [List.getElem?_drop] at this
      exact this
    have hd' : ds0.drop (k + 1) = ds := by rw [← List.drop_drop, hd]; rfl
    obtain ⟨ρ1, S1, ρ2, S2, e1, e2, j2⟩ := step k d ρ S hk hJ
    obtain ⟨ρ', S', e3, j3⟩ := forL_inv ds0 J hok step hd' j2
    refine ⟨ρ', S', ?_, by rw [List.length_cons, Nat.add_comm ds.length 1, ← Nat.add_assoc]; exact j3⟩
    unfold forL; rw [guard_of (hok k ρ S hJ)]
    rcases e2 with e2 | e2 <;> simp [e1, e2, e3]
theorem forL_all {ok : Sto → Prop} {g : D → Rho → M Rho} {b : Rho → M Fl} {ds : List D} {ρ : Rho} {S : Sto} (J : Nat → Rho → Sto → Prop) (hok : ∀ k ρ S, J k ρ S → ok S) (h0 : J 0 ρ S)
    (step : ∀ k d ρ S, ds[k]? = some d → J k ρ S → ∃ ρ1 S1 ρ2 S2, g d ρ S = .val ρ1 S1 ∧ (b ρ1 S1 = .val (.nx ρ2) S2 ∨ b ρ1 S1 = .val (.cont ρ2) S2) ∧ J (k + 1) ρ2 S2) :
    ∃ ρ' S', forL ok g b ds ρ S = .val (.nx ρ') S' ∧ J ds.length ρ' S' := by
  have := forL_inv ds J hok step (ds := ds) (k := 0) rfl h0
  simpa using this
theorem szL {n : Nat} (h : n ≤ 1000000) : n ≤ sizeLine := by have := PySem.sizeLine_eq; omega
@[simp] theorem rangeD_len (n : Nat) : (rangeD n).length = n := by simp [rangeD]
theorem rangeD_mem {n : Nat} {d : D} (h : d ∈ rangeD n) : ∃ i, i < n ∧ d = .int (i : Nat) := by
  obtain ⟨i, hi, rfl⟩ := List.mem_map.mp h
  exact ⟨i, List.mem_range.mp hi, rfl⟩
theorem bind_val {β δ : Type} (b : β) (S : Sto) (k : β → Sto → Out δ) : (Out.val b S).bind k = k b S := rfl
theorem rng1_n {g : Rho → M (List D)} {ρ : Rho} {S S' : Sto} {n : Nat} (hg : g ρ S = .val [.int (n : Int)] S') (h : n ≤ 1000000) : iRng1 g ρ S = .val (always (rangeD n)) S' := by
  rw [iRng1, hg, Out.bind]
  exact srcRng1_nat h S'
theorem iVal_n {f : Rho → M D} {ρ : Rho} {S S' S'' : Sto} {d : D} {src : Src} (hf : f ρ S = .val d S') (hs : srcOf d S' = .val src S'') : iVal f ρ S = .val src S'' := by
  unfold iVal; rw [hf]; exact hs
theorem fn0_ret {m : Nat} {e : Rho → M D} {ds : List D} {S S' : Sto} {d : D} (h : e (ds.map some ++ List.replicate m none) S = .val d S') : fn0 m (sRet e) ds S = .val d S' := by simp only [fn0, sRet, h, Out.bind]
theorem lc_pure {f : Rho → M Src} {own : List Nat} {g : D → Rho → M Rho} {t : Rho → M Bool} {e : Rho → M D} {ρ : Rho} {S S1 : Sto} {src : Src} (F : D → D) (p : D → Bool) (ρ' : D → Rho) (hf : f ρ S = .val src S1) (hl : src.items.length ≤ 1000000) (hok : src.ok S1)
    (h1 : ∀ d ∈ src.items, g d (wipeR ρ own) S1 = .val (ρ' d) S1) (h2 : ∀ d ∈ src.items, t (ρ' d) S1 = .val (p d) S1) (h3 : ∀ d ∈ src.items, p d = true → e (ρ' d) S1 = .val (F d) S1) : eFin finL (eComp f own g t e) ρ S = .val (.lst ((src.items.filter p).map F)) S1 := by
  simp only [eFin, eComp, hf, Out.bind, if_pos (szL hl), compL_pure F p ρ' hok h1 h2 h3, finL]
theorem lc_map {f : Rho → M Src} {own : List Nat} {g : D → Rho → M Rho} {e : Rho → M D} {ρ : Rho} {S S1 : Sto} {src : Src} (F : D → D) (ρ' : D → Rho) (hf : f ρ S = .val src S1) (hl : src.items.length ≤ 1000000) (hok : src.ok S1)
    (h1 : ∀ d ∈ src.items, g d (wipeR ρ own) S1 = .val (ρ' d) S1) (h3 : ∀ d ∈ src.items, e (ρ' d) S1 = .val (F d) S1) : eFin finL (eComp f own g bYes e) ρ S = .val (.lst (src.items.map F)) S1 := by
  simp only [eFin, eComp, hf, Out.bind, if_pos (szL hl), compL_map F ρ' hok h1 h3, finL]
end Z
set_option Elab.async false
set_option linter.all false
set_option maxRecDepth 100000
set_option maxHeartbeats 1000000
/-! E1: an engine: what is wanted behind a run, rule by rule. -/
namespace Z
open PySem (Str sizeLine)
open L2 (atI ixN)
section
variable {β δ : Type}
/-- m gives a value, and Q of it -/
def W (o : Out β) (Q : β → Sto → Prop) : Prop := match o with
  | .val b S => Q b S
  | _ => False
variable {o : Out β} {Q Q' : β → Sto → Prop} {b : β} {S S' : Sto} {ρ ρ' : Rho}
theorem w_of (h : o = .val b S) (q : Q b S) : W o Q := by subst h; exact q
theorem w_val (q : Q b S) : W (.val b S) Q := q
theorem w_to (h : W o Q) : ∃ b S, o = .val b S ∧ Q b S := by
  cases o with
  | val b S => exact ⟨b, S, rfl, h⟩
  | exc => exact h.elim
  | stuck => exact h.elim
theorem w_imp (h : W o Q) (k : ∀ b S, Q b S → Q' b S) : W o Q' := by
  cases o with
  | val b S => exact k b S h
  | exc => exact h.elim
  | stuck => exact h.elim
theorem w_eq (h : W o fun b' S' => b' = b ∧ S' = S) : o = .val b S := by
  obtain ⟨b', S', e, rfl, rfl⟩ := w_to h
  exact e
theorem w_bind {m : Out δ} {k : δ → Sto → Out β} (h : W m fun d S => W (k d S) Q) : W (m.bind k) Q := by
  cases m with
  | val b S => exact h
  | exc => exact h.elim
  | stuck => exact h.elim
theorem w_ite {c : Prop} [Decidable c] {x y : Out β} (hc : c) (h : W x Q) : W (if c then x else y) Q := by rw [if_pos hc]; exact h
/-- a parting of ways -/
def cnd (q : Bool) (A B : Prop) : Prop := (q = true → A) ∧ (q = false → B)
theorem cnd_true {A B : Prop} (a : A) : cnd true A B := ⟨fun _ => a, fun h => nomatch h⟩
theorem cnd_false {A B : Prop} (b : B) : cnd false A B := ⟨fun h => (nomatch h), fun _ => b⟩
theorem cnd_by {A B : Prop} {q : Bool} (a : q = true → A) (b : q = false → B) : cnd q A B := ⟨a, b⟩
theorem cnd_dec {A B p : Prop} [Decidable p] (a : p → A) (b : ¬ p → B) : cnd (decide p) A B := ⟨fun h => a (of_decide_eq_true h), fun h => b (of_decide_eq_false h)⟩
theorem cnd_t {A B p : Prop} [Decidable p] (hp : p) (a : A) : cnd (decide p) A B := ⟨fun _ => a, fun h => absurd hp (of_decide_eq_false h)⟩
theorem cnd_f {A B p : Prop} [Decidable p] (hp : ¬ p) (b : B) : cnd (decide p) A B := ⟨fun h => absurd (of_decide_eq_true h) hp, fun _ => b⟩
theorem cnd_not {A B : Prop} {q : Bool} (h : cnd q B A) : cnd (!q) A B := by
  cases q with
  | true => exact ⟨fun e => (nomatch e), fun _ => h.1 rfl⟩
  | false => exact ⟨fun _ => h.2 rfl, fun e => (nomatch e)⟩
theorem cnd_eq {A B : Prop} {q r : Bool} (e : q = r) (h : cnd r A B) : cnd q A B := by subst e; exact h
theorem cnd_out {β : Type} {q : Bool} {x y : Out β} {Q : β → Sto → Prop} (h : cnd q (W x Q) (W y Q)) : W (if q = true then x else y) Q := by
  cases q
  · exact h.2 rfl
  · exact h.1 rfl
theorem cnd_bif {A B : Prop} {q : Bool} (h : if q = true then A else B) : cnd q A B := by cases q <;> simp at h <;> simp [cnd, h]
end
section
variable {ρ ρ' : Rho} {S S' : Sto} {d e r : D} {ds : List D} {f g f1 f2 : Rho → M D} {a : Rho → M (List D)} {c c1 c2 : Rho → M Bool} {op : D → D → M D} {i j l n : Nat} {Q : D → Sto → Prop} {R : Bool → Sto → Prop} {T : List D → Sto → Prop}
/-! ### expressions -/
theorem w_eVar (h : ρ[i]? = some (some d)) (q : Q d S) : W (eVar i ρ S) Q := w_of (by simp only [eVar, h]) q
theorem w_eC (q : Q d S) : W (eC d ρ S) Q := q
theorem w_eOp (h : W (f ρ S) fun x S1 => W (g ρ S1) fun y S2 => W (op x y S2) Q) : W (eOp op f g ρ S) Q := w_bind (w_imp h fun _ _ h => w_bind h)
theorem w_eUn {o : D → M D} (h : W (f ρ S) fun x S1 => W (o x S1) Q) : W (eUn o f ρ S) Q := w_bind h
theorem w_eIf (h : W (c ρ S) fun q S1 => cnd q (W (f1 ρ S1) Q) (W (f2 ρ S1) Q)) : W (eIf c f1 f2 ρ S) Q := w_bind (w_imp h fun q S h => by exact cnd_out h)
theorem w_bAnd (h : W (c1 ρ S) fun q S1 => cnd q (W (c2 ρ S1) R) (R false S1)) : W (bAnd c1 c2 ρ S) R := w_bind (w_imp h fun q S h => by exact cnd_out h)
theorem w_bOr (h : W (c1 ρ S) fun q S1 => cnd q (R true S1) (W (c2 ρ S1) R)) : W (bOr c1 c2 ρ S) R := w_bind (w_imp h fun q S h => by exact cnd_out h)
theorem w_bNot (h : W (c ρ S) fun q S1 => R (!q) S1) : W (bNot c ρ S) R := w_bind h
theorem w_isBl {b : Bool} (h : R b S) : W (isBl (.bl b) S) R := h
theorem w_bVal (h : W (f ρ S) fun x S1 => W (isBl x S1) R) : W (bVal f ρ S) R := w_bind h
theorem w_eAnd (h : W (f ρ S) fun x S1 => W (isBl x S1) fun q S2 => cnd q (W (g ρ S2) Q) (Q (.bl false) S2)) : W (eAnd f g ρ S) Q := w_bind (w_imp h fun x S1 h => w_bind (w_imp h fun q S h => by exact cnd_out h))
theorem w_eOr (h : W (f ρ S) fun x S1 => W (isBl x S1) fun q S2 => cnd q (Q (.bl true) S2) (W (g ρ S2) Q)) : W (eOr f g ρ S) Q := w_bind (w_imp h fun x S1 h => w_bind (w_imp h fun q S h => by exact cnd_out h))
theorem w_eOrT (h : W (f ρ S) fun x S1 => W (opTru x S1) fun q S2 => cnd q (Q x S2) (W (g ρ S2) Q)) : W (eOrT f g ρ S) Q := w_bind (w_imp h fun x S1 h => w_bind (w_imp h fun q S h => by exact cnd_out h))
theorem w_eNot (h : W (f ρ S) fun x S1 => W (isBl x S1) fun q S2 => Q (.bl (!q)) S2) : W (eNot f ρ S) Q := w_bind (w_imp h fun x S1 h => w_bind h)
theorem w_aNil (h : T [] S) : W (aNil ρ S) T := h
theorem w_aCons (h : W (f ρ S) fun x S1 => W (a ρ S1) fun xs S2 => T (x :: xs) S2) : W (aCons f a ρ S) T := w_bind (w_imp h fun _ _ h => w_bind h)
theorem w_eTup (h : W (a ρ S) fun xs S1 => Q (.tup xs) S1) : W (eTup a ρ S) Q := w_bind h
theorem w_eLst (h : W (a ρ S) fun xs S1 => Q (.lst xs) S1) : W (eLst a ρ S) Q := w_bind h
theorem w_eCel (h : W (a ρ S) fun xs S1 => Q (.ref S1.length) (S1 ++ [.lst xs])) : W (eCel a ρ S) Q := w_bind h
theorem w_eDcV (h : Q (.dic [] []) S) : W (eDcV ρ S) Q := h
theorem w_eDcC (h : Q (.ref S.length) (S ++ [.dic false [] []])) : W (eDcC ρ S) Q := h
theorem w_oNone {P : Option Int → Sto → Prop} (h : P none S) : W (oNone ρ S) P := h
theorem w_oInt {P : Option Int → Sto → Prop} {i : Int} (h : P (some i) S) : W (oInt (.int i) S) P := h
theorem w_oSome {P : Option Int → Sto → Prop} (h : W (f ρ S) fun x S1 => W (oInt x S1) P) : W (oSome f ρ S) P := w_bind h
theorem w_eSl {lo hi : Rho → M (Option Int)} (h : W (f ρ S) fun x S1 => W (lo ρ S1) fun l S2 => W (hi ρ S2) fun u S3 => W (opSl x l u S3) Q) : W (eSl f lo hi ρ S) Q := w_bind (w_imp h fun _ _ h => w_bind (w_imp h fun _ _ h => w_bind h))
theorem w_eCall {F : List D → M D} (h : W (a ρ S) fun ds S1 => W (F ds S1) Q) : W (eCall F a ρ S) Q := w_bind h
/-- is it of one of these kinds -/
def tyQ (ts : List String) (d : D) (Q : D → Sto → Prop) (S : Sto) : Prop := ∃ b, isTy S ts d = some b ∧ Q (.bl b) S
theorem w_eIsi {ts : List String} (h : W (f ρ S) fun d S1 => tyQ ts d Q S1) : W (eIsi ts f ρ S) Q := w_bind (w_imp h fun d S1 ⟨b, e, q⟩ => by rw [e]; exact q)
theorem w_tyQ {ts : List String} {b : Bool} (e : isTy S ts d = some b) (q : Q (.bl b) S) : tyQ ts d Q S := ⟨b, e, q⟩
theorem w_eMth {ok : Sto → D → Bool} {op : D → List D → M D} (h : W (f ρ S) fun o S1 => ok S1 o = true ∧ W (a ρ S1) fun ds S2 => W (op o ds S2) Q) : W (eMth ok op f a ρ S) Q := w_bind (w_imp h fun o S1 ⟨h1, h2⟩ => by rw [if_pos h1]; exact w_bind h2)
theorem w_eFld {x y : Str} (h : W (f ρ S) fun o S1 => W (opFld x y o S1) Q) : W (eFld x y f ρ S) Q := w_bind h
theorem w_opFld {x y : Str} {fs : List (Str × D)} (h1 : insOf x S e = some fs) (h2 : fs.lookup y = some d) (q : Q d S) : W (opFld x y e S) Q := w_of (by simp only [opFld, h1, h2]) q
/-- a method asked of an instance -/
def metQ (c m : Str) (o : D) (S : Sto) (P : Prop) : Prop := ∃ fs, insOf c S o = some fs ∧ fs.lookup m = none ∧ P
theorem w_eMeth {x y : Str} {F : List D → M D} (h : W (f ρ S) fun o S1 => metQ x y o S1 (W (a ρ S1) fun ds S2 => W (F (o :: ds) S2) Q)) : W (eMeth x y F f a ρ S) Q := w_bind (w_imp h fun o S1 ⟨fs, h1, h2, h3⟩ => by rw [h1]; simp only; rw [if_pos h2]; exact w_bind h3)
theorem w_eMake {x : Str} {F : List D → M D} (h : W (a ρ S) fun ds S1 => W (F (.ref S1.length :: ds) (S1 ++ [.ins x []])) fun v S2 => v = .non ∧ Q (.ref S1.length) S2) : W (eMake x F a ρ S) Q := w_bind (w_imp h fun ds S1 h => w_bind (w_imp h fun v S2 ⟨h1, h2⟩ => by subst h1; exact h2))
theorem w_bYes (h : R true S) : W (bYes ρ S) R := h
/-! ### operators -/
variable {x y : Int} {s t : Str} {p q : Bool}
theorem w_add_i (h : Q (.int (x + y)) S) : W (opAdd (.int x) (.int y) S) Q := h
theorem w_add_s (hl : s.length + t.length ≤ sizeLine) (h : Q (.str (s ++ t)) S) : W (opAdd (.str s) (.str t) S) Q := w_of (by simp only [opAdd]; rw [if_pos hl]) h
theorem w_add_t {a b : List D} (hl : a.length + b.length ≤ 1000000) (h : Q (.tup (a ++ b)) S) : W (opAdd (.tup a) (.tup b) S) Q := w_of (by simp only [opAdd]; rw [if_pos (szL hl)]) h
theorem w_add_l {a b : List D} (hl : a.length + b.length ≤ 1000000) (h : Q (.lst (a ++ b)) S) : W (opAdd (.lst a) (.lst b) S) Q := w_of (by simp only [opAdd, seqM]; rw [if_pos (szL hl)]) h
theorem w_sub_i (h : Q (.int (x - y)) S) : W (opSub (.int x) (.int y) S) Q := h
theorem w_mul_i (hm : mulOk x y = true) (h : Q (.int (x * y)) S) : W (opMul (.int x) (.int y) S) Q := w_of (by simp only [opMul]; rw [if_pos hm]) h
theorem w_div_i (h0 : 0 < y) (h1 : y < 2 ^ 64) (h : Q (.int (x / y)) S) : W (opDiv (.int x) (.int y) S) Q := w_of (by simp only [opDiv]; rw [if_pos ⟨h0, log2_lit (by omega)⟩]) h
theorem w_mod_i (h0 : 0 < y) (h : Q (.int (x % y)) S) : W (opMod (.int x) (.int y) S) Q := w_of (by simp only [opMod]; rw [if_pos h0]) h
theorem w_neg_i (h : Q (.int (-x)) S) : W (opNeg (.int x) S) Q := h
theorem w_lt_i (h : Q (.bl (decide (x < y))) S) : W (opLt (.int x) (.int y) S) Q := h
theorem w_le_i (h : Q (.bl (decide (x ≤ y))) S) : W (opLe (.int x) (.int y) S) Q := h
theorem w_gt_i (h : Q (.bl (decide (y < x))) S) : W (opGt (.int x) (.int y) S) Q := h
theorem w_ge_i (h : Q (.bl (decide (y ≤ x))) S) : W (opGe (.int x) (.int y) S) Q := h
theorem w_eq_i (h : Q (.bl (decide (x = y))) S) : W (opEq (.int x) (.int y) S) Q := h
theorem w_eq_s (h : Q (.bl (decide (s = t))) S) : W (opEq (.str s) (.str t) S) Q := h
theorem w_eq_b (h : Q (.bl (decide (p = q))) S) : W (opEq (.bl p) (.bl q) S) Q := h
theorem w_eq_nn (h : Q (.bl true) S) : W (opEq .non .non S) Q := h
theorem w_eq_ns (h : Q (.bl false) S) : W (opEq .non (.str s) S) Q := h
theorem w_eq_sn (h : Q (.bl false) S) : W (opEq (.str s) .non S) Q := h
theorem w_eq_is (h : Q (.bl false) S) : W (opEq (.int x) (.str s) S) Q := h
theorem w_eq_si (h : Q (.bl false) S) : W (opEq (.str s) (.int x) S) Q := h
theorem w_eq_ni (h : Q (.bl false) S) : W (opEq .non (.int x) S) Q := h
theorem w_eq_in (h : Q (.bl false) S) : W (opEq (.int x) .non S) Q := h
theorem w_ne_i (h : Q (.bl (!decide (x = y))) S) : W (opNe (.int x) (.int y) S) Q := h
theorem w_ne_s (h : Q (.bl (!decide (s = t))) S) : W (opNe (.str s) (.str t) S) Q := h
theorem w_ne_b (h : Q (.bl (!decide (p = q))) S) : W (opNe (.bl p) (.bl q) S) Q := h
theorem w_is_n (h : Q (.bl (isNon d)) S) : W (opIs d .non S) Q := h
theorem w_isNot_n (h : Q (.bl (!isNon d)) S) : W (opIsNot d .non S) Q := h
theorem w_ix_t {ds : List D} (hd : atI ds x = some d) (h : Q d S) : W (opIx (.tup ds) (.int x) S) Q := w_of (opIx_tup hd) h
theorem w_ix_l {ds : List D} (hd : atI ds x = some d) (h : Q d S) : W (opIx (.lst ds) (.int x) S) Q := w_of (opIx_lst hd) h
theorem w_ix_w {ds : List D} (hd : atI ds x = some d) (h : Q d S) : W (opIx (.wl ds) (.int x) S) Q := w_of (by simp only [opIx, seqL, hd]) h
theorem w_ix_r {n : Nat} {ds : List D} (hn : S[n]? = some (.lst ds)) (hd : atI ds x = some d) (h : Q d S) : W (opIx (.ref n) (.int x) S) Q := w_of (by simp only [opIx, seqL, hn, hd]) h
theorem w_sl_t {ds : List D} {lo hi : Option Int} (h : Q (.tup (cutL ds lo hi)) S) : W (opSl (.tup ds) lo hi S) Q := h
theorem w_sl_l {ds : List D} {lo hi : Option Int} (h : Q (.lst (cutL ds lo hi)) S) : W (opSl (.lst ds) lo hi S) Q := h
theorem w_sl_w {ds : List D} {lo hi : Option Int} (h : Q (.lst (cutL ds lo hi)) S) : W (opSl (.wl ds) lo hi S) Q := h
theorem w_len_t {ds : List D} (h : Q (.int (ds.length : Nat)) S) : W (bLen [.tup ds] S) Q := h
theorem w_len_l {ds : List D} (h : Q (.int (ds.length : Nat)) S) : W (bLen [.lst ds] S) Q := h
theorem w_len_w {ds : List D} (h : Q (.int (ds.length : Nat)) S) : W (bLen [.wl ds] S) Q := h
theorem w_len_d {ks vs : List D} (h : Q (.int (ks.length : Nat)) S) : W (bLen [.dic ks vs] S) Q := h
theorem w_len_r {n : Nat} {ds : List D} (hn : S[n]? = some (.lst ds)) (h : Q (.int (ds.length : Nat)) S) : W (bLen [.ref n] S) Q := w_of (by simp only [bLen, lenD, seqA, seqL, hn]) h
theorem w_len_lm {β : Type} {l : List β} {F : β → D} (h : Q (.int (l.length : Nat)) S) : W (bLen [.lst (l.map F)] S) Q := w_len_l (by rw [List.length_map]; exact h)
theorem w_len_tm {β : Type} {l : List β} {F : β → D} (h : Q (.int (l.length : Nat)) S) : W (bLen [.tup (l.map F)] S) Q := w_len_t (by rw [List.length_map]; exact h)
theorem w_len_rm {β : Type} {l : List β} {F : β → D} {n : Nat} (hn : S[n]? = some (.lst (l.map F))) (h : Q (.int (l.length : Nat)) S) : W (bLen [.ref n] S) Q := w_len_r hn (by rw [List.length_map]; exact h)
theorem w_tuple_l {ds : List D} (h : Q (.tup ds) S) : W (bTuple [.lst ds] S) Q := h
theorem w_tuple_t {ds : List D} (h : Q (.tup ds) S) : W (bTuple [.tup ds] S) Q := h
theorem w_tuple_r {n : Nat} {ds : List D} (hn : S[n]? = some (.lst ds)) (h : Q (.tup ds) S) : W (bTuple [.ref n] S) Q := w_of (by simp only [bTuple, seqL, hn]) h
theorem w_int_b (h : Q (.int (if p = true then 1 else 0)) S) : W (bInt [.bl p] S) Q := h
theorem w_int_i (h : Q (.int x) S) : W (bInt [.int x] S) Q := h
theorem w_abs_i (h : Q (.int (if x < 0 then -x else x)) S) : W (bAbs [.int x] S) Q := by
  refine w_of ?_ h
  rfl
theorem w_all {bs : List Bool} (h : Q (.bl (bs.all id)) S) : W (bAll [.lst (bs.map D.bl)] S) Q := w_of bAll_lst h
theorem w_append {n : Nat} {xs : List D} (hn : S[n]? = some (.lst xs)) (hl : xs.length < 1000000) (h : Q .non (S.set n (.lst (xs ++ [d])))) : W (mAppend (.ref n) [d] S) Q := w_of (by simp only [mAppend, hn]; rw [if_pos (Nat.lt_of_lt_of_le hl (szL (Nat.le_refl _)))]) h
/-! ### statements -/
/-- what goes on behind a statement -/
def fK (k : Rho → Sto → Prop) (Q : Fl → Sto → Prop) : Fl → Sto → Prop
  | .nx ρ, S => k ρ S
  | fl, S => Q fl S
/-- what a def answers -/
def fR (Q : D → Sto → Prop) : Fl → Sto → Prop
  | .ret d, S => Q d S
  | .nx _, S => Q .non S
  | _, _ => False
/-- behind a loop's body: on, or out -/
def fT (on : Rho → Sto → Prop) (Q : Fl → Sto → Prop) : Fl → Sto → Prop
  | .nx ρ, S => on ρ S
  | .cont ρ, S => on ρ S
  | .brk ρ, S => Q (.nx ρ) S
  | .ret d, S => Q (.ret d) S
variable {k : Rho → Sto → Prop} {U : Fl → Sto → Prop} {u v : Rho → M Fl}
theorem w_sSeq (h : W (u ρ S) (fK (fun ρ1 S1 => W (v ρ1 S1) U) U)) : W (sSeq u v ρ S) U := w_bind (w_imp h fun fl S1 h => by cases fl <;> exact h)
theorem w_sSkip (h : U (.nx ρ) S) : W (sSkip ρ S) U := h
theorem w_sBrk (h : U (.brk ρ) S) : W (sBrk ρ S) U := h
theorem w_sCont (h : U (.cont ρ) S) : W (sCont ρ S) U := h
theorem w_sRet (h : W (f ρ S) fun d S1 => U (.ret d) S1) : W (sRet f ρ S) U := w_bind h
theorem w_sRetN (h : U (.ret .non) S) : W (sRetN ρ S) U := h
theorem w_sDrop (h : W (f ρ S) fun d S1 => U (.nx ρ) S1) : W (sDrop f ρ S) U := w_bind h
theorem w_sAsg {g : D → Rho → M Rho} (h : W (f ρ S) fun d S1 => W (g d ρ S1) fun ρ1 S2 => U (.nx ρ1) S2) : W (sAsg f g ρ S) U := w_bind (w_imp h fun _ _ h => w_bind h)
theorem w_sIf (h : W (c ρ S) fun q S1 => cnd q (W (u ρ S1) U) (W (v ρ S1) U)) : W (sIf c u v ρ S) U := w_bind (w_imp h fun q S h => by exact cnd_out h)
def par2 (i j : Nat) (ρ : Rho) (U : Rho → Sto → Prop) : List D → Sto → Prop
  | [x, y], S => U ((ρ.set i (some x)).set j (some y)) S
  | _, _ => False
def par3 (i j l : Nat) (ρ : Rho) (U : Rho → Sto → Prop) : List D → Sto → Prop
  | [x, y, z], S => U (((ρ.set i (some x)).set j (some y)).set l (some z)) S
  | _, _ => False
theorem w_sPar2 (h : W (a ρ S) (par2 i j ρ fun ρ1 S1 => U (.nx ρ1) S1)) : W (sPar2 i j a ρ S) U := w_bind (w_imp h fun ds S1 h => by
  match ds, h with
  | [x, y], h => exact h)
theorem w_sPar3 (h : W (a ρ S) (par3 i j l ρ fun ρ1 S1 => U (.nx ρ1) S1)) : W (sPar3 i j l a ρ S) U := w_bind (w_imp h fun ds S1 h => by
  match ds, h with
  | [x, y, z], h => exact h)
theorem w_par2 {U : Rho → Sto → Prop} (h : U ((ρ.set i (some d)).set j (some e)) S) : par2 i j ρ U [d, e] S := h
theorem w_par3 {U : Rho → Sto → Prop} (h : U (((ρ.set i (some d)).set j (some e)).set l (some r)) S) : par3 i j l ρ U [d, e, r] S := h
theorem w_sAug (hv : ρ[i]? = some (some d)) (h : W (f ρ S) fun y S1 => W (op d y S1) fun z S2 => U (.nx (ρ.set i (some z))) S2) : W (sAug i op f ρ S) U := by
  unfold sAug; rw [hv]; exact w_bind (w_imp h fun _ _ h => w_bind h)
theorem w_sFldZ {x y : Str} (h : W (g ρ S) fun d S1 => W (f ρ S1) fun o S2 => W (opFldSet x y o d S2) fun _ S3 => U (.nx ρ) S3) : W (sFldZ x y f g ρ S) U := w_bind (w_imp h fun _ _ h => w_bind (w_imp h fun _ _ h => w_bind h))
theorem w_opFldSet {x y : Str} {fs : List (Str × D)} {P : Unit → Sto → Prop} (hn : S[n]? = some (.ins x fs)) (hl : fs.length < 1000) (h : P () (S.set n (.ins x (fPut y d fs)))) : W (opFldSet x y (.ref n) d S) P := w_of (by simp only [opFldSet, hn]; rw [if_pos (by simpa using hl)]) h
/-! ### targets -/
variable {P : Rho → Sto → Prop} {G : D → Rho → M Rho} {Gs : List D → Rho → M Rho}
theorem w_tName (h : P (ρ.set i (some d)) S) : W (tName i d ρ S) P := h
theorem w_tsNil (h : P ρ S) : W (tsNil [] ρ S) P := h
theorem w_tsCons {ds : List D} (h : W (G d ρ S) fun ρ1 S1 => W (Gs ds ρ1 S1) P) : W (tsCons G Gs (d :: ds) ρ S) P := w_bind h
theorem w_tTupZ {ds : List D} (hl : ds.length = n) (h : W (Gs ds ρ S) P) : W (tTupZ n Gs (.tup ds) ρ S) P := by unfold tTupZ; simp only; rw [if_pos hl]; exact h
theorem w_tTupZl {ds : List D} (hl : ds.length = n) (h : W (Gs ds ρ S) P) : W (tTupZ n Gs (.lst ds) ρ S) P := by unfold tTupZ; simp only [seqL]; rw [if_pos hl]; exact h
theorem w_tSub {fo fi : Rho → M D} (h : W (fo ρ S) fun o S1 => W (fi ρ S1) fun i S2 => W (opSet o i d S2) fun _ S3 => P ρ S3) : W (tSub fo fi d ρ S) P := w_bind (w_imp h fun _ _ h => w_bind (w_imp h fun _ _ h => w_bind h))
theorem w_set_l {ds : List D} {n m : Nat} {P : Unit → Sto → Prop} (hn : S[n]? = some (.lst ds)) (hm : m < ds.length) (h : P () (S.set n (.lst (ds.set m d)))) : W (opSet (.ref n) (.int (m : Nat)) d S) P := by
  have e : ixN ds.length (m : Int) = some m := by
    unfold ixN
    rw [if_pos (by omega), if_pos (by omega)]
    simp
  exact w_of (by simp only [opSet, hn, e]) h
theorem w_set_d {ks vs : List D} {n : Nat} {P : Unit → Sto → Prop} (hn : S[n]? = some (.dic false ks vs)) (hk : isKey 8 e = true) (hl : ks.length < 1000000) (h : P () (S.set n (.dic false (dPut ks vs e d).1 (dPut ks vs e d).2))) : W (opSet (.ref n) e d S) P := by
  refine w_of ?_ h
  simp only [opSet, hn]
  rw [if_pos ⟨hk, Nat.lt_of_lt_of_le hl (szL (Nat.le_refl _))⟩]
/-! ### defs -/
theorem w_fn0 {m : Nat} (h : W (u (ds.map some ++ List.replicate m none) S) (fR Q)) : W (fn0 m u ds S) Q := w_bind (w_imp h fun fl S1 h => by
  cases fl with
  | ret d => exact h
  | nx _ => exact h
  | brk _ => exact h.elim
  | cont _ => exact h.elim)
/-! ### walks -/
variable {Z : Src → Sto → Prop}
theorem w_iVal (h : W (f ρ S) fun d S1 => W (srcOf d S1) Z) : W (iVal f ρ S) Z := w_bind h
theorem w_iRng1 (h : W (a ρ S) fun d S1 => W (srcRng1 d S1) Z) : W (iRng1 a ρ S) Z := w_bind h
theorem w_iRng2 (h : W (a ρ S) fun d S1 => W (srcRng2 d S1) Z) : W (iRng2 a ρ S) Z := w_bind h
theorem w_iEnum (h : W (a ρ S) fun d S1 => W (srcEnum d S1) Z) : W (iEnum a ρ S) Z := w_bind h
theorem w_iZip (h : W (a ρ S) fun d S1 => W (srcZip d S1) Z) : W (iZip a ρ S) Z := w_bind h
theorem w_iZipS (h : W (a ρ S) fun d S1 => W (srcZipS d S1) Z) : W (iZipS a ρ S) Z := w_bind h
theorem w_src_t {ds : List D} (h : Z (always ds) S) : W (srcOf (.tup ds) S) Z := h
theorem w_src_l {ds : List D} (h : Z (always ds) S) : W (srcOf (.lst ds) S) Z := h
theorem w_src_w {ds : List D} (h : Z (always ds) S) : W (srcOf (.wl ds) S) Z := h
theorem w_src_s (h : Z (always (signs s)) S) : W (srcOf (.str s) S) Z := h
theorem rng_ok {S : Sto} {n : Nat} (h : n ≤ 1000000) : ∀ j : Int, j = (n : Int) → srcRng1 [.int j] S = .val (always (rangeD n)) S := by
  rintro j rfl
  exact srcRng1_nat h S
theorem w_rng1 (h0 : 0 ≤ x) (h1 : x ≤ 1000000) (h : Z (always (rangeD x.toNat)) S) : W (srcRng1 [.int x] S) Z := by
  exact w_of (rng_ok (n := x.toNat) (by omega) x (by omega)) h
theorem w_rng1n {n : Nat} (h1 : n ≤ 1000000) (h : Z (always (rangeD n)) S) : W (srcRng1 [.int (n : Nat)] S) Z := by
  have e := srcRng1_nat h1 S
  rw [e]
  exact h
theorem w_enum_l {ds : List D} (h : Z ⟨enums ds, fun _ => True⟩ S) : W (srcEnum [.lst ds] S) Z := h
theorem w_enum_w {ds : List D} (h : Z ⟨enums ds, fun _ => True⟩ S) : W (srcEnum [.wl ds] S) Z := h
theorem w_zip_l {a b : List D} (h : Z ⟨zips a b, fun _ => True ∧ True⟩ S) : W (srcZip [.lst a, .lst b] S) Z := h
theorem w_zip_t {a b : List D} (h : Z (always (zips a b)) S) : W (srcZip [.tup a, .tup b] S) Z := h
theorem w_zipS_l {a b : List D} (hl : a.length = b.length) (h : Z ⟨zips a b, fun _ => True ∧ True⟩ S) : W (srcZipS [.lst a, .lst b] S) Z := w_of (by simp only [srcZipS, lstSrc_lst]; rw [if_pos (show (always a).items.length = (always b).items.length from hl)]; rfl) h
theorem w_sFor {b : Rho → M Fl} {I : Rho → M Src} (h : W (I ρ S) fun s S1 => W (forL s.ok G b s.items ρ S1) U) : W (sFor I G b ρ S) U := w_bind h
/-- a for by what stays true, turn by turn -/
theorem w_forL {ok : Sto → Prop} {b : Rho → M Fl} (J : Nat → Rho → Sto → Prop) {ds0 : List D} (h0 : J 0 ρ S) (hok : ∀ k ρ S, J k ρ S → ok S)
    (step : ∀ k d ρ S, ds0[k]? = some d → J k ρ S → W (G d ρ S) fun ρ1 S1 => W (b ρ1 S1) (fT (J (k + 1)) U))
    (fin : ∀ ρ S, J ds0.length ρ S → U (.nx ρ) S) : W (forL ok G b ds0 ρ S) U := by
  have main : ∀ (ds : List D) (k : Nat) (ρ : Rho) (S : Sto), ds0.drop k = ds → k ≤ ds0.length → J k ρ S → W (forL ok G b ds ρ S) U := by
    intro ds
    induction ds with
    | nil =>
      intro k ρ S hd hk hJ
      unfold forL
      rw [guard_of (hok k ρ S hJ)]
      have : k = ds0.length := by
        have := congrArg List.length hd
        rw [List.length_drop, List.length_nil] at this
        omega
      subst this
      exact fin ρ S hJ
    | cons d ds ih =>
      intro k ρ S hd hk hJ
      have hk2 : ds0[k]? = some d := by
        have : (ds0.drop k)[0]? = some d := by rw [hd]; rfl
        rw [List.getElem?_drop] at this
        exact this
      have hd' : ds0.drop (k + 1) = ds := by rw [← List.drop_drop, hd]; rfl
      have hl := (List.getElem?_eq_some_iff.mp hk2).1
      unfold forL
      rw [guard_of (hok k ρ S hJ)]
      refine w_bind (w_imp (step k d ρ S hk2 hJ) fun ρ1 S1 h => w_bind (w_imp h fun fl S2 h => ?_))
      cases fl with
      | nx ρ2 => exact ih (k + 1) ρ2 S2 hd' hl h
      | cont ρ2 => exact ih (k + 1) ρ2 S2 hd' hl h
      | brk ρ2 => exact h
      | ret d => exact h
  exact main ds0 0 ρ S rfl (Nat.zero_le _) h0
/-- a while by what stays true, with a bound that falls -/
theorem w_sWhile {b : Rho → M Fl} (J : Nat → Rho → Sto → Prop) {n : Nat} (h0 : J n ρ S)
    (step : ∀ k ρ S, J k ρ S → W (c ρ S) fun q S1 => cnd q (W (b ρ S1) (fT (fun ρ2 S2 => ∃ m, m < k ∧ J m ρ2 S2) U)) (U (.nx ρ) S1)) : W (sWhile c b ρ S) U := by
  induction n using Nat.strongRecOn generalizing ρ S with
  | ind n ih =>
    rw [sWhile_eq]
    refine w_bind (w_imp (step n ρ S h0) fun q S1 h => ?_)
    cases q with
    | false => rw [if_neg (by simp)]; exact h.2 rfl
    | true =>
      rw [if_pos rfl]
      refine w_bind (w_imp (h.1 rfl) fun fl S2 h => ?_)
      cases fl with
      | nx ρ2 => obtain ⟨m, hm, hJ⟩ := h; exact ih m hm hJ
      | cont ρ2 => obtain ⟨m, hm, hJ⟩ := h; exact ih m hm hJ
      | brk ρ2 => exact h
      | ret d => exact h
/-! ### comprehensions -/
theorem w_noX {β : Type} {m : M β} {Q : β → Sto → Prop} (h : W (m S) Q) : W (noX m S) Q := by
  obtain ⟨b, S', e, q⟩ := w_to h
  unfold noX
  rw [e]
  exact q
theorem w_eFin {F : List D → M D} {m : Rho → M (List D)} (h : W (m ρ S) fun ds S1 => W (F ds S1) Q) : W (eFin F m ρ S) Q := w_bind h
theorem w_finL {ds : List D} (h : Q (.lst ds) S) : W (finL ds S) Q := h
theorem w_finC {ds : List D} (h : Q (.ref S.length) (S ++ [.lst ds])) : W (finC ds S) Q := h
theorem w_finD {p : KD} (h : Q (.dic p.1 p.2) S) : W (finD p S) Q := h
theorem w_finDC {p : KD} (h : Q (.ref S.length) (S ++ [.dic false p.1 p.2])) : W (finDC p S) Q := h
theorem w_eComp {I : Rho → M Src} {own : List Nat} (h : W (I ρ S) fun s S1 => s.items.length ≤ 1000000 ∧ W (compL s.ok G c f (wipeR ρ own) s.items S1) T) : W (eComp I own G c f ρ S) T := w_bind (w_imp h fun s S1 ⟨h1, h2⟩ => by rw [if_pos (szL h1)]; exact h2)
/-- a comprehension by what stays true, turn by turn -/
theorem w_compL {ok : Sto → Prop} {ds0 : List D} (J : Nat → List D → Sto → Prop) (h0 : J 0 [] S) (hok : ∀ k acc S, J k acc S → ok S)
    (step : ∀ k d acc S, ds0[k]? = some d → J k acc S → W (G d ρ S) fun ρ1 S1 => W (c ρ1 S1) fun q S2 => cnd q (W (f ρ1 S2) fun y S3 => J (k + 1) (acc ++ [y]) S3) (J (k + 1) acc S2))
    (fin : ∀ acc S, J ds0.length acc S → T acc S) : W (compL ok G c f ρ ds0 S) T := by
  have main : ∀ (ds : List D) (k : Nat) (acc : List D) (S : Sto), ds0.drop k = ds → k ≤ ds0.length → J k acc S → W (compL ok G c f ρ ds S) fun ys S' => T (acc ++ ys) S' := by
    intro ds
    induction ds with
    | nil =>
      intro k acc S hd hk hJ
      unfold compL
      rw [guard_of (hok k acc S hJ)]
      have : k = ds0.length := by
        have := congrArg List.length hd
        rw [List.length_drop, List.length_nil] at this
        omega
      subst this
      show T (acc ++ []) S
      rw [List.append_nil]
      exact fin acc S hJ
    | cons d ds ih =>
      intro k acc S hd hk hJ
      have hk2 : ds0[k]? = some d := by
        have : (ds0.drop k)[0]? = some d := by rw [hd]; rfl
        rw [List.getElem?_drop] at this
        exact this
      have hd' : ds0.drop (k + 1) = ds := by rw [← List.drop_drop, hd]; rfl
      have hl := (List.getElem?_eq_some_iff.mp hk2).1
      unfold compL
      rw [guard_of (hok k acc S hJ)]
      refine w_bind (w_noX (w_imp (step k d acc S hk2 hJ) fun ρ1 S1 h => w_bind (w_noX (w_imp h fun q S2 h => ?_))))
      cases q with
      | true =>
        rw [if_pos rfl]
        refine w_bind (w_noX (w_imp (h.1 rfl) fun y S3 h => w_bind (w_imp (ih (k + 1) (acc ++ [y]) S3 hd' hl h) fun ys S4 h => ?_)))
        rw [List.append_assoc] at h
        exact h
      | false =>
        rw [if_neg (by simp)]
        exact ih (k + 1) acc S2 hd' hl (h.2 rfl)
  have := main ds0 0 [] S rfl (Nat.zero_le _) h0
  simpa using this
/-- one that writes nothing -/
theorem w_comp0 {ok : Sto → Prop} {ds0 : List D} (F : D → D) (p : D → Bool) (hok : ok S)
    (step : ∀ d ∈ ds0, W (G d ρ S) fun ρ1 S1 => W (c ρ1 S1) fun q S2 => q = p d ∧ cnd q (W (f ρ1 S2) fun y S3 => y = F d ∧ S3 = S) (S2 = S))
    (fin : T ((ds0.filter p).map F) S) : W (compL ok G c f ρ ds0 S) T := by
  refine w_compL (fun k acc S' => S' = S ∧ acc = ((ds0.take k).filter p).map F) ⟨rfl, rfl⟩ (fun k acc S' h => by rw [h.1]; exact hok) ?_ ?_
  · rintro k d acc S' hk ⟨rfl, rfl⟩
    refine w_imp (step d (List.mem_of_getElem? hk)) fun ρ1 S1 h => w_imp h fun q S2 ⟨e, h⟩ => ?_
    have ht : ds0.take (k + 1) = ds0.take k ++ [d] := by rw [List.take_succ, hk]; rfl
    subst e
    refine ⟨fun e => w_imp (h.1 e) fun y S3 ⟨e1, e2⟩ => ⟨e2, ?_⟩, fun e => ⟨h.2 e, ?_⟩⟩
    · rw [ht, List.filter_append, List.map_append, e1]
      simp [e]
    · rw [ht, List.filter_append, List.map_append]
      simp [e]
  · rintro acc S' ⟨rfl, rfl⟩
    rw [List.take_length]
    exact fin
/-- one that writes nothing, of all -/
theorem w_comp1 {ok : Sto → Prop} {ds0 : List D} (F : D → D) (hok : ok S)
    (step : ∀ d ∈ ds0, W (G d ρ S) fun ρ1 S1 => W (f ρ1 S1) fun y S3 => y = F d ∧ S3 = S)
    (fin : T (ds0.map F) S) : W (compL ok G bYes f ρ ds0 S) T := by
  refine w_comp0 F (fun _ => true) hok (fun d hd => w_imp (step d hd) fun ρ1 S1 h => w_bYes ⟨rfl, cnd_true h⟩) ?_
  rw [List.filter_eq_self.mpr fun _ _ => rfl]
  exact fin
/-- one of parts that each are so; what stays true of the store -/
theorem w_compP {β : Type} {ok : Sto → Prop} {ds0 : List D} (F : β → D) (Pr : D → β → Prop) (J : Sto → Prop) (hok : ∀ S, J S → ok S) (hJ : J S)
    (step : ∀ d ∈ ds0, ∀ S, J S → W (G d ρ S) fun ρ1 S1 => W (f ρ1 S1) fun y S2 => J S2 ∧ ∃ x, y = F x ∧ Pr d x)
    (fin : ∀ (l : List β) S, J S → l.length = ds0.length → (∀ x ∈ l, ∃ d ∈ ds0, Pr d x) → T (l.map F) S) : W (compL ok G bYes f ρ ds0 S) T := by
  refine w_compL (fun k acc S' => J S' ∧ k ≤ ds0.length ∧ ∃ l : List β, acc = l.map F ∧ l.length = k ∧ ∀ x ∈ l, ∃ d ∈ ds0, Pr d x) ⟨hJ, Nat.zero_le _, [], rfl, rfl, fun x hx => nomatch hx⟩ (fun k acc S h => hok S h.1) ?_ ?_
  · rintro k d acc S' hk ⟨hj, hkl, l, rfl, hl, hm⟩
    refine w_imp (step d (List.mem_of_getElem? hk) S' hj) fun ρ1 S1 h => w_bYes (cnd_true (w_imp h ?_))
    rintro y S2 ⟨hj2, x, rfl, hx⟩
    refine ⟨hj2, (List.getElem?_eq_some_iff.mp hk).1, l ++ [x], by simp, by simp [hl], fun z hz => ?_⟩
    rcases List.mem_append.mp hz with hz | hz
    · exact hm z hz
    · simp at hz; subst hz; exact ⟨d, List.mem_of_getElem? hk, hx⟩
  · rintro acc S' ⟨hj, _, l, rfl, hl, hm⟩
    exact fin l S' hj hl hm
theorem cutL_mem {β : Type} {xs : List β} {lo hi : Option Int} {x : β} (h : x ∈ cutL xs lo hi) : x ∈ xs := List.mem_of_mem_drop (List.mem_of_mem_take h)
theorem cutL_len {β : Type} {xs : List β} {lo hi : Option Int} : (cutL xs lo hi).length ≤ xs.length := by
  unfold cutL
  rw [List.length_take, List.length_drop]
  omega
theorem cutL_map {β δ : Type} {xs : List β} {lo hi : Option Int} {F : β → δ} : cutL (xs.map F) lo hi = (cutL xs lo hi).map F := by
  unfold cutL
  rw [List.length_map, ← List.map_drop, ← List.map_take]
theorem cutL_drop {β : Type} {xs : List β} {n : Nat} : cutL xs (some (n : Int)) none = xs.drop n := by
  unfold cutL HT.sIx
  simp only
  rw [if_neg (by omega)]
  by_cases h : n ≤ xs.length
  · rw [show min ((n : Int).toNat) xs.length = n by omega, List.take_of_length_le (by rw [List.length_drop]; omega)]
  · rw [show min ((n : Int).toNat) xs.length = xs.length by omega, List.drop_of_length_le (Nat.le_refl _), List.drop_of_length_le (by omega), List.take_nil]
theorem cutL_take {β : Type} {xs : List β} {n : Nat} : cutL xs none (some (n : Int)) = xs.take n := by
  unfold cutL HT.sIx
  simp only
  rw [if_neg (by omega), List.drop_zero, Nat.sub_zero]
  by_cases h : n ≤ xs.length
  · rw [show min ((n : Int).toNat) xs.length = n by omega]
  · rw [show min ((n : Int).toNat) xs.length = xs.length by omega, List.take_of_length_le (Nat.le_refl _), List.take_of_length_le (by omega)]
/-- all of some, each of which is so -/
theorem w_allT {ok : Sto → Prop} {ds0 : List D} (J : Sto → Prop) (hok : ∀ S, J S → ok S) (hJ : J S)
    (step : ∀ d ∈ ds0, ∀ S, J S → W (G d ρ S) fun ρ1 S1 => W (f ρ1 S1) fun y S2 => J S2 ∧ y = .bl true)
    (fin : ∀ S, J S → T (List.replicate ds0.length (.bl true)) S) : W (compL ok G bYes f ρ ds0 S) T := by
  refine w_compP (β := Unit) (fun _ => .bl true) (fun _ _ => True) J hok hJ (fun d hd S hS => w_imp (step d hd S hS) fun ρ1 S1 h => w_imp h fun y S2 ⟨h1, h2⟩ => ⟨h1, (), h2, True.intro⟩) fun l S hS hl _ => ?_
  have := fin S hS
  rw [← hl] at this
  have e : l.map (fun _ => D.bl true) = List.replicate l.length (D.bl true) := by
    clear this hl ‹∀ x ∈ l, ∃ d ∈ ds0, True›
    induction l with
    | nil => rfl
    | cons x r ih => rw [List.map_cons, ih]; rfl
  rw [e]
  exact this
theorem w_allR {n : Nat} (h : Q (.bl true) S) : W (bAll [.lst (List.replicate n (.bl true))] S) Q := by
  have : List.replicate n (D.bl true) = (List.replicate n true).map D.bl := by rw [List.map_replicate]
  rw [this]
  refine w_all ?_
  have e : (List.replicate n true).all id = true := by
    rw [List.all_eq_true]
    intro x hx
    have := List.eq_of_mem_replicate hx
    subst this
    rfl
  rw [e]
  exact h
theorem w_eGath {γ β : Type} {I : Rho → M Src} {own : List Nat} {b : Rho → γ → M γ} {acc0 : γ} {F : γ → M β} {V : β → Sto → Prop} (h : W (I ρ S) fun s S1 => s.items.length ≤ 1000000 ∧ W (compG s.ok G c b (wipeR ρ own) s.items acc0 S1) fun a S2 => W (F a S2) V) : W (eGath I own G c b acc0 F ρ S) V :=
  w_bind (w_imp h fun s S1 ⟨h1, h2⟩ => by rw [if_pos (szL h1)]; exact w_bind h2)
theorem w_compG {γ : Type} {ok : Sto → Prop} {ds0 : List D} {b : Rho → γ → M γ} {acc0 : γ} {V : γ → Sto → Prop} (J : Nat → γ → Sto → Prop) (h0 : J 0 acc0 S) (hok : ∀ k acc S, J k acc S → ok S)
    (step : ∀ k d acc S, ds0[k]? = some d → J k acc S → W (G d ρ S) fun ρ1 S1 => W (c ρ1 S1) fun q S2 => cnd q (W (b ρ1 acc S2) (J (k + 1))) (J (k + 1) acc S2))
    (fin : ∀ acc S, J ds0.length acc S → V acc S) : W (compG ok G c b ρ ds0 acc0 S) V := by
  have main : ∀ (ds : List D) (k : Nat) (acc : γ) (S : Sto), ds0.drop k = ds → k ≤ ds0.length → J k acc S → W (compG ok G c b ρ ds acc S) V := by
    intro ds
    induction ds with
    | nil =>
      intro k acc S hd hk hJ
      unfold compG
      rw [guard_of (hok k acc S hJ)]
      have : k = ds0.length := by
        have := congrArg List.length hd
        rw [List.length_drop, List.length_nil] at this
        omega
      subst this
      exact fin acc S hJ
    | cons d ds ih =>
      intro k acc S hd hk hJ
      have hk2 : ds0[k]? = some d := by
        have : (ds0.drop k)[0]? = some d := by rw [hd]; rfl
        rw [List.getElem?_drop] at this
        exact this
      have hd' : ds0.drop (k + 1) = ds := by rw [← List.drop_drop, hd]; rfl
      have hl := (List.getElem?_eq_some_iff.mp hk2).1
      unfold compG
      rw [guard_of (hok k acc S hJ)]
      refine w_bind (w_noX (w_imp (step k d acc S hk2 hJ) fun ρ1 S1 h => w_bind (w_noX (w_imp h fun q S2 h => ?_))))
      cases q with
      | true =>
        rw [if_pos rfl]
        exact w_bind (w_noX (w_imp (h.1 rfl) fun y S3 h => ih (k + 1) y S3 hd' hl h))
      | false =>
        rw [if_neg (by simp)]
        exact ih (k + 1) acc S2 hd' hl (h.2 rfl)
  exact main ds0 0 acc0 S rfl (Nat.zero_le _) h0
theorem w_bDic {fk fv : Rho → M D} {p : KD} {V : KD → Sto → Prop} (h : W (fk ρ S) fun k S1 => W (fv ρ S1) fun v S2 => isKey 8 k = true ∧ p.1.length < 1000000 ∧ V (dPut p.1 p.2 k v) S2) : W (bDic fk fv ρ p S) V :=
  w_bind (w_imp h fun k S1 h => w_bind (w_imp h fun v S2 ⟨h1, h2, h3⟩ => by rw [if_pos ⟨h1, Nat.lt_of_lt_of_le h2 (szL (Nat.le_refl _))⟩]; exact h3))
theorem w_bLst {e : Rho → M D} {acc : List D} {V : List D → Sto → Prop} (h : W (e ρ S) fun y S1 => acc.length < 1000000 ∧ V (acc ++ [y]) S1) : W (bLst e ρ acc S) V :=
  w_bind (w_imp h fun y S1 ⟨h1, h2⟩ => by rw [if_pos (Nat.lt_of_lt_of_le h1 (szL (Nat.le_refl _)))]; exact h2)
theorem w_bIn {I : Rho → M Src} {vs : List Nat} {acc : List D} {V : List D → Sto → Prop} (h : W (I ρ S) fun s S1 => W (compG s.ok G c (bLst f) (wipeR ρ vs) s.items acc S1) V) : W (bIn I vs G c f ρ acc S) V := w_bind h
end
def augQ (i : Nat) (z : D) (ρ : Rho) (U : Fl → Sto → Prop) (S : Sto) : Prop := U (.nx (ρ.set i (some z))) S
def compQ (own : List Nat) (G : D → Rho → M Rho) (c : Rho → M Bool) (f : Rho → M D) (ρ : Rho) (T : List D → Sto → Prop) (s : Src) (S : Sto) : Prop := s.items.length ≤ 1000000 ∧ W (compL s.ok G c f (wipeR ρ own) s.items S) T
theorem w_eCompQ {ρ : Rho} {S : Sto} {G : D → Rho → M Rho} {c : Rho → M Bool} {f : Rho → M D} {T : List D → Sto → Prop} {I : Rho → M Src} {own : List Nat} (h : W (I ρ S) (compQ own G c f ρ T)) : W (eComp I own G c f ρ S) T := w_eComp (w_imp h fun _ _ h => h)
def gathQ {γ β : Type} (own : List Nat) (G : D → Rho → M Rho) (c : Rho → M Bool) (b : Rho → γ → M γ) (acc0 : γ) (F : γ → M β) (ρ : Rho) (V : β → Sto → Prop) (s : Src) (S : Sto) : Prop := s.items.length ≤ 1000000 ∧ W (compG s.ok G c b (wipeR ρ own) s.items acc0 S) fun a S2 => W (F a S2) V
theorem w_eGathQ {γ β : Type} {ρ : Rho} {S : Sto} {G : D → Rho → M Rho} {c : Rho → M Bool} {I : Rho → M Src} {own : List Nat} {b : Rho → γ → M γ} {acc0 : γ} {F : γ → M β} {V : β → Sto → Prop} (h : W (I ρ S) (gathQ own G c b acc0 F ρ V)) : W (eGath I own G c b acc0 F ρ S) V := w_eGath (w_imp h fun _ _ h => h)
def inQ (vs : List Nat) (G : D → Rho → M Rho) (c : Rho → M Bool) (f : Rho → M D) (ρ : Rho) (ds : List D) (T : List D → Sto → Prop) (s : Src) (S : Sto) : Prop := W (compG s.ok G c (bLst f) (wipeR ρ vs) s.items ds S) T
theorem w_bInQ {ρ : Rho} {S : Sto} {G : D → Rho → M Rho} {c : Rho → M Bool} {f : Rho → M D} {T : List D → Sto → Prop} {I : Rho → M Src} {vs : List Nat} {ds : List D} (h : W (I ρ S) (inQ vs G c f ρ ds T)) : W (bIn I vs G c f ρ ds S) T := w_bIn (w_imp h fun _ _ h => h)
def forQ (G : D → Rho → M Rho) (b : Rho → M Fl) (ρ : Rho) (U : Fl → Sto → Prop) (s : Src) (S : Sto) : Prop := W (forL s.ok G b s.items ρ S) U
theorem w_forQ {G : D → Rho → M Rho} {b : Rho → M Fl} {ρ : Rho} {U : Fl → Sto → Prop} {ds : List D} {ok : Sto → Prop} {S : Sto} (h : W (forL ok G b ds ρ S) U) : forQ G b ρ U ⟨ds, ok⟩ S := h
/-! ### the rules, found by what is to be run -/
/-- P is enough for G -/
class Ru (G : Prop) (P : outParam Prop) : Prop where
  use : P → G
class GetAt (ρ : Rho) (i : Nat) (d : outParam D) : Prop where
  at_ : ρ[i]? = some (some d)
class SetAt (ρ : Rho) (i : Nat) (v : Option D) (ρ' : outParam Rho) : Prop where
  eq : ρ.set i v = ρ'
class WipeAt (ρ : Rho) (vs : List Nat) (ρ' : outParam Rho) : Prop where
  eq : wipeR ρ vs = ρ'
class EnvOf (ds : List D) (m : Nat) (ρ : outParam Rho) : Prop where
  eq : ds.map some ++ List.replicate m none = ρ
/-- a side, and what goes on -/
def side (a b : Prop) : Prop := a ∧ b
theorem side_i {a b : Prop} (x : a) (y : b) : side a b := ⟨x, y⟩
section
variable {x : Option D} {r r' ρ ρ1 ρ' : Rho} {i m : Nat} {d : D} {ds : List D} {v : Option D} {vs : List Nat}
instance : GetAt (some d :: r) 0 d := ⟨rfl⟩
instance [h : GetAt r i d] : GetAt (x :: r) (i + 1) d := ⟨h.at_⟩
instance : SetAt (x :: r) 0 v (v :: r) := ⟨rfl⟩
instance [h : SetAt r i v r'] : SetAt (x :: r) (i + 1) v (x :: r') := ⟨by rw [List.set_cons_succ, h.eq]⟩
instance : WipeAt ρ [] ρ := ⟨rfl⟩
instance {j : Nat} [h : WipeAt ρ vs ρ1] [g : SetAt ρ1 j none ρ'] : WipeAt ρ (j :: vs) ρ' := ⟨by rw [wipeR, h.eq, g.eq]⟩
class AtL (ds : List D) (x : Int) (d : outParam D) : Prop where
  at_ : atI ds x = some d
section
variable {a b c d : D} {l : List D}
instance : AtL (a :: l) 0 a := ⟨by simp⟩
instance : AtL (a :: b :: l) 1 b := ⟨by simp⟩
instance : AtL (a :: b :: c :: l) 2 c := ⟨by simp⟩
instance : AtL (a :: b :: c :: d :: l) 3 d := ⟨atI_nat _ 3⟩
end
instance : EnvOf [] 0 [] := ⟨rfl⟩
instance [h : EnvOf [] m r] : EnvOf [] (m + 1) (none :: r) := ⟨by have := h.eq; simp only [List.map_nil, List.nil_append] at this ⊢; rw [List.replicate_succ, this]⟩
instance [h : EnvOf ds m r] : EnvOf (d :: ds) m (some d :: r) := ⟨by rw [List.map_cons, List.cons_append, h.eq]⟩
end
section
variable {ρ ρ' ρ2 ρ3 : Rho} {S S' : Sto} {d e r : D} {ds : List D} {f g f1 f2 : Rho → M D} {a : Rho → M (List D)} {c c1 c2 : Rho → M Bool} {op : D → D → M D} {i j l n m : Nat} {Q : D → Sto → Prop} {R : Bool → Sto → Prop} {T : List D → Sto → Prop} {G : D → Rho → M Rho} {Gs : List D → Rho → M Rho}
variable {k : Rho → Sto → Prop} {U : Fl → Sto → Prop} {u v : Rho → M Fl} {P : Rho → Sto → Prop} {x y : Int} {s t : Str} {p q : Bool} {Z : Src → Sto → Prop} {A B : Prop} {O : Option Int → Sto → Prop}
instance ru1  [h : GetAt ρ i d] : Ru (W (eVar i ρ S) Q) (Q d S) := ⟨w_eVar h.at_⟩
instance ru2   : Ru (W (eC d ρ S) Q) (Q d S) := ⟨w_eC⟩
instance ru3   : Ru (W (eOp op f g ρ S) Q) (W (f ρ S) fun x S1 => W (g ρ S1) fun y S2 => W (op x y S2) Q) := ⟨w_eOp⟩
instance ru4 {o : D → M D}  : Ru (W (eUn o f ρ S) Q) (W (f ρ S) fun x S1 => W (o x S1) Q) := ⟨w_eUn⟩
instance ru5   : Ru (W (eIf c f1 f2 ρ S) Q) (W (c ρ S) fun q S1 => cnd q (W (f1 ρ S1) Q) (W (f2 ρ S1) Q)) := ⟨w_eIf⟩
instance ru6   : Ru (W (bAnd c1 c2 ρ S) R) (W (c1 ρ S) fun q S1 => cnd q (W (c2 ρ S1) R) (R false S1)) := ⟨w_bAnd⟩
instance ru7   : Ru (W (bOr c1 c2 ρ S) R) (W (c1 ρ S) fun q S1 => cnd q (R true S1) (W (c2 ρ S1) R)) := ⟨w_bOr⟩
instance ru8   : Ru (W (bNot c ρ S) R) (W (c ρ S) fun q S1 => R (!q) S1) := ⟨w_bNot⟩
instance ru9   : Ru (W (isBl (.bl p) S) R) (R p S) := ⟨w_isBl⟩
instance ru10   : Ru (W (bVal f ρ S) R) (W (f ρ S) fun x S1 => W (isBl x S1) R) := ⟨w_bVal⟩
instance ru11   : Ru (W (eAnd f g ρ S) Q) (W (f ρ S) fun x S1 => W (isBl x S1) fun q S2 => cnd q (W (g ρ S2) Q) (Q (.bl false) S2)) := ⟨w_eAnd⟩
instance ru12   : Ru (W (eOr f g ρ S) Q) (W (f ρ S) fun x S1 => W (isBl x S1) fun q S2 => cnd q (Q (.bl true) S2) (W (g ρ S2) Q)) := ⟨w_eOr⟩
instance ru13   : Ru (W (eOrT f g ρ S) Q) (W (f ρ S) fun x S1 => W (opTru x S1) fun q S2 => cnd q (Q x S2) (W (g ρ S2) Q)) := ⟨w_eOrT⟩
instance ru14   : Ru (W (eNot f ρ S) Q) (W (f ρ S) fun x S1 => W (isBl x S1) fun q S2 => Q (.bl (!q)) S2) := ⟨w_eNot⟩
instance ru15   : Ru (W (aNil ρ S) T) (T [] S) := ⟨w_aNil⟩
instance ru16   : Ru (W (aCons f a ρ S) T) (W (f ρ S) fun x S1 => W (a ρ S1) fun xs S2 => T (x :: xs) S2) := ⟨w_aCons⟩
instance ru17   : Ru (W (eTup a ρ S) Q) (W (a ρ S) fun xs S1 => Q (.tup xs) S1) := ⟨w_eTup⟩
instance ru18   : Ru (W (eLst a ρ S) Q) (W (a ρ S) fun xs S1 => Q (.lst xs) S1) := ⟨w_eLst⟩
instance ru19   : Ru (W (eCel a ρ S) Q) (W (a ρ S) fun xs S1 => Q (.ref S1.length) (S1 ++ [.lst xs])) := ⟨w_eCel⟩
instance ru20   : Ru (W (eDcV ρ S) Q) (Q (.dic [] []) S) := ⟨w_eDcV⟩
instance ru21   : Ru (W (eDcC ρ S) Q) (Q (.ref S.length) (S ++ [.dic false [] []])) := ⟨w_eDcC⟩
instance ru22   : Ru (W (oNone ρ S) O) (O none S) := ⟨w_oNone⟩
instance ru23   : Ru (W (oInt (.int x) S) O) (O (some x) S) := ⟨w_oInt⟩
instance ru24   : Ru (W (oSome f ρ S) O) (W (f ρ S) fun x S1 => W (oInt x S1) O) := ⟨w_oSome⟩
instance ru25 {lo hi : Rho → M (Option Int)}  : Ru (W (eSl f lo hi ρ S) Q) (W (f ρ S) fun x S1 => W (lo ρ S1) fun l S2 => W (hi ρ S2) fun u S3 => W (opSl x l u S3) Q) := ⟨w_eSl⟩
instance ru26 {F : List D → M D}  : Ru (W (eCall F a ρ S) Q) (W (a ρ S) fun ds S1 => W (F ds S1) Q) := ⟨w_eCall⟩
instance ru27 {ts : List String}  : Ru (W (eIsi ts f ρ S) Q) (W (f ρ S) fun d S1 => tyQ ts d Q S1) := ⟨w_eIsi⟩
instance ru28 {ok : Sto → D → Bool} {mt : D → List D → M D}  : Ru (W (eMth ok mt f a ρ S) Q) (W (f ρ S) fun o S1 => side (ok S1 o = true) (W (a ρ S1) fun ds S2 => W (mt o ds S2) Q)) := ⟨fun h => w_eMth h⟩
instance ru29 {c0 f0 : Str}  : Ru (W (eFld c0 f0 f ρ S) Q) (W (f ρ S) fun o S1 => W (opFld c0 f0 o S1) Q) := ⟨w_eFld⟩
instance ru30 {c0 f0 : Str} {F : List D → M D}  : Ru (W (eMeth c0 f0 F f a ρ S) Q) (W (f ρ S) fun o S1 => metQ c0 f0 o S1 (W (a ρ S1) fun ds S2 => W (F (o :: ds) S2) Q)) := ⟨w_eMeth⟩
instance ru31 {c0 : Str} {F : List D → M D}  : Ru (W (eMake c0 F a ρ S) Q) (W (a ρ S) fun ds S1 => W (F (.ref S1.length :: ds) (S1 ++ [.ins c0 []])) fun v S2 => v = .non ∧ Q (.ref S1.length) S2) := ⟨w_eMake⟩
instance ru32   : Ru (W (bYes ρ S) R) (R true S) := ⟨w_bYes⟩
instance ru33   : Ru (W (opAdd (.int x) (.int y) S) Q) (Q (.int (x + y)) S) := ⟨w_add_i⟩
instance ru34 {a1 a2 : List D}  : Ru (W (opAdd (.tup a1) (.tup a2) S) Q) (side (a1.length + a2.length ≤ 1000000) (Q (.tup (a1 ++ a2)) S)) := ⟨fun h => w_add_t h.1 h.2⟩
instance ru35 {a1 a2 : List D}  : Ru (W (opAdd (.lst a1) (.lst a2) S) Q) (side (a1.length + a2.length ≤ 1000000) (Q (.lst (a1 ++ a2)) S)) := ⟨fun h => w_add_l h.1 h.2⟩
instance ru36   : Ru (W (opSub (.int x) (.int y) S) Q) (Q (.int (x - y)) S) := ⟨w_sub_i⟩
instance ru37   : Ru (W (opMul (.int x) (.int y) S) Q) (side (mulOk x y = true) (Q (.int (x * y)) S)) := ⟨fun h => w_mul_i h.1 h.2⟩
instance ru38   : Ru (W (opDiv (.int x) (.int y) S) Q) (side (0 < y ∧ y < 2 ^ 64) (Q (.int (x / y)) S)) := ⟨fun h => w_div_i h.1.1 h.1.2 h.2⟩
instance ru39   : Ru (W (opMod (.int x) (.int y) S) Q) (side (0 < y) (Q (.int (x % y)) S)) := ⟨fun h => w_mod_i h.1 h.2⟩
instance ru40   : Ru (W (opNeg (.int x) S) Q) (Q (.int (-x)) S) := ⟨w_neg_i⟩
instance ru41   : Ru (W (opLt (.int x) (.int y) S) Q) (Q (.bl (decide (x < y))) S) := ⟨w_lt_i⟩
instance ru42   : Ru (W (opLe (.int x) (.int y) S) Q) (Q (.bl (decide (x ≤ y))) S) := ⟨w_le_i⟩
instance ru43   : Ru (W (opGt (.int x) (.int y) S) Q) (Q (.bl (decide (y < x))) S) := ⟨w_gt_i⟩
instance ru44   : Ru (W (opGe (.int x) (.int y) S) Q) (Q (.bl (decide (y ≤ x))) S) := ⟨w_ge_i⟩
instance ru45   : Ru (W (opEq (.int x) (.int y) S) Q) (Q (.bl (decide (x = y))) S) := ⟨w_eq_i⟩
instance ru46   : Ru (W (opEq (.str s) (.str t) S) Q) (Q (.bl (decide (s = t))) S) := ⟨w_eq_s⟩
instance ru47   : Ru (W (opEq (.bl p) (.bl q) S) Q) (Q (.bl (decide (p = q))) S) := ⟨w_eq_b⟩
instance ru48   : Ru (W (opEq .non .non S) Q) (Q (.bl true) S) := ⟨w_eq_nn⟩
instance ru49   : Ru (W (opEq .non (.str s) S) Q) (Q (.bl false) S) := ⟨w_eq_ns⟩
instance ru50   : Ru (W (opEq (.str s) .non S) Q) (Q (.bl false) S) := ⟨w_eq_sn⟩
instance ru51   : Ru (W (opEq (.int x) (.str s) S) Q) (Q (.bl false) S) := ⟨w_eq_is⟩
instance ru52   : Ru (W (opEq (.str s) (.int x) S) Q) (Q (.bl false) S) := ⟨w_eq_si⟩
instance ru53   : Ru (W (opEq .non (.int x) S) Q) (Q (.bl false) S) := ⟨w_eq_ni⟩
instance ru54   : Ru (W (opEq (.int x) .non S) Q) (Q (.bl false) S) := ⟨w_eq_in⟩
instance ru55   : Ru (W (opNe (.int x) (.int y) S) Q) (Q (.bl (!decide (x = y))) S) := ⟨w_ne_i⟩
instance ru56   : Ru (W (opNe (.str s) (.str t) S) Q) (Q (.bl (!decide (s = t))) S) := ⟨w_ne_s⟩
instance ru57   : Ru (W (opNe (.bl p) (.bl q) S) Q) (Q (.bl (!decide (p = q))) S) := ⟨w_ne_b⟩
instance ru58   : Ru (W (opIs d .non S) Q) (Q (.bl (isNon d)) S) := ⟨w_is_n⟩
instance ru59   : Ru (W (opIsNot d .non S) Q) (Q (.bl (!isNon d)) S) := ⟨w_isNot_n⟩
instance ru60 {lo hi : Option Int}  : Ru (W (opSl (.tup ds) lo hi S) Q) (Q (.tup (cutL ds lo hi)) S) := ⟨w_sl_t⟩
instance ru61 {lo hi : Option Int}  : Ru (W (opSl (.lst ds) lo hi S) Q) (Q (.lst (cutL ds lo hi)) S) := ⟨w_sl_l⟩
instance ru62 {lo hi : Option Int}  : Ru (W (opSl (.wl ds) lo hi S) Q) (Q (.lst (cutL ds lo hi)) S) := ⟨w_sl_w⟩
instance ru63   : Ru (W (bTuple [.lst ds] S) Q) (Q (.tup ds) S) := ⟨w_tuple_l⟩
instance ru64   : Ru (W (bTuple [.tup ds] S) Q) (Q (.tup ds) S) := ⟨w_tuple_t⟩
instance ru65   : Ru (W (bInt [.bl p] S) Q) (Q (.int (if p = true then 1 else 0)) S) := ⟨w_int_b⟩
instance ru66   : Ru (W (bInt [.int x] S) Q) (Q (.int x) S) := ⟨w_int_i⟩
instance ru67   : Ru (W (bAbs [.int x] S) Q) (Q (.int (if x < 0 then -x else x)) S) := ⟨w_abs_i⟩
instance ru68 {vs : List D}  : Ru (W (bLen [.dic ds vs] S) Q) (Q (.int (ds.length : Nat)) S) := ⟨w_len_d⟩
instance ru69   : Ru (W (sSeq u v ρ S) U) (W (u ρ S) (fK (fun ρ1 S1 => W (v ρ1 S1) U) U)) := ⟨w_sSeq⟩
instance ru70   : Ru (W (sSkip ρ S) U) (U (.nx ρ) S) := ⟨w_sSkip⟩
instance ru71   : Ru (W (sBrk ρ S) U) (U (.brk ρ) S) := ⟨w_sBrk⟩
instance ru72   : Ru (W (sCont ρ S) U) (U (.cont ρ) S) := ⟨w_sCont⟩
instance ru73   : Ru (W (sRet f ρ S) U) (W (f ρ S) fun d S1 => U (.ret d) S1) := ⟨w_sRet⟩
instance ru74   : Ru (W (sRetN ρ S) U) (U (.ret .non) S) := ⟨w_sRetN⟩
instance ru75   : Ru (W (sDrop f ρ S) U) (W (f ρ S) fun d S1 => U (.nx ρ) S1) := ⟨w_sDrop⟩
instance ru76   : Ru (W (sAsg f G ρ S) U) (W (f ρ S) fun d S1 => W (G d ρ S1) fun ρ1 S2 => U (.nx ρ1) S2) := ⟨w_sAsg⟩
instance ru77   : Ru (W (sIf c u v ρ S) U) (W (c ρ S) fun q S1 => cnd q (W (u ρ S1) U) (W (v ρ S1) U)) := ⟨w_sIf⟩
instance ru78   : Ru (W (sPar2 i j a ρ S) U) (W (a ρ S) (par2 i j ρ fun ρ1 S1 => U (.nx ρ1) S1)) := ⟨w_sPar2⟩
instance ru79   : Ru (W (sPar3 i j l a ρ S) U) (W (a ρ S) (par3 i j l ρ fun ρ1 S1 => U (.nx ρ1) S1)) := ⟨w_sPar3⟩
instance ru80  [h1 : SetAt ρ i (some d) ρ2] [h2 : SetAt ρ2 j (some e) ρ3] : Ru (par2 i j ρ P [d, e] S) (P ρ3 S) := ⟨fun h => w_par2 (by rw [h1.eq, h2.eq]; exact h)⟩
instance ru81  [h1 : SetAt ρ i (some d) ρ'] [h2 : SetAt ρ' j (some e) ρ2] [h3 : SetAt ρ2 l (some r) ρ3] : Ru (par3 i j l ρ P [d, e, r] S) (P ρ3 S) := ⟨fun h => w_par3 (by rw [h1.eq, h2.eq, h3.eq]; exact h)⟩
instance ru82  [h1 : GetAt ρ i d] : Ru (W (sAug i op f ρ S) U) (W (f ρ S) fun y S1 => W (op d y S1) fun z S2 => augQ i z ρ U S2) := ⟨fun h => w_sAug h1.at_ h⟩
instance ru83  [h1 : SetAt ρ i (some d) ρ'] : Ru (augQ i d ρ U S) (U (.nx ρ') S) := ⟨fun h => by unfold augQ; rw [h1.eq]; exact h⟩
instance ru84 {c0 f0 : Str}  : Ru (W (sFldZ c0 f0 f g ρ S) U) (W (g ρ S) fun d S1 => W (f ρ S1) fun o S2 => W (opFldSet c0 f0 o d S2) fun _ S3 => U (.nx ρ) S3) := ⟨w_sFldZ⟩
instance ru85  [h1 : SetAt ρ i (some d) ρ'] : Ru (W (tName i d ρ S) P) (P ρ' S) := ⟨fun h => w_tName (by rw [h1.eq]; exact h)⟩
instance ru86   : Ru (W (tsNil [] ρ S) P) (P ρ S) := ⟨w_tsNil⟩
instance ru87   : Ru (W (tsCons G Gs (d :: ds) ρ S) P) (W (G d ρ S) fun ρ1 S1 => W (Gs ds ρ1 S1) P) := ⟨w_tsCons⟩
instance ru88   : Ru (W (tTupZ n Gs (.tup ds) ρ S) P) (side (ds.length = n) (W (Gs ds ρ S) P)) := ⟨fun h => w_tTupZ h.1 h.2⟩
instance ru89   : Ru (W (tTupZ n Gs (.lst ds) ρ S) P) (side (ds.length = n) (W (Gs ds ρ S) P)) := ⟨fun h => w_tTupZl h.1 h.2⟩
instance ru90   : Ru (W (tSub f g d ρ S) P) (W (f ρ S) fun o S1 => W (g ρ S1) fun i S2 => W (opSet o i d S2) fun _ S3 => P ρ S3) := ⟨w_tSub⟩
instance ru91  [h1 : EnvOf ds m ρ] : Ru (W (fn0 m u ds S) Q) (W (u ρ S) (fR Q)) := ⟨fun h => w_fn0 (by rw [h1.eq]; exact h)⟩
instance ru92   : Ru (W (iVal f ρ S) Z) (W (f ρ S) fun d S1 => W (srcOf d S1) Z) := ⟨w_iVal⟩
instance ru93   : Ru (W (iRng1 a ρ S) Z) (W (a ρ S) fun d S1 => W (srcRng1 d S1) Z) := ⟨w_iRng1⟩
instance ru94   : Ru (W (iRng2 a ρ S) Z) (W (a ρ S) fun d S1 => W (srcRng2 d S1) Z) := ⟨w_iRng2⟩
instance ru95   : Ru (W (iEnum a ρ S) Z) (W (a ρ S) fun d S1 => W (srcEnum d S1) Z) := ⟨w_iEnum⟩
instance ru96   : Ru (W (iZip a ρ S) Z) (W (a ρ S) fun d S1 => W (srcZip d S1) Z) := ⟨w_iZip⟩
instance ru97   : Ru (W (iZipS a ρ S) Z) (W (a ρ S) fun d S1 => W (srcZipS d S1) Z) := ⟨w_iZipS⟩
instance ru98   : Ru (W (srcOf (.tup ds) S) Z) (Z ⟨ds, fun _ => True⟩ S) := ⟨w_src_t⟩
instance ru99   : Ru (W (srcOf (.lst ds) S) Z) (Z ⟨ds, fun _ => True⟩ S) := ⟨w_src_l⟩
instance ru100   : Ru (W (srcOf (.wl ds) S) Z) (Z ⟨ds, fun _ => True⟩ S) := ⟨w_src_w⟩
instance ru101   : Ru (W (srcOf (.str s) S) Z) (Z ⟨signs s, fun _ => True⟩ S) := ⟨w_src_s⟩
instance ru102   : Ru (W (srcRng1 [.int x] S) Z) (side (0 ≤ x ∧ x ≤ 1000000) (Z ⟨rangeD x.toNat, fun _ => True⟩ S)) := ⟨fun h => w_rng1 h.1.1 h.1.2 h.2⟩
instance ru103   : Ru (W (srcEnum [.lst ds] S) Z) (Z ⟨enums ds, fun _ => True⟩ S) := ⟨w_enum_l⟩
instance ru104   : Ru (W (srcEnum [.wl ds] S) Z) (Z ⟨enums ds, fun _ => True⟩ S) := ⟨w_enum_w⟩
instance ru105 {a1 a2 : List D}  : Ru (W (srcZip [.lst a1, .lst a2] S) Z) (Z ⟨zips a1 a2, fun _ => True ∧ True⟩ S) := ⟨w_zip_l⟩
instance ru106 {a1 a2 : List D}  : Ru (W (srcZip [.tup a1, .tup a2] S) Z) (Z ⟨zips a1 a2, fun _ => True⟩ S) := ⟨w_zip_t⟩
instance ru107 {a1 a2 : List D}  : Ru (W (srcZipS [.lst a1, .lst a2] S) Z) (side (a1.length = a2.length) (Z ⟨zips a1 a2, fun _ => True ∧ True⟩ S)) := ⟨fun h => w_zipS_l h.1 h.2⟩
instance ru108 {fn : List D → M D} {mm : Rho → M (List D)}  : Ru (W (eFin fn mm ρ S) Q) (W (mm ρ S) fun ds S1 => W (fn ds S1) Q) := ⟨w_eFin⟩
instance ru109   : Ru (W (finL ds S) Q) (Q (.lst ds) S) := ⟨w_finL⟩
instance ru110   : Ru (W (finC ds S) Q) (Q (.ref S.length) (S ++ [.lst ds])) := ⟨w_finC⟩
instance ru111 {kd : KD}  : Ru (W (finD kd S) Q) (Q (.dic kd.1 kd.2) S) := ⟨w_finD⟩
instance ru112 {kd : KD}  : Ru (W (finDC kd S) Q) (Q (.ref S.length) (S ++ [.dic false kd.1 kd.2])) := ⟨w_finDC⟩
instance ru113 {I : Rho → M Src} {own : List Nat}  : Ru (W (eComp I own G c f ρ S) T) (W (I ρ S) (compQ own G c f ρ T)) := ⟨w_eCompQ⟩
instance ru114 {own : List Nat} {ok : Sto → Prop} [h : WipeAt ρ own ρ'] : Ru (compQ own G c f ρ T ⟨ds, ok⟩ S) (side (ds.length ≤ 1000000) (W (compL ok G c f ρ' ds S) T)) := ⟨fun q => ⟨q.1, by rw [h.eq]; exact q.2⟩⟩
instance ru115 {γ β : Type} {I : Rho → M Src} {own : List Nat} {b : Rho → γ → M γ} {acc0 : γ} {F : γ → M β} {V : β → Sto → Prop}  : Ru (W (eGath I own G c b acc0 F ρ S) V) (W (I ρ S) (gathQ own G c b acc0 F ρ V)) := ⟨w_eGathQ⟩
instance ru116 {γ β : Type} {own : List Nat} {b : Rho → γ → M γ} {acc0 : γ} {F : γ → M β} {V : β → Sto → Prop} {ok : Sto → Prop} [h : WipeAt ρ own ρ'] : Ru (gathQ own G c b acc0 F ρ V ⟨ds, ok⟩ S) (side (ds.length ≤ 1000000) (W (compG ok G c b ρ' ds acc0 S) fun a S2 => W (F a S2) V)) := ⟨fun q => ⟨q.1, by rw [h.eq]; exact q.2⟩⟩
instance ru117 {fk fv : Rho → M D} {kd : KD} {V : KD → Sto → Prop}  : Ru (W (bDic fk fv ρ kd S) V) (W (fk ρ S) fun k S1 => W (fv ρ S1) fun v S2 => side (isKey 8 k = true ∧ kd.1.length < 1000000) (V (dPut kd.1 kd.2 k v) S2)) := ⟨fun h => w_bDic (w_imp h fun _ _ h => w_imp h fun _ _ h => ⟨h.1.1, h.1.2, h.2⟩)⟩
instance ru118   : Ru (W (bLst f ρ ds S) T) (W (f ρ S) fun y S1 => side (ds.length < 1000000) (T (ds ++ [y]) S1)) := ⟨fun h => w_bLst (w_imp h fun _ _ h => ⟨h.1, h.2⟩)⟩
instance ru119 {I : Rho → M Src} {vs : List Nat}  : Ru (W (bIn I vs G c f ρ ds S) T) (W (I ρ S) (inQ vs G c f ρ ds T)) := ⟨w_bInQ⟩
instance ru120 {vs : List Nat} {es : List D} {ok : Sto → Prop} [h : WipeAt ρ vs ρ'] : Ru (inQ vs G c f ρ ds T ⟨es, ok⟩ S) (W (compG ok G c (bLst f) ρ' es ds S) T) := ⟨fun q => by unfold inQ; rw [h.eq]; exact q⟩
instance ru121   : Ru (fK k U (.nx ρ) S) (k ρ S) := ⟨id⟩
instance ru122   : Ru (fK k U (.ret d) S) (U (.ret d) S) := ⟨id⟩
instance ru123   : Ru (fK k U (.brk ρ) S) (U (.brk ρ) S) := ⟨id⟩
instance ru124   : Ru (fK k U (.cont ρ) S) (U (.cont ρ) S) := ⟨id⟩
instance ru125   : Ru (fR Q (.ret d) S) (Q d S) := ⟨id⟩
instance ru126   : Ru (fR Q (.nx ρ) S) (Q .non S) := ⟨id⟩
instance ru127   : Ru (fT k U (.nx ρ) S) (k ρ S) := ⟨id⟩
instance ru128   : Ru (fT k U (.cont ρ) S) (k ρ S) := ⟨id⟩
instance ru129   : Ru (fT k U (.brk ρ) S) (U (.nx ρ) S) := ⟨id⟩
instance ru130   : Ru (fT k U (.ret d) S) (U (.ret d) S) := ⟨id⟩
instance ru131   : Ru (cnd true A B) (A) := ⟨cnd_true⟩
instance ru132   : Ru (cnd false A B) (B) := ⟨cnd_false⟩
instance ru133   : Ru (cnd (!p) A B) (cnd p B A) := ⟨cnd_not⟩
instance ru134   : Ru (W (.val d S) Q) (Q d S) := ⟨w_val⟩
end
section
variable {Q : D → Sto → Prop} {S : Sto} {d : D} {ds : List D} {x : Int} {β : Type} {l : List β} {F : β → D}
instance [h : AtL ds x d] : Ru (W (opIx (.tup ds) (.int x) S) Q) (Q d S) := ⟨w_ix_t h.at_⟩
instance [h : AtL ds x d] : Ru (W (opIx (.lst ds) (.int x) S) Q) (Q d S) := ⟨w_ix_l h.at_⟩
instance (priority := low) : Ru (W (bLen [.tup ds] S) Q) (Q (.int (ds.length : Nat)) S) := ⟨w_len_t⟩
instance (priority := low) : Ru (W (bLen [.lst ds] S) Q) (Q (.int (ds.length : Nat)) S) := ⟨w_len_l⟩
instance (priority := low) : Ru (W (bLen [.wl ds] S) Q) (Q (.int (ds.length : Nat)) S) := ⟨w_len_w⟩
instance : Ru (W (bLen [.tup (l.map F)] S) Q) (Q (.int (l.length : Nat)) S) := ⟨w_len_tm⟩
instance : Ru (W (bLen [.lst (l.map F)] S) Q) (Q (.int (l.length : Nat)) S) := ⟨w_len_lm⟩
end
/-- the for, apart from the rest -/
theorem w_sForQ {ρ : Rho} {S : Sto} {G : D → Rho → M Rho} {b : Rho → M Fl} {I : Rho → M Src} {U : Fl → Sto → Prop} (h : W (I ρ S) (forQ G b ρ U)) : W (sFor I G b ρ S) U := w_sFor (w_imp h fun _ _ h => h)
end Z
/-! the defs as plain functions: printed by a program -/
namespace Pg
open Z
def c_SHOWN : D := (.tup [(.tup [(.int 0), (.int 1), (.int 2), (.int 3)]), (.tup [(.int 2), (.int 0), (.int 3), (.int 1)]), (.tup [(.int 3), (.int 2), (.int 1), (.int 0)]), (.tup [(.int 1), (.int 3), (.int 0), (.int 2)]), (.tup [(.int 1), (.int 0), (.int 3), (.int 2)]), (.tup [(.int 3), (.int 1), (.int 2), (.int 0)]), (.tup [(.int 2), (.int 3), (.int 0), (.int 1)]), (.tup [(.int 0), (.int 2), (.int 1), (.int 3)])])
def c_QUARTERS : D := (.int 4)
noncomputable def b__law_box : Rho → M Fl :=
  (sSeq (sAsg (eOp opIx (eVar 0) (eVar 1)) (tName 2))
  (sRet (eCel (aCons (eOp opMul (eCall bAbs (aCons (eVar 2) aNil)) (eCall bInt (aCons (eOp opGe (eCall bAbs (aCons (eVar 2) aNil)) (eOp opPow (eC (.int 10)) (eC (.int 18)))) aNil))) (aCons (eOp opAdd (eOp opAdd (eOp opMod (eVar 2) (eC (.int 2305843009213693951))) (eOp opMul (eC (.int 15485863)) (eVar 1))) (eC (.int 11))) (aCons (eC (.int 0)) aNil))))))
noncomputable def f__law_box : List D → M D := fn0 1 b__law_box
noncomputable def b__law_cells : Rho → M Fl :=
  (sSeq (sAsg (eOrT (eCall bListC (aCons (eSl (eVar 0) oNone (oSome (eVar 1))) aNil)) (eCel (aCons (eC (.int 0)) aNil))) (tName 2))
  (sSeq (sFor (iEnum (aCons (eSl (eVar 0) (oSome (eVar 1)) (oSome (eC (.int 63)))) aNil)) (tTupZ 2 (tsCons (tName 3) (tsCons (tName 4) tsNil))) (sAsg (eOp opAdd (eOp opIx (eVar 2) (eOp opMod (eVar 3) (eVar 1))) (eOp opMul (eVar 4) (eOp opAdd (eVar 3) (eC (.int 2))))) (tSub (eVar 2) (eOp opMod (eVar 3) (eVar 1)))))
  (sRet (eVar 2))))
noncomputable def f__law_cells : List D → M D := fn0 3 b__law_cells
noncomputable def b__law_seen : Rho → M Fl :=
  (sSeq (sPar2 3 4 (aCons (eOp opMod (eVar 1) (eC (.int 2))) (aCons (eOp opDiv (eVar 1) (eC (.int 2))) aNil)))
  (sSeq (sFor (iRng1 (aCons (eOp opMod (eVar 0) (eC (.int 4))) aNil)) (tName 2) (sPar2 3 4 (aCons (eVar 4) (aCons (eOp opSub (eC (.int 1)) (eVar 3)) aNil))))
  (sRet (eOp opAdd (eOp opMul (eC (.int 2)) (eVar 4)) (eIf (bVal (eOp opGt (eVar 0) (eC (.int 3)))) (eOp opSub (eC (.int 1)) (eVar 3)) (eVar 3))))))
noncomputable def f__law_seen : List D → M D := fn0 3 b__law_seen
noncomputable def b__law_take : Rho → M Fl :=
  (sSeq (sIf (bVal (eOp opGt (eOp opIx (eVar 0) (eC (.int 0))) (eC (.int 0)))) (sSeq (sAsg (eOp opMod (eOp opIx (eVar 0) (eC (.int 0))) (eVar 1)) (tName 3))
  (sSeq (sAsg (eOp opDiv (eOp opIx (eVar 0) (eC (.int 0))) (eVar 1)) (tSub (eVar 0) (eC (.int 0))))
  (sRet (eVar 3)))) sSkip)
  (sSeq (sAsg (eOp opAdd (eOp opIx (eVar 0) (eC (.int 2))) (eC (.int 1))) (tSub (eVar 0) (eC (.int 2))))
  (sSeq (sAsg (eOp opMod (eOp opAdd (eOp opIx (eVar 0) (eC (.int 1))) (eOp opMul (eC (.int 1442695040888963407)) (eOp opIx (eVar 0) (eC (.int 2))))) (eC (.int 2305843009213693951))) (tName 2))
  (sSeq (sAsg (eOp opMod (eOp opAdd (eOp opAdd (eOp opMul (eVar 2) (eVar 2)) (eOp opMul (eC (.int 39373)) (eOp opIx (eVar 0) (eC (.int 2))))) (eC (.int 7))) (eC (.int 2305843009213693921))) (tName 2))
  (sSeq (sAsg (eOp opMod (eOp opAdd (eOp opMul (eVar 2) (eOp opAdd (eOp opDiv (eVar 2) (eC (.int 65536))) (eC (.int 3)))) (eOp opIx (eVar 0) (eC (.int 2)))) (eC (.int 2305843009213693907))) (tName 2))
  (sRet (eOp opMod (eOp opDiv (eVar 2) (eC (.int 1048576))) (eVar 1))))))))
noncomputable def f__law_take : List D → M D := fn0 2 b__law_take
noncomputable def b__law_sight : Rho → M Fl :=
  (sSeq (sIf (bOr (bVal (eOp opEq (eVar 2) (eC (.int 0)))) (bVal (eOp opEq (eCall f__law_take (aCons (eVar 0) (aCons (eC (.int 2)) aNil))) (eC (.int 0))))) (sRet (eOp opIx (eVar 1) (eCall f__law_take (aCons (eVar 0) (aCons (eCall bLen (aCons (eVar 1) aNil)) aNil))))) sSkip)
  (sRet (eTup (aCons (eCall f__law_take (aCons (eVar 0) (aCons (eVar 2) aNil))) (aCons (eCall f__law_take (aCons (eVar 0) (aCons (eC (.int 8)) aNil))) aNil)))))
noncomputable def f__law_sight : List D → M D := fn0 0 b__law_sight
noncomputable def b__law_then : Rho → M Fl :=
  (sSeq (sAsg (eIf (bVal (eOp opLt (eVar 1) (eC (.int 4)))) (eOp opMod (eVar 0) (eC (.int 4))) (eOp opSub (eC (.int 0)) (eOp opMod (eVar 0) (eC (.int 4))))) (tName 2))
  (sRet (eOp opAdd (eOp opMul (eOp opMod (eOp opAdd (eOp opDiv (eVar 0) (eC (.int 4))) (eOp opDiv (eVar 1) (eC (.int 4)))) (eC (.int 2))) (eC (.int 4))) (eOp opMod (eOp opAdd (eVar 1) (eVar 2)) (eC (.int 4))))))
noncomputable def f__law_then : List D → M D := fn0 1 b__law_then
noncomputable def b__law_turned : Rho → M Fl :=
  (sRet (eIf (bVal (eIsi ["str"] (eVar 0))) (eVar 0) (eTup (aCons (eOp opIx (eVar 0) (eC (.int 0))) (aCons (eCall f__law_then (aCons (eOp opIx (eVar 0) (eC (.int 1))) (aCons (eVar 1) aNil))) aNil)))))
noncomputable def f__law_turned : List D → M D := fn0 0 b__law_turned
noncomputable def b__law_house : Rho → M Fl :=
  (sSeq (sAsg (eTup (aCons (eOp opAdd (eC (.int 1)) (eCall f__law_take (aCons (eVar 0) (aCons (eVar 2) aNil)))) (aCons (eCel aNil) aNil))) (tTupZ 2 (tsCons (tName 4) (tsCons (tName 5) tsNil))))
  (sSeq (sFor (iRng1 (aCons (eVar 4) aNil)) (tName 3) (sSeq (sAsg (eTup (aCons (eCall f__law_take (aCons (eVar 0) (aCons (eC (.int 8)) aNil))) (aCons (eCall f__law_sight (aCons (eVar 0) (aCons (eVar 1) (aCons (eVar 4) aNil)))) aNil))) (tTupZ 2 (tsCons (tName 6) (tsCons (tName 7) tsNil))))
  (sIf (bVal (eOp opEq (eVar 6) (eC (.int 0)))) (sDrop (eMth isLs mAppend (eVar 5) (aCons (eCall bTuple (aCons (eFin finL (eComp (iVal (eTup (aCons (eC (.int 0)) (aCons (eC (.int 1)) (aCons (eC (.int 3)) (aCons (eC (.int 2)) aNil)))))) [8] (tName 8) bYes (eCall f__law_turned (aCons (eVar 7) (aCons (eVar 8) aNil))))) aNil)) aNil))) (sIf (bVal (eOp opEq (eVar 6) (eC (.int 1)))) (sDrop (eMth isLs mAppend (eVar 5) (aCons (eCall bTuple (aCons (eFin finL (eComp (iRng1 (aCons (eC (.int 4)) aNil)) [10] (tName 10) bYes (eTup (aCons (eVar 3) (aCons (eCall f__law_take (aCons (eVar 0) (aCons (eC (.int 8)) aNil))) aNil))))) aNil)) aNil))) (sIf (bVal (eOp opEq (eVar 6) (eC (.int 2)))) (sDrop (eMth isLs mAppend (eVar 5) (aCons (eOp opMul (eTup (aCons (eOp opIx (eVar 1) (eC (.int 0))) aNil)) (eC (.int 4))) aNil))) (sIf (bAnd (bVal (eOp opEq (eVar 6) (eC (.int 3)))) (bVal (eOp opNe (eVar 5) (eLst aNil)))) (sSeq (sAsg (eTup (aCons (eCall f__law_take (aCons (eVar 0) (aCons (eCall bLen (aCons (eVar 5) aNil)) aNil))) (aCons (eCall f__law_take (aCons (eVar 0) (aCons (eC (.int 8)) aNil))) aNil))) (tTupZ 2 (tsCons (tName 9) (tsCons (tName 8) tsNil))))
  (sDrop (eMth isLs mAppend (eVar 5) (aCons (eCall bTuple (aCons (eFin finL (eComp (iRng1 (aCons (eC (.int 4)) aNil)) [10] (tName 10) bYes (eCall f__law_turned (aCons (eOp opIx (eOp opIx (eVar 5) (eVar 9)) (eCall f__law_seen (aCons (eVar 8) (aCons (eVar 10) aNil)))) (aCons (eVar 8) aNil))))) aNil)) aNil)))) (sDrop (eMth isLs mAppend (eVar 5) (aCons (eCall bTuple (aCons (eFin finL (eComp (iRng1 (aCons (eC (.int 4)) aNil)) [10] (tName 10) bYes (eCall f__law_sight (aCons (eVar 0) (aCons (eVar 1) (aCons (eVar 4) aNil)))))) aNil)) aNil)))))))))
  (sRet (eCall bTuple (aCons (eVar 5) aNil)))))
noncomputable def f__law_house : List D → M D := fn0 8 b__law_house
noncomputable def b__law_names : Rho → M Fl :=
  (sSeq (sAsg (eTup (aCons (eC (.str "abcdefghijklmnopqrstuvwxyz")) (aCons (eCall f__law_take (aCons (eVar 0) (aCons (eC (.int 26)) aNil))) aNil))) (tTupZ 2 (tsCons (tName 3) (tsCons (tName 4) tsNil))))
  (sSeq (sAsg (eMth isSt mJoin (eC (.str "")) (aCons (eFin finL (eComp (iRng1 (aCons (eCall f__law_take (aCons (eVar 0) (aCons (eC (.int 8)) aNil))) aNil)) [6] (tName 6) bYes (eOp opIx (eVar 3) (eCall f__law_take (aCons (eVar 0) (aCons (eC (.int 26)) aNil)))))) aNil)) (tName 2))
  (sRet (eFin finL (eComp (iRng1 (aCons (eVar 1) aNil)) [5] (tName 5) bYes (eOp opAdd (eVar 2) (eOp opIx (eVar 3) (eOp opMod (eOp opAdd (eVar 4) (eOp opMul (eC (.int 7)) (eVar 5))) (eC (.int 26))))))))))
noncomputable def f__law_names : List D → M D := fn0 5 b__law_names
noncomputable def b__law_quarter : Rho → M Fl :=
  (sSeq (sIf (bVal (eIsi ["str"] (eVar 1))) (sRet (eVar 1)) sSkip)
  (sRet (eCall f__law_turned (aCons (eOp opIx (eOp opIx (eVar 0) (eOp opIx (eVar 1) (eC (.int 0)))) (eCall f__law_seen (aCons (eOp opIx (eVar 1) (eC (.int 1))) (aCons (eVar 2) aNil)))) (aCons (eOp opIx (eVar 1) (eC (.int 1))) aNil)))))
noncomputable def f__law_quarter : List D → M D := fn0 0 b__law_quarter
noncomputable def b_behind : Rho → M Fl :=
  (sSeq (sAsg (eOp opAdd (eVar 1) (eIf (bVal (eOp opLt (eVar 1) (eC c_QUARTERS))) (eVar 0) (eUn opNeg (eVar 0)))) (tName 2))
  (sRet (eOp opAdd (eOp opMod (eVar 2) (eC c_QUARTERS)) (eOp opMul (eC c_QUARTERS) (eCall bInt (aCons (eOp opNe (eOp opDiv (eVar 0) (eC c_QUARTERS)) (eOp opDiv (eVar 1) (eC c_QUARTERS))) aNil))))))
noncomputable def f_behind : List D → M D := fn0 1 b_behind
noncomputable def b_back : Rho → M Fl :=
  (sRet (eOp opIx (eFin finL (eComp (iRng1 (aCons (eCall bLen (aCons (eC c_SHOWN) aNil)) aNil)) [1] (tName 1) (bVal (eOp opEq (eCall f_behind (aCons (eVar 0) (aCons (eVar 1) aNil))) (eC (.int 0)))) (eVar 1))) (eC (.int 0))))
noncomputable def f_back : List D → M D := fn0 1 b_back
noncomputable def b__law_rows_to : Rho → M Fl :=
  (sSeq (sPar2 3 4 (aCons (eLst aNil) (aCons (eLst (aCons (eTup (aCons (eTup aNil) (aCons (eVar 1) aNil))) aNil)) aNil)))
  (sSeq (sFor (iRng1 (aCons (eC (.int 3)) aNil)) (tName 2) (sSeq (sAsg (eLst aNil) (tName 5))
  (sSeq (sFor (iVal (eVar 4)) (tTupZ 2 (tsCons (tName 6) (tsCons (tName 7) tsNil))) (sAsg (eOp opAdd (eVar 5) (eFin finL (eComp (iRng1 (aCons (eC (.int 4)) aNil)) [8] (tName 8) bYes (eTup (aCons (eOp opAdd (eVar 6) (eTup (aCons (eVar 8) aNil))) (aCons (eCall f__law_quarter (aCons (eVar 0) (aCons (eVar 7) (aCons (eVar 8) aNil)))) aNil)))))) (tName 5)))
  (sSeq (sAsg (eFin finL (eComp (iVal (eVar 5)) [6, 7] (tTupZ 2 (tsCons (tName 6) (tsCons (tName 7) tsNil))) (bNot (bVal (eIsi ["str"] (eVar 7)))) (eTup (aCons (eVar 6) (aCons (eVar 7) aNil))))) (tName 4))
  (sAsg (eOp opAdd (eVar 3) (eFin finL (eComp (iVal (eVar 4)) [6, 7] (tTupZ 2 (tsCons (tName 6) (tsCons (tName 7) tsNil))) (bVal (eOp opEq (eOp opIx (eVar 7) (eC (.int 0))) (eOp opIx (eVar 1) (eC (.int 0))))) (eTup (aCons (eVar 6) (aCons (eCall f_behind (aCons (eCall f_back (aCons (eOp opIx (eVar 1) (eC (.int 1))) aNil)) (aCons (eOp opIx (eVar 7) (eC (.int 1))) aNil))) aNil)))))) (tName 3))))))
  (sRet (eVar 3))))
noncomputable def f__law_rows_to : List D → M D := fn0 7 b__law_rows_to
noncomputable def b__law_same (fu : List D → M D) : Rho → M Fl :=
  (sSeq (sIf (bVal (eIsi ["list", "tuple"] (eVar 1))) (sSeq (sIf (bOr (bVal (eOp opNe (eIsi ["list"] (eVar 0)) (eIsi ["list"] (eVar 1)))) (bVal (eOp opNe (eIsi ["tuple"] (eVar 0)) (eIsi ["tuple"] (eVar 1))))) (sRet (eC (.bl false))) sSkip)
  (sRet (eAnd (eOp opEq (eCall bLen (aCons (eVar 0) aNil)) (eCall bLen (aCons (eVar 1) aNil))) (eCall bAll (aCons (eFin finL (eComp (iZip (aCons (eVar 0) (aCons (eVar 1) aNil))) [2, 3] (tTupZ 2 (tsCons (tName 2) (tsCons (tName 3) tsNil))) bYes (eCall fu (aCons (eVar 2) (aCons (eVar 3) aNil))))) aNil))))) sSkip)
  (sSeq (sIf (bOr (bVal (eOp opIs (eVar 1) (eC .non))) (bVal (eIsi ["str", "bool"] (eVar 1)))) (sRet (eAnd (eOp opEq (eIsi ["bool"] (eVar 0)) (eIsi ["bool"] (eVar 1))) (eOp opEq (eVar 0) (eVar 1)))) sSkip)
  (sRet (eAnd (eIsi ["int"] (eVar 0)) (eAnd (eNot (eIsi ["bool"] (eVar 0))) (eOp opEq (eVar 0) (eVar 1)))))))
noncomputable def f__law_same : Nat → List D → M D
  | 0 => fun _ _ => .stuck
  | n + 1 => fn0 2 (b__law_same (f__law_same n))
noncomputable def b_Marks_many : Rho → M Fl :=
  (sRet (eLenK (eGath (iVal (eFld "Marks" "own_looks" (eVar 0))) [1] (tName 1) bYes (bSet (eOp opIx (eFld "Marks" "own_marks" (eVar 0)) (eVar 1))) [] finK)))
noncomputable def f_Marks_many : List D → M D := fn0 1 b_Marks_many
noncomputable def b_Marks_mark : Rho → M Fl :=
  (sSeq (sIf (bVal (eIsi ["str"] (eVar 1))) (sRet (eVar 1)) sSkip)
  (sSeq (sAsg (eOp opIx (eFld "Marks" "own_wholes" (eVar 0)) (eOp opIx (eVar 1) (eC (.int 0)))) (tName 2))
  (sRet (eIf (bVal (eOp opIs (eVar 2) (eC .non))) (eOp opIx (eFld "Marks" "own_marks" (eVar 0)) (eVar 1)) (eVar 2)))))
noncomputable def f_Marks_mark : List D → M D := fn0 1 b_Marks_mark
noncomputable def b_Marks_parted_once : Rho → M Fl :=
  (sSeq (sPar2 2 3 (aCons eDcC (aCons eDcC aNil)))
  (sSeq (sFor (iVal (eFld "Marks" "own_looks" (eVar 0))) (tName 1) (sSeq (sAsg (eCall bTuple (aCons (eFin finL (eComp (iVal (eOp opIx (eFld "Marks" "own_fours" (eVar 0)) (eVar 1))) [5] (tName 5) bYes (eMeth "Marks" "mark" f_Marks_mark (eVar 0) (aCons (eVar 5) aNil)))) aNil)) (tName 4))
  (sAsg (eMth isDc mSetd (eVar 2) (aCons (eVar 4) (aCons (eCall bLen (aCons (eVar 2) aNil)) aNil))) (tSub (eVar 3) (eVar 1)))))
  (sRet (eVar 3))))
noncomputable def f_Marks_parted_once : List D → M D := fn0 5 b_Marks_parted_once
noncomputable def b_Marks_part_on : Rho → M Fl :=
  (sSeq (sAsg (eC (.int 0)) (tName 1))
  (sWhile (bVal (eOp opLt (eVar 1) (eMeth "Marks" "many" f_Marks_many (eVar 0) aNil))) (sSeq (sAsg (eMeth "Marks" "many" f_Marks_many (eVar 0) aNil) (tName 1))
  (sFldZ "Marks" "own_marks" (eVar 0) (eMeth "Marks" "parted_once" f_Marks_parted_once (eVar 0) aNil)))))
noncomputable def f_Marks_part_on : List D → M D := fn0 1 b_Marks_part_on
noncomputable def b_shown : Rho → M Fl :=
  (sRet (eOp opIx (eOp opIx (eC c_SHOWN) (eVar 0)) (eVar 1)))
noncomputable def f_shown : List D → M D := fn0 0 b_shown
noncomputable def b_turned : Rho → M Fl :=
  (sSeq (sIf (bVal (eIsi ["str"] (eVar 0))) (sRet (eVar 0)) sSkip)
  (sSeq (sAsg (eVar 0) (tTupZ 2 (tsCons (tName 2) (tsCons (tName 3) tsNil))))
  (sRet (eTup (aCons (eVar 2) (aCons (eCall f_behind (aCons (eVar 3) (aCons (eVar 1) aNil))) aNil))))))
noncomputable def f_turned : List D → M D := fn0 2 b_turned
noncomputable def b_quarter_of : Rho → M Fl :=
  (sSeq (sIf (bVal (eIsi ["str"] (eVar 1))) (sRet (eVar 1)) sSkip)
  (sSeq (sAsg (eVar 1) (tTupZ 2 (tsCons (tName 3) (tsCons (tName 4) tsNil))))
  (sRet (eCall f_turned (aCons (eOp opIx (eOp opIx (eVar 0) (eVar 3)) (eCall f_shown (aCons (eVar 4) (aCons (eVar 2) aNil)))) (aCons (eVar 4) aNil))))))
noncomputable def f_quarter_of : List D → M D := fn0 2 b_quarter_of
noncomputable def b_quarters_of : Rho → M Fl :=
  (sRet (eFin finL (eComp (iRng1 (aCons (eC c_QUARTERS) aNil)) [2] (tName 2) bYes (eCall f_quarter_of (aCons (eVar 0) (aCons (eVar 1) (aCons (eVar 2) aNil)))))))
noncomputable def f_quarters_of : List D → M D := fn0 1 b_quarters_of
noncomputable def b_one_of : Rho → M Fl :=
  (sRet (eIf (bVal (eCall bAll (aCons (eFin finL (eComp (iVal (eVar 0)) [1] (tName 1) bYes (eOp opEq (eVar 1) (eOp opIx (eVar 0) (eC (.int 0)))))) aNil))) (eOp opIx (eVar 0) (eC (.int 0))) (eC .non)))
noncomputable def f_one_of : List D → M D := fn0 1 b_one_of
noncomputable def b_wholes_of : Rho → M Fl :=
  (sSeq (sAsg (eFin finL (eComp (iVal (eVar 0)) [3] (tName 3) bYes (eC .non))) (tName 1))
  (sSeq (sFor (iVal (eVar 0)) (tName 2) (sAsg (eFin finL (eComp (iVal (eVar 0)) [3] (tName 3) bYes (eCall f_one_of (aCons (eFin finL (eComp (iVal (eVar 3)) [4] (tName 4) bYes (eIf (bVal (eIsi ["str"] (eVar 4))) (eVar 4) (eOp opIx (eVar 1) (eOp opIx (eVar 4) (eC (.int 0))))))) aNil)))) (tName 1)))
  (sRet (eVar 1))))
noncomputable def f_wholes_of : List D → M D := fn0 4 b_wholes_of
noncomputable def b_Marks_init : Rho → M Fl :=
  (sSeq (sFldZ "Marks" "own_house" (eVar 0) (eVar 1))
  (sSeq (sFldZ "Marks" "own_wholes" (eVar 0) (eCall f_wholes_of (aCons (eVar 1) aNil)))
  (sSeq (sFldZ "Marks" "own_looks" (eVar 0) (eGath (iEnum (aCons (eFld "Marks" "own_wholes" (eVar 0)) aNil)) [4, 5, 2] (tTupZ 2 (tsCons (tName 4) (tsCons (tName 5) tsNil))) (bVal (eOp opIs (eVar 5) (eC .non))) (bIn (iRng1 (aCons (eCall bLen (aCons (eC c_SHOWN) aNil)) aNil)) [2] (tName 2) bYes (eTup (aCons (eVar 4) (aCons (eVar 2) aNil)))) [] finL))
  (sSeq (sFldZ "Marks" "own_fours" (eVar 0) (eGath (iVal (eFld "Marks" "own_looks" (eVar 0))) [3] (tName 3) bYes (bDic (eVar 3) (eCall f_quarters_of (aCons (eVar 1) (aCons (eVar 3) aNil)))) ([], []) finD))
  (sSeq (sFldZ "Marks" "own_marks" (eVar 0) (eGath (iVal (eFld "Marks" "own_looks" (eVar 0))) [3] (tName 3) bYes (bDic (eVar 3) (eC (.int 0))) ([], []) finD))
  (sDrop (eMeth "Marks" "part_on" f_Marks_part_on (eVar 0) aNil)))))))
noncomputable def f_Marks_init : List D → M D := fn0 4 b_Marks_init
noncomputable def b_alike : Rho → M Fl :=
  (sSeq (sAsg (eMake "Marks" f_Marks_init (aCons (eVar 0) aNil)) (tName 3))
  (sRet (eOp opEq (eMeth "Marks" "mark" f_Marks_mark (eVar 3) (aCons (eVar 1) aNil)) (eMeth "Marks" "mark" f_Marks_mark (eVar 3) (aCons (eVar 2) aNil)))))
noncomputable def f_alike : List D → M D := fn0 1 b_alike
noncomputable def b_sight_at : Rho → M Fl :=
  (sSeq (sFor (iVal (eVar 2)) (tName 3) (sAsg (eCall f_quarter_of (aCons (eVar 0) (aCons (eVar 1) (aCons (eVar 3) aNil)))) (tName 1)))
  (sRet (eVar 1)))
noncomputable def f_sight_at : List D → M D := fn0 1 b_sight_at
noncomputable def b_colour_at : Rho → M Fl :=
  (sSeq (sAsg (eVar 2) (tTupZ 2 (tsCons (tName 3) (tsCons (tName 4) tsNil))))
  (sSeq (sPar2 5 6 (aCons (eCall f_sight_at (aCons (eVar 0) (aCons (eVar 1) (aCons (eVar 3) aNil)))) (aCons eDcC aNil)))
  (sSeq (sWhile (bNot (bVal (eIsi ["str"] (eVar 5)))) (sSeq (sIf (bVal (eOp opIn (eVar 5) (eVar 6))) (sRet (eC .non)) sSkip)
  (sSeq (sAsg (eC (.bl true)) (tSub (eVar 6) (eVar 5)))
  (sAsg (eCall f_sight_at (aCons (eVar 0) (aCons (eVar 5) (aCons (eVar 4) aNil)))) (tName 5)))))
  (sRet (eVar 5)))))
noncomputable def f_colour_at : List D → M D := fn0 4 b_colour_at
noncomputable def b_power : Rho → M Fl :=
  (sSeq (sAsg (eC (.int 1)) (tName 2))
  (sSeq (sFor (iRng1 (aCons (eVar 1) aNil)) (tName 3) (sAug 2 opMulI (eVar 0)))
  (sRet (eVar 2))))
noncomputable def f_power : List D → M D := fn0 2 b_power
noncomputable def b_whole_by : Rho → M Fl :=
  (sRet (eIf (bVal (eIsi ["str"] (eVar 1))) (eVar 1) (eOp opIx (eVar 0) (eOp opIx (eVar 1) (eC (.int 0))))))
noncomputable def f_whole_by : List D → M D := fn0 0 b_whole_by
noncomputable def b_rows_of (fu : List D → M D) : Rho → M Fl :=
  (sSeq (sIf (bOr (bVal (eOp opEq (eVar 3) (eC (.int 0)))) (bVal (eIsi ["str"] (eVar 2)))) (sSeq (sAsg (eCall f_power (aCons (eC (.int 2)) (aCons (eVar 3) aNil))) (tName 4))
  (sRet (eFin finL (eComp (iRng1 (aCons (eVar 4) aNil)) [10] (tName 10) bYes (eOp opMul (eLst (aCons (eCall f_whole_by (aCons (eVar 1) (aCons (eVar 2) aNil))) aNil)) (eVar 4)))))) sSkip)
  (sSeq (sAsg (eFin finL (eComp (iVal (eCall f_quarters_of (aCons (eVar 0) (aCons (eVar 2) aNil)))) [9] (tName 9) bYes (eCall fu (aCons (eVar 0) (aCons (eVar 1) (aCons (eVar 9) (aCons (eOp opSub (eVar 3) (eC (.int 1))) aNil))))))) (tTupZ 4 (tsCons (tName 5) (tsCons (tName 6) (tsCons (tName 7) (tsCons (tName 8) tsNil))))))
  (sRet (eFin finL (eComp (iZipS (aCons (eOp opAdd (eVar 5) (eVar 7)) (aCons (eOp opAdd (eVar 6) (eVar 8)) aNil))) [11, 12] (tTupZ 2 (tsCons (tName 11) (tsCons (tName 12) tsNil))) bYes (eOp opAdd (eVar 11) (eVar 12)))))))
noncomputable def f_rows_of : Nat → List D → M D
  | 0 => fun _ _ => .stuck
  | n + 1 => fn0 9 (b_rows_of (f_rows_of n))
noncomputable def b_drawn : Rho → M Fl :=
  (sRet (eCall (f_rows_of 4) (aCons (eVar 0) (aCons (eCall f_wholes_of (aCons (eVar 0) aNil)) (aCons (eVar 1) (aCons (eVar 2) aNil))))))
noncomputable def f_drawn : List D → M D := fn0 0 b_drawn
noncomputable def b_row_seen : Rho → M Fl :=
  (sRet (eCall bTuple (aCons (eFin finL (eComp (iVal (eVar 1)) [2] (tName 2) bYes (eCall f_shown (aCons (eVar 0) (aCons (eVar 2) aNil))))) aNil)))
noncomputable def f_row_seen : List D → M D := fn0 1 b_row_seen
noncomputable def b_whole_of : Rho → M Fl :=
  (sSeq (sAsg (eMeth "Marks" "mark" f_Marks_mark (eMake "Marks" f_Marks_init (aCons (eVar 0) aNil)) (aCons (eVar 1) aNil)) (tName 2))
  (sRet (eIf (bVal (eIsi ["str"] (eVar 2))) (eVar 2) (eC .non))))
noncomputable def f_whole_of : List D → M D := fn0 1 b_whole_of
noncomputable def b__law_spiral_right : Rho → M Fl :=
  (sSeq (sAsg (eTup (aCons (eTup aNil) (aCons (eC (.int 0)) (aCons (eC (.int 0)) aNil)))) (tTupZ 3 (tsCons (tName 7) (tsCons (tName 8) (tsCons (tName 9) tsNil)))))
  (sSeq (sFor (iRng1 (aCons (eC (.int 9)) aNil)) (tName 5) (sSeq (sAsg (eOp opAdd (eVar 7) (eCall f_row_seen (aCons (eCall f_back (aCons (eVar 8) aNil)) (aCons (eVar 3) aNil)))) (tName 7))
  (sSeq (sPar2 8 9 (aCons (eCall f_behind (aCons (eVar 8) (aCons (eVar 4) aNil))) (aCons (eOp opAdd (eVar 9) (eC (.int 1))) aNil)))
  (sSeq (sIf (bNot (bVal (eCall f_alike (aCons (eVar 1) (aCons (eCall f_sight_at (aCons (eVar 1) (aCons (eVar 2) (aCons (eVar 7) aNil)))) (aCons (eCall f_turned (aCons (eVar 2) (aCons (eVar 8) aNil))) aNil)))))) (sRet (eC (.bl false))) sSkip)
  (sIf (bVal (eOp opEq (eVar 8) (eC (.int 0)))) sBrk sSkip)))))
  (sSeq (sIf (bOr (bVal (eOp opNe (eVar 8) (eC (.int 0)))) (bVal (eOp opNotIn (eVar 9) (eTup (aCons (eC (.int 1)) (aCons (eC (.int 2)) (aCons (eC (.int 4)) aNil))))))) (sRet (eC (.bl false))) sSkip)
  (sSeq (sAsg (eTup (aCons (eCall bTuple (aCons (eFin finL (eComp (iRng1 (aCons (eCall f__law_take (aCons (eVar 0) (aCons (eC (.int 5)) aNil))) aNil)) [10] (tName 10) bYes (eCall f__law_take (aCons (eVar 0) (aCons (eC (.int 4)) aNil))))) aNil)) (aCons (eTup (aCons (eCall f__law_take (aCons (eVar 0) (aCons (eC (.int 4)) aNil))) (aCons (eCall f__law_take (aCons (eVar 0) (aCons (eC (.int 4)) aNil))) aNil))) aNil))) (tName 6))
  (sSeq (sIf (bVal (eOp opNe (eCall bRepr (aCons (eCall f_colour_at (aCons (eVar 1) (aCons (eVar 2) (aCons (eTup (aCons (eOp opAdd (eVar 7) (eOp opIx (eVar 6) (eC (.int 0)))) (aCons (eOp opIx (eVar 6) (eC (.int 1))) aNil))) aNil)))) aNil)) (eCall bRepr (aCons (eCall f_colour_at (aCons (eVar 1) (aCons (eVar 2) (aCons (eVar 6) aNil)))) aNil)))) (sRet (eC (.bl false))) sSkip)
  (sSeq (sIf (bNot (bVal (eCall (f__law_same 4) (aCons (eCall f_drawn (aCons (eVar 1) (aCons (eCall f_sight_at (aCons (eVar 1) (aCons (eVar 2) (aCons (eVar 7) aNil)))) (aCons (eC (.int 2)) aNil)))) (aCons (eCall f_drawn (aCons (eVar 1) (aCons (eVar 2) (aCons (eC (.int 2)) aNil)))) aNil))))) (sRet (eC (.bl false))) sSkip)
  (sRet (eCall (f__law_same 4) (aCons (eCall f_colour_at (aCons (eVar 1) (aCons (eVar 2) (aCons (eTup (aCons (eTup aNil) (aCons (eVar 7) aNil))) aNil)))) (aCons (eCall f_whole_of (aCons (eVar 1) (aCons (eVar 2) aNil))) aNil))))))))))
noncomputable def f__law_spiral_right : List D → M D := fn0 6 b__law_spiral_right
noncomputable def b_turns_by : Rho → M Fl :=
  (sRet (eFin finL (eComp (iRng1 (aCons (eCall bLen (aCons (eC c_SHOWN) aNil)) aNil)) [3] (tName 3) (bVal (eOp opEq (eMeth "Marks" "mark" f_Marks_mark (eVar 0) (aCons (eCall f_turned (aCons (eVar 1) (aCons (eVar 3) aNil))) aNil)) (eMeth "Marks" "mark" f_Marks_mark (eVar 0) (aCons (eVar 2) aNil)))) (eVar 3))))
noncomputable def f_turns_by : List D → M D := fn0 1 b_turns_by
noncomputable def b_turns_between : Rho → M Fl :=
  (sRet (eCall f_turns_by (aCons (eMake "Marks" f_Marks_init (aCons (eVar 0) aNil)) (aCons (eVar 1) (aCons (eVar 2) aNil)))))
noncomputable def f_turns_between : List D → M D := fn0 0 b_turns_between
noncomputable def b__law_pic_right : Rho → M Fl :=
  (sSeq (sIf (bVal (eIsi ["str"] (eVar 2))) (sRet (eC (.bl true))) sSkip)
  (sSeq (sAsg (eCall f__law_rows_to (aCons (eVar 1) (aCons (eVar 2) aNil))) (tName 3))
  (sSeq (sAsg (eFin finL (eComp (iRng1 (aCons (eOp opMul (eC (.int 2)) (eCall bInt (aCons (eOp opNe (eVar 3) (eLst aNil)) aNil))) aNil)) [6] (tName 6) bYes (eOp opIx (eVar 3) (eCall f__law_take (aCons (eVar 0) (aCons (eCall bLen (aCons (eVar 3) aNil)) aNil)))))) (tName 4))
  (sSeq (sAsg (eCall bTuple (aCons (eFin finL (eComp (iRng1 (aCons (eOp opAdd (eC (.int 1)) (eCall f__law_take (aCons (eVar 0) (aCons (eC (.int 3)) aNil)))) aNil)) [6] (tName 6) bYes (eCall f__law_take (aCons (eVar 0) (aCons (eC (.int 4)) aNil))))) aNil)) (tName 5))
  (sSeq (sAsg (eOp opAdd (eVar 4) (eFin finL (eComp (iVal (eSl (eCall f_turns_between (aCons (eVar 1) (aCons (eVar 2) (aCons (eCall f_sight_at (aCons (eVar 1) (aCons (eVar 2) (aCons (eVar 5) aNil)))) aNil)))) (oSome (eUn opNeg (eC (.int 1)))) oNone)) [7] (tName 7) bYes (eTup (aCons (eVar 5) (aCons (eVar 7) aNil)))))) (tName 4))
  (sRet (eCall bAll (aCons (eFin finL (eComp (iVal (eVar 4)) [5, 7] (tTupZ 2 (tsCons (tName 5) (tsCons (tName 7) tsNil))) bYes (eCall f__law_spiral_right (aCons (eVar 0) (aCons (eVar 1) (aCons (eVar 2) (aCons (eVar 5) (aCons (eVar 7) aNil)))))))) aNil))))))))
noncomputable def f__law_pic_right : List D → M D := fn0 5 b__law_pic_right
noncomputable def b__law_right : Rho → M Fl :=
  (sSeq (sAsg (eCall f__law_names (aCons (eVar 0) (aCons (eC (.int 3)) aNil))) (tName 1))
  (sSeq (sAsg (eCall f__law_house (aCons (eVar 0) (aCons (eVar 1) (aCons (eC (.int 5)) aNil)))) (tName 2))
  (sSeq (sAsg (eCall bLen (aCons (eVar 2) aNil)) (tName 3))
  (sSeq (sAsg (eLst (aCons (eTup (aCons (eVar 3) (aCons (eCall f__law_take (aCons (eVar 0) (aCons (eC (.int 8)) aNil))) aNil))) (aCons (eCall f__law_sight (aCons (eVar 0) (aCons (eVar 1) (aCons (eVar 3) aNil)))) (aCons (eOp opIx (eVar 1) (eCall f__law_take (aCons (eVar 0) (aCons (eC (.int 3)) aNil)))) (aCons (eOp opIx (eVar 1) (eC (.int 0))) aNil))))) (tName 4))
  (sSeq (sAsg (eCall f__law_take (aCons (eVar 0) (aCons (eC (.int 4)) aNil))) (tName 5))
  (sSeq (sAsg (eOp opAdd (eVar 2) (eTup (aCons (eCall bTuple (aCons (eOp opAdd (eSl (eVar 4) (oSome (eVar 5)) oNone) (eSl (eVar 4) oNone (oSome (eVar 5)))) aNil)) aNil))) (tName 2))
  (sSeq (sAsg (eOp opAdd (eFin finL (eComp (iRng1 (aCons (eC (.int 3)) aNil)) [7] (tName 7) bYes (eCall f__law_sight (aCons (eVar 0) (aCons (eVar 1) (aCons (eCall bLen (aCons (eVar 2) aNil)) aNil)))))) (eLst (aCons (eTup (aCons (eVar 3) (aCons (eCall f__law_take (aCons (eVar 0) (aCons (eC (.int 8)) aNil))) aNil))) aNil))) (tName 6))
  (sRet (eCall bAll (aCons (eFin finL (eComp (iVal (eVar 6)) [8] (tName 8) bYes (eCall f__law_pic_right (aCons (eVar 0) (aCons (eVar 2) (aCons (eVar 8) aNil)))))) aNil))))))))))
noncomputable def f__law_right : List D → M D := fn0 8 b__law_right
noncomputable def b_law : Rho → M Fl :=
  (sSeq (sAsg (eCall f__law_cells (aCons (eVar 0) (aCons (eC (.int 2)) aNil))) (tName 1))
  (sRet (eCall bAll (aCons (eFin finL (eComp (iRng1 (aCons (eCall bLen (aCons (eVar 1) aNil)) aNil)) [2] (tName 2) bYes (eCall f__law_right (aCons (eCall f__law_box (aCons (eVar 1) (aCons (eVar 2) aNil))) aNil)))) aNil))))
noncomputable def f_law : List D → M D := fn0 2 b_law
end Pg
set_option Elab.async false
set_option linter.all false
set_option maxRecDepth 100000
set_option maxHeartbeats 1000000
/-! M1: turns, panes. -/
namespace Pg
open Z
open PySem (Str sizeLine)
open L2 (atI)
def behI (a b : Int) : Int := (b + (if b < 4 then a else -a)) % 4 + 4 * (if a / 4 = b / 4 then 0 else 1)
theorem f_behind_eq (a b : Int) (S : Sto) : f_behind [.int a, .int b] S = .val (.int (behI a b)) S := by
  by_cases h1 : b < 4 <;> by_cases h2 : a / 4 = b / 4 <;>
    simp [f_behind, b_behind, c_QUARTERS, h1, h2, behI]
/-- turns as numbers -/
def beh (a b : Nat) : Nat := (behI a b).toNat
theorem beh_ok : ∀ a : Nat, a < 8 → ∀ b : Nat, b < 8 → behI (a : Int) (b : Int) = ((beh a b : Nat) : Int) ∧ beh a b < 8 := by decide
theorem f_behind_n {a b : Nat} (ha : a < 8) (hb : b < 8) (S : Sto) : f_behind [.int a, .int b] S = .val (.int (beh a b : Nat)) S := by rw [f_behind_eq, (beh_ok a ha b hb).1]
theorem beh_lt {a b : Nat} (ha : a < 8) (hb : b < 8) : beh a b < 8 := (beh_ok a ha b hb).2
def shT : List (List Nat) := [[0, 1, 2, 3], [2, 0, 3, 1], [3, 2, 1, 0], [1, 3, 0, 2], [1, 0, 3, 2], [3, 1, 2, 0], [2, 3, 0, 1], [0, 2, 1, 3]]
def shw (t q : Nat) : Nat := (shT.getD t []).getD q 0
theorem shw_lt : ∀ t < 8, ∀ q < 4, shw t q < 4 := by decide
theorem f_shown_n {t q : Nat} (ht : t < 8) (hq : q < 4) (S : Sto) : f_shown [.int t, .int q] S = .val (.int (shw t q : Nat)) S := by
  have e1 : ∀ t < 8, ∃ r, shT[t]? = some r ∧ r.length = 4 := by decide
  obtain ⟨r, hr, hl⟩ := e1 t ht
  have e2 : c_SHOWN = .tup (shT.map fun r => .tup (r.map fun (n : Nat) => D.int (n : Int))) := by simp [c_SHOWN, shT]
  have hq' : q < r.length := by omega
  have e3 : shw t q = r[q] := by unfold shw; simp [List.getD, hr, hq']
  have a1 : atI (shT.map fun r => D.tup (r.map fun (n : Nat) => D.int (n : Int))) (t : Int) = some (.tup (r.map fun (n : Nat) => D.int (n : Int))) := by rw [atI_nat, List.getElem?_map, hr]; rfl
  have a2 : atI (r.map fun (n : Nat) => D.int (n : Int)) (q : Int) = some (.int (r[q] : Nat)) := by rw [atI_nat, List.getElem?_map, List.getElem?_eq_getElem hq']; rfl
  rw [e3]
  simp [f_shown, b_shown, e2, opIx_tup a1, opIx_tup a2]
def bck (t : Nat) : Nat := ((List.range 8).filter fun o => beh t o == 0).getD 0 0
theorem bck_lt : ∀ t < 8, bck t < 8 := by decide
theorem f_back_n {t : Nat} (ht : t < 8) (S : Sto) : f_back [.int t] S = .val (.int (bck t : Nat)) S := by
  have hc := lc_pure (f := iRng1 (aCons (eCall bLen (aCons (eC c_SHOWN) aNil)) aNil)) (own := [1]) (g := tName 1) (t := bVal (eOp opEq (eCall f_behind (aCons (eVar 0) (aCons (eVar 1) aNil))) (eC (.int 0)))) (e := eVar 1) (ρ := [some (.int t), none]) (S := S) (fun d => d)
    (fun d => match d with | .int i => decide (behI t i = 0) | _ => false) (fun d => [some (.int t), some d]) (rng1_n (n := 8) rfl (by omega)) (by simp) True.intro (fun d _ => by simp [wipeR]) (fun d hd => by
      obtain ⟨i, _, rfl⟩ := rangeD_mem hd
      simp [f_behind_eq]) (fun d _ _ => by simp)
  have hl : ∀ t < 8, ((List.range 8).filter fun o => beh t o == 0)[0]? = some (bck t) := by decide
  have hf : ((rangeD 8).filter fun d => match d with | .int i => decide (behI t i = 0) | _ => false) = ((List.range 8).filter fun o => beh t o == 0).map fun (i : Nat) => D.int (i : Int) := by
    unfold rangeD
    rw [List.filter_map]
    congr 1
    apply List.filter_congr
    intro o ho
    have ho8 : o < 8 := List.mem_range.mp ho
    have e := (beh_ok t ht o ho8).1
    simp only [Function.comp]
    rw [e]
    by_cases h : beh t o = 0
    · simp [h]
    · simp [h]
  rw [always_items, hf, show ∀ l : List D, l.map (fun d => d) = l from List.map_id'] at hc
  refine fn0_ret ?_
  show (eFin finL _ _ S).bind _ = _
  refine Eq.trans (congrArg (fun o => Out.bind o _) hc) ?_
  have h0 : atI (List.map (fun (i : Nat) => D.int (i : Int)) ((List.range 8).filter fun o => beh t o == 0)) 0 = some (.int (bck t : Nat)) := by
    rw [atI_0, List.getElem?_map, hl t ht]; rfl
  exact opIx_lst h0
/-! ### sights -/
inductive Sg where
  | col (x : Str) | pan (p t : Nat)
  deriving Inhabited, DecidableEq
def sgD : Sg → D
  | .col x => .str x
  | .pan p t => .tup [.int p, .int t]
abbrev House := List (List Sg)
def roD (r : List Sg) : D := .tup (r.map sgD)
def hsD (h : House) : D := .tup (h.map roD)
def Sg.ok (n : Nat) : Sg → Prop
  | .col _ => True
  | .pan p t => p < n ∧ t < 8
def WF (h : House) : Prop := ∀ r ∈ h, r.length = 4 ∧ ∀ s ∈ r, s.ok h.length
def Sg.turn : Sg → Nat → Sg
  | .col x, _ => .col x
  | .pan p t, d => .pan p (beh t d)
def quar (h : House) : Sg → Nat → Sg
  | .col x, _ => .col x
  | .pan p t, q => ((h.getD p []).getD (shw t q) default).turn t
def sightAt (h : House) (s : Sg) (row : List Nat) : Sg := row.foldl (quar h) s
theorem sgD_col (x : Str) : sgD (.col x) = .str x := rfl
theorem sgD_pan (p t : Nat) : sgD (.pan p t) = .tup [.int p, .int t] := rfl
theorem sgD_inj : ∀ {a b : Sg}, sgD a = sgD b → a = b
  | .col x, .col y, h => by simp [sgD] at h; rw [h]
  | .col x, .pan p t, h => by simp [sgD] at h
  | .pan p t, .col x, h => by simp [sgD] at h
  | .pan p t, .pan p' t', h => by simp [sgD] at h; rw [Int.ofNat_inj.mp h.1, Int.ofNat_inj.mp h.2]
theorem turn_ok {n d : Nat} (hd : d < 8) : ∀ {s : Sg}, s.ok n → (s.turn d).ok n
  | .col _, _ => True.intro
  | .pan p t, h => ⟨h.1, beh_lt h.2 hd⟩
theorem cell_at {h : House} (wf : WF h) {p : Nat} (hp : p < h.length) {k : Nat} (hk : k < 4) : ∃ r s, h[p]? = some r ∧ r[k]? = some s ∧ (h.getD p []).getD k default = s ∧ s.ok h.length := by
  have hr : h[p]? = some h[p] := List.getElem?_eq_getElem hp
  obtain ⟨hl, ho⟩ := wf h[p] (List.getElem_mem hp)
  have hk' : k < h[p].length := by omega
  have hs : h[p][k]? = some h[p][k] := List.getElem?_eq_getElem hk'
  exact ⟨h[p], h[p][k], hr, hs, by simp [List.getD, hr, hs], ho _ (List.getElem_mem hk')⟩
theorem quar_ok {h : House} (wf : WF h) {q : Nat} (hq : q < 4) : ∀ {s : Sg}, s.ok h.length → (quar h s q).ok h.length
  | .col _, _ => True.intro
  | .pan p t, ho => by
    obtain ⟨r, s, _, _, e, o⟩ := cell_at wf ho.1 (shw_lt t ho.2 q hq)
    show (((h.getD p []).getD (shw t q) default).turn t).ok h.length
    rw [e]
    exact turn_ok ho.2 o
theorem sightAt_ok {h : House} (wf : WF h) : ∀ {row : List Nat} {s : Sg}, (∀ q ∈ row, q < 4) → s.ok h.length → (sightAt h s row).ok h.length
  | [], s, _, ho => ho
  | q :: row, s, hr, ho => sightAt_ok wf (row := row) (fun x hx => hr x (List.mem_cons_of_mem _ hx)) (quar_ok wf (hr q List.mem_cons_self) ho)
theorem f_turned_n {n d : Nat} (hd : d < 8) (S : Sto) : ∀ {s : Sg}, s.ok n → f_turned [sgD s, .int d] S = .val (sgD (s.turn d)) S
  | .col x, _ => by simp [f_turned, b_turned, sgD, Sg.turn]
  | .pan p t, ho => by simp [f_turned, b_turned, sgD, Sg.turn, f_behind_n ho.2 hd]
theorem ix_house {h : House} {p : Nat} {r : List Sg} (hr : h[p]? = some r) (S : Sto) : opIx (hsD h) (.int p) S = .val (roD r) S := opIx_tup (by rw [atI_nat, List.getElem?_map, hr]; rfl)
theorem ix_row {r : List Sg} {k : Nat} {s : Sg} (hs : r[k]? = some s) (S : Sto) : opIx (roD r) (.int k) S = .val (sgD s) S := opIx_tup (by rw [atI_nat, List.getElem?_map, hs]; rfl)
theorem f_quarter_of_n {h : House} (wf : WF h) {q : Nat} (hq : q < 4) (S : Sto) : ∀ {s : Sg}, s.ok h.length → f_quarter_of [hsD h, sgD s, .int q] S = .val (sgD (quar h s q)) S
  | .col x, _ => by simp [f_quarter_of, b_quarter_of, sgD, quar]
  | .pan p t, ho => by
    obtain ⟨r, s, e1, e2, e3, o⟩ := cell_at wf ho.1 (shw_lt t ho.2 q hq)
    have eq : quar h (.pan p t) q = s.turn t := by show ((h.getD p []).getD (shw t q) default).turn t = _; rw [e3]
    rw [eq]
    simp [f_quarter_of, b_quarter_of, sgD_pan, f_shown_n ho.2 hq, ix_house e1, ix_row e2, f_turned_n ho.2 S o]
def rowD (row : List Nat) : D := .tup (row.map fun (q : Nat) => D.int (q : Int))
theorem f_sight_at_n {h : House} (wf : WF h) {row : List Nat} (hr : ∀ q ∈ row, q < 4) {s : Sg} (ho : s.ok h.length) (S : Sto) : f_sight_at [hsD h, sgD s, rowD row] S = .val (sgD (sightAt h s row)) S := by
  obtain ⟨ρ', S', e, j⟩ := forL_all (ok := fun _ => True) (g := tName 3) (b := sAsg (eCall f_quarter_of (aCons (eVar 0) (aCons (eVar 1) (aCons (eVar 3) aNil)))) (tName 1)) (ds := row.map fun (q : Nat) => D.int (q : Int)) (ρ := [some (hsD h), some (sgD s), some (rowD row), none]) (S := S)
    (fun k ρ S' => S' = S ∧ ∃ x, ρ = [some (hsD h), some (sgD (sightAt h s (row.take k))), some (rowD row), x]) (fun _ _ _ _ => True.intro) ⟨rfl, none, rfl⟩ (by
      rintro k d ρ S' hd ⟨rfl, x, rfl⟩
      rw [List.getElem?_map] at hd
      obtain ⟨q, hq, rfl⟩ := Option.map_eq_some_iff.mp hd
      have hq4 := hr q (List.mem_of_getElem? hq)
      have ok1 : (sightAt h s (row.take k)).ok h.length := sightAt_ok wf (fun x hx => hr x (List.mem_of_mem_take hx)) ho
      refine ⟨_, S', [some (hsD h), some (sgD (sightAt h s (row.take (k + 1)))), some (rowD row), some (.int q)], S', rfl, .inl ?_, rfl, _, rfl⟩
      have e1 : row.take (k + 1) = row.take k ++ [q] := by rw [List.take_succ, hq]; rfl
      have e2 : sightAt h s (row.take k ++ [q]) = quar h (sightAt h s (row.take k)) q := by simp [sightAt]
      simp [f_quarter_of_n wf hq4 S' ok1, e1, e2])
  obtain ⟨rfl, x, rfl⟩ := j
  rw [List.length_map, List.take_length] at e
  simp [f_sight_at, b_sight_at]
  rw [show srcOf (rowD row) S' = .val (always (row.map fun (q : Nat) => D.int (q : Int))) S' from rfl]
  simp only [always_ok, always_items]
  rw [e]
  rfl
theorem f_quarters_of_n {h : House} (wf : WF h) {s : Sg} (ho : s.ok h.length) (S : Sto) : f_quarters_of [hsD h, sgD s] S = .val (.lst ((List.range 4).map fun q => sgD (quar h s q))) S := by
  have hc := lc_map (f := iRng1 (aCons (eC c_QUARTERS) aNil)) (own := [2]) (g := tName 2) (e := eCall f_quarter_of (aCons (eVar 0) (aCons (eVar 1) (aCons (eVar 2) aNil)))) (ρ := [some (hsD h), some (sgD s), none]) (S := S) (fun d => match d with | .int i => sgD (quar h s i.toNat) | d => d) (fun d => [some (hsD h), some (sgD s), some d])
    (rng1_n (n := 4) rfl (by omega)) (by simp) True.intro (fun d _ => by simp [wipeR]) (fun d hd => by
      obtain ⟨i, hi, rfl⟩ := rangeD_mem hd
      simp [f_quarter_of_n wf hi S ho])
  refine fn0_ret (hc.trans ?_)
  simp [rangeD]
end Pg
set_option Elab.async false
set_option linter.all false
set_option maxRecDepth 100000
set_option maxHeartbeats 1000000
/-! M2: plain mathematics: turning, wholes, marks. -/
namespace Pg
open Z
open PySem (Str sizeLine)
/-! ### turns -/
theorem beh_assoc : ∀ a : Nat, a < 8 → ∀ b : Nat, b < 8 → ∀ c : Nat, c < 8 → beh (beh a b) c = beh a (beh b c) := by decide
theorem beh_zero : ∀ a : Nat, a < 8 → beh a 0 = a := by decide
theorem zero_beh : ∀ a : Nat, a < 8 → beh 0 a = a := by decide
theorem beh_bck : ∀ a : Nat, a < 8 → beh a (bck a) = 0 := by decide
theorem bck_beh : ∀ a : Nat, a < 8 → beh (bck a) a = 0 := by decide
theorem shw_beh : ∀ t : Nat, t < 8 → ∀ d : Nat, d < 8 → ∀ q : Nat, q < 4 → shw (beh t d) q = shw t (shw d q) := by decide
theorem shw_zero : ∀ q : Nat, q < 4 → shw 0 q = q := by decide
theorem turn_turn {n a b : Nat} (ha : a < 8) (hb : b < 8) : ∀ {s : Sg}, s.ok n → (s.turn a).turn b = s.turn (beh a b)
  | .col x, _ => rfl
  | .pan p t, h => by show Sg.pan p (beh (beh t a) b) = Sg.pan p (beh t (beh a b)); rw [beh_assoc t h.2 a ha b hb]
theorem turn_zero {n : Nat} : ∀ {s : Sg}, s.ok n → s.turn 0 = s
  | .col x, _ => rfl
  | .pan p t, h => by show Sg.pan p (beh t 0) = _; rw [beh_zero t h.2]
theorem quar_turn {h : House} (wf : WF h) {d q : Nat} (hd : d < 8) (hq : q < 4) : ∀ {s : Sg}, s.ok h.length → quar h (s.turn d) q = (quar h s (shw d q)).turn d
  | .col x, _ => rfl
  | .pan p t, ho => by
    have hs : shw (beh t d) q = shw t (shw d q) := shw_beh t ho.2 d hd q hq
    obtain ⟨r, s, e1, e2, e3, o⟩ := cell_at wf ho.1 (shw_lt t ho.2 (shw d q) (shw_lt d hd q hq))
    show ((h.getD p []).getD (shw (beh t d) q) default).turn (beh t d) = (((h.getD p []).getD (shw t (shw d q)) default).turn t).turn d
    rw [hs, e3, turn_turn ho.2 hd o]
theorem sightAt_turn {h : House} (wf : WF h) {d : Nat} (hd : d < 8) : ∀ {row : List Nat} {s : Sg}, (∀ q ∈ row, q < 4) → s.ok h.length → sightAt h (s.turn d) row = (sightAt h s (row.map (shw d))).turn d
  | [], s, _, _ => rfl
  | q :: row, s, hr, ho => by
    have hq := hr q List.mem_cons_self
    show sightAt h (quar h (s.turn d) q) row = _
    rw [quar_turn wf hd hq ho]
    exact sightAt_turn wf hd (row := row) (fun x hx => hr x (List.mem_cons_of_mem _ hx)) (quar_ok wf (shw_lt d hd q hq) ho)
theorem sightAt_append (h : House) (s : Sg) (a b : List Nat) : sightAt h s (a ++ b) = sightAt h (sightAt h s a) b := by simp [sightAt]
theorem sightAt_col (h : House) (x : Str) : ∀ row : List Nat, sightAt h (.col x) row = .col x
  | [] => rfl
  | q :: row => sightAt_col h x row
/-- the row seen from behind the turn d -/
theorem sightAt_seen {h : House} (wf : WF h) {d : Nat} (hd : d < 8) {row : List Nat} {s : Sg} (hr : ∀ q ∈ row, q < 4) (ho : s.ok h.length) : sightAt h (s.turn d) (row.map (shw (bck d))) = (sightAt h s row).turn d := by
  have hb := bck_lt d hd
  rw [sightAt_turn wf hd (fun q hq => by obtain ⟨q', h1, rfl⟩ := List.mem_map.mp hq; exact shw_lt _ hb q' (hr q' h1)) ho, List.map_map]
  have e : row.map (shw d ∘ shw (bck d)) = row := by
    rw [List.map_congr_left (g := id) fun q hq => by
      show shw d (shw (bck d) q) = q
      rw [← shw_beh d hd (bck d) hb q (hr q hq), beh_bck d hd, shw_zero q (hr q hq)], List.map_id]
  rw [e]
/-! ### wholes -/
def whBy (f : Nat → Option Str) : Sg → Option Str
  | .col x => some x
  | .pan p _ => f p
def oneOf : List (Option Str) → Option Str
  | [] => none
  | x :: r => if r.all (fun y => decide (y = x)) = true then x else none
def wh (h : House) : Nat → Nat → Option Str
  | 0, _ => none
  | k + 1, p => oneOf ((h.getD p []).map (whBy (wh h k)))
theorem oneOf_some {c : Str} {l : List (Option Str)} (h : oneOf l = some c) : l ≠ [] ∧ ∀ x ∈ l, x = some c := by
  cases l with
  | nil => cases h
  | cons x r =>
    simp only [oneOf] at h
    by_cases ha : r.all (fun y => decide (y = x)) = true
    · rw [if_pos ha] at h
      refine ⟨by simp, fun y hy => ?_⟩
      rcases List.mem_cons.mp hy with e | e
      · rw [e]; exact h
      · rw [of_decide_eq_true (List.all_eq_true.mp ha y e)]; exact h
    · rw [if_neg ha] at h; cases h
theorem oneOf_of {c : Str} {l : List (Option Str)} (hn : l ≠ []) (h : ∀ x ∈ l, x = some c) : oneOf l = some c := by
  cases l with
  | nil => exact absurd rfl hn
  | cons x r =>
    simp only [oneOf]
    rw [if_pos (List.all_eq_true.mpr fun y hy => decide_eq_true ((h y (List.mem_cons_of_mem _ hy)).trans (h x List.mem_cons_self).symm))]
    exact h x List.mem_cons_self
theorem wh_mono (h : House) : ∀ {k p : Nat} {c : Str}, wh h k p = some c → wh h (k + 1) p = some c
  | 0, p, c, e => by cases e
  | k + 1, p, c, e => by
    obtain ⟨hn, ha⟩ := oneOf_some (l := (h.getD p []).map (whBy (wh h k))) e
    refine oneOf_of (by simpa using hn) fun x hx => ?_
    obtain ⟨s, hs, rfl⟩ := List.mem_map.mp hx
    have q := ha _ (List.mem_map.mpr ⟨s, hs, rfl⟩)
    cases s with
    | col y => exact q
    | pan p' t => exact wh_mono h (k := k) q
theorem whBy_mono {h : House} {k : Nat} {c : Str} : ∀ {s : Sg}, whBy (wh h k) s = some c → whBy (wh h (k + 1)) s = some c
  | .col _, e => e
  | .pan _ _, e => wh_mono h e
theorem whBy_turn (f : Nat → Option Str) (d : Nat) : ∀ s : Sg, whBy f (s.turn d) = whBy f s
  | .col _ => rfl
  | .pan _ _ => rfl
theorem whBy_quar {h : House} (wf : WF h) {k q : Nat} {c : Str} (hq : q < 4) : ∀ {s : Sg}, s.ok h.length → whBy (wh h (k + 1)) s = some c → whBy (wh h k) (quar h s q) = some c
  | .col _, _, e => e
  | .pan p t, ho, e => by
    obtain ⟨r, s, e1, e2, e3, o⟩ := cell_at wf ho.1 (shw_lt t ho.2 q hq)
    obtain ⟨_, ha⟩ := oneOf_some (l := (h.getD p []).map (whBy (wh h k))) e
    show whBy (wh h k) (((h.getD p []).getD (shw t q) default).turn t) = some c
    rw [e3, whBy_turn]
    refine ha _ (List.mem_map.mpr ⟨s, ?_, rfl⟩)
    rw [show h.getD p [] = r from by simp [List.getD, e1]]
    exact List.mem_of_getElem? e2
theorem whBy_quar' {h : House} (wf : WF h) {k q : Nat} {c : Str} (hq : q < 4) {s : Sg} (ho : s.ok h.length) (e : whBy (wh h k) s = some c) : whBy (wh h k) (quar h s q) = some c := by
  cases k with
  | zero =>
    cases s with
    | col x => exact e
    | pan p t => cases e
  | succ k => exact whBy_mono (whBy_quar wf hq ho e)
theorem whBy_row {h : House} (wf : WF h) {k : Nat} {c : Str} : ∀ {row : List Nat} {s : Sg}, (∀ q ∈ row, q < 4) → s.ok h.length → whBy (wh h k) s = some c → whBy (wh h k) (sightAt h s row) = some c
  | [], s, _, _, e => e
  | q :: row, s, hr, ho, e => whBy_row wf (row := row) (fun x hx => hr x (List.mem_cons_of_mem _ hx)) (quar_ok wf (hr q List.mem_cons_self) ho) (whBy_quar' wf (hr q List.mem_cons_self) ho e)
theorem whBy_row1 {h : House} (wf : WF h) {k : Nat} {c : Str} {row : List Nat} {s : Sg} (hn : row ≠ []) (hr : ∀ q ∈ row, q < 4) (ho : s.ok h.length) (e : whBy (wh h (k + 1)) s = some c) : whBy (wh h k) (sightAt h s row) = some c := by
  cases row with
  | nil => exact absurd rfl hn
  | cons q row => exact whBy_row wf (row := row) (fun x hx => hr x (List.mem_cons_of_mem _ hx)) (quar_ok wf (hr q List.mem_cons_self) ho) (whBy_quar wf (hr q List.mem_cons_self) ho e)
/-! ### again and again -/
def again (h : House) (row : List Nat) : Nat → Sg → Sg
  | 0, s => s
  | m + 1, s => again h row m (sightAt h s row)
theorem again_ok {h : House} (wf : WF h) {row : List Nat} (hr : ∀ q ∈ row, q < 4) : ∀ {m : Nat} {s : Sg}, s.ok h.length → (again h row m s).ok h.length
  | 0, s, ho => ho
  | m + 1, s, ho => again_ok wf hr (m := m) (sightAt_ok wf hr ho)
theorem again_succ (h : House) (row : List Nat) : ∀ (m : Nat) (s : Sg), again h row (m + 1) s = sightAt h (again h row m s) row
  | 0, s => rfl
  | m + 1, s => again_succ h row m (sightAt h s row)
theorem again_add (h : House) (row : List Nat) (a : Nat) : ∀ (b : Nat) (s : Sg), again h row (a + b) s = again h row a (again h row b s)
  | 0, s => rfl
  | b + 1, s => again_add h row a b (sightAt h s row)
theorem again_col (h : House) (row : List Nat) (x : Str) : ∀ m : Nat, again h row m (.col x) = .col x
  | 0 => rfl
  | m + 1 => by show again h row m (sightAt h (.col x) row) = _; rw [sightAt_col, again_col h row x m]
theorem again_whole {h : House} (wf : WF h) {row : List Nat} (hn : row ≠ []) (hr : ∀ q ∈ row, q < 4) {c : Str} : ∀ {k : Nat} {s : Sg}, s.ok h.length → whBy (wh h k) s = some c → again h row k s = .col c
  | 0, s, ho, e => by
    cases s with
    | col x => cases e; rfl
    | pan p t => cases e
  | k + 1, s, ho, e => again_whole wf hn hr (k := k) (sightAt_ok wf hr ho) (whBy_row1 wf hn hr ho e)
/-- the colour that is reached -/
def Reach (h : House) (row : List Nat) (s : Sg) (c : Str) : Prop := ∃ m, again h row m s = .col c
theorem Reach.unique {h : House} {row : List Nat} {s : Sg} {c d : Str} (a : Reach h row s c) (b : Reach h row s d) : c = d := by
  obtain ⟨m, e1⟩ := a
  obtain ⟨n, e2⟩ := b
  have f1 : again h row (n + m) s = .col c := by rw [again_add, e1, again_col]
  have f2 : again h row (m + n) s = .col d := by rw [again_add, e2, again_col]
  rw [Nat.add_comm, f2] at f1
  cases f1
  rfl
/-! ### marks -/
inductive MV where
  | inl (x : Str) | inr (n : Nat)
  deriving DecidableEq
def mv (wl : Nat → Option Str) (mk : Nat → Nat → Nat) : Sg → MV
  | .col x => .inl x
  | .pan p t => match wl p with
    | some c => .inl c
    | none => .inr (mk p t)
def sig (h : House) (wl : Nat → Option Str) (mk : Nat → Nat → Nat) (s : Sg) : List MV := (List.range 4).map fun q => mv wl mk (quar h s q)
/-- a pane that is no whole, seen under a turn -/
def Look (h : House) (wl : Nat → Option Str) (p t : Nat) : Prop := p < h.length ∧ t < 8 ∧ wl p = none
structure Good (h : House) (wl : Nat → Option Str) (mk : Nat → Nat → Nat) : Prop where
  fine : ∀ p t p' t', Look h wl p t → Look h wl p' t' → sig h wl mk (.pan p t) = sig h wl mk (.pan p' t') → mk p t = mk p' t'
  turn : ∀ p t p' t', Look h wl p t → Look h wl p' t' → mk p t = mk p' t' → ∀ d < 8, mk p (beh t d) = mk p' (beh t' d)
  coarse : ∀ mk2 : Nat → Nat → Nat, (∀ p t p' t', Look h wl p t → Look h wl p' t' → mk2 p t = mk2 p' t' → sig h wl mk2 (.pan p t) = sig h wl mk2 (.pan p' t')) → ∀ p t p' t', Look h wl p t → Look h wl p' t' → mk2 p t = mk2 p' t' → mk p t = mk p' t'
structure Next (h : House) (wl : Nat → Option Str) (mk mk' : Nat → Nat → Nat) : Prop where
  iff : ∀ p t p' t', Look h wl p t → Look h wl p' t' → (mk' p t = mk' p' t' ↔ sig h wl mk (.pan p t) = sig h wl mk (.pan p' t'))
section
variable {h : House} {wl : Nat → Option Str} {mk mk' : Nat → Nat → Nat}
theorem good0 : Good h wl fun _ _ => 0 := ⟨fun _ _ _ _ _ _ _ => rfl, fun _ _ _ _ _ _ _ _ _ => rfl, fun _ _ _ _ _ _ _ _ _ => rfl⟩
theorem mv_col (x : Str) : mv wl mk (.col x) = .inl x := rfl
theorem mv_whole {p t : Nat} {c : Str} (hw : wl p = some c) : mv wl mk (.pan p t) = .inl c := by simp only [mv, hw]
theorem mv_look {p t : Nat} (hw : wl p = none) : mv wl mk (.pan p t) = .inr (mk p t) := by simp only [mv, hw]
def Sg.mapT (f : Nat → Nat) : Sg → Sg
  | .col x => .col x
  | .pan p t => .pan p (f t)
theorem mv_map {f : Nat → Nat} (hf : ∀ p t p' t', Look h wl p t → Look h wl p' t' → mk p t = mk p' t' → mk' p (f t) = mk' p' (f t')) : ∀ {s s' : Sg}, s.ok h.length → s'.ok h.length → mv wl mk s = mv wl mk s' → mv wl mk' (s.mapT f) = mv wl mk' (s'.mapT f)
  | .col x, .col y, _, _, e => e
  | .col x, .pan p t, _, ho, e => by
    simp only [Sg.mapT]
    cases hw : wl p with
    | some c => rw [mv_whole hw] at e ⊢; exact e
    | none => rw [mv_look hw] at e; cases e
  | .pan p t, .col x, ho, _, e => by
    simp only [Sg.mapT]
    cases hw : wl p with
    | some c => rw [mv_whole hw] at e ⊢; exact e
    | none => rw [mv_look hw] at e; cases e
  | .pan p t, .pan p' t', ho, ho', e => by
    simp only [Sg.mapT]
    cases hw : wl p with
    | some c =>
      cases hw' : wl p' with
      | some c' => rw [mv_whole hw, mv_whole hw'] at e ⊢; exact e
      | none => rw [mv_whole hw, mv_look hw'] at e; cases e
    | none =>
      cases hw' : wl p' with
      | some c' => rw [mv_look hw, mv_whole hw'] at e; cases e
      | none =>
        rw [mv_look hw, mv_look hw'] at e ⊢
        exact congrArg MV.inr (hf p t p' t' ⟨ho.1, ho.2, hw⟩ ⟨ho'.1, ho'.2, hw'⟩ (MV.inr.inj e))
theorem mapT_turn (d : Nat) : ∀ s : Sg, s.mapT (fun t => beh t d) = s.turn d
  | .col _ => rfl
  | .pan _ _ => rfl
theorem mapT_id : ∀ s : Sg, s.mapT (fun t => t) = s
  | .col _ => rfl
  | .pan _ _ => rfl
theorem Good.mv_turn (g : Good h wl mk) {d : Nat} (hd : d < 8) {s s' : Sg} (ho : s.ok h.length) (ho' : s'.ok h.length) (e : mv wl mk s = mv wl mk s') : mv wl mk (s.turn d) = mv wl mk (s'.turn d) := by
  have := mv_map (f := fun t => beh t d) (mk' := mk) (fun p t p' t' l l' e => g.turn p t p' t' l l' e d hd) ho ho' e
  rwa [mapT_turn, mapT_turn] at this
theorem sig_at {s s' : Sg} (e : sig h wl mk s = sig h wl mk s') {q : Nat} (hq : q < 4) : mv wl mk (quar h s q) = mv wl mk (quar h s' q) :=
  List.map_inj_left.mp e q (List.mem_range.mpr hq)
theorem sig_of {s s' : Sg} (e : ∀ q < 4, mv wl mk (quar h s q) = mv wl mk (quar h s' q)) : sig h wl mk s = sig h wl mk s' :=
  List.map_inj_left.mpr fun q hq => e q (List.mem_range.mp hq)
theorem sig_turn (wf : WF h) (g : Good h wl mk) {d : Nat} (hd : d < 8) {s s' : Sg} (ho : s.ok h.length) (ho' : s'.ok h.length) (e : sig h wl mk s = sig h wl mk s') : sig h wl mk (s.turn d) = sig h wl mk (s'.turn d) :=
  sig_of fun q hq => by
    rw [quar_turn wf hd hq ho, quar_turn wf hd hq ho']
    exact g.mv_turn hd (quar_ok wf (shw_lt d hd q hq) ho) (quar_ok wf (shw_lt d hd q hq) ho') (sig_at e (shw_lt d hd q hq))
/-- finer marks tell at least as much -/
theorem mv_finer (fi : ∀ p t p' t', Look h wl p t → Look h wl p' t' → mk' p t = mk' p' t' → mk p t = mk p' t') {s s' : Sg} (ho : s.ok h.length) (ho' : s'.ok h.length) (e : mv wl mk' s = mv wl mk' s') : mv wl mk s = mv wl mk s' := by
  have := mv_map (f := fun t => t) (mk := mk') (mk' := mk) fi ho ho' e
  rwa [mapT_id, mapT_id] at this
theorem Next.finer (g : Good h wl mk) (n : Next h wl mk mk') : ∀ p t p' t', Look h wl p t → Look h wl p' t' → mk' p t = mk' p' t' → mk p t = mk p' t' :=
  fun p t p' t' l l' e => g.fine p t p' t' l l' ((n.iff p t p' t' l l').mp e)
theorem Next.good (wf : WF h) (g : Good h wl mk) (n : Next h wl mk mk') : Good h wl mk' := by
  refine ⟨fun p t p' t' l l' e => (n.iff p t p' t' l l').mpr (sig_of fun q hq => ?_), fun p t p' t' l l' e d hd => ?_, fun mk2 hc p t p' t' l l' e => (n.iff p t p' t' l l').mpr (sig_of fun q hq => ?_)⟩
  · exact mv_finer (n.finer g) (quar_ok wf hq ⟨l.1, l.2.1⟩) (quar_ok wf hq ⟨l'.1, l'.2.1⟩) (sig_at e hq)
  · refine (n.iff p (beh t d) p' (beh t' d) ⟨l.1, beh_lt l.2.1 hd, l.2.2⟩ ⟨l'.1, beh_lt l'.2.1 hd, l'.2.2⟩).mpr ?_
    exact sig_turn wf g hd (s := .pan p t) (s' := .pan p' t') ⟨l.1, l.2.1⟩ ⟨l'.1, l'.2.1⟩ ((n.iff p t p' t' l l').mp e)
  · exact mv_finer (g.coarse mk2 hc) (quar_ok wf hq ⟨l.1, l.2.1⟩) (quar_ok wf hq ⟨l'.1, l'.2.1⟩) (sig_at (hc p t p' t' l l' e) hq)
/-- marks that part no more -/
structure Fin (h : House) (wl : Nat → Option Str) (mk : Nat → Nat → Nat) : Prop where
  good : Good h wl mk
  cong : ∀ p t p' t', Look h wl p t → Look h wl p' t' → mk p t = mk p' t' → sig h wl mk (.pan p t) = sig h wl mk (.pan p' t')
theorem Next.fin (wf : WF h) (g : Good h wl mk) (n : Next h wl mk mk') (same : ∀ p t p' t', Look h wl p t → Look h wl p' t' → mk p t = mk p' t' → mk' p t = mk' p' t') : Fin h wl mk' :=
  ⟨n.good wf g, fun p t p' t' l l' e => sig_of fun q hq => mv_finer same (quar_ok wf hq ⟨l.1, l.2.1⟩) (quar_ok wf hq ⟨l'.1, l'.2.1⟩) (sig_at ((n.iff p t p' t' l l').mp e) hq)⟩
theorem fin_none (hn : ∀ p t, ¬ Look h wl p t) : Fin h wl mk := ⟨⟨fun p t _ _ l => absurd l (hn p t), fun p t _ _ l => absurd l (hn p t), fun _ _ p t _ _ l => absurd l (hn p t)⟩, fun p t _ _ l => absurd l (hn p t)⟩
end
/-- all marks that part no more say the same -/
theorem Fin.same {h : House} {wl : Nat → Option Str} {mk mk2 : Nat → Nat → Nat} (F : Fin h wl mk) (F2 : Fin h wl mk2) {s s' : Sg} (ho : s.ok h.length) (ho' : s'.ok h.length) (e : mv wl mk s = mv wl mk s') : mv wl mk2 s = mv wl mk2 s' :=
  mv_finer (F2.good.coarse mk F.cong) ho ho' e
/-- the wholes of the house -/
def wls (h : House) (p : Nat) : Option Str := wh h h.length p
section
variable {h : House} {mk : Nat → Nat → Nat}
theorem mv_inl {s : Sg} {c : Str} (e : mv (wls h) mk s = .inl c) : whBy (wls h) s = some c := by
  cases s with
  | col x => cases e; rfl
  | pan p t =>
    cases hw : wls h p with
    | some c' => rw [mv_whole hw] at e; cases e; exact hw
    | none => rw [mv_look hw] at e; cases e
theorem mv_of {s : Sg} {c : Str} (e : whBy (wls h) s = some c) : mv (wls h) mk s = .inl c := by
  cases s with
  | col x => cases e; rfl
  | pan p t => exact mv_whole e
/-- alike sights have alike quarters -/
theorem Fin.quar (wf : WF h) (F : Fin h (wls h) mk) {q : Nat} (hq : q < 4) {s s' : Sg} (ho : s.ok h.length) (ho' : s'.ok h.length) (e : mv (wls h) mk s = mv (wls h) mk s') : mv (wls h) mk (quar h s q) = mv (wls h) mk (quar h s' q) := by
  cases hm : mv (wls h) mk s with
  | inl c =>
    rw [mv_of (whBy_quar' wf hq ho (mv_inl hm)), mv_of (whBy_quar' wf hq ho' (mv_inl (e.symm.trans hm)))]
  | inr n =>
    have hm' := e.symm.trans hm
    cases s with
    | col x => cases hm
    | pan p t =>
      cases s' with
      | col x => cases hm'
      | pan p' t' =>
        cases hw : wls h p with
        | some c => rw [mv_whole hw] at hm; cases hm
        | none =>
          cases hw' : wls h p' with
          | some c => rw [mv_whole hw'] at hm'; cases hm'
          | none =>
            rw [mv_look hw] at hm
            rw [mv_look hw'] at hm'
            exact sig_at (F.cong p t p' t' ⟨ho.1, ho.2, hw⟩ ⟨ho'.1, ho'.2, hw'⟩ ((MV.inr.inj hm).trans (MV.inr.inj hm').symm)) hq
theorem Fin.row (wf : WF h) (F : Fin h (wls h) mk) : ∀ {row : List Nat} {s s' : Sg}, (∀ q ∈ row, q < 4) → s.ok h.length → s'.ok h.length → mv (wls h) mk s = mv (wls h) mk s' → mv (wls h) mk (sightAt h s row) = mv (wls h) mk (sightAt h s' row)
  | [], s, s', _, _, _, e => e
  | q :: row, s, s', hr, ho, ho', e => F.row wf (row := row) (fun x hx => hr x (List.mem_cons_of_mem _ hx)) (quar_ok wf (hr q List.mem_cons_self) ho) (quar_ok wf (hr q List.mem_cons_self) ho') (F.quar wf (hr q List.mem_cons_self) ho ho' e)
theorem Fin.again (wf : WF h) (F : Fin h (wls h) mk) {row : List Nat} (hr : ∀ q ∈ row, q < 4) : ∀ {m : Nat} {s s' : Sg}, s.ok h.length → s'.ok h.length → mv (wls h) mk s = mv (wls h) mk s' → mv (wls h) mk (again h row m s) = mv (wls h) mk (again h row m s')
  | 0, s, s', _, _, e => e
  | m + 1, s, s', ho, ho', e => F.again wf hr (m := m) (sightAt_ok wf hr ho) (sightAt_ok wf hr ho') (F.row wf hr ho ho' e)
theorem Fin.reach1 (wf : WF h) (F : Fin h (wls h) mk) {row : List Nat} (hn : row ≠ []) (hr : ∀ q ∈ row, q < 4) {s s' : Sg} {c : Str} (ho : s.ok h.length) (ho' : s'.ok h.length) (e : mv (wls h) mk s = mv (wls h) mk s') (r : Reach h row s c) : Reach h row s' c := by
  obtain ⟨m, hm⟩ := r
  have e1 := F.again wf hr (m := m) ho ho' e
  rw [hm] at e1
  have w : whBy (wls h) (Pg.again h row m s') = some c := mv_inl (e1.symm.trans rfl)
  have := again_whole wf hn hr (again_ok wf hr (m := m) ho') w
  rw [← again_add] at this
  exact ⟨_, this⟩
theorem Fin.reach (wf : WF h) (F : Fin h (wls h) mk) {row : List Nat} (hn : row ≠ []) (hr : ∀ q ∈ row, q < 4) {s s' : Sg} {c : Str} (ho : s.ok h.length) (ho' : s'.ok h.length) (e : mv (wls h) mk s = mv (wls h) mk s') : Reach h row s c ↔ Reach h row s' c :=
  ⟨F.reach1 wf hn hr ho ho' e, F.reach1 wf hn hr ho' ho e.symm⟩
end
end Pg
set_option Elab.async false
set_option linter.all false
set_option maxRecDepth 100000
set_option maxHeartbeats 1000000
/-! M3: wholes_of. -/
namespace Pg
open Z
open PySem (Str sizeLine)
open L2 (atI)
def optD : Option Str → D
  | none => .non
  | some c => .str c
def dec : D → Sg
  | .str x => .col x
  | .tup [.int p, .int t] => .pan p.toNat t.toNat
  | _ => default
@[simp] theorem dec_sgD : ∀ s : Sg, dec (sgD s) = s
  | .col _ => rfl
  | .pan _ _ => rfl
def rowOf : D → List Sg
  | .tup ds => ds.map dec
  | _ => []
@[simp] theorem rowOf_roD (r : List Sg) : rowOf (roD r) = r := by
  show (r.map sgD).map dec = r
  rw [List.map_map]
  exact (List.map_congr_left fun s _ => dec_sgD s).trans (List.map_id _)
@[simp] theorem opEq_opt (a b : Option Str) (S : Sto) : opEq (optD a) (optD b) S = .val (.bl (decide (a = b))) S := by
  cases a <;> cases b <;> simp [optD]
theorem f_one_of_n {l : List (Option Str)} (hn : l ≠ []) (hl : l.length ≤ 1000) (S : Sto) : f_one_of [.lst (l.map optD)] S = .val (optD (oneOf l)) S := by
  obtain ⟨x, r, rfl⟩ := List.exists_cons_of_ne_nil hn
  have h0 : opIx (.lst ((x :: r).map optD)) (.int 0) S = .val (optD x) S := opIx_lst (by rw [atI_0]; rfl)
  have hc := lc_map (f := iVal (eVar 0)) (own := [1]) (g := tName 1) (e := eOp opEq (eVar 1) (eOp opIx (eVar 0) (eC (.int 0)))) (ρ := [some (.lst ((x :: r).map optD)), none]) (S := S)
    (fun d => match d with | .str y => .bl (decide (some y = x)) | _ => .bl (decide (none = x))) (fun d => [some (.lst ((x :: r).map optD)), some d]) (iVal_n rfl rfl) (by rw [always_items, List.length_map]; omega) True.intro
    (fun d _ => by simp [wipeR]) (fun d hd => by
      obtain ⟨y, _, rfl⟩ := List.mem_map.mp hd
      have e : opEq (optD y) (optD x) S = .val (.bl (decide (y = x))) S := opEq_opt y x S
      simp only [eOp, eVar, eC, Out.bind, List.getElem?_cons_zero, List.getElem?_cons_succ, h0, e]
      cases y <;> rfl)
  rw [always_items] at hc
  have hm : ((x :: r).map optD).map (fun d => match d with | .str y => D.bl (decide (some y = x)) | _ => D.bl (decide (none = x))) = ((x :: r).map fun y => decide (y = x)).map D.bl := by
    rw [List.map_map, List.map_map]
    apply List.map_congr_left
    intro y _
    cases y <;> rfl
  rw [hm] at hc
  refine fn0_ret ?_
  have ht : bVal (eCall bAll (aCons (eFin finL (eComp (iVal (eVar 0)) [1] (tName 1) bYes (eOp opEq (eVar 1) (eOp opIx (eVar 0) (eC (.int 0)))))) aNil)) [some (.lst ((x :: r).map optD)), none] S = .val (((x :: r).map fun y => decide (y = x)).all id) S := by
    simp only [bVal, eCall, aCons, aNil, hc, Out.bind, bAll_lst, isBl]
  show eIf _ _ _ [some (.lst ((x :: r).map optD)), none] S = _
  rw [eIf, ht, bind_val]
  have ha : ((x :: r).map fun y => decide (y = x)).all id = r.all fun y => decide (y = x) := by simp
  rw [ha]
  by_cases c : (r.all fun y => decide (y = x)) = true
  · rw [if_pos c]
    have : oneOf (x :: r) = x := by simp only [oneOf]; rw [if_pos c]
    rw [this]
    simp only [eOp, eVar, eC, Out.bind, List.getElem?_cons_zero, h0]
  · rw [if_neg c]
    have : oneOf (x :: r) = none := by simp only [oneOf]; rw [if_neg c]
    rw [this]
    rfl
/-- wholes found in k steps -/
def whL (h : House) (k : Nat) : List D := (List.range h.length).map fun p => optD (wh h k p)
theorem whL_at {h : House} {k p : Nat} (hp : p < h.length) : atI (whL h k) (p : Int) = some (optD (wh h k p)) := by
  rw [atI_nat]
  unfold whL
  rw [List.getElem?_map, List.getElem?_range hp]
  rfl
theorem f_wholes_of_n {h : House} (wf : WF h) (hl : h.length ≤ 1000) (S : Sto) : f_wholes_of [hsD h] S = .val (.lst (whL h h.length)) S := by
  have c0 := lc_map (f := iVal (eVar 0)) (own := [3]) (g := tName 3) (e := eC .non) (ρ := [some (hsD h), none, none, none, none]) (S := S) (fun _ => .non) (fun d => [some (hsD h), none, none, some d, none]) (iVal_n rfl rfl) (by rw [always_items, List.length_map]; omega) True.intro
    (fun d _ => by simp [wipeR]) (fun d _ => rfl)
  have e0 : (List.map (fun _ => D.non) (h.map roD)) = whL h 0 := by
    unfold whL
    apply List.ext_getElem
    · simp
    · intro i h1 h2
      simp [wh, optD]
  rw [always_items, e0] at c0
  -- one more step
  have step : ∀ (k : Nat) (x y z : Option D) (S : Sto), eFin finL (eComp (iVal (eVar 0)) [3] (tName 3) bYes (eCall f_one_of (aCons (eFin finL (eComp (iVal (eVar 3)) [4] (tName 4) bYes (eIf (bVal (eIsi ["str"] (eVar 4))) (eVar 4) (eOp opIx (eVar 1) (eOp opIx (eVar 4) (eC (.int 0))))))) aNil))) [some (hsD h), some (.lst (whL h k)), x, y, z] S = .val (.lst (whL h (k + 1))) S := by
    intro k x y z S
    have inner : ∀ r ∈ h, eFin finL (eComp (iVal (eVar 3)) [4] (tName 4) bYes (eIf (bVal (eIsi ["str"] (eVar 4))) (eVar 4) (eOp opIx (eVar 1) (eOp opIx (eVar 4) (eC (.int 0)))))) [some (hsD h), some (.lst (whL h k)), x, some (roD r), z] S = .val (.lst ((r.map (whBy (wh h k))).map optD)) S := by
      intro r hr
      obtain ⟨hl4, hok⟩ := wf r hr
      have := lc_map (f := iVal (eVar 3)) (own := [4]) (g := tName 4) (e := eIf (bVal (eIsi ["str"] (eVar 4))) (eVar 4) (eOp opIx (eVar 1) (eOp opIx (eVar 4) (eC (.int 0))))) (ρ := [some (hsD h), some (.lst (whL h k)), x, some (roD r), z]) (S := S)
        (fun d => optD (whBy (wh h k) (dec d))) (fun d => [some (hsD h), some (.lst (whL h k)), x, some (roD r), some d]) (iVal_n rfl rfl) (by rw [always_items, List.length_map]; omega) True.intro (fun d _ => by simp [wipeR]) (fun d hd => by
          obtain ⟨s, hs, rfl⟩ := List.mem_map.mp hd
          rw [dec_sgD]
          cases s with
          | col c => simp [sgD_col, whBy, optD]
          | pan p t =>
            have hp := (hok _ hs).1
            simp [sgD_pan, whBy, opIx_lst (whL_at (k := k) hp)])
      rw [this, always_items, List.map_map, List.map_map]
      congr 2
      apply List.map_congr_left
      intro s _
      simp
    have := lc_map (f := iVal (eVar 0)) (own := [3]) (g := tName 3) (e := eCall f_one_of (aCons (eFin finL (eComp (iVal (eVar 3)) [4] (tName 4) bYes (eIf (bVal (eIsi ["str"] (eVar 4))) (eVar 4) (eOp opIx (eVar 1) (eOp opIx (eVar 4) (eC (.int 0))))))) aNil)) (ρ := [some (hsD h), some (.lst (whL h k)), x, y, z]) (S := S)
      (fun d => optD (oneOf ((rowOf d).map (whBy (wh h k))))) (fun d => [some (hsD h), some (.lst (whL h k)), x, some d, z]) (iVal_n rfl rfl) (by rw [always_items, List.length_map]; omega) True.intro (fun d _ => by simp [wipeR]) (fun d hd => by
        obtain ⟨r, hr, rfl⟩ := List.mem_map.mp hd
        have hl4 := (wf r hr).1
        have h1 := inner r hr
        have h2 := f_one_of_n (l := r.map (whBy (wh h k))) (by intro e; have := congrArg List.length e; simp at this; rw [this] at hl4; simp at hl4) (by rw [List.length_map]; omega) S
        simp only [eCall, aCons, aNil, h1, Out.bind, h2, rowOf_roD])
    rw [this, always_items]
    congr 2
    unfold whL
    apply List.ext_getElem
    · simp
    · intro i h1 h2
      simp at h1
      simp [wh, h1]
  obtain ⟨ρ', S', e, j⟩ := forL_all (ok := fun _ => True) (g := tName 2) (b := sAsg (eFin finL (eComp (iVal (eVar 0)) [3] (tName 3) bYes (eCall f_one_of (aCons (eFin finL (eComp (iVal (eVar 3)) [4] (tName 4) bYes (eIf (bVal (eIsi ["str"] (eVar 4))) (eVar 4) (eOp opIx (eVar 1) (eOp opIx (eVar 4) (eC (.int 0))))))) aNil)))) (tName 1)) (ds := h.map roD) (ρ := [some (hsD h), some (.lst (whL h 0)), none, none, none]) (S := S)
    (fun k ρ S' => S' = S ∧ ∃ x, ρ = [some (hsD h), some (.lst (whL h k)), x, none, none]) (fun _ _ _ _ => True.intro) ⟨rfl, none, rfl⟩ (by
      rintro k d ρ S' hd ⟨rfl, x, rfl⟩
      refine ⟨_, S', [some (hsD h), some (.lst (whL h (k + 1))), some d, none, none], S', rfl, .inl ?_, rfl, _, rfl⟩
      have := step k (some d) none none S'
      simp only [sAsg]
      rw [show (([some (hsD h), some (.lst (whL h k)), x, none, none] : Rho).set 2 (some d)) = [some (hsD h), some (.lst (whL h k)), some d, none, none] from rfl, this]
      rfl)
  obtain ⟨rfl, x, rfl⟩ := j
  rw [List.length_map] at e
  show fn0 4 b_wholes_of [hsD h] S' = _
  have e1 : (sAsg (eFin finL (eComp (iVal (eVar 0)) [3] (tName 3) bYes (eC .non))) (tName 1)) [some (hsD h), none, none, none, none] S' = .val (.nx [some (hsD h), some (.lst (whL h 0)), none, none, none]) S' := by
    simp only [sAsg]; rw [c0]; rfl
  have e2 : (sFor (iVal (eVar 0)) (tName 2) (sAsg (eFin finL (eComp (iVal (eVar 0)) [3] (tName 3) bYes (eCall f_one_of (aCons (eFin finL (eComp (iVal (eVar 3)) [4] (tName 4) bYes (eIf (bVal (eIsi ["str"] (eVar 4))) (eVar 4) (eOp opIx (eVar 1) (eOp opIx (eVar 4) (eC (.int 0))))))) aNil)))) (tName 1))) [some (hsD h), some (.lst (whL h 0)), none, none, none] S' = .val (.nx [some (hsD h), some (.lst (whL h h.length)), x, none, none]) S' := by
    simp only [sFor]
    rw [show iVal (eVar 0) [some (hsD h), some (.lst (whL h 0)), none, none, none] S' = .val (always (h.map roD)) S' from rfl, bind_val, always_ok, always_items, e]
  simp only [fn0, b_wholes_of, List.map_cons, List.map_nil, List.cons_append, List.nil_append, List.replicate]
  rw [sSeq, e1, bind_val]
  simp only
  rw [sSeq, e2, bind_val]
  rfl
end Pg
set_option Elab.async false
set_option linter.all false
set_option maxRecDepth 100000
set_option maxHeartbeats 1000000
/-! M4: dicts and gatherings, for plain use. -/
namespace Z
open PySem (Str sizeLine)
/-- a gathering whose parts write nothing, by what stays true -/
theorem compG_all {γ : Type} {ok : Sto → Prop} {g : D → Rho → M Rho} {t : Rho → M Bool} {b : Rho → γ → M γ} {ρ : Rho} {S : Sto} (hok : ok S) (ds0 : List D) (J : Nat → γ → Prop)
    (step : ∀ k d acc, ds0[k]? = some d → J k acc → ∃ ρ1, g d ρ S = .val ρ1 S ∧ ((t ρ1 S = .val false S ∧ J (k + 1) acc) ∨ (t ρ1 S = .val true S ∧ ∃ acc', b ρ1 acc S = .val acc' S ∧ J (k + 1) acc'))) :
    ∀ {ds : List D} {k : Nat} {acc : γ}, ds0.drop k = ds → J k acc → ∃ acc', compG ok g t b ρ ds acc S = .val acc' S ∧ J (k + ds.length) acc'
  | [], k, acc, hd, hJ => ⟨acc, by rw [compG_nil, guard_of hok], hJ⟩
  | d :: ds, k, acc, hd, hJ => by
    have hk : ds0[k]? = some d := by
      have : (ds0.drop k)[0]? = some d := by rw [hd]; rfl
      rw [List.getElem?_drop] at this
      exact this
    have hd' : ds0.drop (k + 1) = ds := by rw [← List.drop_drop, hd]; rfl
    obtain ⟨ρ1, e1, e2⟩ := step k d acc hk hJ
    rcases e2 with ⟨e2, j2⟩ | ⟨e2, acc1, e3, j2⟩
    · obtain ⟨acc', e4, j4⟩ := compG_all hok ds0 J step hd' j2
      refine ⟨acc', ?_, by rw [List.length_cons, Nat.add_comm ds.length 1, ← Nat.add_assoc]; exact j4⟩
      rw [compG_cons, guard_of hok]; simp [e1, e2, e4]
    · obtain ⟨acc', e4, j4⟩ := compG_all hok ds0 J step hd' j2
      refine ⟨acc', ?_, by rw [List.length_cons, Nat.add_comm ds.length 1, ← Nat.add_assoc]; exact j4⟩
      rw [compG_cons, guard_of hok]; simp [e1, e2, e3, e4]
theorem gath_all {γ β : Type} {f : Rho → M Src} {own : List Nat} {g : D → Rho → M Rho} {t : Rho → M Bool} {b : Rho → γ → M γ} {acc0 : γ} {fin : γ → M β} {ρ : Rho} {S S1 : Sto} {src : Src} (J : Nat → γ → Prop) (hf : f ρ S = .val src S1) (hl : src.items.length ≤ 1000000) (hok : src.ok S1) (h0 : J 0 acc0)
    (step : ∀ k d acc, src.items[k]? = some d → J k acc → ∃ ρ1, g d (wipeR ρ own) S1 = .val ρ1 S1 ∧ ((t ρ1 S1 = .val false S1 ∧ J (k + 1) acc) ∨ (t ρ1 S1 = .val true S1 ∧ ∃ acc', b ρ1 acc S1 = .val acc' S1 ∧ J (k + 1) acc'))) :
    ∃ acc', J src.items.length acc' ∧ eGath f own g t b acc0 fin ρ S = fin acc' S1 := by
  obtain ⟨acc', e, j⟩ := compG_all hok src.items J step (ds := src.items) (k := 0) rfl h0
  refine ⟨acc', by simpa using j, ?_⟩
  simp only [eGath, hf, Out.bind, if_pos (szL hl), e]
/-! ### keys -/
structure KeyF {β : Type} (f : β → D) : Prop where
  inj : ∀ a b, nkey (f a) = nkey (f b) → a = b
  key : ∀ a, isKey 8 (f a) = true
section
variable {β : Type} [DecidableEq β] {f : β → D} (kf : KeyF f)
include kf
theorem keyEq_f (a b : β) : keyEq (f a) (f b) = decide (a = b) := by
  unfold keyEq
  by_cases h : a = b
  · subst h; simp
  · rw [decide_eq_false (fun e => h (kf.inj a b e)), decide_eq_false h]
theorem dGet_f (v : β → D) (x : β) : ∀ l : List β, dGet (l.map f) (l.map v) (f x) = if x ∈ l then some (v x) else none
  | [] => by simp [dGet]
  | y :: l => by
    rw [List.map_cons, List.map_cons, dGet, keyEq_f kf]
    by_cases h : y = x
    · subst h; simp
    · have h' : ¬ x = y := fun e => h e.symm
      simp [h, h', dGet_f v x l]
theorem dGet_mem (v : β → D) {x : β} {l : List β} (h : x ∈ l) : dGet (l.map f) (l.map v) (f x) = some (v x) := by rw [dGet_f kf, if_pos h]
theorem dGet_not (v : β → D) {x : β} {l : List β} (h : x ∉ l) : dGet (l.map f) (l.map v) (f x) = none := by rw [dGet_f kf, if_neg h]
theorem dPut_new {x : β} {z : D} : ∀ {l : List β} {vs : List D}, x ∉ l → vs.length = l.length → dPut (l.map f) vs (f x) z = ((l ++ [x]).map f, vs ++ [z])
  | [], vs, _, hl => by
    cases vs with
    | nil => simp [dPut]
    | cons v vs => simp at hl
  | y :: l, vs, h, hl => by
    cases vs with
    | nil => simp at hl
    | cons v vs =>
      have hy : ¬ y = x := fun e => h (by rw [e]; exact List.mem_cons_self)
      rw [List.map_cons, dPut, keyEq_f kf, decide_eq_false hy]
      have ih := dPut_new (x := x) (z := z) (l := l) (vs := vs) (fun m => h (List.mem_cons_of_mem _ m)) (by simpa using hl)
      simp [ih]
end
end Z
set_option Elab.async false
set_option linter.all false
set_option maxRecDepth 100000
set_option maxHeartbeats 1000000
/-! M5: a Marks object, its looks, mark, many. -/
namespace Pg
open Z
open PySem (Str sizeLine)
open L2 (atI)
def looksK (h : House) : Nat → List (Nat × Nat)
  | 0 => []
  | k + 1 => looksK h k ++ if (wls h k).isNone = true then (List.range 8).map (fun t => (k, t)) else []
def looks (h : House) : List (Nat × Nat) := looksK h h.length
theorem mem_looksK {h : House} {p t : Nat} : ∀ {k : Nat}, (p, t) ∈ looksK h k ↔ p < k ∧ t < 8 ∧ wls h p = none
  | 0 => by simp [looksK]
  | k + 1 => by
    rw [looksK, List.mem_append, mem_looksK (k := k)]
    by_cases c : (wls h k).isNone = true
    · rw [if_pos c]
      simp only [List.mem_map, List.mem_range, Prod.mk.injEq]
      constructor
      · rintro (⟨h1, h2, h3⟩ | ⟨u, hu, rfl, rfl⟩)
        · exact ⟨by omega, h2, h3⟩
        · exact ⟨by omega, hu, Option.isNone_iff_eq_none.mp c⟩
      · rintro ⟨h1, h2, h3⟩
        by_cases e : p = k
        · exact .inr ⟨t, h2, e.symm, rfl⟩
        · exact .inl ⟨by omega, h2, h3⟩
    · rw [if_neg c]
      simp only [List.not_mem_nil, or_false]
      constructor
      · rintro ⟨h1, h2, h3⟩
        exact ⟨by omega, h2, h3⟩
      · rintro ⟨h1, h2, h3⟩
        refine ⟨?_, h2, h3⟩
        by_cases e : p = k
        · subst e; exact absurd (Option.isNone_iff_eq_none.mpr h3) c
        · omega
theorem mem_looks {h : House} {p t : Nat} : (p, t) ∈ looks h ↔ Look h (wls h) p t := mem_looksK
theorem nodup_looksK {h : House} : ∀ {k : Nat}, (looksK h k).Nodup
  | 0 => List.nodup_nil
  | k + 1 => by
    rw [looksK]
    by_cases c : (wls h k).isNone = true
    · rw [if_pos c, List.nodup_append]
      refine ⟨nodup_looksK, ?_, ?_⟩
      · refine List.Pairwise.map _ (fun a b hab e => hab (Prod.mk.inj e).2) List.nodup_range
      · rintro ⟨p, t⟩ hp b hb e
        obtain ⟨u, _, rfl⟩ := List.mem_map.mp hb
        have := (mem_looksK.mp hp).1
        cases e
        omega
    · rw [if_neg c, List.append_nil]
      exact nodup_looksK
theorem len_looksK (h : House) : ∀ k : Nat, (looksK h k).length ≤ 8 * k
  | 0 => Nat.le_refl _
  | k + 1 => by
    have := len_looksK h k
    rw [looksK, List.length_append]
    split
    · simp; omega
    · simp; omega
theorem len_looks (h : House) : (looks h).length ≤ 8 * h.length := len_looksK h _
def lkD (l : Nat × Nat) : D := sgD (.pan l.1 l.2)
def mvD : MV → D
  | .inl c => .str c
  | .inr n => .int (n : Int)
def sgnD (l : List MV) : D := .tup (l.map mvD)
theorem key_sg : KeyF sgD where
  inj := by
    intro a b e
    cases a with
    | col x => cases b with
      | col y => simp only [sgD, nkey, PySem.NestedKey.text.injEq] at e; rw [e]
      | pan p t => simp [sgD, nkey] at e
    | pan p t => cases b with
      | col y => simp [sgD, nkey] at e
      | pan p' t' =>
        simp only [sgD, nkey, List.map_cons, List.map_nil, PySem.NestedKey.tup.injEq, List.cons.injEq, PySem.NestedKey.num.injEq, and_true] at e
        rw [Int.ofNat_inj.mp e.1, Int.ofNat_inj.mp e.2]
  key := fun a => by cases a <;> simp [sgD, isKey]
theorem key_lk : KeyF lkD where
  inj := fun a b e => by
    have := key_sg.inj _ _ e
    cases a; cases b
    simp only [Sg.pan.injEq] at this
    exact Prod.ext this.1 this.2
  key := fun a => key_sg.key _
theorem mvk_inj : ∀ {a b : MV}, nkey (mvD a) = nkey (mvD b) → a = b
  | .inl x, .inl y, e => by simp only [mvD, nkey, PySem.NestedKey.text.injEq] at e; rw [e]
  | .inl x, .inr n, e => by simp [mvD, nkey] at e
  | .inr n, .inl x, e => by simp [mvD, nkey] at e
  | .inr n, .inr m, e => by simp only [mvD, nkey, PySem.NestedKey.num.injEq] at e; rw [Int.ofNat_inj.mp e]
theorem mvks_inj : ∀ {a b : List MV}, (a.map mvD).map nkey = (b.map mvD).map nkey → a = b
  | [], [], _ => rfl
  | [], _ :: _, e => by simp at e
  | _ :: _, [], e => by simp at e
  | x :: a, y :: b, e => by
    simp only [List.map_cons, List.cons.injEq] at e
    rw [mvk_inj e.1, mvks_inj e.2]
theorem key_sgn : KeyF sgnD where
  inj := fun a b e => by
    simp only [sgnD, nkey, PySem.NestedKey.tup.injEq] at e
    exact mvks_inj e
  key := fun a => by
    simp only [sgnD, isKey, List.all_eq_true]
    intro x hx
    obtain ⟨y, _, rfl⟩ := List.mem_map.mp hx
    cases y <;> simp [mvD, isKey]
/-! ### the object -/
def foD (h : House) (l : Nat × Nat) : D := .lst ((List.range 4).map fun q => sgD (quar h (.pan l.1 l.2) q))
def mkD (mk : Nat → Nat → Nat) (l : Nat × Nat) : D := .int (mk l.1 l.2 : Nat)
def mfs (h : House) (m : D) : List (Str × D) := [("own_house", hsD h), ("own_wholes", .lst (whL h h.length)), ("own_looks", .lst ((looks h).map lkD)), ("own_fours", .dic ((looks h).map lkD) ((looks h).map (foD h))), ("own_marks", m)]
structure MO (h : House) (mk : Nat → Nat → Nat) (S : Sto) (n : Nat) : Prop where
  ex : ∃ m, S[n]? = some (.ins "Marks" (mfs h m)) ∧ dictOf S m = some ((looks h).map lkD, (looks h).map (mkD mk))
theorem opFld_at {S : Sto} {n : Nat} {c f : Str} {fs : List (Str × D)} {d : D} (hs : S[n]? = some (.ins c fs)) (hf : fs.lookup f = some d) : opFld c f (.ref n) S = .val d S := by
  have : insOf c S (.ref n) = some fs := by simp [insOf, hs]
  simp only [opFld, this, hf]
theorem opIx_dict {S : Sto} {m k d : D} {ks vs : List D} (hm : dictOf S m = some (ks, vs)) (hk : isKey 8 k = true) (hd : dGet ks vs k = some d) : opIx m k S = .val d S := by
  cases m with
  | dic a b => cases hm; simp [opIx, seqL, dictOf, hk, hd]
  | ref n =>
    cases hs : S[n]? with
    | none => simp [dictOf, hs] at hm
    | some c =>
      cases c with
      | dic lk a b => simp [dictOf, hs] at hm; obtain ⟨rfl, rfl⟩ := hm; simp [opIx, seqL, dictOf, hs, hk, hd]
      | lst _ => simp [dictOf, hs] at hm
      | ins _ _ => simp [dictOf, hs] at hm
  | _ => cases hm
section
variable {h : House} {mk : Nat → Nat → Nat} {S : Sto} {n : Nat}
theorem fld_marks {m : D} {r : Rho} (hs : S[n]? = some (.ins "Marks" (mfs h m))) : eFld "Marks" "own_marks" (eVar 0) (some (.ref n) :: r) S = .val m S := by
  simp only [eFld, eVar, List.getElem?_cons_zero, Out.bind]
  exact opFld_at hs (by simp [mfs, List.lookup]; rfl)
theorem fld_wholes {m : D} {r : Rho} (hs : S[n]? = some (.ins "Marks" (mfs h m))) : eFld "Marks" "own_wholes" (eVar 0) (some (.ref n) :: r) S = .val (.lst (whL h h.length)) S := by
  simp only [eFld, eVar, List.getElem?_cons_zero, Out.bind]
  exact opFld_at hs rfl
theorem fld_looks {m : D} {r : Rho} (hs : S[n]? = some (.ins "Marks" (mfs h m))) : eFld "Marks" "own_looks" (eVar 0) (some (.ref n) :: r) S = .val (.lst ((looks h).map lkD)) S := by
  simp only [eFld, eVar, List.getElem?_cons_zero, Out.bind]
  exact opFld_at hs rfl
theorem fld_fours {m : D} {r : Rho} (hs : S[n]? = some (.ins "Marks" (mfs h m))) : eFld "Marks" "own_fours" (eVar 0) (some (.ref n) :: r) S = .val (.dic ((looks h).map lkD) ((looks h).map (foD h))) S := by
  simp only [eFld, eVar, List.getElem?_cons_zero, Out.bind]
  exact opFld_at hs rfl
theorem f_mark_n (mo : MO h mk S n) {s : Sg} (ho : s.ok h.length) : f_Marks_mark [.ref n, sgD s] S = .val (mvD (mv (wls h) mk s)) S := by
  obtain ⟨m, hs, hd⟩ := mo.ex
  cases s with
  | col x => simp [f_Marks_mark, b_Marks_mark, sgD_col, mv_col, mvD]
  | pan p t =>
    have e1 := fld_wholes (r := [some (sgD (.pan p t)), none]) hs
    have e2 : opIx (sgD (.pan p t)) (.int 0) S = .val (.int p) S := by rw [sgD_pan]; exact opIx_tup rfl
    have e3 : opIx (.lst (whL h h.length)) (.int p) S = .val (optD (wls h p)) S := opIx_lst (whL_at ho.1)
    have t1 : (sIf (bVal (eIsi ["str"] (eVar 1))) (sRet (eVar 1)) sSkip) [some (.ref n), some (sgD (.pan p t)), none] S = .val (.nx [some (.ref n), some (sgD (.pan p t)), none]) S := by simp [sgD_pan]
    have t2 : (sAsg (eOp opIx (eFld "Marks" "own_wholes" (eVar 0)) (eOp opIx (eVar 1) (eC (.int 0)))) (tName 2)) [some (.ref n), some (sgD (.pan p t)), none] S = .val (.nx [some (.ref n), some (sgD (.pan p t)), some (optD (wls h p))]) S := by
      simp only [sAsg, eOp, e1, Out.bind, eVar, eC, List.getElem?_cons_succ, List.getElem?_cons_zero, e2, e3, tName]
      rfl
    have t3 : (sRet (eIf (bVal (eOp opIs (eVar 2) (eC .non))) (eOp opIx (eFld "Marks" "own_marks" (eVar 0)) (eVar 1)) (eVar 2))) [some (.ref n), some (sgD (.pan p t)), some (optD (wls h p))] S = .val (.ret (mvD (mv (wls h) mk (.pan p t)))) S := by
      cases hw : wls h p with
      | some c =>
        rw [mv_whole hw]
        simp [optD, mvD]
      | none =>
        rw [mv_look hw]
        have e4 : eFld "Marks" "own_marks" (eVar 0) [some (.ref n), some (sgD (.pan p t)), some D.non] S = .val m S := fld_marks hs
        have hl : (p, t) ∈ looks h := mem_looks.mpr ⟨ho.1, ho.2, hw⟩
        have e5 : opIx m (sgD (.pan p t)) S = .val (.int (mk p t : Nat)) S := opIx_dict hd (key_sg.key _) (dGet_mem key_lk (mkD mk) (x := (p, t)) hl)
        simp only [sRet, eIf, bVal, eOp, eVar, eC, List.getElem?_cons_succ, List.getElem?_cons_zero, Out.bind, optD, opIs_non, isNon_non, isBl, if_pos]
        rw [e4]
        simp only [Out.bind, e5, mvD]
    show fn0 1 b_Marks_mark [.ref n, sgD (.pan p t)] S = _
    simp only [fn0, b_Marks_mark, List.map_cons, List.map_nil, List.cons_append, List.nil_append, List.replicate]
    rw [sSeq, t1, bind_val]
    simp only
    rw [sSeq, t2, bind_val]
    simp only
    rw [t3, bind_val]
end
end Pg
set_option Elab.async false
set_option linter.all false
set_option maxRecDepth 100000
set_option maxHeartbeats 1000000
/-! M6: many, parted_once, part_on, Marks(house). -/
namespace Pg
open Z
open PySem (Str sizeLine)
open L2 (atI)
/-! ### numbers, each once -/
def dst (l : List Nat) : List Nat := l.foldl (fun a x => if a.any (fun y => decide (y = x)) = true then a else a ++ [x]) []
theorem dst_snoc (l : List Nat) (x : Nat) : dst (l ++ [x]) = if (dst l).any (fun y => decide (y = x)) = true then dst l else dst l ++ [x] := by
  unfold dst
  rw [List.foldl_append]
  rfl
theorem any_eq {l : List Nat} {x : Nat} : l.any (fun y => decide (y = x)) = true ↔ x ∈ l := by
  rw [List.any_eq_true]
  exact ⟨fun ⟨y, h1, h2⟩ => of_decide_eq_true h2 ▸ h1, fun h => ⟨x, h, decide_eq_true rfl⟩⟩
theorem snoc_ind {β : Type} {P : List β → Prop} (h0 : P []) (h1 : ∀ l x, P l → P (l ++ [x])) (l : List β) : P l := by
  have : ∀ l : List β, P l.reverse := fun l => by
    induction l with
    | nil => exact h0
    | cons x l ih => rw [List.reverse_cons]; exact h1 _ _ ih
  have := this l.reverse
  rwa [List.reverse_reverse] at this
theorem mem_dst (l : List Nat) : ∀ x, x ∈ dst l ↔ x ∈ l := by
  refine snoc_ind (P := fun l => ∀ x, x ∈ dst l ↔ x ∈ l) (fun x => by simp [dst]) (fun l y ih x => ?_) l
  rw [dst_snoc]
  by_cases c : (dst l).any (fun z => decide (z = y)) = true
  · rw [if_pos c, ih, List.mem_append, List.mem_singleton]
    constructor
    · exact .inl
    · rintro (h | h)
      · exact h
      · subst h; exact (ih _).mp (any_eq.mp c)
  · rw [if_neg c, List.mem_append, List.mem_append, ih]
theorem nodup_dst (l : List Nat) : (dst l).Nodup := by
  refine snoc_ind (P := fun l => (dst l).Nodup) List.nodup_nil (fun l y ih => ?_) l
  rw [dst_snoc]
  by_cases c : (dst l).any (fun z => decide (z = y)) = true
  · rw [if_pos c]; exact ih
  · rw [if_neg c, List.nodup_append]
    refine ⟨ih, by simp, fun a ha b hb e => ?_⟩
    rw [List.mem_singleton] at hb
    subst hb; subst e
    exact c (any_eq.mpr ha)
theorem len_dst (l : List Nat) : (dst l).length ≤ l.length := by
  refine snoc_ind (P := fun l => (dst l).length ≤ l.length) (Nat.le_refl _) (fun l y ih => ?_) l
  rw [dst_snoc, List.length_append]
  split
  · simp; omega
  · rw [List.length_append]; simp; omega
/-- no more than its hull -/
theorem nodup_len {β : Type} [DecidableEq β] : ∀ {a b : List β}, a.Nodup → (∀ x ∈ a, x ∈ b) → a.length ≤ b.length
  | [], b, _, _ => Nat.zero_le _
  | x :: a, b, hn, hs => by
    rw [List.nodup_cons] at hn
    have hx := hs x List.mem_cons_self
    have := nodup_len (a := a) (b := b.erase x) hn.2 fun y hy => (List.mem_erase_of_ne (fun e => hn.1 (by rw [← e]; exact hy))).mpr (hs y (List.mem_cons_of_mem _ hy))
    rw [List.length_erase_of_mem hx] at this
    have := List.length_pos_of_mem hx
    rw [List.length_cons]
    omega
/-- where a finer numbering has no more numbers, it is the same -/
theorem same_of_cnt {β : Type} {l : List β} {f g : β → Nat} (fine : ∀ x ∈ l, ∀ y ∈ l, g x = g y → f x = f y) (hc : (dst (l.map g)).length ≤ (dst (l.map f)).length) : ∀ x ∈ l, ∀ y ∈ l, f x = f y → g x = g y := by
  intro x hx y hy e
  refine Classical.byContradiction fun ne => ?_
  -- take away the number of y
  have h1 : ∀ z ∈ dst (l.map f), z ∈ ((dst (l.map g)).erase (g y)).map fun n => match l.find? (fun u => decide (g u = n)) with | some u => f u | none => 0 := by
    intro z hz
    obtain ⟨u, hu, rfl⟩ := List.mem_map.mp ((mem_dst _ _).mp hz)
    have key : ∀ v ∈ l, g v ≠ g y → f v ∈ ((dst (l.map g)).erase (g y)).map fun n => match l.find? (fun u => decide (g u = n)) with | some u => f u | none => 0 := by
      intro v hv hvy
      refine List.mem_map.mpr ⟨g v, (List.mem_erase_of_ne hvy).mpr ((mem_dst _ _).mpr (List.mem_map.mpr ⟨v, hv, rfl⟩)), ?_⟩
      cases hf : l.find? (fun u => decide (g u = g v)) with
      | none => exact absurd (decide_eq_true rfl) (List.find?_eq_none.mp hf v hv)
      | some w =>
        have hw := List.find?_some hf
        have hwl := List.mem_of_find?_eq_some hf
        simp only
        exact fine w hwl v hv (of_decide_eq_true hw)
    by_cases c : g u = g y
    · have e2 : f u = f x := (fine u hu y hy c).trans e.symm
      rw [e2]
      exact key x hx ne
    · exact key u hu c
  have h2 := nodup_len (nodup_dst (l.map f)) h1
  rw [List.length_map, List.length_erase_of_mem ((mem_dst _ _).mpr (List.mem_map.mpr ⟨y, hy, rfl⟩))] at h2
  have h3 : 0 < (dst (l.map g)).length := List.length_pos_of_mem ((mem_dst _ _).mpr (List.mem_map.mpr ⟨y, hy, rfl⟩))
  omega
/-! ### many -/
def cnt (h : House) (mk : Nat → Nat → Nat) : Nat := (dst ((looks h).map fun l => mk l.1 l.2)).length
section
variable {h : House} {mk : Nat → Nat → Nat} {S : Sto} {n : Nat}
theorem f_many_n (hl : h.length ≤ 400) (mo : MO h mk S n) : f_Marks_many [.ref n] S = .val (.int (cnt h mk : Nat)) S := by
  obtain ⟨m, hs, hd⟩ := mo.ex
  have hL := len_looks h
  obtain ⟨acc, j, e⟩ := gath_all (f := iVal (eFld "Marks" "own_looks" (eVar 0))) (own := [1]) (g := tName 1) (t := bYes) (b := bSet (eOp opIx (eFld "Marks" "own_marks" (eVar 0)) (eVar 1))) (acc0 := []) (fin := finK) (ρ := [some (.ref n), none]) (S := S)
    (fun k acc => acc = (dst (((looks h).take k).map fun l => mk l.1 l.2)).map fun (x : Nat) => (Sum.inl (x : Int) : L2.Key)) (iVal_n (fld_looks hs) rfl) (by rw [always_items, List.length_map]; omega) True.intro rfl (by
      rintro k d acc hk rfl
      rw [always_items, List.getElem?_map] at hk
      obtain ⟨l, hl', rfl⟩ := Option.map_eq_some_iff.mp hk
      have hmem := List.mem_of_getElem? hl'
      refine ⟨[some (.ref n), some (lkD l)], rfl, .inr ⟨rfl, _, ?_, rfl⟩⟩
      have e1 := fld_marks (r := [some (lkD l)]) hs
      have e2 : opIx m (lkD l) S = .val (.int (mk l.1 l.2 : Nat)) S := opIx_dict hd (key_lk.key _) (dGet_mem key_lk (mkD mk) hmem)
      have e3 : (looks h).take (k + 1) = (looks h).take k ++ [l] := by rw [List.take_succ, hl']; rfl
      have hb : ((dst (((looks h).take k).map fun l => mk l.1 l.2)).map fun (x : Nat) => (Sum.inl (x : Int) : L2.Key)).length + 1 < PySem.scanBound := by
        rw [List.length_map]
        have h1 := len_dst (((looks h).take k).map fun l => mk l.1 l.2)
        rw [List.length_map, List.length_take] at h1
        show _ < 4096
        omega
      simp only [bSet, eOp, e1, Out.bind, eVar, List.getElem?_cons_succ, List.getElem?_cons_zero, e2, keyOf]
      rw [if_pos hb, e3, List.map_append, List.map_cons, List.map_nil, dst_snoc]
      have ha : ((dst (((looks h).take k).map fun l => mk l.1 l.2)).map fun (x : Nat) => (Sum.inl (x : Int) : L2.Key)).any (fun j => decide (j = Sum.inl ((mk l.1 l.2 : Nat) : Int))) = (dst (((looks h).take k).map fun l => mk l.1 l.2)).any fun y => decide (y = mk l.1 l.2) := by
        rw [List.any_map]
        congr 1
        funext y
        simp
        omega
      rw [ha]
      split
      · rfl
      · rw [List.map_append]; rfl)
  rw [always_items, List.length_map, List.take_length] at j
  show fn0 1 b_Marks_many [.ref n] S = _
  refine fn0_ret ?_
  show eLenK _ [some (.ref n), none] S = _
  rw [eLenK, e]
  simp only [finK, Out.bind]
  rw [j, List.length_map]
  rfl
/-! ### parted_once -/
def Ext (m : Nat) (S S' : Sto) : Prop := S.length ≤ S'.length ∧ ∀ i < m, S'[i]? = S[i]?
theorem Ext.refl {m : Nat} {S : Sto} : Ext m S S := ⟨Nat.le_refl _, fun _ _ => rfl⟩
theorem Ext.trans {m : Nat} {S S' S'' : Sto} (a : Ext m S S') (b : Ext m S' S'') : Ext m S S'' := ⟨Nat.le_trans a.1 b.1, fun i hi => (b.2 i hi).trans (a.2 i hi)⟩
theorem Ext.less {m k : Nat} {S S' : Sto} (a : Ext m S S') (hk : k ≤ m) : Ext k S S' := ⟨a.1, fun i hi => a.2 i (Nat.lt_of_lt_of_le hi hk)⟩
theorem ext_app {S T : Sto} : Ext S.length S (S ++ T) := ⟨by simp, fun i hi => by rw [List.getElem?_append_left hi]⟩
theorem dictOf_ext {S S' : Sto} {m : D} {p : List D × List D} (e : Ext S.length S S') (hd : dictOf S m = some p) : dictOf S' m = some p := by
  cases m with
  | ref n =>
    cases hs : S[n]? with
    | none => simp [dictOf, hs] at hd
    | some c =>
      have hn := (List.getElem?_eq_some_iff.mp hs).1
      simp only [dictOf, hs] at hd
      simp only [dictOf, e.2 n hn, hs]
      exact hd
  | _ => exact hd
theorem MO.ext {S' : Sto} (mo : MO h mk S n) (e : Ext S.length S S') : MO h mk S' n := by
  obtain ⟨m, hs, hd⟩ := mo.ex
  exact ⟨m, (e.2 n (List.getElem?_eq_some_iff.mp hs).1).trans hs, dictOf_ext e hd⟩
theorem two0 (S : Sto) (a b : Cel) : (S ++ [a, b])[S.length]? = some a := by simp
theorem two1 (S : Sto) (a b : Cel) : (S ++ [a, b])[S.length + 1]? = some b := by simp
theorem set0 (S : Sto) (a b a' : Cel) : (S ++ [a, b]).set S.length a' = S ++ [a', b] := by simp [List.set_append]
theorem set1 (S : Sto) (a b b' : Cel) : (S ++ [a, b]).set (S.length + 1) b' = S ++ [a, b'] := by simp [List.set_append]
theorem ins_at (mo : MO h mk S n) : ∃ m, insOf "Marks" S (.ref n) = some (mfs h m) := by
  obtain ⟨m, hs, _⟩ := mo.ex
  exact ⟨m, by simp [insOf, hs]⟩
def sg (h : House) (mk : Nat → Nat → Nat) (l : Nat × Nat) : List MV := sig h (wls h) mk (.pan l.1 l.2)
/-- the signs of a look -/
theorem signs_n (wf : WF h) (mo : MO h mk S n) {l : Nat × Nat} (hl : l ∈ looks h) {a b c : Option D} : eFin finL (eComp (iVal (eOp opIx (eFld "Marks" "own_fours" (eVar 0)) (eVar 1))) [5] (tName 5) bYes (eMeth "Marks" "mark" f_Marks_mark (eVar 0) (aCons (eVar 5) aNil))) [some (.ref n), some (lkD l), a, b, c, none] S = .val (.lst ((sg h mk l).map mvD)) S := by
  obtain ⟨m, hs, hd⟩ := mo.ex
  have hok : (Sg.pan l.1 l.2).ok h.length := by
    have := mem_looks.mp (show (l.1, l.2) ∈ looks h from hl)
    exact ⟨this.1, this.2.1⟩
  have e1 := fld_fours (r := [some (lkD l), a, b, c, none]) hs
  have e2 : opIx (.dic ((looks h).map lkD) ((looks h).map (foD h))) (lkD l) S = .val (foD h l) S := opIx_dict rfl (key_lk.key _) (dGet_mem key_lk (foD h) hl)
  have ef : iVal (eOp opIx (eFld "Marks" "own_fours" (eVar 0)) (eVar 1)) [some (.ref n), some (lkD l), a, b, c, none] S = .val (always ((List.range 4).map fun q => sgD (quar h (.pan l.1 l.2) q))) S := by
    refine iVal_n (d := foD h l) (S' := S) ?_ rfl
    simp only [eOp, e1, Out.bind, eVar, List.getElem?_cons_succ, List.getElem?_cons_zero, e2]
  have := lc_map (own := [5]) (g := tName 5) (e := eMeth "Marks" "mark" f_Marks_mark (eVar 0) (aCons (eVar 5) aNil)) (fun d => mvD (mv (wls h) mk (dec d))) (fun d => [some (.ref n), some (lkD l), a, b, c, some d]) ef (by simp) True.intro (fun d _ => by simp [wipeR]) (fun d hd => by
    rw [always_items] at hd
    obtain ⟨q, hq, rfl⟩ := List.mem_map.mp hd
    have e3 := f_mark_n mo (quar_ok wf (List.mem_range.mp hq) hok)
    have e4 : insOf "Marks" S (.ref n) = some (mfs h m) := by simp [insOf, hs]
    have e5 : (mfs h m).lookup ("mark" : Str) = none := rfl
    rw [dec_sgD]
    simp only [eMeth, eVar, List.getElem?_cons_zero, List.getElem?_cons_succ, Out.bind, e4, e5, if_true, aCons, aNil, e3])
  rw [this, always_items, List.map_map]
  congr 2
  unfold sg sig
  rw [List.map_map]
  apply List.map_congr_left
  intro q _
  simp
theorem f_parted_n (wf : WF h) (hl : h.length ≤ 400) (mo : MO h mk S n) : ∃ mk' S', f_Marks_parted_once [.ref n] S = .val (.ref (S.length + 1)) S' ∧ Ext S.length S S' ∧ dictOf S' (.ref (S.length + 1)) = some ((looks h).map lkD, (looks h).map (mkD mk')) ∧ Next h (wls h) mk mk' := by
  have hL := len_looks h
  obtain ⟨m0, hs0, hd0⟩ := mo.ex
  obtain ⟨ρ', S', e, j⟩ := forL_all (ok := fun _ => True) (g := tName 1) (b := sSeq (sAsg (eCall bTuple (aCons (eFin finL (eComp (iVal (eOp opIx (eFld "Marks" "own_fours" (eVar 0)) (eVar 1))) [5] (tName 5) bYes (eMeth "Marks" "mark" f_Marks_mark (eVar 0) (aCons (eVar 5) aNil)))) aNil)) (tName 4))
      (sAsg (eMth isDc mSetd (eVar 2) (aCons (eVar 4) (aCons (eCall bLen (aCons (eVar 2) aNil)) aNil))) (tSub (eVar 3) (eVar 1)))) (ds := (looks h).map lkD) (ρ := [some (.ref n), none, some (.ref S.length), some (.ref (S.length + 1)), none, none]) (S := S ++ [.dic false [] [], .dic false [] []])
    (fun k ρ S' => ∃ (ns : List (List MV)) (a b : Option D), ns.Nodup ∧ (∀ l ∈ (looks h).take k, sg h mk l ∈ ns) ∧ ns.length ≤ k ∧ ρ = [some (.ref n), a, some (.ref S.length), some (.ref (S.length + 1)), b, none] ∧
      S' = S ++ [.dic false (ns.map sgnD) (ns.map fun x => D.int (ns.idxOf x : Nat)), .dic false (((looks h).take k).map lkD) (((looks h).take k).map fun l => D.int (ns.idxOf (sg h mk l) : Nat))]) (fun _ _ _ _ => True.intro)
    ⟨[], none, none, List.nodup_nil, fun l hl => by simp at hl, Nat.le_refl _, rfl, by simp⟩ (by
      rintro k d ρ S' hk ⟨ns, a, b, hnd, hin, hle, rfl, rfl⟩
      rw [List.getElem?_map] at hk
      obtain ⟨l, hl', rfl⟩ := Option.map_eq_some_iff.mp hk
      have hmem := List.mem_of_getElem? hl'
      have hkl := (List.getElem?_eq_some_iff.mp hl').1
      have e3 : (looks h).take (k + 1) = (looks h).take k ++ [l] := by rw [List.take_succ, hl']; rfl
      generalize hS1 : S ++ [Cel.dic false (ns.map sgnD) (ns.map fun x => D.int (ns.idxOf x : Nat)), Cel.dic false (((looks h).take k).map lkD) (((looks h).take k).map fun l => D.int (ns.idxOf (sg h mk l) : Nat))] = S1
      have ex1 : Ext S.length S S1 := by rw [← hS1]; exact ext_app
      have mo1 := mo.ext ex1
      have a1 := signs_n wf mo1 hmem (a := some (.ref S.length)) (b := some (.ref (S.length + 1))) (c := b)
      have t1 : (sAsg (eCall bTuple (aCons (eFin finL (eComp (iVal (eOp opIx (eFld "Marks" "own_fours" (eVar 0)) (eVar 1))) [5] (tName 5) bYes (eMeth "Marks" "mark" f_Marks_mark (eVar 0) (aCons (eVar 5) aNil)))) aNil)) (tName 4)) [some (.ref n), some (lkD l), some (.ref S.length), some (.ref (S.length + 1)), b, none] S1 = .val (.nx [some (.ref n), some (lkD l), some (.ref S.length), some (.ref (S.length + 1)), some (sgnD (sg h mk l)), none]) S1 := by
        simp only [sAsg, eCall, aCons, aNil, a1, Out.bind, bTuple_lst, tName]
        rfl
      have g0 : S1[S.length]? = some (.dic false (ns.map sgnD) (ns.map fun x => D.int (ns.idxOf x : Nat))) := by rw [← hS1]; exact two0 _ _ _
      have g1 : S1[S.length + 1]? = some (.dic false (((looks h).take k).map lkD) (((looks h).take k).map fun l => D.int (ns.idxOf (sg h mk l) : Nat))) := by rw [← hS1]; exact two1 _ _ _
      have isd : isDc S1 (.ref S.length) = true := by simp [isDc, dictOf, g0]
      have ln : bLen [.ref S.length] S1 = .val (.int (ns.length : Nat)) S1 := by simp [bLen, lenD, seqA, seqL, dictOf, g0]
      have hz : ns.length < sizeLine := by have := PySem.sizeLine_eq; omega
      -- the number
      have num : ∃ ns' : List (List MV), ns'.Nodup ∧ (∀ x ∈ ns, x ∈ ns') ∧ sg h mk l ∈ ns' ∧ ns'.length ≤ k + 1 ∧ (∀ x ∈ ns, ns'.idxOf x = ns.idxOf x) ∧
          mSetd (.ref S.length) [sgnD (sg h mk l), .int (ns.length : Nat)] S1 = .val (.int (ns'.idxOf (sg h mk l) : Nat)) (S ++ [.dic false (ns'.map sgnD) (ns'.map fun x => D.int (ns'.idxOf x : Nat)), .dic false (((looks h).take k).map lkD) (((looks h).take k).map fun l => D.int (ns.idxOf (sg h mk l) : Nat))]) := by
        by_cases c : sg h mk l ∈ ns
        · refine ⟨ns, hnd, fun x hx => hx, c, Nat.le_succ_of_le hle, fun _ _ => rfl, ?_⟩
          simp only [mSetd, g0]
          rw [if_pos ⟨key_sgn.key _, by rw [List.length_map]; exact hz⟩, dGet_mem key_sgn (fun x => D.int (ns.idxOf x : Nat)) c, hS1]
        · refine ⟨ns ++ [sg h mk l], ?_, fun x hx => List.mem_append_left _ hx, List.mem_append_right _ (List.mem_singleton.mpr rfl), by rw [List.length_append]; simp; omega, fun x hx => by rw [List.idxOf_append, if_pos hx], ?_⟩
          · rw [List.nodup_append]
            refine ⟨hnd, by simp, fun x hx y hy e => ?_⟩
            rw [List.mem_singleton] at hy
            subst hy; subst e
            exact c hx
          · simp only [mSetd, g0]
            rw [if_pos ⟨key_sgn.key _, by rw [List.length_map]; exact hz⟩, dGet_not key_sgn (fun x => D.int (ns.idxOf x : Nat)) c, dPut_new key_sgn c (by simp)]
            have e5 : (ns ++ [sg h mk l]).idxOf (sg h mk l) = ns.length := by rw [List.idxOf_append, if_neg c]; simp
            rw [e5]
            simp only
            have em : (ns.map fun x => D.int (ns.idxOf x : Nat)) = ns.map fun x => D.int ((ns ++ [sg h mk l]).idxOf x : Nat) := List.map_congr_left fun x hx => by rw [List.idxOf_append, if_pos hx]
            rw [← hS1, set0, em, List.map_append, List.map_append, List.map_cons, List.map_nil, List.map_cons, List.map_nil, e5]
      obtain ⟨ns', n1, n2, n3, n4, n5, n6⟩ := num
      refine ⟨_, S1, [some (.ref n), some (lkD l), some (.ref S.length), some (.ref (S.length + 1)), some (sgnD (sg h mk l)), none], _, rfl, .inl ?_, ns', some (lkD l), some (sgnD (sg h mk l)), n1, ?_, n4, rfl, rfl⟩
      · show sSeq _ _ [some (.ref n), some (lkD l), some (.ref S.length), some (.ref (S.length + 1)), b, none] S1 = _
        rw [sSeq, t1, bind_val]
        simp only
        have hnotin : l ∉ (looks h).take k := by
          intro hm
          obtain ⟨i, hi, hil⟩ := List.mem_iff_getElem.mp hm
          rw [List.length_take] at hi
          rw [List.getElem_take] at hil
          have h1 : (looks h)[i]? = some l := by rw [List.getElem?_eq_getElem (by omega), hil]
          have h2 : (looks h)[i]? = (looks h)[k]? := h1.trans hl'.symm
          have := (List.getElem?_inj (show i < (looks h).length by omega) (show (looks h).Nodup from nodup_looksK)).mp h2
          omega
        have hst : opSet (.ref (S.length + 1)) (lkD l) (.int (ns'.idxOf (sg h mk l) : Nat)) (S ++ [.dic false (ns'.map sgnD) (ns'.map fun x => D.int (ns'.idxOf x : Nat)), .dic false (((looks h).take k).map lkD) (((looks h).take k).map fun l => D.int (ns.idxOf (sg h mk l) : Nat))]) =
            .val () (S ++ [.dic false (ns'.map sgnD) (ns'.map fun x => D.int (ns'.idxOf x : Nat)), .dic false (((looks h).take (k + 1)).map lkD) (((looks h).take (k + 1)).map fun l => D.int (ns'.idxOf (sg h mk l) : Nat))]) := by
          simp only [opSet, two1]
          have hz2 : (((looks h).take k).map lkD).length < sizeLine := by rw [List.length_map, List.length_take]; have := PySem.sizeLine_eq; omega
          rw [if_pos ⟨key_lk.key _, hz2⟩, dPut_new key_lk hnotin (by simp), set1]
          simp only
          have em : (((looks h).take k).map fun l => D.int (ns.idxOf (sg h mk l) : Nat)) = ((looks h).take k).map fun l => D.int (ns'.idxOf (sg h mk l) : Nat) := List.map_congr_left fun l' hl2 => by rw [n5 _ (hin l' hl2)]
          rw [e3, List.map_append, List.map_append, List.map_cons, List.map_nil, List.map_cons, List.map_nil, em]
        simp only [sAsg, eMth, eVar, List.getElem?_cons_succ, List.getElem?_cons_zero, Out.bind, isd, if_true, aCons, aNil, eCall, ln, n6, tSub, hst]
      · intro l' hl2
        rw [e3, List.mem_append, List.mem_singleton] at hl2
        rcases hl2 with q | q
        · exact n2 _ (hin l' q)
        · subst q; exact n3)
  obtain ⟨ns, a, b, hnd, hin, hle, rfl, rfl⟩ := j
  rw [List.length_map, List.take_length] at e hin
  refine ⟨fun p t => ns.idxOf (sg h mk (p, t)), S ++ [.dic false (ns.map sgnD) (ns.map fun x => D.int (ns.idxOf x : Nat)), .dic false ((looks h).map lkD) ((looks h).map fun l => D.int (ns.idxOf (sg h mk l) : Nat))], ?_, ext_app, ?_, ⟨fun p t p' t' l l' => ?_⟩⟩
  · have b1 : (sPar2 2 3 (aCons eDcC (aCons eDcC aNil))) [some (.ref n), none, none, none, none, none] S = .val (.nx [some (.ref n), none, some (.ref S.length), some (.ref (S.length + 1)), none, none]) (S ++ [.dic false [] [], .dic false [] []]) := by simp
    have ex1 : Ext S.length S (S ++ [.dic false [] [], .dic false [] []]) := ext_app
    have b2 : iVal (eFld "Marks" "own_looks" (eVar 0)) [some (.ref n), none, some (.ref S.length), some (.ref (S.length + 1)), none, none] (S ++ [.dic false [] [], .dic false [] []]) = .val (always ((looks h).map lkD)) (S ++ [.dic false [] [], .dic false [] []]) :=
      iVal_n (fld_looks ((ex1.2 n (List.getElem?_eq_some_iff.mp hs0).1).trans hs0)) rfl
    show fn0 5 b_Marks_parted_once [.ref n] S = _
    simp only [fn0, b_Marks_parted_once, List.map_cons, List.map_nil, List.cons_append, List.nil_append, List.replicate]
    rw [sSeq, b1, bind_val]
    simp only
    rw [sSeq, sFor, b2, bind_val, always_ok, always_items, e, bind_val]
    rfl
  · simp only [dictOf, two1, List.take_length]
    rfl
  · have h1 := hin (p, t) (mem_looks.mpr l)
    have h2 := hin (p', t') (mem_looks.mpr l')
    constructor
    · intro e2
      have := congrArg (fun i => ns[i]?) e2
      simp only [List.getElem?_eq_getElem (List.idxOf_lt_length_of_mem h1), List.getElem?_eq_getElem (List.idxOf_lt_length_of_mem h2), List.getElem_idxOf, Option.some.injEq] at this
      exact this
    · intro e2
      show ns.idxOf (sg h mk (p, t)) = ns.idxOf (sg h mk (p', t'))
      rw [show sg h mk (p, t) = sg h mk (p', t') from e2]
/-! ### part_on -/
theorem mfs_put (m m' : D) : fPut "own_marks" m' (mfs h m) = mfs h m' := by
  have n1 : ¬ ("own_house" : Str) = "own_marks" := by decide
  have n2 : ¬ ("own_wholes" : Str) = "own_marks" := by decide
  have n3 : ¬ ("own_looks" : Str) = "own_marks" := by decide
  have n4 : ¬ ("own_fours" : Str) = "own_marks" := by decide
  simp only [mfs, fPut, if_neg n1, if_neg n2, if_neg n3, if_neg n4, if_true]
theorem cnt_le : cnt h mk ≤ (looks h).length := by
  unfold cnt
  have := len_dst ((looks h).map fun l => mk l.1 l.2)
  rwa [List.length_map] at this
theorem fin_of {mk' : Nat → Nat → Nat} (wf : WF h) (g : Good h (wls h) mk) (nx : Next h (wls h) mk mk') (hc : cnt h mk' ≤ cnt h mk) : Fin h (wls h) mk' := by
  refine nx.fin wf g fun p t p' t' l l' e => ?_
  have := same_of_cnt (l := looks h) (f := fun l => mk l.1 l.2) (g := fun l => mk' l.1 l.2) (fun x hx y hy e => nx.finer g x.1 x.2 y.1 y.2 (mem_looks.mp hx) (mem_looks.mp hy) e) hc (p, t) (mem_looks.mpr l) (p', t') (mem_looks.mpr l') e
  exact this
noncomputable def tOn : Rho → M Bool := bVal (eOp opLt (eVar 1) (eMeth "Marks" "many" f_Marks_many (eVar 0) aNil))
noncomputable def bOn : Rho → M Fl := sSeq (sAsg (eMeth "Marks" "many" f_Marks_many (eVar 0) aNil) (tName 1)) (sFldZ "Marks" "own_marks" (eVar 0) (eMeth "Marks" "parted_once" f_Marks_parted_once (eVar 0) aNil))
theorem on_loop (wf : WF h) (hl : h.length ≤ 400) : ∀ (f A : Nat) (mk : Nat → Nat → Nat) (S : Sto), (looks h).length - A < f → MO h mk S n → Good h (wls h) mk → (A = 0 ∨ ∃ mk0, Good h (wls h) mk0 ∧ Next h (wls h) mk0 mk ∧ A = cnt h mk0) →
    ∃ ρ' S' mk', sWhile tOn bOn [some (.ref n), some (.int (A : Nat))] S = .val (.nx ρ') S' ∧ MO h mk' S' n ∧ Fin h (wls h) mk' ∧ Ext n S S'
  | 0, A, mk, S, hf, _, _, _ => absurd hf (Nat.not_lt_zero _)
  | f + 1, A, mk, S, hf, mo, g, hA => by
    obtain ⟨m, hs⟩ := ins_at mo
    have em : ∀ r : Rho, eMeth "Marks" "many" f_Marks_many (eVar 0) aNil (some (.ref n) :: r) S = .val (.int (cnt h mk : Nat)) S := fun r => by
      simp only [eMeth, eVar, List.getElem?_cons_zero, Out.bind, hs, aNil, f_many_n hl mo]
      rw [if_pos (show (mfs h m).lookup ("many" : Str) = none from rfl)]
    have et : tOn [some (.ref n), some (.int (A : Nat))] S = .val (decide (A < cnt h mk)) S := by
      simp only [tOn, bVal, eOp, eVar, List.getElem?_cons_succ, List.getElem?_cons_zero, Out.bind, em, opLt_int, isBl]
      congr 1
      simp
    rw [sWhile_eq, et, bind_val]
    by_cases c : A < cnt h mk
    · rw [if_pos (decide_eq_true c)]
      obtain ⟨mk', S1, e1, x1, d1, nx⟩ := f_parted_n wf hl mo
      obtain ⟨m0, hs0, _⟩ := mo.ex
      have hn := (List.getElem?_eq_some_iff.mp hs0).1
      have hs1 : S1[n]? = some (.ins "Marks" (mfs h m0)) := (x1.2 n hn).trans hs0
      have hn1 : n < S1.length := (List.getElem?_eq_some_iff.mp hs1).1
      have ep : eMeth "Marks" "parted_once" f_Marks_parted_once (eVar 0) aNil [some (.ref n), some (.int (cnt h mk : Nat))] S = .val (.ref (S.length + 1)) S1 := by
        simp only [eMeth, eVar, List.getElem?_cons_zero, Out.bind, hs, aNil, e1]
        rw [if_pos (show (mfs h m).lookup ("parted_once" : Str) = none from rfl)]
      have e2 : opFldSet "Marks" "own_marks" (.ref n) (.ref (S.length + 1)) S1 = .val () (S1.set n (.ins "Marks" (mfs h (.ref (S.length + 1))))) := by
        simp only [opFldSet, hs1]
        rw [if_pos ⟨trivial, by simp [mfs]⟩, mfs_put]
      have eb : bOn [some (.ref n), some (.int (A : Nat))] S = .val (.nx [some (.ref n), some (.int (cnt h mk : Nat))]) (S1.set n (.ins "Marks" (mfs h (.ref (S.length + 1))))) := by
        have a1 : (sAsg (eMeth "Marks" "many" f_Marks_many (eVar 0) aNil) (tName 1)) [some (.ref n), some (.int (A : Nat))] S = .val (.nx [some (.ref n), some (.int (cnt h mk : Nat))]) S := by
          simp only [sAsg, em, Out.bind, tName]
          rfl
        rw [bOn, sSeq, a1, bind_val]
        simp only
        rw [sFldZ, ep, bind_val]
        simp only [eVar, List.getElem?_cons_zero, Out.bind, e2]
      rw [eb, bind_val, onTurn]
      have ne : n ≠ S.length + 1 := by omega
      have mo' : MO h mk' (S1.set n (.ins "Marks" (mfs h (.ref (S.length + 1))))) n := by
        refine ⟨.ref (S.length + 1), by rw [List.getElem?_set_self hn1], ?_⟩
        rw [← d1]
        simp only [dictOf, List.getElem?_set_ne ne]
      obtain ⟨ρ', S', mk'', h1, h2, h3, h4⟩ := on_loop wf hl f (cnt h mk) mk' _ (by have := cnt_le (h := h) (mk := mk); omega) mo' (nx.good wf g) (.inr ⟨mk, g, nx, rfl⟩)
      refine ⟨ρ', S', mk'', h1, h2, h3, Ext.trans (S' := S1) (x1.less (Nat.le_of_lt hn)) (Ext.trans (S' := S1.set n (.ins "Marks" (mfs h (.ref (S.length + 1))))) ⟨by rw [List.length_set]; exact Nat.le_refl _, fun i hi => by rw [List.getElem?_set_ne (by omega)]⟩ h4)⟩
    · rw [if_neg (by simp [c])]
      refine ⟨_, S, mk, rfl, mo, ?_, Ext.refl⟩
      rcases hA with h0 | ⟨mk0, g0, nx, hA⟩
      · refine fin_none fun p t l => ?_
        have hm := mem_looks.mpr l
        have : 0 < cnt h mk := List.length_pos_of_mem ((mem_dst _ _).mpr (List.mem_map.mpr ⟨(p, t), hm, rfl⟩))
        omega
      · exact fin_of wf g0 nx (by omega)
theorem f_part_on_n (wf : WF h) (hl : h.length ≤ 400) (mo : MO h (fun _ _ => 0) S n) : ∃ S' mk', f_Marks_part_on [.ref n] S = .val .non S' ∧ MO h mk' S' n ∧ Fin h (wls h) mk' ∧ Ext n S S' := by
  obtain ⟨ρ', S', mk', h1, h2, h3, h4⟩ := on_loop wf hl ((looks h).length + 1) 0 _ S (by omega) mo good0 (.inl rfl)
  refine ⟨S', mk', ?_, h2, h3, h4⟩
  show fn0 1 b_Marks_part_on [.ref n] S = _
  have a1 : (sAsg (eC (.int 0)) (tName 1)) [some (.ref n), none] S = .val (.nx [some (.ref n), some (.int ((0 : Nat) : Int))]) S := rfl
  simp only [fn0, b_Marks_part_on, List.map_cons, List.map_nil, List.cons_append, List.nil_append, List.replicate]
  rw [sSeq, a1, bind_val]
  simp only
  rw [show (sWhile (bVal (eOp opLt (eVar 1) (eMeth "Marks" "many" f_Marks_many (eVar 0) aNil))) (sSeq (sAsg (eMeth "Marks" "many" f_Marks_many (eVar 0) aNil) (tName 1)) (sFldZ "Marks" "own_marks" (eVar 0) (eMeth "Marks" "parted_once" f_Marks_parted_once (eVar 0) aNil)))) = sWhile tOn bOn from rfl, h1, bind_val]
end
end Pg
set_option Elab.async false
set_option linter.all false
set_option maxRecDepth 100000
set_option maxHeartbeats 1000000
/-! M7: Marks(house), alike, whole_of, turns. -/
namespace Pg
open Z
open PySem (Str sizeLine)
open L2 (atI)
section
variable {h : House} {S : Sto} {n : Nat}
theorem fset {fs : List (Str × D)} {f : Str} {d : D} (hs : S[n]? = some (.ins "Marks" fs)) (hl : fs.length < 1000) : opFldSet "Marks" f (.ref n) d S = .val () (S.set n (.ins "Marks" (fPut f d fs))) := by
  simp only [opFldSet, hs]
  rw [if_pos ⟨trivial, hl⟩]
/-- the looks are told -/
theorem looks_n (hl : h.length ≤ 400) {ρ : Rho} {a0 a1 a2 a3 a4 a5 : Option D} (hρ : ρ = [a0, a1, a2, a3, a4, a5]) (hw : eFld "Marks" "own_wholes" (eVar 0) ρ S = .val (.lst (whL h h.length)) S) :
    eGath (iEnum (aCons (eFld "Marks" "own_wholes" (eVar 0)) aNil)) [4, 5, 2] (tTupZ 2 (tsCons (tName 4) (tsCons (tName 5) tsNil))) (bVal (eOp opIs (eVar 5) (eC .non))) (bIn (iRng1 (aCons (eCall bLen (aCons (eC c_SHOWN) aNil)) aNil)) [2] (tName 2) bYes (eTup (aCons (eVar 4) (aCons (eVar 2) aNil)))) [] finL ρ S = .val (.lst ((looks h).map lkD)) S := by
  have hf : iEnum (aCons (eFld "Marks" "own_wholes" (eVar 0)) aNil) ρ S = .val ⟨enums (whL h h.length), fun _ => True⟩ S := by
    simp only [iEnum, aCons, aNil, hw, Out.bind, srcEnum, lstSrc_lst]
    rfl
  have hlen : (enums (whL h h.length)).length = h.length := by simp [enums, whL]
  obtain ⟨acc, j, e⟩ := gath_all (own := [4, 5, 2]) (g := tTupZ 2 (tsCons (tName 4) (tsCons (tName 5) tsNil))) (t := bVal (eOp opIs (eVar 5) (eC .non))) (b := bIn (iRng1 (aCons (eCall bLen (aCons (eC c_SHOWN) aNil)) aNil)) [2] (tName 2) bYes (eTup (aCons (eVar 4) (aCons (eVar 2) aNil)))) (acc0 := []) (fin := finL)
    (fun k acc => acc = (looksK h k).map lkD) hf (by rw [hlen]; omega) True.intro rfl (by
      rintro k d acc hk rfl
      have hkn : k < h.length := by rw [← hlen]; exact (List.getElem?_eq_some_iff.mp hk).1
      have hd : d = .tup [.int (k : Nat), optD (wls h k)] := by
        have hk : (enums (whL h h.length))[k]? = some d := hk
        unfold enums whL at hk
        rw [List.getElem?_map, List.getElem?_zipIdx, List.getElem?_map, List.getElem?_range hkn] at hk
        simp at hk
        rw [← hk]
        rfl
      subst hd
      subst hρ
      refine ⟨[a0, a1, none, a3, some (.int (k : Nat)), some (optD (wls h k))], by simp [wipeR], ?_⟩
      cases hwk : wls h k with
      | some c =>
        left
        refine ⟨by simp [optD], ?_⟩
        rw [looksK, hwk]
        simp
      | none =>
        right
        refine ⟨by simp [optD], ?_⟩
        have h8 : iRng1 (aCons (eCall bLen (aCons (eC c_SHOWN) aNil)) aNil) [a0, a1, none, a3, some (.int (k : Nat)), some (optD none)] S = .val (always (rangeD 8)) S := rng1_n (n := 8) rfl (by omega)
        have hL := len_looksK h k
        obtain ⟨acc', e1, j1⟩ := compG_all (ok := fun _ => True) (g := tName 2) (t := bYes) (b := bLst (eTup (aCons (eVar 4) (aCons (eVar 2) aNil)))) (ρ := wipeR [a0, a1, none, a3, some (.int (k : Nat)), some (optD none)] [2]) (S := S) True.intro (rangeD 8)
          (fun j acc' => acc' = (looksK h k).map lkD ++ (List.range j).map fun t => lkD (k, t)) (by
            rintro j d acc' hj rfl
            have hj8 : j < 8 := by have := (List.getElem?_eq_some_iff.mp hj).1; simpa using this
            have hd : d = .int (j : Nat) := by
              unfold rangeD at hj
              rw [List.getElem?_map, List.getElem?_range hj8] at hj
              simpa using hj.symm
            subst hd
            refine ⟨[a0, a1, some (.int (j : Nat)), a3, some (.int (k : Nat)), some (optD none)], by simp [wipeR], .inr ⟨rfl, _, ?_, rfl⟩⟩
            have hz : ((looksK h k).map lkD ++ (List.range j).map fun t => lkD (k, t)).length < sizeLine := by
              rw [List.length_append, List.length_map, List.length_map, List.length_range]
              have := PySem.sizeLine_eq
              omega
            simp only [bLst, eTup, aCons, aNil, eVar, List.getElem?_cons_succ, List.getElem?_cons_zero, Out.bind]
            rw [if_pos hz, List.range_succ, List.map_append, List.append_assoc]
            rfl) (ds := rangeD 8) (k := 0) (acc := (looksK h k).map lkD) rfl (by simp)
        refine ⟨acc', ?_, ?_⟩
        · rw [bIn, h8, bind_val, always_ok, always_items]
          exact e1
        · rw [j1, looksK, hwk, List.map_append]
          simp)
  rw [e]
  have j : acc = (looksK h (enums (whL h h.length)).length).map lkD := j
  rw [hlen] at j
  rw [j]
  rfl
/-- a dict over the looks -/
theorem lookdict_n (hl : h.length ≤ 400) {ρ : Rho} {r : Rho} {fv : Rho → M D} {v : Nat × Nat → D} (hf : iVal (eFld "Marks" "own_looks" (eVar 0)) ρ S = .val (always ((looks h).map lkD)) S) (hρ : ∀ d : D, tName 3 d (wipeR ρ [3]) S = .val ((wipeR ρ [3]).set 3 (some d)) S) (h3 : 3 < ρ.length) (hv : ∀ l ∈ looks h, fv ((wipeR ρ [3]).set 3 (some (lkD l))) S = .val (v l) S) :
    eGath (iVal (eFld "Marks" "own_looks" (eVar 0))) [3] (tName 3) bYes (bDic (eVar 3) fv) ([], []) finD ρ S = .val (.dic ((looks h).map lkD) ((looks h).map v)) S := by
  have hL := len_looks h
  obtain ⟨acc, j, e⟩ := gath_all (own := [3]) (g := tName 3) (t := bYes) (b := bDic (eVar 3) fv) (acc0 := ([], [])) (fin := finD)
    (fun k acc => acc = (((looks h).take k).map lkD, ((looks h).take k).map v)) hf (by rw [always_items, List.length_map]; omega) True.intro (by simp) (by
      rintro k d acc hk rfl
      rw [always_items, List.getElem?_map] at hk
      obtain ⟨l, hl', rfl⟩ := Option.map_eq_some_iff.mp hk
      have hmem := List.mem_of_getElem? hl'
      have hkl := (List.getElem?_eq_some_iff.mp hl').1
      have e3 : (looks h).take (k + 1) = (looks h).take k ++ [l] := by rw [List.take_succ, hl']; rfl
      refine ⟨_, hρ _, .inr ⟨rfl, _, ?_, rfl⟩⟩
      have hnotin : l ∉ (looks h).take k := by
        intro hm
        obtain ⟨i, hi, hil⟩ := List.mem_iff_getElem.mp hm
        rw [List.length_take] at hi
        rw [List.getElem_take] at hil
        have h1 : (looks h)[i]? = some l := by rw [List.getElem?_eq_getElem (by omega), hil]
        have h2 : (looks h)[i]? = (looks h)[k]? := h1.trans hl'.symm
        have := (List.getElem?_inj (show i < (looks h).length by omega) (show (looks h).Nodup from nodup_looksK)).mp h2
        omega
      have ek : eVar 3 ((wipeR ρ [3]).set 3 (some (lkD l))) S = .val (lkD l) S := by
        simp only [eVar, wipeR]
        rw [List.getElem?_set_self (by simpa using h3)]
      have hz : (((looks h).take k).map lkD).length < sizeLine := by rw [List.length_map, List.length_take]; have := PySem.sizeLine_eq; omega
      simp only [bDic, ek, Out.bind, hv l hmem]
      rw [if_pos ⟨key_lk.key _, hz⟩, dPut_new key_lk hnotin (by simp), e3, List.map_append, List.map_append]
      rfl)
  rw [e]
  have j : acc = (((looks h).take ((looks h).map lkD).length).map lkD, ((looks h).take ((looks h).map lkD).length).map v) := j
  rw [List.length_map, List.take_length] at j
  rw [j]
  rfl
theorem f_init_n (wf : WF h) (hl : h.length ≤ 400) (hs : S[n]? = some (.ins "Marks" [])) : ∃ S' mk', f_Marks_init [.ref n, hsD h] S = .val .non S' ∧ MO h mk' S' n ∧ Fin h (wls h) mk' ∧ Ext n S S' := by
  have hn := (List.getElem?_eq_some_iff.mp hs).1
  let fs1 : List (Str × D) := [("own_house", hsD h)]
  let fs2 : List (Str × D) := [("own_house", hsD h), ("own_wholes", .lst (whL h h.length))]
  let fs3 : List (Str × D) := [("own_house", hsD h), ("own_wholes", .lst (whL h h.length)), ("own_looks", .lst ((looks h).map lkD))]
  let fs4 : List (Str × D) := [("own_house", hsD h), ("own_wholes", .lst (whL h h.length)), ("own_looks", .lst ((looks h).map lkD)), ("own_fours", .dic ((looks h).map lkD) ((looks h).map (foD h)))]
  let dm : D := .dic ((looks h).map lkD) ((looks h).map (mkD fun _ _ => 0))
  have at_ : ∀ c : Cel, (S.set n c)[n]? = some c := fun c => List.getElem?_set_self hn
  have ss : ∀ a b : Cel, (S.set n a).set n b = S.set n b := fun a b => List.set_set ..
  let ρ0 : Rho := [some (.ref n), some (hsD h), none, none, none, none]
  have f1 : (sFldZ "Marks" "own_house" (eVar 0) (eVar 1)) ρ0 S = .val (.nx ρ0) (S.set n (.ins "Marks" fs1)) := by
    have := fset (f := "own_house") (d := hsD h) hs (by simp)
    simp only [sFldZ, ρ0, eVar, List.getElem?_cons_succ, List.getElem?_cons_zero, Out.bind, this]
    rfl
  have f2 : (sFldZ "Marks" "own_wholes" (eVar 0) (eCall f_wholes_of (aCons (eVar 1) aNil))) ρ0 (S.set n (.ins "Marks" fs1)) = .val (.nx ρ0) (S.set n (.ins "Marks" fs2)) := by
    have := fset (f := "own_wholes") (d := .lst (whL h h.length)) (at_ (.ins "Marks" fs1)) (by simp [fs1])
    rw [ss] at this
    simp only [sFldZ, ρ0, eCall, aCons, aNil, eVar, List.getElem?_cons_succ, List.getElem?_cons_zero, Out.bind, f_wholes_of_n wf (by omega : h.length ≤ 1000), this]
    rfl
  have f3 : (sFldZ "Marks" "own_looks" (eVar 0) (eGath (iEnum (aCons (eFld "Marks" "own_wholes" (eVar 0)) aNil)) [4, 5, 2] (tTupZ 2 (tsCons (tName 4) (tsCons (tName 5) tsNil))) (bVal (eOp opIs (eVar 5) (eC .non))) (bIn (iRng1 (aCons (eCall bLen (aCons (eC c_SHOWN) aNil)) aNil)) [2] (tName 2) bYes (eTup (aCons (eVar 4) (aCons (eVar 2) aNil)))) [] finL)) ρ0 (S.set n (.ins "Marks" fs2)) = .val (.nx ρ0) (S.set n (.ins "Marks" fs3)) := by
    have := fset (f := "own_looks") (d := .lst ((looks h).map lkD)) (at_ (.ins "Marks" fs2)) (by simp [fs2])
    rw [ss] at this
    have hw : eFld "Marks" "own_wholes" (eVar 0) ρ0 (S.set n (.ins "Marks" fs2)) = .val (.lst (whL h h.length)) (S.set n (.ins "Marks" fs2)) := by
      simp only [eFld, ρ0, eVar, List.getElem?_cons_zero, Out.bind]
      exact opFld_at (at_ _) rfl
    rw [sFldZ, looks_n hl rfl hw, bind_val]
    simp only [ρ0, eVar, List.getElem?_cons_zero, Out.bind, this]
    rfl
  have lk : ∀ fs : List (Str × D), fs.lookup ("own_looks" : Str) = some (.lst ((looks h).map lkD)) → iVal (eFld "Marks" "own_looks" (eVar 0)) ρ0 (S.set n (.ins "Marks" fs)) = .val (always ((looks h).map lkD)) (S.set n (.ins "Marks" fs)) := fun fs hfs => by
    refine iVal_n (d := .lst ((looks h).map lkD)) ?_ rfl
    simp only [eFld, ρ0, eVar, List.getElem?_cons_zero, Out.bind]
    exact opFld_at (at_ _) hfs
  have f4 : (sFldZ "Marks" "own_fours" (eVar 0) (eGath (iVal (eFld "Marks" "own_looks" (eVar 0))) [3] (tName 3) bYes (bDic (eVar 3) (eCall f_quarters_of (aCons (eVar 1) (aCons (eVar 3) aNil)))) ([], []) finD)) ρ0 (S.set n (.ins "Marks" fs3)) = .val (.nx ρ0) (S.set n (.ins "Marks" fs4)) := by
    have := fset (f := "own_fours") (d := .dic ((looks h).map lkD) ((looks h).map (foD h))) (at_ (.ins "Marks" fs3)) (by simp [fs3])
    rw [ss] at this
    have := lookdict_n (r := []) (S := S.set n (.ins "Marks" fs3)) (ρ := ρ0) (fv := eCall f_quarters_of (aCons (eVar 1) (aCons (eVar 3) aNil))) (v := foD h) hl (lk fs3 rfl) (fun d => rfl) (by simp [ρ0]) (fun l hml => by
      have hm := mem_looks.mp (show (l.1, l.2) ∈ looks h from hml)
      have hok : (Sg.pan l.1 l.2).ok h.length := ⟨hm.1, hm.2.1⟩
      have e := f_quarters_of_n wf hok (S.set n (.ins "Marks" fs3))
      simp only [ρ0, wipeR, List.set, eCall, aCons, aNil, eVar, List.getElem?_cons_succ, List.getElem?_cons_zero, Out.bind]
      exact e)
    rw [sFldZ, this, bind_val]
    simp only [ρ0, eVar, List.getElem?_cons_zero, Out.bind, *]
    rfl
  have f5 : (sFldZ "Marks" "own_marks" (eVar 0) (eGath (iVal (eFld "Marks" "own_looks" (eVar 0))) [3] (tName 3) bYes (bDic (eVar 3) (eC (.int 0))) ([], []) finD)) ρ0 (S.set n (.ins "Marks" fs4)) = .val (.nx ρ0) (S.set n (.ins "Marks" (mfs h dm))) := by
    have t := fset (f := "own_marks") (d := dm) (at_ (.ins "Marks" fs4)) (by simp [fs4])
    rw [ss] at t
    have := lookdict_n (r := []) (S := S.set n (.ins "Marks" fs4)) (ρ := ρ0) (fv := eC (.int 0)) (v := mkD fun _ _ => 0) hl (lk fs4 rfl) (fun d => rfl) (by simp [ρ0]) (fun l hml => rfl)
    rw [sFldZ, this, bind_val]
    simp only [ρ0, eVar, List.getElem?_cons_zero, Out.bind]
    rw [t]
    rfl
  have mo : MO h (fun _ _ => 0) (S.set n (.ins "Marks" (mfs h dm))) n := ⟨dm, at_ _, rfl⟩
  obtain ⟨S', mk', e6, m6, F6, x6⟩ := f_part_on_n wf hl mo
  refine ⟨S', mk', ?_, m6, F6, Ext.trans (S' := S.set n (.ins "Marks" (mfs h dm))) ⟨by rw [List.length_set]; exact Nat.le_refl _, fun i hi => by rw [List.getElem?_set_ne (by omega)]⟩ x6⟩
  have f6 : (sDrop (eMeth "Marks" "part_on" f_Marks_part_on (eVar 0) aNil)) ρ0 (S.set n (.ins "Marks" (mfs h dm))) = .val (.nx ρ0) S' := by
    have hi : insOf "Marks" (S.set n (.ins "Marks" (mfs h dm))) (.ref n) = some (mfs h dm) := by simp [insOf, at_]
    simp only [sDrop, eMeth, ρ0, eVar, List.getElem?_cons_zero, Out.bind, hi, aNil, e6]
    rw [if_pos (show (mfs h dm).lookup ("part_on" : Str) = none from rfl)]
  show fn0 4 b_Marks_init [.ref n, hsD h] S = _
  simp only [fn0, b_Marks_init, List.map_cons, List.map_nil, List.cons_append, List.nil_append, List.replicate]
  have q := f1
  simp only [ρ0] at f1 f2 f3 f4 f5 f6
  rw [sSeq, f1, bind_val]
  simp only
  rw [sSeq, f2, bind_val]
  simp only
  rw [sSeq, f3, bind_val]
  simp only
  rw [sSeq, f4, bind_val]
  simp only
  rw [sSeq, f5, bind_val]
  simp only
  rw [f6, bind_val]
/-- Marks(house) -/
theorem make_n (wf : WF h) (hl : h.length ≤ 400) {ρ : Rho} {g : Rho → M (List D)} (hg : g ρ S = .val [hsD h] S) : ∃ S' mk', eMake "Marks" f_Marks_init g ρ S = .val (.ref S.length) S' ∧ MO h mk' S' S.length ∧ Fin h (wls h) mk' ∧ Ext S.length S S' := by
  have hs : (S ++ [Cel.ins "Marks" []])[S.length]? = some (.ins "Marks" []) := by simp
  obtain ⟨S', mk', e, mo, F, x⟩ := f_init_n wf hl hs
  refine ⟨S', mk', ?_, mo, F, Ext.trans (S' := S ++ [Cel.ins "Marks" []]) ext_app x⟩
  simp only [eMake, hg, Out.bind, e, isNon_non, if_true]
end
end Pg
set_option Elab.async false
set_option linter.all false
set_option maxRecDepth 100000
set_option maxHeartbeats 1000000
/-! M8: alike, whole_of, turns_between, row_seen, colour_at. -/
namespace Pg
open Z
open PySem (Str sizeLine)
open L2 (atI)
section
variable {h : House} {S : Sto} {n : Nat} {mk : Nat → Nat → Nat}
theorem opEq_mv (a b : MV) : opEq (mvD a) (mvD b) S = .val (.bl (decide (a = b))) S := by
  cases a <;> cases b <;> simp [mvD]
  omega
theorem meth_mark (mo : MO h mk S n) {s : Sg} (ho : s.ok h.length) {fo : Rho → M D} {g : Rho → M (List D)} {ρ : Rho} (hf : fo ρ S = .val (.ref n) S) (hg : g ρ S = .val [sgD s] S) : eMeth "Marks" "mark" f_Marks_mark fo g ρ S = .val (mvD (mv (wls h) mk s)) S := by
  obtain ⟨m, hi⟩ := ins_at mo
  simp only [eMeth, hf, Out.bind, hi, hg, f_mark_n mo ho]
  rw [if_pos (show (mfs h m).lookup ("mark" : Str) = none from rfl)]
theorem f_alike_n (wf : WF h) (hl : h.length ≤ 400) {a b : Sg} (ha : a.ok h.length) (hb : b.ok h.length) : ∃ S' mk, f_alike [hsD h, sgD a, sgD b] S = .val (.bl (decide (mv (wls h) mk a = mv (wls h) mk b))) S' ∧ Fin h (wls h) mk ∧ Ext S.length S S' := by
  obtain ⟨S', mk, e, mo, F, x⟩ := make_n (S := S) (ρ := [some (hsD h), some (sgD a), some (sgD b), none]) (g := aCons (eVar 0) aNil) wf hl rfl
  refine ⟨S', mk, ?_, F, x⟩
  show fn0 1 b_alike [hsD h, sgD a, sgD b] S = _
  have a1 : (sAsg (eMake "Marks" f_Marks_init (aCons (eVar 0) aNil)) (tName 3)) [some (hsD h), some (sgD a), some (sgD b), none] S = .val (.nx [some (hsD h), some (sgD a), some (sgD b), some (.ref S.length)]) S' := by
    rw [sAsg, e, bind_val]; rfl
  have m1 := meth_mark mo ha (fo := eVar 3) (g := aCons (eVar 1) aNil) (ρ := [some (hsD h), some (sgD a), some (sgD b), some (.ref S.length)]) rfl rfl
  have m2 := meth_mark mo hb (fo := eVar 3) (g := aCons (eVar 2) aNil) (ρ := [some (hsD h), some (sgD a), some (sgD b), some (.ref S.length)]) rfl rfl
  simp only [fn0, b_alike, List.map_cons, List.map_nil, List.cons_append, List.nil_append, List.replicate]
  rw [sSeq, a1, bind_val]
  simp only
  rw [sRet, eOp, m1, bind_val, m2, bind_val, opEq_mv]
  rfl
theorem f_whole_of_n (wf : WF h) (hl : h.length ≤ 400) {s : Sg} (ho : s.ok h.length) : ∃ S', f_whole_of [hsD h, sgD s] S = .val (optD (whBy (wls h) s)) S' ∧ Ext S.length S S' := by
  obtain ⟨S', mk, e, mo, F, x⟩ := make_n (S := S) (ρ := [some (hsD h), some (sgD s), none]) (g := aCons (eVar 0) aNil) wf hl rfl
  refine ⟨S', ?_, x⟩
  show fn0 1 b_whole_of [hsD h, sgD s] S = _
  obtain ⟨m, hi⟩ := ins_at mo
  have a1 : (sAsg (eMeth "Marks" "mark" f_Marks_mark (eMake "Marks" f_Marks_init (aCons (eVar 0) aNil)) (aCons (eVar 1) aNil)) (tName 2)) [some (hsD h), some (sgD s), none] S = .val (.nx [some (hsD h), some (sgD s), some (mvD (mv (wls h) mk s))]) S' := by
    rw [sAsg, eMeth, e, bind_val, hi]
    simp only
    rw [if_pos (show (mfs h m).lookup ("mark" : Str) = none from rfl)]
    simp only [aCons, aNil, eVar, List.getElem?_cons_succ, List.getElem?_cons_zero, Out.bind, f_mark_n mo ho, tName]
    rfl
  simp only [fn0, b_whole_of, List.map_cons, List.map_nil, List.cons_append, List.nil_append, List.replicate]
  rw [sSeq, a1, bind_val]
  simp only
  cases hm : mv (wls h) mk s with
  | inl c => rw [mv_inl hm]; simp [mvD, optD]
  | inr k =>
    have : whBy (wls h) s = none := by
      cases hw : whBy (wls h) s with
      | none => rfl
      | some c => rw [mv_of hw] at hm; cases hm
    rw [this]
    simp [mvD, optD]
theorem f_turns_between_n (wf : WF h) (hl : h.length ≤ 400) {a b : Sg} (ha : a.ok h.length) (hb : b.ok h.length) : ∃ S' mk, f_turns_between [hsD h, sgD a, sgD b] S = .val (.lst (((List.range 8).filter fun t => decide (mv (wls h) mk (a.turn t) = mv (wls h) mk b)).map fun (t : Nat) => D.int (t : Int))) S' ∧ Fin h (wls h) mk ∧ Ext S.length S S' := by
  obtain ⟨S', mk, e, mo, F, x⟩ := make_n (S := S) (ρ := [some (hsD h), some (sgD a), some (sgD b)]) (g := aCons (eVar 0) aNil) wf hl rfl
  refine ⟨S', mk, ?_, F, x⟩
  have key : f_turns_by [.ref S.length, sgD a, sgD b] S' = .val (.lst (((List.range 8).filter fun t => decide (mv (wls h) mk (a.turn t) = mv (wls h) mk b)).map fun (t : Nat) => D.int (t : Int))) S' := by
    have hc := lc_pure (f := iRng1 (aCons (eCall bLen (aCons (eC c_SHOWN) aNil)) aNil)) (own := [3]) (g := tName 3) (t := bVal (eOp opEq (eMeth "Marks" "mark" f_Marks_mark (eVar 0) (aCons (eCall f_turned (aCons (eVar 1) (aCons (eVar 3) aNil))) aNil)) (eMeth "Marks" "mark" f_Marks_mark (eVar 0) (aCons (eVar 2) aNil)))) (e := eVar 3) (ρ := [some (.ref S.length), some (sgD a), some (sgD b), none]) (S := S') (fun d => d)
      (fun d => match d with | .int i => decide (mv (wls h) mk (a.turn i.toNat) = mv (wls h) mk b) | _ => false) (fun d => [some (.ref S.length), some (sgD a), some (sgD b), some d]) (rng1_n (n := 8) rfl (by omega)) (by simp) True.intro (fun d _ => by simp [wipeR]) (fun d hd => by
        obtain ⟨i, hi, rfl⟩ := rangeD_mem hd
        have m1 := meth_mark mo (turn_ok hi ha) (fo := eVar 0) (g := aCons (eCall f_turned (aCons (eVar 1) (aCons (eVar 3) aNil))) aNil) (ρ := [some (.ref S.length), some (sgD a), some (sgD b), some (.int (i : Nat))]) rfl (by
          simp only [aCons, aNil, eCall, eVar, List.getElem?_cons_succ, List.getElem?_cons_zero, Out.bind, f_turned_n hi S' ha])
        have m2 := meth_mark mo hb (fo := eVar 0) (g := aCons (eVar 2) aNil) (ρ := [some (.ref S.length), some (sgD a), some (sgD b), some (.int (i : Nat))]) rfl rfl
        rw [bVal, eOp, m1, bind_val, m2, bind_val, opEq_mv, bind_val]
        simp) (fun d _ _ => by simp)
    refine fn0_ret (hc.trans ?_)
    rw [always_items, show ∀ l : List D, l.map (fun d => d) = l from List.map_id']
    unfold rangeD
    rw [List.filter_map]
    rfl
  show fn0 0 b_turns_between [hsD h, sgD a, sgD b] S = _
  refine fn0_ret ?_
  show eCall f_turns_by (aCons (eMake "Marks" f_Marks_init (aCons (eVar 0) aNil)) (aCons (eVar 1) (aCons (eVar 2) aNil))) [some (hsD h), some (sgD a), some (sgD b)] S = _
  rw [eCall, aCons, e, bind_val]
  simp only [aCons, aNil, eVar, List.getElem?_cons_succ, List.getElem?_cons_zero, Out.bind, key]
theorem f_row_seen_n {d : Nat} (hd : d < 8) {row : List Nat} (hr : ∀ q ∈ row, q < 4) (hlen : row.length ≤ 1000000) : f_row_seen [.int d, rowD row] S = .val (rowD (row.map (shw d))) S := by
  have hc := lc_map (f := iVal (eVar 1)) (own := [2]) (g := tName 2) (e := eCall f_shown (aCons (eVar 0) (aCons (eVar 2) aNil))) (ρ := [some (.int d), some (rowD row), none]) (S := S) (fun x => match x with | .int i => .int (shw d i.toNat : Nat) | x => x) (fun x => [some (.int d), some (rowD row), some x])
    (iVal_n rfl rfl) (by rw [always_items, List.length_map]; exact hlen) True.intro (fun d _ => by simp [wipeR]) (fun x hx => by
      rw [always_items] at hx
      obtain ⟨q, hq, rfl⟩ := List.mem_map.mp hx
      simp [f_shown_n hd (hr q hq) S])
  show fn0 1 b_row_seen [.int d, rowD row] S = _
  refine fn0_ret ?_
  show eCall bTuple (aCons _ aNil) [some (.int d), some (rowD row), none] S = _
  rw [eCall, aCons, hc, bind_val]
  simp only [aNil, Out.bind, bTuple_lst, always_items]
  unfold rowD
  rw [List.map_map, List.map_map]
  rfl
/-! ### colour_at -/
def allP (k : Nat) : List Sg := (List.range k).flatMap fun p => (List.range 8).map fun t => Sg.pan p t
theorem len_allP : ∀ k : Nat, (allP k).length = 8 * k
  | 0 => rfl
  | k + 1 => by
    unfold allP
    rw [show List.range (k + 1) = List.range k ++ [k] from List.range_succ, List.flatMap_append, List.length_append]
    have := len_allP k
    unfold allP at this
    rw [this]
    simp
    omega
theorem mem_allP {k p t : Nat} (hp : p < k) (ht : t < 8) : Sg.pan p t ∈ allP k :=
  List.mem_flatMap.mpr ⟨p, List.mem_range.mpr hp, List.mem_map.mpr ⟨t, List.mem_range.mpr ht, rfl⟩⟩
theorem no_reach {row : List Nat} {s : Sg} {i m : Nat} (him : i < m) (e : again h row i s = again h row m s) (hp : ∀ j ≤ m, ∀ c, again h row j s ≠ .col c) : ∀ k c, again h row k s ≠ .col c := by
  intro k
  induction k using Nat.strongRecOn with
  | ind k ih =>
    intro c hk
    by_cases hkm : k ≤ m
    · exact hp k hkm c hk
    · have h1 : again h row k s = again h row (k - m) (again h row m s) := by rw [← again_add]; congr 1; omega
      rw [h1, ← e, ← again_add] at hk
      exact ih (k - m + i) (by omega) c hk
noncomputable def tCol : Rho → M Bool := bNot (bVal (eIsi ["str"] (eVar 5)))
noncomputable def bCol : Rho → M Fl := sSeq (sIf (bVal (eOp opIn (eVar 5) (eVar 6))) (sRet (eC .non)) sSkip) (sSeq (sAsg (eC (.bl true)) (tSub (eVar 6) (eVar 5))) (sAsg (eCall f_sight_at (aCons (eVar 0) (aCons (eVar 5) (aCons (eVar 4) aNil)))) (tName 5)))
def metD (h : House) (ag : List Nat) (s : Sg) (m : Nat) : Cel := .dic false (((List.range m).map fun i => again h ag i s).map sgD) (((List.range m).map fun i => again h ag i s).map fun _ => .bl true)
theorem col_loop (wf : WF h) (hl : h.length ≤ 400) {ag : List Nat} (hr : ∀ q ∈ ag, q < 4) {s : Sg} (ho : s.ok h.length) {d1 d2 d3 : D} : ∀ (f m : Nat), 8 * h.length + 1 ≤ f + m → ((List.range m).map fun i => again h ag i s).Nodup → (∀ j < m, ∀ c, again h ag j s ≠ .col c) →
    ∃ fl S' r, sWhile tCol bCol [some (hsD h), some d1, some d2, some d3, some (rowD ag), some (sgD (again h ag m s)), some (.ref S.length)] (S ++ [metD h ag s m]) = .val fl S' ∧ Ext S.length S S' ∧ (∀ c, r = some c ↔ Reach h ag s c) ∧
      (fl = .ret (optD r) ∨ ∃ x, r = some x ∧ fl = .nx [some (hsD h), some d1, some d2, some d3, some (rowD ag), some (.str x), some (.ref S.length)])
  | 0, m, hf, hnd, hp => by
    have h1 := nodup_len hnd (b := allP h.length) fun x hx => by
      obtain ⟨i, hi, rfl⟩ := List.mem_map.mp hx
      have hi := List.mem_range.mp hi
      have ok := again_ok wf hr (m := i) ho
      cases hc : again h ag i s with
      | col c => exact absurd hc (hp i hi c)
      | pan p t => rw [hc] at ok; exact mem_allP ok.1 ok.2
    rw [List.length_map, List.length_range, len_allP] at h1
    omega
  | f + 1, m, hf, hnd, hp => by
    have okm := again_ok wf hr (m := m) ho
    rw [sWhile_eq]
    cases hc : again h ag m s with
    | col c =>
      have et : tCol [some (hsD h), some d1, some d2, some d3, some (rowD ag), some (sgD (.col c)), some (.ref S.length)] (S ++ [metD h ag s m]) = .val false (S ++ [metD h ag s m]) := by simp [tCol, sgD_col]
      rw [et, bind_val, if_neg (by simp)]
      exact ⟨_, _, some c, rfl, ext_app, fun d => ⟨fun e => by cases e; exact ⟨m, hc⟩, fun r => by rw [Reach.unique ⟨m, hc⟩ r]⟩, .inr ⟨c, rfl, rfl⟩⟩
    | pan p t =>
      rw [hc] at okm
      have et : tCol [some (hsD h), some d1, some d2, some d3, some (rowD ag), some (sgD (.pan p t)), some (.ref S.length)] (S ++ [metD h ag s m]) = .val true (S ++ [metD h ag s m]) := by simp [tCol, sgD_pan]
      rw [et, bind_val, if_pos rfl]
      have g0 : (S ++ [metD h ag s m])[S.length]? = some (.dic false (((List.range m).map fun i => again h ag i s).map sgD) (((List.range m).map fun i => again h ag i s).map fun _ => .bl true)) := by simp [metD]
      have hin : opIn (sgD (.pan p t)) (.ref S.length) (S ++ [metD h ag s m]) = .val (.bl (decide (Sg.pan p t ∈ (List.range m).map fun i => again h ag i s))) (S ++ [metD h ag s m]) := by
        have e1 : dGet (((List.range m).map fun i => again h ag i s).map sgD) (((List.range m).map fun i => again h ag i s).map fun _ => D.bl true) (sgD (.pan p t)) = if Sg.pan p t ∈ (List.range m).map fun i => again h ag i s then some (.bl true) else none := dGet_f key_sg (fun _ => D.bl true) (Sg.pan p t) _
        have e2 : seqL (S ++ [metD h ag s m]) (.ref S.length) = none := by simp only [seqL, g0]
        have e3 : dictOf (S ++ [metD h ag s m]) (.ref S.length) = some (((List.range m).map fun i => again h ag i s).map sgD, ((List.range m).map fun i => again h ag i s).map fun _ => D.bl true) := by simp only [dictOf, g0]
        simp only [opIn, opInB, e2, e3]
        rw [if_pos (key_sg.key _), e1]
        by_cases c : Sg.pan p t ∈ (List.range m).map fun i => again h ag i s
        · rw [if_pos c, decide_eq_true c]; rfl
        · rw [if_neg c, decide_eq_false c]; rfl
      by_cases c : Sg.pan p t ∈ (List.range m).map fun i => again h ag i s
      · rw [decide_eq_true c] at hin
        obtain ⟨i, hi, ei⟩ := List.mem_map.mp c
        have hi := List.mem_range.mp hi
        have hb : bCol [some (hsD h), some d1, some d2, some d3, some (rowD ag), some (sgD (.pan p t)), some (.ref S.length)] (S ++ [metD h ag s m]) = .val (.ret .non) (S ++ [metD h ag s m]) := by
          have : (sIf (bVal (eOp opIn (eVar 5) (eVar 6))) (sRet (eC .non)) sSkip) [some (hsD h), some d1, some d2, some d3, some (rowD ag), some (sgD (.pan p t)), some (.ref S.length)] (S ++ [metD h ag s m]) = .val (.ret .non) (S ++ [metD h ag s m]) := by
            simp only [sIf, bVal, eOp, eVar, List.getElem?_cons_succ, List.getElem?_cons_zero, Out.bind, hin, isBl, if_true, sRet, eC]
          rw [bCol, sSeq, this]
          rfl
        rw [hb, bind_val]
        refine ⟨_, _, none, rfl, ext_app, fun d => ⟨fun e => (nomatch e), fun ⟨k, hk⟩ => ?_⟩, .inl rfl⟩
        refine absurd hk (no_reach hi (ei.trans hc.symm) (fun j hj c' hjc => ?_) k d)
        by_cases e : j = m
        · subst e; rw [hc] at hjc; cases hjc
        · exact hp j (by omega) c' hjc
      · rw [decide_eq_false c] at hin
        have hz : m < sizeLine := by
          have h1 := nodup_len hnd (b := allP h.length) fun x hx => by
            obtain ⟨i, hi, rfl⟩ := List.mem_map.mp hx
            have hi := List.mem_range.mp hi
            have ok := again_ok wf hr (m := i) ho
            cases hc : again h ag i s with
            | col c => exact absurd hc (hp i hi c)
            | pan p t => rw [hc] at ok; exact mem_allP ok.1 ok.2
          rw [List.length_map, List.length_range, len_allP] at h1
          have := PySem.sizeLine_eq
          omega
        have hset : opSet (.ref S.length) (sgD (.pan p t)) (.bl true) (S ++ [metD h ag s m]) = .val () (S ++ [metD h ag s (m + 1)]) := by
          simp only [opSet, g0]
          rw [if_pos ⟨key_sg.key _, by simpa using hz⟩, dPut_new key_sg c (by simp)]
          unfold metD
          have em : ((List.range (m + 1)).map fun i => again h ag i s) = ((List.range m).map fun i => again h ag i s) ++ [.pan p t] := by rw [show List.range (m + 1) = List.range m ++ [m] from List.range_succ, List.map_append, List.map_cons, List.map_nil, hc]
          rw [em]
          simp [List.set_append]
        have hb : bCol [some (hsD h), some d1, some d2, some d3, some (rowD ag), some (sgD (.pan p t)), some (.ref S.length)] (S ++ [metD h ag s m]) = .val (.nx [some (hsD h), some d1, some d2, some d3, some (rowD ag), some (sgD (again h ag (m + 1) s)), some (.ref S.length)]) (S ++ [metD h ag s (m + 1)]) := by
          have b1 : (sIf (bVal (eOp opIn (eVar 5) (eVar 6))) (sRet (eC .non)) sSkip) [some (hsD h), some d1, some d2, some d3, some (rowD ag), some (sgD (.pan p t)), some (.ref S.length)] (S ++ [metD h ag s m]) = .val (.nx [some (hsD h), some d1, some d2, some d3, some (rowD ag), some (sgD (.pan p t)), some (.ref S.length)]) (S ++ [metD h ag s m]) := by
            simp only [sIf, bVal, eOp, eVar, List.getElem?_cons_succ, List.getElem?_cons_zero, Out.bind, hin, isBl, sSkip]
            rfl
          have b2 : (sAsg (eC (.bl true)) (tSub (eVar 6) (eVar 5))) [some (hsD h), some d1, some d2, some d3, some (rowD ag), some (sgD (.pan p t)), some (.ref S.length)] (S ++ [metD h ag s m]) = .val (.nx [some (hsD h), some d1, some d2, some d3, some (rowD ag), some (sgD (.pan p t)), some (.ref S.length)]) (S ++ [metD h ag s (m + 1)]) := by
            simp only [sAsg, eC, tSub, eVar, List.getElem?_cons_succ, List.getElem?_cons_zero, Out.bind, hset]
          have b3 := f_sight_at_n wf hr (s := .pan p t) okm (S ++ [metD h ag s (m + 1)])
          rw [bCol, sSeq, b1, bind_val]
          simp only
          rw [sSeq, b2, bind_val]
          simp only [sAsg, eCall, aCons, aNil, eVar, List.getElem?_cons_succ, List.getElem?_cons_zero, Out.bind, b3, tName]
          rw [again_succ, hc]
          rfl
        rw [hb, bind_val, onTurn]
        refine col_loop wf hl hr ho f (m + 1) (by omega) ?_ fun j hj c' hjc => ?_
        · rw [List.range_succ, List.map_append, List.map_cons, List.map_nil, hc, List.nodup_append]
          refine ⟨hnd, by simp, fun x hx y hy e => ?_⟩
          rw [List.mem_singleton] at hy
          subst hy; subst e
          exact c hx
        · by_cases e : j = m
          · subst e; rw [hc] at hjc; cases hjc
          · exact hp j (by omega) c' hjc
theorem f_colour_at_n (wf : WF h) (hl : h.length ≤ 400) {row ag : List Nat} (hr : ∀ q ∈ row, q < 4) (ha : ∀ q ∈ ag, q < 4) {s : Sg} (ho : s.ok h.length) :
    ∃ S' r, f_colour_at [hsD h, sgD s, .tup [rowD row, rowD ag]] S = .val (optD r) S' ∧ Ext S.length S S' ∧ ∀ c, r = some c ↔ Reach h ag (sightAt h s row) c := by
  obtain ⟨fl, S', r, e, x, hc, hfl⟩ := col_loop (S := S) (d1 := sgD s) (d2 := .tup [rowD row, rowD ag]) (d3 := rowD row) wf hl ha (sightAt_ok wf hr ho) (8 * h.length + 1) 0 (by omega) List.nodup_nil (fun j hj => absurd hj (Nat.not_lt_zero _))
  refine ⟨S', r, ?_, x, hc⟩
  have b1 : (sAsg (eVar 2) (tTupZ 2 (tsCons (tName 3) (tsCons (tName 4) tsNil)))) [some (hsD h), some (sgD s), some (.tup [rowD row, rowD ag]), none, none, none, none] S = .val (.nx [some (hsD h), some (sgD s), some (.tup [rowD row, rowD ag]), some (rowD row), some (rowD ag), none, none]) S := by simp
  have b2 : (sPar2 5 6 (aCons (eCall f_sight_at (aCons (eVar 0) (aCons (eVar 1) (aCons (eVar 3) aNil)))) (aCons eDcC aNil))) [some (hsD h), some (sgD s), some (.tup [rowD row, rowD ag]), some (rowD row), some (rowD ag), none, none] S = .val (.nx [some (hsD h), some (sgD s), some (.tup [rowD row, rowD ag]), some (rowD row), some (rowD ag), some (sgD (sightAt h s row)), some (.ref S.length)]) (S ++ [.dic false [] []]) := by
    have := f_sight_at_n wf hr ho S
    simp [this]
  show fn0 4 b_colour_at [hsD h, sgD s, .tup [rowD row, rowD ag]] S = _
  simp only [fn0, b_colour_at, List.map_cons, List.map_nil, List.cons_append, List.nil_append, List.replicate]
  rw [sSeq, b1, bind_val]
  simp only
  rw [sSeq, b2, bind_val]
  simp only
  have e : sWhile (bNot (bVal (eIsi ["str"] (eVar 5)))) (sSeq (sIf (bVal (eOp opIn (eVar 5) (eVar 6))) (sRet (eC .non)) sSkip) (sSeq (sAsg (eC (.bl true)) (tSub (eVar 6) (eVar 5))) (sAsg (eCall f_sight_at (aCons (eVar 0) (aCons (eVar 5) (aCons (eVar 4) aNil)))) (tName 5))))
      [some (hsD h), some (sgD s), some (.tup [rowD row, rowD ag]), some (rowD row), some (rowD ag), some (sgD (sightAt h s row)), some (.ref S.length)] (S ++ [.dic false [] []]) = .val fl S' := e
  rw [sSeq, e, bind_val]
  rcases hfl with rfl | ⟨y, rfl, rfl⟩
  · rfl
  · simp [optD]
end
end Pg
set_option Elab.async false
set_option linter.all false
set_option maxRecDepth 100000
set_option maxHeartbeats 1000000
/-! M9: drawn. -/
namespace Pg
open Z
open PySem (Str sizeLine)
open L2 (atI)
abbrev Gr := List (List (Option Str))
def rwD (r : List (Option Str)) : D := .lst (r.map optD)
def gridD (g : Gr) : D := .lst (g.map rwD)
def uni (k : Nat) (w : Option Str) : Gr := List.replicate k (List.replicate k w)
def joinG (a b : Gr) : Gr := List.zipWith (· ++ ·) a b
def grid (h : House) : Nat → Sg → Gr
  | 0, s => uni 1 (whBy (wls h) s)
  | d + 1, .col x => uni (2 ^ (d + 1)) (some x)
  | d + 1, .pan p t => joinG (grid h d (quar h (.pan p t) 0) ++ grid h d (quar h (.pan p t) 2)) (grid h d (quar h (.pan p t) 1) ++ grid h d (quar h (.pan p t) 3))
theorem grid_col (h : House) (x : Str) : ∀ d : Nat, grid h d (.col x) = uni (2 ^ d) (some x)
  | 0 => rfl
  | _ + 1 => rfl
def Shape (k m : Nat) (g : Gr) : Prop := g.length = k ∧ ∀ r ∈ g, r.length = m
theorem shape_uni (k : Nat) (w : Option Str) : Shape k k (uni k w) := ⟨by simp [uni], fun r hr => by rw [List.eq_of_mem_replicate hr]; simp⟩
theorem shape_join : ∀ {k m n : Nat} {a b : Gr}, Shape k m a → Shape k n b → Shape k (m + n) (joinG a b)
  | k, m, n, a, b, ha, hb => by
    refine ⟨by simp [joinG, ha.1, hb.1], fun r hr => ?_⟩
    unfold joinG at hr
    obtain ⟨i, hi, rfl⟩ := List.mem_iff_getElem.mp hr
    rw [List.getElem_zipWith, List.length_append, ha.2 _ (List.getElem_mem _), hb.2 _ (List.getElem_mem _)]
theorem shape_app {k m n : Nat} {a b : Gr} (ha : Shape k m a) (hb : Shape n m b) : Shape (k + n) m (a ++ b) := ⟨by rw [List.length_append, ha.1, hb.1], fun r hr => by
  rcases List.mem_append.mp hr with q | q
  · exact ha.2 r q
  · exact hb.2 r q⟩
theorem shape_grid (h : House) : ∀ (d : Nat) (s : Sg), Shape (2 ^ d) (2 ^ d) (grid h d s)
  | 0, s => shape_uni 1 _
  | d + 1, .col x => shape_uni _ _
  | d + 1, .pan p t => by
    have e : 2 ^ (d + 1) = 2 ^ d + 2 ^ d := by rw [Nat.pow_succ]; omega
    rw [e]
    exact shape_join (shape_app (shape_grid h d _) (shape_grid h d _)) (shape_app (shape_grid h d _) (shape_grid h d _))
theorem join_uni (k : Nat) (w : Option Str) : joinG (uni k w ++ uni k w) (uni k w ++ uni k w) = uni (k + k) w := by
  unfold uni joinG
  rw [List.replicate_append_replicate, List.zipWith_replicate, List.replicate_append_replicate, Nat.min_self]
section
variable {h : House} {S : Sto} {mk : Nat → Nat → Nat}
theorem grid_uni (wf : WF h) {c : Str} : ∀ (d : Nat) {s : Sg}, s.ok h.length → whBy (wls h) s = some c → grid h d s = uni (2 ^ d) (some c)
  | 0, s, _, e => by show uni 1 _ = _; rw [e]
  | d + 1, .col x, _, e => by cases e; rfl
  | d + 1, .pan p t, ho, e => by
    have q : ∀ k < 4, grid h d (quar h (.pan p t) k) = uni (2 ^ d) (some c) := fun k hk => grid_uni wf d (quar_ok wf hk ho) (whBy_quar' wf hk ho e)
    show joinG (grid h d _ ++ grid h d _) (grid h d _ ++ grid h d _) = _
    rw [q 0 (by omega), q 1 (by omega), q 2 (by omega), q 3 (by omega), join_uni]
    congr 1
    rw [Nat.pow_succ]
    omega
theorem grid_cong (wf : WF h) (F : Fin h (wls h) mk) : ∀ (d : Nat) {s s' : Sg}, s.ok h.length → s'.ok h.length → mv (wls h) mk s = mv (wls h) mk s' → grid h d s = grid h d s' := by
  intro d
  induction d with
  | zero =>
    intro s s' ho ho' e
    show uni 1 _ = uni 1 _
    congr 1
    cases hm : mv (wls h) mk s with
    | inl c => rw [mv_inl hm, mv_inl (e.symm.trans hm)]
    | inr n =>
      have a : ∀ {s : Sg} {n : Nat}, mv (wls h) mk s = .inr n → whBy (wls h) s = none := fun {s n} hm => by
        cases hw : whBy (wls h) s with
        | none => rfl
        | some c => rw [mv_of hw] at hm; cases hm
      rw [a hm, a (e.symm.trans hm)]
  | succ d ih =>
    intro s s' ho ho' e
    cases hm : mv (wls h) mk s with
    | inl c => rw [grid_uni wf (d + 1) ho (mv_inl hm), grid_uni wf (d + 1) ho' (mv_inl (e.symm.trans hm))]
    | inr n =>
      have hm' := e.symm.trans hm
      cases s with
      | col x => cases hm
      | pan p t =>
        cases s' with
        | col x => cases hm'
        | pan p' t' =>
          have q : ∀ k < 4, grid h d (quar h (.pan p t) k) = grid h d (quar h (.pan p' t') k) := fun k hk => ih (quar_ok wf hk ho) (quar_ok wf hk ho') (F.quar wf hk ho ho' e)
          show joinG (grid h d _ ++ grid h d _) (grid h d _ ++ grid h d _) = joinG (grid h d _ ++ grid h d _) (grid h d _ ++ grid h d _)
          rw [q 0 (by omega), q 1 (by omega), q 2 (by omega), q 3 (by omega)]
/-! the defs -/
theorem mulS_2 (i : Int) : mulS i 2 = true := by
  have h1 : -(2 ^ 64) < (2 : Int) := by decide
  have h2 : (2 : Int) < 2 ^ 64 := by decide
  simp only [mulS, h1, h2, decide_true, Bool.and_self, Bool.or_true]
theorem opMulI_n {i j : Int} (hm : mulS i j = true) : opMulI (.int i) (.int j) S = .val (.int (i * j)) S := by
  simp only [opMulI]
  rw [if_pos hm]
theorem twice_n {i j : Int} {a d : D} (e3 : opMulI (.int i) (.int 2) S = .val (.int j) S) : sAug 2 opMulI (eVar 0) [some (.int 2), some a, some (.int i), some d] S = .val (.nx [some (.int 2), some a, some (.int j), some d]) S := by
  simp only [sAug, eVar, List.getElem?_cons_succ, List.getElem?_cons_zero, Out.bind, e3, List.set]
theorem pow_step (k : Nat) : opMulI (.int ((2 ^ k : Nat) : Int)) (.int 2) S = .val (.int ((2 ^ (k + 1) : Nat) : Int)) S := by
  have e2 : ((2 ^ (k + 1) : Nat) : Int) = ((2 ^ k : Nat) : Int) * 2 := by rw [Nat.pow_succ, Int.natCast_mul]; rfl
  rw [e2]
  exact opMulI_n (mulS_2 _)
def PowJ (d : Nat) (S : Sto) (k : Nat) (ρ : Rho) (S' : Sto) : Prop := S' = S ∧ k ≤ d ∧ ∃ x m, m = 2 ^ k ∧ ρ = [some (.int 2), some (.int d), some (.int ((m : Nat) : Int)), x]
theorem f_power_n {d : Nat} (hd : d ≤ 10) : f_power [.int 2, .int d] S = .val (.int ((2 ^ d : Nat) : Int)) S := by
  obtain ⟨ρ', S', e, j⟩ := forL_all (ok := fun _ => True) (g := tName 3) (b := sAug 2 opMulI (eVar 0)) (ds := rangeD d) (ρ := [some (.int 2), some (.int d), some (.int ((1 : Nat) : Int)), none]) (S := S)
    (PowJ d S) (fun _ _ _ _ => True.intro) ⟨rfl, Nat.zero_le _, none, 1, rfl, rfl⟩ (by
      rintro k y ρ S' hk ⟨rfl, hkd, x, m, hm, rfl⟩
      have hkl : k < d := by have := (List.getElem?_eq_some_iff.mp hk).1; simpa using this
      have := pow_step (S := S') k
      rw [← hm] at this
      exact ⟨[some (.int 2), some (.int d), some (.int (m : Int)), some y], S', [some (.int 2), some (.int d), some (.int ((2 ^ (k + 1) : Nat) : Int)), some y], S', rfl, .inl (twice_n this), rfl, hkl, _, _, rfl, rfl⟩)
  obtain ⟨rfl, _, x, m, hm, rfl⟩ := j
  rw [rangeD_len] at hm
  show fn0 2 b_power [.int 2, .int d] S' = _
  simp only [fn0, b_power, List.map_cons, List.map_nil, List.cons_append, List.nil_append, List.replicate]
  have b1 : (sAsg (eC (.int 1)) (tName 2)) [some (.int 2), some (.int d), none, none] S' = .val (.nx [some (.int 2), some (.int d), some (.int ((1 : Nat) : Int)), none]) S' := rfl
  rw [sSeq, b1, bind_val]
  simp only
  rw [sSeq, sFor, rng1_n (n := d) rfl (by omega), bind_val, always_ok, always_items, e, bind_val]
  rw [← hm]
  rfl
end
end Pg
set_option Elab.async false
set_option linter.all false
set_option maxRecDepth 100000
set_option maxHeartbeats 1000000
namespace Pg
open Z
open PySem (Str sizeLine)
open L2 (atI)
section
variable {h : House} {S : Sto} {mk : Nat → Nat → Nat}
theorem f_whole_by_n {s : Sg} (ho : s.ok h.length) : f_whole_by [.lst (whL h h.length), sgD s] S = .val (optD (whBy (wls h) s)) S := by
  cases s with
  | col x => simp [f_whole_by, b_whole_by, sgD_col, whBy, optD]
  | pan p t => simp [f_whole_by, b_whole_by, sgD_pan, whBy, opIx_lst (whL_at (k := h.length) ho.1), wls]
theorem opMul_rep (x : D) {k : Nat} (hk : k ≤ 1000) : opMul (.lst [x]) (.int (k : Nat)) S = .val (.lst (List.replicate k x)) S := by
  have hz := PySem.sizeLine_eq
  simp only [opMul, seqM]
  rw [if_pos ⟨by omega, by omega, by simp; omega⟩]
  simp
theorem zip_map {A B : Gr} : (zips (A.map rwD) (B.map rwD)).map (fun d => match d with | .tup [.lst a, .lst b] => D.lst (a ++ b) | d => d) = (joinG A B).map rwD := by
  unfold zips joinG
  rw [List.map_map]
  induction A generalizing B with
  | nil => rfl
  | cons a A ih =>
    cases B with
    | nil => rfl
    | cons b B =>
      simp only [List.map_cons, List.zip_cons_cons, List.zipWith_cons_cons, ih]
      congr 1
      simp [rwD]
end
end Pg
set_option Elab.async false
set_option linter.all false
set_option maxRecDepth 100000
set_option maxHeartbeats 1000000
namespace Pg
open Z
open PySem (Str sizeLine)
open L2 (atI)
section
variable {h : House} {S : Sto} {mk : Nat → Nat → Nat}
noncomputable def sPow : Rho → M Fl := sSeq (sAsg (eCall f_power (aCons (eC (.int 2)) (aCons (eVar 3) aNil))) (tName 4)) (sRet (eFin finL (eComp (iRng1 (aCons (eVar 4) aNil)) [10] (tName 10) bYes (eOp opMul (eLst (aCons (eCall f_whole_by (aCons (eVar 1) (aCons (eVar 2) aNil))) aNil)) (eVar 4)))))
def rr (h : House) (s : Sg) (d : Nat) : Rho := [some (hsD h), some (.lst (whL h h.length)), some (sgD s), some (.int d), none, none, none, none, none, none, none, none, none]
theorem pow64 {d : Nat} (hd : d ≤ 6) : 2 ^ d ≤ 64 := Nat.le_trans (Nat.pow_le_pow_right (by omega) hd) (by decide)
theorem flat_gen {F W : List D → M D} {FR : Rho → M Src} {O : D → D → M D} {s : Sg} {d k : Nat} {w : Option Str} (hk : k ≤ 64) (hF : F [.int 2, .int d] S = .val (.int (k : Nat)) S) (hW : W [.lst (whL h h.length), sgD s] S = .val (optD w) S) (hO : ∀ x, O (.lst [x]) (.int (k : Nat)) S = .val (.lst (List.replicate k x)) S)
    (hR : FR [some (hsD h), some (.lst (whL h h.length)), some (sgD s), some (.int d), some (.int ((k : Nat) : Int)), none, none, none, none, none, none, none, none] S = .val (always (rangeD k)) S) :
    (sSeq (sAsg (eCall F (aCons (eC (.int 2)) (aCons (eVar 3) aNil))) (tName 4)) (sRet (eFin finL (eComp FR [10] (tName 10) bYes (eOp O (eLst (aCons (eCall W (aCons (eVar 1) (aCons (eVar 2) aNil))) aNil)) (eVar 4)))))) (rr h s d) S = .val (.ret (gridD (uni k w))) S := by
  have h1 : (sAsg (eCall F (aCons (eC (.int 2)) (aCons (eVar 3) aNil))) (tName 4)) (rr h s d) S = .val (.nx [some (hsD h), some (.lst (whL h h.length)), some (sgD s), some (.int d), some (.int ((k : Nat) : Int)), none, none, none, none, none, none, none, none]) S := by
    simp only [sAsg, eCall, aCons, aNil, eC, rr, eVar, List.getElem?_cons_succ, List.getElem?_cons_zero, Out.bind, hF, tName]
    rfl
  have hlc := lc_map (f := FR) (own := [10]) (g := tName 10) (e := eOp O (eLst (aCons (eCall W (aCons (eVar 1) (aCons (eVar 2) aNil))) aNil)) (eVar 4)) (ρ := [some (hsD h), some (.lst (whL h h.length)), some (sgD s), some (.int d), some (.int ((k : Nat) : Int)), none, none, none, none, none, none, none, none]) (S := S) (fun _ => rwD (List.replicate k w))
    (fun y => [some (hsD h), some (.lst (whL h h.length)), some (sgD s), some (.int d), some (.int ((k : Nat) : Int)), none, none, none, none, none, some y, none, none]) hR (by rw [always_items, rangeD_len]; omega) True.intro (fun y _ => by simp [wipeR]) (fun y _ => by
      simp only [eOp, eLst, eCall, aCons, aNil, eVar, List.getElem?_cons_succ, List.getElem?_cons_zero, Out.bind, hW, hO]
      rw [rwD, List.map_replicate])
  rw [always_items, List.map_const', rangeD_len] at hlc
  rw [sSeq, h1, bind_val]
  simp only
  rw [sRet, hlc, bind_val]
  unfold gridD uni
  rw [List.map_replicate]
theorem flat_n (wf : WF h) {s : Sg} (ho : s.ok h.length) {d : Nat} (hd : d ≤ 6) : sPow (rr h s d) S = .val (.ret (gridD (uni (2 ^ d) (whBy (wls h) s)))) S := by
  have hp := pow64 hd
  have hr := rng1_n (g := aCons (eVar 4) aNil) (ρ := [some (hsD h), some (.lst (whL h h.length)), some (sgD s), some (.int d), some (.int (((2 ^ d : Nat) : Nat) : Int)), none, none, none, none, none, none, none, none]) (S := S) (S' := S) (n := 2 ^ d) rfl (by omega)
  exact flat_gen hp (f_power_n (by omega)) (f_whole_by_n ho) (fun x => opMul_rep x (by omega)) hr
theorem test_n {s : Sg} {d : Nat} : bOr (bVal (eOp opEq (eVar 3) (eC (.int 0)))) (bVal (eIsi ["str"] (eVar 2))) (rr h s d) S = .val (decide (d = 0) || match s with | .col _ => true | .pan _ _ => false) S := by
  have e : opEq (.int (d : Int)) (.int 0) S = .val (.bl (decide (d = 0))) S := by
    rw [opEq_int]
    congr 2
    by_cases c : d = 0
    · subst c; rfl
    · rw [decide_eq_false c, decide_eq_false (by omega)]
  by_cases c : d = 0
  · rw [decide_eq_true c] at e
    simp only [bOr, bVal, eOp, eC, rr, eVar, List.getElem?_cons_succ, List.getElem?_cons_zero, Out.bind, e, isBl]
    simp [c]
  · rw [decide_eq_false c] at e
    simp only [bOr, bVal, eOp, eC, rr, eVar, List.getElem?_cons_succ, List.getElem?_cons_zero, Out.bind, e, isBl]
    cases s <;> simp [c, sgD_col, sgD_pan]
noncomputable def lcParts (f : Nat) : Rho → M D := eFin finL (eComp (iVal (eCall f_quarters_of (aCons (eVar 0) (aCons (eVar 2) aNil)))) [9] (tName 9) bYes (eCall (f_rows_of f) (aCons (eVar 0) (aCons (eVar 1) (aCons (eVar 9) (aCons (eOp opSub (eVar 3) (eC (.int 1))) aNil))))))
theorem parts_n (wf : WF h) {s : Sg} (ho : s.ok h.length) {d f : Nat} (ih : ∀ s : Sg, s.ok h.length → f_rows_of f [hsD h, .lst (whL h h.length), sgD s, .int d] S = .val (gridD (grid h d s)) S) :
    lcParts f (rr h s (d + 1)) S = .val (.lst [gridD (grid h d (quar h s 0)), gridD (grid h d (quar h s 1)), gridD (grid h d (quar h s 2)), gridD (grid h d (quar h s 3))]) S := by
  have hq := f_quarters_of_n wf ho S
  have hlc := lc_map (f := iVal (eCall f_quarters_of (aCons (eVar 0) (aCons (eVar 2) aNil)))) (own := [9]) (g := tName 9) (e := eCall (f_rows_of f) (aCons (eVar 0) (aCons (eVar 1) (aCons (eVar 9) (aCons (eOp opSub (eVar 3) (eC (.int 1))) aNil))))) (ρ := rr h s (d + 1)) (S := S) (fun y => gridD (grid h d (dec y)))
    (fun y => [some (hsD h), some (.lst (whL h h.length)), some (sgD s), some (.int ((d + 1 : Nat) : Int)), none, none, none, none, none, some y, none, none, none])
    (iVal_n (d := .lst ((List.range 4).map fun k => sgD (quar h s k))) (S' := S) (by simp only [eCall, aCons, aNil, rr, eVar, List.getElem?_cons_succ, List.getElem?_cons_zero, Out.bind, hq]) rfl) (by simp) True.intro (fun y _ => by simp [wipeR, rr]) (fun y hy => by
      rw [always_items] at hy
      obtain ⟨k, hk, rfl⟩ := List.mem_map.mp hy
      have := ih (quar h s k) (quar_ok wf (List.mem_range.mp hk) ho)
      have es : ((d + 1 : Nat) : Int) - 1 = (d : Nat) := by omega
      simp only [eCall, aCons, aNil, eOp, eC, eVar, List.getElem?_cons_succ, List.getElem?_cons_zero, Out.bind, opSub_int, es, this, dec_sgD])
  rw [lcParts, hlc, always_items, show List.range 4 = [0, 1, 2, 3] from rfl]
  simp
noncomputable def lcJoin : Rho → M D := eFin finL (eComp (iZipS (aCons (eOp opAdd (eVar 5) (eVar 7)) (aCons (eOp opAdd (eVar 6) (eVar 8)) aNil))) [11, 12] (tTupZ 2 (tsCons (tName 11) (tsCons (tName 12) tsNil))) bYes (eOp opAdd (eVar 11) (eVar 12)))
theorem add_grid {k : Nat} (hk : k ≤ 64) {a b : Gr} (ha : Shape k k a) (hb : Shape k k b) : opAdd (gridD a) (gridD b) S = .val (gridD (a ++ b)) S := by
  have hz := PySem.sizeLine_eq
  unfold gridD
  rw [opAdd_lst, if_pos (by rw [List.length_map, List.length_map, ha.1, hb.1]; omega), List.map_append]
theorem join_n {k : Nat} (hk : k ≤ 64) {a b c e : Gr} (ha : Shape k k a) (hb : Shape k k b) (hc : Shape k k c) (he : Shape k k e) {x0 x1 x2 x3 : Option D} :
    lcJoin [x0, x1, x2, x3, none, some (gridD a), some (gridD b), some (gridD c), some (gridD e), none, none, none, none] S = .val (gridD (joinG (a ++ c) (b ++ e))) S := by
  have hz := PySem.sizeLine_eq
  have sA := shape_app ha hc
  have sB := shape_app hb he
  have z1 := add_grid (S := S) hk ha hc
  have z2 := add_grid (S := S) hk hb he
  have hzs : iZipS (aCons (eOp opAdd (eVar 5) (eVar 7)) (aCons (eOp opAdd (eVar 6) (eVar 8)) aNil)) [x0, x1, x2, x3, none, some (gridD a), some (gridD b), some (gridD c), some (gridD e), none, none, none, none] S = .val ⟨zips ((a ++ c).map rwD) ((b ++ e).map rwD), fun _ => True ∧ True⟩ S := by
    simp only [iZipS, aCons, aNil, eOp, eVar, List.getElem?_cons_succ, List.getElem?_cons_zero, Out.bind, z1, z2]
    unfold gridD
    simp only [srcZipS, lstSrc_lst]
    rw [if_pos (show (always ((a ++ c).map rwD)).items.length = (always ((b ++ e).map rwD)).items.length by rw [always_items, always_items, List.length_map, List.length_map, sA.1, sB.1])]
    rfl
  have hlen : (zips ((a ++ c).map rwD) ((b ++ e).map rwD)).length ≤ 1000000 := by
    rw [zips_len, List.length_map, List.length_map, sA.1, sB.1]; omega
  have hl2 := lc_map (f := iZipS (aCons (eOp opAdd (eVar 5) (eVar 7)) (aCons (eOp opAdd (eVar 6) (eVar 8)) aNil))) (own := [11, 12]) (g := tTupZ 2 (tsCons (tName 11) (tsCons (tName 12) tsNil))) (e := eOp opAdd (eVar 11) (eVar 12)) (ρ := [x0, x1, x2, x3, none, some (gridD a), some (gridD b), some (gridD c), some (gridD e), none, none, none, none]) (S := S)
    (fun y => match y with | .tup [.lst a, .lst b] => D.lst (a ++ b) | y => y) (fun y => match y with | .tup [u, v] => [x0, x1, x2, x3, none, some (gridD a), some (gridD b), some (gridD c), some (gridD e), none, none, some u, some v] | _ => [])
    hzs hlen ⟨trivial, trivial⟩ (fun y hy => by
      obtain ⟨⟨a, b⟩, hab, rfl⟩ := List.mem_map.mp hy
      simp [wipeR]) (fun y hy => by
      obtain ⟨⟨a', b'⟩, hab, rfl⟩ := List.mem_map.mp hy
      obtain ⟨h1, h2⟩ := List.of_mem_zip hab
      obtain ⟨ra, hra, rfl⟩ := List.mem_map.mp h1
      obtain ⟨rb, hrb, rfl⟩ := List.mem_map.mp h2
      simp only [rwD, eOp, eVar, List.getElem?_cons_succ, List.getElem?_cons_zero, Out.bind]
      rw [opAdd_lst, if_pos (by rw [List.length_map, List.length_map, sA.2 _ hra, sB.2 _ hrb]; omega)])
  exact hl2.trans (congrArg (fun l => Out.val (D.lst l) S) zip_map)
theorem f_rows_n (wf : WF h) : ∀ (d f : Nat) {s : Sg} (S : Sto), d ≤ 6 → d < f → s.ok h.length → f_rows_of f [hsD h, .lst (whL h h.length), sgD s, .int d] S = .val (gridD (grid h d s)) S
  | d, 0, s, S, _, hf, _ => absurd hf (Nat.not_lt_zero _)
  | d, f + 1, s, S, hd, hf, ho => by
    show fn0 9 (b_rows_of (f_rows_of f)) [hsD h, .lst (whL h h.length), sgD s, .int d] S = _
    have e0 : (([hsD h, .lst (whL h h.length), sgD s, .int d] : List D).map some ++ List.replicate 9 none) = rr h s d := rfl
    have eb : b_rows_of (f_rows_of f) = sSeq (sIf (bOr (bVal (eOp opEq (eVar 3) (eC (.int 0)))) (bVal (eIsi ["str"] (eVar 2)))) sPow sSkip) (sSeq (sAsg (lcParts f) (tTupZ 4 (tsCons (tName 5) (tsCons (tName 6) (tsCons (tName 7) (tsCons (tName 8) tsNil)))))) (sRet lcJoin)) := rfl
    rw [fn0, e0, eb]
    have hflat := flat_n (S := S) wf ho hd
    cases s with
    | col x =>
      have ht := test_n (h := h) (S := S) (s := .col x) (d := d)
      rw [Bool.or_true] at ht
      rw [sSeq, sIf, ht, bind_val, if_pos rfl, hflat, bind_val]
      simp only
      rw [bind_val, grid_col]
      rfl
    | pan p t =>
      have ht := test_n (h := h) (S := S) (s := .pan p t) (d := d)
      rw [Bool.or_false] at ht
      cases d with
      | zero =>
        rw [sSeq, sIf, ht, bind_val, if_pos (by simp), hflat, bind_val]
        rfl
      | succ d =>
        have hp := pow64 (d := d) (by omega)
        have hpr := parts_n wf ho (f := f) (d := d) (S := S) fun s' ho' => f_rows_n wf d f S (by omega) (by omega) ho'
        have hj := join_n (S := S) hp (shape_grid h d (quar h (.pan p t) 0)) (shape_grid h d (quar h (.pan p t) 1)) (shape_grid h d (quar h (.pan p t) 2)) (shape_grid h d (quar h (.pan p t) 3)) (x0 := some (hsD h)) (x1 := some (.lst (whL h h.length))) (x2 := some (sgD (.pan p t))) (x3 := some (.int ((d + 1 : Nat) : Int)))
        have h1 : sAsg (lcParts f) (tTupZ 4 (tsCons (tName 5) (tsCons (tName 6) (tsCons (tName 7) (tsCons (tName 8) tsNil))))) (rr h (.pan p t) (d + 1)) S = .val (.nx [some (hsD h), some (.lst (whL h h.length)), some (sgD (.pan p t)), some (.int ((d + 1 : Nat) : Int)), none, some (gridD (grid h d (quar h (.pan p t) 0))), some (gridD (grid h d (quar h (.pan p t) 1))), some (gridD (grid h d (quar h (.pan p t) 2))), some (gridD (grid h d (quar h (.pan p t) 3))), none, none, none, none]) S := by
          rw [sAsg, hpr, bind_val]
          rfl
        have hs : sIf (bOr (bVal (eOp opEq (eVar 3) (eC (.int 0)))) (bVal (eIsi ["str"] (eVar 2)))) sPow sSkip (rr h (.pan p t) (d + 1)) S = .val (.nx (rr h (.pan p t) (d + 1))) S := by
          rw [sIf, ht, bind_val, if_neg (by simp)]
          rfl
        rw [sSeq, hs, bind_val]
        simp only
        rw [sSeq, h1, bind_val]
        simp only
        rw [sRet, hj, bind_val, bind_val]
        rfl
theorem f_drawn_n (wf : WF h) (hl : h.length ≤ 400) {s : Sg} (ho : s.ok h.length) {d : Nat} (hd : d < 4) : f_drawn [hsD h, sgD s, .int d] S = .val (gridD (grid h d s)) S := by
  have h1 := f_wholes_of_n wf (by omega : h.length ≤ 1000) S
  have h2 := f_rows_n wf d 4 S (by omega) hd ho
  show fn0 0 b_drawn [hsD h, sgD s, .int d] S = _
  refine fn0_ret ?_
  simp only [eCall, aCons, aNil, eVar, List.map_cons, List.map_nil, List.cons_append, List.nil_append, List.getElem?_cons_succ, List.getElem?_cons_zero, Out.bind, h1]
  exact h2
end
end Pg
set_option Elab.async false
set_option linter.all false
set_option maxRecDepth 100000
set_option maxHeartbeats 1000000
/-! N1: small steps; the law's box. -/
namespace Z
section
variable {ρ ρ' : Rho} {S S' S'' : Sto} {d e r : D} {ds : List D} {o : Out Fl}
theorem seq_nx {a b : Rho → M Fl} (h : a ρ S = .val (.nx ρ') S') (h2 : b ρ' S' = o) : sSeq a b ρ S = o := by rw [sSeq, h, bind_val]; exact h2
theorem seq_ret {a b : Rho → M Fl} (h : a ρ S = .val (.ret d) S') : sSeq a b ρ S = .val (.ret d) S' := by rw [sSeq, h, bind_val]
theorem if_t {c : Rho → M Bool} {a b : Rho → M Fl} (h : c ρ S = .val true S') (h2 : a ρ S' = o) : sIf c a b ρ S = o := by rw [sIf, h, bind_val, if_pos rfl]; exact h2
theorem if_f {c : Rho → M Bool} {a b : Rho → M Fl} (h : c ρ S = .val false S') (h2 : b ρ S' = o) : sIf c a b ρ S = o := by rw [sIf, h, bind_val, if_neg (by simp)]; exact h2
theorem skip_n : sSkip ρ S = .val (.nx ρ) S := rfl
theorem asg_n {f : Rho → M D} {i : Nat} (h : f ρ S = .val d S') : sAsg f (tName i) ρ S = .val (.nx (ρ.set i (some d))) S' := by simp only [sAsg, h, Out.bind, tName]
theorem ret_n {f : Rho → M D} (h : f ρ S = .val d S') : sRet f ρ S = .val (.ret d) S' := by simp only [sRet, h, Out.bind]
theorem fn_ret {m : Nat} {g : Rho → M Fl} (h : g (ds.map some ++ List.replicate m none) S = .val (.ret d) S') : fn0 m g ds S = .val d S' := by simp only [fn0, h, Out.bind]
theorem call_n {F : List D → M D} {g : Rho → M (List D)} (hg : g ρ S = .val ds S') (hF : F ds S' = .val d S'') : eCall F g ρ S = .val d S'' := by rw [eCall, hg]; exact hF
theorem cons_n {f : Rho → M D} {g : Rho → M (List D)} (hf : f ρ S = .val d S') (hg : g ρ S' = .val ds S'') : aCons f g ρ S = .val (d :: ds) S'' := by simp only [aCons, hf, hg, Out.bind]
theorem nil_n : aNil ρ S = .val [] S := rfl
theorem op_n {op : D → D → M D} {f g : Rho → M D} {S3 : Sto} (hf : f ρ S = .val d S') (hg : g ρ S' = .val e S'') (ho : op d e S'' = .val r S3) : eOp op f g ρ S = .val r S3 := by simp only [eOp, hf, hg, Out.bind, ho]
theorem var_n {i : Nat} (h : ρ[i]? = some (some d)) : eVar i ρ S = .val d S := by simp only [eVar, h]
theorem bval_n {f : Rho → M D} {b : Bool} (h : f ρ S = .val (.bl b) S') : bVal f ρ S = .val b S' := by simp only [bVal, h, Out.bind, isBl]
theorem for_n {f : Rho → M Src} {g : D → Rho → M Rho} {b : Rho → M Fl} {src : Src} (h : f ρ S = .val src S') (h2 : forL src.ok g b src.items ρ S' = o) : sFor f g b ρ S = o := by rw [sFor, h, bind_val]; exact h2
theorem tup_n {g : Rho → M (List D)} (h : g ρ S = .val ds S') : eTup g ρ S = .val (.tup ds) S' := by simp only [eTup, h, Out.bind]
theorem lst_n {g : Rho → M (List D)} (h : g ρ S = .val ds S') : eLst g ρ S = .val (.lst ds) S' := by simp only [eLst, h, Out.bind]
theorem list_of {β : Type} {f : β → D} {P : β → Prop} : ∀ {ys : List D}, (∀ y ∈ ys, ∃ x, y = f x ∧ P x) → ∃ l : List β, ys = l.map f ∧ ∀ x ∈ l, P x
  | [], _ => ⟨[], rfl, fun x hx => nomatch hx⟩
  | y :: ys, h => by
    obtain ⟨x, rfl, hx⟩ := h y List.mem_cons_self
    obtain ⟨l, rfl, hl⟩ := list_of fun y hy => h y (List.mem_cons_of_mem _ hy)
    refine ⟨x :: l, rfl, fun z hz => ?_⟩
    rcases List.mem_cons.mp hz with e | e
    · subst e; exact hx
    · exact hl z e
/-- a list comprehension by what stays true -/
theorem lc_inv {β : Type} {it : Rho → M Src} {own : List Nat} {g : D → Rho → M Rho} {e : Rho → M D} {src : Src} (f : β → D) (P : D → β → Prop) (J : Sto → Prop) (hf : it ρ S = .val src S') (hl : src.items.length ≤ 1000000) (hok : ∀ S, J S → src.ok S) (hJ : J S')
    (h : ∀ d ∈ src.items, ∀ S, J S → ∃ ρ1 S1 x S2, g d (wipeR ρ own) S = .val ρ1 S1 ∧ e ρ1 S1 = .val (f x) S2 ∧ J S2 ∧ P d x) :
    ∃ (l : List β) (S2 : Sto), eFin finL (eComp it own g bYes e) ρ S = .val (.lst (l.map f)) S2 ∧ J S2 ∧ l.length = src.items.length ∧ ∀ x ∈ l, ∃ d ∈ src.items, P d x := by
  obtain ⟨ys, S2, e1, j, hn, hm⟩ := compL_inv (g := g) (e := e) (ρ := wipeR ρ own) J (fun d y => ∃ x, y = f x ∧ P d x) hok hJ (fun d hd S hS => by
    obtain ⟨ρ1, S1, x, S2, a1, a2, a3, a4⟩ := h d hd S hS
    exact ⟨ρ1, S1, f x, S2, a1, a2, a3, x, rfl, a4⟩)
  obtain ⟨l, rfl, hl2⟩ := list_of (f := f) (P := fun x => ∃ d ∈ src.items, P d x) fun y hy => by
    obtain ⟨d, hd, x, rfl, hx⟩ := hm y hy
    exact ⟨x, rfl, d, hd, hx⟩
  refine ⟨l, S2, ?_, j, by rw [← hn, List.length_map], hl2⟩
  simp only [eFin, eComp, hf, Out.bind, if_pos (szL hl), e1, finL]
end
end Z
namespace L80
open Z Pg
open PySem (Str sizeLine)
open L2 (atI ixN)
def Bx (b : Nat) (S : Sto) : Prop := ∃ a c e : Int, 0 ≤ a ∧ S[b]? = some (.lst [.int a, .int c, .int e])
def Bk (b : Nat) (S S' : Sto) : Prop := Bx b S' ∧ S.length ≤ S'.length ∧ ∀ i < S.length, i ≠ b → S'[i]? = S[i]?
section
variable {b : Nat} {S S' S'' : Sto}
theorem Bx.lt (h : Bx b S) : b < S.length := by
  obtain ⟨a, c, e, _, h⟩ := h
  exact (List.getElem?_eq_some_iff.mp h).1
theorem Bk.refl (h : Bx b S) : Bk b S S := ⟨h, Nat.le_refl _, fun _ _ _ => rfl⟩
theorem Bk.trans (h : Bk b S S') (g : Bk b S' S'') : Bk b S S'' := ⟨g.1, Nat.le_trans h.2.1 g.2.1, fun i hi hb => (g.2.2 i (Nat.lt_of_lt_of_le hi h.2.1) hb).trans (h.2.2 i hi hb)⟩
theorem Bk.ext (h : Bx b S) (x : Ext S.length S S') : Bk b S S' := by
  have hl := h.lt
  obtain ⟨a, c, e, h0, h1⟩ := h
  exact ⟨⟨a, c, e, h0, by rw [x.2 b hl]; exact h1⟩, x.1, fun i hi _ => x.2 i hi⟩
theorem Bk.set {a c e : Int} (h : Bx b S) (h0 : 0 ≤ a) : Bk b S (S.set b (.lst [.int a, .int c, .int e])) := by
  have hl := h.lt
  refine ⟨⟨a, c, e, h0, ?_⟩, by simp, fun i hi hb => ?_⟩
  · rw [List.getElem?_set_self hl]
  · rw [List.getElem?_set_ne (Ne.symm hb)]
theorem ix_ref {ds : List D} {i : Int} {d : D} (h : S[b]? = some (.lst ds)) (hd : atI ds i = some d) : opIx (.ref b) (.int i) S = .val d S := by
  simp only [opIx, seqL, h, hd]
theorem set_ref {ds : List D} {n : Nat} {v : D} (h : S[b]? = some (.lst ds)) (hn : n < ds.length) : opSet (.ref b) (.int (n : Nat)) v S = .val () (S.set b (.lst (ds.set n v))) := by
  have : ixN ds.length (n : Int) = some n := by
    unfold ixN
    rw [if_pos (by omega), if_pos (by omega)]
    simp
  simp only [opSet, h, this]
theorem take_n (h : Bx b S) {n : Nat} (hn : 0 < n) (hz : n < 1000) : ∃ (r : Nat) (S' : Sto), f__law_take [.ref b, .int n] S = .val (.int (r : Nat)) S' ∧ r < n ∧ Bk b S S' := by
  have hl := h.lt
  have hb := h
  obtain ⟨a, c, e, h0, h1⟩ := h
  have i0 : opIx (.ref b) (.int 0) S = .val (.int a) S := ix_ref h1 (by simp)
  have hnz : (0 : Int) < n := by omega
  have lg : ((n : Int)).natAbs.log2 < 9000 := log2_lit (by simp; omega)
  have fin : ∀ x : Int, ∃ r : Nat, x % (n : Int) = (r : Int) ∧ r < n := fun x => ⟨(x % (n : Int)).toNat, by
    have := Int.emod_nonneg x (show (n : Int) ≠ 0 by omega)
    omega, by
    have := Int.emod_lt_of_pos x hnz
    have := Int.emod_nonneg x (show (n : Int) ≠ 0 by omega)
    omega⟩
  by_cases ha : 0 < a
  · obtain ⟨r, hr, hr2⟩ := fin a
    refine ⟨r, S.set b (.lst [.int (a / n), .int c, .int e]), ?_, hr2, Bk.set hb (Int.ediv_nonneg h0 (by omega))⟩
    have st : opSet (.ref b) (.int 0) (.int (a / n)) S = .val () (S.set b (.lst [.int (a / n), .int c, .int e])) := set_ref (n := 0) h1 (by simp)
    have dv : opDiv (.int a) (.int n) S = .val (.int (a / n)) S := by simp only [opDiv]; rw [if_pos ⟨hnz, lg⟩]
    have md : opMod (.int a) (.int n) S = .val (.int (a % n)) S := by simp only [opMod]; rw [if_pos hnz]
    simp [f__law_take, b__law_take, i0, ha, md, dv, st, hr]
  · have ha' : ¬ (0 : Int) < a := ha
    have st : opSet (.ref b) (.int 2) (.int (e + 1)) S = .val () (S.set b (.lst [.int a, .int c, .int (e + 1)])) := set_ref (n := 2) h1 (by simp)
    have i2 : opIx (.ref b) (.int 2) S = .val (.int e) S := ix_ref h1 (by simp)
    have bk : Bk b S (S.set b (.lst [.int a, .int c, .int (e + 1)])) := Bk.set hb h0
    have h2 : (S.set b (.lst [.int a, .int c, .int (e + 1)]))[b]? = some (.lst [.int a, .int c, .int (e + 1)]) := List.getElem?_set_self hl
    generalize S.set b (.lst [.int a, .int c, .int (e + 1)]) = S1 at st bk h2
    have j1 : opIx (.ref b) (.int 1) S1 = .val (.int c) S1 := ix_ref h2 (by simp)
    have j2 : opIx (.ref b) (.int 2) S1 = .val (.int (e + 1)) S1 := ix_ref h2 (by simp)
    have md : ∀ x y : Int, 0 < y → opMod (.int x) (.int y) S1 = .val (.int (x % y)) S1 := fun x y hy => by simp only [opMod]; rw [if_pos hy]
    have dv : ∀ x y : Int, 0 < y → y < 2 ^ 64 → opDiv (.int x) (.int y) S1 = .val (.int (x / y)) S1 := fun x y hy h64 => by simp only [opDiv]; rw [if_pos ⟨hy, log2_lit (by omega)⟩]
    have ml : ∀ x y : Int, (0 ≤ x ∧ x < 2 ^ 62 ∨ 0 ≤ y ∧ y < 2 ^ 62) → opMul (.int x) (.int y) S1 = .val (.int (x * y)) S1 := fun x y hy => by
      rw [opMul_int]
      rcases hy with ⟨q1, q2⟩ | ⟨q1, q2⟩
      · rw [if_pos (mulOk_l (by omega) (by omega))]
      · rw [if_pos (mulOk_r (by omega) (by omega))]
    have key : ∃ x : Int, f__law_take [.ref b, .int n] S = .val (.int (x % n)) S1 := by
      have m1 := ml 1442695040888963407 (e + 1) (by omega)
      have d1 := md (c + 1442695040888963407 * (e + 1)) 2305843009213693951 (by omega)
      have b1 : 0 ≤ (c + 1442695040888963407 * (e + 1)) % 2305843009213693951 ∧ (c + 1442695040888963407 * (e + 1)) % 2305843009213693951 < 2305843009213693951 := ⟨Int.emod_nonneg _ (by omega), Int.emod_lt_of_pos _ (by omega)⟩
      generalize (c + 1442695040888963407 * (e + 1)) % 2305843009213693951 = x1 at d1 b1
      have m2 := ml x1 x1 (by omega)
      have m3 := ml 39373 (e + 1) (by omega)
      have d2 := md (x1 * x1 + 39373 * (e + 1) + 7) 2305843009213693921 (by omega)
      have b2 : 0 ≤ (x1 * x1 + 39373 * (e + 1) + 7) % 2305843009213693921 ∧ (x1 * x1 + 39373 * (e + 1) + 7) % 2305843009213693921 < 2305843009213693921 := ⟨Int.emod_nonneg _ (by omega), Int.emod_lt_of_pos _ (by omega)⟩
      generalize (x1 * x1 + 39373 * (e + 1) + 7) % 2305843009213693921 = x2 at d2 b2
      have v1 := dv x2 65536 (by omega) (by omega)
      have m4 := ml x2 (x2 / 65536 + 3) (by omega)
      have d3 := md (x2 * (x2 / 65536 + 3) + (e + 1)) 2305843009213693907 (by omega)
      have v2 := dv ((x2 * (x2 / 65536 + 3) + (e + 1)) % 2305843009213693907) 1048576 (by omega) (by omega)
      have d4 := md (((x2 * (x2 / 65536 + 3) + (e + 1)) % 2305843009213693907) / 1048576) n hnz
      refine ⟨(x2 * (x2 / 65536 + 3) + (e + 1)) % 2305843009213693907 / 1048576, ?_⟩
      simp [f__law_take, b__law_take, i0, ha', st, i2, j1, j2, -opMul_int, m1, d1, m2, m3, d2, v1, m4, d3, v2, d4]
    obtain ⟨x, hx⟩ := key
    obtain ⟨r, hr, hr2⟩ := fin x
    exact ⟨r, S1, by rw [hx, hr], hr2, bk⟩
end
end L80
set_option Elab.async false
set_option linter.all false
set_option maxRecDepth 100000
set_option maxHeartbeats 1000000
/-! N2: the law's own turns. -/
namespace L80
open Z Pg
open PySem (Str sizeLine)
open L2 (atI ixN)
section
variable {S : Sto} {h : House}
def theI (a b : Int) : Int := (a / 4 + b / 4) % 2 * 4 + (b + (if b < 4 then a % 4 else 0 - a % 4)) % 4
theorem f_then_eq (a b : Int) : f__law_then [.int a, .int b] S = .val (.int (theI a b)) S := by
  have m : mulOk ((a / 4 + b / 4) % 2) 4 = true := mulOk_r (by omega) (by omega)
  by_cases h1 : b < 4 <;> simp [f__law_then, b__law_then, h1, theI, m]
theorem the_ok : ∀ a : Nat, a < 8 → ∀ b : Nat, b < 8 → theI (a : Int) (b : Int) = ((beh a b : Nat) : Int) := by decide
theorem f_then_n {a b : Nat} (ha : a < 8) (hb : b < 8) : f__law_then [.int a, .int b] S = .val (.int (beh a b : Nat)) S := by rw [f_then_eq, the_ok a ha b hb]
theorem f_turned_n {n d : Nat} (hd : d < 8) : ∀ {s : Sg}, s.ok n → f__law_turned [sgD s, .int d] S = .val (sgD (s.turn d)) S
  | .col x, _ => by simp [f__law_turned, b__law_turned, sgD, Sg.turn]
  | .pan p t, ho => by simp [f__law_turned, b__law_turned, sgD, Sg.turn, f_then_n ho.2 hd]
def turnI : Nat → Int → Int → Int × Int
  | 0, x, y => (x, y)
  | k + 1, x, y => ((turnI k x y).2, 1 - (turnI k x y).1)
theorem seen_ok : ∀ t : Nat, t < 8 → ∀ q : Nat, q < 4 → 2 * (turnI (t % 4) ((q : Int) % 2) ((q : Int) / 2)).2 + (if (3 : Int) < t then 1 - (turnI (t % 4) ((q : Int) % 2) ((q : Int) / 2)).1 else (turnI (t % 4) ((q : Int) % 2) ((q : Int) / 2)).1) = ((shw t q : Nat) : Int) := by decide
theorem f_seen_n {t q : Nat} (ht : t < 8) (hq : q < 4) : f__law_seen [.int t, .int q] S = .val (.int (shw t q : Nat)) S := by
  have step : ∀ (k : Nat) (x y : Int) (z : Option D), ∃ z' : Option D, forL (fun _ => True) (tName 2) (sPar2 3 4 (aCons (eVar 4) (aCons (eOp opSub (eC (.int 1)) (eVar 3)) aNil))) (rangeD k) [some (.int t), some (.int q), z, some (.int x), some (.int y)] S
      = .val (.nx [some (.int t), some (.int q), z', some (.int (turnI k x y).1), some (.int (turnI k x y).2)]) S := by
    intro k x y z
    obtain ⟨ρ', S', e, rfl, j⟩ := forL_all (ok := fun _ => True) (g := tName 2) (b := sPar2 3 4 (aCons (eVar 4) (aCons (eOp opSub (eC (.int 1)) (eVar 3)) aNil))) (ds := rangeD k) (ρ := [some (.int t), some (.int q), z, some (.int x), some (.int y)]) (S := S)
      (fun i ρ S' => S' = S ∧ ∃ z', ρ = [some (.int t), some (.int q), z', some (.int (turnI i x y).1), some (.int (turnI i x y).2)]) (fun _ _ _ _ => True.intro) ⟨rfl, z, rfl⟩ (by
        rintro i d ρ S' hd ⟨rfl, z', rfl⟩
        exact ⟨_, S', _, S', rfl, .inl rfl, rfl, some d, rfl⟩)
    rw [rangeD_len] at j
    obtain ⟨z', rfl⟩ := j
    exact ⟨z', e⟩
  have m : opMod (.int t) (.int 4) S = .val (.int ((t % 4 : Nat) : Int)) S := by simp [opMod]
  have r := rng1_n (g := aCons (eOp opMod (eVar 0) (eC (.int 4))) aNil) (ρ := [some (.int t), some (.int q), none, some (.int ((q : Int) % 2)), some (.int ((q : Int) / 2))]) (S := S) (S' := S) (n := t % 4) (by simp) (by omega)
  obtain ⟨z', e⟩ := step (t % 4) ((q : Int) % 2) ((q : Int) / 2) none
  have e2 : (sFor (iRng1 (aCons (eOp opMod (eVar 0) (eC (.int 4))) aNil)) (tName 2) (sPar2 3 4 (aCons (eVar 4) (aCons (eOp opSub (eC (.int 1)) (eVar 3)) aNil)))) [some (.int t), some (.int q), none, some (.int ((q : Int) % 2)), some (.int ((q : Int) / 2))] S = .val (.nx [some (.int t), some (.int q), z', some (.int (turnI (t % 4) ((q : Int) % 2) ((q : Int) / 2)).1), some (.int (turnI (t % 4) ((q : Int) % 2) ((q : Int) / 2)).2)]) S := for_n r e
  have fin := seen_ok t ht q hq
  simp only [f__law_seen, b__law_seen, fn0, List.map_cons, List.map_nil, List.cons_append, List.nil_append, List.replicate]
  have e1 : (sPar2 3 4 (aCons (eOp opMod (eVar 1) (eC (.int 2))) (aCons (eOp opDiv (eVar 1) (eC (.int 2))) aNil))) [some (.int t), some (.int q), none, none, none] S = .val (.nx [some (.int t), some (.int q), none, some (.int ((q : Int) % 2)), some (.int ((q : Int) / 2))]) S := by simp
  rw [sSeq, e1, bind_val]
  simp only
  rw [sSeq, e2, bind_val]
  have mm : ∀ y : Int, opMul (.int 2) (.int y) S = .val (.int (2 * y)) S := fun y => by rw [opMul_int, if_pos (mulOk_l (by omega) (by omega))]
  by_cases c : (3 : Int) < t
  · rw [if_pos c] at fin
    simp [c, -opMul_int, mm, fin]
  · rw [if_neg c] at fin
    simp [c, -opMul_int, mm, fin]
end
end L80
set_option Elab.async false
set_option linter.all false
set_option maxRecDepth 100000
set_option maxHeartbeats 1000000
/-! N3: names, sights. -/
namespace L80
open Z Pg
open PySem (Str sizeLine reprText Txt.join)
open L2 (atI ixN)
def short (n : Nat) (x : Str) : Prop := x.length ≤ n ∧ ∀ c ∈ x.cps.toList, c < 256
theorem short_repr {n : Nat} {x : Str} (h : short n x) (hn : n ≤ 1000) : (reprText x).length ≤ sizeLine := by
  have := PySem.StrLaws.reprText_len x fun c hc => Nat.lt_of_lt_of_le (h.2 c hc) (by decide)
  have h1 := h.1
  exact Nat.le_trans this (szL (by omega))
theorem short_app {m n : Nat} {x y : Str} (h : short m x) (g : short n y) : short (m + n) (x ++ y) := by
  have e : (x ++ y).cps = x.cps ++ y.cps := rfl
  refine ⟨?_, fun c hc => ?_⟩
  · show (x ++ y).cps.size ≤ _
    rw [e, Array.size_append]
    exact Nat.add_le_add h.1 g.1
  · rw [e, Array.toList_append] at hc
    rcases List.mem_append.mp hc with q | q
    · exact h.2 c q
    · exact g.2 c q
theorem short_join {n : Nat} {ys : List Str} (h : ∀ y ∈ ys, short 1 y) (hn : ys.length ≤ n) : short n (Txt.join (PySem.Str.ofString "") ys) := by
  rw [show Txt.join (PySem.Str.ofString "") ys = PySem.Str.join (PySem.Str.ofString "") ys from PySem.StrLaws.glued_eq_join _ ys]
  induction ys generalizing n with
  | nil => exact ⟨Nat.zero_le _, fun c hc => by simp [PySem.Str.join, PySem.Str.empty] at hc⟩
  | cons y r ih =>
    cases r with
    | nil => exact ⟨Nat.le_trans (h y List.mem_cons_self).1 (by simpa using hn), (h y List.mem_cons_self).2⟩
    | cons z r =>
      have e0 : short 0 (PySem.Str.ofString "") := ⟨by decide, fun c hc => by rw [show (PySem.Str.ofString "").cps.toList = [] by decide] at hc; exact absurd hc (by simp)⟩
      have a1 := short_app (short_app (h y List.mem_cons_self) e0) (ih (n := (z :: r).length) (fun y hy => h y (List.mem_cons_of_mem _ hy)) (Nat.le_refl _))
      simp only [PySem.Str.join]
      exact ⟨Nat.le_trans a1.1 (by simp only [List.length_cons] at hn ⊢; omega), a1.2⟩
theorem short_mono {m n : Nat} {x : Str} (h : short m x) (hn : m ≤ n) : short n x := ⟨Nat.le_trans h.1 hn, h.2⟩
def abc : Str := "abcdefghijklmnopqrstuvwxyz"
theorem abc_at {k : Nat} (hk : k < 26) (S : Sto) : ∃ x, opIx (.str abc) (.int (k : Nat)) S = .val (.str x) S ∧ short 1 x := by
  have hl : abc.length = 26 := by decide
  have hk' : k < abc.cps.toList.length := by rw [show abc.cps.toList.length = 26 by decide]; exact hk
  have ha : ∀ c ∈ abc.cps.toList, c < 256 := by decide
  refine ⟨⟨#[abc.cps.toList[k]]⟩, ?_, by show 1 ≤ 1; omega, fun c hc => by simp at hc; subst hc; exact ha _ (List.getElem_mem _)⟩
  simp only [opIx]
  rw [if_pos (by rw [hl]; exact szL (by omega)), atI_nat, List.getElem?_eq_getElem hk']
def nmD (ns : List Str) : D := .lst (ns.map D.str)
def Sg.tx : Sg → Prop
  | .col x => short 20 x
  | .pan _ _ => True
def NM (ns : List Str) : Prop := ns.length = 3 ∧ ∀ x ∈ ns, short 20 x
section
variable {b : Nat} {S : Sto} {ns : List Str}
theorem name_at (hn : NM ns) {k : Nat} (hk : k < 3) (S : Sto) : ∃ x, opIx (nmD ns) (.int (k : Nat)) S = .val (.str x) S ∧ short 20 x := by
  have hk' : k < ns.length := by rw [hn.1]; exact hk
  refine ⟨ns[k], opIx_lst ?_, hn.2 _ (List.getElem_mem _)⟩
  rw [atI_nat, List.getElem?_map, List.getElem?_eq_getElem hk']
  rfl
theorem f_sight_n (h : Bx b S) (hn : NM ns) {n : Nat} (hz : n < 1000) : ∃ s S', f__law_sight [.ref b, nmD ns, .int (n : Nat)] S = .val (sgD s) S' ∧ s.ok n ∧ Sg.tx s ∧ Bk b S S' := by
  have tk : ∀ {S : Sto}, Bx b S → ∃ s S', sRet (eOp opIx (eVar 1) (eCall f__law_take (aCons (eVar 0) (aCons (eCall bLen (aCons (eVar 1) aNil)) aNil)))) [some (.ref b), some (nmD ns), some (.int (n : Nat))] S = .val (.ret (sgD s)) S' ∧ s.ok n ∧ Sg.tx s ∧ Bk b S S' := by
    intro S h
    obtain ⟨r, S', e, hr, bk⟩ := take_n h (n := 3) (by omega) (by omega)
    obtain ⟨x, ex, sx⟩ := name_at hn hr S'
    refine ⟨.col x, S', ret_n (op_n (var_n rfl) (call_n (cons_n (var_n rfl) (cons_n (call_n (cons_n (var_n rfl) nil_n) (bLen_lst (S := S))) nil_n)) ?_) ex), True.intro, sx, bk⟩
    rw [List.length_map, hn.1]
    exact e
  by_cases h0 : n = 0
  · subst h0
    obtain ⟨s, S', e, a, c, bk⟩ := tk h
    refine ⟨s, S', fn_ret (seq_ret (if_t ?_ e)), a, c, bk⟩
    simp
  · obtain ⟨r, S1, e1, hr, bk1⟩ := take_n h (n := 2) (by omega) (by omega)
    have h0' : ¬ ((n : Int) = 0) := by omega
    by_cases hr0 : r = 0
    · subst hr0
      obtain ⟨s, S', e, a, c, bk⟩ := tk bk1.1
      refine ⟨s, S', fn_ret (seq_ret (if_t ?_ e)), a, c, bk1.trans bk⟩
      have e1 : f__law_take [.ref b, .int 2] S = .val (.int 0) S1 := e1
      simp [h0, e1]
    · obtain ⟨p, S2, e2, hp, bk2⟩ := take_n bk1.1 (n := n) (by omega) hz
      obtain ⟨t, S3, e3, ht, bk3⟩ := take_n bk2.1 (n := 8) (by omega) (by omega)
      refine ⟨.pan p t, S3, fn_ret (seq_nx (if_f ?_ skip_n) (ret_n (tup_n (cons_n (call_n (cons_n (var_n rfl) (cons_n (var_n rfl) nil_n)) e2) (cons_n (call_n (cons_n (var_n rfl) (cons_n rfl nil_n)) e3) nil_n))))), ⟨hp, ht⟩, True.intro, bk1.trans (bk2.trans bk3)⟩
      have e1 : f__law_take [.ref b, .int 2] S = .val (.int r) S1 := e1
      simp [h0, e1, hr0]
end
end L80
set_option Elab.async false
set_option linter.all false
set_option maxRecDepth 100000
set_option maxHeartbeats 1000000
/-! N4: names. -/
namespace L80
open Z Pg
open PySem (Str sizeLine reprText Txt.join)
open L2 (atI ixN)
section
variable {b : Nat} {S : Sto}
theorem join_n {ys : List Str} (h : ∀ y ∈ ys, short 1 y) (hn : ys.length ≤ 8) : mJoin (.str (PySem.Str.ofString "")) [.lst (ys.map D.str)] S = .val (.str (Txt.join (PySem.Str.ofString "") ys)) S := by
  have e0 : (PySem.Str.ofString "").length = 0 := by decide
  have hs : ∀ l : List Str, (∀ y ∈ l, short 1 y) → (l.map (·.length)).sum ≤ l.length := by
    intro l
    induction l with
    | nil => intro _; exact Nat.le_refl _
    | cons y r ih =>
      intro h
      have h1 := (h y List.mem_cons_self).1
      have h2 := ih fun z hz => h z (List.mem_cons_of_mem _ hz)
      simp only [List.map_cons, List.sum_cons, List.length_cons]
      omega
  have := hs ys h
  have e1 : seqL S (.lst (ys.map D.str)) = some (ys.map D.str) := rfl
  simp only [mJoin, seqA, e1, strsD_of]
  rw [if_pos (by rw [e0]; omega)]
theorem f_names_n (h : Bx b S) : ∃ ns S', f__law_names [.ref b, .int 3] S = .val (nmD ns) S' ∧ NM ns ∧ Bk b S S' := by
  obtain ⟨st, S1, e1, hst, bk1⟩ := take_n h (n := 26) (by omega) (by omega)
  obtain ⟨m, S2, e2, hm, bk2⟩ := take_n bk1.1 (n := 8) (by omega) (by omega)
  have c1 : (sAsg (eTup (aCons (eC (.str "abcdefghijklmnopqrstuvwxyz")) (aCons (eCall f__law_take (aCons (eVar 0) (aCons (eC (.int 26)) aNil))) aNil))) (tTupZ 2 (tsCons (tName 3) (tsCons (tName 4) tsNil)))) [some (.ref b), some (.int 3), none, none, none, none, none] S = .val (.nx [some (.ref b), some (.int 3), none, some (.str abc), some (.int st), none, none]) S1 := by
    have e1 : f__law_take [.ref b, .int 26] S = .val (.int st) S1 := e1
    simp [e1, abc]
  obtain ⟨ys, S3, e3, bk3, hl, hy⟩ := lc_inv (it := iRng1 (aCons (eCall f__law_take (aCons (eVar 0) (aCons (eC (.int 8)) aNil))) aNil)) (own := [6]) (g := tName 6) (e := eOp opIx (eVar 3) (eCall f__law_take (aCons (eVar 0) (aCons (eC (.int 26)) aNil)))) (ρ := [some (.ref b), some (.int 3), none, some (.str abc), some (.int st), none, none])
    D.str (fun _ x => short 1 x) (fun S' => Bk b S1 S') (rng1_n (S := S1) (S' := S2) (n := m) (cons_n (call_n (cons_n (var_n rfl) (cons_n rfl nil_n)) e2) nil_n) (by omega)) (by simp; omega) (fun _ _ => True.intro) bk2 (fun d hd S hS => by
      obtain ⟨k, S', e, hk, bk⟩ := take_n hS.1 (n := 26) (by omega) (by omega)
      obtain ⟨x, ex, hx⟩ := abc_at hk S'
      exact ⟨_, S, x, S', rfl, op_n (var_n rfl) (call_n (cons_n (var_n rfl) (cons_n rfl nil_n)) e) ex, hS.trans bk, hx⟩)
  have hy : ∀ y ∈ ys, short 1 y := fun y q => (hy y q).elim fun _ q => q.2
  rw [always_items, rangeD_len] at hl
  have sj := short_join hy (n := 8) (by omega)
  have c2 : (sAsg (eMth isSt mJoin (eC (.str "")) (aCons (eFin finL (eComp (iRng1 (aCons (eCall f__law_take (aCons (eVar 0) (aCons (eC (.int 8)) aNil))) aNil)) [6] (tName 6) bYes (eOp opIx (eVar 3) (eCall f__law_take (aCons (eVar 0) (aCons (eC (.int 26)) aNil)))))) aNil)) (tName 2)) [some (.ref b), some (.int 3), none, some (.str abc), some (.int st), none, none] S1
      = .val (.nx [some (.ref b), some (.int 3), some (.str (Txt.join (PySem.Str.ofString "") ys)), some (.str abc), some (.int st), none, none]) S3 := by
    refine asg_n ?_
    have j := join_n (S := S3) hy (by omega)
    rw [eMth, show eC (.str "") [some (D.ref b), some (.int 3), none, some (.str abc), some (.int st), none, none] S1 = .val (.str "") S1 from rfl, bind_val, if_pos (show isSt S1 (.str (PySem.Str.ofString "")) = true from rfl), cons_n e3 nil_n, bind_val]
    exact j
  generalize Txt.join (PySem.Str.ofString "") ys = stem at sj c2
  obtain ⟨ns, S4, e4, h4, hl4, hn4⟩ := lc_inv (it := iRng1 (aCons (eVar 1) aNil)) (own := [5]) (g := tName 5) (e := eOp opAdd (eVar 2) (eOp opIx (eVar 3) (eOp opMod (eOp opAdd (eVar 4) (eOp opMul (eC (.int 7)) (eVar 5))) (eC (.int 26))))) (ρ := [some (.ref b), some (.int 3), some (.str stem), some (.str abc), some (.int st), none, none])
    D.str (fun _ x => short 20 x) (fun S' => S' = S3) (rng1_n (S := S3) (S' := S3) (n := 3) rfl (by omega)) (by simp) (fun _ _ => True.intro) rfl (fun d hd S hS => by
      subst hS
      obtain ⟨i, hi, rfl⟩ := rangeD_mem hd
      obtain ⟨x, ex, hx⟩ := abc_at (k := (st + 7 * i) % 26) (Nat.mod_lt _ (by omega)) S
      have m7 : opMul (.int 7) (.int i) S = .val (.int (7 * i)) S := by rw [opMul_int, if_pos (mulOk_l (by omega) (by omega))]
      have md : opMod (.int (st + 7 * i)) (.int 26) S = .val (.int ((st + 7 * i) % 26 : Nat)) S := by simp [opMod]
      have ad : opAdd (.str stem) (.str x) S = .val (.str (stem ++ x)) S := by
        simp only [opAdd]
        rw [if_pos (szL (by have := sj.1; have := hx.1; omega))]
      refine ⟨_, S, stem ++ x, S, rfl, op_n (var_n rfl) (op_n (var_n rfl) (op_n (op_n (var_n rfl) (op_n rfl (var_n rfl) m7) (opAdd_int _ _ _)) rfl md) ex) ad, rfl, short_mono (short_app sj hx) (by omega)⟩)
  refine ⟨ns, S4, fn_ret (seq_nx c1 (seq_nx c2 (ret_n e4))), ⟨by rw [hl4]; simp, fun x hx => (hn4 x hx).elim fun _ q => q.2⟩, ?_⟩
  subst h4
  exact bk1.trans bk3
end
end L80
set_option Elab.async false
set_option linter.all false
set_option maxRecDepth 100000
set_option maxHeartbeats 1000000
/-! N5: != [], the law's house. -/
namespace L80
open Z Pg
open PySem (Str sizeLine reprText Txt.join PyData)
open L2 (atI ixN)
def okP (k : Nat) (d : PyData) : Prop := d.canLay0 = true ∧ d.depth ≤ k
theorem okP_all {k : Nat} : ∀ {xs : List PyData}, (∀ x ∈ xs, okP k x) → PyData.canLayAll0 xs = true ∧ PyData.depthAll xs ≤ k
  | [], _ => ⟨rfl, Nat.zero_le _⟩
  | x :: xs, h => by
    have h1 := h x List.mem_cons_self
    have h2 := okP_all fun y hy => h y (List.mem_cons_of_mem _ hy)
    simp only [PyData.canLayAll0, PyData.depthAll]
    exact ⟨by rw [h1.1, h2.1]; rfl, Nat.max_le.mpr ⟨h1.2, h2.2⟩⟩
theorem okP_list {k : Nat} {xs : List PyData} (h : ∀ x ∈ xs, okP k x) : okP (k + 1) (.list xs) := by
  have := okP_all h
  exact ⟨by simp only [PyData.canLay0]; exact this.1, by simp only [PyData.depth]; omega⟩
theorem okP_tup {k : Nat} {xs : List PyData} (h : ∀ x ∈ xs, okP k x) : okP (k + 1) (.tuple xs) := by
  have := okP_all h
  exact ⟨by simp only [PyData.canLay0]; exact this.1, by simp only [PyData.depth]; omega⟩
theorem okP_int {k : Nat} (i : Int) : okP k (.int i) := ⟨by simp only [PyData.canLay0], by simp only [PyData.depth]; omega⟩
theorem okP_str {k n : Nat} {x : Str} (h : short n x) (hn : n ≤ 1000) : okP k (.str x) := by
  refine ⟨?_, by simp only [PyData.depth]; omega⟩
  simp only [PyData.canLay0]
  show (x.cps.all fun c => decide (c < 0x110000)) = true
  rw [← Array.all_toList]
  exact List.all_eq_true.mpr fun c hc => decide_eq_true (Nat.lt_trans (h.2 c hc) (by decide))
theorem okP_up {j k : Nat} {d : PyData} (h : okP j d) (hk : j ≤ k) : okP k d := ⟨h.1, Nat.le_trans h.2 hk⟩
theorem okD_of {k : Nat} {d : D} (h : okP k (toP d)) (hk : k ≤ 64) : okD d = true := by
  unfold okD PySem.SeqAt.shaped
  rw [h.1, decide_eq_true (Nat.le_trans h.2 hk)]
  rfl
theorem opNe_nil {d : D} {ds : List D} {S : Sto} {k : Nat} (hd : deref S d = .lst ds) (hf : eqF d (.lst []) = none) (ho : ∀ x ∈ ds, okP k (toP x)) (hk : k < 64) : opNe d (.lst []) S = .val (.bl (!ds.isEmpty)) S := by
  have o1 : okD (.lst ds) = true := okD_of (k := k + 1) (by
    unfold toP
    exact okP_list fun x hx => by obtain ⟨y, hy, rfl⟩ := List.mem_map.mp hx; exact ho y hy) hk
  have o2 : okD (.lst []) = true := by
    refine okD_of (k := 1) ?_ (by omega)
    unfold toP
    exact okP_list fun x hx => nomatch hx
  have e : opEqB d (.lst []) S = some ds.isEmpty := by
    simp only [opEqB, hf, hd]
    rw [show deref S (.lst []) = .lst [] from rfl, if_pos ⟨o1, o2⟩]
    congr 1
    unfold eqD
    cases ds with
    | nil => simp [toP, PyData.eqv, PyData.eqvAll]
    | cons x r => simp [toP, PyData.eqv, PyData.eqvAll]
  simp only [opNe, e]
theorem okP_sg {s : Sg} (h : Sg.tx s) : okP 1 (toP (sgD s)) := by
  cases s with
  | col x => unfold sgD toP; exact okP_str h (by omega)
  | pan p t =>
    unfold sgD toP
    refine okP_tup (k := 0) fun x hx => ?_
    simp [toP] at hx
    rcases hx with rfl | rfl
    · exact okP_int _
    · exact okP_int _
theorem okP_ro {r : List Sg} (h : ∀ s ∈ r, Sg.tx s) : okP 2 (toP (roD r)) := by
  unfold roD toP
  refine okP_tup fun x hx => ?_
  obtain ⟨y, hy, rfl⟩ := List.mem_map.mp hx
  obtain ⟨s, hs, rfl⟩ := List.mem_map.mp hy
  exact okP_sg (h s hs)
/-! ### the house while it grows -/
structure HI (b n N : Nat) (S0 S : Sto) (rows : House) : Prop where
  bk : Bk b S0 S
  le : S0.length ≤ n
  cell : S[n]? = some (.lst (rows.map roD))
  ok : ∀ r ∈ rows, r.length = 4 ∧ ∀ s ∈ r, s.ok N ∧ Sg.tx s
section
variable {b n N : Nat} {S0 S S' : Sto} {rows : House}
theorem HI.lt (hi : HI b n N S0 S rows) : n < S.length := (List.getElem?_eq_some_iff.mp hi.cell).1
theorem HI.step (h0 : b < S0.length) (hi : HI b n N S0 S rows) (bk : Bk b S S') : HI b n N S0 S' rows :=
  ⟨hi.bk.trans bk, hi.le, by rw [bk.2.2 n hi.lt (by have := hi.le; omega)]; exact hi.cell, hi.ok⟩
theorem HI.app (h0 : b < S0.length) (hi : HI b n N S0 S rows) {r : List Sg} (hr : r.length = 4 ∧ ∀ s ∈ r, s.ok N ∧ Sg.tx s) : HI b n N S0 (S.set n (.lst (rows.map roD ++ [roD r]))) (rows ++ [r]) := by
  have hn := hi.le
  refine ⟨⟨?_, by rw [List.length_set]; exact hi.bk.2.1, fun i hi' hb => ?_⟩, hn, ?_, fun r' hr' => ?_⟩
  · obtain ⟨a, c, e, h1, h2⟩ := hi.bk.1
    exact ⟨a, c, e, h1, by rw [List.getElem?_set_ne (by omega)]; exact h2⟩
  · rw [List.getElem?_set_ne (by omega)]
    exact hi.bk.2.2 i hi' hb
  · rw [List.getElem?_set_self hi.lt, List.map_append]
    rfl
  · rcases List.mem_append.mp hr' with q | q
    · exact hi.ok r' q
    · rw [List.mem_singleton] at q; subst q; exact hr
theorem app_n (h0 : b < S0.length) {f : Rho → M D} {ρ : Rho} {i : Nat} (hi0 : HI b n N S0 S rows) (hv : ρ[i]? = some (some (.ref n))) {r : List Sg} (hf : f ρ S = .val (roD r) S') (hi : HI b n N S0 S' rows) (hr : r.length = 4 ∧ ∀ s ∈ r, s.ok N ∧ Sg.tx s) (hl : rows.length ≤ 1000) :
    sDrop (eMth isLs mAppend (eVar i) (aCons f aNil)) ρ S = .val (.nx ρ) (S'.set n (.lst (rows.map roD ++ [roD r]))) := by
  have hz : (rows.map roD).length < sizeLine := by have := PySem.sizeLine_eq; rw [List.length_map]; omega
  have e1 : isLs S (.ref n) = true := by simp only [isLs, seqL, hi0.cell]; rfl
  simp only [sDrop, eMth, eVar, hv, Out.bind, e1, if_true, aCons, hf, aNil, mAppend, hi.cell, if_pos hz]
theorem comp_row {it : Rho → M Src} {own : List Nat} {g : D → Rho → M Rho} {e : Rho → M D} {src : Src} {ρ : Rho} (J : Sto → Prop) (hf : it ρ S = .val src S') (hl : src.items.length = 4) (hok : ∀ S, J S → src.ok S) (hJ : J S')
    (h : ∀ d ∈ src.items, ∀ S, J S → ∃ ρ1 S1 x S2, g d (wipeR ρ own) S = .val ρ1 S1 ∧ e ρ1 S1 = .val (sgD x) S2 ∧ J S2 ∧ (x.ok N ∧ Sg.tx x)) :
    ∃ r S2, eCall bTuple (aCons (eFin finL (eComp it own g bYes e)) aNil) ρ S = .val (roD r) S2 ∧ J S2 ∧ (r.length = 4 ∧ ∀ s ∈ r, s.ok N ∧ Sg.tx s) := by
  obtain ⟨r, S2, e1, j, hl2, hm⟩ := lc_inv sgD (fun _ x => x.ok N ∧ Sg.tx x) J hf (by omega) hok hJ h
  exact ⟨r, S2, call_n (cons_n e1 nil_n) bTuple_lst, j, hl2.trans hl, fun s hs => (hm s hs).elim fun _ q => q.2⟩
end
end L80
set_option Elab.async false
set_option linter.all false
set_option maxRecDepth 100000
set_option maxHeartbeats 1000000
/-! N6: a turn of the law's house. -/
namespace L80
open Z Pg
open PySem (Str sizeLine reprText Txt.join PyData)
open L2 (atI ixN)
noncomputable def way0 : Rho → M Fl := (sDrop (eMth isLs mAppend (eVar 5) (aCons (eCall bTuple (aCons (eFin finL (eComp (iVal (eTup (aCons (eC (.int 0)) (aCons (eC (.int 1)) (aCons (eC (.int 3)) (aCons (eC (.int 2)) aNil)))))) [8] (tName 8) bYes (eCall f__law_turned (aCons (eVar 7) (aCons (eVar 8) aNil))))) aNil)) aNil)))
noncomputable def way1 : Rho → M Fl := (sDrop (eMth isLs mAppend (eVar 5) (aCons (eCall bTuple (aCons (eFin finL (eComp (iRng1 (aCons (eC (.int 4)) aNil)) [10] (tName 10) bYes (eTup (aCons (eVar 3) (aCons (eCall f__law_take (aCons (eVar 0) (aCons (eC (.int 8)) aNil))) aNil))))) aNil)) aNil)))
noncomputable def way2 : Rho → M Fl := (sDrop (eMth isLs mAppend (eVar 5) (aCons (eOp opMul (eTup (aCons (eOp opIx (eVar 1) (eC (.int 0))) aNil)) (eC (.int 4))) aNil)))
noncomputable def way3 : Rho → M Fl := (sSeq (sAsg (eTup (aCons (eCall f__law_take (aCons (eVar 0) (aCons (eCall bLen (aCons (eVar 5) aNil)) aNil))) (aCons (eCall f__law_take (aCons (eVar 0) (aCons (eC (.int 8)) aNil))) aNil))) (tTupZ 2 (tsCons (tName 9) (tsCons (tName 8) tsNil))))
  (sDrop (eMth isLs mAppend (eVar 5) (aCons (eCall bTuple (aCons (eFin finL (eComp (iRng1 (aCons (eC (.int 4)) aNil)) [10] (tName 10) bYes (eCall f__law_turned (aCons (eOp opIx (eOp opIx (eVar 5) (eVar 9)) (eCall f__law_seen (aCons (eVar 8) (aCons (eVar 10) aNil)))) (aCons (eVar 8) aNil))))) aNil)) aNil))))
noncomputable def way4 : Rho → M Fl := (sDrop (eMth isLs mAppend (eVar 5) (aCons (eCall bTuple (aCons (eFin finL (eComp (iRng1 (aCons (eC (.int 4)) aNil)) [10] (tName 10) bYes (eCall f__law_sight (aCons (eVar 0) (aCons (eVar 1) (aCons (eVar 4) aNil)))))) aNil)) aNil)))
noncomputable def bHouse : Rho → M Fl := (sSeq (sAsg (eTup (aCons (eCall f__law_take (aCons (eVar 0) (aCons (eC (.int 8)) aNil))) (aCons (eCall f__law_sight (aCons (eVar 0) (aCons (eVar 1) (aCons (eVar 4) aNil)))) aNil))) (tTupZ 2 (tsCons (tName 6) (tsCons (tName 7) tsNil))))
  (sIf (bVal (eOp opEq (eVar 6) (eC (.int 0)))) way0 (sIf (bVal (eOp opEq (eVar 6) (eC (.int 1)))) way1 (sIf (bVal (eOp opEq (eVar 6) (eC (.int 2)))) way2 (sIf (bAnd (bVal (eOp opEq (eVar 6) (eC (.int 3)))) (bVal (eOp opNe (eVar 5) (eLst aNil)))) way3 way4)))))
def R6 (b n k N : Nat) (ns : List Str) (m : D) (x6 x7 x8 x9 x10 : Option D) : Rho := [some (.ref b), some (nmD ns), some m, some (.int (k : Nat)), some (.int (N : Nat)), some (.ref n), x6, x7, x8, x9, x10]
def Grown (b n k N : Nat) (ns : List Str) (m : D) (S0 : Sto) (rows : House) (o : Out Fl) : Prop := ∃ x6 x7 x8 x9 x10 S2 r, o = .val (.nx (R6 b n k N ns m x6 x7 x8 x9 x10)) S2 ∧ HI b n N S0 S2 (rows ++ [r])
section
variable {b n k N w : Nat} {S0 S : Sto} {rows : House} {ns : List Str} {m : D} {s : Sg} {x8 x9 x10 : Option D}
theorem way0_n (h0 : b < S0.length) (hi : HI b n N S0 S rows) (hl : rows.length ≤ 1000) (hs : s.ok N ∧ Sg.tx s) : Grown b n k N ns m S0 rows (way0 (R6 b n k N ns m (some (.int (w : Nat))) (some (sgD s)) x8 x9 x10) S) := by
  obtain ⟨r, S2, e, rfl, hr⟩ := comp_row (N := N) (it := iVal (eTup (aCons (eC (.int 0)) (aCons (eC (.int 1)) (aCons (eC (.int 3)) (aCons (eC (.int 2)) aNil)))))) (own := [8]) (g := tName 8) (e := eCall f__law_turned (aCons (eVar 7) (aCons (eVar 8) aNil))) (ρ := R6 b n k N ns m (some (.int (w : Nat))) (some (sgD s)) x8 x9 x10) (S := S) (S' := S) (fun S' => S' = S) (src := always ([0, 1, 3, 2].map fun (i : Nat) => D.int (i : Int))) rfl rfl (fun _ _ => True.intro) rfl (fun d hd S1 hS => by
    subst hS
    obtain ⟨i, hi, rfl⟩ := List.mem_map.mp hd
    have hi8 : i < 8 := by simp at hi; omega
    refine ⟨_, S1, s.turn i, S1, rfl, call_n (cons_n (var_n rfl) (cons_n (var_n rfl) nil_n)) (f_turned_n hi8 hs.1), rfl, turn_ok hi8 hs.1, ?_⟩
    cases s with
    | col x => exact hs.2
    | pan p t => exact True.intro)
  exact ⟨_, _, _, _, _, _, r, app_n h0 hi rfl e hi hr hl, hi.app h0 hr⟩
theorem way1_n (h0 : b < S0.length) (hi : HI b n N S0 S rows) (hl : rows.length ≤ 1000) (hk : k < N) : Grown b n k N ns m S0 rows (way1 (R6 b n k N ns m (some (.int (w : Nat))) (some (sgD s)) x8 x9 x10) S) := by
  obtain ⟨r, S2, e, bk, hr⟩ := comp_row (N := N) (it := iRng1 (aCons (eC (.int 4)) aNil)) (own := [10]) (g := tName 10) (e := eTup (aCons (eVar 3) (aCons (eCall f__law_take (aCons (eVar 0) (aCons (eC (.int 8)) aNil))) aNil))) (ρ := R6 b n k N ns m (some (.int (w : Nat))) (some (sgD s)) x8 x9 x10) (S := S) (S' := S) (fun S' => Bk b S S') (rng1_n (n := 4) rfl (by omega)) (by simp) (fun _ _ => True.intro) (Bk.refl hi.bk.1) (fun d hd S1 hS => by
    obtain ⟨t, S2, e, ht, bk⟩ := take_n hS.1 (n := 8) (by omega) (by omega)
    exact ⟨_, S1, .pan k t, S2, rfl, tup_n (cons_n (var_n rfl) (cons_n (call_n (cons_n (var_n rfl) (cons_n rfl nil_n)) e) nil_n)), hS.trans bk, ⟨hk, ht⟩, True.intro⟩)
  have hi2 := hi.step h0 bk
  exact ⟨_, _, _, _, _, _, r, app_n h0 hi rfl e hi2 hr hl, hi2.app h0 hr⟩
theorem way2_n (h0 : b < S0.length) (hi : HI b n N S0 S rows) (hl : rows.length ≤ 1000) (hn : NM ns) : Grown b n k N ns m S0 rows (way2 (R6 b n k N ns m (some (.int (w : Nat))) (some (sgD s)) x8 x9 x10) S) := by
  obtain ⟨x, ex, hx⟩ := name_at hn (k := 0) (by omega) S
  have hr : ([.col x, .col x, .col x, .col x] : List Sg).length = 4 ∧ ∀ s ∈ ([.col x, .col x, .col x, .col x] : List Sg), s.ok N ∧ Sg.tx s := ⟨rfl, fun s hs => by
    simp at hs
    subst hs
    exact ⟨True.intro, hx⟩⟩
  have e : eOp opMul (eTup (aCons (eOp opIx (eVar 1) (eC (.int 0))) aNil)) (eC (.int 4)) (R6 b n k N ns m (some (.int (w : Nat))) (some (sgD s)) x8 x9 x10) S = .val (roD [.col x, .col x, .col x, .col x]) S :=
    op_n (tup_n (cons_n (op_n (var_n rfl) rfl ex) nil_n)) rfl (by
      simp only [opMul]
      rw [if_pos ⟨by simp, by omega, by omega, by simp⟩]
      rfl)
  exact ⟨_, _, _, _, _, _, _, app_n h0 hi rfl e hi hr hl, hi.app h0 hr⟩
theorem way4_n (h0 : b < S0.length) (hi : HI b n N S0 S rows) (hl : rows.length ≤ 1000) (hn : NM ns) (hN : N < 1000) : Grown b n k N ns m S0 rows (way4 (R6 b n k N ns m (some (.int (w : Nat))) (some (sgD s)) x8 x9 x10) S) := by
  obtain ⟨r, S2, e, bk, hr⟩ := comp_row (N := N) (it := iRng1 (aCons (eC (.int 4)) aNil)) (own := [10]) (g := tName 10) (e := eCall f__law_sight (aCons (eVar 0) (aCons (eVar 1) (aCons (eVar 4) aNil)))) (ρ := R6 b n k N ns m (some (.int (w : Nat))) (some (sgD s)) x8 x9 x10) (S := S) (S' := S) (fun S' => Bk b S S') (rng1_n (n := 4) rfl (by omega)) (by simp) (fun _ _ => True.intro) (Bk.refl hi.bk.1) (fun d hd S1 hS => by
    obtain ⟨s', S2, e, o, t, bk⟩ := f_sight_n hS.1 hn hN
    exact ⟨_, S1, s', S2, rfl, call_n (cons_n (var_n rfl) (cons_n (var_n rfl) (cons_n (var_n rfl) nil_n))) e, hS.trans bk, o, t⟩)
  have hi2 := hi.step h0 bk
  exact ⟨_, _, _, _, _, _, r, app_n h0 hi rfl e hi2 hr hl, hi2.app h0 hr⟩
theorem way3_n (h0 : b < S0.length) (hi : HI b n N S0 S rows) (hl : rows.length < 1000) (hne : rows ≠ []) : Grown b n k N ns m S0 rows (way3 (R6 b n k N ns m (some (.int (w : Nat))) (some (sgD s)) x8 x9 x10) S) := by
  have hpos : 0 < rows.length := by cases rows with | nil => exact absurd rfl hne | cons _ _ => simp
  obtain ⟨p, S1, e1, hp, bk1⟩ := take_n hi.bk.1 hpos hl
  obtain ⟨t, S2, e2, ht, bk2⟩ := take_n bk1.1 (n := 8) (by omega) (by omega)
  have bl : bLen [.ref n] S = .val (.int (rows.length : Nat)) S := by simp [bLen, lenD, seqA, seqL, hi.cell]
  have hi2 := hi.step h0 (bk1.trans bk2)
  have a1 : (sAsg (eTup (aCons (eCall f__law_take (aCons (eVar 0) (aCons (eCall bLen (aCons (eVar 5) aNil)) aNil))) (aCons (eCall f__law_take (aCons (eVar 0) (aCons (eC (.int 8)) aNil))) aNil))) (tTupZ 2 (tsCons (tName 9) (tsCons (tName 8) tsNil)))) (R6 b n k N ns m (some (.int (w : Nat))) (some (sgD s)) x8 x9 x10) S = .val (.nx (R6 b n k N ns m (some (.int (w : Nat))) (some (sgD s)) (some (.int t)) (some (.int p)) x10)) S2 := by
    have e : eTup (aCons (eCall f__law_take (aCons (eVar 0) (aCons (eCall bLen (aCons (eVar 5) aNil)) aNil))) (aCons (eCall f__law_take (aCons (eVar 0) (aCons (eC (.int 8)) aNil))) aNil)) (R6 b n k N ns m (some (.int (w : Nat))) (some (sgD s)) x8 x9 x10) S = .val (.tup [.int p, .int t]) S2 :=
      tup_n (cons_n (call_n (cons_n (var_n rfl) (cons_n (call_n (cons_n (var_n rfl) nil_n) bl) nil_n)) e1) (cons_n (call_n (cons_n (var_n rfl) (cons_n rfl nil_n)) e2) nil_n))
    rw [sAsg, e]
    rfl
  have hp' : rows[p]? = some rows[p] := List.getElem?_eq_getElem hp
  obtain ⟨l4, o4⟩ := hi.ok rows[p] (List.getElem_mem hp)
  obtain ⟨r, S3, e, rfl, hr⟩ := comp_row (N := N) (it := iRng1 (aCons (eC (.int 4)) aNil)) (own := [10]) (g := tName 10) (e := eCall f__law_turned (aCons (eOp opIx (eOp opIx (eVar 5) (eVar 9)) (eCall f__law_seen (aCons (eVar 8) (aCons (eVar 10) aNil)))) (aCons (eVar 8) aNil))) (ρ := R6 b n k N ns m (some (.int (w : Nat))) (some (sgD s)) (some (.int t)) (some (.int p)) x10) (S := S2) (S' := S2) (fun S' => S' = S2) (rng1_n (n := 4) rfl (by omega)) (by simp) (fun _ _ => True.intro) rfl (fun d hd S1 hS => by
    subst hS
    obtain ⟨q, hq, rfl⟩ := rangeD_mem hd
    have hsh := shw_lt t ht q hq
    have hk' : shw t q < rows[p].length := by rw [l4]; exact hsh
    have i1 : opIx (.ref n) (.int p) S1 = .val (roD rows[p]) S1 := ix_ref hi2.cell (by rw [atI_nat, List.getElem?_map, hp']; rfl)
    have i2 := ix_row (List.getElem?_eq_getElem hk') S1
    obtain ⟨o, tx⟩ := o4 _ (List.getElem_mem hk')
    refine ⟨_, S1, (rows[p][shw t q]).turn t, S1, rfl, call_n (cons_n (op_n (op_n (var_n rfl) (var_n rfl) i1) (call_n (cons_n (var_n rfl) (cons_n (var_n rfl) nil_n)) (f_seen_n ht hq)) i2) (cons_n (var_n rfl) nil_n)) (f_turned_n ht o), rfl, turn_ok ht o, ?_⟩
    revert tx
    cases rows[p][shw t q] with
    | col x => exact fun tx => tx
    | pan p t => exact fun _ => True.intro)
  obtain ⟨_, _, _, _, _, S4, r4, e4, h4⟩ : Grown b n k N ns m S0 rows (sDrop (eMth isLs mAppend (eVar 5) (aCons (eCall bTuple (aCons (eFin finL (eComp (iRng1 (aCons (eC (.int 4)) aNil)) [10] (tName 10) bYes (eCall f__law_turned (aCons (eOp opIx (eOp opIx (eVar 5) (eVar 9)) (eCall f__law_seen (aCons (eVar 8) (aCons (eVar 10) aNil)))) (aCons (eVar 8) aNil))))) aNil)) aNil)) (R6 b n k N ns m (some (.int (w : Nat))) (some (sgD s)) (some (.int t)) (some (.int p)) x10) S3) := ⟨_, _, _, _, _, _, r, app_n h0 hi2 rfl e hi2 hr (by omega), hi2.app h0 hr⟩
  exact ⟨_, _, _, _, _, S4, r4, seq_nx a1 e4, h4⟩
end
end L80
set_option Elab.async false
set_option linter.all false
set_option maxRecDepth 100000
set_option maxHeartbeats 1000000
/-! N7: the law's house. -/
namespace L80
open Z Pg
open PySem (Str sizeLine reprText Txt.join PyData)
open L2 (atI ixN)
section
variable {b n k N w : Nat} {S0 S : Sto} {rows : House} {ns : List Str} {m : D} {s : Sg} {x6 x7 x8 x9 x10 : Option D}
theorem Grown.of {o o' : Out Fl} (g : Grown b n k N ns m S0 rows o) (e : o' = o) : Grown b n k N ns m S0 rows o' := e ▸ g
theorem ifg {c : Rho → M Bool} {A B : Rho → M Fl} {ρ : Rho} {q : Bool} (hc : c ρ S = .val q S) (ha : q = true → Grown b n k N ns m S0 rows (A ρ S)) (hb : q = false → Grown b n k N ns m S0 rows (B ρ S)) : Grown b n k N ns m S0 rows (sIf c A B ρ S) := by
  cases q with
  | true => exact (ha rfl).of (if_t hc rfl)
  | false => exact (hb rfl).of (if_f hc rfl)
theorem way_is (c : Int) : bVal (eOp opEq (eVar 6) (eC (.int c))) (R6 b n k N ns m (some (.int (w : Nat))) x7 x8 x9 x10) S = .val (decide ((w : Int) = c)) S := bval_n (op_n (var_n rfl) rfl opEq_int)
theorem turn_house (h0 : b < S0.length) (hi : HI b n N S0 S rows) (hl : rows.length < 1000) (hn : NM ns) (hN : N < 1000) (hk : k < N) : Grown b n k N ns m S0 rows (bHouse (R6 b n k N ns m x6 x7 x8 x9 x10) S) := by
  obtain ⟨w, S1, e1, hw, bk1⟩ := take_n hi.bk.1 (n := 8) (by omega) (by omega)
  obtain ⟨s, S2, e2, o, t, bk2⟩ := f_sight_n bk1.1 hn hN
  have hi2 := hi.step h0 (bk1.trans bk2)
  have a1 : (sAsg (eTup (aCons (eCall f__law_take (aCons (eVar 0) (aCons (eC (.int 8)) aNil))) (aCons (eCall f__law_sight (aCons (eVar 0) (aCons (eVar 1) (aCons (eVar 4) aNil)))) aNil))) (tTupZ 2 (tsCons (tName 6) (tsCons (tName 7) tsNil)))) (R6 b n k N ns m x6 x7 x8 x9 x10) S = .val (.nx (R6 b n k N ns m (some (.int (w : Nat))) (some (sgD s)) x8 x9 x10)) S2 := by
    have e : eTup (aCons (eCall f__law_take (aCons (eVar 0) (aCons (eC (.int 8)) aNil))) (aCons (eCall f__law_sight (aCons (eVar 0) (aCons (eVar 1) (aCons (eVar 4) aNil)))) aNil)) (R6 b n k N ns m x6 x7 x8 x9 x10) S = .val (.tup [.int w, sgD s]) S2 :=
      tup_n (cons_n (call_n (cons_n (var_n rfl) (cons_n rfl nil_n)) e1) (cons_n (call_n (cons_n (var_n rfl) (cons_n (var_n rfl) (cons_n (var_n rfl) nil_n))) e2) nil_n))
    rw [sAsg, e]
    rfl
  refine Grown.of ?_ (seq_nx a1 rfl)
  refine ifg (way_is 0) (fun _ => way0_n h0 hi2 (by omega) ⟨o, t⟩) fun _ => ?_
  refine ifg (way_is 1) (fun _ => way1_n h0 hi2 (by omega) hk) fun _ => ?_
  refine ifg (way_is 2) (fun _ => way2_n h0 hi2 (by omega) hn) fun _ => ?_
  have ne : bVal (eOp opNe (eVar 5) (eLst aNil)) (R6 b n k N ns m (some (.int (w : Nat))) (some (sgD s)) x8 x9 x10) S2 = .val (!(rows.map roD).isEmpty) S2 :=
    bval_n (op_n (var_n rfl) (lst_n nil_n) (opNe_nil (k := 2) (by simp only [deref, hi2.cell]) rfl (fun x hx => by
      obtain ⟨r, hr, rfl⟩ := List.mem_map.mp hx
      exact okP_ro fun s hs => ((hi2.ok r hr).2 s hs).2) (by omega)))
  refine ifg (q := decide ((w : Int) = 3) && !(rows.map roD).isEmpty) ?_ (fun h => ?_) fun _ => way4_n h0 hi2 (by omega) hn hN
  · rw [bAnd, way_is 3, bind_val]
    by_cases c : (w : Int) = 3
    · rw [if_pos (decide_eq_true c), ne, decide_eq_true c]; rfl
    · rw [if_neg (by simpa using c), decide_eq_false c]; rfl
  · refine way3_n h0 hi2 hl fun e => ?_
    subst e
    simp at h
def HT (h : House) : Prop := ∀ r ∈ h, ∀ s ∈ r, Sg.tx s
theorem f_house_n (h : Bx b S) (hn : NM ns) : ∃ hs S', f__law_house [.ref b, nmD ns, .int 5] S = .val (hsD hs) S' ∧ WF hs ∧ HT hs ∧ 0 < hs.length ∧ hs.length ≤ 5 ∧ Bk b S S' := by
  obtain ⟨a, S1, e1, ha, bk1⟩ := take_n h (n := 5) (by omega) (by omega)
  have a1 : (sAsg (eTup (aCons (eOp opAdd (eC (.int 1)) (eCall f__law_take (aCons (eVar 0) (aCons (eVar 2) aNil)))) (aCons (eCel aNil) aNil))) (tTupZ 2 (tsCons (tName 4) (tsCons (tName 5) tsNil)))) [some (.ref b), some (nmD ns), some (.int 5), none, none, none, none, none, none, none, none] S
      = .val (.nx [some (.ref b), some (nmD ns), some (.int 5), none, some (.int (a + 1 : Nat)), some (.ref S1.length), none, none, none, none, none]) (S1 ++ [.lst []]) := by
    have e1 : f__law_take [.ref b, .int 5] S = .val (.int a) S1 := e1
    simp [e1]
    omega
  have hi0 : HI b S1.length (a + 1) S1 (S1 ++ [.lst []]) [] := ⟨Bk.ext bk1.1 ext_app, Nat.le_refl _, by simp, fun r hr => nomatch hr⟩
  have hb := bk1.1.lt
  obtain ⟨ρ', S2, e2, rows, hl, hi, x3, x6, x7, x8, x9, x10, rfl⟩ := forL_all (ok := fun _ => True) (g := tName 3) (b := bHouse) (ds := rangeD (a + 1)) (ρ := [some (.ref b), some (nmD ns), some (.int 5), none, some (.int (a + 1 : Nat)), some (.ref S1.length), none, none, none, none, none]) (S := S1 ++ [.lst []])
    (fun k ρ S => ∃ rows : House, rows.length = k ∧ HI b S1.length (a + 1) S1 S rows ∧ ∃ x3 x6 x7 x8 x9 x10, ρ = [some (.ref b), some (nmD ns), some (.int 5), x3, some (.int (a + 1 : Nat)), some (.ref S1.length), x6, x7, x8, x9, x10]) (fun _ _ _ _ => True.intro) ⟨[], rfl, hi0, _, _, _, _, _, _, rfl⟩ (by
      rintro k d ρ S hd ⟨rows, hl, hi, x3, x6, x7, x8, x9, x10, rfl⟩
      unfold rangeD at hd
      rw [List.getElem?_map] at hd
      obtain ⟨k', hk', rfl⟩ := Option.map_eq_some_iff.mp hd
      obtain ⟨hk1, rfl⟩ := List.getElem?_eq_some_iff.mp hk'
      rw [List.length_range] at hk1
      rw [List.getElem_range]
      obtain ⟨y6, y7, y8, y9, y10, S2, r, e, hi2⟩ := turn_house (m := .int 5) (k := k) (x6 := x6) (x7 := x7) (x8 := x8) (x9 := x9) (x10 := x10) hb hi (by omega) hn (by omega) hk1
      exact ⟨_, S, _, S2, rfl, .inl e, rows ++ [r], by rw [List.length_append, hl]; rfl, hi2, some (.int k), y6, y7, y8, y9, y10, rfl⟩)
  rw [rangeD_len] at hl
  have c2 : (sFor (iRng1 (aCons (eVar 4) aNil)) (tName 3) bHouse) [some (.ref b), some (nmD ns), some (.int 5), none, some (.int (a + 1 : Nat)), some (.ref S1.length), none, none, none, none, none] (S1 ++ [.lst []]) = _ := for_n (rng1_n (n := a + 1) rfl (by omega)) e2
  have c3 : bTuple [.ref S1.length] S2 = .val (hsD rows) S2 := by
    simp only [bTuple, seqA, seqL, hi.cell]
    rfl
  refine ⟨rows, S2, fn_ret (seq_nx a1 (seq_nx c2 (ret_n (call_n (cons_n (var_n rfl) nil_n) c3)))), fun r hr => ?_, fun r hr s hs => ((hi.ok r hr).2 s hs).2, by omega, by omega, bk1.trans hi.bk⟩
  obtain ⟨l, o⟩ := hi.ok r hr
  rw [hl]
  exact ⟨l, fun s hs => (o s hs).1⟩
end
end L80
set_option Elab.async false
set_option linter.all false
set_option maxRecDepth 100000
set_option maxHeartbeats 1000000
/-! N8: the law's ways to a sight of the same pane. -/
namespace Z
theorem compL_on {β : Type} {ok : Sto → Prop} {g : D → Rho → M Rho} {t : Rho → M Bool} {e : Rho → M D} {ρ : Rho} {S : Sto} (f F : β → D) (p : β → Bool) (ρ' : β → Rho) (hok : ok S) : ∀ {L : List β}, (∀ x ∈ L, g (f x) ρ S = .val (ρ' x) S) → (∀ x ∈ L, t (ρ' x) S = .val (p x) S) →
    (∀ x ∈ L, p x = true → e (ρ' x) S = .val (F x) S) → compL ok g t e ρ (L.map f) S = .val ((L.filter p).map F) S
  | [], _, _, _ => by rw [List.map_nil]; unfold compL; rw [guard_of hok]; rfl
  | d :: ds, h1, h2, h3 => by
    rw [List.map_cons]
    unfold compL
    rw [guard_of hok]
    have ih := compL_on f F p ρ' hok (L := ds) (fun d h => h1 d (List.mem_cons_of_mem _ h)) (fun d h => h2 d (List.mem_cons_of_mem _ h)) (fun d h => h3 d (List.mem_cons_of_mem _ h))
    have a1 := h1 d List.mem_cons_self
    have a2 := h2 d List.mem_cons_self
    cases hp : p d with
    | false => simp [a1, a2, hp, ih]
    | true =>
      have a3 := h3 d List.mem_cons_self hp
      simp [a1, a2, a3, hp, ih]
theorem lc_on {β : Type} {it : Rho → M Src} {own : List Nat} {g : D → Rho → M Rho} {t : Rho → M Bool} {e : Rho → M D} {ρ : Rho} {S S1 : Sto} {src : Src} {L : List β} (f F : β → D) (p : β → Bool) (ρ' : β → Rho) (hf : it ρ S = .val src S1) (hi : src.items = L.map f) (hl : L.length ≤ 1000000) (hok : src.ok S1)
    (h1 : ∀ x ∈ L, g (f x) (wipeR ρ own) S1 = .val (ρ' x) S1) (h2 : ∀ x ∈ L, t (ρ' x) S1 = .val (p x) S1) (h3 : ∀ x ∈ L, p x = true → e (ρ' x) S1 = .val (F x) S1) : eFin finL (eComp it own g t e) ρ S = .val (.lst ((L.filter p).map F)) S1 := by
  have hl' : src.items.length ≤ 1000000 := by rw [hi, List.length_map]; exact hl
  simp only [eFin, eComp, hf, Out.bind, if_pos (szL hl'), hi, compL_on f F p ρ' hok h1 h2 h3, finL]
  rw [hi] at hl'
  rw [if_pos (szL hl')]
end Z
namespace L80
open Z Pg
open PySem (Str sizeLine reprText Txt.join PyData)
open L2 (atI ixN)
section
variable {S : Sto} {h : House}
theorem f_lquarter_n (wf : WF h) {q : Nat} (hq : q < 4) : ∀ {s : Sg}, s.ok h.length → f__law_quarter [hsD h, sgD s, .int q] S = .val (sgD (quar h s q)) S
  | .col x, _ => by simp [f__law_quarter, b__law_quarter, sgD, quar]
  | .pan p t, ho => by
    obtain ⟨r, s, e1, e2, e3, o⟩ := cell_at wf ho.1 (shw_lt t ho.2 q hq)
    have eq : quar h (.pan p t) q = s.turn t := by show ((h.getD p []).getD (shw t q) default).turn t = _; rw [e3]
    rw [eq]
    have i0 : ∀ r : Rho, eOp opIx (eVar 1) (eC (.int 0)) (some (hsD h) :: some (sgD (.pan p t)) :: r) S = .val (.int (p : Nat)) S := fun r => op_n (var_n rfl) rfl (opIx_tup rfl)
    have i1 : ∀ r : Rho, eOp opIx (eVar 1) (eC (.int 1)) (some (hsD h) :: some (sgD (.pan p t)) :: r) S = .val (.int (t : Nat)) S := fun r => op_n (var_n rfl) rfl (opIx_tup rfl)
    refine fn_ret (seq_nx (if_f ?_ skip_n) (ret_n (call_n (cons_n (op_n (op_n (var_n rfl) (i0 _) (ix_house e1 S)) (call_n (cons_n (i1 _) (cons_n (var_n rfl) nil_n)) (f_seen_n ho.2 hq)) (ix_row e2 S)) (cons_n (i1 _) nil_n)) (f_turned_n ho.2 o))))
    rfl
def lwD (x : List Nat × Sg) : D := .tup [rowD x.1, sgD x.2]
def wyD (x : List Nat × Nat) : D := .tup [rowD x.1, .int x.2]
def isCol : Sg → Bool
  | .col _ => true
  | .pan _ _ => false
def LW (h : House) (s : Sg) (k : Nat) (x : List Nat × Sg) : Prop := x.1.length = k ∧ (∀ q ∈ x.1, q < 4) ∧ x.2 = sightAt h s x.1
def WY (h : House) (s : Sg) (x : List Nat × Nat) : Prop := x.1 ≠ [] ∧ x.1.length ≤ 3 ∧ (∀ q ∈ x.1, q < 4) ∧ x.2 < 8 ∧ sightAt h s x.1 = s.turn x.2
theorem add_lst {a b : List D} (hl : a.length + b.length ≤ 1000000) : opAdd (.lst a) (.lst b) S = .val (.lst (a ++ b)) S := by
  simp only [opAdd, seqM]
  rw [if_pos (szL hl)]
theorem add_tup {a b : List D} (hl : a.length + b.length ≤ 1000000) : opAdd (.tup a) (.tup b) S = .val (.tup (a ++ b)) S := by
  simp only [opAdd]
  rw [if_pos (szL hl)]
theorem add_row {a b : List Nat} (hl : a.length + b.length ≤ 1000000) : opAdd (rowD a) (rowD b) S = .val (rowD (a ++ b)) S := by
  unfold rowD
  rw [add_tup (by simpa using hl), List.map_append]
noncomputable def eNext : Rho → M D := (eFin finL (eComp (iRng1 (aCons (eC (.int 4)) aNil)) [8] (tName 8) bYes (eTup (aCons (eOp opAdd (eVar 6) (eTup (aCons (eVar 8) aNil))) (aCons (eCall f__law_quarter (aCons (eVar 0) (aCons (eVar 7) (aCons (eVar 8) aNil)))) aNil)))))
def nextL (h : House) (x : List Nat × Sg) : List (List Nat × Sg) := (List.range 4).map fun q => (x.1 ++ [q], quar h x.2 q)
theorem next_n (wf : WF h) {x : List Nat × Sg} (ho : x.2.ok h.length) (hl : x.1.length ≤ 10) {y1 y2 y3 y4 y5 y8 : Option D} : eNext [some (hsD h), y1, y2, y3, y4, y5, some (rowD x.1), some (sgD x.2), y8] S = .val (.lst ((nextL h x).map lwD)) S := by
  have hc := lc_on (it := iRng1 (aCons (eC (.int 4)) aNil)) (own := [8]) (g := tName 8) (t := bYes) (e := eTup (aCons (eOp opAdd (eVar 6) (eTup (aCons (eVar 8) aNil))) (aCons (eCall f__law_quarter (aCons (eVar 0) (aCons (eVar 7) (aCons (eVar 8) aNil)))) aNil))) (ρ := [some (hsD h), y1, y2, y3, y4, y5, some (rowD x.1), some (sgD x.2), y8]) (S := S) (L := List.range 4)
    (fun (i : Nat) => D.int (i : Int)) (fun q => lwD (x.1 ++ [q], quar h x.2 q)) (fun _ => true) (fun q => [some (hsD h), y1, y2, y3, y4, y5, some (rowD x.1), some (sgD x.2), some (.int (q : Nat))]) (rng1_n (n := 4) rfl (by omega)) rfl (by simp) True.intro (fun q _ => rfl) (fun q _ => rfl) (fun q hq _ => by
      have hq := List.mem_range.mp hq
      exact tup_n (cons_n (op_n (var_n rfl) (tup_n (cons_n (var_n rfl) nil_n)) (add_row (a := x.1) (b := [q]) (by simp; omega))) (cons_n (call_n (cons_n (var_n rfl) (cons_n (var_n rfl) (cons_n (var_n rfl) nil_n))) (f_lquarter_n wf hq ho)) nil_n)))
  rw [List.filter_eq_self.mpr fun _ _ => rfl] at hc
  refine hc.trans ?_
  unfold nextL
  rw [List.map_map]
  rfl
end
end L80
set_option Elab.async false
set_option linter.all false
set_option maxRecDepth 100000
set_option maxHeartbeats 1000000
/-! N9: the law's ways, whole. -/
namespace L80
open Z Pg
open PySem (Str sizeLine reprText Txt.join PyData)
open L2 (atI ixN)
section
variable {S : Sto} {h : House} {p t : Nat}
theorem nextL_ok {s : Sg} {k : Nat} {x : List Nat × Sg} (hx : LW h s k x) : ∀ y ∈ nextL h x, LW h s (k + 1) y := fun y hy => by
  obtain ⟨q, hq, rfl⟩ := List.mem_map.mp hy
  have hq := List.mem_range.mp hq
  refine ⟨by simp [hx.1], fun z hz => ?_, ?_⟩
  · rcases List.mem_append.mp hz with e | e
    · exact hx.2.1 z e
    · rw [List.mem_singleton] at e; subst e; exact hq
  · show quar h x.2 q = sightAt h s (x.1 ++ [q])
    rw [sightAt_append, hx.2.2]
    rfl
def wayOf (t : Nat) (x : List Nat × Sg) : List Nat × Nat := (x.1, match x.2 with
  | .col _ => 0
  | .pan _ t' => beh (bck t) t')
def sameP (p : Nat) (x : List Nat × Sg) : Bool := match x.2 with
  | .col _ => false
  | .pan p' _ => decide (p' = p)
theorem way_ok {k : Nat} (ht : t < 8) (hk : 0 < k) (h3 : k ≤ 3) {x : List Nat × Sg} (hx : LW h (.pan p t) k x) (ho : x.2.ok h.length) (hs : sameP p x = true) : WY h (.pan p t) (wayOf t x) := by
  obtain ⟨path, here⟩ := x
  obtain ⟨h1, h2, h4⟩ := hx
  cases here with
  | col x => cases hs
  | pan p' t' =>
    have e : p' = p := of_decide_eq_true hs
    subst e
    have ht' := ho.2
    refine ⟨fun e => ?_, ?_, h2, beh_lt (bck_lt t ht) ht', ?_⟩
    · simp only [wayOf] at e
      simp only at h1
      rw [e] at h1
      simp at h1; omega
    · show path.length ≤ 3
      simp only at h1; omega
    · show sightAt h (.pan p' t) path = .pan p' (beh t (beh (bck t) t'))
      rw [← beh_assoc t ht (bck t) (bck_lt t ht) t' ht', beh_bck t ht, zero_beh t' ht']
      exact h4.symm
def R9 (h : House) (s : Sg) (F : List (List Nat × Nat)) (L : List (List Nat × Sg)) (x2 x5 x6 x7 x8 : Option D) : Rho := [some (hsD h), some (sgD s), x2, some (.lst (F.map wyD)), some (.lst (L.map lwD)), x5, x6, x7, x8]
noncomputable def rA : Rho → M Fl := (sFor (iVal (eVar 4)) (tTupZ 2 (tsCons (tName 6) (tsCons (tName 7) tsNil))) (sAsg (eOp opAdd (eVar 5) (eFin finL (eComp (iRng1 (aCons (eC (.int 4)) aNil)) [8] (tName 8) bYes (eTup (aCons (eOp opAdd (eVar 6) (eTup (aCons (eVar 8) aNil))) (aCons (eCall f__law_quarter (aCons (eVar 0) (aCons (eVar 7) (aCons (eVar 8) aNil)))) aNil)))))) (tName 5)))
noncomputable def rB : Rho → M Fl := (sAsg (eFin finL (eComp (iVal (eVar 5)) [6, 7] (tTupZ 2 (tsCons (tName 6) (tsCons (tName 7) tsNil))) (bNot (bVal (eIsi ["str"] (eVar 7)))) (eTup (aCons (eVar 6) (aCons (eVar 7) aNil))))) (tName 4))
noncomputable def rC : Rho → M Fl := (sAsg (eOp opAdd (eVar 3) (eFin finL (eComp (iVal (eVar 4)) [6, 7] (tTupZ 2 (tsCons (tName 6) (tsCons (tName 7) tsNil))) (bVal (eOp opEq (eOp opIx (eVar 7) (eC (.int 0))) (eOp opIx (eVar 1) (eC (.int 0))))) (eTup (aCons (eVar 6) (aCons (eCall f_behind (aCons (eCall f_back (aCons (eOp opIx (eVar 1) (eC (.int 1))) aNil)) (aCons (eOp opIx (eVar 7) (eC (.int 1))) aNil))) aNil)))))) (tName 3))
theorem rA_n (wf : WF h) {s : Sg} (ho : s.ok h.length) {F : List (List Nat × Nat)} {L : List (List Nat × Sg)} {k : Nat} (hk : k ≤ 5) (hL : ∀ x ∈ L, LW h s k x) (hl : L.length ≤ 1000) {x2 x6 x7 x8 : Option D} :
    ∃ (La : List (List Nat × Sg)) (y6 y7 y8 : Option D), rA (R9 h s F L x2 (some (.lst [])) x6 x7 x8) S = .val (.nx (R9 h s F L x2 (some (.lst (La.map lwD))) y6 y7 y8)) S ∧ La.length = 4 * L.length ∧ ∀ x ∈ La, LW h s (k + 1) x := by
  obtain ⟨ρ', S2, e2, rfl, La, hl2, hm, y6, y7, y8, rfl⟩ := forL_all (ok := fun _ => True) (g := tTupZ 2 (tsCons (tName 6) (tsCons (tName 7) tsNil))) (b := sAsg (eOp opAdd (eVar 5) eNext) (tName 5)) (ds := L.map lwD) (ρ := R9 h s F L x2 (some (.lst [])) x6 x7 x8) (S := S)
    (fun j ρ S' => S' = S ∧ ∃ La : List (List Nat × Sg), La.length = 4 * j ∧ (∀ x ∈ La, LW h s (k + 1) x) ∧ ∃ y6 y7 y8, ρ = R9 h s F L x2 (some (.lst (La.map lwD))) y6 y7 y8) (fun _ _ _ _ => True.intro) ⟨rfl, [], rfl, fun x hx => (nomatch hx), _, _, _, rfl⟩ (by
      rintro j d ρ S' hd ⟨rfl, La, hl2, hm, y6, y7, y8, rfl⟩
      rw [List.getElem?_map] at hd
      obtain ⟨x, hx, rfl⟩ := Option.map_eq_some_iff.mp hd
      have hj : j < L.length := (List.getElem?_eq_some_iff.mp hx).1
      have hw := hL x (List.mem_of_getElem? hx)
      have ok : x.2.ok h.length := by rw [hw.2.2]; exact sightAt_ok wf hw.2.1 ho
      have n := next_n (S := S') wf (x := x) ok (by rw [hw.1]; omega) (y1 := some (sgD s)) (y2 := x2) (y3 := some (.lst (F.map wyD))) (y4 := some (.lst (L.map lwD))) (y5 := some (.lst (La.map lwD))) (y8 := y8)
      have hn : (nextL h x).length = 4 := by simp [nextL]
      refine ⟨R9 h s F L x2 (some (.lst (La.map lwD))) (some (rowD x.1)) (some (sgD x.2)) y8, S', R9 h s F L x2 (some (.lst ((La ++ nextL h x).map lwD))) (some (rowD x.1)) (some (sgD x.2)) y8, S', rfl, .inl ?_, rfl, La ++ nextL h x, by rw [List.length_append, hl2, hn]; omega, fun y hy => ?_, _, _, _, rfl⟩
      · have ad : opAdd (.lst (La.map lwD)) (.lst ((nextL h x).map lwD)) S' = .val (.lst ((La ++ nextL h x).map lwD)) S' := by
          rw [add_lst (by rw [List.length_map, List.length_map]; omega), List.map_append]
        exact asg_n (op_n (var_n rfl) n ad)
      · rcases List.mem_append.mp hy with q | q
        · exact hm y q
        · exact nextL_ok hw y q)
  rw [List.length_map] at hl2
  exact ⟨La, y6, y7, y8, for_n (iVal_n (var_n rfl) rfl) e2, hl2, hm⟩
theorem rB_n {s : Sg} {F : List (List Nat × Nat)} {L La : List (List Nat × Sg)} (hl : La.length ≤ 1000000) {x2 x6 x7 x8 : Option D} :
    rB (R9 h s F L x2 (some (.lst (La.map lwD))) x6 x7 x8) S = .val (.nx (R9 h s F (La.filter fun x => !isCol x.2) x2 (some (.lst (La.map lwD))) x6 x7 x8)) S := by
  refine asg_n (i := 4) ?_
  exact lc_on (L := La) lwD lwD (fun x => !isCol x.2) (fun x => R9 h s F L x2 (some (.lst (La.map lwD))) (some (rowD x.1)) (some (sgD x.2)) x8) (iVal_n (var_n rfl) rfl) rfl hl True.intro (fun x _ => rfl) (fun x _ => by
    obtain ⟨a, s⟩ := x
    cases s with
    | col y => rfl
    | pan p t => rfl) (fun x _ _ => rfl)
theorem rC_n (ht : t < 8) {F : List (List Nat × Nat)} {L : List (List Nat × Sg)} (hc : ∀ x ∈ L, isCol x.2 = false ∧ x.2.ok h.length) (hl : F.length + L.length ≤ 1000000) {x2 x5 x6 x7 x8 : Option D} :
    rC (R9 h (.pan p t) F L x2 x5 x6 x7 x8) S = .val (.nx (R9 h (.pan p t) (F ++ (L.filter (sameP p)).map (wayOf t)) L x2 x5 x6 x7 x8)) S := by
  refine asg_n (i := 3) ?_
  have hc2 := lc_on (it := iVal (eVar 4)) (own := [6, 7]) (g := tTupZ 2 (tsCons (tName 6) (tsCons (tName 7) tsNil))) (t := bVal (eOp opEq (eOp opIx (eVar 7) (eC (.int 0))) (eOp opIx (eVar 1) (eC (.int 0))))) (e := eTup (aCons (eVar 6) (aCons (eCall f_behind (aCons (eCall f_back (aCons (eOp opIx (eVar 1) (eC (.int 1))) aNil)) (aCons (eOp opIx (eVar 7) (eC (.int 1))) aNil))) aNil))) (ρ := R9 h (.pan p t) F L x2 x5 x6 x7 x8) (S := S) (S1 := S) (L := L)
    lwD (fun x => wyD (wayOf t x)) (sameP p) (fun x => R9 h (.pan p t) F L x2 x5 (some (rowD x.1)) (some (sgD x.2)) x8) (iVal_n (var_n rfl) rfl) rfl (by omega) True.intro (fun x _ => rfl) (fun x hx => by
      obtain ⟨a, s⟩ := x
      cases s with
      | col y => exact absurd (hc _ hx).1 (by simp [isCol])
      | pan p' t' =>
        refine bval_n ((op_n (d := .int (p' : Nat)) (e := .int (p : Nat)) (op_n (var_n rfl) rfl (opIx_tup rfl)) (op_n (var_n rfl) rfl (opIx_tup rfl)) opEq_int).trans ?_)
        congr 2
        simp only [sameP]
        exact decide_eq_decide.mpr (by omega)) (fun x hx hp => by
      obtain ⟨a, s⟩ := x
      cases s with
      | col y => cases hp
      | pan p' t' =>
        have ht' := (hc _ hx).2.2
        exact tup_n (cons_n (var_n rfl) (cons_n (call_n (cons_n (call_n (cons_n (op_n (var_n rfl) rfl (opIx_tup (d := .int (t : Nat)) rfl)) nil_n) (f_back_n ht S)) (cons_n (op_n (var_n rfl) rfl (opIx_tup (d := .int (t' : Nat)) rfl)) nil_n)) (f_behind_n (bck_lt t ht) ht' S)) nil_n)))
  rw [List.map_append]
  refine op_n (var_n rfl) hc2 ?_
  rw [add_lst (by
    have := List.length_filter_le (sameP p) L
    simp only [List.length_map]
    omega), List.map_map]
  rfl
theorem f_rows_to_n (wf : WF h) (ho : (Sg.pan p t).ok h.length) : ∃ W : List (List Nat × Nat), f__law_rows_to [hsD h, sgD (.pan p t)] S = .val (.lst (W.map wyD)) S ∧ W.length ≤ 300 ∧ ∀ x ∈ W, WY h (.pan p t) x := by
  obtain ⟨ρ', S2, e2, rfl, F, L, hF, hL, hw, hy, x2, x5, x6, x7, x8, rfl⟩ := forL_all (ok := fun _ => True) (g := tName 2) (b := sSeq (sAsg (eLst aNil) (tName 5)) (sSeq rA (sSeq rB rC))) (ds := rangeD 3) (ρ := R9 h (.pan p t) [] [([], .pan p t)] none none none none none) (S := S)
    (fun k ρ S' => S' = S ∧ ∃ (F : List (List Nat × Nat)) (L : List (List Nat × Sg)), F.length ≤ 64 * k ∧ L.length ≤ 4 ^ k ∧ (∀ x ∈ L, LW h (.pan p t) k x) ∧ (∀ x ∈ F, WY h (.pan p t) x) ∧ ∃ x2 x5 x6 x7 x8, ρ = R9 h (.pan p t) F L x2 x5 x6 x7 x8) (fun _ _ _ _ => True.intro)
    ⟨rfl, [], [([], .pan p t)], Nat.le_refl _, Nat.le_refl _, fun x hx => by rw [List.mem_singleton] at hx; subst hx; exact ⟨rfl, fun q hq => (nomatch hq), rfl⟩, fun x hx => (nomatch hx), _, _, _, _, _, rfl⟩ (by
      rintro k d ρ S' hd ⟨rfl, F, L, hF, hL, hw, hy, x2, x5, x6, x7, x8, rfl⟩
      have hk : k < 3 := by have := (List.getElem?_eq_some_iff.mp hd).1; rwa [rangeD_len] at this
      have h4 : 4 ^ k ≤ 16 := Nat.le_trans (Nat.pow_le_pow_right (by omega) (show k ≤ 2 by omega)) (by decide)
      obtain ⟨La, y6, y7, y8, e1, l1, w1⟩ := rA_n (S := S') wf ho (F := F) (L := L) (k := k) (x2 := some d) (x6 := x6) (x7 := x7) (x8 := x8) (by omega) hw (by omega)
      have e2 := rB_n (S := S') (h := h) (s := .pan p t) (F := F) (L := L) (La := La) (x2 := some d) (x6 := y6) (x7 := y7) (x8 := y8) (by omega)
      have hsub : ∀ x ∈ La.filter (fun x => !isCol x.2), x ∈ La ∧ isCol x.2 = false := fun x hx => by
        obtain ⟨a, c⟩ := List.mem_filter.mp hx
        exact ⟨a, by simpa using c⟩
      have hok : ∀ x ∈ La, x.2.ok h.length := fun x hx => by rw [(w1 x hx).2.2]; exact sightAt_ok wf (w1 x hx).2.1 ho
      have hlf := List.length_filter_le (fun x : List Nat × Sg => !isCol x.2) La
      have e3 := rC_n (S := S') (h := h) (p := p) ho.2 (F := F) (L := La.filter fun x => !isCol x.2) (x2 := some d) (x5 := some (.lst (La.map lwD))) (x6 := y6) (x7 := y7) (x8 := y8) (fun x hx => ⟨(hsub x hx).2, hok x (hsub x hx).1⟩) (by omega)
      refine ⟨R9 h (.pan p t) F L (some d) x5 x6 x7 x8, S', _, S', rfl, .inl (seq_nx (asg_n (i := 5) (lst_n nil_n)) (seq_nx e1 (seq_nx e2 e3))), rfl, _, _, ?_, ?_, fun x hx => w1 x (hsub x hx).1, fun x hx => ?_, _, _, _, _, _, rfl⟩
      · have := List.length_filter_le (sameP p) (La.filter fun x => !isCol x.2)
        rw [List.length_append, List.length_map]
        omega
      · rw [Nat.pow_succ]; omega
      · rcases List.mem_append.mp hx with q | q
        · exact hy x q
        · obtain ⟨y, hy', rfl⟩ := List.mem_map.mp q
          obtain ⟨a, c⟩ := List.mem_filter.mp hy'
          exact way_ok ho.2 (Nat.succ_pos k) (by omega) (w1 y (hsub y a).1) (hok y (hsub y a).1) c)
  rw [rangeD_len] at hF
  have c2 : (sFor (iRng1 (aCons (eC (.int 3)) aNil)) (tName 2) (sSeq (sAsg (eLst aNil) (tName 5)) (sSeq rA (sSeq rB rC)))) (R9 h (.pan p t) [] [([], .pan p t)] none none none none none) S2 = _ := for_n (rng1_n (n := 3) rfl (by omega)) e2
  refine ⟨F, fn_ret (seq_nx (ρ' := R9 h (.pan p t) [] [([], .pan p t)] none none none none none) rfl (seq_nx c2 (ret_n (var_n rfl)))), by omega, hy⟩
end
end L80
set_option Elab.async false
set_option linter.all false
set_option maxRecDepth 100000
set_option maxHeartbeats 1000000
/-! N10: the law's same. -/
namespace L80
open Z Pg
open PySem (Str sizeLine reprText Txt.join PyData)
open L2 (atI ixN)
section
variable {S : Sto}
theorem same_opt (n : Nat) (w : Option Str) : f__law_same (n + 1) [optD w, optD w] S = .val (.bl true) S := by
  cases w with
  | none =>
    refine fn_ret (seq_nx (if_f rfl skip_n) (seq_ret (if_t rfl (ret_n ?_))))
    rfl
  | some x =>
    have e : eOp opEq (eVar 0) (eVar 1) [some (.str x), some (.str x), none, none] S = .val (.bl true) S := op_n (var_n rfl) (var_n rfl) (by rw [opEq_str, decide_eq_true rfl])
    refine fn_ret (seq_nx (if_f rfl skip_n) (seq_ret (if_t rfl (ret_n ?_))))
    rw [eAnd, show eOp opEq (eIsi ["bool"] (eVar 0)) (eIsi ["bool"] (eVar 1)) ([optD (some x), optD (some x)].map some ++ List.replicate 2 none) S = .val (.bl true) S from rfl, bind_val]
    exact e
theorem same_list {n : Nat} {ds : List D} (hl : ds.length ≤ 1000) (h : ∀ x ∈ ds, f__law_same n [x, x] S = .val (.bl true) S) : f__law_same (n + 1) [.lst ds, .lst ds] S = .val (.bl true) S := by
  have hz : zips ds ds = ds.map fun x => .tup [x, x] := by
    unfold zips
    induction ds with
    | nil => rfl
    | cons x r ih =>
      have := ih (Nat.le_trans (Nat.le_succ _) hl) fun y hy => h y (List.mem_cons_of_mem _ hy)
      rw [List.zip_cons_cons, List.map_cons, this]
      rfl
  have hc := lc_on (it := iZip (aCons (eVar 0) (aCons (eVar 1) aNil))) (own := [2, 3]) (g := tTupZ 2 (tsCons (tName 2) (tsCons (tName 3) tsNil))) (t := bYes) (e := eCall (f__law_same n) (aCons (eVar 2) (aCons (eVar 3) aNil))) (ρ := [some (.lst ds), some (.lst ds), none, none]) (S := S) (S1 := S) (L := ds) (src := ⟨zips ds ds, fun S' => True ∧ True⟩)
    (fun x => .tup [x, x]) (fun _ => .bl true) (fun _ => true) (fun x => [some (.lst ds), some (.lst ds), some x, some x]) rfl hz (by omega) ⟨True.intro, True.intro⟩ (fun x _ => rfl) (fun x _ => rfl) (fun x hx _ => call_n (cons_n (var_n rfl) (cons_n (var_n rfl) nil_n)) (h x hx))
  rw [List.filter_eq_self.mpr fun _ _ => rfl] at hc
  have ha : bAll [.lst (ds.map fun _ => D.bl true)] S = .val (.bl true) S := by
    have := bAll_lst (S := S) (bs := ds.map fun _ => true)
    rw [List.map_map] at this
    refine Eq.trans this ?_
    congr 2
    rw [List.all_eq_true]
    intro b hb
    obtain ⟨_, _, rfl⟩ := List.mem_map.mp hb
    rfl
  refine fn_ret (seq_ret (if_t rfl (seq_nx (if_f rfl skip_n) (ret_n ?_))))
  have e1 : eOp opEq (eCall bLen (aCons (eVar 0) aNil)) (eCall bLen (aCons (eVar 1) aNil)) [some (.lst ds), some (.lst ds), none, none] S = .val (.bl true) S := op_n (call_n (cons_n (var_n rfl) nil_n) bLen_lst) (call_n (cons_n (var_n rfl) nil_n) bLen_lst) (by rw [opEq_int, decide_eq_true rfl])
  show eAnd _ _ [some (.lst ds), some (.lst ds), none, none] S = _
  rw [eAnd, e1, bind_val]
  exact call_n (cons_n hc nil_n) ha
theorem same_grid {k m : Nat} {g : Gr} (hs : Shape k m g) (hk : k ≤ 1000) (hm : m ≤ 1000) : f__law_same 4 [gridD g, gridD g] S = .val (.bl true) S := by
  refine same_list (by rw [List.length_map, hs.1]; exact hk) fun x hx => ?_
  obtain ⟨r, hr, rfl⟩ := List.mem_map.mp hx
  refine same_list (by rw [List.length_map, hs.2 r hr]; exact hm) fun y hy => ?_
  obtain ⟨w, _, rfl⟩ := List.mem_map.mp hy
  exact same_opt 1 w
end
end L80
set_option Elab.async false
set_option linter.all false
set_option maxRecDepth 100000
set_option maxHeartbeats 1000000
/-! N11: spirals: the walk along. -/
namespace Z
theorem forL_brk {ok : Sto → Prop} {g : D → Rho → M Rho} {b : Rho → M Fl} (ds0 : List D) (J : Nat → Rho → Sto → Prop) (m : Nat) (hm : m < ds0.length) (Q : Rho → Sto → Prop) (hok : ∀ k ρ S, J k ρ S → ok S)
    (step : ∀ k d ρ S, k < m → ds0[k]? = some d → J k ρ S → ∃ ρ1 S1 ρ2 S2, g d ρ S = .val ρ1 S1 ∧ b ρ1 S1 = .val (.nx ρ2) S2 ∧ J (k + 1) ρ2 S2)
    (last : ∀ d ρ S, ds0[m]? = some d → J m ρ S → ∃ ρ1 S1 ρ2 S2, g d ρ S = .val ρ1 S1 ∧ b ρ1 S1 = .val (.brk ρ2) S2 ∧ Q ρ2 S2) :
    ∀ {ds : List D} {k : Nat} {ρ : Rho} {S : Sto}, k ≤ m → ds0.drop k = ds → J k ρ S → ∃ ρ' S', forL ok g b ds ρ S = .val (.nx ρ') S' ∧ Q ρ' S'
  | [], k, ρ, S, hk, hd, hJ => by
    have := List.drop_eq_nil_iff.mp hd
    omega
  | d :: ds, k, ρ, S, hk, hd, hJ => by
    have hk' : ds0[k]? = some d := by
      have : (ds0.drop k)[0]? = some d := by rw [hd]; rfl
      rw [List.getElem?_drop] at this
      exact this
    have hd' : ds0.drop (k + 1) = ds := by rw [← List.drop_drop, hd]; rfl
    by_cases e : k = m
    · subst e
      obtain ⟨ρ1, S1, ρ2, S2, e1, e2, q⟩ := last d ρ S hk' hJ
      refine ⟨ρ2, S2, ?_, q⟩
      unfold forL; rw [guard_of (hok k ρ S hJ)]
      simp [e1, e2]
    · obtain ⟨ρ1, S1, ρ2, S2, e1, e2, j2⟩ := step k d ρ S (by omega) hk' hJ
      obtain ⟨ρ', S', e3, q⟩ := forL_brk ds0 J m hm Q hok step last (by omega) hd' j2
      refine ⟨ρ', S', ?_, q⟩
      unfold forL; rw [guard_of (hok k ρ S hJ)]
      simp [e1, e2, e3]
end Z
namespace L80
open Z Pg
open PySem (Str sizeLine reprText Txt.join PyData)
open L2 (atI ixN)
def pw (tour : Nat) : Nat → Nat
  | 0 => 0
  | k + 1 => beh (pw tour k) tour
def al (path : List Nat) (tour : Nat) : Nat → List Nat
  | 0 => []
  | k + 1 => al path tour k ++ path.map (shw (bck (pw tour k)))
theorem pw_lt {tour : Nat} (ht : tour < 8) : ∀ k, pw tour k < 8
  | 0 => by show 0 < 8; omega
  | k + 1 => beh_lt (pw_lt ht k) ht
theorem pw_comm {tour : Nat} (ht : tour < 8) : ∀ k, beh tour (pw tour k) = beh (pw tour k) tour
  | 0 => by show beh tour 0 = beh 0 tour; rw [beh_zero tour ht, zero_beh tour ht]
  | k + 1 => by
    show beh tour (beh (pw tour k) tour) = beh (beh (pw tour k) tour) tour
    rw [← beh_assoc tour ht _ (pw_lt ht k) tour ht, pw_comm ht k]
theorem ord_ok : ∀ tour : Nat, tour < 8 → ∃ m, m < 4 ∧ pw tour (m + 1) = 0 ∧ (m + 1 = 1 ∨ m + 1 = 2 ∨ m + 1 = 4) ∧ ∀ j < m, pw tour (j + 1) ≠ 0 := by decide
section
variable {h : House} {mk : Nat → Nat → Nat} {path : List Nat} {tour : Nat} {s : Sg}
theorem al_lt (hr : ∀ q ∈ path, q < 4) (ht : tour < 8) : ∀ k, ∀ q ∈ al path tour k, q < 4
  | 0, q, hq => nomatch hq
  | k + 1, q, hq => by
    rcases List.mem_append.mp hq with e | e
    · exact al_lt hr ht k q e
    · obtain ⟨q', h1, rfl⟩ := List.mem_map.mp e
      exact shw_lt _ (bck_lt _ (pw_lt ht k)) q' (hr q' h1)
theorem al_len (k : Nat) : (al path tour k).length = k * path.length := by
  induction k with
  | zero => simp [al]
  | succ k ih => rw [al, List.length_append, ih, List.length_map, Nat.succ_mul]
theorem along (wf : WF h) (F : Fin h (wls h) mk) (hr : ∀ q ∈ path, q < 4) (ht : tour < 8) (ho : s.ok h.length) (e : mv (wls h) mk (sightAt h s path) = mv (wls h) mk (s.turn tour)) : ∀ k, mv (wls h) mk (sightAt h s (al path tour k)) = mv (wls h) mk (s.turn (pw tour k))
  | 0 => by show mv _ _ s = mv _ _ (s.turn 0); rw [turn_zero ho]
  | k + 1 => by
    have hp := pw_lt ht k
    have ih := along wf F hr ht ho e k
    have hrr : ∀ q ∈ path.map (shw (bck (pw tour k))), q < 4 := fun q hq => by
      obtain ⟨q', h1, rfl⟩ := List.mem_map.mp hq
      exact shw_lt _ (bck_lt _ hp) q' (hr q' h1)
    show mv _ _ (sightAt h s (al path tour k ++ path.map (shw (bck (pw tour k))))) = mv _ _ (s.turn (beh (pw tour k) tour))
    rw [sightAt_append, F.row wf hrr (sightAt_ok wf (al_lt hr ht k) ho) (turn_ok hp ho) ih, sightAt_seen wf hp hr ho, F.good.mv_turn hp (sightAt_ok wf hr ho) (turn_ok ht ho) e, turn_turn ht hp ho, pw_comm ht k]
end
end L80
set_option Elab.async false
set_option linter.all false
set_option maxRecDepth 100000
set_option maxHeartbeats 1000000
/-! N12: spirals: the loop. -/
namespace L80
open Z Pg
open PySem (Str sizeLine reprText Txt.join PyData)
open L2 (atI ixN)
section
variable {b : Nat} {S S0 : Sto} {h : House} {path : List Nat} {tour : Nat} {s : Sg}
def R12 (b : Nat) (h : House) (s : Sg) (path : List Nat) (tour : Nat) (x5 x6 : Option D) (a : List Nat) (dn am : Nat) (x10 : Option D) : Rho := [some (.ref b), some (hsD h), some (sgD s), some (rowD path), some (.int tour), x5, x6, some (rowD a), some (.int dn), some (.int am), x10]
noncomputable def bSpi : Rho → M Fl := (sSeq (sAsg (eOp opAdd (eVar 7) (eCall f_row_seen (aCons (eCall f_back (aCons (eVar 8) aNil)) (aCons (eVar 3) aNil)))) (tName 7))
  (sSeq (sPar2 8 9 (aCons (eCall f_behind (aCons (eVar 8) (aCons (eVar 4) aNil))) (aCons (eOp opAdd (eVar 9) (eC (.int 1))) aNil)))
  (sSeq (sIf (bNot (bVal (eCall f_alike (aCons (eVar 1) (aCons (eCall f_sight_at (aCons (eVar 1) (aCons (eVar 2) (aCons (eVar 7) aNil)))) (aCons (eCall f_turned (aCons (eVar 2) (aCons (eVar 8) aNil))) aNil)))))) (sRet (eC (.bl false))) sSkip)
  (sIf (bVal (eOp opEq (eVar 8) (eC (.int 0)))) sBrk sSkip))))
/-- alike, whatever marks are made -/
def Alike (h : House) (s s' : Sg) : Prop := ∃ mk, Fin h (wls h) mk ∧ mv (wls h) mk s = mv (wls h) mk s'
theorem Alike.all {s s' : Sg} (a : Alike h s s') (ho : s.ok h.length) (ho' : s'.ok h.length) {mk : Nat → Nat → Nat} (F : Fin h (wls h) mk) : mv (wls h) mk s = mv (wls h) mk s' := by
  obtain ⟨mk0, F0, e⟩ := a
  exact F0.same F ho ho' e
theorem bSpi_n (wf : WF h) (hl : h.length ≤ 400) (ho : s.ok h.length) (hr : ∀ q ∈ path, q < 4) (hp : path.length ≤ 10) (ht : tour < 8) (ak : Alike h (sightAt h s path) (s.turn tour)) (bx : Bk b S0 S) {k : Nat} (hk : k ≤ 20) {x5 x6 x10 : Option D} :
    ∃ S', bSpi (R12 b h s path tour x5 x6 (al path tour k) (pw tour k) k x10) S = .val (if pw tour (k + 1) = 0 then .brk (R12 b h s path tour x5 x6 (al path tour (k + 1)) (pw tour (k + 1)) (k + 1) x10) else .nx (R12 b h s path tour x5 x6 (al path tour (k + 1)) (pw tour (k + 1)) (k + 1) x10)) S' ∧ Bk b S0 S' := by
  have hw := pw_lt ht k
  have hw1 := pw_lt ht (k + 1)
  have l0 : (al path tour k).length ≤ 200 := by
    rw [al_len]
    exact Nat.le_trans (Nat.mul_le_mul hk hp) (by omega)
  have a1 : (sAsg (eOp opAdd (eVar 7) (eCall f_row_seen (aCons (eCall f_back (aCons (eVar 8) aNil)) (aCons (eVar 3) aNil)))) (tName 7)) (R12 b h s path tour x5 x6 (al path tour k) (pw tour k) k x10) S = .val (.nx (R12 b h s path tour x5 x6 (al path tour (k + 1)) (pw tour k) k x10)) S :=
    asg_n (i := 7) (op_n (var_n rfl) (call_n (cons_n (call_n (cons_n (var_n rfl) nil_n) (f_back_n hw S)) (cons_n (var_n rfl) nil_n)) (f_row_seen_n (bck_lt _ hw) hr (by omega))) (add_row (by rw [List.length_map]; omega)))
  have a2 : (sPar2 8 9 (aCons (eCall f_behind (aCons (eVar 8) (aCons (eVar 4) aNil))) (aCons (eOp opAdd (eVar 9) (eC (.int 1))) aNil))) (R12 b h s path tour x5 x6 (al path tour (k + 1)) (pw tour k) k x10) S = .val (.nx (R12 b h s path tour x5 x6 (al path tour (k + 1)) (pw tour (k + 1)) (k + 1) x10)) S := by
    rw [sPar2, cons_n (call_n (cons_n (var_n rfl) (cons_n (var_n rfl) nil_n)) (f_behind_n hw ht S)) (cons_n (op_n (var_n rfl) rfl (opAdd_int k 1 S)) nil_n)]
    rfl
  have okA := sightAt_ok wf (al_lt hr ht (k + 1)) ho
  obtain ⟨S', mk, e, F, x⟩ := f_alike_n (S := S) wf hl okA (turn_ok hw1 ho)
  have eq := along wf F hr ht ho (ak.all (sightAt_ok wf hr ho) (turn_ok ht ho) F) (k + 1)
  rw [decide_eq_true eq] at e
  have c : bVal (eCall f_alike (aCons (eVar 1) (aCons (eCall f_sight_at (aCons (eVar 1) (aCons (eVar 2) (aCons (eVar 7) aNil)))) (aCons (eCall f_turned (aCons (eVar 2) (aCons (eVar 8) aNil))) aNil)))) (R12 b h s path tour x5 x6 (al path tour (k + 1)) (pw tour (k + 1)) (k + 1) x10) S = .val true S' :=
    bval_n (call_n (cons_n (var_n rfl) (cons_n (call_n (cons_n (var_n rfl) (cons_n (var_n rfl) (cons_n (var_n rfl) nil_n))) (f_sight_at_n wf (al_lt hr ht (k + 1)) ho S)) (cons_n (call_n (cons_n (var_n rfl) (cons_n (var_n rfl) nil_n)) (Pg.f_turned_n hw1 S ho)) nil_n))) e)
  refine ⟨S', seq_nx a1 (seq_nx a2 (seq_nx (if_f (by rw [bNot, c]; rfl) skip_n) ?_)), bx.trans (Bk.ext bx.1 x)⟩
  have d : bVal (eOp opEq (eVar 8) (eC (.int 0))) (R12 b h s path tour x5 x6 (al path tour (k + 1)) (pw tour (k + 1)) (k + 1) x10) S' = .val (decide (((pw tour (k + 1) : Nat) : Int) = 0)) S' := bval_n (op_n (var_n rfl) rfl opEq_int)
  by_cases c0 : pw tour (k + 1) = 0
  · rw [if_pos c0]
    exact if_t (by rw [d, decide_eq_true (by omega)]) rfl
  · rw [if_neg c0]
    exact if_f (by rw [d, decide_eq_false (by omega)]) rfl
theorem loop_n (wf : WF h) (hl : h.length ≤ 400) (ho : s.ok h.length) (hr : ∀ q ∈ path, q < 4) (hp : path.length ≤ 10) (ht : tour < 8) (ak : Alike h (sightAt h s path) (s.turn tour)) (bx : Bx b S) :
    ∃ m S' x5, (m + 1 = 1 ∨ m + 1 = 2 ∨ m + 1 = 4) ∧ pw tour (m + 1) = 0 ∧ sFor (iRng1 (aCons (eC (.int 9)) aNil)) (tName 5) bSpi (R12 b h s path tour none none [] 0 0 none) S = .val (.nx (R12 b h s path tour x5 none (al path tour (m + 1)) 0 (m + 1) none)) S' ∧ Bk b S S' := by
  obtain ⟨m, hm, h0, h4, hb⟩ := ord_ok tour ht
  obtain ⟨ρ', S', e, x5, rfl, bk⟩ := forL_brk (ok := fun _ => True) (g := tName 5) (b := bSpi) (rangeD 9) (fun k ρ S' => ∃ x5, ρ = R12 b h s path tour x5 none (al path tour k) (pw tour k) k none ∧ Bk b S S') m (by rw [rangeD_len]; omega) (fun ρ S' => ∃ x5, ρ = R12 b h s path tour x5 none (al path tour (m + 1)) 0 (m + 1) none ∧ Bk b S S') (fun _ _ _ _ => True.intro) (by
      rintro k d ρ S1 hk hd ⟨x5, rfl, bk⟩
      obtain ⟨S2, e, bk2⟩ := bSpi_n wf hl ho hr hp ht ak bk (k := k) (by omega) (x5 := some d) (x6 := none) (x10 := none)
      rw [if_neg (hb k hk)] at e
      exact ⟨_, S1, _, S2, rfl, e, _, rfl, bk2⟩) (by
      rintro d ρ S1 hd ⟨x5, rfl, bk⟩
      obtain ⟨S2, e, bk2⟩ := bSpi_n wf hl ho hr hp ht ak bk (k := m) (by omega) (x5 := some d) (x6 := none) (x10 := none)
      rw [if_pos h0, h0] at e
      exact ⟨_, S1, _, S2, rfl, e, _, rfl, bk2⟩) (ds := rangeD 9) (k := 0) (ρ := R12 b h s path tour none none [] 0 0 none) (S := S) (Nat.zero_le _) rfl ⟨none, rfl, Bk.refl bx⟩
  exact ⟨m, S', x5, h4, h0, for_n (rng1_n (n := 9) rfl (by omega)) e, bk⟩
end
end L80
set_option Elab.async false
set_option linter.all false
set_option maxRecDepth 100000
set_option maxHeartbeats 1000000
/-! N13: spirals: what is asked behind the loop. -/
namespace L80
open Z Pg
open PySem (Str sizeLine reprText Txt.join PyData)
open L2 (atI ixN)
section
variable {b : Nat} {S S0 : Sto} {h : House} {path : List Nat} {tour : Nat} {s : Sg} {mk : Nat → Nat → Nat}
theorem tx_turn (d : Nat) : ∀ {s : Sg}, Sg.tx s → Sg.tx (s.turn d)
  | .col _, e => e
  | .pan _ _, _ => True.intro
theorem tx_quar (wf : WF h) (ht : HT h) {q : Nat} (hq : q < 4) : ∀ {s : Sg}, s.ok h.length → Sg.tx s → Sg.tx (quar h s q)
  | .col _, _, e => e
  | .pan p t, ho, _ => by
    obtain ⟨r, s, e1, e2, e3, o⟩ := cell_at wf ho.1 (shw_lt t ho.2 q hq)
    show Sg.tx (((h.getD p []).getD (shw t q) default).turn t)
    rw [e3]
    exact tx_turn t (ht r (List.mem_of_getElem? e1) s (List.mem_of_getElem? e2))
theorem tx_row (wf : WF h) (ht : HT h) : ∀ {row : List Nat} {s : Sg}, (∀ q ∈ row, q < 4) → s.ok h.length → Sg.tx s → Sg.tx (sightAt h s row)
  | [], s, _, _, e => e
  | q :: row, s, hr, ho, e => tx_row wf ht (row := row) (fun x hx => hr x (List.mem_cons_of_mem _ hx)) (quar_ok wf (hr q List.mem_cons_self) ho) (tx_quar wf ht (hr q List.mem_cons_self) ho e)
theorem tx_again (wf : WF h) (ht : HT h) {row : List Nat} (hr : ∀ q ∈ row, q < 4) : ∀ {m : Nat} {s : Sg}, s.ok h.length → Sg.tx s → Sg.tx (again h row m s)
  | 0, s, _, e => e
  | m + 1, s, ho, e => tx_again wf ht hr (m := m) (sightAt_ok wf hr ho) (tx_row wf ht hr ho e)
theorem short_reach (wf : WF h) (ht : HT h) {row : List Nat} (hr : ∀ q ∈ row, q < 4) {s : Sg} (ho : s.ok h.length) (hs : Sg.tx s) {c : Str} (r : Reach h row s c) : short 20 c := by
  obtain ⟨m, e⟩ := r
  have := tx_again wf ht hr (m := m) ho hs
  rw [e] at this
  exact this
theorem repr_opt {r : Option Str} (h : ∀ c, r = some c → short 20 c) : ∃ x, ∀ S, bRepr [optD r] S = .val (.str x) S := by
  cases r with
  | none => exact ⟨"None", fun S => rfl⟩
  | some c =>
    refine ⟨reprText c, fun S => ?_⟩
    simp only [optD, bRepr]
    rw [if_pos (short_repr (h c rfl) (by omega))]
theorem opt_ext {r r' : Option Str} (h : ∀ c, r = some c ↔ r' = some c) : r = r' := by
  cases r with
  | none =>
    cases r' with
    | none => rfl
    | some c => exact ((h c).mpr rfl)
  | some c => exact ((h c).mp rfl).symm
/-- where a sight is like its own part, what is reached is its whole -/
theorem reach_whole (wf : WF h) (F : Fin h (wls h) mk) {a : List Nat} (hn : a ≠ []) (ha : ∀ q ∈ a, q < 4) (ho : s.ok h.length) (e : mv (wls h) mk (sightAt h s a) = mv (wls h) mk s) {r : Option Str} (hr : ∀ c, r = some c ↔ Reach h a s c) : r = whBy (wls h) s := by
  refine opt_ext fun c => (hr c).trans ⟨fun ⟨m, hm⟩ => ?_, fun hw => ⟨_, again_whole wf hn ha ho hw⟩⟩
  have all : ∀ m, mv (wls h) mk (again h a m s) = mv (wls h) mk s := by
    intro m
    induction m with
    | zero => rfl
    | succ m ih =>
      rw [again_succ]
      exact (F.row wf ha (again_ok wf ha ho) ho ih).trans e
  have := all m
  rw [hm] at this
  exact mv_inl (this.symm.trans rfl)
end
end L80
set_option Elab.async false
set_option linter.all false
set_option maxRecDepth 100000
set_option maxHeartbeats 1000000
/-! N14: spirals, whole. -/
namespace L80
open Z Pg
open PySem (Str sizeLine reprText Txt.join PyData)
open L2 (atI ixN)
section
variable {b : Nat} {S S0 : Sto} {h : House} {path : List Nat} {tour : Nat} {s : Sg} {mk : Nat → Nat → Nat}
/-- a row of quarters, taken -/
theorem take_row {it : Rho → M Src} {own : List Nat} {i : Nat} {ρ : Rho} {n : Nat} {S1 : Sto} (hb : Bx b S1) (hf : it ρ S = .val (always (rangeD n)) S1) (hn : n ≤ 10) (h0 : ∀ d : D, ((wipeR ρ own).set i (some d))[0]? = some (some (.ref b))) :
    ∃ (r : List Nat) (S2 : Sto), eCall bTuple (aCons (eFin finL (eComp it own (tName i) bYes (eCall f__law_take (aCons (eVar 0) (aCons (eC (.int 4)) aNil))))) aNil) ρ S = .val (rowD r) S2 ∧ Bk b S1 S2 ∧ r.length = n ∧ ∀ q ∈ r, q < 4 := by
  obtain ⟨r, S2, e, bk, hl, hm⟩ := lc_inv (it := it) (own := own) (g := tName i) (e := eCall f__law_take (aCons (eVar 0) (aCons (eC (.int 4)) aNil))) (ρ := ρ) (S := S) (fun (q : Nat) => D.int (q : Int)) (fun _ q => q < 4) (fun S' => Bk b S1 S') hf (by simp; omega) (fun _ _ => True.intro) (Bk.refl hb) (fun d hd S hS => by
    obtain ⟨q, S', e, hq, bk⟩ := take_n hS.1 (n := 4) (by omega) (by omega)
    exact ⟨_, S, q, S', rfl, call_n (cons_n (var_n (h0 d)) (cons_n rfl nil_n)) e, hS.trans bk, hq⟩)
  rw [always_items, rangeD_len] at hl
  exact ⟨r, S2, call_n (cons_n e nil_n) bTuple_lst, bk, hl, fun q hq => (hm q hq).elim fun _ h => h.2⟩
noncomputable def tA : Rho → M Fl := (sIf (bOr (bVal (eOp opNe (eVar 8) (eC (.int 0)))) (bVal (eOp opNotIn (eVar 9) (eTup (aCons (eC (.int 1)) (aCons (eC (.int 2)) (aCons (eC (.int 4)) aNil))))))) (sRet (eC (.bl false))) sSkip)
theorem tA_n {x5 x6 x10 : Option D} {a : List Nat} {m : Nat} (h4 : m = 1 ∨ m = 2 ∨ m = 4) : tA (R12 b h s path tour x5 x6 a 0 m x10) S = .val (.nx (R12 b h s path tour x5 x6 a 0 m x10)) S := by
  refine if_f (S' := S) ?_ skip_n
  have e1 : bVal (eOp opNe (eVar 8) (eC (.int 0))) (R12 b h s path tour x5 x6 a 0 m x10) S = .val false S := bval_n (op_n (var_n rfl) rfl opNe_int)
  rw [bOr, e1, bind_val, if_neg (by simp)]
  refine bval_n (op_n (var_n rfl) (tup_n (cons_n rfl (cons_n rfl (cons_n rfl nil_n)))) ?_)
  rcases h4 with rfl | rfl | rfl <;> rfl
noncomputable def tB : Rho → M Fl := (sAsg (eTup (aCons (eCall bTuple (aCons (eFin finL (eComp (iRng1 (aCons (eCall f__law_take (aCons (eVar 0) (aCons (eC (.int 5)) aNil))) aNil)) [10] (tName 10) bYes (eCall f__law_take (aCons (eVar 0) (aCons (eC (.int 4)) aNil))))) aNil)) (aCons (eTup (aCons (eCall f__law_take (aCons (eVar 0) (aCons (eC (.int 4)) aNil))) (aCons (eCall f__law_take (aCons (eVar 0) (aCons (eC (.int 4)) aNil))) aNil))) aNil))) (tName 6))
theorem tB_n (bx : Bx b S) {x5 x6 x10 : Option D} {a : List Nat} {dn m : Nat} : ∃ (r : List Nat) (u v : Nat) (S' : Sto), tB (R12 b h s path tour x5 x6 a dn m x10) S = .val (.nx (R12 b h s path tour x5 (some (.tup [rowD r, rowD [u, v]])) a dn m x10)) S' ∧ Bk b S S' ∧ r.length ≤ 5 ∧ (∀ q ∈ r, q < 4) ∧ u < 4 ∧ v < 4 := by
  obtain ⟨n, S1, e1, hn, bk1⟩ := take_n bx (n := 5) (by omega) (by omega)
  obtain ⟨r, S2, e2, bk2, hl, hr⟩ := take_row (S1 := S1) (it := iRng1 (aCons (eCall f__law_take (aCons (eVar 0) (aCons (eC (.int 5)) aNil))) aNil)) (own := [10]) (i := 10) (ρ := R12 b h s path tour x5 x6 a dn m x10) bk1.1 (S := S) (n := n) (rng1_n (S := S) (S' := S1) (n := n) (cons_n (call_n (cons_n (var_n rfl) (cons_n rfl nil_n)) e1) nil_n) (by omega)) (by omega) (fun d => rfl)
  have bkA := bk1.trans bk2
  obtain ⟨u, S3, e3, hu, bk3⟩ := take_n bkA.1 (n := 4) (by omega) (by omega)
  obtain ⟨v, S4, e4, hv, bk4⟩ := take_n bk3.1 (n := 4) (by omega) (by omega)
  exact ⟨r, u, v, S4, asg_n (i := 6) (tup_n (cons_n e2 (cons_n (tup_n (cons_n (call_n (cons_n (var_n rfl) (cons_n rfl nil_n)) e3) (cons_n (call_n (cons_n (var_n rfl) (cons_n rfl nil_n)) e4) nil_n))) nil_n))), bkA.trans (bk3.trans bk4), by omega, hr, hu, hv⟩
noncomputable def tC : Rho → M Fl := (sIf (bVal (eOp opNe (eCall bRepr (aCons (eCall f_colour_at (aCons (eVar 1) (aCons (eVar 2) (aCons (eTup (aCons (eOp opAdd (eVar 7) (eOp opIx (eVar 6) (eC (.int 0)))) (aCons (eOp opIx (eVar 6) (eC (.int 1))) aNil))) aNil)))) aNil)) (eCall bRepr (aCons (eCall f_colour_at (aCons (eVar 1) (aCons (eVar 2) (aCons (eVar 6) aNil)))) aNil)))) (sRet (eC (.bl false))) sSkip)
theorem tC_n (wf : WF h) (hl : h.length ≤ 400) (ht : HT h) (ho : s.ok h.length) (hs : Sg.tx s) {a r : List Nat} {u v : Nat} (ha : ∀ q ∈ a, q < 4) (hla : a.length ≤ 1000) (hr : ∀ q ∈ r, q < 4) (hlr : r.length ≤ 5) (hu : u < 4) (hv : v < 4) (F : Fin h (wls h) mk) (e : mv (wls h) mk (sightAt h s a) = mv (wls h) mk s) (bx : Bx b S) {x5 x10 : Option D} {dn m : Nat} :
    ∃ S', tC (R12 b h s path tour x5 (some (.tup [rowD r, rowD [u, v]])) a dn m x10) S = .val (.nx (R12 b h s path tour x5 (some (.tup [rowD r, rowD [u, v]])) a dn m x10)) S' ∧ Bk b S S' := by
  have huv : ∀ q ∈ [u, v], q < 4 := fun q hq => by
    simp at hq
    rcases hq with rfl | rfl
    · exact hu
    · exact hv
  have har : ∀ q ∈ a ++ r, q < 4 := fun q hq => (List.mem_append.mp hq).elim (ha q) (hr q)
  obtain ⟨S1, r1, e1, x1, h1⟩ := f_colour_at_n (S := S) wf hl har huv ho
  obtain ⟨S2, r2, e2, x2, h2⟩ := f_colour_at_n (S := S1) wf hl hr huv ho
  have er : r1 = r2 := opt_ext fun c => by
    rw [h1 c, h2 c, sightAt_append]
    exact F.reach wf (by simp) huv (sightAt_ok wf hr (sightAt_ok wf ha ho)) (sightAt_ok wf hr ho) (F.row wf hr (sightAt_ok wf ha ho) ho e)
  subst er
  obtain ⟨x, hx⟩ := repr_opt (r := r1) fun c hc => short_reach wf ht huv (sightAt_ok wf hr ho) (tx_row wf ht hr ho hs) ((h2 c).mp hc)
  refine ⟨S2, if_f (bval_n (op_n (call_n (cons_n (call_n (cons_n (var_n rfl) (cons_n (var_n rfl) (cons_n (tup_n (cons_n (op_n (var_n rfl) (op_n (var_n rfl) rfl (opIx_tup (d := rowD r) rfl)) (add_row (by omega))) (cons_n (op_n (var_n rfl) rfl (opIx_tup (d := rowD [u, v]) rfl)) nil_n))) nil_n))) e1) nil_n) (hx S1)) (call_n (cons_n (call_n (cons_n (var_n rfl) (cons_n (var_n rfl) (cons_n (var_n rfl) nil_n))) e2) nil_n) (hx S2)) ?_)) skip_n, ?_⟩
  · rw [opNe_str, decide_eq_true rfl]; rfl
  · have k1 := Bk.ext bx x1
    exact k1.trans (Bk.ext k1.1 x2)
noncomputable def tD : Rho → M Fl := (sIf (bNot (bVal (eCall (f__law_same 4) (aCons (eCall f_drawn (aCons (eVar 1) (aCons (eCall f_sight_at (aCons (eVar 1) (aCons (eVar 2) (aCons (eVar 7) aNil)))) (aCons (eC (.int 2)) aNil)))) (aCons (eCall f_drawn (aCons (eVar 1) (aCons (eVar 2) (aCons (eC (.int 2)) aNil)))) aNil))))) (sRet (eC (.bl false))) sSkip)
theorem tD_n (wf : WF h) (hl : h.length ≤ 400) (ho : s.ok h.length) {a : List Nat} (ha : ∀ q ∈ a, q < 4) (F : Fin h (wls h) mk) (e : mv (wls h) mk (sightAt h s a) = mv (wls h) mk s) {x5 x6 x10 : Option D} {dn m : Nat} :
    tD (R12 b h s path tour x5 x6 a dn m x10) S = .val (.nx (R12 b h s path tour x5 x6 a dn m x10)) S := by
  have g := grid_cong wf F 2 (sightAt_ok wf ha ho) ho e
  have d1 := f_drawn_n (S := S) wf hl (sightAt_ok wf ha ho) (d := 2) (by omega)
  have d2 := f_drawn_n (S := S) wf hl ho (d := 2) (by omega)
  rw [g] at d1
  have c : bVal (eCall (f__law_same 4) (aCons (eCall f_drawn (aCons (eVar 1) (aCons (eCall f_sight_at (aCons (eVar 1) (aCons (eVar 2) (aCons (eVar 7) aNil)))) (aCons (eC (.int 2)) aNil)))) (aCons (eCall f_drawn (aCons (eVar 1) (aCons (eVar 2) (aCons (eC (.int 2)) aNil)))) aNil))) (R12 b h s path tour x5 x6 a dn m x10) S = .val true S :=
    bval_n (call_n (cons_n (call_n (cons_n (var_n rfl) (cons_n (call_n (cons_n (var_n rfl) (cons_n (var_n rfl) (cons_n (var_n rfl) nil_n))) (f_sight_at_n wf ha ho S)) (cons_n rfl nil_n))) d1) (cons_n (call_n (cons_n (var_n rfl) (cons_n (var_n rfl) (cons_n rfl nil_n))) d2) nil_n)) (same_grid (shape_grid h 2 s) (by decide) (by decide)))
  exact if_f (by rw [bNot, c]; rfl) skip_n
noncomputable def tE : Rho → M Fl := (sRet (eCall (f__law_same 4) (aCons (eCall f_colour_at (aCons (eVar 1) (aCons (eVar 2) (aCons (eTup (aCons (eTup aNil) (aCons (eVar 7) aNil))) aNil)))) (aCons (eCall f_whole_of (aCons (eVar 1) (aCons (eVar 2) aNil))) aNil))))
theorem tE_n (wf : WF h) (hl : h.length ≤ 400) (ho : s.ok h.length) {a : List Nat} (hn : a ≠ []) (ha : ∀ q ∈ a, q < 4) (F : Fin h (wls h) mk) (e : mv (wls h) mk (sightAt h s a) = mv (wls h) mk s) (bx : Bx b S) {x5 x6 x10 : Option D} {dn m : Nat} :
    ∃ S', tE (R12 b h s path tour x5 x6 a dn m x10) S = .val (.ret (.bl true)) S' ∧ Bk b S S' := by
  obtain ⟨S1, r, e1, x1, h1⟩ := f_colour_at_n (S := S) wf hl (row := []) (fun q hq => nomatch hq) ha ho
  obtain ⟨S2, e2, x2⟩ := f_whole_of_n (S := S1) wf hl ho
  have er := reach_whole wf F hn ha ho e h1
  subst er
  have k1 := Bk.ext bx x1
  exact ⟨S2, ret_n (call_n (cons_n (call_n (cons_n (var_n rfl) (cons_n (var_n rfl) (cons_n (tup_n (cons_n (tup_n nil_n) (cons_n (var_n rfl) nil_n))) nil_n))) e1) (cons_n (call_n (cons_n (var_n rfl) (cons_n (var_n rfl) nil_n)) e2) nil_n)) (same_opt 3 _)), k1.trans (Bk.ext k1.1 x2)⟩
theorem f_spiral_n (wf : WF h) (hl : h.length ≤ 400) (hT : HT h) (ho : s.ok h.length) (hs : Sg.tx s) (hn : path ≠ []) (hr : ∀ q ∈ path, q < 4) (hp : path.length ≤ 10) (ht : tour < 8) (ak : Alike h (sightAt h s path) (s.turn tour)) (bx : Bx b S) :
    ∃ S', f__law_spiral_right [.ref b, hsD h, sgD s, rowD path, .int tour] S = .val (.bl true) S' ∧ Bk b S S' := by
  obtain ⟨m, S1, x5, h4, h0, e1, bk1⟩ := loop_n wf hl ho hr hp ht ak bx
  obtain ⟨mk, F, ek⟩ := ak
  have e0 := along wf F hr ht ho ek (m + 1)
  rw [h0, turn_zero ho] at e0
  have ha := al_lt (path := path) hr ht (m + 1)
  have hla : (al path tour (m + 1)).length ≤ 1000 := by
    rw [al_len]
    exact Nat.le_trans (Nat.mul_le_mul (show m + 1 ≤ 4 by omega) hp) (by omega)
  have hna : al path tour (m + 1) ≠ [] := fun q => by
    have := al_len (path := path) (tour := tour) (m + 1)
    rw [q] at this
    have hpos : 0 < path.length := by cases path with | nil => exact absurd rfl hn | cons _ _ => simp
    have h2 := Nat.mul_pos (Nat.succ_pos m) hpos
    rw [List.length_nil] at this
    exact absurd (this ▸ h2) (Nat.lt_irrefl 0)
  have eA := tA_n (S := S1) (b := b) (h := h) (path := path) (tour := tour) (s := s) (x5 := x5) (x6 := none) (x10 := none) (a := al path tour (m + 1)) h4
  obtain ⟨r, u, v, S2, eB, bk2, hlr, hrr, hu, hv⟩ := tB_n (h := h) (path := path) (tour := tour) (s := s) (x5 := x5) (x6 := none) (x10 := none) (a := al path tour (m + 1)) (dn := 0) (m := m + 1) bk1.1
  obtain ⟨S3, eC, bk3⟩ := tC_n (path := path) (tour := tour) wf hl hT ho hs ha hla hrr hlr hu hv F e0 bk2.1 (x5 := x5) (x10 := none) (dn := 0) (m := m + 1)
  have eD := tD_n (S := S3) (b := b) (path := path) (tour := tour) wf hl ho ha F e0 (x5 := x5) (x6 := some (.tup [rowD r, rowD [u, v]])) (x10 := none) (dn := 0) (m := m + 1)
  obtain ⟨S4, eE, bk4⟩ := tE_n (path := path) (tour := tour) wf hl ho hna ha F e0 bk3.1 (x5 := x5) (x6 := some (.tup [rowD r, rowD [u, v]])) (x10 := none) (dn := 0) (m := m + 1)
  exact ⟨S4, fn_ret (seq_nx (ρ' := R12 b h s path tour none none [] 0 0 none) rfl (seq_nx e1 (seq_nx eA (seq_nx eB (seq_nx eC (seq_nx eD eE)))))), bk1.trans (bk2.trans (bk3.trans bk4))⟩
end
end L80
set_option Elab.async false
set_option linter.all false
set_option maxRecDepth 100000
set_option maxHeartbeats 1000000
/-! N15: a picture. -/
namespace L80
open Z Pg
open PySem (Str sizeLine reprText Txt.join PyData)
open L2 (atI ixN)
section
variable {b : Nat} {S S0 : Sto} {h : House} {s : Sg} {p t : Nat}
def R15 (b : Nat) (h : House) (s : Sg) (W : List (List Nat × Nat)) (x4 x5 x6 x7 : Option D) : Rho := [some (.ref b), some (hsD h), some (sgD s), some (.lst (W.map wyD)), x4, x5, x6, x7]
theorem okP_row (l : List Nat) : okP 1 (toP (rowD l)) := by
  unfold rowD toP
  refine okP_tup (k := 0) fun x hx => ?_
  obtain ⟨y, hy, rfl⟩ := List.mem_map.mp hx
  obtain ⟨q, _, rfl⟩ := List.mem_map.mp hy
  unfold toP
  exact okP_int _
theorem okP_wy (x : List Nat × Nat) : okP 2 (toP (wyD x)) := by
  unfold wyD toP
  refine okP_tup (k := 1) fun y hy => ?_
  simp only [List.map_cons, List.map_nil, List.mem_cons, List.not_mem_nil, or_false] at hy
  rcases hy with rfl | rfl
  · exact okP_row x.1
  · unfold toP; exact okP_int _
/-- some of the ways -/
noncomputable def pA : Rho → M Fl := (sAsg (eFin finL (eComp (iRng1 (aCons (eOp opMul (eC (.int 2)) (eCall bInt (aCons (eOp opNe (eVar 3) (eLst aNil)) aNil))) aNil)) [6] (tName 6) bYes (eOp opIx (eVar 3) (eCall f__law_take (aCons (eVar 0) (aCons (eCall bLen (aCons (eVar 3) aNil)) aNil)))))) (tName 4))
theorem pA_n {W : List (List Nat × Nat)} (hW : W.length ≤ 300) (bx : Bx b S) {x4 x5 x6 x7 : Option D} : ∃ (V : List (List Nat × Nat)) (S' : Sto), pA (R15 b h s W x4 x5 x6 x7) S = .val (.nx (R15 b h s W (some (.lst (V.map wyD))) x5 x6 x7)) S' ∧ Bk b S S' ∧ V.length ≤ 2 ∧ ∀ x ∈ V, x ∈ W := by
  have ne : ∀ S : Sto, opNe (.lst (W.map wyD)) (.lst []) S = .val (.bl (!(W.map wyD).isEmpty)) S := fun S => opNe_nil (k := 2) rfl rfl (fun x hx => by
    obtain ⟨y, _, rfl⟩ := List.mem_map.mp hx
    exact okP_wy y) (by omega)
  have m2 : ∀ j : Nat, opMul (.int 2) (.int (j : Nat)) S = .val (.int ((2 * j : Nat) : Int)) S := fun j => by
    rw [opMul_int, if_pos (mulOk_l (by omega) (by omega))]
    rfl
  obtain ⟨j, hj, hj0, ej⟩ : ∃ j : Nat, j ≤ 1 ∧ (0 < j → W ≠ []) ∧ bInt [.bl (!(W.map wyD).isEmpty)] S = .val (.int (j : Nat)) S := by
    cases W with
    | nil => exact ⟨0, by omega, fun h => absurd h (Nat.lt_irrefl 0), rfl⟩
    | cons x r => exact ⟨1, by omega, fun _ => by simp, rfl⟩
  obtain ⟨V, S', e, bk, hl, hm⟩ := lc_inv (it := iRng1 (aCons (eOp opMul (eC (.int 2)) (eCall bInt (aCons (eOp opNe (eVar 3) (eLst aNil)) aNil))) aNil)) (own := [6]) (g := tName 6) (e := eOp opIx (eVar 3) (eCall f__law_take (aCons (eVar 0) (aCons (eCall bLen (aCons (eVar 3) aNil)) aNil)))) (ρ := R15 b h s W x4 x5 x6 x7) (S := S)
    wyD (fun _ x => x ∈ W) (fun S' => Bk b S S') (rng1_n (S := S) (S' := S) (n := 2 * j) (cons_n (op_n rfl (call_n (cons_n (op_n (var_n rfl) (lst_n nil_n) (ne S)) nil_n) ej) (m2 j)) nil_n) (by omega)) (by simp; omega) (fun _ _ => True.intro) (Bk.refl bx) (fun d hd S1 hS => by
      rw [always_items] at hd
      obtain ⟨i, hi, rfl⟩ := rangeD_mem hd
      have hne : W ≠ [] := hj0 (by omega)
      have hpos : 0 < W.length := by cases W with | nil => exact absurd rfl hne | cons _ _ => simp
      obtain ⟨q, S2, e, hq, bk⟩ := take_n hS.1 hpos (by omega)
      have bl : bLen [.lst (W.map wyD)] S1 = .val (.int (W.length : Nat)) S1 := by rw [bLen_lst, List.length_map]
      exact ⟨_, S1, W[q], S2, rfl, op_n (var_n rfl) (call_n (cons_n (var_n rfl) (cons_n (call_n (cons_n (var_n rfl) nil_n) bl) nil_n)) e) (opIx_lst (by rw [atI_nat, List.getElem?_map, List.getElem?_eq_getElem hq]; rfl)), hS.trans bk, List.getElem_mem hq⟩)
  rw [always_items, rangeD_len] at hl
  exact ⟨V, S', asg_n (i := 4) e, bk, by omega, fun x hx => (hm x hx).elim fun _ q => q.2⟩
end
end L80
set_option Elab.async false
set_option linter.all false
set_option maxRecDepth 100000
set_option maxHeartbeats 1000000
local macro_rules | `(tactic| boot_fact) => `(tactic| first | with_reducible refine Z.Ru.use ?_ | ((with_reducible refine Z.side_i ?_ ?_); focus (first | omega | with_reducible assumption | exact Z.mulOk_l (by omega) (by omega) | exact Z.mulOk_r (by omega) (by omega) | (simp only [Z.rangeD_len, List.length_map, List.length_cons, List.length_nil, Z.enums, List.length_zipIdx, List.length_append, List.length_replicate, Z.zips, List.length_zip]; first | done | omega) | (refine Nat.le_trans Z.cutL_len ?_; simp only [List.length_map]; first | (refine Nat.le_trans (List.length_filter_le _ _) ?_; simp; done) | omega) | (simp only [Z.isLs, Z.isDc, Z.isSt, Z.seqL, Z.dictOf, *, Option.isSome]; done))) | ((with_reducible refine Z.w_tyQ (b := true) ?_ ?_); focus rfl) | ((with_reducible refine Z.w_tyQ (b := false) ?_ ?_); focus rfl))
/-! N16: a picture, whole. -/
namespace L80
open Z Pg
open PySem (Str sizeLine reprText Txt.join PyData)
open L2 (atI ixN)
section
variable {b : Nat} {S S0 : Sto} {h : House} {s : Sg} {p t : Nat}
theorem w_take {Q : D → Sto → Prop} (h : Bx b S) {n : Nat} (hn : 0 < n) (hz : n < 1000) (q : ∀ (r : Nat) S', r < n → Bk b S S' → Q (.int (r : Nat)) S') : W (f__law_take [.ref b, .int (n : Nat)] S) Q := by
  obtain ⟨r, S', e, hr, bk⟩ := take_n h hn hz
  exact w_of e (q r S' hr bk)
/-- a row of draws -/
theorem w_takes {i : Nat} {ρ : Rho} {n m : Nat} {T : List D → Sto → Prop} (hb : Bx b S) (hm : 0 < m) (hz : m < 1000) (h0 : ∀ d : D, (ρ.set i (some d))[0]? = some (some (.ref b))) {e : Rho → M D} (he : e = eCall f__law_take (aCons (eVar 0) (aCons (eC (.int (m : Nat))) aNil)))
    (q : ∀ (r : List Nat) S', r.length = n → (∀ x ∈ r, x < m) → Bk b S S' → T (r.map fun (x : Nat) => D.int (x : Int)) S') : W (compL (fun _ => True) (tName i) bYes e ρ (rangeD n) S) T := by
  refine w_compL (fun k acc S' => Bk b S S' ∧ ∃ r : List Nat, acc = r.map (fun (x : Nat) => D.int (x : Int)) ∧ r.length = k ∧ ∀ x ∈ r, x < m) ⟨Bk.refl hb, [], rfl, rfl, fun x hx => nomatch hx⟩ (fun _ _ _ _ => True.intro) ?_ ?_
  · rintro k d acc S1 hk ⟨bk, r, rfl, hl, hr⟩
    subst he
    (repeat (first | boot_fact | with_reducible refine w_sForQ ?_ | with_reducible refine w_forQ ?_))
    refine w_tName ?_
    (repeat (first | boot_fact | with_reducible refine w_sForQ ?_ | with_reducible refine w_forQ ?_))
    refine w_eVar (h0 d) ?_
    (repeat (first | boot_fact | with_reducible refine w_sForQ ?_ | with_reducible refine w_forQ ?_))
    refine w_take bk.1 hm hz fun x S2 hx bk2 => ?_
    refine ⟨bk.trans bk2, r ++ [x], by simp, by simp [hl], fun y hy => ?_⟩
    rcases List.mem_append.mp hy with hy | hy
    · exact hr y hy
    · simp at hy; omega
  · rintro acc S1 ⟨bk, r, rfl, hl, hr⟩
    exact q r S1 (by rw [hl, rangeD_len]) hr bk
theorem f_pic_n (wf : WF h) (hl : h.length ≤ 400) (hT : HT h) (ho : s.ok h.length) (hs : Sg.tx s) (bx : Bx b S) : W (f__law_pic_right [.ref b, hsD h, sgD s] S) fun d S' => d = .bl true ∧ Bk b S S' := by
  unfold f__law_pic_right b__law_pic_right
  cases s with
  | col x =>
    unfold sgD
    (repeat (first | boot_fact | with_reducible refine w_sForQ ?_ | with_reducible refine w_forQ ?_))
    exact ⟨rfl, Bk.refl bx⟩
  | pan p t =>
    (repeat (first | boot_fact | with_reducible refine w_sForQ ?_ | with_reducible refine w_forQ ?_))
    obtain ⟨Wy, eW, hWl, hW⟩ := f_rows_to_n (S := S) wf ho
    refine w_of eW ?_
    (repeat (first | boot_fact | with_reducible refine w_sForQ ?_ | with_reducible refine w_forQ ?_))
    refine w_of (opNe_nil (k := 2) rfl rfl (fun x hx => by
      obtain ⟨y, _, rfl⟩ := List.mem_map.mp hx
      exact okP_wy y) (by omega)) ?_
    (repeat (first | boot_fact | with_reducible refine w_sForQ ?_ | with_reducible refine w_forQ ?_))
    generalize hj : (if (!(List.map wyD Wy).isEmpty) = true then (1 : Int) else 0) = j
    have hj2 : (j = 0 ∨ j = 1) ∧ (j ≠ 0 → Wy ≠ []) := by
      subst hj
      cases Wy <;> simp
    (repeat (first | boot_fact | with_reducible refine w_sForQ ?_ | with_reducible refine w_forQ ?_))
    refine w_compP wyD (fun _ x => x ∈ Wy) (fun S' => Bk b S S') (fun _ _ => True.intro) (Bk.refl bx) (fun d hd S1 hS => ?_) fun V S1 bk1 hVl hV => ?_
    · obtain ⟨i, hi, rfl⟩ := rangeD_mem hd
      have hne : Wy ≠ [] := hj2.2 (by omega)
      have hpos : 0 < Wy.length := by cases Wy with | nil => exact absurd rfl hne | cons _ _ => simp
      (repeat (first | boot_fact | with_reducible refine w_sForQ ?_ | with_reducible refine w_forQ ?_))
      refine w_take hS.1 hpos (by omega) fun q S2 hq bk => ?_
      refine w_ix_l (d := wyD Wy[q]) (by rw [atI_nat, List.getElem?_map, List.getElem?_eq_getElem hq]; rfl) ⟨hS.trans bk, _, rfl, List.getElem_mem hq⟩
    simp only [rangeD_len] at hVl
    (repeat (first | boot_fact | with_reducible refine w_sForQ ?_ | with_reducible refine w_forQ ?_))
    refine w_take (n := 3) bk1.1 (by omega) (by omega) fun n S2 hn bk2 => ?_
    (repeat (first | boot_fact | with_reducible refine w_sForQ ?_ | with_reducible refine w_forQ ?_))
    refine w_takes (m := 4) bk2.1 (by omega) (by omega) (fun _ => rfl) rfl fun r S3 hrl hr bk3 => ?_
    (repeat (first | boot_fact | with_reducible refine w_sForQ ?_ | with_reducible refine w_forQ ?_))
    have hr' : rowD r = .tup (r.map fun (x : Nat) => D.int (x : Int)) := rfl
    rw [← hr']
    refine w_of (f_sight_at_n wf hr ho _) ?_
    (repeat (first | boot_fact | with_reducible refine w_sForQ ?_ | with_reducible refine w_forQ ?_))
    have hpo := sightAt_ok wf hr ho
    obtain ⟨S4, mk, e4, F, x4⟩ := f_turns_between_n (S := S3) wf hl ho hpo
    refine w_of e4 ?_
    (repeat (first | boot_fact | with_reducible refine w_sForQ ?_ | with_reducible refine w_forQ ?_))
    rw [cutL_map]
    refine w_comp1 (fun d => .tup [rowD r, d]) True.intro (fun d hd => by (repeat (first | boot_fact | with_reducible refine w_sForQ ?_ | with_reducible refine w_forQ ?_)); exact ⟨rfl, rfl⟩) ?_
    (repeat (first | boot_fact | with_reducible refine w_sForQ ?_ | with_reducible refine w_forQ ?_))
    rw [List.map_map]
    generalize hU : cutL _ _ _ = U
    have hUm : ∀ x ∈ U, x < 8 ∧ mv (wls h) mk (Sg.turn (.pan p t) x) = mv (wls h) mk (sightAt h (.pan p t) r) := fun x hx => by
      subst hU
      have := List.mem_filter.mp (cutL_mem hx)
      exact ⟨List.mem_range.mp this.1, of_decide_eq_true this.2⟩
    have hUl : U.length ≤ 8 := by
      subst hU
      refine Nat.le_trans cutL_len (Nat.le_trans (List.length_filter_le _ _) (by simp))
    have eU : (U.map fun (x : Nat) => wyD (r, x)) = U.map ((fun d => D.tup [rowD r, d]) ∘ fun (t : Nat) => D.int (t : Int)) := rfl
    rw [← eU]
    refine side_i (by simp; omega) ?_
    (repeat (first | boot_fact | with_reducible refine w_sForQ ?_ | with_reducible refine w_forQ ?_))
    have bk4 := bk3.1
    have bkA := ((bk1.trans bk2).trans bk3).trans (Bk.ext bk3.1 x4)
    refine w_allT (fun S' => Bk b S S') (fun _ _ => True.intro) bkA (fun d hd S5 hS => ?_) fun S5 hS => ?_
    · have : ∃ x : List Nat × Nat, d = wyD x ∧ x.1 ≠ [] ∧ (∀ q ∈ x.1, q < 4) ∧ x.1.length ≤ 10 ∧ x.2 < 8 ∧ Alike h (sightAt h (.pan p t) x.1) (Sg.turn (.pan p t) x.2) := by
        rcases List.mem_append.mp hd with hd | hd
        · obtain ⟨x, hx, rfl⟩ := List.mem_map.mp hd
          obtain ⟨_, _, hx⟩ := hV x hx
          obtain ⟨h1, h2, h3, h4, h5⟩ := hW x hx
          exact ⟨x, rfl, h1, h3, by omega, h4, mk, F, by rw [h5]⟩
        · obtain ⟨x, hx, rfl⟩ := List.mem_map.mp hd
          have := hUm x hx
          refine ⟨(r, x), rfl, ?_, hr, by simp only [hrl]; omega, this.1, mk, F, this.2.symm⟩
          intro e
          simp only at e
          rw [e] at hrl
          simp at hrl
          omega
      obtain ⟨x, rfl, h1, h2, h3, h4, h5⟩ := this
      unfold wyD
      (repeat (first | boot_fact | with_reducible refine w_sForQ ?_ | with_reducible refine w_forQ ?_))
      obtain ⟨S6, e6, bk6⟩ := f_spiral_n (S := S5) wf hl hT ho hs h1 h2 h3 h4 h5 hS.1
      exact w_of e6 ⟨hS.trans bk6, rfl⟩
    (repeat (first | boot_fact | with_reducible refine w_sForQ ?_ | with_reducible refine w_forQ ?_))
    refine w_allR ?_
    (repeat (first | boot_fact | with_reducible refine w_sForQ ?_ | with_reducible refine w_forQ ?_))
    exact ⟨rfl, hS⟩
end
end L80
set_option Elab.async false
set_option linter.all false
set_option maxRecDepth 100000
set_option maxHeartbeats 1000000

/-! N17: a box's pictures; the law. -/
namespace L80
open Z Pg
open PySem (Str sizeLine reprText Txt.join PyData)
open L2 (atI ixN)
section
variable {b : Nat} {S S0 : Sto} {h : House} {s : Sg} {p t : Nat}
theorem ok_mono {m n : Nat} (hmn : m ≤ n) : ∀ {s : Sg}, s.ok m → s.ok n
  | .col _, _ => True.intro
  | .pan _ _, h => ⟨Nat.lt_of_lt_of_le h.1 hmn, h.2⟩
theorem wf_add (wf : WF h) {r : List Sg} (hr : r.length = 4) (ho : ∀ s ∈ r, s.ok (h.length + 1)) : WF (h ++ [r]) := by
  intro x hx
  rw [List.length_append, List.length_singleton]
  rcases List.mem_append.mp hx with hx | hx
  · exact ⟨(wf x hx).1, fun s hs => ok_mono (by omega) ((wf x hx).2 s hs)⟩
  · rw [List.mem_singleton] at hx
    subst hx
    exact ⟨hr, ho⟩
theorem ht_add (hT : HT h) {r : List Sg} (ho : ∀ s ∈ r, Sg.tx s) : HT (h ++ [r]) := by
  intro x hx
  rcases List.mem_append.mp hx with hx | hx
  · exact hT x hx
  · rw [List.mem_singleton] at hx
    subst hx
    exact ho
theorem w_sight {Q : D → Sto → Prop} {ns : List Str} (bx : Bx b S) (hn : NM ns) {n : Nat} (hz : n < 1000) (q : ∀ s S', s.ok n → Sg.tx s → Bk b S S' → Q (sgD s) S') : W (f__law_sight [.ref b, nmD ns, .int (n : Nat)] S) Q := by
  obtain ⟨s, S', e, h1, h2, h3⟩ := f_sight_n bx hn hz
  exact w_of e (q s S' h1 h2 h3)
theorem f_right_n (bx : Bx b S) : W (f__law_right [.ref b] S) fun d S' => d = .bl true ∧ Bk b S S' := by
  unfold f__law_right b__law_right
  (repeat (first | boot_fact | with_reducible refine w_sForQ ?_ | with_reducible refine w_forQ ?_))
  obtain ⟨ns, S1, e1, hn, bk1⟩ := f_names_n bx
  refine w_of e1 ?_
  (repeat (first | boot_fact | with_reducible refine w_sForQ ?_ | with_reducible refine w_forQ ?_))
  obtain ⟨hs, S2, e2, wf, hT, h0, h5, bk2⟩ := f_house_n bk1.1 hn
  refine w_of e2 ?_
  (repeat (first | boot_fact | with_reducible refine w_sForQ ?_ | with_reducible refine w_forQ ?_))
  have el : bLen [hsD hs] S2 = .val (.int (hs.length : Nat)) S2 := by unfold hsD; rw [bLen_tup, List.length_map]
  refine w_of el ?_
  (repeat (first | boot_fact | with_reducible refine w_sForQ ?_ | with_reducible refine w_forQ ?_))
  refine w_take (n := 8) bk2.1 (by omega) (by omega) fun t1 S3 ht1 bk3 => ?_
  (repeat (first | boot_fact | with_reducible refine w_sForQ ?_ | with_reducible refine w_forQ ?_))
  refine w_sight bk3.1 hn (by omega) fun s1 S4 hs1 hx1 bk4 => ?_
  (repeat (first | boot_fact | with_reducible refine w_sForQ ?_ | with_reducible refine w_forQ ?_))
  refine w_take (n := 3) bk4.1 (by omega) (by omega) fun k S5 hk bk5 => ?_
  obtain ⟨c1, ec1, hc1⟩ := name_at hn hk S5
  refine w_of ec1 ?_
  (repeat (first | boot_fact | with_reducible refine w_sForQ ?_ | with_reducible refine w_forQ ?_))
  obtain ⟨c2, ec2, hc2⟩ := name_at hn (show 0 < 3 by omega) S5
  refine w_of ec2 ?_
  (repeat (first | boot_fact | with_reducible refine w_sForQ ?_ | with_reducible refine w_forQ ?_))
  refine w_take (n := 4) bk5.1 (by omega) (by omega) fun co S6 hco bk6 => ?_
  (repeat (first | boot_fact | with_reducible refine w_sForQ ?_ | with_reducible refine w_forQ ?_))
  rw [cutL_drop, cutL_take]
  (repeat (first | boot_fact | with_reducible refine w_sForQ ?_ | with_reducible refine w_forQ ?_))
  refine side_i (by simp; omega) ?_
  (repeat (first | boot_fact | with_reducible refine w_sForQ ?_ | with_reducible refine w_forQ ?_))
  have er : List.drop co [D.tup [D.int (hs.length : Nat), D.int (t1 : Nat)], sgD s1, D.str c1, D.str c2] ++ List.take co [D.tup [D.int (hs.length : Nat), D.int (t1 : Nat)], sgD s1, D.str c1, D.str c2]
      = ([Sg.pan hs.length t1, s1, .col c1, .col c2].drop co ++ [Sg.pan hs.length t1, s1, .col c1, .col c2].take co).map sgD := by
    rw [List.map_append, List.map_drop, List.map_take]
    rfl
  rw [er]
  generalize hr : [Sg.pan hs.length t1, s1, .col c1, .col c2].drop co ++ [Sg.pan hs.length t1, s1, .col c1, .col c2].take co = r
  have hrm : ∀ s ∈ r, s ∈ [Sg.pan hs.length t1, s1, .col c1, .col c2] := fun s hs => by
    subst hr
    rcases List.mem_append.mp hs with q | q
    · exact List.mem_of_mem_drop q
    · exact List.mem_of_mem_take q
  have hrl : r.length = 4 := by subst hr; simp; omega
  have wf2 : WF (hs ++ [r]) := wf_add wf hrl fun s hs' => by
    have := hrm s hs'
    simp only [List.mem_cons, List.not_mem_nil, or_false] at this
    rcases this with rfl | rfl | rfl | rfl
    · exact ⟨by omega, ht1⟩
    · exact ok_mono (by omega) hs1
    · exact True.intro
    · exact True.intro
  have hT2 : HT (hs ++ [r]) := ht_add hT fun s hs' => by
    have := hrm s hs'
    simp only [List.mem_cons, List.not_mem_nil, or_false] at this
    rcases this with rfl | rfl | rfl | rfl
    · exact True.intro
    · exact hx1
    · exact hc1
    · exact hc2
  have eh : opAdd (hsD hs) (.tup [.tup (r.map sgD)]) S6 = .val (hsD (hs ++ [r])) S6 := by
    unfold hsD
    simp only [opAdd]
    rw [if_pos (szL (by simp; omega)), List.map_append]
    rfl
  refine w_of eh ?_
  (repeat (first | boot_fact | with_reducible refine w_sForQ ?_ | with_reducible refine w_forQ ?_))
  have hl2 : (hs ++ [r]).length = hs.length + 1 := by simp
  have bkA := bk1.trans (bk2.trans (bk3.trans (bk4.trans (bk5.trans bk6))))
  refine w_compP sgD (fun _ s => s.ok (hs ++ [r]).length ∧ Sg.tx s) (fun S' => Bk b S S') (fun _ _ => True.intro) bkA (fun d hd S7 hS => ?_) fun V S7 bk7 hVl hV => ?_
  · (repeat (first | boot_fact | with_reducible refine w_sForQ ?_ | with_reducible refine w_forQ ?_))
    have el : bLen [hsD (hs ++ [r])] S7 = .val (.int ((hs ++ [r]).length : Nat)) S7 := by unfold hsD; rw [bLen_tup, List.length_map]
    refine w_of el ?_
    (repeat (first | boot_fact | with_reducible refine w_sForQ ?_ | with_reducible refine w_forQ ?_))
    refine w_sight hS.1 hn (by omega) fun s S8 h1 h2 bk8 => ?_
    exact ⟨hS.trans bk8, s, rfl, h1, h2⟩
  simp only [rangeD_len] at hVl
  (repeat (first | boot_fact | with_reducible refine w_sForQ ?_ | with_reducible refine w_forQ ?_))
  refine w_take (n := 8) bk7.1 (by omega) (by omega) fun t2 S8 ht2 bk8 => ?_
  (repeat (first | boot_fact | with_reducible refine w_sForQ ?_ | with_reducible refine w_forQ ?_))
  have ep : [D.tup [D.int (hs.length : Nat), D.int (t2 : Nat)]] = [Sg.pan hs.length t2].map sgD := rfl
  rw [ep, ← List.map_append]
  (repeat (first | boot_fact | with_reducible refine w_sForQ ?_ | with_reducible refine w_forQ ?_))
  refine w_allT (fun S' => Bk b S S') (fun _ _ => True.intro) (bk7.trans bk8) (fun d hd S9 hS => ?_) fun S9 hS => ?_
  · obtain ⟨s, hs', rfl⟩ := List.mem_map.mp hd
    have : s.ok (hs ++ [r]).length ∧ Sg.tx s := by
      rcases List.mem_append.mp hs' with q | q
      · obtain ⟨_, _, h⟩ := hV s q
        exact h
      · rw [List.mem_singleton] at q
        subst q
        exact ⟨⟨by omega, ht2⟩, True.intro⟩
    (repeat (first | boot_fact | with_reducible refine w_sForQ ?_ | with_reducible refine w_forQ ?_))
    refine w_imp (f_pic_n wf2 (by omega) hT2 this.1 this.2 hS.1) ?_
    rintro d S10 ⟨rfl, bk10⟩
    exact ⟨hS.trans bk10, rfl⟩
  (repeat (first | boot_fact | with_reducible refine w_sForQ ?_ | with_reducible refine w_forQ ?_))
  refine w_allR ?_
  (repeat (first | boot_fact | with_reducible refine w_sForQ ?_ | with_reducible refine w_forQ ?_))
  exact ⟨rfl, hS⟩
/-! the box -/
theorem f_box_n {k i : Nat} {ds : List Int} {x : Int} (hS : S[k]? = some (.lst (ds.map D.int))) (hi : ds[i]? = some x) (hi2 : i < 1000) : W (f__law_box [.ref k, .int (i : Nat)] S) fun d S' => ∃ e, d = .ref S.length ∧ S' = S ++ [e] ∧ Bx S.length S' := by
  unfold f__law_box b__law_box
  (repeat (first | boot_fact | with_reducible refine w_sForQ ?_ | with_reducible refine w_forQ ?_))
  refine w_ix_r (d := .int x) hS (by rw [atI_nat, List.getElem?_map, hi]; rfl) ?_
  (repeat (first | boot_fact | with_reducible refine w_sForQ ?_ | with_reducible refine w_forQ ?_))
  have e10 : opPow (.int 10) (.int 18) S = .val (.int 1000000000000000000) S := by
    simp only [opPow]
    rw [if_pos ⟨by decide, by decide, by decide⟩]
    rfl
  refine w_of e10 ?_
  (repeat (first | boot_fact | with_reducible refine w_sForQ ?_ | with_reducible refine w_forQ ?_))
  generalize hz : (if decide (1000000000000000000 ≤ if x < 0 then -x else x) = true then (1 : Int) else 0) = z
  have hz2 : z = 0 ∨ z = 1 := by
    subst hz
    by_cases c : decide (1000000000000000000 ≤ if x < 0 then -x else x) = true
    · rw [if_pos c]; exact .inr rfl
    · rw [if_neg c]; exact .inl rfl
  generalize hy : (if x < 0 then -x else x) = y
  have hy2 : 0 ≤ y := by subst hy; split <;> omega
  (repeat (first | boot_fact | with_reducible refine w_sForQ ?_ | with_reducible refine w_forQ ?_))
  refine ⟨_, rfl, rfl, y * z, x % 2305843009213693951 + 15485863 * (i : Int) + 11, 0, ?_, ?_⟩
  · rcases hz2 with rfl | rfl <;> simp [hy2]
  · simp
theorem tru_ref {n : Nat} {ds : List D} (h : S[n]? = some (.lst ds)) : opTru (.ref n) S = .val (!ds.isEmpty) S := by
  simp only [opTru, truD, seqA, seqL, h]
theorem enums_at {ds : List D} {k : Nat} {d : D} (h : (enums ds)[k]? = some d) : ∃ e, ds[k]? = some e ∧ d = .tup [.int (k : Nat), e] := by
  unfold enums at h
  rw [List.getElem?_map, List.getElem?_zipIdx] at h
  cases e : ds[k]? with
  | none => rw [e] at h; cases h
  | some x =>
    rw [e] at h
    simp at h
    exact ⟨x, rfl, h.symm⟩
theorem f_cells_n {ns : List Int} (hl : ns.length ≤ 63) {m : Nat} (hm : 0 < m) (hm2 : m ≤ 10) : W (f__law_cells [.wl (ns.map D.int), .int (m : Nat)] S) fun d S' => ∃ (k : Nat) (ds : List Int), d = .ref k ∧ S'[k]? = some (.lst (ds.map D.int)) ∧ 1 ≤ ds.length ∧ ds.length ≤ m := by
  unfold f__law_cells b__law_cells
  (repeat (first | boot_fact | with_reducible refine w_sForQ ?_ | with_reducible refine w_forQ ?_))
  rw [cutL_take, ← List.map_take]
  have e1 : bListC [.lst ((ns.take m).map D.int)] S = .val (.ref S.length) (S ++ [.lst ((ns.take m).map D.int)]) := rfl
  refine w_of e1 ?_
  have h1 : (S ++ [Cel.lst ((ns.take m).map D.int)])[S.length]? = some (.lst ((ns.take m).map D.int)) := by simp
  refine w_of (tru_ref h1) ?_
  have main : ∀ (S1 : Sto) (c : Nat) (ds : List Int), S1[c]? = some (.lst (ds.map D.int)) → 1 ≤ ds.length → ds.length ≤ m → (m < ns.length → ds.length = m) → ∀ U : Fl → Sto → Prop, (∀ (x3 x4 : Option D) (ds : List Int) (S' : Sto), S'[c]? = some (.lst (ds.map D.int)) → 1 ≤ ds.length → ds.length ≤ m → U (.nx [some (.wl (ns.map D.int)), some (.int (m : Nat)), some (.ref c), x3, x4]) S') → W (sFor (iEnum (aCons (eSl (eVar 0) (oSome (eVar 1)) (oSome (eC (.int 63)))) aNil)) (tTupZ 2 (tsCons (tName 3) (tsCons (tName 4) tsNil))) (sAsg (eOp opAdd (eOp opIx (eVar 2) (eOp opMod (eVar 3) (eVar 1))) (eOp opMul (eVar 4) (eOp opAdd (eVar 3) (eC (.int 2))))) (tSub (eVar 2) (eOp opMod (eVar 3) (eVar 1)))) [some (.wl (ns.map D.int)), some (.int (m : Nat)), some (.ref c), none, none] S1) U := by
    intro S1 c ds hc hd1 hd2 hdm U hU
    (repeat (first | boot_fact | with_reducible refine w_sForQ ?_ | with_reducible refine w_forQ ?_))
    have hx : ∀ x ∈ cutL (ns.map D.int) (some (m : Int)) (some 63), x ∈ ns.map D.int ∧ m < ns.length := fun x hx => by
      refine ⟨cutL_mem hx, ?_⟩
      refine Classical.byContradiction fun hn => ?_
      have : cutL (ns.map D.int) (some (m : Int)) (some 63) = [] := by
        unfold cutL HT.sIx
        simp only
        rw [if_neg (show ¬ ((m : Int) < 0) by omega), show min ((m : Int).toNat) (ns.map D.int).length = (ns.map D.int).length by rw [List.length_map]; omega, List.drop_of_length_le (Nat.le_refl _), List.take_nil]
      rw [this] at hx
      cases hx
    refine w_forL (fun k ρ S' => ∃ (x3 x4 : Option D) (ds : List Int), ρ = [some (.wl (ns.map D.int)), some (.int (m : Nat)), some (.ref c), x3, x4] ∧ S'[c]? = some (.lst (ds.map D.int)) ∧ 1 ≤ ds.length ∧ ds.length ≤ m ∧ (m < ns.length → ds.length = m)) ⟨none, none, ds, rfl, hc, hd1, hd2, hdm⟩ (fun _ _ _ _ => True.intro) ?_ ?_
    · rintro k d ρ S2 hk ⟨x3, x4, ds, rfl, hc, hd1, hd2, hdm⟩
      obtain ⟨e, he, rfl⟩ := enums_at hk
      obtain ⟨h1, h2⟩ := hx e (List.mem_of_getElem? he)
      obtain ⟨x, _, rfl⟩ := List.mem_map.mp h1
      have hkl := (List.getElem?_eq_some_iff.mp he).1
      have hk63 : k ≤ 63 := by
        have := cutL_len (xs := ns.map D.int) (lo := some (m : Int)) (hi := some 63)
        rw [List.length_map] at this
        omega
      (repeat (first | boot_fact | with_reducible refine w_sForQ ?_ | with_reducible refine w_forQ ?_))
      have hi : k % m < ds.length := by rw [hdm h2]; exact Nat.mod_lt _ hm
      have em : ((k : Int) % (m : Int)) = ((k % m : Nat) : Int) := by simp
      rw [em]
      refine w_ix_r (d := .int ds[k % m]) hc (by rw [atI_nat, List.getElem?_map, List.getElem?_eq_getElem hi]; rfl) ?_
      (repeat (first | boot_fact | with_reducible refine w_sForQ ?_ | with_reducible refine w_forQ ?_))
      rw [em]
      refine w_set_l hc (by rw [List.length_map]; exact hi) ?_
      (repeat (first | boot_fact | with_reducible refine w_sForQ ?_ | with_reducible refine w_forQ ?_))
      have hcl := (List.getElem?_eq_some_iff.mp hc).1
      refine ⟨_, _, ds.set (k % m) (ds[k % m] + x * ((k : Int) + 2)), rfl, ?_, by simpa using hd1, by simpa using hd2, by simpa using hdm⟩
      rw [List.getElem?_set_self hcl, List.map_set]
    · rintro ρ S2 ⟨x3, x4, ds, rfl, hc, hd1, hd2, hdm⟩
      exact hU x3 x4 ds S2 hc hd1 hd2
  have hne : ns = [] ∨ ns ≠ [] := Classical.em _
  rcases hne with rfl | hne
  · rw [show (!((([] : List Int).take m).map D.int).isEmpty) = false by simp]
    (repeat boot_fact)
    refine main _ _ [0] ?_ (by simp) (by simp; omega) (by simp) _ ?_
    · simp
    · intro x3 x4 ds S' h1 h2 h3
      (repeat (first | boot_fact | with_reducible refine w_sForQ ?_ | with_reducible refine w_forQ ?_))
      exact ⟨_, ds, rfl, h1, h2, h3⟩
  · have : (!((ns.take m).map D.int).isEmpty) = true := by
      cases ns with
      | nil => exact absurd rfl hne
      | cons x r => cases m with
        | zero => omega
        | succ m => simp
    rw [this]
    (repeat boot_fact)
    refine main _ _ _ h1 ?_ (by simp; omega) (by simp; omega) _ ?_
    · cases ns with
      | nil => exact absurd rfl hne
      | cons x r => cases m with
        | zero => omega
        | succ m => simp
    · intro x3 x4 ds S' h1 h2 h3
      (repeat (first | boot_fact | with_reducible refine w_sForQ ?_ | with_reducible refine w_forQ ?_))
      exact ⟨_, ds, rfl, h1, h2, h3⟩
theorem f_law_n {ns : List Int} (hl : ns.length ≤ 63) : ∃ S', f_law [.wl (ns.map D.int)] [] = .val (.bl true) S' := by
  have main : W (f_law [.wl (ns.map D.int)] []) fun d S' => d = .bl true := by
    unfold f_law b_law
    (repeat (first | boot_fact | with_reducible refine w_sForQ ?_ | with_reducible refine w_forQ ?_))
    refine w_imp (f_cells_n (m := 2) hl (by omega) (by omega)) ?_
    rintro d S1 ⟨k, ds, rfl, hk, h1, h2⟩
    (repeat (first | boot_fact | with_reducible refine w_sForQ ?_ | with_reducible refine w_forQ ?_))
    refine w_len_rm hk ?_
    (repeat (first | boot_fact | with_reducible refine w_sForQ ?_ | with_reducible refine w_forQ ?_))
    refine w_allT (fun S' => S'[k]? = some (.lst (ds.map D.int))) (fun _ _ => True.intro) hk (fun d hd S2 hS => ?_) fun S2 hS => ?_
    · obtain ⟨i, hi, rfl⟩ := rangeD_mem hd
      (repeat (first | boot_fact | with_reducible refine w_sForQ ?_ | with_reducible refine w_forQ ?_))
      refine w_imp (f_box_n (x := ds[i]) hS (List.getElem?_eq_getElem hi) (by omega)) ?_
      rintro d S3 ⟨e, rfl, rfl, hb⟩
      (repeat (first | boot_fact | with_reducible refine w_sForQ ?_ | with_reducible refine w_forQ ?_))
      refine w_imp (f_right_n hb) ?_
      rintro d S4 ⟨rfl, bk⟩
      refine ⟨?_, rfl⟩
      have hk := (List.getElem?_eq_some_iff.mp hS).1
      rw [bk.2.2 k (by simp; omega) (by omega), List.getElem?_append_left hk]
      exact hS
    (repeat (first | boot_fact | with_reducible refine w_sForQ ?_ | with_reducible refine w_forQ ?_))
    refine w_allR ?_
    rfl
  obtain ⟨d, S', e, rfl⟩ := w_to main
  exact ⟨S', e⟩
end
end L80
set_option Elab.async false
set_option linter.all false
set_option maxRecDepth 100000
set_option maxHeartbeats 4000000

/-! the walk of k80: printed by a program -/
namespace L80
open PySem PySem.Spec PyProof.Rows L2 Z Pg
def top (i : Nat) : Stmt := PySem.Challenge.pw_wellpanes_k80_whole_spirals.main.body.getD i (.Pass ⟨0, 0, 0, 0⟩)
def d__law_box : He.DefD := ⟨("_law_box", none), "_law_box", "_law_box", defArgs (top 31), defBody (top 31), defScope (top 31), [], []⟩
theorem sc__law_box : FnScope ["cells", "k", "cell"] ["cells", "k"] (defScope (top 31)) := C8.fnScope_by (by decide +kernel)
def d__law_cells : He.DefD := ⟨("_law_cells", none), "_law_cells", "_law_cells", defArgs (top 33), defBody (top 33), defScope (top 33), [], []⟩
theorem sc__law_cells : FnScope ["script", "utmost", "cells", "k", "cell"] ["script", "utmost"] (defScope (top 33)) := C8.fnScope_by (by decide +kernel)
def d__law_seen : He.DefD := ⟨("_law_seen", none), "_law_seen", "_law_seen", defArgs (top 36), defBody (top 36), defScope (top 36), [], []⟩
theorem sc__law_seen : FnScope ["tour", "corner", "step", "x", "y"] ["tour", "corner"] (defScope (top 36)) := C8.fnScope_by (by decide +kernel)
def d__law_take : He.DefD := ⟨("_law_take", none), "_law_take", "_law_take", defArgs (top 32), defBody (top 32), defScope (top 32), [], []⟩
theorem sc__law_take : FnScope ["box", "amount", "blend", "found"] ["box", "amount"] (defScope (top 32)) := C8.fnScope_by (by decide +kernel)
def d__law_sight : He.DefD := ⟨("_law_sight", none), "_law_sight", "_law_sight", defArgs (top 40), defBody (top 40), defScope (top 40), [], []⟩
theorem sc__law_sight : FnScope ["box", "names", "amount"] ["box", "names", "amount"] (defScope (top 40)) := C8.fnScope_by (by decide +kernel)
def d__law_then : He.DefD := ⟨("_law_then", none), "_law_then", "_law_then", defArgs (top 37), defBody (top 37), defScope (top 37), [], []⟩
theorem sc__law_then : FnScope ["mine", "its", "step"] ["mine", "its"] (defScope (top 37)) := C8.fnScope_by (by decide +kernel)
def d__law_turned : He.DefD := ⟨("_law_turned", none), "_law_turned", "_law_turned", defArgs (top 38), defBody (top 38), defScope (top 38), [], []⟩
theorem sc__law_turned : FnScope ["pic", "tour"] ["pic", "tour"] (defScope (top 38)) := C8.fnScope_by (by decide +kernel)
def d__law_house : He.DefD := ⟨("_law_house", none), "_law_house", "_law_house", defArgs (top 41), defBody (top 41), defScope (top 41), [], []⟩
theorem sc__law_house : FnScope ["box", "names", "most", "pane", "amount", "found", "way", "pic", "tour", "number", "q"] ["box", "names", "most"] (defScope (top 41)) := C8.fnScope_by (by decide +kernel)
def d__law_names : He.DefD := ⟨("_law_names", none), "_law_names", "_law_names", defArgs (top 35), defBody (top 35), defScope (top 35), [], []⟩
theorem sc__law_names : FnScope ["box", "amount", "stem", "letters", "start", "k", "tour"] ["box", "amount"] (defScope (top 35)) := C8.fnScope_by (by decide +kernel)
def d__law_quarter : He.DefD := ⟨("_law_quarter", none), "_law_quarter", "_law_quarter", defArgs (top 39), defBody (top 39), defScope (top 39), [], []⟩
theorem sc__law_quarter : FnScope ["rooms", "pic", "q"] ["rooms", "pic", "q"] (defScope (top 39)) := C8.fnScope_by (by decide +kernel)
def d_behind : He.DefD := ⟨("behind", none), "behind", "behind", defArgs (top 4), defBody (top 4), defScope (top 4), [], []⟩
theorem sc_behind : FnScope ["one", "other", "steps"] ["one", "other"] (defScope (top 4)) := C8.fnScope_by (by decide +kernel)
def d_back : He.DefD := ⟨("back", none), "back", "back", defArgs (top 5), defBody (top 5), defScope (top 5), [], []⟩
theorem sc_back : FnScope ["turn", "other"] ["turn"] (defScope (top 5)) := C8.fnScope_by (by decide +kernel)
def d__law_rows_to : He.DefD := ⟨("_law_rows_to", none), "_law_rows_to", "_law_rows_to", defArgs (top 42), defBody (top 42), defScope (top 42), [], []⟩
theorem sc__law_rows_to : FnScope ["rooms", "pic", "deep", "found", "last", "later", "path", "here", "q"] ["rooms", "pic"] (defScope (top 42)) := C8.fnScope_by (by decide +kernel)
def d__law_same : He.DefD := ⟨("_law_same", none), "_law_same", "_law_same", defArgs (top 34), defBody (top 34), defScope (top 34), [], []⟩
theorem sc__law_same : FnScope ["found", "due", "one", "other"] ["found", "due"] (defScope (top 34)) := C8.fnScope_by (by decide +kernel)
def d_Marks_many : He.DefD := ⟨("Marks", some "many"), "many", "Marks.many", defArgs (inClass (top 15) 2), defBody (inClass (top 15) 2), defScope (inClass (top 15) 2), [], []⟩
theorem sc_Marks_many : FnScope ["self", "look"] ["self"] (defScope (inClass (top 15) 2)) := C8.fnScope_by (by decide +kernel)
def d_Marks_mark : He.DefD := ⟨("Marks", some "mark"), "mark", "Marks.mark", defArgs (inClass (top 15) 1), defBody (inClass (top 15) 1), defScope (inClass (top 15) 1), [], []⟩
theorem sc_Marks_mark : FnScope ["self", "sight", "whole"] ["self", "sight"] (defScope (inClass (top 15) 1)) := C8.fnScope_by (by decide +kernel)
def d_Marks_parted_once : He.DefD := ⟨("Marks", some "parted_once"), "parted_once", "Marks.parted_once", defArgs (inClass (top 15) 3), defBody (inClass (top 15) 3), defScope (inClass (top 15) 3), [], []⟩
theorem sc_Marks_parted_once : FnScope ["self", "look", "numbers", "found", "signs", "sight"] ["self"] (defScope (inClass (top 15) 3)) := C8.fnScope_by (by decide +kernel)
def d_Marks_part_on : He.DefD := ⟨("Marks", some "part_on"), "part_on", "Marks.part_on", defArgs (inClass (top 15) 4), defBody (inClass (top 15) 4), defScope (inClass (top 15) 4), [], []⟩
theorem sc_Marks_part_on : FnScope ["self", "ahead"] ["self"] (defScope (inClass (top 15) 4)) := C8.fnScope_by (by decide +kernel)
def d_shown : He.DefD := ⟨("shown", none), "shown", "shown", defArgs (top 3), defBody (top 3), defScope (top 3), [], []⟩
theorem sc_shown : FnScope ["turn", "quarter"] ["turn", "quarter"] (defScope (top 3)) := C8.fnScope_by (by decide +kernel)
def d_turned : He.DefD := ⟨("turned", none), "turned", "turned", defArgs (top 8), defBody (top 8), defScope (top 8), [], []⟩
theorem sc_turned : FnScope ["sight", "turn", "pane", "own"] ["sight", "turn"] (defScope (top 8)) := C8.fnScope_by (by decide +kernel)
def d_quarter_of : He.DefD := ⟨("quarter_of", none), "quarter_of", "quarter_of", defArgs (top 9), defBody (top 9), defScope (top 9), [], []⟩
theorem sc_quarter_of : FnScope ["house", "sight", "quarter", "pane", "turn"] ["house", "sight", "quarter"] (defScope (top 9)) := C8.fnScope_by (by decide +kernel)
def d_quarters_of : He.DefD := ⟨("quarters_of", none), "quarters_of", "quarters_of", defArgs (top 10), defBody (top 10), defScope (top 10), [], []⟩
theorem sc_quarters_of : FnScope ["house", "sight", "quarter"] ["house", "sight"] (defScope (top 10)) := C8.fnScope_by (by decide +kernel)
def d_one_of : He.DefD := ⟨("one_of", none), "one_of", "one_of", defArgs (top 13), defBody (top 13), defScope (top 13), [], []⟩
theorem sc_one_of : FnScope ["values", "value"] ["values"] (defScope (top 13)) := C8.fnScope_by (by decide +kernel)
def d_wholes_of : He.DefD := ⟨("wholes_of", none), "wholes_of", "wholes_of", defArgs (top 14), defBody (top 14), defScope (top 14), [], []⟩
theorem sc_wholes_of : FnScope ["house", "found", "turn", "pane", "one"] ["house"] (defScope (top 14)) := C8.fnScope_by (by decide +kernel)
def d_Marks_init : He.DefD := ⟨("Marks", some "__init__"), "__init__", "Marks.__init__", defArgs (inClass (top 15) 0), defBody (inClass (top 15) 0), defScope (inClass (top 15) 0), [], []⟩
theorem sc_Marks_init : FnScope ["self", "house", "turn", "look", "pane", "whole"] ["self", "house"] (defScope (inClass (top 15) 0)) := C8.fnScope_by (by decide +kernel)
def d_alike : He.DefD := ⟨("alike", none), "alike", "alike", defArgs (top 17), defBody (top 17), defScope (top 17), [], []⟩
theorem sc_alike : FnScope ["house", "one", "other", "marks"] ["house", "one", "other"] (defScope (top 17)) := C8.fnScope_by (by decide +kernel)
def d_sight_at : He.DefD := ⟨("sight_at", none), "sight_at", "sight_at", defArgs (top 11), defBody (top 11), defScope (top 11), [], []⟩
theorem sc_sight_at : FnScope ["house", "sight", "row", "quarter"] ["house", "sight", "row"] (defScope (top 11)) := C8.fnScope_by (by decide +kernel)
def d_colour_at : He.DefD := ⟨("colour_at", none), "colour_at", "colour_at", defArgs (top 29), defBody (top 29), defScope (top 29), [], []⟩
theorem sc_colour_at : FnScope ["house", "sight", "spot", "row", "again", "here", "met"] ["house", "sight", "spot"] (defScope (top 29)) := C8.fnScope_by (by decide +kernel)
def d_power : He.DefD := ⟨("power", none), "power", "power", defArgs (top 20), defBody (top 20), defScope (top 20), [], []⟩
theorem sc_power : FnScope ["base", "many", "found", "turn"] ["base", "many"] (defScope (top 20)) := C8.fnScope_by (by decide +kernel)
def d_whole_by : He.DefD := ⟨("whole_by", none), "whole_by", "whole_by", defArgs (top 22), defBody (top 22), defScope (top 22), [], []⟩
theorem sc_whole_by : FnScope ["wholes", "sight"] ["wholes", "sight"] (defScope (top 22)) := C8.fnScope_by (by decide +kernel)
def d_rows_of : He.DefD := ⟨("rows_of", none), "rows_of", "rows_of", defArgs (top 23), defBody (top 23), defScope (top 23), [], []⟩
theorem sc_rows_of : FnScope ["house", "wholes", "sight", "depth", "size", "one", "two", "three", "four", "part", "row", "left", "right"] ["house", "wholes", "sight", "depth"] (defScope (top 23)) := C8.fnScope_by (by decide +kernel)
def d_drawn : He.DefD := ⟨("drawn", none), "drawn", "drawn", defArgs (top 24), defBody (top 24), defScope (top 24), [], []⟩
theorem sc_drawn : FnScope ["house", "sight", "depth"] ["house", "sight", "depth"] (defScope (top 24)) := C8.fnScope_by (by decide +kernel)
def d_row_seen : He.DefD := ⟨("row_seen", none), "row_seen", "row_seen", defArgs (top 6), defBody (top 6), defScope (top 6), [], []⟩
theorem sc_row_seen : FnScope ["turn", "row", "quarter"] ["turn", "row"] (defScope (top 6)) := C8.fnScope_by (by decide +kernel)
def d_whole_of : He.DefD := ⟨("whole_of", none), "whole_of", "whole_of", defArgs (top 18), defBody (top 18), defScope (top 18), [], []⟩
theorem sc_whole_of : FnScope ["house", "sight", "mark"] ["house", "sight"] (defScope (top 18)) := C8.fnScope_by (by decide +kernel)
def d__law_spiral_right : He.DefD := ⟨("_law_spiral_right", none), "_law_spiral_right", "_law_spiral_right", defArgs (top 43), defBody (top 43), defScope (top 43), [], []⟩
theorem sc__law_spiral_right : FnScope ["box", "rooms", "pic", "path", "tour", "again", "at", "along", "done", "amount", "k"] ["box", "rooms", "pic", "path", "tour"] (defScope (top 43)) := C8.fnScope_by (by decide +kernel)
def d_turns_by : He.DefD := ⟨("turns_by", none), "turns_by", "turns_by", defArgs (top 26), defBody (top 26), defScope (top 26), [], []⟩
theorem sc_turns_by : FnScope ["marks", "one", "other", "turn"] ["marks", "one", "other"] (defScope (top 26)) := C8.fnScope_by (by decide +kernel)
def d_turns_between : He.DefD := ⟨("turns_between", none), "turns_between", "turns_between", defArgs (top 27), defBody (top 27), defScope (top 27), [], []⟩
theorem sc_turns_between : FnScope ["house", "one", "other"] ["house", "one", "other"] (defScope (top 27)) := C8.fnScope_by (by decide +kernel)
def d__law_pic_right : He.DefD := ⟨("_law_pic_right", none), "_law_pic_right", "_law_pic_right", defArgs (top 44), defBody (top 44), defScope (top 44), [], []⟩
theorem sc__law_pic_right : FnScope ["box", "rooms", "pic", "ways", "some", "path", "k", "tour"] ["box", "rooms", "pic"] (defScope (top 44)) := C8.fnScope_by (by decide +kernel)
def d__law_right : He.DefD := ⟨("_law_right", none), "_law_right", "_law_right", defArgs (top 45), defBody (top 45), defScope (top 45), [], []⟩
theorem sc__law_right : FnScope ["box", "names", "rooms", "own", "deep", "corner", "pics", "k", "pic"] ["box"] (defScope (top 45)) := C8.fnScope_by (by decide +kernel)
def d_law : He.DefD := ⟨("law", none), "law", "law", defArgs (top 46), defBody (top 46), defScope (top 46), [], []⟩
theorem sc_law : FnScope ["script", "cells", "k"] ["script"] (defScope (top 46)) := C8.fnScope_by (by decide +kernel)
section
variable {P : Program} {w : World} {K : PySem.W.Frag} {mg : Str → Option Value} {base : Heap} {f : Addr} {fd : FuncData}
theorem bi__law_box (Fu : FunD K d__law_box.name d__law_box.qual d__law_box.params d__law_box.body d__law_box.scope [] [] f fd) : Binds K fd ["cells", "k"] [] := Fu.bindsN fun _ _ _ _ _ _ us hl => match us, hl with | [_, _], _ => rfl
theorem ok__law_box (Fu : FunD K d__law_box.name d__law_box.qual d__law_box.params d__law_box.body d__law_box.scope [] [] f fd) (m_abs : mg "abs" = none) (m_int : mg "int" = none) : FnOk P w K mg base CX0 1 f fd ["cells", "k"] (spZ K w 2 f__law_box) :=
  okF (k := 0) (g := b__law_box) Fu sc__law_box rfl rfl (fun cdv A outer s H E E' hr =>
    have hu := hr.units
    have hu2 := u65 hr
    have hN := sc__law_box.nd
    (zss_cons (zs_set (i := 2) hN rfl (by first | exact Or.inl rfl | exact Or.inr rfl) (ze_ix hu (ze_var (pv 0)) (ze_var (pv 1))))
    (zss_one (zs_ret (ze_cel (za_cons (ze_op op_mulZ os_mul (ze_blt cr_abs bs_abs m_abs boot_abs (za_cons (ze_var (pv 2)) za_nil)) (ze_bty cr_int bs_int m_int boot_int (za_cons (ze_cmp op_ge os_ge (ze_blt cr_abs bs_abs m_abs boot_abs (za_cons (ze_var (pv 2)) za_nil)) (ze_op op_pow os_pow ze_int ze_int) (nomark _)) za_nil))) (za_cons (ze_op op_addZ os_add (ze_op op_addZ os_add (ze_op op_mod os_mod (ze_var (pv 2)) ze_int) (ze_op op_mulZ os_mul ze_int (ze_var (pv 1)))) ze_int) (za_cons ze_int za_nil))) (len_cons (len_cons (len_cons len_nil))))))))
theorem bi__law_cells (Fu : FunD K d__law_cells.name d__law_cells.qual d__law_cells.params d__law_cells.body d__law_cells.scope [] [] f fd) : Binds K fd ["script", "utmost"] [] := Fu.bindsN fun _ _ _ _ _ _ us hl => match us, hl with | [_, _], _ => rfl
theorem ok__law_cells (Fu : FunD K d__law_cells.name d__law_cells.qual d__law_cells.params d__law_cells.body d__law_cells.scope [] [] f fd) (m_enumerate : mg "enumerate" = none) (m_list : mg "list" = none) : FnOk P w K mg base CX0 1 f fd ["script", "utmost"] (spZ K w 2 f__law_cells) :=
  okF (k := 0) (g := b__law_cells) Fu sc__law_cells rfl rfl (fun cdv A outer s H E E' hr =>
    have hu := hr.units
    have hu2 := u65 hr
    have hN := sc__law_cells.nd
    (zss_cons (zs_set (i := 2) hN rfl (by first | exact Or.inl rfl | exact Or.inr rfl) (ze_orT (ze_bty cr_list bs_listC m_list boot_list (za_cons (ze_sl (ze_var (pv 0)) zo_none (zo_some (ze_var (pv 1)))) za_nil)) (ze_one (ze_cel (za_cons ze_int za_nil) (len_cons len_nil)))))
    (zss_cons (zs_for PassesOwn.never rfl (zi_enum (by rfl) m_enumerate (za_cons (ze_sl (ze_var (pv 0)) (zo_some (ze_var (pv 1))) (zo_some ze_int)) za_nil)) (zg_tup rfl (zgs_cons (zg_name (i := 3) (pg_name hN rfl (by first | exact Or.inl rfl | exact Or.inr rfl))) (zgs_cons (zg_name (i := 4) (pg_name hN rfl (by first | exact Or.inl rfl | exact Or.inr rfl))) zgs_nil))) (zss_one (zs_asg (ze_op op_addZ os_add (ze_ix hu (ze_var (pv 2)) (ze_op op_mod os_mod (ze_var (pv 3)) (ze_var (pv 1)))) (ze_op op_mulZ os_mul (ze_var (pv 4)) (ze_op op_addZ os_add (ze_var (pv 3)) ze_int))) (zg_sub hu (ze_var (pv 2)) (ze_op op_mod os_mod (ze_var (pv 3)) (ze_var (pv 1)))))))
    (zss_one (zs_ret (ze_var (pv 2)))))))
theorem bi__law_seen (Fu : FunD K d__law_seen.name d__law_seen.qual d__law_seen.params d__law_seen.body d__law_seen.scope [] [] f fd) : Binds K fd ["tour", "corner"] [] := Fu.bindsN fun _ _ _ _ _ _ us hl => match us, hl with | [_, _], _ => rfl
theorem ok__law_seen (Fu : FunD K d__law_seen.name d__law_seen.qual d__law_seen.params d__law_seen.body d__law_seen.scope [] [] f fd) (m_range : mg "range" = none) : FnOk P w K mg base CX0 1 f fd ["tour", "corner"] (spZ K w 2 f__law_seen) :=
  okF (k := 0) (g := b__law_seen) Fu sc__law_seen rfl rfl (fun cdv A outer s H E E' hr =>
    have hu := hr.units
    have hu2 := u65 hr
    have hN := sc__law_seen.nd
    (zss_cons (zs_par2 (fun h => ps_par (i := 3) (j := 4) rfl hN rfl rfl (by decide) rfl rfl h rfl) (za_cons (ze_op op_mod os_mod (ze_var (pv 1)) ze_int) (za_cons (ze_op op_fdivW os_div (ze_var (pv 1)) ze_int) za_nil)))
    (zss_cons (zs_for PassesOwn.never rfl (zi_rng1 (by rfl) m_range (za_cons (ze_op op_mod os_mod (ze_var (pv 0)) ze_int) za_nil)) (zg_name (i := 2) (pg_name hN rfl (by first | exact Or.inl rfl | exact Or.inr rfl))) (zss_one (zs_par2 (fun h => ps_par (i := 3) (j := 4) rfl hN rfl rfl (by decide) rfl rfl h rfl) (za_cons (ze_var (pv 4)) (za_cons (ze_op op_sub os_sub ze_int (ze_var (pv 3))) za_nil)))))
    (zss_one (zs_ret (ze_op op_addZ os_add (ze_op op_mulZ os_mul ze_int (ze_var (pv 4))) (ze_if (zt_cmp op_gt os_gt (ze_var (pv 0)) ze_int (nomark _)) (ze_op op_sub os_sub ze_int (ze_var (pv 3))) (ze_var (pv 3)))))))))
theorem bi__law_take (Fu : FunD K d__law_take.name d__law_take.qual d__law_take.params d__law_take.body d__law_take.scope [] [] f fd) : Binds K fd ["box", "amount"] [] := Fu.bindsN fun _ _ _ _ _ _ us hl => match us, hl with | [_, _], _ => rfl
theorem ok__law_take (Fu : FunD K d__law_take.name d__law_take.qual d__law_take.params d__law_take.body d__law_take.scope [] [] f fd)  : FnOk P w K mg base CX0 1 f fd ["box", "amount"] (spZ K w 2 f__law_take) :=
  okF (k := 0) (g := b__law_take) Fu sc__law_take rfl rfl (fun cdv A outer s H E E' hr =>
    have hu := hr.units
    have hu2 := u65 hr
    have hN := sc__law_take.nd
    (zss_cons (zs_if (zt_cmp op_gt os_gt (ze_ix hu (ze_var (pv 0)) ze_int) ze_int (nomark _)) (zss_cons (zs_set (i := 3) hN rfl (by first | exact Or.inl rfl | exact Or.inr rfl) (ze_op op_mod os_mod (ze_ix hu (ze_var (pv 0)) ze_int) (ze_var (pv 1))))
    (zss_cons (zs_asg (ze_op op_fdivW os_div (ze_ix hu (ze_var (pv 0)) ze_int) (ze_var (pv 1))) (zg_sub hu (ze_var (pv 0)) ze_int))
    (zss_one (zs_ret (ze_var (pv 3)))))) zss_nil)
    (zss_cons (zs_asg (ze_op op_addZ os_add (ze_ix hu (ze_var (pv 0)) ze_int) ze_int) (zg_sub hu (ze_var (pv 0)) ze_int))
    (zss_cons (zs_set (i := 2) hN rfl (by first | exact Or.inl rfl | exact Or.inr rfl) (ze_op op_mod os_mod (ze_op op_addZ os_add (ze_ix hu (ze_var (pv 0)) ze_int) (ze_op op_mulZ os_mul ze_int (ze_ix hu (ze_var (pv 0)) ze_int))) ze_int))
    (zss_cons (zs_set (i := 2) hN rfl (by first | exact Or.inl rfl | exact Or.inr rfl) (ze_op op_mod os_mod (ze_op op_addZ os_add (ze_op op_addZ os_add (ze_op op_mulZ os_mul (ze_var (pv 2)) (ze_var (pv 2))) (ze_op op_mulZ os_mul ze_int (ze_ix hu (ze_var (pv 0)) ze_int))) ze_int) ze_int))
    (zss_cons (zs_set (i := 2) hN rfl (by first | exact Or.inl rfl | exact Or.inr rfl) (ze_op op_mod os_mod (ze_op op_addZ os_add (ze_op op_mulZ os_mul (ze_var (pv 2)) (ze_op op_addZ os_add (ze_op op_fdivW os_div (ze_var (pv 2)) ze_int) ze_int)) (ze_ix hu (ze_var (pv 0)) ze_int)) ze_int))
    (zss_one (zs_ret (ze_op op_mod os_mod (ze_op op_fdivW os_div (ze_var (pv 2)) ze_int) (ze_var (pv 1)))))))))))
theorem bi__law_sight (Fu : FunD K d__law_sight.name d__law_sight.qual d__law_sight.params d__law_sight.body d__law_sight.scope [] [] f fd) : Binds K fd ["box", "names", "amount"] [] := Fu.bindsN fun _ _ _ _ _ _ us hl => match us, hl with | [_, _, _], _ => rfl
theorem ok__law_sight (Fu : FunD K d__law_sight.name d__law_sight.qual d__law_sight.params d__law_sight.body d__law_sight.scope [] [] f fd) (k__law_take : CalZ P w K mg base 1 "_law_take" 2 f__law_take) (m_len : mg "len" = none) : FnOk P w K mg base CX0 2 f fd ["box", "names", "amount"] (spZ K w 3 f__law_sight) :=
  okF (k := 1) (g := b__law_sight) Fu sc__law_sight rfl rfl (fun cdv A outer s H E E' hr =>
    have hu := hr.units
    have hu2 := u65 hr
    have hN := sc__law_sight.nd
    (zss_cons (zs_if (zt_w (zw_or (zt_cmp (op_eqZ hu) os_eq (ze_var (pv 2)) ze_int (nomark _)) (zw_or1 (zt_cmp (op_eqZ hu) os_eq (ze_call k__law_take hr (by omega) (za_cons (ze_var (pv 0)) (za_cons ze_int za_nil)) (len_cons (len_cons len_nil))) ze_int (nomark _))))) (zss_one (zs_ret (ze_ix hu (ze_var (pv 1)) (ze_call k__law_take hr (by omega) (za_cons (ze_var (pv 0)) (za_cons (ze_blt cr_len bs_len m_len boot_len (za_cons (ze_var (pv 1)) za_nil)) za_nil)) (len_cons (len_cons len_nil)))))) zss_nil)
    (zss_one (zs_ret (ze_tup (za_cons (ze_call k__law_take hr (by omega) (za_cons (ze_var (pv 0)) (za_cons (ze_var (pv 2)) za_nil)) (len_cons (len_cons len_nil))) (za_cons (ze_call k__law_take hr (by omega) (za_cons (ze_var (pv 0)) (za_cons ze_int za_nil)) (len_cons (len_cons len_nil))) za_nil)) (len_cons (len_cons len_nil)))))))
theorem bi__law_then (Fu : FunD K d__law_then.name d__law_then.qual d__law_then.params d__law_then.body d__law_then.scope [] [] f fd) : Binds K fd ["mine", "its"] [] := Fu.bindsN fun _ _ _ _ _ _ us hl => match us, hl with | [_, _], _ => rfl
theorem ok__law_then (Fu : FunD K d__law_then.name d__law_then.qual d__law_then.params d__law_then.body d__law_then.scope [] [] f fd)  : FnOk P w K mg base CX0 1 f fd ["mine", "its"] (spZ K w 2 f__law_then) :=
  okF (k := 0) (g := b__law_then) Fu sc__law_then rfl rfl (fun cdv A outer s H E E' hr =>
    have hu := hr.units
    have hu2 := u65 hr
    have hN := sc__law_then.nd
    (zss_cons (zs_set (i := 2) hN rfl (by first | exact Or.inl rfl | exact Or.inr rfl) (ze_if (zt_cmp op_ltZ os_lt (ze_var (pv 1)) ze_int (nomark _)) (ze_op op_mod os_mod (ze_var (pv 0)) ze_int) (ze_op op_sub os_sub ze_int (ze_op op_mod os_mod (ze_var (pv 0)) ze_int))))
    (zss_one (zs_ret (ze_op op_addZ os_add (ze_op op_mulZ os_mul (ze_op op_mod os_mod (ze_op op_addZ os_add (ze_op op_fdivW os_div (ze_var (pv 0)) ze_int) (ze_op op_fdivW os_div (ze_var (pv 1)) ze_int)) ze_int) ze_int) (ze_op op_mod os_mod (ze_op op_addZ os_add (ze_var (pv 1)) (ze_var (pv 2))) ze_int))))))
theorem bi__law_turned (Fu : FunD K d__law_turned.name d__law_turned.qual d__law_turned.params d__law_turned.body d__law_turned.scope [] [] f fd) : Binds K fd ["pic", "tour"] [] := Fu.bindsN fun _ _ _ _ _ _ us hl => match us, hl with | [_, _], _ => rfl
theorem ok__law_turned (Fu : FunD K d__law_turned.name d__law_turned.qual d__law_turned.params d__law_turned.body d__law_turned.scope [] [] f fd) (k__law_then : CalZ P w K mg base 1 "_law_then" 2 f__law_then) (m_isinstance : mg "isinstance" = none) (m_str : mg "str" = none) : FnOk P w K mg base CX0 2 f fd ["pic", "tour"] (spZ K w 2 f__law_turned) :=
  okF (k := 1) (g := b__law_turned) Fu sc__law_turned rfl rfl (fun cdv A outer s H E E' hr =>
    have hu := hr.units
    have hu2 := u65 hr
    have hN := sc__law_turned.nd
    (zss_one (zs_ret (ze_if (zt_val (ze_isi1 m_isinstance (ze_var (pv 0)) (pe_tyn m_str boot_str))) (ze_var (pv 0)) (ze_tup (za_cons (ze_ix hu (ze_var (pv 0)) ze_int) (za_cons (ze_call k__law_then hr (by omega) (za_cons (ze_ix hu (ze_var (pv 0)) ze_int) (za_cons (ze_var (pv 1)) za_nil)) (len_cons (len_cons len_nil))) za_nil)) (len_cons (len_cons len_nil)))))))
theorem bi__law_house (Fu : FunD K d__law_house.name d__law_house.qual d__law_house.params d__law_house.body d__law_house.scope [] [] f fd) : Binds K fd ["box", "names", "most"] [] := Fu.bindsN fun _ _ _ _ _ _ us hl => match us, hl with | [_, _, _], _ => rfl
theorem ok__law_house (Fu : FunD K d__law_house.name d__law_house.qual d__law_house.params d__law_house.body d__law_house.scope [] [] f fd) (k__law_seen : CalZ P w K mg base 1 "_law_seen" 2 f__law_seen) (k__law_sight : CalZ P w K mg base 2 "_law_sight" 3 f__law_sight) (k__law_take : CalZ P w K mg base 1 "_law_take" 2 f__law_take) (k__law_turned : CalZ P w K mg base 2 "_law_turned" 2 f__law_turned) (m_len : mg "len" = none) (m_range : mg "range" = none) (m_tuple : mg "tuple" = none) : FnOk P w K mg base CX0 3 f fd ["box", "names", "most"] (spZ K w 3 f__law_house) :=
  okF (k := 2) (g := b__law_house) Fu sc__law_house rfl rfl (fun cdv A outer s H E E' hr =>
    have hu := hr.units
    have hu2 := u65 hr
    have hN := sc__law_house.nd
    (zss_cons (zs_asg (ze_tup (za_cons (ze_op op_addZ os_add ze_int (ze_call k__law_take hr (by omega) (za_cons (ze_var (pv 0)) (za_cons (ze_var (pv 2)) za_nil)) (len_cons (len_cons len_nil)))) (za_cons (ze_cel za_nil len_nil) za_nil)) (len_cons (len_cons len_nil))) (zg_tup rfl (zgs_cons (zg_name (i := 4) (pg_name hN rfl (by first | exact Or.inl rfl | exact Or.inr rfl))) (zgs_cons (zg_name (i := 5) (pg_name hN rfl (by first | exact Or.inl rfl | exact Or.inr rfl))) zgs_nil))))
    (zss_cons (zs_for PassesOwn.never rfl (zi_rng1 (by rfl) m_range (za_cons (ze_var (pv 4)) za_nil)) (zg_name (i := 3) (pg_name hN rfl (by first | exact Or.inl rfl | exact Or.inr rfl))) (zss_cons (zs_asg (ze_tup (za_cons (ze_call k__law_take hr (by omega) (za_cons (ze_var (pv 0)) (za_cons ze_int za_nil)) (len_cons (len_cons len_nil))) (za_cons (ze_call k__law_sight hr (by omega) (za_cons (ze_var (pv 0)) (za_cons (ze_var (pv 1)) (za_cons (ze_var (pv 4)) za_nil))) (len_cons (len_cons (len_cons len_nil)))) za_nil)) (len_cons (len_cons len_nil))) (zg_tup rfl (zgs_cons (zg_name (i := 6) (pg_name hN rfl (by first | exact Or.inl rfl | exact Or.inr rfl))) (zgs_cons (zg_name (i := 7) (pg_name hN rfl (by first | exact Or.inl rfl | exact Or.inr rfl))) zgs_nil))))
    (zss_one (zs_if (zt_cmp (op_eqZ hu) os_eq (ze_var (pv 6)) ze_int (nomark _)) (zss_one (zs_drop (ze_append (ze_var (pv 5)) (za_cons (ze_bty cr_tuple bs_tuple m_tuple boot_tuple (za_cons (ze_lc fin_l rfl hN (zi_val (ze_tup (za_cons ze_int (za_cons ze_int (za_cons ze_int (za_cons ze_int za_nil)))) (len_cons (len_cons (len_cons (len_cons len_nil)))))) (blkOk_by (own := [("tour", 8)]) (by kernel_rfl)) (fun s H C cl fp => (zgw_name (i := 8) (pg_name hN rfl (by first | exact Or.inl rfl | exact Or.inr rfl)))) (fun s H C cl fp => zts_nil) (fun s H C cl fp => (ze_call k__law_turned hr (by omega) (za_cons (ze_var (pv 7)) (za_cons (ze_var (pv 8)) za_nil)) (len_cons (len_cons len_nil))))) za_nil)) za_nil)))) (zss_one (zs_if (zt_cmp (op_eqZ hu) os_eq (ze_var (pv 6)) ze_int (nomark _)) (zss_one (zs_drop (ze_append (ze_var (pv 5)) (za_cons (ze_bty cr_tuple bs_tuple m_tuple boot_tuple (za_cons (ze_lc fin_l rfl hN (zi_rng1 (by rfl) m_range (za_cons ze_int za_nil)) (blkOk_by (own := [("q", 10)]) (by kernel_rfl)) (fun s H C cl fp => (zgw_name (i := 10) (pg_name hN rfl (by first | exact Or.inl rfl | exact Or.inr rfl)))) (fun s H C cl fp => zts_nil) (fun s H C cl fp => (ze_tup (za_cons (ze_var (pv 3)) (za_cons (ze_call k__law_take hr (by omega) (za_cons (ze_var (pv 0)) (za_cons ze_int za_nil)) (len_cons (len_cons len_nil))) za_nil)) (len_cons (len_cons len_nil))))) za_nil)) za_nil)))) (zss_one (zs_if (zt_cmp (op_eqZ hu) os_eq (ze_var (pv 6)) ze_int (nomark _)) (zss_one (zs_drop (ze_append (ze_var (pv 5)) (za_cons (ze_op op_mulZ os_mul (ze_tup (za_cons (ze_ix hu (ze_var (pv 1)) ze_int) za_nil) (len_cons len_nil)) ze_int) za_nil)))) (zss_one (zs_if (zt_w (zw_and (zt_cmp (op_eqZ hu) os_eq (ze_var (pv 6)) ze_int (nomark _)) (zw_and1 (zt_cmp (op_neZ hu) os_ne (ze_var (pv 5)) (ze_lst za_nil len_nil) (nomark _))))) (zss_cons (zs_asg (ze_tup (za_cons (ze_call k__law_take hr (by omega) (za_cons (ze_var (pv 0)) (za_cons (ze_blt cr_len bs_len m_len boot_len (za_cons (ze_var (pv 5)) za_nil)) za_nil)) (len_cons (len_cons len_nil))) (za_cons (ze_call k__law_take hr (by omega) (za_cons (ze_var (pv 0)) (za_cons ze_int za_nil)) (len_cons (len_cons len_nil))) za_nil)) (len_cons (len_cons len_nil))) (zg_tup rfl (zgs_cons (zg_name (i := 9) (pg_name hN rfl (by first | exact Or.inl rfl | exact Or.inr rfl))) (zgs_cons (zg_name (i := 8) (pg_name hN rfl (by first | exact Or.inl rfl | exact Or.inr rfl))) zgs_nil))))
    (zss_one (zs_drop (ze_append (ze_var (pv 5)) (za_cons (ze_bty cr_tuple bs_tuple m_tuple boot_tuple (za_cons (ze_lc fin_l rfl hN (zi_rng1 (by rfl) m_range (za_cons ze_int za_nil)) (blkOk_by (own := [("q", 10)]) (by kernel_rfl)) (fun s H C cl fp => (zgw_name (i := 10) (pg_name hN rfl (by first | exact Or.inl rfl | exact Or.inr rfl)))) (fun s H C cl fp => zts_nil) (fun s H C cl fp => (ze_call k__law_turned hr (by omega) (za_cons (ze_ix hu (ze_ix hu (ze_var (pv 5)) (ze_var (pv 9))) (ze_call k__law_seen hr (by omega) (za_cons (ze_var (pv 8)) (za_cons (ze_var (pv 10)) za_nil)) (len_cons (len_cons len_nil)))) (za_cons (ze_var (pv 8)) za_nil)) (len_cons (len_cons len_nil))))) za_nil)) za_nil))))) (zss_one (zs_drop (ze_append (ze_var (pv 5)) (za_cons (ze_bty cr_tuple bs_tuple m_tuple boot_tuple (za_cons (ze_lc fin_l rfl hN (zi_rng1 (by rfl) m_range (za_cons ze_int za_nil)) (blkOk_by (own := [("q", 10)]) (by kernel_rfl)) (fun s H C cl fp => (zgw_name (i := 10) (pg_name hN rfl (by first | exact Or.inl rfl | exact Or.inr rfl)))) (fun s H C cl fp => zts_nil) (fun s H C cl fp => (ze_call k__law_sight hr (by omega) (za_cons (ze_var (pv 0)) (za_cons (ze_var (pv 1)) (za_cons (ze_var (pv 4)) za_nil))) (len_cons (len_cons (len_cons len_nil)))))) za_nil)) za_nil))))))))))))))
    (zss_one (zs_ret (ze_bty cr_tuple bs_tuple m_tuple boot_tuple (za_cons (ze_var (pv 5)) za_nil)))))))
theorem bi__law_names (Fu : FunD K d__law_names.name d__law_names.qual d__law_names.params d__law_names.body d__law_names.scope [] [] f fd) : Binds K fd ["box", "amount"] [] := Fu.bindsN fun _ _ _ _ _ _ us hl => match us, hl with | [_, _], _ => rfl
theorem ok__law_names (Fu : FunD K d__law_names.name d__law_names.qual d__law_names.params d__law_names.body d__law_names.scope [] [] f fd) (k__law_take : CalZ P w K mg base 1 "_law_take" 2 f__law_take) (m_range : mg "range" = none) : FnOk P w K mg base CX0 2 f fd ["box", "amount"] (spZ K w 2 f__law_names) :=
  okF (k := 1) (g := b__law_names) Fu sc__law_names rfl rfl (fun cdv A outer s H E E' hr =>
    have hu := hr.units
    have hu2 := u65 hr
    have hN := sc__law_names.nd
    (zss_cons (zs_asg (ze_tup (za_cons ze_str (za_cons (ze_call k__law_take hr (by omega) (za_cons (ze_var (pv 0)) (za_cons ze_int za_nil)) (len_cons (len_cons len_nil))) za_nil)) (len_cons (len_cons len_nil))) (zg_tup rfl (zgs_cons (zg_name (i := 3) (pg_name hN rfl (by first | exact Or.inl rfl | exact Or.inr rfl))) (zgs_cons (zg_name (i := 4) (pg_name hN rfl (by first | exact Or.inl rfl | exact Or.inr rfl))) zgs_nil))))
    (zss_cons (zs_set (i := 2) hN rfl (by first | exact Or.inl rfl | exact Or.inr rfl) (ze_join ze_str (za_cons (ze_lc fin_l rfl hN (zi_rng1 (by rfl) m_range (za_cons (ze_call k__law_take hr (by omega) (za_cons (ze_var (pv 0)) (za_cons ze_int za_nil)) (len_cons (len_cons len_nil))) za_nil)) (blkOk_by (own := [("tour", 6)]) (by kernel_rfl)) (fun s H C cl fp => (zgw_name (i := 6) (pg_name hN rfl (by first | exact Or.inl rfl | exact Or.inr rfl)))) (fun s H C cl fp => zts_nil) (fun s H C cl fp => (ze_ix hu (ze_var (pv 3)) (ze_call k__law_take hr (by omega) (za_cons (ze_var (pv 0)) (za_cons ze_int za_nil)) (len_cons (len_cons len_nil)))))) za_nil)))
    (zss_one (zs_ret (ze_lc fin_l rfl hN (zi_rng1 (by rfl) m_range (za_cons (ze_var (pv 1)) za_nil)) (blkOk_by (own := [("k", 5)]) (by kernel_rfl)) (fun s H C cl fp => (zgw_name (i := 5) (pg_name hN rfl (by first | exact Or.inl rfl | exact Or.inr rfl)))) (fun s H C cl fp => zts_nil) (fun s H C cl fp => (ze_op op_addZ os_add (ze_var (pv 2)) (ze_ix hu (ze_var (pv 3)) (ze_op op_mod os_mod (ze_op op_addZ os_add (ze_var (pv 4)) (ze_op op_mulZ os_mul ze_int (ze_var (pv 5)))) ze_int))))))))))
theorem bi__law_quarter (Fu : FunD K d__law_quarter.name d__law_quarter.qual d__law_quarter.params d__law_quarter.body d__law_quarter.scope [] [] f fd) : Binds K fd ["rooms", "pic", "q"] [] := Fu.bindsN fun _ _ _ _ _ _ us hl => match us, hl with | [_, _, _], _ => rfl
theorem ok__law_quarter (Fu : FunD K d__law_quarter.name d__law_quarter.qual d__law_quarter.params d__law_quarter.body d__law_quarter.scope [] [] f fd) (k__law_seen : CalZ P w K mg base 1 "_law_seen" 2 f__law_seen) (k__law_turned : CalZ P w K mg base 2 "_law_turned" 2 f__law_turned) (m_isinstance : mg "isinstance" = none) (m_str : mg "str" = none) : FnOk P w K mg base CX0 3 f fd ["rooms", "pic", "q"] (spZ K w 3 f__law_quarter) :=
  okF (k := 2) (g := b__law_quarter) Fu sc__law_quarter rfl rfl (fun cdv A outer s H E E' hr =>
    have hu := hr.units
    have hu2 := u65 hr
    have hN := sc__law_quarter.nd
    (zss_cons (zs_if (zt_val (ze_isi1 m_isinstance (ze_var (pv 1)) (pe_tyn m_str boot_str))) (zss_one (zs_ret (ze_var (pv 1)))) zss_nil)
    (zss_one (zs_ret (ze_call k__law_turned hr (by omega) (za_cons (ze_ix hu (ze_ix hu (ze_var (pv 0)) (ze_ix hu (ze_var (pv 1)) ze_int)) (ze_call k__law_seen hr (by omega) (za_cons (ze_ix hu (ze_var (pv 1)) ze_int) (za_cons (ze_var (pv 2)) za_nil)) (len_cons (len_cons len_nil)))) (za_cons (ze_ix hu (ze_var (pv 1)) ze_int) za_nil)) (len_cons (len_cons len_nil)))))))
theorem bi_behind (Fu : FunD K d_behind.name d_behind.qual d_behind.params d_behind.body d_behind.scope [] [] f fd) : Binds K fd ["one", "other"] [] := Fu.bindsN fun _ _ _ _ _ _ us hl => match us, hl with | [_, _], _ => rfl
theorem ok_behind (Fu : FunD K d_behind.name d_behind.qual d_behind.params d_behind.body d_behind.scope [] [] f fd) (k_QUARTERS : ConZ mg K w "QUARTERS" c_QUARTERS) (m_int : mg "int" = none) : FnOk P w K mg base CX0 1 f fd ["one", "other"] (spZ K w 2 f_behind) :=
  okF (k := 0) (g := b_behind) Fu sc_behind rfl rfl (fun cdv A outer s H E E' hr =>
    have hu := hr.units
    have hu2 := u65 hr
    have hN := sc_behind.nd
    (zss_cons (zs_set (i := 2) hN rfl (by first | exact Or.inl rfl | exact Or.inr rfl) (ze_op op_addZ os_add (ze_var (pv 1)) (ze_if (zt_cmp op_ltZ os_lt (ze_var (pv 1)) (ze_con k_QUARTERS) (nomark _)) (ze_var (pv 0)) (ze_neg (ze_var (pv 0))))))
    (zss_one (zs_ret (ze_op op_addZ os_add (ze_op op_mod os_mod (ze_var (pv 2)) (ze_con k_QUARTERS)) (ze_op op_mulZ os_mul (ze_con k_QUARTERS) (ze_bty cr_int bs_int m_int boot_int (za_cons (ze_cmp (op_neZ hu) os_ne (ze_op op_fdivW os_div (ze_var (pv 0)) (ze_con k_QUARTERS)) (ze_op op_fdivW os_div (ze_var (pv 1)) (ze_con k_QUARTERS)) (nomark _)) za_nil))))))))
theorem bi_back (Fu : FunD K d_back.name d_back.qual d_back.params d_back.body d_back.scope [] [] f fd) : Binds K fd ["turn"] [] := Fu.bindsN fun _ _ _ _ _ _ us hl => match us, hl with | [_], _ => rfl
theorem ok_back (Fu : FunD K d_back.name d_back.qual d_back.params d_back.body d_back.scope [] [] f fd) (k_SHOWN : ConZ mg K w "SHOWN" c_SHOWN) (k_behind : CalZ P w K mg base 1 "behind" 2 f_behind) (m_len : mg "len" = none) (m_range : mg "range" = none) : FnOk P w K mg base CX0 2 f fd ["turn"] (spZ K w 1 f_back) :=
  okF (k := 1) (g := b_back) Fu sc_back rfl rfl (fun cdv A outer s H E E' hr =>
    have hu := hr.units
    have hu2 := u65 hr
    have hN := sc_back.nd
    (zss_one (zs_ret (ze_ix hu (ze_lc fin_l rfl hN (zi_rng1 (by rfl) m_range (za_cons (ze_blt cr_len bs_len m_len boot_len (za_cons (ze_con k_SHOWN) za_nil)) za_nil)) (blkOk_by (own := [("other", 1)]) (by kernel_rfl)) (fun s H C cl fp => (zgw_name (i := 1) (pg_name hN rfl (by first | exact Or.inl rfl | exact Or.inr rfl)))) (fun s H C cl fp => (zts_one (zt_cmp (op_eqZ hu) os_eq (ze_call k_behind hr (by omega) (za_cons (ze_var (pv 0)) (za_cons (ze_var (pv 1)) za_nil)) (len_cons (len_cons len_nil))) ze_int (nomark _)))) (fun s H C cl fp => (ze_var (pv 1)))) ze_int))))
theorem bi__law_rows_to (Fu : FunD K d__law_rows_to.name d__law_rows_to.qual d__law_rows_to.params d__law_rows_to.body d__law_rows_to.scope [] [] f fd) : Binds K fd ["rooms", "pic"] [] := Fu.bindsN fun _ _ _ _ _ _ us hl => match us, hl with | [_, _], _ => rfl
theorem ok__law_rows_to (Fu : FunD K d__law_rows_to.name d__law_rows_to.qual d__law_rows_to.params d__law_rows_to.body d__law_rows_to.scope [] [] f fd) (k__law_quarter : CalZ P w K mg base 3 "_law_quarter" 3 f__law_quarter) (k_back : CalZ P w K mg base 2 "back" 1 f_back) (k_behind : CalZ P w K mg base 1 "behind" 2 f_behind) (m_isinstance : mg "isinstance" = none) (m_range : mg "range" = none) (m_str : mg "str" = none) : FnOk P w K mg base CX0 4 f fd ["rooms", "pic"] (spZ K w 2 f__law_rows_to) :=
  okF (k := 3) (g := b__law_rows_to) Fu sc__law_rows_to rfl rfl (fun cdv A outer s H E E' hr =>
    have hu := hr.units
    have hu2 := u65 hr
    have hN := sc__law_rows_to.nd
    (zss_cons (zs_par2 (fun h => ps_par (i := 3) (j := 4) rfl hN rfl rfl (by decide) rfl rfl h rfl) (za_cons (ze_lst za_nil len_nil) (za_cons (ze_lst (za_cons (ze_tup (za_cons (ze_tup za_nil len_nil) (za_cons (ze_var (pv 1)) za_nil)) (len_cons (len_cons len_nil))) za_nil) (len_cons len_nil)) za_nil)))
    (zss_cons (zs_for PassesOwn.never rfl (zi_rng1 (by rfl) m_range (za_cons ze_int za_nil)) (zg_name (i := 2) (pg_name hN rfl (by first | exact Or.inl rfl | exact Or.inr rfl))) (zss_cons (zs_set (i := 5) hN rfl (by first | exact Or.inl rfl | exact Or.inr rfl) (ze_lst za_nil len_nil))
    (zss_cons (zs_for PassesOwn.never rfl (zi_val (ze_var (pv 4))) (zg_tup rfl (zgs_cons (zg_name (i := 6) (pg_name hN rfl (by first | exact Or.inl rfl | exact Or.inr rfl))) (zgs_cons (zg_name (i := 7) (pg_name hN rfl (by first | exact Or.inl rfl | exact Or.inr rfl))) zgs_nil))) (zss_one (zs_set (i := 5) hN rfl (by first | exact Or.inl rfl | exact Or.inr rfl) (ze_op op_addZ os_add (ze_var (pv 5)) (ze_lc fin_l rfl hN (zi_rng1 (by rfl) m_range (za_cons ze_int za_nil)) (blkOk_by (own := [("q", 8)]) (by kernel_rfl)) (fun s H C cl fp => (zgw_name (i := 8) (pg_name hN rfl (by first | exact Or.inl rfl | exact Or.inr rfl)))) (fun s H C cl fp => zts_nil) (fun s H C cl fp => (ze_tup (za_cons (ze_op op_addZ os_add (ze_var (pv 6)) (ze_tup (za_cons (ze_var (pv 8)) za_nil) (len_cons len_nil))) (za_cons (ze_call k__law_quarter hr (by omega) (za_cons (ze_var (pv 0)) (za_cons (ze_var (pv 7)) (za_cons (ze_var (pv 8)) za_nil))) (len_cons (len_cons (len_cons len_nil)))) za_nil)) (len_cons (len_cons len_nil)))))))))
    (zss_cons (zs_lc (i := 4) fin_l rfl hN rfl rfl rfl (zi_val (ze_var (pv 5))) (blkOk_by (own := [("path", 6), ("here", 7)]) (by kernel_rfl)) (fun s H C cl fp => (zgw_tup rfl (zgsw_cons (zgw_name (i := 6) (pg_name hN rfl (by first | exact Or.inl rfl | exact Or.inr rfl))) (zgsw_cons (zgw_name (i := 7) (pg_name hN rfl (by first | exact Or.inl rfl | exact Or.inr rfl))) zgsw_nil)))) (fun s H C cl fp => (zts_one (zt_not (zt_val (ze_isi1 m_isinstance (ze_var (pv 7)) (pe_tyn m_str boot_str)))))) (fun s H C cl fp => (ze_tup (za_cons (ze_var (pv 6)) (za_cons (ze_var (pv 7)) za_nil)) (len_cons (len_cons len_nil)))))
    (zss_one (zs_set (i := 3) hN rfl (by first | exact Or.inl rfl | exact Or.inr rfl) (ze_op op_addZ os_add (ze_var (pv 3)) (ze_lc fin_l rfl hN (zi_val (ze_var (pv 4))) (blkOk_by (own := [("path", 6), ("here", 7)]) (by kernel_rfl)) (fun s H C cl fp => (zgw_tup rfl (zgsw_cons (zgw_name (i := 6) (pg_name hN rfl (by first | exact Or.inl rfl | exact Or.inr rfl))) (zgsw_cons (zgw_name (i := 7) (pg_name hN rfl (by first | exact Or.inl rfl | exact Or.inr rfl))) zgsw_nil)))) (fun s H C cl fp => (zts_one (zt_cmp (op_eqZ hu) os_eq (ze_ix hu (ze_var (pv 7)) ze_int) (ze_ix hu (ze_var (pv 1)) ze_int) (nomark _)))) (fun s H C cl fp => (ze_tup (za_cons (ze_var (pv 6)) (za_cons (ze_call k_behind hr (by omega) (za_cons (ze_call k_back hr (by omega) (za_cons (ze_ix hu (ze_var (pv 1)) ze_int) za_nil) (len_cons len_nil)) (za_cons (ze_ix hu (ze_var (pv 7)) ze_int) za_nil)) (len_cons (len_cons len_nil))) za_nil)) (len_cons (len_cons len_nil))))))))))))
    (zss_one (zs_ret (ze_var (pv 3)))))))
theorem bi__law_same (Fu : FunD K d__law_same.name d__law_same.qual d__law_same.params d__law_same.body d__law_same.scope [] [] f fd) : Binds K fd ["found", "due"] [] := Fu.bindsN fun _ _ _ _ _ _ us hl => match us, hl with | [_, _], _ => rfl
theorem ok__law_same (Fu : FunD K d__law_same.name d__law_same.qual d__law_same.params d__law_same.body d__law_same.scope [] [] f fd) (hm : mg "_law_same" = some (.ref f)) (m_all : mg "all" = none) (m_bool : mg "bool" = none) (m_int : mg "int" = none) (m_isinstance : mg "isinstance" = none) (m_len : mg "len" = none) (m_list : mg "list" = none) (m_str : mg "str" = none) (m_tuple : mg "tuple" = none) (m_zip : mg "zip" = none) : ∀ fu, CalZ P w K mg base (0 + fu) "_law_same" 2 (f__law_same fu)
  | 0 => calZ Fu hm (bi__law_same Fu) (ok_none rfl)
  | fu + 1 =>
    have k__law_same := ok__law_same Fu hm m_all m_bool m_int m_isinstance m_len m_list m_str m_tuple m_zip fu
    calZ Fu hm (bi__law_same Fu) (okF (k := 0 + fu) (g := b__law_same (f__law_same fu)) Fu sc__law_same rfl rfl (fun cdv A outer s H E E' hr =>
    have hu := hr.units
    have hu2 := u65 hr
    have hN := sc__law_same.nd
    (zss_cons (zs_if (zt_val (ze_isiT m_isinstance (ze_var (pv 1)) (pa_tycons (pe_tyn m_list boot_list) (pa_tycons (pe_tyn m_tuple boot_tuple) pa_tynil)))) (zss_cons (zs_if (zt_w (zw_or (zt_cmp (op_neZ hu) os_ne (ze_isi1 m_isinstance (ze_var (pv 0)) (pe_tyn m_list boot_list)) (ze_isi1 m_isinstance (ze_var (pv 1)) (pe_tyn m_list boot_list)) (nomark _)) (zw_or1 (zt_cmp (op_neZ hu) os_ne (ze_isi1 m_isinstance (ze_var (pv 0)) (pe_tyn m_tuple boot_tuple)) (ze_isi1 m_isinstance (ze_var (pv 1)) (pe_tyn m_tuple boot_tuple)) (nomark _))))) (zss_one (zs_ret ze_bl)) zss_nil)
    (zss_one (zs_ret (ze_and (ze_cmp (op_eqZ hu) os_eq (ze_blt cr_len bs_len m_len boot_len (za_cons (ze_var (pv 0)) za_nil)) (ze_blt cr_len bs_len m_len boot_len (za_cons (ze_var (pv 1)) za_nil)) (nomark _)) (ze_one (ze_blt (cr_all rfl) bs_all m_all boot_all (za_cons (ze_lc fin_l rfl hN (zi_zip (by rfl) m_zip (za_cons (ze_var (pv 0)) (za_cons (ze_var (pv 1)) za_nil))) (blkOk_by (own := [("one", 2), ("other", 3)]) (by kernel_rfl)) (fun s H C cl fp => (zgw_tup rfl (zgsw_cons (zgw_name (i := 2) (pg_name hN rfl (by first | exact Or.inl rfl | exact Or.inr rfl))) (zgsw_cons (zgw_name (i := 3) (pg_name hN rfl (by first | exact Or.inl rfl | exact Or.inr rfl))) zgsw_nil)))) (fun s H C cl fp => zts_nil) (fun s H C cl fp => (ze_call k__law_same hr (by omega) (za_cons (ze_var (pv 2)) (za_cons (ze_var (pv 3)) za_nil)) (len_cons (len_cons len_nil))))) za_nil))))))) zss_nil)
    (zss_cons (zs_if (zt_w (zw_or (zt_cmp op_isZ os_is (ze_var (pv 1)) ze_non (nomark _)) (zw_or1 (zt_val (ze_isiT m_isinstance (ze_var (pv 1)) (pa_tycons (pe_tyn m_str boot_str) (pa_tycons (pe_tyn m_bool boot_bool) pa_tynil))))))) (zss_one (zs_ret (ze_and (ze_cmp (op_eqZ hu) os_eq (ze_isi1 m_isinstance (ze_var (pv 0)) (pe_tyn m_bool boot_bool)) (ze_isi1 m_isinstance (ze_var (pv 1)) (pe_tyn m_bool boot_bool)) (nomark _)) (ze_one (ze_cmp (op_eqZ hu) os_eq (ze_var (pv 0)) (ze_var (pv 1)) (nomark _)))))) zss_nil)
    (zss_one (zs_ret (ze_and (ze_isi1 m_isinstance (ze_var (pv 0)) (pe_tyn m_int boot_int)) (ze_and (ze_not (ze_isi1 m_isinstance (ze_var (pv 0)) (pe_tyn m_bool boot_bool))) (ze_one (ze_cmp (op_eqZ hu) os_eq (ze_var (pv 0)) (ze_var (pv 1)) (nomark _)))))))))))
theorem bi_Marks_many (Fu : FunD K d_Marks_many.name d_Marks_many.qual d_Marks_many.params d_Marks_many.body d_Marks_many.scope [] [] f fd) : Binds K fd ["self"] [] := Fu.bindsN fun _ _ _ _ _ _ us hl => match us, hl with | [_], _ => rfl
theorem ok_Marks_many (Fu : FunD K d_Marks_many.name d_Marks_many.qual d_Marks_many.params d_Marks_many.body d_Marks_many.scope [] [] f fd) (k_cls_Marks : Cls K (He.ga K "Marks")) (k_na_Marks_own_looks : NoAttr K (He.ga K "Marks") "own_looks") (k_na_Marks_own_marks : NoAttr K (He.ga K "Marks") "own_marks") (m_len : mg "len" = none) : FnOk P w K mg base CX0 1 f fd ["self"] (spZ K w 1 f_Marks_many) :=
  okF (k := 0) (g := b_Marks_many) Fu sc_Marks_many rfl rfl (fun cdv A outer s H E E' hr =>
    have hu := hr.units
    have hu2 := u65 hr
    have hN := sc_Marks_many.nd
    (zss_one (zs_ret (ze_lenK m_len (pe_scK rfl hN (zi_val (ze_fld "Marks" k_cls_Marks k_na_Marks_own_looks (ze_var (pv 0)))) (blkOk_by (own := [("look", 1)]) (by kernel_rfl)) (fun s H C cl fp => (zgw_name (i := 1) (pg_name hN rfl (by first | exact Or.inl rfl | exact Or.inr rfl)))) (fun s H C cl fp => zts_nil) (fun s H C cl fp => (ze_ix hu (ze_fld "Marks" k_cls_Marks k_na_Marks_own_marks (ze_var (pv 0))) (ze_var (pv 1)))))))))
theorem bi_Marks_mark (Fu : FunD K d_Marks_mark.name d_Marks_mark.qual d_Marks_mark.params d_Marks_mark.body d_Marks_mark.scope [] [] f fd) : Binds K fd ["self", "sight"] [] := Fu.bindsN fun _ _ _ _ _ _ us hl => match us, hl with | [_, _], _ => rfl
theorem ok_Marks_mark (Fu : FunD K d_Marks_mark.name d_Marks_mark.qual d_Marks_mark.params d_Marks_mark.body d_Marks_mark.scope [] [] f fd) (k_cls_Marks : Cls K (He.ga K "Marks")) (k_na_Marks_own_marks : NoAttr K (He.ga K "Marks") "own_marks") (k_na_Marks_own_wholes : NoAttr K (He.ga K "Marks") "own_wholes") (m_isinstance : mg "isinstance" = none) (m_str : mg "str" = none) : FnOk P w K mg base CX0 1 f fd ["self", "sight"] (spZ K w 2 f_Marks_mark) :=
  okF (k := 0) (g := b_Marks_mark) Fu sc_Marks_mark rfl rfl (fun cdv A outer s H E E' hr =>
    have hu := hr.units
    have hu2 := u65 hr
    have hN := sc_Marks_mark.nd
    (zss_cons (zs_if (zt_val (ze_isi1 m_isinstance (ze_var (pv 1)) (pe_tyn m_str boot_str))) (zss_one (zs_ret (ze_var (pv 1)))) zss_nil)
    (zss_cons (zs_set (i := 2) hN rfl (by first | exact Or.inl rfl | exact Or.inr rfl) (ze_ix hu (ze_fld "Marks" k_cls_Marks k_na_Marks_own_wholes (ze_var (pv 0))) (ze_ix hu (ze_var (pv 1)) ze_int)))
    (zss_one (zs_ret (ze_if (zt_cmp op_isZ os_is (ze_var (pv 2)) ze_non (nomark _)) (ze_ix hu (ze_fld "Marks" k_cls_Marks k_na_Marks_own_marks (ze_var (pv 0))) (ze_var (pv 1))) (ze_var (pv 2))))))))
theorem bi_Marks_parted_once (Fu : FunD K d_Marks_parted_once.name d_Marks_parted_once.qual d_Marks_parted_once.params d_Marks_parted_once.body d_Marks_parted_once.scope [] [] f fd) : Binds K fd ["self"] [] := Fu.bindsN fun _ _ _ _ _ _ us hl => match us, hl with | [_], _ => rfl
theorem ok_Marks_parted_once (Fu : FunD K d_Marks_parted_once.name d_Marks_parted_once.qual d_Marks_parted_once.params d_Marks_parted_once.body d_Marks_parted_once.scope [] [] f fd) (k_cls_Marks : Cls K (He.ga K "Marks")) (k_na_Marks_own_fours : NoAttr K (He.ga K "Marks") "own_fours") (k_na_Marks_own_looks : NoAttr K (He.ga K "Marks") "own_looks") (k_Marks_mark : MetZ P w K mg base 1 "Marks" "mark" 2 f_Marks_mark) (m_len : mg "len" = none) (m_tuple : mg "tuple" = none) : FnOk P w K mg base CX0 2 f fd ["self"] (spZ K w 1 f_Marks_parted_once) :=
  okF (k := 1) (g := b_Marks_parted_once) Fu sc_Marks_parted_once rfl rfl (fun cdv A outer s H E E' hr =>
    have hu := hr.units
    have hu2 := u65 hr
    have hN := sc_Marks_parted_once.nd
    (zss_cons (zs_par2 (fun h => ps_par (i := 2) (j := 3) rfl hN rfl rfl (by decide) rfl rfl h rfl) (za_cons ze_dcC (za_cons ze_dcC za_nil)))
    (zss_cons (zs_for PassesOwn.never rfl (zi_val (ze_fld "Marks" k_cls_Marks k_na_Marks_own_looks (ze_var (pv 0)))) (zg_name (i := 1) (pg_name hN rfl (by first | exact Or.inl rfl | exact Or.inr rfl))) (zss_cons (zs_set (i := 4) hN rfl (by first | exact Or.inl rfl | exact Or.inr rfl) (ze_bty cr_tuple bs_tuple m_tuple boot_tuple (za_cons (ze_lc fin_l rfl hN (zi_val (ze_ix hu (ze_fld "Marks" k_cls_Marks k_na_Marks_own_fours (ze_var (pv 0))) (ze_var (pv 1)))) (blkOk_by (own := [("sight", 5)]) (by kernel_rfl)) (fun s H C cl fp => (zgw_name (i := 5) (pg_name hN rfl (by first | exact Or.inl rfl | exact Or.inr rfl)))) (fun s H C cl fp => zts_nil) (fun s H C cl fp => (ze_meth k_Marks_mark hr (by omega) (ze_var (pv 0)) (za_cons (ze_var (pv 5)) za_nil) (len_cons len_nil)))) za_nil)))
    (zss_one (zs_asg (ze_setd hu (ze_var (pv 2)) (za_cons (ze_var (pv 4)) (za_cons (ze_blt cr_len bs_len m_len boot_len (za_cons (ze_var (pv 2)) za_nil)) za_nil))) (zg_sub hu (ze_var (pv 3)) (ze_var (pv 1)))))))
    (zss_one (zs_ret (ze_var (pv 3)))))))
theorem bi_Marks_part_on (Fu : FunD K d_Marks_part_on.name d_Marks_part_on.qual d_Marks_part_on.params d_Marks_part_on.body d_Marks_part_on.scope [] [] f fd) : Binds K fd ["self"] [] := Fu.bindsN fun _ _ _ _ _ _ us hl => match us, hl with | [_], _ => rfl
theorem ok_Marks_part_on (Fu : FunD K d_Marks_part_on.name d_Marks_part_on.qual d_Marks_part_on.params d_Marks_part_on.body d_Marks_part_on.scope [] [] f fd) (k_cls_Marks : Cls K (He.ga K "Marks")) (k_na_Marks_own_marks : NoAttr K (He.ga K "Marks") "own_marks") (k_Marks_many : MetZ P w K mg base 1 "Marks" "many" 1 f_Marks_many) (k_Marks_parted_once : MetZ P w K mg base 2 "Marks" "parted_once" 1 f_Marks_parted_once) : FnOk P w K mg base CX0 3 f fd ["self"] (spZ K w 1 f_Marks_part_on) :=
  okF (k := 2) (g := b_Marks_part_on) Fu sc_Marks_part_on rfl rfl (fun cdv A outer s H E E' hr =>
    have hu := hr.units
    have hu2 := u65 hr
    have hN := sc_Marks_part_on.nd
    (zss_cons (zs_set (i := 1) hN rfl (by first | exact Or.inl rfl | exact Or.inr rfl) ze_int)
    (zss_one (zs_while PassesOwn.never (zt_cmp op_ltZ os_lt (ze_var (pv 1)) (ze_meth0 k_Marks_many hr (by omega) (ze_var (pv 0))) (nomark _)) (zss_cons (zs_set (i := 1) hN rfl (by first | exact Or.inl rfl | exact Or.inr rfl) (ze_meth0 k_Marks_many hr (by omega) (ze_var (pv 0))))
    (zss_one (zs_fld "Marks" k_cls_Marks k_na_Marks_own_marks (ze_var (pv 0)) (ze_meth0 k_Marks_parted_once hr (by omega) (ze_var (pv 0))))))))))
theorem bi_shown (Fu : FunD K d_shown.name d_shown.qual d_shown.params d_shown.body d_shown.scope [] [] f fd) : Binds K fd ["turn", "quarter"] [] := Fu.bindsN fun _ _ _ _ _ _ us hl => match us, hl with | [_, _], _ => rfl
theorem ok_shown (Fu : FunD K d_shown.name d_shown.qual d_shown.params d_shown.body d_shown.scope [] [] f fd) (k_SHOWN : ConZ mg K w "SHOWN" c_SHOWN) : FnOk P w K mg base CX0 1 f fd ["turn", "quarter"] (spZ K w 2 f_shown) :=
  okF (k := 0) (g := b_shown) Fu sc_shown rfl rfl (fun cdv A outer s H E E' hr =>
    have hu := hr.units
    have hu2 := u65 hr
    have hN := sc_shown.nd
    (zss_one (zs_ret (ze_ix hu (ze_ix hu (ze_con k_SHOWN) (ze_var (pv 0))) (ze_var (pv 1))))))
theorem bi_turned (Fu : FunD K d_turned.name d_turned.qual d_turned.params d_turned.body d_turned.scope [] [] f fd) : Binds K fd ["sight", "turn"] [] := Fu.bindsN fun _ _ _ _ _ _ us hl => match us, hl with | [_, _], _ => rfl
theorem ok_turned (Fu : FunD K d_turned.name d_turned.qual d_turned.params d_turned.body d_turned.scope [] [] f fd) (k_behind : CalZ P w K mg base 1 "behind" 2 f_behind) (m_isinstance : mg "isinstance" = none) (m_str : mg "str" = none) : FnOk P w K mg base CX0 2 f fd ["sight", "turn"] (spZ K w 2 f_turned) :=
  okF (k := 1) (g := b_turned) Fu sc_turned rfl rfl (fun cdv A outer s H E E' hr =>
    have hu := hr.units
    have hu2 := u65 hr
    have hN := sc_turned.nd
    (zss_cons (zs_if (zt_val (ze_isi1 m_isinstance (ze_var (pv 0)) (pe_tyn m_str boot_str))) (zss_one (zs_ret (ze_var (pv 0)))) zss_nil)
    (zss_cons (zs_asg (ze_var (pv 0)) (zg_tup rfl (zgs_cons (zg_name (i := 2) (pg_name hN rfl (by first | exact Or.inl rfl | exact Or.inr rfl))) (zgs_cons (zg_name (i := 3) (pg_name hN rfl (by first | exact Or.inl rfl | exact Or.inr rfl))) zgs_nil))))
    (zss_one (zs_ret (ze_tup (za_cons (ze_var (pv 2)) (za_cons (ze_call k_behind hr (by omega) (za_cons (ze_var (pv 3)) (za_cons (ze_var (pv 1)) za_nil)) (len_cons (len_cons len_nil))) za_nil)) (len_cons (len_cons len_nil))))))))
theorem bi_quarter_of (Fu : FunD K d_quarter_of.name d_quarter_of.qual d_quarter_of.params d_quarter_of.body d_quarter_of.scope [] [] f fd) : Binds K fd ["house", "sight", "quarter"] [] := Fu.bindsN fun _ _ _ _ _ _ us hl => match us, hl with | [_, _, _], _ => rfl
theorem ok_quarter_of (Fu : FunD K d_quarter_of.name d_quarter_of.qual d_quarter_of.params d_quarter_of.body d_quarter_of.scope [] [] f fd) (k_shown : CalZ P w K mg base 1 "shown" 2 f_shown) (k_turned : CalZ P w K mg base 2 "turned" 2 f_turned) (m_isinstance : mg "isinstance" = none) (m_str : mg "str" = none) : FnOk P w K mg base CX0 3 f fd ["house", "sight", "quarter"] (spZ K w 3 f_quarter_of) :=
  okF (k := 2) (g := b_quarter_of) Fu sc_quarter_of rfl rfl (fun cdv A outer s H E E' hr =>
    have hu := hr.units
    have hu2 := u65 hr
    have hN := sc_quarter_of.nd
    (zss_cons (zs_if (zt_val (ze_isi1 m_isinstance (ze_var (pv 1)) (pe_tyn m_str boot_str))) (zss_one (zs_ret (ze_var (pv 1)))) zss_nil)
    (zss_cons (zs_asg (ze_var (pv 1)) (zg_tup rfl (zgs_cons (zg_name (i := 3) (pg_name hN rfl (by first | exact Or.inl rfl | exact Or.inr rfl))) (zgs_cons (zg_name (i := 4) (pg_name hN rfl (by first | exact Or.inl rfl | exact Or.inr rfl))) zgs_nil))))
    (zss_one (zs_ret (ze_call k_turned hr (by omega) (za_cons (ze_ix hu (ze_ix hu (ze_var (pv 0)) (ze_var (pv 3))) (ze_call k_shown hr (by omega) (za_cons (ze_var (pv 4)) (za_cons (ze_var (pv 2)) za_nil)) (len_cons (len_cons len_nil)))) (za_cons (ze_var (pv 4)) za_nil)) (len_cons (len_cons len_nil))))))))
theorem bi_quarters_of (Fu : FunD K d_quarters_of.name d_quarters_of.qual d_quarters_of.params d_quarters_of.body d_quarters_of.scope [] [] f fd) : Binds K fd ["house", "sight"] [] := Fu.bindsN fun _ _ _ _ _ _ us hl => match us, hl with | [_, _], _ => rfl
theorem ok_quarters_of (Fu : FunD K d_quarters_of.name d_quarters_of.qual d_quarters_of.params d_quarters_of.body d_quarters_of.scope [] [] f fd) (k_QUARTERS : ConZ mg K w "QUARTERS" c_QUARTERS) (k_quarter_of : CalZ P w K mg base 3 "quarter_of" 3 f_quarter_of) (m_range : mg "range" = none) : FnOk P w K mg base CX0 4 f fd ["house", "sight"] (spZ K w 2 f_quarters_of) :=
  okF (k := 3) (g := b_quarters_of) Fu sc_quarters_of rfl rfl (fun cdv A outer s H E E' hr =>
    have hu := hr.units
    have hu2 := u65 hr
    have hN := sc_quarters_of.nd
    (zss_one (zs_ret (ze_lc fin_l rfl hN (zi_rng1 (by rfl) m_range (za_cons (ze_con k_QUARTERS) za_nil)) (blkOk_by (own := [("quarter", 2)]) (by kernel_rfl)) (fun s H C cl fp => (zgw_name (i := 2) (pg_name hN rfl (by first | exact Or.inl rfl | exact Or.inr rfl)))) (fun s H C cl fp => zts_nil) (fun s H C cl fp => (ze_call k_quarter_of hr (by omega) (za_cons (ze_var (pv 0)) (za_cons (ze_var (pv 1)) (za_cons (ze_var (pv 2)) za_nil))) (len_cons (len_cons (len_cons len_nil)))))))))
theorem bi_one_of (Fu : FunD K d_one_of.name d_one_of.qual d_one_of.params d_one_of.body d_one_of.scope [] [] f fd) : Binds K fd ["values"] [] := Fu.bindsN fun _ _ _ _ _ _ us hl => match us, hl with | [_], _ => rfl
theorem ok_one_of (Fu : FunD K d_one_of.name d_one_of.qual d_one_of.params d_one_of.body d_one_of.scope [] [] f fd) (m_all : mg "all" = none) : FnOk P w K mg base CX0 1 f fd ["values"] (spZ K w 1 f_one_of) :=
  okF (k := 0) (g := b_one_of) Fu sc_one_of rfl rfl (fun cdv A outer s H E E' hr =>
    have hu := hr.units
    have hu2 := u65 hr
    have hN := sc_one_of.nd
    (zss_one (zs_ret (ze_if (zt_val (ze_blt (cr_all rfl) bs_all m_all boot_all (za_cons (ze_lc fin_l rfl hN (zi_val (ze_var (pv 0))) (blkOk_by (own := [("value", 1)]) (by kernel_rfl)) (fun s H C cl fp => (zgw_name (i := 1) (pg_name hN rfl (by first | exact Or.inl rfl | exact Or.inr rfl)))) (fun s H C cl fp => zts_nil) (fun s H C cl fp => (ze_cmp (op_eqZ hu) os_eq (ze_var (pv 1)) (ze_ix hu (ze_var (pv 0)) ze_int) (nomark _)))) za_nil))) (ze_ix hu (ze_var (pv 0)) ze_int) ze_non))))
theorem bi_wholes_of (Fu : FunD K d_wholes_of.name d_wholes_of.qual d_wholes_of.params d_wholes_of.body d_wholes_of.scope [] [] f fd) : Binds K fd ["house"] [] := Fu.bindsN fun _ _ _ _ _ _ us hl => match us, hl with | [_], _ => rfl
theorem ok_wholes_of (Fu : FunD K d_wholes_of.name d_wholes_of.qual d_wholes_of.params d_wholes_of.body d_wholes_of.scope [] [] f fd) (k_one_of : CalZ P w K mg base 1 "one_of" 1 f_one_of) (m_isinstance : mg "isinstance" = none) (m_str : mg "str" = none) : FnOk P w K mg base CX0 2 f fd ["house"] (spZ K w 1 f_wholes_of) :=
  okF (k := 1) (g := b_wholes_of) Fu sc_wholes_of rfl rfl (fun cdv A outer s H E E' hr =>
    have hu := hr.units
    have hu2 := u65 hr
    have hN := sc_wholes_of.nd
    (zss_cons (zs_set (i := 1) hN rfl (by first | exact Or.inl rfl | exact Or.inr rfl) (ze_lc fin_l rfl hN (zi_val (ze_var (pv 0))) (blkOk_by (own := [("pane", 3)]) (by kernel_rfl)) (fun s H C cl fp => (zgw_name (i := 3) (pg_name hN rfl (by first | exact Or.inl rfl | exact Or.inr rfl)))) (fun s H C cl fp => zts_nil) (fun s H C cl fp => ze_non)))
    (zss_cons (zs_for PassesOwn.never rfl (zi_val (ze_var (pv 0))) (zg_name (i := 2) (pg_name hN rfl (by first | exact Or.inl rfl | exact Or.inr rfl))) (zss_one (zs_set (i := 1) hN rfl (by first | exact Or.inl rfl | exact Or.inr rfl) (ze_lc fin_l rfl hN (zi_val (ze_var (pv 0))) (blkOk_by (own := [("pane", 3)]) (by kernel_rfl)) (fun s H C cl fp => (zgw_name (i := 3) (pg_name hN rfl (by first | exact Or.inl rfl | exact Or.inr rfl)))) (fun s H C cl fp => zts_nil) (fun s H C cl fp => (ze_call k_one_of hr (by omega) (za_cons (ze_lc fin_l rfl hN (zi_val (ze_var (pv 3))) (blkOk_by (own := [("one", 4)]) (by kernel_rfl)) (fun s H C cl fp => (zgw_name (i := 4) (pg_name hN rfl (by first | exact Or.inl rfl | exact Or.inr rfl)))) (fun s H C cl fp => zts_nil) (fun s H C cl fp => (ze_if (zt_val (ze_isi1 m_isinstance (ze_var (pv 4)) (pe_tyn m_str boot_str))) (ze_var (pv 4)) (ze_ix hu (ze_var (pv 1)) (ze_ix hu (ze_var (pv 4)) ze_int))))) za_nil) (len_cons len_nil)))))))
    (zss_one (zs_ret (ze_var (pv 1)))))))
theorem bi_Marks_init (Fu : FunD K d_Marks_init.name d_Marks_init.qual d_Marks_init.params d_Marks_init.body d_Marks_init.scope [] [] f fd) : Binds K fd ["self", "house"] [] := Fu.bindsN fun _ _ _ _ _ _ us hl => match us, hl with | [_, _], _ => rfl
theorem ok_Marks_init (Fu : FunD K d_Marks_init.name d_Marks_init.qual d_Marks_init.params d_Marks_init.body d_Marks_init.scope [] [] f fd) (k_SHOWN : ConZ mg K w "SHOWN" c_SHOWN) (k_quarters_of : CalZ P w K mg base 4 "quarters_of" 2 f_quarters_of) (k_wholes_of : CalZ P w K mg base 2 "wholes_of" 1 f_wholes_of) (k_cls_Marks : Cls K (He.ga K "Marks")) (k_na_Marks_own_fours : NoAttr K (He.ga K "Marks") "own_fours") (k_na_Marks_own_house : NoAttr K (He.ga K "Marks") "own_house") (k_na_Marks_own_looks : NoAttr K (He.ga K "Marks") "own_looks") (k_na_Marks_own_marks : NoAttr K (He.ga K "Marks") "own_marks") (k_na_Marks_own_wholes : NoAttr K (He.ga K "Marks") "own_wholes") (k_Marks_part_on : MetZ P w K mg base 3 "Marks" "part_on" 1 f_Marks_part_on) (m_enumerate : mg "enumerate" = none) (m_len : mg "len" = none) (m_range : mg "range" = none) : FnOk P w K mg base CX0 5 f fd ["self", "house"] (spZ K w 2 f_Marks_init) :=
  okF (k := 4) (g := b_Marks_init) Fu sc_Marks_init rfl rfl (fun cdv A outer s H E E' hr =>
    have hu := hr.units
    have hu2 := u65 hr
    have hN := sc_Marks_init.nd
    (zss_cons (zs_fld "Marks" k_cls_Marks k_na_Marks_own_house (ze_var (pv 0)) (ze_var (pv 1)))
    (zss_cons (zs_fld "Marks" k_cls_Marks k_na_Marks_own_wholes (ze_var (pv 0)) (ze_call k_wholes_of hr (by omega) (za_cons (ze_var (pv 1)) za_nil) (len_cons len_nil)))
    (zss_cons (zs_fld "Marks" k_cls_Marks k_na_Marks_own_looks (ze_var (pv 0)) (ze_lc2 (vs1 := [2]) fin_l rfl hN (zi_enum (by rfl) m_enumerate (za_cons (ze_fld "Marks" k_cls_Marks k_na_Marks_own_wholes (ze_var (pv 0))) za_nil)) (blkOk_by (own := [("pane", 4), ("whole", 5), ("turn", 2)]) (by kernel_rfl)) (by decide) (fun s H C cl fp => (zgw_tup rfl (zgsw_cons (zgw_name (i := 4) (pg_name hN rfl (by first | exact Or.inl rfl | exact Or.inr rfl))) (zgsw_cons (zgw_name (i := 5) (pg_name hN rfl (by first | exact Or.inl rfl | exact Or.inr rfl))) zgsw_nil)))) (fun s H C cl fp => (zts_one (zt_cmp op_isZ os_is (ze_var (pv 5)) ze_non (nomark _)))) (fun s H C cl fp => (zi_rng1 (by rfl) m_range (za_cons (ze_blt cr_len bs_len m_len boot_len (za_cons (ze_con k_SHOWN) za_nil)) za_nil))) (fun s H C cl fp => (zgw_name (i := 2) (pg_name hN rfl (by first | exact Or.inl rfl | exact Or.inr rfl)))) (fun s H C cl fp => zts_nil) (fun s H C cl fp => (ze_tup (za_cons (ze_var (pv 4)) (za_cons (ze_var (pv 2)) za_nil)) (len_cons (len_cons len_nil))))))
    (zss_cons (zs_fld "Marks" k_cls_Marks k_na_Marks_own_fours (ze_var (pv 0)) (ze_dc hu finG_d rfl hN (zi_val (ze_fld "Marks" k_cls_Marks k_na_Marks_own_looks (ze_var (pv 0)))) (blkOk_by (own := [("look", 3)]) (by kernel_rfl)) (fun s H C cl fp => (zgw_name (i := 3) (pg_name hN rfl (by first | exact Or.inl rfl | exact Or.inr rfl)))) (fun s H C cl fp => zts_nil) (fun s H C cl fp => (ze_var (pv 3))) (fun s H C cl fp => (ze_call k_quarters_of hr (by omega) (za_cons (ze_var (pv 1)) (za_cons (ze_var (pv 3)) za_nil)) (len_cons (len_cons len_nil))))))
    (zss_cons (zs_fld "Marks" k_cls_Marks k_na_Marks_own_marks (ze_var (pv 0)) (ze_dc hu finG_d rfl hN (zi_val (ze_fld "Marks" k_cls_Marks k_na_Marks_own_looks (ze_var (pv 0)))) (blkOk_by (own := [("look", 3)]) (by kernel_rfl)) (fun s H C cl fp => (zgw_name (i := 3) (pg_name hN rfl (by first | exact Or.inl rfl | exact Or.inr rfl)))) (fun s H C cl fp => zts_nil) (fun s H C cl fp => (ze_var (pv 3))) (fun s H C cl fp => ze_int)))
    (zss_one (zs_drop (ze_meth0 k_Marks_part_on hr (by omega) (ze_var (pv 0)))))))))))
theorem bi_alike (Fu : FunD K d_alike.name d_alike.qual d_alike.params d_alike.body d_alike.scope [] [] f fd) : Binds K fd ["house", "one", "other"] [] := Fu.bindsN fun _ _ _ _ _ _ us hl => match us, hl with | [_, _, _], _ => rfl
theorem ok_alike (Fu : FunD K d_alike.name d_alike.qual d_alike.params d_alike.body d_alike.scope [] [] f fd) (k_mk_Marks : MakZ P w K mg base 5 "Marks" 2 f_Marks_init) (k_Marks_mark : MetZ P w K mg base 1 "Marks" "mark" 2 f_Marks_mark) : FnOk P w K mg base CX0 7 f fd ["house", "one", "other"] (spZ K w 3 f_alike) :=
  okF (k := 6) (g := b_alike) Fu sc_alike rfl rfl (fun cdv A outer s H E E' hr =>
    have hu := hr.units
    have hu2 := u65 hr
    have hN := sc_alike.nd
    (zss_cons (zs_set (i := 3) hN rfl (by first | exact Or.inl rfl | exact Or.inr rfl) (ze_make k_mk_Marks hr (by omega) (za_cons (ze_var (pv 0)) za_nil) (len_cons len_nil)))
    (zss_one (zs_ret (ze_cmp (op_eqZ hu) os_eq (ze_meth k_Marks_mark hr (by omega) (ze_var (pv 3)) (za_cons (ze_var (pv 1)) za_nil) (len_cons len_nil)) (ze_meth k_Marks_mark hr (by omega) (ze_var (pv 3)) (za_cons (ze_var (pv 2)) za_nil) (len_cons len_nil)) (nomark _))))))
theorem bi_sight_at (Fu : FunD K d_sight_at.name d_sight_at.qual d_sight_at.params d_sight_at.body d_sight_at.scope [] [] f fd) : Binds K fd ["house", "sight", "row"] [] := Fu.bindsN fun _ _ _ _ _ _ us hl => match us, hl with | [_, _, _], _ => rfl
theorem ok_sight_at (Fu : FunD K d_sight_at.name d_sight_at.qual d_sight_at.params d_sight_at.body d_sight_at.scope [] [] f fd) (k_quarter_of : CalZ P w K mg base 3 "quarter_of" 3 f_quarter_of) : FnOk P w K mg base CX0 4 f fd ["house", "sight", "row"] (spZ K w 3 f_sight_at) :=
  okF (k := 3) (g := b_sight_at) Fu sc_sight_at rfl rfl (fun cdv A outer s H E E' hr =>
    have hu := hr.units
    have hu2 := u65 hr
    have hN := sc_sight_at.nd
    (zss_cons (zs_for PassesOwn.never rfl (zi_val (ze_var (pv 2))) (zg_name (i := 3) (pg_name hN rfl (by first | exact Or.inl rfl | exact Or.inr rfl))) (zss_one (zs_set (i := 1) hN rfl (by first | exact Or.inl rfl | exact Or.inr rfl) (ze_call k_quarter_of hr (by omega) (za_cons (ze_var (pv 0)) (za_cons (ze_var (pv 1)) (za_cons (ze_var (pv 3)) za_nil))) (len_cons (len_cons (len_cons len_nil)))))))
    (zss_one (zs_ret (ze_var (pv 1))))))
theorem bi_colour_at (Fu : FunD K d_colour_at.name d_colour_at.qual d_colour_at.params d_colour_at.body d_colour_at.scope [] [] f fd) : Binds K fd ["house", "sight", "spot"] [] := Fu.bindsN fun _ _ _ _ _ _ us hl => match us, hl with | [_, _, _], _ => rfl
theorem ok_colour_at (Fu : FunD K d_colour_at.name d_colour_at.qual d_colour_at.params d_colour_at.body d_colour_at.scope [] [] f fd) (k_sight_at : CalZ P w K mg base 4 "sight_at" 3 f_sight_at) (m_isinstance : mg "isinstance" = none) (m_str : mg "str" = none) : FnOk P w K mg base CX0 5 f fd ["house", "sight", "spot"] (spZ K w 3 f_colour_at) :=
  okF (k := 4) (g := b_colour_at) Fu sc_colour_at rfl rfl (fun cdv A outer s H E E' hr =>
    have hu := hr.units
    have hu2 := u65 hr
    have hN := sc_colour_at.nd
    (zss_cons (zs_asg (ze_var (pv 2)) (zg_tup rfl (zgs_cons (zg_name (i := 3) (pg_name hN rfl (by first | exact Or.inl rfl | exact Or.inr rfl))) (zgs_cons (zg_name (i := 4) (pg_name hN rfl (by first | exact Or.inl rfl | exact Or.inr rfl))) zgs_nil))))
    (zss_cons (zs_par2 (fun h => ps_par (i := 5) (j := 6) rfl hN rfl rfl (by decide) rfl rfl h rfl) (za_cons (ze_call k_sight_at hr (by omega) (za_cons (ze_var (pv 0)) (za_cons (ze_var (pv 1)) (za_cons (ze_var (pv 3)) za_nil))) (len_cons (len_cons (len_cons len_nil)))) (za_cons ze_dcC za_nil)))
    (zss_cons (zs_while PassesOwn.never (zt_not (zt_val (ze_isi1 m_isinstance (ze_var (pv 5)) (pe_tyn m_str boot_str)))) (zss_cons (zs_if (zt_cmp (op_inZ hu2) os_in (ze_var (pv 5)) (ze_var (pv 6)) (by with_unfolding_all rfl)) (zss_one (zs_ret ze_non)) zss_nil)
    (zss_cons (zs_asg ze_bl (zg_sub hu (ze_var (pv 6)) (ze_var (pv 5))))
    (zss_one (zs_set (i := 5) hN rfl (by first | exact Or.inl rfl | exact Or.inr rfl) (ze_call k_sight_at hr (by omega) (za_cons (ze_var (pv 0)) (za_cons (ze_var (pv 5)) (za_cons (ze_var (pv 4)) za_nil))) (len_cons (len_cons (len_cons len_nil)))))))))
    (zss_one (zs_ret (ze_var (pv 5))))))))
theorem bi_power (Fu : FunD K d_power.name d_power.qual d_power.params d_power.body d_power.scope [] [] f fd) : Binds K fd ["base", "many"] [] := Fu.bindsN fun _ _ _ _ _ _ us hl => match us, hl with | [_, _], _ => rfl
theorem ok_power (Fu : FunD K d_power.name d_power.qual d_power.params d_power.body d_power.scope [] [] f fd) (m_range : mg "range" = none) : FnOk P w K mg base CX0 1 f fd ["base", "many"] (spZ K w 2 f_power) :=
  okF (k := 0) (g := b_power) Fu sc_power rfl rfl (fun cdv A outer s H E E' hr =>
    have hu := hr.units
    have hu2 := u65 hr
    have hN := sc_power.nd
    (zss_cons (zs_set (i := 2) hN rfl (by first | exact Or.inl rfl | exact Or.inr rfl) ze_int)
    (zss_cons (zs_for PassesOwn.never rfl (zi_rng1 (by rfl) m_range (za_cons (ze_var (pv 1)) za_nil)) (zg_name (i := 3) (pg_name hN rfl (by first | exact Or.inl rfl | exact Or.inr rfl))) (zss_one (zs_aug (i := 2) hN rfl (by first | exact Or.inl rfl | exact Or.inr rfl) (ze_var (pv 0)) ip_mulI os_mulI)))
    (zss_one (zs_ret (ze_var (pv 2)))))))
theorem bi_whole_by (Fu : FunD K d_whole_by.name d_whole_by.qual d_whole_by.params d_whole_by.body d_whole_by.scope [] [] f fd) : Binds K fd ["wholes", "sight"] [] := Fu.bindsN fun _ _ _ _ _ _ us hl => match us, hl with | [_, _], _ => rfl
theorem ok_whole_by (Fu : FunD K d_whole_by.name d_whole_by.qual d_whole_by.params d_whole_by.body d_whole_by.scope [] [] f fd) (m_isinstance : mg "isinstance" = none) (m_str : mg "str" = none) : FnOk P w K mg base CX0 1 f fd ["wholes", "sight"] (spZ K w 2 f_whole_by) :=
  okF (k := 0) (g := b_whole_by) Fu sc_whole_by rfl rfl (fun cdv A outer s H E E' hr =>
    have hu := hr.units
    have hu2 := u65 hr
    have hN := sc_whole_by.nd
    (zss_one (zs_ret (ze_if (zt_val (ze_isi1 m_isinstance (ze_var (pv 1)) (pe_tyn m_str boot_str))) (ze_var (pv 1)) (ze_ix hu (ze_var (pv 0)) (ze_ix hu (ze_var (pv 1)) ze_int))))))
theorem bi_rows_of (Fu : FunD K d_rows_of.name d_rows_of.qual d_rows_of.params d_rows_of.body d_rows_of.scope [] [] f fd) : Binds K fd ["house", "wholes", "sight", "depth"] [] := Fu.bindsN fun _ _ _ _ _ _ us hl => match us, hl with | [_, _, _, _], _ => rfl
theorem ok_rows_of (Fu : FunD K d_rows_of.name d_rows_of.qual d_rows_of.params d_rows_of.body d_rows_of.scope [] [] f fd) (hm : mg "rows_of" = some (.ref f)) (k_power : CalZ P w K mg base 1 "power" 2 f_power) (k_quarters_of : CalZ P w K mg base 4 "quarters_of" 2 f_quarters_of) (k_whole_by : CalZ P w K mg base 1 "whole_by" 2 f_whole_by) (m_isinstance : mg "isinstance" = none) (m_range : mg "range" = none) (m_str : mg "str" = none) (m_zip : mg "zip" = none) : ∀ fu, CalZ P w K mg base (4 + fu) "rows_of" 4 (f_rows_of fu)
  | 0 => calZ Fu hm (bi_rows_of Fu) (ok_none rfl)
  | fu + 1 =>
    have k_rows_of := ok_rows_of Fu hm k_power k_quarters_of k_whole_by m_isinstance m_range m_str m_zip fu
    calZ Fu hm (bi_rows_of Fu) (okF (k := 4 + fu) (g := b_rows_of (f_rows_of fu)) Fu sc_rows_of rfl rfl (fun cdv A outer s H E E' hr =>
    have hu := hr.units
    have hu2 := u65 hr
    have hN := sc_rows_of.nd
    (zss_cons (zs_if (zt_w (zw_or (zt_cmp (op_eqZ hu) os_eq (ze_var (pv 3)) ze_int (nomark _)) (zw_or1 (zt_val (ze_isi1 m_isinstance (ze_var (pv 2)) (pe_tyn m_str boot_str)))))) (zss_cons (zs_set (i := 4) hN rfl (by first | exact Or.inl rfl | exact Or.inr rfl) (ze_call k_power hr (by omega) (za_cons ze_int (za_cons (ze_var (pv 3)) za_nil)) (len_cons (len_cons len_nil))))
    (zss_one (zs_ret (ze_lc fin_l rfl hN (zi_rng1 (by rfl) m_range (za_cons (ze_var (pv 4)) za_nil)) (blkOk_by (own := [("row", 10)]) (by kernel_rfl)) (fun s H C cl fp => (zgw_name (i := 10) (pg_name hN rfl (by first | exact Or.inl rfl | exact Or.inr rfl)))) (fun s H C cl fp => zts_nil) (fun s H C cl fp => (ze_op op_mulZ os_mul (ze_lst (za_cons (ze_call k_whole_by hr (by omega) (za_cons (ze_var (pv 1)) (za_cons (ze_var (pv 2)) za_nil)) (len_cons (len_cons len_nil))) za_nil) (len_cons len_nil)) (ze_var (pv 4)))))))) zss_nil)
    (zss_cons (zs_asg (ze_lc fin_l rfl hN (zi_val (ze_call k_quarters_of hr (by omega) (za_cons (ze_var (pv 0)) (za_cons (ze_var (pv 2)) za_nil)) (len_cons (len_cons len_nil)))) (blkOk_by (own := [("part", 9)]) (by kernel_rfl)) (fun s H C cl fp => (zgw_name (i := 9) (pg_name hN rfl (by first | exact Or.inl rfl | exact Or.inr rfl)))) (fun s H C cl fp => zts_nil) (fun s H C cl fp => (ze_call k_rows_of hr (by omega) (za_cons (ze_var (pv 0)) (za_cons (ze_var (pv 1)) (za_cons (ze_var (pv 9)) (za_cons (ze_op op_sub os_sub (ze_var (pv 3)) ze_int) za_nil)))) (len_cons (len_cons (len_cons (len_cons len_nil))))))) (zg_tup rfl (zgs_cons (zg_name (i := 5) (pg_name hN rfl (by first | exact Or.inl rfl | exact Or.inr rfl))) (zgs_cons (zg_name (i := 6) (pg_name hN rfl (by first | exact Or.inl rfl | exact Or.inr rfl))) (zgs_cons (zg_name (i := 7) (pg_name hN rfl (by first | exact Or.inl rfl | exact Or.inr rfl))) (zgs_cons (zg_name (i := 8) (pg_name hN rfl (by first | exact Or.inl rfl | exact Or.inr rfl))) zgs_nil))))))
    (zss_one (zs_ret (ze_lc fin_l rfl hN (zi_zipS (by rfl) m_zip (za_cons (ze_op op_addZ os_add (ze_var (pv 5)) (ze_var (pv 7))) (za_cons (ze_op op_addZ os_add (ze_var (pv 6)) (ze_var (pv 8))) za_nil))) (blkOk_by (own := [("left", 11), ("right", 12)]) (by kernel_rfl)) (fun s H C cl fp => (zgw_tup rfl (zgsw_cons (zgw_name (i := 11) (pg_name hN rfl (by first | exact Or.inl rfl | exact Or.inr rfl))) (zgsw_cons (zgw_name (i := 12) (pg_name hN rfl (by first | exact Or.inl rfl | exact Or.inr rfl))) zgsw_nil)))) (fun s H C cl fp => zts_nil) (fun s H C cl fp => (ze_op op_addZ os_add (ze_var (pv 11)) (ze_var (pv 12)))))))))))
theorem bi_drawn (Fu : FunD K d_drawn.name d_drawn.qual d_drawn.params d_drawn.body d_drawn.scope [] [] f fd) : Binds K fd ["house", "sight", "depth"] [] := Fu.bindsN fun _ _ _ _ _ _ us hl => match us, hl with | [_, _, _], _ => rfl
theorem ok_drawn (Fu : FunD K d_drawn.name d_drawn.qual d_drawn.params d_drawn.body d_drawn.scope [] [] f fd) (k_rows_of : CalZ P w K mg base 8 "rows_of" 4 (f_rows_of 4)) (k_wholes_of : CalZ P w K mg base 2 "wholes_of" 1 f_wholes_of) : FnOk P w K mg base CX0 9 f fd ["house", "sight", "depth"] (spZ K w 3 f_drawn) :=
  okF (k := 8) (g := b_drawn) Fu sc_drawn rfl rfl (fun cdv A outer s H E E' hr =>
    have hu := hr.units
    have hu2 := u65 hr
    have hN := sc_drawn.nd
    (zss_one (zs_ret (ze_call k_rows_of hr (by omega) (za_cons (ze_var (pv 0)) (za_cons (ze_call k_wholes_of hr (by omega) (za_cons (ze_var (pv 0)) za_nil) (len_cons len_nil)) (za_cons (ze_var (pv 1)) (za_cons (ze_var (pv 2)) za_nil)))) (len_cons (len_cons (len_cons (len_cons len_nil))))))))
theorem bi_row_seen (Fu : FunD K d_row_seen.name d_row_seen.qual d_row_seen.params d_row_seen.body d_row_seen.scope [] [] f fd) : Binds K fd ["turn", "row"] [] := Fu.bindsN fun _ _ _ _ _ _ us hl => match us, hl with | [_, _], _ => rfl
theorem ok_row_seen (Fu : FunD K d_row_seen.name d_row_seen.qual d_row_seen.params d_row_seen.body d_row_seen.scope [] [] f fd) (k_shown : CalZ P w K mg base 1 "shown" 2 f_shown) (m_tuple : mg "tuple" = none) : FnOk P w K mg base CX0 2 f fd ["turn", "row"] (spZ K w 2 f_row_seen) :=
  okF (k := 1) (g := b_row_seen) Fu sc_row_seen rfl rfl (fun cdv A outer s H E E' hr =>
    have hu := hr.units
    have hu2 := u65 hr
    have hN := sc_row_seen.nd
    (zss_one (zs_ret (ze_bty cr_tuple bs_tuple m_tuple boot_tuple (za_cons (ze_lc fin_l rfl hN (zi_val (ze_var (pv 1))) (blkOk_by (own := [("quarter", 2)]) (by kernel_rfl)) (fun s H C cl fp => (zgw_name (i := 2) (pg_name hN rfl (by first | exact Or.inl rfl | exact Or.inr rfl)))) (fun s H C cl fp => zts_nil) (fun s H C cl fp => (ze_call k_shown hr (by omega) (za_cons (ze_var (pv 0)) (za_cons (ze_var (pv 2)) za_nil)) (len_cons (len_cons len_nil))))) za_nil)))))
theorem bi_whole_of (Fu : FunD K d_whole_of.name d_whole_of.qual d_whole_of.params d_whole_of.body d_whole_of.scope [] [] f fd) : Binds K fd ["house", "sight"] [] := Fu.bindsN fun _ _ _ _ _ _ us hl => match us, hl with | [_, _], _ => rfl
theorem ok_whole_of (Fu : FunD K d_whole_of.name d_whole_of.qual d_whole_of.params d_whole_of.body d_whole_of.scope [] [] f fd) (k_mk_Marks : MakZ P w K mg base 5 "Marks" 2 f_Marks_init) (k_Marks_mark : MetZ P w K mg base 1 "Marks" "mark" 2 f_Marks_mark) (m_isinstance : mg "isinstance" = none) (m_str : mg "str" = none) : FnOk P w K mg base CX0 7 f fd ["house", "sight"] (spZ K w 2 f_whole_of) :=
  okF (k := 6) (g := b_whole_of) Fu sc_whole_of rfl rfl (fun cdv A outer s H E E' hr =>
    have hu := hr.units
    have hu2 := u65 hr
    have hN := sc_whole_of.nd
    (zss_cons (zs_set (i := 2) hN rfl (by first | exact Or.inl rfl | exact Or.inr rfl) (ze_meth k_Marks_mark hr (by omega) (ze_make k_mk_Marks hr (by omega) (za_cons (ze_var (pv 0)) za_nil) (len_cons len_nil)) (za_cons (ze_var (pv 1)) za_nil) (len_cons len_nil)))
    (zss_one (zs_ret (ze_if (zt_val (ze_isi1 m_isinstance (ze_var (pv 2)) (pe_tyn m_str boot_str))) (ze_var (pv 2)) ze_non)))))
theorem bi__law_spiral_right (Fu : FunD K d__law_spiral_right.name d__law_spiral_right.qual d__law_spiral_right.params d__law_spiral_right.body d__law_spiral_right.scope [] [] f fd) : Binds K fd ["box", "rooms", "pic", "path", "tour"] [] := Fu.bindsN fun _ _ _ _ _ _ us hl => match us, hl with | [_, _, _, _, _], _ => rfl
theorem ok__law_spiral_right (Fu : FunD K d__law_spiral_right.name d__law_spiral_right.qual d__law_spiral_right.params d__law_spiral_right.body d__law_spiral_right.scope [] [] f fd) (k__law_same : CalZ P w K mg base 4 "_law_same" 2 (f__law_same 4)) (k__law_take : CalZ P w K mg base 1 "_law_take" 2 f__law_take) (k_alike : CalZ P w K mg base 7 "alike" 3 f_alike) (k_back : CalZ P w K mg base 2 "back" 1 f_back) (k_behind : CalZ P w K mg base 1 "behind" 2 f_behind) (k_colour_at : CalZ P w K mg base 5 "colour_at" 3 f_colour_at) (k_drawn : CalZ P w K mg base 9 "drawn" 3 f_drawn) (k_row_seen : CalZ P w K mg base 2 "row_seen" 2 f_row_seen) (k_sight_at : CalZ P w K mg base 4 "sight_at" 3 f_sight_at) (k_turned : CalZ P w K mg base 2 "turned" 2 f_turned) (k_whole_of : CalZ P w K mg base 7 "whole_of" 2 f_whole_of) (m_range : mg "range" = none) (m_repr : mg "repr" = none) (m_tuple : mg "tuple" = none) : FnOk P w K mg base CX0 10 f fd ["box", "rooms", "pic", "path", "tour"] (spZ K w 5 f__law_spiral_right) :=
  okF (k := 9) (g := b__law_spiral_right) Fu sc__law_spiral_right rfl rfl (fun cdv A outer s H E E' hr =>
    have hu := hr.units
    have hu2 := u65 hr
    have hN := sc__law_spiral_right.nd
    (zss_cons (zs_asg (ze_tup (za_cons (ze_tup za_nil len_nil) (za_cons ze_int (za_cons ze_int za_nil))) (len_cons (len_cons (len_cons len_nil)))) (zg_tup rfl (zgs_cons (zg_name (i := 7) (pg_name hN rfl (by first | exact Or.inl rfl | exact Or.inr rfl))) (zgs_cons (zg_name (i := 8) (pg_name hN rfl (by first | exact Or.inl rfl | exact Or.inr rfl))) (zgs_cons (zg_name (i := 9) (pg_name hN rfl (by first | exact Or.inl rfl | exact Or.inr rfl))) zgs_nil)))))
    (zss_cons (zs_for PassesOwn.never rfl (zi_rng1 (by rfl) m_range (za_cons ze_int za_nil)) (zg_name (i := 5) (pg_name hN rfl (by first | exact Or.inl rfl | exact Or.inr rfl))) (zss_cons (zs_set (i := 7) hN rfl (by first | exact Or.inl rfl | exact Or.inr rfl) (ze_op op_addZ os_add (ze_var (pv 7)) (ze_call k_row_seen hr (by omega) (za_cons (ze_call k_back hr (by omega) (za_cons (ze_var (pv 8)) za_nil) (len_cons len_nil)) (za_cons (ze_var (pv 3)) za_nil)) (len_cons (len_cons len_nil)))))
    (zss_cons (zs_par2 (fun h => ps_par (i := 8) (j := 9) rfl hN rfl rfl (by decide) rfl rfl h rfl) (za_cons (ze_call k_behind hr (by omega) (za_cons (ze_var (pv 8)) (za_cons (ze_var (pv 4)) za_nil)) (len_cons (len_cons len_nil))) (za_cons (ze_op op_addZ os_add (ze_var (pv 9)) ze_int) za_nil)))
    (zss_cons (zs_if (zt_not (zt_val (ze_call k_alike hr (by omega) (za_cons (ze_var (pv 1)) (za_cons (ze_call k_sight_at hr (by omega) (za_cons (ze_var (pv 1)) (za_cons (ze_var (pv 2)) (za_cons (ze_var (pv 7)) za_nil))) (len_cons (len_cons (len_cons len_nil)))) (za_cons (ze_call k_turned hr (by omega) (za_cons (ze_var (pv 2)) (za_cons (ze_var (pv 8)) za_nil)) (len_cons (len_cons len_nil))) za_nil))) (len_cons (len_cons (len_cons len_nil)))))) (zss_one (zs_ret ze_bl)) zss_nil)
    (zss_one (zs_if (zt_cmp (op_eqZ hu) os_eq (ze_var (pv 8)) ze_int (nomark _)) (zss_one zs_brk) zss_nil))))))
    (zss_cons (zs_if (zt_w (zw_or (zt_cmp (op_neZ hu) os_ne (ze_var (pv 8)) ze_int (nomark _)) (zw_or1 (zt_cmp (op_notInZ hu2) os_notIn (ze_var (pv 9)) (ze_tup (za_cons ze_int (za_cons ze_int (za_cons ze_int za_nil))) (len_cons (len_cons (len_cons len_nil)))) (by with_unfolding_all rfl))))) (zss_one (zs_ret ze_bl)) zss_nil)
    (zss_cons (zs_set (i := 6) hN rfl (by first | exact Or.inl rfl | exact Or.inr rfl) (ze_tup (za_cons (ze_bty cr_tuple bs_tuple m_tuple boot_tuple (za_cons (ze_lc fin_l rfl hN (zi_rng1 (by rfl) m_range (za_cons (ze_call k__law_take hr (by omega) (za_cons (ze_var (pv 0)) (za_cons ze_int za_nil)) (len_cons (len_cons len_nil))) za_nil)) (blkOk_by (own := [("k", 10)]) (by kernel_rfl)) (fun s H C cl fp => (zgw_name (i := 10) (pg_name hN rfl (by first | exact Or.inl rfl | exact Or.inr rfl)))) (fun s H C cl fp => zts_nil) (fun s H C cl fp => (ze_call k__law_take hr (by omega) (za_cons (ze_var (pv 0)) (za_cons ze_int za_nil)) (len_cons (len_cons len_nil))))) za_nil)) (za_cons (ze_tup (za_cons (ze_call k__law_take hr (by omega) (za_cons (ze_var (pv 0)) (za_cons ze_int za_nil)) (len_cons (len_cons len_nil))) (za_cons (ze_call k__law_take hr (by omega) (za_cons (ze_var (pv 0)) (za_cons ze_int za_nil)) (len_cons (len_cons len_nil))) za_nil)) (len_cons (len_cons len_nil))) za_nil)) (len_cons (len_cons len_nil))))
    (zss_cons (zs_if (zt_cmp (op_neZ hu) os_ne (ze_blt cr_repr bs_repr m_repr boot_repr (za_cons (ze_call k_colour_at hr (by omega) (za_cons (ze_var (pv 1)) (za_cons (ze_var (pv 2)) (za_cons (ze_tup (za_cons (ze_op op_addZ os_add (ze_var (pv 7)) (ze_ix hu (ze_var (pv 6)) ze_int)) (za_cons (ze_ix hu (ze_var (pv 6)) ze_int) za_nil)) (len_cons (len_cons len_nil))) za_nil))) (len_cons (len_cons (len_cons len_nil)))) za_nil)) (ze_blt cr_repr bs_repr m_repr boot_repr (za_cons (ze_call k_colour_at hr (by omega) (za_cons (ze_var (pv 1)) (za_cons (ze_var (pv 2)) (za_cons (ze_var (pv 6)) za_nil))) (len_cons (len_cons (len_cons len_nil)))) za_nil)) (nomark _)) (zss_one (zs_ret ze_bl)) zss_nil)
    (zss_cons (zs_if (zt_not (zt_val (ze_call k__law_same hr (by omega) (za_cons (ze_call k_drawn hr (by omega) (za_cons (ze_var (pv 1)) (za_cons (ze_call k_sight_at hr (by omega) (za_cons (ze_var (pv 1)) (za_cons (ze_var (pv 2)) (za_cons (ze_var (pv 7)) za_nil))) (len_cons (len_cons (len_cons len_nil)))) (za_cons ze_int za_nil))) (len_cons (len_cons (len_cons len_nil)))) (za_cons (ze_call k_drawn hr (by omega) (za_cons (ze_var (pv 1)) (za_cons (ze_var (pv 2)) (za_cons ze_int za_nil))) (len_cons (len_cons (len_cons len_nil)))) za_nil)) (len_cons (len_cons len_nil))))) (zss_one (zs_ret ze_bl)) zss_nil)
    (zss_one (zs_ret (ze_call k__law_same hr (by omega) (za_cons (ze_call k_colour_at hr (by omega) (za_cons (ze_var (pv 1)) (za_cons (ze_var (pv 2)) (za_cons (ze_tup (za_cons (ze_tup za_nil len_nil) (za_cons (ze_var (pv 7)) za_nil)) (len_cons (len_cons len_nil))) za_nil))) (len_cons (len_cons (len_cons len_nil)))) (za_cons (ze_call k_whole_of hr (by omega) (za_cons (ze_var (pv 1)) (za_cons (ze_var (pv 2)) za_nil)) (len_cons (len_cons len_nil))) za_nil)) (len_cons (len_cons len_nil))))))))))))
theorem bi_turns_by (Fu : FunD K d_turns_by.name d_turns_by.qual d_turns_by.params d_turns_by.body d_turns_by.scope [] [] f fd) : Binds K fd ["marks", "one", "other"] [] := Fu.bindsN fun _ _ _ _ _ _ us hl => match us, hl with | [_, _, _], _ => rfl
theorem ok_turns_by (Fu : FunD K d_turns_by.name d_turns_by.qual d_turns_by.params d_turns_by.body d_turns_by.scope [] [] f fd) (k_SHOWN : ConZ mg K w "SHOWN" c_SHOWN) (k_turned : CalZ P w K mg base 2 "turned" 2 f_turned) (k_Marks_mark : MetZ P w K mg base 1 "Marks" "mark" 2 f_Marks_mark) (m_len : mg "len" = none) (m_range : mg "range" = none) : FnOk P w K mg base CX0 3 f fd ["marks", "one", "other"] (spZ K w 3 f_turns_by) :=
  okF (k := 2) (g := b_turns_by) Fu sc_turns_by rfl rfl (fun cdv A outer s H E E' hr =>
    have hu := hr.units
    have hu2 := u65 hr
    have hN := sc_turns_by.nd
    (zss_one (zs_ret (ze_lc fin_l rfl hN (zi_rng1 (by rfl) m_range (za_cons (ze_blt cr_len bs_len m_len boot_len (za_cons (ze_con k_SHOWN) za_nil)) za_nil)) (blkOk_by (own := [("turn", 3)]) (by kernel_rfl)) (fun s H C cl fp => (zgw_name (i := 3) (pg_name hN rfl (by first | exact Or.inl rfl | exact Or.inr rfl)))) (fun s H C cl fp => (zts_one (zt_cmp (op_eqZ hu) os_eq (ze_meth k_Marks_mark hr (by omega) (ze_var (pv 0)) (za_cons (ze_call k_turned hr (by omega) (za_cons (ze_var (pv 1)) (za_cons (ze_var (pv 3)) za_nil)) (len_cons (len_cons len_nil))) za_nil) (len_cons len_nil)) (ze_meth k_Marks_mark hr (by omega) (ze_var (pv 0)) (za_cons (ze_var (pv 2)) za_nil) (len_cons len_nil)) (nomark _)))) (fun s H C cl fp => (ze_var (pv 3)))))))
theorem bi_turns_between (Fu : FunD K d_turns_between.name d_turns_between.qual d_turns_between.params d_turns_between.body d_turns_between.scope [] [] f fd) : Binds K fd ["house", "one", "other"] [] := Fu.bindsN fun _ _ _ _ _ _ us hl => match us, hl with | [_, _, _], _ => rfl
theorem ok_turns_between (Fu : FunD K d_turns_between.name d_turns_between.qual d_turns_between.params d_turns_between.body d_turns_between.scope [] [] f fd) (k_turns_by : CalZ P w K mg base 3 "turns_by" 3 f_turns_by) (k_mk_Marks : MakZ P w K mg base 5 "Marks" 2 f_Marks_init) : FnOk P w K mg base CX0 7 f fd ["house", "one", "other"] (spZ K w 3 f_turns_between) :=
  okF (k := 6) (g := b_turns_between) Fu sc_turns_between rfl rfl (fun cdv A outer s H E E' hr =>
    have hu := hr.units
    have hu2 := u65 hr
    have hN := sc_turns_between.nd
    (zss_one (zs_ret (ze_call k_turns_by hr (by omega) (za_cons (ze_make k_mk_Marks hr (by omega) (za_cons (ze_var (pv 0)) za_nil) (len_cons len_nil)) (za_cons (ze_var (pv 1)) (za_cons (ze_var (pv 2)) za_nil))) (len_cons (len_cons (len_cons len_nil)))))))
theorem bi__law_pic_right (Fu : FunD K d__law_pic_right.name d__law_pic_right.qual d__law_pic_right.params d__law_pic_right.body d__law_pic_right.scope [] [] f fd) : Binds K fd ["box", "rooms", "pic"] [] := Fu.bindsN fun _ _ _ _ _ _ us hl => match us, hl with | [_, _, _], _ => rfl
theorem ok__law_pic_right (Fu : FunD K d__law_pic_right.name d__law_pic_right.qual d__law_pic_right.params d__law_pic_right.body d__law_pic_right.scope [] [] f fd) (k__law_rows_to : CalZ P w K mg base 4 "_law_rows_to" 2 f__law_rows_to) (k__law_spiral_right : CalZ P w K mg base 10 "_law_spiral_right" 5 f__law_spiral_right) (k__law_take : CalZ P w K mg base 1 "_law_take" 2 f__law_take) (k_sight_at : CalZ P w K mg base 4 "sight_at" 3 f_sight_at) (k_turns_between : CalZ P w K mg base 7 "turns_between" 3 f_turns_between) (m_all : mg "all" = none) (m_int : mg "int" = none) (m_isinstance : mg "isinstance" = none) (m_len : mg "len" = none) (m_range : mg "range" = none) (m_str : mg "str" = none) (m_tuple : mg "tuple" = none) : FnOk P w K mg base CX0 11 f fd ["box", "rooms", "pic"] (spZ K w 3 f__law_pic_right) :=
  okF (k := 10) (g := b__law_pic_right) Fu sc__law_pic_right rfl rfl (fun cdv A outer s H E E' hr =>
    have hu := hr.units
    have hu2 := u65 hr
    have hN := sc__law_pic_right.nd
    (zss_cons (zs_if (zt_val (ze_isi1 m_isinstance (ze_var (pv 2)) (pe_tyn m_str boot_str))) (zss_one (zs_ret ze_bl)) zss_nil)
    (zss_cons (zs_set (i := 3) hN rfl (by first | exact Or.inl rfl | exact Or.inr rfl) (ze_call k__law_rows_to hr (by omega) (za_cons (ze_var (pv 1)) (za_cons (ze_var (pv 2)) za_nil)) (len_cons (len_cons len_nil))))
    (zss_cons (zs_lc (i := 4) fin_l rfl hN rfl rfl rfl (zi_rng1 (by rfl) m_range (za_cons (ze_op op_mulZ os_mul ze_int (ze_bty cr_int bs_int m_int boot_int (za_cons (ze_cmp (op_neZ hu) os_ne (ze_var (pv 3)) (ze_lst za_nil len_nil) (nomark _)) za_nil))) za_nil)) (blkOk_by (own := [("k", 6)]) (by kernel_rfl)) (fun s H C cl fp => (zgw_name (i := 6) (pg_name hN rfl (by first | exact Or.inl rfl | exact Or.inr rfl)))) (fun s H C cl fp => zts_nil) (fun s H C cl fp => (ze_ix hu (ze_var (pv 3)) (ze_call k__law_take hr (by omega) (za_cons (ze_var (pv 0)) (za_cons (ze_blt cr_len bs_len m_len boot_len (za_cons (ze_var (pv 3)) za_nil)) za_nil)) (len_cons (len_cons len_nil))))))
    (zss_cons (zs_set (i := 5) hN rfl (by first | exact Or.inl rfl | exact Or.inr rfl) (ze_bty cr_tuple bs_tuple m_tuple boot_tuple (za_cons (ze_lc fin_l rfl hN (zi_rng1 (by rfl) m_range (za_cons (ze_op op_addZ os_add ze_int (ze_call k__law_take hr (by omega) (za_cons (ze_var (pv 0)) (za_cons ze_int za_nil)) (len_cons (len_cons len_nil)))) za_nil)) (blkOk_by (own := [("k", 6)]) (by kernel_rfl)) (fun s H C cl fp => (zgw_name (i := 6) (pg_name hN rfl (by first | exact Or.inl rfl | exact Or.inr rfl)))) (fun s H C cl fp => zts_nil) (fun s H C cl fp => (ze_call k__law_take hr (by omega) (za_cons (ze_var (pv 0)) (za_cons ze_int za_nil)) (len_cons (len_cons len_nil))))) za_nil)))
    (zss_cons (zs_set (i := 4) hN rfl (by first | exact Or.inl rfl | exact Or.inr rfl) (ze_op op_addZ os_add (ze_var (pv 4)) (ze_lc fin_l rfl hN (zi_val (ze_sl (ze_call k_turns_between hr (by omega) (za_cons (ze_var (pv 1)) (za_cons (ze_var (pv 2)) (za_cons (ze_call k_sight_at hr (by omega) (za_cons (ze_var (pv 1)) (za_cons (ze_var (pv 2)) (za_cons (ze_var (pv 5)) za_nil))) (len_cons (len_cons (len_cons len_nil)))) za_nil))) (len_cons (len_cons (len_cons len_nil)))) (zo_some (ze_neg ze_int)) zo_none)) (blkOk_by (own := [("tour", 7)]) (by kernel_rfl)) (fun s H C cl fp => (zgw_name (i := 7) (pg_name hN rfl (by first | exact Or.inl rfl | exact Or.inr rfl)))) (fun s H C cl fp => zts_nil) (fun s H C cl fp => (ze_tup (za_cons (ze_var (pv 5)) (za_cons (ze_var (pv 7)) za_nil)) (len_cons (len_cons len_nil)))))))
    (zss_one (zs_ret (ze_blt (cr_all rfl) bs_all m_all boot_all (za_cons (ze_lc fin_l rfl hN (zi_val (ze_var (pv 4))) (blkOk_by (own := [("path", 5), ("tour", 7)]) (by kernel_rfl)) (fun s H C cl fp => (zgw_tup rfl (zgsw_cons (zgw_name (i := 5) (pg_name hN rfl (by first | exact Or.inl rfl | exact Or.inr rfl))) (zgsw_cons (zgw_name (i := 7) (pg_name hN rfl (by first | exact Or.inl rfl | exact Or.inr rfl))) zgsw_nil)))) (fun s H C cl fp => zts_nil) (fun s H C cl fp => (ze_call k__law_spiral_right hr (by omega) (za_cons (ze_var (pv 0)) (za_cons (ze_var (pv 1)) (za_cons (ze_var (pv 2)) (za_cons (ze_var (pv 5)) (za_cons (ze_var (pv 7)) za_nil))))) (len_cons (len_cons (len_cons (len_cons (len_cons len_nil)))))))) za_nil))))))))))
theorem bi__law_right (Fu : FunD K d__law_right.name d__law_right.qual d__law_right.params d__law_right.body d__law_right.scope [] [] f fd) : Binds K fd ["box"] [] := Fu.bindsN fun _ _ _ _ _ _ us hl => match us, hl with | [_], _ => rfl
theorem ok__law_right (Fu : FunD K d__law_right.name d__law_right.qual d__law_right.params d__law_right.body d__law_right.scope [] [] f fd) (k__law_house : CalZ P w K mg base 3 "_law_house" 3 f__law_house) (k__law_names : CalZ P w K mg base 2 "_law_names" 2 f__law_names) (k__law_pic_right : CalZ P w K mg base 11 "_law_pic_right" 3 f__law_pic_right) (k__law_sight : CalZ P w K mg base 2 "_law_sight" 3 f__law_sight) (k__law_take : CalZ P w K mg base 1 "_law_take" 2 f__law_take) (m_all : mg "all" = none) (m_len : mg "len" = none) (m_range : mg "range" = none) (m_tuple : mg "tuple" = none) : FnOk P w K mg base CX0 12 f fd ["box"] (spZ K w 1 f__law_right) :=
  okF (k := 11) (g := b__law_right) Fu sc__law_right rfl rfl (fun cdv A outer s H E E' hr =>
    have hu := hr.units
    have hu2 := u65 hr
    have hN := sc__law_right.nd
    (zss_cons (zs_set (i := 1) hN rfl (by first | exact Or.inl rfl | exact Or.inr rfl) (ze_call k__law_names hr (by omega) (za_cons (ze_var (pv 0)) (za_cons ze_int za_nil)) (len_cons (len_cons len_nil))))
    (zss_cons (zs_set (i := 2) hN rfl (by first | exact Or.inl rfl | exact Or.inr rfl) (ze_call k__law_house hr (by omega) (za_cons (ze_var (pv 0)) (za_cons (ze_var (pv 1)) (za_cons ze_int za_nil))) (len_cons (len_cons (len_cons len_nil)))))
    (zss_cons (zs_set (i := 3) hN rfl (by first | exact Or.inl rfl | exact Or.inr rfl) (ze_blt cr_len bs_len m_len boot_len (za_cons (ze_var (pv 2)) za_nil)))
    (zss_cons (zs_set (i := 4) hN rfl (by first | exact Or.inl rfl | exact Or.inr rfl) (ze_lst (za_cons (ze_tup (za_cons (ze_var (pv 3)) (za_cons (ze_call k__law_take hr (by omega) (za_cons (ze_var (pv 0)) (za_cons ze_int za_nil)) (len_cons (len_cons len_nil))) za_nil)) (len_cons (len_cons len_nil))) (za_cons (ze_call k__law_sight hr (by omega) (za_cons (ze_var (pv 0)) (za_cons (ze_var (pv 1)) (za_cons (ze_var (pv 3)) za_nil))) (len_cons (len_cons (len_cons len_nil)))) (za_cons (ze_ix hu (ze_var (pv 1)) (ze_call k__law_take hr (by omega) (za_cons (ze_var (pv 0)) (za_cons ze_int za_nil)) (len_cons (len_cons len_nil)))) (za_cons (ze_ix hu (ze_var (pv 1)) ze_int) za_nil)))) (len_cons (len_cons (len_cons (len_cons len_nil))))))
    (zss_cons (zs_set (i := 5) hN rfl (by first | exact Or.inl rfl | exact Or.inr rfl) (ze_call k__law_take hr (by omega) (za_cons (ze_var (pv 0)) (za_cons ze_int za_nil)) (len_cons (len_cons len_nil))))
    (zss_cons (zs_set (i := 2) hN rfl (by first | exact Or.inl rfl | exact Or.inr rfl) (ze_op op_addZ os_add (ze_var (pv 2)) (ze_tup (za_cons (ze_bty cr_tuple bs_tuple m_tuple boot_tuple (za_cons (ze_op op_addZ os_add (ze_sl (ze_var (pv 4)) (zo_some (ze_var (pv 5))) zo_none) (ze_sl (ze_var (pv 4)) zo_none (zo_some (ze_var (pv 5))))) za_nil)) za_nil) (len_cons len_nil))))
    (zss_cons (zs_set (i := 6) hN rfl (by first | exact Or.inl rfl | exact Or.inr rfl) (ze_op op_addZ os_add (ze_lc fin_l rfl hN (zi_rng1 (by rfl) m_range (za_cons ze_int za_nil)) (blkOk_by (own := [("k", 7)]) (by kernel_rfl)) (fun s H C cl fp => (zgw_name (i := 7) (pg_name hN rfl (by first | exact Or.inl rfl | exact Or.inr rfl)))) (fun s H C cl fp => zts_nil) (fun s H C cl fp => (ze_call k__law_sight hr (by omega) (za_cons (ze_var (pv 0)) (za_cons (ze_var (pv 1)) (za_cons (ze_blt cr_len bs_len m_len boot_len (za_cons (ze_var (pv 2)) za_nil)) za_nil))) (len_cons (len_cons (len_cons len_nil)))))) (ze_lst (za_cons (ze_tup (za_cons (ze_var (pv 3)) (za_cons (ze_call k__law_take hr (by omega) (za_cons (ze_var (pv 0)) (za_cons ze_int za_nil)) (len_cons (len_cons len_nil))) za_nil)) (len_cons (len_cons len_nil))) za_nil) (len_cons len_nil))))
    (zss_one (zs_ret (ze_blt (cr_all rfl) bs_all m_all boot_all (za_cons (ze_lc fin_l rfl hN (zi_val (ze_var (pv 6))) (blkOk_by (own := [("pic", 8)]) (by kernel_rfl)) (fun s H C cl fp => (zgw_name (i := 8) (pg_name hN rfl (by first | exact Or.inl rfl | exact Or.inr rfl)))) (fun s H C cl fp => zts_nil) (fun s H C cl fp => (ze_call k__law_pic_right hr (by omega) (za_cons (ze_var (pv 0)) (za_cons (ze_var (pv 2)) (za_cons (ze_var (pv 8)) za_nil))) (len_cons (len_cons (len_cons len_nil)))))) za_nil))))))))))))
theorem bi_law (Fu : FunD K d_law.name d_law.qual d_law.params d_law.body d_law.scope [] [] f fd) : Binds K fd ["script"] [] := Fu.bindsN fun _ _ _ _ _ _ us hl => match us, hl with | [_], _ => rfl
theorem ok_law (Fu : FunD K d_law.name d_law.qual d_law.params d_law.body d_law.scope [] [] f fd) (k__law_box : CalZ P w K mg base 1 "_law_box" 2 f__law_box) (k__law_cells : CalZ P w K mg base 1 "_law_cells" 2 f__law_cells) (k__law_right : CalZ P w K mg base 12 "_law_right" 1 f__law_right) (m_all : mg "all" = none) (m_len : mg "len" = none) (m_range : mg "range" = none) : FnOk P w K mg base CX0 13 f fd ["script"] (spZ K w 1 f_law) :=
  okF (k := 12) (g := b_law) Fu sc_law rfl rfl (fun cdv A outer s H E E' hr =>
    have hu := hr.units
    have hu2 := u65 hr
    have hN := sc_law.nd
    (zss_cons (zs_set (i := 1) hN rfl (by first | exact Or.inl rfl | exact Or.inr rfl) (ze_call k__law_cells hr (by omega) (za_cons (ze_var (pv 0)) (za_cons ze_int za_nil)) (len_cons (len_cons len_nil))))
    (zss_one (zs_ret (ze_blt (cr_all rfl) bs_all m_all boot_all (za_cons (ze_lc fin_l rfl hN (zi_rng1 (by rfl) m_range (za_cons (ze_blt cr_len bs_len m_len boot_len (za_cons (ze_var (pv 1)) za_nil)) za_nil)) (blkOk_by (own := [("k", 2)]) (by kernel_rfl)) (fun s H C cl fp => (zgw_name (i := 2) (pg_name hN rfl (by first | exact Or.inl rfl | exact Or.inr rfl)))) (fun s H C cl fp => zts_nil) (fun s H C cl fp => (ze_call k__law_right hr (by omega) (za_cons (ze_call k__law_box hr (by omega) (za_cons (ze_var (pv 1)) (za_cons (ze_var (pv 2)) za_nil)) (len_cons (len_cons len_nil))) za_nil) (len_cons len_nil)))) za_nil))))))
end
def fn : List He.DefD := [d__law_box, d__law_cells, d__law_seen, d__law_take, d__law_sight, d__law_then, d__law_turned, d__law_house, d__law_names, d__law_quarter, d_behind, d_back, d__law_rows_to, d__law_same, d_Marks_many, d_Marks_mark, d_Marks_parted_once, d_Marks_part_on, d_shown, d_turned, d_quarter_of, d_quarters_of, d_one_of, d_wholes_of, d_Marks_init, d_alike, d_sight_at, d_colour_at, d_power, d_whole_by, d_rows_of, d_drawn, d_row_seen, d_whole_of, d__law_spiral_right, d_turns_by, d_turns_between, d__law_pic_right, d__law_right, d_law]
def cs : List (Str × D) := [("SHOWN", c_SHOWN), ("QUARTERS", c_QUARTERS)]
def fa : List He.Fa := [.free "abs", .free "int", .glo "_law_box", .free "enumerate", .free "list", .glo "_law_cells", .free "range", .glo "_law_seen", .glo "_law_take", .free "len", .glo "_law_sight", .glo "_law_then", .free "isinstance", .free "str", .glo "_law_turned", .free "tuple", .glo "_law_house", .glo "_law_names", .glo "_law_quarter", .glo "behind", .glo "back", .glo "_law_rows_to", .free "all", .free "bool", .free "zip", .glo "_law_same", .cls "Marks", .noat "Marks" "own_looks", .noat "Marks" "own_marks", .meth "Marks" "many", .noat "Marks" "own_wholes", .meth "Marks" "mark", .noat "Marks" "own_fours", .meth "Marks" "parted_once", .meth "Marks" "part_on", .glo "shown", .glo "turned", .glo "quarter_of", .glo "quarters_of", .glo "one_of", .glo "wholes_of", .noat "Marks" "own_house", .mkr "Marks", .glo "Marks", .glo "alike", .glo "sight_at", .glo "colour_at", .glo "power", .glo "whole_by", .glo "rows_of", .glo "drawn", .glo "row_seen", .glo "whole_of", .free "repr", .glo "_law_spiral_right", .glo "turns_by", .glo "turns_between", .glo "_law_pic_right", .glo "_law_right", .glo "law"]
def ls0 : List Str := ["SHOWN", "QUARTERS", "__name__", "shown", "behind", "back", "row_seen", "turned", "quarter_of", "quarters_of", "sight_at", "one_of", "wholes_of", "Marks", "alike", "whole_of", "power", "whole_by", "rows_of", "drawn", "turns_by", "turns_between", "colour_at", "_law_box", "_law_take", "_law_cells", "_law_same", "_law_names", "_law_seen", "_law_then"]
def ls1 : List Str := ["_law_turned", "_law_quarter", "_law_sight", "_law_house", "_law_rows_to", "_law_spiral_right", "_law_pic_right", "_law_right"]
def loose : List Str := ls0 ++ ls1
abbrev R : PySem.W.OpenRow := PySem.W.OpenLaw.row PySem.Challenge.rw_wellpanes_k80_whole_spirals
abbrev hk : PySem.W.Hook := hookZ 6 fa fn cs
def ob (s : PySem.W.SharedT) : AlZ := obsZG 6 fa fn cs (HandSHeadRun.getT s)
theorem ob_eq (s : PySem.W.SharedT) : ob s = hk.obs s.abs := obsZG_eq (HandSHeadRun.getT_eq s)
theorem facts {P : Program} {w : World} {K : PySem.W.Frag} {h : Heap} {mg : Str → Option Value} {f : Addr} (X : K.In h) (G : h.Ns mainGlobals mg) (hfa : mg ("law" : Str) = some (.ref f)) (c : SaysZ fa fn cs K) :
    ∃ fd : FuncData, (∀ (s : Shared) (v : Value), BindsTo s fd ⟨[v], []⟩ [("script", v)]) ∧ ∀ base : Heap, K.In base → base.Ns mainGlobals mg → FnOk P w K mg base CX0 13 f fd ["script"] (spZ K w 1 f_law) := by
  obtain ⟨fd__law_box, F__law_box⟩ := c.1.def_ 0 (d := d__law_box) rfl
  obtain ⟨fd__law_cells, F__law_cells⟩ := c.1.def_ 1 (d := d__law_cells) rfl
  obtain ⟨fd__law_seen, F__law_seen⟩ := c.1.def_ 2 (d := d__law_seen) rfl
  obtain ⟨fd__law_take, F__law_take⟩ := c.1.def_ 3 (d := d__law_take) rfl
  obtain ⟨fd__law_sight, F__law_sight⟩ := c.1.def_ 4 (d := d__law_sight) rfl
  obtain ⟨fd__law_then, F__law_then⟩ := c.1.def_ 5 (d := d__law_then) rfl
  obtain ⟨fd__law_turned, F__law_turned⟩ := c.1.def_ 6 (d := d__law_turned) rfl
  obtain ⟨fd__law_house, F__law_house⟩ := c.1.def_ 7 (d := d__law_house) rfl
  obtain ⟨fd__law_names, F__law_names⟩ := c.1.def_ 8 (d := d__law_names) rfl
  obtain ⟨fd__law_quarter, F__law_quarter⟩ := c.1.def_ 9 (d := d__law_quarter) rfl
  obtain ⟨fd_behind, F_behind⟩ := c.1.def_ 10 (d := d_behind) rfl
  obtain ⟨fd_back, F_back⟩ := c.1.def_ 11 (d := d_back) rfl
  obtain ⟨fd__law_rows_to, F__law_rows_to⟩ := c.1.def_ 12 (d := d__law_rows_to) rfl
  obtain ⟨fd__law_same, F__law_same⟩ := c.1.def_ 13 (d := d__law_same) rfl
  obtain ⟨fd_Marks_many, F_Marks_many⟩ := c.1.def_ 14 (d := d_Marks_many) rfl
  obtain ⟨fd_Marks_mark, F_Marks_mark⟩ := c.1.def_ 15 (d := d_Marks_mark) rfl
  obtain ⟨fd_Marks_parted_once, F_Marks_parted_once⟩ := c.1.def_ 16 (d := d_Marks_parted_once) rfl
  obtain ⟨fd_Marks_part_on, F_Marks_part_on⟩ := c.1.def_ 17 (d := d_Marks_part_on) rfl
  obtain ⟨fd_shown, F_shown⟩ := c.1.def_ 18 (d := d_shown) rfl
  obtain ⟨fd_turned, F_turned⟩ := c.1.def_ 19 (d := d_turned) rfl
  obtain ⟨fd_quarter_of, F_quarter_of⟩ := c.1.def_ 20 (d := d_quarter_of) rfl
  obtain ⟨fd_quarters_of, F_quarters_of⟩ := c.1.def_ 21 (d := d_quarters_of) rfl
  obtain ⟨fd_one_of, F_one_of⟩ := c.1.def_ 22 (d := d_one_of) rfl
  obtain ⟨fd_wholes_of, F_wholes_of⟩ := c.1.def_ 23 (d := d_wholes_of) rfl
  obtain ⟨fd_Marks_init, F_Marks_init⟩ := c.1.def_ 24 (d := d_Marks_init) rfl
  obtain ⟨fd_alike, F_alike⟩ := c.1.def_ 25 (d := d_alike) rfl
  obtain ⟨fd_sight_at, F_sight_at⟩ := c.1.def_ 26 (d := d_sight_at) rfl
  obtain ⟨fd_colour_at, F_colour_at⟩ := c.1.def_ 27 (d := d_colour_at) rfl
  obtain ⟨fd_power, F_power⟩ := c.1.def_ 28 (d := d_power) rfl
  obtain ⟨fd_whole_by, F_whole_by⟩ := c.1.def_ 29 (d := d_whole_by) rfl
  obtain ⟨fd_rows_of, F_rows_of⟩ := c.1.def_ 30 (d := d_rows_of) rfl
  obtain ⟨fd_drawn, F_drawn⟩ := c.1.def_ 31 (d := d_drawn) rfl
  obtain ⟨fd_row_seen, F_row_seen⟩ := c.1.def_ 32 (d := d_row_seen) rfl
  obtain ⟨fd_whole_of, F_whole_of⟩ := c.1.def_ 33 (d := d_whole_of) rfl
  obtain ⟨fd__law_spiral_right, F__law_spiral_right⟩ := c.1.def_ 34 (d := d__law_spiral_right) rfl
  obtain ⟨fd_turns_by, F_turns_by⟩ := c.1.def_ 35 (d := d_turns_by) rfl
  obtain ⟨fd_turns_between, F_turns_between⟩ := c.1.def_ 36 (d := d_turns_between) rfl
  obtain ⟨fd__law_pic_right, F__law_pic_right⟩ := c.1.def_ 37 (d := d__law_pic_right) rfl
  obtain ⟨fd__law_right, F__law_right⟩ := c.1.def_ 38 (d := d__law_right) rfl
  obtain ⟨fd_law, F_law⟩ := c.1.def_ 39 (d := d_law) rfl
  have e := hfa.symm.trans (He.glo_ok X G (c.1.fact 59 (f := .glo "law") rfl))
  cases e
  have b := FunD.bindsA (ps := ["script"]) F_law fun _ _ _ _ _ _ us hl => match us, hl with | [_], _ => rfl
  refine ⟨fd_law, fun s v => b s [v] rfl, fun base _ _ => ?_⟩
  have m_abs : mg "abs" = none := He.free_ok X G (c.1.fact 0 (f := .free "abs") rfl)
  have m_int : mg "int" = none := He.free_ok X G (c.1.fact 1 (f := .free "int") rfl)
  have k__law_box : CalZ P w K mg base 1 "_law_box" 2 f__law_box := calZ F__law_box (He.glo_ok X G (c.1.fact 2 (f := .glo "_law_box") rfl)) (bi__law_box F__law_box) (ok__law_box F__law_box m_abs m_int)
  have m_enumerate : mg "enumerate" = none := He.free_ok X G (c.1.fact 3 (f := .free "enumerate") rfl)
  have m_list : mg "list" = none := He.free_ok X G (c.1.fact 4 (f := .free "list") rfl)
  have k__law_cells : CalZ P w K mg base 1 "_law_cells" 2 f__law_cells := calZ F__law_cells (He.glo_ok X G (c.1.fact 5 (f := .glo "_law_cells") rfl)) (bi__law_cells F__law_cells) (ok__law_cells F__law_cells m_enumerate m_list)
  have m_range : mg "range" = none := He.free_ok X G (c.1.fact 6 (f := .free "range") rfl)
  have k__law_seen : CalZ P w K mg base 1 "_law_seen" 2 f__law_seen := calZ F__law_seen (He.glo_ok X G (c.1.fact 7 (f := .glo "_law_seen") rfl)) (bi__law_seen F__law_seen) (ok__law_seen F__law_seen m_range)
  have k__law_take : CalZ P w K mg base 1 "_law_take" 2 f__law_take := calZ F__law_take (He.glo_ok X G (c.1.fact 8 (f := .glo "_law_take") rfl)) (bi__law_take F__law_take) (ok__law_take F__law_take )
  have m_len : mg "len" = none := He.free_ok X G (c.1.fact 9 (f := .free "len") rfl)
  have k__law_sight : CalZ P w K mg base 2 "_law_sight" 3 f__law_sight := calZ F__law_sight (He.glo_ok X G (c.1.fact 10 (f := .glo "_law_sight") rfl)) (bi__law_sight F__law_sight) (ok__law_sight F__law_sight k__law_take m_len)
  have k__law_then : CalZ P w K mg base 1 "_law_then" 2 f__law_then := calZ F__law_then (He.glo_ok X G (c.1.fact 11 (f := .glo "_law_then") rfl)) (bi__law_then F__law_then) (ok__law_then F__law_then )
  have m_isinstance : mg "isinstance" = none := He.free_ok X G (c.1.fact 12 (f := .free "isinstance") rfl)
  have m_str : mg "str" = none := He.free_ok X G (c.1.fact 13 (f := .free "str") rfl)
  have k__law_turned : CalZ P w K mg base 2 "_law_turned" 2 f__law_turned := calZ F__law_turned (He.glo_ok X G (c.1.fact 14 (f := .glo "_law_turned") rfl)) (bi__law_turned F__law_turned) (ok__law_turned F__law_turned k__law_then m_isinstance m_str)
  have m_tuple : mg "tuple" = none := He.free_ok X G (c.1.fact 15 (f := .free "tuple") rfl)
  have k__law_house : CalZ P w K mg base 3 "_law_house" 3 f__law_house := calZ F__law_house (He.glo_ok X G (c.1.fact 16 (f := .glo "_law_house") rfl)) (bi__law_house F__law_house) (ok__law_house F__law_house k__law_seen k__law_sight k__law_take k__law_turned m_len m_range m_tuple)
  have k__law_names : CalZ P w K mg base 2 "_law_names" 2 f__law_names := calZ F__law_names (He.glo_ok X G (c.1.fact 17 (f := .glo "_law_names") rfl)) (bi__law_names F__law_names) (ok__law_names F__law_names k__law_take m_range)
  have k__law_quarter : CalZ P w K mg base 3 "_law_quarter" 3 f__law_quarter := calZ F__law_quarter (He.glo_ok X G (c.1.fact 18 (f := .glo "_law_quarter") rfl)) (bi__law_quarter F__law_quarter) (ok__law_quarter F__law_quarter k__law_seen k__law_turned m_isinstance m_str)
  have k_QUARTERS : ConZ mg K w "QUARTERS" c_QUARTERS := conZ_ok X G (c.con 1 rfl)
  have k_behind : CalZ P w K mg base 1 "behind" 2 f_behind := calZ F_behind (He.glo_ok X G (c.1.fact 19 (f := .glo "behind") rfl)) (bi_behind F_behind) (ok_behind F_behind k_QUARTERS m_int)
  have k_SHOWN : ConZ mg K w "SHOWN" c_SHOWN := conZ_ok X G (c.con 0 rfl)
  have k_back : CalZ P w K mg base 2 "back" 1 f_back := calZ F_back (He.glo_ok X G (c.1.fact 20 (f := .glo "back") rfl)) (bi_back F_back) (ok_back F_back k_SHOWN k_behind m_len m_range)
  have k__law_rows_to : CalZ P w K mg base 4 "_law_rows_to" 2 f__law_rows_to := calZ F__law_rows_to (He.glo_ok X G (c.1.fact 21 (f := .glo "_law_rows_to") rfl)) (bi__law_rows_to F__law_rows_to) (ok__law_rows_to F__law_rows_to k__law_quarter k_back k_behind m_isinstance m_range m_str)
  have m_all : mg "all" = none := He.free_ok X G (c.1.fact 22 (f := .free "all") rfl)
  have m_bool : mg "bool" = none := He.free_ok X G (c.1.fact 23 (f := .free "bool") rfl)
  have m_zip : mg "zip" = none := He.free_ok X G (c.1.fact 24 (f := .free "zip") rfl)
  have k__law_same : CalZ P w K mg base 4 "_law_same" 2 (f__law_same 4) := ok__law_same F__law_same (He.glo_ok X G (c.1.fact 25 (f := .glo "_law_same") rfl)) m_all m_bool m_int m_isinstance m_len m_list m_str m_tuple m_zip 4
  have k_cls_Marks := He.cls_ok (c.1.fact 26 (f := .cls "Marks") rfl)
  have k_na_Marks_own_looks := He.noat_ok (c.1.fact 27 (f := .noat "Marks" "own_looks") rfl)
  have k_na_Marks_own_marks := He.noat_ok (c.1.fact 28 (f := .noat "Marks" "own_marks") rfl)
  have k_Marks_many : MetZ P w K mg base 1 "Marks" "many" 1 f_Marks_many := ⟨_, fd_Marks_many, _, k_cls_Marks, He.meth_ok (c.1.fact 29 (f := .meth "Marks" "many") rfl), ok_Marks_many F_Marks_many k_cls_Marks k_na_Marks_own_looks k_na_Marks_own_marks m_len, bi_Marks_many F_Marks_many⟩
  have k_na_Marks_own_wholes := He.noat_ok (c.1.fact 30 (f := .noat "Marks" "own_wholes") rfl)
  have k_Marks_mark : MetZ P w K mg base 1 "Marks" "mark" 2 f_Marks_mark := ⟨_, fd_Marks_mark, _, k_cls_Marks, He.meth_ok (c.1.fact 31 (f := .meth "Marks" "mark") rfl), ok_Marks_mark F_Marks_mark k_cls_Marks k_na_Marks_own_marks k_na_Marks_own_wholes m_isinstance m_str, bi_Marks_mark F_Marks_mark⟩
  have k_na_Marks_own_fours := He.noat_ok (c.1.fact 32 (f := .noat "Marks" "own_fours") rfl)
  have k_Marks_parted_once : MetZ P w K mg base 2 "Marks" "parted_once" 1 f_Marks_parted_once := ⟨_, fd_Marks_parted_once, _, k_cls_Marks, He.meth_ok (c.1.fact 33 (f := .meth "Marks" "parted_once") rfl), ok_Marks_parted_once F_Marks_parted_once k_cls_Marks k_na_Marks_own_fours k_na_Marks_own_looks k_Marks_mark m_len m_tuple, bi_Marks_parted_once F_Marks_parted_once⟩
  have k_Marks_part_on : MetZ P w K mg base 3 "Marks" "part_on" 1 f_Marks_part_on := ⟨_, fd_Marks_part_on, _, k_cls_Marks, He.meth_ok (c.1.fact 34 (f := .meth "Marks" "part_on") rfl), ok_Marks_part_on F_Marks_part_on k_cls_Marks k_na_Marks_own_marks k_Marks_many k_Marks_parted_once, bi_Marks_part_on F_Marks_part_on⟩
  have k_shown : CalZ P w K mg base 1 "shown" 2 f_shown := calZ F_shown (He.glo_ok X G (c.1.fact 35 (f := .glo "shown") rfl)) (bi_shown F_shown) (ok_shown F_shown k_SHOWN)
  have k_turned : CalZ P w K mg base 2 "turned" 2 f_turned := calZ F_turned (He.glo_ok X G (c.1.fact 36 (f := .glo "turned") rfl)) (bi_turned F_turned) (ok_turned F_turned k_behind m_isinstance m_str)
  have k_quarter_of : CalZ P w K mg base 3 "quarter_of" 3 f_quarter_of := calZ F_quarter_of (He.glo_ok X G (c.1.fact 37 (f := .glo "quarter_of") rfl)) (bi_quarter_of F_quarter_of) (ok_quarter_of F_quarter_of k_shown k_turned m_isinstance m_str)
  have k_quarters_of : CalZ P w K mg base 4 "quarters_of" 2 f_quarters_of := calZ F_quarters_of (He.glo_ok X G (c.1.fact 38 (f := .glo "quarters_of") rfl)) (bi_quarters_of F_quarters_of) (ok_quarters_of F_quarters_of k_QUARTERS k_quarter_of m_range)
  have k_one_of : CalZ P w K mg base 1 "one_of" 1 f_one_of := calZ F_one_of (He.glo_ok X G (c.1.fact 39 (f := .glo "one_of") rfl)) (bi_one_of F_one_of) (ok_one_of F_one_of m_all)
  have k_wholes_of : CalZ P w K mg base 2 "wholes_of" 1 f_wholes_of := calZ F_wholes_of (He.glo_ok X G (c.1.fact 40 (f := .glo "wholes_of") rfl)) (bi_wholes_of F_wholes_of) (ok_wholes_of F_wholes_of k_one_of m_isinstance m_str)
  have k_na_Marks_own_house := He.noat_ok (c.1.fact 41 (f := .noat "Marks" "own_house") rfl)
  have k_mk_Marks : MakZ P w K mg base 5 "Marks" 2 f_Marks_init := ⟨_, fd_Marks_init, _, He.mkr_ok (c.1.fact 42 (f := .mkr "Marks") rfl), ok_Marks_init F_Marks_init k_SHOWN k_quarters_of k_wholes_of k_cls_Marks k_na_Marks_own_fours k_na_Marks_own_house k_na_Marks_own_looks k_na_Marks_own_marks k_na_Marks_own_wholes k_Marks_part_on m_enumerate m_len m_range, He.glo_ok X G (c.1.fact 43 (f := .glo "Marks") rfl), bi_Marks_init F_Marks_init⟩
  have k_alike : CalZ P w K mg base 7 "alike" 3 f_alike := calZ F_alike (He.glo_ok X G (c.1.fact 44 (f := .glo "alike") rfl)) (bi_alike F_alike) (ok_alike F_alike k_mk_Marks k_Marks_mark)
  have k_sight_at : CalZ P w K mg base 4 "sight_at" 3 f_sight_at := calZ F_sight_at (He.glo_ok X G (c.1.fact 45 (f := .glo "sight_at") rfl)) (bi_sight_at F_sight_at) (ok_sight_at F_sight_at k_quarter_of)
  have k_colour_at : CalZ P w K mg base 5 "colour_at" 3 f_colour_at := calZ F_colour_at (He.glo_ok X G (c.1.fact 46 (f := .glo "colour_at") rfl)) (bi_colour_at F_colour_at) (ok_colour_at F_colour_at k_sight_at m_isinstance m_str)
  have k_power : CalZ P w K mg base 1 "power" 2 f_power := calZ F_power (He.glo_ok X G (c.1.fact 47 (f := .glo "power") rfl)) (bi_power F_power) (ok_power F_power m_range)
  have k_whole_by : CalZ P w K mg base 1 "whole_by" 2 f_whole_by := calZ F_whole_by (He.glo_ok X G (c.1.fact 48 (f := .glo "whole_by") rfl)) (bi_whole_by F_whole_by) (ok_whole_by F_whole_by m_isinstance m_str)
  have k_rows_of : CalZ P w K mg base 8 "rows_of" 4 (f_rows_of 4) := ok_rows_of F_rows_of (He.glo_ok X G (c.1.fact 49 (f := .glo "rows_of") rfl)) k_power k_quarters_of k_whole_by m_isinstance m_range m_str m_zip 4
  have k_drawn : CalZ P w K mg base 9 "drawn" 3 f_drawn := calZ F_drawn (He.glo_ok X G (c.1.fact 50 (f := .glo "drawn") rfl)) (bi_drawn F_drawn) (ok_drawn F_drawn k_rows_of k_wholes_of)
  have k_row_seen : CalZ P w K mg base 2 "row_seen" 2 f_row_seen := calZ F_row_seen (He.glo_ok X G (c.1.fact 51 (f := .glo "row_seen") rfl)) (bi_row_seen F_row_seen) (ok_row_seen F_row_seen k_shown m_tuple)
  have k_whole_of : CalZ P w K mg base 7 "whole_of" 2 f_whole_of := calZ F_whole_of (He.glo_ok X G (c.1.fact 52 (f := .glo "whole_of") rfl)) (bi_whole_of F_whole_of) (ok_whole_of F_whole_of k_mk_Marks k_Marks_mark m_isinstance m_str)
  have m_repr : mg "repr" = none := He.free_ok X G (c.1.fact 53 (f := .free "repr") rfl)
  have k__law_spiral_right : CalZ P w K mg base 10 "_law_spiral_right" 5 f__law_spiral_right := calZ F__law_spiral_right (He.glo_ok X G (c.1.fact 54 (f := .glo "_law_spiral_right") rfl)) (bi__law_spiral_right F__law_spiral_right) (ok__law_spiral_right F__law_spiral_right k__law_same k__law_take k_alike k_back k_behind k_colour_at k_drawn k_row_seen k_sight_at k_turned k_whole_of m_range m_repr m_tuple)
  have k_turns_by : CalZ P w K mg base 3 "turns_by" 3 f_turns_by := calZ F_turns_by (He.glo_ok X G (c.1.fact 55 (f := .glo "turns_by") rfl)) (bi_turns_by F_turns_by) (ok_turns_by F_turns_by k_SHOWN k_turned k_Marks_mark m_len m_range)
  have k_turns_between : CalZ P w K mg base 7 "turns_between" 3 f_turns_between := calZ F_turns_between (He.glo_ok X G (c.1.fact 56 (f := .glo "turns_between") rfl)) (bi_turns_between F_turns_between) (ok_turns_between F_turns_between k_turns_by k_mk_Marks)
  have k__law_pic_right : CalZ P w K mg base 11 "_law_pic_right" 3 f__law_pic_right := calZ F__law_pic_right (He.glo_ok X G (c.1.fact 57 (f := .glo "_law_pic_right") rfl)) (bi__law_pic_right F__law_pic_right) (ok__law_pic_right F__law_pic_right k__law_rows_to k__law_spiral_right k__law_take k_sight_at k_turns_between m_all m_int m_isinstance m_len m_range m_str m_tuple)
  have k__law_right : CalZ P w K mg base 12 "_law_right" 1 f__law_right := calZ F__law_right (He.glo_ok X G (c.1.fact 58 (f := .glo "_law_right") rfl)) (bi__law_right F__law_right) (ok__law_right F__law_right k__law_house k__law_names k__law_pic_right k__law_sight k__law_take m_all m_len m_range m_tuple)
  exact ok_law F_law k__law_box k__law_cells k__law_right m_all m_len m_range
end L80
set_option Elab.async false
set_option linter.all false
set_option maxRecDepth 100000
set_option maxHeartbeats 4000000

/-! the head of k80 -/
namespace L80
open PySem PySem.Spec PyProof.Rows L2 Z Pg
theorem run (w : World) : HandSHeadRun.RunEq R (PySem.W.view R.prog [46]) hk ob 4000 loose w := by
  intro os
  kernel_rfl
end L80
open PySem PySem.W PySem.Calls PyProof.Rows
/-- the law, by what its function of plain data answers -/
theorem L80.holds (good : ∀ ns : List Int, ns.length ≤ 63 → ∃ S', Pg.f_law [.wl (ns.map Z.D.int)] [] = .val (.bl true) S') : PySem.Challenge.rw_wellpanes_k80_whole_spirals.Holds := by
  w_on; o_law
  refine HandSHeadRun.head_any (r := OpenLaw.row PySem.Challenge.rw_wellpanes_k80_whole_spirals) (q := view (OpenLaw.row PySem.Challenge.rw_wellpanes_k80_whole_spirals).prog [46]) (H := L80.hk) (ob := L80.ob) (M := 4000) (loose := L80.loose) (d := HandSHeadRun.topDef (OpenLaw.row PySem.Challenge.rw_wellpanes_k80_whole_spirals).prog 46) (kwd := []) L80.ob_eq
    (by kernel_rfl) (fun s => by kernel_rfl) L80.run (by kernel_rfl) (by kernel_rfl) (by kernel_rfl) (by rfl) (by first | assumption | decide +kernel) (by decide +kernel) ⟨rfl, rfl, rfl, rfl, rfl, by decide +kernel⟩ ?hw ?hc
  case hw => w_witness2
  case hc =>
    refine L2.walk_ofE (l := PySem.Challenge.rw_wellpanes_k80_whole_spirals) (n := 63) (k := 13) (x := "script") (CX := L2.CX0) rfl (by decide) (by kernel_rfl) ⟨rfl, by decide, by decide⟩ ?F (fun _ _ _ _ z => z)
    intro w mg fa h Y G hmg0
    obtain ⟨K, KX, c⟩ := Y
    have hmg : mg ("law" : PySem.Str) = some (.ref fa) := by
      have e : (HandSHeadRun.topDef (OpenLaw.row PySem.Challenge.rw_wellpanes_k80_whole_spirals).prog 46).name = ("law" : PySem.Str) := by kernel_rfl
      rw [← e]
      exact hmg0
    obtain ⟨fd, hb, hF⟩ := L80.facts (P := (PySem.Challenge.rw_wellpanes_k80_whole_spirals).prog) (w := w) KX G hmg c
    exact ⟨K, fd, Z.spZ K w 1 Pg.f_law, KX, hb, fun H a ns hl _ hS => Z.sp_end (good ns hl) hS, hF⟩
theorem PySem.Challenge.cw_wellpanes_k80_whole_spirals_holds : PySem.Challenge.rw_wellpanes_k80_whole_spirals.Holds :=
  L80.holds fun ns hl => L80.f_law_n hl
